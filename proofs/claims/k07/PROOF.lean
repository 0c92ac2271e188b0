import PyProof.Rows.All
import HandS.ForMost
import HandS.ForExc
import HandS.Walk
import HandS.SortInts
import HandS.Wide
import HandS.Deep
import HandS.TupAny
import HandS.Style
import HandS.NoneIn
import HandS.IsInst
import HandS.Conv
import HandS.More
import HandS.Zip
import PyProof.P3In
import HandS.Text
import HandS.ExcOwn
import HandS.Small
import HandS.TupSets
import HandS.WordsExc
import HandS.Ends
import Wide.All
import OpenK.AllK
import Wide.FinOn
import PySem.Challenge.RW_wallpeel_k07_fours_judged
set_option Elab.async false
set_option linter.all false
set_option maxRecDepth 100000
set_option maxHeartbeats 2000000
/-! VA: plain data, and what stands for it in the heap. -/
namespace VA
open PySem L2

/-- own: this frame's alone; sh: it may be known elsewhere, never changed again; scr: read only (the script, the written part) -/
inductive Fl where
  | own | sh | scr
  deriving DecidableEq, Repr

inductive D where
  | non | bl (b : Bool) | int (i : Int) | str (s : Str)
  | fn (k : Nat) | exc (c : Nat)
  | tup (xs : List D)
  | ktp (xs : List D)
  | lst (o : Fl) (xs : List D)
  | dic (o : Fl) (ks : List Key) (xs : List D)
  | dtt (o : Fl) (ks : List (List Key)) (xs : List D)

def Fl.sh' : Fl → Fl
  | .own => .sh
  | f => f

mutual
def D.shr : D → D
  | .tup xs => .tup (shrs xs)
  | .ktp xs => .ktp (shrs xs)
  | .lst o xs => .lst o.sh' (shrs xs)
  | .dic o ks xs => .dic o.sh' ks (shrs xs)
  | .dtt o ks xs => .dtt o.sh' ks (shrs xs)
  | .non => .non | .bl b => .bl b | .int i => .int i | .str s => .str s | .fn k => .fn k | .exc c => .exc c
def shrs : List D → List D
  | [] => []
  | x :: xs => x.shr :: shrs xs
end

theorem shrs_map : ∀ xs : List D, shrs xs = xs.map D.shr
  | [] => rfl
  | x :: xs => by rw [shrs, shrs_map xs]; rfl

theorem Fl.sh_sh (o : Fl) : o.sh'.sh' = o.sh' := by cases o <;> rfl
mutual
theorem D.shr_shr : ∀ d : D, d.shr.shr = d.shr
  | .non => rfl | .bl _ => rfl | .int _ => rfl | .str _ => rfl | .fn _ => rfl | .exc _ => rfl
  | .tup xs => by rw [D.shr, D.shr, shrs_shrs xs]
  | .ktp xs => by rw [D.shr, D.shr, shrs_shrs xs]
  | .lst o xs => by rw [D.shr, D.shr, shrs_shrs xs, Fl.sh_sh]
  | .dic o ks xs => by rw [D.shr, D.shr, shrs_shrs xs, Fl.sh_sh]
  | .dtt o ks xs => by rw [D.shr, D.shr, shrs_shrs xs, Fl.sh_sh]
theorem shrs_shrs : ∀ xs : List D, shrs (shrs xs) = shrs xs
  | [] => rfl
  | x :: xs => by rw [shrs, shrs, D.shr_shr x, shrs_shrs xs]
end
/-! has it a list or dict that is not its own -/
mutual
def D.fz : D → Bool
  | .tup xs => fzs xs
  | .ktp xs => fzs xs
  | .lst .sh _ => true
  | .lst _ xs => fzs xs
  | .dic .sh _ _ => true
  | .dic _ _ xs => fzs xs
  | .dtt .sh _ _ => true
  | .dtt _ _ xs => fzs xs
  | _ => false
def fzs : List D → Bool
  | [] => false
  | x :: xs => x.fz || fzs xs
end

/-- what the text's own functions and classes are -/
structure Tab where
  K : PySem.W.Frag
  fa : Nat → Addr
  ca : Nat → Addr

variable (B : Tab)

def ExO (cls : Value) (a : Addr) : HO := .ext fun h => ∃ (oe : Obj) (vs : Array Value), h.get? a = some oe ∧ Zc cls none oe ∧ oe.data = .fields vs

/-- a tuple of the written part -/
def KTup (K : PySem.W.Frag) (a : Addr) (xs : List V) : Prop := ∃ (o : Obj) (its : Array Value) (n : Nat), K.lookup a = some o ∧ o.cls = .type "tuple" ∧ o.data = .seq its n ∧ its.size ≤ sizeLine ∧ Vals xs its.toList
/-- the script: known to the object, or one of the written part's own -/
def SLst (K : PySem.W.Frag) (H : Hp) (a : Addr) (xs : List V) : Prop := (∃ o, H a = some (.frz o (.lst xs))) ∨
  ∃ (o : Obj) (its : Array Value) (n : Nat), K.lookup a = some o ∧ o.cls = .type "list" ∧ o.dict = none ∧ o.data = .seq its n ∧ its.size ≤ sizeLine ∧ Vals xs its.toList
theorem SLst.sql {K : PySem.W.Frag} {H : Hp} {a : Addr} {xs : List V} (h : SLst K H a xs) : SqL K H a xs := h.elim (fun h => .inl (.inr h)) .inr
mutual
/-- v stands for d in H; T: where lists may stand that are known elsewhere; F: the lists that are d's own -/
def Rep (H : Hp) (T : Addr → Prop) : D → V → List Addr → Prop
  | .non, v, F => v = .non ∧ F = []
  | .bl b, v, F => v = .bl b ∧ F = []
  | .int i, v, F => v = .int i ∧ F = []
  | .str s, v, F => v = .str s ∧ F = []
  | .fn k, v, F => v = .ref (B.fa k) ∧ F = []
  | .exc c, v, F => F = [] ∧ ∃ a, v = .ref a ∧ H a = some (ExO (.ref (B.ca c)) a)
  | .tup ds, v, F => ∃ a vs, v = .ref a ∧ H a = some (.tup vs) ∧ Reps H T ds vs F
  | .ktp ds, v, F => ∃ a vs, v = .ref a ∧ KTup B.K a vs ∧ Reps H T ds vs F
  | .lst .scr ds, v, F => F = [] ∧ ∃ a vs, v = .ref a ∧ SLst B.K H a vs ∧ Reps H T ds vs []
  | .lst .sh ds, v, F => F = [] ∧ ∃ a vs, v = .ref a ∧ H a = some (.lst vs) ∧ T a ∧ Reps H T ds vs []
  | .lst .own ds, v, F => ∃ a vs F1, v = .ref a ∧ H a = some (.lst vs) ∧ F = a :: F1 ∧ Reps H T ds vs F1
  | .dic .scr ks ds, v, F => False
  | .dic .sh ks ds, v, F => F = [] ∧ ∃ a vs, v = .ref a ∧ H a = some (.dK (ks.zip vs)) ∧ ks.length = vs.length ∧ T a ∧ Reps H T ds vs []
  | .dic .own ks ds, v, F => ∃ a vs F1, v = .ref a ∧ H a = some (.dK (ks.zip vs)) ∧ ks.length = vs.length ∧ F = a :: F1 ∧ Reps H T ds vs F1
  | .dtt .scr ks ds, v, F => False
  | .dtt .sh ks ds, v, F => F = [] ∧ ∃ a vs, v = .ref a ∧ H a = some (.dT (ks.zip vs)) ∧ ks.length = vs.length ∧ T a ∧ Reps H T ds vs []
  | .dtt .own ks ds, v, F => ∃ a vs F1, v = .ref a ∧ H a = some (.dT (ks.zip vs)) ∧ ks.length = vs.length ∧ F = a :: F1 ∧ Reps H T ds vs F1
def Reps (H : Hp) (T : Addr → Prop) : List D → List V → List Addr → Prop
  | [], vs, F => vs = [] ∧ F = []
  | d :: ds, vs, F => ∃ v vs' F1 F2, vs = v :: vs' ∧ F = F1 ++ F2 ∧ Rep H T d v F1 ∧ Reps H T ds vs' F2
end

/-- what may change -/
def MutO : HO → Prop
  | .lst _ => True
  | .dK _ => True
  | .dT _ => True
  | _ => False

/-- all but what is at G stands as it stood -/
def Fr (G : Addr → Prop) (H H' : Hp) : Prop := ∀ a o, H a = some o → (¬ G a ∨ ¬ MutO o) → H' a = some o

section
variable {B : Tab} {H H1 H2 : Hp} {T T' G : Addr → Prop}

theorem Fr.refl : Fr G H H := fun _ _ h _ => h
theorem Fr.trans (a : Fr G H H1) (b : Fr G H1 H2) : Fr G H H2 := fun x o h q => b x o (a x o h q) q

mutual
theorem Rep.fr (f : Fr G H H1) (hT : ∀ a, G a → ¬ T a) : ∀ (d : D) {v : V} {F : List Addr}, (∀ a ∈ F, ¬ G a) → Rep B H T d v F → Rep B H1 T d v F
  | .non, _, _, _, h => h
  | .bl _, _, _, _, h => h
  | .int _, _, _, _, h => h
  | .str _, _, _, _, h => h
  | .fn _, _, _, _, h => h
  | .exc c, _, _, _, ⟨e, a, ev, ha⟩ => ⟨e, a, ev, f _ _ ha (.inr id)⟩
  | .tup ds, _, _, hF, ⟨a, vs, e, hs, hr⟩ => ⟨a, vs, e, f _ _ hs (.inr id), Reps.fr f hT ds hF hr⟩
  | .ktp ds, _, _, hF, ⟨a, vs, e, hs, hr⟩ => ⟨a, vs, e, hs, Reps.fr f hT ds hF hr⟩
  | .lst .scr ds, _, _, hF, ⟨e, a, vs, ev, hs, hr⟩ => ⟨e, a, vs, ev, hs.imp_left fun ⟨o, h⟩ => ⟨o, f _ _ h (.inr id)⟩, Reps.fr f hT ds (fun _ h => nomatch h) hr⟩
  | .lst .sh ds, _, _, hF, ⟨e, a, vs, ev, hs, ha, hr⟩ => ⟨e, a, vs, ev, f _ _ hs (.inl fun g => hT a g ha), ha, Reps.fr f hT ds (fun _ h => nomatch h) hr⟩
  | .lst .own ds, _, _, hF, ⟨a, vs, F1, ev, hs, e, hr⟩ => ⟨a, vs, F1, ev, f _ _ hs (.inl (hF a (by rw [e]; exact List.mem_cons_self))), e, Reps.fr f hT ds (fun b h => hF b (by rw [e]; exact List.mem_cons_of_mem _ h)) hr⟩
  | .dic .scr _ _, _, _, _, h => h.elim
  | .dic .sh ks ds, _, _, hF, ⟨e, a, vs, ev, hs, hl, ha, hr⟩ => ⟨e, a, vs, ev, f _ _ hs (.inl fun g => hT a g ha), hl, ha, Reps.fr f hT ds (fun _ h => nomatch h) hr⟩
  | .dic .own ks ds, _, _, hF, ⟨a, vs, F1, ev, hs, hl, e, hr⟩ => ⟨a, vs, F1, ev, f _ _ hs (.inl (hF a (by rw [e]; exact List.mem_cons_self))), hl, e, Reps.fr f hT ds (fun b h => hF b (by rw [e]; exact List.mem_cons_of_mem _ h)) hr⟩
  | .dtt .scr _ _, _, _, _, h => h.elim
  | .dtt .sh ks ds, _, _, hF, ⟨e, a, vs, ev, hs, hl, ha, hr⟩ => ⟨e, a, vs, ev, f _ _ hs (.inl fun g => hT a g ha), hl, ha, Reps.fr f hT ds (fun _ h => nomatch h) hr⟩
  | .dtt .own ks ds, _, _, hF, ⟨a, vs, F1, ev, hs, hl, e, hr⟩ => ⟨a, vs, F1, ev, f _ _ hs (.inl (hF a (by rw [e]; exact List.mem_cons_self))), hl, e, Reps.fr f hT ds (fun b h => hF b (by rw [e]; exact List.mem_cons_of_mem _ h)) hr⟩
theorem Reps.fr (f : Fr G H H1) (hT : ∀ a, G a → ¬ T a) : ∀ (ds : List D) {vs : List V} {F : List Addr}, (∀ a ∈ F, ¬ G a) → Reps B H T ds vs F → Reps B H1 T ds vs F
  | [], _, _, _, h => h
  | d :: ds, _, _, hF, ⟨v, vs', F1, F2, ev, e, h1, h2⟩ =>
    ⟨v, vs', F1, F2, ev, e, Rep.fr f hT d (fun a h => hF a (by rw [e]; exact List.mem_append_left _ h)) h1, Reps.fr f hT ds (fun a h => hF a (by rw [e]; exact List.mem_append_right _ h)) h2⟩
end

mutual
theorem Rep.tmono (hT : ∀ a, T a → T' a) : ∀ (d : D) {v : V} {F : List Addr}, Rep B H T d v F → Rep B H T' d v F
  | .non, _, _, h => h
  | .bl _, _, _, h => h
  | .int _, _, _, h => h
  | .str _, _, _, h => h
  | .fn _, _, _, h => h
  | .exc c, _, _, h => h
  | .tup ds, _, _, ⟨a, vs, e, hs, hr⟩ => ⟨a, vs, e, hs, Reps.tmono hT ds hr⟩
  | .ktp ds, _, _, ⟨a, vs, e, hs, hr⟩ => ⟨a, vs, e, hs, Reps.tmono hT ds hr⟩
  | .lst .scr ds, _, _, ⟨e, a, vs, ev, hs, hr⟩ => ⟨e, a, vs, ev, hs, Reps.tmono hT ds hr⟩
  | .lst .sh ds, _, _, ⟨e, a, vs, ev, hs, ha, hr⟩ => ⟨e, a, vs, ev, hs, hT a ha, Reps.tmono hT ds hr⟩
  | .lst .own ds, _, _, ⟨a, vs, F1, ev, hs, e, hr⟩ => ⟨a, vs, F1, ev, hs, e, Reps.tmono hT ds hr⟩
  | .dic .scr _ _, _, _, h => h.elim
  | .dic .sh ks ds, _, _, ⟨e, a, vs, ev, hs, hl, ha, hr⟩ => ⟨e, a, vs, ev, hs, hl, hT a ha, Reps.tmono hT ds hr⟩
  | .dic .own ks ds, _, _, ⟨a, vs, F1, ev, hs, hl, e, hr⟩ => ⟨a, vs, F1, ev, hs, hl, e, Reps.tmono hT ds hr⟩
  | .dtt .scr _ _, _, _, h => h.elim
  | .dtt .sh ks ds, _, _, ⟨e, a, vs, ev, hs, hl, ha, hr⟩ => ⟨e, a, vs, ev, hs, hl, hT a ha, Reps.tmono hT ds hr⟩
  | .dtt .own ks ds, _, _, ⟨a, vs, F1, ev, hs, hl, e, hr⟩ => ⟨a, vs, F1, ev, hs, hl, e, Reps.tmono hT ds hr⟩
theorem Reps.tmono (hT : ∀ a, T a → T' a) : ∀ (ds : List D) {vs : List V} {F : List Addr}, Reps B H T ds vs F → Reps B H T' ds vs F
  | [], _, _, h => h
  | d :: ds, _, _, ⟨v, vs', F1, F2, ev, e, h1, h2⟩ => ⟨v, vs', F1, F2, ev, e, Rep.tmono hT d h1, Reps.tmono hT ds h2⟩
end
mutual
theorem Rep.nofz : ∀ (d : D) {v : V} {F : List Addr}, d.fz = false → Rep B H T d v F → Rep B H T' d v F
  | .non, _, _, _, h => h
  | .bl _, _, _, _, h => h
  | .int _, _, _, _, h => h
  | .str _, _, _, _, h => h
  | .fn _, _, _, _, h => h
  | .exc c, _, _, _, h => h
  | .tup ds, _, _, z, ⟨a, vs, e, hs, hr⟩ => ⟨a, vs, e, hs, Reps.nofz ds z hr⟩
  | .ktp ds, _, _, z, ⟨a, vs, e, hs, hr⟩ => ⟨a, vs, e, hs, Reps.nofz ds z hr⟩
  | .lst .scr ds, _, _, z, ⟨e, a, vs, ev, hs, hr⟩ => ⟨e, a, vs, ev, hs, Reps.nofz ds z hr⟩
  | .lst .sh ds, _, _, z, _ => by cases z
  | .lst .own ds, _, _, z, ⟨a, vs, F1, ev, hs, e, hr⟩ => ⟨a, vs, F1, ev, hs, e, Reps.nofz ds z hr⟩
  | .dic .scr _ _, _, _, _, h => h.elim
  | .dic .sh ks ds, _, _, z, _ => by cases z
  | .dic .own ks ds, _, _, z, ⟨a, vs, F1, ev, hs, hl, e, hr⟩ => ⟨a, vs, F1, ev, hs, hl, e, Reps.nofz ds z hr⟩
  | .dtt .scr _ _, _, _, _, h => h.elim
  | .dtt .sh ks ds, _, _, z, _ => by cases z
  | .dtt .own ks ds, _, _, z, ⟨a, vs, F1, ev, hs, hl, e, hr⟩ => ⟨a, vs, F1, ev, hs, hl, e, Reps.nofz ds z hr⟩
theorem Reps.nofz : ∀ (ds : List D) {vs : List V} {F : List Addr}, fzs ds = false → Reps B H T ds vs F → Reps B H T' ds vs F
  | [], _, _, _, h => h
  | d :: ds, _, _, z, ⟨v, vs', F1, F2, ev, e, h1, h2⟩ => by
    rw [fzs, Bool.or_eq_false_iff] at z
    exact ⟨v, vs', F1, F2, ev, e, Rep.nofz d z.1 h1, Reps.nofz ds z.2 h2⟩
end
mutual
theorem Rep.shr : ∀ (d : D) {v : V} {F : List Addr}, (∀ a, T a → T' a) → (∀ a ∈ F, T' a) → Rep B H T d v F → Rep B H T' d.shr v []
  | .non, _, _, _, _, h => ⟨h.1, rfl⟩
  | .bl _, _, _, _, _, h => ⟨h.1, rfl⟩
  | .int _, _, _, _, _, h => ⟨h.1, rfl⟩
  | .str _, _, _, _, _, h => ⟨h.1, rfl⟩
  | .fn _, _, _, _, _, h => ⟨h.1, rfl⟩
  | .exc c, _, _, _, _, h => ⟨rfl, h.2⟩
  | .tup ds, _, _, hT, hF, ⟨a, vs, e, hs, hr⟩ => ⟨a, vs, e, hs, Reps.shr ds hT hF hr⟩
  | .ktp ds, _, _, hT, hF, ⟨a, vs, e, hs, hr⟩ => ⟨a, vs, e, hs, Reps.shr ds hT hF hr⟩
  | .lst .scr ds, _, _, hT, hF, ⟨e, a, vs, ev, hs, hr⟩ => ⟨rfl, a, vs, ev, hs, Reps.shr (F := []) ds hT (fun _ h => nomatch h) hr⟩
  | .lst .sh ds, _, _, hT, hF, ⟨e, a, vs, ev, hs, ha, hr⟩ => ⟨rfl, a, vs, ev, hs, hT a ha, Reps.shr (F := []) ds hT (fun _ h => nomatch h) hr⟩
  | .lst .own ds, _, _, hT, hF, ⟨a, vs, F1, ev, hs, e, hr⟩ => ⟨rfl, a, vs, ev, hs, hF a (by rw [e]; exact List.mem_cons_self), Reps.shr ds hT (fun b h => hF b (by rw [e]; exact List.mem_cons_of_mem _ h)) hr⟩
  | .dic .scr _ _, _, _, _, _, h => h.elim
  | .dic .sh ks ds, _, _, hT, hF, ⟨e, a, vs, ev, hs, hl, ha, hr⟩ => ⟨rfl, a, vs, ev, hs, hl, hT a ha, Reps.shr (F := []) ds hT (fun _ h => nomatch h) hr⟩
  | .dic .own ks ds, _, _, hT, hF, ⟨a, vs, F1, ev, hs, hl, e, hr⟩ => ⟨rfl, a, vs, ev, hs, hl, hF a (by rw [e]; exact List.mem_cons_self), Reps.shr ds hT (fun b h => hF b (by rw [e]; exact List.mem_cons_of_mem _ h)) hr⟩
  | .dtt .scr _ _, _, _, _, _, h => h.elim
  | .dtt .sh ks ds, _, _, hT, hF, ⟨e, a, vs, ev, hs, hl, ha, hr⟩ => ⟨rfl, a, vs, ev, hs, hl, hT a ha, Reps.shr (F := []) ds hT (fun _ h => nomatch h) hr⟩
  | .dtt .own ks ds, _, _, hT, hF, ⟨a, vs, F1, ev, hs, hl, e, hr⟩ => ⟨rfl, a, vs, ev, hs, hl, hF a (by rw [e]; exact List.mem_cons_self), Reps.shr ds hT (fun b h => hF b (by rw [e]; exact List.mem_cons_of_mem _ h)) hr⟩
theorem Reps.shr : ∀ (ds : List D) {vs : List V} {F : List Addr}, (∀ a, T a → T' a) → (∀ a ∈ F, T' a) → Reps B H T ds vs F → Reps B H T' (shrs ds) vs []
  | [], _, _, _, _, h => ⟨h.1, rfl⟩
  | d :: ds, _, _, hT, hF, ⟨v, vs', F1, F2, ev, e, h1, h2⟩ =>
    ⟨v, vs', [], [], ev, rfl, Rep.shr d hT (fun a h => hF a (by rw [e]; exact List.mem_append_left _ h)) h1, Reps.shr ds hT (fun a h => hF a (by rw [e]; exact List.mem_append_right _ h)) h2⟩
end
mutual
theorem Rep.there : ∀ (d : D) {v : V} {F : List Addr}, Rep B H T d v F → ∀ a ∈ F, ∃ o, H a = some o ∧ MutO o
  | .non, _, _, h => by rw [h.2]; exact fun _ z => nomatch z
  | .bl _, _, _, h => by rw [h.2]; exact fun _ z => nomatch z
  | .int _, _, _, h => by rw [h.2]; exact fun _ z => nomatch z
  | .str _, _, _, h => by rw [h.2]; exact fun _ z => nomatch z
  | .fn _, _, _, h => by rw [h.2]; exact fun _ z => nomatch z
  | .exc c, _, _, h => by rw [h.1]; exact fun _ z => nomatch z
  | .tup ds, _, _, ⟨a, vs, e, hs, hr⟩ => Reps.there ds hr
  | .ktp ds, _, _, ⟨a, vs, e, hs, hr⟩ => Reps.there ds hr
  | .lst .scr ds, _, _, h => by rw [h.1]; exact fun _ z => nomatch z
  | .lst .sh ds, _, _, h => by rw [h.1]; exact fun _ z => nomatch z
  | .lst .own ds, _, _, ⟨a, vs, F1, ev, hs, e, hr⟩ => fun b hb => by
    rw [e] at hb
    rcases List.mem_cons.mp hb with rfl | hb
    · exact ⟨_, hs, trivial⟩
    · exact Reps.there ds hr b hb
  | .dic .scr _ _, _, _, h => h.elim
  | .dic .sh ks ds, _, _, h => by rw [h.1]; exact fun _ z => nomatch z
  | .dic .own ks ds, _, _, ⟨a, vs, F1, ev, hs, hl, e, hr⟩ => fun b hb => by
    rw [e] at hb
    rcases List.mem_cons.mp hb with rfl | hb
    · exact ⟨_, hs, trivial⟩
    · exact Reps.there ds hr b hb
  | .dtt .scr _ _, _, _, h => h.elim
  | .dtt .sh ks ds, _, _, h => by rw [h.1]; exact fun _ z => nomatch z
  | .dtt .own ks ds, _, _, ⟨a, vs, F1, ev, hs, hl, e, hr⟩ => fun b hb => by
    rw [e] at hb
    rcases List.mem_cons.mp hb with rfl | hb
    · exact ⟨_, hs, trivial⟩
    · exact Reps.there ds hr b hb
theorem Reps.there : ∀ (ds : List D) {vs : List V} {F : List Addr}, Reps B H T ds vs F → ∀ a ∈ F, ∃ o, H a = some o ∧ MutO o
  | [], _, _, h => by rw [h.2]; exact fun _ z => nomatch z
  | d :: ds, _, _, ⟨v, vs', F1, F2, ev, e, h1, h2⟩ => fun b hb => by
    rw [e] at hb
    rcases List.mem_append.mp hb with hb | hb
    · exact Rep.there d h1 b hb
    · exact Reps.there ds h2 b hb
end

mutual
theorem Rep.shr_nil : ∀ (d : D) {v : V} {F : List Addr}, Rep B H T d.shr v F → F = []
  | .non, _, _, h => h.2
  | .bl _, _, _, h => h.2
  | .int _, _, _, h => h.2
  | .str _, _, _, h => h.2
  | .fn _, _, _, h => h.2
  | .exc c, _, _, h => h.1
  | .tup ds, _, _, ⟨a, vs, e, hs, hr⟩ => Reps.shr_nil ds hr
  | .ktp ds, _, _, ⟨a, vs, e, hs, hr⟩ => Reps.shr_nil ds hr
  | .lst .scr ds, _, _, h => h.1
  | .lst .sh ds, _, _, h => h.1
  | .lst .own ds, _, _, h => h.1
  | .dic .scr _ _, _, _, h => h.elim
  | .dic .sh ks ds, _, _, h => h.1
  | .dic .own ks ds, _, _, h => h.1
  | .dtt .scr _ _, _, _, h => h.elim
  | .dtt .sh ks ds, _, _, h => h.1
  | .dtt .own ks ds, _, _, h => h.1
theorem Reps.shr_nil : ∀ (ds : List D) {vs : List V} {F : List Addr}, Reps B H T (shrs ds) vs F → F = []
  | [], _, _, h => h.2
  | d :: ds, _, _, ⟨v, vs', F1, F2, ev, e, h1, h2⟩ => by rw [e, Rep.shr_nil d h1, Reps.shr_nil ds h2]; rfl
end
/-! ### lists of data -/
theorem Reps.len : ∀ {ds : List D} {vs : List V} {F : List Addr}, Reps B H T ds vs F → ds.length = vs.length
  | [], _, _, h => by rw [h.1]; rfl
  | d :: ds, _, _, ⟨v, vs', F1, F2, ev, e, h1, h2⟩ => by rw [ev, List.length_cons, List.length_cons, Reps.len h2]
/-- without own lists: place by place -/
theorem Reps.get : ∀ {ds : List D} {vs : List V} {i : Nat} {d : D}, Reps B H T ds vs [] → ds[i]? = some d → ∃ v, vs[i]? = some v ∧ Rep B H T d v []
  | [], _, _, _, _, h => by simp at h
  | x :: ds, _, 0, d, ⟨v, vs', F1, F2, ev, e, h1, h2⟩, h => by
    obtain ⟨rfl, rfl⟩ := List.append_eq_nil_iff.mp e.symm
    cases h
    rw [ev]
    exact ⟨v, rfl, h1⟩
  | x :: ds, _, i + 1, d, ⟨v, vs', F1, F2, ev, e, h1, h2⟩, h => by
    obtain ⟨rfl, rfl⟩ := List.append_eq_nil_iff.mp e.symm
    rw [ev]
    obtain ⟨u, hu, hr⟩ := Reps.get (i := i) h2 (by simpa using h)
    exact ⟨u, by simpa using hu, hr⟩
theorem Reps.of_get : ∀ {ds : List D} {vs : List V}, ds.length = vs.length → (∀ (i : Nat) (d : D) (v : V), ds[i]? = some d → vs[i]? = some v → Rep B H T d v []) → Reps B H T ds vs []
  | [], [], _, _ => ⟨rfl, rfl⟩
  | [], _ :: _, h, _ => by simp at h
  | _ :: _, [], h, _ => by simp at h
  | d :: ds, v :: vs, h, f => ⟨v, vs, [], [], rfl, rfl, f 0 d v rfl rfl, Reps.of_get (by simpa using h) fun i d v h1 h2 => f (i + 1) d v (by simpa using h1) (by simpa using h2)⟩
theorem Reps.app : ∀ {ds es : List D} {vs ws : List V} {F F' : List Addr}, Reps B H T ds vs F → Reps B H T es ws F' → Reps B H T (ds ++ es) (vs ++ ws) (F ++ F')
  | [], _, _, _, _, _, h, h' => by rw [h.1, h.2]; exact h'
  | d :: ds, _, _, _, _, _, ⟨v, vs', F1, F2, ev, e, h1, h2⟩, h' => by
    rw [ev, e]
    exact ⟨v, vs' ++ _, F1, F2 ++ _, rfl, List.append_assoc _ _ _, h1, Reps.app h2 h'⟩
theorem Reps.one {d : D} {v : V} {F : List Addr} (h : Rep B H T d v F) : Reps B H T [d] [v] F := ⟨v, [], F, [], rfl, by simp, h, rfl, rfl⟩
end
end VA


set_option Elab.async false
set_option linter.all false
set_option maxRecDepth 100000
set_option maxHeartbeats 2000000
/-! VB: expressions, told over plain data. -/
namespace VA
open PySem PySem.Spec L2
abbrev St := L2.St

/-- how a piece ends: with a value, with a refusal of the class c, or unknown to the evaluator -/
inductive R (α : Type) where
  | ok (a : α) | ex (c : Nat) | no
def R.bind {α β : Type} : R α → (α → R β) → R β
  | .ok a, f => f a
  | .ex c, _ => .ex c
  | .no, _ => .no
@[simp] theorem R.bind_ok {α β : Type} (a : α) (f : α → R β) : (R.ok a).bind f = f a := rfl
@[simp] theorem R.bind_ex {α β : Type} (c : Nat) (f : α → R β) : (R.ex c : R α).bind f = .ex c := rfl
@[simp] theorem R.bind_no {α β : Type} (f : α → R β) : (R.no : R α).bind f = .no := rfl

abbrev En := List (Option D)
/-- what the text's own functions and classes are -/
structure Inf where
  fa : Nat → Addr
  ca : Nat → Addr
  nm : Nat → Str
  cn : Nat → Str
  ps : Nat → List Str
  fd : Nat → FuncData
abbrev bOf (N : Inf) (X : Cx) : Tab := ⟨X.K, N.fa, N.ca⟩

abbrev none0 : Addr → Prop := fun _ => False
def TU (T : Addr → Prop) (F : List Addr) : Addr → Prop := fun a => T a ∨ a ∈ F

/-- T tells of nothing but what stands -/
def Th (H : Hp) (T : Addr → Prop) : Prop := ∀ a, T a → ∃ o, H a = some o
/-- from H with T to H' with T': what stood stands; the own lists of what has come are new -/
structure New (H : Hp) (T : Addr → Prop) (H' : Hp) (T' : Addr → Prop) (F : List Addr) : Prop where
  same : Same H H'
  le : ∀ a, T a → T' a
  new : ∀ a, T' a → T a ∨ H a = none
  nd : F.Nodup
  own : ∀ a ∈ F, H a = none ∧ ¬ T' a
  th : Th H' T'
  fth : ∀ a ∈ F, ∃ o, H' a = some o

section
variable {B : Tab} {H H1 H2 : Hp} {T T1 T2 : Addr → Prop} {F F1 F2 : List Addr}
theorem same_fr (s : Same H H1) : Fr none0 H H1 := fun a o h _ => s a o h
theorem Th.same (t : Th H T) (s : Same H H1) : Th H1 T := fun a h => let ⟨o, q⟩ := t a h; ⟨o, s a o q⟩
theorem Rep.same {d : D} {v : V} (s : Same H H1) (r : Rep B H T d v F) : Rep B H1 T d v F := Rep.fr (same_fr s) (fun _ h => h.elim) d (fun _ _ h => h) r
theorem Reps.same {ds : List D} {vs : List V} (s : Same H H1) (r : Reps B H T ds vs F) : Reps B H1 T ds vs F := Reps.fr (same_fr s) (fun _ h => h.elim) ds (fun _ _ h => h) r
theorem Rep.sh {d : D} {v : V} (r : Rep B H T d v F) : Rep B H (TU T F) d.shr v [] := Rep.shr d (fun _ h => .inl h) (fun _ h => .inr h) r
theorem Reps.sh {ds : List D} {vs : List V} (r : Reps B H T ds vs F) : Reps B H (TU T F) (shrs ds) vs [] := Reps.shr ds (fun _ h => .inl h) (fun _ h => .inr h) r
theorem New.refl (t : Th H T) : New H T H T [] := ⟨Same.refl H, fun _ h => h, fun _ h => .inl h, List.nodup_nil, fun _ h => (nomatch h), t, fun _ h => (nomatch h)⟩
/-- what is known elsewhere from now on -/
theorem New.share (n : New H T H1 T1 F) : New H T H1 (TU T1 F) [] :=
  ⟨n.same, fun a h => .inl (n.le a h), fun a h => h.elim (n.new a) fun z => .inr (n.own a z).1, List.nodup_nil, fun _ h => (nomatch h), fun a h => h.elim (n.th a) (n.fth a), fun _ h => (nomatch h)⟩
theorem New.trans (n : New H T H1 T1 []) (m : New H1 T1 H2 T2 F) : New H T H2 T2 F :=
  ⟨n.same.trans m.same, fun a h => m.le a (n.le a h), fun a h => (m.new a h).elim (n.new a) fun z => .inr (n.same.free z), m.nd, fun a h => ⟨n.same.free (m.own a h).1, (m.own a h).2⟩, m.th, m.fth⟩
theorem New.comp (n : New H T H1 T1 F1) (m : New H1 (TU T1 F1) H2 T2 F) : New H T H2 T2 F := n.share.trans m
theorem New.and (n : New H T H1 T1 F1) (m : New H1 T1 H2 T2 F2) : New H T H2 T2 (F1 ++ F2) := by
  refine ⟨n.same.trans m.same, fun a h => m.le a (n.le a h), fun a h => (m.new a h).elim (n.new a) fun z => .inr (n.same.free z), ?_, fun a h => ?_, m.th, fun a h => ?_⟩
  · refine List.nodup_append.mpr ⟨n.nd, m.nd, fun a ha b hb e => ?_⟩
    subst e
    obtain ⟨o, h⟩ := n.fth a ha
    rw [(m.own a hb).1] at h
    cases h
  · rcases List.mem_append.mp h with h | h
    · refine ⟨(n.own a h).1, fun t => ?_⟩
      rcases m.new a t with t | t
      · exact (n.own a h).2 t
      · obtain ⟨o, q⟩ := n.fth a h
        rw [t] at q
        cases q
    · exact ⟨n.same.free (m.own a h).1, (m.own a h).2⟩
  · rcases List.mem_append.mp h with h | h
    · obtain ⟨o, q⟩ := n.fth a h
      exact ⟨o, m.same a o q⟩
    · exact m.fth a h
theorem same_upd {p : Addr} {o : HO} (h : H p = none) : Same H (upd H p o) := fun a u e => by
  rw [upd_ne (ne_of_none e h)]
  exact e
theorem Th.not (t : Th H T) {p : Addr} (h : H p = none) : ¬ T p := fun q => by
  obtain ⟨o, z⟩ := t p q
  rw [h] at z
  cases z
/-- a new list, dict, the frame's own -/
theorem New.one {p : Addr} {o : HO} (t : Th H T) (h : H p = none) : New H T (upd H p o) T [p] :=
  ⟨same_upd h, fun _ h => h, fun _ h => .inl h, by simp, fun a ha => by
    have e : a = p := by simpa using ha
    subst e
    exact ⟨h, t.not h⟩, t.same (same_upd h), fun a ha => by
    have e : a = p := by simpa using ha
    subst e
    exact ⟨o, upd_same⟩⟩
theorem New.put {p : Addr} {o : HO} (t : Th H T) (h : H p = none) : New H T (upd H p o) T [] :=
  ⟨VA.same_upd h, fun _ h => h, fun _ h => .inl h, List.nodup_nil, fun _ h => (nomatch h), t.same (VA.same_upd h), fun _ h => (nomatch h)⟩
theorem New.perm (n : New H T H1 T1 F) (p : F.Perm F1) : New H T H1 T1 F1 :=
  ⟨n.same, n.le, n.new, p.nodup_iff.mp n.nd, fun a h => n.own a (p.mem_iff.mpr h), n.th, fun a h => n.fth a (p.mem_iff.mpr h)⟩
end

def EnvV (B : Tab) (Vs : List Nat) (H : Hp) (T : Addr → Prop) (σ : St) (env : En) : Prop := env.length = σ.length ∧ ∀ i ∈ Vs, ∀ d, env[i]? = some (some d) → ∃ v, σ[i]? = some (some v) ∧ Rep B H T d.shr v []
def PostE (B : Tab) (W : WX) (σ : St) (H : Hp) (T : Addr → Prop) (r : R D) (Q : VK) : Prop := match r with
  | .ok d => ∀ v H' T' F, New H T H' T' F → Rep B H' T' d v F → Q v H'
  | .ex c => ∀ H', Same H H' → W (.ref (B.ca c)) none σ H'
  | .no => False
def PostA (B : Tab) (W : WX) (σ : St) (H : Hp) (T : Addr → Prop) (r : R (List D)) (Q : List V → Hp → Prop) : Prop := match r with
  | .ok ds => ∀ vs H' T' F, New H T H' T' F → Reps B H' T' ds vs F → Q vs H'
  | .ex c => ∀ H', Same H H' → W (.ref (B.ca c)) none σ H'
  | .no => False
def PostT (B : Tab) (W : WX) (σ : St) (H : Hp) (r : R Bool) (Q : Bool → Hp → Prop) : Prop := match r with
  | .ok b => ∀ H', Same H H' → Q b H'
  | .ex c => ∀ H', Same H H' → W (.ref (B.ca c)) none σ H'
  | .no => False
def tE (B : Tab) (W : WX) (Vs : List Nat) (f : En → R D) : TE := fun σ H Q => ∃ T env, Th H T ∧ EnvV B Vs H T σ env ∧ PostE B W σ H T (f env) Q
def tA (B : Tab) (W : WX) (Vs : List Nat) (f : En → R (List D)) : TA := fun σ H Q => ∃ T env, Th H T ∧ EnvV B Vs H T σ env ∧ PostA B W σ H T (f env) Q
def tT (B : Tab) (W : WX) (Vs : List Nat) (f : En → R Bool) : TT := fun σ H Q => ∃ T env, Th H T ∧ EnvV B Vs H T σ env ∧ PostT B W σ H (f env) Q
def VE (N : Inf) (X : Cx) (W : WX) (Vs : List Nat) (e : Expr) (f : En → R D) : Prop := PE X e (tE (bOf N X) W Vs f)
def VAs (N : Inf) (X : Cx) (W : WX) (Vs : List Nat) (es : List Expr) (f : En → R (List D)) : Prop := PA X es (tA (bOf N X) W Vs f)
def VT (N : Inf) (X : Cx) (W : WX) (Vs : List Nat) (e : Expr) (f : En → R Bool) : Prop := PT X e (tT (bOf N X) W Vs f)

theorem pe_mono {X : Cx} {e : Expr} {t t' : TE} (h : PE X e t) (m : ∀ σ H Q, t' σ H Q → t σ H Q) : PE X e t' := ⟨fun pins s σ H Q I q => h.run pins s σ H Q I (m σ H Q q)⟩
theorem pa_mono {X : Cx} {e : List Expr} {t t' : TA} (h : PA X e t) (m : ∀ σ H Q, t' σ H Q → t σ H Q) : PA X e t' := ⟨fun p pins s σ H Q I q => h.run p pins s σ H Q I (m σ H Q q)⟩
theorem pt_mono {X : Cx} {e : Expr} {t t' : TT} (h : PT X e t) (m : ∀ σ H Q, t' σ H Q → t σ H Q) : PT X e t' := ⟨fun pins s σ H Q I q => h.run pins s σ H Q I (m σ H Q q)⟩
theorem pw_mono {X : Cx} {e : Expr} {t t' : TT} (h : PW X e t) (m : ∀ σ H Q, t' σ H Q → t σ H Q) : PW X e t' := ⟨fun wh pins s σ H Q I q => h.run wh pins s σ H Q I (m σ H Q q)⟩

section
variable {B : Tab} {Vs Vs' : List Nat} {H H1 : Hp} {T T1 : Addr → Prop} {σ : St} {env : En}
theorem EnvV.sub (h : EnvV B Vs H T σ env) (s : ∀ i ∈ Vs', i ∈ Vs) : EnvV B Vs' H T σ env := ⟨h.1, fun i hi d e => h.2 i (s i hi) d e⟩
theorem EnvV.left (h : EnvV B (Vs ++ Vs') H T σ env) : EnvV B Vs H T σ env := h.sub fun _ m => List.mem_append_left _ m
theorem EnvV.right (h : EnvV B (Vs ++ Vs') H T σ env) : EnvV B Vs' H T σ env := h.sub fun _ m => List.mem_append_right _ m
theorem EnvV.next (h : EnvV B Vs H T σ env) (s : Same H H1) (l : ∀ a, T a → T1 a) : EnvV B Vs H1 T1 σ env := ⟨h.1, fun i hi d e =>
  let ⟨v, q, r⟩ := h.2 i hi d e
  ⟨v, q, (r.same s).tmono l⟩⟩
end

section
variable {N : Inf} {X : Cx} {W : WX} {Vs Vs' : List Nat} {e a b : Expr} {es : List Expr} {f fa fb : En → R D} {fs : En → R (List D)}
theorem VE.sub (h : VE N X W Vs e f) (s : ∀ i ∈ Vs, i ∈ Vs') : VE N X W Vs' e f := pe_mono h fun σ H Q ⟨T, env, th, hv, p⟩ => ⟨T, env, th, hv.sub s, p⟩
/-- a first piece, then what goes on: as one -/
theorem seqE {α : Type} {B : Tab} {σ : St} {H : Hp} {T : Addr → Prop} {r : R D} {k : D → R D} {Q : VK} {Q' : VK} (h : PostE B W σ H T (r.bind k) Q)
    (g : ∀ d v H' T' F, New H T H' T' F → Rep B H' T' d v F → PostE B W σ H' (TU T' F) (k d) Q → Q' v H') : PostE B W σ H T r Q' := by
  cases r with
  | no => exact h
  | ex c => exact h
  | ok d =>
    intro v H' T' F n r
    refine g d v H' T' F n r ?_
    have h : PostE B W σ H T (k d) Q := h
    revert h
    cases k d with
    | no => exact id
    | ex c => exact fun h H2 s => h H2 (n.same.trans s)
    | ok d2 => exact fun h v2 H2 T2 F2 m r2 => h v2 H2 T2 F2 (n.comp m) r2

/-- what an operation on two values gives, by data -/
structure Op2 (B : Tab) (r : R2) (g : D → D → R D) : Prop where
  ok : ∀ {d1 d2 d : D} {v1 v2 : V} {H : Hp} {T : Addr → Prop} {Q : VK}, Th H T → Rep B H T d1 v1 [] → Rep B H T d2 v2 [] → g d1 d2 = .ok d → (∀ v H' T' F, New H T H' T' F → Rep B H' T' d v F → Q v H') → r v1 v2 H Q
  ex : ∀ {d1 d2 : D} {c : Nat}, g d1 d2 ≠ .ex c
structure Op1 (B : Tab) (r : V → Hp → VK → Prop) (g : D → R D) : Prop where
  ok : ∀ {d1 d : D} {v1 : V} {H : Hp} {T : Addr → Prop} {Q : VK}, Th H T → Rep B H T d1 v1 [] → g d1 = .ok d → (∀ v H' T' F, New H T H' T' F → Rep B H' T' d v F → Q v H') → r v1 H Q
  ex : ∀ {d1 : D} {c : Nat}, g d1 ≠ .ex c
def ev2 (g : D → D → R D) (fa fb : En → R D) : En → R D := fun env => (fa env).bind fun x => (fb env).bind fun y => g x.shr y.shr
def ev1 (g : D → R D) (fa : En → R D) : En → R D := fun env => (fa env).bind fun x => g x.shr
theorem rd_op2 {r : R2} {g : D → D → R D} (o : Op2 (bOf N X) r g) {σ : St} {H : Hp} {Q : VK} (h : tE (bOf N X) W (Vs ++ Vs') (ev2 g fa fb) σ H Q) : tOp r (tE (bOf N X) W Vs fa) (tE (bOf N X) W Vs' fb) σ H Q := by
  obtain ⟨T, env, th, hv, p⟩ := h
  refine ⟨T, env, th, hv.left, seqE (α := D) p fun d1 v1 H1 T1 F1 n1 r1 p1 => ?_⟩
  refine ⟨TU T1 F1, env, n1.share.th, hv.right.next n1.same fun a h => .inl (n1.le a h), seqE (α := D) p1 fun d2 v2 H2 T2 F2 n2 r2 p2 => ?_⟩
  revert p2
  cases hg : g d1.shr d2.shr with
  | no => exact fun h => h.elim
  | ex c => exact absurd hg o.ex
  | ok d => exact fun p2 => o.ok (T := TU T2 F2) n2.share.th ((r1.sh.same n2.same).tmono fun a h => .inl (n2.le a h)) r2.sh hg p2
theorem rd_op1 {r : V → Hp → VK → Prop} {g : D → R D} (o : Op1 (bOf N X) r g) {σ : St} {H : Hp} {Q : VK} (h : tE (bOf N X) W Vs (ev1 g fa) σ H Q) : tUn r (tE (bOf N X) W Vs fa) σ H Q := by
  obtain ⟨T, env, th, hv, p⟩ := h
  refine ⟨T, env, th, hv, seqE (α := D) p fun d1 v1 H1 T1 F1 n1 r1 p1 => ?_⟩
  revert p1
  cases hg : g d1.shr with
  | no => exact fun h => h.elim
  | ex c => exact absurd hg o.ex
  | ok d => exact fun p2 => o.ok (T := TU T1 F1) n1.share.th r1.sh hg p2
theorem ve_op2 {r : R2} {g : D → D → R D} (o : Op2 (bOf N X) r g) (ha : VE N X W Vs a fa) (hb : VE N X W Vs' b fb) (pe : ∀ {ta tb : TE}, PE X a ta → PE X b tb → PE X e (tOp r ta tb)) : VE N X W (Vs ++ Vs') e (ev2 g fa fb) :=
  pe_mono (pe ha hb) fun _ _ _ h => rd_op2 o h
theorem ve_op1 {r : V → Hp → VK → Prop} {g : D → R D} (o : Op1 (bOf N X) r g) (ha : VE N X W Vs a fa) (pe : ∀ {ta : TE}, PE X a ta → PE X e (tUn r ta)) : VE N X W Vs e (ev1 g fa) :=
  pe_mono (pe ha) fun _ _ _ h => rd_op1 o h

/-! ### names, constants -/
def evV (i : Nat) : En → R D := fun env => match env[i]? with
  | some (some d) => .ok d.shr
  | _ => .no
theorem ve_v {i : Nat} {x : Str} {pos : Pos} (hN : X.N[i]? = some x) (hv : Vis X.env.scope x) (hd : (x == ("__debug__" : Str)) = false) (hcd : (x == ("__classdict__" : Str)) = false) : VE N X W [i] (.Name x pos) (evV i) := by
  refine pe_mono (pe_var hN hv hd hcd) fun σ H Q ⟨T, env, th, h, p⟩ => ?_
  unfold evV at p
  split at p
  · rename_i d he
    obtain ⟨v, hs, r⟩ := h.2 i List.mem_cons_self d he
    exact ⟨v, hs, p v H T [] (New.refl th) r⟩
  · exact p.elim
def evC (d : D) : En → R D := fun _ => .ok d
/-- a value that stands wherever one looks -/
def Std (B : Tab) (d : D) (v : V) : Prop := ∀ H T, Rep B H T d v []
theorem ve_c {d : D} {v : V} (h : PE X e (tC v)) (hs : Std (bOf N X) d v) : VE N X W [] e (evC d) :=
  pe_mono h fun σ H Q ⟨T, env, th, _, p⟩ => p v H T [] (New.refl th) (hs H T)

/-! ### argument lists, displays -/
def evNil : En → R (List D) := fun _ => .ok []
def evCons (f : En → R D) (fs : En → R (List D)) : En → R (List D) := fun env => (f env).bind fun x => (fs env).bind fun xs => .ok (x :: xs)
theorem va_nil : VAs N X W [] [] evNil := pa_mono pa_nil fun σ H Q ⟨T, env, th, _, p⟩ => p [] H T [] (New.refl th) ⟨rfl, rfl⟩
theorem va_cons (hs : starEach (e :: es) X.env = (false, eval e X.env) :: starEach es X.env) (ha : VE N X W Vs e f) (hr : VAs N X W Vs' es fs) : VAs N X W (Vs ++ Vs') (e :: es) (evCons f fs) := by
  refine pa_mono (pa_cons ha hr hs) fun σ H Q ⟨T, env, th, hv, p⟩ => ?_
  refine ⟨T, env, th, hv.left, ?_⟩
  unfold evCons at p
  revert p
  cases f env with
  | no => exact id
  | ex c => exact id
  | ok d =>
    intro p v H1 T1 F1 n1 r1
    refine ⟨T1, env, n1.th, hv.right.next n1.same n1.le, ?_⟩
    revert p
    cases fs env with
    | no => exact id
    | ex c => exact fun p H2 s => p H2 (n1.same.trans s)
    | ok ds =>
      intro p vs H2 T2 F2 n2 r2
      refine p (v :: vs) H2 T2 (F1 ++ F2) (n1.and n2) ⟨v, vs, F1, F2, rfl, rfl, ?_, r2⟩
      exact (r1.same n2.same).tmono n2.le

def evTup (fs : En → R (List D)) : En → R D := fun env => (fs env).bind fun xs => if xs.length ≤ sizeLine then .ok (.tup xs) else .no
def evLst (fs : En → R (List D)) : En → R D := fun env => (fs env).bind fun xs => if xs.length ≤ sizeLine then .ok (.lst .own xs) else .no
theorem seqA {B : Tab} {σ : St} {H : Hp} {T : Addr → Prop} {r : R (List D)} {k : List D → R D} {Q : VK} {Q' : List V → Hp → Prop} (h : PostE B W σ H T (r.bind k) Q)
    (g : ∀ ds vs H' T' F, New H T H' T' F → Reps B H' T' ds vs F → PostE B W σ H T (k ds) Q → Q' vs H') : PostA B W σ H T r Q' := by
  cases r with
  | no => exact h
  | ex c => exact h
  | ok d => exact fun v H' T' F n r => g d v H' T' F n r h
theorem ve_tup {x1 : _} {pos : Pos} (h : VAs N X W Vs es fs) : VE N X W Vs (.Tuple es x1 pos) (evTup fs) := by
  refine pe_mono (pe_tup h) fun σ H Q ⟨T, env, th, hv, p⟩ => ⟨T, env, th, hv, seqA p fun ds vs H1 T1 F n r p1 => ?_⟩
  split at p1
  · rename_i hl
    rw [r.len] at hl
    refine ⟨hl, fun q hq => p1 (.ref q) _ T1 F ?_ ⟨q, vs, rfl, upd_same, r.same (VA.same_upd hq)⟩⟩
    have := n.and (F2 := []) (New.put (o := .tup vs) n.th hq)
    rwa [List.append_nil] at this
  · exact p1.elim
theorem ve_lst {pos : Pos} (h : VAs N X W Vs es fs) : VE N X W Vs (.List es pos) (evLst fs) := by
  refine pe_mono (pe_lst h) fun σ H Q ⟨T, env, th, hv, p⟩ => ⟨T, env, th, hv, seqA p fun ds vs H1 T1 F n r p1 => ?_⟩
  split at p1
  · rename_i hl
    rw [r.len] at hl
    refine ⟨hl, fun q hq => p1 (.ref q) _ T1 (q :: F) ?_ ⟨q, vs, F, rfl, upd_same, rfl, r.same (VA.same_upd hq)⟩⟩
    refine New.perm (n.and (New.one (o := .lst vs) n.th hq)) (List.perm_append_comm)
  · exact p1.elim

/-! ### tests -/
def evB (f : En → R D) : En → R Bool := fun env => (f env).bind fun d => match d with
  | .bl b => .ok b
  | _ => .no
theorem rd_B {B : Tab} {σ : St} {H : Hp} {Q : Bool → Hp → Prop} (h : tT B W Vs (evB f) σ H Q) : tE B W Vs f σ H fun x H' => ∃ k, x = .bl k ∧ Q k H' := by
  obtain ⟨T, env, th, hv, p⟩ := h
  refine ⟨T, env, th, hv, ?_⟩
  unfold evB at p
  revert p
  cases f env with
  | no => exact id
  | ex c => exact id
  | ok d =>
    cases d with
    | bl b => exact fun p v H' T' F n r => ⟨b, r.1, p H' n.same⟩
    | _ => exact fun p => p.elim
theorem vt_val (h : VE N X W Vs e f) (he : ∀ whole, isTrue e X.env whole = (do let v ← whole; standAt e.pos; holding [v] (truthy v))) : VT N X W Vs e (evB f) :=
  pt_mono (pt_val h he) fun _ _ _ q => rd_B q
theorem vt_cmp {op : CmpOp} {pos : Pos} {r : R2} {g : D → D → R D} (ho : OpR X (compareOp op) r) (o : Op2 (bOf N X) r g) (hm : behindInMarks op b = false) (ha : VE N X W Vs a fa) (hb : VE N X W Vs' b fb) :
    VT N X W (Vs ++ Vs') (.Compare a [op] [b] pos) (evB (ev2 g fa fb)) := pt_mono (pt_cmpR ho ha hb hm) fun _ _ _ q => rd_op2 o (rd_B q)
theorem ve_cmp {op : CmpOp} {pos : Pos} {r : R2} {g : D → D → R D} (ho : OpR X (compareOp op) r) (o : Op2 (bOf N X) r g) (hm : behindInMarks op b = false) (ha : VE N X W Vs a fa) (hb : VE N X W Vs' b fb) :
    VE N X W (Vs ++ Vs') (.Compare a [op] [b] pos) (ev2 g fa fb) := ve_op2 o ha hb fun p q => pe_cmpR ho p q hm
/-- truth values joined -/
def evAndT (p q : En → R Bool) : En → R Bool := fun env => (p env).bind fun c => if c then q env else .ok false
def evOrT (p q : En → R Bool) : En → R Bool := fun env => (p env).bind fun c => if c then .ok true else q env
def evNotT (p : En → R Bool) : En → R Bool := fun env => (p env).bind fun c => .ok !c
def VW (N : Inf) (X : Cx) (W : WX) (Vs : List Nat) (e : Expr) (f : En → R Bool) : Prop := PW X e (tT (bOf N X) W Vs f)
variable {p q : En → R Bool} {pos : Pos} {rest : List Expr}
theorem seqT {B : Tab} {σ : St} {H : Hp} {r : R Bool} {k : Bool → R Bool} {Q Q' : Bool → Hp → Prop} (h : PostT B W σ H (r.bind k) Q) (g : ∀ b H', Same H H' → PostT B W σ H' (k b) Q → Q' b H') : PostT B W σ H r Q' := by
  cases r with
  | no => exact h
  | ex c => exact h
  | ok b =>
    intro H' s
    refine g b H' s ?_
    have h : PostT B W σ H (k b) Q := h
    revert h
    cases k b with
    | no => exact id
    | ex c => exact fun h H2 t => h H2 (s.trans t)
    | ok b2 => exact fun h H2 t => h H2 (s.trans t)
theorem rd_and {B : Tab} {σ : St} {H : Hp} {Q : Bool → Hp → Prop} (h : tT B W (Vs ++ Vs') (evAndT p q) σ H Q) : tAnd (tT B W Vs p) (tT B W Vs' q) σ H Q := by
  obtain ⟨T, env, th, hv, h⟩ := h
  refine ⟨T, env, th, hv.left, seqT h fun c H1 s h1 => ?_⟩
  cases c with
  | true =>
    rw [if_pos rfl]
    exact ⟨T, env, th.same s, hv.right.next s fun _ h => h, h1⟩
  | false =>
    rw [if_neg Bool.false_ne_true]
    exact h1 H1 (Same.refl H1)
theorem rd_or {B : Tab} {σ : St} {H : Hp} {Q : Bool → Hp → Prop} (h : tT B W (Vs ++ Vs') (evOrT p q) σ H Q) : tOr (tT B W Vs p) (tT B W Vs' q) σ H Q := by
  obtain ⟨T, env, th, hv, h⟩ := h
  refine ⟨T, env, th, hv.left, seqT h fun c H1 s h1 => ?_⟩
  cases c with
  | true =>
    rw [if_pos rfl]
    exact h1 H1 (Same.refl H1)
  | false =>
    rw [if_neg Bool.false_ne_true]
    exact ⟨T, env, th.same s, hv.right.next s fun _ h => h, h1⟩
theorem vw_and1 (ha : VT N X W Vs a p) : VW N X W Vs (.BoolOp .And [a] pos) p := pw_and1 ha
theorem vw_or1 (ha : VT N X W Vs a p) : VW N X W Vs (.BoolOp .Or [a] pos) p := pw_or1 ha
theorem vw_and (ha : VT N X W Vs a p) (hb : VW N X W Vs' (.BoolOp .And (b :: rest) pos) q) : VW N X W (Vs ++ Vs') (.BoolOp .And (a :: b :: rest) pos) (evAndT p q) := pw_mono (pw_and ha hb) fun _ _ _ h => rd_and h
theorem vw_or (ha : VT N X W Vs a p) (hb : VW N X W Vs' (.BoolOp .Or (b :: rest) pos) q) : VW N X W (Vs ++ Vs') (.BoolOp .Or (a :: b :: rest) pos) (evOrT p q) := pw_mono (pw_or ha hb) fun _ _ _ h => rd_or h
theorem VW.vt (h : VW N X W Vs e p) : VT N X W Vs e p := PW.pt h
theorem vt_not (ha : VT N X W Vs a p) : VT N X W Vs (.UnaryOp .Not a pos) (evNotT p) := pt_mono (pt_not ha) fun _ _ _ ⟨T, env, th, hv, h⟩ => ⟨T, env, th, hv, seqT h fun _ H1 _ h1 => h1 H1 (Same.refl H1)⟩
/-- the same as values -/
def evBl (p : En → R Bool) : En → R D := fun env => (p env).bind fun c => .ok (.bl c)
def evAndV (fa fb : En → R D) : En → R D := fun env => (evB fa env).bind fun c => if c then (evB fb env).bind fun k => .ok (.bl k) else .ok (.bl false)
def evOrV (fa fb : En → R D) : En → R D := fun env => (evB fa env).bind fun c => if c then .ok (.bl true) else (evB fb env).bind fun k => .ok (.bl k)
def evNotV (fa : En → R D) : En → R D := fun env => (evB fa env).bind fun c => .ok (.bl !c)
theorem seqB {B : Tab} {σ : St} {H : Hp} {T : Addr → Prop} {r : R D} {k : Bool → R D} {Q Q' : VK} (h : PostE B W σ H T ((r.bind fun d => match d with | .bl b => .ok b | _ => .no).bind k) Q)
    (g : ∀ b v H', Same H H' → v = .bl b → PostE B W σ H' T (k b) Q → Q' v H') : PostE B W σ H T r Q' := by
  cases r with
  | no => exact h
  | ex c => exact h
  | ok d =>
    cases d with
    | bl b =>
      intro v H' T' F n r
      refine g b v H' n.same r.1 ?_
      have h : PostE B W σ H T (k b) Q := h
      revert h
      cases k b with
      | no => exact id
      | ex c => exact fun h H2 t => h H2 (n.same.trans t)
      | ok d2 => exact fun h v2 H2 T2 F2 m r2 => h v2 H2 T2 F2 ⟨n.same.trans m.same, m.le, fun a z => (m.new a z).imp_right fun z => n.same.free z, m.nd, fun a z => ⟨n.same.free (m.own a z).1, (m.own a z).2⟩, m.th, m.fth⟩ r2
    | _ => exact h.elim
theorem ve_one {op : BoolOp} (h : VE N X W Vs a f) : VE N X W Vs (.BoolOp op [a] pos) f := pe_one h
theorem ve_and (ha : VE N X W Vs a fa) (hb : VE N X W Vs' (.BoolOp .And (b :: rest) pos) fb) : VE N X W (Vs ++ Vs') (.BoolOp .And (a :: b :: rest) pos) (evAndV fa fb) :=
  pe_mono (pe_and ha hb) fun σ H Q ⟨T, env, th, hv, h⟩ => ⟨T, env, th, hv.left, seqB h fun c v H1 s e h1 => ⟨c, e, by
    cases c with
    | true =>
      rw [if_pos rfl]
      refine ⟨T, env, th.same s, hv.right.next s fun _ h => h, seqB h1 fun c2 v2 H2 s2 e2 h2 => ?_⟩
      exact h2 v2 H2 T [] (New.refl ((th.same s).same s2)) ⟨e2, rfl⟩
    | false =>
      rw [if_neg Bool.false_ne_true]
      exact h1 (.bl false) H1 T [] (New.refl (th.same s)) ⟨rfl, rfl⟩⟩⟩
theorem ve_or (ha : VE N X W Vs a fa) (hb : VE N X W Vs' (.BoolOp .Or (b :: rest) pos) fb) : VE N X W (Vs ++ Vs') (.BoolOp .Or (a :: b :: rest) pos) (evOrV fa fb) :=
  pe_mono (pe_or ha hb) fun σ H Q ⟨T, env, th, hv, h⟩ => ⟨T, env, th, hv.left, seqB h fun c v H1 s e h1 => ⟨c, e, by
    cases c with
    | false =>
      rw [if_neg Bool.false_ne_true]
      refine ⟨T, env, th.same s, hv.right.next s fun _ h => h, seqB h1 fun c2 v2 H2 s2 e2 h2 => ?_⟩
      exact h2 v2 H2 T [] (New.refl ((th.same s).same s2)) ⟨e2, rfl⟩
    | true =>
      rw [if_pos rfl]
      exact h1 (.bl true) H1 T [] (New.refl (th.same s)) ⟨rfl, rfl⟩⟩⟩
theorem ve_not (ha : VE N X W Vs a fa) : VE N X W Vs (.UnaryOp .Not a pos) (evNotV fa) :=
  pe_mono (pe_not ha) fun σ H Q ⟨T, env, th, hv, h⟩ => ⟨T, env, th, hv, seqB h fun c v H1 s e h1 => ⟨c, e, h1 _ H1 T [] (New.refl (th.same s)) ⟨rfl, rfl⟩⟩⟩
/-- a if c else b -/
def evIte {α : Type} (p : En → R Bool) (fa fb : En → α) (bad : Nat → α) (no : α) : En → α := fun env => match p env with
  | .ok true => fa env
  | .ok false => fb env
  | .ex c => bad c
  | .no => no
def evIfE (p : En → R Bool) (fa fb : En → R D) : En → R D := evIte p fa fb .ex .no
theorem ve_ife {c : Expr} {Vc : List Nat} (hc : VT N X W Vc c p) (ha : VE N X W Vs a fa) (hb : VE N X W Vs' b fb) : VE N X W (Vc ++ (Vs ++ Vs')) (.IfExp c a b pos) (evIfE p fa fb) := by
  refine pe_mono (pe_ifExp hc ha hb) fun σ H Q ⟨T, env, th, hv, h⟩ => ⟨T, env, th, hv.left, ?_⟩
  unfold evIfE evIte at h
  have go : ∀ {Q : VK} {r : R D} {H1 : Hp} (s : Same H H1), PostE (bOf N X) W σ H T r Q → PostE (bOf N X) W σ H1 T r Q := fun {Q r H1} s h => by
    revert h
    cases r with
    | no => exact id
    | ex c => exact fun h H2 t => h H2 (s.trans t)
    | ok d2 => exact fun h v2 H2 T2 F2 m r2 => h v2 H2 T2 F2 ⟨s.trans m.same, m.le, fun a z => (m.new a z).imp_right fun z => s.free z, m.nd, fun a z => ⟨s.free (m.own a z).1, (m.own a z).2⟩, m.th, m.fth⟩ r2
  revert h
  cases p env with
  | no => exact id
  | ex c => exact id
  | ok k =>
    cases k with
    | true => exact fun h H1 s => iteT ⟨T, env, th.same s, hv.right.left.next s fun _ h => h, go s h⟩
    | false => exact fun h H1 s => iteF ⟨T, env, th.same s, hv.right.right.next s fun _ h => h, go s h⟩
end
end VA


set_option Elab.async false
set_option linter.all false
set_option maxRecDepth 100000
set_option maxHeartbeats 2000000
/-! VC: statements, told over plain data. -/
namespace VA
open PySem PySem.Spec L2

/-- how a statement ends -/
inductive O where
  | nx (e : En) | rt (d : D) | bk (e : En) | ct (e : En) | ex (c : Nat) (e : En) | no

section
variable (B : Tab) (H : Hp) (T : Addr → Prop)
def EnvO : En → St → List Addr → Prop
  | [], σ, F => σ = [] ∧ F = []
  | none :: env, σ, F => ∃ v σ', σ = v :: σ' ∧ EnvO env σ' F
  | some d :: env, σ, F => ∃ v σ' F1 F2, σ = some v :: σ' ∧ F = F1 ++ F2 ∧ Rep B H T d v F1 ∧ EnvO env σ' F2
end
/-- a state: what the slots hold, own lists apart from one another and from what is known elsewhere -/
structure SOk (B : Tab) (H : Hp) (T : Addr → Prop) (σ : St) (env : En) (F : List Addr) : Prop where
  th : Th H T
  env : EnvO B H T env σ F
  nd : F.Nodup
  ap : ∀ a ∈ F, ¬ T a
/-- from a state to a later one -/
structure Step (H : Hp) (T : Addr → Prop) (F : List Addr) (H' : Hp) (T' : Addr → Prop) (F' : List Addr) : Prop where
  fr : Fr (fun a => a ∈ F) H H'
  le : ∀ a, T a → T' a
  new : ∀ a, T' a ∨ a ∈ F' → T a ∨ a ∈ F ∨ H a = none

def PostS (B : Tab) (W : WX) (H : Hp) (T : Addr → Prop) (F : List Addr) (r : O) (D : Ends) : Prop := match r with
  | .nx env => ∀ σ' H' T' F', SOk B H' T' σ' env F' → Step H T F H' T' F' → D.nx σ' H'
  | .bk env => ∀ σ' H' T' F', SOk B H' T' σ' env F' → Step H T F H' T' F' → D.bk σ' H'
  | .ct env => ∀ σ' H' T' F', SOk B H' T' σ' env F' → Step H T F H' T' F' → D.ct σ' H'
  | .ex c env => ∀ σ' H' T' F', SOk B H' T' σ' env F' → Step H T F H' T' F' → W (.ref (B.ca c)) none σ' H'
  | .rt d => ∀ v H' T' F', Th H' T' → Rep B H' T' d v F' → F'.Nodup → (∀ a ∈ F', ¬ T' a) → Step H T F H' T' F' → D.rt v H'
  | .no => False
def tS (B : Tab) (W : WX) (f : En → O) : TS := fun D σ H => ∃ T env F, SOk B H T σ env F ∧ PostS B W H T F (f env) D
def VS (N : Inf) (X : Cx) (W : WX) (s : Stmt) (f : En → O) : Prop := PS X s (tS (bOf N X) W f)
def VSs (N : Inf) (X : Cx) (W : WX) (ss : List Stmt) (f : En → O) : Prop := PSs X ss (tS (bOf N X) W f)
theorem ps_mono {X : Cx} {s : Stmt} {t t' : TS} (h : PS X s t) (m : ∀ D σ H, t' D σ H → t D σ H) : PS X s t' := ⟨fun pins s σ H D I q => h.run pins s σ H D I (m D σ H q)⟩
theorem pss_mono {X : Cx} {s : List Stmt} {t t' : TS} (h : PSs X s t) (m : ∀ D σ H, t' D σ H → t D σ H) : PSs X s t' := ⟨fun pins s σ H D I q => h.run pins s σ H D I (m D σ H q)⟩

section
variable {B : Tab} {H H1 H2 : Hp} {T T1 T2 : Addr → Prop} {F F1 F2 : List Addr} {σ : St} {env : En}
theorem Step.refl : Step H T F H T F := ⟨Fr.refl, fun _ h => h, fun a h => h.elim .inl fun z => .inr (.inl z)⟩
theorem Step.trans (a : Step H T F H1 T1 F1) (b : Step H1 T1 F1 H2 T2 F2) (hd : ∀ x ∈ F1, x ∉ F → H x = none) : Step H T F H2 T2 F2 := by
  refine ⟨fun x o h q => ?_, fun x h => b.le x (a.le x h), fun x h => ?_⟩
  · refine b.fr x o (a.fr x o h q) ?_
    rcases q with q | q
    · refine .inl fun z => ?_
      have := hd x z q
      rw [h] at this
      cases this
    · exact .inr q
  · rcases b.new x h with z | z | z
    · exact a.new x (.inl z)
    · exact a.new x (.inr z)
    · by_cases hx : x ∈ F
      · exact .inr (.inl hx)
      · refine .inr (.inr ?_)
        cases e : H x with
        | none => rfl
        | some o =>
          have := a.fr x o e (.inl hx)
          rw [z] at this
          cases this
/-- the own lists of a later state are the earlier one's, or new -/
theorem Step.own (s : SOk B H T σ env F) (a : Step H T F H1 T1 F1) (ap : ∀ x ∈ F1, ¬ T1 x) : ∀ x ∈ F1, x ∉ F → H x = none := fun x h n => by
  rcases a.new x (.inr h) with z | z | z
  · exact absurd (a.le x z) (ap x h)
  · exact absurd z n
  · exact z
theorem EnvO.len : ∀ {env : En} {σ : St} {F : List Addr}, EnvO B H T env σ F → env.length = σ.length
  | [], _, _, h => by rw [h.1]; rfl
  | none :: env, _, _, ⟨v, σ', e, h⟩ => by rw [e, List.length_cons, List.length_cons, EnvO.len h]
  | some d :: env, _, _, ⟨v, σ', F1, F2, e, _, _, h⟩ => by rw [e, List.length_cons, List.length_cons, EnvO.len h]
theorem EnvO.fr {G : Addr → Prop} (f : Fr G H H1) (hT : ∀ a, G a → ¬ T a) : ∀ {env : En} {σ : St} {F : List Addr}, (∀ a ∈ F, ¬ G a) → EnvO B H T env σ F → EnvO B H1 T env σ F
  | [], _, _, _, h => h
  | none :: env, _, _, hF, ⟨v, σ', e, h⟩ => ⟨v, σ', e, EnvO.fr f hT hF h⟩
  | some d :: env, _, _, hF, ⟨v, σ', F1, F2, e, e2, r, h⟩ => ⟨v, σ', F1, F2, e, e2, Rep.fr f hT d (fun a z => hF a (by rw [e2]; exact List.mem_append_left _ z)) r, EnvO.fr f hT (fun a z => hF a (by rw [e2]; exact List.mem_append_right _ z)) h⟩
theorem EnvO.same (s : Same H H1) (h : EnvO B H T env σ F) : EnvO B H1 T env σ F := EnvO.fr (same_fr s) (fun _ h => h.elim) (fun _ _ h => h) h
theorem EnvO.tmono (hT : ∀ a, T a → T1 a) : ∀ {env : En} {σ : St} {F : List Addr}, EnvO B H T env σ F → EnvO B H T1 env σ F
  | [], _, _, h => h
  | none :: env, _, _, ⟨v, σ', e, h⟩ => ⟨v, σ', e, EnvO.tmono hT h⟩
  | some d :: env, _, _, ⟨v, σ', F1, F2, e, e2, r, h⟩ => ⟨v, σ', F1, F2, e, e2, r.tmono hT, EnvO.tmono hT h⟩
theorem EnvO.there : ∀ {env : En} {σ : St} {F : List Addr}, EnvO B H T env σ F → ∀ a ∈ F, ∃ o, H a = some o ∧ MutO o
  | [], _, _, h => by rw [h.2]; exact fun _ z => nomatch z
  | none :: env, _, _, ⟨v, σ', e, h⟩ => EnvO.there h
  | some d :: env, _, _, ⟨v, σ', F1, F2, e, e2, r, h⟩ => fun a z => by
    rw [e2] at z
    rcases List.mem_append.mp z with z | z
    · exact Rep.there d r a z
    · exact EnvO.there h a z
theorem EnvO.get : ∀ {env : En} {σ : St} {F : List Addr} {i : Nat} {d : D}, EnvO B H T env σ F → env[i]? = some (some d) → ∃ v, σ[i]? = some (some v) ∧ ∃ F1, Rep B H T d v F1 ∧ ∀ a ∈ F1, a ∈ F
  | [], _, _, _, _, _, h => by simp at h
  | none :: env, _, _, 0, _, _, h => by simp at h
  | none :: env, _, _, i + 1, d, ⟨v, σ', e, h⟩, hi => by
    obtain ⟨u, h1, h2⟩ := EnvO.get (i := i) (d := d) h (by simpa using hi)
    exact ⟨u, by rw [e]; simpa using h1, h2⟩
  | some x :: env, _, _, 0, d, ⟨v, σ', F1, F2, e, e2, r, h⟩, hi => by
    cases hi
    exact ⟨v, by rw [e]; rfl, F1, r, fun a z => by rw [e2]; exact List.mem_append_left _ z⟩
  | some x :: env, _, _, i + 1, d, ⟨v, σ', F1, F2, e, e2, r, h⟩, hi => by
    obtain ⟨u, h1, F3, h2, h3⟩ := EnvO.get (i := i) (d := d) h (by simpa using hi)
    exact ⟨u, by rw [e]; simpa using h1, F3, h2, fun a z => by rw [e2]; exact List.mem_append_right _ (h3 a z)⟩
/-- all slots, as known elsewhere -/
theorem EnvO.view : ∀ {env : En} {σ : St} {F : List Addr} {i : Nat} {d : D}, (∀ a, T a → T1 a) → (∀ a ∈ F, T1 a) → EnvO B H T env σ F → env[i]? = some (some d) → ∃ v, σ[i]? = some (some v) ∧ Rep B H T1 d.shr v []
  | [], _, _, _, _, _, _, _, h => by simp at h
  | none :: env, _, _, 0, _, _, _, _, h => by simp at h
  | none :: env, _, _, i + 1, d, hT, hF, ⟨v, σ', e, h⟩, hi => by
    obtain ⟨u, h1, h2⟩ := EnvO.view (i := i) (d := d) hT hF h (by simpa using hi)
    exact ⟨u, by rw [e]; simpa using h1, h2⟩
  | some x :: env, _, _, 0, d, hT, hF, ⟨v, σ', F1, F2, e, e2, r, h⟩, hi => by
    cases hi
    exact ⟨v, by rw [e]; rfl, Rep.shr x hT (fun a z => hF a (by rw [e2]; exact List.mem_append_left _ z)) r⟩
  | some x :: env, _, _, i + 1, d, hT, hF, ⟨v, σ', F1, F2, e, e2, r, h⟩, hi => by
    obtain ⟨u, h1, h2⟩ := EnvO.view (i := i) (d := d) hT (fun a z => hF a (by rw [e2]; exact List.mem_append_right _ z)) h (by simpa using hi)
    exact ⟨u, by rw [e]; simpa using h1, h2⟩
theorem SOk.view {Vs : List Nat} (s : SOk B H T σ env F) : EnvV B Vs H (TU T F) σ env := ⟨s.env.len, fun i _ d e => s.env.view (fun _ h => .inl h) (fun _ h => .inr h) e⟩
theorem SOk.thU (s : SOk B H T σ env F) : Th H (TU T F) := fun a h => h.elim (s.th a) fun z => let ⟨o, q, _⟩ := s.env.there a z; ⟨o, q⟩
theorem SOk.same (s : SOk B H T σ env F) (q : Same H H1) : SOk B H1 T σ env F := ⟨s.th.same q, s.env.same q, s.nd, s.ap⟩
theorem Step.same (q : Same H H1) : Step H T F H1 T F := ⟨fun a o h _ => q a o h, fun _ h => h, fun a h => h.elim .inl fun z => .inr (.inl z)⟩

/-! ### a slot -/
/-- a slot is given another value -/
theorem EnvO.set : ∀ {env : En} {σ : St} {F : List Addr} {i : Nat} {d : D} {v : V} {Fd : List Addr}, i < env.length → EnvO B H T env σ F → Rep B H T d v Fd →
    ∃ L M R, F = L ++ (M ++ R) ∧ EnvO B H T (env.set i (some d)) (σ.set i (some v)) (L ++ (Fd ++ R))
  | [], _, _, _, _, _, _, h, _, _ => by simp at h
  | none :: env, _, F, 0, d, v, Fd, _, ⟨u, σ', e, h⟩, r => ⟨[], [], F, rfl, by rw [e]; exact ⟨v, σ', Fd, F, rfl, rfl, r, h⟩⟩
  | some x :: env, _, _, 0, d, v, Fd, _, ⟨u, σ', F1, F2, e, e2, rx, h⟩, r => ⟨[], F1, F2, e2, by rw [e]; exact ⟨v, σ', Fd, F2, rfl, rfl, r, h⟩⟩
  | none :: env, _, F, i + 1, d, v, Fd, hl, ⟨u, σ', e, h⟩, r => by
    obtain ⟨L, M, R, q1, q2⟩ := EnvO.set (i := i) (by simpa using hl) h r
    exact ⟨L, M, R, q1, by rw [e]; exact ⟨u, σ'.set i (some v), rfl, q2⟩⟩
  | some x :: env, _, _, i + 1, d, v, Fd, hl, ⟨u, σ', F1, F2, e, e2, rx, h⟩, r => by
    obtain ⟨L, M, R, q1, q2⟩ := EnvO.set (i := i) (by simpa using hl) h r
    exact ⟨F1 ++ L, M, R, by rw [e2, q1, List.append_assoc], by rw [e]; exact ⟨u, σ'.set i (some v), F1, L ++ (Fd ++ R), rfl, List.append_assoc _ _ _, rx, q2⟩⟩
/-- a slot is known elsewhere from now on -/
def frz1 : Nat → En → En
  | _, [] => []
  | 0, none :: env => none :: env
  | 0, some d :: env => some d.shr :: env
  | i + 1, x :: env => x :: frz1 i env
def frz : List Nat → En → En
  | [], env => env
  | i :: is, env => frz is (frz1 i env)
theorem EnvO.frz1 : ∀ {env : En} {σ : St} {F : List Addr} (i : Nat), EnvO B H T env σ F → ∃ L M R, F = L ++ (M ++ R) ∧ EnvO B H (TU T M) (VA.frz1 i env) σ (L ++ R)
  | [], _, F, i, h => ⟨F, [], [], by simp, by rw [h.1, h.2]; cases i <;> exact ⟨rfl, rfl⟩⟩
  | none :: env, _, F, 0, ⟨v, σ', e, h⟩ => ⟨[], [], F, rfl, v, σ', e, h.tmono fun _ h => .inl h⟩
  | some x :: env, _, F, 0, ⟨v, σ', F1, F2, e, e2, r, h⟩ => ⟨[], F1, F2, e2, v, σ', [], F2, e, rfl, r.sh, h.tmono fun _ h => .inl h⟩
  | none :: env, _, F, i + 1, ⟨v, σ', e, h⟩ => by
    obtain ⟨L, M, R, q1, q2⟩ := EnvO.frz1 i h
    exact ⟨L, M, R, q1, v, σ', e, q2⟩
  | some x :: env, _, F, i + 1, ⟨v, σ', F1, F2, e, e2, r, h⟩ => by
    obtain ⟨L, M, R, q1, q2⟩ := EnvO.frz1 i h
    exact ⟨F1 ++ L, M, R, by rw [e2, q1, List.append_assoc], v, σ', F1, L ++ R, e, List.append_assoc _ _ _, r.tmono fun _ h => .inl h, q2⟩
theorem frz1_len : ∀ (i : Nat) (env : En), (frz1 i env).length = env.length
  | _, [] => by cases ‹Nat› <;> rfl
  | 0, none :: env => rfl
  | 0, some d :: env => rfl
  | i + 1, x :: env => by rw [frz1, List.length_cons, List.length_cons, frz1_len i env]
theorem frz_len : ∀ (is : List Nat) (env : En), (frz is env).length = env.length
  | [], _ => rfl
  | i :: is, env => by rw [frz, frz_len is, frz1_len]
theorem nd_cut {L M R : List Addr} (h : (L ++ (M ++ R)).Nodup) : (L ++ R).Nodup ∧ (∀ a ∈ M, a ∉ L ++ R) := by
  rw [List.nodup_append] at h
  obtain ⟨h1, h2, h3⟩ := h
  rw [List.nodup_append] at h2
  obtain ⟨h4, h5, h6⟩ := h2
  refine ⟨List.nodup_append.mpr ⟨h1, h5, fun a ha b hb => h3 a ha b (List.mem_append_right _ hb)⟩, fun a ha hb => ?_⟩
  rcases List.mem_append.mp hb with hb | hb
  · exact h3 a hb a (List.mem_append_left _ ha) rfl
  · exact h6 a ha a hb rfl
theorem nd_put {L M R N : List Addr} (h : (L ++ (M ++ R)).Nodup) (hn : N.Nodup) (hd : ∀ a ∈ N, a ∉ L ++ R) : (L ++ (N ++ R)).Nodup := by
  obtain ⟨h1, _⟩ := nd_cut h
  rw [List.nodup_append] at h1
  obtain ⟨a1, a2, a3⟩ := h1
  refine List.nodup_append.mpr ⟨a1, List.nodup_append.mpr ⟨hn, a2, fun a ha b hb e => hd a ha (List.mem_append_right _ (e ▸ hb))⟩, fun a ha b hb e => ?_⟩
  rcases List.mem_append.mp hb with hb | hb
  · exact hd b hb (List.mem_append_left _ (e ▸ ha))
  · exact a3 a ha b hb e
theorem SOk.frz1 (s : SOk B H T σ env F) (i : Nat) : ∃ T1 F1, SOk B H T1 σ (VA.frz1 i env) F1 ∧ Step H T F H T1 F1 ∧ (∀ a, T1 a → T a ∨ a ∈ F) ∧ (∀ a ∈ F1, a ∈ F) := by
  obtain ⟨L, M, R, e, q⟩ := s.env.frz1 i
  have nd := s.nd
  rw [e] at nd
  obtain ⟨n1, n2⟩ := nd_cut nd
  have hM : ∀ a ∈ M, a ∈ F := fun a h => by rw [e]; exact List.mem_append_right _ (List.mem_append_left _ h)
  have hLR : ∀ a ∈ L ++ R, a ∈ F := fun a h => by
    rw [e]
    rcases List.mem_append.mp h with h | h
    · exact List.mem_append_left _ h
    · exact List.mem_append_right _ (List.mem_append_right _ h)
  refine ⟨TU T M, L ++ R, ⟨fun a h => h.elim (s.th a) fun z => ?_, q, n1, fun a h t => ?_⟩, ⟨Fr.refl, fun a h => .inl h, fun a h => ?_⟩, fun a h => h.elim .inl fun z => .inr (hM a z), hLR⟩
  · obtain ⟨o, h, _⟩ := s.env.there a (hM a z)
    exact ⟨o, h⟩
  · rcases t with t | t
    · exact s.ap a (hLR a h) t
    · exact n2 a t h
  · rcases h with (h | h) | h
    · exact .inl h
    · exact .inr (.inl (hM a h))
    · exact .inr (.inl (hLR a h))
theorem SOk.frz (s : SOk B H T σ env F) (is : List Nat) : ∃ T1 F1, SOk B H T1 σ (VA.frz is env) F1 ∧ Step H T F H T1 F1 ∧ (∀ a, T1 a → T a ∨ a ∈ F) ∧ (∀ a ∈ F1, a ∈ F) := by
  induction is generalizing T env F with
  | nil => exact ⟨T, F, s, Step.refl, fun _ h => .inl h, fun _ h => h⟩
  | cons i is ih =>
    obtain ⟨T1, F1, s1, p1, q1, r1⟩ := s.frz1 i
    obtain ⟨T2, F2, s2, p2, q2, r2⟩ := ih s1
    exact ⟨T2, F2, s2, p1.trans p2 fun x h n => absurd (r1 x h) n, fun a h => (q2 a h).elim (q1 a) fun z => .inr (r1 a z), fun a h => r1 a (r2 a h)⟩
theorem frz1_at : ∀ {env : En} {i j : Nat} {d : D}, (VA.frz1 i env)[j]? = some (some d) → ∃ d', env[j]? = some (some d') ∧ (d = d' ∨ d = d'.shr) ∧ (j = i → d = d'.shr)
  | [], i, j, d, h => by cases i <;> simp [VA.frz1] at h
  | none :: env, 0, 0, d, h => by simp [VA.frz1] at h
  | some x :: env, 0, 0, d, h => ⟨x, rfl, by simp [VA.frz1] at h; exact .inr h.symm, fun _ => by simp [VA.frz1] at h; exact h.symm⟩
  | none :: env, 0, j + 1, d, h => ⟨d, by simpa [VA.frz1] using h, .inl rfl, fun e => by cases e⟩
  | some x :: env, 0, j + 1, d, h => ⟨d, by simpa [VA.frz1] using h, .inl rfl, fun e => by cases e⟩
  | x :: env, i + 1, 0, d, h => ⟨d, by simpa [VA.frz1] using h, .inl rfl, fun e => by cases e⟩
  | x :: env, i + 1, j + 1, d, h => by
    obtain ⟨d', h1, h2, h3⟩ := frz1_at (env := env) (i := i) (j := j) (d := d) (by simpa [VA.frz1] using h)
    exact ⟨d', by simpa using h1, h2, fun e => h3 (by omega)⟩
theorem frz_at : ∀ {is : List Nat} {env : En} {j : Nat} {d : D}, (VA.frz is env)[j]? = some (some d) → ∃ d', env[j]? = some (some d') ∧ (d = d' ∨ d = d'.shr) ∧ (j ∈ is → d = d'.shr)
  | [], env, j, d, h => ⟨d, h, .inl rfl, fun z => nomatch z⟩
  | i :: is, env, j, d, h => by
    obtain ⟨d1, h1, h2, h3⟩ := frz_at (is := is) (env := VA.frz1 i env) h
    obtain ⟨d2, q1, q2, q3⟩ := frz1_at h1
    refine ⟨d2, q1, ?_, fun z => ?_⟩
    · rcases h2 with rfl | rfl
      · exact q2
      · rcases q2 with rfl | rfl
        · exact .inr rfl
        · exact .inr (D.shr_shr _)
    · rcases List.mem_cons.mp z with e | z
      · have e3 := q3 e
        rcases h2 with rfl | rfl
        · exact e3
        · rw [e3, D.shr_shr]
      · have e3 := h3 z
        rcases q2 with e | e
        · rw [e3, e]
        · rw [e3, e, D.shr_shr]
/-- the frozen slots may be looked at without the others' own lists -/
theorem SOk.viewF {Vs : List Nat} (s : SOk B H T σ (VA.frz Vs env) F) : EnvV B Vs H T σ (VA.frz Vs env) := ⟨s.env.len, fun i hi d e => by
  obtain ⟨v, h1, h2⟩ := s.env.get e
  obtain ⟨F1, r, hF⟩ := h2
  obtain ⟨d', q1, q2, q3⟩ := frz_at e
  have e2 := q3 hi
  refine ⟨v, h1, ?_⟩
  rw [e2] at r ⊢
  have := Rep.shr_nil _ r
  subst this
  rw [D.shr_shr]
  exact r⟩
end
end VA


set_option Elab.async false
set_option linter.all false
set_option maxRecDepth 100000
set_option maxHeartbeats 2000000
/-! VD: operations on plain data. -/
namespace VA
open PySem PySem.Spec L2

/-! ### data as the model's equality sees them -/
mutual
def D.py : D → Option PyData
  | .non => some .none | .bl b => some (.bool b) | .int i => some (.int i) | .str s => some (.str s)
  | .tup xs => (pys xs).map .tuple
  | .ktp xs => (pys xs).map .tuple
  | .lst _ xs => (pys xs).map .list
  | .fn _ => none | .exc _ => none | .dic _ _ _ => none | .dtt _ _ _ => none
def pys : List D → Option (List PyData)
  | [] => some []
  | x :: xs => match x.py, pys xs with
    | some p, some ps => some (p :: ps)
    | _, _ => none
end
section
variable {B : Tab} {H : Hp} {T : Addr → Prop}
mutual
theorem Rep.dp : ∀ (d : D) {v : V} {F : List Addr} {p : PyData}, Rep B H T d v F → d.py = some p → Dp B.K H v p
  | .non, _, _, _, h, e => by cases e; rw [h.1]; exact .non
  | .bl b, _, _, _, h, e => by cases e; rw [h.1]; exact .bl b
  | .int i, _, _, _, h, e => by cases e; rw [h.1]; exact .int i
  | .str s, _, _, _, h, e => by cases e; rw [h.1]; exact .str s
  | .tup ds, _, _, _, ⟨a, vs, ev, hs, hr⟩, e => by
    obtain ⟨ps, h1, rfl⟩ := Option.map_eq_some_iff.mp e
    rw [ev]
    exact .tup (.inl (.inl hs)) (Reps.dp ds hr h1)
  | .ktp ds, _, _, _, ⟨a, vs, ev, hs, hr⟩, e => by
    obtain ⟨ps, h1, rfl⟩ := Option.map_eq_some_iff.mp e
    rw [ev]
    exact .tup (.inr hs) (Reps.dp ds hr h1)
  | .lst .scr ds, _, _, _, ⟨_, a, vs, ev, hs, hr⟩, e => by
    obtain ⟨ps, h1, rfl⟩ := Option.map_eq_some_iff.mp e
    rw [ev]
    exact .lst hs.sql (Reps.dp ds hr h1)
  | .lst .sh ds, _, _, _, ⟨_, a, vs, ev, hs, _, hr⟩, e => by
    obtain ⟨ps, h1, rfl⟩ := Option.map_eq_some_iff.mp e
    rw [ev]
    exact .lst (.inl (.inl hs)) (Reps.dp ds hr h1)
  | .lst .own ds, _, _, _, ⟨a, vs, F1, ev, hs, _, hr⟩, e => by
    obtain ⟨ps, h1, rfl⟩ := Option.map_eq_some_iff.mp e
    rw [ev]
    exact .lst (.inl (.inl hs)) (Reps.dp ds hr h1)
  | .fn _, _, _, _, _, e => by cases e
  | .exc _, _, _, _, _, e => by cases e
  | .dic _ _ _, _, _, _, _, e => by cases e
  | .dtt _ _ _, _, _, _, _, e => by cases e
theorem Reps.dp : ∀ (ds : List D) {vs : List V} {F : List Addr} {ps : List PyData}, Reps B H T ds vs F → pys ds = some ps → DpAll B.K H vs ps
  | [], _, _, _, h, e => by cases e; rw [h.1]; exact .nil
  | d :: ds, _, _, _, ⟨v, vs', F1, F2, ev, _, h1, h2⟩, e => by
    rw [pys] at e
    split at e
    · rename_i p ps e1 e2
      cases e
      rw [ev]
      exact .cons (Rep.dp d h1 e1) (Reps.dp ds h2 e2)
    · cases e
end
/-- a list, by what may be read -/
theorem Rep.sql {o : Fl} {ds : List D} {v : V} {F : List Addr} (h : Rep B H T (.lst o ds) v F) : ∃ a vs F1, v = .ref a ∧ SqL B.K H a vs ∧ Reps B H T ds vs F1 := by
  cases o with
  | own => obtain ⟨a, vs, F1, ev, hs, _, hr⟩ := h; exact ⟨a, vs, F1, ev, .inl (.inl hs), hr⟩
  | sh => obtain ⟨_, a, vs, ev, hs, _, hr⟩ := h; exact ⟨a, vs, [], ev, .inl (.inl hs), hr⟩
  | scr => obtain ⟨_, a, vs, ev, hs, hr⟩ := h; exact ⟨a, vs, [], ev, hs.sql, hr⟩
theorem Rep.sql0 {o : Fl} {ds : List D} {v : V} (h : Rep B H T (.lst o ds) v []) : ∃ a vs, v = .ref a ∧ SqL B.K H a vs ∧ Reps B H T ds vs [] := by
  cases o with
  | own => obtain ⟨a, vs, F1, ev, hs, e, hr⟩ := h; cases e
  | sh => obtain ⟨_, a, vs, ev, hs, _, hr⟩ := h; exact ⟨a, vs, ev, .inl (.inl hs), hr⟩
  | scr => obtain ⟨_, a, vs, ev, hs, hr⟩ := h; exact ⟨a, vs, ev, hs.sql, hr⟩
theorem Rep.lst_sh {ds : List D} {v : V} (h : Rep B H T (.lst .sh ds) v []) : ∃ a vs, v = .ref a ∧ H a = some (.lst vs) ∧ T a ∧ Reps B H T ds vs [] := by
  obtain ⟨_, a, vs, ev, hs, t, hr⟩ := h
  exact ⟨a, vs, ev, hs, t, hr⟩
/-- a new own list of shared things -/
theorem new_lst {ds : List D} {vs : List V} {Q : VK} (th : Th H T) (r : Reps B H T ds vs []) (k : ∀ v H' T' F, New H T H' T' F → Rep B H' T' (.lst .own ds) v F → Q v H') : ∀ p, H p = none → Q (.ref p) (upd H p (.lst vs)) :=
  fun p hp => k _ _ T [p] (New.one th hp) ⟨p, vs, [], rfl, upd_same, rfl, r.same (VA.same_upd hp)⟩
theorem new_tup {ds : List D} {vs : List V} {Q : VK} (th : Th H T) (r : Reps B H T ds vs []) (k : ∀ v H' T' F, New H T H' T' F → Rep B H' T' (.tup ds) v F → Q v H') : ∀ p, H p = none → Q (.ref p) (upd H p (.tup vs)) :=
  fun p hp => k _ _ T [] (New.put th hp) ⟨p, vs, rfl, upd_same, r.same (VA.same_upd hp)⟩
theorem Reps.ints : ∀ {ns : List Int} {vs : List V} {F : List Addr}, Reps B H T (ns.map D.int) vs F → vs = ns.map V.int
  | [], _, _, h => h.1
  | n :: ns, _, _, ⟨v, vs', F1, F2, ev, _, h1, h2⟩ => by rw [ev, h1.1, Reps.ints h2]; rfl
theorem reps_ints : ∀ (ns : List Int), Reps B H T (ns.map D.int) (ns.map V.int) []
  | [] => ⟨rfl, rfl⟩
  | n :: ns => ⟨.int n, ns.map V.int, [], [], rfl, rfl, ⟨rfl, rfl⟩, reps_ints ns⟩
theorem Reps.bls : ∀ {ns : List Bool} {vs : List V} {F : List Addr}, Reps B H T (ns.map D.bl) vs F → vs = ns.map V.bl
  | [], _, _, h => h.1
  | n :: ns, _, _, ⟨v, vs', F1, F2, ev, _, h1, h2⟩ => by rw [ev, h1.1, Reps.bls h2]; rfl
theorem Reps.strs : ∀ {ns : List Str} {vs : List V} {F : List Addr}, Reps B H T (ns.map D.str) vs F → vs = ns.map V.str
  | [], _, _, h => h.1
  | n :: ns, _, _, ⟨v, vs', F1, F2, ev, _, h1, h2⟩ => by rw [ev, h1.1, Reps.strs h2]; rfl
theorem reps_strs : ∀ (ns : List Str), Reps B H T (ns.map D.str) (ns.map V.str) []
  | [] => ⟨rfl, rfl⟩
  | n :: ns => ⟨.str n, ns.map V.str, [], [], rfl, rfl, ⟨rfl, rfl⟩, reps_strs ns⟩
theorem Reps.take : ∀ {ds : List D} {vs : List V} (n : Nat), Reps B H T ds vs [] → Reps B H T (ds.take n) (vs.take n) []
  | [], _, n, h => by rw [h.1]; cases n <;> exact ⟨rfl, rfl⟩
  | d :: ds, _, 0, h => ⟨rfl, rfl⟩
  | d :: ds, _, n + 1, ⟨v, vs', F1, F2, ev, e, h1, h2⟩ => by
    obtain ⟨rfl, rfl⟩ := List.append_eq_nil_iff.mp e.symm
    rw [ev]
    exact ⟨v, vs'.take n, [], [], rfl, rfl, h1, Reps.take n h2⟩
theorem Reps.drop : ∀ {ds : List D} {vs : List V} (n : Nat), Reps B H T ds vs [] → Reps B H T (ds.drop n) (vs.drop n) []
  | [], _, n, h => by rw [h.1]; cases n <;> exact ⟨rfl, rfl⟩
  | d :: ds, _, 0, h => h
  | d :: ds, _, n + 1, ⟨v, vs', F1, F2, ev, e, h1, h2⟩ => by
    obtain ⟨rfl, rfl⟩ := List.append_eq_nil_iff.mp e.symm
    rw [ev]
    exact Reps.drop n h2
theorem Reps.reverse : ∀ {ds : List D} {vs : List V}, Reps B H T ds vs [] → Reps B H T ds.reverse vs.reverse []
  | [], _, h => by rw [h.1]; exact ⟨rfl, rfl⟩
  | d :: ds, _, ⟨v, vs', F1, F2, ev, e, h1, h2⟩ => by
    obtain ⟨rfl, rfl⟩ := List.append_eq_nil_iff.mp e.symm
    rw [ev, List.reverse_cons, List.reverse_cons]
    exact Reps.app (Reps.reverse h2) (Reps.one h1)
end

/-- typed views: the ints of a list -/
def ints? : List D → Option (List Int)
  | [] => some []
  | .int i :: r => (ints? r).map (i :: ·)
  | _ :: _ => none
theorem ints?_some : ∀ {ds : List D} {ns : List Int}, ints? ds = some ns → ds = ns.map D.int
  | [], ns, h => by cases h; rfl
  | .int i :: r, ns, h => by
    obtain ⟨ms, h1, rfl⟩ := Option.map_eq_some_iff.mp h
    rw [ints?_some h1]; rfl
  | .non :: _, _, h => by cases h
  | .bl _ :: _, _, h => by cases h
  | .str _ :: _, _, h => by cases h
  | .fn _ :: _, _, h => by cases h
  | .exc _ :: _, _, h => by cases h
  | .tup _ :: _, _, h => by cases h
  | .ktp _ :: _, _, h => by cases h
  | .lst _ _ :: _, _, h => by cases h
  | .dic _ _ _ :: _, _, h => by cases h
  | .dtt _ _ _ :: _, _, h => by cases h
@[simp] theorem ints?_map : ∀ ns : List Int, ints? (ns.map D.int) = some ns
  | [] => rfl
  | n :: ns => by rw [List.map_cons, ints?, ints?_map ns]; rfl
def bls? : List D → Option (List Bool)
  | [] => some []
  | .bl i :: r => (bls? r).map (i :: ·)
  | _ :: _ => none
theorem bls?_some : ∀ {ds : List D} {ns : List Bool}, bls? ds = some ns → ds = ns.map D.bl
  | [], ns, h => by cases h; rfl
  | .bl i :: r, ns, h => by
    obtain ⟨ms, h1, rfl⟩ := Option.map_eq_some_iff.mp h
    rw [bls?_some h1]; rfl
  | .non :: _, _, h => by cases h
  | .int _ :: _, _, h => by cases h
  | .str _ :: _, _, h => by cases h
  | .fn _ :: _, _, h => by cases h
  | .exc _ :: _, _, h => by cases h
  | .tup _ :: _, _, h => by cases h
  | .ktp _ :: _, _, h => by cases h
  | .lst _ _ :: _, _, h => by cases h
  | .dic _ _ _ :: _, _, h => by cases h
  | .dtt _ _ _ :: _, _, h => by cases h
@[simp] theorem bls?_map : ∀ ns : List Bool, bls? (ns.map D.bl) = some ns
  | [] => rfl
  | n :: ns => by rw [List.map_cons, bls?, bls?_map ns]; rfl

/-! ### two values -/
def vAdd : D → D → R D
  | .int i, .int j => .ok (.int (i + j))
  | .str a, .str b => if a.length + b.length ≤ sizeLine then .ok (.str (a ++ b)) else .no
  | .lst .sh xs, .lst .sh ys => if xs.length + ys.length ≤ sizeLine then .ok (.lst .own (xs ++ ys)) else .no
  | .tup xs, .tup ys => if xs.length + ys.length ≤ sizeLine then .ok (.tup (xs ++ ys)) else .no
  | _, _ => .no
def okMul (i j : Int) : Bool := decide ((-(2 ^ 64) < i ∧ i < 2 ^ 64) ∨ (-(2 ^ 64) < j ∧ j < 2 ^ 64)) || decide (i.natAbs.log2 + j.natAbs.log2 < 1000000)
def vSub : D → D → R D
  | .int i, .int j => .ok (.int (i - j))
  | _, _ => .no
def vMul : D → D → R D
  | .int i, .int j => if okMul i j then .ok (.int (i * j)) else .no
  | .lst .sh xs, .int k => if -(2 ^ 63) ≤ k ∧ k < 2 ^ 63 ∧ xs.length * k.toNat ≤ sizeLine then .ok (.lst .own (List.replicate k.toNat xs).flatten) else .no
  | _, _ => .no
def vFdiv : D → D → R D
  | .int i, .int j => if 0 < j ∧ j.natAbs.log2 < 9000 then .ok (.int (i / j)) else .no
  | _, _ => .no
def vMod : D → D → R D
  | .int i, .int j => if 0 < j then .ok (.int (i % j)) else .no
  | _, _ => .no
def vPow : D → D → R D
  | .int i, .int j => if 0 ≤ j ∧ j ≤ 1000000 ∧ i.natAbs < 2 ^ 64 then .ok (.int (i ^ j.toNat)) else .no
  | _, _ => .no
def vEq (neg : Bool) : D → D → R D := fun x y => match x.py, y.py with
  | some p, some q => if SeqAt.shaped p && SeqAt.shaped q then .ok (.bl (PyData.eqv p q != neg)) else .no
  | _, _ => .no
def vCmp (f : Int → Int → Bool) : D → D → R D
  | .int i, .int j => .ok (.bl (f i j))
  | _, _ => .no
def vIsN (neg : Bool) : D → D → R D
  | .non, .non => .ok (.bl (!neg))
  | .bl a, .bl b => .ok (.bl (decide (a = b) != neg))
  | .bl _, .non => .ok (.bl neg)
  | .int _, .non => .ok (.bl neg)
  | .str _, .non => .ok (.bl neg)
  | .tup _, .non => .ok (.bl neg)
  | .lst _ _, .non => .ok (.bl neg)
  | _, _ => .no
def valD {κ : Type} [DecidableEq κ] : List κ → List D → κ → Option D
  | [], _, _ => none
  | _ :: _, [], _ => none
  | k :: ks, d :: ds, j => if k = j then some d else valD ks ds j
def keyD : D → Option Key
  | .int i => some (.inl i)
  | .str s => some (.inr s)
  | _ => none
def keysD : List D → Option (List Key)
  | [] => some []
  | d :: ds => match keyD d, keysD ds with
    | some k, some ks => some (k :: ks)
    | _, _ => none
/-- what a dict holds at a key -/
def dGet : D → D → Option (Option D)
  | .dic _ ks xs, d => (keyD d).map (valD ks xs)
  | .dtt _ ks xs, d => match d with
    | .tup ds => (keysD ds).map (valD ks xs)
    | _ => none
  | _, _ => none
def vInS (mk : List PyData → PyData) (neg : Bool) (x : D) (ys : List D) : R D := match x.py, pys ys with
  | some p, some qs => if SeqAt.shaped p && SeqAt.shaped (mk qs) then .ok (.bl ((qs.any fun z => PyData.eqv z p) != neg)) else .no
  | _, _ => .no
def vInC (neg : Bool) (x : D) (z : Str) : R D := match x with
  | .str w => if w.cps.size = 1 then .ok (.bl (decide (w.cps.getD 0 0 ∈ z.cps.toList) != neg)) else .no
  | _ => .no
def vInD (neg : Bool) (o : Option (Option D)) : R D := match o with
  | some o => .ok (.bl (o.isSome != neg))
  | none => .no
def vIn (neg : Bool) (x : D) : D → R D
  | .lst _ ys => vInS .list neg x ys
  | .tup ys => vInS .tuple neg x ys
  | .ktp ys => vInS .tuple neg x ys
  | .str z => vInC neg x z
  | .dic o ks xs => vInD neg (dGet (.dic o ks xs) x)
  | .dtt o ks xs => vInD neg (dGet (.dtt o ks xs) x)
  | _ => .no
def vIxL (xs : List D) (x : D) : R D := match x with
  | .int i => match atI xs i with | some d => .ok d | none => .no
  | _ => .no
def vIxS (z : Str) (x : D) : R D := match x with
  | .int i => if z.length ≤ sizeLine then match atI z.cps.toList i with | some c => .ok (.str ⟨#[c]⟩) | none => .no else .no
  | _ => .no
def vIxD (o : Option (Option D)) : R D := match o with
  | some (some v) => .ok v
  | _ => .no
def vIx : D → D → R D
  | .lst _ xs, x => vIxL xs x
  | .tup xs, x => vIxL xs x
  | .ktp xs, x => vIxL xs x
  | .str z, x => vIxS z x
  | .dic o ks xs, x => vIxD (dGet (.dic o ks xs) x)
  | .dtt o ks xs, x => vIxD (dGet (.dtt o ks xs) x)
  | _, _ => .no

abbrev rOr (r r' : R2) : R2 := fun x y H Q => r x y H Q ∨ r' x y H Q
section
variable {N : Inf} {X : Cx}
def rStr : R2 := fun x y H Q => ∃ i j, x = .str i ∧ y = .str j ∧ i.length + j.length ≤ sizeLine ∧ Q (.str (i ++ j)) H
def rAdd4 (K : PySem.W.Frag) : R2 := rOr (rI0 fun i j => .int (i + j)) (rOr rStr (rOr rCat (rCatA K)))
theorem opr_add : OpR X (binaryOp .Add) (rAdd4 X.K) := op_add.or (op_add_str.or (op_cat.or op_catA))
theorem o_add : Op2 (bOf N X) (rAdd4 X.K) vAdd := by
  constructor
  · intro d1 d2 d v1 v2 H T Q th h1 h2 e k
    unfold vAdd at e
    split at e
    · cases e
      exact .inl ⟨_, _, h1.1, h2.1, k _ H T [] (New.refl th) ⟨rfl, rfl⟩⟩
    · split at e
      · rename_i hl
        cases e
        exact .inr (.inl ⟨_, _, h1.1, h2.1, hl, k _ H T [] (New.refl th) ⟨rfl, rfl⟩⟩)
      · cases e
    · split at e
      · rename_i hl
        cases e
        obtain ⟨a, vs, e1, ha, _, r1⟩ := h1.lst_sh
        obtain ⟨b, ws, e2, hb, _, r2⟩ := h2.lst_sh
        rw [r1.len, r2.len] at hl
        exact .inr (.inr (.inl ⟨a, b, vs, ws, e1, e2, ha, hb, hl, new_lst th (Reps.app r1 r2) k⟩))
      · cases e
    · split at e
      · rename_i hl
        cases e
        obtain ⟨a, vs, e1, ha, r1⟩ := h1
        obtain ⟨b, ws, e2, hb, r2⟩ := h2
        rw [r1.len, r2.len] at hl
        refine .inr (.inr (.inr ⟨a, b, vs, ws, e1, e2, .inl (.inl ha), .inl (.inl hb), hl, fun z => ?_, fun _ z => ?_, fun _ _ => new_tup th (Reps.app r1 r2) k⟩))
        · subst z
          have r := Reps.app r1 r2
          exact k _ H T [] (New.refl th) ⟨b, ws, rfl, hb, r⟩
        · subst z
          have r := Reps.app r1 r2
          rw [List.append_nil] at r
          exact k _ H T [] (New.refl th) ⟨a, vs, rfl, ha, r⟩
      · cases e
    · cases e
  · intro d1 d2 c e
    unfold vAdd at e
    (repeat' split at e) <;> cases e
theorem o_sub : Op2 (bOf N X) (rI0 fun i j => .int (i - j)) vSub := by
  constructor
  · intro d1 d2 d v1 v2 H T Q th h1 h2 e k
    unfold vSub at e
    split at e
    · cases e
      exact ⟨_, _, h1.1, h2.1, k _ H T [] (New.refl th) ⟨rfl, rfl⟩⟩
    · cases e
  · intro d1 d2 c e
    unfold vSub at e
    split at e <;> cases e
def rMul3 : R2 := rOr (rI CMul fun i j => .int (i * j)) (rOr (rI CMulW fun i j => .int (i * j)) rRep)
theorem opr_mul : OpR X (binaryOp .Mult) rMul3 := op_mul.or (op_mulW.or op_rep)
theorem Reps.rep {B : Tab} {H : Hp} {T : Addr → Prop} {ds : List D} {vs : List V} (h : Reps B H T ds vs []) : ∀ k : Nat, Reps B H T (List.replicate k ds).flatten (List.replicate k vs).flatten []
  | 0 => ⟨rfl, rfl⟩
  | k + 1 => by
    rw [List.replicate_succ, List.replicate_succ, List.flatten_cons, List.flatten_cons]
    exact Reps.app h (Reps.rep h k)
theorem o_mul : Op2 (bOf N X) rMul3 vMul := by
  constructor
  · intro d1 d2 d v1 v2 H T Q th h1 h2 e k
    unfold vMul at e
    split at e
    · split at e
      · rename_i hc
        cases e
        unfold okMul at hc
        rw [Bool.or_eq_true, decide_eq_true_eq, decide_eq_true_eq] at hc
        rcases hc with hc | hc
        · exact .inl ⟨_, _, h1.1, h2.1, hc, k _ H T [] (New.refl th) ⟨rfl, rfl⟩⟩
        · exact .inr (.inl ⟨_, _, h1.1, h2.1, hc, k _ H T [] (New.refl th) ⟨rfl, rfl⟩⟩)
      · cases e
    · split at e
      · rename_i hc
        cases e
        obtain ⟨a, vs, e1, ha, _, r1⟩ := h1.lst_sh
        rw [r1.len] at hc
        exact .inr (.inr ⟨a, _, vs, e1, h2.1, ha, hc.1, hc.2.1, hc.2.2, new_lst th (Reps.rep r1 _) k⟩)
      · cases e
    · cases e
  · intro d1 d2 c e
    unfold vMul at e
    (repeat' split at e) <;> cases e
theorem o_fdiv : Op2 (bOf N X) (rI CDivW fun i j => .int (i / j)) vFdiv := by
  constructor
  · intro d1 d2 d v1 v2 H T Q th h1 h2 e k
    unfold vFdiv at e
    split at e
    · split at e
      · rename_i hc
        cases e
        exact ⟨_, _, h1.1, h2.1, hc, k _ H T [] (New.refl th) ⟨rfl, rfl⟩⟩
      · cases e
    · cases e
  · intro d1 d2 c e
    unfold vFdiv at e
    (repeat' split at e) <;> cases e
theorem o_mod : Op2 (bOf N X) (rI (fun _ j => 0 < j) fun i j => .int (i % j)) vMod := by
  constructor
  · intro d1 d2 d v1 v2 H T Q th h1 h2 e k
    unfold vMod at e
    split at e
    · split at e
      · rename_i hc
        cases e
        exact ⟨_, _, h1.1, h2.1, hc, k _ H T [] (New.refl th) ⟨rfl, rfl⟩⟩
      · cases e
    · cases e
  · intro d1 d2 c e
    unfold vMod at e
    (repeat' split at e) <;> cases e
theorem o_pow : Op2 (bOf N X) (rI CPow fun i j => .int (i ^ j.toNat)) vPow := by
  constructor
  · intro d1 d2 d v1 v2 H T Q th h1 h2 e k
    unfold vPow at e
    split at e
    · split at e
      · rename_i hc
        cases e
        exact ⟨_, _, h1.1, h2.1, hc, k _ H T [] (New.refl th) ⟨rfl, rfl⟩⟩
      · cases e
    · cases e
  · intro d1 d2 c e
    unfold vPow at e
    (repeat' split at e) <;> cases e
theorem o_eq : Op2 (bOf N X) (rEqD X.K) (vEq false) := by
  constructor
  · intro d1 d2 d v1 v2 H T Q th h1 h2 e k
    unfold vEq at e
    split at e
    · rename_i p q e1 e2
      split at e
      · rename_i hc
        cases e
        rw [Bool.and_eq_true] at hc
        rw [Bool.bne_false] at k
        exact ⟨p, q, Rep.dp _ h1 e1, Rep.dp _ h2 e2, hc.1, hc.2, k _ H T [] (New.refl th) ⟨rfl, rfl⟩⟩
      · cases e
    · cases e
  · intro d1 d2 c e
    unfold vEq at e
    (repeat' split at e) <;> cases e
theorem o_ne : Op2 (bOf N X) (rNeD X.K) (vEq true) := by
  constructor
  · intro d1 d2 d v1 v2 H T Q th h1 h2 e k
    unfold vEq at e
    split at e
    · rename_i p q e1 e2
      split at e
      · rename_i hc
        cases e
        rw [Bool.and_eq_true] at hc
        rw [Bool.bne_true] at k
        exact ⟨p, q, Rep.dp _ h1 e1, Rep.dp _ h2 e2, hc.1, hc.2, k _ H T [] (New.refl th) ⟨rfl, rfl⟩⟩
      · cases e
    · cases e
  · intro d1 d2 c e
    unfold vEq at e
    (repeat' split at e) <;> cases e
theorem o_cmp {f : Int → Int → Bool} : Op2 (bOf N X) (rI0 fun i j => .bl (f i j)) (vCmp f) := by
  constructor
  · intro d1 d2 d v1 v2 H T Q th h1 h2 e k
    unfold vCmp at e
    split at e
    · cases e
      exact ⟨_, _, h1.1, h2.1, k _ H T [] (New.refl th) ⟨rfl, rfl⟩⟩
    · cases e
  · intro d1 d2 c e
    unfold vCmp at e
    split at e <;> cases e
def rIs2 : R2 := rOr (fun x y H Q => y = .non ∧ Q (.bl (decide (x = .non))) H) rIsB
def rNot2 : R2 := rOr (fun x y H Q => y = .non ∧ Q (.bl (!decide (x = .non))) H) rNotB
theorem opr_is : OpR X (compareOp .Is) rIs2 := op_isN.or op_isBl
theorem opr_isnot : OpR X (compareOp .IsNot) rNot2 := op_notN.or op_notBl
theorem o_is : Op2 (bOf N X) rIs2 (vIsN false) := by
  constructor
  · intro d1 d2 d v1 v2 H T Q th h1 h2 e k
    unfold vIsN at e
    split at e
    · cases e
      refine .inl ⟨h2.1, ?_⟩
      rw [h1.1]
      exact k _ H T [] (New.refl th) ⟨rfl, rfl⟩
    · cases e
      rw [Bool.bne_false] at k
      exact .inr ⟨_, _, h1.1, h2.1, k _ H T [] (New.refl th) ⟨rfl, rfl⟩⟩
    all_goals first
      | (cases e; refine .inl ⟨h2.1, ?_⟩; rw [h1.1, decide_eq_false (fun z => nomatch z)]; exact k _ H T [] (New.refl th) ⟨rfl, rfl⟩)
      | (cases e; refine .inl ⟨h2.1, ?_⟩; obtain ⟨a, vs, e1, _⟩ := h1; rw [e1, decide_eq_false (fun z => nomatch z)]; exact k _ H T [] (New.refl th) ⟨rfl, rfl⟩)
      | (cases e; refine .inl ⟨h2.1, ?_⟩; obtain ⟨a, vs, e1, _⟩ := h1.sql0; rw [e1, decide_eq_false (fun z => nomatch z)]; exact k _ H T [] (New.refl th) ⟨rfl, rfl⟩)
      | cases e
  · intro d1 d2 c e
    unfold vIsN at e
    split at e <;> cases e
theorem o_isnot : Op2 (bOf N X) rNot2 (vIsN true) := by
  constructor
  · intro d1 d2 d v1 v2 H T Q th h1 h2 e k
    unfold vIsN at e
    split at e
    · cases e
      refine .inl ⟨h2.1, ?_⟩
      rw [h1.1]
      exact k _ H T [] (New.refl th) ⟨rfl, rfl⟩
    · cases e
      rw [Bool.bne_true] at k
      exact .inr ⟨_, _, h1.1, h2.1, k _ H T [] (New.refl th) ⟨rfl, rfl⟩⟩
    all_goals first
      | (cases e; refine .inl ⟨h2.1, ?_⟩; rw [h1.1, decide_eq_false (fun z => nomatch z)]; exact k _ H T [] (New.refl th) ⟨rfl, rfl⟩)
      | (cases e; refine .inl ⟨h2.1, ?_⟩; obtain ⟨a, vs, e1, _⟩ := h1; rw [e1, decide_eq_false (fun z => nomatch z)]; exact k _ H T [] (New.refl th) ⟨rfl, rfl⟩)
      | (cases e; refine .inl ⟨h2.1, ?_⟩; obtain ⟨a, vs, e1, _⟩ := h1.sql0; rw [e1, decide_eq_false (fun z => nomatch z)]; exact k _ H T [] (New.refl th) ⟨rfl, rfl⟩)
      | cases e
  · intro d1 d2 c e
    unfold vIsN at e
    split at e <;> cases e
end
end VA


set_option Elab.async false
set_option linter.all false
set_option maxRecDepth 100000
set_option maxHeartbeats 2000000
/-! VD2: in, subscripts. -/
namespace VA
open PySem PySem.Spec L2

section
variable {B : Tab} {H : Hp} {T : Addr → Prop}
theorem valD_val {κ : Type} [DecidableEq κ] : ∀ {ks : List κ} {ds : List D} {vs : List V} (k : κ), Reps B H T ds vs [] → ks.length = vs.length →
    (∀ d, valD ks ds k = some d → ∃ v, valV (ks.zip vs) k = some v ∧ Rep B H T d v []) ∧ (valD ks ds k = none → valV (ks.zip vs) k = none)
  | [], ds, vs, k, h, e => ⟨fun d q => (by rw [valD] at q; cases q), fun _ => rfl⟩
  | j :: ks, [], vs, k, h, e => by rw [h.1] at e; cases e
  | j :: ks, d0 :: ds, vs, k, ⟨v, vs', F1, F2, ev, e0, h1, h2⟩, e => by
    obtain ⟨rfl, rfl⟩ := List.append_eq_nil_iff.mp e0.symm
    rw [ev] at e ⊢
    obtain ⟨q1, q2⟩ := valD_val (ks := ks) (ds := ds) k h2 (by simpa using e)
    rw [List.zip_cons_cons]
    by_cases hj : j = k
    · rw [valV_pos hj]
      refine ⟨fun d q => ?_, fun q => ?_⟩
      · rw [valD, if_pos hj] at q
        cases q
        exact ⟨v, rfl, h1⟩
      · rw [valD, if_pos hj] at q
        cases q
    · rw [valV_neg hj]
      refine ⟨fun d q => ?_, fun q => ?_⟩
      · rw [valD, if_neg hj] at q
        exact q1 d q
      · rw [valD, if_neg hj] at q
        exact q2 q
theorem keyD_is {d : D} {v : V} {k : Key} (h : Rep B H T d v []) (e : keyD d = some k) : v = kV k := by
  cases d with
  | int i => cases e; exact h.1
  | str s => cases e; exact h.1
  | _ => cases e
theorem keysD_is : ∀ {ds : List D} {vs : List V} {ks : List Key}, Reps B H T ds vs [] → keysD ds = some ks → vs = ks.map kV
  | [], vs, ks, h, e => by cases e; exact h.1
  | d :: ds, vs, ks, ⟨v, vs', F1, F2, ev, e0, h1, h2⟩, e => by
    obtain ⟨rfl, rfl⟩ := List.append_eq_nil_iff.mp e0.symm
    rw [keysD] at e
    split at e
    · rename_i k ks' e1 e2
      cases e
      rw [ev, keyD_is h1 e1, keysD_is h2 e2]; rfl
    · cases e
/-- what is looked up: the key's tuple must be a tracked one -/
theorem dGet_is {d x : D} {o : Option D} {v y : V} (h : Rep B H T d v []) (hx : Rep B H T x y []) (e : dGet d x = some o) :
    ∃ a r, v = .ref a ∧ DGet H a y r ∧ (∀ d, o = some d → ∃ u, r = some u ∧ Rep B H T d u []) ∧ (o = none → r = none) := by
  cases d with
  | dic fl ks xs =>
    obtain ⟨k, e1, rfl⟩ := Option.map_eq_some_iff.mp (show (keyD x).map (valD ks xs) = some o from e)
    cases fl with
    | scr => exact h.elim
    | own => obtain ⟨a, vs, F1, _, _, _, e, _⟩ := h; cases e
    | sh =>
      obtain ⟨_, a, vs, ev, hs, hl, _, hr⟩ := h
      obtain ⟨q1, q2⟩ := valD_val k hr hl
      refine ⟨a, _, ev, ?_, q1, q2⟩
      rw [keyD_is hx e1]
      exact DGet.k hs
  | dtt fl ks xs =>
    cases x with
    | tup ds =>
      obtain ⟨k, e1, rfl⟩ := Option.map_eq_some_iff.mp (show (keysD ds).map (valD ks xs) = some o from e)
      obtain ⟨b, ws, ey, hb, rb⟩ := hx
      cases fl with
      | scr => exact h.elim
      | own => obtain ⟨a, vs, F1, _, _, _, e, _⟩ := h; cases e
      | sh =>
        obtain ⟨_, a, vs, ev, hs, hl, _, hr⟩ := h
        obtain ⟨q1, q2⟩ := valD_val k hr hl
        refine ⟨a, _, ev, ?_, q1, q2⟩
        rw [ey]
        refine DGet.t hs ?_
        rw [← keysD_is rb e1]
        exact hb
    | _ => cases e
  | _ => cases e

end
/-! ### rules that HandS has under other forms -/
section
variable {X : Cx}
def rDIn (neg : Bool) : R2 := fun x y H Q => ∃ a o, y = .ref a ∧ DGet H a x o ∧ Q (.bl (o.isSome != neg)) H
theorem op_din (hu : X.A.units + 1 < cLine) : OpR X (compareOp .In) (rDIn false) := by
  intro pins s σ H x y v u Q I rx ry ⟨a, o, ey, g, q⟩
  subst ey
  obtain rfl : u = Value.ref a := ry
  rw [Bool.bne_false] at q
  exact d_in hu I g rx fun s' I' => ⟨.bl _, H, I', rfl, q⟩
theorem op_dnotin (hu : X.A.units + 1 < cLine) : OpR X (compareOp .NotIn) (rDIn true) := by
  intro pins s σ H x y v u Q I rx ry ⟨a, o, ey, g, q⟩
  subst ey
  obtain rfl : u = Value.ref a := ry
  rw [Bool.bne_true] at q
  exact d_notIn hu I g rx fun s' I' => ⟨.bl _, H, I', rfl, q⟩
def rInT (K : PySem.W.Frag) (neg : Bool) : R2 := fun x y H Q => ∃ d ds, Dp K H x d ∧ Dp K H y (.tuple ds) ∧ SeqAt.shaped d = true ∧ SeqAt.shaped (.tuple ds) = true ∧ Q (.bl ((ds.any fun z => PyData.eqv z d) != neg)) H
theorem op_inT (hu : X.A.units + 65 < cLine) : OpR X (compareOp .In) (rInT X.K false) := by
  intro pins s σ H x y v u Q I rx ry h
  obtain ⟨d, ds, hd, he, sd, se, q⟩ := h
  obtain ⟨as, r1⟩ := Dp.reads I d x v hd rx
  obtain ⟨bs, r2⟩ := Dp.reads I (.tuple ds) y u he ry
  rw [Bool.bne_false] at q
  exact SeqAt.in_tuple_reads r2 r1 (SeqAt.canLay_of_shaped se) (SeqAt.canLay_of_shaped sd) (PyProof.Rows.room_in_shaped sd hu) ⟨.bl _, H, I, rfl, q⟩
theorem op_notInT (hu : X.A.units + 65 < cLine) : OpR X (compareOp .NotIn) (rInT X.K true) := by
  intro pins s σ H x y v u Q I rx ry h
  obtain ⟨d, ds, hd, he, sd, se, q⟩ := h
  obtain ⟨as, r1⟩ := Dp.reads I d x v hd rx
  obtain ⟨bs, r2⟩ := Dp.reads I (.tuple ds) y u he ry
  rw [Bool.bne_true] at q
  exact SeqAt.notIn_tuple_reads r2 r1 (SeqAt.canLay_of_shaped se) (SeqAt.canLay_of_shaped sd) (PyProof.Rows.room_in_shaped sd hu) ⟨.bl _, H, I, rfl, q⟩
def rSgn (neg : Bool) : R2 := fun x y H Q => ∃ (c : Nat) (z : Str), x = .str ⟨#[c]⟩ ∧ y = .str z ∧ Q (.bl (decide (c ∈ z.cps.toList) != neg)) H
theorem op_sgn : OpR X (compareOp .In) (rSgn false) := by
  intro pins s σ H x y v u Q I rx ry ⟨c, z, ex, ey, q⟩
  rw [Bool.bne_false] at q
  exact op_in_sign pins s σ H x y v u Q I rx ry ⟨c, z, ex, ey, q⟩
theorem op_notsgn : OpR X (compareOp .NotIn) (rSgn true) := by
  intro pins s σ H x y v u Q I rx ry ⟨c, z, ex, ey, q⟩
  rw [Bool.bne_true] at q
  exact op_notIn_sign pins s σ H x y v u Q I rx ry ⟨c, z, ex, ey, q⟩
def rIn4 (K : PySem.W.Frag) (neg : Bool) : R2 := rOr (if neg then rNotInD K else rInD K) (rOr (rInT K neg) (rOr (rSgn neg) (rDIn neg)))
theorem opr_in {k : Nat} (hr : Room k X.A) (h65 : X.A.units + 65 < cLine) : OpR X (compareOp .In) (rIn4 X.K false) := (op_inD h65).or ((op_inT h65).or (op_sgn.or (op_din (hu_of hr))))
theorem opr_notin {k : Nat} (hr : Room k X.A) (h65 : X.A.units + 65 < cLine) : OpR X (compareOp .NotIn) (rIn4 X.K true) := (op_notInD h65).or ((op_notInT h65).or (op_notsgn.or (op_dnotin (hu_of hr))))
theorem Room.u65 {k : Nat} {A : Around} (r : Room k A) : A.units + 65 < cLine := by have := r.un; omega

def rDIx : R2 := fun x y H Q => ∃ a v, x = .ref a ∧ DGet H a y (some v) ∧ Q v H
theorem ix_dict (hu : X.A.units + 1 < cLine) : IxR X rDIx := by
  intro value slice pins s σ H x y v u Q I rx ry ⟨a, w, ex, g, q⟩ hs
  subst ex
  obtain rfl : v = Value.ref a := rx
  exact PyProof.Rows.tail_any (dict_typeIs I g) PySem.F.slot_dict_getitem.lookup (d_getItem hu I g ry fun w' s' I' r' => ⟨w, H, I', r', q⟩) hs
def rIx4 (K : PySem.W.Frag) : R2 := rOr (rIx K) rDIx
theorem ixr_all {k : Nat} (hr : Room k X.A) : IxR X (rIx4 X.K) := ix_seq.or (ix_dict (hu_of hr))
end
section
variable {N : Inf} {X : Cx}
theorem atI_rep {B : Tab} {H : Hp} {T : Addr → Prop} {ds : List D} {vs : List V} {i : Int} {d : D} (h : Reps B H T ds vs []) (e : atI ds i = some d) : ∃ v, atI vs i = some v ∧ Rep B H T d v [] := by
  unfold atI at e ⊢
  rw [← h.len]
  obtain ⟨j, h1, h2⟩ := Option.bind_eq_some_iff.mp e
  obtain ⟨v, h3, h4⟩ := h.get h2
  exact ⟨v, by rw [h1]; exact h3, h4⟩
theorem vIxL_ok {xs : List D} {x d : D} (e : vIxL xs x = .ok d) : ∃ i, x = .int i ∧ atI xs i = some d := by
  unfold vIxL at e
  split at e
  · split at e
    · cases e; exact ⟨_, rfl, by assumption⟩
    · cases e
  · cases e
theorem vIxD_ok {o : Option (Option D)} {d : D} (e : vIxD o = .ok d) : o = some (some d) := by
  unfold vIxD at e
  split at e
  · cases e; rfl
  · cases e
theorem o_ix : Op2 (bOf N X) (rIx4 X.K) vIx := by
  constructor
  · intro d1 d2 d v1 v2 H T Q th h1 h2 e k
    cases d1 with
    | lst o xs =>
      obtain ⟨i, rfl, hx⟩ := vIxL_ok (show vIxL xs d2 = .ok d from e)
      obtain ⟨a, vs, ev, hs, hr⟩ := h1.sql0
      obtain ⟨w, h3, h4⟩ := atI_rep hr hx
      exact .inl (.inl ⟨a, vs, _, w, ev, h2.1, hs, h3, k _ H T [] (New.refl th) h4⟩)
    | tup xs =>
      obtain ⟨i, rfl, hx⟩ := vIxL_ok (show vIxL xs d2 = .ok d from e)
      obtain ⟨a, vs, ev, hs, hr⟩ := h1
      obtain ⟨w, h3, h4⟩ := atI_rep hr hx
      exact .inl (.inr (.inl ⟨a, vs, _, w, ev, h2.1, .inl (.inl hs), h3, k _ H T [] (New.refl th) h4⟩))
    | ktp xs =>
      obtain ⟨i, rfl, hx⟩ := vIxL_ok (show vIxL xs d2 = .ok d from e)
      obtain ⟨a, vs, ev, hs, hr⟩ := h1
      obtain ⟨w, h3, h4⟩ := atI_rep hr hx
      exact .inl (.inr (.inl ⟨a, vs, _, w, ev, h2.1, .inr hs, h3, k _ H T [] (New.refl th) h4⟩))
    | str z =>
      have e : vIxS z d2 = .ok d := e
      unfold vIxS at e
      split at e
      · split at e
        · rename_i hl
          split at e
          · rename_i c hc
            cases e
            exact .inl (.inr (.inr ⟨_, _, c, h1.1, h2.1, hl, hc, k _ H T [] (New.refl th) ⟨rfl, rfl⟩⟩))
          · cases e
        · cases e
      · cases e
    | dic o ks xs =>
      obtain ⟨a, r, ev, g, q1, q2⟩ := dGet_is h1 h2 (vIxD_ok (show vIxD (dGet (.dic o ks xs) d2) = .ok d from e))
      obtain ⟨u, hu, ru⟩ := q1 _ rfl
      subst hu
      exact .inr ⟨a, u, ev, g, k _ H T [] (New.refl th) ru⟩
    | dtt o ks xs =>
      obtain ⟨a, r, ev, g, q1, q2⟩ := dGet_is h1 h2 (vIxD_ok (show vIxD (dGet (.dtt o ks xs) d2) = .ok d from e))
      obtain ⟨u, hu, ru⟩ := q1 _ rfl
      subst hu
      exact .inr ⟨a, u, ev, g, k _ H T [] (New.refl th) ru⟩
    | _ => cases e
  · intro d1 d2 c e
    cases d1 with
    | lst o xs => have e : vIxL xs d2 = .ex c := e; unfold vIxL at e; (repeat' split at e) <;> cases e
    | tup xs => have e : vIxL xs d2 = .ex c := e; unfold vIxL at e; (repeat' split at e) <;> cases e
    | ktp xs => have e : vIxL xs d2 = .ex c := e; unfold vIxL at e; (repeat' split at e) <;> cases e
    | str z => have e : vIxS z d2 = .ex c := e; unfold vIxS at e; (repeat' split at e) <;> cases e
    | dic o ks xs => have e : vIxD (dGet (.dic o ks xs) d2) = .ex c := e; unfold vIxD at e; (repeat' split at e) <;> cases e
    | dtt o ks xs => have e : vIxD (dGet (.dtt o ks xs) d2) = .ex c := e; unfold vIxD at e; (repeat' split at e) <;> cases e
    | _ => cases e
theorem vInS_ok {mk : List PyData → PyData} {neg : Bool} {x d : D} {ys : List D} (e : vInS mk neg x ys = .ok d) : ∃ p qs, x.py = some p ∧ pys ys = some qs ∧ SeqAt.shaped p = true ∧ SeqAt.shaped (mk qs) = true ∧ d = .bl ((qs.any fun z => PyData.eqv z p) != neg) := by
  unfold vInS at e
  split at e
  · split at e
    · rename_i hc
      cases e
      rw [Bool.and_eq_true] at hc
      exact ⟨_, _, by assumption, by assumption, hc.1, hc.2, rfl⟩
    · cases e
  · cases e
theorem str_one {w : Str} (h : w.cps.size = 1) : w = ⟨#[w.cps.getD 0 0]⟩ := by
  obtain ⟨a⟩ := w
  obtain ⟨l⟩ := a
  match l, h with
  | [c], _ => rfl
theorem o_in (neg : Bool) : Op2 (bOf N X) (rIn4 X.K neg) (vIn neg) := by
  constructor
  · intro d1 d2 d v1 v2 H T Q th h1 h2 e k
    cases d2 with
    | lst o ys =>
      obtain ⟨p, qs, e1, e2, c1, c2, rfl⟩ := vInS_ok (show vInS .list neg d1 ys = .ok d from e)
      have h3 := Rep.dp _ h2 (show D.py (.lst o ys) = some (.list qs) by rw [D.py, e2]; rfl)
      have h4 := Rep.dp _ h1 e1
      refine .inl ?_
      cases neg with
      | false =>
        rw [if_neg Bool.false_ne_true]
        rw [Bool.bne_false] at k
        exact ⟨p, qs, h4, h3, c1, c2, k _ H T [] (New.refl th) ⟨rfl, rfl⟩⟩
      | true =>
        rw [if_pos rfl]
        rw [Bool.bne_true] at k
        exact ⟨p, qs, h4, h3, c1, c2, k _ H T [] (New.refl th) ⟨rfl, rfl⟩⟩
    | tup ys =>
      obtain ⟨p, qs, e1, e2, c1, c2, rfl⟩ := vInS_ok (show vInS .tuple neg d1 ys = .ok d from e)
      have h3 := Rep.dp _ h2 (show D.py (.tup ys) = some (.tuple qs) by rw [D.py, e2]; rfl)
      exact .inr (.inl ⟨p, qs, Rep.dp _ h1 e1, h3, c1, c2, k _ H T [] (New.refl th) ⟨rfl, rfl⟩⟩)
    | ktp ys =>
      obtain ⟨p, qs, e1, e2, c1, c2, rfl⟩ := vInS_ok (show vInS .tuple neg d1 ys = .ok d from e)
      have h3 := Rep.dp _ h2 (show D.py (.ktp ys) = some (.tuple qs) by rw [D.py, e2]; rfl)
      exact .inr (.inl ⟨p, qs, Rep.dp _ h1 e1, h3, c1, c2, k _ H T [] (New.refl th) ⟨rfl, rfl⟩⟩)
    | str z =>
      have e : vInC neg d1 z = .ok d := e
      cases d1 with
      | str w =>
        have e : (if w.cps.size = 1 then .ok (.bl (decide (w.cps.getD 0 0 ∈ z.cps.toList) != neg)) else .no : R D) = .ok d := e
        split at e
        · rename_i hc
          cases e
          refine .inr (.inr (.inl ⟨w.cps.getD 0 0, z, ?_, h2.1, k _ H T [] (New.refl th) ⟨rfl, rfl⟩⟩))
          rw [← str_one hc]
          exact h1.1
        · cases e
      | _ => cases e
    | dic o ks xs =>
      have e : vInD neg (dGet (.dic o ks xs) d1) = .ok d := e
      unfold vInD at e
      split at e
      · rename_i o ho
        cases e
        obtain ⟨a, r, ev, g, q1, q2⟩ := dGet_is h2 h1 ho
        have er : r.isSome = o.isSome := by
          cases o with
          | none => rw [q2 rfl]; rfl
          | some x => obtain ⟨u, hu, _⟩ := q1 x rfl; rw [hu]; rfl
        refine .inr (.inr (.inr ⟨a, r, ev, g, ?_⟩))
        rw [er]
        exact k _ H T [] (New.refl th) ⟨rfl, rfl⟩
      · cases e
    | dtt o ks xs =>
      have e : vInD neg (dGet (.dtt o ks xs) d1) = .ok d := e
      unfold vInD at e
      split at e
      · rename_i o ho
        cases e
        obtain ⟨a, r, ev, g, q1, q2⟩ := dGet_is h2 h1 ho
        have er : r.isSome = o.isSome := by
          cases o with
          | none => rw [q2 rfl]; rfl
          | some x => obtain ⟨u, hu, _⟩ := q1 x rfl; rw [hu]; rfl
        refine .inr (.inr (.inr ⟨a, r, ev, g, ?_⟩))
        rw [er]
        exact k _ H T [] (New.refl th) ⟨rfl, rfl⟩
      · cases e
    | _ => cases e
  · intro d1 d2 c e
    cases d2 with
    | lst o ys => have e : vInS .list neg d1 ys = .ex c := e; unfold vInS at e; (repeat' split at e) <;> cases e
    | tup ys => have e : vInS .tuple neg d1 ys = .ex c := e; unfold vInS at e; (repeat' split at e) <;> cases e
    | ktp ys => have e : vInS .tuple neg d1 ys = .ex c := e; unfold vInS at e; (repeat' split at e) <;> cases e
    | str z => have e : vInC neg d1 z = .ex c := e; unfold vInC at e; (repeat' split at e) <;> cases e
    | dic o ks xs => have e : vInD neg (dGet (.dic o ks xs) d1) = .ex c := e; unfold vInD at e; (repeat' split at e) <;> cases e
    | dtt o ks xs => have e : vInD neg (dGet (.dtt o ks xs) d1) = .ex c := e; unfold vInD at e; (repeat' split at e) <;> cases e
    | _ => cases e
theorem ve_ix {a b : Expr} {pos : Pos} {W : WX} {Vs Vs' : List Nat} {fa fb : En → R D} {k : Nat} (hr : Room k X.A) (hs : PlainIx b) (ha : VE N X W Vs a fa) (hb : VE N X W Vs' b fb) : VE N X W (Vs ++ Vs') (.Subscript a b pos) (ev2 vIx fa fb) :=
  ve_op2 o_ix ha hb fun p q => pe_ix (ixr_all hr) p q hs
end
end VA


set_option Elab.async false
set_option linter.all false
set_option maxRecDepth 100000
set_option maxHeartbeats 2000000
/-! VE1: slices, calls. -/
namespace VA
open PySem PySem.Spec L2

section
variable {N : Inf} {X : Cx} {W : WX} {Vs Vs' Vs2 : List Nat} {e a b : Expr} {es : List Expr} {f fa fb : En → R D} {fs : En → R (List D)} {pos : Pos}
/-! ### slices -/
def cutL {α : Type} (xs : List α) (lo hi : Option Int) : List α := (xs.drop (HT.sIx xs.length 0 lo)).take (HT.sIx xs.length xs.length hi - HT.sIx xs.length 0 lo)
def PostO (B : Tab) (W : WX) (σ : St) (H : Hp) (r : R (Option Int)) (Q : Option Int → Hp → Prop) : Prop := match r with
  | .ok o => ∀ H', Same H H' → Q o H'
  | .ex c => ∀ H', Same H H' → W (.ref (B.ca c)) none σ H'
  | .no => False
def tOi (B : Tab) (W : WX) (Vs : List Nat) (f : En → R (Option Int)) : TO := fun σ H Q => ∃ T env, Th H T ∧ EnvV B Vs H T σ env ∧ PostO B W σ H (f env) Q
def VO (N : Inf) (X : Cx) (W : WX) (Vs : List Nat) (e : Option Expr) (f : En → R (Option Int)) : Prop := PO X e (tOi (bOf N X) W Vs f)
def evNo : En → R (Option Int) := fun _ => .ok none
def asInt : D → R (Option Int)
  | .int i => .ok (some i)
  | _ => .no
def evSo (f : En → R D) : En → R (Option Int) := fun env => (f env).bind asInt
theorem vo_none : VO N X W [] none evNo := ⟨fun pins s σ H Q I h => by
  obtain ⟨T, env, th, hv, h⟩ := h
  exact po_none.run pins s σ H Q I (h H (Same.refl H))⟩
theorem vo_some (h : VE N X W Vs e f) : VO N X W Vs (some e) (evSo f) := ⟨fun pins s σ H Q I q => by
  refine (po_some h).run pins s σ H Q I ?_
  obtain ⟨T, env, th, hv, q⟩ := q
  refine ⟨T, env, th, hv, ?_⟩
  unfold evSo at q
  revert q
  cases f env with
  | no => exact id
  | ex c => exact id
  | ok d =>
    cases d with
    | int i => exact fun q v H' T' F n r => ⟨i, r.1, q H' n.same⟩
    | _ => exact fun q => q.elim⟩
def vSl : D → Option Int → Option Int → R D
  | .lst _ xs, lo, hi => .ok (.lst .own (cutL xs lo hi))
  | .tup xs, lo, hi => .ok (.tup (cutL xs lo hi))
  | .str z, lo, hi => if z.length ≤ sizeLine then .ok (.str (cutS z lo hi)) else .no
  | _, _, _ => .no
def evSl (f : En → R D) (l h : En → R (Option Int)) : En → R D := fun env => (f env).bind fun x => (l env).bind fun lo => (h env).bind fun hi => vSl x.shr lo hi
def rSl3 (K : PySem.W.Frag) : V → Option Int → Option Int → Hp → VK → Prop := fun x lo hi H Q => rSlL K x lo hi H Q ∨ rSlA K x lo hi H Q ∨ rSlS x lo hi H Q
theorem slr_all : SlR X (rSl3 X.K) := sl_list.or (sl_tupA.or sl_str)
theorem Reps.cut {B : Tab} {H : Hp} {T : Addr → Prop} {ds : List D} {vs : List V} (h : Reps B H T ds vs []) (lo hi : Option Int) : Reps B H T (cutL ds lo hi) (cutV vs lo hi) [] := by
  unfold cutL cutV
  rw [h.len]
  exact (h.drop _).take _
theorem o_sl {B : Tab} {d1 d : D} {v1 : V} {lo hi : Option Int} {H : Hp} {T : Addr → Prop} {Q : VK} (th : Th H T) (h1 : Rep B H T d1 v1 []) (e : vSl d1 lo hi = .ok d) (k : ∀ v H' T' F, New H T H' T' F → Rep B H' T' d v F → Q v H') : rSl3 B.K v1 lo hi H Q := by
  cases d1 with
  | lst o xs =>
    cases e
    obtain ⟨a, vs, ev, hs, hr⟩ := h1.sql0
    exact .inl ⟨a, vs, ev, hs, new_lst th (hr.cut lo hi) k⟩
  | tup xs =>
    cases e
    obtain ⟨a, vs, ev, hs, hr⟩ := h1
    refine .inr (.inl ⟨a, vs, ev, .inl (.inl hs), fun z => ?_, fun _ => new_tup th (hr.cut lo hi) k⟩)
    have q := hr.cut lo hi
    have e : cutV vs lo hi = vs := by
      unfold cutV
      rw [z.1, z.2, List.drop_zero, Nat.sub_zero, List.take_length]
    rw [e] at q
    exact k _ H T [] (New.refl th) ⟨a, vs, rfl, hs, q⟩
  | str z =>
    have e : (if z.length ≤ sizeLine then .ok (.str (cutS z lo hi)) else .no : R D) = .ok d := e
    split at e
    · rename_i hl
      cases e
      exact .inr (.inr ⟨z, h1.1, hl, k _ H T [] (New.refl th) ⟨rfl, rfl⟩⟩)
    · cases e
  | _ => cases e
theorem seqO {B : Tab} {σ : St} {H : Hp} {T : Addr → Prop} {r : R (Option Int)} {k : Option Int → R D} {Q : VK} {Q' : Option Int → Hp → Prop} (th : Th H T) (h : PostE B W σ H T (r.bind k) Q)
    (g : ∀ o H', Same H H' → PostE B W σ H' T (k o) Q → Q' o H') : PostO B W σ H r Q' := by
  cases r with
  | no => exact h
  | ex c => exact h
  | ok o =>
    intro H' s
    refine g o H' s ?_
    have h : PostE B W σ H T (k o) Q := h
    revert h
    cases k o with
    | no => exact id
    | ex c => exact fun h H2 t => h H2 (s.trans t)
    | ok d2 => exact fun h v2 H2 T2 F2 m r2 => h v2 H2 T2 F2 ⟨s.trans m.same, m.le, fun a z => (m.new a z).imp_right fun z => s.free z, m.nd, fun a z => ⟨s.free (m.own a z).1, (m.own a z).2⟩, m.th, m.fth⟩ r2
theorem ve_sl {lo hi : Option Expr} {p2 : Pos} {fl fh : En → R (Option Int)} (ha : VE N X W Vs a fa) (hl : VO N X W Vs' lo fl) (hh : VO N X W Vs2 hi fh) : VE N X W (Vs ++ (Vs' ++ Vs2)) (.Subscript a (.Slice lo hi none p2) pos) (evSl fa fl fh) := by
  refine pe_mono (pe_slice slr_all ha hl hh) fun σ H Q ⟨T, env, th, hv, p⟩ => ?_
  refine ⟨T, env, th, hv.left, seqE (α := D) p fun d1 v1 H1 T1 F1 n1 r1 p1 => ?_⟩
  have hv1 := hv.right.next n1.same fun a h => Or.inl (b := a ∈ F1) (n1.le a h)
  refine ⟨TU T1 F1, env, n1.share.th, hv1.left, seqO n1.share.th p1 fun l H2 s2 p2 => ?_⟩
  refine ⟨TU T1 F1, env, n1.share.th.same s2, hv1.right.next s2 fun _ h => h, seqO (n1.share.th.same s2) p2 fun u H3 s3 p3 => ?_⟩
  revert p3
  cases hg : vSl d1.shr l u with
  | no => exact fun h => h.elim
  | ex c =>
    exfalso
    cases d1 with
    | str z =>
      have e : (if z.length ≤ sizeLine then .ok (.str (cutS z l u)) else .no : R D) = .ex c := hg
      split at e <;> cases e
    | _ => cases hg
  | ok d => exact fun p3 => o_sl ((n1.share.th.same s2).same s3) ((r1.sh.same s2).same s3) hg p3
/-! [::-1] -/
def vRev : D → R D
  | .lst _ xs => .ok (.lst .own xs.reverse)
  | _ => .no
theorem o_rev : Op1 (bOf N X) (fun x H Q => ∃ a xs, x = .ref a ∧ SqL X.K H a xs ∧ ∀ p, H p = none → Q (.ref p) (upd H p (.lst xs.reverse))) vRev := by
  constructor
  · intro d1 d v1 H T Q th h1 e k
    cases d1 with
    | lst o xs =>
      cases e
      obtain ⟨a, vs, ev, hs, hr⟩ := h1.sql0
      exact ⟨a, vs, ev, hs, new_lst th hr.reverse k⟩
    | _ => cases e
  · intro d1 c e
    cases d1 <;> cases e
theorem ve_rev {k : Nat} {p1 p2 p3 : Pos} (ha : VE N X W Vs a fa) : VE N X W Vs (.Subscript a (.Slice none none (some (.UnaryOp .USub (.Constant (.int 1) k p1) p2)) p3) pos) (ev1 vRev fa) :=
  ve_op1 o_rev ha fun p => pe_revL p
def vNeg : D → R D
  | .int i => .ok (.int (-i))
  | _ => .no
theorem o_neg : Op1 (bOf N X) (rU fun i => .int (-i)) vNeg := by
  constructor
  · intro d1 d v1 H T Q th h1 e k
    cases d1 with
    | int i =>
      cases e
      exact ⟨i, h1.1, k _ H T [] (New.refl th) ⟨rfl, rfl⟩⟩
    | _ => cases e
  · intro d1 c e
    cases d1 <;> cases e
theorem ve_neg (ha : VE N X W Vs a fa) : VE N X W Vs (.UnaryOp .USub a pos) (ev1 vNeg fa) := ve_op1 o_neg ha fun p => pe_un un_neg p

/-! ### calls of built-in functions -/
structure OpN (B : Tab) (r : List V → Hp → VK → Prop) (g : List D → R D) : Prop where
  ok : ∀ {ds : List D} {d : D} {vs : List V} {H : Hp} {T : Addr → Prop} {Q : VK}, Th H T → Reps B H T ds vs [] → g ds = .ok d → (∀ v H' T' F, New H T H' T' F → Rep B H' T' d v F → Q v H') → r vs H Q
  ex : ∀ {ds : List D} {c : Nat}, g ds ≠ .ex c
def evN (g : List D → R D) (fs : En → R (List D)) : En → R D := fun env => (fs env).bind fun xs => g (shrs xs)
theorem rd_N {r : List V → Hp → VK → Prop} {g : List D → R D} (o : OpN (bOf N X) r g) {σ : St} {H : Hp} {Q : VK} (h : tE (bOf N X) W Vs (evN g fs) σ H Q) : tCB r (tA (bOf N X) W Vs fs) σ H Q := by
  obtain ⟨T, env, th, hv, p⟩ := h
  refine ⟨T, env, th, hv, seqA (H := H) (T := T) p fun ds vs H1 T1 F1 n1 r1 p1 => ?_⟩
  revert p1
  cases hg : g (shrs ds) with
  | no => exact fun h => h.elim
  | ex c => exact absurd hg o.ex
  | ok d => exact fun p1 => o.ok n1.share.th r1.sh hg fun v H' T' F m rr => p1 v H' T' F (n1.comp m) rr
theorem ve_N {r : List V → Hp → VK → Prop} {g : List D → R D} (o : OpN (bOf N X) r g) (ha : VAs N X W Vs es fs) (pe : ∀ {t : TA}, PA X es t → PE X e (tCB r t)) : VE N X W Vs e (evN g fs) :=
  pe_mono (pe ha) fun _ _ _ h => rd_N o h
/-- one argument -/
theorem opn1 {B : Tab} {r : V → Hp → VK → Prop} {g : D → R D} (o : Op1 B r g) : OpN B (fun vs H Q => ∃ x, vs = [x] ∧ r x H Q) (fun ds => match ds with | [d] => g d | _ => .no) := by
  constructor
  · intro ds d vs H T Q th h1 e k
    match ds, e, h1 with
    | [d1], e, ⟨v, vs', F1, F2, ev, e0, h1, h2⟩ =>
      obtain ⟨rfl, rfl⟩ := List.append_eq_nil_iff.mp e0.symm
      refine ⟨v, by rw [ev, h2.1], o.ok th h1 e k⟩
  · intro ds c e
    match ds, e with
    | [d1], e => exact o.ex e
def evF1 (g : D → R D) (fs : En → R (List D)) : En → R D := evN (fun ds => match ds with | [d] => g d | _ => .no) fs

def vLen : D → R D
  | .str z => if z.length ≤ sizeLine then .ok (.int z.length) else .no
  | .lst _ xs => .ok (.int xs.length)
  | .tup xs => .ok (.int xs.length)
  | .ktp xs => .ok (.int xs.length)
  | _ => .no
theorem o_len : Op1 (bOf N X) (fun x H Q => ∃ n : Nat, LenV X.K x H n ∧ Q (.int n) H) vLen := by
  constructor
  · intro d1 d v1 H T Q th h1 e k
    cases d1 with
    | str z =>
      have e : (if z.length ≤ sizeLine then .ok (.int z.length) else .no : R D) = .ok d := e
      split at e
      · rename_i hl
        cases e
        rw [h1.1]
        exact ⟨z.length, ⟨hl, rfl⟩, k _ H T [] (New.refl th) ⟨rfl, rfl⟩⟩
      · cases e
    | lst o xs =>
      cases e
      obtain ⟨a, vs, ev, hs, hr⟩ := h1.sql0
      rw [ev]
      exact ⟨xs.length, .inl ⟨vs, hs, hr.len⟩, k _ H T [] (New.refl th) ⟨rfl, rfl⟩⟩
    | tup xs =>
      cases e
      obtain ⟨a, vs, ev, hs, hr⟩ := h1
      rw [ev]
      exact ⟨xs.length, .inr ⟨vs, .inl (.inl hs), hr.len⟩, k _ H T [] (New.refl th) ⟨rfl, rfl⟩⟩
    | ktp xs =>
      cases e
      obtain ⟨a, vs, ev, hs, hr⟩ := h1
      rw [ev]
      exact ⟨xs.length, .inr ⟨vs, .inr hs, hr.len⟩, k _ H T [] (New.refl th) ⟨rfl, rfl⟩⟩
    | _ => cases e
  · intro d1 c e
    cases d1 with
    | str z =>
      have e : (if z.length ≤ sizeLine then .ok (.int z.length) else .no : R D) = .ex c := e
      split at e <;> cases e
    | _ => cases e
theorem cr_len : CallR X (.builtin "len") (fun vs H Q => ∃ x, vs = [x] ∧ ∃ n : Nat, LenV X.K x H n ∧ Q (.int n) H) := by
  intro pins s σ H xs us Q I r ⟨x, e, n, hl, q⟩
  exact call_len pins s σ H xs us Q I r ⟨x, n, e, hl, q⟩

/-- a list of ints -/
def onInts (g : List Int → R D) : D → R D
  | .lst _ xs => match ints? xs with | some ns => g ns | none => .no
  | _ => .no
theorem onInts_ok {g : List Int → R D} {d1 d : D} (e : onInts g d1 = .ok d) : ∃ o ns, d1 = .lst o (ns.map D.int) ∧ g ns = .ok d := by
  cases d1 with
  | lst o xs =>
    have e : (match ints? xs with | some ns => g ns | none => .no) = .ok d := e
    split at e
    · rename_i ns hn
      exact ⟨o, ns, by rw [← ints?_some hn], e⟩
    · cases e
  | _ => cases e
theorem onInts_ex {g : List Int → R D} (hg : ∀ ns c, g ns ≠ .ex c) {d1 : D} {c : Nat} : onInts g d1 ≠ .ex c := by
  intro e
  cases d1 with
  | lst o xs =>
    have e : (match ints? xs with | some ns => g ns | none => .no) = .ex c := e
    split at e
    · exact hg _ _ e
    · cases e
  | _ => cases e
theorem Rep.ints {B : Tab} {H : Hp} {T : Addr → Prop} {o : Fl} {ns : List Int} {v : V} (h : Rep B H T (.lst o (ns.map D.int)) v []) : ∃ a, v = .ref a ∧ SqL B.K H a (ns.map V.int) := by
  obtain ⟨a, vs, ev, hs, hr⟩ := h.sql0
  rw [hr.ints] at hs
  exact ⟨a, ev, hs⟩
def maxI : List Int → Int
  | [] => 0
  | [x] => x
  | x :: r => max x (maxI r)
def minI : List Int → Int
  | [] => 0
  | [x] => x
  | x :: r => min x (minI r)
theorem maxI_cons (x y : Int) (r : List Int) : maxI (x :: y :: r) = max x (maxI (y :: r)) := rfl
theorem minI_cons (x y : Int) (r : List Int) : minI (x :: y :: r) = min x (minI (y :: r)) := rfl
theorem maxI_mem : ∀ {ns : List Int}, 0 < ns.length → maxI ns ∈ ns
  | [x], _ => List.mem_singleton.mpr rfl
  | x :: y :: r, _ => by
    rw [maxI_cons]
    have h := maxI_mem (ns := y :: r) (by simp)
    rcases Int.le_total (maxI (y :: r)) x with q | q
    · rw [Int.max_eq_left q]; exact List.mem_cons_self
    · rw [Int.max_eq_right q]; exact List.mem_cons_of_mem _ h
theorem maxI_le : ∀ {ns : List Int} {y : Int}, y ∈ ns → y ≤ maxI ns
  | [x], y, h => by rw [List.mem_singleton.mp h]; exact Int.le_refl _
  | x :: z :: r, y, h => by
    rw [maxI_cons]
    rcases List.mem_cons.mp h with rfl | h
    · exact Int.le_max_left _ _
    · exact Int.le_trans (maxI_le h) (Int.le_max_right _ _)
theorem minI_mem : ∀ {ns : List Int}, 0 < ns.length → minI ns ∈ ns
  | [x], _ => List.mem_singleton.mpr rfl
  | x :: y :: r, _ => by
    rw [minI_cons]
    have h := minI_mem (ns := y :: r) (by simp)
    rcases Int.le_total x (minI (y :: r)) with q | q
    · rw [Int.min_eq_left q]; exact List.mem_cons_self
    · rw [Int.min_eq_right q]; exact List.mem_cons_of_mem _ h
theorem minI_le : ∀ {ns : List Int} {y : Int}, y ∈ ns → minI ns ≤ y
  | [x], y, h => by rw [List.mem_singleton.mp h]; exact Int.le_refl _
  | x :: z :: r, y, h => by
    rw [minI_cons]
    rcases List.mem_cons.mp h with rfl | h
    · exact Int.min_le_left _ _
    · exact Int.le_trans (Int.min_le_right _ _) (minI_le h)
def vMax : List D → R D
  | [d] => onInts (fun ns => if 0 < ns.length then .ok (.int (maxI ns)) else .no) d
  | [.int i, .int j] => .ok (.int (if j > i then j else i))
  | _ => .no
def vMin : List D → R D
  | [d] => onInts (fun ns => if 0 < ns.length then .ok (.int (minI ns)) else .no) d
  | [.int i, .int j] => .ok (.int (if j < i then j else i))
  | _ => .no
abbrev rOrN (r r' : List V → Hp → VK → Prop) : List V → Hp → VK → Prop := fun xs H Q => r xs H Q ∨ r' xs H Q
def rMax2' : List V → Hp → VK → Prop := fun xs H Q => ∃ i j, xs = [.int i, .int j] ∧ Q (.int (if j > i then j else i)) H
def rMin2' : List V → Hp → VK → Prop := fun xs H Q => ∃ i j, xs = [.int i, .int j] ∧ Q (.int (if j < i then j else i)) H
theorem cr_maxA (hc : X.calm = true) : CallR X (.builtin "max") (rOrN (rMax X.K) rMax2') := (cr_max hc).or (call_max2 hc)
theorem cr_minA (hc : X.calm = true) : CallR X (.builtin "min") (rOrN (rMin X.K) rMin2') := (cr_min hc).or (call_min2 hc)
theorem Reps.one_of {B : Tab} {H : Hp} {T : Addr → Prop} {d : D} {vs : List V} (h : Reps B H T [d] vs []) : ∃ v, vs = [v] ∧ Rep B H T d v [] := by
  obtain ⟨v, vs', F1, F2, ev, e0, h1, h2⟩ := h
  obtain ⟨rfl, rfl⟩ := List.append_eq_nil_iff.mp e0.symm
  exact ⟨v, by rw [ev, h2.1], h1⟩
theorem Reps.two_of {B : Tab} {H : Hp} {T : Addr → Prop} {d d' : D} {vs : List V} (h : Reps B H T [d, d'] vs []) : ∃ v v', vs = [v, v'] ∧ Rep B H T d v [] ∧ Rep B H T d' v' [] := by
  obtain ⟨v, vs', F1, F2, ev, e0, h1, h2⟩ := h
  obtain ⟨rfl, rfl⟩ := List.append_eq_nil_iff.mp e0.symm
  obtain ⟨v', e2, h3⟩ := Reps.one_of h2
  exact ⟨v, v', by rw [ev, e2], h1, h3⟩
theorem o_max : OpN (bOf N X) (rOrN (rMax X.K) rMax2') vMax := by
  constructor
  · intro ds d vs H T Q th h1 e k
    match ds, e, h1 with
    | [d1], e, h1 =>
      obtain ⟨o, ns, rfl, e9⟩ := onInts_ok (show onInts _ d1 = .ok d from e)
      obtain ⟨v, ev, h1⟩ := Reps.one_of h1
      obtain ⟨a, e2, hs⟩ := h1.ints
      split at e9
      · rename_i hl
        cases e9
        refine .inl ⟨a, ns, by rw [ev, e2], hs, hl, fun m hm hle => ?_⟩
        have : m = maxI ns := Int.le_antisymm (maxI_le hm) (hle _ (maxI_mem hl))
        rw [this]
        exact k _ H T [] (New.refl th) ⟨rfl, rfl⟩
      · cases e9
    | [.int i, .int j], e, h1 =>
      cases e
      obtain ⟨v, v', ev, h1, h2⟩ := Reps.two_of h1
      exact .inr ⟨i, j, by rw [ev, h1.1, h2.1], k _ H T [] (New.refl th) ⟨rfl, rfl⟩⟩
  · intro ds c e
    unfold vMax at e
    split at e
    · exact onInts_ex (fun ns c z => by split at z <;> cases z) e
    · cases e
    · cases e
theorem o_min : OpN (bOf N X) (rOrN (rMin X.K) rMin2') vMin := by
  constructor
  · intro ds d vs H T Q th h1 e k
    match ds, e, h1 with
    | [d1], e, h1 =>
      obtain ⟨o, ns, rfl, e9⟩ := onInts_ok (show onInts _ d1 = .ok d from e)
      obtain ⟨v, ev, h1⟩ := Reps.one_of h1
      obtain ⟨a, e2, hs⟩ := h1.ints
      split at e9
      · rename_i hl
        cases e9
        refine .inl ⟨a, ns, by rw [ev, e2], hs, hl, fun m hm hle => ?_⟩
        have : m = minI ns := Int.le_antisymm (hle _ (minI_mem hl)) (minI_le hm)
        rw [this]
        exact k _ H T [] (New.refl th) ⟨rfl, rfl⟩
      · cases e9
    | [.int i, .int j], e, h1 =>
      cases e
      obtain ⟨v, v', ev, h1, h2⟩ := Reps.two_of h1
      exact .inr ⟨i, j, by rw [ev, h1.1, h2.1], k _ H T [] (New.refl th) ⟨rfl, rfl⟩⟩
  · intro ds c e
    unfold vMin at e
    split at e
    · exact onInts_ex (fun ns c z => by split at z <;> cases z) e
    · cases e
    · cases e
def vSum : List D → R D
  | [d] => onInts (fun ns => .ok (.int ns.sum)) d
  | _ => .no
theorem o_sum : OpN (bOf N X) (rSum X.K) vSum := by
  constructor
  · intro ds d vs H T Q th h1 e k
    match ds, e, h1 with
    | [d1], e, h1 =>
      obtain ⟨o, ns, rfl, e9⟩ := onInts_ok (show onInts _ d1 = .ok d from e)
      obtain ⟨v, ev, h1⟩ := Reps.one_of h1
      obtain ⟨a, e2, hs⟩ := h1.ints
      cases e9
      exact ⟨a, ns, by rw [ev, e2], hs, k _ H T [] (New.refl th) ⟨rfl, rfl⟩⟩
  · intro ds c e
    match ds, e with
    | [d1], e => exact onInts_ex (fun ns c z => by cases z) (show onInts _ d1 = .ex c from e)
/-- sorted -/
def srt (ns : List Int) : List Int := ns.mergeSort (fun a b => decide (a ≤ b))
theorem srt_perm (ns : List Int) : (srt ns).Perm ns := List.mergeSort_perm ns _
theorem srt_sorted (ns : List Int) : (srt ns).Pairwise (· ≤ ·) := by
  have h := List.pairwise_mergeSort (le := fun a b : Int => decide (a ≤ b)) (fun a b c h1 h2 => by simp only [decide_eq_true_eq] at *; omega) (fun a b => by simp only [Bool.or_eq_true, decide_eq_true_eq]; omega) ns
  exact h.imp fun z => by simpa using z
theorem srt_eq {ns ms : List Int} (p : ms.Perm ns) (s : ms.Pairwise (· ≤ ·)) : ms = srt ns :=
  List.Perm.eq_of_pairwise (fun x y _ _ h1 h2 => Int.le_antisymm h1 h2) s (srt_sorted ns) (p.trans (srt_perm ns).symm)
def vSorted : List D → R D
  | [d] => onInts (fun ns => .ok (.lst .own ((srt ns).map D.int))) d
  | _ => .no
theorem o_sorted : OpN (bOf N X) (rSortedI X.K) vSorted := by
  constructor
  · intro ds d vs H T Q th h1 e k
    match ds, e, h1 with
    | [d1], e, h1 =>
      obtain ⟨o, ns, rfl, e9⟩ := onInts_ok (show onInts _ d1 = .ok d from e)
      obtain ⟨v, ev, h1⟩ := Reps.one_of h1
      obtain ⟨a, e2, hs⟩ := h1.ints
      cases e9
      refine ⟨a, ns, by rw [ev, e2], hs, fun ms p hp hsr hn => ?_⟩
      rw [srt_eq hp hsr]
      exact new_lst th (reps_ints _) k p hn
  · intro ds c e
    match ds, e with
    | [d1], e => exact onInts_ex (fun ns c z => by cases z) (show onInts _ d1 = .ex c from e)
def onBls (g : List Bool → R D) : D → R D
  | .lst _ xs => match bls? xs with | some ns => g ns | none => .no
  | _ => .no
theorem onBls_ok {g : List Bool → R D} {d1 d : D} (e : onBls g d1 = .ok d) : ∃ o ns, d1 = .lst o (ns.map D.bl) ∧ g ns = .ok d := by
  cases d1 with
  | lst o xs =>
    have e : (match bls? xs with | some ns => g ns | none => .no) = .ok d := e
    split at e
    · rename_i ns hn
      exact ⟨o, ns, by rw [← bls?_some hn], e⟩
    · cases e
  | _ => cases e
theorem onBls_ex {g : List Bool → R D} (hg : ∀ ns c, g ns ≠ .ex c) {d1 : D} {c : Nat} : onBls g d1 ≠ .ex c := by
  intro e
  cases d1 with
  | lst o xs =>
    have e : (match bls? xs with | some ns => g ns | none => .no) = .ex c := e
    split at e
    · exact hg _ _ e
    · cases e
  | _ => cases e
def vAll : List D → R D
  | [d] => onBls (fun bs => .ok (.bl (bs.all id))) d
  | _ => .no
def vAny : List D → R D
  | [d] => onBls (fun bs => .ok (.bl (bs.any id))) d
  | _ => .no
theorem o_all : OpN (bOf N X) (rAll X.K) vAll := by
  constructor
  · intro ds d vs H T Q th h1 e k
    match ds, e, h1 with
    | [d1], e, h1 =>
      obtain ⟨o, ns, rfl, e9⟩ := onBls_ok (show onBls _ d1 = .ok d from e)
      obtain ⟨v, ev, h1⟩ := Reps.one_of h1
      obtain ⟨a, vs, e2, hs, hr⟩ := h1.sql0
      rw [hr.bls] at hs
      cases e9
      exact ⟨a, ns, by rw [ev, e2], hs, k _ H T [] (New.refl th) ⟨rfl, rfl⟩⟩
  · intro ds c e
    match ds, e with
    | [d1], e => exact onBls_ex (fun ns c z => by cases z) (show onBls _ d1 = .ex c from e)
theorem o_any : OpN (bOf N X) (rAny X.K) vAny := by
  constructor
  · intro ds d vs H T Q th h1 e k
    match ds, e, h1 with
    | [d1], e, h1 =>
      obtain ⟨o, ns, rfl, e9⟩ := onBls_ok (show onBls _ d1 = .ok d from e)
      obtain ⟨v, ev, h1⟩ := Reps.one_of h1
      obtain ⟨a, vs, e2, hs, hr⟩ := h1.sql0
      rw [hr.bls] at hs
      cases e9
      exact ⟨a, ns, by rw [ev, e2], hs, k _ H T [] (New.refl th) ⟨rfl, rfl⟩⟩
  · intro ds c e
    match ds, e with
    | [d1], e => exact onBls_ex (fun ns c z => by cases z) (show onBls _ d1 = .ex c from e)
/-- list(xs), tuple(xs) -/
def vList : List D → R D
  | [.lst _ xs] => .ok (.lst .own xs)
  | [.tup xs] => .ok (.lst .own xs)
  | [.ktp xs] => .ok (.lst .own xs)
  | _ => .no
def vTuple : List D → R D
  | [.lst _ xs] => .ok (.tup xs)
  | [.tup xs] => .ok (.tup xs)
  | _ => .no
theorem o_list : OpN (bOf N X) (fun xs H Q => ∃ p ys, xs = [.ref p] ∧ (SqL X.K H p ys ∨ SqT X.K H p ys) ∧ ∀ l, H l = none → Q (.ref l) (upd H l (.lst ys))) vList := by
  constructor
  · intro ds d vs H T Q th h1 e k
    match ds, e, h1 with
    | [.lst o xs], e, h1 =>
      cases e
      obtain ⟨v, ev, h1⟩ := Reps.one_of h1
      obtain ⟨a, ws, e2, hs, hr⟩ := h1.sql0
      exact ⟨a, ws, by rw [ev, e2], .inl hs, new_lst th hr k⟩
    | [.tup xs], e, h1 =>
      cases e
      obtain ⟨v, ev, h1⟩ := Reps.one_of h1
      obtain ⟨a, ws, e2, hs, hr⟩ := h1
      exact ⟨a, ws, by rw [ev, e2], .inr (.inl (.inl hs)), new_lst th hr k⟩
    | [.ktp xs], e, h1 =>
      cases e
      obtain ⟨v, ev, h1⟩ := Reps.one_of h1
      obtain ⟨a, ws, e2, hs, hr⟩ := h1
      exact ⟨a, ws, by rw [ev, e2], .inr (.inr hs), new_lst th hr k⟩
  · intro ds c e
    unfold vList at e
    split at e <;> cases e
theorem o_tuple : OpN (bOf N X) (fun xs H Q => ∃ p ys, xs = [.ref p] ∧ ((SqL X.K H p ys ∧ ∀ l, H l = none → Q (.ref l) (upd H l (.tup ys))) ∨ (SqT X.K H p ys ∧ Q (.ref p) H))) vTuple := by
  constructor
  · intro ds d vs H T Q th h1 e k
    match ds, e, h1 with
    | [.lst o xs], e, h1 =>
      cases e
      obtain ⟨v, ev, h1⟩ := Reps.one_of h1
      obtain ⟨a, ws, e2, hs, hr⟩ := h1.sql0
      exact ⟨a, ws, by rw [ev, e2], .inl ⟨hs, new_tup th hr k⟩⟩
    | [.tup xs], e, h1 =>
      cases e
      obtain ⟨v, ev, h1⟩ := Reps.one_of h1
      obtain ⟨a, ws, e2, hs, hr⟩ := h1
      exact ⟨a, ws, by rw [ev, e2], .inr ⟨.inl (.inl hs), k _ H T [] (New.refl th) ⟨a, ws, rfl, hs, hr⟩⟩⟩
  · intro ds c e
    unfold vTuple at e
    split at e <;> cases e
/-- int(..), abs, bool -/
def vInt : List D → R D
  | [.int i] => .ok (.int i)
  | [.bl b] => .ok (.int (if b then 1 else 0))
  | [.str a] => if a.length ≤ 640 then match PySem.intText? a with | some n => .ok (.int n) | none => .no else .no
  | _ => .no
def rInt3 : List V → Hp → VK → Prop := rOrN (fun xs H Q => (∃ i, xs = [.int i] ∧ Q (.int i) H) ∨ ∃ k, xs = [.bl k] ∧ Q (.int (if k then 1 else 0)) H) (fun xs H Q => ∃ a n, xs = [.str a] ∧ PySem.intText? a = some n ∧ a.length ≤ 640 ∧ Q (.int n) H)
theorem cr_int : CallR X (.type "int") rInt3 := call_int1.or call_int_str
theorem o_int : OpN (bOf N X) rInt3 vInt := by
  constructor
  · intro ds d vs H T Q th h1 e k
    match ds, e, h1 with
    | [.int i], e, h1 =>
      cases e
      obtain ⟨v, ev, h1⟩ := Reps.one_of h1
      exact .inl (.inl ⟨i, by rw [ev, h1.1], k _ H T [] (New.refl th) ⟨rfl, rfl⟩⟩)
    | [.bl i], e, h1 =>
      cases e
      obtain ⟨v, ev, h1⟩ := Reps.one_of h1
      exact .inl (.inr ⟨i, by rw [ev, h1.1], k _ H T [] (New.refl th) ⟨rfl, rfl⟩⟩)
    | [.str a], e, h1 =>
      have e : (if a.length ≤ 640 then match PySem.intText? a with | some n => .ok (.int n) | none => .no else .no : R D) = .ok d := e
      split at e
      · rename_i hl
        split at e
        · rename_i n hn
          cases e
          obtain ⟨v, ev, h1⟩ := Reps.one_of h1
          exact .inr ⟨a, n, by rw [ev, h1.1], hn, hl, k _ H T [] (New.refl th) ⟨rfl, rfl⟩⟩
        · cases e
      · cases e
  · intro ds c e
    unfold vInt at e
    (repeat' split at e) <;> cases e
def vAbs : List D → R D
  | [.int i] => .ok (.int (if i < 0 then -i else i))
  | _ => .no
theorem o_abs : OpN (bOf N X) (fun xs H Q => ∃ i, xs = [.int i] ∧ Q (.int (if i < 0 then -i else i)) H) vAbs := by
  constructor
  · intro ds d vs H T Q th h1 e k
    match ds, e, h1 with
    | [.int i], e, h1 =>
      cases e
      obtain ⟨v, ev, h1⟩ := Reps.one_of h1
      exact ⟨i, by rw [ev, h1.1], k _ H T [] (New.refl th) ⟨rfl, rfl⟩⟩
  · intro ds c e
    unfold vAbs at e
    split at e <;> cases e
def vStr : List D → R D
  | [.int i] => if i.natAbs.log2 < 1920 then .ok (.str (toString i)) else .no
  | _ => .no
theorem o_str : OpN (bOf N X) (fun xs H Q => ∃ i, xs = [.int i] ∧ i.natAbs.log2 < 1920 ∧ Q (.str (toString i)) H) vStr := by
  constructor
  · intro ds d vs H T Q th h1 e k
    match ds, e, h1 with
    | [.int i], e, h1 =>
      have e : (if i.natAbs.log2 < 1920 then .ok (.str (toString i)) else .no : R D) = .ok d := e
      split at e
      · rename_i hl
        cases e
        obtain ⟨v, ev, h1⟩ := Reps.one_of h1
        exact ⟨i, by rw [ev, h1.1], hl, k _ H T [] (New.refl th) ⟨rfl, rfl⟩⟩
      · cases e
  · intro ds c e
    unfold vStr at e
    (repeat' split at e) <;> cases e
end
end VA


set_option Elab.async false
set_option linter.all false
set_option maxRecDepth 100000
set_option maxHeartbeats 2000000
/-! VE2: ranges as lists, isinstance, methods, calls of the text's own defs. -/
namespace VA
open PySem PySem.Spec L2

section
variable {N : Inf} {X : Cx} {W : WX} {Vs Vs' Vs2 : List Nat} {e a b : Expr} {es : List Expr} {f fa fb : En → R D} {fs : En → R (List D)} {pos : Pos}
/-! ### list(range(..)) -/
def rgD (a b : Int) : List D := (List.range (b - a).toNat).map fun i => D.int (a + (i : Nat))
theorem reps_rg {B : Tab} {H : Hp} {T : Addr → Prop} (a b : Int) : Reps B H T (rgD a b) (rgV a b) [] := by
  have h : ∀ l : List Nat, Reps B H T (l.map fun i => D.int (a + (i : Nat))) (l.map fun i => V.int (a + (i : Nat))) [] := fun l => by
    induction l with
    | nil => exact ⟨rfl, rfl⟩
    | cons x l ih => exact ⟨_, _, [], [], rfl, rfl, ⟨rfl, rfl⟩, ih⟩
  exact h _
def rgOk (a b : Int) : Bool := decide (-(2 ^ 62) ≤ a ∧ a < 2 ^ 62 ∧ -(2 ^ 62) ≤ b ∧ b < 2 ^ 62 ∧ (b - a).toNat ≤ 2 ^ 24)
theorem rgOk_is {a b : Int} (h : rgOk a b = true) : RgOk a b := of_decide_eq_true (p := -(2 ^ 62) ≤ a ∧ a < 2 ^ 62 ∧ -(2 ^ 62) ≤ b ∧ b < 2 ^ 62 ∧ (b - a).toNat ≤ 2 ^ 24) h
def vLR1 : D → R D
  | .int n => if rgOk 0 n then .ok (.lst .own (rgD 0 n)) else .no
  | _ => .no
def vLR2 : D → D → R D
  | .int a, .int b => if rgOk a b then .ok (.lst .own (rgD a b)) else .no
  | _, _ => .no
theorem ve_lr1 {p q pos2 : Pos} (hc : X.calm = true) (hg : Gl X "list") (hm : X.mg "list" = none) (hg2 : Gl X "range") (hm2 : X.mg "range" = none) (ha : VE N X W Vs a fa)
    (na : starEach [a] X.env = (false, eval a X.env) :: starEach [] X.env) : VE N X W Vs (.Call (.Name "list" p) [.Call (.Name "range" q) [a] [] pos2] [] pos) (ev1 vLR1 fa) := by
  refine pe_mono (pe_listRg hc hg hm (prg_1 hg2 hm2 ha na)) fun σ H Q ⟨T, env, th, hv, p⟩ => ?_
  refine ⟨T, env, th, hv, seqE (α := D) p fun d1 v1 H1 T1 F1 n1 r1 p1 => ?_⟩
  cases d1 with
  | int n =>
    have p1 : PostE (bOf N X) W σ H1 (TU T1 F1) (if rgOk 0 n then .ok (.lst .own (rgD 0 n)) else .no : R D) Q := p1
    split at p1
    · rename_i h
      exact ⟨n, r1.1, rgOk_is h, new_lst n1.share.th (reps_rg 0 n) p1⟩
    · exact p1.elim
  | _ => exact p1.elim
theorem ve_lr2 {p q pos2 : Pos} (hc : X.calm = true) (hg : Gl X "list") (hm : X.mg "list" = none) (hg2 : Gl X "range") (hm2 : X.mg "range" = none) (ha : VE N X W Vs a fa) (hb : VE N X W Vs' b fb)
    (na : starEach [a, b] X.env = (false, eval a X.env) :: starEach [b] X.env) (nb : starEach [b] X.env = (false, eval b X.env) :: starEach [] X.env) (hp : (backTo pos2 (starEach [b] X.env)).any (·.1) = false)
    (no : starEach [.Call (.Name "range" q) [a, b] [] pos2] X.env = (false, eval (.Call (.Name "range" q) [a, b] [] pos2) X.env) :: starEach [] X.env := by rfl) :
    VE N X W (Vs ++ Vs') (.Call (.Name "list" p) [.Call (.Name "range" q) [a, b] [] pos2] [] pos) (ev2 vLR2 fa fb) := by
  refine pe_mono (pe_listRg hc hg hm (prg_2 hg2 hm2 ha hb na nb hp) no) fun σ H Q ⟨T, env, th, hv, p⟩ => ?_
  refine ⟨T, env, th, hv.left, seqE (α := D) p fun d1 v1 H1 T1 F1 n1 r1 p1 => ?_⟩
  refine ⟨TU T1 F1, env, n1.share.th, hv.right.next n1.same fun a h => .inl (n1.le a h), seqE (α := D) p1 fun d2 v2 H2 T2 F2 n2 r2 p2 => ?_⟩
  cases d1 with
  | int n =>
    cases d2 with
    | int m =>
      have p2 : PostE (bOf N X) W σ H2 (TU T2 F2) (if rgOk n m then .ok (.lst .own (rgD n m)) else .no : R D) Q := p2
      split at p2
      · rename_i h
        exact ⟨n, m, r1.1, r2.1, rgOk_is h, new_lst n2.share.th (reps_rg n m) p2⟩
      · exact p2.elim
    | _ => exact p2.elim
  | _ => exact p2.elim

/-! ### isinstance of a built-in type -/
def tyD : D → Option String
  | .non => some "NoneType" | .bl _ => some "bool" | .int _ => some "int" | .str _ => some "str"
  | .tup _ => some "tuple" | .ktp _ => some "tuple" | .lst _ _ => some "list" | .dic _ _ _ => some "dict" | .dtt _ _ _ => some "dict"
  | .fn _ => none | .exc _ => none
theorem tyD_is {B : Tab} {H : Hp} {T : Addr → Prop} {d : D} {v : V} {t : String} (h : Rep B H T d v []) (e : tyD d = some t) : TyX B.K H v (.type t) := by
  cases d with
  | non => cases e; rw [h.1]; exact .base .non
  | bl b => cases e; rw [h.1]; exact .base (.bl b)
  | int b => cases e; rw [h.1]; exact .base (.int b)
  | str b => cases e; rw [h.1]; exact .base (.str b)
  | tup ds => cases e; obtain ⟨a, vs, ev, hs, _⟩ := h; rw [ev]; exact .base (.tup hs)
  | ktp ds => cases e; obtain ⟨a, vs, ev, ⟨o, its, n, h1, h2, _⟩, _⟩ := h; rw [ev]; exact .kTuple h1 h2
  | lst o ds =>
    cases e
    cases o with
    | own => obtain ⟨a, vs, F1, ev, hs, _, _⟩ := h; rw [ev]; exact .base (.lst hs)
    | sh => obtain ⟨_, a, vs, ev, hs, _, _⟩ := h; rw [ev]; exact .base (.lst hs)
    | scr =>
      obtain ⟨_, a, vs, ev, hs, _⟩ := h
      rw [ev]
      rcases hs with ⟨o, hs⟩ | ⟨o, its, n, h1, h2, _⟩
      · exact .base (.frz hs)
      · exact .kList h1 h2
  | dic o ks ds =>
    cases e
    cases o with
    | own => obtain ⟨a, vs, F1, ev, hs, _⟩ := h; rw [ev]; exact .base (.dK hs)
    | sh => obtain ⟨_, a, vs, ev, hs, _⟩ := h; rw [ev]; exact .base (.dK hs)
    | scr => exact h.elim
  | dtt o ks ds =>
    cases e
    cases o with
    | own => obtain ⟨a, vs, F1, ev, hs, _⟩ := h; rw [ev]; exact .base (.dT hs)
    | sh => obtain ⟨_, a, vs, ev, hs, _⟩ := h; rw [ev]; exact .base (.dT hs)
    | scr => exact h.elim
  | _ => cases e
def isiB (t T : String) : Option Bool := kitB t T
def vIsi (T : String) (d : D) : R D := match (tyD d).bind fun t => isiB t T with
  | some b => .ok (.bl b)
  | none => .no
theorem isi_ii : isiB "int" "int" = some true := by decide +kernel
theorem isi_ib : isiB "int" "bool" = some false := by decide +kernel
theorem isi_bi : isiB "bool" "int" = some true := by decide +kernel
theorem isi_bb : isiB "bool" "bool" = some true := by decide +kernel
theorem isi_ll : isiB "list" "list" = some true := by decide +kernel
theorem isi_tt : isiB "tuple" "tuple" = some true := by decide +kernel
theorem isi_ss : isiB "str" "str" = some true := by decide +kernel
theorem isi_it : isiB "int" "tuple" = some false := by decide +kernel
theorem isi_si : isiB "str" "int" = some false := by decide +kernel
theorem isi_ti : isiB "tuple" "int" = some false := by decide +kernel
theorem isi_li : isiB "list" "int" = some false := by decide +kernel
theorem isi_ni : isiB "NoneType" "int" = some false := by decide +kernel
theorem ve_isi {T : String} {x : Str} {p q : Pos} (hg : Gl X "isinstance") (hm : X.mg "isinstance" = none) (hgT : Gl X x) (hmT : X.mg x = none) (hvT : bootBuiltins x = some (.type T)) (hnT : x ≠ "__name__") (hdT : (x == ("__debug__" : Str)) = false)
    (ha : VE N X W Vs a fa) (he : starEach [a, .Name x q] X.env = (false, eval a X.env) :: starEach [.Name x q] X.env) : VE N X W Vs (.Call (.Name "isinstance" p) [a, .Name x q] [] pos) (ev1 (vIsi T) fa) := by
  have hT : PE X (.Name x q) (tC (.ty T)) := pe_bltn hgT hmT hvT rfl hnT hdT
  refine pe_mono (pe_callB (pos := pos) (p := p) call_isi hg hm (by decide +kernel) (pa_cons ha (pa_cons hT pa_nil) he) (he := he)) fun σ H Q ⟨Tt, env, th, hv, h⟩ => ?_
  refine ⟨Tt, env, th, hv, seqE (α := D) h fun d1 v1 H1 T1 F1 n1 r1 p1 => ?_⟩
  revert p1
  unfold vIsi
  cases hb : (tyD d1.shr).bind fun t => isiB t T with
  | none => exact fun h => h.elim
  | some b =>
    intro p1
    obtain ⟨t, h2, h3⟩ := Option.bind_eq_some_iff.mp hb
    exact ⟨v1, .ty T, .type t, .type T, b, rfl, .ty T, tyD_is r1.sh h2, kit_ty h3, p1 (.bl b) H1 _ [] (New.refl n1.share.th) ⟨rfl, rfl⟩⟩

/-! ### methods -/
/-- a method of a built-in type T, its arguments by a list -/
def isTy (T : String) (d : D) : Bool := match d with
  | .str _ => T == "str"
  | .lst _ _ => T == "list"
  | .dic _ _ _ => T == "dict"
  | _ => false
theorem isTy_is {B : Tab} {H : Hp} {Tt : Addr → Prop} {T : String} {d : D} {v : V} {F : List Addr} (h : Rep B H Tt d v F) (e : isTy T d = true) : tyV B.K T v H := by
  cases d with
  | str s =>
    rw [h.1]
    exact beq_iff_eq.mp e
  | lst o ds =>
    obtain ⟨a, vs, F1, ev, hs, _⟩ := h.sql
    rw [ev]
    exact .inl ⟨beq_iff_eq.mp e, vs, hs⟩
  | dic o ks ds =>
    cases o with
    | own => obtain ⟨a, vs, F1, ev, hs, _⟩ := h; rw [ev]; exact .inr (.inr (.inl ⟨beq_iff_eq.mp e, .inl ⟨_, hs⟩⟩))
    | sh => obtain ⟨_, a, vs, ev, hs, _⟩ := h; rw [ev]; exact .inr (.inr (.inl ⟨beq_iff_eq.mp e, .inl ⟨_, hs⟩⟩))
    | scr => exact h.elim
  | _ => cases e
structure OpM (B : Tab) (r : V → List V → Hp → VK → Prop) (g : D → List D → R D) : Prop where
  ok : ∀ {d0 : D} {ds : List D} {d : D} {v0 : V} {vs : List V} {H : Hp} {T : Addr → Prop} {Q : VK}, Th H T → Rep B H T d0 v0 [] → Reps B H T ds vs [] → g d0 ds = .ok d → (∀ v H' T' F, New H T H' T' F → Rep B H' T' d v F → Q v H') → r v0 vs H Q
  ex : ∀ {d0 : D} {ds : List D} {c : Nat}, g d0 ds ≠ .ex c
def evM (T : String) (g : D → List D → R D) (fo : En → R D) (fs : En → R (List D)) : En → R D := fun env => (fo env).bind fun x => if isTy T x then (fs env).bind fun xs => g x.shr (shrs xs) else .no
theorem ve_M {T id : String} {name : Str} {o : Expr} {apos cpos : Pos} {fo : En → R D} {r : V → List V → Hp → VK → Prop} {g : D → List D → R D} (op : OpM (bOf N X) r g) (ho : VE N X W Vs o fo) (ha : VAs N X W Vs' (e :: es) fs)
    (pe : ∀ {to : TE} {t : TA}, PE X o to → PA X (e :: es) t → PE X (.Call (.Attribute o name apos) (e :: es) [] cpos) (tBM X.K T r to t)) : VE N X W (Vs ++ Vs') (.Call (.Attribute o name apos) (e :: es) [] cpos) (evM T g fo fs) := by
  refine pe_mono (pe ho ha) fun σ H Q ⟨Tt, env, th, hv, p⟩ => ?_
  refine ⟨Tt, env, th, hv.left, seqE (α := D) p fun d1 v1 H1 T1 F1 n1 r1 p1 => ?_⟩
  split at p1
  · rename_i hty
    refine ⟨isTy_is r1 hty, TU T1 F1, env, n1.share.th, hv.right.next n1.same fun a h => .inl (n1.le a h), seqA (H := H1) (T := TU T1 F1) p1 fun ds vs H2 T2 F2 n2 r2 p2 => ?_⟩
    revert p2
    cases hg : g d1.shr (shrs ds) with
    | no => exact fun h => h.elim
    | ex c => exact absurd hg op.ex
    | ok d => exact fun p2 => op.ok (T := TU T2 F2) n2.share.th ((r1.sh.same n2.same).tmono fun a h => .inl (n2.le a h)) r2.sh hg fun v H' T' F m rr => p2 v H' T' F (n2.comp m) rr
  · exact p1.elim
/-- xs.index(k), ints -/
def vIndex (d0 : D) (ds : List D) : R D := match d0, ds with
  | .lst _ xs, [.int k] => match ints? xs with
    | some ns => match ns.findIdx? (· == k) with
      | some j => .ok (.int j)
      | none => .no
    | none => .no
  | _, _ => .no
theorem vIndex_ok {d0 d : D} {ds : List D} (e : vIndex d0 ds = .ok d) : ∃ (o : Fl) (ns : List Int) (k : Int) (j : Nat), d0 = .lst o (ns.map D.int) ∧ ds = [.int k] ∧ ns.findIdx? (· == k) = some j ∧ d = .int j := by
  unfold vIndex at e
  split at e
  · rename_i o xs i
    cases h1 : ints? xs with
    | none => rw [h1] at e; cases e
    | some ns =>
      rw [h1] at e
      have e : (match ns.findIdx? (· == i) with | some j => .ok (.int j) | none => .no : R D) = .ok d := e
      cases h2 : ns.findIdx? (· == i) with
      | none => rw [h2] at e; cases e
      | some j =>
        rw [h2] at e
        cases e
        exact ⟨o, ns, i, j, by rw [← ints?_some h1], rfl, h2, rfl⟩
  · cases e
theorem o_index : OpM (bOf N X) (rIndex X.K) vIndex := by
  constructor
  · intro d0 ds d v0 vs H T Q th h0 h1 e k
    obtain ⟨o, ns, i, j, rfl, rfl, hj, rfl⟩ := vIndex_ok e
    obtain ⟨a, e2, hs⟩ := h0.ints
    obtain ⟨v, ev, h1⟩ := Reps.one_of h1
    obtain ⟨hjl, hj1, hj2⟩ := List.findIdx?_eq_some_iff_getElem.mp hj
    refine ⟨a, ns.map V.int, v, j, .int ns[j], e2, ev, hs, ?_, ?_, ?_, ?_, fun m z' hm hz => ?_, k _ H T [] (New.refl th) ⟨rfl, rfl⟩⟩
    · rw [h1.1]; rfl
    · rw [List.all_map]; exact List.all_eq_true.mpr fun _ _ => rfl
    · rw [List.getElem?_map, List.getElem?_eq_getElem hjl]; rfl
    · rw [h1.1]
      have : ns[j] = i := by simpa using hj1
      rw [this]
      exact beq_self_eq_true i
    · rw [List.getElem?_map] at hz
      obtain ⟨y, hy, rfl⟩ := Option.map_eq_some_iff.mp hz
      have := hj2 m hm
      obtain ⟨hml, hm2⟩ := List.getElem?_eq_some_iff.mp hy
      rw [hm2] at this
      rw [h1.1]
      have hne : ¬ y = i := by simpa using this
      show (y == i) = false
      exact beq_eq_false_iff_ne.mpr hne
  · intro d0 ds c e
    unfold vIndex at e
    (repeat' split at e) <;> cases e
theorem ve_index {o a : Expr} {apos cpos : Pos} {fo : En → R D} (ho : VE N X W Vs o fo) (ha : VAs N X W Vs' [a] fs)
    (hbase : attributeBase o "index" X.env (eval o X.env) = eval o X.env := by rfl)
    (hfew : ((backTo cpos (starEach [a] X.env)).all (fun x => !x.1) && (backToKw cpos (keywordEach [] X.env)).all (fun x => x.1.isSome)
      && decide (([a] : List Expr).length + ([] : List Keyword).length + (if ([] : List Keyword).isEmpty then 0 else 1) < 30)) = true := by rfl)
    (hline : (apos.endLine == cpos.line) = true := by rfl) (hs : starEach [a] X.env = (false, eval a X.env) :: starEach [] X.env := by rfl) :
    VE N X W (Vs ++ Vs') (.Call (.Attribute o "index" apos) [a] [] cpos) (evM "list" vIndex fo fs) :=
  ve_M (id := "list.index") o_index ho ha fun p q => pe_bm PySem.F.plainAttrs_list PySem.F.slot_list_index PySem.F.type_list_index mt_index p q hbase hfew hline hs rfl

/-! ### the text's own defs -/
/-- what a def promises: it hands back what g says -/
def spP (B : Tab) (n : Nat) (g : List D → R D) : Sp := fun vs H Q E => vs.length = n ∧ ∃ T ds, Th H T ∧ Reps B H T ds vs [] ∧ match g ds with
  | .ok d => ∀ v H' T' F, New H T H' T' F → Rep B H' T' d v F → Q v H'
  | .ex c => ∀ H', Same H H' → E (.ref (B.ca c)) none H'
  | .no => False
def evCall (n : Nat) (g : List D → R D) (fs : En → R (List D)) : En → R D := fun env => (fs env).bind fun xs => if xs.length = n then g (shrs xs) else .no
theorem ve_call {k n : Nat} {fd : FuncData} {ps : List Str} {g : List D → R D} {x : Str} {p : Pos} {fa : Addr} (F : FnOk X.prog X.w X.K X.mg X.base (L2.CX X.prog X.w) k fa fd ps (spP (bOf N X) n g)) (hr : Room k X.A) (hg : Gl X x) (hm : X.mg x = some (.ref fa))
    (hk : PySem.W.keepIn X.K (.ref fa) = true) (hb : Binds X.K fd ps []) (tk : Takes X W) (ha : VAs N X W Vs (e :: es) fs) (hdb : (x == ("__debug__" : Str)) = false := by decide) (he : starEach (e :: es) X.env = (false, eval e X.env) :: starEach es X.env := by rfl) (hpl : (backTo pos (starEach es X.env)).any (·.1) = false := by rfl) :
    VE N X W Vs (.Call (.Name x p) (e :: es) [] pos) (evCall n g fs) := by
  refine pe_mono (pe_callS F hr hg hm hk hb (E := WE W) (fun σ => passAt tk σ) ha hdb he hpl) fun σ H Q ⟨T, env, th, hv, h⟩ => ?_
  refine ⟨T, env, th, hv, seqA (H := H) (T := T) h fun ds vs H1 T1 F1 n1 r1 p1 => ?_⟩
  split at p1
  · rename_i hl
    refine ⟨by rw [← r1.len, hl], TU T1 F1, shrs ds, n1.share.th, r1.sh, ?_⟩
    revert p1
    cases g (shrs ds) with
    | no => exact id
    | ex c => exact fun p1 H' s => p1 H' (n1.same.trans s)
    | ok d => exact fun p1 v H' T' F m rr => p1 v H' T' F (n1.comp m) rr
  · exact p1.elim
end
end VA


set_option Elab.async false
set_option linter.all false
set_option maxRecDepth 100000
set_option maxHeartbeats 2000000
/-! VE3: targets, what is walked, comprehensions. -/
namespace VA
open PySem PySem.Spec L2

/-- a target: a name's slot, or a tuple of targets -/
inductive Pat where
  | nm (i : Nat) | tp (ps : List Pat)
mutual
def Pat.slots : Pat → List Nat
  | .nm i => [i]
  | .tp ps => slotss ps
def slotss : List Pat → List Nat
  | [] => []
  | p :: ps => p.slots ++ slotss ps
end
mutual
def tPat (K : PySem.W.Frag) : Pat → TG
  | .nm i => gName i
  | .tp ps => fun v σ H Q => ∃ a xs, v = .ref a ∧ (SqT K H a xs ∨ SqL K H a xs) ∧ xs.length = ps.length ∧ tPats K ps xs σ H Q
def tPats (K : PySem.W.Frag) : List Pat → TGs
  | [] => gNil
  | p :: ps => gCons (tPat K p) (tPats K ps)
end
/-! what the slots are given -/
mutual
def patD : Pat → D → Option (List (Nat × D))
  | .nm i, d => some [(i, d)]
  | .tp ps, .tup ds => if ds.length = ps.length then patDs ps ds else none
  | .tp ps, .lst _ ds => if ds.length = ps.length then patDs ps ds else none
  | .tp _, _ => none
def patDs : List Pat → List D → Option (List (Nat × D))
  | [], [] => some []
  | p :: ps, d :: ds => match patD p d, patDs ps ds with
    | some a, some b => some (a ++ b)
    | _, _ => none
  | _, _ => none
end
def setV : St → List (Nat × V) → St
  | σ, [] => σ
  | σ, (i, v) :: r => setV (σ.set i (some v)) r
def setD : En → List (Nat × D) → En
  | env, [] => env
  | env, (i, d) :: r => setD (env.set i (some d)) r
theorem setV_app (σ : St) : ∀ a b : List (Nat × V), setV σ (a ++ b) = setV (setV σ a) b
  | [], _ => rfl
  | (i, v) :: a, b => setV_app _ a b
section
variable {B : Tab} {H : Hp} {T : Addr → Prop}
mutual
theorem tPat_of : ∀ (p : Pat) {d : D} {v : V} {F : List Addr} {bs : List (Nat × D)}, Rep B H T d v F → patD p d = some bs →
    ∃ (us : List V) (F' : List Addr), Reps B H T (bs.map (·.2)) us F' ∧ F'.Sublist F ∧ ∀ (σ : St) (Q : St → Hp → Prop), Q (setV σ ((bs.map (·.1)).zip us)) H → tPat B.K p v σ H Q
  | .nm i, d, v, F, bs, h, e => by
    cases e
    exact ⟨[v], F, Reps.one h, List.Sublist.refl _, fun σ Q q => q⟩
  | .tp ps, .tup ds, v, F, bs, ⟨a, vs, ev, hs, hr⟩, e => by
    have e : (if ds.length = ps.length then patDs ps ds else none) = some bs := e
    split at e
    · rename_i hl
      obtain ⟨us, F', h1, h2, h3⟩ := tPats_of ps hr e
      exact ⟨us, F', h1, h2, fun σ Q q => ⟨a, vs, ev, .inl (.inl (.inl hs)), by rw [← hr.len, hl], h3 σ Q q⟩⟩
    · cases e
  | .tp ps, .lst o ds, v, F, bs, h, e => by
    have e : (if ds.length = ps.length then patDs ps ds else none) = some bs := e
    split at e
    · rename_i hl
      have h2 : ∃ a vs F1, v = .ref a ∧ SqL B.K H a vs ∧ Reps B H T ds vs F1 ∧ F1.Sublist F := by
        cases o with
        | own => obtain ⟨a, vs, F1, ev, hs, e, hr⟩ := h; exact ⟨a, vs, F1, ev, .inl (.inl hs), hr, by rw [e]; exact List.sublist_cons_self _ _⟩
        | sh => obtain ⟨e, a, vs, ev, hs, _, hr⟩ := h; exact ⟨a, vs, [], ev, .inl (.inl hs), hr, List.nil_sublist _⟩
        | scr => obtain ⟨e, a, vs, ev, hs, hr⟩ := h; exact ⟨a, vs, [], ev, hs.sql, hr, List.nil_sublist _⟩
      obtain ⟨a, vs, F1, ev, hs, hr, hsub⟩ := h2
      obtain ⟨us, F', h1, h2, h3⟩ := tPats_of ps hr e
      exact ⟨us, F', h1, h2.trans hsub, fun σ Q q => ⟨a, vs, ev, .inr hs, by rw [← hr.len, hl], h3 σ Q q⟩⟩
    · cases e
  | .tp ps, .non, _, _, _, _, e => by cases e
  | .tp ps, .bl _, _, _, _, _, e => by cases e
  | .tp ps, .int _, _, _, _, _, e => by cases e
  | .tp ps, .str _, _, _, _, _, e => by cases e
  | .tp ps, .fn _, _, _, _, _, e => by cases e
  | .tp ps, .exc _, _, _, _, _, e => by cases e
  | .tp ps, .ktp _, _, _, _, _, e => by cases e
  | .tp ps, .dic _ _ _, _, _, _, _, e => by cases e
  | .tp ps, .dtt _ _ _, _, _, _, _, e => by cases e
theorem tPats_of : ∀ (ps : List Pat) {ds : List D} {vs : List V} {F : List Addr} {bs : List (Nat × D)}, Reps B H T ds vs F → patDs ps ds = some bs →
    ∃ (us : List V) (F' : List Addr), Reps B H T (bs.map (·.2)) us F' ∧ F'.Sublist F ∧ ∀ (σ : St) (Q : St → Hp → Prop), Q (setV σ ((bs.map (·.1)).zip us)) H → tPats B.K ps vs σ H Q
  | [], [], vs, F, bs, h, e => by
    cases e
    exact ⟨[], [], ⟨rfl, rfl⟩, List.nil_sublist _, fun σ Q q => ⟨h.1, q⟩⟩
  | [], _ :: _, _, _, _, _, e => by cases e
  | _ :: _, [], _, _, _, _, e => by cases e
  | p :: ps, d :: ds, vs, F, bs, ⟨v, vs', F1, F2, ev, e0, h1, h2⟩, e => by
    rw [patDs] at e
    split at e
    · rename_i a b ea eb
      cases e
      obtain ⟨us, G1, r1, s1, k1⟩ := tPat_of p h1 ea
      obtain ⟨ws, G2, r2, s2, k2⟩ := tPats_of ps h2 eb
      refine ⟨us ++ ws, G1 ++ G2, by rw [List.map_append]; exact Reps.app r1 r2, by rw [e0]; exact List.Sublist.append s1 s2, fun σ Q q => ⟨v, vs', ev, k1 σ _ ?_⟩⟩
      refine k2 _ Q ?_
      have hl : (a.map (·.1)).length = us.length := by rw [List.length_map, ← r1.len, List.length_map]
      rw [List.map_append, List.zip_append hl, setV_app] at q
      exact q
    · cases e
end
end

section
variable {X : Cx}
theorem PG.or {tg : Expr} {t t' : TG} (h : PG X tg t) (h' : PG X tg t') : PG X tg fun v σ H Q => t v σ H Q ∨ t' v σ H Q := ⟨fun pins s σ H v u Q I r q => q.elim (h.run pins s σ H v u Q I r) (h'.run pins s σ H v u Q I r)⟩
theorem pg_mono {tg : Expr} {t t' : TG} (h : PG X tg t) (m : ∀ v σ H Q, t' v σ H Q → t v σ H Q) : PG X tg t' := ⟨fun pins s σ H v u Q I r q => h.run pins s σ H v u Q I r (m v σ H Q q)⟩
def VP (X : Cx) (tg : Expr) (p : Pat) : Prop := PG X tg (tPat X.K p)
def VPs (X : Cx) (tg : List Expr) (p : List Pat) : Prop := PGs X tg (tPats X.K p)
theorem vp_nm {i : Nat} {x : Str} {pos : Pos} (hN : X.N.Nodup) (hi : X.N[i]? = some x) (hx : Loc X.env.scope x) (hf : X.fn x = true ∨ X.env.scope.names.lookup x = some .local) : VP X (.Name x pos) (.nm i) := pg_name hN hi hx hf
theorem vps_nil : VPs X [] [] := pgs_nil
theorem vps_cons {e : Expr} {es : List Expr} {p : Pat} {ps : List Pat} (h1 : VP X e p) (h2 : VPs X es ps) (hs : (assignEach (e :: es) X.env).map (·.2) = assign e X.env :: (assignEach es X.env).map (·.2) := by rfl) : VPs X (e :: es) (p :: ps) := pgs_cons h1 h2 hs
theorem vp_tp {es : List Expr} {k : Nat} {ps : List Pat} {pos : Pos} (hc : X.calm = true) (h : VPs X es ps) (hn : (assignEach es X.env).length = ps.length := by rfl) (hst : (assignEach es X.env).findIdx? (·.1) = none := by rfl) : VP X (.Tuple es k pos) (.tp ps) := by
  refine pg_mono (PG.or (pg_tup hc h hn hst) (pg_unl hc h hn hst)) fun v σ H Q q => ?_
  obtain ⟨a, xs, ev, hs, hl, q⟩ := q
  rcases hs with hs | hs
  · exact .inl ⟨a, xs, ev, hs, hl, q⟩
  · exact .inr ⟨a, xs, ev, hs, hl, q⟩
end

/-! ### what is walked -/
/-- all but what may change stands as it stood; T stays -/
def Keep (T : Addr → Prop) (H H' : Hp) : Prop := ∀ a o, H a = some o → (T a ∨ ¬ MutO o) → H' a = some o
theorem Keep.refl {T : Addr → Prop} {H : Hp} : Keep T H H := fun _ _ h _ => h
theorem Keep.trans {T : Addr → Prop} {H H1 H2 : Hp} (a : Keep T H H1) (b : Keep T H1 H2) : Keep T H H2 := fun x o h q => b x o (a x o h q) q
theorem Keep.of_same {T : Addr → Prop} {H H1 : Hp} (s : Same H H1) : Keep T H H1 := fun a o h _ => s a o h
theorem Keep.rep {B : Tab} {T : Addr → Prop} {H H1 : Hp} {d : D} {v : V} (k : Keep T H H1) (r : Rep B H T d v []) : Rep B H1 T d v [] :=
  Rep.fr (G := fun a => ¬ T a) (fun a o h q => k a o h (q.imp_left fun z => Classical.byContradiction z)) (fun a h => h) d (fun _ h => nomatch h) r
theorem Keep.reps {B : Tab} {T : Addr → Prop} {H H1 : Hp} {d : List D} {v : List V} (k : Keep T H H1) (r : Reps B H T d v []) : Reps B H1 T d v [] :=
  Reps.fr (G := fun a => ¬ T a) (fun a o h q => k a o h (q.imp_left fun z => Classical.byContradiction z)) (fun a h => h) d (fun _ h => nomatch h) r
/-- an iterator that gives the items ds -/
structure Src (B : Tab) (J : It) (H1 : Hp) (T1 : Addr → Prop) (ds : List D) : Prop where
  w : ∃ (G : Hp → Prop) (Y : Nat → Hp → V → Hp → Prop), Walk J ds.length G Y ∧ (∀ H', Keep T1 H1 H' → G H') ∧
    ∀ i H' x H2, Keep T1 H1 H' → i < ds.length → Y i H' x H2 → Same H' H2 ∧ ∃ d, ds[i]? = some d ∧ Rep B H2 T1 d x []
def tI (B : Tab) (W : WX) (Vs : List Nat) (f : En → R (List D)) : TI := fun σ H R => ∃ T env, Th H T ∧ EnvV B Vs H T σ env ∧ match f env with
  | .ok ds => ∀ J H1 T1, Same H H1 → (∀ a, T a → T1 a) → (∀ a, T1 a → T a ∨ H a = none) → Th H1 T1 → Src B J H1 T1 ds → R J H1
  | .ex c => ∀ H', Same H H' → W (.ref (B.ca c)) none σ H'
  | .no => False
def VI (N : Inf) (X : Cx) (W : WX) (Vs : List Nat) (tg iter : Expr) (f : En → R (List D)) : Prop := PI X tg iter (tI (bOf N X) W Vs f)
theorem pi_mono {X : Cx} {tg e : Expr} {t t' : TI} (h : PI X tg e t) (m : ∀ σ H R, t' σ H R → t σ H R) : PI X tg e t' := ⟨fun pins s σ H R I q => h.run pins s σ H R I (m σ H R q)⟩
section
variable {N : Inf} {X : Cx} {W : WX} {Vs Vs' : List Nat} {tg e a b : Expr} {es : List Expr} {f fa fb : En → R D} {fs : En → R (List D)} {pos : Pos}
/-- a list or a tuple -/
def iSeq (K : PySem.W.Frag) (tl : TE) : TI := fun σ H R => tl σ H fun x H1 => ∃ a, x = .ref a ∧ (((∃ xs, SqL K H1 a xs) ∧ R (Itl K a) H1) ∨ ((∃ xs, SqT K H1 a xs) ∧ R (Itt K a) H1))
theorem pi_seq {tl : TE} (hl : PE X e tl) : PI X tg e (iSeq X.K tl) := by
  refine ⟨fun pins s σ H R I h => ?_⟩
  refine thn (hl.run pins s σ H _ I h) fun v s1 ⟨x, H1, I1, r1, q1⟩ => ?_
  obtain ⟨a, e, q⟩ := q1
  subst e
  cases r1
  rcases q with ⟨⟨xs, hq⟩, q⟩ | ⟨⟨xs, hq⟩, q⟩
  · obtain ⟨its, rv, p, hz⟩ := I1.list hq
    refine PySem.wpAny_pyIter_list p.isList ?_
    refine ⟨s1.heap.objs.size, [s1.heap.objs.size], _, _, H1, rfl, I1.kept (t' := s1.toks) fun b o e => Heap.get?_push_of_some _ e, turn_list a _, ⟨_, Heap.get?_push_size _ rfl, rfl, rfl⟩, fun b hb => ?_, q⟩
    have e : b = s1.heap.objs.size := by simpa using hb
    subst e
    exact I1.fpOk (Nat.le_refl _) (I1.hok.fresh (Nat.le_refl _))
  · obtain ⟨its, rv, p, hz⟩ := I1.tuple hq
    refine PySem.wpAny_pyIter_tuple (show s1.heap.IsTuple a its.toArray from p) ?_
    refine ⟨s1.heap.objs.size, [s1.heap.objs.size], _, _, H1, rfl, I1.kept (t' := s1.toks) fun b o e => Heap.get?_push_of_some _ e, turn_tuple a _, ⟨_, Heap.get?_push_size _ rfl, rfl, rfl⟩, fun b hb => ?_, q⟩
    have e : b = s1.heap.objs.size := by simpa using hb
    subst e
    exact I1.fpOk (Nat.le_refl _) (I1.hok.fresh (Nat.le_refl _))
/-- the items of a list, a tuple -/
def seqD : D → R (List D)
  | .lst _ xs => .ok (shrs xs)
  | .tup xs => .ok (shrs xs)
  | .ktp xs => .ok (shrs xs)
  | _ => .no
def evSeq (f : En → R D) : En → R (List D) := fun env => (f env).bind fun d => seqD d
theorem seqI {B : Tab} {σ : St} {H : Hp} {T : Addr → Prop} {r : R D} {k : D → R (List D)} {R0 : It → Hp → Prop} {Q' : VK}
    (h : match r.bind k with
      | .ok ds => ∀ J H1 T1, Same H H1 → (∀ a, T a → T1 a) → (∀ a, T1 a → T a ∨ H a = none) → Th H1 T1 → Src B J H1 T1 ds → R0 J H1
      | .ex c => ∀ H', Same H H' → W (.ref (B.ca c)) none σ H'
      | .no => False)
    (g : ∀ d v H' T' F, New H T H' T' F → Rep B H' T' d v F → (match k d with
      | .ok ds => ∀ J H1 T1, Same H' H1 → (∀ a, TU T' F a → T1 a) → (∀ a, T1 a → TU T' F a ∨ H' a = none) → Th H1 T1 → Src B J H1 T1 ds → R0 J H1
      | .ex c => ∀ H1, Same H' H1 → W (.ref (B.ca c)) none σ H1
      | .no => False) → Q' v H') : PostE B W σ H T r Q' := by
  cases r with
  | no => exact h
  | ex c => exact h
  | ok d =>
    intro v H' T' F n r
    refine g d v H' T' F n r ?_
    have h : match k d with
      | .ok ds => ∀ J H1 T1, Same H H1 → (∀ a, T a → T1 a) → (∀ a, T1 a → T a ∨ H a = none) → Th H1 T1 → Src B J H1 T1 ds → R0 J H1
      | .ex c => ∀ H', Same H H' → W (.ref (B.ca c)) none σ H'
      | .no => False := h
    revert h
    cases k d with
    | no => exact id
    | ex c => exact fun h H2 s => h H2 (n.same.trans s)
    | ok ds => exact fun h J H1 T1 s l nw th sr => h J H1 T1 (n.same.trans s) (fun a z => l a (.inl (n.le a z))) (fun a z => (nw a z).elim (fun z => z.elim (n.new a) fun q => .inr (n.own a q).1) fun z => .inr (n.same.free z)) th sr
theorem src_list {B : Tab} {H : Hp} {T : Addr → Prop} {a : Addr} {ds : List D} {vs : List V} (h : (H a = some (.lst vs) ∧ T a) ∨ SLst B.K H a vs) (r : Reps B H T ds vs []) : Src B (Itl B.K a) H T ds := by
  refine ⟨_, _, r.len ▸ walk_list (K := B.K) (a := a) (xs := vs), fun H' k => ?_, fun i H' x H2 k hi y => ?_⟩
  · rcases h with ⟨h, t⟩ | h
    · exact .inl (.inl (k a _ h (.inl t)))
    · exact SLst.sql (h.imp_left fun ⟨o, h⟩ => ⟨o, k a _ h (.inr id)⟩)
  · obtain ⟨e, hx⟩ := y
    subst e
    refine ⟨Same.refl _, ds[i], by simp [hi], ?_⟩
    obtain ⟨v, hv, rv⟩ := r.get (i := i) (d := ds[i]) (by simp [hi])
    rw [hv] at hx
    cases hx
    exact k.rep rv
theorem src_tup {B : Tab} {H : Hp} {T : Addr → Prop} {a : Addr} {ds : List D} {vs : List V} (h : H a = some (.tup vs) ∨ KTup B.K a vs) (r : Reps B H T ds vs []) : Src B (Itt B.K a) H T ds := by
  refine ⟨_, _, r.len ▸ walk_tup (K := B.K) (a := a) (xs := vs), fun H' k => ?_, fun i H' x H2 k hi y => ?_⟩
  · rcases h with h | h
    · exact .inl (.inl (k a _ h (.inr id)))
    · exact .inr h
  · obtain ⟨e, hx⟩ := y
    subst e
    refine ⟨Same.refl _, ds[i], by simp [hi], ?_⟩
    obtain ⟨v, hv, rv⟩ := r.get (i := i) (d := ds[i]) (by simp [hi])
    rw [hv] at hx
    cases hx
    exact k.rep rv
theorem vi_seq (ha : VE N X W Vs a fa) : VI N X W Vs tg a (evSeq fa) := by
  refine pi_mono (pi_seq ha) fun σ H R0 ⟨T, env, th, hv, p⟩ => ⟨T, env, th, hv, seqI (W := W) p fun d v H1 T1 F n r q => ?_⟩
  cases d with
  | lst o xs =>
    have rs := r.sh
    obtain ⟨a, vs, ev, hs, hr⟩ : ∃ a vs, v = .ref a ∧ ((H1 a = some (.lst vs) ∧ TU T1 F a) ∨ SLst (bOf N X).K H1 a vs) ∧ Reps (bOf N X) H1 (TU T1 F) (shrs xs) vs [] := by
      cases o with
      | own => obtain ⟨_, a, vs, ev, hs, t, hr⟩ := rs; exact ⟨a, vs, ev, .inl ⟨hs, t⟩, hr⟩
      | sh => obtain ⟨_, a, vs, ev, hs, t, hr⟩ := rs; exact ⟨a, vs, ev, .inl ⟨hs, t⟩, hr⟩
      | scr => obtain ⟨_, a, vs, ev, hs, hr⟩ := rs; exact ⟨a, vs, ev, .inr hs, hr⟩
    refine ⟨a, ev, .inl ⟨⟨vs, ?_⟩, q _ H1 (TU T1 F) (Same.refl _) (fun _ h => h) (fun _ h => .inl h) n.share.th (src_list hs hr)⟩⟩
    rcases hs with ⟨h, _⟩ | h
    · exact .inl (.inl h)
    · exact h.sql
  | tup xs =>
    obtain ⟨a, vs, ev, hs, hr⟩ := r.sh
    exact ⟨a, ev, .inr ⟨⟨vs, .inl (.inl hs)⟩, q _ H1 (TU T1 F) (Same.refl _) (fun _ h => h) (fun _ h => .inl h) n.share.th (src_tup (.inl hs) hr)⟩⟩
  | ktp xs =>
    obtain ⟨a, vs, ev, hs, hr⟩ := r.sh
    exact ⟨a, ev, .inr ⟨⟨vs, .inr hs⟩, q _ H1 (TU T1 F) (Same.refl _) (fun _ h => h) (fun _ h => .inl h) n.share.th (src_tup (.inr hs) hr)⟩⟩
  | _ => exact q.elim
/-- range(n), range(a, b) -/
def rgL (lo : Int) (n : Nat) : List D := (List.range n).map fun i => D.int (lo + (i : Nat))
theorem src_range {B : Tab} {H : Hp} {T : Addr → Prop} (lo : Int) (n : Nat) : Src B (Itr lo n) H T (rgL lo n) := by
  have hl : (rgL lo n).length = n := by unfold rgL; rw [List.length_map, List.length_range]
  refine ⟨fun _ => True, YFn fun i => .int (lo + (i : Nat)), by rw [hl]; exact walk_range, fun _ _ => True.intro, fun i H' x H2 k hi y => ?_⟩
  obtain ⟨e, rfl⟩ := y
  subst e
  rw [hl] at hi
  refine ⟨Same.refl _, .int (lo + (i : Nat)), ?_, rfl, rfl⟩
  unfold rgL
  rw [List.getElem?_map, List.getElem?_range hi]
  rfl
def rng1A : List D → R (List D)
  | [.int n] => if -(2 ^ 62) ≤ n ∧ n < 2 ^ 62 then .ok (rgL 0 n.toNat) else .no
  | _ => .no
def rng2A : List D → R (List D)
  | [.int a, .int b] => if -(2 ^ 62) ≤ a ∧ a < 2 ^ 62 ∧ -(2 ^ 62) ≤ b ∧ b < 2 ^ 62 then .ok (rgL a (b - a).toNat) else .no
  | _ => .no
theorem rng1A_ok {ds es : List D} (h : rng1A ds = .ok es) : ∃ n, ds = [.int n] ∧ -(2 ^ 62) ≤ n ∧ n < 2 ^ 62 ∧ es = rgL 0 n.toNat := by
  unfold rng1A at h
  split at h
  · split at h
    · rename_i hb
      cases h
      exact ⟨_, rfl, hb.1, hb.2, rfl⟩
    · cases h
  · cases h
theorem rng1A_ex {ds : List D} {c : Nat} : rng1A ds ≠ .ex c := fun h => by
  unfold rng1A at h
  (repeat' split at h) <;> cases h
theorem rng2A_ok {ds es : List D} (h : rng2A ds = .ok es) : ∃ a b, ds = [.int a, .int b] ∧ (-(2 ^ 62) ≤ a ∧ a < 2 ^ 62 ∧ -(2 ^ 62) ≤ b ∧ b < 2 ^ 62) ∧ es = rgL a (b - a).toNat := by
  unfold rng2A at h
  split at h
  · split at h
    · rename_i hb
      cases h
      exact ⟨_, _, rfl, hb, rfl⟩
    · cases h
  · cases h
theorem rng2A_ex {ds : List D} {c : Nat} : rng2A ds ≠ .ex c := fun h => by
  unfold rng2A at h
  (repeat' split at h) <;> cases h
def evRng1 (fs : En → R (List D)) : En → R (List D) := fun env => (fs env).bind rng1A
def evRng2 (fs : En → R (List D)) : En → R (List D) := fun env => (fs env).bind rng2A
theorem seqIA {B : Tab} {σ : St} {H : Hp} {T : Addr → Prop} {r : R (List D)} {k : List D → R (List D)} {R0 : It → Hp → Prop} {Q' : List V → Hp → Prop}
    (h : match r.bind k with
      | .ok ds => ∀ J H1 T1, Same H H1 → (∀ a, T a → T1 a) → (∀ a, T1 a → T a ∨ H a = none) → Th H1 T1 → Src B J H1 T1 ds → R0 J H1
      | .ex c => ∀ H', Same H H' → W (.ref (B.ca c)) none σ H'
      | .no => False)
    (g : ∀ d v H' T' F, New H T H' T' F → Reps B H' T' d v F → (match k d with
      | .ok ds => ∀ J H1 T1, Same H' H1 → (∀ a, TU T' F a → T1 a) → (∀ a, T1 a → TU T' F a ∨ H' a = none) → Th H1 T1 → Src B J H1 T1 ds → R0 J H1
      | .ex c => ∀ H1, Same H' H1 → W (.ref (B.ca c)) none σ H1
      | .no => False) → Q' v H') : PostA B W σ H T r Q' := by
  cases r with
  | no => exact h
  | ex c => exact h
  | ok d =>
    intro v H' T' F n r
    refine g d v H' T' F n r ?_
    have h : match k d with
      | .ok ds => ∀ J H1 T1, Same H H1 → (∀ a, T a → T1 a) → (∀ a, T1 a → T a ∨ H a = none) → Th H1 T1 → Src B J H1 T1 ds → R0 J H1
      | .ex c => ∀ H', Same H H' → W (.ref (B.ca c)) none σ H'
      | .no => False := h
    revert h
    cases k d with
    | no => exact id
    | ex c => exact fun h H2 s => h H2 (n.same.trans s)
    | ok ds => exact fun h J H1 T1 s l nw th sr => h J H1 T1 (n.same.trans s) (fun a z => l a (.inl (n.le a z))) (fun a z => (nw a z).elim (fun z => z.elim (n.new a) fun q => .inr (n.own a q).1) fun z => .inr (n.same.free z)) th sr
theorem vi_range1 {p : Pos} (hg : Gl X "range") (hm : X.mg "range" = none) (ha : VAs N X W Vs [a] fs) (hs : starEach [a] X.env = [(false, eval a X.env)] := by rfl) : VI N X W Vs tg (.Call (.Name "range" p) [a] [] pos) (evRng1 fs) := by
  refine pi_mono (pi_range1 hg hm ha hs) fun σ H R0 ⟨T, env, th, hv, p⟩ => ⟨T, env, th, hv, seqIA (W := W) p fun ds vs H1 T1 F n r q => ?_⟩
  cases hk : rng1A ds with
  | no => rw [hk] at q; exact q.elim
  | ex c => exact absurd hk rng1A_ex
  | ok es =>
    rw [hk] at q
    obtain ⟨i, rfl, b1, b2, rfl⟩ := rng1A_ok hk
    have hv : vs = [.int i] := by
      obtain ⟨v, vs', F1, F2, ev, e0, h1, h2⟩ := r
      rw [ev, h1.1, h2.1]
    exact ⟨i, hv, b1, b2, q _ H1 (TU T1 F) (Same.refl _) (fun _ h => h) (fun _ h => .inl h) n.share.th (src_range 0 i.toNat)⟩
theorem vi_range2 {p : Pos} (hg : Gl X "range") (hm : X.mg "range" = none) (ha : VAs N X W Vs [a, b] fs) (hs : starEach [a, b] X.env = [(false, eval a X.env), (false, eval b X.env)] := by rfl) (hs2 : starEach [b] X.env = [(false, eval b X.env)] := by rfl) : VI N X W Vs tg (.Call (.Name "range" p) [a, b] [] pos) (evRng2 fs) := by
  refine pi_mono (pi_range2 hg hm ha hs hs2) fun σ H R0 ⟨T, env, th, hv, p⟩ => ⟨T, env, th, hv, seqIA (W := W) p fun ds vs H1 T1 F n r q => ?_⟩
  cases hk : rng2A ds with
  | no => rw [hk] at q; exact q.elim
  | ex c => exact absurd hk rng2A_ex
  | ok es =>
    rw [hk] at q
    obtain ⟨i, j, rfl, hb, rfl⟩ := rng2A_ok hk
    have hv : vs = [.int i, .int j] := by
      obtain ⟨v, vs', F1, F2, ev, e0, h1, h2⟩ := r
      obtain ⟨v', vs2, F3, F4, ev2, e02, h3, h4⟩ := h2
      rw [ev, h1.1, ev2, h3.1, h4.1]
    exact ⟨i, j, hv, hb, q _ H1 (TU T1 F) (Same.refl _) (fun _ h => h) (fun _ h => .inl h) n.share.th (src_range i (j - i).toNat)⟩
/-- enumerate(xs) -/
def enD : Nat → List D → List D
  | _, [] => []
  | i, d :: ds => .tup [.int (i : Nat), d] :: enD (i + 1) ds
theorem enD_len : ∀ (i : Nat) (ds : List D), (enD i ds).length = ds.length
  | _, [] => rfl
  | i, d :: ds => by rw [enD, List.length_cons, List.length_cons, enD_len (i + 1) ds]
theorem enD_get : ∀ (i : Nat) (ds : List D) (j : Nat) (d : D), ds[j]? = some d → (enD i ds)[j]? = some (.tup [.int ((i + j : Nat) : Int), d])
  | _, [], _, _, h => by simp at h
  | i, x :: ds, 0, d, h => by cases h; rfl
  | i, x :: ds, j + 1, d, h => by
    have := enD_get (i + 1) ds j d (by simpa using h)
    rw [enD, List.getElem?_cons_succ, this, show i + 1 + j = i + (j + 1) by omega]
theorem src_enum {B : Tab} {H : Hp} {T : Addr → Prop} {a : Addr} {ds : List D} {vs : List V} (h : (H a = some (.lst vs) ∧ T a) ∨ SLst B.K H a vs) (r : Reps B H T ds vs []) : Src B (Ite B.K a) H T (enD 0 ds) := by
  refine ⟨_, _, by rw [enD_len, r.len]; exact walk_enum (K := B.K) (a := a) (xs := vs), fun H' k => ?_, fun i H' x H2 k hi y => ?_⟩
  · rcases h with ⟨h, t⟩ | h
    · exact .inl (.inl (k a _ h (.inl t)))
    · exact SLst.sql (h.imp_left fun ⟨o, h⟩ => ⟨o, k a _ h (.inr id)⟩)
  · rw [enD_len] at hi
    obtain ⟨P, x1, x2, rfl, hP, rfl, e1, e2⟩ := y
    cases e1
    obtain ⟨v, hv, rv⟩ := r.get (i := i) (d := ds[i]) (by simp [hi])
    have e2 : vs[i]? = some x2 := e2
    rw [hv] at e2
    cases e2
    refine ⟨same_upd hP, _, enD_get 0 ds i ds[i] (by simp [hi]), P, [.int (i : Nat), _], rfl, upd_same, ?_⟩
    rw [Nat.zero_add]
    exact ⟨.int (i : Nat), [_], [], [], rfl, rfl, ⟨rfl, rfl⟩, Reps.one ((k.rep rv).same (same_upd hP))⟩
def enA : List D → R (List D)
  | [.lst _ xs] => .ok (enD 0 (shrs xs))
  | _ => .no
theorem enA_ok {ds es : List D} (h : enA ds = .ok es) : ∃ o xs, ds = [.lst o xs] ∧ es = enD 0 (shrs xs) := by
  unfold enA at h
  split at h
  · cases h; exact ⟨_, _, rfl, rfl⟩
  · cases h
theorem enA_ex {ds : List D} {c : Nat} : enA ds ≠ .ex c := fun h => by
  unfold enA at h
  (repeat' split at h) <;> cases h
def evEnum (fs : En → R (List D)) : En → R (List D) := fun env => (fs env).bind enA
theorem lst_src {B : Tab} {H : Hp} {T : Addr → Prop} {o : Fl} {xs : List D} {v : V} {F : List Addr} (r : Rep B H T (.lst o xs) v F) : ∃ a vs, v = .ref a ∧ ((H a = some (.lst vs) ∧ TU T F a) ∨ SLst B.K H a vs) ∧ Reps B H (TU T F) (shrs xs) vs [] ∧ SqL B.K H a vs := by
  have rs := r.sh
  cases o with
  | own => obtain ⟨_, a, vs, ev, hs, t, hr⟩ := rs; exact ⟨a, vs, ev, .inl ⟨hs, t⟩, hr, .inl (.inl hs)⟩
  | sh => obtain ⟨_, a, vs, ev, hs, t, hr⟩ := rs; exact ⟨a, vs, ev, .inl ⟨hs, t⟩, hr, .inl (.inl hs)⟩
  | scr => obtain ⟨_, a, vs, ev, hs, hr⟩ := rs; exact ⟨a, vs, ev, .inr hs, hr, hs.sql⟩
theorem vi_enum {p tpos : Pos} {elts : List Expr} {kk : Nat} (hg : Gl X "enumerate") (hm : X.mg "enumerate" = none) (ha : VAs N X W Vs [a] fs) (hs : starEach [a] X.env = [(false, eval a X.env)] := by rfl) :
    VI N X W Vs (.Tuple elts kk tpos) (.Call (.Name "enumerate" p) [a] [] pos) (evEnum fs) := by
  refine pi_mono (pi_enum hg hm ha hs) fun σ H R0 ⟨T, env, th, hv, p⟩ => ⟨T, env, th, hv, seqIA (W := W) p fun ds vs H1 T1 F n r q => ?_⟩
  cases hk : enA ds with
  | no => rw [hk] at q; exact q.elim
  | ex c => exact absurd hk enA_ex
  | ok es =>
    rw [hk] at q
    obtain ⟨o, xs, rfl, rfl⟩ := enA_ok hk
    obtain ⟨v, vs', F1, F2, ev, e0, h1, h2⟩ := r
    rw [h2.2, List.append_nil] at e0
    rw [e0] at n q
    obtain ⟨a, ws, e2, hs, hr, hq⟩ := lst_src h1
    exact ⟨a, ws, by rw [ev, h2.1, e2], hq, q _ H1 (TU T1 F1) (Same.refl _) (fun _ h => h) (fun _ h => .inl h) n.share.th (src_enum hs hr)⟩
/-- zip(xs, ys) -/
def zpD : List D → List D → List D
  | x :: xs, y :: ys => .tup [x, y] :: zpD xs ys
  | _, _ => []
theorem zpD_len : ∀ xs ys : List D, (zpD xs ys).length = min xs.length ys.length
  | [], _ => by simp [zpD]
  | _ :: _, [] => by simp [zpD]
  | x :: xs, y :: ys => by rw [zpD, List.length_cons, List.length_cons, List.length_cons, zpD_len xs ys]; omega
theorem zpD_get : ∀ (xs ys : List D) (j : Nat) (x y : D), xs[j]? = some x → ys[j]? = some y → (zpD xs ys)[j]? = some (.tup [x, y])
  | [], _, _, _, _, h, _ => by simp at h
  | _ :: _, [], _, _, _, _, h => by simp at h
  | a :: xs, b :: ys, 0, x, y, h, h' => by cases h; cases h'; rfl
  | a :: xs, b :: ys, j + 1, x, y, h, h' => by
    rw [zpD, List.getElem?_cons_succ]
    exact zpD_get xs ys j x y (by simpa using h) (by simpa using h')
theorem src_zip {B : Tab} {H : Hp} {T : Addr → Prop} {a b : Addr} {ds es : List D} {vs ws : List V} (h : (H a = some (.lst vs) ∧ T a) ∨ SLst B.K H a vs) (r : Reps B H T ds vs [])
    (h' : (H b = some (.lst ws) ∧ T b) ∨ SLst B.K H b ws) (r' : Reps B H T es ws []) : Src B (Itz B.K a b) H T (zpD ds es) := by
  have st : ∀ {a : Addr} {vs : List V} {H' : Hp}, ((H a = some (.lst vs) ∧ T a) ∨ SLst B.K H a vs) → Keep T H H' → SqL B.K H' a vs := fun h k => by
    rcases h with ⟨h, t⟩ | h
    · exact .inl (.inl (k _ _ h (.inl t)))
    · exact SLst.sql (h.imp_left fun ⟨o, h⟩ => ⟨o, k _ _ h (.inr id)⟩)
  refine ⟨_, _, walk_zip (K := B.K) (a := a) (b := b) (xs := vs) (ys := ws) (by rw [zpD_len, r.len, r'.len]), fun H' k => ⟨st h k, st h' k⟩, fun i H' x H2 k hi y => ?_⟩
  rw [zpD_len] at hi
  have i1 : i < ds.length := by omega
  have i2 : i < es.length := by omega
  obtain ⟨P, x1, x2, rfl, hP, rfl, e1, e2⟩ := y
  obtain ⟨v, hv, rv⟩ := r.get (i := i) (d := ds[i]) (by simp [i1])
  obtain ⟨u, hu, ru⟩ := r'.get (i := i) (d := es[i]) (by simp [i2])
  have e1 : vs[i]? = some x1 := e1
  have e2 : ws[i]? = some x2 := e2
  rw [hv] at e1
  rw [hu] at e2
  cases e1
  cases e2
  refine ⟨same_upd hP, _, zpD_get ds es i ds[i] es[i] (by simp [i1]) (by simp [i2]), P, [_, _], rfl, upd_same, ?_⟩
  exact ⟨_, [_], [], [], rfl, rfl, (k.rep rv).same (same_upd hP), Reps.one ((k.rep ru).same (same_upd hP))⟩
def zpA : List D → R (List D)
  | [.lst _ xs, .lst _ ys] => .ok (zpD (shrs xs) (shrs ys))
  | _ => .no
theorem zpA_ok {ds es : List D} (h : zpA ds = .ok es) : ∃ o xs o' ys, ds = [.lst o xs, .lst o' ys] ∧ es = zpD (shrs xs) (shrs ys) := by
  unfold zpA at h
  split at h
  · cases h; exact ⟨_, _, _, _, rfl, rfl⟩
  · cases h
theorem zpA_ex {ds : List D} {c : Nat} : zpA ds ≠ .ex c := fun h => by
  unfold zpA at h
  (repeat' split at h) <;> cases h
def evZip (fs : En → R (List D)) : En → R (List D) := fun env => (fs env).bind zpA
theorem vi_zip {p tpos : Pos} {elts : List Expr} {kk : Nat} (hg : Gl X "zip") (hm : X.mg "zip" = none) (ha : VAs N X W Vs [a, b] fs)
    (pz : ∀ {ta : TA}, PA X [a, b] ta → PI X (.Tuple elts kk tpos) (.Call (.Name "zip" p) [a, b] [] pos) (iZip X.K ta)) : VI N X W Vs (.Tuple elts kk tpos) (.Call (.Name "zip" p) [a, b] [] pos) (evZip fs) := by
  refine pi_mono (pz ha) fun σ H R0 ⟨T, env, th, hv, p⟩ => ⟨T, env, th, hv, seqIA (W := W) p fun ds vs H1 T1 F n r q => ?_⟩
  cases hk : zpA ds with
  | no => rw [hk] at q; exact q.elim
  | ex c => exact absurd hk zpA_ex
  | ok es =>
    rw [hk] at q
    obtain ⟨o, xs, o', ys, rfl, rfl⟩ := zpA_ok hk
    obtain ⟨v, vs', F1, F2, ev, e0, h1, h2⟩ := r
    obtain ⟨v', vs2, F3, F4, ev2, e02, h3, h4⟩ := h2
    rw [h4.2, List.append_nil] at e02
    rw [e02] at e0
    obtain ⟨a, ws, e2, hs, hr, hq⟩ := lst_src h1
    obtain ⟨b, us, e3, hs', hr', hq'⟩ := lst_src h3
    have m1 : ∀ a, TU T1 F1 a → TU T1 F a := fun a h => h.imp_right fun z => by rw [e0]; exact List.mem_append_left _ z
    have m2 : ∀ a, TU T1 F3 a → TU T1 F a := fun a h => h.imp_right fun z => by rw [e0]; exact List.mem_append_right _ z
    exact ⟨a, b, ws, us, by rw [ev, ev2, h4.1, e2, e3], hq, hq', q _ H1 (TU T1 F) (Same.refl _) (fun _ h => h) (fun _ h => .inl h) n.share.th
      (src_zip (hs.imp_left fun z => ⟨z.1, m1 _ z.2⟩) (Reps.tmono m1 _ hr) (hs'.imp_left fun z => ⟨z.1, m2 _ z.2⟩) (Reps.tmono m2 _ hr'))⟩
end
end VA


set_option Elab.async false
set_option linter.all false
set_option maxRecDepth 100000
set_option maxHeartbeats 2000000
/-! VE4: list comprehensions. -/
namespace VA
open PySem PySem.Spec L2

def noex {α : Type} : R α → R α
  | .ok a => .ok a
  | _ => .no
@[simp] theorem noex_ok {α : Type} (a : α) : noex (.ok a) = .ok a := rfl
def clr : List Nat → En → En
  | [], env => env
  | i :: is, env => (clr is env).set i none
def lcGo (p : Pat) (c : En → R Bool) (e : En → R D) (env : En) : List D → R (List D)
  | [] => .ok []
  | d :: ds => match patD p d with
    | none => .no
    | some bs => (noex (c (setD env bs))).bind fun b => if b then (noex (e (setD env bs))).bind fun y => (lcGo p c e env ds).bind fun ys => .ok (y :: ys) else lcGo p c e env ds
def evLc (src : En → R (List D)) (p : Pat) (own : List Nat) (c : En → R Bool) (e : En → R D) : En → R D := fun env => (src env).bind fun ds =>
  if ds.length ≤ sizeLine then (noex (lcGo p c e (clr own env) ds)).bind fun ys => .ok (.lst .own ys) else .no
def evYes : En → R Bool := fun _ => .ok true

mutual
theorem patD_slots : ∀ (p : Pat) {d : D} {bs : List (Nat × D)}, patD p d = some bs → bs.map (·.1) = p.slots
  | .nm i, d, bs, e => by cases e; rfl
  | .tp ps, .tup ds, bs, e => by
    have e : (if ds.length = ps.length then patDs ps ds else none) = some bs := e
    split at e
    · exact patDs_slots ps e
    · cases e
  | .tp ps, .lst o ds, bs, e => by
    have e : (if ds.length = ps.length then patDs ps ds else none) = some bs := e
    split at e
    · exact patDs_slots ps e
    · cases e
  | .tp ps, .non, _, e => by cases e
  | .tp ps, .bl _, _, e => by cases e
  | .tp ps, .int _, _, e => by cases e
  | .tp ps, .str _, _, e => by cases e
  | .tp ps, .fn _, _, e => by cases e
  | .tp ps, .exc _, _, e => by cases e
  | .tp ps, .ktp _, _, e => by cases e
  | .tp ps, .dic _ _ _, _, e => by cases e
  | .tp ps, .dtt _ _ _, _, e => by cases e
theorem patDs_slots : ∀ (ps : List Pat) {ds : List D} {bs : List (Nat × D)}, patDs ps ds = some bs → bs.map (·.1) = slotss ps
  | [], [], bs, e => by cases e; rfl
  | [], _ :: _, _, e => by cases e
  | _ :: _, [], _, e => by cases e
  | p :: ps, d :: ds, bs, e => by
    rw [patDs] at e
    split at e
    · rename_i a b ea eb
      cases e
      rw [List.map_append, patD_slots p ea, patDs_slots ps eb]; rfl
    · cases e
end
theorem wipe_set {σ : St} {i : Nat} {x : Option V} : ∀ {vs : List Nat}, i ∈ vs → wipe (σ.set i x) vs = wipe σ vs
  | v :: vs, h => by
    unfold wipe
    by_cases hv : i ∈ vs
    · rw [wipe_set hv]
    · have e : i = v := (List.mem_cons.mp h).resolve_right hv
      subst e
      have k : ∀ vs : List Nat, i ∉ vs → wipe (σ.set i x) vs = (wipe σ vs).set i x := fun vs => by
        induction vs with
        | nil => intro _; rfl
        | cons w ws ih =>
          intro hn
          have n1 : i ≠ w := fun e => hn (by rw [e]; exact List.mem_cons_self)
          have n2 : i ∉ ws := fun e => hn (List.mem_cons_of_mem _ e)
          unfold wipe
          rw [ih n2, List.set_comm _ _ n1]
      rw [k vs hv, List.set_set]
theorem wipe_setV {vs : List Nat} : ∀ {bs : List (Nat × V)} {σ : St}, (∀ p ∈ bs, p.1 ∈ vs) → wipe (setV σ bs) vs = wipe σ vs
  | [], σ, _ => rfl
  | (i, v) :: r, σ, h => by
    rw [setV, wipe_setV (fun p hp => h p (List.mem_cons_of_mem _ hp)), wipe_set (h (i, v) List.mem_cons_self)]
theorem wipe_wipe (σ : St) (vs : List Nat) : wipe (wipe σ vs) vs = wipe σ vs := by
  have k : ∀ ws : List Nat, (∀ w ∈ ws, w ∈ vs) → wipe (wipe σ ws) vs = wipe σ vs := fun ws => by
    induction ws with
    | nil => intro _; rfl
    | cons w ws ih =>
      intro h
      show wipe ((wipe σ ws).set w none) vs = _
      rw [wipe_set (h w List.mem_cons_self), ih fun x hx => h x (List.mem_cons_of_mem _ hx)]
  exact k vs fun _ h => h
theorem clr_len : ∀ (is : List Nat) (env : En), (clr is env).length = env.length
  | [], _ => rfl
  | i :: is, env => by rw [clr, List.length_set, clr_len is env]
theorem clr_at : ∀ {is : List Nat} {env : En} {j : Nat} {d : D}, (clr is env)[j]? = some (some d) → j ∉ is ∧ env[j]? = some (some d)
  | [], _, _, _, h => ⟨fun z => (nomatch z), h⟩
  | i :: is, env, j, d, h => by
    rw [clr] at h
    by_cases e : i = j
    · subst e
      by_cases hl : i < (clr is env).length
      · rw [List.getElem?_set_self hl] at h; cases h
      · rw [List.getElem?_eq_none (by rw [List.length_set]; omega)] at h; cases h
    · rw [List.getElem?_set_ne e] at h
      obtain ⟨h1, h2⟩ := clr_at h
      exact ⟨fun z => (List.mem_cons.mp z).elim (fun q => e q.symm) h1, h2⟩

section
variable {B : Tab} {H : Hp} {T : Addr → Prop}
/-- one slot's view -/
def Ok1 (B : Tab) (H : Hp) (T : Addr → Prop) (σ : St) (env : En) (j : Nat) : Prop := ∀ d, env[j]? = some (some d) → ∃ v, σ[j]? = some (some v) ∧ Rep B H T d.shr v []
theorem setD_len : ∀ (bs : List (Nat × D)) (env : En), (setD env bs).length = env.length
  | [], _ => rfl
  | (i, d) :: r, env => by rw [setD, setD_len r, List.length_set]
theorem setV_len : ∀ (bs : List (Nat × V)) (σ : St), (setV σ bs).length = σ.length
  | [], _ => rfl
  | (i, d) :: r, σ => by rw [setV, setV_len r, List.length_set]
theorem ok1_set {σ : St} {env : En} {i : Nat} {d : D} {v : V} (hl : env.length = σ.length) (r : Rep B H T d.shr v []) {j : Nat} (h : Ok1 B H T σ env j) : Ok1 B H T (σ.set i (some v)) (env.set i (some d)) j := fun x e => by
  by_cases hi : i = j
  · subst hi
    by_cases hb : i < env.length
    · rw [List.getElem?_set_self hb] at e
      cases e
      exact ⟨v, List.getElem?_set_self (by omega), r⟩
    · rw [List.getElem?_eq_none (by rw [List.length_set]; omega)] at e; cases e
  · rw [List.getElem?_set_ne hi] at e
    rw [List.getElem?_set_ne hi]
    exact h x e
theorem ok1_setD : ∀ {bs : List (Nat × D)} {us : List V} {σ : St} {env : En}, env.length = σ.length → Reps B H T (bs.map fun p => p.2.shr) us [] → ∀ {j : Nat}, Ok1 B H T σ env j → Ok1 B H T (setV σ ((bs.map (·.1)).zip us)) (setD env bs) j
  | [], us, σ, env, hl, r, j, h => h
  | (i, d) :: bs, us, σ, env, hl, ⟨v, vs', F1, F2, ev, e0, h1, h2⟩, j, h => by
    obtain ⟨rfl, rfl⟩ := List.append_eq_nil_iff.mp e0.symm
    rw [ev]
    exact ok1_setD (bs := bs) (by rw [List.length_set, List.length_set, hl]) h2 (ok1_set hl h1 h)
end
theorem reps_shr_map {B : Tab} {H : Hp} {T T' : Addr → Prop} {bs : List (Nat × D)} {us : List V} {F : List Addr} (hT : ∀ a, T a → T' a) (hF : ∀ a ∈ F, T' a) (h : Reps B H T (bs.map (·.2)) us F) : Reps B H T' (bs.map fun p => p.2.shr) us [] := by
  have := Reps.shr (bs.map (·.2)) hT hF h
  rw [shrs_map, List.map_map] at this
  exact this

section
variable {N : Inf} {X : Cx} {W : WX} {Vs Vc Ve : List Nat} {own : List Nat} {src : En → R (List D)} {p : Pat} {c : En → R Bool} {e : En → R D}
abbrev W0 : WX := fun _ _ _ _ => False
theorem rd_lc {B : Tab} {wiB : Tab} {σ : St} {H : Hp} {Q : VK} (hsl : ∀ i ∈ p.slots, i ∈ own) (hc : ∀ i ∈ Vc, i ∈ own ∨ i ∈ Vs) (he : ∀ i ∈ Ve, i ∈ own ∨ i ∈ Vs) (h : tE B W Vs (evLc src p own c e) σ H Q) :
    tLc (tI B W Vs src) (tPat B.K p) (tT B W0 Vc c) (tE B W0 Ve e) own σ H Q := by
  obtain ⟨T, env, th, hv, h⟩ := h
  refine ⟨T, env, th, hv, ?_⟩
  unfold evLc at h
  revert h
  cases src env with
  | no => exact id
  | ex c => exact id
  | ok ds =>
    intro h J H1 T1 s01 le01 new01 th1 sr D hD
    have h : PostE B W σ H T (if ds.length ≤ sizeLine then (noex (lcGo p c e (clr own env) ds)).bind fun ys => .ok (.lst .own ys) else .no) Q := h
    split at h
    case isFalse => exact h.elim
    case isTrue hlen =>
    cases htot : lcGo p c e (clr own env) ds with
    | no => rw [htot] at h; exact h.elim
    | ex c => rw [htot] at h; exact h.elim
    | ok total =>
      rw [htot] at h
      have h : ∀ v H' T' F, New H T H' T' F → Rep B H' T' (.lst .own total) v F → Q v H' := h
      obtain ⟨G, Y, wk, hG, hY⟩ := sr.w
      refine lc_it wk (fun i H2 => ∃ ys rest acc T2 F, lcGo p c e (clr own env) (ds.drop i) = .ok rest ∧ total = ys ++ rest ∧ ys.length ≤ i ∧ H2 D = some (.lst acc) ∧ Reps B H2 T2 ys acc F ∧ New H1 T1 H2 T2 (D :: F)) ?_ ?_ ?_ ?_
      · exact ⟨[], total, [], T1, [], htot, rfl, Nat.le_refl _, upd_same, ⟨rfl, rfl⟩, New.one th1 hD⟩
      · rintro i H2 _ ⟨ys, rest, acc, T2, F, _, _, _, _, _, n⟩
        exact hG H2 (Keep.of_same n.same)
      · rintro i x H2 H3 hi ⟨ys, rest, acc, T2, F, e1, e2, hle, hacc, rys, n⟩ y
        obtain ⟨s23, d, hd, rd⟩ := hY i H2 x H3 (Keep.of_same n.same) hi y
        have hdrop : ds.drop i = d :: ds.drop (i + 1) := by
          obtain ⟨hl, hd2⟩ := List.getElem?_eq_some_iff.mp hd
          rw [List.drop_eq_getElem_cons hl, hd2]
        rw [hdrop, lcGo] at e1
        split at e1
        case h_1 => cases e1
        case h_2 bs hbs =>
        obtain ⟨us, F', rus, hsub, kpat⟩ := tPat_of p (T := T1) rd hbs
        have hF' : F' = [] := List.sublist_nil.mp hsub
        subst hF'
        refine kpat _ _ ?_
        have hfst := patD_slots p hbs
        refine ⟨?_, ?_⟩
        · rw [wipe_setV, wipe_wipe]
          intro q hq
          have := List.of_mem_zip (show (q.1, q.2) ∈ _ from hq)
          rw [hfst] at this
          exact hsl _ this.1
        have n3 : New H1 T1 H3 T2 (D :: F) := ⟨n.same.trans s23, n.le, n.new, n.nd, n.own, n.th.same s23, fun a z => let ⟨o, q⟩ := n.fth a z; ⟨o, s23 a o q⟩⟩
        have hacc3 : H3 D = some (.lst acc) := s23 D _ hacc
        have rys3 : Reps B H3 T2 ys acc F := rys.same s23
        have view : ∀ {Vx : List Nat} {H4 : Hp}, Same H3 H4 → (∀ i ∈ Vx, i ∈ own ∨ i ∈ Vs) → EnvV B Vx H4 T2 (setV (wipe σ own) ((bs.map (·.1)).zip us)) (setD (clr own env) bs) := fun {Vx H4} s34 hx => by
          have hl0 : (clr own env).length = (wipe σ own).length := by rw [clr_len, wipe_length, hv.1]
          refine ⟨by rw [setD_len, setV_len, hl0], fun j hj => ?_⟩
          refine ok1_setD hl0 (reps_shr_map (F := []) n.le (fun _ z => nomatch z) (rus.same s34)) fun d hd => ?_
          obtain ⟨h1, h2⟩ := clr_at hd
          have hjs : j ∈ Vs := (hx j hj).resolve_left h1
          obtain ⟨v, h3, h4⟩ := hv.2 j hjs d h2
          exact ⟨v, by rw [wipe_out h1]; exact h3, ((h4.same s01).tmono le01).same (n.same.trans (s23.trans s34)) |>.tmono n.le⟩
        refine ⟨T2, setD (clr own env) bs, n3.th, view (Same.refl _) hc, ?_⟩
        revert e1
        cases c (setD (clr own env) bs) with
        | no => exact fun z => by cases z
        | ex c => exact fun z => by cases z
        | ok b =>
          intro e1 H4 s34
          have n4 : New H1 T1 H4 T2 (D :: F) := ⟨n3.same.trans s34, n3.le, n3.new, n3.nd, n3.own, n3.th.same s34, fun a z => let ⟨o, q⟩ := n3.fth a z; ⟨o, s34 a o q⟩⟩
          have e1 : (if b = true then (noex (e (setD (clr own env) bs))).bind fun y => (lcGo p c e (clr own env) (ds.drop (i + 1))).bind fun ys => .ok (y :: ys) else lcGo p c e (clr own env) (ds.drop (i + 1))) = .ok rest := e1
          cases b with
          | false =>
            rw [if_neg Bool.false_ne_true] at e1 ⊢
            exact ⟨ys, rest, acc, T2, F, e1, e2, by omega, s34 D _ hacc3, rys3.same s34, n4⟩
          | true =>
            rw [if_pos rfl] at e1 ⊢
            refine ⟨T2, setD (clr own env) bs, n4.th, view s34 he, ?_⟩
            revert e1
            cases e (setD (clr own env) bs) with
            | no => exact fun z => by cases z
            | ex c => exact fun z => by cases z
            | ok yd =>
              intro e1 v H5 T5 F5 n5 r5
              have e1 : ((lcGo p c e (clr own env) (ds.drop (i + 1))).bind fun ys => .ok (yd :: ys)) = .ok rest := e1
              have hacc5 : H5 D = some (.lst acc) := n5.same D _ (s34 D _ hacc3)
              cases hr : lcGo p c e (clr own env) (ds.drop (i + 1)) with
              | no => rw [hr] at e1; cases e1
              | ex c => rw [hr] at e1; cases e1
              | ok rest2 =>
                rw [hr] at e1
                cases e1
                have hlacc : acc.length = ys.length := rys.len.symm
                refine ⟨acc, hacc5, by omega, ys ++ [yd], rest2, acc ++ [v], T5, F ++ F5, rfl, by rw [e2, List.append_assoc]; rfl, by rw [List.length_append, List.length_singleton]; omega, upd_same, ?_, ?_⟩
                · have nT5 : ¬ T5 D := fun t => by
                    rcases n5.new D t with t | t
                    · exact (n4.own D List.mem_cons_self).2 t
                    · rw [s34 D _ hacc3] at t; cases t
                  have nF : D ∉ F := (List.nodup_cons.mp n4.nd).1
                  have nF5 : D ∉ F5 := fun z => by
                    have := (n5.own D z).1
                    rw [s34 D _ hacc3] at this; cases this
                  have all : Reps B H5 T5 (ys ++ [yd]) (acc ++ [v]) (F ++ F5) := Reps.app (((rys3.same s34).same n5.same).tmono n5.le) (Reps.one r5)
                  refine Reps.fr (G := fun a => a = D) (fun a o q z => ?_) (fun a z t => by rw [z] at t; exact nT5 t) _ (fun a ha z => ?_) all
                  · by_cases hD : a = D
                    · subst hD
                      rw [hacc5] at q
                      cases q
                      exact z.elim (fun z => absurd rfl z) (fun z => absurd trivial z)
                    · rw [upd_ne hD]; exact q
                  · rw [z] at ha
                    rcases List.mem_append.mp ha with ha | ha
                    · exact nF ha
                    · exact nF5 ha
                · have m := n4.and n5
                  refine ⟨fun a o q => ?_, m.le, m.new, m.nd, m.own, fun a t => ?_, fun a z => ?_⟩
                  · rw [upd_ne (ne_of_none q hD)]; exact m.same a o q
                  · by_cases hD : a = D
                    · exact ⟨_, by rw [hD]; exact upd_same⟩
                    · rw [upd_ne hD]; exact m.th a t
                  · by_cases hD : a = D
                    · exact ⟨_, by rw [hD]; exact upd_same⟩
                    · rw [upd_ne hD]; exact m.fth a z
      · rintro H2 ⟨ys, rest, acc, T2, F, e1, e2, _, hacc, rys, n⟩
        rw [List.drop_length] at e1
        cases e1
        rw [List.append_nil] at e2
        subst e2
        refine h (.ref D) H2 T2 (D :: F) ⟨s01.trans n.same, fun a z => n.le a (le01 a z), fun a z => (n.new a z).elim (new01 a) fun q => .inr (s01.free q), n.nd, fun a z => ⟨s01.free (n.own a z).1, (n.own a z).2⟩, n.th, n.fth⟩ ⟨D, acc, F, rfl, hacc, rfl, rys⟩
end
end VA

namespace VA
open PySem PySem.Spec L2
section
variable {N : Inf} {X : Cx} {W : WX} {Vs Vc Ve : List Nat} {own : List (Str × Nat)} {src : En → R (List D)} {p : Pat} {c : En → R Bool} {f : En → R D}
def VTs (N : Inf) (X : Cx) (W : WX) (Vs : List Nat) (es : List Expr) (f : En → R Bool) : Prop := PTs X es (tT (bOf N X) W Vs f)
theorem vts_nil : VTs N X W [] [] evYes := ⟨fun pins s σ H Q I h => by
  obtain ⟨T, env, th, hv, h⟩ := h
  exact pts_nil.run pins s σ H Q I (h H (Same.refl H))⟩
theorem vts_one {e : Expr} (h : VT N X W Vs e c) : VTs N X W Vs [e] c := pts_one h
theorem ve_lc {elt tg iter : Expr} {ifs : List Expr} {scope : Scope} {pos : Pos} (hcm : X.calm = true) (hN : X.N.Nodup) (hi : VI N X W Vs tg iter src) (ok : BlkOk X.N X.env.scope scope own)
    (hg : ∀ (s : Shared) (H : Hp) (C : Addr) (cl : List (Str × Addr)) (fp : List Addr), VP (X.blk s H scope (PySem.compEnvC scope cl C X.env) fp) tg p)
    (ht : ∀ (s : Shared) (H : Hp) (C : Addr) (cl : List (Str × Addr)) (fp : List Addr), VTs N (X.blk s H scope (PySem.compEnvC scope cl C X.env) fp) W0 Vc ifs c)
    (he : ∀ (s : Shared) (H : Hp) (C : Addr) (cl : List (Str × Addr)) (fp : List Addr), VE N (X.blk s H scope (PySem.compEnvC scope cl C X.env) fp) W0 Ve elt f)
    (h1 : ∀ i ∈ p.slots, i ∈ own.map (·.2)) (h2 : ∀ i ∈ Vc, i ∈ own.map (·.2) ∨ i ∈ Vs) (h3 : ∀ i ∈ Ve, i ∈ own.map (·.2) ∨ i ∈ Vs)
    (hs : ∀ x, foldedSetIterable iter X.env x = pure x := by intro _; rfl) : VE N X W Vs (.ListComp elt [⟨tg, iter, ifs, 0⟩] scope pos) (evLc src p (own.map (·.2)) c f) :=
  pe_mono (pe_lc (g := tPat X.K p) (tt := tT (bOf N X) W0 Vc c) (te := tE (bOf N X) W0 Ve f) hcm hN hi ok hg ht he hs) fun _ _ _ h => rd_lc (wiB := bOf N X) h1 h2 h3 h
end
end VA


set_option Elab.async false
set_option linter.all false
set_option maxRecDepth 100000
set_option maxHeartbeats 2000000
/-! VF1: statements without loops. -/
namespace VA
open PySem PySem.Spec L2

section
variable {B : Tab} {W : WX} {H H1 H2 : Hp} {T T1 T2 : Addr → Prop} {F F1 F2 Fd : List Addr} {σ σ1 : St} {env env1 : En} {D : Ends} {r : O}
theorem PostS.next (h : PostS B W H T F r D) (s : SOk B H T σ env F) (st : Step H T F H1 T1 F1) (ap : ∀ a ∈ F1, ¬ T1 a) : PostS B W H1 T1 F1 r D := by
  have hd := Step.own s st ap
  cases r with
  | nx e => exact fun σ' H' T' F' s' t => h σ' H' T' F' s' (st.trans t hd)
  | bk e => exact fun σ' H' T' F' s' t => h σ' H' T' F' s' (st.trans t hd)
  | ct e => exact fun σ' H' T' F' s' t => h σ' H' T' F' s' (st.trans t hd)
  | ex c e => exact fun σ' H' T' F' s' t => h σ' H' T' F' s' (st.trans t hd)
  | rt d => exact fun v H' T' F' th' r' nd ap' t => h v H' T' F' th' r' nd ap' (st.trans t hd)
  | no => exact h
theorem SOk.clr1 (s : SOk B H T σ env F) (i : Nat) : ∃ F', SOk B H T σ (env.set i none) F' ∧ ∀ a ∈ F', a ∈ F := by
  have k : ∀ {env : En} {σ : St} {F : List Addr} {i : Nat}, EnvO B H T env σ F → ∃ F', EnvO B H T (env.set i none) σ F' ∧ F'.Sublist F := by
    intro env
    induction env with
    | nil => intro σ F i h; exact ⟨F, h, List.Sublist.refl _⟩
    | cons x env ih =>
      intro σ F i h
      cases x with
      | none =>
        obtain ⟨v, σ', e, h⟩ := h
        cases i with
        | zero => exact ⟨F, ⟨v, σ', e, h⟩, List.Sublist.refl _⟩
        | succ i =>
          obtain ⟨F', h1, h2⟩ := ih (i := i) h
          exact ⟨F', ⟨v, σ', e, h1⟩, h2⟩
      | some d =>
        obtain ⟨v, σ', F1, F2, e, e2, rd, h⟩ := h
        cases i with
        | zero => exact ⟨F2, ⟨some v, σ', e, h⟩, by rw [e2]; exact List.sublist_append_right _ _⟩
        | succ i =>
          obtain ⟨F', h1, h2⟩ := ih (i := i) h
          exact ⟨F1 ++ F', ⟨v, σ', F1, F', e, rfl, rd, h1⟩, by rw [e2]; exact List.Sublist.append (List.Sublist.refl _) h2⟩
  obtain ⟨F', h1, h2⟩ := k (i := i) s.env
  exact ⟨F', ⟨s.th, h1, s.nd.sublist h2, fun a z => s.ap a (h2.subset z)⟩, fun a z => h2.subset z⟩
theorem SOk.clr (s : SOk B H T σ env F) : ∀ is : List Nat, ∃ F', SOk B H T σ (clr is env) F' ∧ ∀ a ∈ F', a ∈ F
  | [] => ⟨F, s, fun _ h => h⟩
  | i :: is => by
    obtain ⟨F1, s1, h1⟩ := s.clr is
    obtain ⟨F2, s2, h2⟩ := s1.clr1 i
    exact ⟨F2, s2, fun a z => h1 a (h2 a z)⟩
/-- a slot takes a value that is apart -/
theorem SOk.set {d : VA.D} {v : V} (s : SOk B H T σ env F) (r : Rep B H T d v Fd) (nd : Fd.Nodup) (ap : ∀ a ∈ Fd, a ∉ F ∧ ¬ T a) {i : Nat} (hi : i < env.length) : ∃ F', SOk B H T (σ.set i (some v)) (env.set i (some d)) F' ∧ ∀ a ∈ F', a ∈ F ∨ a ∈ Fd := by
  obtain ⟨L, M, R, e, q⟩ := s.env.set hi r
  have hF : ∀ a ∈ L ++ R, a ∈ F := fun a h => by
    rw [e]
    rcases List.mem_append.mp h with h | h
    · exact List.mem_append_left _ h
    · exact List.mem_append_right _ (List.mem_append_right _ h)
  have sn := s.nd
  rw [e] at sn
  refine ⟨L ++ (Fd ++ R), ⟨s.th, q, nd_put sn nd fun a h z => (ap a h).1 (hF a z), fun a h => ?_⟩, fun a h => ?_⟩
  · rcases List.mem_append.mp h with h | h
    · exact s.ap a (hF a (List.mem_append_left _ h))
    · rcases List.mem_append.mp h with h | h
      · exact (ap a h).2
      · exact s.ap a (hF a (List.mem_append_right _ h))
  · rcases List.mem_append.mp h with h | h
    · exact .inl (hF a (List.mem_append_left _ h))
    · rcases List.mem_append.mp h with h | h
      · exact .inr h
      · exact .inl (hF a (List.mem_append_right _ h))
theorem SOk.setV : ∀ {bs : List (Nat × VA.D)} {us : List V} {σ : St} {env : En} {F Fd : List Addr}, SOk B H T σ env F → Reps B H T (bs.map (·.2)) us Fd → Fd.Nodup → (∀ a ∈ Fd, a ∉ F ∧ ¬ T a) → (∀ p ∈ bs, p.1 < env.length) →
    ∃ F', SOk B H T (VA.setV σ ((bs.map (·.1)).zip us)) (setD env bs) F' ∧ ∀ a ∈ F', a ∈ F ∨ a ∈ Fd
  | [], us, σ, env, F, Fd, s, r, nd, ap, hl => ⟨F, s, fun a h => .inl h⟩
  | (i, d) :: bs, us, σ, env, F, Fd, s, ⟨v, vs', F1, F2, ev, e0, h1, h2⟩, nd, ap, hl => by
    rw [e0] at nd
    obtain ⟨n1, n2, n3⟩ := List.nodup_append.mp nd
    obtain ⟨G, s1, g1⟩ := s.set h1 n1 (fun a h => ap a (by rw [e0]; exact List.mem_append_left _ h)) (hl (i, d) List.mem_cons_self)
    obtain ⟨G2, s2, g2⟩ := SOk.setV (bs := bs) s1 h2 n2 (fun a h => ⟨fun z => by
      rcases g1 a z with z | z
      · exact (ap a (by rw [e0]; exact List.mem_append_right _ h)).1 z
      · exact n3 a z a h rfl, (ap a (by rw [e0]; exact List.mem_append_right _ h)).2⟩) (fun p hp => by rw [List.length_set]; exact hl p (List.mem_cons_of_mem _ hp))
    refine ⟨G2, ?_, fun a h => ?_⟩
    · rw [ev]; exact s2
    · rw [e0]
      rcases g2 a h with h | h
      · rcases g1 a h with h | h
        · exact .inl h
        · exact .inr (List.mem_append_left _ h)
      · exact .inr (List.mem_append_right _ h)

theorem EnvO.split : ∀ {env : En} {σ : St} {F : List Addr} {i : Nat} {d : VA.D}, EnvO B H T env σ F → env[i]? = some (some d) → ∃ v, σ[i]? = some (some v) ∧ ∃ L M R, Rep B H T d v M ∧ F = L ++ (M ++ R)
  | [], _, _, _, _, _, h => by simp at h
  | none :: env, _, _, 0, _, _, h => by simp at h
  | none :: env, _, _, i + 1, d, ⟨v, σ', e, h⟩, hi => by
    obtain ⟨u, h1, h2⟩ := EnvO.split (i := i) (d := d) h (by simpa using hi)
    exact ⟨u, by rw [e]; simpa using h1, h2⟩
  | some x :: env, _, _, 0, d, ⟨v, σ', F1, F2, e, e2, r, h⟩, hi => by
    cases hi
    exact ⟨v, by rw [e]; rfl, [], F1, F2, r, e2⟩
  | some x :: env, _, _, i + 1, d, ⟨v, σ', F1, F2, e, e2, r, h⟩, hi => by
    obtain ⟨u, h1, L, M, R, h2, h3⟩ := EnvO.split (i := i) (d := d) h (by simpa using hi)
    exact ⟨u, by rw [e]; simpa using h1, F1 ++ L, M, R, h2, by rw [e2, h3, List.append_assoc]⟩
/-- a value has come: the state beside it, and what is still wanted -/
def Got (B : Tab) (W : WX) (D : Ends) (H : Hp) (T : Addr → Prop) (F : List Addr) (σ : St) (env1 : En) (r : O) (d : VA.D) (v : V) (H1 : Hp) : Prop :=
  ∃ T1 F1 Fd, SOk B H1 T1 σ env1 F1 ∧ Step H T F H1 T1 F1 ∧ Rep B H1 T1 d v Fd ∧ Fd.Nodup ∧ (∀ a ∈ Fd, a ∉ F1 ∧ ¬ T1 a) ∧ (∀ a ∈ Fd, a ∈ F ∨ H a = none) ∧ PostS B W H T F r D
def R.toO {α : Type} (r : R α) (env : En) (k : α → O) : O := match r with
  | .ok a => k a
  | .ex c => .ex c env
  | .no => .no
@[simp] theorem toO_ok {α : Type} (a : α) (env : En) (k : α → O) : (R.ok a).toO env k = k a := rfl
@[simp] theorem toO_ex {α : Type} (c : Nat) (env : En) (k : α → O) : (R.ex c : R α).toO env k = .ex c env := rfl
/-- what is kept apart stays apart -/
def evXk (f : En → R VA.D) (K : En → VA.D → O) : En → O := fun env => (f env).toO env fun d => if d.fz then .no else K env d
/-- what the expression names may be known elsewhere from now on -/
def evXf (Vs : List Nat) (f : En → R VA.D) (K : En → VA.D → O) : En → O := fun env => (f (frz Vs env)).toO (frz Vs env) (K (frz Vs env))
def Mode (B : Tab) (W : WX) (Vs : List Nat) (f : En → R VA.D) (x : (En → VA.D → O) → En → O) : Prop := ∀ {σ H T env F D K}, SOk B H T σ env F → PostS B W H T F (x K env) D → tE B W Vs f σ H fun v H1 => ∃ d env1, (env1.length = env.length ∧ Same H H1) ∧ Got B W D H T F σ env1 (K env1 d) d v H1
theorem mode_k {Vs : List Nat} {f : En → R VA.D} : Mode B W Vs f (evXk f) := by
  intro σ H T env F D K s h
  refine ⟨TU T F, env, s.thU, s.view, ?_⟩
  unfold evXk at h
  revert h
  cases f env with
  | no => exact id
  | ex c => exact fun h H1 q => h σ H1 T F (s.same q) (Step.same q)
  | ok d =>
    intro h v H1 T1 Fd n r
    have h : PostS B W H T F (if d.fz then .no else K env d) D := h
    split at h
    · exact h.elim
    · rename_i hz
      refine ⟨d, env, ⟨rfl, n.same⟩, T, F, Fd, s.same n.same, Step.same n.same, r.nofz _ (Bool.eq_false_iff.mpr hz), n.nd, fun a z => ⟨fun y => ?_, fun t => (n.own a z).2 (n.le a (.inl t))⟩, fun a z => .inr (n.own a z).1, h⟩
      obtain ⟨o, q, _⟩ := s.env.there a y
      rw [(n.own a z).1] at q
      cases q
theorem mode_f {Vs : List Nat} {f : En → R VA.D} : Mode B W Vs f (evXf Vs f) := by
  intro σ H T env F D K s h
  obtain ⟨T1, F1, s1, st, q1, q2⟩ := s.frz Vs
  refine ⟨T1, frz Vs env, s1.th, s1.viewF, ?_⟩
  unfold evXf at h
  revert h
  cases f (frz Vs env) with
  | no => exact id
  | ex c => exact fun h H1 q => h σ H1 T1 F1 (s1.same q) (st.trans (Step.same q) fun x z n => absurd (q2 x z) n)
  | ok d =>
    intro h v H1 T2 Fd n r
    have fr : ∀ a, H a = none → a ∉ F1 := fun a z y => by
      obtain ⟨o, q, _⟩ := s1.env.there a y
      rw [z] at q; cases q
    have s2 : SOk B H1 T2 σ (frz Vs env) F1 := ⟨n.th, (s1.env.same n.same).tmono n.le, s1.nd, fun a z t => (n.new a t).elim (s1.ap a z) fun y => fr a y z⟩
    have st2 : Step H T F H1 T2 F1 := ⟨fun a o q _ => n.same a o q, fun a z => n.le a (st.le a z), fun a z => by
      rcases z with z | z
      · rcases n.new a z with z | z
        · exact st.new a (.inl z)
        · exact .inr (.inr z)
      · exact .inr (.inl (q2 a z))⟩
    exact ⟨d, frz Vs env, ⟨frz_len _ _, n.same⟩, T2, F1, Fd, s2, st2, r, n.nd, fun a z => ⟨fr a (n.own a z).1, (n.own a z).2⟩, fun a z => .inr (n.own a z).1, h⟩
end

section
variable {N : Inf} {X : Cx} {W : WX} {Vs : List Nat} {e : Expr} {f : En → R D} {x : (En → D → O) → En → O} {pos : Pos}
/-! ### blocks -/
def evNx : En → O := fun env => .nx env
def evSeqS (a b : En → O) : En → O := fun env => match a env with
  | .nx env => b env
  | r => r
theorem vss_nil : VSs N X W [] evNx := pss_mono pss_nil fun D σ H ⟨T, env, F, s, h⟩ => h σ H T F s Step.refl
theorem rd_seq {B : Tab} {a b : En → O} {D : Ends} {σ : St} {H : Hp} (h : tS B W (evSeqS a b) D σ H) : tSeq (tS B W a) (tS B W b) D σ H := by
  obtain ⟨T, env, F, s, h⟩ := h
  refine ⟨T, env, F, s, ?_⟩
  unfold evSeqS at h
  revert h
  cases a env with
  | nx e => exact fun h σ' H' T' F' s' st => ⟨T', e, F', s', PostS.next h s st s'.ap⟩
  | bk e => exact id
  | ct e => exact id
  | ex c e => exact id
  | rt d => exact id
  | no => exact id
theorem vss_cons {st : Stmt} {rest : List Stmt} {a b : En → O} (h1 : VS N X W st a) (h2 : VSs N X W rest b) : VSs N X W (st :: rest) (evSeqS a b) := pss_mono (pss_cons h1 h2) fun _ _ _ h => rd_seq h
theorem vss_one {st : Stmt} {a : En → O} (h1 : VS N X W st a) : VSs N X W [st] a := pss_one h1
theorem vs_pass : VS N X W (.Pass pos) evNx := ps_mono ps_pass fun D σ H ⟨T, env, F, s, h⟩ => h σ H T F s Step.refl
theorem vs_break : VS N X W (.Break pos) (fun env => .bk env) := ps_mono ps_break fun D σ H ⟨T, env, F, s, h⟩ => h σ H T F s Step.refl
theorem vs_continue : VS N X W (.Continue pos) (fun env => .ct env) := ps_mono ps_continue fun D σ H ⟨T, env, F, s, h⟩ => h σ H T F s Step.refl

/-! ### an expression alone; return -/
def evEx (x : (En → D → O) → En → O) : En → O := x fun env _ => .nx env
theorem vs_expr (hx : Mode (bOf N X) W Vs f x) (he : VE N X W Vs e f) (hs : swapsWith e none pos.line X.env = pure false := by rfl) : VS N X W (.Expr e pos) (evEx x) :=
  ps_mono (ps_expr he hs) fun D σ H ⟨T, env, F, s, h⟩ => by
    obtain ⟨T0, env0, th, hv, p⟩ := hx s h
    refine ⟨T0, env0, th, hv, ?_⟩
    revert p
    cases f env0 with
    | no => exact id
    | ex c => exact id
    | ok d =>
      intro p v H' T' Fx n r
      obtain ⟨d1, env1, _, T1, F1, Fd, s1, st, _, _, _, _, q⟩ := p v H' T' Fx n r
      exact q σ H' T1 F1 s1 st
theorem PostE.mono {B : Tab} {σ : St} {H : Hp} {T : Addr → Prop} {r : R D} {Q Q' : VK} (h : PostE B W σ H T r Q) (k : ∀ v H', Q v H' → Q' v H') : PostE B W σ H T r Q' := by
  cases r with
  | no => exact h
  | ex c => exact h
  | ok d => exact fun v H' T' F n r => k v H' (h v H' T' F n r)
theorem tE.mono {B : Tab} {σ : St} {H : Hp} {Q Q' : VK} (h : tE B W Vs f σ H Q) (k : ∀ v H', Q v H' → Q' v H') : tE B W Vs f σ H Q' := by
  obtain ⟨T, env, th, hv, p⟩ := h
  exact ⟨T, env, th, hv, p.mono k⟩
def evRet (x : (En → D → O) → En → O) : En → O := x fun _ d => .rt d
theorem vs_ret (hx : Mode (bOf N X) W Vs f x) (he : VE N X W Vs e f) : VS N X W (.Return (some e) pos) (evRet x) :=
  ps_mono (ps_ret he) fun D σ H ⟨T, env, F, s, h⟩ => (hx s h).mono fun v H' ⟨d, env1, _, T1, F1, Fd, s1, st, r, nd, ap, fr, q⟩ =>
    q v H' T1 Fd s1.th r nd (fun a z => (ap a z).2) ⟨st.fr, st.le, fun a z => by
      rcases z with z | z
      · exact st.new a (.inl z)
      · exact (fr a z).elim (fun y => .inr (.inl y)) fun y => .inr (.inr y)⟩
theorem vs_retN : VS N X W (.Return none pos) (fun _ => .rt .non) :=
  ps_mono ps_retN fun D σ H ⟨T, env, F, s, h⟩ => h .non H T [] s.th ⟨rfl, rfl⟩ List.nodup_nil (fun _ z => nomatch z) ⟨Fr.refl, fun _ h => h, fun a z => z.elim .inl fun y => nomatch y⟩
/-- return x: x's own lists go along -/
def evRetV (i : Nat) : En → O := fun env => match env[i]? with
  | some (some d) => .rt d
  | _ => .no
theorem vs_retV {i : Nat} {y : Str} {p : Pos} (hN : X.N[i]? = some y) (hv : Vis X.env.scope y) (hd : (y == ("__debug__" : Str)) = false := by decide) (hcd : (y == ("__classdict__" : Str)) = false := by decide) : VS N X W (.Return (some (.Name y p)) pos) (evRetV i) :=
  ps_mono (ps_ret (pe_var hN hv hd hcd)) fun D σ H ⟨T, env, F, s, h⟩ => by
    unfold evRetV at h
    split at h
    · rename_i d he
      obtain ⟨v, h1, F1, r, hF⟩ := s.env.get he
      obtain ⟨w, h2, L, M, R, r2, e2⟩ := EnvO.split s.env he
      rw [h1] at h2
      cases h2
      have nd := s.nd
      rw [e2] at nd
      exact ⟨v, h1, h v H T M s.th r2 (List.nodup_append.mp (List.nodup_append.mp nd).2.1).1 (fun a z => s.ap a (by rw [e2]; exact List.mem_append_right _ (List.mem_append_left _ z))) ⟨Fr.refl, fun _ h => h, fun a z => by
        rcases z with z | z
        · exact .inl z
        · exact .inr (.inl (by rw [e2]; exact List.mem_append_right _ (List.mem_append_left _ z)))⟩⟩
    · exact h.elim

/-! ### assignments -/
/-- the statement stores the value of e at slot i -/
def AsN (N : Inf) (X : Cx) (W : WX) (Vs : List Nat) (st : Stmt) (i : Nat) (f : En → R D) : Prop := PS X st (tAsg (tE (bOf N X) W Vs f) (gName i))
theorem asn_e {i : Nat} {y : Str} {p : Pos} (he : VE N X W Vs e f) (hN : X.N.Nodup) (hi : X.N[i]? = some y) (hx : Loc X.env.scope y) (hf : X.fn y = true ∨ X.env.scope.names.lookup y = some .local) (hs : swapsWith e (some (.Name y p)) pos.line X.env = pure false := by rfl) :
    AsN N X W Vs (.Assign [.Name y p] e pos) i f := ps_set hN hi hx he hs hf
def evSet (i : Nat) (x : (En → D → O) → En → O) : En → O := x fun env d => if i < env.length then .nx (env.set i (some d)) else .no
theorem vs_set {st : Stmt} {i : Nat} (hx : Mode (bOf N X) W Vs f x) (h : AsN N X W Vs st i f) : VS N X W st (evSet i x) :=
  ps_mono h fun D σ H ⟨T, env, F, s, h⟩ => (hx s h).mono fun v H' ⟨d, env1, _, T1, F1, Fd, s1, st, r, nd, ap, fr, q⟩ => by
    show D.nx (σ.set i (some v)) H'
    split at q
    · rename_i hi
      obtain ⟨F', s2, hF⟩ := s1.set r nd ap hi
      refine q _ H' T1 F' s2 ⟨st.fr, st.le, fun a z => ?_⟩
      rcases z with z | z
      · exact st.new a (.inl z)
      · rcases hF a z with z | z
        · exact st.new a (.inr z)
        · exact (fr a z).elim (fun y => .inr (.inl y)) fun y => .inr (.inr y)
    · exact q.elim
/-- a tuple of targets -/
def okPat (bs : List (Nat × D)) (env : En) : Bool := bs.all fun p => decide (p.1 < env.length)
def evPat (p : Pat) (x : (En → D → O) → En → O) : En → O := x fun env d => match patD p d with
  | some bs => if okPat bs env then .nx (setD env bs) else .no
  | none => .no
theorem vs_pat {tg : Expr} {p : Pat} (hx : Mode (bOf N X) W Vs f x) (he : VE N X W Vs e f) (hg : VP X tg p) (hs : swapsWithSole [tg] e pos.line X.env = pure false := by rfl) (hw : swappedStores [tg] e X.env = pure none := by rfl)
    (h1 : (assignEach [tg] X.env).map (·.2) = [assign tg X.env] := by rfl) : VS N X W (.Assign [tg] e pos) (evPat p x) :=
  ps_mono (ps_asg he hg hs hw h1) fun D σ H ⟨T, env, F, s, h⟩ => (hx s h).mono fun v H' ⟨d, env1, _, T1, F1, Fd, s1, st, r, nd, ap, fr, q⟩ => by
    split at q
    · rename_i bs hbs
      split at q
      · rename_i hok
        obtain ⟨us, F', rus, hsub, k⟩ := tPat_of p r hbs
        refine k _ _ ?_
        obtain ⟨G, s2, hG⟩ := s1.setV rus (nd.sublist hsub) (fun a z => ap a (hsub.subset z)) fun b hb => of_decide_eq_true (List.all_eq_true.mp hok b hb)
        refine q _ H' T1 G s2 ⟨st.fr, st.le, fun a z => ?_⟩
        rcases z with z | z
        · exact st.new a (.inl z)
        · rcases hG a z with z | z
          · exact st.new a (.inr z)
          · exact (fr a (hsub.subset z)).elim (fun y => .inr (.inl y)) fun y => .inr (.inr y)
      · exact q.elim
    · exact q.elim
/-- x += e, ints -/
def evAug (i : Nat) (g : Int → Int → Int) (f : En → R D) : En → O := fun env => match env[i]? with
  | some (some (.int a)) => (f env).toO env fun d => match d with
    | .int b => .nx (env.set i (some (.int (g a b))))
    | _ => .no
  | _ => .no
theorem vs_aug {i : Nat} {y : Str} {op : Operator} {g : Int → Int → Int} {p : Pos} (hN : X.N.Nodup) (hi : X.N[i]? = some y) (hx : Loc X.env.scope y) (he : VE N X W Vs e f) (ho : PIp X op (ipI g)) (hf : X.fn y = true ∨ X.env.scope.names.lookup y = some .local := by first | exact .inl rfl | exact .inr rfl | assumption) :
    VS N X W (.AugAssign (.Name y p) op e pos) (evAug i g f) :=
  ps_mono (ps_aug hN hi hx he ho hf) fun D σ H ⟨T, env, F, s, h⟩ => by
    unfold evAug at h
    split at h
    · rename_i a ha
      obtain ⟨v, h1, F1, r, hF⟩ := s.env.get ha
      refine ⟨v, h1, TU T F, env, s.thU, s.view, ?_⟩
      revert h
      cases f env with
      | no => exact id
      | ex c => exact fun h H1 q => h σ H1 T F (s.same q) (Step.same q)
      | ok d =>
        cases d with
        | int b =>
          intro h w H1 T1 Fd n rw'
          refine ⟨a, b, r.1, rw'.1, ?_⟩
          have hl : i < env.length := (List.getElem?_eq_some_iff.mp ha).1
          obtain ⟨F', s2, hF'⟩ := (s.same n.same).set (d := .int (g a b)) (v := .int (g a b)) (Fd := []) ⟨rfl, rfl⟩ List.nodup_nil (fun _ z => nomatch z) hl
          refine h _ H1 T F' s2 ⟨fun a o q _ => n.same a o q, fun _ h => h, fun a z => ?_⟩
          rcases z with z | z
          · exact .inl z
          · exact (hF' a z).elim (fun y => .inr (.inl y)) fun y => nomatch y
        | _ => exact fun h => h.elim
    · exact h.elim

/-! ### if -/
def evIfS (c : En → R Bool) (a b : En → O) : En → O := fun env => match c env with
  | .ok true => a env
  | .ok false => b env
  | .ex k => .ex k env
  | .no => .no
theorem vs_if {c : Expr} {p : En → R Bool} {sa sb : List Stmt} {a b : En → O} (hc : VT N X W Vs c p) (ha : VSs N X W sa a) (hb : VSs N X W sb b) : VS N X W (.If c sa sb pos) (evIfS p a b) :=
  ps_mono (ps_if hc ha hb) fun D σ H ⟨T, env, F, s, h⟩ => by
    refine ⟨TU T F, env, s.thU, s.view, ?_⟩
    unfold evIfS at h
    revert h
    cases p env with
    | no => exact id
    | ex k => exact fun h H1 q => h σ H1 T F (s.same q) (Step.same q)
    | ok k =>
      cases k with
      | true => exact fun h H1 q => iteT ⟨T, env, F, s.same q, PostS.next h s (Step.same q) s.ap⟩
      | false => exact fun h H1 q => iteF ⟨T, env, F, s.same q, PostS.next h s (Step.same q) s.ap⟩
end
end VA


set_option Elab.async false
set_option linter.all false
set_option maxRecDepth 100000
set_option maxHeartbeats 2000000
/-! VF2: loops, parallel stores, raise. -/
namespace VA
open PySem PySem.Spec L2

/-! ### lists of arguments in a statement -/
def GotA (B : Tab) (W : WX) (D : Ends) (H : Hp) (T : Addr → Prop) (F : List Addr) (σ : St) (env1 : En) (r : O) (ds : List VA.D) (vs : List V) (H1 : Hp) : Prop :=
  ∃ T1 F1 Fd, SOk B H1 T1 σ env1 F1 ∧ Step H T F H1 T1 F1 ∧ Reps B H1 T1 ds vs Fd ∧ Fd.Nodup ∧ (∀ a ∈ Fd, a ∉ F1 ∧ ¬ T1 a) ∧ (∀ a ∈ Fd, a ∈ F ∨ H a = none) ∧ PostS B W H T F r D
def evAk (f : En → R (List VA.D)) (K : En → List VA.D → O) : En → O := fun env => (f env).toO env fun d => if fzs d then .no else K env d
def evAf (Vs : List Nat) (f : En → R (List VA.D)) (K : En → List VA.D → O) : En → O := fun env => (f (frz Vs env)).toO (frz Vs env) (K (frz Vs env))
def ModeA (B : Tab) (W : WX) (Vs : List Nat) (f : En → R (List VA.D)) (x : (En → List VA.D → O) → En → O) : Prop := ∀ {σ H T env F D K}, SOk B H T σ env F → PostS B W H T F (x K env) D → tA B W Vs f σ H fun v H1 => ∃ d env1, (env1.length = env.length ∧ Same H H1) ∧ GotA B W D H T F σ env1 (K env1 d) d v H1
section
variable {B : Tab} {W : WX} {Vs : List Nat} {f : En → R (List VA.D)}
theorem modeA_k : ModeA B W Vs f (evAk f) := by
  intro σ H T env F D K s h
  refine ⟨TU T F, env, s.thU, s.view, ?_⟩
  unfold evAk at h
  revert h
  cases f env with
  | no => exact id
  | ex c => exact fun h H1 q => h σ H1 T F (s.same q) (Step.same q)
  | ok d =>
    intro h v H1 T1 Fd n r
    have h : PostS B W H T F (if fzs d then .no else K env d) D := h
    split at h
    · exact h.elim
    · rename_i hz
      refine ⟨d, env, ⟨rfl, n.same⟩, T, F, Fd, s.same n.same, Step.same n.same, r.nofz _ (Bool.eq_false_iff.mpr hz), n.nd, fun a z => ⟨fun y => ?_, fun t => (n.own a z).2 (n.le a (.inl t))⟩, fun a z => .inr (n.own a z).1, h⟩
      obtain ⟨o, q, _⟩ := s.env.there a y
      rw [(n.own a z).1] at q
      cases q
theorem modeA_f : ModeA B W Vs f (evAf Vs f) := by
  intro σ H T env F D K s h
  obtain ⟨T1, F1, s1, st, q1, q2⟩ := s.frz Vs
  refine ⟨T1, frz Vs env, s1.th, s1.viewF, ?_⟩
  unfold evAf at h
  revert h
  cases f (frz Vs env) with
  | no => exact id
  | ex c => exact fun h H1 q => h σ H1 T1 F1 (s1.same q) (st.trans (Step.same q) fun x z n => absurd (q2 x z) n)
  | ok d =>
    intro h v H1 T2 Fd n r
    have fr : ∀ a, H a = none → a ∉ F1 := fun a z y => by
      obtain ⟨o, q, _⟩ := s1.env.there a y
      rw [z] at q; cases q
    have s2 : SOk B H1 T2 σ (frz Vs env) F1 := ⟨n.th, (s1.env.same n.same).tmono n.le, s1.nd, fun a z t => (n.new a t).elim (s1.ap a z) fun y => fr a y z⟩
    have st2 : Step H T F H1 T2 F1 := ⟨fun a o q _ => n.same a o q, fun a z => n.le a (st.le a z), fun a z => by
      rcases z with z | z
      · rcases n.new a z with z | z
        · exact st.new a (.inl z)
        · exact .inr (.inr z)
      · exact .inr (.inl (q2 a z))⟩
    exact ⟨d, frz Vs env, ⟨frz_len _ _, n.same⟩, T2, F1, Fd, s2, st2, r, n.nd, fun a z => ⟨fr a (n.own a z).1, (n.own a z).2⟩, fun a z => .inr (n.own a z).1, h⟩
theorem PostA.mono {σ : St} {H : Hp} {T : Addr → Prop} {r : R (List VA.D)} {Q Q' : List V → Hp → Prop} (h : PostA B W σ H T r Q) (k : ∀ v H', Q v H' → Q' v H') : PostA B W σ H T r Q' := by
  cases r with
  | no => exact h
  | ex c => exact h
  | ok d => exact fun v H' T' F n r => k v H' (h v H' T' F n r)
theorem tA.mono {σ : St} {H : Hp} {Q Q' : List V → Hp → Prop} (h : tA B W Vs f σ H Q) (k : ∀ v H', Q v H' → Q' v H') : tA B W Vs f σ H Q' := by
  obtain ⟨T, env, th, hv, p⟩ := h
  exact ⟨T, env, th, hv, p.mono k⟩
end
section
variable {N : Inf} {X : Cx} {W : WX} {Vs : List Nat} {fs : En → R (List D)} {pos : Pos}
/-- a, b = e1, e2 -/
def evPar (i j : Nat) (x : (En → List D → O) → En → O) : En → O := x fun env ds => match ds with
  | [d1, d2] => if i < env.length ∧ j < env.length then .nx ((env.set i (some d1)).set j (some d2)) else .no
  | _ => .no
theorem vs_par {x : (En → List D → O) → En → O} {i j : Nat} {y z : Str} {a b : Expr} {px py pt : Pos} {kt k2 pt2} (hx : ModeA (bOf N X) W Vs fs x) (hc : X.calm = true) (hN : X.N.Nodup) (hi : X.N[i]? = some y) (hj : X.N[j]? = some z) (hij : i ≠ j)
    (hy : X.env.scope.names.lookup y = some .local) (hz : X.env.scope.names.lookup z = some .local) (ha : VAs N X W Vs [a, b] fs)
    (hw : swappedStores [.Tuple [.Name y px, .Name z py] kt pt] (.Tuple [a, b] k2 pt2) X.env = pure (some [y, z]))
    (hs : swapsWithSole [.Tuple [.Name y px, .Name z py] kt pt] (.Tuple [a, b] k2 pt2) pos.line X.env = pure false := by rfl)
    (pp : ∀ {ta : TA}, PA X [a, b] ta → PS X (.Assign [.Tuple [.Name y px, .Name z py] kt pt] (.Tuple [a, b] k2 pt2) pos) (tPar i j ta)) :
    VS N X W (.Assign [.Tuple [.Name y px, .Name z py] kt pt] (.Tuple [a, b] k2 pt2) pos) (evPar i j x) :=
  ps_mono (pp ha) fun D σ H ⟨T, env, F, s, h⟩ => (hx s h).mono fun vs H' ⟨ds, env1, _, T1, F1, Fd, s1, st, r, nd, ap, fr, q⟩ => by
    split at q
    · rename_i d1 d2
      split at q
      · rename_i hl
        obtain ⟨v, vs', G1, G2, ev, e0, h1, h2⟩ := r
        obtain ⟨w, vs2, G3, G4, ev2, e02, h3, h4⟩ := h2
        rw [h4.2, List.append_nil] at e02
        subst e02
        subst e0
        obtain ⟨n1, n2, n3⟩ := List.nodup_append.mp nd
        obtain ⟨K1, s2, g1⟩ := s1.set h1 n1 (fun a z => ap a (List.mem_append_left _ z)) hl.1
        obtain ⟨K2, s3, g2⟩ := s2.set h3 n2 (fun a z => ⟨fun y => by
          rcases g1 a y with y | y
          · exact (ap a (List.mem_append_right _ z)).1 y
          · exact n3 a y a z rfl, (ap a (List.mem_append_right _ z)).2⟩) (i := j) (by rw [List.length_set]; exact hl.2)
        refine ⟨v, w, by rw [ev, ev2, h4.1], q _ H' T1 K2 s3 ⟨st.fr, st.le, fun a z => ?_⟩⟩
        rcases z with z | z
        · exact st.new a (.inl z)
        · rcases g2 a z with z | z
          · rcases g1 a z with z | z
            · exact st.new a (.inr z)
            · exact (fr a (List.mem_append_left _ z)).elim (fun y => .inr (.inl y)) fun y => .inr (.inr y)
          · exact (fr a (List.mem_append_right _ z)).elim (fun y => .inr (.inl y)) fun y => .inr (.inr y)
      · exact q.elim
    · exact q.elim

/-! ### for -/
def forGo (p : Pat) (cl : List Nat) (body : En → O) : List D → En → O
  | [], env => .nx env
  | d :: ds, env => match patD p d with
    | none => .no
    | some bs => if okPat bs env then match body (setD env bs) with
      | .nx e => forGo p cl body ds (clr cl e)
      | .ct e => forGo p cl body ds (clr cl e)
      | .bk e => .nx (clr cl e)
      | .rt d => .rt d
      | .ex c e => .ex c e
      | .no => .no
      else .no
/-- the loop, over what its source gives -/
theorem loop_core {B : Tab} {J : It} {ds : List VA.D} {p : Pat} {cl : List Nat} {body : En → O} {D : Ends} {H H1 : Hp} {T T0 T1 : Addr → Prop} {F F1 : List Addr} {σ : St} {env : En}
    (sr : Src B J H1 T0 ds) (h0 : ∀ a, T0 a → T1 a) (sb : SOk B H1 T1 σ env F1) (own : ∀ x ∈ F1, x ∉ F → H x = none) (st : Step H T F H1 T1 F1) (h : PostS B W H T F (forGo p cl body ds env) D) :
    ∃ W' : Nat → Nat → St → Hp → Prop, (∃ m, W' 0 m σ H1) ∧ ∀ i m σ H, W' i m σ H →
      (J.stop i H ∧ D.nx σ H) ∨ (J.go i H ∧ ∃ N : St → Hp → Prop, (∀ σ' H', N σ' H' → ∃ m', m' < m ∧ W' (i + 1) m' σ' H') ∧ ∀ x H', J.yld i H x H' → tPat B.K p x σ H' fun σ2 H2 => tS B W body { D with nx := N, ct := N, bk := D.nx } σ2 H2) := by
  obtain ⟨G, Y, wk, hG, hY⟩ := sr.w
  -- what holds at each turn
  refine for_it wk (fun i σ2 H2 => ∃ env2 T2 F2, SOk B H2 T2 σ2 env2 F2 ∧ Step H T F H2 T2 F2 ∧ Keep T0 H1 H2 ∧ (∀ a, T0 a → T2 a) ∧ (∀ x ∈ F2, x ∉ F → H x = none) ∧ PostS B W H T F (forGo p cl body (ds.drop i) env2) D) ?_ ?_ ?_ ?_
  · exact ⟨env, T1, F1, sb, st, Keep.refl, h0, own, h⟩
  · rintro i σ2 H2 _ ⟨env2, T2, F2, _, _, k, _⟩
    exact hG H2 k
  · rintro i x σ2 H2 H3 hi ⟨env2, T2, F2, s2, st2, k2, t2, own2, h⟩ y
    obtain ⟨s23, d, hd, rd⟩ := hY i H2 x H3 k2 hi y
    have hdrop : ds.drop i = d :: ds.drop (i + 1) := by
      obtain ⟨hl, hd2⟩ := List.getElem?_eq_some_iff.mp hd
      rw [List.drop_eq_getElem_cons hl, hd2]
    rw [hdrop, forGo] at h
    split at h
    · exact h.elim
    · rename_i bs hbs
      split at h
      case isFalse => exact h.elim
      case isTrue hok =>
      obtain ⟨us, F', rus, hsub, kp⟩ := tPat_of p (rd.tmono t2) hbs
      have hF' : F' = [] := List.sublist_nil.mp hsub
      subst hF'
      refine kp _ _ ?_
      have s3 := s2.same s23
      obtain ⟨F3, s4, g4⟩ := s3.setV rus List.nodup_nil (fun _ z => nomatch z) fun b hb => of_decide_eq_true (List.all_eq_true.mp hok b hb)
      have hF3 : ∀ a ∈ F3, a ∈ F2 := fun a z => (g4 a z).resolve_right fun y => nomatch y
      have st24 : Step H2 T2 F2 H3 T2 F3 := ⟨fun a o q _ => s23 a o q, fun _ h => h, fun a z => z.elim .inl fun y => .inr (.inl (hF3 a y))⟩
      have st3 : Step H T F H3 T2 F3 := st2.trans st24 own2
      have own3 : ∀ x ∈ F3, x ∉ F → H x = none := fun x z => own2 x (hF3 x z)
      refine ⟨T2, _, F3, s4, ?_⟩
      -- the turn's end
      have fin : ∀ {e : En}, (PostS B W H T F (forGo p cl body (ds.drop (i + 1)) (clr cl e)) D) → ∀ σ' H' T' F', SOk B H' T' σ' e F' → Step H3 T2 F3 H' T' F' →
          ∃ env2 T2 F2, SOk B H' T2 σ' env2 F2 ∧ Step H T F H' T2 F2 ∧ Keep T0 H1 H' ∧ (∀ a, T0 a → T2 a) ∧ (∀ x ∈ F2, x ∉ F → H x = none) ∧ PostS B W H T F (forGo p cl body (ds.drop (i + 1)) env2) D := fun {e} q σ' H' T' F' s' t => by
        obtain ⟨F5, s5, g5⟩ := s'.clr cl
        have t5 : Step H3 T2 F3 H' T' F5 := ⟨t.fr, t.le, fun a z => z.elim (fun z => t.new a (.inl z)) fun z => t.new a (.inr (g5 a z))⟩
        have ft := st3.trans t5 own3
        refine ⟨clr cl e, T', F5, s5, ft, (k2.trans (Keep.of_same s23)).trans fun a o q z => ?_, fun a z => t.le a (t2 a z), fun x z n => ?_, q⟩
        · refine t.fr a o q (z.imp_left fun z y => ?_)
          exact s4.ap a y (t2 a z)
        · rcases ft.new x (.inr z) with y | y | y
          · exact absurd (ft.le x y) (s5.ap x z)
          · exact absurd y n
          · exact y
      revert h
      cases body (setD env2 bs) with
      | nx e => exact fun h σ' H' T' F' s' t => fin h σ' H' T' F' s' t
      | ct e => exact fun h σ' H' T' F' s' t => fin h σ' H' T' F' s' t
      | bk e =>
        intro h σ' H' T' F' s' t
        obtain ⟨F5, s5, g5⟩ := s'.clr cl
        exact h σ' H' T' F5 s5 (st3.trans ⟨t.fr, t.le, fun a z => z.elim (fun z => t.new a (.inl z)) fun z => t.new a (.inr (g5 a z))⟩ own3)
      | rt d => exact fun h v H' T' F' th r nd ap t => h v H' T' F' th r nd ap (st3.trans t own3)
      | ex c e => exact fun h σ' H' T' F' s' t => h σ' H' T' F' s' (st3.trans t own3)
      | no => exact id
  · rintro σ2 H2 ⟨env2, T2, F2, s2, st2, _, _, _, h⟩
    rw [List.drop_length] at h
    exact h σ2 H2 T2 F2 s2 st2
def evFor (Vs : List Nat) (src : En → R (List D)) (p : Pat) (cl : List Nat) (body : En → O) : En → O := fun env => (src (frz Vs env)).toO (frz Vs env) fun ds => forGo p cl body ds (clr cl (frz Vs env))
theorem vs_for {tg iter : Expr} {sb : List Stmt} {p : Pat} {cl : List Nat} {src : En → R (List D)} {body : En → O} (hp : PassesOwn (model X.prog X.w) X.A X.env X.xe) (hc : X.calm = true) (hi : VI N X W Vs tg iter src) (hg : VP X tg p) (hb : VSs N X W sb body)
    (pf : ∀ {wi : TI} {g : TG} {tb : TS}, PI X tg iter wi → PG X tg g → PSs X sb tb → PS X (.For tg iter sb [] pos) (tFor wi g tb)) : VS N X W (.For tg iter sb [] pos) (evFor Vs src p cl body) :=
  ps_mono (pf hi hg hb) fun D σ H ⟨T, env, F, s, h⟩ => by
    obtain ⟨T1, F1, s1, st, q1, q2⟩ := s.frz Vs
    refine ⟨T1, frz Vs env, s1.th, s1.viewF, ?_⟩
    unfold evFor at h
    revert h
    cases src (frz Vs env) with
    | no => exact id
    | ex c => exact fun h H1 q => h σ H1 T1 F1 (s1.same q) (st.trans (Step.same q) fun x z n => absurd (q2 x z) n)
    | ok ds =>
      intro h J H1 T2 s01 le new th sr
      have fr : ∀ a, H a = none → a ∉ F1 := fun a z y => by
        obtain ⟨o, q, _⟩ := s1.env.there a y
        rw [z] at q; cases q
      have s2 : SOk (bOf N X) H1 T2 σ (frz Vs env) F1 := ⟨th, (s1.env.same s01).tmono le, s1.nd, fun a z t => (new a t).elim (s1.ap a z) fun y => fr a y z⟩
      obtain ⟨F3, s3, g3⟩ := s2.clr cl
      have st3 : Step H T F H1 T2 F3 := ⟨fun a o q _ => s01 a o q, fun a z => le a (st.le a z), fun a z => by
        rcases z with z | z
        · rcases new a z with z | z
          · exact st.new a (.inl z)
          · exact .inr (.inr z)
        · exact .inr (.inl (q2 a (g3 a z)))⟩
      exact loop_core sr (fun _ h => h) s3 (fun x z n => absurd (q2 x (g3 x z)) n) st3 h
/-! over a range: nothing is known elsewhere for it -/
def evForR (src : En → R (List D)) (p : Pat) (cl : List Nat) (body : En → O) : En → O := fun env => (src env).toO env fun ds => forGo p cl body ds (clr cl env)
theorem src_range0 {B : Tab} {H : Hp} (lo : Int) (n : Nat) : Src B (Itr lo n) H none0 (rgL lo n) := src_range lo n
theorem vs_forR1 {tg a : Expr} {sb : List Stmt} {p : Pat} {cl : List Nat} {body : En → O} {q2 : Pos} (hp : PassesOwn (model X.prog X.w) X.A X.env X.xe) (hc : X.calm = true) (hg0 : Gl X "range") (hm0 : X.mg "range" = none) (ha : VAs N X W Vs [a] fs) (hg : VP X tg p) (hb : VSs N X W sb body)
    (hs : starEach [a] X.env = [(false, eval a X.env)] := by rfl) (pf : ∀ {wi : TI} {g : TG} {tb : TS}, PI X tg (.Call (.Name "range" q2) [a] [] pos) wi → PG X tg g → PSs X sb tb → PS X (.For tg (.Call (.Name "range" q2) [a] [] pos) sb [] pos') (tFor wi g tb)) :
    VS N X W (.For tg (.Call (.Name "range" q2) [a] [] pos) sb [] pos') (evForR (evRng1 fs) p cl body) :=
  ps_mono (pf (pi_range1 hg0 hm0 ha hs) hg hb) fun D σ H ⟨T, env, F, s, h⟩ => by
    refine ⟨TU T F, env, s.thU, s.view, ?_⟩
    unfold evForR evRng1 at h
    revert h
    cases fs env with
    | no => exact id
    | ex c => exact fun h H1 q => h σ H1 T F (s.same q) (Step.same q)
    | ok ds =>
      intro h vs H1 T1 Fd n r
      have h : PostS (bOf N X) W H T F ((rng1A ds).toO env fun ds => forGo p cl body ds (clr cl env)) D := h
      cases hk : rng1A ds with
      | no => rw [hk] at h; exact h.elim
      | ex c => exact absurd hk rng1A_ex
      | ok es =>
        rw [hk] at h
        obtain ⟨i, rfl, b1, b2, rfl⟩ := rng1A_ok hk
        have hv : vs = [.int i] := by
          obtain ⟨v, vs', F1, F2, ev, e0, h1, h2⟩ := r
          rw [ev, h1.1, h2.1]
        obtain ⟨F3, s3, g3⟩ := (s.same n.same).clr cl
        refine ⟨i, hv, b1, b2, loop_core (src_range0 0 i.toNat) (fun _ h => h.elim) s3 (fun x z n => absurd (g3 x z) n) ⟨fun a o q _ => n.same a o q, fun _ h => h, fun a z => z.elim .inl fun y => .inr (.inl (g3 a y))⟩ h⟩
theorem vs_forR2 {tg a b : Expr} {sb : List Stmt} {p : Pat} {cl : List Nat} {body : En → O} {q2 pos' : Pos} (hp : PassesOwn (model X.prog X.w) X.A X.env X.xe) (hc : X.calm = true) (hg0 : Gl X "range") (hm0 : X.mg "range" = none) (ha : VAs N X W Vs [a, b] fs) (hg : VP X tg p) (hb : VSs N X W sb body)
    (hs : starEach [a, b] X.env = [(false, eval a X.env), (false, eval b X.env)] := by rfl) (hs2 : starEach [b] X.env = [(false, eval b X.env)] := by rfl) (pf : ∀ {wi : TI} {g : TG} {tb : TS}, PI X tg (.Call (.Name "range" q2) [a, b] [] pos) wi → PG X tg g → PSs X sb tb → PS X (.For tg (.Call (.Name "range" q2) [a, b] [] pos) sb [] pos') (tFor wi g tb)) :
    VS N X W (.For tg (.Call (.Name "range" q2) [a, b] [] pos) sb [] pos') (evForR (evRng2 fs) p cl body) :=
  ps_mono (pf (pi_range2 hg0 hm0 ha hs hs2) hg hb) fun D σ H ⟨T, env, F, s, h⟩ => by
    refine ⟨TU T F, env, s.thU, s.view, ?_⟩
    unfold evForR evRng2 at h
    revert h
    cases fs env with
    | no => exact id
    | ex c => exact fun h H1 q => h σ H1 T F (s.same q) (Step.same q)
    | ok ds =>
      intro h vs H1 T1 Fd n r
      have h : PostS (bOf N X) W H T F ((rng2A ds).toO env fun ds => forGo p cl body ds (clr cl env)) D := h
      cases hk : rng2A ds with
      | no => rw [hk] at h; exact h.elim
      | ex c => exact absurd hk rng2A_ex
      | ok es =>
        rw [hk] at h
        obtain ⟨i, j, rfl, hb, rfl⟩ := rng2A_ok hk
        have hv : vs = [.int i, .int j] := by
          obtain ⟨v, vs', F1, F2, ev, e0, h1, h2⟩ := r
          obtain ⟨v', vs2, F3, F4, ev2, e02, h3, h4⟩ := h2
          rw [ev, h1.1, ev2, h3.1, h4.1]
        obtain ⟨F3, s3, g3⟩ := (s.same n.same).clr cl
        refine ⟨i, j, hv, hb, loop_core (src_range0 i (j - i).toNat) (fun _ h => h.elim) s3 (fun x z n => absurd (g3 x z) n) ⟨fun a o q _ => n.same a o q, fun _ h => h, fun a z => z.elim .inl fun y => .inr (.inl (g3 a y))⟩ h⟩

/-! ### while -/
def whGo (c : En → R Bool) (cl : List Nat) (body : En → O) : Nat → En → O
  | 0, _ => .no
  | n + 1, env => match c env with
    | .ok true => match body env with
      | .nx e => whGo c cl body n (clr cl e)
      | .ct e => whGo c cl body n (clr cl e)
      | .bk e => .nx (clr cl e)
      | .rt d => .rt d
      | .ex c e => .ex c e
      | .no => .no
    | .ok false => .nx env
    | .ex k => .ex k env
    | .no => .no
def evWh (fuel : Nat) (c : En → R Bool) (cl : List Nat) (body : En → O) : En → O := fun env => whGo c cl body fuel (clr cl env)
theorem vs_while {ce : Expr} {sb : List Stmt} {c : En → R Bool} {cl : List Nat} {body : En → O} {fuel : Nat} (hp : PassesOwn (model X.prog X.w) X.A X.env X.xe) (hc : VT N X W Vs ce c) (hb : VSs N X W sb body) : VS N X W (.While ce sb [] pos) (evWh fuel c cl body) :=
  ps_mono (ps_while hp hc hb) fun D σ H ⟨T, env, F, s, h⟩ => by
    obtain ⟨F1, s1, g1⟩ := s.clr cl
    refine ⟨fun m σ2 H2 => ∃ env2 T2 F2, SOk (bOf N X) H2 T2 σ2 env2 F2 ∧ Step H T F H2 T2 F2 ∧ (∀ x ∈ F2, x ∉ F → H x = none) ∧ PostS (bOf N X) W H T F (whGo c cl body m env2) D,
      ⟨fuel, clr cl env, T, F1, s1, ⟨Fr.refl, fun _ h => h, fun a z => z.elim .inl fun y => .inr (.inl (g1 a y))⟩, fun x z n => absurd (g1 x z) n, h⟩, ?_⟩
    rintro m σ2 H2 ⟨env2, T2, F2, s2, st2, own2, h⟩
    cases m with
    | zero => exact h.elim
    | succ m =>
      rw [whGo] at h
      refine ⟨TU T2 F2, env2, s2.thU, s2.view, ?_⟩
      revert h
      cases c env2 with
      | no => exact id
      | ex k => exact fun h H3 q => h σ2 H3 T2 F2 (s2.same q) (st2.trans (Step.same q) own2)
      | ok b =>
        cases b with
        | false => exact fun h H3 q => iteF (h σ2 H3 T2 F2 (s2.same q) (st2.trans (Step.same q) own2))
        | true =>
          intro h H3 q
          refine iteT ⟨fun σ' H' => ∃ m', m' < m + 1 ∧ ∃ env2 T2 F2, SOk (bOf N X) H' T2 σ' env2 F2 ∧ Step H T F H' T2 F2 ∧ (∀ x ∈ F2, x ∉ F → H x = none) ∧ PostS (bOf N X) W H T F (whGo c cl body m' env2) D, fun _ _ z => z, T2, env2, F2, s2.same q, ?_⟩
          have st3 : Step H T F H3 T2 F2 := st2.trans (Step.same q) own2
          have fin : ∀ {e : En}, PostS (bOf N X) W H T F (whGo c cl body m (clr cl e)) D → ∀ σ' H' T' F', SOk (bOf N X) H' T' σ' e F' → Step H3 T2 F2 H' T' F' →
              ∃ m', m' < m + 1 ∧ ∃ env2 T2 F2, SOk (bOf N X) H' T2 σ' env2 F2 ∧ Step H T F H' T2 F2 ∧ (∀ x ∈ F2, x ∉ F → H x = none) ∧ PostS (bOf N X) W H T F (whGo c cl body m' env2) D := fun {e} q σ' H' T' F' s' t => by
            obtain ⟨F5, s5, g5⟩ := s'.clr cl
            have ft := st3.trans ⟨t.fr, t.le, fun a z => z.elim (fun z => t.new a (.inl z)) fun z => t.new a (.inr (g5 a z))⟩ own2
            refine ⟨m, Nat.lt_succ_self m, clr cl e, T', F5, s5, ft, fun x z n => ?_, q⟩
            rcases ft.new x (.inr z) with y | y | y
            · exact absurd (ft.le x y) (s5.ap x z)
            · exact absurd y n
            · exact y
          revert h
          show PostS (bOf N X) W H T F (match body env2 with
            | .nx e => whGo c cl body m (clr cl e)
            | .ct e => whGo c cl body m (clr cl e)
            | .bk e => .nx (clr cl e)
            | .rt d => .rt d
            | .ex c e => .ex c e
            | .no => .no) D → _
          cases body env2 with
          | nx e => exact fun h σ' H' T' F' s' t => fin h σ' H' T' F' s' t
          | ct e => exact fun h σ' H' T' F' s' t => fin h σ' H' T' F' s' t
          | bk e =>
            intro h σ' H' T' F' s' t
            obtain ⟨F5, s5, g5⟩ := s'.clr cl
            exact h σ' H' T' F5 s5 (st3.trans ⟨t.fr, t.le, fun a z => z.elim (fun z => t.new a (.inl z)) fun z => t.new a (.inr (g5 a z))⟩ own2)
          | rt d => exact fun h v H' T' F' th r nd ap t => h v H' T' F' th r nd ap (st3.trans t own2)
          | ex c e => exact fun h σ' H' T' F' s' t => h σ' H' T' F' s' (st3.trans t own2)
          | no => exact id

/-! ### raise -/
def evRaise (c : Nat) : En → O := fun env => .ex c env
theorem vs_raise {c : Nat} {e : Expr} (hc : X.calm = true) (tk : Takes X W) (he : PMk X e (fun _ H Q => Q (.ref (N.ca c)) none H)) : VS N X W (.Raise (some e) none pos) (evRaise c) :=
  ps_mono (ps_raise hc tk he) fun D σ H ⟨T, env, F, s, h⟩ => h σ H T F s Step.refl
end
end VA


set_option Elab.async false
set_option linter.all false
set_option maxRecDepth 100000
set_option maxHeartbeats 2000000
/-! VF3: lists and dicts changed in place. -/
namespace VA
open PySem PySem.Spec L2

/-- what stands at a path of places within own lists and tuples -/
def D.at : D → List Int → Option D
  | d, [] => some d
  | .lst .own xs, k :: p => match atI xs k with
    | some d => d.at p
    | none => none
  | .tup xs, k :: p => match atI xs k with
    | some d => d.at p
    | none => none
  | _, _ :: _ => none
def D.put : D → List Int → D → D
  | _, [], n => n
  | .lst o xs, k :: p, n => match ixN xs.length k with
    | some j => .lst o (xs.set j ((xs.getD j .non).put p n))
    | none => .lst o xs
  | .tup xs, k :: p, n => match ixN xs.length k with
    | some j => .tup (xs.set j ((xs.getD j .non).put p n))
    | none => .tup xs
  | d, _ :: _, _ => d
/-- the values' side -/
def VAt (H : Hp) : V → List Int → V → Prop
  | v, [], u => v = u
  | v, k :: p, u => ∃ a vs w, v = .ref a ∧ (H a = some (.lst vs) ∨ H a = some (.tup vs)) ∧ atI vs k = some w ∧ VAt H w p u
theorem VAt.same {H H' : Hp} (s : Same H H') : ∀ {p : List Int} {v u : V}, VAt H v p u → VAt H' v p u
  | [], v, u, h => h
  | k :: p, v, u, ⟨a, vs, w, e, hs, hw, h⟩ => ⟨a, vs, w, e, hs.imp (s _ _) (s _ _), hw, VAt.same s h⟩
theorem VAt.det {H : Hp} : ∀ {p : List Int} {v u u' : V}, VAt H v p u → VAt H v p u' → u = u'
  | [], v, u, u', h, h' => h.symm.trans h'
  | k :: p, v, u, u', ⟨a, vs, w, e, hs, hw, h⟩, ⟨b, ws, x, e1, h1, h2, h3⟩ => by
    rw [e] at e1
    cases e1
    have : vs = ws := by
      rcases hs with hs | hs <;> rcases h1 with h1 | h1 <;> rw [hs] at h1 <;> cases h1 <;> rfl
    subst this
    rw [hw] at h2
    cases h2
    exact VAt.det h h3
theorem VAt.snoc {H : Hp} : ∀ {p : List Int} {v u : V} {k : Int}, VAt H v (p ++ [k]) u → ∃ w a vs, VAt H v p w ∧ w = .ref a ∧ (H a = some (.lst vs) ∨ H a = some (.tup vs)) ∧ atI vs k = some u
  | [], v, u, k, ⟨a, vs, w, e, hs, hw, h⟩ => ⟨v, a, vs, rfl, e, hs, by rw [hw]; exact congrArg some h⟩
  | j :: p, v, u, k, ⟨b, ws, x, e1, h1, h2, h3⟩ => by
    obtain ⟨w, a, vs, q1, q2, q3, q4⟩ := VAt.snoc h3
    exact ⟨w, a, vs, ⟨b, ws, x, e1, h1, h2, q1⟩, q2, q3, q4⟩
section
variable {B : Tab} {H H' : Hp} {T T' G : Addr → Prop}
/-- one place of a list, apart -/
theorem Reps.focus : ∀ {ds : List D} {vs : List V} {F : List Addr} {j : Nat} {d : D}, Reps B H T ds vs F → ds[j]? = some d →
    ∃ v L M R, vs[j]? = some v ∧ F = L ++ (M ++ R) ∧ Rep B H T d v M ∧ ∀ {H' : Hp} {T' G : Addr → Prop} {d' : D} {M' : List Addr}, Fr G H H' → (∀ a, G a → ¬ T a) → (∀ a ∈ L ++ R, ¬ G a) → (∀ a, T a → T' a) → Rep B H' T' d' v M' → Reps B H' T' (ds.set j d') vs (L ++ (M' ++ R))
  | [], _, _, _, _, _, h => by simp at h
  | x :: ds, _, _, 0, d, ⟨v, vs', F1, F2, ev, e, h1, h2⟩, h => by
    cases h
    refine ⟨v, [], F1, F2, by rw [ev]; rfl, e, h1, fun {H' T' G d' M'} f hT hn le r => ?_⟩
    exact ⟨v, vs', M', F2, ev, rfl, r, Reps.tmono le _ (Reps.fr f hT _ (fun a z => hn a z) h2)⟩
  | x :: ds, _, _, j + 1, d, ⟨v, vs', F1, F2, ev, e, h1, h2⟩, h => by
    obtain ⟨u, L, M, R, q1, q2, q3, q4⟩ := Reps.focus (j := j) h2 (by simpa using h)
    refine ⟨u, F1 ++ L, M, R, by rw [ev]; simpa using q1, by rw [e, q2, List.append_assoc], q3, fun {H' T' G d' M'} f hT hn le r => ?_⟩
    exact ⟨v, vs', F1, L ++ (M' ++ R), ev, List.append_assoc _ _ _, (Rep.fr f hT _ (fun a z => hn a (by rw [List.append_assoc]; exact List.mem_append_left _ z)) h1).tmono le,
      q4 f hT (fun a z => hn a (by rw [List.append_assoc]; exact List.mem_append_right _ z)) le r⟩
theorem atI_ix {α : Type} {xs : List α} {k : Int} {d : α} (h : atI xs k = some d) : ∃ j, ixN xs.length k = some j ∧ xs[j]? = some d := by
  unfold atI at h
  obtain ⟨j, h1, h2⟩ := Option.bind_eq_some_iff.mp h
  exact ⟨j, h1, h2⟩
theorem atI_of_ix {α : Type} {xs : List α} {k : Int} {j : Nat} {d : α} (h1 : ixN xs.length k = some j) (h2 : xs[j]? = some d) : atI xs k = some d := by
  unfold atI
  rw [h1]
  exact h2
theorem Rep.focus : ∀ {p : List Int} {d n : D} {v : V} {F : List Addr}, Rep B H T d v F → d.at p = some n →
    ∃ u L M R, VAt H v p u ∧ F = L ++ (M ++ R) ∧ Rep B H T n u M ∧ ∀ {H' : Hp} {T' G : Addr → Prop} {n' : D} {M' : List Addr}, Fr G H H' → (∀ a, G a → ¬ T a) → (∀ a ∈ L ++ R, ¬ G a) → (∀ a, T a → T' a) → Rep B H' T' n' u M' → Rep B H' T' (d.put p n') v (L ++ (M' ++ R))
  | [], d, n, v, F, h, e => by
    have e : some d = some n := by cases d <;> exact e
    cases e
    exact ⟨v, [], F, [], rfl, by simp, h, fun {H' T' G n' M'} f hT hn le r => by
      have : d.put [] n' = n' := by cases d <;> rfl
      rw [this]
      simpa using r⟩
  | k :: p, .lst .own xs, n, v, F, ⟨a, vs, F1, ev, hs, e0, hr⟩, e => by
    rw [D.at] at e
    split at e
    · rename_i d hd
      obtain ⟨j, hj, hdj⟩ := atI_ix hd
      obtain ⟨w, L, M, R, q1, q2, q3, q4⟩ := hr.focus hdj
      obtain ⟨u, L2, M2, R2, p1, p2, p3, p4⟩ := Rep.focus (p := p) q3 e
      refine ⟨u, a :: (L ++ L2), M2, R2 ++ R, ⟨a, vs, w, ev, .inl hs, atI_of_ix (by rw [← hr.len]; exact hj) q1, p1⟩, ?_, p3, fun {H' T' G n' M'} f hT hn le r => ?_⟩
      · rw [e0, q2, p2]; simp
      · have r2 := p4 f hT (fun b z => hn b (by
          rcases List.mem_append.mp z with z | z
          · exact List.mem_append_left _ (List.mem_cons_of_mem _ (List.mem_append_right _ z))
          · exact List.mem_append_right _ (List.mem_append_left _ z))) le r
        have r3 := q4 f hT (fun b z => hn b (by
          rcases List.mem_append.mp z with z | z
          · exact List.mem_append_left _ (List.mem_cons_of_mem _ (List.mem_append_left _ z))
          · exact List.mem_append_right _ (List.mem_append_right _ z))) le r2
        have hput : (D.lst .own xs).put (k :: p) n' = .lst .own (xs.set j (d.put p n')) := by
          rw [D.put, hj]
          show D.lst .own (xs.set j ((xs.getD j .non).put p n')) = _
          rw [List.getD_eq_getElem?_getD, hdj]; rfl
        rw [hput]
        refine ⟨a, vs, _, ev, f _ _ hs (.inl (hn a (List.mem_append_left _ List.mem_cons_self))), ?_, r3⟩
        simp
    · cases e
  | k :: p, .tup xs, n, v, F, ⟨a, vs, ev, hs, hr⟩, e => by
    rw [D.at] at e
    split at e
    · rename_i d hd
      obtain ⟨j, hj, hdj⟩ := atI_ix hd
      obtain ⟨w, L, M, R, q1, q2, q3, q4⟩ := hr.focus hdj
      obtain ⟨u, L2, M2, R2, p1, p2, p3, p4⟩ := Rep.focus (p := p) q3 e
      refine ⟨u, L ++ L2, M2, R2 ++ R, ⟨a, vs, w, ev, .inr hs, atI_of_ix (by rw [← hr.len]; exact hj) q1, p1⟩, ?_, p3, fun {H' T' G n' M'} f hT hn le r => ?_⟩
      · rw [q2, p2]; simp
      · have r2 := p4 f hT (fun b z => hn b (by
          rcases List.mem_append.mp z with z | z
          · exact List.mem_append_left _ (List.mem_append_right _ z)
          · exact List.mem_append_right _ (List.mem_append_left _ z))) le r
        have r3 := q4 f hT (fun b z => hn b (by
          rcases List.mem_append.mp z with z | z
          · exact List.mem_append_left _ (List.mem_append_left _ z)
          · exact List.mem_append_right _ (List.mem_append_right _ z))) le r2
        have hput : (D.tup xs).put (k :: p) n' = .tup (xs.set j (d.put p n')) := by
          rw [D.put, hj]
          show D.tup (xs.set j ((xs.getD j .non).put p n')) = _
          rw [List.getD_eq_getElem?_getD, hdj]; rfl
        rw [hput]
        refine ⟨a, vs, ev, f _ _ hs (.inr id), ?_⟩
        simpa using r3
    · cases e
  | _ :: _, .lst .sh _, _, _, _, _, e => by cases e
  | _ :: _, .lst .scr _, _, _, _, _, e => by cases e
  | _ :: _, .non, _, _, _, _, e => by cases e
  | _ :: _, .bl _, _, _, _, _, e => by cases e
  | _ :: _, .int _, _, _, _, _, e => by cases e
  | _ :: _, .str _, _, _, _, _, e => by cases e
  | _ :: _, .fn _, _, _, _, _, e => by cases e
  | _ :: _, .exc _, _, _, _, _, e => by cases e
  | _ :: _, .ktp _, _, _, _, _, e => by cases e
  | _ :: _, .dic _ _ _, _, _, _, _, e => by cases e
  | _ :: _, .dtt _ _ _, _, _, _, _, e => by cases e
/-- a slot's list at a path, changed: from the state before to the state behind -/
theorem SOk.put {σ : St} {env : En} {F : List Addr} {i : Nat} {d n : D} {p : List Int} (s : SOk B H T σ env F) (hi : env[i]? = some (some d)) (hn : d.at p = some n) :
    ∃ v u M, σ[i]? = some (some v) ∧ VAt H v p u ∧ Rep B H T n u M ∧ (∀ a ∈ M, a ∈ F) ∧ M.Nodup ∧ ∀ {H' : Hp} {T' : Addr → Prop} {n' : D} {M' : List Addr}, Fr (fun a => a ∈ M) H H' → (∀ a, T a → T' a) → Th H' T' → (∀ a ∈ F, ¬ T' a) → Rep B H' T' n' u M' → M'.Nodup → (∀ a ∈ M', ¬ T' a) → (∀ a ∈ M', a ∈ F → a ∈ M) →
      ∃ F', SOk B H' T' σ (env.set i (some (d.put p n'))) F' ∧ ∀ a ∈ F', a ∈ F ∨ a ∈ M' := by
  have key : ∀ {env : En} {σ : St} {F : List Addr} {i : Nat}, EnvO B H T env σ F → env[i]? = some (some d) →
      ∃ v L M R, σ[i]? = some (some v) ∧ F = L ++ (M ++ R) ∧ Rep B H T d v M ∧ ∀ {H' : Hp} {T' G : Addr → Prop} {d' : D} {M' : List Addr}, Fr G H H' → (∀ a, G a → ¬ T a) → (∀ a ∈ L ++ R, ¬ G a) → (∀ a, T a → T' a) → Rep B H' T' d' v M' → EnvO B H' T' (env.set i (some d')) σ (L ++ (M' ++ R)) := by
    intro env
    induction env with
    | nil => intro σ F i h e; simp at e
    | cons x env ih =>
      intro σ F i h e
      cases x with
      | none =>
        obtain ⟨v, σ', eσ, h⟩ := h
        cases i with
        | zero => simp at e
        | succ i =>
          obtain ⟨u, L, M, R, q1, q2, q3, q4⟩ := ih (i := i) h (by simpa using e)
          refine ⟨u, L, M, R, by rw [eσ]; simpa using q1, q2, q3, fun {H' T' G d' M'} f hT hn le r => ?_⟩
          exact ⟨v, σ', eσ, q4 f hT hn le r⟩
      | some x =>
        obtain ⟨v, σ', F1, F2, eσ, eF, rx, h⟩ := h
        cases i with
        | zero =>
          cases e
          refine ⟨v, [], F1, F2, by rw [eσ]; rfl, eF, rx, fun {H' T' G d' M'} f hT hn le r => ?_⟩
          exact ⟨v, σ', M', F2, eσ, rfl, r, (EnvO.fr f hT (fun a z => hn a z) h).tmono le⟩
        | succ i =>
          obtain ⟨u, L, M, R, q1, q2, q3, q4⟩ := ih (i := i) h (by simpa using e)
          refine ⟨u, F1 ++ L, M, R, by rw [eσ]; simpa using q1, by rw [eF, q2, List.append_assoc], q3, fun {H' T' G d' M'} f hT hn le r => ?_⟩
          exact ⟨v, σ', F1, L ++ (M' ++ R), eσ, List.append_assoc _ _ _, (Rep.fr f hT _ (fun a z => hn a (by rw [List.append_assoc]; exact List.mem_append_left _ z)) rx).tmono le,
            q4 f hT (fun a z => hn a (by rw [List.append_assoc]; exact List.mem_append_right _ z)) le r⟩
  obtain ⟨v, L, M, R, q1, q2, q3, q4⟩ := key s.env hi
  obtain ⟨u, L2, M2, R2, p1, p2, p3, p4⟩ := q3.focus hn
  have hM : ∀ a ∈ M2, a ∈ F := fun a h => by rw [q2, p2]; simp [h]
  have nd := s.nd
  have eF : F = (L ++ L2) ++ (M2 ++ (R2 ++ R)) := by rw [q2, p2]; simp
  rw [eF] at nd
  obtain ⟨n1, n2⟩ := nd_cut nd
  have sub : ∀ a, a ∈ (L ++ L2) ++ (R2 ++ R) → a ∈ F := fun a h => by
    rw [eF]
    rcases List.mem_append.mp h with h | h
    · exact List.mem_append_left _ h
    · exact List.mem_append_right _ (List.mem_append_right _ h)
  refine ⟨v, u, M2, q1, p1, p3, hM, (List.nodup_append.mp (List.nodup_append.mp nd).2.1).1, fun {H' T' n' M'} f le th hap r nM aM hM' => ?_⟩
  have hG : ∀ a, (fun a => a ∈ M2) a → ¬ T a := fun a h => s.ap a (hM a h)
  have ap1 : ∀ a ∈ (L ++ L2) ++ (R2 ++ R), ¬ (fun a => a ∈ M2) a := fun a h z => n2 a z h
  have r2 := p4 f hG (fun a z => ap1 a (by
    rcases List.mem_append.mp z with z | z
    · exact List.mem_append_left _ (List.mem_append_right _ z)
    · exact List.mem_append_right _ (List.mem_append_left _ z))) le r
  have e2 := q4 f hG (fun a z => ap1 a (by
    rcases List.mem_append.mp z with z | z
    · exact List.mem_append_left _ (List.mem_append_left _ z)
    · exact List.mem_append_right _ (List.mem_append_right _ z))) le r2
  have eN : L ++ ((L2 ++ (M' ++ R2)) ++ R) = (L ++ L2) ++ (M' ++ (R2 ++ R)) := by simp
  rw [eN] at e2
  refine ⟨_, ⟨th, e2, nd_put nd nM fun a h z => ?_, fun a h => ?_⟩, fun a h => ?_⟩
  · exact n2 a (hM' a h (sub a z)) z
  · rcases List.mem_append.mp h with h | h
    · exact hap a (sub a (List.mem_append_left _ h))
    · rcases List.mem_append.mp h with h | h
      · exact aM a h
      · exact hap a (sub a (List.mem_append_right _ h))
  · rcases List.mem_append.mp h with h | h
    · exact .inl (sub a (List.mem_append_left _ h))
    · rcases List.mem_append.mp h with h | h
      · exact .inr h
      · exact .inl (sub a (List.mem_append_right _ h))
end
end VA


set_option Elab.async false
set_option linter.all false
set_option maxRecDepth 100000
set_option maxHeartbeats 2000000
/-! VF4: places read, lists changed in place. -/
namespace VA
open PySem PySem.Spec L2

def atE (env : En) (i : Nat) (p : List Int) : Option D := match env[i]? with
  | some (some d) => d.at p
  | _ => none
def putE (env : En) (i : Nat) (p : List Int) (n : D) : En := match env[i]? with
  | some (some d) => env.set i (some (d.put p n))
  | _ => env
theorem D.at_snoc : ∀ {p : List Int} {d n : D} {k : Int}, d.at (p ++ [k]) = some n → ∃ m, d.at p = some m
  | [], d, n, k, _ => ⟨d, by cases d <;> rfl⟩
  | j :: p, .lst .own xs, n, k, e => by
    rw [List.cons_append, D.at] at e
    rw [D.at]
    cases h : atI xs j with
    | none => rw [h] at e; cases e
    | some x => rw [h] at e; exact D.at_snoc (p := p) e
  | j :: p, .tup xs, n, k, e => by
    rw [List.cons_append, D.at] at e
    rw [D.at]
    cases h : atI xs j with
    | none => rw [h] at e; cases e
    | some x => rw [h] at e; exact D.at_snoc (p := p) e
  | _ :: _, .lst .sh _, _, _, e => by cases e
  | _ :: _, .lst .scr _, _, _, e => by cases e
  | _ :: _, .non, _, _, e => by cases e
  | _ :: _, .bl _, _, _, e => by cases e
  | _ :: _, .int _, _, _, e => by cases e
  | _ :: _, .str _, _, _, e => by cases e
  | _ :: _, .fn _, _, _, e => by cases e
  | _ :: _, .exc _, _, _, e => by cases e
  | _ :: _, .ktp _, _, _, e => by cases e
  | _ :: _, .dic _ _ _, _, _, e => by cases e
  | _ :: _, .dtt _ _ _, _, _, e => by cases e
theorem atE_snoc {env : En} {i : Nat} {p : List Int} {n : D} {k : Int} (h : atE env i (p ++ [k]) = some n) : ∃ m, atE env i p = some m := by
  unfold atE at h ⊢
  revert h
  cases env[i]? with
  | none => exact fun h => nomatch h
  | some o =>
    cases o with
    | none => exact fun h => nomatch h
    | some d => exact fun h => D.at_snoc h
theorem atE_get {env : En} {i : Nat} {p : List Int} {n : D} (h : atE env i p = some n) : ∃ d, env[i]? = some (some d) ∧ d.at p = some n := by
  unfold atE at h
  revert h
  cases env[i]? with
  | none => exact fun h => nomatch h
  | some o =>
    cases o with
    | none => exact fun h => nomatch h
    | some d => exact fun h => ⟨d, rfl, h⟩
/-- the place i, p is read -/
def tPl (B : Tab) (i : Nat) (pf : En → Option (List Int)) : TE := fun σ H Q => ∃ T env F, SOk B H T σ env F ∧ match pf env with
  | some p => (∃ n, atE env i p = some n) ∧ ∀ v u H', σ[i]? = some (some v) → Same H H' → VAt H' v p u → Q u H'
  | none => False
def VPl (N : Inf) (X : Cx) (e : Expr) (i : Nat) (pf : En → Option (List Int)) : Prop := PE X e (tPl (bOf N X) i pf)
def evP0 : En → Option (List Int) := fun _ => some []
def evP1 (pf : En → Option (List Int)) (f : En → R D) : En → Option (List Int) := fun env => match pf env, f env with
  | some p, .ok (.int k) => some (p ++ [k])
  | _, _ => none
section
variable {N : Inf} {X : Cx} {W : WX} {Vs : List Nat} {e : Expr} {f : En → R D} {pos : Pos} {i : Nat} {pf : En → Option (List Int)}
theorem vpl_nm {x : Str} (hN : X.N[i]? = some x) (hv : Vis X.env.scope x) (hd : (x == ("__debug__" : Str)) = false := by decide) (hcd : (x == ("__classdict__" : Str)) = false := by decide) : VPl N X (.Name x pos) i evP0 :=
  pe_mono (pe_var hN hv hd hcd) fun σ H Q ⟨T, env, F, s, ⟨n, hn⟩, h⟩ => by
    obtain ⟨d, hi, _⟩ := atE_get hn
    obtain ⟨v, hs, _⟩ := s.env.get hi
    exact ⟨v, hs, h v v H hs (Same.refl H) rfl⟩
/-- what stands at a place, by values -/
theorem SOk.vat {B : Tab} {H : Hp} {T : Addr → Prop} {σ : St} {env : En} {F : List Addr} {p : List Int} {n : D} (s : SOk B H T σ env F) (h : atE env i p = some n) : ∃ v u, σ[i]? = some (some v) ∧ VAt H v p u := by
  obtain ⟨d, hi, hd⟩ := atE_get h
  obtain ⟨v, u, M, h1, h2, _, _⟩ := s.put hi hd
  exact ⟨v, u, h1, h2⟩
theorem vpl_ix {a b : Expr} {k : Nat} (hr : Room k X.A) (hs : PlainIx b) (ha : VPl N X a i pf) (hb : VE N X W Vs b f) : VPl N X (.Subscript a b pos) i (evP1 pf f) :=
  pe_mono (pe_ix (ixr_all hr) ha hb hs) fun σ H Q ⟨T, env, F, s, h⟩ => by
    refine ⟨T, env, F, s, ?_⟩
    unfold evP1 at h
    cases hp : pf env with
    | none => rw [hp] at h; exact h.elim
    | some p =>
      rw [hp] at h
      cases hf : f env with
      | no => rw [hf] at h; exact h.elim
      | ex c => rw [hf] at h; exact h.elim
      | ok d =>
        rw [hf] at h
        cases d with
        | int k =>
          obtain ⟨⟨n, hn⟩, h⟩ := h
          refine ⟨atE_snoc hn, fun v u H1 hv s1 hu => ⟨TU T F, env, (s.same s1).thU, (s.same s1).view, ?_⟩⟩
          rw [hf]
          intro w H2 T2 Fd n2 rw2
          obtain ⟨v', u', h1, h2⟩ := ((s.same s1).same n2.same).vat hn
          rw [hv] at h1
          cases h1
          obtain ⟨z, a, vs, q1, q2, q3, q4⟩ := h2.snoc
          have : u = z := (hu.same n2.same).det q1
          subst this
          have q := h v u' H2 hv (s1.trans n2.same) h2
          rcases q3 with q3 | q3
          · exact .inl (.inl ⟨a, vs, k, u', q2, rw2.1, .inl (.inl q3), q4, q⟩)
          · exact .inl (.inr (.inl ⟨a, vs, k, u', q2, rw2.1, .inl (.inl q3), q4, q⟩))
        | _ => exact h.elim

/-! ### what a change does -/
/-- by the rule t, what stands as n is made n' -/
def MutOk (B : Tab) (t : V → List V → Hp → VK → Prop) (g : D → List D → Option D) : Prop :=
  ∀ {H : Hp} {T : Addr → Prop} {n n' : D} {u : V} {M Fd : List Addr} {ds : List D} {vs : List V} {Q : VK}, Th H T → Rep B H T n u M → M.Nodup → (∀ a ∈ M, ¬ T a) → Reps B H T ds vs Fd → Fd.Nodup → (∀ a ∈ Fd, a ∉ M) → g n ds = some n' →
    (∀ w H' M', Fr (fun a => a ∈ M) H H' → Th H' T → Rep B H' T n' u M' → M'.Nodup → (∀ a ∈ M', a ∈ M ∨ a ∈ Fd) → Q w H') → t u vs H Q
theorem fr_upd {H : Hp} {a : Addr} {o : HO} {M : List Addr} (ha : a ∈ M) (hm : ∃ o, H a = some o ∧ MutO o) : Fr (fun a => a ∈ M) H (upd H a o) := fun b o' hb q => by
  by_cases e : b = a
  · subst e
    obtain ⟨o2, h2, h3⟩ := hm
    rw [hb] at h2
    cases h2
    exact q.elim (fun z => absurd ha z) fun z => absurd h3 z
  · rw [upd_ne e]; exact hb
theorem th_upd {H : Hp} {T : Addr → Prop} {a : Addr} {o : HO} (t : Th H T) : Th (upd H a o) T := fun b hb => by
  by_cases e : b = a
  · subst e; exact ⟨o, upd_same⟩
  · obtain ⟨o', q⟩ := t b hb
    exact ⟨o', by rw [upd_ne e]; exact q⟩
theorem fr_one {H : Hp} {a : Addr} {o : HO} (hm : ∃ o, H a = some o ∧ MutO o) : Fr (fun b => b = a) H (upd H a o) := fun b o' hb q => by
  by_cases e : b = a
  · subst e
    obtain ⟨o2, h2, h3⟩ := hm
    rw [hb] at h2
    cases h2
    exact q.elim (fun z => absurd rfl z) fun z => absurd h3 z
  · rw [upd_ne e]; exact hb
end
/-- a list takes other things: the general rule -/
theorem mut_list {B : Tab} {H : Hp} {T : Addr → Prop} {a : Addr} {vs ws : List V} {ds : List D} {F1 F2 : List Addr} {Q : VK} {w : V} {M Fd : List Addr} (th : Th H T) (hM : M = a :: F1) (hH : H a = some (.lst vs)) (aT : ¬ T a)
    (r : Reps B H T ds ws F2) (nd : F2.Nodup) (ha : a ∉ F2) (sub : ∀ b ∈ F2, b ∈ F1 ∨ b ∈ Fd)
    (k : ∀ w H' M', Fr (fun a => a ∈ M) H H' → Th H' T → Rep B H' T (.lst .own ds) (.ref a) M' → M'.Nodup → (∀ a ∈ M', a ∈ M ∨ a ∈ Fd) → Q w H') : Q w (upd H a (.lst ws)) := by
  have hm : ∃ o, H a = some o ∧ MutO o := ⟨_, hH, trivial⟩
  refine k w _ (a :: F2) (fr_upd (by rw [hM]; exact List.mem_cons_self) hm) (th_upd th) ⟨a, ws, F2, rfl, upd_same, rfl, ?_⟩ (List.nodup_cons.mpr ⟨ha, nd⟩) fun b hb => ?_
  · exact Reps.fr (fr_one hm) (fun b e t => by subst e; exact aT t) ds (fun b hb e => by subst e; exact ha hb) r
  · rcases List.mem_cons.mp hb with rfl | hb
    · exact .inl (by rw [hM]; exact List.mem_cons_self)
    · exact (sub b hb).imp_left fun z => by rw [hM]; exact List.mem_cons_of_mem _ z
end VA


set_option Elab.async false
set_option linter.all false
set_option maxRecDepth 100000
set_option maxHeartbeats 2000000
/-! VF5: changes. -/
namespace VA
open PySem PySem.Spec L2
/-! ### the changes -/
def mAppend (n : D) (ds : List D) : Option D := match n, ds with
  | .lst .own xs, [d] => if xs.length < sizeLine then some (.lst .own (xs ++ [d])) else none
  | _, _ => none
def mInsert (n : D) (ds : List D) : Option D := match n, ds with
  | .lst .own xs, [.int i, d] => if xs.length < sizeLine ∧ 0 ≤ i ∧ i < 2 ^ 63 then some (.lst .own (xs.take i.toNat ++ [d] ++ xs.drop i.toNat)) else none
  | _, _ => none
def mSet (n : D) (ds : List D) : Option D := match n, ds with
  | .lst .own xs, [.int k, d] => match ixN xs.length k with
    | some j => some (.lst .own (xs.set j d))
    | none => none
  | _, _ => none
theorem Reps.two {B : Tab} {H : Hp} {T : Addr → Prop} {d e : D} {vs : List V} {F : List Addr} (r : Reps B H T [d, e] vs F) : ∃ v w F1 F2, vs = [v, w] ∧ F = F1 ++ F2 ∧ Rep B H T d v F1 ∧ Rep B H T e w F2 := by
  obtain ⟨v, vs', G1, G2, ev, e0, h1, h2⟩ := r
  obtain ⟨w, vs2, G3, G4, ev2, e02, h3, h4⟩ := h2
  rw [h4.2, List.append_nil] at e02
  subst e02
  exact ⟨v, w, G1, G2, by rw [ev, ev2, h4.1], e0, h1, h3⟩
theorem Reps.un {B : Tab} {H : Hp} {T : Addr → Prop} {d : D} {vs : List V} {F : List Addr} (r : Reps B H T [d] vs F) : ∃ v, vs = [v] ∧ Rep B H T d v F := by
  obtain ⟨v, vs', G1, G2, ev, e0, h1, h2⟩ := r
  rw [h2.2, List.append_nil] at e0
  exact ⟨v, by rw [ev, h2.1], by rw [e0]; exact h1⟩
theorem mut_append {B : Tab} : MutOk B rAppend mAppend := by
  intro H T n n' u M Fd ds vs Q th rn nM aM rd nd dj e k
  unfold mAppend at e
  split at e
  · rename_i xs d
    split at e
    · rename_i hz
      cases e
      obtain ⟨a, us, F1, hu, hH, hM, rx⟩ := rn
      obtain ⟨v, rfl, r1⟩ := rd.un
      have nM' := nM
      rw [hM] at nM'
      obtain ⟨n1, n2⟩ := List.nodup_cons.mp nM'
      have dj' : ∀ b ∈ Fd, b ≠ a ∧ b ∉ F1 := fun b hb => by
        have := dj b hb
        rw [hM] at this
        exact ⟨fun z => this (by rw [z]; exact List.mem_cons_self), fun z => this (List.mem_cons_of_mem _ z)⟩
      subst hu
      refine ⟨a, us, v, rfl, rfl, hH, by rw [← rx.len]; exact hz, ?_⟩
      refine mut_list (F1 := F1) (F2 := F1 ++ Fd) th hM hH (aM a (by rw [hM]; exact List.mem_cons_self)) (rx.app (Reps.one r1)) (List.nodup_append.mpr ⟨n2, nd, fun b hb c hc e => ?_⟩) (fun z => ?_) (fun b hb => ?_) k
      · subst e; exact (dj' b hc).2 hb
      · rcases List.mem_append.mp z with z | z
        · exact n1 z
        · exact (dj' a z).1 rfl
      · exact List.mem_append.mp hb
    · cases e
  · cases e
theorem Reps.halve {B : Tab} {H : Hp} {T : Addr → Prop} : ∀ {ds : List D} {vs : List V} {F : List Addr} (n : Nat), Reps B H T ds vs F → ∃ F1 F2, F = F1 ++ F2 ∧ Reps B H T (ds.take n) (vs.take n) F1 ∧ Reps B H T (ds.drop n) (vs.drop n) F2
  | ds, vs, F, 0, h => ⟨[], F, rfl, ⟨rfl, rfl⟩, h⟩
  | [], vs, F, n + 1, h => ⟨[], [], by rw [h.2]; rfl, ⟨by rw [h.1]; rfl, rfl⟩, ⟨by rw [h.1]; rfl, rfl⟩⟩
  | d :: ds, _, _, n + 1, ⟨v, vs', F1, F2, ev, e, h1, h2⟩ => by
    obtain ⟨G1, G2, q0, q1, q2⟩ := Reps.halve n h2
    exact ⟨F1 ++ G1, G2, by rw [e, q0, List.append_assoc], ⟨v, vs'.take n, F1, G1, by rw [ev]; rfl, rfl, h1, q1⟩, by rw [ev]; exact q2⟩
theorem mut_insert {B : Tab} : MutOk B (fun x vs H Q => ∃ (l : Addr) (xs : List V) (i : Int) (y : V), x = .ref l ∧ vs = [.int i, y] ∧ H l = some (.lst xs) ∧ xs.length < sizeLine ∧ 0 ≤ i ∧ i < 2 ^ 63 ∧
    Q .non (upd H l (.lst (xs.take i.toNat ++ [y] ++ xs.drop i.toNat)))) mInsert := by
  intro H T n n' u M Fd ds vs Q th rn nM aM rd nd dj e k
  unfold mInsert at e
  split at e
  · rename_i xs i d
    split at e
    · rename_i hz
      cases e
      obtain ⟨a, us, F1, hu, hH, hM, rx⟩ := rn
      obtain ⟨w, v, Fw, Fv, rfl, e0, r0, r1⟩ := rd.two
      obtain ⟨rfl, hFw⟩ := r0
      subst hFw
      rw [List.nil_append] at e0
      subst e0
      have nM' := nM
      rw [hM] at nM'
      obtain ⟨n1, n2⟩ := List.nodup_cons.mp nM'
      have dj' : ∀ b ∈ Fd, b ≠ a ∧ b ∉ F1 := fun b hb => by
        have := dj b hb
        rw [hM] at this
        exact ⟨fun z => this (by rw [z]; exact List.mem_cons_self), fun z => this (List.mem_cons_of_mem _ z)⟩
      subst hu
      obtain ⟨G1, G2, q0, q1, q2⟩ := rx.halve i.toNat
      refine ⟨a, us, i, v, rfl, rfl, hH, by rw [← rx.len]; exact hz.1, hz.2.1, hz.2.2, ?_⟩
      rw [q0] at n2 n1 dj'
      obtain ⟨m1, m2, m3⟩ := List.nodup_append.mp n2
      refine mut_list (F1 := F1) (F2 := (G1 ++ Fd) ++ G2) th hM hH (aM a (by rw [hM]; exact List.mem_cons_self)) ((q1.app (Reps.one r1)).app q2) ?_ (fun z => ?_) (fun b hb => ?_) k
      · refine List.nodup_append.mpr ⟨List.nodup_append.mpr ⟨m1, nd, fun b hb c hc e => ?_⟩, m2, fun b hb c hc e => ?_⟩
        · subst e; exact (dj' b hc).2 (List.mem_append_left _ hb)
        · subst e
          rcases List.mem_append.mp hb with hb | hb
          · exact m3 b hb b hc rfl
          · exact (dj' b hb).2 (List.mem_append_right _ hc)
      · rcases List.mem_append.mp z with z | z
        · rcases List.mem_append.mp z with z | z
          · exact n1 (List.mem_append_left _ z)
          · exact (dj' a z).1 rfl
        · exact n1 (List.mem_append_right _ z)
      · rw [q0]
        rcases List.mem_append.mp hb with z | z
        · rcases List.mem_append.mp z with z | z
          · exact .inl (List.mem_append_left _ z)
          · exact .inr z
        · exact .inl (List.mem_append_right _ z)
    · cases e
  · cases e
/-- one place of a list takes another thing -/
theorem Reps.setAt {B : Tab} {H : Hp} {T : Addr → Prop} : ∀ {ds : List D} {vs : List V} {F : List Addr} {j : Nat} {d : D} {v : V} {Fd : List Addr}, j < ds.length → Reps B H T ds vs F → Rep B H T d v Fd →
    ∃ L M R, F = L ++ (M ++ R) ∧ Reps B H T (ds.set j d) (vs.set j v) (L ++ (Fd ++ R))
  | [], _, _, _, _, _, _, h, _, _ => by simp at h
  | x :: ds, _, _, 0, d, v, Fd, _, ⟨u, vs', F1, F2, ev, e, h1, h2⟩, r => ⟨[], F1, F2, e, by rw [ev]; exact ⟨v, vs', Fd, F2, rfl, rfl, r, h2⟩⟩
  | x :: ds, _, _, j + 1, d, v, Fd, hj, ⟨u, vs', F1, F2, ev, e, h1, h2⟩, r => by
    obtain ⟨L, M, R, q1, q2⟩ := Reps.setAt (j := j) (by simpa using hj) h2 r
    exact ⟨F1 ++ L, M, R, by rw [e, q1, List.append_assoc], by rw [ev]; exact ⟨u, vs'.set j v, F1, L ++ (Fd ++ R), rfl, List.append_assoc _ _ _, h1, q2⟩⟩
/-- a store, as a rule of two arguments -/
def tSt (t : TSet) : V → List V → Hp → VK → Prop := fun u vs H Q => ∃ k v, vs = [k, v] ∧ t u k v H fun H' => Q .non H'
theorem ixN_lt {n : Nat} {k : Int} {j : Nat} (h : ixN n k = some j) : j < n := (ixN_seq h).2.1
theorem mut_set {B : Tab} : MutOk B (tSt rSetL) mSet := by
  intro H T n n' u M Fd ds vs Q th rn nM aM rd nd dj e k
  unfold mSet at e
  split at e
  · rename_i xs i d
    split at e
    · rename_i j hj
      cases e
      obtain ⟨a, us, F1, hu, hH, hM, rx⟩ := rn
      obtain ⟨w, v, Fw, Fv, rfl, e0, r0, r1⟩ := rd.two
      obtain ⟨rfl, hFw⟩ := r0
      subst hFw
      rw [List.nil_append] at e0
      subst e0
      have nM' := nM
      rw [hM] at nM'
      obtain ⟨n1, n2⟩ := List.nodup_cons.mp nM'
      have dj' : ∀ b ∈ Fd, b ≠ a ∧ b ∉ F1 := fun b hb => by
        have := dj b hb
        rw [hM] at this
        exact ⟨fun z => this (by rw [z]; exact List.mem_cons_self), fun z => this (List.mem_cons_of_mem _ z)⟩
      subst hu
      obtain ⟨L, M2, R, q0, q1⟩ := rx.setAt (ixN_lt hj) r1
      refine ⟨.int i, v, rfl, a, us, i, j, rfl, rfl, hH, by rw [← rx.len]; exact hj, ?_⟩
      rw [q0] at n2 n1 dj'
      refine mut_list (F1 := F1) (F2 := L ++ (Fd ++ R)) th hM hH (aM a (by rw [hM]; exact List.mem_cons_self)) q1 (nd_put n2 nd fun b hb z => (dj' b hb).2 ?_) (fun z => ?_) (fun b hb => ?_) k
      · rcases List.mem_append.mp z with z | z
        · exact List.mem_append_left _ z
        · exact List.mem_append_right _ (List.mem_append_right _ z)
      · rcases List.mem_append.mp z with z | z
        · exact n1 (List.mem_append_left _ z)
        · rcases List.mem_append.mp z with z | z
          · exact (dj' a z).1 rfl
          · exact n1 (List.mem_append_right _ (List.mem_append_right _ z))
      · rw [q0]
        rcases List.mem_append.mp hb with z | z
        · exact .inl (List.mem_append_left _ z)
        · rcases List.mem_append.mp z with z | z
          · exact .inr z
          · exact .inl (List.mem_append_right _ (List.mem_append_right _ z))
    · cases e
  · cases e

/-! ### the statements -/
def isOwn : Option D → Bool
  | some (.lst .own _) => true
  | _ => false
/-- P.m(args) -/
def evMut (i : Nat) (pf : En → Option (List Int)) (x : (En → List D → O) → En → O) (g : D → List D → Option D) : En → O := fun env => match pf env with
  | none => .no
  | some p => if isOwn (atE env i p) then x (fun env1 ds => match atE env1 i p with
    | none => .no
    | some n => match g n ds with
      | some n' => .nx (putE env1 i p n')
      | none => .no) env else .no
section
variable {N : Inf} {X : Cx} {W : WX} {Vs : List Nat} {e : Expr} {es : List Expr} {f : En → R D} {fs : En → R (List D)} {pos : Pos} {i : Nat} {pf : En → Option (List Int)} {g : D → List D → Option D}
theorem putE_eq {env : En} {i : Nat} {p : List Int} {d n : D} (h : env[i]? = some (some d)) : putE env i p n = env.set i (some (d.put p n)) := by
  unfold putE
  rw [h]
/-- the change, from the state in which all has been reckoned -/
theorem SOk.change {B : Tab} {t : V → List V → Hp → VK → Prop} {H H2 : Hp} {T T1 : Addr → Prop} {F F1 Fd : List Addr} {σ : St} {env1 : En} {p : List Int} {n n' : D} {ds : List D} {vs : List V} {v u : V} {Q : VK} (mo : MutOk B t g)
    (s1 : SOk B H2 T1 σ env1 F1) (st : Step H T F H2 T1 F1) (own : ∀ x ∈ F1, x ∉ F → H x = none) (r : Reps B H2 T1 ds vs Fd) (nd : Fd.Nodup) (ap : ∀ a ∈ Fd, a ∉ F1 ∧ ¬ T1 a) (fr : ∀ a ∈ Fd, a ∈ F ∨ H a = none)
    (hn : atE env1 i p = some n) (hg : g n ds = some n') (hv : σ[i]? = some (some v)) (hu : VAt H2 v p u)
    (k : ∀ w H' F', SOk B H' T1 σ (putE env1 i p n') F' → Step H T F H' T1 F' → Q w H') : t u vs H2 Q := by
  obtain ⟨d, hi, hd⟩ := atE_get hn
  obtain ⟨v', u', M, h1, h2, h3, h4, ndM, h5⟩ := s1.put hi hd
  rw [hv] at h1
  cases h1
  cases hu.det h2
  refine mo s1.th h3 ndM (fun a z => s1.ap a (h4 a z)) r nd (fun a z y => (ap a z).1 (h4 a y)) hg fun w H' M' f th' rn nM' sub => ?_
  obtain ⟨F', s2, hF'⟩ := h5 (T' := T1) (n' := n') f (fun _ h => h) th' s1.ap rn nM' (fun a z => (sub a z).elim (fun y => s1.ap a (h4 a y)) fun y => (ap a y).2) (fun a z y => (sub a z).resolve_right fun q => (ap a q).1 y)
  refine k w H' F' (by rw [putE_eq hi]; exact s2) ⟨fun a o q z => ?_, st.le, fun a z => ?_⟩
  · refine f a o (st.fr a o q z) ?_
    rcases z with z | z
    · refine .inl fun y => ?_
      have := own a (h4 a y) z
      rw [q] at this
      cases this
    · exact .inr z
  · rcases z with z | z
    · exact st.new a (.inl z)
    · rcases hF' a z with z | z
      · exact st.new a (.inr z)
      · rcases sub a z with z | z
        · exact st.new a (.inr (h4 a z))
        · exact (fr a z).elim (fun y => .inr (.inl y)) fun y => .inr (.inr y)
theorem isOwn_ty {B : Tab} {H : Hp} {T : Addr → Prop} {σ : St} {env : En} {F : List Addr} {p : List Int} {v u : V} (s : SOk B H T σ env F) (hi : σ[i]? = some (some v)) (hu : VAt H v p u) (h : isOwn (atE env i p) = true) : tyV B.K "list" u H := by
  cases hn : atE env i p with
  | none => rw [hn] at h; cases h
  | some n =>
    rw [hn] at h
    unfold isOwn at h
    split at h
    · rename_i xs e
      cases e
      obtain ⟨d, hd, hp⟩ := atE_get hn
      obtain ⟨v', u', M, h1, h2, h3, _⟩ := s.put hd hp
      rw [hi] at h1
      cases h1
      cases hu.det h2
      obtain ⟨a, us, F1, e, hH, _⟩ := h3
      rw [e]
      exact .inl ⟨rfl, us, .inl (.inl hH)⟩
    · cases h
theorem isOwn_at {env : En} {p : List Int} (h : isOwn (atE env i p) = true) : ∃ n, atE env i p = some n := by
  cases hn : atE env i p with
  | none => rw [hn] at h; cases h
  | some n => exact ⟨n, rfl⟩
theorem vs_mut {x : (En → List D → O) → En → O} {o ce : Expr} {r : V → List V → Hp → VK → Prop} (mo : MutOk (bOf N X) r g) (hx : ModeA (bOf N X) W Vs fs x) (ho : VPl N X o i pf) (ha : VAs N X W Vs es fs)
    (pe : ∀ {to : TE} {t : TA}, PE X o to → PA X es t → PE X ce (tBM X.K "list" r to t)) (hs : swapsWith ce none pos.line X.env = pure false := by rfl) : VS N X W (.Expr ce pos) (evMut i pf x g) :=
  ps_mono (ps_expr (pe ho ha) hs) fun D σ H ⟨T, env, F, s, h⟩ => by
    refine ⟨T, env, F, s, ?_⟩
    unfold evMut at h
    cases hp : pf env with
    | none => rw [hp] at h; exact h.elim
    | some p =>
      rw [hp] at h
      have h : PostS (bOf N X) W H T F (if isOwn (atE env i p) then _ else O.no) D := h
      split at h
      · rename_i hO
        refine ⟨isOwn_at hO, fun v u H1 hv q1 hu => ⟨isOwn_ty (s.same q1) hv hu hO, ?_⟩⟩
        refine (hx (s.same q1) (PostS.next h s (Step.same q1) s.ap)).mono fun vs H2 ⟨ds, env1, hl, T1, F1, Fd, s1, st, rr, nd, ap, fr, q⟩ => ?_
        split at q
        · exact q.elim
        · rename_i n hn
          split at q
          · rename_i n' hg
            have hu2 : VAt H2 v p u := hu.same hl.2
            exact s1.change mo st (Step.own (s.same q1) st s1.ap) rr nd ap fr hn hg hv hu2 fun w H' F' s' st' => q σ H' T1 F' s' st'
          · exact q.elim
      · exact h.elim

/-- P[k] = e -/
def evStore (i : Nat) (pf : En → Option (List Int)) (fk : En → R D) (x : (En → D → O) → En → O) (g : D → List D → Option D) : En → O := x fun env d => match pf env with
  | none => .no
  | some p => match atE env i p with
    | none => .no
    | some n => (fk env).toO env fun dk => if dk.fz then .no else match g n [dk, d] with
      | some n' => .nx (putE env i p n')
      | none => .no
theorem vs_store {x : (En → D → O) → En → O} {o ik : Expr} {t : TSet} {fk : En → R D} {Vk : List Nat} {tpos : Pos} (mo : MutOk (bOf N X) (tSt t) g) (hx : Mode (bOf N X) W Vs f x) (he : VE N X W Vs e f) (ho : VPl N X o i pf) (hk : VE N X W Vk ik fk)
    (hset : PSet X t) (pa : ∀ {te : TE} {g : TG}, PE X e te → PG X (.Subscript o ik tpos) g → PS X (.Assign [.Subscript o ik tpos] e pos) (tAsg te g))
    (pg : ∀ {to ti : TE} {t : TSet}, PE X o to → PE X ik ti → PSet X t → PG X (.Subscript o ik tpos) (gSub to ti t)) : VS N X W (.Assign [.Subscript o ik tpos] e pos) (evStore i pf fk x g) :=
  ps_mono (pa he (pg ho hk hset)) fun D σ H ⟨T, env, F, s, h⟩ => by
    refine (hx s h).mono fun v H1 ⟨d, env1, hl, T1, F1, Fd, s1, st, r, nd, ap, fr, q⟩ => ?_
    have own := Step.own s st s1.ap
    refine ⟨T1, env1, F1, s1, ?_⟩
    cases hp : pf env1 with
    | none => rw [hp] at q; exact q.elim
    | some p =>
      rw [hp] at q
      cases hn : atE env1 i p with
      | none => simp only [hn] at q; exact q.elim
      | some n =>
        simp only [hn] at q
        refine ⟨⟨n, hn⟩, fun v0 u H2 hv q2 hu => ?_⟩
        refine ⟨TU T1 F1, env1, (s1.same q2).thU, (s1.same q2).view, ?_⟩
        revert q
        cases fk env1 with
        | no => exact fun q => q.elim
        | ex c => exact fun q H3 q3 => q σ H3 T1 F1 (s1.same (q2.trans q3)) (st.trans (Step.same (q2.trans q3)) own)
        | ok dk =>
          intro q w H3 T3 Fk n3 r3
          have q : PostS (bOf N X) W H T F (if dk.fz then O.no else _) D := q
          split at q
          · exact q.elim
          · rename_i hz
            split at q
            · rename_i n' hg
              have hq := q2.trans n3.same
              have rk : Rep (bOf N X) H3 T1 dk w Fk := r3.nofz _ (Bool.eq_false_iff.mpr hz)
              have rr : Reps (bOf N X) H3 T1 [dk, d] [w, v] (Fk ++ Fd) := ⟨w, [v], Fk, Fd, rfl, rfl, rk, Reps.one (r.same hq)⟩
              have here : ∀ a ∈ Fd, ∃ o, H1 a = some o := fun a z => let ⟨o, h, _⟩ := Rep.there _ r a z; ⟨o, h⟩
              have fresh : ∀ a ∈ Fk, H1 a = none := fun a z => q2.free (n3.own a z).1
              have ap' : ∀ a ∈ Fk ++ Fd, a ∉ F1 ∧ ¬ T1 a := fun a z => by
                rcases List.mem_append.mp z with z | z
                · refine ⟨fun y => ?_, fun y => (n3.own a z).2 (n3.le a (.inl y))⟩
                  obtain ⟨o, h, _⟩ := s1.env.there a y
                  rw [fresh a z] at h; cases h
                · exact ap a z
              have st3 : Step H T F H3 T1 F1 := st.trans (Step.same hq) own
              obtain ⟨k, u', e2, t2⟩ := (s1.same hq).change (Q := fun _ H' => D.nx σ H') mo st3 own rr (List.nodup_append.mpr ⟨n3.nd, nd, fun a ha b hb e => by
                  subst e
                  obtain ⟨o, h⟩ := here a hb
                  rw [fresh a ha] at h; cases h⟩) ap' (fun a z => by
                rcases List.mem_append.mp z with z | z
                · exact .inr (hl.2.free (fresh a z))
                · exact fr a z) hn hg hv (hu.same n3.same) fun w' H' F' s' st' => q σ H' T1 F' s' st'
              cases e2
              exact t2
            · exact q.elim
end
end VA


set_option Elab.async false
set_option linter.all false
set_option maxRecDepth 100000
set_option maxHeartbeats 2000000
/-! VF6: chains of comparisons; a comprehension's list in a name. -/
namespace VA
open PySem PySem.Spec L2
open PyProof.Rows (Compare_chain isTrue_chain chain_link chain_last test_link test_last)
abbrev Lk := (Int → Int → Bool) × (En → R D)
def evChGo (env : En) : Int → List Lk → R Bool
  | _, [] => .ok true
  | a, (f, g) :: ls => (g env).bind fun d => match d with
    | .int b => if f a b then evChGo env b ls else .ok false
    | _ => .no
def evChT (fa : En → R D) (ls : List Lk) : En → R Bool := fun env => (fa env).bind fun d => match d with
  | .int a => evChGo env a ls
  | _ => .no
def evChV (fa : En → R D) (ls : List Lk) : En → R D := evBl (evChT fa ls)
structure VCh (N : Inf) (X : Cx) (W : WX) (Vs : List Nat) (pos : Pos) (ops : List CmpOp) (es : List Expr) (ls : List Lk) : Prop where
  v : ∀ (pins : List (Addr × Obj)) (s : Shared) (σ : St) (H : Hp) (T : Addr → Prop) (env : En) (a : Int) (t : Tok) (Q : Bool → Hp → Prop), Inv X pins σ H s → Th H T → EnvV (bOf N X) Vs H T σ env → PostT (bOf N X) W σ H (evChGo env a ls) Q →
    wpAny (model X.prog X.w) X.A (compareChain pos (.int a t) ops (evalEach es X.env)) (EP X pins σ fun v H' => ∃ k, v = .bl k ∧ Q k H') X.xe s
  t : ∀ (pins : List (Addr × Obj)) (s : Shared) (σ : St) (H : Hp) (T : Addr → Prop) (env : En) (a : Int) (t : Tok) (Q : Bool → Hp → Prop), Inv X pins σ H s → Th H T → EnvV (bOf N X) Vs H T σ env → PostT (bOf N X) W σ H (evChGo env a ls) Q →
    wpAny (model X.prog X.w) X.A (testChain pos (.int a t) ops (evalEach es X.env)) (fun k s' => ∃ H', Inv X pins σ H' s' ∧ Q k H') X.xe s
section
variable {N : Inf} {X : Cx} {W : WX} {Vs Vs' : List Nat} {a b c : Expr} {es : List Expr} {fa g : En → R D} {f : Int → Int → Bool} {op op' : CmpOp} {ops : List CmpOp} {ls : List Lk} {pos : Pos}
/-- the next value, an int -/
theorem seqJ {B : Tab} {σ : St} {H : Hp} {T : Addr → Prop} {r : R D} {k : Int → R Bool} {Q : Bool → Hp → Prop} {Q' : VK} (h : PostT B W σ H (r.bind fun d => match d with | .int b => k b | _ => .no) Q)
    (n : ∀ b v H', Same H H' → v = .int b → PostT B W σ H' (k b) Q → Q' v H') : PostE B W σ H T r Q' := by
  cases r with
  | no => exact h
  | ex c => exact h
  | ok d =>
    cases d with
    | int b =>
      intro v H' T' F m r
      refine n b v H' m.same r.1 ?_
      have h : PostT B W σ H (k b) Q := h
      revert h
      cases k b with
      | no => exact id
      | ex c => exact fun h H2 t => h H2 (m.same.trans t)
      | ok b2 => exact fun h H2 t => h H2 (m.same.trans t)
    | _ => exact h.elim
theorem ch_core (ho : OpR X (compareOp op) (rI0 fun i j => .bl (f i j))) (hb : VE N X W Vs b g) {pins : List (Addr × Obj)} {s : Shared} {σ : St} {H : Hp} {T : Addr → Prop} {env : En} {i : Int} {t : Tok} {Q : Bool → Hp → Prop} (I : Inv X pins σ H s) (th : Th H T) (hv : EnvV (bOf N X) Vs H T σ env)
    (h : PostT (bOf N X) W σ H (evChGo env i ((f, g) :: ls)) Q) :
    wpAny (model X.prog X.w) X.A (eval b X.env) (fun u s1 => ∃ j t', u = .int j t' ∧ wpAny (model X.prog X.w) X.A (compareOp op (.int i t) u) (fun c s2 => c = .bool (f i j) ∧ ∃ H2, Inv X pins σ H2 s2 ∧ Same H H2 ∧
      PostT (bOf N X) W σ H2 (if f i j then evChGo env j ls else .ok false) Q) X.xe s1) X.xe s := by
  refine thn (hb.run pins s σ H (fun v H1 => ∃ j, v = .int j ∧ Same H H1 ∧ PostT (bOf N X) W σ H1 (if f i j then evChGo env j ls else .ok false) Q) I ⟨T, env, th, hv, seqJ (k := fun b => if f i b then evChGo env b ls else .ok false) h fun j v H1 s1 e h1 => ⟨j, e, s1, h1⟩⟩) ?_
  rintro u s1 ⟨v, H1, I1, r1, j, rfl, q1, h1⟩
  obtain ⟨t', rfl⟩ := id r1
  refine ⟨j, t', rfl, ?_⟩
  refine thn (ho pins s1 σ H1 (.int i) (.int j) _ _ (fun v H2 => v = .bl (f i j) ∧ H2 = H1) I1 ⟨t, rfl⟩ r1 ⟨i, j, rfl, rfl, rfl, rfl⟩) ?_
  rintro c s2 ⟨v, H2, I2, r2, e, e2⟩
  subst e e2
  cases r2
  exact ⟨rfl, H2, I2, q1, h1⟩
theorem vch_last (ho : OpR X (compareOp op) (rI0 fun i j => .bl (f i j))) (hb : VE N X W Vs b g) : VCh N X W Vs pos [op] [b] [(f, g)] := by
  constructor
  · intro pins s σ H T env i t Q I th hv h
    refine chain_last (thn (ch_core ho hb (t := t) I th hv h) ?_)
    rintro u s1 ⟨j, t', rfl, h1⟩
    refine thn h1 ?_
    rintro c s2 ⟨e, H2, I2, q2, h2⟩
    subst e
    refine ⟨.bl (f i j), H2, I2, rfl, f i j, rfl, ?_⟩
    cases hf : f i j with
    | true => rw [hf] at h2; exact h2 H2 (Same.refl H2)
    | false => rw [hf] at h2; exact h2 H2 (Same.refl H2)
  · intro pins s σ H T env i t Q I th hv h
    refine test_last (thn (ch_core ho hb (t := t) I th hv h) ?_)
    rintro u s1 ⟨j, t', rfl, h1⟩
    refine thn h1 ?_
    rintro c s2 ⟨e, H2, I2, q2, h2⟩
    subst e
    refine wpAny_truthy_bool ⟨H2, I2, ?_⟩
    cases hf : f i j with
    | true => rw [hf] at h2; exact h2 H2 (Same.refl H2)
    | false => rw [hf] at h2; exact h2 H2 (Same.refl H2)
theorem vch_link (ho : OpR X (compareOp op) (rI0 fun i j => .bl (f i j))) (hb : VE N X W Vs b g) (hr : VCh N X W Vs' pos (op' :: ops) (c :: es) ls) : VCh N X W (Vs ++ Vs') pos (op :: op' :: ops) (b :: c :: es) ((f, g) :: ls) := by
  constructor
  · intro pins s σ H T env i t Q I th hv h
    refine chain_link (thn (ch_core ho hb (t := t) I th hv.left h) ?_)
    rintro u s1 ⟨j, t', rfl, h1⟩
    refine thn h1 ?_
    rintro c s2 ⟨e, H2, I2, q2, h2⟩
    subst e
    refine wpAny_truthy_bool ?_
    cases hf : f i j with
    | true => rw [hf] at h2; exact iteT (hr.v pins s2 σ H2 T env j t' Q I2 (th.same q2) (hv.right.next q2 fun _ h => h) h2)
    | false => rw [hf] at h2; exact iteF ⟨.bl false, H2, I2, rfl, false, rfl, h2 H2 (Same.refl H2)⟩
  · intro pins s σ H T env i t Q I th hv h
    refine test_link (thn (ch_core ho hb (t := t) I th hv.left h) ?_)
    rintro u s1 ⟨j, t', rfl, h1⟩
    refine thn h1 ?_
    rintro c s2 ⟨e, H2, I2, q2, h2⟩
    subst e
    refine wpAny_truthy_bool ?_
    cases hf : f i j with
    | true => rw [hf] at h2; exact iteT (hr.t pins s2 σ H2 T env j t' Q I2 (th.same q2) (hv.right.next q2 fun _ h => h) h2)
    | false => rw [hf] at h2; exact iteF ⟨H2, I2, h2 H2 (Same.refl H2)⟩
theorem ch_start {pins : List (Addr × Obj)} {s : Shared} {σ : St} {H : Hp} {Q : Bool → Hp → Prop} (ha : VE N X W Vs a fa) (I : Inv X pins σ H s) (h : tT (bOf N X) W (Vs ++ Vs') (evChT fa ls) σ H Q) :
    wpAny (model X.prog X.w) X.A (eval a X.env) (fun u s1 => ∃ i t T env H1, u = .int i t ∧ Inv X pins σ H1 s1 ∧ Th H1 T ∧ EnvV (bOf N X) Vs' H1 T σ env ∧ PostT (bOf N X) W σ H1 (evChGo env i ls) Q) X.xe s := by
  obtain ⟨T, env, th, hv, h⟩ := h
  refine thn (ha.run pins s σ H (fun v H1 => ∃ i, v = .int i ∧ Same H H1 ∧ PostT (bOf N X) W σ H1 (evChGo env i ls) Q) I ⟨T, env, th, hv.left, seqJ (k := fun i => evChGo env i ls) h fun j v H1 s1 e h1 => ⟨j, e, s1, h1⟩⟩) ?_
  rintro u s1 ⟨v, H1, I1, r1, i, rfl, q1, h1⟩
  obtain ⟨t', rfl⟩ := id r1
  exact ⟨i, t', T, env, H1, rfl, I1, th.same q1, hv.right.next q1 fun _ h => h, h1⟩
theorem rd_bl {B : Tab} {p : En → R Bool} {σ : St} {H : Hp} {Q : VK} (h : tE B W Vs (evBl p) σ H Q) : tT B W Vs p σ H fun k H' => Q (.bl k) H' := by
  obtain ⟨T, env, th, hv, h⟩ := h
  refine ⟨T, env, th, hv, ?_⟩
  unfold evBl at h
  revert h
  cases p env with
  | no => exact id
  | ex c => exact id
  | ok b => exact fun h H1 s => h (.bl b) H1 T [] ⟨s, fun _ h => h, fun _ h => .inl h, List.nodup_nil, fun _ z => (nomatch z), th.same s, fun _ z => (nomatch z)⟩ ⟨rfl, rfl⟩
theorem ve_chain (ha : VE N X W Vs a fa) (hr : VCh N X W Vs' pos (op :: op' :: ops) (b :: c :: es) ls) (hm : lastMarks (op :: op' :: ops) (b :: c :: es) = false) : VE N X W (Vs ++ Vs') (.Compare a (op :: op' :: ops) (b :: c :: es) pos) (evChV fa ls) := by
  refine ⟨fun pins s σ H Q I h => Compare_chain (thn (ch_start ha I (rd_bl h)) ?_) hm⟩
  rintro u s1 ⟨i, t, T, env, H1, rfl, I1, th, hv, h1⟩
  refine thn (hr.v pins s1 σ H1 T env i t _ I1 th hv h1) ?_
  rintro v s2 ⟨w, H2, I2, r2, k, rfl, q⟩
  exact ⟨.bl k, H2, I2, r2, q⟩
theorem vt_chain (ha : VE N X W Vs a fa) (hr : VCh N X W Vs' pos (op :: op' :: ops) (b :: c :: es) ls) (hm : lastMarks (op :: op' :: ops) (b :: c :: es) = false) : VT N X W (Vs ++ Vs') (.Compare a (op :: op' :: ops) (b :: c :: es) pos) (evChT fa ls) := by
  refine ⟨fun pins s σ H Q I h => isTrue_chain (thn (ch_start ha I h) ?_) hm⟩
  rintro u s1 ⟨i, t, T, env, H1, rfl, I1, th, hv, h1⟩
  exact hr.t pins s1 σ H1 T env i t _ I1 th hv h1

/-! ### name = [.. for ..] -/
theorem asn_lc {Vs Vc Ve : List Nat} {own : List (Str × Nat)} {src : En → R (List D)} {p : Pat} {c : En → R Bool} {f : En → R D} {i : Nat} {y : Str} {py spos : Pos} {elt tg iter : Expr} {ifs : List Expr} {scope : Scope} {pos : Pos} (hcm : X.calm = true) (hN : X.N.Nodup) (hy : X.N[i]? = some y) (hyl : X.env.scope.names.lookup y = some .local)
    (hsw : swapsWith (.ListComp elt [⟨tg, iter, ifs, 0⟩] scope pos) (some (.Name y py)) spos.line X.env = pure true) (hi : VI N X W Vs tg iter src) (ok : BlkOk X.N X.env.scope scope own)
    (hg : ∀ (s : Shared) (H : Hp) (C : Addr) (cl : List (Str × Addr)) (fp : List Addr), VP (X.blk s H scope (PySem.compEnvC scope cl C X.env) fp) tg p)
    (ht : ∀ (s : Shared) (H : Hp) (C : Addr) (cl : List (Str × Addr)) (fp : List Addr), VTs N (X.blk s H scope (PySem.compEnvC scope cl C X.env) fp) W0 Vc ifs c)
    (he : ∀ (s : Shared) (H : Hp) (C : Addr) (cl : List (Str × Addr)) (fp : List Addr), VE N (X.blk s H scope (PySem.compEnvC scope cl C X.env) fp) W0 Ve elt f)
    (h1 : ∀ i ∈ p.slots, i ∈ own.map (·.2)) (h2 : ∀ i ∈ Vc, i ∈ own.map (·.2) ∨ i ∈ Vs) (h3 : ∀ i ∈ Ve, i ∈ own.map (·.2) ∨ i ∈ Vs)
    (hs : ∀ x, foldedSetIterable iter X.env x = pure x := by intro _; rfl) : AsN N X W Vs (.Assign [.Name y py] (.ListComp elt [⟨tg, iter, ifs, 0⟩] scope pos) spos) i (evLc src p (own.map (·.2)) c f) :=
  ps_mono (ps_setLc (g := tPat X.K p) (tt := tT (bOf N X) W0 Vc c) (te := tE (bOf N X) W0 Ve f) hcm hN hy hyl hsw hi ok hg ht he hs) fun _ _ _ h => rd_lc (wiB := bOf N X) h1 h2 h3 h
end
end VA


set_option Elab.async false
set_option linter.all false
set_option maxRecDepth 100000
set_option maxHeartbeats 2000000
/-! VG: the text's defs. -/
namespace VA
open PySem PySem.Spec L2
open PyProof.Rows (envOfC)

/-- a def's start: its arguments, then nothing -/
def startE (m : Nat) (ds : List D) : En := ds.map some ++ List.replicate (m - ds.length) none
def evFn (m : Nat) (body : En → O) : List D → R D := fun ds => match body (startE m ds) with
  | .rt d => .ok d
  | .nx _ => .ok .non
  | .ex c _ => .ex c
  | _ => .no
theorem EnvO.of_args {B : Tab} {H : Hp} {T : Addr → Prop} : ∀ {ds : List D} {vs : List V}, Reps B H T ds vs [] → ∀ k : Nat, EnvO B H T (ds.map some ++ List.replicate k none) (vs.map some ++ List.replicate k none) []
  | [], vs, h, 0 => by rw [h.1]; exact ⟨rfl, rfl⟩
  | [], vs, h, k + 1 => by
    rw [h.1]
    exact ⟨none, _, rfl, EnvO.of_args (ds := []) (vs := []) ⟨rfl, rfl⟩ k⟩
  | d :: ds, _, ⟨v, vs', F1, F2, ev, e, h1, h2⟩, k => by
    obtain ⟨rfl, rfl⟩ := List.append_eq_nil_iff.mp e.symm
    rw [ev]
    exact ⟨v, _, [], [], rfl, rfl, h1, EnvO.of_args h2 k⟩
abbrev WE' (E : XK) : WX := fun cls d _ H => E cls d H
theorem fn_rd {B : Tab} {E : XK} {m n : Nat} {body : En → O} {vs : List V} {H : Hp} {Q : VK} {N : List Str} (hm : N.length = m) (h : spP B n (evFn m body) vs H Q E) : tS B (WE' E) body { nx := fun _ H' => Q .non H', rt := Q } (L2.start N vs) H := by
  obtain ⟨hn, T, ds, th, r, h⟩ := h
  have hl : ds.length = vs.length := r.len
  refine ⟨T, startE m ds, [], ⟨th, ?_, List.nodup_nil, fun _ z => nomatch z⟩, ?_⟩
  · unfold startE L2.start
    rw [hm, hl]
    exact EnvO.of_args r _
  · unfold evFn at h
    revert h
    cases body (startE m ds) with
    | rt d => exact fun h v H' T' F' th' r' nd ap st => h v H' T' F' ⟨fun a o q => st.fr a o q (.inl fun z => nomatch z), st.le, fun a t => (st.new a (.inl t)).elim .inl fun z => z.elim (fun y => nomatch y) .inr, nd, fun a z => ⟨(st.new a (.inr z)).elim (fun y => absurd (st.le a y) (ap a z)) fun y => y.elim (fun y => nomatch y) id, ap a z⟩, th', fun a z => let ⟨o, q, _⟩ := Rep.there d r' a z; ⟨o, q⟩⟩ r'
    | nx e => exact fun h σ' H' T' F' s st => h .non H' T' [] ⟨fun a o q => st.fr a o q (.inl fun z => nomatch z), st.le, fun a t => (st.new a (.inl t)).elim .inl fun z => z.elim (fun y => nomatch y) .inr, List.nodup_nil, fun a z => (nomatch z), s.th, fun a z => (nomatch z)⟩ ⟨rfl, rfl⟩
    | ex c e => exact fun h σ' H' T' F' s st => h H' fun a o q => st.fr a o q (.inl fun z => nomatch z)
    | bk e => exact fun h => h.elim
    | ct e => exact fun h => h.elim
    | no => exact fun h => h.elim
theorem fn_ok {P : Program} {w : World} {K : PySem.W.Frag} {mg : Str → Option Value} {base : Heap} {x qual : Str} {st : Stmt} {f : Addr} {fd : FuncData} {names ps : List Str} {k m n : Nat} {I : Inf} {body : En → O} (F : Fun K x qual st f fd) (S : FnScope names ps (defScope st)) (hn : ps.length = n) (hm : names.length = m)
    (hb : ∀ (cdv : Value) (A : Around) (outer : List Env) (s : Shared) (H : Hp) (E : XK), Room k (A.deeper (envOfC qual (defScope st) s.heap.objs.size f cdv)) →
      Takes (cxOf (L2.CX P w) P w K mg base names qual (defScope st) f cdv A outer s H E) (WE' E) → PassesOwn (model P w) (cxOf (L2.CX P w) P w K mg base names qual (defScope st) f cdv A outer s H E).A (cxOf (L2.CX P w) P w K mg base names qual (defScope st) f cdv A outer s H E).env (cxOf (L2.CX P w) P w K mg base names qual (defScope st) f cdv A outer s H E).xe → VSs I (cxOf (L2.CX P w) P w K mg base names qual (defScope st) f cdv A outer s H E) (WE' E) (defBody st) body) :
    FnOk P w K mg base (L2.CX P w) (k + 1) f fd ps (spP ⟨K, I.fa, I.ca⟩ n (evFn m body)) :=
  Fun.okX F S (fun vs H Q E h => by rw [h.1, hn]) fun cdv A outer s H vs Q E hr h =>
    ⟨_, hb cdv A outer s H E hr (takes_of rfl rfl rfl rfl) (passes_of rfl), fn_rd hm h⟩
end VA


set_option Elab.async false
set_option linter.all false
set_option maxRecDepth 100000
set_option maxHeartbeats 2000000
/-! VH: the rules by short names, their side conditions shown by computation. -/
namespace VA
open PySem PySem.Spec L2
open PyProof.Rows (boot_all boot_any boot_sum boot_sorted boot_max boot_min boot_abs)
/-! ### kept apart where it can be, else known elsewhere -/
def evXm (Vs : List Nat) (f : En → R D) (K : En → D → O) : En → O := fun env => (f env).toO env fun d => if d.fz then evXf Vs f K env else K env d
def evAm (Vs : List Nat) (f : En → R (List D)) (K : En → List D → O) : En → O := fun env => (f env).toO env fun d => if fzs d then evAf Vs f K env else K env d
theorem mode_m {B : Tab} {W : WX} {Vs : List Nat} {f : En → R D} : Mode B W Vs f (evXm Vs f) := by
  intro σ H T env F D K s h
  cases hf : f env with
  | no => unfold evXm at h; rw [hf] at h; exact h.elim
  | ex c => exact mode_k s (by unfold evXm at h; unfold evXk; rw [hf] at h ⊢; exact h)
  | ok d =>
    unfold evXm at h
    rw [hf, toO_ok] at h
    split at h
    · exact mode_f s h
    · rename_i hz
      exact mode_k s (by unfold evXk; rw [hf, toO_ok, if_neg hz]; exact h)
theorem modeA_m {B : Tab} {W : WX} {Vs : List Nat} {f : En → R (List D)} : ModeA B W Vs f (evAm Vs f) := by
  intro σ H T env F D K s h
  cases hf : f env with
  | no => unfold evAm at h; rw [hf] at h; exact h.elim
  | ex c => exact modeA_k s (by unfold evAm at h; unfold evAk; rw [hf] at h ⊢; exact h)
  | ok d =>
    unfold evAm at h
    rw [hf, toO_ok] at h
    split at h
    · exact modeA_f s h
    · rename_i hz
      exact modeA_k s (by unfold evAk; rw [hf, toO_ok, if_neg hz]; exact h)
section
variable {N : Inf} {X : Cx} {W : WX} {Vs Vs' Vs2 : List Nat} {e a b : Expr} {es : List Expr} {f fa fb : En → R D} {fs : En → R (List D)} {pos p q : Pos} {k : Nat}
/-! ### names, constants -/
theorem xv (i : Nat) {x : Str} (hN : X.N[i]? = some x := by rfl) (hv : Vis X.env.scope x := by (first | exact Or.inl rfl | exact Or.inr rfl | exact Or.inr (Or.inl rfl) | exact Or.inr (Or.inr rfl))) (hd : (x == ("__debug__" : Str)) = false := by decide) (hcd : (x == ("__classdict__" : Str)) = false := by decide) : VE N X W [i] (.Name x pos) (evV i) := ve_v hN hv hd hcd
theorem xi {i : Int} {j : Nat} : VE N X W [] (.Constant (.int i) j pos) (evC (.int i)) := ve_c pe_int fun _ _ => ⟨rfl, rfl⟩
theorem xb {i : Bool} {j : Nat} : VE N X W [] (.Constant (.bool i) j pos) (evC (.bl i)) := ve_c pe_bl fun _ _ => ⟨rfl, rfl⟩
theorem xn {j : Nat} : VE N X W [] (.Constant .none j pos) (evC .non) := ve_c pe_non fun _ _ => ⟨rfl, rfl⟩
theorem xs {i : Str} {j : Nat} : VE N X W [] (.Constant (.str i) j pos) (evC (.str i)) := ve_c pe_str fun _ _ => ⟨rfl, rfl⟩
theorem xgi {x : Str} {i : Int} (hm : ∃ t, X.mg x = some (.int i t)) (hg : Gl X x := by rfl) (hd : (x == ("__debug__" : Str)) = false := by decide) : VE N X W [] (.Name x pos) (evC (.int i)) := let ⟨t, hm⟩ := hm; ve_c (pe_glob (v := .int i) hg hm ⟨t, rfl⟩ hd) fun _ _ => ⟨rfl, rfl⟩
/-! ### argument lists -/
theorem ac (ha : VE N X W Vs e f) (hr : VAs N X W Vs' es fs) (hs : starEach (e :: es) X.env = (false, eval e X.env) :: starEach es X.env := by rfl) : VAs N X W (Vs ++ Vs') (e :: es) (evCons f fs) := va_cons hs ha hr
theorem an : VAs N X W [] [] evNil := va_nil
/-! ### operators -/
theorem xadd (ha : VE N X W Vs a fa) (hb : VE N X W Vs' b fb) : VE N X W (Vs ++ Vs') (.BinOp a .Add b pos) (ev2 vAdd fa fb) := ve_op2 o_add ha hb fun p q => pe_op opr_add p q
theorem xsub (ha : VE N X W Vs a fa) (hb : VE N X W Vs' b fb) : VE N X W (Vs ++ Vs') (.BinOp a .Sub b pos) (ev2 vSub fa fb) := ve_op2 o_sub ha hb fun p q => pe_op op_sub p q
theorem xmul (ha : VE N X W Vs a fa) (hb : VE N X W Vs' b fb) : VE N X W (Vs ++ Vs') (.BinOp a .Mult b pos) (ev2 vMul fa fb) := ve_op2 o_mul ha hb fun p q => pe_op opr_mul p q
theorem xfd (ha : VE N X W Vs a fa) (hb : VE N X W Vs' b fb) : VE N X W (Vs ++ Vs') (.BinOp a .FloorDiv b pos) (ev2 vFdiv fa fb) := ve_op2 o_fdiv ha hb fun p q => pe_op op_fdivW p q
theorem xmod (ha : VE N X W Vs a fa) (hb : VE N X W Vs' b fb) : VE N X W (Vs ++ Vs') (.BinOp a .Mod b pos) (ev2 vMod fa fb) := ve_op2 o_mod ha hb fun p q => pe_op op_mod p q
theorem xpow (ha : VE N X W Vs a fa) (hb : VE N X W Vs' b fb) : VE N X W (Vs ++ Vs') (.BinOp a .Pow b pos) (ev2 vPow fa fb) := ve_op2 o_pow ha hb fun p q => pe_op op_pow p q
theorem xneg (ha : VE N X W Vs a fa) : VE N X W Vs (.UnaryOp .USub a pos) (ev1 vNeg fa) := ve_neg ha
/-! ### comparisons, as values and as tests -/
def fLt (i j : Int) : Bool := decide (i < j)
def fLe (i j : Int) : Bool := decide (i ≤ j)
def fGt (i j : Int) : Bool := decide (j < i)
def fGe (i j : Int) : Bool := decide (j ≤ i)
theorem op_lt' : OpR X (compareOp .Lt) (rI0 fun i j => .bl (fLt i j)) := op_lt
theorem op_le' : OpR X (compareOp .LtE) (rI0 fun i j => .bl (fLe i j)) := op_le
theorem op_gt' : OpR X (compareOp .Gt) (rI0 fun i j => .bl (fGt i j)) := op_gt
theorem op_ge' : OpR X (compareOp .GtE) (rI0 fun i j => .bl (fGe i j)) := op_ge
theorem xlt (ha : VE N X W Vs a fa) (hb : VE N X W Vs' b fb) : VE N X W (Vs ++ Vs') (.Compare a [.Lt] [b] pos) (ev2 (vCmp fLt) fa fb) := ve_cmp op_lt' o_cmp (nomark _) ha hb
theorem xle (ha : VE N X W Vs a fa) (hb : VE N X W Vs' b fb) : VE N X W (Vs ++ Vs') (.Compare a [.LtE] [b] pos) (ev2 (vCmp fLe) fa fb) := ve_cmp op_le' o_cmp (nomark _) ha hb
theorem xgt (ha : VE N X W Vs a fa) (hb : VE N X W Vs' b fb) : VE N X W (Vs ++ Vs') (.Compare a [.Gt] [b] pos) (ev2 (vCmp fGt) fa fb) := ve_cmp op_gt' o_cmp (nomark _) ha hb
theorem xge (ha : VE N X W Vs a fa) (hb : VE N X W Vs' b fb) : VE N X W (Vs ++ Vs') (.Compare a [.GtE] [b] pos) (ev2 (vCmp fGe) fa fb) := ve_cmp op_ge' o_cmp (nomark _) ha hb
theorem xeq (hr : Room k X.A) (ha : VE N X W Vs a fa) (hb : VE N X W Vs' b fb) : VE N X W (Vs ++ Vs') (.Compare a [.Eq] [b] pos) (ev2 (vEq false) fa fb) := ve_cmp (op_eqD hr.units) o_eq (nomark _) ha hb
theorem xne (hr : Room k X.A) (ha : VE N X W Vs a fa) (hb : VE N X W Vs' b fb) : VE N X W (Vs ++ Vs') (.Compare a [.NotEq] [b] pos) (ev2 (vEq true) fa fb) := ve_cmp (op_neD hr.units) o_ne (nomark _) ha hb
theorem xis (ha : VE N X W Vs a fa) (hb : VE N X W Vs' b fb) : VE N X W (Vs ++ Vs') (.Compare a [.Is] [b] pos) (ev2 (vIsN false) fa fb) := ve_cmp opr_is o_is (nomark _) ha hb
theorem xisn (ha : VE N X W Vs a fa) (hb : VE N X W Vs' b fb) : VE N X W (Vs ++ Vs') (.Compare a [.IsNot] [b] pos) (ev2 (vIsN true) fa fb) := ve_cmp opr_isnot o_isnot (nomark _) ha hb
theorem xin (hr : Room k X.A) (ha : VE N X W Vs a fa) (hb : VE N X W Vs' b fb) (hm : behindInMarks .In b = false := by with_unfolding_all rfl) : VE N X W (Vs ++ Vs') (.Compare a [.In] [b] pos) (ev2 (vIn false) fa fb) := ve_cmp (opr_in hr (VA.Room.u65 hr)) (o_in _) hm ha hb
theorem xnin (hr : Room k X.A) (ha : VE N X W Vs a fa) (hb : VE N X W Vs' b fb) (hm : behindInMarks .NotIn b = false := by with_unfolding_all rfl) : VE N X W (Vs ++ Vs') (.Compare a [.NotIn] [b] pos) (ev2 (vIn true) fa fb) := ve_cmp (opr_notin hr (VA.Room.u65 hr)) (o_in _) hm ha hb
/-- a value as a test -/
theorem tv (h : VE N X W Vs e f) (he : ∀ whole, isTrue e X.env whole = (do let v ← whole; standAt e.pos; holding [v] (truthy v)) := by intro _; rfl) : VT N X W Vs e (evB f) := vt_val h he
theorem tlt (ha : VE N X W Vs a fa) (hb : VE N X W Vs' b fb) : VT N X W (Vs ++ Vs') (.Compare a [.Lt] [b] pos) (evB (ev2 (vCmp fLt) fa fb)) := vt_cmp op_lt' o_cmp (nomark _) ha hb
theorem tle (ha : VE N X W Vs a fa) (hb : VE N X W Vs' b fb) : VT N X W (Vs ++ Vs') (.Compare a [.LtE] [b] pos) (evB (ev2 (vCmp fLe) fa fb)) := vt_cmp op_le' o_cmp (nomark _) ha hb
theorem tgt (ha : VE N X W Vs a fa) (hb : VE N X W Vs' b fb) : VT N X W (Vs ++ Vs') (.Compare a [.Gt] [b] pos) (evB (ev2 (vCmp fGt) fa fb)) := vt_cmp op_gt' o_cmp (nomark _) ha hb
theorem tge (ha : VE N X W Vs a fa) (hb : VE N X W Vs' b fb) : VT N X W (Vs ++ Vs') (.Compare a [.GtE] [b] pos) (evB (ev2 (vCmp fGe) fa fb)) := vt_cmp op_ge' o_cmp (nomark _) ha hb
theorem teq (hr : Room k X.A) (ha : VE N X W Vs a fa) (hb : VE N X W Vs' b fb) : VT N X W (Vs ++ Vs') (.Compare a [.Eq] [b] pos) (evB (ev2 (vEq false) fa fb)) := vt_cmp (op_eqD hr.units) o_eq (nomark _) ha hb
theorem tne (hr : Room k X.A) (ha : VE N X W Vs a fa) (hb : VE N X W Vs' b fb) : VT N X W (Vs ++ Vs') (.Compare a [.NotEq] [b] pos) (evB (ev2 (vEq true) fa fb)) := vt_cmp (op_neD hr.units) o_ne (nomark _) ha hb
theorem tis (ha : VE N X W Vs a fa) (hb : VE N X W Vs' b fb) : VT N X W (Vs ++ Vs') (.Compare a [.Is] [b] pos) (evB (ev2 (vIsN false) fa fb)) := vt_cmp opr_is o_is (nomark _) ha hb
theorem tisn (ha : VE N X W Vs a fa) (hb : VE N X W Vs' b fb) : VT N X W (Vs ++ Vs') (.Compare a [.IsNot] [b] pos) (evB (ev2 (vIsN true) fa fb)) := vt_cmp opr_isnot o_isnot (nomark _) ha hb
theorem tin (hr : Room k X.A) (ha : VE N X W Vs a fa) (hb : VE N X W Vs' b fb) (hm : behindInMarks .In b = false := by with_unfolding_all rfl) : VT N X W (Vs ++ Vs') (.Compare a [.In] [b] pos) (evB (ev2 (vIn false) fa fb)) := vt_cmp (opr_in hr (VA.Room.u65 hr)) (o_in _) hm ha hb
theorem tnin (hr : Room k X.A) (ha : VE N X W Vs a fa) (hb : VE N X W Vs' b fb) (hm : behindInMarks .NotIn b = false := by with_unfolding_all rfl) : VT N X W (Vs ++ Vs') (.Compare a [.NotIn] [b] pos) (evB (ev2 (vIn true) fa fb)) := vt_cmp (opr_notin hr (VA.Room.u65 hr)) (o_in _) hm ha hb
/-- chains -/
theorem xch {op op' : CmpOp} {ops : List CmpOp} {c : Expr} {ls : List Lk} (ha : VE N X W Vs a fa) (hr : VCh N X W Vs' pos (op :: op' :: ops) (b :: c :: es) ls) (hm : lastMarks (op :: op' :: ops) (b :: c :: es) = false := by with_unfolding_all rfl) :
    VE N X W (Vs ++ Vs') (.Compare a (op :: op' :: ops) (b :: c :: es) pos) (evChV fa ls) := ve_chain ha hr hm
theorem tch {op op' : CmpOp} {ops : List CmpOp} {c : Expr} {ls : List Lk} (ha : VE N X W Vs a fa) (hr : VCh N X W Vs' pos (op :: op' :: ops) (b :: c :: es) ls) (hm : lastMarks (op :: op' :: ops) (b :: c :: es) = false := by with_unfolding_all rfl) :
    VT N X W (Vs ++ Vs') (.Compare a (op :: op' :: ops) (b :: c :: es) pos) (evChT fa ls) := vt_chain ha hr hm
/-! ### subscripts -/
theorem xix (hr : Room k X.A) (ha : VE N X W Vs a fa) (hb : VE N X W Vs' b fb) (hs : PlainIx b := by intro _ _; rfl) : VE N X W (Vs ++ Vs') (.Subscript a b pos) (ev2 vIx fa fb) := ve_ix hr hs ha hb
theorem plx (hr : Room k X.A) {i : Nat} {pf : En → Option (List Int)} (ha : VPl N X a i pf) (hb : VE N X W0 Vs b f) (hs : PlainIx b := by intro _ _; rfl) : VPl N X (.Subscript a b pos) i (evP1 pf f) := vpl_ix hr hs ha hb
theorem plv (i : Nat) {x : Str} (hN : X.N[i]? = some x := by rfl) (hv : Vis X.env.scope x := by (first | exact Or.inl rfl | exact Or.inr rfl | exact Or.inr (Or.inl rfl) | exact Or.inr (Or.inr rfl))) (hd : (x == ("__debug__" : Str)) = false := by decide) (hcd : (x == ("__classdict__" : Str)) = false := by decide) : VPl N X (.Name x pos) i evP0 := vpl_nm hN hv hd hcd
/-! ### built-in functions -/
theorem xlen (hm : X.mg "len" = none) (ha : VAs N X W Vs [a] fs) (hg : Gl X "len" := by rfl) (he : starEach [a] X.env = (false, eval a X.env) :: starEach [] X.env := by rfl) (hp : (backTo pos (starEach [] X.env)).any (·.1) = false := by rfl) : VE N X W Vs (.Call (.Name "len" p) [a] [] pos) (evF1 vLen fs) :=
  ve_N (opn1 o_len) ha fun t => pe_callB cr_len hg hm PySem.boot_len t (by decide) (by decide) he hp
theorem xsum (hc : X.calm = true) (hm : X.mg "sum" = none) (ha : VAs N X W Vs [a] fs) (hg : Gl X "sum" := by rfl) (he : starEach [a] X.env = (false, eval a X.env) :: starEach [] X.env := by rfl) (hp : (backTo pos (starEach [] X.env)).any (·.1) = false := by rfl) : VE N X W Vs (.Call (.Name "sum" p) [a] [] pos) (evN vSum fs) :=
  ve_N o_sum ha fun t => pe_callB (cr_sum hc) hg hm (by decide +kernel) t (by decide) (by decide) he hp
theorem xsorted (hm : X.mg "sorted" = none) (ha : VAs N X W Vs [a] fs) (hg : Gl X "sorted" := by rfl) (he : starEach [a] X.env = (false, eval a X.env) :: starEach [] X.env := by rfl) (hp : (backTo pos (starEach [] X.env)).any (·.1) = false := by rfl) : VE N X W Vs (.Call (.Name "sorted" p) [a] [] pos) (evN vSorted fs) :=
  ve_N o_sorted ha fun t => pe_callB cr_sortedI hg hm (by decide +kernel) t (by decide) (by decide) he hp
theorem xabs (hm : X.mg "abs" = none) (ha : VAs N X W Vs [a] fs) (hg : Gl X "abs" := by rfl) (he : starEach [a] X.env = (false, eval a X.env) :: starEach [] X.env := by rfl) (hp : (backTo pos (starEach [] X.env)).any (·.1) = false := by rfl) : VE N X W Vs (.Call (.Name "abs" p) [a] [] pos) (evN vAbs fs) :=
  ve_N o_abs ha fun t => pe_callB call_abs hg hm (by decide +kernel) t (by decide) (by decide) he hp
theorem xall (hc : X.calm = true) (hm : X.mg "all" = none) (ha : VAs N X W Vs (a :: es) fs) (hg : Gl X "all" := by rfl) (he : starEach (a :: es) X.env = (false, eval a X.env) :: starEach es X.env := by rfl) (hp : (backTo pos (starEach es X.env)).any (·.1) = false := by rfl) : VE N X W Vs (.Call (.Name "all" p) (a :: es) [] pos) (evN vAll fs) :=
  ve_N o_all ha fun t => pe_callB (cr_all hc) hg hm (by decide +kernel) t (by decide) (by decide) he hp
theorem xany (hc : X.calm = true) (hm : X.mg "any" = none) (ha : VAs N X W Vs (a :: es) fs) (hg : Gl X "any" := by rfl) (he : starEach (a :: es) X.env = (false, eval a X.env) :: starEach es X.env := by rfl) (hp : (backTo pos (starEach es X.env)).any (·.1) = false := by rfl) : VE N X W Vs (.Call (.Name "any" p) (a :: es) [] pos) (evN vAny fs) :=
  ve_N o_any ha fun t => pe_callB (cr_any hc) hg hm (by decide +kernel) t (by decide) (by decide) he hp
theorem xmax (hc : X.calm = true) (hm : X.mg "max" = none) (ha : VAs N X W Vs (a :: es) fs) (hg : Gl X "max" := by rfl) (he : starEach (a :: es) X.env = (false, eval a X.env) :: starEach es X.env := by rfl) (hp : (backTo pos (starEach es X.env)).any (·.1) = false := by rfl) : VE N X W Vs (.Call (.Name "max" p) (a :: es) [] pos) (evN vMax fs) :=
  ve_N o_max ha fun t => pe_callB (cr_maxA hc) hg hm (by decide +kernel) t (by decide) (by decide) he hp
theorem xmin (hc : X.calm = true) (hm : X.mg "min" = none) (ha : VAs N X W Vs (a :: es) fs) (hg : Gl X "min" := by rfl) (he : starEach (a :: es) X.env = (false, eval a X.env) :: starEach es X.env := by rfl) (hp : (backTo pos (starEach es X.env)).any (·.1) = false := by rfl) : VE N X W Vs (.Call (.Name "min" p) (a :: es) [] pos) (evN vMin fs) :=
  ve_N o_min ha fun t => pe_callB (cr_minA hc) hg hm (by decide +kernel) t (by decide) (by decide) he hp
theorem xint (hm : X.mg "int" = none) (ha : VAs N X W Vs (a :: es) fs) (hg : Gl X "int" := by rfl) (he : starEach (a :: es) X.env = (false, eval a X.env) :: starEach es X.env := by rfl) (hp : (backTo pos (starEach es X.env)).any (·.1) = false := by rfl) : VE N X W Vs (.Call (.Name "int" p) (a :: es) [] pos) (evN vInt fs) :=
  ve_N o_int ha fun t => pe_callTy cr_int hg hm (by decide +kernel) t (by decide) (by decide) he hp
theorem xlist (hm : X.mg "list" = none) (ha : VAs N X W Vs (a :: es) fs) (hg : Gl X "list" := by rfl) (he : starEach (a :: es) X.env = (false, eval a X.env) :: starEach es X.env := by rfl) (hp : (backTo pos (starEach es X.env)).any (·.1) = false := by rfl) : VE N X W Vs (.Call (.Name "list" p) (a :: es) [] pos) (evN vList fs) :=
  ve_N o_list ha fun t => pe_callTy call_list_of hg hm (by decide +kernel) t (by decide) (by decide) he hp
theorem xtuple (hm : X.mg "tuple" = none) (ha : VAs N X W Vs (a :: es) fs) (hg : Gl X "tuple" := by rfl) (he : starEach (a :: es) X.env = (false, eval a X.env) :: starEach es X.env := by rfl) (hp : (backTo pos (starEach es X.env)).any (·.1) = false := by rfl) : VE N X W Vs (.Call (.Name "tuple" p) (a :: es) [] pos) (evN vTuple fs) :=
  ve_N o_tuple ha fun t => pe_callTy call_tuple_of hg hm (by decide +kernel) t (by decide) (by decide) he hp
theorem xstr (hm : X.mg "str" = none) (ha : VAs N X W Vs (a :: es) fs) (hg : Gl X "str" := by rfl) (he : starEach (a :: es) X.env = (false, eval a X.env) :: starEach es X.env := by rfl) (hp : (backTo pos (starEach es X.env)).any (·.1) = false := by rfl) : VE N X W Vs (.Call (.Name "str" p) (a :: es) [] pos) (evN vStr fs) :=
  ve_N o_str ha fun t => pe_callTy call_str_int hg hm (by decide +kernel) t (by decide) (by decide) he hp
theorem xlr1 {q1 q2 : Pos} (hc : X.calm = true) (hm : X.mg "list" = none) (hm2 : X.mg "range" = none) (ha : VE N X W Vs a fa) (hg : Gl X "list" := by rfl) (hg2 : Gl X "range" := by rfl) (na : starEach [a] X.env = (false, eval a X.env) :: starEach [] X.env := by rfl) :
    VE N X W Vs (.Call (.Name "list" p) [.Call (.Name "range" q1) [a] [] q2] [] pos) (ev1 vLR1 fa) := ve_lr1 hc hg hm hg2 hm2 ha na
theorem xlr2 {q1 q2 : Pos} (hc : X.calm = true) (hm : X.mg "list" = none) (hm2 : X.mg "range" = none) (ha : VE N X W Vs a fa) (hb : VE N X W Vs' b fb) (hg : Gl X "list" := by rfl) (hg2 : Gl X "range" := by rfl) (na : starEach [a, b] X.env = (false, eval a X.env) :: starEach [b] X.env := by rfl)
    (nb : starEach [b] X.env = (false, eval b X.env) :: starEach [] X.env := by rfl) (hp : (backTo q2 (starEach [b] X.env)).any (·.1) = false := by rfl) (no : starEach [.Call (.Name "range" q1) [a, b] [] q2] X.env = (false, eval (.Call (.Name "range" q1) [a, b] [] q2) X.env) :: starEach [] X.env := by rfl) :
    VE N X W (Vs ++ Vs') (.Call (.Name "list" p) [.Call (.Name "range" q1) [a, b] [] q2] [] pos) (ev2 vLR2 fa fb) := ve_lr2 hc hg hm hg2 hm2 ha hb na nb hp no
theorem xisi (T : String) {x : Str} {q1 : Pos} (hm : X.mg "isinstance" = none) (hmT : X.mg x = none) (hvT : bootBuiltins x = some (.type T)) (ha : VE N X W Vs a fa) (hg : Gl X "isinstance" := by rfl) (hgT : Gl X x := by rfl) (hnT : x ≠ "__name__" := by decide) (hdT : (x == ("__debug__" : Str)) = false := by decide)
    (na : starEach [a, .Name x q1] X.env = (false, eval a X.env) :: starEach [.Name x q1] X.env := by rfl) : VE N X W Vs (.Call (.Name "isinstance" p) [a, .Name x q1] [] pos) (ev1 (vIsi T) fa) := ve_isi hg hm hgT hmT hvT hnT hdT ha na
/-- len(set(x)), ints all unlike -/
def vLenSet : D → R D := onInts fun ns => if ns.length < 64 ∧ ns.Nodup then .ok (.int ns.length) else .no
theorem xlenset {q1 q2 : Pos} (hc : X.calm = true) (hm : X.mg "len" = none) (hm2 : X.mg "set" = none) (ha : VE N X W Vs a fa) (hg : Gl X "len" := by rfl) (hg2 : Gl X "set" := by rfl) (na : starEach [a] X.env = (false, eval a X.env) :: starEach [] X.env := by rfl) :
    VE N X W Vs (.Call (.Name "len" p) [.Call (.Name "set" q1) [a] [] q2] [] pos) (ev1 vLenSet fa) := by
  refine pe_mono (pe_lenSetI hc hg hm hg2 hm2 ha na) fun σ H Q ⟨T, env, th, hv, h⟩ => ?_
  refine ⟨T, env, th, hv, seqE (α := D) h fun d1 v1 H1 T1 F1 n1 r1 p1 => ?_⟩
  cases hg : vLenSet d1.shr with
  | no => rw [hg] at p1; exact p1.elim
  | ex c => exact absurd hg (onInts_ex fun ns c => by split <;> intro z <;> cases z)
  | ok d =>
    rw [hg] at p1
    obtain ⟨o, ns, e1, e2⟩ := onInts_ok hg
    split at e2
    · rename_i hz
      cases e2
      have r2 := r1.sh
      rw [e1] at r2
      obtain ⟨a, ev, hs⟩ := r2.ints
      exact ⟨a, ns, ev, hs, hz.1, hz.2, p1 _ H1 (TU T1 F1) [] (New.refl n1.share.th) ⟨rfl, rfl⟩⟩
    · cases e2
/-! ### own defs -/
theorem xcall {j n : Nat} {fd : FuncData} {ps : List Str} {g : List D → R D} {x : Str} {fa : Addr} (F : FnOk X.prog X.w X.K X.mg X.base (L2.CX X.prog X.w) j fa fd ps (spP (bOf N X) n g)) (hr : Room k X.A) (hj : j ≤ k) (hm : X.mg x = some (.ref fa))
    (hk : PySem.W.keepIn X.K (.ref fa) = true) (hb : Binds X.K fd ps []) (tk : Takes X W) (ha : VAs N X W Vs (e :: es) fs) (hg : Gl X x := by rfl) (hdb : (x == ("__debug__" : Str)) = false := by decide) (he : starEach (e :: es) X.env = (false, eval e X.env) :: starEach es X.env := by rfl) (hpl : (backTo pos (starEach es X.env)).any (·.1) = false := by rfl) :
    VE N X W Vs (.Call (.Name x p) (e :: es) [] pos) (evCall n g fs) := ve_call (F.mono hj) hr hg hm hk hb tk ha hdb he hpl
/-! ### targets -/
theorem pn (i : Nat) {x : Str} (hN : X.N.Nodup) (hi : X.N[i]? = some x := by rfl) (hx : Loc X.env.scope x := by (first | exact Or.inl rfl | exact Or.inr rfl | exact Or.inr (Or.inl rfl) | exact Or.inr (Or.inr rfl))) (hf : X.fn x = true ∨ X.env.scope.names.lookup x = some .local := by (first | exact Or.inl rfl | exact Or.inr rfl | exact Or.inr (Or.inl rfl) | exact Or.inr (Or.inr rfl))) : VP X (.Name x pos) (.nm i) := vp_nm hN hi hx hf
/-! ### statements -/
theorem sset {i : Nat} {y : Str} {py : Pos} {xx : (En → D → O) → En → O} (hx : Mode (bOf N X) W Vs f xx) (hN : X.N.Nodup) (he : VE N X W Vs e f) (hi : X.N[i]? = some y := by rfl) (hl : Loc X.env.scope y := by (first | exact Or.inl rfl | exact Or.inr rfl | exact Or.inr (Or.inl rfl) | exact Or.inr (Or.inr rfl))) (hf : X.fn y = true ∨ X.env.scope.names.lookup y = some .local := by (first | exact Or.inl rfl | exact Or.inr rfl | exact Or.inr (Or.inl rfl) | exact Or.inr (Or.inr rfl))) (hs : swapsWith e (some (.Name y py)) pos.line X.env = pure false := by rfl) :
    VS N X W (.Assign [.Name y py] e pos) (evSet i xx) := vs_set hx (asn_e he hN hi hl hf hs)
theorem spat {tg : Expr} {pt : Pat} {xx : (En → D → O) → En → O} (hx : Mode (bOf N X) W Vs f xx) (he : VE N X W Vs e f) (hg : VP X tg pt) (hs : swapsWithSole [tg] e pos.line X.env = pure false := by rfl) (hw : swappedStores [tg] e X.env = pure none := by rfl)
    (h1 : (assignEach [tg] X.env).map (·.2) = [assign tg X.env] := by rfl) : VS N X W (.Assign [tg] e pos) (evPat pt xx) := vs_pat hx he hg hs hw h1
theorem sapp {i : Nat} {pf : En → Option (List Int)} {o : Expr} {apos cpos : Pos} {xx : (En → List D → O) → En → O} (hx : ModeA (bOf N X) W Vs fs xx) (ho : VPl N X o i pf) (ha : VAs N X W Vs [a] fs)
    (hbase : attributeBase o "append" X.env (eval o X.env) = eval o X.env := by rfl)
    (hfew : ((backTo cpos (starEach [a] X.env)).all (fun x => !x.1) && (backToKw cpos (keywordEach [] X.env)).all (fun x => x.1.isSome)
      && decide (([a] : List Expr).length + ([] : List Keyword).length + (if ([] : List Keyword).isEmpty then 0 else 1) < 30)) = true := by rfl)
    (hline : (apos.endLine == cpos.line) = true := by rfl) (hs : starEach [a] X.env = (false, eval a X.env) :: starEach [] X.env := by rfl) (hsw : swapsWith (.Call (.Attribute o "append" apos) [a] [] cpos) none pos.line X.env = pure false := by rfl) :
    VS N X W (.Expr (.Call (.Attribute o "append" apos) [a] [] cpos) pos) (evMut i pf xx mAppend) :=
  vs_mut mut_append hx ho ha (fun p q => pe_bm PySem.F.plainAttrs_list PySem.F.slot_list_append PySem.F.type_list_append mt_append p q hbase hfew hline hs rfl) hsw
theorem sins {i : Nat} {pf : En → Option (List Int)} {o : Expr} {apos cpos : Pos} {xx : (En → List D → O) → En → O} (hx : ModeA (bOf N X) W Vs fs xx) (ho : VPl N X o i pf) (ha : VAs N X W Vs [a, b] fs)
    (hbase : attributeBase o "insert" X.env (eval o X.env) = eval o X.env := by rfl)
    (hfew : ((backTo cpos (starEach [a, b] X.env)).all (fun x => !x.1) && (backToKw cpos (keywordEach [] X.env)).all (fun x => x.1.isSome)
      && decide (([a, b] : List Expr).length + ([] : List Keyword).length + (if ([] : List Keyword).isEmpty then 0 else 1) < 30)) = true := by rfl)
    (hline : (apos.endLine == cpos.line) = true := by rfl) (hs : starEach [a, b] X.env = (false, eval a X.env) :: starEach [b] X.env := by rfl) (hpl : (backTo cpos (starEach [b] X.env)).any (·.1) = false := by rfl) (hsw : swapsWith (.Call (.Attribute o "insert" apos) [a, b] [] cpos) none pos.line X.env = pure false := by rfl) :
    VS N X W (.Expr (.Call (.Attribute o "insert" apos) [a, b] [] cpos) pos) (evMut i pf xx mInsert) :=
  vs_mut mut_insert hx ho ha (fun p q => pe_bm PySem.F.plainAttrs_list PySem.F.slot_list_insert PySem.F.type_list_insert mt_insert p q hbase hfew hline hs hpl) hsw
/-- P[k] = e, a list -/
theorem sst {i : Nat} {pf : En → Option (List Int)} {o ik : Expr} {fk : En → R D} {Vk : List Nat} {tpos : Pos} {xx : (En → D → O) → En → O} (hx : Mode (bOf N X) W Vs f xx) (he : VE N X W Vs e f) (ho : VPl N X o i pf) (hk : VE N X W Vk ik fk)
    (hs : swapsWithSole [.Subscript o ik tpos] e pos.line X.env = pure false := by rfl) (hw : swappedStores [.Subscript o ik tpos] e X.env = pure none := by rfl)
    (h1 : (assignEach [.Subscript o ik tpos] X.env).map (·.2) = [assign (.Subscript o ik tpos) X.env] := by rfl)
    (hs2 : ∀ v, assign (.Subscript o ik tpos) X.env v = (do
      let ov ← holding [v] (eval o X.env)
      let iv ← holding [v, ov] (eval ik X.env)
      standAt tpos
      holding [v, ov, iv] (setItem ov iv v)
      release [v, ov, iv] []) := by intro _; rfl) : VS N X W (.Assign [.Subscript o ik tpos] e pos) (evStore i pf fk xx mSet) :=
  vs_store mut_set hx he ho hk set_list (fun p q => ps_asg p q hs hw h1) (fun p q r => pg_sub p q r hs2)
theorem sfor {tg iter : Expr} {sb : List Stmt} {pt : Pat} {cl : List Nat} {src : En → R (List D)} {body : En → O} (hp : PassesOwn (model X.prog X.w) X.A X.env X.xe) (hc : X.calm = true) (hi : VI N X W Vs tg iter src) (hg : VP X tg pt) (hb : VSs N X W sb body)
    (hs : ∀ x, foldedSetIterable iter X.env x = pure x := by intro _; rfl) : VS N X W (.For tg iter sb [] pos) (evFor Vs src pt cl body) := vs_for hp hc hi hg hb fun p q r => ps_for hp hc p q r hs
theorem sforr1 {tg : Expr} {sb : List Stmt} {pt : Pat} {cl : List Nat} {body : En → O} {q1 q2 : Pos} (hp : PassesOwn (model X.prog X.w) X.A X.env X.xe) (hc : X.calm = true) (hm : X.mg "range" = none) (ha : VAs N X W Vs [a] fs) (hg : VP X tg pt) (hb : VSs N X W sb body) (hgl : Gl X "range" := by rfl)
    (hst : starEach [a] X.env = [(false, eval a X.env)] := by rfl) (hs : ∀ x, foldedSetIterable (.Call (.Name "range" q1) [a] [] q2) X.env x = pure x := by intro _; rfl) : VS N X W (.For tg (.Call (.Name "range" q1) [a] [] q2) sb [] pos) (evForR (evRng1 fs) pt cl body) :=
  vs_forR1 hp hc hgl hm ha hg hb hst fun p q r => ps_for hp hc p q r hs
theorem sforr2 {tg : Expr} {sb : List Stmt} {pt : Pat} {cl : List Nat} {body : En → O} {q1 q2 : Pos} (hp : PassesOwn (model X.prog X.w) X.A X.env X.xe) (hc : X.calm = true) (hm : X.mg "range" = none) (ha : VAs N X W Vs [a, b] fs) (hg : VP X tg pt) (hb : VSs N X W sb body) (hgl : Gl X "range" := by rfl)
    (hst : starEach [a, b] X.env = [(false, eval a X.env), (false, eval b X.env)] := by rfl) (hst2 : starEach [b] X.env = [(false, eval b X.env)] := by rfl) (hs : ∀ x, foldedSetIterable (.Call (.Name "range" q1) [a, b] [] q2) X.env x = pure x := by intro _; rfl) : VS N X W (.For tg (.Call (.Name "range" q1) [a, b] [] q2) sb [] pos) (evForR (evRng2 fs) pt cl body) :=
  vs_forR2 hp hc hgl hm ha hg hb hst hst2 fun p q r => ps_for hp hc p q r hs
theorem spar {xx : (En → List D → O) → En → O} {i j : Nat} {y z : Str} {px py pt : Pos} {kt k2 : Nat} {pt2 : Pos} (hx : ModeA (bOf N X) W Vs fs xx) (hc : X.calm = true) (hN : X.N.Nodup) (ha : VAs N X W Vs [a, b] fs) (hi : X.N[i]? = some y := by rfl) (hj : X.N[j]? = some z := by rfl) (hij : i ≠ j := by decide)
    (hy : X.env.scope.names.lookup y = some .local := by rfl) (hz : X.env.scope.names.lookup z = some .local := by rfl)
    (hw : swappedStores [.Tuple [.Name y px, .Name z py] kt pt] (.Tuple [a, b] k2 pt2) X.env = pure (some [y, z]) := by rfl)
    (hs : swapsWithSole [.Tuple [.Name y px, .Name z py] kt pt] (.Tuple [a, b] k2 pt2) pos.line X.env = pure false := by rfl) :
    VS N X W (.Assign [.Tuple [.Name y px, .Name z py] kt pt] (.Tuple [a, b] k2 pt2) pos) (evPar i j xx) := vs_par hx hc hN hi hj hij hy hz ha hw hs fun p => ps_par hc hN hi hj hij hy hz p hw hs
end
/-! ### comprehensions -/
section
variable {N : Inf} {X : Cx} {W : WX} {Vs Vs' Vc Ve : List Nat} {own : List (Str × Nat)} {ow : List Nat} {src : En → R (List D)} {pt : Pat} {c : En → R Bool} {f : En → R D} {elt tg iter : Expr} {ifs : List Expr} {scope : Scope} {pos : Pos}
theorem visub (h : VI N X W Vs tg iter src) (hv : ∀ i ∈ Vs, i ∈ Vs') : VI N X W Vs' tg iter src := pi_mono h fun σ H R ⟨T, env, th, q, p⟩ => ⟨T, env, th, q.sub hv, p⟩
theorem xlc (hcm : X.calm = true) (hN : X.N.Nodup) (hi : VI N X W Vs tg iter src) (ok : BlkOk X.N X.env.scope scope own)
    (hg : ∀ (s : Shared) (H : Hp) (C : Addr) (cl : List (Str × Addr)) (fp : List Addr), VP (X.blk s H scope (PySem.compEnvC scope cl C X.env) fp) tg pt)
    (ht : ∀ (s : Shared) (H : Hp) (C : Addr) (cl : List (Str × Addr)) (fp : List Addr), VTs N (X.blk s H scope (PySem.compEnvC scope cl C X.env) fp) W0 Vc ifs c)
    (he : ∀ (s : Shared) (H : Hp) (C : Addr) (cl : List (Str × Addr)) (fp : List Addr), VE N (X.blk s H scope (PySem.compEnvC scope cl C X.env) fp) W0 Ve elt f)
    (how : own.map (·.2) = ow := by rfl) (h1 : ∀ i ∈ pt.slots, i ∈ ow := by decide) (h2 : ∀ i ∈ Vc, i ∈ ow ∨ i ∈ Vs := by decide) (h3 : ∀ i ∈ Ve, i ∈ ow ∨ i ∈ Vs := by decide)
    (hs : ∀ x, foldedSetIterable iter X.env x = pure x := by intro _; rfl) : VE N X W Vs (.ListComp elt [⟨tg, iter, ifs, 0⟩] scope pos) (evLc src pt ow c f) := by
  subst how
  exact ve_lc hcm hN hi ok hg ht he h1 h2 h3 hs
theorem alc {i : Nat} {y : Str} {py spos : Pos} {xx : (En → D → O) → En → O} (hx : Mode (bOf N X) W Vs (evLc src pt ow c f) xx) (hcm : X.calm = true) (hN : X.N.Nodup) (hi : VI N X W Vs tg iter src) (ok : BlkOk X.N X.env.scope scope own)
    (hg : ∀ (s : Shared) (H : Hp) (C : Addr) (cl : List (Str × Addr)) (fp : List Addr), VP (X.blk s H scope (PySem.compEnvC scope cl C X.env) fp) tg pt)
    (ht : ∀ (s : Shared) (H : Hp) (C : Addr) (cl : List (Str × Addr)) (fp : List Addr), VTs N (X.blk s H scope (PySem.compEnvC scope cl C X.env) fp) W0 Vc ifs c)
    (he : ∀ (s : Shared) (H : Hp) (C : Addr) (cl : List (Str × Addr)) (fp : List Addr), VE N (X.blk s H scope (PySem.compEnvC scope cl C X.env) fp) W0 Ve elt f)
    (hy : X.N[i]? = some y := by rfl) (hyl : X.env.scope.names.lookup y = some .local := by rfl) (hk : X.env.scope.kind = .function := by rfl) (hl : (py.line == spos.line) = true := by rfl) (hpos : (py.line == pos.line) = true := by rfl)
    (ha : (scope.names.any fun (n, k) => n == y && (k == .local || k == .cell)) = false := by rfl)
    (how : own.map (·.2) = ow := by rfl) (h1 : ∀ i ∈ pt.slots, i ∈ ow := by decide) (h2 : ∀ i ∈ Vc, i ∈ ow ∨ i ∈ Vs := by decide) (h3 : ∀ i ∈ Ve, i ∈ ow ∨ i ∈ Vs := by decide)
    (hs : ∀ x, foldedSetIterable iter X.env x = pure x := by intro _; rfl) : VS N X W (.Assign [.Name y py] (.ListComp elt [⟨tg, iter, ifs, 0⟩] scope pos) spos) (evSet i xx) := by
  subst how
  exact vs_set hx (asn_lc hcm hN hy hyl (sw_true hk hyl hpos ha) hi ok hg ht he h1 h2 h3 hs)
end
/-! ### own refusals -/
structure ExcT (K : PySem.W.Frag) (mg : Str → Option Value) (x : Str) (C : Addr) : Prop where
  q : PySem.W.excIn K C [.type "ValueError", .type "Exception", .type "BaseException", .type "object"] "ValueError.__new__" = true
  g : mg x = some (.ref C)
  k : PySem.W.keepIn K (.ref C) = true
  sub : PySem.W.subIn K (.ref C) (.type "BaseException") = some true
  ty : PySem.W.typeIn K (.ref C) = some (.type "type")
theorem pmk_mono {X : Cx} {e : Expr} {t t' : L2.St → Hp → XK → Prop} (h : PMk X e t) (m : ∀ σ H Q, t' σ H Q → t σ H Q) : PMk X e t' := fun pins s σ H Q I q => h pins s σ H Q I (m σ H Q q)
theorem srs {N : Inf} {X : Cx} {W : WX} {pos p p1 p2 : Pos} {c j : Nat} {x z : Str} (hc : X.calm = true) (tk : Takes X W) (T : ExcT X.K X.mg x (N.ca c)) (hg : Gl X x := by rfl) (hd : (x == ("__debug__" : Str)) = false := by decide)
    (he : starEach [.Constant (.str z) j p1] X.env = (false, eval (.Constant (.str z) j p1) X.env) :: starEach [] X.env := by rfl) (hpl : (backTo p2 (starEach [] X.env)).any (·.1) = false := by rfl) :
    VS N X W (.Raise (some (.Call (.Name x p) [.Constant (.str z) j p1] [] p2)) none pos) (evRaise c) :=
  vs_raise hc tk (pmk_mono (pmk_ownA PySem.F.excBase_ValueError T.q T.g T.k (raises_own T.sub T.ty) hg (pa_cons pe_str pa_nil he) hd he hpl) fun σ H Q h => ⟨by show 1 ≤ sizeLine; decide, h⟩)
end VA


set_option Elab.async false
set_option linter.all false
set_option maxRecDepth 100000
set_option maxHeartbeats 2000000
/-! VL: the law's end. -/
namespace VA
open PySem PySem.Spec L2
/-- the law's promise -/
def spL (K : PySem.W.Frag) : Sp := fun vs H Q _ => ∃ (a : Addr) (ns : List Int), vs = [.ref a] ∧ ns.length ≤ 63 ∧ SLst K H a (ns.map V.int) ∧ ∀ H', Q (.bl true) H'
abbrev scrD (ns : List Int) : D := .lst .scr (ns.map D.int)
theorem law_fin {P : Program} {w : World} {K : PySem.W.Frag} {mg : Str → Option Value} {base : Heap} {k : Nat} {f : Addr} {fd : FuncData} {ps : List Str} {I : Inf} {g : List D → R D} (F : FnOk P w K mg base (L2.CX P w) k f fd ps (spP ⟨K, I.fa, I.ca⟩ 1 g))
    (h : ∀ ns : List Int, ns.length ≤ 63 → g [scrD ns] = .ok (.bl true)) : FnOk P w K mg base (L2.CX P w) k f fd ps (spL K) :=
  F.imp fun vs H Q E ⟨a, ns, e, hl, hs, q⟩ => by
    refine ⟨by rw [e]; rfl, fun _ => False, [scrD ns], fun _ z => z.elim, ?_, ?_⟩
    · rw [e]
      exact Reps.one ⟨rfl, a, ns.map V.int, rfl, hs, reps_ints ns⟩
    · rw [h ns hl]
      intro v H' T' F n r
      rw [r.1]
      exact q H'
theorem walkL {l : PySem.W.OpenLaw} {q : Program} {loose : List Str} {XP : (Str → Option Value) → Heap → Prop} {YP : World → Heap → Prop} {d : DefRec} {K : Params → PySem.W.Frag} {k : Nat} (hn : l.most = some 63) (hdf : d.params.defaults = []) (hr : Room k callerA)
    (hY : ∀ (w : World) (h : Heap), YP w h → (K w.params).In h)
    (F : ∀ (w : World) (mg : Str → Option Value) (fa : Addr) (h : Heap), (K w.params).In h → h.Ns mainGlobals mg → mg d.name = some (.ref fa) →
      ∃ fd : FuncData, (∀ (s : Shared) (u : Value), BindsTo s fd ⟨[u], []⟩ [("script", u)]) ∧ ∀ base : Heap, (K w.params).In base → base.Ns mainGlobals mg → FnOk l.prog w (K w.params) mg base (L2.CX l.prog w) k fa fd ["script"] (spL (K w.params))) :
    PySem.W.WalkO q loose XP YP l.row.toRowW d [] (fun f vs => PySem.call f vs) :=
  L2.walk_of (n := 63) (k := k) (x := "script") (CX := fun w => L2.CX l.prog w) (sp := fun w => spL (K w.params)) hn (by decide) hdf hr hY F
    (fun w H a ns hl hO hS => ⟨a, ns, rfl, hl, by
      rcases hS with (h | h) | h
      · rcases hO a with z | ⟨o, xs, z⟩ <;> rw [h] at z <;> cases z
      · exact .inl h
      · exact .inr h, fun _ => rfl⟩)
    fun w H s e s' h => by
      obtain ⟨_, _, _, _, _, _, _, _, _, _, _, _, z⟩ := h
      exact z
theorem exc_mk {K : PySem.W.Frag} {h : Heap} {mg : Str → Option Value} {x : Str} {C : Addr} (X : K.In h) (G : h.Ns mainGlobals mg) (a : PySem.W.nsIn K mainGlobals x = some (some (.ref C)))
    (q : PySem.W.excIn K C [.type "ValueError", .type "Exception", .type "BaseException", .type "object"] "ValueError.__new__" = true) (k : PySem.W.keepIn K (.ref C) = true)
    (s : PySem.W.subIn K (.ref C) (.type "BaseException") = some true) (t : PySem.W.typeIn K (.ref C) = some (.type "type")) : ExcT K mg x C := ⟨q, PySem.W.mg_of X G a, k, s, t⟩
end VA


set_option Elab.async false
set_option linter.all false
set_option maxRecDepth 100000
set_option maxHeartbeats 2000000
/-! VP: what the evaluator gives, in plain Lean: the small facts, and loops by invariants. -/
namespace VA
open PySem L2
theorem shrs_ints (ns : List Int) : shrs (ns.map D.int) = ns.map D.int := by
  rw [shrs_map, List.map_map]; rfl
theorem shrs_bls (ns : List Bool) : shrs (ns.map D.bl) = ns.map D.bl := by
  rw [shrs_map, List.map_map]; rfl
theorem shrs_shr (xs : List D) : shrs (xs.map D.shr) = xs.map D.shr := by
  rw [shrs_map, List.map_map]
  exact congrArg (fun f => xs.map f) (funext fun d => D.shr_shr d)
theorem fzs_ints (ns : List Int) : fzs (ns.map D.int) = false := by
  induction ns with
  | nil => rfl
  | cons n ns ih => rw [List.map_cons, fzs, ih]; rfl
theorem fzs_bls (ns : List Bool) : fzs (ns.map D.bl) = false := by
  induction ns with
  | nil => rfl
  | cons n ns ih => rw [List.map_cons, fzs, ih]; rfl
theorem pys_ints (ns : List Int) : pys (ns.map D.int) = some (ns.map PyData.int) := by
  induction ns with
  | nil => rfl
  | cons n ns ih => rw [List.map_cons, pys, ih]; rfl
theorem fzs_rep (n : Nat) (d : D) (h : d.fz = false) : fzs (List.replicate n d) = false := by
  induction n with
  | zero => rfl
  | succ n ih => rw [List.replicate_succ, fzs, ih, h]; rfl
theorem fzs_repi (n : Nat) (z : Int) : fzs (List.replicate n (D.int z)) = false := fzs_rep n _ (by simp [D.fz])
theorem shrs_rep (n : Nat) (d : D) : shrs (List.replicate n d) = List.replicate n d.shr := by rw [shrs_map, List.map_replicate]
theorem shrs_app (xs ys : List D) : shrs (xs ++ ys) = shrs xs ++ shrs ys := by rw [shrs_map, shrs_map, shrs_map, List.map_append]
theorem fzs_app (xs ys : List D) : fzs (xs ++ ys) = (fzs xs || fzs ys) := by
  induction xs with
  | nil => rfl
  | cons x xs ih => rw [List.cons_append, fzs, fzs, ih, Bool.or_assoc]
theorem shrs_rev (xs : List D) : shrs xs.reverse = (shrs xs).reverse := by rw [shrs_map, shrs_map, List.map_reverse]
theorem onInts_map (g : List Int → R D) (o : Fl) (ns : List Int) : onInts g (.lst o (ns.map D.int)) = g ns := by
  unfold onInts; simp only [ints?_map]
theorem onBls_map (g : List Bool → R D) (o : Fl) (ns : List Bool) : onBls g (.lst o (ns.map D.bl)) = g ns := by
  unfold onBls; simp only [bls?_map]
theorem rgL_ints (lo : Int) (n : Nat) : rgL lo n = ((List.range n).map fun i => lo + (i : Nat)).map D.int := by
  unfold rgL; rw [List.map_map]; rfl
theorem rgD_ints (a b : Int) : rgD a b = ((List.range (b - a).toNat).map fun i => a + (i : Nat)).map D.int := by
  unfold rgD; rw [List.map_map]; rfl
theorem atI_map {α β : Type} (f : α → β) (xs : List α) (i : Int) : atI (xs.map f) i = (atI xs i).map f := by
  unfold atI
  rw [List.length_map]
  cases ixN xs.length i with
  | none => rfl
  | some j => simp
theorem ixN_nat {n i : Nat} (h : i < n) : ixN n (i : Int) = some i := by
  unfold ixN
  rw [if_pos (by omega), if_pos (by omega)]
  simp
theorem ixN_pos {n : Nat} {i : Int} (h0 : 0 ≤ i) (h : i < n) : ixN n i = some i.toNat := by
  unfold ixN
  rw [if_pos h0, if_pos h]
theorem atI_pos {α : Type} {xs : List α} {i : Int} (h0 : 0 ≤ i) (h : i < xs.length) : atI xs i = xs[i.toNat]? := by
  unfold atI
  rw [ixN_pos h0 h]
  rfl
theorem vIx_ints {o : Fl} {ns : List Int} {i z : Int} (h : atI ns i = some z) : vIx (.lst o (ns.map D.int)) (.int i) = .ok (.int z) := by
  show (match atI (ns.map D.int) i with | some d => R.ok d | none => R.no) = _
  rw [atI_map, h]
  rfl
theorem vIx_lst {o : Fl} {xs : List D} {i : Int} {d : D} (h : atI xs i = some d) : vIx (.lst o xs) (.int i) = .ok d := by
  show (match atI xs i with | some d => R.ok d | none => R.no) = _
  rw [h]
/-! ### loops -/
theorem forGo_nx {p : Pat} {cl : List Nat} {body : En → O} (Inv : Nat → En → Prop) : ∀ {ds : List D} {env : En} (k : Nat), Inv k env →
    (∀ i d env, ds[i]? = some d → Inv (k + i) env → ∃ bs e, patD p d = some bs ∧ okPat bs env = true ∧ (body (setD env bs) = .nx e ∨ body (setD env bs) = .ct e) ∧ Inv (k + i + 1) (clr cl e)) →
    ∃ env', forGo p cl body ds env = .nx env' ∧ Inv (k + ds.length) env'
  | [], env, k, h0, _ => ⟨env, rfl, h0⟩
  | d :: ds, env, k, h0, h => by
    obtain ⟨bs, e, h1, h2, h3, h4⟩ := h 0 d env rfl h0
    obtain ⟨env', q1, q2⟩ := forGo_nx Inv (ds := ds) (k + 1) h4 fun i d env hd hi => by
      have := h (i + 1) d env (by simpa using hd) (by rw [show k + (i + 1) = k + 1 + i by omega]; exact hi)
      rw [show k + (i + 1) + 1 = k + 1 + i + 1 by omega] at this
      exact this
    refine ⟨env', ?_, by rw [List.length_cons, show k + (ds.length + 1) = k + 1 + ds.length by omega]; exact q2⟩
    rw [forGo, h1]
    simp only [h2, if_true]
    rcases h3 with h3 | h3 <;> rw [h3] <;> exact q1
theorem forGo_n {p : Pat} {cl : List Nat} {body : En → O} (Inv : Nat → En → Prop) {ds : List D} {env : En} (h0 : Inv 0 env)
    (h : ∀ i d env, ds[i]? = some d → Inv i env → ∃ bs e, patD p d = some bs ∧ okPat bs env = true ∧ body (setD env bs) = .nx e ∧ Inv (i + 1) (clr cl e)) :
    ∃ env', forGo p cl body ds env = .nx env' ∧ Inv ds.length env' := by
  obtain ⟨env', q1, q2⟩ := forGo_nx Inv (ds := ds) 0 h0 fun i d env hd hi => by
    rw [Nat.zero_add] at hi
    obtain ⟨bs, e, h1, h2, h3, h4⟩ := h i d env hd hi
    exact ⟨bs, e, h1, h2, .inl h3, by rw [Nat.zero_add]; exact h4⟩
  exact ⟨env', q1, by rw [Nat.zero_add] at q2; exact q2⟩
theorem rgL_get {lo : Int} {n i : Nat} {d : D} (h : (rgL lo n)[i]? = some d) : i < n ∧ d = .int (lo + (i : Nat)) := by
  unfold rgL at h
  rw [List.getElem?_map] at h
  obtain ⟨j, h1, h2⟩ := Option.map_eq_some_iff.mp h
  obtain ⟨h3, h4⟩ := List.getElem?_eq_some_iff.mp h1
  rw [List.length_range] at h3
  rw [List.getElem_range] at h4
  subst h4
  exact ⟨h3, h2.symm⟩
theorem rgL_len (lo : Int) (n : Nat) : (rgL lo n).length = n := by unfold rgL; rw [List.length_map, List.length_range]
theorem map_snoc {α β : Type} (f : α → β) (xs : List α) (x : α) : xs.map f ++ [f x] = (xs ++ [x]).map f := by simp
theorem fGt_t {i j : Int} (h : j < i) : fGt i j = true := decide_eq_true h
theorem fGt_f {i j : Int} (h : ¬ j < i) : fGt i j = false := decide_eq_false h
theorem fLt_t {i j : Int} (h : i < j) : fLt i j = true := decide_eq_true h
theorem fLt_f {i j : Int} (h : ¬ i < j) : fLt i j = false := decide_eq_false h
theorem fLe_t {i j : Int} (h : i ≤ j) : fLe i j = true := decide_eq_true h
theorem fLe_f {i j : Int} (h : ¬ i ≤ j) : fLe i j = false := decide_eq_false h
theorem fGe_t {i j : Int} (h : j ≤ i) : fGe i j = true := decide_eq_true h
theorem fGe_f {i j : Int} (h : ¬ j ≤ i) : fGe i j = false := decide_eq_false h
/-- a loop that may hand back -/
theorem forGo_rt {p : Pat} {cl : List Nat} {body : En → O} (Inv : Nat → En → Prop) (Res : O → Prop) : ∀ {ds : List D} {env : En} (k : Nat), Inv k env →
    (∀ i d env, ds[i]? = some d → Inv (k + i) env → ∃ bs, patD p d = some bs ∧ okPat bs env = true ∧ ((∃ e, (body (setD env bs) = .nx e ∨ body (setD env bs) = .ct e) ∧ Inv (k + i + 1) (clr cl e)) ∨ (∃ r, body (setD env bs) = .rt r ∧ Res (.rt r)) ∨ (∃ c e, body (setD env bs) = .ex c e ∧ Res (.ex c e)))) →
    (∀ env', Inv (k + ds.length) env' → Res (.nx env')) → Res (forGo p cl body ds env)
  | [], env, k, h0, _, hf => hf env h0
  | d :: ds, env, k, h0, h, hf => by
    obtain ⟨bs, h1, h2, h3⟩ := h 0 d env rfl h0
    rw [forGo, h1]
    simp only [h2, if_true]
    rcases h3 with ⟨e, h3, h4⟩ | ⟨r, h3, h4⟩ | ⟨c, e, h3, h4⟩
    · have q := forGo_rt Inv Res (ds := ds) (k + 1) h4 (fun i d env hd hi => by
        have := h (i + 1) d env (by simpa using hd) (by rw [show k + (i + 1) = k + 1 + i by omega]; exact hi)
        rw [show k + (i + 1) + 1 = k + 1 + i + 1 by omega] at this
        exact this) (fun env' hi => hf env' (by rw [List.length_cons, show k + (ds.length + 1) = k + 1 + ds.length by omega]; exact hi))
      rcases h3 with h3 | h3 <;> rw [h3] <;> exact q
    · rw [h3]; exact h4
    · rw [h3]; exact h4
/-- a comprehension, each thing told -/
theorem lcGo_map {p : Pat} {c : En → R Bool} {e : En → R D} {env : En} (t : D → Bool) (f : D → D) : ∀ {ds : List D}, (∀ d ∈ ds, ∃ bs, patD p d = some bs ∧ c (setD env bs) = .ok (t d) ∧ (t d = true → e (setD env bs) = .ok (f d))) → lcGo p c e env ds = .ok ((ds.filter t).map f)
  | [], _ => rfl
  | d :: ds, h => by
    obtain ⟨bs, h1, h2, h3⟩ := h d List.mem_cons_self
    have ih := lcGo_map t f (ds := ds) fun d hd => h d (List.mem_cons_of_mem _ hd)
    rw [lcGo, h1]
    simp only [h2, noex_ok, R.bind_ok]
    cases ht : t d with
    | true => rw [List.filter_cons_of_pos ht, if_pos rfl, h3 ht]; simp only [noex_ok, R.bind_ok, ih]; rfl
    | false => rw [List.filter_cons_of_neg (by simp [ht]), if_neg Bool.false_ne_true]; exact ih
/-! ### each evaluator, applied -/
def O.seq (r : O) (b : En → O) : O := match r with
  | .nx env => b env
  | r => r
@[simp] theorem seq_nx (e : En) (b : En → O) : O.seq (.nx e) b = b e := rfl
@[simp] theorem seq_rt (d : D) (b : En → O) : O.seq (.rt d) b = .rt d := rfl
@[simp] theorem seq_bk (e : En) (b : En → O) : O.seq (.bk e) b = .bk e := rfl
@[simp] theorem seq_ct (e : En) (b : En → O) : O.seq (.ct e) b = .ct e := rfl
@[simp] theorem seq_ex (c : Nat) (e : En) (b : En → O) : O.seq (.ex c e) b = .ex c e := rfl
def O.fn (r : O) : R D := match r with
  | .rt d => .ok d
  | .nx _ => .ok .non
  | .ex c _ => .ex c
  | _ => .no
@[simp] theorem fn_nx (e : En) : O.fn (.nx e) = .ok .non := rfl
@[simp] theorem fn_rt (d : D) : O.fn (.rt d) = .ok d := rfl
@[simp] theorem fn_ex (c : Nat) (e : En) : O.fn (.ex c e) = .ex c := rfl
def R.ite {α : Type} (r : R Bool) (a b : α) (bad : Nat → α) (no : α) : α := match r with
  | .ok true => a
  | .ok false => b
  | .ex c => bad c
  | .no => no
@[simp] theorem ite_t {α : Type} (a b : α) (bad : Nat → α) (no : α) : R.ite (.ok true) a b bad no = a := rfl
@[simp] theorem ite_f {α : Type} (a b : α) (bad : Nat → α) (no : α) : R.ite (.ok false) a b bad no = b := rfl
theorem ite_ok {α : Type} (c : Bool) (a b : α) (bad : Nat → α) (no : α) : R.ite (.ok c) a b bad no = if c then a else b := by cases c <;> rfl
def D.bl! : D → R Bool
  | .bl b => .ok b
  | _ => .no
@[simp] theorem bl!_bl (b : Bool) : D.bl! (.bl b) = .ok b := rfl
section
variable (env : En) (f fa fb fk : En → R D) (fs : En → R (List D)) (p q : En → R Bool) (a b : En → O) (i j : Nat) (x : (En → D → O) → En → O) (xa : (En → List D → O) → En → O) (K : En → D → O) (KA : En → List D → O) (Vs : List Nat)
theorem evFn_app (m : Nat) (ds : List D) : evFn m a ds = O.fn (a (startE m ds)) := by
  unfold evFn O.fn; cases a (startE m ds) <;> rfl
theorem evSeqS_app : evSeqS a b env = O.seq (a env) b := by
  unfold evSeqS O.seq; cases a env <;> rfl
theorem evNx_app : evNx env = .nx env := rfl
theorem evIfS_app : evIfS p a b env = R.ite (p env) (a env) (b env) (fun c => .ex c env) .no := by
  unfold evIfS R.ite
  cases p env with
  | ok c => cases c <;> rfl
  | _ => rfl
theorem evXk_app : evXk f K env = (f env).toO env fun d => if d.fz then .no else K env d := rfl
theorem evXm_app : evXm Vs f K env = (f env).toO env fun d => if d.fz then evXf Vs f K env else K env d := rfl
theorem evXf_app : evXf Vs f K env = (f (frz Vs env)).toO (frz Vs env) (K (frz Vs env)) := rfl
theorem evAk_app : evAk fs KA env = (fs env).toO env fun d => if fzs d then .no else KA env d := rfl
theorem evAm_app : evAm Vs fs KA env = (fs env).toO env fun d => if fzs d then evAf Vs fs KA env else KA env d := rfl
theorem evAf_app : evAf Vs fs KA env = (fs (frz Vs env)).toO (frz Vs env) (KA (frz Vs env)) := rfl
theorem evSet_app : evSet i x env = x (fun env d => if i < env.length then .nx (env.set i (some d)) else .no) env := rfl
theorem evEx_app : evEx x env = x (fun env _ => .nx env) env := rfl
theorem evRet_app : evRet x env = x (fun _ d => .rt d) env := rfl
def slotR (o : Option (Option D)) : R D := match o with
  | some (some d) => .ok d
  | _ => .no
@[simp] theorem slotR_some (d : D) : slotR (some (some d)) = .ok d := rfl
theorem evV_app : evV i env = (slotR env[i]?).bind fun d => .ok d.shr := by
  unfold evV
  rcases env[i]? with _ | _ | d <;> rfl
theorem evRetV_app : evRetV i env = (slotR env[i]?).toO env fun d => .rt d := by
  unfold evRetV
  rcases env[i]? with _ | _ | d <;> rfl
theorem evC_app (d : D) : evC d env = .ok d := rfl
theorem evNil_app : evNil env = .ok [] := rfl
theorem evCons_app : evCons f fs env = (f env).bind fun x => (fs env).bind fun xs => .ok (x :: xs) := rfl
theorem evTup_app : evTup fs env = (fs env).bind fun xs => if xs.length ≤ PySem.sizeLine then .ok (.tup xs) else .no := rfl
theorem evLst_app : evLst fs env = (fs env).bind fun xs => if xs.length ≤ PySem.sizeLine then .ok (.lst .own xs) else .no := rfl
theorem evB_app : evB f env = (f env).bind D.bl! := by
  unfold evB
  congr
theorem evBl_app : evBl p env = (p env).bind fun c => .ok (.bl c) := rfl
theorem evAndT_app : evAndT p q env = (p env).bind fun c => if c then q env else .ok false := rfl
theorem evOrT_app : evOrT p q env = (p env).bind fun c => if c then .ok true else q env := rfl
theorem evNotT_app : evNotT p env = (p env).bind fun c => .ok !c := rfl
theorem evAndV_app : evAndV fa fb env = (evB fa env).bind fun c => if c then (evB fb env).bind fun k => .ok (.bl k) else .ok (.bl false) := rfl
theorem evOrV_app : evOrV fa fb env = (evB fa env).bind fun c => if c then .ok (.bl true) else (evB fb env).bind fun k => .ok (.bl k) := rfl
theorem evNotV_app : evNotV fa env = (evB fa env).bind fun c => .ok (.bl !c) := rfl
theorem evIfE_app : evIfE p fa fb env = R.ite (p env) (fa env) (fb env) .ex .no := by
  unfold evIfE evIte R.ite
  cases p env with
  | ok c => cases c <;> rfl
  | _ => rfl
theorem ev1_app (g : D → R D) : ev1 g fa env = (fa env).bind fun x => g x.shr := rfl
theorem ev2_app (g : D → D → R D) : ev2 g fa fb env = (fa env).bind fun x => (fb env).bind fun y => g x.shr y.shr := rfl
theorem evN_app (g : List D → R D) : evN g fs env = (fs env).bind fun xs => g (shrs xs) := rfl
def one1 (g : D → R D) (ds : List D) : R D := match ds with | [d] => g d | _ => .no
@[simp] theorem one1_one (g : D → R D) (d : D) : one1 g [d] = g d := rfl
theorem evF1_app (g : D → R D) : evF1 g fs env = (fs env).bind fun xs => one1 g (shrs xs) := rfl
theorem evCall_app (n : Nat) (g : List D → R D) : evCall n g fs env = (fs env).bind fun xs => if xs.length = n then g (shrs xs) else .no := rfl
theorem evSl_app (l h : En → R (Option Int)) : evSl f l h env = (f env).bind fun x => (l env).bind fun lo => (h env).bind fun hi => vSl x.shr lo hi := rfl
theorem evSo_app : evSo f env = (f env).bind asInt := rfl
theorem evNo_app : evNo env = .ok none := rfl
theorem evYes_app : evYes env = .ok true := rfl
theorem evSeq_app : evSeq f env = (f env).bind seqD := rfl
theorem evRng1_app : evRng1 fs env = (fs env).bind rng1A := rfl
theorem evRng2_app : evRng2 fs env = (fs env).bind rng2A := rfl
theorem evEnum_app : evEnum fs env = (fs env).bind enA := rfl
theorem evRaise_app (c : Nat) : evRaise c env = .ex c env := rfl
theorem evForR_app (src : En → R (List D)) (pt : Pat) (cl : List Nat) : evForR src pt cl a env = (src env).toO env fun ds => forGo pt cl a ds (clr cl env) := rfl
theorem evFor_app (src : En → R (List D)) (pt : Pat) (cl : List Nat) : evFor Vs src pt cl a env = (src (frz Vs env)).toO (frz Vs env) fun ds => forGo pt cl a ds (clr cl (frz Vs env)) := rfl
theorem evLc_app (src : En → R (List D)) (pt : Pat) (own : List Nat) (c : En → R Bool) : evLc src pt own c f env = (src env).bind fun ds => if ds.length ≤ PySem.sizeLine then (noex (lcGo pt c f (clr own env) ds)).bind fun ys => .ok (.lst .own ys) else .no := rfl
def two2 (ds : List D) (k : D → D → O) : O := match ds with | [a, b] => k a b | _ => .no
@[simp] theorem two2_two (a b : D) (k : D → D → O) : two2 [a, b] k = k a b := rfl
theorem evPar_app : evPar i j xa env = xa (fun env ds => two2 ds fun d1 d2 => if i < env.length ∧ j < env.length then .nx ((env.set i (some d1)).set j (some d2)) else .no) env := by
  unfold evPar two2
  rfl
def optO {α : Type} (o : Option α) (k : α → O) : O := match o with | some a => k a | none => .no
@[simp] theorem optO_some {α : Type} (a : α) (k : α → O) : optO (some a) k = k a := rfl
theorem evPat_app (pt : Pat) : evPat pt x env = x (fun env d => optO (patD pt d) fun bs => if okPat bs env then .nx (setD env bs) else .no) env := by
  unfold evPat
  refine congrArg (fun K => x K env) (funext fun env => funext fun d => ?_)
  cases patD pt d <;> rfl
theorem evMut_app (pf : En → Option (List Int)) (g : D → List D → Option D) : evMut i pf xa g env = optO (pf env) fun p => if isOwn (atE env i p) then xa (fun env1 ds => optO (atE env1 i p) fun n => optO (g n ds) fun n' => .nx (putE env1 i p n')) env else .no := by
  unfold evMut
  cases pf env with
  | none => rfl
  | some p =>
    show (if isOwn (atE env i p) = true then xa _ env else O.no) = if isOwn (atE env i p) = true then xa _ env else O.no
    congr 2
    funext env1 ds
    cases atE env1 i p with
    | none => rfl
    | some n =>
      show (match g n ds with | some n' => O.nx (putE env1 i p n') | none => O.no) = optO (g n ds) _
      cases g n ds <;> rfl
theorem evStore_app (pf : En → Option (List Int)) (g : D → List D → Option D) : evStore i pf fk x g env = x (fun env d => optO (pf env) fun p => optO (atE env i p) fun n => (fk env).toO env fun dk => if dk.fz then .no else optO (g n [dk, d]) fun n' => .nx (putE env i p n')) env := by
  unfold evStore
  refine congrArg (fun K => x K env) (funext fun env => funext fun d => ?_)
  cases pf env with
  | none => rfl
  | some p =>
    show (match atE env i p with | none => O.no | some n => _) = optO (atE env i p) _
    cases atE env i p with
    | none => rfl
    | some n =>
      refine congrArg (fun K => (fk env).toO env K) (funext fun dk => ?_)
      cases g n [dk, d] <;> rfl
theorem evP0_app : evP0 env = some [] := rfl
def pIx (o : Option (List Int)) (r : R D) : Option (List Int) := match o, r with
  | some p, .ok (.int k) => some (p ++ [k])
  | _, _ => none
@[simp] theorem pIx_some (p : List Int) (k : Int) : pIx (some p) (.ok (.int k)) = some (p ++ [k]) := rfl
theorem evP1_app (pf : En → Option (List Int)) : evP1 pf f env = pIx (pf env) (f env) := rfl
def onI (d : D) (k : Int → R Bool) : R Bool := match d with | .int i => k i | _ => .no
@[simp] theorem onI_int (i : Int) (k : Int → R Bool) : onI (.int i) k = k i := rfl
theorem evChGo_nil (c : Int) : evChGo env c [] = .ok true := rfl
theorem evChGo_cons (c : Int) (h : Int → Int → Bool) (ls : List Lk) : evChGo env c ((h, f) :: ls) = (f env).bind fun d => onI d fun b => if h c b then evChGo env b ls else .ok false := by
  rw [evChGo]
  congr
theorem evChT_app (ls : List Lk) : evChT fa ls env = (fa env).bind fun d => onI d fun c => evChGo env c ls := by
  unfold evChT
  congr
theorem evChV_app (ls : List Lk) : evChV fa ls env = (evChT fa ls env).bind fun c => .ok (.bl c) := rfl
theorem atE_ok {d : D} (p : List Int) (h : env[i]? = some (some d)) : atE env i p = d.at p := by unfold atE; rw [h]
theorem putE_ok {d : D} (p : List Int) (n : D) (h : env[i]? = some (some d)) : putE env i p n = env.set i (some (d.put p n)) := by unfold putE; rw [h]
end
theorem patD_nm (i : Nat) (d : D) : patD (.nm i) d = some [(i, d)] := by rw [patD]
theorem patD_tup (ps : List Pat) (ds : List D) : patD (.tp ps) (.tup ds) = if ds.length = ps.length then patDs ps ds else none := by rw [patD]
theorem patD_lst (ps : List Pat) (o : Fl) (ds : List D) : patD (.tp ps) (.lst o ds) = if ds.length = ps.length then patDs ps ds else none := by rw [patD]
def app2 {α : Type} : Option (List α) → Option (List α) → Option (List α)
  | some a, some b => some (a ++ b)
  | _, _ => none
theorem app2_some {α : Type} (a b : List α) : app2 (some a) (some b) = some (a ++ b) := rfl
theorem patDs_nil : patDs [] [] = some [] := by rw [patDs]
theorem patDs_cons (p : Pat) (ps : List Pat) (d : D) (ds : List D) : patDs (p :: ps) (d :: ds) = app2 (patD p d) (patDs ps ds) := by
  rw [patDs]
  cases patD p d <;> cases patDs ps ds <;> rfl
theorem setD_nil (env : En) : setD env [] = env := by rw [setD]
theorem setD_cons (env : En) (i : Nat) (d : D) (r : List (Nat × D)) : setD env ((i, d) :: r) = setD (env.set i (some d)) r := by rw [setD]
theorem okPat_nil (env : En) : okPat [] env = true := rfl
theorem okPat_cons (i : Nat) (d : D) (r : List (Nat × D)) (env : En) : okPat ((i, d) :: r) env = (decide (i < env.length) && okPat r env) := rfl
theorem clr_nil (env : En) : clr [] env = env := by rw [clr]
theorem clr_cons (i : Nat) (is : List Nat) (env : En) : clr (i :: is) env = (clr is env).set i none := by rw [clr]
theorem frz_nil (env : En) : frz [] env = env := by rw [frz]
theorem frz_cons (i : Nat) (is : List Nat) (env : En) : frz (i :: is) env = frz is (frz1 i env) := by rw [frz]
theorem frz1_d (d : D) (env : En) : frz1 0 (some d :: env) = some d.shr :: env := by rw [frz1]
theorem frz1_n (env : En) : frz1 0 (none :: env) = none :: env := by rw [frz1]
theorem frz1_s (i : Nat) (x : Option D) (env : En) : frz1 (i + 1) (x :: env) = x :: frz1 i env := by rw [frz1]
def slotO (o : Option (Option D)) : Option D := match o with
  | some (some d) => some d
  | _ => none
theorem slotO_some (d : D) : slotO (some (some d)) = some d := rfl
theorem atE_app (env : En) (i : Nat) (p : List Int) : atE env i p = (slotO env[i]?).bind fun d => d.at p := by
  unfold atE
  rcases env[i]? with _ | _ | d <;> rfl
def putS (o : Option D) (env : En) (i : Nat) (p : List Int) (n : D) : En := match o with
  | some d => env.set i (some (d.put p n))
  | none => env
theorem putS_some (d : D) (env : En) (i : Nat) (p : List Int) (n : D) : putS (some d) env i p n = env.set i (some (d.put p n)) := rfl
theorem putE_app (env : En) (i : Nat) (p : List Int) (n : D) : putE env i p n = putS (slotO env[i]?) env i p n := by
  unfold putE
  rcases env[i]? with _ | _ | d <;> rfl
theorem isOwn_own (xs : List D) : isOwn (some (.lst .own xs)) = true := rfl
theorem at_nil (d : D) : d.at [] = some d := by cases d <;> rfl
theorem put_nil (d n : D) : d.put [] n = n := by cases d <;> rfl
theorem at_one (xs : List D) (k : Int) : D.at (.lst .own xs) [k] = atI xs k := by
  rw [D.at]
  cases atI xs k with
  | none => rfl
  | some d => exact at_nil d
theorem put_one (xs : List D) (k : Int) (n : D) : D.put (.lst .own xs) [k] n = match ixN xs.length k with
    | some j => .lst .own (xs.set j n)
    | none => .lst .own xs := by
  rw [D.put]
  cases ixN xs.length k with
  | none => rfl
  | some j => simp only [put_nil]
theorem at_0 {α : Type} (a : α) (xs : List α) : atI (a :: xs) 0 = some a := by rw [atI_pos (by decide) (by simp)]; rfl
theorem at_1 {α : Type} (a b : α) (xs : List α) : atI (a :: b :: xs) 1 = some b := by rw [atI_pos (by decide) (by simp; omega)]; rfl
theorem put_0 (a n : D) (xs : List D) : D.put (.lst .own (a :: xs)) [0] n = .lst .own (n :: xs) := by
  rw [D.put, ixN_pos (by decide) (by simp)]
  simp [put_nil]
theorem put_1 (a b n : D) (xs : List D) : D.put (.lst .own (a :: b :: xs)) [1] n = .lst .own (a :: n :: xs) := by
  rw [D.put, ixN_pos (by decide) (by simp; omega)]
  simp [put_nil]
theorem shr_lst (o : Fl) (xs : List D) : (D.lst o xs).shr = .lst o.sh' (shrs xs) := by rw [D.shr]
theorem shr_tup (xs : List D) : (D.tup xs).shr = .tup (shrs xs) := by rw [D.shr]
theorem shr_int (i : Int) : (D.int i).shr = .int i := by rw [D.shr]
theorem shr_bl (i : Bool) : (D.bl i).shr = .bl i := by rw [D.shr]
theorem shr_str (i : PySem.Str) : (D.str i).shr = .str i := by rw [D.shr]
theorem shr_non : D.non.shr = .non := by rw [D.shr]
theorem sh'_own : Fl.own.sh' = .sh := rfl
theorem sh'_sh : Fl.sh.sh' = .sh := rfl
theorem sh'_scr : Fl.scr.sh' = .scr := rfl
theorem shrs_nil : shrs [] = [] := by rw [shrs]
theorem shrs_cons (x : D) (xs : List D) : shrs (x :: xs) = x.shr :: shrs xs := by rw [shrs]
theorem fz_int (i : Int) : (D.int i).fz = false := by simp [D.fz]
theorem fz_bl (i : Bool) : (D.bl i).fz = false := by simp [D.fz]
theorem fz_str (i : PySem.Str) : (D.str i).fz = false := by simp [D.fz]
theorem fz_non : D.non.fz = false := by simp [D.fz]
theorem fz_own (xs : List D) : (D.lst .own xs).fz = fzs xs := by rw [D.fz]; intro h; cases h
theorem fz_scr (xs : List D) : (D.lst .scr xs).fz = fzs xs := by rw [D.fz]; intro h; cases h
theorem fz_sh (xs : List D) : (D.lst .sh xs).fz = true := by rw [D.fz]
theorem fz_tup (xs : List D) : (D.tup xs).fz = fzs xs := by rw [D.fz]
theorem fzs_nil : fzs [] = false := by rw [fzs]
theorem fzs_cons (x : D) (xs : List D) : fzs (x :: xs) = (x.fz || fzs xs) := by rw [fzs]
theorem vAdd_ii (i j : Int) : vAdd (.int i) (.int j) = .ok (.int (i + j)) := rfl
theorem vSub_ii (i j : Int) : vSub (.int i) (.int j) = .ok (.int (i - j)) := rfl
theorem vCmp_ii (f : Int → Int → Bool) (i j : Int) : vCmp f (.int i) (.int j) = .ok (.bl (f i j)) := rfl
theorem vMul_ii {i j : Int} (h : okMul i j = true) : vMul (.int i) (.int j) = .ok (.int (i * j)) := by
  show (if okMul i j then R.ok (D.int (i * j)) else .no) = _
  rw [if_pos h]
theorem okMul_r {i j : Int} (h1 : -(2 ^ 64) < j) (h2 : j < 2 ^ 64) : okMul i j = true := by
  unfold okMul
  rw [Bool.or_eq_true]
  exact .inl (decide_eq_true (.inr ⟨h1, h2⟩))
theorem okMul_l {i j : Int} (h1 : -(2 ^ 64) < i) (h2 : i < 2 ^ 64) : okMul i j = true := by
  unfold okMul
  rw [Bool.or_eq_true]
  exact .inl (decide_eq_true (.inl ⟨h1, h2⟩))
theorem vMul_rep (n : Nat) (d : D) (h : n ≤ 1000000) : vMul (.lst .sh [d]) (.int (n : Nat)) = .ok (.lst .own (List.replicate n d)) := by
  have hc : -(2 ^ 63) ≤ ((n : Nat) : Int) ∧ ((n : Nat) : Int) < 2 ^ 63 ∧ [d].length * ((n : Nat) : Int).toNat ≤ PySem.sizeLine := by
    rw [PySem.sizeLine_eq]
    refine ⟨by omega, by omega, ?_⟩
    show 1 * n ≤ _
    omega
  rw [vMul, if_pos hc]
  have : (List.replicate n [d]).flatten = List.replicate n d := by simp
  rw [Int.toNat_natCast, this]
theorem vMod_ii {i j : Int} (h : 0 < j) : vMod (.int i) (.int j) = .ok (.int (i % j)) := by
  show (if 0 < j then R.ok (D.int (i % j)) else .no) = _
  rw [if_pos h]
theorem vFdiv_ii {i j : Int} (h : 0 < j) (h2 : j < 2 ^ 64) : vFdiv (.int i) (.int j) = .ok (.int (i / j)) := by
  show (if 0 < j ∧ j.natAbs.log2 < 9000 then R.ok (D.int (i / j)) else .no) = _
  refine if_pos ⟨h, ?_⟩
  have h3 : j.natAbs < 2 ^ 64 := by omega
  have h4 : j.natAbs ≠ 0 := by omega
  have := (Nat.log2_lt h4).mpr h3
  omega
theorem vPow_ii {i j : Int} (h : 0 ≤ j ∧ j ≤ 1000000 ∧ i.natAbs < 2 ^ 64) : vPow (.int i) (.int j) = .ok (.int (i ^ j.toNat)) := by
  show (if _ then R.ok (D.int (i ^ j.toNat)) else .no) = _
  rw [if_pos h]
theorem vInt_bl (b : Bool) : vInt [.bl b] = .ok (.int (if b then 1 else 0)) := by cases b <;> rfl
theorem vLen_lst (o : Fl) (xs : List D) : vLen (.lst o xs) = .ok (.int xs.length) := rfl
theorem vLen_tup (xs : List D) : vLen (.tup xs) = .ok (.int xs.length) := rfl
theorem vList_lst (o : Fl) (xs : List D) : vList [.lst o xs] = .ok (.lst .own xs) := rfl
theorem vTuple_lst (o : Fl) (xs : List D) : vTuple [.lst o xs] = .ok (.tup xs) := rfl
theorem vRev_lst (o : Fl) (xs : List D) : vRev (.lst o xs) = .ok (.lst .own xs.reverse) := rfl
theorem vSl_lst (o : Fl) (xs : List D) (lo hi : Option Int) : vSl (.lst o xs) lo hi = .ok (.lst .own (cutL xs lo hi)) := rfl
theorem asInt_int (i : Int) : asInt (.int i) = .ok (some i) := rfl
theorem seqD_tup (xs : List D) : seqD (.tup xs) = .ok (shrs xs) := rfl
theorem seqD_lst (o : Fl) (xs : List D) : seqD (.lst o xs) = .ok (shrs xs) := rfl
theorem rng1A_ok' {n : Int} (h : -(2 ^ 62) ≤ n ∧ n < 2 ^ 62) : rng1A [.int n] = .ok (rgL 0 n.toNat) := by
  show (if -(2 ^ 62) ≤ n ∧ n < 2 ^ 62 then R.ok (rgL 0 n.toNat) else .no) = _
  rw [if_pos h]
theorem rng2A_ok' {a b : Int} (h : -(2 ^ 62) ≤ a ∧ a < 2 ^ 62 ∧ -(2 ^ 62) ≤ b ∧ b < 2 ^ 62) : rng2A [.int a, .int b] = .ok (rgL a (b - a).toNat) := by
  show (if _ then R.ok (rgL a (b - a).toNat) else .no) = _
  rw [if_pos h]
theorem vSorted_ints (o : Fl) (ns : List Int) : vSorted [.lst o (ns.map D.int)] = .ok (.lst .own ((srt ns).map D.int)) := onInts_map _ o ns
theorem vAll_bls (o : Fl) (bs : List Bool) : vAll [.lst o (bs.map D.bl)] = .ok (.bl (bs.all id)) := onBls_map _ o bs
theorem vAny_bls (o : Fl) (bs : List Bool) : vAny [.lst o (bs.map D.bl)] = .ok (.bl (bs.any id)) := onBls_map _ o bs
theorem mAppend_ok {xs : List D} {d : D} (h : xs.length < PySem.sizeLine) : mAppend (.lst .own xs) [d] = some (.lst .own (xs ++ [d])) := by
  show (if xs.length < PySem.sizeLine then some (D.lst .own (xs ++ [d])) else none) = _
  rw [if_pos h]
theorem mSet_ok {xs : List D} {k : Int} {d : D} (h0 : 0 ≤ k) (h : k < xs.length) : mSet (.lst .own xs) [.int k, d] = some (.lst .own (xs.set k.toNat d)) := by
  show (match ixN xs.length k with | some j => some (D.lst .own (xs.set j d)) | none => none) = _
  rw [ixN_pos h0 h]
theorem mInsert_ok {xs : List D} {i : Int} {d : D} (h : xs.length < PySem.sizeLine) (h0 : 0 ≤ i) (h1 : i < 2 ^ 63) : mInsert (.lst .own xs) [.int i, d] = some (.lst .own (xs.take i.toNat ++ [d] ++ xs.drop i.toNat)) := by
  show (if xs.length < PySem.sizeLine ∧ 0 ≤ i ∧ i < 2 ^ 63 then some (D.lst .own (xs.take i.toNat ++ [d] ++ xs.drop i.toNat)) else none) = _
  rw [if_pos ⟨h, h0, h1⟩]
theorem sizeLine_big (n : Nat) (h : n ≤ 16777216) : n ≤ PySem.sizeLine := by rw [PySem.sizeLine_eq]; exact h
theorem ifok_and (p q : Bool) : (if p = true then R.ok q else R.ok false) = R.ok (p && q) := by cases p <;> rfl
theorem ifok_or (p q : Bool) : (if p = true then R.ok true else R.ok q) = R.ok (p || q) := by cases p <;> rfl
theorem ifokP_and (p : Prop) [Decidable p] (q : Bool) : (if p then R.ok q else R.ok false) = R.ok (decide p && q) := by by_cases h : p <;> simp [h]
theorem ifokP_or (p : Prop) [Decidable p] (q : Bool) : (if p then R.ok true else R.ok q) = R.ok (decide p || q) := by by_cases h : p <;> simp [h]
theorem ifokD_and (p q : Bool) : (if p = true then R.ok (D.bl q) else R.ok (D.bl false)) = R.ok (D.bl (p && q)) := by cases p <;> rfl
theorem ifokD_or (p q : Bool) : (if p = true then R.ok (D.bl true) else R.ok (D.bl q)) = R.ok (D.bl (p || q)) := by cases p <;> rfl
theorem ifokDP_and (p : Prop) [Decidable p] (q : Bool) : (if p then R.ok (D.bl q) else R.ok (D.bl false)) = R.ok (D.bl (decide p && q)) := by by_cases h : p <;> simp [h]
theorem ifokDP_or (p : Prop) [Decidable p] (q : Bool) : (if p then R.ok (D.bl true) else R.ok (D.bl q)) = R.ok (D.bl (decide p || q)) := by by_cases h : p <;> simp [h]
theorem vAll_rep (o : Fl) (n : Nat) : vAll [.lst o (List.replicate n (D.bl true))] = .ok (.bl true) := by
  rw [← List.map_replicate, vAll_bls]
  simp
theorem vIx_get {o : Fl} {xs : List D} {i : Nat} {d : D} (h : xs[i]? = some d) : vIx (.lst o xs) (.int (i : Nat)) = .ok d := by
  have hi := (List.getElem?_eq_some_iff.mp h).1
  exact vIx_lst (by rw [atI_pos (by omega) (by omega), Int.toNat_natCast]; exact h)
theorem vIx_0 (o : Fl) (a : D) (xs : List D) : vIx (.lst o (a :: xs)) (.int 0) = .ok a := vIx_get (i := 0) rfl
theorem vIx_1 (o : Fl) (a b : D) (xs : List D) : vIx (.lst o (a :: b :: xs)) (.int 1) = .ok b := vIx_get (i := 1) rfl
theorem vIx_2 (o : Fl) (a b c : D) (xs : List D) : vIx (.lst o (a :: b :: c :: xs)) (.int 2) = .ok c := vIx_get (i := 2) rfl
theorem vIx_3 (o : Fl) (a b c d : D) (xs : List D) : vIx (.lst o (a :: b :: c :: d :: xs)) (.int 3) = .ok d := vIx_get (i := 3) rfl
theorem vIx_4 (o : Fl) (a b c d e : D) (xs : List D) : vIx (.lst o (a :: b :: c :: d :: e :: xs)) (.int 4) = .ok e := vIx_get (i := 4) rfl
end VA


set_option Elab.async false
set_option linter.all false
set_option maxRecDepth 100000
set_option maxHeartbeats 2000000
/-! VP2: equality and membership of plain data. -/
namespace VA
open PySem L2
/-- how a kind of plain Lean things stands as data; depth at most n -/
structure Pl (n : Nat) {α : Type} [DecidableEq α] (enc : α → D) (py : α → PyData) : Prop where
  is : ∀ a, (enc a).py = some (py a)
  eqv : ∀ a b, PyData.eqv (py a) (py b) = decide (a = b)
  lay : ∀ a, (py a).canLay0 = true
  dep : ∀ a, (py a).depth ≤ n
section
variable {n : Nat} {α : Type} [DecidableEq α] {enc : α → D} {py : α → PyData}
theorem Pl.pys (h : Pl n enc py) (xs : List α) : pys (xs.map enc) = some (xs.map py) := by
  induction xs with
  | nil => rfl
  | cons x xs ih => rw [List.map_cons, VA.pys, h.is, ih]; rfl
theorem Pl.eqvAll (h : Pl n enc py) : ∀ xs ys : List α, PyData.eqvAll (xs.map py) (ys.map py) = decide (xs = ys)
  | [], [] => rfl
  | [], _ :: _ => rfl
  | _ :: _, [] => rfl
  | x :: xs, y :: ys => by
    rw [List.map_cons, List.map_cons, PyData.eqvAll, h.eqv, Pl.eqvAll h xs ys]
    by_cases h1 : x = y <;> by_cases h2 : xs = ys <;> simp [h1, h2]
theorem Pl.layAll (h : Pl n enc py) : ∀ xs : List α, PyData.canLayAll0 (xs.map py) = true
  | [] => rfl
  | x :: xs => by rw [List.map_cons, PyData.canLayAll0, h.lay, Pl.layAll h xs]; rfl
theorem Pl.depAll (h : Pl n enc py) : ∀ xs : List α, PyData.depthAll (xs.map py) ≤ n
  | [] => Nat.zero_le _
  | x :: xs => by
    rw [List.map_cons, PyData.depthAll]
    exact Nat.max_le.mpr ⟨h.dep x, Pl.depAll h xs⟩
theorem pl_int : Pl 0 D.int PyData.int := ⟨fun _ => rfl, fun a b => by
  simp only [PyData.eqv]
  by_cases h : a = b <;> simp [h], fun _ => by simp only [PyData.canLay0], fun _ => by simp only [PyData.depth]; exact Nat.le_refl _⟩
theorem pl_bool : Pl 0 D.bl PyData.bool := ⟨fun _ => rfl, fun a b => by
  simp only [PyData.eqv]
  by_cases h : a = b <;> simp [h], fun _ => by simp only [PyData.canLay0], fun _ => by simp only [PyData.depth]; exact Nat.le_refl _⟩
theorem Pl.lst (h : Pl n enc py) (o : Fl) : Pl (n + 1) (fun xs : List α => .lst o (xs.map enc)) (fun xs => .list (xs.map py)) :=
  ⟨fun xs => by show (VA.pys (xs.map enc)).map _ = _; rw [h.pys]; rfl, fun xs ys => by simp only [PyData.eqv]; exact h.eqvAll xs ys, fun xs => by simp only [PyData.canLay0]; exact h.layAll xs, fun xs => by simp only [PyData.depth]; exact Nat.succ_le_succ (h.depAll xs)⟩
theorem Pl.tup (h : Pl n enc py) : Pl (n + 1) (fun xs : List α => .tup (xs.map enc)) (fun xs => .tuple (xs.map py)) :=
  ⟨fun xs => by show (VA.pys (xs.map enc)).map _ = _; rw [h.pys]; rfl, fun xs ys => by simp only [PyData.eqv]; exact h.eqvAll xs ys, fun xs => by simp only [PyData.canLay0]; exact h.layAll xs, fun xs => by simp only [PyData.depth]; exact Nat.succ_le_succ (h.depAll xs)⟩
theorem Pl.shaped (h : Pl n enc py) (hn : n ≤ 64) (a : α) : SeqAt.shaped (py a) = true := by
  unfold SeqAt.shaped
  rw [h.lay, Bool.true_and]
  exact decide_eq_true (Nat.le_trans (h.dep a) hn)
end
/-- two encodings of one kind (flags apart) -/
theorem vEq_pl {n : Nat} {α : Type} [DecidableEq α] {e1 e2 : α → D} {py : α → PyData} (h1 : Pl n e1 py) (h2 : Pl n e2 py) (hn : n ≤ 64) (neg : Bool) (a b : α) : vEq neg (e1 a) (e2 b) = .ok (.bl (decide (a = b) != neg)) := by
  unfold vEq
  rw [h1.is, h2.is]
  simp only [h1.shaped hn, h2.shaped hn, h1.eqv, Bool.and_self, if_true]
theorem vEq_int (neg : Bool) (a b : Int) : vEq neg (.int a) (.int b) = .ok (.bl (decide (a = b) != neg)) := vEq_pl pl_int pl_int (by decide) neg a b
theorem vEq_bl (neg : Bool) (a b : Bool) : vEq neg (.bl a) (.bl b) = .ok (.bl (decide (a = b) != neg)) := vEq_pl pl_bool pl_bool (by decide) neg a b
theorem vEq_ints (neg : Bool) (o o' : Fl) (a b : List Int) : vEq neg (.lst o (a.map D.int)) (.lst o' (b.map D.int)) = .ok (.bl (decide (a = b) != neg)) := vEq_pl (pl_int.lst o) (pl_int.lst o') (by decide) neg a b
theorem vEq_tups (neg : Bool) (a b : List Int) : vEq neg (.tup (a.map D.int)) (.tup (b.map D.int)) = .ok (.bl (decide (a = b) != neg)) := vEq_pl pl_int.tup pl_int.tup (by decide) neg a b
/-- x in [..] of one kind -/
theorem vIn_pl {n : Nat} {α : Type} [DecidableEq α] {e1 e2 : α → D} {py : α → PyData} (h1 : Pl n e1 py) (h2 : Pl n e2 py) (hn : n + 1 ≤ 64) (neg : Bool) (o : Fl) (a : α) (bs : List α) :
    vIn neg (e1 a) (.lst o (bs.map e2)) = .ok (.bl (decide (a ∈ bs) != neg)) := by
  show vInS .list neg (e1 a) (bs.map e2) = _
  unfold vInS
  rw [h1.is, h2.pys]
  have q : SeqAt.shaped (.list (bs.map py)) = true := (h2.lst .own).shaped hn bs
  simp only [h1.shaped (by omega), q, Bool.and_self, if_true]
  congr 3
  induction bs with
  | nil => rfl
  | cons b bs ih =>
    have q2 : SeqAt.shaped (.list (bs.map py)) = true := (h2.lst .own).shaped hn bs
    rw [List.map_cons, List.any_cons, ih q2, h1.eqv]
    by_cases e : a = b
    · simp [e]
    · have e' : ¬ b = a := fun z => e z.symm
      simp [e, e']
theorem vInT_pl {n : Nat} {α : Type} [DecidableEq α] {e1 e2 : α → D} {py : α → PyData} (h1 : Pl n e1 py) (h2 : Pl n e2 py) (hn : n + 1 ≤ 64) (neg : Bool) (a : α) (bs : List α) :
    vIn neg (e1 a) (.tup (bs.map e2)) = .ok (.bl (decide (a ∈ bs) != neg)) := by
  show vInS .tuple neg (e1 a) (bs.map e2) = _
  unfold vInS
  rw [h1.is, h2.pys]
  have q : SeqAt.shaped (.tuple (bs.map py)) = true := h2.tup.shaped hn bs
  simp only [h1.shaped (by omega), q, Bool.and_self, if_true]
  congr 3
  induction bs with
  | nil => rfl
  | cons b bs ih =>
    have q2 : SeqAt.shaped (.tuple (bs.map py)) = true := h2.tup.shaped hn bs
    rw [List.map_cons, List.any_cons, ih q2, h1.eqv]
    by_cases e : a = b
    · simp [e]
    · have e' : ¬ b = a := fun z => e z.symm
      simp [e, e']
/-- a comprehension over ints -/
theorem lcGo_ints {i : Nat} {c : En → R Bool} {e : En → R D} {env : En} (t : Int → Bool) (f : Int → D) : ∀ {q : List Int}, (∀ z ∈ q, c (env.set i (some (.int z))) = .ok (t z) ∧ (t z = true → e (env.set i (some (.int z))) = .ok (f z))) → lcGo (.nm i) c e env (q.map D.int) = .ok ((q.filter t).map f)
  | [], _ => rfl
  | z :: q, h => by
    obtain ⟨h2, h3⟩ := h z List.mem_cons_self
    have ih := lcGo_ints t f (q := q) fun d hd => h d (List.mem_cons_of_mem _ hd)
    rw [List.map_cons, lcGo, patD]
    simp only [setD, h2, noex_ok, R.bind_ok]
    cases ht : t z with
    | true => rw [List.filter_cons_of_pos ht, if_pos rfl, h3 ht]; simp only [noex_ok, R.bind_ok, ih]; rfl
    | false => rw [List.filter_cons_of_neg (by simp [ht]), if_neg Bool.false_ne_true]; exact ih
/-- the same, nothing left out -/
theorem lcGo_all {i : Nat} {e : En → R D} {env : En} (f : Int → D) {q : List Int} (h : ∀ z ∈ q, e (env.set i (some (.int z))) = .ok (f z)) : lcGo (.nm i) evYes e env (q.map D.int) = .ok (q.map f) := by
  rw [lcGo_ints (fun _ => true) f fun z hz => ⟨rfl, fun _ => h z hz⟩, List.filter_eq_self.mpr fun _ _ => rfl]
end VA


set_option Elab.async false
set_option linter.all false
set_option maxRecDepth 100000
set_option maxHeartbeats 4000000
namespace K07
open PySem PySem.Spec L2 VA
def top (i : Nat) : Stmt := PySem.Challenge.pw_wallpeel_k07_fours_judged.main.body.getD i (.Pass ⟨0, 0, 0, 0⟩)
abbrev s_is_whole : Stmt := top 5
abbrev s_need_orders : Stmt := top 7
abbrev s_places_of : Stmt := top 8
abbrev s_is_four : Stmt := top 9
abbrev s_bars : Stmt := top 10
abbrev s__law_cell_at : Stmt := top 12
abbrev s__law_draws : Stmt := top 13
abbrev s__law_places : Stmt := top 14
abbrev s__law_a_orders : Stmt := top 15
abbrev s__law_is_four : Stmt := top 16
abbrev s__law_some_four : Stmt := top 17
abbrev s_law : Stmt := top 18
theorem sc_is_whole : FnScope ["thing"] ["thing"] (defScope s_is_whole) := ⟨rfl, rfl, rfl, by decide +kernel, rfl, by decide +kernel, by decide +kernel⟩
theorem sc_need_orders : FnScope ["falling", "rising", "number"] ["falling", "rising"] (defScope s_need_orders) := ⟨rfl, rfl, rfl, by decide +kernel, rfl, by decide +kernel, by decide +kernel⟩
abbrev cs_need_orders_0 : Scope := { kind := .function, names := [(Str.ofString ".0", .local), (Str.ofString "number", .local), (Str.ofString "is_whole", .globalImplicit)], isGenerator := false, isCoroutine := false, more := [] }
theorem bk_need_orders_0 : BlkOk ["falling", "rising", "number"] (defScope s_need_orders) cs_need_orders_0 [("number", 2)] := ⟨rfl, by decide +kernel, by decide +kernel, by decide +kernel, by decide +kernel⟩
theorem sc_places_of : FnScope ["order", "found", "place", "number"] ["order"] (defScope s_places_of) := ⟨rfl, rfl, rfl, by decide +kernel, rfl, by decide +kernel, by decide +kernel⟩
theorem sc_is_four : FnScope ["falling", "rising", "four", "down", "up", "a", "b", "c", "d"] ["falling", "rising", "four"] (defScope s_is_four) := ⟨rfl, rfl, rfl, by decide +kernel, rfl, by decide +kernel, by decide +kernel⟩
theorem sc_bars : FnScope ["falling", "rising", "four", "number"] ["falling", "rising", "four"] (defScope s_bars) := ⟨rfl, rfl, rfl, by decide +kernel, rfl, by decide +kernel, by decide +kernel⟩
abbrev cs_bars_0 : Scope := { kind := .function, names := [(Str.ofString ".0", .local), (Str.ofString "number", .local), (Str.ofString "len", .globalImplicit), (Str.ofString "falling", .free)], isGenerator := false, isCoroutine := false, more := [] }
theorem bk_bars_0 : BlkOk ["falling", "rising", "four", "number"] (defScope s_bars) cs_bars_0 [("number", 3)] := ⟨rfl, by decide +kernel, by decide +kernel, by decide +kernel, by decide +kernel⟩
theorem sc__law_cell_at : FnScope ["script", "k"] ["script", "k"] (defScope s__law_cell_at) := ⟨rfl, rfl, rfl, by decide +kernel, rfl, by decide +kernel, by decide +kernel⟩
theorem sc__law_draws : FnScope ["cell", "many", "base", "found", "rest", "stirred", "k"] ["cell", "many", "base"] (defScope s__law_draws) := ⟨rfl, rfl, rfl, by decide +kernel, rfl, by decide +kernel, by decide +kernel⟩
theorem sc__law_places : FnScope ["order", "found", "place"] ["order"] (defScope s__law_places) := ⟨rfl, rfl, rfl, by decide +kernel, rfl, by decide +kernel, by decide +kernel⟩
theorem sc__law_a_orders : FnScope ["cell", "picks", "many", "orders", "k"] ["cell"] (defScope s__law_a_orders) := ⟨rfl, rfl, rfl, by decide +kernel, rfl, by decide +kernel, by decide +kernel⟩
theorem sc__law_is_four : FnScope ["both", "four", "down", "up", "falls", "rises", "ways", "number", "k"] ["both", "four"] (defScope s__law_is_four) := ⟨rfl, rfl, rfl, by decide +kernel, rfl, by decide +kernel, by decide +kernel⟩
abbrev cs__law_is_four_0 : Scope := { kind := .function, names := [(Str.ofString ".0", .local), (Str.ofString "number", .local), (Str.ofString "len", .globalImplicit), (Str.ofString "both", .free)], isGenerator := false, isCoroutine := false, more := [] }
theorem bk__law_is_four_0 : BlkOk ["both", "four", "down", "up", "falls", "rises", "ways", "number", "k"] (defScope s__law_is_four) cs__law_is_four_0 [("number", 7)] := ⟨rfl, by decide +kernel, by decide +kernel, by decide +kernel, by decide +kernel⟩
abbrev cs__law_is_four_1 : Scope := { kind := .function, names := [(Str.ofString ".0", .local), (Str.ofString "number", .local), (Str.ofString "down", .free)], isGenerator := false, isCoroutine := false, more := [] }
theorem bk__law_is_four_1 : BlkOk ["both", "four", "down", "up", "falls", "rises", "ways", "number", "k"] (defScope s__law_is_four) cs__law_is_four_1 [("number", 7)] := ⟨rfl, by decide +kernel, by decide +kernel, by decide +kernel, by decide +kernel⟩
abbrev cs__law_is_four_2 : Scope := { kind := .function, names := [(Str.ofString ".0", .local), (Str.ofString "number", .local), (Str.ofString "up", .free)], isGenerator := false, isCoroutine := false, more := [] }
theorem bk__law_is_four_2 : BlkOk ["both", "four", "down", "up", "falls", "rises", "ways", "number", "k"] (defScope s__law_is_four) cs__law_is_four_2 [("number", 7)] := ⟨rfl, by decide +kernel, by decide +kernel, by decide +kernel, by decide +kernel⟩
abbrev cs__law_is_four_3 : Scope := { kind := .function, names := [(Str.ofString ".0", .local), (Str.ofString "k", .local), (Str.ofString "falls", .free)], isGenerator := false, isCoroutine := false, more := [] }
theorem bk__law_is_four_3 : BlkOk ["both", "four", "down", "up", "falls", "rises", "ways", "number", "k"] (defScope s__law_is_four) cs__law_is_four_3 [("k", 8)] := ⟨rfl, by decide +kernel, by decide +kernel, by decide +kernel, by decide +kernel⟩
theorem sc__law_some_four : FnScope ["both", "picks", "rising", "k", "at", "a", "d"] ["both", "picks"] (defScope s__law_some_four) := ⟨rfl, rfl, rfl, by decide +kernel, rfl, by decide +kernel, by decide +kernel⟩
abbrev cs__law_some_four_0 : Scope := { kind := .function, names := [(Str.ofString ".0", .local), (Str.ofString "k", .local), (Str.ofString "len", .globalImplicit), (Str.ofString "picks", .free), (Str.ofString "rising", .free)], isGenerator := false, isCoroutine := false, more := [] }
theorem bk__law_some_four_0 : BlkOk ["both", "picks", "rising", "k", "at", "a", "d"] (defScope s__law_some_four) cs__law_some_four_0 [("k", 3)] := ⟨rfl, by decide +kernel, by decide +kernel, by decide +kernel, by decide +kernel⟩
theorem sc_law : FnScope ["script", "cell", "both", "picks", "many", "four", "at", "some", "one", "thing", "found", "k"] ["script"] (defScope s_law) := ⟨rfl, rfl, rfl, by decide +kernel, rfl, by decide +kernel, by decide +kernel⟩
abbrev cs_law_0 : Scope := { kind := .function, names := [(Str.ofString ".0", .local), (Str.ofString "k", .local), (Str.ofString "four", .free)], isGenerator := false, isCoroutine := false, more := [] }
theorem bk_law_0 : BlkOk ["script", "cell", "both", "picks", "many", "four", "at", "some", "one", "thing", "found", "k"] (defScope s_law) cs_law_0 [("k", 11)] := ⟨rfl, by decide +kernel, by decide +kernel, by decide +kernel, by decide +kernel⟩
abbrev cs_law_1 : Scope := { kind := .function, names := [(Str.ofString ".0", .local), (Str.ofString "k", .local), (Str.ofString "four", .free)], isGenerator := false, isCoroutine := false, more := [] }
theorem bk_law_1 : BlkOk ["script", "cell", "both", "picks", "many", "four", "at", "some", "one", "thing", "found", "k"] (defScope s_law) cs_law_1 [("k", 11)] := ⟨rfl, by decide +kernel, by decide +kernel, by decide +kernel, by decide +kernel⟩
structure Txt (K : PySem.W.Frag) (mg : Str → Option Value) (I : Inf) : Prop where
  F_is_whole : Fun K "is_whole" "is_whole" s_is_whole (I.fa 0) (I.fd 0)
  b_is_whole : Binds K (I.fd 0) ["thing"] []
  m_is_whole : mg "is_whole" = some (.ref (I.fa 0))
  k_is_whole : PySem.W.keepIn K (.ref (I.fa 0)) = true
  F_need_orders : Fun K "need_orders" "need_orders" s_need_orders (I.fa 1) (I.fd 1)
  b_need_orders : Binds K (I.fd 1) ["falling", "rising"] []
  m_need_orders : mg "need_orders" = some (.ref (I.fa 1))
  k_need_orders : PySem.W.keepIn K (.ref (I.fa 1)) = true
  F_places_of : Fun K "places_of" "places_of" s_places_of (I.fa 2) (I.fd 2)
  b_places_of : Binds K (I.fd 2) ["order"] []
  m_places_of : mg "places_of" = some (.ref (I.fa 2))
  k_places_of : PySem.W.keepIn K (.ref (I.fa 2)) = true
  F_is_four : Fun K "is_four" "is_four" s_is_four (I.fa 3) (I.fd 3)
  b_is_four : Binds K (I.fd 3) ["falling", "rising", "four"] []
  m_is_four : mg "is_four" = some (.ref (I.fa 3))
  k_is_four : PySem.W.keepIn K (.ref (I.fa 3)) = true
  F_bars : Fun K "bars" "bars" s_bars (I.fa 4) (I.fd 4)
  b_bars : Binds K (I.fd 4) ["falling", "rising", "four"] []
  m_bars : mg "bars" = some (.ref (I.fa 4))
  k_bars : PySem.W.keepIn K (.ref (I.fa 4)) = true
  F__law_cell_at : Fun K "_law_cell_at" "_law_cell_at" s__law_cell_at (I.fa 5) (I.fd 5)
  b__law_cell_at : Binds K (I.fd 5) ["script", "k"] []
  m__law_cell_at : mg "_law_cell_at" = some (.ref (I.fa 5))
  k__law_cell_at : PySem.W.keepIn K (.ref (I.fa 5)) = true
  F__law_draws : Fun K "_law_draws" "_law_draws" s__law_draws (I.fa 6) (I.fd 6)
  b__law_draws : Binds K (I.fd 6) ["cell", "many", "base"] []
  m__law_draws : mg "_law_draws" = some (.ref (I.fa 6))
  k__law_draws : PySem.W.keepIn K (.ref (I.fa 6)) = true
  F__law_places : Fun K "_law_places" "_law_places" s__law_places (I.fa 7) (I.fd 7)
  b__law_places : Binds K (I.fd 7) ["order"] []
  m__law_places : mg "_law_places" = some (.ref (I.fa 7))
  k__law_places : PySem.W.keepIn K (.ref (I.fa 7)) = true
  F__law_a_orders : Fun K "_law_a_orders" "_law_a_orders" s__law_a_orders (I.fa 8) (I.fd 8)
  b__law_a_orders : Binds K (I.fd 8) ["cell"] []
  m__law_a_orders : mg "_law_a_orders" = some (.ref (I.fa 8))
  k__law_a_orders : PySem.W.keepIn K (.ref (I.fa 8)) = true
  F__law_is_four : Fun K "_law_is_four" "_law_is_four" s__law_is_four (I.fa 9) (I.fd 9)
  b__law_is_four : Binds K (I.fd 9) ["both", "four"] []
  m__law_is_four : mg "_law_is_four" = some (.ref (I.fa 9))
  k__law_is_four : PySem.W.keepIn K (.ref (I.fa 9)) = true
  F__law_some_four : Fun K "_law_some_four" "_law_some_four" s__law_some_four (I.fa 10) (I.fd 10)
  b__law_some_four : Binds K (I.fd 10) ["both", "picks"] []
  m__law_some_four : mg "_law_some_four" = some (.ref (I.fa 10))
  k__law_some_four : PySem.W.keepIn K (.ref (I.fa 10)) = true
  F_law : Fun K "law" "law" s_law (I.fa 11) (I.fd 11)
  b_law : Binds K (I.fd 11) ["script"] []
  m_law : mg "law" = some (.ref (I.fa 11))
  k_law : PySem.W.keepIn K (.ref (I.fa 11)) = true
  e_NoOrders : ExcT K mg "NoOrders" (I.ca 1)
  z_all : mg "all" = none
  z_bool : mg "bool" = none
  z_enumerate : mg "enumerate" = none
  z_int : mg "int" = none
  z_isinstance : mg "isinstance" = none
  z_len : mg "len" = none
  z_list : mg "list" = none
  z_range : mg "range" = none
  z_set : mg "set" = none
  z_sorted : mg "sorted" = none
  z_tuple : mg "tuple" = none
  c_MOST_ROOMS : ∃ t, mg "MOST_ROOMS" = some (.int 20 t)
variable {P : Program} {w : World} {K : PySem.W.Frag} {mg : Str → Option Value} {base : Heap} {I : Inf}
/-! ### is_whole: slots 0 thing -/
def f_is_whole : List D → R D := evFn 1
  (evRet (evXk (evAndV (ev1 (vIsi "int") (evV 0)) (evNotV (ev1 (vIsi "bool") (evV 0))))))
theorem ok_is_whole (T : Txt K mg I) : FnOk P w K mg base (L2.CX P w) 1 (I.fa 0) (I.fd 0) ["thing"] (spP ⟨K, I.fa, I.ca⟩ 1 f_is_whole) :=
  fn_ok T.F_is_whole sc_is_whole rfl rfl fun cdv A outer s H E hr tk po => by
    have nd := sc_is_whole.nd
    exact (vss_one (vs_ret mode_k (ve_and (xisi "int" T.z_isinstance T.z_int (by decide +kernel) (xv 0)) (ve_one (ve_not (xisi "bool" T.z_isinstance T.z_bool (by decide +kernel) (xv 0)))))))
/-! ### need_orders: slots 0 falling, 1 rising, 2 number -/
def e_need_orders_0 : En → R D := evCall 1 f_is_whole (evCons (evV 2) (evNil))
def f_need_orders : List D → R D := evFn 3
  (evSeqS (evIfS (evOrT (evNotT (evChT (evC (.int 1)) [(fLe, evF1 vLen (evCons (evV 0) (evNil))), (fLe, evC (.int 20))])) (evNotT (evB (evN vAll (evCons (evLc (evSeq (ev2 vAdd (evV 0) (evV 1))) (.nm 2) [2] (evYes) (e_need_orders_0)) (evNil)))))) (evRaise 1) (evNx))
  (evIfS (evOrT (evB (ev2 (vEq true) (evN vSorted (evCons (evV 0) (evNil))) (ev1 vLR1 (evF1 vLen (evCons (evV 0) (evNil)))))) (evB (ev2 (vEq true) (evN vSorted (evCons (evV 1) (evNil))) (ev1 vLR1 (evF1 vLen (evCons (evV 0) (evNil))))))) (evRaise 1) (evNx)))
theorem ok_need_orders (T : Txt K mg I) : FnOk P w K mg base (L2.CX P w) 2 (I.fa 1) (I.fd 1) ["falling", "rising"] (spP ⟨K, I.fa, I.ca⟩ 2 f_need_orders) :=
  fn_ok T.F_need_orders sc_need_orders rfl rfl fun cdv A outer s H E hr tk po => by
    have nd := sc_need_orders.nd
    exact (vss_cons (vs_if (VW.vt (vw_or (vt_not (tch xi (vch_link op_le' (xlen T.z_len (ac (xv 0) an)) (vch_last op_le' (xgi T.c_MOST_ROOMS))))) (vw_or1 (vt_not (tv (xall rfl T.z_all (ac (xlc rfl nd (vi_seq (xadd (xv 0) (xv 1))) bk_need_orders_0 (fun _ _ _ _ _ => (pn 2 nd)) (fun _ _ _ _ _ => vts_nil) (fun _ _ _ _ _ => (xcall (ok_is_whole T) hr (by decide) T.m_is_whole T.k_is_whole T.b_is_whole takes0 (ac (xv 2) an)))) an))))))) (vss_one (srs (c := 1) rfl tk T.e_NoOrders)) vss_nil)
  (vss_one (vs_if (VW.vt (vw_or (tne hr (xsorted T.z_sorted (ac (xv 0) an)) (xlr1 rfl T.z_list T.z_range (xlen T.z_len (ac (xv 0) an)))) (vw_or1 (tne hr (xsorted T.z_sorted (ac (xv 1) an)) (xlr1 rfl T.z_list T.z_range (xlen T.z_len (ac (xv 0) an))))))) (vss_one (srs (c := 1) rfl tk T.e_NoOrders)) vss_nil)))
/-! ### places_of: slots 0 order, 1 found, 2 place, 3 number -/
def b_places_of_0 : En → O :=
  evStore 1 (evP0) (evV 3) (evXm [2] (evV 2)) mSet
def f_places_of : List D → R D := evFn 4
  (evSeqS (evSet 1 (evXk (ev2 vMul (evLst (evCons (evC (.int 0)) (evNil))) (evF1 vLen (evCons (evV 0) (evNil))))))
  (evSeqS (evFor [0] (evEnum (evCons (evV 0) (evNil))) (.tp [(.nm 2), (.nm 3)]) [2, 3] (b_places_of_0))
  (evRetV 1)))
theorem ok_places_of (T : Txt K mg I) : FnOk P w K mg base (L2.CX P w) 1 (I.fa 2) (I.fd 2) ["order"] (spP ⟨K, I.fa, I.ca⟩ 1 f_places_of) :=
  fn_ok T.F_places_of sc_places_of rfl rfl fun cdv A outer s H E hr tk po => by
    have nd := sc_places_of.nd
    exact (vss_cons (sset mode_k nd (xmul (ve_lst (ac xi an)) (xlen T.z_len (ac (xv 0) an))))
  (vss_cons (sfor po rfl (vi_enum rfl T.z_enumerate (ac (xv 0) an)) (vp_tp rfl (vps_cons (pn 2 nd) (vps_cons (pn 3 nd) vps_nil))) (vss_one (sst mode_m (xv 2) (plv 1) (xv 3))))
  (vss_one (vs_retV (i := 1) rfl (by (first | exact Or.inl rfl | exact Or.inr rfl | exact Or.inr (Or.inl rfl) | exact Or.inr (Or.inr rfl)))))))
/-! ### is_four: slots 0 falling, 1 rising, 2 four, 3 down, 4 up, 5 a, 6 b, 7 c, 8 d -/
def f_is_four : List D → R D := evFn 9
  (evSeqS (evSet 3 (evXm [0] (evCall 1 f_places_of (evCons (evV 0) (evNil)))))
  (evSeqS (evSet 4 (evXm [1] (evCall 1 f_places_of (evCons (evV 1) (evNil)))))
  (evSeqS (evPat (.tp [(.nm 5), (.nm 6), (.nm 7), (.nm 8)]) (evXm [2] (evV 2)))
  (evSeqS (evIfS (evNotT (evAndT (evB (ev2 (vCmp fLt) (ev2 vIx (evV 4) (evV 5)) (ev2 vIx (evV 4) (evV 6)))) (evAndT (evB (ev2 (vEq false) (ev2 vAdd (ev2 vIx (evV 4) (evV 6)) (evC (.int 1))) (ev2 vIx (evV 4) (evV 7)))) (evB (ev2 (vCmp fLt) (ev2 vIx (evV 4) (evV 7)) (ev2 vIx (evV 4) (evV 8))))))) (evRet (evXk (evC (.bl false)))) (evNx))
  (evRet (evXk (evOrV (evChV (ev2 vIx (evV 3) (evV 7)) [(fLt, ev2 vIx (evV 3) (evV 5)), (fLt, ev2 vIx (evV 3) (evV 8)), (fLt, ev2 vIx (evV 3) (evV 6))]) (evChV (ev2 vIx (evV 3) (evV 6)) [(fLt, ev2 vIx (evV 3) (evV 8)), (fLt, ev2 vIx (evV 3) (evV 5)), (fLt, ev2 vIx (evV 3) (evV 7))]))))))))
theorem ok_is_four (T : Txt K mg I) : FnOk P w K mg base (L2.CX P w) 2 (I.fa 3) (I.fd 3) ["falling", "rising", "four"] (spP ⟨K, I.fa, I.ca⟩ 3 f_is_four) :=
  fn_ok T.F_is_four sc_is_four rfl rfl fun cdv A outer s H E hr tk po => by
    have nd := sc_is_four.nd
    exact (vss_cons (sset mode_m nd (xcall (ok_places_of T) hr (by decide) T.m_places_of T.k_places_of T.b_places_of tk (ac (xv 0) an)))
  (vss_cons (sset mode_m nd (xcall (ok_places_of T) hr (by decide) T.m_places_of T.k_places_of T.b_places_of tk (ac (xv 1) an)))
  (vss_cons (spat mode_m (xv 2) (vp_tp rfl (vps_cons (pn 5 nd) (vps_cons (pn 6 nd) (vps_cons (pn 7 nd) (vps_cons (pn 8 nd) vps_nil))))))
  (vss_cons (vs_if (vt_not (VW.vt (vw_and (tlt (xix hr (xv 4) (xv 5)) (xix hr (xv 4) (xv 6))) (vw_and (teq hr (xadd (xix hr (xv 4) (xv 6)) xi) (xix hr (xv 4) (xv 7))) (vw_and1 (tlt (xix hr (xv 4) (xv 7)) (xix hr (xv 4) (xv 8)))))))) (vss_one (vs_ret mode_k xb)) vss_nil)
  (vss_one (vs_ret mode_k (ve_or (xch (xix hr (xv 3) (xv 7)) (vch_link op_lt' (xix hr (xv 3) (xv 5)) (vch_link op_lt' (xix hr (xv 3) (xv 8)) (vch_last op_lt' (xix hr (xv 3) (xv 6)))))) (ve_one (xch (xix hr (xv 3) (xv 6)) (vch_link op_lt' (xix hr (xv 3) (xv 8)) (vch_link op_lt' (xix hr (xv 3) (xv 5)) (vch_last op_lt' (xix hr (xv 3) (xv 7))))))))))))))
/-! ### bars: slots 0 falling, 1 rising, 2 four, 3 number -/
def e_bars_0 : En → R D := evChV (evC (.int 0)) [(fLe, evV 3), (fLt, evF1 vLen (evCons (evV 0) (evNil)))]
def f_bars : List D → R D := evFn 4
  (evSeqS (evEx (evXm [0, 1] (evCall 2 f_need_orders (evCons (evV 0) (evCons (evV 1) (evNil))))))
  (evSeqS (evIfS (evOrT (evB (ev2 (vEq true) (evF1 vLen (evCons (evV 2) (evNil))) (evC (.int 4)))) (evNotT (evB (evN vAll (evCons (evLc (evSeq (evV 2)) (.nm 3) [3] (evYes) (e_bars_0)) (evNil)))))) (evRet (evXk (evC (.bl false)))) (evNx))
  (evRet (evXm [0, 1, 2] (evCall 3 f_is_four (evCons (evV 0) (evCons (evV 1) (evCons (evV 2) (evNil)))))))))
theorem ok_bars (T : Txt K mg I) : FnOk P w K mg base (L2.CX P w) 3 (I.fa 4) (I.fd 4) ["falling", "rising", "four"] (spP ⟨K, I.fa, I.ca⟩ 3 f_bars) :=
  fn_ok T.F_bars sc_bars rfl rfl fun cdv A outer s H E hr tk po => by
    have nd := sc_bars.nd
    exact (vss_cons (vs_expr mode_m (xcall (ok_need_orders T) hr (by decide) T.m_need_orders T.k_need_orders T.b_need_orders tk (ac (xv 0) (ac (xv 1) an))))
  (vss_cons (vs_if (VW.vt (vw_or (tne hr (xlen T.z_len (ac (xv 2) an)) xi) (vw_or1 (vt_not (tv (xall rfl T.z_all (ac (xlc rfl nd (visub (Vs' := [2, 0]) (vi_seq (xv 2)) (by decide)) bk_bars_0 (fun _ _ _ _ _ => (pn 3 nd)) (fun _ _ _ _ _ => vts_nil) (fun _ _ _ _ _ => (xch xi (vch_link op_le' (xv 3) (vch_last op_lt' (xlen T.z_len (ac (xv 0) an))))))) an))))))) (vss_one (vs_ret mode_k xb)) vss_nil)
  (vss_one (vs_ret mode_m (xcall (ok_is_four T) hr (by decide) T.m_is_four T.k_is_four T.b_is_four tk (ac (xv 0) (ac (xv 1) (ac (xv 2) an))))))))
/-! ### _law_cell_at: slots 0 script, 1 k -/
def s__law_cell_at_0 : En → O := evIfS (evB (ev2 (vCmp fLt) (evV 1) (evF1 vLen (evCons (evV 0) (evNil))))) (evRet (evXm [0, 1] (ev2 vIx (evV 0) (evV 1)))) (evNx)
def s__law_cell_at_1 : En → O := evRet (evXk (evC (.int 0)))
def f__law_cell_at : List D → R D := evFn 2
  (evSeqS (s__law_cell_at_0)
  (s__law_cell_at_1))
theorem ok__law_cell_at (T : Txt K mg I) : FnOk P w K mg base (L2.CX P w) 1 (I.fa 5) (I.fd 5) ["script", "k"] (spP ⟨K, I.fa, I.ca⟩ 2 f__law_cell_at) :=
  fn_ok T.F__law_cell_at sc__law_cell_at rfl rfl fun cdv A outer s H E hr tk po => by
    have nd := sc__law_cell_at.nd
    exact (vss_cons (vs_if (tlt (xv 1) (xlen T.z_len (ac (xv 0) an))) (vss_one (vs_ret mode_m (xix hr (xv 0) (xv 1)))) vss_nil)
  (vss_one (vs_ret mode_k xi)))
/-! ### _law_draws: slots 0 cell, 1 many, 2 base, 3 found, 4 rest, 5 stirred, 6 k -/
def b__law_draws_0 : En → O :=
  evSeqS (evSet 5 (evXk (ev2 vMod (ev2 vAdd (ev2 vAdd (ev2 vAdd (ev2 vMul (evV 5) (evV 5)) (ev2 vMul (evC (.int 48271)) (evV 5))) (evV 6)) (evC (.int 1))) (evC (.int 2305843009213693951)))))
  (evIfS (evAndT (evB (ev2 (vCmp fGt) (evV 6) (evC (.int 2)))) (evB (ev2 (vCmp fGt) (evV 4) (evC (.int 0))))) (evSeqS (evMut 3 (evP0) (evAk (evCons (ev2 vMod (evV 4) (evV 2)) (evNil))) mAppend)
  (evSet 4 (evXk (ev2 vFdiv (evV 4) (evV 2))))) (evIfS (evB (ev2 (vCmp fGt) (evV 6) (evC (.int 2)))) (evMut 3 (evP0) (evAk (evCons (ev2 vMod (ev2 vFdiv (evV 5) (evC (.int 4096))) (evV 2)) (evNil))) mAppend) (evNx)))
def f__law_draws : List D → R D := evFn 7
  (evSeqS (evSet 3 (evXk (evLst (evNil))))
  (evSeqS (evSet 4 (evXk (ev2 vMul (evV 0) (evN vInt (evCons (ev2 (vCmp fGe) (evV 0) (ev2 vPow (evC (.int 10)) (evC (.int 18)))) (evNil))))))
  (evSeqS (evSet 5 (evXk (ev2 vMod (evV 0) (evC (.int 2305843009213693951)))))
  (evSeqS (evForR (evRng1 (evCons (ev2 vAdd (evV 1) (evC (.int 3))) (evNil))) (.nm 6) [6] (b__law_draws_0))
  (evRetV 3)))))
theorem ok__law_draws (T : Txt K mg I) : FnOk P w K mg base (L2.CX P w) 1 (I.fa 6) (I.fd 6) ["cell", "many", "base"] (spP ⟨K, I.fa, I.ca⟩ 3 f__law_draws) :=
  fn_ok T.F__law_draws sc__law_draws rfl rfl fun cdv A outer s H E hr tk po => by
    have nd := sc__law_draws.nd
    exact (vss_cons (sset mode_k nd (ve_lst an))
  (vss_cons (sset mode_k nd (xmul (xv 0) (xint T.z_int (ac (xge (xv 0) (xpow xi xi)) an))))
  (vss_cons (sset mode_k nd (xmod (xv 0) xi))
  (vss_cons (sforr1 po rfl T.z_range (ac (xadd (xv 1) xi) an) (pn 6 nd) (vss_cons (sset mode_k nd (xmod (xadd (xadd (xadd (xmul (xv 5) (xv 5)) (xmul xi (xv 5))) (xv 6)) xi) xi))
  (vss_one (vs_if (VW.vt (vw_and (tgt (xv 6) xi) (vw_and1 (tgt (xv 4) xi)))) (vss_cons (sapp modeA_k (plv 3) (ac (xmod (xv 4) (xv 2)) an))
  (vss_one (sset mode_k nd (xfd (xv 4) (xv 2))))) (vss_one (vs_if (tgt (xv 6) xi) (vss_one (sapp modeA_k (plv 3) (ac (xmod (xfd (xv 5) xi) (xv 2)) an))) vss_nil))))))
  (vss_one (vs_retV (i := 3) rfl (by (first | exact Or.inl rfl | exact Or.inr rfl | exact Or.inr (Or.inl rfl) | exact Or.inr (Or.inr rfl)))))))))
/-! ### _law_places: slots 0 order, 1 found, 2 place -/
def b__law_places_0 : En → O :=
  evStore 1 (evP0) (ev2 vIx (evV 0) (evV 2)) (evXm [2] (evV 2)) mSet
def f__law_places : List D → R D := evFn 3
  (evSeqS (evSet 1 (evXk (ev2 vMul (evLst (evCons (evC (.int 0)) (evNil))) (evF1 vLen (evCons (evV 0) (evNil))))))
  (evSeqS (evForR (evRng1 (evCons (evF1 vLen (evCons (evV 0) (evNil))) (evNil))) (.nm 2) [2] (b__law_places_0))
  (evRetV 1)))
theorem ok__law_places (T : Txt K mg I) : FnOk P w K mg base (L2.CX P w) 1 (I.fa 7) (I.fd 7) ["order"] (spP ⟨K, I.fa, I.ca⟩ 1 f__law_places) :=
  fn_ok T.F__law_places sc__law_places rfl rfl fun cdv A outer s H E hr tk po => by
    have nd := sc__law_places.nd
    exact (vss_cons (sset mode_k nd (xmul (ve_lst (ac xi an)) (xlen T.z_len (ac (xv 0) an))))
  (vss_cons (sforr1 po rfl T.z_range (ac (xlen T.z_len (ac (xv 0) an)) an) (pn 2 nd) (vss_one (sst mode_m (xv 2) (plv 1) (xix hr (xv 0) (xv 2)))))
  (vss_one (vs_retV (i := 1) rfl (by (first | exact Or.inl rfl | exact Or.inr rfl | exact Or.inr (Or.inl rfl) | exact Or.inr (Or.inr rfl)))))))
/-! ### _law_a_orders: slots 0 cell, 1 picks, 2 many, 3 orders, 4 k -/
def s__law_a_orders_0 : En → O := evSet 1 (evXm [0] (evCall 3 f__law_draws (evCons (evV 0) (evCons (evC (.int 44)) (evCons (evC (.int 1000)) (evNil))))))
def s__law_a_orders_1 : En → O := evSet 2 (evXk (ev2 vAdd (evC (.int 1)) (ev2 vMod (ev2 vIx (evV 1) (evC (.int 0))) (ev2 vIx (evLst (evCons (evC (.int 20)) (evCons (evC (.int 8)) (evCons (evC (.int 5)) (evNil))))) (ev2 vMod (ev2 vIx (evV 1) (evC (.int 1))) (evC (.int 3)))))))
def s__law_a_orders_2 : En → O := evSet 3 (evXk (evLst (evCons (evLst (evNil)) (evCons (evLst (evNil)) (evNil)))))
def s__law_a_orders_3 : En → O := evMut 3 (evP1 (evP0) (evC (.int 0))) (evAm [1, 4, 4, 4] (evCons (ev2 vMod (ev2 vIx (evV 1) (ev2 vAdd (evC (.int 2)) (evV 4))) (ev2 vAdd (evV 4) (evC (.int 1)))) (evCons (evV 4) (evNil)))) mInsert
def s__law_a_orders_4 : En → O := evMut 3 (evP1 (evP0) (evC (.int 1))) (evAm [1, 4, 4, 4] (evCons (ev2 vMod (ev2 vIx (evV 1) (ev2 vAdd (evC (.int 22)) (evV 4))) (ev2 vAdd (evV 4) (evC (.int 1)))) (evCons (evV 4) (evNil)))) mInsert
def b__law_a_orders_5 : En → O :=
  evSeqS (s__law_a_orders_3)
  (s__law_a_orders_4)
def s__law_a_orders_5 : En → O := evForR (evRng1 (evCons (evV 2) (evNil))) (.nm 4) [4] (b__law_a_orders_5)
def s__law_a_orders_6 : En → O := evRetV 3
def f__law_a_orders : List D → R D := evFn 5
  (evSeqS (s__law_a_orders_0)
  (evSeqS (s__law_a_orders_1)
  (evSeqS (s__law_a_orders_2)
  (evSeqS (s__law_a_orders_5)
  (s__law_a_orders_6)))))
theorem ok__law_a_orders (T : Txt K mg I) : FnOk P w K mg base (L2.CX P w) 2 (I.fa 8) (I.fd 8) ["cell"] (spP ⟨K, I.fa, I.ca⟩ 1 f__law_a_orders) :=
  fn_ok T.F__law_a_orders sc__law_a_orders rfl rfl fun cdv A outer s H E hr tk po => by
    have nd := sc__law_a_orders.nd
    exact (vss_cons (sset mode_m nd (xcall (ok__law_draws T) hr (by decide) T.m__law_draws T.k__law_draws T.b__law_draws tk (ac (xv 0) (ac xi (ac xi an)))))
  (vss_cons (sset mode_k nd (xadd xi (xmod (xix hr (xv 1) xi) (xix hr (ve_lst (ac xi (ac xi (ac xi an)))) (xmod (xix hr (xv 1) xi) xi)))))
  (vss_cons (sset mode_k nd (ve_lst (ac (ve_lst an) (ac (ve_lst an) an))))
  (vss_cons (sforr1 po rfl T.z_range (ac (xv 2) an) (pn 4 nd) (vss_cons (sins modeA_m (plx hr (plv 3) xi) (ac (xmod (xix hr (xv 1) (xadd xi (xv 4))) (xadd (xv 4) xi)) (ac (xv 4) an)))
  (vss_one (sins modeA_m (plx hr (plv 3) xi) (ac (xmod (xix hr (xv 1) (xadd xi (xv 4))) (xadd (xv 4) xi)) (ac (xv 4) an))))))
  (vss_one (vs_retV (i := 3) rfl (by (first | exact Or.inl rfl | exact Or.inr rfl | exact Or.inr (Or.inl rfl) | exact Or.inr (Or.inr rfl)))))))))
/-! ### _law_is_four: slots 0 both, 1 four, 2 down, 3 up, 4 falls, 5 rises, 6 ways, 7 number, 8 k -/
def c__law_is_four_0 : En → R Bool := evNotT (evChT (evC (.int 0)) [(fLe, evV 7), (fLt, evF1 vLen (evCons (ev2 vIx (evV 0) (evC (.int 0))) (evNil)))])
def e__law_is_four_0 : En → R D := evV 7
def s__law_is_four_0 : En → O := evIfS (evOrT (evB (ev2 (vEq true) (evF1 vLen (evCons (evV 1) (evNil))) (evC (.int 4)))) (evB (ev2 (vEq true) (evLc (evSeq (evV 1)) (.nm 7) [7] (c__law_is_four_0) (e__law_is_four_0)) (evLst (evNil))))) (evRet (evXk (evC (.bl false)))) (evNx)
def s__law_is_four_1 : En → O := evPat (.tp [(.nm 2), (.nm 3)]) (evXm [0, 0] (evTup (evCons (evCall 1 f__law_places (evCons (ev2 vIx (evV 0) (evC (.int 0))) (evNil))) (evCons (evCall 1 f__law_places (evCons (ev2 vIx (evV 0) (evC (.int 1))) (evNil))) (evNil)))))
def e__law_is_four_1 : En → R D := ev2 vIx (evV 2) (evV 7)
def s__law_is_four_2 : En → O := evSet 4 (evXm [1, 2] (evLc (evSeq (evV 1)) (.nm 7) [7] (evYes) (e__law_is_four_1)))
def e__law_is_four_2 : En → R D := ev2 vIx (evV 3) (evV 7)
def s__law_is_four_3 : En → O := evSet 5 (evXm [1, 3] (evLc (evSeq (evV 1)) (.nm 7) [7] (evYes) (e__law_is_four_2)))
def s__law_is_four_4 : En → O := evIfS (evOrT (evNotT (evB (ev2 (vCmp fLt) (ev2 vIx (evV 5) (evC (.int 0))) (ev2 vIx (evV 5) (evC (.int 1)))))) (evOrT (evB (ev2 (vEq true) (ev2 vIx (evV 5) (evC (.int 2))) (ev2 vAdd (ev2 vIx (evV 5) (evC (.int 1))) (evC (.int 1))))) (evNotT (evB (ev2 (vCmp fLt) (ev2 vIx (evV 5) (evC (.int 2))) (ev2 vIx (evV 5) (evC (.int 3)))))))) (evRet (evXk (evC (.bl false)))) (evNx)
def e__law_is_four_3 : En → R D := ev2 vIx (evV 4) (evV 8)
def s__law_is_four_5 : En → O := evSet 6 (evXm [4] (evLc (evSeq (evTup (evCons (evC (.int 2)) (evCons (evC (.int 0)) (evCons (evC (.int 3)) (evCons (evC (.int 1)) (evNil))))))) (.nm 8) [8] (evYes) (e__law_is_four_3)))
def s__law_is_four_6 : En → O := evRet (evXk (evAndV (ev2 (vIn false) (evV 6) (evTup (evCons (evN vSorted (evCons (evV 4) (evNil))) (evCons (ev1 vRev (evN vSorted (evCons (evV 4) (evNil)))) (evNil))))) (ev2 (vEq false) (ev1 vLenSet (evV 4)) (evC (.int 4)))))
def f__law_is_four : List D → R D := evFn 9
  (evSeqS (s__law_is_four_0)
  (evSeqS (s__law_is_four_1)
  (evSeqS (s__law_is_four_2)
  (evSeqS (s__law_is_four_3)
  (evSeqS (s__law_is_four_4)
  (evSeqS (s__law_is_four_5)
  (s__law_is_four_6)))))))
theorem ok__law_is_four (T : Txt K mg I) : FnOk P w K mg base (L2.CX P w) 2 (I.fa 9) (I.fd 9) ["both", "four"] (spP ⟨K, I.fa, I.ca⟩ 2 f__law_is_four) :=
  fn_ok T.F__law_is_four sc__law_is_four rfl rfl fun cdv A outer s H E hr tk po => by
    have nd := sc__law_is_four.nd
    exact (vss_cons (vs_if (VW.vt (vw_or (tne hr (xlen T.z_len (ac (xv 1) an)) xi) (vw_or1 (tne hr (xlc rfl nd (visub (Vs' := [1, 0]) (vi_seq (xv 1)) (by decide)) bk__law_is_four_0 (fun _ _ _ _ _ => (pn 7 nd)) (fun _ _ _ _ _ => (vts_one (vt_not (tch xi (vch_link op_le' (xv 7) (vch_last op_lt' (xlen T.z_len (ac (xix hr (xv 0) xi) an)))))))) (fun _ _ _ _ _ => (xv 7))) (ve_lst an))))) (vss_one (vs_ret mode_k xb)) vss_nil)
  (vss_cons (spat mode_m (ve_tup (ac (xcall (ok__law_places T) hr (by decide) T.m__law_places T.k__law_places T.b__law_places tk (ac (xix hr (xv 0) xi) an)) (ac (xcall (ok__law_places T) hr (by decide) T.m__law_places T.k__law_places T.b__law_places tk (ac (xix hr (xv 0) xi) an)) an))) (vp_tp rfl (vps_cons (pn 2 nd) (vps_cons (pn 3 nd) vps_nil))))
  (vss_cons (sset mode_m nd (xlc rfl nd (visub (Vs' := [1, 2]) (vi_seq (xv 1)) (by decide)) bk__law_is_four_1 (fun _ _ _ _ _ => (pn 7 nd)) (fun _ _ _ _ _ => vts_nil) (fun _ _ _ _ _ => (xix hr (xv 2) (xv 7)))))
  (vss_cons (alc mode_m rfl nd (visub (Vs' := [1, 3]) (vi_seq (xv 1)) (by decide)) bk__law_is_four_2 (fun _ _ _ _ _ => (pn 7 nd)) (fun _ _ _ _ _ => vts_nil) (fun _ _ _ _ _ => (xix hr (xv 3) (xv 7))))
  (vss_cons (vs_if (VW.vt (vw_or (vt_not (tlt (xix hr (xv 5) xi) (xix hr (xv 5) xi))) (vw_or (tne hr (xix hr (xv 5) xi) (xadd (xix hr (xv 5) xi) xi)) (vw_or1 (vt_not (tlt (xix hr (xv 5) xi) (xix hr (xv 5) xi))))))) (vss_one (vs_ret mode_k xb)) vss_nil)
  (vss_cons (alc mode_m rfl nd (visub (Vs' := [4]) (vi_seq (ve_tup (ac xi (ac xi (ac xi (ac xi an)))))) (by decide)) bk__law_is_four_3 (fun _ _ _ _ _ => (pn 8 nd)) (fun _ _ _ _ _ => vts_nil) (fun _ _ _ _ _ => (xix hr (xv 4) (xv 8))))
  (vss_one (vs_ret mode_k (ve_and (xin hr (xv 6) (ve_tup (ac (xsorted T.z_sorted (ac (xv 4) an)) (ac (ve_rev (xsorted T.z_sorted (ac (xv 4) an))) an)))) (ve_one (xeq hr (xlenset rfl T.z_len T.z_set (xv 4)) xi)))))))))))
/-! ### _law_some_four: slots 0 both, 1 picks, 2 rising, 3 k, 4 at, 5 a, 6 d -/
def s__law_some_four_0 : En → O := evSet 2 (evXm [0] (ev2 vIx (evV 0) (evC (.int 1))))
def s__law_some_four_1 : En → O := evSet 4 (evXk (ev2 vMod (ev2 vAdd (ev2 vIx (evV 1) (evC (.int 0))) (evV 3)) (ev2 vSub (evF1 vLen (evCons (evV 2) (evNil))) (evC (.int 1)))))
def b__law_some_four_2 : En → O :=
  evIfS (evB (evCall 2 f__law_is_four (evCons (evV 0) (evCons (evLst (evCons (evV 5) (evCons (ev2 vIx (evV 2) (evV 4)) (evCons (ev2 vIx (evV 2) (ev2 vAdd (evV 4) (evC (.int 1)))) (evCons (evV 6) (evNil)))))) (evNil))))) (evRet (evXm [5, 2, 4, 2, 4, 6] (evLst (evCons (evV 5) (evCons (ev2 vIx (evV 2) (evV 4)) (evCons (ev2 vIx (evV 2) (ev2 vAdd (evV 4) (evC (.int 1)))) (evCons (evV 6) (evNil)))))))) (evNx)
def b__law_some_four_3 : En → O :=
  evFor [2, 4] (evSeq (evSl (evV 2) (evSo (ev2 vAdd (evV 4) (evC (.int 2)))) (evNo))) (.nm 6) [6] (b__law_some_four_2)
def s__law_some_four_2 : En → O := evFor [2, 4] (evSeq (evSl (evV 2) (evNo) (evSo (evV 4)))) (.nm 5) [5, 6] (b__law_some_four_3)
def b__law_some_four_5 : En → O :=
  evSeqS (s__law_some_four_1)
  (s__law_some_four_2)
def s__law_some_four_3 : En → O := evForR (evRng1 (evCons (ev2 vSub (evF1 vLen (evCons (evV 2) (evNil))) (evC (.int 1))) (evNil))) (.nm 3) [4, 5, 6] (b__law_some_four_5)
def e__law_some_four_0 : En → R D := ev2 vMod (ev2 vIx (evV 1) (ev2 vAdd (evC (.int 1)) (evV 3))) (evF1 vLen (evCons (evV 2) (evNil)))
def s__law_some_four_4 : En → O := evRet (evXk (evLc (evRng1 (evCons (evC (.int 4)) (evNil))) (.nm 3) [3] (evYes) (e__law_some_four_0)))
def f__law_some_four : List D → R D := evFn 7
  (evSeqS (s__law_some_four_0)
  (evSeqS (s__law_some_four_3)
  (s__law_some_four_4)))
theorem ok__law_some_four (T : Txt K mg I) : FnOk P w K mg base (L2.CX P w) 3 (I.fa 10) (I.fd 10) ["both", "picks"] (spP ⟨K, I.fa, I.ca⟩ 2 f__law_some_four) :=
  fn_ok T.F__law_some_four sc__law_some_four rfl rfl fun cdv A outer s H E hr tk po => by
    have nd := sc__law_some_four.nd
    exact (vss_cons (sset mode_m nd (xix hr (xv 0) xi))
  (vss_cons (sforr1 po rfl T.z_range (ac (xsub (xlen T.z_len (ac (xv 2) an)) xi) an) (pn 3 nd) (vss_cons (sset mode_k nd (xmod (xadd (xix hr (xv 1) xi) (xv 3)) (xsub (xlen T.z_len (ac (xv 2) an)) xi)))
  (vss_one (sfor po rfl (vi_seq (ve_sl (xv 2) vo_none (vo_some (xv 4)))) (pn 5 nd) (vss_one (sfor po rfl (vi_seq (ve_sl (xv 2) (vo_some (xadd (xv 4) xi)) vo_none)) (pn 6 nd) (vss_one (vs_if (tv (xcall (ok__law_is_four T) hr (by decide) T.m__law_is_four T.k__law_is_four T.b__law_is_four tk (ac (xv 0) (ac (ve_lst (ac (xv 5) (ac (xix hr (xv 2) (xv 4)) (ac (xix hr (xv 2) (xadd (xv 4) xi)) (ac (xv 6) an))))) an)))) (vss_one (vs_ret mode_m (ve_lst (ac (xv 5) (ac (xix hr (xv 2) (xv 4)) (ac (xix hr (xv 2) (xadd (xv 4) xi)) (ac (xv 6) an))))))) vss_nil))))))))
  (vss_one (vs_ret mode_k (xlc rfl nd (visub (Vs' := [1, 2]) (vi_range1 rfl T.z_range (ac xi an)) (by decide)) bk__law_some_four_0 (fun _ _ _ _ _ => (pn 3 nd)) (fun _ _ _ _ _ => vts_nil) (fun _ _ _ _ _ => (xmod (xix hr (xv 1) (xadd xi (xv 3))) (xlen T.z_len (ac (xv 2) an)))))))))
/-! ### law: slots 0 script, 1 cell, 2 both, 3 picks, 4 many, 5 four, 6 at, 7 some, 8 one, 9 thing, 10 found, 11 k -/
def s_law_0 : En → O := evSet 2 (evXm [1] (evCall 1 f__law_a_orders (evCons (evV 1) (evNil))))
def s_law_1 : En → O := evSet 3 (evXm [1] (evCall 3 f__law_draws (evCons (ev2 vAdd (evV 1) (evC (.int 1))) (evCons (evC (.int 12)) (evCons (evC (.int 1000)) (evNil))))))
def s_law_2 : En → O := evSet 4 (evXk (evF1 vLen (evCons (ev2 vIx (evV 2) (evC (.int 0))) (evNil))))
def s_law_3 : En → O := evSet 5 (evXm [2, 3] (evCall 2 f__law_some_four (evCons (evV 2) (evCons (evV 3) (evNil)))))
def s_law_4 : En → O := evSet 6 (evXk (ev2 vMod (ev2 vIx (evV 3) (evC (.int 6))) (evC (.int 4))))
def s_law_5 : En → O := evSet 7 (evXm [5, 5, 6, 3, 4, 5, 6, 5, 5, 5, 5] (evLst (evCons (evV 5) (evCons (ev2 vAdd (ev2 vAdd (evSl (evV 5) (evNo) (evSo (evV 6))) (evLst (evCons (ev2 vMod (ev2 vIx (evV 3) (evC (.int 7))) (evV 4)) (evNil)))) (evSl (evV 5) (evSo (ev2 vAdd (evV 6) (evC (.int 1)))) (evNo))) (evCons (ev1 vRev (evV 5)) (evCons (evSl (evV 5) (evNo) (evSo (evC (.int 3)))) (evCons (ev2 vAdd (evV 5) (evSl (evV 5) (evNo) (evSo (evC (.int 1))))) (evNil))))))))
def s_law_6 : En → O := evSet 7 (evXm [7, 5, 6, 4, 3, 5, 6] (ev2 vAdd (evV 7) (evLst (evCons (ev2 vAdd (ev2 vAdd (evSl (evV 5) (evNo) (evSo (evV 6))) (evLst (evCons (ev2 vIx (evLst (evCons (ev1 vNeg (evC (.int 1))) (evCons (evV 4) (evCons (ev2 vPow (evC (.int 10)) (evC (.int 30))) (evNil))))) (ev2 vMod (ev2 vIx (evV 3) (evC (.int 7))) (evC (.int 3)))) (evNil)))) (evSl (evV 5) (evSo (ev2 vAdd (evV 6) (evC (.int 1)))) (evNo))) (evNil)))))
def e_law_0 : En → R D := ev2 vIx (evV 5) (evV 11)
def s_law_7 : En → O := evSet 7 (evXm [7, 5, 6, 5, 5, 6, 5] (ev2 vAdd (evV 7) (evLst (evCons (ev2 vAdd (ev2 vAdd (evSl (evV 5) (evNo) (evSo (evV 6))) (evSl (evV 5) (evNo) (evSo (evC (.int 1))))) (evSl (evV 5) (evSo (ev2 vAdd (evV 6) (evC (.int 1)))) (evNo))) (evCons (evLc (evSeq (evTup (evCons (evC (.int 0)) (evCons (evC (.int 2)) (evCons (evC (.int 1)) (evCons (evC (.int 3)) (evNil))))))) (.nm 11) [11] (evYes) (e_law_0)) (evNil))))))
def e_law_1 : En → R D := ev2 vIx (evV 5) (evV 11)
def s_law_8 : En → O := evMut 7 (evP0) (evAm [5] (evCons (evLc (evSeq (evTup (evCons (evC (.int 3)) (evCons (evC (.int 1)) (evCons (evC (.int 2)) (evCons (evC (.int 0)) (evNil))))))) (.nm 11) [11] (evYes) (e_law_1)) (evNil))) mAppend
def s_law_9 : En → O := evSet 10 (evXm [2, 2, 9] (evCall 3 f_bars (evCons (evN vList (evCons (ev2 vIx (evV 2) (evC (.int 0))) (evNil))) (evCons (evN vList (evCons (ev2 vIx (evV 2) (evC (.int 1))) (evNil))) (evCons (evV 9) (evNil))))))
def s_law_10 : En → O := evIfS (evOrT (evNotT (evB (ev1 (vIsi "bool") (evV 10)))) (evB (ev2 (vEq true) (evV 10) (evCall 2 f__law_is_four (evCons (evV 2) (evCons (evV 8) (evNil))))))) (evRet (evXk (evC (.bl false)))) (evNx)
def b_law_13 : En → O :=
  evSeqS (s_law_9)
  (s_law_10)
def b_law_14 : En → O :=
  evFor [8, 8] (evSeq (evTup (evCons (evV 8) (evCons (evN vTuple (evCons (evV 8) (evNil))) (evNil))))) (.nm 9) [9, 10] (b_law_13)
def s_law_11 : En → O := evFor [7] (evSeq (evV 7)) (.nm 8) [8, 9, 10] (b_law_14)
def b_law_16 : En → O :=
  evSeqS (s_law_0)
  (evSeqS (s_law_1)
  (evSeqS (s_law_2)
  (evSeqS (s_law_3)
  (evSeqS (s_law_4)
  (evSeqS (s_law_5)
  (evSeqS (s_law_6)
  (evSeqS (s_law_7)
  (evSeqS (s_law_8)
  (s_law_11)))))))))
def s_law_12 : En → O := evFor [0, 0] (evSeq (ev2 vAdd (evLst (evCons (evCall 2 f__law_cell_at (evCons (evV 0) (evCons (evC (.int 0)) (evNil)))) (evNil))) (evSl (evV 0) (evSo (evC (.int 1))) (evSo (evC (.int 20)))))) (.nm 1) [1, 2, 3, 4, 5, 6, 7, 8, 9, 10] (b_law_16)
def s_law_13 : En → O := evRet (evXk (evC (.bl true)))
def f_law : List D → R D := evFn 12
  (evSeqS (s_law_12)
  (s_law_13))
theorem ok_law (T : Txt K mg I) : FnOk P w K mg base (L2.CX P w) 4 (I.fa 11) (I.fd 11) ["script"] (spP ⟨K, I.fa, I.ca⟩ 1 f_law) :=
  fn_ok T.F_law sc_law rfl rfl fun cdv A outer s H E hr tk po => by
    have nd := sc_law.nd
    exact (vss_cons (sfor po rfl (vi_seq (xadd (ve_lst (ac (xcall (ok__law_cell_at T) hr (by decide) T.m__law_cell_at T.k__law_cell_at T.b__law_cell_at tk (ac (xv 0) (ac xi an))) an)) (ve_sl (xv 0) (vo_some xi) (vo_some xi)))) (pn 1 nd) (vss_cons (sset mode_m nd (xcall (ok__law_a_orders T) hr (by decide) T.m__law_a_orders T.k__law_a_orders T.b__law_a_orders tk (ac (xv 1) an)))
  (vss_cons (sset mode_m nd (xcall (ok__law_draws T) hr (by decide) T.m__law_draws T.k__law_draws T.b__law_draws tk (ac (xadd (xv 1) xi) (ac xi (ac xi an)))))
  (vss_cons (sset mode_k nd (xlen T.z_len (ac (xix hr (xv 2) xi) an)))
  (vss_cons (sset mode_m nd (xcall (ok__law_some_four T) hr (by decide) T.m__law_some_four T.k__law_some_four T.b__law_some_four tk (ac (xv 2) (ac (xv 3) an))))
  (vss_cons (sset mode_k nd (xmod (xix hr (xv 3) xi) xi))
  (vss_cons (sset mode_m nd (ve_lst (ac (xv 5) (ac (xadd (xadd (ve_sl (xv 5) vo_none (vo_some (xv 6))) (ve_lst (ac (xmod (xix hr (xv 3) xi) (xv 4)) an))) (ve_sl (xv 5) (vo_some (xadd (xv 6) xi)) vo_none)) (ac (ve_rev (xv 5)) (ac (ve_sl (xv 5) vo_none (vo_some xi)) (ac (xadd (xv 5) (ve_sl (xv 5) vo_none (vo_some xi))) an)))))))
  (vss_cons (sset mode_m nd (xadd (xv 7) (ve_lst (ac (xadd (xadd (ve_sl (xv 5) vo_none (vo_some (xv 6))) (ve_lst (ac (xix hr (ve_lst (ac (xneg xi) (ac (xv 4) (ac (xpow xi xi) an)))) (xmod (xix hr (xv 3) xi) xi)) an))) (ve_sl (xv 5) (vo_some (xadd (xv 6) xi)) vo_none)) an))))
  (vss_cons (sset mode_m nd (xadd (xv 7) (ve_lst (ac (xadd (xadd (ve_sl (xv 5) vo_none (vo_some (xv 6))) (ve_sl (xv 5) vo_none (vo_some xi))) (ve_sl (xv 5) (vo_some (xadd (xv 6) xi)) vo_none)) (ac (xlc rfl nd (visub (Vs' := [5]) (vi_seq (ve_tup (ac xi (ac xi (ac xi (ac xi an)))))) (by decide)) bk_law_0 (fun _ _ _ _ _ => (pn 11 nd)) (fun _ _ _ _ _ => vts_nil) (fun _ _ _ _ _ => (xix hr (xv 5) (xv 11)))) an)))))
  (vss_cons (sapp modeA_m (plv 7) (ac (xlc rfl nd (visub (Vs' := [5]) (vi_seq (ve_tup (ac xi (ac xi (ac xi (ac xi an)))))) (by decide)) bk_law_1 (fun _ _ _ _ _ => (pn 11 nd)) (fun _ _ _ _ _ => vts_nil) (fun _ _ _ _ _ => (xix hr (xv 5) (xv 11)))) an))
  (vss_one (sfor po rfl (vi_seq (xv 7)) (pn 8 nd) (vss_one (sfor po rfl (vi_seq (ve_tup (ac (xv 8) (ac (xtuple T.z_tuple (ac (xv 8) an)) an)))) (pn 9 nd) (vss_cons (sset mode_m nd (xcall (ok_bars T) hr (by decide) T.m_bars T.k_bars T.b_bars tk (ac (xlist T.z_list (ac (xix hr (xv 2) xi) an)) (ac (xlist T.z_list (ac (xix hr (xv 2) xi) an)) (ac (xv 9) an)))))
  (vss_one (vs_if (VW.vt (vw_or (vt_not (tv (xisi "bool" T.z_isinstance T.z_bool (by decide +kernel) (xv 10)))) (vw_or1 (tne hr (xv 10) (xcall (ok__law_is_four T) hr (by decide) T.m__law_is_four T.k__law_is_four T.b__law_is_four tk (ac (xv 2) (ac (xv 8) an))))))) (vss_one (vs_ret mode_k xb)) vss_nil)))))))))))))))))
  (vss_one (vs_ret mode_k xb)))
end K07


set_option Elab.async false
set_option linter.all false
set_option maxRecDepth 100000
set_option maxHeartbeats 4000000
namespace K07
open VA L2
theorem draws_ok (c m b : Int) (hm : 0 ≤ m) (hm2 : m < 2 ^ 20) (hb : 0 < b) (hb2 : b < 2 ^ 63) :
    ∃ ps : List Int, f__law_draws [.int c, .int m, .int b] = .ok (.lst .own (ps.map D.int)) ∧ ps.length = m.toNat ∧ ∀ p ∈ ps, 0 ≤ p ∧ p < b := by
  unfold f__law_draws
  have e1 : vPow (.int 10) (.int 18) = .ok (.int 1000000000000000000) := vPow_ii (by decide)
  have e2 : vMul (.int c) (.int (if fGe c 1000000000000000000 = true then 1 else 0)) = .ok (.int (c * (if fGe c 1000000000000000000 = true then 1 else 0))) := vMul_ii (by
    apply okMul_r <;> split <;> decide)
  have e3 : vMod (.int c) (.int 2305843009213693951) = .ok (.int (c % 2305843009213693951)) := vMod_ii (by decide)
  have e4 : rng1A [.int (m + 3)] = .ok (rgL 0 (m + 3).toNat) := rng1A_ok' (by omega)
  simp -implicitDefEqProofs [-List.map_map, evFn_app, startE, evSeqS_app, evNx_app, evIfS_app, evXk_app, evXm_app, evXf_app, evAk_app, evAm_app, evAf_app, evSet_app, evEx_app, evRet_app, evV_app, evRetV_app, evC_app, evNil_app, evCons_app, evTup_app, evLst_app, evB_app, evBl_app, evAndT_app, evOrT_app, evNotT_app, evAndV_app, evOrV_app, evNotV_app, evIfE_app, ev1_app, ev2_app, evN_app, evF1_app, evCall_app, evSl_app, evSo_app, evNo_app, evYes_app, evSeq_app, evRng1_app, evRng2_app, evEnum_app, evPat_app, evRaise_app, evForR_app, evFor_app, evLc_app, evPar_app, evMut_app, evStore_app, evP0_app, evP1_app, evChGo_nil, evChGo_cons, evChT_app, evChV_app, atE_app, slotO_some, putE_app, putS_some, isOwn_own, at_nil, put_nil, at_one, at_0, at_1, put_0, put_1, shr_lst, shr_tup, shr_int, shr_bl, shr_str, shr_non, sh'_own, sh'_sh, sh'_scr, shrs_nil, shrs_cons, shrs_ints, shrs_bls, fz_int, fz_bl, fz_str, fz_non, fz_own, fz_scr, fz_sh, fz_tup, fzs_nil, fzs_cons, fzs_ints, fzs_bls, vAdd_ii, vSub_ii, vCmp_ii, vInt_bl, vLen_lst, vLen_tup, vList_lst, vTuple_lst, vRev_lst, vSl_lst, asInt_int, seqD_lst, seqD_tup, vSorted_ints, vAll_bls, vAny_bls, frz_nil, frz_cons, frz1_d, frz1_n, frz1_s, clr_nil, clr_cons, setD_nil, setD_cons, patD_nm, patD_tup, patD_lst, patDs_nil, patDs_cons, app2_some, okPat_nil, okPat_cons, ite_ok, sizeLine_big, fzs_repi, vIx_0, vIx_1, vIx_2, vIx_3, vIx_4, shrs_rep, shrs_rev, shrs_app, fzs_app, ifok_and, ifok_or, ifokP_and, ifokP_or, ifokD_and, ifokD_or, ifokDP_and, ifokDP_or, e1, e2, e3, e4]
  generalize hr : c * (if fGe c 1000000000000000000 = true then 1 else 0) = rest
  have hr0 : 0 ≤ rest := by
    rw [← hr]
    split
    · rename_i h
      have : (1000000000000000000 : Int) ≤ c := by simpa [fGe] using h
      omega
    · omega
  have key := forGo_n (p := .nm 6) (cl := [6]) (body := b__law_draws_0)
    (fun i env => ∃ (ps : List Int) (rest st : Int), env = [some (.int c), some (.int m), some (.int b), some (.lst .own (ps.map D.int)), some (.int rest), some (.int st), none] ∧ ps.length = i - 3 ∧ (∀ p ∈ ps, 0 ≤ p ∧ p < b) ∧ 0 ≤ rest ∧ 0 ≤ st ∧ st < 2305843009213693951)
    (ds := rgL 0 (m + 3).toNat) (env := [some (.int c), some (.int m), some (.int b), some (.lst .own []), some (.int rest), some (.int (c % 2305843009213693951)), none])
    ⟨[], rest, c % 2305843009213693951, rfl, rfl, by simp, hr0, by omega, by omega⟩ (by
    rintro i d env hd ⟨ps, rest, st, rfl, hl, hp, h0, h1, h2⟩
    obtain ⟨hi, rfl⟩ := rgL_get hd
    have f1 : vMul (.int st) (.int st) = .ok (.int (st * st)) := vMul_ii (okMul_r (by omega) (by omega))
    have f2 : vMul (.int 48271) (.int st) = .ok (.int (48271 * st)) := vMul_ii (okMul_r (by omega) (by omega))
    have f3 : ∀ x : Int, vMod (.int x) (.int 2305843009213693951) = .ok (.int (x % 2305843009213693951)) := fun x => vMod_ii (by decide)
    have f4 : ∀ x : Int, vMod (.int x) (.int b) = .ok (.int (x % b)) := fun x => vMod_ii hb
    have f5 : vFdiv (.int rest) (.int b) = .ok (.int (rest / b)) := vFdiv_ii hb (by omega)
    have f6 : ∀ x : Int, vFdiv (.int x) (.int 4096) = .ok (.int (x / 4096)) := fun x => vFdiv_ii (by decide) (by decide)
    have f7 : ∀ x : Int, mAppend (.lst .own (ps.map D.int)) [.int x] = some (.lst .own ((ps ++ [x]).map D.int)) := fun d => by
      rw [← map_snoc]
      exact mAppend_ok (by rw [List.length_map, PySem.sizeLine_eq]; omega)
    have md : ∀ x : Int, 0 ≤ x % b ∧ x % b < b := fun x => ⟨Int.emod_nonneg _ (by omega), Int.emod_lt_of_pos _ hb⟩
    have hs0 : 0 ≤ (st * st + 48271 * st + ((i : Nat) : Int) + 1) % 2305843009213693951 ∧ (st * st + 48271 * st + ((i : Nat) : Int) + 1) % 2305843009213693951 < 2305843009213693951 := by omega
    by_cases c1 : 2 < (i : Int)
    · have g1 := fGt_t c1
      by_cases c2 : 0 < rest
      · have g2 := fGt_t c2
        refine ⟨_, _, rfl, rfl, by unfold b__law_draws_0; simp -implicitDefEqProofs [-List.map_map, evFn_app, startE, evSeqS_app, evNx_app, evIfS_app, evXk_app, evXm_app, evXf_app, evAk_app, evAm_app, evAf_app, evSet_app, evEx_app, evRet_app, evV_app, evRetV_app, evC_app, evNil_app, evCons_app, evTup_app, evLst_app, evB_app, evBl_app, evAndT_app, evOrT_app, evNotT_app, evAndV_app, evOrV_app, evNotV_app, evIfE_app, ev1_app, ev2_app, evN_app, evF1_app, evCall_app, evSl_app, evSo_app, evNo_app, evYes_app, evSeq_app, evRng1_app, evRng2_app, evEnum_app, evPat_app, evRaise_app, evForR_app, evFor_app, evLc_app, evPar_app, evMut_app, evStore_app, evP0_app, evP1_app, evChGo_nil, evChGo_cons, evChT_app, evChV_app, atE_app, slotO_some, putE_app, putS_some, isOwn_own, at_nil, put_nil, at_one, at_0, at_1, put_0, put_1, shr_lst, shr_tup, shr_int, shr_bl, shr_str, shr_non, sh'_own, sh'_sh, sh'_scr, shrs_nil, shrs_cons, shrs_ints, shrs_bls, fz_int, fz_bl, fz_str, fz_non, fz_own, fz_scr, fz_sh, fz_tup, fzs_nil, fzs_cons, fzs_ints, fzs_bls, vAdd_ii, vSub_ii, vCmp_ii, vInt_bl, vLen_lst, vLen_tup, vList_lst, vTuple_lst, vRev_lst, vSl_lst, asInt_int, seqD_lst, seqD_tup, vSorted_ints, vAll_bls, vAny_bls, frz_nil, frz_cons, frz1_d, frz1_n, frz1_s, clr_nil, clr_cons, setD_nil, setD_cons, patD_nm, patD_tup, patD_lst, patDs_nil, patDs_cons, app2_some, okPat_nil, okPat_cons, ite_ok, sizeLine_big, fzs_repi, vIx_0, vIx_1, vIx_2, vIx_3, vIx_4, shrs_rep, shrs_rev, shrs_app, fzs_app, ifok_and, ifok_or, ifokP_and, ifokP_or, ifokD_and, ifokD_or, ifokDP_and, ifokDP_or, f1, f2, f3, f4, f5, f6, f7, g1, g2]; rfl, ps ++ [rest % b], rest / b, _, by simp [clr], ?_, ?_, ?_, hs0.1, hs0.2⟩
        · rw [List.length_append, List.length_singleton, hl]; omega
        · intro p hpp
          rcases List.mem_append.mp hpp with z | z
          · exact hp p z
          · rw [List.mem_singleton.mp z]; exact md _
        · exact Int.ediv_nonneg h0 (by omega)
      · have g2 := fGt_f c2
        refine ⟨_, _, rfl, rfl, by unfold b__law_draws_0; simp -implicitDefEqProofs [-List.map_map, evFn_app, startE, evSeqS_app, evNx_app, evIfS_app, evXk_app, evXm_app, evXf_app, evAk_app, evAm_app, evAf_app, evSet_app, evEx_app, evRet_app, evV_app, evRetV_app, evC_app, evNil_app, evCons_app, evTup_app, evLst_app, evB_app, evBl_app, evAndT_app, evOrT_app, evNotT_app, evAndV_app, evOrV_app, evNotV_app, evIfE_app, ev1_app, ev2_app, evN_app, evF1_app, evCall_app, evSl_app, evSo_app, evNo_app, evYes_app, evSeq_app, evRng1_app, evRng2_app, evEnum_app, evPat_app, evRaise_app, evForR_app, evFor_app, evLc_app, evPar_app, evMut_app, evStore_app, evP0_app, evP1_app, evChGo_nil, evChGo_cons, evChT_app, evChV_app, atE_app, slotO_some, putE_app, putS_some, isOwn_own, at_nil, put_nil, at_one, at_0, at_1, put_0, put_1, shr_lst, shr_tup, shr_int, shr_bl, shr_str, shr_non, sh'_own, sh'_sh, sh'_scr, shrs_nil, shrs_cons, shrs_ints, shrs_bls, fz_int, fz_bl, fz_str, fz_non, fz_own, fz_scr, fz_sh, fz_tup, fzs_nil, fzs_cons, fzs_ints, fzs_bls, vAdd_ii, vSub_ii, vCmp_ii, vInt_bl, vLen_lst, vLen_tup, vList_lst, vTuple_lst, vRev_lst, vSl_lst, asInt_int, seqD_lst, seqD_tup, vSorted_ints, vAll_bls, vAny_bls, frz_nil, frz_cons, frz1_d, frz1_n, frz1_s, clr_nil, clr_cons, setD_nil, setD_cons, patD_nm, patD_tup, patD_lst, patDs_nil, patDs_cons, app2_some, okPat_nil, okPat_cons, ite_ok, sizeLine_big, fzs_repi, vIx_0, vIx_1, vIx_2, vIx_3, vIx_4, shrs_rep, shrs_rev, shrs_app, fzs_app, ifok_and, ifok_or, ifokP_and, ifokP_or, ifokD_and, ifokD_or, ifokDP_and, ifokDP_or, f1, f2, f3, f4, f5, f6, f7, g1, g2]; rfl, ps ++ [((st * st + 48271 * st + ((i : Nat) : Int) + 1) % 2305843009213693951) / 4096 % b], rest, _, by simp [clr], ?_, ?_, h0, hs0.1, hs0.2⟩
        · rw [List.length_append, List.length_singleton, hl]; omega
        · intro p hpp
          rcases List.mem_append.mp hpp with z | z
          · exact hp p z
          · rw [List.mem_singleton.mp z]; exact md _
    · have g1 := fGt_f c1
      refine ⟨_, _, rfl, rfl, by unfold b__law_draws_0; simp -implicitDefEqProofs [-List.map_map, evFn_app, startE, evSeqS_app, evNx_app, evIfS_app, evXk_app, evXm_app, evXf_app, evAk_app, evAm_app, evAf_app, evSet_app, evEx_app, evRet_app, evV_app, evRetV_app, evC_app, evNil_app, evCons_app, evTup_app, evLst_app, evB_app, evBl_app, evAndT_app, evOrT_app, evNotT_app, evAndV_app, evOrV_app, evNotV_app, evIfE_app, ev1_app, ev2_app, evN_app, evF1_app, evCall_app, evSl_app, evSo_app, evNo_app, evYes_app, evSeq_app, evRng1_app, evRng2_app, evEnum_app, evPat_app, evRaise_app, evForR_app, evFor_app, evLc_app, evPar_app, evMut_app, evStore_app, evP0_app, evP1_app, evChGo_nil, evChGo_cons, evChT_app, evChV_app, atE_app, slotO_some, putE_app, putS_some, isOwn_own, at_nil, put_nil, at_one, at_0, at_1, put_0, put_1, shr_lst, shr_tup, shr_int, shr_bl, shr_str, shr_non, sh'_own, sh'_sh, sh'_scr, shrs_nil, shrs_cons, shrs_ints, shrs_bls, fz_int, fz_bl, fz_str, fz_non, fz_own, fz_scr, fz_sh, fz_tup, fzs_nil, fzs_cons, fzs_ints, fzs_bls, vAdd_ii, vSub_ii, vCmp_ii, vInt_bl, vLen_lst, vLen_tup, vList_lst, vTuple_lst, vRev_lst, vSl_lst, asInt_int, seqD_lst, seqD_tup, vSorted_ints, vAll_bls, vAny_bls, frz_nil, frz_cons, frz1_d, frz1_n, frz1_s, clr_nil, clr_cons, setD_nil, setD_cons, patD_nm, patD_tup, patD_lst, patDs_nil, patDs_cons, app2_some, okPat_nil, okPat_cons, ite_ok, sizeLine_big, fzs_repi, vIx_0, vIx_1, vIx_2, vIx_3, vIx_4, shrs_rep, shrs_rev, shrs_app, fzs_app, ifok_and, ifok_or, ifokP_and, ifokP_or, ifokD_and, ifokD_or, ifokDP_and, ifokDP_or, f1, f2, f3, f4, f5, f6, f7, g1]; rfl, ps, rest, _, rfl, ?_, hp, h0, hs0.1, hs0.2⟩
      rw [hl]; omega)
  obtain ⟨env', q1, ps, r2, st, rfl, hl, hp, _⟩ := key
  refine ⟨ps, ?_, ?_, hp⟩
  · rw [q1]
    simp -implicitDefEqProofs [-List.map_map, evFn_app, startE, evSeqS_app, evNx_app, evIfS_app, evXk_app, evXm_app, evXf_app, evAk_app, evAm_app, evAf_app, evSet_app, evEx_app, evRet_app, evV_app, evRetV_app, evC_app, evNil_app, evCons_app, evTup_app, evLst_app, evB_app, evBl_app, evAndT_app, evOrT_app, evNotT_app, evAndV_app, evOrV_app, evNotV_app, evIfE_app, ev1_app, ev2_app, evN_app, evF1_app, evCall_app, evSl_app, evSo_app, evNo_app, evYes_app, evSeq_app, evRng1_app, evRng2_app, evEnum_app, evPat_app, evRaise_app, evForR_app, evFor_app, evLc_app, evPar_app, evMut_app, evStore_app, evP0_app, evP1_app, evChGo_nil, evChGo_cons, evChT_app, evChV_app, atE_app, slotO_some, putE_app, putS_some, isOwn_own, at_nil, put_nil, at_one, at_0, at_1, put_0, put_1, shr_lst, shr_tup, shr_int, shr_bl, shr_str, shr_non, sh'_own, sh'_sh, sh'_scr, shrs_nil, shrs_cons, shrs_ints, shrs_bls, fz_int, fz_bl, fz_str, fz_non, fz_own, fz_scr, fz_sh, fz_tup, fzs_nil, fzs_cons, fzs_ints, fzs_bls, vAdd_ii, vSub_ii, vCmp_ii, vInt_bl, vLen_lst, vLen_tup, vList_lst, vTuple_lst, vRev_lst, vSl_lst, asInt_int, seqD_lst, seqD_tup, vSorted_ints, vAll_bls, vAny_bls, frz_nil, frz_cons, frz1_d, frz1_n, frz1_s, clr_nil, clr_cons, setD_nil, setD_cons, patD_nm, patD_tup, patD_lst, patDs_nil, patDs_cons, app2_some, okPat_nil, okPat_cons, ite_ok, sizeLine_big, fzs_repi, vIx_0, vIx_1, vIx_2, vIx_3, vIx_4, shrs_rep, shrs_rev, shrs_app, fzs_app, ifok_and, ifok_or, ifokP_and, ifokP_or, ifokD_and, ifokD_or, ifokDP_and, ifokDP_or]
  · rw [hl, rgL_len]; omega

/-! ### orders, places -/
def iota (n : Nat) : List Int := (List.range n).map Int.ofNat
def IsOrd (ns : List Int) : Prop := ns.Perm (iota ns.length)
theorem iota_mem {n : Nat} {x : Int} : x ∈ iota n ↔ 0 ≤ x ∧ x < n := by
  unfold iota
  rw [List.mem_map]
  constructor
  · rintro ⟨i, h, rfl⟩
    have := List.mem_range.mp h
    exact ⟨Int.natCast_nonneg i, by show (i : Int) < n; omega⟩
  · rintro ⟨h0, h1⟩
    exact ⟨x.toNat, List.mem_range.mpr (by omega), by show ((x.toNat : Nat) : Int) = x; omega⟩
theorem iota_nodup (n : Nat) : (iota n).Nodup := by
  unfold iota
  exact List.pairwise_map.mpr (List.nodup_range.imp fun h e => h (Int.ofNat.inj e))
theorem IsOrd.mem {ns : List Int} (h : IsOrd ns) {x : Int} : x ∈ ns ↔ 0 ≤ x ∧ x < ns.length := (h.mem_iff).trans iota_mem
theorem IsOrd.nodup {ns : List Int} (h : IsOrd ns) : ns.Nodup := h.nodup_iff.mpr (iota_nodup _)
def plcN (ns : List Int) : Nat → List Int
  | 0 => List.replicate ns.length 0
  | i + 1 => (plcN ns i).set (ns.getD i 0).toNat (i : Int)
def plc (ns : List Int) : List Int := plcN ns ns.length
theorem plcN_len (ns : List Int) : ∀ i, (plcN ns i).length = ns.length
  | 0 => by rw [plcN, List.length_replicate]
  | i + 1 => by rw [plcN, List.length_set, plcN_len ns i]
theorem plc_len (ns : List Int) : (plc ns).length = ns.length := plcN_len ns _
theorem plcN_at {ns : List Int} (h : IsOrd ns) : ∀ (i : Nat), i ≤ ns.length → ∀ (j : Nat) (x : Int), j < i → ns[j]? = some x → (plcN ns i)[x.toNat]? = some (j : Int)
  | 0, _, j, x, hj, _ => absurd hj (Nat.not_lt_zero _)
  | i + 1, hi, j, x, hj, hx => by
    have hxm := h.mem.mp (List.mem_of_getElem? hx)
    rw [plcN]
    have hgi : ns[i]? = some (ns.getD i 0) := by
      rw [List.getD_eq_getElem?_getD, List.getElem?_eq_getElem (by omega)]
      rfl
    have hym := h.mem.mp (List.mem_of_getElem? hgi)
    by_cases e : j = i
    · subst e
      have e3 : x = ns.getD j 0 := Option.some.inj (hx.symm.trans hgi)
      rw [← e3]
      rw [List.getElem?_set_self (by rw [plcN_len]; omega)]
    · have hne : (ns.getD i 0).toNat ≠ x.toNat := fun z => by
        have z2 : ns.getD i 0 = x := by omega
        rw [z2] at hgi
        exact e ((List.getElem?_inj (by omega : j < ns.length) h.nodup).mp (hx.trans hgi.symm))
      rw [List.getElem?_set_ne hne]
      exact plcN_at h i (by omega) j x (by omega) hx
theorem plc_at {ns : List Int} (h : IsOrd ns) {x : Int} (hx : 0 ≤ x ∧ x < ns.length) : ∃ j : Nat, j < ns.length ∧ (plc ns)[x.toNat]? = some (j : Int) ∧ ns[j]? = some x := by
  obtain ⟨j, hj, e⟩ := List.mem_iff_getElem.mp (h.mem.mpr hx)
  have e2 : ns[j]? = some x := by rw [List.getElem?_eq_getElem hj, e]
  exact ⟨j, hj, plcN_at h _ (Nat.le_refl _) j x hj e2, e2⟩
/-- a room's place -/
def pl (ns : List Int) (x : Int) : Int := (plc ns).getD x.toNat 0
theorem pl_get {ns : List Int} {x : Int} (hx : 0 ≤ x ∧ x < ns.length) : atI (plc ns) x = some (pl ns x) := by
  rw [atI_pos hx.1 (by rw [plc_len]; exact hx.2)]
  unfold pl
  rw [List.getD_eq_getElem?_getD, List.getElem?_eq_getElem (by rw [plc_len]; omega)]
  rfl
theorem pl_inj {ns : List Int} (h : IsOrd ns) {x y : Int} (hx : 0 ≤ x ∧ x < ns.length) (hy : 0 ≤ y ∧ y < ns.length) (e : pl ns x = pl ns y) : x = y := by
  obtain ⟨j, _, h1, h2⟩ := plc_at h hx
  obtain ⟨k, _, h3, h4⟩ := plc_at h hy
  unfold pl at e
  rw [List.getD_eq_getElem?_getD, List.getD_eq_getElem?_getD, h1, h3] at e
  have e : (j : Int) = k := e
  have : j = k := by omega
  subst this
  rw [h2] at h4
  exact Option.some.inj h4
theorem enD_at {k : Nat} {xs : List D} {i : Nat} {d : D} (h : (enD k xs)[i]? = some d) : ∃ x, xs[i]? = some x ∧ d = .tup [.int ((k + i : Nat) : Int), x] := by
  have hl : i < xs.length := by
    have := (List.getElem?_eq_some_iff.mp h).1
    rwa [enD_len] at this
  refine ⟨xs[i], List.getElem?_eq_getElem hl, ?_⟩
  have := enD_get k xs i xs[i] (List.getElem?_eq_getElem hl)
  rw [h] at this
  exact Option.some.inj this
theorem places_ok {o : Fl} {ns : List Int} (h : IsOrd ns) (hn : ns.length ≤ 20) : f_places_of [.lst o (ns.map D.int)] = .ok (.lst .own ((plc ns).map D.int)) := by
  unfold f_places_of
  have e1 := vMul_rep ns.length (.int 0) (by omega)
  have e2 : enA [.lst o.sh'.sh' (ns.map D.int)] = .ok (enD 0 (ns.map D.int)) := by show R.ok (enD 0 (shrs (ns.map D.int))) = _; rw [shrs_ints]
  rw [Fl.sh_sh] at e2
  simp -implicitDefEqProofs [-List.map_map, evFn_app, startE, evSeqS_app, evNx_app, evIfS_app, evXk_app, evXm_app, evXf_app, evAk_app, evAm_app, evAf_app, evSet_app, evEx_app, evRet_app, evV_app, evRetV_app, evC_app, evNil_app, evCons_app, evTup_app, evLst_app, evB_app, evBl_app, evAndT_app, evOrT_app, evNotT_app, evAndV_app, evOrV_app, evNotV_app, evIfE_app, ev1_app, ev2_app, evN_app, evF1_app, evCall_app, evSl_app, evSo_app, evNo_app, evYes_app, evSeq_app, evRng1_app, evRng2_app, evEnum_app, evPat_app, evRaise_app, evForR_app, evFor_app, evLc_app, evPar_app, evMut_app, evStore_app, evP0_app, evP1_app, evChGo_nil, evChGo_cons, evChT_app, evChV_app, atE_app, slotO_some, putE_app, putS_some, isOwn_own, at_nil, put_nil, at_one, at_0, at_1, put_0, put_1, shr_lst, shr_tup, shr_int, shr_bl, shr_str, shr_non, sh'_own, sh'_sh, sh'_scr, shrs_nil, shrs_cons, shrs_ints, shrs_bls, fz_int, fz_bl, fz_str, fz_non, fz_own, fz_scr, fz_sh, fz_tup, fzs_nil, fzs_cons, fzs_ints, fzs_bls, vAdd_ii, vSub_ii, vCmp_ii, vInt_bl, vLen_lst, vLen_tup, vList_lst, vTuple_lst, vRev_lst, vSl_lst, asInt_int, seqD_lst, seqD_tup, vSorted_ints, vAll_bls, vAny_bls, frz_nil, frz_cons, frz1_d, frz1_n, frz1_s, clr_nil, clr_cons, setD_nil, setD_cons, patD_nm, patD_tup, patD_lst, patDs_nil, patDs_cons, app2_some, okPat_nil, okPat_cons, ite_ok, sizeLine_big, fzs_repi, vIx_0, vIx_1, vIx_2, vIx_3, vIx_4, shrs_rep, shrs_rev, shrs_app, fzs_app, ifok_and, ifok_or, ifokP_and, ifokP_or, ifokD_and, ifokD_or, ifokDP_and, ifokDP_or, e1, e2, Fl.sh_sh]
  have key := forGo_n (p := .tp [.nm 2, .nm 3]) (cl := [2, 3]) (body := b_places_of_0)
    (fun i env => i ≤ ns.length ∧ env = [some (.lst o.sh' (ns.map D.int)), some (.lst .own ((plcN ns i).map D.int)), none, none])
    (ds := enD 0 (ns.map D.int)) (env := [some (.lst o.sh' (ns.map D.int)), some (.lst .own (List.replicate ns.length (D.int 0))), none, none])
    ⟨Nat.zero_le _, by rw [plcN, List.map_replicate]⟩ (by
    rintro i d env hd ⟨hi, rfl⟩
    obtain ⟨x, hx, rfl⟩ := enD_at hd
    rw [List.getElem?_map] at hx
    obtain ⟨z, hz, rfl⟩ := Option.map_eq_some_iff.mp hx
    have hzm := h.mem.mp (List.mem_of_getElem? hz)
    have hil := (List.getElem?_eq_some_iff.mp hz).1
    have f1 : ∀ d : D, mSet (.lst .own ((plcN ns i).map D.int)) [.int z, d] = some (.lst .own (((plcN ns i).map D.int).set z.toNat d)) := fun d => mSet_ok hzm.1 (by rw [List.length_map, plcN_len]; exact hzm.2)
    refine ⟨_, _, rfl, rfl, by unfold b_places_of_0; simp -implicitDefEqProofs [-List.map_map, evFn_app, startE, evSeqS_app, evNx_app, evIfS_app, evXk_app, evXm_app, evXf_app, evAk_app, evAm_app, evAf_app, evSet_app, evEx_app, evRet_app, evV_app, evRetV_app, evC_app, evNil_app, evCons_app, evTup_app, evLst_app, evB_app, evBl_app, evAndT_app, evOrT_app, evNotT_app, evAndV_app, evOrV_app, evNotV_app, evIfE_app, ev1_app, ev2_app, evN_app, evF1_app, evCall_app, evSl_app, evSo_app, evNo_app, evYes_app, evSeq_app, evRng1_app, evRng2_app, evEnum_app, evPat_app, evRaise_app, evForR_app, evFor_app, evLc_app, evPar_app, evMut_app, evStore_app, evP0_app, evP1_app, evChGo_nil, evChGo_cons, evChT_app, evChV_app, atE_app, slotO_some, putE_app, putS_some, isOwn_own, at_nil, put_nil, at_one, at_0, at_1, put_0, put_1, shr_lst, shr_tup, shr_int, shr_bl, shr_str, shr_non, sh'_own, sh'_sh, sh'_scr, shrs_nil, shrs_cons, shrs_ints, shrs_bls, fz_int, fz_bl, fz_str, fz_non, fz_own, fz_scr, fz_sh, fz_tup, fzs_nil, fzs_cons, fzs_ints, fzs_bls, vAdd_ii, vSub_ii, vCmp_ii, vInt_bl, vLen_lst, vLen_tup, vList_lst, vTuple_lst, vRev_lst, vSl_lst, asInt_int, seqD_lst, seqD_tup, vSorted_ints, vAll_bls, vAny_bls, frz_nil, frz_cons, frz1_d, frz1_n, frz1_s, clr_nil, clr_cons, setD_nil, setD_cons, patD_nm, patD_tup, patD_lst, patDs_nil, patDs_cons, app2_some, okPat_nil, okPat_cons, ite_ok, sizeLine_big, fzs_repi, vIx_0, vIx_1, vIx_2, vIx_3, vIx_4, shrs_rep, shrs_rev, shrs_app, fzs_app, ifok_and, ifok_or, ifokP_and, ifokP_or, ifokD_and, ifokD_or, ifokDP_and, ifokDP_or, f1]; rfl, hil, ?_⟩
    simp [clr, plcN, hz, List.map_set])
  obtain ⟨env', q1, q2, rfl⟩ := key
  rw [enD_len, List.length_map] at q1
  simp only [q1]
  simp -implicitDefEqProofs [-List.map_map, evFn_app, startE, evSeqS_app, evNx_app, evIfS_app, evXk_app, evXm_app, evXf_app, evAk_app, evAm_app, evAf_app, evSet_app, evEx_app, evRet_app, evV_app, evRetV_app, evC_app, evNil_app, evCons_app, evTup_app, evLst_app, evB_app, evBl_app, evAndT_app, evOrT_app, evNotT_app, evAndV_app, evOrV_app, evNotV_app, evIfE_app, ev1_app, ev2_app, evN_app, evF1_app, evCall_app, evSl_app, evSo_app, evNo_app, evYes_app, evSeq_app, evRng1_app, evRng2_app, evEnum_app, evPat_app, evRaise_app, evForR_app, evFor_app, evLc_app, evPar_app, evMut_app, evStore_app, evP0_app, evP1_app, evChGo_nil, evChGo_cons, evChT_app, evChV_app, atE_app, slotO_some, putE_app, putS_some, isOwn_own, at_nil, put_nil, at_one, at_0, at_1, put_0, put_1, shr_lst, shr_tup, shr_int, shr_bl, shr_str, shr_non, sh'_own, sh'_sh, sh'_scr, shrs_nil, shrs_cons, shrs_ints, shrs_bls, fz_int, fz_bl, fz_str, fz_non, fz_own, fz_scr, fz_sh, fz_tup, fzs_nil, fzs_cons, fzs_ints, fzs_bls, vAdd_ii, vSub_ii, vCmp_ii, vInt_bl, vLen_lst, vLen_tup, vList_lst, vTuple_lst, vRev_lst, vSl_lst, asInt_int, seqD_lst, seqD_tup, vSorted_ints, vAll_bls, vAny_bls, frz_nil, frz_cons, frz1_d, frz1_n, frz1_s, clr_nil, clr_cons, setD_nil, setD_cons, patD_nm, patD_tup, patD_lst, patDs_nil, patDs_cons, app2_some, okPat_nil, okPat_cons, ite_ok, sizeLine_big, fzs_repi, vIx_0, vIx_1, vIx_2, vIx_3, vIx_4, shrs_rep, shrs_rev, shrs_app, fzs_app, ifok_and, ifok_or, ifokP_and, ifokP_or, ifokD_and, ifokD_or, ifokDP_and, ifokDP_or]
  rfl
theorem lplaces_ok {o : Fl} {ns : List Int} (h : IsOrd ns) (hn : ns.length ≤ 20) : f__law_places [.lst o (ns.map D.int)] = .ok (.lst .own ((plc ns).map D.int)) := by
  unfold f__law_places
  have e1 := vMul_rep ns.length (.int 0) (by omega)
  have e2 : rng1A [.int (ns.length : Nat)] = .ok (rgL 0 ns.length) := by
    rw [rng1A_ok' (by omega), Int.toNat_natCast]
  have key := forGo_n (p := .nm 2) (cl := [2]) (body := b__law_places_0)
    (fun i env => i ≤ ns.length ∧ env = [some (.lst o (ns.map D.int)), some (.lst .own ((plcN ns i).map D.int)), none])
    (ds := rgL 0 ns.length) (env := [some (.lst o (ns.map D.int)), some (.lst .own (List.replicate ns.length (D.int 0))), none])
    ⟨Nat.zero_le _, by rw [plcN, List.map_replicate]⟩ (by
    rintro i d env hd ⟨hi, rfl⟩
    obtain ⟨hil, rfl⟩ := rgL_get hd
    have hz : ns[i]? = some ns[i] := List.getElem?_eq_getElem hil
    have hzm := h.mem.mp (List.mem_of_getElem? hz)
    have f1 : ∀ d : D, mSet (.lst .own ((plcN ns i).map D.int)) [.int ns[i], d] = some (.lst .own (((plcN ns i).map D.int).set (ns[i]).toNat d)) := fun d => mSet_ok hzm.1 (by rw [List.length_map, plcN_len]; exact hzm.2)
    have f2 : ∀ o', vIx (.lst o' (ns.map D.int)) (.int (i : Nat)) = .ok (.int ns[i]) := fun o' => vIx_ints (by rw [atI_pos (by omega) (by omega), Int.toNat_natCast]; exact hz)
    refine ⟨_, _, rfl, rfl, by unfold b__law_places_0; simp -implicitDefEqProofs [-List.map_map, evFn_app, startE, evSeqS_app, evNx_app, evIfS_app, evXk_app, evXm_app, evXf_app, evAk_app, evAm_app, evAf_app, evSet_app, evEx_app, evRet_app, evV_app, evRetV_app, evC_app, evNil_app, evCons_app, evTup_app, evLst_app, evB_app, evBl_app, evAndT_app, evOrT_app, evNotT_app, evAndV_app, evOrV_app, evNotV_app, evIfE_app, ev1_app, ev2_app, evN_app, evF1_app, evCall_app, evSl_app, evSo_app, evNo_app, evYes_app, evSeq_app, evRng1_app, evRng2_app, evEnum_app, evPat_app, evRaise_app, evForR_app, evFor_app, evLc_app, evPar_app, evMut_app, evStore_app, evP0_app, evP1_app, evChGo_nil, evChGo_cons, evChT_app, evChV_app, atE_app, slotO_some, putE_app, putS_some, isOwn_own, at_nil, put_nil, at_one, at_0, at_1, put_0, put_1, shr_lst, shr_tup, shr_int, shr_bl, shr_str, shr_non, sh'_own, sh'_sh, sh'_scr, shrs_nil, shrs_cons, shrs_ints, shrs_bls, fz_int, fz_bl, fz_str, fz_non, fz_own, fz_scr, fz_sh, fz_tup, fzs_nil, fzs_cons, fzs_ints, fzs_bls, vAdd_ii, vSub_ii, vCmp_ii, vInt_bl, vLen_lst, vLen_tup, vList_lst, vTuple_lst, vRev_lst, vSl_lst, asInt_int, seqD_lst, seqD_tup, vSorted_ints, vAll_bls, vAny_bls, frz_nil, frz_cons, frz1_d, frz1_n, frz1_s, clr_nil, clr_cons, setD_nil, setD_cons, patD_nm, patD_tup, patD_lst, patDs_nil, patDs_cons, app2_some, okPat_nil, okPat_cons, ite_ok, sizeLine_big, fzs_repi, vIx_0, vIx_1, vIx_2, vIx_3, vIx_4, shrs_rep, shrs_rev, shrs_app, fzs_app, ifok_and, ifok_or, ifokP_and, ifokP_or, ifokD_and, ifokD_or, ifokDP_and, ifokDP_or, f1, f2]; rfl, hil, ?_⟩
    simp [clr, plcN, hz, List.map_set])
  obtain ⟨env', q1, q2, rfl⟩ := key
  rw [rgL_len] at q1
  simp -implicitDefEqProofs [-List.map_map, evFn_app, startE, evSeqS_app, evNx_app, evIfS_app, evXk_app, evXm_app, evXf_app, evAk_app, evAm_app, evAf_app, evSet_app, evEx_app, evRet_app, evV_app, evRetV_app, evC_app, evNil_app, evCons_app, evTup_app, evLst_app, evB_app, evBl_app, evAndT_app, evOrT_app, evNotT_app, evAndV_app, evOrV_app, evNotV_app, evIfE_app, ev1_app, ev2_app, evN_app, evF1_app, evCall_app, evSl_app, evSo_app, evNo_app, evYes_app, evSeq_app, evRng1_app, evRng2_app, evEnum_app, evPat_app, evRaise_app, evForR_app, evFor_app, evLc_app, evPar_app, evMut_app, evStore_app, evP0_app, evP1_app, evChGo_nil, evChGo_cons, evChT_app, evChV_app, atE_app, slotO_some, putE_app, putS_some, isOwn_own, at_nil, put_nil, at_one, at_0, at_1, put_0, put_1, shr_lst, shr_tup, shr_int, shr_bl, shr_str, shr_non, sh'_own, sh'_sh, sh'_scr, shrs_nil, shrs_cons, shrs_ints, shrs_bls, fz_int, fz_bl, fz_str, fz_non, fz_own, fz_scr, fz_sh, fz_tup, fzs_nil, fzs_cons, fzs_ints, fzs_bls, vAdd_ii, vSub_ii, vCmp_ii, vInt_bl, vLen_lst, vLen_tup, vList_lst, vTuple_lst, vRev_lst, vSl_lst, asInt_int, seqD_lst, seqD_tup, vSorted_ints, vAll_bls, vAny_bls, frz_nil, frz_cons, frz1_d, frz1_n, frz1_s, clr_nil, clr_cons, setD_nil, setD_cons, patD_nm, patD_tup, patD_lst, patDs_nil, patDs_cons, app2_some, okPat_nil, okPat_cons, ite_ok, sizeLine_big, fzs_repi, vIx_0, vIx_1, vIx_2, vIx_3, vIx_4, shrs_rep, shrs_rev, shrs_app, fzs_app, ifok_and, ifok_or, ifokP_and, ifokP_or, ifokD_and, ifokD_or, ifokDP_and, ifokDP_or, e1, e2, q1]
  rfl
/-! ### the four -/
def inR (n : Nat) (x : Int) : Bool := decide (0 ≤ x) && decide (x < n)
def fourB (ra rb rc rd fa fb fc fd : Int) : Bool := (decide (ra < rb) && decide (rc = rb + 1) && decide (rc < rd)) &&
      ((decide (fc < fa) && decide (fa < fd) && decide (fd < fb)) || (decide (fb < fd) && decide (fd < fa) && decide (fa < fc)))
def isF (fs rs : List Int) (q : List Int) : Bool := match q with
  | [a, b, c, d] => (inR fs.length a && inR fs.length b && inR fs.length c && inR fs.length d) &&
    fourB (pl rs a) (pl rs b) (pl rs c) (pl rs d) (pl fs a) (pl fs b) (pl fs c) (pl fs d)
  | _ => false
theorem pl_ix {o : Fl} {ns : List Int} {x : Int} (hx : 0 ≤ x ∧ x < ns.length) : vIx (.lst o ((plc ns).map D.int)) (.int x) = .ok (.int (pl ns x)) := vIx_ints (pl_get hx)
theorem is_four_ok {o o' : Fl} {fs rs : List Int} (hf : IsOrd fs) (hr : IsOrd rs) (hl : fs.length ≤ 20) (hlr : rs.length = fs.length) (a b c d : Int)
    (ha : 0 ≤ a ∧ a < fs.length) (hb : 0 ≤ b ∧ b < fs.length) (hc : 0 ≤ c ∧ c < fs.length) (hd : 0 ≤ d ∧ d < fs.length) (mk : List D → D) (hmk : mk = D.tup ∨ mk = D.lst .sh) :
    f_is_four [.lst o (fs.map D.int), .lst o' (rs.map D.int), mk [.int a, .int b, .int c, .int d]] = .ok (.bl (isF fs rs [a, b, c, d])) := by
  have e1 : ∀ o, f_places_of [.lst o (fs.map D.int)] = .ok (.lst .own ((plc fs).map D.int)) := fun o => places_ok hf hl
  have e2 : ∀ o, f_places_of [.lst o (rs.map D.int)] = .ok (.lst .own ((plc rs).map D.int)) := fun o => places_ok hr (by omega)
  have ha' : 0 ≤ a ∧ a < rs.length := by rw [hlr]; exact ha
  have hb' : 0 ≤ b ∧ b < rs.length := by rw [hlr]; exact hb
  have hc' : 0 ≤ c ∧ c < rs.length := by rw [hlr]; exact hc
  have hd' : 0 ≤ d ∧ d < rs.length := by rw [hlr]; exact hd
  have i1 : ∀ o, vIx (.lst o ((plc fs).map D.int)) (.int a) = .ok (.int (pl fs a)) := fun o => pl_ix ha
  have i2 : ∀ o, vIx (.lst o ((plc fs).map D.int)) (.int b) = .ok (.int (pl fs b)) := fun o => pl_ix hb
  have i3 : ∀ o, vIx (.lst o ((plc fs).map D.int)) (.int c) = .ok (.int (pl fs c)) := fun o => pl_ix hc
  have i4 : ∀ o, vIx (.lst o ((plc fs).map D.int)) (.int d) = .ok (.int (pl fs d)) := fun o => pl_ix hd
  have j1 : ∀ o, vIx (.lst o ((plc rs).map D.int)) (.int a) = .ok (.int (pl rs a)) := fun o => pl_ix ha'
  have j2 : ∀ o, vIx (.lst o ((plc rs).map D.int)) (.int b) = .ok (.int (pl rs b)) := fun o => pl_ix hb'
  have j3 : ∀ o, vIx (.lst o ((plc rs).map D.int)) (.int c) = .ok (.int (pl rs c)) := fun o => pl_ix hc'
  have j4 : ∀ o, vIx (.lst o ((plc rs).map D.int)) (.int d) = .ok (.int (pl rs d)) := fun o => pl_ix hd'
  have r1 : (inR fs.length a && inR fs.length b && inR fs.length c && inR fs.length d) = true := by
    simp [inR, ha, hb, hc, hd]
  have r2 : isF fs rs [a, b, c, d] = fourB (pl rs a) (pl rs b) (pl rs c) (pl rs d) (pl fs a) (pl fs b) (pl fs c) (pl fs d) := by
    show (_ && _) = _
    rw [r1, Bool.true_and]
  rw [r2]
  generalize pl fs a = fa at *
  generalize pl fs b = fb at *
  generalize pl fs c = fc at *
  generalize pl fs d = fd at *
  generalize pl rs a = ra at *
  generalize pl rs b = rb at *
  generalize pl rs c = rc at *
  generalize pl rs d = rd at *
  have hF : fourB ra rb rc rd fa fb fc fd = ((fLt ra rb && (decide (rb + 1 = rc) && fLt rc rd)) && ((fLt fc fa && (fLt fa fd && fLt fd fb)) || (fLt fb fd && (fLt fd fa && fLt fa fc)))) := by
    simp [fourB, fLt, eq_comm (a := rc), Bool.and_assoc]
  rw [hF]
  cases hX : (fLt ra rb && (decide (rb + 1 = rc) && fLt rc rd)) <;> rcases hmk with rfl | rfl <;> unfold f_is_four <;> simp -implicitDefEqProofs [-List.map_map, evFn_app, startE, evSeqS_app, evNx_app, evIfS_app, evXk_app, evXm_app, evXf_app, evAk_app, evAm_app, evAf_app, evSet_app, evEx_app, evRet_app, evV_app, evRetV_app, evC_app, evNil_app, evCons_app, evTup_app, evLst_app, evB_app, evBl_app, evAndT_app, evOrT_app, evNotT_app, evAndV_app, evOrV_app, evNotV_app, evIfE_app, ev1_app, ev2_app, evN_app, evF1_app, evCall_app, evSl_app, evSo_app, evNo_app, evYes_app, evSeq_app, evRng1_app, evRng2_app, evEnum_app, evPat_app, evRaise_app, evForR_app, evFor_app, evLc_app, evPar_app, evMut_app, evStore_app, evP0_app, evP1_app, evChGo_nil, evChGo_cons, evChT_app, evChV_app, atE_app, slotO_some, putE_app, putS_some, isOwn_own, at_nil, put_nil, at_one, at_0, at_1, put_0, put_1, shr_lst, shr_tup, shr_int, shr_bl, shr_str, shr_non, sh'_own, sh'_sh, sh'_scr, shrs_nil, shrs_cons, shrs_ints, shrs_bls, fz_int, fz_bl, fz_str, fz_non, fz_own, fz_scr, fz_sh, fz_tup, fzs_nil, fzs_cons, fzs_ints, fzs_bls, vAdd_ii, vSub_ii, vCmp_ii, vInt_bl, vLen_lst, vLen_tup, vList_lst, vTuple_lst, vRev_lst, vSl_lst, asInt_int, seqD_lst, seqD_tup, vSorted_ints, vAll_bls, vAny_bls, frz_nil, frz_cons, frz1_d, frz1_n, frz1_s, clr_nil, clr_cons, setD_nil, setD_cons, patD_nm, patD_tup, patD_lst, patDs_nil, patDs_cons, app2_some, okPat_nil, okPat_cons, ite_ok, sizeLine_big, fzs_repi, vIx_0, vIx_1, vIx_2, vIx_3, vIx_4, shrs_rep, shrs_rev, shrs_app, fzs_app, ifok_and, ifok_or, ifokP_and, ifokP_or, ifokD_and, ifokD_or, ifokDP_and, ifokDP_or, e1, e2, i1, i2, i3, i4, j1, j2, j3, j4, vEq_int, hX]
theorem is_whole_ok (x : Int) : f_is_whole [.int x] = .ok (.bl true) := by
  have e1 : vIsi "int" (.int x) = .ok (.bl true) := by
    show (match isiB "int" "int" with | some b => R.ok (D.bl b) | none => .no) = _
    rw [isi_ii]
  have e2 : vIsi "bool" (.int x) = .ok (.bl false) := by
    show (match isiB "int" "bool" with | some b => R.ok (D.bl b) | none => .no) = _
    rw [isi_ib]
  unfold f_is_whole
  simp -implicitDefEqProofs [-List.map_map, evFn_app, startE, evSeqS_app, evNx_app, evIfS_app, evXk_app, evXm_app, evXf_app, evAk_app, evAm_app, evAf_app, evSet_app, evEx_app, evRet_app, evV_app, evRetV_app, evC_app, evNil_app, evCons_app, evTup_app, evLst_app, evB_app, evBl_app, evAndT_app, evOrT_app, evNotT_app, evAndV_app, evOrV_app, evNotV_app, evIfE_app, ev1_app, ev2_app, evN_app, evF1_app, evCall_app, evSl_app, evSo_app, evNo_app, evYes_app, evSeq_app, evRng1_app, evRng2_app, evEnum_app, evPat_app, evRaise_app, evForR_app, evFor_app, evLc_app, evPar_app, evMut_app, evStore_app, evP0_app, evP1_app, evChGo_nil, evChGo_cons, evChT_app, evChV_app, atE_app, slotO_some, putE_app, putS_some, isOwn_own, at_nil, put_nil, at_one, at_0, at_1, put_0, put_1, shr_lst, shr_tup, shr_int, shr_bl, shr_str, shr_non, sh'_own, sh'_sh, sh'_scr, shrs_nil, shrs_cons, shrs_ints, shrs_bls, fz_int, fz_bl, fz_str, fz_non, fz_own, fz_scr, fz_sh, fz_tup, fzs_nil, fzs_cons, fzs_ints, fzs_bls, vAdd_ii, vSub_ii, vCmp_ii, vInt_bl, vLen_lst, vLen_tup, vList_lst, vTuple_lst, vRev_lst, vSl_lst, asInt_int, seqD_lst, seqD_tup, vSorted_ints, vAll_bls, vAny_bls, frz_nil, frz_cons, frz1_d, frz1_n, frz1_s, clr_nil, clr_cons, setD_nil, setD_cons, patD_nm, patD_tup, patD_lst, patDs_nil, patDs_cons, app2_some, okPat_nil, okPat_cons, ite_ok, sizeLine_big, fzs_repi, vIx_0, vIx_1, vIx_2, vIx_3, vIx_4, shrs_rep, shrs_rev, shrs_app, fzs_app, ifok_and, ifok_or, ifokP_and, ifokP_or, ifokD_and, ifokD_or, ifokDP_and, ifokDP_or, e1, e2]
theorem srt_ord {ns : List Int} (h : IsOrd ns) : srt ns = iota ns.length := by
  refine (srt_eq h.symm ?_).symm
  unfold iota
  refine List.pairwise_map.mpr ?_
  refine (List.pairwise_lt_range).imp fun h => ?_
  exact Int.le_of_lt (Int.ofNat_lt.mpr h)
theorem lr1_ok (n : Nat) (h : n ≤ 20) : vLR1 (.int (n : Nat)) = .ok (.lst .own ((iota n).map D.int)) := by
  have hr : rgOk 0 (n : Nat) = true := by
    unfold rgOk
    rw [decide_eq_true_eq]
    refine ⟨by omega, by omega, by omega, by omega, by omega⟩
  unfold vLR1
  simp only [hr, if_true]
  unfold rgD iota
  rw [List.map_map]
  have : ((n : Nat) - 0 : Int).toNat = n := by omega
  rw [this]
  refine congrArg (fun z => R.ok (D.lst .own z)) (List.map_congr_left fun i _ => ?_)
  show D.int (0 + (i : Int)) = D.int (Int.ofNat i)
  rw [Int.zero_add]
  rfl
theorem need_orders_ok {fs rs : List Int} (hf : IsOrd fs) (hr : IsOrd rs) (h0 : 1 ≤ fs.length) (hl : fs.length ≤ 20) (hlr : rs.length = fs.length) :
    f_need_orders [.lst .sh (fs.map D.int), .lst .sh (rs.map D.int)] = .ok .non := by
  unfold f_need_orders
  have e1 : vAdd (.lst .sh (fs.map D.int)) (.lst .sh (rs.map D.int)) = .ok (.lst .own ((fs ++ rs).map D.int)) := by
    rw [vAdd, if_pos (by rw [PySem.sizeLine_eq, List.length_map, List.length_map]; omega), List.map_append]
  have e2 : lcGo (.nm 2) evYes e_need_orders_0 [some (.lst .sh (fs.map D.int)), some (.lst .sh (rs.map D.int)), none] (fs.map D.int ++ rs.map D.int) = .ok (List.replicate (fs ++ rs).length (D.bl true)) := by
    rw [← List.map_append, lcGo_all (fun _ => D.bl true) (by
      intro z _
      unfold e_need_orders_0
      simp -implicitDefEqProofs [-List.map_map, evFn_app, startE, evSeqS_app, evNx_app, evIfS_app, evXk_app, evXm_app, evXf_app, evAk_app, evAm_app, evAf_app, evSet_app, evEx_app, evRet_app, evV_app, evRetV_app, evC_app, evNil_app, evCons_app, evTup_app, evLst_app, evB_app, evBl_app, evAndT_app, evOrT_app, evNotT_app, evAndV_app, evOrV_app, evNotV_app, evIfE_app, ev1_app, ev2_app, evN_app, evF1_app, evCall_app, evSl_app, evSo_app, evNo_app, evYes_app, evSeq_app, evRng1_app, evRng2_app, evEnum_app, evPat_app, evRaise_app, evForR_app, evFor_app, evLc_app, evPar_app, evMut_app, evStore_app, evP0_app, evP1_app, evChGo_nil, evChGo_cons, evChT_app, evChV_app, atE_app, slotO_some, putE_app, putS_some, isOwn_own, at_nil, put_nil, at_one, at_0, at_1, put_0, put_1, shr_lst, shr_tup, shr_int, shr_bl, shr_str, shr_non, sh'_own, sh'_sh, sh'_scr, shrs_nil, shrs_cons, shrs_ints, shrs_bls, fz_int, fz_bl, fz_str, fz_non, fz_own, fz_scr, fz_sh, fz_tup, fzs_nil, fzs_cons, fzs_ints, fzs_bls, vAdd_ii, vSub_ii, vCmp_ii, vInt_bl, vLen_lst, vLen_tup, vList_lst, vTuple_lst, vRev_lst, vSl_lst, asInt_int, seqD_lst, seqD_tup, vSorted_ints, vAll_bls, vAny_bls, frz_nil, frz_cons, frz1_d, frz1_n, frz1_s, clr_nil, clr_cons, setD_nil, setD_cons, patD_nm, patD_tup, patD_lst, patDs_nil, patDs_cons, app2_some, okPat_nil, okPat_cons, ite_ok, sizeLine_big, fzs_repi, vIx_0, vIx_1, vIx_2, vIx_3, vIx_4, shrs_rep, shrs_rev, shrs_app, fzs_app, ifok_and, ifok_or, ifokP_and, ifokP_or, ifokD_and, ifokD_or, ifokDP_and, ifokDP_or, is_whole_ok])]
    rw [List.map_const']
  have e3 : fs.length + fs.length ≤ PySem.sizeLine := by rw [PySem.sizeLine_eq]; omega
  have e4 := lr1_ok fs.length hl
  have e5 : fLe 1 (fs.length : Nat) = true := fLe_t (by omega)
  have e6 : fLe (fs.length : Nat) 20 = true := fLe_t (by omega)
  simp -implicitDefEqProofs [-List.map_map, evFn_app, startE, evSeqS_app, evNx_app, evIfS_app, evXk_app, evXm_app, evXf_app, evAk_app, evAm_app, evAf_app, evSet_app, evEx_app, evRet_app, evV_app, evRetV_app, evC_app, evNil_app, evCons_app, evTup_app, evLst_app, evB_app, evBl_app, evAndT_app, evOrT_app, evNotT_app, evAndV_app, evOrV_app, evNotV_app, evIfE_app, ev1_app, ev2_app, evN_app, evF1_app, evCall_app, evSl_app, evSo_app, evNo_app, evYes_app, evSeq_app, evRng1_app, evRng2_app, evEnum_app, evPat_app, evRaise_app, evForR_app, evFor_app, evLc_app, evPar_app, evMut_app, evStore_app, evP0_app, evP1_app, evChGo_nil, evChGo_cons, evChT_app, evChV_app, atE_app, slotO_some, putE_app, putS_some, isOwn_own, at_nil, put_nil, at_one, at_0, at_1, put_0, put_1, shr_lst, shr_tup, shr_int, shr_bl, shr_str, shr_non, sh'_own, sh'_sh, sh'_scr, shrs_nil, shrs_cons, shrs_ints, shrs_bls, fz_int, fz_bl, fz_str, fz_non, fz_own, fz_scr, fz_sh, fz_tup, fzs_nil, fzs_cons, fzs_ints, fzs_bls, vAdd_ii, vSub_ii, vCmp_ii, vInt_bl, vLen_lst, vLen_tup, vList_lst, vTuple_lst, vRev_lst, vSl_lst, asInt_int, seqD_lst, seqD_tup, vSorted_ints, vAll_bls, vAny_bls, frz_nil, frz_cons, frz1_d, frz1_n, frz1_s, clr_nil, clr_cons, setD_nil, setD_cons, patD_nm, patD_tup, patD_lst, patDs_nil, patDs_cons, app2_some, okPat_nil, okPat_cons, ite_ok, sizeLine_big, fzs_repi, vIx_0, vIx_1, vIx_2, vIx_3, vIx_4, shrs_rep, shrs_rev, shrs_app, fzs_app, ifok_and, ifok_or, ifokP_and, ifokP_or, ifokD_and, ifokD_or, ifokDP_and, ifokDP_or, e1, e2, e3, e4, e5, e6, vAll_rep, srt_ord hf, srt_ord hr, vEq_ints, hlr]
theorem all_inR (n : Nat) (q : List Int) : (q.all (inR n)) = decide (∀ x ∈ q, 0 ≤ x ∧ x < n) := by
  induction q with
  | nil => rfl
  | cons x q ih => rw [List.all_cons, ih]; simp [inR, Bool.decide_and]
theorem isF_other (fs rs q : List Int) (h : q.length ≠ 4 ∨ q.all (inR fs.length) = false) : isF fs rs q = false := by
  match q, h with
  | [a, b, c, d], h =>
    rcases h with h | h
    · exact absurd rfl h
    · have : (inR fs.length a && inR fs.length b && inR fs.length c && inR fs.length d) = false := by simpa [Bool.and_assoc] using h
      show (_ && _) = false
      rw [this, Bool.false_and]
  | [], _ => rfl
  | [_], _ => rfl
  | [_, _], _ => rfl
  | [_, _, _], _ => rfl
  | _ :: _ :: _ :: _ :: _ :: _, _ => rfl
theorem is_four_q {fs rs : List Int} (hf : IsOrd fs) (hr : IsOrd rs) (hl : fs.length ≤ 20) (hlr : rs.length = fs.length) (q : List Int) (h4 : q.length = 4) (hc : q.all (inR fs.length) = true) (mk : List D → D) (hmk : mk = D.tup ∨ mk = D.lst .sh) :
    f_is_four [.lst .sh (fs.map D.int), .lst .sh (rs.map D.int), mk (q.map D.int)] = .ok (.bl (isF fs rs q)) := by
  match q, h4 with
  | [a, b, c, d], _ =>
    rw [all_inR] at hc
    have hc := of_decide_eq_true hc
    exact is_four_ok hf hr hl hlr a b c d (hc a (by simp)) (hc b (by simp)) (hc c (by simp)) (hc d (by simp)) mk hmk
theorem bars_ok {fs rs : List Int} (hf : IsOrd fs) (hr : IsOrd rs) (h0 : 1 ≤ fs.length) (hl : fs.length ≤ 20) (hlr : rs.length = fs.length) (q : List Int) (hq : q.length ≤ 1000) (mk : List D → D) (hmk : mk = D.tup ∨ mk = D.lst .sh) :
    f_bars [.lst .sh (fs.map D.int), .lst .sh (rs.map D.int), mk (q.map D.int)] = .ok (.bl (isF fs rs q)) := by
  have e0 := need_orders_ok hf hr h0 hl hlr
  have e1 : ∀ mkd, lcGo (.nm 3) evYes e_bars_0 [some (.lst .sh (fs.map D.int)), some (.lst .sh (rs.map D.int)), some mkd, none] (q.map D.int) = .ok ((q.map (inR fs.length)).map D.bl) := by
    intro mkd
    rw [lcGo_all (fun z => D.bl (inR fs.length z)) (by
      intro z _
      unfold e_bars_0
      simp -implicitDefEqProofs [-List.map_map, evFn_app, startE, evSeqS_app, evNx_app, evIfS_app, evXk_app, evXm_app, evXf_app, evAk_app, evAm_app, evAf_app, evSet_app, evEx_app, evRet_app, evV_app, evRetV_app, evC_app, evNil_app, evCons_app, evTup_app, evLst_app, evB_app, evBl_app, evAndT_app, evOrT_app, evNotT_app, evAndV_app, evOrV_app, evNotV_app, evIfE_app, ev1_app, ev2_app, evN_app, evF1_app, evCall_app, evSl_app, evSo_app, evNo_app, evYes_app, evSeq_app, evRng1_app, evRng2_app, evEnum_app, evPat_app, evRaise_app, evForR_app, evFor_app, evLc_app, evPar_app, evMut_app, evStore_app, evP0_app, evP1_app, evChGo_nil, evChGo_cons, evChT_app, evChV_app, atE_app, slotO_some, putE_app, putS_some, isOwn_own, at_nil, put_nil, at_one, at_0, at_1, put_0, put_1, shr_lst, shr_tup, shr_int, shr_bl, shr_str, shr_non, sh'_own, sh'_sh, sh'_scr, shrs_nil, shrs_cons, shrs_ints, shrs_bls, fz_int, fz_bl, fz_str, fz_non, fz_own, fz_scr, fz_sh, fz_tup, fzs_nil, fzs_cons, fzs_ints, fzs_bls, vAdd_ii, vSub_ii, vCmp_ii, vInt_bl, vLen_lst, vLen_tup, vList_lst, vTuple_lst, vRev_lst, vSl_lst, asInt_int, seqD_lst, seqD_tup, vSorted_ints, vAll_bls, vAny_bls, frz_nil, frz_cons, frz1_d, frz1_n, frz1_s, clr_nil, clr_cons, setD_nil, setD_cons, patD_nm, patD_tup, patD_lst, patDs_nil, patDs_cons, app2_some, okPat_nil, okPat_cons, ite_ok, sizeLine_big, fzs_repi, vIx_0, vIx_1, vIx_2, vIx_3, vIx_4, shrs_rep, shrs_rev, shrs_app, fzs_app, ifok_and, ifok_or, ifokP_and, ifokP_or, ifokD_and, ifokD_or, ifokDP_and, ifokDP_or]
      simp [inR, fLe, fLt])]
    rw [List.map_map]
    rfl
  have e2 : q.length ≤ PySem.sizeLine := by rw [PySem.sizeLine_eq]; omega
  have e3 : (List.map (inR fs.length) q).all id = q.all (inR fs.length) := by rw [List.all_map]; rfl
  by_cases h4 : q.length = 4
  · cases hc : q.all (inR fs.length) with
    | true =>
      have e4 := is_four_q hf hr hl hlr q h4 hc mk hmk
      rw [hc] at e3
      rcases hmk with rfl | rfl <;> unfold f_bars <;> simp -implicitDefEqProofs [-List.map_map, evFn_app, startE, evSeqS_app, evNx_app, evIfS_app, evXk_app, evXm_app, evXf_app, evAk_app, evAm_app, evAf_app, evSet_app, evEx_app, evRet_app, evV_app, evRetV_app, evC_app, evNil_app, evCons_app, evTup_app, evLst_app, evB_app, evBl_app, evAndT_app, evOrT_app, evNotT_app, evAndV_app, evOrV_app, evNotV_app, evIfE_app, ev1_app, ev2_app, evN_app, evF1_app, evCall_app, evSl_app, evSo_app, evNo_app, evYes_app, evSeq_app, evRng1_app, evRng2_app, evEnum_app, evPat_app, evRaise_app, evForR_app, evFor_app, evLc_app, evPar_app, evMut_app, evStore_app, evP0_app, evP1_app, evChGo_nil, evChGo_cons, evChT_app, evChV_app, atE_app, slotO_some, putE_app, putS_some, isOwn_own, at_nil, put_nil, at_one, at_0, at_1, put_0, put_1, shr_lst, shr_tup, shr_int, shr_bl, shr_str, shr_non, sh'_own, sh'_sh, sh'_scr, shrs_nil, shrs_cons, shrs_ints, shrs_bls, fz_int, fz_bl, fz_str, fz_non, fz_own, fz_scr, fz_sh, fz_tup, fzs_nil, fzs_cons, fzs_ints, fzs_bls, vAdd_ii, vSub_ii, vCmp_ii, vInt_bl, vLen_lst, vLen_tup, vList_lst, vTuple_lst, vRev_lst, vSl_lst, asInt_int, seqD_lst, seqD_tup, vSorted_ints, vAll_bls, vAny_bls, frz_nil, frz_cons, frz1_d, frz1_n, frz1_s, clr_nil, clr_cons, setD_nil, setD_cons, patD_nm, patD_tup, patD_lst, patDs_nil, patDs_cons, app2_some, okPat_nil, okPat_cons, ite_ok, sizeLine_big, fzs_repi, vIx_0, vIx_1, vIx_2, vIx_3, vIx_4, shrs_rep, shrs_rev, shrs_app, fzs_app, ifok_and, ifok_or, ifokP_and, ifokP_or, ifokD_and, ifokD_or, ifokDP_and, ifokDP_or, e0, vEq_int, h4, e1, e2, e3, e4, seqD, hc]
    | false =>
      rw [isF_other fs rs q (.inr hc)]
      rw [hc] at e3
      rcases hmk with rfl | rfl <;> unfold f_bars <;> simp -implicitDefEqProofs [-List.map_map, evFn_app, startE, evSeqS_app, evNx_app, evIfS_app, evXk_app, evXm_app, evXf_app, evAk_app, evAm_app, evAf_app, evSet_app, evEx_app, evRet_app, evV_app, evRetV_app, evC_app, evNil_app, evCons_app, evTup_app, evLst_app, evB_app, evBl_app, evAndT_app, evOrT_app, evNotT_app, evAndV_app, evOrV_app, evNotV_app, evIfE_app, ev1_app, ev2_app, evN_app, evF1_app, evCall_app, evSl_app, evSo_app, evNo_app, evYes_app, evSeq_app, evRng1_app, evRng2_app, evEnum_app, evPat_app, evRaise_app, evForR_app, evFor_app, evLc_app, evPar_app, evMut_app, evStore_app, evP0_app, evP1_app, evChGo_nil, evChGo_cons, evChT_app, evChV_app, atE_app, slotO_some, putE_app, putS_some, isOwn_own, at_nil, put_nil, at_one, at_0, at_1, put_0, put_1, shr_lst, shr_tup, shr_int, shr_bl, shr_str, shr_non, sh'_own, sh'_sh, sh'_scr, shrs_nil, shrs_cons, shrs_ints, shrs_bls, fz_int, fz_bl, fz_str, fz_non, fz_own, fz_scr, fz_sh, fz_tup, fzs_nil, fzs_cons, fzs_ints, fzs_bls, vAdd_ii, vSub_ii, vCmp_ii, vInt_bl, vLen_lst, vLen_tup, vList_lst, vTuple_lst, vRev_lst, vSl_lst, asInt_int, seqD_lst, seqD_tup, vSorted_ints, vAll_bls, vAny_bls, frz_nil, frz_cons, frz1_d, frz1_n, frz1_s, clr_nil, clr_cons, setD_nil, setD_cons, patD_nm, patD_tup, patD_lst, patDs_nil, patDs_cons, app2_some, okPat_nil, okPat_cons, ite_ok, sizeLine_big, fzs_repi, vIx_0, vIx_1, vIx_2, vIx_3, vIx_4, shrs_rep, shrs_rev, shrs_app, fzs_app, ifok_and, ifok_or, ifokP_and, ifokP_or, ifokD_and, ifokD_or, ifokDP_and, ifokDP_or, e0, vEq_int, h4, e1, e2, e3, seqD, hc]
  · rw [isF_other fs rs q (.inl h4)]
    have h5 : ¬ ((q.length : Int) = 4) := by omega
    rcases hmk with rfl | rfl <;> unfold f_bars <;> simp -implicitDefEqProofs [-List.map_map, evFn_app, startE, evSeqS_app, evNx_app, evIfS_app, evXk_app, evXm_app, evXf_app, evAk_app, evAm_app, evAf_app, evSet_app, evEx_app, evRet_app, evV_app, evRetV_app, evC_app, evNil_app, evCons_app, evTup_app, evLst_app, evB_app, evBl_app, evAndT_app, evOrT_app, evNotT_app, evAndV_app, evOrV_app, evNotV_app, evIfE_app, ev1_app, ev2_app, evN_app, evF1_app, evCall_app, evSl_app, evSo_app, evNo_app, evYes_app, evSeq_app, evRng1_app, evRng2_app, evEnum_app, evPat_app, evRaise_app, evForR_app, evFor_app, evLc_app, evPar_app, evMut_app, evStore_app, evP0_app, evP1_app, evChGo_nil, evChGo_cons, evChT_app, evChV_app, atE_app, slotO_some, putE_app, putS_some, isOwn_own, at_nil, put_nil, at_one, at_0, at_1, put_0, put_1, shr_lst, shr_tup, shr_int, shr_bl, shr_str, shr_non, sh'_own, sh'_sh, sh'_scr, shrs_nil, shrs_cons, shrs_ints, shrs_bls, fz_int, fz_bl, fz_str, fz_non, fz_own, fz_scr, fz_sh, fz_tup, fzs_nil, fzs_cons, fzs_ints, fzs_bls, vAdd_ii, vSub_ii, vCmp_ii, vInt_bl, vLen_lst, vLen_tup, vList_lst, vTuple_lst, vRev_lst, vSl_lst, asInt_int, seqD_lst, seqD_tup, vSorted_ints, vAll_bls, vAny_bls, frz_nil, frz_cons, frz1_d, frz1_n, frz1_s, clr_nil, clr_cons, setD_nil, setD_cons, patD_nm, patD_tup, patD_lst, patDs_nil, patDs_cons, app2_some, okPat_nil, okPat_cons, ite_ok, sizeLine_big, fzs_repi, vIx_0, vIx_1, vIx_2, vIx_3, vIx_4, shrs_rep, shrs_rev, shrs_app, fzs_app, ifok_and, ifok_or, ifokP_and, ifokP_or, ifokD_and, ifokD_or, ifokDP_and, ifokDP_or, e0, vEq_int, h5]
/-- the four, by the law's own -/
theorem ways_up {fa fb fc fd : Int} (h : fa ≠ fb ∧ fa ≠ fc ∧ fa ≠ fd ∧ fb ≠ fc ∧ fb ≠ fd ∧ fc ≠ fd) : decide ([fc, fa, fd, fb] ∈ [srt [fa, fb, fc, fd], (srt [fa, fb, fc, fd]).reverse]) = ((fLt fc fa && (fLt fa fd && fLt fd fb)) || (fLt fb fd && (fLt fd fa && fLt fa fc))) := by
  have hp : [fc, fa, fd, fb].Perm [fa, fb, fc, fd] := by
    refine (List.perm_iff_count).mpr fun x => ?_
    simp only [List.count_cons, List.count_nil]
    omega
  have h1 : [fc, fa, fd, fb] = srt [fa, fb, fc, fd] ↔ (fc < fa ∧ fa < fd ∧ fd < fb) := by
    constructor
    · intro e
      have := srt_sorted [fa, fb, fc, fd]
      rw [← e] at this
      simp at this
      omega
    · intro e
      refine srt_eq hp ?_
      simp
      omega
  have h2 : [fc, fa, fd, fb] = (srt [fa, fb, fc, fd]).reverse ↔ (fb < fd ∧ fd < fa ∧ fa < fc) := by
    constructor
    · intro e
      have := srt_sorted [fa, fb, fc, fd]
      have e2 : [fb, fd, fa, fc] = srt [fa, fb, fc, fd] := by
        have := congrArg List.reverse e
        rw [List.reverse_reverse] at this
        exact this
      rw [← e2] at this
      simp at this
      omega
    · intro e
      have e2 : [fb, fd, fa, fc] = srt [fa, fb, fc, fd] := by
        refine srt_eq ?_ ?_
        · refine (List.reverse_perm [fc, fa, fd, fb]).trans hp
        · simp
          omega
      rw [← e2]
      rfl
  rw [Bool.eq_iff_iff]
  simp only [decide_eq_true_eq, List.mem_cons, List.not_mem_nil, or_false, h1, h2, fLt, Bool.or_eq_true, Bool.and_eq_true]
theorem comp4 {ns : List Int} {i k : Nat} {a b c d : Int} (ha : 0 ≤ a ∧ a < ns.length) (hb : 0 ≤ b ∧ b < ns.length) (hc : 0 ≤ c ∧ c < ns.length) (hd : 0 ≤ d ∧ d < ns.length) :
    ∀ env : En, env[i]? = some (some (.lst .own ((plc ns).map D.int))) → k < env.length → k ≠ i → lcGo (.nm k) evYes (ev2 vIx (evV i) (evV k)) env [.int a, .int b, .int c, .int d] = .ok [.int (pl ns a), .int (pl ns b), .int (pl ns c), .int (pl ns d)] := by
  intro env h1 h2 h3
  have g : ∀ x : D, (env.set k (some x))[i]? = some (some (.lst .own ((plc ns).map D.int))) := fun x => by rw [List.getElem?_set_ne h3, h1]
  have g2 : ∀ x : D, (env.set k (some x))[k]? = some (some x) := fun x => List.getElem?_set_self h2
  simp only [lcGo, patD, setD, evYes_app, noex_ok, R.bind_ok, if_true, ev2_app, evV_app, g, g2, slotR_some, shr_lst, shr_int, shrs_ints, sh'_own, sh'_sh, pl_ix ha, pl_ix hb, pl_ix hc, pl_ix hd]
theorem ways4 (fa fb fc fd : Int) : ∀ env : En, env[4]? = some (some (.lst .own [.int fa, .int fb, .int fc, .int fd])) → 8 < env.length → lcGo (.nm 8) evYes e__law_is_four_3 env [.int 2, .int 0, .int 3, .int 1] = .ok [.int fc, .int fa, .int fd, .int fb] := by
  intro env h1 h2
  have g : ∀ x : D, (env.set 8 (some x))[4]? = some (some (.lst .own [.int fa, .int fb, .int fc, .int fd])) := fun x => by rw [List.getElem?_set_ne (by decide), h1]
  have g2 : ∀ x : D, (env.set 8 (some x))[8]? = some (some x) := fun x => List.getElem?_set_self h2
  unfold e__law_is_four_3
  simp -implicitDefEqProofs only [lcGo, patD, setD, evYes_app, noex_ok, R.bind_ok, if_true, ev2_app, evV_app, g, g2, slotR_some, shr_lst, shr_int, shrs_cons, shrs_nil, sh'_own, sh'_sh, vIx_0, vIx_1, vIx_2, vIx_3]
theorem lenset4 {fa fb fc fd : Int} (hn : fa ≠ fb ∧ fa ≠ fc ∧ fa ≠ fd ∧ fb ≠ fc ∧ fb ≠ fd ∧ fc ≠ fd) : vLenSet (.lst .sh [.int fa, .int fb, .int fc, .int fd]) = .ok (.int 4) := by
  have h : [fa, fb, fc, fd].length < 64 ∧ [fa, fb, fc, fd].Nodup := ⟨by simp, by simp; omega⟩
  have := onInts_map (fun ns => if ns.length < 64 ∧ ns.Nodup then .ok (.int ns.length) else .no) .sh [fa, fb, fc, fd]
  rw [if_pos h] at this
  exact this
theorem in4 {fa fb fc fd : Int} (hn : fa ≠ fb ∧ fa ≠ fc ∧ fa ≠ fd ∧ fb ≠ fc ∧ fb ≠ fd ∧ fc ≠ fd) : vIn false (.lst .sh [.int fc, .int fa, .int fd, .int fb]) (.tup [.lst .sh ((srt [fa, fb, fc, fd]).map D.int), .lst .sh ((srt [fa, fb, fc, fd]).map D.int).reverse]) = .ok (.bl ((fLt fc fa && (fLt fa fd && fLt fd fb)) || (fLt fb fd && (fLt fd fa && fLt fa fc)))) := by
  rw [← List.map_reverse, ← ways_up hn]
  refine (vInT_pl (pl_int.lst .sh) (pl_int.lst .sh) (by decide) false [fc, fa, fd, fb] [srt [fa, fb, fc, fd], (srt [fa, fb, fc, fd]).reverse]).trans ?_
  rw [Bool.bne_false]
  congr
abbrev both (fs rs : List Int) : D := .lst .sh [.lst .sh (fs.map D.int), .lst .sh (rs.map D.int)]
abbrev q4 (a b c d : Int) (o : Fl) : D := .lst o [.int a, .int b, .int c, .int d]
abbrev pD (ns : List Int) : D := .lst .own ((plc ns).map D.int)
theorem lf0 {x : D} {a b c d : Int} {ys : List Int} {z : Bool} (e1 : lcGo (.nm 7) c__law_is_four_0 e__law_is_four_0 [some x, some (q4 a b c d .sh), none, none, none, none, none, none, none] [.int a, .int b, .int c, .int d] = .ok (ys.map D.int)) (hz : z = decide (ys = [])) :
    s__law_is_four_0 [some x, some (q4 a b c d .sh), none, none, none, none, none, none, none] = if z then .nx [some x, some (q4 a b c d .sh), none, none, none, none, none, none, none] else .rt (.bl false) := by
  have w2 : evB (ev2 (vEq true) (evF1 vLen (evCons (evV 1) (evNil))) (evC (.int 4))) [some x, some (q4 a b c d .sh), none, none, none, none, none, none, none] = .ok false := by
    simp -implicitDefEqProofs [-List.map_map, evFn_app, startE, evSeqS_app, evNx_app, evIfS_app, evXk_app, evXm_app, evXf_app, evAk_app, evAm_app, evAf_app, evSet_app, evEx_app, evRet_app, evV_app, evRetV_app, evC_app, evNil_app, evCons_app, evTup_app, evLst_app, evB_app, evBl_app, evAndT_app, evOrT_app, evNotT_app, evAndV_app, evOrV_app, evNotV_app, evIfE_app, ev1_app, ev2_app, evN_app, evF1_app, evCall_app, evSl_app, evSo_app, evNo_app, evYes_app, evSeq_app, evRng1_app, evRng2_app, evEnum_app, evPat_app, evRaise_app, evForR_app, evFor_app, evLc_app, evPar_app, evMut_app, evStore_app, evP0_app, evP1_app, evChGo_nil, evChGo_cons, evChT_app, evChV_app, atE_app, slotO_some, putE_app, putS_some, isOwn_own, at_nil, put_nil, at_one, at_0, at_1, put_0, put_1, shr_lst, shr_tup, shr_int, shr_bl, shr_str, shr_non, sh'_own, sh'_sh, sh'_scr, shrs_nil, shrs_cons, shrs_ints, shrs_bls, fz_int, fz_bl, fz_str, fz_non, fz_own, fz_scr, fz_sh, fz_tup, fzs_nil, fzs_cons, fzs_ints, fzs_bls, vAdd_ii, vSub_ii, vCmp_ii, vInt_bl, vLen_lst, vLen_tup, vList_lst, vTuple_lst, vRev_lst, vSl_lst, asInt_int, seqD_lst, seqD_tup, vSorted_ints, vAll_bls, vAny_bls, frz_nil, frz_cons, frz1_d, frz1_n, frz1_s, clr_nil, clr_cons, setD_nil, setD_cons, patD_nm, patD_tup, patD_lst, patDs_nil, patDs_cons, app2_some, okPat_nil, okPat_cons, ite_ok, sizeLine_big, fzs_repi, vIx_0, vIx_1, vIx_2, vIx_3, vIx_4, shrs_rep, shrs_rev, shrs_app, fzs_app, ifok_and, ifok_or, ifokP_and, ifokP_or, ifokD_and, ifokD_or, ifokDP_and, ifokDP_or, vEq_int]
  have e4 : ∀ o o', vEq true (.lst o (ys.map D.int)) (.lst o' []) = .ok (.bl (decide (ys = []) != true)) := fun o o' => vEq_ints true o o' ys []
  have w0 : evB (ev2 (vEq true) (evLc (evSeq (evV 1)) (.nm 7) [7] c__law_is_four_0 e__law_is_four_0) (evLst (evNil))) [some x, some (q4 a b c d .sh), none, none, none, none, none, none, none] = .ok (!z) := by
    rw [hz]
    simp -implicitDefEqProofs [-List.map_map, evFn_app, startE, evSeqS_app, evNx_app, evIfS_app, evXk_app, evXm_app, evXf_app, evAk_app, evAm_app, evAf_app, evSet_app, evEx_app, evRet_app, evV_app, evRetV_app, evC_app, evNil_app, evCons_app, evTup_app, evLst_app, evB_app, evBl_app, evAndT_app, evOrT_app, evNotT_app, evAndV_app, evOrV_app, evNotV_app, evIfE_app, ev1_app, ev2_app, evN_app, evF1_app, evCall_app, evSl_app, evSo_app, evNo_app, evYes_app, evSeq_app, evRng1_app, evRng2_app, evEnum_app, evPat_app, evRaise_app, evForR_app, evFor_app, evLc_app, evPar_app, evMut_app, evStore_app, evP0_app, evP1_app, evChGo_nil, evChGo_cons, evChT_app, evChV_app, atE_app, slotO_some, putE_app, putS_some, isOwn_own, at_nil, put_nil, at_one, at_0, at_1, put_0, put_1, shr_lst, shr_tup, shr_int, shr_bl, shr_str, shr_non, sh'_own, sh'_sh, sh'_scr, shrs_nil, shrs_cons, shrs_ints, shrs_bls, fz_int, fz_bl, fz_str, fz_non, fz_own, fz_scr, fz_sh, fz_tup, fzs_nil, fzs_cons, fzs_ints, fzs_bls, vAdd_ii, vSub_ii, vCmp_ii, vInt_bl, vLen_lst, vLen_tup, vList_lst, vTuple_lst, vRev_lst, vSl_lst, asInt_int, seqD_lst, seqD_tup, vSorted_ints, vAll_bls, vAny_bls, frz_nil, frz_cons, frz1_d, frz1_n, frz1_s, clr_nil, clr_cons, setD_nil, setD_cons, patD_nm, patD_tup, patD_lst, patDs_nil, patDs_cons, app2_some, okPat_nil, okPat_cons, ite_ok, sizeLine_big, fzs_repi, vIx_0, vIx_1, vIx_2, vIx_3, vIx_4, shrs_rep, shrs_rev, shrs_app, fzs_app, ifok_and, ifok_or, ifokP_and, ifokP_or, ifokD_and, ifokD_or, ifokDP_and, ifokDP_or, e1, e4]
  unfold s__law_is_four_0
  rw [evIfS_app, evOrT_app, w2, R.bind_ok, if_neg Bool.false_ne_true, w0]
  cases z <;> rfl
theorem lf1g {g : List D → R D} {F G P Q y : D} (p1 : g [F.shr] = .ok P) (p2 : g [G.shr] = .ok Q) (hF : (D.lst .sh [F, G]).shr = .lst .sh [F, G]) (hF1 : F.shr = F) (hG1 : G.shr = G) (hP : P.fz = false) (hQ : Q.fz = false) :
    evPat (.tp [(.nm 2), (.nm 3)]) (evXm [0, 0] (evTup (evCons (evCall 1 g (evCons (ev2 vIx (evV 0) (evC (.int 0))) (evNil))) (evCons (evCall 1 g (evCons (ev2 vIx (evV 0) (evC (.int 1))) (evNil))) (evNil))))) [some (.lst .sh [F, G]), some y, none, none, none, none, none, none, none] = .nx [some (.lst .sh [F, G]), some y, some P, some Q, none, none, none, none, none] := by
  rw [hF1] at p1
  rw [hG1] at p2
  simp -implicitDefEqProofs [-List.map_map, evFn_app, startE, evSeqS_app, evNx_app, evIfS_app, evXk_app, evXm_app, evXf_app, evAk_app, evAm_app, evAf_app, evSet_app, evEx_app, evRet_app, evV_app, evRetV_app, evC_app, evNil_app, evCons_app, evTup_app, evLst_app, evB_app, evBl_app, evAndT_app, evOrT_app, evNotT_app, evAndV_app, evOrV_app, evNotV_app, evIfE_app, ev1_app, ev2_app, evN_app, evF1_app, evCall_app, evSl_app, evSo_app, evNo_app, evYes_app, evSeq_app, evRng1_app, evRng2_app, evEnum_app, evPat_app, evRaise_app, evForR_app, evFor_app, evLc_app, evPar_app, evMut_app, evStore_app, evP0_app, evP1_app, evChGo_nil, evChGo_cons, evChT_app, evChV_app, atE_app, slotO_some, putE_app, putS_some, isOwn_own, at_nil, put_nil, at_one, at_0, at_1, put_0, put_1, shr_lst, shr_tup, shr_int, shr_bl, shr_str, shr_non, sh'_own, sh'_sh, sh'_scr, shrs_nil, shrs_cons, shrs_ints, shrs_bls, fz_int, fz_bl, fz_str, fz_non, fz_own, fz_scr, fz_sh, fz_tup, fzs_nil, fzs_cons, fzs_ints, fzs_bls, vAdd_ii, vSub_ii, vCmp_ii, vInt_bl, vLen_lst, vLen_tup, vList_lst, vTuple_lst, vRev_lst, vSl_lst, asInt_int, seqD_lst, seqD_tup, vSorted_ints, vAll_bls, vAny_bls, frz_nil, frz_cons, frz1_d, frz1_n, frz1_s, clr_nil, clr_cons, setD_nil, setD_cons, patD_nm, patD_tup, patD_lst, patDs_nil, patDs_cons, app2_some, okPat_nil, okPat_cons, ite_ok, sizeLine_big, fzs_repi, vIx_0, vIx_1, vIx_2, vIx_3, vIx_4, shrs_rep, shrs_rev, shrs_app, fzs_app, ifok_and, ifok_or, ifokP_and, ifokP_or, ifokD_and, ifokD_or, ifokDP_and, ifokDP_or, p1, p2, hF, hF1, hG1, hP, hQ]
theorem lf1 {fs rs : List Int} {y : D} (hf : IsOrd fs) (hr : IsOrd rs) (hl : fs.length ≤ 20) (hlr : rs.length = fs.length) :
    s__law_is_four_1 [some (both fs rs), some y, none, none, none, none, none, none, none] = .nx [some (both fs rs), some y, some (pD fs), some (pD rs), none, none, none, none, none] := by
  have p1 : f__law_places [(D.lst .sh (fs.map D.int)).shr] = .ok (pD fs) := by
    rw [shr_lst, shrs_ints]
    exact lplaces_ok hf hl
  have p2 : f__law_places [(D.lst .sh (rs.map D.int)).shr] = .ok (pD rs) := by
    rw [shr_lst, shrs_ints]
    exact lplaces_ok hr (by omega)
  have h1 : ∀ ns : List Int, (D.lst .sh (ns.map D.int)).shr = .lst .sh (ns.map D.int) := fun ns => by rw [shr_lst, shrs_ints, sh'_sh]
  have h2 : ∀ ns : List Int, (pD ns).fz = false := fun ns => by rw [fz_own, fzs_ints]
  unfold s__law_is_four_1
  generalize f__law_places = g at *
  exact lf1g p1 p2 (by rw [shr_lst, shrs_cons, shrs_cons, shrs_nil, h1, h1, sh'_sh]) (h1 _) (h1 _) (h2 _) (h2 _)
theorem lf2 {fs : List Int} {x z : D} {a b c d fa fb fc fd : Int} (L1 : ∀ env : En, env[2]? = some (some (.lst .own ((plc fs).map D.int))) → 7 < env.length → lcGo (.nm 7) evYes e__law_is_four_1 env [.int a, .int b, .int c, .int d] = .ok [.int fa, .int fb, .int fc, .int fd]) :
    s__law_is_four_2 [some x, some (q4 a b c d .sh), some (pD fs), some z, none, none, none, none, none] = .nx [some x, some (q4 a b c d .sh), some (pD fs), some z, some (q4 fa fb fc fd .own), none, none, none, none] := by
  unfold s__law_is_four_2
  simp -implicitDefEqProofs [-List.map_map, evFn_app, startE, evSeqS_app, evNx_app, evIfS_app, evXk_app, evXm_app, evXf_app, evAk_app, evAm_app, evAf_app, evSet_app, evEx_app, evRet_app, evV_app, evRetV_app, evC_app, evNil_app, evCons_app, evTup_app, evLst_app, evB_app, evBl_app, evAndT_app, evOrT_app, evNotT_app, evAndV_app, evOrV_app, evNotV_app, evIfE_app, ev1_app, ev2_app, evN_app, evF1_app, evCall_app, evSl_app, evSo_app, evNo_app, evYes_app, evSeq_app, evRng1_app, evRng2_app, evEnum_app, evPat_app, evRaise_app, evForR_app, evFor_app, evLc_app, evPar_app, evMut_app, evStore_app, evP0_app, evP1_app, evChGo_nil, evChGo_cons, evChT_app, evChV_app, atE_app, slotO_some, putE_app, putS_some, isOwn_own, at_nil, put_nil, at_one, at_0, at_1, put_0, put_1, shr_lst, shr_tup, shr_int, shr_bl, shr_str, shr_non, sh'_own, sh'_sh, sh'_scr, shrs_nil, shrs_cons, shrs_ints, shrs_bls, fz_int, fz_bl, fz_str, fz_non, fz_own, fz_scr, fz_sh, fz_tup, fzs_nil, fzs_cons, fzs_ints, fzs_bls, vAdd_ii, vSub_ii, vCmp_ii, vInt_bl, vLen_lst, vLen_tup, vList_lst, vTuple_lst, vRev_lst, vSl_lst, asInt_int, seqD_lst, seqD_tup, vSorted_ints, vAll_bls, vAny_bls, frz_nil, frz_cons, frz1_d, frz1_n, frz1_s, clr_nil, clr_cons, setD_nil, setD_cons, patD_nm, patD_tup, patD_lst, patDs_nil, patDs_cons, app2_some, okPat_nil, okPat_cons, ite_ok, sizeLine_big, fzs_repi, vIx_0, vIx_1, vIx_2, vIx_3, vIx_4, shrs_rep, shrs_rev, shrs_app, fzs_app, ifok_and, ifok_or, ifokP_and, ifokP_or, ifokD_and, ifokD_or, ifokDP_and, ifokDP_or, L1]
theorem lf3 {rs : List Int} {x z v : D} {a b c d fa fb fc fd : Int} (L1 : ∀ env : En, env[3]? = some (some (.lst .own ((plc rs).map D.int))) → 7 < env.length → lcGo (.nm 7) evYes e__law_is_four_2 env [.int a, .int b, .int c, .int d] = .ok [.int fa, .int fb, .int fc, .int fd]) :
    s__law_is_four_3 [some x, some (q4 a b c d .sh), some z, some (pD rs), some v, none, none, none, none] = .nx [some x, some (q4 a b c d .sh), some z, some (pD rs), some v, some (q4 fa fb fc fd .own), none, none, none] := by
  unfold s__law_is_four_3
  simp -implicitDefEqProofs [-List.map_map, evFn_app, startE, evSeqS_app, evNx_app, evIfS_app, evXk_app, evXm_app, evXf_app, evAk_app, evAm_app, evAf_app, evSet_app, evEx_app, evRet_app, evV_app, evRetV_app, evC_app, evNil_app, evCons_app, evTup_app, evLst_app, evB_app, evBl_app, evAndT_app, evOrT_app, evNotT_app, evAndV_app, evOrV_app, evNotV_app, evIfE_app, ev1_app, ev2_app, evN_app, evF1_app, evCall_app, evSl_app, evSo_app, evNo_app, evYes_app, evSeq_app, evRng1_app, evRng2_app, evEnum_app, evPat_app, evRaise_app, evForR_app, evFor_app, evLc_app, evPar_app, evMut_app, evStore_app, evP0_app, evP1_app, evChGo_nil, evChGo_cons, evChT_app, evChV_app, atE_app, slotO_some, putE_app, putS_some, isOwn_own, at_nil, put_nil, at_one, at_0, at_1, put_0, put_1, shr_lst, shr_tup, shr_int, shr_bl, shr_str, shr_non, sh'_own, sh'_sh, sh'_scr, shrs_nil, shrs_cons, shrs_ints, shrs_bls, fz_int, fz_bl, fz_str, fz_non, fz_own, fz_scr, fz_sh, fz_tup, fzs_nil, fzs_cons, fzs_ints, fzs_bls, vAdd_ii, vSub_ii, vCmp_ii, vInt_bl, vLen_lst, vLen_tup, vList_lst, vTuple_lst, vRev_lst, vSl_lst, asInt_int, seqD_lst, seqD_tup, vSorted_ints, vAll_bls, vAny_bls, frz_nil, frz_cons, frz1_d, frz1_n, frz1_s, clr_nil, clr_cons, setD_nil, setD_cons, patD_nm, patD_tup, patD_lst, patDs_nil, patDs_cons, app2_some, okPat_nil, okPat_cons, ite_ok, sizeLine_big, fzs_repi, vIx_0, vIx_1, vIx_2, vIx_3, vIx_4, shrs_rep, shrs_rev, shrs_app, fzs_app, ifok_and, ifok_or, ifokP_and, ifokP_or, ifokD_and, ifokD_or, ifokDP_and, ifokDP_or, L1]
theorem lf4 {x y z u v : D} {ra rb rc rd : Int} :
    s__law_is_four_4 [some x, some y, some z, some u, some v, some (q4 ra rb rc rd .own), none, none, none] = if fLt ra rb && (decide (rc = rb + 1) && fLt rc rd) then .nx [some x, some y, some z, some u, some v, some (q4 ra rb rc rd .own), none, none, none] else .rt (.bl false) := by
  have e1 : evB (ev2 (vCmp fLt) (ev2 vIx (evV 5) (evC (.int 0))) (ev2 vIx (evV 5) (evC (.int 1)))) [some x, some y, some z, some u, some v, some (q4 ra rb rc rd .own), none, none, none] = .ok (fLt ra rb) := by simp -implicitDefEqProofs [-List.map_map, evFn_app, startE, evSeqS_app, evNx_app, evIfS_app, evXk_app, evXm_app, evXf_app, evAk_app, evAm_app, evAf_app, evSet_app, evEx_app, evRet_app, evV_app, evRetV_app, evC_app, evNil_app, evCons_app, evTup_app, evLst_app, evB_app, evBl_app, evAndT_app, evOrT_app, evNotT_app, evAndV_app, evOrV_app, evNotV_app, evIfE_app, ev1_app, ev2_app, evN_app, evF1_app, evCall_app, evSl_app, evSo_app, evNo_app, evYes_app, evSeq_app, evRng1_app, evRng2_app, evEnum_app, evPat_app, evRaise_app, evForR_app, evFor_app, evLc_app, evPar_app, evMut_app, evStore_app, evP0_app, evP1_app, evChGo_nil, evChGo_cons, evChT_app, evChV_app, atE_app, slotO_some, putE_app, putS_some, isOwn_own, at_nil, put_nil, at_one, at_0, at_1, put_0, put_1, shr_lst, shr_tup, shr_int, shr_bl, shr_str, shr_non, sh'_own, sh'_sh, sh'_scr, shrs_nil, shrs_cons, shrs_ints, shrs_bls, fz_int, fz_bl, fz_str, fz_non, fz_own, fz_scr, fz_sh, fz_tup, fzs_nil, fzs_cons, fzs_ints, fzs_bls, vAdd_ii, vSub_ii, vCmp_ii, vInt_bl, vLen_lst, vLen_tup, vList_lst, vTuple_lst, vRev_lst, vSl_lst, asInt_int, seqD_lst, seqD_tup, vSorted_ints, vAll_bls, vAny_bls, frz_nil, frz_cons, frz1_d, frz1_n, frz1_s, clr_nil, clr_cons, setD_nil, setD_cons, patD_nm, patD_tup, patD_lst, patDs_nil, patDs_cons, app2_some, okPat_nil, okPat_cons, ite_ok, sizeLine_big, fzs_repi, vIx_0, vIx_1, vIx_2, vIx_3, vIx_4, shrs_rep, shrs_rev, shrs_app, fzs_app, ifok_and, ifok_or, ifokP_and, ifokP_or, ifokD_and, ifokD_or, ifokDP_and, ifokDP_or]
  have e2 : evB (ev2 (vEq true) (ev2 vIx (evV 5) (evC (.int 2))) (ev2 vAdd (ev2 vIx (evV 5) (evC (.int 1))) (evC (.int 1)))) [some x, some y, some z, some u, some v, some (q4 ra rb rc rd .own), none, none, none] = .ok (decide (rc = rb + 1) != true) := by simp -implicitDefEqProofs [-List.map_map, evFn_app, startE, evSeqS_app, evNx_app, evIfS_app, evXk_app, evXm_app, evXf_app, evAk_app, evAm_app, evAf_app, evSet_app, evEx_app, evRet_app, evV_app, evRetV_app, evC_app, evNil_app, evCons_app, evTup_app, evLst_app, evB_app, evBl_app, evAndT_app, evOrT_app, evNotT_app, evAndV_app, evOrV_app, evNotV_app, evIfE_app, ev1_app, ev2_app, evN_app, evF1_app, evCall_app, evSl_app, evSo_app, evNo_app, evYes_app, evSeq_app, evRng1_app, evRng2_app, evEnum_app, evPat_app, evRaise_app, evForR_app, evFor_app, evLc_app, evPar_app, evMut_app, evStore_app, evP0_app, evP1_app, evChGo_nil, evChGo_cons, evChT_app, evChV_app, atE_app, slotO_some, putE_app, putS_some, isOwn_own, at_nil, put_nil, at_one, at_0, at_1, put_0, put_1, shr_lst, shr_tup, shr_int, shr_bl, shr_str, shr_non, sh'_own, sh'_sh, sh'_scr, shrs_nil, shrs_cons, shrs_ints, shrs_bls, fz_int, fz_bl, fz_str, fz_non, fz_own, fz_scr, fz_sh, fz_tup, fzs_nil, fzs_cons, fzs_ints, fzs_bls, vAdd_ii, vSub_ii, vCmp_ii, vInt_bl, vLen_lst, vLen_tup, vList_lst, vTuple_lst, vRev_lst, vSl_lst, asInt_int, seqD_lst, seqD_tup, vSorted_ints, vAll_bls, vAny_bls, frz_nil, frz_cons, frz1_d, frz1_n, frz1_s, clr_nil, clr_cons, setD_nil, setD_cons, patD_nm, patD_tup, patD_lst, patDs_nil, patDs_cons, app2_some, okPat_nil, okPat_cons, ite_ok, sizeLine_big, fzs_repi, vIx_0, vIx_1, vIx_2, vIx_3, vIx_4, shrs_rep, shrs_rev, shrs_app, fzs_app, ifok_and, ifok_or, ifokP_and, ifokP_or, ifokD_and, ifokD_or, ifokDP_and, ifokDP_or, vEq_int]
  have e3 : evB (ev2 (vCmp fLt) (ev2 vIx (evV 5) (evC (.int 2))) (ev2 vIx (evV 5) (evC (.int 3)))) [some x, some y, some z, some u, some v, some (q4 ra rb rc rd .own), none, none, none] = .ok (fLt rc rd) := by simp -implicitDefEqProofs [-List.map_map, evFn_app, startE, evSeqS_app, evNx_app, evIfS_app, evXk_app, evXm_app, evXf_app, evAk_app, evAm_app, evAf_app, evSet_app, evEx_app, evRet_app, evV_app, evRetV_app, evC_app, evNil_app, evCons_app, evTup_app, evLst_app, evB_app, evBl_app, evAndT_app, evOrT_app, evNotT_app, evAndV_app, evOrV_app, evNotV_app, evIfE_app, ev1_app, ev2_app, evN_app, evF1_app, evCall_app, evSl_app, evSo_app, evNo_app, evYes_app, evSeq_app, evRng1_app, evRng2_app, evEnum_app, evPat_app, evRaise_app, evForR_app, evFor_app, evLc_app, evPar_app, evMut_app, evStore_app, evP0_app, evP1_app, evChGo_nil, evChGo_cons, evChT_app, evChV_app, atE_app, slotO_some, putE_app, putS_some, isOwn_own, at_nil, put_nil, at_one, at_0, at_1, put_0, put_1, shr_lst, shr_tup, shr_int, shr_bl, shr_str, shr_non, sh'_own, sh'_sh, sh'_scr, shrs_nil, shrs_cons, shrs_ints, shrs_bls, fz_int, fz_bl, fz_str, fz_non, fz_own, fz_scr, fz_sh, fz_tup, fzs_nil, fzs_cons, fzs_ints, fzs_bls, vAdd_ii, vSub_ii, vCmp_ii, vInt_bl, vLen_lst, vLen_tup, vList_lst, vTuple_lst, vRev_lst, vSl_lst, asInt_int, seqD_lst, seqD_tup, vSorted_ints, vAll_bls, vAny_bls, frz_nil, frz_cons, frz1_d, frz1_n, frz1_s, clr_nil, clr_cons, setD_nil, setD_cons, patD_nm, patD_tup, patD_lst, patDs_nil, patDs_cons, app2_some, okPat_nil, okPat_cons, ite_ok, sizeLine_big, fzs_repi, vIx_0, vIx_1, vIx_2, vIx_3, vIx_4, shrs_rep, shrs_rev, shrs_app, fzs_app, ifok_and, ifok_or, ifokP_and, ifokP_or, ifokD_and, ifokD_or, ifokDP_and, ifokDP_or]
  unfold s__law_is_four_4
  rw [evIfS_app, evOrT_app, evOrT_app, evNotT_app, evNotT_app, e1, e2, e3]
  cases fLt ra rb <;> cases decide (rc = rb + 1) <;> cases fLt rc rd <;> rfl
theorem lf5 {x y z u v : D} {fa fb fc fd : Int} :
    s__law_is_four_5 [some x, some y, some z, some u, some (q4 fa fb fc fd .own), some v, none, none, none] = .nx [some x, some y, some z, some u, some (q4 fa fb fc fd .own), some v, some (q4 fc fa fd fb .own), none, none] := by
  have L3 := ways4 fa fb fc fd
  unfold s__law_is_four_5
  simp -implicitDefEqProofs [-List.map_map, evFn_app, startE, evSeqS_app, evNx_app, evIfS_app, evXk_app, evXm_app, evXf_app, evAk_app, evAm_app, evAf_app, evSet_app, evEx_app, evRet_app, evV_app, evRetV_app, evC_app, evNil_app, evCons_app, evTup_app, evLst_app, evB_app, evBl_app, evAndT_app, evOrT_app, evNotT_app, evAndV_app, evOrV_app, evNotV_app, evIfE_app, ev1_app, ev2_app, evN_app, evF1_app, evCall_app, evSl_app, evSo_app, evNo_app, evYes_app, evSeq_app, evRng1_app, evRng2_app, evEnum_app, evPat_app, evRaise_app, evForR_app, evFor_app, evLc_app, evPar_app, evMut_app, evStore_app, evP0_app, evP1_app, evChGo_nil, evChGo_cons, evChT_app, evChV_app, atE_app, slotO_some, putE_app, putS_some, isOwn_own, at_nil, put_nil, at_one, at_0, at_1, put_0, put_1, shr_lst, shr_tup, shr_int, shr_bl, shr_str, shr_non, sh'_own, sh'_sh, sh'_scr, shrs_nil, shrs_cons, shrs_ints, shrs_bls, fz_int, fz_bl, fz_str, fz_non, fz_own, fz_scr, fz_sh, fz_tup, fzs_nil, fzs_cons, fzs_ints, fzs_bls, vAdd_ii, vSub_ii, vCmp_ii, vInt_bl, vLen_lst, vLen_tup, vList_lst, vTuple_lst, vRev_lst, vSl_lst, asInt_int, seqD_lst, seqD_tup, vSorted_ints, vAll_bls, vAny_bls, frz_nil, frz_cons, frz1_d, frz1_n, frz1_s, clr_nil, clr_cons, setD_nil, setD_cons, patD_nm, patD_tup, patD_lst, patDs_nil, patDs_cons, app2_some, okPat_nil, okPat_cons, ite_ok, sizeLine_big, fzs_repi, vIx_0, vIx_1, vIx_2, vIx_3, vIx_4, shrs_rep, shrs_rev, shrs_app, fzs_app, ifok_and, ifok_or, ifokP_and, ifokP_or, ifokD_and, ifokD_or, ifokDP_and, ifokDP_or, L3]
theorem lf6 {x y z u v : D} {fa fb fc fd : Int} (hn : fa ≠ fb ∧ fa ≠ fc ∧ fa ≠ fd ∧ fb ≠ fc ∧ fb ≠ fd ∧ fc ≠ fd) :
    s__law_is_four_6 [some x, some y, some z, some u, some (q4 fa fb fc fd .own), some v, some (q4 fc fa fd fb .own), none, none] = .rt (.bl ((fLt fc fa && (fLt fa fd && fLt fd fb)) || (fLt fb fd && (fLt fd fa && fLt fa fc)))) := by
  have S1 : ∀ o, vSorted [.lst o [.int fa, .int fb, .int fc, .int fd]] = .ok (.lst .own ((srt [fa, fb, fc, fd]).map D.int)) := fun o => vSorted_ints o [fa, fb, fc, fd]
  have V1 := lenset4 hn
  have I1 := in4 hn
  generalize hB : ((fLt fc fa && (fLt fa fd && fLt fd fb)) || (fLt fb fd && (fLt fd fa && fLt fa fc))) = B at *
  have e1 : evB (ev2 (vIn false) (evV 6) (evTup (evCons (evN vSorted (evCons (evV 4) (evNil))) (evCons (ev1 vRev (evN vSorted (evCons (evV 4) (evNil)))) (evNil))))) [some x, some y, some z, some u, some (q4 fa fb fc fd .own), some v, some (q4 fc fa fd fb .own), none, none] = .ok B := by simp -implicitDefEqProofs [-List.map_map, evFn_app, startE, evSeqS_app, evNx_app, evIfS_app, evXk_app, evXm_app, evXf_app, evAk_app, evAm_app, evAf_app, evSet_app, evEx_app, evRet_app, evV_app, evRetV_app, evC_app, evNil_app, evCons_app, evTup_app, evLst_app, evB_app, evBl_app, evAndT_app, evOrT_app, evNotT_app, evAndV_app, evOrV_app, evNotV_app, evIfE_app, ev1_app, ev2_app, evN_app, evF1_app, evCall_app, evSl_app, evSo_app, evNo_app, evYes_app, evSeq_app, evRng1_app, evRng2_app, evEnum_app, evPat_app, evRaise_app, evForR_app, evFor_app, evLc_app, evPar_app, evMut_app, evStore_app, evP0_app, evP1_app, evChGo_nil, evChGo_cons, evChT_app, evChV_app, atE_app, slotO_some, putE_app, putS_some, isOwn_own, at_nil, put_nil, at_one, at_0, at_1, put_0, put_1, shr_lst, shr_tup, shr_int, shr_bl, shr_str, shr_non, sh'_own, sh'_sh, sh'_scr, shrs_nil, shrs_cons, shrs_ints, shrs_bls, fz_int, fz_bl, fz_str, fz_non, fz_own, fz_scr, fz_sh, fz_tup, fzs_nil, fzs_cons, fzs_ints, fzs_bls, vAdd_ii, vSub_ii, vCmp_ii, vInt_bl, vLen_lst, vLen_tup, vList_lst, vTuple_lst, vRev_lst, vSl_lst, asInt_int, seqD_lst, seqD_tup, vSorted_ints, vAll_bls, vAny_bls, frz_nil, frz_cons, frz1_d, frz1_n, frz1_s, clr_nil, clr_cons, setD_nil, setD_cons, patD_nm, patD_tup, patD_lst, patDs_nil, patDs_cons, app2_some, okPat_nil, okPat_cons, ite_ok, sizeLine_big, fzs_repi, vIx_0, vIx_1, vIx_2, vIx_3, vIx_4, shrs_rep, shrs_rev, shrs_app, fzs_app, ifok_and, ifok_or, ifokP_and, ifokP_or, ifokD_and, ifokD_or, ifokDP_and, ifokDP_or, S1, I1]
  have e2 : evB (ev2 (vEq false) (ev1 vLenSet (evV 4)) (evC (.int 4))) [some x, some y, some z, some u, some (q4 fa fb fc fd .own), some v, some (q4 fc fa fd fb .own), none, none] = .ok true := by simp -implicitDefEqProofs [-List.map_map, evFn_app, startE, evSeqS_app, evNx_app, evIfS_app, evXk_app, evXm_app, evXf_app, evAk_app, evAm_app, evAf_app, evSet_app, evEx_app, evRet_app, evV_app, evRetV_app, evC_app, evNil_app, evCons_app, evTup_app, evLst_app, evB_app, evBl_app, evAndT_app, evOrT_app, evNotT_app, evAndV_app, evOrV_app, evNotV_app, evIfE_app, ev1_app, ev2_app, evN_app, evF1_app, evCall_app, evSl_app, evSo_app, evNo_app, evYes_app, evSeq_app, evRng1_app, evRng2_app, evEnum_app, evPat_app, evRaise_app, evForR_app, evFor_app, evLc_app, evPar_app, evMut_app, evStore_app, evP0_app, evP1_app, evChGo_nil, evChGo_cons, evChT_app, evChV_app, atE_app, slotO_some, putE_app, putS_some, isOwn_own, at_nil, put_nil, at_one, at_0, at_1, put_0, put_1, shr_lst, shr_tup, shr_int, shr_bl, shr_str, shr_non, sh'_own, sh'_sh, sh'_scr, shrs_nil, shrs_cons, shrs_ints, shrs_bls, fz_int, fz_bl, fz_str, fz_non, fz_own, fz_scr, fz_sh, fz_tup, fzs_nil, fzs_cons, fzs_ints, fzs_bls, vAdd_ii, vSub_ii, vCmp_ii, vInt_bl, vLen_lst, vLen_tup, vList_lst, vTuple_lst, vRev_lst, vSl_lst, asInt_int, seqD_lst, seqD_tup, vSorted_ints, vAll_bls, vAny_bls, frz_nil, frz_cons, frz1_d, frz1_n, frz1_s, clr_nil, clr_cons, setD_nil, setD_cons, patD_nm, patD_tup, patD_lst, patDs_nil, patDs_cons, app2_some, okPat_nil, okPat_cons, ite_ok, sizeLine_big, fzs_repi, vIx_0, vIx_1, vIx_2, vIx_3, vIx_4, shrs_rep, shrs_rev, shrs_app, fzs_app, ifok_and, ifok_or, ifokP_and, ifokP_or, ifokD_and, ifokD_or, ifokDP_and, ifokDP_or, V1, vEq_int]
  unfold s__law_is_four_6
  rw [evRet_app, evXk_app, evAndV_app, e1, R.bind_ok]
  cases B with
  | false => rfl
  | true => rw [if_pos rfl, e2]; rfl
theorem lfour_ok {fs rs : List Int} (hf : IsOrd fs) (hr : IsOrd rs) (h0 : 1 ≤ fs.length) (hl : fs.length ≤ 20) (hlr : rs.length = fs.length) (q : List Int) (hq : q.length ≤ 1000) :
    f__law_is_four [both fs rs, .lst .sh (q.map D.int)] = .ok (.bl (isF fs rs q)) := by
  have e1 : lcGo (.nm 7) c__law_is_four_0 e__law_is_four_0 [some (both fs rs), some (.lst .sh (q.map D.int)), none, none, none, none, none, none, none] (q.map D.int) = .ok ((q.filter fun z => !inR fs.length z).map D.int) := by
    rw [lcGo_ints (fun z => !inR fs.length z) D.int (by
      intro z _
      constructor
      · unfold c__law_is_four_0
        simp -implicitDefEqProofs [-List.map_map, evFn_app, startE, evSeqS_app, evNx_app, evIfS_app, evXk_app, evXm_app, evXf_app, evAk_app, evAm_app, evAf_app, evSet_app, evEx_app, evRet_app, evV_app, evRetV_app, evC_app, evNil_app, evCons_app, evTup_app, evLst_app, evB_app, evBl_app, evAndT_app, evOrT_app, evNotT_app, evAndV_app, evOrV_app, evNotV_app, evIfE_app, ev1_app, ev2_app, evN_app, evF1_app, evCall_app, evSl_app, evSo_app, evNo_app, evYes_app, evSeq_app, evRng1_app, evRng2_app, evEnum_app, evPat_app, evRaise_app, evForR_app, evFor_app, evLc_app, evPar_app, evMut_app, evStore_app, evP0_app, evP1_app, evChGo_nil, evChGo_cons, evChT_app, evChV_app, atE_app, slotO_some, putE_app, putS_some, isOwn_own, at_nil, put_nil, at_one, at_0, at_1, put_0, put_1, shr_lst, shr_tup, shr_int, shr_bl, shr_str, shr_non, sh'_own, sh'_sh, sh'_scr, shrs_nil, shrs_cons, shrs_ints, shrs_bls, fz_int, fz_bl, fz_str, fz_non, fz_own, fz_scr, fz_sh, fz_tup, fzs_nil, fzs_cons, fzs_ints, fzs_bls, vAdd_ii, vSub_ii, vCmp_ii, vInt_bl, vLen_lst, vLen_tup, vList_lst, vTuple_lst, vRev_lst, vSl_lst, asInt_int, seqD_lst, seqD_tup, vSorted_ints, vAll_bls, vAny_bls, frz_nil, frz_cons, frz1_d, frz1_n, frz1_s, clr_nil, clr_cons, setD_nil, setD_cons, patD_nm, patD_tup, patD_lst, patDs_nil, patDs_cons, app2_some, okPat_nil, okPat_cons, ite_ok, sizeLine_big, fzs_repi, vIx_0, vIx_1, vIx_2, vIx_3, vIx_4, shrs_rep, shrs_rev, shrs_app, fzs_app, ifok_and, ifok_or, ifokP_and, ifokP_or, ifokD_and, ifokD_or, ifokDP_and, ifokDP_or]
        simp [inR, fLe, fLt]
      · intro _
        unfold e__law_is_four_0
        simp -implicitDefEqProofs [-List.map_map, evFn_app, startE, evSeqS_app, evNx_app, evIfS_app, evXk_app, evXm_app, evXf_app, evAk_app, evAm_app, evAf_app, evSet_app, evEx_app, evRet_app, evV_app, evRetV_app, evC_app, evNil_app, evCons_app, evTup_app, evLst_app, evB_app, evBl_app, evAndT_app, evOrT_app, evNotT_app, evAndV_app, evOrV_app, evNotV_app, evIfE_app, ev1_app, ev2_app, evN_app, evF1_app, evCall_app, evSl_app, evSo_app, evNo_app, evYes_app, evSeq_app, evRng1_app, evRng2_app, evEnum_app, evPat_app, evRaise_app, evForR_app, evFor_app, evLc_app, evPar_app, evMut_app, evStore_app, evP0_app, evP1_app, evChGo_nil, evChGo_cons, evChT_app, evChV_app, atE_app, slotO_some, putE_app, putS_some, isOwn_own, at_nil, put_nil, at_one, at_0, at_1, put_0, put_1, shr_lst, shr_tup, shr_int, shr_bl, shr_str, shr_non, sh'_own, sh'_sh, sh'_scr, shrs_nil, shrs_cons, shrs_ints, shrs_bls, fz_int, fz_bl, fz_str, fz_non, fz_own, fz_scr, fz_sh, fz_tup, fzs_nil, fzs_cons, fzs_ints, fzs_bls, vAdd_ii, vSub_ii, vCmp_ii, vInt_bl, vLen_lst, vLen_tup, vList_lst, vTuple_lst, vRev_lst, vSl_lst, asInt_int, seqD_lst, seqD_tup, vSorted_ints, vAll_bls, vAny_bls, frz_nil, frz_cons, frz1_d, frz1_n, frz1_s, clr_nil, clr_cons, setD_nil, setD_cons, patD_nm, patD_tup, patD_lst, patDs_nil, patDs_cons, app2_some, okPat_nil, okPat_cons, ite_ok, sizeLine_big, fzs_repi, vIx_0, vIx_1, vIx_2, vIx_3, vIx_4, shrs_rep, shrs_rev, shrs_app, fzs_app, ifok_and, ifok_or, ifokP_and, ifokP_or, ifokD_and, ifokD_or, ifokDP_and, ifokDP_or])]
  by_cases h4 : q.length = 4
  · match q, h4 with
    | [a, b, c, d], _ =>
      have s0 := lf0 (a := a) (b := b) (c := c) (d := d) (x := both fs rs) e1 rfl
      have hst : f__law_is_four [both fs rs, q4 a b c d .sh] = O.fn (evSeqS s__law_is_four_0 (evSeqS s__law_is_four_1 (evSeqS s__law_is_four_2 (evSeqS s__law_is_four_3 (evSeqS s__law_is_four_4 (evSeqS s__law_is_four_5 s__law_is_four_6))))) [some (both fs rs), some (q4 a b c d .sh), none, none, none, none, none, none, none]) := by
        unfold f__law_is_four
        rw [evFn_app]
        rfl
      show f__law_is_four [both fs rs, q4 a b c d .sh] = _
      rw [hst, evSeqS_app, s0]
      cases hF : decide ((List.filter (fun z => !inR fs.length z) [a, b, c, d]) = []) with
      | false =>
        rw [isF_other fs rs _ (.inr ?_)]
        · rfl
        · cases hc : [a, b, c, d].all (inR fs.length) with
          | false => rfl
          | true =>
            have := of_decide_eq_false hF
            refine absurd (List.filter_eq_nil_iff.mpr fun x hx => ?_) this
            rw [List.all_eq_true.mp hc x hx]
            decide
      | true =>
        have hF := of_decide_eq_true hF
        have hc : ∀ x ∈ [a, b, c, d], 0 ≤ x ∧ x < fs.length := fun x hx => by
          have := (List.filter_eq_nil_iff.mp hF) x hx
          simpa [inR] using this
        have ha := hc a (by simp)
        have hb := hc b (by simp)
        have hcc := hc c (by simp)
        have hd := hc d (by simp)
        have hrl : ∀ x : Int, (0 ≤ x ∧ x < fs.length) → (0 ≤ x ∧ x < rs.length) := fun x h => by rw [hlr]; exact h
        have r2 : isF fs rs [a, b, c, d] = fourB (pl rs a) (pl rs b) (pl rs c) (pl rs d) (pl fs a) (pl fs b) (pl fs c) (pl fs d) := by
          show (_ && _) = _
          have r1 : (inR fs.length a && inR fs.length b && inR fs.length c && inR fs.length d) = true := by
            simp [inR, ha, hb, hcc, hd]
          rw [r1, Bool.true_and]
        have L1 : ∀ env : En, env[2]? = some (some (.lst .own ((plc fs).map D.int))) → 7 < env.length → lcGo (.nm 7) evYes e__law_is_four_1 env [.int a, .int b, .int c, .int d] = .ok [.int (pl fs a), .int (pl fs b), .int (pl fs c), .int (pl fs d)] := fun env h1 h2 => comp4 (i := 2) (k := 7) (ns := fs) ha hb hcc hd env h1 h2 (by decide)
        have L2 : ∀ env : En, env[3]? = some (some (.lst .own ((plc rs).map D.int))) → 7 < env.length → lcGo (.nm 7) evYes e__law_is_four_2 env [.int a, .int b, .int c, .int d] = .ok [.int (pl rs a), .int (pl rs b), .int (pl rs c), .int (pl rs d)] := fun env h1 h2 => comp4 (i := 3) (k := 7) (ns := rs) (hrl a ha) (hrl b hb) (hrl c hcc) (hrl d hd) env h1 h2 (by decide)
        have inj := fun x y hx hy (e : pl fs x = pl fs y) => pl_inj hf (x := x) (y := y) hx hy e
        have dn : ∀ x y : Int, pl rs x ≠ pl rs y → x ≠ y := fun x y h e => h (by rw [e])
        have hF : fourB (pl rs a) (pl rs b) (pl rs c) (pl rs d) (pl fs a) (pl fs b) (pl fs c) (pl fs d) = ((fLt (pl rs a) (pl rs b) && (decide (pl rs c = pl rs b + 1) && fLt (pl rs c) (pl rs d))) && ((fLt (pl fs c) (pl fs a) && (fLt (pl fs a) (pl fs d) && fLt (pl fs d) (pl fs b))) || (fLt (pl fs b) (pl fs d) && (fLt (pl fs d) (pl fs a) && fLt (pl fs a) (pl fs c))))) := by
          simp [fourB, fLt, Bool.and_assoc]
        have nd : (fLt (pl rs a) (pl rs b) && (decide (pl rs c = pl rs b + 1) && fLt (pl rs c) (pl rs d))) = true → pl fs a ≠ pl fs b ∧ pl fs a ≠ pl fs c ∧ pl fs a ≠ pl fs d ∧ pl fs b ≠ pl fs c ∧ pl fs b ≠ pl fs d ∧ pl fs c ≠ pl fs d := by
          intro h
          simp [fLt] at h
          refine ⟨fun e => dn a b (by omega) (inj _ _ ha hb e), fun e => dn a c (by omega) (inj _ _ ha hcc e), fun e => dn a d (by omega) (inj _ _ ha hd e), fun e => dn b c (by omega) (inj _ _ hb hcc e), fun e => dn b d (by omega) (inj _ _ hb hd e), fun e => dn c d (by omega) (inj _ _ hcc hd e)⟩
        rw [if_pos rfl, seq_nx, evSeqS_app, lf1 hf hr hl hlr, seq_nx, evSeqS_app, lf2 L1, seq_nx, evSeqS_app, lf3 L2, seq_nx, evSeqS_app, lf4, r2, hF]
        cases hX : (fLt (pl rs a) (pl rs b) && (decide (pl rs c = pl rs b + 1) && fLt (pl rs c) (pl rs d))) with
        | false => rfl
        | true => rw [if_pos rfl, seq_nx, evSeqS_app, lf5, seq_nx, lf6 (nd hX)]; rfl
  · rw [isF_other fs rs q (.inl h4)]
    have h5 : ¬ ((q.length : Int) = 4) := by omega
    unfold f__law_is_four
    have w2 : evB (ev2 (vEq true) (evF1 vLen (evCons (evV 1) (evNil))) (evC (.int 4))) [some (both fs rs), some (.lst .sh (q.map D.int)), none, none, none, none, none, none, none] = .ok true := by
      simp -implicitDefEqProofs [-List.map_map, evFn_app, startE, evSeqS_app, evNx_app, evIfS_app, evXk_app, evXm_app, evXf_app, evAk_app, evAm_app, evAf_app, evSet_app, evEx_app, evRet_app, evV_app, evRetV_app, evC_app, evNil_app, evCons_app, evTup_app, evLst_app, evB_app, evBl_app, evAndT_app, evOrT_app, evNotT_app, evAndV_app, evOrV_app, evNotV_app, evIfE_app, ev1_app, ev2_app, evN_app, evF1_app, evCall_app, evSl_app, evSo_app, evNo_app, evYes_app, evSeq_app, evRng1_app, evRng2_app, evEnum_app, evPat_app, evRaise_app, evForR_app, evFor_app, evLc_app, evPar_app, evMut_app, evStore_app, evP0_app, evP1_app, evChGo_nil, evChGo_cons, evChT_app, evChV_app, atE_app, slotO_some, putE_app, putS_some, isOwn_own, at_nil, put_nil, at_one, at_0, at_1, put_0, put_1, shr_lst, shr_tup, shr_int, shr_bl, shr_str, shr_non, sh'_own, sh'_sh, sh'_scr, shrs_nil, shrs_cons, shrs_ints, shrs_bls, fz_int, fz_bl, fz_str, fz_non, fz_own, fz_scr, fz_sh, fz_tup, fzs_nil, fzs_cons, fzs_ints, fzs_bls, vAdd_ii, vSub_ii, vCmp_ii, vInt_bl, vLen_lst, vLen_tup, vList_lst, vTuple_lst, vRev_lst, vSl_lst, asInt_int, seqD_lst, seqD_tup, vSorted_ints, vAll_bls, vAny_bls, frz_nil, frz_cons, frz1_d, frz1_n, frz1_s, clr_nil, clr_cons, setD_nil, setD_cons, patD_nm, patD_tup, patD_lst, patDs_nil, patDs_cons, app2_some, okPat_nil, okPat_cons, ite_ok, sizeLine_big, fzs_repi, vIx_0, vIx_1, vIx_2, vIx_3, vIx_4, shrs_rep, shrs_rev, shrs_app, fzs_app, ifok_and, ifok_or, ifokP_and, ifokP_or, ifokD_and, ifokD_or, ifokDP_and, ifokDP_or, vEq_int, h5]
    have hst : s__law_is_four_0 [some (both fs rs), some (.lst .sh (q.map D.int)), none, none, none, none, none, none, none] = .rt (.bl false) := by
      unfold s__law_is_four_0
      rw [evIfS_app, evOrT_app, w2]
      rfl
    rw [evFn_app, evSeqS_app]
    show O.fn (O.seq (s__law_is_four_0 [some (both fs rs), some (.lst .sh (q.map D.int)), none, none, none, none, none, none, none]) _) = _
    rw [hst]
    rfl

/-! ### the orders -/
theorem ins_ord {ns : List Int} {k i : Nat} (h : ns.Perm (iota k)) (hi : i ≤ k) : (ns.take i ++ [(k : Int)] ++ ns.drop i).Perm (iota (k + 1)) := by
  have h1 : (ns.take i ++ [(k : Int)] ++ ns.drop i).Perm ((k : Int) :: ns) := by
    have := List.perm_middle (a := (k : Int)) (l₁ := ns.take i) (l₂ := ns.drop i)
    rw [List.append_assoc]
    refine this.trans ?_
    rw [List.take_append_drop]
  have h2 : iota (k + 1) = iota k ++ [(k : Int)] := by
    unfold iota
    rw [List.range_succ, List.map_append]
    rfl
  rw [h2]
  exact h1.trans ((List.Perm.cons _ h).trans (List.perm_append_singleton _ _).symm)
theorem ord_of {ns : List Int} {k : Nat} (h : ns.Perm (iota k)) : IsOrd ns ∧ ns.length = k := by
  have hl : ns.length = k := by rw [h.length_eq]; unfold iota; simp
  exact ⟨by unfold IsOrd; rw [hl]; exact h, hl⟩
theorem orders_ok (c : Int) : ∃ fs rs : List Int, f__law_a_orders [.int c] = .ok (.lst .own [.lst .own (fs.map D.int), .lst .own (rs.map D.int)]) ∧ IsOrd fs ∧ IsOrd rs ∧ 1 ≤ fs.length ∧ fs.length ≤ 20 ∧ rs.length = fs.length := by
  obtain ⟨ps, hd, hl, hp⟩ := draws_ok c 44 1000 (by decide) (by decide) (by decide) (by decide)
  have hl : ps.length = 44 := hl
  have hx : ∀ (o : Fl) (i : Nat) (h : i < 44), vIx (.lst o (ps.map D.int)) (.int (i : Nat)) = .ok (.int (ps.getD i 0)) := fun o i h => by
    refine vIx_get ?_
    rw [List.getElem?_map, List.getElem?_eq_getElem (by omega), List.getD_eq_getElem?_getD, List.getElem?_eq_getElem (by omega)]
    rfl
  have x0 := fun o => hx o 0 (by decide)
  have x1 := fun o => hx o 1 (by decide)
  have s0 : s__law_a_orders_0 [some (.int c), none, none, none, none] = .nx [some (.int c), some (.lst .own (ps.map D.int)), none, none, none] := by
    unfold s__law_a_orders_0
    generalize f__law_draws = g at *
    simp -implicitDefEqProofs [-List.map_map, evFn_app, startE, evSeqS_app, evNx_app, evIfS_app, evXk_app, evXm_app, evXf_app, evAk_app, evAm_app, evAf_app, evSet_app, evEx_app, evRet_app, evV_app, evRetV_app, evC_app, evNil_app, evCons_app, evTup_app, evLst_app, evB_app, evBl_app, evAndT_app, evOrT_app, evNotT_app, evAndV_app, evOrV_app, evNotV_app, evIfE_app, ev1_app, ev2_app, evN_app, evF1_app, evCall_app, evSl_app, evSo_app, evNo_app, evYes_app, evSeq_app, evRng1_app, evRng2_app, evEnum_app, evPat_app, evRaise_app, evForR_app, evFor_app, evLc_app, evPar_app, evMut_app, evStore_app, evP0_app, evP1_app, evChGo_nil, evChGo_cons, evChT_app, evChV_app, atE_app, slotO_some, putE_app, putS_some, isOwn_own, at_nil, put_nil, at_one, at_0, at_1, put_0, put_1, shr_lst, shr_tup, shr_int, shr_bl, shr_str, shr_non, sh'_own, sh'_sh, sh'_scr, shrs_nil, shrs_cons, shrs_ints, shrs_bls, fz_int, fz_bl, fz_str, fz_non, fz_own, fz_scr, fz_sh, fz_tup, fzs_nil, fzs_cons, fzs_ints, fzs_bls, vAdd_ii, vSub_ii, vCmp_ii, vInt_bl, vLen_lst, vLen_tup, vList_lst, vTuple_lst, vRev_lst, vSl_lst, asInt_int, seqD_lst, seqD_tup, vSorted_ints, vAll_bls, vAny_bls, frz_nil, frz_cons, frz1_d, frz1_n, frz1_s, clr_nil, clr_cons, setD_nil, setD_cons, patD_nm, patD_tup, patD_lst, patDs_nil, patDs_cons, app2_some, okPat_nil, okPat_cons, ite_ok, sizeLine_big, fzs_repi, vIx_0, vIx_1, vIx_2, vIx_3, vIx_4, shrs_rep, shrs_rev, shrs_app, fzs_app, ifok_and, ifok_or, ifokP_and, ifokP_or, ifokD_and, ifokD_or, ifokDP_and, ifokDP_or, hd]
  have hm3 : ps.getD 1 0 % 3 = 0 ∨ ps.getD 1 0 % 3 = 1 ∨ ps.getD 1 0 % 3 = 2 := by omega
  obtain ⟨n, hn, s1⟩ : ∃ n : Nat, (1 ≤ n ∧ n ≤ 20) ∧ s__law_a_orders_1 [some (.int c), some (.lst .own (ps.map D.int)), none, none, none] = .nx [some (.int c), some (.lst .own (ps.map D.int)), some (.int (n : Nat)), none, none] := by
    have e1 : vMod (.int (ps.getD 1 0)) (.int 3) = .ok (.int (ps.getD 1 0 % 3)) := vMod_ii (by decide)
    have key : ∀ m : Int, (m = 20 ∨ m = 8 ∨ m = 5) → ∃ n : Nat, (1 ≤ n ∧ n ≤ 20) ∧ 1 + ps.getD 0 0 % m = (n : Nat) ∧ vMod (.int (ps.getD 0 0)) (.int m) = .ok (.int (ps.getD 0 0 % m)) := fun m hm =>
      ⟨(1 + ps.getD 0 0 % m).toNat, by rcases hm with h | h | h <;> subst h <;> omega, by rcases hm with h | h | h <;> subst h <;> omega, vMod_ii (by omega)⟩
    rcases hm3 with h | h | h
    · obtain ⟨n, h1, h2, h3⟩ := key 20 (.inl rfl)
      refine ⟨n, h1, ?_⟩
      unfold s__law_a_orders_1
      rw [h] at e1
      rw [← h2]
      generalize ps.getD 1 0 = p1 at *
      generalize ps.getD 0 0 = p0 at *
      have x0' : vIx (.lst .sh (ps.map D.int)) (.int 0) = .ok (.int p0) := x0 .sh
      have x1' : vIx (.lst .sh (ps.map D.int)) (.int 1) = .ok (.int p1) := x1 .sh
      simp -implicitDefEqProofs [-List.map_map, evFn_app, startE, evSeqS_app, evNx_app, evIfS_app, evXk_app, evXm_app, evXf_app, evAk_app, evAm_app, evAf_app, evSet_app, evEx_app, evRet_app, evV_app, evRetV_app, evC_app, evNil_app, evCons_app, evTup_app, evLst_app, evB_app, evBl_app, evAndT_app, evOrT_app, evNotT_app, evAndV_app, evOrV_app, evNotV_app, evIfE_app, ev1_app, ev2_app, evN_app, evF1_app, evCall_app, evSl_app, evSo_app, evNo_app, evYes_app, evSeq_app, evRng1_app, evRng2_app, evEnum_app, evPat_app, evRaise_app, evForR_app, evFor_app, evLc_app, evPar_app, evMut_app, evStore_app, evP0_app, evP1_app, evChGo_nil, evChGo_cons, evChT_app, evChV_app, atE_app, slotO_some, putE_app, putS_some, isOwn_own, at_nil, put_nil, at_one, at_0, at_1, put_0, put_1, shr_lst, shr_tup, shr_int, shr_bl, shr_str, shr_non, sh'_own, sh'_sh, sh'_scr, shrs_nil, shrs_cons, shrs_ints, shrs_bls, fz_int, fz_bl, fz_str, fz_non, fz_own, fz_scr, fz_sh, fz_tup, fzs_nil, fzs_cons, fzs_ints, fzs_bls, vAdd_ii, vSub_ii, vCmp_ii, vInt_bl, vLen_lst, vLen_tup, vList_lst, vTuple_lst, vRev_lst, vSl_lst, asInt_int, seqD_lst, seqD_tup, vSorted_ints, vAll_bls, vAny_bls, frz_nil, frz_cons, frz1_d, frz1_n, frz1_s, clr_nil, clr_cons, setD_nil, setD_cons, patD_nm, patD_tup, patD_lst, patDs_nil, patDs_cons, app2_some, okPat_nil, okPat_cons, ite_ok, sizeLine_big, fzs_repi, vIx_0, vIx_1, vIx_2, vIx_3, vIx_4, shrs_rep, shrs_rev, shrs_app, fzs_app, ifok_and, ifok_or, ifokP_and, ifokP_or, ifokD_and, ifokD_or, ifokDP_and, ifokDP_or, x0', x1', e1, h3]
    · obtain ⟨n, h1, h2, h3⟩ := key 8 (.inr (.inl rfl))
      refine ⟨n, h1, ?_⟩
      unfold s__law_a_orders_1
      rw [h] at e1
      rw [← h2]
      generalize ps.getD 1 0 = p1 at *
      generalize ps.getD 0 0 = p0 at *
      have x0' : vIx (.lst .sh (ps.map D.int)) (.int 0) = .ok (.int p0) := x0 .sh
      have x1' : vIx (.lst .sh (ps.map D.int)) (.int 1) = .ok (.int p1) := x1 .sh
      simp -implicitDefEqProofs [-List.map_map, evFn_app, startE, evSeqS_app, evNx_app, evIfS_app, evXk_app, evXm_app, evXf_app, evAk_app, evAm_app, evAf_app, evSet_app, evEx_app, evRet_app, evV_app, evRetV_app, evC_app, evNil_app, evCons_app, evTup_app, evLst_app, evB_app, evBl_app, evAndT_app, evOrT_app, evNotT_app, evAndV_app, evOrV_app, evNotV_app, evIfE_app, ev1_app, ev2_app, evN_app, evF1_app, evCall_app, evSl_app, evSo_app, evNo_app, evYes_app, evSeq_app, evRng1_app, evRng2_app, evEnum_app, evPat_app, evRaise_app, evForR_app, evFor_app, evLc_app, evPar_app, evMut_app, evStore_app, evP0_app, evP1_app, evChGo_nil, evChGo_cons, evChT_app, evChV_app, atE_app, slotO_some, putE_app, putS_some, isOwn_own, at_nil, put_nil, at_one, at_0, at_1, put_0, put_1, shr_lst, shr_tup, shr_int, shr_bl, shr_str, shr_non, sh'_own, sh'_sh, sh'_scr, shrs_nil, shrs_cons, shrs_ints, shrs_bls, fz_int, fz_bl, fz_str, fz_non, fz_own, fz_scr, fz_sh, fz_tup, fzs_nil, fzs_cons, fzs_ints, fzs_bls, vAdd_ii, vSub_ii, vCmp_ii, vInt_bl, vLen_lst, vLen_tup, vList_lst, vTuple_lst, vRev_lst, vSl_lst, asInt_int, seqD_lst, seqD_tup, vSorted_ints, vAll_bls, vAny_bls, frz_nil, frz_cons, frz1_d, frz1_n, frz1_s, clr_nil, clr_cons, setD_nil, setD_cons, patD_nm, patD_tup, patD_lst, patDs_nil, patDs_cons, app2_some, okPat_nil, okPat_cons, ite_ok, sizeLine_big, fzs_repi, vIx_0, vIx_1, vIx_2, vIx_3, vIx_4, shrs_rep, shrs_rev, shrs_app, fzs_app, ifok_and, ifok_or, ifokP_and, ifokP_or, ifokD_and, ifokD_or, ifokDP_and, ifokDP_or, x0', x1', e1, h3]
    · obtain ⟨n, h1, h2, h3⟩ := key 5 (.inr (.inr rfl))
      refine ⟨n, h1, ?_⟩
      unfold s__law_a_orders_1
      rw [h] at e1
      rw [← h2]
      generalize ps.getD 1 0 = p1 at *
      generalize ps.getD 0 0 = p0 at *
      have x0' : vIx (.lst .sh (ps.map D.int)) (.int 0) = .ok (.int p0) := x0 .sh
      have x1' : vIx (.lst .sh (ps.map D.int)) (.int 1) = .ok (.int p1) := x1 .sh
      simp -implicitDefEqProofs [-List.map_map, evFn_app, startE, evSeqS_app, evNx_app, evIfS_app, evXk_app, evXm_app, evXf_app, evAk_app, evAm_app, evAf_app, evSet_app, evEx_app, evRet_app, evV_app, evRetV_app, evC_app, evNil_app, evCons_app, evTup_app, evLst_app, evB_app, evBl_app, evAndT_app, evOrT_app, evNotT_app, evAndV_app, evOrV_app, evNotV_app, evIfE_app, ev1_app, ev2_app, evN_app, evF1_app, evCall_app, evSl_app, evSo_app, evNo_app, evYes_app, evSeq_app, evRng1_app, evRng2_app, evEnum_app, evPat_app, evRaise_app, evForR_app, evFor_app, evLc_app, evPar_app, evMut_app, evStore_app, evP0_app, evP1_app, evChGo_nil, evChGo_cons, evChT_app, evChV_app, atE_app, slotO_some, putE_app, putS_some, isOwn_own, at_nil, put_nil, at_one, at_0, at_1, put_0, put_1, shr_lst, shr_tup, shr_int, shr_bl, shr_str, shr_non, sh'_own, sh'_sh, sh'_scr, shrs_nil, shrs_cons, shrs_ints, shrs_bls, fz_int, fz_bl, fz_str, fz_non, fz_own, fz_scr, fz_sh, fz_tup, fzs_nil, fzs_cons, fzs_ints, fzs_bls, vAdd_ii, vSub_ii, vCmp_ii, vInt_bl, vLen_lst, vLen_tup, vList_lst, vTuple_lst, vRev_lst, vSl_lst, asInt_int, seqD_lst, seqD_tup, vSorted_ints, vAll_bls, vAny_bls, frz_nil, frz_cons, frz1_d, frz1_n, frz1_s, clr_nil, clr_cons, setD_nil, setD_cons, patD_nm, patD_tup, patD_lst, patDs_nil, patDs_cons, app2_some, okPat_nil, okPat_cons, ite_ok, sizeLine_big, fzs_repi, vIx_0, vIx_1, vIx_2, vIx_3, vIx_4, shrs_rep, shrs_rev, shrs_app, fzs_app, ifok_and, ifok_or, ifokP_and, ifokP_or, ifokD_and, ifokD_or, ifokDP_and, ifokDP_or, x0', x1', e1, h3]
  have s2 : s__law_a_orders_2 [some (.int c), some (.lst .own (ps.map D.int)), some (.int (n : Nat)), none, none] = .nx [some (.int c), some (.lst .own (ps.map D.int)), some (.int (n : Nat)), some (.lst .own [.lst .own [], .lst .own []]), none] := by
    unfold s__law_a_orders_2
    simp -implicitDefEqProofs [-List.map_map, evFn_app, startE, evSeqS_app, evNx_app, evIfS_app, evXk_app, evXm_app, evXf_app, evAk_app, evAm_app, evAf_app, evSet_app, evEx_app, evRet_app, evV_app, evRetV_app, evC_app, evNil_app, evCons_app, evTup_app, evLst_app, evB_app, evBl_app, evAndT_app, evOrT_app, evNotT_app, evAndV_app, evOrV_app, evNotV_app, evIfE_app, ev1_app, ev2_app, evN_app, evF1_app, evCall_app, evSl_app, evSo_app, evNo_app, evYes_app, evSeq_app, evRng1_app, evRng2_app, evEnum_app, evPat_app, evRaise_app, evForR_app, evFor_app, evLc_app, evPar_app, evMut_app, evStore_app, evP0_app, evP1_app, evChGo_nil, evChGo_cons, evChT_app, evChV_app, atE_app, slotO_some, putE_app, putS_some, isOwn_own, at_nil, put_nil, at_one, at_0, at_1, put_0, put_1, shr_lst, shr_tup, shr_int, shr_bl, shr_str, shr_non, sh'_own, sh'_sh, sh'_scr, shrs_nil, shrs_cons, shrs_ints, shrs_bls, fz_int, fz_bl, fz_str, fz_non, fz_own, fz_scr, fz_sh, fz_tup, fzs_nil, fzs_cons, fzs_ints, fzs_bls, vAdd_ii, vSub_ii, vCmp_ii, vInt_bl, vLen_lst, vLen_tup, vList_lst, vTuple_lst, vRev_lst, vSl_lst, asInt_int, seqD_lst, seqD_tup, vSorted_ints, vAll_bls, vAny_bls, frz_nil, frz_cons, frz1_d, frz1_n, frz1_s, clr_nil, clr_cons, setD_nil, setD_cons, patD_nm, patD_tup, patD_lst, patDs_nil, patDs_cons, app2_some, okPat_nil, okPat_cons, ite_ok, sizeLine_big, fzs_repi, vIx_0, vIx_1, vIx_2, vIx_3, vIx_4, shrs_rep, shrs_rev, shrs_app, fzs_app, ifok_and, ifok_or, ifokP_and, ifokP_or, ifokD_and, ifokD_or, ifokDP_and, ifokDP_or]
  have key := forGo_n (p := .nm 4) (cl := [4]) (body := b__law_a_orders_5)
    (fun i env => ∃ fs rs : List Int, env = [some (.int c), some (.lst .own (ps.map D.int)), some (.int (n : Nat)), some (.lst .own [.lst .own (fs.map D.int), .lst .own (rs.map D.int)]), none] ∧ fs.Perm (iota i) ∧ rs.Perm (iota i))
    (ds := rgL 0 n) (env := [some (.int c), some (.lst .own (ps.map D.int)), some (.int (n : Nat)), some (.lst .own [.lst .own [], .lst .own []]), none])
    ⟨[], [], rfl, List.Perm.refl _, List.Perm.refl _⟩ (by
    rintro i d env hd ⟨fs, rs, rfl, hf, hr⟩
    obtain ⟨hi, rfl⟩ := rgL_get hd
    have hfl := (ord_of hf).2
    have hrl := (ord_of hr).2
    have f1 : vIx (.lst .sh (ps.map D.int)) (.int (2 + (i : Nat))) = .ok (.int (ps.getD (2 + i) 0)) := hx .sh (2 + i) (by omega)
    have f2 : vIx (.lst .sh (ps.map D.int)) (.int (22 + (i : Nat))) = .ok (.int (ps.getD (22 + i) 0)) := hx .sh (22 + i) (by omega)
    generalize ps.getD (2 + i) 0 = p1 at *
    generalize ps.getD (22 + i) 0 = p2 at *
    have m1 : ∀ x : Int, vMod (.int x) (.int ((i : Nat) + 1)) = .ok (.int (x % ((i : Nat) + 1))) := fun x => vMod_ii (by omega)
    have g1 : ∀ x : Int, ∀ ns : List Int, ns.length = i → mInsert (.lst .own (ns.map D.int)) [.int (x % ((i : Nat) + 1)), .int (i : Nat)] = some (.lst .own ((ns.take (x % ((i : Nat) + 1)).toNat ++ [((i : Nat) : Int)] ++ ns.drop (x % ((i : Nat) + 1)).toNat).map D.int)) := fun x ns hn => by
      have b1 : 0 ≤ x % ((i : Nat) + 1) := Int.emod_nonneg _ (by omega)
      have b2 : x % ((i : Nat) + 1) < ((i : Nat) + 1) := Int.emod_lt_of_pos _ (by omega)
      rw [mInsert_ok (by rw [List.length_map, PySem.sizeLine_eq]; omega) b1 (by omega)]
      simp [List.map_take, List.map_drop]
    have g2 := g1 p1 fs hfl
    have g3 := g1 p2 rs hrl
    have b1 : (p1 % ((i : Nat) + 1)).toNat ≤ i := by
      have := Int.emod_lt_of_pos p1 (b := ((i : Nat) : Int) + 1) (by omega)
      omega
    have b2 : (p2 % ((i : Nat) + 1)).toNat ≤ i := by
      have := Int.emod_lt_of_pos p2 (b := ((i : Nat) : Int) + 1) (by omega)
      omega
    have q1 := ins_ord hf b1
    have q2 := ins_ord hr b2
    generalize fs.take (p1 % ((i : Nat) + 1)).toNat ++ [((i : Nat) : Int)] ++ fs.drop (p1 % ((i : Nat) + 1)).toNat = fs' at *
    generalize rs.take (p2 % ((i : Nat) + 1)).toNat ++ [((i : Nat) : Int)] ++ rs.drop (p2 % ((i : Nat) + 1)).toNat = rs' at *
    have t1 : s__law_a_orders_3 [some (.int c), some (.lst .own (ps.map D.int)), some (.int (n : Nat)), some (.lst .own [.lst .own (fs.map D.int), .lst .own (rs.map D.int)]), some (.int (i : Nat))] = .nx [some (.int c), some (.lst .own (ps.map D.int)), some (.int (n : Nat)), some (.lst .own [.lst .own (fs'.map D.int), .lst .own (rs.map D.int)]), some (.int (i : Nat))] := by
      unfold s__law_a_orders_3
      simp -implicitDefEqProofs [-List.map_map, evFn_app, startE, evSeqS_app, evNx_app, evIfS_app, evXk_app, evXm_app, evXf_app, evAk_app, evAm_app, evAf_app, evSet_app, evEx_app, evRet_app, evV_app, evRetV_app, evC_app, evNil_app, evCons_app, evTup_app, evLst_app, evB_app, evBl_app, evAndT_app, evOrT_app, evNotT_app, evAndV_app, evOrV_app, evNotV_app, evIfE_app, ev1_app, ev2_app, evN_app, evF1_app, evCall_app, evSl_app, evSo_app, evNo_app, evYes_app, evSeq_app, evRng1_app, evRng2_app, evEnum_app, evPat_app, evRaise_app, evForR_app, evFor_app, evLc_app, evPar_app, evMut_app, evStore_app, evP0_app, evP1_app, evChGo_nil, evChGo_cons, evChT_app, evChV_app, atE_app, slotO_some, putE_app, putS_some, isOwn_own, at_nil, put_nil, at_one, at_0, at_1, put_0, put_1, shr_lst, shr_tup, shr_int, shr_bl, shr_str, shr_non, sh'_own, sh'_sh, sh'_scr, shrs_nil, shrs_cons, shrs_ints, shrs_bls, fz_int, fz_bl, fz_str, fz_non, fz_own, fz_scr, fz_sh, fz_tup, fzs_nil, fzs_cons, fzs_ints, fzs_bls, vAdd_ii, vSub_ii, vCmp_ii, vInt_bl, vLen_lst, vLen_tup, vList_lst, vTuple_lst, vRev_lst, vSl_lst, asInt_int, seqD_lst, seqD_tup, vSorted_ints, vAll_bls, vAny_bls, frz_nil, frz_cons, frz1_d, frz1_n, frz1_s, clr_nil, clr_cons, setD_nil, setD_cons, patD_nm, patD_tup, patD_lst, patDs_nil, patDs_cons, app2_some, okPat_nil, okPat_cons, ite_ok, sizeLine_big, fzs_repi, vIx_0, vIx_1, vIx_2, vIx_3, vIx_4, shrs_rep, shrs_rev, shrs_app, fzs_app, ifok_and, ifok_or, ifokP_and, ifokP_or, ifokD_and, ifokD_or, ifokDP_and, ifokDP_or, f1, m1, g2]
    have t2 : s__law_a_orders_4 [some (.int c), some (.lst .own (ps.map D.int)), some (.int (n : Nat)), some (.lst .own [.lst .own (fs'.map D.int), .lst .own (rs.map D.int)]), some (.int (i : Nat))] = .nx [some (.int c), some (.lst .own (ps.map D.int)), some (.int (n : Nat)), some (.lst .own [.lst .own (fs'.map D.int), .lst .own (rs'.map D.int)]), some (.int (i : Nat))] := by
      unfold s__law_a_orders_4
      simp -implicitDefEqProofs [-List.map_map, evFn_app, startE, evSeqS_app, evNx_app, evIfS_app, evXk_app, evXm_app, evXf_app, evAk_app, evAm_app, evAf_app, evSet_app, evEx_app, evRet_app, evV_app, evRetV_app, evC_app, evNil_app, evCons_app, evTup_app, evLst_app, evB_app, evBl_app, evAndT_app, evOrT_app, evNotT_app, evAndV_app, evOrV_app, evNotV_app, evIfE_app, ev1_app, ev2_app, evN_app, evF1_app, evCall_app, evSl_app, evSo_app, evNo_app, evYes_app, evSeq_app, evRng1_app, evRng2_app, evEnum_app, evPat_app, evRaise_app, evForR_app, evFor_app, evLc_app, evPar_app, evMut_app, evStore_app, evP0_app, evP1_app, evChGo_nil, evChGo_cons, evChT_app, evChV_app, atE_app, slotO_some, putE_app, putS_some, isOwn_own, at_nil, put_nil, at_one, at_0, at_1, put_0, put_1, shr_lst, shr_tup, shr_int, shr_bl, shr_str, shr_non, sh'_own, sh'_sh, sh'_scr, shrs_nil, shrs_cons, shrs_ints, shrs_bls, fz_int, fz_bl, fz_str, fz_non, fz_own, fz_scr, fz_sh, fz_tup, fzs_nil, fzs_cons, fzs_ints, fzs_bls, vAdd_ii, vSub_ii, vCmp_ii, vInt_bl, vLen_lst, vLen_tup, vList_lst, vTuple_lst, vRev_lst, vSl_lst, asInt_int, seqD_lst, seqD_tup, vSorted_ints, vAll_bls, vAny_bls, frz_nil, frz_cons, frz1_d, frz1_n, frz1_s, clr_nil, clr_cons, setD_nil, setD_cons, patD_nm, patD_tup, patD_lst, patDs_nil, patDs_cons, app2_some, okPat_nil, okPat_cons, ite_ok, sizeLine_big, fzs_repi, vIx_0, vIx_1, vIx_2, vIx_3, vIx_4, shrs_rep, shrs_rev, shrs_app, fzs_app, ifok_and, ifok_or, ifokP_and, ifokP_or, ifokD_and, ifokD_or, ifokDP_and, ifokDP_or, f2, m1, g3]
    refine ⟨[(4, .int (0 + (i : Nat)))], [some (.int c), some (.lst .own (ps.map D.int)), some (.int (n : Nat)), some (.lst .own [.lst .own (fs'.map D.int), .lst .own (rs'.map D.int)]), some (.int (i : Nat))], rfl, rfl, ?_, fs', rs', ?_, q1, q2⟩
    · rw [Int.zero_add]
      unfold b__law_a_orders_5
      rw [evSeqS_app]
      show O.seq (s__law_a_orders_3 [some (.int c), some (.lst .own (ps.map D.int)), some (.int (n : Nat)), some (.lst .own [.lst .own (fs.map D.int), .lst .own (rs.map D.int)]), some (.int (i : Nat))]) _ = _
      rw [t1, seq_nx, t2]
    · rfl)
  obtain ⟨env', q1, fs, rs, rfl, hf, hr⟩ := key
  rw [rgL_len] at hf hr
  have s3 : s__law_a_orders_5 [some (.int c), some (.lst .own (ps.map D.int)), some (.int (n : Nat)), some (.lst .own [.lst .own [], .lst .own []]), none] = .nx [some (.int c), some (.lst .own (ps.map D.int)), some (.int (n : Nat)), some (.lst .own [.lst .own (fs.map D.int), .lst .own (rs.map D.int)]), none] := by
    have e2 : rng1A [.int (n : Nat)] = .ok (rgL 0 n) := by
      rw [rng1A_ok' (by omega), Int.toNat_natCast]
    unfold s__law_a_orders_5
    simp -implicitDefEqProofs [-List.map_map, evFn_app, startE, evSeqS_app, evNx_app, evIfS_app, evXk_app, evXm_app, evXf_app, evAk_app, evAm_app, evAf_app, evSet_app, evEx_app, evRet_app, evV_app, evRetV_app, evC_app, evNil_app, evCons_app, evTup_app, evLst_app, evB_app, evBl_app, evAndT_app, evOrT_app, evNotT_app, evAndV_app, evOrV_app, evNotV_app, evIfE_app, ev1_app, ev2_app, evN_app, evF1_app, evCall_app, evSl_app, evSo_app, evNo_app, evYes_app, evSeq_app, evRng1_app, evRng2_app, evEnum_app, evPat_app, evRaise_app, evForR_app, evFor_app, evLc_app, evPar_app, evMut_app, evStore_app, evP0_app, evP1_app, evChGo_nil, evChGo_cons, evChT_app, evChV_app, atE_app, slotO_some, putE_app, putS_some, isOwn_own, at_nil, put_nil, at_one, at_0, at_1, put_0, put_1, shr_lst, shr_tup, shr_int, shr_bl, shr_str, shr_non, sh'_own, sh'_sh, sh'_scr, shrs_nil, shrs_cons, shrs_ints, shrs_bls, fz_int, fz_bl, fz_str, fz_non, fz_own, fz_scr, fz_sh, fz_tup, fzs_nil, fzs_cons, fzs_ints, fzs_bls, vAdd_ii, vSub_ii, vCmp_ii, vInt_bl, vLen_lst, vLen_tup, vList_lst, vTuple_lst, vRev_lst, vSl_lst, asInt_int, seqD_lst, seqD_tup, vSorted_ints, vAll_bls, vAny_bls, frz_nil, frz_cons, frz1_d, frz1_n, frz1_s, clr_nil, clr_cons, setD_nil, setD_cons, patD_nm, patD_tup, patD_lst, patDs_nil, patDs_cons, app2_some, okPat_nil, okPat_cons, ite_ok, sizeLine_big, fzs_repi, vIx_0, vIx_1, vIx_2, vIx_3, vIx_4, shrs_rep, shrs_rev, shrs_app, fzs_app, ifok_and, ifok_or, ifokP_and, ifokP_or, ifokD_and, ifokD_or, ifokDP_and, ifokDP_or, e2, q1]
  refine ⟨fs, rs, ?_, (ord_of hf).1, (ord_of hr).1, by rw [(ord_of hf).2]; exact hn.1, by rw [(ord_of hf).2]; exact hn.2, by rw [(ord_of hf).2, (ord_of hr).2]⟩
  unfold f__law_a_orders
  rw [evFn_app, evSeqS_app]
  show O.fn (O.seq (s__law_a_orders_0 [some (.int c), none, none, none, none]) _) = _
  rw [s0, seq_nx, evSeqS_app, s1, seq_nx, evSeqS_app, s2, seq_nx, evSeqS_app, s3, seq_nx]
  rfl
end K07


set_option Elab.async false
set_option linter.all false
set_option maxRecDepth 100000
set_option maxHeartbeats 4000000
namespace K07
open VA L2
theorem cutL_map {α β : Type} (f : α → β) (xs : List α) (lo hi : Option Int) : cutL (xs.map f) lo hi = (cutL xs lo hi).map f := by
  unfold cutL
  rw [List.length_map, List.map_take, List.map_drop]
/-! ### some four -/
section
variable {g : List D → R D} {fs rs ps : List Int} {kd : D}
abbrev E7 (fs rs ps : List Int) (x3 x4 x5 x6 : Option D) : En := [some (both fs rs), some (.lst .sh (ps.map D.int)), some (.lst .sh (rs.map D.int)), x3, x4, x5, x6]
def Rs (fs rs ps : List Int) (x3 : Option D) (r : O) : Prop := (∃ x4 x5 x6, r = .nx (E7 fs rs ps x3 x4 x5 x6)) ∨ ∃ q : List Int, q.length = 4 ∧ r = .rt (.lst .own (q.map D.int))
def Rs6 (fs rs ps : List Int) (x3 x4 x5 : Option D) (r : O) : Prop := (∃ x6, r = .nx (E7 fs rs ps x3 x4 x5 x6)) ∨ ∃ q : List Int, q.length = 4 ∧ r = .rt (.lst .own (q.map D.int))
theorem both_shr (fs rs : List Int) : (both fs rs).shr = both fs rs := by
  rw [shr_lst, shrs_cons, shrs_cons, shrs_nil, shr_lst, shr_lst, shrs_ints, shrs_ints, sh'_sh]
theorem sf2 (hg : ∀ q : List Int, q.length ≤ 1000 → f__law_is_four [both fs rs, .lst .sh (q.map D.int)] = .ok (.bl (isF fs rs q))) {at_ a d : Int} (h0 : 0 ≤ at_) (h1 : at_ + 1 < rs.length) :
    Rs6 fs rs ps (some kd) (some (.int at_)) (some (.int a)) (b__law_some_four_2 (E7 fs rs ps (some kd) (some (.int at_)) (some (.int a)) (some (.int d)))) := by
  obtain ⟨x, hx⟩ : ∃ x, atI rs at_ = some x := ⟨_, by rw [atI_pos h0 (by omega)]; exact List.getElem?_eq_getElem (by omega)⟩
  obtain ⟨y, hy⟩ : ∃ y, atI rs (at_ + 1) = some y := ⟨_, by rw [atI_pos (by omega) (by omega)]; exact List.getElem?_eq_getElem (by omega)⟩
  have v1 := vIx_ints (o := .sh) hx
  have v2 := vIx_ints (o := .sh) hy
  have g1 : f__law_is_four [both fs rs, .lst .sh [.int a, .int x, .int y, .int d]] = .ok (.bl (isF fs rs [a, x, y, d])) := hg [a, x, y, d] (by simp)
  have bs := both_shr fs rs
  have e1 : evB (evCall 2 f__law_is_four (evCons (evV 0) (evCons (evLst (evCons (evV 5) (evCons (ev2 vIx (evV 2) (evV 4)) (evCons (ev2 vIx (evV 2) (ev2 vAdd (evV 4) (evC (.int 1)))) (evCons (evV 6) (evNil)))))) (evNil)))) (E7 fs rs ps (some kd) (some (.int at_)) (some (.int a)) (some (.int d))) = .ok (isF fs rs [a, x, y, d]) := by
    generalize f__law_is_four = g at *
    generalize isF fs rs [a, x, y, d] = B at *
    simp -implicitDefEqProofs [-List.map_map, evFn_app, startE, evSeqS_app, evNx_app, evIfS_app, evXk_app, evXm_app, evXf_app, evAk_app, evAm_app, evAf_app, evSet_app, evEx_app, evRet_app, evV_app, evRetV_app, evC_app, evNil_app, evCons_app, evTup_app, evLst_app, evB_app, evBl_app, evAndT_app, evOrT_app, evNotT_app, evAndV_app, evOrV_app, evNotV_app, evIfE_app, ev1_app, ev2_app, evN_app, evF1_app, evCall_app, evSl_app, evSo_app, evNo_app, evYes_app, evSeq_app, evRng1_app, evRng2_app, evEnum_app, evPat_app, evRaise_app, evForR_app, evFor_app, evLc_app, evPar_app, evMut_app, evStore_app, evP0_app, evP1_app, evChGo_nil, evChGo_cons, evChT_app, evChV_app, atE_app, slotO_some, putE_app, putS_some, isOwn_own, at_nil, put_nil, at_one, at_0, at_1, put_0, put_1, shr_lst, shr_tup, shr_int, shr_bl, shr_str, shr_non, sh'_own, sh'_sh, sh'_scr, shrs_nil, shrs_cons, shrs_ints, shrs_bls, fz_int, fz_bl, fz_str, fz_non, fz_own, fz_scr, fz_sh, fz_tup, fzs_nil, fzs_cons, fzs_ints, fzs_bls, vAdd_ii, vSub_ii, vCmp_ii, vInt_bl, vLen_lst, vLen_tup, vList_lst, vTuple_lst, vRev_lst, vSl_lst, asInt_int, seqD_lst, seqD_tup, vSorted_ints, vAll_bls, vAny_bls, frz_nil, frz_cons, frz1_d, frz1_n, frz1_s, clr_nil, clr_cons, setD_nil, setD_cons, patD_nm, patD_tup, patD_lst, patDs_nil, patDs_cons, app2_some, okPat_nil, okPat_cons, ite_ok, sizeLine_big, fzs_repi, vIx_0, vIx_1, vIx_2, vIx_3, vIx_4, shrs_rep, shrs_rev, shrs_app, fzs_app, ifok_and, ifok_or, ifokP_and, ifokP_or, ifokD_and, ifokD_or, ifokDP_and, ifokDP_or, v1, v2, g1]
  have e2 : evRet (evXm [5, 2, 4, 2, 4, 6] (evLst (evCons (evV 5) (evCons (ev2 vIx (evV 2) (evV 4)) (evCons (ev2 vIx (evV 2) (ev2 vAdd (evV 4) (evC (.int 1)))) (evCons (evV 6) (evNil))))))) (E7 fs rs ps (some kd) (some (.int at_)) (some (.int a)) (some (.int d))) = .rt (.lst .own [.int a, .int x, .int y, .int d]) := by
    simp -implicitDefEqProofs [-List.map_map, evFn_app, startE, evSeqS_app, evNx_app, evIfS_app, evXk_app, evXm_app, evXf_app, evAk_app, evAm_app, evAf_app, evSet_app, evEx_app, evRet_app, evV_app, evRetV_app, evC_app, evNil_app, evCons_app, evTup_app, evLst_app, evB_app, evBl_app, evAndT_app, evOrT_app, evNotT_app, evAndV_app, evOrV_app, evNotV_app, evIfE_app, ev1_app, ev2_app, evN_app, evF1_app, evCall_app, evSl_app, evSo_app, evNo_app, evYes_app, evSeq_app, evRng1_app, evRng2_app, evEnum_app, evPat_app, evRaise_app, evForR_app, evFor_app, evLc_app, evPar_app, evMut_app, evStore_app, evP0_app, evP1_app, evChGo_nil, evChGo_cons, evChT_app, evChV_app, atE_app, slotO_some, putE_app, putS_some, isOwn_own, at_nil, put_nil, at_one, at_0, at_1, put_0, put_1, shr_lst, shr_tup, shr_int, shr_bl, shr_str, shr_non, sh'_own, sh'_sh, sh'_scr, shrs_nil, shrs_cons, shrs_ints, shrs_bls, fz_int, fz_bl, fz_str, fz_non, fz_own, fz_scr, fz_sh, fz_tup, fzs_nil, fzs_cons, fzs_ints, fzs_bls, vAdd_ii, vSub_ii, vCmp_ii, vInt_bl, vLen_lst, vLen_tup, vList_lst, vTuple_lst, vRev_lst, vSl_lst, asInt_int, seqD_lst, seqD_tup, vSorted_ints, vAll_bls, vAny_bls, frz_nil, frz_cons, frz1_d, frz1_n, frz1_s, clr_nil, clr_cons, setD_nil, setD_cons, patD_nm, patD_tup, patD_lst, patDs_nil, patDs_cons, app2_some, okPat_nil, okPat_cons, ite_ok, sizeLine_big, fzs_repi, vIx_0, vIx_1, vIx_2, vIx_3, vIx_4, shrs_rep, shrs_rev, shrs_app, fzs_app, ifok_and, ifok_or, ifokP_and, ifokP_or, ifokD_and, ifokD_or, ifokDP_and, ifokDP_or, v1, v2]
  unfold b__law_some_four_2
  rw [evIfS_app, e1]
  cases isF fs rs [a, x, y, d] with
  | true => exact .inr ⟨[a, x, y, d], rfl, by rw [ite_t, e2]; rfl⟩
  | false => exact .inl ⟨_, rfl⟩
theorem sf3 (hg : ∀ q : List Int, q.length ≤ 1000 → f__law_is_four [both fs rs, .lst .sh (q.map D.int)] = .ok (.bl (isF fs rs q))) {at_ a : Int} (h0 : 0 ≤ at_) (h1 : at_ + 1 < rs.length) :
    Rs6 fs rs ps (some kd) (some (.int at_)) (some (.int a)) (b__law_some_four_3 (E7 fs rs ps (some kd) (some (.int at_)) (some (.int a)) none)) := by
  have e1 : b__law_some_four_3 (E7 fs rs ps (some kd) (some (.int at_)) (some (.int a)) none) = forGo (.nm 6) [6] b__law_some_four_2 ((cutL rs (some (at_ + 2)) none).map D.int) (E7 fs rs ps (some kd) (some (.int at_)) (some (.int a)) none) := by
    unfold b__law_some_four_3
    generalize b__law_some_four_2 = bd at *
    generalize both fs rs = bb at *
    simp -implicitDefEqProofs [-List.map_map, evFn_app, startE, evSeqS_app, evNx_app, evIfS_app, evXk_app, evXm_app, evXf_app, evAk_app, evAm_app, evAf_app, evSet_app, evEx_app, evRet_app, evV_app, evRetV_app, evC_app, evNil_app, evCons_app, evTup_app, evLst_app, evB_app, evBl_app, evAndT_app, evOrT_app, evNotT_app, evAndV_app, evOrV_app, evNotV_app, evIfE_app, ev1_app, ev2_app, evN_app, evF1_app, evCall_app, evSl_app, evSo_app, evNo_app, evYes_app, evSeq_app, evRng1_app, evRng2_app, evEnum_app, evPat_app, evRaise_app, evForR_app, evFor_app, evLc_app, evPar_app, evMut_app, evStore_app, evP0_app, evP1_app, evChGo_nil, evChGo_cons, evChT_app, evChV_app, atE_app, slotO_some, putE_app, putS_some, isOwn_own, at_nil, put_nil, at_one, at_0, at_1, put_0, put_1, shr_lst, shr_tup, shr_int, shr_bl, shr_str, shr_non, sh'_own, sh'_sh, sh'_scr, shrs_nil, shrs_cons, shrs_ints, shrs_bls, fz_int, fz_bl, fz_str, fz_non, fz_own, fz_scr, fz_sh, fz_tup, fzs_nil, fzs_cons, fzs_ints, fzs_bls, vAdd_ii, vSub_ii, vCmp_ii, vInt_bl, vLen_lst, vLen_tup, vList_lst, vTuple_lst, vRev_lst, vSl_lst, asInt_int, seqD_lst, seqD_tup, vSorted_ints, vAll_bls, vAny_bls, frz_nil, frz_cons, frz1_d, frz1_n, frz1_s, clr_nil, clr_cons, setD_nil, setD_cons, patD_nm, patD_tup, patD_lst, patDs_nil, patDs_cons, app2_some, okPat_nil, okPat_cons, ite_ok, sizeLine_big, fzs_repi, vIx_0, vIx_1, vIx_2, vIx_3, vIx_4, shrs_rep, shrs_rev, shrs_app, fzs_app, ifok_and, ifok_or, ifokP_and, ifokP_or, ifokD_and, ifokD_or, ifokDP_and, ifokDP_or, cutL_map]
  rw [e1]
  refine forGo_rt (fun _ env => env = E7 fs rs ps (some kd) (some (.int at_)) (some (.int a)) none) (Rs6 fs rs ps (some kd) (some (.int at_)) (some (.int a))) 0 rfl ?_ ?_
  · rintro i d env hd rfl
    rw [List.getElem?_map] at hd
    obtain ⟨z, _, rfl⟩ := Option.map_eq_some_iff.mp hd
    refine ⟨[(6, .int z)], rfl, rfl, ?_⟩
    have := sf2 (kd := kd) (ps := ps) (a := a) (d := z) hg h0 h1
    rcases this with ⟨x6, h⟩ | ⟨q, h1, h2⟩
    · exact .inl ⟨_, .inl h, rfl⟩
    · exact .inr (.inl ⟨_, h2, .inr ⟨q, h1, rfl⟩⟩)
  · rintro env' rfl
    exact .inl ⟨_, rfl⟩
theorem sf5 (hg : ∀ q : List Int, q.length ≤ 1000 → f__law_is_four [both fs rs, .lst .sh (q.map D.int)] = .ok (.bl (isF fs rs q))) {k : Int} {x0 : Int} (hx0 : vIx (.lst .sh (ps.map D.int)) (.int 0) = .ok (.int x0)) (hl : 2 ≤ rs.length) :
    Rs fs rs ps (some (.int k)) (b__law_some_four_5 (E7 fs rs ps (some (.int k)) none none none)) := by
  have m1 : vMod (.int (x0 + k)) (.int ((rs.length : Nat) - 1)) = .ok (.int ((x0 + k) % ((rs.length : Nat) - 1))) := vMod_ii (by omega)
  have b1 : 0 ≤ (x0 + k) % ((rs.length : Nat) - 1) := Int.emod_nonneg _ (by omega)
  have b2 : (x0 + k) % ((rs.length : Nat) - 1) < (rs.length : Nat) - 1 := Int.emod_lt_of_pos _ (by omega)
  generalize (x0 + k) % ((rs.length : Nat) - 1) = at_ at *
  have e1 : s__law_some_four_1 (E7 fs rs ps (some (.int k)) none none none) = .nx (E7 fs rs ps (some (.int k)) (some (.int at_)) none none) := by
    unfold s__law_some_four_1
    generalize both fs rs = bb at *
    simp -implicitDefEqProofs [-List.map_map, evFn_app, startE, evSeqS_app, evNx_app, evIfS_app, evXk_app, evXm_app, evXf_app, evAk_app, evAm_app, evAf_app, evSet_app, evEx_app, evRet_app, evV_app, evRetV_app, evC_app, evNil_app, evCons_app, evTup_app, evLst_app, evB_app, evBl_app, evAndT_app, evOrT_app, evNotT_app, evAndV_app, evOrV_app, evNotV_app, evIfE_app, ev1_app, ev2_app, evN_app, evF1_app, evCall_app, evSl_app, evSo_app, evNo_app, evYes_app, evSeq_app, evRng1_app, evRng2_app, evEnum_app, evPat_app, evRaise_app, evForR_app, evFor_app, evLc_app, evPar_app, evMut_app, evStore_app, evP0_app, evP1_app, evChGo_nil, evChGo_cons, evChT_app, evChV_app, atE_app, slotO_some, putE_app, putS_some, isOwn_own, at_nil, put_nil, at_one, at_0, at_1, put_0, put_1, shr_lst, shr_tup, shr_int, shr_bl, shr_str, shr_non, sh'_own, sh'_sh, sh'_scr, shrs_nil, shrs_cons, shrs_ints, shrs_bls, fz_int, fz_bl, fz_str, fz_non, fz_own, fz_scr, fz_sh, fz_tup, fzs_nil, fzs_cons, fzs_ints, fzs_bls, vAdd_ii, vSub_ii, vCmp_ii, vInt_bl, vLen_lst, vLen_tup, vList_lst, vTuple_lst, vRev_lst, vSl_lst, asInt_int, seqD_lst, seqD_tup, vSorted_ints, vAll_bls, vAny_bls, frz_nil, frz_cons, frz1_d, frz1_n, frz1_s, clr_nil, clr_cons, setD_nil, setD_cons, patD_nm, patD_tup, patD_lst, patDs_nil, patDs_cons, app2_some, okPat_nil, okPat_cons, ite_ok, sizeLine_big, fzs_repi, vIx_0, vIx_1, vIx_2, vIx_3, vIx_4, shrs_rep, shrs_rev, shrs_app, fzs_app, ifok_and, ifok_or, ifokP_and, ifokP_or, ifokD_and, ifokD_or, ifokDP_and, ifokDP_or, hx0, m1]
  have e2 : s__law_some_four_2 (E7 fs rs ps (some (.int k)) (some (.int at_)) none none) = forGo (.nm 5) [5, 6] b__law_some_four_3 ((cutL rs none (some at_)).map D.int) (E7 fs rs ps (some (.int k)) (some (.int at_)) none none) := by
    unfold s__law_some_four_2
    generalize b__law_some_four_3 = bd at *
    generalize both fs rs = bb at *
    simp -implicitDefEqProofs [-List.map_map, evFn_app, startE, evSeqS_app, evNx_app, evIfS_app, evXk_app, evXm_app, evXf_app, evAk_app, evAm_app, evAf_app, evSet_app, evEx_app, evRet_app, evV_app, evRetV_app, evC_app, evNil_app, evCons_app, evTup_app, evLst_app, evB_app, evBl_app, evAndT_app, evOrT_app, evNotT_app, evAndV_app, evOrV_app, evNotV_app, evIfE_app, ev1_app, ev2_app, evN_app, evF1_app, evCall_app, evSl_app, evSo_app, evNo_app, evYes_app, evSeq_app, evRng1_app, evRng2_app, evEnum_app, evPat_app, evRaise_app, evForR_app, evFor_app, evLc_app, evPar_app, evMut_app, evStore_app, evP0_app, evP1_app, evChGo_nil, evChGo_cons, evChT_app, evChV_app, atE_app, slotO_some, putE_app, putS_some, isOwn_own, at_nil, put_nil, at_one, at_0, at_1, put_0, put_1, shr_lst, shr_tup, shr_int, shr_bl, shr_str, shr_non, sh'_own, sh'_sh, sh'_scr, shrs_nil, shrs_cons, shrs_ints, shrs_bls, fz_int, fz_bl, fz_str, fz_non, fz_own, fz_scr, fz_sh, fz_tup, fzs_nil, fzs_cons, fzs_ints, fzs_bls, vAdd_ii, vSub_ii, vCmp_ii, vInt_bl, vLen_lst, vLen_tup, vList_lst, vTuple_lst, vRev_lst, vSl_lst, asInt_int, seqD_lst, seqD_tup, vSorted_ints, vAll_bls, vAny_bls, frz_nil, frz_cons, frz1_d, frz1_n, frz1_s, clr_nil, clr_cons, setD_nil, setD_cons, patD_nm, patD_tup, patD_lst, patDs_nil, patDs_cons, app2_some, okPat_nil, okPat_cons, ite_ok, sizeLine_big, fzs_repi, vIx_0, vIx_1, vIx_2, vIx_3, vIx_4, shrs_rep, shrs_rev, shrs_app, fzs_app, ifok_and, ifok_or, ifokP_and, ifokP_or, ifokD_and, ifokD_or, ifokDP_and, ifokDP_or, cutL_map]
  unfold b__law_some_four_5
  rw [evSeqS_app, e1, seq_nx, e2]
  refine forGo_rt (fun _ env => env = E7 fs rs ps (some (.int k)) (some (.int at_)) none none) (Rs fs rs ps (some (.int k))) 0 rfl ?_ ?_
  · rintro i d env hd rfl
    rw [List.getElem?_map] at hd
    obtain ⟨z, _, rfl⟩ := Option.map_eq_some_iff.mp hd
    refine ⟨[(5, .int z)], rfl, rfl, ?_⟩
    have := sf3 (kd := .int k) (ps := ps) (a := z) hg b1 (by omega : at_ + 1 < rs.length)
    rcases this with ⟨x6, h⟩ | ⟨q, h1, h2⟩
    · exact .inl ⟨_, .inl h, rfl⟩
    · exact .inr (.inl ⟨_, h2, .inr ⟨q, h1, rfl⟩⟩)
  · rintro env' rfl
    exact .inl ⟨_, _, _, rfl⟩
theorem some_four_ok (hf : IsOrd fs) (hr : IsOrd rs) (h0 : 1 ≤ fs.length) (hl : fs.length ≤ 20) (hlr : rs.length = fs.length) (hps : 12 ≤ ps.length) :
    ∃ q : List Int, q.length = 4 ∧ f__law_some_four [both fs rs, .lst .sh (ps.map D.int)] = .ok (.lst .own (q.map D.int)) := by
  have hg : ∀ q : List Int, q.length ≤ 1000 → f__law_is_four [both fs rs, .lst .sh (q.map D.int)] = .ok (.bl (isF fs rs q)) := fun q hq => lfour_ok hf hr h0 hl hlr q hq
  have hx : ∀ (i : Nat) (h : i < 12), vIx (.lst .sh (ps.map D.int)) (.int (i : Nat)) = .ok (.int (ps.getD i 0)) := fun i h => by
    refine vIx_get ?_
    rw [List.getElem?_map, List.getElem?_eq_getElem (by omega), List.getD_eq_getElem?_getD, List.getElem?_eq_getElem (by omega)]
    rfl
  have s0 : s__law_some_four_0 [some (both fs rs), some (.lst .sh (ps.map D.int)), none, none, none, none, none] = .nx (E7 fs rs ps none none none none) := by
    unfold s__law_some_four_0
    simp -implicitDefEqProofs [-List.map_map, evFn_app, startE, evSeqS_app, evNx_app, evIfS_app, evXk_app, evXm_app, evXf_app, evAk_app, evAm_app, evAf_app, evSet_app, evEx_app, evRet_app, evV_app, evRetV_app, evC_app, evNil_app, evCons_app, evTup_app, evLst_app, evB_app, evBl_app, evAndT_app, evOrT_app, evNotT_app, evAndV_app, evOrV_app, evNotV_app, evIfE_app, ev1_app, ev2_app, evN_app, evF1_app, evCall_app, evSl_app, evSo_app, evNo_app, evYes_app, evSeq_app, evRng1_app, evRng2_app, evEnum_app, evPat_app, evRaise_app, evForR_app, evFor_app, evLc_app, evPar_app, evMut_app, evStore_app, evP0_app, evP1_app, evChGo_nil, evChGo_cons, evChT_app, evChV_app, atE_app, slotO_some, putE_app, putS_some, isOwn_own, at_nil, put_nil, at_one, at_0, at_1, put_0, put_1, shr_lst, shr_tup, shr_int, shr_bl, shr_str, shr_non, sh'_own, sh'_sh, sh'_scr, shrs_nil, shrs_cons, shrs_ints, shrs_bls, fz_int, fz_bl, fz_str, fz_non, fz_own, fz_scr, fz_sh, fz_tup, fzs_nil, fzs_cons, fzs_ints, fzs_bls, vAdd_ii, vSub_ii, vCmp_ii, vInt_bl, vLen_lst, vLen_tup, vList_lst, vTuple_lst, vRev_lst, vSl_lst, asInt_int, seqD_lst, seqD_tup, vSorted_ints, vAll_bls, vAny_bls, frz_nil, frz_cons, frz1_d, frz1_n, frz1_s, clr_nil, clr_cons, setD_nil, setD_cons, patD_nm, patD_tup, patD_lst, patDs_nil, patDs_cons, app2_some, okPat_nil, okPat_cons, ite_ok, sizeLine_big, fzs_repi, vIx_0, vIx_1, vIx_2, vIx_3, vIx_4, shrs_rep, shrs_rev, shrs_app, fzs_app, ifok_and, ifok_or, ifokP_and, ifokP_or, ifokD_and, ifokD_or, ifokDP_and, ifokDP_or]
  have e3 : s__law_some_four_3 (E7 fs rs ps none none none none) = forGo (.nm 3) [4, 5, 6] b__law_some_four_5 (rgL 0 (rs.length - 1)) (E7 fs rs ps none none none none) := by
    have e2 : rng1A [.int ((rs.length : Nat) - 1)] = .ok (rgL 0 (rs.length - 1)) := by
      rw [rng1A_ok' (by omega)]
      congr 2
      omega
    unfold s__law_some_four_3
    generalize b__law_some_four_5 = bd at *
    generalize both fs rs = bb at *
    simp -implicitDefEqProofs [-List.map_map, evFn_app, startE, evSeqS_app, evNx_app, evIfS_app, evXk_app, evXm_app, evXf_app, evAk_app, evAm_app, evAf_app, evSet_app, evEx_app, evRet_app, evV_app, evRetV_app, evC_app, evNil_app, evCons_app, evTup_app, evLst_app, evB_app, evBl_app, evAndT_app, evOrT_app, evNotT_app, evAndV_app, evOrV_app, evNotV_app, evIfE_app, ev1_app, ev2_app, evN_app, evF1_app, evCall_app, evSl_app, evSo_app, evNo_app, evYes_app, evSeq_app, evRng1_app, evRng2_app, evEnum_app, evPat_app, evRaise_app, evForR_app, evFor_app, evLc_app, evPar_app, evMut_app, evStore_app, evP0_app, evP1_app, evChGo_nil, evChGo_cons, evChT_app, evChV_app, atE_app, slotO_some, putE_app, putS_some, isOwn_own, at_nil, put_nil, at_one, at_0, at_1, put_0, put_1, shr_lst, shr_tup, shr_int, shr_bl, shr_str, shr_non, sh'_own, sh'_sh, sh'_scr, shrs_nil, shrs_cons, shrs_ints, shrs_bls, fz_int, fz_bl, fz_str, fz_non, fz_own, fz_scr, fz_sh, fz_tup, fzs_nil, fzs_cons, fzs_ints, fzs_bls, vAdd_ii, vSub_ii, vCmp_ii, vInt_bl, vLen_lst, vLen_tup, vList_lst, vTuple_lst, vRev_lst, vSl_lst, asInt_int, seqD_lst, seqD_tup, vSorted_ints, vAll_bls, vAny_bls, frz_nil, frz_cons, frz1_d, frz1_n, frz1_s, clr_nil, clr_cons, setD_nil, setD_cons, patD_nm, patD_tup, patD_lst, patDs_nil, patDs_cons, app2_some, okPat_nil, okPat_cons, ite_ok, sizeLine_big, fzs_repi, vIx_0, vIx_1, vIx_2, vIx_3, vIx_4, shrs_rep, shrs_rev, shrs_app, fzs_app, ifok_and, ifok_or, ifokP_and, ifokP_or, ifokD_and, ifokD_or, ifokDP_and, ifokDP_or, e2]
  have e4 : (∃ x, forGo (.nm 3) [4, 5, 6] b__law_some_four_5 (rgL 0 (rs.length - 1)) (E7 fs rs ps none none none none) = .nx (E7 fs rs ps x none none none)) ∨ ∃ q : List Int, q.length = 4 ∧ forGo (.nm 3) [4, 5, 6] b__law_some_four_5 (rgL 0 (rs.length - 1)) (E7 fs rs ps none none none none) = .rt (.lst .own (q.map D.int)) := by
    refine forGo_rt (fun _ env => ∃ x, env = E7 fs rs ps x none none none) (fun r => (∃ x, r = .nx (E7 fs rs ps x none none none)) ∨ ∃ q : List Int, q.length = 4 ∧ r = .rt (.lst .own (q.map D.int))) 0 ⟨none, rfl⟩ ?_ ?_
    · rintro i d env hd ⟨x, rfl⟩
      obtain ⟨hi, rfl⟩ := rgL_get hd
      refine ⟨[(3, .int (0 + (i : Nat)))], rfl, rfl, ?_⟩
      have := sf5 (ps := ps) (k := 0 + (i : Nat)) hg (hx 0 (by decide)) (by omega : 2 ≤ rs.length)
      rcases this with ⟨x4, x5, x6, h⟩ | ⟨q, h1, h2⟩
      · exact .inl ⟨_, .inl h, _, rfl⟩
      · exact .inr (.inl ⟨_, h2, .inr ⟨q, h1, rfl⟩⟩)
    · rintro env' ⟨x, rfl⟩
      exact .inl ⟨x, rfl⟩
  have hst : f__law_some_four [both fs rs, .lst .sh (ps.map D.int)] = O.fn (evSeqS s__law_some_four_0 (evSeqS s__law_some_four_3 s__law_some_four_4) [some (both fs rs), some (.lst .sh (ps.map D.int)), none, none, none, none, none]) := by
    unfold f__law_some_four
    rw [evFn_app]
    rfl
  rw [hst, evSeqS_app, s0, seq_nx, evSeqS_app, e3]
  rcases e4 with ⟨x, h⟩ | ⟨q, h1, h2⟩
  · have v1 := hx 1 (by decide)
    have v2 := hx 2 (by decide)
    have v3 := hx 3 (by decide)
    have v4 := hx 4 (by decide)
    have m1 : ∀ z : Int, vMod (.int z) (.int (rs.length : Nat)) = .ok (.int (z % (rs.length : Nat))) := fun z => vMod_ii (by omega)
    refine ⟨[ps.getD 1 0 % (rs.length : Nat), ps.getD 2 0 % (rs.length : Nat), ps.getD 3 0 % (rs.length : Nat), ps.getD 4 0 % (rs.length : Nat)], rfl, ?_⟩
    have c1 : lcGo (.nm 3) evYes e__law_some_four_0 (E7 fs rs ps none none none none) (([0, 1, 2, 3] : List Int).map D.int) = .ok (([0, 1, 2, 3] : List Int).map fun k => D.int (ps.getD (1 + k).toNat 0 % (rs.length : Nat))) := by
      refine lcGo_all _ fun z hz => ?_
      have hz : 0 ≤ z ∧ z < 4 := by simp at hz; omega
      have vz : vIx (.lst .sh (ps.map D.int)) (.int (1 + z)) = .ok (.int (ps.getD (1 + z).toNat 0)) := by
        have := hx (1 + z).toNat (by omega)
        rw [show (((1 + z).toNat : Nat) : Int) = 1 + z by omega] at this
        exact this
      unfold e__law_some_four_0
      generalize both fs rs = bb at *
      generalize ps.getD (1 + z).toNat 0 = pz at *
      simp -implicitDefEqProofs [-List.map_map, evFn_app, startE, evSeqS_app, evNx_app, evIfS_app, evXk_app, evXm_app, evXf_app, evAk_app, evAm_app, evAf_app, evSet_app, evEx_app, evRet_app, evV_app, evRetV_app, evC_app, evNil_app, evCons_app, evTup_app, evLst_app, evB_app, evBl_app, evAndT_app, evOrT_app, evNotT_app, evAndV_app, evOrV_app, evNotV_app, evIfE_app, ev1_app, ev2_app, evN_app, evF1_app, evCall_app, evSl_app, evSo_app, evNo_app, evYes_app, evSeq_app, evRng1_app, evRng2_app, evEnum_app, evPat_app, evRaise_app, evForR_app, evFor_app, evLc_app, evPar_app, evMut_app, evStore_app, evP0_app, evP1_app, evChGo_nil, evChGo_cons, evChT_app, evChV_app, atE_app, slotO_some, putE_app, putS_some, isOwn_own, at_nil, put_nil, at_one, at_0, at_1, put_0, put_1, shr_lst, shr_tup, shr_int, shr_bl, shr_str, shr_non, sh'_own, sh'_sh, sh'_scr, shrs_nil, shrs_cons, shrs_ints, shrs_bls, fz_int, fz_bl, fz_str, fz_non, fz_own, fz_scr, fz_sh, fz_tup, fzs_nil, fzs_cons, fzs_ints, fzs_bls, vAdd_ii, vSub_ii, vCmp_ii, vInt_bl, vLen_lst, vLen_tup, vList_lst, vTuple_lst, vRev_lst, vSl_lst, asInt_int, seqD_lst, seqD_tup, vSorted_ints, vAll_bls, vAny_bls, frz_nil, frz_cons, frz1_d, frz1_n, frz1_s, clr_nil, clr_cons, setD_nil, setD_cons, patD_nm, patD_tup, patD_lst, patDs_nil, patDs_cons, app2_some, okPat_nil, okPat_cons, ite_ok, sizeLine_big, fzs_repi, vIx_0, vIx_1, vIx_2, vIx_3, vIx_4, shrs_rep, shrs_rev, shrs_app, fzs_app, ifok_and, ifok_or, ifokP_and, ifokP_or, ifokD_and, ifokD_or, ifokDP_and, ifokDP_or, vz, m1]
    have s4 : s__law_some_four_4 (E7 fs rs ps x none none none) = .rt (.lst .own (([0, 1, 2, 3] : List Int).map fun k => D.int (ps.getD (1 + k).toNat 0 % (rs.length : Nat)))) := by
      have r4 : rng1A [.int 4] = .ok (([0, 1, 2, 3] : List Int).map D.int) := by
        rw [rng1A_ok' (by decide)]
        rfl
      have hk : ∀ l : List D, clr [3] (E7 fs rs ps x none none none) = E7 fs rs ps none none none none := fun _ => rfl
      unfold s__law_some_four_4
      rw [evRet_app, evXk_app, evLc_app, evRng1_app]
      have a1 : evCons (evC (.int 4)) evNil (E7 fs rs ps x none none none) = .ok [.int 4] := rfl
      rw [a1, R.bind_ok, r4, R.bind_ok, if_pos (by rw [PySem.sizeLine_eq]; decide), hk [], c1, noex_ok, R.bind_ok, toO_ok, if_neg]
      rw [fz_own]
      have : (([0, 1, 2, 3] : List Int).map fun k => D.int (ps.getD (1 + k).toNat 0 % (rs.length : Nat))) = (([0, 1, 2, 3] : List Int).map fun k => ps.getD (1 + k).toNat 0 % (rs.length : Nat)).map D.int := by rw [List.map_map]; rfl
      rw [this, fzs_ints]
      decide
    rw [h, seq_nx, s4]
    rfl
  · exact ⟨q, h1, by rw [h2]; rfl⟩
end
end K07


set_option Elab.async false
set_option linter.all false
set_option maxRecDepth 100000
set_option maxHeartbeats 4000000
namespace K07
open VA L2
theorem vAdd_ll (xs ys : List D) : vAdd (.lst .sh xs) (.lst .sh ys) = if xs.length + ys.length ≤ PySem.sizeLine then .ok (.lst .own (xs ++ ys)) else .no := by rw [vAdd]
theorem vNeg_i (i : Int) : vNeg (.int i) = .ok (.int (-i)) := rfl
abbrev own2 (fs rs : List Int) : D := .lst .own [.lst .own (fs.map D.int), .lst .own (rs.map D.int)]
section
variable {fs rs ps : List Int} {scr : D} {c : Int}
theorem own2_shr (fs rs : List Int) : (own2 fs rs).shr = both fs rs := by
  rw [shr_lst, shrs_cons, shrs_cons, shrs_nil, shr_lst, shr_lst, shrs_ints, shrs_ints, sh'_own]
/-- one thing asked -/
theorem ask_ok (hf : IsOrd fs) (hr : IsOrd rs) (h0 : 1 ≤ fs.length) (hl : fs.length ≤ 20) (hlr : rs.length = fs.length) {q : List Int} (hq : q.length ≤ 1000) (mk : List D → D) (hmk : mk = D.tup ∨ mk = D.lst .sh) {x0 x1 x3 x4 x5 x6 x7 x11 : Option D} :
    b_law_13 [x0, x1, some (own2 fs rs), x3, x4, x5, x6, x7, some (.lst .sh (q.map D.int)), some (mk (q.map D.int)), none, x11] = .nx [x0, x1, some (own2 fs rs), x3, x4, x5, x6, x7, some (.lst .sh (q.map D.int)), some (mk (q.map D.int)), some (.bl (isF fs rs q)), x11] := by
  have hb := bars_ok hf hr h0 hl hlr q hq mk hmk
  have hw := lfour_ok hf hr h0 hl hlr q hq
  have hs := own2_shr fs rs
  have e1 : s_law_9 [x0, x1, some (own2 fs rs), x3, x4, x5, x6, x7, some (.lst .sh (q.map D.int)), some (mk (q.map D.int)), none, x11] = .nx [x0, x1, some (own2 fs rs), x3, x4, x5, x6, x7, some (.lst .sh (q.map D.int)), some (mk (q.map D.int)), some (.bl (isF fs rs q)), x11] := by
    unfold s_law_9
    generalize f_bars = g at *
    rcases hmk with rfl | rfl <;> simp -implicitDefEqProofs [-List.map_map, evFn_app, startE, evSeqS_app, evNx_app, evIfS_app, evXk_app, evXm_app, evXf_app, evAk_app, evAm_app, evAf_app, evSet_app, evEx_app, evRet_app, evV_app, evRetV_app, evC_app, evNil_app, evCons_app, evTup_app, evLst_app, evB_app, evBl_app, evAndT_app, evOrT_app, evNotT_app, evAndV_app, evOrV_app, evNotV_app, evIfE_app, ev1_app, ev2_app, evN_app, evF1_app, evCall_app, evSl_app, evSo_app, evNo_app, evYes_app, evSeq_app, evRng1_app, evRng2_app, evEnum_app, evPat_app, evRaise_app, evForR_app, evFor_app, evLc_app, evPar_app, evMut_app, evStore_app, evP0_app, evP1_app, evChGo_nil, evChGo_cons, evChT_app, evChV_app, atE_app, slotO_some, putE_app, putS_some, isOwn_own, at_nil, put_nil, at_one, at_0, at_1, put_0, put_1, shr_lst, shr_tup, shr_int, shr_bl, shr_str, shr_non, sh'_own, sh'_sh, sh'_scr, shrs_nil, shrs_cons, shrs_ints, shrs_bls, fz_int, fz_bl, fz_str, fz_non, fz_own, fz_scr, fz_sh, fz_tup, fzs_nil, fzs_cons, fzs_ints, fzs_bls, vAdd_ii, vSub_ii, vCmp_ii, vInt_bl, vLen_lst, vLen_tup, vList_lst, vTuple_lst, vRev_lst, vSl_lst, asInt_int, seqD_lst, seqD_tup, vSorted_ints, vAll_bls, vAny_bls, frz_nil, frz_cons, frz1_d, frz1_n, frz1_s, clr_nil, clr_cons, setD_nil, setD_cons, patD_nm, patD_tup, patD_lst, patDs_nil, patDs_cons, app2_some, okPat_nil, okPat_cons, ite_ok, sizeLine_big, fzs_repi, vIx_0, vIx_1, vIx_2, vIx_3, vIx_4, shrs_rep, shrs_rev, shrs_app, fzs_app, ifok_and, ifok_or, ifokP_and, ifokP_or, ifokD_and, ifokD_or, ifokDP_and, ifokDP_or, hb]
  have i1 : vIsi "bool" (.bl (isF fs rs q)) = .ok (.bl true) := by
    show (match isiB "bool" "bool" with | some b => R.ok (D.bl b) | none => .no) = _
    rw [isi_bb]
  have e2 : s_law_10 [x0, x1, some (own2 fs rs), x3, x4, x5, x6, x7, some (.lst .sh (q.map D.int)), some (mk (q.map D.int)), some (.bl (isF fs rs q)), x11] = .nx [x0, x1, some (own2 fs rs), x3, x4, x5, x6, x7, some (.lst .sh (q.map D.int)), some (mk (q.map D.int)), some (.bl (isF fs rs q)), x11] := by
    have a1 : evNotT (evB (ev1 (vIsi "bool") (evV 10))) [x0, x1, some (own2 fs rs), x3, x4, x5, x6, x7, some (.lst .sh (q.map D.int)), some (mk (q.map D.int)), some (.bl (isF fs rs q)), x11] = .ok false := by simp -implicitDefEqProofs [-List.map_map, evFn_app, startE, evSeqS_app, evNx_app, evIfS_app, evXk_app, evXm_app, evXf_app, evAk_app, evAm_app, evAf_app, evSet_app, evEx_app, evRet_app, evV_app, evRetV_app, evC_app, evNil_app, evCons_app, evTup_app, evLst_app, evB_app, evBl_app, evAndT_app, evOrT_app, evNotT_app, evAndV_app, evOrV_app, evNotV_app, evIfE_app, ev1_app, ev2_app, evN_app, evF1_app, evCall_app, evSl_app, evSo_app, evNo_app, evYes_app, evSeq_app, evRng1_app, evRng2_app, evEnum_app, evPat_app, evRaise_app, evForR_app, evFor_app, evLc_app, evPar_app, evMut_app, evStore_app, evP0_app, evP1_app, evChGo_nil, evChGo_cons, evChT_app, evChV_app, atE_app, slotO_some, putE_app, putS_some, isOwn_own, at_nil, put_nil, at_one, at_0, at_1, put_0, put_1, shr_lst, shr_tup, shr_int, shr_bl, shr_str, shr_non, sh'_own, sh'_sh, sh'_scr, shrs_nil, shrs_cons, shrs_ints, shrs_bls, fz_int, fz_bl, fz_str, fz_non, fz_own, fz_scr, fz_sh, fz_tup, fzs_nil, fzs_cons, fzs_ints, fzs_bls, vAdd_ii, vSub_ii, vCmp_ii, vInt_bl, vLen_lst, vLen_tup, vList_lst, vTuple_lst, vRev_lst, vSl_lst, asInt_int, seqD_lst, seqD_tup, vSorted_ints, vAll_bls, vAny_bls, frz_nil, frz_cons, frz1_d, frz1_n, frz1_s, clr_nil, clr_cons, setD_nil, setD_cons, patD_nm, patD_tup, patD_lst, patDs_nil, patDs_cons, app2_some, okPat_nil, okPat_cons, ite_ok, sizeLine_big, fzs_repi, vIx_0, vIx_1, vIx_2, vIx_3, vIx_4, shrs_rep, shrs_rev, shrs_app, fzs_app, ifok_and, ifok_or, ifokP_and, ifokP_or, ifokD_and, ifokD_or, ifokDP_and, ifokDP_or, i1]
    have a2 : evB (ev2 (vEq true) (evV 10) (evCall 2 f__law_is_four (evCons (evV 2) (evCons (evV 8) (evNil))))) [x0, x1, some (own2 fs rs), x3, x4, x5, x6, x7, some (.lst .sh (q.map D.int)), some (mk (q.map D.int)), some (.bl (isF fs rs q)), x11] = .ok false := by
      generalize f__law_is_four = g at *
      simp -implicitDefEqProofs [-List.map_map, evFn_app, startE, evSeqS_app, evNx_app, evIfS_app, evXk_app, evXm_app, evXf_app, evAk_app, evAm_app, evAf_app, evSet_app, evEx_app, evRet_app, evV_app, evRetV_app, evC_app, evNil_app, evCons_app, evTup_app, evLst_app, evB_app, evBl_app, evAndT_app, evOrT_app, evNotT_app, evAndV_app, evOrV_app, evNotV_app, evIfE_app, ev1_app, ev2_app, evN_app, evF1_app, evCall_app, evSl_app, evSo_app, evNo_app, evYes_app, evSeq_app, evRng1_app, evRng2_app, evEnum_app, evPat_app, evRaise_app, evForR_app, evFor_app, evLc_app, evPar_app, evMut_app, evStore_app, evP0_app, evP1_app, evChGo_nil, evChGo_cons, evChT_app, evChV_app, atE_app, slotO_some, putE_app, putS_some, isOwn_own, at_nil, put_nil, at_one, at_0, at_1, put_0, put_1, shr_lst, shr_tup, shr_int, shr_bl, shr_str, shr_non, sh'_own, sh'_sh, sh'_scr, shrs_nil, shrs_cons, shrs_ints, shrs_bls, fz_int, fz_bl, fz_str, fz_non, fz_own, fz_scr, fz_sh, fz_tup, fzs_nil, fzs_cons, fzs_ints, fzs_bls, vAdd_ii, vSub_ii, vCmp_ii, vInt_bl, vLen_lst, vLen_tup, vList_lst, vTuple_lst, vRev_lst, vSl_lst, asInt_int, seqD_lst, seqD_tup, vSorted_ints, vAll_bls, vAny_bls, frz_nil, frz_cons, frz1_d, frz1_n, frz1_s, clr_nil, clr_cons, setD_nil, setD_cons, patD_nm, patD_tup, patD_lst, patDs_nil, patDs_cons, app2_some, okPat_nil, okPat_cons, ite_ok, sizeLine_big, fzs_repi, vIx_0, vIx_1, vIx_2, vIx_3, vIx_4, shrs_rep, shrs_rev, shrs_app, fzs_app, ifok_and, ifok_or, ifokP_and, ifokP_or, ifokD_and, ifokD_or, ifokDP_and, ifokDP_or, hw, vEq_bl]
    unfold s_law_10
    rw [evIfS_app, evOrT_app, a1, R.bind_ok, if_neg Bool.false_ne_true, a2]
    rfl
  unfold b_law_13
  rw [evSeqS_app, e1, seq_nx, e2]
theorem one_ok (hf : IsOrd fs) (hr : IsOrd rs) (h0 : 1 ≤ fs.length) (hl : fs.length ≤ 20) (hlr : rs.length = fs.length) {q : List Int} (hq : q.length ≤ 1000) {x0 x1 x3 x4 x5 x6 x7 x11 : Option D} :
    ∃ x9 x10, b_law_14 [x0, x1, some (own2 fs rs), x3, x4, x5, x6, x7, some (.lst .sh (q.map D.int)), none, none, x11] = .nx [x0, x1, some (own2 fs rs), x3, x4, x5, x6, x7, some (.lst .sh (q.map D.int)), x9, x10, x11] := by
  have e1 : b_law_14 [x0, x1, some (own2 fs rs), x3, x4, x5, x6, x7, some (.lst .sh (q.map D.int)), none, none, x11] = forGo (.nm 9) [9, 10] b_law_13 [.lst .sh (q.map D.int), .tup (q.map D.int)] [x0, x1, some (own2 fs rs), x3, x4, x5, x6, x7, some (.lst .sh (q.map D.int)), none, none, x11] := by
    unfold b_law_14
    generalize b_law_13 = bd at *
    simp -implicitDefEqProofs [-List.map_map, evFn_app, startE, evSeqS_app, evNx_app, evIfS_app, evXk_app, evXm_app, evXf_app, evAk_app, evAm_app, evAf_app, evSet_app, evEx_app, evRet_app, evV_app, evRetV_app, evC_app, evNil_app, evCons_app, evTup_app, evLst_app, evB_app, evBl_app, evAndT_app, evOrT_app, evNotT_app, evAndV_app, evOrV_app, evNotV_app, evIfE_app, ev1_app, ev2_app, evN_app, evF1_app, evCall_app, evSl_app, evSo_app, evNo_app, evYes_app, evSeq_app, evRng1_app, evRng2_app, evEnum_app, evPat_app, evRaise_app, evForR_app, evFor_app, evLc_app, evPar_app, evMut_app, evStore_app, evP0_app, evP1_app, evChGo_nil, evChGo_cons, evChT_app, evChV_app, atE_app, slotO_some, putE_app, putS_some, isOwn_own, at_nil, put_nil, at_one, at_0, at_1, put_0, put_1, shr_lst, shr_tup, shr_int, shr_bl, shr_str, shr_non, sh'_own, sh'_sh, sh'_scr, shrs_nil, shrs_cons, shrs_ints, shrs_bls, fz_int, fz_bl, fz_str, fz_non, fz_own, fz_scr, fz_sh, fz_tup, fzs_nil, fzs_cons, fzs_ints, fzs_bls, vAdd_ii, vSub_ii, vCmp_ii, vInt_bl, vLen_lst, vLen_tup, vList_lst, vTuple_lst, vRev_lst, vSl_lst, asInt_int, seqD_lst, seqD_tup, vSorted_ints, vAll_bls, vAny_bls, frz_nil, frz_cons, frz1_d, frz1_n, frz1_s, clr_nil, clr_cons, setD_nil, setD_cons, patD_nm, patD_tup, patD_lst, patDs_nil, patDs_cons, app2_some, okPat_nil, okPat_cons, ite_ok, sizeLine_big, fzs_repi, vIx_0, vIx_1, vIx_2, vIx_3, vIx_4, shrs_rep, shrs_rev, shrs_app, fzs_app, ifok_and, ifok_or, ifokP_and, ifokP_or, ifokD_and, ifokD_or, ifokDP_and, ifokDP_or]
  have a1 := ask_ok hf hr h0 hl hlr hq (D.lst .sh) (.inr rfl) (x0 := x0) (x1 := x1) (x3 := x3) (x4 := x4) (x5 := x5) (x6 := x6) (x7 := x7) (x11 := x11)
  have a2 := ask_ok hf hr h0 hl hlr hq D.tup (.inl rfl) (x0 := x0) (x1 := x1) (x3 := x3) (x4 := x4) (x5 := x5) (x6 := x6) (x7 := x7) (x11 := x11)
  refine ⟨none, none, ?_⟩
  rw [e1]
  have p1 : ∀ d : D, setD [x0, x1, some (own2 fs rs), x3, x4, x5, x6, x7, some (.lst .sh (q.map D.int)), none, none, x11] [(9, d)] = [x0, x1, some (own2 fs rs), x3, x4, x5, x6, x7, some (.lst .sh (q.map D.int)), some d, none, x11] := fun d => rfl
  have p2 : ∀ d f : Option D, clr [9, 10] [x0, x1, some (own2 fs rs), x3, x4, x5, x6, x7, some (.lst .sh (q.map D.int)), d, f, x11] = [x0, x1, some (own2 fs rs), x3, x4, x5, x6, x7, some (.lst .sh (q.map D.int)), none, none, x11] := fun d f => rfl
  have p3 : ∀ d : D, okPat [(9, d)] [x0, x1, some (own2 fs rs), x3, x4, x5, x6, x7, some (.lst .sh (q.map D.int)), none, none, x11] = true := fun d => rfl
  rw [forGo, patD_nm]
  simp only [p3, if_true, p1, a1, p2]
  rw [forGo, patD_nm]
  simp only [p3, if_true, p1, a2, p2]
  rw [forGo]
theorem all_ok (hf : IsOrd fs) (hr : IsOrd rs) (h0 : 1 ≤ fs.length) (hl : fs.length ≤ 20) (hlr : rs.length = fs.length) {qs : List (List Int)} (hq : ∀ q ∈ qs, q.length ≤ 1000) {ds : List D} (hds : shrs ds = qs.map fun q => .lst .sh (q.map D.int)) {x0 x1 x3 x4 x5 x6 x11 : Option D} :
    ∃ y7, s_law_11 [x0, x1, some (own2 fs rs), x3, x4, x5, x6, some (.lst .own ds), none, none, none, x11] = .nx [x0, x1, some (own2 fs rs), x3, x4, x5, x6, y7, none, none, none, x11] := by
  have e1 : s_law_11 [x0, x1, some (own2 fs rs), x3, x4, x5, x6, some (.lst .own ds), none, none, none, x11] = forGo (.nm 8) [8, 9, 10] b_law_14 (qs.map fun q => .lst .sh (q.map D.int)) [x0, x1, some (own2 fs rs), x3, x4, x5, x6, some (.lst .sh (shrs ds)), none, none, none, x11] := by
    have hss : shrs (shrs ds) = shrs ds := shrs_shrs ds
    rw [← hds]
    unfold s_law_11
    generalize b_law_14 = bd at *
    simp -implicitDefEqProofs [-List.map_map, evFn_app, startE, evSeqS_app, evNx_app, evIfS_app, evXk_app, evXm_app, evXf_app, evAk_app, evAm_app, evAf_app, evSet_app, evEx_app, evRet_app, evV_app, evRetV_app, evC_app, evNil_app, evCons_app, evTup_app, evLst_app, evB_app, evBl_app, evAndT_app, evOrT_app, evNotT_app, evAndV_app, evOrV_app, evNotV_app, evIfE_app, ev1_app, ev2_app, evN_app, evF1_app, evCall_app, evSl_app, evSo_app, evNo_app, evYes_app, evSeq_app, evRng1_app, evRng2_app, evEnum_app, evPat_app, evRaise_app, evForR_app, evFor_app, evLc_app, evPar_app, evMut_app, evStore_app, evP0_app, evP1_app, evChGo_nil, evChGo_cons, evChT_app, evChV_app, atE_app, slotO_some, putE_app, putS_some, isOwn_own, at_nil, put_nil, at_one, at_0, at_1, put_0, put_1, shr_lst, shr_tup, shr_int, shr_bl, shr_str, shr_non, sh'_own, sh'_sh, sh'_scr, shrs_nil, shrs_cons, shrs_ints, shrs_bls, fz_int, fz_bl, fz_str, fz_non, fz_own, fz_scr, fz_sh, fz_tup, fzs_nil, fzs_cons, fzs_ints, fzs_bls, vAdd_ii, vSub_ii, vCmp_ii, vInt_bl, vLen_lst, vLen_tup, vList_lst, vTuple_lst, vRev_lst, vSl_lst, asInt_int, seqD_lst, seqD_tup, vSorted_ints, vAll_bls, vAny_bls, frz_nil, frz_cons, frz1_d, frz1_n, frz1_s, clr_nil, clr_cons, setD_nil, setD_cons, patD_nm, patD_tup, patD_lst, patDs_nil, patDs_cons, app2_some, okPat_nil, okPat_cons, ite_ok, sizeLine_big, fzs_repi, vIx_0, vIx_1, vIx_2, vIx_3, vIx_4, shrs_rep, shrs_rev, shrs_app, fzs_app, ifok_and, ifok_or, ifokP_and, ifokP_or, ifokD_and, ifokD_or, ifokDP_and, ifokDP_or, hss]
  rw [e1]
  obtain ⟨env', q1, rfl⟩ := forGo_n (p := .nm 8) (cl := [8, 9, 10]) (body := b_law_14) (fun _ env => env = [x0, x1, some (own2 fs rs), x3, x4, x5, x6, some (.lst .sh (shrs ds)), none, none, none, x11])
    (ds := qs.map fun q => .lst .sh (q.map D.int)) (env := [x0, x1, some (own2 fs rs), x3, x4, x5, x6, some (.lst .sh (shrs ds)), none, none, none, x11]) rfl (by
      rintro i d env hd rfl
      rw [List.getElem?_map] at hd
      obtain ⟨q, hm, rfl⟩ := Option.map_eq_some_iff.mp hd
      obtain ⟨x9, x10, h⟩ := one_ok hf hr h0 hl hlr (hq q (List.mem_of_getElem? hm)) (x0 := x0) (x1 := x1) (x3 := x3) (x4 := x4) (x5 := x5) (x6 := x6) (x7 := some (.lst .sh (shrs ds))) (x11 := x11)
      exact ⟨[(8, .lst .sh (q.map D.int))], _, rfl, rfl, h, rfl⟩)
  exact ⟨_, q1⟩
end
end K07


set_option Elab.async false
set_option linter.all false
set_option maxRecDepth 100000
set_option maxHeartbeats 4000000
namespace K07
open VA L2
section
variable {fs rs ps : List Int} {scr : D} {c : Int}
abbrev Lsh (q : List Int) : D := .lst .sh (q.map D.int)
theorem ix4 {k : Nat} {q0 q1 q2 q3 : Int} (env : En) (h1 : env[5]? = some (some (.lst .sh [.int q0, .int q1, .int q2, .int q3]))) (h2 : 11 < env.length) :
    (∀ e, (e = e_law_0 ∨ e = e_law_1) → lcGo (.nm 11) evYes e env [.int 0, .int 2, .int 1, .int 3] = .ok [.int q0, .int q2, .int q1, .int q3]) ∧ (∀ e, (e = e_law_0 ∨ e = e_law_1) → lcGo (.nm 11) evYes e env [.int 3, .int 1, .int 2, .int 0] = .ok [.int q3, .int q1, .int q2, .int q0]) := by
  have g : ∀ x : D, (env.set 11 (some x))[5]? = some (some (.lst .sh [.int q0, .int q1, .int q2, .int q3])) := fun x => by rw [List.getElem?_set_ne (by decide), h1]
  have g2 : ∀ x : D, (env.set 11 (some x))[11]? = some (some x) := fun x => List.getElem?_set_self h2
  constructor
  · rintro e (rfl | rfl) <;> (first | unfold e_law_0 | unfold e_law_1) <;>
    simp -implicitDefEqProofs only [lcGo, patD, setD, evYes_app, noex_ok, R.bind_ok, if_true, ev2_app, evV_app, g, g2, slotR_some, shr_lst, shr_int, shrs_cons, shrs_nil, sh'_own, sh'_sh, vIx_0, vIx_1, vIx_2, vIx_3]
  · rintro e (rfl | rfl) <;> (first | unfold e_law_0 | unfold e_law_1) <;>
    simp -implicitDefEqProofs only [lcGo, patD, setD, evYes_app, noex_ok, R.bind_ok, if_true, ev2_app, evV_app, g, g2, slotR_some, shr_lst, shr_int, shrs_cons, shrs_nil, sh'_own, sh'_sh, vIx_0, vIx_1, vIx_2, vIx_3]
theorem some_0 {q0 q1 q2 q3 p7 e1 e3 w : Int} {n : Nat} (x7 : vIx (.lst .sh (ps.map D.int)) (.int 7) = .ok (.int p7)) (m1 : vMod (.int p7) (.int (n : Nat)) = .ok (.int e1)) (m3 : vMod (.int p7) (.int 3) = .ok (.int e3))
    (hw : vIx (.lst .sh [.int (-1), .int (n : Nat), .int 1000000000000000000000000000000]) (.int e3) = .ok (.int w)) {x0 x1 x2 : Option D} :
    ∃ (ds : List D) (qs : List (List Int)) (x3 x5 : Option D), (∀ q ∈ qs, q.length ≤ 1000) ∧ shrs ds = qs.map Lsh ∧
      evSeqS s_law_5 (evSeqS s_law_6 (evSeqS s_law_7 (evSeqS s_law_8 s_law_11))) [x0, x1, x2, some (.lst .own (ps.map D.int)), some (.int (n : Nat)), some (.lst .own [.int q0, .int q1, .int q2, .int q3]), some (.int 0), none, none, none, none, none] =
      s_law_11 [x0, x1, x2, x3, some (.int (n : Nat)), x5, some (.int 0), some (.lst .own ds), none, none, none, none] := by
  have vp : vPow (.int 10) (.int 30) = .ok (.int 1000000000000000000000000000000) := vPow_ii (by decide)
  have t5 : s_law_5 [x0, x1, x2, some (.lst .own (ps.map D.int)), some (.int (n : Nat)), some (.lst .own [.int q0, .int q1, .int q2, .int q3]), some (.int 0), none, none, none, none, none] = .nx [x0, x1, x2, some (.lst .sh (ps.map D.int)), some (.int (n : Nat)), some (.lst .sh [.int q0, .int q1, .int q2, .int q3]), some (.int 0), some (.lst .own [.lst .sh [.int q0, .int q1, .int q2, .int q3], .lst .own [.int e1, .int q1, .int q2, .int q3], .lst .own [.int q3, .int q2, .int q1, .int q0], .lst .own [.int q0, .int q1, .int q2], .lst .own [.int q0, .int q1, .int q2, .int q3, .int q0]]), none, none, none, none] := by
    unfold s_law_5
    simp -implicitDefEqProofs [-List.map_map, evFn_app, startE, evSeqS_app, evNx_app, evIfS_app, evXk_app, evXm_app, evXf_app, evAk_app, evAm_app, evAf_app, evSet_app, evEx_app, evRet_app, evV_app, evRetV_app, evC_app, evNil_app, evCons_app, evTup_app, evLst_app, evB_app, evBl_app, evAndT_app, evOrT_app, evNotT_app, evAndV_app, evOrV_app, evNotV_app, evIfE_app, ev1_app, ev2_app, evN_app, evF1_app, evCall_app, evSl_app, evSo_app, evNo_app, evYes_app, evSeq_app, evRng1_app, evRng2_app, evEnum_app, evPat_app, evRaise_app, evForR_app, evFor_app, evLc_app, evPar_app, evMut_app, evStore_app, evP0_app, evP1_app, evChGo_nil, evChGo_cons, evChT_app, evChV_app, atE_app, slotO_some, putE_app, putS_some, isOwn_own, at_nil, put_nil, at_one, at_0, at_1, put_0, put_1, shr_lst, shr_tup, shr_int, shr_bl, shr_str, shr_non, sh'_own, sh'_sh, sh'_scr, shrs_nil, shrs_cons, shrs_ints, shrs_bls, fz_int, fz_bl, fz_str, fz_non, fz_own, fz_scr, fz_sh, fz_tup, fzs_nil, fzs_cons, fzs_ints, fzs_bls, vAdd_ii, vSub_ii, vCmp_ii, vInt_bl, vLen_lst, vLen_tup, vList_lst, vTuple_lst, vRev_lst, vSl_lst, asInt_int, seqD_lst, seqD_tup, vSorted_ints, vAll_bls, vAny_bls, frz_nil, frz_cons, frz1_d, frz1_n, frz1_s, clr_nil, clr_cons, setD_nil, setD_cons, patD_nm, patD_tup, patD_lst, patDs_nil, patDs_cons, app2_some, okPat_nil, okPat_cons, ite_ok, sizeLine_big, fzs_repi, vIx_0, vIx_1, vIx_2, vIx_3, vIx_4, shrs_rep, shrs_rev, shrs_app, fzs_app, ifok_and, ifok_or, ifokP_and, ifokP_or, ifokD_and, ifokD_or, ifokDP_and, ifokDP_or, x7, m1, vAdd_ll, cutL, HT.sIx]
  have t6 : s_law_6 [x0, x1, x2, some (.lst .sh (ps.map D.int)), some (.int (n : Nat)), some (.lst .sh [.int q0, .int q1, .int q2, .int q3]), some (.int 0), some (.lst .own [.lst .sh [.int q0, .int q1, .int q2, .int q3], .lst .own [.int e1, .int q1, .int q2, .int q3], .lst .own [.int q3, .int q2, .int q1, .int q0], .lst .own [.int q0, .int q1, .int q2], .lst .own [.int q0, .int q1, .int q2, .int q3, .int q0]]), none, none, none, none] = .nx [x0, x1, x2, some (.lst .sh (ps.map D.int)), some (.int (n : Nat)), some (.lst .sh [.int q0, .int q1, .int q2, .int q3]), some (.int 0), some (.lst .own [.lst .sh [.int q0, .int q1, .int q2, .int q3], .lst .sh [.int e1, .int q1, .int q2, .int q3], .lst .sh [.int q3, .int q2, .int q1, .int q0], .lst .sh [.int q0, .int q1, .int q2], .lst .sh [.int q0, .int q1, .int q2, .int q3, .int q0], .lst .sh [.int w, .int q1, .int q2, .int q3]]), none, none, none, none] := by
    unfold s_law_6
    simp -implicitDefEqProofs [-List.map_map, evFn_app, startE, evSeqS_app, evNx_app, evIfS_app, evXk_app, evXm_app, evXf_app, evAk_app, evAm_app, evAf_app, evSet_app, evEx_app, evRet_app, evV_app, evRetV_app, evC_app, evNil_app, evCons_app, evTup_app, evLst_app, evB_app, evBl_app, evAndT_app, evOrT_app, evNotT_app, evAndV_app, evOrV_app, evNotV_app, evIfE_app, ev1_app, ev2_app, evN_app, evF1_app, evCall_app, evSl_app, evSo_app, evNo_app, evYes_app, evSeq_app, evRng1_app, evRng2_app, evEnum_app, evPat_app, evRaise_app, evForR_app, evFor_app, evLc_app, evPar_app, evMut_app, evStore_app, evP0_app, evP1_app, evChGo_nil, evChGo_cons, evChT_app, evChV_app, atE_app, slotO_some, putE_app, putS_some, isOwn_own, at_nil, put_nil, at_one, at_0, at_1, put_0, put_1, shr_lst, shr_tup, shr_int, shr_bl, shr_str, shr_non, sh'_own, sh'_sh, sh'_scr, shrs_nil, shrs_cons, shrs_ints, shrs_bls, fz_int, fz_bl, fz_str, fz_non, fz_own, fz_scr, fz_sh, fz_tup, fzs_nil, fzs_cons, fzs_ints, fzs_bls, vAdd_ii, vSub_ii, vCmp_ii, vInt_bl, vLen_lst, vLen_tup, vList_lst, vTuple_lst, vRev_lst, vSl_lst, asInt_int, seqD_lst, seqD_tup, vSorted_ints, vAll_bls, vAny_bls, frz_nil, frz_cons, frz1_d, frz1_n, frz1_s, clr_nil, clr_cons, setD_nil, setD_cons, patD_nm, patD_tup, patD_lst, patDs_nil, patDs_cons, app2_some, okPat_nil, okPat_cons, ite_ok, sizeLine_big, fzs_repi, vIx_0, vIx_1, vIx_2, vIx_3, vIx_4, shrs_rep, shrs_rev, shrs_app, fzs_app, ifok_and, ifok_or, ifokP_and, ifokP_or, ifokD_and, ifokD_or, ifokDP_and, ifokDP_or, x7, m3, vp, vNeg_i, hw, vAdd_ll, cutL, HT.sIx]
  have l0 : ∀ env : En, env[5]? = some (some (.lst .sh [.int q0, .int q1, .int q2, .int q3])) → 11 < env.length → lcGo (.nm 11) evYes e_law_0 env [.int 0, .int 2, .int 1, .int 3] = .ok [.int q0, .int q2, .int q1, .int q3] := fun env h1 h2 => (ix4 (k := 0) env h1 h2).1 _ (.inl rfl)
  have l1 : ∀ env : En, env[5]? = some (some (.lst .sh [.int q0, .int q1, .int q2, .int q3])) → 11 < env.length → lcGo (.nm 11) evYes e_law_1 env [.int 3, .int 1, .int 2, .int 0] = .ok [.int q3, .int q1, .int q2, .int q0] := fun env h1 h2 => (ix4 (k := 0) env h1 h2).2 _ (.inr rfl)
  have t7 : s_law_7 [x0, x1, x2, some (.lst .sh (ps.map D.int)), some (.int (n : Nat)), some (.lst .sh [.int q0, .int q1, .int q2, .int q3]), some (.int 0), some (.lst .own [.lst .sh [.int q0, .int q1, .int q2, .int q3], .lst .sh [.int e1, .int q1, .int q2, .int q3], .lst .sh [.int q3, .int q2, .int q1, .int q0], .lst .sh [.int q0, .int q1, .int q2], .lst .sh [.int q0, .int q1, .int q2, .int q3, .int q0], .lst .sh [.int w, .int q1, .int q2, .int q3]]), none, none, none, none] = .nx [x0, x1, x2, some (.lst .sh (ps.map D.int)), some (.int (n : Nat)), some (.lst .sh [.int q0, .int q1, .int q2, .int q3]), some (.int 0), some (.lst .own [.lst .sh [.int q0, .int q1, .int q2, .int q3], .lst .sh [.int e1, .int q1, .int q2, .int q3], .lst .sh [.int q3, .int q2, .int q1, .int q0], .lst .sh [.int q0, .int q1, .int q2], .lst .sh [.int q0, .int q1, .int q2, .int q3, .int q0], .lst .sh [.int w, .int q1, .int q2, .int q3], .lst .sh [.int q0, .int q1, .int q2, .int q3], .lst .sh [.int q0, .int q2, .int q1, .int q3]]), none, none, none, none] := by
    unfold s_law_7
    simp -implicitDefEqProofs [-List.map_map, evFn_app, startE, evSeqS_app, evNx_app, evIfS_app, evXk_app, evXm_app, evXf_app, evAk_app, evAm_app, evAf_app, evSet_app, evEx_app, evRet_app, evV_app, evRetV_app, evC_app, evNil_app, evCons_app, evTup_app, evLst_app, evB_app, evBl_app, evAndT_app, evOrT_app, evNotT_app, evAndV_app, evOrV_app, evNotV_app, evIfE_app, ev1_app, ev2_app, evN_app, evF1_app, evCall_app, evSl_app, evSo_app, evNo_app, evYes_app, evSeq_app, evRng1_app, evRng2_app, evEnum_app, evPat_app, evRaise_app, evForR_app, evFor_app, evLc_app, evPar_app, evMut_app, evStore_app, evP0_app, evP1_app, evChGo_nil, evChGo_cons, evChT_app, evChV_app, atE_app, slotO_some, putE_app, putS_some, isOwn_own, at_nil, put_nil, at_one, at_0, at_1, put_0, put_1, shr_lst, shr_tup, shr_int, shr_bl, shr_str, shr_non, sh'_own, sh'_sh, sh'_scr, shrs_nil, shrs_cons, shrs_ints, shrs_bls, fz_int, fz_bl, fz_str, fz_non, fz_own, fz_scr, fz_sh, fz_tup, fzs_nil, fzs_cons, fzs_ints, fzs_bls, vAdd_ii, vSub_ii, vCmp_ii, vInt_bl, vLen_lst, vLen_tup, vList_lst, vTuple_lst, vRev_lst, vSl_lst, asInt_int, seqD_lst, seqD_tup, vSorted_ints, vAll_bls, vAny_bls, frz_nil, frz_cons, frz1_d, frz1_n, frz1_s, clr_nil, clr_cons, setD_nil, setD_cons, patD_nm, patD_tup, patD_lst, patDs_nil, patDs_cons, app2_some, okPat_nil, okPat_cons, ite_ok, sizeLine_big, fzs_repi, vIx_0, vIx_1, vIx_2, vIx_3, vIx_4, shrs_rep, shrs_rev, shrs_app, fzs_app, ifok_and, ifok_or, ifokP_and, ifokP_or, ifokD_and, ifokD_or, ifokDP_and, ifokDP_or, l0, vAdd_ll, cutL, HT.sIx]
  have c8 : ∀ d : D, mAppend (.lst .own [.lst .sh [.int q0, .int q1, .int q2, .int q3], .lst .sh [.int e1, .int q1, .int q2, .int q3], .lst .sh [.int q3, .int q2, .int q1, .int q0], .lst .sh [.int q0, .int q1, .int q2], .lst .sh [.int q0, .int q1, .int q2, .int q3, .int q0], .lst .sh [.int w, .int q1, .int q2, .int q3], .lst .sh [.int q0, .int q1, .int q2, .int q3], .lst .sh [.int q0, .int q2, .int q1, .int q3]]) [d] = some (.lst .own ([.lst .sh [.int q0, .int q1, .int q2, .int q3], .lst .sh [.int e1, .int q1, .int q2, .int q3], .lst .sh [.int q3, .int q2, .int q1, .int q0], .lst .sh [.int q0, .int q1, .int q2], .lst .sh [.int q0, .int q1, .int q2, .int q3, .int q0], .lst .sh [.int w, .int q1, .int q2, .int q3], .lst .sh [.int q0, .int q1, .int q2, .int q3], .lst .sh [.int q0, .int q2, .int q1, .int q3]] ++ [d])) := fun d => mAppend_ok (by rw [PySem.sizeLine_eq]; simp)
  have t8 : s_law_8 [x0, x1, x2, some (.lst .sh (ps.map D.int)), some (.int (n : Nat)), some (.lst .sh [.int q0, .int q1, .int q2, .int q3]), some (.int 0), some (.lst .own [.lst .sh [.int q0, .int q1, .int q2, .int q3], .lst .sh [.int e1, .int q1, .int q2, .int q3], .lst .sh [.int q3, .int q2, .int q1, .int q0], .lst .sh [.int q0, .int q1, .int q2], .lst .sh [.int q0, .int q1, .int q2, .int q3, .int q0], .lst .sh [.int w, .int q1, .int q2, .int q3], .lst .sh [.int q0, .int q1, .int q2, .int q3], .lst .sh [.int q0, .int q2, .int q1, .int q3]]), none, none, none, none] = .nx [x0, x1, x2, some (.lst .sh (ps.map D.int)), some (.int (n : Nat)), some (.lst .sh [.int q0, .int q1, .int q2, .int q3]), some (.int 0), some (.lst .own [.lst .sh [.int q0, .int q1, .int q2, .int q3], .lst .sh [.int e1, .int q1, .int q2, .int q3], .lst .sh [.int q3, .int q2, .int q1, .int q0], .lst .sh [.int q0, .int q1, .int q2], .lst .sh [.int q0, .int q1, .int q2, .int q3, .int q0], .lst .sh [.int w, .int q1, .int q2, .int q3], .lst .sh [.int q0, .int q1, .int q2, .int q3], .lst .sh [.int q0, .int q2, .int q1, .int q3], .lst .own [.int q3, .int q1, .int q2, .int q0]]), none, none, none, none] := by
    unfold s_law_8
    simp -implicitDefEqProofs [-List.map_map, evFn_app, startE, evSeqS_app, evNx_app, evIfS_app, evXk_app, evXm_app, evXf_app, evAk_app, evAm_app, evAf_app, evSet_app, evEx_app, evRet_app, evV_app, evRetV_app, evC_app, evNil_app, evCons_app, evTup_app, evLst_app, evB_app, evBl_app, evAndT_app, evOrT_app, evNotT_app, evAndV_app, evOrV_app, evNotV_app, evIfE_app, ev1_app, ev2_app, evN_app, evF1_app, evCall_app, evSl_app, evSo_app, evNo_app, evYes_app, evSeq_app, evRng1_app, evRng2_app, evEnum_app, evPat_app, evRaise_app, evForR_app, evFor_app, evLc_app, evPar_app, evMut_app, evStore_app, evP0_app, evP1_app, evChGo_nil, evChGo_cons, evChT_app, evChV_app, atE_app, slotO_some, putE_app, putS_some, isOwn_own, at_nil, put_nil, at_one, at_0, at_1, put_0, put_1, shr_lst, shr_tup, shr_int, shr_bl, shr_str, shr_non, sh'_own, sh'_sh, sh'_scr, shrs_nil, shrs_cons, shrs_ints, shrs_bls, fz_int, fz_bl, fz_str, fz_non, fz_own, fz_scr, fz_sh, fz_tup, fzs_nil, fzs_cons, fzs_ints, fzs_bls, vAdd_ii, vSub_ii, vCmp_ii, vInt_bl, vLen_lst, vLen_tup, vList_lst, vTuple_lst, vRev_lst, vSl_lst, asInt_int, seqD_lst, seqD_tup, vSorted_ints, vAll_bls, vAny_bls, frz_nil, frz_cons, frz1_d, frz1_n, frz1_s, clr_nil, clr_cons, setD_nil, setD_cons, patD_nm, patD_tup, patD_lst, patDs_nil, patDs_cons, app2_some, okPat_nil, okPat_cons, ite_ok, sizeLine_big, fzs_repi, vIx_0, vIx_1, vIx_2, vIx_3, vIx_4, shrs_rep, shrs_rev, shrs_app, fzs_app, ifok_and, ifok_or, ifokP_and, ifokP_or, ifokD_and, ifokD_or, ifokDP_and, ifokDP_or, l1, c8]
  refine ⟨_, [[q0, q1, q2, q3], [e1, q1, q2, q3], [q3, q2, q1, q0], [q0, q1, q2], [q0, q1, q2, q3, q0], [w, q1, q2, q3], [q0, q1, q2, q3], [q0, q2, q1, q3], [q3, q1, q2, q0]], _, _, ?_, ?_, by rw [evSeqS_app, t5, seq_nx, evSeqS_app, t6, seq_nx, evSeqS_app, t7, seq_nx, evSeqS_app, t8, seq_nx]⟩
  · intro q hq
    simp at hq
    rcases hq with rfl | rfl | rfl | rfl | rfl | rfl | rfl | rfl | rfl <;> simp
  · simp [shrs_cons, shrs_nil, shr_lst, shr_int, sh'_sh, sh'_own, Lsh]
theorem some_1 {q0 q1 q2 q3 p7 e1 e3 w : Int} {n : Nat} (x7 : vIx (.lst .sh (ps.map D.int)) (.int 7) = .ok (.int p7)) (m1 : vMod (.int p7) (.int (n : Nat)) = .ok (.int e1)) (m3 : vMod (.int p7) (.int 3) = .ok (.int e3))
    (hw : vIx (.lst .sh [.int (-1), .int (n : Nat), .int 1000000000000000000000000000000]) (.int e3) = .ok (.int w)) {x0 x1 x2 : Option D} :
    ∃ (ds : List D) (qs : List (List Int)) (x3 x5 : Option D), (∀ q ∈ qs, q.length ≤ 1000) ∧ shrs ds = qs.map Lsh ∧
      evSeqS s_law_5 (evSeqS s_law_6 (evSeqS s_law_7 (evSeqS s_law_8 s_law_11))) [x0, x1, x2, some (.lst .own (ps.map D.int)), some (.int (n : Nat)), some (.lst .own [.int q0, .int q1, .int q2, .int q3]), some (.int 1), none, none, none, none, none] =
      s_law_11 [x0, x1, x2, x3, some (.int (n : Nat)), x5, some (.int 1), some (.lst .own ds), none, none, none, none] := by
  have vp : vPow (.int 10) (.int 30) = .ok (.int 1000000000000000000000000000000) := vPow_ii (by decide)
  have t5 : s_law_5 [x0, x1, x2, some (.lst .own (ps.map D.int)), some (.int (n : Nat)), some (.lst .own [.int q0, .int q1, .int q2, .int q3]), some (.int 1), none, none, none, none, none] = .nx [x0, x1, x2, some (.lst .sh (ps.map D.int)), some (.int (n : Nat)), some (.lst .sh [.int q0, .int q1, .int q2, .int q3]), some (.int 1), some (.lst .own [.lst .sh [.int q0, .int q1, .int q2, .int q3], .lst .own [.int q0, .int e1, .int q2, .int q3], .lst .own [.int q3, .int q2, .int q1, .int q0], .lst .own [.int q0, .int q1, .int q2], .lst .own [.int q0, .int q1, .int q2, .int q3, .int q0]]), none, none, none, none] := by
    unfold s_law_5
    simp -implicitDefEqProofs [-List.map_map, evFn_app, startE, evSeqS_app, evNx_app, evIfS_app, evXk_app, evXm_app, evXf_app, evAk_app, evAm_app, evAf_app, evSet_app, evEx_app, evRet_app, evV_app, evRetV_app, evC_app, evNil_app, evCons_app, evTup_app, evLst_app, evB_app, evBl_app, evAndT_app, evOrT_app, evNotT_app, evAndV_app, evOrV_app, evNotV_app, evIfE_app, ev1_app, ev2_app, evN_app, evF1_app, evCall_app, evSl_app, evSo_app, evNo_app, evYes_app, evSeq_app, evRng1_app, evRng2_app, evEnum_app, evPat_app, evRaise_app, evForR_app, evFor_app, evLc_app, evPar_app, evMut_app, evStore_app, evP0_app, evP1_app, evChGo_nil, evChGo_cons, evChT_app, evChV_app, atE_app, slotO_some, putE_app, putS_some, isOwn_own, at_nil, put_nil, at_one, at_0, at_1, put_0, put_1, shr_lst, shr_tup, shr_int, shr_bl, shr_str, shr_non, sh'_own, sh'_sh, sh'_scr, shrs_nil, shrs_cons, shrs_ints, shrs_bls, fz_int, fz_bl, fz_str, fz_non, fz_own, fz_scr, fz_sh, fz_tup, fzs_nil, fzs_cons, fzs_ints, fzs_bls, vAdd_ii, vSub_ii, vCmp_ii, vInt_bl, vLen_lst, vLen_tup, vList_lst, vTuple_lst, vRev_lst, vSl_lst, asInt_int, seqD_lst, seqD_tup, vSorted_ints, vAll_bls, vAny_bls, frz_nil, frz_cons, frz1_d, frz1_n, frz1_s, clr_nil, clr_cons, setD_nil, setD_cons, patD_nm, patD_tup, patD_lst, patDs_nil, patDs_cons, app2_some, okPat_nil, okPat_cons, ite_ok, sizeLine_big, fzs_repi, vIx_0, vIx_1, vIx_2, vIx_3, vIx_4, shrs_rep, shrs_rev, shrs_app, fzs_app, ifok_and, ifok_or, ifokP_and, ifokP_or, ifokD_and, ifokD_or, ifokDP_and, ifokDP_or, x7, m1, vAdd_ll, cutL, HT.sIx]
  have t6 : s_law_6 [x0, x1, x2, some (.lst .sh (ps.map D.int)), some (.int (n : Nat)), some (.lst .sh [.int q0, .int q1, .int q2, .int q3]), some (.int 1), some (.lst .own [.lst .sh [.int q0, .int q1, .int q2, .int q3], .lst .own [.int q0, .int e1, .int q2, .int q3], .lst .own [.int q3, .int q2, .int q1, .int q0], .lst .own [.int q0, .int q1, .int q2], .lst .own [.int q0, .int q1, .int q2, .int q3, .int q0]]), none, none, none, none] = .nx [x0, x1, x2, some (.lst .sh (ps.map D.int)), some (.int (n : Nat)), some (.lst .sh [.int q0, .int q1, .int q2, .int q3]), some (.int 1), some (.lst .own [.lst .sh [.int q0, .int q1, .int q2, .int q3], .lst .sh [.int q0, .int e1, .int q2, .int q3], .lst .sh [.int q3, .int q2, .int q1, .int q0], .lst .sh [.int q0, .int q1, .int q2], .lst .sh [.int q0, .int q1, .int q2, .int q3, .int q0], .lst .sh [.int q0, .int w, .int q2, .int q3]]), none, none, none, none] := by
    unfold s_law_6
    simp -implicitDefEqProofs [-List.map_map, evFn_app, startE, evSeqS_app, evNx_app, evIfS_app, evXk_app, evXm_app, evXf_app, evAk_app, evAm_app, evAf_app, evSet_app, evEx_app, evRet_app, evV_app, evRetV_app, evC_app, evNil_app, evCons_app, evTup_app, evLst_app, evB_app, evBl_app, evAndT_app, evOrT_app, evNotT_app, evAndV_app, evOrV_app, evNotV_app, evIfE_app, ev1_app, ev2_app, evN_app, evF1_app, evCall_app, evSl_app, evSo_app, evNo_app, evYes_app, evSeq_app, evRng1_app, evRng2_app, evEnum_app, evPat_app, evRaise_app, evForR_app, evFor_app, evLc_app, evPar_app, evMut_app, evStore_app, evP0_app, evP1_app, evChGo_nil, evChGo_cons, evChT_app, evChV_app, atE_app, slotO_some, putE_app, putS_some, isOwn_own, at_nil, put_nil, at_one, at_0, at_1, put_0, put_1, shr_lst, shr_tup, shr_int, shr_bl, shr_str, shr_non, sh'_own, sh'_sh, sh'_scr, shrs_nil, shrs_cons, shrs_ints, shrs_bls, fz_int, fz_bl, fz_str, fz_non, fz_own, fz_scr, fz_sh, fz_tup, fzs_nil, fzs_cons, fzs_ints, fzs_bls, vAdd_ii, vSub_ii, vCmp_ii, vInt_bl, vLen_lst, vLen_tup, vList_lst, vTuple_lst, vRev_lst, vSl_lst, asInt_int, seqD_lst, seqD_tup, vSorted_ints, vAll_bls, vAny_bls, frz_nil, frz_cons, frz1_d, frz1_n, frz1_s, clr_nil, clr_cons, setD_nil, setD_cons, patD_nm, patD_tup, patD_lst, patDs_nil, patDs_cons, app2_some, okPat_nil, okPat_cons, ite_ok, sizeLine_big, fzs_repi, vIx_0, vIx_1, vIx_2, vIx_3, vIx_4, shrs_rep, shrs_rev, shrs_app, fzs_app, ifok_and, ifok_or, ifokP_and, ifokP_or, ifokD_and, ifokD_or, ifokDP_and, ifokDP_or, x7, m3, vp, vNeg_i, hw, vAdd_ll, cutL, HT.sIx]
  have l0 : ∀ env : En, env[5]? = some (some (.lst .sh [.int q0, .int q1, .int q2, .int q3])) → 11 < env.length → lcGo (.nm 11) evYes e_law_0 env [.int 0, .int 2, .int 1, .int 3] = .ok [.int q0, .int q2, .int q1, .int q3] := fun env h1 h2 => (ix4 (k := 0) env h1 h2).1 _ (.inl rfl)
  have l1 : ∀ env : En, env[5]? = some (some (.lst .sh [.int q0, .int q1, .int q2, .int q3])) → 11 < env.length → lcGo (.nm 11) evYes e_law_1 env [.int 3, .int 1, .int 2, .int 0] = .ok [.int q3, .int q1, .int q2, .int q0] := fun env h1 h2 => (ix4 (k := 0) env h1 h2).2 _ (.inr rfl)
  have t7 : s_law_7 [x0, x1, x2, some (.lst .sh (ps.map D.int)), some (.int (n : Nat)), some (.lst .sh [.int q0, .int q1, .int q2, .int q3]), some (.int 1), some (.lst .own [.lst .sh [.int q0, .int q1, .int q2, .int q3], .lst .sh [.int q0, .int e1, .int q2, .int q3], .lst .sh [.int q3, .int q2, .int q1, .int q0], .lst .sh [.int q0, .int q1, .int q2], .lst .sh [.int q0, .int q1, .int q2, .int q3, .int q0], .lst .sh [.int q0, .int w, .int q2, .int q3]]), none, none, none, none] = .nx [x0, x1, x2, some (.lst .sh (ps.map D.int)), some (.int (n : Nat)), some (.lst .sh [.int q0, .int q1, .int q2, .int q3]), some (.int 1), some (.lst .own [.lst .sh [.int q0, .int q1, .int q2, .int q3], .lst .sh [.int q0, .int e1, .int q2, .int q3], .lst .sh [.int q3, .int q2, .int q1, .int q0], .lst .sh [.int q0, .int q1, .int q2], .lst .sh [.int q0, .int q1, .int q2, .int q3, .int q0], .lst .sh [.int q0, .int w, .int q2, .int q3], .lst .sh [.int q0, .int q0, .int q2, .int q3], .lst .sh [.int q0, .int q2, .int q1, .int q3]]), none, none, none, none] := by
    unfold s_law_7
    simp -implicitDefEqProofs [-List.map_map, evFn_app, startE, evSeqS_app, evNx_app, evIfS_app, evXk_app, evXm_app, evXf_app, evAk_app, evAm_app, evAf_app, evSet_app, evEx_app, evRet_app, evV_app, evRetV_app, evC_app, evNil_app, evCons_app, evTup_app, evLst_app, evB_app, evBl_app, evAndT_app, evOrT_app, evNotT_app, evAndV_app, evOrV_app, evNotV_app, evIfE_app, ev1_app, ev2_app, evN_app, evF1_app, evCall_app, evSl_app, evSo_app, evNo_app, evYes_app, evSeq_app, evRng1_app, evRng2_app, evEnum_app, evPat_app, evRaise_app, evForR_app, evFor_app, evLc_app, evPar_app, evMut_app, evStore_app, evP0_app, evP1_app, evChGo_nil, evChGo_cons, evChT_app, evChV_app, atE_app, slotO_some, putE_app, putS_some, isOwn_own, at_nil, put_nil, at_one, at_0, at_1, put_0, put_1, shr_lst, shr_tup, shr_int, shr_bl, shr_str, shr_non, sh'_own, sh'_sh, sh'_scr, shrs_nil, shrs_cons, shrs_ints, shrs_bls, fz_int, fz_bl, fz_str, fz_non, fz_own, fz_scr, fz_sh, fz_tup, fzs_nil, fzs_cons, fzs_ints, fzs_bls, vAdd_ii, vSub_ii, vCmp_ii, vInt_bl, vLen_lst, vLen_tup, vList_lst, vTuple_lst, vRev_lst, vSl_lst, asInt_int, seqD_lst, seqD_tup, vSorted_ints, vAll_bls, vAny_bls, frz_nil, frz_cons, frz1_d, frz1_n, frz1_s, clr_nil, clr_cons, setD_nil, setD_cons, patD_nm, patD_tup, patD_lst, patDs_nil, patDs_cons, app2_some, okPat_nil, okPat_cons, ite_ok, sizeLine_big, fzs_repi, vIx_0, vIx_1, vIx_2, vIx_3, vIx_4, shrs_rep, shrs_rev, shrs_app, fzs_app, ifok_and, ifok_or, ifokP_and, ifokP_or, ifokD_and, ifokD_or, ifokDP_and, ifokDP_or, l0, vAdd_ll, cutL, HT.sIx]
  have c8 : ∀ d : D, mAppend (.lst .own [.lst .sh [.int q0, .int q1, .int q2, .int q3], .lst .sh [.int q0, .int e1, .int q2, .int q3], .lst .sh [.int q3, .int q2, .int q1, .int q0], .lst .sh [.int q0, .int q1, .int q2], .lst .sh [.int q0, .int q1, .int q2, .int q3, .int q0], .lst .sh [.int q0, .int w, .int q2, .int q3], .lst .sh [.int q0, .int q0, .int q2, .int q3], .lst .sh [.int q0, .int q2, .int q1, .int q3]]) [d] = some (.lst .own ([.lst .sh [.int q0, .int q1, .int q2, .int q3], .lst .sh [.int q0, .int e1, .int q2, .int q3], .lst .sh [.int q3, .int q2, .int q1, .int q0], .lst .sh [.int q0, .int q1, .int q2], .lst .sh [.int q0, .int q1, .int q2, .int q3, .int q0], .lst .sh [.int q0, .int w, .int q2, .int q3], .lst .sh [.int q0, .int q0, .int q2, .int q3], .lst .sh [.int q0, .int q2, .int q1, .int q3]] ++ [d])) := fun d => mAppend_ok (by rw [PySem.sizeLine_eq]; simp)
  have t8 : s_law_8 [x0, x1, x2, some (.lst .sh (ps.map D.int)), some (.int (n : Nat)), some (.lst .sh [.int q0, .int q1, .int q2, .int q3]), some (.int 1), some (.lst .own [.lst .sh [.int q0, .int q1, .int q2, .int q3], .lst .sh [.int q0, .int e1, .int q2, .int q3], .lst .sh [.int q3, .int q2, .int q1, .int q0], .lst .sh [.int q0, .int q1, .int q2], .lst .sh [.int q0, .int q1, .int q2, .int q3, .int q0], .lst .sh [.int q0, .int w, .int q2, .int q3], .lst .sh [.int q0, .int q0, .int q2, .int q3], .lst .sh [.int q0, .int q2, .int q1, .int q3]]), none, none, none, none] = .nx [x0, x1, x2, some (.lst .sh (ps.map D.int)), some (.int (n : Nat)), some (.lst .sh [.int q0, .int q1, .int q2, .int q3]), some (.int 1), some (.lst .own [.lst .sh [.int q0, .int q1, .int q2, .int q3], .lst .sh [.int q0, .int e1, .int q2, .int q3], .lst .sh [.int q3, .int q2, .int q1, .int q0], .lst .sh [.int q0, .int q1, .int q2], .lst .sh [.int q0, .int q1, .int q2, .int q3, .int q0], .lst .sh [.int q0, .int w, .int q2, .int q3], .lst .sh [.int q0, .int q0, .int q2, .int q3], .lst .sh [.int q0, .int q2, .int q1, .int q3], .lst .own [.int q3, .int q1, .int q2, .int q0]]), none, none, none, none] := by
    unfold s_law_8
    simp -implicitDefEqProofs [-List.map_map, evFn_app, startE, evSeqS_app, evNx_app, evIfS_app, evXk_app, evXm_app, evXf_app, evAk_app, evAm_app, evAf_app, evSet_app, evEx_app, evRet_app, evV_app, evRetV_app, evC_app, evNil_app, evCons_app, evTup_app, evLst_app, evB_app, evBl_app, evAndT_app, evOrT_app, evNotT_app, evAndV_app, evOrV_app, evNotV_app, evIfE_app, ev1_app, ev2_app, evN_app, evF1_app, evCall_app, evSl_app, evSo_app, evNo_app, evYes_app, evSeq_app, evRng1_app, evRng2_app, evEnum_app, evPat_app, evRaise_app, evForR_app, evFor_app, evLc_app, evPar_app, evMut_app, evStore_app, evP0_app, evP1_app, evChGo_nil, evChGo_cons, evChT_app, evChV_app, atE_app, slotO_some, putE_app, putS_some, isOwn_own, at_nil, put_nil, at_one, at_0, at_1, put_0, put_1, shr_lst, shr_tup, shr_int, shr_bl, shr_str, shr_non, sh'_own, sh'_sh, sh'_scr, shrs_nil, shrs_cons, shrs_ints, shrs_bls, fz_int, fz_bl, fz_str, fz_non, fz_own, fz_scr, fz_sh, fz_tup, fzs_nil, fzs_cons, fzs_ints, fzs_bls, vAdd_ii, vSub_ii, vCmp_ii, vInt_bl, vLen_lst, vLen_tup, vList_lst, vTuple_lst, vRev_lst, vSl_lst, asInt_int, seqD_lst, seqD_tup, vSorted_ints, vAll_bls, vAny_bls, frz_nil, frz_cons, frz1_d, frz1_n, frz1_s, clr_nil, clr_cons, setD_nil, setD_cons, patD_nm, patD_tup, patD_lst, patDs_nil, patDs_cons, app2_some, okPat_nil, okPat_cons, ite_ok, sizeLine_big, fzs_repi, vIx_0, vIx_1, vIx_2, vIx_3, vIx_4, shrs_rep, shrs_rev, shrs_app, fzs_app, ifok_and, ifok_or, ifokP_and, ifokP_or, ifokD_and, ifokD_or, ifokDP_and, ifokDP_or, l1, c8]
  refine ⟨_, [[q0, q1, q2, q3], [q0, e1, q2, q3], [q3, q2, q1, q0], [q0, q1, q2], [q0, q1, q2, q3, q0], [q0, w, q2, q3], [q0, q0, q2, q3], [q0, q2, q1, q3], [q3, q1, q2, q0]], _, _, ?_, ?_, by rw [evSeqS_app, t5, seq_nx, evSeqS_app, t6, seq_nx, evSeqS_app, t7, seq_nx, evSeqS_app, t8, seq_nx]⟩
  · intro q hq
    simp at hq
    rcases hq with rfl | rfl | rfl | rfl | rfl | rfl | rfl | rfl | rfl <;> simp
  · simp [shrs_cons, shrs_nil, shr_lst, shr_int, sh'_sh, sh'_own, Lsh]
theorem some_2 {q0 q1 q2 q3 p7 e1 e3 w : Int} {n : Nat} (x7 : vIx (.lst .sh (ps.map D.int)) (.int 7) = .ok (.int p7)) (m1 : vMod (.int p7) (.int (n : Nat)) = .ok (.int e1)) (m3 : vMod (.int p7) (.int 3) = .ok (.int e3))
    (hw : vIx (.lst .sh [.int (-1), .int (n : Nat), .int 1000000000000000000000000000000]) (.int e3) = .ok (.int w)) {x0 x1 x2 : Option D} :
    ∃ (ds : List D) (qs : List (List Int)) (x3 x5 : Option D), (∀ q ∈ qs, q.length ≤ 1000) ∧ shrs ds = qs.map Lsh ∧
      evSeqS s_law_5 (evSeqS s_law_6 (evSeqS s_law_7 (evSeqS s_law_8 s_law_11))) [x0, x1, x2, some (.lst .own (ps.map D.int)), some (.int (n : Nat)), some (.lst .own [.int q0, .int q1, .int q2, .int q3]), some (.int 2), none, none, none, none, none] =
      s_law_11 [x0, x1, x2, x3, some (.int (n : Nat)), x5, some (.int 2), some (.lst .own ds), none, none, none, none] := by
  have vp : vPow (.int 10) (.int 30) = .ok (.int 1000000000000000000000000000000) := vPow_ii (by decide)
  have t5 : s_law_5 [x0, x1, x2, some (.lst .own (ps.map D.int)), some (.int (n : Nat)), some (.lst .own [.int q0, .int q1, .int q2, .int q3]), some (.int 2), none, none, none, none, none] = .nx [x0, x1, x2, some (.lst .sh (ps.map D.int)), some (.int (n : Nat)), some (.lst .sh [.int q0, .int q1, .int q2, .int q3]), some (.int 2), some (.lst .own [.lst .sh [.int q0, .int q1, .int q2, .int q3], .lst .own [.int q0, .int q1, .int e1, .int q3], .lst .own [.int q3, .int q2, .int q1, .int q0], .lst .own [.int q0, .int q1, .int q2], .lst .own [.int q0, .int q1, .int q2, .int q3, .int q0]]), none, none, none, none] := by
    unfold s_law_5
    simp -implicitDefEqProofs [-List.map_map, evFn_app, startE, evSeqS_app, evNx_app, evIfS_app, evXk_app, evXm_app, evXf_app, evAk_app, evAm_app, evAf_app, evSet_app, evEx_app, evRet_app, evV_app, evRetV_app, evC_app, evNil_app, evCons_app, evTup_app, evLst_app, evB_app, evBl_app, evAndT_app, evOrT_app, evNotT_app, evAndV_app, evOrV_app, evNotV_app, evIfE_app, ev1_app, ev2_app, evN_app, evF1_app, evCall_app, evSl_app, evSo_app, evNo_app, evYes_app, evSeq_app, evRng1_app, evRng2_app, evEnum_app, evPat_app, evRaise_app, evForR_app, evFor_app, evLc_app, evPar_app, evMut_app, evStore_app, evP0_app, evP1_app, evChGo_nil, evChGo_cons, evChT_app, evChV_app, atE_app, slotO_some, putE_app, putS_some, isOwn_own, at_nil, put_nil, at_one, at_0, at_1, put_0, put_1, shr_lst, shr_tup, shr_int, shr_bl, shr_str, shr_non, sh'_own, sh'_sh, sh'_scr, shrs_nil, shrs_cons, shrs_ints, shrs_bls, fz_int, fz_bl, fz_str, fz_non, fz_own, fz_scr, fz_sh, fz_tup, fzs_nil, fzs_cons, fzs_ints, fzs_bls, vAdd_ii, vSub_ii, vCmp_ii, vInt_bl, vLen_lst, vLen_tup, vList_lst, vTuple_lst, vRev_lst, vSl_lst, asInt_int, seqD_lst, seqD_tup, vSorted_ints, vAll_bls, vAny_bls, frz_nil, frz_cons, frz1_d, frz1_n, frz1_s, clr_nil, clr_cons, setD_nil, setD_cons, patD_nm, patD_tup, patD_lst, patDs_nil, patDs_cons, app2_some, okPat_nil, okPat_cons, ite_ok, sizeLine_big, fzs_repi, vIx_0, vIx_1, vIx_2, vIx_3, vIx_4, shrs_rep, shrs_rev, shrs_app, fzs_app, ifok_and, ifok_or, ifokP_and, ifokP_or, ifokD_and, ifokD_or, ifokDP_and, ifokDP_or, x7, m1, vAdd_ll, cutL, HT.sIx]
  have t6 : s_law_6 [x0, x1, x2, some (.lst .sh (ps.map D.int)), some (.int (n : Nat)), some (.lst .sh [.int q0, .int q1, .int q2, .int q3]), some (.int 2), some (.lst .own [.lst .sh [.int q0, .int q1, .int q2, .int q3], .lst .own [.int q0, .int q1, .int e1, .int q3], .lst .own [.int q3, .int q2, .int q1, .int q0], .lst .own [.int q0, .int q1, .int q2], .lst .own [.int q0, .int q1, .int q2, .int q3, .int q0]]), none, none, none, none] = .nx [x0, x1, x2, some (.lst .sh (ps.map D.int)), some (.int (n : Nat)), some (.lst .sh [.int q0, .int q1, .int q2, .int q3]), some (.int 2), some (.lst .own [.lst .sh [.int q0, .int q1, .int q2, .int q3], .lst .sh [.int q0, .int q1, .int e1, .int q3], .lst .sh [.int q3, .int q2, .int q1, .int q0], .lst .sh [.int q0, .int q1, .int q2], .lst .sh [.int q0, .int q1, .int q2, .int q3, .int q0], .lst .sh [.int q0, .int q1, .int w, .int q3]]), none, none, none, none] := by
    unfold s_law_6
    simp -implicitDefEqProofs [-List.map_map, evFn_app, startE, evSeqS_app, evNx_app, evIfS_app, evXk_app, evXm_app, evXf_app, evAk_app, evAm_app, evAf_app, evSet_app, evEx_app, evRet_app, evV_app, evRetV_app, evC_app, evNil_app, evCons_app, evTup_app, evLst_app, evB_app, evBl_app, evAndT_app, evOrT_app, evNotT_app, evAndV_app, evOrV_app, evNotV_app, evIfE_app, ev1_app, ev2_app, evN_app, evF1_app, evCall_app, evSl_app, evSo_app, evNo_app, evYes_app, evSeq_app, evRng1_app, evRng2_app, evEnum_app, evPat_app, evRaise_app, evForR_app, evFor_app, evLc_app, evPar_app, evMut_app, evStore_app, evP0_app, evP1_app, evChGo_nil, evChGo_cons, evChT_app, evChV_app, atE_app, slotO_some, putE_app, putS_some, isOwn_own, at_nil, put_nil, at_one, at_0, at_1, put_0, put_1, shr_lst, shr_tup, shr_int, shr_bl, shr_str, shr_non, sh'_own, sh'_sh, sh'_scr, shrs_nil, shrs_cons, shrs_ints, shrs_bls, fz_int, fz_bl, fz_str, fz_non, fz_own, fz_scr, fz_sh, fz_tup, fzs_nil, fzs_cons, fzs_ints, fzs_bls, vAdd_ii, vSub_ii, vCmp_ii, vInt_bl, vLen_lst, vLen_tup, vList_lst, vTuple_lst, vRev_lst, vSl_lst, asInt_int, seqD_lst, seqD_tup, vSorted_ints, vAll_bls, vAny_bls, frz_nil, frz_cons, frz1_d, frz1_n, frz1_s, clr_nil, clr_cons, setD_nil, setD_cons, patD_nm, patD_tup, patD_lst, patDs_nil, patDs_cons, app2_some, okPat_nil, okPat_cons, ite_ok, sizeLine_big, fzs_repi, vIx_0, vIx_1, vIx_2, vIx_3, vIx_4, shrs_rep, shrs_rev, shrs_app, fzs_app, ifok_and, ifok_or, ifokP_and, ifokP_or, ifokD_and, ifokD_or, ifokDP_and, ifokDP_or, x7, m3, vp, vNeg_i, hw, vAdd_ll, cutL, HT.sIx]
  have l0 : ∀ env : En, env[5]? = some (some (.lst .sh [.int q0, .int q1, .int q2, .int q3])) → 11 < env.length → lcGo (.nm 11) evYes e_law_0 env [.int 0, .int 2, .int 1, .int 3] = .ok [.int q0, .int q2, .int q1, .int q3] := fun env h1 h2 => (ix4 (k := 0) env h1 h2).1 _ (.inl rfl)
  have l1 : ∀ env : En, env[5]? = some (some (.lst .sh [.int q0, .int q1, .int q2, .int q3])) → 11 < env.length → lcGo (.nm 11) evYes e_law_1 env [.int 3, .int 1, .int 2, .int 0] = .ok [.int q3, .int q1, .int q2, .int q0] := fun env h1 h2 => (ix4 (k := 0) env h1 h2).2 _ (.inr rfl)
  have t7 : s_law_7 [x0, x1, x2, some (.lst .sh (ps.map D.int)), some (.int (n : Nat)), some (.lst .sh [.int q0, .int q1, .int q2, .int q3]), some (.int 2), some (.lst .own [.lst .sh [.int q0, .int q1, .int q2, .int q3], .lst .sh [.int q0, .int q1, .int e1, .int q3], .lst .sh [.int q3, .int q2, .int q1, .int q0], .lst .sh [.int q0, .int q1, .int q2], .lst .sh [.int q0, .int q1, .int q2, .int q3, .int q0], .lst .sh [.int q0, .int q1, .int w, .int q3]]), none, none, none, none] = .nx [x0, x1, x2, some (.lst .sh (ps.map D.int)), some (.int (n : Nat)), some (.lst .sh [.int q0, .int q1, .int q2, .int q3]), some (.int 2), some (.lst .own [.lst .sh [.int q0, .int q1, .int q2, .int q3], .lst .sh [.int q0, .int q1, .int e1, .int q3], .lst .sh [.int q3, .int q2, .int q1, .int q0], .lst .sh [.int q0, .int q1, .int q2], .lst .sh [.int q0, .int q1, .int q2, .int q3, .int q0], .lst .sh [.int q0, .int q1, .int w, .int q3], .lst .sh [.int q0, .int q1, .int q0, .int q3], .lst .sh [.int q0, .int q2, .int q1, .int q3]]), none, none, none, none] := by
    unfold s_law_7
    simp -implicitDefEqProofs [-List.map_map, evFn_app, startE, evSeqS_app, evNx_app, evIfS_app, evXk_app, evXm_app, evXf_app, evAk_app, evAm_app, evAf_app, evSet_app, evEx_app, evRet_app, evV_app, evRetV_app, evC_app, evNil_app, evCons_app, evTup_app, evLst_app, evB_app, evBl_app, evAndT_app, evOrT_app, evNotT_app, evAndV_app, evOrV_app, evNotV_app, evIfE_app, ev1_app, ev2_app, evN_app, evF1_app, evCall_app, evSl_app, evSo_app, evNo_app, evYes_app, evSeq_app, evRng1_app, evRng2_app, evEnum_app, evPat_app, evRaise_app, evForR_app, evFor_app, evLc_app, evPar_app, evMut_app, evStore_app, evP0_app, evP1_app, evChGo_nil, evChGo_cons, evChT_app, evChV_app, atE_app, slotO_some, putE_app, putS_some, isOwn_own, at_nil, put_nil, at_one, at_0, at_1, put_0, put_1, shr_lst, shr_tup, shr_int, shr_bl, shr_str, shr_non, sh'_own, sh'_sh, sh'_scr, shrs_nil, shrs_cons, shrs_ints, shrs_bls, fz_int, fz_bl, fz_str, fz_non, fz_own, fz_scr, fz_sh, fz_tup, fzs_nil, fzs_cons, fzs_ints, fzs_bls, vAdd_ii, vSub_ii, vCmp_ii, vInt_bl, vLen_lst, vLen_tup, vList_lst, vTuple_lst, vRev_lst, vSl_lst, asInt_int, seqD_lst, seqD_tup, vSorted_ints, vAll_bls, vAny_bls, frz_nil, frz_cons, frz1_d, frz1_n, frz1_s, clr_nil, clr_cons, setD_nil, setD_cons, patD_nm, patD_tup, patD_lst, patDs_nil, patDs_cons, app2_some, okPat_nil, okPat_cons, ite_ok, sizeLine_big, fzs_repi, vIx_0, vIx_1, vIx_2, vIx_3, vIx_4, shrs_rep, shrs_rev, shrs_app, fzs_app, ifok_and, ifok_or, ifokP_and, ifokP_or, ifokD_and, ifokD_or, ifokDP_and, ifokDP_or, l0, vAdd_ll, cutL, HT.sIx]
  have c8 : ∀ d : D, mAppend (.lst .own [.lst .sh [.int q0, .int q1, .int q2, .int q3], .lst .sh [.int q0, .int q1, .int e1, .int q3], .lst .sh [.int q3, .int q2, .int q1, .int q0], .lst .sh [.int q0, .int q1, .int q2], .lst .sh [.int q0, .int q1, .int q2, .int q3, .int q0], .lst .sh [.int q0, .int q1, .int w, .int q3], .lst .sh [.int q0, .int q1, .int q0, .int q3], .lst .sh [.int q0, .int q2, .int q1, .int q3]]) [d] = some (.lst .own ([.lst .sh [.int q0, .int q1, .int q2, .int q3], .lst .sh [.int q0, .int q1, .int e1, .int q3], .lst .sh [.int q3, .int q2, .int q1, .int q0], .lst .sh [.int q0, .int q1, .int q2], .lst .sh [.int q0, .int q1, .int q2, .int q3, .int q0], .lst .sh [.int q0, .int q1, .int w, .int q3], .lst .sh [.int q0, .int q1, .int q0, .int q3], .lst .sh [.int q0, .int q2, .int q1, .int q3]] ++ [d])) := fun d => mAppend_ok (by rw [PySem.sizeLine_eq]; simp)
  have t8 : s_law_8 [x0, x1, x2, some (.lst .sh (ps.map D.int)), some (.int (n : Nat)), some (.lst .sh [.int q0, .int q1, .int q2, .int q3]), some (.int 2), some (.lst .own [.lst .sh [.int q0, .int q1, .int q2, .int q3], .lst .sh [.int q0, .int q1, .int e1, .int q3], .lst .sh [.int q3, .int q2, .int q1, .int q0], .lst .sh [.int q0, .int q1, .int q2], .lst .sh [.int q0, .int q1, .int q2, .int q3, .int q0], .lst .sh [.int q0, .int q1, .int w, .int q3], .lst .sh [.int q0, .int q1, .int q0, .int q3], .lst .sh [.int q0, .int q2, .int q1, .int q3]]), none, none, none, none] = .nx [x0, x1, x2, some (.lst .sh (ps.map D.int)), some (.int (n : Nat)), some (.lst .sh [.int q0, .int q1, .int q2, .int q3]), some (.int 2), some (.lst .own [.lst .sh [.int q0, .int q1, .int q2, .int q3], .lst .sh [.int q0, .int q1, .int e1, .int q3], .lst .sh [.int q3, .int q2, .int q1, .int q0], .lst .sh [.int q0, .int q1, .int q2], .lst .sh [.int q0, .int q1, .int q2, .int q3, .int q0], .lst .sh [.int q0, .int q1, .int w, .int q3], .lst .sh [.int q0, .int q1, .int q0, .int q3], .lst .sh [.int q0, .int q2, .int q1, .int q3], .lst .own [.int q3, .int q1, .int q2, .int q0]]), none, none, none, none] := by
    unfold s_law_8
    simp -implicitDefEqProofs [-List.map_map, evFn_app, startE, evSeqS_app, evNx_app, evIfS_app, evXk_app, evXm_app, evXf_app, evAk_app, evAm_app, evAf_app, evSet_app, evEx_app, evRet_app, evV_app, evRetV_app, evC_app, evNil_app, evCons_app, evTup_app, evLst_app, evB_app, evBl_app, evAndT_app, evOrT_app, evNotT_app, evAndV_app, evOrV_app, evNotV_app, evIfE_app, ev1_app, ev2_app, evN_app, evF1_app, evCall_app, evSl_app, evSo_app, evNo_app, evYes_app, evSeq_app, evRng1_app, evRng2_app, evEnum_app, evPat_app, evRaise_app, evForR_app, evFor_app, evLc_app, evPar_app, evMut_app, evStore_app, evP0_app, evP1_app, evChGo_nil, evChGo_cons, evChT_app, evChV_app, atE_app, slotO_some, putE_app, putS_some, isOwn_own, at_nil, put_nil, at_one, at_0, at_1, put_0, put_1, shr_lst, shr_tup, shr_int, shr_bl, shr_str, shr_non, sh'_own, sh'_sh, sh'_scr, shrs_nil, shrs_cons, shrs_ints, shrs_bls, fz_int, fz_bl, fz_str, fz_non, fz_own, fz_scr, fz_sh, fz_tup, fzs_nil, fzs_cons, fzs_ints, fzs_bls, vAdd_ii, vSub_ii, vCmp_ii, vInt_bl, vLen_lst, vLen_tup, vList_lst, vTuple_lst, vRev_lst, vSl_lst, asInt_int, seqD_lst, seqD_tup, vSorted_ints, vAll_bls, vAny_bls, frz_nil, frz_cons, frz1_d, frz1_n, frz1_s, clr_nil, clr_cons, setD_nil, setD_cons, patD_nm, patD_tup, patD_lst, patDs_nil, patDs_cons, app2_some, okPat_nil, okPat_cons, ite_ok, sizeLine_big, fzs_repi, vIx_0, vIx_1, vIx_2, vIx_3, vIx_4, shrs_rep, shrs_rev, shrs_app, fzs_app, ifok_and, ifok_or, ifokP_and, ifokP_or, ifokD_and, ifokD_or, ifokDP_and, ifokDP_or, l1, c8]
  refine ⟨_, [[q0, q1, q2, q3], [q0, q1, e1, q3], [q3, q2, q1, q0], [q0, q1, q2], [q0, q1, q2, q3, q0], [q0, q1, w, q3], [q0, q1, q0, q3], [q0, q2, q1, q3], [q3, q1, q2, q0]], _, _, ?_, ?_, by rw [evSeqS_app, t5, seq_nx, evSeqS_app, t6, seq_nx, evSeqS_app, t7, seq_nx, evSeqS_app, t8, seq_nx]⟩
  · intro q hq
    simp at hq
    rcases hq with rfl | rfl | rfl | rfl | rfl | rfl | rfl | rfl | rfl <;> simp
  · simp [shrs_cons, shrs_nil, shr_lst, shr_int, sh'_sh, sh'_own, Lsh]
theorem some_3 {q0 q1 q2 q3 p7 e1 e3 w : Int} {n : Nat} (x7 : vIx (.lst .sh (ps.map D.int)) (.int 7) = .ok (.int p7)) (m1 : vMod (.int p7) (.int (n : Nat)) = .ok (.int e1)) (m3 : vMod (.int p7) (.int 3) = .ok (.int e3))
    (hw : vIx (.lst .sh [.int (-1), .int (n : Nat), .int 1000000000000000000000000000000]) (.int e3) = .ok (.int w)) {x0 x1 x2 : Option D} :
    ∃ (ds : List D) (qs : List (List Int)) (x3 x5 : Option D), (∀ q ∈ qs, q.length ≤ 1000) ∧ shrs ds = qs.map Lsh ∧
      evSeqS s_law_5 (evSeqS s_law_6 (evSeqS s_law_7 (evSeqS s_law_8 s_law_11))) [x0, x1, x2, some (.lst .own (ps.map D.int)), some (.int (n : Nat)), some (.lst .own [.int q0, .int q1, .int q2, .int q3]), some (.int 3), none, none, none, none, none] =
      s_law_11 [x0, x1, x2, x3, some (.int (n : Nat)), x5, some (.int 3), some (.lst .own ds), none, none, none, none] := by
  have vp : vPow (.int 10) (.int 30) = .ok (.int 1000000000000000000000000000000) := vPow_ii (by decide)
  have t5 : s_law_5 [x0, x1, x2, some (.lst .own (ps.map D.int)), some (.int (n : Nat)), some (.lst .own [.int q0, .int q1, .int q2, .int q3]), some (.int 3), none, none, none, none, none] = .nx [x0, x1, x2, some (.lst .sh (ps.map D.int)), some (.int (n : Nat)), some (.lst .sh [.int q0, .int q1, .int q2, .int q3]), some (.int 3), some (.lst .own [.lst .sh [.int q0, .int q1, .int q2, .int q3], .lst .own [.int q0, .int q1, .int q2, .int e1], .lst .own [.int q3, .int q2, .int q1, .int q0], .lst .own [.int q0, .int q1, .int q2], .lst .own [.int q0, .int q1, .int q2, .int q3, .int q0]]), none, none, none, none] := by
    unfold s_law_5
    simp -implicitDefEqProofs [-List.map_map, evFn_app, startE, evSeqS_app, evNx_app, evIfS_app, evXk_app, evXm_app, evXf_app, evAk_app, evAm_app, evAf_app, evSet_app, evEx_app, evRet_app, evV_app, evRetV_app, evC_app, evNil_app, evCons_app, evTup_app, evLst_app, evB_app, evBl_app, evAndT_app, evOrT_app, evNotT_app, evAndV_app, evOrV_app, evNotV_app, evIfE_app, ev1_app, ev2_app, evN_app, evF1_app, evCall_app, evSl_app, evSo_app, evNo_app, evYes_app, evSeq_app, evRng1_app, evRng2_app, evEnum_app, evPat_app, evRaise_app, evForR_app, evFor_app, evLc_app, evPar_app, evMut_app, evStore_app, evP0_app, evP1_app, evChGo_nil, evChGo_cons, evChT_app, evChV_app, atE_app, slotO_some, putE_app, putS_some, isOwn_own, at_nil, put_nil, at_one, at_0, at_1, put_0, put_1, shr_lst, shr_tup, shr_int, shr_bl, shr_str, shr_non, sh'_own, sh'_sh, sh'_scr, shrs_nil, shrs_cons, shrs_ints, shrs_bls, fz_int, fz_bl, fz_str, fz_non, fz_own, fz_scr, fz_sh, fz_tup, fzs_nil, fzs_cons, fzs_ints, fzs_bls, vAdd_ii, vSub_ii, vCmp_ii, vInt_bl, vLen_lst, vLen_tup, vList_lst, vTuple_lst, vRev_lst, vSl_lst, asInt_int, seqD_lst, seqD_tup, vSorted_ints, vAll_bls, vAny_bls, frz_nil, frz_cons, frz1_d, frz1_n, frz1_s, clr_nil, clr_cons, setD_nil, setD_cons, patD_nm, patD_tup, patD_lst, patDs_nil, patDs_cons, app2_some, okPat_nil, okPat_cons, ite_ok, sizeLine_big, fzs_repi, vIx_0, vIx_1, vIx_2, vIx_3, vIx_4, shrs_rep, shrs_rev, shrs_app, fzs_app, ifok_and, ifok_or, ifokP_and, ifokP_or, ifokD_and, ifokD_or, ifokDP_and, ifokDP_or, x7, m1, vAdd_ll, cutL, HT.sIx]
  have t6 : s_law_6 [x0, x1, x2, some (.lst .sh (ps.map D.int)), some (.int (n : Nat)), some (.lst .sh [.int q0, .int q1, .int q2, .int q3]), some (.int 3), some (.lst .own [.lst .sh [.int q0, .int q1, .int q2, .int q3], .lst .own [.int q0, .int q1, .int q2, .int e1], .lst .own [.int q3, .int q2, .int q1, .int q0], .lst .own [.int q0, .int q1, .int q2], .lst .own [.int q0, .int q1, .int q2, .int q3, .int q0]]), none, none, none, none] = .nx [x0, x1, x2, some (.lst .sh (ps.map D.int)), some (.int (n : Nat)), some (.lst .sh [.int q0, .int q1, .int q2, .int q3]), some (.int 3), some (.lst .own [.lst .sh [.int q0, .int q1, .int q2, .int q3], .lst .sh [.int q0, .int q1, .int q2, .int e1], .lst .sh [.int q3, .int q2, .int q1, .int q0], .lst .sh [.int q0, .int q1, .int q2], .lst .sh [.int q0, .int q1, .int q2, .int q3, .int q0], .lst .sh [.int q0, .int q1, .int q2, .int w]]), none, none, none, none] := by
    unfold s_law_6
    simp -implicitDefEqProofs [-List.map_map, evFn_app, startE, evSeqS_app, evNx_app, evIfS_app, evXk_app, evXm_app, evXf_app, evAk_app, evAm_app, evAf_app, evSet_app, evEx_app, evRet_app, evV_app, evRetV_app, evC_app, evNil_app, evCons_app, evTup_app, evLst_app, evB_app, evBl_app, evAndT_app, evOrT_app, evNotT_app, evAndV_app, evOrV_app, evNotV_app, evIfE_app, ev1_app, ev2_app, evN_app, evF1_app, evCall_app, evSl_app, evSo_app, evNo_app, evYes_app, evSeq_app, evRng1_app, evRng2_app, evEnum_app, evPat_app, evRaise_app, evForR_app, evFor_app, evLc_app, evPar_app, evMut_app, evStore_app, evP0_app, evP1_app, evChGo_nil, evChGo_cons, evChT_app, evChV_app, atE_app, slotO_some, putE_app, putS_some, isOwn_own, at_nil, put_nil, at_one, at_0, at_1, put_0, put_1, shr_lst, shr_tup, shr_int, shr_bl, shr_str, shr_non, sh'_own, sh'_sh, sh'_scr, shrs_nil, shrs_cons, shrs_ints, shrs_bls, fz_int, fz_bl, fz_str, fz_non, fz_own, fz_scr, fz_sh, fz_tup, fzs_nil, fzs_cons, fzs_ints, fzs_bls, vAdd_ii, vSub_ii, vCmp_ii, vInt_bl, vLen_lst, vLen_tup, vList_lst, vTuple_lst, vRev_lst, vSl_lst, asInt_int, seqD_lst, seqD_tup, vSorted_ints, vAll_bls, vAny_bls, frz_nil, frz_cons, frz1_d, frz1_n, frz1_s, clr_nil, clr_cons, setD_nil, setD_cons, patD_nm, patD_tup, patD_lst, patDs_nil, patDs_cons, app2_some, okPat_nil, okPat_cons, ite_ok, sizeLine_big, fzs_repi, vIx_0, vIx_1, vIx_2, vIx_3, vIx_4, shrs_rep, shrs_rev, shrs_app, fzs_app, ifok_and, ifok_or, ifokP_and, ifokP_or, ifokD_and, ifokD_or, ifokDP_and, ifokDP_or, x7, m3, vp, vNeg_i, hw, vAdd_ll, cutL, HT.sIx]
  have l0 : ∀ env : En, env[5]? = some (some (.lst .sh [.int q0, .int q1, .int q2, .int q3])) → 11 < env.length → lcGo (.nm 11) evYes e_law_0 env [.int 0, .int 2, .int 1, .int 3] = .ok [.int q0, .int q2, .int q1, .int q3] := fun env h1 h2 => (ix4 (k := 0) env h1 h2).1 _ (.inl rfl)
  have l1 : ∀ env : En, env[5]? = some (some (.lst .sh [.int q0, .int q1, .int q2, .int q3])) → 11 < env.length → lcGo (.nm 11) evYes e_law_1 env [.int 3, .int 1, .int 2, .int 0] = .ok [.int q3, .int q1, .int q2, .int q0] := fun env h1 h2 => (ix4 (k := 0) env h1 h2).2 _ (.inr rfl)
  have t7 : s_law_7 [x0, x1, x2, some (.lst .sh (ps.map D.int)), some (.int (n : Nat)), some (.lst .sh [.int q0, .int q1, .int q2, .int q3]), some (.int 3), some (.lst .own [.lst .sh [.int q0, .int q1, .int q2, .int q3], .lst .sh [.int q0, .int q1, .int q2, .int e1], .lst .sh [.int q3, .int q2, .int q1, .int q0], .lst .sh [.int q0, .int q1, .int q2], .lst .sh [.int q0, .int q1, .int q2, .int q3, .int q0], .lst .sh [.int q0, .int q1, .int q2, .int w]]), none, none, none, none] = .nx [x0, x1, x2, some (.lst .sh (ps.map D.int)), some (.int (n : Nat)), some (.lst .sh [.int q0, .int q1, .int q2, .int q3]), some (.int 3), some (.lst .own [.lst .sh [.int q0, .int q1, .int q2, .int q3], .lst .sh [.int q0, .int q1, .int q2, .int e1], .lst .sh [.int q3, .int q2, .int q1, .int q0], .lst .sh [.int q0, .int q1, .int q2], .lst .sh [.int q0, .int q1, .int q2, .int q3, .int q0], .lst .sh [.int q0, .int q1, .int q2, .int w], .lst .sh [.int q0, .int q1, .int q2, .int q0], .lst .sh [.int q0, .int q2, .int q1, .int q3]]), none, none, none, none] := by
    unfold s_law_7
    simp -implicitDefEqProofs [-List.map_map, evFn_app, startE, evSeqS_app, evNx_app, evIfS_app, evXk_app, evXm_app, evXf_app, evAk_app, evAm_app, evAf_app, evSet_app, evEx_app, evRet_app, evV_app, evRetV_app, evC_app, evNil_app, evCons_app, evTup_app, evLst_app, evB_app, evBl_app, evAndT_app, evOrT_app, evNotT_app, evAndV_app, evOrV_app, evNotV_app, evIfE_app, ev1_app, ev2_app, evN_app, evF1_app, evCall_app, evSl_app, evSo_app, evNo_app, evYes_app, evSeq_app, evRng1_app, evRng2_app, evEnum_app, evPat_app, evRaise_app, evForR_app, evFor_app, evLc_app, evPar_app, evMut_app, evStore_app, evP0_app, evP1_app, evChGo_nil, evChGo_cons, evChT_app, evChV_app, atE_app, slotO_some, putE_app, putS_some, isOwn_own, at_nil, put_nil, at_one, at_0, at_1, put_0, put_1, shr_lst, shr_tup, shr_int, shr_bl, shr_str, shr_non, sh'_own, sh'_sh, sh'_scr, shrs_nil, shrs_cons, shrs_ints, shrs_bls, fz_int, fz_bl, fz_str, fz_non, fz_own, fz_scr, fz_sh, fz_tup, fzs_nil, fzs_cons, fzs_ints, fzs_bls, vAdd_ii, vSub_ii, vCmp_ii, vInt_bl, vLen_lst, vLen_tup, vList_lst, vTuple_lst, vRev_lst, vSl_lst, asInt_int, seqD_lst, seqD_tup, vSorted_ints, vAll_bls, vAny_bls, frz_nil, frz_cons, frz1_d, frz1_n, frz1_s, clr_nil, clr_cons, setD_nil, setD_cons, patD_nm, patD_tup, patD_lst, patDs_nil, patDs_cons, app2_some, okPat_nil, okPat_cons, ite_ok, sizeLine_big, fzs_repi, vIx_0, vIx_1, vIx_2, vIx_3, vIx_4, shrs_rep, shrs_rev, shrs_app, fzs_app, ifok_and, ifok_or, ifokP_and, ifokP_or, ifokD_and, ifokD_or, ifokDP_and, ifokDP_or, l0, vAdd_ll, cutL, HT.sIx]
  have c8 : ∀ d : D, mAppend (.lst .own [.lst .sh [.int q0, .int q1, .int q2, .int q3], .lst .sh [.int q0, .int q1, .int q2, .int e1], .lst .sh [.int q3, .int q2, .int q1, .int q0], .lst .sh [.int q0, .int q1, .int q2], .lst .sh [.int q0, .int q1, .int q2, .int q3, .int q0], .lst .sh [.int q0, .int q1, .int q2, .int w], .lst .sh [.int q0, .int q1, .int q2, .int q0], .lst .sh [.int q0, .int q2, .int q1, .int q3]]) [d] = some (.lst .own ([.lst .sh [.int q0, .int q1, .int q2, .int q3], .lst .sh [.int q0, .int q1, .int q2, .int e1], .lst .sh [.int q3, .int q2, .int q1, .int q0], .lst .sh [.int q0, .int q1, .int q2], .lst .sh [.int q0, .int q1, .int q2, .int q3, .int q0], .lst .sh [.int q0, .int q1, .int q2, .int w], .lst .sh [.int q0, .int q1, .int q2, .int q0], .lst .sh [.int q0, .int q2, .int q1, .int q3]] ++ [d])) := fun d => mAppend_ok (by rw [PySem.sizeLine_eq]; simp)
  have t8 : s_law_8 [x0, x1, x2, some (.lst .sh (ps.map D.int)), some (.int (n : Nat)), some (.lst .sh [.int q0, .int q1, .int q2, .int q3]), some (.int 3), some (.lst .own [.lst .sh [.int q0, .int q1, .int q2, .int q3], .lst .sh [.int q0, .int q1, .int q2, .int e1], .lst .sh [.int q3, .int q2, .int q1, .int q0], .lst .sh [.int q0, .int q1, .int q2], .lst .sh [.int q0, .int q1, .int q2, .int q3, .int q0], .lst .sh [.int q0, .int q1, .int q2, .int w], .lst .sh [.int q0, .int q1, .int q2, .int q0], .lst .sh [.int q0, .int q2, .int q1, .int q3]]), none, none, none, none] = .nx [x0, x1, x2, some (.lst .sh (ps.map D.int)), some (.int (n : Nat)), some (.lst .sh [.int q0, .int q1, .int q2, .int q3]), some (.int 3), some (.lst .own [.lst .sh [.int q0, .int q1, .int q2, .int q3], .lst .sh [.int q0, .int q1, .int q2, .int e1], .lst .sh [.int q3, .int q2, .int q1, .int q0], .lst .sh [.int q0, .int q1, .int q2], .lst .sh [.int q0, .int q1, .int q2, .int q3, .int q0], .lst .sh [.int q0, .int q1, .int q2, .int w], .lst .sh [.int q0, .int q1, .int q2, .int q0], .lst .sh [.int q0, .int q2, .int q1, .int q3], .lst .own [.int q3, .int q1, .int q2, .int q0]]), none, none, none, none] := by
    unfold s_law_8
    simp -implicitDefEqProofs [-List.map_map, evFn_app, startE, evSeqS_app, evNx_app, evIfS_app, evXk_app, evXm_app, evXf_app, evAk_app, evAm_app, evAf_app, evSet_app, evEx_app, evRet_app, evV_app, evRetV_app, evC_app, evNil_app, evCons_app, evTup_app, evLst_app, evB_app, evBl_app, evAndT_app, evOrT_app, evNotT_app, evAndV_app, evOrV_app, evNotV_app, evIfE_app, ev1_app, ev2_app, evN_app, evF1_app, evCall_app, evSl_app, evSo_app, evNo_app, evYes_app, evSeq_app, evRng1_app, evRng2_app, evEnum_app, evPat_app, evRaise_app, evForR_app, evFor_app, evLc_app, evPar_app, evMut_app, evStore_app, evP0_app, evP1_app, evChGo_nil, evChGo_cons, evChT_app, evChV_app, atE_app, slotO_some, putE_app, putS_some, isOwn_own, at_nil, put_nil, at_one, at_0, at_1, put_0, put_1, shr_lst, shr_tup, shr_int, shr_bl, shr_str, shr_non, sh'_own, sh'_sh, sh'_scr, shrs_nil, shrs_cons, shrs_ints, shrs_bls, fz_int, fz_bl, fz_str, fz_non, fz_own, fz_scr, fz_sh, fz_tup, fzs_nil, fzs_cons, fzs_ints, fzs_bls, vAdd_ii, vSub_ii, vCmp_ii, vInt_bl, vLen_lst, vLen_tup, vList_lst, vTuple_lst, vRev_lst, vSl_lst, asInt_int, seqD_lst, seqD_tup, vSorted_ints, vAll_bls, vAny_bls, frz_nil, frz_cons, frz1_d, frz1_n, frz1_s, clr_nil, clr_cons, setD_nil, setD_cons, patD_nm, patD_tup, patD_lst, patDs_nil, patDs_cons, app2_some, okPat_nil, okPat_cons, ite_ok, sizeLine_big, fzs_repi, vIx_0, vIx_1, vIx_2, vIx_3, vIx_4, shrs_rep, shrs_rev, shrs_app, fzs_app, ifok_and, ifok_or, ifokP_and, ifokP_or, ifokD_and, ifokD_or, ifokDP_and, ifokDP_or, l1, c8]
  refine ⟨_, [[q0, q1, q2, q3], [q0, q1, q2, e1], [q3, q2, q1, q0], [q0, q1, q2], [q0, q1, q2, q3, q0], [q0, q1, q2, w], [q0, q1, q2, q0], [q0, q2, q1, q3], [q3, q1, q2, q0]], _, _, ?_, ?_, by rw [evSeqS_app, t5, seq_nx, evSeqS_app, t6, seq_nx, evSeqS_app, t7, seq_nx, evSeqS_app, t8, seq_nx]⟩
  · intro q hq
    simp at hq
    rcases hq with rfl | rfl | rfl | rfl | rfl | rfl | rfl | rfl | rfl <;> simp
  · simp [shrs_cons, shrs_nil, shr_lst, shr_int, sh'_sh, sh'_own, Lsh]
end
end K07


set_option Elab.async false
set_option linter.all false
set_option maxRecDepth 100000
set_option maxHeartbeats 4000000
namespace K07
open VA L2
theorem turn_ok (scr : D) (c : Int) (hs : scr.shr = scr) : ∃ x2 x3 x4 x5 x6 x7 x8 x9 x10, b_law_16 [some scr, some (.int c), none, none, none, none, none, none, none, none, none, none] = .nx [some scr, some (.int c), x2, x3, x4, x5, x6, x7, x8, x9, x10, none] := by
  obtain ⟨fs, rs, ho, hf, hr, h0, hl, hlr⟩ := orders_ok c
  obtain ⟨ps, hd, hpl, hp⟩ := draws_ok (c + 1) 12 1000 (by decide) (by decide) (by decide) (by decide)
  have hpl : ps.length = 12 := hpl
  obtain ⟨q, hq4, hq⟩ := some_four_ok (ps := ps) hf hr h0 hl hlr (by omega)
  have hx : ∀ (i : Nat) (h : i < 12), vIx (.lst .sh (ps.map D.int)) (.int (i : Nat)) = .ok (.int (ps.getD i 0)) := fun i h => by
    refine vIx_get ?_
    rw [List.getElem?_map, List.getElem?_eq_getElem (by omega), List.getD_eq_getElem?_getD, List.getElem?_eq_getElem (by omega)]
    rfl
  have x6 := hx 6 (by decide)
  have x7 := hx 7 (by decide)
  match q, hq4 with
  | [q0, q1, q2, q3], _ =>
    have hq : f__law_some_four [both fs rs, .lst .sh (ps.map D.int)] = .ok (.lst .own [.int q0, .int q1, .int q2, .int q3]) := hq
    have s0 : s_law_0 [some scr, some (.int c), none, none, none, none, none, none, none, none, none, none] = .nx [some scr, some (.int c), some (own2 fs rs), none, none, none, none, none, none, none, none, none] := by
      unfold s_law_0
      generalize f__law_a_orders = g at *
      simp -implicitDefEqProofs [-List.map_map, evFn_app, startE, evSeqS_app, evNx_app, evIfS_app, evXk_app, evXm_app, evXf_app, evAk_app, evAm_app, evAf_app, evSet_app, evEx_app, evRet_app, evV_app, evRetV_app, evC_app, evNil_app, evCons_app, evTup_app, evLst_app, evB_app, evBl_app, evAndT_app, evOrT_app, evNotT_app, evAndV_app, evOrV_app, evNotV_app, evIfE_app, ev1_app, ev2_app, evN_app, evF1_app, evCall_app, evSl_app, evSo_app, evNo_app, evYes_app, evSeq_app, evRng1_app, evRng2_app, evEnum_app, evPat_app, evRaise_app, evForR_app, evFor_app, evLc_app, evPar_app, evMut_app, evStore_app, evP0_app, evP1_app, evChGo_nil, evChGo_cons, evChT_app, evChV_app, atE_app, slotO_some, putE_app, putS_some, isOwn_own, at_nil, put_nil, at_one, at_0, at_1, put_0, put_1, shr_lst, shr_tup, shr_int, shr_bl, shr_str, shr_non, sh'_own, sh'_sh, sh'_scr, shrs_nil, shrs_cons, shrs_ints, shrs_bls, fz_int, fz_bl, fz_str, fz_non, fz_own, fz_scr, fz_sh, fz_tup, fzs_nil, fzs_cons, fzs_ints, fzs_bls, vAdd_ii, vSub_ii, vCmp_ii, vInt_bl, vLen_lst, vLen_tup, vList_lst, vTuple_lst, vRev_lst, vSl_lst, asInt_int, seqD_lst, seqD_tup, vSorted_ints, vAll_bls, vAny_bls, frz_nil, frz_cons, frz1_d, frz1_n, frz1_s, clr_nil, clr_cons, setD_nil, setD_cons, patD_nm, patD_tup, patD_lst, patDs_nil, patDs_cons, app2_some, okPat_nil, okPat_cons, ite_ok, sizeLine_big, fzs_repi, vIx_0, vIx_1, vIx_2, vIx_3, vIx_4, shrs_rep, shrs_rev, shrs_app, fzs_app, ifok_and, ifok_or, ifokP_and, ifokP_or, ifokD_and, ifokD_or, ifokDP_and, ifokDP_or, ho]
    have s1 : s_law_1 [some scr, some (.int c), some (own2 fs rs), none, none, none, none, none, none, none, none, none] = .nx [some scr, some (.int c), some (own2 fs rs), some (.lst .own (ps.map D.int)), none, none, none, none, none, none, none, none] := by
      unfold s_law_1
      generalize f__law_draws = g at *
      simp -implicitDefEqProofs [-List.map_map, evFn_app, startE, evSeqS_app, evNx_app, evIfS_app, evXk_app, evXm_app, evXf_app, evAk_app, evAm_app, evAf_app, evSet_app, evEx_app, evRet_app, evV_app, evRetV_app, evC_app, evNil_app, evCons_app, evTup_app, evLst_app, evB_app, evBl_app, evAndT_app, evOrT_app, evNotT_app, evAndV_app, evOrV_app, evNotV_app, evIfE_app, ev1_app, ev2_app, evN_app, evF1_app, evCall_app, evSl_app, evSo_app, evNo_app, evYes_app, evSeq_app, evRng1_app, evRng2_app, evEnum_app, evPat_app, evRaise_app, evForR_app, evFor_app, evLc_app, evPar_app, evMut_app, evStore_app, evP0_app, evP1_app, evChGo_nil, evChGo_cons, evChT_app, evChV_app, atE_app, slotO_some, putE_app, putS_some, isOwn_own, at_nil, put_nil, at_one, at_0, at_1, put_0, put_1, shr_lst, shr_tup, shr_int, shr_bl, shr_str, shr_non, sh'_own, sh'_sh, sh'_scr, shrs_nil, shrs_cons, shrs_ints, shrs_bls, fz_int, fz_bl, fz_str, fz_non, fz_own, fz_scr, fz_sh, fz_tup, fzs_nil, fzs_cons, fzs_ints, fzs_bls, vAdd_ii, vSub_ii, vCmp_ii, vInt_bl, vLen_lst, vLen_tup, vList_lst, vTuple_lst, vRev_lst, vSl_lst, asInt_int, seqD_lst, seqD_tup, vSorted_ints, vAll_bls, vAny_bls, frz_nil, frz_cons, frz1_d, frz1_n, frz1_s, clr_nil, clr_cons, setD_nil, setD_cons, patD_nm, patD_tup, patD_lst, patDs_nil, patDs_cons, app2_some, okPat_nil, okPat_cons, ite_ok, sizeLine_big, fzs_repi, vIx_0, vIx_1, vIx_2, vIx_3, vIx_4, shrs_rep, shrs_rev, shrs_app, fzs_app, ifok_and, ifok_or, ifokP_and, ifokP_or, ifokD_and, ifokD_or, ifokDP_and, ifokDP_or, hd]
    have s2 : s_law_2 [some scr, some (.int c), some (own2 fs rs), some (.lst .own (ps.map D.int)), none, none, none, none, none, none, none, none] = .nx [some scr, some (.int c), some (own2 fs rs), some (.lst .own (ps.map D.int)), some (.int (fs.length : Nat)), none, none, none, none, none, none, none] := by
      unfold s_law_2
      simp -implicitDefEqProofs [-List.map_map, evFn_app, startE, evSeqS_app, evNx_app, evIfS_app, evXk_app, evXm_app, evXf_app, evAk_app, evAm_app, evAf_app, evSet_app, evEx_app, evRet_app, evV_app, evRetV_app, evC_app, evNil_app, evCons_app, evTup_app, evLst_app, evB_app, evBl_app, evAndT_app, evOrT_app, evNotT_app, evAndV_app, evOrV_app, evNotV_app, evIfE_app, ev1_app, ev2_app, evN_app, evF1_app, evCall_app, evSl_app, evSo_app, evNo_app, evYes_app, evSeq_app, evRng1_app, evRng2_app, evEnum_app, evPat_app, evRaise_app, evForR_app, evFor_app, evLc_app, evPar_app, evMut_app, evStore_app, evP0_app, evP1_app, evChGo_nil, evChGo_cons, evChT_app, evChV_app, atE_app, slotO_some, putE_app, putS_some, isOwn_own, at_nil, put_nil, at_one, at_0, at_1, put_0, put_1, shr_lst, shr_tup, shr_int, shr_bl, shr_str, shr_non, sh'_own, sh'_sh, sh'_scr, shrs_nil, shrs_cons, shrs_ints, shrs_bls, fz_int, fz_bl, fz_str, fz_non, fz_own, fz_scr, fz_sh, fz_tup, fzs_nil, fzs_cons, fzs_ints, fzs_bls, vAdd_ii, vSub_ii, vCmp_ii, vInt_bl, vLen_lst, vLen_tup, vList_lst, vTuple_lst, vRev_lst, vSl_lst, asInt_int, seqD_lst, seqD_tup, vSorted_ints, vAll_bls, vAny_bls, frz_nil, frz_cons, frz1_d, frz1_n, frz1_s, clr_nil, clr_cons, setD_nil, setD_cons, patD_nm, patD_tup, patD_lst, patDs_nil, patDs_cons, app2_some, okPat_nil, okPat_cons, ite_ok, sizeLine_big, fzs_repi, vIx_0, vIx_1, vIx_2, vIx_3, vIx_4, shrs_rep, shrs_rev, shrs_app, fzs_app, ifok_and, ifok_or, ifokP_and, ifokP_or, ifokD_and, ifokD_or, ifokDP_and, ifokDP_or]
    have s3 : s_law_3 [some scr, some (.int c), some (own2 fs rs), some (.lst .own (ps.map D.int)), some (.int (fs.length : Nat)), none, none, none, none, none, none, none] = .nx [some scr, some (.int c), some (own2 fs rs), some (.lst .own (ps.map D.int)), some (.int (fs.length : Nat)), some (.lst .own [.int q0, .int q1, .int q2, .int q3]), none, none, none, none, none, none] := by
      unfold s_law_3
      generalize f__law_some_four = g at *
      simp -implicitDefEqProofs [-List.map_map, evFn_app, startE, evSeqS_app, evNx_app, evIfS_app, evXk_app, evXm_app, evXf_app, evAk_app, evAm_app, evAf_app, evSet_app, evEx_app, evRet_app, evV_app, evRetV_app, evC_app, evNil_app, evCons_app, evTup_app, evLst_app, evB_app, evBl_app, evAndT_app, evOrT_app, evNotT_app, evAndV_app, evOrV_app, evNotV_app, evIfE_app, ev1_app, ev2_app, evN_app, evF1_app, evCall_app, evSl_app, evSo_app, evNo_app, evYes_app, evSeq_app, evRng1_app, evRng2_app, evEnum_app, evPat_app, evRaise_app, evForR_app, evFor_app, evLc_app, evPar_app, evMut_app, evStore_app, evP0_app, evP1_app, evChGo_nil, evChGo_cons, evChT_app, evChV_app, atE_app, slotO_some, putE_app, putS_some, isOwn_own, at_nil, put_nil, at_one, at_0, at_1, put_0, put_1, shr_lst, shr_tup, shr_int, shr_bl, shr_str, shr_non, sh'_own, sh'_sh, sh'_scr, shrs_nil, shrs_cons, shrs_ints, shrs_bls, fz_int, fz_bl, fz_str, fz_non, fz_own, fz_scr, fz_sh, fz_tup, fzs_nil, fzs_cons, fzs_ints, fzs_bls, vAdd_ii, vSub_ii, vCmp_ii, vInt_bl, vLen_lst, vLen_tup, vList_lst, vTuple_lst, vRev_lst, vSl_lst, asInt_int, seqD_lst, seqD_tup, vSorted_ints, vAll_bls, vAny_bls, frz_nil, frz_cons, frz1_d, frz1_n, frz1_s, clr_nil, clr_cons, setD_nil, setD_cons, patD_nm, patD_tup, patD_lst, patDs_nil, patDs_cons, app2_some, okPat_nil, okPat_cons, ite_ok, sizeLine_big, fzs_repi, vIx_0, vIx_1, vIx_2, vIx_3, vIx_4, shrs_rep, shrs_rev, shrs_app, fzs_app, ifok_and, ifok_or, ifokP_and, ifokP_or, ifokD_and, ifokD_or, ifokDP_and, ifokDP_or, hq]
    have m4 : vMod (.int (ps.getD 6 0)) (.int 4) = .ok (.int (ps.getD 6 0 % 4)) := vMod_ii (by decide)
    have ha : ps.getD 6 0 % 4 = 0 ∨ ps.getD 6 0 % 4 = 1 ∨ ps.getD 6 0 % 4 = 2 ∨ ps.getD 6 0 % 4 = 3 := by omega
    generalize ps.getD 6 0 = p6 at *
    generalize ps.getD 7 0 = p7 at *
    have x6 : vIx (.lst .sh (ps.map D.int)) (.int 6) = .ok (.int p6) := x6
    have x7 : vIx (.lst .sh (ps.map D.int)) (.int 7) = .ok (.int p7) := x7
    have s4 : s_law_4 [some scr, some (.int c), some (own2 fs rs), some (.lst .own (ps.map D.int)), some (.int (fs.length : Nat)), some (.lst .own [.int q0, .int q1, .int q2, .int q3]), none, none, none, none, none, none] = .nx [some scr, some (.int c), some (own2 fs rs), some (.lst .own (ps.map D.int)), some (.int (fs.length : Nat)), some (.lst .own [.int q0, .int q1, .int q2, .int q3]), some (.int (p6 % 4)), none, none, none, none, none] := by
      unfold s_law_4
      simp -implicitDefEqProofs [-List.map_map, evFn_app, startE, evSeqS_app, evNx_app, evIfS_app, evXk_app, evXm_app, evXf_app, evAk_app, evAm_app, evAf_app, evSet_app, evEx_app, evRet_app, evV_app, evRetV_app, evC_app, evNil_app, evCons_app, evTup_app, evLst_app, evB_app, evBl_app, evAndT_app, evOrT_app, evNotT_app, evAndV_app, evOrV_app, evNotV_app, evIfE_app, ev1_app, ev2_app, evN_app, evF1_app, evCall_app, evSl_app, evSo_app, evNo_app, evYes_app, evSeq_app, evRng1_app, evRng2_app, evEnum_app, evPat_app, evRaise_app, evForR_app, evFor_app, evLc_app, evPar_app, evMut_app, evStore_app, evP0_app, evP1_app, evChGo_nil, evChGo_cons, evChT_app, evChV_app, atE_app, slotO_some, putE_app, putS_some, isOwn_own, at_nil, put_nil, at_one, at_0, at_1, put_0, put_1, shr_lst, shr_tup, shr_int, shr_bl, shr_str, shr_non, sh'_own, sh'_sh, sh'_scr, shrs_nil, shrs_cons, shrs_ints, shrs_bls, fz_int, fz_bl, fz_str, fz_non, fz_own, fz_scr, fz_sh, fz_tup, fzs_nil, fzs_cons, fzs_ints, fzs_bls, vAdd_ii, vSub_ii, vCmp_ii, vInt_bl, vLen_lst, vLen_tup, vList_lst, vTuple_lst, vRev_lst, vSl_lst, asInt_int, seqD_lst, seqD_tup, vSorted_ints, vAll_bls, vAny_bls, frz_nil, frz_cons, frz1_d, frz1_n, frz1_s, clr_nil, clr_cons, setD_nil, setD_cons, patD_nm, patD_tup, patD_lst, patDs_nil, patDs_cons, app2_some, okPat_nil, okPat_cons, ite_ok, sizeLine_big, fzs_repi, vIx_0, vIx_1, vIx_2, vIx_3, vIx_4, shrs_rep, shrs_rev, shrs_app, fzs_app, ifok_and, ifok_or, ifokP_and, ifokP_or, ifokD_and, ifokD_or, ifokDP_and, ifokDP_or, x6, m4]
    have m1 : vMod (.int p7) (.int (fs.length : Nat)) = .ok (.int (p7 % (fs.length : Nat))) := vMod_ii (by omega)
    have m3 : vMod (.int p7) (.int 3) = .ok (.int (p7 % 3)) := vMod_ii (by decide)
    obtain ⟨w, hw⟩ : ∃ w : Int, vIx (.lst .sh [.int (-1), .int (fs.length : Nat), .int 1000000000000000000000000000000]) (.int (p7 % 3)) = .ok (.int w) := by
      have h3 : p7 % 3 = 0 ∨ p7 % 3 = 1 ∨ p7 % 3 = 2 := by omega
      rcases h3 with h | h | h <;> rw [h]
      · exact ⟨_, vIx_0 _ _ _⟩
      · exact ⟨_, vIx_1 _ _ _ _⟩
      · exact ⟨_, vIx_2 _ _ _ _ _⟩
    generalize p7 % (fs.length : Nat) = e1 at *
    generalize p7 % 3 = e3 at *
    unfold b_law_16
    rw [evSeqS_app, s0, seq_nx, evSeqS_app, s1, seq_nx, evSeqS_app, s2, seq_nx, evSeqS_app, s3, seq_nx, evSeqS_app, s4, seq_nx]
    rcases ha with h | h | h | h <;> rw [h]
    · obtain ⟨ds, qs, y3, y5, h1, h2, h3⟩ := some_0 (q0 := q0) (q1 := q1) (q2 := q2) (q3 := q3) x7 m1 m3 hw (x0 := some scr) (x1 := some (.int c)) (x2 := some (own2 fs rs))
      obtain ⟨y7, h4⟩ := all_ok hf hr h0 hl hlr h1 h2 (x0 := some scr) (x1 := some (.int c)) (x3 := y3) (x4 := some (.int (fs.length : Nat))) (x5 := y5) (x6 := some (.int 0)) (x11 := none)
      exact ⟨_, _, _, _, _, _, _, _, _, h3.trans h4⟩
    · obtain ⟨ds, qs, y3, y5, h1, h2, h3⟩ := some_1 (q0 := q0) (q1 := q1) (q2 := q2) (q3 := q3) x7 m1 m3 hw (x0 := some scr) (x1 := some (.int c)) (x2 := some (own2 fs rs))
      obtain ⟨y7, h4⟩ := all_ok hf hr h0 hl hlr h1 h2 (x0 := some scr) (x1 := some (.int c)) (x3 := y3) (x4 := some (.int (fs.length : Nat))) (x5 := y5) (x6 := some (.int 1)) (x11 := none)
      exact ⟨_, _, _, _, _, _, _, _, _, h3.trans h4⟩
    · obtain ⟨ds, qs, y3, y5, h1, h2, h3⟩ := some_2 (q0 := q0) (q1 := q1) (q2 := q2) (q3 := q3) x7 m1 m3 hw (x0 := some scr) (x1 := some (.int c)) (x2 := some (own2 fs rs))
      obtain ⟨y7, h4⟩ := all_ok hf hr h0 hl hlr h1 h2 (x0 := some scr) (x1 := some (.int c)) (x3 := y3) (x4 := some (.int (fs.length : Nat))) (x5 := y5) (x6 := some (.int 2)) (x11 := none)
      exact ⟨_, _, _, _, _, _, _, _, _, h3.trans h4⟩
    · obtain ⟨ds, qs, y3, y5, h1, h2, h3⟩ := some_3 (q0 := q0) (q1 := q1) (q2 := q2) (q3 := q3) x7 m1 m3 hw (x0 := some scr) (x1 := some (.int c)) (x2 := some (own2 fs rs))
      obtain ⟨y7, h4⟩ := all_ok hf hr h0 hl hlr h1 h2 (x0 := some scr) (x1 := some (.int c)) (x3 := y3) (x4 := some (.int (fs.length : Nat))) (x5 := y5) (x6 := some (.int 3)) (x11 := none)
      exact ⟨_, _, _, _, _, _, _, _, _, h3.trans h4⟩
theorem cell_at_ok (ns : List Int) (k : Nat) : ∃ z : Int, f__law_cell_at [.lst .scr (ns.map D.int), .int (k : Nat)] = .ok (.int z) := by
  by_cases h : k < ns.length
  · have hx : vIx (.lst .scr (ns.map D.int)) (.int (k : Nat)) = .ok (.int ns[k]) := vIx_get (by rw [List.getElem?_map, List.getElem?_eq_getElem h]; rfl)
    have g := fLt_t (i := (k : Nat)) (j := (ns.length : Nat)) (by omega)
    refine ⟨ns[k], ?_⟩
    unfold f__law_cell_at
    unfold s__law_cell_at_0
    simp -implicitDefEqProofs [-List.map_map, evFn_app, startE, evSeqS_app, evNx_app, evIfS_app, evXk_app, evXm_app, evXf_app, evAk_app, evAm_app, evAf_app, evSet_app, evEx_app, evRet_app, evV_app, evRetV_app, evC_app, evNil_app, evCons_app, evTup_app, evLst_app, evB_app, evBl_app, evAndT_app, evOrT_app, evNotT_app, evAndV_app, evOrV_app, evNotV_app, evIfE_app, ev1_app, ev2_app, evN_app, evF1_app, evCall_app, evSl_app, evSo_app, evNo_app, evYes_app, evSeq_app, evRng1_app, evRng2_app, evEnum_app, evPat_app, evRaise_app, evForR_app, evFor_app, evLc_app, evPar_app, evMut_app, evStore_app, evP0_app, evP1_app, evChGo_nil, evChGo_cons, evChT_app, evChV_app, atE_app, slotO_some, putE_app, putS_some, isOwn_own, at_nil, put_nil, at_one, at_0, at_1, put_0, put_1, shr_lst, shr_tup, shr_int, shr_bl, shr_str, shr_non, sh'_own, sh'_sh, sh'_scr, shrs_nil, shrs_cons, shrs_ints, shrs_bls, fz_int, fz_bl, fz_str, fz_non, fz_own, fz_scr, fz_sh, fz_tup, fzs_nil, fzs_cons, fzs_ints, fzs_bls, vAdd_ii, vSub_ii, vCmp_ii, vInt_bl, vLen_lst, vLen_tup, vList_lst, vTuple_lst, vRev_lst, vSl_lst, asInt_int, seqD_lst, seqD_tup, vSorted_ints, vAll_bls, vAny_bls, frz_nil, frz_cons, frz1_d, frz1_n, frz1_s, clr_nil, clr_cons, setD_nil, setD_cons, patD_nm, patD_tup, patD_lst, patDs_nil, patDs_cons, app2_some, okPat_nil, okPat_cons, ite_ok, sizeLine_big, fzs_repi, vIx_0, vIx_1, vIx_2, vIx_3, vIx_4, shrs_rep, shrs_rev, shrs_app, fzs_app, ifok_and, ifok_or, ifokP_and, ifokP_or, ifokD_and, ifokD_or, ifokDP_and, ifokDP_or, hx, g]
  · have g := fLt_f (i := (k : Nat)) (j := (ns.length : Nat)) (by omega)
    refine ⟨0, ?_⟩
    unfold f__law_cell_at
    unfold s__law_cell_at_0 s__law_cell_at_1
    simp -implicitDefEqProofs [-List.map_map, evFn_app, startE, evSeqS_app, evNx_app, evIfS_app, evXk_app, evXm_app, evXf_app, evAk_app, evAm_app, evAf_app, evSet_app, evEx_app, evRet_app, evV_app, evRetV_app, evC_app, evNil_app, evCons_app, evTup_app, evLst_app, evB_app, evBl_app, evAndT_app, evOrT_app, evNotT_app, evAndV_app, evOrV_app, evNotV_app, evIfE_app, ev1_app, ev2_app, evN_app, evF1_app, evCall_app, evSl_app, evSo_app, evNo_app, evYes_app, evSeq_app, evRng1_app, evRng2_app, evEnum_app, evPat_app, evRaise_app, evForR_app, evFor_app, evLc_app, evPar_app, evMut_app, evStore_app, evP0_app, evP1_app, evChGo_nil, evChGo_cons, evChT_app, evChV_app, atE_app, slotO_some, putE_app, putS_some, isOwn_own, at_nil, put_nil, at_one, at_0, at_1, put_0, put_1, shr_lst, shr_tup, shr_int, shr_bl, shr_str, shr_non, sh'_own, sh'_sh, sh'_scr, shrs_nil, shrs_cons, shrs_ints, shrs_bls, fz_int, fz_bl, fz_str, fz_non, fz_own, fz_scr, fz_sh, fz_tup, fzs_nil, fzs_cons, fzs_ints, fzs_bls, vAdd_ii, vSub_ii, vCmp_ii, vInt_bl, vLen_lst, vLen_tup, vList_lst, vTuple_lst, vRev_lst, vSl_lst, asInt_int, seqD_lst, seqD_tup, vSorted_ints, vAll_bls, vAny_bls, frz_nil, frz_cons, frz1_d, frz1_n, frz1_s, clr_nil, clr_cons, setD_nil, setD_cons, patD_nm, patD_tup, patD_lst, patDs_nil, patDs_cons, app2_some, okPat_nil, okPat_cons, ite_ok, sizeLine_big, fzs_repi, vIx_0, vIx_1, vIx_2, vIx_3, vIx_4, shrs_rep, shrs_rev, shrs_app, fzs_app, ifok_and, ifok_or, ifokP_and, ifokP_or, ifokD_and, ifokD_or, ifokDP_and, ifokDP_or, g]
theorem law_true (ns : List Int) (h : ns.length ≤ 63) : f_law [scrD ns] = .ok (.bl true) := by
  have hs : (scrD ns).shr = scrD ns := by rw [shr_lst, shrs_ints, sh'_scr]
  obtain ⟨z, hz⟩ := cell_at_ok ns 0
  have hz : f__law_cell_at [scrD ns, .int 0] = .ok (.int z) := hz
  have ha : vAdd (.lst .sh [.int z]) (.lst .sh ((cutL ns (some 1) (some 20)).map D.int)) = .ok (.lst .own ((z :: cutL ns (some 1) (some 20)).map D.int)) := by
    rw [vAdd_ll, if_pos]
    · rfl
    · rw [PySem.sizeLine_eq, List.length_map]
      unfold cutL
      rw [List.length_take, List.length_drop]
      simp
      omega
  have e1 : s_law_12 [some (scrD ns), none, none, none, none, none, none, none, none, none, none, none] = forGo (.nm 1) [1, 2, 3, 4, 5, 6, 7, 8, 9, 10] b_law_16 ((z :: cutL ns (some 1) (some 20)).map D.int) [some (scrD ns), none, none, none, none, none, none, none, none, none, none, none] := by
    unfold s_law_12
    generalize b_law_16 = bd at *
    generalize f__law_cell_at = g at *
    generalize hX : (z :: cutL ns (some 1) (some 20)) = X at *
    simp -implicitDefEqProofs [-List.map_map, evFn_app, startE, evSeqS_app, evNx_app, evIfS_app, evXk_app, evXm_app, evXf_app, evAk_app, evAm_app, evAf_app, evSet_app, evEx_app, evRet_app, evV_app, evRetV_app, evC_app, evNil_app, evCons_app, evTup_app, evLst_app, evB_app, evBl_app, evAndT_app, evOrT_app, evNotT_app, evAndV_app, evOrV_app, evNotV_app, evIfE_app, ev1_app, ev2_app, evN_app, evF1_app, evCall_app, evSl_app, evSo_app, evNo_app, evYes_app, evSeq_app, evRng1_app, evRng2_app, evEnum_app, evPat_app, evRaise_app, evForR_app, evFor_app, evLc_app, evPar_app, evMut_app, evStore_app, evP0_app, evP1_app, evChGo_nil, evChGo_cons, evChT_app, evChV_app, atE_app, slotO_some, putE_app, putS_some, isOwn_own, at_nil, put_nil, at_one, at_0, at_1, put_0, put_1, shr_lst, shr_tup, shr_int, shr_bl, shr_str, shr_non, sh'_own, sh'_sh, sh'_scr, shrs_nil, shrs_cons, shrs_ints, shrs_bls, fz_int, fz_bl, fz_str, fz_non, fz_own, fz_scr, fz_sh, fz_tup, fzs_nil, fzs_cons, fzs_ints, fzs_bls, vAdd_ii, vSub_ii, vCmp_ii, vInt_bl, vLen_lst, vLen_tup, vList_lst, vTuple_lst, vRev_lst, vSl_lst, asInt_int, seqD_lst, seqD_tup, vSorted_ints, vAll_bls, vAny_bls, frz_nil, frz_cons, frz1_d, frz1_n, frz1_s, clr_nil, clr_cons, setD_nil, setD_cons, patD_nm, patD_tup, patD_lst, patDs_nil, patDs_cons, app2_some, okPat_nil, okPat_cons, ite_ok, sizeLine_big, fzs_repi, vIx_0, vIx_1, vIx_2, vIx_3, vIx_4, shrs_rep, shrs_rev, shrs_app, fzs_app, ifok_and, ifok_or, ifokP_and, ifokP_or, ifokD_and, ifokD_or, ifokDP_and, ifokDP_or, hz, cutL_map, ha]
  obtain ⟨env', q1, rfl⟩ := forGo_n (p := .nm 1) (cl := [1, 2, 3, 4, 5, 6, 7, 8, 9, 10]) (body := b_law_16) (fun _ env => env = [some (scrD ns), none, none, none, none, none, none, none, none, none, none, none])
    (ds := (z :: cutL ns (some 1) (some 20)).map D.int) (env := [some (scrD ns), none, none, none, none, none, none, none, none, none, none, none]) rfl (by
      rintro i d env hd rfl
      rw [List.getElem?_map] at hd
      obtain ⟨c, _, rfl⟩ := Option.map_eq_some_iff.mp hd
      obtain ⟨x2, x3, x4, x5, x6, x7, x8, x9, x10, h⟩ := turn_ok (scrD ns) c hs
      exact ⟨[(1, .int c)], _, rfl, rfl, h, rfl⟩)
  have hst : f_law [scrD ns] = O.fn (evSeqS s_law_12 s_law_13 [some (scrD ns), none, none, none, none, none, none, none, none, none, none, none]) := by
    unfold f_law
    rw [evFn_app]
    rfl
  rw [hst, evSeqS_app, e1, q1, seq_nx]
  rfl
end K07


set_option Elab.async false
set_option linter.all false
set_option maxRecDepth 100000
set_option maxHeartbeats 4000000
namespace K07
open PySem PySem.Spec L2 VA
theorem all_mk {P : Program} {w : World} {K : PySem.W.Frag} {h : Heap} {mg : Str → Option Value} {fa f0 f1 f2 f3 f4 f5 f6 f7 f8 f9 f10 f11 C1 : Addr} (X : K.In h) (G : h.Ns mainGlobals mg) (hfa : mg "law" = some (.ref fa))
    {od0 an0 od1 an1 od2 an2 od3 an3 od4 an4 od5 an5 od6 an6 od7 an7 od8 an8 od9 an9 od10 an10 od11 an11 : Option Addr} {sl0 sl1 sl2 sl3 sl4 sl5 sl6 sl7 sl8 sl9 sl10 sl11 : Array (Option Value)} {oc0 kV0 dc0 pm0 cd0 ct0 oc1 kV1 dc1 pm1 cd1 ct1 oc2 kV2 dc2 pm2 cd2 ct2 oc3 kV3 dc3 pm3 cd3 ct3 oc4 kV4 dc4 pm4 cd4 ct4 oc5 kV5 dc5 pm5 cd5 ct5 oc6 kV6 dc6 pm6 cd6 ct6 oc7 kV7 dc7 pm7 cd7 ct7 oc8 kV8 dc8 pm8 cd8 ct8 oc9 kV9 dc9 pm9 cd9 ct9 oc10 kV10 dc10 pm10 cd10 ct10 oc11 kV11 dc11 pm11 cd11 ct11 : Value}
    (a0 : PySem.W.nsIn K mainGlobals "is_whole" = some (some (.ref f0))) (l0 : K.lookup f0 = some ⟨oc0, od0, .func (PySem.W.fnOf "is_whole" "is_whole" (defArgs s_is_whole) (defBody s_is_whole) (defScope s_is_whole) .none kV0 dc0 pm0 an0 cd0 ct0), sl0⟩) (c0 : PySem.W.codeIn K cd0 "is_whole" = true) (k0 : PySem.W.keepIn K (.ref f0) = true)
    (a1 : PySem.W.nsIn K mainGlobals "need_orders" = some (some (.ref f1))) (l1 : K.lookup f1 = some ⟨oc1, od1, .func (PySem.W.fnOf "need_orders" "need_orders" (defArgs s_need_orders) (defBody s_need_orders) (defScope s_need_orders) .none kV1 dc1 pm1 an1 cd1 ct1), sl1⟩) (c1 : PySem.W.codeIn K cd1 "need_orders" = true) (k1 : PySem.W.keepIn K (.ref f1) = true)
    (a2 : PySem.W.nsIn K mainGlobals "places_of" = some (some (.ref f2))) (l2 : K.lookup f2 = some ⟨oc2, od2, .func (PySem.W.fnOf "places_of" "places_of" (defArgs s_places_of) (defBody s_places_of) (defScope s_places_of) .none kV2 dc2 pm2 an2 cd2 ct2), sl2⟩) (c2 : PySem.W.codeIn K cd2 "places_of" = true) (k2 : PySem.W.keepIn K (.ref f2) = true)
    (a3 : PySem.W.nsIn K mainGlobals "is_four" = some (some (.ref f3))) (l3 : K.lookup f3 = some ⟨oc3, od3, .func (PySem.W.fnOf "is_four" "is_four" (defArgs s_is_four) (defBody s_is_four) (defScope s_is_four) .none kV3 dc3 pm3 an3 cd3 ct3), sl3⟩) (c3 : PySem.W.codeIn K cd3 "is_four" = true) (k3 : PySem.W.keepIn K (.ref f3) = true)
    (a4 : PySem.W.nsIn K mainGlobals "bars" = some (some (.ref f4))) (l4 : K.lookup f4 = some ⟨oc4, od4, .func (PySem.W.fnOf "bars" "bars" (defArgs s_bars) (defBody s_bars) (defScope s_bars) .none kV4 dc4 pm4 an4 cd4 ct4), sl4⟩) (c4 : PySem.W.codeIn K cd4 "bars" = true) (k4 : PySem.W.keepIn K (.ref f4) = true)
    (a5 : PySem.W.nsIn K mainGlobals "_law_cell_at" = some (some (.ref f5))) (l5 : K.lookup f5 = some ⟨oc5, od5, .func (PySem.W.fnOf "_law_cell_at" "_law_cell_at" (defArgs s__law_cell_at) (defBody s__law_cell_at) (defScope s__law_cell_at) .none kV5 dc5 pm5 an5 cd5 ct5), sl5⟩) (c5 : PySem.W.codeIn K cd5 "_law_cell_at" = true) (k5 : PySem.W.keepIn K (.ref f5) = true)
    (a6 : PySem.W.nsIn K mainGlobals "_law_draws" = some (some (.ref f6))) (l6 : K.lookup f6 = some ⟨oc6, od6, .func (PySem.W.fnOf "_law_draws" "_law_draws" (defArgs s__law_draws) (defBody s__law_draws) (defScope s__law_draws) .none kV6 dc6 pm6 an6 cd6 ct6), sl6⟩) (c6 : PySem.W.codeIn K cd6 "_law_draws" = true) (k6 : PySem.W.keepIn K (.ref f6) = true)
    (a7 : PySem.W.nsIn K mainGlobals "_law_places" = some (some (.ref f7))) (l7 : K.lookup f7 = some ⟨oc7, od7, .func (PySem.W.fnOf "_law_places" "_law_places" (defArgs s__law_places) (defBody s__law_places) (defScope s__law_places) .none kV7 dc7 pm7 an7 cd7 ct7), sl7⟩) (c7 : PySem.W.codeIn K cd7 "_law_places" = true) (k7 : PySem.W.keepIn K (.ref f7) = true)
    (a8 : PySem.W.nsIn K mainGlobals "_law_a_orders" = some (some (.ref f8))) (l8 : K.lookup f8 = some ⟨oc8, od8, .func (PySem.W.fnOf "_law_a_orders" "_law_a_orders" (defArgs s__law_a_orders) (defBody s__law_a_orders) (defScope s__law_a_orders) .none kV8 dc8 pm8 an8 cd8 ct8), sl8⟩) (c8 : PySem.W.codeIn K cd8 "_law_a_orders" = true) (k8 : PySem.W.keepIn K (.ref f8) = true)
    (a9 : PySem.W.nsIn K mainGlobals "_law_is_four" = some (some (.ref f9))) (l9 : K.lookup f9 = some ⟨oc9, od9, .func (PySem.W.fnOf "_law_is_four" "_law_is_four" (defArgs s__law_is_four) (defBody s__law_is_four) (defScope s__law_is_four) .none kV9 dc9 pm9 an9 cd9 ct9), sl9⟩) (c9 : PySem.W.codeIn K cd9 "_law_is_four" = true) (k9 : PySem.W.keepIn K (.ref f9) = true)
    (a10 : PySem.W.nsIn K mainGlobals "_law_some_four" = some (some (.ref f10))) (l10 : K.lookup f10 = some ⟨oc10, od10, .func (PySem.W.fnOf "_law_some_four" "_law_some_four" (defArgs s__law_some_four) (defBody s__law_some_four) (defScope s__law_some_four) .none kV10 dc10 pm10 an10 cd10 ct10), sl10⟩) (c10 : PySem.W.codeIn K cd10 "_law_some_four" = true) (k10 : PySem.W.keepIn K (.ref f10) = true)
    (a11 : PySem.W.nsIn K mainGlobals "law" = some (some (.ref f11))) (l11 : K.lookup f11 = some ⟨oc11, od11, .func (PySem.W.fnOf "law" "law" (defArgs s_law) (defBody s_law) (defScope s_law) .none kV11 dc11 pm11 an11 cd11 ct11), sl11⟩) (c11 : PySem.W.codeIn K cd11 "law" = true) (k11 : PySem.W.keepIn K (.ref f11) = true)
    (ea1 : PySem.W.nsIn K mainGlobals "NoOrders" = some (some (.ref C1))) (eq1 : PySem.W.excIn K C1 [.type "ValueError", .type "Exception", .type "BaseException", .type "object"] "ValueError.__new__" = true) (ek1 : PySem.W.keepIn K (.ref C1) = true) (es1 : PySem.W.subIn K (.ref C1) (.type "BaseException") = some true) (et1 : PySem.W.typeIn K (.ref C1) = some (.type "type"))
    (z_all : PySem.W.nsIn K mainGlobals "all" = some none)
    (z_bool : PySem.W.nsIn K mainGlobals "bool" = some none)
    (z_enumerate : PySem.W.nsIn K mainGlobals "enumerate" = some none)
    (z_int : PySem.W.nsIn K mainGlobals "int" = some none)
    (z_isinstance : PySem.W.nsIn K mainGlobals "isinstance" = some none)
    (z_len : PySem.W.nsIn K mainGlobals "len" = some none)
    (z_list : PySem.W.nsIn K mainGlobals "list" = some none)
    (z_range : PySem.W.nsIn K mainGlobals "range" = some none)
    (z_set : PySem.W.nsIn K mainGlobals "set" = some none)
    (z_sorted : PySem.W.nsIn K mainGlobals "sorted" = some none)
    (z_tuple : PySem.W.nsIn K mainGlobals "tuple" = some none)
    {t0 : Tok} (c_MOST_ROOMS : PySem.W.nsIn K mainGlobals "MOST_ROOMS" = some (some (.int 20 t0)))
    : ∃ fd : FuncData, (∀ (s : Shared) (v : Value), BindsTo s fd ⟨[v], []⟩ [("script", v)]) ∧ ∀ base : Heap, K.In base → base.Ns mainGlobals mg → FnOk P w K mg base (L2.CX P w) 4 fa fd ["script"] (spL K) := by
  have e : f11 = fa := by
    have e := hfa.symm.trans (PySem.W.mg_of X G a11)
    cases e
    rfl
  subst e
  let I : Inf := { fa := fun n => [f0, f1, f2, f3, f4, f5, f6, f7, f8, f9, f10, f11].getD n 0, ca := fun n => [0, C1].getD n 0, nm := fun _ => "", cn := fun _ => "", ps := fun _ => [], fd := fun n => [(PySem.W.fnOf "is_whole" "is_whole" (defArgs s_is_whole) (defBody s_is_whole) (defScope s_is_whole) .none kV0 dc0 pm0 an0 cd0 ct0), (PySem.W.fnOf "need_orders" "need_orders" (defArgs s_need_orders) (defBody s_need_orders) (defScope s_need_orders) .none kV1 dc1 pm1 an1 cd1 ct1), (PySem.W.fnOf "places_of" "places_of" (defArgs s_places_of) (defBody s_places_of) (defScope s_places_of) .none kV2 dc2 pm2 an2 cd2 ct2), (PySem.W.fnOf "is_four" "is_four" (defArgs s_is_four) (defBody s_is_four) (defScope s_is_four) .none kV3 dc3 pm3 an3 cd3 ct3), (PySem.W.fnOf "bars" "bars" (defArgs s_bars) (defBody s_bars) (defScope s_bars) .none kV4 dc4 pm4 an4 cd4 ct4), (PySem.W.fnOf "_law_cell_at" "_law_cell_at" (defArgs s__law_cell_at) (defBody s__law_cell_at) (defScope s__law_cell_at) .none kV5 dc5 pm5 an5 cd5 ct5), (PySem.W.fnOf "_law_draws" "_law_draws" (defArgs s__law_draws) (defBody s__law_draws) (defScope s__law_draws) .none kV6 dc6 pm6 an6 cd6 ct6), (PySem.W.fnOf "_law_places" "_law_places" (defArgs s__law_places) (defBody s__law_places) (defScope s__law_places) .none kV7 dc7 pm7 an7 cd7 ct7), (PySem.W.fnOf "_law_a_orders" "_law_a_orders" (defArgs s__law_a_orders) (defBody s__law_a_orders) (defScope s__law_a_orders) .none kV8 dc8 pm8 an8 cd8 ct8), (PySem.W.fnOf "_law_is_four" "_law_is_four" (defArgs s__law_is_four) (defBody s__law_is_four) (defScope s__law_is_four) .none kV9 dc9 pm9 an9 cd9 ct9), (PySem.W.fnOf "_law_some_four" "_law_some_four" (defArgs s__law_some_four) (defBody s__law_some_four) (defScope s__law_some_four) .none kV10 dc10 pm10 an10 cd10 ct10), (PySem.W.fnOf "law" "law" (defArgs s_law) (defBody s_law) (defScope s_law) .none kV11 dc11 pm11 an11 cd11 ct11)].getD n (PySem.W.fnOf "law" "law" (defArgs s_law) (defBody s_law) (defScope s_law) .none kV11 dc11 pm11 an11 cd11 ct11) }
  have T : Txt K mg I := {
    F_is_whole := fun_mk (st := s_is_whole) l0 c0 k0,
    b_is_whole := (fun_mk (st := s_is_whole) l0 c0 k0).binds (ps := ["thing"]) fun _ _ _ _ _ _ us hl => match us, hl with | [_], _ => rfl,
    m_is_whole := PySem.W.mg_of X G a0,
    k_is_whole := k0,
    F_need_orders := fun_mk (st := s_need_orders) l1 c1 k1,
    b_need_orders := (fun_mk (st := s_need_orders) l1 c1 k1).binds (ps := ["falling", "rising"]) fun _ _ _ _ _ _ us hl => match us, hl with | [_, _], _ => rfl,
    m_need_orders := PySem.W.mg_of X G a1,
    k_need_orders := k1,
    F_places_of := fun_mk (st := s_places_of) l2 c2 k2,
    b_places_of := (fun_mk (st := s_places_of) l2 c2 k2).binds (ps := ["order"]) fun _ _ _ _ _ _ us hl => match us, hl with | [_], _ => rfl,
    m_places_of := PySem.W.mg_of X G a2,
    k_places_of := k2,
    F_is_four := fun_mk (st := s_is_four) l3 c3 k3,
    b_is_four := (fun_mk (st := s_is_four) l3 c3 k3).binds (ps := ["falling", "rising", "four"]) fun _ _ _ _ _ _ us hl => match us, hl with | [_, _, _], _ => rfl,
    m_is_four := PySem.W.mg_of X G a3,
    k_is_four := k3,
    F_bars := fun_mk (st := s_bars) l4 c4 k4,
    b_bars := (fun_mk (st := s_bars) l4 c4 k4).binds (ps := ["falling", "rising", "four"]) fun _ _ _ _ _ _ us hl => match us, hl with | [_, _, _], _ => rfl,
    m_bars := PySem.W.mg_of X G a4,
    k_bars := k4,
    F__law_cell_at := fun_mk (st := s__law_cell_at) l5 c5 k5,
    b__law_cell_at := (fun_mk (st := s__law_cell_at) l5 c5 k5).binds (ps := ["script", "k"]) fun _ _ _ _ _ _ us hl => match us, hl with | [_, _], _ => rfl,
    m__law_cell_at := PySem.W.mg_of X G a5,
    k__law_cell_at := k5,
    F__law_draws := fun_mk (st := s__law_draws) l6 c6 k6,
    b__law_draws := (fun_mk (st := s__law_draws) l6 c6 k6).binds (ps := ["cell", "many", "base"]) fun _ _ _ _ _ _ us hl => match us, hl with | [_, _, _], _ => rfl,
    m__law_draws := PySem.W.mg_of X G a6,
    k__law_draws := k6,
    F__law_places := fun_mk (st := s__law_places) l7 c7 k7,
    b__law_places := (fun_mk (st := s__law_places) l7 c7 k7).binds (ps := ["order"]) fun _ _ _ _ _ _ us hl => match us, hl with | [_], _ => rfl,
    m__law_places := PySem.W.mg_of X G a7,
    k__law_places := k7,
    F__law_a_orders := fun_mk (st := s__law_a_orders) l8 c8 k8,
    b__law_a_orders := (fun_mk (st := s__law_a_orders) l8 c8 k8).binds (ps := ["cell"]) fun _ _ _ _ _ _ us hl => match us, hl with | [_], _ => rfl,
    m__law_a_orders := PySem.W.mg_of X G a8,
    k__law_a_orders := k8,
    F__law_is_four := fun_mk (st := s__law_is_four) l9 c9 k9,
    b__law_is_four := (fun_mk (st := s__law_is_four) l9 c9 k9).binds (ps := ["both", "four"]) fun _ _ _ _ _ _ us hl => match us, hl with | [_, _], _ => rfl,
    m__law_is_four := PySem.W.mg_of X G a9,
    k__law_is_four := k9,
    F__law_some_four := fun_mk (st := s__law_some_four) l10 c10 k10,
    b__law_some_four := (fun_mk (st := s__law_some_four) l10 c10 k10).binds (ps := ["both", "picks"]) fun _ _ _ _ _ _ us hl => match us, hl with | [_, _], _ => rfl,
    m__law_some_four := PySem.W.mg_of X G a10,
    k__law_some_four := k10,
    F_law := fun_mk (st := s_law) l11 c11 k11,
    b_law := (fun_mk (st := s_law) l11 c11 k11).binds (ps := ["script"]) fun _ _ _ _ _ _ us hl => match us, hl with | [_], _ => rfl,
    m_law := PySem.W.mg_of X G a11,
    k_law := k11,
    e_NoOrders := exc_mk X G ea1 eq1 ek1 es1 et1,
    z_all := PySem.W.mg_none_of X G z_all,
    z_bool := PySem.W.mg_none_of X G z_bool,
    z_enumerate := PySem.W.mg_none_of X G z_enumerate,
    z_int := PySem.W.mg_none_of X G z_int,
    z_isinstance := PySem.W.mg_none_of X G z_isinstance,
    z_len := PySem.W.mg_none_of X G z_len,
    z_list := PySem.W.mg_none_of X G z_list,
    z_range := PySem.W.mg_none_of X G z_range,
    z_set := PySem.W.mg_none_of X G z_set,
    z_sorted := PySem.W.mg_none_of X G z_sorted,
    z_tuple := PySem.W.mg_none_of X G z_tuple,
    c_MOST_ROOMS := ⟨_, PySem.W.mg_of X G c_MOST_ROOMS⟩ }
  exact ⟨(PySem.W.fnOf "law" "law" (defArgs s_law) (defBody s_law) (defScope s_law) .none kV11 dc11 pm11 an11 cd11 ct11), fun s v => .of_eq rfl, fun base _ _ => law_fin (ok_law T) law_true⟩
end K07
open PySem PySem.W PyProof.Rows
set_option maxRecDepth 100000 in
set_option maxHeartbeats 0 in
theorem PySem.Challenge.cw_wallpeel_k07_fours_judged_holds : PySem.Challenge.rw_wallpeel_k07_fours_judged.Holds := by
  w_on; o_law; k_head; (case hw => w_witness2)
  k_fill
  refine VA.walkL (l := PySem.Challenge.rw_wallpeel_k07_fours_judged) (k := 4) rfl rfl ⟨rfl, by decide, by decide⟩ (fun w h Y => PySem.W.kIn_of Y) ?F
  case F =>
    intro w mg fa h KX G hmg
    refine' K07.all_mk KX G hmg ?a0 ?l0 ?c0 ?k0 ?a1 ?l1 ?c1 ?k1 ?a2 ?l2 ?c2 ?k2 ?a3 ?l3 ?c3 ?k3 ?a4 ?l4 ?c4 ?k4 ?a5 ?l5 ?c5 ?k5 ?a6 ?l6 ?c6 ?k6 ?a7 ?l7 ?c7 ?k7 ?a8 ?l8 ?c8 ?k8 ?a9 ?l9 ?c9 ?k9 ?a10 ?l10 ?c10 ?k10 ?a11 ?l11 ?c11 ?k11 ?ea1 ?eq1 ?ek1 ?es1 ?et1 ?z_all ?z_bool ?z_enumerate ?z_int ?z_isinstance ?z_len ?z_list ?z_range ?z_set ?z_sorted ?z_tuple ?c_MOST_ROOMS
    (case a0 => k_is)
    (case l0 => k_is)
    (case c0 => k_is)
    (case k0 => k_is)
    (case a1 => k_is)
    (case l1 => k_is)
    (case c1 => k_is)
    (case k1 => k_is)
    (case a2 => k_is)
    (case l2 => k_is)
    (case c2 => k_is)
    (case k2 => k_is)
    (case a3 => k_is)
    (case l3 => k_is)
    (case c3 => k_is)
    (case k3 => k_is)
    (case a4 => k_is)
    (case l4 => k_is)
    (case c4 => k_is)
    (case k4 => k_is)
    (case a5 => k_is)
    (case l5 => k_is)
    (case c5 => k_is)
    (case k5 => k_is)
    (case a6 => k_is)
    (case l6 => k_is)
    (case c6 => k_is)
    (case k6 => k_is)
    (case a7 => k_is)
    (case l7 => k_is)
    (case c7 => k_is)
    (case k7 => k_is)
    (case a8 => k_is)
    (case l8 => k_is)
    (case c8 => k_is)
    (case k8 => k_is)
    (case a9 => k_is)
    (case l9 => k_is)
    (case c9 => k_is)
    (case k9 => k_is)
    (case a10 => k_is)
    (case l10 => k_is)
    (case c10 => k_is)
    (case k10 => k_is)
    (case a11 => k_is)
    (case l11 => k_is)
    (case c11 => k_is)
    (case k11 => k_is)
    (case ea1 => k_is)
    (case eq1 => k_exc)
    (case ek1 => k_is)
    (case es1 => k_is)
    (case et1 => k_is)
    (case z_all => k_is)
    (case z_bool => k_is)
    (case z_enumerate => k_is)
    (case z_int => k_is)
    (case z_isinstance => k_is)
    (case z_len => k_is)
    (case z_list => k_is)
    (case z_range => k_is)
    (case z_set => k_is)
    (case z_sorted => k_is)
    (case z_tuple => k_is)
    (case c_MOST_ROOMS => k_is)
#print axioms PySem.Challenge.cw_wallpeel_k07_fours_judged_holds

