import PyProof.Rows.All
import Wide.All
import OpenK.AllK
import Wide.FinOn
import KE.KDictKeyed
import HandS.ForMost
import HandS.ForExc
import HandS.Flow
import HandS.CallSlots
import HandS.HeadHook2
import HandS.IsInst
import HandS.Star
import HandS.TupAny
import HandS.Deep
import HandS.WideBits
import HandS.HeadHook4
import HandS.ExcIs
import HandS.Flt
import HandS.TupMul
import HandS.SetBool
import HandS.More
import HandS.HeadHook3
import HandS.HeadEnd
import HandS.EndBits
import KE.GoesEnumKw
import PyProof.ListNew
import PyProof.Rows.ZipGen
import HandS.Zip
import HandS.TryOnly
import HandS.ListEq
import HandS.ExcValue
import HandS.ExcInit
import HandS.ExcField
import KE.KExcSuper
import HandS.Defaults
import HandS.MakeKw
import PyProof.ReprRoads
import HandS.Head0
import HandS.Head1
import HandS.Head2
import HandS.HeadHook1
import HandS.SetFor
import HandS.Style
import KE.KStateDown
import PySem.Challenge.RW_keptops_k57_wrong_machines
set_option Elab.async false
set_option linter.all false
set_option maxRecDepth 100000
set_option maxHeartbeats 4000000
namespace ML
open PySem PySem.Spec PyProof.Rows L2

/-! ### values with tuples, lists, dicts by their content; loc: an object of the store -/
inductive W where
  | non | bl (b : Bool) | int (i : Int) | str (x : Str)
  | tup (ws : List W) | lst (ws : List W) | dct (ks vs : List W)
  | exc (c : Str) (fs : List Str) (vs : List W)
  | loc (n : Nat) | cls (x : Str) | ty (n : String)
  | brw (i : Nat) | scr (ns : List Int)
  deriving Inhabited
/-- what may be changed -/
inductive O where
  | lst (ws : List W)
  | dct (ks vs : List W)
  | ins (c : Str) (fs : List (Str × W))
  deriving Inhabited
abbrev Store := List O
/-- a slot: a value, or an object that this slot alone holds -/
inductive Sl where
  | val (w : W)
  | own (o : O)
  deriving Inhabited
abbrev SW := List (Option Sl)
inductive Res (A : Type) where
  | ok (a : A) (S : Store)
  | exc (c : Str) (fs : List Str) (vs : List W) (S : Store)
  | bad
/-- what a def hands back: a value, or a new object that nobody else holds -/
inductive RV where
  | val (w : W)
  | fr (o : O)
  deriving Inhabited
inductive Fl where
  | nx (s : SW) | rt (r : RV) | bk (s : SW) | ct (s : SW)
inductive RS where
  | ok (f : Fl) (S : Store)
  | exc (c : Str) (fs : List Str) (vs : List W) (s : SW) (S : Store)
  | bad
abbrev EM := SW → Store → Res W
abbrev TM := SW → Store → Res Bool
abbrev FM := SW → Store → Res O
abbrev AM := SW → Store → Res (List W)
abbrev SM := SW → Store → RS
def Res.bind {A B : Type} (r : Res A) (f : A → Store → Res B) : Res B := match r with
  | .ok a S => f a S
  | .exc c fs vs S => .exc c fs vs S
  | .bad => .bad

/-! ### keys -/
mutual
def keyOf : W → Option NestedKey
  | .non => some .none
  | .bl b => some (.num (if b then 1 else 0))
  | .int i => some (.num i)
  | .str x => some (.text x)
  | .tup ws => (keysOf ws).map .tup
  | _ => none
def keysOf : List W → Option (List NestedKey)
  | [] => some []
  | w :: ws => (keyOf w).bind fun k => (keysOf ws).map fun ks => k :: ks
end

/-! ### how a heap bears a value. F: the addresses of what may be changed -/
abbrev FS := Addr → Prop
structure Kw where
  K : PySem.W.Frag
  w : World
def KTup (K : PySem.W.Frag) (a : Addr) (xs : List V) : Prop := ∃ (o : Obj) (its : Array Value) (n : Nat), K.lookup a = some o ∧ o.cls = .type "tuple" ∧ o.data = .seq its n ∧ its.size ≤ sizeLine ∧ Vals xs its.toList
def TupAt (K : PySem.W.Frag) (F : FS) (H : Hp) (a : Addr) (vs : List V) : Prop := (H a = some (.tup vs) ∧ ¬ F a) ∨ KTup K a vs
def KLst (K : PySem.W.Frag) (a : Addr) (xs : List V) : Prop := ∃ (o : Obj) (its : Array Value) (n : Nat), K.lookup a = some o ∧ o.cls = .type "list" ∧ o.dict = none ∧ o.data = .seq its n ∧ its.size ≤ sizeLine ∧ Vals xs its.toList
def ScrAt (K : PySem.W.Frag) (F : FS) (H : Hp) (a : Addr) (xs : List V) : Prop := (Rd H a (.lst xs) ∧ ¬ F a) ∨ KLst K a xs
theorem ScrAt.sq {K : PySem.W.Frag} {F : FS} {H : Hp} {a : Addr} {xs : List V} (h : ScrAt K F H a xs) : SqL K H a xs := by
  rcases h with ⟨h, _⟩ | h
  · exact .inl h
  · exact .inr h
def LstAt (F : FS) (H : Hp) (a : Addr) (vs : List V) : Prop := H a = some (.lst vs) ∧ ¬ F a
/-- a dict: keys, hashes, values in order -/
def DO (a : Addr) (es : List (V × Int × V)) : HO := .ext fun h => (a == sysModules) = false ∧ es.length ≤ sizeLine ∧ ∃ (o : Obj) (ea : Array DictEntry) (ep : Nat), h.get? a = some o ∧ o.ExactDict ∧ o.data = .dict ea ep ∧
  Paired (fun (p : V × Int × V) (e : DictEntry) => RelV p.1 e.key ∧ e.hash = p.2.1 ∧ RelV p.2.2 e.val) es ea.toList
/-- a caught exception -/
def XO (cls : Value) (d : Option Addr) (a : Addr) : HO := .ext fun h => ∃ (oe : Obj) (vs : Array Value), h.get? a = some oe ∧ Zc cls d oe ∧ oe.data = .fields vs
def ExD (F : FS) (H : Hp) (d : Option Addr) (fs : List Str) (vs : List V) : Prop := fs.length = vs.length ∧ ((d = none ∧ fs = []) ∨ ∃ x, d = some x ∧ ¬ F x ∧ H x = some (.xd (fs.zip vs)))
def Hashes (k : Kw) (ks : List W) (es : List (V × Int × V)) : Prop := ∃ ns, keysOf ks = some ns ∧ ns.Nodup ∧ es.map (·.2.1) = ns.map fun n => n.hash k.w

mutual
def RepV (k : Kw) (F : FS) (H : Hp) (rho : List Addr) : W → V → Prop
  | .non, v => v = .non
  | .bl b, v => v = .bl b
  | .int i, v => v = .int i
  | .str x, v => v = .str x
  | .tup ws, v => ∃ a vs, v = .ref a ∧ TupAt k.K F H a vs ∧ RepL k F H rho ws vs
  | .lst ws, v => ∃ a vs, v = .ref a ∧ LstAt F H a vs ∧ RepL k F H rho ws vs
  | .dct ks ws, v => ∃ a es, v = .ref a ∧ ¬ F a ∧ H a = some (DO a es) ∧ RepL k F H rho ks (es.map (·.1)) ∧ RepL k F H rho ws (es.map (·.2.2)) ∧ Hashes k ks es
  | .exc c fs ws, v => ∃ a d vs, v = .ref a ∧ ¬ F a ∧ H a = some (XO (.ref (He.ga k.K c)) d a) ∧ ExD F H d fs vs ∧ RepL k F H rho ws vs
  | .loc n, v => ∃ a, rho[n]? = some a ∧ v = .ref a
  | .cls x, v => v = .ref (He.ga k.K x)
  | .ty n, v => v = .ty n
  | .brw _, _ => False
  | .scr ns, v => ∃ a, v = .ref a ∧ ScrAt k.K F H a (ns.map V.int)
def RepL (k : Kw) (F : FS) (H : Hp) (rho : List Addr) : List W → List V → Prop
  | [], vs => vs = []
  | w :: ws, vs => ∃ v vs', vs = v :: vs' ∧ RepV k F H rho w v ∧ RepL k F H rho ws vs'
end
def RepF (k : Kw) (F : FS) (H : Hp) (rho : List Addr) (fs : List (Str × W)) (fv : List (Str × V)) : Prop := fs.map (·.1) = fv.map (·.1) ∧ RepL k F H rho (fs.map (·.2)) (fv.map (·.2))
def ObjR (k : Kw) (F : FS) (H : Hp) (rho : List Addr) (a : Addr) : O → Prop
  | .lst ws => ∃ vs, H a = some (.lst vs) ∧ RepL k F H rho ws vs
  | .dct ks ws => ∃ es, H a = some (DO a es) ∧ RepL k F H rho ks (es.map (·.1)) ∧ RepL k F H rho ws (es.map (·.2.2)) ∧ Hashes k ks es
  | .ins c fs => ∃ dx fv, H a = some (.ins (He.ga k.K c) dx fv) ∧ RepF k F H rho fs fv
structure Ext (F : FS) (H : Hp) (rho : List Addr) (F' : FS) (H' : Hp) (rho' : List Addr) : Prop where
  sub : ∀ a, F a → F' a
  new : ∀ a, F' a → ¬ F a → H a = none
  pre : ∃ more, rho' = rho ++ more ∧ ∀ a ∈ more, H a = none
  kp : ∀ a o, H a = some o → a ∉ rho → H' a = some o
  dom : ∀ a, H a ≠ none → H' a ≠ none
structure Sto (k : Kw) (F : FS) (H : Hp) (rho : List Addr) (S : Store) : Prop where
  len : rho.length = S.length
  nd : rho.Nodup
  inF : ∀ a ∈ rho, F a
  trk : ∀ a, F a → H a ≠ none
  obj : ∀ (n : Nat) (o : O) (a : Addr), S[n]? = some o → rho[n]? = some a → ObjR k F H rho a o
structure StR (k : Kw) (F0 F : FS) (H : Hp) (rho : List Addr) (s : L2.St) (sw : SW) : Prop where
  len : s.length = sw.length
  val : ∀ (i : Nat) (w : W), sw[i]? = some (some (.val w)) → ∃ v, s[i]? = some (some v) ∧ RepV k F H rho w v
  own : ∀ (i : Nat) (o : O), sw[i]? = some (some (.own o)) → ∃ a, s[i]? = some (some (.ref a)) ∧ F a ∧ ¬ F0 a ∧ a ∉ rho ∧ ObjR k F H rho a o
  dis : ∀ (i j : Nat) (o o' : O) (a : Addr), sw[i]? = some (some (.own o)) → sw[j]? = some (some (.own o')) → s[i]? = some (some (.ref a)) → s[j]? = some (some (.ref a)) → i = j

theorem Ext.refl (F : FS) (H : Hp) (rho : List Addr) : Ext F H rho F H rho := ⟨fun _ h => h, fun _ h n => absurd h n, ⟨[], by simp, by simp⟩, fun _ _ h _ => h, fun _ h => h⟩
theorem Ext.trans {F F1 F2 : FS} {H H1 H2 : Hp} {r r1 r2 : List Addr} (a : Ext F H r F1 H1 r1) (b : Ext F1 H1 r1 F2 H2 r2) : Ext F H r F2 H2 r2 := by
  have back : ∀ x, H1 x = none → H x = none := fun x h => by
    cases e : H x with
    | none => rfl
    | some o => exact absurd h (a.dom x (by rw [e]; simp))
  obtain ⟨m1, rfl, h1⟩ := a.pre
  obtain ⟨m2, rfl, h2⟩ := b.pre
  refine ⟨fun x h => b.sub x (a.sub x h), fun x h n => ?_, ⟨m1 ++ m2, by simp, fun x hx => ?_⟩, fun x o h n => ?_, fun x h => b.dom x (a.dom x h)⟩
  · by_cases h' : F1 x
    · exact a.new x h' n
    · exact back x (b.new x h h')
  · rcases List.mem_append.mp hx with q | q
    · exact h1 x q
    · exact back x (h2 x q)
  · refine b.kp x o (a.kp x o h n) fun q => ?_
    rcases List.mem_append.mp q with q | q
    · exact n q
    · rw [h1 x q] at h
      cases h

theorem RepL.length {k : Kw} {F : FS} {H : Hp} {r : List Addr} : ∀ {ws : List W} {vs : List V}, RepL k F H r ws vs → ws.length = vs.length
  | [], _, h => by
    unfold RepL at h
    rw [h]
    rfl
  | w :: ws, _, h => by
    unfold RepL at h
    obtain ⟨v, vs', rfl, _, h⟩ := h
    rw [List.length_cons, List.length_cons, RepL.length h]

/-- what a move of the heap must keep, so that values stay -/
structure Mv (F : FS) (H : Hp) (rho : List Addr) (F' : FS) (H' : Hp) (rho' : List Addr) : Prop where
  kp : ∀ a o, H a = some o → ¬ F a → H' a = some o
  nf : ∀ a, H a ≠ none → ¬ F a → ¬ F' a
  pre : ∃ more, rho' = rho ++ more
theorem Mv.refl (F : FS) (H : Hp) (rho : List Addr) : Mv F H rho F H rho := ⟨fun _ _ h _ => h, fun _ _ n => n, ⟨[], by simp⟩⟩
theorem pre_get {rho rho' : List Addr} (h : ∃ more, rho' = rho ++ more) {n : Nat} {a : Addr} (e : rho[n]? = some a) : rho'[n]? = some a := by
  obtain ⟨more, rfl⟩ := h
  rw [List.getElem?_append_left (List.getElem?_eq_some_iff.mp e).1]
  exact e
theorem Rd.tracked {H : Hp} {a : Addr} {u : HO} (h : Rd H a u) : H a ≠ none := by
  rcases h with h | ⟨o, h⟩ <;> rw [h] <;> simp
theorem Rd.mv {F F' : FS} {H H' : Hp} {r r' : List Addr} (m : Mv F H r F' H' r') {a : Addr} {u : HO} (h : Rd H a u) (n : ¬ F a) : Rd H' a u := by
  rcases h with h | ⟨o, h⟩
  · exact .inl (m.kp a _ h n)
  · exact .inr ⟨o, m.kp a _ h n⟩
section
variable {k : Kw} {F F' : FS} {H H' : Hp} {r r' : List Addr}
theorem TupAt.mv (m : Mv F H r F' H' r') {a : Addr} {vs : List V} (h : TupAt k.K F H a vs) : TupAt k.K F' H' a vs := by
  rcases h with ⟨h, n⟩ | h
  · exact .inl ⟨m.kp a _ h n, m.nf a (by rw [h]; simp) n⟩
  · exact .inr h
theorem LstAt.mv (m : Mv F H r F' H' r') {a : Addr} {vs : List V} (h : LstAt F H a vs) : LstAt F' H' a vs := ⟨m.kp a _ h.1 h.2, m.nf a (by rw [h.1]; simp) h.2⟩
mutual
theorem RepV.mv (m : Mv F H r F' H' r') : ∀ (w : W) (v : V), RepV k F H r w v → RepV k F' H' r' w v
  | .non, v, h => by unfold RepV at h ⊢; exact h
  | .bl b, v, h => by unfold RepV at h ⊢; exact h
  | .int i, v, h => by unfold RepV at h ⊢; exact h
  | .str x, v, h => by unfold RepV at h ⊢; exact h
  | .tup ws, v, h => by
    unfold RepV at h ⊢
    obtain ⟨a, vs, e, t, l⟩ := h
    exact ⟨a, vs, e, t.mv m, RepL.mv m ws vs l⟩
  | .lst ws, v, h => by
    unfold RepV at h ⊢
    obtain ⟨a, vs, e, t, l⟩ := h
    exact ⟨a, vs, e, t.mv m, RepL.mv m ws vs l⟩
  | .dct ks ws, v, h => by
    unfold RepV at h ⊢
    obtain ⟨a, es, e, n, t, l1, l2, hh⟩ := h
    exact ⟨a, es, e, m.nf a (by rw [t]; simp) n, m.kp a _ t n, RepL.mv m ks _ l1, RepL.mv m ws _ l2, hh⟩
  | .exc c fs ws, v, h => by
    unfold RepV at h ⊢
    obtain ⟨a, d, vs, e, n, t, ⟨x1, x2⟩, l⟩ := h
    refine ⟨a, d, vs, e, m.nf a (by rw [t]; simp) n, m.kp a _ t n, ⟨x1, ?_⟩, RepL.mv m ws vs l⟩
    rcases x2 with x2 | ⟨x, e1, n1, t1⟩
    · exact .inl x2
    · exact .inr ⟨x, e1, m.nf x (by rw [t1]; simp) n1, m.kp x _ t1 n1⟩
  | .loc n, v, h => by
    unfold RepV at h ⊢
    obtain ⟨a, e, q⟩ := h
    exact ⟨a, pre_get m.pre e, q⟩
  | .cls x, v, h => by unfold RepV at h ⊢; exact h
  | .ty n, v, h => by unfold RepV at h ⊢; exact h
  | .brw i, v, h => by unfold RepV at h ⊢; exact h
  | .scr ns, v, h => by
    unfold RepV at h ⊢
    obtain ⟨a, e, q⟩ := h
    refine ⟨a, e, ?_⟩
    rcases q with ⟨q, n⟩ | q
    · exact .inl ⟨Rd.mv m q n, m.nf a (Rd.tracked q) n⟩
    · exact .inr q
theorem RepL.mv (m : Mv F H r F' H' r') : ∀ (ws : List W) (vs : List V), RepL k F H r ws vs → RepL k F' H' r' ws vs
  | [], vs, h => by unfold RepL at h ⊢; exact h
  | w :: ws, vs, h => by
    unfold RepL at h ⊢
    obtain ⟨v, vs', e, h1, h2⟩ := h
    exact ⟨v, vs', e, RepV.mv m w v h1, RepL.mv m ws vs' h2⟩
end
theorem RepF.mv (m : Mv F H r F' H' r') {fs : List (Str × W)} {fv : List (Str × V)} (h : RepF k F H r fs fv) : RepF k F' H' r' fs fv := ⟨h.1, RepL.mv m _ _ h.2⟩
theorem ObjR.mv (m : Mv F H r F' H' r') {a : Addr} (ha : ∀ o, H a = some o → H' a = some o) : ∀ {o : O}, ObjR k F H r a o → ObjR k F' H' r' a o
  | .lst ws, ⟨vs, e, l⟩ => ⟨vs, ha _ e, RepL.mv m _ _ l⟩
  | .dct ks ws, ⟨es, e, l1, l2, hh⟩ => ⟨es, ha _ e, RepL.mv m _ _ l1, RepL.mv m _ _ l2, hh⟩
  | .ins c fs, ⟨dx, fv, e, f⟩ => ⟨dx, fv, ha _ e, f.mv m⟩
theorem Ext.mv (x : Ext F H r F' H' r') (inF : ∀ a ∈ r, F a) : Mv F H r F' H' r' where
  kp := fun a o h n => x.kp a o h fun q => n (inF a q)
  nf := fun a h n q => h (x.new a q n)
  pre := let ⟨more, e, _⟩ := x.pre; ⟨more, e⟩
theorem StR.ext {F0 : FS} {s : L2.St} {sw : SW} {S : Store} (h : StR k F0 F H r s sw) (x : Ext F H r F' H' r') (t : Sto k F H r S) : StR k F0 F' H' r' s sw := by
  have m := x.mv t.inF
  obtain ⟨more, e, hm⟩ := x.pre
  refine ⟨h.len, fun i w q => ?_, fun i o q => ?_, h.dis⟩
  · obtain ⟨v, e1, e2⟩ := h.val i w q
    exact ⟨v, e1, RepV.mv m w v e2⟩
  · obtain ⟨a, e1, f, n0, nr, ob⟩ := h.own i o q
    refine ⟨a, e1, x.sub a f, n0, fun z => ?_, ob.mv m fun u hu => x.kp a u hu nr⟩
    rw [e] at z
    rcases List.mem_append.mp z with z | z
    · exact nr z
    · exact t.trk a f (hm a z)
end
theorem RepV.det_int {k : Kw} {F : FS} {H : Hp} {r : List Addr} {i : Int} {v : V} (h : RepV k F H r (.int i) v) : v = .int i := by unfold RepV at h; exact h
theorem RepV.det_str {k : Kw} {F : FS} {H : Hp} {r : List Addr} {i : Str} {v : V} (h : RepV k F H r (.str i) v) : v = .str i := by unfold RepV at h; exact h
theorem RepV.det_bl {k : Kw} {F : FS} {H : Hp} {r : List Addr} {i : Bool} {v : V} (h : RepV k F H r (.bl i) v) : v = .bl i := by unfold RepV at h; exact h
theorem RepV.det_non {k : Kw} {F : FS} {H : Hp} {r : List Addr} {v : V} (h : RepV k F H r .non v) : v = .non := by unfold RepV at h; exact h
end ML
set_option Elab.async false
set_option linter.all false
set_option maxRecDepth 100000
set_option maxHeartbeats 4000000
namespace ML
open PySem PySem.Spec PyProof.Rows L2

/-! ### what a run promises -/
def Run (k : Kw) (Wx : WX) (s : L2.St) (F : FS) (H : Hp) (rho : List Addr) {A : Type} (r : Res A) (P : A → FS → Hp → List Addr → Prop) : Prop := match r with
  | .ok a S => ∀ F' H' r', Ext F H rho F' H' r' → Sto k F' H' r' S → P a F' H' r'
  | .exc c fs ws S => ∀ d vs F' H' r', Ext F H rho F' H' r' → Sto k F' H' r' S → ExD F' H' d fs vs → RepL k F' H' r' ws vs → Wx (.ref (He.ga k.K c)) d s H'
  | .bad => False
theorem Run.shift {k : Kw} {Wx : WX} {s : L2.St} {F F1 : FS} {H H1 : Hp} {r r1 : List Addr} {A : Type} {res : Res A} {P : A → FS → Hp → List Addr → Prop} (x : Ext F H r F1 H1 r1) (h : Run k Wx s F H r res P) : Run k Wx s F1 H1 r1 res P := by
  cases res with
  | ok a S => exact fun F' H' r' y t => h F' H' r' (x.trans y) t
  | exc c fs ws S => exact fun d vs F' H' r' y t e l => h d vs F' H' r' (x.trans y) t e l
  | bad => exact h
theorem Run.imp {k : Kw} {Wx : WX} {s : L2.St} {F : FS} {H : Hp} {r : List Addr} {A : Type} {res : Res A} {P P' : A → FS → Hp → List Addr → Prop} (h : Run k Wx s F H r res P) (i : ∀ a F' H' r', P a F' H' r' → P' a F' H' r') : Run k Wx s F H r res P' := by
  cases res with
  | ok a S => exact fun F' H' r' y t => i _ _ _ _ (h F' H' r' y t)
  | exc c fs ws S => exact h
  | bad => exact h
theorem Run.ok {k : Kw} {Wx : WX} {s : L2.St} {F : FS} {H : Hp} {r : List Addr} {A : Type} {a : A} {S : Store} {P : A → FS → Hp → List Addr → Prop} (h : Run k Wx s F H r (.ok a S) P) (t : Sto k F H r S) : P a F H r := h F H r (Ext.refl _ _ _) t
/-- a value that may be an own slot's object -/
def RepB (k : Kw) (F : FS) (H : Hp) (rho : List Addr) (s : L2.St) (sw : SW) (w : W) (v : V) : Prop := match w with
  | .brw i => (∃ o, sw[i]? = some (some (.own o))) ∧ s[i]? = some (some v)
  | w => RepV k F H rho w v
theorem RepB.of {k : Kw} {F : FS} {H : Hp} {rho : List Addr} {s : L2.St} {sw : SW} {w : W} {v : V} (h : RepV k F H rho w v) : RepB k F H rho s sw w v := by
  cases w <;> first | exact h | (unfold RepV at h; exact h.elim)
theorem RepB.mv {k : Kw} {F F' : FS} {H H' : Hp} {r r' : List Addr} {s : L2.St} {sw : SW} {w : W} {v : V} (m : Mv F H r F' H' r') (h : RepB k F H r s sw w v) : RepB k F' H' r' s sw w v := by
  cases w <;> first | exact RepV.mv m _ v h | exact h
/-! ### readings -/
def pV (k : Kw) (Q : VK) : W → FS → Hp → List Addr → Prop := fun w F' H' r' => ∀ v, RepV k F' H' r' w v → Q v H'
def pB (k : Kw) (s : L2.St) (sw : SW) (Q : VK) : W → FS → Hp → List Addr → Prop := fun w F' H' r' => ∀ v, RepB k F' H' r' s sw w v → Q v H'
def pL (k : Kw) (Q : List V → Hp → Prop) : List W → FS → Hp → List Addr → Prop := fun ws F' H' r' => ∀ vs, RepL k F' H' r' ws vs → Q vs H'
def pT (Q : Bool → Hp → Prop) : Bool → FS → Hp → List Addr → Prop := fun b _ H' _ => Q b H'
/-- a new object p that nobody holds -/
def pF (k : Kw) (H : Hp) (Q : VK) : O → FS → Hp → List Addr → Prop := fun o F' H' r' => ∀ p, H p = none → F' p → p ∉ r' → ObjR k F' H' r' p o → Q (.ref p) H'
def tE (k : Kw) (Wx : WX) (m : EM) : TE := fun s H Q => ∃ F0 F rho S sw, Sto k F H rho S ∧ StR k F0 F H rho s sw ∧ Run k Wx s F H rho (m sw S) (pV k Q)
def tB (k : Kw) (Wx : WX) (m : EM) : TE := fun s H Q => ∃ F0 F rho S sw, Sto k F H rho S ∧ StR k F0 F H rho s sw ∧ Run k Wx s F H rho (m sw S) (pB k s sw Q)
def tF (k : Kw) (Wx : WX) (m : FM) : TE := fun s H Q => ∃ F0 F rho S sw, Sto k F H rho S ∧ StR k F0 F H rho s sw ∧ Run k Wx s F H rho (m sw S) (pF k H Q)
def tA (k : Kw) (Wx : WX) (m : AM) : TA := fun s H Q => ∃ F0 F rho S sw, Sto k F H rho S ∧ StR k F0 F H rho s sw ∧ Run k Wx s F H rho (m sw S) (pL k Q)
def tT (k : Kw) (Wx : WX) (m : TM) : TT := fun s H Q => ∃ F0 F rho S sw, Sto k F H rho S ∧ StR k F0 F H rho s sw ∧ Run k Wx s F H rho (m sw S) (pT Q)
abbrev kw (X : Cx) : Kw := ⟨X.K, X.w⟩
abbrev IE (X : Cx) (Wx : WX) (e : Expr) (m : EM) : Prop := PE X e (tE (kw X) Wx m)
abbrev IB (X : Cx) (Wx : WX) (e : Expr) (m : EM) : Prop := PE X e (tB (kw X) Wx m)
abbrev IF (X : Cx) (Wx : WX) (e : Expr) (m : FM) : Prop := PE X e (tF (kw X) Wx m)
abbrev IA (X : Cx) (Wx : WX) (es : List Expr) (m : AM) : Prop := PA X es (tA (kw X) Wx m)
abbrev IT (X : Cx) (Wx : WX) (e : Expr) (m : TM) : Prop := PT X e (tT (kw X) Wx m)
theorem pe_imp {X : Cx} {e : Expr} {t t' : TE} (h : PE X e t) (i : ∀ s H Q, t' s H Q → t s H Q) : PE X e t' := ⟨fun pins s σ H Q I q => h.run pins s σ H Q I (i _ _ _ q)⟩
theorem pt_imp {X : Cx} {e : Expr} {t t' : TT} (h : PT X e t) (i : ∀ s H Q, t' s H Q → t s H Q) : PT X e t' := ⟨fun pins s σ H Q I q => h.run pins s σ H Q I (i _ _ _ q)⟩
theorem pw_imp {X : Cx} {e : Expr} {t t' : TT} (h : PW X e t) (i : ∀ s H Q, t' s H Q → t s H Q) : PW X e t' := ⟨fun wh pins s σ H Q I q => h.run wh pins s σ H Q I (i _ _ _ q)⟩
theorem pa_imp {X : Cx} {es : List Expr} {t t' : TA} (h : PA X es t) (i : ∀ s H Q, t' s H Q → t s H Q) : PA X es t' := ⟨fun pos pins s σ H Q I q => h.run pos pins s σ H Q I (i _ _ _ q)⟩
theorem ps_imp {X : Cx} {st : Stmt} {t t' : TS} (h : PS X st t) (i : ∀ D s H, t' D s H → t D s H) : PS X st t' := ⟨fun pins s σ H D I q => h.run pins s σ H D I (i _ _ _ q)⟩
theorem pss_imp {X : Cx} {st : List Stmt} {t t' : TS} (h : PSs X st t) (i : ∀ D s H, t' D s H → t D s H) : PSs X st t' := ⟨fun pins s σ H D I q => h.run pins s σ H D I (i _ _ _ q)⟩

section
variable {k : Kw} {Wx : WX} {s : L2.St} {sw : SW} {F0 F : FS} {H : Hp} {r : List Addr} {S : Store}
/-- step lemmas: the part's run, then what follows -/
theorem tE_bind {m : EM} {A : Type} {f : W → Store → Res A} {P : A → FS → Hp → List Addr → Prop} {Q : VK} (t : Sto k F H r S) (st : StR k F0 F H r s sw) (h : Run k Wx s F H r ((m sw S).bind f) P)
    (g : ∀ w v F' H' r' S', Ext F H r F' H' r' → Sto k F' H' r' S' → StR k F0 F' H' r' s sw → RepV k F' H' r' w v → Run k Wx s F' H' r' (f w S') P → Q v H') : tE k Wx m s H Q := by
  refine ⟨F0, F, r, S, sw, t, st, ?_⟩
  cases e : m sw S with
  | ok w S' =>
    rw [e] at h
    exact fun F' H' r' x t' v rv => g w v F' H' r' S' x t' (st.ext x t) rv (Run.shift x h)
  | exc c fs ws S' =>
    rw [e] at h
    exact h
  | bad =>
    rw [e] at h
    exact h
theorem tB_bind {m : EM} {A : Type} {f : W → Store → Res A} {P : A → FS → Hp → List Addr → Prop} {Q : VK} (t : Sto k F H r S) (st : StR k F0 F H r s sw) (h : Run k Wx s F H r ((m sw S).bind f) P)
    (g : ∀ w v F' H' r' S', Ext F H r F' H' r' → Sto k F' H' r' S' → StR k F0 F' H' r' s sw → RepB k F' H' r' s sw w v → Run k Wx s F' H' r' (f w S') P → Q v H') : tB k Wx m s H Q := by
  refine ⟨F0, F, r, S, sw, t, st, ?_⟩
  cases e : m sw S with
  | ok w S' =>
    rw [e] at h
    exact fun F' H' r' x t' v rv => g w v F' H' r' S' x t' (st.ext x t) rv (Run.shift x h)
  | exc c fs ws S' =>
    rw [e] at h
    exact h
  | bad =>
    rw [e] at h
    exact h
theorem tA_bind {m : AM} {A : Type} {f : List W → Store → Res A} {P : A → FS → Hp → List Addr → Prop} {Q : List V → Hp → Prop} (t : Sto k F H r S) (st : StR k F0 F H r s sw) (h : Run k Wx s F H r ((m sw S).bind f) P)
    (g : ∀ w v F' H' r' S', Ext F H r F' H' r' → Sto k F' H' r' S' → StR k F0 F' H' r' s sw → RepL k F' H' r' w v → Run k Wx s F' H' r' (f w S') P → Q v H') : tA k Wx m s H Q := by
  refine ⟨F0, F, r, S, sw, t, st, ?_⟩
  cases e : m sw S with
  | ok w S' =>
    rw [e] at h
    exact fun F' H' r' x t' v rv => g w v F' H' r' S' x t' (st.ext x t) rv (Run.shift x h)
  | exc c fs ws S' =>
    rw [e] at h
    exact h
  | bad =>
    rw [e] at h
    exact h
theorem tT_bind {m : TM} {A : Type} {f : Bool → Store → Res A} {P : A → FS → Hp → List Addr → Prop} {Q : Bool → Hp → Prop} (t : Sto k F H r S) (st : StR k F0 F H r s sw) (h : Run k Wx s F H r ((m sw S).bind f) P)
    (g : ∀ b F' H' r' S', Ext F H r F' H' r' → Sto k F' H' r' S' → StR k F0 F' H' r' s sw → Run k Wx s F' H' r' (f b S') P → Q b H') : tT k Wx m s H Q := by
  refine ⟨F0, F, r, S, sw, t, st, ?_⟩
  cases e : m sw S with
  | ok w S' =>
    rw [e] at h
    exact fun F' H' r' x t' => g w F' H' r' S' x t' (st.ext x t) (Run.shift x h)
  | exc c fs ws S' =>
    rw [e] at h
    exact h
  | bad =>
    rw [e] at h
    exact h
theorem tF_bind {m : FM} {A : Type} {f : O → Store → Res A} {P : A → FS → Hp → List Addr → Prop} {Q : VK} (t : Sto k F H r S) (st : StR k F0 F H r s sw) (h : Run k Wx s F H r ((m sw S).bind f) P)
    (g : ∀ o p F' H' r' S', Ext F H r F' H' r' → Sto k F' H' r' S' → StR k F0 F' H' r' s sw → H p = none → F' p → p ∉ r' → ObjR k F' H' r' p o → Run k Wx s F H r (f o S') P → Q (.ref p) H') : tF k Wx m s H Q := by
  refine ⟨F0, F, r, S, sw, t, st, ?_⟩
  cases e : m sw S with
  | ok w S' =>
    rw [e] at h
    exact fun F' H' r' x t' p hp fp np ob => g w p F' H' r' S' x t' (st.ext x t) hp fp np ob h
  | exc c fs ws S' =>
    rw [e] at h
    exact h
  | bad =>
    rw [e] at h
    exact h

/-! ### the heap grows by an object that is never changed -/
theorem upd_kp {p : Addr} {o : HO} (hp : H p = none) : ∀ a u, H a = some u → upd H p o a = some u := fun a u h => by
  rw [upd_ne (ne_of_none h hp)]
  exact h
theorem upd_dom {p : Addr} {o : HO} : ∀ a, H a ≠ none → upd H p o a ≠ none := fun a h => by
  by_cases e : a = p
  · rw [e, upd_same]
    simp
  · rw [upd_ne e]
    exact h
theorem Ext.new1 {p : Addr} {o : HO} (hp : H p = none) : Ext F H r F (upd H p o) r :=
  ⟨fun _ h => h, fun _ h n => absurd h n, ⟨[], by simp, by simp⟩, fun a u h _ => upd_kp hp a u h, upd_dom⟩
theorem Sto.new1 {p : Addr} {o : HO} (t : Sto k F H r S) (hp : H p = none) : Sto k F (upd H p o) r S := by
  have m := (Ext.new1 (F := F) (r := r) (o := o) hp).mv t.inF
  exact ⟨t.len, t.nd, t.inF, fun a f => upd_dom a (t.trk a f), fun n ob a h1 h2 => (t.obj n ob a h1 h2).mv m fun u => upd_kp hp a u⟩
theorem Sto.free {p : Addr} (t : Sto k F H r S) (hp : H p = none) : ¬ F p := fun f => t.trk p f hp
theorem Sto.mem_r {p : Addr} (t : Sto k F H r S) (hp : H p = none) : p ∉ r := fun f => t.free hp (t.inF p f)
/-- .. by an object that this def alone holds -/
def addF (F : FS) (p : Addr) : FS := fun a => F a ∨ a = p
theorem Ext.newF {p : Addr} {o : HO} (hp : H p = none) : Ext F H r (addF F p) (upd H p o) r :=
  ⟨fun _ h => .inl h, fun a h n => (by rcases h with h | h; exact absurd h n; rw [h]; exact hp), ⟨[], by simp, by simp⟩, fun a u h _ => upd_kp hp a u h, upd_dom⟩
theorem Sto.newF {p : Addr} {o : HO} (t : Sto k F H r S) (hp : H p = none) : Sto k (addF F p) (upd H p o) r S := by
  have m := (Ext.newF (F := F) (r := r) (o := o) hp).mv t.inF
  refine ⟨t.len, t.nd, fun a h => .inl (t.inF a h), fun a f => ?_, fun n ob a h1 h2 => (t.obj n ob a h1 h2).mv m fun u => upd_kp hp a u⟩
  rcases f with f | f
  · exact upd_dom a (t.trk a f)
  · rw [f, upd_same]
    simp
/-- a new object that is no longer guarded -/
theorem Ext.drop {F' : FS} {H' : Hp} {r' : List Addr} {p : Addr} (x : Ext F H r F' H' r') (hp : H p = none) (t : Sto k F H r S) : Ext F H r (fun a => F' a ∧ a ≠ p) H' r' :=
  ⟨fun a f => ⟨x.sub a f, fun e => t.trk a f (by rw [e]; exact hp)⟩, fun a f n => x.new a f.1 n, x.pre, x.kp, x.dom⟩
theorem Mv.drop {F' : FS} {H' : Hp} {r' : List Addr} {p : Addr} : Mv F' H' r' (fun a => F' a ∧ a ≠ p) H' r' := ⟨fun _ _ h _ => h, fun a _ n q => n q.1, ⟨[], by simp⟩⟩
theorem Sto.drop {p : Addr} (t : Sto k F H r S) (hp : p ∉ r) : Sto k (fun a => F a ∧ a ≠ p) H r S :=
  ⟨t.len, t.nd, fun a h => ⟨t.inF a h, fun e => hp (by rw [← e]; exact h)⟩, fun a f => t.trk a f.1, fun n ob a h1 h2 => (t.obj n ob a h1 h2).mv Mv.drop fun _ h => h⟩
end
/-! ### from one reading to another -/
section
variable {X : Cx} {Wx : WX} {e : Expr}
theorem ib_of {m : EM} (h : IE X Wx e m) : IB X Wx e m := pe_imp h fun s H Q ⟨F0, F, r, S, sw, t, st, q⟩ => ⟨F0, F, r, S, sw, t, st, q.imp fun w F' H' r' z v rv => z v (RepB.of rv)⟩
def frz : O → W
  | .lst ws => .lst ws
  | .dct ks vs => .dct ks vs
  | .ins _ _ => .non
def isIns : O → Bool
  | .ins _ _ => true
  | _ => false
/-- a new object as a value that is never changed -/
def eFrz (m : FM) : EM := fun sw S => (m sw S).bind fun o S => if isIns o then .bad else .ok (frz o) S
theorem ie_frz {m : FM} (h : IF X Wx e m) : IE X Wx e (eFrz m) := by
  refine pe_imp h fun s H Q ⟨F0, F, r, S, sw, t, st, q⟩ => ?_
  refine tF_bind t st q fun o p F' H' r' S' x t' st' hp fp np ob q => ?_
  cases o with
  | lst ws =>
    obtain ⟨vs, e1, l⟩ := ob
    exact q (fun a => F' a ∧ a ≠ p) H' r' (x.drop hp t) (t'.drop np) (.ref p) ⟨p, vs, rfl, ⟨e1, fun z => z.2 rfl⟩, RepL.mv Mv.drop _ _ l⟩
  | dct ks ws =>
    obtain ⟨es, e1, l1, l2, hh⟩ := ob
    exact q (fun a => F' a ∧ a ≠ p) H' r' (x.drop hp t) (t'.drop np) (.ref p) ⟨p, es, rfl, fun z => z.2 rfl, e1, RepL.mv Mv.drop _ _ l1, RepL.mv Mv.drop _ _ l2, hh⟩
  | ins c fs => exact q.elim
end
end ML
set_option Elab.async false
set_option linter.all false
set_option maxRecDepth 100000
set_option maxHeartbeats 4000000
namespace ML
open PySem PySem.Spec PyProof.Rows L2

/-! ### names, constants -/
def eVar (i : Nat) : EM := fun sw S => match sw[i]? with
  | some (some (.val w)) => .ok w S
  | _ => .bad
def eBrw (i : Nat) : EM := fun sw S => match sw[i]? with
  | some (some (.own _)) => .ok (.brw i) S
  | _ => .bad
def eC (w : W) : EM := fun _ S => .ok w S
section
variable {X : Cx} {Wx : WX} {e a b : Expr} {pos : Pos}
theorem ie_var {i : Nat} (h : PE X e (tVar i)) : IE X Wx e (eVar i) := by
  refine pe_imp h fun s H Q ⟨F0, F, r, S, sw, t, st, q⟩ => ?_
  unfold eVar at q
  split at q
  · rename_i w e1
    obtain ⟨v, e2, rv⟩ := st.val i w e1
    exact ⟨v, e2, q.ok t v rv⟩
  · exact q.elim
theorem ib_brw {i : Nat} (h : PE X e (tVar i)) : IB X Wx e (eBrw i) := by
  refine pe_imp h fun s H Q ⟨F0, F, r, S, sw, t, st, q⟩ => ?_
  unfold eBrw at q
  split at q
  · rename_i o e1
    obtain ⟨v, e2, _⟩ := st.own i o e1
    exact ⟨.ref v, e2, q.ok t (.ref v) ⟨⟨o, e1⟩, e2⟩⟩
  · exact q.elim
theorem ie_c {v : V} {w : W} (h : PE X e (tC v)) (rv : ∀ F H r, RepV (kw X) F H r w v) : IE X Wx e (eC w) :=
  pe_imp h fun s H Q ⟨F0, F, r, S, sw, t, st, q⟩ => q.ok t v (rv _ _ _)
theorem ie_int {i : Int} {j : Nat} : IE X Wx (.Constant (.int i) j pos) (eC (.int i)) := ie_c pe_int fun _ _ _ => rfl
theorem ie_bl {i : Bool} {j : Nat} : IE X Wx (.Constant (.bool i) j pos) (eC (.bl i)) := ie_c pe_bl fun _ _ _ => rfl
theorem ie_non {j : Nat} : IE X Wx (.Constant .none j pos) (eC .non) := ie_c pe_non fun _ _ _ => rfl
theorem ie_str {i : Str} {j : Nat} : IE X Wx (.Constant (.str i) j pos) (eC (.str i)) := ie_c pe_str fun _ _ _ => rfl

/-! ### operations by values -/
abbrev F1 := SW → W → Store → Res W
abbrev F2 := SW → W → W → Store → Res W
def eOp1 (f : F1) (a : EM) : EM := fun sw S => (a sw S).bind fun x S => f sw x S
def eOp2 (f : F2) (a b : EM) : EM := fun sw S => (a sw S).bind fun x S => (b sw S).bind fun y S => f sw x y S
def Sp1 (k : Kw) (r : V → Hp → VK → Prop) (f : F1) : Prop := ∀ (F0 F : FS) (H : Hp) (rho : List Addr) (S : Store) (s : L2.St) (sw : SW) (x : W) (v : V) (Wx : WX) (Q : VK),
  Sto k F H rho S → StR k F0 F H rho s sw → RepB k F H rho s sw x v → Run k Wx s F H rho (f sw x S) (pV k Q) → r v H Q
def Sp2 (k : Kw) (r : R2) (f : F2) : Prop := ∀ (F0 F : FS) (H : Hp) (rho : List Addr) (S : Store) (s : L2.St) (sw : SW) (x y : W) (v u : V) (Wx : WX) (Q : VK),
  Sto k F H rho S → StR k F0 F H rho s sw → RepB k F H rho s sw x v → RepB k F H rho s sw y u → Run k Wx s F H rho (f sw x y S) (pV k Q) → r v u H Q
theorem op2_imp {k : Kw} {r : R2} {f : F2} {ma mb : EM} (hf : Sp2 k r f) (s : L2.St) (H : Hp) (Q : VK) (h : tE k Wx (eOp2 f ma mb) s H Q) : tOp r (tB k Wx ma) (tB k Wx mb) s H Q := by
  obtain ⟨F0, F, rh, S, sw, t, st, q⟩ := h
  refine tB_bind t st q fun w1 v1 Fa Ha ra Sa xa ta sa ba q => ?_
  refine tB_bind ta sa q fun w2 v2 Fb Hb rb Sb xb tb sb bb q => ?_
  exact hf _ _ _ _ _ _ _ _ _ _ _ _ _ tb sb (ba.mv (xb.mv ta.inF)) bb q
theorem ie_op {op : Operator} {r : R2} {f : F2} {ma mb : EM} (ho : OpR X (binaryOp op) r) (hf : Sp2 (kw X) r f) (ha : IB X Wx a ma) (hb : IB X Wx b mb) : IE X Wx (.BinOp a op b pos) (eOp2 f ma mb) :=
  pe_imp (pe_op ho ha hb) (op2_imp hf)
theorem ie_cmp {op : CmpOp} {r : R2} {f : F2} {ma mb : EM} (ho : OpR X (compareOp op) r) (hf : Sp2 (kw X) r f) (ha : IB X Wx a ma) (hb : IB X Wx b mb) (hm : behindInMarks op b = false) : IE X Wx (.Compare a [op] [b] pos) (eOp2 f ma mb) :=
  pe_imp (pe_cmpR ho ha hb hm) (op2_imp hf)
/-- a truth value as a test -/
def tV (m : EM) : TM := fun sw S => (m sw S).bind fun w S => match w with
  | .bl b => .ok b S
  | _ => .bad
theorem tV_imp {k : Kw} {m : EM} (s : L2.St) (H : Hp) (Q : Bool → Hp → Prop) (h : tT k Wx (tV m) s H Q) : tE k Wx m s H fun x H' => ∃ c, x = .bl c ∧ Q c H' := by
  obtain ⟨F0, F, rh, S, sw, t, st, q⟩ := h
  refine tE_bind t st q fun w v Fa Ha ra Sa xa ta sa ba q => ?_
  cases w with
  | bl b => exact ⟨b, ba, q.ok ta⟩
  | _ => exact q.elim
theorem it_cmp {op : CmpOp} {r : R2} {f : F2} {ma mb : EM} (ho : OpR X (compareOp op) r) (hf : Sp2 (kw X) r f) (ha : IB X Wx a ma) (hb : IB X Wx b mb) (hm : behindInMarks op b = false) : IT X Wx (.Compare a [op] [b] pos) (tV (eOp2 f ma mb)) :=
  pt_imp (pt_cmpR ho ha hb hm) fun s H Q h => op2_imp hf s H _ (tV_imp s H Q h)
theorem it_val {m : EM} (h : IE X Wx e m) (he : ∀ whole, isTrue e X.env whole = (do let v ← whole; standAt e.pos; holding [v] (truthy v)) := by intro _; rfl) : IT X Wx e (tV m) :=
  pt_imp (pt_val h he) fun s H Q h => tV_imp s H Q h

/-! ### and, or, not -/
abbrev IW (X : Cx) (Wx : WX) (e : Expr) (m : TM) : Prop := PW X e (tT (kw X) Wx m)
def tAndM (a b : TM) : TM := fun sw S => (a sw S).bind fun c S => if c then b sw S else .ok false S
def tOrM (a b : TM) : TM := fun sw S => (a sw S).bind fun c S => if c then .ok true S else b sw S
def tNotM (a : TM) : TM := fun sw S => (a sw S).bind fun c S => .ok (!c) S
variable {rest : List Expr}
theorem it_w {m : TM} (h : IW X Wx e m) : IT X Wx e m := h.pt
theorem iw_and1 {m : TM} (h : IT X Wx a m) : IW X Wx (.BoolOp .And [a] pos) m := pw_and1 h
theorem iw_or1 {m : TM} (h : IT X Wx a m) : IW X Wx (.BoolOp .Or [a] pos) m := pw_or1 h
theorem iw_and {m n : TM} (ha : IT X Wx a m) (hb : IW X Wx (.BoolOp .And (b :: rest) pos) n) : IW X Wx (.BoolOp .And (a :: b :: rest) pos) (tAndM m n) := by
  refine pw_imp (pw_and ha hb) fun s H Q ⟨F0, F, r, S, sw, t, st, q⟩ => ?_
  refine tT_bind t st q fun c Fa Ha ra Sa xa ta sa q => ?_
  cases c with
  | true => exact ⟨F0, Fa, ra, Sa, sw, ta, sa, q⟩
  | false => exact q.ok ta
theorem iw_or {m n : TM} (ha : IT X Wx a m) (hb : IW X Wx (.BoolOp .Or (b :: rest) pos) n) : IW X Wx (.BoolOp .Or (a :: b :: rest) pos) (tOrM m n) := by
  refine pw_imp (pw_or ha hb) fun s H Q ⟨F0, F, r, S, sw, t, st, q⟩ => ?_
  refine tT_bind t st q fun c Fa Ha ra Sa xa ta sa q => ?_
  cases c with
  | false => exact ⟨F0, Fa, ra, Sa, sw, ta, sa, q⟩
  | true => exact q.ok ta
theorem it_not {m : TM} (ha : IT X Wx a m) : IT X Wx (.UnaryOp .Not a pos) (tNotM m) := by
  refine pt_imp (pt_not ha) fun s H Q ⟨F0, F, r, S, sw, t, st, q⟩ => ?_
  exact tT_bind t st q fun c Fa Ha ra Sa xa ta sa q => q.ok ta
def eAndV (a b : EM) : EM := fun sw S => (a sw S).bind fun w S => match w with
  | .bl true => b sw S
  | .bl false => .ok (.bl false) S
  | _ => .bad
def eOrV (a b : EM) : EM := fun sw S => (a sw S).bind fun w S => match w with
  | .bl false => b sw S
  | .bl true => .ok (.bl true) S
  | _ => .bad
def eNotV (a : EM) : EM := fun sw S => (a sw S).bind fun w S => match w with
  | .bl c => .ok (.bl (!c)) S
  | _ => .bad
theorem ie_one {op : BoolOp} {m : EM} (h : IE X Wx a m) : IE X Wx (.BoolOp op [a] pos) m := pe_one h
theorem ie_and {m n : EM} (ha : IE X Wx a m) (hb : IE X Wx (.BoolOp .And (b :: rest) pos) n) : IE X Wx (.BoolOp .And (a :: b :: rest) pos) (eAndV m n) := by
  refine pe_imp (pe_and ha hb) fun s H Q ⟨F0, F, r, S, sw, t, st, q⟩ => ?_
  refine tE_bind t st q fun w v Fa Ha ra Sa xa ta sa ba q => ?_
  cases w with
  | bl c =>
    refine ⟨c, ba, ?_⟩
    cases c with
    | true => exact ⟨F0, Fa, ra, Sa, sw, ta, sa, q⟩
    | false => exact q.ok ta _ rfl
  | _ => exact q.elim
theorem ie_or {m n : EM} (ha : IE X Wx a m) (hb : IE X Wx (.BoolOp .Or (b :: rest) pos) n) : IE X Wx (.BoolOp .Or (a :: b :: rest) pos) (eOrV m n) := by
  refine pe_imp (pe_or ha hb) fun s H Q ⟨F0, F, r, S, sw, t, st, q⟩ => ?_
  refine tE_bind t st q fun w v Fa Ha ra Sa xa ta sa ba q => ?_
  cases w with
  | bl c =>
    refine ⟨c, ba, ?_⟩
    cases c with
    | false => exact ⟨F0, Fa, ra, Sa, sw, ta, sa, q⟩
    | true => exact q.ok ta _ rfl
  | _ => exact q.elim
theorem ie_not {m : EM} (ha : IE X Wx a m) : IE X Wx (.UnaryOp .Not a pos) (eNotV m) := by
  refine pe_imp (pe_not ha) fun s H Q ⟨F0, F, r, S, sw, t, st, q⟩ => ?_
  refine tE_bind t st q fun w v Fa Ha ra Sa xa ta sa ba q => ?_
  cases w with
  | bl c => exact ⟨c, ba, q.ok ta _ rfl⟩
  | _ => exact q.elim
def eIf (c : TM) (a b : EM) : EM := fun sw S => (c sw S).bind fun c S => if c then a sw S else b sw S
theorem ie_if {c : Expr} {mc : TM} {m n : EM} (hc : IT X Wx c mc) (ha : IE X Wx a m) (hb : IE X Wx b n) : IE X Wx (.IfExp c a b pos) (eIf mc m n) := by
  refine pe_imp (pe_ifExp hc ha hb) fun s H Q ⟨F0, F, r, S, sw, t, st, q⟩ => ?_
  refine tT_bind t st q fun c Fa Ha ra Sa xa ta sa q => ?_
  cases c with
  | true => exact ⟨F0, Fa, ra, Sa, sw, ta, sa, q⟩
  | false => exact ⟨F0, Fa, ra, Sa, sw, ta, sa, q⟩

/-! ### calls of built-ins by their name -/
theorem op1_imp {k : Kw} {r : V → Hp → VK → Prop} {f : F1} {ma : EM} (hf : Sp1 k r f) (s : L2.St) (H : Hp) (Q : VK) (h : tE k Wx (eOp1 f ma) s H Q) : tB k Wx ma s H fun v H' => r v H' Q := by
  obtain ⟨F0, F, rh, S, sw, t, st, q⟩ := h
  refine tB_bind t st q fun w1 v1 Fa Ha ra Sa xa ta sa ba q => ?_
  exact hf _ _ _ _ _ _ _ _ _ _ _ ta sa ba q
variable {x : Str} {p : Pos} {id T : String} {r : List V → Hp → VK → Prop}
theorem ie_b1 {f : F1} {m : EM} (hc : CallR X (.builtin id) r) (hf : Sp1 (kw X) (fun v => r [v]) f) (hg : Gl X x) (hm : X.mg x = none) (hv : bootBuiltins x = some (.builtin id)) (ha : IB X Wx a m) (hn : x ≠ "__name__" := by decide) (hdb : (x == ("__debug__" : Str)) = false := by decide)
    (he : starEach [a] X.env = (false, eval a X.env) :: starEach [] X.env := by rfl) : IE X Wx (.Call (.Name x p) [a] [] pos) (eOp1 f m) :=
  pe_imp (pe_callB hc hg hm hv (pa_cons ha pa_nil he) hn hdb he) (op1_imp hf)
theorem ie_t1 {f : F1} {m : EM} (hc : CallR X (.type T) r) (hf : Sp1 (kw X) (fun v => r [v]) f) (hg : Gl X x) (hm : X.mg x = none) (hv : bootBuiltins x = some (.type T)) (ha : IB X Wx a m) (hn : x ≠ "__name__" := by decide) (hdb : (x == ("__debug__" : Str)) = false := by decide)
    (he : starEach [a] X.env = (false, eval a X.env) :: starEach [] X.env := by rfl) : IE X Wx (.Call (.Name x p) [a] [] pos) (eOp1 f m) :=
  pe_imp (pe_callTy hc hg hm hv (pa_cons ha pa_nil he) hn hdb he) (op1_imp hf)
theorem ie_b2 {f : F2} {m n : EM} (hc : CallR X (.builtin id) r) (hf : Sp2 (kw X) (fun v u => r [v, u]) f) (hg : Gl X x) (hm : X.mg x = none) (hv : bootBuiltins x = some (.builtin id)) (ha : IB X Wx a m) (hb : IB X Wx b n) (hn : x ≠ "__name__" := by decide) (hdb : (x == ("__debug__" : Str)) = false := by decide)
    (he : starEach [a, b] X.env = (false, eval a X.env) :: starEach [b] X.env := by rfl) (he1 : starEach [b] X.env = (false, eval b X.env) :: starEach [] X.env := by rfl) (hpl : (backTo pos (starEach [b] X.env)).any (·.1) = false := by rfl) : IE X Wx (.Call (.Name x p) [a, b] [] pos) (eOp2 f m n) :=
  pe_imp (pe_callB hc hg hm hv (pa_cons ha (pa_cons hb pa_nil he1) he) hn hdb he hpl) (op2_imp (r := fun v u => r [v, u]) hf)

/-! ### arguments, tuples -/
def aNil : AM := fun _ S => .ok [] S
def aCons (m : EM) (n : AM) : AM := fun sw S => (m sw S).bind fun w S => (n sw S).bind fun ws S => .ok (w :: ws) S
theorem ia_nil : IA X Wx [] aNil := pa_imp pa_nil fun s H Q ⟨F0, F, r, S, sw, t, st, q⟩ => q.ok t [] rfl
theorem ia_cons {es : List Expr} {m : EM} {n : AM} (ha : IE X Wx a m) (hb : IA X Wx es n) (hs : starEach (a :: es) X.env = (false, eval a X.env) :: starEach es X.env := by rfl) : IA X Wx (a :: es) (aCons m n) := by
  refine pa_imp (pa_cons ha hb hs) fun s H Q ⟨F0, F, r, S, sw, t, st, q⟩ => ?_
  refine tE_bind t st q fun w v Fa Ha ra Sa xa ta sa ba q => ?_
  refine tA_bind ta sa q fun ws vs Fb Hb rb Sb xb tb sb bb q => ?_
  exact q.ok tb (v :: vs) ⟨v, vs, rfl, RepV.mv (xb.mv ta.inF) _ _ ba, bb⟩
def eTup (n : AM) : EM := fun sw S => (n sw S).bind fun ws S => if ws.length ≤ sizeLine then .ok (.tup ws) S else .bad
theorem ie_tup {es : List Expr} {x1 : Nat} {n : AM} (h : IA X Wx es n) : IE X Wx (.Tuple es x1 pos) (eTup n) := by
  refine pe_imp (pe_tup h) fun s H Q ⟨F0, F, r, S, sw, t, st, q⟩ => ?_
  refine tA_bind t st q fun ws vs Fb Hb rb Sb xb tb sb bb q => ?_
  by_cases hl : ws.length ≤ sizeLine
  · rw [if_pos hl] at q
    refine ⟨by rw [← bb.length]; exact hl, fun p hp => ?_⟩
    exact q Fb _ rb (Ext.new1 hp) (tb.new1 hp) (.ref p) ⟨p, vs, rfl, .inl ⟨upd_same, tb.free hp⟩, RepL.mv ((Ext.new1 hp).mv tb.inF) _ _ bb⟩
  · rw [if_neg hl] at q
    exact q.elim
def fLst (n : AM) : FM := fun sw S => (n sw S).bind fun ws S => if ws.length ≤ sizeLine then .ok (.lst ws) S else .bad
theorem if_lst {es : List Expr} {n : AM} (h : IA X Wx es n) : IF X Wx (.List es pos) (fLst n) := by
  refine pe_imp (pe_lst h) fun s H Q ⟨F0, F, r, S, sw, t, st, q⟩ => ?_
  have back : ∀ {F' : FS} {H' : Hp} {r' : List Addr}, Ext F H r F' H' r' → ∀ p, H' p = none → H p = none := fun x p h => by
    cases e : H p with
    | none => rfl
    | some o => exact absurd h (x.dom p (by rw [e]; simp))
  refine tA_bind t st q fun ws vs Fb Hb rb Sb xb tb sb bb q => ?_
  by_cases hl : ws.length ≤ sizeLine
  · rw [if_pos hl] at q
    refine ⟨by rw [← bb.length]; exact hl, fun p hp => ?_⟩
    exact q (addF Fb p) _ rb (Ext.newF hp) (tb.newF hp) p (back xb p hp) (.inr rfl) (tb.mem_r hp) ⟨vs, upd_same, RepL.mv ((Ext.newF hp).mv tb.inF) _ _ bb⟩
  · rw [if_neg hl] at q
    exact q.elim
end
end ML
set_option Elab.async false
set_option linter.all false
set_option maxRecDepth 100000
set_option maxHeartbeats 4000000
namespace ML
open PySem PySem.Spec PyProof.Rows L2

/-! ### statements -/
def pR (k : Kw) (F0 : FS) (Q : VK) : RV → FS → Hp → List Addr → Prop
  | .val w, F', H', r' => ∀ v, RepV k F' H' r' w v → Q v H'
  | .fr o, F', H', r' => ∀ p, ¬ F0 p → F' p → p ∉ r' → ObjR k F' H' r' p o → Q (.ref p) H'
theorem Mv.trans {F F1 F2 : FS} {H H1 H2 : Hp} {r r1 r2 : List Addr} (a : Mv F H r F1 H1 r1) (b : Mv F1 H1 r1 F2 H2 r2) : Mv F H r F2 H2 r2 := by
  refine ⟨fun x o h n => b.kp x o (a.kp x o h n) (a.nf x (by rw [h]; simp) n), fun x h n => ?_, ?_⟩
  · cases e : H x with
    | none => exact absurd e h
    | some o => exact b.nf x (by rw [a.kp x o e n]; simp) (a.nf x h n)
  · obtain ⟨m1, rfl⟩ := a.pre
    obtain ⟨m2, rfl⟩ := b.pre
    exact ⟨m1 ++ m2, by rw [List.append_assoc]⟩
/-- the end of a statement: F0, H0, r0 stood at the def's entry, Fb, Hb, rb at the statement's begin -/
def RunS (k : Kw) (Wx : WX) (F0 : FS) (H0 : Hp) (r0 : List Addr) (Fb : FS) (Hb : Hp) (rb : List Addr) (r : RS) (D : Ends) : Prop := match r with
  | .ok (.nx sw) S => ∀ F H r s, Ext F0 H0 r0 F H r → Mv Fb Hb rb F H r → Sto k F H r S → StR k F0 F H r s sw → D.nx s H
  | .ok (.bk sw) S => ∀ F H r s, Ext F0 H0 r0 F H r → Mv Fb Hb rb F H r → Sto k F H r S → StR k F0 F H r s sw → D.bk s H
  | .ok (.ct sw) S => ∀ F H r s, Ext F0 H0 r0 F H r → Mv Fb Hb rb F H r → Sto k F H r S → StR k F0 F H r s sw → D.ct s H
  | .ok (.rt rv) S => ∀ F H r, Ext F0 H0 r0 F H r → Sto k F H r S → pR k F0 D.rt rv F H r
  | .exc c fs ws sw S => ∀ d vs F H r s, Ext F0 H0 r0 F H r → Mv Fb Hb rb F H r → Sto k F H r S → StR k F0 F H r s sw → ExD F H d fs vs → RepL k F H r ws vs → Wx (.ref (He.ga k.K c)) d s H
  | .bad => False
theorem RunS.rebase {k : Kw} {Wx : WX} {F0 : FS} {H0 : Hp} {r0 : List Addr} {F F1 : FS} {H H1 : Hp} {r r1 : List Addr} {res : RS} {D : Ends} (m : Mv F H r F1 H1 r1) (h : RunS k Wx F0 H0 r0 F H r res D) : RunS k Wx F0 H0 r0 F1 H1 r1 res D := by
  cases res with
  | ok f S =>
    cases f with
    | nx sw => exact fun F' H' r' s x y => h F' H' r' s x (m.trans y)
    | rt rv => exact h
    | bk sw => exact fun F' H' r' s x y => h F' H' r' s x (m.trans y)
    | ct sw => exact fun F' H' r' s x y => h F' H' r' s x (m.trans y)
  | exc c fs ws sw S => exact fun d vs F' H' r' s x y => h d vs F' H' r' s x (m.trans y)
  | bad => exact h
def tS (k : Kw) (Wx : WX) (m : SM) : TS := fun D s H => ∃ F0 H0 r0 F rho S sw, Ext F0 H0 r0 F H rho ∧ Sto k F H rho S ∧ StR k F0 F H rho s sw ∧ RunS k Wx F0 H0 r0 F H rho (m sw S) D
abbrev IS (X : Cx) (Wx : WX) (st : Stmt) (m : SM) : Prop := PS X st (tS (kw X) Wx m)
abbrev ISs (X : Cx) (Wx : WX) (st : List Stmt) (m : SM) : Prop := PSs X st (tS (kw X) Wx m)
def liftS {A : Type} (r : Res A) (sw : SW) (f : A → Store → RS) : RS := match r with
  | .ok a S => f a S
  | .exc c fs ws S => .exc c fs ws sw S
  | .bad => .bad
section
variable {k : Kw} {Wx : WX} {s : L2.St} {sw : SW} {F0 F : FS} {H H0 : Hp} {r r0 : List Addr} {S : Store} {D : Ends}
theorem tE_st {m : EM} {f : W → Store → RS} {Q : VK} (x0 : Ext F0 H0 r0 F H r) (t : Sto k F H r S) (st : StR k F0 F H r s sw) (h : RunS k Wx F0 H0 r0 F H r (liftS (m sw S) sw f) D)
    (g : ∀ w v F' H' r' S', Ext F H r F' H' r' → Sto k F' H' r' S' → StR k F0 F' H' r' s sw → RepV k F' H' r' w v → RunS k Wx F0 H0 r0 F' H' r' (f w S') D → Q v H') : tE k Wx m s H Q := by
  refine ⟨F0, F, r, S, sw, t, st, ?_⟩
  cases e : m sw S with
  | ok w S' =>
    rw [e] at h
    exact fun F' H' r' x t' v rv => g w v F' H' r' S' x t' (st.ext x t) rv (h.rebase (x.mv t.inF))
  | exc c fs ws S' =>
    rw [e] at h
    exact fun d vs F' H' r' x t' ed l => h d vs F' H' r' s (x0.trans x) (x.mv t.inF) t' (st.ext x t) ed l
  | bad =>
    rw [e] at h
    exact h
theorem tB_st {m : EM} {f : W → Store → RS} {Q : VK} (x0 : Ext F0 H0 r0 F H r) (t : Sto k F H r S) (st : StR k F0 F H r s sw) (h : RunS k Wx F0 H0 r0 F H r (liftS (m sw S) sw f) D)
    (g : ∀ w v F' H' r' S', Ext F H r F' H' r' → Sto k F' H' r' S' → StR k F0 F' H' r' s sw → RepB k F' H' r' s sw w v → RunS k Wx F0 H0 r0 F' H' r' (f w S') D → Q v H') : tB k Wx m s H Q := by
  refine ⟨F0, F, r, S, sw, t, st, ?_⟩
  cases e : m sw S with
  | ok w S' =>
    rw [e] at h
    exact fun F' H' r' x t' v rv => g w v F' H' r' S' x t' (st.ext x t) rv (h.rebase (x.mv t.inF))
  | exc c fs ws S' =>
    rw [e] at h
    exact fun d vs F' H' r' x t' ed l => h d vs F' H' r' s (x0.trans x) (x.mv t.inF) t' (st.ext x t) ed l
  | bad =>
    rw [e] at h
    exact h
theorem tF_st {m : FM} {f : O → Store → RS} {Q : VK} (x0 : Ext F0 H0 r0 F H r) (t : Sto k F H r S) (st : StR k F0 F H r s sw) (h : RunS k Wx F0 H0 r0 F H r (liftS (m sw S) sw f) D)
    (g : ∀ o p F' H' r' S', Ext F H r F' H' r' → Sto k F' H' r' S' → StR k F0 F' H' r' s sw → H p = none → F' p → p ∉ r' → ObjR k F' H' r' p o → RunS k Wx F0 H0 r0 F' H' r' (f o S') D → Q (.ref p) H') : tF k Wx m s H Q := by
  refine ⟨F0, F, r, S, sw, t, st, ?_⟩
  cases e : m sw S with
  | ok w S' =>
    rw [e] at h
    exact fun F' H' r' x t' p hp fp np ob => g w p F' H' r' S' x t' (st.ext x t) hp fp np ob (h.rebase (x.mv t.inF))
  | exc c fs ws S' =>
    rw [e] at h
    exact fun d vs F' H' r' x t' ed l => h d vs F' H' r' s (x0.trans x) (x.mv t.inF) t' (st.ext x t) ed l
  | bad =>
    rw [e] at h
    exact h
theorem tT_st {m : TM} {f : Bool → Store → RS} {Q : Bool → Hp → Prop} (x0 : Ext F0 H0 r0 F H r) (t : Sto k F H r S) (st : StR k F0 F H r s sw) (h : RunS k Wx F0 H0 r0 F H r (liftS (m sw S) sw f) D)
    (g : ∀ w F' H' r' S', Ext F H r F' H' r' → Sto k F' H' r' S' → StR k F0 F' H' r' s sw → RunS k Wx F0 H0 r0 F' H' r' (f w S') D → Q w H') : tT k Wx m s H Q := by
  refine ⟨F0, F, r, S, sw, t, st, ?_⟩
  cases e : m sw S with
  | ok w S' =>
    rw [e] at h
    exact fun F' H' r' x t' => g w F' H' r' S' x t' (st.ext x t) (h.rebase (x.mv t.inF))
  | exc c fs ws S' =>
    rw [e] at h
    exact fun d vs F' H' r' x t' ed l => h d vs F' H' r' s (x0.trans x) (x.mv t.inF) t' (st.ext x t) ed l
  | bad =>
    rw [e] at h
    exact h
/-! ### slots -/
theorem set_get {A : Type} {l : List (Option A)} {i j : Nat} {x y : A} (h : (l.set i (some x))[j]? = some (some y)) : (i = j ∧ x = y ∧ j < l.length) ∨ (i ≠ j ∧ l[j]? = some (some y)) := by
  by_cases e : i = j
  · subst e
    by_cases hl : i < l.length
    · rw [List.getElem?_set_self hl] at h
      cases h
      exact .inl ⟨rfl, rfl, hl⟩
    · rw [List.getElem?_eq_none (by simpa using hl)] at h
      cases h
  · rw [List.getElem?_set_ne e] at h
    exact .inr ⟨e, h⟩
theorem StR.setVal (st : StR k F0 F H r s sw) {w : W} {v : V} (rv : RepV k F H r w v) (i : Nat) : StR k F0 F H r (s.set i (some v)) (sw.set i (some (.val w))) := by
  refine ⟨by simpa using st.len, fun j w' h => ?_, fun j o h => ?_, fun j l o o' a h1 h2 h3 h4 => ?_⟩
  · rcases set_get h with ⟨rfl, e, hl⟩ | ⟨ne, h⟩
    · cases e
      exact ⟨v, List.getElem?_set_self (by rw [st.len]; exact hl), rv⟩
    · obtain ⟨v', e, q⟩ := st.val j w' h
      exact ⟨v', by rw [List.getElem?_set_ne ne]; exact e, q⟩
  · rcases set_get h with ⟨rfl, e, hl⟩ | ⟨ne, h⟩
    · cases e
    · obtain ⟨a, e, q⟩ := st.own j o h
      exact ⟨a, by rw [List.getElem?_set_ne ne]; exact e, q⟩
  · rcases set_get h1 with ⟨rfl, e, hl⟩ | ⟨ne, h1⟩
    · cases e
    · rcases set_get h2 with ⟨rfl, e, hl⟩ | ⟨ne', h2⟩
      · cases e
      · rw [List.getElem?_set_ne ne] at h3
        rw [List.getElem?_set_ne ne'] at h4
        exact st.dis j l o o' a h1 h2 h3 h4
theorem StR.setOwn (st : StR k F0 F H r s sw) {o : O} {p : Addr} (fp : F p) (f0 : ¬ F0 p) (np : p ∉ r) (ob : ObjR k F H r p o) (i : Nat) (ne0 : ∀ j o', i ≠ j → sw[j]? = some (some (.own o')) → s[j]? ≠ some (some (.ref p))) :
    StR k F0 F H r (s.set i (some (.ref p))) (sw.set i (some (.own o))) := by
  refine ⟨by simpa using st.len, fun j w' h => ?_, fun j o' h => ?_, fun j l o1 o2 a h1 h2 h3 h4 => ?_⟩
  · rcases set_get h with ⟨rfl, e, hl⟩ | ⟨ne, h⟩
    · cases e
    · obtain ⟨v', e, q⟩ := st.val j w' h
      exact ⟨v', by rw [List.getElem?_set_ne ne]; exact e, q⟩
  · rcases set_get h with ⟨rfl, e, hl⟩ | ⟨ne, h⟩
    · cases e
      exact ⟨p, List.getElem?_set_self (by rw [st.len]; exact hl), fp, f0, np, ob⟩
    · obtain ⟨a, e, q⟩ := st.own j o' h
      exact ⟨a, by rw [List.getElem?_set_ne ne]; exact e, q⟩
  · rcases set_get h1 with ⟨e, z, hl⟩ | ⟨ne, h1⟩
    · rcases set_get h2 with ⟨e', z', hl'⟩ | ⟨ne', h2⟩
      · rw [← e, ← e']
      · subst e
        rw [List.getElem?_set_self (by rw [st.len]; exact hl)] at h3
        cases h3
        rw [List.getElem?_set_ne ne'] at h4
        exact absurd h4 (ne0 l o2 ne' h2)
    · rcases set_get h2 with ⟨e', z', hl'⟩ | ⟨ne', h2⟩
      · subst e'
        rw [List.getElem?_set_self (by rw [st.len]; exact hl')] at h4
        cases h4
        rw [List.getElem?_set_ne ne] at h3
        exact absurd h3 (ne0 j o1 ne h1)
      · rw [List.getElem?_set_ne ne] at h3
        rw [List.getElem?_set_ne ne'] at h4
        exact st.dis j l o1 o2 a h1 h2 h3 h4
end
section
variable {X : Cx} {Wx : WX} {e : Expr} {st : Stmt} {rest : List Stmt} {pos : Pos}
def sNil : SM := fun sw S => .ok (.nx sw) S
def RS.then (r : RS) (n : SM) : RS := match r with
  | .ok (.nx sw) S => n sw S
  | r => r
def sSeq (m n : SM) : SM := fun sw S => (m sw S).then n
theorem iss_nil : ISs X Wx [] sNil := pss_imp pss_nil fun D s H ⟨F0, H0, r0, F, r, S, sw, x0, t, st, q⟩ => q F H r s x0 (Mv.refl _ _ _) t st
theorem seq_imp {k : Kw} {m n : SM} (D : Ends) (s : L2.St) (H : Hp) (h : tS k Wx (sSeq m n) D s H) : tSeq (tS k Wx m) (tS k Wx n) D s H := by
  obtain ⟨F0, H0, r0, F, r, S, sw, x0, t, st, q⟩ := h
  refine ⟨F0, H0, r0, F, r, S, sw, x0, t, st, ?_⟩
  unfold sSeq RS.then at q
  cases e : m sw S with
  | ok f S' =>
    rw [e] at q
    cases f with
    | nx sw' => exact fun F' H' r' s' x y t' st' => ⟨F0, H0, r0, F', r', S', sw', x, t', st', q.rebase y⟩
    | rt rv => exact q
    | bk sw' => exact q
    | ct sw' => exact q
  | exc c fs ws sw' S' =>
    rw [e] at q
    exact q
  | bad =>
    rw [e] at q
    exact q
theorem iss_cons {m n : SM} (h1 : IS X Wx st m) (h2 : ISs X Wx rest n) : ISs X Wx (st :: rest) (sSeq m n) := pss_imp (pss_cons h1 h2) seq_imp
theorem iss_one {m : SM} (h1 : IS X Wx st m) : ISs X Wx [st] m := pss_one h1
def sPass : SM := sNil
theorem is_pass : IS X Wx (.Pass pos) sPass := ps_imp ps_pass fun D s H ⟨F0, H0, r0, F, r, S, sw, x0, t, st, q⟩ => q F H r s x0 (Mv.refl _ _ _) t st
def sBreak : SM := fun sw S => .ok (.bk sw) S
def sCont : SM := fun sw S => .ok (.ct sw) S
theorem is_break : IS X Wx (.Break pos) sBreak := ps_imp ps_break fun D s H ⟨F0, H0, r0, F, r, S, sw, x0, t, st, q⟩ => q F H r s x0 (Mv.refl _ _ _) t st
theorem is_cont : IS X Wx (.Continue pos) sCont := ps_imp ps_continue fun D s H ⟨F0, H0, r0, F, r, S, sw, x0, t, st, q⟩ => q F H r s x0 (Mv.refl _ _ _) t st
def sDrop (m : EM) : SM := fun sw S => liftS (m sw S) sw fun _ S => .ok (.nx sw) S
theorem is_drop {m : EM} (h : IE X Wx e m) (hs : swapsWith e none pos.line X.env = pure false := by rfl) : IS X Wx (.Expr e pos) (sDrop m) := by
  refine ps_imp (ps_expr h hs) fun D s H ⟨F0, H0, r0, F, r, S, sw, x0, t, st, q⟩ => ?_
  exact tE_st x0 t st q fun w v F' H' r' S' x t' st' rv q => q F' H' r' s (x0.trans x) (Mv.refl _ _ _) t' st'
def sSet (i : Nat) (m : EM) : SM := fun sw S => liftS (m sw S) sw fun w S => .ok (.nx (sw.set i (some (.val w)))) S
theorem is_set {i : Nat} {x : Str} {pos' : Pos} {m : EM} (hN : X.N.Nodup) (hi : X.N[i]? = some x) (hx : Loc X.env.scope x) (h : IE X Wx e m) (hs : swapsWith e (some (.Name x pos')) pos.line X.env = pure false := by rfl) (hf : X.fn x = true ∨ X.env.scope.names.lookup x = some .local := by first | exact .inl rfl | exact .inr rfl | assumption) :
    IS X Wx (.Assign [.Name x pos'] e pos) (sSet i m) := by
  refine ps_imp (ps_set hN hi hx h hs hf) fun D s H ⟨F0, H0, r0, F, r, S, sw, x0, t, st, q⟩ => ?_
  exact tE_st x0 t st q fun w v F' H' r' S' x t' st' rv q => q F' H' r' _ (x0.trans x) (Mv.refl _ _ _) t' (st'.setVal rv i)
def sSetO (i : Nat) (m : FM) : SM := fun sw S => liftS (m sw S) sw fun o S => .ok (.nx (sw.set i (some (.own o)))) S
theorem fresh_f0 {k : Kw} {F0 F : FS} {H H0 : Hp} {r r0 : List Addr} {S : Store} {p : Addr} (x0 : Ext F0 H0 r0 F H r) (t : Sto k F H r S) (hp : H p = none) : ¬ F0 p := fun f => t.trk p (x0.sub p f) hp
theorem fresh_slot {k : Kw} {F0 F : FS} {H : Hp} {r : List Addr} {s : L2.St} {sw : SW} {S : Store} {p : Addr} (t : Sto k F H r S) (st : StR k F0 F H r s sw) (hp : H p = none) : ∀ (j : Nat) (o' : O), sw[j]? = some (some (.own o')) → s[j]? ≠ some (some (.ref p)) := fun j o' h q => by
  obtain ⟨a, e, f, _⟩ := st.own j o' h
  rw [e] at q
  cases q
  exact t.trk _ f hp
theorem setO_imp {k : Kw} {i : Nat} {m : FM} (D : Ends) (s : L2.St) (H : Hp) (h : tS k Wx (sSetO i m) D s H) : tAsg (tF k Wx m) (gName i) D s H := by
  obtain ⟨F0, H0, r0, F, r, S, sw, x0, t, st, q⟩ := h
  exact tF_st x0 t st q fun o p F' H' r' S' x t' st' hp fp np ob q => q F' H' r' _ (x0.trans x) (Mv.refl _ _ _) t' (st'.setOwn fp (fresh_f0 x0 t hp) np ob i fun j o' _ h => fresh_slot t st hp j o' h)
theorem is_setO {i : Nat} {x : Str} {pos' : Pos} {m : FM} (hN : X.N.Nodup) (hi : X.N[i]? = some x) (hx : Loc X.env.scope x) (h : IF X Wx e m) (hs : swapsWith e (some (.Name x pos')) pos.line X.env = pure false := by rfl) (hf : X.fn x = true ∨ X.env.scope.names.lookup x = some .local := by first | exact .inl rfl | exact .inr rfl | assumption) :
    IS X Wx (.Assign [.Name x pos'] e pos) (sSetO i m) := ps_imp (ps_set hN hi hx h hs hf) setO_imp
/-- a new object goes into the store -/
def eNew (m : FM) : EM := fun sw S => (m sw S).bind fun o S => .ok (.loc S.length) (S ++ [o])
theorem ie_new {m : FM} (h : IF X Wx e m) : IE X Wx e (eNew m) := by
  refine pe_imp h fun s H Q ⟨F0, F, r, S, sw, t, st, q⟩ => ?_
  refine tF_bind t st q fun o p F' H' r' S' x t' st' hp fp np ob q => ?_
  have mvv : Mv F' H' r' F' H' (r' ++ [p]) := ⟨fun _ _ h _ => h, fun _ _ n => n, ⟨[p], rfl⟩⟩
  obtain ⟨more, e1, hm⟩ := x.pre
  refine q F' H' (r' ++ [p]) ⟨x.sub, x.new, ⟨more ++ [p], by rw [e1, List.append_assoc], fun a ha => ?_⟩, x.kp, x.dom⟩ ⟨by simp [t'.len], ?_, fun a ha => ?_, t'.trk, fun n ob' a h1 h2 => ?_⟩ (.ref p) ⟨p, ?_, rfl⟩
  · rcases List.mem_append.mp ha with ha | ha
    · exact hm a ha
    · rw [List.mem_singleton.mp ha]
      exact hp
  · rw [List.nodup_append]
    exact ⟨t'.nd, by simp, fun a ha b hb e => np (by rw [← List.mem_singleton.mp hb, ← e]; exact ha)⟩
  · rcases List.mem_append.mp ha with ha | ha
    · exact t'.inF a ha
    · rw [List.mem_singleton.mp ha]
      exact fp
  · by_cases hn : n < S'.length
    · rw [List.getElem?_append_left hn] at h1
      rw [List.getElem?_append_left (by rw [t'.len]; exact hn)] at h2
      exact (t'.obj n ob' a h1 h2).mv mvv fun _ h => h
    · rw [List.getElem?_append_right (by omega)] at h1
      rw [List.getElem?_append_right (by rw [t'.len]; omega)] at h2
      have e0 : n - S'.length = 0 := by
        by_cases e0 : n - S'.length = 0
        · exact e0
        · rw [List.getElem?_eq_none (by simp; omega)] at h1
          cases h1
      rw [t'.len, e0] at h2
      rw [e0] at h1
      cases h1
      cases h2
      exact ob.mv mvv fun _ h => h
  · rw [List.getElem?_append_right (by rw [t'.len]; exact Nat.le_refl _), t'.len, Nat.sub_self]
    rfl
/-! ### return -/
def sRet (m : EM) : SM := fun sw S => liftS (m sw S) sw fun w S => .ok (.rt (.val w)) S
theorem is_ret {m : EM} (h : IE X Wx e m) : IS X Wx (.Return (some e) pos) (sRet m) := by
  refine ps_imp (ps_ret h) fun D s H ⟨F0, H0, r0, F, r, S, sw, x0, t, st, q⟩ => ?_
  exact tE_st x0 t st q fun w v F' H' r' S' x t' st' rv q => q F' H' r' (x0.trans x) t' v rv
def sRetF (m : FM) : SM := fun sw S => liftS (m sw S) sw fun o S => .ok (.rt (.fr o)) S
theorem is_retF {m : FM} (h : IF X Wx e m) : IS X Wx (.Return (some e) pos) (sRetF m) := by
  refine ps_imp (ps_ret h) fun D s H ⟨F0, H0, r0, F, r, S, sw, x0, t, st, q⟩ => ?_
  exact tF_st x0 t st q fun o p F' H' r' S' x t' st' hp fp np ob q => q F' H' r' (x0.trans x) t' p (fresh_f0 x0 t hp) fp np ob
def sRetO (i : Nat) : SM := fun sw S => match sw[i]? with
  | some (some (.own o)) => .ok (.rt (.fr o)) S
  | _ => .bad
theorem is_retO {i : Nat} (h : PE X e (tVar i)) : IS X Wx (.Return (some e) pos) (sRetO i) := by
  refine ps_imp (ps_ret h) fun D s H ⟨F0, H0, r0, F, r, S, sw, x0, t, st, q⟩ => ?_
  unfold sRetO at q
  split at q
  · rename_i o e1
    obtain ⟨a, e2, fa, n0, na, ob⟩ := st.own i o e1
    exact ⟨.ref a, e2, q F H r x0 t a n0 fa na ob⟩
  · exact q.elim
def sRetN : SM := fun _ S => .ok (.rt (.val .non)) S
theorem is_retN : IS X Wx (.Return none pos) sRetN := ps_imp ps_retN fun D s H ⟨F0, H0, r0, F, r, S, sw, x0, t, st, q⟩ => q F H r x0 t .non rfl
/-! ### if -/
def sIf (c : TM) (a b : SM) : SM := fun sw S => liftS (c sw S) sw fun c S => if c then a sw S else b sw S
theorem is_if {c : Expr} {a b : List Stmt} {mc : TM} {ma mb : SM} (hc : IT X Wx c mc) (ha : ISs X Wx a ma) (hb : ISs X Wx b mb) : IS X Wx (.If c a b pos) (sIf mc ma mb) := by
  refine ps_imp (ps_if hc ha hb) fun D s H ⟨F0, H0, r0, F, r, S, sw, x0, t, st, q⟩ => ?_
  refine tT_st x0 t st q fun c F' H' r' S' x t' st' q => ?_
  cases c with
  | true => exact ⟨F0, H0, r0, F', r', S', sw, x0.trans x, t', st', q⟩
  | false => exact ⟨F0, H0, r0, F', r', S', sw, x0.trans x, t', st', q⟩
end
/-! ### a def -/
def startW (n : Nat) (ws : List W) : SW := ws.map (fun w => some (.val w)) ++ List.replicate (n - ws.length) none
def fBody (n : Nat) (b : SM) : List W → Store → Res RV := fun ws S => match b (startW n ws) S with
  | .ok (.rt r) S' => .ok r S'
  | .ok (.nx _) S' => .ok (.val .non) S'
  | .exc c fs vs _ S' => .exc c fs vs S'
  | _ => .bad
def spOf (k : Kw) (n : Nat) (f : List W → Store → Res RV) : Sp := fun vs H Q E => vs.length = n ∧ ∃ F rho S ws, Sto k F H rho S ∧ RepL k F H rho ws vs ∧ Run k (fun c d _ H => E c d H) [] F H rho (f ws S) (pR k F Q)
theorem startR {k : Kw} {F : FS} {H : Hp} {r : List Addr} {N : List Str} {ws : List W} {vs : List V} (l : RepL k F H r ws vs) : StR k F F H r (L2.start N vs) (startW N.length ws) := by
  have hl := l.length
  have get : ∀ (ws : List W) (vs : List V), RepL k F H r ws vs → ∀ (i : Nat) (w : W), ws[i]? = some w → ∃ v, vs[i]? = some v ∧ RepV k F H r w v := by
    intro ws
    induction ws with
    | nil =>
      intro vs _ i w h
      simp at h
    | cons w0 ws ih =>
      intro vs l i w h
      obtain ⟨v, vs', rfl, h1, h2⟩ := l
      cases i with
      | zero =>
        simp at h
        subst h
        exact ⟨v, by simp, h1⟩
      | succ i =>
        obtain ⟨v', e, q⟩ := ih vs' h2 i w (by simpa using h)
        exact ⟨v', by simpa using e, q⟩
  have val : ∀ (i : Nat) (q : Sl), (startW N.length ws)[i]? = some (some q) → ∃ w, q = .val w ∧ ws[i]? = some w := by
    intro i q h
    unfold startW at h
    by_cases hi : i < ws.length
    · rw [List.getElem?_append_left (by simpa using hi), List.getElem?_map] at h
      cases e : ws[i]? with
      | none =>
        rw [e] at h
        cases h
      | some w =>
        rw [e] at h
        cases h
        exact ⟨w, rfl, rfl⟩
    · rw [List.getElem?_append_right (by simpa using hi), List.getElem?_replicate] at h
      split at h <;> cases h
  refine ⟨by simp [L2.start, startW, hl], fun i w h => ?_, fun i o h => ?_, fun i j o o' a h => ?_⟩
  · obtain ⟨w', e, hw⟩ := val i _ h
    cases e
    obtain ⟨v, e, q⟩ := get ws vs l i w hw
    refine ⟨v, ?_, q⟩
    unfold L2.start
    rw [List.getElem?_append_left (by rw [List.length_map]; exact (List.getElem?_eq_some_iff.mp e).1), List.getElem?_map, e]
    rfl
  · obtain ⟨w', e, _⟩ := val i _ h
    cases e
  · obtain ⟨w', e, _⟩ := val i _ h
    cases e
section
variable {P : Program} {w : World} {K : PySem.W.Frag} {mg : Str → Option Value} {base : Heap}
theorem fn_ok {x qual : Str} {st : Stmt} {f : Addr} {fd : FuncData} {N ps : List Str} {n : Nat} {b : SM} (F : Fun K x qual st f fd) (S : FnScope N ps (defScope st))
    (hb : ∀ (cdv : Value) (A : Around) (outer : List Env) (s : Shared) (H : Hp) (E : XK), Room n (A.deeper (envOfC qual (defScope st) s.heap.objs.size f cdv)) →
      Takes (cxOf (L2.CX P w) P w K mg base N qual (defScope st) f cdv A outer s H E) (fun c d _ H => E c d H) →
      PassesOwn (model P w) (A.deeper (envOfC qual (defScope st) s.heap.objs.size f cdv)) (envOfC qual (defScope st) s.heap.objs.size f cdv) (cxOf (L2.CX P w) P w K mg base N qual (defScope st) f cdv A outer s H E).xe →
      ISs (cxOf (L2.CX P w) P w K mg base N qual (defScope st) f cdv A outer s H E) (fun c d _ H => E c d H) (defBody st) b) :
    FnOk P w K mg base (L2.CX P w) (n + 1) f fd ps (spOf ⟨K, w⟩ ps.length (fBody N.length b)) := by
  refine F.okX S (fun vs H Q E h => h.1) fun cdv A outer s H vs Q E hr h => ⟨_, hb cdv A outer s H E hr (takes_of rfl rfl rfl rfl) (passes_of rfl), ?_⟩
  obtain ⟨hl, F, r, S, ws, t, l, q⟩ := h
  refine ⟨F, H, r, F, r, S, startW N.length ws, Ext.refl _ _ _, t, startR l, ?_⟩
  unfold fBody at q
  cases e : b (startW N.length ws) S with
  | ok fl S' =>
    rw [e] at q
    cases fl with
    | nx sw => exact fun F' H' r' s' x _ t' _ => q F' H' r' x t' .non rfl
    | rt rv => exact fun F' H' r' x t' => q F' H' r' x t'
    | bk sw => exact q.elim
    | ct sw => exact q.elim
  | exc c fs vs' sw S' =>
    rw [e] at q
    exact fun d vs F' H' r' s' x _ t' _ ed l => q d vs F' H' r' x t' ed l
  | bad =>
    rw [e] at q
    exact q
end
/-! ### a call of a def -/
def rvW (r : RV) (S : Store) : Res W := match r with
  | .val w => .ok w S
  | .fr o => if isIns o then .bad else .ok (frz o) S
def rvO (r : RV) (S : Store) : Res O := match r with
  | .val _ => .bad
  | .fr o => .ok o S
def eCall (f : List W → Store → Res RV) (a : AM) : EM := fun sw S => (a sw S).bind fun ws S => (f ws S).bind rvW
def fCall (f : List W → Store → Res RV) (a : AM) : FM := fun sw S => (a sw S).bind fun ws S => (f ws S).bind rvO
section
variable {X : Cx} {Wx : WX} {e : Expr} {es : List Expr} {x : Str} {p pos : Pos}
theorem call_run {k : Kw} {f : List W → Store → Res RV} {F0 F : FS} {H : Hp} {r : List Addr} {s : L2.St} {sw : SW} {S : Store} {ws : List W} {vs : List V} {n : Nat} {Q : VK} (t : Sto k F H r S) (l : RepL k F H r ws vs) (hn : ws.length = n)
    (q : Run k Wx s F H r ((f ws S).bind rvW) (pV k Q)) : spOf k n f vs H Q (WE Wx s) := by
  refine ⟨by rw [← l.length, hn], F, r, S, ws, t, l, ?_⟩
  cases e : f ws S with
  | ok rv S' =>
    rw [e] at q
    cases rv with
    | val w => exact q
    | fr o =>
      refine fun F' H' r' x t' p f0 fp np ob => ?_
      have hp : H p = none := x.new p fp f0
      cases o with
      | lst ws =>
        obtain ⟨vs, e1, l⟩ := ob
        exact q (fun a => F' a ∧ a ≠ p) H' r' (x.drop hp t) (t'.drop np) (.ref p) ⟨p, vs, rfl, ⟨e1, fun z => z.2 rfl⟩, RepL.mv Mv.drop _ _ l⟩
      | dct ks ws =>
        obtain ⟨es, e1, l1, l2, hh⟩ := ob
        exact q (fun a => F' a ∧ a ≠ p) H' r' (x.drop hp t) (t'.drop np) (.ref p) ⟨p, es, rfl, fun z => z.2 rfl, e1, RepL.mv Mv.drop _ _ l1, RepL.mv Mv.drop _ _ l2, hh⟩
      | ins c fs => exact q.elim
  | exc c fs vs' S' =>
    rw [e] at q
    exact q
  | bad =>
    rw [e] at q
    exact q
theorem callF_run {k : Kw} {f : List W → Store → Res RV} {F : FS} {H H1 : Hp} {r : List Addr} {s : L2.St} {S : Store} {ws : List W} {vs : List V} {n : Nat} {Q : VK} (t : Sto k F H r S) (l : RepL k F H r ws vs) (hn : ws.length = n) (hH : ∀ p, H p = none → H1 p = none)
    (q : Run k Wx s F H r ((f ws S).bind rvO) (pF k H1 Q)) : spOf k n f vs H Q (WE Wx s) := by
  refine ⟨by rw [← l.length, hn], F, r, S, ws, t, l, ?_⟩
  cases e : f ws S with
  | ok rv S' =>
    rw [e] at q
    cases rv with
    | val w => exact q.elim
    | fr o => exact fun F' H' r' x t' p f0 fp np ob => q F' H' r' x t' p (hH p (x.new p fp f0)) fp np ob
  | exc c fs vs' S' =>
    rw [e] at q
    exact q
  | bad =>
    rw [e] at q
    exact q
variable {k : Nat} {f : Addr} {fd : FuncData} {ps : List Str} {fm : List W → Store → Res RV}
/-- the arguments are as many as the parameters -/
def AmLen (a : AM) (n : Nat) : Prop := ∀ sw S ws S', a sw S = .ok ws S' → ws.length = n
theorem am_nil : AmLen aNil 0 := fun sw S ws S' h => by
  cases h
  rfl
theorem am_cons {m : EM} {a : AM} {n : Nat} (h : AmLen a n) : AmLen (aCons m a) (n + 1) := fun sw S ws S' q => by
  unfold aCons at q
  cases e : m sw S with
  | ok w S1 =>
    rw [e] at q
    have q : (a sw S1).bind (fun ws S => .ok (w :: ws) S) = .ok ws S' := q
    cases e2 : a sw S1 with
    | ok ws1 S2 =>
      rw [e2] at q
      have q : Res.ok (w :: ws1) S2 = Res.ok ws S' := q
      injection q with q1 q2
      rw [← q1, List.length_cons, h sw S1 ws1 S2 e2]
    | exc c fs vs S2 =>
      rw [e2] at q
      cases q
    | bad =>
      rw [e2] at q
      cases q
  | exc c fs vs S2 =>
    rw [e] at q
    cases q
  | bad =>
    rw [e] at q
    cases q
theorem tA_bindL {k : Kw} {s : L2.St} {sw : SW} {F0 F : FS} {H : Hp} {r : List Addr} {S : Store} {m : AM} {n : Nat} (hn : AmLen m n) {A : Type} {f : List W → Store → Res A} {P : A → FS → Hp → List Addr → Prop} {Q : List V → Hp → Prop} (t : Sto k F H r S) (st : StR k F0 F H r s sw) (h : Run k Wx s F H r ((m sw S).bind f) P)
    (g : ∀ w v F' H' r' S', w.length = n → Ext F H r F' H' r' → Sto k F' H' r' S' → StR k F0 F' H' r' s sw → RepL k F' H' r' w v → Run k Wx s F' H' r' (f w S') P → Q v H') : tA k Wx m s H Q := by
  refine ⟨F0, F, r, S, sw, t, st, ?_⟩
  cases e : m sw S with
  | ok w S' =>
    rw [e] at h
    exact fun F' H' r' x t' v rv => g w v F' H' r' S' (hn sw S w S' e) x t' (st.ext x t) rv (Run.shift x h)
  | exc c fs ws S' =>
    rw [e] at h
    exact h
  | bad =>
    rw [e] at h
    exact h
theorem ie_call {a : AM} (tk : Takes X Wx) (G : FnOk X.prog X.w X.K X.mg X.base (L2.CX X.prog X.w) k f fd ps (spOf (kw X) ps.length fm)) (hr : Room k X.A) (hg : Gl X x) (hm : X.mg x = some (.ref f)) (hk : PySem.W.keepIn X.K (.ref f) = true) (hb : Binds X.K fd ps [])
    (hn : AmLen a ps.length) (ha : IA X Wx (e :: es) a) (hdb : (x == ("__debug__" : Str)) = false := by decide) (he : starEach (e :: es) X.env = (false, eval e X.env) :: starEach es X.env := by rfl) (hpl : (backTo pos (starEach es X.env)).any (·.1) = false := by rfl) :
    IE X Wx (.Call (.Name x p) (e :: es) [] pos) (eCall fm a) := by
  refine pe_imp (pe_callSD (dvs := []) (E := WE Wx) G hr hg hm hk hb .nil (fun σ => passAt tk σ) ha hdb he hpl) fun s H Q ⟨F0, F, r, S, sw, t, st, q⟩ => ?_
  refine tA_bindL hn t st q fun ws vs F' H' r' S' hl x t' st' l q => ?_
  rw [List.append_nil]
  exact call_run (F0 := F0) (sw := sw) t' l hl q
theorem if_call {a : AM} (tk : Takes X Wx) (G : FnOk X.prog X.w X.K X.mg X.base (L2.CX X.prog X.w) k f fd ps (spOf (kw X) ps.length fm)) (hr : Room k X.A) (hg : Gl X x) (hm : X.mg x = some (.ref f)) (hk : PySem.W.keepIn X.K (.ref f) = true) (hb : Binds X.K fd ps [])
    (hn : AmLen a ps.length) (ha : IA X Wx (e :: es) a) (hdb : (x == ("__debug__" : Str)) = false := by decide) (he : starEach (e :: es) X.env = (false, eval e X.env) :: starEach es X.env := by rfl) (hpl : (backTo pos (starEach es X.env)).any (·.1) = false := by rfl) :
    IF X Wx (.Call (.Name x p) (e :: es) [] pos) (fCall fm a) := by
  refine pe_imp (pe_callSD (dvs := []) (E := WE Wx) G hr hg hm hk hb .nil (fun σ => passAt tk σ) ha hdb he hpl) fun s H Q ⟨F0, F, r, S, sw, t, st, q⟩ => ?_
  refine tA_bindL hn t st q fun ws vs F' H' r' S' hl x t' st' l q => ?_
  rw [List.append_nil]
  refine callF_run t' l hl (fun p hp => ?_) q
  cases e : H p with
  | none => rfl
  | some o => exact absurd hp (x.dom p (by rw [e]; simp))
end
end ML
set_option Elab.async false
set_option linter.all false
set_option maxRecDepth 100000
set_option maxHeartbeats 4000000
namespace ML
open PySem PySem.Spec PyProof.Rows L2

/-! ### the items of a list, wherever it stands -/
def cont (sw : SW) (S : Store) : W → Option (List W)
  | .lst ws => some ws
  | .loc n => match S[n]? with
    | some (.lst ws) => some ws
    | _ => none
  | .brw i => match sw[i]? with
    | some (some (.own (.lst ws))) => some ws
    | _ => none
  | _ => none
section
variable {k : Kw} {Wx : WX} {s : L2.St} {sw : SW} {F0 F : FS} {H : Hp} {r : List Addr} {S : Store} {w : W} {v : V} {ws : List W}
theorem cont_rep (t : Sto k F H r S) (st : StR k F0 F H r s sw) (b : RepB k F H r s sw w v) (h : cont sw S w = some ws) : ∃ a vs, v = .ref a ∧ H a = some (.lst vs) ∧ RepL k F H r ws vs := by
  cases w with
  | lst l =>
    cases h
    obtain ⟨a, vs, e, l1, l2⟩ := b
    exact ⟨a, vs, e, l1.1, l2⟩
  | loc n =>
    obtain ⟨a, e1, e2⟩ := b
    have h : (match S[n]? with
      | some (.lst ws) => some ws
      | _ => none) = some ws := h
    cases e : S[n]? with
    | none =>
      rw [e] at h
      cases h
    | some o =>
      rw [e] at h
      cases o with
      | lst l =>
        cases h
        obtain ⟨vs, q1, q2⟩ := t.obj n _ a e e1
        exact ⟨a, vs, e2, q1, q2⟩
      | dct _ _ => cases h
      | ins _ _ => cases h
  | brw i =>
    obtain ⟨⟨o, e1⟩, e2⟩ := b
    have h : (match sw[i]? with
      | some (some (.own (.lst ws))) => some ws
      | _ => none) = some ws := h
    rw [e1] at h
    cases o with
    | lst l =>
      cases h
      obtain ⟨a, q1, _, _, _, vs, q2, q3⟩ := st.own i _ e1
      rw [e2] at q1
      cases q1
      exact ⟨a, vs, rfl, q2, q3⟩
    | dct _ _ => cases h
    | ins _ _ => cases h
  | _ => cases h
theorem tup_rep (b : RepV k F H r (.tup ws) v) : ∃ a vs, v = .ref a ∧ SqT k.K H a vs ∧ RepL k F H r ws vs := by
  obtain ⟨a, vs, e, q, l⟩ := b
  refine ⟨a, vs, e, ?_, l⟩
  rcases q with ⟨q, _⟩ | q
  · exact .inl (.inl q)
  · exact .inr q
theorem RepL.get : ∀ {ws : List W} {vs : List V} {i : Nat} {w : W}, RepL k F H r ws vs → ws[i]? = some w → ∃ v, vs[i]? = some v ∧ RepV k F H r w v
  | [], _, _, _, _, h => by simp at h
  | w0 :: ws, _, i, w, l, h => by
    obtain ⟨v, vs', rfl, h1, h2⟩ := l
    cases i with
    | zero =>
      simp at h
      subst h
      exact ⟨v, by simp, h1⟩
    | succ i =>
      obtain ⟨v', e, q⟩ := RepL.get (i := i) h2 (by simpa using h)
      exact ⟨v', by simpa using e, q⟩
theorem RepL.app : ∀ {ws ys : List W} {vs us : List V}, RepL k F H r ws vs → RepL k F H r ys us → RepL k F H r (ws ++ ys) (vs ++ us)
  | [], _, _, _, h, q => by
    cases h
    exact q
  | w0 :: ws, ys, _, us, l, q => by
    obtain ⟨v, vs', rfl, h1, h2⟩ := l
    exact ⟨v, vs' ++ us, rfl, h1, RepL.app h2 q⟩
theorem RepL.take : ∀ {ws : List W} {vs : List V} (n : Nat), RepL k F H r ws vs → RepL k F H r (ws.take n) (vs.take n)
  | _, _, 0, _ => rfl
  | [], _, n + 1, h => by
    cases h
    exact rfl
  | w0 :: ws, _, n + 1, l => by
    obtain ⟨v, vs', rfl, h1, h2⟩ := l
    exact ⟨v, vs'.take n, rfl, h1, RepL.take n h2⟩
theorem RepL.drop : ∀ {ws : List W} {vs : List V} (n : Nat), RepL k F H r ws vs → RepL k F H r (ws.drop n) (vs.drop n)
  | _, _, 0, h => h
  | [], _, n + 1, h => by
    cases h
    exact rfl
  | w0 :: ws, _, n + 1, l => by
    obtain ⟨v, vs', rfl, h1, h2⟩ := l
    exact RepL.drop n h2
theorem RepL.set : ∀ {ws : List W} {vs : List V} (i : Nat) {w : W} {v : V}, RepL k F H r ws vs → RepV k F H r w v → RepL k F H r (ws.set i w) (vs.set i v)
  | [], _, _, _, _, h, _ => by
    cases h
    exact rfl
  | w0 :: ws, _, 0, w, v, l, q => by
    obtain ⟨v', vs', rfl, h1, h2⟩ := l
    exact ⟨v, vs', rfl, q, h2⟩
  | w0 :: ws, _, i + 1, w, v, l, q => by
    obtain ⟨v', vs', rfl, h1, h2⟩ := l
    exact ⟨v', vs'.set i v, rfl, h1, RepL.set i h2 q⟩
theorem RepL.atI {i : Int} {vs : List V} (l : RepL k F H r ws vs) (h : atI ws i = some w) : ∃ v, L2.atI vs i = some v ∧ RepV k F H r w v := by
  unfold L2.atI at h ⊢
  rw [← l.length]
  cases e : ixN ws.length i with
  | none =>
    rw [e] at h
    cases h
  | some j =>
    rw [e] at h
    exact l.get h
end
/-! ### ints -/
section
variable {X : Cx} {Wx : WX}
def opI (C : Int → Int → Bool) (g : Int → Int → W) : F2 := fun _ x y S => match x, y with
  | .int i, .int j => if C i j then .ok (g i j) S else .bad
  | _, _ => .bad
theorem sp_rI {C : Int → Int → Prop} {C' : Int → Int → Bool} {g : Int → Int → V} {g' : Int → Int → W} {k : Kw} (hC : ∀ i j, C' i j = true → C i j) (hg : ∀ i j F H r, RepV k F H r (g' i j) (g i j)) : Sp2 k (rI C g) (opI C' g') := by
  intro F0 F H rho S s sw x y v u Wx Q t st bx hy q
  unfold opI at q
  split at q
  · rename_i i j
    split at q
    · rename_i hc
      exact ⟨i, j, bx, hy, hC i j hc, q.ok t _ (hg i j _ _ _)⟩
    · exact q.elim
  · exact q.elim
theorem sp_rI0 {g : Int → Int → V} {g' : Int → Int → W} {k : Kw} (hg : ∀ i j F H r, RepV k F H r (g' i j) (g i j)) : Sp2 k (rI0 g) (opI (fun _ _ => true) g') := by
  intro F0 F H rho S s sw x y v u Wx Q t st bx hy q
  unfold opI at q
  split at q
  · rename_i i j
    exact ⟨i, j, bx, hy, q.ok t _ (hg i j _ _ _)⟩
  · exact q.elim
abbrev opSub : F2 := opI (fun _ _ => true) fun i j => .int (i - j)
theorem sp_sub {k : Kw} : Sp2 k (rI0 fun i j => .int (i - j)) opSub := sp_rI0 fun _ _ _ _ _ => rfl
abbrev opLt : F2 := opI (fun _ _ => true) fun i j => .bl (decide (i < j))
abbrev opLe : F2 := opI (fun _ _ => true) fun i j => .bl (decide (i ≤ j))
abbrev opGt : F2 := opI (fun _ _ => true) fun i j => .bl (decide (j < i))
abbrev opGe : F2 := opI (fun _ _ => true) fun i j => .bl (decide (j ≤ i))
theorem sp_lt {k : Kw} : Sp2 k (rI0 fun i j => .bl (decide (i < j))) opLt := sp_rI0 fun _ _ _ _ _ => rfl
theorem sp_le {k : Kw} : Sp2 k (rI0 fun i j => .bl (decide (i ≤ j))) opLe := sp_rI0 fun _ _ _ _ _ => rfl
theorem sp_gt {k : Kw} : Sp2 k (rI0 fun i j => .bl (decide (j < i))) opGt := sp_rI0 fun _ _ _ _ _ => rfl
theorem sp_ge {k : Kw} : Sp2 k (rI0 fun i j => .bl (decide (j ≤ i))) opGe := sp_rI0 fun _ _ _ _ _ => rfl
def small64 (i : Int) : Bool := decide (-(2 ^ 64) < i) && decide (i < 2 ^ 64)
abbrev opMul : F2 := opI (fun i j => small64 i || small64 j) fun i j => .int (i * j)
theorem sp_mul {k : Kw} : Sp2 k (rI CMul fun i j => .int (i * j)) opMul := sp_rI (fun i j h => by
  unfold CMul
  unfold small64 at h
  simp only [Bool.or_eq_true, Bool.and_eq_true, decide_eq_true_eq] at h
  exact h) fun _ _ _ _ _ => rfl
abbrev opMod : F2 := opI (fun _ j => decide (0 < j)) fun i j => .int (i % j)
theorem sp_mod {k : Kw} : Sp2 k (rI (fun _ j => 0 < j) fun i j => .int (i % j)) opMod := sp_rI (fun i j h => of_decide_eq_true h) fun _ _ _ _ _ => rfl
abbrev opFdiv : F2 := opI (fun _ j => decide (0 < j) && decide (j < 1073741824)) fun i j => .int (i / j)
theorem sp_fdiv {k : Kw} : Sp2 k (rI CDiv fun i j => .int (i / j)) opFdiv := sp_rI (fun i j h => by
  simp only [Bool.and_eq_true, decide_eq_true_eq] at h
  exact h) fun _ _ _ _ _ => rfl
def CPowB (i j : Int) : Prop := 0 ≤ j ∧ (Builtin.Int.intBits i : Int) * j ≤ 2 ^ 27
theorem op_powB : OpR X (binaryOp .Pow) (rI CPowB fun i j => .int (i ^ j.toNat)) := L2.opI fun _ _ _ _ _ _ _ hc q => pow_int hc.1 hc.2 q
abbrev opPow : F2 := opI (fun i j => decide (0 ≤ j) && decide ((Builtin.Int.intBits i : Int) * j ≤ 2 ^ 27)) fun i j => .int (i ^ j.toNat)
theorem sp_pow {k : Kw} : Sp2 k (rI CPowB fun i j => .int (i ^ j.toNat)) opPow := sp_rI (fun i j h => by
  simp only [Bool.and_eq_true, decide_eq_true_eq] at h
  exact h) fun _ _ _ _ _ => rfl
def opNeg : F1 := fun _ x S => match x with
  | .int i => .ok (.int (-i)) S
  | _ => .bad
theorem ie_neg {a : Expr} {pos : Pos} {m : EM} (ha : IB X Wx a m) : IE X Wx (.UnaryOp .USub a pos) (eOp1 opNeg m) := by
  refine pe_imp (pe_un un_neg ha) fun s H Q h => op1_imp (r := fun v H Q => ∃ i, v = .int i ∧ Q (.int (-i)) H) ?_ s H Q h
  intro F0 F H rho S s sw x v Wx Q t st bx q
  cases x with
  | int i => exact ⟨i, bx, q.ok t _ rfl⟩
  | _ => exact q.elim
/-! ### a + b -/
def opAdd : F2 := fun sw x y S => match x, y with
  | .int i, .int j => .ok (.int (i + j)) S
  | .str i, .str j => if i.length + j.length ≤ sizeLine then .ok (.str (i ++ j)) S else .bad
  | .tup xs, .tup ys => if xs.length + ys.length ≤ sizeLine then .ok (.tup (xs ++ ys)) S else .bad
  | x, y => match cont sw S x, cont sw S y with
    | some xs, some ys => if xs.length + ys.length ≤ sizeLine then .ok (.lst (xs ++ ys)) S else .bad
    | _, _ => .bad
def rAdd4 (K : PySem.W.Frag) : R2 := fun x y H Q => rI0 (fun i j => .int (i + j)) x y H Q ∨ (∃ i j, x = .str i ∧ y = .str j ∧ i.length + j.length ≤ sizeLine ∧ Q (.str (i ++ j)) H) ∨ rCatA K x y H Q ∨ rCat x y H Q
theorem op_add4 : OpR X (binaryOp .Add) (rAdd4 X.K) := op_add.or (op_add_str.or (op_catA.or op_cat))
theorem add_lst {k : Kw} {F0 F : FS} {H : Hp} {r : List Addr} {S : Store} {s : L2.St} {sw : SW} {x y : W} {v u : V} {Wx : WX} {Q : VK} (t : Sto k F H r S) (st : StR k F0 F H r s sw) (bx : RepB k F H r s sw x v) (hy : RepB k F H r s sw y u)
    (q : Run k Wx s F H r (match cont sw S x, cont sw S y with
    | some xs, some ys => if xs.length + ys.length ≤ sizeLine then .ok (.lst (xs ++ ys)) S else .bad
    | _, _ => .bad) (pV k Q)) : rCat v u H Q := by
  cases e1 : cont sw S x with
  | none =>
    rw [e1] at q
    exact q.elim
  | some xs =>
    cases e2 : cont sw S y with
    | none =>
      rw [e1, e2] at q
      exact q.elim
    | some ys =>
      rw [e1, e2] at q
      have q : Run k Wx s F H r (if xs.length + ys.length ≤ sizeLine then .ok (.lst (xs ++ ys)) S else .bad) (pV k Q) := q
      split at q
      · rename_i hl
        obtain ⟨a, vs, rfl, ha, la⟩ := cont_rep t st bx e1
        obtain ⟨b, us, rfl, hb, lb⟩ := cont_rep t st hy e2
        refine ⟨a, b, vs, us, rfl, rfl, ha, hb, by rw [← la.length, ← lb.length]; exact hl, fun p hp => ?_⟩
        exact q F _ r (Ext.new1 hp) (t.new1 hp) (.ref p) ⟨p, vs ++ us, rfl, ⟨upd_same, t.free hp⟩, RepL.mv ((Ext.new1 hp).mv t.inF) _ _ (la.app lb)⟩
      · exact q.elim
theorem sp_add {k : Kw} : Sp2 k (rAdd4 k.K) opAdd := by
  intro F0 F H rho S s sw x y v u Wx Q t st bx hy q
  unfold opAdd at q
  split at q
  · exact .inl ⟨_, _, bx, hy, q.ok t _ rfl⟩
  · split at q
    · rename_i hl
      exact .inr (.inl ⟨_, _, bx, hy, hl, q.ok t _ rfl⟩)
    · exact q.elim
  · rename_i xs ys
    split at q
    · rename_i hl
      obtain ⟨a, vs, rfl, ha, la⟩ := tup_rep bx
      obtain ⟨b, us, rfl, hb, lb⟩ := tup_rep hy
      refine .inr (.inr (.inl ⟨a, b, vs, us, rfl, rfl, ha, hb, by rw [← la.length, ← lb.length]; exact hl, fun e => ?_, fun _ e => ?_, fun _ _ p hp => ?_⟩))
      · subst e
        have e : xs = [] := List.eq_nil_of_length_eq_zero (by rw [la.length]; rfl)
        subst e
        exact q.ok t _ hy
      · subst e
        have e : ys = [] := List.eq_nil_of_length_eq_zero (by rw [lb.length]; rfl)
        subst e
        rw [List.append_nil] at q
        exact q.ok t _ bx
      · exact q F _ rho (Ext.new1 hp) (t.new1 hp) (.ref p) ⟨p, vs ++ us, rfl, .inl ⟨upd_same, t.free hp⟩, RepL.mv ((Ext.new1 hp).mv t.inF) _ _ (la.app lb)⟩
    · exact q.elim
  · exact .inr (.inr (.inr (add_lst t st bx hy q)))
/-! ### == of data -/
def dat (sw : SW) (S : Store) : Nat → W → Option PyData
  | _, .non => some .none
  | _, .bl b => some (.bool b)
  | _, .int i => some (.int i)
  | _, .str x => if PyData.strOk x then some (.str x) else none
  | n + 1, .tup ws => (ws.mapM (dat sw S n)).map .tuple
  | n + 1, .lst ws => (ws.mapM (dat sw S n)).map .list
  | n + 1, .loc m => match S[m]? with
    | some (.lst ws) => (ws.mapM (dat sw S n)).map .list
    | _ => none
  | n + 1, .brw i => match sw[i]? with
    | some (some (.own (.lst ws))) => (ws.mapM (dat sw S n)).map .list
    | _ => none
  | _, _ => none
end
end ML
set_option Elab.async false
set_option linter.all false
set_option maxRecDepth 100000
set_option maxHeartbeats 4000000
namespace ML
open PySem PySem.Spec PyProof.Rows L2

section
variable {k : Kw} {Wx : WX} {s : L2.St} {sw : SW} {F0 F : FS} {H : Hp} {r : List Addr} {S : Store}
theorem mapM_cons {A B : Type} {f : A → Option B} {a : A} {l : List A} {bs : List B} (h : (a :: l).mapM f = some bs) : ∃ b bs', bs = b :: bs' ∧ f a = some b ∧ l.mapM f = some bs' := by
  rw [List.mapM_cons] at h
  cases e : f a with
  | none =>
    rw [e] at h
    cases h
  | some b =>
    rw [e] at h
    cases e2 : l.mapM f with
    | none =>
      rw [e2] at h
      cases h
    | some bs' =>
      rw [e2] at h
      cases h
      exact ⟨b, bs', rfl, rfl, rfl⟩
theorem mapM_nil {A B : Type} {f : A → Option B} {bs : List B} (h : ([] : List A).mapM f = some bs) : bs = [] := by
  rw [List.mapM_nil] at h
  cases h
  rfl
theorem dats_rep {f : W → Option PyData} {n : Nat} (hf : ∀ w v d, RepV k F H r w v → f w = some d → Dp k.K H v d ∧ d.canLay0 = true ∧ d.depth ≤ n) :
    ∀ {ws : List W} {vs : List V} {ds : List PyData}, RepL k F H r ws vs → ws.mapM f = some ds → DpAll k.K H vs ds ∧ PyData.canLayAll0 ds = true ∧ PyData.depthAll ds ≤ n
  | [], vs, ds, l, h => by
    cases l
    rw [mapM_nil h]
    exact ⟨.nil, rfl, Nat.zero_le _⟩
  | w :: ws, vs, ds, l, h => by
    obtain ⟨v, vs', rfl, l1, l2⟩ := l
    obtain ⟨d, ds', rfl, h1, h2⟩ := mapM_cons h
    obtain ⟨a1, a2, a3⟩ := hf w v d l1 h1
    obtain ⟨b1, b2, b3⟩ := dats_rep hf l2 h2
    refine ⟨.cons a1 b1, ?_, ?_⟩
    · unfold PyData.canLayAll0
      rw [a2, b2]
      rfl
    · unfold PyData.depthAll
      omega
theorem map_some {A B : Type} {f : A → B} {o : Option A} {b : B} (h : o.map f = some b) : ∃ a, o = some a ∧ b = f a := by
  cases o with
  | none => cases h
  | some a =>
    cases h
    exact ⟨a, rfl, rfl⟩
theorem dat_rep (t : Sto k F H r S) (st : StR k F0 F H r s sw) : ∀ (n : Nat) (w : W) (v : V) (d : PyData), RepB k F H r s sw w v → dat sw S n w = some d → Dp k.K H v d ∧ d.canLay0 = true ∧ d.depth ≤ n := by
  have seq : ∀ (n : Nat), (∀ w v d, RepB k F H r s sw w v → dat sw S n w = some d → Dp k.K H v d ∧ d.canLay0 = true ∧ d.depth ≤ n) → ∀ (w : W) (v : V) (ws : List W) (d : PyData), RepB k F H r s sw w v → cont sw S w = some ws → (ws.mapM (dat sw S n)).map .list = some d →
      Dp k.K H v d ∧ d.canLay0 = true ∧ d.depth ≤ n + 1 := by
    intro n ih w v ws d b hc h
    obtain ⟨ds, e, rfl⟩ := map_some h
    obtain ⟨a, vs, rfl, ha, l⟩ := cont_rep t st b hc
    obtain ⟨q1, q2, q3⟩ := dats_rep (fun w v d l h => ih w v d (RepB.of l) h) l e
    exact ⟨.lst (SqL.of ha) q1, by unfold PyData.canLay0; exact q2, by unfold PyData.depth; omega⟩
  have leaf : ∀ (n : Nat) (w : W) (v : V) (d : PyData), RepB k F H r s sw w v → (match w with
      | .non => some .none
      | .bl b => some (.bool b)
      | .int i => some (.int i)
      | .str x => if PyData.strOk x then some (.str x) else none
      | _ => (none : Option PyData)) = some d → Dp k.K H v d ∧ d.canLay0 = true ∧ d.depth ≤ n := by
    intro n w v d b h
    cases w with
    | non =>
      cases h
      cases b
      exact ⟨.non, rfl, Nat.zero_le _⟩
    | bl x =>
      cases h
      cases b
      exact ⟨.bl x, rfl, Nat.zero_le _⟩
    | int x =>
      cases h
      cases b
      exact ⟨.int x, rfl, Nat.zero_le _⟩
    | str x =>
      have h : (if PyData.strOk x then some (PyData.str x) else none) = some d := h
      split at h
      · rename_i hs
        cases h
        cases b
        exact ⟨.str x, by unfold PyData.canLay0; exact hs, Nat.zero_le _⟩
      · cases h
    | _ => cases h
  intro n
  induction n with
  | zero =>
    intro w v d b h
    cases w <;> first | exact leaf 0 _ v d b h | cases h
  | succ n ih =>
    intro w v d b h
    cases w with
    | tup ws =>
      obtain ⟨ds, e, rfl⟩ := map_some (show (ws.mapM (dat sw S n)).map .tuple = some d from h)
      obtain ⟨a, vs, rfl, ha, l⟩ := tup_rep b
      obtain ⟨q1, q2, q3⟩ := dats_rep (fun w v d l h => ih w v d (RepB.of l) h) l e
      exact ⟨.tup ha q1, by unfold PyData.canLay0; exact q2, by unfold PyData.depth; omega⟩
    | lst ws => exact seq n ih _ v ws d b rfl h
    | loc m =>
      have h : (match S[m]? with
        | some (.lst ws) => (ws.mapM (dat sw S n)).map .list
        | _ => none) = some d := h
      split at h
      · rename_i ws e
        exact seq n ih _ v ws d b (by show (match S[m]? with | some (.lst ws) => some ws | _ => none) = _; rw [e]) h
      · cases h
    | brw i =>
      have h : (match sw[i]? with
        | some (some (.own (.lst ws))) => (ws.mapM (dat sw S n)).map .list
        | _ => none) = some d := h
      split at h
      · rename_i ws e
        exact seq n ih _ v ws d b (by show (match sw[i]? with | some (some (.own (.lst ws))) => some ws | _ => none) = _; rw [e]) h
      · cases h
    | _ => first | exact leaf _ _ v d b h | cases h
theorem shaped_of {d : PyData} {n : Nat} (h1 : d.canLay0 = true) (h2 : d.depth ≤ n) (h : n ≤ 64) : SeqAt.shaped d = true := by
  unfold SeqAt.shaped
  rw [h1, decide_eq_true (by omega)]
  rfl
end
section
variable {X : Cx} {Wx : WX}
def opEq : F2 := fun sw x y S => match dat sw S 60 x, dat sw S 60 y with
  | some d, some e => .ok (.bl (PyData.eqv d e)) S
  | _, _ => .bad
def opNe : F2 := fun sw x y S => match dat sw S 60 x, dat sw S 60 y with
  | some d, some e => .ok (.bl (!PyData.eqv d e)) S
  | _, _ => .bad
theorem sp_eq {k : Kw} : Sp2 k (rEqD k.K) opEq := by
  intro F0 F H rho S s sw x y v u Wx Q t st bx hy q
  unfold opEq at q
  split at q
  · rename_i d e h1 h2
    obtain ⟨a1, a2, a3⟩ := dat_rep t st 60 x v d bx h1
    obtain ⟨b1, b2, b3⟩ := dat_rep t st 60 y u e hy h2
    exact ⟨d, e, a1, b1, shaped_of a2 a3 (by decide), shaped_of b2 b3 (by decide), q.ok t _ rfl⟩
  · exact q.elim
theorem sp_ne {k : Kw} : Sp2 k (rNeD k.K) opNe := by
  intro F0 F H rho S s sw x y v u Wx Q t st bx hy q
  unfold opNe at q
  split at q
  · rename_i d e h1 h2
    obtain ⟨a1, a2, a3⟩ := dat_rep t st 60 x v d bx h1
    obtain ⟨b1, b2, b3⟩ := dat_rep t st 60 y u e hy h2
    exact ⟨d, e, a1, b1, shaped_of a2 a3 (by decide), shaped_of b2 b3 (by decide), q.ok t _ rfl⟩
  · exact q.elim
/-! ### is None -/
def isNon : W → Bool
  | .non => true
  | _ => false
theorem isNon_rep {k : Kw} {F : FS} {H : Hp} {r : List Addr} {s : L2.St} {sw : SW} {F0 : FS} {w : W} {v : V} (st : StR k F0 F H r s sw) (b : RepB k F H r s sw w v) : decide (v = .non) = isNon w := by
  cases w with
  | non =>
    cases b
    rfl
  | bl x => cases b; rfl
  | int x => cases b; rfl
  | str x => cases b; rfl
  | tup ws => obtain ⟨a, vs, rfl, _⟩ := b; rfl
  | lst ws => obtain ⟨a, vs, rfl, _⟩ := b; rfl
  | dct ks ws => obtain ⟨a, vs, rfl, _⟩ := b; rfl
  | exc c fs ws => obtain ⟨a, d, vs, rfl, _⟩ := b; rfl
  | loc n => obtain ⟨a, _, rfl⟩ := b; rfl
  | cls x => cases b; rfl
  | ty x => cases b; rfl
  | brw i =>
    obtain ⟨⟨o, e⟩, e2⟩ := b
    obtain ⟨a, e3, _⟩ := st.own i o e
    rw [e2] at e3
    cases e3
    rfl
  | scr ns => obtain ⟨a, rfl, _⟩ := b; rfl
def opIsN : F2 := fun _ x y S => match y with
  | .non => .ok (.bl (isNon x)) S
  | _ => .bad
def opNotN : F2 := fun _ x y S => match y with
  | .non => .ok (.bl (!isNon x)) S
  | _ => .bad
theorem sp_isN {k : Kw} : Sp2 k (fun x y H Q => y = .non ∧ Q (.bl (decide (x = .non))) H) opIsN := by
  intro F0 F H rho S s sw x y v u Wx Q t st bx hy q
  cases y with
  | non =>
    refine ⟨hy, ?_⟩
    rw [isNon_rep st bx]
    exact q.ok t _ rfl
  | _ => exact q.elim
theorem sp_notN {k : Kw} : Sp2 k (fun x y H Q => y = .non ∧ Q (.bl (!decide (x = .non))) H) opNotN := by
  intro F0 F H rho S s sw x y v u Wx Q t st bx hy q
  cases y with
  | non =>
    refine ⟨hy, ?_⟩
    rw [isNon_rep st bx]
    exact q.ok t _ rfl
  | _ => exact q.elim
/-! ### in -/
def flat : W → Bool
  | .non | .bl _ | .int _ | .str _ => true
  | _ => false
def eqF : W → W → Bool
  | .non, .non => true
  | .bl a, .bl b => a == b
  | .bl a, .int b => (if a then 1 else 0) == b
  | .int a, .bl b => a == (if b then 1 else 0)
  | .int a, .int b => a == b
  | .str a, .str b => a == b
  | _, _ => false
theorem flat_rep {k : Kw} {F : FS} {H : Hp} {r : List Addr} {w : W} {v : V} (b : RepV k F H r w v) (h : flat w = true) : flatV v = true ∧ ∀ y u, flat y = true → RepV k F H r y u → eqV u v = eqF y w := by
  cases w with
  | non =>
    cases b
    refine ⟨rfl, fun y u hy bu => ?_⟩
    cases y <;> first | (cases bu; rfl) | cases hy
  | bl x =>
    cases b
    refine ⟨rfl, fun y u hy bu => ?_⟩
    cases y <;> first | (cases bu; rfl) | cases hy
  | int x =>
    cases b
    refine ⟨rfl, fun y u hy bu => ?_⟩
    cases y <;> first | (cases bu; rfl) | cases hy
  | str x =>
    cases b
    refine ⟨rfl, fun y u hy bu => ?_⟩
    cases y <;> first | (cases bu; rfl) | cases hy
  | _ => cases h
theorem flats_rep {k : Kw} {F : FS} {H : Hp} {r : List Addr} {x : W} {v : V} (b : RepV k F H r x v) (hx : flat x = true) : ∀ {ws : List W} {vs : List V}, RepL k F H r ws vs → ws.all flat = true → vs.all flatV = true ∧ inV v vs = ws.any fun w => eqF w x
  | [], vs, l, _ => by
    cases l
    exact ⟨rfl, rfl⟩
  | w :: ws, _, l, h => by
    obtain ⟨u, us, rfl, l1, l2⟩ := l
    rw [List.all_cons, Bool.and_eq_true] at h
    obtain ⟨q1, q2⟩ := flats_rep b hx l2 h.2
    refine ⟨?_, ?_⟩
    · rw [List.all_cons, q1, (flat_rep l1 h.1).1]
      rfl
    · rw [List.any_cons, ← q2, ← (flat_rep b hx).2 w u h.1 l1]
      rfl
def inRes (sw : SW) (x y : W) (S : Store) : Option Bool := match y with
  | .str z => match x with
    | .str c => if c.cps.size = 1 then some (decide (c.cps.getD 0 0 ∈ z.cps.toList)) else none
    | _ => none
  | .tup ws => if flat x && ws.all flat then some (ws.any fun w => eqF w x) else none
  | y => match cont sw S y, dat sw S 60 x with
    | some ws, some d => (ws.mapM (dat sw S 60)).map fun ds => ds.any fun z => PyData.eqv z d
    | _, _ => none
def opIn : F2 := fun sw x y S => match inRes sw x y S with
  | some b => .ok (.bl b) S
  | none => .bad
def opNotIn : F2 := fun sw x y S => match inRes sw x y S with
  | some b => .ok (.bl (!b)) S
  | none => .bad
def rInB (K : PySem.W.Frag) (b : Bool) (g : Bool → Bool) : R2 := fun x y H Q => ((∃ (c : Nat) (z : Str), x = .str ⟨#[c]⟩ ∧ y = .str z ∧ b = decide (c ∈ z.cps.toList)) ∨
  (∃ p xs, y = .ref p ∧ SqT K H p xs ∧ flatV x = true ∧ xs.all flatV = true ∧ b = inV x xs) ∨ (∃ d ds, Dp K H x d ∧ Dp K H y (.list ds) ∧ SeqAt.shaped d = true ∧ SeqAt.shaped (.list ds) = true ∧ b = ds.any fun z => PyData.eqv z d)) ∧ Q (.bl (g b)) H
def rInA (K : PySem.W.Frag) (g : Bool → Bool) : R2 := fun x y H Q => ∃ b, rInB K b g x y H Q
theorem op_inA (hu : X.A.units + 65 < cLine) : OpR X (compareOp .In) (rInA X.K id) := by
  intro pins s σ H x y v u Q I rx ry h
  obtain ⟨b, h, q⟩ := h
  rcases h with ⟨c, z, e1, e2, e3⟩ | ⟨p, xs, e1, e2, e3, e4, e5⟩ | ⟨d, ds, e1, e2, e3, e4, e5⟩
  · exact op_in_sign pins s σ H x y v u Q I rx ry ⟨c, z, e1, e2, by rw [← e3]; exact q⟩
  · exact op_in_seq pins s σ H x y v u Q I rx ry ⟨p, xs, e1, .inr e2, e3, e4, by rw [← e5]; exact q⟩
  · exact op_inD hu pins s σ H x y v u Q I rx ry ⟨d, ds, e1, e2, e3, e4, by rw [← e5]; exact q⟩
theorem op_notInA (hu : X.A.units + 65 < cLine) : OpR X (compareOp .NotIn) (rInA X.K not) := by
  intro pins s σ H x y v u Q I rx ry h
  obtain ⟨b, h, q⟩ := h
  rcases h with ⟨c, z, e1, e2, e3⟩ | ⟨p, xs, e1, e2, e3, e4, e5⟩ | ⟨d, ds, e1, e2, e3, e4, e5⟩
  · exact op_notIn_sign pins s σ H x y v u Q I rx ry ⟨c, z, e1, e2, by rw [← e3]; exact q⟩
  · exact op_notIn_seq pins s σ H x y v u Q I rx ry ⟨p, xs, e1, .inr e2, e3, e4, by rw [← e5]; exact q⟩
  · exact op_notInD hu pins s σ H x y v u Q I rx ry ⟨d, ds, e1, e2, e3, e4, by rw [← e5]; exact q⟩
theorem in_rep {k : Kw} {F0 F : FS} {H : Hp} {r : List Addr} {S : Store} {s : L2.St} {sw : SW} {x y : W} {v u : V} {b : Bool} {Q : VK} (g : Bool → Bool) (t : Sto k F H r S) (st : StR k F0 F H r s sw) (bx : RepB k F H r s sw x v) (hy : RepB k F H r s sw y u)
    (h : inRes sw x y S = some b) (q : Q (.bl (g b)) H) : rInB k.K b g v u H Q := by
  refine ⟨?_, q⟩
  have lst : ∀ ws d, cont sw S y = some ws → dat sw S 60 x = some d → (ws.mapM (dat sw S 60)).map (fun ds => ds.any fun z => PyData.eqv z d) = some b →
      ∃ d ds, Dp k.K H v d ∧ Dp k.K H u (.list ds) ∧ SeqAt.shaped d = true ∧ SeqAt.shaped (.list ds) = true ∧ b = ds.any fun z => PyData.eqv z d := by
    intro ws d h1 h2 h3
    obtain ⟨ds, e, rfl⟩ := map_some h3
    obtain ⟨a1, a2, a3⟩ := dat_rep t st 60 x v d bx h2
    obtain ⟨a, vs, rfl, ha, l⟩ := cont_rep t st hy h1
    obtain ⟨q1, q2, q3⟩ := dats_rep (n := 60) (fun w v d l h => dat_rep t st 60 w v d (RepB.of l) h) l e
    exact ⟨d, ds, a1, .lst (SqL.of ha) q1, shaped_of a2 a3 (by decide), shaped_of (n := 61) (by unfold PyData.canLay0; exact q2) (by unfold PyData.depth; omega) (by decide), rfl⟩
  have gen : (match cont sw S y, dat sw S 60 x with
    | some ws, some d => (ws.mapM (dat sw S 60)).map fun ds => ds.any fun z => PyData.eqv z d
    | _, _ => none) = some b → ∃ d ds, Dp k.K H v d ∧ Dp k.K H u (.list ds) ∧ SeqAt.shaped d = true ∧ SeqAt.shaped (.list ds) = true ∧ b = ds.any fun z => PyData.eqv z d := by
    intro h
    split at h
    · rename_i ws d h1 h2
      exact lst ws d h1 h2 h
    · cases h
  cases y with
  | str z =>
    cases x with
    | str c =>
      have h : (if c.cps.size = 1 then some (decide (c.cps.getD 0 0 ∈ z.cps.toList)) else none) = some b := h
      split at h
      · rename_i hs
        cases h
        cases bx
        cases hy
        refine .inl ⟨c.cps.getD 0 0, z, ?_, rfl, rfl⟩
        obtain ⟨cp⟩ := c
        have e : cp = #[cp.getD 0 0] := by
          apply Array.ext
          · simpa using hs
          · intro i h1 h2
            have hi : i = 0 := by
              have : cp.size = 1 := hs
              omega
            subst hi
            simp [Array.getD, h1]
        show V.str ⟨cp⟩ = V.str ⟨#[cp.getD 0 0]⟩
        rw [← e]
      · cases h
    | _ => cases h
  | tup ws =>
    have h : (if flat x && ws.all flat then some (ws.any fun w => eqF w x) else none) = some b := h
    split at h
    · rename_i hf
      cases h
      rw [Bool.and_eq_true] at hf
      have bx' : RepV k F H r x v := by
        cases x <;> first | exact bx | exact absurd hf.1 (by simp [flat])
      obtain ⟨a, vs, rfl, ha, l⟩ := tup_rep hy
      obtain ⟨q1, q2⟩ := flats_rep bx' hf.1 l hf.2
      exact .inr (.inl ⟨a, vs, rfl, ha, (flat_rep bx' hf.1).1, q1, q2.symm⟩)
    · cases h
  | _ => exact .inr (.inr (gen h))
theorem sp_in {k : Kw} : Sp2 k (rInA k.K id) opIn := by
  intro F0 F H rho S s sw x y v u Wx Q t st bx hy q
  unfold opIn at q
  split at q
  · rename_i b h
    exact ⟨b, in_rep id t st bx hy h (q.ok t _ rfl)⟩
  · exact q.elim
theorem sp_notIn {k : Kw} : Sp2 k (rInA k.K not) opNotIn := by
  intro F0 F H rho S s sw x y v u Wx Q t st bx hy q
  unfold opNotIn at q
  split at q
  · rename_i b h
    exact ⟨b, in_rep not t st bx hy h (q.ok t _ rfl)⟩
  · exact q.elim
/-! ### items -/
def opIx : F2 := fun sw x y S => match y with
  | .int i => match x with
    | .tup ws => match L2.atI ws i with
      | some w => .ok w S
      | none => .bad
    | .str z => if z.length ≤ sizeLine then (match L2.atI z.cps.toList i with
      | some c => .ok (.str ⟨#[c]⟩) S
      | none => .bad) else .bad
    | x => match cont sw S x with
      | some ws => match L2.atI ws i with
        | some w => .ok w S
        | none => .bad
      | none => .bad
  | _ => .bad
theorem sp_ix {k : Kw} : Sp2 k (rIx k.K) opIx := by
  intro F0 F H rho S s sw x y v u Wx Q t st bx hy q
  cases y with
  | int i =>
    cases hy
    have lst : Run k Wx s F H rho (match cont sw S x with
      | some ws => match L2.atI ws i with
        | some w => .ok w S
        | none => .bad
      | none => .bad) (pV k Q) → rIxL k.K v (.int i) H Q := by
      intro q
      split at q
      · rename_i ws h
        split at q
        · rename_i w e
          obtain ⟨a, vs, rfl, ha, l⟩ := cont_rep t st bx h
          obtain ⟨z, e2, rz⟩ := l.atI e
          exact ⟨a, vs, i, z, rfl, rfl, SqL.of ha, e2, q.ok t z rz⟩
        · exact q.elim
      · exact q.elim
    cases x with
    | tup ws =>
      have q : Run k Wx s F H rho (match L2.atI ws i with
        | some w => .ok w S
        | none => .bad) (pV k Q) := q
      split at q
      · rename_i w e
        obtain ⟨a, vs, rfl, ha, l⟩ := tup_rep bx
        obtain ⟨z, e2, rz⟩ := l.atI e
        exact .inr (.inl ⟨a, vs, i, z, rfl, rfl, ha, e2, q.ok t z rz⟩)
      · exact q.elim
    | str z =>
      have q : Run k Wx s F H rho (if z.length ≤ sizeLine then (match L2.atI z.cps.toList i with
        | some c => .ok (.str ⟨#[c]⟩) S
        | none => .bad) else .bad) (pV k Q) := q
      split at q
      · rename_i hz
        split at q
        · rename_i c e
          cases bx
          exact .inr (.inr ⟨z, i, c, rfl, rfl, hz, e, q.ok t _ rfl⟩)
        · exact q.elim
      · exact q.elim
    | _ => exact .inl (lst q)
  | _ => exact q.elim
theorem ie_ix {a b : Expr} {pos : Pos} {m n : EM} (ha : IB X Wx a m) (hb : IB X Wx b n) (hs : PlainIx b) : IE X Wx (.Subscript a b pos) (eOp2 opIx m n) := pe_imp (pe_ix ix_seq ha hb hs) (op2_imp sp_ix)
/-! ### slices -/
def cutW (xs : List W) (lo hi : Option Int) : List W := (xs.drop (HT.sIx xs.length 0 lo)).take (HT.sIx xs.length xs.length hi - HT.sIx xs.length 0 lo)
theorem cut_rep {k : Kw} {F : FS} {H : Hp} {r : List Addr} {ws : List W} {vs : List V} (l : RepL k F H r ws vs) (lo hi : Option Int) : RepL k F H r (cutW ws lo hi) (cutV vs lo hi) := by
  unfold cutW cutV
  rw [l.length]
  exact (l.drop _).take _
abbrev OM := SW → Store → Res (Option Int)
def tO (k : Kw) (Wx : WX) (m : OM) : TO := fun s H Q => ∃ F0 F rho S sw, Sto k F H rho S ∧ StR k F0 F H rho s sw ∧ Run k Wx s F H rho (m sw S) (fun o _ H' _ => Q o H')
abbrev IO (X : Cx) (Wx : WX) (e : Option Expr) (m : OM) : Prop := PO X e (tO (kw X) Wx m)
theorem tO_bind {k : Kw} {s : L2.St} {sw : SW} {F0 F : FS} {H : Hp} {r : List Addr} {S : Store} {m : OM} {A : Type} {f : Option Int → Store → Res A} {P : A → FS → Hp → List Addr → Prop} {Q : Option Int → Hp → Prop} (t : Sto k F H r S) (st : StR k F0 F H r s sw) (h : Run k Wx s F H r ((m sw S).bind f) P)
    (g : ∀ b F' H' r' S', Ext F H r F' H' r' → Sto k F' H' r' S' → StR k F0 F' H' r' s sw → Run k Wx s F' H' r' (f b S') P → Q b H') : tO k Wx m s H Q := by
  refine ⟨F0, F, r, S, sw, t, st, ?_⟩
  cases e : m sw S with
  | ok w S' =>
    rw [e] at h
    exact fun F' H' r' x t' => g w F' H' r' S' x t' (st.ext x t) (Run.shift x h)
  | exc c fs ws S' =>
    rw [e] at h
    exact h
  | bad =>
    rw [e] at h
    exact h
theorem po_imp {e : Option Expr} {t t' : TO} (h : PO X e t) (i : ∀ s H Q, t' s H Q → t s H Q) : PO X e t' := ⟨fun pins s σ H Q I q => h.run pins s σ H Q I (i _ _ _ q)⟩
def oNo : OM := fun _ S => .ok none S
def oSome (m : EM) : OM := fun sw S => (m sw S).bind fun w S => match w with
  | .int i => .ok (some i) S
  | _ => .bad
theorem io_none : IO X Wx none oNo := po_imp po_none fun s H Q ⟨F0, F, r, S, sw, t, st, q⟩ => q.ok t
theorem io_some {e : Expr} {m : EM} (h : IE X Wx e m) : IO X Wx (some e) (oSome m) := by
  refine po_imp (po_some h) fun s H Q ⟨F0, F, r, S, sw, t, st, q⟩ => ?_
  refine tE_bind t st q fun w v Fa Ha ra Sa xa ta sa ba q => ?_
  cases w with
  | int i => exact ⟨i, ba, q.ok ta⟩
  | _ => exact q.elim
def slRes (sw : SW) (x : W) (lo hi : Option Int) (S : Store) : Option W := match x with
  | .tup ws => some (.tup (cutW ws lo hi))
  | .str z => if z.length ≤ sizeLine then some (.str (cutS z lo hi)) else none
  | .scr ns => some (.lst (cutW (ns.map .int) lo hi))
  | x => (cont sw S x).map fun ws => .lst (cutW ws lo hi)
def eSl (m : EM) (lo hi : OM) : EM := fun sw S => (m sw S).bind fun x S => (lo sw S).bind fun l S => (hi sw S).bind fun h S => match slRes sw x l h S with
  | some w => .ok w S
  | none => .bad
def rSl3 (K : PySem.W.Frag) : V → Option Int → Option Int → Hp → VK → Prop := fun x lo hi H Q => rSlL K x lo hi H Q ∨ rSlA K x lo hi H Q ∨ (∃ z, x = .str z ∧ z.length ≤ sizeLine ∧ Q (.str (cutS z lo hi)) H)
end
end ML
set_option Elab.async false
set_option linter.all false
set_option maxRecDepth 100000
set_option maxHeartbeats 4000000
namespace ML
open PySem PySem.Spec PyProof.Rows L2

section
variable {X : Cx} {Wx : WX}
theorem cutW_full {xs : List W} {lo hi : Option Int} (h : HT.sIx xs.length 0 lo = 0 ∧ HT.sIx xs.length xs.length hi = xs.length) : cutW xs lo hi = xs := by
  unfold cutW
  rw [h.1, h.2, List.drop_zero, Nat.sub_zero, List.take_length]
theorem scr_rep {k : Kw} {F : FS} {H : Hp} {r : List Addr} : ∀ {ns : List Int}, RepL k F H r (ns.map .int) (ns.map V.int)
  | [] => rfl
  | n :: ns => ⟨.int n, ns.map V.int, rfl, rfl, scr_rep⟩
theorem ie_sl {e : Expr} {lo hi : Option Expr} {p2 pos : Pos} {m : EM} {ml mh : OM} (he : IB X Wx e m) (hl : IO X Wx lo ml) (hh : IO X Wx hi mh) : IE X Wx (.Subscript e (.Slice lo hi none p2) pos) (eSl m ml mh) := by
  refine pe_imp (pe_slice (r := rSl3 X.K) (sl_list.or (sl_tupA.or sl_str)) he hl hh) fun s H Q ⟨F0, F, r, S, sw, t, st, q⟩ => ?_
  refine tB_bind t st q fun x v F1 H1 r1 S1 x1 t1 s1 b q => ?_
  refine tO_bind t1 s1 q fun l F2 H2 r2 S2 x2 t2 s2 q => ?_
  refine tO_bind t2 s2 q fun h F3 H3 r3 S3 x3 t3 s3 q => ?_
  have b : RepB (kw X) F3 H3 r3 s sw x v := (b.mv (x2.mv t1.inF)).mv (x3.mv t2.inF)
  have lst : (∀ ws, cont sw S3 x = some ws → Run (kw X) Wx s F3 H3 r3 (.ok (.lst (cutW ws l h)) S3) (pV (kw X) Q) → rSlL X.K v l h H3 Q) := by
    intro ws hc q
    obtain ⟨a, vs, rfl, ha, ll⟩ := cont_rep t3 s3 b hc
    exact ⟨a, vs, rfl, SqL.of ha, fun p hp => q F3 _ r3 (Ext.new1 hp) (t3.new1 hp) (.ref p) ⟨p, _, rfl, ⟨upd_same, t3.free hp⟩, RepL.mv ((Ext.new1 hp).mv t3.inF) _ _ (cut_rep ll l h)⟩⟩
  have gen : Run (kw X) Wx s F3 H3 r3 (match (cont sw S3 x).map fun ws => W.lst (cutW ws l h) with
    | some w => .ok w S3
    | none => .bad) (pV (kw X) Q) → rSlL X.K v l h H3 Q := by
    intro q
    cases e : cont sw S3 x with
    | none =>
      rw [e] at q
      exact q.elim
    | some ws =>
      rw [e] at q
      exact lst ws e q
  cases x with
  | tup ws =>
    obtain ⟨a, vs, rfl, ha, ll⟩ := tup_rep b
    refine .inr (.inl ⟨a, vs, rfl, ha, fun hw => ?_, fun hw p hp => ?_⟩)
    · rw [← ll.length] at hw
      have e := cutW_full hw
      have q : Run (kw X) Wx s F3 H3 r3 (.ok (.tup (cutW ws l h)) S3) (pV (kw X) Q) := q
      rw [e] at q
      exact q.ok t3 _ b
    · have q : Run (kw X) Wx s F3 H3 r3 (.ok (.tup (cutW ws l h)) S3) (pV (kw X) Q) := q
      exact q F3 _ r3 (Ext.new1 hp) (t3.new1 hp) (.ref p) ⟨p, _, rfl, .inl ⟨upd_same, t3.free hp⟩, RepL.mv ((Ext.new1 hp).mv t3.inF) _ _ (cut_rep ll l h)⟩
  | str z =>
    cases b
    have q : Run (kw X) Wx s F3 H3 r3 (match (if z.length ≤ sizeLine then some (W.str (cutS z l h)) else none) with
      | some w => .ok w S3
      | none => .bad) (pV (kw X) Q) := q
    by_cases hz : z.length ≤ sizeLine
    · rw [if_pos hz] at q
      exact .inr (.inr ⟨z, rfl, hz, q.ok t3 _ rfl⟩)
    · rw [if_neg hz] at q
      exact q.elim
  | scr ns =>
    obtain ⟨a, rfl, ha⟩ := b
    have q : Run (kw X) Wx s F3 H3 r3 (.ok (.lst (cutW (ns.map .int) l h)) S3) (pV (kw X) Q) := q
    exact .inl ⟨a, _, rfl, ha.sq, fun p hp => q F3 _ r3 (Ext.new1 hp) (t3.new1 hp) (.ref p) ⟨p, _, rfl, ⟨upd_same, t3.free hp⟩, RepL.mv ((Ext.new1 hp).mv t3.inF) _ _ (cut_rep scr_rep l h)⟩⟩
  | _ => exact .inl (gen q)
/-- a list's slice as a new list -/
def slsRes (sw : SW) (x : W) (lo hi : Option Int) (S : Store) : Option O := match x with
  | .scr ns => some (.lst (cutW (ns.map .int) lo hi))
  | x => (cont sw S x).map fun ws => .lst (cutW ws lo hi)
def fSl (m : EM) (lo hi : OM) : FM := fun sw S => (m sw S).bind fun x S => (lo sw S).bind fun l S => (hi sw S).bind fun h S => match slsRes sw x l h S with
  | some w => .ok w S
  | none => .bad
theorem dom_back {F F' : FS} {H H' : Hp} {r r' : List Addr} (x : Ext F H r F' H' r') {p : Addr} (h : H' p = none) : H p = none := by
  cases e : H p with
  | none => rfl
  | some o => exact absurd h (x.dom p (by rw [e]; simp))
theorem if_sl {e : Expr} {lo hi : Option Expr} {p2 pos : Pos} {m : EM} {ml mh : OM} (he : IB X Wx e m) (hl : IO X Wx lo ml) (hh : IO X Wx hi mh) : IF X Wx (.Subscript e (.Slice lo hi none p2) pos) (fSl m ml mh) := by
  refine pe_imp (pe_slice sl_list he hl hh) fun s H Q ⟨F0, F, r, S, sw, t, st, q⟩ => ?_
  refine tB_bind t st q fun x v F1 H1 r1 S1 x1 t1 s1 b q => ?_
  refine tO_bind t1 s1 q fun l F2 H2 r2 S2 x2 t2 s2 q => ?_
  refine tO_bind t2 s2 q fun h F3 H3 r3 S3 x3 t3 s3 q => ?_
  have b : RepB (kw X) F3 H3 r3 s sw x v := (b.mv (x2.mv t1.inF)).mv (x3.mv t2.inF)
  have fin : ∀ (a : Addr) (ws : List W) (vs : List V), v = .ref a → SqL X.K H3 a vs → RepL (kw X) F3 H3 r3 ws vs → Run (kw X) Wx s F3 H3 r3 (.ok (.lst (cutW ws l h)) S3) (pF (kw X) H Q) → rSlL X.K v l h H3 Q := by
    intro a ws vs e ha ll q
    exact ⟨a, vs, e, ha, fun p hp => q (addF F3 p) _ r3 (Ext.newF hp) (t3.newF hp) p (dom_back x1 (dom_back x2 (dom_back x3 hp))) (.inr rfl) (t3.mem_r hp) ⟨_, upd_same, RepL.mv ((Ext.newF hp).mv t3.inF) _ _ (cut_rep ll l h)⟩⟩
  have gen : Run (kw X) Wx s F3 H3 r3 (match (cont sw S3 x).map fun ws => O.lst (cutW ws l h) with
    | some w => .ok w S3
    | none => .bad) (pF (kw X) H Q) → rSlL X.K v l h H3 Q := by
    intro q
    cases e : cont sw S3 x with
    | none =>
      rw [e] at q
      exact q.elim
    | some ws =>
      rw [e] at q
      obtain ⟨a, vs, rfl, ha, ll⟩ := cont_rep t3 s3 b e
      exact fin a ws vs rfl (SqL.of ha) ll q
  cases x with
  | scr ns =>
    obtain ⟨a, rfl, ha⟩ := b
    exact fin a (ns.map .int) _ rfl ha.sq scr_rep q
  | _ => exact gen q
/-! ### len -/
def lenRes (sw : SW) (S : Store) : W → Option Nat
  | .tup ws => some ws.length
  | .str z => if z.length ≤ sizeLine then some z.length else none
  | w => (cont sw S w).map List.length
def opLen : F1 := fun sw x S => match lenRes sw S x with
  | some n => .ok (.int n) S
  | none => .bad
theorem sp_len {k : Kw} : Sp1 k (fun v H Q => ∃ x n, [v] = [x] ∧ LenV k.K x H n ∧ Q (.int n) H) opLen := by
  intro F0 F H rho S s sw x v Wx Q t st b q
  unfold opLen at q
  split at q
  · rename_i n h
    refine ⟨v, n, rfl, ?_, q.ok t _ rfl⟩
    have gen : (cont sw S x).map List.length = some n → LenV k.K v H n := by
      intro h
      obtain ⟨ws, e, rfl⟩ := map_some h
      obtain ⟨a, vs, rfl, ha, l⟩ := cont_rep t st b e
      exact .inl ⟨vs, SqL.of ha, l.length⟩
    cases x with
    | tup ws =>
      cases h
      obtain ⟨a, vs, rfl, ha, l⟩ := tup_rep b
      exact .inr ⟨vs, ha, l.length⟩
    | str z =>
      cases b
      have h : (if z.length ≤ sizeLine then some z.length else none) = some n := h
      split at h
      · rename_i hz
        cases h
        exact ⟨hz, rfl⟩
      · cases h
    | _ => exact gen h
  · exact q.elim
/-! ### isinstance with a built-in class -/
def tagOf (sw : SW) (S : Store) : W → Option String
  | .non => some "NoneType"
  | .bl _ => some "bool"
  | .int _ => some "int"
  | .str _ => some "str"
  | .tup _ => some "tuple"
  | .lst _ => some "list"
  | .dct _ _ => some "dict"
  | .loc n => match S[n]? with
    | some (.lst _) => some "list"
    | some (.dct _ _) => some "dict"
    | _ => none
  | .brw i => match sw[i]? with
    | some (some (.own (.lst _))) => some "list"
    | some (some (.own (.dct _ _))) => some "dict"
    | _ => none
  | _ => none
def tags : List String := ["NoneType", "bool", "int", "str", "tuple", "list", "dict"]
def tys : List String := ["bool", "int", "str", "tuple", "list", "dict"]
def isiB (g T : String) : Bool := g == T || (g == "bool" && T == "int")
theorem isi_ok : ∀ g ∈ tags, ∀ T ∈ tys, kitB g T = some (isiB g T) := by decide +kernel
inductive TyY (K : PySem.W.Frag) (H : Hp) : V → Value → Prop where
  | x {v : V} {t : Value} (h : TyX K H v t) : TyY K H v t
  | d {a : Addr} {es : List (V × Int × V)} (e : H a = some (DO a es)) : TyY K H (.ref a) (.type "dict")
def rIsiY (K : PySem.W.Frag) (T : String) : V → Hp → VK → Prop := fun v H Q => ∃ g, TyY K H v (.type g) ∧ ∃ b, kitB g T = some b ∧ Q (.bl b) H
theorem call_isiY {T : String} : CallR X (.builtin "isinstance") (fun xs H Q => ∃ v, xs = [v, .ty T] ∧ rIsiY X.K T v H Q) := by
  intro pins s σ H xs us Q I r h
  obtain ⟨v, rfl, g, ty, b, e, q⟩ := h
  cases ty with
  | x h => exact call_isi pins s σ H _ us Q I r ⟨v, .ty T, .type g, .type T, b, rfl, .ty T, h, kit_ty e, q⟩
  | d ea =>
    obtain ⟨u1, u2, rfl, r1, r2⟩ := vals2 r
    have e2 := (ClsV.ty T).eq r2
    subst e2
    rename_i a es
    cases (show u1 = Value.ref a from r1)
    obtain ⟨⟨_, _, o, eo, _, h1, h2, _⟩, _⟩ := I.hok a _ ea
    exact PySem.W.kia_one (PySem.W.kitx_dict) I.kIn ⟨o, h1, h2.1⟩ (kit_ty e) (fun z => nomatch z) fun tk => ⟨.bl b, H, I.tok tk, rfl, q⟩
theorem tag_rep {k : Kw} {F0 F : FS} {H : Hp} {r : List Addr} {S : Store} {s : L2.St} {sw : SW} {w : W} {v : V} {g : String} (t : Sto k F H r S) (st : StR k F0 F H r s sw) (b : RepB k F H r s sw w v) (h : tagOf sw S w = some g) : TyY k.K H v (.type g) ∧ g ∈ tags := by
  cases w with
  | non => cases h; cases b; exact ⟨.x (.base .non), by decide⟩
  | bl x => cases h; cases b; exact ⟨.x (.base (.bl x)), by decide⟩
  | int x => cases h; cases b; exact ⟨.x (.base (.int x)), by decide⟩
  | str x => cases h; cases b; exact ⟨.x (.base (.str x)), by decide⟩
  | tup ws =>
    cases h
    obtain ⟨a, vs, rfl, q, _⟩ := b
    refine ⟨.x ?_, by decide⟩
    rcases q with ⟨q, _⟩ | ⟨o, its, n, q1, q2, _⟩
    · exact .base (.tup q)
    · exact .kTuple q1 q2
  | lst ws =>
    cases h
    obtain ⟨a, vs, rfl, q, _⟩ := b
    exact ⟨.x (.base (.lst q.1)), by decide⟩
  | dct ks ws =>
    cases h
    obtain ⟨a, es, rfl, _, q, _⟩ := b
    exact ⟨.d q, by decide⟩
  | loc n =>
    obtain ⟨a, e1, rfl⟩ := b
    have h : (match S[n]? with
      | some (.lst _) => some "list"
      | some (.dct _ _) => some "dict"
      | _ => none) = some g := h
    split at h
    · rename_i ws e
      cases h
      obtain ⟨vs, q, _⟩ := t.obj n _ a e e1
      exact ⟨.x (.base (.lst q)), by decide⟩
    · rename_i ks ws e
      cases h
      obtain ⟨vs, q, _⟩ := t.obj n _ a e e1
      exact ⟨.d q, by decide⟩
    · cases h
  | brw i =>
    obtain ⟨⟨o, e1⟩, e2⟩ := b
    have h : (match sw[i]? with
      | some (some (.own (.lst _))) => some "list"
      | some (some (.own (.dct _ _))) => some "dict"
      | _ => none) = some g := h
    obtain ⟨a, e3, _, _, _, ob⟩ := st.own i o e1
    rw [e2] at e3
    cases e3
    rw [e1] at h
    cases o with
    | lst ws =>
      cases h
      obtain ⟨vs, q, _⟩ := ob
      exact ⟨.x (.base (.lst q)), by decide⟩
    | dct ks ws =>
      cases h
      obtain ⟨vs, q, _⟩ := ob
      exact ⟨.d q, by decide⟩
    | ins _ _ => cases h
  | _ => cases h
def opIsi (T : String) : F1 := fun sw x S => match tagOf sw S x with
  | some g => if T ∈ tys then .ok (.bl (isiB g T)) S else .bad
  | none => .bad
theorem sp_isi {k : Kw} {T : String} : Sp1 k (rIsiY k.K T) (opIsi T) := by
  intro F0 F H rho S s sw x v Wx Q t st b q
  unfold opIsi at q
  split at q
  · rename_i g h
    obtain ⟨ty, hg⟩ := tag_rep t st b h
    split at q
    · rename_i hT
      exact ⟨g, ty, _, isi_ok g hg T hT, q.ok t _ rfl⟩
    · exact q.elim
  · exact q.elim
theorem ie_isi {a : Expr} {x T : Str} {Ts : String} {p p1 pos : Pos} {m : EM} (hg : Gl X "isinstance") (hm : X.mg "isinstance" = none) (hgT : Gl X T) (hmT : X.mg T = none) (hv : bootBuiltins T = some (.type Ts)) (ha : IB X Wx a m) (hnT : T ≠ "__name__" := by decide) (hdT : (T == ("__debug__" : Str)) = false := by decide)
    (he : starEach [a, .Name T p1] X.env = (false, eval a X.env) :: starEach [.Name T p1] X.env := by rfl) (hpl : (backTo pos (starEach [.Name T p1] X.env)).any (·.1) = false := by rfl) :
    IE X Wx (.Call (.Name "isinstance" p) [a, .Name T p1] [] pos) (eOp1 (opIsi Ts) m) := by
  refine pe_imp (pe_callB (call_isiY (T := Ts)) hg hm (by decide +kernel) (pa_cons ha (pa_cons (pe_bltn (v := .ty Ts) hgT hmT hv rfl hnT hdT) pa_nil) he) (by decide) (by decide) he hpl) fun s H Q h => ?_
  have h2 := op1_imp (sp_isi (T := Ts)) s H Q h
  obtain ⟨F0, F, r, S, sw, t, st, q⟩ := h2
  exact ⟨F0, F, r, S, sw, t, st, q.imp fun w F' H' r' z v rv => ⟨v, rfl, z v rv⟩⟩
end
end ML
set_option Elab.async false
set_option linter.all false
set_option maxRecDepth 100000
set_option maxHeartbeats 4000000
namespace ML
open PySem PySem.Spec PyProof.Rows L2

/-! ### targets -/
abbrev GM := W → SW → Option SW
def tG (k : Kw) (ix : List Nat) (g : GM) : TG := fun v s H Q => ∃ F0 F rho S sw w sw', Sto k F H rho S ∧ StR k F0 F H rho s sw ∧ RepV k F H rho w v ∧ g w sw = some sw' ∧
  ∀ s', StR k F0 F H rho s' sw' → s'.length = s.length → (∀ j, j ∉ ix → s'[j]? = s[j]?) → Q s' H
abbrev IG (X : Cx) (tg : Expr) (ix : List Nat) (g : GM) : Prop := PG X tg (tG (kw X) ix g)
def gN (i : Nat) : GM := fun w sw => some (sw.set i (some (.val w)))
def setAll : List Nat → List W → SW → SW
  | i :: is, w :: ws, sw => setAll is ws (sw.set i (some (.val w)))
  | _, _, sw => sw
def gT (is : List Nat) : GM := fun w sw => match w with
  | .tup ws => if ws.length = is.length then some (setAll is ws sw) else none
  | _ => none
section
variable {X : Cx} {Wx : WX} {pos : Pos}
theorem pg_imp {tg : Expr} {t t' : TG} (h : PG X tg t) (i : ∀ v s H Q, t' v s H Q → t v s H Q) : PG X tg t' := ⟨fun pins s σ H v u Q I r q => h.run pins s σ H v u Q I r (i _ _ _ _ q)⟩
theorem pgs_imp {tg : List Expr} {t t' : TGs} (h : PGs X tg t) (i : ∀ v s H Q, t' v s H Q → t v s H Q) : PGs X tg t' := ⟨fun pins s σ H v u Q I r q => h.run pins s σ H v u Q I r (i _ _ _ _ q)⟩
theorem ig_name {i : Nat} {x : Str} (hN : X.N.Nodup) (hi : X.N[i]? = some x) (hx : Loc X.env.scope x) (hf : X.fn x = true ∨ X.env.scope.names.lookup x = some .local := by first | exact .inl rfl | exact .inr rfl | assumption) : IG X (.Name x pos) [i] (gN i) := by
  refine pg_imp (pg_name hN hi hx hf) fun v s H Q ⟨F0, F, r, S, sw, w, sw', t, st, rv, e, q⟩ => ?_
  cases e
  exact q _ (st.setVal rv i) (by simp) fun j hj => List.getElem?_set_ne (fun z => hj (by simp [z]))
def tGs (k : Kw) (is : List Nat) : TGs := fun vs s H Q => ∃ F0 F rho S sw ws, Sto k F H rho S ∧ StR k F0 F H rho s sw ∧ RepL k F H rho ws vs ∧ ws.length = is.length ∧
  ∀ s', StR k F0 F H rho s' (setAll is ws sw) → s'.length = s.length → (∀ j, j ∉ is → s'[j]? = s[j]?) → Q s' H
theorem igs_nil : PGs X [] (tGs (kw X) []) := by
  refine pgs_imp pgs_nil fun v s H Q ⟨F0, F, r, S, sw, ws, t, st, l, e, q⟩ => ?_
  have e2 : ws = [] := List.eq_nil_of_length_eq_zero e
  subst e2
  exact ⟨l, q s st rfl fun _ _ => rfl⟩
theorem igs_cons {e : Expr} {es : List Expr} {i : Nat} {is : List Nat} (h1 : IG X e [i] (gN i)) (h2 : PGs X es (tGs (kw X) is)) (hs : (assignEach (e :: es) X.env).map (·.2) = assign e X.env :: (assignEach es X.env).map (·.2) := by rfl) : PGs X (e :: es) (tGs (kw X) (i :: is)) := by
  refine pgs_imp (pgs_cons h1 h2 hs) fun v s H Q ⟨F0, F, r, S, sw, ws, t, st, l, e, q⟩ => ?_
  cases ws with
  | nil => cases e
  | cons w ws =>
    obtain ⟨v1, vs, rfl, l1, l2⟩ := l
    refine ⟨v1, vs, rfl, F0, F, r, S, sw, w, _, t, st, l1, rfl, fun s1 st1 hl1 hj1 => ?_⟩
    refine ⟨F0, F, r, S, _, ws, t, st1, l2, by simpa using e, fun s2 st2 hl2 hj2 => ?_⟩
    exact q s2 st2 (hl2.trans hl1) fun j hj => (hj2 j fun z => hj (List.mem_cons_of_mem _ z)).trans (hj1 j fun z => hj (by rw [List.mem_singleton.mp z]; exact List.mem_cons_self))
theorem ig_tup {es : List Expr} {k : Nat} {is : List Nat} (hc : X.calm = true) (h : PGs X es (tGs (kw X) is)) (hn : (assignEach es X.env).length = is.length := by rfl) (hst : (assignEach es X.env).findIdx? (·.1) = none := by rfl) : IG X (.Tuple es k pos) is (gT is) := by
  refine pg_imp (pg_tup hc h hn hst) fun v s H Q ⟨F0, F, r, S, sw, w, sw', t, st, rv, e, q⟩ => ?_
  cases w with
  | tup ws =>
    have e : (if ws.length = is.length then some (setAll is ws sw) else none) = some sw' := e
    split at e
    · rename_i hl
      cases e
      obtain ⟨a, vs, rfl, ha, l⟩ := tup_rep rv
      exact ⟨a, vs, rfl, ha, by rw [← l.length]; exact hl, F0, F, r, S, sw, ws, t, st, l, hl, q⟩
    · cases e
  | _ => cases e
/-- target = value -/
def sAsg (m : EM) (g : GM) : SM := fun sw S => liftS (m sw S) sw fun w S => match g w sw with
  | some sw' => .ok (.nx sw') S
  | none => .bad
theorem is_asg {tg e : Expr} {m : EM} {g : GM} {ix : List Nat} (h : IE X Wx e m) (hg : IG X tg ix g) (hs : swapsWithSole [tg] e pos.line X.env = pure false := by rfl) (hw : swappedStores [tg] e X.env = pure none := by rfl)
    (h1 : (assignEach [tg] X.env).map (·.2) = [assign tg X.env] := by rfl) : IS X Wx (.Assign [tg] e pos) (sAsg m g) := by
  refine ps_imp (ps_asg h hg hs hw h1) fun D s H ⟨F0, H0, r0, F, r, S, sw, x0, t, st, q⟩ => ?_
  refine tE_st x0 t st q fun w v F' H' r' S' x t' st' rv q => ?_
  cases e1 : g w sw with
  | none =>
    rw [e1] at q
    exact q.elim
  | some sw' =>
    rw [e1] at q
    exact ⟨F0, F', r', S', sw, w, sw', t', st', rv, e1, fun s' z _ _ => q F' H' r' s' (x0.trans x) (Mv.refl _ _ _) t' z⟩
/-! ### what is walked -/
structure ItOk (k : Kw) (J : It) (ws : List W) (F : FS) (H : Hp) (r : List Addr) : Prop where
  go : ∀ F1 H1 r1, Mv F H r F1 H1 r1 → (∀ a, F1 a → H1 a ≠ none) → ∀ (i : Nat) (w : W), ws[i]? = some w → J.go i H1 ∧ ∀ x H2, J.yld i H1 x H2 → Ext F1 H1 r1 F1 H2 r1 ∧ (∀ S, Sto k F1 H1 r1 S → Sto k F1 H2 r1 S) ∧ RepV k F1 H2 r1 w x
  stop : ∀ F1 H1 r1, Mv F H r F1 H1 r1 → ∀ i : Nat, ws.length ≤ i → J.stop i H1
abbrev IM := SW → Store → Res (List W)
def tI (k : Kw) (Wx : WX) (m : IM) : TI := fun s H R => ∃ F0 F rho S sw, Sto k F H rho S ∧ StR k F0 F H rho s sw ∧ Run k Wx s F H rho (m sw S) (fun ws F' H' r' => ∀ J, ItOk k J ws F' H' r' → R J H')
abbrev II (X : Cx) (Wx : WX) (tg iter : Expr) (m : IM) : Prop := PI X tg iter (tI (kw X) Wx m)
theorem pi_imp {tg it : Expr} {t t' : TI} (h : PI X tg it t) (i : ∀ s H R, t' s H R → t s H R) : PI X tg it t' := ⟨fun pins s σ H R I q => h.run pins s σ H R I (i _ _ _ q)⟩
theorem Itt_ok {k : Kw} {F : FS} {H : Hp} {r : List Addr} {a : Addr} {ws : List W} {vs : List V} (h : TupAt k.K F H a vs) (l : RepL k F H r ws vs) : ItOk k (Itt k.K a) ws F H r := by
  have sq : ∀ F1 H1 r1, Mv F H r F1 H1 r1 → SqT k.K H1 a vs := fun F1 H1 r1 m => by
    rcases (h.mv m : TupAt k.K F1 H1 a vs) with ⟨q, _⟩ | q
    · exact .inl (.inl q)
    · exact .inr q
  refine ⟨fun F1 H1 r1 m trk i w e => ?_, fun F1 H1 r1 m i hi => ⟨vs, sq F1 H1 r1 m, by rw [← l.length]; exact hi⟩⟩
  obtain ⟨v, e2, rv⟩ := l.get e
  refine ⟨⟨vs, v, sq F1 H1 r1 m, e2⟩, fun x H2 y => ?_⟩
  obtain ⟨rfl, y⟩ := y
  have e3 := y vs (sq F1 H2 r1 m)
  rw [e2] at e3
  cases e3
  exact ⟨Ext.refl _ _ _, fun _ h => h, RepV.mv m _ _ rv⟩
theorem Itl_ok {k : Kw} {F : FS} {H : Hp} {r : List Addr} {a : Addr} {ws : List W} {vs : List V} (h : LstAt F H a vs) (l : RepL k F H r ws vs) : ItOk k (Itl k.K a) ws F H r := by
  have sq : ∀ F1 H1 r1, Mv F H r F1 H1 r1 → SqL k.K H1 a vs := fun F1 H1 r1 m => SqL.of (h.mv m).1
  refine ⟨fun F1 H1 r1 m trk i w e => ?_, fun F1 H1 r1 m i hi => ⟨vs, sq F1 H1 r1 m, by rw [← l.length]; exact hi⟩⟩
  obtain ⟨v, e2, rv⟩ := l.get e
  refine ⟨⟨vs, v, sq F1 H1 r1 m, e2⟩, fun x H2 y => ?_⟩
  obtain ⟨rfl, y⟩ := y
  have e3 := y vs (sq F1 H2 r1 m)
  rw [e2] at e3
  cases e3
  exact ⟨Ext.refl _ _ _, fun _ h => h, RepV.mv m _ _ rv⟩
/-- a tuple, a list, as a value -/
def iSeq (K : PySem.W.Frag) (tl : TE) : TI := fun σ H R => tl σ H fun x H1 => ∃ a, x = .ref a ∧ (((∃ xs, SqL K H1 a xs) ∧ R (Itl K a) H1) ∨ ((∃ xs, SqT K H1 a xs) ∧ R (Itt K a) H1))
theorem pi_seq {tg l : Expr} {tl : TE} (hl : PE X l tl) : PI X tg l (iSeq X.K tl) := by
  refine ⟨fun pins s σ H R I h => ?_⟩
  refine thn (hl.run pins s σ H _ I h) fun v s1 ⟨x, H1, I1, r1, q1⟩ => ?_
  obtain ⟨a, e, q1⟩ := q1
  subst e
  cases r1
  rcases q1 with ⟨⟨xs, hq⟩, q⟩ | ⟨⟨xs, hq⟩, q⟩
  · obtain ⟨its, rv, p, hz⟩ := I1.list hq
    refine wpAny_pyIter_list p.isList ?_
    refine ⟨s1.heap.objs.size, [s1.heap.objs.size], _, _, H1, rfl, I1.kept (t' := s1.toks) fun b o e => Heap.get?_push_of_some _ e, turn_list a _, ⟨_, Heap.get?_push_size _ rfl, rfl, rfl⟩, fun b hb => ?_, q⟩
    have e : b = s1.heap.objs.size := by simpa using hb
    subst e
    exact I1.fpOk (Nat.le_refl _) (I1.hok.fresh (Nat.le_refl _))
  · obtain ⟨its, rv, p, hz⟩ := I1.tuple hq
    refine wpAny_pyIter_tuple (show s1.heap.IsTuple a its.toArray from p) ?_
    refine ⟨s1.heap.objs.size, [s1.heap.objs.size], _, _, H1, rfl, I1.kept (t' := s1.toks) fun b o e => Heap.get?_push_of_some _ e, turn_tuple a _, ⟨_, Heap.get?_push_size _ rfl, rfl, rfl⟩, fun b hb => ?_, q⟩
    have e : b = s1.heap.objs.size := by simpa using hb
    subst e
    exact I1.fpOk (Nat.le_refl _) (I1.hok.fresh (Nat.le_refl _))
def iV (m : EM) : IM := fun sw S => (m sw S).bind fun w S => match w with
  | .tup ws => .ok ws S
  | .lst ws => .ok ws S
  | _ => .bad
theorem ii_v {tg e : Expr} {m : EM} (h : IE X Wx e m) : II X Wx tg e (iV m) := by
  refine pi_imp (pi_seq h) fun s H R ⟨F0, F, r, S, sw, t, st, q⟩ => ?_
  refine tE_bind t st q fun w v Fa Ha ra Sa xa ta sa ba q => ?_
  cases w with
  | tup ws =>
    obtain ⟨a, vs, rfl, hq, l⟩ := ba
    exact ⟨a, rfl, .inr ⟨⟨vs, by rcases hq with ⟨z, _⟩ | z; exact .inl (.inl z); exact .inr z⟩, q.ok ta _ (Itt_ok hq l)⟩⟩
  | lst ws =>
    obtain ⟨a, vs, rfl, hq, l⟩ := ba
    exact ⟨a, rfl, .inl ⟨⟨vs, SqL.of hq.1⟩, q.ok ta _ (Itl_ok hq l)⟩⟩
  | _ => exact q.elim
def rangeW (lo : Int) (n : Nat) : List W := (List.range n).map fun (i : Nat) => .int (lo + (i : Int))
theorem Itr_ok {k : Kw} {F : FS} {H : Hp} {r : List Addr} {lo : Int} {n : Nat} : ItOk k (Itr lo n) (rangeW lo n) F H r := by
  refine ⟨fun F1 H1 r1 m trk i w e => ?_, fun F1 H1 r1 m i hi => ?_⟩
  · unfold rangeW at e
    rw [List.getElem?_map] at e
    obtain ⟨j, e1, e2⟩ := map_some e
    have hi : i < n := by
      have := (List.getElem?_eq_some_iff.mp e1).1
      simpa using this
    rw [List.getElem?_range hi] at e1
    cases e1
    subst e2
    refine ⟨hi, fun x H2 y => ?_⟩
    obtain ⟨rfl, rfl⟩ := y
    exact ⟨Ext.refl _ _ _, fun _ h => h, rfl⟩
  · unfold rangeW at hi
    rw [List.length_map, List.length_range] at hi
    exact hi
def inR (i : Int) : Bool := decide (-(2 ^ 62) ≤ i) && decide (i < 2 ^ 62)
def iR1 (m : EM) : IM := fun sw S => (m sw S).bind fun w S => match w with
  | .int j => if inR j then .ok (rangeW 0 j.toNat) S else .bad
  | _ => .bad
theorem ii_r1 {tg a : Expr} {m : EM} {p pos : Pos} (hg : Gl X "range") (hm : X.mg "range" = none) (ha : IE X Wx a m) (hs : starEach [a] X.env = [(false, eval a X.env)] := by rfl) (hs2 : starEach [a] X.env = (false, eval a X.env) :: starEach [] X.env := by rfl) : II X Wx tg (.Call (.Name "range" p) [a] [] pos) (iR1 m) := by
  refine pi_imp (pi_range1 hg hm (pa_cons ha pa_nil hs2) hs) fun s H R ⟨F0, F, r, S, sw, t, st, q⟩ => ?_
  refine tE_bind t st q fun w v Fa Ha ra Sa xa ta sa ba q => ?_
  cases w with
  | int j =>
    cases ba
    have q : Run (kw X) Wx s Fa Ha ra (if inR j then .ok (rangeW 0 j.toNat) Sa else .bad) (fun ws F' H' r' => ∀ J, ItOk (kw X) J ws F' H' r' → R J H') := q
    split at q
    · rename_i hr
      unfold inR at hr
      simp only [Bool.and_eq_true, decide_eq_true_eq] at hr
      exact ⟨j, rfl, hr.1, hr.2, q.ok ta _ Itr_ok⟩
    · exact q.elim
  | _ => exact q.elim
def iR2 (m n : EM) : IM := fun sw S => (m sw S).bind fun w S => (n sw S).bind fun u S => match w, u with
  | .int i, .int j => if inR i && inR j then .ok (rangeW i (j - i).toNat) S else .bad
  | _, _ => .bad
theorem ii_r2 {tg a b : Expr} {m n : EM} {p pos : Pos} (hg : Gl X "range") (hm : X.mg "range" = none) (ha : IE X Wx a m) (hb : IE X Wx b n) (hs : starEach [a, b] X.env = [(false, eval a X.env), (false, eval b X.env)] := by rfl) (hs2 : starEach [b] X.env = [(false, eval b X.env)] := by rfl)
    (hs3 : starEach [a, b] X.env = (false, eval a X.env) :: starEach [b] X.env := by rfl) (hs4 : starEach [b] X.env = (false, eval b X.env) :: starEach [] X.env := by rfl) : II X Wx tg (.Call (.Name "range" p) [a, b] [] pos) (iR2 m n) := by
  refine pi_imp (pi_range2 hg hm (pa_cons ha (pa_cons hb pa_nil hs4) hs3) hs hs2) fun s H R ⟨F0, F, r, S, sw, t, st, q⟩ => ?_
  refine tE_bind t st q fun w v Fa Ha ra Sa xa ta sa ba q => ?_
  refine tE_bind ta sa q fun u v2 Fb Hb rb Sb xb tb sb bb q => ?_
  cases w with
  | int i =>
    cases u with
    | int j =>
      cases ba
      cases bb
      have q : Run (kw X) Wx s Fb Hb rb (if inR i && inR j then .ok (rangeW i (j - i).toNat) Sb else .bad) (fun ws F' H' r' => ∀ J, ItOk (kw X) J ws F' H' r' → R J H') := q
      split at q
      · rename_i hr
        unfold inR at hr
        simp only [Bool.and_eq_true, decide_eq_true_eq] at hr
        exact ⟨i, j, rfl, ⟨hr.1.1, hr.1.2, hr.2.1, hr.2.2⟩, q.ok tb _ Itr_ok⟩
      · exact q.elim
    | _ => exact q.elim
  | _ => exact q.elim
/-! ### for -/
def forW (g : GM) (b : SM) : List W → SW → Store → RS
  | [], sw, S => .ok (.nx sw) S
  | w :: ws, sw, S => match g w sw with
    | none => .bad
    | some sw1 => match b sw1 S with
      | .ok (.nx sw2) S2 => forW g b ws sw2 S2
      | .ok (.ct sw2) S2 => forW g b ws sw2 S2
      | .ok (.bk sw2) S2 => .ok (.nx sw2) S2
      | .ok (.rt r) S2 => .ok (.rt r) S2
      | .exc c fs vs sw2 S2 => .exc c fs vs sw2 S2
      | .bad => .bad
def sFor (it : IM) (g : GM) (b : SM) : SM := fun sw S => liftS (it sw S) sw fun ws S => forW g b ws sw S
theorem for_imp {k : Kw} {it : IM} {g : GM} {b : SM} {ix : List Nat} (D : Ends) (s : L2.St) (H : Hp) (h : tS k Wx (sFor it g b) D s H) : tFor (tI k Wx it) (tG k ix g) (tS k Wx b) D s H := by
  obtain ⟨F0, H0, r0, F, r, S, sw, x0, t, st, q⟩ := h
  refine ⟨F0, F, r, S, sw, t, st, ?_⟩
  unfold sFor at q
  cases e : it sw S with
  | bad =>
    rw [e] at q
    exact q
  | exc c fs ws S' =>
    rw [e] at q
    exact fun d vs F' H' r' x t' ed l => q d vs F' H' r' s (x0.trans x) (x.mv t.inF) t' (st.ext x t) ed l
  | ok ws S' =>
    rw [e] at q
    intro Fj Hj rj xj tj J ok
    refine ⟨fun i m s H => m = ws.length - i ∧ i ≤ ws.length ∧ ∃ F r S sw, Ext F0 H0 r0 F H r ∧ Mv Fj Hj rj F H r ∧ Sto k F H r S ∧ StR k F0 F H r s sw ∧ RunS k Wx F0 H0 r0 F H r (forW g b (ws.drop i) sw S) D,
      ⟨ws.length, by omega, Nat.zero_le _, Fj, rj, S', sw, x0.trans xj, Mv.refl _ _ _, tj, st.ext xj t, q.rebase (xj.mv t.inF)⟩, ?_⟩
    rintro i m s H ⟨rfl, hi, F, r, S, sw, x0, mj, t, st, q⟩
    by_cases hlt : i < ws.length
    · rw [List.drop_eq_getElem_cons hlt] at q
      have hw : ws[i]? = some ws[i] := List.getElem?_eq_getElem hlt
      obtain ⟨go, yl⟩ := ok.go F H r mj t.trk i _ hw
      refine .inr ⟨go, fun s H => ∃ F r S sw, Ext F0 H0 r0 F H r ∧ Mv Fj Hj rj F H r ∧ Sto k F H r S ∧ StR k F0 F H r s sw ∧ RunS k Wx F0 H0 r0 F H r (forW g b (ws.drop (i + 1)) sw S) D, fun s' H' z => ⟨ws.length - (i + 1), by omega, rfl, hlt, z⟩, fun x H2 y => ?_⟩
      obtain ⟨x2, t2, rx⟩ := yl x H2 y
      have t3 := t2 S t
      have st3 := st.ext x2 t
      have m2 := x2.mv t.inF
      unfold forW at q
      cases e1 : g ws[i] sw with
      | none =>
        rw [e1] at q
        exact q.elim
      | some sw1 =>
        rw [e1] at q
        dsimp only at q
        refine ⟨F0, F, r, S, sw, ws[i], sw1, t3, st3, rx, e1, fun s1 st1 _ _ => ?_⟩
        refine ⟨F0, H0, r0, F, r, S, sw1, x0.trans x2, t3, st1, ?_⟩
        cases e2 : b sw1 S with
        | ok f S2 =>
          rw [e2] at q
          cases f with
          | nx sw2 => exact fun F' H' r' s' x' m' t' st' => ⟨F', r', S2, sw2, x', mj.trans (m2.trans m'), t', st', q.rebase (m2.trans m')⟩
          | ct sw2 => exact fun F' H' r' s' x' m' t' st' => ⟨F', r', S2, sw2, x', mj.trans (m2.trans m'), t', st', q.rebase (m2.trans m')⟩
          | bk sw2 => exact fun F' H' r' s' x' m' t' st' => q F' H' r' s' x' (m2.trans m') t' st'
          | rt rv => exact q
        | exc c fs vs sw2 S2 =>
          rw [e2] at q
          exact fun d vs F' H' r' s' x' m' => q d vs F' H' r' s' x' (m2.trans m')
        | bad =>
          rw [e2] at q
          exact q
    · have e : i = ws.length := by omega
      subst e
      rw [List.drop_length] at q
      exact .inl ⟨ok.stop F H r mj _ (Nat.le_refl _), q F H r s x0 (Mv.refl _ _ _) t st⟩
theorem is_for {tg iter : Expr} {body : List Stmt} {it : IM} {g : GM} {ix : List Nat} {b : SM} (hp : PassesOwn (model X.prog X.w) X.A X.env X.xe) (hc : X.calm = true) (hi : II X Wx tg iter it) (hg : IG X tg ix g) (hb : ISs X Wx body b)
    (hs : ∀ x, foldedSetIterable iter X.env x = pure x := by intro _; rfl) : IS X Wx (.For tg iter body [] pos) (sFor it g b) := ps_imp (ps_for hp hc hi hg hb hs) for_imp
/-! ### while -/
def whileW (c : TM) (b : SM) : Nat → SW → Store → RS
  | 0, _, _ => .bad
  | n + 1, sw, S => liftS (c sw S) sw fun c1 S => if c1 then (match b sw S with
      | .ok (.nx sw2) S2 => whileW c b n sw2 S2
      | .ok (.ct sw2) S2 => whileW c b n sw2 S2
      | .ok (.bk sw2) S2 => .ok (.nx sw2) S2
      | .ok (.rt r) S2 => .ok (.rt r) S2
      | .exc c fs vs sw2 S2 => .exc c fs vs sw2 S2
      | .bad => .bad) else .ok (.nx sw) S
theorem while_imp {k : Kw} {c : TM} {b : SM} {n : Nat} (D : Ends) (s : L2.St) (H : Hp) (h : tS k Wx (whileW c b n) D s H) : tWhile (tT k Wx c) (tS k Wx b) D s H := by
  obtain ⟨F0, H0, r0, F, r, S, sw, x0, t, st, q⟩ := h
  refine ⟨fun m s H => ∃ Fb Hb rb F r S sw, Ext F0 H0 r0 F H r ∧ Mv Fb Hb rb F H r ∧ Sto k F H r S ∧ StR k F0 F H r s sw ∧ RunS k Wx F0 H0 r0 F H r (whileW c b m sw S) D, ⟨n, F, H, r, F, r, S, sw, x0, Mv.refl _ _ _, t, st, q⟩, ?_⟩
  rintro m s H ⟨Fb, Hb, rb, F, r, S, sw, x0, mb, t, st, q⟩
  cases m with
  | zero => exact q.elim
  | succ m =>
    unfold whileW at q
    refine tT_st x0 t st q fun c1 F' H' r' S' x t' st' q => ?_
    cases c1 with
    | false => exact q F' H' r' s (x0.trans x) (Mv.refl _ _ _) t' st'
    | true =>
      refine ⟨fun s H => ∃ Fb Hb rb F r S sw, Ext F0 H0 r0 F H r ∧ Mv Fb Hb rb F H r ∧ Sto k F H r S ∧ StR k F0 F H r s sw ∧ RunS k Wx F0 H0 r0 F H r (whileW c b m sw S) D, fun s' H' z => ⟨m, Nat.lt_succ_self _, z⟩, F0, H0, r0, F', r', S', sw, x0.trans x, t', st', ?_⟩
      have q : RunS k Wx F0 H0 r0 F' H' r' (match b sw S' with
        | .ok (.nx sw2) S2 => whileW c b m sw2 S2
        | .ok (.ct sw2) S2 => whileW c b m sw2 S2
        | .ok (.bk sw2) S2 => .ok (.nx sw2) S2
        | .ok (.rt r) S2 => .ok (.rt r) S2
        | .exc c fs vs sw2 S2 => .exc c fs vs sw2 S2
        | .bad => .bad) D := q
      cases e2 : b sw S' with
      | ok f S2 =>
        rw [e2] at q
        cases f with
        | nx sw2 => exact fun F2 H2 r2 s2 x2 m2 t2 st2 => ⟨F', H', r', F2, r2, S2, sw2, x2, m2, t2, st2, q.rebase m2⟩
        | ct sw2 => exact fun F2 H2 r2 s2 x2 m2 t2 st2 => ⟨F', H', r', F2, r2, S2, sw2, x2, m2, t2, st2, q.rebase m2⟩
        | bk sw2 => exact q
        | rt rv => exact q
      | exc c fs vs sw2 S2 =>
        rw [e2] at q
        exact q
      | bad =>
        rw [e2] at q
        exact q
theorem is_while {c : Expr} {body : List Stmt} {mc : TM} {b : SM} (n : Nat) (hp : PassesOwn (model X.prog X.w) X.A X.env X.xe) (hc : IT X Wx c mc) (hb : ISs X Wx body b) : IS X Wx (.While c body [] pos) (whileW mc b n) := ps_imp (ps_while hp hc hb) while_imp
end
/-! ### writes at what is guarded and not in the store -/
section
variable {k : Kw} {Wx : WX} {s : L2.St} {sw : SW} {F0 F : FS} {H : Hp} {r : List Addr} {S : Store} {p : Addr} {o : HO}
theorem Mv.writeO (fp : F p) : Mv F H r F (upd H p o) r := ⟨fun a u h n => by rw [upd_ne fun z => n (by rw [z]; exact fp)]; exact h, fun _ _ n => n, ⟨[], by simp⟩⟩
theorem Sto.writeO (t : Sto k F H r S) (fp : F p) (np : p ∉ r) : Sto k F (upd H p o) r S :=
  ⟨t.len, t.nd, t.inF, fun a f => upd_dom a (t.trk a f), fun n ob a h1 h2 => (t.obj n ob a h1 h2).mv (Mv.writeO fp) fun u h => by
    rw [upd_ne fun z => np (by rw [← z]; exact List.mem_of_getElem? h2)]
    exact h⟩
theorem StR.writeO (st : StR k F0 F H r s sw) (fp : F p) (ne : ∀ (j : Nat) (o' : O), sw[j]? = some (some (Sl.own o')) → s[j]? ≠ some (some (V.ref p))) : StR k F0 F (upd H p o) r s sw := by
  refine ⟨st.len, fun i w h => ?_, fun i o' h => ?_, st.dis⟩
  · obtain ⟨v, e, q⟩ := st.val i w h
    exact ⟨v, e, RepV.mv (Mv.writeO fp) _ _ q⟩
  · obtain ⟨a, e, f, n0, nr, ob⟩ := st.own i o' h
    exact ⟨a, e, f, n0, nr, ob.mv (Mv.writeO fp) fun u hu => by
      rw [upd_ne fun z => ne i o' h (by rw [e, z])]
      exact hu⟩
end
end ML
set_option Elab.async false
set_option linter.all false
set_option maxRecDepth 100000
set_option maxHeartbeats 4000000
namespace ML
open PySem PySem.Spec PyProof.Rows L2

section
variable {k : Kw} {Wx : WX} {s : L2.St} {sw : SW} {F0 F : FS} {H H0 : Hp} {r r0 : List Addr} {S : Store} {p a : Addr} {ho : HO}
theorem Ext.writeO (x : Ext F0 H0 r0 F H r) (h0 : H0 a = none) : Ext F0 H0 r0 F (upd H a ho) r :=
  ⟨x.sub, x.new, x.pre, fun b o h n => by rw [upd_ne (ne_of_none h h0)]; exact x.kp b o h n, fun b h => upd_dom b (x.dom b h)⟩
theorem StR.updOwn {i : Nat} {o o' : O} (st : StR k F0 F H r s sw) (hi : sw[i]? = some (some (.own o))) (ha : s[i]? = some (some (.ref a))) (fa : F a) (n0 : ¬ F0 a) (na : a ∉ r) (ob : ObjR k F (upd H a ho) r a o') :
    StR k F0 F (upd H a ho) r s (sw.set i (some (.own o'))) := by
  have mv : Mv F H r F (upd H a ho) r := Mv.writeO fa
  refine ⟨by simpa using st.len, fun j w h => ?_, fun j u h => ?_, fun j l o1 o2 b h1 h2 h3 h4 => ?_⟩
  · rcases set_get h with ⟨_, e, _⟩ | ⟨_, h⟩
    · cases e
    · obtain ⟨v, e, q⟩ := st.val j w h
      exact ⟨v, e, RepV.mv mv _ _ q⟩
  · rcases set_get h with ⟨e1, e, _⟩ | ⟨ne, h⟩
    · subst e1
      cases e
      exact ⟨a, ha, fa, n0, na, ob⟩
    · obtain ⟨b, e, f, nb0, nb, q⟩ := st.own j u h
      refine ⟨b, e, f, nb0, nb, q.mv mv fun u' hu => ?_⟩
      rw [upd_ne fun z => ne (st.dis i j o u a hi h ha (by rw [e, z]))]
      exact hu
  · have own : ∀ (j : Nat) (u : O), (sw.set i (some (.own o')))[j]? = some (some (.own u)) → ∃ u', sw[j]? = some (some (.own u')) := fun j u h => by
      rcases set_get h with ⟨e1, _, _⟩ | ⟨_, h⟩
      · subst e1
        exact ⟨o, hi⟩
      · exact ⟨u, h⟩
    obtain ⟨u1, g1⟩ := own j o1 h1
    obtain ⟨u2, g2⟩ := own l o2 h2
    exact st.dis j l u1 u2 b g1 g2 h3 h4
theorem get_inj {r : List Addr} (nd : r.Nodup) {i j : Nat} {x : Addr} (a : r[i]? = some x) (b : r[j]? = some x) : i = j := by
  obtain ⟨h1, e1⟩ := List.getElem?_eq_some_iff.mp a
  obtain ⟨h2, e2⟩ := List.getElem?_eq_some_iff.mp b
  exact (List.getElem_inj nd).mp (e1.trans e2.symm)
theorem Ext.put {n : Nat} (h : r[n]? = some a) : Ext F H r F (upd H a ho) r :=
  ⟨fun _ h => h, fun _ h n => absurd h n, ⟨[], by simp, by simp⟩, fun b o h' nb => by rw [upd_ne fun z => nb (by rw [z]; exact List.mem_of_getElem? h)]; exact h', upd_dom⟩
theorem Sto.put {n : Nat} {o' : O} (t : Sto k F H r S) (h : r[n]? = some a) (ob : ObjR k F (upd H a ho) r a o') : Sto k F (upd H a ho) r (S.set n o') := by
  have fa : F a := t.inF a (List.mem_of_getElem? h)
  refine ⟨by rw [List.length_set]; exact t.len, t.nd, t.inF, fun b f => upd_dom b (t.trk b f), fun m o b h1 h2 => ?_⟩
  by_cases e : n = m
  · subst e
    rw [h] at h2
    cases h2
    by_cases hl : n < S.length
    · rw [List.getElem?_set_self hl] at h1
      cases h1
      exact ob
    · rw [List.getElem?_eq_none (by simpa using hl)] at h1
      cases h1
  · rw [List.getElem?_set_ne e] at h1
    refine (t.obj m o b h1 h2).mv (Mv.writeO fa) fun u hu => ?_
    rw [upd_ne fun z => e (get_inj t.nd h (by rw [h2, z]))]
    exact hu
end
section
variable {X : Cx} {Wx : WX} {o a : Expr} {apos cpos pos : Pos}
/-! ### x.append(e), x.extend(e): x a slot's own list -/
def ownL (sw : SW) (i : Nat) : Option (List W) := match sw[i]? with
  | some (some (.own (.lst ws))) => some ws
  | _ => none
theorem ownL_get {sw : SW} {i : Nat} {ws : List W} (h : ownL sw i = some ws) : sw[i]? = some (some (.own (.lst ws))) := by
  unfold ownL at h
  split at h
  · rename_i ws' e
    cases h
    exact e
  · cases h
def sAppO (i : Nat) (m : EM) : SM := fun sw S => match ownL sw i with
  | some ws => liftS (m sw S) sw fun w S => if ws.length < sizeLine then .ok (.nx (sw.set i (some (.own (.lst (ws ++ [w])))))) S else .bad
  | none => .bad
theorem is_appO {i : Nat} {m : EM} (hv : PE X o (tVar i)) (he : IE X Wx a m) (hbase : attributeBase o "append" X.env (eval o X.env) = eval o X.env := by rfl)
    (hfew : ((backTo cpos (starEach [a] X.env)).all (fun x => !x.1) && (backToKw cpos (keywordEach [] X.env)).all (fun x => x.1.isSome)
      && decide (([a] : List Expr).length + ([] : List Keyword).length + (if ([] : List Keyword).isEmpty then 0 else 1) < 30)) = true := by rfl)
    (hline : (apos.endLine == cpos.line) = true := by rfl) (hs : starEach [a] X.env = (false, eval a X.env) :: starEach [] X.env := by rfl)
    (hsw : swapsWith (.Call (.Attribute o "append" apos) [a] [] cpos) none pos.line X.env = pure false := by rfl) : IS X Wx (.Expr (.Call (.Attribute o "append" apos) [a] [] cpos) pos) (sAppO i m) := by
  refine ps_imp (ps_expr (pe_bm PySem.F.plainAttrs_list PySem.F.slot_list_append PySem.F.type_list_append mt_append hv (pa_cons he pa_nil hs) hbase hfew hline hs) hsw) fun D s H ⟨F0, H0, r0, F, r, S, sw, x0, t, st, q⟩ => ?_
  unfold sAppO at q
  cases e1 : ownL sw i with
  | none =>
    rw [e1] at q
    exact q.elim
  | some ws =>
    rw [e1] at q
    have e2 := ownL_get e1
    obtain ⟨p, h1, _, _, _, vs, h2, _⟩ := st.own i _ e2
    refine ⟨.ref p, h1, .inl ⟨rfl, vs, SqL.of h2⟩, ?_⟩
    refine tE_st x0 t st q fun w v F' H' r' S' x t' st' rv q => ?_
    obtain ⟨p', h1', fp, n0, np, vs', h2', l⟩ := st'.own i _ e2
    rw [h1] at h1'
    cases h1'
    split at q
    · rename_i hl
      refine ⟨p, vs', v, rfl, rfl, h2', by rw [← l.length]; exact hl, ?_⟩
      have x0' := x0.trans x
      exact q F' _ r' s (x0'.writeO (x0'.new p fp n0)) (Mv.writeO fp) (t'.writeO fp np) (st'.updOwn e2 h1 fp n0 np ⟨vs' ++ [v], upd_same, RepL.mv (Mv.writeO fp) _ _ (l.app ⟨v, [], rfl, rv, rfl⟩)⟩)
    · exact q.elim
def sExtO (i : Nat) (m : EM) : SM := fun sw S => match ownL sw i with
  | some ws => liftS (m sw S) sw fun w S => match cont sw S w with
    | some ys => if ws.length + ys.length ≤ sizeLine then .ok (.nx (sw.set i (some (.own (.lst (ws ++ ys)))))) S else .bad
    | none => .bad
  | none => .bad
theorem is_extO {i : Nat} {m : EM} (hv : PE X o (tVar i)) (he : IB X Wx a m) (hbase : attributeBase o "extend" X.env (eval o X.env) = eval o X.env := by rfl)
    (hfew : ((backTo cpos (starEach [a] X.env)).all (fun x => !x.1) && (backToKw cpos (keywordEach [] X.env)).all (fun x => x.1.isSome)
      && decide (([a] : List Expr).length + ([] : List Keyword).length + (if ([] : List Keyword).isEmpty then 0 else 1) < 30)) = true := by rfl)
    (hline : (apos.endLine == cpos.line) = true := by rfl) (hs : starEach [a] X.env = (false, eval a X.env) :: starEach [] X.env := by rfl)
    (hsw : swapsWith (.Call (.Attribute o "extend" apos) [a] [] cpos) none pos.line X.env = pure false := by rfl) : IS X Wx (.Expr (.Call (.Attribute o "extend" apos) [a] [] cpos) pos) (sExtO i m) := by
  refine ps_imp (ps_expr (pe_bm PySem.F.plainAttrs_list PySem.F.slot_list_extend PySem.F.type_list_extend mt_extend hv (pa_cons he pa_nil hs) hbase hfew hline hs) hsw) fun D s H ⟨F0, H0, r0, F, r, S, sw, x0, t, st, q⟩ => ?_
  unfold sExtO at q
  cases e1 : ownL sw i with
  | none =>
    rw [e1] at q
    exact q.elim
  | some ws =>
    rw [e1] at q
    have e2 := ownL_get e1
    obtain ⟨p, h1, _, _, _, vs, h2, _⟩ := st.own i _ e2
    refine ⟨.ref p, h1, .inl ⟨rfl, vs, SqL.of h2⟩, ?_⟩
    refine tB_st x0 t st q fun w v F' H' r' S' x t' st' rv q => ?_
    obtain ⟨p', h1', fp, n0, np, vs', h2', l⟩ := st'.own i _ e2
    rw [h1] at h1'
    cases h1'
    cases e3 : cont sw S' w with
    | none =>
      rw [e3] at q
      exact q.elim
    | some ys =>
      rw [e3] at q
      dsimp only at q
      split at q
      · rename_i hl
        obtain ⟨b, us, rfl, hb, lb⟩ := cont_rep t' st' rv e3
        refine ⟨p, b, vs', us, rfl, rfl, h2', hb, by rw [← l.length, ← lb.length]; exact hl, ?_⟩
        have x0' := x0.trans x
        exact q F' _ r' s (x0'.writeO (x0'.new p fp n0)) (Mv.writeO fp) (t'.writeO fp np) (st'.updOwn e2 h1 fp n0 np ⟨vs' ++ us, upd_same, RepL.mv (Mv.writeO fp) _ _ (l.app lb)⟩)
      · exact q.elim
/-- x[i] = e, x a slot's own list -/
def sPutO (i : Nat) (mi me : EM) : SM := fun sw S => liftS (me sw S) sw fun w S => match ownL sw i with
  | some ws => liftS (mi sw S) sw fun j S => match j with
    | .int j => match ixN ws.length j with
      | some n => .ok (.nx (sw.set i (some (.own (.lst (ws.set n w)))))) S
      | none => .bad
    | _ => .bad
  | none => .bad
theorem is_putO {i : Nat} {e b : Expr} {mi me : EM} {spos : Pos} (hv : PE X o (tVar i)) (hi : IE X Wx b mi) (he : IE X Wx e me)
    (ha : ∀ v, assign (.Subscript o b spos) X.env v = (do
      let ov ← holding [v] (eval o X.env)
      let iv ← holding [v, ov] (eval b X.env)
      standAt spos
      holding [v, ov, iv] (setItem ov iv v)
      release [v, ov, iv] []) := by intro _; rfl)
    (hs : swapsWithSole [.Subscript o b spos] e pos.line X.env = pure false := by rfl) (hw : swappedStores [.Subscript o b spos] e X.env = pure none := by rfl)
    (h1 : (assignEach [.Subscript o b spos] X.env).map (·.2) = [assign (.Subscript o b spos) X.env] := by rfl) : IS X Wx (.Assign [.Subscript o b spos] e pos) (sPutO i mi me) := by
  refine ps_imp (ps_asg he (pg_sub hv hi set_list ha) hs hw h1) fun D s H ⟨F0, H0, r0, F, r, S, sw, x0, t, st, q⟩ => ?_
  refine tE_st x0 t st q fun w v F1 H1 r1 S1 x1 t1 st1 rv q => ?_
  cases e1 : ownL sw i with
  | none =>
    rw [e1] at q
    exact q.elim
  | some ws =>
    rw [e1] at q
    have e2 := ownL_get e1
    obtain ⟨p, hp1, _, _, _, vs, h2, _⟩ := st1.own i _ e2
    refine ⟨.ref p, hp1, ?_⟩
    refine tE_st (x0.trans x1) t1 st1 q fun j u F' H' r' S' x t' st' ru q => ?_
    cases j with
    | int j =>
      cases ru
      obtain ⟨p', h1', fp, n0, np, vs', h2', l⟩ := st'.own i _ e2
      rw [hp1] at h1'
      cases h1'
      dsimp only at q
      split at q
      · rename_i n hn
        refine ⟨p, vs', j, n, rfl, rfl, h2', by rw [← l.length]; exact hn, ?_⟩
        have x0' := (x0.trans x1).trans x
        exact q F' _ r' s (x0'.writeO (x0'.new p fp n0)) (Mv.writeO fp) (t'.writeO fp np) (st'.updOwn e2 hp1 fp n0 np ⟨vs'.set n v, upd_same, RepL.mv (Mv.writeO fp) _ _ (l.set n (RepV.mv (x.mv t1.inF) _ _ rv))⟩)
      · exact q.elim
    | _ => exact q.elim
/-! ### the same of a list of the store -/
def locL (S : Store) (w : W) : Option (Nat × List W) := match w with
  | .loc n => match S[n]? with
    | some (.lst ws) => some (n, ws)
    | _ => none
  | _ => none
theorem locL_rep {k : Kw} {F : FS} {H : Hp} {r : List Addr} {S : Store} {w : W} {v : V} {n : Nat} {ws : List W} (t : Sto k F H r S) (b : RepV k F H r w v) (h : locL S w = some (n, ws)) : w = .loc n ∧ S[n]? = some (.lst ws) ∧ ∃ a vs, v = .ref a ∧ r[n]? = some a ∧ H a = some (.lst vs) ∧ RepL k F H r ws vs := by
  unfold locL at h
  split at h
  · rename_i m
    split at h
    · rename_i ws' e
      cases h
      obtain ⟨a, e1, rfl⟩ := b
      obtain ⟨vs, q1, q2⟩ := t.obj n _ a e e1
      exact ⟨rfl, e, a, vs, rfl, e1, q1, q2⟩
    · cases h
  · cases h
def sAppL (mo m : EM) : SM := fun sw S => liftS (mo sw S) sw fun x S => match locL S x with
  | some _ => liftS (m sw S) sw fun w S => match locL S x with
    | some (n, ws) => if ws.length < sizeLine then .ok (.nx sw) (S.set n (.lst (ws ++ [w]))) else .bad
    | none => .bad
  | none => .bad
theorem is_appL {mo m : EM} (ho : IE X Wx o mo) (he : IE X Wx a m) (hbase : attributeBase o "append" X.env (eval o X.env) = eval o X.env := by rfl)
    (hfew : ((backTo cpos (starEach [a] X.env)).all (fun x => !x.1) && (backToKw cpos (keywordEach [] X.env)).all (fun x => x.1.isSome)
      && decide (([a] : List Expr).length + ([] : List Keyword).length + (if ([] : List Keyword).isEmpty then 0 else 1) < 30)) = true := by rfl)
    (hline : (apos.endLine == cpos.line) = true := by rfl) (hs : starEach [a] X.env = (false, eval a X.env) :: starEach [] X.env := by rfl)
    (hsw : swapsWith (.Call (.Attribute o "append" apos) [a] [] cpos) none pos.line X.env = pure false := by rfl) : IS X Wx (.Expr (.Call (.Attribute o "append" apos) [a] [] cpos) pos) (sAppL mo m) := by
  refine ps_imp (ps_expr (pe_bm PySem.F.plainAttrs_list PySem.F.slot_list_append PySem.F.type_list_append mt_append ho (pa_cons he pa_nil hs) hbase hfew hline hs) hsw) fun D s H ⟨F0, H0, r0, F, r, S, sw, x0, t, st, q⟩ => ?_
  refine tE_st x0 t st q fun wx vx F1 H1 r1 S1 x1 t1 st1 rx q => ?_
  cases e1 : locL S1 wx with
  | none =>
    rw [e1] at q
    exact q.elim
  | some nw =>
    rw [e1] at q
    obtain ⟨n, ws⟩ := nw
    obtain ⟨rfl, _, p, vs, rfl, hp, h2, _⟩ := locL_rep t1 rx e1
    refine ⟨.inl ⟨rfl, vs, SqL.of h2⟩, ?_⟩
    refine tE_st (x0.trans x1) t1 st1 q fun w v F' H' r' S' x t' st' rv q => ?_
    cases e2 : locL S' (.loc n) with
    | none =>
      rw [e2] at q
      exact q.elim
    | some nw2 =>
      rw [e2] at q
      obtain ⟨n2, ws2⟩ := nw2
      obtain ⟨e3, _, p2, vs2, e4, hp2, h22, l⟩ := locL_rep t' (RepV.mv (x.mv t1.inF) _ _ rx) e2
      cases e3
      cases e4
      dsimp only at q
      split at q
      · rename_i hl
        refine ⟨p, vs2, v, rfl, rfl, h22, by rw [← l.length]; exact hl, ?_⟩
        have fp : F' p := t'.inF p (List.mem_of_getElem? hp2)
        exact q F' _ r' s (((x0.trans x1).trans x).trans (Ext.put hp2)) (Mv.writeO fp) (t'.put hp2 ⟨vs2 ++ [v], upd_same, RepL.mv (Mv.writeO fp) _ _ (l.app ⟨v, [], rfl, rv, rfl⟩)⟩) (st'.ext (Ext.put hp2) t')
      · exact q.elim
def sPutL (mo mi me : EM) : SM := fun sw S => liftS (me sw S) sw fun w S => liftS (mo sw S) sw fun x S => liftS (mi sw S) sw fun j S => match locL S x, j with
  | some (n, ws), .int j => match ixN ws.length j with
    | some m => .ok (.nx sw) (S.set n (.lst (ws.set m w)))
    | none => .bad
  | _, _ => .bad
theorem is_putL {e b : Expr} {mo mi me : EM} {spos : Pos} (ho : IE X Wx o mo) (hi : IE X Wx b mi) (he : IE X Wx e me)
    (ha : ∀ v, assign (.Subscript o b spos) X.env v = (do
      let ov ← holding [v] (eval o X.env)
      let iv ← holding [v, ov] (eval b X.env)
      standAt spos
      holding [v, ov, iv] (setItem ov iv v)
      release [v, ov, iv] []) := by intro _; rfl)
    (hs : swapsWithSole [.Subscript o b spos] e pos.line X.env = pure false := by rfl) (hw : swappedStores [.Subscript o b spos] e X.env = pure none := by rfl)
    (h1 : (assignEach [.Subscript o b spos] X.env).map (·.2) = [assign (.Subscript o b spos) X.env] := by rfl) : IS X Wx (.Assign [.Subscript o b spos] e pos) (sPutL mo mi me) := by
  refine ps_imp (ps_asg he (pg_sub ho hi set_list ha) hs hw h1) fun D s H ⟨F0, H0, r0, F, r, S, sw, x0, t, st, q⟩ => ?_
  refine tE_st x0 t st q fun w v F1 H1 r1 S1 x1 t1 st1 rv q => ?_
  refine tE_st (x0.trans x1) t1 st1 q fun wo vo F2 H2 r2 S2 x2 t2 st2 ro q => ?_
  refine tE_st ((x0.trans x1).trans x2) t2 st2 q fun j u F' H' r' S' x t' st' ru q => ?_
  cases e2 : locL S' wo with
  | none =>
    rw [e2] at q
    exact q.elim
  | some nw2 =>
    rw [e2] at q
    obtain ⟨n, ws⟩ := nw2
    obtain ⟨rfl, _, p, vs, rfl, hp, h2, l⟩ := locL_rep t' (RepV.mv (x.mv t2.inF) _ _ ro) e2
    cases j with
    | int j =>
      cases ru
      dsimp only at q
      split at q
      · rename_i m hn
        refine ⟨p, vs, j, m, rfl, rfl, h2, by rw [← l.length]; exact hn, ?_⟩
        have fp : F' p := t'.inF p (List.mem_of_getElem? hp)
        have rv' := RepV.mv (x.mv t2.inF) _ _ (RepV.mv (x2.mv t1.inF) _ _ rv)
        exact q F' _ r' s ((((x0.trans x1).trans x2).trans x).trans (Ext.put hp)) (Mv.writeO fp) (t'.put hp ⟨vs.set m v, upd_same, RepL.mv (Mv.writeO fp) _ _ (l.set m rv')⟩) (st'.ext (Ext.put hp) t')
      · exact q.elim
    | _ => exact q.elim
/-! ### list(x), tuple(x) -/
def seqOf (sw : SW) (S : Store) : W → Option (List W)
  | .tup ws => some ws
  | w => cont sw S w
def fOp1 (f : SW → W → Store → Res O) (a : EM) : FM := fun sw S => (a sw S).bind fun x S => f sw x S
def opList : SW → W → Store → Res O := fun sw x S => match seqOf sw S x with
  | some ws => .ok (.lst ws) S
  | none => .bad
theorem seq_rep {k : Kw} {F0 F : FS} {H : Hp} {r : List Addr} {S : Store} {s : L2.St} {sw : SW} {w : W} {v : V} {ws : List W} (t : Sto k F H r S) (st : StR k F0 F H r s sw) (b : RepB k F H r s sw w v) (h : seqOf sw S w = some ws) :
    ∃ a vs, v = .ref a ∧ (H a = some (.lst vs) ∨ SqT k.K H a vs) ∧ RepL k F H r ws vs := by
  have gen : cont sw S w = some ws → ∃ a vs, v = .ref a ∧ (H a = some (.lst vs) ∨ SqT k.K H a vs) ∧ RepL k F H r ws vs := fun h => by
    obtain ⟨a, vs, e, q, l⟩ := cont_rep t st b h
    exact ⟨a, vs, e, .inl q, l⟩
  cases w with
  | tup l =>
    cases h
    obtain ⟨a, vs, e, q, l⟩ := tup_rep b
    exact ⟨a, vs, e, .inr q, l⟩
  | _ => exact gen h
variable {p : Pos}
theorem if_list {m : EM} (hg : Gl X "list") (hm : X.mg "list" = none) (ha : IB X Wx a m) (he : starEach [a] X.env = (false, eval a X.env) :: starEach [] X.env := by rfl) : IF X Wx (.Call (.Name "list" p) [a] [] pos) (fOp1 opList m) := by
  refine pe_imp (pe_callTy call_list_of hg hm (by decide +kernel) (pa_cons ha pa_nil he) (by decide) (by decide) he) fun s H Q ⟨F0, F, r, S, sw, t, st, q⟩ => ?_
  refine tB_bind t st q fun w v F1 H1 r1 S1 x1 t1 st1 b q => ?_
  unfold opList at q
  split at q
  · rename_i ws h
    obtain ⟨y, vs, rfl, hy, l⟩ := seq_rep t1 st1 b h
    refine ⟨y, vs, rfl, ?_, fun p hp => q (addF F1 p) _ r1 (Ext.newF hp) (t1.newF hp) p (dom_back x1 hp) (.inr rfl) (t1.mem_r hp) ⟨_, upd_same, RepL.mv ((Ext.newF hp).mv t1.inF) _ _ l⟩⟩
    rcases hy with hy | hy
    · exact .inl (SqL.of hy)
    · exact .inr hy
  · exact q.elim
def opTuple : F1 := fun sw x S => match seqOf sw S x with
  | some ws => .ok (.tup ws) S
  | none => .bad
theorem sp_tuple {k : Kw} : Sp1 k (fun v H Q => ∃ p ys, [v] = [.ref p] ∧ ((SqL k.K H p ys ∧ ∀ l, H l = none → Q (.ref l) (upd H l (.tup ys))) ∨ (SqT k.K H p ys ∧ Q (.ref p) H))) opTuple := by
  intro F0 F H rho S s sw x v Wx Q t st b q
  have gen : ∀ ws, cont sw S x = some ws → Run k Wx s F H rho (.ok (.tup ws) S) (pV k Q) → ∃ p ys, [v] = [.ref p] ∧ ((SqL k.K H p ys ∧ ∀ l, H l = none → Q (.ref l) (upd H l (.tup ys))) ∨ (SqT k.K H p ys ∧ Q (.ref p) H)) := by
    intro ws h q
    obtain ⟨a, vs, rfl, ha, l⟩ := cont_rep t st b h
    exact ⟨a, vs, rfl, .inl ⟨SqL.of ha, fun p hp => q F _ rho (Ext.new1 hp) (t.new1 hp) (.ref p) ⟨p, _, rfl, .inl ⟨upd_same, t.free hp⟩, RepL.mv ((Ext.new1 hp).mv t.inF) _ _ l⟩⟩⟩
  unfold opTuple at q
  split at q
  · rename_i ws h
    cases x with
    | tup l =>
      cases h
      obtain ⟨a, vs, rfl, ha, l⟩ := tup_rep b
      exact ⟨a, vs, rfl, .inr ⟨ha, q.ok t _ b⟩⟩
    | _ => exact gen ws h q
  · exact q.elim
end
end ML
set_option Elab.async false
set_option linter.all false
set_option maxRecDepth 100000
set_option maxHeartbeats 4000000
namespace ML
open PySem PySem.Spec PyProof.Rows L2

def noX {A : Type} (r : Res A) : Res A := match r with
  | .ok a S => .ok a S
  | _ => .bad
def compW (g : GM) (c : TM) (e : EM) (sw : SW) : List W → Store → Res (List W)
  | [], S => .ok [] S
  | w :: ws, S => match g w sw with
    | none => .bad
    | some sw1 => (noX (c sw1 S)).bind fun b S => if b then (noX (e sw1 S)).bind fun y S => (compW g c e sw ws S).bind fun ys S => .ok (y :: ys) S else compW g c e sw ws S
def wipeW (sw : SW) : List Nat → SW
  | [] => sw
  | v :: vs => (wipeW sw vs).set v none
def fComp (it : IM) (vs : List Nat) (g : GM) (c : TM) (e : EM) : FM := fun sw S => (it sw S).bind fun ws S => if ws.length ≤ sizeLine then (compW g c e (wipeW sw vs) ws S).bind fun ys S => .ok (.lst ys) S else .bad
def tYesM : TM := fun _ S => .ok true S
abbrev Wx0 : WX := fun _ _ _ _ => False
theorem bind_assoc' {A B C : Type} (r : Res A) (f : A → Store → Res B) (g : B → Store → Res C) : (r.bind f).bind g = r.bind fun a S => (f a S).bind g := by
  cases r <;> rfl
theorem wipe_get {s : L2.St} {vs : List Nat} {j : Nat} (h : j ∉ vs) : (wipe s vs)[j]? = s[j]? := by
  induction vs with
  | nil => rfl
  | cons v vs ih =>
    unfold wipe
    rw [List.getElem?_set_ne (fun z => h (by simp [z])), ih fun z => h (List.mem_cons_of_mem _ z)]
theorem wipe_in {s : L2.St} {vs : List Nat} {j : Nat} (h : j ∈ vs) (hl : j < s.length) : (wipe s vs)[j]? = some none := by
  induction vs with
  | nil => cases h
  | cons v vs ih =>
    unfold wipe
    by_cases e : v = j
    · subst e
      rw [List.getElem?_set_self (by rw [wipe_length]; exact hl)]
    · rw [List.getElem?_set_ne e]
      rcases List.mem_cons.mp h with z | z
      · exact absurd z.symm e
      · exact ih z
theorem wipe_congr {s1 s2 : L2.St} {vs : List Nat} (hl : s2.length = s1.length) (h : ∀ j, j ∉ vs → s2[j]? = s1[j]?) : wipe s2 vs = wipe s1 vs := by
  apply List.ext_getElem?
  intro j
  by_cases hj : j ∈ vs
  · by_cases hb : j < s1.length
    · rw [wipe_in hj hb, wipe_in hj (by rw [hl]; exact hb)]
    · rw [List.getElem?_eq_none (by rw [wipe_length, hl]; omega), List.getElem?_eq_none (by rw [wipe_length]; omega)]
  · rw [wipe_get hj, wipe_get hj, h j hj]
theorem wipeW_get {s : SW} {vs : List Nat} {j : Nat} {x : Sl} (h : (wipeW s vs)[j]? = some (some x)) : s[j]? = some (some x) ∧ j ∉ vs := by
  induction vs with
  | nil => exact ⟨h, by simp⟩
  | cons v vs ih =>
    unfold wipeW at h
    by_cases e : v = j
    · subst e
      by_cases hl : v < (wipeW s vs).length
      · rw [List.getElem?_set_self hl] at h
        cases h
      · rw [List.getElem?_eq_none (by simpa using hl)] at h
        cases h
    · rw [List.getElem?_set_ne e] at h
      obtain ⟨a, b⟩ := ih h
      exact ⟨a, fun z => by rcases List.mem_cons.mp z with z | z; exact e z.symm; exact b z⟩
theorem wipeW_length (s : SW) : ∀ vs : List Nat, (wipeW s vs).length = s.length
  | [] => rfl
  | v :: vs => by unfold wipeW; rw [List.length_set, wipeW_length s vs]
section
variable {k : Kw} {Wx : WX} {s : L2.St} {sw : SW} {F0 F : FS} {H : Hp} {r : List Addr}
theorem StR.wipe (st : StR k F0 F H r s sw) (vs : List Nat) : StR k F0 F H r (L2.wipe s vs) (wipeW sw vs) := by
  refine ⟨by rw [wipe_length, wipeW_length]; exact st.len, fun i w h => ?_, fun i o h => ?_, fun i j o o' a h1 h2 h3 h4 => ?_⟩
  · obtain ⟨h, n⟩ := wipeW_get h
    obtain ⟨v, e, q⟩ := st.val i w h
    exact ⟨v, by rw [wipe_get n]; exact e, q⟩
  · obtain ⟨h, n⟩ := wipeW_get h
    obtain ⟨v, e, q⟩ := st.own i o h
    exact ⟨v, by rw [wipe_get n]; exact e, q⟩
  · obtain ⟨h1, n1⟩ := wipeW_get h1
    obtain ⟨h2, n2⟩ := wipeW_get h2
    rw [wipe_get n1] at h3
    rw [wipe_get n2] at h4
    exact st.dis i j o o' a h1 h2 h3 h4
end
theorem ext_nr {F F' : FS} {H H' : Hp} {r r' : List Addr} (x : Ext F H r F' H' r') {p : Addr} (h : p ∉ r) (hp : H p ≠ none) : p ∉ r' := fun z => by
  obtain ⟨more, e, hm⟩ := x.pre
  rw [e] at z
  rcases List.mem_append.mp z with z | z
  · exact h z
  · exact hp (hm p z)
theorem comp_imp {k : Kw} {Wx : WX} {it : IM} {vs ix : List Nat} {g : GM} {c : TM} {e : EM} (hix : ∀ j ∈ ix, j ∈ vs) (s : L2.St) (H : Hp) (Q : VK) (h : tF k Wx (fComp it vs g c e) s H Q) : tLc (tI k Wx it) (tG k ix g) (tT k Wx0 c) (tE k Wx0 e) vs s H Q := by
  obtain ⟨F0, F, r, S, sw, t, st, q⟩ := h
  refine ⟨F0, F, r, S, sw, t, st, ?_⟩
  unfold fComp at q
  cases e0 : it sw S with
  | bad =>
    rw [e0] at q
    exact q
  | exc c fs ws S' =>
    rw [e0] at q
    exact q
  | ok ws S' =>
    rw [e0] at q
    have q : Run k Wx s F H r (if ws.length ≤ sizeLine then (compW g c e (wipeW sw vs) ws S').bind fun ys S => .ok (.lst ys) S else .bad) (pF k H Q) := q
    intro Fj Hj rj xj tj J ok D hD
    have hD0 : H D = none := dom_back xj hD
    have ne : ∀ (j : Nat) (o' : O), sw[j]? = some (some (Sl.own o')) → s[j]? ≠ some (some (V.ref D)) := fun j o' h => fresh_slot t st hD0 j o' h
    split at q
    · rename_i hsz
      refine ⟨fun i m H1 => m = ws.length - i ∧ i ≤ ws.length ∧ ∃ F1 r1 S1 acc va, Ext F H r F1 H1 r1 ∧ Mv Fj Hj rj F1 H1 r1 ∧ Sto k F1 H1 r1 S1 ∧ F1 D ∧ D ∉ r1 ∧ H1 D = some (.lst va) ∧ RepL k F1 H1 r1 acc va ∧ acc.length ≤ i ∧ StR k F0 F1 H1 r1 s sw ∧
        Run k Wx s F H r ((compW g c e (wipeW sw vs) (ws.drop i) S1).bind fun (ys : List W) (S : Store) => Res.ok (O.lst (acc ++ ys)) S) (pF k H Q),
        ⟨ws.length, by omega, Nat.zero_le _, addF Fj D, rj, S', [], [], xj.trans (Ext.newF hD), (Ext.newF hD).mv tj.inF, tj.newF hD, .inr rfl, tj.mem_r hD, upd_same, rfl, Nat.zero_le _, (st.ext xj t).ext (Ext.newF hD) tj, q⟩, ?_⟩
      rintro i m H1 ⟨rfl, hi, F1, r1, S1, acc, va, x1, m1, t1, fD, nD, hDv, la, hacc, st1, q⟩
      by_cases hlt : i < ws.length
      · rw [List.drop_eq_getElem_cons hlt] at q
        have hw : ws[i]? = some ws[i] := List.getElem?_eq_getElem hlt
        obtain ⟨go, yl⟩ := ok.go F1 H1 r1 m1 t1.trk i _ hw
        refine .inr ⟨go, fun H1 => ∃ F1 r1 S1 acc va, Ext F H r F1 H1 r1 ∧ Mv Fj Hj rj F1 H1 r1 ∧ Sto k F1 H1 r1 S1 ∧ F1 D ∧ D ∉ r1 ∧ H1 D = some (.lst va) ∧ RepL k F1 H1 r1 acc va ∧ acc.length ≤ i + 1 ∧ StR k F0 F1 H1 r1 s sw ∧
          Run k Wx s F H r ((compW g c e (wipeW sw vs) (ws.drop (i + 1)) S1).bind fun (ys : List W) (S : Store) => Res.ok (O.lst (acc ++ ys)) S) (pF k H Q), fun H' z => ⟨ws.length - (i + 1), by omega, rfl, hlt, z⟩, fun x H2 y => ?_⟩
        obtain ⟨x2, tt2, rx⟩ := yl x H2 y
        have t2 := tt2 S1 t1
        have st2 := st1.ext x2 t1
        have hD2 : H2 D = some (.lst va) := x2.kp D _ hDv nD
        unfold compW at q
        cases e1 : g ws[i] (wipeW sw vs) with
        | none =>
          rw [e1] at q
          exact q.elim
        | some sw1 =>
          rw [e1] at q
          dsimp only at q
          refine ⟨F0, F1, r1, S1, wipeW sw vs, ws[i], sw1, t2, st2.wipe vs, rx, e1, fun s2 st3 hl2 hj2 => ⟨?_, ?_⟩⟩
          · rw [wipe_congr (s1 := s) (by rw [hl2, wipe_length]) fun j hj => (hj2 j fun z => hj (hix j z)).trans (wipe_get hj)]
          refine ⟨F0, F1, r1, S1, sw1, t2, st3, ?_⟩
          cases e2 : c sw1 S1 with
          | bad =>
            rw [e2] at q
            exact q
          | exc c fs vs S' =>
            rw [e2] at q
            exact q.elim
          | ok b S2 =>
            rw [e2] at q
            intro F3 H3 r3 x3 t3
            have fD3 := x3.sub D fD
            have nD3 := ext_nr x3 nD (by rw [hD2]; simp)
            have hD3 : H3 D = some (.lst va) := x3.kp D _ hD2 nD
            have x03 := (x1.trans x2).trans x3
            have m03 := (m1.trans (x2.mv t1.inF)).trans (x3.mv t2.inF)
            have st03 := st2.ext x3 t2
            have la3 := RepL.mv (x3.mv t2.inF) _ _ (RepL.mv (x2.mv t1.inF) _ _ la)
            cases b with
            | false => exact ⟨F3, r3, S2, acc, va, x03, m03, t3, fD3, nD3, hD3, la3, Nat.le_succ_of_le hacc, st03, q⟩
            | true =>
              have q : Run k Wx s F H r (((noX (e sw1 S2)).bind fun y S => (compW g c e (wipeW sw vs) (ws.drop (i + 1)) S).bind fun ys S => .ok (y :: ys) S).bind fun (ys : List W) (S : Store) => Res.ok (O.lst (acc ++ ys)) S) (pF k H Q) := q
              refine ⟨F0, F3, r3, S2, sw1, t3, st3.ext x3 t2, ?_⟩
              cases e3 : e sw1 S2 with
              | bad =>
                rw [e3] at q
                exact q
              | exc c fs vs S' =>
                rw [e3] at q
                exact q.elim
              | ok yw S3 =>
                rw [e3] at q
                intro F4 H4 r4 x4 t4 v rv
                have fD4 := x4.sub D fD3
                have nD4 := ext_nr x4 nD3 (by rw [hD3]; simp)
                have hD4 : H4 D = some (.lst va) := x4.kp D _ hD3 nD3
                have la4 := RepL.mv (x4.mv t3.inF) _ _ la3
                refine ⟨va, hD4, by rw [← la.length]; omega, F4, r4, S3, acc ++ [yw], va ++ [v], (x03.trans x4).writeO hD0, (m03.trans (x4.mv t3.inF)).trans (Mv.writeO fD4), t4.writeO fD4 nD4, fD4, nD4, upd_same,
                  RepL.mv (Mv.writeO fD4) _ _ (la4.app ⟨v, [], rfl, rv, rfl⟩), by rw [List.length_append, List.length_singleton]; omega, (st03.ext x4 t3).writeO fD4 ne, ?_⟩
                have q : Run k Wx s F H r (((compW g c e (wipeW sw vs) (ws.drop (i + 1)) S3).bind fun ys S => .ok (yw :: ys) S).bind fun (ys : List W) (S : Store) => Res.ok (O.lst (acc ++ ys)) S) (pF k H Q) := q
                rw [bind_assoc'] at q
                have ee : (fun (ys : List W) (S : Store) => ((Res.ok (yw :: ys) S : Res (List W)).bind fun ys S => Res.ok (O.lst (acc ++ ys)) S)) = fun ys S => Res.ok (O.lst (acc ++ [yw] ++ ys)) S := by
                  funext ys S
                  show Res.ok (O.lst (acc ++ (yw :: ys))) S = _
                  rw [List.append_assoc, List.singleton_append]
                rw [ee] at q
                exact q
      · have e : i = ws.length := by omega
        subst e
        rw [List.drop_length] at q
        refine .inl ⟨ok.stop F1 H1 r1 m1 _ (Nat.le_refl _), ?_⟩
        have q : Run k Wx s F H r (.ok (.lst (acc ++ [])) S1) (pF k H Q) := q
        rw [List.append_nil] at q
        exact q F1 H1 r1 x1 t1 D hD0 fD nD ⟨va, hDv, la⟩
    · exact q.elim
section
variable {X : Cx} {Wx : WX} {elt tg iter : Expr} {ifs : List Expr} {scope : Scope} {own : List (Str × Nat)} {pos : Pos} {it : IM} {g : GM} {ix : List Nat} {c : TM} {e : EM}
theorem pts_imp {ifs : List Expr} {t t' : TT} (h : PTs X ifs t) (i : ∀ s H Q, t' s H Q → t s H Q) : PTs X ifs t' := ⟨fun pins s σ H Q I q => h.run pins s σ H Q I (i _ _ _ q)⟩
theorem its_nil : PTs X [] (tT (kw X) Wx tYesM) := pts_imp pts_nil fun s H Q ⟨F0, F, r, S, sw, t, st, q⟩ => q.ok t
theorem its_one {c : Expr} {m : TM} (h : IT X Wx c m) : PTs X [c] (tT (kw X) Wx m) := pts_one h
theorem if_comp (hc : X.calm = true) (hN : X.N.Nodup) (hi : II X Wx tg iter it) (ok : BlkOk X.N X.env.scope scope own)
    (hg : ∀ (s : Shared) (H : Hp) (C : Addr) (cl : List (Str × Addr)) (fp : List Addr), IG (X.blk s H scope (compEnvC scope cl C X.env) fp) tg ix g) (ht : ∀ (s : Shared) (H : Hp) (C : Addr) (cl : List (Str × Addr)) (fp : List Addr), PTs (X.blk s H scope (compEnvC scope cl C X.env) fp) ifs (tT (kw X) Wx0 c))
    (he : ∀ (s : Shared) (H : Hp) (C : Addr) (cl : List (Str × Addr)) (fp : List Addr), IE (X.blk s H scope (compEnvC scope cl C X.env) fp) Wx0 elt e) (hix : ∀ j ∈ ix, j ∈ own.map (·.2)) (hs : ∀ x, foldedSetIterable iter X.env x = pure x := by intro _; rfl) :
    IF X Wx (.ListComp elt [⟨tg, iter, ifs, 0⟩] scope pos) (fComp it (own.map (·.2)) g c e) := pe_imp (pe_lc (g := tG (kw X) ix g) (te := tE (kw X) Wx0 e) hc hN hi ok hg ht he hs) (comp_imp hix)
/-- name = [..] on one line -/
theorem is_setLc {i : Nat} {y : Str} {py spos : Pos} (hc : X.calm = true) (hN : X.N.Nodup) (hy : X.N[i]? = some y) (hyl : X.env.scope.names.lookup y = some .local)
    (hsw : swapsWith (.ListComp elt [⟨tg, iter, ifs, 0⟩] scope pos) (some (.Name y py)) spos.line X.env = pure true) (hi : II X Wx tg iter it) (ok : BlkOk X.N X.env.scope scope own)
    (hg : ∀ (s : Shared) (H : Hp) (C : Addr) (cl : List (Str × Addr)) (fp : List Addr), IG (X.blk s H scope (compEnvC scope cl C X.env) fp) tg ix g) (ht : ∀ (s : Shared) (H : Hp) (C : Addr) (cl : List (Str × Addr)) (fp : List Addr), PTs (X.blk s H scope (compEnvC scope cl C X.env) fp) ifs (tT (kw X) Wx0 c))
    (he : ∀ (s : Shared) (H : Hp) (C : Addr) (cl : List (Str × Addr)) (fp : List Addr), IE (X.blk s H scope (compEnvC scope cl C X.env) fp) Wx0 elt e) (hix : ∀ j ∈ ix, j ∈ own.map (·.2)) (hs : ∀ x, foldedSetIterable iter X.env x = pure x := by intro _; rfl) :
    IS X Wx (.Assign [.Name y py] (.ListComp elt [⟨tg, iter, ifs, 0⟩] scope pos) spos) (sSetO i (fComp it (own.map (·.2)) g c e)) := by
  refine ps_imp (ps_setLc (g := tG (kw X) ix g) (te := tE (kw X) Wx0 e) hc hN hy hyl hsw hi ok hg ht he hs) fun D s H h => ?_
  have h2 := setO_imp D s H h
  exact comp_imp hix s H _ h2
end
end ML
set_option Elab.async false
set_option linter.all false
set_option maxRecDepth 100000
set_option maxHeartbeats 4000000
namespace ML
open PySem PySem.Spec PyProof.Rows L2

/-! ### all, any, sum, max, min, abs, int, sorted -/
def blL : List W → Option (List Bool)
  | [] => some []
  | .bl b :: ws => (blL ws).map fun bs => b :: bs
  | _ => none
def intL : List W → Option (List Int)
  | [] => some []
  | .int b :: ws => (intL ws).map fun bs => b :: bs
  | _ => none
def strL : List W → Option (List Str)
  | [] => some []
  | .str b :: ws => (strL ws).map fun bs => b :: bs
  | _ => none
section
variable {k : Kw} {F : FS} {H : Hp} {r : List Addr}
theorem bls_rep : ∀ {ws : List W} {vs : List V} {bs : List Bool}, RepL k F H r ws vs → blL ws = some bs → vs = bs.map V.bl
  | [], _, _, l, h => by
    cases h
    cases l
    rfl
  | w :: ws, _, bs, l, h => by
    obtain ⟨v, vs, rfl, l1, l2⟩ := l
    cases w with
    | bl b =>
      obtain ⟨bs', e, rfl⟩ := map_some (show (blL ws).map (fun bs => b :: bs) = some bs from h)
      cases l1
      rw [bls_rep l2 e]
      rfl
    | _ => cases h
theorem ints_rep : ∀ {ws : List W} {vs : List V} {bs : List Int}, RepL k F H r ws vs → intL ws = some bs → vs = bs.map V.int
  | [], _, _, l, h => by
    cases h
    cases l
    rfl
  | w :: ws, _, bs, l, h => by
    obtain ⟨v, vs, rfl, l1, l2⟩ := l
    cases w with
    | int b =>
      obtain ⟨bs', e, rfl⟩ := map_some (show (intL ws).map (fun bs => b :: bs) = some bs from h)
      cases l1
      rw [ints_rep l2 e]
      rfl
    | _ => cases h
theorem strs_rep : ∀ {ws : List W} {vs : List V} {bs : List Str}, RepL k F H r ws vs → strL ws = some bs → vs = bs.map V.str
  | [], _, _, l, h => by
    cases h
    cases l
    rfl
  | w :: ws, _, bs, l, h => by
    obtain ⟨v, vs, rfl, l1, l2⟩ := l
    cases w with
    | str b =>
      obtain ⟨bs', e, rfl⟩ := map_some (show (strL ws).map (fun bs => b :: bs) = some bs from h)
      cases l1
      rw [strs_rep l2 e]
      rfl
    | _ => cases h
theorem rep_strs : ∀ {ss : List Str}, RepL k F H r (ss.map W.str) (ss.map V.str)
  | [] => rfl
  | x :: xs => ⟨.str x, xs.map V.str, rfl, rfl, rep_strs⟩
theorem rep_ints : ∀ {ss : List Int}, RepL k F H r (ss.map W.int) (ss.map V.int)
  | [] => rfl
  | x :: xs => ⟨.int x, xs.map V.int, rfl, rfl, rep_ints⟩
end
section
variable {X : Cx} {Wx : WX}
def opAll : F1 := fun sw x S => match (cont sw S x).bind blL with
  | some bs => .ok (.bl (bs.all id)) S
  | none => .bad
def opAny : F1 := fun sw x S => match (cont sw S x).bind blL with
  | some bs => .ok (.bl (bs.any id)) S
  | none => .bad
def opSum : F1 := fun sw x S => match (cont sw S x).bind intL with
  | some ns => .ok (.int ns.sum) S
  | none => .bad
def greatest : List Int → Option Int
  | [] => none
  | n :: ns => some (ns.foldl max n)
def opMax : F1 := fun sw x S => match ((cont sw S x).bind intL).bind greatest with
  | some m => .ok (.int m) S
  | none => .bad
theorem bind_some {A B : Type} {o : Option A} {f : A → Option B} {b : B} (h : o.bind f = some b) : ∃ a, o = some a ∧ f a = some b := by
  cases o with
  | none => cases h
  | some a => exact ⟨a, rfl, h⟩
theorem sp_all {k : Kw} : Sp1 k (fun v => rAll k.K [v]) opAll := by
  intro F0 F H rho S s sw x v Wx Q t st b q
  unfold opAll at q
  split at q
  · rename_i bs h
    obtain ⟨ws, e1, e2⟩ := bind_some h
    obtain ⟨a, vs, rfl, ha, l⟩ := cont_rep t st b e1
    rw [bls_rep l e2] at ha
    exact ⟨a, bs, rfl, SqL.of ha, q.ok t _ rfl⟩
  · exact q.elim
theorem sp_any {k : Kw} : Sp1 k (fun v => rAny k.K [v]) opAny := by
  intro F0 F H rho S s sw x v Wx Q t st b q
  unfold opAny at q
  split at q
  · rename_i bs h
    obtain ⟨ws, e1, e2⟩ := bind_some h
    obtain ⟨a, vs, rfl, ha, l⟩ := cont_rep t st b e1
    rw [bls_rep l e2] at ha
    exact ⟨a, bs, rfl, SqL.of ha, q.ok t _ rfl⟩
  · exact q.elim
theorem sp_sum {k : Kw} : Sp1 k (fun v => rSum k.K [v]) opSum := by
  intro F0 F H rho S s sw x v Wx Q t st b q
  unfold opSum at q
  split at q
  · rename_i bs h
    obtain ⟨ws, e1, e2⟩ := bind_some h
    obtain ⟨a, vs, rfl, ha, l⟩ := cont_rep t st b e1
    rw [ints_rep l e2] at ha
    exact ⟨a, bs, rfl, SqL.of ha, q.ok t _ rfl⟩
  · exact q.elim
theorem foldl_max : ∀ (ns : List Int) (n : Int), (∀ y, y = n ∨ y ∈ ns → y ≤ ns.foldl max n) ∧ (ns.foldl max n = n ∨ ns.foldl max n ∈ ns)
  | [], n => ⟨fun y h => (by rcases h with h | h; (rw [h]; exact Int.le_refl _); (cases h)), .inl rfl⟩
  | m :: ns, n => by
    obtain ⟨h1, h2⟩ := foldl_max ns (max n m)
    refine ⟨fun y h => ?_, ?_⟩
    · rw [List.foldl_cons]
      have h3 := h1 (max n m) (.inl rfl)
      rcases h with h | h
      · omega
      · rcases List.mem_cons.mp h with h | h
        · omega
        · exact h1 y (.inr h)
    · rw [List.foldl_cons]
      rcases h2 with h2 | h2
      · by_cases hm : n ≤ m
        · right
          rw [h2]
          have : max n m = m := by omega
          rw [this]
          exact List.mem_cons_self
        · left
          rw [h2]
          omega
      · exact .inr (List.mem_cons_of_mem _ h2)
theorem sp_max {k : Kw} : Sp1 k (fun v => rMax k.K [v]) opMax := by
  intro F0 F H rho S s sw x v Wx Q t st b q
  unfold opMax at q
  split at q
  · rename_i m h
    obtain ⟨ns, h, e3⟩ := bind_some h
    obtain ⟨ws, e1, e2⟩ := bind_some h
    obtain ⟨a, vs, rfl, ha, l⟩ := cont_rep t st b e1
    rw [ints_rep l e2] at ha
    cases ns with
    | nil => cases e3
    | cons n ns =>
      cases e3
      refine ⟨a, n :: ns, rfl, SqL.of ha, Nat.succ_pos _, fun m hm hle => ?_⟩
      obtain ⟨h1, h2⟩ := foldl_max ns n
      have e : m = ns.foldl max n := by
        have a1 := h1 m (by rcases List.mem_cons.mp hm with z | z; exact .inl z; exact .inr z)
        have a2 := hle (ns.foldl max n) (by rcases h2 with z | z; rw [z]; exact List.mem_cons_self; exact List.mem_cons_of_mem _ z)
        omega
      rw [e]
      exact q.ok t _ rfl
  · exact q.elim
def opAbs : F1 := fun _ x S => match x with
  | .int i => .ok (.int (if i < 0 then -i else i)) S
  | _ => .bad
theorem sp_abs {k : Kw} : Sp1 k (fun v H Q => ∃ i, [v] = [.int i] ∧ Q (.int (if i < 0 then -i else i)) H) opAbs := by
  intro F0 F H rho S s sw x v Wx Q t st b q
  cases x with
  | int i =>
    cases b
    exact ⟨i, rfl, q.ok t _ rfl⟩
  | _ => exact q.elim
def opInt : F1 := fun _ x S => match x with
  | .int i => .ok (.int i) S
  | .bl b => .ok (.int (if b then 1 else 0)) S
  | _ => .bad
theorem sp_int {k : Kw} : Sp1 k (fun v H Q => (∃ i, [v] = [.int i] ∧ Q (.int i) H) ∨ ∃ k, [v] = [.bl k] ∧ Q (.int (if k then 1 else 0)) H) opInt := by
  intro F0 F H rho S s sw x v Wx Q t st b q
  cases x with
  | int i =>
    cases b
    exact .inl ⟨i, rfl, q.ok t _ rfl⟩
  | bl i =>
    cases b
    exact .inr ⟨i, rfl, q.ok t _ rfl⟩
  | _ => exact q.elim
abbrev opMin2 : F2 := opI (fun _ _ => true) fun i j => .int (if j < i then j else i)
abbrev opMax2 : F2 := opI (fun _ _ => true) fun i j => .int (if j > i then j else i)
theorem sp_min2 {k : Kw} : Sp2 k (fun v u H Q => ∃ i j, [v, u] = [.int i, .int j] ∧ Q (.int (if j < i then j else i)) H) opMin2 := by
  intro F0 F H rho S s sw x y v u Wx Q t st bx hy q
  unfold opMin2 opI at q
  split at q
  · rename_i i j
    cases bx
    cases hy
    exact ⟨i, j, rfl, q.ok t _ rfl⟩
  · exact q.elim
theorem sp_max2 {k : Kw} : Sp2 k (fun v u H Q => ∃ i j, [v, u] = [.int i, .int j] ∧ Q (.int (if j > i then j else i)) H) opMax2 := by
  intro F0 F H rho S s sw x y v u Wx Q t st bx hy q
  unfold opMax2 opI at q
  split at q
  · rename_i i j
    cases bx
    cases hy
    exact ⟨i, j, rfl, q.ok t _ rfl⟩
  · exact q.elim
/-! ### raise X() -/
theorem pmk_own0 {C : Addr} {bmB : List Value} {B newId initId : String} {x : Str} {p pos : Pos} (F : ExcBaseFacts B newId initId bmB) (q : PySem.W.excIn X.K C bmB newId = true) (gC : X.mg x = some (.ref C)) (kC : PySem.W.keepIn X.K (.ref C) = true) (r : Raises X (.ref C)) (hg : Gl X x)
    (hdb : (x == ("__debug__" : Str)) = false := by decide) : PMk X (.Call (.Name x p) [] [] pos) (fun _ H Q => Q (.ref C) none H) := by
  intro pins s σ H Q I h
  refine wpAny_Call_Name_kw (ld_glob I hg gC ?_ hdb)
  refine PySem.W.callWith_K0 I.kIn kC ?_
  obtain ⟨bm, N, nm, qn, bs, hdct, sn, sub, ab, col, dd, k0, k1, k2, k3, k5, mN, hC, hN, hni, T⟩ := exc_obj I.kIn q
  refine wpAny_call_exc_subT F T hC hN hni (fun h' e hm => ?_) (Nat.zero_le _)
  exact mk_of I hm r h (I.hok.gone hm.new)
def sRaise (c : Str) : SM := fun sw S => .exc c [] [] sw S
theorem is_raise {x : Str} {p pos pos' : Pos} (hc : X.calm = true) (tk : Takes X Wx) (q : PySem.W.excIn X.K (He.ga X.K x) He.veBase "ValueError.__new__" = true) (gC : X.mg x = some (.ref (He.ga X.K x))) (kC : PySem.W.keepIn X.K (.ref (He.ga X.K x)) = true)
    (h1 : PySem.W.subIn X.K (.ref (He.ga X.K x)) (.type "BaseException") = some true) (h2 : PySem.W.typeIn X.K (.ref (He.ga X.K x)) = some (.type "type")) (hg : Gl X x) (hdb : (x == ("__debug__" : Str)) = false := by decide) :
    IS X Wx (.Raise (some (.Call (.Name x p) [] [] pos)) none pos') (sRaise x) := by
  refine ps_imp (ps_raise hc tk (pmk_own0 PySem.F.excBase_ValueError q gC kC (raises_own h1 h2) hg hdb)) fun D s H ⟨F0, H0, r0, F, r, S, sw, x0, t, st, q⟩ => ?_
  exact q none [] F H r s x0 (Mv.refl _ _ _) t st ⟨rfl, .inl ⟨rfl, rfl⟩⟩ rfl
/-! ### the module's names -/
theorem ie_gint {x : Str} {i : Int} {pos : Pos} (hg : Gl X x) (hm : ∃ t, X.mg x = some (.int i t)) (hd : (x == ("__debug__" : Str)) = false := by decide) : IE X Wx (.Name x pos) (eC (.int i)) := by
  obtain ⟨t, hm⟩ := hm
  exact ie_c (pe_glob (v := .int i) hg hm ⟨t, rfl⟩ hd) fun _ _ _ => rfl
theorem ie_gstr {x : Str} {i : Str} {pos : Pos} (hg : Gl X x) (hm : ∃ t, X.mg x = some (.str i t)) (hd : (x == ("__debug__" : Str)) = false := by decide) : IE X Wx (.Name x pos) (eC (.str i)) := by
  obtain ⟨t, hm⟩ := hm
  exact ie_c (pe_glob (v := .str i) hg hm ⟨t, rfl⟩ hd) fun _ _ _ => rfl
/-- a tuple of the module -/
def KW (K : PySem.W.Frag) (w : World) (x : W) (a : Addr) : Prop := ∀ F H r, RepV ⟨K, w⟩ F H r x (.ref a)
theorem ie_gobj {x : Str} {i : W} {pos : Pos} (hg : Gl X x) (hm : X.mg x = some (.ref (He.ga X.K x))) (h : KW X.K X.w i (He.ga X.K x)) (hd : (x == ("__debug__" : Str)) = false := by decide) : IE X Wx (.Name x pos) (eC i) :=
  ie_c (pe_glob (v := .ref (He.ga X.K x)) hg hm rfl hd) fun F H r => h F H r
end
end ML
set_option Elab.async false
set_option linter.all false
set_option maxRecDepth 100000
set_option maxHeartbeats 4000000
namespace ML
open PySem PySem.Spec PyProof.Rows L2

section
variable {X : Cx} {Wx : WX}
theorem u65 {A : Around} {k : Nat} (hr : Room k A) : A.units + 65 < cLine := by have := hr.un; omega
/-! ### x + y as a new list -/
def fAdd (a b : EM) : FM := fun sw S => (a sw S).bind fun x S => (b sw S).bind fun y S => match cont sw S x, cont sw S y with
  | some xs, some ys => if xs.length + ys.length ≤ sizeLine then .ok (.lst (xs ++ ys)) S else .bad
  | _, _ => .bad
theorem if_add {a b : Expr} {pos : Pos} {m n : EM} (ha : IB X Wx a m) (hb : IB X Wx b n) : IF X Wx (.BinOp a .Add b pos) (fAdd m n) := by
  refine pe_imp (pe_op op_cat ha hb) fun s H Q ⟨F0, F, r, S, sw, t, st, q⟩ => ?_
  refine tB_bind t st q fun x v F1 H1 r1 S1 x1 t1 s1 b1 q => ?_
  refine tB_bind t1 s1 q fun y u F2 H2 r2 S2 x2 t2 s2 b2 q => ?_
  have b1 : RepB (kw X) F2 H2 r2 s sw x v := b1.mv (x2.mv t1.inF)
  cases e1 : cont sw S2 x with
  | none =>
    rw [e1] at q
    exact q.elim
  | some xs =>
    cases e2 : cont sw S2 y with
    | none =>
      rw [e1, e2] at q
      exact q.elim
    | some ys =>
      rw [e1, e2] at q
      dsimp only at q
      split at q
      · rename_i hl
        obtain ⟨a, vs, rfl, ha, la⟩ := cont_rep t2 s2 b1 e1
        obtain ⟨b, us, rfl, hb, lb⟩ := cont_rep t2 s2 b2 e2
        refine ⟨a, b, vs, us, rfl, rfl, ha, hb, by rw [← la.length, ← lb.length]; exact hl, fun p hp => ?_⟩
        exact q (addF F2 p) _ r2 (Ext.newF hp) (t2.newF hp) p (dom_back x1 (dom_back x2 hp)) (.inr rfl) (t2.mem_r hp) ⟨vs ++ us, upd_same, RepL.mv ((Ext.newF hp).mv t2.inF) _ _ (la.app lb)⟩
      · exact q.elim
/-! ### name = [..] as a value -/
def sSetC (i : Nat) (m : FM) : SM := sSet i (eFrz m)
theorem setC_imp {k : Kw} {i : Nat} {m : FM} (D : Ends) (s : L2.St) (H : Hp) (h : tS k Wx (sSetC i m) D s H) : tAsg (tF k Wx m) (gName i) D s H := by
  obtain ⟨F0, H0, r0, F, r, S, sw, x0, t, st, q⟩ := h
  refine ⟨F0, F, r, S, sw, t, st, ?_⟩
  unfold sSetC sSet eFrz at q
  cases e : m sw S with
  | ok o S' =>
    rw [e] at q
    cases o with
    | lst ws =>
      intro F' H' r' x t' p hp fp np ob
      obtain ⟨vs, e1, l⟩ := ob
      have x' := x.drop hp t
      exact q (fun a => F' a ∧ a ≠ p) H' r' _ (x0.trans x') (x'.mv t.inF) (t'.drop np) ((st.ext x' t).setVal (w := .lst ws) (v := .ref p) ⟨p, vs, rfl, ⟨e1, fun z => z.2 rfl⟩, RepL.mv Mv.drop _ _ l⟩ i)
    | dct ks ws =>
      intro F' H' r' x t' p hp fp np ob
      obtain ⟨es, e1, l1, l2, hh⟩ := ob
      have x' := x.drop hp t
      exact q (fun a => F' a ∧ a ≠ p) H' r' _ (x0.trans x') (x'.mv t.inF) (t'.drop np) ((st.ext x' t).setVal (w := .dct ks ws) (v := .ref p) ⟨p, es, rfl, fun z => z.2 rfl, e1, RepL.mv Mv.drop _ _ l1, RepL.mv Mv.drop _ _ l2, hh⟩ i)
    | ins c fs => exact q.elim
  | exc c fs ws S' =>
    rw [e] at q
    exact fun d vs F' H' r' x t' ed l => q d vs F' H' r' s (x0.trans x) (x.mv t.inF) t' (st.ext x t) ed l
  | bad =>
    rw [e] at q
    exact q
theorem is_setLcV {elt tg iter : Expr} {ifs : List Expr} {scope : Scope} {own : List (Str × Nat)} {pos : Pos} {it : IM} {g : GM} {ix : List Nat} {c : TM} {e : EM} {i : Nat} {y : Str} {py spos : Pos} (hc : X.calm = true) (hN : X.N.Nodup) (hy : X.N[i]? = some y) (hyl : X.env.scope.names.lookup y = some .local)
    (hsw : swapsWith (.ListComp elt [⟨tg, iter, ifs, 0⟩] scope pos) (some (.Name y py)) spos.line X.env = pure true) (hi : II X Wx tg iter it) (ok : BlkOk X.N X.env.scope scope own)
    (hg : ∀ (s : Shared) (H : Hp) (C : Addr) (cl : List (Str × Addr)) (fp : List Addr), IG (X.blk s H scope (compEnvC scope cl C X.env) fp) tg ix g) (ht : ∀ (s : Shared) (H : Hp) (C : Addr) (cl : List (Str × Addr)) (fp : List Addr), PTs (X.blk s H scope (compEnvC scope cl C X.env) fp) ifs (tT (kw X) Wx0 c))
    (he : ∀ (s : Shared) (H : Hp) (C : Addr) (cl : List (Str × Addr)) (fp : List Addr), IE (X.blk s H scope (compEnvC scope cl C X.env) fp) Wx0 elt e) (hix : ∀ j ∈ ix, j ∈ own.map (·.2)) (hs : ∀ x, foldedSetIterable iter X.env x = pure x := by intro _; rfl) :
    IS X Wx (.Assign [.Name y py] (.ListComp elt [⟨tg, iter, ifs, 0⟩] scope pos) spos) (sSetC i (fComp it (own.map (·.2)) g c e)) := by
  refine ps_imp (ps_setLc (g := tG (kw X) ix g) (te := tE (kw X) Wx0 e) hc hN hy hyl hsw hi ok hg ht he hs) fun D s H h => ?_
  exact comp_imp hix s H _ (setC_imp D s H h)
/-! ### x += e -/
def sAugI (f : Int → Int → Int) (i : Nat) (m : EM) : SM := fun sw S => match sw[i]? with
  | some (some (.val (.int a))) => liftS (m sw S) sw fun w S => match w with
    | .int b => .ok (.nx (sw.set i (some (.val (.int (f a b)))))) S
    | _ => .bad
  | _ => .bad
abbrev sAugAdd : Nat → EM → SM := sAugI fun i j => i + j
abbrev sAugSub : Nat → EM → SM := sAugI fun i j => i - j
theorem aug_imp {k : Kw} {f : Int → Int → Int} {i : Nat} {m : EM} (D : Ends) (s : L2.St) (H : Hp) (h : tS k Wx (sAugI f i m) D s H) : tAug i (tE k Wx m) (ipI f) D s H := by
  obtain ⟨F0, H0, r0, F, r, S, sw, x0, t, st, q⟩ := h
  unfold sAugI at q
  split at q
  · rename_i a e1
    obtain ⟨v, e2, rv⟩ := st.val i _ e1
    cases rv
    refine ⟨.int a, e2, ?_⟩
    refine tE_st x0 t st q fun w v F' H' r' S' x t' st' rv q => ?_
    cases w with
    | int b =>
      cases rv
      exact ⟨a, b, rfl, rfl, q F' H' r' _ (x0.trans x) (Mv.refl _ _ _) t' (st'.setVal (w := .int (f a b)) (v := .int (f a b)) rfl i)⟩
    | _ => exact q.elim
  · exact q.elim
theorem is_augAdd {i : Nat} {x : Str} {e : Expr} {m : EM} {pos pos' : Pos} (hN : X.N.Nodup) (hi : X.N[i]? = some x) (hx : Loc X.env.scope x) (he : IE X Wx e m) (hf : X.fn x = true ∨ X.env.scope.names.lookup x = some .local := by first | exact .inl rfl | exact .inr rfl | assumption) :
    IS X Wx (.AugAssign (.Name x pos') .Add e pos) (sAugAdd i m) := ps_imp (ps_aug hN hi hx he ip_add hf) aug_imp
theorem is_augSub {i : Nat} {x : Str} {e : Expr} {m : EM} {pos pos' : Pos} (hN : X.N.Nodup) (hi : X.N[i]? = some x) (hx : Loc X.env.scope x) (he : IE X Wx e m) (hf : X.fn x = true ∨ X.env.scope.names.lookup x = some .local := by first | exact .inl rfl | exact .inr rfl | assumption) :
    IS X Wx (.AugAssign (.Name x pos') .Sub e pos) (sAugSub i m) := ps_imp (ps_aug hN hi hx he ip_sub hf) aug_imp
end
/-! ### a def, by the head's facts -/
def fdAt (K : PySem.W.Frag) (a : Addr) : FuncData := match K.lookup a with
  | some ⟨_, _, .func fd, _⟩ => fd
  | _ => ⟨"", "", ⟨[], [], none, [], [], none, []⟩, .stmts [], ⟨.function, [], false, false, []⟩, 0, [], .none, .none, .none, .none, none, .none, .none, 0⟩
theorem fdAt_of {K : PySem.W.Frag} {x qual : Str} {params : Arguments} {body : List Stmt} {scope : Scope} {dvs : List V} {kws : List (Str × V)} {a : Addr} (h : ∃ fd, FunD K x qual params body scope dvs kws a fd) : FunD K x qual params body scope dvs kws a (fdAt K a) := by
  obtain ⟨fd, h⟩ := h
  have e : fdAt K a = fd := by
    obtain ⟨oc, od, dV, kV, doc, pm, an, cdv, ct, osl, e1, lk, _⟩ := h.ex
    unfold fdAt
    rw [lk]
  rw [e]
  exact h
section
variable {P : Program} {w : World} {K : PySem.W.Frag} {mg : Str → Option Value} {base : Heap}
theorem fn_okD {x qual : Str} {st : Stmt} {f : Addr} {fd : FuncData} {N ps : List Str} {n m : Nat} {b : SM} (F : FunD K x qual (defArgs st) (defBody st) (defScope st) [] [] f fd) (S : FnScope N ps (defScope st)) (hm : N.length = m)
    (hb : ∀ (cdv : Value) (A : Around) (outer : List Env) (s : Shared) (H : Hp) (E : XK), Room n (A.deeper (envOfC qual (defScope st) s.heap.objs.size f cdv)) →
      Takes (cxOf (L2.CX P w) P w K mg base N qual (defScope st) f cdv A outer s H E) (fun c d _ H => E c d H) →
      PassesOwn (model P w) (A.deeper (envOfC qual (defScope st) s.heap.objs.size f cdv)) (envOfC qual (defScope st) s.heap.objs.size f cdv) (cxOf (L2.CX P w) P w K mg base N qual (defScope st) f cdv A outer s H E).xe →
      ISs (cxOf (L2.CX P w) P w K mg base N qual (defScope st) f cdv A outer s H E) (fun c d _ H => E c d H) (defBody st) b) :
    FnOk P w K mg base (L2.CX P w) (n + 1) f fd ps (spOf ⟨K, w⟩ ps.length (fBody m b)) := by
  subst hm
  refine F.ok S (fun vs H Q E h => h.1) fun cdv A outer s H vs Q E hr h => ⟨_, hb cdv A outer s H E hr (takes_of rfl rfl rfl rfl) (passes_of rfl), ?_⟩
  obtain ⟨hl, F, r, S, ws, t, l, q⟩ := h
  refine ⟨F, H, r, F, r, S, startW N.length ws, Ext.refl _ _ _, t, startR l, ?_⟩
  unfold fBody at q
  cases e : b (startW N.length ws) S with
  | ok fl S' =>
    rw [e] at q
    cases fl with
    | nx sw => exact fun F' H' r' s' x _ t' _ => q F' H' r' x t' .non rfl
    | rt rv => exact fun F' H' r' x t' => q F' H' r' x t'
    | bk sw => exact q.elim
    | ct sw => exact q.elim
  | exc c fs vs' sw S' =>
    rw [e] at q
    exact fun d vs F' H' r' s' x _ t' _ ed l => q d vs F' H' r' x t' ed l
  | bad =>
    rw [e] at q
    exact q
theorem fn_zero {f : Addr} {fd : FuncData} {ps : List Str} {n : Nat} {g : List W → Store → Res RV} (hg : ∀ ws S, g ws S = .bad) : FnOk P w K mg base (L2.CX P w) n f fd ps (spOf ⟨K, w⟩ ps.length g) :=
  ⟨fun vs H Q E h => h.1, fun A outer s H args us vs Q E _ _ _ _ h => by
    obtain ⟨_, F, r, S, ws, t, l, q⟩ := h
    rw [hg] at q
    exact q.elim⟩
end
/-! ### written tuples -/
mutual
def kB (K : PySem.W.Frag) : W → Value → Bool
  | .non, .none => true
  | .bl b, .bool c => b == c
  | .int i, .int j _ => decide (i = j)
  | .str x, .str y _ => decide (x = y)
  | .tup ws, .ref a => (match K.lookup a with
    | some ⟨.type c, _, .seq its _, _⟩ => decide (c = "tuple") && (decide (its.size ≤ sizeLine) && kBs K ws its.toList)
    | _ => false)
  | _, _ => false
def kBs (K : PySem.W.Frag) : List W → List Value → Bool
  | [], [] => true
  | w :: ws, v :: vs => kB K w v && kBs K ws vs
  | _, _ => false
end
mutual
theorem kB_ok {K : PySem.W.Frag} {wd : World} : ∀ (w : W) (v : Value), kB K w v = true → ∃ x, RelV x v ∧ ∀ F H r, RepV ⟨K, wd⟩ F H r w x
  | .non, v, h => by
    cases v <;> first | exact ⟨.non, rfl, fun _ _ _ => rfl⟩ | (unfold kB at h; cases h)
  | .bl b, v, h => by
    cases v <;> first | (unfold kB at h; cases h; done) | skip
    rename_i c
    have h : (b == c) = true := by unfold kB at h; exact h
    rw [eq_of_beq h]
    exact ⟨.bl c, rfl, fun _ _ _ => rfl⟩
  | .int b, v, h => by
    cases v <;> first | (unfold kB at h; cases h; done) | skip
    rename_i c t
    have h : decide (b = c) = true := by unfold kB at h; exact h
    rw [of_decide_eq_true h]
    exact ⟨.int c, ⟨t, rfl⟩, fun _ _ _ => rfl⟩
  | .str b, v, h => by
    cases v <;> first | (unfold kB at h; cases h; done) | skip
    rename_i c t
    have h : decide (b = c) = true := by unfold kB at h; exact h
    rw [of_decide_eq_true h]
    exact ⟨.str c, ⟨t, rfl⟩, fun _ _ _ => rfl⟩
  | .tup ws, v, h => by
    cases v <;> first | (unfold kB at h; cases h; done) | skip
    rename_i a
    have h : (match K.lookup a with
      | some ⟨.type c, _, .seq its _, _⟩ => decide (c = "tuple") && (decide (its.size ≤ sizeLine) && kBs K ws its.toList)
      | _ => false) = true := by unfold kB at h; exact h
    split at h
    · rename_i c od its n sl e
      simp only [Bool.and_eq_true, decide_eq_true_eq] at h
      obtain ⟨xs, r1, r2⟩ := kBs_ok (wd := wd) ws its.toList h.2.2
      exact ⟨.ref a, rfl, fun F H r => ⟨a, xs, rfl, .inr ⟨_, its, n, e, congrArg Value.type h.1, rfl, h.2.1, r1⟩, r2 F H r⟩⟩
    · cases h
  | .lst ws, v, h => by unfold kB at h; cases h
  | .dct ks ws, v, h => by unfold kB at h; cases h
  | .exc c fs ws, v, h => by unfold kB at h; cases h
  | .loc n, v, h => by unfold kB at h; cases h
  | .cls n, v, h => by unfold kB at h; cases h
  | .ty n, v, h => by unfold kB at h; cases h
  | .brw n, v, h => by unfold kB at h; cases h
  | .scr n, v, h => by unfold kB at h; cases h
theorem kBs_ok {K : PySem.W.Frag} {wd : World} : ∀ (ws : List W) (vs : List Value), kBs K ws vs = true → ∃ xs, Vals xs vs ∧ ∀ F H r, RepL ⟨K, wd⟩ F H r ws xs
  | [], [], _ => ⟨[], .nil, fun _ _ _ => rfl⟩
  | [], v :: vs, h => by unfold kBs at h; cases h
  | w :: ws, [], h => by unfold kBs at h; cases h
  | w :: ws, v :: vs, h => by
    have h : (kB K w v && kBs K ws vs) = true := by unfold kBs at h; exact h
    rw [Bool.and_eq_true] at h
    obtain ⟨x, r1, r2⟩ := kB_ok (wd := wd) w v h.1
    obtain ⟨xs, q1, q2⟩ := kBs_ok (wd := wd) ws vs h.2
    exact ⟨x :: xs, .cons r1 q1, fun F H r => ⟨x, xs, rfl, r2 F H r, q2 F H r⟩⟩
end
def kwB (K : PySem.W.Frag) (x : Str) (w : W) : Bool := kB K w (.ref (He.ga K x))
theorem kw_ok {K : PySem.W.Frag} {wd : World} {x : Str} {w : W} (h : kwB K x w = true) : KW K wd w (He.ga K x) := by
  obtain ⟨v, r1, r2⟩ := kB_ok (wd := wd) w _ h
  intro F H r
  have e : v = .ref (He.ga K x) := by
    cases v <;> first | (cases r1; rfl) | (obtain ⟨t, z⟩ := r1; cases z) | cases r1
  rw [← e]
  exact r2 F H r
end ML
set_option Elab.async false
set_option linter.all false
set_option maxRecDepth 100000
set_option maxHeartbeats 4000000
namespace ML
open PySem PySem.Spec PyProof.Rows L2
section
variable {X : Cx} {Wx : WX} {elt tg iter : Expr} {ifs : List Expr} {scope : Scope} {pos : Pos} {it : IM} {g : GM} {ix : List Nat} {c : TM} {e : EM} {os : List Nat}
theorem if_cp (own : List (Str × Nat)) (ho : own.map (·.2) = os) (hc : X.calm = true) (hN : X.N.Nodup) (hi : II X Wx tg iter it) (ok : BlkOk X.N X.env.scope scope own)
    (hg : ∀ (s : Shared) (H : Hp) (C : Addr) (cl : List (Str × Addr)) (fp : List Addr), IG (X.blk s H scope (compEnvC scope cl C X.env) fp) tg ix g) (ht : ∀ (s : Shared) (H : Hp) (C : Addr) (cl : List (Str × Addr)) (fp : List Addr), PTs (X.blk s H scope (compEnvC scope cl C X.env) fp) ifs (tT (kw X) Wx0 c))
    (he : ∀ (s : Shared) (H : Hp) (C : Addr) (cl : List (Str × Addr)) (fp : List Addr), IE (X.blk s H scope (compEnvC scope cl C X.env) fp) Wx0 elt e) (hix : ∀ j ∈ ix, j ∈ os) (hs : ∀ x, foldedSetIterable iter X.env x = pure x := by intro _; rfl) :
    IF X Wx (.ListComp elt [⟨tg, iter, ifs, 0⟩] scope pos) (fComp it os g c e) := by
  subst ho; exact if_comp hc hN hi ok hg ht he hix hs
theorem is_cp {i : Nat} {y : Str} {py spos : Pos} (own : List (Str × Nat)) (ho : own.map (·.2) = os) (hc : X.calm = true) (hN : X.N.Nodup) (hy : X.N[i]? = some y) (hyl : X.env.scope.names.lookup y = some .local)
    (hsw : swapsWith (.ListComp elt [⟨tg, iter, ifs, 0⟩] scope pos) (some (.Name y py)) spos.line X.env = pure true) (hi : II X Wx tg iter it) (ok : BlkOk X.N X.env.scope scope own)
    (hg : ∀ (s : Shared) (H : Hp) (C : Addr) (cl : List (Str × Addr)) (fp : List Addr), IG (X.blk s H scope (compEnvC scope cl C X.env) fp) tg ix g) (ht : ∀ (s : Shared) (H : Hp) (C : Addr) (cl : List (Str × Addr)) (fp : List Addr), PTs (X.blk s H scope (compEnvC scope cl C X.env) fp) ifs (tT (kw X) Wx0 c))
    (he : ∀ (s : Shared) (H : Hp) (C : Addr) (cl : List (Str × Addr)) (fp : List Addr), IE (X.blk s H scope (compEnvC scope cl C X.env) fp) Wx0 elt e) (hix : ∀ j ∈ ix, j ∈ os) (hs : ∀ x, foldedSetIterable iter X.env x = pure x := by intro _; rfl) :
    IS X Wx (.Assign [.Name y py] (.ListComp elt [⟨tg, iter, ifs, 0⟩] scope pos) spos) (sSetO i (fComp it os g c e)) := by
  subst ho; exact is_setLc hc hN hy hyl hsw hi ok hg ht he hix hs
theorem is_cpV {i : Nat} {y : Str} {py spos : Pos} (own : List (Str × Nat)) (ho : own.map (·.2) = os) (hc : X.calm = true) (hN : X.N.Nodup) (hy : X.N[i]? = some y) (hyl : X.env.scope.names.lookup y = some .local)
    (hsw : swapsWith (.ListComp elt [⟨tg, iter, ifs, 0⟩] scope pos) (some (.Name y py)) spos.line X.env = pure true) (hi : II X Wx tg iter it) (ok : BlkOk X.N X.env.scope scope own)
    (hg : ∀ (s : Shared) (H : Hp) (C : Addr) (cl : List (Str × Addr)) (fp : List Addr), IG (X.blk s H scope (compEnvC scope cl C X.env) fp) tg ix g) (ht : ∀ (s : Shared) (H : Hp) (C : Addr) (cl : List (Str × Addr)) (fp : List Addr), PTs (X.blk s H scope (compEnvC scope cl C X.env) fp) ifs (tT (kw X) Wx0 c))
    (he : ∀ (s : Shared) (H : Hp) (C : Addr) (cl : List (Str × Addr)) (fp : List Addr), IE (X.blk s H scope (compEnvC scope cl C X.env) fp) Wx0 elt e) (hix : ∀ j ∈ ix, j ∈ os) (hs : ∀ x, foldedSetIterable iter X.env x = pure x := by intro _; rfl) :
    IS X Wx (.Assign [.Name y py] (.ListComp elt [⟨tg, iter, ifs, 0⟩] scope pos) spos) (sSetC i (fComp it os g c e)) := by
  subst ho; exact is_setLcV hc hN hy hyl hsw hi ok hg ht he hix hs
end
end ML
set_option Elab.async false
set_option linter.all false
set_option maxRecDepth 100000
set_option maxHeartbeats 4000000
namespace ML
open PySem PySem.Spec PyProof.Rows L2

section
variable {X : Cx} {pins : List (Addr × Obj)} {σ : L2.St} {H : Hp} {s : Shared}
/-- an exception object that lies there becomes a tracked thing -/
theorem inv_track {a : Addr} {oe : Obj} {vs : Array Value} {cls : Value} {d : Option Addr} (I : Inv X pins σ H s) (ha : s.heap.get? a = some oe) (hz : Zc cls d oe) (hd : oe.data = .fields vs) (na : H a = none)
    (nL : a ≠ X.env.locals) (n0 : X.s_0.heap.get? a = none) (np : ∀ p ∈ X.pn ++ pins, p.1 ≠ a) : Inv X pins σ (upd H a (XO cls d a)) s := by
  have ne : ∀ b o, X.s_0.heap.get? b = some o → b ≠ a := fun b o e z => by
    rw [z, n0] at e
    cases e
  have up : ∀ b, b ≠ a → upd H a (XO cls d a) b = H b := fun b q => upd_ne q
  have un : ∀ b u, H b = some u → upd H a (XO cls d a) b = some u := fun b u q => upd_kp na b u q
  refine ⟨I.ok, I.os, I.bare, ⟨I.base.keep, I.base.slot, fun b o e n x => ?_, I.base.there, fun b xs q => un b _ (I.base.tups b xs q), fun b o u q => un b _ (I.base.frzs b o u q), fun b ps q => ?_⟩, I.loc, I.cell, ?_, fun x c e => ?_, fun p hp => ?_, fun b o e => ?_, I.len⟩
  · rw [up b (ne b o e)]
    exact I.base.free b o e n x
  · obtain ⟨more, q⟩ := I.base.tbls b ps q
    exact ⟨more, un b _ q⟩
  · rw [up _ (Ne.symm nL)]
    exact I.free
  · have : c ≠ a := fun z => by
      obtain ⟨v, o, e1, e2⟩ := I.cell x c e
      rw [z, ha] at e1
      cases e1
      rw [hd] at e2
      cases e2
    rw [up c this]
    exact I.freeC x c e
  · obtain ⟨e1, e2, e3, e4, e5⟩ := I.pin p hp
    exact ⟨e1, by rw [up _ (np p hp)]; exact e2, e3, e4, e5⟩
  · by_cases hb : b = a
    · subst hb
      rw [upd_same] at e
      cases e
      exact ⟨⟨oe, vs, ha, hz, hd⟩, ⟨oe, ha⟩, fun h1 h2 ⟨o1, v1, g1, g2, g3⟩ k => ⟨o1, v1, k _ g1, g2, g3⟩⟩
    · rw [up b hb] at e
      refine (I.hok b o e).stay (fun _ _ _ q => q) (fun c q => un c _ q) fun c xs q => un c _ q
theorem inv_suite0 (I : Inv X pins σ H s) (a : Addr) : Inv (X.suite a (X.pn ++ pins)) [] σ H s :=
  ⟨I.ok.suite _ _, I.os, I.bare, I.base, I.loc, I.cell, I.free, I.freeC, fun p hp => I.pin p (by rw [List.append_nil] at hp; exact hp), I.hok, I.len⟩
theorem inv_unsuite0 {a : Addr} {pn' : List (Addr × Obj)} (I : Inv (X.suite a (X.pn ++ pins)) pn' σ H s) (ok : X.Ok) : Inv X pins σ H s :=
  ⟨ok, I.os, I.bare, I.base, I.loc, I.cell, I.free, I.freeC, fun p hp => I.pin p (List.mem_append_left _ hp), I.hok, I.len⟩
end
/-- the wish of an exception that is kept behind the suite -/
def wKeep (K : PySem.W.Frag) (c : Value) (i : Nat) (ts : TS) (Wout : WX) (D : Ends) : WX := fun cls d σ H =>
  ∃ b, PySem.W.exmOne K cls c = some b ∧ (b = true → ∀ a, H a = none → ts { nx := fun σ' H' => D.nx (σ'.set i none) H', rt := D.rt, bk := fun σ' H' => D.bk (σ'.set i none) H', ct := fun σ' H' => D.ct (σ'.set i none) H' } (σ.set i (some (.ref a))) (upd H a (XO cls d a))) ∧
    (b = false → Wout cls d σ H)
section
variable {X : Cx} {x n : Str} {c : Value} {i : Nat} {body suite : List Stmt} {b₀ : Stmt} {np pos pos' : Pos} {tb : WX → TS} {ts : TS} {Wout : WX}
theorem ps_try_kept (hs : X.stack = X.env :: X.outer) (hf : X.env.frame = some X.env.locals) (hex : X.ex = []) (hN : X.N.Nodup) (hi : X.N[i]? = some n) (hln : X.env.kindOf n = some .local) (hc : Names X x c) (tk : Takes X Wout)
    (hb : ∀ (W : WX) (pn : List (Addr × Obj)) (xe : Value → Shared → Prop), Takes (X.tr pn xe) W → PassesOwn (model X.prog X.w) X.A X.env xe → PSs (X.tr pn xe) body (tb W))
    (hsu : ∀ (a : Addr) (pn : List (Addr × Obj)), PSs (X.suite a pn) (b₀ :: suite) ts) :
    PS X (.Try body [.ExceptHandler (some (.Name x np)) (some n) (b₀ :: suite) pos'] [] [] pos) (fun D σ H => tb (wKeep X.K c i ts Wout D) D σ H) := by
  refine ⟨fun pins s σ H D I h => ?_⟩
  have ok := I.ok
  have hfr : X.A.frames = some (X.env :: X.outer) := by rw [ok.frames, hs]
  have hloc : Loc X.env.scope n := .inl hln
  refine wpAny_Try_except ?_
  refine wpAny_mono ((hb (wKeep X.K c i ts Wout D) (X.pn ++ pins) (fun e s₁ => wpAny (model X.prog X.w) X.A (noteFrame e X.env) (fun _ s₂ => wpAny (model X.prog X.w) X.A (setFlight e none) (fun _ s₃ =>
    wpAny (model X.prog X.w) X.A (handleBy e X.env [.ExceptHandler (some (.Name x np)) (some n) (b₀ :: suite) pos']) (SP X pins D) X.xe s₃) X.xe s₂) X.xe s₁) (fun u s' xx => ?_) PassesOwn.looking).run [] s σ H D (I.toTry _) h) (fun f s1 hsp => ?_) (fun e s1 he => he)
  · obtain ⟨a, B, sI, pins', σ', H', cls, d, rfl, J', nb, up, sky, na, os, ag, b, hb1, hyes, hno⟩ := xx
    have J : Inv X pins σ' H' sI := J'.ofTry ok
    have sky' : Sky B (X.env :: X.outer) a (Zc cls d) X.env.locals s'.heap := by rw [← hs]; exact sky
    show wpAny (model X.prog X.w) X.A (noteFrame (.ref a) X.env) _ _ _
    refine Sky.land Zc.steady hfr hf sky' fun h3 fl3 up3 => ?_
    have J3 : Inv X pins σ' H' { s' with heap := h3 } := J.landed nb fl3.1 (up.trans up3) os ag
    obtain ⟨oe3, vs3, he3, hz3, hd3⟩ := fl3.there
    have nfr : a ∉ frs (X.env :: X.outer) := fun hm => by
      obtain ⟨_, o', e', hnf⟩ := (fl3.2.2.1).mem hm
      rw [he3] at e'; cases e'
      exact hnf _ hd3
    have nL : a ≠ X.env.locals := fun z => nfr (List.mem_filterMap.mpr ⟨X.env, List.mem_cons_self, by rw [hf, z]⟩)
    have nI : sI.heap.get? a = none := by
      cases q : sI.heap.get? a with
      | none => rfl
      | some o =>
        have z := nb a o q (by rw [hs]; exact nfr)
        rw [fl3.2.1] at z
        cases z
    have n0 : X.s_0.heap.get? a = none := by
      cases q : X.s_0.heap.get? a with
      | none => rfl
      | some o =>
        obtain ⟨o', z⟩ := J.base.there a o q (by rw [hex]; simp)
        rw [nI] at z
        cases z
    have npn : ∀ p ∈ X.pn ++ pins, p.1 ≠ a := fun p hp z => by
      have q := (J.pin p hp).1
      rw [z, nI] at q
      cases q
    have S3 := inv_suite0 J3 a
    refine wpAny_handleBy_cons (codeAny_handlers_test ?_) (by intro q; cases q)
    have LT : PySem.W.Looks (model X.prog X.w) h3 (typeOf (.ref a)) cls := fun A Q E s k q => wpAny_typeOf_ref (k _ _ he3) (by rw [hz3.1]; exact q)
    have LM := PySem.W.exm_one (M := model X.prog X.w) (J3.kIn) LT hb1
    have test : ∀ {Q : Value → Shared → Prop} {E : Value → Shared → Prop}, Q c { s' with heap := h3 } → wpAny (model X.prog X.w) (X.A.mark (some (.ref a))) (eval (.Name x np) X.env) Q E { s' with heap := h3 } := fun {Q E} q => by
      obtain ⟨hg, hdbg, hm | ⟨hm, hv, hnn⟩⟩ := hc
      · exact ld_glob (X := X.suite a (X.pn ++ pins)) S3 hg hm q hdbg
      · exact ld_blt (X := X.suite a (X.pn ++ pins)) S3 hg hm hv q hnn hdbg
    refine test (LM.here ?_)
    cases b with
    | true =>
      refine codeAny_handlers_suite_as ?_
      refine HandSPX.lands_againZ fl3 fun h4 fl4 up4 => ?_
      have J4 : Inv X pins σ' H' { s' with heap := h4 } := J.landed nb fl4.1 ((up.trans up3).trans up4) os ag
      obtain ⟨oe4, vs4, he4, hz4, hd4⟩ := fl4.there
      have T4 := inv_track J4 he4 hz4 hd4 na nL n0 npn
      have S4 := inv_suite0 T4 a
      refine store_ok (X := X.suite a (X.pn ++ pins)) (v := .ref a) S4 hN hi hloc rfl (fun s5 S5 => ?_) (.inr hln)
      refine wpAny_mono ((hsu a (X.pn ++ pins)).run [] s5 _ _ _ S5 (hyes rfl a na)) (fun f s6 hsp => ?_) (fun _ _ z => False.elim z)
      have end_ : ∀ {σ6 : L2.St} {H6 : Hp} {Q : Shared → Prop}, Inv (X.suite a (X.pn ++ pins)) [] σ6 H6 s6 → (∀ s7, Inv X pins (σ6.set i none) H6 s7 → Q s7) →
          wpAny (model X.prog X.w) X.A (do bindName X.env n .none; unbindBehindTheSuite X.env n pos') (fun _ s7 => Q s7) X.xe s6 := fun {σ6 H6 Q} S6 hq => gone_ok (inv_unsuite0 S6 ok) hN hi hln hq
      cases f with
      | next =>
        obtain ⟨σ6, H6, S6, q6⟩ := hsp
        exact end_ S6 fun s7 J7 => ⟨_, _, J7, q6⟩
      | brk =>
        obtain ⟨σ6, H6, S6, q6⟩ := hsp
        exact end_ S6 fun s7 J7 => ⟨_, _, J7, q6⟩
      | cont =>
        obtain ⟨σ6, H6, S6, q6⟩ := hsp
        exact end_ S6 fun s7 J7 => ⟨_, _, J7, q6⟩
      | ret u =>
        obtain ⟨v6, σ6, H6, S6, r6, q6⟩ := hsp
        exact end_ S6 fun s7 J7 => ⟨_, _, _, J7, r6, q6⟩
    | false =>
      show wpAny _ X.A (handleBy (.ref a) X.env []) _ _ _
      refine wpAny_handleBy_nil ?_
      obtain ⟨k1, k2, k3, oe, vs, T, oT, ts', he, hz, hd, h1, hr⟩ := id fl3
      unfold PySem.passOn
      refine wpAny_bind (wpAny_field he hd h1 ?_)
      rw [if_neg (show ¬ ((Value.ref T == Value.none) = true) from by simp)]
      have fin : wpAny (model X.prog X.w) X.A (setFlight (.ref a) X.env.frame) (fun _ s4 => wpAny (model X.prog X.w) X.A (throw (.ref a) : Sem Flow) (SP X pins D) X.xe s4) X.xe { s' with heap := h3 } := by
        rw [hf]
        refine HandSPX.setFlight_upZ fl3 fun h4 hh4 up4 => wpAny_throw (tk _ _ ?_)
        exact ⟨a, B, sI, pins, σ', H', cls, d, rfl, J, nb, (up.trans up3).trans up4, .inr (.inr (by rw [hs]; exact hh4)), na, os, ag, hno rfl⟩
      first
        | exact wpAny_bind (wpAny_pure (wpAny_bind fin))
        | exact wpAny_bind fin
  · cases f with
    | next =>
      obtain ⟨σ', H', J', q⟩ := hsp
      exact wpAny_execs_nil ⟨σ', H', J'.ofTry ok, q⟩
    | brk =>
      obtain ⟨σ', H', J', q⟩ := hsp
      exact ⟨σ', H', J'.ofTry ok, q⟩
    | cont =>
      obtain ⟨σ', H', J', q⟩ := hsp
      exact ⟨σ', H', J'.ofTry ok, q⟩
    | ret u =>
      obtain ⟨v, σ', H', J', r, q⟩ := hsp
      exact ⟨v, σ', H', J'.ofTry ok, r, q⟩
end
/-! ### try: .. except C as n: .. -/
def sTry (sub : Str → Option Bool) (i : Nat) (mb ms : SM) : SM := fun sw S => match mb sw S with
  | .exc c fs ws sw' S' => match sub c with
    | some true => match ms (sw'.set i (some (.val (.exc c fs ws)))) S' with
      | .ok (.nx s2) S2 => .ok (.nx (s2.set i none)) S2
      | .ok (.bk s2) S2 => .ok (.bk (s2.set i none)) S2
      | .ok (.ct s2) S2 => .ok (.ct (s2.set i none)) S2
      | .ok (.rt rv) S2 => .ok (.rt rv) S2
      | _ => .bad
    | some false => .exc c fs ws sw' S'
    | none => .bad
  | .ok f S' => .ok f S'
  | .bad => .bad
theorem none_get {A : Type} {l : List (Option A)} {i j : Nat} {y : A} (h : (l.set i none)[j]? = some (some y)) : i ≠ j ∧ l[j]? = some (some y) := by
  by_cases e : i = j
  · subst e
    by_cases hl : i < l.length
    · rw [List.getElem?_set_self hl] at h
      cases h
    · rw [List.getElem?_eq_none (by simpa using hl)] at h
      cases h
  · rw [List.getElem?_set_ne e] at h
    exact ⟨e, h⟩
theorem StR.setNone {k : Kw} {F0 F : FS} {H : Hp} {r : List Addr} {s : L2.St} {sw : SW} (st : StR k F0 F H r s sw) (i : Nat) : StR k F0 F H r (s.set i none) (sw.set i none) := by
  refine ⟨by simpa using st.len, fun j w' h => ?_, fun j o h => ?_, fun j l o o' a h1 h2 h3 h4 => ?_⟩
  · obtain ⟨ne, h⟩ := none_get h
    obtain ⟨v', e, q⟩ := st.val j w' h
    exact ⟨v', by rw [List.getElem?_set_ne ne]; exact e, q⟩
  · obtain ⟨ne, h⟩ := none_get h
    obtain ⟨a, e, q⟩ := st.own j o h
    exact ⟨a, by rw [List.getElem?_set_ne ne]; exact e, q⟩
  · obtain ⟨ne, h1⟩ := none_get h1
    obtain ⟨ne', h2⟩ := none_get h2
    rw [List.getElem?_set_ne ne] at h3
    rw [List.getElem?_set_ne ne'] at h4
    exact st.dis j l o o' a h1 h2 h3 h4
section
variable {X : Cx} {Wx : WX} {x n : Str} {cv : Value} {i : Nat} {body suite : List Stmt} {b₀ : Stmt} {np pos pos' : Pos} {mb ms : SM} {sub : Str → Option Bool}
theorem is_try (hs : X.stack = X.env :: X.outer) (hf : X.env.frame = some X.env.locals) (hex : X.ex = []) (hN : X.N.Nodup) (hi : X.N[i]? = some n) (hln : X.env.kindOf n = some .local) (hc : Names X x cv)
    (hsub : ∀ c b, sub c = some b → PySem.W.exmOne X.K (.ref (He.ga X.K c)) cv = some b) (tk : Takes X Wx)
    (hb : ∀ (W : WX) (pn : List (Addr × Obj)) (xe : Value → Shared → Prop), Takes (X.tr pn xe) W → PassesOwn (model X.prog X.w) X.A X.env xe → ISs (X.tr pn xe) W body mb)
    (hsu : ∀ (a : Addr) (pn : List (Addr × Obj)), ISs (X.suite a pn) Wx0 (b₀ :: suite) ms) :
    IS X Wx (.Try body [.ExceptHandler (some (.Name x np)) (some n) (b₀ :: suite) pos'] [] [] pos) (sTry sub i mb ms) := by
  refine ps_imp (ps_try_kept (tb := fun W => tS (kw X) W mb) (ts := tS (kw X) Wx0 ms) hs hf hex hN hi hln hc tk hb hsu) fun D σ H h => ?_
  obtain ⟨F0, H0, r0, F, r, S, sw, x0, t, st, q⟩ := h
  refine ⟨F0, H0, r0, F, r, S, sw, x0, t, st, ?_⟩
  unfold sTry at q
  cases e : mb sw S with
  | ok f S' =>
    rw [e] at q
    cases f <;> exact q
  | bad =>
    rw [e] at q
    exact q
  | exc c fs ws sw' S' =>
    rw [e] at q
    intro d vs F' H' r' s' x y t' st' ed l
    cases e1 : sub c with
    | none =>
      simp only [e1] at q
      exact q.elim
    | some b =>
      cases b with
      | false =>
        simp only [e1] at q
        exact ⟨false, hsub c _ e1, (fun z => nomatch z), fun _ => q d vs F' H' r' s' x y t' st' ed l⟩
      | true =>
        simp only [e1] at q
        refine ⟨true, hsub c _ e1, fun _ a na => ?_, (fun z => nomatch z)⟩
        have xn := Ext.new1 (F := F') (r := r') (o := XO (.ref (He.ga X.K c)) d a) na
        have mn := xn.mv t'.inF
        have tn := t'.new1 (o := XO (.ref (He.ga X.K c)) d a) na
        have rv : RepV (kw X) F' (upd H' a (XO (.ref (He.ga X.K c)) d a)) r' (.exc c fs ws) (.ref a) := by
          refine RepV.mv (Mv.refl _ _ _) _ _ ?_
          unfold RepV
          refine ⟨a, d, vs, rfl, t'.free na, upd_same, ⟨ed.1, ?_⟩, RepL.mv mn _ _ l⟩
          rcases ed.2 with z | ⟨x1, z1, z2, z3⟩
          · exact .inl z
          · exact .inr ⟨x1, z1, z2, mn.kp _ _ z3 z2⟩
        refine ⟨F0, H0, r0, F', r', S', sw'.set i (some (.val (.exc c fs ws))), x.trans xn, tn, (st'.ext xn t').setVal rv i, ?_⟩
        have q := RunS.rebase (y.trans mn) q
        cases e2 : ms (sw'.set i (some (.val (.exc c fs ws)))) S' with
        | ok f S2 =>
          rw [e2] at q
          cases f with
          | nx s2 => exact fun F H r s x y t st => q F H r _ x y t (st.setNone i)
          | bk s2 => exact fun F H r s x y t st => q F H r _ x y t (st.setNone i)
          | ct s2 => exact fun F H r s x y t st => q F H r _ x y t (st.setNone i)
          | rt rv => exact q
        | exc c fs ws sw S =>
          rw [e2] at q
          exact q.elim
        | bad =>
          rw [e2] at q
          exact q.elim
end
end ML
set_option Elab.async false
set_option linter.all false
set_option maxRecDepth 100000
set_option maxHeartbeats 4000000
namespace ML
open PySem PySem.Spec PyProof.Rows L2
section
variable {prog : Program} {w : World} {A : Around} {E : Value → Shared → Prop} {s : Shared} {K : PySem.W.Frag} {x D : Addr} {ox : Obj} {od : Option Obj}
open PySem.W PySem.Calls in
theorem cls_of_exc {Q : Option Value → Shared → Prop} (C : ExcC K D) (X : K.In s.heap) (I : PySem.W.InstAt s.heap x ox D od) (h : Q (some (.ref D)) { s with toks := s.toks + 1 }) : wpAny (model prog w) A (getAttr? (.ref x) "__class__") Q E s := by
  have hf : findObj K D od "__class__" = some (.bind (.builtin "getset_descriptor.__get__") (.builtin "object.__class__")) := by
    obtain ⟨cd, hc, _⟩ := any_some C.hd
    unfold findObj
    rw [hc, Option.bind_some, C.ha, Option.bind_some]
    simp [C.hn, C.ht]
  obtain ⟨hp, g, d, t, os⟩ := s
  have L0 := I.type (M := model prog w)
  have L1 := looks_findIn (M := model prog w) X C.hg
  have L2' := looks_findIn (M := model prog w) X C.hk
  have L3 := looks_find (M := model prog w) X I hf
  have sub : Looks (model prog w) hp (isInstance (.ref x) (.type "BaseException")) true := L0.andThen (looks_subIn X C.hs)
  have b0 : (false && onTheHeap (Value.builtin "BaseException.__getattribute__")) = false := rfl
  have b2 : (Value.builtin "BaseException.__getattribute__" == Value.builtin "object.__getattribute__") = false := by decide +kernel
  have b1 : (onTheHeap (Value.ref D) && Value.builtin "BaseException.__getattribute__" == Value.builtin "object.__getattribute__") = false := by rw [b2]; rfl
  unfold getAttr? getAttrBy? getAttrBy
  refine wpAny_bind (wpAny_mkText (wpAny_bind (wpAny_attempt (wpAny_holding (wpAny_bind (L0.at (wpAny_bind (L1.at ?_))))))))
  show wpAny _ _ (if (onTheHeap (Value.ref D) && Value.builtin "BaseException.__getattribute__" == Value.builtin "object.__getattribute__") = true then _ else _) _ _ _
  rw [b1, if_neg Bool.false_ne_true]
  unfold getAttrByItsOwn hookBefore
  refine wpAny_bind ?_
  rw [if_pos (show onTheHeap (Value.ref D) = true from rfl)]
  refine L2'.at ?_
  refine wpAny_bind (wpAny_attempt (wpAny_holding ?_))
  unfold callGetattribute
  rw [b0, if_neg Bool.false_ne_true]
  unfold boundAndCalled
  rw [PySem.F.excAttr_ValueError.ga.bind (.ref x)]
  refine wpAny_bind (wpAny_pure ?_)
  show wpAny _ _ (call (.builtin "BaseException.__getattribute__") [.ref x, .str "__class__" t]) _ _ _
  refine wpAny_call (codeAny_call_builtin PySem.F.excAttr_ValueError.ga.plain PySem.F.entry_bexc_ga ?_)
  refine @check_slot (model prog w) _ _ ⟨hp, g, d, t + 1, os⟩ "BaseException.__getattribute__" "BaseException" "__getattribute__" (.ref x) [.str "__class__" t] [] _ (by decide +kernel) (by decide +kernel) sub (PySem.F.args_bexc_ga (.ref x) (.str "__class__" t)) ?_
  unfold Builtin.«object.__getattribute__»
  refine wpAny_bind (wpAny_of_eq (a := ((Value.ref x : Value), [Value.str "__class__" t])) (by first | rfl | (simp only [slotArgs]; rfl)) ?_)
  refine wpAny_bind (wpAny_pure (wpAny_bind (L0.at (wpAny_bind (L3.at ?_)))))
  show wpAny _ _ (holding [Value.builtin "object.__class__"] (call (.builtin "getset_descriptor.__get__") [.builtin "object.__class__", .ref x, .ref D]) >>= ret) _ _ _
  refine wpAny_bind (wpAny_holding (wpAny_call (class_get (s := ⟨hp, g, d, t + 1, os⟩) (ox := ox) (od := od) X I C.hm ?_)))
  refine wpAny_pure ?_
  show wpAny _ _ (handedOut (.ref D)) _ _ _
  rw [handedOut_of (v := .ref D) rfl]
  first
    | exact wpAny_pure (wpAny_pure h)
    | exact wpAny_pure h
    | exact wpAny_pure (wpAny_bind (wpAny_pure (wpAny_pure h)))
open PySem.W in
theorem kit_exc (C : ExcC K D) : PySem.W.KitX K (.ref x) (.ref D) (fun h => PySem.W.InstAt h x ox D od) where
  ty := fun _ _ _ I => I.type
  it := fun _ _ X _ => by
    obtain ⟨cdD, hcD, _⟩ := any_some C.hd
    unfold clsIn at hcD
    split at hcD
    · rename_i c' d' cd' sl' ho
      intro A' Q' E' s' k q
      unfold isType loadHead
      exact wpAny_bind (wpAny_loadPart (k _ _ (X _ _ ho)) (wpAny_pure q))
    · cases hcD
  ne := fun h tp dd its n sl X htp => by
    obtain ⟨cdD, hcD, _⟩ := any_some C.hd
    refine Bool.eq_false_iff.mpr fun q => ?_
    have e : D = tp := Value.ref.inj (beq_iff_eq.mp q)
    subst e
    unfold clsIn at hcD
    split at hcD
    · rename_i c' d' cd' sl' ho
      have z := (X _ _ ho).symm.trans htp
      cases z
    · cases hcD
  ca := fun X I k => cls_of_exc C X I k
end
/-! ### isinstance(e, C) -/
inductive TyE (K : PySem.W.Frag) (H : Hp) : V → Value → Prop where
  | y {v : V} {t : Value} (h : TyY K H v t) : TyE K H v t
  | e {a D : Addr} {d : Option Addr} (C : ExcC K D) (e : H a = some (XO (.ref D) d a)) (hd : d = none ∨ ∃ x fs, d = some x ∧ H x = some (.xd fs)) : TyE K H (.ref a) (.ref D)
def rIsX (K : PySem.W.Frag) (cv : Value) : V → Hp → VK → Prop := fun v H Q => ∃ t b, TyE K H v t ∧ PySem.W.kitOne K t cv = some b ∧ Q (.bl b) H
section
variable {X : Cx} {Wx : WX}
theorem call_isX {cV : V} {cv : Value} (hk : ClsV cV cv) : CallR X (.builtin "isinstance") (fun xs H Q => ∃ v, xs = [v, cV] ∧ rIsX X.K cv v H Q) := by
  intro pins s σ H xs us Q I r h
  obtain ⟨v, rfl, t, b, ty, e, q⟩ := h
  obtain ⟨u1, u2, rfl, r1, r2⟩ := vals2 r
  have e2 := hk.eq r2
  subst e2
  cases ty with
  | y h =>
    cases h with
    | x h => exact call_isi pins s σ H _ _ Q I (.cons r1 (.cons r2 .nil)) ⟨v, cV, t, u2, b, rfl, hk, h, e, q⟩
    | d ea =>
      rename_i a es
      cases (show u1 = Value.ref a from r1)
      obtain ⟨⟨_, _, o, eo, _, h1, h2, _⟩, _⟩ := I.hok a _ ea
      exact PySem.W.kia_one (PySem.W.kitx_dict) I.kIn ⟨o, h1, h2.1⟩ e (fun z => nomatch z) fun tk => ⟨.bl b, H, I.tok tk, rfl, q⟩
  | e C ea hd =>
    rename_i a D d
    cases (show u1 = Value.ref a from r1)
    obtain ⟨⟨oe, vs, h1, ⟨h2, h3⟩, h4⟩, _⟩ := I.hok a _ ea
    have J : ∃ od, PySem.W.InstAt s.heap a oe D od := by
      obtain ⟨oc, odi, oda, osl⟩ := oe
      dsimp only at h2 h3 h4
      subst h2 h3 h4
      rcases hd with rfl | ⟨x, fs, rfl, ex⟩
      · exact ⟨none, h1, rfl, rfl, trivial⟩
      · obtain ⟨mA, ⟨o, _, _, ho, _⟩, _⟩ := I.hok x _ ex
        exact ⟨some o, h1, rfl, rfl, ho⟩
    obtain ⟨od, J⟩ := J
    exact PySem.W.kia_one (kit_exc C) I.kIn J e (fun z => nomatch z) fun tk => ⟨.bl b, H, I.tok tk, rfl, q⟩
def opIsX (tab : Str → Option Bool) : F1 := fun sw x S => match x with
  | .exc c _ _ => match tab c with
    | some b => .ok (.bl b) S
    | none => .bad
  | x => match tagOf sw S x with
    | some _ => .ok (.bl false) S
    | none => .bad
structure IsF (K : PySem.W.Frag) (cv : Value) (tab : Str → Option Bool) : Prop where
  exc : ∀ c b, tab c = some b → ExcC K (He.ga K c) ∧ PySem.W.kitOne K (.ref (He.ga K c)) cv = some b
  base : ∀ g ∈ tags, PySem.W.kitOne K (.type g) cv = some false
theorem sp_isX {k : Kw} {cv : Value} {tab : Str → Option Bool} (f : IsF k.K cv tab) : Sp1 k (rIsX k.K cv) (opIsX tab) := by
  intro F0 F H rho S s sw x v Wx Q t st b q
  have gen : (match tagOf sw S x with
    | some _ => Run k Wx s F H rho (.ok (.bl false) S) (pV k Q)
    | none => False) → rIsX k.K cv v H Q := fun q => by
    cases e : tagOf sw S x with
    | none =>
      rw [e] at q
      exact q.elim
    | some g =>
      rw [e] at q
      obtain ⟨ty, hg⟩ := tag_rep t st b e
      exact ⟨_, false, .y ty, f.base g hg, Run.ok (k := k) (Wx := Wx) (s := s) q t _ rfl⟩
  unfold opIsX at q
  cases x with
  | exc c fs ws =>
    obtain ⟨a, d, vs, rfl, nf, ea, ed, l⟩ := b
    have q : Run k Wx s F H rho (match tab c with
      | some b => .ok (.bl b) S
      | none => .bad) (pV k Q) := q
    cases e : tab c with
    | none =>
      rw [e] at q
      exact q.elim
    | some b =>
      rw [e] at q
      obtain ⟨C, kt⟩ := f.exc c b e
      refine ⟨_, b, .e C ea ?_, kt, q.ok t _ rfl⟩
      rcases ed.2 with ⟨z, _⟩ | ⟨x, z, _, z2⟩
      · exact .inl z
      · exact .inr ⟨x, _, z, z2⟩
  | _ =>
    refine gen ?_
    revert q
    dsimp only
    split
    · rename_i e
      intro q
      first | (simp only [e]; exact q) | exact q
    · intro q
      exact q.elim
theorem ie_isX {a : Expr} {T : Str} {tab : Str → Option Bool} {p p1 pos : Pos} {m : EM} (f : IsF X.K (.ref (He.ga X.K T)) tab) (hg : Gl X "isinstance") (hm : X.mg "isinstance" = none) (hgT : Gl X T) (hmT : X.mg T = some (.ref (He.ga X.K T))) (ha : IB X Wx a m) (hdT : (T == ("__debug__" : Str)) = false := by decide)
    (he : starEach [a, .Name T p1] X.env = (false, eval a X.env) :: starEach [.Name T p1] X.env := by rfl) (hpl : (backTo pos (starEach [.Name T p1] X.env)).any (·.1) = false := by rfl) :
    IE X Wx (.Call (.Name "isinstance" p) [a, .Name T p1] [] pos) (eOp1 (opIsX tab) m) := by
  refine pe_imp (pe_callB (call_isX (ClsV.own (He.ga X.K T))) hg hm (by decide +kernel) (pa_cons ha (pa_cons (pe_glob (v := .ref (He.ga X.K T)) hgT hmT rfl hdT) pa_nil) he) (by decide) (by decide) he hpl) fun s H Q h => ?_
  have h2 := op1_imp (sp_isX (k := kw X) f) s H Q h
  obtain ⟨F0, F, r, S, sw, t, st, q⟩ := h2
  exact ⟨F0, F, r, S, sw, t, st, q.imp fun w F' H' r' z v rv => ⟨v, rfl, z v rv⟩⟩
theorem ie_isV {a : Expr} {T : Str} {Ts : String} {tab : Str → Option Bool} {p p1 pos : Pos} {m : EM} (f : IsF X.K (.type Ts) tab) (hg : Gl X "isinstance") (hm : X.mg "isinstance" = none) (hgT : Gl X T) (hmT : X.mg T = none) (hv : bootBuiltins T = some (.type Ts)) (ha : IB X Wx a m) (hnT : T ≠ "__name__" := by decide) (hdT : (T == ("__debug__" : Str)) = false := by decide)
    (he : starEach [a, .Name T p1] X.env = (false, eval a X.env) :: starEach [.Name T p1] X.env := by rfl) (hpl : (backTo pos (starEach [.Name T p1] X.env)).any (·.1) = false := by rfl) :
    IE X Wx (.Call (.Name "isinstance" p) [a, .Name T p1] [] pos) (eOp1 (opIsX tab) m) := by
  refine pe_imp (pe_callB (call_isX (ClsV.ty Ts)) hg hm (by decide +kernel) (pa_cons ha (pa_cons (pe_bltn (v := .ty Ts) hgT hmT hv rfl hnT hdT) pa_nil) he) (by decide) (by decide) he hpl) fun s H Q h => ?_
  have h2 := op1_imp (sp_isX (k := kw X) f) s H Q h
  obtain ⟨F0, F, r, S, sw, t, st, q⟩ := h2
  exact ⟨F0, F, r, S, sw, t, st, q.imp fun w F' H' r' z v rv => ⟨v, rfl, z v rv⟩⟩
end
/-! ### the facts as they are asked of the head -/
def excB (K : PySem.W.Frag) (c : Str) : Bool :=
  (PySem.W.findIn K (.ref (He.ga K c)) "__getattribute__" == some (some (.builtin "BaseException.__getattribute__"))) && ((PySem.W.findIn K (.ref (He.ga K c)) "__getattr__" == some none) && ((PySem.W.subIn K (.ref (He.ga K c)) (.type "BaseException") == some true) &&
  (PySem.W.hasDictIn K (He.ga K c) && ((PySem.W.findIn K (.ref (He.ga K c)) "__class__" == some (some (.builtin "object.__class__"))) && ((PySem.W.specialIn K (.builtin "object.__class__") "__get__" == some (some (.builtin "getset_descriptor.__get__"))) &&
  ((PySem.W.takesIn K (.builtin "object.__class__") == some true) && (PySem.W.mroIn K (He.ga K c) (.type "object") == some true)))))))
theorem excB_ok {K : PySem.W.Frag} {c : Str} (h : excB K c = true) : ExcC K (He.ga K c) := by
  unfold excB at h
  simp only [Bool.and_eq_true, beq_iff_eq] at h
  obtain ⟨h1, h2, h3, h4, h5, h6, h7, h8⟩ := h
  exact ⟨h1, h2, h3, h4, h5, h6, h7, h8⟩
def excsB (K : PySem.W.Frag) (cs : List Str) : Bool := cs.all fun c => excB K c
def isB (K : PySem.W.Frag) (cv : Value) (ts : List (Str × Bool)) : Bool := (ts.all fun p => PySem.W.kitOne K (.ref (He.ga K p.1)) cv == some p.2) && tags.all fun g => PySem.W.kitOne K (.type g) cv == some false
def exmB (K : PySem.W.Frag) (cv : Value) (ts : List (Str × Bool)) : Bool := ts.all fun p => PySem.W.exmOne K (.ref (He.ga K p.1)) cv == some p.2
theorem lookup_mem {A : Type} : ∀ {ts : List (Str × A)} {c : Str} {b : A}, ts.lookup c = some b → (c, b) ∈ ts
  | [], _, _, h => nomatch h
  | (d, y) :: r, c, b, h => by
    rw [List.lookup_cons] at h
    cases e : c == d with
    | true =>
      rw [e] at h
      cases h
      rw [beq_iff_eq.mp e]
      exact List.mem_cons_self
    | false =>
      rw [e] at h
      exact List.mem_cons_of_mem _ (lookup_mem h)
theorem isB_ok {K : PySem.W.Frag} {cv : Value} {ts : List (Str × Bool)} {cs : List Str} (h : isB K cv ts = true) (hx : excsB K cs = true) (hc : ∀ p ∈ ts, p.1 ∈ cs) : IsF K cv fun c => ts.lookup c := by
  unfold isB at h
  rw [Bool.and_eq_true] at h
  refine ⟨fun c b e => ?_, fun g hg => beq_iff_eq.mp (List.all_eq_true.mp h.2 g hg)⟩
  have m := lookup_mem e
  exact ⟨excB_ok (List.all_eq_true.mp hx c (hc _ m)), beq_iff_eq.mp (List.all_eq_true.mp h.1 _ m)⟩
theorem exmB_ok {K : PySem.W.Frag} {cv : Value} {ts : List (Str × Bool)} (h : exmB K cv ts = true) : ∀ c b, (fun c => ts.lookup c) c = some b → PySem.W.exmOne K (.ref (He.ga K c)) cv = some b := fun c b e =>
  beq_iff_eq.mp (List.all_eq_true.mp h _ (lookup_mem e))
end ML
set_option Elab.async false
set_option linter.all false
set_option maxRecDepth 100000
set_option maxHeartbeats 4000000
namespace ML
open PySem PySem.Spec PyProof.Rows L2
/-! ### comprehensions over an own list -/
def Wat (s : L2.St) (sw : SW) (H H1 : Hp) : Prop := ∀ (i : Nat) (o : O) (a : Addr), sw[i]? = some (some (.own o)) → s[i]? = some (some (.ref a)) → H1 a = H a
theorem Wat.step {k : Kw} {F0 F1 F2 : FS} {H H1 H2 : Hp} {r1 r2 : List Addr} {s : L2.St} {sw : SW} (w : Wat s sw H H1) (st : StR k F0 F1 H1 r1 s sw) (x : Ext F1 H1 r1 F2 H2 r2) : Wat s sw H H2 := fun i o a h1 h2 => by
  obtain ⟨a', e, _, _, nr, ob⟩ := st.own i o h1
  rw [h2] at e
  cases e
  rw [← w i o a h1 h2]
  cases q : H1 a with
  | some u => exact x.kp a u q nr
  | none =>
    cases o with
    | lst ws => obtain ⟨vs, z, _⟩ := ob; rw [q] at z; cases z
    | dct ks ws => obtain ⟨vs, z, _⟩ := ob; rw [q] at z; cases z
    | ins c fs => obtain ⟨dx, vs, z, _⟩ := ob; rw [q] at z; cases z
theorem Wat.put {s : L2.St} {sw : SW} {H H1 : Hp} {D : Addr} {u : HO} (w : Wat s sw H H1) (ne : ∀ (j : Nat) (o' : O), sw[j]? = some (some (Sl.own o')) → s[j]? ≠ some (some (V.ref D))) : Wat s sw H (upd H1 D u) := fun i o a h1 h2 => by
  rw [upd_ne fun z => ne i o h1 (by rw [h2, z])]
  exact w i o a h1 h2
structure ItOkB (k : Kw) (J : It) (ws : List W) (s : L2.St) (sw : SW) (F : FS) (H : Hp) (r : List Addr) : Prop where
  go : ∀ F1 H1 r1, Mv F H r F1 H1 r1 → Wat s sw H H1 → (∀ a, F1 a → H1 a ≠ none) → ∀ (i : Nat) (w : W), ws[i]? = some w → J.go i H1 ∧ ∀ x H2, J.yld i H1 x H2 → Ext F1 H1 r1 F1 H2 r1 ∧ (∀ S, Sto k F1 H1 r1 S → Sto k F1 H2 r1 S) ∧ RepV k F1 H2 r1 w x
  stop : ∀ F1 H1 r1, Mv F H r F1 H1 r1 → Wat s sw H H1 → ∀ i : Nat, ws.length ≤ i → J.stop i H1
def tIB (k : Kw) (Wx : WX) (m : IM) : TI := fun s H R => ∃ F0 F rho S sw, Sto k F H rho S ∧ StR k F0 F H rho s sw ∧ Run k Wx s F H rho (m sw S) (fun ws F' H' r' => ∀ J, ItOkB k J ws s sw F' H' r' → R J H')
abbrev IIB (X : Cx) (Wx : WX) (tg iter : Expr) (m : IM) : Prop := PI X tg iter (tIB (kw X) Wx m)
theorem iib_of {X : Cx} {Wx : WX} {tg it : Expr} {m : IM} (h : II X Wx tg it m) : IIB X Wx tg it m := pi_imp h fun s H R ⟨F0, F, r, S, sw, t, st, q⟩ =>
  ⟨F0, F, r, S, sw, t, st, q.imp fun ws F' H' r' z J ok => z J ⟨fun F1 H1 r1 m _ => ok.go F1 H1 r1 m, fun F1 H1 r1 m _ => ok.stop F1 H1 r1 m⟩⟩
/-- an own list, walked by an expression -/
def iB (m : EM) : IM := fun sw S => (m sw S).bind fun w S => match w with
  | .brw i => match sw[i]? with
    | some (some (.own (.lst ws))) => .ok ws S
    | _ => .bad
  | .tup ws => .ok ws S
  | .lst ws => .ok ws S
  | _ => .bad
theorem iib_b {X : Cx} {Wx : WX} {tg e : Expr} {m : EM} (h : IB X Wx e m) : IIB X Wx tg e (iB m) := by
  refine pi_imp (pi_seq h) fun s H R ⟨F0, F, r, S, sw, t, st, q⟩ => ?_
  refine tB_bind t st q fun w v Fa Ha ra Sa xa ta sa ba q => ?_
  have lift : ∀ {J : It} {ws : List W}, ItOk (kw X) J ws Fa Ha ra → ItOkB (kw X) J ws s sw Fa Ha ra := fun ok => ⟨fun F1 H1 r1 m _ => ok.go F1 H1 r1 m, fun F1 H1 r1 m _ => ok.stop F1 H1 r1 m⟩
  cases w with
  | tup ws =>
    obtain ⟨a, vs, rfl, hq, l⟩ := ba
    exact ⟨a, rfl, .inr ⟨⟨vs, by rcases hq with ⟨z, _⟩ | z; exact .inl (.inl z); exact .inr z⟩, q.ok ta _ (lift (Itt_ok hq l))⟩⟩
  | lst ws =>
    obtain ⟨a, vs, rfl, hq, l⟩ := ba
    exact ⟨a, rfl, .inl ⟨⟨vs, SqL.of hq.1⟩, q.ok ta _ (lift (Itl_ok hq l))⟩⟩
  | brw i =>
    obtain ⟨⟨o, e1⟩, e2⟩ := ba
    have q : Run (kw X) Wx s Fa Ha ra (match sw[i]? with
      | some (some (.own (.lst ws))) => .ok ws Sa
      | _ => .bad) (fun ws F' H' r' => ∀ J, ItOkB (kw X) J ws s sw F' H' r' → R J H') := q
    rw [e1] at q
    obtain ⟨a, e3, fa, _, _, ob⟩ := sa.own i o e1
    rw [e2] at e3
    cases e3
    cases o with
    | lst ws =>
      obtain ⟨vs, e4, l⟩ := ob
      have sq : ∀ H1, Wat s sw Ha H1 → SqL X.K H1 a vs := fun H1 w => SqL.of ((w i _ a e1 e2).trans e4)
      refine ⟨a, rfl, .inl ⟨⟨vs, SqL.of e4⟩, q.ok ta (Itl X.K a) ⟨fun F1 H1 r1 m w trk j y e => ?_, fun F1 H1 r1 m w j hj => ⟨vs, sq H1 w, by rw [← l.length]; exact hj⟩⟩⟩⟩
      obtain ⟨v, e5, rv⟩ := l.get e
      refine ⟨⟨vs, v, sq H1 w, e5⟩, fun x H2 y => ?_⟩
      obtain ⟨rfl, y⟩ := y
      have e6 := y vs (sq H2 w)
      rw [e5] at e6
      cases e6
      exact ⟨Ext.refl _ _ _, fun _ h => h, RepV.mv m _ _ rv⟩
    | dct ks ws => exact q.elim
    | ins c fs => exact q.elim
  | _ => exact q.elim
theorem comp_impB {k : Kw} {Wx : WX} {it : IM} {vs ix : List Nat} {g : GM} {c : TM} {e : EM} (hix : ∀ j ∈ ix, j ∈ vs) (s : L2.St) (H : Hp) (Q : VK) (h : tF k Wx (fComp it vs g c e) s H Q) : tLc (tIB k Wx it) (tG k ix g) (tT k Wx0 c) (tE k Wx0 e) vs s H Q := by
  obtain ⟨F0, F, r, S, sw, t, st, q⟩ := h
  refine ⟨F0, F, r, S, sw, t, st, ?_⟩
  unfold fComp at q
  cases e0 : it sw S with
  | bad =>
    rw [e0] at q
    exact q
  | exc c fs ws S' =>
    rw [e0] at q
    exact q
  | ok ws S' =>
    rw [e0] at q
    have q : Run k Wx s F H r (if ws.length ≤ sizeLine then (compW g c e (wipeW sw vs) ws S').bind fun ys S => .ok (.lst ys) S else .bad) (pF k H Q) := q
    intro Fj Hj rj xj tj J ok D hD
    have hD0 : H D = none := dom_back xj hD
    have ne : ∀ (j : Nat) (o' : O), sw[j]? = some (some (Sl.own o')) → s[j]? ≠ some (some (V.ref D)) := fun j o' h => fresh_slot t st hD0 j o' h
    split at q
    · rename_i hsz
      refine ⟨fun i m H1 => m = ws.length - i ∧ i ≤ ws.length ∧ ∃ F1 r1 S1 acc va, Ext F H r F1 H1 r1 ∧ Mv Fj Hj rj F1 H1 r1 ∧ Wat s sw Hj H1 ∧ Sto k F1 H1 r1 S1 ∧ F1 D ∧ D ∉ r1 ∧ H1 D = some (.lst va) ∧ RepL k F1 H1 r1 acc va ∧ acc.length ≤ i ∧ StR k F0 F1 H1 r1 s sw ∧
        Run k Wx s F H r ((compW g c e (wipeW sw vs) (ws.drop i) S1).bind fun (ys : List W) (S : Store) => Res.ok (O.lst (acc ++ ys)) S) (pF k H Q),
        ⟨ws.length, by omega, Nat.zero_le _, addF Fj D, rj, S', [], [], xj.trans (Ext.newF hD), (Ext.newF hD).mv tj.inF, (fun i o a h1 h2 => upd_ne (fun z => ne i o h1 (by rw [h2, z]))), tj.newF hD, .inr rfl, tj.mem_r hD, upd_same, rfl, Nat.zero_le _, (st.ext xj t).ext (Ext.newF hD) tj, q⟩, ?_⟩
      rintro i m H1 ⟨rfl, hi, F1, r1, S1, acc, va, x1, m1, w1, t1, fD, nD, hDv, la, hacc, st1, q⟩
      by_cases hlt : i < ws.length
      · rw [List.drop_eq_getElem_cons hlt] at q
        have hw : ws[i]? = some ws[i] := List.getElem?_eq_getElem hlt
        obtain ⟨go, yl⟩ := ok.go F1 H1 r1 m1 w1 t1.trk i _ hw
        refine .inr ⟨go, fun H1 => ∃ F1 r1 S1 acc va, Ext F H r F1 H1 r1 ∧ Mv Fj Hj rj F1 H1 r1 ∧ Wat s sw Hj H1 ∧ Sto k F1 H1 r1 S1 ∧ F1 D ∧ D ∉ r1 ∧ H1 D = some (.lst va) ∧ RepL k F1 H1 r1 acc va ∧ acc.length ≤ i + 1 ∧ StR k F0 F1 H1 r1 s sw ∧
          Run k Wx s F H r ((compW g c e (wipeW sw vs) (ws.drop (i + 1)) S1).bind fun (ys : List W) (S : Store) => Res.ok (O.lst (acc ++ ys)) S) (pF k H Q), fun H' z => ⟨ws.length - (i + 1), by omega, rfl, hlt, z⟩, fun x H2 y => ?_⟩
        obtain ⟨x2, tt2, rx⟩ := yl x H2 y
        have t2 := tt2 S1 t1
        have st2 := st1.ext x2 t1
        have hD2 : H2 D = some (.lst va) := x2.kp D _ hDv nD
        unfold compW at q
        cases e1 : g ws[i] (wipeW sw vs) with
        | none =>
          rw [e1] at q
          exact q.elim
        | some sw1 =>
          rw [e1] at q
          dsimp only at q
          refine ⟨F0, F1, r1, S1, wipeW sw vs, ws[i], sw1, t2, st2.wipe vs, rx, e1, fun s2 st3 hl2 hj2 => ⟨?_, ?_⟩⟩
          · rw [wipe_congr (s1 := s) (by rw [hl2, wipe_length]) fun j hj => (hj2 j fun z => hj (hix j z)).trans (wipe_get hj)]
          refine ⟨F0, F1, r1, S1, sw1, t2, st3, ?_⟩
          cases e2 : c sw1 S1 with
          | bad =>
            rw [e2] at q
            exact q
          | exc c fs vs S' =>
            rw [e2] at q
            exact q.elim
          | ok b S2 =>
            rw [e2] at q
            intro F3 H3 r3 x3 t3
            have fD3 := x3.sub D fD
            have nD3 := ext_nr x3 nD (by rw [hD2]; simp)
            have hD3 : H3 D = some (.lst va) := x3.kp D _ hD2 nD
            have x03 := (x1.trans x2).trans x3
            have m03 := (m1.trans (x2.mv t1.inF)).trans (x3.mv t2.inF)
            have st03 := st2.ext x3 t2
            have w03 : Wat s sw Hj H3 := (w1.step st1 x2).step st2 x3
            have la3 := RepL.mv (x3.mv t2.inF) _ _ (RepL.mv (x2.mv t1.inF) _ _ la)
            cases b with
            | false => exact ⟨F3, r3, S2, acc, va, x03, m03, w03, t3, fD3, nD3, hD3, la3, Nat.le_succ_of_le hacc, st03, q⟩
            | true =>
              have q : Run k Wx s F H r (((noX (e sw1 S2)).bind fun y S => (compW g c e (wipeW sw vs) (ws.drop (i + 1)) S).bind fun ys S => .ok (y :: ys) S).bind fun (ys : List W) (S : Store) => Res.ok (O.lst (acc ++ ys)) S) (pF k H Q) := q
              refine ⟨F0, F3, r3, S2, sw1, t3, st3.ext x3 t2, ?_⟩
              cases e3 : e sw1 S2 with
              | bad =>
                rw [e3] at q
                exact q
              | exc c fs vs S' =>
                rw [e3] at q
                exact q.elim
              | ok yw S3 =>
                rw [e3] at q
                intro F4 H4 r4 x4 t4 v rv
                have fD4 := x4.sub D fD3
                have nD4 := ext_nr x4 nD3 (by rw [hD3]; simp)
                have hD4 : H4 D = some (.lst va) := x4.kp D _ hD3 nD3
                have la4 := RepL.mv (x4.mv t3.inF) _ _ la3
                refine ⟨va, hD4, by rw [← la.length]; omega, F4, r4, S3, acc ++ [yw], va ++ [v], (x03.trans x4).writeO hD0, (m03.trans (x4.mv t3.inF)).trans (Mv.writeO fD4), (w03.step st03 x4).put ne, t4.writeO fD4 nD4, fD4, nD4, upd_same,
                  RepL.mv (Mv.writeO fD4) _ _ (la4.app ⟨v, [], rfl, rv, rfl⟩), by rw [List.length_append, List.length_singleton]; omega, (st03.ext x4 t3).writeO fD4 ne, ?_⟩
                have q : Run k Wx s F H r (((compW g c e (wipeW sw vs) (ws.drop (i + 1)) S3).bind fun ys S => .ok (yw :: ys) S).bind fun (ys : List W) (S : Store) => Res.ok (O.lst (acc ++ ys)) S) (pF k H Q) := q
                rw [bind_assoc'] at q
                have ee : (fun (ys : List W) (S : Store) => ((Res.ok (yw :: ys) S : Res (List W)).bind fun ys S => Res.ok (O.lst (acc ++ ys)) S)) = fun ys S => Res.ok (O.lst (acc ++ [yw] ++ ys)) S := by
                  funext ys S
                  show Res.ok (O.lst (acc ++ (yw :: ys))) S = _
                  rw [List.append_assoc, List.singleton_append]
                rw [ee] at q
                exact q
      · have e : i = ws.length := by omega
        subst e
        rw [List.drop_length] at q
        refine .inl ⟨ok.stop F1 H1 r1 m1 w1 _ (Nat.le_refl _), ?_⟩
        have q : Run k Wx s F H r (.ok (.lst (acc ++ [])) S1) (pF k H Q) := q
        rw [List.append_nil] at q
        exact q F1 H1 r1 x1 t1 D hD0 fD nD ⟨va, hDv, la⟩
    · exact q.elim

section
variable {X : Cx} {Wx : WX} {elt tg iter : Expr} {ifs : List Expr} {scope : Scope} {pos : Pos} {it : IM} {g : GM} {ix : List Nat} {c : TM} {e : EM} {os : List Nat}
theorem if_cq (own : List (Str × Nat)) (ho : own.map (·.2) = os) (hc : X.calm = true) (hN : X.N.Nodup) (hi : IIB X Wx tg iter it) (ok : BlkOk X.N X.env.scope scope own)
    (hg : ∀ (s : Shared) (H : Hp) (C : Addr) (cl : List (Str × Addr)) (fp : List Addr), IG (X.blk s H scope (compEnvC scope cl C X.env) fp) tg ix g) (ht : ∀ (s : Shared) (H : Hp) (C : Addr) (cl : List (Str × Addr)) (fp : List Addr), PTs (X.blk s H scope (compEnvC scope cl C X.env) fp) ifs (tT (kw X) Wx0 c))
    (he : ∀ (s : Shared) (H : Hp) (C : Addr) (cl : List (Str × Addr)) (fp : List Addr), IE (X.blk s H scope (compEnvC scope cl C X.env) fp) Wx0 elt e) (hix : ∀ j ∈ ix, j ∈ os) (hs : ∀ x, foldedSetIterable iter X.env x = pure x := by intro _; rfl) :
    IF X Wx (.ListComp elt [⟨tg, iter, ifs, 0⟩] scope pos) (fComp it os g c e) := by
  subst ho
  exact pe_imp (pe_lc (g := tG (kw X) ix g) (te := tE (kw X) Wx0 e) hc hN hi ok hg ht he hs) (comp_impB hix)
theorem is_cq {i : Nat} {y : Str} {py spos : Pos} (own : List (Str × Nat)) (ho : own.map (·.2) = os) (hc : X.calm = true) (hN : X.N.Nodup) (hy : X.N[i]? = some y) (hyl : X.env.scope.names.lookup y = some .local)
    (hsw : swapsWith (.ListComp elt [⟨tg, iter, ifs, 0⟩] scope pos) (some (.Name y py)) spos.line X.env = pure true) (hi : IIB X Wx tg iter it) (ok : BlkOk X.N X.env.scope scope own)
    (hg : ∀ (s : Shared) (H : Hp) (C : Addr) (cl : List (Str × Addr)) (fp : List Addr), IG (X.blk s H scope (compEnvC scope cl C X.env) fp) tg ix g) (ht : ∀ (s : Shared) (H : Hp) (C : Addr) (cl : List (Str × Addr)) (fp : List Addr), PTs (X.blk s H scope (compEnvC scope cl C X.env) fp) ifs (tT (kw X) Wx0 c))
    (he : ∀ (s : Shared) (H : Hp) (C : Addr) (cl : List (Str × Addr)) (fp : List Addr), IE (X.blk s H scope (compEnvC scope cl C X.env) fp) Wx0 elt e) (hix : ∀ j ∈ ix, j ∈ os) (hs : ∀ x, foldedSetIterable iter X.env x = pure x := by intro _; rfl) :
    IS X Wx (.Assign [.Name y py] (.ListComp elt [⟨tg, iter, ifs, 0⟩] scope pos) spos) (sSetO i (fComp it os g c e)) := by
  subst ho
  refine ps_imp (ps_setLc (g := tG (kw X) ix g) (te := tE (kw X) Wx0 e) hc hN hy hyl hsw hi ok hg ht he hs) fun D s H h => ?_
  exact comp_impB hix s H _ (setO_imp D s H h)
theorem is_cqV {i : Nat} {y : Str} {py spos : Pos} (own : List (Str × Nat)) (ho : own.map (·.2) = os) (hc : X.calm = true) (hN : X.N.Nodup) (hy : X.N[i]? = some y) (hyl : X.env.scope.names.lookup y = some .local)
    (hsw : swapsWith (.ListComp elt [⟨tg, iter, ifs, 0⟩] scope pos) (some (.Name y py)) spos.line X.env = pure true) (hi : IIB X Wx tg iter it) (ok : BlkOk X.N X.env.scope scope own)
    (hg : ∀ (s : Shared) (H : Hp) (C : Addr) (cl : List (Str × Addr)) (fp : List Addr), IG (X.blk s H scope (compEnvC scope cl C X.env) fp) tg ix g) (ht : ∀ (s : Shared) (H : Hp) (C : Addr) (cl : List (Str × Addr)) (fp : List Addr), PTs (X.blk s H scope (compEnvC scope cl C X.env) fp) ifs (tT (kw X) Wx0 c))
    (he : ∀ (s : Shared) (H : Hp) (C : Addr) (cl : List (Str × Addr)) (fp : List Addr), IE (X.blk s H scope (compEnvC scope cl C X.env) fp) Wx0 elt e) (hix : ∀ j ∈ ix, j ∈ os) (hs : ∀ x, foldedSetIterable iter X.env x = pure x := by intro _; rfl) :
    IS X Wx (.Assign [.Name y py] (.ListComp elt [⟨tg, iter, ifs, 0⟩] scope pos) spos) (sSetC i (fComp it os g c e)) := by
  subst ho
  refine ps_imp (ps_setLc (g := tG (kw X) ix g) (te := tE (kw X) Wx0 e) hc hN hy hyl hsw hi ok hg ht he hs) fun D s H h => ?_
  exact comp_impB hix s H _ (setC_imp D s H h)
end

/-! ### an own object is never changed from here on -/
def sFrz (i : Nat) (m : SM) : SM := fun sw S => match sw[i]? with
  | some (some (.own o)) => if isIns o then .bad else m (sw.set i (some (.val (frz o)))) S
  | _ => m sw S
theorem frz_imp {k : Kw} {Wx : WX} {i : Nat} {m : SM} (D : Ends) (s : L2.St) (H : Hp) (h : tS k Wx (sFrz i m) D s H) : tS k Wx m D s H := by
  obtain ⟨F0, H0, r0, F, r, S, sw, x0, t, st, q⟩ := h
  unfold sFrz at q
  split at q
  · rename_i o e1
    obtain ⟨a, e2, fa, n0, na, ob⟩ := st.own i o e1
    have mv : Mv F H r (fun b => F b ∧ b ≠ a) H r := Mv.drop
    have fin : ∀ w, RepV k (fun b => F b ∧ b ≠ a) H r w (.ref a) → RunS k Wx F0 H0 r0 F H r (m (sw.set i (some (.val w))) S) D → tS k Wx m D s H := fun w rv q => by
      refine ⟨F0, H0, r0, fun b => F b ∧ b ≠ a, r, S, sw.set i (some (.val w)), ⟨fun b f => ⟨x0.sub b f, fun z => n0 (by rw [← z]; exact f)⟩, fun b f n => x0.new b f.1 n, x0.pre, x0.kp, x0.dom⟩, t.drop na, ?_, q.rebase mv⟩
      refine ⟨by simpa using st.len, fun j w' h => ?_, fun j o' h => ?_, fun j l o1 o2 a' h1 h2 h3 h4 => ?_⟩
      · rcases set_get h with ⟨rfl, e, hl⟩ | ⟨ne, h⟩
        · cases e
          exact ⟨_, e2, rv⟩
        · obtain ⟨v', e, q⟩ := st.val j w' h
          exact ⟨v', e, RepV.mv mv _ _ q⟩
      · rcases set_get h with ⟨rfl, e, hl⟩ | ⟨ne, h⟩
        · cases e
        · obtain ⟨b, e, f, g0, gr, ob'⟩ := st.own j o' h
          have nb : b ≠ a := fun z => ne (st.dis i j o o' a e1 h e2 (by rw [e, z]))
          exact ⟨b, e, ⟨f, nb⟩, g0, gr, ob'.mv mv fun _ h => h⟩
      · rcases set_get h1 with ⟨rfl, e, hl⟩ | ⟨ne, h1⟩
        · cases e
        · rcases set_get h2 with ⟨rfl, e, hl⟩ | ⟨ne', h2⟩
          · cases e
          · exact st.dis j l o1 o2 a' h1 h2 h3 h4
    cases o with
    | lst ws =>
      obtain ⟨vs, e3, l⟩ := ob
      exact fin (.lst ws) ⟨a, vs, rfl, ⟨e3, fun z => z.2 rfl⟩, RepL.mv mv _ _ l⟩ q
    | dct ks ws =>
      obtain ⟨es, e3, l1, l2, hh⟩ := ob
      exact fin (.dct ks ws) ⟨a, es, rfl, fun z => z.2 rfl, e3, RepL.mv mv _ _ l1, RepL.mv mv _ _ l2, hh⟩ q
    | ins c fs => exact q.elim
  · exact ⟨F0, H0, r0, F, r, S, sw, x0, t, st, q⟩
section
variable {X : Cx} {Wx : WX}
theorem is_frz {st : Stmt} {i : Nat} {m : SM} (h : IS X Wx st m) : IS X Wx st (sFrz i m) := ps_imp h frz_imp
/-! ### more walks -/
def iS (m : EM) : IM := fun sw S => (m sw S).bind fun w S => match w with
  | .str x => .ok (x.cps.toList.map fun c => W.str ⟨#[c]⟩) S
  | _ => .bad
theorem Its_ok {k : Kw} {F : FS} {H : Hp} {r : List Addr} {x : Str} : ItOk k (Its x) (x.cps.toList.map fun c => W.str ⟨#[c]⟩) F H r := by
  refine ⟨fun F1 H1 r1 m trk i w e => ?_, fun F1 H1 r1 m i hi => by simpa [Its] using hi⟩
  rw [List.getElem?_map] at e
  obtain ⟨c, e1, e2⟩ := map_some e
  have hi : i < x.cps.size := by
    have := (List.getElem?_eq_some_iff.mp e1).1
    simpa using this
  refine ⟨hi, fun v H2 y => ?_⟩
  obtain ⟨rfl, c', e3, rfl⟩ := y
  rw [Array.getElem?_toList] at e1
  rw [e1] at e3
  cases e3
  subst e2
  exact ⟨Ext.refl _ _ _, fun _ h => h, rfl⟩
theorem ii_s {tg e : Expr} {m : EM} (h : IE X Wx e m) : II X Wx tg e (iS m) := by
  refine pi_imp (pi_str h) fun s H R ⟨F0, F, r, S, sw, t, st, q⟩ => ?_
  refine tE_bind t st q fun w v Fa Ha ra Sa xa ta sa ba q => ?_
  cases w with
  | str x =>
    cases ba
    exact ⟨x, rfl, q.ok ta _ Its_ok⟩
  | _ => exact q.elim
def enumW (ws : List W) : List W := (List.range ws.length).zipWith (fun (i : Nat) w => W.tup [.int (i : Int), w]) ws
def iEn (m : EM) : IM := fun sw S => (m sw S).bind fun w S => match w with
  | .lst ws => .ok (enumW ws) S
  | _ => .bad
theorem enumW_get {ws : List W} {i : Nat} {w : W} (h : (enumW ws)[i]? = some w) : ∃ y, ws[i]? = some y ∧ w = .tup [.int (i : Int), y] := by
  unfold enumW at h
  rw [List.getElem?_zipWith] at h
  cases e : ws[i]? with
  | none =>
    rw [e] at h
    cases e2 : (List.range ws.length)[i]? <;> rw [e2] at h <;> cases h
  | some y =>
    have hi := (List.getElem?_eq_some_iff.mp e).1
    rw [e, List.getElem?_range hi] at h
    cases h
    exact ⟨y, rfl, rfl⟩
theorem Ite_ok {k : Kw} {F : FS} {H : Hp} {r : List Addr} {a : Addr} {ws : List W} {vs : List V} (h : LstAt F H a vs) (l : RepL k F H r ws vs) : ItOk k (Ite k.K a) (enumW ws) F H r := by
  have sq : ∀ F1 H1 r1, Mv F H r F1 H1 r1 → SqL k.K H1 a vs := fun F1 H1 r1 m => SqL.of (h.mv m).1
  refine ⟨fun F1 H1 r1 m trk i w e => ?_, fun F1 H1 r1 m i hi => ⟨vs, sq F1 H1 r1 m, ?_⟩⟩
  · obtain ⟨y, e0, rfl⟩ := enumW_get e
    obtain ⟨v, e2, rv⟩ := l.get e0
    refine ⟨⟨vs, v, sq F1 H1 r1 m, e2⟩, fun x H2 yl => ?_⟩
    obtain ⟨T, x', rfl, hT, rfl, yl⟩ := yl
    have e3 := yl vs (sq F1 H1 r1 m)
    rw [e2] at e3
    cases e3
    refine ⟨Ext.new1 hT, fun S t => t.new1 hT, ?_⟩
    refine ⟨T, _, rfl, .inl ⟨upd_same, fun f => trk T f hT⟩, _, _, rfl, rfl, _, _, rfl, RepV.mv (m.trans ⟨fun a o q _ => upd_kp hT a o q, fun a _ n => n, ⟨[], by simp⟩⟩) _ _ rv, rfl⟩
  · have : (enumW ws).length = ws.length := by simp [enumW]
    rw [this] at hi
    rw [← l.length]
    exact hi
theorem ii_en {e : Expr} {elts : List Expr} {kk : Nat} {m : EM} {p pos tpos : Pos} (hg : Gl X "enumerate") (hm : X.mg "enumerate" = none) (h : IE X Wx e m) (hs : starEach [e] X.env = [(false, eval e X.env)] := by rfl) (hs2 : starEach [e] X.env = (false, eval e X.env) :: starEach [] X.env := by rfl) :
    II X Wx (.Tuple elts kk tpos) (.Call (.Name "enumerate" p) [e] [] pos) (iEn m) := by
  refine pi_imp (pi_enum hg hm (pa_cons h pa_nil hs2) hs) fun s H R ⟨F0, F, r, S, sw, t, st, q⟩ => ?_
  refine tE_bind t st q fun w v Fa Ha ra Sa xa ta sa ba q => ?_
  cases w with
  | lst ws =>
    obtain ⟨a, vs, rfl, hq, l⟩ := ba
    exact ⟨a, vs, rfl, SqL.of hq.1, q.ok ta _ (Ite_ok hq l)⟩
  | _ => exact q.elim
end
end ML
set_option Elab.async false
set_option linter.all false
set_option maxRecDepth 100000
set_option maxHeartbeats 4000000
namespace ML
open PySem PySem.Spec PyProof.Rows L2
/-! ### texts in order -/
def leS (a b : Str) : Bool := !ltCps b.cps.toList a.cps.toList
def insS (x : Str) : List Str → List Str
  | [] => [x]
  | y :: r => if leS x y then x :: y :: r else y :: insS x r
def sortS : List Str → List Str
  | [] => []
  | x :: r => insS x (sortS r)
theorem leS_iff {a b : Str} : leS a b = true ↔ a.cps.toList ≤ b.cps.toList := by
  unfold leS
  rw [ltCps_eq]
  simp [List.not_lt]
theorem leS_total {a b : Str} (h : leS a b = false) : leS b a = true := by
  rw [leS_iff]
  have h' : ¬ a.cps.toList ≤ b.cps.toList := fun z => by
    rw [leS_iff.mpr z] at h
    cases h
  rcases List.le_total a.cps.toList b.cps.toList with z | z
  · exact absurd z h'
  · exact z
theorem leS_trans {a b c : Str} (h1 : leS a b = true) (h2 : leS b c = true) : leS a c = true := leS_iff.mpr (List.le_trans (leS_iff.mp h1) (leS_iff.mp h2))
theorem leS_anti {a b : Str} (h1 : leS a b = true) (h2 : leS b a = true) : a = b := by
  have e := List.le_antisymm (leS_iff.mp h1) (leS_iff.mp h2)
  cases a
  cases b
  simp only at e
  rw [Array.ext' e]
theorem insS_perm (x : Str) : ∀ l : List Str, (insS x l).Perm (x :: l)
  | [] => List.Perm.refl _
  | y :: r => by
    unfold insS
    split
    · exact List.Perm.refl _
    · exact ((insS_perm x r).cons y).trans (List.Perm.swap x y r)
theorem sortS_perm : ∀ l : List Str, (sortS l).Perm l
  | [] => List.Perm.refl _
  | x :: r => (insS_perm x (sortS r)).trans ((sortS_perm r).cons x)
theorem insS_sorted (x : Str) : ∀ {l : List Str}, l.Pairwise (fun a b => leS a b = true) → (insS x l).Pairwise (fun a b => leS a b = true)
  | [], _ => by simp [insS]
  | y :: r, h => by
    obtain ⟨h1, h2⟩ := List.pairwise_cons.mp h
    unfold insS
    split
    · rename_i q
      refine List.pairwise_cons.mpr ⟨fun z hz => ?_, h⟩
      rcases List.mem_cons.mp hz with e | hz
      · rw [e]; exact q
      · exact leS_trans q (h1 z hz)
    · rename_i q
      refine List.pairwise_cons.mpr ⟨fun z hz => ?_, insS_sorted x h2⟩
      rcases List.mem_cons.mp ((insS_perm x r).mem_iff.mp hz) with e | hz
      · rw [e]; exact leS_total (by simpa using q)
      · exact h1 z hz
theorem sortS_sorted : ∀ l : List Str, (sortS l).Pairwise (fun a b => leS a b = true)
  | [] => .nil
  | x :: r => insS_sorted x (sortS_sorted r)
theorem risingS_pw : ∀ (l : List Str) (p : Str), risingS p l = true → (p :: l).Pairwise (fun a b => leS a b = true)
  | [], p, _ => by simp
  | x :: r, p, h => by
    unfold risingS at h
    simp only [Bool.and_eq_true] at h
    have hp : leS p x = true := h.1
    have ih := risingS_pw r x h.2
    refine List.pairwise_cons.mpr ⟨fun z hz => ?_, ih⟩
    rcases List.mem_cons.mp hz with e | hz
    · rw [e]; exact hp
    · exact leS_trans hp ((List.pairwise_cons.mp ih).1 z hz)
theorem sortedS_pw {l : List Str} (h : sortedS l = true) : l.Pairwise (fun a b => leS a b = true) := by
  cases l with
  | nil => exact .nil
  | cons x r => exact risingS_pw r x h
theorem sortS_unique {ys xs : List Str} (hp : ys.Perm xs) (hs : ys.Pairwise (fun a b => leS a b = true)) : ys = sortS xs :=
  List.Perm.eq_of_pairwise (fun _ _ _ _ a b => leS_anti a b) hs (sortS_sorted xs) (hp.trans (sortS_perm xs).symm)
section
variable {X : Cx} {Wx : WX} {a b c : Expr} {pos p : Pos}
def opSortS : SW → W → Store → Res O := fun sw x S => match cont sw S x with
  | some ws => match strL ws with
    | some xs => if xs.length < 64 then .ok (.lst ((sortS xs).map .str)) S else .bad
    | none => .bad
  | none => .bad
theorem repL_strs {k : Kw} {F : FS} {H : Hp} {r : List Addr} : ∀ xs : List Str, RepL k F H r (xs.map W.str) (xs.map V.str)
  | [] => rfl
  | x :: xs => ⟨_, _, rfl, rfl, repL_strs xs⟩
theorem if_sortS {m : EM} (hg : Gl X "sorted") (hm : X.mg "sorted" = none) (ha : IB X Wx a m) (he : starEach [a] X.env = (false, eval a X.env) :: starEach [] X.env := by rfl) : IF X Wx (.Call (.Name "sorted" p) [a] [] pos) (fOp1 opSortS m) := by
  refine pe_imp (pe_callB cr_sortedS hg hm (by decide +kernel) (pa_cons ha pa_nil he) (by decide) (by decide) he) fun s H Q ⟨F0, F, r, S, sw, t, st, q⟩ => ?_
  refine tB_bind t st q fun w v F1 H1 r1 S1 x1 t1 st1 b q => ?_
  unfold opSortS at q
  split at q
  · rename_i ws h
    split at q
    · rename_i xs h2
      split at q
      · rename_i h64
        obtain ⟨y, vs, rfl, hy, l⟩ := cont_rep t1 st1 b h
        have e := strs_rep l h2
        subst e
        refine ⟨y, xs, rfl, SqL.of hy, h64, fun ys p hp hs hn => ?_⟩
        have e := sortS_unique hp (sortedS_pw hs)
        subst e
        exact q (addF F1 p) _ r1 (Ext.newF hn) (t1.newF hn) p (dom_back x1 hn) (.inr rfl) (t1.mem_r hn) ⟨_, upd_same, repL_strs _⟩
      · exact q.elim
    · exact q.elim
  · exact q.elim
/-! ### min of three -/
def min3 (i j k : Int) : Int := if k < (if j < i then j else i) then k else if j < i then j else i
def eMin3 (m n o : EM) : EM := fun sw S => (m sw S).bind fun x S => (n sw S).bind fun y S => (o sw S).bind fun z S => match x, y, z with
  | .int i, .int j, .int k => .ok (.int (min3 i j k)) S
  | _, _, _ => .bad
theorem ie_min3 {m n o : EM} (hc : X.calm = true) (hg : Gl X "min") (hm : X.mg "min" = none) (ha : IE X Wx a m) (hb : IE X Wx b n) (hcc : IE X Wx c o)
    (he : starEach [a, b, c] X.env = (false, eval a X.env) :: starEach [b, c] X.env := by rfl) (he2 : starEach [b, c] X.env = (false, eval b X.env) :: starEach [c] X.env := by rfl) (he3 : starEach [c] X.env = (false, eval c X.env) :: starEach [] X.env := by rfl)
    (hpl : (backTo pos (starEach [b, c] X.env)).any (·.1) = false := by rfl) : IE X Wx (.Call (.Name "min" p) [a, b, c] [] pos) (eMin3 m n o) := by
  refine pe_imp (pe_callB (call_min3Nu hc) hg hm (by decide +kernel) (pa_cons ha (pa_cons hb (pa_cons hcc pa_nil he3) he2) he) (by decide) (by decide) he hpl) fun s H Q ⟨F0, F, r, S, sw, t, st, q⟩ => ?_
  refine tE_bind t st q fun x v F1 H1 r1 S1 x1 t1 s1 b1 q => ?_
  refine tE_bind t1 s1 q fun y u F2 H2 r2 S2 x2 t2 s2 b2 q => ?_
  refine tE_bind t2 s2 q fun z w F3 H3 r3 S3 x3 t3 s3 b3 q => ?_
  have fin : ∀ i j k, x = .int i → y = .int j → z = .int k → rNuC3 nuMin3 [v, u, w] H3 Q := by
    intro i j k e1 e2 e3
    subst e1
    subst e2
    subst e3
    cases b1
    cases b2
    cases b3
    refine ⟨_, _, _, .int (min3 i j k), rfl, ?_, q.ok t3 _ rfl⟩
    have e1 : nuMin2 (.int i) (.int j) = some (.int (if j < i then j else i)) := by
      show some (if decide (j < i) = true then V.int j else V.int i) = _
      by_cases h : j < i <;> simp [h]
    unfold nuMin3
    rw [e1]
    show some (if decide (k < (if j < i then j else i)) = true then V.int k else V.int (if j < i then j else i)) = _
    unfold min3
    by_cases h : k < (if j < i then j else i) <;> simp [h]
  cases x with
  | int i =>
    cases y with
    | int j =>
      cases z with
      | int k => exact fin i j k rfl rfl rfl
      | _ => exact q.elim
    | _ => exact q.elim
  | _ => exact q.elim
/-! ### (x, *y) -/
def aStar (m : EM) (n : AM) : AM := fun sw S => (m sw S).bind fun w S => match w with
  | .tup us => (n sw S).bind fun ws S => .ok (us ++ ws) S
  | .lst us => (n sw S).bind fun ws S => .ok (us ++ ws) S
  | _ => .bad
theorem ia_star {es : List Expr} {m : EM} {n : AM} (ha : IE X Wx a m) (hb : IA X Wx es n) (hs : starEach (.Starred a p :: es) X.env = (true, eval a X.env) :: starEach es X.env := by rfl) : IA X Wx (.Starred a p :: es) (aStar m n) := by
  refine pa_imp (StX.pa_star ha hb hs) fun s H Q ⟨F0, F, r, S, sw, t, st, q⟩ => ?_
  refine tE_bind t st q fun w v Fa Ha ra Sa xa ta sa ba q => ?_
  cases w with
  | tup us =>
    obtain ⟨x, vs, rfl, hx, l⟩ := ba
    refine ⟨x, vs, rfl, .inl (by rcases hx with ⟨z, _⟩ | z; exact .inl (.inl z); exact .inr z), ?_⟩
    refine tA_bind ta sa q fun ws vs' Fb Hb rb Sb xb tb sb bb q => ?_
    exact q.ok tb _ ((RepL.mv (xb.mv ta.inF) _ _ l).app bb)
  | lst us =>
    obtain ⟨x, vs, rfl, hx, l⟩ := ba
    refine ⟨x, vs, rfl, .inr (SqL.of hx.1), ?_⟩
    refine tA_bind ta sa q fun ws vs' Fb Hb rb Sb xb tb sb bb q => ?_
    exact q.ok tb _ ((RepL.mv (xb.mv ta.inF) _ _ l).app bb)
  | _ => exact q.elim
/-! ### t * n -/
def opRepT : F2 := fun sw x y S => match x, y with
  | .tup ws, .int k => if decide (ws ≠ []) && decide (2 ≤ k) && decide (k ≤ 1000) && decide (ws.length ≤ 1000) then .ok (.tup (List.replicate k.toNat ws).flatten) S else .bad
  | _, _ => .bad
theorem repL_rep {k : Kw} {F : FS} {H : Hp} {r : List Addr} {ws : List W} {vs : List V} (l : RepL k F H r ws vs) : ∀ n : Nat, RepL k F H r (List.replicate n ws).flatten (List.replicate n vs).flatten
  | 0 => rfl
  | n + 1 => by
    rw [List.replicate_succ, List.replicate_succ, List.flatten_cons, List.flatten_cons]
    exact l.app (repL_rep l n)
theorem sp_repT {k : Kw} : Sp2 k (rRepT k.K) opRepT := by
  intro F0 F H rho S s sw x y v u Wx Q t st b1 b2 q
  unfold opRepT at q
  split at q
  · rename_i ws i
    split at q
    · rename_i h
      simp only [Bool.and_eq_true, decide_eq_true_eq] at h
      obtain ⟨⟨⟨h1, h2⟩, h3⟩, h4⟩ := h
      obtain ⟨a, vs, rfl, ha, l⟩ := tup_rep b1
      cases b2
      refine ⟨a, i, vs, rfl, rfl, ha, fun z => h1 ?_, h2, h3, by rw [← l.length]; exact h4, fun p hp => ?_⟩
      · have := l.length
        rw [z] at this
        exact List.eq_nil_of_length_eq_zero this
      · exact q F _ rho (Ext.new1 hp) (t.new1 hp) (.ref p) ⟨p, _, rfl, .inl ⟨upd_same, t.free hp⟩, RepL.mv ((Ext.new1 hp).mv t.inF) _ _ (repL_rep l _)⟩
    · exact q.elim
  · exact q.elim
/-! ### a < b < c -/
def eChain (f g : F2) (ma mb mc : EM) : EM := fun sw S => (ma sw S).bind fun x S => (mb sw S).bind fun y S => (f sw x y S).bind fun z S => match z with
  | .bl true => (mc sw S).bind fun w S => g sw y w S
  | .bl false => .ok (.bl false) S
  | _ => .bad
end
/-! ### f() -/
section
variable {X : Cx} {Wx : WX} {x : Str} {p pos : Pos} {k : Nat} {f : Addr} {fd : FuncData} {fm : List W → Store → Res RV}
def eCall0 (f : List W → Store → Res RV) : EM := fun _ S => noX ((f [] S).bind rvW)
def fCall0 (f : List W → Store → Res RV) : FM := fun _ S => noX ((f [] S).bind rvO)
theorem passes0 : Passes (L2.CX X.prog X.w) X (fun _ _ _ => False) := fun pins σ H s e s' I c => by
  obtain ⟨_, _, _, _, _, _, _, _, _, _, _, _, z⟩ := c
  exact z.elim
theorem ie_call0 (G : FnOk X.prog X.w X.K X.mg X.base (L2.CX X.prog X.w) k f fd [] (spOf (kw X) 0 fm)) (hr : Room k X.A) (hg : Gl X x) (hm : X.mg x = some (.ref f)) (hk : PySem.W.keepIn X.K (.ref f) = true) (hb : Binds X.K fd [] [])
    (hdb : (x == ("__debug__" : Str)) = false := by decide) : IE X Wx (.Call (.Name x p) [] [] pos) (eCall0 fm) := by
  refine pe_imp (pe_call0 (dvs := []) (E := fun _ _ _ => False) G hr hg hm hk hb .nil passes0 hdb) fun s H Q ⟨F0, F, r, S, sw, t, st, q⟩ => ?_
  have q2 : Run (kw X) Wx0 s F H r ((fm [] S).bind rvW) (pV (kw X) Q) := by
    unfold eCall0 at q
    cases e : (fm [] S).bind rvW with
    | ok w S' => rw [e] at q; exact q
    | exc c fs ws S' => rw [e] at q; exact q.elim
    | bad => rw [e] at q; exact q
  exact call_run (Wx := Wx0) (F0 := F0) (sw := sw) (ws := []) (vs := []) t rfl rfl q2
theorem if_call0 (G : FnOk X.prog X.w X.K X.mg X.base (L2.CX X.prog X.w) k f fd [] (spOf (kw X) 0 fm)) (hr : Room k X.A) (hg : Gl X x) (hm : X.mg x = some (.ref f)) (hk : PySem.W.keepIn X.K (.ref f) = true) (hb : Binds X.K fd [] [])
    (hdb : (x == ("__debug__" : Str)) = false := by decide) : IF X Wx (.Call (.Name x p) [] [] pos) (fCall0 fm) := by
  refine pe_imp (pe_call0 (dvs := []) (E := fun _ _ _ => False) G hr hg hm hk hb .nil passes0 hdb) fun s H Q ⟨F0, F, r, S, sw, t, st, q⟩ => ?_
  have q2 : Run (kw X) Wx0 s F H r ((fm [] S).bind rvO) (pF (kw X) H Q) := by
    unfold fCall0 at q
    cases e : (fm [] S).bind rvO with
    | ok w S' => rw [e] at q; exact q
    | exc c fs ws S' => rw [e] at q; exact q.elim
    | bad => rw [e] at q; exact q
  exact callF_run (Wx := Wx0) (ws := []) (vs := []) t rfl rfl (fun _ h => h) q2
end
end ML
set_option Elab.async false
set_option linter.all false
set_option maxRecDepth 100000
set_option maxHeartbeats 4000000
namespace ML
open PySem PySem.Spec PyProof.Rows L2
/-! ### sets of texts -/
def keyT (e : Int × Value) : Str := match e.2 with | .str k _ => k | _ => ⟨#[]⟩
def GoodT (w : World) (e : Int × Value) : Prop := ∃ (k : Str) (tk : Tok), e.2 = Value.str k tk ∧ e.1 = hashStr w k
def SetTx (w : World) (h : Heap) (a : Addr) (S : Str → Bool) (n : Nat) : Prop :=
  ∃ o es ep t, h.get? a = some o ∧ o.ExactSet ∧ o.data = .set es ep t ∧ (∀ e ∈ es.toList, GoodT w e) ∧ (es.toList.map keyT).Nodup ∧ (∀ k, S k = true ↔ k ∈ es.toList.map keyT) ∧
    es.size < scanBound ∧ t.fits es.size = true ∧ es.size = n ∧ Ris t.place.toList ∧ (w.params.followText "set-order" = true ∨ t.led = true)

section
variable {P : Program} {w : World} {h h' : Heap} {a : Addr} {S : Str → Bool} {n : Nat}

theorem SetTx.at (R : SetTx w h a S n) (k : ∀ o, h.get? a = some o → h'.get? a = some o) : SetTx w h' a S n := by
  obtain ⟨o, es, ep, t, ho, r⟩ := R
  exact ⟨o, es, ep, t, k o ho, r⟩
theorem SetTx.lt (R : SetTx w h a S n) : a < h.objs.size := by
  obtain ⟨o, es, ep, t, ho, r⟩ := R
  exact Heap.lt_size ho
theorem SetTx.congr {S' : Str → Bool} (R : SetTx w h a S n) (e : ∀ k, S' k = S k) : SetTx w h a S' n := by
  have q : S' = S := funext e
  rw [q]; exact R
theorem goodT_elems {l : List (Int × Value)} (g : ∀ e ∈ l, GoodT w e) : ElemsOf (strKind P w) l := fun e he => by
  obtain ⟨k, tk, h1, h2⟩ := g e he
  exact ⟨⟨k, by rw [h1]; exact strKind_is P w k tk, h2⟩, by rw [h1] <;> rfl⟩
theorem goodT_is {e : Int × Value} (g : GoodT w e) (k : Str) : (strKind P w).is k e.2 = true ↔ keyT e = k := by
  obtain ⟨k0, tk0, h1, _⟩ := g
  unfold keyT
  rw [h1]
  show (Value.isStrOf k (.str k0 tk0) = true) ↔ k0 = k
  simp only [Value.isStrOf, beq_iff_eq]
theorem goodT_mem {l : List (Int × Value)} (g : ∀ e ∈ l, GoodT w e) (k : Str) : k ∈ l.map keyT ↔ ∃ e ∈ l, (strKind P w).is k e.2 = true := by
  rw [List.mem_map]
  constructor
  · rintro ⟨e, he, q⟩
    exact ⟨e, he, (goodT_is (g e he) k).2 q⟩
  · rintro ⟨e, he, q⟩
    exact ⟨e, he, (goodT_is (g e he) k).1 q⟩
theorem SetTx.setOf (R : SetTx w h a S n) : h.SetOf (strKind P w) a S n := by
  obtain ⟨o, es, ep, t, ho, hx, hd, g, nd, hm, hb, hf, hn, _⟩ := R
  exact ⟨o, es, ep, t, ho, hx, hd, goodT_elems g, fun k => (hm k).trans (goodT_mem g k), hb, hf, hn⟩
end

section
variable {P : Program} {w : World} {A : Around} {E : Value → Shared → Prop} {s : Shared} {a : Addr} {S : Str → Bool} {n : Nat}

theorem setT_add_tail {g : Bool → Sem Unit} (hg : ∀ (b : Bool) (s₁ : Shared) (Q' : Unit → Shared → Prop), Q' () s₁ → wpAny (model P w) A (g b) Q' E s₁)
    {o : Obj} {es : Array (Int × Value)} {ep : Nat} {t : SetTable} (ho : s.heap.get? a = some o) (hex : o.ExactSet) (hd : o.data = .set es ep t)
    {es1 : Array (Int × Value)} {t2 : SetTable} {S' : Str → Bool} (g1 : ∀ e ∈ es1.toList, GoodT w e) (nd1 : (es1.toList.map keyT).Nodup) (m1 : ∀ k, S' k = true ↔ k ∈ es1.toList.map keyT)
    (hb1 : es1.size < scanBound) (hf2 : t2.fits es1.size = true) (hr : Ris t2.place.toList) (hl : w.params.followText "set-order" = true ∨ t2.led = true) {wasDummy : Bool} {R : Option Bool → Shared → Prop}
    (hR : ∀ h', Heap.SameBut a s.heap h' → SetTx w h' a S' es1.size → R (some true) { s with heap := h' }) :
    wpAny (model P w) A (do
        storeSet a es1 t2
        if (!wasDummy && t2.tooFull) = true then do
            g (relayAll t2 es1 (SetTable.grown es1.size)).2.2
            storeSet a (relayAll t2 es1 (SetTable.grown es1.size)).1 (relayAll t2 es1 (SetTable.grown es1.size)).2.1
            pure (some true)
          else pure (some true)) R E s := by
  refine wpAny_bind (wpAny_storeSet_of ho hd ?_ (fits_of_scanBound hb1))
  have ho1 := PpSet.storeB_at (es' := es1) (t' := t2) ho hd
  have sb1 := Heap.SameBut.update s.heap a (Obj.putSet es1 t2)
  split
  · have pm := relayAll_perm t2 es1 (SetTable.grown es1.size)
    have hf3 := relayAll_fits t2 es1 (SetTable.grown es1.size)
    have hr3 := relayAll_ris t2 es1 (SetTable.grown es1.size)
    have hl3 := relayAll_led t2 es1 (SetTable.grown es1.size)
    generalize relayAll t2 es1 (SetTable.grown es1.size) = Z at pm hf3 hr3 hl3 ⊢
    obtain ⟨es2, t3, gave⟩ := Z
    dsimp only at pm hf3 hr3 hl3 ⊢
    have hsz : es2.size = es1.size := by rw [← Array.length_toList, pm.length_eq, Array.length_toList]
    have hb2 : es2.size < scanBound := by rw [hsz]; exact hb1
    refine wpAny_bind (hg _ _ _ ?_)
    refine wpAny_bind (wpAny_storeSet_of ho1 rfl ?_ (fits_of_scanBound hb2))
    have ho2 := PpSet.storeB_at (es' := es2) (t' := t3) ho1 rfl
    refine wpAny_pure (hR _ (sb1.trans (Heap.SameBut.update _ a _)) ?_)
    exact ⟨_, es2, _, t3, ho2, hex, rfl, fun e he => g1 e (pm.mem_iff.mp he), (pm.map keyT).nodup_iff.mpr nd1, fun k => (m1 k).trans (pm.map keyT).mem_iff.symm, hb2, hf3, hsz, hr3,
      hl.imp id fun z => by rw [hl3]; exact z⟩
  · exact wpAny_pure (hR _ sb1 ⟨_, es1, _, t2, ho1, hex, rfl, g1, nd1, m1, hb1, hf2, rfl, hr, hl⟩)

theorem setT_add_hashed {k : Str} {tk : Tok} {Q : Bool → Shared → Prop} (R : SetTx w s.heap a S n) (room : n + 1 < scanBound)
    (hQ : ∀ h', Heap.SameBut a s.heap h' → SetTx w h' a (fun j => S j || decide (j = k)) (if S k = true then n else n + 1) → Q (!S k) { s with heap := h' }) :
    wpAny (model P w) A (setAddHashed a (.str k tk) ((strKind P w).hash k)) Q E s := by
  obtain ⟨o, es, ep, t, ho, hex, hd, g, nd, hm, hb, hf, hn, hr, hl⟩ := R
  have hkey : (strKind P w).is k (.str k tk) = true := strKind_is P w k tk
  have hsc : (Value.str k tk).scannable = true := rfl
  have hel : ElemsOf (strKind P w) es.toList := goodT_elems g
  unfold setAddHashed setAddHashedIn
  refine wpAny_holding (wpAny_bind (wpAny_setState_of ho hd hf ?_))
  dsimp only
  rw [byScan_of hsc hb hel]
  simp only [↓reduceIte]
  unfold setAddByScan
  refine wpAny_bind ?_
  refine wpAny_bind (wpAny_rule ?_)
  refine wpAny_bind (wpAny_setScan_of hkey ho hd hf hel ?_)
  cases hfi : List.findIdx? (fun e => (strKind P w).is k e.2) es.toList with
  | some j =>
    dsimp only
    obtain ⟨hj, pj, _⟩ := List.findIdx?_eq_some_iff_getElem.mp hfi
    have hSk : S k = true := (hm k).2 ((goodT_mem (P := P) (w := w) g k).2 ⟨es.toList[j], List.getElem_mem hj, pj⟩)
    refine wpAny_pure (wpAny_pure ?_)
    have q := hQ s.heap (Heap.SameBut.refl a s.heap) ⟨o, es, ep, t, ho, hex, hd, g, nd, fun i => by
      rw [Bool.or_eq_true, decide_eq_true_eq, ← hm i]
      exact ⟨fun z => z.elim id (fun e => e ▸ hSk), .inl⟩, hb, hf, by rw [if_pos hSk]; exact hn, hr, hl⟩
    rw [hSk] at q
    exact q
  | none =>
    dsimp only
    have hnk : k ∉ es.toList.map keyT := fun z => by
      obtain ⟨e, he, q⟩ := (goodT_mem (P := P) (w := w) g k).1 z
      have c := List.findIdx?_eq_none_iff.mp hfi e he
      rw [q] at c
      cases c
    have hSk : S k = false := by
      cases q : S k with
      | false => rfl
      | true => exact absurd ((hm k).1 q) hnk
    have hgw : ∀ (b : Bool) {s₁ : Shared} {Q' : Unit → Shared → Prop}, Q' () s₁ → wpAny (model P w) A (match b with | true => rule "set.scan.the-table-gave-way" | false => pure ()) Q' E s₁ :=
      fun b s₁ Q' q => by cases b <;> first | exact wpAny_pure q | exact wpAny_rule q
    have pm := layNew_perm t es ((strKind P w).hash k) (.str k tk)
    have hf1 := layNew_fits t es ((strKind P w).hash k) (.str k tk)
    have hr1 := layNew_ris t es ((strKind P w).hash k) (.str k tk) hr
    have hl1 := layNew_led t es ((strKind P w).hash k) (.str k tk)
    generalize layNew t es ((strKind P w).hash k) (.str k tk) = Z at pm hf1 hr1 hl1 ⊢
    obtain ⟨es1, t1, wasDummy, gave⟩ := Z
    dsimp only at pm hf1 hr1 hl1 ⊢
    rw [Array.toList_push] at pm
    have pc : es1.toList.Perm (((strKind P w).hash k, Value.str k tk) :: es.toList) := pm.trans (List.perm_append_singleton _ _)
    have pk : (es1.toList.map keyT).Perm (k :: es.toList.map keyT) := pc.map keyT
    have g1 : ∀ e ∈ es1.toList, GoodT w e := fun e he => by
      rcases List.mem_cons.mp (pc.mem_iff.mp he) with z | z
      · rw [z]; exact ⟨k, tk, rfl, rfl⟩
      · exact g e z
    have nd1 : (es1.toList.map keyT).Nodup := pk.nodup_iff.mpr (List.nodup_cons.mpr ⟨hnk, nd⟩)
    have m1 : ∀ i, (S i || decide (i = k)) = true ↔ i ∈ es1.toList.map keyT := fun i => by
      rw [Bool.or_eq_true, decide_eq_true_eq, hm i, pk.mem_iff, List.mem_cons]
      exact Or.comm
    have hsz : es1.size = n + 1 := by rw [← Array.length_toList, pc.length_eq, List.length_cons, Array.length_toList, hn]
    have hb1 : es1.size < scanBound := by rw [hsz]; exact room
    have hled : w.params.followText "set-order" = true ∨ t1.led = true := hl.imp id fun z => by rw [hl1]; exact z
    have fin : ∀ h', Heap.SameBut a s.heap h' → SetTx w h' a (fun j => S j || decide (j = k)) es1.size → Q true { s with heap := h' } := fun h' sb r => by
      have q := hQ h' sb
      rw [hSk] at q
      rw [hsz] at r
      exact q r
    refine wpAny_bind (hgw _ ?_)
    split
    · refine wpAny_bind ?_
      rw [hashByValue_scannable 8 hsc]
      refine wpAny_pure ?_
      refine setT_add_tail ?_ ho hex hd g1 nd1 m1 hb1 ?_ ?_ ?_ ?_
      · intro b s₁ Q' q; cases b <;> first | exact wpAny_pure q | exact wpAny_rule q
      · first | (split <;> first | exact hf1 | exact SetTable.fits_plain_off hf1) | exact hf1
      · first | (split <;> exact hr1) | exact hr1
      · first | (split <;> exact hled) | exact hled
      · intro h' sb r; dsimp only; exact wpAny_pure (fin h' sb r)
    · refine wpAny_bind (wpAny_pure ?_)
      simp only [↓reduceIte]
      refine setT_add_tail ?_ ho hex hd g1 nd1 m1 hb1 hf1 hr1 hled ?_
      · intro b s₁ Q' q; cases b <;> first | exact wpAny_pure q | exact wpAny_rule q
      · intro h' sb r; dsimp only; exact wpAny_pure (fin h' sb r)

theorem setT_add {k : Str} {tk : Tok} {Q : Value → Shared → Prop} (R : SetTx w s.heap a S n) (room : n + 1 < scanBound)
    (hQ : ∀ h', Heap.SameBut a s.heap h' → SetTx w h' a (fun j => S j || decide (j = k)) (if S k = true then n else n + 1) → Q .none { s with heap := h', toks := s.toks + 1 }) :
    wpAny (model P w) A (call (.builtin "set.add") [.ref a, .str k tk]) Q E s := by
  have hS : s.heap.SetOf (strKind P w) a S n := R.setOf
  refine wpAny_call_entry F.slot_set_add hS.typeIs F.entry_set_add ?_ (F.args_set_add_2 _ _)
  unfold Builtin.«set.add» Builtin.Frozenset.oneOther
  simp only [List.isEmpty_nil, bind_assoc]
  unfold Builtin.Frozenset.addrOf setAdd
  refine wpAny_bind (wpAny_pure ?_)
  try dsimp only
  refine wpAny_bind (wpAny_pure ?_)
  try dsimp only
  refine wpAny_bind ?_
  refine wpAny_holding ?_
  refine wpAny_bind ((strKind P w).pyHash (strKind_is P w k tk) ?_)
  refine setT_add_hashed (s := { s with toks := s.toks + 1 }) R room fun h' sb r => ?_
  show wpAny _ _ (ret Value.none) _ _ _
  exact wpAny_pure ⟨_, rfl, hQ h' sb r⟩

end
section
variable {P : Program} {w : World} {A : Around} {E : Value → Shared → Prop} {s : Shared}
section
variable {P : Program} {w : World} {A : Around} {E : Value → Shared → Prop} {s : Shared}
theorem setT_fresh {h : Heap} (w : World) : SetTx w (h.push { cls := .type "set", dict := none, data := .set #[] 0 (.fresh 0 0 (!w.params.followText "set-order")) }) h.objs.size (fun _ => false) 0 :=
  ⟨_, #[], 0, _, Heap.get?_push_size _ rfl, ⟨rfl, rfl, rfl⟩, rfl, (fun e he => by simp at he), (by simp), (fun k => by simp), (by decide), (by rfl), rfl, List.Pairwise.nil, by
    show _ ∨ (!w.params.followText "set-order") = true
    cases w.params.followText "set-order"
    · exact .inr rfl
    · exact .inl rfl⟩
end
def SetTxO (w : World) (a : Addr) (S : Str → Bool) (n : Nat) : HO := .ext fun h => SetTx w h a S n
theorem setTxO_new {w : World} {P : Program} {H : Hp} {h : Heap} {a : Addr} {S : Str → Bool} {n : Nat} (R : SetTx w h a S n) : ObjOk P w H h a (SetTxO w a S n) := by
  have ⟨o, _, _, _, ho, _⟩ := R
  exact ⟨R, ⟨o, ho⟩, fun h1 h2 p k => SetTx.at p k⟩
section
variable {X : Cx}
theorem setTxO_get {pins : List (Addr × Obj)} {σ : L2.St} {H : Hp} {s : Shared} {a : Addr} {S : Str → Bool} {n : Nat} (I : Inv X pins σ H s) (ha : H a = some (SetTxO X.w a S n)) : SetTx X.w s.heap a S n := (I.hok a _ ha).1
theorem addT_ok {pins : List (Addr × Obj)} {σ : L2.St} {H : Hp} {s : Shared} {E : Value → Shared → Prop} {D : Addr} {S : Str → Bool} {n : Nat} {y : Str} {ty : Tok} {Q : Value → Shared → Prop} (I : Inv X pins σ H s) (hD : H D = some (SetTxO X.w D S n)) (room : n + 1 < scanBound)
    (h : ∀ s', Inv X pins σ (upd H D (SetTxO X.w D (fun j => S j || decide (j = y)) (if S y = true then n else n + 1))) s' → Q .none s') : wpAny (model X.prog X.w) X.A (call (.builtin "set.add") [.ref D, .str y ty]) Q E s := by
  have R := setTxO_get I hD
  refine setT_add R room fun h' sb new => ?_
  have he : ∃ u, h'.get? D = some u := by
    have ⟨o, _, _, _, ho, _⟩ := new
    exact ⟨o, ho⟩
  exact h _ (I.write (e := D) (t' := s.toks + 1) (by rw [hD]; trivial) (.inl rfl) (fun b u hb hu => (sb.2 b hb).trans hu) he (setTxO_new new))
end
section
variable {X : Cx}
def tScT (w : World) (wi : TI) (g : TG) (tt : TT) (te : TE) (vs : List Nat) : TE := fun σ H Q => wi σ H fun J H1 => ∀ D, H1 D = none → ∃ W : Nat → Nat → Hp → Prop, (∃ m, W 0 m (upd H1 D (SetTxO w D (fun _ => false) 0))) ∧ ∀ i m H, W i m H →
  (J.stop i H ∧ Q (.ref D) H) ∨ (J.go i H ∧ ∃ Nx : Hp → Prop, (∀ H', Nx H' → ∃ m', m' < m ∧ W (i + 1) m' H') ∧ ∀ x H', J.yld i H x H' → g x (wipe σ vs) H' fun σ2 H2 => wipe σ2 vs = wipe σ vs ∧ tt σ2 H2 fun b H3 =>
    if b = true then te σ2 H3 fun y H4 => ∃ (c : Str) (S : Str → Bool) (n : Nat), y = .str c ∧ H4 D = some (SetTxO w D S n) ∧ n + 1 < scanBound ∧ Nx (upd H4 D (SetTxO w D (fun j => S j || decide (j = c)) (if S c = true then n else n + 1))) else Nx H3)
theorem scT_core {pins : List (Addr × Obj)} {s : Shared} {σ : L2.St} {H : Hp} {Q : VK} {elt tg iter : Expr} {ifs : List Expr} {scope : Scope} {own : List (PySem.Str × Nat)} {pos pos' : Pos} {wi : TI} {g : TG} {tt : TT} {te : TE} {use : Option (Value → Sem Unit)} {Qf : Value → Shared → Prop}
    (hc : X.calm = true) (hN : X.N.Nodup) (I : Inv X pins σ H s) (hi : PI X tg iter wi) (ok : BlkOk X.N X.env.scope scope own)
    (hg : ∀ (s : Shared) (H : Hp) (C : Addr) (cl : List (PySem.Str × Addr)) (fp : List Addr), PG (X.blk s H scope (compEnvC scope cl C X.env) fp) tg g) (ht : ∀ (s : Shared) (H : Hp) (C : Addr) (cl : List (PySem.Str × Addr)) (fp : List Addr), PTs (X.blk s H scope (compEnvC scope cl C X.env) fp) ifs tt)
    (he : ∀ (s : Shared) (H : Hp) (C : Addr) (cl : List (PySem.Str × Addr)) (fp : List Addr), PE (X.blk s H scope (compEnvC scope cl C X.env) fp) elt te) (hs : ∀ x, foldedSetIterable iter X.env x = pure x)
    (h : tScT X.w wi g tt te (own.map (·.2)) σ H Q)
    (hRR : ∀ D C s' m H', Inv X pins σ H' s' → Q (.ref D) H' → s'.heap.Ns C m → FpOk X pins H' C → compPost (model X.prog X.w) X.A X.xe use Qf (.ref D) C (.ok .next) s') :
    wpAny (model X.prog X.w) X.A (comprehension (.SetComp elt [⟨tg, iter, ifs, 0⟩] scope pos) scope X.env pos' (newSet (.type "set")) false (eval iter X.env) use) Qf X.xe s := by
  have hfree : ∀ y ∈ scope.names, y.2 = .free → ∃ c, X.env.cells.lookup y.1 = some c := fun y hy e => by
    rcases ok.free y hy e with k | k
    · exact I.ok.has _ (.inl k)
    · exact I.ok.has _ (.inr k)
  refine wpAny_comprehension_free (use := use) rfl hs (closure_ok hfree) ok.kind (fun y hy e => by rw [ok.uniq y hy, e])
    (thn (hi.run pins s σ H _ I h) fun xv s1 hx => thn hx fun itv s2 h2 => ?_)
  obtain ⟨it, fp, tn, J, H2, e, I2, T, st2, f2, q⟩ := h2
  subst e
  refine PpSet.newSet_ok (newEnv_comp ?_)
  generalize hD : s2.heap.objs.size = D
  have hDn : H2 D = none := I2.hok.fresh (Nat.le_of_eq hD)
  obtain ⟨W, ⟨m0, w0⟩, turn⟩ := q D hDn
  generalize hs3 : ({ s2 with heap := s2.heap.push { cls := .type "set", dict := none, data := .set #[] 0 (.fresh 0 0 (!X.w.params.followText "set-order")) } } : Shared) = s3
  have I3 : Inv X pins σ (upd H2 D (SetTxO X.w D (fun _ => false) 0)) s3 := by
    rw [← hs3]
    refine I2.laid (t' := s2.toks) (fun b o e => Heap.get?_push_of_some _ e) (Nat.le_of_eq hD) ?_
    rw [← hD]
    exact setTxO_new (setT_fresh X.w)
  have h3 : s3.heap = s2.heap.push { cls := .type "set", dict := none, data := .set #[] 0 (.fresh 0 0 (!X.w.params.followText "set-order")) } := by rw [← hs3]
  have sz : ∀ b ∈ fp, b < s2.heap.objs.size := fun b hb => by
    obtain ⟨o, e, _⟩ := T.obj _ _ st2 b hb
    exact Heap.lt_size e
  have f3 : ∀ b ∈ fp, FpOk X pins (upd H2 D (SetTxO X.w D (fun _ => false) 0)) b ∧ b < s3.heap.objs.size := fun b hb => by
    have hlt := sz b hb
    refine ⟨⟨?_, (f2 b hb).2⟩, by rw [h3, Heap.size_push]; exact Nat.lt_succ_of_lt hlt⟩
    rw [upd_ne (by rw [← hD]; exact Nat.ne_of_lt hlt)]
    exact (f2 b hb).1
  have st3 : tn 0 s3.heap := T.keep _ _ _ st2 fun b _ o e => by rw [h3]; exact Heap.get?_push_of_some _ e
  have I4 := block_start I3 ok hN f3
  have pg := hg s3 (upd H2 D (SetTxO X.w D (fun _ => false) 0)) s3.heap.objs.size (cellsFrom (s3.heap.objs.size + 1) scope.names (cloFrom X.env.cells scope.names [])) fp
  have pt := ht s3 (upd H2 D (SetTxO X.w D (fun _ => false) 0)) s3.heap.objs.size (cellsFrom (s3.heap.objs.size + 1) scope.names (cloFrom X.env.cells scope.names [])) fp
  have pe := he s3 (upd H2 D (SetTxO X.w D (fun _ => false) 0)) s3.heap.objs.size (cellsFrom (s3.heap.objs.size + 1) scope.names (cloFrom X.env.cells scope.names [])) fp
  show codeAny _ _ (.compStart (.SetComp elt [⟨tg, iter, ifs, 0⟩] scope pos) 0 (.ref it) (.ref D) (compEnvC scope (cellsFrom (s3.heap.objs.size + 1) scope.names (cloFrom X.env.cells scope.names [])) s3.heap.objs.size X.env)) (compPost (model X.prog X.w) X.A X.xe use Qf (.ref D) s3.heap.objs.size) { s3 with heap := pushCells (s3.heap.push { cls := .type "dict", data := .dict #[] }) scope.names }
  have nfp : ∀ b ∈ fp, (upd H2 D (SetTxO X.w D (fun _ => false) 0)) b = none := fun b hb => (f3 b hb).1.1
  generalize hce : compEnvC scope (cellsFrom (s3.heap.objs.size + 1) scope.names (cloFrom X.env.cells scope.names [])) s3.heap.objs.size X.env = ce at I4 pg pt pe ⊢
  have cL : ce.locals = s3.heap.objs.size := by subst hce; rfl
  generalize hH3 : upd H2 D (SetTxO X.w D (fun _ => false) 0) = H3 at I3 I4 pg pt pe w0 nfp f3
  generalize hs4 : ({ s3 with heap := pushCells (s3.heap.push { cls := .type "dict", data := .dict #[] }) scope.names } : Shared) = s4 at I4 ⊢
  have st4 : tn 0 s4.heap := T.keep _ _ _ st3 fun b _ o e => by rw [← hs4]; exact pushCells_keeps _ _ _ _ (Heap.get?_push_of_some _ e)
  have stat : ∀ {σ' : L2.St} {H' : Hp} {s' : Shared}, Inv (X.blk s3 H3 scope ce fp) [] σ' H' s' → (∀ b ∈ fp, H' b = none) → ∀ b ∈ fp, FpOk (X.blk s3 H3 scope ce fp) [] H' b := fun {σ' H' s'} I' hn b hb =>
    ⟨hn b hb, (I'.ok.exf b hb).1, I'.ok.exfs b hb, .inl hb, fun x c e => (I'.ok.exf b hb).2 x c e, fun p hp => absurd (show p ∈ ([] : List (Addr × Obj)) ++ [] from hp) (by simp)⟩
  have loop : codeAny (model X.prog X.w) X.A (.compLoop (.SetComp elt [⟨tg, iter, ifs, 0⟩] scope pos) 0 (.ref it) (.ref D) ce) (compPost (model X.prog X.w) X.A X.xe use Qf (.ref D) s3.heap.objs.size) s4 := by
    refine PpSet.compLoopS_any (fun n s' => ∃ i H', Inv (X.blk s3 H3 scope ce fp) [] (wipe σ (own.map (·.2))) H' s' ∧ tn i s'.heap ∧ (∀ b ∈ fp, H' b = none) ∧ W i n H') ?_ m0 ⟨0, H3, I4, st4, nfp, w0⟩
    rintro n s5 ⟨i, H5, I5, st5, n5, w5⟩
    rcases turn i n H5 w5 with ⟨stop, qq⟩ | ⟨go, Nx, hNx, step⟩
    · have td := T.done (X.blk s3 H3 scope ce fp) rfl rfl rfl hc i [] s5 _ H5 (fun _ _ => False) I5 (stat I5 n5) st5 stop
      refine thnF td fun r s6 ⟨hr, I6⟩ => ?_
      subst hr
      have I7 : Inv X pins σ H5 s6 := I3.call' (ch := fp) I6.os I6.base I6.hok I6.bare fun b hb => ⟨(f3 b hb).1.2.2.2.1, (f3 b hb).1.2.1, (f3 b hb).1.2.2.2.2.1, (f3 b hb).1.2.2.2.2.2⟩
      have nC : H5 s3.heap.objs.size = none := by
        have z : H5 ce.locals = none := I6.free
        rw [cL] at z
        exact z
      obtain ⟨m, hn, _⟩ := I6.loc
      have hn : s6.heap.Ns ce.locals m := hn
      rw [cL] at hn
      exact hRR D s3.heap.objs.size s6 m H5 I7 qq hn (I3.fpOk (Nat.le_refl _) nC)
    · have ti := T.item (X.blk s3 H3 scope ce fp) rfl rfl rfl hc i [] s5 _ H5 (fun _ _ => False) I5 (stat I5 n5) st5 go
      refine thnF ti fun r s6 ⟨u, hr, h6⟩ => ?_
      subst hr
      refine thnF h6 fun _ s7 ⟨x, H7, I7, r7, y7, st7, n7⟩ => ?_
      have I7' := I7.pinned (stat I7 n7) (T.obj _ _ st7)
      refine thnF (pg.run _ s7 _ H7 x u _ I7' r7 (step x H7 y7)) fun _ s8 ⟨σ8, H8, I8, hw8, q8⟩ => ?_
      refine thnF (pt.run _ s8 σ8 H8 _ I8 q8) fun b s9 ⟨H9, I9, q9⟩ => ?_
      have fin : ∀ {s' : Shared} {H' : Hp}, Inv (X.blk s3 H3 scope ce fp) ([] ++ pinsAt fp s7.heap) σ8 H' s' → Nx H' → ∃ m, m < n ∧ ∃ i H', Inv (X.blk s3 H3 scope ce fp) [] (wipe σ (own.map (·.2))) H' s' ∧ tn i s'.heap ∧ (∀ b ∈ fp, H' b = none) ∧ W i m H' := fun {s' H'} I' nx => by
        obtain ⟨m', hm, w'⟩ := hNx H' nx
        have pin' : ∀ b ∈ fp, ∀ o, s7.heap.get? b = some o → s'.heap.get? b = some o ∧ H' b = none := fun b hb o e =>
          let z := I'.pin (b, o) (List.mem_append_right _ (List.mem_append_right _ (mem_pinsAt hb e)))
          ⟨z.1, z.2.1⟩
        have hl : (wipe σ (own.map (·.2))).length = σ8.length := by rw [← hw8, wipe_length]
        refine ⟨m', hm, i + 1, H', (I'.unpinned (pins := [])).weak hl (fun j v e => ?_), T.keep _ _ _ st7 fun b hb o e => (pin' b hb o e).1, fun b hb => ?_, w'⟩
        · rw [← hw8] at e
          exact (wipe_some e).1
        · obtain ⟨o, e, _⟩ := T.obj _ _ st7 b hb
          exact (pin' b hb o e).2
      cases b with
      | false =>
        simp only [Bool.false_eq_true, if_false] at q9 ⊢
        exact fin I9 q9
      | true =>
        simp only [if_true] at q9 ⊢
        refine thnF (pe.run _ s9 σ8 H9 _ I9 q9) fun z s10 ⟨yv, H10, I10, r10, cb, S0, n0, ey, hD10, hz10, nx⟩ => ?_
        subst ey
        obtain ⟨tb, rfl⟩ := (show ∃ t, z = Value.str cb t from r10)
        exact addT_ok (X := X.blk s3 H3 scope ce fp) I10 hD10 hz10 fun s11 I11 => fin I11 nx
  exact PpSet.codeAny_compStart_set loop (T.self X.A 0 _ _ _ st4 loop)
theorem pe_scT {elt tg iter : Expr} {ifs : List Expr} {scope : Scope} {own : List (PySem.Str × Nat)} {pos : Pos} {wi : TI} {g : TG} {tt : TT} {te : TE} (hc : X.calm = true) (hN : X.N.Nodup) (hi : PI X tg iter wi) (ok : BlkOk X.N X.env.scope scope own)
    (hg : ∀ (s : Shared) (H : Hp) (C : Addr) (cl : List (PySem.Str × Addr)) (fp : List Addr), PG (X.blk s H scope (compEnvC scope cl C X.env) fp) tg g) (ht : ∀ (s : Shared) (H : Hp) (C : Addr) (cl : List (PySem.Str × Addr)) (fp : List Addr), PTs (X.blk s H scope (compEnvC scope cl C X.env) fp) ifs tt)
    (he : ∀ (s : Shared) (H : Hp) (C : Addr) (cl : List (PySem.Str × Addr)) (fp : List Addr), PE (X.blk s H scope (compEnvC scope cl C X.env) fp) elt te) (hs : ∀ x, foldedSetIterable iter X.env x = pure x := by intro _; rfl) :
    PE X (.SetComp elt [⟨tg, iter, ifs, 0⟩] scope pos) (tScT X.w wi g tt te (own.map (·.2))) := by
  refine ⟨fun pins s σ H Q I h => ?_⟩
  rw [PpSet.eval_SetComp]
  refine scT_core hc hN I hi ok hg ht he hs h fun D C s' m H' I' q hn f => ⟨m, hn, fun h'' sb => ?_⟩
  obtain ⟨f0, f1, f2, f3, f4, f5⟩ := f
  exact ⟨.ref D, H', I'.turned (t' := s'.toks) (fun b o hb e => (sb.2 b hb).trans e) f0 f1 f3 f4 f5, rfl, q⟩
end
end
/-! ### sorted of it -/
def rSortTx (w : World) : List V → Hp → VK → Prop := fun vs H Q => ∃ (a : Addr) (S : Str → Bool) (n : Nat), vs = [V.ref a] ∧ H a = some (SetTxO w a S n) ∧ n < 64 ∧
  ∀ (ys : List Str) (p : Addr), sortedS ys = true → ys.Nodup → (∀ k, k ∈ ys ↔ S k = true) → H p = none → Q (.ref p) (upd H p (.lst (ys.map V.str)))
section
variable {X : Cx}
theorem cr_sortTx (hc : X.calm = true) : CallR X (.builtin "sorted") (rSortTx X.w) := by
  intro pins s σ H vs us Q I r h
  obtain ⟨a, S, n, rfl, ha, h64, q⟩ := h
  rw [Vals.ref1 r]
  obtain ⟨o, es, ep, t, ho, hex, hd, g, nd, hm, hb, hf, hn, hr, hl⟩ := setTxO_get I ha
  refine Calls.call_function_entry PyProof.Rows.kind_sorted PyProof.Rows.plain_sorted PyProof.Rows.entry_sorted (PyProof.Rows.args_sorted1 _) ?_
  unfold Builtin.«sorted»
  refine wpAny_bind (m := checkCount "sorted" 1 1 _) (wpAny_pure ?_)
  refine wpAny_bind (collect_set (A := X.A.in1) (I.ok.hd hc) ⟨o, ho, hex.1, hd⟩ hf hb hr hl fun s1 vs k1 hz g1 o1 pm => ?_)
  have hvl : vs.length = n := by rw [pm.length_eq, List.length_map, Array.length_toList]; exact hn
  have hS : StrsAre vs (vs.map strOf) := strsAre_map vs fun v hv => by
    obtain ⟨e, he, q⟩ := List.mem_map.mp (pm.mem_iff.mp hv)
    obtain ⟨k, tk, h1, _⟩ := g e he
    exact ⟨k, tk, by rw [← q]; exact h1⟩
  have pk : (vs.map strOf).Perm (es.toList.map keyT) := by
    have q := pm.map strOf
    rw [List.map_map] at q
    refine q.trans (List.Perm.of_eq (List.map_congr_left fun e he => ?_))
    obtain ⟨k, tk, h1, _⟩ := g e he
    show strOf e.2 = keyT e
    unfold keyT
    rw [h1]
    rfl
  have I1 : Inv X pins σ H { s with heap := s1.heap, gens := s1.gens, drawn := s1.drawn, toks := s1.toks } :=
    I.call (ch := []) (Un.kept k1) (I.hok.kept k1) (by rw [g1]; exact I.bare) (fun _ z => nomatch z)
  have es1 : s1 = { s with heap := s1.heap, gens := s1.gens, drawn := s1.drawn, toks := s1.toks } := by
    cases s1
    cases s
    cases o1
    rfl
  refine wpAny_bind (wpAny_newList ?_ (by rw [hvl, sizeLine_eq]; omega))
  have hoL : (s1.heap.push (seqObj "list" vs.toArray 0)).get? s1.heap.objs.size = some (seqObj "list" vs.toArray 0) := Heap.get?_push_size _ rfl
  refine wpAny_bind (wpAny_holding (wpAny_call_entry PyProof.Rows.slot_list_sort ⟨_, hoL, rfl⟩ PyProof.Rows.entry_list_sort
    (list_sort_treeK strKind_oneLt (s := { s1 with heap := s1.heap.push (seqObj "list" vs.toArray 0) }) hoL hS.keysOf (fun v₁ v₂ rest e => keyKind_strs (by rw [← e]; exact hS)) (by rw [hvl]; exact h64) fun st' hp hs => ⟨_, rfl, ?_⟩)
    (PyProof.Rows.args_list_sort _)))
  obtain ⟨ys, g1', g2, g3⟩ := sorted_out_str hS hp hs
  obtain ⟨e', he'⟩ := PyProof.Rows.sortedHeap_at (vs := vs) (out := (arrOf st').map (·.2)) hoL
  have hlen : (ys.map V.str).length ≤ sizeLine := by
    rw [List.length_map, g2.length_eq, List.length_map, hvl, sizeLine_eq]
    omega
  have py := g2.trans pk
  have J := I1.laid (a := s1.heap.objs.size) (o := .lst (ys.map V.str)) (t' := s1.toks) (h' := sortedHeap (s1.heap.push (seqObj "list" vs.toArray 0)) s1.heap.objs.size vs ((arrOf st').map (·.2))) (fun b u e => by
      have hb : b < s1.heap.objs.size := Heap.lt_size e
      rw [PyProof.Rows.sortedHeap_old (Nat.ne_of_lt hb) (by rw [size_push']; exact Nat.lt_succ_of_lt hb)]
      exact Heap.get?_push_of_some _ e) (Nat.le_refl _)
    (show ObjOk X.prog X.w _ _ _ (.lst (ys.map V.str)) from ⟨hlen, ((arrOf st').map (·.2)).toList, e', vals_of_strs g1', by rw [Array.toArray_toList]; exact he'⟩)
  refine wpAny_pure ⟨_, rfl, .ref s1.heap.objs.size, upd H s1.heap.objs.size (.lst (ys.map V.str)), ?_, rfl, q ys _ g3 (py.nodup_iff.mpr nd) (fun k => by rw [py.mem_iff, ← hm k]) (I1.hok.fresh (Nat.le_refl _))⟩
  rw [es1]
  exact J
end
end ML
set_option Elab.async false
set_option linter.all false
set_option maxRecDepth 100000
set_option maxHeartbeats 4000000
namespace ML
open PySem PySem.Spec PyProof.Rows L2
/-! ### sorted({text for ..}) -/
def addS (l : List Str) (z : Str) : List Str := if z ∈ l then l else l ++ [z]
def dedS (xs : List Str) : List Str := xs.foldl addS []
def memS (l : List Str) : Str → Bool := fun k => decide (k ∈ l)
theorem dedS_app (acc : List Str) (z : Str) : dedS (acc ++ [z]) = addS (dedS acc) z := by
  unfold dedS
  rw [List.foldl_append]
  rfl
theorem dedS_snoc (acc : List Str) (z : Str) : (fun j => memS (dedS acc) j || decide (j = z)) = memS (dedS (acc ++ [z])) ∧ (if memS (dedS acc) z = true then (dedS acc).length else (dedS acc).length + 1) = (dedS (acc ++ [z])).length := by
  rw [dedS_app]
  unfold addS memS
  constructor
  · funext j
    split
    · rename_i h
      by_cases e : j = z
      · subst e
        simp [h]
      · simp [e]
    · simp
  · by_cases h : z ∈ dedS acc <;> simp [h]
theorem addS_nodup {l : List Str} (h : l.Nodup) (z : Str) : (addS l z).Nodup := by
  unfold addS
  split
  · exact h
  · rename_i n
    rw [List.nodup_append]
    exact ⟨h, by simp, fun a ha b hb e => n (by rw [← List.mem_singleton.mp hb, ← e]; exact ha)⟩
theorem foldl_addS_nodup : ∀ (xs l : List Str), l.Nodup → (xs.foldl addS l).Nodup
  | [], _, h => h
  | x :: xs, l, h => foldl_addS_nodup xs _ (addS_nodup h x)
theorem dedS_nodup (xs : List Str) : (dedS xs).Nodup := foldl_addS_nodup xs [] .nil
theorem foldl_addS_length : ∀ (xs l : List Str), (xs.foldl addS l).length ≤ l.length + xs.length
  | [], _ => by simp
  | x :: xs, l => by
    have := foldl_addS_length xs (addS l x)
    have h2 : (addS l x).length ≤ l.length + 1 := by
      unfold addS
      split <;> simp
    simp only [List.foldl_cons, List.length_cons]
    omega
theorem dedS_length (xs : List Str) : (dedS xs).length ≤ xs.length := by
  have := foldl_addS_length xs []
  unfold dedS
  simpa using this
theorem strL_strs : ∀ xs : List Str, strL (xs.map W.str) = some xs
  | [] => rfl
  | x :: xs => by
    show (strL (xs.map W.str)).map (fun bs => x :: bs) = _
    rw [strL_strs xs]
    rfl
def eStr (e : EM) : EM := fun sw S => (e sw S).bind fun w S => match w with
  | .str z => .ok (.str z) S
  | _ => .bad
theorem eStr_str {e : EM} {sw : SW} {S S' : Store} {w : W} (h : eStr e sw S = .ok w S') : ∃ z, w = .str z := by
  unfold eStr at h
  cases q : e sw S with
  | ok x S1 =>
    rw [q] at h
    cases x with
    | str z =>
      have h : Res.ok (W.str z) S1 = Res.ok w S' := h
      cases h
      exact ⟨z, rfl⟩
    | _ => exact nomatch (show Res.bad = Res.ok w S' from h)
  | exc c fs vs S1 =>
    rw [q] at h
    exact nomatch (show Res.exc c fs vs S1 = Res.ok w S' from h)
  | bad =>
    rw [q] at h
    exact nomatch (show Res.bad = Res.ok w S' from h)
theorem ie_str0 {X : Cx} {Wx : WX} {a : Expr} {e : EM} (h : IE X Wx a e) : IE X Wx a (eStr e) := pe_imp h fun s H Q ⟨F0, F, r, S, sw, t, st, q⟩ => by
  refine tE_bind t st q fun w v Fa Ha ra Sa xa ta sa ba q => ?_
  cases w with
  | str z => exact q.ok ta _ ba
  | _ => exact q.elim
def endSC (acc : List Str) : List W → Store → Res O := fun ys S => match strL (acc.map W.str ++ ys) with
  | some xs => if (dedS xs).length < 64 then .ok (.lst ((sortS (dedS xs)).map .str)) S else .bad
  | none => .bad
def fSortSC (it : IM) (vs : List Nat) (g : GM) (c : TM) (e : EM) : FM := fun sw S => (it sw S).bind fun ws S => if ws.length < 4000 then (compW g c (eStr e) (wipeW sw vs) ws S).bind (endSC []) else .bad
theorem sortSC_imp {k : Kw} {Wx : WX} {it : IM} {vs ix : List Nat} {g : GM} {c : TM} {e : EM} (hix : ∀ j ∈ ix, j ∈ vs) (s : L2.St) (H : Hp) (Q : VK) (h : tF k Wx (fSortSC it vs g c e) s H Q) : tScT k.w (tIB k Wx it) (tG k ix g) (tT k Wx0 c) (tE k Wx0 (eStr e)) vs s H (fun v H1 => rSortTx k.w [v] H1 Q) := by
  obtain ⟨F0, F, r, S, sw, t, st, q⟩ := h
  refine ⟨F0, F, r, S, sw, t, st, ?_⟩
  unfold fSortSC at q
  cases e0 : it sw S with
  | bad =>
    rw [e0] at q
    exact q
  | exc c fs ws S' =>
    rw [e0] at q
    exact q
  | ok ws S' =>
    rw [e0] at q
    have q : Run k Wx s F H r (if ws.length < 4000 then (compW g c (eStr e) (wipeW sw vs) ws S').bind (endSC []) else .bad) (pF k H Q) := q
    intro Fj Hj rj xj tj J ok D hD
    have hD0 : H D = none := dom_back xj hD
    have ne : ∀ (j : Nat) (o' : O), sw[j]? = some (some (Sl.own o')) → s[j]? ≠ some (some (V.ref D)) := fun j o' h => fresh_slot t st hD0 j o' h
    split at q
    · rename_i hsz
      refine ⟨fun i m H1 => m = ws.length - i ∧ i ≤ ws.length ∧ ∃ F1 r1 S1 acc, Ext F H r F1 H1 r1 ∧ Mv Fj Hj rj F1 H1 r1 ∧ Wat s sw Hj H1 ∧ Sto k F1 H1 r1 S1 ∧ F1 D ∧ D ∉ r1 ∧ H1 D = some (SetTxO k.w D (memS (dedS acc)) (dedS acc).length) ∧ acc.length ≤ i ∧ StR k F0 F1 H1 r1 s sw ∧
        Run k Wx s F H r ((compW g c (eStr e) (wipeW sw vs) (ws.drop i) S1).bind (endSC acc)) (pF k H Q),
        ⟨ws.length, by omega, Nat.zero_le _, addF Fj D, rj, S', [], xj.trans (Ext.newF hD), (Ext.newF hD).mv tj.inF, (fun i o a h1 h2 => upd_ne (fun z => ne i o h1 (by rw [h2, z]))), tj.newF hD, .inr rfl, tj.mem_r hD, upd_same, Nat.zero_le _, (st.ext xj t).ext (Ext.newF hD) tj, q⟩, ?_⟩
      rintro i m H1 ⟨rfl, hi, F1, r1, S1, acc, x1, m1, w1, t1, fD, nD, hDv, hacc, st1, q⟩
      by_cases hlt : i < ws.length
      · rw [List.drop_eq_getElem_cons hlt] at q
        have hw : ws[i]? = some ws[i] := List.getElem?_eq_getElem hlt
        obtain ⟨go, yl⟩ := ok.go F1 H1 r1 m1 w1 t1.trk i _ hw
        refine .inr ⟨go, fun H1 => ∃ F1 r1 S1 acc, Ext F H r F1 H1 r1 ∧ Mv Fj Hj rj F1 H1 r1 ∧ Wat s sw Hj H1 ∧ Sto k F1 H1 r1 S1 ∧ F1 D ∧ D ∉ r1 ∧ H1 D = some (SetTxO k.w D (memS (dedS acc)) (dedS acc).length) ∧ acc.length ≤ i + 1 ∧ StR k F0 F1 H1 r1 s sw ∧
          Run k Wx s F H r ((compW g c (eStr e) (wipeW sw vs) (ws.drop (i + 1)) S1).bind (endSC acc)) (pF k H Q), fun H' z => ⟨ws.length - (i + 1), by omega, rfl, hlt, z⟩, fun x H2 y => ?_⟩
        obtain ⟨x2, tt2, rx⟩ := yl x H2 y
        have t2 := tt2 S1 t1
        have st2 := st1.ext x2 t1
        have hD2 : H2 D = some (SetTxO k.w D (memS (dedS acc)) (dedS acc).length) := x2.kp D _ hDv nD
        unfold compW at q
        cases e1 : g ws[i] (wipeW sw vs) with
        | none =>
          rw [e1] at q
          exact q.elim
        | some sw1 =>
          rw [e1] at q
          dsimp only at q
          refine ⟨F0, F1, r1, S1, wipeW sw vs, ws[i], sw1, t2, st2.wipe vs, rx, e1, fun s2 st3 hl2 hj2 => ⟨?_, ?_⟩⟩
          · rw [wipe_congr (s1 := s) (by rw [hl2, wipe_length]) fun j hj => (hj2 j fun z => hj (hix j z)).trans (wipe_get hj)]
          refine ⟨F0, F1, r1, S1, sw1, t2, st3, ?_⟩
          cases e2 : c sw1 S1 with
          | bad =>
            rw [e2] at q
            exact q
          | exc c fs vs S' =>
            rw [e2] at q
            exact q.elim
          | ok b S2 =>
            rw [e2] at q
            intro F3 H3 r3 x3 t3
            have fD3 := x3.sub D fD
            have nD3 := ext_nr x3 nD (by rw [hD2]; simp)
            have hD3 : H3 D = some (SetTxO k.w D (memS (dedS acc)) (dedS acc).length) := x3.kp D _ hD2 nD
            have x03 := (x1.trans x2).trans x3
            have m03 := (m1.trans (x2.mv t1.inF)).trans (x3.mv t2.inF)
            have st03 := st2.ext x3 t2
            have w03 : Wat s sw Hj H3 := (w1.step st1 x2).step st2 x3
            cases b with
            | false => exact ⟨F3, r3, S2, acc, x03, m03, w03, t3, fD3, nD3, hD3, Nat.le_succ_of_le hacc, st03, q⟩
            | true =>
              have q : Run k Wx s F H r (((noX (eStr e sw1 S2)).bind fun y S => (compW g c (eStr e) (wipeW sw vs) (ws.drop (i + 1)) S).bind fun ys S => .ok (y :: ys) S).bind (endSC acc)) (pF k H Q) := q
              refine ⟨F0, F3, r3, S2, sw1, t3, st3.ext x3 t2, ?_⟩
              cases e3 : eStr e sw1 S2 with
              | bad =>
                rw [e3] at q
                exact q
              | exc c fs vs S' =>
                rw [e3] at q
                exact q.elim
              | ok yw S3 =>
                rw [e3] at q
                obtain ⟨z, rfl⟩ := eStr_str e3
                intro F4 H4 r4 x4 t4 v rv
                cases rv
                have fD4 := x4.sub D fD3
                have nD4 := ext_nr x4 nD3 (by rw [hD3]; simp)
                have hD4 : H4 D = some (SetTxO k.w D (memS (dedS acc)) (dedS acc).length) := x4.kp D _ hD3 nD3
                have hle := dedS_length acc
                have hdd := dedS_snoc acc z
                refine ⟨z, memS (dedS acc), (dedS acc).length, rfl, hD4, (by have : scanBound = 4096 := rfl; omega), F4, r4, S3, acc ++ [z], (x03.trans x4).writeO hD0, (m03.trans (x4.mv t3.inF)).trans (Mv.writeO fD4), (w03.step st03 x4).put ne, t4.writeO fD4 nD4, fD4, nD4, ?_,
                  by rw [List.length_append, List.length_singleton]; omega, (st03.ext x4 t3).writeO fD4 ne, ?_⟩
                · rw [upd_same, hdd.1, hdd.2]
                have q : Run k Wx s F H r (((compW g c (eStr e) (wipeW sw vs) (ws.drop (i + 1)) S3).bind fun ys S => .ok (W.str z :: ys) S).bind (endSC acc)) (pF k H Q) := q
                rw [bind_assoc'] at q
                have ee : (fun (ys : List W) (S : Store) => ((Res.ok (W.str z :: ys) S : Res (List W)).bind (endSC acc))) = endSC (acc ++ [z]) := by
                  funext ys S
                  show endSC acc (W.str z :: ys) S = _
                  unfold endSC
                  rw [List.map_append, List.append_assoc]
                  rfl
                rw [ee] at q
                exact q
      · have e : i = ws.length := by omega
        subst e
        rw [List.drop_length] at q
        refine .inl ⟨ok.stop F1 H1 r1 m1 w1 _ (Nat.le_refl _), ?_⟩
        have q : Run k Wx s F H r (endSC acc [] S1) (pF k H Q) := q
        unfold endSC at q
        rw [List.append_nil, strL_strs] at q
        dsimp only at q
        split at q
        · rename_i h64
          refine ⟨D, _, _, rfl, hDv, h64, fun ys p hs hnd hmem hp => ?_⟩
          have ey : ys = sortS (dedS acc) := sortS_unique ((List.perm_ext_iff_of_nodup hnd (dedS_nodup acc)).mpr fun k => by rw [hmem k]; simp [memS]) (sortedS_pw hs)
          subst ey
          exact q (addF F1 p) _ r1 (x1.trans (Ext.newF hp)) (t1.newF hp) p (dom_back x1 hp) (.inr rfl) (t1.mem_r hp) ⟨_, upd_same, repL_strs _⟩
        · exact q.elim
    · exact q.elim

section
variable {X : Cx} {Wx : WX} {elt tg iter : Expr} {ifs : List Expr} {scope : Scope} {p pos pos' : Pos} {it : IM} {g : GM} {ix : List Nat} {c : TM} {e : EM} {os : List Nat}
theorem if_sortSC (own : List (Str × Nat)) (ho : own.map (·.2) = os) (hc : X.calm = true) (hN : X.N.Nodup) (hsg : Gl X "sorted") (hsm : X.mg "sorted" = none) (hi : IIB X Wx tg iter it) (ok : BlkOk X.N X.env.scope scope own)
    (hg : ∀ (s : Shared) (H : Hp) (C : Addr) (cl : List (Str × Addr)) (fp : List Addr), IG (X.blk s H scope (compEnvC scope cl C X.env) fp) tg ix g) (ht : ∀ (s : Shared) (H : Hp) (C : Addr) (cl : List (Str × Addr)) (fp : List Addr), PTs (X.blk s H scope (compEnvC scope cl C X.env) fp) ifs (tT (kw X) Wx0 c))
    (he : ∀ (s : Shared) (H : Hp) (C : Addr) (cl : List (Str × Addr)) (fp : List Addr), IE (X.blk s H scope (compEnvC scope cl C X.env) fp) Wx0 elt e) (hix : ∀ j ∈ ix, j ∈ os) (hs : ∀ x, foldedSetIterable iter X.env x = pure x := by intro _; rfl)
    (hst : starEach [.SetComp elt [⟨tg, iter, ifs, 0⟩] scope pos] X.env = (false, eval (.SetComp elt [⟨tg, iter, ifs, 0⟩] scope pos) X.env) :: starEach [] X.env := by rfl) :
    IF X Wx (.Call (.Name "sorted" p) [.SetComp elt [⟨tg, iter, ifs, 0⟩] scope pos] [] pos') (fSortSC it os g c e) := by
  subst ho
  exact pe_imp (pe_callB (cr_sortTx hc) hsg hsm (by decide +kernel) (pa_cons (pe_scT (g := tG (kw X) ix g) (te := tE (kw X) Wx0 (eStr e)) hc hN hi ok hg ht (fun s H C cl fp => ie_str0 (he s H C cl fp)) hs) pa_nil hst) (by decide) (by decide) hst) fun s H Q h => sortSC_imp hix s H Q h
end
end ML
set_option Elab.async false
set_option linter.all false
set_option maxRecDepth 100000
set_option maxHeartbeats 4000000
namespace ML
open PySem PySem.Spec PyProof.Rows L2
/-! ### a written dict with text keys -/
def entsB (K : PySem.W.Frag) : List DictEntry → List (Str × W) → Bool
  | [], [] => true
  | e :: es, (k, w) :: r => (match e.key with
    | .str x _ => x == k
    | _ => false) && (kB K w e.val && entsB K es r)
  | _, _ => false
def tabB (K : PySem.W.Frag) (x : Str) (kvs : List (Str × W)) : Bool := match K.lookup (He.ga K x) with
  | some ⟨_, _, .dict es _, _⟩ => entsB K es.toList kvs
  | _ => false
theorem ents_find {K : PySem.W.Frag} : ∀ {l : List DictEntry} {kvs : List (Str × W)}, entsB K l kvs = true → (∀ z, match kvs.lookup z with
    | some w => ∃ e, l.find? (·.key.isStr z) = some e ∧ kB K w e.val = true
    | none => l.find? (·.key.isStr z) = none) ∧ l.any (·.refKey) = false
  | [], [], _ => ⟨fun z => rfl, rfl⟩
  | [], _ :: _, h => nomatch h
  | _ :: _, [], h => nomatch h
  | e :: es, (k, w) :: r, h => by
    unfold entsB at h
    simp only [Bool.and_eq_true] at h
    obtain ⟨h1, h2, h3⟩ := h
    obtain ⟨q1, q2⟩ := ents_find h3
    obtain ⟨hs, key, val⟩ := e
    cases key with
    | str x t =>
      have ex : x = k := by simpa using h1
      subst ex
      refine ⟨fun z => ?_, ?_⟩
      · rw [List.lookup_cons, List.find?_cons]
        by_cases hz : z = x
        · subst hz
          simp only [beq_self_eq_true]
          refine ⟨_, ?_, h2⟩
          have : (Value.str z t).isStr z = true := by simp [Value.isStr]
          simp only [this]
        · have b1 : (z == x) = false := beq_eq_false_iff_ne.mpr hz
          have b2 : (Value.str x t).isStr z = false := by
            simp only [Value.isStr]
            exact beq_eq_false_iff_ne.mpr fun q => hz q.symm
          simp only [b1, b2]
          exact q1 z
      · rw [List.any_cons, q2]
        rfl
    | _ => cases h1
structure TabF (K : PySem.W.Frag) (w : World) (x : Str) (kvs : List (Str × W)) : Prop where
  d : ∃ es n, KDict K w (He.ga K x) es n
  f : ∀ z, match kvs.lookup z with
    | some y => ∃ u v, PySem.W.nsIn K (He.ga K x) z = some (some u) ∧ RelV v u ∧ ∀ F H r, RepV ⟨K, w⟩ F H r y v
    | none => PySem.W.nsIn K (He.ga K x) z = some none
theorem tabF_of {K : PySem.W.Frag} {w : World} {x : Str} {kvs : List (Str × W)} (h : tabB K x kvs = true) (d : ∃ es n, KDict K w (He.ga K x) es n) : TabF K w x kvs := by
  refine ⟨d, fun z => ?_⟩
  obtain ⟨es, n, D⟩ := d
  unfold tabB at h
  rw [D.at_] at h
  obtain ⟨q1, q2⟩ := ents_find (show entsB K es.toList kvs = true from h)
  have q := q1 z
  have e0 : PySem.W.nsIn K (He.ga K x) z = (match es.toList.find? (·.key.isStr z) with
      | some e => some (some e.val)
      | none => if es.toList.any (·.refKey) then none else some none) := by
    unfold PySem.W.nsIn
    rw [D.at_]
    rfl
  cases e : kvs.lookup z with
  | none =>
    rw [e] at q
    have q : es.toList.find? (·.key.isStr z) = none := q
    show PySem.W.nsIn K (He.ga K x) z = some none
    rw [e0, q, q2]
    rfl
  | some y =>
    rw [e] at q
    obtain ⟨e1, q3, q4⟩ := (show ∃ e, es.toList.find? (·.key.isStr z) = some e ∧ kB K y e.val = true from q)
    obtain ⟨v, r1, r2⟩ := kB_ok (wd := w) y _ q4
    exact ⟨e1.val, v, by rw [e0, q3], r1, r2⟩
section
variable {X : Cx} {Wx : WX}
theorem ie_gcls {x : Str} {pos : Pos} (hg : Gl X x) (hm : X.mg x = some (.ref (He.ga X.K x))) (hd : (x == ("__debug__" : Str)) = false := by decide) : IE X Wx (.Name x pos) (eC (.cls x)) :=
  ie_c (pe_glob (v := .ref (He.ga X.K x)) hg hm rfl hd) fun F H r => rfl
def opInTab (x : Str) (kvs : List (Str × W)) : F2 := fun _ a b S => match a, b with
  | .str z, .cls y => if y = x then .ok (.bl (kvs.lookup z).isSome) S else .bad
  | _, _ => .bad
def opNotInTab (x : Str) (kvs : List (Str × W)) : F2 := fun _ a b S => match a, b with
  | .str z, .cls y => if y = x then .ok (.bl (!(kvs.lookup z).isSome)) S else .bad
  | _, _ => .bad
def opIxTab (x : Str) (kvs : List (Str × W)) : F2 := fun _ b a S => match a, b with
  | .str z, .cls y => if y = x then (match kvs.lookup z with
    | some w => .ok w S
    | none => .bad) else .bad
  | _, _ => .bad
def rInTab (K : PySem.W.Frag) (d : Addr) : R2 := fun x y H Q => ∃ (z : Str) (r : Option Value), x = .str z ∧ y = .ref d ∧ PySem.W.nsIn K d z = some r ∧ Q (.bl r.isSome) H
theorem op_inTab {x : Str} {kvs : List (Str × W)} (T : TabF X.K X.w x kvs) : OpR X (compareOp .In) (rInTab X.K (He.ga X.K x)) := by
  obtain ⟨es, n, D⟩ := T.d
  exact op_in_kd D
theorem sp_inTab {k : Kw} {x : Str} {kvs : List (Str × W)} (T : TabF k.K k.w x kvs) : Sp2 k (rInTab k.K (He.ga k.K x)) (opInTab x kvs) := by
  intro F0 F H rho S s sw a b v u Wx Q t st b1 b2 q
  unfold opInTab at q
  split at q
  · rename_i z y
    split at q
    · rename_i e
      subst e
      cases b1
      cases b2
      have f := T.f z
      cases e : kvs.lookup z with
      | none =>
        rw [e] at f q
        exact ⟨z, none, rfl, rfl, f, q.ok t _ rfl⟩
      | some w =>
        rw [e] at f q
        obtain ⟨u, v, f1, _⟩ := f
        exact ⟨z, some u, rfl, rfl, f1, q.ok t _ rfl⟩
    · exact q.elim
  · exact q.elim
theorem sp_ixTab {k : Kw} {x : Str} {kvs : List (Str × W)} (T : TabF k.K k.w x kvs) : Sp2 k (rIxD k.K k.w) (opIxTab x kvs) := by
  intro F0 F H rho S s sw b a v u Wx Q t st b2 b1 q
  unfold opIxTab at q
  split at q
  · rename_i z y
    split at q
    · rename_i e
      subst e
      cases b1
      cases b2
      have f := T.f z
      cases e : kvs.lookup z with
      | none =>
        rw [e] at q
        exact q.elim
      | some w =>
        rw [e] at f q
        obtain ⟨u, v, f1, f2, f3⟩ := f
        obtain ⟨es, n, D⟩ := T.d
        exact ⟨_, z, v, rfl, rfl, ⟨es, n, u, D.at_, D.lit, f1, f2⟩, q.ok t _ (f3 _ _ _)⟩
    · exact q.elim
  · exact q.elim
theorem ie_ixTab {x : Str} {kvs : List (Str × W)} {a b : Expr} {pos : Pos} {m n : EM} (T : TabF X.K X.w x kvs) (ha : IB X Wx a m) (hb : IB X Wx b n) (hs : PlainIx b) : IE X Wx (.Subscript a b pos) (eOp2 (opIxTab x kvs) m n) := pe_imp (pe_ix ix_kdict ha hb hs) (op2_imp (sp_ixTab T))
/-! ### {} -/
def fDict0 : FM := fun _ S => .ok (.dct [] []) S
theorem if_dict0 {pos : Pos} : IF X Wx (.Dict [] [] pos) fDict0 := by
  refine ⟨fun pins s σ H Q I ⟨F0, F, r, S, sw, t, st, q⟩ => ?_⟩
  have ok : ∀ H', ObjOk X.prog X.w H' (s.heap.push { cls := .type "dict", data := .dict #[] }) s.heap.objs.size (DO s.heap.objs.size []) := fun H' => by
    have g : (s.heap.push { cls := .type "dict", data := .dict #[] }).get? s.heap.objs.size = some { cls := .type "dict", data := .dict #[] } := Heap.get?_push_size _ rfl
    refine ⟨⟨beq_eq_false_iff_ne.mpr (Ne.symm (Nat.ne_of_lt I.big)), Nat.zero_le _, _, #[], 0, g, ⟨rfl, rfl, rfl⟩, rfl, .nil⟩, ⟨_, g⟩, fun h1 h2 ⟨p1, p2, o, ea, ep, g1, g2, g3, g4⟩ k => ⟨p1, p2, o, ea, ep, k _ g1, g2, g3, g4⟩⟩
  have hp : H s.heap.objs.size = none := I.hok.fresh (Nat.le_refl _)
  exact wpAny_Dict_empty ⟨.ref s.heap.objs.size, _, I.laid (a := s.heap.objs.size) (o := DO s.heap.objs.size []) (t' := s.toks) (fun _ _ q => Heap.get?_push_of_some _ q) (Nat.le_refl _) (ok _), rfl,
    q (addF F _) _ r (Ext.newF hp) (t.newF hp) _ hp (.inr rfl) (t.mem_r hp) ⟨[], upd_same, rfl, rfl, [], rfl, .nil, rfl⟩⟩
/-! ### xs.count(x), xs.index(x) -/
def rCountD (K : PySem.W.Frag) : V → List V → Hp → VK → Prop := fun x xs H Q => ∃ (a : Addr) (y : V) (d : PyData) (ds : List PyData), x = V.ref a ∧ xs = [y] ∧ Dp K H (V.ref a) (.list ds) ∧ Dp K H y d ∧
  SeqAt.shaped (.list ds) = true ∧ SeqAt.shaped d = true ∧ Q (.int (ds.countP fun z => PyData.eqv z d : Nat)) H
theorem mt_countD (hu : X.A.units + 65 < cLine) : MtR X "list.count" (rCountD X.K) := by
  intro pins s σ H x xs v us Q I rx rxs h
  obtain ⟨a, y, d, ds, rfl, rfl, hl, hy, sl, sd, q⟩ := h
  cases rx
  obtain ⟨uy, rfl, ry⟩ := rxs.one
  obtain ⟨bs, r1⟩ := Dp.reads I d y uy hy ry
  have hxs : PyData.canLayAll0 ds = true := SeqAt.canLay_of_shaped sl
  have hroom : X.A.units + 1 + min (PyData.depthAll ds) d.depth < cLine := room_in_shaped sd hu
  cases hl with
  | lst hs ha =>
    obtain ⟨its, rv, ⟨⟨cls, dd, data, sls⟩, n, ho, hc, hdn, hdt⟩, hlen⟩ := I.list hs
    simp only at hc hdt
    subst hc hdt
    obtain ⟨as, h4⟩ := Dp.readsAll I ds _ its ha rv
    have hmap : its.map (SeqAt.readOf s.heap) = ds := SeqAt.readsAll_map ds its as hxs h4
    refine call_meets PySem.F.slot_list_count ⟨_, ho, rfl⟩ PySem.F.entry_list_count (PySem.F.args_list_count_2 _ _)
      (SeqAt.list_countAt a its.toArray n dd sls uy (fun u => PyData.eqv (SeqAt.readOf s.heap u) d)) ⟨ho, SeqAt.items_eqAt (vs := its.toArray) (show ReadsAll s.heap its.toArray.toList ds as from h4) r1 hxs (SeqAt.canLay_of_shaped sd) hroom, ?_⟩
    have ec : its.toArray.toList.countP (fun u => PyData.eqv (SeqAt.readOf s.heap u) d) = ds.countP fun z => PyData.eqv z d := by
      rw [← hmap, List.countP_map]
      rfl
    refine ⟨.int _, H, I.tok _, ⟨s.toks, ?_⟩, q⟩
    show Value.int _ _ = Value.int _ _
    rw [ec]
def firstIx (p : PyData → Bool) : List PyData → Option Nat
  | [] => none
  | d :: ds => if p d then some 0 else (firstIx p ds).map (· + 1)
theorem firstIx_some {p : PyData → Bool} : ∀ {ds : List PyData} {j : Nat}, firstIx p ds = some j → (∃ z, ds[j]? = some z ∧ p z = true) ∧ ∀ (m : Nat) (z : PyData), m < j → ds[m]? = some z → p z = false
  | [], _, h => nomatch h
  | d :: ds, j, h => by
    unfold firstIx at h
    split at h
    · rename_i hp
      cases h
      exact ⟨⟨d, rfl, hp⟩, fun m z hm _ => absurd hm (Nat.not_lt_zero _)⟩
    · rename_i hp
      obtain ⟨i, e, rfl⟩ := map_some h
      obtain ⟨⟨z, h1, h2⟩, h3⟩ := firstIx_some e
      refine ⟨⟨z, by simpa using h1, h2⟩, fun m y hm hy => ?_⟩
      cases m with
      | zero =>
        simp at hy
        subst hy
        simpa using hp
      | succ m => exact h3 m y (by omega) (by simpa using hy)
def eMeth (f : List PyData → PyData → Option Int) (m n : EM) : EM := fun sw S => (m sw S).bind fun x S => match cont sw S x with
  | some _ => (n sw S).bind fun y S => match cont sw S x, dat sw S 60 y with
    | some ws, some d => match ws.mapM (dat sw S 60) with
      | some ds => match f ds d with
        | some i => .ok (.int i) S
        | none => .bad
      | none => .bad
    | _, _ => .bad
  | none => .bad
def mCount (ds : List PyData) (d : PyData) : Option Int := some (ds.countP fun z => PyData.eqv z d : Nat)
def mIndex (ds : List PyData) (d : PyData) : Option Int := (firstIx (fun z => PyData.eqv z d) ds).map fun (i : Nat) => (i : Int)
theorem meth_imp {k : Kw} {f : List PyData → PyData → Option Int} {r : V → List V → Hp → VK → Prop} {m n : EM}
    (hr : ∀ (a : Addr) (y : V) (d : PyData) (ds : List PyData) (i : Int) (H : Hp) (Q : VK), Dp k.K H (V.ref a) (.list ds) → Dp k.K H y d → SeqAt.shaped (.list ds) = true → SeqAt.shaped d = true → f ds d = some i → Q (.int i) H → r (.ref a) [y] H Q)
    (s : L2.St) (H : Hp) (Q : VK) (h : tE k Wx (eMeth f m n) s H Q) : tB k Wx m s H fun x H1 => tyV k.K "list" x H1 ∧ tE k Wx n s H1 fun y H2 => r x [y] H2 Q := by
  obtain ⟨F0, F, rh, S, sw, t, st, q⟩ := h
  refine tB_bind t st q fun x v Fa Ha ra Sa xa ta sa ba q => ?_
  split at q
  · rename_i ws0 h0
    obtain ⟨a, vs, rfl, ha, l⟩ := cont_rep ta sa ba h0
    refine ⟨.inl ⟨rfl, vs, SqL.of ha⟩, ?_⟩
    refine tE_bind ta sa q fun y u Fb Hb rb Sb xb tb sb bb q => ?_
    split at q
    · rename_i ws d h1 h2
      split at q
      · rename_i ds h3
        split at q
        · rename_i i h4
          obtain ⟨p1, p2, p3⟩ := dat_rep tb sb 60 y u d (RepB.of bb) h2
          obtain ⟨a', vs', e', ha', l'⟩ := cont_rep tb sb (ba.mv (xb.mv ta.inF)) h1
          cases e'
          obtain ⟨q1, q2, q3⟩ := dats_rep (n := 60) (fun w v d l h => dat_rep tb sb 60 w v d (RepB.of l) h) l' h3
          refine hr a u d ds i Hb Q (.lst (SqL.of ha') q1) p1 (shaped_of (n := 61) (by unfold PyData.canLay0; exact q2) (by unfold PyData.depth; omega) (by decide)) (shaped_of p2 p3 (by decide)) h4 (q.ok tb _ rfl)
        · exact q.elim
      · exact q.elim
    · exact q.elim
  · exact q.elim
theorem ie_count {a b : Expr} {pos apos : Pos} {m n : EM} (hu : X.A.units + 65 < cLine) (ha : IB X Wx a m) (hb : IE X Wx b n) (hbase : attributeBase a "count" X.env (eval a X.env) = eval a X.env := by rfl)
    (hfew : ((backTo pos (starEach [b] X.env)).all (fun x => !x.1) && (backToKw pos (keywordEach [] X.env)).all (fun x => x.1.isSome)
      && decide ([b].length + ([] : List Keyword).length + (if ([] : List Keyword).isEmpty then 0 else 1) < 30)) = true := by rfl)
    (hline : (apos.endLine == pos.line) = true := by rfl) (hs : starEach [b] X.env = (false, eval b X.env) :: starEach [] X.env := by rfl) :
    IE X Wx (.Call (.Attribute a "count" apos) [b] [] pos) (eMeth mCount m n) :=
  pe_imp (pe_bm PySem.F.plainAttrs_list PySem.F.slot_list_count (by show builtinType _ = _; rw [builtinType_eq_fast]; kernel_rfl) (mt_countD hu) ha (pa_cons hb pa_nil hs) hbase hfew hline hs) fun s H Q h =>
    meth_imp (r := rCountD X.K) (fun a y d ds i H Q h1 h2 h3 h4 h5 q => ⟨a, y, d, ds, rfl, rfl, h1, h2, h3, h4, by cases h5; exact q⟩) s H Q h
theorem ie_index {a b : Expr} {pos apos : Pos} {m n : EM} (hu : X.A.units + 65 < cLine) (ha : IB X Wx a m) (hb : IE X Wx b n) (hbase : attributeBase a "index" X.env (eval a X.env) = eval a X.env := by rfl)
    (hfew : ((backTo pos (starEach [b] X.env)).all (fun x => !x.1) && (backToKw pos (keywordEach [] X.env)).all (fun x => x.1.isSome)
      && decide ([b].length + ([] : List Keyword).length + (if ([] : List Keyword).isEmpty then 0 else 1) < 30)) = true := by rfl)
    (hline : (apos.endLine == pos.line) = true := by rfl) (hs : starEach [b] X.env = (false, eval b X.env) :: starEach [] X.env := by rfl) :
    IE X Wx (.Call (.Attribute a "index" apos) [b] [] pos) (eMeth mIndex m n) :=
  pe_imp (pe_bm PySem.F.plainAttrs_list PySem.F.slot_list_index (by show builtinType _ = _; rw [builtinType_eq_fast]; kernel_rfl) (mt_indexD hu) ha (pa_cons hb pa_nil hs) hbase hfew hline hs) fun s H Q h =>
    meth_imp (r := rIndexD X.K) (fun a y d ds i H Q h1 h2 h3 h4 h5 q => by
      obtain ⟨j, e, rfl⟩ := map_some h5
      obtain ⟨⟨z, e1, e2⟩, e3⟩ := firstIx_some e
      exact ⟨a, y, d, ds, j, z, rfl, rfl, h1, h2, h3, h4, e1, e2, e3, q⟩) s H Q h
end
end ML
set_option Elab.async false
set_option linter.all false
set_option maxRecDepth 100000
set_option maxHeartbeats 4000000
namespace ML
open PySem PySem.Spec PyProof.Rows L2
section
variable {X : Cx} {Wx : WX}
/-! ### a walk over a tuple, a list or a text -/
def iAny (K : PySem.W.Frag) (tl : TE) : TI := fun σ H R => tl σ H fun x H1 => (∃ z, x = .str z ∧ R (Its z) H1) ∨ ∃ a, x = .ref a ∧ (((∃ xs, SqL K H1 a xs) ∧ R (Itl K a) H1) ∨ ((∃ xs, SqT K H1 a xs) ∧ R (Itt K a) H1))
theorem pi_any {tg l : Expr} {tl : TE} (hl : PE X l tl) : PI X tg l (iAny X.K tl) := by
  refine ⟨fun pins s σ H R I h => ?_⟩
  refine thn (hl.run pins s σ H _ I h) fun v s1 ⟨x, H1, I1, r1, q1⟩ => ?_
  rcases q1 with ⟨z, e, q⟩ | ⟨a, e, q1⟩
  · subst e
    obtain ⟨t, rfl⟩ := r1
    cases ha : z.cps.all (· < 128)
    · exact wpAny_pyIter_wide ha (pi_one (tk := s1.toks) I1 _ (turn_str _ z t "str_iterator" (.inr rfl)) ⟨_, Heap.get?_push_size _ rfl, rfl, rfl⟩ q)
    · exact wpAny_pyIter_ascii ha (pi_one (tk := s1.toks) I1 _ (turn_str _ z t "str_ascii_iterator" (.inl rfl)) ⟨_, Heap.get?_push_size _ rfl, rfl, rfl⟩ q)
  · subst e
    cases r1
    rcases q1 with ⟨⟨xs, hq⟩, q⟩ | ⟨⟨xs, hq⟩, q⟩
    · obtain ⟨its, rv, p, hz⟩ := I1.list hq
      exact wpAny_pyIter_list p.isList (pi_one (tk := s1.toks) I1 _ (turn_list a _) ⟨_, Heap.get?_push_size _ rfl, rfl, rfl⟩ q)
    · obtain ⟨its, rv, p, hz⟩ := I1.tuple hq
      exact wpAny_pyIter_tuple (show s1.heap.IsTuple a its.toArray from p) (pi_one (tk := s1.toks) I1 _ (turn_tuple a _) ⟨_, Heap.get?_push_size _ rfl, rfl, rfl⟩ q)
def iX (m : EM) : IM := fun sw S => (m sw S).bind fun w S => match w with
  | .tup ws => .ok ws S
  | .lst ws => .ok ws S
  | .str x => .ok (x.cps.toList.map fun c => W.str ⟨#[c]⟩) S
  | _ => .bad
theorem ii_x {tg e : Expr} {m : EM} (h : IE X Wx e m) : II X Wx tg e (iX m) := by
  refine pi_imp (pi_any h) fun s H R ⟨F0, F, r, S, sw, t, st, q⟩ => ?_
  refine tE_bind t st q fun w v Fa Ha ra Sa xa ta sa ba q => ?_
  cases w with
  | tup ws =>
    obtain ⟨a, vs, rfl, hq, l⟩ := ba
    exact .inr ⟨a, rfl, .inr ⟨⟨vs, by rcases hq with ⟨z, _⟩ | z; exact .inl (.inl z); exact .inr z⟩, q.ok ta _ (Itt_ok hq l)⟩⟩
  | lst ws =>
    obtain ⟨a, vs, rfl, hq, l⟩ := ba
    exact .inr ⟨a, rfl, .inl ⟨⟨vs, SqL.of hq.1⟩, q.ok ta _ (Itl_ok hq l)⟩⟩
  | str x =>
    cases ba
    exact .inl ⟨x, rfl, q.ok ta _ Its_ok⟩
  | _ => exact q.elim
end
end ML
set_option Elab.async false
set_option linter.all false
set_option maxRecDepth 100000
set_option maxHeartbeats 4000000
namespace ML
open PySem PySem.Spec PyProof.Rows L2
/-! ### the end: what the law's def does of a script -/
theorem walk_end {l : PySem.W.OpenLaw} {n k : Nat} {q : Program} {loose : List Str} {XP : (Str → Option Value) → Heap → Prop} {YP : World → Heap → Prop} {d : DefRec} {x : Str}
    (hn : l.most = some n) (hn2 : n ≤ sizeLine) (hdf : d.params.defaults = []) (hr : Room k callerA) {g : List W → Store → Res RV}
    (hg : ∀ ns : List Int, ns.length ≤ n → (∀ z ∈ ns, Builtin.Int.intBits z ≤ 1048576) → ∃ S, g [.scr ns] [] = .ok (.val (.bl true)) S)
    (F : ∀ (w : World) (mg : Str → Option Value) (fa : Addr) (h : Heap), YP w h → h.Ns mainGlobals mg → mg d.name = some (.ref fa) →
      ∃ (K : PySem.W.Frag) (fd : FuncData), K.In h ∧ (∀ (s : Shared) (u : Value), BindsTo s fd ⟨[u], []⟩ [(x, u)]) ∧
        ∀ base : Heap, K.In base → base.Ns mainGlobals mg → FnOk l.prog w K mg base (L2.CX l.prog w) k fa fd [x] (spOf ⟨K, w⟩ 1 g)) :
    PySem.W.WalkO q loose XP YP l.row.toRowW d [] (fun f vs => PySem.call f vs) := by
  refine Att.attach_callB hn hdf fun w s₀ s₁ mg mb fa o pm cd doc a vs ns G Y ho hd hcd hmg hobj hints hlen hbits hgn => ?_
  obtain ⟨K, fd, KX, hb, hF⟩ := F w mg fa _ Y G.T.g hmg
  refine law_call KX G.T.g G.T.b G.T.builtins G.T.nolimit hgn hobj hints (Nat.le_trans hlen hn2) hr hF hb (fun H hO hS => ?_) fun H e s' c => ?_
  · obtain ⟨S, e⟩ := hg ns hlen hbits
    refine ⟨rfl, fun _ => False, [], [], [.scr ns], ⟨rfl, .nil, (fun a h => nomatch h), (fun a h => nomatch h), (fun n o a h => nomatch h)⟩, ⟨.ref a, [], rfl, ⟨a, rfl, ?_⟩, rfl⟩, ?_⟩
    · rcases hS with h | h
      · exact .inl ⟨h, fun z => z⟩
      · exact .inr h
    · rw [e]
      exact fun F' H' r' _ _ v rv => rv
  · obtain ⟨_, _, _, _, _, _, _, _, _, _, _, _, z⟩ := c
    exact z
end ML
set_option Elab.async false
set_option linter.all false
set_option maxRecDepth 100000
set_option maxHeartbeats 4000000
namespace ML
open PySem PySem.Spec PyProof.Rows L2
/-! ### list(zip(a, b, strict=True)) -/
abbrev IsZipS (h : Heap) (z TI TO : Addr) (f0 f1 : Value) : Prop :=
  h.get? z = some { cls := .type "zip", dict := none, data := .fields #[f0, f1, .bool true, .ref TI, .ref TO], slots := #[] }
section
variable {prog : Program} {w : World} {A : Around} {E : Value → Shared → Prop} {s : Shared}
theorem wp_alive {a : Addr} {Q : Option Obj → Shared → Prop} (h : Q (s.heap.get? a) s) : wpAny (model prog w) A (loadIfAlive a) Q E s := fun Γ p hΓ => h
theorem nextOrEnd_item {it l : Addr} {i : Nat} {items : Array Value} {x : Value} {Q : Option Value → Shared → Prop} (hit : s.heap.IsListIter it l i) (hl : s.heap.IsList l items) (hx : items[i]? = some x)
    (hQ : ∀ h', h'.IsListIter it l (i + 1) → Heap.SameBut it s.heap h' → Q (some x) { s with heap := h' }) : wpAny (model prog w) A (Builtin.SmallTypes.nextOrEnd (.ref it)) Q E s := by
  unfold Builtin.SmallTypes.nextOrEnd
  exact wpAny_bind (wpAny_attempt (wpAny_nextOf_list_item hit hl hx fun h' h1 h2 => wpAny_pure (hQ h' h1 h2)))
theorem nextOrEnd_end {it l : Addr} {i : Nat} {items : Array Value} {Q : Option Value → Shared → Prop} (hh : A.handled = none) (hit : s.heap.IsListIter it l i) (hl : s.heap.IsList l items) (hx : items[i]? = none)
    (hQ : ∀ h', Heap.ExtBut it s.heap h' → Q none { s with heap := h' }) : wpAny (model prog w) A (Builtin.SmallTypes.nextOrEnd (.ref it)) Q E s := by
  unfold Builtin.SmallTypes.nextOrEnd
  refine wpAny_bind (wpAny_attempt (wpAny_nextOf_list_end hh hit hl hx fun h' e h1 he => ?_))
  obtain ⟨o, ho, hc⟩ := he
  exact wpAny_bind (wpAny_isInstance (T := "StopIteration") (b := true) ⟨o, ho, hc⟩ isSubtype_stop (wpAny_pure (hQ h' h1)))
theorem stop_new {α : Type} {Q : α → Shared → Prop} (hh : A.handled = none)
    (hE : ∀ h' e, (∀ c o, s.heap.get? c = some o → h'.get? c = some o) → (∃ o, h'.get? e = some o ∧ o.cls = .type "StopIteration") → E (.ref e) { s with heap := h' }) :
    wpAny (model prog w) A (Builtin.SmallTypes.stopIteration : Sem α) Q E s := by
  unfold Builtin.SmallTypes.stopIteration
  refine wpAny_bind ?_
  simp only [newExc, newTuple]
  refine wpAny_bind (wpAny_newObj_type ?_ (by size_fits))
  refine wpAny_bind (m := firstArgMember _ _) (wpAny_of_eq (a := Value.none) (by first | rfl | (simp only [firstArgMember]; rfl)) ?_)
  refine wpAny_newObj_type ?_ (by size_fits)
  simp only [raiseNew]
  refine wpAny_bind (wpAny_handled ?_)
  rw [hh]
  refine wpAny_bind (wpAny_pure (wpAny_throw ?_))
  exact hE _ _ (fun c o e => Heap.get?_push_of_some _ (Heap.get?_push_of_some _ e)) ⟨_, Heap.get?_push_size _ rfl, rfl⟩
/-- where the walk stands -/
structure ZSt (xs ys : Array Value) (z TI TO i1 i2 l1 l2 S : Addr) (k : Nat) (h : Heap) : Prop where
  hz : (∃ f1, IsZipS h z TI TO .none f1) ∨ ∃ T f1 o, IsZipS h z TI TO (rawInt (T : Nat)) f1 ∧ h.get? T = some o ∧ T ≠ z ∧ T ≠ TO ∧ T ≠ i1 ∧ T ≠ i2 ∧ T ≠ S
  hTI : IsPair h TI (.ref i1) (.ref i2)
  hTO : ∃ a b, IsPair h TO a b
  h1 : h.IsListIter i1 l1 k
  h2 : h.IsListIter i2 l2 k
  hl1 : h.IsList l1 xs
  hl2 : h.IsList l2 ys
variable {xs ys : Array Value} {z TI TO i1 i2 l1 l2 S : Addr} {k : Nat}
theorem ZSt.but {h h' : Heap} (Z : ZSt xs ys z TI TO i1 i2 l1 l2 S k h) (nz : S ≠ z) (nTI : S ≠ TI) (nTO : S ≠ TO) (n1 : S ≠ i1) (n2 : S ≠ i2) (nl1 : S ≠ l1) (nl2 : S ≠ l2) (kp : ∀ c o, c ≠ S → h.get? c = some o → h'.get? c = some o) : ZSt xs ys z TI TO i1 i2 l1 l2 S k h' := by
  obtain ⟨hz, hTI, ⟨a, b, hTO⟩, h1, h2, hl1, hl2⟩ := Z
  refine ⟨?_, kp _ _ nTI.symm hTI, ⟨a, b, kp _ _ nTO.symm hTO⟩, h1.at fun o e => kp _ o n1.symm e, h2.at fun o e => kp _ o n2.symm e, hl1.at fun o e => kp _ o nl1.symm e, hl2.at fun o e => kp _ o nl2.symm e⟩
  rcases hz with ⟨f1, hz⟩ | ⟨T, f1, o, hz, hT, r1, r2, r3, r4, r5⟩
  · exact .inl ⟨f1, kp _ _ nz.symm hz⟩
  · exact .inr ⟨T, f1, o, kp _ _ nz.symm hz, kp _ _ r5 hT, r1, r2, r3, r4, r5⟩
theorem zipS_item {x y : Value} {Q : Value → Shared → Prop} (hS : ∃ o, s.heap.get? S = some o) (D : ZipApart z TI TO i1 i2 l1 l2) (Z : ZSt xs ys z TI TO i1 i2 l1 l2 S k s.heap) (hx : xs[k]? = some x) (hy : ys[k]? = some y)
    (hQ : ∀ h', ZSt xs ys z TI TO i1 i2 l1 l2 S (k + 1) h' → IsPair h' s.heap.objs.size x y → (∀ c o, c ≠ z → c ≠ TO → c ≠ i1 → c ≠ i2 → s.heap.get? c = some o → h'.get? c = some o) → Q (.ref s.heap.objs.size) { s with heap := h' }) :
    wpAny (model prog w) A (Builtin.«zip.__next__» ⟨[.ref z], []⟩) (fun fin s' => ∃ v, fin = .done (.ret v) ∧ Q v s') E s := by
  obtain ⟨hz, hTI, ⟨a, b, hTO⟩, h1, h2, hl1, hl2⟩ := Z
  rcases hz with ⟨f1, hz⟩ | ⟨T, f1, oT, hz, hT, nz, nTO, n1, n2, nS⟩
  · show wpAny _ _ (field (.ref z) 2 >>= _) _ _ _
    refine wpAny_bind (wpAny_field hz rfl (x := .bool true) rfl ?_)
    show wpAny _ _ (field (.ref z) 3 >>= _) _ _ _
    refine wpAny_bind (wpAny_field hz rfl (x := .ref TI) rfl ?_)
    refine wpAny_bind (wpAny_seqItems hTI rfl ?_)
    show wpAny _ _ (Builtin.SmallTypes.ownedTupleIsFree (.ref z) >>= _) _ _ _
    refine wpAny_bind ?_
    unfold Builtin.SmallTypes.ownedTupleIsFree
    refine wpAny_bind (wpAny_field hz rfl (x := .none) rfl (wpAny_pure ?_))
    simp only [if_true]
    refine wpAny_bind (wpAny_rule ?_)
    refine wpAny_bind (wpAny_field hz rfl (x := .ref TO) rfl ?_)
    refine wpAny_bind (wpAny_setField_rec hz (by simp) fun h₁ hz₁ hs₁ => ?_)
    replace hz₁ : IsZipS h₁ z TI TO .ellipsis f1 := hz₁
    refine wpAny_bind ?_
    simp only [List.zipIdx_cons, List.zipIdx_nil, List.forIn_cons, List.forIn_nil]
    refine wpAny_bind (wpAny_bind (wpAny_onRaise ?_))
    show wpAny _ _ (Builtin.SmallTypes.nextOrEnd (.ref i1)) _ _ _
    refine nextOrEnd_item (h1.extBut hs₁.extBut D.i1z) (hl1.extBut hs₁.extBut D.l1z) hx fun h₂ h1₂ hs₂ => ?_
    have hTO₂ : IsPair h₂ TO a b := hs₂.extBut _ _ D.TOi1 (hs₁.extBut _ _ D.TOz hTO)
    refine wpAny_bind (wpAny_seqItems hTO₂ rfl ?_)
    refine wpAny_bind (wpAny_updateSeq_pair hTO₂ fun h₃ hTO₃ hs₃ => ?_)
    replace hTO₃ : IsPair h₃ TO x b := hTO₃
    refine wpAny_bind (wpAny_letGo (wpAny_pure ?_))
    refine wpAny_bind (wpAny_bind (wpAny_onRaise ?_))
    show wpAny _ _ (Builtin.SmallTypes.nextOrEnd (.ref i2)) _ _ _
    refine nextOrEnd_item (((h2.extBut hs₁.extBut D.i2z).extBut hs₂.extBut D.i12.symm).extBut hs₃.extBut D.TOi2.symm)
      (((hl2.extBut hs₁.extBut D.l2z).extBut hs₂.extBut D.l2i1).extBut hs₃.extBut D.l2TO) hy fun h₄ h2₄ hs₄ => ?_
    have hTO₄ : IsPair h₄ TO x b := hs₄.extBut _ _ D.TOi2 hTO₃
    refine wpAny_bind (wpAny_seqItems hTO₄ rfl ?_)
    refine wpAny_bind (wpAny_updateSeq_pair hTO₄ fun h₅ hTO₅ hs₅ => ?_)
    replace hTO₅ : IsPair h₅ TO x y := hTO₅
    refine wpAny_bind (wpAny_letGo (wpAny_pure (wpAny_pure ?_)))
    refine wpAny_bind (wpAny_seqItems hTO₅ rfl ?_)
    refine wpAny_bind (wpAny_newTuple ?_)
    have hsz : h₅.objs.size = s.heap.objs.size := by rw [hs₅.1, hs₄.1, hs₃.1, hs₂.1, hs₁.1]
    have hz₅ : IsZipS h₅ z TI TO .ellipsis f1 := hs₅.extBut _ _ D.TOz.symm (hs₄.extBut _ _ D.i2z.symm (hs₃.extBut _ _ D.TOz.symm (hs₂.extBut _ _ D.i1z.symm hz₁)))
    have hk₅ : ∀ c o, c ≠ z → c ≠ TO → c ≠ i1 → c ≠ i2 → s.heap.get? c = some o → h₅.get? c = some o := fun c o c1 c2 c3 c4 e =>
      hs₅.extBut _ _ c2 (hs₄.extBut _ _ c4 (hs₃.extBut _ _ c2 (hs₂.extBut _ _ c3 (hs₁.extBut _ _ c1 e))))
    have h1₅ : h₅.IsListIter i1 l1 (k + 1) := ((h1₂.extBut hs₃.extBut D.TOi1.symm).extBut hs₄.extBut D.i12).extBut hs₅.extBut D.TOi1.symm
    have h2₅ : h₅.IsListIter i2 l2 (k + 1) := h2₄.extBut hs₅.extBut D.TOi2.symm
    have hzlt : z < h₅.objs.size := Heap.lt_size hz₅
    show wpAny _ _ (Builtin.SmallTypes.ownedTupleHandOut (.ref z) (.ref h₅.objs.size) >>= _) _ _ _
    refine wpAny_bind ?_
    unfold Builtin.SmallTypes.ownedTupleHandOut
    have hz₆ : IsZipS (h₅.push { cls := .type "tuple", data := .seq #[x, y] }) z TI TO .ellipsis f1 := Heap.get?_push_of_some _ hz₅
    refine wpAny_bind (wpAny_setField_rec hz₆ (by simp) fun h₇ hz₇ hs₇ => ?_)
    replace hz₇ : IsZipS h₇ z TI TO (rawInt h₅.objs.size) f1 := hz₇
    refine wpAny_setField_rec hz₇ (by simp) fun h₈ hz₈ hs₈ => ?_
    replace hz₈ : IsZipS h₈ z TI TO (rawInt h₅.objs.size) (.bool false) := hz₈
    have up : ∀ c o, c ≠ z → h₅.get? c = some o → h₈.get? c = some o := fun c o c1 e => hs₈.extBut _ _ c1 (hs₇.extBut _ _ c1 (Heap.get?_push_of_some _ e))
    have hT₈ : IsPair h₈ h₅.objs.size x y := hs₈.extBut _ _ (Nat.ne_of_gt hzlt) (hs₇.extBut _ _ (Nat.ne_of_gt hzlt) (Heap.get?_push_size _ rfl))
    have lt : ∀ {c o}, h₅.get? c = some o → h₅.objs.size ≠ c := fun e => Nat.ne_of_gt (Heap.lt_size e)
    refine wpAny_pure ⟨_, rfl, ?_⟩
    show Q (.ref h₅.objs.size) _
    have ZZ : ZSt xs ys z TI TO i1 i2 l1 l2 S (k + 1) h₈ := ⟨.inr ⟨h₅.objs.size, _, _, hz₈, hT₈, lt hz₅, lt hTO₅, (by obtain ⟨_, e, _⟩ := h1₅; exact lt e), (by obtain ⟨_, e, _⟩ := h2₅; exact lt e), (by obtain ⟨_, e⟩ := hS; rw [hsz]; exact Nat.ne_of_gt (Heap.lt_size e))⟩,
      up _ _ D.TIz (hk₅ _ _ D.TIz D.TITO D.TIi1 D.TIi2 hTI), ⟨_, _, up _ _ D.TOz hTO₅⟩, h1₅.at fun o e => up _ o D.i1z e, h2₅.at fun o e => up _ o D.i2z e,
      hl1.at fun o e => up _ o D.l1z (hk₅ _ _ D.l1z D.l1TO D.l1i1 D.l1i2 e), hl2.at fun o e => up _ o D.l2z (hk₅ _ _ D.l2z D.l2TO D.l2i1 D.l2i2 e)⟩
    rw [hsz] at hT₈ ⊢
    exact hQ h₈ ZZ hT₈ fun c o c1 c2 c3 c4 e => up c o c1 (hk₅ c o c1 c2 c3 c4 e)
  · show wpAny _ _ (field (.ref z) 2 >>= _) _ _ _
    refine wpAny_bind (wpAny_field hz rfl (x := .bool true) rfl ?_)
    show wpAny _ _ (field (.ref z) 3 >>= _) _ _ _
    refine wpAny_bind (wpAny_field hz rfl (x := .ref TI) rfl ?_)
    refine wpAny_bind (wpAny_seqItems hTI rfl ?_)
    show wpAny _ _ (Builtin.SmallTypes.ownedTupleIsFree (.ref z) >>= _) _ _ _
    refine wpAny_bind ?_
    unfold Builtin.SmallTypes.ownedTupleIsFree
    refine wpAny_bind (wpAny_field hz rfl (x := rawInt (T : Nat)) rfl ?_)
    show wpAny _ _ (loadIfAlive ((T : Nat) : Int).toNat >>= _) _ _ _
    refine wpAny_bind (wp_alive ?_)
    rw [show ((T : Nat) : Int).toNat = T from rfl, hT]
    simp only [Option.isNone_some, Bool.false_eq_true, if_false]
    refine wpAny_bind (wpAny_field hz rfl (x := f1) rfl ?_)
    refine wpAny_mono (Q := fun a s' => a = false ∧ ∃ h₁ f1', s' = { s with heap := h₁ } ∧ IsZipS h₁ z TI TO (rawInt (T : Nat)) f1' ∧ (∀ c o, c ≠ z → s.heap.get? c = some o → h₁.get? c = some o) ∧ h₁.objs.size = s.heap.objs.size) ?_ (fun a s' hq => ?_) fun _ _ h => h
    · split
      · exact wpAny_bind (wpAny_setField_rec hz (by simp) fun h₁ hz₁ hs₁ => wpAny_pure ⟨rfl, h₁, _, rfl, hz₁, fun c o c1 e => hs₁.extBut _ _ c1 e, hs₁.1⟩)
      · exact wpAny_pure ⟨rfl, s.heap, f1, rfl, hz, fun _ _ _ e => e, rfl⟩
    obtain ⟨rfl, h₁, f1', rfl, hz₁, k₁, sz₁⟩ := hq
    simp only [Bool.false_eq_true, if_false]
    have e1 : ∀ {B : Type} {b : B} {f : Value → B → Sem (ForInStep B)}, forIn #[Value.ref i1, Value.ref i2] b f = forIn [Value.ref i1, Value.ref i2] b f := fun {B b f} => by
      rw [← List.forIn_toArray]
    refine wpAny_bind ?_
    rw [e1]
    simp only [List.forIn_cons, List.forIn_nil]
    refine wpAny_bind (wpAny_bind (wpAny_holding ?_))
    show wpAny _ _ (Builtin.SmallTypes.nextOrEnd (.ref i1)) _ _ _
    refine nextOrEnd_item (s := { s with heap := h₁ }) (h1.at fun o e => k₁ _ o D.i1z e) (hl1.at fun o e => k₁ _ o D.l1z e) hx fun h₂ h1₂ hs₂ => wpAny_pure ?_
    refine wpAny_bind (wpAny_bind (wpAny_holding ?_))
    show wpAny _ _ (Builtin.SmallTypes.nextOrEnd (.ref i2)) _ _ _
    refine nextOrEnd_item (s := { s with heap := h₂ }) ((h2.at fun o e => k₁ _ o D.i2z e).extBut hs₂.extBut D.i12.symm) ((hl2.at fun o e => k₁ _ o D.l2z e).extBut hs₂.extBut D.l2i1) hy fun h₃ h2₃ hs₃ => wpAny_pure (wpAny_pure ?_)
    show wpAny _ _ (newTuple [x, y] >>= _) _ _ _
    refine wpAny_bind (wpAny_newTuple (wpAny_pure ⟨_, rfl, ?_⟩))
    show Q (.ref h₃.objs.size) _
    have hsz : h₃.objs.size = s.heap.objs.size := by rw [hs₃.1, hs₂.1, sz₁]
    have k₃ : ∀ c o, c ≠ z → c ≠ i1 → c ≠ i2 → s.heap.get? c = some o → h₃.get? c = some o := fun c o c1 c2 c3 e => hs₃.extBut _ _ c3 (hs₂.extBut _ _ c2 (k₁ c o c1 e))
    have up : ∀ c o, h₃.get? c = some o → (h₃.push { cls := .type "tuple", data := .seq #[x, y] }).get? c = some o := fun c o e => Heap.get?_push_of_some _ e
    have ZZ : ZSt xs ys z TI TO i1 i2 l1 l2 S (k + 1) (h₃.push { cls := .type "tuple", data := .seq #[x, y] }) := ⟨.inr ⟨T, _, _, up _ _ (hs₃.extBut _ _ D.i2z.symm (hs₂.extBut _ _ D.i1z.symm hz₁)), up _ _ (k₃ _ _ nz n1 n2 hT), nz, nTO, n1, n2, nS⟩,
      up _ _ (k₃ _ _ D.TIz D.TIi1 D.TIi2 hTI), ⟨_, _, up _ _ (k₃ _ _ D.TOz D.TOi1 D.TOi2 hTO)⟩, (h1₂.extBut hs₃.extBut D.i12).at fun o e => up _ o e, h2₃.at fun o e => up _ o e,
      hl1.at fun o e => up _ o (k₃ _ _ D.l1z D.l1i1 D.l1i2 e), hl2.at fun o e => up _ o (k₃ _ _ D.l2z D.l2i1 D.l2i2 e)⟩
    have hP : IsPair (h₃.push { cls := .type "tuple", data := .seq #[x, y] }) h₃.objs.size x y := Heap.get?_push_size _ rfl
    rw [hsz] at hP ⊢
    exact hQ _ ZZ hP fun c o c1 _ c3 c4 e => up c o (k₃ c o c1 c3 c4 e)
theorem zipS_end {Q : Fin → Shared → Prop} (hh : A.handled = none) (D : ZipApart z TI TO i1 i2 l1 l2) (Z : ZSt xs ys z TI TO i1 i2 l1 l2 S k s.heap) (hx : xs[k]? = none) (hy : ys[k]? = none)
    (hE : ∀ h' e, (∀ c o, c ≠ z → c ≠ TO → c ≠ i1 → c ≠ i2 → s.heap.get? c = some o → h'.get? c = some o) → (∃ o, h'.get? e = some o ∧ o.cls = .type "StopIteration") → E (.ref e) { s with heap := h' }) :
    wpAny (model prog w) A (Builtin.«zip.__next__» ⟨[.ref z], []⟩) Q E s := by
  obtain ⟨hz, hTI, ⟨a, b, hTO⟩, h1, h2, hl1, hl2⟩ := Z
  rcases hz with ⟨f1, hz⟩ | ⟨T, f1, oT, hz, hT, nz, nTO, n1, n2, nS⟩
  · show wpAny _ _ (field (.ref z) 2 >>= _) _ _ _
    refine wpAny_bind (wpAny_field hz rfl (x := .bool true) rfl ?_)
    show wpAny _ _ (field (.ref z) 3 >>= _) _ _ _
    refine wpAny_bind (wpAny_field hz rfl (x := .ref TI) rfl ?_)
    refine wpAny_bind (wpAny_seqItems hTI rfl ?_)
    show wpAny _ _ (Builtin.SmallTypes.ownedTupleIsFree (.ref z) >>= _) _ _ _
    refine wpAny_bind ?_
    unfold Builtin.SmallTypes.ownedTupleIsFree
    refine wpAny_bind (wpAny_field hz rfl (x := .none) rfl (wpAny_pure ?_))
    simp only [if_true]
    refine wpAny_bind (wpAny_rule ?_)
    refine wpAny_bind (wpAny_field hz rfl (x := .ref TO) rfl ?_)
    refine wpAny_bind (wpAny_setField_rec hz (by simp) fun h₁ hz₁ hs₁ => ?_)
    replace hz₁ : IsZipS h₁ z TI TO .ellipsis f1 := hz₁
    refine wpAny_bind ?_
    simp only [List.zipIdx_cons, List.zipIdx_nil, List.forIn_cons, List.forIn_nil]
    refine wpAny_bind (wpAny_bind (wpAny_onRaise ?_))
    show wpAny _ _ (Builtin.SmallTypes.nextOrEnd (.ref i1)) _ _ _
    refine nextOrEnd_end hh (h1.extBut hs₁.extBut D.i1z) (hl1.extBut hs₁.extBut D.l1z) hx fun h₂ hs₂ => ?_
    refine wpAny_bind (wpAny_setField_rec (hs₂ _ _ D.i1z.symm hz₁) (by simp) fun h₃ hz₃ hs₃ => ?_)
    have k₃ : ∀ c o, c ≠ z → c ≠ i1 → s.heap.get? c = some o → h₃.get? c = some o := fun c o c1 c2 e => hs₃.extBut _ _ c1 (hs₂ _ _ c2 (hs₁.extBut _ _ c1 e))
    refine wpAny_bind ?_
    show wpAny _ _ (forIn [(Value.ref i2, 1)] PUnit.unit _ >>= _) _ _ _
    refine wpAny_bind ?_
    simp only [List.forIn_cons, List.forIn_nil]
    refine wpAny_bind (wpAny_bind ?_)
    refine nextOrEnd_end (s := { s with heap := h₃ }) hh (h2.at fun o e => k₃ _ o D.i2z D.i12.symm e) (hl2.at fun o e => k₃ _ o D.l2z D.l2i1 e) hy fun h₄ hs₄ => ?_
    simp only [Option.isSome_none, Bool.false_eq_true, if_false]
    refine wpAny_pure (wpAny_pure (wpAny_bind (wpAny_rule (stop_new (s := { s with heap := h₄ }) hh fun h₅ e k₅ he => ?_))))
    exact hE h₅ e (fun c o c1 _ c3 c4 q => k₅ c o (hs₄ _ _ c4 (k₃ c o c1 c3 q))) he
  · show wpAny _ _ (field (.ref z) 2 >>= _) _ _ _
    refine wpAny_bind (wpAny_field hz rfl (x := .bool true) rfl ?_)
    show wpAny _ _ (field (.ref z) 3 >>= _) _ _ _
    refine wpAny_bind (wpAny_field hz rfl (x := .ref TI) rfl ?_)
    refine wpAny_bind (wpAny_seqItems hTI rfl ?_)
    show wpAny _ _ (Builtin.SmallTypes.ownedTupleIsFree (.ref z) >>= _) _ _ _
    refine wpAny_bind ?_
    unfold Builtin.SmallTypes.ownedTupleIsFree
    refine wpAny_bind (wpAny_field hz rfl (x := rawInt (T : Nat)) rfl ?_)
    show wpAny _ _ (loadIfAlive ((T : Nat) : Int).toNat >>= _) _ _ _
    refine wpAny_bind (wp_alive ?_)
    rw [show ((T : Nat) : Int).toNat = T from rfl, hT]
    simp only [Option.isNone_some, Bool.false_eq_true, if_false]
    refine wpAny_bind (wpAny_field hz rfl (x := f1) rfl ?_)
    refine wpAny_mono (Q := fun a s' => a = false ∧ ∃ h₁ f1', s' = { s with heap := h₁ } ∧ IsZipS h₁ z TI TO (rawInt (T : Nat)) f1' ∧ (∀ c o, c ≠ z → s.heap.get? c = some o → h₁.get? c = some o) ∧ h₁.objs.size = s.heap.objs.size) ?_ (fun a s' hq => ?_) fun _ _ h => h
    · split
      · exact wpAny_bind (wpAny_setField_rec hz (by simp) fun h₁ hz₁ hs₁ => wpAny_pure ⟨rfl, h₁, _, rfl, hz₁, fun c o c1 e => hs₁.extBut _ _ c1 e, hs₁.1⟩)
      · exact wpAny_pure ⟨rfl, s.heap, f1, rfl, hz, fun _ _ _ e => e, rfl⟩
    obtain ⟨rfl, h₁, f1', rfl, hz₁, k₁, sz₁⟩ := hq
    simp only [Bool.false_eq_true, if_false]
    have e1 : ∀ {B : Type} {b : B} {f : Value → B → Sem (ForInStep B)}, forIn #[Value.ref i1, Value.ref i2] b f = forIn [Value.ref i1, Value.ref i2] b f := fun {B b f} => by
      rw [← List.forIn_toArray]
    refine wpAny_bind ?_
    rw [e1]
    simp only [List.forIn_cons, List.forIn_nil]
    refine wpAny_bind (wpAny_bind (wpAny_holding ?_))
    show wpAny _ _ (Builtin.SmallTypes.nextOrEnd (.ref i1)) _ _ _
    refine nextOrEnd_end (s := { s with heap := h₁ }) hh (h1.at fun o e => k₁ _ o D.i1z e) (hl1.at fun o e => k₁ _ o D.l1z e) hx fun h₃ hs₂ => ?_
    have k₃ : ∀ c o, c ≠ z → c ≠ i1 → s.heap.get? c = some o → h₃.get? c = some o := fun c o c1 c2 e => hs₂ _ _ c2 (k₁ c o c1 e)
    refine wpAny_bind ?_
    show wpAny _ _ (forIn [(Value.ref i2, 1)] PUnit.unit _ >>= _) _ _ _
    refine wpAny_bind ?_
    simp only [List.forIn_cons, List.forIn_nil]
    refine wpAny_bind (wpAny_bind ?_)
    refine nextOrEnd_end (s := { s with heap := h₃ }) hh (h2.at fun o e => k₃ _ o D.i2z D.i12.symm e) (hl2.at fun o e => k₃ _ o D.l2z D.l2i1 e) hy fun h₄ hs₄ => ?_
    simp only [Option.isSome_none, Bool.false_eq_true, if_false]
    refine wpAny_pure (wpAny_pure (wpAny_bind (wpAny_rule (stop_new (s := { s with heap := h₄ }) hh fun h₅ e k₅ he => ?_))))
    exact hE h₅ e (fun c o c1 _ c3 c4 q => k₅ c o (hs₄ _ _ c4 (k₃ c o c1 c3 q))) he
theorem next_zipS {x y : Value} {Q : Option Value → Shared → Prop} (hS : ∃ o, s.heap.get? S = some o) (D : ZipApart z TI TO i1 i2 l1 l2) (Z : ZSt xs ys z TI TO i1 i2 l1 l2 S k s.heap) (hx : xs[k]? = some x) (hy : ys[k]? = some y)
    (hQ : ∀ h', ZSt xs ys z TI TO i1 i2 l1 l2 S (k + 1) h' → IsPair h' s.heap.objs.size x y → (∀ c o, c ≠ z → c ≠ TO → c ≠ i1 → c ≠ i2 → s.heap.get? c = some o → h'.get? c = some o) → Q (some (.ref s.heap.objs.size)) { s with heap := h' }) :
    wpAny (model prog w) A (pyNext (.ref z)) Q E s := by
  have hT : s.TypeIs (.ref z) "zip" := by
    rcases Z.hz with ⟨f1, hz⟩ | ⟨T, f1, oT, hz, _⟩
    · exact ⟨_, hz, rfl⟩
    · exact ⟨_, hz, rfl⟩
  unfold pyNext
  exact wpAny_bind (wpAny_attempt (wpAny_callSpecial?_slot (name := Str.ofString "__next__") hT PySem.F.slot_zip_next
    (wpAny_call_entry PySem.F.slot_zip_next hT PySem.F.entry_zip_next (zipS_item hS D Z hx hy fun h' a1 a2 a3 => wpAny_pure (hQ h' a1 a2 a3)) (PySem.F.args_zip_next_1 _))))
theorem end_zipS {Q : Option Value → Shared → Prop} (hh : A.handled = none) (D : ZipApart z TI TO i1 i2 l1 l2) (Z : ZSt xs ys z TI TO i1 i2 l1 l2 S k s.heap) (hx : xs[k]? = none) (hy : ys[k]? = none)
    (hQ : ∀ h', (∀ c o, c ≠ z → c ≠ TO → c ≠ i1 → c ≠ i2 → s.heap.get? c = some o → h'.get? c = some o) → Q none { s with heap := h' }) : wpAny (model prog w) A (pyNext (.ref z)) Q E s := by
  have hT : s.TypeIs (.ref z) "zip" := by
    rcases Z.hz with ⟨f1, hz⟩ | ⟨T, f1, oT, hz, _⟩
    · exact ⟨_, hz, rfl⟩
    · exact ⟨_, hz, rfl⟩
  unfold pyNext
  refine wpAny_bind (wpAny_attempt (wpAny_callSpecial?_slot (name := Str.ofString "__next__") hT PySem.F.slot_zip_next
    (wpAny_call_entry PySem.F.slot_zip_next hT PySem.F.entry_zip_next (zipS_end hh D Z hx hy fun h' e hk he => ?_) (PySem.F.args_zip_next_1 _))))
  obtain ⟨o, ho, hc⟩ := he
  refine wpAny_bind (wpAny_isInstance (T := "StopIteration") (b := true) ⟨o, ho, hc⟩ isSubtype_stop ?_)
  exact wpAny_pure (hQ _ hk)
/-! #### the new list -/
/-- acc holds the pairs of xs and ys, the first n of them -/
def PairsIn (ex : List Addr) (h0 h : Heap) (xs ys acc : Array Value) (n : Nat) : Prop := ∃ Ts : List Addr, acc.toList = Ts.map Value.ref ∧ Ts.length = n ∧ Ts.Nodup ∧ (∀ T ∈ Ts, T ∉ ex ∧ h0.get? T = none) ∧ ∀ (i : Nat) (T : Addr), Ts[i]? = some T → ∃ x y, xs[i]? = some x ∧ ys[i]? = some y ∧ IsPair h T x y
theorem PairsIn.size {ex : List Addr} {h0 h : Heap} {xs ys acc : Array Value} {n : Nat} (p : PairsIn ex h0 h xs ys acc n) : acc.size = n := by
  obtain ⟨Ts, e1, e2, _⟩ := p
  rw [← Array.length_toList, e1, List.length_map, e2]
theorem PairsIn.keep {ex : List Addr} {h0 h h' : Heap} {xs ys acc : Array Value} {n : Nat} (p : PairsIn ex h0 h xs ys acc n) (k : ∀ c o, c ∉ ex → h.get? c = some o → h'.get? c = some o) : PairsIn ex h0 h' xs ys acc n := by
  obtain ⟨Ts, e1, e2, e3, e4, e5⟩ := p
  refine ⟨Ts, e1, e2, e3, e4, fun i T hT => ?_⟩
  obtain ⟨x, y, q1, q2, q3⟩ := e5 i T hT
  exact ⟨x, y, q1, q2, k _ _ (e4 T (List.mem_of_getElem? hT)).1 q3⟩
theorem PairsIn.push {ex : List Addr} {h0 h : Heap} {xs ys acc : Array Value} {n : Nat} {T : Addr} {x y : Value} (p : PairsIn ex h0 h xs ys acc n) (hx : xs[n]? = some x) (hy : ys[n]? = some y) (hT : IsPair h T x y) (nT : T ∉ ex) (n0 : h0.get? T = none) (nw : ∀ i : Nat, acc[i]? ≠ some (Value.ref T)) : PairsIn ex h0 h xs ys (acc.push (.ref T)) (n + 1) := by
  obtain ⟨Ts, e1, e2, e3, e4, e5⟩ := p
  have nm : T ∉ Ts := fun hm => by
    obtain ⟨i, hi, e⟩ := List.getElem_of_mem hm
    refine nw i ?_
    rw [← Array.getElem?_toList, e1, List.getElem?_map, List.getElem?_eq_getElem hi, e]
    rfl
  refine ⟨Ts ++ [T], by rw [Array.toList_push, e1, List.map_append]; rfl, by rw [List.length_append, e2]; rfl, ?_, fun T' h => ?_, fun i T' h => ?_⟩
  · rw [List.nodup_append]
    exact ⟨e3, by simp, fun a ha b hb e => nm (by rw [← List.mem_singleton.mp hb, ← e]; exact ha)⟩
  · rcases List.mem_append.mp h with h | h
    · exact e4 T' h
    · rw [List.mem_singleton.mp h]
      exact ⟨nT, n0⟩
  · by_cases hi : i < Ts.length
    · rw [List.getElem?_append_left hi] at h
      exact e5 i T' h
    · rw [List.getElem?_append_right (by omega)] at h
      have e0 : i - Ts.length = 0 := by
        by_cases e0 : i - Ts.length = 0
        · exact e0
        · rw [List.getElem?_eq_none (by simp; omega)] at h
          cases h
      rw [e0] at h
      cases h
      have ei : i = n := by omega
      subst ei
      exact ⟨x, y, hx, hy, hT⟩
end
end ML
set_option Elab.async false
set_option linter.all false
set_option maxRecDepth 100000
set_option maxHeartbeats 4000000
namespace ML
open PySem PySem.Spec PyProof.Rows L2
theorem zip_no_len : typeLookup (.type "zip") "__len__" = pure none := by rw [typeLookup_type, builtinLookup_eq_fast]; kernel_rfl
theorem zip_no_hint : typeLookup (.type "zip") "__length_hint__" = pure none := by rw [typeLookup_type, builtinLookup_eq_fast]; kernel_rfl
theorem typeCall_zipS (a b v : Value) : checkTypeCall "zip" ⟨[a, b], [(Str.ofString "strict", v)]⟩ = pure () := by kernel_rfl
theorem newCall_zipS (a b v : Value) : checkBuiltinCall "zip.__new__" ⟨[.type "zip", a, b], [(Str.ofString "strict", v)]⟩ = pure () := by kernel_rfl
theorem args_init_zipS (o a b v : Value) : argsOk "object.__init__" ⟨[o, a, b], [(Str.ofString "strict", v)]⟩ := by unfold argsOk; kernel_rfl
section
variable {prog : Program} {w : World} {A : Around} {E : Value → Shared → Prop} {s : Shared} {R : Result → Shared → Prop}
variable {xs ys : Array Value} {z TI TO i1 i2 l1 l2 S : Addr}
def lstO (acc : Array Value) (c : Nat) : Obj := { cls := .type "list", dict := none, data := .seq acc c, slots := #[] }
theorem loop_zipS {h0 : Heap} (hh : A.in1.handled = none) (D : ZipApart z TI TO i1 i2 l1 l2) (n : Nat) (hn : n ≤ sizeLine) (h1 : xs.size = n) (h2 : ys.size = n) (res : Value) (nz : S ≠ z) (nTI : S ≠ TI) (nTO : S ≠ TO) (n1 : S ≠ i1) (n2 : S ≠ i2) (nl1 : S ≠ l1) (nl2 : S ≠ l2) :
    ∀ (m i : Nat) (s : Shared) (acc : Array Value) (c : Nat), n - i = m → i ≤ n → ZSt xs ys z TI TO i1 i2 l1 l2 S i s.heap → s.heap.get? S = some (lstO acc c) → (∀ b o, h0.get? b = some o → ∃ o', s.heap.get? b = some o') → PairsIn [S, z, TO, i1, i2] h0 s.heap xs ys acc i →
    (∀ h' acc' c', (∀ b o, b ∉ [S, z, TO, i1, i2] → s.heap.get? b = some o → h'.get? b = some o) → h'.get? S = some (lstO acc' c') → PairsIn [S, z, TO, i1, i2] h0 h' xs ys acc' n → R (.ok (.ret res)) { s with heap := h' }) →
    codeAny (model prog w) A (.builtin "list.extend.loop" ⟨[.ref S, .ref z, res], []⟩) R s := by
  have ne : ∀ b : Addr, b ∉ [S, z, TO, i1, i2] → b ≠ S ∧ b ≠ z ∧ b ≠ TO ∧ b ≠ i1 ∧ b ≠ i2 := fun b hb => by
    simp only [List.mem_cons, List.not_mem_nil, or_false, not_or] at hb
    exact hb
  intro m
  induction m with
  | zero =>
    intro i s acc c hk hi Z hS h0s hacc hR
    have hin : i = n := by omega
    subst hin
    refine codeAny_builtin PySem.F.entry_extend_loop ?_
    rw [Around.under_plainId PySem.F.plain_extend_loop _]
    show wpAny _ A.in1 (pyNext (.ref z) >>= _) _ _ s
    refine wpAny_bind (end_zipS hh D Z (Array.getElem?_eq_none (by omega)) (Array.getElem?_eq_none (by omega)) fun h' hk' => ?_)
    have kk : ∀ b o, b ∉ [S, z, TO, i1, i2] → s.heap.get? b = some o → h'.get? b = some o := fun b o hb e => let ⟨_, b1, b2, b3, b4⟩ := ne b hb; hk' b o b1 b2 b3 b4 e
    exact wpAny_pure (hR h' acc c kk (hk' S _ nz nTO n1 n2 hS) (hacc.keep kk))
  | succ m ih =>
    intro i s acc c hk hi Z hS h0s hacc hR
    have hlt : i < n := by omega
    refine codeAny_builtin PySem.F.entry_extend_loop ?_
    rw [Around.under_plainId PySem.F.plain_extend_loop _]
    show wpAny _ A.in1 (pyNext (.ref z) >>= _) _ _ s
    refine wpAny_bind (next_zipS ⟨_, hS⟩ D Z (Array.getElem?_eq_getElem (by omega)) (Array.getElem?_eq_getElem (by omega)) fun h' Z' hP hk' => ?_)
    have kk : ∀ b o, b ∉ [S, z, TO, i1, i2] → s.heap.get? b = some o → h'.get? b = some o := fun b o hb e => let ⟨_, b1, b2, b3, b4⟩ := ne b hb; hk' b o b1 b2 b3 b4 e
    have hS' := hk' S _ nz nTO n1 n2 hS
    have fr : ∀ b o, s.heap.get? b = some o → s.heap.objs.size ≠ b := fun b o e => Nat.ne_of_gt (Heap.lt_size e)
    have nT : s.heap.objs.size ∉ [S, z, TO, i1, i2] := by
      simp only [List.mem_cons, List.not_mem_nil, or_false, not_or]
      obtain ⟨a, b, hTO⟩ := Z.hTO
      refine ⟨fr _ _ hS, ?_, fr _ _ hTO, ?_, ?_⟩
      · rcases Z.hz with ⟨f1, hz⟩ | ⟨T, f1, oT, hz, _⟩ <;> exact fr _ _ hz
      · obtain ⟨_, e, _⟩ := Z.h1; exact fr _ _ e
      · obtain ⟨_, e, _⟩ := Z.h2; exact fr _ _ e
    have oth : ∀ b o, b ≠ S → h'.get? b = some o → (h'.update S (Obj.mapSeq (·.push (.ref s.heap.objs.size)))).get? b = some o := fun b o hb e => (Heap.get?_update_other _ _ (Ne.symm hb)).trans e
    have n0 : h0.get? s.heap.objs.size = none := by
      cases q : h0.get? s.heap.objs.size with
      | none => rfl
      | some o =>
        obtain ⟨o', e⟩ := h0s _ o q
        exact absurd (Heap.lt_size e) (Nat.lt_irrefl _)
    have nw : ∀ j : Nat, acc[j]? ≠ some (Value.ref s.heap.objs.size) := fun j e => by
      obtain ⟨Ts, q1, q2, q3, q4, q5⟩ := hacc
      rw [← Array.getElem?_toList, q1, List.getElem?_map] at e
      obtain ⟨T, e1, e2⟩ := map_some e
      cases e2
      obtain ⟨x, y, _, _, e3⟩ := q5 j _ e1
      exact absurd (Heap.lt_size e3) (Nat.lt_irrefl _)
    have all' : ∀ b o, s.heap.get? b = some o → ∃ o', h'.get? b = some o' := fun b o e => by
      by_cases hb : b ∉ [S, z, TO, i1, i2]
      · exact ⟨o, kk b o hb e⟩
      · simp only [List.mem_cons, List.not_mem_nil, or_false, Classical.not_not] at hb
        obtain ⟨a', b', hTO'⟩ := Z'.hTO
        rcases hb with rfl | rfl | rfl | rfl | rfl
        · exact ⟨_, hS'⟩
        · rcases Z'.hz with ⟨f1, hz⟩ | ⟨T, f1, oT, hz, _⟩ <;> exact ⟨_, hz⟩
        · exact ⟨_, hTO'⟩
        · obtain ⟨_, e, _⟩ := Z'.h1; exact ⟨_, e⟩
        · obtain ⟨_, e, _⟩ := Z'.h2; exact ⟨_, e⟩
    have h0n : ∀ b o, h0.get? b = some o → ∃ o', (h'.update S (Obj.mapSeq (·.push (.ref s.heap.objs.size)))).get? b = some o' := fun b o e => by
      obtain ⟨o1, e1⟩ := h0s b o e
      obtain ⟨o2, e2⟩ := all' b o1 e1
      by_cases hb : b = S
      · subst hb
        exact ⟨_, Heap.get?_update_self _ hS' rfl⟩
      · exact ⟨_, oth b o2 hb e2⟩
    show wpAny _ A.in1 (updateSeq S (·.push (.ref s.heap.objs.size)) >>= _) _ _ _
    refine wpAny_bind ?_
    refine wpAny_updateSeq (s := { s with heap := h' }) hS' rfl (wpAny_pure ⟨plainId_quiet PySem.F.plain_extend_loop _, ih (i + 1) { s with heap := h'.update S (Obj.mapSeq (·.push (.ref s.heap.objs.size))) } (acc.push (.ref s.heap.objs.size)) _ (by omega) hlt (Z'.but nz nTI nTO n1 n2 nl1 nl2 oth) (Heap.get?_update_self _ hS' rfl) h0n
      (((hacc.keep kk).push (Array.getElem?_eq_getElem (by omega)) (Array.getElem?_eq_getElem (by omega)) hP nT n0 nw).keep fun b o hb e => oth b o (ne b hb).1 e) fun h'' acc' c' kk'' hS'' hacc' => ?_⟩)
      (by rw [hacc.size]; omega) (by show (acc.push _).size ≤ sizeLine + 1; rw [Array.size_push, hacc.size]; omega)
    exact hR h'' acc' c' (fun b o hb e => kk'' b o hb (oth b o (ne b hb).1 (kk b o hb e))) hS'' hacc'
theorem ext_zipS {h0 : Heap} (h0s : ∀ b o, h0.get? b = some o → ∃ o', s.heap.get? b = some o') (hh : A.in1.handled = none) (D : ZipApart z TI TO i1 i2 l1 l2) (hn : xs.size ≤ sizeLine) (h2 : ys.size = xs.size) (res : Value) (c₀ : Nat) (nz : S ≠ z) (nTI : S ≠ TI) (nTO : S ≠ TO) (n1 : S ≠ i1) (n2 : S ≠ i2) (nl1 : S ≠ l1) (nl2 : S ≠ l2)
    (Z : ZSt xs ys z TI TO i1 i2 l1 l2 S 0 s.heap) (hS : s.heap.get? S = some (lstO #[] c₀))
    (hR : ∀ h' acc' c', (∀ b o, b ∉ [S, z, TO, i1, i2] → s.heap.get? b = some o → h'.get? b = some o) → h'.get? S = some (lstO acc' c') → PairsIn [S, z, TO, i1, i2] h0 h' xs ys acc' xs.size → R (.ok (.ret res)) { s with heap := h' }) :
    wpAny (model prog w) A.in1 (Builtin.List.listExtendWith (.ref S) (.ref z) res)
      (fun fin s' => match fin with | .done f => R (.ok f) s' | .again c' => c'.quiet = true ∧ codeAny (model prog w) A c' R s') (fun e s' => R (.error e) s') s := by
  have hzz : ∃ f0 f1, IsZipS s.heap z TI TO f0 f1 := by
    rcases Z.hz with ⟨f1, hz⟩ | ⟨T, f1, oT, hz, _⟩
    · exact ⟨_, _, hz⟩
    · exact ⟨_, _, hz⟩
  obtain ⟨f0, f1, hz⟩ := hzz
  have hT : s.TypeIs (.ref z) "zip" := ⟨_, hz, rfl⟩
  unfold Builtin.List.listExtendWith
  refine wpAny_bind (wpAny_typeOf hT ?_)
  have e1 : Builtin.List.listSameRef (.ref S) (.ref z) = false := by simp [Builtin.List.listSameRef, nz]
  have e2 : (Value.type "zip" == Value.type "list") = false := by decide
  have e3 : (Value.type "zip" == Value.type "tuple") = false := by decide
  simp only [e1, e2, e3, Bool.or_false, Bool.false_eq_true, if_false]
  refine wpAny_bind (wpAny_pyIter_slot hT PySem.F.slot_zip_iter (wpAny_call_entry PySem.F.slot_zip_iter hT PySem.F.entry_zip_iter (wpAny_pure ⟨_, rfl, "zip", _, hT, PySem.F.slot_zip_next.lookup, ?_⟩) (PySem.F.args_zip_iter_1 _)))
  refine wpAny_bind (wpAny_holding ?_)
  unfold Builtin.List.listLengthHint
  refine wpAny_bind (wpAny_specialOf hT zip_no_len ?_)
  show wpAny _ A.in1 (specialOf (Value.ref z) (Str.ofString "__length_hint__") >>= _) _ _ _
  refine wpAny_bind (wpAny_specialOf hT zip_no_hint ?_)
  refine wpAny_pure ?_
  show wpAny _ A.in1 (rule "list.extend.makes-room" >>= fun _ => Builtin.List.listTouch (.ref S) >>= fun _ =>
    again (.builtin "list.extend.loop" ⟨[.ref S, .ref z, res], []⟩)) _ _ _
  refine wpAny_bind (wpAny_rule ?_)
  refine wpAny_bind ?_
  show wpAny _ A.in1 (updateSeq S (·.push .none) >>= fun _ => updateSeq S (·.pop)) _ _ _
  refine wpAny_bind (wpAny_updateSeq hS rfl ?_)
  have hS₂ := Heap.get?_update_self (Obj.mapSeq (·.push Value.none)) hS rfl
  refine wpAny_updateSeq (hz := by seq_fits) hS₂ rfl ?_
  have hS₃ := Heap.get?_update_self (Obj.mapSeq (·.pop)) hS₂ rfl
  have oth : ∀ b o, b ≠ S → s.heap.get? b = some o → ((s.heap.update S (Obj.mapSeq (·.push Value.none))).update S (Obj.mapSeq (·.pop))).get? b = some o :=
    fun b o hb e => (Heap.get?_update_other _ _ (Ne.symm hb)).trans ((Heap.get?_update_other _ _ (Ne.symm hb)).trans e)
  refine wpAny_pure ⟨plainId_quiet PySem.F.plain_extend_loop _, loop_zipS hh D xs.size hn rfl h2 res nz nTI nTO n1 n2 nl1 nl2 xs.size 0 { s with heap := (s.heap.update S (Obj.mapSeq (·.push Value.none))).update S (Obj.mapSeq (·.pop)) } _ _ rfl (Nat.zero_le _) (Z.but nz nTI nTO n1 n2 nl1 nl2 oth) hS₃ (fun b o e => by
      obtain ⟨o1, e1⟩ := h0s b o e
      by_cases hb : b = S
      · subst hb
        exact ⟨_, hS₃⟩
      · exact ⟨_, oth b o1 hb e1⟩) ⟨[], rfl, rfl, .nil, (fun T h => nomatch h), (fun i T h => nomatch h)⟩ fun h' acc' c' kk hS' hacc => ?_⟩
  exact hR h' acc' c' (fun b o hb e => kk b o hb (oth b o (fun z => hb (by simp [z])) e)) hS' hacc
end
section
variable {prog : Program} {w : World} {A : Around} {E : Value → Shared → Prop} {s : Shared}
variable {xs ys : Array Value} {z TI TO i1 i2 l1 l2 : Addr}
theorem call_list_zipS {Q : Value → Shared → Prop} (hh : A.handled = none) (D : ZipApart z TI TO i1 i2 l1 l2) (hn : xs.size ≤ sizeLine) (h2 : ys.size = xs.size) (Z : ∀ S, ZSt xs ys z TI TO i1 i2 l1 l2 S 0 s.heap)
    (hQ : ∀ h' acc' c', (∀ b o, b ∉ [s.heap.objs.size, z, TO, i1, i2] → s.heap.get? b = some o → h'.get? b = some o) → h'.get? s.heap.objs.size = some (lstO acc' c') → PairsIn [s.heap.objs.size, z, TO, i1, i2] s.heap h' xs ys acc' xs.size → Q (.ref s.heap.objs.size) { s with heap := h' }) :
    wpAny (model prog w) A (call (.type "list") [.ref z]) Q E s := by
  have Z := Z s.heap.objs.size
  have fr : ∀ b o, s.heap.get? b = some o → s.heap.objs.size ≠ b := fun b o e => Nat.ne_of_gt (Heap.lt_size e)
  obtain ⟨a, b, hTO⟩ := Z.hTO
  have nz : s.heap.objs.size ≠ z := by rcases Z.hz with ⟨f1, hz⟩ | ⟨T, f1, oT, hz, _⟩ <;> exact fr _ _ hz
  have nTI := fr _ _ Z.hTI
  have nTO := fr _ _ hTO
  have n1 : s.heap.objs.size ≠ i1 := by obtain ⟨_, e, _⟩ := Z.h1; exact fr _ _ e
  have n2 : s.heap.objs.size ≠ i2 := by obtain ⟨_, e, _⟩ := Z.h2; exact fr _ _ e
  have nl1 : s.heap.objs.size ≠ l1 := by obtain ⟨_, e, _⟩ := Z.hl1; exact fr _ _ e
  have nl2 : s.heap.objs.size ≠ l2 := by obtain ⟨_, e, _⟩ := Z.hl2; exact fr _ _ e
  refine callType_codes (Q₁ := fun obj s₁ => obj = .ref s.heap.objs.size ∧ s₁ = { s with heap := s.heap.push { cls := .type "list", data := .seq #[] } }) PySem.F.called_list (PySem.F.typeCall_list_1 _) PySem.F.entry_list_init
    (code_list_new _ ⟨rfl, rfl⟩) fun obj s₁ h₁ => ?_
  obtain ⟨rfl, rfl⟩ := h₁
  have hS : (s.heap.push { cls := .type "list", data := .seq #[] }).get? s.heap.objs.size = some { cls := .type "list", data := .seq #[] } := Heap.get?_push_size _ rfl
  refine ⟨⟨_, hS, rfl⟩, PySem.F.args_list_init_2 _ _, ?_⟩
  show wpAny _ A.in1.in1 (do let old ← Builtin.List.listItems (.ref s.heap.objs.size); Builtin.List.listUpdate (.ref s.heap.objs.size) (fun _ => #[]); letGo old.toList.reverse; Builtin.List.listExtendWith (.ref s.heap.objs.size) (.ref z) .none) _ _ _
  refine wpAny_bind ?_
  unfold Builtin.List.listItems
  refine wpAny_bind (wpAny_seqItems hS rfl (wpAny_pure ?_))
  show wpAny _ A.in1.in1 (updateSeq s.heap.objs.size (fun _ => #[]) >>= fun _ => letGo (#[] : Array Value).toList.reverse >>= fun _ => Builtin.List.listExtendWith (.ref s.heap.objs.size) (.ref z) .none) _ _ _
  refine wpAny_bind (wpAny_updateSeq hS rfl ?_)
  have hS₂ := Heap.get?_update_self (Obj.mapSeq (fun _ => (#[] : Array Value))) hS rfl
  have oth : ∀ b o, b ≠ s.heap.objs.size → s.heap.get? b = some o → ((s.heap.push { cls := .type "list", data := .seq #[] }).update s.heap.objs.size (Obj.mapSeq (fun _ => (#[] : Array Value)))).get? b = some o :=
    fun b o hb e => (Heap.get?_update_other _ _ (Ne.symm hb)).trans (Heap.get?_push_of_some _ e)
  refine wpAny_bind (wpAny_letGo ?_)
  refine ext_zipS (h0 := s.heap) (fun b o e => ⟨o, oth b o (fun z => fr b o e z.symm) e⟩) (A := A.in1) (s := { s with heap := (s.heap.push { cls := .type "list", data := .seq #[] }).update s.heap.objs.size (Obj.mapSeq (fun _ => (#[] : Array Value))) }) hh D hn h2 .none _ nz nTI nTO n1 n2 nl1 nl2 (Z.but nz nTI nTO n1 n2 nl1 nl2 oth) hS₂ fun h' acc' c' kk hS' hacc => ?_
  exact ⟨rfl, hQ h' acc' c' (fun b o hb e => kk b o hb (oth b o (fun q => hb (by simp [q])) e)) hS' hacc⟩
/-! #### zip(a, b, strict=True) -/
abbrev zipS5 (h : Heap) (l1 l2 : Addr) : Heap := (zipH4 h l1 l2).push { cls := .type "zip", data := .fields #[.none, .bool false, .bool true, .ref (zipH2 h l1 l2).objs.size, .ref (zipH3 h l1 l2).objs.size] }
theorem meets_zipS (l1 l2 : Addr) (xs ys : Array Value) :
    Meets (Builtin.«zip.__new__» ⟨[.type "zip", .ref l1, .ref l2], [(Str.ofString "strict", .bool true)]⟩) (fun _ R s => s.heap.IsList l1 xs ∧ s.heap.IsList l2 ys ∧
      R (.ok (.ret (.ref (zipH4 s.heap l1 l2).objs.size))) { s with heap := zipS5 s.heap l1 l2 }) :=
  .of_wp fun prog w A R s h => by
    obtain ⟨hp, g, d, tk, os⟩ := s; obtain ⟨hl1, hl2, h⟩ := h
    have hsub := sub_zip
    have e1 : (Str.ofString "strict" != ("strict" : Str)) = false := by decide +kernel
    have hL1 : Heap.IsList (Shared.heap ⟨hp, g, d, tk, os⟩) l1 xs := hl1
    have hL2 : Heap.IsList (Shared.heap ⟨hp.push { cls := .type "list_iterator", data := .fields #[.ref l1, .int 0 0] }, g, d, tk, os⟩) l2 ys := Heap.IsList.push hl2 _
    wp_walk using wpAny_pyIter_list hL1, wpAny_pyIter_list hL2
    exact ⟨_, rfl, h⟩
theorem call_zipS {l1 l2 : Addr} {xs ys : Array Value} {Q : Value → Shared → Prop} (hl1 : s.heap.IsList l1 xs) (hl2 : s.heap.IsList l2 ys)
    (h : ∀ h' z TI TO i1 i2, ZipApart z TI TO i1 i2 l1 l2 → (∀ S, ZSt xs ys z TI TO i1 i2 l1 l2 S 0 h') → (∀ c o, s.heap.get? c = some o → h'.get? c = some o ∧ c ∉ [z, TO, i1, i2]) → Q (.ref z) { s with heap := h' }) :
    wpAny (model prog w) A (call (.type "zip") [.ref l1, .ref l2] [(Str.ofString "strict", .bool true)]) Q E s := by
  refine callType_newKw PySem.F.called_zip (by decide) (typeCall_zipS _ _ _) (newCall_zipS _ _ _) (fun obj => args_init_zipS obj _ _ _) PySem.F.entry_zip_new (meets_zipS l1 l2 xs ys) ⟨hl1, hl2, ?_⟩
  have z1 : (zipH1 s.heap l1).objs.size = s.heap.objs.size + 1 := Heap.size_push ..
  have z2 : (zipH2 s.heap l1 l2).objs.size = s.heap.objs.size + 2 := by rw [Heap.size_push, z1]
  have z3 : (zipH3 s.heap l1 l2).objs.size = s.heap.objs.size + 3 := by rw [Heap.size_push, z2]
  have z4 : (zipH4 s.heap l1 l2).objs.size = s.heap.objs.size + 4 := by rw [Heap.size_push, z3]
  have g5 : (zipS5 s.heap l1 l2).get? (zipH4 s.heap l1 l2).objs.size = some _ := Heap.get?_push_size _ rfl
  have g4 : (zipS5 s.heap l1 l2).get? (zipH3 s.heap l1 l2).objs.size = some _ := Heap.get?_push_of_some _ (Heap.get?_push_size _ rfl)
  have g3 : (zipS5 s.heap l1 l2).get? (zipH2 s.heap l1 l2).objs.size = some _ := Heap.get?_push_of_some _ (Heap.get?_push_of_some _ (Heap.get?_push_size _ rfl))
  have g2 : (zipS5 s.heap l1 l2).get? (zipH1 s.heap l1).objs.size = some _ := Heap.get?_push_of_some _ (Heap.get?_push_of_some _ (Heap.get?_push_of_some _ (Heap.get?_push_size _ rfl)))
  have g1 : (zipS5 s.heap l1 l2).get? s.heap.objs.size = some _ := Heap.get?_push_of_some _ (Heap.get?_push_of_some _ (Heap.get?_push_of_some _ (Heap.get?_push_of_some _ (Heap.get?_push_size _ rfl))))
  have kp : ∀ c o, s.heap.get? c = some o → (zipS5 s.heap l1 l2).get? c = some o := fun c o x =>
    Heap.get?_push_of_some _ (Heap.get?_push_of_some _ (Heap.get?_push_of_some _ (Heap.get?_push_of_some _ (Heap.get?_push_of_some _ x))))
  rw [z2, z3, z4] at g5
  rw [z1, z2] at g3
  rw [z3] at g4
  rw [z1] at g2
  show _ ∧ _
  rw [z4]
  have lt : ∀ {c o}, s.heap.get? c = some o → c < s.heap.objs.size := fun e => Heap.lt_size e
  obtain ⟨o1, e1, _⟩ := id hl1
  obtain ⟨o2, e2, _⟩ := id hl2
  have a1 := lt e1
  have a2 := lt e2
  refine ⟨⟨_, g5, rfl⟩, h _ (s.heap.objs.size + 4) (s.heap.objs.size + 2) (s.heap.objs.size + 3) s.heap.objs.size (s.heap.objs.size + 1) (zipApart_new a1 a2) (fun S => ⟨.inl ⟨_, g5⟩, g3, ⟨_, _, g4⟩, ⟨_, g1, rfl, rfl⟩, ⟨_, g2, rfl, rfl⟩, hl1.at fun o e => kp _ o e, hl2.at fun o e => kp _ o e⟩) fun c o x => ⟨kp c o x, ?_⟩⟩
  have q := lt x
  have q' : ∀ i, c ≠ s.heap.objs.size + i := fun i => Nat.ne_of_lt (Nat.lt_of_lt_of_le q (Nat.le_add_right _ _))
  simp only [List.mem_cons, List.not_mem_nil, or_false, not_or]
  exact ⟨q' 4, q' 3, q' 0, q' 1⟩
end
/-! #### the expression -/
def updT (H : Hp) : List (Addr × V × V) → Hp
  | [] => H
  | (T, x, y) :: r => upd (updT H r) T (.tup [x, y])
theorem updT_out {H : Hp} : ∀ {l : List (Addr × V × V)} {a : Addr}, a ∉ l.map (·.1) → updT H l a = H a
  | [], _, _ => rfl
  | (T, x, y) :: r, a, h => by
    unfold updT
    rw [upd_ne fun z => h (by rw [z]; exact List.mem_cons_self)]
    exact updT_out fun z => h (List.mem_cons_of_mem _ z)
theorem updT_in {H : Hp} : ∀ {l : List (Addr × V × V)} {T : Addr} {x y : V}, (l.map (·.1)).Nodup → (T, x, y) ∈ l → updT H l T = some (.tup [x, y])
  | (T', x', y') :: r, T, x, y, nd, h => by
    have nd' := List.nodup_cons.mp nd
    unfold updT
    rcases List.mem_cons.mp h with e | h
    · cases e
      exact upd_same
    · rw [upd_ne fun z => nd'.1 (by rw [← z]; exact List.mem_map.mpr ⟨_, h, rfl⟩)]
      exact updT_in nd'.2 h
def tLzip (K : PySem.W.Frag) (t : TA) : TE := fun σ H Q => t σ H fun vs H1 => ∃ a b xs ys, vs = [.ref a, .ref b] ∧ SqL K H1 a xs ∧ SqL K H1 b ys ∧ ys.length = xs.length ∧
  ∀ (l : List (Addr × V × V)) (p : Addr), l.map (·.2) = xs.zip ys → (l.map (·.1)).Nodup → (∀ T ∈ l.map (·.1), H1 T = none) → H1 p = none → p ∉ l.map (·.1) → Q (.ref p) (upd (updT H1 l) p (.lst (l.map fun q => V.ref q.1)))
section
variable {M : Model} {A : Around} {E : Value → Shared → Prop} {s : Shared} {env : Env}
theorem callWith_kwT {pos : Pos} {T : String} {e : Expr} {rest : List Expr} {kws : List Keyword} {Q : Value → Shared → Prop}
    (h : wpAny M A (spliced (backTo pos (starEach (e :: rest) env))) (fun vs s₁ => wpAny M A (evalAll ((backToKw pos (keywordEach kws env)).map (·.2)))
      (fun kvs s₂ => wpAny M A (call (.type T) vs (((backToKw pos (keywordEach kws env)).filterMap (·.1)).zip kvs)) Q E s₂) E s₁) E s)
    (he : backTo pos (starEach (e :: rest) env) = (false, eval e env) :: backTo pos (starEach rest env) := by rfl)
    (hplain : (backTo pos (starEach (e :: rest) env)).any (·.1) = false := by rfl)
    (hall : (backToKw pos (keywordEach kws env)).all (·.1.isSome) = true := by rfl)
    (hkw : (backToKw pos (keywordEach kws env)).any (·.1.isNone) = false := by rfl) :
    wpAny M A (callWith pos (.type T) [] (backTo pos (starEach (e :: rest) env)) (backToKw pos (keywordEach kws env))) Q E s := by
  have h2 : wpAny M A (evalArgs (.type T) true (backTo pos (starEach (e :: rest) env)) (backToKw pos (keywordEach kws env))) (fun a s₁ => wpAny M A (call (.type T) ([] ++ a.pos) a.kw) Q E s₁) E s := by
    rw [he] at h ⊢
    exact evalArgs_kwB hall h
  unfold callWith
  refine wpAny_bind (wpAny_holding (wpAny_mono h2 (fun a s₁ h₁ => wpAny_bind (wpAny_standAt ?_)) fun _ _ x => x))
  simp only [hplain, hkw, Bool.or_false]
  refine wpAny_bind (wpAny_pure ?_)
  exact wpAny_bind (wpAny_mono h₁ (fun r s₂ hr => wpAny_bind (wpAny_holding (wpAny_point (wpAny_pure hr)))) fun _ _ x => x)
end
end ML
set_option Elab.async false
set_option linter.all false
set_option maxRecDepth 100000
set_option maxHeartbeats 4000000
namespace ML
open PySem PySem.Spec PyProof.Rows L2
section
variable {X : Cx} {pins : List (Addr × Obj)} {σ σ0 : L2.St} {H H0 : Hp} {s s0 : Shared}
/-- an object that was not there at s0 becomes a tracked one -/
theorem inv_add {a : Addr} {u : HO} (I0 : Inv X pins σ0 H0 s0) (I : Inv X pins σ H s) (n0 : s0.heap.get? a = none) (na : H a = none) (ok : ObjOk X.prog X.w (upd H a u) s.heap a u) : Inv X pins σ (upd H a u) s := by
  have ne : ∀ b o, s0.heap.get? b = some o → b ≠ a := fun b o e z => by
    rw [z, n0] at e
    cases e
  have un : ∀ b v, H b = some v → upd H a u b = some v := fun b v q => upd_kp na b v q
  refine ⟨I.ok, I.os, I.bare, ⟨I.base.keep, I.base.slot, fun b o e n x => ?_, I.base.there, fun b xs q => un b _ (I.base.tups b xs q), fun b o v q => un b _ (I.base.frzs b o v q), fun b ps q => ?_⟩, I.loc, I.cell, ?_, fun x c e => ?_, fun p hp => ?_, fun b o e => ?_, I.len⟩
  · obtain ⟨o', z⟩ := I0.base.there b o e x
    rw [upd_ne (ne b o' z)]
    exact I.base.free b o e n x
  · obtain ⟨more, q⟩ := I.base.tbls b ps q
    exact ⟨more, un b _ q⟩
  · obtain ⟨m, ⟨o, _, _, hn, _⟩, _⟩ := I0.loc
    rw [upd_ne (ne _ o hn)]
    exact I.free
  · obtain ⟨v, o, e1, _⟩ := I0.cell x c e
    rw [upd_ne (ne c o e1)]
    exact I.freeC x c e
  · obtain ⟨e1, e2, e3, e4, e5⟩ := I.pin p hp
    exact ⟨e1, by rw [upd_ne (ne p.1 p.2 (I0.pin p hp).1)]; exact e2, e3, e4, e5⟩
  · by_cases hb : b = a
    · subst hb
      rw [upd_same] at e
      cases e
      exact ok
    · rw [upd_ne hb] at e
      exact (I.hok b o e).stay (fun _ _ _ q => q) (fun c q => un c _ q) fun c xs q => un c _ q
theorem objOk_there {P : Program} {w : World} {H : Hp} {h : Heap} {a : Addr} {o : HO} (x : ObjOk P w H h a o) : ∃ ob, h.get? a = some ob := by
  cases o with
  | lst xs => obtain ⟨_, _, _, _, e⟩ := x; exact ⟨_, e⟩
  | tup xs => obtain ⟨_, _, _, o, e, _⟩ := x; exact ⟨_, e⟩
  | dK kvs => obtain ⟨_, _, _, _, o, _, _, e, _⟩ := x; exact ⟨_, e⟩
  | dT kvs => obtain ⟨_, _, _, _, o, _, _, e, _⟩ := x; exact ⟨_, e⟩
  | set S n => obtain ⟨o, _, _, _, e, _⟩ := x; exact ⟨_, e⟩
  | ins C dx fs => obtain ⟨_, _, _, e, _⟩ := x; exact ⟨_, e⟩
  | own y => obtain ⟨_, e⟩ := x; exact ⟨_, e⟩
  | xd fs => obtain ⟨_, ⟨_, _, _, e, _⟩, _⟩ := x; exact ⟨_, e⟩
  | rng lo hi => obtain ⟨_, _, _, e⟩ := x; exact ⟨_, e⟩
  | frz ob u => obtain ⟨e, _⟩ := x; exact ⟨_, e⟩
  | tbl ps => exact ⟨_, (show h.get? a = some _ from x)⟩
  | met f y => exact ⟨_, (show h.get? a = some _ from x)⟩
  | ext φ => obtain ⟨_, ⟨_, e⟩, _⟩ := x; exact ⟨_, e⟩
theorem inv_addT (I0 : Inv X pins σ0 H0 s0) : ∀ (l : List (Addr × V × V)), Inv X pins σ H s → (l.map (·.1)).Nodup → (∀ q ∈ l, s0.heap.get? q.1 = none ∧ H q.1 = none ∧ ∃ x y, RelV q.2.1 x ∧ RelV q.2.2 y ∧ IsPair s.heap q.1 x y) → Inv X pins σ (updT H l) s
  | [], I, _, _ => I
  | (T, x, y) :: r, I, nd, h => by
    have nd' := List.nodup_cons.mp nd
    obtain ⟨h1, h2, u, v, h3, h4, h5⟩ := h (T, x, y) List.mem_cons_self
    unfold updT
    refine inv_add I0 (inv_addT I0 r I nd'.2 fun q hq => h q (List.mem_cons_of_mem _ hq)) h1 (by rw [updT_out nd'.1]; exact h2) ?_
    exact ⟨by show 2 ≤ sizeLine; decide, [u, v], .cons h3 (.cons h4 .nil), ⟨_, h5, rfl, _, rfl⟩⟩
end
theorem zip_map_snd {A B : Type} : ∀ {l : List A} {m : List B}, l.length = m.length → (l.zip m).map (·.2) = m
  | [], [], _ => rfl
  | _ :: l, _ :: m, h => by
    show _ :: (l.zip m).map (·.2) = _
    rw [zip_map_snd (by simpa using h)]
theorem zip_map_fst {A B : Type} : ∀ {l : List A} {m : List B}, l.length = m.length → (l.zip m).map (·.1) = l
  | [], [], _ => rfl
  | _ :: l, _ :: m, h => by
    show _ :: (l.zip m).map (·.1) = _
    rw [zip_map_fst (by simpa using h)]
section
variable {X : Cx} {Wx : WX}
theorem pe_lzip {a b : Expr} {t : TA} {p p2 pos pos2 kp cp : Pos} {ck : Nat} (hc : X.calm = true) (hgl : Gl X "list") (hml : X.mg "list" = none) (hgz : Gl X "zip") (hmz : X.mg "zip" = none) (ha : PA X [a, b] t)
    (hs : starEach [.Call (.Name "zip" p2) [a, b] [⟨some "strict", .Constant (.bool true) ck cp, kp⟩] pos2] X.env = (false, eval (.Call (.Name "zip" p2) [a, b] [⟨some "strict", .Constant (.bool true) ck cp, kp⟩] pos2) X.env) :: starEach [] X.env := by rfl)
    (he : backTo pos2 (starEach [a, b] X.env) = (false, eval a X.env) :: backTo pos2 (starEach [b] X.env) := by rfl) (hpl : (backTo pos2 (starEach [a, b] X.env)).any (·.1) = false := by rfl) :
    PE X (.Call (.Name "list" p) [.Call (.Name "zip" p2) [a, b] [⟨some "strict", .Constant (.bool true) ck cp, kp⟩] pos2] [] pos) (tLzip X.K t) := by
  refine ⟨fun pins s σ H Q I h => ?_⟩
  refine wpAny_Call_Name_kw (ld_blt I hgl hml (by decide +kernel : bootBuiltins "list" = some (.type "list")) ?_ (by decide) (by decide))
  refine PyProof.Rows.callWith_type1 ?_ hs rfl
  rw [hs]
  show wpAny _ _ (spliced ((false, eval (.Call (.Name "zip" p2) [a, b] [⟨some "strict", .Constant (.bool true) ck cp, kp⟩] pos2) X.env) :: backTo pos (starEach [] X.env))) _ _ s
  refine Calls.spliced_cons ?_
  refine wpAny_Call_Name_kw (ld_blt I hgz hmz (by decide +kernel : bootBuiltins "zip" = some (.type "zip")) ?_ (by decide) (by decide))
  refine callWith_kwT (thn (ha.run pos2 pins s σ H _ I h) fun us s1 ⟨vs, H1, I1, r1, q1⟩ => ?_) he hpl rfl rfl
  obtain ⟨la, lb, xs, ys, rfl, h1, h2, hl, q⟩ := q1
  obtain ⟨u1, u2, rfl, ra, rb⟩ := vals2 r1
  cases ra
  cases rb
  refine kws_cons (thn ((pe_bl (X := X) (b := true) (j := ck) (pos := cp)).run pins s1 σ H1 (fun v H' => v = .bl true ∧ H' = H1) I1 ⟨rfl, rfl⟩) fun v s2 ⟨x, H2, I2, rx, e1, e2⟩ => kws_nil ?_)
  subst e1
  subst e2
  cases rx
  obtain ⟨its1, rv1, p1, z1⟩ := I2.list h1
  obtain ⟨its2, rv2, p2', z2⟩ := I2.list h2
  refine call_zipS p1.isList p2'.isList fun h' z TI TO i1 i2 D Z kz => ?_
  refine Calls.spliced_nil ?_
  have e1 := rv1.length
  have e2 := rv2.length
  refine call_list_zipS (s := { s2 with heap := h' }) (I.ok.hd hc) D (by simp; omega) (by simp; omega) Z fun h'' acc c kk hS hacc => ?_
  have kall : ∀ b o, s2.heap.get? b = some o → h''.get? b = some o := fun b o e => by
    obtain ⟨k1, k2⟩ := kz b o e
    refine kk b o ?_ k1
    intro hm
    rcases List.mem_cons.mp hm with hm | hm
    · have := Heap.lt_size k1
      rw [hm] at this
      exact absurd this (Nat.lt_irrefl _)
    · exact k2 hm
  have J : Inv X pins σ H2 { s2 with heap := h'' } := I2.kept (t' := s2.toks) kall
  obtain ⟨Ts, t1, t2, t3, t4, t5⟩ := hacc
  have back : ∀ c, h'.get? c = none → s2.heap.get? c = none := fun c e => by
    cases q : s2.heap.get? c with
    | none => rfl
    | some o =>
      rw [(kz c o q).1] at e
      cases e
  have lenT : Ts.length = (xs.zip ys).length := by
    rw [t2]
    simp
    omega
  have nH : ∀ c, s2.heap.get? c = none → H2 c = none := fun c e => by
    cases q : H2 c with
    | none => rfl
    | some o =>
      obtain ⟨ob, e'⟩ := objOk_there (I2.hok c o q)
      rw [e] at e'
      cases e'
  have n0 : ∀ T ∈ Ts, s2.heap.get? T = none := fun T hT => back T (t4 T hT).2
  have m1 : (Ts.zip (xs.zip ys)).map (·.1) = Ts := zip_map_fst lenT
  have m2 : (Ts.zip (xs.zip ys)).map (·.2) = xs.zip ys := zip_map_snd lenT
  have nd : ((Ts.zip (xs.zip ys)).map (·.1)).Nodup := by rw [m1]; exact t3
  have hSn : h'.get? h'.objs.size = none := by
    cases q : h'.get? h'.objs.size with
    | none => rfl
    | some o => exact absurd (Heap.lt_size q) (Nat.lt_irrefl _)
  have J2 : Inv X pins σ (updT H2 (Ts.zip (xs.zip ys))) { s2 with heap := h'' } := by
    refine inv_addT I2 _ J nd fun q hq => ?_
    obtain ⟨i, hi, e⟩ := List.getElem_of_mem hq
    have g : (Ts.zip (xs.zip ys))[i]? = some q := by rw [List.getElem?_eq_getElem hi, e]
    rw [List.getElem?_zip_eq_some] at g
    obtain ⟨g1, g2⟩ := g
    rw [List.getElem?_zip_eq_some] at g2
    obtain ⟨g2, g3⟩ := g2
    obtain ⟨x, y, f1, f2, f3⟩ := t5 i q.1 g1
    obtain ⟨u1, w1, w2⟩ := rv1.get g2
    obtain ⟨u2, w3, w4⟩ := rv2.get g3
    rw [List.getElem?_toArray, w1] at f1
    rw [List.getElem?_toArray, w3] at f2
    cases f1
    cases f2
    have hT := List.mem_of_getElem? g1
    exact ⟨n0 _ hT, nH _ (n0 _ hT), _, _, w2, w4, f3⟩
  have pT : h'.objs.size ∉ Ts := fun hm => (t4 _ hm).1 List.mem_cons_self
  have pT' : h'.objs.size ∉ (Ts.zip (xs.zip ys)).map (·.1) := by rw [m1]; exact pT
  have hp0 : s2.heap.get? h'.objs.size = none := back _ hSn
  have hpH : H2 h'.objs.size = none := nH _ hp0
  have eV : (Ts.zip (xs.zip ys)).map (fun q => V.ref q.1) = Ts.map V.ref := by
    have e : (Ts.zip (xs.zip ys)).map (fun q => V.ref q.1) = ((Ts.zip (xs.zip ys)).map (·.1)).map V.ref := by rw [List.map_map]; rfl
    rw [e, m1]
  have J3 : Inv X pins σ (upd (updT H2 (Ts.zip (xs.zip ys))) h'.objs.size (.lst ((Ts.zip (xs.zip ys)).map fun q => V.ref q.1))) { s2 with heap := h'' } := by
    refine inv_add I2 J2 hp0 (by rw [updT_out pT']; exact hpH) ?_
    rw [eV]
    refine ⟨by rw [List.length_map, t2]; simp; omega, acc.toList, c, ?_, ?_⟩
    · rw [t1]
      have : ∀ l : List Addr, Vals (l.map V.ref) (l.map Value.ref) := fun l => by
        induction l with
        | nil => exact .nil
        | cons a l ih => exact .cons rfl ih
      exact this Ts
    · rw [Array.toArray_toList]
      exact hS
  exact ⟨.ref h'.objs.size, _, J3, rfl, q _ _ m2 nd (fun T hT => nH _ (n0 T (by rw [m1] at hT; exact hT))) hpH pT'⟩
/-! #### its reading -/
def lzipR (vs : List W) (S : Store) : Res O := match vs with
  | [.lst xs, .lst ys] => if xs.length = ys.length then .ok (.lst ((xs.zip ys).map fun q => W.tup [q.1, q.2])) S else .bad
  | _ => .bad
def fLzip (m : AM) : FM := fun sw S => (m sw S).bind lzipR
theorem repL_zip {k : Kw} {F : FS} {H : Hp} {r : List Addr} : ∀ {l : List (Addr × V × V)} {ws us : List W} {xs ys : List V}, l.map (·.2) = xs.zip ys → RepL k F H r ws xs → RepL k F H r us ys → ws.length = us.length → (∀ T x y, (T, x, y) ∈ l → TupAt k.K F H T [x, y]) →
    RepL k F H r ((ws.zip us).map fun q => W.tup [q.1, q.2]) (l.map fun q => V.ref q.1)
  | [], [], [], xs, ys, e, h1, h2, hl, ht => rfl
  | [], w :: ws, u :: us, xs, ys, e, h1, h2, hl, ht => by
    obtain ⟨x, xs', rfl, _, _⟩ := h1
    obtain ⟨y, ys', rfl, _, _⟩ := h2
    cases e
  | (T, x', y') :: l, [], [], xs, ys, e, h1, h2, hl, ht => by
    cases h1
    cases h2
    cases e
  | (T, x', y') :: l, w :: ws, u :: us, xs, ys, e, h1, h2, hl, ht => by
    obtain ⟨x, xs', rfl, a1, a2⟩ := h1
    obtain ⟨y, ys', rfl, b1, b2⟩ := h2
    have e : (x', y') :: l.map (·.2) = (x, y) :: xs'.zip ys' := e
    injection e with e1 e2
    cases e1
    exact ⟨.ref T, _, rfl, ⟨T, [x', y'], rfl, ht T x' y' List.mem_cons_self, x', [y'], rfl, a1, y', [], rfl, b1, rfl⟩, repL_zip e2 a2 b2 (by simpa using hl) fun T' p q hq => ht T' p q (List.mem_cons_of_mem _ hq)⟩
theorem Ext.addT {F : FS} {H : Hp} {r : List Addr} : ∀ {l : List (Addr × V × V)}, (l.map (·.1)).Nodup → (∀ T ∈ l.map (·.1), H T = none) → Ext F H r F (updT H l) r
  | [], _, _ => Ext.refl _ _ _
  | (T, x, y) :: l, nd, h => by
    have nd' := List.nodup_cons.mp nd
    refine (Ext.addT nd'.2 fun T' hT => h T' (List.mem_cons_of_mem _ hT)).trans ?_
    show Ext F (updT H l) r F (upd (updT H l) T (.tup [x, y])) r
    exact Ext.new1 (by rw [updT_out (a := T) nd'.1]; exact h T List.mem_cons_self)
theorem Sto.addT {k : Kw} {F : FS} {H : Hp} {r : List Addr} {S : Store} (t : Sto k F H r S) : ∀ {l : List (Addr × V × V)}, (l.map (·.1)).Nodup → (∀ T ∈ l.map (·.1), H T = none) → Sto k F (updT H l) r S
  | [], _, _ => t
  | (T, x, y) :: l, nd, h => by
    have nd' := List.nodup_cons.mp nd
    unfold updT
    exact (Sto.addT t nd'.2 fun T' hT => h T' (List.mem_cons_of_mem _ hT)).new1 (by rw [updT_out (a := T) nd'.1]; exact h T List.mem_cons_self)
theorem if_lzip {a b : Expr} {p p2 pos pos2 kp cp : Pos} {ck : Nat} {m : AM} (hc : X.calm = true) (hgl : Gl X "list") (hml : X.mg "list" = none) (hgz : Gl X "zip") (hmz : X.mg "zip" = none) (ha : IA X Wx [a, b] m)
    (hs : starEach [.Call (.Name "zip" p2) [a, b] [⟨some "strict", .Constant (.bool true) ck cp, kp⟩] pos2] X.env = (false, eval (.Call (.Name "zip" p2) [a, b] [⟨some "strict", .Constant (.bool true) ck cp, kp⟩] pos2) X.env) :: starEach [] X.env := by rfl)
    (he : backTo pos2 (starEach [a, b] X.env) = (false, eval a X.env) :: backTo pos2 (starEach [b] X.env) := by rfl) (hpl : (backTo pos2 (starEach [a, b] X.env)).any (·.1) = false := by rfl) :
    IF X Wx (.Call (.Name "list" p) [.Call (.Name "zip" p2) [a, b] [⟨some "strict", .Constant (.bool true) ck cp, kp⟩] pos2] [] pos) (fLzip m) := by
  refine pe_imp (pe_lzip hc hgl hml hgz hmz ha hs he hpl) fun s H Q ⟨F0, F, r, S, sw, t, st, q⟩ => ?_
  refine tA_bind t st q fun ws vs F1 H1 r1 S1 x1 t1 st1 l1 q => ?_
  unfold lzipR at q
  split at q
  · rename_i xs ys
    obtain ⟨v1, vs1, rfl, ⟨a1, ux, rfl, b1, c1⟩, l1⟩ := l1
    obtain ⟨v2, vs2, rfl, ⟨a2, uy, rfl, b2, c2⟩, l1⟩ := l1
    cases l1
    split at q
    · rename_i hl
      refine ⟨a1, a2, ux, uy, rfl, SqL.of b1.1, SqL.of b2.1, by rw [← c1.length, ← c2.length, hl], fun l p m2 nd hT hp np => ?_⟩
      have xT := Ext.addT (F := F1) (r := r1) nd hT
      have tT := t1.addT nd hT
      have hp' : updT H1 l p = none := by rw [updT_out np]; exact hp
      have mv := (xT.trans (Ext.newF (o := .lst (l.map fun q => V.ref q.1)) hp')).mv t1.inF
      refine q (addF F1 p) _ r1 (xT.trans (Ext.newF hp')) (tT.newF hp') p (dom_back x1 hp) (.inr rfl) (tT.mem_r hp') ⟨_, upd_same, repL_zip m2 (RepL.mv mv _ _ c1) (RepL.mv mv _ _ c2) hl fun T x y h => .inl ⟨?_, fun z => ?_⟩⟩
      · rw [upd_ne fun z => np (by rw [← z]; exact List.mem_map.mpr ⟨_, h, rfl⟩)]
        exact updT_in nd h
      · have hTn := hT T (List.mem_map.mpr ⟨_, h, rfl⟩)
        rcases z with z | z
        · exact t1.trk T z hTn
        · exact np (by rw [← z]; exact List.mem_map.mpr ⟨_, h, rfl⟩)
    · exact q.elim
  · exact q.elim
end
end ML
set_option Elab.async false
set_option linter.all false
set_option maxRecDepth 100000
set_option maxHeartbeats 4000000
namespace ML
open PySem PySem.Spec PyProof.Rows L2
section
variable {X : Cx} {Wx : WX} {pos tpos : Pos}
/-! ### a, b = a tuple or a list -/
theorem pg_seq {es : List Expr} {k n : Nat} {t : TGs} (hc : X.calm = true) (h : PGs X es t) (hn : (assignEach es X.env).length = n := by rfl) (hst : (assignEach es X.env).findIdx? (·.1) = none := by rfl) :
    PG X (.Tuple es k tpos) (fun v σ H Q => gTup X.K n t v σ H Q ∨ gLst X.K n t v σ H Q) := ⟨fun pins s σ H v u Q I r q => by
  rcases q with q | q
  · exact (pg_tup hc h hn hst).run pins s σ H v u Q I r q
  · exact (pg_lst hc h hn hst).run pins s σ H v u Q I r q⟩
def sUnp (m : EM) (is : List Nat) : SM := fun sw S => liftS (m sw S) sw fun w S => match seqOf sw S w with
  | some ws => if ws.length = is.length then .ok (.nx (setAll is ws sw)) S else .bad
  | none => .bad
theorem is_unp {es : List Expr} {e : Expr} {k : Nat} {m : EM} {is : List Nat} (hc : X.calm = true) (h : IE X Wx e m) (hg : PGs X es (tGs (kw X) is)) (hn : (assignEach es X.env).length = is.length := by rfl) (hst : (assignEach es X.env).findIdx? (·.1) = none := by rfl)
    (hs : swapsWithSole [.Tuple es k tpos] e pos.line X.env = pure false := by rfl) (hw : swappedStores [.Tuple es k tpos] e X.env = pure none := by rfl)
    (h1 : (assignEach [.Tuple es k tpos] X.env).map (·.2) = [assign (.Tuple es k tpos) X.env] := by rfl) : IS X Wx (.Assign [.Tuple es k tpos] e pos) (sUnp m is) := by
  refine ps_imp (ps_asg h (pg_seq hc hg hn hst) hs hw h1) fun D s H ⟨F0, H0, r0, F, r, S, sw, x0, t, st, q⟩ => ?_
  refine tE_st x0 t st q fun w v F' H' r' S' x t' st' rv q => ?_
  split at q
  · rename_i ws hw
    split at q
    · rename_i hl
      obtain ⟨a, vs, rfl, ha, l⟩ := seq_rep t' st' (RepB.of rv) hw
      have fin : tGs (kw X) is vs s H' D.nx := ⟨F0, F', r', S', sw, ws, t', st', l, hl, fun s' z _ _ => q F' H' r' s' (x0.trans x) (Mv.refl _ _ _) t' z⟩
      rcases ha with ha | ha
      · exact .inr ⟨a, vs, rfl, SqL.of ha, by rw [← l.length]; exact hl, fin⟩
      · exact .inl ⟨a, vs, rfl, ha, by rw [← l.length]; exact hl, fin⟩
    · exact q.elim
  · exact q.elim
end
end ML
set_option Elab.async false
set_option linter.all false
set_option maxRecDepth 100000
set_option maxHeartbeats 4000000
namespace ML
open PySem PySem.Spec PyProof.Rows L2
section
variable {prog : Program} {w : World}
open PySem.SeqAt in
theorem list_eq_far (l b : Addr) (items items2 : Array Value) (n n2 : Nat) (dd dd2 : Option Addr) (sl sl2 : Array (Option Value)) (hsz : items.size ≠ items2.size) :
    Meets (Builtin.«list.__eq__» ⟨[.ref l, .ref b], []⟩)
      (fun A R s => s.heap.get? l = some { cls := .type "list", dict := dd, data := .seq items n, slots := sl } ∧ s.heap.get? b = some { cls := .type "list", dict := dd2, data := .seq items2 n2, slots := sl2 } ∧ R (.ok (.ret (.bool false))) s) :=
  .of_wp fun prog w A R s h => by
    obtain ⟨hp, g, d, tk, os⟩ := s; obtain ⟨hl, hb, h⟩ := h
    have f3 := AutoSeq1.sub_list_list
    have hne : (items.size != items2.size) = true := by simp [hsz]
    wp_walk using wpAny_loadPart' hl, wpAny_loadPart' hb
    exact ⟨_, rfl, h⟩
end
section
variable {X : Cx} {Wx : WX}
def rEqL (K : PySem.W.Frag) : R2 := fun x y H Q => rEqD K x y H Q ∨ ∃ a b xs ys, x = .ref a ∧ y = .ref b ∧ SqL K H a xs ∧ SqL K H b ys ∧ xs.length ≠ ys.length ∧ Q (.bl false) H
theorem op_eqL (hu : X.A.units + 64 < cLine) : OpR X (compareOp .Eq) (rEqL X.K) := by
  intro pins s σ H x y v u Q I rx ry h
  rcases h with h | ⟨a, b, xs, ys, rfl, rfl, h1, h2, hl, q⟩
  · exact op_eqD hu pins s σ H x y v u Q I rx ry h
  · cases rx
    cases ry
    obtain ⟨its1, rv1, p1, _⟩ := I.list h1
    obtain ⟨its2, rv2, p2, _⟩ := I.list h2
    obtain ⟨⟨cls, dd, data, sl⟩, ho, hc, n, hd⟩ := p1.isList
    obtain ⟨⟨cls2, dd2, data2, sl2⟩, ho2, hc2, n2, hd2⟩ := p2.isList
    simp only at hc hd hc2 hd2
    subst hc hd hc2 hd2
    have ta : s.TypeIs (.ref a) "list" := ⟨_, ho, rfl⟩
    have tb : s.TypeIs (.ref b) "list" := ⟨_, ho2, rfl⟩
    have e1 := rv1.length
    have e2 := rv2.length
    show wpAny _ _ (richCompare .Eq (.ref a) (.ref b)) _ _ _
    refine wpAny_richCompare_same_room (op := .Eq) ta tb PySem.F.slot_list_eq (call_meets PySem.F.slot_list_eq ta PySem.F.entry_list_eq (PySem.F.args_list_eq_2 _ _) (list_eq_far a b its1.toArray its2.toArray n n2 dd dd2 sl sl2 (by simp; omega))
      ⟨ho, ho2, ?_⟩) (by omega)
    exact ⟨(fun x => nomatch x), .bl false, H, I, rfl, q⟩
def opEq2 : F2 := fun sw x y S => match dat sw S 60 x, dat sw S 60 y with
  | some d, some e => .ok (.bl (PyData.eqv d e)) S
  | _, _ => match cont sw S x, cont sw S y with
    | some xs, some ys => if xs.length = ys.length then .bad else .ok (.bl false) S
    | _, _ => .bad
theorem sp_eq2 {k : Kw} : Sp2 k (rEqL k.K) opEq2 := by
  intro F0 F H rho S s sw x y v u Wx Q t st bx hy q
  unfold opEq2 at q
  split at q
  · rename_i d e h1 h2
    obtain ⟨a1, a2, a3⟩ := dat_rep t st 60 x v d bx h1
    obtain ⟨b1, b2, b3⟩ := dat_rep t st 60 y u e hy h2
    exact .inl ⟨d, e, a1, b1, shaped_of a2 a3 (by decide), shaped_of b2 b3 (by decide), q.ok t _ rfl⟩
  · split at q
    · rename_i xs ys h1 h2
      split at q
      · exact q.elim
      · rename_i hl
        obtain ⟨a, vs, rfl, ha, l⟩ := cont_rep t st bx h1
        obtain ⟨b, us, rfl, hb, l'⟩ := cont_rep t st hy h2
        exact .inr ⟨a, b, vs, us, rfl, rfl, SqL.of ha, SqL.of hb, by rw [← l.length, ← l'.length]; exact hl, q.ok t _ rfl⟩
    · exact q.elim
end
end ML
set_option Elab.async false
set_option linter.all false
set_option maxRecDepth 100000
set_option maxHeartbeats 4000000
namespace ML
open PySem PySem.Spec PyProof.Rows L2

/-! ### X(), X(e): an own exception without __init__ as a value -/
theorem xo_ok {P : Program} {w : World} {H : Hp} {h : Heap} {a : Addr} {cls : Value} {d : Option Addr} {oe : Obj} {vs : Array Value} (e : h.get? a = some oe) (z : Zc cls d oe) (ed : oe.data = .fields vs) : ObjOk P w H h a (XO cls d a) :=
  ⟨⟨oe, vs, e, z, ed⟩, ⟨oe, e⟩, fun h1 h2 ⟨o1, v1, g1, g2, g3⟩ k => ⟨o1, v1, k _ g1, g2, g3⟩⟩
section
variable {X : Cx} {Wx : WX} {C : Addr} {x : Str} {p pos : Pos}
theorem pe_x0 (q : PySem.W.excIn X.K C He.veBase "ValueError.__new__" = true) (gC : X.mg x = some (.ref C)) (kC : PySem.W.keepIn X.K (.ref C) = true) (hg : Gl X x) (hdb : (x == ("__debug__" : Str)) = false := by decide) :
    PE X (.Call (.Name x p) [] [] pos) (fun σ H Q => ∀ a, H a = none → Q (.ref a) (upd H a (XO (.ref C) none a))) := by
  refine ⟨fun pins s σ H Q I h => wpAny_Call_Name_kw (ld_glob I hg gC (PySem.W.callWith_K0 I.kIn kC ?_) hdb)⟩
  obtain ⟨bm, N, nm, qn, bs, hdct, sn, sub, ab, col, dd, k0, k1, k2, k3, k5, mN, hC, hN, hni, T⟩ := exc_obj I.kIn q
  refine wpAny_call_exc_subT PySem.F.excBase_ValueError T hC hN hni (fun h' a hm => ?_) (Nat.zero_le _)
  have n0 : H a = none := I.hok.gone hm.new
  obtain ⟨t, ht, _, _⟩ := hm.there
  exact ⟨.ref a, _, I.laidN hm.keeps hm.new n0 (xo_ok ht ⟨rfl, rfl⟩ rfl), rfl, h a n0⟩
theorem pe_x1 {e : Expr} {es : List Expr} {ta : TA} (q : PySem.W.excIn X.K C He.veBase "ValueError.__new__" = true) (gC : X.mg x = some (.ref C)) (kC : PySem.W.keepIn X.K (.ref C) = true) (hg : Gl X x) (ha : PA X (e :: es) ta)
    (hs : starEach (e :: es) X.env = (false, eval e X.env) :: starEach es X.env := by rfl) (hp : (backTo pos (starEach es X.env)).any (·.1) = false := by rfl) (hdb : (x == ("__debug__" : Str)) = false := by decide) :
    PE X (.Call (.Name x p) (e :: es) [] pos) (fun σ H Q => ta σ H fun vs H1 => vs.length ≤ 1000 ∧ ∀ a, H1 a = none → Q (.ref a) (upd H1 a (XO (.ref C) none a))) := by
  refine ⟨fun pins s σ H Q I h => ?_⟩
  refine wpAny_Call_Name_kw (ld_glob I hg gC (PySem.W.callWith_K (h₀ := X.base) I.ok.mod.kin kC (thn (ha.run pos pins s σ H _ I h) fun us s1 ⟨vs, H1, J, rl, el, q1⟩ => ⟨J.kIn, ?_⟩) hs hp) hdb)
  obtain ⟨bm, N, nm, qn, bs, hdct, sn, sub, ab, col, dd, k0, k1, k2, k3, k5, mN, hC, hN, hni, T⟩ := exc_obj J.kIn q
  refine wpAny_call_exc_subT PySem.F.excBase_ValueError T hC hN hni (fun h' a hm => ?_) (by rw [List.nil_append, ← rl.length, sizeLine_eq]; omega)
  have n0 : H1 a = none := J.hok.gone hm.new
  obtain ⟨t, ht, _, _⟩ := hm.there
  exact ⟨.ref a, _, J.laidN hm.keeps hm.new n0 (xo_ok ht ⟨rfl, rfl⟩ rfl), rfl, q1 a n0⟩
def eMkX (c : Str) : EM := fun _ S => .ok (.exc c [] []) S
def eMkX1 (c : Str) (n : AM) : EM := fun sw S => (n sw S).bind fun ws S => if ws.length ≤ 1000 then .ok (.exc c [] []) S else .bad
theorem rep_x0 {k : Kw} {F : FS} {H : Hp} {r : List Addr} {S : Store} {a : Addr} {c : Str} (t : Sto k F H r S) (hp : H a = none) : RepV k F (upd H a (XO (.ref (He.ga k.K c)) none a)) r (.exc c [] []) (.ref a) :=
  ⟨a, none, [], rfl, t.free hp, upd_same, ⟨rfl, .inl ⟨rfl, rfl⟩⟩, rfl⟩
theorem ie_mkx0 (q : PySem.W.excIn X.K (He.ga X.K x) He.veBase "ValueError.__new__" = true) (gC : X.mg x = some (.ref (He.ga X.K x))) (kC : PySem.W.keepIn X.K (.ref (He.ga X.K x)) = true) (hg : Gl X x) (hdb : (x == ("__debug__" : Str)) = false := by decide) :
    IE X Wx (.Call (.Name x p) [] [] pos) (eMkX x) :=
  pe_imp (pe_x0 q gC kC hg hdb) fun s H Q ⟨F0, F, r, S, sw, t, st, q⟩ a hp => q F _ r (Ext.new1 hp) (t.new1 hp) (.ref a) (rep_x0 t hp)
theorem ie_mkx1 {e : Expr} {es : List Expr} {n : AM} (q : PySem.W.excIn X.K (He.ga X.K x) He.veBase "ValueError.__new__" = true) (gC : X.mg x = some (.ref (He.ga X.K x))) (kC : PySem.W.keepIn X.K (.ref (He.ga X.K x)) = true) (hg : Gl X x) (ha : IA X Wx (e :: es) n)
    (hs : starEach (e :: es) X.env = (false, eval e X.env) :: starEach es X.env := by rfl) (hp : (backTo pos (starEach es X.env)).any (·.1) = false := by rfl) (hdb : (x == ("__debug__" : Str)) = false := by decide) :
    IE X Wx (.Call (.Name x p) (e :: es) [] pos) (eMkX1 x n) := by
  refine pe_imp (pe_x1 q gC kC hg ha hs hp hdb) fun s H Q ⟨F0, F, r, S, sw, t, st, q⟩ => ?_
  refine tA_bind t st q fun ws vs Fb Hb rb Sb xb tb sb bb q => ?_
  by_cases hl : ws.length ≤ 1000
  · rw [if_pos hl] at q
    exact ⟨by rw [← bb.length]; exact hl, fun a hp => q Fb _ rb (Ext.new1 hp) (tb.new1 hp) (.ref a) (rep_x0 tb hp)⟩
  · rw [if_neg hl] at q
    exact q.elim
end
end ML
set_option Elab.async false
set_option linter.all false
set_option maxRecDepth 100000
set_option maxHeartbeats 4000000
namespace ML
open PySem PySem.Spec PyProof.Rows L2

/-! ### an own exception whose __init__ says super().__init__('..') and then self.f = f -/
/-- what the written part says of the class at C: its __init__ at fI keeps the field f -/
structure SxC (K : PySem.W.Frag) (file : Str) (C fI : Addr) (f : Str) : Prop where
  oex : OexC K C
  ini : PySem.W.findIn K (.ref C) "__init__" = some (some (.ref fI))
  ity : PySem.W.typeIn K (.ref fI) = some (.type "function")
  fn : ∃ (oc : Value) (od : Option Addr) (osl : Array (Option Value)) (nm qual tx : Str) (j : Nat) (p0 p1 p2 p3 p4 p5 p6 p7 p8 p9 : Pos) (a0 a1 : Arg) (scope : Scope) (kV doc pm ct : Value) (an : Option Addr) (cda cc : Addr),
    K.lookup fI = some ⟨oc, od, .func (PySem.W.ksFn nm qual ⟨[], [a0, a1], none, [], [], none, []⟩
      [.Expr (.Call (.Attribute (.Call (.Name "super" p0) [] [] p1) "__init__" p2) [.Constant (.str tx) j p3] [] p4) p5, .Assign [.Attribute (.Name "self" p6) f p7] (.Name f p8) p9] scope .none kV doc pm an (.ref cda) ct cc), osl⟩ ∧
    (p2.endLine == p4.line) = true ∧ a0.arg = "self" ∧ a1.arg = f ∧ PySem.W.codeIn K (.ref cda) qual = true ∧
    (∃ ccl cdd vs ccs tf, K.lookup cda = some ⟨ccl, cdd, .fields vs, ccs⟩ ∧ vs[2]? = some (.str file tf)) ∧
    (∃ cl cld csl, K.lookup cc = some ⟨cl, cld, .cell (some (.ref C)), csl⟩) ∧
    scope.names.lookup ("super" : Str) = some .globalImplicit ∧ scope.names.lookup ("__class__" : Str) = some .free ∧ scope.names.lookup ("self" : Str) = some .local ∧ scope.names.lookup f = some .local ∧
    scope.kind = .function ∧ (scope.names.all fun x => decide (x.2 ≠ .cell)) = true ∧ scope.isCoroutine = false ∧ scope.isGenerator = false
  sup : PySem.W.ks_superIn K C C "__init__" = some (some (.builtin "ValueError.__init__"))
  opq : PySem.W.nsIn K cStatics "thirdparty.any" = some none
  sub : PySem.W.subIn K (.ref C) (.type "ValueError") = some true
  self : PySem.W.mroIn K C (.ref C) = some true
  fld : PySem.W.findIn K (.ref C) f = some none
  ne : f ≠ "self"
  dbg : (f == ("__debug__" : Str)) = false

section
variable {prog : Program} {w : World} {A : Around} {R : Result → Shared → Prop} {hp : Heap} {g : Array GenState} {d : Drawn} {t : Nat} {os : OsState} {K : PySem.W.Frag} {file f : Str} {C fI e t0 : Addr} {v : Value} {args : Args} {mg mb : Str → Option Value}
theorem sx_base {E : Value → Shared → Prop} {Q : Value → Shared → Prop} {u e t0 : Addr} {x : Value} {nm q : Str} {N : Addr} {bs bm sub : List Value} {hd : Bool} {sn : List Str} {ab : Bool} {col : Option Bool} {dd : Option Addr} {k0 k1 k2 k3 k5 : Option Value}
    (hC : hp.get? C = some (excClassObj nm q C N bs bm hd sn sub ab col dd k0 k1 k2 k3 k5 "ValueError.__new__")) (he : hp.get? e = some (PySem.HandSPX.excO C t0)) (hu : hp.get? u = some (PySem.W.kxs_mw "ValueError.__init__" e))
    (hq : ∀ h' t1, (∀ b o, b ≠ e → hp.get? b = some o → h'.get? b = some o) → h'.get? e = some (PySem.HandSPX.excO C t1) → Q .none ⟨h', g, d, t, os⟩) :
    wpAny (model prog w) A (call (.ref u) [x]) Q E ⟨hp, g, d, t, os⟩ := by
  have B := PySem.F.excBase_ValueError
  refine wpAny_call (codeAny_of_tree (show wpAny _ A.in1 (callAny (.ref u) ⟨[x], []⟩) _ _ _ from ?_))
  unfold callAny
  refine wpAny_bind (wpAny_load hu (PySem.W.KFB.if_so (by show (Value.type "method-wrapper" == .type "method" || Value.type "method-wrapper" == .type "builtin_function_or_method" || Value.type "method-wrapper" == .type "method-wrapper") = true; decide) ?_))
  refine wpAny_bind (PySem.W.check_bound_init B.toExcCallFacts hC he rfl (wpAny_bind (wpAny_pure (wpAny_pure ⟨plainId_quiet B.init.plain _, codeAny_builtin B.initEntry ?_⟩))))
  exact PySem.W.exc_init_tree (cls := .ref C) (t0 := t0) (dv := none) (c2 := .none) (c3 := .none) (b4 := .bool false) he (show 1 ≤ sizeLine by rw [sizeLine_eq]; omega) fun h' k e1 _ => hq h' _ k e1
theorem sx_run (T : SxC K file C fI f) (hfile : ((prog.main.file : Str) == file) = true) (htop : (prog.main.scope.names.lookup ("super" : Str)).isSome = false) (X : K.In hp) (hlim : hp.NoLimit)
    (hmg : hp.Ns mainGlobals mg) (hms : mg "super" = none) (hmb : hp.Ns builtinsNs mb) (hbb : mb "super" = some (.type "super")) (hroom : A.depth < recursionLimit)
    (hargs : args = ⟨[.ref e, v], []⟩ ∨ args = ⟨[.ref e], [(f, v)]⟩) (he : hp.get? e = some (PySem.HandSPX.excO C t0)) (hKe : K.lookup e = none)
    (hq : ∀ h' t1 dx tk, (∀ b o, b ≠ e → hp.get? b = some o → h'.get? b = some o) → hp.objs.size ≤ dx → h'.get? e = some { cls := .ref C, dict := some dx, data := .fields #[.ref t1, .none, .none, .none, .bool false, .none] } →
      h'.Ns1 dx (fun y => if y = f then some v else none) → R (.ok (.ret .none)) ⟨h', g, d, tk, os⟩) :
    codeAny (model prog w) A (.call (.ref fI) args) R ⟨hp, g, d, t, os⟩ := by
  obtain ⟨oc, od, osl, nm, qual, tx, j, p0, p1, p2, p3, p4, p5, p6, p7, p8, p9, a0, a1, scope, kV, doc, pm, ct, an, cda, cc, hf, hline, e0, e1, hcd, ⟨ccl, cdd, vs, ccs, tf, hco, hvs⟩, ⟨cl, cld, csl, hcell⟩, s1, s2, s3, s4, s5, s6, s7, s8⟩ := T.fn
  obtain ⟨sk, snm, sge, sco, smo⟩ := scope
  dsimp only at s1 s2 s3 s4 s5 s6 s7 s8
  subst s5 s7 s8
  have hb : BindsTo ⟨hp, g, d, t, os⟩ (PySem.W.ksFn nm qual ⟨[], [a0, a1], none, [], [], none, []⟩
      [.Expr (.Call (.Attribute (.Call (.Name "super" p0) [] [] p1) "__init__" p2) [.Constant (.str tx) j p3] [] p4) p5, .Assign [.Attribute (.Name "self" p6) f p7] (.Name f p8) p9] ⟨.function, snm, false, false, smo⟩ .none kV doc pm an (.ref cda) ct cc) args [("self", .ref e), (f, v)] := by
    have hne : (f == ("self" : Str)) = false := by simpa using T.ne
    have hne2 : (("self" : Str) == f) = false := by simpa using (Ne.symm T.ne)
    rcases hargs with rfl | rfl
    · refine BindsTo.of_eq ?_
      unfold bindArgs
      simp [e0, e1, hne, hne2, List.lookup, seqItems?]
      rfl
    · refine BindsTo.of_eq ?_
      unfold bindArgs
      simp [e0, e1, hne, hne2, List.lookup, seqItems?]
      rfl
  have hloc : ∀ x ∈ [(("self" : Str), Value.ref e), (f, v)], snm.lookup x.1 = some .local := fun x hx => by
    rcases List.mem_cons.mp hx with rfl | hx
    · exact s3
    · rw [List.mem_singleton.mp hx]
      exact s4
  refine ks_codeAny_call_defAt (binds := [("self", .ref e), (f, v)]) hroom (X _ _ hf) rfl hlim (PySem.W.codeRec_of X hcd) rfl hb (fun x hx => of_decide_eq_true (List.all_eq_true.mp s6 x hx)) hloc (fun h0 hns hk => ?_)
  have X0 : K.In h0 := X.keeps hk
  obtain ⟨cn, q, N, bs, bm, sn, sub, ab, col, dd, k0, k1, k2, k3, k5, hC, hbm⟩ := T.oex.cls
  have hcl : PySem.W.clsIn K C = some { name := cn, bases := bs, mro := .ref C :: bm, ns := N, qualname := q, hasDict := true, slotNames := sn, subclasses := sub, abstract := ab, collection := col, hasDel := false } := by unfold PySem.W.clsIn; rw [hC] <;> rfl
  have n1 : ([(("self" : Str), Value.ref e), (f, v)].reverse.lookup ("self" : Str)) = some (.ref e) := by
    have : (("self" : Str) == f) = false := by simpa using (Ne.symm T.ne)
    simp [List.lookup, this]
  have n2 : ([(("self" : Str), Value.ref e), (f, v)].reverse.lookup f) = some v := by simp [List.lookup]
  refine ks_wpAt_execs_cons (ks_wpAt_Expr_any (ks_wpAt_MethodCall (pl := (do return (← importBound (.Call (.Name "super" p0) [] [] p1) (PySem.W.ksEnv qual ⟨.function, snm, false, false, smo⟩ hp.objs.size fI (.ref cda) cc)).getD true)) ?_ (he := ?he)))
  case he =>
    show (attributeBase _ _ _ _ >>= fun ov => standAt p2.atName >>= fun _ => methodCall _ _ p2 p4 _ ov _ _ _) = _
    unfold methodCall methodCallPos calleeOf
    simp only [hline, Bool.or_true, if_true, pure_bind]
    rfl
  refine ks_wpAt_super_base (ar := a0) s1 s2 (by decide) rfl (X0 _ _ hf) rfl rfl rfl (X0 _ _ hco) rfl hvs hfile htop ?_
  refine PySem.W.ks_loadName_global rfl s1 (Calls.loadGlobal_builtin (hmg.keeps hk) hms (hmb.keeps hk) hbb ⟨rfl, ?_⟩)
  refine wpAny_loadName_free rfl s2 rfl ⟨_, X0 _ _ hcell, rfl⟩ ?_
  rw [e0]
  refine wpAny_loadName_local rfl s3 hns n1 ?_
  refine ks_wpAny_isType_cls (X0 _ _ hC) rfl ⟨rfl, ?_⟩
  have he0 := hk _ _ he
  refine ks_wpAny_call_super (X0 _ _ hC) rfl he0 rfl (fun c z => by cases z) (PySem.W.looks_mroIn X0 T.self) (fun h1 hso k1 => ?_)
  have X1 : K.In h1 := X0.keeps k1
  have I1 : PySem.W.InstAt h1 e (PySem.HandSPX.excO C t0) C none := ⟨k1 _ _ he0, rfl, rfl, trivial⟩
  have hI : PySem.W.Looks (model prog w) h1 (isInstance (.ref e) (.type "ValueError")) true := I1.type.andThen (PySem.W.looks_subIn X1 T.sub)
  have hsup : PySem.W.alongIn K "__init__" (((Value.ref C :: bm).dropWhile (· != .ref C)).drop 1) = some (some (.builtin "ValueError.__init__")) := by
    have z := T.sup
    unfold PySem.W.ks_superIn at z
    rw [hcl] at z
    exact z
  have hec : e ≠ C := PySem.W.ks_ne X1 I1 hcl
  refine PySem.W.kxs_getMethod PySem.W.kxs_ValueError hso (PySem.W.looks_opaque X1 T.opq) (l₀ := .ref C :: bm) ((PySem.W.looks_clsIn X1 hcl).andThen .now) rfl X1 hsup hI hec (by decide) ?_
  have k2 : ∀ b o, h1.get? b = some o → (h1.push (PySem.W.kxs_mw "ValueError.__init__" e)).get? b = some o := fun b o z => Heap.get?_push_of_some _ z
  refine PySem.W.kxs_callWith (i := "ValueError.__init__") (x := e) rfl ?_
  show wpAny _ _ (evalArgs _ true ((false, eval (.Constant (.str tx) j p3) (PySem.W.ksEnv qual ⟨.function, snm, false, false, smo⟩ hp.objs.size fI (.ref cda) cc)) :: []) []) _ _ _
  refine Calls.evalArgs_plain (Calls.spliced_cons (Calls.Constant_str (Calls.spliced_nil ⟨Heap.get?_push_at rfl rfl, ?_⟩)))
  refine sx_base (hC := k2 _ _ (X1 _ _ hC)) (he := k2 _ _ (k1 _ _ he0)) (Heap.get?_push_at rfl rfl) fun h3 t1 k3 he3 => ?_
  have kk : ∀ b o, hp.get? b = some o → b ≠ e → h3.get? b = some o := fun b o z ne => k3 _ _ ne (k2 _ _ (k1 _ _ (hk _ _ z)))
  have X3 : K.In h3 := fun b o z => kk b o (X b o z) fun q => by
    rw [q, hKe] at z
    cases z
  have hLe : hp.objs.size ≠ e := Nat.ne_of_gt (Heap.lt_size he)
  have ns3 : h3.Ns hp.objs.size fun x => [(("self" : Str), Value.ref e), (f, v)].reverse.lookup x := by
    obtain ⟨oL, es, ep, hL, r⟩ := hns
    exact ⟨oL, es, ep, k3 _ _ hLe (k2 _ _ (k1 _ _ hL)), r⟩
  refine wpAt_of_wpAny (wpAny_execs_cons (plainObj_wpAny_Assign_Attribute ?_))
  refine wpAny_Name (wpAny_loadName_local rfl s4 ns3 n2 ?_) T.dbg
  refine wpAny_Name (wpAny_loadName_local rfl s3 ns3 n1 ?_)
  refine PySem.W.set_plain X3 (ox := PySem.HandSPX.excO C t1) (od := none) ⟨he3, rfl, rfl, trivial⟩ T.oex.sa ?_
  refine PySem.HandSPX.exc_osa X3 he3 hcl (show PySem.HandSPX.refsVE (.ref C :: bm) = true from hbm) rfl T.fld (fun h4 tk dx k4 dn dne hx hn => ?_)
  refine wpAny_execs_nil (hq h4 t1 dx tk (fun b o ne z => k4 b o ne (kk b o z ne)) ?_ hx hn)
  obtain ⟨oL, _, _, hL, _⟩ := ns3
  exact Nat.le_trans (Nat.le_of_lt (Heap.lt_size hL)) dn
end
section
variable {X : Cx} {pins : List (Addr × Obj)} {σ : L2.St} {H : Hp}
/-- an exception object and its dict laid -/
theorem inv_laid2 {hp h' : Heap} {g : Array GenState} {d : Drawn} {t tk : Nat} {os : OsState} {a dx C t1 : Addr} {f : Str} {y : V} {u : Value} (I : Inv X pins σ H ⟨hp, g, d, t, os⟩) (ha : hp.objs.size ≤ a) (hd : hp.objs.size ≤ dx)
    (k : ∀ b o, hp.get? b = some o → h'.get? b = some o) (he : h'.get? a = some { cls := .ref C, dict := some dx, data := .fields #[.ref t1, .none, .none, .none, .bool false, .none] }) (hn : h'.Ns1 dx (fun z => if z = f then some u else none)) (ry : RelV y u) :
    H a = none ∧ H dx = none ∧ dx ≠ a ∧ Inv X pins σ (upd (upd H dx (.xd [(f, y)])) a (XO (.ref C) (some dx) a)) ⟨h', g, d, tk, os⟩ := by
  have na : H a = none := I.hok.fresh ha
  have nd : H dx = none := I.hok.fresh hd
  have ne : dx ≠ a := fun z => by
    obtain ⟨o, es, ep, e1, e2, _⟩ := hn
    rw [z, he] at e1
    cases e1
    cases e2
  have up : ∀ b o, H b = some o → upd (upd H dx (.xd [(f, y)])) a (XO (.ref C) (some dx) a) b = some o := fun b o z => by
    rw [upd_ne (ne_of_none z na), upd_ne (ne_of_none z nd)]
    exact z
  have old : ∀ {b : Addr} {o : Obj}, hp.get? b = some o → b ≠ a ∧ b ≠ dx := fun {b o} z => ⟨Nat.ne_of_lt (Nat.lt_of_lt_of_le (Heap.lt_size z) ha), Nat.ne_of_lt (Nat.lt_of_lt_of_le (Heap.lt_size z) hd)⟩
  refine ⟨na, nd, ne, I.un (t' := tk) ⟨fun b o z _ _ _ => k b o z, fun b o z _ _ _ => ⟨o.slots, k b o z⟩, fun b o z n _ => ?_, fun b o z _ => ⟨o, k b o z⟩, fun b xs => up b _, fun b o v => up b _, fun b ps z => ⟨#[], by rw [up b _ z]; simp⟩⟩ fun b o z => ?_⟩
  · rw [upd_ne (old z).1, upd_ne (old z).2]
    exact n
  · by_cases hb : b = a
    · subst hb
      rw [upd_same] at z
      cases z
      exact xo_ok he ⟨rfl, rfl⟩ rfl
    · rw [upd_ne hb] at z
      by_cases hb2 : b = dx
      · subst hb2
        rw [upd_same] at z
        cases z
        exact ⟨_, hn, relO_put (fs := []) ry fun g => True.intro⟩
      · rw [upd_ne hb2] at z
        exact (I.hok b o z).stay (fun c v _ q => k c v q) (fun c => up c _) fun c xs => up c _
end
end ML
set_option Elab.async false
set_option linter.all false
set_option maxRecDepth 100000
set_option maxHeartbeats 4000000
namespace ML
open PySem PySem.Spec PyProof.Rows L2

/-! ### an own exception class called with keywords alone -/
section
variable {prog : Program} {w : World} {M : Model} {A : Around} {E : Value → Shared → Prop} {R : Result → Shared → Prop} {h : Heap} {g : Array GenState} {d : Drawn} {t : Nat} {os : OsState}
variable {nm q : Str} {C N : Addr} {bs bm bmB : List Value} {hdct : Bool} {sn : List Str} {sub : List Value} {ab : Bool} {col : Option Bool} {dd : Option Addr} {k0 k1 k2 k3 k5 : Option Value} {B newId initId : String} {f : Str} {v : Value}
theorem kwx_checkNew (F : ExcBaseFacts B newId initId bmB) (hT : ∀ X : String, bm.contains (.type X) = bmB.contains (.type X)) {Q : Unit → Shared → Prop}
    (hC : h.get? C = some (excClassObj nm q C N bs bm hdct sn sub ab col dd k0 k1 k2 k3 k5 newId)) (hq : Q () ⟨h, g, d, t, os⟩) : wpAny M A (checkBuiltinCall newId ⟨[.ref C], [(f, v)]⟩) Q E ⟨h, g, d, t, os⟩ := by
  have c1 : (Value.ref C :: bm).contains (.type B) = true := by simp only [List.contains_cons, hT, F.hasB, Bool.or_true]
  have c2 := F.noStar
  simp only [checkBuiltinCall, F.newKind, F.newSplit, F.newRow]
  repeat (first
    | with_reducible refine wpAny_loadPart_at hC ?_
    | (refine wpAny_isSubtype_exc hC ?_; rw [c1])
    | refine wpAny_staticBase_exc hC ?_
    | refine wpAny_madeBy_exc hC ?_
    | simp only [bne_self_eq_false, Bool.false_eq_true, if_false]
    | wp_step)
  exact hq
theorem kwx_new (F : ExcBaseFacts B newId initId bmB) (hT : ∀ X : String, bm.contains (.type X) = bmB.contains (.type X))
    (hC : h.get? C = some (excClassObj nm q C N bs bm hdct sn sub ab col dd k0 k1 k2 k3 k5 newId))
    (hq : R (.ok (.ret (.ref (h.objs.size + 1)))) ⟨(h.push (PySem.W.kdv_tup [])).push (PySem.HandSPX.excO C h.objs.size), g, d, t, os⟩) :
    codeAny (model prog w) A (.builtin newId ⟨[.ref C], [(f, v)]⟩) R ⟨h, g, d, t, os⟩ := by
  have hends := F.ends
  have c1 : (Value.ref C :: bm).contains (.type B) = true := by simp only [List.contains_cons, hT, F.hasB, Bool.or_true]
  have c2 : (Value.ref C :: bm).contains (.type "AttributeError") = false := by simp only [List.contains_cons, hT, F.noAttr]; rfl
  have c3 : (Value.ref C :: bm).contains (.type "NameError") = false := by simp only [List.contains_cons, hT, F.noName]; rfl
  refine codeAny_builtinAt F.entry ?_
  unfold Builtin.«BaseException.__new__»
  refine _root_.PySem.wpAt_bind (show _root_.PySem.wpAt _ _ _ (stack >>= _) _ _ _ from _root_.PySem.wpAt_bind (_root_.PySem.wpAt_stack fun p below => _root_.PySem.wpAt_of_wpAny ?_))
  wp_walk
  refine _root_.PySem.wpAt_of_wpAny ?_
  rw [F.owner]
  repeat (first
    | with_reducible refine wpAny_madeHere_exc F.canon hC ?_
    | with_reducible refine wpAny_loadPart_at hC ?_
    | (with_reducible refine wpAny_isSubtype_exc hC ?_; first | rw [c1] | rw [c2] | rw [c3])
    | wp_step)
  show R _ _
  rw [Heap.size_push]
  exact hq
theorem kwx_typeCall (F : ExcBaseFacts B newId initId bmB) (hT : ∀ X : String, bm.contains (.type X) = bmB.contains (.type X)) {fI : Addr} {Q : Fin → Shared → Prop}
    (hC : h.get? C = some (excClassObj nm q C N bs bm hdct sn sub ab col dd k0 k1 k2 k3 k5 newId))
    (hi : PySem.W.Looks (model prog w) h (typeLookup (.ref C) "__init__") (some (.ref fI))) (hb : ∀ self, PySem.W.Looks (model prog w) h (bindSpecial (.ref fI) self) (.ref fI, [self]))
    (hq : codeAny (model prog w) A (.call (.ref fI) ⟨[.ref (h.objs.size + 1)], [(f, v)]⟩)
      (fun r s' => match r with | .ok (.ret v) => v = .none ∧ Q (.done (.ret (.ref (h.objs.size + 1)))) s' | .ok _ => False | .error e => E e s')
      ⟨(h.push (PySem.W.kdv_tup [])).push (PySem.HandSPX.excO C h.objs.size), g, d, t, os⟩) :
    wpAny (model prog w) A (Builtin.«type.__call__» ⟨[.ref C], [(f, v)]⟩) Q E ⟨h, g, d, t, os⟩ := by
  have k : ∀ b o, h.get? b = some o → ((h.push (PySem.W.kdv_tup [])).push (PySem.HandSPX.excO C h.objs.size)).get? b = some o := fun b o e => Heap.get?_push_of_some _ (Heap.get?_push_of_some _ e)
  have hg : ((h.push (PySem.W.kdv_tup [])).push (PySem.HandSPX.excO C h.objs.size)).get? (h.objs.size + 1) = some (PySem.HandSPX.excO C h.objs.size) := by heap_get
  have hC1 := k _ _ hC
  have cC : (Value.ref C :: bm).contains (.ref C) = true := by simp
  have i1 := hi.keeps k
  have b1 := (hb (.ref (h.objs.size + 1))).keeps k
  repeat (first
    | with_reducible refine wpAny_loadPart_at hC ?_
    | with_reducible refine wpAny_madeBy_exc hC ?_
    | wp_step)
  refine codeAny_call_builtin_code (Code.quiet_builtin _ F.quiet) (kwx_checkNew F hT hC (kwx_new F hT hC (show wpAny _ _ _ _ _ _ from ?_)))
  unfold isInstance
  repeat (first
    | with_reducible refine wpAny_loadPart_at hg ?_
    | (with_reducible refine wpAny_isSubtype_exc hC1 ?_; rw [cC])
    | wp_step)
  refine (show wpAny _ _ (typeLookup (.ref C) _) _ _ _ from i1.at (wpAny_holding (wpAny_bind (b1.at (wpAny_bind (wpAny_call (codeAny_mono hq fun r s' z => ?_)))))))
  rcases r with e | (v | _ | _ | _) <;> first | exact z | exact z.elim | skip
  obtain ⟨rfl, z⟩ := z
  first
    | exact wpAny_pure (wpAny_pure z)
    | (wp_walk; exact z)
theorem kwx_checkType {Q : Unit → Shared → Prop} (hC : h.get? C = some (excClassObj nm q C N bs bm hdct sn sub ab col dd k0 k1 k2 k3 k5 newId))
    (hq : Q () ⟨h, g, d, t, os⟩) : wpAny M A (checkBuiltinCall "type.__call__" ⟨[.ref C], [(f, v)]⟩) Q E ⟨h, g, d, t, os⟩ := by
  have c3 := tc_sub
  have cT : (⟨h, g, d, t, os⟩ : Shared).TypeIs (.ref C) "type" := ⟨_, hC, rfl⟩
  simp only [checkBuiltinCall, tc_kind, tc_split]
  repeat (any_goals (first
    | assumption
    | with_reducible refine wpAny_loadPart_at hC ?_
    | with_reducible refine wpAny_onRaise ?_
    | with_reducible refine wpAny_map ?_
    | wp_step))
theorem kwx_call (F : ExcBaseFacts B newId initId bmB) (hT : ∀ X : String, bm.contains (.type X) = bmB.contains (.type X)) {fI : Addr}
    (hC : h.get? C = some (excClassObj nm q C N bs bm hdct sn sub ab col dd k0 k1 k2 k3 k5 newId))
    (hi : PySem.W.Looks (model prog w) h (typeLookup (.ref C) "__init__") (some (.ref fI))) (hb : ∀ self, PySem.W.Looks (model prog w) h (bindSpecial (.ref fI) self) (.ref fI, [self]))
    (hq : codeAny (model prog w) (A.under (.builtin "type.__call__" ⟨[.ref C], [(f, v)]⟩)) (.call (.ref fI) ⟨[.ref (h.objs.size + 1)], [(f, v)]⟩) (PySem.W.InitBack (h.objs.size + 1) R)
      ⟨(h.push (PySem.W.kdv_tup [])).push (PySem.HandSPX.excO C h.objs.size), g, d, t, os⟩) :
    codeAny (model prog w) A (.call (.ref C) ⟨[], [(f, v)]⟩) R ⟨h, g, d, t, os⟩ := by
  have c1 := tc_lookup
  have c2 := tc_bind (.ref C)
  have cT : (⟨h, g, d, t, os⟩ : Shared).TypeIs (.ref C) "type" := ⟨_, hC, rfl⟩
  refine codeAny_of_tree (show wpAny _ _ (callAny (.ref C) _) _ _ _ from ?_)
  repeat (any_goals (first
    | assumption
    | with_reducible refine wpAny_loadPart_at hC ?_
    | wp_step))
  refine ⟨rfl, codeAny_call_builtin_at (Code.quiet_builtin _ (by decide +kernel)) entry_typeCall (kwx_checkType hC (kwx_typeCall F hT hC hi hb (codeAny_mono hq fun r s' z => ?_)))⟩
  rcases r with e | (v | _ | _ | _) <;> exact z
end
end ML
set_option Elab.async false
set_option linter.all false
set_option maxRecDepth 100000
set_option maxHeartbeats 4000000
namespace ML
open PySem PySem.Spec PyProof.Rows L2

section
variable {X : Cx} {Wx : WX} {file f x : Str} {C fI : Addr} {e : Expr} {ta : TA} {p pos kpos : Pos}
/-- what the program's file and its top tell of super -/
structure SupT (P : Program) (file : Str) : Prop where
  fl : ((P.main.file : Str) == file) = true
  tp : (P.main.scope.names.lookup ("super" : Str)).isSome = false
theorem boot_super : bootBuiltins "super" = some (.type "super") := by decide +kernel
/-- how C(..) ends -/
theorem sx_made {pins : List (Addr × Obj)} {σ : L2.St} {H : Hp} {Q : VK} {hp : Heap} {g : Array GenState} {d : Drawn} {t : Nat} {os : OsState} {tu : List Value} {args : Args} {A : Around} {y : V} {u : Value} {E : Value → Shared → Prop}
    (T : SxC X.K file C fI f) (S : SupT X.prog file) (hms : X.mg "super" = none) (I : Inv X pins σ H ⟨hp, g, d, t, os⟩) (hr : A.depth < recursionLimit) (ry : RelV y u)
    (ha : args = ⟨[.ref (hp.objs.size + 1), u], []⟩ ∨ args = ⟨[.ref (hp.objs.size + 1)], [(f, u)]⟩)
    (q : ∀ a dx, H a = none → H dx = none → dx ≠ a → Q (.ref a) (upd (upd H dx (.xd [(f, y)])) a (XO (.ref C) (some dx) a))) :
    codeAny (model X.prog X.w) A (.call (.ref fI) args) (PySem.W.InitBack (hp.objs.size + 1) fun r s' => match r with | .ok (.ret v) => EP X pins σ Q v s' | .ok _ => False | .error e => E e s')
      ⟨(hp.push (PySem.W.kdv_tup tu)).push (PySem.HandSPX.excO C hp.objs.size), g, d, t, os⟩ := by
  have k : ∀ b o, hp.get? b = some o → ((hp.push (PySem.W.kdv_tup tu)).push (PySem.HandSPX.excO C hp.objs.size)).get? b = some o := fun b o z => Heap.get?_push_of_some _ (Heap.get?_push_of_some _ z)
  have he : ((hp.push (PySem.W.kdv_tup tu)).push (PySem.HandSPX.excO C hp.objs.size)).get? (hp.objs.size + 1) = some (PySem.HandSPX.excO C hp.objs.size) := by heap_get
  have kb : ∀ b o, X.base.get? b = some o → hp.get? b = some o := I.bk
  obtain ⟨mb, hb1, hb2⟩ := I.ok.mod.blt
  have sz : hp.objs.size ≤ ((hp.push (PySem.W.kdv_tup tu)).push (PySem.HandSPX.excO C hp.objs.size)).objs.size := by
    rw [Heap.size_push, Heap.size_push]
    omega
  refine sx_run T S.fl S.tp (I.kIn.keeps k) (I.nolimit.keeps k) (I.ok.mod.glob.keeps fun b o z => k b o (kb b o z)) hms (hb1.keeps fun b o z => k b o (kb b o z)) ((hb2 _ (by decide)).trans boot_super) hr ha he ?_ fun h' t1 dx tk kk hd hx hn => ?_
  · cases z : X.K.lookup (hp.objs.size + 1) with
    | none => rfl
    | some o => exact absurd (Heap.lt_size (I.kIn _ _ z)) (by show ¬ (hp.objs.size + 1 < hp.objs.size); omega)
  · have kk' : ∀ b o, hp.get? b = some o → h'.get? b = some o := fun b o z => kk b o (fun w => by
      rw [w] at z
      exact absurd (Heap.lt_size z) (Nat.not_lt.mpr (Nat.le_succ _))) (k b o z)
    obtain ⟨na, nd, ne, J⟩ := inv_laid2 (tk := tk) I (Nat.le_succ _) (Nat.le_trans sz hd) kk' hx hn ry
    exact ⟨rfl, .ref (hp.objs.size + 1), _, J, rfl, q _ _ na nd ne⟩
theorem pe_sx1 (T : SxC X.K file C fI f) (S : SupT X.prog file) (hms : X.mg "super" = none) (hr : Room 0 X.A) (gC : X.mg x = some (.ref C)) (hg : Gl X x) (ha : PA X [e] ta)
    (hs : starEach [e] X.env = (false, eval e X.env) :: starEach [] X.env := by rfl) (hdb : (x == ("__debug__" : Str)) = false := by decide) :
    PE X (.Call (.Name x p) [e] [] pos) (fun σ H Q => ta σ H fun vs H1 => ∃ y, vs = [y] ∧ ∀ a dx, H1 a = none → H1 dx = none → dx ≠ a → Q (.ref a) (upd (upd H1 dx (.xd [(f, y)])) a (XO (.ref C) (some dx) a))) := by
  refine ⟨fun pins s σ H Q I h => ?_⟩
  refine wpAny_Call_Name_kw (ld_glob I hg gC (PySem.W.callWith_K (h₀ := X.base) I.ok.mod.kin T.oex.kC (thn (ha.run pos pins s σ H _ I h) fun us s1 ⟨vs, H1, J, rl, y, ev, q1⟩ => ⟨J.kIn, ?_⟩) hs (by rfl)) hdb)
  subst ev
  cases rl with
  | @cons _ u _ ur ry rn =>
    cases rn
    obtain ⟨hp, g, d, t, os⟩ := s1
    obtain ⟨cn, q, N, bs, bm, sn, sub, ab, col, dd, k0, k1, k2, k3, k5, hC, hbm⟩ := T.oex.cls
    refine wpAny_call (PySem.HandSPX.call_own PySem.F.excBase_ValueError (fun Y => PySem.HandSPX.refsVE_contains Y bm hbm) (J.kIn _ _ hC) (PySem.W.looks_findIn J.kIn T.ini) (fun self => PySem.W.bind_fn J.kIn self T.ity) (show 1 ≤ sizeLine by rw [sizeLine_eq]; omega) ?_)
    exact sx_made T S hms J (by rw [make_depth]; have := hr.dp; omega) ry (.inl rfl) q1
theorem pe_sxK {te : TE} (T : SxC X.K file C fI f) (S : SupT X.prog file) (hms : X.mg "super" = none) (hr : Room 0 X.A) (gC : X.mg x = some (.ref C)) (hg : Gl X x) (he : PE X e te) (hdb : (x == ("__debug__" : Str)) = false := by decide) :
    PE X (.Call (.Name x p) [] [⟨some f, e, kpos⟩] pos) (fun σ H Q => tCons te tNil σ H fun vs H1 => ∃ y, vs = [y] ∧ ∀ a dx, H1 a = none → H1 dx = none → dx ≠ a → Q (.ref a) (upd (upd H1 dx (.xd [(f, y)])) a (XO (.ref C) (some dx) a))) := by
  refine ⟨fun pins s σ H Q I h => ?_⟩
  refine wpAny_Call_Name_kw (ld_glob I hg gC (PySem.W.callWith_KW0 (kws := [⟨some f, e, kpos⟩]) (h₀ := X.base) I.ok.mod.kin T.oex.kC rfl (thn ((pk_cons he pk_nil).run pos pins s σ H _ I h) fun us s1 ⟨vs, H1, J, rl, y, ev, q1⟩ => ⟨J.kIn, ?_⟩)) hdb)
  subst ev
  cases rl with
  | @cons _ u _ ur ry rn =>
    cases rn
    obtain ⟨hp, g, d, t, os⟩ := s1
    obtain ⟨cn, q, N, bs, bm, sn, sub, ab, col, dd, k0, k1, k2, k3, k5, hC, hbm⟩ := T.oex.cls
    refine wpAny_call (kwx_call PySem.F.excBase_ValueError (fun Y => PySem.HandSPX.refsVE_contains Y bm hbm) (J.kIn _ _ hC) (PySem.W.looks_findIn J.kIn T.ini) (fun self => PySem.W.bind_fn J.kIn self T.ity) ?_)
    exact sx_made T S hms J (by rw [make_depth]; have := hr.dp; omega) ry (.inr rfl) q1
/-! ### the same by values -/
def eMkS (c f : Str) (m : EM) : EM := fun sw S => (m sw S).bind fun w S => .ok (.exc c [f] [w]) S
theorem sx_rep {k : Kw} {s : L2.St} {F F0 : FS} {H : Hp} {r : List Addr} {S : Store} {sw : SW} {c : Str} {w : W} {y : V} {Q : VK} (t : Sto k F H r S) (ry : RepV k F H r w y) (q : Run k Wx s F H r (.ok (.exc c [f] [w]) S) (pV k Q)) :
    ∀ a dx, H a = none → H dx = none → dx ≠ a → Q (.ref a) (upd (upd H dx (.xd [(f, y)])) a (XO (.ref (He.ga k.K c)) (some dx) a)) := fun a dx na nd ne => by
  have x1 : Ext F H r F (upd H dx (.xd [(f, y)])) r := Ext.new1 nd
  have t1 := t.new1 (o := .xd [(f, y)]) nd
  have na1 : upd H dx (.xd [(f, y)]) a = none := by rw [upd_ne (Ne.symm ne)]; exact na
  have x2 : Ext F _ r F (upd (upd H dx (.xd [(f, y)])) a (XO (.ref (He.ga k.K c)) (some dx) a)) r := Ext.new1 na1
  have t2 := t1.new1 (o := XO (.ref (He.ga k.K c)) (some dx) a) na1
  refine q F _ r (x1.trans x2) t2 (.ref a) ⟨a, some dx, [y], rfl, t.free na, upd_same, ⟨rfl, .inr ⟨dx, rfl, t.free nd, ?_⟩⟩, y, [], rfl, RepV.mv ((x1.trans x2).mv t.inF) _ _ ry, rfl⟩
  rw [upd_ne ne, upd_same]
  rfl
theorem ie_mks {m : EM} (T : SxC X.K file (He.ga X.K x) fI f) (S : SupT X.prog file) (hms : X.mg "super" = none) (hr : Room 0 X.A) (gC : X.mg x = some (.ref (He.ga X.K x))) (hg : Gl X x) (h : IE X Wx e m)
    (hs : starEach [e] X.env = (false, eval e X.env) :: starEach [] X.env := by rfl) (hdb : (x == ("__debug__" : Str)) = false := by decide) : IE X Wx (.Call (.Name x p) [e] [] pos) (eMkS x f m) := by
  refine pe_imp (pe_sx1 T S hms hr gC hg (pa_cons h pa_nil hs) hs hdb) fun s H Q ⟨F0, F, r, S, sw, t, st, q⟩ => ?_
  refine tE_bind t st q fun w v F' H' r' S' x t' st' rv q => ?_
  exact ⟨v, rfl, sx_rep (F0 := F0) (sw := sw) t' rv q⟩
theorem ie_mksK {m : EM} (T : SxC X.K file (He.ga X.K x) fI f) (S : SupT X.prog file) (hms : X.mg "super" = none) (hr : Room 0 X.A) (gC : X.mg x = some (.ref (He.ga X.K x))) (hg : Gl X x) (h : IE X Wx e m)
    (hdb : (x == ("__debug__" : Str)) = false := by decide) : IE X Wx (.Call (.Name x p) [] [⟨some f, e, kpos⟩] pos) (eMkS x f m) := by
  refine pe_imp (pe_sxK T S hms hr gC hg h hdb) fun s H Q ⟨F0, F, r, S, sw, t, st, q⟩ => ?_
  refine tE_bind t st q fun w v F' H' r' S' x t' st' rv q => ?_
  exact ⟨v, rfl, sx_rep (F0 := F0) (sw := sw) t' rv q⟩
end
end ML
set_option Elab.async false
set_option linter.all false
set_option maxRecDepth 100000
set_option maxHeartbeats 4000000
namespace ML
open PySem PySem.Spec PyProof.Rows L2

/-! ### e.f, e an exception held as a value -/
def XfT (K : PySem.W.Frag) (n : Str) (tb : List Str) : Prop := ∀ c, tb.contains c = true → XfC K (He.ga K c) ∧ PySem.W.findIn K (.ref (He.ga K c)) n = some none
def xftB (K : PySem.W.Frag) (n : Str) (tb : List Str) : Bool := tb.all fun c => xfB K (He.ga K c) && decide (PySem.W.findIn K (.ref (He.ga K c)) n = some none)
theorem xftB_ok {K : PySem.W.Frag} {n : Str} {tb : List Str} (h : xftB K n tb = true) : XfT K n tb := fun c hc => by
  have h1 := List.all_eq_true.mp h c (List.contains_iff_mem.mp hc)
  obtain ⟨h2, h3⟩ := He.ba h1
  exact ⟨xfB_ok h2, of_decide_eq_true h3⟩
theorem zip_lookup {k : Kw} {F : FS} {H : Hp} {r : List Addr} {n : Str} {w : W} : ∀ {fs : List Str} {ws : List W} {vs : List V}, RepL k F H r ws vs → (fs.zip ws).lookup n = some w → ∃ v, (fs.zip vs).lookup n = some v ∧ RepV k F H r w v
  | [], _, _, _, h => by cases h
  | _ :: _, [], _, _, h => by cases h
  | f :: fs, x :: ws, _, l, h => by
    obtain ⟨y, vs, rfl, l1, l2⟩ := l
    rw [List.zip_cons_cons, lookup_put] 
    rw [List.zip_cons_cons] at h
    by_cases e : n = f
    · subst e
      rw [if_pos rfl]
      simp [List.lookup] at h
      exact ⟨y, rfl, h ▸ l1⟩
    · rw [if_neg e]
      have e2 : (n == f) = false := by simpa using e
      simp only [List.lookup, e2] at h
      exact zip_lookup l2 h
section
variable {X : Cx} {Wx : WX} {e : Expr} {pos : Pos} {n : Str}
def tXv (K : PySem.W.Frag) (n : Str) (te : TE) : TE := fun σ H Q => te σ H fun x H1 => ∃ (a C dd : Addr) (fs : List (Str × V)) (v : V), x = .ref a ∧ H1 a = some (XO (.ref C) (some dd) a) ∧ XfC K C ∧ PySem.W.findIn K (.ref C) n = some none ∧ H1 dd = some (.xd fs) ∧ fs.lookup n = some v ∧ Q v H1
theorem pe_xv {te : TE} (he : PE X e te) (hb : attributeBase e n X.env (eval e X.env) = eval e X.env := by rfl) : PE X (.Attribute e n pos) (tXv X.K n te) := by
  refine ⟨fun pins s σ H Q I h => attr_of hb (thn (he.run pins s σ H _ I h) fun u s1 ⟨x, H1, J, rx, a, C, dd, fs, v, ex, ha, T, hno, hd, hl, q⟩ => ?_)⟩
  subst ex
  obtain rfl : u = Value.ref a := rx
  obtain ⟨⟨oe, vs, ga, hz, hv⟩, _, _⟩ := J.hok a _ ha
  obtain ⟨mA, hns, hr⟩ := (show ObjOk X.prog X.w H1 s1.heap dd (.xd fs) from J.hok dd _ hd)
  obtain ⟨od, ho, hlk⟩ := lookIn_ns hns
  obtain ⟨u, hu, ru⟩ := RelO.some_of (v := v) (o := mA n) (by rw [← hl]; exact hr n)
  have It : PySem.W.InstAt s1.heap a oe C (some od) := ⟨ga, hz.1, by unfold PySem.W.notCls; rw [hv] <;> rfl, by rw [hz.2]; exact ho⟩
  exact HandSPX.exc_get J.kIn It T.ga T.gg T.exC (PySem.W.findObj_own T.hdC hno rfl (by rw [hlk, hu])) (handed_of ru) ⟨v, H1, J.tok _, ru, q⟩
def eAttrX (n : Str) (tb : List Str) (m : EM) : EM := fun sw S => (m sw S).bind fun w S => match w with
  | .exc c fs ws => if tb.contains c then (match (fs.zip ws).lookup n with
    | some w => .ok w S
    | none => .bad) else .bad
  | _ => .bad
theorem ie_attrX {tb : List Str} {m : EM} (T : XfT X.K n tb) (h : IE X Wx e m) (hb : attributeBase e n X.env (eval e X.env) = eval e X.env := by rfl) : IE X Wx (.Attribute e n pos) (eAttrX n tb m) := by
  refine pe_imp (pe_xv h hb) fun s H Q ⟨F0, F, r, S, sw, t, st, q⟩ => ?_
  refine tE_bind t st q fun w v F' H' r' S' x t' st' rv q => ?_
  cases w with
  | exc c fs ws =>
    dsimp only at q
    split at q
    · rename_i hc
      split at q
      · rename_i w hl
        obtain ⟨a, d, vs, rfl, nf, ha, ⟨e1, e2⟩, l⟩ := rv
        obtain ⟨v, hv, rv⟩ := zip_lookup l hl
        rcases e2 with ⟨_, e3⟩ | ⟨dd, rfl, nd, hd⟩
        · subst e3
          cases hl
        · exact ⟨a, _, dd, _, v, rfl, ha, (T c hc).1, (T c hc).2, hd, hv, q.ok t' v rv⟩
      · exact q.elim
    · exact q.elim
  | _ => exact q.elim
/-! ### [..] * n -/
def fRep (a b : EM) : FM := fun sw S => (a sw S).bind fun x S => (b sw S).bind fun y S => match cont sw S x, y with
  | some xs, .int k => if decide (0 ≤ k) && decide (k ≤ 1000) && decide (xs.length ≤ 1000) then .ok (.lst (List.replicate k.toNat xs).flatten) S else .bad
  | _, _ => .bad
theorem if_rep {a b : Expr} {m n : EM} (ha : IB X Wx a m) (hb : IB X Wx b n) : IF X Wx (.BinOp a .Mult b pos) (fRep m n) := by
  refine pe_imp (pe_op op_rep ha hb) fun s H Q ⟨F0, F, r, S, sw, t, st, q⟩ => ?_
  refine tB_bind t st q fun x v F1 H1 r1 S1 x1 t1 s1 b1 q => ?_
  refine tB_bind t1 s1 q fun y u F2 H2 r2 S2 x2 t2 s2 b2 q => ?_
  have b1 : RepB (kw X) F2 H2 r2 s sw x v := b1.mv (x2.mv t1.inF)
  cases e1 : cont sw S2 x with
  | none =>
    rw [e1] at q
    exact q.elim
  | some xs =>
    rw [e1] at q
    cases y with
    | int k =>
      dsimp only at q
      split at q
      · rename_i hl
        simp only [Bool.and_eq_true, decide_eq_true_eq] at hl
        obtain ⟨⟨h1, h2⟩, h3⟩ := hl
        obtain ⟨a, vs, rfl, ha, la⟩ := cont_rep t2 s2 b1 e1
        cases b2
        refine ⟨a, k, vs, rfl, rfl, ha, by omega, by omega, ?_, fun p hp => ?_⟩
        · have e := la.length
          have : vs.length * k.toNat ≤ 1000 * 1000 := Nat.mul_le_mul (by omega) (by omega)
          rw [sizeLine_eq]
          omega
        · exact q (addF F2 p) _ r2 (Ext.newF hp) (t2.newF hp) p (dom_back x1 (dom_back x2 hp)) (.inr rfl) (t2.mem_r hp) ⟨_, upd_same, RepL.mv ((Ext.newF hp).mv t2.inF) _ _ (repL_rep la _)⟩
      · exact q.elim
    | _ => exact q.elim
end
end ML
set_option Elab.async false
set_option linter.all false
set_option maxRecDepth 100000
set_option maxHeartbeats 4000000
namespace ML
open PySem PySem.Spec PyProof.Rows L2

/-! ### repr of what is data -/
mutual
def pyd : W → Option PyData
  | .non => some .none
  | .bl b => some (.bool b)
  | .int i => some (.int i)
  | .str x => some (.str x)
  | .tup ws => (pydL ws).map .tuple
  | .lst ws => (pydL ws).map .list
  | .dct [] [] => some (.dict [])
  | _ => none
def pydL : List W → Option (List PyData)
  | [] => some []
  | w :: ws => (pyd w).bind fun d => (pydL ws).map fun ds => d :: ds
end
section
variable {P : Program} {wd : World} {k : Kw} {F : FS} {H : Hp} {r : List Addr} {h : Heap}
mutual
theorem reads_of (hok : HOk P wd H h) (KX : k.K.In h) (nS : ∀ a, H a ≠ none → a ≠ sysModules) : ∀ (w : W) {v : V} {u : Value} {d : PyData}, RepV k F H r w v → pyd w = some d → RelV v u → ∃ as, Reads h u d as ∧ sysModules ∉ as
  | .non, v, u, d, rv, e, ru => by
    cases rv; cases e; cases ru
    exact ⟨[], .none, by simp⟩
  | .bl b, v, u, d, rv, e, ru => by
    cases rv; cases e; cases ru
    exact ⟨[], .bool b, by simp⟩
  | .int i, v, u, d, rv, e, ru => by
    cases rv; cases e
    obtain ⟨t, rfl⟩ := ru
    exact ⟨[], .int i t, by simp⟩
  | .str x, v, u, d, rv, e, ru => by
    cases rv; cases e
    obtain ⟨t, rfl⟩ := ru
    exact ⟨[], .str x t, by simp⟩
  | .tup ws, v, u, d, rv, e, ru => by
    obtain ⟨a, vs, rfl, ta, l⟩ := rv
    unfold pyd at e
    obtain ⟨ds, e1, rfl⟩ := map_some e
    obtain rfl : u = Value.ref a := ru
    rcases ta with ⟨ha, _⟩ | ⟨o, its, n, ha, hc, hd, _, hv⟩
    · obtain ⟨_, its, hv, o, hg, hc, n, hd⟩ := hok a _ ha
      obtain ⟨as, hr, hn⟩ := readsL_of hok KX nS ws l e1 hv
      exact ⟨as, .tuple hg hc hd (by simpa using hr), hn⟩
    · obtain ⟨as, hr, hn⟩ := readsL_of hok KX nS ws l e1 hv
      exact ⟨as, .tuple (KX _ _ ha) hc hd hr, hn⟩
  | .lst ws, v, u, d, rv, e, ru => by
    obtain ⟨a, vs, rfl, ⟨ha, _⟩, l⟩ := rv
    unfold pyd at e
    obtain ⟨ds, e1, rfl⟩ := map_some e
    obtain rfl : u = Value.ref a := ru
    obtain ⟨_, its, n, hv, hg⟩ := hok a _ ha
    obtain ⟨as, hr, hn⟩ := readsL_of hok KX nS ws l e1 hv
    refine ⟨a :: as, .list hg rfl rfl (by simpa using hr), fun z => ?_⟩
    rcases List.mem_cons.mp z with z | z
    · exact nS a (by rw [ha]; simp) z.symm
    · exact hn z
  | .dct [] [], v, u, d, rv, e, ru => by
    obtain ⟨a, es, rfl, _, ha, l1, _, _⟩ := rv
    cases e
    obtain rfl : u = Value.ref a := ru
    obtain ⟨⟨_, _, o, ea, ep, hg, hx, hd, hp⟩, _, _⟩ := hok a _ ha
    have e0 : es = [] := by
      have := l1.length
      simp at this
      exact List.eq_nil_of_length_eq_zero this.symm
    subst e0
    have e1 : ea.toList = [] := by
      cases q : ea.toList with
      | nil => rfl
      | cons x xs =>
        rw [q] at hp
        cases hp
    refine ⟨[a] ++ [], .dict (kvs := []) (as := []) (bs := []) hg hx.1 hd (by rw [e1]; exact .nil) (by rw [e1]; exact .nil), fun z => ?_⟩
    simp at z
    exact nS a (by rw [ha]; simp) z.symm
  | .dct (_ :: _) _, v, u, d, rv, e, ru => by cases e
  | .dct [] (_ :: _), v, u, d, rv, e, ru => by cases e
  | .exc _ _ _, v, u, d, rv, e, ru => by cases e
  | .loc _, v, u, d, rv, e, ru => by cases e
  | .cls _, v, u, d, rv, e, ru => by cases e
  | .ty _, v, u, d, rv, e, ru => by cases e
  | .brw _, v, u, d, rv, e, ru => by cases e
  | .scr _, v, u, d, rv, e, ru => by cases e
theorem readsL_of (hok : HOk P wd H h) (KX : k.K.In h) (nS : ∀ a, H a ≠ none → a ≠ sysModules) : ∀ (ws : List W) {vs : List V} {us : List Value} {ds : List PyData}, RepL k F H r ws vs → pydL ws = some ds → Vals vs us → ∃ as, ReadsAll h us ds as ∧ sysModules ∉ as
  | [], vs, us, ds, l, e, hv => by
    cases l; cases e; cases hv
    exact ⟨[], .nil, by simp⟩
  | w :: ws, vs, us, ds, l, e, hv => by
    obtain ⟨v, vs', rfl, l1, l2⟩ := l
    unfold pydL at e
    obtain ⟨d, e1, e⟩ := bind_some e
    obtain ⟨ds', e2, rfl⟩ := map_some e
    cases hv with
    | cons h1 h2 =>
      obtain ⟨as, r1, n1⟩ := reads_of hok KX nS w l1 e1 h1
      obtain ⟨bs, r2, n2⟩ := readsL_of hok KX nS ws l2 e2 h2
      exact ⟨as ++ bs, .cons r1 r2, fun z => (List.mem_append.mp z).elim n1 n2⟩
end
end

def topOk : PyData → Bool
  | .str _ => true
  | .list _ => true
  | .tuple _ => true
  | .dict _ => true
  | _ => false
def rRepr (X : Cx) : List V → Hp → VK → Prop := fun xs H Q => ∃ v d, xs = [v] ∧ (∀ h u, HOk X.prog X.w H h → X.K.In h → (∀ a, H a ≠ none → a ≠ sysModules) → RelV v u → ∃ as, Reads h u d as ∧ sysModules ∉ as) ∧
  topOk d = true ∧ d.showable = true ∧ d.depth ≤ 20 ∧ d.shown.length ≤ sizeLine ∧ Q (.str d.shown) H
section
variable {X : Cx} {Wx : WX}
theorem call_reprD (hg : X.A.guards = some []) (hu : X.A.units + 64 < cLine) (hS : (X.K.lookup sysModules).isSome = true) : CallR X (.builtin "repr") (rRepr X) := by
  intro pins s σ H xs us Q I rl h
  obtain ⟨v, d, rfl, hr, ht, hs, hd, hz, q⟩ := h
  obtain ⟨u, rfl, ru⟩ := vals1 rl
  have nS : ∀ a, H a ≠ none → a ≠ sysModules := fun a ha z => by
    cases e : X.K.lookup sysModules with
    | none =>
      rw [e] at hS
      cases hS
    | some o =>
      subst z
      exact ha (I.bs _ _ (I.ok.mod.kin _ _ e)).2
  obtain ⟨as, rd, na⟩ := hr s.heap u I.hok I.kIn nS ru
  have fin : ∀ h' t tk, (∀ b o, s.heap.get? b = some o → h'.get? b = some o) → EP X pins σ Q (.str d.shown t) { s with heap := h', toks := tk } := fun h' t tk k => ⟨.str d.shown, H, I.kept k, ⟨t, rfl⟩, q⟩
  cases rd with
  | none => cases ht
  | bool b => cases ht
  | int i t => cases ht
  | str x t => exact PySem.P.repr_of_str (fin s.heap _ _ fun _ _ e => e) hz
  | list h1 h2 h3 h4 => exact repr_of_reads' (.list h1 h2 h3 h4) hs (fun _ => na) hg (by omega) (fun _ _ e => e) fin hz
  | tuple h1 h2 h3 h4 => exact repr_of_reads' (.tuple h1 h2 h3 h4) hs (fun _ => na) hg (by omega) (fun _ _ e => e) fin hz
  | dict h1 h2 h3 h4 h5 => exact repr_of_reads' (.dict h1 h2 h3 h4 h5) hs (fun _ => na) hg (by omega) (fun _ _ e => e) fin hz
def opRepr : F1 := fun _ x S => match pyd x with
  | some d => if topOk d && d.showable && decide (d.depth ≤ 20) && decide (d.shown.length ≤ sizeLine) then .ok (.str d.shown) S else .bad
  | none => .bad
theorem sp_repr : Sp1 (kw X) (fun v => rRepr X [v]) opRepr := by
  intro F0 F H rho S s sw x v Wx Q t st b q
  unfold opRepr at q
  split at q
  · rename_i d e
    split at q
    · rename_i c
      simp only [Bool.and_eq_true, decide_eq_true_eq] at c
      obtain ⟨⟨⟨c1, c2⟩, c3⟩, c4⟩ := c
      have rv : RepV (kw X) F H rho x v := by
        cases x <;> first | exact b | (cases e)
      exact ⟨v, d, rfl, fun h u hok KX nS ru => reads_of hok KX nS x rv e ru, c1, c2, c3, c4, q.ok t _ rfl⟩
    · exact q.elim
  · exact q.elim
end
end ML
set_option Elab.async false
set_option linter.all false
set_option maxRecDepth 100000
set_option maxHeartbeats 4000000
namespace ML
open PySem PySem.Spec PyProof.Rows L2

/-! ### the law's own def, called where no repr is under way -/
def FnG (P : Program) (w : World) (K : PySem.W.Frag) (mg : Str → Option Value) (base : Heap) (k : Nat) (f : Addr) (fd : FuncData) (ps : List Str) (sp : Sp) : Prop :=
  ∀ (A : Around) (outer : List Env) (s : Shared) (H : Hp) (args : Args) (us : List Value) (vs : List V) (Q : VK) (E : XK), A.guards = some [] → Room k A → Env0 P w K mg base A outer s H → BindsTo s fd args (ps.zip us) → Vals vs us → vs.length = ps.length → sp vs H Q E →
    codeAny (model P w) A (.call (.ref f) args) (CR (L2.CX P w) outer P w H s Q E) s
section
variable {P : Program} {w : World} {K : PySem.W.Frag} {mg : Str → Option Value} {base : Heap}
theorem deeper_guards {A : Around} {env : Env} (h : A.guards = some []) : (A.deeper env).guards = some [] := by
  first | exact h | (simp [Around.deeper, h])
theorem fnG_of {x qual : Str} {st : Stmt} {f : Addr} {fd : FuncData} {N ps : List Str} {n m : Nat} {b : SM} (F : FunD K x qual (defArgs st) (defBody st) (defScope st) [] [] f fd) (S : FnScope N ps (defScope st)) (hm : N.length = m)
    (hb : ∀ (cdv : Value) (A : Around) (outer : List Env) (s : Shared) (H : Hp) (E : XK), (A.deeper (envOfC qual (defScope st) s.heap.objs.size f cdv)).guards = some [] → Room n (A.deeper (envOfC qual (defScope st) s.heap.objs.size f cdv)) →
      Takes (cxOf (L2.CX P w) P w K mg base N qual (defScope st) f cdv A outer s H E) (fun c d _ H => E c d H) →
      PassesOwn (model P w) (A.deeper (envOfC qual (defScope st) s.heap.objs.size f cdv)) (envOfC qual (defScope st) s.heap.objs.size f cdv) (cxOf (L2.CX P w) P w K mg base N qual (defScope st) f cdv A outer s H E).xe →
      ISs (cxOf (L2.CX P w) P w K mg base N qual (defScope st) f cdv A outer s H E) (fun c d _ H => E c d H) (defBody st) b) :
    FnG P w K mg base (n + 1) f fd ps (spOf ⟨K, w⟩ ps.length (fBody m b)) := by
  subst hm
  obtain ⟨oc, od, dV, kV, doc, pm, an, cdv, ct, osl, rfl, lk, hcd, _, _⟩ := F.ex
  intro A outer s H args us vs Q E gd hr e0 bnd rl hl sp
  have up : ∀ b o, base.get? b = some o → s.heap.get? b = some o := fun b o z => (e0.bs b o z).1
  have KX : K.In s.heap := e0.mod.kin.keeps up
  have hall : ((ps.zip us).all fun y => (defScope st).names.lookup y.1 == some .local || (defScope st).names.lookup y.1 == some .cell) = true := List.all_eq_true.mpr fun ⟨y, v⟩ hy => by
    rcases S.par y (List.of_mem_zip hy).1 with z | z <;> simp [z]
  refine Att.call_fn KX (e0.mod.nolimit.keeps up) lk hcd hr.depth bnd hall (fun s1 inn => ?_) S.co S.gen S.kind
  have I : Inv (cxOf (L2.CX P w) P w K mg base N qual (defScope st) f cdv A outer s H E) [] (start N vs) H s1 := inv_start S hr.hd e0 hl rl inn
  have D := hb cdv A outer s H E (deeper_guards gd) (hr.deeper _) (takes_of rfl rfl rfl rfl) (passes_of rfl)
  have want : tS ⟨K, w⟩ (fun c d _ H => E c d H) b { nx := fun _ H' => Q .non H', rt := Q } (start N vs) H := by
    obtain ⟨_, F, r, S, ws, t, l, q⟩ := sp
    refine ⟨F, H, r, F, r, S, startW N.length ws, Ext.refl _ _ _, t, startR l, ?_⟩
    unfold fBody at q
    cases e : b (startW N.length ws) S with
    | ok fl S' =>
      rw [e] at q
      cases fl with
      | nx sw => exact fun F' H' r' s' x _ t' _ => q F' H' r' x t' .non rfl
      | rt rv => exact fun F' H' r' x t' => q F' H' r' x t'
      | bk sw => exact q.elim
      | ct sw => exact q.elim
    | exc c fs vs' sw S' =>
      rw [e] at q
      exact fun d vs F' H' r' s' x _ t' _ ed l => q d vs F' H' r' x t' ed l
    | bad =>
      rw [e] at q
      exact q
  refine wpAny_mono (D.run [] s1 (start N vs) H _ I want) (fun fl s' z => ?_) fun _ _ z => z
  cases fl with
  | ret u =>
    obtain ⟨v, σ', H', J, rv, q⟩ := z
    exact ⟨v, H', J.os, J.bare, J.base, J.hok, rv, q⟩
  | next =>
    obtain ⟨σ', H', J, q⟩ := z
    exact ⟨.non, H', J.os, J.bare, J.base, J.hok, rfl, q⟩
  | brk =>
    obtain ⟨_, _, _, q⟩ := z
    exact q.elim
  | cont =>
    obtain ⟨_, _, _, q⟩ := z
    exact q.elim
end
/-! ### the call of the law -/
theorem law_callG {P : Program} {w : World} {K : PySem.W.Frag} {mg mb : Str → Option Value} {k : Nat} {fa a : Addr} {fd : FuncData} {x : Str} {s₁ : Shared} {vs : List Value} {ns : List Int} {g : List W → Store → Res RV}
    (KX : K.In s₁.heap) (hns : s₁.heap.Ns mainGlobals mg) (hb : s₁.heap.Ns builtinsNs mb) (hbb : ∀ x : Str, x ≠ "__name__" → mb x = bootBuiltins x) (hlim : s₁.heap.NoLimit) (hg : s₁.gens = #[])
    (ha : s₁.heap.get? a = some { cls := .type "list", data := .seq vs.toArray }) (hi : IntsAre vs ns) (hl : ns.length ≤ sizeLine) (hr : Room k callerA)
    (F : ∀ base : Heap, K.In base → base.Ns mainGlobals mg → FnG P w K mg base k fa fd [x] (spOf ⟨K, w⟩ 1 g)) (hbind : ∀ (s : Shared) (u : Value), BindsTo s fd ⟨[u], []⟩ [(x, u)])
    (hgo : ∃ S, g [.scr ns] [] = .ok (.val (.bl true)) S) :
    codeAny (model P w) callerA (.call (.ref fa) ⟨[.ref a], []⟩) (fun r s' => r = .ok (.ret (.bool true)) ∧ OldK s₁.heap s'.heap ∧ s'.os = s₁.os ∧ AllBare s'.gens) s₁ := by
  have rv := vals_ints hi
  let sq : HO := .frz { cls := .type "list", data := .seq vs.toArray } (.lst (ns.map V.int))
  let H : Hp := fun b => if b = a ∧ K.lookup a = none then some sq else none
  have Hs : ∀ {b : Addr} {u : HO}, H b = some u → b = a ∧ K.lookup a = none ∧ u = sq := fun {b u} z => by
    have z' : (if b = a ∧ K.lookup a = none then some sq else none) = some u := z
    split at z'
    · rename_i c
      exact ⟨c.1, c.2, (Option.some.inj z').symm⟩
    · cases z'
  have Hn : ∀ {b : Addr}, ¬ (b = a ∧ K.lookup a = none) → H b = none := fun n => if_neg n
  have hok : HOk P w H s₁.heap := fun b u z => by
    obtain ⟨rfl, _, rfl⟩ := Hs z
    exact ⟨ha, by rw [List.length_map]; exact hl, vs, _, rv, ha⟩
  have free : ∀ {b : Addr} {o : Obj} {es : Array DictEntry} {ep : Nat}, s₁.heap.get? b = some o → o.data = .dict es ep → H b = none := fun {b o es ep} e d => by
    cases q : H b with
    | none => rfl
    | some u =>
      obtain ⟨rfl, _, _⟩ := Hs q
      rw [ha] at e
      cases e
      cases d
  have nsK : ∀ {b : Addr} {m : Str → Option Value}, s₁.heap.Ns b m → (hidT s₁.heap H).Ns b m := fun {b m} ⟨o, es, ep, e, d, q⟩ => ⟨o, es, ep, hidT_get e (free e d), d, q⟩
  have KB : K.In (hidT s₁.heap H) := fun b o e => hidT_get (KX b o e) (Hn fun z => by
    rw [z.1, z.2] at e
    cases e)
  have M : Mod K mg (hidT s₁.heap H) := ⟨KB, nsK hns, ⟨mb, nsK hb, hbb⟩, by
    obtain ⟨mc, h1, h2⟩ := hlim
    exact ⟨mc, nsK h1, h2⟩⟩
  have e0 : Env0 P w K mg (hidT s₁.heap H) callerA [] s₁ H := ⟨rfl, M, fun b o e => of_hidT e, Nat.le_of_eq (hidT_size _ _), trivial, fun b z => (List.not_mem_nil (show b ∈ ([] : List Addr) from z)).elim, hok, .of_eq hg⟩
  have scr : RepV ⟨K, w⟩ (fun _ => False) H [] (.scr ns) (.ref a) := by
    refine ⟨a, rfl, ?_⟩
    cases hk : K.lookup a with
    | none => exact .inl ⟨.inr ⟨_, if_pos ⟨rfl, hk⟩⟩, fun z => z⟩
    | some o =>
      have e := KX a o hk
      rw [ha] at e
      cases e
      exact .inr ⟨_, vs.toArray, _, hk, rfl, rfl, rfl, by rw [List.size_toArray, hi.length]; exact hl, by simpa using rv⟩
  obtain ⟨S, eg⟩ := hgo
  refine codeAny_mono (F _ KB (nsK hns) callerA [] s₁ H ⟨[.ref a], []⟩ [.ref a] [.ref a] (fun v _ => v = .bl true) (fun _ _ _ => False) rfl hr e0 (hbind s₁ (.ref a)) (.cons rfl .nil) rfl ?_) fun r s' z => ?_
  · refine ⟨rfl, fun _ => False, [], [], [.scr ns], ⟨rfl, .nil, (fun a h => nomatch h), (fun a h => nomatch h), (fun n o a h => nomatch h)⟩, ⟨.ref a, [], rfl, scr, rfl⟩, ?_⟩
    rw [eg]
    exact fun F' H' r' _ _ v rv => rv
  · cases r with
    | error e =>
      obtain ⟨_, _, _, _, _, _, _, _, _, _, _, _, z⟩ := z
      exact z.elim
    | ok fl =>
      cases fl with
      | ret u =>
        obtain ⟨v, H', eos, bare, un, hok', ru, ev⟩ := z
        have ev : v = .bl true := ev
        subst ev
        obtain rfl : u = Value.bool true := ru
        refine ⟨rfl, OldK.of_keep fun b o e => ?_, eos, bare⟩
        cases q : H b with
        | none => exact un.keep b o e q (fun z => List.not_mem_nil (show b ∈ ([] : List Addr) from z)) (by simp)
        | some u =>
          obtain ⟨rfl, _, rfl⟩ := Hs q
          obtain ⟨e2, _⟩ := hok' b _ (un.frzs b _ _ q)
          rw [ha] at e
          cases e
          exact e2
      | _ => exact False.elim z
theorem walk_endG {l : PySem.W.OpenLaw} {n k : Nat} {q : Program} {loose : List Str} {XP : (Str → Option Value) → Heap → Prop} {YP : World → Heap → Prop} {d : DefRec} {x : Str}
    (hn : l.most = some n) (hn2 : n ≤ sizeLine) (hdf : d.params.defaults = []) (hr : Room k callerA) {g : List W → Store → Res RV}
    (hg : ∀ ns : List Int, ns.length ≤ n → (∀ z ∈ ns, Builtin.Int.intBits z ≤ 1048576) → ∃ S, g [.scr ns] [] = .ok (.val (.bl true)) S)
    (F : ∀ (w : World) (mg : Str → Option Value) (fa : Addr) (h : Heap), YP w h → h.Ns mainGlobals mg → mg d.name = some (.ref fa) →
      ∃ (K : PySem.W.Frag) (fd : FuncData), K.In h ∧ (∀ (s : Shared) (u : Value), BindsTo s fd ⟨[u], []⟩ [(x, u)]) ∧
        ∀ base : Heap, K.In base → base.Ns mainGlobals mg → FnG l.prog w K mg base k fa fd [x] (spOf ⟨K, w⟩ 1 g)) :
    PySem.W.WalkO q loose XP YP l.row.toRowW d [] (fun f vs => PySem.call f vs) := by
  refine Att.attach_callB hn hdf fun w s₀ s₁ mg mb fa o pm cd doc a vs ns G Y ho hd hcd hmg hobj hints hlen hbits hgn => ?_
  obtain ⟨K, fd, KX, hb, hF⟩ := F w mg fa _ Y G.T.g hmg
  exact law_callG KX G.T.g G.T.b G.T.builtins G.T.nolimit hgn hobj hints (Nat.le_trans hlen hn2) hr hF hb (hg ns hlen hbits)
end ML
set_option Elab.async false
set_option linter.all false
set_option maxRecDepth 100000
set_option maxHeartbeats 4000000
namespace ML
open PySem PySem.Spec PyProof.Rows L2

/-! ### own exceptions with __init__: what is asked of the head -/
abbrev FnS : Type := Option (Str × Str × Arguments × FuncBody × Scope × Addr × List Str × Addr)
def fnS (K : PySem.W.Frag) (p : Str × Option Str) : FnS := match K.lookup (He.fAd K p) with
  | some ⟨_, _, .func fd, _⟩ => some (fd.name, fd.qualname, fd.params, fd.body, fd.scope, fd.globals, fd.closure.map (·.1), fd.builtins)
  | _ => none
def oexB (K : PySem.W.Frag) (C : Addr) : Bool := (match K.lookup C with
  | some ⟨.type t, _, .cls cd, sl⟩ => (match cd.mro, sl.toList with
    | .ref C' :: bm, [_, _, _, _, some (.builtin n), _] => decide (t = "type") && (decide (C' = C) && (decide (n = "ValueError.__new__") && (!cd.hasDel && (cd.hasDict && PySem.HandSPX.refsVE bm))))
    | _, _ => false)
  | _ => false) && (decide (PySem.W.findIn K (.ref C) "__setattr__" = some (some (.builtin "object.__setattr__"))) && (decide (PySem.W.subIn K (.ref C) (.type "BaseException") = some true) && (decide (PySem.W.typeIn K (.ref C) = some (.type "type")) && PySem.W.keepIn K (.ref C))))
theorem oexB_ok {K : PySem.W.Frag} {C : Addr} (h : oexB K C = true) : OexC K C := by
  obtain ⟨h0, h⟩ := He.ba h
  obtain ⟨h1, h⟩ := He.ba h
  obtain ⟨h2, h⟩ := He.ba h
  obtain ⟨h3, h4⟩ := He.ba h
  refine ⟨?_, of_decide_eq_true h1, of_decide_eq_true h2, of_decide_eq_true h3, h4⟩
  cases e : K.lookup C with
  | none =>
    rw [e] at h0
    cases h0
  | some o =>
    obtain ⟨oc, od, dt, sl⟩ := o
    rw [e] at h0
    split at h0
    · rename_i t dd cd sl' eo
      cases eo
      split at h0
      · rename_i C' bm s0 s1 s2 s3 n s5 em es
        obtain ⟨a0, h0⟩ := He.ba h0
        obtain ⟨a1, h0⟩ := He.ba h0
        obtain ⟨a2, h0⟩ := He.ba h0
        obtain ⟨a3, h0⟩ := He.ba h0
        obtain ⟨a4, a5⟩ := He.ba h0
        obtain rfl := of_decide_eq_true a0
        obtain rfl := of_decide_eq_true a1
        obtain rfl := of_decide_eq_true a2
        obtain ⟨nm, bs, mro, ns, qn, hd, sn, sub, ab, col, del⟩ := cd
        dsimp only at em a3 a4
        subst em
        subst a4
        have a3 : del = false := by simpa using a3
        subst a3
        have es' : sl = #[s0, s1, s2, s3, some (.builtin "ValueError.__new__"), s5] := by
          rw [← es] <;> simp
        subst es'
        exact ⟨nm, qn, ns, bs, bm, sn, sub, ab, col, od, s0, s1, s2, s3, s5, rfl, a5⟩
      · cases h0
    · cases h0
def fileB (K : PySem.W.Frag) (cda : Addr) (file : Str) : Bool := match K.lookup cda with
  | some ⟨_, _, .fields vs, _⟩ => (match (vs[2]? : Option Value) with
    | some (.str s _) => decide (s = file)
    | _ => false)
  | _ => false
def cellB (K : PySem.W.Frag) (cc C : Addr) : Bool := match K.lookup cc with
  | some ⟨_, _, .cell (some (.ref D)), _⟩ => decide (D = C)
  | _ => false
theorem fileB_ok {K : PySem.W.Frag} {cda : Addr} {file : Str} (h : fileB K cda file = true) : ∃ ccl cdd vs ccs tf, K.lookup cda = some ⟨ccl, cdd, .fields vs, ccs⟩ ∧ vs[2]? = some (.str file tf) := by
  unfold fileB at h
  split at h
  · rename_i a b vs c e
    split at h
    · rename_i s t e2
      obtain rfl := of_decide_eq_true h
      exact ⟨a, b, vs, c, t, e, e2⟩
    · cases h
  · cases h
theorem cellB_ok {K : PySem.W.Frag} {cc C : Addr} (h : cellB K cc C = true) : ∃ cl cld csl, K.lookup cc = some ⟨cl, cld, .cell (some (.ref C)), csl⟩ := by
  unfold cellB at h
  split at h
  · rename_i a b D c e
    obtain rfl := of_decide_eq_true h
    exact ⟨a, b, c, e⟩
  · cases h
def clsB (K : PySem.W.Frag) (file : Str) (C fI : Addr) : Bool := match K.lookup fI with
  | some ⟨_, _, .func fd, _⟩ => (match fd.closure, fd.code, fd.defaults with
    | [(_, cc)], .ref cda, .none => PySem.W.codeIn K (.ref cda) fd.qualname && (fileB K cda file && cellB K cc C)
    | _, _, _ => false)
  | _ => false
def sxB (K : PySem.W.Frag) (file c f : Str) : Bool := oexB K (He.ga K c) && (decide (PySem.W.findIn K (.ref (He.ga K c)) "__init__" = some (some (.ref (He.ma K (He.ga K c) "__init__")))) && (decide (PySem.W.typeIn K (.ref (He.ma K (He.ga K c) "__init__")) = some (.type "function")) &&
  (clsB K file (He.ga K c) (He.ma K (He.ga K c) "__init__") && (decide (PySem.W.ks_superIn K (He.ga K c) (He.ga K c) "__init__" = some (some (.builtin "ValueError.__init__"))) && (decide (PySem.W.nsIn K cStatics "thirdparty.any" = some none) &&
  (decide (PySem.W.subIn K (.ref (He.ga K c)) (.type "ValueError") = some true) && (decide (PySem.W.mroIn K (He.ga K c) (.ref (He.ga K c)) = some true) && decide (PySem.W.findIn K (.ref (He.ga K c)) f = some none))))))))
theorem sxC_of {K : PySem.W.Frag} {file c f nm qual : Str} {ps : Arguments} {bd : List Stmt} {sc : Scope} {tx : Str} {j : Nat} {p0 p1 p2 p3 p4 p5 p6 p7 p8 p9 : Pos} {a0 a1 : Arg} (h : sxB K file c f = true) (e : fnS K (c, some "__init__") = some (nm, qual, ps, FuncBody.stmts bd, sc, mainGlobals, [("__class__" : Str)], builtinsNs))
    (hps : ps = ⟨[], [a0, a1], none, [], [], none, []⟩) (hbd : bd = [.Expr (.Call (.Attribute (.Call (.Name "super" p0) [] [] p1) "__init__" p2) [.Constant (.str tx) j p3] [] p4) p5, .Assign [.Attribute (.Name "self" p6) f p7] (.Name f p8) p9])
    (hl : (p2.endLine == p4.line) = true) (h0 : a0.arg = "self") (h1 : a1.arg = f) (s1 : sc.names.lookup ("super" : Str) = some .globalImplicit) (s2 : sc.names.lookup ("__class__" : Str) = some .free) (s3 : sc.names.lookup ("self" : Str) = some .local) (s4 : sc.names.lookup f = some .local)
    (s5 : sc.kind = .function) (s6 : (sc.names.all fun x => decide (x.2 ≠ .cell)) = true) (s7 : sc.isCoroutine = false) (s8 : sc.isGenerator = false) (ne : f ≠ "self") (dbg : (f == ("__debug__" : Str)) = false) :
    SxC K file (He.ga K c) (He.ma K (He.ga K c) "__init__") f := by
  obtain ⟨b0, h⟩ := He.ba h
  obtain ⟨b1, h⟩ := He.ba h
  obtain ⟨b2, h⟩ := He.ba h
  obtain ⟨b3, h⟩ := He.ba h
  obtain ⟨b4, h⟩ := He.ba h
  obtain ⟨b5, h⟩ := He.ba h
  obtain ⟨b6, h⟩ := He.ba h
  obtain ⟨b7, b8⟩ := He.ba h
  refine ⟨oexB_ok b0, of_decide_eq_true b1, of_decide_eq_true b2, ?_, of_decide_eq_true b4, of_decide_eq_true b5, of_decide_eq_true b6, of_decide_eq_true b7, of_decide_eq_true b8, ne, dbg⟩
  unfold clsB at b3
  have e : (match K.lookup (He.ma K (He.ga K c) "__init__") with
    | some ⟨_, _, .func fd, _⟩ => some (fd.name, fd.qualname, fd.params, fd.body, fd.scope, fd.globals, fd.closure.map (·.1), fd.builtins)
    | _ => none) = some (nm, qual, ps, FuncBody.stmts bd, sc, mainGlobals, [("__class__" : Str)], builtinsNs) := e
  cases q : K.lookup (He.ma K (He.ga K c) "__init__") with
  | none =>
    rw [q] at b3
    cases b3
  | some o =>
    obtain ⟨oc, od, dt, osl⟩ := o
    rw [q] at b3 e
    cases dt with
    | func fd =>
      obtain ⟨n1, n2, n3, n4, n5, n6, n7, n8, n9, n10, n11, n12, n13, n14, n15⟩ := fd
      simp only [Option.some.injEq, Prod.mk.injEq] at e
      obtain ⟨rfl, rfl, rfl, rfl, rfl, rfl, e7, rfl⟩ := e
      dsimp only at b3
      split at b3
      · rename_i x cc cda
        obtain ⟨c1, b3⟩ := He.ba b3
        obtain ⟨c2, c3⟩ := He.ba b3
        simp only [List.map_cons, List.map_nil, List.cons.injEq, and_true] at e7
        try dsimp only at e7
        subst e7
        subst hps
        subst hbd
        exact ⟨oc, od, osl, _, _, tx, j, p0, p1, p2, p3, p4, p5, p6, p7, p8, p9, a0, a1, _, _, _, _, _, _, cda, cc, rfl, hl, h0, h1, c1, fileB_ok c2, cellB_ok c3, s1, s2, s3, s4, s5, s6, s7, s8⟩
      · cases b3
    | _ => cases b3

/-! ### the hook -/
abbrev Sx : Type := (Str × Option Str) × FnS
/-- what the module's names reach, and the interpreter's own tables -/
def asY (g : Addr → Option Obj) (n : Nat) : List Addr := He.asD g n ++ [cStatics, sysModules]
structure SaysY (fa : List He.Fa) (fn : List He.DefD) (ts : List He.Tab) (sx : List Sx) (ex : PySem.W.Frag → Bool) (w : World) (K : PySem.W.Frag) : Prop where
  t : He.SaysT fa fn ts w K
  more : ex K = true
  sx : sx.map (fun p => fnS K p.1) = sx.map fun p => p.2
abbrev AlY : Type := He.AlT × Bool × List FnS
def obsY (n : Nat) (fa : List He.Fa) (fn : List He.DefD) (ts : List He.Tab) (sx : List Sx) (ex : PySem.W.Frag → Bool) (g : Addr → Option Obj) : AlY := (He.obsT fa fn ts (He.frT g (asY g n)), ex (He.frT g (asY g n)), sx.map fun p => fnS (He.frT g (asY g n)) p.1)
def valY (fn : List He.DefD) (ts : List He.Tab) (sx : List Sx) (w : World) : AlY := (He.valT fn ts w, true, sx.map fun p => p.2)
def hookY (n : Nat) (fa : List He.Fa) (fn : List He.DefD) (ts : List He.Tab) (sx : List Sx) (ex : PySem.W.Frag → Bool) : PySem.W.Hook where
  α := AlY
  obs := fun s => obsY n fa fn ts sx ex s.heap.get?
  val := fun w => valY fn ts sx w
  says := fun w h => ∃ K : PySem.W.Frag, K.In h ∧ SaysY fa fn ts sx ex w K
  of := fun _ _ e => ⟨_, He.frT_in, congrArg (fun z : AlY => z.1) e, congrArg (fun z : AlY => z.2.1) e, congrArg (fun z : AlY => z.2.2) e⟩
  keeps := fun _ _ _ ⟨K, hK, c⟩ k => ⟨K, PySem.W.Frag.In.keeps hK k, c⟩
theorem obsY_eq {n : Nat} {fa : List He.Fa} {fn : List He.DefD} {ts : List He.Tab} {sx : List Sx} {ex : PySem.W.Frag → Bool} {g : Addr → Option Obj} {s : Shared} (h : ∀ a, g a = s.heap.get? a) : obsY n fa fn ts sx ex g = (hookY n fa fn ts sx ex).obs s := by
  have e : g = s.heap.get? := funext h
  subst e
  rfl
theorem SaysY.at {fa : List He.Fa} {fn : List He.DefD} {ts : List He.Tab} {sx : List Sx} {ex : PySem.W.Frag → Bool} {w : World} {K : PySem.W.Frag} (c : SaysY fa fn ts sx ex w K) (i : Nat) {p : Sx} (h : sx[i]? = some p := by rfl) : fnS K p.1 = p.2 := by
  have e := congrArg (fun l => l[i]?) c.sx
  simp only [List.getElem?_map, h, Option.map_some, Option.some.injEq] at e
  exact e
def clsFn (s : Stmt) (i : Nat) : Stmt := match s with
  | .ClassDef _ _ _ b _ _ _ _ _ _ _ => b.getD i (.Pass ⟨0, 0, 0, 0⟩)
  | _ => .Pass ⟨0, 0, 0, 0⟩
end ML
set_option Elab.async false
set_option linter.all false
set_option maxRecDepth 100000
set_option maxHeartbeats 4000000
namespace ML
open PySem PySem.Spec L2

/-! ### rules to reckon with -/
section
variable {A B : Type} {sw : SW} {S : Store} {a : A} {f : A → Store → Res B} {g : A → Store → RS} {c : Str} {fs : List Str} {vs : List W} {n m : SM} {w x y : W} {ws : List W} {i j : Int} {k : Nat}
@[simp] theorem bind_ok : (Res.ok a S).bind f = f a S := rfl
@[simp] theorem bind_exc : (Res.exc c fs vs S : Res A).bind f = .exc c fs vs S := rfl
@[simp] theorem bind_bad : (Res.bad : Res A).bind f = .bad := rfl
@[simp] theorem liftS_ok : liftS (.ok a S) sw g = g a S := rfl
@[simp] theorem liftS_exc : liftS (.exc c fs vs S : Res A) sw g = .exc c fs vs sw S := rfl
@[simp] theorem liftS_bad : liftS (.bad : Res A) sw g = .bad := rfl
@[simp] theorem then_nx : (RS.ok (.nx sw) S).then n = n sw S := rfl
@[simp] theorem then_rt {r : RV} : (RS.ok (.rt r) S).then n = .ok (.rt r) S := rfl
@[simp] theorem then_bk : (RS.ok (.bk sw) S).then n = .ok (.bk sw) S := rfl
@[simp] theorem then_ct : (RS.ok (.ct sw) S).then n = .ok (.ct sw) S := rfl
@[simp] theorem then_exc : (RS.exc c fs vs sw S).then n = .exc c fs vs sw S := rfl
@[simp] theorem then_bad : RS.bad.then n = .bad := rfl
@[simp] theorem ev_seq : sSeq m n sw S = (m sw S).then n := rfl
@[simp] theorem ev_nil : sNil sw S = .ok (.nx sw) S := rfl
@[simp] theorem ev_c : eC w sw S = .ok w S := rfl
theorem ev_var (h : sw[k]? = some (some (.val w))) : eVar k sw S = .ok w S := by
  unfold eVar
  rw [h]
@[simp] theorem ev_op1 {o : F1} {e : EM} : eOp1 o e sw S = (e sw S).bind fun x S => o sw x S := rfl
@[simp] theorem ev_op2 {o : F2} {e d : EM} : eOp2 o e d sw S = (e sw S).bind fun x S => (d sw S).bind fun y S => o sw x y S := rfl
@[simp] theorem ev_anil : aNil sw S = .ok [] S := rfl
@[simp] theorem ev_acons {e : EM} {d : AM} : aCons e d sw S = (e sw S).bind fun w S => (d sw S).bind fun ws S => .ok (w :: ws) S := rfl
@[simp] theorem ev_call {h : List W → Store → Res RV} {d : AM} : eCall h d sw S = (d sw S).bind fun ws S => (h ws S).bind rvW := rfl
@[simp] theorem ev_fcall {h : List W → Store → Res RV} {d : AM} : fCall h d sw S = (d sw S).bind fun ws S => (h ws S).bind rvO := rfl
@[simp] theorem ev_rvW : rvW (.val w) S = .ok w S := rfl
@[simp] theorem ev_rvWl : rvW (.fr (.lst ws)) S = .ok (.lst ws) S := rfl
@[simp] theorem ev_rvO {o : O} : rvO (.fr o) S = .ok o S := rfl
@[simp] theorem ev_frz {e : FM} : eFrz e sw S = (e sw S).bind fun o S => if isIns o then .bad else .ok (frz o) S := rfl
@[simp] theorem ev_isl : isIns (.lst ws) = false := rfl
@[simp] theorem ev_isd : isIns (.dct ws vs) = false := rfl
@[simp] theorem ev_frl : frz (.lst ws) = .lst ws := rfl
@[simp] theorem ev_frd : frz (.dct ws vs) = .dct ws vs := rfl
@[simp] theorem ev_lst {d : AM} : fLst d sw S = (d sw S).bind fun ws S => if ws.length ≤ sizeLine then .ok (.lst ws) S else .bad := rfl
@[simp] theorem ev_tup {d : AM} : eTup d sw S = (d sw S).bind fun ws S => if ws.length ≤ sizeLine then .ok (.tup ws) S else .bad := rfl
@[simp] theorem ev_new {e : FM} : eNew e sw S = (e sw S).bind fun o S => .ok (.loc S.length) (S ++ [o]) := rfl
@[simp] theorem ev_set {e : EM} : sSet k e sw S = liftS (e sw S) sw fun w S => .ok (.nx (sw.set k (some (.val w)))) S := rfl
@[simp] theorem ev_ret {e : EM} : sRet e sw S = liftS (e sw S) sw fun w S => .ok (.rt (.val w)) S := rfl
@[simp] theorem ev_retF {e : FM} : sRetF e sw S = liftS (e sw S) sw fun o S => .ok (.rt (.fr o)) S := rfl
@[simp] theorem ev_if {t : TM} : sIf t m n sw S = liftS (t sw S) sw fun c S => if c then m sw S else n sw S := rfl
@[simp] theorem ev_tV {e : EM} : tV e sw S = (e sw S).bind fun w S => match w with
  | .bl b => .ok b S
  | _ => .bad := rfl
@[simp] theorem ev_not {t : TM} : tNotM t sw S = (t sw S).bind fun c S => .ok (!c) S := rfl
@[simp] theorem ev_and {t u : TM} : tAndM t u sw S = (t sw S).bind fun c S => if c then u sw S else .ok false S := rfl
@[simp] theorem ev_or {t u : TM} : tOrM t u sw S = (t sw S).bind fun c S => if c then .ok true S else u sw S := rfl
@[simp] theorem ev_unp {e : EM} {is : List Nat} : sUnp e is sw S = liftS (e sw S) sw fun w S => match seqOf sw S w with
  | some ws => if ws.length = is.length then .ok (.nx (setAll is ws sw)) S else .bad
  | none => .bad := rfl
@[simp] theorem ev_opI {C : Int → Int → Bool} {h : Int → Int → W} : opI C h sw (.int i) (.int j) S = if C i j then .ok (h i j) S else .bad := rfl
@[simp] theorem ev_int : opInt sw (.int i) S = .ok (.int i) S := rfl
@[simp] theorem ev_abs : opAbs sw (.int i) S = .ok (.int (if i < 0 then -i else i)) S := rfl
@[simp] theorem ev_add : opAdd sw (.int i) (.int j) S = .ok (.int (i + j)) S := rfl
theorem ev_len (h : cont sw S (.loc k) = some ws) : opLen sw (.loc k) S = .ok (.int ws.length) S := by
  unfold opLen lenRes
  dsimp only
  rw [h] <;> rfl
@[simp] theorem ev_lenl : opLen sw (.lst ws) S = .ok (.int ws.length) S := rfl
theorem ev_cont (h : S[k]? = some (.lst ws)) : cont sw S (.loc k) = some ws := by
  unfold cont
  dsimp only
  rw [h]
@[simp] theorem ev_contl : cont sw S (.lst ws) = some ws := rfl
theorem ev_seqc (h : cont sw S (.loc k) = some ws) : seqOf sw S (.loc k) = some ws := h
@[simp] theorem ev_seql : seqOf sw S (.lst ws) = some ws := rfl
theorem ev_ix (h : cont sw S (.loc k) = some ws) (ha : atI ws i = some w) : opIx sw (.loc k) (.int i) S = .ok w S := by
  have e : opIx sw (.loc k) (.int i) S = match cont sw S (.loc k) with
    | some ws => match atI ws i with
      | some w => .ok w S
      | none => .bad
    | none => .bad := rfl
  rw [e, h]
  dsimp only
  rw [ha]
theorem ev_ixl (ha : atI ws i = some w) : opIx sw (.lst ws) (.int i) S = .ok w S := by
  have e : opIx sw (.lst ws) (.int i) S = match atI ws i with
      | some w => .ok w S
      | none => .bad := rfl
  rw [e, ha]
theorem ev_locL (h : S[k]? = some (.lst ws)) : locL S (.loc k) = some (k, ws) := by
  unfold locL
  dsimp only
  rw [h]
@[simp] theorem ev_putL {e d b : EM} : sPutL e d b sw S = liftS (b sw S) sw fun w S => liftS (e sw S) sw fun x S => liftS (d sw S) sw fun j S => match locL S x, j with
  | some (n, ws), .int j => match ixN ws.length j with
    | some m => .ok (.nx sw) (S.set n (.lst (ws.set m w)))
    | none => .bad
  | _, _ => .bad := rfl
@[simp] theorem ev_for {it : IM} {gg : GM} : sFor it gg m sw S = liftS (it sw S) sw fun ws S => forW gg m ws sw S := rfl
@[simp] theorem ev_r1 {e : EM} : iR1 e sw S = (e sw S).bind fun w S => match w with
  | .int j => if inR j then .ok (rangeW 0 j.toNat) S else .bad
  | _ => .bad := rfl
theorem ev_body {b : SM} : fBody k b ws S = match b (startW k ws) S with
  | .ok (.rt r) S' => .ok r S'
  | .ok (.nx _) S' => .ok (.val .non) S'
  | .exc c fs vs _ S' => .exc c fs vs S'
  | _ => .bad := rfl
end
theorem bits10 : Builtin.Int.intBits 10 = 4 := by decide +kernel
theorem bits60 : Builtin.Int.intBits (10 ^ 60) = 200 := by decide +kernel
theorem ev_pow18 {sw : SW} {S : Store} : opPow sw (.int 10) (.int 18) S = .ok (.int 1000000000000000000) S := by
  show (if (decide ((0 : Int) ≤ 18) && decide ((Builtin.Int.intBits 10 : Int) * 18 ≤ 2 ^ 27)) = true then Res.ok (W.int (10 ^ (18 : Int).toNat)) S else .bad) = _
  rw [bits10]
  rfl
theorem ev_pow60 {sw : SW} {S : Store} : opPow sw (.int 10) (.int 60) S = .ok (.int (10 ^ 60)) S := by
  show (if (decide ((0 : Int) ≤ 60) && decide ((Builtin.Int.intBits 10 : Int) * 60 ≤ 2 ^ 27)) = true then Res.ok (W.int (10 ^ (60 : Int).toNat)) S else .bad) = _
  rw [bits10]
  rfl
theorem ev_pow20 {sw : SW} {S : Store} : opPow sw (.int (10 ^ 60)) (.int 20) S = .ok (.int ((10 ^ 60) ^ 20)) S := by
  show (if (decide ((0 : Int) ≤ 20) && decide ((Builtin.Int.intBits (10 ^ 60) : Int) * 20 ≤ 2 ^ 27)) = true then Res.ok (W.int ((10 ^ 60) ^ (20 : Int).toNat)) S else .bad) = _
  rw [bits60]
  rfl
theorem pow18_eq : eOp2 opPow (eC (.int 10)) (eC (.int 18)) = eC (.int 1000000000000000000) := by
  funext sw S
  exact ev_pow18 (sw := sw)
def tenK : Int := (10 ^ 60) ^ 20
theorem tenK_pos : 0 < tenK := by decide +kernel
theorem pow6020_eq : eOp2 opPow (eOp2 opPow (eC (.int 10)) (eC (.int 60))) (eC (.int 20)) = eC (.int tenK) := by
  funext sw S
  show (opPow sw (.int 10) (.int 60) S).bind _ = _
  rw [ev_pow60, bind_ok]
  exact ev_pow20 (sw := sw)
theorem pow25_eq : eOp2 opPow (eC (.int 10)) (eC (.int 25)) = eC (.int 10000000000000000000000000) := by
  funext sw S
  show (if (decide ((0 : Int) ≤ 25) && decide ((Builtin.Int.intBits 10 : Int) * 25 ≤ 2 ^ 27)) = true then Res.ok (W.int (10 ^ (25 : Int).toNat)) S else .bad) = _
  rw [bits10]
  rfl
theorem le_size {n : Nat} (h : n ≤ 1000) : n ≤ sizeLine := by
  rw [sizeLine_eq]
  omega
theorem lst_of {d : AM} {sw : SW} {S S' : Store} {ws : List W} (h : d sw S = .ok ws S') (hl : ws.length ≤ 1000) : fLst d sw S = .ok (.lst ws) S' := by
  rw [ev_lst, h, bind_ok, if_pos (le_size hl)]
theorem frz_of {d : FM} {sw : SW} {S S' : Store} {ws : List W} (h : d sw S = .ok (.lst ws) S') : eFrz d sw S = .ok (.lst ws) S' := by
  rw [ev_frz, h]
  rfl
theorem call_of {f : List W → Store → Res RV} {d : AM} {sw : SW} {S S' S'' : Store} {ws : List W} {w : W} (h : d sw S = .ok ws S') (hf : f ws S' = .ok (.val w) S'') : eCall f d sw S = .ok w S'' := by
  rw [ev_call, h, bind_ok, hf]
  rfl
theorem callF_of {f : List W → Store → Res RV} {d : AM} {sw : SW} {S S' S'' : Store} {ws us : List W} (h : d sw S = .ok ws S') (hf : f ws S' = .ok (.fr (.lst us)) S'') : eCall f d sw S = .ok (.lst us) S'' := by
  rw [ev_call, h, bind_ok, hf]
  rfl
theorem for_step {g : GM} {b : SM} {w : W} {ws : List W} {sw sw1 sw2 : SW} {S S2 : Store} (hg : g w sw = some sw1) (hb : b sw1 S = .ok (.nx sw2) S2) : forW g b (w :: ws) sw S = forW g b ws sw2 S2 := by
  have e : forW g b (w :: ws) sw S = match g w sw with
    | none => .bad
    | some sw1 => match b sw1 S with
      | .ok (.nx sw2) S2 => forW g b ws sw2 S2
      | .ok (.ct sw2) S2 => forW g b ws sw2 S2
      | .ok (.bk sw2) S2 => .ok (.nx sw2) S2
      | .ok (.rt r) S2 => .ok (.rt r) S2
      | .exc c fs vs sw2 S2 => .exc c fs vs sw2 S2
      | .bad => .bad := rfl
  rw [e, hg]
  dsimp only
  rw [hb]
end ML
set_option Elab.async false
set_option linter.all false
set_option maxRecDepth 100000
set_option maxHeartbeats 4000000
namespace ML
open PySem PySem.Spec PyProof.Rows L2

/-! ### what is not served claims nothing -/
section
variable {X : Cx} {Wx : WX}
def eBad : EM := fun _ _ => .bad
def sBad : SM := fun _ _ => .bad
theorem ie_bad {e : Expr} : IE X Wx e eBad := ⟨fun pins s σ H Q I h => by
  obtain ⟨F0, F, r, S, sw, t, st, q⟩ := h
  exact q.elim⟩
theorem is_bad {st : Stmt} : IS X Wx st sBad := ⟨fun pins s σ H D I h => by
  obtain ⟨F0, H0, r0, F, r, S, sw, x0, t, st, q⟩ := h
  exact q.elim⟩
/-! ### a < b < c -/
variable {a b c : Expr} {op op' : CmpOp} {r r' : R2} {f g : F2} {ma mb mc : EM} {pos : Pos}
theorem chain_imp {k : Kw} (hf : Sp2 k r f) (hg : Sp2 k r' g) (s : L2.St) (H : Hp) (Q : VK) (h : tE k Wx (eChain f g ma mb mc) s H Q) : tChain r r' (tB k Wx ma) (tB k Wx mb) (tB k Wx mc) s H Q := by
  obtain ⟨F0, F, rh, S, sw, t, st, q⟩ := h
  refine tB_bind t st q fun w1 v1 Fa Ha ra Sa xa ta sa ba q => ?_
  refine tB_bind ta sa q fun w2 v2 Fb Hb rb Sb xb tb sb bb q => ?_
  have ba' := ba.mv (xb.mv ta.inF)
  cases e : f sw w1 w2 Sb with
  | ok z S' =>
    rw [e] at q
    refine hf _ _ _ _ _ _ _ _ _ _ _ Wx _ tb sb ba' bb ?_
    rw [e]
    intro F' H' r' x t' v rv
    have q := Run.shift x q
    have sb' := sb.ext x tb
    cases z with
    | bl k =>
      cases rv
      refine ⟨k, rfl, ?_⟩
      cases k with
      | true =>
        rw [if_pos rfl]
        refine tB_bind t' sb' q fun w3 v3 Fc Hc rc Sc xc tc sc bc q => ?_
        exact hg _ _ _ _ _ _ _ _ _ _ _ _ _ tc sc ((bb.mv (x.mv tb.inF)).mv (xc.mv t'.inF)) bc q
      | false =>
        rw [if_neg Bool.false_ne_true]
        exact q.ok t' _ rfl
    | _ => exact q.elim
  | exc c fs vs S' =>
    rw [e] at q
    refine hf _ _ _ _ _ _ _ _ _ _ _ Wx _ tb sb ba' bb ?_
    rw [e]
    exact q
  | bad =>
    rw [e] at q
    exact q.elim
theorem ie_chain (ho : OpR X (compareOp op) r) (hf : Sp2 (kw X) r f) (ho' : OpR X (compareOp op') r') (hg : Sp2 (kw X) r' g) (ha : IB X Wx a ma) (hb : IB X Wx b mb) (hc : IB X Wx c mc) (hm : lastMarks [op, op'] [b, c] = false := by rfl) :
    IE X Wx (.Compare a [op, op'] [b, c] pos) (eChain f g ma mb mc) := pe_imp (pe_chain ho ho' ha hb hc hm) (chain_imp hf hg)
theorem it_chain (ho : OpR X (compareOp op) r) (hf : Sp2 (kw X) r f) (ho' : OpR X (compareOp op') r') (hg : Sp2 (kw X) r' g) (ha : IB X Wx a ma) (hb : IB X Wx b mb) (hc : IB X Wx c mc) (hm : lastMarks [op, op'] [b, c] = false := by rfl) :
    IT X Wx (.Compare a [op, op'] [b, c] pos) (tV (eChain f g ma mb mc)) := pt_imp (pt_chain ho ho' ha hb hc hm) fun s H Q h => chain_imp hf hg s H _ (tV_imp s H Q h)
end

/-! ### len(set(t)), t a tuple of texts -/
def distinct : List Str → List Str
  | [] => []
  | x :: xs => if (distinct xs).contains x then distinct xs else x :: distinct xs
section
variable {P : Program} {w : World} {A : Around} {E : Value → Shared → Prop} {s : Shared}
/-- how many of the first i texts are told once -/
def cntTo (xs : List Str) : Nat → Nat
  | 0 => 0
  | i + 1 => if (xs.take i).contains (xs.getD i ⟨#[]⟩) then cntTo xs i else cntTo xs i + 1
theorem cntTo_le (xs : List Str) : ∀ i, cntTo xs i ≤ i
  | 0 => Nat.le_refl _
  | i + 1 => by
    have := cntTo_le xs i
    unfold cntTo
    split <;> omega
theorem upd_texts {It : Addr} {fp wr : List Addr} {G : Array GenState → Array GenState → Prop} {n : Nat} {Pv : Nat → Value → Prop} {St : Nat → Shared → Prop} {R : Result → Shared → Prop}
    (Wk : WalksS P w A.in1 It fp wr G n Pv St) (Z : Addr) (nZ : Z ∉ fp) (xs : List Str) (hn : n = xs.length) (room : xs.length + 1 < scanBound) (pv : ∀ i v, Pv i v → ∃ k t, xs[i]? = some k ∧ v = .str k t) :
    ∀ (m i : Nat) (u : Shared), n - i = m → i ≤ n → St i u → SetTx w u.heap Z (fun j => (xs.take i).contains j) (cntTo xs i) →
      (∀ u', Moved (Z :: wr) G u u' → SetTx w u'.heap Z (fun j => xs.contains j) (cntTo xs n) → R (.ok (.ret .none)) u') → codeAny (model P w) A (.builtin "set.update.loop" ⟨[.ref Z, .ref It], []⟩) R u := by
  have nw : Z ∉ wr := fun z => nZ (Wk.sub _ z)
  have more : ∀ b ∈ wr, b ∈ Z :: wr := fun b z => List.mem_cons_of_mem _ z
  intro m
  induction m with
  | zero =>
    intro i u e1 e2 st set0 fin
    obtain rfl : i = n := by omega
    refine codeAny_builtin F.entry_set_update_loop ?_
    rw [Around.under_plainId F.plain_set_update_loop _]
    refine (show wpAny _ A.in1 (pyNext (.ref It) >>= _) _ _ u from wpAny_bind (Wk.done u _ _ st fun u' mv => (show wpAny _ A.in1 (ret Value.none) _ _ u' from ?_)))
    rw [List.take_of_length_le (by omega)] at set0
    exact wpAny_pure (fin u' (mv.mono more) (set0.at fun o z => mv.heap Z o nw z))
  | succ m ih =>
    intro i u e1 e2 st set0 fin
    have lt : i < n := by omega
    refine codeAny_builtin F.entry_set_update_loop ?_
    rw [Around.under_plainId F.plain_set_update_loop _]
    refine (show wpAny _ A.in1 (pyNext (.ref It) >>= _) _ _ u from wpAny_bind (Wk.item i u _ _ lt st fun v u' pvv st' mv => ?_))
    obtain ⟨x, t, ex, rfl⟩ := pv i v pvv
    have set1 : SetTx w u'.heap Z (fun j => (xs.take i).contains j) (cntTo xs i) := set0.at fun o z => mv.heap Z o nw z
    refine (show wpAny _ A.in1 (holding [Value.str x t] (setAdd Z (.str x t)) >>= _) _ _ u' from wpAny_bind (wpAny_holding ?_))
    unfold setAdd
    refine wpAny_holding (wpAny_bind ((strKind P w).pyHash (strKind_is P w x t) ?_))
    have cl := cntTo_le xs i
    refine setT_add_hashed (s := { u' with toks := u'.toks + 1 }) set1 (by omega) fun h' sb set2 => ?_
    have ed : xs.getD i ⟨#[]⟩ = x := by rw [List.getD_eq_getElem?_getD, ex]; rfl
    have ec : (if (xs.take i).contains x = true then cntTo xs i else cntTo xs i + 1) = cntTo xs (i + 1) := by
      show _ = if (xs.take i).contains (xs.getD i ⟨#[]⟩) then cntTo xs i else cntTo xs i + 1
      rw [ed]
    rw [ec] at set2
    have set3 : SetTx w h' Z (fun j => (xs.take (i + 1)).contains j) (cntTo xs (i + 1)) := set2.congr fun j => by
      rw [List.take_add_one, ex]
      simp [List.contains_eq_mem, List.mem_append]
    refine wpAny_pure ⟨plainId_quiet F.plain_set_update_loop _, ih (i + 1) _ (by omega) lt (Wk.frame _ u' _ _ st' (Nat.le_succ _) fun b z o q => ?_) set3 fun u2 mv2 set4 => ?_⟩
    · rw [sb.2 b fun z2 => nZ (z2 ▸ z)]
      exact q
    · refine fin u2 (Moved.trans Wk.gtrans ((mv.mono more).then_heap (Nat.le_succ _) fun b o z q => ?_) mv2) set4
      rw [sb.2 b fun z2 => z (z2 ▸ List.mem_cons_self)]
      exact q
end
end ML
set_option Elab.async false
set_option linter.all false
set_option maxRecDepth 100000
set_option maxHeartbeats 4000000
namespace ML
open PySem PySem.Spec PyProof.Rows L2
abbrev nSet (w : World) : Obj := { cls := .type "set", dict := none, data := .set #[] 0 (.fresh 0 0 (!w.params.followText "set-order")) }
section
variable {P : Program} {w : World} {A : Around} {E : Value → Shared → Prop} {s : Shared}
theorem nSet_tx {h : Heap} {a : Addr} {xs : List Str} (e : h.get? a = some (nSet w)) : SetTx w h a (fun j => (xs.take 0).contains j) 0 :=
  ⟨_, #[], 0, _, e, ⟨rfl, rfl, rfl⟩, rfl, (fun e he => by simp at he), (by simp), (fun k => by simp), (by decide), (by rfl), rfl, List.Pairwise.nil, by
    show _ ∨ (!w.params.followText "set-order") = true
    cases w.params.followText "set-order"
    · exact .inr rfl
    · exact .inl rfl⟩
theorem strs_at : ∀ {us : List Value} {xs : List Str}, StrsAre us xs → ∀ {i : Nat} {v : Value}, us[i]? = some v → ∃ k t, xs[i]? = some k ∧ v = .str k t
  | _, _, .nil, i, v, h => by simp at h
  | _, _, .cons y t r, 0, v, h => by
    simp at h
    exact ⟨y, t, rfl, h.symm⟩
  | _, _, .cons y t r, i + 1, v, h => by
    rw [List.getElem?_cons_succ] at h ⊢
    exact strs_at r h
theorem set_texts {l : Addr} {its : Array Value} (xs : List Str) {Q : Value → Shared → Prop} (hh : A.handled = none) (ht : s.heap.IsTuple l its) (hx : StrsAre its.toList xs) (room : xs.length + 1 < scanBound)
    (fin : ∀ (h' : Heap) (tk : Nat), SetTx w h' s.heap.objs.size (fun j => xs.contains j) (cntTo xs xs.length) → (∀ b o, s.heap.get? b = some o → h'.get? b = some o) → Q (.ref s.heap.objs.size) { s with heap := h', toks := tk }) :
    wpAny (model P w) A (call (.type "set") [.ref l]) Q E s := by
  have sz : its.size = xs.length := by
    have q := hx.length
    rw [Array.length_toList] at q
    exact q
  obtain ⟨cm, tl, hmro⟩ := F.called_set.mro
  have hmade := F.called_set.made
  have hsub := F.called_set.sub
  have n1 := F.called_set.notType
  have n2 := F.called_set.canCreate
  have n3 := F.typeCall_set_1 (.ref l)
  refine wpAny_call (codeAny_of_tree (show wpAny _ _ (callAny (.type "set") _) _ _ _ from wpAny_pure ⟨Code.quiet_builtin _ (by decide +kernel), codeAny_builtin F.entry_type_call ?_⟩))
  rw [Around.under_plain (weight_type_call_type "set" [.ref l] []) rfl]
  repeat (any_goals (first
    | assumption
    | wp_step))
  refine codeAny_mono (code_set_led1 (.ref l) (E := E) (Q₁ := fun obj u => obj = .ref s.heap.objs.size ∧ u = { s with heap := s.heap.push (nSet w) }) ⟨rfl, rfl⟩) fun r u hr => ?_
  cases r with
  | error e => exact hr
  | ok fl =>
    cases fl with
    | ret obj =>
      obtain ⟨rfl, rfl⟩ := hr
      have gS : (s.heap.push (nSet w)).get? s.heap.objs.size = some (nSet w) := Heap.get?_push_size _ rfl
      have tS : Shared.TypeIs { s with heap := s.heap.push (nSet w) } (.ref s.heap.objs.size) "set" := ⟨_, gS, rfl⟩
      have i1 := F.called_set.init.lookup
      have i2 := F.called_set.init.bind (.ref s.heap.objs.size)
      repeat (any_goals (first
        | assumption
        | wp_step))
      refine codeAny_mono (codeAny_call_builtin (R := wants (fun r u2 => r = .none ∧ ∃ h' tk, u2 = { s with heap := h', toks := tk } ∧ SetTx w h' s.heap.objs.size (fun j => xs.contains j) (cntTo xs xs.length) ∧ (∀ b o, s.heap.get? b = some o → h'.get? b = some o)) E)
        F.called_set.init.plain F.entry_set_init (check_set_init_1 tS ?_)) fun r2 u2 hr2 => ?_
      · obtain ⟨ol, gl, cl, nl, dl⟩ := ht
        obtain ⟨ocls, odict, odata, oslots⟩ := ol
        simp only at cl dl
        subst cl
        subst dl
        have gl1 : (s.heap.push (nSet w)).get? l = some { cls := .type "tuple", dict := odict, data := .seq its nl, slots := oslots } := Heap.get?_push_of_some _ gl
        have q1 := F.sub_tuple_set
        have q2 := F.sub_tuple_frozenset
        have q3 : (Value.type "tuple" == Value.type "dict") = false := by decide
        have tl1 : (s.heap.push (nSet w)).IsTuple l its := ⟨_, gl1, rfl, nl, rfl⟩
        unfold Builtin.«set.__init__» noKeywords Builtin.Frozenset.updateFrom
        generalize ePI : pyIter = PI
        wp_walk
        subst ePI
        refine wpAny_pyIter_tuple tl1 (wpAny_bind (wpAny_runValue ?_))
        have ll : l < s.heap.objs.size := Heap.lt_size gl
        have h3 : A.in1.in1.in1.handled = none := by simp [hh]
        have nI : l ≠ (s.heap.push (nSet w)).objs.size := by
          rw [Heap.size_push]
          exact Nat.ne_of_lt (Nat.lt_succ_of_lt ll)
        have nF : s.heap.objs.size ∉ [(s.heap.push (nSet w)).objs.size, l] := by
          rw [Heap.size_push]
          simp only [List.mem_cons, List.mem_singleton, List.not_mem_nil, or_false, not_or]
          exact ⟨Nat.ne_of_lt (Nat.lt_succ_self _), Nat.ne_of_gt ll⟩
        have pv : ∀ (i : Nat) (v : Value), its[i]? = some v → ∃ k t, xs[i]? = some k ∧ v = .str k t := fun i v hv => by
          rw [← Array.getElem?_toList] at hv
          exact strs_at hx hv
        refine upd_texts ((Walks.tuple h3 _ l nI its).toS) s.heap.objs.size nF xs sz room pv (its.size - 0) 0 _ (by omega) (Nat.zero_le _) ⟨⟨_, Heap.get?_push_size _ rfl, rfl, rfl⟩, (tl1.push _)⟩ (nSet_tx (Heap.get?_push_of_some _ gS)) fun u3 mv set4 => ?_
        obtain ⟨h', g2, d', tk', os'⟩ := u3
        obtain rfl : g2 = s.gens := mv.gens
        obtain rfl : d' = s.drawn := mv.drawn
        obtain rfl : os' = s.os := mv.os
        rw [sz] at set4
        refine (show wpAny _ _ _ _ _ _ from wpAny_pure (show wpAny _ _ (ret Value.none) _ _ _ from wpAny_pure ⟨rfl, h', tk', rfl, set4, fun b o e => ?_⟩))
        have lb : b < s.heap.objs.size := Heap.lt_size e
        refine mv.heap b o ?_ (Heap.get?_push_of_some _ (Heap.get?_push_of_some _ e))
        rw [Heap.size_push]
        simp only [List.mem_cons, List.mem_singleton, List.not_mem_nil, or_false, not_or]
        exact ⟨Nat.ne_of_lt lb, Nat.ne_of_lt (Nat.lt_succ_of_lt lb)⟩
      · cases r2 with
        | error e => exact hr2
        | ok fl2 =>
          cases fl2 with
          | ret r =>
            obtain ⟨rfl, h', tk, rfl, set4, kk⟩ := hr2
            repeat (any_goals (first
              | assumption
              | wp_step))
            exact fin _ _ set4 kk
          | _ => exact hr2.elim
    | _ => exact hr.elim
end
end ML
set_option Elab.async false
set_option linter.all false
set_option maxRecDepth 100000
set_option maxHeartbeats 4000000
namespace ML
open PySem PySem.Spec PyProof.Rows L2
theorem strsV : ∀ {ys : List Str} {us : List Value}, Vals (ys.map V.str) us → StrsAre us ys
  | [], _, .nil => .nil
  | y :: ys, _, .cons r t => by
    obtain ⟨k, rfl⟩ := r
    exact .cons y k (strsV t)
section
variable {X : Cx} {Wx : WX}
theorem pe_lenSetT {a : Expr} {ta : TE} {p p2 q pos : Pos} (hc : X.calm = true) (g1 : Gl X "len") (m1 : X.mg "len" = none) (g2 : Gl X "set") (m2 : X.mg "set" = none) (ha : PE X a ta) (na : starEach [a] X.env = (false, eval a X.env) :: starEach [] X.env := by rfl) :
    PE X (.Call (.Name "len" p) [.Call (.Name "set" p2) [a] [] q] [] pos) (fun σ H Q => ta σ H fun x H1 => ∃ (l : Addr) (xs : List Str), x = .ref l ∧ SqT X.K H1 l (xs.map V.str) ∧ xs.length ≤ 100 ∧ Q (.int (cntTo xs xs.length)) H1) := by
  refine ⟨fun pins s σ H Q I h => ?_⟩
  refine Call_ (ld_blt I g1 m1 boot_len (callWith_builtin1 (args_cons (Call_ (ld_blt I g2 m2 boot_set (callWith_type1 (args_cons (thn (ha.run pins s σ H _ I h) fun v s1 ⟨x, H1, J, rx, l, xs, ex, hq, room, q1⟩ => args_nil ?_) na) na rfl))) rfl) rfl rfl))
  subst ex
  cases rx
  obtain ⟨its, r, pl, _⟩ := J.tuple hq
  have sb : 102 ≤ scanBound := by decide
  refine set_texts xs (J.ok.hd hc) pl (by simpa using strsV r) (by omega) fun h' tk st kk => args_nil ?_
  obtain ⟨o, es, ep, t, ho, hex, hd, _, _, _, hb, hf, hn, _⟩ := st
  have J2 : Inv X pins σ H1 { s1 with heap := h', toks := tk } := J.kept kk
  have cl := cntTo_le xs xs.length
  refine call_len_set ho hex hd hf (by rw [hn]; omega) ⟨.int (cntTo xs xs.length), H1, J2.tok _, ⟨_, by rw [hn]⟩, q1⟩
def opLenSet : F1 := fun _ x S => match x with
  | .tup ws => match strL ws with
    | some xs => if xs.length ≤ 100 then .ok (.int (cntTo xs xs.length)) S else .bad
    | none => .bad
  | _ => .bad
theorem ie_lenSet {a : Expr} {m : EM} {p p2 q pos : Pos} (hc : X.calm = true) (g1 : Gl X "len") (m1 : X.mg "len" = none) (g2 : Gl X "set") (m2 : X.mg "set" = none) (ha : IB X Wx a m) (na : starEach [a] X.env = (false, eval a X.env) :: starEach [] X.env := by rfl) :
    IE X Wx (.Call (.Name "len" p) [.Call (.Name "set" p2) [a] [] q] [] pos) (eOp1 opLenSet m) := by
  refine pe_imp (pe_lenSetT hc g1 m1 g2 m2 ha na) fun s H Q ⟨F0, F, r, S, sw, t, st, q⟩ => ?_
  refine tB_bind t st q fun w v F' H' r' S' x t' st' b q => ?_
  cases w with
  | tup ws =>
    unfold opLenSet at q
    dsimp only at q
    split at q
    · rename_i xs hx
      split at q
      · rename_i hl
        obtain ⟨a, vs, rfl, ha, l⟩ := tup_rep b
        rw [strs_rep l hx] at ha
        exact ⟨a, xs, rfl, ha, hl, q.ok t' _ rfl⟩
      · exact q.elim
    · exact q.elim
  | _ => exact q.elim
end
theorem tmul_one (l : Addr) (items : Array Value) (n : Nat) (dd : Option Addr) (sl : Array (Option Value)) (u : Tok) :
    Meets (Builtin.«tuple.__mul__» ⟨[.ref l, .int 1 u], []⟩) (fun _ R s => s.heap.get? l = some { cls := .type "tuple", dict := dd, data := .seq items n, slots := sl } ∧ R (.ok (.ret (Value.ref l))) s) :=
  .of_wp fun prog w A R s h => by
    obtain ⟨hp, g, d, tk, os⟩ := s
    obtain ⟨hl, h⟩ := h
    have f1 := AutoSeq1.idx_int
    wp_walk using wpAny_loadPart' hl
    exact ⟨_, rfl, h⟩
theorem tmul_zero (l : Addr) (items : Array Value) (n : Nat) (dd : Option Addr) (sl : Array (Option Value)) (u : Tok) (he : items.isEmpty = false) :
    Meets (Builtin.«tuple.__mul__» ⟨[.ref l, .int 0 u], []⟩) (fun _ R s => s.heap.get? l = some { cls := .type "tuple", dict := dd, data := .seq items n, slots := sl } ∧
      R (.ok (.ret (Value.ref s.heap.objs.size))) { s with heap := s.heap.push { cls := Value.type "tuple", data := Data.seq #[] }, toks := s.toks }) :=
  .of_wp fun prog w A R s h => by
    obtain ⟨hp, g, d, tk, os⟩ := s
    obtain ⟨hl, h⟩ := h
    have f1 := AutoSeq1.idx_int
    wp_walk using wpAny_loadPart' hl
    exact ⟨_, rfl, h⟩
/-! ### t * n for any small n -/
def rRepT1 (K : PySem.W.Frag) : R2 := fun x y H Q => ∃ l xs, x = .ref l ∧ y = .int 1 ∧ SqT K H l xs ∧ Q (.ref l) H
def rRepT0 (K : PySem.W.Frag) : R2 := fun x y H Q => ∃ l xs, x = .ref l ∧ y = .int 0 ∧ SqT K H l xs ∧ xs ≠ [] ∧ ∀ p, H p = none → Q (.ref p) (upd H p (.tup []))
section
variable {X : Cx}
theorem op_rep1 : OpR X (binaryOp .Mult) (rRepT1 X.K) := by
  intro pins s σ H x y v u Q I rx ry h
  obtain ⟨l, xs, rfl, rfl, hT, q⟩ := h
  cases rx
  obtain ⟨t, rfl⟩ := ry
  obtain ⟨its, r, ⟨⟨cls, dd, data, sl⟩, ho, e1, n, e2⟩, _⟩ := I.tuple hT
  simp only at e1 e2
  subst e1 e2
  exact wpAny_binaryOp_repeat_ref (T := "tuple") (U := "int") (by decide) ⟨_, ho, rfl⟩ (fun s' => typeIs_int s' 1 t) noFill_tuple_mul F.fills_int_mul F.slot_int_rmul repeat_tuple F.slot_int_index.lookup
    (call_meets F.slot_int_rmul (typeIs_int s 1 t) F.entry_int_rmul (F.args_int_rmul_2 _ _) (int_rmul_tuple 1 t l its.toArray n dd sl)
      ⟨ho, rfl, ⟨_, ho, rfl⟩, call_meets F.slot_tuple_mul ⟨_, ho, rfl⟩ F.entry_tuple_mul (F.args_tuple_mul_2 _ _) (tmul_one l its.toArray n dd sl t) ⟨ho, ⟨.ref l, H, I, rfl, q⟩⟩⟩)
theorem op_rep0 : OpR X (binaryOp .Mult) (rRepT0 X.K) := by
  intro pins s σ H x y v u Q I rx ry h
  obtain ⟨l, xs, rfl, rfl, hT, hne, q⟩ := h
  cases rx
  obtain ⟨t, rfl⟩ := ry
  obtain ⟨its, r, ⟨⟨cls, dd, data, sl⟩, ho, e1, n, e2⟩, _⟩ := I.tuple hT
  simp only at e1 e2
  subst e1 e2
  have hi : its.toArray.isEmpty = false := by
    cases its with
    | nil =>
      cases xs with
      | nil => exact absurd rfl hne
      | cons a b => cases r
    | cons a b => rfl
  refine wpAny_binaryOp_repeat_ref (T := "tuple") (U := "int") (by decide) ⟨_, ho, rfl⟩ (fun s' => typeIs_int s' 0 t) noFill_tuple_mul F.fills_int_mul F.slot_int_rmul repeat_tuple F.slot_int_index.lookup
    (call_meets F.slot_int_rmul (typeIs_int s 0 t) F.entry_int_rmul (F.args_int_rmul_2 _ _) (int_rmul_tuple 0 t l its.toArray n dd sl)
      ⟨ho, rfl, ⟨_, ho, rfl⟩, call_meets F.slot_tuple_mul ⟨_, ho, rfl⟩ F.entry_tuple_mul (F.args_tuple_mul_2 _ _) (tmul_zero l its.toArray n dd sl t hi) ⟨ho, ?_⟩⟩)
  refine ⟨.ref s.heap.objs.size, _, I.laid (t' := s.toks) (o := .tup []) (fun b ob z => Heap.get?_push_of_some _ z) (Nat.le_refl _) ?_, rfl, q _ (I.hok.fresh (Nat.le_refl _))⟩
  exact ⟨Nat.zero_le _, [], .nil, IsTup.new _ _⟩
def rRepA (K : PySem.W.Frag) : R2 := fun x y H Q => rRepT K x y H Q ∨ (rRepT1 K x y H Q ∨ rRepT0 K x y H Q)
theorem op_repA : OpR X (binaryOp .Mult) (rRepA X.K) := op_repT.or (op_rep1.or op_rep0)
def opRepA : F2 := fun sw x y S => match x, y with
  | .tup ws, .int k => if decide (ws ≠ []) && decide (0 ≤ k) && decide (k ≤ 1000) && decide (ws.length ≤ 1000) then .ok (.tup (List.replicate k.toNat ws).flatten) S else .bad
  | _, _ => .bad
theorem sp_repA {k : Kw} : Sp2 k (rRepA k.K) opRepA := by
  intro F0 F H rho S s sw x y v u Wx Q t st b1 b2 q
  unfold opRepA at q
  split at q
  · rename_i ws i
    split at q
    · rename_i h
      simp only [Bool.and_eq_true, decide_eq_true_eq] at h
      obtain ⟨⟨⟨h1, h2⟩, h3⟩, h4⟩ := h
      have b1' := b1
      obtain ⟨a, vs, rfl, ha, l⟩ := tup_rep b1
      cases b2
      have hvs : vs ≠ [] := fun z => h1 (by
        have e := l.length
        rw [z] at e
        exact List.eq_nil_of_length_eq_zero e)
      by_cases hi2 : 2 ≤ i
      · refine .inl ⟨a, i, vs, rfl, rfl, ha, hvs, hi2, h3, by rw [← l.length]; exact h4, fun p hp => ?_⟩
        exact q F _ rho (Ext.new1 hp) (t.new1 hp) (.ref p) ⟨p, _, rfl, .inl ⟨upd_same, t.free hp⟩, RepL.mv ((Ext.new1 hp).mv t.inF) _ _ (repL_rep l _)⟩
      · by_cases hi1 : i = 1
        · subst hi1
          refine .inr (.inl ⟨a, vs, rfl, rfl, ha, q.ok t _ ?_⟩)
          have e : (List.replicate (1 : Int).toNat ws).flatten = ws := by simp
          rw [e]
          exact b1'
        · have hi0 : i = 0 := by omega
          subst hi0
          refine .inr (.inr ⟨a, vs, rfl, rfl, ha, hvs, fun p hp => ?_⟩)
          exact q F _ rho (Ext.new1 hp) (t.new1 hp) (.ref p) ⟨p, [], rfl, .inl ⟨upd_same, t.free hp⟩, rfl⟩
    · exact q.elim
  · exact q.elim
end
end ML
set_option Elab.async false
set_option linter.all false
set_option maxRecDepth 100000
set_option maxHeartbeats 4000000
namespace ML
open PySem PySem.Spec PyProof.Rows L2
/-! ### a, b = x, y without a tuple -/
def sPar (n : AM) (is : List Nat) : SM := fun sw S => liftS (n sw S) sw fun ws S => if ws.length = is.length then .ok (.nx (setAll is ws sw)) S else .bad
theorem tA_st {k : Kw} {Wx : WX} {s : L2.St} {sw : SW} {F0 F : FS} {H H0 : Hp} {r r0 : List Addr} {S : Store} {D : Ends} {m : AM} {f : List W → Store → RS} {Q : List V → Hp → Prop} (x0 : Ext F0 H0 r0 F H r) (t : Sto k F H r S) (st : StR k F0 F H r s sw) (h : RunS k Wx F0 H0 r0 F H r (liftS (m sw S) sw f) D)
    (g : ∀ ws vs F' H' r' S', Ext F H r F' H' r' → Sto k F' H' r' S' → StR k F0 F' H' r' s sw → RepL k F' H' r' ws vs → RunS k Wx F0 H0 r0 F' H' r' (f ws S') D → Q vs H') : tA k Wx m s H Q := by
  refine ⟨F0, F, r, S, sw, t, st, ?_⟩
  cases e : m sw S with
  | ok w S' =>
    rw [e] at h
    exact fun F' H' r' x t' vs rv => g w vs F' H' r' S' x t' (st.ext x t) rv (RunS.rebase (x.mv t.inF) h)
  | exc c fs ws S' =>
    rw [e] at h
    exact fun d vs F' H' r' x t' ed l => h d vs F' H' r' s (x0.trans x) (x.mv t.inF) t' (st.ext x t) ed l
  | bad =>
    rw [e] at h
    exact h
theorem len_ok {k : Kw} {Wx : WX} {F0 F : FS} {H H0 : Hp} {r r0 : List Addr} {D : Ends} {ws : List W} {is : List Nat} {sw : SW} {S : Store} (q : RunS k Wx F0 H0 r0 F H r (if ws.length = is.length then .ok (.nx (setAll is ws sw)) S else .bad) D) :
    ws.length = is.length ∧ RunS k Wx F0 H0 r0 F H r (.ok (.nx (setAll is ws sw)) S) D := by
  by_cases h : ws.length = is.length
  · rw [if_pos h] at q
    exact ⟨h, q⟩
  · rw [if_neg h] at q
    exact q.elim
theorem repL_c {k : Kw} {F : FS} {H : Hp} {r : List Addr} {ws : List W} {vs : List V} {n : Nat} (l : RepL k F H r ws vs) (h : ws.length = n + 1) : ∃ w ws' v vs', ws = w :: ws' ∧ vs = v :: vs' ∧ RepV k F H r w v ∧ RepL k F H r ws' vs' ∧ ws'.length = n := by
  cases ws with
  | nil => cases h
  | cons w ws =>
    obtain ⟨v, vs', e, l1, l2⟩ := l
    exact ⟨w, ws, v, vs', rfl, e, l1, l2, Nat.succ.inj h⟩
theorem repL_n {k : Kw} {F : FS} {H : Hp} {r : List Addr} {ws : List W} {vs : List V} (l : RepL k F H r ws vs) (h : ws.length = 0) : ws = [] ∧ vs = [] := by
  cases ws with
  | nil => exact ⟨rfl, l⟩
  | cons w ws => cases h
theorem repL2 {k : Kw} {F : FS} {H : Hp} {r : List Addr} {ws : List W} {vs : List V} (l : RepL k F H r ws vs) (h : ws.length = 2) : ∃ w1 w2 v1 v2, ws = [w1, w2] ∧ vs = [v1, v2] ∧ RepV k F H r w1 v1 ∧ RepV k F H r w2 v2 := by
  obtain ⟨w1, ws1, v1, vs1, rfl, rfl, a1, l, h⟩ := repL_c l h
  obtain ⟨w2, ws2, v2, vs2, rfl, rfl, a2, l, h⟩ := repL_c l h
  obtain ⟨rfl, rfl⟩ := repL_n l h
  exact ⟨w1, w2, v1, v2, rfl, rfl, a1, a2⟩
theorem repL3 {k : Kw} {F : FS} {H : Hp} {r : List Addr} {ws : List W} {vs : List V} (l : RepL k F H r ws vs) (h : ws.length = 3) : ∃ w1 w2 w3 v1 v2 v3, ws = [w1, w2, w3] ∧ vs = [v1, v2, v3] ∧ RepV k F H r w1 v1 ∧ RepV k F H r w2 v2 ∧ RepV k F H r w3 v3 := by
  obtain ⟨w1, ws1, v1, vs1, rfl, rfl, a1, l, h⟩ := repL_c l h
  obtain ⟨w2, w3, v2, v3, rfl, rfl, a2, a3⟩ := repL2 l h
  exact ⟨w1, w2, w3, v1, v2, v3, rfl, rfl, a1, a2, a3⟩
section
variable {X : Cx} {Wx : WX} {x y z : Str} {a b c : Expr} {n : AM} {px py pz pt pos : Pos} {kt k2 : Nat} {pt2 : Pos} {i j l : Nat}
theorem is_par2 (hc : X.calm = true) (hN : X.N.Nodup) (hi : X.N[i]? = some x) (hj : X.N[j]? = some y) (hij : i ≠ j) (hx : X.env.scope.names.lookup x = some .local) (hy : X.env.scope.names.lookup y = some .local) (ha : IA X Wx [a, b] n)
    (hw : swappedStores [.Tuple [.Name x px, .Name y py] kt pt] (.Tuple [a, b] k2 pt2) X.env = pure (some [x, y])) (hs : swapsWithSole [.Tuple [.Name x px, .Name y py] kt pt] (.Tuple [a, b] k2 pt2) pos.line X.env = pure false := by rfl) :
    IS X Wx (.Assign [.Tuple [.Name x px, .Name y py] kt pt] (.Tuple [a, b] k2 pt2) pos) (sPar n [i, j]) := by
  refine ps_imp (ps_par hc hN hi hj hij hx hy ha hw hs) fun D s H ⟨F0, H0, r0, F, r, S, sw, x0, t, st, q⟩ => ?_
  refine tA_st x0 t st q fun ws vs F' H' r' S' x t' st' l q => ?_
  obtain ⟨hl, q⟩ := len_ok q
  obtain ⟨w1, w2, v1, v2, rfl, rfl, l1, l2⟩ := repL2 l hl
  exact ⟨v1, v2, rfl, q F' H' r' _ (x0.trans x) (Mv.refl _ _ _) t' ((st'.setVal l1 i).setVal l2 j)⟩
theorem is_par3 (hc : X.calm = true) (hN : X.N.Nodup) (hi : X.N[i]? = some x) (hj : X.N[j]? = some y) (hl : X.N[l]? = some z) (hij : i ≠ j) (hil : i ≠ l) (hjl : j ≠ l) (hx : X.env.scope.names.lookup x = some .local) (hy : X.env.scope.names.lookup y = some .local) (hz : X.env.scope.names.lookup z = some .local) (ha : IA X Wx [a, b, c] n)
    (hw : swappedStores [.Tuple [.Name x px, .Name y py, .Name z pz] kt pt] (.Tuple [a, b, c] k2 pt2) X.env = pure (some [x, y, z])) (hs : swapsWithSole [.Tuple [.Name x px, .Name y py, .Name z pz] kt pt] (.Tuple [a, b, c] k2 pt2) pos.line X.env = pure false := by rfl) :
    IS X Wx (.Assign [.Tuple [.Name x px, .Name y py, .Name z pz] kt pt] (.Tuple [a, b, c] k2 pt2) pos) (sPar n [i, j, l]) := by
  refine ps_imp (ps_par3 hc hN hi hj hl hij hil hjl hx hy hz ha hw hs) fun D s H ⟨F0, H0, r0, F, r, S, sw, x0, t, st, q⟩ => ?_
  refine tA_st x0 t st q fun ws vs F' H' r' S' x t' st' rl q => ?_
  obtain ⟨hl, q⟩ := len_ok q
  obtain ⟨w1, w2, w3, v1, v2, v3, rfl, rfl, l1, l2, l3⟩ := repL3 rl hl
  exact ⟨v1, v2, v3, rfl, q F' H' r' _ (x0.trans x) (Mv.refl _ _ _) t' (((st'.setVal l1 i).setVal l2 j).setVal l3 l)⟩
end
end ML
set_option Elab.async false
set_option linter.all false
set_option maxRecDepth 100000
set_option maxHeartbeats 4000000
namespace G
open PySem PySem.Spec PyProof.Rows L2 ML
def P : Program := PySem.Challenge.pw_keptops_k57_wrong_machines
def top (i : Nat) : Stmt := PySem.Challenge.pw_keptops_k57_wrong_machines.main.body.getD i (.Pass ⟨0, 0, 0, 0⟩)
inductive Fn where
  | f_is_name | f_are_answers | f_is_call | f_is_number | f_is_object | f_is_operand | f_is_end | f_is_asking | f_is_tree | f_is_machine | f_objects_of | f_run_machine | f__law_source | f__law_draw | f__law_pick | f__law_word | f__law_leaf | f__law_with_tree | f__law_behind | f__law_spots | f__law_operands | f__law_ends | f__law_asks | f__law_long | f__law_wholes | f_law
abbrev Call := Fn → List W → Store → Res RV
def nm : Fn → Str
  | .f_is_name => "is_name"
  | .f_are_answers => "are_answers"
  | .f_is_call => "is_call"
  | .f_is_number => "is_number"
  | .f_is_object => "is_object"
  | .f_is_operand => "is_operand"
  | .f_is_end => "is_end"
  | .f_is_asking => "is_asking"
  | .f_is_tree => "is_tree"
  | .f_is_machine => "is_machine"
  | .f_objects_of => "objects_of"
  | .f_run_machine => "run_machine"
  | .f__law_source => "_law_source"
  | .f__law_draw => "_law_draw"
  | .f__law_pick => "_law_pick"
  | .f__law_word => "_law_word"
  | .f__law_leaf => "_law_leaf"
  | .f__law_with_tree => "_law_with_tree"
  | .f__law_behind => "_law_behind"
  | .f__law_spots => "_law_spots"
  | .f__law_operands => "_law_operands"
  | .f__law_ends => "_law_ends"
  | .f__law_asks => "_law_asks"
  | .f__law_long => "_law_long"
  | .f__law_wholes => "_law_wholes"
  | .f_law => "law"
def prm : Fn → List Str
  | .f_is_name => ["value"]
  | .f_are_answers => ["answers"]
  | .f_is_call => ["value", "many"]
  | .f_is_number => ["value", "end"]
  | .f_is_object => ["operand", "shape", "answered"]
  | .f_is_operand => ["operand", "shape", "answered"]
  | .f_is_end => ["tree", "shape", "answered"]
  | .f_is_asking => ["tree", "shape", "answered", "levels"]
  | .f_is_tree => ["tree", "shape", "answered", "levels"]
  | .f_is_machine => ["value"]
  | .f_objects_of => ["machine", "number", "call", "places", "kinds"]
  | .f_run_machine => ["machine", "history"]
  | .f__law_source => ["_law_script"]
  | .f__law_draw => ["_law_source_here", "_law_limit"]
  | .f__law_pick => ["_law_source_here", "_law_values"]
  | .f__law_word => ["_law_made"]
  | .f__law_leaf => []
  | .f__law_with_tree => ["_law_source_here", "_law_tree"]
  | .f__law_behind => ["_law_tree"]
  | .f__law_spots => ["_law_operand"]
  | .f__law_operands => ["_law_source_here"]
  | .f__law_ends => ["_law_source_here"]
  | .f__law_asks => ["_law_source_here"]
  | .f__law_long => ["_law_source_here"]
  | .f__law_wholes => ["_law_source_here"]
  | .f_law => ["_law_script"]
abbrev s_is_name : Stmt := top 9
abbrev N_is_name : List Str := ["value", "letter"]
abbrev s_are_answers : Stmt := top 13
abbrev N_are_answers : List Str := ["answers", "answer"]
abbrev s_is_call : Stmt := top 15
abbrev N_is_call : List Str := ["value", "many", "kind"]
abbrev s_is_number : Stmt := top 20
abbrev N_is_number : List Str := ["value", "end"]
abbrev s_is_object : Stmt := top 21
abbrev N_is_object : List Str := ["operand", "shape", "answered"]
abbrev s_is_operand : Stmt := top 22
abbrev N_is_operand : List Str := ["operand", "shape", "answered"]
abbrev s_is_end : Stmt := top 23
abbrev N_is_end : List Str := ["tree", "shape", "answered", "outcome", "operand"]
abbrev s_is_asking : Stmt := top 24
abbrev N_is_asking : List Str := ["tree", "shape", "answered", "levels", "operand"]
abbrev s_is_tree : Stmt := top 25
abbrev N_is_tree : List Str := ["tree", "shape", "answered", "levels", "part"]
abbrev s_is_machine : Stmt := top 26
abbrev N_is_machine : List Str := ["value", "name", "states", "places", "state"]
abbrev s_objects_of : Stmt := top 28
abbrev N_objects_of : List Str := ["machine", "number", "call", "places", "kinds", "objects", "at", "source"]
abbrev s_run_machine : Stmt := top 29
abbrev N_run_machine : List Str := ["machine", "history", "call", "state", "places", "kinds", "found", "number", "objects", "play", "end", "outcome", "operand"]
abbrev s__law_source : Stmt := top 31
abbrev N__law_source : List Str := ["_law_script", "_law_cells", "_law_k"]
abbrev s__law_draw : Stmt := top 32
abbrev N__law_draw : List Str := ["_law_source_here", "_law_limit", "_law_cells", "_law_turn", "_law_place", "_law_cell", "_law_number"]
abbrev s__law_pick : Stmt := top 33
abbrev N__law_pick : List Str := ["_law_source_here", "_law_values"]
abbrev s__law_word : Stmt := top 34
abbrev N__law_word : List Str := ["_law_made", "_law_caught", "e"]
abbrev s__law_leaf : Stmt := top 35
abbrev N__law_leaf : List Str := []
abbrev s__law_with_tree : Stmt := top 36
abbrev N__law_with_tree : List Str := ["_law_source_here", "_law_tree", "_law_end", "_law_turn", "_law_at", "_law_parts", "_law_one", "_law_two"]
abbrev s__law_behind : Stmt := top 37
abbrev N__law_behind : List Str := ["_law_tree"]
abbrev s__law_spots : Stmt := top 38
abbrev N__law_spots : List Str := ["_law_operand", "_law_none", "_law_end", "_law_good", "_law_some", "_law_tree"]
abbrev s__law_operands : Stmt := top 39
abbrev N__law_operands : List Str := ["_law_source_here", "_law_odd", "_law_word_here", "_law_number", "_law_operand", "_law_tree", "_law_found"]
abbrev s__law_ends : Stmt := top 40
abbrev N__law_ends : List Str := ["_law_source_here", "_law_none", "_law_end", "_law_good", "_law_wrong", "_law_odd", "_law_number", "_law_word_here", "_law_outcome", "_law_hold", "_law_tree", "_law_right"]
abbrev s__law_asks : Stmt := top 41
abbrev N__law_asks : List Str := ["_law_source_here", "_law_end", "_law_none", "_law_three", "_law_wrong", "_law_word_here", "_law_many", "_law_parts", "_law_tree", "_law_right"]
abbrev s__law_long : Stmt := top 42
abbrev N__law_long : List Str := ["_law_source_here", "_law_end", "_law_tree", "_law_turn", "_law_deep", "_law_events", "_law_level", "_law_way", "_law_parts"]
abbrev s__law_wholes : Stmt := top 43
abbrev N__law_wholes : List Str := ["_law_source_here", "_law_end", "_law_parameters", "_law_begin", "_law_states", "_law_made", "_law_kept", "_law_turned", "_law_some", "_law_value", "_law_name", "_law_number", "_law_places", "_law_state", "_law_right"]
abbrev s_law : Stmt := top 44
abbrev N_law : List Str := ["_law_script", "_law_source_here"]
def w_ANSWERS : W := .tup [.str "t", .str "f", .str "n", .str "x"]
def w_CONSTANTS : W := .tup [.str "none", .str "true", .str "false"]
def w_KINDS : W := .tup [.str "t", .str "f", .str "n"]
def w_SIGNS : W := .tup [.str "<", .str "<=", .str ">", .str ">=", .str "==", .str "!="]
def w_WORDS : W := .tup [.str "and", .str "or", .str "not", .str "if", .str "else", .str "is", .str "none", .str "true", .str "false", .str "set", .str "give", .str "try", .str "except", .str "end", .str "then", .str "program", .str "keep", .str "self"]
def xt_InvalidHistory : List (Str × Bool) := [("OperandError", false), ("InvalidHistory", true), ("InvalidMachine", false)]
def xt_InvalidMachine : List (Str × Bool) := [("OperandError", false), ("InvalidHistory", false), ("InvalidMachine", true)]
def xt_OperandError : List (Str × Bool) := [("OperandError", true), ("InvalidHistory", true), ("InvalidMachine", true)]
def xt_ValueError : List (Str × Bool) := [("OperandError", true), ("InvalidHistory", true), ("InvalidMachine", true)]
def fileS : Str := (PySem.Challenge.pw_keptops_k57_wrong_machines.main.file : Str)
def sx : List Sx := []
def fa : List He.Fa := [.glo "is_name", .glo "are_answers", .glo "is_call", .glo "is_number", .glo "is_object", .glo "is_operand", .glo "is_end", .glo "is_asking", .glo "is_tree", .glo "is_machine", .glo "objects_of", .glo "run_machine", .glo "_law_source", .glo "_law_draw", .glo "_law_pick", .glo "_law_word", .glo "_law_leaf", .glo "_law_with_tree", .glo "_law_behind", .glo "_law_spots", .glo "_law_operands", .glo "_law_ends", .glo "_law_asks", .glo "_law_long", .glo "_law_wholes", .glo "law", .glo "ANSWERS", .glo "CONSTANTS", .glo "KINDS", .str "LETTERS" "abcdefghijklmnopqrstuvwxyz", .int "MOST_EVENTS" 6, .int "MOST_PLACES" 8, .int "MOST_STATES" 2000, .glo "SIGNS", .glo "WORDS", .free "ValueError", .free "abs", .free "all", .free "bool", .free "int", .free "isinstance", .free "len", .free "list", .free "range", .free "set", .free "str", .free "tuple", .glo "InvalidHistory", .glo "InvalidMachine", .glo "OperandError", .exc "InvalidHistory", .exc "InvalidMachine"]
def fn : List He.DefD := [⟨("is_name", none), "is_name", "is_name", defArgs s_is_name, defBody s_is_name, defScope s_is_name, [], []⟩, ⟨("are_answers", none), "are_answers", "are_answers", defArgs s_are_answers, defBody s_are_answers, defScope s_are_answers, [], []⟩, ⟨("is_call", none), "is_call", "is_call", defArgs s_is_call, defBody s_is_call, defScope s_is_call, [], []⟩, ⟨("is_number", none), "is_number", "is_number", defArgs s_is_number, defBody s_is_number, defScope s_is_number, [], []⟩, ⟨("is_object", none), "is_object", "is_object", defArgs s_is_object, defBody s_is_object, defScope s_is_object, [], []⟩, ⟨("is_operand", none), "is_operand", "is_operand", defArgs s_is_operand, defBody s_is_operand, defScope s_is_operand, [], []⟩, ⟨("is_end", none), "is_end", "is_end", defArgs s_is_end, defBody s_is_end, defScope s_is_end, [], []⟩, ⟨("is_asking", none), "is_asking", "is_asking", defArgs s_is_asking, defBody s_is_asking, defScope s_is_asking, [], []⟩, ⟨("is_tree", none), "is_tree", "is_tree", defArgs s_is_tree, defBody s_is_tree, defScope s_is_tree, [], []⟩, ⟨("is_machine", none), "is_machine", "is_machine", defArgs s_is_machine, defBody s_is_machine, defScope s_is_machine, [], []⟩, ⟨("objects_of", none), "objects_of", "objects_of", defArgs s_objects_of, defBody s_objects_of, defScope s_objects_of, [], []⟩, ⟨("run_machine", none), "run_machine", "run_machine", defArgs s_run_machine, defBody s_run_machine, defScope s_run_machine, [], []⟩, ⟨("_law_source", none), "_law_source", "_law_source", defArgs s__law_source, defBody s__law_source, defScope s__law_source, [], []⟩, ⟨("_law_draw", none), "_law_draw", "_law_draw", defArgs s__law_draw, defBody s__law_draw, defScope s__law_draw, [], []⟩, ⟨("_law_pick", none), "_law_pick", "_law_pick", defArgs s__law_pick, defBody s__law_pick, defScope s__law_pick, [], []⟩, ⟨("_law_word", none), "_law_word", "_law_word", defArgs s__law_word, defBody s__law_word, defScope s__law_word, [], []⟩, ⟨("_law_leaf", none), "_law_leaf", "_law_leaf", defArgs s__law_leaf, defBody s__law_leaf, defScope s__law_leaf, [], []⟩, ⟨("_law_with_tree", none), "_law_with_tree", "_law_with_tree", defArgs s__law_with_tree, defBody s__law_with_tree, defScope s__law_with_tree, [], []⟩, ⟨("_law_behind", none), "_law_behind", "_law_behind", defArgs s__law_behind, defBody s__law_behind, defScope s__law_behind, [], []⟩, ⟨("_law_spots", none), "_law_spots", "_law_spots", defArgs s__law_spots, defBody s__law_spots, defScope s__law_spots, [], []⟩, ⟨("_law_operands", none), "_law_operands", "_law_operands", defArgs s__law_operands, defBody s__law_operands, defScope s__law_operands, [], []⟩, ⟨("_law_ends", none), "_law_ends", "_law_ends", defArgs s__law_ends, defBody s__law_ends, defScope s__law_ends, [], []⟩, ⟨("_law_asks", none), "_law_asks", "_law_asks", defArgs s__law_asks, defBody s__law_asks, defScope s__law_asks, [], []⟩, ⟨("_law_long", none), "_law_long", "_law_long", defArgs s__law_long, defBody s__law_long, defScope s__law_long, [], []⟩, ⟨("_law_wholes", none), "_law_wholes", "_law_wholes", defArgs s__law_wholes, defBody s__law_wholes, defScope s__law_wholes, [], []⟩, ⟨("law", none), "law", "law", defArgs s_law, defBody s_law, defScope s_law, [], []⟩]
def exK (K : PySem.W.Frag) : Bool := kwB K "ANSWERS" w_ANSWERS && (kwB K "CONSTANTS" w_CONSTANTS && (kwB K "KINDS" w_KINDS && (kwB K "SIGNS" w_SIGNS && (kwB K "WORDS" w_WORDS && (excsB K ["OperandError", "InvalidHistory", "InvalidMachine"] && (isB K (.ref (He.ga K "InvalidHistory")) xt_InvalidHistory && (isB K (.ref (He.ga K "InvalidMachine")) xt_InvalidMachine && (isB K (.type "ValueError") xt_ValueError && (exmB K (.ref (He.ga K "OperandError")) xt_OperandError && (true))))))))))
def ts : List He.Tab := []
structure All (K : PySem.W.Frag) (w : World) (mg : Str → Option Value) : Prop where
  h : ∃ h : Heap, K.In h ∧ h.Ns mainGlobals mg ∧ SaysY fa fn ts sx exK w K
section
variable {w : World} {K : PySem.W.Frag} {mg : Str → Option Value} {base : Heap} {n : Nat} {c : Call}
theorem mg_is_name (Z : All K w mg) : mg "is_name" = some (.ref (He.ga K "is_name")) := let ⟨_, X, G, c⟩ := Z.h; He.glo_ok X G (c.t.d.fact 0 (f := .glo "is_name") rfl)
theorem mg_are_answers (Z : All K w mg) : mg "are_answers" = some (.ref (He.ga K "are_answers")) := let ⟨_, X, G, c⟩ := Z.h; He.glo_ok X G (c.t.d.fact 1 (f := .glo "are_answers") rfl)
theorem mg_is_call (Z : All K w mg) : mg "is_call" = some (.ref (He.ga K "is_call")) := let ⟨_, X, G, c⟩ := Z.h; He.glo_ok X G (c.t.d.fact 2 (f := .glo "is_call") rfl)
theorem mg_is_number (Z : All K w mg) : mg "is_number" = some (.ref (He.ga K "is_number")) := let ⟨_, X, G, c⟩ := Z.h; He.glo_ok X G (c.t.d.fact 3 (f := .glo "is_number") rfl)
theorem mg_is_object (Z : All K w mg) : mg "is_object" = some (.ref (He.ga K "is_object")) := let ⟨_, X, G, c⟩ := Z.h; He.glo_ok X G (c.t.d.fact 4 (f := .glo "is_object") rfl)
theorem mg_is_operand (Z : All K w mg) : mg "is_operand" = some (.ref (He.ga K "is_operand")) := let ⟨_, X, G, c⟩ := Z.h; He.glo_ok X G (c.t.d.fact 5 (f := .glo "is_operand") rfl)
theorem mg_is_end (Z : All K w mg) : mg "is_end" = some (.ref (He.ga K "is_end")) := let ⟨_, X, G, c⟩ := Z.h; He.glo_ok X G (c.t.d.fact 6 (f := .glo "is_end") rfl)
theorem mg_is_asking (Z : All K w mg) : mg "is_asking" = some (.ref (He.ga K "is_asking")) := let ⟨_, X, G, c⟩ := Z.h; He.glo_ok X G (c.t.d.fact 7 (f := .glo "is_asking") rfl)
theorem mg_is_tree (Z : All K w mg) : mg "is_tree" = some (.ref (He.ga K "is_tree")) := let ⟨_, X, G, c⟩ := Z.h; He.glo_ok X G (c.t.d.fact 8 (f := .glo "is_tree") rfl)
theorem mg_is_machine (Z : All K w mg) : mg "is_machine" = some (.ref (He.ga K "is_machine")) := let ⟨_, X, G, c⟩ := Z.h; He.glo_ok X G (c.t.d.fact 9 (f := .glo "is_machine") rfl)
theorem mg_objects_of (Z : All K w mg) : mg "objects_of" = some (.ref (He.ga K "objects_of")) := let ⟨_, X, G, c⟩ := Z.h; He.glo_ok X G (c.t.d.fact 10 (f := .glo "objects_of") rfl)
theorem mg_run_machine (Z : All K w mg) : mg "run_machine" = some (.ref (He.ga K "run_machine")) := let ⟨_, X, G, c⟩ := Z.h; He.glo_ok X G (c.t.d.fact 11 (f := .glo "run_machine") rfl)
theorem mg__law_source (Z : All K w mg) : mg "_law_source" = some (.ref (He.ga K "_law_source")) := let ⟨_, X, G, c⟩ := Z.h; He.glo_ok X G (c.t.d.fact 12 (f := .glo "_law_source") rfl)
theorem mg__law_draw (Z : All K w mg) : mg "_law_draw" = some (.ref (He.ga K "_law_draw")) := let ⟨_, X, G, c⟩ := Z.h; He.glo_ok X G (c.t.d.fact 13 (f := .glo "_law_draw") rfl)
theorem mg__law_pick (Z : All K w mg) : mg "_law_pick" = some (.ref (He.ga K "_law_pick")) := let ⟨_, X, G, c⟩ := Z.h; He.glo_ok X G (c.t.d.fact 14 (f := .glo "_law_pick") rfl)
theorem mg__law_word (Z : All K w mg) : mg "_law_word" = some (.ref (He.ga K "_law_word")) := let ⟨_, X, G, c⟩ := Z.h; He.glo_ok X G (c.t.d.fact 15 (f := .glo "_law_word") rfl)
theorem mg__law_leaf (Z : All K w mg) : mg "_law_leaf" = some (.ref (He.ga K "_law_leaf")) := let ⟨_, X, G, c⟩ := Z.h; He.glo_ok X G (c.t.d.fact 16 (f := .glo "_law_leaf") rfl)
theorem mg__law_with_tree (Z : All K w mg) : mg "_law_with_tree" = some (.ref (He.ga K "_law_with_tree")) := let ⟨_, X, G, c⟩ := Z.h; He.glo_ok X G (c.t.d.fact 17 (f := .glo "_law_with_tree") rfl)
theorem mg__law_behind (Z : All K w mg) : mg "_law_behind" = some (.ref (He.ga K "_law_behind")) := let ⟨_, X, G, c⟩ := Z.h; He.glo_ok X G (c.t.d.fact 18 (f := .glo "_law_behind") rfl)
theorem mg__law_spots (Z : All K w mg) : mg "_law_spots" = some (.ref (He.ga K "_law_spots")) := let ⟨_, X, G, c⟩ := Z.h; He.glo_ok X G (c.t.d.fact 19 (f := .glo "_law_spots") rfl)
theorem mg__law_operands (Z : All K w mg) : mg "_law_operands" = some (.ref (He.ga K "_law_operands")) := let ⟨_, X, G, c⟩ := Z.h; He.glo_ok X G (c.t.d.fact 20 (f := .glo "_law_operands") rfl)
theorem mg__law_ends (Z : All K w mg) : mg "_law_ends" = some (.ref (He.ga K "_law_ends")) := let ⟨_, X, G, c⟩ := Z.h; He.glo_ok X G (c.t.d.fact 21 (f := .glo "_law_ends") rfl)
theorem mg__law_asks (Z : All K w mg) : mg "_law_asks" = some (.ref (He.ga K "_law_asks")) := let ⟨_, X, G, c⟩ := Z.h; He.glo_ok X G (c.t.d.fact 22 (f := .glo "_law_asks") rfl)
theorem mg__law_long (Z : All K w mg) : mg "_law_long" = some (.ref (He.ga K "_law_long")) := let ⟨_, X, G, c⟩ := Z.h; He.glo_ok X G (c.t.d.fact 23 (f := .glo "_law_long") rfl)
theorem mg__law_wholes (Z : All K w mg) : mg "_law_wholes" = some (.ref (He.ga K "_law_wholes")) := let ⟨_, X, G, c⟩ := Z.h; He.glo_ok X G (c.t.d.fact 24 (f := .glo "_law_wholes") rfl)
theorem mg_law (Z : All K w mg) : mg "law" = some (.ref (He.ga K "law")) := let ⟨_, X, G, c⟩ := Z.h; He.glo_ok X G (c.t.d.fact 25 (f := .glo "law") rfl)
theorem mg_ANSWERS (Z : All K w mg) : mg "ANSWERS" = some (.ref (He.ga K "ANSWERS")) := let ⟨_, X, G, c⟩ := Z.h; He.glo_ok X G (c.t.d.fact 26 (f := .glo "ANSWERS") rfl)
theorem mg_CONSTANTS (Z : All K w mg) : mg "CONSTANTS" = some (.ref (He.ga K "CONSTANTS")) := let ⟨_, X, G, c⟩ := Z.h; He.glo_ok X G (c.t.d.fact 27 (f := .glo "CONSTANTS") rfl)
theorem mg_KINDS (Z : All K w mg) : mg "KINDS" = some (.ref (He.ga K "KINDS")) := let ⟨_, X, G, c⟩ := Z.h; He.glo_ok X G (c.t.d.fact 28 (f := .glo "KINDS") rfl)
theorem k_LETTERS (Z : All K w mg) : ∃ t, mg "LETTERS" = some (.str "abcdefghijklmnopqrstuvwxyz" t) := let ⟨_, X, G, c⟩ := Z.h; He.str_ok X G (c.t.d.fact 29 (f := .str "LETTERS" "abcdefghijklmnopqrstuvwxyz") rfl)
theorem k_MOST_EVENTS (Z : All K w mg) : ∃ t, mg "MOST_EVENTS" = some (.int 6 t) := let ⟨_, X, G, c⟩ := Z.h; He.int_ok X G (c.t.d.fact 30 (f := .int "MOST_EVENTS" 6) rfl)
theorem k_MOST_PLACES (Z : All K w mg) : ∃ t, mg "MOST_PLACES" = some (.int 8 t) := let ⟨_, X, G, c⟩ := Z.h; He.int_ok X G (c.t.d.fact 31 (f := .int "MOST_PLACES" 8) rfl)
theorem k_MOST_STATES (Z : All K w mg) : ∃ t, mg "MOST_STATES" = some (.int 2000 t) := let ⟨_, X, G, c⟩ := Z.h; He.int_ok X G (c.t.d.fact 32 (f := .int "MOST_STATES" 2000) rfl)
theorem mg_SIGNS (Z : All K w mg) : mg "SIGNS" = some (.ref (He.ga K "SIGNS")) := let ⟨_, X, G, c⟩ := Z.h; He.glo_ok X G (c.t.d.fact 33 (f := .glo "SIGNS") rfl)
theorem mg_WORDS (Z : All K w mg) : mg "WORDS" = some (.ref (He.ga K "WORDS")) := let ⟨_, X, G, c⟩ := Z.h; He.glo_ok X G (c.t.d.fact 34 (f := .glo "WORDS") rfl)
theorem z_ValueError (Z : All K w mg) : mg "ValueError" = none := let ⟨_, X, G, c⟩ := Z.h; He.free_ok X G (c.t.d.fact 35 (f := .free "ValueError") rfl)
theorem z_abs (Z : All K w mg) : mg "abs" = none := let ⟨_, X, G, c⟩ := Z.h; He.free_ok X G (c.t.d.fact 36 (f := .free "abs") rfl)
theorem z_all (Z : All K w mg) : mg "all" = none := let ⟨_, X, G, c⟩ := Z.h; He.free_ok X G (c.t.d.fact 37 (f := .free "all") rfl)
theorem z_bool (Z : All K w mg) : mg "bool" = none := let ⟨_, X, G, c⟩ := Z.h; He.free_ok X G (c.t.d.fact 38 (f := .free "bool") rfl)
theorem z_int (Z : All K w mg) : mg "int" = none := let ⟨_, X, G, c⟩ := Z.h; He.free_ok X G (c.t.d.fact 39 (f := .free "int") rfl)
theorem z_isinstance (Z : All K w mg) : mg "isinstance" = none := let ⟨_, X, G, c⟩ := Z.h; He.free_ok X G (c.t.d.fact 40 (f := .free "isinstance") rfl)
theorem z_len (Z : All K w mg) : mg "len" = none := let ⟨_, X, G, c⟩ := Z.h; He.free_ok X G (c.t.d.fact 41 (f := .free "len") rfl)
theorem z_list (Z : All K w mg) : mg "list" = none := let ⟨_, X, G, c⟩ := Z.h; He.free_ok X G (c.t.d.fact 42 (f := .free "list") rfl)
theorem z_range (Z : All K w mg) : mg "range" = none := let ⟨_, X, G, c⟩ := Z.h; He.free_ok X G (c.t.d.fact 43 (f := .free "range") rfl)
theorem z_set (Z : All K w mg) : mg "set" = none := let ⟨_, X, G, c⟩ := Z.h; He.free_ok X G (c.t.d.fact 44 (f := .free "set") rfl)
theorem z_str (Z : All K w mg) : mg "str" = none := let ⟨_, X, G, c⟩ := Z.h; He.free_ok X G (c.t.d.fact 45 (f := .free "str") rfl)
theorem z_tuple (Z : All K w mg) : mg "tuple" = none := let ⟨_, X, G, c⟩ := Z.h; He.free_ok X G (c.t.d.fact 46 (f := .free "tuple") rfl)
theorem mg_InvalidHistory (Z : All K w mg) : mg "InvalidHistory" = some (.ref (He.ga K "InvalidHistory")) := let ⟨_, X, G, c⟩ := Z.h; He.glo_ok X G (c.t.d.fact 47 (f := .glo "InvalidHistory") rfl)
theorem mg_InvalidMachine (Z : All K w mg) : mg "InvalidMachine" = some (.ref (He.ga K "InvalidMachine")) := let ⟨_, X, G, c⟩ := Z.h; He.glo_ok X G (c.t.d.fact 48 (f := .glo "InvalidMachine") rfl)
theorem mg_OperandError (Z : All K w mg) : mg "OperandError" = some (.ref (He.ga K "OperandError")) := let ⟨_, X, G, c⟩ := Z.h; He.glo_ok X G (c.t.d.fact 49 (f := .glo "OperandError") rfl)
theorem x_InvalidHistory (Z : All K w mg) : PySem.W.excIn K (He.ga K "InvalidHistory") He.veBase "ValueError.__new__" = true ∧ PySem.W.keepIn K (.ref (He.ga K "InvalidHistory")) = true ∧ PySem.W.subIn K (.ref (He.ga K "InvalidHistory")) (.type "BaseException") = some true ∧ PySem.W.typeIn K (.ref (He.ga K "InvalidHistory")) = some (.type "type") := by
  obtain ⟨_, X, G, c⟩ := Z.h
  obtain ⟨h1, h2⟩ := He.ba (show (PySem.W.excIn K (He.ga K "InvalidHistory") He.veBase "ValueError.__new__" && (PySem.W.keepIn K (.ref (He.ga K "InvalidHistory")) && (decide (PySem.W.subIn K (.ref (He.ga K "InvalidHistory")) (.type "BaseException") = some true) && decide (PySem.W.typeIn K (.ref (He.ga K "InvalidHistory")) = some (.type "type"))))) = true from c.t.d.fact 50 (f := .exc "InvalidHistory") rfl)
  obtain ⟨h2, h3⟩ := He.ba h2
  obtain ⟨h3, h4⟩ := He.ba h3
  exact ⟨h1, h2, of_decide_eq_true h3, of_decide_eq_true h4⟩
theorem x_InvalidMachine (Z : All K w mg) : PySem.W.excIn K (He.ga K "InvalidMachine") He.veBase "ValueError.__new__" = true ∧ PySem.W.keepIn K (.ref (He.ga K "InvalidMachine")) = true ∧ PySem.W.subIn K (.ref (He.ga K "InvalidMachine")) (.type "BaseException") = some true ∧ PySem.W.typeIn K (.ref (He.ga K "InvalidMachine")) = some (.type "type") := by
  obtain ⟨_, X, G, c⟩ := Z.h
  obtain ⟨h1, h2⟩ := He.ba (show (PySem.W.excIn K (He.ga K "InvalidMachine") He.veBase "ValueError.__new__" && (PySem.W.keepIn K (.ref (He.ga K "InvalidMachine")) && (decide (PySem.W.subIn K (.ref (He.ga K "InvalidMachine")) (.type "BaseException") = some true) && decide (PySem.W.typeIn K (.ref (He.ga K "InvalidMachine")) = some (.type "type"))))) = true from c.t.d.fact 51 (f := .exc "InvalidMachine") rfl)
  obtain ⟨h2, h3⟩ := He.ba h2
  obtain ⟨h3, h4⟩ := He.ba h3
  exact ⟨h1, h2, of_decide_eq_true h3, of_decide_eq_true h4⟩
theorem k_ANSWERS (Z : All K w mg) : KW K w w_ANSWERS (He.ga K "ANSWERS") := let ⟨_, X, G, c⟩ := Z.h; have h : exK K = true := c.more; kw_ok (He.ba h).1
theorem k_CONSTANTS (Z : All K w mg) : KW K w w_CONSTANTS (He.ga K "CONSTANTS") := let ⟨_, X, G, c⟩ := Z.h; have h : exK K = true := c.more; kw_ok (He.ba (He.ba h).2).1
theorem k_KINDS (Z : All K w mg) : KW K w w_KINDS (He.ga K "KINDS") := let ⟨_, X, G, c⟩ := Z.h; have h : exK K = true := c.more; kw_ok (He.ba (He.ba (He.ba h).2).2).1
theorem k_SIGNS (Z : All K w mg) : KW K w w_SIGNS (He.ga K "SIGNS") := let ⟨_, X, G, c⟩ := Z.h; have h : exK K = true := c.more; kw_ok (He.ba (He.ba (He.ba (He.ba h).2).2).2).1
theorem k_WORDS (Z : All K w mg) : KW K w w_WORDS (He.ga K "WORDS") := let ⟨_, X, G, c⟩ := Z.h; have h : exK K = true := c.more; kw_ok (He.ba (He.ba (He.ba (He.ba (He.ba h).2).2).2).2).1
theorem is_InvalidHistory (Z : All K w mg) : IsF K (.ref (He.ga K "InvalidHistory")) (fun c => xt_InvalidHistory.lookup c) := let ⟨_, X, G, c⟩ := Z.h; have h : exK K = true := c.more; isB_ok (He.ba (He.ba (He.ba (He.ba (He.ba (He.ba (He.ba h).2).2).2).2).2).2).1 (He.ba (He.ba (He.ba (He.ba (He.ba (He.ba h).2).2).2).2).2).1 (by decide)
theorem is_InvalidMachine (Z : All K w mg) : IsF K (.ref (He.ga K "InvalidMachine")) (fun c => xt_InvalidMachine.lookup c) := let ⟨_, X, G, c⟩ := Z.h; have h : exK K = true := c.more; isB_ok (He.ba (He.ba (He.ba (He.ba (He.ba (He.ba (He.ba (He.ba h).2).2).2).2).2).2).2).1 (He.ba (He.ba (He.ba (He.ba (He.ba (He.ba h).2).2).2).2).2).1 (by decide)
theorem is_ValueError (Z : All K w mg) : IsF K (.type "ValueError") (fun c => xt_ValueError.lookup c) := let ⟨_, X, G, c⟩ := Z.h; have h : exK K = true := c.more; isB_ok (He.ba (He.ba (He.ba (He.ba (He.ba (He.ba (He.ba (He.ba (He.ba h).2).2).2).2).2).2).2).2).1 (He.ba (He.ba (He.ba (He.ba (He.ba (He.ba h).2).2).2).2).2).1 (by decide)
theorem exm_OperandError (Z : All K w mg) : ∀ c b, (fun c => xt_OperandError.lookup c) c = some b → PySem.W.exmOne K (.ref (He.ga K c)) (.ref (He.ga K "OperandError")) = some b := let ⟨_, X, G, c⟩ := Z.h; have h : exK K = true := c.more; exmB_ok (He.ba (He.ba (He.ba (He.ba (He.ba (He.ba (He.ba (He.ba (He.ba (He.ba h).2).2).2).2).2).2).2).2).2).1
theorem fn_is_name (Z : All K w mg) : FunD K "is_name" "is_name" (defArgs s_is_name) (defBody s_is_name) (defScope s_is_name) [] [] (He.ga K "is_name") (fdAt K (He.ga K "is_name")) := let ⟨_, X, G, c⟩ := Z.h; fdAt_of (c.t.d.def_ 0 rfl)
theorem kp_is_name (Z : All K w mg) : PySem.W.keepIn K (.ref (He.ga K "is_name")) = true := (fn_is_name Z).kp
theorem bd_is_name (Z : All K w mg) : Binds K (fdAt K (He.ga K "is_name")) ["value"] [] := (fn_is_name Z).bindsN fun _ _ _ _ _ _ us hl => match us, hl with | [_], _ => rfl
theorem sc_is_name : FnScope N_is_name ["value"] (defScope s_is_name) := ⟨rfl, rfl, rfl, by decide +kernel, rfl, by decide +kernel, by decide +kernel⟩
theorem fn_are_answers (Z : All K w mg) : FunD K "are_answers" "are_answers" (defArgs s_are_answers) (defBody s_are_answers) (defScope s_are_answers) [] [] (He.ga K "are_answers") (fdAt K (He.ga K "are_answers")) := let ⟨_, X, G, c⟩ := Z.h; fdAt_of (c.t.d.def_ 1 rfl)
theorem kp_are_answers (Z : All K w mg) : PySem.W.keepIn K (.ref (He.ga K "are_answers")) = true := (fn_are_answers Z).kp
theorem bd_are_answers (Z : All K w mg) : Binds K (fdAt K (He.ga K "are_answers")) ["answers"] [] := (fn_are_answers Z).bindsN fun _ _ _ _ _ _ us hl => match us, hl with | [_], _ => rfl
theorem sc_are_answers : FnScope N_are_answers ["answers"] (defScope s_are_answers) := ⟨rfl, rfl, rfl, by decide +kernel, rfl, by decide +kernel, by decide +kernel⟩
theorem fn_is_call (Z : All K w mg) : FunD K "is_call" "is_call" (defArgs s_is_call) (defBody s_is_call) (defScope s_is_call) [] [] (He.ga K "is_call") (fdAt K (He.ga K "is_call")) := let ⟨_, X, G, c⟩ := Z.h; fdAt_of (c.t.d.def_ 2 rfl)
theorem kp_is_call (Z : All K w mg) : PySem.W.keepIn K (.ref (He.ga K "is_call")) = true := (fn_is_call Z).kp
theorem bd_is_call (Z : All K w mg) : Binds K (fdAt K (He.ga K "is_call")) ["value", "many"] [] := (fn_is_call Z).bindsN fun _ _ _ _ _ _ us hl => match us, hl with | [_, _], _ => rfl
theorem sc_is_call : FnScope N_is_call ["value", "many"] (defScope s_is_call) := ⟨rfl, rfl, rfl, by decide +kernel, rfl, by decide +kernel, by decide +kernel⟩
theorem fn_is_number (Z : All K w mg) : FunD K "is_number" "is_number" (defArgs s_is_number) (defBody s_is_number) (defScope s_is_number) [] [] (He.ga K "is_number") (fdAt K (He.ga K "is_number")) := let ⟨_, X, G, c⟩ := Z.h; fdAt_of (c.t.d.def_ 3 rfl)
theorem kp_is_number (Z : All K w mg) : PySem.W.keepIn K (.ref (He.ga K "is_number")) = true := (fn_is_number Z).kp
theorem bd_is_number (Z : All K w mg) : Binds K (fdAt K (He.ga K "is_number")) ["value", "end"] [] := (fn_is_number Z).bindsN fun _ _ _ _ _ _ us hl => match us, hl with | [_, _], _ => rfl
theorem sc_is_number : FnScope N_is_number ["value", "end"] (defScope s_is_number) := ⟨rfl, rfl, rfl, by decide +kernel, rfl, by decide +kernel, by decide +kernel⟩
theorem fn_is_object (Z : All K w mg) : FunD K "is_object" "is_object" (defArgs s_is_object) (defBody s_is_object) (defScope s_is_object) [] [] (He.ga K "is_object") (fdAt K (He.ga K "is_object")) := let ⟨_, X, G, c⟩ := Z.h; fdAt_of (c.t.d.def_ 4 rfl)
theorem kp_is_object (Z : All K w mg) : PySem.W.keepIn K (.ref (He.ga K "is_object")) = true := (fn_is_object Z).kp
theorem bd_is_object (Z : All K w mg) : Binds K (fdAt K (He.ga K "is_object")) ["operand", "shape", "answered"] [] := (fn_is_object Z).bindsN fun _ _ _ _ _ _ us hl => match us, hl with | [_, _, _], _ => rfl
theorem sc_is_object : FnScope N_is_object ["operand", "shape", "answered"] (defScope s_is_object) := ⟨rfl, rfl, rfl, by decide +kernel, rfl, by decide +kernel, by decide +kernel⟩
theorem fn_is_operand (Z : All K w mg) : FunD K "is_operand" "is_operand" (defArgs s_is_operand) (defBody s_is_operand) (defScope s_is_operand) [] [] (He.ga K "is_operand") (fdAt K (He.ga K "is_operand")) := let ⟨_, X, G, c⟩ := Z.h; fdAt_of (c.t.d.def_ 5 rfl)
theorem kp_is_operand (Z : All K w mg) : PySem.W.keepIn K (.ref (He.ga K "is_operand")) = true := (fn_is_operand Z).kp
theorem bd_is_operand (Z : All K w mg) : Binds K (fdAt K (He.ga K "is_operand")) ["operand", "shape", "answered"] [] := (fn_is_operand Z).bindsN fun _ _ _ _ _ _ us hl => match us, hl with | [_, _, _], _ => rfl
theorem sc_is_operand : FnScope N_is_operand ["operand", "shape", "answered"] (defScope s_is_operand) := ⟨rfl, rfl, rfl, by decide +kernel, rfl, by decide +kernel, by decide +kernel⟩
theorem fn_is_end (Z : All K w mg) : FunD K "is_end" "is_end" (defArgs s_is_end) (defBody s_is_end) (defScope s_is_end) [] [] (He.ga K "is_end") (fdAt K (He.ga K "is_end")) := let ⟨_, X, G, c⟩ := Z.h; fdAt_of (c.t.d.def_ 6 rfl)
theorem kp_is_end (Z : All K w mg) : PySem.W.keepIn K (.ref (He.ga K "is_end")) = true := (fn_is_end Z).kp
theorem bd_is_end (Z : All K w mg) : Binds K (fdAt K (He.ga K "is_end")) ["tree", "shape", "answered"] [] := (fn_is_end Z).bindsN fun _ _ _ _ _ _ us hl => match us, hl with | [_, _, _], _ => rfl
theorem sc_is_end : FnScope N_is_end ["tree", "shape", "answered"] (defScope s_is_end) := ⟨rfl, rfl, rfl, by decide +kernel, rfl, by decide +kernel, by decide +kernel⟩
theorem fn_is_asking (Z : All K w mg) : FunD K "is_asking" "is_asking" (defArgs s_is_asking) (defBody s_is_asking) (defScope s_is_asking) [] [] (He.ga K "is_asking") (fdAt K (He.ga K "is_asking")) := let ⟨_, X, G, c⟩ := Z.h; fdAt_of (c.t.d.def_ 7 rfl)
theorem kp_is_asking (Z : All K w mg) : PySem.W.keepIn K (.ref (He.ga K "is_asking")) = true := (fn_is_asking Z).kp
theorem bd_is_asking (Z : All K w mg) : Binds K (fdAt K (He.ga K "is_asking")) ["tree", "shape", "answered", "levels"] [] := (fn_is_asking Z).bindsN fun _ _ _ _ _ _ us hl => match us, hl with | [_, _, _, _], _ => rfl
theorem sc_is_asking : FnScope N_is_asking ["tree", "shape", "answered", "levels"] (defScope s_is_asking) := ⟨rfl, rfl, rfl, by decide +kernel, rfl, by decide +kernel, by decide +kernel⟩
theorem fn_is_tree (Z : All K w mg) : FunD K "is_tree" "is_tree" (defArgs s_is_tree) (defBody s_is_tree) (defScope s_is_tree) [] [] (He.ga K "is_tree") (fdAt K (He.ga K "is_tree")) := let ⟨_, X, G, c⟩ := Z.h; fdAt_of (c.t.d.def_ 8 rfl)
theorem kp_is_tree (Z : All K w mg) : PySem.W.keepIn K (.ref (He.ga K "is_tree")) = true := (fn_is_tree Z).kp
theorem bd_is_tree (Z : All K w mg) : Binds K (fdAt K (He.ga K "is_tree")) ["tree", "shape", "answered", "levels"] [] := (fn_is_tree Z).bindsN fun _ _ _ _ _ _ us hl => match us, hl with | [_, _, _, _], _ => rfl
theorem sc_is_tree : FnScope N_is_tree ["tree", "shape", "answered", "levels"] (defScope s_is_tree) := ⟨rfl, rfl, rfl, by decide +kernel, rfl, by decide +kernel, by decide +kernel⟩
theorem fn_is_machine (Z : All K w mg) : FunD K "is_machine" "is_machine" (defArgs s_is_machine) (defBody s_is_machine) (defScope s_is_machine) [] [] (He.ga K "is_machine") (fdAt K (He.ga K "is_machine")) := let ⟨_, X, G, c⟩ := Z.h; fdAt_of (c.t.d.def_ 9 rfl)
theorem kp_is_machine (Z : All K w mg) : PySem.W.keepIn K (.ref (He.ga K "is_machine")) = true := (fn_is_machine Z).kp
theorem bd_is_machine (Z : All K w mg) : Binds K (fdAt K (He.ga K "is_machine")) ["value"] [] := (fn_is_machine Z).bindsN fun _ _ _ _ _ _ us hl => match us, hl with | [_], _ => rfl
theorem sc_is_machine : FnScope N_is_machine ["value"] (defScope s_is_machine) := ⟨rfl, rfl, rfl, by decide +kernel, rfl, by decide +kernel, by decide +kernel⟩
theorem fn_objects_of (Z : All K w mg) : FunD K "objects_of" "objects_of" (defArgs s_objects_of) (defBody s_objects_of) (defScope s_objects_of) [] [] (He.ga K "objects_of") (fdAt K (He.ga K "objects_of")) := let ⟨_, X, G, c⟩ := Z.h; fdAt_of (c.t.d.def_ 10 rfl)
theorem kp_objects_of (Z : All K w mg) : PySem.W.keepIn K (.ref (He.ga K "objects_of")) = true := (fn_objects_of Z).kp
theorem bd_objects_of (Z : All K w mg) : Binds K (fdAt K (He.ga K "objects_of")) ["machine", "number", "call", "places", "kinds"] [] := (fn_objects_of Z).bindsN fun _ _ _ _ _ _ us hl => match us, hl with | [_, _, _, _, _], _ => rfl
theorem sc_objects_of : FnScope N_objects_of ["machine", "number", "call", "places", "kinds"] (defScope s_objects_of) := ⟨rfl, rfl, rfl, by decide +kernel, rfl, by decide +kernel, by decide +kernel⟩
theorem fn_run_machine (Z : All K w mg) : FunD K "run_machine" "run_machine" (defArgs s_run_machine) (defBody s_run_machine) (defScope s_run_machine) [] [] (He.ga K "run_machine") (fdAt K (He.ga K "run_machine")) := let ⟨_, X, G, c⟩ := Z.h; fdAt_of (c.t.d.def_ 11 rfl)
theorem kp_run_machine (Z : All K w mg) : PySem.W.keepIn K (.ref (He.ga K "run_machine")) = true := (fn_run_machine Z).kp
theorem bd_run_machine (Z : All K w mg) : Binds K (fdAt K (He.ga K "run_machine")) ["machine", "history"] [] := (fn_run_machine Z).bindsN fun _ _ _ _ _ _ us hl => match us, hl with | [_, _], _ => rfl
theorem sc_run_machine : FnScope N_run_machine ["machine", "history"] (defScope s_run_machine) := ⟨rfl, rfl, rfl, by decide +kernel, rfl, by decide +kernel, by decide +kernel⟩
theorem fn__law_source (Z : All K w mg) : FunD K "_law_source" "_law_source" (defArgs s__law_source) (defBody s__law_source) (defScope s__law_source) [] [] (He.ga K "_law_source") (fdAt K (He.ga K "_law_source")) := let ⟨_, X, G, c⟩ := Z.h; fdAt_of (c.t.d.def_ 12 rfl)
theorem kp__law_source (Z : All K w mg) : PySem.W.keepIn K (.ref (He.ga K "_law_source")) = true := (fn__law_source Z).kp
theorem bd__law_source (Z : All K w mg) : Binds K (fdAt K (He.ga K "_law_source")) ["_law_script"] [] := (fn__law_source Z).bindsN fun _ _ _ _ _ _ us hl => match us, hl with | [_], _ => rfl
theorem sc__law_source : FnScope N__law_source ["_law_script"] (defScope s__law_source) := ⟨rfl, rfl, rfl, by decide +kernel, rfl, by decide +kernel, by decide +kernel⟩
theorem fn__law_draw (Z : All K w mg) : FunD K "_law_draw" "_law_draw" (defArgs s__law_draw) (defBody s__law_draw) (defScope s__law_draw) [] [] (He.ga K "_law_draw") (fdAt K (He.ga K "_law_draw")) := let ⟨_, X, G, c⟩ := Z.h; fdAt_of (c.t.d.def_ 13 rfl)
theorem kp__law_draw (Z : All K w mg) : PySem.W.keepIn K (.ref (He.ga K "_law_draw")) = true := (fn__law_draw Z).kp
theorem bd__law_draw (Z : All K w mg) : Binds K (fdAt K (He.ga K "_law_draw")) ["_law_source_here", "_law_limit"] [] := (fn__law_draw Z).bindsN fun _ _ _ _ _ _ us hl => match us, hl with | [_, _], _ => rfl
theorem sc__law_draw : FnScope N__law_draw ["_law_source_here", "_law_limit"] (defScope s__law_draw) := ⟨rfl, rfl, rfl, by decide +kernel, rfl, by decide +kernel, by decide +kernel⟩
theorem fn__law_pick (Z : All K w mg) : FunD K "_law_pick" "_law_pick" (defArgs s__law_pick) (defBody s__law_pick) (defScope s__law_pick) [] [] (He.ga K "_law_pick") (fdAt K (He.ga K "_law_pick")) := let ⟨_, X, G, c⟩ := Z.h; fdAt_of (c.t.d.def_ 14 rfl)
theorem kp__law_pick (Z : All K w mg) : PySem.W.keepIn K (.ref (He.ga K "_law_pick")) = true := (fn__law_pick Z).kp
theorem bd__law_pick (Z : All K w mg) : Binds K (fdAt K (He.ga K "_law_pick")) ["_law_source_here", "_law_values"] [] := (fn__law_pick Z).bindsN fun _ _ _ _ _ _ us hl => match us, hl with | [_, _], _ => rfl
theorem sc__law_pick : FnScope N__law_pick ["_law_source_here", "_law_values"] (defScope s__law_pick) := ⟨rfl, rfl, rfl, by decide +kernel, rfl, by decide +kernel, by decide +kernel⟩
theorem fn__law_word (Z : All K w mg) : FunD K "_law_word" "_law_word" (defArgs s__law_word) (defBody s__law_word) (defScope s__law_word) [] [] (He.ga K "_law_word") (fdAt K (He.ga K "_law_word")) := let ⟨_, X, G, c⟩ := Z.h; fdAt_of (c.t.d.def_ 15 rfl)
theorem kp__law_word (Z : All K w mg) : PySem.W.keepIn K (.ref (He.ga K "_law_word")) = true := (fn__law_word Z).kp
theorem bd__law_word (Z : All K w mg) : Binds K (fdAt K (He.ga K "_law_word")) ["_law_made"] [] := (fn__law_word Z).bindsN fun _ _ _ _ _ _ us hl => match us, hl with | [_], _ => rfl
theorem sc__law_word : FnScope N__law_word ["_law_made"] (defScope s__law_word) := ⟨rfl, rfl, rfl, by decide +kernel, rfl, by decide +kernel, by decide +kernel⟩
theorem fn__law_leaf (Z : All K w mg) : FunD K "_law_leaf" "_law_leaf" (defArgs s__law_leaf) (defBody s__law_leaf) (defScope s__law_leaf) [] [] (He.ga K "_law_leaf") (fdAt K (He.ga K "_law_leaf")) := let ⟨_, X, G, c⟩ := Z.h; fdAt_of (c.t.d.def_ 16 rfl)
theorem kp__law_leaf (Z : All K w mg) : PySem.W.keepIn K (.ref (He.ga K "_law_leaf")) = true := (fn__law_leaf Z).kp
theorem bd__law_leaf (Z : All K w mg) : Binds K (fdAt K (He.ga K "_law_leaf")) [] [] := (fn__law_leaf Z).bindsN fun _ _ _ _ _ _ us hl => match us, hl with | [], _ => rfl
theorem sc__law_leaf : FnScope N__law_leaf [] (defScope s__law_leaf) := ⟨rfl, rfl, rfl, by decide +kernel, rfl, by decide +kernel, by decide +kernel⟩
theorem fn__law_with_tree (Z : All K w mg) : FunD K "_law_with_tree" "_law_with_tree" (defArgs s__law_with_tree) (defBody s__law_with_tree) (defScope s__law_with_tree) [] [] (He.ga K "_law_with_tree") (fdAt K (He.ga K "_law_with_tree")) := let ⟨_, X, G, c⟩ := Z.h; fdAt_of (c.t.d.def_ 17 rfl)
theorem kp__law_with_tree (Z : All K w mg) : PySem.W.keepIn K (.ref (He.ga K "_law_with_tree")) = true := (fn__law_with_tree Z).kp
theorem bd__law_with_tree (Z : All K w mg) : Binds K (fdAt K (He.ga K "_law_with_tree")) ["_law_source_here", "_law_tree"] [] := (fn__law_with_tree Z).bindsN fun _ _ _ _ _ _ us hl => match us, hl with | [_, _], _ => rfl
theorem sc__law_with_tree : FnScope N__law_with_tree ["_law_source_here", "_law_tree"] (defScope s__law_with_tree) := ⟨rfl, rfl, rfl, by decide +kernel, rfl, by decide +kernel, by decide +kernel⟩
theorem fn__law_behind (Z : All K w mg) : FunD K "_law_behind" "_law_behind" (defArgs s__law_behind) (defBody s__law_behind) (defScope s__law_behind) [] [] (He.ga K "_law_behind") (fdAt K (He.ga K "_law_behind")) := let ⟨_, X, G, c⟩ := Z.h; fdAt_of (c.t.d.def_ 18 rfl)
theorem kp__law_behind (Z : All K w mg) : PySem.W.keepIn K (.ref (He.ga K "_law_behind")) = true := (fn__law_behind Z).kp
theorem bd__law_behind (Z : All K w mg) : Binds K (fdAt K (He.ga K "_law_behind")) ["_law_tree"] [] := (fn__law_behind Z).bindsN fun _ _ _ _ _ _ us hl => match us, hl with | [_], _ => rfl
theorem sc__law_behind : FnScope N__law_behind ["_law_tree"] (defScope s__law_behind) := ⟨rfl, rfl, rfl, by decide +kernel, rfl, by decide +kernel, by decide +kernel⟩
theorem fn__law_spots (Z : All K w mg) : FunD K "_law_spots" "_law_spots" (defArgs s__law_spots) (defBody s__law_spots) (defScope s__law_spots) [] [] (He.ga K "_law_spots") (fdAt K (He.ga K "_law_spots")) := let ⟨_, X, G, c⟩ := Z.h; fdAt_of (c.t.d.def_ 19 rfl)
theorem kp__law_spots (Z : All K w mg) : PySem.W.keepIn K (.ref (He.ga K "_law_spots")) = true := (fn__law_spots Z).kp
theorem bd__law_spots (Z : All K w mg) : Binds K (fdAt K (He.ga K "_law_spots")) ["_law_operand"] [] := (fn__law_spots Z).bindsN fun _ _ _ _ _ _ us hl => match us, hl with | [_], _ => rfl
theorem sc__law_spots : FnScope N__law_spots ["_law_operand"] (defScope s__law_spots) := ⟨rfl, rfl, rfl, by decide +kernel, rfl, by decide +kernel, by decide +kernel⟩
theorem fn__law_operands (Z : All K w mg) : FunD K "_law_operands" "_law_operands" (defArgs s__law_operands) (defBody s__law_operands) (defScope s__law_operands) [] [] (He.ga K "_law_operands") (fdAt K (He.ga K "_law_operands")) := let ⟨_, X, G, c⟩ := Z.h; fdAt_of (c.t.d.def_ 20 rfl)
theorem kp__law_operands (Z : All K w mg) : PySem.W.keepIn K (.ref (He.ga K "_law_operands")) = true := (fn__law_operands Z).kp
theorem bd__law_operands (Z : All K w mg) : Binds K (fdAt K (He.ga K "_law_operands")) ["_law_source_here"] [] := (fn__law_operands Z).bindsN fun _ _ _ _ _ _ us hl => match us, hl with | [_], _ => rfl
theorem sc__law_operands : FnScope N__law_operands ["_law_source_here"] (defScope s__law_operands) := ⟨rfl, rfl, rfl, by decide +kernel, rfl, by decide +kernel, by decide +kernel⟩
theorem fn__law_ends (Z : All K w mg) : FunD K "_law_ends" "_law_ends" (defArgs s__law_ends) (defBody s__law_ends) (defScope s__law_ends) [] [] (He.ga K "_law_ends") (fdAt K (He.ga K "_law_ends")) := let ⟨_, X, G, c⟩ := Z.h; fdAt_of (c.t.d.def_ 21 rfl)
theorem kp__law_ends (Z : All K w mg) : PySem.W.keepIn K (.ref (He.ga K "_law_ends")) = true := (fn__law_ends Z).kp
theorem bd__law_ends (Z : All K w mg) : Binds K (fdAt K (He.ga K "_law_ends")) ["_law_source_here"] [] := (fn__law_ends Z).bindsN fun _ _ _ _ _ _ us hl => match us, hl with | [_], _ => rfl
theorem sc__law_ends : FnScope N__law_ends ["_law_source_here"] (defScope s__law_ends) := ⟨rfl, rfl, rfl, by decide +kernel, rfl, by decide +kernel, by decide +kernel⟩
theorem fn__law_asks (Z : All K w mg) : FunD K "_law_asks" "_law_asks" (defArgs s__law_asks) (defBody s__law_asks) (defScope s__law_asks) [] [] (He.ga K "_law_asks") (fdAt K (He.ga K "_law_asks")) := let ⟨_, X, G, c⟩ := Z.h; fdAt_of (c.t.d.def_ 22 rfl)
theorem kp__law_asks (Z : All K w mg) : PySem.W.keepIn K (.ref (He.ga K "_law_asks")) = true := (fn__law_asks Z).kp
theorem bd__law_asks (Z : All K w mg) : Binds K (fdAt K (He.ga K "_law_asks")) ["_law_source_here"] [] := (fn__law_asks Z).bindsN fun _ _ _ _ _ _ us hl => match us, hl with | [_], _ => rfl
theorem sc__law_asks : FnScope N__law_asks ["_law_source_here"] (defScope s__law_asks) := ⟨rfl, rfl, rfl, by decide +kernel, rfl, by decide +kernel, by decide +kernel⟩
theorem fn__law_long (Z : All K w mg) : FunD K "_law_long" "_law_long" (defArgs s__law_long) (defBody s__law_long) (defScope s__law_long) [] [] (He.ga K "_law_long") (fdAt K (He.ga K "_law_long")) := let ⟨_, X, G, c⟩ := Z.h; fdAt_of (c.t.d.def_ 23 rfl)
theorem kp__law_long (Z : All K w mg) : PySem.W.keepIn K (.ref (He.ga K "_law_long")) = true := (fn__law_long Z).kp
theorem bd__law_long (Z : All K w mg) : Binds K (fdAt K (He.ga K "_law_long")) ["_law_source_here"] [] := (fn__law_long Z).bindsN fun _ _ _ _ _ _ us hl => match us, hl with | [_], _ => rfl
theorem sc__law_long : FnScope N__law_long ["_law_source_here"] (defScope s__law_long) := ⟨rfl, rfl, rfl, by decide +kernel, rfl, by decide +kernel, by decide +kernel⟩
theorem fn__law_wholes (Z : All K w mg) : FunD K "_law_wholes" "_law_wholes" (defArgs s__law_wholes) (defBody s__law_wholes) (defScope s__law_wholes) [] [] (He.ga K "_law_wholes") (fdAt K (He.ga K "_law_wholes")) := let ⟨_, X, G, c⟩ := Z.h; fdAt_of (c.t.d.def_ 24 rfl)
theorem kp__law_wholes (Z : All K w mg) : PySem.W.keepIn K (.ref (He.ga K "_law_wholes")) = true := (fn__law_wholes Z).kp
theorem bd__law_wholes (Z : All K w mg) : Binds K (fdAt K (He.ga K "_law_wholes")) ["_law_source_here"] [] := (fn__law_wholes Z).bindsN fun _ _ _ _ _ _ us hl => match us, hl with | [_], _ => rfl
theorem sc__law_wholes : FnScope N__law_wholes ["_law_source_here"] (defScope s__law_wholes) := ⟨rfl, rfl, rfl, by decide +kernel, rfl, by decide +kernel, by decide +kernel⟩
theorem fn_law (Z : All K w mg) : FunD K "law" "law" (defArgs s_law) (defBody s_law) (defScope s_law) [] [] (He.ga K "law") (fdAt K (He.ga K "law")) := let ⟨_, X, G, c⟩ := Z.h; fdAt_of (c.t.d.def_ 25 rfl)
theorem kp_law (Z : All K w mg) : PySem.W.keepIn K (.ref (He.ga K "law")) = true := (fn_law Z).kp
theorem bd_law (Z : All K w mg) : Binds K (fdAt K (He.ga K "law")) ["_law_script"] [] := (fn_law Z).bindsN fun _ _ _ _ _ _ us hl => match us, hl with | [_], _ => rfl
theorem sc_law : FnScope N_law ["_law_script"] (defScope s_law) := ⟨rfl, rfl, rfl, by decide +kernel, rfl, by decide +kernel, by decide +kernel⟩
end
end G
set_option Elab.async false
set_option linter.all false
set_option maxRecDepth 100000
set_option maxHeartbeats 4000000
namespace G
open PySem PySem.Spec PyProof.Rows L2 ML
section
variable {w : World} {K : PySem.W.Frag} {mg : Str → Option Value} {base : Heap} {n : Nat} {c : Call}
def b_is_name (c : Call) : SM := sSeq (sIf (tOrM (tNotM (tV (eOp1 (opIsi "str") (eVar 0)))) (tOrM (tV (eOp2 opLt (eOp1 opLen (eVar 0)) (eC (.int 1)))) (tOrM (tV (eOp2 opGt (eOp1 opLen (eVar 0)) (eC (.int 8)))) (tV (eOp2 opIn (eVar 0) (eC w_WORDS)))))) (sRet (eC (.bl false))) (sNil)) (sRet (eOp1 opAll (eFrz (fComp (iX (eVar 0)) [1] (gN 1) (tYesM) (eOp2 opIn (eVar 1) (eC (.str "abcdefghijklmnopqrstuvwxyz")))))))
theorem ok_is_name (Z : All K w mg) (ih : ∀ f, FnOk P w K mg base (L2.CX P w) n (He.ga K (nm f)) (fdAt K (He.ga K (nm f))) (prm f) (spOf ⟨K, w⟩ (prm f).length (c f))) : FnOk P w K mg base (L2.CX P w) (n + 1) (He.ga K "is_name") (fdAt K (He.ga K "is_name")) ["value"] (spOf ⟨K, w⟩ 1 (fBody 2 (b_is_name c))) :=
  fn_okD (fn_is_name Z) sc_is_name rfl fun cdv A outer s H E hr tk po => iss_cons (is_if (it_w (iw_or (it_not (it_val (ie_isi (x := "") rfl (z_isinstance Z) rfl (z_str Z) (by decide +kernel) (ib_of (ie_var (pv 0)))))) (iw_or (it_cmp op_lt sp_lt (ib_of (ie_b1 call_len sp_len rfl (z_len Z) boot_len (ib_of (ie_var (pv 0))))) (ib_of (ie_int)) (nomark _)) (iw_or (it_cmp op_gt sp_gt (ib_of (ie_b1 call_len sp_len rfl (z_len Z) boot_len (ib_of (ie_var (pv 0))))) (ib_of (ie_int)) (nomark _)) (iw_or1 (it_cmp (op_inA (u65 hr)) sp_in (ib_of (ie_var (pv 0))) (ib_of (ie_gobj rfl (mg_WORDS Z) (k_WORDS Z))) rfl)))))) (iss_one (is_ret (ie_bl))) (iss_nil)) (iss_one (is_ret (ie_b1 (cr_all rfl) sp_all rfl (z_all Z) (by decide +kernel) (ib_of (ie_frz (if_cq [("letter", 1)] rfl rfl sc_is_name.nd (iib_of (ii_x (ie_var (pv 0)))) (blkOk_by (N := N_is_name) (sc := defScope s_is_name) (by decide +kernel)) (fun _ _ _ _ _ => ig_name (i := 1) sc_is_name.nd rfl (by first | exact Or.inl rfl | exact Or.inr rfl)) (fun _ _ _ _ _ => its_nil) (fun _ _ _ _ _ => ie_cmp (op_inA (u65 hr)) sp_in (ib_of (ie_var (pv 1))) (ib_of (ie_gstr rfl (k_LETTERS Z))) rfl) (by decide)))))))
def b_are_answers (c : Call) : SM := sRet (eAndV (eOp1 (opIsi "list") (eVar 0)) (eOp1 opAll (eFrz (fComp (iX (eVar 0)) [1] (gN 1) (tYesM) (eOp2 opIn (eVar 1) (eC w_ANSWERS))))))
theorem ok_are_answers (Z : All K w mg) (ih : ∀ f, FnOk P w K mg base (L2.CX P w) n (He.ga K (nm f)) (fdAt K (He.ga K (nm f))) (prm f) (spOf ⟨K, w⟩ (prm f).length (c f))) : FnOk P w K mg base (L2.CX P w) (n + 1) (He.ga K "are_answers") (fdAt K (He.ga K "are_answers")) ["answers"] (spOf ⟨K, w⟩ 1 (fBody 2 (b_are_answers c))) :=
  fn_okD (fn_are_answers Z) sc_are_answers rfl fun cdv A outer s H E hr tk po => iss_one (is_ret (ie_and (ie_isi (x := "") rfl (z_isinstance Z) rfl (z_list Z) (by decide +kernel) (ib_of (ie_var (pv 0)))) (ie_one (ie_b1 (cr_all rfl) sp_all rfl (z_all Z) (by decide +kernel) (ib_of (ie_frz (if_cq [("answer", 1)] rfl rfl sc_are_answers.nd (iib_of (ii_x (ie_var (pv 0)))) (blkOk_by (N := N_are_answers) (sc := defScope s_are_answers) (by decide +kernel)) (fun _ _ _ _ _ => ig_name (i := 1) sc_are_answers.nd rfl (by first | exact Or.inl rfl | exact Or.inr rfl)) (fun _ _ _ _ _ => its_nil) (fun _ _ _ _ _ => ie_cmp (op_inA (u65 hr)) sp_in (ib_of (ie_var (pv 1))) (ib_of (ie_gobj rfl (mg_ANSWERS Z) (k_ANSWERS Z))) rfl) (by decide))))))))
def b_is_call (c : Call) : SM := sSeq (sIf (tOrM (tNotM (tV (eOp1 (opIsi "tuple") (eVar 0)))) (tOrM (tV (eOp2 opNe (eOp1 opLen (eVar 0)) (eC (.int 2)))) (tOrM (tNotM (tV (eOp1 (opIsi "tuple") (eOp2 opIx (eVar 0) (eC (.int 0)))))) (tV (eOp2 opNe (eOp1 opLen (eOp2 opIx (eVar 0) (eC (.int 0)))) (eVar 1)))))) (sRet (eC (.bl false))) (sNil)) (sRet (eAndV (eOp1 opAll (eFrz (fComp (iX (eOp2 opIx (eVar 0) (eC (.int 0)))) [2] (gN 2) (tYesM) (eOp2 opIn (eVar 2) (eC w_KINDS))))) (eCall (c .f_are_answers) (aCons (eOp2 opIx (eVar 0) (eC (.int 1))) (aNil)))))
theorem ok_is_call (Z : All K w mg) (ih : ∀ f, FnOk P w K mg base (L2.CX P w) n (He.ga K (nm f)) (fdAt K (He.ga K (nm f))) (prm f) (spOf ⟨K, w⟩ (prm f).length (c f))) : FnOk P w K mg base (L2.CX P w) (n + 1) (He.ga K "is_call") (fdAt K (He.ga K "is_call")) ["value", "many"] (spOf ⟨K, w⟩ 2 (fBody 3 (b_is_call c))) :=
  fn_okD (fn_is_call Z) sc_is_call rfl fun cdv A outer s H E hr tk po => iss_cons (is_if (it_w (iw_or (it_not (it_val (ie_isi (x := "") rfl (z_isinstance Z) rfl (z_tuple Z) (by decide +kernel) (ib_of (ie_var (pv 0)))))) (iw_or (it_cmp (op_neD hr.units) sp_ne (ib_of (ie_b1 call_len sp_len rfl (z_len Z) boot_len (ib_of (ie_var (pv 0))))) (ib_of (ie_int)) (nomark _)) (iw_or (it_not (it_val (ie_isi (x := "") rfl (z_isinstance Z) rfl (z_tuple Z) (by decide +kernel) (ib_of (ie_ix (ib_of (ie_var (pv 0))) (ib_of (ie_int)) (fun _ _ => rfl)))))) (iw_or1 (it_cmp (op_neD hr.units) sp_ne (ib_of (ie_b1 call_len sp_len rfl (z_len Z) boot_len (ib_of (ie_ix (ib_of (ie_var (pv 0))) (ib_of (ie_int)) (fun _ _ => rfl))))) (ib_of (ie_var (pv 1))) (nomark _))))))) (iss_one (is_ret (ie_bl))) (iss_nil)) (iss_one (is_ret (ie_and (ie_b1 (cr_all rfl) sp_all rfl (z_all Z) (by decide +kernel) (ib_of (ie_frz (if_cq [("kind", 2)] rfl rfl sc_is_call.nd (iib_of (ii_x (ie_ix (ib_of (ie_var (pv 0))) (ib_of (ie_int)) (fun _ _ => rfl)))) (blkOk_by (N := N_is_call) (sc := defScope s_is_call) (by decide +kernel)) (fun _ _ _ _ _ => ig_name (i := 2) sc_is_call.nd rfl (by first | exact Or.inl rfl | exact Or.inr rfl)) (fun _ _ _ _ _ => its_nil) (fun _ _ _ _ _ => ie_cmp (op_inA (u65 hr)) sp_in (ib_of (ie_var (pv 2))) (ib_of (ie_gobj rfl (mg_KINDS Z) (k_KINDS Z))) rfl) (by decide))))) (ie_one (ie_call tk (ih .f_are_answers) hr rfl (mg_are_answers Z) (kp_are_answers Z) (bd_are_answers Z) (am_cons (am_nil)) (ia_cons (ie_ix (ib_of (ie_var (pv 0))) (ib_of (ie_int)) (fun _ _ => rfl)) (ia_nil)))))))
def b_is_number (c : Call) : SM := sRet (eAndV (eOp1 (opIsi "int") (eVar 0)) (eAndV (eNotV (eOp1 (opIsi "bool") (eVar 0))) (eChain opLe opLt (eC (.int 0)) (eVar 0) (eVar 1))))
theorem ok_is_number (Z : All K w mg) (ih : ∀ f, FnOk P w K mg base (L2.CX P w) n (He.ga K (nm f)) (fdAt K (He.ga K (nm f))) (prm f) (spOf ⟨K, w⟩ (prm f).length (c f))) : FnOk P w K mg base (L2.CX P w) (n + 1) (He.ga K "is_number") (fdAt K (He.ga K "is_number")) ["value", "end"] (spOf ⟨K, w⟩ 2 (fBody 2 (b_is_number c))) :=
  fn_okD (fn_is_number Z) sc_is_number rfl fun cdv A outer s H E hr tk po => iss_one (is_ret (ie_and (ie_isi (x := "") rfl (z_isinstance Z) rfl (z_int Z) (by decide +kernel) (ib_of (ie_var (pv 0)))) (ie_and (ie_not (ie_isi (x := "") rfl (z_isinstance Z) rfl (z_bool Z) (by decide +kernel) (ib_of (ie_var (pv 0))))) (ie_one (ie_chain op_le sp_le op_lt sp_lt (ib_of (ie_int)) (ib_of (ie_var (pv 0))) (ib_of (ie_var (pv 1))))))))
def b_is_object (c : Call) : SM := sSeq (sIf (tOrM (tNotM (tV (eOp1 (opIsi "tuple") (eVar 0)))) (tV (eOp2 opNe (eOp1 opLen (eVar 0)) (eC (.int 2))))) (sRet (eC (.bl false))) (sNil)) (sSeq (sIf (tV (eOp2 opEq2 (eOp2 opIx (eVar 0) (eC (.int 0))) (eC (.str "place")))) (sRet (eCall (c .f_is_number) (aCons (eOp2 opIx (eVar 0) (eC (.int 1))) (aCons (eOp2 opIx (eVar 1) (eC (.int 0))) (aNil))))) (sNil)) (sSeq (sIf (tV (eOp2 opEq2 (eOp2 opIx (eVar 0) (eC (.int 0))) (eC (.str "parameter")))) (sRet (eCall (c .f_is_number) (aCons (eOp2 opIx (eVar 0) (eC (.int 1))) (aCons (eOp2 opIx (eVar 1) (eC (.int 1))) (aNil))))) (sNil)) (sRet (eAndV (eOp2 opEq2 (eOp2 opIx (eVar 0) (eC (.int 0))) (eC (.str "event"))) (eAndV (eCall (c .f_is_number) (aCons (eOp2 opIx (eVar 0) (eC (.int 1))) (aCons (eOp1 opLen (eVar 2)) (aNil)))) (eOp2 opIx (eVar 2) (eOp2 opIx (eVar 0) (eC (.int 1)))))))))
theorem ok_is_object (Z : All K w mg) (ih : ∀ f, FnOk P w K mg base (L2.CX P w) n (He.ga K (nm f)) (fdAt K (He.ga K (nm f))) (prm f) (spOf ⟨K, w⟩ (prm f).length (c f))) : FnOk P w K mg base (L2.CX P w) (n + 1) (He.ga K "is_object") (fdAt K (He.ga K "is_object")) ["operand", "shape", "answered"] (spOf ⟨K, w⟩ 3 (fBody 3 (b_is_object c))) :=
  fn_okD (fn_is_object Z) sc_is_object rfl fun cdv A outer s H E hr tk po => iss_cons (is_if (it_w (iw_or (it_not (it_val (ie_isi (x := "") rfl (z_isinstance Z) rfl (z_tuple Z) (by decide +kernel) (ib_of (ie_var (pv 0)))))) (iw_or1 (it_cmp (op_neD hr.units) sp_ne (ib_of (ie_b1 call_len sp_len rfl (z_len Z) boot_len (ib_of (ie_var (pv 0))))) (ib_of (ie_int)) (nomark _))))) (iss_one (is_ret (ie_bl))) (iss_nil)) (iss_cons (is_if (it_cmp (op_eqL hr.units) sp_eq2 (ib_of (ie_ix (ib_of (ie_var (pv 0))) (ib_of (ie_int)) (fun _ _ => rfl))) (ib_of (ie_str)) (nomark _)) (iss_one (is_ret (ie_call tk (ih .f_is_number) hr rfl (mg_is_number Z) (kp_is_number Z) (bd_is_number Z) (am_cons (am_cons (am_nil))) (ia_cons (ie_ix (ib_of (ie_var (pv 0))) (ib_of (ie_int)) (fun _ _ => rfl)) (ia_cons (ie_ix (ib_of (ie_var (pv 1))) (ib_of (ie_int)) (fun _ _ => rfl)) (ia_nil)))))) (iss_nil)) (iss_cons (is_if (it_cmp (op_eqL hr.units) sp_eq2 (ib_of (ie_ix (ib_of (ie_var (pv 0))) (ib_of (ie_int)) (fun _ _ => rfl))) (ib_of (ie_str)) (nomark _)) (iss_one (is_ret (ie_call tk (ih .f_is_number) hr rfl (mg_is_number Z) (kp_is_number Z) (bd_is_number Z) (am_cons (am_cons (am_nil))) (ia_cons (ie_ix (ib_of (ie_var (pv 0))) (ib_of (ie_int)) (fun _ _ => rfl)) (ia_cons (ie_ix (ib_of (ie_var (pv 1))) (ib_of (ie_int)) (fun _ _ => rfl)) (ia_nil)))))) (iss_nil)) (iss_one (is_ret (ie_and (ie_cmp (op_eqL hr.units) sp_eq2 (ib_of (ie_ix (ib_of (ie_var (pv 0))) (ib_of (ie_int)) (fun _ _ => rfl))) (ib_of (ie_str)) (nomark _)) (ie_and (ie_call tk (ih .f_is_number) hr rfl (mg_is_number Z) (kp_is_number Z) (bd_is_number Z) (am_cons (am_cons (am_nil))) (ia_cons (ie_ix (ib_of (ie_var (pv 0))) (ib_of (ie_int)) (fun _ _ => rfl)) (ia_cons (ie_b1 call_len sp_len rfl (z_len Z) boot_len (ib_of (ie_var (pv 2)))) (ia_nil)))) (ie_one (ie_ix (ib_of (ie_var (pv 2))) (ib_of (ie_ix (ib_of (ie_var (pv 0))) (ib_of (ie_int)) (fun _ _ => rfl))) (fun _ _ => rfl)))))))))
def b_is_operand (c : Call) : SM := sSeq (sIf (tAndM (tV (eOp1 (opIsi "tuple") (eVar 0))) (tAndM (tV (eOp2 opEq2 (eOp1 opLen (eVar 0)) (eC (.int 1)))) (tV (eOp1 (opIsi "str") (eOp2 opIx (eVar 0) (eC (.int 0))))))) (sRet (eOp2 opIn (eOp2 opIx (eVar 0) (eC (.int 0))) (eC w_CONSTANTS))) (sNil)) (sRet (eCall (c .f_is_object) (aCons (eVar 0) (aCons (eVar 1) (aCons (eVar 2) (aNil))))))
theorem ok_is_operand (Z : All K w mg) (ih : ∀ f, FnOk P w K mg base (L2.CX P w) n (He.ga K (nm f)) (fdAt K (He.ga K (nm f))) (prm f) (spOf ⟨K, w⟩ (prm f).length (c f))) : FnOk P w K mg base (L2.CX P w) (n + 1) (He.ga K "is_operand") (fdAt K (He.ga K "is_operand")) ["operand", "shape", "answered"] (spOf ⟨K, w⟩ 3 (fBody 3 (b_is_operand c))) :=
  fn_okD (fn_is_operand Z) sc_is_operand rfl fun cdv A outer s H E hr tk po => iss_cons (is_if (it_w (iw_and (it_val (ie_isi (x := "") rfl (z_isinstance Z) rfl (z_tuple Z) (by decide +kernel) (ib_of (ie_var (pv 0))))) (iw_and (it_cmp (op_eqL hr.units) sp_eq2 (ib_of (ie_b1 call_len sp_len rfl (z_len Z) boot_len (ib_of (ie_var (pv 0))))) (ib_of (ie_int)) (nomark _)) (iw_and1 (it_val (ie_isi (x := "") rfl (z_isinstance Z) rfl (z_str Z) (by decide +kernel) (ib_of (ie_ix (ib_of (ie_var (pv 0))) (ib_of (ie_int)) (fun _ _ => rfl))))))))) (iss_one (is_ret (ie_cmp (op_inA (u65 hr)) sp_in (ib_of (ie_ix (ib_of (ie_var (pv 0))) (ib_of (ie_int)) (fun _ _ => rfl))) (ib_of (ie_gobj rfl (mg_CONSTANTS Z) (k_CONSTANTS Z))) rfl))) (iss_nil)) (iss_one (is_ret (ie_call tk (ih .f_is_object) hr rfl (mg_is_object Z) (kp_is_object Z) (bd_is_object Z) (am_cons (am_cons (am_cons (am_nil)))) (ia_cons (ie_var (pv 0)) (ia_cons (ie_var (pv 1)) (ia_cons (ie_var (pv 2)) (ia_nil)))))))
def b_is_end (c : Call) : SM := sSeq (sIf (tOrM (tV (eOp2 opNe (eOp1 opLen (eVar 0)) (eC (.int 4)))) (tOrM (tNotM (tV (eCall (c .f_is_number) (aCons (eOp2 opIx (eVar 0) (eC (.int 2))) (aCons (eOp1 opLen (eOp2 opIx (eVar 1) (eC (.int 2)))) (aNil)))))) (tNotM (tV (eOp1 (opIsi "tuple") (eOp2 opIx (eVar 0) (eC (.int 3)))))))) (sRet (eC (.bl false))) (sNil)) (sSeq (sSet 3 (eOp2 opIx (eVar 0) (eC (.int 1)))) (sSeq (sIf (tOrM (tNotM (tV (eOp1 (opIsi "tuple") (eVar 3)))) (tOrM (tV (eOp2 opNe (eOp1 opLen (eVar 3)) (eC (.int 2)))) (tV (eOp2 opNe (eOp1 opLen (eOp2 opIx (eVar 0) (eC (.int 3)))) (eOp2 opIx (eOp2 opIx (eVar 1) (eC (.int 2))) (eOp2 opIx (eVar 0) (eC (.int 2)))))))) (sRet (eC (.bl false))) (sNil)) (sSeq (sIf (tNotM (tV (eOp1 opAll (eFrz (fComp (iX (eOp2 opIx (eVar 0) (eC (.int 3)))) [4] (gN 4) (tYesM) (eCall (c .f_is_object) (aCons (eVar 4) (aCons (eVar 1) (aCons (eVar 2) (aNil)))))))))) (sRet (eC (.bl false))) (sNil)) (sSeq (sIf (tV (eOp2 opEq2 (eOp2 opIx (eVar 3) (eC (.int 0))) (eC (.str "value")))) (sRet (eCall (c .f_is_operand) (aCons (eOp2 opIx (eVar 3) (eC (.int 1))) (aCons (eVar 1) (aCons (eVar 2) (aNil)))))) (sNil)) (sRet (eAndV (eOp2 opEq2 (eOp2 opIx (eVar 3) (eC (.int 0))) (eC (.str "failed"))) (eAndV (eCall (c .f_is_number) (aCons (eOp2 opIx (eVar 3) (eC (.int 1))) (aCons (eOp1 opLen (eVar 2)) (aNil)))) (eNotV (eOp2 opIx (eVar 2) (eOp2 opIx (eVar 3) (eC (.int 1))))))))))))
theorem ok_is_end (Z : All K w mg) (ih : ∀ f, FnOk P w K mg base (L2.CX P w) n (He.ga K (nm f)) (fdAt K (He.ga K (nm f))) (prm f) (spOf ⟨K, w⟩ (prm f).length (c f))) : FnOk P w K mg base (L2.CX P w) (n + 1) (He.ga K "is_end") (fdAt K (He.ga K "is_end")) ["tree", "shape", "answered"] (spOf ⟨K, w⟩ 3 (fBody 5 (b_is_end c))) :=
  fn_okD (fn_is_end Z) sc_is_end rfl fun cdv A outer s H E hr tk po => iss_cons (is_if (it_w (iw_or (it_cmp (op_neD hr.units) sp_ne (ib_of (ie_b1 call_len sp_len rfl (z_len Z) boot_len (ib_of (ie_var (pv 0))))) (ib_of (ie_int)) (nomark _)) (iw_or (it_not (it_val (ie_call tk (ih .f_is_number) hr rfl (mg_is_number Z) (kp_is_number Z) (bd_is_number Z) (am_cons (am_cons (am_nil))) (ia_cons (ie_ix (ib_of (ie_var (pv 0))) (ib_of (ie_int)) (fun _ _ => rfl)) (ia_cons (ie_b1 call_len sp_len rfl (z_len Z) boot_len (ib_of (ie_ix (ib_of (ie_var (pv 1))) (ib_of (ie_int)) (fun _ _ => rfl)))) (ia_nil)))))) (iw_or1 (it_not (it_val (ie_isi (x := "") rfl (z_isinstance Z) rfl (z_tuple Z) (by decide +kernel) (ib_of (ie_ix (ib_of (ie_var (pv 0))) (ib_of (ie_int)) (fun _ _ => rfl)))))))))) (iss_one (is_ret (ie_bl))) (iss_nil)) (iss_cons (is_set (i := 3) sc_is_end.nd rfl (by first | exact Or.inl rfl | exact Or.inr rfl) (ie_ix (ib_of (ie_var (pv 0))) (ib_of (ie_int)) (fun _ _ => rfl))) (iss_cons (is_if (it_w (iw_or (it_not (it_val (ie_isi (x := "") rfl (z_isinstance Z) rfl (z_tuple Z) (by decide +kernel) (ib_of (ie_var (pv 3)))))) (iw_or (it_cmp (op_neD hr.units) sp_ne (ib_of (ie_b1 call_len sp_len rfl (z_len Z) boot_len (ib_of (ie_var (pv 3))))) (ib_of (ie_int)) (nomark _)) (iw_or1 (it_cmp (op_neD hr.units) sp_ne (ib_of (ie_b1 call_len sp_len rfl (z_len Z) boot_len (ib_of (ie_ix (ib_of (ie_var (pv 0))) (ib_of (ie_int)) (fun _ _ => rfl))))) (ib_of (ie_ix (ib_of (ie_ix (ib_of (ie_var (pv 1))) (ib_of (ie_int)) (fun _ _ => rfl))) (ib_of (ie_ix (ib_of (ie_var (pv 0))) (ib_of (ie_int)) (fun _ _ => rfl))) (fun _ _ => rfl))) (nomark _)))))) (iss_one (is_ret (ie_bl))) (iss_nil)) (iss_cons (is_if (it_not (it_val (ie_b1 (cr_all rfl) sp_all rfl (z_all Z) (by decide +kernel) (ib_of (ie_frz (if_cq [("operand", 4)] rfl rfl sc_is_end.nd (iib_of (ii_x (ie_ix (ib_of (ie_var (pv 0))) (ib_of (ie_int)) (fun _ _ => rfl)))) (blkOk_by (N := N_is_end) (sc := defScope s_is_end) (by decide +kernel)) (fun _ _ _ _ _ => ig_name (i := 4) sc_is_end.nd rfl (by first | exact Or.inl rfl | exact Or.inr rfl)) (fun _ _ _ _ _ => its_nil) (fun _ _ _ _ _ => ie_call takes0 (ih .f_is_object) hr rfl (mg_is_object Z) (kp_is_object Z) (bd_is_object Z) (am_cons (am_cons (am_cons (am_nil)))) (ia_cons (ie_var (pv 4)) (ia_cons (ie_var (pv 1)) (ia_cons (ie_var (pv 2)) (ia_nil))))) (by decide))))))) (iss_one (is_ret (ie_bl))) (iss_nil)) (iss_cons (is_if (it_cmp (op_eqL hr.units) sp_eq2 (ib_of (ie_ix (ib_of (ie_var (pv 3))) (ib_of (ie_int)) (fun _ _ => rfl))) (ib_of (ie_str)) (nomark _)) (iss_one (is_ret (ie_call tk (ih .f_is_operand) hr rfl (mg_is_operand Z) (kp_is_operand Z) (bd_is_operand Z) (am_cons (am_cons (am_cons (am_nil)))) (ia_cons (ie_ix (ib_of (ie_var (pv 3))) (ib_of (ie_int)) (fun _ _ => rfl)) (ia_cons (ie_var (pv 1)) (ia_cons (ie_var (pv 2)) (ia_nil))))))) (iss_nil)) (iss_one (is_ret (ie_and (ie_cmp (op_eqL hr.units) sp_eq2 (ib_of (ie_ix (ib_of (ie_var (pv 3))) (ib_of (ie_int)) (fun _ _ => rfl))) (ib_of (ie_str)) (nomark _)) (ie_and (ie_call tk (ih .f_is_number) hr rfl (mg_is_number Z) (kp_is_number Z) (bd_is_number Z) (am_cons (am_cons (am_nil))) (ia_cons (ie_ix (ib_of (ie_var (pv 3))) (ib_of (ie_int)) (fun _ _ => rfl)) (ia_cons (ie_b1 call_len sp_len rfl (z_len Z) boot_len (ib_of (ie_var (pv 2)))) (ia_nil)))) (ie_one (ie_not (ie_ix (ib_of (ie_var (pv 2))) (ib_of (ie_ix (ib_of (ie_var (pv 3))) (ib_of (ie_int)) (fun _ _ => rfl))) (fun _ _ => rfl))))))))))))
def b_is_asking (c : Call) : SM := sSeq (sIf (tOrM (tV (eOp2 opNe (eOp1 opLen (eVar 0)) (eC (.int 4)))) (tOrM (tV (eOp2 opEq2 (eOp1 opLen (eVar 2)) (eC (.int 6)))) (tOrM (tNotM (tV (eOp1 (opIsi "tuple") (eOp2 opIx (eVar 0) (eC (.int 2)))))) (tV (eOp2 opGt (eOp1 opLen (eOp2 opIx (eVar 0) (eC (.int 2)))) (eC (.int 3))))))) (sRet (eC (.bl false))) (sNil)) (sSeq (sIf (tOrM (tNotM (tV (eOp1 (opIsi "str") (eOp2 opIx (eVar 0) (eC (.int 1)))))) (tNotM (tOrM (tV (eCall (c .f_is_name) (aCons (eOp2 opIx (eVar 0) (eC (.int 1))) (aNil)))) (tAndM (tV (eOp2 opIn (eOp2 opIx (eVar 0) (eC (.int 1))) (eC w_SIGNS))) (tV (eOp2 opEq2 (eOp1 opLen (eOp2 opIx (eVar 0) (eC (.int 2)))) (eC (.int 2)))))))) (sRet (eC (.bl false))) (sNil)) (sSeq (sIf (tNotM (tV (eOp1 opAll (eFrz (fComp (iX (eOp2 opIx (eVar 0) (eC (.int 2)))) [4] (gN 4) (tYesM) (eCall (c .f_is_operand) (aCons (eVar 4) (aCons (eVar 1) (aCons (eVar 2) (aNil)))))))))) (sRet (eC (.bl false))) (sNil)) (sSeq (sIf (tOrM (tNotM (tV (eOp1 (opIsi "tuple") (eOp2 opIx (eVar 0) (eC (.int 3)))))) (tV (eOp2 opNe (eOp1 opLen (eOp2 opIx (eVar 0) (eC (.int 3)))) (eC (.int 2))))) (sRet (eC (.bl false))) (sNil)) (sSeq (sIf (tNotM (tV (eCall (c .f_is_tree) (aCons (eOp2 opIx (eOp2 opIx (eVar 0) (eC (.int 3))) (eC (.int 0))) (aCons (eVar 1) (aCons (eFrz (fAdd (eVar 2) (eFrz (fLst (aCons (eC (.bl true)) (aNil)))))) (aCons (eOp2 opSub (eVar 3) (eC (.int 1))) (aNil)))))))) (sRet (eC (.bl false))) (sNil)) (sRet (eCall (c .f_is_tree) (aCons (eOp2 opIx (eOp2 opIx (eVar 0) (eC (.int 3))) (eC (.int 1))) (aCons (eVar 1) (aCons (eFrz (fAdd (eVar 2) (eFrz (fLst (aCons (eC (.bl false)) (aNil)))))) (aCons (eOp2 opSub (eVar 3) (eC (.int 1))) (aNil)))))))))))
theorem ok_is_asking (Z : All K w mg) (ih : ∀ f, FnOk P w K mg base (L2.CX P w) n (He.ga K (nm f)) (fdAt K (He.ga K (nm f))) (prm f) (spOf ⟨K, w⟩ (prm f).length (c f))) : FnOk P w K mg base (L2.CX P w) (n + 1) (He.ga K "is_asking") (fdAt K (He.ga K "is_asking")) ["tree", "shape", "answered", "levels"] (spOf ⟨K, w⟩ 4 (fBody 5 (b_is_asking c))) :=
  fn_okD (fn_is_asking Z) sc_is_asking rfl fun cdv A outer s H E hr tk po => iss_cons (is_if (it_w (iw_or (it_cmp (op_neD hr.units) sp_ne (ib_of (ie_b1 call_len sp_len rfl (z_len Z) boot_len (ib_of (ie_var (pv 0))))) (ib_of (ie_int)) (nomark _)) (iw_or (it_cmp (op_eqL hr.units) sp_eq2 (ib_of (ie_b1 call_len sp_len rfl (z_len Z) boot_len (ib_of (ie_var (pv 2))))) (ib_of (ie_gint rfl (k_MOST_EVENTS Z))) (nomark _)) (iw_or (it_not (it_val (ie_isi (x := "") rfl (z_isinstance Z) rfl (z_tuple Z) (by decide +kernel) (ib_of (ie_ix (ib_of (ie_var (pv 0))) (ib_of (ie_int)) (fun _ _ => rfl)))))) (iw_or1 (it_cmp op_gt sp_gt (ib_of (ie_b1 call_len sp_len rfl (z_len Z) boot_len (ib_of (ie_ix (ib_of (ie_var (pv 0))) (ib_of (ie_int)) (fun _ _ => rfl))))) (ib_of (ie_int)) (nomark _))))))) (iss_one (is_ret (ie_bl))) (iss_nil)) (iss_cons (is_if (it_w (iw_or (it_not (it_val (ie_isi (x := "") rfl (z_isinstance Z) rfl (z_str Z) (by decide +kernel) (ib_of (ie_ix (ib_of (ie_var (pv 0))) (ib_of (ie_int)) (fun _ _ => rfl)))))) (iw_or1 (it_not (it_w (iw_or (it_val (ie_call tk (ih .f_is_name) hr rfl (mg_is_name Z) (kp_is_name Z) (bd_is_name Z) (am_cons (am_nil)) (ia_cons (ie_ix (ib_of (ie_var (pv 0))) (ib_of (ie_int)) (fun _ _ => rfl)) (ia_nil)))) (iw_or1 (it_w (iw_and (it_cmp (op_inA (u65 hr)) sp_in (ib_of (ie_ix (ib_of (ie_var (pv 0))) (ib_of (ie_int)) (fun _ _ => rfl))) (ib_of (ie_gobj rfl (mg_SIGNS Z) (k_SIGNS Z))) rfl) (iw_and1 (it_cmp (op_eqL hr.units) sp_eq2 (ib_of (ie_b1 call_len sp_len rfl (z_len Z) boot_len (ib_of (ie_ix (ib_of (ie_var (pv 0))) (ib_of (ie_int)) (fun _ _ => rfl))))) (ib_of (ie_int)) (nomark _)))))))))))) (iss_one (is_ret (ie_bl))) (iss_nil)) (iss_cons (is_if (it_not (it_val (ie_b1 (cr_all rfl) sp_all rfl (z_all Z) (by decide +kernel) (ib_of (ie_frz (if_cq [("operand", 4)] rfl rfl sc_is_asking.nd (iib_of (ii_x (ie_ix (ib_of (ie_var (pv 0))) (ib_of (ie_int)) (fun _ _ => rfl)))) (blkOk_by (N := N_is_asking) (sc := defScope s_is_asking) (by decide +kernel)) (fun _ _ _ _ _ => ig_name (i := 4) sc_is_asking.nd rfl (by first | exact Or.inl rfl | exact Or.inr rfl)) (fun _ _ _ _ _ => its_nil) (fun _ _ _ _ _ => ie_call takes0 (ih .f_is_operand) hr rfl (mg_is_operand Z) (kp_is_operand Z) (bd_is_operand Z) (am_cons (am_cons (am_cons (am_nil)))) (ia_cons (ie_var (pv 4)) (ia_cons (ie_var (pv 1)) (ia_cons (ie_var (pv 2)) (ia_nil))))) (by decide))))))) (iss_one (is_ret (ie_bl))) (iss_nil)) (iss_cons (is_if (it_w (iw_or (it_not (it_val (ie_isi (x := "") rfl (z_isinstance Z) rfl (z_tuple Z) (by decide +kernel) (ib_of (ie_ix (ib_of (ie_var (pv 0))) (ib_of (ie_int)) (fun _ _ => rfl)))))) (iw_or1 (it_cmp (op_neD hr.units) sp_ne (ib_of (ie_b1 call_len sp_len rfl (z_len Z) boot_len (ib_of (ie_ix (ib_of (ie_var (pv 0))) (ib_of (ie_int)) (fun _ _ => rfl))))) (ib_of (ie_int)) (nomark _))))) (iss_one (is_ret (ie_bl))) (iss_nil)) (iss_cons (is_if (it_not (it_val (ie_call tk (ih .f_is_tree) hr rfl (mg_is_tree Z) (kp_is_tree Z) (bd_is_tree Z) (am_cons (am_cons (am_cons (am_cons (am_nil))))) (ia_cons (ie_ix (ib_of (ie_ix (ib_of (ie_var (pv 0))) (ib_of (ie_int)) (fun _ _ => rfl))) (ib_of (ie_int)) (fun _ _ => rfl)) (ia_cons (ie_var (pv 1)) (ia_cons (ie_frz (if_add (ib_of (ie_var (pv 2))) (ib_of (ie_frz (if_lst (ia_cons (ie_bl) (ia_nil))))))) (ia_cons (ie_op op_sub sp_sub (ib_of (ie_var (pv 3))) (ib_of (ie_int))) (ia_nil)))))))) (iss_one (is_ret (ie_bl))) (iss_nil)) (iss_one (is_ret (ie_call tk (ih .f_is_tree) hr rfl (mg_is_tree Z) (kp_is_tree Z) (bd_is_tree Z) (am_cons (am_cons (am_cons (am_cons (am_nil))))) (ia_cons (ie_ix (ib_of (ie_ix (ib_of (ie_var (pv 0))) (ib_of (ie_int)) (fun _ _ => rfl))) (ib_of (ie_int)) (fun _ _ => rfl)) (ia_cons (ie_var (pv 1)) (ia_cons (ie_frz (if_add (ib_of (ie_var (pv 2))) (ib_of (ie_frz (if_lst (ia_cons (ie_bl) (ia_nil))))))) (ia_cons (ie_op op_sub sp_sub (ib_of (ie_var (pv 3))) (ib_of (ie_int))) (ia_nil))))))))))))
def b_is_tree (c : Call) : SM := sSeq (sIf (tOrM (tV (eOp2 opEq2 (eVar 3) (eC (.int 0)))) (tOrM (tNotM (tV (eOp1 (opIsi "tuple") (eVar 0)))) (tV (eOp2 opEq2 (eOp1 opLen (eVar 0)) (eC (.int 0)))))) (sRet (eC (.bl false))) (sNil)) (sSeq (sIf (tV (eOp2 opEq2 (eOp2 opIx (eVar 0) (eC (.int 0))) (eC (.str "end")))) (sRet (eCall (c .f_is_end) (aCons (eVar 0) (aCons (eVar 1) (aCons (eVar 2) (aNil)))))) (sNil)) (sSeq (sIf (tV (eOp2 opEq2 (eOp2 opIx (eVar 0) (eC (.int 0))) (eC (.str "ask")))) (sRet (eCall (c .f_is_asking) (aCons (eVar 0) (aCons (eVar 1) (aCons (eVar 2) (aCons (eVar 3) (aNil))))))) (sNil)) (sSeq (sIf (tOrM (tV (eOp2 opNe (eOp2 opIx (eVar 0) (eC (.int 0))) (eC (.str "test")))) (tOrM (tV (eOp2 opNe (eOp1 opLen (eVar 0)) (eC (.int 3)))) (tNotM (tV (eCall (c .f_is_object) (aCons (eOp2 opIx (eVar 0) (eC (.int 1))) (aCons (eVar 1) (aCons (eVar 2) (aNil))))))))) (sRet (eC (.bl false))) (sNil)) (sSeq (sIf (tOrM (tNotM (tV (eOp1 (opIsi "tuple") (eOp2 opIx (eVar 0) (eC (.int 2)))))) (tV (eOp2 opNe (eOp1 opLen (eOp2 opIx (eVar 0) (eC (.int 2)))) (eC (.int 3))))) (sRet (eC (.bl false))) (sNil)) (sRet (eOp1 opAll (eFrz (fComp (iX (eOp2 opIx (eVar 0) (eC (.int 2)))) [4] (gN 4) (tYesM) (eCall (c .f_is_tree) (aCons (eVar 4) (aCons (eVar 1) (aCons (eVar 2) (aCons (eOp2 opSub (eVar 3) (eC (.int 1))) (aNil))))))))))))))
theorem ok_is_tree (Z : All K w mg) (ih : ∀ f, FnOk P w K mg base (L2.CX P w) n (He.ga K (nm f)) (fdAt K (He.ga K (nm f))) (prm f) (spOf ⟨K, w⟩ (prm f).length (c f))) : FnOk P w K mg base (L2.CX P w) (n + 1) (He.ga K "is_tree") (fdAt K (He.ga K "is_tree")) ["tree", "shape", "answered", "levels"] (spOf ⟨K, w⟩ 4 (fBody 5 (b_is_tree c))) :=
  fn_okD (fn_is_tree Z) sc_is_tree rfl fun cdv A outer s H E hr tk po => iss_cons (is_if (it_w (iw_or (it_cmp (op_eqL hr.units) sp_eq2 (ib_of (ie_var (pv 3))) (ib_of (ie_int)) (nomark _)) (iw_or (it_not (it_val (ie_isi (x := "") rfl (z_isinstance Z) rfl (z_tuple Z) (by decide +kernel) (ib_of (ie_var (pv 0)))))) (iw_or1 (it_cmp (op_eqL hr.units) sp_eq2 (ib_of (ie_b1 call_len sp_len rfl (z_len Z) boot_len (ib_of (ie_var (pv 0))))) (ib_of (ie_int)) (nomark _)))))) (iss_one (is_ret (ie_bl))) (iss_nil)) (iss_cons (is_if (it_cmp (op_eqL hr.units) sp_eq2 (ib_of (ie_ix (ib_of (ie_var (pv 0))) (ib_of (ie_int)) (fun _ _ => rfl))) (ib_of (ie_str)) (nomark _)) (iss_one (is_ret (ie_call tk (ih .f_is_end) hr rfl (mg_is_end Z) (kp_is_end Z) (bd_is_end Z) (am_cons (am_cons (am_cons (am_nil)))) (ia_cons (ie_var (pv 0)) (ia_cons (ie_var (pv 1)) (ia_cons (ie_var (pv 2)) (ia_nil))))))) (iss_nil)) (iss_cons (is_if (it_cmp (op_eqL hr.units) sp_eq2 (ib_of (ie_ix (ib_of (ie_var (pv 0))) (ib_of (ie_int)) (fun _ _ => rfl))) (ib_of (ie_str)) (nomark _)) (iss_one (is_ret (ie_call tk (ih .f_is_asking) hr rfl (mg_is_asking Z) (kp_is_asking Z) (bd_is_asking Z) (am_cons (am_cons (am_cons (am_cons (am_nil))))) (ia_cons (ie_var (pv 0)) (ia_cons (ie_var (pv 1)) (ia_cons (ie_var (pv 2)) (ia_cons (ie_var (pv 3)) (ia_nil)))))))) (iss_nil)) (iss_cons (is_if (it_w (iw_or (it_cmp (op_neD hr.units) sp_ne (ib_of (ie_ix (ib_of (ie_var (pv 0))) (ib_of (ie_int)) (fun _ _ => rfl))) (ib_of (ie_str)) (nomark _)) (iw_or (it_cmp (op_neD hr.units) sp_ne (ib_of (ie_b1 call_len sp_len rfl (z_len Z) boot_len (ib_of (ie_var (pv 0))))) (ib_of (ie_int)) (nomark _)) (iw_or1 (it_not (it_val (ie_call tk (ih .f_is_object) hr rfl (mg_is_object Z) (kp_is_object Z) (bd_is_object Z) (am_cons (am_cons (am_cons (am_nil)))) (ia_cons (ie_ix (ib_of (ie_var (pv 0))) (ib_of (ie_int)) (fun _ _ => rfl)) (ia_cons (ie_var (pv 1)) (ia_cons (ie_var (pv 2)) (ia_nil))))))))))) (iss_one (is_ret (ie_bl))) (iss_nil)) (iss_cons (is_if (it_w (iw_or (it_not (it_val (ie_isi (x := "") rfl (z_isinstance Z) rfl (z_tuple Z) (by decide +kernel) (ib_of (ie_ix (ib_of (ie_var (pv 0))) (ib_of (ie_int)) (fun _ _ => rfl)))))) (iw_or1 (it_cmp (op_neD hr.units) sp_ne (ib_of (ie_b1 call_len sp_len rfl (z_len Z) boot_len (ib_of (ie_ix (ib_of (ie_var (pv 0))) (ib_of (ie_int)) (fun _ _ => rfl))))) (ib_of (ie_int)) (nomark _))))) (iss_one (is_ret (ie_bl))) (iss_nil)) (iss_one (is_ret (ie_b1 (cr_all rfl) sp_all rfl (z_all Z) (by decide +kernel) (ib_of (ie_frz (if_cq [("part", 4)] rfl rfl sc_is_tree.nd (iib_of (ii_x (ie_ix (ib_of (ie_var (pv 0))) (ib_of (ie_int)) (fun _ _ => rfl)))) (blkOk_by (N := N_is_tree) (sc := defScope s_is_tree) (by decide +kernel)) (fun _ _ _ _ _ => ig_name (i := 4) sc_is_tree.nd rfl (by first | exact Or.inl rfl | exact Or.inr rfl)) (fun _ _ _ _ _ => its_nil) (fun _ _ _ _ _ => ie_call takes0 (ih .f_is_tree) hr rfl (mg_is_tree Z) (kp_is_tree Z) (bd_is_tree Z) (am_cons (am_cons (am_cons (am_cons (am_nil))))) (ia_cons (ie_var (pv 4)) (ia_cons (ie_var (pv 1)) (ia_cons (ie_var (pv 2)) (ia_cons (ie_op op_sub sp_sub (ib_of (ie_var (pv 3))) (ib_of (ie_int))) (ia_nil)))))) (by decide)))))))))))
def b_is_machine (c : Call) : SM := sSeq (sIf (tOrM (tNotM (tV (eOp1 (opIsi "tuple") (eVar 0)))) (tOrM (tV (eOp2 opNe (eOp1 opLen (eVar 0)) (eC (.int 3)))) (tOrM (tNotM (tV (eOp1 (opIsi "tuple") (eOp2 opIx (eVar 0) (eC (.int 0)))))) (tV (eOp2 opGt (eOp1 opLen (eOp2 opIx (eVar 0) (eC (.int 0)))) (eC (.int 2))))))) (sRet (eC (.bl false))) (sNil)) (sSeq (sIf (tOrM (tNotM (tV (eOp1 opAll (eFrz (fComp (iX (eOp2 opIx (eVar 0) (eC (.int 0)))) [1] (gN 1) (tYesM) (eCall (c .f_is_name) (aCons (eVar 1) (aNil)))))))) (tV (eOp2 opNe (eOp1 opLenSet (eOp2 opIx (eVar 0) (eC (.int 0)))) (eOp1 opLen (eOp2 opIx (eVar 0) (eC (.int 0))))))) (sRet (eC (.bl false))) (sNil)) (sSeq (sSet 2 (eOp2 opIx (eVar 0) (eC (.int 2)))) (sSeq (sIf (tOrM (tNotM (tV (eOp1 (opIsi "tuple") (eVar 2)))) (tOrM (tV (eOp2 opGt (eOp1 opLen (eVar 2)) (eC (.int 2000)))) (tNotM (tV (eCall (c .f_is_number) (aCons (eOp2 opIx (eVar 0) (eC (.int 1))) (aCons (eOp1 opLen (eVar 2)) (aNil)))))))) (sRet (eC (.bl false))) (sNil)) (sSeq (sSetO 3 (fLst (aNil))) (sSeq (sFor (iX (eVar 2)) (gN 4) (sSeq (sIf (tOrM (tNotM (tV (eOp1 (opIsi "tuple") (eVar 4)))) (tOrM (tV (eOp2 opNe (eOp1 opLen (eVar 4)) (eC (.int 2)))) (tNotM (tV (eCall (c .f_is_number) (aCons (eOp2 opIx (eVar 4) (eC (.int 0))) (aCons (eOp2 opAdd (eC (.int 8)) (eC (.int 1))) (aNil)))))))) (sRet (eC (.bl false))) (sNil)) (sAppO 3 (eOp2 opIx (eVar 4) (eC (.int 0)))))) (sSeq (sIf (tV (eOp2 opNe (eOp2 opIx (eBrw 3) (eOp2 opIx (eVar 0) (eC (.int 1)))) (eC (.int 0)))) (sRet (eC (.bl false))) (sNil)) (sFrz 3 (sRet (eOp1 opAll (eFrz (fComp (iX (eVar 2)) [4] (gN 4) (tYesM) (eCall (c .f_is_tree) (aCons (eOp2 opIx (eVar 4) (eC (.int 1))) (aCons (eTup (aCons (eOp2 opIx (eVar 4) (eC (.int 0))) (aCons (eOp1 opLen (eOp2 opIx (eVar 0) (eC (.int 0)))) (aCons (eVar 3) (aNil))))) (aCons (eFrz (fLst (aNil))) (aCons (eC (.int 30)) (aNil)))))))))))))))))
theorem ok_is_machine (Z : All K w mg) (ih : ∀ f, FnOk P w K mg base (L2.CX P w) n (He.ga K (nm f)) (fdAt K (He.ga K (nm f))) (prm f) (spOf ⟨K, w⟩ (prm f).length (c f))) : FnOk P w K mg base (L2.CX P w) (n + 1) (He.ga K "is_machine") (fdAt K (He.ga K "is_machine")) ["value"] (spOf ⟨K, w⟩ 1 (fBody 5 (b_is_machine c))) :=
  fn_okD (fn_is_machine Z) sc_is_machine rfl fun cdv A outer s H E hr tk po => iss_cons (is_if (it_w (iw_or (it_not (it_val (ie_isi (x := "") rfl (z_isinstance Z) rfl (z_tuple Z) (by decide +kernel) (ib_of (ie_var (pv 0)))))) (iw_or (it_cmp (op_neD hr.units) sp_ne (ib_of (ie_b1 call_len sp_len rfl (z_len Z) boot_len (ib_of (ie_var (pv 0))))) (ib_of (ie_int)) (nomark _)) (iw_or (it_not (it_val (ie_isi (x := "") rfl (z_isinstance Z) rfl (z_tuple Z) (by decide +kernel) (ib_of (ie_ix (ib_of (ie_var (pv 0))) (ib_of (ie_int)) (fun _ _ => rfl)))))) (iw_or1 (it_cmp op_gt sp_gt (ib_of (ie_b1 call_len sp_len rfl (z_len Z) boot_len (ib_of (ie_ix (ib_of (ie_var (pv 0))) (ib_of (ie_int)) (fun _ _ => rfl))))) (ib_of (ie_int)) (nomark _))))))) (iss_one (is_ret (ie_bl))) (iss_nil)) (iss_cons (is_if (it_w (iw_or (it_not (it_val (ie_b1 (cr_all rfl) sp_all rfl (z_all Z) (by decide +kernel) (ib_of (ie_frz (if_cq [("name", 1)] rfl rfl sc_is_machine.nd (iib_of (ii_x (ie_ix (ib_of (ie_var (pv 0))) (ib_of (ie_int)) (fun _ _ => rfl)))) (blkOk_by (N := N_is_machine) (sc := defScope s_is_machine) (by decide +kernel)) (fun _ _ _ _ _ => ig_name (i := 1) sc_is_machine.nd rfl (by first | exact Or.inl rfl | exact Or.inr rfl)) (fun _ _ _ _ _ => its_nil) (fun _ _ _ _ _ => ie_call takes0 (ih .f_is_name) hr rfl (mg_is_name Z) (kp_is_name Z) (bd_is_name Z) (am_cons (am_nil)) (ia_cons (ie_var (pv 1)) (ia_nil))) (by decide))))))) (iw_or1 (it_cmp (op_neD hr.units) sp_ne (ib_of (ie_lenSet rfl rfl (z_len Z) rfl (z_set Z) (ib_of (ie_ix (ib_of (ie_var (pv 0))) (ib_of (ie_int)) (fun _ _ => rfl))))) (ib_of (ie_b1 call_len sp_len rfl (z_len Z) boot_len (ib_of (ie_ix (ib_of (ie_var (pv 0))) (ib_of (ie_int)) (fun _ _ => rfl))))) (nomark _))))) (iss_one (is_ret (ie_bl))) (iss_nil)) (iss_cons (is_set (i := 2) sc_is_machine.nd rfl (by first | exact Or.inl rfl | exact Or.inr rfl) (ie_ix (ib_of (ie_var (pv 0))) (ib_of (ie_int)) (fun _ _ => rfl))) (iss_cons (is_if (it_w (iw_or (it_not (it_val (ie_isi (x := "") rfl (z_isinstance Z) rfl (z_tuple Z) (by decide +kernel) (ib_of (ie_var (pv 2)))))) (iw_or (it_cmp op_gt sp_gt (ib_of (ie_b1 call_len sp_len rfl (z_len Z) boot_len (ib_of (ie_var (pv 2))))) (ib_of (ie_gint rfl (k_MOST_STATES Z))) (nomark _)) (iw_or1 (it_not (it_val (ie_call tk (ih .f_is_number) hr rfl (mg_is_number Z) (kp_is_number Z) (bd_is_number Z) (am_cons (am_cons (am_nil))) (ia_cons (ie_ix (ib_of (ie_var (pv 0))) (ib_of (ie_int)) (fun _ _ => rfl)) (ia_cons (ie_b1 call_len sp_len rfl (z_len Z) boot_len (ib_of (ie_var (pv 2)))) (ia_nil)))))))))) (iss_one (is_ret (ie_bl))) (iss_nil)) (iss_cons (is_setO (i := 3) sc_is_machine.nd rfl (by first | exact Or.inl rfl | exact Or.inr rfl) (if_lst (ia_nil))) (iss_cons (is_for po rfl (ii_x (ie_var (pv 2))) (ig_name (i := 4) sc_is_machine.nd rfl (by first | exact Or.inl rfl | exact Or.inr rfl)) (iss_cons (is_if (it_w (iw_or (it_not (it_val (ie_isi (x := "") rfl (z_isinstance Z) rfl (z_tuple Z) (by decide +kernel) (ib_of (ie_var (pv 4)))))) (iw_or (it_cmp (op_neD hr.units) sp_ne (ib_of (ie_b1 call_len sp_len rfl (z_len Z) boot_len (ib_of (ie_var (pv 4))))) (ib_of (ie_int)) (nomark _)) (iw_or1 (it_not (it_val (ie_call tk (ih .f_is_number) hr rfl (mg_is_number Z) (kp_is_number Z) (bd_is_number Z) (am_cons (am_cons (am_nil))) (ia_cons (ie_ix (ib_of (ie_var (pv 4))) (ib_of (ie_int)) (fun _ _ => rfl)) (ia_cons (ie_op op_add4 sp_add (ib_of (ie_gint rfl (k_MOST_PLACES Z))) (ib_of (ie_int))) (ia_nil)))))))))) (iss_one (is_ret (ie_bl))) (iss_nil)) (iss_one (is_appO (pv 3) (ie_ix (ib_of (ie_var (pv 4))) (ib_of (ie_int)) (fun _ _ => rfl)))))) (iss_cons (is_if (it_cmp (op_neD hr.units) sp_ne (ib_of (ie_ix (ib_brw (pv 3)) (ib_of (ie_ix (ib_of (ie_var (pv 0))) (ib_of (ie_int)) (fun _ _ => rfl))) (fun _ _ => rfl))) (ib_of (ie_int)) (nomark _)) (iss_one (is_ret (ie_bl))) (iss_nil)) (iss_one (is_frz (i := 3) (is_ret (ie_b1 (cr_all rfl) sp_all rfl (z_all Z) (by decide +kernel) (ib_of (ie_frz (if_cq [("state", 4)] rfl rfl sc_is_machine.nd (iib_of (ii_x (ie_var (pv 2)))) (blkOk_by (N := N_is_machine) (sc := defScope s_is_machine) (by decide +kernel)) (fun _ _ _ _ _ => ig_name (i := 4) sc_is_machine.nd rfl (by first | exact Or.inl rfl | exact Or.inr rfl)) (fun _ _ _ _ _ => its_nil) (fun _ _ _ _ _ => ie_call takes0 (ih .f_is_tree) hr rfl (mg_is_tree Z) (kp_is_tree Z) (bd_is_tree Z) (am_cons (am_cons (am_cons (am_cons (am_nil))))) (ia_cons (ie_ix (ib_of (ie_var (pv 4))) (ib_of (ie_int)) (fun _ _ => rfl)) (ia_cons (ie_tup (ia_cons (ie_ix (ib_of (ie_var (pv 4))) (ib_of (ie_int)) (fun _ _ => rfl)) (ia_cons (ie_b1 call_len sp_len rfl (z_len Z) boot_len (ib_of (ie_ix (ib_of (ie_var (pv 0))) (ib_of (ie_int)) (fun _ _ => rfl)))) (ia_cons (ie_var (pv 3)) (ia_nil))))) (ia_cons (ie_frz (if_lst (ia_nil))) (ia_cons (ie_int) (ia_nil)))))) (by decide))))))))))))))
def b_objects_of (c : Call) : SM := sSeq (sSet 5 (eFrz (fDict0))) (sSeq (sFor (iR1 (eOp1 opLen (eVar 3))) (gN 6) (sPutL (eVar 5) (eTup (aCons (eC (.str "place")) (aCons (eVar 6) (aNil)))) (eOp2 opIx (eVar 3) (eVar 6)))) (sSeq (sFor (iR1 (eOp1 opLen (eOp2 opIx (eVar 0) (eC (.int 0))))) (gN 6) (sSeq (sSet 7 (eTup (aCons (eVar 1) (aCons (eTup (aCons (eC (.str "name")) (aCons (eOp2 opIx (eOp2 opIx (eVar 0) (eC (.int 0))) (eVar 6)) (aNil)))) (aNil))))) (sSeq (sPutL (eVar 4) (eVar 7) (eOp2 opIx (eOp2 opIx (eVar 2) (eC (.int 0))) (eVar 6))) (sPutL (eVar 5) (eTup (aCons (eC (.str "parameter")) (aCons (eVar 6) (aNil)))) (eIf (tV (eOp2 opEq2 (eOp2 opIx (eOp2 opIx (eVar 2) (eC (.int 0))) (eVar 6)) (eC (.str "n")))) (eTup (aCons (eC (.str "none")) (aNil))) (eTup (aCons (eC (.str "object")) (aCons (eVar 7) (aNil))))))))) (sRet (eVar 5))))
theorem ok_objects_of (Z : All K w mg) (ih : ∀ f, FnOk P w K mg base (L2.CX P w) n (He.ga K (nm f)) (fdAt K (He.ga K (nm f))) (prm f) (spOf ⟨K, w⟩ (prm f).length (c f))) : FnOk P w K mg base (L2.CX P w) (n + 1) (He.ga K "objects_of") (fdAt K (He.ga K "objects_of")) ["machine", "number", "call", "places", "kinds"] (spOf ⟨K, w⟩ 5 (fBody 8 (b_objects_of c))) :=
  fn_okD (fn_objects_of Z) sc_objects_of rfl fun cdv A outer s H E hr tk po => iss_cons (is_set (i := 5) sc_objects_of.nd rfl (by first | exact Or.inl rfl | exact Or.inr rfl) (ie_frz (if_dict0))) (iss_cons (is_for po rfl (ii_r1 rfl (z_range Z) (ie_b1 call_len sp_len rfl (z_len Z) boot_len (ib_of (ie_var (pv 3))))) (ig_name (i := 6) sc_objects_of.nd rfl (by first | exact Or.inl rfl | exact Or.inr rfl)) (iss_one (is_putL (ie_var (pv 5)) (ie_tup (ia_cons (ie_str) (ia_cons (ie_var (pv 6)) (ia_nil)))) (ie_ix (ib_of (ie_var (pv 3))) (ib_of (ie_var (pv 6))) (fun _ _ => rfl))))) (iss_cons (is_for po rfl (ii_r1 rfl (z_range Z) (ie_b1 call_len sp_len rfl (z_len Z) boot_len (ib_of (ie_ix (ib_of (ie_var (pv 0))) (ib_of (ie_int)) (fun _ _ => rfl))))) (ig_name (i := 6) sc_objects_of.nd rfl (by first | exact Or.inl rfl | exact Or.inr rfl)) (iss_cons (is_set (i := 7) sc_objects_of.nd rfl (by first | exact Or.inl rfl | exact Or.inr rfl) (ie_tup (ia_cons (ie_var (pv 1)) (ia_cons (ie_tup (ia_cons (ie_str) (ia_cons (ie_ix (ib_of (ie_ix (ib_of (ie_var (pv 0))) (ib_of (ie_int)) (fun _ _ => rfl))) (ib_of (ie_var (pv 6))) (fun _ _ => rfl)) (ia_nil)))) (ia_nil))))) (iss_cons (is_putL (ie_var (pv 4)) (ie_var (pv 7)) (ie_ix (ib_of (ie_ix (ib_of (ie_var (pv 2))) (ib_of (ie_int)) (fun _ _ => rfl))) (ib_of (ie_var (pv 6))) (fun _ _ => rfl))) (iss_one (is_putL (ie_var (pv 5)) (ie_tup (ia_cons (ie_str) (ia_cons (ie_var (pv 6)) (ia_nil)))) (ie_if (it_cmp (op_eqL hr.units) sp_eq2 (ib_of (ie_ix (ib_of (ie_ix (ib_of (ie_var (pv 2))) (ib_of (ie_int)) (fun _ _ => rfl))) (ib_of (ie_var (pv 6))) (fun _ _ => rfl))) (ib_of (ie_str)) (nomark _)) (ie_tup (ia_cons (ie_str) (ia_nil))) (ie_tup (ia_cons (ie_str) (ia_cons (ie_var (pv 7)) (ia_nil)))))))))) (iss_one (is_ret (ie_var (pv 5))))))
def b_run_machine (c : Call) : SM := sSeq (sIf (tNotM (tV (eCall (c .f_is_machine) (aCons (eVar 0) (aNil))))) (sRaise "InvalidMachine") (sNil)) (sSeq (sIf (tOrM (tNotM (tV (eOp1 (opIsi "list") (eVar 1)))) (tNotM (tV (eOp1 opAll (eFrz (fComp (iX (eVar 1)) [2] (gN 2) (tYesM) (eCall (c .f_is_call) (aCons (eVar 2) (aCons (eOp1 opLen (eOp2 opIx (eVar 0) (eC (.int 0)))) (aNil)))))))))) (sRaise "InvalidHistory") (sNil)) (sSeq (sSet 3 (eOp2 opIx (eVar 0) (eC (.int 1)))) (sSeq (sSet 4 (eFrz (fLst (aNil)))) (sSeq (sSet 5 (eFrz (fDict0))) (sSeq (sSetO 6 (fLst (aNil))) (sSeq (sFor (iR1 (eOp1 opLen (eVar 1))) (gN 7) (sSeq (sSet 8 (eCall (c .f_objects_of) (aCons (eVar 0) (aCons (eVar 7) (aCons (eOp2 opIx (eVar 1) (eVar 7)) (aCons (eVar 4) (aCons (eVar 5) (aNil)))))))) (sSeq (sBad) (sSeq (sBad) (sSeq (sIf (tV (eOp2 opIsN (eVar 10) (eC .non))) (sBad) (sNil)) (sSeq (sSet 11 (eOp2 opIx (eVar 10) (eC (.int 1)))) (sSeq (sIf (tV (eOp2 opEq2 (eOp2 opIx (eVar 11) (eC (.int 0))) (eC (.str "value")))) (sBad) (sNil)) (sSeq (sBad) (sSeq (sBad) (sSet 3 (eOp2 opIx (eVar 10) (eC (.int 2))))))))))))) (sRetO 6)))))))
theorem ok_run_machine (Z : All K w mg) (ih : ∀ f, FnOk P w K mg base (L2.CX P w) n (He.ga K (nm f)) (fdAt K (He.ga K (nm f))) (prm f) (spOf ⟨K, w⟩ (prm f).length (c f))) : FnOk P w K mg base (L2.CX P w) (n + 1) (He.ga K "run_machine") (fdAt K (He.ga K "run_machine")) ["machine", "history"] (spOf ⟨K, w⟩ 2 (fBody 13 (b_run_machine c))) :=
  fn_okD (fn_run_machine Z) sc_run_machine rfl fun cdv A outer s H E hr tk po => iss_cons (is_if (it_not (it_val (ie_call tk (ih .f_is_machine) hr rfl (mg_is_machine Z) (kp_is_machine Z) (bd_is_machine Z) (am_cons (am_nil)) (ia_cons (ie_var (pv 0)) (ia_nil))))) (iss_one (is_raise rfl tk (x_InvalidMachine Z).1 (mg_InvalidMachine Z) (x_InvalidMachine Z).2.1 (x_InvalidMachine Z).2.2.1 (x_InvalidMachine Z).2.2.2 rfl)) (iss_nil)) (iss_cons (is_if (it_w (iw_or (it_not (it_val (ie_isi (x := "") rfl (z_isinstance Z) rfl (z_list Z) (by decide +kernel) (ib_of (ie_var (pv 1)))))) (iw_or1 (it_not (it_val (ie_b1 (cr_all rfl) sp_all rfl (z_all Z) (by decide +kernel) (ib_of (ie_frz (if_cq [("call", 2)] rfl rfl sc_run_machine.nd (iib_of (ii_x (ie_var (pv 1)))) (blkOk_by (N := N_run_machine) (sc := defScope s_run_machine) (by decide +kernel)) (fun _ _ _ _ _ => ig_name (i := 2) sc_run_machine.nd rfl (by first | exact Or.inl rfl | exact Or.inr rfl)) (fun _ _ _ _ _ => its_nil) (fun _ _ _ _ _ => ie_call takes0 (ih .f_is_call) hr rfl (mg_is_call Z) (kp_is_call Z) (bd_is_call Z) (am_cons (am_cons (am_nil))) (ia_cons (ie_var (pv 2)) (ia_cons (ie_b1 call_len sp_len rfl (z_len Z) boot_len (ib_of (ie_ix (ib_of (ie_var (pv 0))) (ib_of (ie_int)) (fun _ _ => rfl)))) (ia_nil)))) (by decide)))))))))) (iss_one (is_raise rfl tk (x_InvalidHistory Z).1 (mg_InvalidHistory Z) (x_InvalidHistory Z).2.1 (x_InvalidHistory Z).2.2.1 (x_InvalidHistory Z).2.2.2 rfl)) (iss_nil)) (iss_cons (is_set (i := 3) sc_run_machine.nd rfl (by first | exact Or.inl rfl | exact Or.inr rfl) (ie_ix (ib_of (ie_var (pv 0))) (ib_of (ie_int)) (fun _ _ => rfl))) (iss_cons (is_set (i := 4) sc_run_machine.nd rfl (by first | exact Or.inl rfl | exact Or.inr rfl) (ie_frz (if_lst (ia_nil)))) (iss_cons (is_set (i := 5) sc_run_machine.nd rfl (by first | exact Or.inl rfl | exact Or.inr rfl) (ie_frz (if_dict0))) (iss_cons (is_setO (i := 6) sc_run_machine.nd rfl (by first | exact Or.inl rfl | exact Or.inr rfl) (if_lst (ia_nil))) (iss_cons (is_for po rfl (ii_r1 rfl (z_range Z) (ie_b1 call_len sp_len rfl (z_len Z) boot_len (ib_of (ie_var (pv 1))))) (ig_name (i := 7) sc_run_machine.nd rfl (by first | exact Or.inl rfl | exact Or.inr rfl)) (iss_cons (is_set (i := 8) sc_run_machine.nd rfl (by first | exact Or.inl rfl | exact Or.inr rfl) (ie_call tk (ih .f_objects_of) hr rfl (mg_objects_of Z) (kp_objects_of Z) (bd_objects_of Z) (am_cons (am_cons (am_cons (am_cons (am_cons (am_nil)))))) (ia_cons (ie_var (pv 0)) (ia_cons (ie_var (pv 7)) (ia_cons (ie_ix (ib_of (ie_var (pv 1))) (ib_of (ie_var (pv 7))) (fun _ _ => rfl)) (ia_cons (ie_var (pv 4)) (ia_cons (ie_var (pv 5)) (ia_nil)))))))) (iss_cons (is_bad) (iss_cons (is_bad) (iss_cons (is_if (it_cmp op_isN sp_isN (ib_of (ie_var (pv 10))) (ib_of (ie_non)) (nomark _)) (iss_one (is_bad)) (iss_nil)) (iss_cons (is_set (i := 11) sc_run_machine.nd rfl (by first | exact Or.inl rfl | exact Or.inr rfl) (ie_ix (ib_of (ie_var (pv 10))) (ib_of (ie_int)) (fun _ _ => rfl))) (iss_cons (is_if (it_cmp (op_eqL hr.units) sp_eq2 (ib_of (ie_ix (ib_of (ie_var (pv 11))) (ib_of (ie_int)) (fun _ _ => rfl))) (ib_of (ie_str)) (nomark _)) (iss_one (is_bad)) (iss_nil)) (iss_cons (is_bad) (iss_cons (is_bad) (iss_one (is_set (i := 3) sc_run_machine.nd rfl (by first | exact Or.inl rfl | exact Or.inr rfl) (ie_ix (ib_of (ie_var (pv 10))) (ib_of (ie_int)) (fun _ _ => rfl))))))))))))) (iss_one (is_retO (pv 6)))))))))
def b__law_source (c : Call) : SM := sSeq (sSet 1 (eNew (fSl (eVar 0) (oNo) (oSome (eC (.int 63)))))) (sSeq (sFor (iR1 (eOp1 opLen (eVar 1))) (gN 2) (sIf (tV (eOp2 opGe (eOp1 opAbs (eOp2 opIx (eVar 1) (eVar 2))) (eOp2 opPow (eC (.int 10)) (eC (.int 18))))) (sPutL (eVar 1) (eVar 2) (eOp2 opMod (eOp1 opInt (eOp2 opIx (eVar 1) (eVar 2))) (eOp2 opPow (eOp2 opPow (eC (.int 10)) (eC (.int 60))) (eC (.int 20))))) (sNil))) (sSeq (sIf (tV (eOp2 opEq2 (eVar 1) (eFrz (fLst (aNil))))) (sSet 1 (eNew (fLst (aCons (eC (.int 0)) (aNil))))) (sNil)) (sRetF (fLst (aCons (eVar 1) (aCons (eC (.int 0)) (aNil)))))))
theorem ok__law_source (Z : All K w mg) (ih : ∀ f, FnOk P w K mg base (L2.CX P w) n (He.ga K (nm f)) (fdAt K (He.ga K (nm f))) (prm f) (spOf ⟨K, w⟩ (prm f).length (c f))) : FnOk P w K mg base (L2.CX P w) (n + 1) (He.ga K "_law_source") (fdAt K (He.ga K "_law_source")) ["_law_script"] (spOf ⟨K, w⟩ 1 (fBody 3 (b__law_source c))) :=
  fn_okD (fn__law_source Z) sc__law_source rfl fun cdv A outer s H E hr tk po => iss_cons (is_set (i := 1) sc__law_source.nd rfl (by first | exact Or.inl rfl | exact Or.inr rfl) (ie_new (if_sl (ib_of (ie_var (pv 0))) (io_none) (io_some (ie_int))))) (iss_cons (is_for po rfl (ii_r1 rfl (z_range Z) (ie_b1 call_len sp_len rfl (z_len Z) boot_len (ib_of (ie_var (pv 1))))) (ig_name (i := 2) sc__law_source.nd rfl (by first | exact Or.inl rfl | exact Or.inr rfl)) (iss_one (is_if (it_cmp op_ge sp_ge (ib_of (ie_b1 call_abs sp_abs rfl (z_abs Z) (by decide +kernel) (ib_of (ie_ix (ib_of (ie_var (pv 1))) (ib_of (ie_var (pv 2))) (fun _ _ => rfl))))) (ib_of (ie_op op_powB sp_pow (ib_of (ie_int)) (ib_of (ie_int)))) (nomark _)) (iss_one (is_putL (ie_var (pv 1)) (ie_var (pv 2)) (ie_op op_mod sp_mod (ib_of (ie_t1 call_int1 sp_int rfl (z_int Z) (by decide +kernel) (ib_of (ie_ix (ib_of (ie_var (pv 1))) (ib_of (ie_var (pv 2))) (fun _ _ => rfl))))) (ib_of (ie_op op_powB sp_pow (ib_of (ie_op op_powB sp_pow (ib_of (ie_int)) (ib_of (ie_int)))) (ib_of (ie_int))))))) (iss_nil)))) (iss_cons (is_if (it_cmp (op_eqL hr.units) sp_eq2 (ib_of (ie_var (pv 1))) (ib_of (ie_frz (if_lst (ia_nil)))) (nomark _)) (iss_one (is_set (i := 1) sc__law_source.nd rfl (by first | exact Or.inl rfl | exact Or.inr rfl) (ie_new (if_lst (ia_cons (ie_int) (ia_nil)))))) (iss_nil)) (iss_one (is_retF (if_lst (ia_cons (ie_var (pv 1)) (ia_cons (ie_int) (ia_nil))))))))
def b__law_draw (c : Call) : SM := sSeq (sUnp (eVar 0) ([2, 3])) (sSeq (sSet 4 (eOp2 opMod (eOp1 opInt (eVar 3)) (eOp1 opLen (eVar 2)))) (sSeq (sSet 5 (eOp2 opIx (eVar 2) (eVar 4))) (sSeq (sPutL (eVar 0) (eC (.int 1)) (eOp2 opAdd (eVar 3) (eC (.int 1)))) (sSeq (sIf (tV (eOp2 opGe (eVar 5) (eOp2 opPow (eC (.int 10)) (eC (.int 18))))) (sSeq (sPutL (eVar 2) (eVar 4) (eOp2 opFdiv (eVar 5) (eVar 1))) (sRet (eOp2 opMod (eOp1 opInt (eVar 5)) (eVar 1)))) (sNil)) (sSeq (sSet 6 (eOp2 opMod (eOp1 opInt (eOp2 opAdd (eOp2 opAdd (eOp2 opMul (eOp2 opMod (eOp1 opInt (eVar 5)) (eC (.int 2147483629))) (eC (.int 48271))) (eOp2 opMul (eOp2 opMul (eVar 3) (eVar 3)) (eC (.int 69621)))) (eC (.int 11)))) (eC (.int 2147483647)))) (sSeq (sSet 6 (eOp2 opMod (eOp1 opInt (eOp2 opMul (eVar 6) (eVar 6))) (eC (.int 2147483629)))) (sSeq (sSet 6 (eOp2 opMod (eOp1 opInt (eOp2 opMul (eVar 6) (eVar 6))) (eC (.int 2147483587)))) (sRet (eOp2 opMod (eOp1 opInt (eVar 6)) (eVar 1))))))))))
theorem ok__law_draw (Z : All K w mg) (ih : ∀ f, FnOk P w K mg base (L2.CX P w) n (He.ga K (nm f)) (fdAt K (He.ga K (nm f))) (prm f) (spOf ⟨K, w⟩ (prm f).length (c f))) : FnOk P w K mg base (L2.CX P w) (n + 1) (He.ga K "_law_draw") (fdAt K (He.ga K "_law_draw")) ["_law_source_here", "_law_limit"] (spOf ⟨K, w⟩ 2 (fBody 7 (b__law_draw c))) :=
  fn_okD (fn__law_draw Z) sc__law_draw rfl fun cdv A outer s H E hr tk po => iss_cons (is_unp rfl (ie_var (pv 0)) (igs_cons (ig_name (i := 2) sc__law_draw.nd rfl (by first | exact Or.inl rfl | exact Or.inr rfl)) (igs_cons (ig_name (i := 3) sc__law_draw.nd rfl (by first | exact Or.inl rfl | exact Or.inr rfl)) (igs_nil)))) (iss_cons (is_set (i := 4) sc__law_draw.nd rfl (by first | exact Or.inl rfl | exact Or.inr rfl) (ie_op op_mod sp_mod (ib_of (ie_t1 call_int1 sp_int rfl (z_int Z) (by decide +kernel) (ib_of (ie_var (pv 3))))) (ib_of (ie_b1 call_len sp_len rfl (z_len Z) boot_len (ib_of (ie_var (pv 2))))))) (iss_cons (is_set (i := 5) sc__law_draw.nd rfl (by first | exact Or.inl rfl | exact Or.inr rfl) (ie_ix (ib_of (ie_var (pv 2))) (ib_of (ie_var (pv 4))) (fun _ _ => rfl))) (iss_cons (is_putL (ie_var (pv 0)) (ie_int) (ie_op op_add4 sp_add (ib_of (ie_var (pv 3))) (ib_of (ie_int)))) (iss_cons (is_if (it_cmp op_ge sp_ge (ib_of (ie_var (pv 5))) (ib_of (ie_op op_powB sp_pow (ib_of (ie_int)) (ib_of (ie_int)))) (nomark _)) (iss_cons (is_putL (ie_var (pv 2)) (ie_var (pv 4)) (ie_op op_fdiv sp_fdiv (ib_of (ie_var (pv 5))) (ib_of (ie_var (pv 1))))) (iss_one (is_ret (ie_op op_mod sp_mod (ib_of (ie_t1 call_int1 sp_int rfl (z_int Z) (by decide +kernel) (ib_of (ie_var (pv 5))))) (ib_of (ie_var (pv 1))))))) (iss_nil)) (iss_cons (is_set (i := 6) sc__law_draw.nd rfl (by first | exact Or.inl rfl | exact Or.inr rfl) (ie_op op_mod sp_mod (ib_of (ie_t1 call_int1 sp_int rfl (z_int Z) (by decide +kernel) (ib_of (ie_op op_add4 sp_add (ib_of (ie_op op_add4 sp_add (ib_of (ie_op op_mul sp_mul (ib_of (ie_op op_mod sp_mod (ib_of (ie_t1 call_int1 sp_int rfl (z_int Z) (by decide +kernel) (ib_of (ie_var (pv 5))))) (ib_of (ie_int)))) (ib_of (ie_int)))) (ib_of (ie_op op_mul sp_mul (ib_of (ie_op op_mul sp_mul (ib_of (ie_var (pv 3))) (ib_of (ie_var (pv 3))))) (ib_of (ie_int)))))) (ib_of (ie_int)))))) (ib_of (ie_int)))) (iss_cons (is_set (i := 6) sc__law_draw.nd rfl (by first | exact Or.inl rfl | exact Or.inr rfl) (ie_op op_mod sp_mod (ib_of (ie_t1 call_int1 sp_int rfl (z_int Z) (by decide +kernel) (ib_of (ie_op op_mul sp_mul (ib_of (ie_var (pv 6))) (ib_of (ie_var (pv 6))))))) (ib_of (ie_int)))) (iss_cons (is_set (i := 6) sc__law_draw.nd rfl (by first | exact Or.inl rfl | exact Or.inr rfl) (ie_op op_mod sp_mod (ib_of (ie_t1 call_int1 sp_int rfl (z_int Z) (by decide +kernel) (ib_of (ie_op op_mul sp_mul (ib_of (ie_var (pv 6))) (ib_of (ie_var (pv 6))))))) (ib_of (ie_int)))) (iss_one (is_ret (ie_op op_mod sp_mod (ib_of (ie_t1 call_int1 sp_int rfl (z_int Z) (by decide +kernel) (ib_of (ie_var (pv 6))))) (ib_of (ie_var (pv 1)))))))))))))
def b__law_pick (c : Call) : SM := sRet (eOp2 opIx (eVar 1) (eCall (c .f__law_draw) (aCons (eVar 0) (aCons (eOp1 opLen (eVar 1)) (aNil)))))
theorem ok__law_pick (Z : All K w mg) (ih : ∀ f, FnOk P w K mg base (L2.CX P w) n (He.ga K (nm f)) (fdAt K (He.ga K (nm f))) (prm f) (spOf ⟨K, w⟩ (prm f).length (c f))) : FnOk P w K mg base (L2.CX P w) (n + 1) (He.ga K "_law_pick") (fdAt K (He.ga K "_law_pick")) ["_law_source_here", "_law_values"] (spOf ⟨K, w⟩ 2 (fBody 2 (b__law_pick c))) :=
  fn_okD (fn__law_pick Z) sc__law_pick rfl fun cdv A outer s H E hr tk po => iss_one (is_ret (ie_ix (ib_of (ie_var (pv 1))) (ib_of (ie_call tk (ih .f__law_draw) hr rfl (mg__law_draw Z) (kp__law_draw Z) (bd__law_draw Z) (am_cons (am_cons (am_nil))) (ia_cons (ie_var (pv 0)) (ia_cons (ie_b1 call_len sp_len rfl (z_len Z) boot_len (ib_of (ie_var (pv 1)))) (ia_nil))))) (fun _ _ => rfl)))
def b__law_word (c : Call) : SM := sSeq (sSet 1 (eC .non)) (sSeq (sTry (fun c => xt_OperandError.lookup c) 2 (sDrop (eCall (c .f_run_machine) (aCons (eVar 0) (aCons (eFrz (fLst (aNil))) (aNil))))) (sSet 1 (eVar 2))) (sSeq (sIf (tV (eOp2 opIsN (eVar 1) (eC .non))) (sRet (eC (.str "good"))) (sNil)) (sSeq (sIf (tOrM (tV (eOp1 (opIsX fun c => xt_InvalidHistory.lookup c) (eVar 1))) (tNotM (tV (eOp1 (opIsX fun c => xt_ValueError.lookup c) (eVar 1))))) (sRet (eC (.str "other"))) (sNil)) (sRet (eOp2 opIx (eFrz (fLst (aCons (eC (.str "other")) (aCons (eC (.str "machine")) (aNil))))) (eOp1 opInt (eOp1 (opIsX fun c => xt_InvalidMachine.lookup c) (eVar 1))))))))
theorem ok__law_word (Z : All K w mg) (ih : ∀ f, FnOk P w K mg base (L2.CX P w) n (He.ga K (nm f)) (fdAt K (He.ga K (nm f))) (prm f) (spOf ⟨K, w⟩ (prm f).length (c f))) : FnOk P w K mg base (L2.CX P w) (n + 1) (He.ga K "_law_word") (fdAt K (He.ga K "_law_word")) ["_law_made"] (spOf ⟨K, w⟩ 1 (fBody 3 (b__law_word c))) :=
  fn_okD (fn__law_word Z) sc__law_word rfl fun cdv A outer s H E hr tk po => iss_cons (is_set (i := 1) sc__law_word.nd rfl (by first | exact Or.inl rfl | exact Or.inr rfl) (ie_non)) (iss_cons (is_try rfl rfl rfl sc__law_word.nd (i := 2) rfl rfl ⟨rfl, by decide, .inl (mg_OperandError Z)⟩ (exm_OperandError Z) tk (fun W pn xe tk po => iss_one (is_drop (ie_call tk (ih .f_run_machine) hr rfl (mg_run_machine Z) (kp_run_machine Z) (bd_run_machine Z) (am_cons (am_cons (am_nil))) (ia_cons (ie_var (pv 0)) (ia_cons (ie_frz (if_lst (ia_nil))) (ia_nil)))))) (fun a pn => iss_one (is_set (i := 1) sc__law_word.nd rfl (by first | exact Or.inl rfl | exact Or.inr rfl) (ie_var (pv 2))))) (iss_cons (is_if (it_cmp op_isN sp_isN (ib_of (ie_var (pv 1))) (ib_of (ie_non)) (nomark _)) (iss_one (is_ret (ie_str))) (iss_nil)) (iss_cons (is_if (it_w (iw_or (it_val (ie_isX (is_InvalidHistory Z) rfl (z_isinstance Z) rfl (mg_InvalidHistory Z) (ib_of (ie_var (pv 1))))) (iw_or1 (it_not (it_val (ie_isV (is_ValueError Z) rfl (z_isinstance Z) rfl (z_ValueError Z) (by decide +kernel) (ib_of (ie_var (pv 1))))))))) (iss_one (is_ret (ie_str))) (iss_nil)) (iss_one (is_ret (ie_ix (ib_of (ie_frz (if_lst (ia_cons (ie_str) (ia_cons (ie_str) (ia_nil)))))) (ib_of (ie_t1 call_int1 sp_int rfl (z_int Z) (by decide +kernel) (ib_of (ie_isX (is_InvalidMachine Z) rfl (z_isinstance Z) rfl (mg_InvalidMachine Z) (ib_of (ie_var (pv 1))))))) (fun _ _ => rfl)))))))
def b__law_leaf (c : Call) : SM := sRet (eTup (aCons (eC (.str "end")) (aCons (eTup (aCons (eC (.str "value")) (aCons (eTup (aCons (eC (.str "none")) (aNil))) (aNil)))) (aCons (eC (.int 0)) (aCons (eTup (aNil)) (aNil))))))
theorem ok__law_leaf (Z : All K w mg) (ih : ∀ f, FnOk P w K mg base (L2.CX P w) n (He.ga K (nm f)) (fdAt K (He.ga K (nm f))) (prm f) (spOf ⟨K, w⟩ (prm f).length (c f))) : FnOk P w K mg base (L2.CX P w) (n + 1) (He.ga K "_law_leaf") (fdAt K (He.ga K "_law_leaf")) [] (spOf ⟨K, w⟩ 0 (fBody 0 (b__law_leaf c))) :=
  fn_okD (fn__law_leaf Z) sc__law_leaf rfl fun cdv A outer s H E hr tk po => iss_one (is_ret (ie_tup (ia_cons (ie_str) (ia_cons (ie_tup (ia_cons (ie_str) (ia_cons (ie_tup (ia_cons (ie_str) (ia_nil))) (ia_nil)))) (ia_cons (ie_int) (ia_cons (ie_tup (ia_nil)) (ia_nil)))))))
def b__law_with_tree (c : Call) : SM := sSeq (sSet 2 (eCall0 (c .f__law_leaf))) (sSeq (sFor (iR1 (eCall (c .f__law_draw) (aCons (eVar 0) (aCons (eC (.int 4)) (aNil))))) (gN 3) (sSeq (sSet 4 (eCall (c .f__law_draw) (aCons (eVar 0) (aCons (eC (.int 3)) (aNil))))) (sSeq (sSetO 5 (fLst (aCons (eVar 2) (aCons (eVar 2) (aCons (eVar 2) (aNil)))))) (sSeq (sPutO 5 (eVar 4) (eVar 1)) (sSet 1 (eTup (aCons (eC (.str "test")) (aCons (eTup (aCons (eC (.str "parameter")) (aCons (eC (.int 0)) (aNil)))) (aCons (eOp1 opTuple (eBrw 5)) (aNil)))))))))) (sSeq (sUnp (eTup (aCons (eTup (aCons (eC (.str "end")) (aCons (eTup (aCons (eC (.str "value")) (aCons (eTup (aCons (eC (.str "place")) (aCons (eC (.int 0)) (aNil)))) (aNil)))) (aCons (eC (.int 0)) (aCons (eTup (aNil)) (aNil)))))) (aCons (eTup (aCons (eC (.str "end")) (aCons (eTup (aCons (eC (.str "value")) (aCons (eTup (aCons (eC (.str "place")) (aCons (eC (.int 1)) (aNil)))) (aNil)))) (aCons (eC (.int 0)) (aCons (eTup (aNil)) (aNil)))))) (aNil)))) ([6, 7])) (sRet (eTup (aCons (eTup (aCons (eC (.str "p")) (aNil))) (aCons (eC (.int 0)) (aCons (eTup (aCons (eTup (aCons (eC (.int 0)) (aCons (eVar 1) (aNil)))) (aCons (eTup (aCons (eC (.int 1)) (aCons (eVar 6) (aNil)))) (aCons (eTup (aCons (eC (.int 2)) (aCons (eVar 7) (aNil)))) (aNil))))) (aNil))))))))
theorem ok__law_with_tree (Z : All K w mg) (ih : ∀ f, FnOk P w K mg base (L2.CX P w) n (He.ga K (nm f)) (fdAt K (He.ga K (nm f))) (prm f) (spOf ⟨K, w⟩ (prm f).length (c f))) : FnOk P w K mg base (L2.CX P w) (n + 1) (He.ga K "_law_with_tree") (fdAt K (He.ga K "_law_with_tree")) ["_law_source_here", "_law_tree"] (spOf ⟨K, w⟩ 2 (fBody 8 (b__law_with_tree c))) :=
  fn_okD (fn__law_with_tree Z) sc__law_with_tree rfl fun cdv A outer s H E hr tk po => iss_cons (is_set (i := 2) sc__law_with_tree.nd rfl (by first | exact Or.inl rfl | exact Or.inr rfl) (ie_call0 (ih .f__law_leaf) hr rfl (mg__law_leaf Z) (kp__law_leaf Z) (bd__law_leaf Z))) (iss_cons (is_for po rfl (ii_r1 rfl (z_range Z) (ie_call tk (ih .f__law_draw) hr rfl (mg__law_draw Z) (kp__law_draw Z) (bd__law_draw Z) (am_cons (am_cons (am_nil))) (ia_cons (ie_var (pv 0)) (ia_cons (ie_int) (ia_nil))))) (ig_name (i := 3) sc__law_with_tree.nd rfl (by first | exact Or.inl rfl | exact Or.inr rfl)) (iss_cons (is_set (i := 4) sc__law_with_tree.nd rfl (by first | exact Or.inl rfl | exact Or.inr rfl) (ie_call tk (ih .f__law_draw) hr rfl (mg__law_draw Z) (kp__law_draw Z) (bd__law_draw Z) (am_cons (am_cons (am_nil))) (ia_cons (ie_var (pv 0)) (ia_cons (ie_int) (ia_nil))))) (iss_cons (is_setO (i := 5) sc__law_with_tree.nd rfl (by first | exact Or.inl rfl | exact Or.inr rfl) (if_lst (ia_cons (ie_var (pv 2)) (ia_cons (ie_var (pv 2)) (ia_cons (ie_var (pv 2)) (ia_nil)))))) (iss_cons (is_putO (pv 5) (ie_var (pv 4)) (ie_var (pv 1))) (iss_one (is_set (i := 1) sc__law_with_tree.nd rfl (by first | exact Or.inl rfl | exact Or.inr rfl) (ie_tup (ia_cons (ie_str) (ia_cons (ie_tup (ia_cons (ie_str) (ia_cons (ie_int) (ia_nil)))) (ia_cons (ie_t1 call_tuple_of sp_tuple rfl (z_tuple Z) (by decide +kernel) (ib_brw (pv 5))) (ia_nil))))))))))) (iss_cons (is_unp rfl (ie_tup (ia_cons (ie_tup (ia_cons (ie_str) (ia_cons (ie_tup (ia_cons (ie_str) (ia_cons (ie_tup (ia_cons (ie_str) (ia_cons (ie_int) (ia_nil)))) (ia_nil)))) (ia_cons (ie_int) (ia_cons (ie_tup (ia_nil)) (ia_nil)))))) (ia_cons (ie_tup (ia_cons (ie_str) (ia_cons (ie_tup (ia_cons (ie_str) (ia_cons (ie_tup (ia_cons (ie_str) (ia_cons (ie_int) (ia_nil)))) (ia_nil)))) (ia_cons (ie_int) (ia_cons (ie_tup (ia_nil)) (ia_nil)))))) (ia_nil)))) (igs_cons (ig_name (i := 6) sc__law_with_tree.nd rfl (by first | exact Or.inl rfl | exact Or.inr rfl)) (igs_cons (ig_name (i := 7) sc__law_with_tree.nd rfl (by first | exact Or.inl rfl | exact Or.inr rfl)) (igs_nil)))) (iss_one (is_ret (ie_tup (ia_cons (ie_tup (ia_cons (ie_str) (ia_nil))) (ia_cons (ie_int) (ia_cons (ie_tup (ia_cons (ie_tup (ia_cons (ie_int) (ia_cons (ie_var (pv 1)) (ia_nil)))) (ia_cons (ie_tup (ia_cons (ie_int) (ia_cons (ie_var (pv 6)) (ia_nil)))) (ia_cons (ie_tup (ia_cons (ie_int) (ia_cons (ie_var (pv 7)) (ia_nil)))) (ia_nil))))) (ia_nil)))))))))
def b__law_behind (c : Call) : SM := sRet (eTup (aCons (eC (.str "ask")) (aCons (eC (.str "f")) (aCons (eTup (aNil)) (aCons (eTup (aCons (eVar 0) (aCons (eCall0 (c .f__law_leaf)) (aNil)))) (aNil))))))
theorem ok__law_behind (Z : All K w mg) (ih : ∀ f, FnOk P w K mg base (L2.CX P w) n (He.ga K (nm f)) (fdAt K (He.ga K (nm f))) (prm f) (spOf ⟨K, w⟩ (prm f).length (c f))) : FnOk P w K mg base (L2.CX P w) (n + 1) (He.ga K "_law_behind") (fdAt K (He.ga K "_law_behind")) ["_law_tree"] (spOf ⟨K, w⟩ 1 (fBody 1 (b__law_behind c))) :=
  fn_okD (fn__law_behind Z) sc__law_behind rfl fun cdv A outer s H E hr tk po => iss_one (is_ret (ie_tup (ia_cons (ie_str) (ia_cons (ie_str) (ia_cons (ie_tup (ia_nil)) (ia_cons (ie_tup (ia_cons (ie_var (pv 0)) (ia_cons (ie_call0 (ih .f__law_leaf) hr rfl (mg__law_leaf Z) (kp__law_leaf Z) (bd__law_leaf Z)) (ia_nil)))) (ia_nil)))))))
def b__law_spots (c : Call) : SM := sSeq (sPar (aCons (eTup (aCons (eC (.str "none")) (aNil))) (aCons (eCall0 (c .f__law_leaf)) (aCons (eTup (aCons (eC (.str "event")) (aCons (eC (.int 0)) (aNil)))) (aNil)))) [1, 2, 3]) (sSeq (sSet 4 (eFrz (fLst (aCons (eTup (aCons (eC (.str "end")) (aCons (eTup (aCons (eC (.str "value")) (aCons (eVar 0) (aNil)))) (aCons (eC (.int 0)) (aCons (eTup (aNil)) (aNil)))))) (aCons (eTup (aCons (eC (.str "ask")) (aCons (eC (.str "g")) (aCons (eTup (aCons (eVar 0) (aNil))) (aCons (eTup (aCons (eVar 2) (aCons (eVar 2) (aNil)))) (aNil)))))) (aNil)))))) (sSeq (sSet 4 (eFrz (fAdd (eVar 4) (eFrz (fLst (aCons (eTup (aCons (eC (.str "ask")) (aCons (eC (.str "<")) (aCons (eTup (aCons (eVar 1) (aCons (eVar 0) (aNil)))) (aCons (eTup (aCons (eVar 2) (aCons (eVar 2) (aNil)))) (aNil)))))) (aCons (eTup (aCons (eC (.str "ask")) (aCons (eC (.str "h")) (aCons (eTup (aCons (eVar 1) (aCons (eVar 3) (aCons (eVar 0) (aNil))))) (aCons (eTup (aCons (eVar 2) (aCons (eVar 2) (aNil)))) (aNil)))))) (aNil)))))))) (sSeq (sSet 4 (eFrz (fAdd (eVar 4) (eFrz (fLst (aCons (eTup (aCons (eC (.str "test")) (aCons (eVar 0) (aCons (eTup (aCons (eVar 2) (aCons (eVar 2) (aCons (eVar 2) (aNil))))) (aNil))))) (aCons (eTup (aCons (eC (.str "end")) (aCons (eTup (aCons (eC (.str "value")) (aCons (eVar 1) (aNil)))) (aCons (eC (.int 1)) (aCons (eTup (aCons (eVar 0) (aNil))) (aNil)))))) (aNil)))))))) (sSeq (sSet 4 (eFrz (fAdd (eVar 4) (eFrz (fLst (aCons (eTup (aCons (eC (.str "end")) (aCons (eTup (aCons (eC (.str "value")) (aCons (eVar 1) (aNil)))) (aCons (eC (.int 2)) (aCons (eTup (aCons (eVar 0) (aCons (eVar 3) (aNil)))) (aNil)))))) (aCons (eTup (aCons (eC (.str "end")) (aCons (eTup (aCons (eC (.str "value")) (aCons (eVar 1) (aNil)))) (aCons (eC (.int 2)) (aCons (eTup (aCons (eVar 3) (aCons (eVar 0) (aNil)))) (aNil)))))) (aNil)))))))) (sRetF (fComp (iX (eVar 4)) [5] (gN 5) (tYesM) (eCall (c .f__law_behind) (aCons (eVar 5) (aNil)))))))))
theorem ok__law_spots (Z : All K w mg) (ih : ∀ f, FnOk P w K mg base (L2.CX P w) n (He.ga K (nm f)) (fdAt K (He.ga K (nm f))) (prm f) (spOf ⟨K, w⟩ (prm f).length (c f))) : FnOk P w K mg base (L2.CX P w) (n + 1) (He.ga K "_law_spots") (fdAt K (He.ga K "_law_spots")) ["_law_operand"] (spOf ⟨K, w⟩ 1 (fBody 6 (b__law_spots c))) :=
  fn_okD (fn__law_spots Z) sc__law_spots rfl fun cdv A outer s H E hr tk po => iss_cons (is_par3 (i := 1) (j := 2) (l := 3) rfl sc__law_spots.nd rfl rfl rfl (by decide) (by decide) (by decide) rfl rfl rfl (ia_cons (ie_tup (ia_cons (ie_str) (ia_nil))) (ia_cons (ie_call0 (ih .f__law_leaf) hr rfl (mg__law_leaf Z) (kp__law_leaf Z) (bd__law_leaf Z)) (ia_cons (ie_tup (ia_cons (ie_str) (ia_cons (ie_int) (ia_nil)))) (ia_nil)))) rfl) (iss_cons (is_set (i := 4) sc__law_spots.nd rfl (by first | exact Or.inl rfl | exact Or.inr rfl) (ie_frz (if_lst (ia_cons (ie_tup (ia_cons (ie_str) (ia_cons (ie_tup (ia_cons (ie_str) (ia_cons (ie_var (pv 0)) (ia_nil)))) (ia_cons (ie_int) (ia_cons (ie_tup (ia_nil)) (ia_nil)))))) (ia_cons (ie_tup (ia_cons (ie_str) (ia_cons (ie_str) (ia_cons (ie_tup (ia_cons (ie_var (pv 0)) (ia_nil))) (ia_cons (ie_tup (ia_cons (ie_var (pv 2)) (ia_cons (ie_var (pv 2)) (ia_nil)))) (ia_nil)))))) (ia_nil)))))) (iss_cons (is_set (i := 4) sc__law_spots.nd rfl (by first | exact Or.inl rfl | exact Or.inr rfl) (ie_frz (if_add (ib_of (ie_var (pv 4))) (ib_of (ie_frz (if_lst (ia_cons (ie_tup (ia_cons (ie_str) (ia_cons (ie_str) (ia_cons (ie_tup (ia_cons (ie_var (pv 1)) (ia_cons (ie_var (pv 0)) (ia_nil)))) (ia_cons (ie_tup (ia_cons (ie_var (pv 2)) (ia_cons (ie_var (pv 2)) (ia_nil)))) (ia_nil)))))) (ia_cons (ie_tup (ia_cons (ie_str) (ia_cons (ie_str) (ia_cons (ie_tup (ia_cons (ie_var (pv 1)) (ia_cons (ie_var (pv 3)) (ia_cons (ie_var (pv 0)) (ia_nil))))) (ia_cons (ie_tup (ia_cons (ie_var (pv 2)) (ia_cons (ie_var (pv 2)) (ia_nil)))) (ia_nil)))))) (ia_nil))))))))) (iss_cons (is_set (i := 4) sc__law_spots.nd rfl (by first | exact Or.inl rfl | exact Or.inr rfl) (ie_frz (if_add (ib_of (ie_var (pv 4))) (ib_of (ie_frz (if_lst (ia_cons (ie_tup (ia_cons (ie_str) (ia_cons (ie_var (pv 0)) (ia_cons (ie_tup (ia_cons (ie_var (pv 2)) (ia_cons (ie_var (pv 2)) (ia_cons (ie_var (pv 2)) (ia_nil))))) (ia_nil))))) (ia_cons (ie_tup (ia_cons (ie_str) (ia_cons (ie_tup (ia_cons (ie_str) (ia_cons (ie_var (pv 1)) (ia_nil)))) (ia_cons (ie_int) (ia_cons (ie_tup (ia_cons (ie_var (pv 0)) (ia_nil))) (ia_nil)))))) (ia_nil))))))))) (iss_cons (is_set (i := 4) sc__law_spots.nd rfl (by first | exact Or.inl rfl | exact Or.inr rfl) (ie_frz (if_add (ib_of (ie_var (pv 4))) (ib_of (ie_frz (if_lst (ia_cons (ie_tup (ia_cons (ie_str) (ia_cons (ie_tup (ia_cons (ie_str) (ia_cons (ie_var (pv 1)) (ia_nil)))) (ia_cons (ie_int) (ia_cons (ie_tup (ia_cons (ie_var (pv 0)) (ia_cons (ie_var (pv 3)) (ia_nil)))) (ia_nil)))))) (ia_cons (ie_tup (ia_cons (ie_str) (ia_cons (ie_tup (ia_cons (ie_str) (ia_cons (ie_var (pv 1)) (ia_nil)))) (ia_cons (ie_int) (ia_cons (ie_tup (ia_cons (ie_var (pv 3)) (ia_cons (ie_var (pv 0)) (ia_nil)))) (ia_nil)))))) (ia_nil))))))))) (iss_one (is_retF (if_cq [("_law_tree", 5)] rfl rfl sc__law_spots.nd (iib_of (ii_x (ie_var (pv 4)))) (blkOk_by (N := N__law_spots) (sc := defScope s__law_spots) (by decide +kernel)) (fun _ _ _ _ _ => ig_name (i := 5) sc__law_spots.nd rfl (by first | exact Or.inl rfl | exact Or.inr rfl)) (fun _ _ _ _ _ => its_nil) (fun _ _ _ _ _ => ie_call takes0 (ih .f__law_behind) hr rfl (mg__law_behind Z) (kp__law_behind Z) (bd__law_behind Z) (am_cons (am_nil)) (ia_cons (ie_var (pv 5)) (ia_nil))) (by decide))))))))
def b__law_operands (c : Call) : SM := sSeq (sSet 1 (eFrz (fLst (aCons (eTup (aCons (eC (.str "place")) (aCons (eC (.int 0)) (aNil)))) (aCons (eTup (aCons (eC (.str "place")) (aCons (eOp2 opPow (eC (.int 10)) (eC (.int 25))) (aNil)))) (aCons (eTup (aCons (eC (.str "parameter")) (aCons (eC (.int 1)) (aNil)))) (aCons (eTup (aCons (eC (.str "parameter")) (aCons (eC (.int 2)) (aNil)))) (aCons (eTup (aCons (eC (.str "parameter")) (aCons (eC (.int 0)) (aCons (eC (.int 0)) (aNil))))) (aCons (eTup (aCons (eC (.str "event")) (aCons (eC (.int 1)) (aNil)))) (aNil)))))))))) (sSeq (sFor (iX (eFrz (fLst (aCons (eC (.str "place")) (aCons (eC (.str "parameter")) (aCons (eC (.str "event")) (aNil))))))) (gN 2) (sSet 1 (eFrz (fAdd (eVar 1) (eFrz (fComp (iX (eFrz (fLst (aCons (eC .non) (aCons (eC (.str "0")) (aCons (eC (.bl true)) (aCons (eC (.bl false)) (aCons (eOp1 opNeg (eC (.int 1))) (aCons (eFrz (fLst (aNil))) (aCons (eFrz (fDict0)) (aCons (eTup (aNil)) (aCons (eOp2 opPow (eC (.int 10)) (eC (.int 25))) (aNil))))))))))))) [3] (gN 3) (tYesM) (eTup (aCons (eVar 2) (aCons (eVar 3) (aNil)))))))))) (sSeq (sSet 1 (eFrz (fAdd (eVar 1) (eFrz (fComp (iX (eFrz (fLst (aCons (eC (.str "answer")) (aCons (eC (.str "name")) (aCons (eC (.str "none")) (aCons (eC (.str "")) (aCons (eC .non) (aCons (eC (.str "object")) (aNil)))))))))) [2] (gN 2) (tYesM) (eTup (aCons (eVar 2) (aCons (eC (.int 0)) (aNil))))))))) (sSeq (sSet 1 (eFrz (fAdd (eVar 1) (eFrz (fComp (iX (eFrz (fLst (aCons (eC (.str "None")) (aCons (eC (.str "object")) (aCons (eC (.str "place")) (aCons (eC (.str "t")) (aCons (eC (.str "")) (aCons (eC .non) (aCons (eC (.str "event")) (aNil))))))))))) [2] (gN 2) (tYesM) (eTup (aCons (eVar 2) (aNil)))))))) (sSeq (sSet 1 (eFrz (fAdd (eVar 1) (eFrz (fLst (aCons (eTup (aNil)) (aCons (eC .non) (aCons (eFrz (fLst (aCons (eC (.str "none")) (aNil)))) (aCons (eC (.str "none")) (aCons (eTup (aCons (eC (.str "none")) (aCons (eTup (aCons (eC (.str "none")) (aNil))) (aNil)))) (aCons (eFrz (fLst (aCons (eC (.str "event")) (aCons (eC (.int 0)) (aNil))))) (aCons (eTup (aCons (eC (.str "event")) (aNil))) (aCons (eC (.int 0)) (aNil)))))))))))))) (sSeq (sFor (iX (eVar 1)) (gN 4) (sIf (tV (eOp2 opNe (eFrz (fComp (iX (eCall (c .f__law_spots) (aCons (eVar 4) (aNil)))) [5] (gN 5) (tV (eOp2 opNe (eCall (c .f__law_word) (aCons (eCall (c .f__law_with_tree) (aCons (eVar 0) (aCons (eVar 5) (aNil)))) (aNil))) (eC (.str "machine")))) (eVar 5))) (eFrz (fLst (aNil))))) (sRet (eC (.bl false))) (sNil))) (sSeq (sFor (iX (eFrz (fLst (aCons (eTup (aCons (eC (.str "event")) (aCons (eC (.int 0)) (aNil)))) (aCons (eTup (aCons (eC (.str "parameter")) (aCons (eC (.int 0)) (aNil)))) (aNil)))))) (gN 4) (sIf (tV (eOp2 opNe (eFrz (fComp (iX (eCall (c .f__law_spots) (aCons (eVar 4) (aNil)))) [5] (gN 5) (tV (eOp2 opNe (eCall (c .f__law_word) (aCons (eCall (c .f__law_with_tree) (aCons (eVar 0) (aCons (eVar 5) (aNil)))) (aNil))) (eC (.str "good")))) (eVar 5))) (eFrz (fLst (aNil))))) (sRet (eC (.bl false))) (sNil))) (sSeq (sFor (iX (eFrz (fLst (aCons (eC (.str "none")) (aCons (eC (.str "true")) (aCons (eC (.str "false")) (aNil))))))) (gN 2) (sSeq (sSetC 6 (fComp (iX (eCall (c .f__law_spots) (aCons (eTup (aCons (eVar 2) (aNil))) (aNil)))) [5] (gN 5) (tYesM) (eCall (c .f__law_word) (aCons (eCall (c .f__law_with_tree) (aCons (eVar 0) (aCons (eVar 5) (aNil)))) (aNil))))) (sIf (tV (eOp2 opNe (eVar 6) (eOp2 opAdd (eFrz (fRep (eFrz (fLst (aCons (eC (.str "good")) (aNil)))) (eC (.int 4)))) (eFrz (fRep (eFrz (fLst (aCons (eC (.str "machine")) (aNil)))) (eC (.int 4))))))) (sRet (eC (.bl false))) (sNil)))) (sRet (eC (.bl true))))))))))
theorem ok__law_operands (Z : All K w mg) (ih : ∀ f, FnOk P w K mg base (L2.CX P w) n (He.ga K (nm f)) (fdAt K (He.ga K (nm f))) (prm f) (spOf ⟨K, w⟩ (prm f).length (c f))) : FnOk P w K mg base (L2.CX P w) (n + 1) (He.ga K "_law_operands") (fdAt K (He.ga K "_law_operands")) ["_law_source_here"] (spOf ⟨K, w⟩ 1 (fBody 7 (b__law_operands c))) :=
  fn_okD (fn__law_operands Z) sc__law_operands rfl fun cdv A outer s H E hr tk po => iss_cons (is_set (i := 1) sc__law_operands.nd rfl (by first | exact Or.inl rfl | exact Or.inr rfl) (ie_frz (if_lst (ia_cons (ie_tup (ia_cons (ie_str) (ia_cons (ie_int) (ia_nil)))) (ia_cons (ie_tup (ia_cons (ie_str) (ia_cons (ie_op op_powB sp_pow (ib_of (ie_int)) (ib_of (ie_int))) (ia_nil)))) (ia_cons (ie_tup (ia_cons (ie_str) (ia_cons (ie_int) (ia_nil)))) (ia_cons (ie_tup (ia_cons (ie_str) (ia_cons (ie_int) (ia_nil)))) (ia_cons (ie_tup (ia_cons (ie_str) (ia_cons (ie_int) (ia_cons (ie_int) (ia_nil))))) (ia_cons (ie_tup (ia_cons (ie_str) (ia_cons (ie_int) (ia_nil)))) (ia_nil)))))))))) (iss_cons (is_for po rfl (ii_x (ie_frz (if_lst (ia_cons (ie_str) (ia_cons (ie_str) (ia_cons (ie_str) (ia_nil))))))) (ig_name (i := 2) sc__law_operands.nd rfl (by first | exact Or.inl rfl | exact Or.inr rfl)) (iss_one (is_set (i := 1) sc__law_operands.nd rfl (by first | exact Or.inl rfl | exact Or.inr rfl) (ie_frz (if_add (ib_of (ie_var (pv 1))) (ib_of (ie_frz (if_cq [("_law_number", 3)] rfl rfl sc__law_operands.nd (iib_of (ii_x (ie_frz (if_lst (ia_cons (ie_non) (ia_cons (ie_str) (ia_cons (ie_bl) (ia_cons (ie_bl) (ia_cons (ie_neg (ib_of (ie_int))) (ia_cons (ie_frz (if_lst (ia_nil))) (ia_cons (ie_frz (if_dict0)) (ia_cons (ie_tup (ia_nil)) (ia_cons (ie_op op_powB sp_pow (ib_of (ie_int)) (ib_of (ie_int))) (ia_nil)))))))))))))) (blkOk_by (N := N__law_operands) (sc := defScope s__law_operands) (by decide +kernel)) (fun _ _ _ _ _ => ig_name (i := 3) sc__law_operands.nd rfl (by first | exact Or.inl rfl | exact Or.inr rfl)) (fun _ _ _ _ _ => its_nil) (fun _ _ _ _ _ => ie_tup (ia_cons (ie_var (pv 2)) (ia_cons (ie_var (pv 3)) (ia_nil)))) (by decide))))))))) (iss_cons (is_set (i := 1) sc__law_operands.nd rfl (by first | exact Or.inl rfl | exact Or.inr rfl) (ie_frz (if_add (ib_of (ie_var (pv 1))) (ib_of (ie_frz (if_cq [("_law_word_here", 2)] rfl rfl sc__law_operands.nd (iib_of (ii_x (ie_frz (if_lst (ia_cons (ie_str) (ia_cons (ie_str) (ia_cons (ie_str) (ia_cons (ie_str) (ia_cons (ie_non) (ia_cons (ie_str) (ia_nil))))))))))) (blkOk_by (N := N__law_operands) (sc := defScope s__law_operands) (by decide +kernel)) (fun _ _ _ _ _ => ig_name (i := 2) sc__law_operands.nd rfl (by first | exact Or.inl rfl | exact Or.inr rfl)) (fun _ _ _ _ _ => its_nil) (fun _ _ _ _ _ => ie_tup (ia_cons (ie_var (pv 2)) (ia_cons (ie_int) (ia_nil)))) (by decide))))))) (iss_cons (is_set (i := 1) sc__law_operands.nd rfl (by first | exact Or.inl rfl | exact Or.inr rfl) (ie_frz (if_add (ib_of (ie_var (pv 1))) (ib_of (ie_frz (if_cq [("_law_word_here", 2)] rfl rfl sc__law_operands.nd (iib_of (ii_x (ie_frz (if_lst (ia_cons (ie_str) (ia_cons (ie_str) (ia_cons (ie_str) (ia_cons (ie_str) (ia_cons (ie_str) (ia_cons (ie_non) (ia_cons (ie_str) (ia_nil)))))))))))) (blkOk_by (N := N__law_operands) (sc := defScope s__law_operands) (by decide +kernel)) (fun _ _ _ _ _ => ig_name (i := 2) sc__law_operands.nd rfl (by first | exact Or.inl rfl | exact Or.inr rfl)) (fun _ _ _ _ _ => its_nil) (fun _ _ _ _ _ => ie_tup (ia_cons (ie_var (pv 2)) (ia_nil))) (by decide))))))) (iss_cons (is_set (i := 1) sc__law_operands.nd rfl (by first | exact Or.inl rfl | exact Or.inr rfl) (ie_frz (if_add (ib_of (ie_var (pv 1))) (ib_of (ie_frz (if_lst (ia_cons (ie_tup (ia_nil)) (ia_cons (ie_non) (ia_cons (ie_frz (if_lst (ia_cons (ie_str) (ia_nil)))) (ia_cons (ie_str) (ia_cons (ie_tup (ia_cons (ie_str) (ia_cons (ie_tup (ia_cons (ie_str) (ia_nil))) (ia_nil)))) (ia_cons (ie_frz (if_lst (ia_cons (ie_str) (ia_cons (ie_int) (ia_nil))))) (ia_cons (ie_tup (ia_cons (ie_str) (ia_nil))) (ia_cons (ie_int) (ia_nil))))))))))))))) (iss_cons (is_for po rfl (ii_x (ie_var (pv 1))) (ig_name (i := 4) sc__law_operands.nd rfl (by first | exact Or.inl rfl | exact Or.inr rfl)) (iss_one (is_if (it_cmp (op_neD hr.units) sp_ne (ib_of (ie_frz (if_cq [("_law_tree", 5)] rfl rfl sc__law_operands.nd (iib_of (ii_x (ie_call tk (ih .f__law_spots) hr rfl (mg__law_spots Z) (kp__law_spots Z) (bd__law_spots Z) (am_cons (am_nil)) (ia_cons (ie_var (pv 4)) (ia_nil))))) (blkOk_by (N := N__law_operands) (sc := defScope s__law_operands) (by decide +kernel)) (fun _ _ _ _ _ => ig_name (i := 5) sc__law_operands.nd rfl (by first | exact Or.inl rfl | exact Or.inr rfl)) (fun _ _ _ _ _ => its_one (it_cmp (op_neD hr.units) sp_ne (ib_of (ie_call takes0 (ih .f__law_word) hr rfl (mg__law_word Z) (kp__law_word Z) (bd__law_word Z) (am_cons (am_nil)) (ia_cons (ie_call takes0 (ih .f__law_with_tree) hr rfl (mg__law_with_tree Z) (kp__law_with_tree Z) (bd__law_with_tree Z) (am_cons (am_cons (am_nil))) (ia_cons (ie_var (pv 0)) (ia_cons (ie_var (pv 5)) (ia_nil)))) (ia_nil)))) (ib_of (ie_str)) (nomark _))) (fun _ _ _ _ _ => ie_var (pv 5)) (by decide)))) (ib_of (ie_frz (if_lst (ia_nil)))) (nomark _)) (iss_one (is_ret (ie_bl))) (iss_nil)))) (iss_cons (is_for po rfl (ii_x (ie_frz (if_lst (ia_cons (ie_tup (ia_cons (ie_str) (ia_cons (ie_int) (ia_nil)))) (ia_cons (ie_tup (ia_cons (ie_str) (ia_cons (ie_int) (ia_nil)))) (ia_nil)))))) (ig_name (i := 4) sc__law_operands.nd rfl (by first | exact Or.inl rfl | exact Or.inr rfl)) (iss_one (is_if (it_cmp (op_neD hr.units) sp_ne (ib_of (ie_frz (if_cq [("_law_tree", 5)] rfl rfl sc__law_operands.nd (iib_of (ii_x (ie_call tk (ih .f__law_spots) hr rfl (mg__law_spots Z) (kp__law_spots Z) (bd__law_spots Z) (am_cons (am_nil)) (ia_cons (ie_var (pv 4)) (ia_nil))))) (blkOk_by (N := N__law_operands) (sc := defScope s__law_operands) (by decide +kernel)) (fun _ _ _ _ _ => ig_name (i := 5) sc__law_operands.nd rfl (by first | exact Or.inl rfl | exact Or.inr rfl)) (fun _ _ _ _ _ => its_one (it_cmp (op_neD hr.units) sp_ne (ib_of (ie_call takes0 (ih .f__law_word) hr rfl (mg__law_word Z) (kp__law_word Z) (bd__law_word Z) (am_cons (am_nil)) (ia_cons (ie_call takes0 (ih .f__law_with_tree) hr rfl (mg__law_with_tree Z) (kp__law_with_tree Z) (bd__law_with_tree Z) (am_cons (am_cons (am_nil))) (ia_cons (ie_var (pv 0)) (ia_cons (ie_var (pv 5)) (ia_nil)))) (ia_nil)))) (ib_of (ie_str)) (nomark _))) (fun _ _ _ _ _ => ie_var (pv 5)) (by decide)))) (ib_of (ie_frz (if_lst (ia_nil)))) (nomark _)) (iss_one (is_ret (ie_bl))) (iss_nil)))) (iss_cons (is_for po rfl (ii_x (ie_frz (if_lst (ia_cons (ie_str) (ia_cons (ie_str) (ia_cons (ie_str) (ia_nil))))))) (ig_name (i := 2) sc__law_operands.nd rfl (by first | exact Or.inl rfl | exact Or.inr rfl)) (iss_cons (is_cqV (i := 6) [("_law_tree", 5)] rfl rfl sc__law_operands.nd rfl rfl (sw_true rfl rfl rfl (by decide +kernel)) (iib_of (ii_x (ie_call tk (ih .f__law_spots) hr rfl (mg__law_spots Z) (kp__law_spots Z) (bd__law_spots Z) (am_cons (am_nil)) (ia_cons (ie_tup (ia_cons (ie_var (pv 2)) (ia_nil))) (ia_nil))))) (blkOk_by (N := N__law_operands) (sc := defScope s__law_operands) (by decide +kernel)) (fun _ _ _ _ _ => ig_name (i := 5) sc__law_operands.nd rfl (by first | exact Or.inl rfl | exact Or.inr rfl)) (fun _ _ _ _ _ => its_nil) (fun _ _ _ _ _ => ie_call takes0 (ih .f__law_word) hr rfl (mg__law_word Z) (kp__law_word Z) (bd__law_word Z) (am_cons (am_nil)) (ia_cons (ie_call takes0 (ih .f__law_with_tree) hr rfl (mg__law_with_tree Z) (kp__law_with_tree Z) (bd__law_with_tree Z) (am_cons (am_cons (am_nil))) (ia_cons (ie_var (pv 0)) (ia_cons (ie_var (pv 5)) (ia_nil)))) (ia_nil))) (by decide)) (iss_one (is_if (it_cmp (op_neD hr.units) sp_ne (ib_of (ie_var (pv 6))) (ib_of (ie_op op_add4 sp_add (ib_of (ie_frz (if_rep (ib_of (ie_frz (if_lst (ia_cons (ie_str) (ia_nil))))) (ib_of (ie_int))))) (ib_of (ie_frz (if_rep (ib_of (ie_frz (if_lst (ia_cons (ie_str) (ia_nil))))) (ib_of (ie_int))))))) (nomark _)) (iss_one (is_ret (ie_bl))) (iss_nil))))) (iss_one (is_ret (ie_bl))))))))))
def b__law_ends (c : Call) : SM := sSeq (sPar (aCons (eTup (aCons (eC (.str "value")) (aCons (eTup (aCons (eC (.str "none")) (aNil))) (aNil)))) (aCons (eCall0 (c .f__law_leaf)) (aCons (eTup (aCons (eC (.str "event")) (aCons (eC (.int 0)) (aNil)))) (aNil)))) [1, 2, 3]) (sSeq (sSetO 4 (fLst (aNil))) (sSeq (sSetO 5 (fComp (iX (eFrz (fLst (aCons (eC (.bl false)) (aCons (eC .non) (aCons (eC (.str "0")) (aCons (eOp1 opNeg (eC (.int 1))) (aCons (eC (.int 1)) (aCons (eFrz (fLst (aNil))) (aCons (eOp2 opPow (eC (.int 10)) (eC (.int 25))) (aNil))))))))))) [6] (gN 6) (tYesM) (eTup (aCons (eC (.str "failed")) (aCons (eVar 6) (aNil)))))) (sSeq (sSetO 5 (fAdd (eBrw 5) (eFrz (fComp (iX (eFrz (fLst (aCons (eC (.str "raised")) (aCons (eC (.str "wanting")) (aCons (eC (.str "event")) (aCons (eC (.str "")) (aCons (eC .non) (aNil))))))))) [7] (gN 7) (tYesM) (eTup (aCons (eVar 7) (aCons (eC (.int 0)) (aNil)))))))) (sSeq (sSetO 5 (fAdd (eBrw 5) (eFrz (fLst (aCons (eTup (aCons (eC (.str "failed")) (aNil))) (aCons (eTup (aCons (eC (.str "failed")) (aCons (eC (.int 0)) (aCons (eC (.int 0)) (aNil))))) (aCons (eTup (aCons (eC (.str "value")) (aNil))) (aCons (eTup (aCons (eC (.str "value")) (aCons (eTup (aCons (eC (.str "none")) (aNil))) (aCons (eC (.int 0)) (aNil))))) (aCons (eTup (aNil)) (aCons (eC .non) (aCons (eFrz (fLst (aCons (eC (.str "failed")) (aCons (eC (.int 0)) (aNil))))) (aNil)))))))))))) (sSeq (sAppO 5 (eC (.str "failed"))) (sSeq (sFrz 5 (sFor (iX (eVar 5)) (gN 8) (sAppO 4 (eTup (aCons (eC (.str "ask")) (aCons (eC (.str "f")) (aCons (eTup (aNil)) (aCons (eTup (aCons (eVar 2) (aCons (eTup (aCons (eC (.str "end")) (aCons (eVar 8) (aCons (eC (.int 0)) (aCons (eTup (aNil)) (aNil)))))) (aNil)))) (aNil))))))))) (sSeq (sSetO 4 (fAdd (eBrw 4) (eFrz (fLst (aCons (eCall (c .f__law_behind) (aCons (eTup (aCons (eC (.str "end")) (aCons (eTup (aCons (eC (.str "failed")) (aCons (eC (.int 0)) (aNil)))) (aCons (eC (.int 0)) (aCons (eTup (aNil)) (aNil)))))) (aNil))) (aCons (eTup (aCons (eC (.str "end")) (aCons (eTup (aCons (eC (.str "failed")) (aCons (eC (.int 0)) (aNil)))) (aCons (eC (.int 0)) (aCons (eTup (aNil)) (aNil)))))) (aNil))))))) (sSeq (sFor (iX (eFrz (fLst (aCons (eTup (aCons (eC (.int 0)) (aCons (eTup (aCons (eVar 3) (aNil))) (aNil)))) (aCons (eTup (aCons (eC (.int 1)) (aCons (eTup (aNil)) (aNil)))) (aCons (eTup (aCons (eC (.int 1)) (aCons (eTup (aCons (eVar 3) (aCons (eVar 3) (aNil)))) (aNil)))) (aCons (eTup (aCons (eC (.int 2)) (aCons (eTup (aCons (eVar 3) (aNil))) (aNil)))) (aCons (eTup (aCons (eC (.int 2)) (aCons (eTup (aCons (eVar 3) (aCons (eVar 3) (aCons (eVar 3) (aNil))))) (aNil)))) (aCons (eTup (aCons (eC (.int 2)) (aCons (eTup (aNil)) (aNil)))) (aNil)))))))))) (gT [6, 9]) (sAppO 4 (eCall (c .f__law_behind) (aCons (eTup (aCons (eC (.str "end")) (aCons (eVar 1) (aCons (eVar 6) (aCons (eVar 9) (aNil)))))) (aNil))))) (sSeq (sFor (iX (eFrz (fLst (aCons (eFrz (fLst (aNil))) (aCons (eC .non) (aCons (eC (.str "")) (aCons (eFrz (fLst (aCons (eVar 3) (aNil)))) (aNil)))))))) (gN 9) (sSetO 4 (fAdd (eBrw 4) (eFrz (fLst (aCons (eCall (c .f__law_behind) (aCons (eTup (aCons (eC (.str "end")) (aCons (eVar 1) (aCons (eC (.int 0)) (aCons (eVar 9) (aNil)))))) (aNil))) (aCons (eCall (c .f__law_behind) (aCons (eTup (aCons (eC (.str "end")) (aCons (eVar 1) (aCons (eC (.int 1)) (aCons (eVar 9) (aNil)))))) (aNil))) (aNil)))))))) (sSeq (sFor (iX (eFrz (fLst (aCons (eC (.int 3)) (aCons (eOp1 opNeg (eC (.int 1))) (aCons (eC (.bl true)) (aCons (eC (.bl false)) (aCons (eC .non) (aCons (eC (.str "0")) (aCons (eFrz (fLst (aNil))) (aCons (eOp2 opPow (eC (.int 10)) (eC (.int 25))) (aNil)))))))))))) (gN 6) (sAppO 4 (eTup (aCons (eC (.str "end")) (aCons (eVar 1) (aCons (eVar 6) (aCons (eTup (aNil)) (aNil)))))))) (sSeq (sSetO 4 (fAdd (eBrw 4) (eFrz (fLst (aCons (eTup (aCons (eC (.str "end")) (aNil))) (aCons (eSl (eVar 2) (oNo) (oSome (eC (.int 3)))) (aCons (eOp2 opAdd (eVar 2) (eTup (aCons (eC (.int 0)) (aNil)))) (aCons (eFrz (fOp1 opList (eVar 2))) (aCons (eOp2 opAdd (eTup (aCons (eC (.str "stop")) (aNil))) (eSl (eVar 2) (oSome (eC (.int 1))) (oNo))) (aCons (eC .non) (aCons (eTup (aNil)) (aCons (eC (.str "end")) (aCons (eC (.int 0)) (aNil)))))))))))))) (sSeq (sIf (tV (eOp2 opNe (eFrz (fComp (iB (eBrw 4)) [10] (gN 10) (tV (eOp2 opNe (eCall (c .f__law_word) (aCons (eCall (c .f__law_with_tree) (aCons (eVar 0) (aCons (eVar 10) (aNil)))) (aNil))) (eC (.str "machine")))) (eVar 10))) (eFrz (fLst (aNil))))) (sRet (eC (.bl false))) (sNil)) (sSeq (sSet 11 (eFrz (fLst (aCons (eTup (aCons (eC (.str "ask")) (aCons (eC (.str "f")) (aCons (eTup (aNil)) (aCons (eTup (aCons (eVar 2) (aCons (eTup (aCons (eC (.str "end")) (aCons (eTup (aCons (eC (.str "failed")) (aCons (eC (.int 0)) (aNil)))) (aCons (eC (.int 0)) (aCons (eTup (aNil)) (aNil)))))) (aNil)))) (aNil)))))) (aCons (eCall (c .f__law_behind) (aCons (eTup (aCons (eC (.str "end")) (aCons (eVar 1) (aCons (eC (.int 1)) (aCons (eTup (aCons (eVar 3) (aNil))) (aNil)))))) (aNil))) (aNil)))))) (sSeq (sSet 11 (eFrz (fAdd (eVar 11) (eFrz (fLst (aCons (eCall (c .f__law_behind) (aCons (eTup (aCons (eC (.str "end")) (aCons (eVar 1) (aCons (eC (.int 2)) (aCons (eTup (aCons (eVar 3) (aCons (eVar 3) (aNil)))) (aNil)))))) (aNil))) (aCons (eVar 2) (aNil)))))))) (sRet (eOp2 opEq2 (eFrz (fComp (iX (eVar 11)) [10] (gN 10) (tV (eOp2 opNe (eCall (c .f__law_word) (aCons (eCall (c .f__law_with_tree) (aCons (eVar 0) (aCons (eVar 10) (aNil)))) (aNil))) (eC (.str "good")))) (eVar 10))) (eFrz (fLst (aNil)))))))))))))))))))
theorem ok__law_ends (Z : All K w mg) (ih : ∀ f, FnOk P w K mg base (L2.CX P w) n (He.ga K (nm f)) (fdAt K (He.ga K (nm f))) (prm f) (spOf ⟨K, w⟩ (prm f).length (c f))) : FnOk P w K mg base (L2.CX P w) (n + 1) (He.ga K "_law_ends") (fdAt K (He.ga K "_law_ends")) ["_law_source_here"] (spOf ⟨K, w⟩ 1 (fBody 12 (b__law_ends c))) :=
  fn_okD (fn__law_ends Z) sc__law_ends rfl fun cdv A outer s H E hr tk po => iss_cons (is_par3 (i := 1) (j := 2) (l := 3) rfl sc__law_ends.nd rfl rfl rfl (by decide) (by decide) (by decide) rfl rfl rfl (ia_cons (ie_tup (ia_cons (ie_str) (ia_cons (ie_tup (ia_cons (ie_str) (ia_nil))) (ia_nil)))) (ia_cons (ie_call0 (ih .f__law_leaf) hr rfl (mg__law_leaf Z) (kp__law_leaf Z) (bd__law_leaf Z)) (ia_cons (ie_tup (ia_cons (ie_str) (ia_cons (ie_int) (ia_nil)))) (ia_nil)))) rfl) (iss_cons (is_setO (i := 4) sc__law_ends.nd rfl (by first | exact Or.inl rfl | exact Or.inr rfl) (if_lst (ia_nil))) (iss_cons (is_cq (i := 5) [("_law_number", 6)] rfl rfl sc__law_ends.nd rfl rfl (sw_true rfl rfl rfl (by decide +kernel)) (iib_of (ii_x (ie_frz (if_lst (ia_cons (ie_bl) (ia_cons (ie_non) (ia_cons (ie_str) (ia_cons (ie_neg (ib_of (ie_int))) (ia_cons (ie_int) (ia_cons (ie_frz (if_lst (ia_nil))) (ia_cons (ie_op op_powB sp_pow (ib_of (ie_int)) (ib_of (ie_int))) (ia_nil)))))))))))) (blkOk_by (N := N__law_ends) (sc := defScope s__law_ends) (by decide +kernel)) (fun _ _ _ _ _ => ig_name (i := 6) sc__law_ends.nd rfl (by first | exact Or.inl rfl | exact Or.inr rfl)) (fun _ _ _ _ _ => its_nil) (fun _ _ _ _ _ => ie_tup (ia_cons (ie_str) (ia_cons (ie_var (pv 6)) (ia_nil)))) (by decide)) (iss_cons (is_setO (i := 5) sc__law_ends.nd rfl (by first | exact Or.inl rfl | exact Or.inr rfl) (if_add (ib_brw (pv 5)) (ib_of (ie_frz (if_cq [("_law_word_here", 7)] rfl rfl sc__law_ends.nd (iib_of (ii_x (ie_frz (if_lst (ia_cons (ie_str) (ia_cons (ie_str) (ia_cons (ie_str) (ia_cons (ie_str) (ia_cons (ie_non) (ia_nil)))))))))) (blkOk_by (N := N__law_ends) (sc := defScope s__law_ends) (by decide +kernel)) (fun _ _ _ _ _ => ig_name (i := 7) sc__law_ends.nd rfl (by first | exact Or.inl rfl | exact Or.inr rfl)) (fun _ _ _ _ _ => its_nil) (fun _ _ _ _ _ => ie_tup (ia_cons (ie_var (pv 7)) (ia_cons (ie_int) (ia_nil)))) (by decide)))))) (iss_cons (is_setO (i := 5) sc__law_ends.nd rfl (by first | exact Or.inl rfl | exact Or.inr rfl) (if_add (ib_brw (pv 5)) (ib_of (ie_frz (if_lst (ia_cons (ie_tup (ia_cons (ie_str) (ia_nil))) (ia_cons (ie_tup (ia_cons (ie_str) (ia_cons (ie_int) (ia_cons (ie_int) (ia_nil))))) (ia_cons (ie_tup (ia_cons (ie_str) (ia_nil))) (ia_cons (ie_tup (ia_cons (ie_str) (ia_cons (ie_tup (ia_cons (ie_str) (ia_nil))) (ia_cons (ie_int) (ia_nil))))) (ia_cons (ie_tup (ia_nil)) (ia_cons (ie_non) (ia_cons (ie_frz (if_lst (ia_cons (ie_str) (ia_cons (ie_int) (ia_nil))))) (ia_nil))))))))))))) (iss_cons (is_appO (pv 5) (ie_str)) (iss_cons (is_frz (i := 5) (is_for po rfl (ii_x (ie_var (pv 5))) (ig_name (i := 8) sc__law_ends.nd rfl (by first | exact Or.inl rfl | exact Or.inr rfl)) (iss_one (is_appO (pv 4) (ie_tup (ia_cons (ie_str) (ia_cons (ie_str) (ia_cons (ie_tup (ia_nil)) (ia_cons (ie_tup (ia_cons (ie_var (pv 2)) (ia_cons (ie_tup (ia_cons (ie_str) (ia_cons (ie_var (pv 8)) (ia_cons (ie_int) (ia_cons (ie_tup (ia_nil)) (ia_nil)))))) (ia_nil)))) (ia_nil)))))))))) (iss_cons (is_setO (i := 4) sc__law_ends.nd rfl (by first | exact Or.inl rfl | exact Or.inr rfl) (if_add (ib_brw (pv 4)) (ib_of (ie_frz (if_lst (ia_cons (ie_call tk (ih .f__law_behind) hr rfl (mg__law_behind Z) (kp__law_behind Z) (bd__law_behind Z) (am_cons (am_nil)) (ia_cons (ie_tup (ia_cons (ie_str) (ia_cons (ie_tup (ia_cons (ie_str) (ia_cons (ie_int) (ia_nil)))) (ia_cons (ie_int) (ia_cons (ie_tup (ia_nil)) (ia_nil)))))) (ia_nil))) (ia_cons (ie_tup (ia_cons (ie_str) (ia_cons (ie_tup (ia_cons (ie_str) (ia_cons (ie_int) (ia_nil)))) (ia_cons (ie_int) (ia_cons (ie_tup (ia_nil)) (ia_nil)))))) (ia_nil)))))))) (iss_cons (is_for po rfl (ii_x (ie_frz (if_lst (ia_cons (ie_tup (ia_cons (ie_int) (ia_cons (ie_tup (ia_cons (ie_var (pv 3)) (ia_nil))) (ia_nil)))) (ia_cons (ie_tup (ia_cons (ie_int) (ia_cons (ie_tup (ia_nil)) (ia_nil)))) (ia_cons (ie_tup (ia_cons (ie_int) (ia_cons (ie_tup (ia_cons (ie_var (pv 3)) (ia_cons (ie_var (pv 3)) (ia_nil)))) (ia_nil)))) (ia_cons (ie_tup (ia_cons (ie_int) (ia_cons (ie_tup (ia_cons (ie_var (pv 3)) (ia_nil))) (ia_nil)))) (ia_cons (ie_tup (ia_cons (ie_int) (ia_cons (ie_tup (ia_cons (ie_var (pv 3)) (ia_cons (ie_var (pv 3)) (ia_cons (ie_var (pv 3)) (ia_nil))))) (ia_nil)))) (ia_cons (ie_tup (ia_cons (ie_int) (ia_cons (ie_tup (ia_nil)) (ia_nil)))) (ia_nil)))))))))) (ig_tup rfl (igs_cons (ig_name (i := 6) sc__law_ends.nd rfl (by first | exact Or.inl rfl | exact Or.inr rfl)) (igs_cons (ig_name (i := 9) sc__law_ends.nd rfl (by first | exact Or.inl rfl | exact Or.inr rfl)) (igs_nil)))) (iss_one (is_appO (pv 4) (ie_call tk (ih .f__law_behind) hr rfl (mg__law_behind Z) (kp__law_behind Z) (bd__law_behind Z) (am_cons (am_nil)) (ia_cons (ie_tup (ia_cons (ie_str) (ia_cons (ie_var (pv 1)) (ia_cons (ie_var (pv 6)) (ia_cons (ie_var (pv 9)) (ia_nil)))))) (ia_nil)))))) (iss_cons (is_for po rfl (ii_x (ie_frz (if_lst (ia_cons (ie_frz (if_lst (ia_nil))) (ia_cons (ie_non) (ia_cons (ie_str) (ia_cons (ie_frz (if_lst (ia_cons (ie_var (pv 3)) (ia_nil)))) (ia_nil)))))))) (ig_name (i := 9) sc__law_ends.nd rfl (by first | exact Or.inl rfl | exact Or.inr rfl)) (iss_one (is_setO (i := 4) sc__law_ends.nd rfl (by first | exact Or.inl rfl | exact Or.inr rfl) (if_add (ib_brw (pv 4)) (ib_of (ie_frz (if_lst (ia_cons (ie_call tk (ih .f__law_behind) hr rfl (mg__law_behind Z) (kp__law_behind Z) (bd__law_behind Z) (am_cons (am_nil)) (ia_cons (ie_tup (ia_cons (ie_str) (ia_cons (ie_var (pv 1)) (ia_cons (ie_int) (ia_cons (ie_var (pv 9)) (ia_nil)))))) (ia_nil))) (ia_cons (ie_call tk (ih .f__law_behind) hr rfl (mg__law_behind Z) (kp__law_behind Z) (bd__law_behind Z) (am_cons (am_nil)) (ia_cons (ie_tup (ia_cons (ie_str) (ia_cons (ie_var (pv 1)) (ia_cons (ie_int) (ia_cons (ie_var (pv 9)) (ia_nil)))))) (ia_nil))) (ia_nil)))))))))) (iss_cons (is_for po rfl (ii_x (ie_frz (if_lst (ia_cons (ie_int) (ia_cons (ie_neg (ib_of (ie_int))) (ia_cons (ie_bl) (ia_cons (ie_bl) (ia_cons (ie_non) (ia_cons (ie_str) (ia_cons (ie_frz (if_lst (ia_nil))) (ia_cons (ie_op op_powB sp_pow (ib_of (ie_int)) (ib_of (ie_int))) (ia_nil)))))))))))) (ig_name (i := 6) sc__law_ends.nd rfl (by first | exact Or.inl rfl | exact Or.inr rfl)) (iss_one (is_appO (pv 4) (ie_tup (ia_cons (ie_str) (ia_cons (ie_var (pv 1)) (ia_cons (ie_var (pv 6)) (ia_cons (ie_tup (ia_nil)) (ia_nil))))))))) (iss_cons (is_setO (i := 4) sc__law_ends.nd rfl (by first | exact Or.inl rfl | exact Or.inr rfl) (if_add (ib_brw (pv 4)) (ib_of (ie_frz (if_lst (ia_cons (ie_tup (ia_cons (ie_str) (ia_nil))) (ia_cons (ie_sl (ib_of (ie_var (pv 2))) (io_none) (io_some (ie_int))) (ia_cons (ie_op op_add4 sp_add (ib_of (ie_var (pv 2))) (ib_of (ie_tup (ia_cons (ie_int) (ia_nil))))) (ia_cons (ie_frz (if_list rfl (z_list Z) (ib_of (ie_var (pv 2))))) (ia_cons (ie_op op_add4 sp_add (ib_of (ie_tup (ia_cons (ie_str) (ia_nil)))) (ib_of (ie_sl (ib_of (ie_var (pv 2))) (io_some (ie_int)) (io_none)))) (ia_cons (ie_non) (ia_cons (ie_tup (ia_nil)) (ia_cons (ie_str) (ia_cons (ie_int) (ia_nil))))))))))))))) (iss_cons (is_if (it_cmp (op_neD hr.units) sp_ne (ib_of (ie_frz (if_cq [("_law_tree", 10)] rfl rfl sc__law_ends.nd (iib_b (ib_brw (pv 4))) (blkOk_by (N := N__law_ends) (sc := defScope s__law_ends) (by decide +kernel)) (fun _ _ _ _ _ => ig_name (i := 10) sc__law_ends.nd rfl (by first | exact Or.inl rfl | exact Or.inr rfl)) (fun _ _ _ _ _ => its_one (it_cmp (op_neD hr.units) sp_ne (ib_of (ie_call takes0 (ih .f__law_word) hr rfl (mg__law_word Z) (kp__law_word Z) (bd__law_word Z) (am_cons (am_nil)) (ia_cons (ie_call takes0 (ih .f__law_with_tree) hr rfl (mg__law_with_tree Z) (kp__law_with_tree Z) (bd__law_with_tree Z) (am_cons (am_cons (am_nil))) (ia_cons (ie_var (pv 0)) (ia_cons (ie_var (pv 10)) (ia_nil)))) (ia_nil)))) (ib_of (ie_str)) (nomark _))) (fun _ _ _ _ _ => ie_var (pv 10)) (by decide)))) (ib_of (ie_frz (if_lst (ia_nil)))) (nomark _)) (iss_one (is_ret (ie_bl))) (iss_nil)) (iss_cons (is_set (i := 11) sc__law_ends.nd rfl (by first | exact Or.inl rfl | exact Or.inr rfl) (ie_frz (if_lst (ia_cons (ie_tup (ia_cons (ie_str) (ia_cons (ie_str) (ia_cons (ie_tup (ia_nil)) (ia_cons (ie_tup (ia_cons (ie_var (pv 2)) (ia_cons (ie_tup (ia_cons (ie_str) (ia_cons (ie_tup (ia_cons (ie_str) (ia_cons (ie_int) (ia_nil)))) (ia_cons (ie_int) (ia_cons (ie_tup (ia_nil)) (ia_nil)))))) (ia_nil)))) (ia_nil)))))) (ia_cons (ie_call tk (ih .f__law_behind) hr rfl (mg__law_behind Z) (kp__law_behind Z) (bd__law_behind Z) (am_cons (am_nil)) (ia_cons (ie_tup (ia_cons (ie_str) (ia_cons (ie_var (pv 1)) (ia_cons (ie_int) (ia_cons (ie_tup (ia_cons (ie_var (pv 3)) (ia_nil))) (ia_nil)))))) (ia_nil))) (ia_nil)))))) (iss_cons (is_set (i := 11) sc__law_ends.nd rfl (by first | exact Or.inl rfl | exact Or.inr rfl) (ie_frz (if_add (ib_of (ie_var (pv 11))) (ib_of (ie_frz (if_lst (ia_cons (ie_call tk (ih .f__law_behind) hr rfl (mg__law_behind Z) (kp__law_behind Z) (bd__law_behind Z) (am_cons (am_nil)) (ia_cons (ie_tup (ia_cons (ie_str) (ia_cons (ie_var (pv 1)) (ia_cons (ie_int) (ia_cons (ie_tup (ia_cons (ie_var (pv 3)) (ia_cons (ie_var (pv 3)) (ia_nil)))) (ia_nil)))))) (ia_nil))) (ia_cons (ie_var (pv 2)) (ia_nil))))))))) (iss_one (is_ret (ie_cmp (op_eqL hr.units) sp_eq2 (ib_of (ie_frz (if_cq [("_law_tree", 10)] rfl rfl sc__law_ends.nd (iib_of (ii_x (ie_var (pv 11)))) (blkOk_by (N := N__law_ends) (sc := defScope s__law_ends) (by decide +kernel)) (fun _ _ _ _ _ => ig_name (i := 10) sc__law_ends.nd rfl (by first | exact Or.inl rfl | exact Or.inr rfl)) (fun _ _ _ _ _ => its_one (it_cmp (op_neD hr.units) sp_ne (ib_of (ie_call takes0 (ih .f__law_word) hr rfl (mg__law_word Z) (kp__law_word Z) (bd__law_word Z) (am_cons (am_nil)) (ia_cons (ie_call takes0 (ih .f__law_with_tree) hr rfl (mg__law_with_tree Z) (kp__law_with_tree Z) (bd__law_with_tree Z) (am_cons (am_cons (am_nil))) (ia_cons (ie_var (pv 0)) (ia_cons (ie_var (pv 10)) (ia_nil)))) (ia_nil)))) (ib_of (ie_str)) (nomark _))) (fun _ _ _ _ _ => ie_var (pv 10)) (by decide)))) (ib_of (ie_frz (if_lst (ia_nil)))) (nomark _))))))))))))))))))
def b__law_asks (c : Call) : SM := sSeq (sUnp (eTup (aCons (eCall0 (c .f__law_leaf)) (aCons (eTup (aCons (eC (.str "none")) (aNil))) (aNil)))) ([1, 2])) (sSeq (sSet 3 (eTup (aCons (eVar 1) (aCons (eVar 1) (aCons (eVar 1) (aNil)))))) (sSeq (sSetO 4 (fLst (aNil))) (sSeq (sFor (iX (eFrz (fLst (aCons (eTup (aCons (eC (.str "if")) (aCons (eC (.int 0)) (aNil)))) (aCons (eTup (aCons (eC (.str "abcdefghi")) (aCons (eC (.int 1)) (aNil)))) (aCons (eTup (aCons (eC (.str "self")) (aCons (eC (.int 0)) (aNil)))) (aCons (eTup (aCons (eC (.str "<")) (aCons (eC (.int 3)) (aNil)))) (aCons (eTup (aCons (eC (.str "<")) (aCons (eC (.int 1)) (aNil)))) (aCons (eTup (aCons (eC (.str "<")) (aCons (eC (.int 0)) (aNil)))) (aCons (eTup (aCons (eC (.str "=")) (aCons (eC (.int 2)) (aNil)))) (aCons (eTup (aCons (eC .non) (aCons (eC (.int 0)) (aNil)))) (aNil)))))))))))) (gT [5, 6]) (sAppO 4 (eTup (aCons (eC (.str "ask")) (aCons (eVar 5) (aCons (eOp2 opRepA (eTup (aCons (eVar 2) (aNil))) (eVar 6)) (aCons (eTup (aCons (eVar 1) (aCons (eVar 1) (aNil)))) (aNil)))))))) (sSeq (sFor (iX (eFrz (fLst (aCons (eTup (aCons (eC (.str "")) (aCons (eC (.int 0)) (aNil)))) (aCons (eTup (aCons (eFrz (fLst (aCons (eC (.str "f")) (aNil)))) (aCons (eC (.int 0)) (aNil)))) (aCons (eTup (aCons (eC (.str "F")) (aCons (eC (.int 0)) (aNil)))) (aCons (eTup (aCons (eC (.str "f\n")) (aCons (eC (.int 0)) (aNil)))) (aCons (eTup (aCons (eC (.str "f")) (aCons (eC (.int 4)) (aNil)))) (aCons (eTup (aCons (eC (.int 7)) (aCons (eC (.int 0)) (aNil)))) (aNil)))))))))) (gT [5, 6]) (sAppO 4 (eTup (aCons (eC (.str "ask")) (aCons (eVar 5) (aCons (eOp2 opRepA (eTup (aCons (eVar 2) (aNil))) (eVar 6)) (aCons (eTup (aCons (eVar 1) (aCons (eVar 1) (aNil)))) (aNil)))))))) (sSeq (sFor (iX (eFrz (fLst (aCons (eFrz (fLst (aCons (eVar 1) (aCons (eVar 1) (aNil))))) (aCons (eTup (aCons (eVar 1) (aNil))) (aCons (eVar 3) (aCons (eTup (aCons (eVar 1) (aCons (eC .non) (aNil)))) (aCons (eTup (aCons (eC .non) (aCons (eVar 1) (aNil)))) (aCons (eTup (aNil)) (aCons (eC .non) (aNil))))))))))) (gN 7) (sAppO 4 (eTup (aCons (eC (.str "ask")) (aCons (eC (.str "f")) (aCons (eTup (aNil)) (aCons (eVar 7) (aNil)))))))) (sSeq (sFor (iX (eFrz (fLst (aCons (eFrz (fOp1 opList (eVar 3))) (aCons (eTup (aCons (eVar 1) (aCons (eVar 1) (aNil)))) (aCons (eOp2 opAdd (eVar 3) (eTup (aCons (eVar 1) (aNil)))) (aCons (eTup (aCons (eVar 1) (aCons (eC .non) (aCons (eVar 1) (aNil))))) (aCons (eTup (aCons (eVar 1) (aCons (eVar 1) (aCons (eTup (aNil)) (aNil))))) (aCons (eTup (aNil)) (aCons (eC .non) (aNil))))))))))) (gN 7) (sAppO 4 (eTup (aCons (eC (.str "test")) (aCons (eTup (aCons (eC (.str "parameter")) (aCons (eC (.int 0)) (aNil)))) (aCons (eVar 7) (aNil))))))) (sSeq (sSetO 4 (fAdd (eBrw 4) (eFrz (fLst (aCons (eTup (aCons (eC (.str "ask")) (aCons (eC (.str "f")) (aCons (eFrz (fLst (aNil))) (aCons (eTup (aCons (eVar 1) (aCons (eVar 1) (aNil)))) (aNil)))))) (aCons (eTup (aCons (eC (.str "ask")) (aCons (eC (.str "f")) (aCons (eC .non) (aCons (eTup (aCons (eVar 1) (aCons (eVar 1) (aNil)))) (aNil)))))) (aCons (eTup (aCons (eC (.str "ask")) (aCons (eC (.str "f")) (aCons (eTup (aNil)) (aNil))))) (aCons (eTup (aCons (eC (.str "test")) (aCons (eVar 3) (aNil)))) (aNil))))))))) (sSeq (sSetO 4 (fAdd (eBrw 4) (eFrz (fLst (aCons (eTup (aCons (eC (.str "ask")) (aCons (eC (.str "f")) (aCons (eTup (aNil)) (aCons (eTup (aCons (eVar 1) (aCons (eVar 1) (aNil)))) (aCons (eC (.int 0)) (aNil))))))) (aCons (eTup (aCons (eC (.str "test")) (aCons (eTup (aCons (eC (.str "parameter")) (aCons (eC (.int 0)) (aNil)))) (aCons (eVar 3) (aCons (eC (.int 0)) (aNil)))))) (aNil))))))) (sSeq (sAppO 4 (eFrz (fLst (aCons (eC (.str "test")) (aCons (eTup (aCons (eC (.str "parameter")) (aCons (eC (.int 0)) (aNil)))) (aCons (eVar 3) (aNil))))))) (sSeq (sAppO 4 (eTup (aCons (eC (.str "ask")) (aCons (eC (.str "f")) (aCons (eTup (aNil)) (aCons (eTup (aCons (eVar 1) (aCons (eTup (aCons (eC (.str "test")) (aCons (eTup (aCons (eC (.str "event")) (aCons (eC (.int 0)) (aNil)))) (aCons (eVar 3) (aNil))))) (aNil)))) (aNil))))))) (sSeq (sAppO 4 (eTup (aCons (eC (.str "ask")) (aCons (eC (.str "f")) (aCons (eTup (aNil)) (aCons (eTup (aCons (eVar 1) (aCons (eTup (aCons (eC (.str "ask")) (aCons (eC (.str "g")) (aCons (eTup (aCons (eTup (aCons (eC (.str "event")) (aCons (eC (.int 0)) (aNil)))) (aNil))) (aCons (eTup (aCons (eVar 1) (aCons (eVar 1) (aNil)))) (aNil)))))) (aNil)))) (aNil))))))) (sSeq (sAppO 4 (eCall (c .f__law_behind) (aCons (eTup (aCons (eC (.str "ask")) (aCons (eC (.str "<")) (aCons (eTup (aCons (eTup (aCons (eC (.str "event")) (aCons (eC (.int 0)) (aNil)))) (aCons (eTup (aCons (eC (.str "event")) (aCons (eC (.int 1)) (aNil)))) (aNil)))) (aCons (eTup (aCons (eVar 1) (aCons (eVar 1) (aNil)))) (aNil)))))) (aNil)))) (sSeq (sIf (tV (eOp2 opNe (eFrz (fComp (iB (eBrw 4)) [8] (gN 8) (tV (eOp2 opNe (eCall (c .f__law_word) (aCons (eCall (c .f__law_with_tree) (aCons (eVar 0) (aCons (eVar 8) (aNil)))) (aNil))) (eC (.str "machine")))) (eVar 8))) (eFrz (fLst (aNil))))) (sRet (eC (.bl false))) (sNil)) (sSeq (sSetC 9 (fComp (iR1 (eC (.int 4))) [6] (gN 6) (tYesM) (eTup (aCons (eC (.str "ask")) (aCons (eC (.str "f")) (aCons (eOp2 opRepA (eTup (aCons (eVar 2) (aNil))) (eVar 6)) (aCons (eTup (aCons (eVar 1) (aCons (eVar 1) (aNil)))) (aNil)))))))) (sSeq (sSet 9 (eFrz (fAdd (eVar 9) (eFrz (fLst (aCons (eTup (aCons (eC (.str "ask")) (aCons (eC (.str "!=")) (aCons (eTup (aCons (eVar 2) (aCons (eVar 2) (aNil)))) (aCons (eTup (aCons (eVar 1) (aCons (eVar 1) (aNil)))) (aNil)))))) (aCons (eTup (aCons (eC (.str "test")) (aCons (eTup (aCons (eC (.str "parameter")) (aCons (eC (.int 0)) (aNil)))) (aCons (eVar 3) (aNil))))) (aNil)))))))) (sRet (eOp2 opEq2 (eFrz (fComp (iX (eVar 9)) [8] (gN 8) (tV (eOp2 opNe (eCall (c .f__law_word) (aCons (eCall (c .f__law_with_tree) (aCons (eVar 0) (aCons (eVar 8) (aNil)))) (aNil))) (eC (.str "good")))) (eVar 8))) (eFrz (fLst (aNil))))))))))))))))))))
theorem ok__law_asks (Z : All K w mg) (ih : ∀ f, FnOk P w K mg base (L2.CX P w) n (He.ga K (nm f)) (fdAt K (He.ga K (nm f))) (prm f) (spOf ⟨K, w⟩ (prm f).length (c f))) : FnOk P w K mg base (L2.CX P w) (n + 1) (He.ga K "_law_asks") (fdAt K (He.ga K "_law_asks")) ["_law_source_here"] (spOf ⟨K, w⟩ 1 (fBody 10 (b__law_asks c))) :=
  fn_okD (fn__law_asks Z) sc__law_asks rfl fun cdv A outer s H E hr tk po => iss_cons (is_unp rfl (ie_tup (ia_cons (ie_call0 (ih .f__law_leaf) hr rfl (mg__law_leaf Z) (kp__law_leaf Z) (bd__law_leaf Z)) (ia_cons (ie_tup (ia_cons (ie_str) (ia_nil))) (ia_nil)))) (igs_cons (ig_name (i := 1) sc__law_asks.nd rfl (by first | exact Or.inl rfl | exact Or.inr rfl)) (igs_cons (ig_name (i := 2) sc__law_asks.nd rfl (by first | exact Or.inl rfl | exact Or.inr rfl)) (igs_nil)))) (iss_cons (is_set (i := 3) sc__law_asks.nd rfl (by first | exact Or.inl rfl | exact Or.inr rfl) (ie_tup (ia_cons (ie_var (pv 1)) (ia_cons (ie_var (pv 1)) (ia_cons (ie_var (pv 1)) (ia_nil)))))) (iss_cons (is_setO (i := 4) sc__law_asks.nd rfl (by first | exact Or.inl rfl | exact Or.inr rfl) (if_lst (ia_nil))) (iss_cons (is_for po rfl (ii_x (ie_frz (if_lst (ia_cons (ie_tup (ia_cons (ie_str) (ia_cons (ie_int) (ia_nil)))) (ia_cons (ie_tup (ia_cons (ie_str) (ia_cons (ie_int) (ia_nil)))) (ia_cons (ie_tup (ia_cons (ie_str) (ia_cons (ie_int) (ia_nil)))) (ia_cons (ie_tup (ia_cons (ie_str) (ia_cons (ie_int) (ia_nil)))) (ia_cons (ie_tup (ia_cons (ie_str) (ia_cons (ie_int) (ia_nil)))) (ia_cons (ie_tup (ia_cons (ie_str) (ia_cons (ie_int) (ia_nil)))) (ia_cons (ie_tup (ia_cons (ie_str) (ia_cons (ie_int) (ia_nil)))) (ia_cons (ie_tup (ia_cons (ie_non) (ia_cons (ie_int) (ia_nil)))) (ia_nil)))))))))))) (ig_tup rfl (igs_cons (ig_name (i := 5) sc__law_asks.nd rfl (by first | exact Or.inl rfl | exact Or.inr rfl)) (igs_cons (ig_name (i := 6) sc__law_asks.nd rfl (by first | exact Or.inl rfl | exact Or.inr rfl)) (igs_nil)))) (iss_one (is_appO (pv 4) (ie_tup (ia_cons (ie_str) (ia_cons (ie_var (pv 5)) (ia_cons (ie_op op_repA sp_repA (ib_of (ie_tup (ia_cons (ie_var (pv 2)) (ia_nil)))) (ib_of (ie_var (pv 6)))) (ia_cons (ie_tup (ia_cons (ie_var (pv 1)) (ia_cons (ie_var (pv 1)) (ia_nil)))) (ia_nil))))))))) (iss_cons (is_for po rfl (ii_x (ie_frz (if_lst (ia_cons (ie_tup (ia_cons (ie_str) (ia_cons (ie_int) (ia_nil)))) (ia_cons (ie_tup (ia_cons (ie_frz (if_lst (ia_cons (ie_str) (ia_nil)))) (ia_cons (ie_int) (ia_nil)))) (ia_cons (ie_tup (ia_cons (ie_str) (ia_cons (ie_int) (ia_nil)))) (ia_cons (ie_tup (ia_cons (ie_str) (ia_cons (ie_int) (ia_nil)))) (ia_cons (ie_tup (ia_cons (ie_str) (ia_cons (ie_int) (ia_nil)))) (ia_cons (ie_tup (ia_cons (ie_int) (ia_cons (ie_int) (ia_nil)))) (ia_nil)))))))))) (ig_tup rfl (igs_cons (ig_name (i := 5) sc__law_asks.nd rfl (by first | exact Or.inl rfl | exact Or.inr rfl)) (igs_cons (ig_name (i := 6) sc__law_asks.nd rfl (by first | exact Or.inl rfl | exact Or.inr rfl)) (igs_nil)))) (iss_one (is_appO (pv 4) (ie_tup (ia_cons (ie_str) (ia_cons (ie_var (pv 5)) (ia_cons (ie_op op_repA sp_repA (ib_of (ie_tup (ia_cons (ie_var (pv 2)) (ia_nil)))) (ib_of (ie_var (pv 6)))) (ia_cons (ie_tup (ia_cons (ie_var (pv 1)) (ia_cons (ie_var (pv 1)) (ia_nil)))) (ia_nil))))))))) (iss_cons (is_for po rfl (ii_x (ie_frz (if_lst (ia_cons (ie_frz (if_lst (ia_cons (ie_var (pv 1)) (ia_cons (ie_var (pv 1)) (ia_nil))))) (ia_cons (ie_tup (ia_cons (ie_var (pv 1)) (ia_nil))) (ia_cons (ie_var (pv 3)) (ia_cons (ie_tup (ia_cons (ie_var (pv 1)) (ia_cons (ie_non) (ia_nil)))) (ia_cons (ie_tup (ia_cons (ie_non) (ia_cons (ie_var (pv 1)) (ia_nil)))) (ia_cons (ie_tup (ia_nil)) (ia_cons (ie_non) (ia_nil))))))))))) (ig_name (i := 7) sc__law_asks.nd rfl (by first | exact Or.inl rfl | exact Or.inr rfl)) (iss_one (is_appO (pv 4) (ie_tup (ia_cons (ie_str) (ia_cons (ie_str) (ia_cons (ie_tup (ia_nil)) (ia_cons (ie_var (pv 7)) (ia_nil))))))))) (iss_cons (is_for po rfl (ii_x (ie_frz (if_lst (ia_cons (ie_frz (if_list rfl (z_list Z) (ib_of (ie_var (pv 3))))) (ia_cons (ie_tup (ia_cons (ie_var (pv 1)) (ia_cons (ie_var (pv 1)) (ia_nil)))) (ia_cons (ie_op op_add4 sp_add (ib_of (ie_var (pv 3))) (ib_of (ie_tup (ia_cons (ie_var (pv 1)) (ia_nil))))) (ia_cons (ie_tup (ia_cons (ie_var (pv 1)) (ia_cons (ie_non) (ia_cons (ie_var (pv 1)) (ia_nil))))) (ia_cons (ie_tup (ia_cons (ie_var (pv 1)) (ia_cons (ie_var (pv 1)) (ia_cons (ie_tup (ia_nil)) (ia_nil))))) (ia_cons (ie_tup (ia_nil)) (ia_cons (ie_non) (ia_nil))))))))))) (ig_name (i := 7) sc__law_asks.nd rfl (by first | exact Or.inl rfl | exact Or.inr rfl)) (iss_one (is_appO (pv 4) (ie_tup (ia_cons (ie_str) (ia_cons (ie_tup (ia_cons (ie_str) (ia_cons (ie_int) (ia_nil)))) (ia_cons (ie_var (pv 7)) (ia_nil)))))))) (iss_cons (is_setO (i := 4) sc__law_asks.nd rfl (by first | exact Or.inl rfl | exact Or.inr rfl) (if_add (ib_brw (pv 4)) (ib_of (ie_frz (if_lst (ia_cons (ie_tup (ia_cons (ie_str) (ia_cons (ie_str) (ia_cons (ie_frz (if_lst (ia_nil))) (ia_cons (ie_tup (ia_cons (ie_var (pv 1)) (ia_cons (ie_var (pv 1)) (ia_nil)))) (ia_nil)))))) (ia_cons (ie_tup (ia_cons (ie_str) (ia_cons (ie_str) (ia_cons (ie_non) (ia_cons (ie_tup (ia_cons (ie_var (pv 1)) (ia_cons (ie_var (pv 1)) (ia_nil)))) (ia_nil)))))) (ia_cons (ie_tup (ia_cons (ie_str) (ia_cons (ie_str) (ia_cons (ie_tup (ia_nil)) (ia_nil))))) (ia_cons (ie_tup (ia_cons (ie_str) (ia_cons (ie_var (pv 3)) (ia_nil)))) (ia_nil)))))))))) (iss_cons (is_setO (i := 4) sc__law_asks.nd rfl (by first | exact Or.inl rfl | exact Or.inr rfl) (if_add (ib_brw (pv 4)) (ib_of (ie_frz (if_lst (ia_cons (ie_tup (ia_cons (ie_str) (ia_cons (ie_str) (ia_cons (ie_tup (ia_nil)) (ia_cons (ie_tup (ia_cons (ie_var (pv 1)) (ia_cons (ie_var (pv 1)) (ia_nil)))) (ia_cons (ie_int) (ia_nil))))))) (ia_cons (ie_tup (ia_cons (ie_str) (ia_cons (ie_tup (ia_cons (ie_str) (ia_cons (ie_int) (ia_nil)))) (ia_cons (ie_var (pv 3)) (ia_cons (ie_int) (ia_nil)))))) (ia_nil)))))))) (iss_cons (is_appO (pv 4) (ie_frz (if_lst (ia_cons (ie_str) (ia_cons (ie_tup (ia_cons (ie_str) (ia_cons (ie_int) (ia_nil)))) (ia_cons (ie_var (pv 3)) (ia_nil))))))) (iss_cons (is_appO (pv 4) (ie_tup (ia_cons (ie_str) (ia_cons (ie_str) (ia_cons (ie_tup (ia_nil)) (ia_cons (ie_tup (ia_cons (ie_var (pv 1)) (ia_cons (ie_tup (ia_cons (ie_str) (ia_cons (ie_tup (ia_cons (ie_str) (ia_cons (ie_int) (ia_nil)))) (ia_cons (ie_var (pv 3)) (ia_nil))))) (ia_nil)))) (ia_nil))))))) (iss_cons (is_appO (pv 4) (ie_tup (ia_cons (ie_str) (ia_cons (ie_str) (ia_cons (ie_tup (ia_nil)) (ia_cons (ie_tup (ia_cons (ie_var (pv 1)) (ia_cons (ie_tup (ia_cons (ie_str) (ia_cons (ie_str) (ia_cons (ie_tup (ia_cons (ie_tup (ia_cons (ie_str) (ia_cons (ie_int) (ia_nil)))) (ia_nil))) (ia_cons (ie_tup (ia_cons (ie_var (pv 1)) (ia_cons (ie_var (pv 1)) (ia_nil)))) (ia_nil)))))) (ia_nil)))) (ia_nil))))))) (iss_cons (is_appO (pv 4) (ie_call tk (ih .f__law_behind) hr rfl (mg__law_behind Z) (kp__law_behind Z) (bd__law_behind Z) (am_cons (am_nil)) (ia_cons (ie_tup (ia_cons (ie_str) (ia_cons (ie_str) (ia_cons (ie_tup (ia_cons (ie_tup (ia_cons (ie_str) (ia_cons (ie_int) (ia_nil)))) (ia_cons (ie_tup (ia_cons (ie_str) (ia_cons (ie_int) (ia_nil)))) (ia_nil)))) (ia_cons (ie_tup (ia_cons (ie_var (pv 1)) (ia_cons (ie_var (pv 1)) (ia_nil)))) (ia_nil)))))) (ia_nil)))) (iss_cons (is_if (it_cmp (op_neD hr.units) sp_ne (ib_of (ie_frz (if_cq [("_law_tree", 8)] rfl rfl sc__law_asks.nd (iib_b (ib_brw (pv 4))) (blkOk_by (N := N__law_asks) (sc := defScope s__law_asks) (by decide +kernel)) (fun _ _ _ _ _ => ig_name (i := 8) sc__law_asks.nd rfl (by first | exact Or.inl rfl | exact Or.inr rfl)) (fun _ _ _ _ _ => its_one (it_cmp (op_neD hr.units) sp_ne (ib_of (ie_call takes0 (ih .f__law_word) hr rfl (mg__law_word Z) (kp__law_word Z) (bd__law_word Z) (am_cons (am_nil)) (ia_cons (ie_call takes0 (ih .f__law_with_tree) hr rfl (mg__law_with_tree Z) (kp__law_with_tree Z) (bd__law_with_tree Z) (am_cons (am_cons (am_nil))) (ia_cons (ie_var (pv 0)) (ia_cons (ie_var (pv 8)) (ia_nil)))) (ia_nil)))) (ib_of (ie_str)) (nomark _))) (fun _ _ _ _ _ => ie_var (pv 8)) (by decide)))) (ib_of (ie_frz (if_lst (ia_nil)))) (nomark _)) (iss_one (is_ret (ie_bl))) (iss_nil)) (iss_cons (is_cqV (i := 9) [("_law_many", 6)] rfl rfl sc__law_asks.nd rfl rfl (sw_true rfl rfl rfl (by decide +kernel)) (iib_of (ii_r1 rfl (z_range Z) (ie_int))) (blkOk_by (N := N__law_asks) (sc := defScope s__law_asks) (by decide +kernel)) (fun _ _ _ _ _ => ig_name (i := 6) sc__law_asks.nd rfl (by first | exact Or.inl rfl | exact Or.inr rfl)) (fun _ _ _ _ _ => its_nil) (fun _ _ _ _ _ => ie_tup (ia_cons (ie_str) (ia_cons (ie_str) (ia_cons (ie_op op_repA sp_repA (ib_of (ie_tup (ia_cons (ie_var (pv 2)) (ia_nil)))) (ib_of (ie_var (pv 6)))) (ia_cons (ie_tup (ia_cons (ie_var (pv 1)) (ia_cons (ie_var (pv 1)) (ia_nil)))) (ia_nil)))))) (by decide)) (iss_cons (is_set (i := 9) sc__law_asks.nd rfl (by first | exact Or.inl rfl | exact Or.inr rfl) (ie_frz (if_add (ib_of (ie_var (pv 9))) (ib_of (ie_frz (if_lst (ia_cons (ie_tup (ia_cons (ie_str) (ia_cons (ie_str) (ia_cons (ie_tup (ia_cons (ie_var (pv 2)) (ia_cons (ie_var (pv 2)) (ia_nil)))) (ia_cons (ie_tup (ia_cons (ie_var (pv 1)) (ia_cons (ie_var (pv 1)) (ia_nil)))) (ia_nil)))))) (ia_cons (ie_tup (ia_cons (ie_str) (ia_cons (ie_tup (ia_cons (ie_str) (ia_cons (ie_int) (ia_nil)))) (ia_cons (ie_var (pv 3)) (ia_nil))))) (ia_nil))))))))) (iss_one (is_ret (ie_cmp (op_eqL hr.units) sp_eq2 (ib_of (ie_frz (if_cq [("_law_tree", 8)] rfl rfl sc__law_asks.nd (iib_of (ii_x (ie_var (pv 9)))) (blkOk_by (N := N__law_asks) (sc := defScope s__law_asks) (by decide +kernel)) (fun _ _ _ _ _ => ig_name (i := 8) sc__law_asks.nd rfl (by first | exact Or.inl rfl | exact Or.inr rfl)) (fun _ _ _ _ _ => its_one (it_cmp (op_neD hr.units) sp_ne (ib_of (ie_call takes0 (ih .f__law_word) hr rfl (mg__law_word Z) (kp__law_word Z) (bd__law_word Z) (am_cons (am_nil)) (ia_cons (ie_call takes0 (ih .f__law_with_tree) hr rfl (mg__law_with_tree Z) (kp__law_with_tree Z) (bd__law_with_tree Z) (am_cons (am_cons (am_nil))) (ia_cons (ie_var (pv 0)) (ia_cons (ie_var (pv 8)) (ia_nil)))) (ia_nil)))) (ib_of (ie_str)) (nomark _))) (fun _ _ _ _ _ => ie_var (pv 8)) (by decide)))) (ib_of (ie_frz (if_lst (ia_nil)))) (nomark _)))))))))))))))))))
def b__law_long (c : Call) : SM := sSeq (sSet 1 (eCall0 (c .f__law_leaf))) (sSeq (sSet 2 (eVar 1)) (sSeq (sFor (iR1 (eC (.int 7))) (gN 3) (sSeq (sIf (tAndM (tV (eOp2 opEq2 (eVar 3) (eC (.int 6)))) (tV (eOp2 opNe (eCall (c .f__law_word) (aCons (eTup (aCons (eTup (aCons (eC (.str "p")) (aNil))) (aCons (eC (.int 0)) (aCons (eTup (aCons (eTup (aCons (eC (.int 0)) (aCons (eVar 2) (aNil)))) (aNil))) (aNil))))) (aNil))) (eC (.str "good"))))) (sRet (eC (.bl false))) (sNil)) (sSet 2 (eTup (aCons (eC (.str "ask")) (aCons (eC (.str "f")) (aCons (eTup (aNil)) (aCons (eOp2 opIx (eFrz (fLst (aCons (eTup (aCons (eVar 2) (aCons (eVar 1) (aNil)))) (aCons (eTup (aCons (eVar 1) (aCons (eVar 2) (aNil)))) (aNil))))) (eCall (c .f__law_draw) (aCons (eVar 0) (aCons (eC (.int 2)) (aNil))))) (aNil))))))))) (sSeq (sIf (tV (eOp2 opNe (eCall (c .f__law_word) (aCons (eTup (aCons (eTup (aCons (eC (.str "p")) (aNil))) (aCons (eC (.int 0)) (aCons (eTup (aCons (eTup (aCons (eC (.int 0)) (aCons (eVar 2) (aNil)))) (aNil))) (aNil))))) (aNil))) (eC (.str "machine")))) (sRet (eC (.bl false))) (sNil)) (sSeq (sSet 4 (eVar 1)) (sSeq (sSet 5 (eC (.int 0))) (sSeq (sFor (iR2 (eC (.int 2)) (eC (.int 32))) (gN 6) (sSeq (sSet 7 (eCall (c .f__law_draw) (aCons (eVar 0) (aCons (eC (.int 5)) (aNil))))) (sSeq (sIf (tAndM (tV (eOp2 opLt (eVar 7) (eC (.int 2)))) (tV (eOp2 opLt (eVar 5) (eC (.int 6))))) (sSeq (sSet 5 (eOp2 opAdd (eVar 5) (eC (.int 1)))) (sSet 4 (eTup (aCons (eC (.str "ask")) (aCons (eC (.str "f")) (aCons (eTup (aNil)) (aCons (eOp2 opIx (eFrz (fLst (aCons (eTup (aCons (eVar 4) (aCons (eVar 1) (aNil)))) (aCons (eTup (aCons (eVar 1) (aCons (eVar 4) (aNil)))) (aNil))))) (eVar 7)) (aNil)))))))) (sSeq (sSetO 8 (fLst (aCons (eVar 1) (aCons (eVar 1) (aCons (eVar 1) (aNil)))))) (sSeq (sPutO 8 (eOp2 opMod (eVar 7) (eC (.int 3))) (eVar 4)) (sSet 4 (eTup (aCons (eC (.str "test")) (aCons (eTup (aCons (eC (.str "parameter")) (aCons (eC (.int 0)) (aNil)))) (aCons (eOp1 opTuple (eBrw 8)) (aNil))))))))) (sIf (tV (eOp2 opNe (eCall (c .f__law_word) (aCons (eTup (aCons (eTup (aCons (eC (.str "p")) (aNil))) (aCons (eC (.int 0)) (aCons (eTup (aCons (eTup (aCons (eC (.int 0)) (aCons (eVar 4) (aNil)))) (aNil))) (aNil))))) (aNil))) (eOp2 opIx (eFrz (fLst (aCons (eC (.str "good")) (aCons (eC (.str "machine")) (aNil))))) (eOp1 opInt (eOp2 opEq2 (eVar 6) (eC (.int 31))))))) (sRet (eC (.bl false))) (sNil))))) (sRet (eC (.bl true)))))))))
theorem ok__law_long (Z : All K w mg) (ih : ∀ f, FnOk P w K mg base (L2.CX P w) n (He.ga K (nm f)) (fdAt K (He.ga K (nm f))) (prm f) (spOf ⟨K, w⟩ (prm f).length (c f))) : FnOk P w K mg base (L2.CX P w) (n + 1) (He.ga K "_law_long") (fdAt K (He.ga K "_law_long")) ["_law_source_here"] (spOf ⟨K, w⟩ 1 (fBody 9 (b__law_long c))) :=
  fn_okD (fn__law_long Z) sc__law_long rfl fun cdv A outer s H E hr tk po => iss_cons (is_set (i := 1) sc__law_long.nd rfl (by first | exact Or.inl rfl | exact Or.inr rfl) (ie_call0 (ih .f__law_leaf) hr rfl (mg__law_leaf Z) (kp__law_leaf Z) (bd__law_leaf Z))) (iss_cons (is_set (i := 2) sc__law_long.nd rfl (by first | exact Or.inl rfl | exact Or.inr rfl) (ie_var (pv 1))) (iss_cons (is_for po rfl (ii_r1 rfl (z_range Z) (ie_int)) (ig_name (i := 3) sc__law_long.nd rfl (by first | exact Or.inl rfl | exact Or.inr rfl)) (iss_cons (is_if (it_w (iw_and (it_cmp (op_eqL hr.units) sp_eq2 (ib_of (ie_var (pv 3))) (ib_of (ie_int)) (nomark _)) (iw_and1 (it_cmp (op_neD hr.units) sp_ne (ib_of (ie_call tk (ih .f__law_word) hr rfl (mg__law_word Z) (kp__law_word Z) (bd__law_word Z) (am_cons (am_nil)) (ia_cons (ie_tup (ia_cons (ie_tup (ia_cons (ie_str) (ia_nil))) (ia_cons (ie_int) (ia_cons (ie_tup (ia_cons (ie_tup (ia_cons (ie_int) (ia_cons (ie_var (pv 2)) (ia_nil)))) (ia_nil))) (ia_nil))))) (ia_nil)))) (ib_of (ie_str)) (nomark _))))) (iss_one (is_ret (ie_bl))) (iss_nil)) (iss_one (is_set (i := 2) sc__law_long.nd rfl (by first | exact Or.inl rfl | exact Or.inr rfl) (ie_tup (ia_cons (ie_str) (ia_cons (ie_str) (ia_cons (ie_tup (ia_nil)) (ia_cons (ie_ix (ib_of (ie_frz (if_lst (ia_cons (ie_tup (ia_cons (ie_var (pv 2)) (ia_cons (ie_var (pv 1)) (ia_nil)))) (ia_cons (ie_tup (ia_cons (ie_var (pv 1)) (ia_cons (ie_var (pv 2)) (ia_nil)))) (ia_nil)))))) (ib_of (ie_call tk (ih .f__law_draw) hr rfl (mg__law_draw Z) (kp__law_draw Z) (bd__law_draw Z) (am_cons (am_cons (am_nil))) (ia_cons (ie_var (pv 0)) (ia_cons (ie_int) (ia_nil))))) (fun _ _ => rfl)) (ia_nil)))))))))) (iss_cons (is_if (it_cmp (op_neD hr.units) sp_ne (ib_of (ie_call tk (ih .f__law_word) hr rfl (mg__law_word Z) (kp__law_word Z) (bd__law_word Z) (am_cons (am_nil)) (ia_cons (ie_tup (ia_cons (ie_tup (ia_cons (ie_str) (ia_nil))) (ia_cons (ie_int) (ia_cons (ie_tup (ia_cons (ie_tup (ia_cons (ie_int) (ia_cons (ie_var (pv 2)) (ia_nil)))) (ia_nil))) (ia_nil))))) (ia_nil)))) (ib_of (ie_str)) (nomark _)) (iss_one (is_ret (ie_bl))) (iss_nil)) (iss_cons (is_set (i := 4) sc__law_long.nd rfl (by first | exact Or.inl rfl | exact Or.inr rfl) (ie_var (pv 1))) (iss_cons (is_set (i := 5) sc__law_long.nd rfl (by first | exact Or.inl rfl | exact Or.inr rfl) (ie_int)) (iss_cons (is_for po rfl (ii_r2 rfl (z_range Z) (ie_int) (ie_int)) (ig_name (i := 6) sc__law_long.nd rfl (by first | exact Or.inl rfl | exact Or.inr rfl)) (iss_cons (is_set (i := 7) sc__law_long.nd rfl (by first | exact Or.inl rfl | exact Or.inr rfl) (ie_call tk (ih .f__law_draw) hr rfl (mg__law_draw Z) (kp__law_draw Z) (bd__law_draw Z) (am_cons (am_cons (am_nil))) (ia_cons (ie_var (pv 0)) (ia_cons (ie_int) (ia_nil))))) (iss_cons (is_if (it_w (iw_and (it_cmp op_lt sp_lt (ib_of (ie_var (pv 7))) (ib_of (ie_int)) (nomark _)) (iw_and1 (it_cmp op_lt sp_lt (ib_of (ie_var (pv 5))) (ib_of (ie_int)) (nomark _))))) (iss_cons (is_set (i := 5) sc__law_long.nd rfl (by first | exact Or.inl rfl | exact Or.inr rfl) (ie_op op_add4 sp_add (ib_of (ie_var (pv 5))) (ib_of (ie_int)))) (iss_one (is_set (i := 4) sc__law_long.nd rfl (by first | exact Or.inl rfl | exact Or.inr rfl) (ie_tup (ia_cons (ie_str) (ia_cons (ie_str) (ia_cons (ie_tup (ia_nil)) (ia_cons (ie_ix (ib_of (ie_frz (if_lst (ia_cons (ie_tup (ia_cons (ie_var (pv 4)) (ia_cons (ie_var (pv 1)) (ia_nil)))) (ia_cons (ie_tup (ia_cons (ie_var (pv 1)) (ia_cons (ie_var (pv 4)) (ia_nil)))) (ia_nil)))))) (ib_of (ie_var (pv 7))) (fun _ _ => rfl)) (ia_nil))))))))) (iss_cons (is_setO (i := 8) sc__law_long.nd rfl (by first | exact Or.inl rfl | exact Or.inr rfl) (if_lst (ia_cons (ie_var (pv 1)) (ia_cons (ie_var (pv 1)) (ia_cons (ie_var (pv 1)) (ia_nil)))))) (iss_cons (is_putO (pv 8) (ie_op op_mod sp_mod (ib_of (ie_var (pv 7))) (ib_of (ie_int))) (ie_var (pv 4))) (iss_one (is_set (i := 4) sc__law_long.nd rfl (by first | exact Or.inl rfl | exact Or.inr rfl) (ie_tup (ia_cons (ie_str) (ia_cons (ie_tup (ia_cons (ie_str) (ia_cons (ie_int) (ia_nil)))) (ia_cons (ie_t1 call_tuple_of sp_tuple rfl (z_tuple Z) (by decide +kernel) (ib_brw (pv 8))) (ia_nil)))))))))) (iss_one (is_if (it_cmp (op_neD hr.units) sp_ne (ib_of (ie_call tk (ih .f__law_word) hr rfl (mg__law_word Z) (kp__law_word Z) (bd__law_word Z) (am_cons (am_nil)) (ia_cons (ie_tup (ia_cons (ie_tup (ia_cons (ie_str) (ia_nil))) (ia_cons (ie_int) (ia_cons (ie_tup (ia_cons (ie_tup (ia_cons (ie_int) (ia_cons (ie_var (pv 4)) (ia_nil)))) (ia_nil))) (ia_nil))))) (ia_nil)))) (ib_of (ie_ix (ib_of (ie_frz (if_lst (ia_cons (ie_str) (ia_cons (ie_str) (ia_nil)))))) (ib_of (ie_t1 call_int1 sp_int rfl (z_int Z) (by decide +kernel) (ib_of (ie_cmp (op_eqL hr.units) sp_eq2 (ib_of (ie_var (pv 6))) (ib_of (ie_int)) (nomark _))))) (fun _ _ => rfl))) (nomark _)) (iss_one (is_ret (ie_bl))) (iss_nil)))))) (iss_one (is_ret (ie_bl)))))))))
def b__law_wholes (c : Call) : SM := sSeq (sSet 1 (eCall0 (c .f__law_leaf))) (sSeq (sUnp (eCall (c .f__law_with_tree) (aCons (eVar 0) (aCons (eVar 1) (aNil)))) ([2, 3, 4])) (sSeq (sSet 5 (eTup (aCons (eVar 2) (aCons (eVar 3) (aCons (eVar 4) (aNil)))))) (sSeq (sSet 6 (eTup (aCons (eC (.str "end")) (aCons (eTup (aCons (eC (.str "value")) (aCons (eTup (aCons (eC (.str "place")) (aCons (eC (.int 0)) (aNil)))) (aNil)))) (aCons (eC (.int 0)) (aCons (eTup (aCons (eTup (aCons (eC (.str "place")) (aCons (eC (.int 0)) (aNil)))) (aNil))) (aNil))))))) (sSeq (sSet 7 (eTup (aCons (eTup (aCons (eC (.int 1)) (aCons (eVar 6) (aNil)))) (aCons (eTup (aCons (eC (.int 0)) (aCons (eTup (aCons (eC (.str "end")) (aCons (eTup (aCons (eC (.str "value")) (aCons (eTup (aCons (eC (.str "none")) (aNil))) (aNil)))) (aCons (eC (.int 1)) (aCons (eTup (aNil)) (aNil)))))) (aNil)))) (aNil))))) (sSeq (sSetO 8 (fLst (aCons (eC .non) (aCons (eFrz (fLst (aNil))) (aCons (eTup (aNil)) (aCons (eFrz (fOp1 opList (eVar 5))) (aCons (eSl (eVar 5) (oNo) (oSome (eC (.int 2)))) (aCons (eOp2 opAdd (eVar 5) (eTup (aCons (eC (.int 0)) (aNil)))) (aCons (eTup (aCons (eVar 2) (aCons (eVar 3) (aCons (eTup (aNil)) (aNil))))) (aNil)))))))))) (sSeq (sSetO 8 (fAdd (eBrw 8) (eFrz (fLst (aCons (eTup (aCons (eVar 2) (aCons (eVar 3) (aCons (eFrz (fOp1 opList (eVar 4))) (aNil))))) (aCons (eTup (aCons (eVar 2) (aCons (eC (.int 0)) (aCons (eVar 7) (aNil))))) (aNil))))))) (sSeq (sFor (iX (eFrz (fLst (aCons (eFrz (fLst (aCons (eC (.str "p")) (aNil)))) (aCons (eTup (aCons (eC (.str "p")) (aCons (eC (.str "p")) (aNil)))) (aCons (eTup (aCons (eC (.str "if")) (aNil))) (aCons (eTup (aCons (eC (.str "p")) (aCons (eC (.str "q")) (aCons (eC (.str "x")) (aNil))))) (aCons (eTup (aCons (eFrz (fLst (aCons (eC (.str "p")) (aNil)))) (aNil))) (aCons (eTup (aCons (eC .non) (aNil))) (aCons (eTup (aCons (eFrz (fDict0)) (aNil))) (aCons (eTup (aCons (eC (.int 1)) (aNil))) (aCons (eTup (aCons (eTup (aCons (eC (.str "p")) (aNil))) (aNil))) (aCons (eC (.int 1)) (aCons (eC .non) (aNil))))))))))))))) (gN 9) (sAppO 8 (eTup (aCons (eVar 9) (aCons (eVar 3) (aCons (eVar 4) (aNil))))))) (sSeq (sFor (iX (eFrz (fLst (aCons (eC (.str "if")) (aCons (eC (.str "Q")) (aCons (eC .non) (aCons (eFrz (fLst (aCons (eC (.str "q")) (aNil)))) (aCons (eC (.str "abcdefghi")) (aCons (eC (.str "")) (aCons (eC (.str "q\n")) (aCons (eC (.int 0)) (aNil)))))))))))) (gN 10) (sSetO 8 (fAdd (eBrw 8) (eFrz (fLst (aCons (eTup (aCons (eTup (aCons (eC (.str "p")) (aCons (eVar 10) (aNil)))) (aCons (eVar 3) (aCons (eVar 4) (aNil))))) (aCons (eTup (aCons (eTup (aCons (eVar 10) (aCons (eC (.str "p")) (aNil)))) (aCons (eVar 3) (aCons (eVar 4) (aNil))))) (aNil)))))))) (sSeq (sSetO 8 (fAdd (eBrw 8) (eFrz (fComp (iX (eFrz (fLst (aCons (eC (.int 1)) (aCons (eC (.int 2)) (aCons (eC (.int 3)) (aCons (eOp1 opNeg (eC (.int 1))) (aCons (eC (.bl true)) (aCons (eC (.bl false)) (aCons (eC .non) (aCons (eC (.str "0")) (aCons (eFrz (fLst (aNil))) (aCons (eOp2 opPow (eC (.int 10)) (eC (.int 25))) (aNil)))))))))))))) [11] (gN 11) (tYesM) (eTup (aCons (eVar 2) (aCons (eVar 11) (aCons (eVar 4) (aNil))))))))) (sSeq (sFor (iX (eFrz (fLst (aCons (eC (.int 9)) (aCons (eOp1 opNeg (eC (.int 1))) (aCons (eC (.bl true)) (aCons (eC .non) (aCons (eC (.str "0")) (aCons (eFrz (fLst (aNil))) (aCons (eTup (aNil)) (aCons (eOp2 opPow (eC (.int 10)) (eC (.int 25))) (aNil)))))))))))) (gN 12) (sAppO 8 (eTup (aCons (eVar 2) (aCons (eVar 3) (aCons (eOp2 opAdd (eVar 4) (eTup (aCons (eTup (aCons (eVar 12) (aCons (eVar 1) (aNil)))) (aNil)))) (aNil))))))) (sSeq (sFor (iX (eFrz (fLst (aCons (eC .non) (aCons (eTup (aNil)) (aCons (eTup (aCons (eC (.int 0)) (aNil))) (aCons (eFrz (fLst (aCons (eC (.int 0)) (aCons (eVar 1) (aNil))))) (aCons (eTup (aCons (eC (.int 0)) (aCons (eVar 1) (aCons (eC (.int 0)) (aNil))))) (aCons (eTup (aCons (eC (.int 0)) (aCons (eC .non) (aNil)))) (aCons (eTup (aCons (eC (.int 0)) (aCons (eTup (aNil)) (aNil)))) (aCons (eVar 1) (aCons (eC (.int 0)) (aNil))))))))))))) (gN 13) (sAppO 8 (eTup (aCons (eVar 2) (aCons (eVar 3) (aCons (eOp2 opAdd (eVar 4) (eTup (aCons (eVar 13) (aNil)))) (aNil))))))) (sSeq (sIf (tV (eOp2 opNe (eFrz (fComp (iB (eBrw 8)) [9] (gN 9) (tV (eOp2 opNe (eCall (c .f__law_word) (aCons (eVar 9) (aNil))) (eC (.str "machine")))) (eVar 9))) (eFrz (fLst (aNil))))) (sRet (eC (.bl false))) (sNil)) (sSeq (sSetO 14 (fLst (aCons (eVar 5) (aCons (eTup (aCons (eTup (aCons (eC (.str "q")) (aNil))) (aCons (eVar 3) (aCons (eVar 4) (aNil))))) (aCons (eTup (aCons (eTup (aCons (eC (.str "p")) (aCons (eC (.str "q")) (aNil)))) (aCons (eVar 3) (aCons (eVar 4) (aNil))))) (aCons (eTup (aCons (eVar 2) (aCons (eC (.int 1)) (aCons (eVar 7) (aNil))))) (aNil))))))) (sSeq (sAppO 14 (eTup (aCons (eVar 2) (aCons (eVar 3) (aCons (eOp2 opAdd (eVar 4) (eTup (aCons (eTup (aCons (eC (.int 8)) (aCons (eVar 1) (aNil)))) (aNil)))) (aNil)))))) (sRet (eOp2 opEq2 (eFrz (fComp (iB (eBrw 14)) [9] (gN 9) (tV (eOp2 opNe (eCall (c .f__law_word) (aCons (eVar 9) (aNil))) (eC (.str "good")))) (eVar 9))) (eFrz (fLst (aNil)))))))))))))))))))
theorem ok__law_wholes (Z : All K w mg) (ih : ∀ f, FnOk P w K mg base (L2.CX P w) n (He.ga K (nm f)) (fdAt K (He.ga K (nm f))) (prm f) (spOf ⟨K, w⟩ (prm f).length (c f))) : FnOk P w K mg base (L2.CX P w) (n + 1) (He.ga K "_law_wholes") (fdAt K (He.ga K "_law_wholes")) ["_law_source_here"] (spOf ⟨K, w⟩ 1 (fBody 15 (b__law_wholes c))) :=
  fn_okD (fn__law_wholes Z) sc__law_wholes rfl fun cdv A outer s H E hr tk po => iss_cons (is_set (i := 1) sc__law_wholes.nd rfl (by first | exact Or.inl rfl | exact Or.inr rfl) (ie_call0 (ih .f__law_leaf) hr rfl (mg__law_leaf Z) (kp__law_leaf Z) (bd__law_leaf Z))) (iss_cons (is_unp rfl (ie_call tk (ih .f__law_with_tree) hr rfl (mg__law_with_tree Z) (kp__law_with_tree Z) (bd__law_with_tree Z) (am_cons (am_cons (am_nil))) (ia_cons (ie_var (pv 0)) (ia_cons (ie_var (pv 1)) (ia_nil)))) (igs_cons (ig_name (i := 2) sc__law_wholes.nd rfl (by first | exact Or.inl rfl | exact Or.inr rfl)) (igs_cons (ig_name (i := 3) sc__law_wholes.nd rfl (by first | exact Or.inl rfl | exact Or.inr rfl)) (igs_cons (ig_name (i := 4) sc__law_wholes.nd rfl (by first | exact Or.inl rfl | exact Or.inr rfl)) (igs_nil))))) (iss_cons (is_set (i := 5) sc__law_wholes.nd rfl (by first | exact Or.inl rfl | exact Or.inr rfl) (ie_tup (ia_cons (ie_var (pv 2)) (ia_cons (ie_var (pv 3)) (ia_cons (ie_var (pv 4)) (ia_nil)))))) (iss_cons (is_set (i := 6) sc__law_wholes.nd rfl (by first | exact Or.inl rfl | exact Or.inr rfl) (ie_tup (ia_cons (ie_str) (ia_cons (ie_tup (ia_cons (ie_str) (ia_cons (ie_tup (ia_cons (ie_str) (ia_cons (ie_int) (ia_nil)))) (ia_nil)))) (ia_cons (ie_int) (ia_cons (ie_tup (ia_cons (ie_tup (ia_cons (ie_str) (ia_cons (ie_int) (ia_nil)))) (ia_nil))) (ia_nil))))))) (iss_cons (is_set (i := 7) sc__law_wholes.nd rfl (by first | exact Or.inl rfl | exact Or.inr rfl) (ie_tup (ia_cons (ie_tup (ia_cons (ie_int) (ia_cons (ie_var (pv 6)) (ia_nil)))) (ia_cons (ie_tup (ia_cons (ie_int) (ia_cons (ie_tup (ia_cons (ie_str) (ia_cons (ie_tup (ia_cons (ie_str) (ia_cons (ie_tup (ia_cons (ie_str) (ia_nil))) (ia_nil)))) (ia_cons (ie_int) (ia_cons (ie_tup (ia_nil)) (ia_nil)))))) (ia_nil)))) (ia_nil))))) (iss_cons (is_setO (i := 8) sc__law_wholes.nd rfl (by first | exact Or.inl rfl | exact Or.inr rfl) (if_lst (ia_cons (ie_non) (ia_cons (ie_frz (if_lst (ia_nil))) (ia_cons (ie_tup (ia_nil)) (ia_cons (ie_frz (if_list rfl (z_list Z) (ib_of (ie_var (pv 5))))) (ia_cons (ie_sl (ib_of (ie_var (pv 5))) (io_none) (io_some (ie_int))) (ia_cons (ie_op op_add4 sp_add (ib_of (ie_var (pv 5))) (ib_of (ie_tup (ia_cons (ie_int) (ia_nil))))) (ia_cons (ie_tup (ia_cons (ie_var (pv 2)) (ia_cons (ie_var (pv 3)) (ia_cons (ie_tup (ia_nil)) (ia_nil))))) (ia_nil)))))))))) (iss_cons (is_setO (i := 8) sc__law_wholes.nd rfl (by first | exact Or.inl rfl | exact Or.inr rfl) (if_add (ib_brw (pv 8)) (ib_of (ie_frz (if_lst (ia_cons (ie_tup (ia_cons (ie_var (pv 2)) (ia_cons (ie_var (pv 3)) (ia_cons (ie_frz (if_list rfl (z_list Z) (ib_of (ie_var (pv 4))))) (ia_nil))))) (ia_cons (ie_tup (ia_cons (ie_var (pv 2)) (ia_cons (ie_int) (ia_cons (ie_var (pv 7)) (ia_nil))))) (ia_nil)))))))) (iss_cons (is_for po rfl (ii_x (ie_frz (if_lst (ia_cons (ie_frz (if_lst (ia_cons (ie_str) (ia_nil)))) (ia_cons (ie_tup (ia_cons (ie_str) (ia_cons (ie_str) (ia_nil)))) (ia_cons (ie_tup (ia_cons (ie_str) (ia_nil))) (ia_cons (ie_tup (ia_cons (ie_str) (ia_cons (ie_str) (ia_cons (ie_str) (ia_nil))))) (ia_cons (ie_tup (ia_cons (ie_frz (if_lst (ia_cons (ie_str) (ia_nil)))) (ia_nil))) (ia_cons (ie_tup (ia_cons (ie_non) (ia_nil))) (ia_cons (ie_tup (ia_cons (ie_frz (if_dict0)) (ia_nil))) (ia_cons (ie_tup (ia_cons (ie_int) (ia_nil))) (ia_cons (ie_tup (ia_cons (ie_tup (ia_cons (ie_str) (ia_nil))) (ia_nil))) (ia_cons (ie_int) (ia_cons (ie_non) (ia_nil))))))))))))))) (ig_name (i := 9) sc__law_wholes.nd rfl (by first | exact Or.inl rfl | exact Or.inr rfl)) (iss_one (is_appO (pv 8) (ie_tup (ia_cons (ie_var (pv 9)) (ia_cons (ie_var (pv 3)) (ia_cons (ie_var (pv 4)) (ia_nil)))))))) (iss_cons (is_for po rfl (ii_x (ie_frz (if_lst (ia_cons (ie_str) (ia_cons (ie_str) (ia_cons (ie_non) (ia_cons (ie_frz (if_lst (ia_cons (ie_str) (ia_nil)))) (ia_cons (ie_str) (ia_cons (ie_str) (ia_cons (ie_str) (ia_cons (ie_int) (ia_nil)))))))))))) (ig_name (i := 10) sc__law_wholes.nd rfl (by first | exact Or.inl rfl | exact Or.inr rfl)) (iss_one (is_setO (i := 8) sc__law_wholes.nd rfl (by first | exact Or.inl rfl | exact Or.inr rfl) (if_add (ib_brw (pv 8)) (ib_of (ie_frz (if_lst (ia_cons (ie_tup (ia_cons (ie_tup (ia_cons (ie_str) (ia_cons (ie_var (pv 10)) (ia_nil)))) (ia_cons (ie_var (pv 3)) (ia_cons (ie_var (pv 4)) (ia_nil))))) (ia_cons (ie_tup (ia_cons (ie_tup (ia_cons (ie_var (pv 10)) (ia_cons (ie_str) (ia_nil)))) (ia_cons (ie_var (pv 3)) (ia_cons (ie_var (pv 4)) (ia_nil))))) (ia_nil)))))))))) (iss_cons (is_setO (i := 8) sc__law_wholes.nd rfl (by first | exact Or.inl rfl | exact Or.inr rfl) (if_add (ib_brw (pv 8)) (ib_of (ie_frz (if_cq [("_law_number", 11)] rfl rfl sc__law_wholes.nd (iib_of (ii_x (ie_frz (if_lst (ia_cons (ie_int) (ia_cons (ie_int) (ia_cons (ie_int) (ia_cons (ie_neg (ib_of (ie_int))) (ia_cons (ie_bl) (ia_cons (ie_bl) (ia_cons (ie_non) (ia_cons (ie_str) (ia_cons (ie_frz (if_lst (ia_nil))) (ia_cons (ie_op op_powB sp_pow (ib_of (ie_int)) (ib_of (ie_int))) (ia_nil))))))))))))))) (blkOk_by (N := N__law_wholes) (sc := defScope s__law_wholes) (by decide +kernel)) (fun _ _ _ _ _ => ig_name (i := 11) sc__law_wholes.nd rfl (by first | exact Or.inl rfl | exact Or.inr rfl)) (fun _ _ _ _ _ => its_nil) (fun _ _ _ _ _ => ie_tup (ia_cons (ie_var (pv 2)) (ia_cons (ie_var (pv 11)) (ia_cons (ie_var (pv 4)) (ia_nil))))) (by decide)))))) (iss_cons (is_for po rfl (ii_x (ie_frz (if_lst (ia_cons (ie_int) (ia_cons (ie_neg (ib_of (ie_int))) (ia_cons (ie_bl) (ia_cons (ie_non) (ia_cons (ie_str) (ia_cons (ie_frz (if_lst (ia_nil))) (ia_cons (ie_tup (ia_nil)) (ia_cons (ie_op op_powB sp_pow (ib_of (ie_int)) (ib_of (ie_int))) (ia_nil)))))))))))) (ig_name (i := 12) sc__law_wholes.nd rfl (by first | exact Or.inl rfl | exact Or.inr rfl)) (iss_one (is_appO (pv 8) (ie_tup (ia_cons (ie_var (pv 2)) (ia_cons (ie_var (pv 3)) (ia_cons (ie_op op_add4 sp_add (ib_of (ie_var (pv 4))) (ib_of (ie_tup (ia_cons (ie_tup (ia_cons (ie_var (pv 12)) (ia_cons (ie_var (pv 1)) (ia_nil)))) (ia_nil))))) (ia_nil)))))))) (iss_cons (is_for po rfl (ii_x (ie_frz (if_lst (ia_cons (ie_non) (ia_cons (ie_tup (ia_nil)) (ia_cons (ie_tup (ia_cons (ie_int) (ia_nil))) (ia_cons (ie_frz (if_lst (ia_cons (ie_int) (ia_cons (ie_var (pv 1)) (ia_nil))))) (ia_cons (ie_tup (ia_cons (ie_int) (ia_cons (ie_var (pv 1)) (ia_cons (ie_int) (ia_nil))))) (ia_cons (ie_tup (ia_cons (ie_int) (ia_cons (ie_non) (ia_nil)))) (ia_cons (ie_tup (ia_cons (ie_int) (ia_cons (ie_tup (ia_nil)) (ia_nil)))) (ia_cons (ie_var (pv 1)) (ia_cons (ie_int) (ia_nil))))))))))))) (ig_name (i := 13) sc__law_wholes.nd rfl (by first | exact Or.inl rfl | exact Or.inr rfl)) (iss_one (is_appO (pv 8) (ie_tup (ia_cons (ie_var (pv 2)) (ia_cons (ie_var (pv 3)) (ia_cons (ie_op op_add4 sp_add (ib_of (ie_var (pv 4))) (ib_of (ie_tup (ia_cons (ie_var (pv 13)) (ia_nil))))) (ia_nil)))))))) (iss_cons (is_if (it_cmp (op_neD hr.units) sp_ne (ib_of (ie_frz (if_cq [("_law_value", 9)] rfl rfl sc__law_wholes.nd (iib_b (ib_brw (pv 8))) (blkOk_by (N := N__law_wholes) (sc := defScope s__law_wholes) (by decide +kernel)) (fun _ _ _ _ _ => ig_name (i := 9) sc__law_wholes.nd rfl (by first | exact Or.inl rfl | exact Or.inr rfl)) (fun _ _ _ _ _ => its_one (it_cmp (op_neD hr.units) sp_ne (ib_of (ie_call takes0 (ih .f__law_word) hr rfl (mg__law_word Z) (kp__law_word Z) (bd__law_word Z) (am_cons (am_nil)) (ia_cons (ie_var (pv 9)) (ia_nil)))) (ib_of (ie_str)) (nomark _))) (fun _ _ _ _ _ => ie_var (pv 9)) (by decide)))) (ib_of (ie_frz (if_lst (ia_nil)))) (nomark _)) (iss_one (is_ret (ie_bl))) (iss_nil)) (iss_cons (is_setO (i := 14) sc__law_wholes.nd rfl (by first | exact Or.inl rfl | exact Or.inr rfl) (if_lst (ia_cons (ie_var (pv 5)) (ia_cons (ie_tup (ia_cons (ie_tup (ia_cons (ie_str) (ia_nil))) (ia_cons (ie_var (pv 3)) (ia_cons (ie_var (pv 4)) (ia_nil))))) (ia_cons (ie_tup (ia_cons (ie_tup (ia_cons (ie_str) (ia_cons (ie_str) (ia_nil)))) (ia_cons (ie_var (pv 3)) (ia_cons (ie_var (pv 4)) (ia_nil))))) (ia_cons (ie_tup (ia_cons (ie_var (pv 2)) (ia_cons (ie_int) (ia_cons (ie_var (pv 7)) (ia_nil))))) (ia_nil))))))) (iss_cons (is_appO (pv 14) (ie_tup (ia_cons (ie_var (pv 2)) (ia_cons (ie_var (pv 3)) (ia_cons (ie_op op_add4 sp_add (ib_of (ie_var (pv 4))) (ib_of (ie_tup (ia_cons (ie_tup (ia_cons (ie_int) (ia_cons (ie_var (pv 1)) (ia_nil)))) (ia_nil))))) (ia_nil)))))) (iss_one (is_ret (ie_cmp (op_eqL hr.units) sp_eq2 (ib_of (ie_frz (if_cq [("_law_value", 9)] rfl rfl sc__law_wholes.nd (iib_b (ib_brw (pv 14))) (blkOk_by (N := N__law_wholes) (sc := defScope s__law_wholes) (by decide +kernel)) (fun _ _ _ _ _ => ig_name (i := 9) sc__law_wholes.nd rfl (by first | exact Or.inl rfl | exact Or.inr rfl)) (fun _ _ _ _ _ => its_one (it_cmp (op_neD hr.units) sp_ne (ib_of (ie_call takes0 (ih .f__law_word) hr rfl (mg__law_word Z) (kp__law_word Z) (bd__law_word Z) (am_cons (am_nil)) (ia_cons (ie_var (pv 9)) (ia_nil)))) (ib_of (ie_str)) (nomark _))) (fun _ _ _ _ _ => ie_var (pv 9)) (by decide)))) (ib_of (ie_frz (if_lst (ia_nil)))) (nomark _))))))))))))))))))
def b_law (c : Call) : SM := sSeq (sSet 1 (eNew (fCall (c .f__law_source) (aCons (eVar 0) (aNil))))) (sSeq (sIf (tOrM (tNotM (tV (eCall (c .f__law_operands) (aCons (eVar 1) (aNil))))) (tOrM (tNotM (tV (eCall (c .f__law_ends) (aCons (eVar 1) (aNil))))) (tNotM (tV (eCall (c .f__law_asks) (aCons (eVar 1) (aNil))))))) (sRet (eC (.bl false))) (sNil)) (sRet (eAndV (eCall (c .f__law_long) (aCons (eVar 1) (aNil))) (eCall (c .f__law_wholes) (aCons (eVar 1) (aNil))))))
theorem ok_law (Z : All K w mg) (ih : ∀ f, FnOk P w K mg base (L2.CX P w) n (He.ga K (nm f)) (fdAt K (He.ga K (nm f))) (prm f) (spOf ⟨K, w⟩ (prm f).length (c f))) : FnOk P w K mg base (L2.CX P w) (n + 1) (He.ga K "law") (fdAt K (He.ga K "law")) ["_law_script"] (spOf ⟨K, w⟩ 1 (fBody 2 (b_law c))) :=
  fn_okD (fn_law Z) sc_law rfl fun cdv A outer s H E hr tk po => iss_cons (is_set (i := 1) sc_law.nd rfl (by first | exact Or.inl rfl | exact Or.inr rfl) (ie_new (if_call tk (ih .f__law_source) hr rfl (mg__law_source Z) (kp__law_source Z) (bd__law_source Z) (am_cons (am_nil)) (ia_cons (ie_var (pv 0)) (ia_nil))))) (iss_cons (is_if (it_w (iw_or (it_not (it_val (ie_call tk (ih .f__law_operands) hr rfl (mg__law_operands Z) (kp__law_operands Z) (bd__law_operands Z) (am_cons (am_nil)) (ia_cons (ie_var (pv 1)) (ia_nil))))) (iw_or (it_not (it_val (ie_call tk (ih .f__law_ends) hr rfl (mg__law_ends Z) (kp__law_ends Z) (bd__law_ends Z) (am_cons (am_nil)) (ia_cons (ie_var (pv 1)) (ia_nil))))) (iw_or1 (it_not (it_val (ie_call tk (ih .f__law_asks) hr rfl (mg__law_asks Z) (kp__law_asks Z) (bd__law_asks Z) (am_cons (am_nil)) (ia_cons (ie_var (pv 1)) (ia_nil))))))))) (iss_one (is_ret (ie_bl))) (iss_nil)) (iss_one (is_ret (ie_and (ie_call tk (ih .f__law_long) hr rfl (mg__law_long Z) (kp__law_long Z) (bd__law_long Z) (am_cons (am_nil)) (ia_cons (ie_var (pv 1)) (ia_nil))) (ie_one (ie_call tk (ih .f__law_wholes) hr rfl (mg__law_wholes Z) (kp__law_wholes Z) (bd__law_wholes Z) (am_cons (am_nil)) (ia_cons (ie_var (pv 1)) (ia_nil))))))))
end
end G
set_option Elab.async false
set_option linter.all false
set_option maxRecDepth 100000
set_option maxHeartbeats 0
namespace G
open PySem PySem.Spec PyProof.Rows L2 ML
abbrev R : PySem.W.OpenRow := PySem.W.OpenLaw.row PySem.Challenge.rw_keptops_k57_wrong_machines
def names : List PySem.Str := (["OperandError", "InvalidHistory", "InvalidMachine", "LETTERS", "WORDS", "CONSTANTS", "SIGNS", "is_name", "KINDS", "ANSWERS", "are_answers", "is_call", "MOST_STATES", "MOST_PLACES", "MOST_EVENTS", "is_number", "is_object", "is_operand", "is_end", "is_asking", "is_tree", "is_machine", "Play", "objects_of", "run_machine", "_law_source", "_law_draw", "_law_pick", "_law_word", "_law_leaf"] : List PySem.Str) ++ (["_law_with_tree", "_law_behind", "_law_spots", "_law_operands", "_law_ends", "_law_asks", "_law_long", "_law_wholes"] : List PySem.Str)
abbrev hk : PySem.W.Hook := hookY 5 fa fn ts sx exK
def ob (s : PySem.W.SharedT) : AlY := obsY 5 fa fn ts sx exK (HandSHeadRun.getT s)
theorem ob_eq (s : PySem.W.SharedT) : ob s = hk.obs s.abs := obsY_eq (HandSHeadRun.getT_eq s)
theorem runF (w : World) : HandSHeadRun.RunEq R (PySem.W.view R.prog [44]) hk ob 30000 names (w.withFollow "special-get-raises" false) := by
  intro os
  kernel_rfl
theorem runT (w : World) : HandSHeadRun.RunEq R (PySem.W.view R.prog [44]) hk ob 30000 names (w.withFollow "special-get-raises" true) := by
  intro os
  kernel_rfl
theorem run (w : World) : HandSHeadRun.RunEq R (PySem.W.view R.prog [44]) hk ob 30000 names w := PySem.W.byRow2 "special-get-raises" runF runT w
end G
set_option Elab.async false
set_option linter.all false
set_option maxRecDepth 100000
set_option maxHeartbeats 0
namespace G
open PySem PySem.Spec PyProof.Rows L2 ML
def call : Nat → Call
  | 0 => fun _ _ _ => .bad
  | n + 1 => fun f => match f with
    | .f_is_name => fBody 2 (b_is_name (call n))
    | .f_are_answers => fBody 2 (b_are_answers (call n))
    | .f_is_call => fBody 3 (b_is_call (call n))
    | .f_is_number => fBody 2 (b_is_number (call n))
    | .f_is_object => fBody 3 (b_is_object (call n))
    | .f_is_operand => fBody 3 (b_is_operand (call n))
    | .f_is_end => fBody 5 (b_is_end (call n))
    | .f_is_asking => fBody 5 (b_is_asking (call n))
    | .f_is_tree => fBody 5 (b_is_tree (call n))
    | .f_is_machine => fBody 5 (b_is_machine (call n))
    | .f_objects_of => fBody 8 (b_objects_of (call n))
    | .f_run_machine => fBody 13 (b_run_machine (call n))
    | .f__law_source => fBody 3 (b__law_source (call n))
    | .f__law_draw => fBody 7 (b__law_draw (call n))
    | .f__law_pick => fBody 2 (b__law_pick (call n))
    | .f__law_word => fBody 3 (b__law_word (call n))
    | .f__law_leaf => fBody 0 (b__law_leaf (call n))
    | .f__law_with_tree => fBody 8 (b__law_with_tree (call n))
    | .f__law_behind => fBody 1 (b__law_behind (call n))
    | .f__law_spots => fBody 6 (b__law_spots (call n))
    | .f__law_operands => fBody 7 (b__law_operands (call n))
    | .f__law_ends => fBody 12 (b__law_ends (call n))
    | .f__law_asks => fBody 10 (b__law_asks (call n))
    | .f__law_long => fBody 9 (b__law_long (call n))
    | .f__law_wholes => fBody 15 (b__law_wholes (call n))
    | .f_law => fBody 2 (b_law (call n))
def lawRun (ns : List Int) : Res RV := call 200 .f_law [.scr ns] []
section
variable {w : World} {K : PySem.W.Frag} {mg : Str → Option Value} {base : Heap}
theorem all_ok (Z : All K w mg) : ∀ (n : Nat) (f : Fn), FnOk P w K mg base (L2.CX P w) n (He.ga K (nm f)) (fdAt K (He.ga K (nm f))) (prm f) (spOf ⟨K, w⟩ (prm f).length (call n f))
  | 0, f => fn_zero fun _ _ => rfl
  | n + 1, f => by
    have ih := all_ok Z n
    cases f with
    | f_is_name => exact ok_is_name Z ih
    | f_are_answers => exact ok_are_answers Z ih
    | f_is_call => exact ok_is_call Z ih
    | f_is_number => exact ok_is_number Z ih
    | f_is_object => exact ok_is_object Z ih
    | f_is_operand => exact ok_is_operand Z ih
    | f_is_end => exact ok_is_end Z ih
    | f_is_asking => exact ok_is_asking Z ih
    | f_is_tree => exact ok_is_tree Z ih
    | f_is_machine => exact ok_is_machine Z ih
    | f_objects_of => exact ok_objects_of Z ih
    | f_run_machine => exact ok_run_machine Z ih
    | f__law_source => exact ok__law_source Z ih
    | f__law_draw => exact ok__law_draw Z ih
    | f__law_pick => exact ok__law_pick Z ih
    | f__law_word => exact ok__law_word Z ih
    | f__law_leaf => exact ok__law_leaf Z ih
    | f__law_with_tree => exact ok__law_with_tree Z ih
    | f__law_behind => exact ok__law_behind Z ih
    | f__law_spots => exact ok__law_spots Z ih
    | f__law_operands => exact ok__law_operands Z ih
    | f__law_ends => exact ok__law_ends Z ih
    | f__law_asks => exact ok__law_asks Z ih
    | f__law_long => exact ok__law_long Z ih
    | f__law_wholes => exact ok__law_wholes Z ih
    | f_law => exact ok_law Z ih
end
end G
set_option Elab.async false
set_option linter.all false
set_option maxRecDepth 100000
set_option maxHeartbeats 4000000
namespace G
open PySem PySem.Spec ML

/-! ### the source of draws -/
/-- at q the source: its cells at p, its turn t -/
structure Src (S : Store) (p q : Nat) (t : Int) : Prop where
  ex : ∃ cs : List Int, S[p]? = some (.lst (cs.map W.int)) ∧ cs ≠ []
  src : S[q]? = some (.lst [.loc p, .int t])
  ne : p ≠ q
  nn : 0 ≤ t
  lim : t < 1000000
theorem at_int {cs : List Int} {t : Int} (h : cs ≠ []) (ht : 0 ≤ t) : ∃ c, L2.atI (cs.map W.int) (t % (cs.length : Int)) = some (.int c) ∧ L2.ixN (cs.map W.int).length (t % (cs.length : Int)) = some (t % (cs.length : Int)).toNat ∧ (t % (cs.length : Int)).toNat < cs.length := by
  have hl : (0 : Int) < cs.length := by
    have := List.length_pos_iff.mpr h
    omega
  have h1 := Int.emod_nonneg t (show (cs.length : Int) ≠ 0 by omega)
  have h2 := Int.emod_lt_of_pos t hl
  have h3 : (t % (cs.length : Int)).toNat < cs.length := by omega
  have e : L2.ixN (cs.map W.int).length (t % (cs.length : Int)) = some (t % (cs.length : Int)).toNat := by
    unfold L2.ixN
    rw [if_pos h1, List.length_map, if_pos (by omega)]
  refine ⟨cs[(t % (cs.length : Int)).toNat], ?_, e, h3⟩
  unfold L2.atI
  rw [e]
  simp [h3]
theorem small_mod {x m : Int} (h : 0 < m) (h2 : m < 2 ^ 60) : small64 (x % m) = true := by
  have h3 := Int.emod_nonneg x (show m ≠ 0 by omega)
  have h4 := Int.emod_lt_of_pos x h
  unfold small64
  simp only [Bool.and_eq_true, decide_eq_true_eq]
  omega
theorem draw_ok {S : Store} {p q : Nat} {t l : Int} (H : Src S p q t) (hl : 0 < l) (hl2 : l < 1073741824) (n : Nat) :
    ∃ d S', call (n + 1) .f__law_draw [.loc q, .int l] S = .ok (.val (.int d)) S' ∧ 0 ≤ d ∧ d < l ∧ ((∃ cs : List Int, S'[p]? = some (.lst (cs.map W.int)) ∧ cs ≠ []) ∧ S'[q]? = some (.lst [.loc p, .int (t + 1)])) ∧ S'.length = S.length ∧ ∀ r, r ≠ p → r ≠ q → S'[r]? = S[r]? := by
  obtain ⟨cs, hc, hn⟩ := H.ex
  obtain ⟨c, a1, a2, a3⟩ := at_int hn H.nn
  have hq : q < S.length := (List.getElem?_eq_some_iff.mp H.src).1
  have hp : p < S.length := (List.getElem?_eq_some_iff.mp hc).1
  have hpos : (0 : Int) < cs.length := by
    have := List.length_pos_iff.mpr hn
    omega
  have cq : ∀ sw, cont sw S (.loc q) = some [.loc p, .int t] := fun sw => ev_cont H.src
  have cp : ∀ sw, cont sw S (.loc p) = some (cs.map W.int) := fun sw => ev_cont hc
  have lq : locL S (.loc q) = some (q, [.loc p, .int t]) := ev_locL H.src
  have S1 : (S.set q (.lst [.loc p, .int (t + 1)]))[p]? = some (.lst (cs.map W.int)) := by
    rw [List.getElem?_set_ne (Ne.symm H.ne)]
    exact hc
  have lp : locL (S.set q (.lst [.loc p, .int (t + 1)])) (.loc p) = some (p, cs.map W.int) := ev_locL S1
  have sm : small64 t = true := by
    have := H.nn
    have := H.lim
    unfold small64
    simp only [Bool.and_eq_true, decide_eq_true_eq]
    omega
  have i1 : L2.ixN 2 1 = some 1 := rfl
  have run : call (n + 1) .f__law_draw [.loc q, .int l] S = if 1000000000000000000 ≤ c then .ok (.val (.int (c % l))) ((S.set q (.lst [.loc p, .int (t + 1)])).set p (.lst ((cs.map W.int).set (t % (cs.length : Int)).toNat (.int (c / l)))))
      else .ok (.val (.int ((((((c % 2147483629 * 48271 + t * t * 69621 + 11) % 2147483647) * ((c % 2147483629 * 48271 + t * t * 69621 + 11) % 2147483647)) % 2147483629) * ((((c % 2147483629 * 48271 + t * t * 69621 + 11) % 2147483647) * ((c % 2147483629 * 48271 + t * t * 69621 + 11) % 2147483647)) % 2147483629)) % 2147483587 % l))) (S.set q (.lst [.loc p, .int (t + 1)])) := by
    show fBody 7 (b__law_draw (call n)) [.loc q, .int l] S = _
    rw [ev_body]
    unfold b__law_draw
    have hpn : 0 < cs.length := List.length_pos_iff.mpr hn
    have k1 : small64 48271 = true := by decide
    have k2 : small64 69621 = true := by decide
    have m1 : ∀ x : Int, small64 (x % 2147483647) = true := fun x => small_mod (by decide) (by decide)
    have m2 : ∀ x : Int, small64 (x % 2147483629) = true := fun x => small_mod (by decide) (by decide)
    rw [List.length_map] at a2
    by_cases hc1 : 1000000000000000000 ≤ c
    · simp [startW, List.replicate, ev_var, cq, cp, setAll, ev_seqc, ev_len, hpn, ev_ix (cp _) a1, lq, i1, bits10, hl, hl2, hc1, lp, a2]
    · simp [startW, List.replicate, ev_var, cq, cp, setAll, ev_seqc, ev_len, hpn, ev_ix (cp _) a1, lq, i1, bits10, hl, hl2, sm, k1, k2, m1, m2, hc1]
  rw [run]
  have hm := Int.emod_nonneg
  by_cases hc1 : 1000000000000000000 ≤ c
  · rw [if_pos hc1]
    refine ⟨_, _, rfl, Int.emod_nonneg _ (by omega), Int.emod_lt_of_pos _ hl, ⟨⟨cs.set (t % (cs.length : Int)).toNat (c / l), ?_, ?_⟩, ?_⟩, by simp, fun r h1 h2 => ?_⟩
    · rw [List.getElem?_set_self (by simpa using hp), List.map_set]
    · intro z
      have := congrArg List.length z
      simp at this
      exact hn this
    · rw [List.getElem?_set_ne H.ne, List.getElem?_set_self hq]
    · rw [List.getElem?_set_ne (Ne.symm h1), List.getElem?_set_ne (Ne.symm h2)]
  · rw [if_neg hc1]
    refine ⟨_, _, rfl, Int.emod_nonneg _ (by omega), Int.emod_lt_of_pos _ hl, ⟨⟨cs, S1, hn⟩, ?_⟩, by simp, fun r h1 h2 => ?_⟩
    · rw [List.getElem?_set_self hq]
    · rw [List.getElem?_set_ne (Ne.symm h2)]
end G
set_option Elab.async false
set_option linter.all false
set_option maxRecDepth 100000
set_option maxHeartbeats 4000000
namespace G
open PySem PySem.Spec ML
def srcBody : SM := sIf (tV (eOp2 opGe (eOp1 opAbs (eOp2 opIx (eVar 1) (eVar 2))) (eOp2 opPow (eC (.int 10)) (eC (.int 18))))) (sPutL (eVar 1) (eVar 2) (eOp2 opMod (eOp1 opInt (eOp2 opIx (eVar 1) (eVar 2))) (eOp2 opPow (eOp2 opPow (eC (.int 10)) (eC (.int 60))) (eC (.int 20))))) (sNil)
theorem at_i {cs : List Int} {j : Int} (h0 : 0 ≤ j) (h1 : j < cs.length) : ∃ c, L2.atI (cs.map W.int) j = some (.int c) ∧ L2.ixN cs.length j = some j.toNat := by
  have h3 : j.toNat < cs.length := by omega
  have e : L2.ixN cs.length j = some j.toNat := by
    unfold L2.ixN
    rw [if_pos h0, if_pos (by omega)]
  refine ⟨cs[j.toNat], ?_, e⟩
  unfold L2.atI
  rw [List.length_map, e]
  simp [h3]
theorem src_loop {x0 : Option Sl} : ∀ (js : List Int) (cs : List Int) (x : Option Sl), (∀ j ∈ js, 0 ≤ j ∧ j < cs.length) →
    ∃ (cs' : List Int) (x' : Option Sl), forW (gN 2) srcBody (js.map W.int) [x0, some (.val (.loc 0)), x] [.lst (cs.map W.int)] = .ok (.nx [x0, some (.val (.loc 0)), x']) [.lst (cs'.map W.int)] ∧ cs'.length = cs.length
  | [], cs, x, _ => ⟨cs, x, rfl, rfl⟩
  | j :: js, cs, x, h => by
    obtain ⟨h0, h1⟩ := h j List.mem_cons_self
    obtain ⟨c, a1, a2⟩ := at_i h0 h1
    have cp : ∀ sw, cont sw [.lst (cs.map W.int)] (.loc 0) = some (cs.map W.int) := fun sw => rfl
    have lp : locL [.lst (cs.map W.int)] (.loc 0) = some (0, cs.map W.int) := rfl
    have step : ∃ cs1 : List Int, srcBody [x0, some (.val (.loc 0)), some (.val (.int j))] [.lst (cs.map W.int)] = .ok (.nx [x0, some (.val (.loc 0)), some (.val (.int j))]) [.lst (cs1.map W.int)] ∧ cs1.length = cs.length := by
      unfold srcBody
      rw [pow18_eq, pow6020_eq]
      by_cases hc : 1000000000000000000 ≤ (if c < 0 then -c else c)
      · refine ⟨cs.set j.toNat (c % tenK), ?_, by simp⟩
        simp [ev_var, ev_ix (cp _) a1, hc, tenK_pos, lp, a2, List.map_set]
      · refine ⟨cs, ?_, rfl⟩
        simp [ev_var, ev_ix (cp _) a1, hc]
    obtain ⟨cs1, e1, l1⟩ := step
    obtain ⟨cs2, x2, e2, l2⟩ := src_loop js cs1 (some (.val (.int j))) fun i hi => by
      rw [l1]
      exact h i (List.mem_cons_of_mem _ hi)
    refine ⟨cs2, x2, ?_, l2.trans l1⟩
    show (match srcBody [x0, some (.val (.loc 0)), some (.val (.int j))] [.lst (cs.map W.int)] with
      | .ok (.nx sw2) S2 => forW (gN 2) srcBody (js.map W.int) sw2 S2
      | .ok (.ct sw2) S2 => forW (gN 2) srcBody (js.map W.int) sw2 S2
      | .ok (.bk sw2) S2 => .ok (.nx sw2) S2
      | .ok (.rt r) S2 => .ok (.rt r) S2
      | .exc c fs vs sw2 S2 => .exc c fs vs sw2 S2
      | .bad => .bad) = _
    rw [e1]
    exact e2
theorem range_ints (n : Nat) : rangeW 0 n = ((List.range n).map fun (i : Nat) => (i : Int)).map W.int := by
  unfold rangeW
  rw [List.map_map]
  congr 1
  funext i
  simp
theorem cut63 (ns : List Int) : ∃ cs : List Int, cutW (ns.map W.int) none (some 63) = cs.map W.int := by
  unfold cutW
  exact ⟨(ns.drop _).take _, by rw [List.map_take, List.map_drop]⟩
theorem dat_nil {sw : SW} {S : Store} : dat sw S 60 (.lst []) = some (.list []) := rfl
theorem mapM_ints {sw : SW} {S : Store} {n : Nat} : ∀ is : List Int, (is.map W.int).mapM (dat sw S n) = some (is.map PyData.int)
  | [] => rfl
  | i :: is => by
    rw [List.map_cons, List.mapM_cons, mapM_ints is]
    cases n <;> rfl
theorem eq_nil {sw : SW} {cs : List Int} : opEq2 sw (.loc 0) (.lst []) [.lst (cs.map W.int)] = .ok (.bl (decide (cs = []))) [.lst (cs.map W.int)] := by
  have e1 : dat sw [.lst (cs.map W.int)] 60 (.loc 0) = some (.list (cs.map PyData.int)) := by
    show ((cs.map W.int).mapM (dat sw [.lst (cs.map W.int)] 59)).map PyData.list = _
    rw [mapM_ints]
    rfl
  have e2 : dat sw [.lst (cs.map W.int)] 60 (.lst []) = some (.list []) := rfl
  unfold opEq2
  rw [e1, e2]
  cases cs with
  | nil => rfl
  | cons c cs =>
    simp [PyData.eqv]
    rfl
theorem cut_len {ns cs0 : List Int} (e0 : cutW (ns.map W.int) none (some 63) = cs0.map W.int) : cs0.length ≤ 63 := by
  have z := congrArg List.length e0
  rw [List.length_map] at z
  rw [← z]
  unfold cutW
  rw [List.length_take]
  refine Nat.le_trans (Nat.min_le_left _ _) ?_
  have e : HT.sIx (ns.map W.int).length (ns.map W.int).length (some 63) = min 63 (ns.map W.int).length := HT.sIx_nat _ _ 63
  rw [e]
  omega
theorem inR_len {n : Nat} (h : n ≤ 63) : inR (n : Int) = true := by
  unfold inR
  simp only [Bool.and_eq_true, decide_eq_true_eq]
  omega
theorem src_sl {ns cs0 : List Int} (e0 : cutW (ns.map W.int) none (some 63) = cs0.map W.int) : fSl (eVar 0) oNo (oSome (eC (.int 63))) (startW 3 [.scr ns]) [] = .ok (.lst (cs0.map W.int)) [] := by
  simp [fSl, oNo, oSome, slsRes, startW, List.replicate, ev_var, e0]
theorem src_b (c : Call) : b__law_source c = sSeq (sSet 1 (eNew (fSl (eVar 0) oNo (oSome (eC (.int 63)))))) (sSeq (sFor (iR1 (eOp1 opLen (eVar 1))) (gN 2) srcBody) (sSeq (sIf (tV (eOp2 opEq2 (eVar 1) (eFrz (fLst (aNil))))) (sSet 1 (eNew (fLst (aCons (eC (.int 0)) (aNil))))) (sNil)) (sRetF (fLst (aCons (eVar 1) (aCons (eC (.int 0)) (aNil))))))) := rfl
theorem src_for {ns cs0 cs1 : List Int} {x1 : Option Sl} {K : SM} (hr : inR (cs0.length : Int) = true)
    (e4 : forW (gN 2) srcBody (rangeW 0 cs0.length) [some (.val (.scr ns)), some (.val (.loc 0)), none] [.lst (cs0.map W.int)] = .ok (.nx [some (.val (.scr ns)), some (.val (.loc 0)), x1]) [.lst (cs1.map W.int)]) :
    sSeq (sFor (iR1 (eOp1 opLen (eVar 1))) (gN 2) srcBody) K [some (.val (.scr ns)), some (.val (.loc 0)), none] [.lst (cs0.map W.int)] = K [some (.val (.scr ns)), some (.val (.loc 0)), x1] [.lst (cs1.map W.int)] := by
  have v1 : eVar 1 [some (.val (.scr ns)), some (.val (.loc 0)), none] [.lst (cs0.map W.int)] = .ok (.loc 0) [.lst (cs0.map W.int)] := rfl
  have cp : ∀ sw, cont sw [.lst (cs0.map W.int)] (.loc 0) = some (cs0.map W.int) := fun sw => rfl
  rw [ev_seq, ev_for, ev_r1, ev_op1, v1, bind_ok, ev_len (cp _), bind_ok, List.length_map]
  dsimp only
  rw [if_pos hr, liftS_ok, Int.toNat_natCast, e4, then_nx]
theorem src_end {ns cs1 : List Int} {x1 : Option Sl} :
    (sSeq (sIf (tV (eOp2 opEq2 (eVar 1) (eFrz (fLst aNil)))) (sSet 1 (eNew (fLst (aCons (eC (.int 0)) aNil)))) sNil) (sRetF (fLst (aCons (eVar 1) (aCons (eC (.int 0)) aNil))))) [some (.val (.scr ns)), some (.val (.loc 0)), x1] [.lst (cs1.map W.int)] =
      if cs1 = [] then .ok (.rt (.fr (.lst [.loc 1, .int 0]))) [.lst [], .lst [.int 0]] else .ok (.rt (.fr (.lst [.loc 0, .int 0]))) [.lst (cs1.map W.int)] := by
  have v2 : ∀ S, eVar 1 [some (.val (.scr ns)), some (.val (.loc 0)), x1] S = .ok (.loc 0) S := fun S => rfl
  have v3 : ∀ S, eVar 1 [some (.val (.scr ns)), some (.val (.loc 1)), x1] S = .ok (.loc 1) S := fun S => rfl
  have f0 : ∀ sw S, eFrz (fLst aNil) sw S = .ok (.lst []) S := fun sw S => frz_of (lst_of rfl (Nat.zero_le _))
  have f1 : ∀ sw S, fLst (aCons (eC (.int 0)) aNil) sw S = .ok (.lst [.int 0]) S := fun sw S => lst_of rfl (by simp)
  have f2 : ∀ sw S k, eVar 1 sw S = .ok (.loc k) S → fLst (aCons (eVar 1) (aCons (eC (.int 0)) aNil)) sw S = .ok (.lst [.loc k, .int 0]) S := fun sw S k h => lst_of (by rw [ev_acons, h]; rfl) (by simp)
  rw [ev_seq, ev_if, ev_tV, ev_op2, v2, bind_ok, f0, bind_ok, eq_nil, bind_ok]
  dsimp only
  rw [liftS_ok]
  by_cases hc : cs1 = []
  · subst hc
    rw [if_pos rfl, if_pos (by simp), ev_set, ev_new, f1, bind_ok, liftS_ok, then_nx]
    show sRetF _ [some (.val (.scr ns)), some (.val (.loc 1)), x1] [.lst [], .lst [.int 0]] = _
    rw [ev_retF, f2 _ _ 1 (v3 _), liftS_ok]
  · rw [if_neg hc, if_neg (by simp [hc]), ev_nil, then_nx, ev_retF, f2 _ _ 0 (v2 _), liftS_ok]
theorem src_ok (ns : List Int) (n : Nat) : ∃ (p : Nat) (cs : List Int) (S : Store), call (n + 1) .f__law_source [.scr ns] [] = .ok (.fr (.lst [.loc p, .int 0])) S ∧ S[p]? = some (.lst (cs.map W.int)) ∧ cs ≠ [] ∧ p < S.length := by
  obtain ⟨cs0, e0⟩ := cut63 ns
  obtain ⟨cs1, x1, e1, l1⟩ := src_loop (x0 := some (.val (.scr ns))) ((List.range cs0.length).map fun (i : Nat) => (i : Int)) cs0 none fun j hj => by
    obtain ⟨i, hi, rfl⟩ := List.mem_map.mp hj
    have := List.mem_range.mp hi
    omega
  have hr := inR_len (cut_len e0)
  have e2 := src_sl e0
  have e4 : forW (gN 2) srcBody (rangeW 0 cs0.length) [some (.val (.scr ns)), some (.val (.loc 0)), none] [.lst (cs0.map W.int)] = .ok (.nx [some (.val (.scr ns)), some (.val (.loc 0)), x1]) [.lst (cs1.map W.int)] := by
    rw [range_ints]
    exact e1
  have cp : ∀ (cs : List Int) sw, cont sw [.lst (cs.map W.int)] (.loc 0) = some (cs.map W.int) := fun cs sw => rfl
  have go : b__law_source (call n) (startW 3 [.scr ns]) [] = if cs1 = [] then .ok (.rt (.fr (.lst [.loc 1, .int 0]))) [.lst [], .lst [.int 0]] else .ok (.rt (.fr (.lst [.loc 0, .int 0]))) [.lst (cs1.map W.int)] := by
    rw [src_b, ev_seq, ev_set, ev_new, e2, bind_ok, liftS_ok, then_nx]
    exact (src_for hr e4).trans src_end
  have main : call (n + 1) .f__law_source [.scr ns] [] = if cs1 = [] then .ok (.fr (.lst [.loc 1, .int 0])) [.lst [], .lst [.int 0]] else .ok (.fr (.lst [.loc 0, .int 0])) [.lst (cs1.map W.int)] := by
    show fBody 3 (b__law_source (call n)) [.scr ns] [] = _
    rw [ev_body, go]
    by_cases hc : cs1 = []
    · rw [if_pos hc, if_pos hc]
    · rw [if_neg hc, if_neg hc]
  rw [main]
  by_cases hc : cs1 = []
  · rw [if_pos hc]
    exact ⟨1, [0], _, rfl, rfl, by simp, by simp⟩
  · rw [if_neg hc]
    exact ⟨0, cs1, _, rfl, rfl, hc, by simp⟩
end G
set_option Elab.async false
set_option linter.all false
set_option maxRecDepth 1000000
set_option maxHeartbeats 4000000
namespace G
open PySem PySem.Spec ML
def leaf : W := .tup [.str "end", .tup [.str "value", .tup [.str "none"]], .int 0, .tup []]
def testW (a b c : W) : W := .tup [.str "test", .tup [.str "parameter", .int 0], .tup [a, b, c]]
def askW (a b : W) : W := .tup [.str "ask", .str "f", .tup [], .tup [a, b]]
def shp (n : Int) (ps : List W) : W := .tup [.int n, .int 1, .lst (.int 0 :: ps)]
def it0 (c : Call) : SM := (sIf (tOrM (tV (eOp2 opEq2 (eVar 3) (eC (.int 0)))) (tOrM (tNotM (tV (eOp1 (opIsi "tuple") (eVar 0)))) (tV (eOp2 opEq2 (eOp1 opLen (eVar 0)) (eC (.int 0)))))) (sRet (eC (.bl false))) (sNil))
def it1 (c : Call) : SM := (sIf (tV (eOp2 opEq2 (eOp2 opIx (eVar 0) (eC (.int 0))) (eC (.str "end")))) (sRet (eCall (c .f_is_end) (aCons (eVar 0) (aCons (eVar 1) (aCons (eVar 2) (aNil)))))) (sNil))
def it2 (c : Call) : SM := (sIf (tV (eOp2 opEq2 (eOp2 opIx (eVar 0) (eC (.int 0))) (eC (.str "ask")))) (sRet (eCall (c .f_is_asking) (aCons (eVar 0) (aCons (eVar 1) (aCons (eVar 2) (aCons (eVar 3) (aNil))))))) (sNil))
def it3 (c : Call) : SM := (sIf (tOrM (tV (eOp2 opNe (eOp2 opIx (eVar 0) (eC (.int 0))) (eC (.str "test")))) (tOrM (tV (eOp2 opNe (eOp1 opLen (eVar 0)) (eC (.int 3)))) (tNotM (tV (eCall (c .f_is_object) (aCons (eOp2 opIx (eVar 0) (eC (.int 1))) (aCons (eVar 1) (aCons (eVar 2) (aNil))))))))) (sRet (eC (.bl false))) (sNil))
def it4 (c : Call) : SM := (sIf (tOrM (tNotM (tV (eOp1 (opIsi "tuple") (eOp2 opIx (eVar 0) (eC (.int 2)))))) (tV (eOp2 opNe (eOp1 opLen (eOp2 opIx (eVar 0) (eC (.int 2)))) (eC (.int 3))))) (sRet (eC (.bl false))) (sNil))
def it5 (c : Call) : SM := (sRet (eOp1 opAll (eFrz (fComp (iX (eOp2 opIx (eVar 0) (eC (.int 2)))) [4] (gN 4) (tYesM) (eCall (c .f_is_tree) (aCons (eVar 4) (aCons (eVar 1) (aCons (eVar 2) (aCons (eOp2 opSub (eVar 3) (eC (.int 1))) (aNil))))))))))
theorem it_eq (c : Call) : b_is_tree c = sSeq (it0 c) (sSeq (it1 c) (sSeq (it2 c) (sSeq (it3 c) (sSeq (it4 c) (it5 c))))) := rfl
def ia0 (c : Call) : SM := (sIf (tOrM (tV (eOp2 opNe (eOp1 opLen (eVar 0)) (eC (.int 4)))) (tOrM (tV (eOp2 opEq2 (eOp1 opLen (eVar 2)) (eC (.int 6)))) (tOrM (tNotM (tV (eOp1 (opIsi "tuple") (eOp2 opIx (eVar 0) (eC (.int 2)))))) (tV (eOp2 opGt (eOp1 opLen (eOp2 opIx (eVar 0) (eC (.int 2)))) (eC (.int 3))))))) (sRet (eC (.bl false))) (sNil))
def ia1 (c : Call) : SM := (sIf (tOrM (tNotM (tV (eOp1 (opIsi "str") (eOp2 opIx (eVar 0) (eC (.int 1)))))) (tNotM (tOrM (tV (eCall (c .f_is_name) (aCons (eOp2 opIx (eVar 0) (eC (.int 1))) (aNil)))) (tAndM (tV (eOp2 opIn (eOp2 opIx (eVar 0) (eC (.int 1))) (eC w_SIGNS))) (tV (eOp2 opEq2 (eOp1 opLen (eOp2 opIx (eVar 0) (eC (.int 2)))) (eC (.int 2)))))))) (sRet (eC (.bl false))) (sNil))
def ia2 (c : Call) : SM := (sIf (tNotM (tV (eOp1 opAll (eFrz (fComp (iX (eOp2 opIx (eVar 0) (eC (.int 2)))) [4] (gN 4) (tYesM) (eCall (c .f_is_operand) (aCons (eVar 4) (aCons (eVar 1) (aCons (eVar 2) (aNil)))))))))) (sRet (eC (.bl false))) (sNil))
def ia3 (c : Call) : SM := (sIf (tOrM (tNotM (tV (eOp1 (opIsi "tuple") (eOp2 opIx (eVar 0) (eC (.int 3)))))) (tV (eOp2 opNe (eOp1 opLen (eOp2 opIx (eVar 0) (eC (.int 3)))) (eC (.int 2))))) (sRet (eC (.bl false))) (sNil))
def ia4 (c : Call) : SM := (sIf (tNotM (tV (eCall (c .f_is_tree) (aCons (eOp2 opIx (eOp2 opIx (eVar 0) (eC (.int 3))) (eC (.int 0))) (aCons (eVar 1) (aCons (eFrz (fAdd (eVar 2) (eFrz (fLst (aCons (eC (.bl true)) (aNil)))))) (aCons (eOp2 opSub (eVar 3) (eC (.int 1))) (aNil)))))))) (sRet (eC (.bl false))) (sNil))
def ia5 (c : Call) : SM := (sRet (eCall (c .f_is_tree) (aCons (eOp2 opIx (eOp2 opIx (eVar 0) (eC (.int 3))) (eC (.int 1))) (aCons (eVar 1) (aCons (eFrz (fAdd (eVar 2) (eFrz (fLst (aCons (eC (.bl false)) (aNil)))))) (aCons (eOp2 opSub (eVar 3) (eC (.int 1))) (aNil)))))))
theorem ia_eq (c : Call) : b_is_asking c = sSeq (ia0 c) (sSeq (ia1 c) (sSeq (ia2 c) (sSeq (ia3 c) (sSeq (ia4 c) (ia5 c))))) := rfl
theorem guard {T : W} {ws : List W} {sh A : W} {lv : Int} (hT : T = .tup ws) (hw : ws ≠ []) (hl : lv ≠ 0) (c : Call) (S : Store) (x : Option Sl) :
    it0 c [some (.val T), some (.val sh), some (.val A), some (.val (.int lv)), x] S = .ok (.nx [some (.val T), some (.val sh), some (.val A), some (.val (.int lv)), x]) S := by
  subst hT
  have e1 : opEq2 [some (.val (.tup ws)), some (.val sh), some (.val A), some (.val (.int lv)), x] (.int lv) (.int 0) S = .ok (.bl (lv == 0)) S := rfl
  have e2 : ∀ sw, opEq2 sw (.int (ws.length : Int)) (.int 0) S = .ok (.bl ((ws.length : Int) == 0)) S := fun sw => rfl
  have h1 : (lv == 0) = false := by simpa using hl
  have h2 : ((ws.length : Int) == 0) = false := by
    have := List.length_pos_iff.mpr hw
    simp
    omega
  have e3 : ∀ sw, opIsi "tuple" sw (.tup ws) S = .ok (.bl true) S := fun sw => rfl
  have e4 : ∀ sw, opLen sw (.tup ws) S = .ok (.int ws.length) S := fun sw => rfl
  unfold it0
  simp only [ev_if, ev_or, ev_tV, ev_not, ev_op2, ev_op1, ev_c, ev_var (sw := [some (.val (.tup ws)), some (.val sh), some (.val A), some (.val (.int lv)), x]) (k := 3) rfl, ev_var (sw := [some (.val (.tup ws)), some (.val sh), some (.val A), some (.val (.int lv)), x]) (k := 0) rfl, bind_ok, e1, e2, e3, e4, h1, h2, liftS_ok, Bool.false_eq_true, if_false, Bool.not_true, ev_nil]
def shA : W := .tup [.int 0, .int 1, .lst [.int 0, .int 1, .int 2]]
def shB : W := .tup [.int 0, .int 1, .lst [.int 0]]
theorem leafA (m : Nat) (A : W) (lv : Int) (S : Store) (x : Option Sl) : it1 (call (m + 7)) [some (.val leaf), some (.val shA), some (.val A), some (.val (.int lv)), x] S = .ok (.rt (.val (.bl true))) S := by kernel_rfl
theorem leafB (m : Nat) (A : W) (lv : Int) (S : Store) (x : Option Sl) : it1 (call (m + 7)) [some (.val leaf), some (.val shB), some (.val A), some (.val (.int lv)), x] S = .ok (.rt (.val (.bl true))) S := by kernel_rfl
theorem test1A (m : Nat) (a b c A : W) (lv : Int) (S : Store) (x : Option Sl) : sSeq (it1 (call (m + 7))) (sSeq (it2 (call (m + 7))) (sSeq (it3 (call (m + 7))) (it4 (call (m + 7))))) [some (.val (testW a b c)), some (.val shA), some (.val A), some (.val (.int lv)), x] S = .ok (.nx [some (.val (testW a b c)), some (.val shA), some (.val A), some (.val (.int lv)), x]) S := by kernel_rfl
theorem test1B (m : Nat) (a b c A : W) (lv : Int) (S : Store) (x : Option Sl) : sSeq (it1 (call (m + 7))) (sSeq (it2 (call (m + 7))) (sSeq (it3 (call (m + 7))) (it4 (call (m + 7))))) [some (.val (testW a b c)), some (.val shB), some (.val A), some (.val (.int lv)), x] S = .ok (.nx [some (.val (testW a b c)), some (.val shB), some (.val A), some (.val (.int lv)), x]) S := by kernel_rfl
theorem then_seq {r : RS} {m n : SM} : (r.then m).then n = r.then (sSeq m n) := by
  cases r with
  | ok f S => cases f <;> rfl
  | exc c fs vs sw S => rfl
  | bad => rfl
theorem seq_assoc {a b : SM} {n : SM} {sw : SW} {S : Store} : sSeq a (sSeq b n) sw S = sSeq (sSeq a b) n sw S := by
  rw [ev_seq, ev_seq, ev_seq, then_seq]
theorem seq4 {a b c d n : SM} {sw sw' : SW} {S S' : Store} (h : sSeq a (sSeq b (sSeq c d)) sw S = .ok (.nx sw') S') : sSeq a (sSeq b (sSeq c (sSeq d n))) sw S = n sw' S' := by
  have e : sSeq a (sSeq b (sSeq c (sSeq d n))) sw S = (sSeq a (sSeq b (sSeq c d)) sw S).then n := by
    rw [ev_seq, ev_seq, then_seq]
    congr 1
    funext s2 S2
    rw [ev_seq, ev_seq, ev_seq, then_seq]
    congr 1
    funext s3 S3
    rw [ev_seq, ev_seq, ev_seq, then_seq]
  rw [e, h, then_nx]
theorem comp_c {e : EM} {sw : SW} {S S1 S2 : Store} {w y : W} {ws ys : List W} (h1 : e (sw.set 4 (some (.val w))) S = .ok y S1) (h2 : compW (gN 4) tYesM e sw ws S1 = .ok ys S2) : compW (gN 4) tYesM e sw (w :: ws) S = .ok (y :: ys) S2 := by
  have e0 : compW (gN 4) tYesM e sw (w :: ws) S = (noX (e (sw.set 4 (some (.val w))) S)).bind fun y S => (compW (gN 4) tYesM e sw ws S).bind fun ys S => .ok (y :: ys) S := rfl
  have e1 : noX (Res.ok y S1) = Res.ok y S1 := rfl
  rw [e0, h1, e1, bind_ok, h2, bind_ok]
theorem test_okA (m : Nat) {a b c A : W} {lv : Int} {S : Store} {x y z : Bool} (hl : lv ≠ 0) (ha : call (m + 7) .f_is_tree [a, shA, A, .int (lv - 1)] S = .ok (.val (.bl x)) S) (hb : call (m + 7) .f_is_tree [b, shA, A, .int (lv - 1)] S = .ok (.val (.bl y)) S) (hc : call (m + 7) .f_is_tree [c, shA, A, .int (lv - 1)] S = .ok (.val (.bl z)) S) :
    call (m + 8) .f_is_tree [testW a b c, shA, A, .int lv] S = .ok (.val (.bl (x && (y && (z && true))))) S := by
  have el : ∀ (d : W) (v : Bool), call (m + 7) .f_is_tree [d, shA, A, .int (lv - 1)] S = .ok (.val (.bl v)) S → eCall (call (m + 7) .f_is_tree) (aCons (eVar 4) (aCons (eVar 1) (aCons (eVar 2) (aCons (eOp2 opSub (eVar 3) (eC (.int 1))) aNil)))) (List.set (wipeW [some (.val (testW a b c)), some (.val shA), some (.val A), some (.val (.int lv)), none] [4]) 4 (some (.val d))) S = .ok (.bl v) S := fun d v h => call_of rfl h
  have cp := comp_c (el a x ha) (comp_c (el b y hb) (comp_c (el c z hc) (rfl : compW (gN 4) tYesM _ (wipeW [some (.val (testW a b c)), some (.val shA), some (.val A), some (.val (.int lv)), none] [4]) [] S = .ok [] S)))
  have go : b_is_tree (call (m + 7)) [some (.val (testW a b c)), some (.val shA), some (.val A), some (.val (.int lv)), none] S = .ok (.rt (.val (.bl (x && (y && (z && true)))))) S := by
    rw [it_eq, ev_seq, guard (T := testW a b c) (ws := [.str "test", .tup [.str "parameter", .int 0], .tup [a, b, c]]) rfl (by simp) hl, then_nx, seq4 (test1A m a b c A lv S none)]
    unfold it5
    rw [ev_ret, ev_op1, frz_of (ws := [.bl x, .bl y, .bl z])]
    · rfl
    · unfold fComp
      have hi : iX (eOp2 opIx (eVar 0) (eC (.int 2))) [some (.val (testW a b c)), some (.val shA), some (.val A), some (.val (.int lv)), none] S = .ok [a, b, c] S := rfl
      rw [hi, bind_ok, if_pos (le_size (by simp)), cp]
      rfl
  show fBody 5 (b_is_tree (call (m + 7))) [testW a b c, shA, A, .int lv] S = _
  rw [ev_body]
  have st : startW 5 [testW a b c, shA, A, .int lv] = [some (.val (testW a b c)), some (.val shA), some (.val A), some (.val (.int lv)), none] := rfl
  rw [st, go]
theorem test_okB (m : Nat) {a b c A : W} {lv : Int} {S : Store} {x y z : Bool} (hl : lv ≠ 0) (ha : call (m + 7) .f_is_tree [a, shB, A, .int (lv - 1)] S = .ok (.val (.bl x)) S) (hb : call (m + 7) .f_is_tree [b, shB, A, .int (lv - 1)] S = .ok (.val (.bl y)) S) (hc : call (m + 7) .f_is_tree [c, shB, A, .int (lv - 1)] S = .ok (.val (.bl z)) S) :
    call (m + 8) .f_is_tree [testW a b c, shB, A, .int lv] S = .ok (.val (.bl (x && (y && (z && true))))) S := by
  have el : ∀ (d : W) (v : Bool), call (m + 7) .f_is_tree [d, shB, A, .int (lv - 1)] S = .ok (.val (.bl v)) S → eCall (call (m + 7) .f_is_tree) (aCons (eVar 4) (aCons (eVar 1) (aCons (eVar 2) (aCons (eOp2 opSub (eVar 3) (eC (.int 1))) aNil)))) (List.set (wipeW [some (.val (testW a b c)), some (.val shB), some (.val A), some (.val (.int lv)), none] [4]) 4 (some (.val d))) S = .ok (.bl v) S := fun d v h => call_of rfl h
  have cp := comp_c (el a x ha) (comp_c (el b y hb) (comp_c (el c z hc) (rfl : compW (gN 4) tYesM _ (wipeW [some (.val (testW a b c)), some (.val shB), some (.val A), some (.val (.int lv)), none] [4]) [] S = .ok [] S)))
  have go : b_is_tree (call (m + 7)) [some (.val (testW a b c)), some (.val shB), some (.val A), some (.val (.int lv)), none] S = .ok (.rt (.val (.bl (x && (y && (z && true)))))) S := by
    rw [it_eq, ev_seq, guard (T := testW a b c) (ws := [.str "test", .tup [.str "parameter", .int 0], .tup [a, b, c]]) rfl (by simp) hl, then_nx, seq4 (test1B m a b c A lv S none)]
    unfold it5
    rw [ev_ret, ev_op1, frz_of (ws := [.bl x, .bl y, .bl z])]
    · rfl
    · unfold fComp
      have hi : iX (eOp2 opIx (eVar 0) (eC (.int 2))) [some (.val (testW a b c)), some (.val shB), some (.val A), some (.val (.int lv)), none] S = .ok [a, b, c] S := rfl
      rw [hi, bind_ok, if_pos (le_size (by simp)), cp]
      rfl
  show fBody 5 (b_is_tree (call (m + 7))) [testW a b c, shB, A, .int lv] S = _
  rw [ev_body]
  have st : startW 5 [testW a b c, shB, A, .int lv] = [some (.val (testW a b c)), some (.val shB), some (.val A), some (.val (.int lv)), none] := rfl
  rw [st, go]
end G
set_option Elab.async false
set_option linter.all false
set_option maxRecDepth 1000000
set_option maxHeartbeats 4000000
namespace G
open PySem PySem.Spec ML
theorem seq2 {a n : SM} {sw sw' : SW} {S S' : Store} (h : a sw S = .ok (.nx sw') S') : sSeq a n sw S = n sw' S' := by rw [ev_seq, h, then_nx]
theorem seqR {a n : SM} {sw : SW} {S S' : Store} {r : RV} (h : a sw S = .ok (.rt r) S') : sSeq a n sw S = .ok (.rt r) S' := by rw [ev_seq, h, then_rt]
def askSw (a b sh : W) (As : List W) (lv : Int) (x : Option Sl) : SW := [some (.val (askW a b)), some (.val sh), some (.val (.lst As)), some (.val (.int lv)), x]
theorem ia0_ok (c : Call) (a b sh : W) (As : List W) (lv : Int) (S : Store) (x : Option Sl) : ia0 c (askSw a b sh As lv x) S = if As.length = 6 then .ok (.rt (.val (.bl false))) S else .ok (.nx (askSw a b sh As lv x)) S := by
  have v0 : ∀ S, eVar 0 (askSw a b sh As lv x) S = .ok (askW a b) S := fun S => rfl
  have v2 : ∀ S, eVar 2 (askSw a b sh As lv x) S = .ok (.lst As) S := fun S => rfl
  have e0 : tV (eOp2 opNe (eOp1 opLen (eVar 0)) (eC (.int 4))) (askSw a b sh As lv x) S = .ok false S := rfl
  have e1 : tV (eOp2 opEq2 (eOp1 opLen (eVar 2)) (eC (.int 6))) (askSw a b sh As lv x) S = .ok ((As.length : Int) == 6) S := rfl
  have e2 : tOrM (tNotM (tV (eOp1 (opIsi "tuple") (eOp2 opIx (eVar 0) (eC (.int 2)))))) (tV (eOp2 opGt (eOp1 opLen (eOp2 opIx (eVar 0) (eC (.int 2)))) (eC (.int 3)))) (askSw a b sh As lv x) S = .ok false S := rfl
  unfold ia0
  rw [ev_if, ev_or, e0, bind_ok, if_neg Bool.false_ne_true, ev_or, e1, bind_ok]
  by_cases h : As.length = 6
  · rw [if_pos h, if_pos (by rw [h]; rfl), liftS_ok, if_pos rfl]
    rfl
  · rw [if_neg h, if_neg (by simp; omega), e2, liftS_ok, if_neg Bool.false_ne_true]
    rfl
theorem ask1A (m : Nat) (a b : W) (As : List W) (lv : Int) (S : Store) (x : Option Sl) : sSeq (ia1 (call (m + 6))) (sSeq (ia2 (call (m + 6))) (ia3 (call (m + 6)))) (askSw a b shA As lv x) S = .ok (.nx (askSw a b shA As lv x)) S := by kernel_rfl
theorem ask1B (m : Nat) (a b : W) (As : List W) (lv : Int) (S : Store) (x : Option Sl) : sSeq (ia1 (call (m + 6))) (sSeq (ia2 (call (m + 6))) (ia3 (call (m + 6)))) (askSw a b shB As lv x) S = .ok (.nx (askSw a b shB As lv x)) S := by kernel_rfl
theorem seq3 {a b c n : SM} {sw sw' : SW} {S S' : Store} (h : sSeq a (sSeq b c) sw S = .ok (.nx sw') S') : sSeq a (sSeq b (sSeq c n)) sw S = n sw' S' := by
  have e : sSeq a (sSeq b (sSeq c n)) sw S = (sSeq a (sSeq b c) sw S).then n := by
    rw [ev_seq, ev_seq, then_seq]
    congr 1
    funext s2 S2
    rw [ev_seq, ev_seq, ev_seq, then_seq]
  rw [e, h, then_nx]
theorem args4 {m1 m2 m3 m4 : EM} {sw : SW} {S : Store} {a b c d : W} (h1 : m1 sw S = .ok a S) (h2 : m2 sw S = .ok b S) (h3 : m3 sw S = .ok c S) (h4 : m4 sw S = .ok d S) : aCons m1 (aCons m2 (aCons m3 (aCons m4 aNil))) sw S = .ok [a, b, c, d] S := by
  rw [ev_acons, h1, bind_ok, ev_acons, h2, bind_ok, ev_acons, h3, bind_ok, ev_acons, h4]
  rfl
theorem fadd_of {m n : EM} {sw : SW} {S S1 S2 : Store} {xs ys : List W} (h1 : m sw S = .ok (.lst xs) S1) (h2 : n sw S1 = .ok (.lst ys) S2) (hl : xs.length + ys.length ≤ 1000) : fAdd m n sw S = .ok (.lst (xs ++ ys)) S2 := by
  unfold fAdd
  rw [h1, bind_ok, h2, bind_ok]
  exact if_pos (le_size hl)
theorem args1_of {m : EM} {sw : SW} {S S' : Store} {w : W} (h : m sw S = .ok w S') : aCons m aNil sw S = .ok [w] S' := by
  rw [ev_acons, h]
  rfl
theorem asking_okA (m : Nat) {a b : W} {As : List W} {lv : Int} {S : Store} {x y : Bool} (h6 : As.length < 6) (ha : call (m + 6) .f_is_tree [a, shA, .lst (As ++ [.bl true]), .int (lv - 1)] S = .ok (.val (.bl x)) S) (hb : call (m + 6) .f_is_tree [b, shA, .lst (As ++ [.bl false]), .int (lv - 1)] S = .ok (.val (.bl y)) S) :
    call (m + 7) .f_is_asking [askW a b, shA, .lst As, .int lv] S = .ok (.val (.bl (x && y))) S := by
  have v1 : eVar 1 (askSw a b shA As lv none) S = .ok shA S := rfl
  have v2 : eVar 2 (askSw a b shA As lv none) S = .ok (.lst As) S := rfl
  have l0 : (As ++ [W.bl true]).length ≤ 1000 := by simp; omega
  have e4 : eCall (call (m + 6) .f_is_tree) (aCons (eOp2 opIx (eOp2 opIx (eVar 0) (eC (.int 3))) (eC (.int 0))) (aCons (eVar 1) (aCons (eFrz (fAdd (eVar 2) (eFrz (fLst (aCons (eC (.bl true)) (aNil)))))) (aCons (eOp2 opSub (eVar 3) (eC (.int 1))) (aNil))))) (askSw a b shA As lv none) S = .ok (.bl x) S :=
    call_of (args4 (a := a) (d := .int (lv - 1)) rfl v1 (frz_of (fadd_of v2 (ys := [.bl true]) rfl (by simp; omega))) rfl) ha
  have e5 : eCall (call (m + 6) .f_is_tree) (aCons (eOp2 opIx (eOp2 opIx (eVar 0) (eC (.int 3))) (eC (.int 1))) (aCons (eVar 1) (aCons (eFrz (fAdd (eVar 2) (eFrz (fLst (aCons (eC (.bl false)) (aNil)))))) (aCons (eOp2 opSub (eVar 3) (eC (.int 1))) (aNil))))) (askSw a b shA As lv none) S = .ok (.bl y) S :=
    call_of (args4 (a := b) (d := .int (lv - 1)) rfl v1 (frz_of (fadd_of v2 (ys := [.bl false]) rfl (by simp; omega))) rfl) hb
  have go : b_is_asking (call (m + 6)) (askSw a b shA As lv none) S = .ok (.rt (.val (.bl (x && y)))) S := by
    rw [ia_eq, ev_seq, ia0_ok, if_neg (by omega), then_nx, seq3 (ask1A m a b As lv S none), ev_seq]
    unfold ia4 ia5
    rw [ev_if, ev_not, ev_tV, e4]
    cases x
    · rfl
    · show (RS.ok (.nx (askSw a b shA As lv none)) S).then _ = _
      rw [then_nx, ev_ret, e5]
      rfl
  have st : startW 5 [askW a b, shA, .lst As, .int lv] = askSw a b shA As lv none := rfl
  show fBody 5 (b_is_asking (call (m + 6))) [askW a b, shA, .lst As, .int lv] S = _
  rw [ev_body, st, go]
theorem asking_noA (m : Nat) {a b : W} {As : List W} {lv : Int} {S : Store} (h6 : As.length = 6) :
    call (m + 7) .f_is_asking [askW a b, shA, .lst As, .int lv] S = .ok (.val (.bl false)) S := by
  have go : b_is_asking (call (m + 6)) (askSw a b shA As lv none) S = .ok (.rt (.val (.bl false))) S := by
    rw [ia_eq, ev_seq, ia0_ok, if_pos h6]
    rfl
  have st : startW 5 [askW a b, shA, .lst As, .int lv] = askSw a b shA As lv none := rfl
  show fBody 5 (b_is_asking (call (m + 6))) [askW a b, shA, .lst As, .int lv] S = _
  rw [ev_body, st, go]
theorem ask_viaA (m : Nat) {a b : W} {As : List W} {lv : Int} {S : Store} {v : Bool} (hl : lv ≠ 0) (h : call (m + 7) .f_is_asking [askW a b, shA, .lst As, .int lv] S = .ok (.val (.bl v)) S) :
    call (m + 8) .f_is_tree [askW a b, shA, .lst As, .int lv] S = .ok (.val (.bl v)) S := by
  have e1 : it1 (call (m + 7)) (askSw a b shA As lv none) S = .ok (.nx (askSw a b shA As lv none)) S := by kernel_rfl
  have e2 : eCall (call (m + 7) .f_is_asking) (aCons (eVar 0) (aCons (eVar 1) (aCons (eVar 2) (aCons (eVar 3) (aNil))))) (askSw a b shA As lv none) S = .ok (.bl v) S := call_of rfl h
  have e3 : tV (eOp2 opEq2 (eOp2 opIx (eVar 0) (eC (.int 0))) (eC (.str "ask"))) (askSw a b shA As lv none) S = .ok true S := by kernel_rfl
  have go : b_is_tree (call (m + 7)) (askSw a b shA As lv none) S = .ok (.rt (.val (.bl v))) S := by
    rw [it_eq, ev_seq, show askSw a b shA As lv none = [some (.val (askW a b)), some (.val shA), some (.val (.lst As)), some (.val (.int lv)), none] from rfl, guard (T := askW a b) (ws := [.str "ask", .str "f", .tup [], .tup [a, b]]) rfl (by simp) hl, then_nx, ← show askSw a b shA As lv none = [some (.val (askW a b)), some (.val shA), some (.val (.lst As)), some (.val (.int lv)), none] from rfl, seq2 e1, ev_seq]
    unfold it2
    rw [ev_if, e3, liftS_ok, if_pos rfl, ev_ret, e2]
    rfl
  have st : startW 5 [askW a b, shA, .lst As, .int lv] = askSw a b shA As lv none := rfl
  show fBody 5 (b_is_tree (call (m + 7))) [askW a b, shA, .lst As, .int lv] S = _
  rw [ev_body, st, go]
theorem leaf_okA (m : Nat) {A : W} {lv : Int} {S : Store} (hl : lv ≠ 0) : call (m + 8) .f_is_tree [leaf, shA, A, .int lv] S = .ok (.val (.bl true)) S := by
  have go : b_is_tree (call (m + 7)) [some (.val leaf), some (.val shA), some (.val A), some (.val (.int lv)), none] S = .ok (.rt (.val (.bl true))) S := by
    rw [it_eq, ev_seq, guard (T := leaf) (ws := [.str "end", .tup [.str "value", .tup [.str "none"]], .int 0, .tup []]) rfl (by simp) hl, then_nx, seqR (leafA m A lv S none)]
  have st : startW 5 [leaf, shA, A, .int lv] = [some (.val leaf), some (.val shA), some (.val A), some (.val (.int lv)), none] := rfl
  show fBody 5 (b_is_tree (call (m + 7))) [leaf, shA, A, .int lv] S = _
  rw [ev_body, st, go]
theorem asking_okB (m : Nat) {a b : W} {As : List W} {lv : Int} {S : Store} {x y : Bool} (h6 : As.length < 6) (ha : call (m + 6) .f_is_tree [a, shB, .lst (As ++ [.bl true]), .int (lv - 1)] S = .ok (.val (.bl x)) S) (hb : call (m + 6) .f_is_tree [b, shB, .lst (As ++ [.bl false]), .int (lv - 1)] S = .ok (.val (.bl y)) S) :
    call (m + 7) .f_is_asking [askW a b, shB, .lst As, .int lv] S = .ok (.val (.bl (x && y))) S := by
  have v1 : eVar 1 (askSw a b shB As lv none) S = .ok shB S := rfl
  have v2 : eVar 2 (askSw a b shB As lv none) S = .ok (.lst As) S := rfl
  have l0 : (As ++ [W.bl true]).length ≤ 1000 := by simp; omega
  have e4 : eCall (call (m + 6) .f_is_tree) (aCons (eOp2 opIx (eOp2 opIx (eVar 0) (eC (.int 3))) (eC (.int 0))) (aCons (eVar 1) (aCons (eFrz (fAdd (eVar 2) (eFrz (fLst (aCons (eC (.bl true)) (aNil)))))) (aCons (eOp2 opSub (eVar 3) (eC (.int 1))) (aNil))))) (askSw a b shB As lv none) S = .ok (.bl x) S :=
    call_of (args4 (a := a) (d := .int (lv - 1)) rfl v1 (frz_of (fadd_of v2 (ys := [.bl true]) rfl (by simp; omega))) rfl) ha
  have e5 : eCall (call (m + 6) .f_is_tree) (aCons (eOp2 opIx (eOp2 opIx (eVar 0) (eC (.int 3))) (eC (.int 1))) (aCons (eVar 1) (aCons (eFrz (fAdd (eVar 2) (eFrz (fLst (aCons (eC (.bl false)) (aNil)))))) (aCons (eOp2 opSub (eVar 3) (eC (.int 1))) (aNil))))) (askSw a b shB As lv none) S = .ok (.bl y) S :=
    call_of (args4 (a := b) (d := .int (lv - 1)) rfl v1 (frz_of (fadd_of v2 (ys := [.bl false]) rfl (by simp; omega))) rfl) hb
  have go : b_is_asking (call (m + 6)) (askSw a b shB As lv none) S = .ok (.rt (.val (.bl (x && y)))) S := by
    rw [ia_eq, ev_seq, ia0_ok, if_neg (by omega), then_nx, seq3 (ask1B m a b As lv S none), ev_seq]
    unfold ia4 ia5
    rw [ev_if, ev_not, ev_tV, e4]
    cases x
    · rfl
    · show (RS.ok (.nx (askSw a b shB As lv none)) S).then _ = _
      rw [then_nx, ev_ret, e5]
      rfl
  have st : startW 5 [askW a b, shB, .lst As, .int lv] = askSw a b shB As lv none := rfl
  show fBody 5 (b_is_asking (call (m + 6))) [askW a b, shB, .lst As, .int lv] S = _
  rw [ev_body, st, go]
theorem asking_noB (m : Nat) {a b : W} {As : List W} {lv : Int} {S : Store} (h6 : As.length = 6) :
    call (m + 7) .f_is_asking [askW a b, shB, .lst As, .int lv] S = .ok (.val (.bl false)) S := by
  have go : b_is_asking (call (m + 6)) (askSw a b shB As lv none) S = .ok (.rt (.val (.bl false))) S := by
    rw [ia_eq, ev_seq, ia0_ok, if_pos h6]
    rfl
  have st : startW 5 [askW a b, shB, .lst As, .int lv] = askSw a b shB As lv none := rfl
  show fBody 5 (b_is_asking (call (m + 6))) [askW a b, shB, .lst As, .int lv] S = _
  rw [ev_body, st, go]
theorem ask_viaB (m : Nat) {a b : W} {As : List W} {lv : Int} {S : Store} {v : Bool} (hl : lv ≠ 0) (h : call (m + 7) .f_is_asking [askW a b, shB, .lst As, .int lv] S = .ok (.val (.bl v)) S) :
    call (m + 8) .f_is_tree [askW a b, shB, .lst As, .int lv] S = .ok (.val (.bl v)) S := by
  have e1 : it1 (call (m + 7)) (askSw a b shB As lv none) S = .ok (.nx (askSw a b shB As lv none)) S := by kernel_rfl
  have e2 : eCall (call (m + 7) .f_is_asking) (aCons (eVar 0) (aCons (eVar 1) (aCons (eVar 2) (aCons (eVar 3) (aNil))))) (askSw a b shB As lv none) S = .ok (.bl v) S := call_of rfl h
  have e3 : tV (eOp2 opEq2 (eOp2 opIx (eVar 0) (eC (.int 0))) (eC (.str "ask"))) (askSw a b shB As lv none) S = .ok true S := by kernel_rfl
  have go : b_is_tree (call (m + 7)) (askSw a b shB As lv none) S = .ok (.rt (.val (.bl v))) S := by
    rw [it_eq, ev_seq, show askSw a b shB As lv none = [some (.val (askW a b)), some (.val shB), some (.val (.lst As)), some (.val (.int lv)), none] from rfl, guard (T := askW a b) (ws := [.str "ask", .str "f", .tup [], .tup [a, b]]) rfl (by simp) hl, then_nx, ← show askSw a b shB As lv none = [some (.val (askW a b)), some (.val shB), some (.val (.lst As)), some (.val (.int lv)), none] from rfl, seq2 e1, ev_seq]
    unfold it2
    rw [ev_if, e3, liftS_ok, if_pos rfl, ev_ret, e2]
    rfl
  have st : startW 5 [askW a b, shB, .lst As, .int lv] = askSw a b shB As lv none := rfl
  show fBody 5 (b_is_tree (call (m + 7))) [askW a b, shB, .lst As, .int lv] S = _
  rw [ev_body, st, go]
theorem leaf_okB (m : Nat) {A : W} {lv : Int} {S : Store} (hl : lv ≠ 0) : call (m + 8) .f_is_tree [leaf, shB, A, .int lv] S = .ok (.val (.bl true)) S := by
  have go : b_is_tree (call (m + 7)) [some (.val leaf), some (.val shB), some (.val A), some (.val (.int lv)), none] S = .ok (.rt (.val (.bl true))) S := by
    rw [it_eq, ev_seq, guard (T := leaf) (ws := [.str "end", .tup [.str "value", .tup [.str "none"]], .int 0, .tup []]) rfl (by simp) hl, then_nx, seqR (leafB m A lv S none)]
  have st : startW 5 [leaf, shB, A, .int lv] = [some (.val leaf), some (.val shB), some (.val A), some (.val (.int lv)), none] := rfl
  show fBody 5 (b_is_tree (call (m + 7))) [leaf, shB, A, .int lv] S = _
  rw [ev_body, st, go]
theorem zero_ok (m : Nat) {T sh A : W} {S : Store} : call (m + 1) .f_is_tree [T, sh, A, .int 0] S = .ok (.val (.bl false)) S := by kernel_rfl
end G
set_option Elab.async false
set_option linter.all false
set_option maxRecDepth 1000000
set_option maxHeartbeats 4000000
namespace G
open PySem PySem.Spec ML
def stepW : Nat → W → W
  | 0, T => askW T leaf
  | 1, T => askW leaf T
  | 2, T => testW T leaf leaf
  | 3, T => testW leaf T leaf
  | _, T => testW leaf leaf T
def ch : List Nat → W
  | [] => leaf
  | w :: ws => stepW w (ch ws)
def asks : List Nat → Nat
  | [] => 0
  | w :: ws => (if w < 2 then 1 else 0) + asks ws
theorem chain_ok : ∀ (ws : List Nat) (n : Nat) (As : List W) (lv : Nat) (S : Store), 2 * ws.length + 8 ≤ n → As.length ≤ 6 →
    call n .f_is_tree [ch ws, shB, .lst As, .int (lv : Int)] S = .ok (.val (.bl (decide (As.length + asks ws ≤ 6 ∧ ws.length < lv)))) S
  | ws, n, As, 0, S, hn, hA => by
    obtain ⟨m, rfl⟩ : ∃ m, n = m + 1 := ⟨n - 1, by omega⟩
    have e : decide (As.length + asks ws ≤ 6 ∧ ws.length < 0) = false := by simp
    rw [e]
    exact zero_ok m
  | [], n, As, lv + 1, S, hn, hA => by
    obtain ⟨m, rfl⟩ : ∃ m, n = m + 8 := ⟨n - 8, by omega⟩
    have e : decide (As.length + asks [] ≤ 6 ∧ ([] : List Nat).length < lv + 1) = true := by simp [asks]; omega
    rw [e]
    exact leaf_okB m (by omega)
  | w :: ws, n, As, lv + 1, S, hn, hA => by
    rw [List.length_cons] at hn
    obtain ⟨m, rfl⟩ : ∃ m, n = m + 8 := ⟨n - 8, by omega⟩
    have hl : ((lv + 1 : Nat) : Int) ≠ 0 := by omega
    have hs : ((lv + 1 : Nat) : Int) - 1 = (lv : Int) := by omega
    by_cases h : w < 2
    · by_cases h6 : As.length = 6
      · have e : decide (As.length + asks (w :: ws) ≤ 6 ∧ (w :: ws).length < lv + 1) = false := by
          unfold asks
          rw [if_pos h]
          simp
          omega
        rw [e]
        have hw : w = 0 ∨ w = 1 := by omega
        rcases hw with rfl | rfl
        · exact ask_viaB m hl (asking_noB m h6)
        · exact ask_viaB m hl (asking_noB m h6)
      · have ih := fun b => chain_ok ws (m + 6) (As ++ [.bl b]) lv S (by omega) (by simp; omega)
        have il := fun b => chain_ok [] (m + 6) (As ++ [.bl b]) lv S (by simp; omega) (by simp; omega)
        rw [← hs] at ih il
        have hw : w = 0 ∨ w = 1 := by omega
        rcases hw with rfl | rfl
        · have := ask_viaB m hl (asking_okB m (by omega) (ih true) (il false))
          refine Eq.trans this ?_
          congr 3
          simp only [asks, List.length_append, List.length_cons, List.length_nil, ← Bool.decide_and]
          apply decide_eq_decide.mpr
          rw [if_pos h]
          omega
        · have := ask_viaB m hl (asking_okB m (by omega) (il true) (ih false))
          refine Eq.trans this ?_
          congr 3
          simp only [asks, List.length_append, List.length_cons, List.length_nil, ← Bool.decide_and]
          apply decide_eq_decide.mpr
          rw [if_pos h]
          omega
    · have ih := chain_ok ws (m + 7) As lv S (by omega) hA
      have il := chain_ok [] (m + 7) As lv S (by simp; omega) hA
      rw [← hs] at ih il
      have e : ∀ k, k ≥ 2 → (asks (k :: ws)) = asks ws := fun k hk => by
        show (if k < 2 then 1 else 0) + asks ws = asks ws
        rw [if_neg (by omega), Nat.zero_add]
      match w, h with
      | 0, h => omega
      | 1, h => omega
      | 2, h =>
        refine Eq.trans (test_okB m hl ih il il) ?_
        congr 3
        rw [e 2 (by omega)]
        rw [Bool.and_true, ← Bool.decide_and, ← Bool.decide_and]
        apply decide_eq_decide.mpr
        have e0 : asks [] = 0 := rfl
        simp only [e0, List.length_cons, List.length_nil]
        omega
      | 3, h =>
        refine Eq.trans (test_okB m hl il ih il) ?_
        congr 3
        rw [e 3 (by omega)]
        rw [Bool.and_true, ← Bool.decide_and, ← Bool.decide_and]
        apply decide_eq_decide.mpr
        have e0 : asks [] = 0 := rfl
        simp only [e0, List.length_cons, List.length_nil]
        omega
      | k + 4, h =>
        refine Eq.trans (test_okB m hl il il ih) ?_
        congr 3
        rw [e (k + 4) (by omega)]
        rw [Bool.and_true, ← Bool.decide_and, ← Bool.decide_and]
        apply decide_eq_decide.mpr
        have e0 : asks [] = 0 := rfl
        simp only [e0, List.length_cons, List.length_nil]
        omega
end G
set_option Elab.async false
set_option linter.all false
set_option maxRecDepth 1000000
set_option maxHeartbeats 4000000
namespace G
open PySem PySem.Spec ML
def im0 (c : Call) : SM := (sIf (tOrM (tNotM (tV (eOp1 (opIsi "tuple") (eVar 0)))) (tOrM (tV (eOp2 opNe (eOp1 opLen (eVar 0)) (eC (.int 3)))) (tOrM (tNotM (tV (eOp1 (opIsi "tuple") (eOp2 opIx (eVar 0) (eC (.int 0)))))) (tV (eOp2 opGt (eOp1 opLen (eOp2 opIx (eVar 0) (eC (.int 0)))) (eC (.int 2))))))) (sRet (eC (.bl false))) (sNil))
def im1 (c : Call) : SM := (sIf (tOrM (tNotM (tV (eOp1 opAll (eFrz (fComp (iX (eOp2 opIx (eVar 0) (eC (.int 0)))) [1] (gN 1) (tYesM) (eCall (c .f_is_name) (aCons (eVar 1) (aNil)))))))) (tV (eOp2 opNe (eOp1 opLenSet (eOp2 opIx (eVar 0) (eC (.int 0)))) (eOp1 opLen (eOp2 opIx (eVar 0) (eC (.int 0))))))) (sRet (eC (.bl false))) (sNil))
def im2 (c : Call) : SM := (sSet 2 (eOp2 opIx (eVar 0) (eC (.int 2))))
def im3 (c : Call) : SM := (sIf (tOrM (tNotM (tV (eOp1 (opIsi "tuple") (eVar 2)))) (tOrM (tV (eOp2 opGt (eOp1 opLen (eVar 2)) (eC (.int 2000)))) (tNotM (tV (eCall (c .f_is_number) (aCons (eOp2 opIx (eVar 0) (eC (.int 1))) (aCons (eOp1 opLen (eVar 2)) (aNil)))))))) (sRet (eC (.bl false))) (sNil))
def im4 (c : Call) : SM := (sSetO 3 (fLst (aNil)))
def im5 (c : Call) : SM := (sFor (iX (eVar 2)) (gN 4) (sSeq (sIf (tOrM (tNotM (tV (eOp1 (opIsi "tuple") (eVar 4)))) (tOrM (tV (eOp2 opNe (eOp1 opLen (eVar 4)) (eC (.int 2)))) (tNotM (tV (eCall (c .f_is_number) (aCons (eOp2 opIx (eVar 4) (eC (.int 0))) (aCons (eOp2 opAdd (eC (.int 8)) (eC (.int 1))) (aNil)))))))) (sRet (eC (.bl false))) (sNil)) (sAppO 3 (eOp2 opIx (eVar 4) (eC (.int 0))))))
def im6 (c : Call) : SM := (sIf (tV (eOp2 opNe (eOp2 opIx (eBrw 3) (eOp2 opIx (eVar 0) (eC (.int 1)))) (eC (.int 0)))) (sRet (eC (.bl false))) (sNil))
def im7 (c : Call) : SM := (sFrz 3 (sRet (eOp1 opAll (eFrz (fComp (iX (eVar 2)) [4] (gN 4) (tYesM) (eCall (c .f_is_tree) (aCons (eOp2 opIx (eVar 4) (eC (.int 1))) (aCons (eTup (aCons (eOp2 opIx (eVar 4) (eC (.int 0))) (aCons (eOp1 opLen (eOp2 opIx (eVar 0) (eC (.int 0)))) (aCons (eVar 3) (aNil))))) (aCons (eFrz (fLst (aNil))) (aCons (eC (.int 30)) (aNil)))))))))))
theorem im_eq (c : Call) : b_is_machine c = (sSeq (im0 c) (sSeq (im1 c) (sSeq (im2 c) (sSeq (im3 c) (sSeq (im4 c) (sSeq (im5 c) (sSeq (im6 c) (im7 c)))))))) := rfl
def rm0 (c : Call) : SM := (sIf (tNotM (tV (eCall (c .f_is_machine) (aCons (eVar 0) (aNil))))) (sRaise "InvalidMachine") (sNil))
def rm1 (c : Call) : SM := (sIf (tOrM (tNotM (tV (eOp1 (opIsi "list") (eVar 1)))) (tNotM (tV (eOp1 opAll (eFrz (fComp (iX (eVar 1)) [2] (gN 2) (tYesM) (eCall (c .f_is_call) (aCons (eVar 2) (aCons (eOp1 opLen (eOp2 opIx (eVar 0) (eC (.int 0)))) (aNil)))))))))) (sRaise "InvalidHistory") (sNil))
def rm2 (c : Call) : SM := (sSet 3 (eOp2 opIx (eVar 0) (eC (.int 1))))
def rm3 (c : Call) : SM := (sSet 4 (eFrz (fLst (aNil))))
def rm4 (c : Call) : SM := (sSet 5 (eFrz (fDict0)))
def rm5 (c : Call) : SM := (sSetO 6 (fLst (aNil)))
def rm6 (c : Call) : SM := (sFor (iR1 (eOp1 opLen (eVar 1))) (gN 7) (sSeq (sSet 8 (eCall (c .f_objects_of) (aCons (eVar 0) (aCons (eVar 7) (aCons (eOp2 opIx (eVar 1) (eVar 7)) (aCons (eVar 4) (aCons (eVar 5) (aNil)))))))) (sSeq (sBad) (sSeq (sBad) (sSeq (sIf (tV (eOp2 opIsN (eVar 10) (eC .non))) (sBad) (sNil)) (sSeq (sSet 11 (eOp2 opIx (eVar 10) (eC (.int 1)))) (sSeq (sIf (tV (eOp2 opEq2 (eOp2 opIx (eVar 11) (eC (.int 0))) (eC (.str "value")))) (sBad) (sNil)) (sSeq (sBad) (sSeq (sBad) (sSet 3 (eOp2 opIx (eVar 10) (eC (.int 2)))))))))))))
def rm7 (c : Call) : SM := (sRetO 6)
theorem rm_eq (c : Call) : b_run_machine c = (sSeq (rm0 c) (sSeq (rm1 c) (sSeq (rm2 c) (sSeq (rm3 c) (sSeq (rm4 c) (sSeq (rm5 c) (sSeq (rm6 c) (rm7 c)))))))) := rfl
def lw0 (c : Call) : SM := (sSet 1 (eC .non))
def lw1 (c : Call) : SM := (sTry (fun c => xt_OperandError.lookup c) 2 (sDrop (eCall (c .f_run_machine) (aCons (eVar 0) (aCons (eFrz (fLst (aNil))) (aNil))))) (sSet 1 (eVar 2)))
def lw2 (c : Call) : SM := (sIf (tV (eOp2 opIsN (eVar 1) (eC .non))) (sRet (eC (.str "good"))) (sNil))
def lw3 (c : Call) : SM := (sIf (tOrM (tV (eOp1 (opIsX fun c => xt_InvalidHistory.lookup c) (eVar 1))) (tNotM (tV (eOp1 (opIsX fun c => xt_ValueError.lookup c) (eVar 1))))) (sRet (eC (.str "other"))) (sNil))
def lw4 (c : Call) : SM := (sRet (eOp2 opIx (eFrz (fLst (aCons (eC (.str "other")) (aCons (eC (.str "machine")) (aNil))))) (eOp1 opInt (eOp1 (opIsX fun c => xt_InvalidMachine.lookup c) (eVar 1)))))
theorem lw_eq (c : Call) : b__law_word c = (sSeq (lw0 c) (sSeq (lw1 c) (sSeq (lw2 c) (sSeq (lw3 c) (lw4 c))))) := rfl
def machB (T : W) : W := .tup [.tup [.str "p"], .int 0, .tup [.tup [.int 0, T]]]
def one : W := .tup [.str "end", .tup [.str "value", .tup [.str "place", .int 0]], .int 0, .tup []]
def two : W := .tup [.str "end", .tup [.str "value", .tup [.str "place", .int 1]], .int 0, .tup []]
def machA (T : W) : W := .tup [.tup [.str "p"], .int 0, .tup [.tup [.int 0, T], .tup [.int 1, one], .tup [.int 2, two]]]
def imP (c : Call) : SM := sSeq (im0 c) (sSeq (im1 c) (sSeq (im2 c) (sSeq (im3 c) (sSeq (im4 c) (sSeq (im5 c) (im6 c))))))
theorem seq7 {a b c d e f g n : SM} {sw sw' : SW} {S S' : Store} (h : sSeq a (sSeq b (sSeq c (sSeq d (sSeq e (sSeq f g))))) sw S = .ok (.nx sw') S') : sSeq a (sSeq b (sSeq c (sSeq d (sSeq e (sSeq f (sSeq g n)))))) sw S = n sw' S' := by
  have q : ∀ {x y z : SM}, sSeq (sSeq x y) z = sSeq x (sSeq y z) := fun {x y z} => by
    funext s2 S2
    exact seq_assoc.symm
  have e : sSeq a (sSeq b (sSeq c (sSeq d (sSeq e (sSeq f (sSeq g n)))))) = sSeq (sSeq a (sSeq b (sSeq c (sSeq d (sSeq e (sSeq f g)))))) n := by
    rw [q, q, q, q, q, q]
  rw [e, ev_seq, h, then_nx]
theorem imB (T : W) (S : Store) : imP (call 195) [some (.val (machB T)), none, none, none, none] S = .ok (.nx [some (.val (machB T)), none, some (.val (.tup [.tup [.int 0, T]])), some (.own (.lst [.int 0])), some (.val (.tup [.int 0, T]))]) S := by kernel_rfl
theorem imA (T : W) (S : Store) : imP (call 195) [some (.val (machA T)), none, none, none, none] S = .ok (.nx [some (.val (machA T)), none, some (.val (.tup [.tup [.int 0, T], .tup [.int 1, one], .tup [.int 2, two]])), some (.own (.lst [.int 0, .int 1, .int 2])), some (.val (.tup [.int 2, two]))]) S := by kernel_rfl
theorem machB_ok {T : W} {S : Store} {v : Bool} (h : call 195 .f_is_tree [T, shB, .lst [], .int 30] S = .ok (.val (.bl v)) S) : call 196 .f_is_machine [machB T] S = .ok (.val (.bl v)) S := by
  have el : eCall (call 195 .f_is_tree) (aCons (eOp2 opIx (eVar 4) (eC (.int 1))) (aCons (eTup (aCons (eOp2 opIx (eVar 4) (eC (.int 0))) (aCons (eOp1 opLen (eOp2 opIx (eVar 0) (eC (.int 0)))) (aCons (eVar 3) (aNil))))) (aCons (eFrz (fLst (aNil))) (aCons (eC (.int 30)) (aNil))))) (List.set (wipeW [some (.val (machB T)), none, some (.val (.tup [.tup [.int 0, T]])), some (.val (.lst [.int 0])), some (.val (.tup [.int 0, T]))] [4]) 4 (some (.val (.tup [.int 0, T])))) S = .ok (.bl v) S := call_of rfl h
  have cp := comp_c el (rfl : compW (gN 4) tYesM _ (wipeW [some (.val (machB T)), none, some (.val (.tup [.tup [.int 0, T]])), some (.val (.lst [.int 0])), some (.val (.tup [.int 0, T]))] [4]) [] S = .ok [] S)
  have go : b_is_machine (call 195) [some (.val (machB T)), none, none, none, none] S = .ok (.rt (.val (.bl v))) S := by
    rw [im_eq, seq7 (imB T S)]
    show sRet (eOp1 opAll (eFrz (fComp (iX (eVar 2)) [4] (gN 4) (tYesM) (eCall (call 195 .f_is_tree) (aCons (eOp2 opIx (eVar 4) (eC (.int 1))) (aCons (eTup (aCons (eOp2 opIx (eVar 4) (eC (.int 0))) (aCons (eOp1 opLen (eOp2 opIx (eVar 0) (eC (.int 0)))) (aCons (eVar 3) (aNil))))) (aCons (eFrz (fLst (aNil))) (aCons (eC (.int 30)) (aNil))))))))) [some (.val (machB T)), none, some (.val (.tup [.tup [.int 0, T]])), some (.val (.lst [.int 0])), some (.val (.tup [.int 0, T]))] S = _
    rw [ev_ret, ev_op1, frz_of (ws := [.bl v])]
    · cases v <;> rfl
    · unfold fComp
      have hi : iX (eVar 2) [some (.val (machB T)), none, some (.val (.tup [.tup [.int 0, T]])), some (.val (.lst [.int 0])), some (.val (.tup [.int 0, T]))] S = .ok [.tup [.int 0, T]] S := rfl
      rw [hi, bind_ok, if_pos (le_size (by simp)), cp]
      rfl
  show fBody 5 (b_is_machine (call 195)) [machB T] S = _
  rw [ev_body]
  have st : startW 5 [machB T] = [some (.val (machB T)), none, none, none, none] := rfl
  rw [st, go]
theorem one_ok (S : Store) : call 195 .f_is_tree [one, .tup [.int 1, .int 1, .lst [.int 0, .int 1, .int 2]], .lst [], .int 30] S = .ok (.val (.bl true)) S := by kernel_rfl
theorem two_ok (S : Store) : call 195 .f_is_tree [two, .tup [.int 2, .int 1, .lst [.int 0, .int 1, .int 2]], .lst [], .int 30] S = .ok (.val (.bl true)) S := by kernel_rfl
def swA (T : W) : SW := [some (.val (machA T)), none, some (.val (.tup [.tup [.int 0, T], .tup [.int 1, one], .tup [.int 2, two]])), some (.val (.lst [.int 0, .int 1, .int 2])), some (.val (.tup [.int 2, two]))]
theorem machA_ok {T : W} {S : Store} {v : Bool} (h : call 195 .f_is_tree [T, shA, .lst [], .int 30] S = .ok (.val (.bl v)) S) : call 196 .f_is_machine [machA T] S = .ok (.val (.bl v)) S := by
  have el : eCall (call 195 .f_is_tree) (aCons (eOp2 opIx (eVar 4) (eC (.int 1))) (aCons (eTup (aCons (eOp2 opIx (eVar 4) (eC (.int 0))) (aCons (eOp1 opLen (eOp2 opIx (eVar 0) (eC (.int 0)))) (aCons (eVar 3) (aNil))))) (aCons (eFrz (fLst (aNil))) (aCons (eC (.int 30)) (aNil))))) (List.set (wipeW (swA T) [4]) 4 (some (.val (.tup [.int 0, T])))) S = .ok (.bl v) S := call_of rfl h
  have e1 : eCall (call 195 .f_is_tree) (aCons (eOp2 opIx (eVar 4) (eC (.int 1))) (aCons (eTup (aCons (eOp2 opIx (eVar 4) (eC (.int 0))) (aCons (eOp1 opLen (eOp2 opIx (eVar 0) (eC (.int 0)))) (aCons (eVar 3) (aNil))))) (aCons (eFrz (fLst (aNil))) (aCons (eC (.int 30)) (aNil))))) (List.set (wipeW (swA T) [4]) 4 (some (.val (.tup [.int 1, one])))) S = .ok (.bl true) S := call_of rfl (one_ok S)
  have e2 : eCall (call 195 .f_is_tree) (aCons (eOp2 opIx (eVar 4) (eC (.int 1))) (aCons (eTup (aCons (eOp2 opIx (eVar 4) (eC (.int 0))) (aCons (eOp1 opLen (eOp2 opIx (eVar 0) (eC (.int 0)))) (aCons (eVar 3) (aNil))))) (aCons (eFrz (fLst (aNil))) (aCons (eC (.int 30)) (aNil))))) (List.set (wipeW (swA T) [4]) 4 (some (.val (.tup [.int 2, two])))) S = .ok (.bl true) S := call_of rfl (two_ok S)
  have cp := comp_c el (comp_c e1 (comp_c e2 (rfl : compW (gN 4) tYesM _ (wipeW (swA T) [4]) [] S = .ok [] S)))
  have go : b_is_machine (call 195) [some (.val (machA T)), none, none, none, none] S = .ok (.rt (.val (.bl v))) S := by
    rw [im_eq, seq7 (imA T S)]
    show sRet (eOp1 opAll (eFrz (fComp (iX (eVar 2)) [4] (gN 4) (tYesM) (eCall (call 195 .f_is_tree) (aCons (eOp2 opIx (eVar 4) (eC (.int 1))) (aCons (eTup (aCons (eOp2 opIx (eVar 4) (eC (.int 0))) (aCons (eOp1 opLen (eOp2 opIx (eVar 0) (eC (.int 0)))) (aCons (eVar 3) (aNil))))) (aCons (eFrz (fLst (aNil))) (aCons (eC (.int 30)) (aNil))))))))) (swA T) S = _
    rw [ev_ret, ev_op1, frz_of (ws := [.bl v, .bl true, .bl true])]
    · cases v <;> rfl
    · unfold fComp
      have hi : iX (eVar 2) (swA T) S = .ok [.tup [.int 0, T], .tup [.int 1, one], .tup [.int 2, two]] S := rfl
      rw [hi, bind_ok, if_pos (le_size (by simp)), cp]
      rfl
  show fBody 5 (b_is_machine (call 195)) [machA T] S = _
  rw [ev_body]
  have st : startW 5 [machA T] = [some (.val (machA T)), none, none, none, none] := rfl
  rw [st, go]
theorem rmR (c : Call) (P i Q : W) (S : Store) : sSeq (rm1 c) (sSeq (rm2 c) (sSeq (rm3 c) (sSeq (rm4 c) (sSeq (rm5 c) (sSeq (rm6 c) (rm7 c)))))) (startW 13 [.tup [P, i, Q], .lst []]) S = .ok (.rt (.fr (.lst []))) S := by kernel_rfl
theorem run_ok {P i Q : W} {S : Store} (h : call 196 .f_is_machine [.tup [P, i, Q]] S = .ok (.val (.bl true)) S) : call 197 .f_run_machine [.tup [P, i, Q], .lst []] S = .ok (.fr (.lst [])) S := by
  have e0 : eCall (call 196 .f_is_machine) (aCons (eVar 0) (aNil)) (startW 13 [.tup [P, i, Q], .lst []]) S = .ok (.bl true) S := call_of rfl h
  have e1 : rm0 (call 196) (startW 13 [.tup [P, i, Q], .lst []]) S = .ok (.nx (startW 13 [.tup [P, i, Q], .lst []])) S := by
    unfold rm0
    rw [ev_if, ev_not, ev_tV, e0]
    rfl
  show fBody 13 (b_run_machine (call 196)) [.tup [P, i, Q], .lst []] S = _
  rw [ev_body, rm_eq, seq2 e1, rmR]
theorem run_no {P i Q : W} {S : Store} (h : call 196 .f_is_machine [.tup [P, i, Q]] S = .ok (.val (.bl false)) S) : call 197 .f_run_machine [.tup [P, i, Q], .lst []] S = .exc "InvalidMachine" [] [] S := by
  have e0 : eCall (call 196 .f_is_machine) (aCons (eVar 0) (aNil)) (startW 13 [.tup [P, i, Q], .lst []]) S = .ok (.bl false) S := call_of rfl h
  have e1 : rm0 (call 196) (startW 13 [.tup [P, i, Q], .lst []]) S = .exc "InvalidMachine" [] [] (startW 13 [.tup [P, i, Q], .lst []]) S := by
    unfold rm0
    rw [ev_if, ev_not, ev_tV, e0]
    rfl
  show fBody 13 (b_run_machine (call 196)) [.tup [P, i, Q], .lst []] S = _
  rw [ev_body, rm_eq, ev_seq, e1, then_exc]
def wordOf (v : Bool) : W := .str (if v then "good" else "machine")
theorem word_ok {P i Q : W} {S : Store} {v : Bool} (h : call 196 .f_is_machine [.tup [P, i, Q]] S = .ok (.val (.bl v)) S) : call 198 .f__law_word [.tup [P, i, Q]] S = .ok (.val (wordOf v)) S := by
  have st : startW 3 [.tup [P, i, Q]] = [some (.val (.tup [P, i, Q])), none, none] := rfl
  have s0 : lw0 (call 197) [some (.val (.tup [P, i, Q])), none, none] S = .ok (.nx [some (.val (.tup [P, i, Q])), some (.val .non), none]) S := rfl
  have a0 : aCons (eVar 0) (aCons (eFrz (fLst (aNil))) (aNil)) [some (.val (.tup [P, i, Q])), some (.val .non), none] S = .ok [.tup [P, i, Q], .lst []] S := rfl
  show fBody 3 (b__law_word (call 197)) [.tup [P, i, Q]] S = _
  rw [ev_body, st, lw_eq, seq2 s0]
  cases v with
  | true =>
    have d1 : sDrop (eCall (call 197 .f_run_machine) (aCons (eVar 0) (aCons (eFrz (fLst (aNil))) (aNil)))) [some (.val (.tup [P, i, Q])), some (.val .non), none] S = .ok (.nx [some (.val (.tup [P, i, Q])), some (.val .non), none]) S := by
      unfold sDrop
      rw [callF_of a0 (run_ok h)]
      rfl
    have s1 : lw1 (call 197) [some (.val (.tup [P, i, Q])), some (.val .non), none] S = .ok (.nx [some (.val (.tup [P, i, Q])), some (.val .non), none]) S := by
      unfold lw1 sTry
      rw [d1]
    rw [seq2 s1]
    rfl
  | false =>
    have d1 : sDrop (eCall (call 197 .f_run_machine) (aCons (eVar 0) (aCons (eFrz (fLst (aNil))) (aNil)))) [some (.val (.tup [P, i, Q])), some (.val .non), none] S = .exc "InvalidMachine" [] [] [some (.val (.tup [P, i, Q])), some (.val .non), none] S := by
      unfold sDrop
      rw [ev_call, a0, bind_ok, run_no h]
      rfl
    have s1 : lw1 (call 197) [some (.val (.tup [P, i, Q])), some (.val .non), none] S = .ok (.nx [some (.val (.tup [P, i, Q])), some (.val (.exc "InvalidMachine" [] [])), none]) S := by
      unfold lw1 sTry
      rw [d1]
      rfl
    rw [seq2 s1]
    rfl
end G
set_option Elab.async false
set_option linter.all false
set_option maxRecDepth 1000000
set_option maxHeartbeats 4000000
namespace G
open PySem PySem.Spec ML
def wt0 (c : Call) : SM := (sSet 2 (eCall0 (c .f__law_leaf)))
def wt1 (c : Call) : SM := (sFor (iR1 (eCall (c .f__law_draw) (aCons (eVar 0) (aCons (eC (.int 4)) (aNil))))) (gN 3) (sSeq (sSet 4 (eCall (c .f__law_draw) (aCons (eVar 0) (aCons (eC (.int 3)) (aNil))))) (sSeq (sSetO 5 (fLst (aCons (eVar 2) (aCons (eVar 2) (aCons (eVar 2) (aNil)))))) (sSeq (sPutO 5 (eVar 4) (eVar 1)) (sSet 1 (eTup (aCons (eC (.str "test")) (aCons (eTup (aCons (eC (.str "parameter")) (aCons (eC (.int 0)) (aNil)))) (aCons (eOp1 opTuple (eBrw 5)) (aNil))))))))))
def wt2 (c : Call) : SM := (sUnp (eTup (aCons (eTup (aCons (eC (.str "end")) (aCons (eTup (aCons (eC (.str "value")) (aCons (eTup (aCons (eC (.str "place")) (aCons (eC (.int 0)) (aNil)))) (aNil)))) (aCons (eC (.int 0)) (aCons (eTup (aNil)) (aNil)))))) (aCons (eTup (aCons (eC (.str "end")) (aCons (eTup (aCons (eC (.str "value")) (aCons (eTup (aCons (eC (.str "place")) (aCons (eC (.int 1)) (aNil)))) (aNil)))) (aCons (eC (.int 0)) (aCons (eTup (aNil)) (aNil)))))) (aNil)))) ([6, 7]))
def wt3 (c : Call) : SM := (sRet (eTup (aCons (eTup (aCons (eC (.str "p")) (aNil))) (aCons (eC (.int 0)) (aCons (eTup (aCons (eTup (aCons (eC (.int 0)) (aCons (eVar 1) (aNil)))) (aCons (eTup (aCons (eC (.int 1)) (aCons (eVar 6) (aNil)))) (aCons (eTup (aCons (eC (.int 2)) (aCons (eVar 7) (aNil)))) (aNil))))) (aNil))))))
theorem wt_eq (c : Call) : b__law_with_tree c = (sSeq (wt0 c) (sSeq (wt1 c) (sSeq (wt2 c) (wt3 c)))) := rfl
def wb0 (c : Call) : SM := (sSet 4 (eCall (c .f__law_draw) (aCons (eVar 0) (aCons (eC (.int 3)) (aNil)))))
def wb1 (c : Call) : SM := (sSetO 5 (fLst (aCons (eVar 2) (aCons (eVar 2) (aCons (eVar 2) (aNil))))))
def wb2 (c : Call) : SM := (sPutO 5 (eVar 4) (eVar 1))
def wb3 (c : Call) : SM := (sSet 1 (eTup (aCons (eC (.str "test")) (aCons (eTup (aCons (eC (.str "parameter")) (aCons (eC (.int 0)) (aNil)))) (aCons (eOp1 opTuple (eBrw 5)) (aNil))))))
def wbB (c : Call) : SM := sSeq (wb0 c) (sSeq (wb1 c) (sSeq (wb2 c) (wb3 c)))
theorem wt1_eq (c : Call) : wt1 c = sFor (iR1 (eCall (c .f__law_draw) (aCons (eVar 0) (aCons (eC (.int 4)) (aNil))))) (gN 3) (wbB c) := rfl
def wsw (q : Nat) (T : W) (x3 x4 x5 x6 x7 : Option Sl) : SW := [some (.val (.loc q)), some (.val T), some (.val leaf), x3, x4, x5, x6, x7]
theorem Src.step {S S' : Store} {p q : Nat} {t : Int} (H : Src S p q t) (h : t < 999999) (a : ((∃ cs : List Int, S'[p]? = some (.lst (cs.map W.int)) ∧ cs ≠ []) ∧ S'[q]? = some (.lst [.loc p, .int (t + 1)]))) : Src S' p q (t + 1) :=
  ⟨a.1, a.2, H.ne, by have := H.nn; omega, by omega⟩
theorem wb_0 (c : Call) (q : Nat) (T : W) (x3 x5 x6 x7 : Option Sl) (S : Store) : sSeq (wb1 c) (sSeq (wb2 c) (wb3 c)) (wsw q T x3 (some (.val (.int 0))) x5 x6 x7) S = .ok (.nx (wsw q (stepW 2 T) x3 (some (.val (.int 0))) (some (.own (.lst [T, leaf, leaf]))) x6 x7)) S := by kernel_rfl
theorem wb_1 (c : Call) (q : Nat) (T : W) (x3 x5 x6 x7 : Option Sl) (S : Store) : sSeq (wb1 c) (sSeq (wb2 c) (wb3 c)) (wsw q T x3 (some (.val (.int 1))) x5 x6 x7) S = .ok (.nx (wsw q (stepW 3 T) x3 (some (.val (.int 1))) (some (.own (.lst [leaf, T, leaf]))) x6 x7)) S := by kernel_rfl
theorem wb_2 (c : Call) (q : Nat) (T : W) (x3 x5 x6 x7 : Option Sl) (S : Store) : sSeq (wb1 c) (sSeq (wb2 c) (wb3 c)) (wsw q T x3 (some (.val (.int 2))) x5 x6 x7) S = .ok (.nx (wsw q (stepW 4 T) x3 (some (.val (.int 2))) (some (.own (.lst [leaf, leaf, T]))) x6 x7)) S := by kernel_rfl
theorem wb_ok {S : Store} {p q : Nat} {t : Int} (H : Src S p q t) (ht : t < 999999) (T : W) (x3 x4 x5 x6 x7 : Option Sl) : ∃ a S' y4 y5, wbB (call 197) (wsw q T x3 x4 x5 x6 x7) S = .ok (.nx (wsw q (stepW (a + 2) T) x3 y4 y5 x6 x7)) S' ∧ a < 3 ∧ Src S' p q (t + 1) := by
  obtain ⟨d, S', e, d0, d1, a, _, _⟩ := draw_ok (l := 3) H (by omega) (by omega) 196
  have e0 : wb0 (call 197) (wsw q T x3 x4 x5 x6 x7) S = .ok (.nx (wsw q T x3 (some (.val (.int d))) x5 x6 x7)) S' := by
    unfold wb0
    rw [ev_set, call_of (rfl : aCons (eVar 0) (aCons (eC (.int 3)) aNil) (wsw q T x3 x4 x5 x6 x7) S = .ok [.loc q, .int 3] S) e]
    rfl
  have H' := H.step ht a
  have hd : d = 0 ∨ d = 1 ∨ d = 2 := by omega
  unfold wbB
  rw [seq2 e0]
  rcases hd with rfl | rfl | rfl
  · exact ⟨0, S', _, _, wb_0 _ q T x3 x5 x6 x7 S', by omega, H'⟩
  · exact ⟨1, S', _, _, wb_1 _ q T x3 x5 x6 x7 S', by omega, H'⟩
  · exact ⟨2, S', _, _, wb_2 _ q T x3 x5 x6 x7 S', by omega, H'⟩
def wr : List Nat → W → W
  | [], T => T
  | a :: as, T => wr as (stepW (a + 2) T)
theorem wl_ok {p q : Nat} : ∀ (ws : List W) (S : Store) (t : Int) (T : W) (x3 x4 x5 x6 x7 : Option Sl), Src S p q t → t + ws.length < 999999 → ∃ as S' y3 y4 y5, forW (gN 3) (wbB (call 197)) ws (wsw q T x3 x4 x5 x6 x7) S = .ok (.nx (wsw q (wr as T) y3 y4 y5 x6 x7)) S' ∧ as.length = ws.length ∧ (∀ a ∈ as, a < 3) ∧ Src S' p q (t + ws.length)
  | [], S, t, T, x3, x4, x5, x6, x7, H, ht => ⟨[], S, x3, x4, x5, rfl, rfl, by simp, by simpa using H⟩
  | w :: ws, S, t, T, x3, x4, x5, x6, x7, H, ht => by
    rw [List.length_cons] at ht
    obtain ⟨a, S1, y4, y5, e1, ha, H1⟩ := wb_ok H (by omega) T (some (.val w)) x4 x5 x6 x7
    obtain ⟨as, S2, z3, z4, z5, e2, h2, h3, H2⟩ := wl_ok ws S1 (t + 1) (stepW (a + 2) T) (some (.val w)) y4 y5 x6 x7 H1 (by omega)
    refine ⟨a :: as, S2, z3, z4, z5, ?_, by simp [h2], ?_, ?_⟩
    · rw [for_step (g := gN 3) rfl e1]
      exact e2
    · intro b hb
      rcases List.mem_cons.mp hb with rfl | hb
      · exact ha
      · exact h3 b hb
    · rw [List.length_cons]
      have z := H2
      rwa [show t + 1 + (ws.length : Int) = t + ((ws.length + 1 : Nat) : Int) by omega] at z
theorem wt_end (c : Call) (q : Nat) (T : W) (x3 x4 x5 x6 x7 : Option Sl) (S : Store) : sSeq (wt2 c) (wt3 c) (wsw q T x3 x4 x5 x6 x7) S = .ok (.rt (.val (machA T))) S := by kernel_rfl
theorem wt_beg (q : Nat) (T : W) (S : Store) : wt0 (call 197) (startW 8 [.loc q, T]) S = .ok (.nx (wsw q T none none none none none)) S := by kernel_rfl
theorem range_len (n : Nat) : (rangeW 0 n).length = n := by simp [rangeW]
theorem with_ok {S : Store} {p q : Nat} {t : Int} (H : Src S p q t) (ht : t < 990000) (T : W) : ∃ as S' t', call 198 .f__law_with_tree [.loc q, T] S = .ok (.val (machA (wr as T))) S' ∧ as.length ≤ 3 ∧ (∀ a ∈ as, a < 3) ∧ Src S' p q t' ∧ t' ≤ t + 4 := by
  obtain ⟨d, S1, e, d0, d1, a, _, _⟩ := draw_ok (l := 4) H (by omega) (by omega) 196
  have H1 := H.step (by omega) a
  obtain ⟨as, S2, y3, y4, y5, e2, l2, b2, H2⟩ := wl_ok (rangeW 0 d.toNat) S1 (t + 1) T none none none none none H1 (by rw [range_len]; omega)
  rw [range_len] at l2 H2
  refine ⟨as, S2, t + 1 + d.toNat, ?_, by omega, b2, H2, by omega⟩
  have ei : iR1 (eCall (call 197 .f__law_draw) (aCons (eVar 0) (aCons (eC (.int 4)) (aNil)))) (wsw q T none none none none none) S = .ok (rangeW 0 d.toNat) S1 := by
    rw [ev_r1, call_of (rfl : aCons (eVar 0) (aCons (eC (.int 4)) aNil) (wsw q T none none none none none) S = .ok [.loc q, .int 4] S) e, bind_ok]
    have hd : d = 0 ∨ d = 1 ∨ d = 2 ∨ d = 3 := by omega
    rcases hd with rfl | rfl | rfl | rfl <;> rfl
  show fBody 8 (b__law_with_tree (call 197)) [.loc q, T] S = _
  rw [ev_body, wt_eq, seq2 (wt_beg q T S), ev_seq, wt1_eq, ev_for, ei, liftS_ok, e2, then_nx, wt_end]
def isT (T : W) (k : Nat) (S : Store) : Res RV := call (195 - k) .f_is_tree [T, shA, .lst [], .int (30 - (k : Int))] S
def At (j : Nat) (T : W) (v : Bool) : Prop := ∀ (S : Store) (k : Nat), k ≤ j → isT T k S = .ok (.val (.bl v)) S
theorem at_leaf : At 3 leaf true := fun S k hk => by
  unfold isT
  rw [show 195 - k = (187 - k) + 8 by omega]
  exact leaf_okA _ (by omega)
theorem at_step {j : Nat} {T : W} {v : Bool} {a : Nat} (hj : j + 1 ≤ 3) (h : At (j + 1) T v) (ha : a < 3) : At j (stepW (a + 2) T) v := fun S k hk => by
  have hT := h S (k + 1) (by omega)
  have hL := at_leaf S (k + 1) (by omega)
  unfold isT at hT hL ⊢
  rw [show 195 - k = (187 - k) + 8 by omega]
  rw [show 195 - (k + 1) = (187 - k) + 7 by omega, show (30 - ((k + 1 : Nat) : Int)) = 30 - (k : Int) - 1 by omega] at hT hL
  have hz : (30 - (k : Int)) ≠ 0 := by omega
  have h3 : a = 0 ∨ a = 1 ∨ a = 2 := by omega
  rcases h3 with rfl | rfl | rfl
  · have := test_okA _ hz hT hL hL
    cases v <;> exact this
  · have := test_okA _ hz hL hT hL
    cases v <;> exact this
  · have := test_okA _ hz hL hL hT
    cases v <;> exact this
theorem at_wr : ∀ (as : List Nat) (j : Nat) (T : W) (v : Bool), j ≤ 3 → as.length ≤ j → (∀ a ∈ as, a < 3) → At j T v → At 0 (wr as T) v
  | [], j, T, v, hj, hl, ha, h => fun S k hk => h S k (by omega)
  | a :: as, 0, T, v, hj, hl, ha, h => by simp at hl
  | a :: as, j + 1, T, v, hj, hl, ha, h => at_wr as j (stepW (a + 2) T) v (by omega) (by simpa using hl) (fun b hb => ha b (List.mem_cons_of_mem _ hb)) (at_step hj h (ha a (List.mem_cons_self ..)))
theorem wordT {S : Store} {p q : Nat} {t : Int} (H : Src S p q t) (ht : t < 990000) {T : W} {v : Bool} (h : At 3 T v) : ∃ M S' t', call 198 .f__law_with_tree [.loc q, T] S = .ok (.val M) S' ∧ call 198 .f__law_word [M] S' = .ok (.val (wordOf v)) S' ∧ Src S' p q t' ∧ t' ≤ t + 4 := by
  obtain ⟨as, S', t', e, hl, ha, H', h4⟩ := with_ok H ht T
  exact ⟨_, S', t', e, word_ok (machA_ok (at_wr as 3 T v (by omega) hl ha h S' 0 (by omega))), H', h4⟩
def gW (c : Call) (j : Nat) (s : Str) : TM := tV (eOp2 opNe (eCall (c .f__law_word) (aCons (eCall (c .f__law_with_tree) (aCons (eVar 0) (aCons (eVar j) (aNil)))) (aNil))) (eC (.str s)))
theorem ev_var2 {sw : SW} {k : Nat} {S : Store} {w : W} (h : sw[k]? = some (some (.val w))) : eVar k sw S = .ok w S := ev_var h
theorem ecall_ok {S : Store} {p q j : Nat} {t : Int} {sw : SW} {T : W} {v : Bool} (H : Src S p q t) (ht : t < 990000) (h0 : sw[0]? = some (some (.val (.loc q)))) (hj : sw[j]? = some (some (.val T))) (h : At 3 T v) : ∃ S' t', eCall (call 198 .f__law_word) (aCons (eCall (call 198 .f__law_with_tree) (aCons (eVar 0) (aCons (eVar j) (aNil)))) (aNil)) sw S = .ok (wordOf v) S' ∧ Src S' p q t' ∧ t' ≤ t + 4 := by
  obtain ⟨M, S', t', e1, e2, H', h4⟩ := wordT H ht h
  have a : aCons (eVar 0) (aCons (eVar j) (aNil)) sw S = .ok [.loc q, T] S := by
    rw [ev_acons, ev_var h0, bind_ok, args1_of (ev_var hj), bind_ok]
  exact ⟨S', t', call_of (args1_of (call_of a e1)) e2, H', h4⟩
def wStr (v : Bool) : Str := if v then "good" else "machine"
theorem ne_good (sw : SW) (S : Store) : opNe sw (.str "good") (.str "good") S = .ok (.bl false) S := by kernel_rfl
theorem ne_mach (sw : SW) (S : Store) : opNe sw (.str "machine") (.str "machine") S = .ok (.bl false) S := by kernel_rfl
theorem ne_word (sw : SW) (S : Store) (v : Bool) : opNe sw (wordOf v) (.str (wStr v)) S = .ok (.bl false) S := by
  cases v
  · exact ne_mach sw S
  · exact ne_good sw S
theorem gW_ok {S : Store} {p q j : Nat} {t : Int} {sw : SW} {T : W} {v : Bool} (H : Src S p q t) (ht : t < 990000) (h0 : sw[0]? = some (some (.val (.loc q)))) (hj : sw[j]? = some (some (.val T))) (h : At 3 T v) : ∃ S' t', gW (call 198) j (wStr v) sw S = .ok false S' ∧ Src S' p q t' ∧ t' ≤ t + 4 := by
  obtain ⟨S', t', e, H', h4⟩ := ecall_ok H ht h0 hj h
  refine ⟨S', t', ?_, H', h4⟩
  unfold gW
  rw [ev_tV, ev_op2, e, bind_ok, ev_c, bind_ok, ne_word]
  rfl
theorem gwc_ok {p q j : Nat} {sw : SW} {v : Bool} {e : EM} (h0 : sw[0]? = some (some (.val (.loc q)))) (hj : j < sw.length) (hj0 : j ≠ 0) : ∀ (ts : List W) (S : Store) (t : Int), Src S p q t → t + 4 * ts.length < 990000 → (∀ T ∈ ts, At 3 T v) → ∃ S' t', compW (gN j) (gW (call 198) j (wStr v)) e sw ts S = .ok [] S' ∧ Src S' p q t' ∧ t' ≤ t + 4 * ts.length
  | [], S, t, H, ht, hT => ⟨S, t, rfl, H, by simp⟩
  | T :: ts, S, t, H, ht, hT => by
    rw [List.length_cons] at ht
    obtain ⟨S1, t1, e1, H1, h1⟩ := gW_ok (sw := sw.set j (some (.val T))) (j := j) H (by omega) (by rw [List.getElem?_set_ne hj0]; exact h0) (by rw [List.getElem?_set_self hj]) (hT T (List.mem_cons_self ..))
    obtain ⟨S2, t2, e2, H2, h2⟩ := gwc_ok h0 hj hj0 ts S1 t1 H1 (by omega) (fun U hU => hT U (List.mem_cons_of_mem _ hU))
    refine ⟨S2, t2, ?_, H2, by rw [List.length_cons]; omega⟩
    have e0 : compW (gN j) (gW (call 198) j (wStr v)) e sw (T :: ts) S = (noX (gW (call 198) j (wStr v) (sw.set j (some (.val T))) S)).bind fun b S => if b then (noX (e (sw.set j (some (.val T))) S)).bind fun y S => (compW (gN j) (gW (call 198) j (wStr v)) e sw ts S).bind fun ys S => .ok (y :: ys) S else compW (gN j) (gW (call 198) j (wStr v)) e sw ts S := rfl
    have en : noX (Res.ok false S1) = Res.ok false S1 := rfl
    rw [e0, e1, en, bind_ok, if_neg Bool.false_ne_true, e2]
theorem wcomp_ok {p q j : Nat} {sw : SW} {v : Bool} {e : EM} {it : IM} {ts : List W} {S : Store} {t : Int} (h0 : (wipeW sw [j])[0]? = some (some (.val (.loc q)))) (hj : j < (wipeW sw [j]).length) (hj0 : j ≠ 0) (hi : it sw S = .ok ts S) (H : Src S p q t) (hl : ts.length ≤ 1000) (ht : t + 4 * ts.length < 990000) (hT : ∀ T ∈ ts, At 3 T v) : ∃ S' t', eFrz (fComp it [j] (gN j) (gW (call 198) j (wStr v)) e) sw S = .ok (.lst []) S' ∧ Src S' p q t' ∧ t' ≤ t + 4 * ts.length := by
  obtain ⟨S', t', e1, H', h'⟩ := gwc_ok (e := e) h0 hj hj0 ts S t H ht hT
  refine ⟨S', t', frz_of ?_, H', h'⟩
  unfold fComp
  rw [hi, bind_ok, if_pos (le_size hl), e1]
  rfl
theorem wif_ok {p q j : Nat} {sw : SW} {v : Bool} {e : EM} {it : IM} {ts : List W} {S : Store} {t : Int} (h0 : (wipeW sw [j])[0]? = some (some (.val (.loc q)))) (hj : j < (wipeW sw [j]).length) (hj0 : j ≠ 0) (hi : it sw S = .ok ts S) (H : Src S p q t) (hl : ts.length ≤ 1000) (ht : t + 4 * ts.length < 990000) (hT : ∀ T ∈ ts, At 3 T v) : ∃ S' t', sIf (tV (eOp2 opNe (eFrz (fComp it [j] (gN j) (gW (call 198) j (wStr v)) e)) (eFrz (fLst (aNil))))) (sRet (eC (.bl false))) (sNil) sw S = .ok (.nx sw) S' ∧ Src S' p q t' ∧ t' ≤ t + 4 * ts.length := by
  obtain ⟨S', t', e1, H', h'⟩ := wcomp_ok (e := e) h0 hj hj0 hi H hl ht hT
  refine ⟨S', t', ?_, H', h'⟩
  have e2 : eFrz (fLst aNil) sw S' = .ok (.lst []) S' := rfl
  have e3 : opNe sw (.lst []) (.lst []) S' = .ok (.bl false) S' := rfl
  rw [ev_if, ev_tV, ev_op2, e1, bind_ok, e2, bind_ok, e3]
  rfl
theorem wret_ok {p q j : Nat} {sw : SW} {v : Bool} {e : EM} {it : IM} {ts : List W} {S : Store} {t : Int} (h0 : (wipeW sw [j])[0]? = some (some (.val (.loc q)))) (hj : j < (wipeW sw [j]).length) (hj0 : j ≠ 0) (hi : it sw S = .ok ts S) (H : Src S p q t) (hl : ts.length ≤ 1000) (ht : t + 4 * ts.length < 990000) (hT : ∀ T ∈ ts, At 3 T v) : ∃ S' t', sRet (eOp2 opEq2 (eFrz (fComp it [j] (gN j) (gW (call 198) j (wStr v)) e)) (eFrz (fLst (aNil)))) sw S = .ok (.rt (.val (.bl true))) S' ∧ Src S' p q t' ∧ t' ≤ t + 4 * ts.length := by
  obtain ⟨S', t', e1, H', h'⟩ := wcomp_ok (e := e) h0 hj hj0 hi H hl ht hT
  refine ⟨S', t', ?_, H', h'⟩
  have e2 : eFrz (fLst aNil) sw S' = .ok (.lst []) S' := rfl
  have e3 : opEq2 sw (.lst []) (.lst []) S' = .ok (.bl true) S' := rfl
  rw [ev_ret, ev_op2, e1, bind_ok, e2, bind_ok, e3]
  rfl
end G
set_option Elab.async false
set_option linter.all false
set_option maxRecDepth 1000000
set_option maxHeartbeats 4000000
namespace G
open PySem PySem.Spec ML
theorem seq_asc {x y z : SM} : sSeq (sSeq x y) z = sSeq x (sSeq y z) := by
  funext s2 S2
  exact seq_assoc.symm
def okB (v : Bool) (S : Store) : Res RV := .ok (.val (.bl v)) S
theorem at_all {ts : List W} {v : Bool} (h : ∀ S, ts.map (fun T => [isT T 0 S, isT T 1 S, isT T 2 S, isT T 3 S]) = ts.map fun _ => [okB v S, okB v S, okB v S, okB v S]) : ∀ T ∈ ts, At 3 T v := fun T hT S k hk => by
  have e := List.map_inj_left.mp (h S) T hT
  simp only [List.cons.injEq, and_true] at e
  obtain ⟨e0, e1, e2, e3⟩ := e
  have hk : k = 0 ∨ k = 1 ∨ k = 2 ∨ k = 3 := by omega
  rcases hk with rfl | rfl | rfl | rfl
  · exact e0
  · exact e1
  · exact e2
  · exact e3
def runSw (m : SM) (n : Nat) (ws : List W) : SW := match m (startW n ws) [] with
  | .ok (.nx sw) _ => sw
  | _ => []
def ownL (sw : SW) (i : Nat) : List W := match sw[i]? with
  | some (some (.own (.lst ws))) => ws
  | some (some (.val (.lst ws))) => ws
  | _ => []
def le0 (c : Call) : SM := (sPar (aCons (eTup (aCons (eC (.str "value")) (aCons (eTup (aCons (eC (.str "none")) (aNil))) (aNil)))) (aCons (eCall0 (c .f__law_leaf)) (aCons (eTup (aCons (eC (.str "event")) (aCons (eC (.int 0)) (aNil)))) (aNil)))) [1, 2, 3])
def le1 (c : Call) : SM := (sSetO 4 (fLst (aNil)))
def le2 (c : Call) : SM := (sSetO 5 (fComp (iX (eFrz (fLst (aCons (eC (.bl false)) (aCons (eC .non) (aCons (eC (.str "0")) (aCons (eOp1 opNeg (eC (.int 1))) (aCons (eC (.int 1)) (aCons (eFrz (fLst (aNil))) (aCons (eOp2 opPow (eC (.int 10)) (eC (.int 25))) (aNil))))))))))) [6] (gN 6) (tYesM) (eTup (aCons (eC (.str "failed")) (aCons (eVar 6) (aNil))))))
def le3 (c : Call) : SM := (sSetO 5 (fAdd (eBrw 5) (eFrz (fComp (iX (eFrz (fLst (aCons (eC (.str "raised")) (aCons (eC (.str "wanting")) (aCons (eC (.str "event")) (aCons (eC (.str "")) (aCons (eC .non) (aNil))))))))) [7] (gN 7) (tYesM) (eTup (aCons (eVar 7) (aCons (eC (.int 0)) (aNil))))))))
def le4 (c : Call) : SM := (sSetO 5 (fAdd (eBrw 5) (eFrz (fLst (aCons (eTup (aCons (eC (.str "failed")) (aNil))) (aCons (eTup (aCons (eC (.str "failed")) (aCons (eC (.int 0)) (aCons (eC (.int 0)) (aNil))))) (aCons (eTup (aCons (eC (.str "value")) (aNil))) (aCons (eTup (aCons (eC (.str "value")) (aCons (eTup (aCons (eC (.str "none")) (aNil))) (aCons (eC (.int 0)) (aNil))))) (aCons (eTup (aNil)) (aCons (eC .non) (aCons (eFrz (fLst (aCons (eC (.str "failed")) (aCons (eC (.int 0)) (aNil))))) (aNil))))))))))))
def le5 (c : Call) : SM := (sAppO 5 (eC (.str "failed")))
def le6 (c : Call) : SM := (sFrz 5 (sFor (iX (eVar 5)) (gN 8) (sAppO 4 (eTup (aCons (eC (.str "ask")) (aCons (eC (.str "f")) (aCons (eTup (aNil)) (aCons (eTup (aCons (eVar 2) (aCons (eTup (aCons (eC (.str "end")) (aCons (eVar 8) (aCons (eC (.int 0)) (aCons (eTup (aNil)) (aNil)))))) (aNil)))) (aNil)))))))))
def le7 (c : Call) : SM := (sSetO 4 (fAdd (eBrw 4) (eFrz (fLst (aCons (eCall (c .f__law_behind) (aCons (eTup (aCons (eC (.str "end")) (aCons (eTup (aCons (eC (.str "failed")) (aCons (eC (.int 0)) (aNil)))) (aCons (eC (.int 0)) (aCons (eTup (aNil)) (aNil)))))) (aNil))) (aCons (eTup (aCons (eC (.str "end")) (aCons (eTup (aCons (eC (.str "failed")) (aCons (eC (.int 0)) (aNil)))) (aCons (eC (.int 0)) (aCons (eTup (aNil)) (aNil)))))) (aNil)))))))
def le8 (c : Call) : SM := (sFor (iX (eFrz (fLst (aCons (eTup (aCons (eC (.int 0)) (aCons (eTup (aCons (eVar 3) (aNil))) (aNil)))) (aCons (eTup (aCons (eC (.int 1)) (aCons (eTup (aNil)) (aNil)))) (aCons (eTup (aCons (eC (.int 1)) (aCons (eTup (aCons (eVar 3) (aCons (eVar 3) (aNil)))) (aNil)))) (aCons (eTup (aCons (eC (.int 2)) (aCons (eTup (aCons (eVar 3) (aNil))) (aNil)))) (aCons (eTup (aCons (eC (.int 2)) (aCons (eTup (aCons (eVar 3) (aCons (eVar 3) (aCons (eVar 3) (aNil))))) (aNil)))) (aCons (eTup (aCons (eC (.int 2)) (aCons (eTup (aNil)) (aNil)))) (aNil)))))))))) (gT [6, 9]) (sAppO 4 (eCall (c .f__law_behind) (aCons (eTup (aCons (eC (.str "end")) (aCons (eVar 1) (aCons (eVar 6) (aCons (eVar 9) (aNil)))))) (aNil)))))
def le9 (c : Call) : SM := (sFor (iX (eFrz (fLst (aCons (eFrz (fLst (aNil))) (aCons (eC .non) (aCons (eC (.str "")) (aCons (eFrz (fLst (aCons (eVar 3) (aNil)))) (aNil)))))))) (gN 9) (sSetO 4 (fAdd (eBrw 4) (eFrz (fLst (aCons (eCall (c .f__law_behind) (aCons (eTup (aCons (eC (.str "end")) (aCons (eVar 1) (aCons (eC (.int 0)) (aCons (eVar 9) (aNil)))))) (aNil))) (aCons (eCall (c .f__law_behind) (aCons (eTup (aCons (eC (.str "end")) (aCons (eVar 1) (aCons (eC (.int 1)) (aCons (eVar 9) (aNil)))))) (aNil))) (aNil))))))))
def le10 (c : Call) : SM := (sFor (iX (eFrz (fLst (aCons (eC (.int 3)) (aCons (eOp1 opNeg (eC (.int 1))) (aCons (eC (.bl true)) (aCons (eC (.bl false)) (aCons (eC .non) (aCons (eC (.str "0")) (aCons (eFrz (fLst (aNil))) (aCons (eOp2 opPow (eC (.int 10)) (eC (.int 25))) (aNil)))))))))))) (gN 6) (sAppO 4 (eTup (aCons (eC (.str "end")) (aCons (eVar 1) (aCons (eVar 6) (aCons (eTup (aNil)) (aNil))))))))
def le11 (c : Call) : SM := (sSetO 4 (fAdd (eBrw 4) (eFrz (fLst (aCons (eTup (aCons (eC (.str "end")) (aNil))) (aCons (eSl (eVar 2) (oNo) (oSome (eC (.int 3)))) (aCons (eOp2 opAdd (eVar 2) (eTup (aCons (eC (.int 0)) (aNil)))) (aCons (eFrz (fOp1 opList (eVar 2))) (aCons (eOp2 opAdd (eTup (aCons (eC (.str "stop")) (aNil))) (eSl (eVar 2) (oSome (eC (.int 1))) (oNo))) (aCons (eC .non) (aCons (eTup (aNil)) (aCons (eC (.str "end")) (aCons (eC (.int 0)) (aNil))))))))))))))
def le12 (c : Call) : SM := (sIf (tV (eOp2 opNe (eFrz (fComp (iB (eBrw 4)) [10] (gN 10) (tV (eOp2 opNe (eCall (c .f__law_word) (aCons (eCall (c .f__law_with_tree) (aCons (eVar 0) (aCons (eVar 10) (aNil)))) (aNil))) (eC (.str "machine")))) (eVar 10))) (eFrz (fLst (aNil))))) (sRet (eC (.bl false))) (sNil))
def le13 (c : Call) : SM := (sSet 11 (eFrz (fLst (aCons (eTup (aCons (eC (.str "ask")) (aCons (eC (.str "f")) (aCons (eTup (aNil)) (aCons (eTup (aCons (eVar 2) (aCons (eTup (aCons (eC (.str "end")) (aCons (eTup (aCons (eC (.str "failed")) (aCons (eC (.int 0)) (aNil)))) (aCons (eC (.int 0)) (aCons (eTup (aNil)) (aNil)))))) (aNil)))) (aNil)))))) (aCons (eCall (c .f__law_behind) (aCons (eTup (aCons (eC (.str "end")) (aCons (eVar 1) (aCons (eC (.int 1)) (aCons (eTup (aCons (eVar 3) (aNil))) (aNil)))))) (aNil))) (aNil))))))
def le14 (c : Call) : SM := (sSet 11 (eFrz (fAdd (eVar 11) (eFrz (fLst (aCons (eCall (c .f__law_behind) (aCons (eTup (aCons (eC (.str "end")) (aCons (eVar 1) (aCons (eC (.int 2)) (aCons (eTup (aCons (eVar 3) (aCons (eVar 3) (aNil)))) (aNil)))))) (aNil))) (aCons (eVar 2) (aNil))))))))
def le15 (c : Call) : SM := (sRet (eOp2 opEq2 (eFrz (fComp (iX (eVar 11)) [10] (gN 10) (tV (eOp2 opNe (eCall (c .f__law_word) (aCons (eCall (c .f__law_with_tree) (aCons (eVar 0) (aCons (eVar 10) (aNil)))) (aNil))) (eC (.str "good")))) (eVar 10))) (eFrz (fLst (aNil)))))
theorem le_eq (c : Call) : b__law_ends c = (sSeq (le0 c) (sSeq (le1 c) (sSeq (le2 c) (sSeq (le3 c) (sSeq (le4 c) (sSeq (le5 c) (sSeq (le6 c) (sSeq (le7 c) (sSeq (le8 c) (sSeq (le9 c) (sSeq (le10 c) (sSeq (le11 c) (sSeq (le12 c) (sSeq (le13 c) (sSeq (le14 c) (le15 c)))))))))))))))) := rfl
def leP (c : Call) : SM := (sSeq (le0 c) (sSeq (le1 c) (sSeq (le2 c) (sSeq (le3 c) (sSeq (le4 c) (sSeq (le5 c) (sSeq (le6 c) (sSeq (le7 c) (sSeq (le8 c) (sSeq (le9 c) (sSeq (le10 c) (le11 c))))))))))))
def leQ (c : Call) : SM := (sSeq (le13 c) (le14 c))
theorem le_eq2 (c : Call) : b__law_ends c = sSeq (leP c) (sSeq (le12 c) (sSeq (leQ c) (le15 c))) := by
  rw [le_eq]
  unfold leP leQ
  simp only [seq_asc]
def leSw : SW := runSw (leP (call 198)) 12 [.loc 0]
def leSq (q : Nat) : SW := leSw.set 0 (some (.val (.loc q)))
theorem leP_ok (q : Nat) (S : Store) : leP (call 198) (startW 12 [.loc q]) S = .ok (.nx (leSq q)) S := by kernel_rfl
def leW : List W := ownL leSw 4
theorem le_len : leW.length ≤ 200 := by decide +kernel
theorem leW_ok (q : Nat) (S : Store) : iB (eBrw 4) (leSq q) S = .ok leW S := by kernel_rfl
theorem leW_at (S : Store) : leW.map (fun T => [isT T 0 S, isT T 1 S, isT T 2 S, isT T 3 S]) = leW.map fun _ => [okB false S, okB false S, okB false S, okB false S] := by kernel_rfl
def leSw2 : SW := match leQ (call 198) leSw [] with
  | .ok (.nx sw) _ => sw
  | _ => []
def leSq2 (q : Nat) : SW := leSw2.set 0 (some (.val (.loc q)))
theorem leQ_ok (q : Nat) (S : Store) : leQ (call 198) (leSq q) S = .ok (.nx (leSq2 q)) S := by kernel_rfl
def leR : List W := ownL leSw2 11
theorem leR_len : leR.length ≤ 200 := by decide +kernel
theorem leR_ok (q : Nat) (S : Store) : iX (eVar 11) (leSq2 q) S = .ok leR S := by kernel_rfl
theorem leR_at (S : Store) : leR.map (fun T => [isT T 0 S, isT T 1 S, isT T 2 S, isT T 3 S]) = leR.map fun _ => [okB true S, okB true S, okB true S, okB true S] := by kernel_rfl
theorem le12_eq (c : Call) : le12 c = sIf (tV (eOp2 opNe (eFrz (fComp (iB (eBrw 4)) [10] (gN 10) (gW c 10 (wStr false)) (eVar 10))) (eFrz (fLst (aNil))))) (sRet (eC (.bl false))) (sNil) := rfl
theorem le15_eq (c : Call) : le15 c = sRet (eOp2 opEq2 (eFrz (fComp (iX (eVar 11)) [10] (gN 10) (gW c 10 (wStr true)) (eVar 10))) (eFrz (fLst (aNil)))) := rfl
theorem leS0 (q : Nat) : (wipeW (leSq q) [10])[0]? = some (some (.val (.loc q))) := by kernel_rfl
theorem leS1 (q : Nat) : (wipeW (leSq q) [10]).length = 12 := by kernel_rfl
theorem leS2 (q : Nat) : (wipeW (leSq2 q) [10])[0]? = some (some (.val (.loc q))) := by kernel_rfl
theorem leS3 (q : Nat) : (wipeW (leSq2 q) [10]).length = 12 := by kernel_rfl
theorem le_ok {S : Store} {p q : Nat} {t : Int} (H : Src S p q t) (ht : t < 900000) : ∃ S' t', call 199 .f__law_ends [.loc q] S = .ok (.val (.bl true)) S' ∧ Src S' p q t' ∧ t' ≤ t + 1600 := by
  have l1 := le_len
  have l2 := leR_len
  obtain ⟨S1, t1, e1, H1, h1⟩ := wif_ok (e := eVar 10) (leS0 q) (by rw [leS1]; omega) (by omega) (leW_ok q S) H (by omega) (by omega) (at_all leW_at)
  obtain ⟨S2, t2, e2, H2, h2⟩ := wret_ok (e := eVar 10) (leS2 q) (by rw [leS3]; omega) (by omega) (leR_ok q S1) H1 (by omega) (by omega) (at_all leR_at)
  refine ⟨S2, t2, ?_, H2, by omega⟩
  show fBody 12 (b__law_ends (call 198)) [.loc q] S = _
  rw [ev_body, le_eq2, seq2 (leP_ok q S), le12_eq, seq2 e1, seq2 (leQ_ok q S1), le15_eq, e2]
def la0 (c : Call) : SM := (sUnp (eTup (aCons (eCall0 (c .f__law_leaf)) (aCons (eTup (aCons (eC (.str "none")) (aNil))) (aNil)))) ([1, 2]))
def la1 (c : Call) : SM := (sSet 3 (eTup (aCons (eVar 1) (aCons (eVar 1) (aCons (eVar 1) (aNil))))))
def la2 (c : Call) : SM := (sSetO 4 (fLst (aNil)))
def la3 (c : Call) : SM := (sFor (iX (eFrz (fLst (aCons (eTup (aCons (eC (.str "if")) (aCons (eC (.int 0)) (aNil)))) (aCons (eTup (aCons (eC (.str "abcdefghi")) (aCons (eC (.int 1)) (aNil)))) (aCons (eTup (aCons (eC (.str "self")) (aCons (eC (.int 0)) (aNil)))) (aCons (eTup (aCons (eC (.str "<")) (aCons (eC (.int 3)) (aNil)))) (aCons (eTup (aCons (eC (.str "<")) (aCons (eC (.int 1)) (aNil)))) (aCons (eTup (aCons (eC (.str "<")) (aCons (eC (.int 0)) (aNil)))) (aCons (eTup (aCons (eC (.str "=")) (aCons (eC (.int 2)) (aNil)))) (aCons (eTup (aCons (eC .non) (aCons (eC (.int 0)) (aNil)))) (aNil)))))))))))) (gT [5, 6]) (sAppO 4 (eTup (aCons (eC (.str "ask")) (aCons (eVar 5) (aCons (eOp2 opRepA (eTup (aCons (eVar 2) (aNil))) (eVar 6)) (aCons (eTup (aCons (eVar 1) (aCons (eVar 1) (aNil)))) (aNil))))))))
def la4 (c : Call) : SM := (sFor (iX (eFrz (fLst (aCons (eTup (aCons (eC (.str "")) (aCons (eC (.int 0)) (aNil)))) (aCons (eTup (aCons (eFrz (fLst (aCons (eC (.str "f")) (aNil)))) (aCons (eC (.int 0)) (aNil)))) (aCons (eTup (aCons (eC (.str "F")) (aCons (eC (.int 0)) (aNil)))) (aCons (eTup (aCons (eC (.str "f\n")) (aCons (eC (.int 0)) (aNil)))) (aCons (eTup (aCons (eC (.str "f")) (aCons (eC (.int 4)) (aNil)))) (aCons (eTup (aCons (eC (.int 7)) (aCons (eC (.int 0)) (aNil)))) (aNil)))))))))) (gT [5, 6]) (sAppO 4 (eTup (aCons (eC (.str "ask")) (aCons (eVar 5) (aCons (eOp2 opRepA (eTup (aCons (eVar 2) (aNil))) (eVar 6)) (aCons (eTup (aCons (eVar 1) (aCons (eVar 1) (aNil)))) (aNil))))))))
def la5 (c : Call) : SM := (sFor (iX (eFrz (fLst (aCons (eFrz (fLst (aCons (eVar 1) (aCons (eVar 1) (aNil))))) (aCons (eTup (aCons (eVar 1) (aNil))) (aCons (eVar 3) (aCons (eTup (aCons (eVar 1) (aCons (eC .non) (aNil)))) (aCons (eTup (aCons (eC .non) (aCons (eVar 1) (aNil)))) (aCons (eTup (aNil)) (aCons (eC .non) (aNil))))))))))) (gN 7) (sAppO 4 (eTup (aCons (eC (.str "ask")) (aCons (eC (.str "f")) (aCons (eTup (aNil)) (aCons (eVar 7) (aNil))))))))
def la6 (c : Call) : SM := (sFor (iX (eFrz (fLst (aCons (eFrz (fOp1 opList (eVar 3))) (aCons (eTup (aCons (eVar 1) (aCons (eVar 1) (aNil)))) (aCons (eOp2 opAdd (eVar 3) (eTup (aCons (eVar 1) (aNil)))) (aCons (eTup (aCons (eVar 1) (aCons (eC .non) (aCons (eVar 1) (aNil))))) (aCons (eTup (aCons (eVar 1) (aCons (eVar 1) (aCons (eTup (aNil)) (aNil))))) (aCons (eTup (aNil)) (aCons (eC .non) (aNil))))))))))) (gN 7) (sAppO 4 (eTup (aCons (eC (.str "test")) (aCons (eTup (aCons (eC (.str "parameter")) (aCons (eC (.int 0)) (aNil)))) (aCons (eVar 7) (aNil)))))))
def la7 (c : Call) : SM := (sSetO 4 (fAdd (eBrw 4) (eFrz (fLst (aCons (eTup (aCons (eC (.str "ask")) (aCons (eC (.str "f")) (aCons (eFrz (fLst (aNil))) (aCons (eTup (aCons (eVar 1) (aCons (eVar 1) (aNil)))) (aNil)))))) (aCons (eTup (aCons (eC (.str "ask")) (aCons (eC (.str "f")) (aCons (eC .non) (aCons (eTup (aCons (eVar 1) (aCons (eVar 1) (aNil)))) (aNil)))))) (aCons (eTup (aCons (eC (.str "ask")) (aCons (eC (.str "f")) (aCons (eTup (aNil)) (aNil))))) (aCons (eTup (aCons (eC (.str "test")) (aCons (eVar 3) (aNil)))) (aNil)))))))))
def la8 (c : Call) : SM := (sSetO 4 (fAdd (eBrw 4) (eFrz (fLst (aCons (eTup (aCons (eC (.str "ask")) (aCons (eC (.str "f")) (aCons (eTup (aNil)) (aCons (eTup (aCons (eVar 1) (aCons (eVar 1) (aNil)))) (aCons (eC (.int 0)) (aNil))))))) (aCons (eTup (aCons (eC (.str "test")) (aCons (eTup (aCons (eC (.str "parameter")) (aCons (eC (.int 0)) (aNil)))) (aCons (eVar 3) (aCons (eC (.int 0)) (aNil)))))) (aNil)))))))
def la9 (c : Call) : SM := (sAppO 4 (eFrz (fLst (aCons (eC (.str "test")) (aCons (eTup (aCons (eC (.str "parameter")) (aCons (eC (.int 0)) (aNil)))) (aCons (eVar 3) (aNil)))))))
def la10 (c : Call) : SM := (sAppO 4 (eTup (aCons (eC (.str "ask")) (aCons (eC (.str "f")) (aCons (eTup (aNil)) (aCons (eTup (aCons (eVar 1) (aCons (eTup (aCons (eC (.str "test")) (aCons (eTup (aCons (eC (.str "event")) (aCons (eC (.int 0)) (aNil)))) (aCons (eVar 3) (aNil))))) (aNil)))) (aNil)))))))
def la11 (c : Call) : SM := (sAppO 4 (eTup (aCons (eC (.str "ask")) (aCons (eC (.str "f")) (aCons (eTup (aNil)) (aCons (eTup (aCons (eVar 1) (aCons (eTup (aCons (eC (.str "ask")) (aCons (eC (.str "g")) (aCons (eTup (aCons (eTup (aCons (eC (.str "event")) (aCons (eC (.int 0)) (aNil)))) (aNil))) (aCons (eTup (aCons (eVar 1) (aCons (eVar 1) (aNil)))) (aNil)))))) (aNil)))) (aNil)))))))
def la12 (c : Call) : SM := (sAppO 4 (eCall (c .f__law_behind) (aCons (eTup (aCons (eC (.str "ask")) (aCons (eC (.str "<")) (aCons (eTup (aCons (eTup (aCons (eC (.str "event")) (aCons (eC (.int 0)) (aNil)))) (aCons (eTup (aCons (eC (.str "event")) (aCons (eC (.int 1)) (aNil)))) (aNil)))) (aCons (eTup (aCons (eVar 1) (aCons (eVar 1) (aNil)))) (aNil)))))) (aNil))))
def la13 (c : Call) : SM := (sIf (tV (eOp2 opNe (eFrz (fComp (iB (eBrw 4)) [8] (gN 8) (tV (eOp2 opNe (eCall (c .f__law_word) (aCons (eCall (c .f__law_with_tree) (aCons (eVar 0) (aCons (eVar 8) (aNil)))) (aNil))) (eC (.str "machine")))) (eVar 8))) (eFrz (fLst (aNil))))) (sRet (eC (.bl false))) (sNil))
def la14 (c : Call) : SM := (sSetC 9 (fComp (iR1 (eC (.int 4))) [6] (gN 6) (tYesM) (eTup (aCons (eC (.str "ask")) (aCons (eC (.str "f")) (aCons (eOp2 opRepA (eTup (aCons (eVar 2) (aNil))) (eVar 6)) (aCons (eTup (aCons (eVar 1) (aCons (eVar 1) (aNil)))) (aNil))))))))
def la15 (c : Call) : SM := (sSet 9 (eFrz (fAdd (eVar 9) (eFrz (fLst (aCons (eTup (aCons (eC (.str "ask")) (aCons (eC (.str "!=")) (aCons (eTup (aCons (eVar 2) (aCons (eVar 2) (aNil)))) (aCons (eTup (aCons (eVar 1) (aCons (eVar 1) (aNil)))) (aNil)))))) (aCons (eTup (aCons (eC (.str "test")) (aCons (eTup (aCons (eC (.str "parameter")) (aCons (eC (.int 0)) (aNil)))) (aCons (eVar 3) (aNil))))) (aNil))))))))
def la16 (c : Call) : SM := (sRet (eOp2 opEq2 (eFrz (fComp (iX (eVar 9)) [8] (gN 8) (tV (eOp2 opNe (eCall (c .f__law_word) (aCons (eCall (c .f__law_with_tree) (aCons (eVar 0) (aCons (eVar 8) (aNil)))) (aNil))) (eC (.str "good")))) (eVar 8))) (eFrz (fLst (aNil)))))
theorem la_eq (c : Call) : b__law_asks c = (sSeq (la0 c) (sSeq (la1 c) (sSeq (la2 c) (sSeq (la3 c) (sSeq (la4 c) (sSeq (la5 c) (sSeq (la6 c) (sSeq (la7 c) (sSeq (la8 c) (sSeq (la9 c) (sSeq (la10 c) (sSeq (la11 c) (sSeq (la12 c) (sSeq (la13 c) (sSeq (la14 c) (sSeq (la15 c) (la16 c))))))))))))))))) := rfl
def laP (c : Call) : SM := (sSeq (la0 c) (sSeq (la1 c) (sSeq (la2 c) (sSeq (la3 c) (sSeq (la4 c) (sSeq (la5 c) (sSeq (la6 c) (sSeq (la7 c) (sSeq (la8 c) (sSeq (la9 c) (sSeq (la10 c) (sSeq (la11 c) (la12 c)))))))))))))
def laQ (c : Call) : SM := (sSeq (la14 c) (la15 c))
theorem la_eq2 (c : Call) : b__law_asks c = sSeq (laP c) (sSeq (la13 c) (sSeq (laQ c) (la16 c))) := by
  rw [la_eq]
  unfold laP laQ
  simp only [seq_asc]
def laSw : SW := runSw (laP (call 198)) 10 [.loc 0]
def laSq (q : Nat) : SW := laSw.set 0 (some (.val (.loc q)))
theorem laP_ok (q : Nat) (S : Store) : laP (call 198) (startW 10 [.loc q]) S = .ok (.nx (laSq q)) S := by kernel_rfl
def laW : List W := ownL laSw 4
theorem la_len : laW.length ≤ 200 := by decide +kernel
theorem laW_ok (q : Nat) (S : Store) : iB (eBrw 4) (laSq q) S = .ok laW S := by kernel_rfl
theorem laW_at (S : Store) : laW.map (fun T => [isT T 0 S, isT T 1 S, isT T 2 S, isT T 3 S]) = laW.map fun _ => [okB false S, okB false S, okB false S, okB false S] := by kernel_rfl
def laSw2 : SW := match laQ (call 198) laSw [] with
  | .ok (.nx sw) _ => sw
  | _ => []
def laSq2 (q : Nat) : SW := laSw2.set 0 (some (.val (.loc q)))
theorem laQ_ok (q : Nat) (S : Store) : laQ (call 198) (laSq q) S = .ok (.nx (laSq2 q)) S := by kernel_rfl
def laR : List W := ownL laSw2 9
theorem laR_len : laR.length ≤ 200 := by decide +kernel
theorem laR_ok (q : Nat) (S : Store) : iX (eVar 9) (laSq2 q) S = .ok laR S := by kernel_rfl
theorem laR_at (S : Store) : laR.map (fun T => [isT T 0 S, isT T 1 S, isT T 2 S, isT T 3 S]) = laR.map fun _ => [okB true S, okB true S, okB true S, okB true S] := by kernel_rfl
theorem la13_eq (c : Call) : la13 c = sIf (tV (eOp2 opNe (eFrz (fComp (iB (eBrw 4)) [8] (gN 8) (gW c 8 (wStr false)) (eVar 8))) (eFrz (fLst (aNil))))) (sRet (eC (.bl false))) (sNil) := rfl
theorem la16_eq (c : Call) : la16 c = sRet (eOp2 opEq2 (eFrz (fComp (iX (eVar 9)) [8] (gN 8) (gW c 8 (wStr true)) (eVar 8))) (eFrz (fLst (aNil)))) := rfl
theorem laS0 (q : Nat) : (wipeW (laSq q) [8])[0]? = some (some (.val (.loc q))) := by kernel_rfl
theorem laS1 (q : Nat) : (wipeW (laSq q) [8]).length = 10 := by kernel_rfl
theorem laS2 (q : Nat) : (wipeW (laSq2 q) [8])[0]? = some (some (.val (.loc q))) := by kernel_rfl
theorem laS3 (q : Nat) : (wipeW (laSq2 q) [8]).length = 10 := by kernel_rfl
theorem la_ok {S : Store} {p q : Nat} {t : Int} (H : Src S p q t) (ht : t < 900000) : ∃ S' t', call 199 .f__law_asks [.loc q] S = .ok (.val (.bl true)) S' ∧ Src S' p q t' ∧ t' ≤ t + 1600 := by
  have l1 := la_len
  have l2 := laR_len
  obtain ⟨S1, t1, e1, H1, h1⟩ := wif_ok (e := eVar 8) (laS0 q) (by rw [laS1]; omega) (by omega) (laW_ok q S) H (by omega) (by omega) (at_all laW_at)
  obtain ⟨S2, t2, e2, H2, h2⟩ := wret_ok (e := eVar 8) (laS2 q) (by rw [laS3]; omega) (by omega) (laR_ok q S1) H1 (by omega) (by omega) (at_all laR_at)
  refine ⟨S2, t2, ?_, H2, by omega⟩
  show fBody 10 (b__law_asks (call 198)) [.loc q] S = _
  rw [ev_body, la_eq2, seq2 (laP_ok q S), la13_eq, seq2 e1, seq2 (laQ_ok q S1), la16_eq, e2]
end G
set_option Elab.async false
set_option linter.all false
set_option maxRecDepth 1000000
set_option maxHeartbeats 4000000
namespace G
open PySem PySem.Spec ML
def lo0 (c : Call) : SM := (sSet 1 (eFrz (fLst (aCons (eTup (aCons (eC (.str "place")) (aCons (eC (.int 0)) (aNil)))) (aCons (eTup (aCons (eC (.str "place")) (aCons (eOp2 opPow (eC (.int 10)) (eC (.int 25))) (aNil)))) (aCons (eTup (aCons (eC (.str "parameter")) (aCons (eC (.int 1)) (aNil)))) (aCons (eTup (aCons (eC (.str "parameter")) (aCons (eC (.int 2)) (aNil)))) (aCons (eTup (aCons (eC (.str "parameter")) (aCons (eC (.int 0)) (aCons (eC (.int 0)) (aNil))))) (aCons (eTup (aCons (eC (.str "event")) (aCons (eC (.int 1)) (aNil)))) (aNil))))))))))
def lo1 (c : Call) : SM := (sFor (iX (eFrz (fLst (aCons (eC (.str "place")) (aCons (eC (.str "parameter")) (aCons (eC (.str "event")) (aNil))))))) (gN 2) (sSet 1 (eFrz (fAdd (eVar 1) (eFrz (fComp (iX (eFrz (fLst (aCons (eC .non) (aCons (eC (.str "0")) (aCons (eC (.bl true)) (aCons (eC (.bl false)) (aCons (eOp1 opNeg (eC (.int 1))) (aCons (eFrz (fLst (aNil))) (aCons (eFrz (fDict0)) (aCons (eTup (aNil)) (aCons (eOp2 opPow (eC (.int 10)) (eC (.int 25))) (aNil))))))))))))) [3] (gN 3) (tYesM) (eTup (aCons (eVar 2) (aCons (eVar 3) (aNil))))))))))
def lo2 (c : Call) : SM := (sSet 1 (eFrz (fAdd (eVar 1) (eFrz (fComp (iX (eFrz (fLst (aCons (eC (.str "answer")) (aCons (eC (.str "name")) (aCons (eC (.str "none")) (aCons (eC (.str "")) (aCons (eC .non) (aCons (eC (.str "object")) (aNil)))))))))) [2] (gN 2) (tYesM) (eTup (aCons (eVar 2) (aCons (eC (.int 0)) (aNil)))))))))
def lo3 (c : Call) : SM := (sSet 1 (eFrz (fAdd (eVar 1) (eFrz (fComp (iX (eFrz (fLst (aCons (eC (.str "None")) (aCons (eC (.str "object")) (aCons (eC (.str "place")) (aCons (eC (.str "t")) (aCons (eC (.str "")) (aCons (eC .non) (aCons (eC (.str "event")) (aNil))))))))))) [2] (gN 2) (tYesM) (eTup (aCons (eVar 2) (aNil))))))))
def lo4 (c : Call) : SM := (sSet 1 (eFrz (fAdd (eVar 1) (eFrz (fLst (aCons (eTup (aNil)) (aCons (eC .non) (aCons (eFrz (fLst (aCons (eC (.str "none")) (aNil)))) (aCons (eC (.str "none")) (aCons (eTup (aCons (eC (.str "none")) (aCons (eTup (aCons (eC (.str "none")) (aNil))) (aNil)))) (aCons (eFrz (fLst (aCons (eC (.str "event")) (aCons (eC (.int 0)) (aNil))))) (aCons (eTup (aCons (eC (.str "event")) (aNil))) (aCons (eC (.int 0)) (aNil))))))))))))))
def lo5 (c : Call) : SM := (sFor (iX (eVar 1)) (gN 4) (sIf (tV (eOp2 opNe (eFrz (fComp (iX (eCall (c .f__law_spots) (aCons (eVar 4) (aNil)))) [5] (gN 5) (tV (eOp2 opNe (eCall (c .f__law_word) (aCons (eCall (c .f__law_with_tree) (aCons (eVar 0) (aCons (eVar 5) (aNil)))) (aNil))) (eC (.str "machine")))) (eVar 5))) (eFrz (fLst (aNil))))) (sRet (eC (.bl false))) (sNil)))
def lo6 (c : Call) : SM := (sFor (iX (eFrz (fLst (aCons (eTup (aCons (eC (.str "event")) (aCons (eC (.int 0)) (aNil)))) (aCons (eTup (aCons (eC (.str "parameter")) (aCons (eC (.int 0)) (aNil)))) (aNil)))))) (gN 4) (sIf (tV (eOp2 opNe (eFrz (fComp (iX (eCall (c .f__law_spots) (aCons (eVar 4) (aNil)))) [5] (gN 5) (tV (eOp2 opNe (eCall (c .f__law_word) (aCons (eCall (c .f__law_with_tree) (aCons (eVar 0) (aCons (eVar 5) (aNil)))) (aNil))) (eC (.str "good")))) (eVar 5))) (eFrz (fLst (aNil))))) (sRet (eC (.bl false))) (sNil)))
def lo7 (c : Call) : SM := (sFor (iX (eFrz (fLst (aCons (eC (.str "none")) (aCons (eC (.str "true")) (aCons (eC (.str "false")) (aNil))))))) (gN 2) (sSeq (sSetC 6 (fComp (iX (eCall (c .f__law_spots) (aCons (eTup (aCons (eVar 2) (aNil))) (aNil)))) [5] (gN 5) (tYesM) (eCall (c .f__law_word) (aCons (eCall (c .f__law_with_tree) (aCons (eVar 0) (aCons (eVar 5) (aNil)))) (aNil))))) (sIf (tV (eOp2 opNe (eVar 6) (eOp2 opAdd (eFrz (fRep (eFrz (fLst (aCons (eC (.str "good")) (aNil)))) (eC (.int 4)))) (eFrz (fRep (eFrz (fLst (aCons (eC (.str "machine")) (aNil)))) (eC (.int 4))))))) (sRet (eC (.bl false))) (sNil))))
def lo8 (c : Call) : SM := (sRet (eC (.bl true)))
theorem lo_eq (c : Call) : b__law_operands c = (sSeq (lo0 c) (sSeq (lo1 c) (sSeq (lo2 c) (sSeq (lo3 c) (sSeq (lo4 c) (sSeq (lo5 c) (sSeq (lo6 c) (sSeq (lo7 c) (lo8 c))))))))) := rfl
def loP (c : Call) : SM := (sSeq (lo0 c) (sSeq (lo1 c) (sSeq (lo2 c) (sSeq (lo3 c) (lo4 c)))))
theorem lo_eq2 (c : Call) : b__law_operands c = sSeq (loP c) (sSeq (lo5 c) (sSeq (lo6 c) (sSeq (lo7 c) (lo8 c)))) := by
  rw [lo_eq]
  unfold loP
  simp only [seq_asc]
def loSw : SW := runSw (loP (call 198)) 7 [.loc 0]
def loSq (q : Nat) : SW := loSw.set 0 (some (.val (.loc q)))
theorem loP_ok (q : Nat) (S : Store) : loP (call 198) (startW 7 [.loc q]) S = .ok (.nx (loSq q)) S := by kernel_rfl
def loW : List W := ownL loSw 1
theorem loW_len : loW.length ≤ 60 := by decide +kernel
theorem loW_ok (q : Nat) (S : Store) : iX (eVar 1) (loSq q) S = .ok loW S := by kernel_rfl
def spW (op : W) : List W := match call 198 .f__law_spots [op] [] with
  | .ok (.fr (.lst ws)) _ => ws
  | _ => []
theorem sp_ok (op : W) (S : Store) : call 198 .f__law_spots [op] S = .ok (.fr (.lst (spW op))) S := by kernel_rfl
theorem sp_len (op : W) : (spW op).length = 8 := by kernel_rfl
theorem at_all2 {ops : List W} {v : Bool} (h : ∀ S, ops.map (fun op => (spW op).map fun T => [isT T 0 S, isT T 1 S, isT T 2 S, isT T 3 S]) = ops.map fun op => (spW op).map fun _ => [okB v S, okB v S, okB v S, okB v S]) : ∀ op ∈ ops, ∀ T ∈ spW op, At 3 T v := fun op ho => at_all fun S => List.map_inj_left.mp (h S) op ho
theorem loW_at0 (S : Store) : loW.map (fun op => (spW op).map fun T => [isT T 0 S, isT T 1 S, isT T 2 S, isT T 3 S]) = loW.map fun op => (spW op).map fun _ => [okB false S, okB false S, okB false S, okB false S] := by kernel_rfl
def loG : List W := [.tup [.str "event", .int 0], .tup [.str "parameter", .int 0]]
theorem loG_at0 (S : Store) : loG.map (fun op => (spW op).map fun T => [isT T 0 S, isT T 1 S, isT T 2 S, isT T 3 S]) = loG.map fun op => (spW op).map fun _ => [okB true S, okB true S, okB true S, okB true S] := by kernel_rfl
def opB (c : Call) (v : Bool) : SM := (sIf (tV (eOp2 opNe (eFrz (fComp (iX (eCall (c .f__law_spots) (aCons (eVar 4) (aNil)))) [5] (gN 5) (gW c 5 (wStr v)) (eVar 5))) (eFrz (fLst (aNil))))) (sRet (eC (.bl false))) (sNil))
theorem lo5_eq (c : Call) : lo5 c = sFor (iX (eVar 1)) (gN 4) (opB c false) := rfl
theorem lo6_eq (c : Call) : lo6 c = sFor (iX (eFrz (fLst (aCons (eTup (aCons (eC (.str "event")) (aCons (eC (.int 0)) (aNil)))) (aCons (eTup (aCons (eC (.str "parameter")) (aCons (eC (.int 0)) (aNil)))) (aNil)))))) (gN 4) (opB c true) := rfl
theorem loG_ok (sw : SW) (S : Store) : iX (eFrz (fLst (aCons (eTup (aCons (eC (.str "event")) (aCons (eC (.int 0)) (aNil)))) (aCons (eTup (aCons (eC (.str "parameter")) (aCons (eC (.int 0)) (aNil)))) (aNil))))) sw S = .ok loG S := by kernel_rfl
theorem isp_ok {sw : SW} {op : W} (h : sw[4]? = some (some (.val op))) (S : Store) : iX (eCall (call 198 .f__law_spots) (aCons (eVar 4) (aNil))) sw S = .ok (spW op) S := by
  have e : eCall (call 198 .f__law_spots) (aCons (eVar 4) (aNil)) sw S = .ok (.lst (spW op)) S := callF_of (args1_of (ev_var h)) (sp_ok op S)
  show (eCall (call 198 .f__law_spots) (aCons (eVar 4) (aNil)) sw S).bind _ = _
  rw [e]
  rfl
def Osw (q : Nat) (sw : SW) : Prop := ∃ x1 x2 x3 x4 x5 x6, sw = [some (.val (.loc q)), x1, x2, x3, x4, x5, x6]
theorem opL_ok {p q : Nat} {v : Bool} : ∀ (ops : List W) (S : Store) (t : Int) (sw : SW), Src S p q t → t + 32 * ops.length < 980000 → Osw q sw → (∀ op ∈ ops, ∀ T ∈ spW op, At 3 T v) → ∃ sw' S' t', forW (gN 4) (opB (call 198) v) ops sw S = .ok (.nx sw') S' ∧ Osw q sw' ∧ Src S' p q t' ∧ t' ≤ t + 32 * ops.length
  | [], S, t, sw, H, ht, hs, hT => ⟨sw, S, t, rfl, hs, H, by simp⟩
  | op :: ops, S, t, sw, H, ht, hs, hT => by
    rw [List.length_cons] at ht
    obtain ⟨x1, x2, x3, x4, x5, x6, rfl⟩ := hs
    obtain ⟨S1, t1, e1, H1, h1⟩ := wif_ok (sw := [some (.val (.loc q)), x1, x2, x3, some (.val op), x5, x6]) (j := 5) (e := eVar 5) (v := v) rfl (by simp [wipeW]) (by omega) (isp_ok rfl S) H (by rw [sp_len]; omega) (by rw [sp_len]; omega) (hT op (List.mem_cons_self ..))
    rw [sp_len] at h1
    obtain ⟨sw2, S2, t2, e2, hs2, H2, h2⟩ := opL_ok ops S1 t1 [some (.val (.loc q)), x1, x2, x3, some (.val op), x5, x6] H1 (by omega) ⟨_, _, _, _, _, _, rfl⟩ (fun o ho => hT o (List.mem_cons_of_mem _ ho))
    refine ⟨sw2, S2, t2, ?_, hs2, H2, by rw [List.length_cons]; omega⟩
    rw [for_step (g := gN 4) rfl e1]
    exact e2
/-! ### the third loop -/
def eW (c : Call) (j : Nat) : EM := eCall (c .f__law_word) (aCons (eCall (c .f__law_with_tree) (aCons (eVar 0) (aCons (eVar j) (aNil)))) (aNil))
theorem cw_ok {p q j : Nat} {sw : SW} (h0 : sw[0]? = some (some (.val (.loc q)))) (hj : j < sw.length) (hj0 : j ≠ 0) : ∀ (ts : List (W × Bool)) (S : Store) (t : Int), Src S p q t → t + 4 * ts.length < 990000 → (∀ T ∈ ts, At 3 T.1 T.2) → ∃ S' t', compW (gN j) tYesM (eW (call 198) j) sw (ts.map (·.1)) S = .ok (ts.map fun T => wordOf T.2) S' ∧ Src S' p q t' ∧ t' ≤ t + 4 * ts.length
  | [], S, t, H, ht, hT => ⟨S, t, rfl, H, by simp⟩
  | T :: ts, S, t, H, ht, hT => by
    rw [List.length_cons] at ht
    obtain ⟨S1, t1, e1, H1, h1⟩ := ecall_ok (sw := sw.set j (some (.val T.1))) (j := j) H (by omega) (by rw [List.getElem?_set_ne hj0]; exact h0) (by rw [List.getElem?_set_self hj]) (hT T (List.mem_cons_self ..))
    obtain ⟨S2, t2, e2, H2, h2⟩ := cw_ok h0 hj hj0 ts S1 t1 H1 (by omega) (fun U hU => hT U (List.mem_cons_of_mem _ hU))
    refine ⟨S2, t2, ?_, H2, by rw [List.length_cons]; omega⟩
    have e0 : compW (gN j) tYesM (eW (call 198) j) sw (T.1 :: ts.map (·.1)) S = (noX (eW (call 198) j (sw.set j (some (.val T.1))) S)).bind fun y S => (compW (gN j) tYesM (eW (call 198) j) sw (ts.map (·.1)) S).bind fun ys S => .ok (y :: ys) S := rfl
    have e1' : eW (call 198) j (sw.set j (some (.val T.1))) S = .ok (wordOf T.2) S1 := e1
    have en : noX (Res.ok (wordOf T.2) S1) = Res.ok (wordOf T.2) S1 := rfl
    rw [List.map_cons, e0, e1', en, bind_ok, e2]
    rfl
def ws8 : List Bool := [true, true, true, true, false, false, false, false]
def loN : List W := [.str "none", .str "true", .str "false"]
theorem loN_at0 (S : Store) : loN.map (fun w => ((spW (.tup [w])).zip ws8).map fun T => [isT T.1 0 S, isT T.1 1 S, isT T.1 2 S, isT T.1 3 S]) = loN.map fun w => ((spW (.tup [w])).zip ws8).map fun T => [okB T.2 S, okB T.2 S, okB T.2 S, okB T.2 S] := by kernel_rfl
theorem loN_at : ∀ w ∈ loN, ∀ T ∈ (spW (.tup [w])).zip ws8, At 3 T.1 T.2 := fun w hw T hT S k hk => by
  have e := List.map_inj_left.mp (List.map_inj_left.mp (loN_at0 S) w hw) T hT
  simp only [List.cons.injEq, and_true] at e
  obtain ⟨e0, e1, e2, e3⟩ := e
  have hk : k = 0 ∨ k = 1 ∨ k = 2 ∨ k = 3 := by omega
  rcases hk with rfl | rfl | rfl | rfl
  · exact e0
  · exact e1
  · exact e2
  · exact e3
def n0 (c : Call) : SM := (sSetC 6 (fComp (iX (eCall (c .f__law_spots) (aCons (eTup (aCons (eVar 2) (aNil))) (aNil)))) [5] (gN 5) (tYesM) (eW c 5)))
def n1 : SM := (sIf (tV (eOp2 opNe (eVar 6) (eOp2 opAdd (eFrz (fRep (eFrz (fLst (aCons (eC (.str "good")) (aNil)))) (eC (.int 4)))) (eFrz (fRep (eFrz (fLst (aCons (eC (.str "machine")) (aNil)))) (eC (.int 4))))))) (sRet (eC (.bl false))) (sNil))
theorem lo7_eq (c : Call) : lo7 c = sFor (iX (eFrz (fLst (aCons (eC (.str "none")) (aCons (eC (.str "true")) (aCons (eC (.str "false")) (aNil))))))) (gN 2) (sSeq (n0 c) n1) := rfl
theorem loN_ok (sw : SW) (S : Store) : iX (eFrz (fLst (aCons (eC (.str "none")) (aCons (eC (.str "true")) (aCons (eC (.str "false")) (aNil)))))) sw S = .ok loN S := by kernel_rfl
theorem n1_ok (q : Nat) (x1 x2 x3 x4 x5 : Option Sl) (S : Store) : n1 [some (.val (.loc q)), x1, x2, x3, x4, x5, some (.val (.lst (ws8.map wordOf)))] S = .ok (.nx [some (.val (.loc q)), x1, x2, x3, x4, x5, some (.val (.lst (ws8.map wordOf)))]) S := by kernel_rfl
theorem zip_fst {A B : Type} : ∀ (l : List A) (m : List B), l.length = m.length → (l.zip m).map (·.1) = l
  | [], [], _ => rfl
  | a :: l, b :: m, h => by simp at h; simp [zip_fst l m h]
theorem zip_snd {A B : Type} : ∀ (l : List A) (m : List B), l.length = m.length → (l.zip m).map (·.2) = m
  | [], [], _ => rfl
  | a :: l, b :: m, h => by simp at h; simp [zip_snd l m h]
theorem n_ok {p q : Nat} {S : Store} {t : Int} (H : Src S p q t) (ht : t < 980000) (w : W) (hT : ∀ T ∈ (spW (.tup [w])).zip ws8, At 3 T.1 T.2) (x1 x3 x4 x5 x6 : Option Sl) : ∃ sw' S' t', sSeq (n0 (call 198)) n1 [some (.val (.loc q)), x1, some (.val w), x3, x4, x5, x6] S = .ok (.nx sw') S' ∧ Osw q sw' ∧ Src S' p q t' ∧ t' ≤ t + 32 := by
  have h8 := sp_len (.tup [w])
  have hz : ((spW (.tup [w])).zip ws8).length = 8 := by rw [List.length_zip, h8]; rfl
  obtain ⟨S', t', e1, H', h'⟩ := cw_ok (sw := wipeW [some (.val (.loc q)), x1, some (.val w), x3, x4, x5, x6] [5]) (j := 5) rfl (by simp [wipeW]) (by omega) ((spW (.tup [w])).zip ws8) S t H (by rw [hz]; omega) hT
  rw [hz] at h'
  rw [zip_fst _ _ (by rw [h8]; rfl)] at e1
  have em : (((spW (.tup [w])).zip ws8).map fun T => wordOf T.2) = ws8.map wordOf := by
    have := zip_snd (spW (.tup [w])) ws8 (by rw [h8]; rfl)
    rw [show (((spW (.tup [w])).zip ws8).map fun T => wordOf T.2) = (((spW (.tup [w])).zip ws8).map (·.2)).map wordOf by rw [List.map_map]; rfl, this]
  rw [em] at e1
  have ei : iX (eCall (call 198 .f__law_spots) (aCons (eTup (aCons (eVar 2) (aNil))) (aNil))) [some (.val (.loc q)), x1, some (.val w), x3, x4, x5, x6] S = .ok (spW (.tup [w])) S := by
    have e : eCall (call 198 .f__law_spots) (aCons (eTup (aCons (eVar 2) (aNil))) (aNil)) [some (.val (.loc q)), x1, some (.val w), x3, x4, x5, x6] S = .ok (.lst (spW (.tup [w]))) S := callF_of (args1_of rfl) (sp_ok (.tup [w]) S)
    show (eCall (call 198 .f__law_spots) (aCons (eTup (aCons (eVar 2) (aNil))) (aNil)) [some (.val (.loc q)), x1, some (.val w), x3, x4, x5, x6] S).bind _ = _
    rw [e]
    rfl
  have ec : fComp (iX (eCall (call 198 .f__law_spots) (aCons (eTup (aCons (eVar 2) (aNil))) (aNil)))) [5] (gN 5) (tYesM) (eW (call 198) 5) [some (.val (.loc q)), x1, some (.val w), x3, x4, x5, x6] S = .ok (.lst (ws8.map wordOf)) S' := by
    unfold fComp
    rw [ei, bind_ok, if_pos (le_size (by rw [h8]; omega)), e1]
    rfl
  have e0 : n0 (call 198) [some (.val (.loc q)), x1, some (.val w), x3, x4, x5, x6] S = .ok (.nx [some (.val (.loc q)), x1, some (.val w), x3, x4, x5, some (.val (.lst (ws8.map wordOf)))]) S' := by
    unfold n0 sSetC
    rw [ev_set, frz_of ec]
    rfl
  exact ⟨_, S', t', by rw [seq2 e0, n1_ok], ⟨_, _, _, _, _, _, rfl⟩, H', by omega⟩
theorem nL_ok {p q : Nat} : ∀ (ws : List W) (S : Store) (t : Int) (sw : SW), Src S p q t → t + 32 * ws.length < 980000 → Osw q sw → (∀ w ∈ ws, ∀ T ∈ (spW (.tup [w])).zip ws8, At 3 T.1 T.2) → ∃ sw' S' t', forW (gN 2) (sSeq (n0 (call 198)) n1) ws sw S = .ok (.nx sw') S' ∧ Osw q sw' ∧ Src S' p q t' ∧ t' ≤ t + 32 * ws.length
  | [], S, t, sw, H, ht, hs, hT => ⟨sw, S, t, rfl, hs, H, by simp⟩
  | w :: ws, S, t, sw, H, ht, hs, hT => by
    rw [List.length_cons] at ht
    obtain ⟨x1, x2, x3, x4, x5, x6, rfl⟩ := hs
    obtain ⟨sw1, S1, t1, e1, hs1, H1, h1⟩ := n_ok H (by omega) w (hT w (List.mem_cons_self ..)) x1 x3 x4 x5 x6
    obtain ⟨sw2, S2, t2, e2, hs2, H2, h2⟩ := nL_ok ws S1 t1 sw1 H1 (by omega) hs1 (fun o ho => hT o (List.mem_cons_of_mem _ ho))
    refine ⟨sw2, S2, t2, ?_, hs2, H2, by rw [List.length_cons]; omega⟩
    rw [for_step (g := gN 2) rfl e1]
    exact e2
theorem loSq_osw (q : Nat) : Osw q (loSq q) := ⟨_, _, _, _, _, _, rfl⟩
theorem lo_ok {S : Store} {p q : Nat} {t : Int} (H : Src S p q t) (ht : t < 900000) : ∃ S' t', call 199 .f__law_operands [.loc q] S = .ok (.val (.bl true)) S' ∧ Src S' p q t' ∧ t' ≤ t + 3000 := by
  have l1 := loW_len
  obtain ⟨sw1, S1, t1, e1, hs1, H1, h1⟩ := opL_ok (v := false) loW S t (loSq q) H (by omega) (loSq_osw q) (at_all2 loW_at0)
  have lG : loG.length = 2 := rfl
  have lN : loN.length = 3 := rfl
  obtain ⟨sw2, S2, t2, e2, hs2, H2, h2⟩ := opL_ok (v := true) loG S1 t1 sw1 H1 (by omega) hs1 (at_all2 loG_at0)
  obtain ⟨sw3, S3, t3, e3, hs3, H3, h3⟩ := nL_ok loN S2 t2 sw2 H2 (by omega) hs2 loN_at
  refine ⟨S3, t3, ?_, H3, by omega⟩
  show fBody 7 (b__law_operands (call 198)) [.loc q] S = _
  rw [ev_body, lo_eq2, seq2 (loP_ok q S), lo5_eq, ev_seq, ev_for, loW_ok, liftS_ok, e1, then_nx, lo6_eq, ev_seq, ev_for, loG_ok, liftS_ok, e2, then_nx, lo7_eq, ev_seq, ev_for, loN_ok, liftS_ok, e3, then_nx]
  rfl
end G
set_option Elab.async false
set_option linter.all false
set_option maxRecDepth 1000000
set_option maxHeartbeats 4000000
namespace G
open PySem PySem.Spec ML
def ll0 (c : Call) : SM := (sSet 1 (eCall0 (c .f__law_leaf)))
def ll1 (c : Call) : SM := (sSet 2 (eVar 1))
def ll2 (c : Call) : SM := (sFor (iR1 (eC (.int 7))) (gN 3) (sSeq (sIf (tAndM (tV (eOp2 opEq2 (eVar 3) (eC (.int 6)))) (tV (eOp2 opNe (eCall (c .f__law_word) (aCons (eTup (aCons (eTup (aCons (eC (.str "p")) (aNil))) (aCons (eC (.int 0)) (aCons (eTup (aCons (eTup (aCons (eC (.int 0)) (aCons (eVar 2) (aNil)))) (aNil))) (aNil))))) (aNil))) (eC (.str "good"))))) (sRet (eC (.bl false))) (sNil)) (sSet 2 (eTup (aCons (eC (.str "ask")) (aCons (eC (.str "f")) (aCons (eTup (aNil)) (aCons (eOp2 opIx (eFrz (fLst (aCons (eTup (aCons (eVar 2) (aCons (eVar 1) (aNil)))) (aCons (eTup (aCons (eVar 1) (aCons (eVar 2) (aNil)))) (aNil))))) (eCall (c .f__law_draw) (aCons (eVar 0) (aCons (eC (.int 2)) (aNil))))) (aNil)))))))))
def ll3 (c : Call) : SM := (sIf (tV (eOp2 opNe (eCall (c .f__law_word) (aCons (eTup (aCons (eTup (aCons (eC (.str "p")) (aNil))) (aCons (eC (.int 0)) (aCons (eTup (aCons (eTup (aCons (eC (.int 0)) (aCons (eVar 2) (aNil)))) (aNil))) (aNil))))) (aNil))) (eC (.str "machine")))) (sRet (eC (.bl false))) (sNil))
def ll4 (c : Call) : SM := (sSet 4 (eVar 1))
def ll5 (c : Call) : SM := (sSet 5 (eC (.int 0)))
def ll6 (c : Call) : SM := (sFor (iR2 (eC (.int 2)) (eC (.int 32))) (gN 6) (sSeq (sSet 7 (eCall (c .f__law_draw) (aCons (eVar 0) (aCons (eC (.int 5)) (aNil))))) (sSeq (sIf (tAndM (tV (eOp2 opLt (eVar 7) (eC (.int 2)))) (tV (eOp2 opLt (eVar 5) (eC (.int 6))))) (sSeq (sSet 5 (eOp2 opAdd (eVar 5) (eC (.int 1)))) (sSet 4 (eTup (aCons (eC (.str "ask")) (aCons (eC (.str "f")) (aCons (eTup (aNil)) (aCons (eOp2 opIx (eFrz (fLst (aCons (eTup (aCons (eVar 4) (aCons (eVar 1) (aNil)))) (aCons (eTup (aCons (eVar 1) (aCons (eVar 4) (aNil)))) (aNil))))) (eVar 7)) (aNil)))))))) (sSeq (sSetO 8 (fLst (aCons (eVar 1) (aCons (eVar 1) (aCons (eVar 1) (aNil)))))) (sSeq (sPutO 8 (eOp2 opMod (eVar 7) (eC (.int 3))) (eVar 4)) (sSet 4 (eTup (aCons (eC (.str "test")) (aCons (eTup (aCons (eC (.str "parameter")) (aCons (eC (.int 0)) (aNil)))) (aCons (eOp1 opTuple (eBrw 8)) (aNil))))))))) (sIf (tV (eOp2 opNe (eCall (c .f__law_word) (aCons (eTup (aCons (eTup (aCons (eC (.str "p")) (aNil))) (aCons (eC (.int 0)) (aCons (eTup (aCons (eTup (aCons (eC (.int 0)) (aCons (eVar 4) (aNil)))) (aNil))) (aNil))))) (aNil))) (eOp2 opIx (eFrz (fLst (aCons (eC (.str "good")) (aCons (eC (.str "machine")) (aNil))))) (eOp1 opInt (eOp2 opEq2 (eVar 6) (eC (.int 31))))))) (sRet (eC (.bl false))) (sNil)))))
def ll7 (c : Call) : SM := (sRet (eC (.bl true)))
theorem ll_eq (c : Call) : b__law_long c = (sSeq (ll0 c) (sSeq (ll1 c) (sSeq (ll2 c) (sSeq (ll3 c) (sSeq (ll4 c) (sSeq (ll5 c) (sSeq (ll6 c) (ll7 c)))))))) := rfl
def lb0 (c : Call) : SM := (sIf (tAndM (tV (eOp2 opEq2 (eVar 3) (eC (.int 6)))) (tV (eOp2 opNe (eCall (c .f__law_word) (aCons (eTup (aCons (eTup (aCons (eC (.str "p")) (aNil))) (aCons (eC (.int 0)) (aCons (eTup (aCons (eTup (aCons (eC (.int 0)) (aCons (eVar 2) (aNil)))) (aNil))) (aNil))))) (aNil))) (eC (.str "good"))))) (sRet (eC (.bl false))) (sNil))
def lb1 (c : Call) : SM := (sSet 2 (eTup (aCons (eC (.str "ask")) (aCons (eC (.str "f")) (aCons (eTup (aNil)) (aCons (eOp2 opIx (eFrz (fLst (aCons (eTup (aCons (eVar 2) (aCons (eVar 1) (aNil)))) (aCons (eTup (aCons (eVar 1) (aCons (eVar 2) (aNil)))) (aNil))))) (eCall (c .f__law_draw) (aCons (eVar 0) (aCons (eC (.int 2)) (aNil))))) (aNil)))))))
theorem ll2_eq (c : Call) : ll2 c = sFor (iR1 (eC (.int 7))) (gN 3) (sSeq (lb0 c) (lb1 c)) := rfl
def lc0 (c : Call) : SM := (sSet 7 (eCall (c .f__law_draw) (aCons (eVar 0) (aCons (eC (.int 5)) (aNil)))))
def lcA : SM := (sSeq (sSet 5 (eOp2 opAdd (eVar 5) (eC (.int 1)))) (sSet 4 (eTup (aCons (eC (.str "ask")) (aCons (eC (.str "f")) (aCons (eTup (aNil)) (aCons (eOp2 opIx (eFrz (fLst (aCons (eTup (aCons (eVar 4) (aCons (eVar 1) (aNil)))) (aCons (eTup (aCons (eVar 1) (aCons (eVar 4) (aNil)))) (aNil))))) (eVar 7)) (aNil))))))))
def lcB : SM := (sSeq (sSetO 8 (fLst (aCons (eVar 1) (aCons (eVar 1) (aCons (eVar 1) (aNil)))))) (sSeq (sPutO 8 (eOp2 opMod (eVar 7) (eC (.int 3))) (eVar 4)) (sSet 4 (eTup (aCons (eC (.str "test")) (aCons (eTup (aCons (eC (.str "parameter")) (aCons (eC (.int 0)) (aNil)))) (aCons (eOp1 opTuple (eBrw 8)) (aNil))))))))
def lcT : TM := (tAndM (tV (eOp2 opLt (eVar 7) (eC (.int 2)))) (tV (eOp2 opLt (eVar 5) (eC (.int 6)))))
def lc1 : SM := sIf lcT lcA lcB
def lcW (c : Call) : EM := (eCall (c .f__law_word) (aCons (eTup (aCons (eTup (aCons (eC (.str "p")) (aNil))) (aCons (eC (.int 0)) (aCons (eTup (aCons (eTup (aCons (eC (.int 0)) (aCons (eVar 4) (aNil)))) (aNil))) (aNil))))) (aNil)))
def lcR : EM := (eOp2 opIx (eFrz (fLst (aCons (eC (.str "good")) (aCons (eC (.str "machine")) (aNil))))) (eOp1 opInt (eOp2 opEq2 (eVar 6) (eC (.int 31)))))
def lc2 (c : Call) : SM := (sIf (tV (eOp2 opNe (lcW c) lcR)) (sRet (eC (.bl false))) (sNil))
theorem ll6_eq (c : Call) : ll6 c = sFor (iR2 (eC (.int 2)) (eC (.int 32))) (gN 6) (sSeq (lc0 c) (sSeq lc1 (lc2 c))) := rfl
def ri (i : Int) : Nat → List W
  | 0 => []
  | n + 1 => .int i :: ri (i + 1) n
theorem ri7 (sw : SW) (S : Store) : iR1 (eC (.int 7)) sw S = .ok (ri 0 7) S := by kernel_rfl
theorem ri30 (sw : SW) (S : Store) : iR2 (eC (.int 2)) (eC (.int 32)) sw S = .ok (ri 2 30) S := by kernel_rfl
theorem wch {ws : List Nat} (h : ws.length ≤ 60) (S : Store) : call 198 .f__law_word [machB (ch ws)] S = .ok (.val (wordOf (decide (asks ws ≤ 6 ∧ ws.length < 30)))) S := by
  have e := chain_ok ws 195 [] 30 S (by omega) (by simp)
  simp only [List.length_nil, Nat.zero_add] at e
  exact word_ok (machB_ok e)
theorem args4' {m1 m2 m3 m4 : EM} {sw : SW} {S S' : Store} {a b c d : W} (h1 : m1 sw S = .ok a S) (h2 : m2 sw S = .ok b S) (h3 : m3 sw S = .ok c S) (h4 : m4 sw S = .ok d S') : aCons m1 (aCons m2 (aCons m3 (aCons m4 aNil))) sw S = .ok [a, b, c, d] S' := by
  rw [ev_acons, h1, bind_ok, ev_acons, h2, bind_ok, ev_acons, h3, bind_ok, ev_acons, h4]
  rfl
theorem tup4 {d : AM} {sw : SW} {S S' : Store} {a b c e : W} (h : d sw S = .ok [a, b, c, e] S') : eTup d sw S = .ok (.tup [a, b, c, e]) S' := by
  rw [ev_tup, h, bind_ok, if_pos (le_size (by simp))]
theorem asks_le (ws : List Nat) : asks ws ≤ ws.length := by
  induction ws with
  | nil => simp [asks]
  | cons w ws ih =>
    unfold asks
    rw [List.length_cons]
    split <;> omega
theorem lb0_no (c : Call) (q : Nat) (x1 x2 x4 x5 x6 x7 x8 : Option Sl) (i : Int) (h : i ≠ 6) (S : Store) : lb0 c [some (.val (.loc q)), x1, x2, some (.val (.int i)), x4, x5, x6, x7, x8] S = .ok (.nx [some (.val (.loc q)), x1, x2, some (.val (.int i)), x4, x5, x6, x7, x8]) S := by
  have e1 : tV (eOp2 opEq2 (eVar 3) (eC (.int 6))) [some (.val (.loc q)), x1, x2, some (.val (.int i)), x4, x5, x6, x7, x8] S = .ok (i == 6) S := rfl
  have e2 : (i == 6) = false := by simpa using h
  unfold lb0
  rw [ev_if, ev_and, e1, e2]
  rfl
theorem lb0_6 (q : Nat) (T : W) (x1 x4 x5 x6 x7 x8 : Option Sl) (S : Store) (h : call 198 .f__law_word [machB T] S = .ok (.val (wordOf true)) S) : lb0 (call 198) [some (.val (.loc q)), x1, some (.val T), some (.val (.int 6)), x4, x5, x6, x7, x8] S = .ok (.nx [some (.val (.loc q)), x1, some (.val T), some (.val (.int 6)), x4, x5, x6, x7, x8]) S := by
  have e1 : tV (eOp2 opEq2 (eVar 3) (eC (.int 6))) [some (.val (.loc q)), x1, some (.val T), some (.val (.int 6)), x4, x5, x6, x7, x8] S = .ok true S := rfl
  have ea : aCons (eTup (aCons (eTup (aCons (eC (.str "p")) (aNil))) (aCons (eC (.int 0)) (aCons (eTup (aCons (eTup (aCons (eC (.int 0)) (aCons (eVar 2) (aNil)))) (aNil))) (aNil))))) (aNil) [some (.val (.loc q)), x1, some (.val T), some (.val (.int 6)), x4, x5, x6, x7, x8] S = .ok [machB T] S := by kernel_rfl
  unfold lb0
  rw [ev_if, ev_and, e1, bind_ok, if_pos rfl, ev_tV, ev_op2, call_of ea h, bind_ok, ev_c, bind_ok, show opNe [some (.val (.loc q)), x1, some (.val T), some (.val (.int 6)), x4, x5, x6, x7, x8] (wordOf true) (.str "good") S = .ok (.bl false) S from ne_word _ S true]
  rfl
theorem lb1_ok {S : Store} {p q : Nat} {t : Int} (H : Src S p q t) (ht : t < 999999) (ws : List Nat) (x3 x4 x5 x6 x7 x8 : Option Sl) : ∃ w S', lb1 (call 198) [some (.val (.loc q)), some (.val leaf), some (.val (ch ws)), x3, x4, x5, x6, x7, x8] S = .ok (.nx [some (.val (.loc q)), some (.val leaf), some (.val (ch (w :: ws))), x3, x4, x5, x6, x7, x8]) S' ∧ w < 2 ∧ Src S' p q (t + 1) := by
  obtain ⟨d, S', e, d0, d1, a, _, _⟩ := draw_ok (l := 2) H (by omega) (by omega) 197
  have ed := call_of (rfl : aCons (eVar 0) (aCons (eC (.int 2)) aNil) [some (.val (.loc q)), some (.val leaf), some (.val (ch ws)), x3, x4, x5, x6, x7, x8] S = .ok [.loc q, .int 2] S) e
  have el : eFrz (fLst (aCons (eTup (aCons (eVar 2) (aCons (eVar 1) (aNil)))) (aCons (eTup (aCons (eVar 1) (aCons (eVar 2) (aNil)))) (aNil)))) [some (.val (.loc q)), some (.val leaf), some (.val (ch ws)), x3, x4, x5, x6, x7, x8] S = .ok (.lst [.tup [ch ws, leaf], .tup [leaf, ch ws]]) S := by kernel_rfl
  have hd : d = 0 ∨ d = 1 := by omega
  have H' := H.step ht a
  rcases hd with rfl | rfl
  · refine ⟨0, S', ?_, by omega, H'⟩
    have ex : eOp2 opIx (eFrz (fLst (aCons (eTup (aCons (eVar 2) (aCons (eVar 1) (aNil)))) (aCons (eTup (aCons (eVar 1) (aCons (eVar 2) (aNil)))) (aNil))))) (eCall (call 198 .f__law_draw) (aCons (eVar 0) (aCons (eC (.int 2)) (aNil)))) [some (.val (.loc q)), some (.val leaf), some (.val (ch ws)), x3, x4, x5, x6, x7, x8] S = .ok (.tup [ch ws, leaf]) S' := by
      rw [ev_op2, el, bind_ok, ed, bind_ok]
      rfl
    unfold lb1
    rw [ev_set, tup4 (args4' rfl rfl rfl ex)]
    rfl
  · refine ⟨1, S', ?_, by omega, H'⟩
    have ex : eOp2 opIx (eFrz (fLst (aCons (eTup (aCons (eVar 2) (aCons (eVar 1) (aNil)))) (aCons (eTup (aCons (eVar 1) (aCons (eVar 2) (aNil)))) (aNil))))) (eCall (call 198 .f__law_draw) (aCons (eVar 0) (aCons (eC (.int 2)) (aNil)))) [some (.val (.loc q)), some (.val leaf), some (.val (ch ws)), x3, x4, x5, x6, x7, x8] S = .ok (.tup [leaf, ch ws]) S' := by
      rw [ev_op2, el, bind_ok, ed, bind_ok]
      rfl
    unfold lb1
    rw [ev_set, tup4 (args4' rfl rfl rfl ex)]
    rfl
theorem lL1 {p q : Nat} (x4 x5 x6 x7 x8 : Option Sl) : ∀ (n i : Nat) (ws : List Nat) (S : Store) (t : Int) (x3 : Option Sl), i + n = 7 → ws.length = i → asks ws = i → Src S p q t → t + n < 990000 → ∃ ws' S' y3, forW (gN 3) (sSeq (lb0 (call 198)) (lb1 (call 198))) (ri i n) [some (.val (.loc q)), some (.val leaf), some (.val (ch ws)), x3, x4, x5, x6, x7, x8] S = .ok (.nx [some (.val (.loc q)), some (.val leaf), some (.val (ch ws')), y3, x4, x5, x6, x7, x8]) S' ∧ ws'.length = 7 ∧ asks ws' = 7 ∧ Src S' p q (t + n)
  | 0, i, ws, S, t, x3, hi, hl, ha, H, ht => ⟨ws, S, x3, rfl, by omega, by omega, by simpa using H⟩
  | n + 1, i, ws, S, t, x3, hi, hl, ha, H, ht => by
    obtain ⟨w, S1, e1, hw, H1⟩ := lb1_ok H (by omega) ws (some (.val (.int i))) x4 x5 x6 x7 x8
    obtain ⟨ws', S2, y3, e2, l2, a2, H2⟩ := lL1 x4 x5 x6 x7 x8 n (i + 1) (w :: ws) S1 (t + 1) (some (.val (.int i))) (by omega) (by rw [List.length_cons]; omega) (by unfold asks; rw [if_pos hw]; omega) H1 (by omega)
    refine ⟨ws', S2, y3, ?_, l2, a2, by
      have z := H2
      rwa [show t + 1 + (n : Int) = t + ((n + 1 : Nat) : Int) by omega] at z⟩
    have e0 : lb0 (call 198) [some (.val (.loc q)), some (.val leaf), some (.val (ch ws)), some (.val (.int i)), x4, x5, x6, x7, x8] S = .ok (.nx [some (.val (.loc q)), some (.val leaf), some (.val (ch ws)), some (.val (.int i)), x4, x5, x6, x7, x8]) S := by
      by_cases h : i = 6
      · subst h
        have e := wch (ws := ws) (by omega) S
        rw [show decide (asks ws ≤ 6 ∧ ws.length < 30) = true by simp; omega] at e
        exact lb0_6 q (ch ws) _ _ _ _ _ _ S e
      · exact lb0_no _ q _ _ _ _ _ _ _ _ (by omega) S
    show forW (gN 3) (sSeq (lb0 (call 198)) (lb1 (call 198))) (.int i :: ri ((i : Int) + 1) n) _ S = _
    rw [for_step (g := gN 3) (sw1 := [some (.val (.loc q)), some (.val leaf), some (.val (ch ws)), some (.val (.int i)), x4, x5, x6, x7, x8]) rfl (by rw [seq2 e0, e1])]
    exact e2
def dsw (q : Nat) (x2 x3 : Option Sl) (T : W) (ev : Int) (x6 x7 x8 : Option Sl) : SW := [some (.val (.loc q)), some (.val leaf), x2, x3, some (.val T), some (.val (.int ev)), x6, x7, x8]
theorem lcT_0 (q : Nat) (x2 x3 : Option Sl) (T : W) (ev : Int) (x6 x8 : Option Sl) (S : Store) : lcT (dsw q x2 x3 T ev x6 (some (.val (.int 0))) x8) S = .ok (decide (ev < 6)) S := by kernel_rfl
theorem lcT_1 (q : Nat) (x2 x3 : Option Sl) (T : W) (ev : Int) (x6 x8 : Option Sl) (S : Store) : lcT (dsw q x2 x3 T ev x6 (some (.val (.int 1))) x8) S = .ok (decide (ev < 6)) S := by kernel_rfl
theorem lcT_2 (q : Nat) (x2 x3 : Option Sl) (T : W) (ev : Int) (x6 x8 : Option Sl) (S : Store) : lcT (dsw q x2 x3 T ev x6 (some (.val (.int 2))) x8) S = .ok false S := by kernel_rfl
theorem lcT_3 (q : Nat) (x2 x3 : Option Sl) (T : W) (ev : Int) (x6 x8 : Option Sl) (S : Store) : lcT (dsw q x2 x3 T ev x6 (some (.val (.int 3))) x8) S = .ok false S := by kernel_rfl
theorem lcT_4 (q : Nat) (x2 x3 : Option Sl) (T : W) (ev : Int) (x6 x8 : Option Sl) (S : Store) : lcT (dsw q x2 x3 T ev x6 (some (.val (.int 4))) x8) S = .ok false S := by kernel_rfl
theorem lcA_0 (q : Nat) (x2 x3 : Option Sl) (T : W) (ev : Int) (x6 x8 : Option Sl) (S : Store) : lcA (dsw q x2 x3 T ev x6 (some (.val (.int 0))) x8) S = .ok (.nx (dsw q x2 x3 (stepW 0 T) (ev + 1) x6 (some (.val (.int 0))) x8)) S := by kernel_rfl
theorem lcA_1 (q : Nat) (x2 x3 : Option Sl) (T : W) (ev : Int) (x6 x8 : Option Sl) (S : Store) : lcA (dsw q x2 x3 T ev x6 (some (.val (.int 1))) x8) S = .ok (.nx (dsw q x2 x3 (stepW 1 T) (ev + 1) x6 (some (.val (.int 1))) x8)) S := by kernel_rfl
theorem lcB_0 (q : Nat) (x2 x3 : Option Sl) (T : W) (ev : Int) (x6 x8 : Option Sl) (S : Store) : lcB (dsw q x2 x3 T ev x6 (some (.val (.int 0))) x8) S = .ok (.nx (dsw q x2 x3 (stepW 2 T) ev x6 (some (.val (.int 0))) (some (.own (.lst [T, leaf, leaf]))))) S := by kernel_rfl
theorem lcB_1 (q : Nat) (x2 x3 : Option Sl) (T : W) (ev : Int) (x6 x8 : Option Sl) (S : Store) : lcB (dsw q x2 x3 T ev x6 (some (.val (.int 1))) x8) S = .ok (.nx (dsw q x2 x3 (stepW 3 T) ev x6 (some (.val (.int 1))) (some (.own (.lst [leaf, T, leaf]))))) S := by kernel_rfl
theorem lcB_2 (q : Nat) (x2 x3 : Option Sl) (T : W) (ev : Int) (x6 x8 : Option Sl) (S : Store) : lcB (dsw q x2 x3 T ev x6 (some (.val (.int 2))) x8) S = .ok (.nx (dsw q x2 x3 (stepW 4 T) ev x6 (some (.val (.int 2))) (some (.own (.lst [leaf, leaf, T]))))) S := by kernel_rfl
theorem lcB_3 (q : Nat) (x2 x3 : Option Sl) (T : W) (ev : Int) (x6 x8 : Option Sl) (S : Store) : lcB (dsw q x2 x3 T ev x6 (some (.val (.int 3))) x8) S = .ok (.nx (dsw q x2 x3 (stepW 2 T) ev x6 (some (.val (.int 3))) (some (.own (.lst [T, leaf, leaf]))))) S := by kernel_rfl
theorem lcB_4 (q : Nat) (x2 x3 : Option Sl) (T : W) (ev : Int) (x6 x8 : Option Sl) (S : Store) : lcB (dsw q x2 x3 T ev x6 (some (.val (.int 4))) x8) S = .ok (.nx (dsw q x2 x3 (stepW 3 T) ev x6 (some (.val (.int 4))) (some (.own (.lst [leaf, T, leaf]))))) S := by kernel_rfl
theorem lc1_ok (q : Nat) (x2 x3 : Option Sl) (ws : List Nat) (h6 : asks ws ≤ 6) (x6 x8 : Option Sl) (d : Int) (d0 : 0 ≤ d) (d1 : d < 5) (S : Store) : ∃ w y8, lc1 (dsw q x2 x3 (ch ws) (asks ws : Int) x6 (some (.val (.int d))) x8) S = .ok (.nx (dsw q x2 x3 (ch (w :: ws)) (asks (w :: ws) : Int) x6 (some (.val (.int d))) y8)) S ∧ asks (w :: ws) ≤ 6 := by
  have a0 : asks (0 :: ws) = 1 + asks ws := rfl
  have a1 : asks (1 :: ws) = 1 + asks ws := rfl
  have a2 : asks (2 :: ws) = asks ws := by show 0 + asks ws = _; omega
  have a3 : asks (3 :: ws) = asks ws := by show 0 + asks ws = _; omega
  have a4 : asks (4 :: ws) = asks ws := by show 0 + asks ws = _; omega
  have b0 : (asks (0 :: ws) : Int) = (asks ws : Int) + 1 := by omega
  have b1 : (asks (1 :: ws) : Int) = (asks ws : Int) + 1 := by omega
  have hd : d = 0 ∨ d = 1 ∨ d = 2 ∨ d = 3 ∨ d = 4 := by omega
  unfold lc1
  by_cases hc : asks ws < 6
  · have hc' : decide ((asks ws : Int) < 6) = true := by simp; omega
    rcases hd with rfl | rfl | rfl | rfl | rfl
    · refine ⟨0, x8, ?_, by omega⟩
      rw [ev_if, lcT_0, liftS_ok, hc', if_pos rfl, lcA_0, b0]
      rfl
    · refine ⟨1, x8, ?_, by omega⟩
      rw [ev_if, lcT_1, liftS_ok, hc', if_pos rfl, lcA_1, b1]
      rfl
    · refine ⟨4, some (.own (.lst [leaf, leaf, ch ws])), ?_, by omega⟩
      rw [ev_if, lcT_2, liftS_ok, if_neg Bool.false_ne_true, lcB_2, a4]
      rfl
    · refine ⟨2, some (.own (.lst [ch ws, leaf, leaf])), ?_, by omega⟩
      rw [ev_if, lcT_3, liftS_ok, if_neg Bool.false_ne_true, lcB_3, a2]
      rfl
    · refine ⟨3, some (.own (.lst [leaf, ch ws, leaf])), ?_, by omega⟩
      rw [ev_if, lcT_4, liftS_ok, if_neg Bool.false_ne_true, lcB_4, a3]
      rfl
  · have hc' : decide ((asks ws : Int) < 6) = false := by simp; omega
    rcases hd with rfl | rfl | rfl | rfl | rfl
    · refine ⟨2, some (.own (.lst [ch ws, leaf, leaf])), ?_, by omega⟩
      rw [ev_if, lcT_0, liftS_ok, hc', if_neg Bool.false_ne_true, lcB_0, a2]
      rfl
    · refine ⟨3, some (.own (.lst [leaf, ch ws, leaf])), ?_, by omega⟩
      rw [ev_if, lcT_1, liftS_ok, hc', if_neg Bool.false_ne_true, lcB_1, a3]
      rfl
    · refine ⟨4, some (.own (.lst [leaf, leaf, ch ws])), ?_, by omega⟩
      rw [ev_if, lcT_2, liftS_ok, if_neg Bool.false_ne_true, lcB_2, a4]
      rfl
    · refine ⟨2, some (.own (.lst [ch ws, leaf, leaf])), ?_, by omega⟩
      rw [ev_if, lcT_3, liftS_ok, if_neg Bool.false_ne_true, lcB_3, a2]
      rfl
    · refine ⟨3, some (.own (.lst [leaf, ch ws, leaf])), ?_, by omega⟩
      rw [ev_if, lcT_4, liftS_ok, if_neg Bool.false_ne_true, lcB_4, a3]
      rfl
theorem lcR_ok (q : Nat) (x2 x3 : Option Sl) (T : W) (ev i : Int) (x7 x8 : Option Sl) (S : Store) : lcR (dsw q x2 x3 T ev (some (.val (.int i))) x7 x8) S = .ok (wordOf (!(i == 31))) S := by
  have e1 : eOp2 opEq2 (eVar 6) (eC (.int 31)) (dsw q x2 x3 T ev (some (.val (.int i))) x7 x8) S = .ok (.bl (i == 31)) S := rfl
  have e2 : eFrz (fLst (aCons (eC (.str "good")) (aCons (eC (.str "machine")) (aNil)))) (dsw q x2 x3 T ev (some (.val (.int i))) x7 x8) S = .ok (.lst [.str "good", .str "machine"]) S := by kernel_rfl
  unfold lcR
  rw [ev_op2, e2, bind_ok, ev_op1, e1, bind_ok]
  cases (i == 31) <;> rfl
theorem lc2_ok (q : Nat) (x2 x3 : Option Sl) (T : W) (ev i : Int) (x7 x8 : Option Sl) (S : Store) (h : call 198 .f__law_word [machB T] S = .ok (.val (wordOf (!(i == 31)))) S) : lc2 (call 198) (dsw q x2 x3 T ev (some (.val (.int i))) x7 x8) S = .ok (.nx (dsw q x2 x3 T ev (some (.val (.int i))) x7 x8)) S := by
  have ea : aCons (eTup (aCons (eTup (aCons (eC (.str "p")) (aNil))) (aCons (eC (.int 0)) (aCons (eTup (aCons (eTup (aCons (eC (.int 0)) (aCons (eVar 4) (aNil)))) (aNil))) (aNil))))) (aNil) (dsw q x2 x3 T ev (some (.val (.int i))) x7 x8) S = .ok [machB T] S := by kernel_rfl
  have ew : lcW (call 198) (dsw q x2 x3 T ev (some (.val (.int i))) x7 x8) S = .ok (wordOf (!(i == 31))) S := call_of ea h
  unfold lc2
  rw [ev_if, ev_tV, ev_op2, ew, bind_ok, lcR_ok, bind_ok, show opNe (dsw q x2 x3 T ev (some (.val (.int i))) x7 x8) (wordOf (!(i == 31))) (wordOf (!(i == 31))) S = .ok (.bl false) S from ne_word _ S _]
  rfl
theorem lL2 {p q : Nat} (x2 x3 : Option Sl) : ∀ (n i : Nat) (ws : List Nat) (S : Store) (t : Int) (x6 x7 x8 : Option Sl), i + n = 32 → ws.length + 2 = i → asks ws ≤ 6 → Src S p q t → t + n < 990000 → ∃ ws' S' ev y6 y7 y8, forW (gN 6) (sSeq (lc0 (call 198)) (sSeq lc1 (lc2 (call 198)))) (ri i n) (dsw q x2 x3 (ch ws) (asks ws : Int) x6 x7 x8) S = .ok (.nx (dsw q x2 x3 (ch ws') ev y6 y7 y8)) S' ∧ Src S' p q (t + n)
  | 0, i, ws, S, t, x6, x7, x8, hi, hl, ha, H, ht => ⟨ws, S, _, x6, x7, x8, rfl, by simpa using H⟩
  | n + 1, i, ws, S, t, x6, x7, x8, hi, hl, ha, H, ht => by
    obtain ⟨d, S1, e, d0, d1, a, _, _⟩ := draw_ok (l := 5) H (by omega) (by omega) 197
    have H1 := H.step (by omega) a
    have e0 : lc0 (call 198) (dsw q x2 x3 (ch ws) (asks ws : Int) (some (.val (.int i))) x7 x8) S = .ok (.nx (dsw q x2 x3 (ch ws) (asks ws : Int) (some (.val (.int i))) (some (.val (.int d))) x8)) S1 := by
      unfold lc0
      rw [ev_set, call_of (rfl : aCons (eVar 0) (aCons (eC (.int 5)) aNil) (dsw q x2 x3 (ch ws) (asks ws : Int) (some (.val (.int i))) x7 x8) S = .ok [.loc q, .int 5] S) e]
      rfl
    obtain ⟨w, y8, e1, h6⟩ := lc1_ok q x2 x3 ws ha (some (.val (.int i))) x8 d d0 d1 S1
    have ew := wch (ws := w :: ws) (by rw [List.length_cons]; omega) S1
    have ed : decide (asks (w :: ws) ≤ 6 ∧ (w :: ws).length < 30) = !((i : Int) == 31) := by
      rw [List.length_cons]
      by_cases h : i = 31
      · subst h
        simp
        omega
      · have h' : ((i : Int) == 31) = false := by simp; omega
        rw [h']
        simp
        omega
    rw [ed] at ew
    have e2 := lc2_ok q x2 x3 (ch (w :: ws)) (asks (w :: ws) : Int) i (some (.val (.int d))) y8 S1 ew
    obtain ⟨ws', S2, ev, y6, y7, z8, e3, H3⟩ := lL2 x2 x3 n (i + 1) (w :: ws) S1 (t + 1) (some (.val (.int i))) (some (.val (.int d))) y8 (by omega) (by rw [List.length_cons]; omega) h6 H1 (by omega)
    refine ⟨ws', S2, ev, y6, y7, z8, ?_, by
      have z := H3
      rwa [show t + 1 + (n : Int) = t + ((n + 1 : Nat) : Int) by omega] at z⟩
    show forW (gN 6) (sSeq (lc0 (call 198)) (sSeq lc1 (lc2 (call 198)))) (.int i :: ri ((i : Int) + 1) n) _ S = _
    rw [for_step (g := gN 6) (sw1 := dsw q x2 x3 (ch ws) (asks ws : Int) (some (.val (.int i))) x7 x8) rfl (by rw [seq2 e0, seq2 e1, e2])]
    exact e3
def ll3T (c : Call) : EM := (eCall (c .f__law_word) (aCons (eTup (aCons (eTup (aCons (eC (.str "p")) (aNil))) (aCons (eC (.int 0)) (aCons (eTup (aCons (eTup (aCons (eC (.int 0)) (aCons (eVar 2) (aNil)))) (aNil))) (aNil))))) (aNil)))
theorem ll3_ok (q : Nat) (T : W) (x1 x3 x4 x5 x6 x7 x8 : Option Sl) (S : Store) (h : call 198 .f__law_word [machB T] S = .ok (.val (wordOf false)) S) : ll3 (call 198) [some (.val (.loc q)), x1, some (.val T), x3, x4, x5, x6, x7, x8] S = .ok (.nx [some (.val (.loc q)), x1, some (.val T), x3, x4, x5, x6, x7, x8]) S := by
  have ea : aCons (eTup (aCons (eTup (aCons (eC (.str "p")) (aNil))) (aCons (eC (.int 0)) (aCons (eTup (aCons (eTup (aCons (eC (.int 0)) (aCons (eVar 2) (aNil)))) (aNil))) (aNil))))) (aNil) [some (.val (.loc q)), x1, some (.val T), x3, x4, x5, x6, x7, x8] S = .ok [machB T] S := by kernel_rfl
  unfold ll3
  rw [ev_if, ev_tV, ev_op2, call_of ea h, bind_ok, ev_c, bind_ok, show opNe [some (.val (.loc q)), x1, some (.val T), x3, x4, x5, x6, x7, x8] (wordOf false) (.str "machine") S = .ok (.bl false) S from ne_word _ S false]
  rfl
theorem ll01 (q : Nat) (S : Store) : sSeq (ll0 (call 198)) (ll1 (call 198)) (startW 9 [.loc q]) S = .ok (.nx [some (.val (.loc q)), some (.val leaf), some (.val (ch [])), none, none, none, none, none, none]) S := by kernel_rfl
theorem ll45 (q : Nat) (T : W) (x2 x3 : Option Sl) (S : Store) : sSeq (ll4 (call 198)) (ll5 (call 198)) [some (.val (.loc q)), some (.val leaf), x2, x3, none, none, none, none, none] S = .ok (.nx (dsw q x2 x3 leaf 0 none none none)) S := by kernel_rfl
theorem ll_eq2 (c : Call) : b__law_long c = sSeq (sSeq (ll0 c) (ll1 c)) (sSeq (ll2 c) (sSeq (ll3 c) (sSeq (sSeq (ll4 c) (ll5 c)) (sSeq (ll6 c) (ll7 c))))) := by
  rw [ll_eq]
  simp only [seq_asc]
theorem ll_ok {S : Store} {p q : Nat} {t : Int} (H : Src S p q t) (ht : t < 900000) : ∃ S' t', call 199 .f__law_long [.loc q] S = .ok (.val (.bl true)) S' ∧ Src S' p q t' ∧ t' ≤ t + 40 := by
  obtain ⟨ws, S1, y3, e1, l1, a1, H1⟩ := lL1 none none none none none 7 0 [] S t none (by omega) rfl rfl H (by omega)
  have ew := wch (ws := ws) (by omega) S1
  rw [show decide (asks ws ≤ 6 ∧ ws.length < 30) = false by simp; omega] at ew
  obtain ⟨ws2, S2, ev, y6, y7, y8, e2, H2⟩ := lL2 (some (.val (ch ws))) y3 30 2 [] S1 (t + 7) none none none (by omega) rfl (by simp [asks]) H1 (by omega)
  refine ⟨S2, _, ?_, H2, by omega⟩
  show fBody 9 (b__law_long (call 198)) [.loc q] S = _
  rw [ev_body, ll_eq2, seq2 (ll01 q S), ll2_eq, ev_seq, ev_for, ri7, liftS_ok]
  have e1' := e1
  rw [show ((0 : Nat) : Int) = 0 from rfl] at e1'
  rw [e1', then_nx, seq2 (ll3_ok q (ch ws) _ _ _ _ _ _ _ S1 ew), seq2 (ll45 q leaf _ _ S1), ll6_eq, ev_seq, ev_for, ri30, liftS_ok]
  have e2' := e2
  rw [show ((2 : Nat) : Int) = 2 from rfl] at e2'
  rw [show dsw q (some (.val (ch ws))) y3 leaf 0 none none none = dsw q (some (.val (ch ws))) y3 (ch []) ((asks [] : Nat) : Int) none none none from rfl, e2', then_nx]
  rfl
end G
set_option Elab.async false
set_option linter.all false
set_option maxRecDepth 1000000
set_option maxHeartbeats 4000000
namespace G
open PySem PySem.Spec ML
def lh0 (c : Call) : SM := (sSet 1 (eCall0 (c .f__law_leaf)))
def lh1 (c : Call) : SM := (sUnp (eCall (c .f__law_with_tree) (aCons (eVar 0) (aCons (eVar 1) (aNil)))) ([2, 3, 4]))
def lh2 (c : Call) : SM := (sSet 5 (eTup (aCons (eVar 2) (aCons (eVar 3) (aCons (eVar 4) (aNil))))))
def lh3 (c : Call) : SM := (sSet 6 (eTup (aCons (eC (.str "end")) (aCons (eTup (aCons (eC (.str "value")) (aCons (eTup (aCons (eC (.str "place")) (aCons (eC (.int 0)) (aNil)))) (aNil)))) (aCons (eC (.int 0)) (aCons (eTup (aCons (eTup (aCons (eC (.str "place")) (aCons (eC (.int 0)) (aNil)))) (aNil))) (aNil)))))))
def lh4 (c : Call) : SM := (sSet 7 (eTup (aCons (eTup (aCons (eC (.int 1)) (aCons (eVar 6) (aNil)))) (aCons (eTup (aCons (eC (.int 0)) (aCons (eTup (aCons (eC (.str "end")) (aCons (eTup (aCons (eC (.str "value")) (aCons (eTup (aCons (eC (.str "none")) (aNil))) (aNil)))) (aCons (eC (.int 1)) (aCons (eTup (aNil)) (aNil)))))) (aNil)))) (aNil)))))
def lh5 (c : Call) : SM := (sSetO 8 (fLst (aCons (eC .non) (aCons (eFrz (fLst (aNil))) (aCons (eTup (aNil)) (aCons (eFrz (fOp1 opList (eVar 5))) (aCons (eSl (eVar 5) (oNo) (oSome (eC (.int 2)))) (aCons (eOp2 opAdd (eVar 5) (eTup (aCons (eC (.int 0)) (aNil)))) (aCons (eTup (aCons (eVar 2) (aCons (eVar 3) (aCons (eTup (aNil)) (aNil))))) (aNil))))))))))
def lh6 (c : Call) : SM := (sSetO 8 (fAdd (eBrw 8) (eFrz (fLst (aCons (eTup (aCons (eVar 2) (aCons (eVar 3) (aCons (eFrz (fOp1 opList (eVar 4))) (aNil))))) (aCons (eTup (aCons (eVar 2) (aCons (eC (.int 0)) (aCons (eVar 7) (aNil))))) (aNil)))))))
def lh7 (c : Call) : SM := (sFor (iX (eFrz (fLst (aCons (eFrz (fLst (aCons (eC (.str "p")) (aNil)))) (aCons (eTup (aCons (eC (.str "p")) (aCons (eC (.str "p")) (aNil)))) (aCons (eTup (aCons (eC (.str "if")) (aNil))) (aCons (eTup (aCons (eC (.str "p")) (aCons (eC (.str "q")) (aCons (eC (.str "x")) (aNil))))) (aCons (eTup (aCons (eFrz (fLst (aCons (eC (.str "p")) (aNil)))) (aNil))) (aCons (eTup (aCons (eC .non) (aNil))) (aCons (eTup (aCons (eFrz (fDict0)) (aNil))) (aCons (eTup (aCons (eC (.int 1)) (aNil))) (aCons (eTup (aCons (eTup (aCons (eC (.str "p")) (aNil))) (aNil))) (aCons (eC (.int 1)) (aCons (eC .non) (aNil))))))))))))))) (gN 9) (sAppO 8 (eTup (aCons (eVar 9) (aCons (eVar 3) (aCons (eVar 4) (aNil)))))))
def lh8 (c : Call) : SM := (sFor (iX (eFrz (fLst (aCons (eC (.str "if")) (aCons (eC (.str "Q")) (aCons (eC .non) (aCons (eFrz (fLst (aCons (eC (.str "q")) (aNil)))) (aCons (eC (.str "abcdefghi")) (aCons (eC (.str "")) (aCons (eC (.str "q\n")) (aCons (eC (.int 0)) (aNil)))))))))))) (gN 10) (sSetO 8 (fAdd (eBrw 8) (eFrz (fLst (aCons (eTup (aCons (eTup (aCons (eC (.str "p")) (aCons (eVar 10) (aNil)))) (aCons (eVar 3) (aCons (eVar 4) (aNil))))) (aCons (eTup (aCons (eTup (aCons (eVar 10) (aCons (eC (.str "p")) (aNil)))) (aCons (eVar 3) (aCons (eVar 4) (aNil))))) (aNil))))))))
def lh9 (c : Call) : SM := (sSetO 8 (fAdd (eBrw 8) (eFrz (fComp (iX (eFrz (fLst (aCons (eC (.int 1)) (aCons (eC (.int 2)) (aCons (eC (.int 3)) (aCons (eOp1 opNeg (eC (.int 1))) (aCons (eC (.bl true)) (aCons (eC (.bl false)) (aCons (eC .non) (aCons (eC (.str "0")) (aCons (eFrz (fLst (aNil))) (aCons (eOp2 opPow (eC (.int 10)) (eC (.int 25))) (aNil)))))))))))))) [11] (gN 11) (tYesM) (eTup (aCons (eVar 2) (aCons (eVar 11) (aCons (eVar 4) (aNil)))))))))
def lh10 (c : Call) : SM := (sFor (iX (eFrz (fLst (aCons (eC (.int 9)) (aCons (eOp1 opNeg (eC (.int 1))) (aCons (eC (.bl true)) (aCons (eC .non) (aCons (eC (.str "0")) (aCons (eFrz (fLst (aNil))) (aCons (eTup (aNil)) (aCons (eOp2 opPow (eC (.int 10)) (eC (.int 25))) (aNil)))))))))))) (gN 12) (sAppO 8 (eTup (aCons (eVar 2) (aCons (eVar 3) (aCons (eOp2 opAdd (eVar 4) (eTup (aCons (eTup (aCons (eVar 12) (aCons (eVar 1) (aNil)))) (aNil)))) (aNil)))))))
def lh11 (c : Call) : SM := (sFor (iX (eFrz (fLst (aCons (eC .non) (aCons (eTup (aNil)) (aCons (eTup (aCons (eC (.int 0)) (aNil))) (aCons (eFrz (fLst (aCons (eC (.int 0)) (aCons (eVar 1) (aNil))))) (aCons (eTup (aCons (eC (.int 0)) (aCons (eVar 1) (aCons (eC (.int 0)) (aNil))))) (aCons (eTup (aCons (eC (.int 0)) (aCons (eC .non) (aNil)))) (aCons (eTup (aCons (eC (.int 0)) (aCons (eTup (aNil)) (aNil)))) (aCons (eVar 1) (aCons (eC (.int 0)) (aNil))))))))))))) (gN 13) (sAppO 8 (eTup (aCons (eVar 2) (aCons (eVar 3) (aCons (eOp2 opAdd (eVar 4) (eTup (aCons (eVar 13) (aNil)))) (aNil)))))))
def lh12 (c : Call) : SM := (sIf (tV (eOp2 opNe (eFrz (fComp (iB (eBrw 8)) [9] (gN 9) (tV (eOp2 opNe (eCall (c .f__law_word) (aCons (eVar 9) (aNil))) (eC (.str "machine")))) (eVar 9))) (eFrz (fLst (aNil))))) (sRet (eC (.bl false))) (sNil))
def lh13 (c : Call) : SM := (sSetO 14 (fLst (aCons (eVar 5) (aCons (eTup (aCons (eTup (aCons (eC (.str "q")) (aNil))) (aCons (eVar 3) (aCons (eVar 4) (aNil))))) (aCons (eTup (aCons (eTup (aCons (eC (.str "p")) (aCons (eC (.str "q")) (aNil)))) (aCons (eVar 3) (aCons (eVar 4) (aNil))))) (aCons (eTup (aCons (eVar 2) (aCons (eC (.int 1)) (aCons (eVar 7) (aNil))))) (aNil)))))))
def lh14 (c : Call) : SM := (sAppO 14 (eTup (aCons (eVar 2) (aCons (eVar 3) (aCons (eOp2 opAdd (eVar 4) (eTup (aCons (eTup (aCons (eC (.int 8)) (aCons (eVar 1) (aNil)))) (aNil)))) (aNil))))))
def lh15 (c : Call) : SM := (sRet (eOp2 opEq2 (eFrz (fComp (iB (eBrw 14)) [9] (gN 9) (tV (eOp2 opNe (eCall (c .f__law_word) (aCons (eVar 9) (aNil))) (eC (.str "good")))) (eVar 9))) (eFrz (fLst (aNil)))))
theorem lh_eq (c : Call) : b__law_wholes c = (sSeq (lh0 c) (sSeq (lh1 c) (sSeq (lh2 c) (sSeq (lh3 c) (sSeq (lh4 c) (sSeq (lh5 c) (sSeq (lh6 c) (sSeq (lh7 c) (sSeq (lh8 c) (sSeq (lh9 c) (sSeq (lh10 c) (sSeq (lh11 c) (sSeq (lh12 c) (sSeq (lh13 c) (sSeq (lh14 c) (lh15 c)))))))))))))))) := rfl
def lhR (c : Call) : SM := (sSeq (lh2 c) (sSeq (lh3 c) (sSeq (lh4 c) (sSeq (lh5 c) (sSeq (lh6 c) (sSeq (lh7 c) (sSeq (lh8 c) (sSeq (lh9 c) (sSeq (lh10 c) (sSeq (lh11 c) (sSeq (lh12 c) (sSeq (lh13 c) (sSeq (lh14 c) (lh15 c))))))))))))))
theorem lh_eq2 (c : Call) : b__law_wholes c = sSeq (lh0 c) (sSeq (lh1 c) (lhR c)) := rfl
def as1 : List (List Nat) := [[0], [1], [2]]
def ext (l : List (List Nat)) : List (List Nat) := [] :: (l.map (0 :: ·) ++ l.map (1 :: ·) ++ l.map (2 :: ·))
def as3 : List (List Nat) := ext (ext (ext [[]]))
theorem ext_mem {l : List (List Nat)} {n : Nat} (h : ∀ as : List Nat, as.length ≤ n → (∀ a ∈ as, a < 3) → as ∈ l) : ∀ as : List Nat, as.length ≤ n + 1 → (∀ a ∈ as, a < 3) → as ∈ ext l
  | [], _, _ => List.mem_cons_self ..
  | a :: as, hl, ha => by
    have h1 : as ∈ l := h as (by simpa using hl) (fun b hb => ha b (List.mem_cons_of_mem _ hb))
    have h2 := ha a (List.mem_cons_self ..)
    have h3 : a = 0 ∨ a = 1 ∨ a = 2 := by omega
    unfold ext
    refine List.mem_cons_of_mem _ ?_
    simp only [List.mem_append, List.mem_map]
    rcases h3 with rfl | rfl | rfl
    · exact .inl (.inl ⟨as, h1, rfl⟩)
    · exact .inl (.inr ⟨as, h1, rfl⟩)
    · exact .inr ⟨as, h1, rfl⟩
theorem as3_mem : ∀ as : List Nat, as.length ≤ 3 → (∀ a ∈ as, a < 3) → as ∈ as3 := ext_mem (ext_mem (ext_mem fun as h _ => by
  have : as = [] := List.length_eq_zero_iff.mp (by omega)
  rw [this]
  simp))
def hsw (q : Nat) (T : W) : SW := [some (.val (.loc q)), some (.val leaf), some (.val (.tup [.str "p"])), some (.val (.int 0)), some (.val (.tup [.tup [.int 0, T], .tup [.int 1, one], .tup [.int 2, two]])), none, none, none, none, none, none, none, none, none, none]
theorem lhR_0 (q : Nat) (S : Store) : lhR (call 198) (hsw q (wr [] leaf)) S = .ok (.rt (.val (.bl true))) S := by kernel_rfl
theorem lhR_1 (q : Nat) (S : Store) : lhR (call 198) (hsw q (wr [0] leaf)) S = .ok (.rt (.val (.bl true))) S := by kernel_rfl
theorem lhR_2 (q : Nat) (S : Store) : lhR (call 198) (hsw q (wr [0, 0] leaf)) S = .ok (.rt (.val (.bl true))) S := by kernel_rfl
theorem lhR_3 (q : Nat) (S : Store) : lhR (call 198) (hsw q (wr [0, 0, 0] leaf)) S = .ok (.rt (.val (.bl true))) S := by kernel_rfl
theorem lhR_4 (q : Nat) (S : Store) : lhR (call 198) (hsw q (wr [0, 0, 1] leaf)) S = .ok (.rt (.val (.bl true))) S := by kernel_rfl
theorem lhR_5 (q : Nat) (S : Store) : lhR (call 198) (hsw q (wr [0, 0, 2] leaf)) S = .ok (.rt (.val (.bl true))) S := by kernel_rfl
theorem lhR_6 (q : Nat) (S : Store) : lhR (call 198) (hsw q (wr [0, 1] leaf)) S = .ok (.rt (.val (.bl true))) S := by kernel_rfl
theorem lhR_7 (q : Nat) (S : Store) : lhR (call 198) (hsw q (wr [0, 1, 0] leaf)) S = .ok (.rt (.val (.bl true))) S := by kernel_rfl
theorem lhR_8 (q : Nat) (S : Store) : lhR (call 198) (hsw q (wr [0, 1, 1] leaf)) S = .ok (.rt (.val (.bl true))) S := by kernel_rfl
theorem lhR_9 (q : Nat) (S : Store) : lhR (call 198) (hsw q (wr [0, 1, 2] leaf)) S = .ok (.rt (.val (.bl true))) S := by kernel_rfl
theorem lhR_10 (q : Nat) (S : Store) : lhR (call 198) (hsw q (wr [0, 2] leaf)) S = .ok (.rt (.val (.bl true))) S := by kernel_rfl
theorem lhR_11 (q : Nat) (S : Store) : lhR (call 198) (hsw q (wr [0, 2, 0] leaf)) S = .ok (.rt (.val (.bl true))) S := by kernel_rfl
theorem lhR_12 (q : Nat) (S : Store) : lhR (call 198) (hsw q (wr [0, 2, 1] leaf)) S = .ok (.rt (.val (.bl true))) S := by kernel_rfl
theorem lhR_13 (q : Nat) (S : Store) : lhR (call 198) (hsw q (wr [0, 2, 2] leaf)) S = .ok (.rt (.val (.bl true))) S := by kernel_rfl
theorem lhR_14 (q : Nat) (S : Store) : lhR (call 198) (hsw q (wr [1] leaf)) S = .ok (.rt (.val (.bl true))) S := by kernel_rfl
theorem lhR_15 (q : Nat) (S : Store) : lhR (call 198) (hsw q (wr [1, 0] leaf)) S = .ok (.rt (.val (.bl true))) S := by kernel_rfl
theorem lhR_16 (q : Nat) (S : Store) : lhR (call 198) (hsw q (wr [1, 0, 0] leaf)) S = .ok (.rt (.val (.bl true))) S := by kernel_rfl
theorem lhR_17 (q : Nat) (S : Store) : lhR (call 198) (hsw q (wr [1, 0, 1] leaf)) S = .ok (.rt (.val (.bl true))) S := by kernel_rfl
theorem lhR_18 (q : Nat) (S : Store) : lhR (call 198) (hsw q (wr [1, 0, 2] leaf)) S = .ok (.rt (.val (.bl true))) S := by kernel_rfl
theorem lhR_19 (q : Nat) (S : Store) : lhR (call 198) (hsw q (wr [1, 1] leaf)) S = .ok (.rt (.val (.bl true))) S := by kernel_rfl
theorem lhR_20 (q : Nat) (S : Store) : lhR (call 198) (hsw q (wr [1, 1, 0] leaf)) S = .ok (.rt (.val (.bl true))) S := by kernel_rfl
theorem lhR_21 (q : Nat) (S : Store) : lhR (call 198) (hsw q (wr [1, 1, 1] leaf)) S = .ok (.rt (.val (.bl true))) S := by kernel_rfl
theorem lhR_22 (q : Nat) (S : Store) : lhR (call 198) (hsw q (wr [1, 1, 2] leaf)) S = .ok (.rt (.val (.bl true))) S := by kernel_rfl
theorem lhR_23 (q : Nat) (S : Store) : lhR (call 198) (hsw q (wr [1, 2] leaf)) S = .ok (.rt (.val (.bl true))) S := by kernel_rfl
theorem lhR_24 (q : Nat) (S : Store) : lhR (call 198) (hsw q (wr [1, 2, 0] leaf)) S = .ok (.rt (.val (.bl true))) S := by kernel_rfl
theorem lhR_25 (q : Nat) (S : Store) : lhR (call 198) (hsw q (wr [1, 2, 1] leaf)) S = .ok (.rt (.val (.bl true))) S := by kernel_rfl
theorem lhR_26 (q : Nat) (S : Store) : lhR (call 198) (hsw q (wr [1, 2, 2] leaf)) S = .ok (.rt (.val (.bl true))) S := by kernel_rfl
theorem lhR_27 (q : Nat) (S : Store) : lhR (call 198) (hsw q (wr [2] leaf)) S = .ok (.rt (.val (.bl true))) S := by kernel_rfl
theorem lhR_28 (q : Nat) (S : Store) : lhR (call 198) (hsw q (wr [2, 0] leaf)) S = .ok (.rt (.val (.bl true))) S := by kernel_rfl
theorem lhR_29 (q : Nat) (S : Store) : lhR (call 198) (hsw q (wr [2, 0, 0] leaf)) S = .ok (.rt (.val (.bl true))) S := by kernel_rfl
theorem lhR_30 (q : Nat) (S : Store) : lhR (call 198) (hsw q (wr [2, 0, 1] leaf)) S = .ok (.rt (.val (.bl true))) S := by kernel_rfl
theorem lhR_31 (q : Nat) (S : Store) : lhR (call 198) (hsw q (wr [2, 0, 2] leaf)) S = .ok (.rt (.val (.bl true))) S := by kernel_rfl
theorem lhR_32 (q : Nat) (S : Store) : lhR (call 198) (hsw q (wr [2, 1] leaf)) S = .ok (.rt (.val (.bl true))) S := by kernel_rfl
theorem lhR_33 (q : Nat) (S : Store) : lhR (call 198) (hsw q (wr [2, 1, 0] leaf)) S = .ok (.rt (.val (.bl true))) S := by kernel_rfl
theorem lhR_34 (q : Nat) (S : Store) : lhR (call 198) (hsw q (wr [2, 1, 1] leaf)) S = .ok (.rt (.val (.bl true))) S := by kernel_rfl
theorem lhR_35 (q : Nat) (S : Store) : lhR (call 198) (hsw q (wr [2, 1, 2] leaf)) S = .ok (.rt (.val (.bl true))) S := by kernel_rfl
theorem lhR_36 (q : Nat) (S : Store) : lhR (call 198) (hsw q (wr [2, 2] leaf)) S = .ok (.rt (.val (.bl true))) S := by kernel_rfl
theorem lhR_37 (q : Nat) (S : Store) : lhR (call 198) (hsw q (wr [2, 2, 0] leaf)) S = .ok (.rt (.val (.bl true))) S := by kernel_rfl
theorem lhR_38 (q : Nat) (S : Store) : lhR (call 198) (hsw q (wr [2, 2, 1] leaf)) S = .ok (.rt (.val (.bl true))) S := by kernel_rfl
theorem lhR_39 (q : Nat) (S : Store) : lhR (call 198) (hsw q (wr [2, 2, 2] leaf)) S = .ok (.rt (.val (.bl true))) S := by kernel_rfl
theorem as3_eq : as3 = [[], [0], [0, 0], [0, 0, 0], [0, 0, 1], [0, 0, 2], [0, 1], [0, 1, 0], [0, 1, 1], [0, 1, 2], [0, 2], [0, 2, 0], [0, 2, 1], [0, 2, 2], [1], [1, 0], [1, 0, 0], [1, 0, 1], [1, 0, 2], [1, 1], [1, 1, 0], [1, 1, 1], [1, 1, 2], [1, 2], [1, 2, 0], [1, 2, 1], [1, 2, 2], [2], [2, 0], [2, 0, 0], [2, 0, 1], [2, 0, 2], [2, 1], [2, 1, 0], [2, 1, 1], [2, 1, 2], [2, 2], [2, 2, 0], [2, 2, 1], [2, 2, 2]] := by decide +kernel
theorem lhR_all : ∀ as ∈ as3, ∀ (q : Nat) (S : Store), lhR (call 198) (hsw q (wr as leaf)) S = .ok (.rt (.val (.bl true))) S := by
  rw [as3_eq]
  exact List.forall_mem_cons.mpr ⟨fun q S => lhR_0 q S, List.forall_mem_cons.mpr ⟨fun q S => lhR_1 q S, List.forall_mem_cons.mpr ⟨fun q S => lhR_2 q S, List.forall_mem_cons.mpr ⟨fun q S => lhR_3 q S, List.forall_mem_cons.mpr ⟨fun q S => lhR_4 q S, List.forall_mem_cons.mpr ⟨fun q S => lhR_5 q S, List.forall_mem_cons.mpr ⟨fun q S => lhR_6 q S, List.forall_mem_cons.mpr ⟨fun q S => lhR_7 q S, List.forall_mem_cons.mpr ⟨fun q S => lhR_8 q S, List.forall_mem_cons.mpr ⟨fun q S => lhR_9 q S, List.forall_mem_cons.mpr ⟨fun q S => lhR_10 q S, List.forall_mem_cons.mpr ⟨fun q S => lhR_11 q S, List.forall_mem_cons.mpr ⟨fun q S => lhR_12 q S, List.forall_mem_cons.mpr ⟨fun q S => lhR_13 q S, List.forall_mem_cons.mpr ⟨fun q S => lhR_14 q S, List.forall_mem_cons.mpr ⟨fun q S => lhR_15 q S, List.forall_mem_cons.mpr ⟨fun q S => lhR_16 q S, List.forall_mem_cons.mpr ⟨fun q S => lhR_17 q S, List.forall_mem_cons.mpr ⟨fun q S => lhR_18 q S, List.forall_mem_cons.mpr ⟨fun q S => lhR_19 q S, List.forall_mem_cons.mpr ⟨fun q S => lhR_20 q S, List.forall_mem_cons.mpr ⟨fun q S => lhR_21 q S, List.forall_mem_cons.mpr ⟨fun q S => lhR_22 q S, List.forall_mem_cons.mpr ⟨fun q S => lhR_23 q S, List.forall_mem_cons.mpr ⟨fun q S => lhR_24 q S, List.forall_mem_cons.mpr ⟨fun q S => lhR_25 q S, List.forall_mem_cons.mpr ⟨fun q S => lhR_26 q S, List.forall_mem_cons.mpr ⟨fun q S => lhR_27 q S, List.forall_mem_cons.mpr ⟨fun q S => lhR_28 q S, List.forall_mem_cons.mpr ⟨fun q S => lhR_29 q S, List.forall_mem_cons.mpr ⟨fun q S => lhR_30 q S, List.forall_mem_cons.mpr ⟨fun q S => lhR_31 q S, List.forall_mem_cons.mpr ⟨fun q S => lhR_32 q S, List.forall_mem_cons.mpr ⟨fun q S => lhR_33 q S, List.forall_mem_cons.mpr ⟨fun q S => lhR_34 q S, List.forall_mem_cons.mpr ⟨fun q S => lhR_35 q S, List.forall_mem_cons.mpr ⟨fun q S => lhR_36 q S, List.forall_mem_cons.mpr ⟨fun q S => lhR_37 q S, List.forall_mem_cons.mpr ⟨fun q S => lhR_38 q S, List.forall_mem_cons.mpr ⟨fun q S => lhR_39 q S, fun _ h => nomatch h⟩⟩⟩⟩⟩⟩⟩⟩⟩⟩⟩⟩⟩⟩⟩⟩⟩⟩⟩⟩⟩⟩⟩⟩⟩⟩⟩⟩⟩⟩⟩⟩⟩⟩⟩⟩⟩⟩⟩⟩
theorem lhR_ok (q : Nat) (S : Store) {as : List Nat} (h : as ∈ as3) : lhR (call 198) (hsw q (wr as leaf)) S = .ok (.rt (.val (.bl true))) S := lhR_all as h q S
theorem lh0_ok (q : Nat) (S : Store) : lh0 (call 198) (startW 15 [.loc q]) S = .ok (.nx [some (.val (.loc q)), some (.val leaf), none, none, none, none, none, none, none, none, none, none, none, none, none]) S := by kernel_rfl
theorem lh_ok {S : Store} {p q : Nat} {t : Int} (H : Src S p q t) (ht : t < 900000) : ∃ S', call 199 .f__law_wholes [.loc q] S = .ok (.val (.bl true)) S' := by
  obtain ⟨as, S1, t1, e1, hl, ha, H1, _⟩ := with_ok H (by omega) leaf
  refine ⟨S1, ?_⟩
  have ec : eCall (call 198 .f__law_with_tree) (aCons (eVar 0) (aCons (eVar 1) (aNil))) [some (.val (.loc q)), some (.val leaf), none, none, none, none, none, none, none, none, none, none, none, none, none] S = .ok (machA (wr as leaf)) S1 := call_of (rfl : aCons (eVar 0) (aCons (eVar 1) (aNil)) [some (.val (.loc q)), some (.val leaf), none, none, none, none, none, none, none, none, none, none, none, none, none] S = .ok [.loc q, leaf] S) e1
  have e2 : lh1 (call 198) [some (.val (.loc q)), some (.val leaf), none, none, none, none, none, none, none, none, none, none, none, none, none] S = .ok (.nx (hsw q (wr as leaf))) S1 := by
    unfold lh1
    rw [ev_unp, ec]
    rfl
  show fBody 15 (b__law_wholes (call 198)) [.loc q] S = _
  rw [ev_body, lh_eq2, seq2 (lh0_ok q S), seq2 e2, lhR_ok q S1 (as3_mem as hl ha)]
end G
set_option Elab.async false
set_option linter.all false
set_option maxRecDepth 1000000
set_option maxHeartbeats 4000000
namespace G
open PySem PySem.Spec ML

def w0 (c : Call) : SM := (sSet 1 (eNew (fCall (c .f__law_source) (aCons (eVar 0) (aNil)))))
def w1 (c : Call) : SM := (sIf (tOrM (tNotM (tV (eCall (c .f__law_operands) (aCons (eVar 1) (aNil))))) (tOrM (tNotM (tV (eCall (c .f__law_ends) (aCons (eVar 1) (aNil))))) (tNotM (tV (eCall (c .f__law_asks) (aCons (eVar 1) (aNil))))))) (sRet (eC (.bl false))) (sNil))
def w2 (c : Call) : SM := (sRet (eAndV (eCall (c .f__law_long) (aCons (eVar 1) (aNil))) (eCall (c .f__law_wholes) (aCons (eVar 1) (aNil)))))
theorem law_eq (c : Call) : b_law c = sSeq (w0 c) (sSeq (w1 c) (w2 c)) := rfl
theorem call1 {f : List W → Store → Res RV} {sw : SW} {S S' : Store} {i : Nat} {x w : W} (h : sw[i]? = some (some (.val x))) (e : f [x] S = .ok (.val w) S') : eCall f (aCons (eVar i) aNil) sw S = .ok w S' := call_of (args1_of (ev_var h)) e
theorem law_true (ns : List Int) (_ : ns.length ≤ 63) (_ : ∀ z ∈ ns, Builtin.Int.intBits z ≤ 1048576) : ∃ S, call 200 .f_law [.scr ns] [] = .ok (.val (.bl true)) S := by
  obtain ⟨p, cs, S, e1, hc, hn, hp⟩ := src_ok ns 198
  have H : Src (S ++ [.lst [.loc p, .int 0]]) p S.length 0 := by
    refine ⟨⟨cs, ?_, hn⟩, ?_, Nat.ne_of_lt hp, by omega, by omega⟩
    · rw [List.getElem?_append_left hp]
      exact hc
    · simp
  obtain ⟨S2, t2, e2, H2, h2⟩ := lo_ok H (by omega)
  obtain ⟨S3, t3, e3, H3, h3⟩ := le_ok H2 (by omega)
  obtain ⟨S4, t4, e4, H4, h4⟩ := la_ok H3 (by omega)
  obtain ⟨S5, t5, e5, H5, h5⟩ := ll_ok H4 (by omega)
  obtain ⟨S6, e6⟩ := lh_ok H5 (by omega)
  refine ⟨S6, ?_⟩
  have s0 : w0 (call 199) (startW 2 [.scr ns]) [] = .ok (.nx [some (.val (.scr ns)), some (.val (.loc S.length))]) (S ++ [.lst [.loc p, .int 0]]) := by
    have v0 : eVar 0 (startW 2 [.scr ns]) [] = .ok (.scr ns) [] := rfl
    unfold w0
    rw [ev_set, ev_new, ev_fcall, args1_of v0, bind_ok, e1]
    rfl
  have s1 : w1 (call 199) [some (.val (.scr ns)), some (.val (.loc S.length))] (S ++ [.lst [.loc p, .int 0]]) = .ok (.nx [some (.val (.scr ns)), some (.val (.loc S.length))]) S4 := by
    unfold w1
    rw [ev_if, ev_or, ev_not, ev_tV, call1 rfl e2, bind_ok, bind_ok, bind_ok, if_neg (by decide), ev_or, ev_not, ev_tV, call1 rfl e3, bind_ok, bind_ok, bind_ok, if_neg (by decide), ev_not, ev_tV, call1 rfl e4, bind_ok, bind_ok, liftS_ok, if_neg (by decide)]
    rfl
  have s2 : w2 (call 199) [some (.val (.scr ns)), some (.val (.loc S.length))] S4 = .ok (.rt (.val (.bl true))) S6 := by
    unfold w2
    rw [ev_ret]
    have e : eAndV (eCall (call 199 .f__law_long) (aCons (eVar 1) (aNil))) (eCall (call 199 .f__law_wholes) (aCons (eVar 1) (aNil))) [some (.val (.scr ns)), some (.val (.loc S.length))] S4 = .ok (.bl true) S6 := by
      show (eCall (call 199 .f__law_long) (aCons (eVar 1) (aNil)) [some (.val (.scr ns)), some (.val (.loc S.length))] S4).bind _ = _
      rw [call1 rfl e5, bind_ok]
      show eCall (call 199 .f__law_wholes) (aCons (eVar 1) (aNil)) [some (.val (.scr ns)), some (.val (.loc S.length))] S5 = _
      rw [call1 rfl e6]
    rw [e]
    rfl
  show fBody 2 (b_law (call 199)) [.scr ns] [] = _
  rw [ev_body, law_eq, seq2 s0, seq2 s1, s2]
end G
set_option Elab.async false
set_option linter.all false
set_option maxRecDepth 100000
set_option maxHeartbeats 0
open PySem PySem.W PySem.Calls PyProof.Rows
theorem PySem.Challenge.cw_keptops_k57_wrong_machines_holds : PySem.Challenge.rw_keptops_k57_wrong_machines.Holds := by
  w_on; o_law
  refine HandSHeadRun.head_any (r := OpenLaw.row PySem.Challenge.rw_keptops_k57_wrong_machines) (q := view (OpenLaw.row PySem.Challenge.rw_keptops_k57_wrong_machines).prog [44]) (H := G.hk) (ob := G.ob) (M := 30000) (loose := G.names) (d := HandSHeadRun.topDef (OpenLaw.row PySem.Challenge.rw_keptops_k57_wrong_machines).prog 44) (kwd := []) G.ob_eq
    (by kernel_rfl) (fun s => by kernel_rfl) G.run (by kernel_rfl) (by kernel_rfl) (by kernel_rfl) (by rfl) (by first | assumption | decide +kernel) (by decide +kernel) ⟨rfl, rfl, rfl, rfl, rfl, by decide +kernel⟩ ?hw ?hc
  case hw => w_witness2
  case hc =>
    refine ML.walk_end (l := PySem.Challenge.rw_keptops_k57_wrong_machines) (n := 63) (k := 200) (x := "_law_script") (g := G.call 200 .f_law) rfl (by decide) (by kernel_rfl) ⟨rfl, by decide, by decide⟩ G.law_true ?F
    intro w mg fa h Y G0 hmg0
    obtain ⟨K, KX, c⟩ := Y
    have hmg : mg ("law" : PySem.Str) = some (.ref fa) := by
      have e : (HandSHeadRun.topDef (OpenLaw.row PySem.Challenge.rw_keptops_k57_wrong_machines).prog 44).name = ("law" : PySem.Str) := by kernel_rfl
      rw [← e]
      exact hmg0
    have Z : G.All K w mg := ⟨⟨h, KX, G0, c⟩⟩
    have e := hmg.symm.trans (G.mg_law Z)
    cases e
    have b := L2.FunD.bindsA (ps := ["_law_script"]) (G.fn_law Z) fun _ _ _ _ _ _ us hl => match us, hl with | [_], _ => rfl
    exact ⟨K, _, KX, fun s v => b s [v] rfl, fun base _ _ => G.all_ok Z 200 .f_law⟩
