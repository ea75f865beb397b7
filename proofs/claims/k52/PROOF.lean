import PyProof.Rows.All
import Wide.All
import OpenK.AllK
import Wide.FinOn
import HandS.ForMost
import HandS.Exc
import HandS.ExcSuper
import HandS.TryOnly
import HandS.WordsExc
import HandS.Nested
import HandS.IsInst
import HandS.Flow
import HandS.Style
import HandS.TupAny
import HandS.TupLe
import HandS.SortOrd
import HandS.SortRule
import HandS.DictComp
import HandS.Zip
import HandS.Deep
import KE.SortData
import HandS.TupMul
import KE.KxIndex
import HandS.Conv
import HandS.More
import KE.KDictPairs
import HandS.TupLen
import HandS.DictTup
import HandS.SetFor
import HandS.Strs
import KE.KDictSum
import PyProof.TupleCall
import HandS.Rev
import KE.GoesEnum
import HandS.Property
import HandS.Codes
import HandS.Lambda
import HandS.Small
import HandS.EndTab
import PySem.Challenge.RW_portedlines_k52_whole_days_along_all_way
set_option Elab.async false
set_option linter.all false
set_option maxRecDepth 100000
set_option maxHeartbeats 4000000
namespace SD
open PySem PySem.Spec PyProof.Rows L2

/-! ## values as plain data -/
inductive D where
  | non | bl (b : Bool) | int (i : Int) | str (x : List Nat)
  | tup (l : List D) | lst (l : List D) | dct (tk : Bool) (l : List (D × D)) | ktup (l : List D) | rl (l : List D)
  | obj (c : Nat) (fs : List D)
  | well | glb (n : Nat) | ty (n : String)
  | own (c : Nat) | clo (c : Nat) (ws : List D)
  deriving Inhabited

/-- the text of a def in a def, or of a lambda -/
structure CT where
  name : Str
  qual : Str
  params : Arguments
  body : FuncBody
  scope : Scope
/-- the world of one law: its program, the places of its classes and defs, the texts of its closures, what they capture -/
structure Wd where
  P : Program
  w : World
  K : PySem.W.Frag
  mg : Str → Option Value
  base : Heap
  T : List NdefX.NTab
  cls : Nat → Addr
  glb : Nat → Addr
  fld : Nat → List Str
  hw : Bool
  ct : Nat → CT
  cfr : Nat → List Str

def NoTbl (o : HO) : Prop := ∀ ps, o ≠ .tbl ps
def KT (K : PySem.W.Frag) (a : Addr) (xs : List V) : Prop := ∃ (o : Obj) (its : Array Value) (n : Nat), K.lookup a = some o ∧ o.cls = .type "tuple" ∧ o.dict = none ∧ o.data = .seq its n ∧ its.size ≤ sizeLine ∧ Vals xs its.toList
def KL (K : PySem.W.Frag) (a : Addr) (xs : List V) : Prop := ∃ (o : Obj) (its : Array Value) (n : Nat), K.lookup a = some o ∧ o.cls = .type "list" ∧ o.dict = none ∧ o.data = .seq its n ∧ its.size ≤ sizeLine ∧ Vals xs its.toList
/-- keys of dicts -/
def kD : Key → D
  | .inl i => .int i
  | .inr x => .str x.cps.toList
def kDs (ks : List Key) : D := .tup (ks.map kD)

def tupD : D → Bool
  | .tup _ => true
  | .int _ => true
  | _ => false
/-- a tuple that no dict(..) takes: it is not known beyond its items -/
def soft (ds : List D) : Bool := ds.any fun d => !tupD d
/-- a tuple at a; where its object matters it is known for good -/
def TupAt (H : Hp) (a : Addr) (xs : List V) (b : Bool) : Prop := if b = true then H a = some (.tup xs) else ∃ o : Obj, H a = some (.frz o (.tup xs)) ∧ o.dict = none
def hasS (k : List Key) : Bool := k.any Sum.isRight
/-- keys of the tuple kind hold a text -/
def NE (ks : List (List Key)) : Prop := ∀ k ∈ ks, hasS k = true
mutual
/-- the value v holds the data d: no address of S is met on the way -/
inductive RD (G : Wd) (wa : Addr) (H : Hp) (S : Addr → Prop) : D → V → Prop
  | non : RD G wa H S .non .non
  | bl (b : Bool) : RD G wa H S (.bl b) (.bl b)
  | int (i : Int) : RD G wa H S (.int i) (.int i)
  | str (x : List Nat) : RD G wa H S (.str x) (.str ⟨x.toArray⟩)
  | tup {a : Addr} {xs : List V} {ds : List D} : TupAt H a xs (soft ds) → ¬ S a → RDs G wa H S ds xs → RD G wa H S (.tup ds) (.ref a)
  | ktup {a : Addr} {xs : List V} {ds : List D} : KT G.K a xs → RDs G wa H S ds xs → RD G wa H S (.ktup ds) (.ref a)
  | stup {a : Addr} {xs : List V} {ds : List D} : H a = some (.tup xs) → ¬ S a → RDs G wa H S ds xs → RD G wa H S (.ktup ds) (.ref a)
  | lst {a : Addr} {xs : List V} {ds : List D} : H a = some (.lst xs) → ¬ S a → RDs G wa H S ds xs → RD G wa H S (.lst ds) (.ref a)
  | rl {a : Addr} {o : Obj} {xs : List V} {ds : List D} : H a = some (.frz o (.lst xs)) → ¬ S a → RDs G wa H S ds xs → RD G wa H S (.rl ds) (.ref a)
  | krl {a : Addr} {xs : List V} {ds : List D} : KL G.K a xs → RDs G wa H S ds xs → RD G wa H S (.rl ds) (.ref a)
  | dK {a : Addr} {o : Obj} {ks : List Key} {xs : List V} {ds : List D} : H a = some (.frz o (.dK (ks.zip xs))) → ¬ S a → ks.length = xs.length → RDs G wa H S ds xs → RD G wa H S (.dct false ((ks.map kD).zip ds)) (.ref a)
  | dT {a : Addr} {o : Obj} {ks : List (List Key)} {xs : List V} {ds : List D} : H a = some (.frz o (.dT (ks.zip xs))) → ¬ S a → (ks.length = xs.length ∧ NE ks) → RDs G wa H S ds xs → RD G wa H S (.dct true ((ks.map kDs).zip ds)) (.ref a)
  | obj {a dx : Addr} {c : Nat} {xs : List V} {ds : List D} : H a = some (.ins (G.cls c) dx ((G.fld c).zip xs)) → ¬ S a → (G.fld c).length = xs.length → RDs G wa H S ds xs → RD G wa H S (.obj c ds) (.ref a)
  | well : G.hw = true → RD G wa H S .well (.ref wa)
  | glb (n : Nat) : RD G wa H S (.glb n) (.ref (G.glb n))
  | ty (n : String) : RD G wa H S (.ty n) (.ty n)
inductive RDs (G : Wd) (wa : Addr) (H : Hp) (S : Addr → Prop) : List D → List V → Prop
  | nil : RDs G wa H S [] []
  | cons {d : D} {v : V} {ds : List D} {vs : List V} : RD G wa H S d v → RDs G wa H S ds vs → RDs G wa H S (d :: ds) (v :: vs)
end

/-- all that stood outside of S stands as it was (tables may grow) -/
def Kp (S : Addr → Prop) (H H' : Hp) : Prop := ∀ a o, H a = some o → ¬ S a → NoTbl o → H' a = some o
/-- S' has nothing beyond S but new addresses -/
def Sb (H : Hp) (S S' : Addr → Prop) : Prop := ∀ a, S' a → S a ∨ H a = none

section
variable {G : Wd} {wa : Addr} {H H' H1 H2 : Hp} {S S' S1 S2 : Addr → Prop} {d : D} {v : V} {ds : List D} {vs : List V}
theorem Kp.refl : Kp S H H := fun _ _ h _ _ => h
theorem Kp.of (h : ∀ a o, H a = some o → H' a = some o) : Kp S H H' := fun a o e _ _ => h a o e
theorem Kp.upd {p : Addr} {o : HO} (hp : H p = none) : Kp S H (upd H p o) := fun a o e _ _ => by rw [upd_ne (ne_of_none e hp)]; exact e
theorem Kp.mono (h : Kp S H H') (s : ∀ a, S a → S1 a) : Kp S1 H H' := fun a o e n t => h a o e (fun z => n (s a z)) t
theorem Kp.trans (a : Kp S H H1) (s : Sb H S S1) (b : Kp S1 H1 H2) : Kp S H H2 := fun c o e n t =>
  b c o (a c o e n t) (fun z => (s c z).elim n fun q => by rw [q] at e; cases e) t
theorem Sb.refl : Sb H S S := fun _ h => .inl h
theorem Sb.sub (h : ∀ a, S' a → S a) : Sb H S S' := fun a x => .inl (h a x)
/-- what is free behind was free ahead (outside S, tables apart) is not told: freshness is handed on by this -/
theorem Sb.trans (a : Sb H S S1) (k : ∀ a, H1 a = none → H a = none) (b : Sb H1 S1 S2) : Sb H S S2 := fun c h =>
  (b c h).elim (a c) fun q => .inr (k c q)
theorem noTbl_tup {xs : List V} : NoTbl (.tup xs) := fun _ z => by cases z
theorem noTbl_lst {xs : List V} : NoTbl (.lst xs) := fun _ z => by cases z
theorem noTbl_dK {xs} : NoTbl (.dK xs) := fun _ z => by cases z
theorem noTbl_dT {xs} : NoTbl (.dT xs) := fun _ z => by cases z
theorem noTbl_frz {o u} : NoTbl (.frz o u) := fun _ z => by cases z
theorem noTbl_ins {C dx fs} : NoTbl (.ins C dx fs) := fun _ z => by cases z
theorem stay {a : Addr} {o : HO} (k : Kp S H H') (s : Sb H S S') (e : H a = some o) (n : ¬ S a) (t : NoTbl o) : H' a = some o ∧ ¬ S' a :=
  ⟨k a o e n t, fun z => (s a z).elim n fun q => by rw [q] at e; cases e⟩
theorem TupAt.stay {a : Addr} {xs : List V} {b : Bool} (k : Kp S H H') (s : Sb H S S') (e : TupAt H a xs b) (n : ¬ S a) : TupAt H' a xs b ∧ ¬ S' a := by
  cases b with
  | true => obtain ⟨p, q⟩ := SD.stay k s (show H a = some (.tup xs) from e) n noTbl_tup; exact ⟨p, q⟩
  | false =>
    obtain ⟨o, e, d⟩ := (show ∃ o : Obj, H a = some (.frz o (.tup xs)) ∧ o.dict = none from e)
    obtain ⟨p, q⟩ := SD.stay k s e n noTbl_frz
    exact ⟨⟨o, p, d⟩, q⟩
theorem TupAt.sq {K : PySem.W.Frag} {a : Addr} {xs : List V} {b : Bool} (e : TupAt H a xs b) : SqT K H a xs := by
  cases b with
  | true => exact .inl (.inl e)
  | false => obtain ⟨o, e, d⟩ := (show ∃ o : Obj, H a = some (.frz o (.tup xs)) ∧ o.dict = none from e); exact .inl (.inr ⟨o, e⟩)
theorem TupAt.ext {a : Addr} {xs : List V} {b : Bool} (k : ∀ a o, H a = some o → H' a = some o) (e : TupAt H a xs b) : TupAt H' a xs b := (TupAt.stay (S := fun _ => False) (S' := fun _ => False) (Kp.of k) Sb.refl e fun z => z).1
mutual
theorem RD.mono (k : Kp S H H') (s : Sb H S S') : ∀ {d : D} {v : V}, RD G wa H S d v → RD G wa H' S' d v
  | _, _, .non => .non
  | _, _, .bl b => .bl b
  | _, _, .int i => .int i
  | _, _, .str x => .str x
  | _, _, .tup e n r => .tup (e.stay k s n).1 (e.stay k s n).2 (RDs.mono k s r)
  | _, _, .ktup e r => .ktup e (RDs.mono k s r)
  | _, _, .stup e n r => .stup (stay k s e n noTbl_tup).1 (stay k s e n noTbl_tup).2 (RDs.mono k s r)
  | _, _, .lst e n r => .lst (stay k s e n noTbl_lst).1 (stay k s e n noTbl_lst).2 (RDs.mono k s r)
  | _, _, .rl e n r => .rl (stay k s e n noTbl_frz).1 (stay k s e n noTbl_frz).2 (RDs.mono k s r)
  | _, _, .krl e r => .krl e (RDs.mono k s r)
  | _, _, .dK e n l r => .dK (stay k s e n noTbl_frz).1 (stay k s e n noTbl_frz).2 l (RDs.mono k s r)
  | _, _, .dT e n l r => .dT (stay k s e n noTbl_frz).1 (stay k s e n noTbl_frz).2 l (RDs.mono k s r)
  | _, _, .obj e n l r => .obj (stay k s e n noTbl_ins).1 (stay k s e n noTbl_ins).2 l (RDs.mono k s r)
  | _, _, .well h => .well h
  | _, _, .glb n => .glb n
  | _, _, .ty n => .ty n
theorem RDs.mono (k : Kp S H H') (s : Sb H S S') : ∀ {ds : List D} {vs : List V}, RDs G wa H S ds vs → RDs G wa H' S' ds vs
  | _, _, .nil => .nil
  | _, _, .cons r t => .cons (RD.mono k s r) (RDs.mono k s t)
end
theorem RDs.length : ∀ {ds : List D} {vs : List V}, RDs G wa H S ds vs → ds.length = vs.length
  | _, _, .nil => rfl
  | _, _, .cons _ t => by simp [RDs.length t]
theorem RDs.get : ∀ {ds : List D} {vs : List V} {i : Nat} {d : D}, RDs G wa H S ds vs → ds[i]? = some d → ∃ v, vs[i]? = some v ∧ RD G wa H S d v
  | _, _, _, _, .nil, e => by simp at e
  | _, _, 0, _, .cons r _, e => by simp at e; subst e; exact ⟨_, rfl, r⟩
  | _, _, i + 1, d, .cons _ t, e => by
    obtain ⟨v, h1, h2⟩ := RDs.get (i := i) (d := d) t (by simpa using e)
    exact ⟨v, by simpa using h1, h2⟩
theorem RDs.getV : ∀ {ds : List D} {vs : List V} {i : Nat} {v : V}, RDs G wa H S ds vs → vs[i]? = some v → ∃ d, ds[i]? = some d ∧ RD G wa H S d v
  | _, _, _, _, .nil, e => by simp at e
  | _, _, 0, _, .cons r _, e => by simp at e; subst e; exact ⟨_, rfl, r⟩
  | _, _, i + 1, v, .cons _ t, e => by
    obtain ⟨v, h1, h2⟩ := RDs.getV (i := i) (v := v) t (by simpa using e)
    exact ⟨v, by simpa using h1, h2⟩
theorem RDs.append : ∀ {ds es : List D} {vs us : List V}, RDs G wa H S ds vs → RDs G wa H S es us → RDs G wa H S (ds ++ es) (vs ++ us)
  | _, _, _, _, .nil, s => s
  | _, _, _, _, .cons r t, s => .cons r (RDs.append t s)
theorem RDs.take : ∀ {ds : List D} {vs : List V} (n : Nat), RDs G wa H S ds vs → RDs G wa H S (ds.take n) (vs.take n)
  | _, _, 0, _ => .nil
  | _, _, _ + 1, .nil => .nil
  | _, _, n + 1, .cons r t => .cons r (RDs.take n t)
theorem RDs.drop : ∀ {ds : List D} {vs : List V} (n : Nat), RDs G wa H S ds vs → RDs G wa H S (ds.drop n) (vs.drop n)
  | _, _, 0, r => r
  | _, _, _ + 1, .nil => .nil
  | _, _, n + 1, .cons _ t => RDs.drop n t
theorem RDs.set {d : D} {v : V} (r : RD G wa H S d v) : ∀ {ds : List D} {vs : List V} (i : Nat), RDs G wa H S ds vs → RDs G wa H S (ds.set i d) (vs.set i v)
  | _, _, _, .nil => .nil
  | _, _, 0, .cons _ t => .cons r t
  | _, _, i + 1, .cons q t => .cons q (RDs.set r i t)
theorem RDs.one (r : RD G wa H S d v) : RDs G wa H S [d] [v] := .cons r .nil
theorem RDs.eraseIdx : ∀ {ds : List D} {vs : List V} (i : Nat), RDs G wa H S ds vs → RDs G wa H S (ds.eraseIdx i) (vs.eraseIdx i)
  | _, _, _, .nil => by simpa using RDs.nil
  | _, _, 0, .cons _ t => by simpa using t
  | _, _, i + 1, .cons q t => by simpa using RDs.cons q (RDs.eraseIdx i t)
theorem RDs.reverse : ∀ {ds : List D} {vs : List V}, RDs G wa H S ds vs → RDs G wa H S ds.reverse vs.reverse
  | _, _, .nil => by simpa using RDs.nil
  | _, _, .cons q t => by rw [List.reverse_cons, List.reverse_cons]; exact RDs.append (RDs.reverse t) (RDs.one q)
end
end SD

set_option Elab.async false
set_option linter.all false
set_option maxRecDepth 100000
namespace SD
/-! ## a total order of plain data (on data that < orders, it is <) -/
def tagD : D → Nat
  | .int _ => 0 | .str _ => 1 | .tup _ => 2 | _ => 3
def nCmp (a b : Nat) : Ordering := if a < b then .lt else if b < a then .gt else .eq
def iCmp (a b : Int) : Ordering := if a < b then .lt else if b < a then .gt else .eq
def lex2 : Ordering → Ordering → Ordering
  | .eq, r => r
  | o, _ => o
def sCmp : List Nat → List Nat → Ordering
  | [], [] => .eq
  | [], _ :: _ => .lt
  | _ :: _, [] => .gt
  | x :: xs, y :: ys => lex2 (nCmp x y) (sCmp xs ys)
mutual
def dCore : D → D → Ordering
  | .int i, .int j => iCmp i j
  | .str x, .str y => sCmp x y
  | .tup xs, .tup ys => dCmps xs ys
  | _, _ => .eq
def dCmps : List D → List D → Ordering
  | [], [] => .eq
  | [], _ :: _ => .lt
  | _ :: _, [] => .gt
  | x :: xs, y :: ys => lex2 (lex2 (nCmp (tagD x) (tagD y)) (dCore x y)) (dCmps xs ys)
end
def dCmp (a b : D) : Ordering := lex2 (nCmp (tagD a) (tagD b)) (dCore a b)
/-- a comparison of three -/
def T3 (ab bc ac : Ordering) : Prop := (ab = .eq → ac = bc) ∧ (ab = .lt → bc ≠ .gt → ac = .lt)
theorem T3.lex {ab bc ac r1 r2 r3 : Ordering} (h : T3 ab bc ac) (h2 : ab = .eq → bc = .eq → T3 r1 r2 r3) : T3 (lex2 ab r1) (lex2 bc r2) (lex2 ac r3) := by
  obtain ⟨h3, h4⟩ := h
  cases ab <;> cases bc <;> cases ac <;> simp_all [T3, lex2]
theorem nCmp_T (a b c : Nat) : T3 (nCmp a b) (nCmp b c) (nCmp a c) := by
  unfold T3 nCmp
  constructor <;> (repeat' split) <;> first | omega | simp_all <;> omega
theorem iCmp_T (a b c : Int) : T3 (iCmp a b) (iCmp b c) (iCmp a c) := by
  unfold T3 iCmp
  constructor <;> (repeat' split) <;> first | omega | simp_all <;> omega
theorem sCmp_T : ∀ a b c : List Nat, T3 (sCmp a b) (sCmp b c) (sCmp a c)
  | [], [], c => by cases c <;> simp [T3, sCmp]
  | [], _ :: _, [] => by simp [T3, sCmp]
  | [], _ :: _, _ :: _ => by simp [T3, sCmp]
  | _ :: _, [], c => by cases c <;> simp [T3, sCmp]
  | x :: xs, y :: ys, [] => by
    simp only [sCmp, T3]
    cases lex2 (nCmp x y) (sCmp xs ys) <;> simp
  | x :: xs, y :: ys, z :: zs => (nCmp_T x y z).lex fun _ _ => sCmp_T xs ys zs
theorem nCmp_sw (a b : Nat) : nCmp b a = (nCmp a b).swap := by
  unfold nCmp
  (repeat' split) <;> first | rfl | omega
theorem iCmp_sw (a b : Int) : iCmp b a = (iCmp a b).swap := by
  unfold iCmp
  (repeat' split) <;> first | rfl | omega
theorem lex2_sw {a b : Ordering} : lex2 a.swap b.swap = (lex2 a b).swap := by cases a <;> rfl
theorem sCmp_sw : ∀ a b : List Nat, sCmp b a = (sCmp a b).swap
  | [], [] => rfl
  | [], _ :: _ => rfl
  | _ :: _, [] => rfl
  | x :: xs, y :: ys => by simp only [sCmp]; rw [nCmp_sw x y, sCmp_sw xs ys, lex2_sw]
theorem nCmp_eq {a b : Nat} (h : nCmp a b = .eq) : a = b := by
  unfold nCmp at h
  split at h
  · cases h
  · split at h
    · cases h
    · omega
theorem core3 {a b : D} (h : tagD a = 3) : dCore a b = .eq := by
  cases a <;> first | (cases h; done) | (cases b <;> rfl)
theorem T3.eqs : T3 .eq .eq .eq := by simp [T3]
mutual
theorem dCore_T : ∀ a b c : D, tagD a = tagD b → tagD b = tagD c → T3 (dCore a b) (dCore b c) (dCore a c)
  | .int i, b, c, h1, h2 => by
    cases b <;> first | (cases h1; done) | skip
    cases c <;> first | (cases h2; done) | skip
    exact iCmp_T _ _ _
  | .str i, b, c, h1, h2 => by
    cases b <;> first | (cases h1; done) | skip
    cases c <;> first | (cases h2; done) | skip
    exact sCmp_T _ _ _
  | .tup xs, b, c, h1, h2 => by
    cases b <;> first | (cases h1; done) | skip
    cases c <;> first | (cases h2; done) | skip
    exact dCmps_T xs _ _
  | .non, b, c, h1, h2 => by rw [core3 rfl, core3 h1.symm, core3 rfl]; exact T3.eqs
  | .bl _, b, c, h1, h2 => by rw [core3 rfl, core3 h1.symm, core3 rfl]; exact T3.eqs
  | .lst _, b, c, h1, h2 => by rw [core3 rfl, core3 h1.symm, core3 rfl]; exact T3.eqs
  | .dct _ _, b, c, h1, h2 => by rw [core3 rfl, core3 h1.symm, core3 rfl]; exact T3.eqs
  | .ktup _, b, c, h1, h2 => by rw [core3 rfl, core3 h1.symm, core3 rfl]; exact T3.eqs
  | .rl _, b, c, h1, h2 => by rw [core3 rfl, core3 h1.symm, core3 rfl]; exact T3.eqs
  | .obj _ _, b, c, h1, h2 => by rw [core3 rfl, core3 h1.symm, core3 rfl]; exact T3.eqs
  | .well, b, c, h1, h2 => by rw [core3 rfl, core3 h1.symm, core3 rfl]; exact T3.eqs
  | .glb _, b, c, h1, h2 => by rw [core3 rfl, core3 h1.symm, core3 rfl]; exact T3.eqs
  | .ty _, b, c, h1, h2 => by rw [core3 rfl, core3 h1.symm, core3 rfl]; exact T3.eqs
  | .own _, b, c, h1, h2 => by rw [core3 rfl, core3 h1.symm, core3 rfl]; exact T3.eqs
  | .clo _ _, b, c, h1, h2 => by rw [core3 rfl, core3 h1.symm, core3 rfl]; exact T3.eqs
theorem dCmps_T : ∀ a b c : List D, T3 (dCmps a b) (dCmps b c) (dCmps a c)
  | [], [], c => by cases c <;> simp [T3, dCmps]
  | [], _ :: _, [] => by simp [T3, dCmps]
  | [], _ :: _, _ :: _ => by simp [T3, dCmps]
  | _ :: _, [], c => by cases c <;> simp [T3, dCmps]
  | x :: xs, y :: ys, [] => by
    unfold T3
    have h : dCmps (y :: ys) [] = .gt := rfl
    have h2 : dCmps (x :: xs) [] = .gt := rfl
    rw [h, h2]
    exact ⟨fun _ => rfl, fun _ z => absurd rfl z⟩
  | x :: xs, y :: ys, z :: zs => T3.lex (T3.lex (nCmp_T _ _ _) fun h1 h2 => dCore_T x y z (nCmp_eq h1) (nCmp_eq h2)) fun _ _ => dCmps_T xs ys zs
end
mutual
theorem dCore_sw : ∀ a b : D, tagD a = tagD b → dCore b a = (dCore a b).swap
  | .int i, b, h => by
    cases b <;> first | (cases h; done) | skip
    exact iCmp_sw _ _
  | .str i, b, h => by
    cases b <;> first | (cases h; done) | skip
    exact sCmp_sw _ _
  | .tup xs, b, h => by
    cases b <;> first | (cases h; done) | skip
    exact dCmps_sw xs _
  | .non, b, h => by rw [core3 h.symm, core3 rfl]; rfl
  | .bl _, b, h => by rw [core3 h.symm, core3 rfl]; rfl
  | .lst _, b, h => by rw [core3 h.symm, core3 rfl]; rfl
  | .dct _ _, b, h => by rw [core3 h.symm, core3 rfl]; rfl
  | .ktup _, b, h => by rw [core3 h.symm, core3 rfl]; rfl
  | .rl _, b, h => by rw [core3 h.symm, core3 rfl]; rfl
  | .obj _ _, b, h => by rw [core3 h.symm, core3 rfl]; rfl
  | .well, b, h => by rw [core3 h.symm, core3 rfl]; rfl
  | .glb _, b, h => by rw [core3 h.symm, core3 rfl]; rfl
  | .ty _, b, h => by rw [core3 h.symm, core3 rfl]; rfl
  | .own _, b, h => by rw [core3 h.symm, core3 rfl]; rfl
  | .clo _ _, b, h => by rw [core3 h.symm, core3 rfl]; rfl
theorem dCmps_sw : ∀ a b : List D, dCmps b a = (dCmps a b).swap
  | [], [] => rfl
  | [], _ :: _ => rfl
  | _ :: _, [] => rfl
  | x :: xs, y :: ys => by
    show lex2 (lex2 (nCmp (tagD y) (tagD x)) (dCore y x)) (dCmps ys xs) = (lex2 (lex2 (nCmp (tagD x) (tagD y)) (dCore x y)) (dCmps xs ys)).swap
    rw [← lex2_sw, ← dCmps_sw xs ys]
    congr 1
    by_cases h : tagD x = tagD y
    · rw [nCmp_sw (tagD x), dCore_sw x y h, lex2_sw]
    · rw [nCmp_sw (tagD x)]
      have hn : nCmp (tagD x) (tagD y) ≠ .eq := fun z => h (nCmp_eq z)
      cases hc : nCmp (tagD x) (tagD y) <;> first | rfl | exact absurd hc hn
end
theorem dCmp_T (a b c : D) : T3 (dCmp a b) (dCmp b c) (dCmp a c) := (nCmp_T _ _ _).lex fun h1 h2 => dCore_T a b c (nCmp_eq h1) (nCmp_eq h2)
theorem dCmp_sw (a b : D) : dCmp b a = (dCmp a b).swap := by
  unfold dCmp
  by_cases h : tagD a = tagD b
  · rw [nCmp_sw (tagD a), dCore_sw a b h, lex2_sw]
  · rw [nCmp_sw (tagD a)]
    have hn : nCmp (tagD a) (tagD b) ≠ .eq := fun z => h (nCmp_eq z)
    cases hc : nCmp (tagD a) (tagD b) <;> first | rfl | exact absurd hc hn
/-- the order that sorted goes by -/
def tlt (a b : D) : Bool := dCmp a b == .lt
theorem tlt_swo {α : Type} (f : α → D) : SrtO.Swo fun x y => tlt (f x) (f y) where
  asym := fun x y h => by
    have h' : dCmp (f x) (f y) = .lt := by simpa [tlt] using h
    simp [tlt, dCmp_sw (f x) (f y), h']
  tr := fun x y z h1 h2 => by
    have a : dCmp (f x) (f y) ≠ .gt := fun e => by simp [tlt, dCmp_sw (f x) (f y), e] at h1
    have b : dCmp (f y) (f z) ≠ .gt := fun e => by simp [tlt, dCmp_sw (f y) (f z), e] at h2
    obtain ⟨t1, t2⟩ := dCmp_T (f x) (f y) (f z)
    have c : dCmp (f x) (f z) ≠ .gt := by
      cases e : dCmp (f x) (f y) with
      | lt => rw [t2 e b]; decide
      | eq => rw [t1 e]; exact b
      | gt => exact absurd e a
    have d : dCmp (f z) (f x) ≠ .lt := fun e => by
      rw [dCmp_sw (f x) (f z)] at e
      cases q : dCmp (f x) (f z) <;> rw [q] at e <;> first | exact c q | cases e
    simpa [tlt] using d
/-! ### data of one shape -/
mutual
def ordT : D → D → Bool
  | .int _, .int _ => true
  | .str _, .str _ => true
  | .tup xs, .tup ys => ordTs xs ys
  | _, _ => false
def ordTs : List D → List D → Bool
  | x :: xs, y :: ys => ordT x y && ordTs xs ys
  | _, _ => true
end
def tle (a b : D) : Bool := !tlt b a
theorem tle_trans (a b c : D) (h1 : tle a b = true) (h2 : tle b c = true) : tle a c = true := by
  have O := tlt_swo (fun d : D => d)
  simp only [tle, Bool.not_eq_true'] at h1 h2 ⊢
  exact O.tr a b c h1 h2
theorem tle_total (a b : D) : (tle a b || tle b a) = true := by
  have O := tlt_swo (fun d : D => d)
  simp only [tle, Bool.or_eq_true, Bool.not_eq_true']
  cases h : tlt b a with
  | false => exact .inl rfl
  | true => exact .inr (O.asym b a h)
/-- sorted -/
def dsort (l : List D) : List D := l.mergeSort tle
theorem dsort_perm (l : List D) : (dsort l).Perm l := List.mergeSort_perm l tle
theorem dsort_sorted (l : List D) : (dsort l).Pairwise fun a b => tle a b = true := List.pairwise_mergeSort (fun a b c => tle_trans a b c) tle_total l
theorem dsort_len (l : List D) : (dsort l).length = l.length := (dsort_perm l).length_eq
theorem dsort_mem {l : List D} {d : D} : d ∈ dsort l ↔ d ∈ l := (dsort_perm l).mem_iff
/-- what sorted takes: tuples with an item, or none is a tuple -/
def fstOk (l : List D) : Prop := (∀ a ∈ l, ∃ x r, a = .tup (x :: r)) ∨ ∀ a ∈ l, ∀ r, a ≠ .tup r
end SD

set_option Elab.async false
set_option linter.all false
set_option maxRecDepth 100000
set_option maxHeartbeats 4000000
namespace SD
open PySem PySem.Spec PyProof.Rows L2

/-! ## what the operators do with plain data -/
/-- sizes that the machine takes -/
abbrev Sz (n : Nat) : Prop := n ≤ 16777216
mutual
/-- data that == looks through, at most n deep -/
def okD : D → Nat → Bool
  | .non, _ => true
  | .bl _, _ => true
  | .int _, _ => true
  | .str x, _ => x.all (· < 0x110000)
  | .tup l, n => (match n with | 0 => false | k + 1 => okDs l k)
  | .lst l, n => (match n with | 0 => false | k + 1 => okDs l k)
  | _, _ => false
def okDs : List D → Nat → Bool
  | [], _ => true
  | d :: ds, n => okD d n && okDs ds n
end
mutual
/-- a == b -/
def deq : D → D → Bool
  | .non, .non => true
  | .bl a, .bl b => a == b
  | .bl a, .int j => (if a then 1 else 0) == j
  | .int i, .bl b => i == (if b then 1 else 0)
  | .int i, .int j => i == j
  | .str x, .str y => x == y
  | .lst xs, .lst ys => deqs xs ys
  | .tup xs, .tup ys => deqs xs ys
  | _, _ => false
def deqs : List D → List D → Bool
  | [], [] => true
  | x :: xs, y :: ys => deq x y && deqs xs ys
  | _, _ => false
end
/-- order of texts -/
def sLt : List Nat → List Nat → Bool
  | [], [] => false
  | [], _ :: _ => true
  | _ :: _, [] => false
  | x :: xs, y :: ys => if x = y then sLt xs ys else decide (x < y)
mutual
/-- may a and b be ordered: ints, texts, tuples of such (n deep) -/
def cmpB : D → D → Nat → Bool
  | .int _, .int _, _ => true
  | .str _, .str _, _ => true
  | .tup xs, .tup ys, n => (match n with | 0 => false | k + 1 => cmpBs xs ys k)
  | _, _, _ => false
def cmpBs : List D → List D → Nat → Bool
  | x :: xs, y :: ys, n => okD x 8 && okD y 8 && (deq x y || cmpB x y n) && cmpBs xs ys n
  | _, _, _ => true
end
mutual
/-- a < b -/
def dlt : D → D → Bool
  | .int i, .int j => decide (i < j)
  | .str x, .str y => sLt x y
  | .tup xs, .tup ys => dlts xs ys
  | _, _ => false
def dlts : List D → List D → Bool
  | [], [] => false
  | [], _ :: _ => true
  | _ :: _, [] => false
  | x :: xs, y :: ys => if deq x y then dlts xs ys else dlt x y
end
def dTruth : D → Option Bool
  | .non => some false
  | .bl b => some b
  | .int i => some (i != 0)
  | .str x => if x.length ≤ 16777216 then some (!x.isEmpty) else none
  | .tup l => some (!l.isEmpty)
  | .lst l => some (!l.isEmpty)
  | _ => none
/-- flat values: nothing in them can be changed -/
def flatD : D → Bool
  | .non => true | .bl _ => true | .int _ => true | .str _ => true | .ty _ => true | .glb _ => true
  | _ => false
def dCut {α : Type} (l : List α) (lo hi : Option Int) : List α := (l.drop (HT.sIx l.length 0 lo)).take (HT.sIx l.length l.length hi - HT.sIx l.length 0 lo)
def toK : D → Option Key
  | .int i => some (.inl i)
  | .str x => some (.inr ⟨x.toArray⟩)
  | _ => none
def toKl : List D → Option (List Key)
  | [] => some []
  | d :: ds => match toK d, toKl ds with
    | some k, some ks => some (k :: ks)
    | _, _ => none
def toKs : D → Option (List Key)
  | .tup l => if soft l = true then toKl l else none
  | _ => none
/-- a key that stands keeps its place -/
def dPut (l : List (D × D)) (k v : D) : List (D × D) :=
  if (l.any fun p => deq p.1 k) = true then l.map fun p => if deq p.1 k = true then (p.1, v) else p else l ++ [(k, v)]
def dGet : List (D × D) → D → Option D
  | [], _ => none
  | (a, b) :: r, k => if deq a k then some b else dGet r k
def dDel : List (D × D) → D → List (D × D)
  | [], _ => []
  | (a, b) :: r, k => if deq a k then r else (a, b) :: dDel r k
def tyN : D → Option String
  | .non => some "NoneType"
  | .bl _ => some "bool"
  | .int _ => some "int"
  | .str _ => some "str"
  | .tup _ => some "tuple"
  | .ktup _ => some "tuple"
  | .lst _ => some "list"
  | .dct _ _ => some "dict"
  | _ => none
/-- the type of what has methods that the rules know -/
def tyM : D → Option String
  | .str _ => some "str"
  | .lst _ => some "list"
  | .dct _ _ => some "dict"
  | .tup l => if soft l = true then none else some "tuple"
  | _ => none
def isClo : D → Bool
  | .own _ => true
  | .clo _ _ => true
  | _ => false
def isOwnD : D → Bool
  | .own _ => true
  | _ => false
def isDT : D → Bool
  | .dct true _ => true
  | _ => false
/-- data that no slot has as its own -/
def noX : D → Bool
  | .lst _ => false
  | .dct _ _ => false
  | .own _ => false
  | .clo _ _ => false
  | _ => true
def isNon : D → Bool
  | .non => true
  | _ => false
inductive Ty where
  | int | bool | str | tuple | list | dict | cls (c : Nat)
  deriving DecidableEq
def Ty.nm : Ty → String
  | .int => "int" | .bool => "bool" | .str => "str" | .tuple => "tuple" | .list => "list" | .dict => "dict" | .cls _ => ""
def isTy : Ty → D → Bool
  | .int, .int _ => true
  | .int, .bl _ => true
  | .bool, .bl _ => true
  | .str, .str _ => true
  | .tuple, .tup _ => true
  | .tuple, .ktup _ => true
  | .list, .lst _ => true
  | .list, .well => true
  | .dict, .dct _ _ => true
  | .cls c, .obj d _ => c == d
  | _, _ => false
def allSome {α : Type} : List (Option α) → Option (List α)
  | [] => some []
  | none :: _ => none
  | some a :: r => (allSome r).map (a :: ·)
def unB : D → Option Bool
  | .bl b => some b
  | _ => none
def unI : D → Option Int
  | .int i => some i
  | _ => none
def unS : D → Option (List Nat)
  | .str x => some x
  | _ => none

/-- what a dict holds at a key of its kind -/
def dLook : D → D → Option (Option D)
  | .dct false l, k => if (toK k).isSome then some (dGet l k) else none
  | .dct true l, k => if (toKs k).isSome then some (dGet l k) else none
  | _, _ => none
def flatK : D → Bool
  | .non => true | .bl _ => true | .int _ => true | .str _ => true
  | _ => false
inductive Op where
  | add | sub | mul | fdiv | mod | pow | neg
  | eq | ne | lt | le | gt | ge | isN | isnN | isB | isnB | inn | nin
  | len | abs | int_ | bool_ | isi (T : Ty) | sorted | list_ | tuple_ | dict_ | sum | max1 | min1 | max2 | min2 | all_ | any_
  | idx | sl (lo hi : Bool) | get1 | get2 | vals | fld (i : Nat) | split | join | starts | index | count | items | divmod | lvals | sitems | sset | tvals | sll (lo hi : Bool)
  deriving DecidableEq

def isIn (x : D) : D → Option Bool
  | .lst l => if okD x 20 && okDs l 20 then some (l.any fun z => deq z x) else none
  | .tup l => if flatK x && l.all flatK then some (l.any fun z => deq z x) else none
  | .ktup l => if flatK x && l.all flatK then some (l.any fun z => deq z x) else none
  | .str z => match x with
    | .str [c] => some (decide (c ∈ z))
    | _ => none
  | .dct tk l => (dLook (.dct tk l) x).map (·.isSome)
  | _ => none
def wAdd : List D → (D → Prop) → Prop
  | [.int i, .int j], Q => Q (.int (i + j))
  | [.str x, .str y], Q => Sz (x.length + y.length) ∧ Q (.str (x ++ y))
  | [.lst x, .lst y], Q => Sz (x.length + y.length) ∧ Q (.lst (x ++ y))
  | [.tup x, .tup y], Q => Sz (x.length + y.length) ∧ Q (.tup (x ++ y))
  | _, _ => False
def wSub : List D → (D → Prop) → Prop
  | [.int i, .int j], Q => Q (.int (i - j))
  | _, _ => False
def wMul : List D → (D → Prop) → Prop
  | [.int i, .int j], Q => CMul i j ∧ Q (.int (i * j))
  | [.lst l, .int k], Q => (-(2 ^ 63) ≤ k ∧ k < 2 ^ 63 ∧ Sz (l.length * k.toNat)) ∧ Q (.lst (List.replicate k.toNat l).flatten)
  | [.tup l, .int k], Q => (l ≠ [] ∧ 2 ≤ k ∧ k ≤ 1000 ∧ l.length ≤ 1000) ∧ Q (.tup (List.replicate k.toNat l).flatten)
  | [.str x, .int k], Q => (x.length ≤ 16 ∧ 1 ≤ k ∧ k ≤ 1000) ∧ Q (.str (List.replicate k.toNat x).flatten)
  | _, _ => False
def wFdiv : List D → (D → Prop) → Prop
  | [.int i, .int j], Q => (0 < j ∧ j < 1073741824) ∧ Q (.int (i / j))
  | _, _ => False
def wMod : List D → (D → Prop) → Prop
  | [.int i, .int j], Q => 0 < j ∧ Q (.int (i % j))
  | _, _ => False
def wPow : List D → (D → Prop) → Prop
  | [.int i, .int j], Q => CPow i j ∧ Q (.int (i ^ j.toNat))
  | _, _ => False
def wNeg : List D → (D → Prop) → Prop
  | [.int i], Q => Q (.int (-i))
  | _, _ => False
def wEq : List D → (D → Prop) → Prop
  | [a, b], Q => okD a 20 = true ∧ okD b 20 = true ∧ Q (.bl (deq a b))
  | _, _ => False
def wNe : List D → (D → Prop) → Prop
  | [a, b], Q => okD a 20 = true ∧ okD b 20 = true ∧ Q (.bl (!deq a b))
  | _, _ => False
def ordB (a b : D) : Bool := okD a 20 && okD b 20 && cmpB a b 4
def wLt : List D → (D → Prop) → Prop
  | [a, b], Q => ordB a b = true ∧ Q (.bl (dlt a b))
  | _, _ => False
def wGt : List D → (D → Prop) → Prop
  | [a, b], Q => ordB a b = true ∧ Q (.bl (dlt b a))
  | _, _ => False
def wLe : List D → (D → Prop) → Prop
  | [a, b], Q => ordB a b = true ∧ Q (.bl (!dlt b a))
  | _, _ => False
def wGe : List D → (D → Prop) → Prop
  | [a, b], Q => ordB a b = true ∧ Q (.bl (!dlt a b))
  | _, _ => False
def wIsn : List D → (D → Prop) → Prop
  | [d], Q => isClo d = false ∧ Q (.bl (isNon d))
  | _, _ => False
def wIsnn : List D → (D → Prop) → Prop
  | [d], Q => isClo d = false ∧ Q (.bl (!isNon d))
  | _, _ => False
def wIsb : List D → (D → Prop) → Prop
  | [.bl a, .bl b], Q => Q (.bl (decide (a = b)))
  | _, _ => False
def wIsnb : List D → (D → Prop) → Prop
  | [.bl a, .bl b], Q => Q (.bl (!decide (a = b)))
  | _, _ => False
def wInn : List D → (D → Prop) → Prop
  | [x, c], Q => ∃ b, isIn x c = some b ∧ Q (.bl b)
  | _, _ => False
def wNin : List D → (D → Prop) → Prop
  | [x, c], Q => ∃ b, isIn x c = some b ∧ Q (.bl (!b))
  | _, _ => False
def wLen : List D → (D → Prop) → Prop
  | [.lst l], Q => Q (.int l.length)
  | [.tup l], Q => Q (.int l.length)
  | [.ktup l], Q => Q (.int l.length)
  | [.rl l], Q => Q (.int l.length)
  | [.str l], Q => Sz l.length ∧ Q (.int l.length)
  | [.dct _ l], Q => Q (.int l.length)
  | _, _ => False
def wAbs : List D → (D → Prop) → Prop
  | [.int i], Q => Q (.int (if i < 0 then -i else i))
  | _, _ => False
def wInt : List D → (D → Prop) → Prop
  | [.int i], Q => Q (.int i)
  | [.bl b], Q => Q (.int (if b then 1 else 0))
  | _, _ => False
def wBool : List D → (D → Prop) → Prop
  | [.bl b], Q => Q (.bl b)
  | _, _ => False
def mTy : Op → String
  | .split => "str" | .starts => "str" | .join => "str"
  | .index => "list" | .count => "tuple"
  | _ => "dict"
def wIsi (T : Ty) : List D → (D → Prop) → Prop
  | [d], Q => (tyN d).isSome = true ∧ isDT d = false ∧ Q (.bl (isTy T d))
  | _, _ => False
/-- what list(..) and sorted(..) take -/
def seqOf : D → Option (List D)
  | .lst l => some l
  | .tup l => some l
  | .dct _ l => some (l.map (·.1))
  | _ => none
def wList : List D → (D → Prop) → Prop
  | [d], Q => ∃ l, seqOf d = some l ∧ Q (.lst l)
  | _, _ => False
def wTuple : List D → (D → Prop) → Prop
  | [.lst l], Q => Q (.tup l)
  | [.tup l], Q => Q (.tup l)
  | _, _ => False
def wSum : List D → (D → Prop) → Prop
  | [.lst l], Q => ∃ ns, allSome (l.map unI) = some ns ∧ Q (.int ns.sum)
  | _, _ => False
def wMax1 : List D → (D → Prop) → Prop
  | [.lst l], Q => ∃ ns, allSome (l.map unI) = some ns ∧ ns ≠ [] ∧ ∀ m, m ∈ ns → (∀ y, y ∈ ns → y ≤ m) → Q (.int m)
  | _, _ => False
def wMin1 : List D → (D → Prop) → Prop
  | [.lst l], Q => ∃ ns, allSome (l.map unI) = some ns ∧ ns ≠ [] ∧ ∀ m, m ∈ ns → (∀ y, y ∈ ns → m ≤ y) → Q (.int m)
  | _, _ => False
def wMax2 : List D → (D → Prop) → Prop
  | [.int i, .int j], Q => Q (.int (if j > i then j else i))
  | _, _ => False
def wMin2 : List D → (D → Prop) → Prop
  | [.int i, .int j], Q => Q (.int (if j < i then j else i))
  | _, _ => False
def wAll : List D → (D → Prop) → Prop
  | [.lst l], Q => ∃ bs, allSome (l.map unB) = some bs ∧ Q (.bl (bs.all id))
  | _, _ => False
def wAny : List D → (D → Prop) → Prop
  | [.lst l], Q => ∃ bs, allSome (l.map unB) = some bs ∧ Q (.bl (bs.any id))
  | _, _ => False
def wIdx : List D → (D → Prop) → Prop
  | [.lst l, .int i], Q => ∃ d, atI l i = some d ∧ Q d
  | [.tup l, .int i], Q => ∃ d, atI l i = some d ∧ Q d
  | [.ktup l, .int i], Q => ∃ d, atI l i = some d ∧ Q d
  | [.rl l, .int i], Q => ∃ d, atI l i = some d ∧ Q d
  | [.str l, .int i], Q => Sz l.length ∧ ∃ c, atI l i = some c ∧ Q (.str [c])
  | [.dct tk l, k], Q => ∃ d, dLook (.dct tk l) k = some (some d) ∧ Q d
  | _, _ => False
def optI : Bool → List D → Option (Option Int × List D)
  | false, r => some (none, r)
  | true, .int i :: r => some (some i, r)
  | _, _ => none
def slW : D → Option Int → Option Int → (D → Prop) → Prop
  | .lst l, lo, hi, Q => Q (.lst (dCut l lo hi))
  | .rl l, lo, hi, Q => Q (.lst (dCut l lo hi))
  | .tup l, lo, hi, Q => Q (.tup (dCut l lo hi))
  | .str l, lo, hi, Q => Sz l.length ∧ Q (.str (dCut l lo hi))
  | _, _, _, _ => False
def wSl (lo hi : Bool) : List D → (D → Prop) → Prop
  | d :: r, Q => match optI lo r with
    | some (a, r1) => match optI hi r1 with
      | some (b, []) => slW d a b Q
      | _ => False
    | _ => False
  | _, _ => False
def isLs : D → Bool
  | .lst _ => true
  | .rl _ => true
  | _ => false
/-- a slice of a list, as a new list of its own -/
def wSll (lo hi : Bool) : List D → (D → Prop) → Prop
  | d :: r, Q => isLs d = true ∧ wSl lo hi (d :: r) Q
  | [], _ => False
def wSplit : List D → (D → Prop) → Prop
  | [.str a, .str b], Q => (b ≠ [] ∧ Sz (a.length + 2)) ∧ Q (.lst ((Txt.split ⟨a.toArray⟩ ⟨b.toArray⟩).map fun s => .str s.cps.toList))
  | _, _ => False
def wVals : List D → (D → Prop) → Prop
  | [.dct tk l], Q => Q (.lst (l.map (·.2)))
  | _, _ => False
def wItems : List D → (D → Prop) → Prop
  | [.dct false l], Q => Q (.lst (l.map fun p => .tup [p.1, p.2]))
  | _, _ => False
def wGet1 : List D → (D → Prop) → Prop
  | [.dct tk l, k], Q => ∃ o, dLook (.dct tk l) k = some o ∧ Q (o.getD .non)
  | _, _ => False
def wGet2 : List D → (D → Prop) → Prop
  | [.dct tk l, k, d], Q => noX d = true ∧ ∃ o, dLook (.dct tk l) k = some o ∧ Q (o.getD d)
  | _, _ => False
def wFld (i : Nat) : List D → (D → Prop) → Prop
  | [.obj _ fs], Q => ∃ d, fs[i]? = some d ∧ Q d
  | _, _ => False
def wDivmod : List D → (D → Prop) → Prop
  | [.int i, .int j], Q => (0 < j ∧ j < 1073741824) ∧ Q (.ktup [.int (i / j), .int (i % j)])
  | _, _ => False
/-- where it stands first -/
def wIndex : List D → (D → Prop) → Prop
  | [.lst l, x], Q => flatK x = true ∧ l.all flatK = true ∧ ∃ j, l.findIdx? (fun z => deq z x) = some j ∧ Q (.int (j : Nat))
  | _, _ => False
def wCount : List D → (D → Prop) → Prop
  | [.tup l, .int i], Q => ∃ ns : List Int, l = ns.map .int ∧ Q (.int (ns.count i : Nat))
  | _, _ => False
def wStarts : List D → (D → Prop) → Prop
  | [.str a, .str b], Q => Q (.bl (Txt.startswith ⟨a.toArray⟩ ⟨b.toArray⟩))
  | _, _ => False
def wJoin : List D → (D → Prop) → Prop
  | [.str a, .lst l], Q => ∃ ys, allSome (l.map unS) = some ys ∧ (ys.map (·.length)).sum + ys.length * a.length ≤ 16777216 ∧ Q (.str (Txt.join ⟨a.toArray⟩ (ys.map fun y => ⟨y.toArray⟩)).cps.toList)
  | _, _ => False
def wSorted : List D → (D → Prop) → Prop
  | [d], Q => ∃ l, seqOf d = some l ∧ (∀ a ∈ l, ∀ b ∈ l, ordT a b = true) ∧ okDs l 8 = true ∧ fstOk l ∧ Sz l.length ∧ Q (.lst (dsort l))
  | _, _ => False
/-- list(d.values()), sorted(d.items()) -/
def wLvals : List D → (D → Prop) → Prop
  | [.dct false l], Q => Q (.lst (l.map (·.2)))
  | _, _ => False
def wTvals : List D → (D → Prop) → Prop
  | [.dct false l], Q => Q (.tup (l.map (·.2)))
  | _, _ => False
def pairD (p : D × D) : D := .tup [p.1, p.2]
def isStrD : D → Bool
  | .str _ => true
  | _ => false
def wSitems : List D → (D → Prop) → Prop
  | [.dct false l], Q => (∀ p ∈ l, isStrD p.1 = true) ∧ okDs (l.map pairD) 8 = true ∧ (∀ a ∈ l.map pairD, ∀ b ∈ l.map pairD, ordT a b = true) ∧ fstOk (l.map pairD) ∧ Q (.lst (dsort (l.map pairD)))
  | _, _ => False
/-- sorted(set(..)) of a list of ints -/
def wSset : List D → (D → Prop) → Prop
  | [.lst l], Q => ∃ ns : List Int, l = ns.map .int ∧ ns.length < 63 ∧ ∀ ms : List Int, ms.Pairwise (· < ·) → (∀ k, k ∈ ms ↔ k ∈ ns) → Q (.lst (ms.map .int))
  | _, _ => False
/-- the pairs that dict(..) takes -/
def pairsL : List D → Option (List (D × D))
  | [] => some []
  | .tup [k, v] :: r => (pairsL r).map ((k, v) :: ·)
  | _ => none
def putAll (acc : List (D × D)) (l : List (D × D)) : List (D × D) := l.foldl (fun a p => dPut a p.1 p.2) acc
def wDict : List D → (D → Prop) → Prop
  | [.lst l], Q => ∃ ps, pairsL l = some ps ∧ (∀ p ∈ ps, (toK p.1).isSome = true) ∧ Q (.dct false (putAll [] ps))
  | [.tup l], Q => ∃ ps, pairsL l = some ps ∧ (∀ p ∈ ps, (toK p.1).isSome = true) ∧ Sz l.length ∧ Q (.dct false (putAll [] ps))
  | [.dct false l], Q => Q (.dct false l)
  | _, _ => False
/-- what the operator gives: every value that it may give has to be wanted -/
def opW (o : Op) (ds : List D) (Q : D → Prop) : Prop :=
  match o with
  | .add => wAdd ds Q
  | .sub => wSub ds Q
  | .mul => wMul ds Q
  | .fdiv => wFdiv ds Q
  | .mod => wMod ds Q
  | .pow => wPow ds Q
  | .neg => wNeg ds Q
  | .eq => wEq ds Q
  | .ne => wNe ds Q
  | .lt => wLt ds Q
  | .gt => wGt ds Q
  | .le => wLe ds Q
  | .ge => wGe ds Q
  | .isN => wIsn ds Q
  | .isnN => wIsnn ds Q
  | .isB => wIsb ds Q
  | .isnB => wIsnb ds Q
  | .inn => wInn ds Q
  | .nin => wNin ds Q
  | .len => wLen ds Q
  | .abs => wAbs ds Q
  | .int_ => wInt ds Q
  | .bool_ => wBool ds Q
  | .isi T => wIsi T ds Q
  | .list_ => wList ds Q
  | .tuple_ => wTuple ds Q
  | .sum => wSum ds Q
  | .max1 => wMax1 ds Q
  | .min1 => wMin1 ds Q
  | .max2 => wMax2 ds Q
  | .min2 => wMin2 ds Q
  | .all_ => wAll ds Q
  | .any_ => wAny ds Q
  | .idx => wIdx ds Q
  | .sl lo hi => wSl lo hi ds Q
  | .split => wSplit ds Q
  | .vals => wVals ds Q
  | .items => wItems ds Q
  | .get1 => wGet1 ds Q
  | .get2 => wGet2 ds Q
  | .fld i => wFld i ds Q
  | .divmod => wDivmod ds Q
  | .starts => wStarts ds Q
  | .index => wIndex ds Q
  | .count => wCount ds Q
  | .lvals => wLvals ds Q
  | .sitems => wSitems ds Q
  | .tvals => wTvals ds Q
  | .sll lo hi => wSll lo hi ds Q
  | .sset => wSset ds Q
  | .sorted => wSorted ds Q
  | .dict_ => wDict ds Q
  | .join => wJoin ds Q

/-! ## the small language -/
structure ExV where
  c : Nat
  fs : List D
abbrev Contract := List D → (D → Prop) → (ExV → Prop) → Prop
/-- a def of the program: its name, its parameters, the level it is called at, what it keeps -/
structure GD where
  name : Str
  ps : List Str
  lvl : Nat
  C : Contract
  kws : List (List Str × List Nat) := []
/-- what is known of a slot; true: the object is the slot's own, nothing else holds it -/
abbrev Slt := Option (Bool × D)
abbrev DEnv := List Slt
/-- a def in a def: its parameters, the names that it captures, their slots in its maker, what it keeps (of its arguments and of what it captured) -/
structure CD where
  ps : List Str
  fr : List Str
  js : List Nat
  lvl : Nat
  C : Contract
  pos : Nat × Nat := (0, 0)
/-- the tables of one law: the module's constants that are read, the defs that are called, the defs in defs; own: those that the def at hand makes -/
structure Tb where
  con : Nat → D
  cnm : Nat → Str
  gd : Nat → GD
  hc : Nat → Bool
  hs : Nat → Bool
  cc : Nat → CD
  hcc : Nat → Bool
  own : Nat → Bool
  hp : Nat → Nat → Bool := fun _ _ => false
  hl : Nat → Bool := fun _ => false
  cln : Nat → Str := fun _ => Str.empty
  fl : Nat → List Str := fun _ => []
inductive IT where
  | nm (i : Nat)
  | tp (l : List IT)
inductive IK where
  | it | range | enum | zip | rev | keys | vals | items
  deriving DecidableEq
inductive MOp where
  | append | pop0 | pop1 | extend | insert | setdef
  deriving DecidableEq
inductive IE where
  | var (i : Nat) | bor (i : Nat) | lit (d : D) | con (k : Nat)
  | op (o : Op) (args : List IE)
  | tup (l : List IE) | lst (l : List IE)
  | and (l : List IE) | or (l : List IE) | not (a : IE)
  | ite (c a b : IE)
  | chain (o p : Op) (a b c : IE)
  | call (k : Nat) (args : List IE)
  | callv (i : Nat) (args : List IE)
  | mut (o : MOp) (i : Nat) (args : List IE)
  | meth (o : Op) (r : IE) (args : List IE)
  | comp (vs : List Nat) (t : IT) (k : IK) (src : List IE) (cs : List IE) (e : IE)
  | dcomp (tk : Bool) (vs : List Nat) (t : IT) (k : IK) (src : List IE) (cs : List IE) (ke ve : IE)
  | dnew (tk : Bool)
  | wget (i : Nat) (c : Nat)
  | bot | lam (c : Nat)
  | callk (k : Nat) (ks : List Str) (p : List Nat) (args : List IE)
  | callc (k : Nat) (args : List IE) (c : Nat)
  | callp (k : Nat) (args : List IE)
  | prop (c n : Nat) (r : IE) | isc (c : Nat) (r : IE) | fld (c i : Nat) (r : IE)

def isBor : IE → Bool
  | .bor _ => true
  | _ => false
mutual
def asgT : IT → D → DEnv → Option DEnv
  | .nm i, d, env => some (env.set i (some (false, d)))
  | .tp l, .tup ds, env => asgTs l ds env
  | .tp l, .lst ds, env => asgTs l ds env
  | .tp l, .ktup ds, env => asgTs l ds env
  | _, _, _ => none
def asgTs : List IT → List D → DEnv → Option DEnv
  | [], [], env => some env
  | t :: ts, d :: ds, env => (asgT t d env).bind fun env1 => asgTs ts ds env1
  | _, _, _ => none
end
/-- what is walked -/
def iterW : IK → List D → Option (List D)
  | .it, [.lst l] => some l
  | .it, [.tup l] => some l
  | .it, [.ktup l] => some l
  | .it, [.str l] => some (l.map fun c => .str [c])
  | .it, [.dct _ l] => some (l.map (·.1))
  | .keys, [.dct false l] => some (l.map (·.1))
  | .vals, [.dct false l] => some (l.map (·.2))
  | .items, [.dct false l] => some (l.map fun p => .ktup [p.1, p.2])
  | .range, [.int n] => if -(2 ^ 62) ≤ n ∧ n < 2 ^ 62 then some ((List.range n.toNat).map fun (k : Nat) => .int (k : Int)) else none
  | .range, [.int a, .int b] => if -(2 ^ 62) ≤ a ∧ a < 2 ^ 62 ∧ -(2 ^ 62) ≤ b ∧ b < 2 ^ 62 then some ((List.range (b - a).toNat).map fun (k : Nat) => .int (a + (k : Int))) else none
  | .enum, [.lst l] => some (l.zipIdx.map fun p => .ktup [.int p.2, p.1])
  | .enum, [.tup l] => some (l.zipIdx.map fun p => .ktup [.int p.2, p.1])
  | .zip, [.lst a, .lst b] => some ((a.zip b).map fun p => .ktup [p.1, p.2])
  | .zip, [.tup a, .tup b] => some ((a.zip b).map fun p => .ktup [p.1, p.2])
  | .rev, [.lst l] => some l.reverse
  | _, _ => none
def mvTy : MOp → String
  | .setdef => "dict"
  | _ => "list"
def mutW : MOp → D → List D → (D → D → Prop) → Prop
  | .append, .lst l, [d], Q => l.length < 16777216 ∧ Q .non (.lst (l ++ [d]))
  | .extend, .lst l, [.lst r], Q => Sz (l.length + r.length) ∧ Q .non (.lst (l ++ r))
  | .insert, .lst l, [.int i, d], Q => (l.length < 16777216 ∧ 0 ≤ i ∧ i < 2 ^ 63) ∧ Q .non (.lst (l.take i.toNat ++ [d] ++ l.drop i.toNat))
  | .pop0, .lst l, [], Q => ∃ d, l[l.length - 1]? = some d ∧ Q d (.lst l.dropLast)
  | .pop1, .lst l, [.int i], Q => -(2 ^ 63) ≤ i ∧ i < 2 ^ 63 ∧ ∃ k d, ixN l.length i = some k ∧ l[k]? = some d ∧ Q d (.lst (l.eraseIdx k))
  | _, _, _, _ => False
/-- the slots of a block's own names: nothing is known of them -/
def wipeE (env : DEnv) : List Nat → DEnv
  | [] => env
  | v :: vs => (wipeE env vs).set v none
/-- behind a block: the block's own names are as they were -/
def backE (old new : DEnv) : List Nat → DEnv
  | [] => new
  | v :: vs => (backE old new vs).set v (old.getD v none)
def isOwn : Option Slt → Bool
  | some (some (true, _)) => true
  | _ => false
def noOwn (env : DEnv) (vs : List Nat) : Bool := vs.all fun v => !isOwn env[v]?
def noEx : ExV → DEnv → Prop := fun _ _ => False
def keyOk (tk : Bool) (k : D) : Bool := if tk then (toKs k).isSome else (toK k).isSome
def dcompL (step : D → DEnv → (Option (D × D) → DEnv → Prop) → Prop) (done : List (D × D) → DEnv → Prop) (tk : Bool) : List D → List (D × D) → DEnv → Prop
  | [], acc, env => done acc env
  | x :: xs, acc, env => step x env fun add env' => match add with
    | none => dcompL step done tk xs acc env'
    | some (k, v) => keyOk tk k = true ∧ acc.length < 16777216 ∧ dcompL step done tk xs (dPut acc k v) env'
/-- from item to item -/
def forL (step : D → DEnv → (DEnv → Prop) → Prop) (done : DEnv → Prop) : List D → DEnv → Prop
  | [], env => done env
  | x :: xs, env => step x env fun env' => forL step done xs env'
def compL (step : D → DEnv → (List D → DEnv → Prop) → Prop) (done : List D → DEnv → Prop) : List D → List D → DEnv → Prop
  | [], acc, env => done acc env
  | x :: xs, acc, env => step x env fun add env' => (acc ++ add).length ≤ 16777216 ∧ compL step done xs (acc ++ add) env'
/-- borrowed arguments are read when all stand -/
def fetch : List IE → List D → DEnv → (List D → Prop) → Prop
  | [], [], _, Q => Q []
  | .bor i :: es, ds, env, Q => ∃ d, env[i]? = some (some (true, d)) ∧ fetch es ds env fun r => Q (d :: r)
  | _ :: es, d :: ds, env, Q => fetch es ds env fun r => Q (d :: r)
  | _, _, _, _ => False
def isDc : D → Bool
  | .dct _ _ => true
  | _ => false
/-- a dict that is a slot's own is not passed on -/
def borOk : List IE → List D → Bool
  | [], _ => true
  | _ :: _, [] => true
  | i :: is, d :: ds => !(isBor i && isDc d) && !isClo d && borOk is ds
/-- a def of the frame's own, handed over last -/
def splitOwn (c : Nat) : List D → Option (List D)
  | [] => none
  | [.own n] => if n = c then some [] else none
  | d :: ds => if isClo d then none else (splitOwn c ds).map (d :: ·)
def slotsD (env : DEnv) : List Nat → Option (List D)
  | [] => some []
  | j :: js => match env[j]? with
    | some (some (false, d)) => if isClo d then none else (slotsD env js).map (d :: ·)
    | _ => none
def permD (p : List Nat) (ds : List D) : List D := p.map fun i => ds.getD i .non
def okT (ds : List D) : Prop := ds.all (fun d => !isClo d) = true
def varW (i : Nat) (env : DEnv) (Q : D → DEnv → Prop) : Prop :=
  match env[i]? with
  | some (some (false, d)) => Q d env
  | some (some (true, d)) => Q d (env.set i (some (false, d)))
  | _ => False
def vOk (t : Tb) : D → Prop
  | .glb n => t.hs n = true
  | .clo c _ => t.hcc c = true
  | _ => False
/-- a call of what is handed in: a def of the module, a def in a def -/
def callvW (t : Tb) (d0 : D) (args : List IE) (ds : List D) (Q : D → Prop) (E : ExV → Prop) : Prop := match d0 with
  | .glb n => ds.length = (t.gd n).ps.length ∧ borOk args ds = true ∧ (t.gd n).C ds (fun d => (args.any isBor = true → flatD d = true) ∧ Q d) (fun x => (args.any isBor = true → x.fs.all flatD = true) ∧ E x)
  | .clo c ws => ds.length = (t.cc c).ps.length ∧ args.any isBor = false ∧ ds.all (fun d => !isClo d) = true ∧ (t.cc c).C (ds ++ ws) Q E
  | _ => False
section
variable (t : Tb)
mutual
def wpE (Ex : ExV → DEnv → Prop) : IE → DEnv → (D → DEnv → Prop) → Prop
  | .var i, env, Q => varW i env Q
  | .bor _, _, _ => False
  | .lit d, env, Q => Q d env
  | .con k, env, Q => Q (t.con k) env
  | .op o args, env, Q => wpL Ex args env fun ds env' => opW o ds fun d => Q d env'
  | .tup l, env, Q => wpL Ex l env fun ds env' => okT ds ∧ Q (.tup ds) env'
  | .lst l, env, Q => wpL Ex l env fun ds env' => okT ds ∧ Q (.lst ds) env'
  | .and l, env, Q => wpAnd Ex l env Q
  | .or l, env, Q => wpOr Ex l env Q
  | .not a, env, Q => wpE Ex a env fun d env' => ∃ b, dTruth d = some b ∧ Q (.bl (!b)) env'
  | .ite c a b, env, Q => wpE Ex c env fun d env' => ∃ t, dTruth d = some t ∧ if t = true then wpE Ex a env' Q else wpE Ex b env' Q
  | .chain o p a b c, env, Q => wpE Ex a env fun x env1 => wpE Ex b env1 fun y env2 => opW o [x, y] fun r => ∃ t, unB r = some t ∧ if t = true then wpE Ex c env2 (fun z env3 => opW p [y, z] fun r2 => Q r2 env3) else Q (.bl false) env2
  | .call k args, env, Q => wpL Ex args env fun ds env' => ds.length = (t.gd k).ps.length ∧ borOk args ds = true ∧ (t.gd k).C ds (fun d => (args.any isBor = true → flatD d = true) ∧ Q d env') (fun x => (args.any isBor = true → x.fs.all flatD = true) ∧ Ex x env')
  | .callv i args, env, Q => ∃ d0, env[i]? = some (some (false, d0)) ∧ vOk t d0 ∧ wpL Ex args env fun ds env' => callvW t d0 args ds (fun d => Q d env') (fun x => Ex x env')
  | .bot, _, _ => False
  | .lam c, env, Q => Q (.own c) env
  | .callk k ks p args, env, Q => wpL Ex args env fun ds env' => ds.length = (t.gd k).ps.length ∧ args.any isBor = false ∧ borOk args ds = true ∧ (t.gd k).C (permD p ds) (fun d => Q d env') (fun x => Ex x env')
  | .callp k args, env, Q => wpL Ex args env fun ds env' => ds.length = (t.gd k).ps.length ∧ args.any isBor = false ∧ ds.all (fun d => !isOwnD d) = true ∧ (t.gd k).C ds (fun d => Q d env') (fun x => Ex x env')
  | .callc k args c, env, Q => wpL Ex args env fun ds env' => ∃ ds0, splitOwn c ds = some ds0 ∧ ∃ ws, slotsD env' (t.cc c).js = some ws ∧ ds.length = (t.gd k).ps.length ∧ args.any isBor = false ∧ (t.gd k).C (ds0 ++ [.clo c ws]) (fun d => Q d env') (fun x => Ex x env')
  | .mut o i args, env, Q => (∃ d, env[i]? = some (some (true, d)) ∧ tyN d = some (mvTy o)) ∧ wpL Ex args env fun ds env' => okT ds ∧ ∃ d, env'[i]? = some (some (true, d)) ∧ mutW o d ds fun r d' => Q r (env'.set i (some (true, d')))
  | .meth o (.bor i) args, env, Q => (∃ b d, env[i]? = some (some (b, d)) ∧ tyM d = some (mTy o)) ∧ wpL Ex args env fun ds env' => ∃ b d, env'[i]? = some (some (b, d)) ∧ opW o (d :: ds) fun r => Q r env'
  | .meth o r args, env, Q => wpE Ex r env fun d env1 => tyM d = some (mTy o) ∧ wpL Ex args env1 fun ds env2 => opW o (d :: ds) fun r => Q r env2
  | .comp vs tg k src cs e, env, Q => wpL Ex src env fun ds env1 => ∃ items, iterW k ds = some items ∧ noOwn env1 vs = true ∧
      compL (fun x en K => ∃ en1, asgT tg x (wipeE en vs) = some en1 ∧ wpCs noEx cs en1 fun b en2 => if b = true then wpE noEx e en2 (fun y en3 => noOwn en3 vs = true ∧ isClo y = false ∧ K [y] (backE en en3 vs)) else noOwn en2 vs = true ∧ K [] (backE en en2 vs)) (fun acc en => Q (.lst acc) en) items [] env1
  | .dcomp tk vs tg k src cs ke ve, env, Q => wpL Ex src env fun ds env1 => ∃ items, iterW k ds = some items ∧ noOwn env1 vs = true ∧
      dcompL (fun x en K => ∃ en1, asgT tg x (wipeE en vs) = some en1 ∧ wpCs noEx cs en1 fun b en2 => if b = true then wpE noEx ke en2 (fun y en3 => wpE noEx ve en3 fun z en4 => noOwn en4 vs = true ∧ isClo z = false ∧ K (some (y, z)) (backE en en4 vs)) else noOwn en2 vs = true ∧ K none (backE en en2 vs)) (fun acc en => Q (.dct tk acc) en) tk items [] env1
  | .dnew tk, env, Q => Q (.dct tk []) env
  | .prop c n r, env, Q => wpE Ex r env fun d env' => (∃ fs, d = .obj c fs) ∧ (t.gd n).C [d] (fun r => Q r env') (fun _ => False)
  | .isc c r, env, Q => wpE Ex r env fun d env' => (∃ fs, d = .obj c fs) ∧ Q (.bl true) env'
  | .fld c i r, env, Q => wpE Ex r env fun d env' => ∃ fs y, d = .obj c fs ∧ fs[i]? = some y ∧ Q y env'
  | .wget i c, env, Q => env[i]? = some (some (false, .well)) ∧ c < 3 ∧ ∀ w : Int, 0 ≤ w → (c = 1 → w < 4294967296) → Q (.int w) env
def wpL (Ex : ExV → DEnv → Prop) : List IE → DEnv → (List D → DEnv → Prop) → Prop
  | [], env, Q => Q [] env
  | .bor i :: es, env, Q => (∃ b d, env[i]? = some (some (b, d))) ∧ wpL Ex es env fun ds env' => ∃ b d, env'[i]? = some (some (b, d)) ∧ Q (d :: ds) env'
  | e :: es, env, Q => wpE Ex e env fun d env1 => wpL Ex es env1 fun ds env2 => Q (d :: ds) env2
def wpAnd (Ex : ExV → DEnv → Prop) : List IE → DEnv → (D → DEnv → Prop) → Prop
  | [], _, _ => False
  | [e], env, Q => wpE Ex e env Q
  | e :: es, env, Q => wpE Ex e env fun d env' => ∃ t, dTruth d = some t ∧ if t = true then wpAnd Ex es env' Q else Q d env'
def wpOr (Ex : ExV → DEnv → Prop) : List IE → DEnv → (D → DEnv → Prop) → Prop
  | [], _, _ => False
  | [e], env, Q => wpE Ex e env Q
  | e :: es, env, Q => wpE Ex e env fun d env' => ∃ t, dTruth d = some t ∧ if t = true then Q d env' else wpOr Ex es env' Q
def wpCs (Ex : ExV → DEnv → Prop) : List IE → DEnv → (Bool → DEnv → Prop) → Prop
  | [], env, Q => Q true env
  | e :: es, env, Q => wpE Ex e env fun d env' => ∃ t, dTruth d = some t ∧ if t = true then wpCs Ex es env' Q else Q false env'
end
end
end SD

set_option Elab.async false
set_option linter.all false
set_option maxRecDepth 100000
set_option maxHeartbeats 4000000
namespace SD
open PySem PySem.Spec PyProof.Rows L2

/-- what surrounds a body: the well's place, the places that are others' own, the heap at the entry, how closures are held -/
structure Am where
  G : Wd
  wa : Addr
  So : Addr → Prop
  H0 : Hp
  cl : Hp → (Addr → Prop) → D → V → Prop
  mono : ∀ {H H' : Hp} {S S' : Addr → Prop} {d : D} {v : V}, Kp S H H' → Sb H S S' → cl H S d v → cl H' S' d v
  clo : ∀ {H : Hp} {S : Addr → Prop} {d : D} {v : V}, cl H S d v → isClo d = true
def RA (m : Am) (H : Hp) (S : Addr → Prop) (d : D) (v : V) : Prop := RD m.G m.wa H S d v ∨ m.cl H S d v
/-- a slot's own object -/
inductive RX (G : Wd) (wa : Addr) (H : Hp) (S : Addr → Prop) : D → Addr → Prop
  | lst {a : Addr} {xs : List V} {ds : List D} : H a = some (.lst xs) → RDs G wa H S ds xs → RX G wa H S (.lst ds) a
  | dK {a : Addr} {ks : List Key} {xs : List V} {ds : List D} : H a = some (.dK (ks.zip xs)) → ks.length = xs.length → RDs G wa H S ds xs → RX G wa H S (.dct false ((ks.map kD).zip ds)) a
  | dT {a : Addr} {ks : List (List Key)} {xs : List V} {ds : List D} : H a = some (.dT (ks.zip xs)) → (ks.length = xs.length ∧ NE ks) → RDs G wa H S ds xs → RX G wa H S (.dct true ((ks.map kDs).zip ds)) a
def WOk (a b c : Int) : Prop := 0 ≤ a ∧ 0 ≤ b ∧ b < 4294967296 ∧ 0 ≤ c
def Sx (So : Addr → Prop) (σ : L2.St) (env : DEnv) : Addr → Prop := fun a => So a ∨ ∃ (i : Nat) (d : D), env[i]? = some (some (true, d)) ∧ σ[i]? = some (some (V.ref a))
/-- places that are others' own: there stands something, no table, no tuple -/
def NoTE (o : HO) : Prop := (∀ xs, o ≠ .tup xs) ∧ ∀ φ, o ≠ .ext φ
def SoOk (So : Addr → Prop) (H : Hp) : Prop := ∀ a, So a → ∃ o, H a = some o ∧ NoTbl o ∧ NoTE o
structure RS (m : Am) (σ : L2.St) (H : Hp) (env : DEnv) : Prop where
  len : env.length = σ.length
  pl : ∀ (i : Nat) (d : D), env[i]? = some (some (false, d)) → ∃ v : V, σ[i]? = some (some v) ∧ RA m H (Sx m.So σ env) d v
  ow : ∀ (i : Nat) (d : D), env[i]? = some (some (true, d)) → ∃ a : Addr, σ[i]? = some (some (V.ref a)) ∧ RX m.G m.wa H (Sx m.So σ env) d a ∧ ¬ m.So a ∧ m.H0 a = none
  ap : ∀ (i j : Nat) (d e : D) (a : Addr), env[i]? = some (some (true, d)) → env[j]? = some (some (true, e)) → σ[i]? = some (some (V.ref a)) → σ[j]? = some (some (V.ref a)) → i = j
  so : (m.G.hw = true → m.So m.wa) ∧ SoOk m.So H
  we : m.G.hw = true → ∃ a b c : Int, H m.wa = some (.lst [.int a, .int b, .int c]) ∧ WOk a b c
  ta : NdefX.TabsN m.G.T H
  fr : ∀ a o, m.H0 a = some o → (m.G.hw = true → a ≠ m.wa) → NoTbl o → H a = some o
  nn : ∀ a, H a = none → m.H0 a = none
/-- an expression's step: the slots hold what they held, up to what own objects have in them -/
structure St1 (m : Am) (σ : L2.St) (H : Hp) (env : DEnv) (H' : Hp) (env' : DEnv) : Prop where
  rs : RS m σ H' env'
  kp : Kp (Sx m.So σ env) H H'
  sb : ∀ a, Sx m.So σ env' a → Sx m.So σ env a
  nn : ∀ a, H' a = none → H a = none
  ks : ∀ a o, m.So a → (m.G.hw = true → a ≠ m.wa) → H a = some o → H' a = some o

section
variable {m : Am} {σ : L2.St} {H H' H1 H2 : Hp} {env env' env1 env2 : DEnv} {S S' : Addr → Prop} {d : D} {v : V} {p : Addr} {o : HO}
theorem RA.mono (k : Kp S H H') (s : Sb H S S') (r : RA m H S d v) : RA m H' S' d v := r.elim (fun z => .inl (z.mono k s)) fun z => .inr (m.mono k s z)
theorem RX.ext {G : Wd} {wa : Addr} {a : Addr} (k : ∀ a o, H a = some o → H' a = some o) (r : RX G wa H S d a) : RX G wa H' S d a := by
  cases r with
  | lst e r => exact .lst (k _ _ e) (r.mono (Kp.of k) Sb.refl)
  | dK e l r => exact .dK (k _ _ e) l (r.mono (Kp.of k) Sb.refl)
  | dT e l r => exact .dT (k _ _ e) l (r.mono (Kp.of k) Sb.refl)
theorem RX.there {G : Wd} {wa : Addr} {a : Addr} (r : RX G wa H S d a) : ∃ o, H a = some o ∧ NoTbl o := by
  cases r with
  | lst e r => exact ⟨_, e, noTbl_lst⟩
  | dK e l r => exact ⟨_, e, noTbl_dK⟩
  | dT e l r => exact ⟨_, e, noTbl_dT⟩
theorem upd_ext (hp : H p = none) : ∀ a u, H a = some u → upd H p o a = some u := fun a u e => by rw [upd_ne (ne_of_none e hp)]; exact e
theorem RS.free (r : RS m σ H env) (hp : H p = none) : ¬ Sx m.So σ env p := by
  rintro (h | ⟨i, d, h1, h2⟩)
  · obtain ⟨o, e, _⟩ := r.so.2 p h
    rw [hp] at e
    cases e
  · obtain ⟨a, e, x, _⟩ := r.ow i d h1
    rw [h2] at e
    cases e
    obtain ⟨o, e, _⟩ := x.there
    rw [hp] at e
    cases e
/-- a new object -/
theorem RS.new (r : RS m σ H env) (hp : H p = none) : RS m σ (upd H p o) env where
  len := r.len
  pl := fun i d e => let ⟨v, h1, h2⟩ := r.pl i d e; ⟨v, h1, h2.mono (Kp.upd hp) Sb.refl⟩
  ow := fun i d e => let ⟨a, h1, h2, h3, h4⟩ := r.ow i d e; ⟨a, h1, h2.ext (upd_ext hp), h3, h4⟩
  ap := r.ap
  so := ⟨r.so.1, fun a h => let ⟨u, e, n⟩ := r.so.2 a h; ⟨u, upd_ext hp _ _ e, n⟩⟩
  we := fun hw => let ⟨a, b, c, h, k⟩ := r.we hw; ⟨a, b, c, upd_ext hp _ _ h, k⟩
  ta := r.ta.ext (upd_ext hp)
  fr := fun a o e n t => upd_ext hp _ _ (r.fr a o e n t)
  nn := fun a e => r.nn a (by
    by_cases h : a = p
    · subst h; rw [upd_same] at e; cases e
    · rw [upd_ne h] at e; exact e)
theorem St1.refl (r : RS m σ H env) : St1 m σ H env H env := ⟨r, Kp.refl, fun _ h => h, fun _ h => h, fun _ _ _ _ e => e⟩
theorem St1.new (r : RS m σ H env) (hp : H p = none) : St1 m σ H env (upd H p o) env := ⟨r.new hp, Kp.upd hp, fun _ h => h, fun a e => by
    by_cases h : a = p
    · subst h; rw [upd_same] at e; cases e
    · rw [upd_ne h] at e; exact e, fun a u _ _ e => upd_ext hp _ _ e⟩
theorem St1.trans (a : St1 m σ H env H1 env1) (b : St1 m σ H1 env1 H2 env2) : St1 m σ H env H2 env2 :=
  ⟨b.rs, a.kp.trans (Sb.sub a.sb) b.kp, fun c h => a.sb c (b.sb c h), fun c h => a.nn c (b.nn c h), fun c o h n e => b.ks c o h n (a.ks c o h n e)⟩
theorem RA.step (s : St1 m σ H env H' env') (r : RA m H (Sx m.So σ env) d v) : RA m H' (Sx m.So σ env') d v := r.mono s.kp (Sb.sub s.sb)
end

/-! ## readings -/
/-- an expression's reading by a wish over plain data -/
def RdE (m : Am) (wp : DEnv → (D → DEnv → Prop) → Prop) : TE := fun σ H Q => ∃ env Qd, RS m σ H env ∧ wp env Qd ∧
  ∀ d v env' H', St1 m σ H env H' env' → RA m H' (Sx m.So σ env') d v → Qd d env' → Q v H'
def ROs (m : Am) (σ : L2.St) (H : Hp) (env : DEnv) : List IE → List D → List V → Prop
  | [], [], [] => True
  | e :: es, d :: ds, v :: vs => (match e with
    | .bor i => (∃ b, env[i]? = some (some (b, d))) ∧ σ[i]? = some (some v)
    | _ => RA m H (Sx m.So σ env) d v) ∧ ROs m σ H env es ds vs
  | _, _, _ => False
def RdL (m : Am) (irs : List IE) (wp : DEnv → (List D → DEnv → Prop) → Prop) : TA := fun σ H Q => ∃ env Qd, RS m σ H env ∧ wp env Qd ∧
  ∀ ds vs env' H', St1 m σ H env H' env' → ROs m σ H' env' irs ds vs → Qd ds env' → Q vs H'
/-- the reading of an operand -/
def tO (m : Am) (t : Tb) (Ex : ExV → DEnv → Prop) : IE → TE
  | .bor i => tVar i
  | e => RdE m (wpE t Ex e)
def tL : List TE → TA
  | [] => tNil
  | t :: ts => tCons t (tL ts)
theorem tO_nb {m : Am} {t : Tb} {Ex} {e : IE} (h : isBor e = false) : tO m t Ex e = RdE m (wpE t Ex e) := by
  cases e <;> first | rfl | cases h
theorem wpL_nb {t : Tb} {Ex} {e : IE} {es : List IE} {env : DEnv} {Q} (h : isBor e = false) : wpL t Ex (e :: es) env Q = wpE t Ex e env fun d env1 => wpL t Ex es env1 fun ds env2 => Q (d :: ds) env2 := by
  cases e <;> first | rfl | cases h
theorem ROs_nb {m : Am} {σ H env} {e : IE} {es : List IE} {d ds v vs} (h : isBor e = false) : ROs m σ H env (e :: es) (d :: ds) (v :: vs) = (RA m H (Sx m.So σ env) d v ∧ ROs m σ H env es ds vs) := by
  cases e <;> first | rfl | cases h
/-- operands one after the other -/
theorem chainL {m : Am} {t : Tb} {Ex : ExV → DEnv → Prop} : ∀ (irs : List IE) {σ : L2.St} {H : Hp} {Q : List V → Hp → Prop}, RdL m irs (wpL t Ex irs) σ H Q → tL (irs.map (tO m t Ex)) σ H Q
  | [], σ, H, Q, ⟨env, Qd, r, w, k⟩ => k [] [] env H (St1.refl r) trivial w
  | e :: es, σ, H, Q, ⟨env, Qd, r, w, k⟩ => by
    by_cases hb : isBor e = true
    · cases e <;> first | (cases hb; done) | skip
      rename_i i
      have w0 : (∃ b d, env[i]? = some (some (b, d))) ∧ wpL t Ex es env fun ds env' => ∃ b d, env'[i]? = some (some (b, d)) ∧ Qd (d :: ds) env' := w
      obtain ⟨⟨b0, d0, h0⟩, w'⟩ := w0
      have hv : ∃ v, σ[i]? = some (some v) := by
        cases b0 with
        | true => obtain ⟨a, hv, _⟩ := r.ow i d0 h0; exact ⟨_, hv⟩
        | false => obtain ⟨v, hv, _⟩ := r.pl i d0 h0; exact ⟨_, hv⟩
      obtain ⟨v, hv⟩ := hv
      show tCons (tVar i) (tL (es.map (tO m t Ex))) σ H Q
      exact ⟨v, hv, chainL es ⟨env, _, r, w', fun ds vs env' H' s ro ⟨b, d, hd, q⟩ => k (d :: ds) (v :: vs) env' H' s ⟨⟨⟨b, hd⟩, hv⟩, ro⟩ q⟩⟩
    · have hb' : isBor e = false := by simpa using hb
      rw [wpL_nb hb'] at w
      rw [List.map_cons, tO_nb hb']
      refine ⟨env, _, r, w, fun d v env1 H1 s1 ra w1 => ?_⟩
      refine chainL es ⟨env1, _, s1.rs, w1, fun ds vs env2 H2 s2 ro q => ?_⟩
      refine k (d :: ds) (v :: vs) env2 H2 (s1.trans s2) ?_ q
      rw [ROs_nb hb']
      exact ⟨ra.step s2, ro⟩
end SD

set_option Elab.async false
set_option linter.all false
set_option maxRecDepth 100000
set_option maxHeartbeats 4000000
namespace SD
open PySem PySem.Spec PyProof.Rows L2

/-! ## plain data as the library's -/
mutual
def toPy : D → PyData
  | .bl b => .bool b
  | .int i => .int i
  | .str x => .str ⟨x.toArray⟩
  | .tup l => .tuple (toPys l)
  | .lst l => .list (toPys l)
  | _ => .none
def toPys : List D → List PyData
  | [] => []
  | d :: ds => toPy d :: toPys ds
end
theorem str_beq (x y : List Nat) : ((⟨x.toArray⟩ : Str) == ⟨y.toArray⟩) = (x == y) := by
  by_cases h : x = y
  · subst h; simp
  · have h1 : ¬ ((⟨x.toArray⟩ : Str) = ⟨y.toArray⟩) := fun e => h (by simpa using congrArg (fun s : Str => s.cps.toList) e)
    rw [beq_eq_false_iff_ne.mpr h1, beq_eq_false_iff_ne.mpr h]
mutual
theorem eqv_toPy : ∀ {a b : D} {n k : Nat}, okD a n = true → okD b k = true → PyData.eqv (toPy a) (toPy b) = deq a b
  | .non, b, n, k, ha, hb => by cases b <;> first | rfl | exact absurd hb Bool.false_ne_true
  | .bl _, b, n, k, ha, hb => by cases b <;> first | rfl | exact absurd hb Bool.false_ne_true
  | .int _, b, n, k, ha, hb => by cases b <;> first | rfl | exact absurd hb Bool.false_ne_true
  | .str _, b, n, k, ha, hb => by cases b <;> first | rfl | exact absurd hb Bool.false_ne_true | exact str_beq _ _
  | .tup l, b, 0, k, ha, hb => absurd ha Bool.false_ne_true
  | .tup l, .tup r, n + 1, 0, ha, hb => absurd hb Bool.false_ne_true
  | .tup l, .tup r, n + 1, k + 1, ha, hb => eqvs_toPys (a := l) (b := r) ha hb
  | .tup l, .non, n + 1, k, ha, hb => rfl
  | .tup l, .bl _, n + 1, k, ha, hb => rfl
  | .tup l, .int _, n + 1, k, ha, hb => rfl
  | .tup l, .str _, n + 1, k, ha, hb => rfl
  | .tup l, .lst _, n + 1, k, ha, hb => rfl
  | .lst l, b, 0, k, ha, hb => absurd ha Bool.false_ne_true
  | .lst l, .lst r, n + 1, 0, ha, hb => absurd hb Bool.false_ne_true
  | .lst l, .lst r, n + 1, k + 1, ha, hb => eqvs_toPys (a := l) (b := r) ha hb
  | .lst l, .non, n + 1, k, ha, hb => rfl
  | .lst l, .bl _, n + 1, k, ha, hb => rfl
  | .lst l, .int _, n + 1, k, ha, hb => rfl
  | .lst l, .str _, n + 1, k, ha, hb => rfl
  | .lst l, .tup _, n + 1, k, ha, hb => rfl
theorem eqvs_toPys : ∀ {a b : List D} {n k : Nat}, okDs a n = true → okDs b k = true → PyData.eqvAll (toPys a) (toPys b) = deqs a b
  | [], [], _, _, _, _ => rfl
  | [], _ :: _, _, _, _, _ => rfl
  | _ :: _, [], _, _, _, _ => rfl
  | x :: xs, y :: ys, n, k, ha, hb => by
    have ha' : (okD x n && okDs xs n) = true := ha
    have hb' : (okD y k && okDs ys k) = true := hb
    rw [Bool.and_eq_true] at ha' hb'
    show (PyData.eqv (toPy x) (toPy y) && PyData.eqvAll (toPys xs) (toPys ys)) = (deq x y && deqs xs ys)
    rw [eqv_toPy ha'.1 hb'.1, eqvs_toPys ha'.2 hb'.2]
end
mutual
theorem lay_toPy : ∀ {a : D} {n : Nat}, okD a n = true → (toPy a).canLay0 = true ∧ (toPy a).depth ≤ n
  | .non, n, h => ⟨rfl, Nat.zero_le _⟩
  | .bl _, n, h => ⟨rfl, Nat.zero_le _⟩
  | .int _, n, h => ⟨rfl, Nat.zero_le _⟩
  | .str x, n, h => ⟨by
      have h' : x.all (· < 0x110000) = true := h
      show PyData.strOk _ = true
      unfold PyData.strOk
      simpa using h', Nat.zero_le _⟩
  | .tup l, 0, h => absurd h Bool.false_ne_true
  | .tup l, n + 1, h => ⟨(lays_toPys (a := l) (n := n) h).1, Nat.succ_le_succ (lays_toPys (a := l) (n := n) h).2⟩
  | .lst l, 0, h => absurd h Bool.false_ne_true
  | .lst l, n + 1, h => ⟨(lays_toPys (a := l) (n := n) h).1, Nat.succ_le_succ (lays_toPys (a := l) (n := n) h).2⟩
theorem lays_toPys : ∀ {a : List D} {n : Nat}, okDs a n = true → PyData.canLayAll0 (toPys a) = true ∧ PyData.depthAll (toPys a) ≤ n
  | [], _, _ => ⟨rfl, Nat.zero_le _⟩
  | x :: xs, n, h => by
    have h' : (okD x n && okDs xs n) = true := h
    rw [Bool.and_eq_true] at h'
    obtain ⟨a, b⟩ := lay_toPy h'.1
    obtain ⟨c, d⟩ := lays_toPys h'.2
    exact ⟨by show ((toPy x).canLay0 && PyData.canLayAll0 (toPys xs)) = true; rw [a, c] <;> rfl, Nat.max_le.mpr ⟨b, d⟩⟩
end
theorem shaped_toPy {a : D} (h : okD a 20 = true) : SeqAt.shaped (toPy a) = true := by
  obtain ⟨x, y⟩ := lay_toPy h
  unfold SeqAt.shaped
  rw [x, decide_eq_true (show (toPy a).depth ≤ 64 by omega)]
  rfl
section
variable {m : Am} {σ : L2.St} {H : Hp} {env : DEnv} {S : Addr → Prop} {d : D} {v : V}
mutual
theorem RD.dp {G : Wd} {wa : Addr} : ∀ {d : D} {v : V} {n : Nat}, okD d n = true → RD G wa H S d v → Dp G.K H v (toPy d)
  | _, _, _, _, .non => .non
  | _, _, _, _, .bl b => .bl b
  | _, _, _, _, .int i => .int i
  | _, _, _, _, .str x => .str _
  | _, _, 0, h, .tup _ _ _ => absurd h Bool.false_ne_true
  | _, _, n + 1, h, .tup e _ r => .tup e.sq (RDs.dp (n := n) h r)
  | _, _, _, h, .ktup _ _ => absurd h Bool.false_ne_true
  | _, _, _, h, .stup _ _ _ => absurd h Bool.false_ne_true
  | _, _, _, h, .rl _ _ _ => absurd h Bool.false_ne_true
  | _, _, _, h, .krl _ _ => absurd h Bool.false_ne_true
  | _, _, 0, h, .lst _ _ _ => absurd h Bool.false_ne_true
  | _, _, n + 1, h, .lst e _ r => .lst (SqL.of e) (RDs.dp (n := n) h r)
  | _, _, _, h, .dK _ _ _ _ => absurd h Bool.false_ne_true
  | _, _, _, h, .dT _ _ _ _ => absurd h Bool.false_ne_true
  | _, _, _, h, .obj _ _ _ _ => absurd h Bool.false_ne_true
  | _, _, _, h, .well _ => absurd h Bool.false_ne_true
  | _, _, _, h, .glb _ => absurd h Bool.false_ne_true
  | _, _, _, h, .ty _ => absurd h Bool.false_ne_true
theorem RDs.dp {G : Wd} {wa : Addr} : ∀ {ds : List D} {vs : List V} {n : Nat}, okDs ds n = true → RDs G wa H S ds vs → DpAll G.K H vs (toPys ds)
  | _, _, _, _, .nil => .nil
  | d :: ds, _, n, h, .cons r t => by
    have h' : (okD d n && okDs ds n) = true := h
    rw [Bool.and_eq_true] at h'
    exact .cons (RD.dp h'.1 r) (RDs.dp h'.2 t)
end
/-- an operand: a value, or a slot's own object -/
def RO (m : Am) (H : Hp) (S : Addr → Prop) (d : D) (v : V) : Prop := RA m H S d v ∨ ∃ a, v = .ref a ∧ RX m.G m.wa H S d a
theorem RO.dp {n : Nat} (h : okD d n = true) (r : RO m H S d v) : Dp m.G.K H v (toPy d) := by
  rcases r with (r | r) | ⟨a, rfl, r⟩
  · exact r.dp h
  · have c := m.clo r
    cases d <;> first | (cases c; done) | exact absurd h Bool.false_ne_true
  · cases r with
    | lst e r =>
      cases n with
      | zero => exact absurd h Bool.false_ne_true
      | succ n => exact .lst (SqL.of e) (RDs.dp (n := n) h r)
    | dK e l r => exact absurd h Bool.false_ne_true
    | dT e l r => exact absurd h Bool.false_ne_true
theorem RO.non (r : RO m H S .non v) : v = .non := by
  rcases r with (r | r) | ⟨a, rfl, r⟩
  · cases r; rfl
  · cases m.clo r
  · cases r
theorem RO.bl {b} (r : RO m H S (.bl b) v) : v = .bl b := by
  rcases r with (r | r) | ⟨a, rfl, r⟩
  · cases r; rfl
  · cases m.clo r
  · cases r
theorem RO.int {i} (r : RO m H S (.int i) v) : v = .int i := by
  rcases r with (r | r) | ⟨a, rfl, r⟩
  · cases r; rfl
  · cases m.clo r
  · cases r
theorem RO.str {x} (r : RO m H S (.str x) v) : v = .str ⟨x.toArray⟩ := by
  rcases r with (r | r) | ⟨a, rfl, r⟩
  · cases r; rfl
  · cases m.clo r
  · cases r
theorem RO.tup {l} (r : RO m H S (.tup l) v) : ∃ a xs, v = .ref a ∧ TupAt H a xs (soft l) ∧ RDs m.G m.wa H S l xs := by
  rcases r with (r | r) | ⟨a, rfl, r⟩
  · cases r with
    | tup t n r => exact ⟨_, _, rfl, t, r⟩
  · cases m.clo r
  · cases r
theorem RO.tupS {l} (r : RO m H S (.tup l) v) : ∃ a xs, v = .ref a ∧ TupAt H a xs (soft l) ∧ ¬ S a ∧ RDs m.G m.wa H S l xs := by
  rcases r with (r | r) | ⟨a, rfl, r⟩
  · cases r with
    | tup t n r => exact ⟨_, _, rfl, t, n, r⟩
  · cases m.clo r
  · cases r
theorem KT.sq {K : PySem.W.Frag} {H : Hp} {a : Addr} {xs : List V} (h : SD.KT K a xs) : SqT K H a xs := by
  obtain ⟨o, its, k, a, b, c, d, e, f⟩ := h
  exact .inr ⟨o, its, k, a, b, d, e, f⟩
theorem RO.ktup {l} (r : RO m H S (.ktup l) v) : ∃ a xs, v = .ref a ∧ SqT m.G.K H a xs ∧ RDs m.G m.wa H S l xs := by
  rcases r with (r | r) | ⟨a, rfl, r⟩
  · cases r with
    | ktup t r => exact ⟨_, _, rfl, t.sq, r⟩
    | stup t n r => exact ⟨_, _, rfl, SqT.of t, r⟩
  · cases m.clo r
  · cases r
theorem KL.sq {K : PySem.W.Frag} {H : Hp} {a : Addr} {xs : List V} (h : SD.KL K a xs) : SqL K H a xs := .inr h
theorem RO.rl {l} (r : RO m H S (.rl l) v) : ∃ a xs, v = .ref a ∧ SqL m.G.K H a xs ∧ RDs m.G m.wa H S l xs := by
  rcases r with (r | r) | ⟨a, rfl, r⟩
  · cases r with
    | rl t n r => exact ⟨_, _, rfl, .inl (.inr ⟨_, t⟩), r⟩
    | krl t r => exact ⟨_, _, rfl, t.sq, r⟩
  · cases m.clo r
  · cases r
theorem RO.lst {l} (r : RO m H S (.lst l) v) : ∃ a xs, v = .ref a ∧ H a = some (.lst xs) ∧ RDs m.G m.wa H S l xs := by
  rcases r with (r | r) | ⟨a, rfl, r⟩
  · cases r with
    | lst t n r => exact ⟨_, _, rfl, t, r⟩
  · cases m.clo r
  · cases r with
    | lst e r => exact ⟨_, _, rfl, e, r⟩
end
end SD

set_option Elab.async false
set_option linter.all false
set_option maxRecDepth 100000
set_option maxHeartbeats 4000000
namespace SD
open PySem PySem.Spec PyProof.Rows L2

/-! ## order -/
theorem sLt_eq : ∀ x y : List Nat, decide (x < y) = sLt x y
  | [], [] => rfl
  | [], _ :: _ => by simp [sLt]
  | _ :: _, [] => by simp [sLt]
  | x :: xs, y :: ys => by
    have ih := sLt_eq xs ys
    unfold sLt
    by_cases h : x = y
    · subst h
      rw [if_pos rfl, ← ih]
      simp [List.cons_lt_cons_iff]
    · rw [if_neg h]
      simp [List.cons_lt_cons_iff, h]
mutual
theorem deq_comm : ∀ a b : D, deq a b = deq b a
  | .non, b => by cases b <;> rfl
  | .bl a, b => by cases b <;> first | rfl | exact Bool.beq_comm | (show _ = (_ : Bool); exact (by rw [deq, deq]; exact Bool.eq_iff_iff.mpr ⟨fun h => by simpa using (beq_iff_eq.mp h).symm, fun h => by simpa using (beq_iff_eq.mp h).symm⟩))
  | .int i, b => by cases b <;> first | rfl | (rw [deq, deq]; exact Bool.eq_iff_iff.mpr ⟨fun h => by simpa using (beq_iff_eq.mp h).symm, fun h => by simpa using (beq_iff_eq.mp h).symm⟩)
  | .str x, b => by cases b <;> first | rfl | (rw [deq, deq]; exact Bool.eq_iff_iff.mpr ⟨fun h => by simpa using (beq_iff_eq.mp h).symm, fun h => by simpa using (beq_iff_eq.mp h).symm⟩)
  | .tup l, b => by cases b <;> first | rfl | exact deqs_comm l _
  | .lst l, b => by cases b <;> first | rfl | exact deqs_comm l _
  | .dct _ _, b => by cases b <;> rfl
  | .ktup _, b => by cases b <;> rfl
  | .rl _, b => by cases b <;> rfl
  | .obj _ _, b => by cases b <;> rfl
  | .well, b => by cases b <;> rfl
  | .glb _, b => by cases b <;> rfl
  | .ty _, b => by cases b <;> rfl
  | .own _, b => by cases b <;> rfl
  | .clo _ _, b => by cases b <;> rfl
theorem deqs_comm : ∀ a b : List D, deqs a b = deqs b a
  | [], [] => rfl
  | [], _ :: _ => rfl
  | _ :: _, [] => rfl
  | x :: xs, y :: ys => by
    show (deq x y && deqs xs ys) = (deq y x && deqs ys xs)
    rw [deq_comm x y, deqs_comm xs ys]
end
/-- one of the four orders: what it gives on two data, what the lengths give -/
structure OdOk (op : CmpOp) (f : D → D → Bool) (z : Nat → Nat → Bool) : Prop where
  tup : ∀ {A : Around} {s : Shared} {l b : Addr} {items items2 : Array Value} {e r : Nat → Bool}, s.heap.IsTuple l items → s.heap.IsTuple b items2 → A.units < cLine →
    (∀ j (h1 : j < items.size) (h2 : j < items2.size), SeqAt.EqAt A.in1 s items[j] items2[j] (e j)) →
    (∀ j (h1 : j < items.size) (h2 : j < items2.size), e j = false → Ob.RcOp op A.in1 s items[j] items2[j] (r j)) →
    Ob.RcOp op A s (.ref l) (.ref b) (Ob.lexAt e r (z items.size items2.size) 0 (min items.size items2.size))
  nil : f (.tup []) (.tup []) = z 0 0
  nilc : ∀ y ys, f (.tup []) (.tup (y :: ys)) = z 0 (ys.length + 1)
  cnil : ∀ x xs, f (.tup (x :: xs)) (.tup []) = z (xs.length + 1) 0
  cons : ∀ x xs y ys, f (.tup (x :: xs)) (.tup (y :: ys)) = if deq x y = true then f (.tup xs) (.tup ys) else f x y
  zs : ∀ a b, z (a + 1) (b + 1) = z a b
  int : ∀ {i j : Int} {A : Around} {s : Shared} {t u : Tok}, Ob.RcOp op A s (.int i t) (.int j u) (f (.int i) (.int j))
  str : ∀ {x y : List Nat} {A : Around} {s : Shared} {t u : Tok}, Ob.RcOp op A s (.str ⟨x.toArray⟩ t) (.str ⟨y.toArray⟩ u) (f (.str x) (.str y))
theorem od_lt : OdOk .Lt dlt (fun a b => decide (a < b)) where
  tup := Ob.RcOp.tuples_lt
  nil := rfl
  nilc := fun y ys => by simp [dlt, dlts]
  cnil := fun x xs => by simp [dlt, dlts]
  cons := fun x xs y ys => rfl
  zs := fun a b => by simp
  int := Ob.RcOp.lt_int _ _ _ _
  str := fun {x y A s t u} prog w E Q h => PyProof.Rows.lt_str (w := w) (prog := prog) (A := A) (E := E) (by
    have h' : Q (.bool (sLt x y)) s := h
    rw [← sLt_eq x y] at h'
    exact h')
theorem od_gt : OdOk .Gt (fun a b => dlt b a) (fun a b => decide (a > b)) where
  tup := Ob.RcOp.tuples_gt
  nil := rfl
  nilc := fun y ys => by simp [dlt, dlts]
  cnil := fun x xs => by simp [dlt, dlts]
  cons := fun x xs y ys => by rw [deq_comm x y]; rfl
  zs := fun a b => by simp
  int := Ob.RcOp.gt_int _ _ _ _
  str := fun {x y A s t u} prog w E Q h => PySem.P.gt_str (w := w) (prog := prog) (A := A) (E := E) (by
    have h' : Q (.bool (sLt y x)) s := h
    rw [← sLt_eq y x] at h'
    exact h')
theorem od_le : OdOk .LtE (fun a b => !dlt b a) (fun a b => decide (a ≤ b)) where
  tup := Ob.RcOp.tuples_le
  nil := rfl
  nilc := fun y ys => by simp [dlt, dlts]
  cnil := fun x xs => by simp [dlt, dlts]
  cons := fun x xs y ys => by
    rw [deq_comm x y]
    show (!dlts (y :: ys) (x :: xs)) = _
    unfold dlts
    split <;> rfl
  zs := fun a b => by simp
  int := fun {i j A s t u} prog w E Q h => Ob.RcOp.le_int i j t u prog w E Q (by
    have e : decide (i ≤ j) = !decide (j < i) := by rw [← decide_not]; exact decide_eq_decide.mpr (by omega)
    rw [e]; exact h)
  str := fun {x y A s t u} prog w E Q h => PySem.P.le_str (w := w) (prog := prog) (A := A) (E := E) (by
    have h' : Q (.bool (!sLt y x)) s := h
    rw [← sLt_eq y x] at h'
    exact h')
theorem od_ge : OdOk .GtE (fun a b => !dlt a b) (fun a b => decide (a ≥ b)) where
  tup := Ob.RcOp.tuples_ge
  nil := rfl
  nilc := fun y ys => by simp [dlt, dlts]
  cnil := fun x xs => by simp [dlt, dlts]
  cons := fun x xs y ys => by
    show (!dlts (x :: xs) (y :: ys)) = _
    unfold dlts
    split <;> rfl
  zs := fun a b => by simp
  int := fun {i j A s t u} prog w E Q h => Ob.RcOp.ge_int i j t u prog w E Q (by
    have e : decide (j ≤ i) = !decide (i < j) := by rw [← decide_not]; exact decide_eq_decide.mpr (by omega)
    rw [e]; exact h)
  str := fun {x y A s t u} prog w E Q h => PySem.P.ge_str (w := w) (prog := prog) (A := A) (E := E) (by
    have h' : Q (.bool (!sLt x y)) s := h
    rw [← sLt_eq x y] at h'
    exact h')
theorem od_lex {op f z} (O : OdOk op f z) : ∀ (xs ys : List D) (e r : Nat → Bool) (zz : Bool) (i : Nat), (∀ j a b, xs[j]? = some a → ys[j]? = some b → e (i + j) = deq a b) → (∀ j a b, xs[j]? = some a → ys[j]? = some b → r (i + j) = f a b) → zz = z xs.length ys.length →
    Ob.lexAt e r zz i (min xs.length ys.length) = f (.tup xs) (.tup ys)
  | [], [], e, r, zz, i, _, _, hz => by rw [hz, O.nil]; rfl
  | [], y :: ys, e, r, zz, i, _, _, hz => by rw [hz, O.nilc]; simp [Ob.lexAt]
  | x :: xs, [], e, r, zz, i, _, _, hz => by rw [hz, O.cnil]; simp [Ob.lexAt]
  | x :: xs, y :: ys, e, r, zz, i, he, hr, hz => by
    have h0 := he 0 x y rfl rfl
    have r0 := hr 0 x y rfl rfl
    rw [Nat.add_zero] at h0 r0
    have ih := od_lex O xs ys e r zz (i + 1) (fun j a b p q => by rw [Nat.add_assoc, Nat.add_comm 1 j]; exact he (j + 1) a b p q) (fun j a b p q => by rw [Nat.add_assoc, Nat.add_comm 1 j]; exact hr (j + 1) a b p q) (by rw [hz, List.length_cons, List.length_cons, O.zs])
    rw [List.length_cons, List.length_cons, Nat.add_min_add_right, Ob.lexAt_succ, h0, r0, ih, O.cons]
theorem readsAll_get {h : Heap} : ∀ {us : List Value} {ds : List PyData} {as : List Addr}, ReadsAll h us ds as → us.length = ds.length ∧ ∀ (j : Nat) u d, us[j]? = some u → ds[j]? = some d → ∃ bs, Reads h u d bs
  | _, _, _, .nil => ⟨rfl, fun j u d e _ => by simp at e⟩
  | _, _, _, .cons r t => by
    obtain ⟨l, g⟩ := readsAll_get t
    refine ⟨by simp [l], fun j u d e1 e2 => ?_⟩
    cases j with
    | zero => simp at e1 e2; subst e1 e2; exact ⟨_, r⟩
    | succ j => exact g j u d (by simpa using e1) (by simpa using e2)
theorem toPys_len : ∀ l : List D, (toPys l).length = l.length
  | [] => rfl
  | _ :: l => by show (toPys l).length + 1 = _; rw [toPys_len l]; rfl
theorem toPys_get : ∀ (l : List D) (j : Nat), (toPys l)[j]? = l[j]?.map toPy
  | [], _ => by simp [toPys]
  | _ :: _, 0 => rfl
  | _ :: l, j + 1 => by show (toPys l)[j]? = _; rw [toPys_get l j]; rfl
theorem cmpBs_at : ∀ {xs ys : List D} {n : Nat}, cmpBs xs ys n = true → ∀ (j : Nat) a b, xs[j]? = some a → ys[j]? = some b → okD a 8 = true ∧ okD b 8 = true ∧ (deq a b = true ∨ cmpB a b n = true)
  | [], _, _, _, j, a, b, e, _ => by simp at e
  | _ :: _, [], _, _, j, a, b, _, e => by simp at e
  | x :: xs, y :: ys, n, h, j, a, b, e1, e2 => by
    have h' : (okD x 8 && okD y 8 && (deq x y || cmpB x y n) && cmpBs xs ys n) = true := h
    simp only [Bool.and_eq_true, Bool.or_eq_true] at h'
    obtain ⟨⟨⟨h1, h2⟩, h3⟩, h4⟩ := h'
    cases j with
    | zero => simp at e1 e2; subst e1 e2; exact ⟨h1, h2, h3⟩
    | succ j => exact cmpBs_at h4 j a b (by simpa using e1) (by simpa using e2)
theorem rc_tup {op f z} (O : OdOk op f z) {n : Nat} (ih : ∀ (d e : D) (A : Around) (s : Shared) (a b : Value) (as bs : List Addr), Reads s.heap a (toPy d) as → Reads s.heap b (toPy e) bs → cmpB d e n = true → A.units + n + 20 < cLine → Ob.RcOp op A s a b (f d e))
    {l r : List D} {A : Around} {s : Shared} {a b : Value} {as bs : List Addr} (ra : Reads s.heap a (toPy (.tup l)) as) (rb : Reads s.heap b (toPy (.tup r)) bs) (h' : cmpBs l r n = true) (hu : A.units + (n + 1) + 20 < cLine) : Ob.RcOp op A s a b (f (.tup l) (.tup r)) := by
  have ra' : Reads s.heap a (.tuple (toPys l)) as := ra
  have rb' : Reads s.heap b (.tuple (toPys r)) bs := rb
  obtain ⟨a1, o1, vs1, n1, as1, rfl, h1, c1, d1, r1⟩ : ∃ a1 o1 vs1 n1 as1, a = Value.ref a1 ∧ s.heap.get? a1 = some o1 ∧ o1.cls = .type "tuple" ∧ o1.data = .seq vs1 n1 ∧ ReadsAll s.heap vs1.toList (toPys l) as1 := by
    cases ra' with
    | tuple h c d r => exact ⟨_, _, _, _, _, rfl, h, c, d, r⟩
  obtain ⟨a2, o2, vs2, n2, as2, rfl, h2, c2, d2, r2⟩ : ∃ a1 o1 vs1 n1 as1, b = Value.ref a1 ∧ s.heap.get? a1 = some o1 ∧ o1.cls = .type "tuple" ∧ o1.data = .seq vs1 n1 ∧ ReadsAll s.heap vs1.toList (toPys r) as1 := by
    cases rb' with
    | tuple h c d r => exact ⟨_, _, _, _, _, rfl, h, c, d, r⟩
  obtain ⟨l1, g1⟩ := readsAll_get r1
  obtain ⟨l2, g2⟩ := readsAll_get r2
  rw [toPys_len, Array.length_toList] at l1 l2
  have T1 : s.heap.IsTuple a1 vs1 := ⟨o1, h1, c1, n1, d1⟩
  have T2 : s.heap.IsTuple a2 vs2 := ⟨o2, h2, c2, n2, d2⟩
  have at1 : ∀ j (hj : j < vs1.size), ∃ d bs, l[j]? = some d ∧ Reads s.heap vs1[j] (toPy d) bs := fun j hj => by
    have hl : j < l.length := by omega
    obtain ⟨bs, q⟩ := g1 j vs1[j] (toPy l[j]) (by simp [hj]) (by rw [toPys_get]; simp [hl])
    exact ⟨l[j], bs, by simp [hl], q⟩
  have at2 : ∀ j (hj : j < vs2.size), ∃ d bs, r[j]? = some d ∧ Reads s.heap vs2[j] (toPy d) bs := fun j hj => by
    have hl : j < r.length := by omega
    obtain ⟨bs, q⟩ := g2 j vs2[j] (toPy r[j]) (by simp [hj]) (by rw [toPys_get]; simp [hl])
    exact ⟨r[j], bs, by simp [hl], q⟩
  have key := O.tup (A := A) (e := fun j => match l[j]?, r[j]? with | some x, some y => deq x y | _, _ => false) (r := fun j => match l[j]?, r[j]? with | some x, some y => f x y | _, _ => false) T1 T2 (by omega) (fun j h1 h2 => ?_) (fun j h1 h2 he => ?_)
  · rw [l1, l2] at key
    rw [od_lex O l r _ _ _ 0 (fun j a b p q => by simp only [Nat.zero_add, p, q]) (fun j a b p q => by simp only [Nat.zero_add, p, q]) rfl] at key
    exact key
  · obtain ⟨x, bx, ex, rx⟩ := at1 j h1
    obtain ⟨y, bY, ey, ry⟩ := at2 j h2
    obtain ⟨o1, o2, _⟩ := cmpBs_at h' j x y ex ey
    simp only [ex, ey]
    rw [← eqv_toPy o1 o2]
    refine SeqAt.eqAt_reads _ _ A.in1 s _ _ _ _ rx ry (lay_toPy o1).1 (lay_toPy o2).1 ?_
    have := (lay_toPy o1).2
    show A.units + 1 + _ < _
    omega
  · obtain ⟨x, bx, ex, rx⟩ := at1 j h1
    obtain ⟨y, bY, ey, ry⟩ := at2 j h2
    simp only [ex, ey] at he ⊢
    obtain ⟨o1, o2, q⟩ := cmpBs_at h' j x y ex ey
    rcases q with q | q
    · rw [he] at q; cases q
    · refine ih x y A.in1 s _ _ _ _ rx ry q ?_
      show A.units + 1 + _ + _ < _
      omega
theorem rc_int {op f z} (O : OdOk op f z) {i j : Int} {A : Around} {s : Shared} {a b : Value} {as bs : List Addr} (ra : Reads s.heap a (.int i) as) (rb : Reads s.heap b (.int j) bs) : Ob.RcOp op A s a b (f (.int i) (.int j)) := by
  cases ra; cases rb
  exact O.int
theorem rc_str {op f z} (O : OdOk op f z) {x y : List Nat} {A : Around} {s : Shared} {a b : Value} {as bs : List Addr} (ra : Reads s.heap a (.str ⟨x.toArray⟩) as) (rb : Reads s.heap b (.str ⟨y.toArray⟩) bs) : Ob.RcOp op A s a b (f (.str x) (.str y)) := by
  cases ra; cases rb
  exact O.str
theorem rc_od {op f z} (O : OdOk op f z) : ∀ (n : Nat) (d e : D) (A : Around) (s : Shared) (a b : Value) (as bs : List Addr), Reads s.heap a (toPy d) as → Reads s.heap b (toPy e) bs → cmpB d e n = true → A.units + n + 20 < cLine → Ob.RcOp op A s a b (f d e) := by
  intro n
  induction n with
  | zero =>
    intro d e A s a b as bs ra rb h hu
    cases d <;> cases e <;> first | exact absurd h Bool.false_ne_true | exact rc_int O ra rb | exact rc_str O ra rb
  | succ n ih =>
    intro d e A s a b as bs ra rb h hu
    cases d <;> cases e <;> first | exact absurd h Bool.false_ne_true | exact rc_int O ra rb | exact rc_str O ra rb | exact rc_tup O ih ra rb h hu
end SD

set_option Elab.async false
set_option linter.all false
set_option maxRecDepth 100000
set_option maxHeartbeats 4000000
namespace SD
open PySem PySem.Spec PyProof.Rows L2
/-! ### on data of one shape it is < and == -/
theorem iCmp_is (i j : Int) : (i == j) = (iCmp i j == .eq) ∧ decide (i < j) = (iCmp i j == .lt) := by
  unfold iCmp
  constructor
  · by_cases h : i = j
    · subst h; simp
    · rw [beq_eq_false_iff_ne.mpr h]
      (repeat' split) <;> first | rfl | omega
  · (repeat' split) <;> simp_all <;> omega
theorem sCmp_is : ∀ x y : List Nat, (x == y) = (sCmp x y == .eq) ∧ sLt x y = (sCmp x y == .lt)
  | [], [] => ⟨rfl, rfl⟩
  | [], _ :: _ => ⟨rfl, rfl⟩
  | _ :: _, [] => ⟨rfl, rfl⟩
  | x :: xs, y :: ys => by
    obtain ⟨a, b⟩ := sCmp_is xs ys
    simp only [sLt, sCmp, List.cons_beq_cons]
    by_cases h : x = y
    · subst h
      have e : nCmp x x = .eq := by simp [nCmp]
      rw [e, if_pos rfl]
      exact ⟨by simp only [lex2, beq_self_eq_true, Bool.true_and]; exact a, by simpa [lex2] using b⟩
    · rw [if_neg h, beq_eq_false_iff_ne.mpr h]
      unfold nCmp
      by_cases h2 : x < y
      · simp [h2, lex2]
      · have h3 : y < x := by omega
        simp [h2, h3, lex2]
mutual
theorem dCmp_is : ∀ a b : D, ordT a b = true → deq a b = (dCmp a b == .eq) ∧ dlt a b = (dCmp a b == .lt)
  | .int i, b, h => by
    cases b <;> first | (cases h; done) | skip
    exact iCmp_is _ _
  | .str i, b, h => by
    cases b <;> first | (cases h; done) | skip
    exact sCmp_is _ _
  | .tup xs, b, h => by
    cases b <;> first | (cases h; done) | skip
    exact dCmps_is xs _ h
  | .non, b, h => by cases b <;> cases h
  | .bl _, b, h => by cases b <;> cases h
  | .lst _, b, h => by cases b <;> cases h
  | .dct _ _, b, h => by cases b <;> cases h
  | .ktup _, b, h => by cases b <;> cases h
  | .rl _, b, h => by cases b <;> cases h
  | .obj _ _, b, h => by cases b <;> cases h
  | .well, b, h => by cases b <;> cases h
  | .glb _, b, h => by cases b <;> cases h
  | .ty _, b, h => by cases b <;> cases h
  | .own _, b, h => by cases b <;> cases h
  | .clo _ _, b, h => by cases b <;> cases h
theorem dCmps_is : ∀ a b : List D, ordTs a b = true → deqs a b = (dCmps a b == .eq) ∧ dlts a b = (dCmps a b == .lt)
  | [], [], _ => ⟨rfl, rfl⟩
  | [], _ :: _, _ => ⟨rfl, rfl⟩
  | _ :: _, [], _ => ⟨rfl, rfl⟩
  | x :: xs, y :: ys, h => by
    have h' : (ordT x y && ordTs xs ys) = true := h
    rw [Bool.and_eq_true] at h'
    obtain ⟨a, b⟩ := dCmp_is x y h'.1
    obtain ⟨c, d⟩ := dCmps_is xs ys h'.2
    show (deq x y && deqs xs ys) = (lex2 (dCmp x y) (dCmps xs ys) == .eq) ∧ (if deq x y then dlts xs ys else dlt x y) = (lex2 (dCmp x y) (dCmps xs ys) == .lt)
    rw [a, b, c, d]
    cases dCmp x y <;> simp [lex2]
end
theorem tlt_is {a b : D} (h : ordT a b = true) : dlt a b = tlt a b := (dCmp_is a b h).2
end SD

set_option Elab.async false
set_option linter.all false
set_option maxRecDepth 100000
set_option maxHeartbeats 4000000
namespace SD
open PySem PySem.Spec PyProof.Rows L2
/-! ## new tuples: the reader says whether the object is to be known for good -/
def NewT (H : Hp) (xs : List V) (Q : VK) : Prop := ∀ p, H p = none → Q (.ref p) (upd H p (.tup xs)) ∨ ∀ o : Obj, o.dict = none → Q (.ref p) (upd H p (.frz o (.tup xs)))
section
variable {X : Cx} {pins : List (Addr × Obj)} {σ : L2.St} {H : Hp} {s : Shared} {xs ys : List V} {its : List Value} {Q : VK}
theorem lay_tup (I : Inv X pins σ H s) (rv : Vals xs its) (z : xs.length ≤ sizeLine) (q : NewT H xs Q) : EP X pins σ Q (.ref s.heap.objs.size) { s with heap := s.heap.push { cls := .type "tuple", data := .seq its.toArray } } := by
  have hn : H s.heap.objs.size = none := I.hok.fresh (Nat.le_refl _)
  rcases q _ hn with q | q
  · exact ⟨.ref s.heap.objs.size, _, I.laid (t' := s.toks) (o := .tup xs) (fun b ob e => Heap.get?_push_of_some _ e) (Nat.le_refl _) ⟨z, its, rv, IsTup.new _ _⟩, rfl, q⟩
  · exact ⟨.ref s.heap.objs.size, _, I.laid (t' := s.toks) (o := .frz { cls := .type "tuple", data := .seq its.toArray } (.tup xs)) (fun b ob e => Heap.get?_push_of_some _ e) (Nat.le_refl _) ⟨Heap.get?_push_size _ rfl, z, its, rv, IsTup.new _ _⟩, rfl, q _ rfl⟩
def tTupB (t : TA) : TE := fun σ H Q => t σ H fun xs H1 => xs.length ≤ sizeLine ∧ NewT H1 xs Q
theorem pe_tupB {es : List Expr} {kk : Nat} {pos : Pos} {t : TA} (h : PA X es t) : PE X (.Tuple es kk pos) (tTupB t) := by
  refine ⟨fun pins s σ H Q I hq => ?_⟩
  exact wpAny_Tuple_spliced (thn (h.run pos pins s σ H _ I hq) fun us s1 ⟨xs, H1, I1, rv, z, q⟩ => ⟨by rw [← rv.length]; exact z, lay_tup I1 rv z q⟩)
/-- t + u -/
def rCatB (K : PySem.W.Frag) : R2 := fun x y H Q => ∃ a b xs ys, x = .ref a ∧ y = .ref b ∧ SqT K H a xs ∧ SqT K H b ys ∧ xs.length + ys.length ≤ sizeLine ∧
  (xs = [] → Q (.ref b) H) ∧ (xs ≠ [] → ys = [] → Q (.ref a) H) ∧ (xs ≠ [] → ys ≠ [] → NewT H (xs ++ ys) Q)
theorem op_catB : OpR X (binaryOp .Add) (rCatB X.K) := by
  intro pins s σ H x y v u Q I rx ry h
  obtain ⟨a, b, xs, ys, rfl, rfl, ha, hb, hz, q0, q1, q2⟩ := h
  cases rx
  cases ry
  obtain ⟨its, r1, p1, _⟩ := I.tuple ha
  obtain ⟨its2, r2, p2, _⟩ := I.tuple hb
  by_cases hx : xs = []
  · subst hx
    cases r1
    exact cat_tup0 p1 p2 ⟨.ref b, H, I, rfl, q0 rfl⟩
  · have nil : ∀ {ws : List V} {us : List Value}, Vals ws us → us = [] → ws = [] := fun r e => by subst e; cases r; rfl
    refine HT.cat_tup p1 p2 (fun z => hx (nil r1 z)) (fun z => ⟨.ref a, H, I, rfl, q1 hx (nil r2 z)⟩) (fun z => ?_) (by rw [← r1.length, ← r2.length]; exact hz)
    exact lay_tup I (r1.append r2) (by rw [List.length_append]; exact hz) (q2 hx fun w => z (by subst w; cases r2; rfl))
/-- t[lo:hi] -/
def rSlB (K : PySem.W.Frag) : V → Option Int → Option Int → Hp → VK → Prop := fun x lo hi H Q => ∃ a xs, x = .ref a ∧ SqT K H a xs ∧
  (HT.sIx xs.length 0 lo = 0 ∧ HT.sIx xs.length xs.length hi = xs.length → Q (.ref a) H) ∧ (¬ (HT.sIx xs.length 0 lo = 0 ∧ HT.sIx xs.length xs.length hi = xs.length) → NewT H (cutV xs lo hi) Q)
theorem sl_tupB : SlR X (rSlB X.K) := by
  intro pins s σ H x v vl vu lo hi sl Q I rx hs pl pu h
  obtain ⟨a, xs, rfl, hx, q1, q2⟩ := h
  cases rx
  obtain ⟨its, r, ht, hz⟩ := I.tuple hx
  have hlen : its.toArray.size = xs.length := by rw [List.size_toArray]; exact r.length.symm
  refine ⟨"tuple", _, PyProof.Rows.slot_tuple_getitem.lookup, ht.typeIs, ?_⟩
  by_cases hw : HT.sIx xs.length 0 lo = 0 ∧ HT.sIx xs.length xs.length hi = xs.length
  · exact getItem_tuple_whole ht hs pl pu (by rw [hlen]; exact hw) ⟨.ref a, H, I, rfl, q1 hw⟩
  · refine HT.getItem_tuple_cut ht hs pl pu (by rw [hlen]; exact hw) ?_ (by rw [hlen]; exact hz)
    rw [hlen]
    exact lay_tup I ((r.drop _).take _) (Nat.le_trans (cutV_length xs lo hi) hz) (q2 hw)
/-- tuple(x) -/
def rTupleB (K : PySem.W.Frag) : List V → Hp → VK → Prop := fun xs H Q => ∃ p ys, xs = [.ref p] ∧ ((SqL K H p ys ∧ NewT H ys Q) ∨ (SqT K H p ys ∧ Q (.ref p) H))
theorem call_tupleB : CallR X (.type "tuple") (rTupleB X.K) := by
  intro pins s σ H xs us Q I r h
  obtain ⟨p, ys, rfl, h⟩ := h
  obtain ⟨u, rfl, rx⟩ := vals1 r
  cases rx
  rcases h with ⟨hq, q⟩ | ⟨hq, q⟩
  · obtain ⟨its, rv, pl, hz⟩ := I.list hq
    have hlen := rv.length
    exact call_tuple_list pl.isList (fun h' kp => lay_tup (I.kept (t' := s.toks) kp) rv hz q) (by simp only [List.size_toArray] <;> omega)
  · obtain ⟨its, rv, pl, hz⟩ := I.tuple hq
    exact call_tuple_same pl ⟨.ref p, H, I, rfl, q⟩
end
end SD

set_option Elab.async false
set_option linter.all false
set_option maxRecDepth 100000
set_option maxHeartbeats 4000000
namespace SD
open PySem PySem.Spec PyProof.Rows L2
section
variable {X : Cx}
/-! ### t * k, the object known -/
def rRepN (K : PySem.W.Frag) : R2 := fun x y H Q => ∃ l k xs, x = .ref l ∧ y = .int k ∧ SqT K H l xs ∧ xs ≠ [] ∧ 2 ≤ k ∧ k ≤ 1000 ∧ xs.length ≤ 1000 ∧ NewT H (List.replicate k.toNat xs).flatten Q
theorem op_repN : OpR X (binaryOp .Mult) (rRepN X.K) := by
  intro pins s σ H x y v u Q I rx ry h
  obtain ⟨l, k, xs, rfl, rfl, hT, hne, h1, h2, hz, q⟩ := h
  cases rx
  obtain ⟨t, rfl⟩ := ry
  obtain ⟨its, r, ⟨⟨cl, dd, dt, sl⟩, ho, rfl, n, rfl⟩, hs⟩ := I.tuple hT
  have hle : its.length = xs.length := r.length.symm
  have big : its.length * k.toNat ≤ 1000 * 1000 := Nat.mul_le_mul (hle ▸ hz) (by omega)
  have ek : ((its.length * k.toNat : Nat) : Int) = (its.toArray.size : Int) * k := by
    rw [List.size_toArray, Int.natCast_mul]
    congr 1
    omega
  have ne : its.toArray.isEmpty = false := by
    match its, hle with
    | [], e => exact absurd (List.eq_nil_of_length_eq_zero e.symm) hne
    | _ :: _, _ => rfl
  have fl : (List.replicate k.toNat its).flatten.length ≤ sizeLine := by
    rw [PyProof.Rows.lm_len_rep_flat, sizeLine_eq, Nat.mul_comm]; omega
  have many : Builtin.Tuple.tupleTooMany ((its.toArray.size : Int) * k) = false := by
    unfold Builtin.Tuple.tupleTooMany
    rw [sizeLine_eq]
    exact decide_eq_false (by omega)
  have w := tuple_mulW l its.toArray n dd sl k t (by rw [decide_eq_false (by omega), decide_eq_false (by omega)]; rfl) (by rw [ne, Bool.false_or]; exact beq_eq_false_iff_ne.mpr (by omega)) (by rw [ne, Bool.or_false]; exact decide_eq_false (by omega)) (by omega) many (by rw [size_rep, List.size_toArray]; exact fl)
  refine wpAny_binaryOp_repeat_ref (T := "tuple") (U := "int") (by decide) ⟨_, ho, rfl⟩ (fun s' => typeIs_int s' k t) noFill_tuple_mul PySem.F.fills_int_mul PySem.F.slot_int_rmul repeat_tuple PySem.F.slot_int_index.lookup ?_
  refine call_meets PySem.F.slot_int_rmul (typeIs_int s k t) PySem.F.entry_int_rmul (PySem.F.args_int_rmul_2 _ _) (int_rmul_tuple k t l its.toArray n dd sl) ⟨ho, rfl, ⟨_, ho, rfl⟩, ?_⟩
  refine call_meets PySem.F.slot_tuple_mul ⟨_, ho, rfl⟩ PySem.F.entry_tuple_mul (PySem.F.args_tuple_mul_2 _ _) w ⟨ho, ?_⟩
  rw [size_rep]
  exact lay_tup I (r.rep _) (by rw [PyProof.Rows.lm_len_rep_flat, sizeLine_eq, Nat.mul_comm, ← hle]; omega) q
end
end SD

set_option Elab.async false
set_option linter.all false
set_option maxRecDepth 100000
set_option maxHeartbeats 4000000
namespace SD
open PySem PySem.Spec PyProof.Rows L2

structure GX (m : Am) (X : Cx) (k : Nat) : Prop where
  hP : X.prog = m.G.P
  hw : X.w = m.G.w
  hK : X.K = m.G.K
  hmg : X.mg = m.G.mg
  hb : X.base = m.G.base
  nd : X.N.Nodup
  calm : X.calm = true
  room : Room k X.A
theorem PE.weak {X : Cx} {e : Expr} {t t' : TE} (h : PE X e t) (w : ∀ σ H Q, t' σ H Q → t σ H Q) : PE X e t' := ⟨fun pins s σ H Q I q => h.run pins s σ H Q I (w σ H Q q)⟩
theorem PT.weak {X : Cx} {e : Expr} {t t' : TT} (h : PT X e t) (w : ∀ σ H Q, t' σ H Q → t σ H Q) : PT X e t' := ⟨fun pins s σ H Q I q => h.run pins s σ H Q I (w σ H Q q)⟩
theorem PA.weak {X : Cx} {e : List Expr} {t t' : TA} (h : PA X e t) (w : ∀ σ H Q, t' σ H Q → t σ H Q) : PA X e t' := ⟨fun pos pins s σ H Q I q => h.run pos pins s σ H Q I (w σ H Q q)⟩

/-! ## operators by values -/
def ROl (m : Am) (H : Hp) (S : Addr → Prop) : List D → List V → Prop
  | [], [] => True
  | d :: ds, v :: vs => RO m H S d v ∧ ROl m H S ds vs
  | _, _ => False
def New (H H' : Hp) : Prop := ∀ a o, H a = some o → H' a = some o
def Fin (m : Am) (H : Hp) (S : Addr → Prop) (Qd : D → Prop) (Q : VK) : Prop := ∀ d v H', New H H' → RD m.G m.wa H' S d v → Qd d → Q v H'
def Snd (m : Am) (o : Op) (R : List V → Hp → VK → Prop) : Prop := ∀ (H : Hp) (S : Addr → Prop) (ds : List D) (vs : List V) (Qd : D → Prop) (Q : VK), ((∀ p, H p = none → ¬ S p) ∧ ∀ a xs, S a → H a ≠ some (.tup xs)) → ROl m H S ds vs → opW o ds Qd → Fin m H S Qd Q → R vs H Q
def Ra (r : V → Hp → VK → Prop) : List V → Hp → VK → Prop := fun vs H Q => match vs with
  | [x] => r x H Q
  | _ => False
def Rb (r : R2) : List V → Hp → VK → Prop := fun vs H Q => match vs with
  | [x, y] => r x y H Q
  | _ => False
section
variable {m : Am} {X : Cx} {k : Nat} {t : Tb} {Ex : ExV → DEnv → Prop} {σ : L2.St} {H : Hp} {S : Addr → Prop} {env : DEnv} {ds : List D} {vs : List V} {Qd : D → Prop} {Q : VK} {d : D} {v : V}
theorem RS.notup (r : RS m σ H env) : ∀ a xs, Sx m.So σ env a → H a ≠ some (.tup xs) := by
  rintro a xs (h | ⟨i, d, h1, h2⟩) e
  · obtain ⟨o, e2, _, n⟩ := r.so.2 a h
    rw [e] at e2
    cases e2
    exact n.1 xs rfl
  · obtain ⟨b, hb, x, _⟩ := r.ow i d h1
    rw [h2] at hb
    cases hb
    cases x with
    | lst q _ => rw [e] at q; cases q
    | dK q _ _ => rw [e] at q; cases q
    | dT q _ _ => rw [e] at q; cases q
theorem RS.ext {H' : Hp} (n : New H H') (r : RS m σ H env) : RS m σ H' env where
  len := r.len
  pl := fun i d e => let ⟨v, h1, h2⟩ := r.pl i d e; ⟨v, h1, h2.mono (Kp.of n) Sb.refl⟩
  ow := fun i d e => let ⟨a, h1, h2, h3, h4⟩ := r.ow i d e; ⟨a, h1, h2.ext n, h3, h4⟩
  ap := r.ap
  so := ⟨r.so.1, fun a h => let ⟨u, e, q⟩ := r.so.2 a h; ⟨u, n _ _ e, q⟩⟩
  we := fun hw => let ⟨a, b, c, h, k⟩ := r.we hw; ⟨a, b, c, n _ _ h, k⟩
  ta := r.ta.ext n
  fr := fun a o e nn t => n _ _ (r.fr a o e nn t)
  nn := fun a e => r.nn a (by
    cases q : H a with
    | none => rfl
    | some o => rw [n a o q] at e; cases e)
theorem New.nn {H' : Hp} (n : New H H') : ∀ a, H' a = none → H a = none := fun a e => by
  cases q : H a with
  | none => rfl
  | some o => rw [n a o q] at e; cases e
theorem New.st1 {H' : Hp} (n : New H H') (r : RS m σ H env) : St1 m σ H env H' env := ⟨r.ext n, Kp.of n, fun _ h => h, n.nn, fun a o _ _ e => n a o e⟩
theorem ROs.rol : ∀ {irs : List IE} {ds : List D} {vs : List V}, RS m σ H env → ROs m σ H env irs ds vs → ROl m H (Sx m.So σ env) ds vs
  | [], [], [], _, _ => trivial
  | [], [], _ :: _, _, h => h.elim
  | [], _ :: _, _, _, h => h.elim
  | _ :: _, [], _, _, h => by cases ‹List V› <;> exact h.elim
  | _ :: _, _ :: _, [], _, h => h.elim
  | e :: es, d :: ds, v :: vs, r, h => by
    refine ⟨?_, ROs.rol r h.2⟩
    by_cases hb : isBor e = true
    · cases e <;> first | (cases hb; done) | skip
      obtain ⟨⟨b, h1⟩, h2⟩ := h.1
      cases b with
      | true =>
        obtain ⟨a, e1, x, _⟩ := r.ow _ _ h1
        rw [h2] at e1
        cases e1
        exact .inr ⟨a, rfl, x⟩
      | false =>
        obtain ⟨a, e1, x⟩ := r.pl _ _ h1
        rw [h2] at e1
        cases e1
        exact .inl x
    · rw [ROs_nb (by simpa using hb)] at h
      exact .inl h.1
theorem op_read {o : Op} {R : List V → Hp → VK → Prop} (hs : Snd m o R) {args : List IE} (h : RdE m (wpE t Ex (.op o args)) σ H Q) : tL (args.map (tO m t Ex)) σ H fun vs H' => R vs H' Q := by
  obtain ⟨env, Qd, r, w, k⟩ := h
  refine chainL args ⟨env, _, r, w, fun ds vs env' H' s ro w' => ?_⟩
  exact hs H' _ ds vs _ Q ⟨fun p hp => s.rs.free hp, s.rs.notup⟩ (ro.rol s.rs) w' fun d v H'' n rd q => k d v env' H'' (s.trans (n.st1 s.rs)) (.inl rd) q
theorem ROl.one (r : ROl m H S [d] vs) : ∃ x, vs = [x] ∧ RO m H S d x := by
  cases vs with
  | nil => exact r.elim
  | cons x vs => cases vs with
    | nil => exact ⟨x, rfl, r.1⟩
    | cons _ _ => exact r.2.elim
theorem ROl.two {e : D} (r : ROl m H S [d, e] vs) : ∃ x y, vs = [x, y] ∧ RO m H S d x ∧ RO m H S e y := by
  cases vs with
  | nil => exact r.elim
  | cons x vs =>
    obtain ⟨y, rfl, h⟩ := ROl.one r.2
    exact ⟨x, y, rfl, r.1, h⟩
theorem ROl.three {e f : D} (r : ROl m H S [d, e, f] vs) : ∃ x y z, vs = [x, y, z] ∧ RO m H S d x ∧ RO m H S e y ∧ RO m H S f z := by
  cases vs with
  | nil => exact r.elim
  | cons x vs =>
    obtain ⟨y, z, rfl, h⟩ := ROl.two r.2
    exact ⟨x, y, z, rfl, r.1, h⟩
theorem Fin.flat (k : Fin m H S Qd Q) (h : RD m.G m.wa H S d v) (q : Qd d) : Q v H := k _ _ _ (fun _ _ e => e) h q
theorem Fin.lst {l : List D} {xs : List V} {p : Addr} (k : Fin m H S Qd Q) (fr : ∀ p, H p = none → ¬ S p) (hp : H p = none) (r : RDs m.G m.wa H S l xs) (q : Qd (.lst l)) : Q (.ref p) (upd H p (.lst xs)) :=
  k _ _ _ (upd_ext hp) (.lst upd_same (fr p hp) (r.mono (Kp.upd hp) Sb.refl)) q
theorem Fin.newT {l : List D} {xs : List V} (k : Fin m H S Qd Q) (fr : ∀ p, H p = none → ¬ S p) (r : RDs m.G m.wa H S l xs) (q : Qd (.tup l)) : NewT H xs Q := fun p hp => by
  cases e : soft l with
  | true => exact .inl (k _ _ _ (upd_ext hp) (.tup (by rw [e]; exact upd_same) (fr p hp) (r.mono (Kp.upd hp) Sb.refl)) q)
  | false => exact .inr fun o ho => k _ _ _ (upd_ext hp) (.tup (by rw [e]; exact ⟨o, upd_same, ho⟩) (fr p hp) (r.mono (Kp.upd hp) Sb.refl)) q
theorem Fin.tup {l : List D} {xs : List V} {p : Addr} (k : Fin m H S Qd Q) (fr : ∀ p, H p = none → ¬ S p) (hp : H p = none) (hs : soft l = true) (r : RDs m.G m.wa H S l xs) (q : Qd (.tup l)) : Q (.ref p) (upd H p (.tup xs)) :=
  k _ _ _ (upd_ext hp) (.tup (by rw [hs]; exact upd_same) (fr p hp) (r.mono (Kp.upd hp) Sb.refl)) q
theorem sl_app (x y : List Nat) : (⟨(x ++ y).toArray⟩ : Str) = (⟨x.toArray⟩ : Str) ++ ⟨y.toArray⟩ := by
  show _ = Str.append _ _
  unfold Str.append
  simp
theorem sl_len (x : List Nat) : (⟨x.toArray⟩ : Str).length = x.length := by simp [Str.length]

/-! ### + - * // % -/
def rAddS : R2 := fun x y H Q => ∃ i j : Str, x = .str i ∧ y = .str j ∧ i.length + j.length ≤ sizeLine ∧ Q (.str (i ++ j)) H
def rAdd4 (K : PySem.W.Frag) : R2 := fun x y H Q => rI0 (fun i j => .int (i + j)) x y H Q ∨ rAddS x y H Q ∨ rCat x y H Q ∨ rCatB K x y H Q
theorem or_add : OpR X (binaryOp .Add) (rAdd4 X.K) := op_add.or (op_add_str.or (op_cat.or op_catB))
theorem snd_add : Snd m .add (Rb (rAdd4 m.G.K)) := by
  rintro H S ds vs Qd Q ⟨fr, nt⟩ r w k
  have w' : wAdd ds Qd := w
  unfold wAdd at w'
  split at w'
  · obtain ⟨x, y, rfl, r1, r2⟩ := r.two
    cases r1.int; cases r2.int
    exact .inl ⟨_, _, rfl, rfl, k.flat (.int _) w'⟩
  · obtain ⟨x, y, rfl, r1, r2⟩ := r.two
    cases r1.str; cases r2.str
    refine .inr (.inl ⟨_, _, rfl, rfl, ?_, ?_⟩)
    · rw [sl_len, sl_len, sizeLine_eq]; exact w'.1
    · rw [← sl_app]; exact k.flat (.str _) w'.2
  · obtain ⟨x, y, rfl, r1, r2⟩ := r.two
    obtain ⟨a, xs, rfl, ea, ra⟩ := r1.lst
    obtain ⟨b, ys, rfl, eb, rb⟩ := r2.lst
    refine .inr (.inr (.inl ⟨a, b, xs, ys, rfl, rfl, ea, eb, ?_, fun p hp => k.lst fr hp (ra.append rb) w'.2⟩))
    rw [← ra.length, ← rb.length, sizeLine_eq]; exact w'.1
  · obtain ⟨x, y, rfl, r1, r2⟩ := r.two
    obtain ⟨a, xs, rfl, ea, na, ra⟩ := r1.tupS
    obtain ⟨b, ys, rfl, eb, nb, rb⟩ := r2.tupS
    refine .inr (.inr (.inr ⟨a, b, xs, ys, rfl, rfl, ea.sq, eb.sq, ?_, fun e => ?_, fun _ e => ?_, fun _ _ => k.newT fr (ra.append rb) w'.2⟩))
    · rw [← ra.length, ← rb.length, sizeLine_eq]; exact w'.1
    · subst e
      cases ra
      exact k.flat (.tup eb nb rb) w'.2
    · subst e
      cases rb
      have q := w'.2
      rw [List.append_nil] at q
      exact k.flat (.tup ea na ra) q
  · exact w'.elim

theorem rep_arr (l : Array Nat) : ∀ (n : Nat) (acc : Array Nat), (List.replicate n l).foldl (· ++ ·) acc = acc ++ ((List.replicate n l.toList).flatten).toArray
  | 0, acc => by simp
  | n + 1, acc => by
    rw [List.replicate_succ, List.foldl_cons, rep_arr l n, List.replicate_succ, List.flatten_cons]
    apply Array.ext'
    simp
theorem mul_rep (x : List Nat) {k : Int} (h : 1 ≤ k) : Txt.mul ⟨x.toArray⟩ k = ⟨((List.replicate k.toNat x).flatten).toArray⟩ := by
  unfold Txt.mul
  rw [if_neg (by omega)]
  by_cases h2 : (k == 1 || (⟨x.toArray⟩ : Str).length == 0) = true
  · rw [if_pos h2]
    rcases Bool.or_eq_true_iff.mp h2 with e | e
    · have e1 : k = 1 := by simpa using e
      subst e1
      simp [List.replicate]
    · have e1 : x = [] := by
        have := beq_iff_eq.mp e
        rw [sl_len] at this
        exact List.eq_nil_of_length_eq_zero this
      subst e1
      congr 1
      simp
  · rw [if_neg h2]
    congr 1
    have := rep_arr x.toArray k.toNat #[]
    simpa using this
def rRepS : R2 := fun x y H Q => ∃ z k, x = .str z ∧ y = .int k ∧ z.length ≤ 16 ∧ 1 ≤ k ∧ k ≤ 1000 ∧ Q (.str (Txt.mul z k)) H
theorem op_repS : OpR X (binaryOp .Mult) rRepS := by
  intro pins s σ H x y v u Q I rx ry h
  obtain ⟨z, k, rfl, rfl, h1, h2, h3, q⟩ := h
  obtain ⟨t1, rfl⟩ := rx
  obtain ⟨t2, rfl⟩ := ry
  exact PySem.W.KXi.mul (n := z.length) rfl h1 (by omega) (by omega) fun t' k' _ _ => ⟨.str (Txt.mul z k), H, I.tok _, ⟨t', rfl⟩, q⟩
def rMul3 (K : PySem.W.Frag) : R2 := fun x y H Q => rI CMul (fun i j => .int (i * j)) x y H Q ∨ rRep x y H Q ∨ rRepN K x y H Q ∨ rRepS x y H Q
theorem or_mul : OpR X (binaryOp .Mult) (rMul3 X.K) := op_mul.or (op_rep.or (op_repN.or op_repS))
theorem RDs.rep {l : List D} {xs : List V} (r : RDs m.G m.wa H S l xs) : ∀ n : Nat, RDs m.G m.wa H S (List.replicate n l).flatten (List.replicate n xs).flatten
  | 0 => by simpa using RDs.nil
  | n + 1 => by
    rw [List.replicate_succ, List.replicate_succ, List.flatten_cons, List.flatten_cons]
    exact r.append (RDs.rep r n)
theorem snd_mul : Snd m .mul (Rb (rMul3 m.G.K)) := by
  rintro H S ds vs Qd Q ⟨fr, nt⟩ r w k
  have w' : wMul ds Qd := w
  unfold wMul at w'
  split at w'
  · obtain ⟨x, y, rfl, r1, r2⟩ := r.two
    cases r1.int; cases r2.int
    exact .inl ⟨_, _, rfl, rfl, w'.1, k.flat (.int _) w'.2⟩
  · obtain ⟨x, y, rfl, r1, r2⟩ := r.two
    obtain ⟨a, xs, rfl, ea, ra⟩ := r1.lst
    cases r2.int
    refine .inr (.inl ⟨a, _, xs, rfl, rfl, ea, w'.1.1, w'.1.2.1, ?_, fun p hp => k.lst fr hp (ra.rep _) w'.2⟩)
    rw [← ra.length, sizeLine_eq]; exact w'.1.2.2
  · obtain ⟨x, y, rfl, r1, r2⟩ := r.two
    obtain ⟨a, xs, rfl, ea, ra⟩ := r1.tup
    cases r2.int
    obtain ⟨⟨h1, h2, h3, h4⟩, q⟩ := w'
    refine .inr (.inr (.inl ⟨a, _, xs, rfl, rfl, ea.sq, ?_, h2, h3, ?_, k.newT fr (ra.rep _) q⟩))
    · intro e; subst e; cases ra; exact h1 rfl
    · rw [← ra.length]; exact h4
  · obtain ⟨x, y, rfl, r1, r2⟩ := r.two
    have e := r1.str
    subst e
    cases r2.int
    obtain ⟨⟨h1, h2, h3⟩, q⟩ := w'
    exact .inr (.inr (.inr ⟨_, _, rfl, rfl, by rw [sl_len]; exact h1, h2, h3, by rw [mul_rep _ h2]; exact k.flat (.str _) q⟩))
  · exact w'.elim
/-- ops upon ints alone -/
theorem snd_sub : Snd m .sub (Rb (rI0 fun i j => .int (i - j))) := by
  rintro H S ds vs Qd Q ⟨fr, nt⟩ r w k
  have w' : wSub ds Qd := w
  unfold wSub at w'
  split at w'
  · obtain ⟨x, y, rfl, r1, r2⟩ := r.two
    cases r1.int; cases r2.int
    exact ⟨_, _, rfl, rfl, k.flat (.int _) w'⟩
  · exact w'.elim
theorem snd_fdiv : Snd m .fdiv (Rb (rI CDiv fun i j => .int (i / j))) := by
  rintro H S ds vs Qd Q ⟨fr, nt⟩ r w k
  have w' : wFdiv ds Qd := w
  unfold wFdiv at w'
  split at w'
  · obtain ⟨x, y, rfl, r1, r2⟩ := r.two
    cases r1.int; cases r2.int
    exact ⟨_, _, rfl, rfl, w'.1, k.flat (.int _) w'.2⟩
  · exact w'.elim
theorem snd_mod : Snd m .mod (Rb (rI (fun _ j => 0 < j) fun i j => .int (i % j))) := by
  rintro H S ds vs Qd Q ⟨fr, nt⟩ r w k
  have w' : wMod ds Qd := w
  unfold wMod at w'
  split at w'
  · obtain ⟨x, y, rfl, r1, r2⟩ := r.two
    cases r1.int; cases r2.int
    exact ⟨_, _, rfl, rfl, w'.1, k.flat (.int _) w'.2⟩
  · exact w'.elim
theorem snd_pow : Snd m .pow (Rb (rI CPow fun i j => .int (i ^ j.toNat))) := by
  rintro H S ds vs Qd Q ⟨fr, nt⟩ r w k
  have w' : wPow ds Qd := w
  unfold wPow at w'
  split at w'
  · obtain ⟨x, y, rfl, r1, r2⟩ := r.two
    cases r1.int; cases r2.int
    exact ⟨_, _, rfl, rfl, w'.1, k.flat (.int _) w'.2⟩
  · exact w'.elim
theorem snd_neg : Snd m .neg (Ra (rU fun i => .int (-i))) := by
  rintro H S ds vs Qd Q ⟨fr, nt⟩ r w k
  have w' : wNeg ds Qd := w
  unfold wNeg at w'
  split at w'
  · obtain ⟨x, rfl, r1⟩ := r.one
    cases r1.int
    exact ⟨_, rfl, k.flat (.int _) w'⟩
  · exact w'.elim
/-! ### comparisons -/
theorem snd_eq : Snd m .eq (Rb (rEqD m.G.K)) := by
  rintro H S ds vs Qd Q ⟨fr, nt⟩ r w k
  have w' : wEq ds Qd := w
  unfold wEq at w'
  split at w'
  · obtain ⟨x, y, rfl, r1, r2⟩ := r.two
    obtain ⟨h1, h2, q⟩ := w'
    refine ⟨_, _, r1.dp h1, r2.dp h2, shaped_toPy h1, shaped_toPy h2, ?_⟩
    rw [eqv_toPy h1 h2]
    exact k.flat (.bl _) q
  · exact w'.elim
theorem snd_ne : Snd m .ne (Rb (rNeD m.G.K)) := by
  rintro H S ds vs Qd Q ⟨fr, nt⟩ r w k
  have w' : wNe ds Qd := w
  unfold wNe at w'
  split at w'
  · obtain ⟨x, y, rfl, r1, r2⟩ := r.two
    obtain ⟨h1, h2, q⟩ := w'
    refine ⟨_, _, r1.dp h1, r2.dp h2, shaped_toPy h1, shaped_toPy h2, ?_⟩
    rw [eqv_toPy h1 h2]
    exact k.flat (.bl _) q
  · exact w'.elim
def rOd (K : PySem.W.Frag) (f : D → D → Bool) : R2 := fun x y H Q => ∃ d e, Dp K H x (toPy d) ∧ Dp K H y (toPy e) ∧ cmpB d e 4 = true ∧ Q (.bl (f d e)) H
theorem or_od {op f z} (O : OdOk op f z) (ho : ∀ a b, compareOp op a b = richCompare op a b) (hu : X.A.units + 64 < cLine) : OpR X (compareOp op) (rOd X.K f) := by
  intro pins s σ H x y v u Q I rx ry h
  obtain ⟨d, e, hd, he, c, q⟩ := h
  obtain ⟨as, r1⟩ := Dp.reads I _ x v hd rx
  obtain ⟨bs, r2⟩ := Dp.reads I _ y u he ry
  rw [ho]
  exact rc_od O 4 d e X.A s v u as bs r1 r2 c (by omega) X.prog X.w X.xe (EP X pins σ Q) ⟨.bl _, H, I, rfl, q⟩
theorem snd_od {f : D → D → Bool} {a b : D} (fr : ∀ p, H p = none → ¬ S p) (r : ROl m H S [a, b] vs) (w : ordB a b = true ∧ Qd (.bl (f a b))) (k : Fin m H S Qd Q) : Rb (rOd m.G.K f) vs H Q := by
  obtain ⟨x, y, rfl, r1, r2⟩ := r.two
  obtain ⟨h, q⟩ := w
  unfold ordB at h
  simp only [Bool.and_eq_true] at h
  exact ⟨a, b, r1.dp h.1.1, r2.dp h.1.2, h.2, k.flat (.bl _) q⟩
theorem snd_lt : Snd m .lt (Rb (rOd m.G.K dlt)) := by
  rintro H S ds vs Qd Q ⟨fr, nt⟩ r w k
  have w' : wLt ds Qd := w
  unfold wLt at w'
  split at w'
  · exact snd_od fr r w' k
  · exact w'.elim
theorem snd_gt : Snd m .gt (Rb (rOd m.G.K fun a b => dlt b a)) := by
  rintro H S ds vs Qd Q ⟨fr, nt⟩ r w k
  have w' : wGt ds Qd := w
  unfold wGt at w'
  split at w'
  · exact snd_od (f := fun a b => dlt b a) fr r w' k
  · exact w'.elim
theorem snd_le : Snd m .le (Rb (rOd m.G.K fun a b => !dlt b a)) := by
  rintro H S ds vs Qd Q ⟨fr, nt⟩ r w k
  have w' : wLe ds Qd := w
  unfold wLe at w'
  split at w'
  · exact snd_od (f := fun a b => !dlt b a) fr r w' k
  · exact w'.elim
theorem snd_ge : Snd m .ge (Rb (rOd m.G.K fun a b => !dlt a b)) := by
  rintro H S ds vs Qd Q ⟨fr, nt⟩ r w k
  have w' : wGe ds Qd := w
  unfold wGe at w'
  split at w'
  · exact snd_od (f := fun a b => !dlt a b) fr r w' k
  · exact w'.elim
def rIsN1 : V → Hp → VK → Prop := fun x H Q => Q (.bl (decide (x = .non))) H
def rNotN1 : V → Hp → VK → Prop := fun x H Q => Q (.bl (!decide (x = .non))) H
theorem RO.isN (c : isClo d = false) (r : RO m H S d v) : decide (v = .non) = isNon d := by
  rcases r with (r | r) | ⟨a, rfl, r⟩
  · cases r <;> rfl
  · rw [m.clo r] at c; cases c
  · cases r <;> rfl
theorem snd_isN : Snd m .isN (Ra rIsN1) := by
  rintro H S ds vs Qd Q ⟨fr, nt⟩ r w k
  have w' : wIsn ds Qd := w
  unfold wIsn at w'
  split at w'
  · obtain ⟨x, rfl, r1⟩ := r.one
    show Q (.bl (decide (x = .non))) H
    rw [r1.isN w'.1]
    exact k.flat (.bl _) w'.2
  · exact w'.elim
theorem snd_isnN : Snd m .isnN (Ra rNotN1) := by
  rintro H S ds vs Qd Q ⟨fr, nt⟩ r w k
  have w' : wIsnn ds Qd := w
  unfold wIsnn at w'
  split at w'
  · obtain ⟨x, rfl, r1⟩ := r.one
    show Q (.bl (!decide (x = .non))) H
    rw [r1.isN w'.1]
    exact k.flat (.bl _) w'.2
  · exact w'.elim
def rIsBl : R2 := fun x y H Q => ∃ a b, x = .bl a ∧ y = .bl b ∧ Q (.bl (decide (a = b))) H
def rIsnBl : R2 := fun x y H Q => ∃ a b, x = .bl a ∧ y = .bl b ∧ Q (.bl (!decide (a = b))) H
theorem snd_isB : Snd m .isB (Rb rIsBl) := by
  rintro H S ds vs Qd Q ⟨fr, nt⟩ r w k
  have w' : wIsb ds Qd := w
  unfold wIsb at w'
  split at w'
  · obtain ⟨x, y, rfl, r1, r2⟩ := r.two
    cases r1.bl; cases r2.bl
    exact ⟨_, _, rfl, rfl, k.flat (.bl _) w'⟩
  · exact w'.elim
theorem snd_isnB : Snd m .isnB (Rb rIsnBl) := by
  rintro H S ds vs Qd Q ⟨fr, nt⟩ r w k
  have w' : wIsnb ds Qd := w
  unfold wIsnb at w'
  split at w'
  · obtain ⟨x, y, rfl, r1, r2⟩ := r.two
    cases r1.bl; cases r2.bl
    exact ⟨_, _, rfl, rfl, k.flat (.bl _) w'⟩
  · exact w'.elim

/-! ### in, len, calls of built-ins by values -/
theorem toK_kD {d : D} {k : Key} (h : toK d = some k) : d = kD k := by
  cases d <;> simp [toK] at h
  · subst h; rfl
  · subst h; simp [kD]
theorem toKl_kD : ∀ {l : List D} {ks : List Key}, toKl l = some ks → l = ks.map kD
  | [], ks, h => by simp [toKl] at h; subst h; rfl
  | d :: l, ks, h => by
    simp only [toKl] at h
    split at h
    · rename_i k ks' h1 h2
      cases h
      rw [List.map_cons, ← toK_kD h1, ← toKl_kD h2]
    · cases h
theorem toKs_kD {d : D} {ks : List Key} (h : toKs d = some ks) : d = kDs ks := by
  cases d <;> simp [toKs] at h
  rename_i l
  unfold kDs
  rw [← toKl_kD (l := l) h.2]
theorem soft_has : ∀ ks : List Key, soft (ks.map kD) = hasS ks
  | [] => rfl
  | k :: ks => by
    have ih := soft_has ks
    show (!tupD (kD k) || soft (ks.map kD)) = (k.isRight || hasS ks)
    rw [ih]
    cases k <;> rfl
theorem toKs_ne {d : D} {ks : List Key} (h : toKs d = some ks) : hasS ks = true := by
  have e := toKs_kD h
  subst e
  rw [← soft_has]
  have h' : (if soft (ks.map kD) = true then toKl (ks.map kD) else none) = some ks := h
  by_cases c : soft (ks.map kD) = true
  · exact c
  · rw [if_neg c] at h'; cases h'
theorem soft_keys {ks : List Key} (h : hasS ks = true) : soft (ks.map kD) = true := by rw [soft_has]; exact h
theorem RD.key {G : Wd} {wa : Addr} {k : Key} (r : RD G wa H S (kD k) v) : v = kV k := by
  cases k with
  | inl i => cases r; rfl
  | inr x => cases r; rfl
theorem RO.key {k : Key} (r : RO m H S (kD k) v) : v = kV k := by
  cases k with
  | inl i => exact r.int
  | inr x => exact r.str
theorem RDs.keys {G : Wd} {wa : Addr} : ∀ {ks : List Key} {vs : List V}, RDs G wa H S (ks.map kD) vs → vs = ks.map kV
  | [], _, h => by cases h; rfl
  | k :: ks, _, h => by
    cases h with
    | cons r t => rw [r.key, RDs.keys t]; rfl
theorem deq_kD (a b : Key) : deq (kD a) (kD b) = decide (a = b) := by
  cases a with
  | inl i => cases b with
    | inl j => rw [key_ll]; rfl
    | inr y => rw [key_lr]; rfl
  | inr x => cases b with
    | inl j => rw [key_rl]; rfl
    | inr y =>
      rw [key_rr]
      show (x.cps.toList == y.cps.toList) = _
      by_cases h : x = y
      · subst h; simp
      · rw [decide_eq_false h, beq_eq_false_iff_ne]
        intro e
        apply h
        cases x; cases y
        simpa using e
theorem deq_kDs : ∀ a b : List Key, deqs (a.map kD) (b.map kD) = decide (a = b)
  | [], [] => rfl
  | [], _ :: _ => by simp [deqs]
  | _ :: _, [] => by simp [deqs]
  | x :: xs, y :: ys => by
    show (deq (kD x) (kD y) && deqs (xs.map kD) (ys.map kD)) = _
    rw [deq_kD, deq_kDs xs ys]
    by_cases h : x = y
    · subst h; by_cases h2 : xs = ys
      · subst h2; simp
      · simp [h2]
    · simp [h]
def OptR (m : Am) (H : Hp) (S : Addr → Prop) : Option D → Option V → Prop
  | some d, some v => RD m.G m.wa H S d v
  | none, none => True
  | _, _ => False
/-- a dict's value at a key, by its pairs -/
theorem dGet_k : ∀ (ks : List Key) (xs : List V) (ds : List D) (k : Key), ks.length = xs.length → RDs m.G m.wa H S ds xs → OptR m H S (dGet ((ks.map kD).zip ds) (kD k)) (valV (ks.zip xs) k)
  | [], xs, ds, k, _, _ => by simp [dGet, valV, OptR]
  | k0 :: ks, [], ds, k, h, _ => by simp at h
  | k0 :: ks, x :: xs, _, k, h, .cons (d := d) (ds := ds) r t => by
    have ih := dGet_k ks xs ds k (by simpa using h) t
    show OptR m H S (if deq (kD k0) (kD k) = true then some d else dGet ((ks.map kD).zip ds) (kD k)) (valV ((k0, x) :: ks.zip xs) k)
    rw [deq_kD]
    by_cases e : k0 = k
    · rw [if_pos (decide_eq_true e), valV_pos (p := (k0, x)) e]
      exact r
    · rw [if_neg (by simpa using e), valV_neg (p := (k0, x)) e]
      exact ih
theorem dGet_ks : ∀ (ks : List (List Key)) (xs : List V) (ds : List D) (k : List Key), ks.length = xs.length → RDs m.G m.wa H S ds xs → OptR m H S (dGet ((ks.map kDs).zip ds) (kDs k)) (valV (ks.zip xs) k)
  | [], xs, ds, k, _, _ => by simp [dGet, valV, OptR]
  | k0 :: ks, [], ds, k, h, _ => by simp at h
  | k0 :: ks, x :: xs, _, k, h, .cons (d := d) (ds := ds) r t => by
    have ih := dGet_ks ks xs ds k (by simpa using h) t
    show OptR m H S (if deqs (k0.map kD) (k.map kD) = true then some d else dGet ((ks.map kDs).zip ds) (kDs k)) (valV ((k0, x) :: ks.zip xs) k)
    rw [deq_kDs]
    by_cases e : k0 = k
    · rw [if_pos (decide_eq_true e), valV_pos (p := (k0, x)) e]
      exact r
    · rw [if_neg (by simpa using e), valV_neg (p := (k0, x)) e]
      exact ih
theorem RO.dctF {l} (r : RO m H S (.dct false l) v) : ∃ (a : Addr) (ks : List Key) (xs : List V) (ds : List D), v = .ref a ∧ l = (ks.map kD).zip ds ∧ Rd H a (.dK (ks.zip xs)) ∧ ks.length = xs.length ∧ RDs m.G m.wa H S ds xs := by
  rcases r with (r | r) | ⟨a, rfl, r⟩
  · cases r with
    | dK e n l r => exact ⟨_, _, _, _, rfl, rfl, .inr ⟨_, e⟩, l, r⟩
  · cases m.clo r
  · cases r with
    | dK e l r => exact ⟨_, _, _, _, rfl, rfl, .inl e, l, r⟩
theorem RO.dctT {l} (r : RO m H S (.dct true l) v) : ∃ (a : Addr) (ks : List (List Key)) (xs : List V) (ds : List D), v = .ref a ∧ l = (ks.map kDs).zip ds ∧ Rd H a (.dT (ks.zip xs)) ∧ ks.length = xs.length ∧ RDs m.G m.wa H S ds xs := by
  rcases r with (r | r) | ⟨a, rfl, r⟩
  · cases r with
    | dT e n l r => exact ⟨_, _, _, _, rfl, rfl, .inr ⟨_, e⟩, l.1, r⟩
  · cases m.clo r
  · cases r with
    | dT e l r => exact ⟨_, _, _, _, rfl, rfl, .inl e, l.1, r⟩
/-- looking a key up -/
theorem look_ok {tk : Bool} {l : List (D × D)} {kd : D} {x y : V} {o : Option D} (r1 : RO m H S (.dct tk l) x) (r2 : RO m H S kd y) (w : dLook (.dct tk l) kd = some o) :
    ∃ a ov, x = .ref a ∧ DGet H a y ov ∧ OptR m H S o ov := by
  cases tk with
  | false =>
    obtain ⟨a, ks, xs, ds, rfl, rfl, e, hl, r⟩ := r1.dctF
    simp only [dLook] at w
    cases hk : toK kd with
    | none => rw [hk] at w; cases w
    | some k =>
      rw [hk] at w
      cases w
      have e2 := toK_kD hk
      subst e2
      have e3 := r2.key
      subst e3
      exact ⟨a, _, rfl, .inl ⟨_, _, e, rfl, rfl⟩, dGet_k ks xs ds k hl r⟩
  | true =>
    obtain ⟨a, ks, xs, ds, rfl, rfl, e, hl, r⟩ := r1.dctT
    simp only [dLook] at w
    cases hk : toKs kd with
    | none => rw [hk] at w; cases w
    | some k =>
      rw [hk] at w
      cases w
      have e2 := toKs_kD hk
      subst e2
      obtain ⟨b, ys, rfl, eb, rb⟩ := r2.tup
      have e3 := rb.keys
      subst e3
      rw [soft_keys (toKs_ne hk)] at eb
      exact ⟨a, _, rfl, .inr ⟨_, _, _, e, rfl, eb, rfl⟩, dGet_ks ks xs ds k hl r⟩
end
end SD

set_option Elab.async false
set_option linter.all false
set_option maxRecDepth 100000
set_option maxHeartbeats 4000000
namespace SD
open PySem PySem.Spec PyProof.Rows L2
section
variable {m : Am} {X : Cx} {k : Nat} {t : Tb} {Ex : ExV → DEnv → Prop} {σ : L2.St} {H : Hp} {S : Addr → Prop} {env : DEnv} {ds : List D} {vs : List V} {Qd : D → Prop} {Q : VK} {d : D} {v : V}
theorem RO.flatV (h : flatK d = true) (r : RO m H S d v) : L2.flatV v = true := by
  cases d <;> first | exact absurd h Bool.false_ne_true | (have e := r.non; subst e; rfl) | (have e := r.bl; subst e; rfl) | (have e := r.int; subst e; rfl) | (have e := r.str; subst e; rfl)
theorem eqV_flat {e : D} {u : V} (h1 : flatK d = true) (h2 : flatK e = true) (r1 : RO m H S d v) (r2 : RO m H S e u) : eqV v u = deq d e := by
  cases d <;> first | exact absurd h1 Bool.false_ne_true | skip
  all_goals cases e <;> first | exact absurd h2 Bool.false_ne_true | skip
  all_goals
    first | (have e1 := r1.non; subst e1) | (have e1 := r1.bl; subst e1) | (have e1 := r1.int; subst e1) | (have e1 := r1.str; subst e1)
    first | (have e2 := r2.non; subst e2) | (have e2 := r2.bl; subst e2) | (have e2 := r2.int; subst e2) | (have e2 := r2.str; subst e2)
    first | rfl | exact str_beq _ _
theorem RDs.flat : ∀ {l : List D} {xs : List V} {x : D} {u : V}, l.all flatK = true → flatK x = true → RDs m.G m.wa H S l xs → RO m H S x u → xs.all L2.flatV = true ∧ inV u xs = l.any fun z => deq z x
  | [], _, _, _, _, _, .nil, _ => ⟨rfl, rfl⟩
  | d :: l, _, x, u, h, hx, .cons (v := v) (vs := vs) r t, rx => by
    rw [List.all_cons, Bool.and_eq_true] at h
    obtain ⟨a, b⟩ := RDs.flat h.2 hx t rx
    have rr : RO m H S d v := .inl (.inl r)
    refine ⟨?_, ?_⟩
    · rw [List.all_cons, rr.flatV h.1, a] <;> rfl
    · unfold inV at b ⊢
      rw [List.any_cons, List.any_cons, eqV_flat h.1 hx rr rx, b]
def rInSg (neg : Bool) : R2 := fun x y H Q => ∃ (c : Nat) (z : Str), x = .str ⟨#[c]⟩ ∧ y = .str z ∧ Q (.bl (if neg then !decide (c ∈ z.cps.toList) else decide (c ∈ z.cps.toList))) H
def rInDc (neg : Bool) : R2 := fun x y H Q => ∃ a o, y = .ref a ∧ DGet H a x o ∧ Q (.bl (if neg then !o.isSome else o.isSome)) H
theorem or_inSg : OpR X (compareOp .In) (rInSg false) := by
  intro pins s σ H x y v u Q I rx ry ⟨c, z, h1, h2, q⟩
  exact op_in_sign pins s σ H x y v u Q I rx ry ⟨c, z, h1, h2, q⟩
theorem or_ninSg : OpR X (compareOp .NotIn) (rInSg true) := by
  intro pins s σ H x y v u Q I rx ry ⟨c, z, h1, h2, q⟩
  exact op_notIn_sign pins s σ H x y v u Q I rx ry ⟨c, z, h1, h2, q⟩
theorem or_inDc (hu : X.A.units + 1 < cLine) : OpR X (compareOp .In) (rInDc false) := by
  intro pins s σ H x y v u Q I rx ry ⟨a, o, h1, g, q⟩
  subst h1
  cases ry
  exact d_in hu I g rx fun s' I' => ⟨.bl _, H, I', rfl, q⟩
theorem or_ninDc (hu : X.A.units + 1 < cLine) : OpR X (compareOp .NotIn) (rInDc true) := by
  intro pins s σ H x y v u Q I rx ry ⟨a, o, h1, g, q⟩
  subst h1
  cases ry
  exact d_notIn hu I g rx fun s' I' => ⟨.bl _, H, I', rfl, q⟩
def rIn4 (K : PySem.W.Frag) : R2 := fun x y H Q => rInSg false x y H Q ∨ rIn K false x y H Q ∨ rInD K x y H Q ∨ rInDc false x y H Q
def rNin4 (K : PySem.W.Frag) : R2 := fun x y H Q => rInSg true x y H Q ∨ rIn K true x y H Q ∨ rNotInD K x y H Q ∨ rInDc true x y H Q
theorem or_in (hu : X.A.units + 65 < cLine) : OpR X (compareOp .In) (rIn4 X.K) := or_inSg.or (op_in_seq.or ((op_inD hu).or (or_inDc (by omega))))
theorem or_nin (hu : X.A.units + 65 < cLine) : OpR X (compareOp .NotIn) (rNin4 X.K) := or_ninSg.or (op_notIn_seq.or ((op_notInD hu).or (or_ninDc (by omega))))
theorem anyPy (x : D) (hx : okD x 20 = true) : ∀ (l : List D), okDs l 20 = true → ((toPys l).any fun z => PyData.eqv z (toPy x)) = l.any fun z => deq z x
  | [], _ => rfl
  | d :: l, h => by
    have h' : (okD d 20 && okDs l 20) = true := h
    rw [Bool.and_eq_true] at h'
    show (PyData.eqv (toPy d) (toPy x) || _) = _
    rw [List.any_cons, eqv_toPy h'.1 hx, anyPy x hx l h'.2]
theorem in_cases {x c : D} {b : Bool} {u w : V} (h : isIn x c = some b) (r1 : RO m H S x u) (r2 : RO m H S c w) :
    (∃ (n : Nat) (z : Str), u = .str ⟨#[n]⟩ ∧ w = .str z ∧ b = decide (n ∈ z.cps.toList)) ∨
    (∃ p xs, w = .ref p ∧ (SqL m.G.K H p xs ∨ SqT m.G.K H p xs) ∧ L2.flatV u = true ∧ xs.all L2.flatV = true ∧ b = inV u xs) ∨
    (∃ d ds, Dp m.G.K H u d ∧ Dp m.G.K H w (.list ds) ∧ SeqAt.shaped d = true ∧ SeqAt.shaped (.list ds) = true ∧ b = ds.any fun z => PyData.eqv z d) ∨
    (∃ a o, w = .ref a ∧ DGet H a u o ∧ b = o.isSome) := by
  unfold isIn at h
  split at h
  · rename_i l
    split at h
    · rename_i hh
      rw [Bool.and_eq_true] at hh
      cases h
      refine .inr (.inr (.inl ⟨toPy x, toPys l, r1.dp hh.1, ?_, shaped_toPy hh.1, ?_, (anyPy x hh.1 l hh.2).symm⟩))
      · exact RO.dp (d := .lst l) (n := 21) hh.2 r2
      · obtain ⟨p, q⟩ := lays_toPys hh.2
        unfold SeqAt.shaped
        rw [show (PyData.list (toPys l)).canLay0 = true from p, decide_eq_true (show (PyData.list (toPys l)).depth ≤ 64 by show PyData.depthAll (toPys l) + 1 ≤ 64; omega)]
        rfl
    · cases h
  · rename_i l
    split at h
    · rename_i hh
      rw [Bool.and_eq_true] at hh
      cases h
      obtain ⟨a, xs, rfl, e, r⟩ := r2.tup
      obtain ⟨f1, f2⟩ := RDs.flat hh.2 hh.1 r r1
      exact .inr (.inl ⟨a, xs, rfl, .inr e.sq, r1.flatV hh.1, f1, f2.symm⟩)
    · cases h
  · rename_i l
    split at h
    · rename_i hh
      rw [Bool.and_eq_true] at hh
      cases h
      obtain ⟨a, xs, rfl, e, r⟩ := r2.ktup
      obtain ⟨f1, f2⟩ := RDs.flat hh.2 hh.1 r r1
      exact .inr (.inl ⟨a, xs, rfl, .inr e, r1.flatV hh.1, f1, f2.symm⟩)
    · cases h
  · rename_i z
    split at h
    · rename_i c
      cases h
      have e1 := r1.str
      have e2 := r2.str
      subst e1 e2
      exact .inl ⟨c, _, rfl, rfl, by simp⟩
    · cases h
  · rename_i tk l
    cases hl : dLook (.dct tk l) x with
    | none => rw [hl] at h; cases h
    | some o =>
      rw [hl] at h
      cases h
      obtain ⟨a, ov, rfl, g, rel⟩ := look_ok r2 r1 hl
      refine .inr (.inr (.inr ⟨a, ov, rfl, g, ?_⟩))
      cases o <;> cases ov <;> first | rfl | exact rel.elim
  · cases h
theorem snd_in : Snd m .inn (Rb (rIn4 m.G.K)) := by
  rintro H S ds vs Qd Q ⟨fr, nt⟩ r w k
  have w' : wInn ds Qd := w
  unfold wInn at w'
  split at w'
  · obtain ⟨x, y, rfl, r1, r2⟩ := r.two
    obtain ⟨b, h, q⟩ := w'
    have fin := k.flat (.bl _) q
    rcases in_cases h r1 r2 with ⟨n, z, rfl, rfl, rfl⟩ | ⟨p, xs, rfl, h1, h2, h3, rfl⟩ | ⟨d, ds, h1, h2, h3, h4, rfl⟩ | ⟨a, o, rfl, g, rfl⟩
    · exact .inl ⟨n, z, rfl, rfl, fin⟩
    · exact .inr (.inl ⟨p, xs, rfl, h1, h2, h3, fin⟩)
    · exact .inr (.inr (.inl ⟨d, ds, h1, h2, h3, h4, fin⟩))
    · exact .inr (.inr (.inr ⟨a, o, rfl, g, fin⟩))
  · exact w'.elim
theorem snd_nin : Snd m .nin (Rb (rNin4 m.G.K)) := by
  rintro H S ds vs Qd Q ⟨fr, nt⟩ r w k
  have w' : wNin ds Qd := w
  unfold wNin at w'
  split at w'
  · obtain ⟨x, y, rfl, r1, r2⟩ := r.two
    obtain ⟨b, h, q⟩ := w'
    have fin := k.flat (.bl _) q
    rcases in_cases h r1 r2 with ⟨n, z, rfl, rfl, rfl⟩ | ⟨p, xs, rfl, h1, h2, h3, rfl⟩ | ⟨d, ds, h1, h2, h3, h4, rfl⟩ | ⟨a, o, rfl, g, rfl⟩
    · exact .inl ⟨n, z, rfl, rfl, fin⟩
    · exact .inr (.inl ⟨p, xs, rfl, h1, h2, h3, fin⟩)
    · exact .inr (.inr (.inl ⟨d, ds, h1, h2, h3, h4, fin⟩))
    · exact .inr (.inr (.inr ⟨a, o, rfl, g, fin⟩))
  · exact w'.elim
/-! ### built-in functions -/
def rAbs1 : List V → Hp → VK → Prop := fun xs H Q => ∃ i, xs = [.int i] ∧ Q (.int (if i < 0 then -i else i)) H
theorem snd_abs : Snd m .abs rAbs1 := by
  rintro H S ds vs Qd Q ⟨fr, nt⟩ r w k
  have w' : wAbs ds Qd := w
  unfold wAbs at w'
  split at w'
  · obtain ⟨x, rfl, r1⟩ := r.one
    cases r1.int
    exact ⟨_, rfl, k.flat (.int _) w'⟩
  · exact w'.elim
def rInt1 : List V → Hp → VK → Prop := fun xs H Q => (∃ i, xs = [.int i] ∧ Q (.int i) H) ∨ ∃ k, xs = [.bl k] ∧ Q (.int (if k then 1 else 0)) H
theorem snd_int : Snd m .int_ rInt1 := by
  rintro H S ds vs Qd Q ⟨fr, nt⟩ r w k
  have w' : wInt ds Qd := w
  unfold wInt at w'
  split at w'
  · obtain ⟨x, rfl, r1⟩ := r.one
    cases r1.int
    exact .inl ⟨_, rfl, k.flat (.int _) w'⟩
  · obtain ⟨x, rfl, r1⟩ := r.one
    cases r1.bl
    exact .inr ⟨_, rfl, k.flat (.int _) w'⟩
  · exact w'.elim
def rBool1 : List V → Hp → VK → Prop := fun xs H Q => (∃ i, xs = [.int i] ∧ Q (.bl (i != 0)) H) ∨ ∃ k, xs = [.bl k] ∧ Q (.bl k) H
theorem snd_bool : Snd m .bool_ rBool1 := by
  rintro H S ds vs Qd Q ⟨fr, nt⟩ r w k
  have w' : wBool ds Qd := w
  unfold wBool at w'
  split at w'
  · obtain ⟨x, rfl, r1⟩ := r.one
    cases r1.bl
    exact .inr ⟨_, rfl, k.flat (.bl _) w'⟩
  · exact w'.elim
def rMax2' : List V → Hp → VK → Prop := fun xs H Q => ∃ i j, xs = [.int i, .int j] ∧ Q (.int (if j > i then j else i)) H
def rMin2' : List V → Hp → VK → Prop := fun xs H Q => ∃ i j, xs = [.int i, .int j] ∧ Q (.int (if j < i then j else i)) H
theorem snd_max2 : Snd m .max2 rMax2' := by
  rintro H S ds vs Qd Q ⟨fr, nt⟩ r w k
  have w' : wMax2 ds Qd := w
  unfold wMax2 at w'
  split at w'
  · obtain ⟨x, y, rfl, r1, r2⟩ := r.two
    cases r1.int; cases r2.int
    exact ⟨_, _, rfl, k.flat (.int _) w'⟩
  · exact w'.elim
theorem snd_min2 : Snd m .min2 rMin2' := by
  rintro H S ds vs Qd Q ⟨fr, nt⟩ r w k
  have w' : wMin2 ds Qd := w
  unfold wMin2 at w'
  split at w'
  · obtain ⟨x, y, rfl, r1, r2⟩ := r.two
    cases r1.int; cases r2.int
    exact ⟨_, _, rfl, k.flat (.int _) w'⟩
  · exact w'.elim
theorem snd_tuple : Snd m .tuple_ (rTupleB m.G.K) := by
  rintro H S ds vs Qd Q ⟨fr, nt⟩ r w k
  have w' : wTuple ds Qd := w
  unfold wTuple at w'
  split at w'
  · obtain ⟨x, rfl, r1⟩ := r.one
    obtain ⟨a, xs, rfl, e, ra⟩ := r1.lst
    exact ⟨_, _, rfl, .inl ⟨SqL.of e, k.newT fr ra w'⟩⟩
  · obtain ⟨x, rfl, r1⟩ := r.one
    obtain ⟨a, xs, rfl, e, n, ra⟩ := r1.tupS
    exact ⟨_, _, rfl, .inr ⟨e.sq, k.flat (.tup e n ra) w'⟩⟩
  · exact w'.elim
theorem unI_all : ∀ {l : List D} {xs : List V} {ns : List Int}, allSome (l.map unI) = some ns → RDs m.G m.wa H S l xs → xs = ns.map V.int
  | [], _, ns, h, .nil => by simp [allSome] at h; subst h; rfl
  | d :: l, _, ns, h, .cons (v := v) r t => by
    cases d <;> simp only [List.map_cons, unI, allSome] at h <;> first | (cases h; done) | skip
    cases hh : allSome (l.map unI) with
    | none => rw [hh] at h; cases h
    | some ns' =>
      rw [hh] at h
      cases h
      cases r
      rw [unI_all hh t]; rfl
theorem unB_all : ∀ {l : List D} {xs : List V} {ns : List Bool}, allSome (l.map unB) = some ns → RDs m.G m.wa H S l xs → xs = ns.map V.bl
  | [], _, ns, h, .nil => by simp [allSome] at h; subst h; rfl
  | d :: l, _, ns, h, .cons (v := v) r t => by
    cases d <;> simp only [List.map_cons, unB, allSome] at h <;> first | (cases h; done) | skip
    cases hh : allSome (l.map unB) with
    | none => rw [hh] at h; cases h
    | some ns' =>
      rw [hh] at h
      cases h
      cases r
      rw [unB_all hh t]; rfl
theorem snd_sum : Snd m .sum (rSum m.G.K) := by
  rintro H S ds vs Qd Q ⟨fr, nt⟩ r w k
  have w' : wSum ds Qd := w
  unfold wSum at w'
  split at w'
  · obtain ⟨x, rfl, r1⟩ := r.one
    obtain ⟨a, xs, rfl, e, ra⟩ := r1.lst
    obtain ⟨ns, h, q⟩ := w'
    have e2 := unI_all h ra
    subst e2
    exact ⟨_, ns, rfl, SqL.of e, k.flat (.int _) q⟩
  · exact w'.elim
theorem snd_max1 : Snd m .max1 (rMax m.G.K) := by
  rintro H S ds vs Qd Q ⟨fr, nt⟩ r w k
  have w' : wMax1 ds Qd := w
  unfold wMax1 at w'
  split at w'
  · obtain ⟨x, rfl, r1⟩ := r.one
    obtain ⟨a, xs, rfl, e, ra⟩ := r1.lst
    obtain ⟨ns, h, hn, q⟩ := w'
    have e2 := unI_all h ra
    subst e2
    exact ⟨_, ns, rfl, SqL.of e, List.length_pos_iff.mpr hn, fun m h1 h2 => k.flat (.int _) (q m h1 h2)⟩
  · exact w'.elim
theorem snd_min1 : Snd m .min1 (rMin m.G.K) := by
  rintro H S ds vs Qd Q ⟨fr, nt⟩ r w k
  have w' : wMin1 ds Qd := w
  unfold wMin1 at w'
  split at w'
  · obtain ⟨x, rfl, r1⟩ := r.one
    obtain ⟨a, xs, rfl, e, ra⟩ := r1.lst
    obtain ⟨ns, h, hn, q⟩ := w'
    have e2 := unI_all h ra
    subst e2
    exact ⟨_, ns, rfl, SqL.of e, List.length_pos_iff.mpr hn, fun m h1 h2 => k.flat (.int _) (q m h1 h2)⟩
  · exact w'.elim
theorem snd_all : Snd m .all_ (rAll m.G.K) := by
  rintro H S ds vs Qd Q ⟨fr, nt⟩ r w k
  have w' : wAll ds Qd := w
  unfold wAll at w'
  split at w'
  · obtain ⟨x, rfl, r1⟩ := r.one
    obtain ⟨a, xs, rfl, e, ra⟩ := r1.lst
    obtain ⟨ns, h, q⟩ := w'
    have e2 := unB_all h ra
    subst e2
    exact ⟨_, ns, rfl, SqL.of e, k.flat (.bl _) q⟩
  · exact w'.elim
theorem snd_any : Snd m .any_ (rAny m.G.K) := by
  rintro H S ds vs Qd Q ⟨fr, nt⟩ r w k
  have w' : wAny ds Qd := w
  unfold wAny at w'
  split at w'
  · obtain ⟨x, rfl, r1⟩ := r.one
    obtain ⟨a, xs, rfl, e, ra⟩ := r1.lst
    obtain ⟨ns, h, q⟩ := w'
    have e2 := unB_all h ra
    subst e2
    exact ⟨_, ns, rfl, SqL.of e, k.flat (.bl _) q⟩
  · exact w'.elim
/-! ### items and slices -/
theorem RDs.atI {l : List D} {xs : List V} {i : Int} (r : RDs m.G m.wa H S l xs) (h : atI l i = some d) : ∃ v, L2.atI xs i = some v ∧ RD m.G m.wa H S d v := by
  unfold L2.atI at h ⊢
  rw [← r.length]
  cases e : ixN l.length i with
  | none => rw [e] at h; cases h
  | some j =>
    rw [e] at h
    exact r.get h
def rIx4 (K : PySem.W.Frag) : R2 := fun x y H Q => rIx K x y H Q ∨ ∃ a v, x = .ref a ∧ DGet H a y (some v) ∧ Q v H
theorem ix_dct (hu : X.A.units + 1 < cLine) : IxR X (fun x y H Q => ∃ a v, x = .ref a ∧ DGet H a y (some v) ∧ Q v H) := by
  intro value slice pins s σ H x y v u Q I rx ry ⟨a, w, h1, g, q⟩ hs
  subst h1
  cases rx
  exact tail_any (dict_typeIs I g) PySem.F.slot_dict_getitem.lookup (d_getItem hu I g ry fun w' s3 I3 rw' => ⟨w, H, I3, rw', q⟩) hs
theorem snd_idx : Snd m .idx (Rb (rIx4 m.G.K)) := by
  rintro H S ds vs Qd Q ⟨fr, nt⟩ r w k
  have w' : wIdx ds Qd := w
  unfold wIdx at w'
  split at w'
  · obtain ⟨x, y, rfl, r1, r2⟩ := r.two
    obtain ⟨a, xs, rfl, e, ra⟩ := r1.lst
    cases r2.int
    obtain ⟨d, h, q⟩ := w'
    obtain ⟨v, hv, rv⟩ := ra.atI h
    exact .inl (.inl ⟨a, xs, _, v, rfl, rfl, SqL.of e, hv, k.flat rv q⟩)
  · obtain ⟨x, y, rfl, r1, r2⟩ := r.two
    obtain ⟨a, xs, rfl, e, ra⟩ := r1.tup
    cases r2.int
    obtain ⟨d, h, q⟩ := w'
    obtain ⟨v, hv, rv⟩ := ra.atI h
    exact .inl (.inr (.inl ⟨a, xs, _, v, rfl, rfl, e.sq, hv, k.flat rv q⟩))
  · obtain ⟨x, y, rfl, r1, r2⟩ := r.two
    obtain ⟨a, xs, rfl, e, ra⟩ := r1.ktup
    cases r2.int
    obtain ⟨d, h, q⟩ := w'
    obtain ⟨v, hv, rv⟩ := ra.atI h
    exact .inl (.inr (.inl ⟨a, xs, _, v, rfl, rfl, e, hv, k.flat rv q⟩))
  · obtain ⟨x, y, rfl, r1, r2⟩ := r.two
    obtain ⟨a, xs, rfl, e, ra⟩ := r1.rl
    cases r2.int
    obtain ⟨d, h, q⟩ := w'
    obtain ⟨v, hv, rv⟩ := ra.atI h
    exact .inl (.inl ⟨a, xs, _, v, rfl, rfl, e, hv, k.flat rv q⟩)
  · obtain ⟨x, y, rfl, r1, r2⟩ := r.two
    have e := r1.str
    subst e
    cases r2.int
    obtain ⟨hz, c, h, q⟩ := w'
    refine .inl (.inr (.inr ⟨_, _, c, rfl, rfl, ?_, by simpa using h, k.flat (.str [c]) q⟩))
    rw [sl_len, sizeLine_eq]; exact hz
  · obtain ⟨x, y, rfl, r1, r2⟩ := r.two
    obtain ⟨d, h, q⟩ := w'
    obtain ⟨a, ov, rfl, g, rel⟩ := look_ok r1 r2 h
    cases ov with
    | none => exact rel.elim
    | some v => exact .inr ⟨a, v, rfl, g, k.flat rel q⟩
  · exact w'.elim
def rDivmod : List V → Hp → VK → Prop := fun xs H Q => ∃ i j, xs = [.int i, .int j] ∧ CDiv i j ∧ ∀ p, H p = none → Q (.ref p) (upd H p (.tup [.int (i / j), .int (i % j)]))
theorem snd_divmod : Snd m .divmod rDivmod := by
  rintro H S ds vs Qd Q ⟨fr, nt⟩ r w k
  have w' : wDivmod ds Qd := w
  unfold wDivmod at w'
  split at w'
  · obtain ⟨x, y, rfl, r1, r2⟩ := r.two
    cases r1.int; cases r2.int
    exact ⟨_, _, rfl, w'.1, fun p hp => k _ _ _ (upd_ext hp) (.stup upd_same (fr p hp) (.cons (.int _) (.cons (.int _) .nil))) w'.2⟩
  · exact w'.elim
end
end SD

set_option Elab.async false
set_option linter.all false
set_option maxRecDepth 100000
set_option maxHeartbeats 4000000
namespace SD
open PySem PySem.Spec PyProof.Rows L2
section
variable {m : Am} {X : Cx} {k : Nat} {t : Tb} {Ex : ExV → DEnv → Prop} {σ : L2.St} {H : Hp} {S : Addr → Prop} {env : DEnv} {ds : List D} {vs : List V} {Qd : D → Prop} {Q : VK} {d : D} {v : V}
/-! ### slices -/
abbrev rSl3 (K : PySem.W.Frag) : V → Option Int → Option Int → Hp → VK → Prop := fun x lo hi H Q => rSlL K x lo hi H Q ∨ rSlB K x lo hi H Q ∨ rSlS x lo hi H Q
theorem or_sl : SlR X (rSl3 X.K) := sl_list.or (sl_tupB.or sl_str)
theorem RDs.cut {l : List D} {xs : List V} (r : RDs m.G m.wa H S l xs) (lo hi : Option Int) : RDs m.G m.wa H S (dCut l lo hi) (cutV xs lo hi) := by
  unfold dCut cutV
  rw [← r.length]
  exact (r.drop _).take _
theorem sl_ok {lo hi : Option Int} {x : V} (fr : ∀ p, H p = none → ¬ S p) (r : RO m H S d x) (w : slW d lo hi Qd) (k : Fin m H S Qd Q) : rSl3 m.G.K x lo hi H Q := by
  cases d <;> first | exact w.elim | skip
  · rename_i l
    have e := r.str
    subst e
    obtain ⟨hz, q⟩ := w
    refine .inr (.inr ⟨_, rfl, by rw [sl_len, sizeLine_eq]; exact hz, ?_⟩)
    have e2 : cutS ⟨l.toArray⟩ lo hi = ⟨(dCut l lo hi).toArray⟩ := by
      unfold cutS dCut
      rw [sl_len]
    rw [e2]
    exact k.flat (.str _) q
  · rename_i l
    obtain ⟨a, xs, rfl, e, n, ra⟩ := r.tupS
    have w2 : Qd (.tup (dCut l lo hi)) := w
    refine .inr (.inl ⟨a, xs, rfl, e.sq, fun h => ?_, fun h => k.newT fr (ra.cut _ _) w2⟩)
    obtain ⟨h1, h2⟩ := h
    have e2 : dCut l lo hi = l := by
      unfold dCut
      rw [ra.length, h1, h2, ← ra.length]
      simp
    rw [e2] at w2
    exact k.flat (.tup e n ra) w2
  · obtain ⟨a, xs, rfl, e, ra⟩ := r.lst
    exact .inl ⟨a, xs, rfl, SqL.of e, fun p hp => k.lst fr hp (ra.cut _ _) w⟩
  · obtain ⟨a, xs, rfl, e, ra⟩ := r.rl
    exact .inl ⟨a, xs, rfl, e, fun p hp => k.lst fr hp (ra.cut _ _) w⟩
def rSlx (K : PySem.W.Frag) : Bool → Bool → List V → Hp → VK → Prop
  | false, false, [x], H, Q => rSl3 K x none none H Q
  | true, false, [x, a], H, Q => ∃ i, a = .int i ∧ rSl3 K x (some i) none H Q
  | false, true, [x, b], H, Q => ∃ j, b = .int j ∧ rSl3 K x none (some j) H Q
  | true, true, [x, a, b], H, Q => ∃ i j, a = .int i ∧ b = .int j ∧ rSl3 K x (some i) (some j) H Q
  | _, _, _, _, _ => False
theorem snd_sl {lo hi : Bool} : Snd m (.sl lo hi) (rSlx m.G.K lo hi) := by
  rintro H S ds vs Qd Q ⟨fr, nt⟩ r w k
  have w' : wSl lo hi ds Qd := w
  cases ds with
  | nil => exact w'.elim
  | cons d r0 =>
    cases lo <;> cases hi
    · cases r0 with
      | cons _ _ => exact w'.elim
      | nil =>
        obtain ⟨x, rfl, r1⟩ := r.one
        exact sl_ok fr r1 w' k
    · cases r0 with
      | nil => exact w'.elim
      | cons e r0 =>
        cases r0 with
        | cons _ _ => cases e <;> exact w'.elim
        | nil =>
          cases e <;> first | exact w'.elim | skip
          obtain ⟨x, y, rfl, r1, r2⟩ := r.two
          cases r2.int
          exact ⟨_, rfl, sl_ok fr r1 w' k⟩
    · cases r0 with
      | nil => exact w'.elim
      | cons e r0 =>
        cases r0 with
        | cons _ _ => cases e <;> exact w'.elim
        | nil =>
          cases e <;> first | exact w'.elim | skip
          obtain ⟨x, y, rfl, r1, r2⟩ := r.two
          cases r2.int
          exact ⟨_, rfl, sl_ok fr r1 w' k⟩
    · cases r0 with
      | nil => exact w'.elim
      | cons e r0 =>
        cases r0 with
        | nil => cases e <;> exact w'.elim
        | cons f r0 =>
          cases r0 with
          | cons _ _ => cases e <;> first | exact w'.elim | (cases f <;> exact w'.elim)
          | nil =>
            cases e <;> first | exact w'.elim | skip
            cases f <;> first | exact w'.elim | skip
            obtain ⟨x, y, z, rfl, r1, r2, r3⟩ := r.three
            cases r2.int
            cases r3.int
            exact ⟨_, _, rfl, rfl, sl_ok fr r1 w' k⟩
/-- x[a:b], both parts told -/
theorem pe_slice2 {r : V → Option Int → Option Int → Hp → VK → Prop} {e a b : Expr} {te ta tb : TE} {p2 pos : Pos} (hr : SlR X r) (he : PE X e te) (ha : PE X a ta) (hb : PE X b tb) :
    PE X (.Subscript e (.Slice (some a) (some b) none p2) pos) (fun σ H Q => te σ H fun x H1 => ta σ H1 fun y H2 => tb σ H2 fun z H3 => ∃ i j, y = .int i ∧ z = .int j ∧ r x (some i) (some j) H3 Q) := by
  refine ⟨fun pins s σ H Q I h => ?_⟩
  refine Subscript_ (thn (he.run pins s σ H _ I h) fun v s1 ⟨x, H1, I1, r1, q1⟩ => ?_)
  refine wpAny_Slice ?_
  rw [evalPart_some, evalPart_some]
  refine thn (ha.run pins s1 σ H1 _ I1 q1) fun vl s2 ⟨y, H2, I2, ry, q2⟩ => thn (hb.run pins s2 σ H2 _ I2 q2) fun vu s3 ⟨z, H3, I3, rz, q3⟩ => ?_
  obtain ⟨i, j, rfl, rfl, q3⟩ := q3
  obtain ⟨ti, rfl⟩ := ry
  obtain ⟨tj, rfl⟩ := rz
  rw [evalPart_none]
  refine wpAny_pure ?_
  have I4 : Inv X pins σ H3 { s3 with heap := s3.heap.push { cls := .type "slice", data := .fields #[.int i ti, .int j tj, .none] } } := I3.kept (t' := s3.toks) fun b ob q => Heap.get?_push_of_some _ q
  obtain ⟨T, id, hT, ht, hg⟩ := hr pins { s3 with heap := s3.heap.push { cls := .type "slice", data := .fields #[.int i ti, .int j tj, .none] } } σ H3 x v (.int i ti) (.int j tj) (some i) (some j) s3.heap.objs.size Q I4 r1 (Heap.IsSliceOf.new ..) (.int i ti) (.int j tj) q3
  show wpAny (model X.prog X.w) X.A (subscriptTail e (.Slice (some a) (some b) none p2) v (.ref s3.heap.objs.size)) (EP X pins σ Q) X.xe { s3 with heap := s3.heap.push { cls := .type "slice", data := .fields #[.int i ti, .int j tj, .none] } }
  exact tail_any (ops := [.ref s3.heap.objs.size, v]) ht hT hg (by with_unfolding_all rfl)
/-! ### isinstance of built-in types -/
theorem tyx_of {n : String} (h : tyN d = some n) (hd : isDT d = false) (r : RO m H S d v) : TyX m.G.K H v (.type n) := by
  cases d <;> simp only [tyN] at h <;> first | (cases h; done) | skip
  all_goals cases h
  · rw [r.non]; exact .base .non
  · rw [r.bl]; exact .base (.bl _)
  · rw [r.int]; exact .base (.int _)
  · rw [r.str]; exact .base (.str _)
  · obtain ⟨a, xs, rfl, e, ra⟩ := r.tup
    unfold TupAt at e
    split at e
    · exact .base (.tup e)
    · obtain ⟨o, e, _⟩ := e
      exact .fTuple e
  · obtain ⟨a, xs, rfl, e, ra⟩ := r.lst
    exact .base (.lst e)
  · rename_i tk l
    cases tk with
    | false =>
      obtain ⟨a, ks, xs, ds, rfl, rfl, e, hl, r⟩ := r.dctF
      rcases e with e | ⟨o, e⟩
      · exact .base (.dK e)
      · exact .fDict e
    | true => cases hd
  · obtain ⟨a, xs, rfl, e, ra⟩ := r.ktup
    rcases e with (e | ⟨o, e⟩) | ⟨o, its, n, e, c, _⟩
    · exact .base (.tup e)
    · exact .fTuple e
    · exact .kTuple e c
def tyTab : List (String × String × Bool) := (["NoneType", "bool", "int", "str", "tuple", "list", "dict"]).flatMap fun a => (["int", "bool", "str", "tuple", "list", "dict"]).map fun b => (a, b, a == b || (a == "bool" && b == "int"))
theorem tyTab_ok : ∀ p ∈ tyTab, kitB p.1 p.2.1 = some p.2.2 := by
  have h : (tyTab.all fun p => decide (kitB p.1 p.2.1 = some p.2.2)) = true := by decide +kernel
  intro p hp
  exact of_decide_eq_true (List.all_eq_true.mp h p hp)
theorem kit_ok {T : Ty} (hT : ∀ c, T ≠ .cls c) {n : String} (h : tyN d = some n) : kitB n T.nm = some (isTy T d) := by
  cases T <;> first | exact absurd rfl (hT _) | skip
  all_goals
    cases d <;> simp only [tyN] at h <;> first | (cases h; done) | skip
    all_goals
      cases h
      exact tyTab_ok (_, _, _) (by decide +kernel)
theorem snd_isi {T : Ty} (hT : ∀ c, T ≠ .cls c) : Snd m (.isi T) (fun vs H Q => match vs with
    | [x] => rIsi m.G.K [x, .ty T.nm] H Q
    | _ => False) := by
  rintro H S ds vs Qd Q ⟨fr, nt⟩ r w k
  have w' : wIsi T ds Qd := w
  unfold wIsi at w'
  split at w'
  · obtain ⟨x, rfl, r1⟩ := r.one
    obtain ⟨h, hd, q⟩ := w'
    obtain ⟨n, hn⟩ := Option.isSome_iff_exists.mp h
    exact ⟨x, .ty T.nm, _, _, _, rfl, .ty _, tyx_of hn hd r1, kit_ty (kit_ok hT hn), k.flat (.bl _) q⟩
  · exact w'.elim
/-! ### texts, dicts -/
theorem RDs.strs : ∀ ys : List Str, RDs m.G m.wa H S (ys.map fun s => D.str s.cps.toList) (ys.map V.str)
  | [] => .nil
  | y :: ys => .cons (by have h := RD.str (G := m.G) (wa := m.wa) (H := H) (S := S) y.cps.toList; simpa using h) (RDs.strs ys)
def rSplit1 : V → List V → Hp → VK → Prop := fun x xs H Q => ∃ a b, x = .str a ∧ xs = [.str b] ∧ (b.length == 0) = false ∧ a.length + 2 ≤ sizeLine ∧ rNewStrs (Txt.split a b) H Q
def Rm (r : V → List V → Hp → VK → Prop) : List V → Hp → VK → Prop := fun vs H Q => match vs with
  | x :: xs => r x xs H Q
  | _ => False
theorem snd_split : Snd m .split (Rm rSplit1) := by
  rintro H S ds vs Qd Q ⟨fr, nt⟩ r w k
  have w' : wSplit ds Qd := w
  unfold wSplit at w'
  split at w'
  · obtain ⟨x, y, rfl, r1, r2⟩ := r.two
    have e1 := r1.str
    have e2 := r2.str
    subst e1 e2
    obtain ⟨⟨h1, h2⟩, q⟩ := w'
    refine ⟨_, _, rfl, rfl, ?_, ?_, fun p hp => k.lst fr hp (RDs.strs _) q⟩
    · rw [sl_len]
      rw [beq_eq_false_iff_ne]
      intro e
      exact h1 (List.length_eq_zero_iff.mp e)
    · rw [sl_len, sizeLine_eq]; exact h2
  · exact w'.elim
/-- d.get(k, x) -/
def rGet2 : List V → Hp → VK → Prop := fun vs H Q => ∃ a y x o, vs = [.ref a, y, x] ∧ DGet H a y o ∧ Q (o.getD x) H
def rGet1 : List V → Hp → VK → Prop := fun vs H Q => ∃ a y o, vs = [.ref a, y] ∧ DGet H a y o ∧ Q (o.getD .non) H
def sRD (m : Am) (H : Hp) (S : Addr → Prop) (d : D) (v : V) : Prop := RD m.G m.wa H S d v
end
end SD

set_option Elab.async false
set_option linter.all false
set_option maxRecDepth 100000
set_option maxHeartbeats 4000000
namespace SD
open PySem PySem.Spec PyProof.Rows L2

/-! ## sorted -/
mutual
theorem alike_toPy : ∀ a b : D, ordT a b = true → PySem.W.alike (toPy a) (toPy b) = true
  | .int i, b, h => by
    cases b <;> first | (cases h; done) | (simp [toPy, PySem.W.alike])
  | .str i, b, h => by
    cases b <;> first | (cases h; done) | (simp [toPy, PySem.W.alike])
  | .tup xs, b, h => by
    cases b <;> first | (cases h; done) | skip
    have q := alikes_toPy xs _ h
    simpa [toPy, PySem.W.alike] using q
  | .non, b, h => by cases b <;> cases h
  | .bl _, b, h => by cases b <;> cases h
  | .lst _, b, h => by cases b <;> cases h
  | .dct _ _, b, h => by cases b <;> cases h
  | .ktup _, b, h => by cases b <;> cases h
  | .rl _, b, h => by cases b <;> cases h
  | .obj _ _, b, h => by cases b <;> cases h
  | .well, b, h => by cases b <;> cases h
  | .glb _, b, h => by cases b <;> cases h
  | .ty _, b, h => by cases b <;> cases h
  | .own _, b, h => by cases b <;> cases h
  | .clo _ _, b, h => by cases b <;> cases h
theorem alikes_toPy : ∀ a b : List D, ordTs a b = true → PySem.W.alikeAll (toPys a) (toPys b) = true
  | [], [], _ => by simp [toPys, PySem.W.alikeAll]
  | [], _ :: _, _ => by simp [toPys, PySem.W.alikeAll]
  | _ :: _, [], _ => by simp [toPys, PySem.W.alikeAll]
  | x :: xs, y :: ys, h => by
    have h' : (ordT x y && ordTs xs ys) = true := h
    rw [Bool.and_eq_true] at h'
    simp only [toPys, PySem.W.alikeAll, alike_toPy x y h'.1, alikes_toPy xs ys h'.2, Bool.and_self]
end
mutual
theorem lt_toPy : ∀ (a b : D) (n k : Nat), ordT a b = true → okD a n = true → okD b k = true → PySem.W.dataLt (toPy a) (toPy b) = tlt a b
  | .int i, b, n, k, h, ha, hb => by
    cases b <;> first | (cases h; done) | skip
    rename_i j
    show PySem.W.dataLt (.int i) (.int j) = _
    rw [PySem.W.dataLt_int, ← tlt_is rfl]
    rfl
  | .str x, b, n, k, h, ha, hb => by
    cases b <;> first | (cases h; done) | skip
    rename_i y
    show PySem.W.dataLt (.str ⟨x.toArray⟩) (.str ⟨y.toArray⟩) = _
    rw [PySem.W.dataLt_str, ← tlt_is rfl]
    exact sLt_eq x y
  | .tup xs, b, n, k, h, ha, hb => by
    cases b <;> first | (cases h; done) | skip
    rename_i ys
    cases n with
    | zero => exact absurd ha Bool.false_ne_true
    | succ n => cases k with
      | zero => exact absurd hb Bool.false_ne_true
      | succ k =>
        show PySem.W.dataLt (.tuple (toPys xs)) (.tuple (toPys ys)) = _
        rw [PySem.W.dataLt_tuple]
        exact lts_toPy xs ys n k h ha hb
  | .non, b, n, k, h, _, _ => by cases b <;> cases h
  | .bl _, b, n, k, h, _, _ => by cases b <;> cases h
  | .lst _, b, n, k, h, _, _ => by cases b <;> cases h
  | .dct _ _, b, n, k, h, _, _ => by cases b <;> cases h
  | .ktup _, b, n, k, h, _, _ => by cases b <;> cases h
  | .rl _, b, n, k, h, _, _ => by cases b <;> cases h
  | .obj _ _, b, n, k, h, _, _ => by cases b <;> cases h
  | .well, b, n, k, h, _, _ => by cases b <;> cases h
  | .glb _, b, n, k, h, _, _ => by cases b <;> cases h
  | .ty _, b, n, k, h, _, _ => by cases b <;> cases h
  | .own _, b, n, k, h, _, _ => by cases b <;> cases h
  | .clo _ _, b, n, k, h, _, _ => by cases b <;> cases h
theorem lts_toPy : ∀ (a b : List D) (n k : Nat), ordTs a b = true → okDs a n = true → okDs b k = true → PyProof.Rows.lexLt PyProof.Rows.itemOrd (PySem.W.keyToksAll (toPys a)) (PySem.W.keyToksAll (toPys b)) = (dCmps a b == .lt)
  | [], [], _, _, _, _, _ => lex_irrefl (O := itemOrd) _
  | [], y :: ys, _, _, _, _, _ => by
    show PyProof.Rows.lexLt PyProof.Rows.itemOrd (PySem.W.keyToksAll []) (PySem.W.keyToksAll (toPy y :: toPys ys)) = true
    rw [PySem.W.toks_all_cons]
    simp only [PySem.W.keyToksAll]
    rw [lex_diff (O := itemOrd) (by simp)]
    rfl
  | x :: xs, [], _, _, _, _, _ => by
    show PyProof.Rows.lexLt PyProof.Rows.itemOrd (PySem.W.keyToksAll (toPy x :: toPys xs)) (PySem.W.keyToksAll []) = false
    rw [PySem.W.toks_all_cons]
    simp only [PySem.W.keyToksAll]
    rw [lex_diff (O := itemOrd) (by simp)]
    rfl
  | x :: xs, y :: ys, n, k, h, ha, hb => by
    have h' : (ordT x y && ordTs xs ys) = true := h
    have ha' : (okD x n && okDs xs n) = true := ha
    have hb' : (okD y k && okDs ys k) = true := hb
    rw [Bool.and_eq_true] at h' ha' hb'
    show PyProof.Rows.lexLt PyProof.Rows.itemOrd (PySem.W.keyToksAll (toPy x :: toPys xs)) (PySem.W.keyToksAll (toPy y :: toPys ys)) = (lex2 (dCmp x y) (dCmps xs ys) == .lt)
    rw [PySem.W.dataLt_cons (alike_toPy x y h'.1), eqv_toPy ha'.1 hb'.1, (dCmp_is x y h'.1).1, lts_toPy xs ys n k h'.2 ha'.2 hb'.2, lt_toPy x y n k h'.1 ha'.1 hb'.1]
    unfold tlt
    cases dCmp x y <;> simp [lex2]
end
theorem toPys_map : ∀ l : List D, toPys l = l.map toPy
  | [] => rfl
  | d :: l => by rw [List.map_cons, ← toPys_map l]; rfl
theorem okDs_mem : ∀ {l : List D} {n : Nat}, okDs l n = true → ∀ d ∈ l, okD d n = true
  | [], _, _, _, h => by cases h
  | x :: xs, n, h, d, hd => by
    have h' : (okD x n && okDs xs n) = true := h
    rw [Bool.and_eq_true] at h'
    rcases List.mem_cons.mp hd with rfl | hd
    · exact h'.1
    · exact okDs_mem h'.2 d hd
/-- the items of what stands at x -/
def SrcV (K : PySem.W.Frag) (H : Hp) (x : V) (P : List V → Prop) : Prop :=
  (∃ a xs, x = .ref a ∧ SqL K H a xs ∧ P xs) ∨ (∃ a xs, x = .ref a ∧ SqT K H a xs ∧ P xs) ∨ (∃ a kvs, x = .ref a ∧ Rd H a (.dK kvs) ∧ P (kvs.map fun kv => kV kv.1)) ∨
  ∃ a kvs, x = .ref a ∧ Rd H a (.dT kvs) ∧ ∀ bs, IsKeys H kvs bs → P (bs.map V.ref)
section
variable {X : Cx} {pins : List (Addr × Obj)} {σ : L2.St} {H : Hp} {s : Shared} {x : V} {u : Value} {P : List V → Prop} {Q : List Value → Shared → Prop} {E : Value → Shared → Prop}
theorem collect_tup {A : Around} {prog : Program} {w : World} {l : Addr} {vs : List Value} (hl : s.heap.IsTuple l vs.toArray)
    (h : Q vs { s with heap := (s.heap.push (seqObj "list" #[] 0)).update s.heap.objs.size (Obj.mapSeq (· ++ vs.toArray)) }) (hz : vs.length ≤ sizeLine) : wpAny (model prog w) A (collect (.ref l)) Q E s := by
  obtain ⟨o, ho, hc, n, hd⟩ := id hl
  unfold collect
  refine wpAny_bind (wpAny_runValue (codeAny_builtin entry_proto_collect' ?_))
  show wpAny _ _ (do again (.builtin "list.__iadd__" ⟨[← newList [], .ref l], []⟩)) _ _ s
  refine wpAny_bind (wpAny_newList (wpAny_pure ⟨Code.quiet_builtin _ (by decide +kernel), codeAny_builtin entry_list_iadd' ?_⟩))
  show wpAny _ _ (Builtin.List.listExtendWith (.ref s.heap.objs.size) (.ref l) (.ref s.heap.objs.size)) _ _ { s with heap := s.heap.push (seqObj "list" #[] 0) }
  unfold Builtin.List.listExtendWith
  have ho' : (s.heap.push (seqObj "list" #[] 0)).get? l = some o := Heap.get?_push_of_some _ ho
  refine wpAny_bind (wpAny_typeOf (T := "tuple") ⟨o, ho', hc⟩ ?_)
  have ht : (Value.type "tuple" == Value.type "tuple") = true := by rfl
  rw [if_pos (by rw [ht]; simp)]
  refine wpAny_bind (listItems_at ho' hd ?_)
  refine wpAny_bind (listItems_at (xs := #[]) (n := 0) (Heap.get?_push_size _ rfl) rfl ?_)
  rw [if_neg (by simp)]
  refine wpAny_bind (listUpdate_at (xs := #[]) (n := 0) (Heap.get?_push_size _ rfl) rfl ?_ (Nat.zero_le _) (by show (#[] ++ vs.toArray).size ≤ sizeLine + 1; simp only [Array.size_append, List.size_toArray, List.length_nil]; omega))
  refine wpAny_pure ?_
  show wpAny (model prog w) A (do
      let o ← load s.heap.objs.size
      match o.data with
      | .seq xs _ => pure xs.toList
      | _ => unsupported "internal:collect") Q E { s with heap := (s.heap.push (seqObj "list" #[] 0)).update s.heap.objs.size (Obj.mapSeq (· ++ vs.toArray)) }
  refine wpAny_bind (wpAny_load (get?_update_seq (Heap.get?_push_size _ rfl) _) ?_)
  show wpAny _ _ (pure ((#[] : Array Value) ++ vs.toArray).toList) Q E _
  rw [show ((#[] : Array Value) ++ vs.toArray).toList = vs by simp]
  exact wpAny_pure h
theorem keep_new {h : Heap} {vs : List Value} : ∀ b o, h.get? b = some o → ((h.push (seqObj "list" #[] 0)).update h.objs.size (Obj.mapSeq (· ++ vs.toArray))).get? b = some o := fun b o q => by
  have hlt : b < h.objs.size := Heap.lt_size q
  rw [Heap.get?_update_ne _ _ _ _ (Nat.ne_of_lt hlt)]
  exact Heap.get?_push_of_some _ q
/-- the items are put in a row -/
theorem collect_src (hc : X.calm = true) (I : Inv X pins σ H s) (rx : RelV x u) (h : SrcV X.K H x P)
    (hQ : ∀ xs h' tk vs, P xs → (∀ b o, s.heap.get? b = some o → h'.get? b = some o) → Vals xs vs → vs.length ≤ sizeLine → Q vs { s with heap := h', toks := tk }) : wpAny (model X.prog X.w) X.A.in1 (collect u) Q E s := by
  rcases h with ⟨a, xs, rfl, hq, p⟩ | ⟨a, xs, rfl, hq, p⟩ | ⟨a, kvs, rfl, hq, p⟩ | ⟨a, kvs, rfl, hq, p⟩
  · cases rx
    obtain ⟨its, rv, pl, hz⟩ := I.list hq
    have hl := rv.length
    exact collect_list pl.isList (hQ xs _ s.toks its p keep_new rv (by omega)) (by omega)
  · cases rx
    obtain ⟨its, rv, pl, hz⟩ := I.tuple hq
    have hl := rv.length
    exact collect_tup (vs := its) pl (hQ xs _ s.toks its p keep_new rv (by omega)) (by omega)
  · obtain rfl : u = Value.ref a := rx
    obtain ⟨z, lo, vs, rel, dd⟩ := dk_rd I.hok hq
    obtain ⟨ep, hat⟩ := dd.dictAt
    have ek : (kvs.map fun kv => kV kv.1) = vs.map fun p => kV p.1 := by
      have e := congrArg (List.map kV) rel.keys
      rw [List.map_map, List.map_map] at e
      exact e
    refine PySem.W.kdu_collect (A := X.A.in1) (PySem.W.kdl_dict (knd := mixKind X.prog X.w) (kvs := vs) (ep := ep) lo) (I.ok.hd hc) hat (by rw [← rel.length]; exact z) fun h' tk acc hk hacc => ?_
    have hv : Vals (vs.map fun p => kV p.1) acc.toList := keys_at (by rw [Array.length_toList]; exact hacc.1) fun j v e => hacc.2 j v (by rw [← Array.getElem?_toList]; exact e)
    refine hQ _ h' tk _ p hk (by rw [ek]; exact hv) ?_
    rw [Array.length_toList, hacc.1, ← rel.length]; exact z
  · obtain rfl : u = Value.ref a := rx
    obtain ⟨z, hs, ks, pr, o, es, ep, ho, hx, hdt, he, hn⟩ := (show ObjOk X.prog X.w H s.heap a (.dT kvs) from hq.ok I.hok)
    have l1 : es.size = ks.length := size_of_entries he
    have l2 : kvs.length = ks.length := Paired.length pr
    refine PySem.W.kdu_collect (A := X.A.in1) (kdl_raw hs hx hdt) (I.ok.hd hc) ho (by omega) fun h' tk acc' kp it => ?_
    have ea : acc'.toList = ks.map fun x => Value.ref x.2.1 := by
      have hl : acc'.toList.length = ks.length := by rw [Array.length_toList, it.1]; exact l1
      apply List.ext_getElem?
      intro j
      rw [List.getElem?_map]
      cases hj : acc'.toList[j]? with
      | none =>
        have h1 := List.getElem?_eq_none_iff.mp hj
        rw [List.getElem?_eq_none (by omega)]
        all_goals rfl
      | some v =>
        obtain ⟨en, hen, hv⟩ := it.2 j v (by rw [← Array.getElem?_toList]; exact hj)
        have qe := entry_at he j
        rw [hen] at qe
        cases hb : ks[j]? with
        | none =>
          rw [hb] at qe
          exact nomatch (show some en = none from qe)
        | some b =>
          rw [hb] at qe
          have e2 : en = entryOfKey (tupleKind (mixKind X.prog X.w)) b := Option.some.inj qe
          rw [hv, e2]
          all_goals rfl
    have eb : acc'.toList = (ks.map fun x => x.2.1).map Value.ref := by rw [ea, List.map_map]; all_goals rfl
    have rv : Vals ((ks.map fun x => x.2.1).map V.ref) acc'.toList := by rw [eb]; exact vals_refs _
    exact hQ _ h' tk _ (p _ (isKeys_of pr)) kp rv (by rw [Array.length_toList, it.1]; omega)
end
section
variable {m : Am} {X : Cx} {k : Nat} {S : Addr → Prop} {H : Hp}
theorem each_zip {α : Type} : ∀ {xs : List V} {vs : List Value} {ds : List α}, Vals xs vs → ds.length = xs.length → PySem.W.EachIs (fun v (b : V × α) => RelV b.1 v) vs (xs.zip ds)
  | _, _, ds, .nil, _ => by simpa using PySem.W.EachIs.nil
  | _, _, [], .cons r t, h => by simp at h
  | _, _, d :: ds, .cons r t, h => .cons r (each_zip t (by simpa using h))
theorem each_vals {α : Type} : ∀ {vs : List Value} {bs : List (V × α)}, PySem.W.EachIs (fun v (b : V × α) => RelV b.1 v) vs bs → Vals (bs.map (·.1)) vs
  | _, _, .nil => .nil
  | _, _, .cons r t => .cons r (each_vals t)
theorem rds_zip : ∀ {ds : List D} {xs : List V}, RDs m.G m.wa H S ds xs → ∀ p ∈ xs.zip ds, RD m.G m.wa H S p.2 p.1
  | _, _, .nil, p, hp => by simp at hp
  | _, _, .cons r t, p, hp => by
    rcases List.mem_cons.mp hp with rfl | hp
    · exact r
    · exact rds_zip t p hp
theorem rds_of : ∀ {l : List (V × D)}, (∀ p ∈ l, RD m.G m.wa H S p.2 p.1) → RDs m.G m.wa H S (l.map (·.2)) (l.map (·.1))
  | [], _ => .nil
  | p :: l, h => .cons (h p List.mem_cons_self) (rds_of fun q hq => h q (List.mem_cons_of_mem _ hq))
def rSortG (m : Am) : List V → Hp → VK → Prop := fun vs H Q => ∃ x, vs = [x] ∧ SrcV m.G.K H x fun xs => ∃ (S : Addr → Prop) (ds : List D), RDs m.G m.wa H S ds xs ∧ okDs ds 8 = true ∧ (∀ a ∈ ds, ∀ b ∈ ds, ordT a b = true) ∧ fstOk ds ∧
  ∀ p ys, H p = none → RDs m.G m.wa H S (dsort ds) ys → Q (.ref p) (upd H p (.lst ys))
theorem cr_sortG (hc : X.calm = true) (hu : X.A.units + 64 < cLine) (hK : X.K = m.G.K) : CallR X (.builtin "sorted") (rSortG m) := by
  intro pins s σ H vs us Q I r h
  obtain ⟨x, rfl, h⟩ := h
  obtain ⟨u, rfl, rx⟩ := vals1 r
  rw [← hK] at h
  refine Calls.call_function_entry kind_sorted plain_sorted entry_sorted (args_sorted1 _) ?_
  unfold Builtin.«sorted»
  refine wpAny_bind (m := checkCount "sorted" 1 1 _) (wpAny_pure ?_)
  refine wpAny_bind (collect_src hc I rx h fun xs h' tk us ⟨S, ds, rd, ok, ord, fst, q⟩ kp rv hz => ?_)
  have I1 : Inv X pins σ H { s with heap := h', toks := tk } := I.kept kp
  refine wpAny_bind (wpAny_newList ?_ hz)
  have hoL : (h'.push (seqObj "list" us.toArray 0)).get? h'.objs.size = some (seqObj "list" us.toArray 0) := Heap.get?_push_size _ rfl
  have hdl : ds.length = xs.length := rd.length
  have dp : DpAll X.K H xs (toPys ds) := by rw [hK]; exact rd.dp ok
  obtain ⟨as, ra⟩ := Dp.readsAll I1 _ xs us dp rv
  have emap : (xs.zip ds).map (fun p => toPy p.2) = toPys ds := by
    rw [toPys_map]
    have e := List.map_map (f := fun p : V × D => p.2) (g := toPy) (l := xs.zip ds)
    rw [List.map_snd_zip (by omega)] at e
    exact e.symm
  have er : PySem.W.EachIs (fun v (b : V × D) => ∃ as, Reads (h'.push (seqObj "list" us.toArray 0)) v (toPy b.2) as ∧ h'.objs.size ∉ as) us (xs.zip ds) := by
    have e0 : PySem.W.EachIs (fun v (b : V × D) => ∃ as, Reads h' v (toPy b.2) as) us (xs.zip ds) := PySem.W.readsAll_each (fun b : V × D => toPy b.2) (as := as) (by rw [emap]; exact ra)
    refine e0.mono fun v b ⟨as, rr⟩ => ⟨as, PyProof.Rows.Reads.keeps (fun _ _ e => Heap.get?_push_of_some _ e) rr, fun hm => ?_⟩
    obtain ⟨o, ho⟩ := PyProof.On.reads_mem_get rr _ hm
    exact absurd (Heap.lt_size ho) (Nat.lt_irrefl _)
  have hal : PySem.W.AllAlike ((xs.zip ds).map fun p => toPy p.2) := by
    rw [emap, toPys_map]
    intro a ha b hb
    obtain ⟨a', ha', rfl⟩ := List.mem_map.mp ha
    obtain ⟨b', hb', rfl⟩ := List.mem_map.mp hb
    exact alike_toPy _ _ (ord a' ha' b' hb')
  have hk : PySem.W.Sortable ((xs.zip ds).map fun p => toPy p.2) := by
    rw [emap, toPys_map]
    rcases fst with f | f
    · refine .inl fun a ha => ?_
      obtain ⟨a', ha', rfl⟩ := List.mem_map.mp ha
      obtain ⟨x, r, rfl⟩ := f a' ha'
      exact ⟨_, _, rfl⟩
    · refine .inr fun a ha => ?_
      obtain ⟨a', ha', rfl⟩ := List.mem_map.mp ha
      have o := ord a' ha' a' ha'
      cases a' <;> first | (cases o; done) | skip
      · exact ⟨fun z => (nomatch z), fun _ z => (nomatch z)⟩
      · exact ⟨fun z => (nomatch z), fun _ z => (nomatch z)⟩
      · exact absurd rfl (f _ ha' _)
  have hlen : us.length = xs.length := rv.length.symm
  have hdep : ∀ b, b ∈ xs.zip ds → X.A.in1.units + 1 + (toPy b.2).depth < cLine := fun b hb => by
    have hb2 : b.2 ∈ ds := (List.of_mem_zip (a := b.1) (b := b.2) hb).2
    have := (lay_toPy (okDs_mem ok b.2 hb2)).2
    show X.A.units + 1 + 1 + _ < _
    omega
  show wpAny _ _ _ _ _ { s with heap := h'.push (seqObj "list" us.toArray 0), toks := tk }
  refine wpAny_bind (wpAny_holding (PySem.W.list_sort_data (A := X.A.in1) (s := { s with heap := h'.push (seqObj "list" us.toArray 0), toks := tk }) (vs := us) (bs := xs.zip ds) (enc := fun p => toPy p.2) (R := fun v (b : V × D) => RelV b.1 v) hoL (each_zip rv hdl) er hal hk (by rw [List.length_zip]; omega) hdep fun out ho eo => ?_))
  have emerge : ((xs.zip ds).mergeSort (PySem.W.dataLe false fun p : V × D => toPy p.2)).map (·.2) = dsort ds := by
    unfold dsort
    have e := List.map_mergeSort (r := PySem.W.dataLe false fun p : V × D => toPy p.2) (s := tle) (f := fun p : V × D => p.2) (l := xs.zip ds) fun a ha b hb => ?_
    · rw [e, List.map_snd_zip (by omega)]
    · have ha2 : a.2 ∈ ds := (List.of_mem_zip (a := a.1) (b := a.2) ha).2
      have hb2 : b.2 ∈ ds := (List.of_mem_zip (a := b.1) (b := b.2) hb).2
      show (!PySem.W.dataLt (toPy b.2) (toPy a.2)) = tle a.2 b.2
      rw [lt_toPy _ _ 8 8 (ord _ hb2 _ ha2) (okDs_mem ok _ hb2) (okDs_mem ok _ ha2)]
      rfl
  have rds : RDs m.G m.wa H S (dsort ds) (((xs.zip ds).mergeSort (PySem.W.dataLe false fun p : V × D => toPy p.2)).map (·.1)) := by
    rw [← emerge]
    exact rds_of fun p hp => rds_zip rd p ((List.mergeSort_perm _ _).mem_iff.mp hp)
  have vals := each_vals eo
  obtain ⟨e', he'⟩ := PyProof.Rows.sortedHeap_at (vs := us) (out := out.toArray) hoL
  refine wpAny_pure ⟨_, rfl, .ref h'.objs.size, upd H h'.objs.size (.lst _), I1.laid (t' := tk) (fun b u e => ?_) (Nat.le_refl _) ⟨?_, out, e', vals, he'⟩, rfl, q _ _ (I1.hok.fresh (Nat.le_refl _)) rds⟩
  · have hb : b < h'.objs.size := Heap.lt_size e
    rw [PyProof.Rows.sortedHeap_old (Nat.ne_of_lt hb) (by rw [size_push']; exact Nat.lt_succ_of_lt hb)]
    exact Heap.get?_push_of_some _ e
  · rw [vals.length, ho, List.length_zip]; omega
end
end SD

set_option Elab.async false
set_option linter.all false
set_option maxRecDepth 100000
set_option maxHeartbeats 4000000
namespace SD
open PySem PySem.Spec PyProof.Rows L2
section
variable {m : Am} {X : Cx} {k : Nat} {S : Addr → Prop} {H : Hp} {Q : VK} {d : D} {x : V}
theorem keyRD0 {G : Wd} {wa : Addr} (k : Key) : RD G wa H S (kD k) (kV k) := by
  cases k with
  | inl i => exact .int i
  | inr x => have h := RD.str (G := G) (wa := wa) (H := H) (S := S) x.cps.toList; simpa [kD, kV] using h
theorem keysRD0 {G : Wd} {wa : Addr} : ∀ ks : List Key, RDs G wa H S (ks.map kD) (ks.map kV)
  | [] => .nil
  | k :: ks => .cons (keyRD0 k) (keysRD0 ks)
theorem RO.dctNE {l} (r : RO m H S (.dct true l) x) : ∃ (a : Addr) (ks : List (List Key)) (xs : List V) (ds : List D), x = .ref a ∧ l = (ks.map kDs).zip ds ∧ Rd H a (.dT (ks.zip xs)) ∧ (ks.length = xs.length ∧ NE ks) ∧ RDs m.G m.wa H S ds xs := by
  rcases r with (r | r) | ⟨a, rfl, r⟩
  · cases r with
    | dT e n l r => exact ⟨_, _, _, _, rfl, rfl, .inr ⟨_, e⟩, l, r⟩
  · cases m.clo r
  · cases r with
    | dT e l r => exact ⟨_, _, _, _, rfl, rfl, .inl e, l, r⟩
theorem keysT_rds (nt : ∀ a xs, S a → H a ≠ some (.tup xs)) : ∀ {ks : List (List Key)} {xs : List V} {bs : List Addr}, NE ks → ks.length = xs.length → IsKeys H (ks.zip xs) bs → RDs m.G m.wa H S (ks.map kDs) (bs.map V.ref)
  | [], _, bs, _, _, h => by
    have h' : Paired (fun (p : List Key × V) b => H b = some (.tup (p.1.map kV))) [] bs := by simpa [IsKeys] using h
    cases h'
    exact .nil
  | k :: ks, [], _, _, hl, _ => by simp at hl
  | k :: ks, x :: xs, bs, ne, hl, h => by
    have h' : Paired (fun (p : List Key × V) b => H b = some (.tup (p.1.map kV))) ((k, x) :: ks.zip xs) bs := by simpa [IsKeys] using h
    cases h' with
    | cons h1 t =>
      refine .cons (.tup ?_ (fun z => nt _ _ z h1) (keysRD0 k)) (keysT_rds nt (fun q hq => ne q (List.mem_cons_of_mem _ hq)) (by simpa using hl) t)
      rw [show soft (k.map kD) = true from soft_keys (ne k List.mem_cons_self)]
      exact h1
/-- what list(..) and sorted(..) find -/
theorem src_of {l : List D} {P : List V → Prop} (nt : ∀ a xs, S a → H a ≠ some (.tup xs)) (h : seqOf d = some l) (r : RO m H S d x) (hP : ∀ xs, RDs m.G m.wa H S l xs → P xs) : SrcV m.G.K H x P := by
  cases d <;> simp only [seqOf] at h <;> first | (cases h; done) | skip
  · cases h
    obtain ⟨a, xs, rfl, e, ra⟩ := r.tup
    exact .inr (.inl ⟨a, xs, rfl, e.sq, hP _ ra⟩)
  · cases h
    obtain ⟨a, xs, rfl, e, ra⟩ := r.lst
    exact .inl ⟨a, xs, rfl, SqL.of e, hP _ ra⟩
  · rename_i tk l0
    cases h
    cases tk with
    | false =>
      obtain ⟨a, ks, xs, ds, rfl, rfl, e, hl, ra⟩ := r.dctF
      have e1 : ((ks.map kD).zip ds).map (·.1) = ks.map kD := List.map_fst_zip (by rw [List.length_map, ra.length, hl]; exact Nat.le_refl _)
      have e2 : ((ks.zip xs).map fun kv => kV kv.1) = ks.map kV := by
        have q := List.map_map (f := fun p : Key × V => p.1) (g := kV) (l := ks.zip xs)
        rw [List.map_fst_zip (by omega)] at q
        exact q.symm
      refine .inr (.inr (.inl ⟨a, _, rfl, e, hP _ ?_⟩))
      rw [e1, e2]
      exact keysRD0 ks
    | true =>
      obtain ⟨a, ks, xs, ds, rfl, rfl, e, ⟨hl, ne⟩, ra⟩ := r.dctNE
      have e1 : ((ks.map kDs).zip ds).map (·.1) = ks.map kDs := List.map_fst_zip (by rw [List.length_map, ra.length, hl]; exact Nat.le_refl _)
      refine .inr (.inr (.inr ⟨a, _, rfl, e, fun bs hb => hP _ ?_⟩))
      rw [e1]
      exact keysT_rds nt ne hl hb
theorem snd_sorted : Snd m .sorted (rSortG m) := by
  rintro H S ds vs Qd Q ⟨fr, nt⟩ r w k
  have w' : wSorted ds Qd := w
  unfold wSorted at w'
  split at w'
  · obtain ⟨l, h1, h2, h3, h4, h5, q⟩ := w'
    obtain ⟨x, rfl, r1⟩ := r.one
    refine ⟨x, rfl, src_of nt h1 r1 fun xs rd => ⟨S, l, rd, h3, h2, h4, fun p ys hp rs => k.lst fr hp rs q⟩⟩
  · exact w'.elim
/-! ### list(..) -/
def rListG (m : Am) : List V → Hp → VK → Prop := fun vs H Q => ∃ x, vs = [x] ∧ SrcV m.G.K H x fun xs => ∀ l, H l = none → Q (.ref l) (upd H l (.lst xs))
theorem cr_listG (hc : X.calm = true) (hK : X.K = m.G.K) : CallR X (.type "list") (rListG m) := by
  intro pins s σ H vs us Q I r h
  obtain ⟨x, rfl, h⟩ := h
  rw [← hK] at h
  rcases h with ⟨a, xs, rfl, hq, p⟩ | ⟨a, xs, rfl, hq, p⟩ | ⟨a, kvs, rfl, hq, p⟩ | ⟨a, kvs, rfl, hq, p⟩
  · exact call_list_of pins s σ H _ us Q I r ⟨a, xs, rfl, .inl hq, p⟩
  · exact call_list_of pins s σ H _ us Q I r ⟨a, xs, rfl, .inr hq, p⟩
  · exact call_listD hc pins s σ H _ us Q I r ⟨a, kvs, rfl, hq, p⟩
  · exact call_list_dT hc pins s σ H _ us Q I r ⟨a, kvs, rfl, hq, fun q bs hq hb => p bs hb q hq⟩
theorem snd_list : Snd m .list_ (rListG m) := by
  rintro H S ds vs Qd Q ⟨fr, nt⟩ r w k
  have w' : wList ds Qd := w
  unfold wList at w'
  split at w'
  · obtain ⟨l, h1, q⟩ := w'
    obtain ⟨x, rfl, r1⟩ := r.one
    exact ⟨x, rfl, src_of nt h1 r1 fun xs rd l hl => k.lst fr hl rd q⟩
  · exact w'.elim
/-! ### len(..) -/
def rLenG (K : PySem.W.Frag) : List V → Hp → VK → Prop := fun vs H Q => (∃ x n, vs = [x] ∧ LenV K x H n ∧ Q (.int n) H) ∨ (∃ a kvs, vs = [V.ref a] ∧ Rd H a (.dK kvs) ∧ Q (.int kvs.length) H) ∨ ∃ a kvs, vs = [V.ref a] ∧ Rd H a (.dT kvs) ∧ Q (.int kvs.length) H
theorem cr_lenG : CallR X (.builtin "len") (rLenG X.K) := by
  intro pins s σ H vs us Q I r h
  rcases h with h | ⟨a, kvs, rfl, ha, q⟩ | ⟨a, kvs, rfl, ha, q⟩
  · exact call_len pins s σ H vs us Q I r h
  · obtain ⟨u, rfl, ru⟩ := vals1 r
    cases ru
    exact d_len I ha fun t s' I' => ⟨.int kvs.length, H, I', ⟨t, rfl⟩, q⟩
  · obtain ⟨u, rfl, ru⟩ := vals1 r
    obtain rfl : u = .ref a := ru
    obtain ⟨z, hd, ys, rel, dd⟩ := dt_rd I.hok ha
    have hl : kvs.length = ys.length := Paired.length rel
    refine call_len_dictH hd dd (by rw [← hl]; rw [sizeLine_eq] at z; omega) ?_
    rw [← hl]
    exact ⟨.int ((kvs.length : Nat) : Int), H, I.tok _, ⟨_, rfl⟩, q⟩
theorem snd_len : Snd m .len (rLenG m.G.K) := by
  rintro H S ds vs Qd Q ⟨fr, nt⟩ r w k
  have w' : wLen ds Qd := w
  unfold wLen at w'
  split at w'
  · obtain ⟨x, rfl, r1⟩ := r.one
    obtain ⟨a, xs, rfl, e, ra⟩ := r1.lst
    exact .inl ⟨_, _, rfl, .inl ⟨xs, SqL.of e, ra.length⟩, k.flat (.int _) w'⟩
  · obtain ⟨x, rfl, r1⟩ := r.one
    obtain ⟨a, xs, rfl, e, ra⟩ := r1.tup
    exact .inl ⟨_, _, rfl, .inr ⟨xs, e.sq, ra.length⟩, k.flat (.int _) w'⟩
  · obtain ⟨x, rfl, r1⟩ := r.one
    obtain ⟨a, xs, rfl, e, ra⟩ := r1.ktup
    exact .inl ⟨_, _, rfl, .inr ⟨xs, e, ra.length⟩, k.flat (.int _) w'⟩
  · obtain ⟨x, rfl, r1⟩ := r.one
    obtain ⟨a, xs, rfl, e, ra⟩ := r1.rl
    exact .inl ⟨_, _, rfl, .inl ⟨xs, e, ra.length⟩, k.flat (.int _) w'⟩
  · obtain ⟨x, rfl, r1⟩ := r.one
    have e := r1.str
    subst e
    refine .inl ⟨_, _, rfl, ⟨?_, (sl_len _).symm⟩, k.flat (.int _) w'.2⟩
    rw [sl_len, sizeLine_eq]; exact w'.1
  · rename_i tk l
    obtain ⟨x, rfl, r1⟩ := r.one
    cases tk with
    | false =>
      obtain ⟨a, ks, xs, ds, rfl, rfl, e, hl, ra⟩ := r1.dctF
      have e1 : ((ks.map kD).zip ds).length = (ks.zip xs).length := by simp [ra.length]
      rw [e1] at w'
      exact .inr (.inl ⟨a, _, rfl, e, k.flat (.int _) w'⟩)
    | true =>
      obtain ⟨a, ks, xs, ds, rfl, rfl, e, hl, ra⟩ := r1.dctT
      have e1 : ((ks.map kDs).zip ds).length = (ks.zip xs).length := by simp [ra.length]
      rw [e1] at w'
      exact .inr (.inr ⟨a, _, rfl, e, k.flat (.int _) w'⟩)
  · exact w'.elim
end
end SD

set_option Elab.async false
set_option linter.all false
set_option maxRecDepth 100000
set_option maxHeartbeats 4000000
namespace SD
open PySem PySem.Spec PyProof.Rows L2
section
variable {m : Am} {X : Cx} {k : Nat} {S : Addr → Prop} {H : Hp}
/-- the list us is new and sorted -/
theorem sort_core {pins : List (Addr × Obj)} {σ : L2.St} {s : Shared} {h' : Heap} {tk : Nat} {us : List Value} {xs : List V} {ds : List D} {Q : VK} {E : Value → Shared → Prop} (hu : X.A.units + 64 < cLine) (hK : X.K = m.G.K) (I1 : Inv X pins σ H { s with heap := h', toks := tk }) (rd : RDs m.G m.wa H S ds xs) (ok : okDs ds 8 = true)
    (ord : ∀ a ∈ ds, ∀ b ∈ ds, ordT a b = true) (fst : fstOk ds) (rv : Vals xs us) (hz : us.length ≤ sizeLine) (q : ∀ p ys, H p = none → RDs m.G m.wa H S (dsort ds) ys → Q (.ref p) (upd H p (.lst ys))) :
    wpAny (model X.prog X.w) X.A.in1 (call (.builtin "list.sort") [.ref h'.objs.size]) (fun _ s' => EP X pins σ Q (.ref h'.objs.size) s') E { s with heap := h'.push (seqObj "list" us.toArray 0), toks := tk } := by
  have hoL : (h'.push (seqObj "list" us.toArray 0)).get? h'.objs.size = some (seqObj "list" us.toArray 0) := Heap.get?_push_size _ rfl
  have hdl : ds.length = xs.length := rd.length
  have dp : DpAll X.K H xs (toPys ds) := by rw [hK]; exact rd.dp ok
  obtain ⟨as, ra⟩ := Dp.readsAll I1 _ xs us dp rv
  have emap : (xs.zip ds).map (fun p => toPy p.2) = toPys ds := by
    rw [toPys_map]
    have e := List.map_map (f := fun p : V × D => p.2) (g := toPy) (l := xs.zip ds)
    rw [List.map_snd_zip (by omega)] at e
    exact e.symm
  have er : PySem.W.EachIs (fun v (b : V × D) => ∃ as, Reads (h'.push (seqObj "list" us.toArray 0)) v (toPy b.2) as ∧ h'.objs.size ∉ as) us (xs.zip ds) := by
    have e0 : PySem.W.EachIs (fun v (b : V × D) => ∃ as, Reads h' v (toPy b.2) as) us (xs.zip ds) := PySem.W.readsAll_each (fun b : V × D => toPy b.2) (as := as) (by rw [emap]; exact ra)
    refine e0.mono fun v b ⟨as, rr⟩ => ⟨as, PyProof.Rows.Reads.keeps (fun _ _ e => Heap.get?_push_of_some _ e) rr, fun hm => ?_⟩
    obtain ⟨o, ho⟩ := PyProof.On.reads_mem_get rr _ hm
    exact absurd (Heap.lt_size ho) (Nat.lt_irrefl _)
  have hal : PySem.W.AllAlike ((xs.zip ds).map fun p => toPy p.2) := by
    rw [emap, toPys_map]
    intro a ha b hb
    obtain ⟨a', ha', rfl⟩ := List.mem_map.mp ha
    obtain ⟨b', hb', rfl⟩ := List.mem_map.mp hb
    exact alike_toPy _ _ (ord a' ha' b' hb')
  have hk : PySem.W.Sortable ((xs.zip ds).map fun p => toPy p.2) := by
    rw [emap, toPys_map]
    rcases fst with f | f
    · refine .inl fun a ha => ?_
      obtain ⟨a', ha', rfl⟩ := List.mem_map.mp ha
      obtain ⟨x, r, rfl⟩ := f a' ha'
      exact ⟨_, _, rfl⟩
    · refine .inr fun a ha => ?_
      obtain ⟨a', ha', rfl⟩ := List.mem_map.mp ha
      have o := ord a' ha' a' ha'
      cases a' <;> first | (cases o; done) | skip
      · exact ⟨fun z => (nomatch z), fun _ z => (nomatch z)⟩
      · exact ⟨fun z => (nomatch z), fun _ z => (nomatch z)⟩
      · exact absurd rfl (f _ ha' _)
  have hlen : us.length = xs.length := rv.length.symm
  have hdep : ∀ b, b ∈ xs.zip ds → X.A.in1.units + 1 + (toPy b.2).depth < cLine := fun b hb => by
    have hb2 : b.2 ∈ ds := (List.of_mem_zip (a := b.1) (b := b.2) hb).2
    have := (lay_toPy (okDs_mem ok b.2 hb2)).2
    show X.A.units + 1 + 1 + _ < _
    omega
  refine PySem.W.list_sort_data (A := X.A.in1) (s := { s with heap := h'.push (seqObj "list" us.toArray 0), toks := tk }) (vs := us) (bs := xs.zip ds) (enc := fun p => toPy p.2) (R := fun v (b : V × D) => RelV b.1 v) hoL (each_zip rv hdl) er hal hk (by rw [List.length_zip]; omega) hdep fun out ho eo => ?_
  have emerge : ((xs.zip ds).mergeSort (PySem.W.dataLe false fun p : V × D => toPy p.2)).map (·.2) = dsort ds := by
    unfold dsort
    have e := List.map_mergeSort (r := PySem.W.dataLe false fun p : V × D => toPy p.2) (s := tle) (f := fun p : V × D => p.2) (l := xs.zip ds) fun a ha b hb => ?_
    · rw [e, List.map_snd_zip (by omega)]
    · have ha2 : a.2 ∈ ds := (List.of_mem_zip (a := a.1) (b := a.2) ha).2
      have hb2 : b.2 ∈ ds := (List.of_mem_zip (a := b.1) (b := b.2) hb).2
      show (!PySem.W.dataLt (toPy b.2) (toPy a.2)) = tle a.2 b.2
      rw [lt_toPy _ _ 8 8 (ord _ hb2 _ ha2) (okDs_mem ok _ hb2) (okDs_mem ok _ ha2)]
      rfl
  have rds : RDs m.G m.wa H S (dsort ds) (((xs.zip ds).mergeSort (PySem.W.dataLe false fun p : V × D => toPy p.2)).map (·.1)) := by
    rw [← emerge]
    exact rds_of fun p hp => rds_zip rd p ((List.mergeSort_perm _ _).mem_iff.mp hp)
  have vals := each_vals eo
  obtain ⟨e', he'⟩ := PyProof.Rows.sortedHeap_at (vs := us) (out := out.toArray) hoL
  refine ⟨.ref h'.objs.size, upd H h'.objs.size (.lst _), I1.laid (t' := tk) (fun b u e => ?_) (Nat.le_refl _) ⟨?_, out, e', vals, he'⟩, rfl, q _ _ (I1.hok.fresh (Nat.le_refl _)) rds⟩
  · have hb : b < h'.objs.size := Heap.lt_size e
    rw [PyProof.Rows.sortedHeap_old (Nat.ne_of_lt hb) (by rw [size_push']; exact Nat.lt_succ_of_lt hb)]
    exact Heap.get?_push_of_some _ e
  · rw [vals.length, ho, List.length_zip]; omega
/-! ### d.items(), d.values() -/
def rItemsK : V → List V → Hp → VK → Prop := fun x xs H Q => ∃ (a : Addr) (kvs : List (Key × V)), x = .ref a ∧ xs = [] ∧ Rd H a (.dK kvs) ∧ ∀ p, H p = none → Q (.ref p) (upd H p (L2.DX.itemsO p a))
theorem mt_itemsK : MtR X "dict.items" rItemsK := by
  intro pins s σ H x xs v us Q I rx rxs h
  obtain ⟨a, kvs, rfl, rfl, ha, q⟩ := h
  cases rx
  cases rxs
  obtain ⟨z, hd, vs, rel, o, es, ep, ho, hx, hdat, _⟩ := dk_rd I.hok ha
  refine DT.callItems (es := es) (ep := ep) hd ⟨o, ho, hx, hdat⟩ ?_
  exact ⟨.ref s.heap.objs.size, upd H s.heap.objs.size (L2.DX.itemsO s.heap.objs.size a), I.laid (t' := s.toks) (fun b u e => Heap.get?_push_of_some _ e) (Nat.le_refl _) (L2.DX.itemsO_ok (Heap.get?_push_size _ rfl)), rfl, q _ (I.hok.fresh (Nat.le_refl _))⟩
/-- the view d.values() at p -/
def valuesO (p d : Addr) : HO := .ext fun h => h.IsValuesView p d
theorem valuesO_ok {P : Program} {w : World} {H : Hp} {h : Heap} {p d : Addr} (e : h.get? p = some { cls := .type "dict_values", data := .fields #[.ref d] }) : ObjOk P w H h p (valuesO p d) :=
  ⟨⟨_, e, rfl, rfl⟩, ⟨_, e⟩, fun h1 h2 x kk => let ⟨o, ho, rr⟩ := x; ⟨o, kk o ho, rr⟩⟩
def rValuesK : V → List V → Hp → VK → Prop := fun x xs H Q => ∃ (a : Addr) (kvs : List (Key × V)), x = .ref a ∧ xs = [] ∧ Rd H a (.dK kvs) ∧ ∀ p, H p = none → Q (.ref p) (upd H p (valuesO p a))
theorem mt_valuesK : MtR X "dict.values" rValuesK := by
  intro pins s σ H x xs v us Q I rx rxs h
  obtain ⟨a, kvs, rfl, rfl, ha, q⟩ := h
  cases rx
  cases rxs
  obtain ⟨z, hd, vs, rel, dd⟩ := dk_rd I.hok ha
  refine call_meetsIn PySem.F.slot_dict_values dd.typeIs PySem.F.entry_dict_values (PySem.F.args_dict_values_1 _) (meets_dict_values (mixKind X.prog X.w) a hd) ⟨⟨vs, dd⟩, ?_⟩
  exact ⟨.ref s.heap.objs.size, upd H s.heap.objs.size (valuesO s.heap.objs.size a), I.laid (t' := s.toks) (fun b u e => Heap.get?_push_of_some _ e) (Nat.le_refl _) (valuesO_ok (Heap.get?_push_size _ rfl)), rfl, q _ (I.hok.fresh (Nat.le_refl _))⟩
/-! ### list(d.values()) -/
theorem kv_vals : ∀ {kvs : List (Key × V)} {vs : List (Key × Value)}, KV kvs vs → Vals (kvs.map (·.2)) (vs.map (·.2))
  | _, _, Paired.nil => .nil
  | _, _, Paired.cons h t => .cons h.2 (kv_vals t)
def rListV : List V → Hp → VK → Prop := fun vs H Q => ∃ (p a : Addr) (kvs : List (Key × V)), vs = [.ref p] ∧ H p = some (valuesO p a) ∧ Rd H a (.dK kvs) ∧ ∀ l, H l = none → Q (.ref l) (upd H l (.lst (kvs.map (·.2))))
theorem cr_listV (hc : X.calm = true) : CallR X (.type "list") rListV := by
  intro pins s σ H vs us Q I r h
  obtain ⟨p, a, kvs, rfl, hp, ha, q⟩ := h
  obtain rfl := Vals.ref1 r
  have view : s.heap.IsValuesView p a := (show ObjOk X.prog X.w H s.heap p (valuesO p a) from I.hok p _ hp).1
  obtain ⟨z, hd, ws, rel, dd⟩ := dk_rd I.hok ha
  obtain ⟨ep, hat⟩ := dd.dictAt
  have hl := rel.length
  refine PySem.W.kdl_call (PySem.W.kdl_values (knd := mixKind X.prog X.w) (kvs := ws) (ep := ep)) (I.ok.hd hc) ⟨view, hat⟩ (by rw [← hl]; exact z) fun h' tk acc c hk hS hacc => ?_
  have ea : acc.toList = ws.map (·.2) := PySem.W.kdl_vals_eq acc.toList (by rw [Array.length_toList]; exact hacc.1) fun j v e => hacc.2 j v (by rw [← Array.getElem?_toList]; exact e)
  have hv : Vals (kvs.map (·.2)) acc.toList := by rw [ea]; exact kv_vals rel
  have ho : h'.get? s.heap.objs.size = some (seqObj "list" acc c) := hS
  exact ⟨.ref s.heap.objs.size, upd H s.heap.objs.size (.lst (kvs.map (·.2))), I.laid (t' := tk) hk (Nat.le_refl _) ⟨by rw [List.length_map]; exact z, acc.toList, c, hv, by simpa using ho⟩, rfl, q _ (I.hok.fresh (Nat.le_refl _))⟩
/-! ### sorted(d.items()) -/
def rSortI (m : Am) : List V → Hp → VK → Prop := fun vs H Q => ∃ (p a : Addr) (ks : List Key) (xs : List V) (ds : List D) (S : Addr → Prop), vs = [.ref p] ∧ H p = some (L2.DX.itemsO p a) ∧ Rd H a (.dK (ks.zip xs)) ∧ ks.length = xs.length ∧ RDs m.G m.wa H S ds xs ∧ (∀ q, H q = none → ¬ S q) ∧ (∀ k ∈ ks, k.isRight = true) ∧
  okDs (((ks.map kD).zip ds).map pairD) 8 = true ∧ (∀ c ∈ ((ks.map kD).zip ds).map pairD, ∀ b ∈ ((ks.map kD).zip ds).map pairD, ordT c b = true) ∧ fstOk (((ks.map kD).zip ds).map pairD) ∧
  ∀ (H1 : Hp) (l : Addr) (ys : List V), New H H1 → H1 l = none → RDs m.G m.wa H1 S (dsort (((ks.map kD).zip ds).map pairD)) ys → Q (.ref l) (upd H1 l (.lst ys))
theorem key_val {k : Key} {v : Value} (h : keyIs k v = true) : RelV (kV k) v := by
  rcases keyIs_shape h with ⟨i, t, ek, ev⟩ | ⟨z, t, ek, ev⟩
  · subst ek; exact ⟨t, ev⟩
  · subst ek; exact ⟨t, ev⟩
theorem pairs_at {P : Program} {w : World} : ∀ {es : List DictEntry} {kvs : List (Key × V)} {vs : List (Key × Value)} {j : Nat} {e : DictEntry}, KV kvs vs → Pairs (mixKind P w) es vs → es[j]? = some e → ∃ k x, kvs[j]? = some (k, x) ∧ RelV (kV k) e.key ∧ RelV x e.val
  | [], _, _, _, _, _, _, h => by simp at h
  | e0 :: es, kv :: kvs, v0 :: vs, 0, e, r, p, h => by
    cases r with
    | cons r1 r2 =>
      cases p with
      | cons p1 p2 p3 =>
        have : e0 = e := by simpa using h
        subst this
        refine ⟨kv.1, kv.2, rfl, ?_, ?_⟩
        · rw [r1.1]; exact key_val p1
        · rw [p2]; exact r1.2
  | e0 :: es, kv :: kvs, v0 :: vs, j + 1, e, r, p, h => by
    cases r with
    | cons r1 r2 =>
      cases p with
      | cons p1 p2 p3 =>
        obtain ⟨k, x, h1, h2⟩ := pairs_at (j := j) r2 p3 (by simpa using h)
        exact ⟨k, x, by simpa using h1, h2⟩
  | e0 :: es, [], vs, _, _, r, p, _ => by cases r; cases p
theorem pairs_len {P : Program} {w : World} : ∀ {es : List DictEntry} {vs : List (Key × Value)}, Pairs (mixKind P w) es vs → es.length = vs.length
  | _, _, .nil => rfl
  | _, _, .cons _ _ p => by simp [pairs_len p]
theorem soft_pair {k : Key} (h : k.isRight = true) (d : D) : soft [kD k, d] = true := by
  cases k <;> first | rfl | cases h
theorem rds_pairs {H1 : Hp} : ∀ {as : List Addr} {ks : List Key} {xs : List V} {ds : List D}, as.length = ks.length → ks.length = xs.length → (∀ k ∈ ks, k.isRight = true) → RDs m.G m.wa H1 S ds xs → (∀ (j : Nat) (a : Addr), as[j]? = some a → ¬ S a ∧ ∃ k x, ks[j]? = some k ∧ xs[j]? = some x ∧ H1 a = some (.tup [kV k, x])) → RDs m.G m.wa H1 S (((ks.map kD).zip ds).map pairD) (as.map V.ref)
  | [], [], _, _, _, _, _, _, _ => .nil
  | a :: as, k :: ks, x :: xs, d :: ds, l1, l2, ks1, r, h => by
    cases r with
    | cons r1 r2 =>
      obtain ⟨h1, k', x', e1, e2, e3⟩ := h 0 a rfl
      have ek : k = k' := by simpa using e1
      have ex : x = x' := by simpa using e2
      subst ek; subst ex
      refine .cons (.tup (a := a) (xs := [kV k, x]) ?_ h1 (.cons (keyRD0 k) (.cons r1 .nil))) (rds_pairs (by simpa using l1) (by simpa using l2) (fun k hk => ks1 k (List.mem_cons_of_mem _ hk)) r2 fun j b hj => h (j + 1) b (by simpa using hj))
      rw [soft_pair (ks1 k List.mem_cons_self)]; exact e3
  | a :: as, k :: ks, [], _, _, l2, _, _, _ => by simp at l2
  | a :: as, k :: ks, x :: xs, [], _, _, _, r, _ => by cases r
  | [], _ :: _, _, _, l1, _, _, _, _ => by simp at l1
  | _ :: _, [], _, _, l1, _, _, _, _ => by simp at l1
theorem cr_sortItems (hc : X.calm = true) (hu : X.A.units + 64 < cLine) (hK : X.K = m.G.K) : CallR X (.builtin "sorted") (rSortI m) := by
  intro pins s σ H vs us Q I r h
  obtain ⟨p, a, ks, xs, ds, S, rfl, hp, ha, hl, rd, fr, txt, ok, ord, fst, q⟩ := h
  obtain rfl := Vals.ref1 r
  have view : s.heap.IsItemsView p a := (show ObjOk X.prog X.w H s.heap p (L2.DX.itemsO p a) from I.hok p _ hp).1
  obtain ⟨z, hd, ws, rel, o, es, ep, ho, hx, hdat, hko, hpr, hnd⟩ := dk_rd I.hok ha
  have l1 : es.size = ks.length := by
    have := pairs_len hpr
    have l3 := rel.length
    rw [List.length_zip] at l3
    simp at this
    omega
  have zz : ks.length ≤ sizeLine := by
    rw [List.length_zip] at z
    omega
  refine DT.sortedI (es := es) (ep := ep) (I.ok.hd hc) view ⟨o, ho, hx, hdat⟩ (by rw [l1]; exact zz) fun h' tk as hk hlt hla hG => ?_
  have I1 : Inv X pins σ H { s with heap := h', toks := tk } := I.kept hk
  have nd : as.Nodup := List.Pairwise.imp (fun h => Nat.ne_of_lt h) hG.rise
  have each : ∀ (j : Nat) (b : Addr), as[j]? = some b → ∃ k x, ks[j]? = some k ∧ xs[j]? = some x ∧ ∃ its : List Value, Vals [kV k, x] its ∧ h'.get? b = some { cls := .type "tuple", data := .seq its.toArray } := fun j b hj => by
    obtain ⟨e, he, hg⟩ := hG.pairs j b hj
    obtain ⟨k, x, h1, h2, h3⟩ := pairs_at (j := j) (e := e) rel hpr (by rw [Array.getElem?_toList]; exact he)
    obtain ⟨h4, h5⟩ := List.getElem?_zip_eq_some.mp h1
    exact ⟨k, x, h4, h5, [e.key, e.val], .cons h2 (.cons h3 .nil), hg⟩
  obtain ⟨H2, I2, g2, t2⟩ := L2.DX.takeT (P := fun b vs => ∃ j k x, as[j]? = some b ∧ ks[j]? = some k ∧ xs[j]? = some x ∧ vs = [kV k, x]) I as H I1 nd fun b hb => by
    obtain ⟨j, hj⟩ := List.mem_iff_getElem?.mp hb
    obtain ⟨k, x, h1, h2, its, h3, h4⟩ := each j b hj
    have hab : s.heap.objs.size ≤ b := Nat.le_of_lt (hG.above b hb)
    exact ⟨hab, I.hok.fresh hab, [kV k, x], ⟨j, k, x, hj, h1, h2, rfl⟩, fun H3 => ⟨by rw [sizeLine_eq]; exact (by decide : 2 ≤ 16777216), its, h3, _, h4, rfl, 0, rfl⟩⟩
  have rd2 : RDs m.G m.wa H2 S ds xs := rd.mono (Kp.of fun b u e => g2 b u e) Sb.refl
  have rp : RDs m.G m.wa H2 S (((ks.map kD).zip ds).map pairD) (as.map V.ref) := rds_pairs (by omega) hl txt rd2 fun j b hj => by
    obtain ⟨vs, ⟨j2, k, x, e1, e2, e3, rfl⟩, e4⟩ := t2 b (List.mem_of_getElem? hj)
    have ej : j2 = j := by
      obtain ⟨u1, u2⟩ := List.getElem?_eq_some_iff.mp hj
      obtain ⟨u3, u4⟩ := List.getElem?_eq_some_iff.mp e1
      have hpw := List.pairwise_iff_getElem.mp nd
      rcases Nat.lt_trichotomy j2 j with c | c | c
      · exact absurd (u4.trans u2.symm) (hpw j2 j u3 u1 c)
      · exact c
      · exact absurd (u2.trans u4.symm) (hpw j j2 u1 u3 c)
    subst ej
    exact ⟨fr b (I.hok.fresh (Nat.le_of_lt (hG.above b (List.mem_of_getElem? hj)))), k, x, e2, e3, e4⟩
  exact sort_core hu hK I2 rp ok ord fst (vals_refs as) (by rw [List.length_map, hla, l1]; exact zz) fun l ys hl2 ry => q H2 l ys g2 hl2 ry
end
end SD

set_option Elab.async false
set_option linter.all false
set_option maxRecDepth 100000
set_option maxHeartbeats 4000000
namespace SD
open PySem PySem.Spec PyProof.Rows L2
abbrev sNew (w : World) : Obj := { cls := .type "set", dict := none, data := .set #[] 0 (.fresh 0 0 (!w.params.followText "set-order")) }
section
variable {P : Program} {w : World} {A : Around} {E : Value → Shared → Prop} {s : Shared}
/-- the set at a is filled from a list of ints -/
theorem fill_set {l a : Addr} {its : Array Value} {ns : List Int} {R : Result → Shared → Prop} (hh : A.handled = none) (ha : s.heap.get? a = some (sNew w)) (il : s.heap.IsList l its) (ii : IntsAre its.toList ns) (few : ns.length + 1 < scanBound)
    (done : ∀ (h' : Heap) (tk c : Nat), SetR w h' a (fun j => decide (j ∈ ns)) c → c ≤ ns.length → (∀ b o, b ≠ a → s.heap.get? b = some o → h'.get? b = some o) → R (.ok (.ret .none)) { s with heap := h', toks := tk }) :
    codeAny (model P w) A (.builtin "set.update.loop" ⟨[.ref a, .ref s.heap.objs.size], []⟩) R { s with heap := s.heap.push { cls := .type "list_iterator", data := .fields #[.ref l, .int 0 0] } } := by
  have sz : its.size = ns.length := by rw [← ii.length, Array.length_toList]
  have la : l ≠ a := fun e => by
    obtain ⟨ol, h1, h2, _⟩ := il
    rw [e, ha] at h1
    cases h1
    injection h2 with h3
    exact absurd h3 (by decide)
  have l1 : l < s.heap.objs.size := let ⟨_, h1, _⟩ := il; Heap.lt_size h1
  have a1 : a < s.heap.objs.size := Heap.lt_size ha
  have get : ∀ (i : Nat) (v : Value), its[i]? = some v → ∃ k t, ns[i]? = some k ∧ v = .int k t := fun i v hv => by
    have hi : i < ns.length := sz ▸ (Array.getElem?_eq_some_iff.mp hv).1
    obtain ⟨t, e⟩ := ii.int_at i v (by rw [Array.getElem?_toList]; exact hv)
    exact ⟨ns[i], t, List.getElem?_eq_getElem hi, by rw [e, List.getD_eq_getElem?_getD, List.getElem?_eq_getElem hi]; rfl⟩
  refine set_update_ints ((Walks.list (by simpa using hh) s.heap.objs.size l (Nat.ne_of_lt l1) its).toS) a (by simpa using ⟨Nat.ne_of_lt a1, fun e => la e.symm⟩) ns sz few get its.size 0 _ (Nat.sub_zero _) (Nat.zero_le _) ?_ ?_ ?_
  · exact ⟨⟨_, Heap.get?_push_size _ rfl, rfl, rfl⟩, let ⟨o, h1, r⟩ := il; ⟨o, Heap.get?_push_of_some _ h1, r⟩⟩
  · exact ⟨0, Nat.le_refl 0, setR_new_at (Heap.get?_push_of_some _ ha)⟩
  · rintro ⟨h2, g2, d2, t2, o2⟩ c mv hc hR
    obtain rfl : g2 = s.gens := mv.gens
    obtain rfl : d2 = s.drawn := mv.drawn
    obtain rfl : o2 = s.os := mv.os
    refine done h2 t2 c hR (sz ▸ hc) fun b o nb e => mv.heap b o ?_ (Heap.get?_push_of_some _ e)
    have : b < s.heap.objs.size := Heap.lt_size e
    simpa using ⟨nb, Nat.ne_of_lt this⟩
/-- set(xs), xs a list of ints -/
theorem set_of_list {l : Addr} {its : Array Value} {ns : List Int} {Q : Value → Shared → Prop} (hh : A.handled = none) (il : s.heap.IsList l its) (ii : IntsAre its.toList ns) (few : ns.length + 1 < scanBound)
    (done : ∀ (h' : Heap) (tk c : Nat), SetR w h' s.heap.objs.size (fun j => decide (j ∈ ns)) c → c ≤ ns.length → (∀ b o, s.heap.get? b = some o → h'.get? b = some o) → Q (.ref s.heap.objs.size) { s with heap := h', toks := tk }) :
    wpAny (model P w) A (call (.type "set") [.ref l]) Q E s := by
  have fc := PySem.F.called_set
  obtain ⟨c0, tl0, mro0⟩ := fc.mro
  have q1 := fc.made; have q2 := fc.sub; have q3 := fc.notType; have q4 := fc.canCreate
  have q5 := PySem.F.typeCall_set_1 (.ref l)
  refine wpAny_call (codeAny_of_tree (show wpAny _ _ (callAny (.type "set") _) _ _ _ from wpAny_pure ⟨Code.quiet_builtin _ (by decide +kernel), codeAny_builtin PySem.F.entry_type_call ?_⟩))
  rw [Around.under_plain (weight_type_call_type "set" [.ref l] []) rfl]
  repeat (any_goals (first | assumption | wp_step))
  refine codeAny_mono (code_set_led1 (.ref l) (E := E) (Q₁ := fun ob s1 => ob = .ref s.heap.objs.size ∧ s1 = { s with heap := s.heap.push (sNew w) }) ⟨rfl, rfl⟩) fun r1 s1 z => ?_
  rcases r1 with _ | fl
  · exact z
  cases fl <;> first | exact z.elim | skip
  obtain ⟨rfl, rfl⟩ := z
  have g1 : (s.heap.push (sNew w)).get? s.heap.objs.size = some (sNew w) := Heap.get?_push_size _ rfl
  have g2 : Shared.TypeIs { s with heap := s.heap.push (sNew w) } (.ref s.heap.objs.size) "set" := ⟨_, g1, rfl⟩
  have q6 := fc.init.lookup; have q7 := fc.init.bind (.ref s.heap.objs.size)
  repeat (any_goals (first | assumption | wp_step))
  refine codeAny_mono (codeAny_call_builtin (R := wants (fun v s2 => v = .none ∧ ∃ h' tk c, s2 = { s with heap := h', toks := tk } ∧ SetR w h' s.heap.objs.size (fun j => decide (j ∈ ns)) c ∧ c ≤ ns.length ∧ ∀ b o, s.heap.get? b = some o → h'.get? b = some o) E) fc.init.plain PySem.F.entry_set_init (check_set_init_1 g2 ?_)) fun r2 s2 z => ?_
  · obtain ⟨⟨lc, ld, lv, ls⟩, l1, rfl, ln, rfl⟩ := il
    have l2 : (s.heap.push (sNew w)).get? l = some { cls := .type "list", dict := ld, data := .seq its ln, slots := ls } := Heap.get?_push_of_some _ l1
    have q8 := PySem.F.sub_list_set; have q9 := PySem.F.sub_list_frozenset
    have q10 : (Value.type "list" == Value.type "dict") = false := by decide
    have l3 : (s.heap.push (sNew w)).IsList l its := ⟨_, l2, rfl, ln, rfl⟩
    unfold Builtin.«set.__init__» noKeywords Builtin.Frozenset.updateFrom
    generalize hp : pyIter = pi
    wp_walk
    subst hp
    refine wpAny_pyIter_list l3 (wpAny_bind (wpAny_runValue ?_))
    refine fill_set (s := { s with heap := s.heap.push (sNew w) }) (its := its) (by simpa using hh) g1 l3 ii few fun h' tk c hR hc kp => ?_
    exact wpAny_pure (wpAny_pure ⟨rfl, h', tk, c, rfl, hR, hc, fun b o e => kp b o (Nat.ne_of_lt (Heap.lt_size e)) (Heap.get?_push_of_some _ e)⟩)
  · rcases r2 with _ | fl
    · exact z
    cases fl <;> first | exact z.elim | skip
    obtain ⟨rfl, h', tk, c, rfl, hR, hc, kp⟩ := z
    repeat (any_goals (first | assumption | wp_step))
    exact done h' tk c hR hc kp
end
end SD

set_option Elab.async false
set_option linter.all false
set_option maxRecDepth 100000
set_option maxHeartbeats 4000000
namespace SD
open PySem PySem.Spec PyProof.Rows L2
section
variable {m : Am} {X : Cx} {S : Addr → Prop} {H : Hp}
theorem Rd.upd {a p : Addr} {o u : HO} (e : Rd H a o) (hp : H p = none) : Rd (upd H p u) a o := by
  rcases e with e | ⟨ob, e⟩
  · exact .inl (upd_ext hp _ _ e)
  · exact .inr ⟨ob, upd_ext hp _ _ e⟩
theorem rd_is {G : Wd} {wa : Addr} {H : Hp} : ∀ ns : List Int, RDs G wa H S (ns.map D.int) (ns.map V.int)
  | [] => .nil
  | n :: ns => .cons (.int n) (rd_is ns)
/-- list(d.values()) -/
def rLvals : V → List V → Hp → VK → Prop := fun x xs H Q => rValuesK x xs H fun v H1 => rListV [v] H1 Q
theorem snd_lvals : Snd m .lvals (Rm rLvals) := by
  rintro H S ds vs Qd Q ⟨fr, nt⟩ r w k
  have w' : wLvals ds Qd := w
  unfold wLvals at w'
  split at w'
  · obtain ⟨x, rfl, r1⟩ := r.one
    obtain ⟨a, ks, xs, es, rfl, rfl, e, hl, ra⟩ := r1.dctF
    refine ⟨a, _, rfl, rfl, e, fun p hp => ⟨p, a, ks.zip xs, rfl, upd_same, (Rd.upd e hp), fun l hl2 => ?_⟩⟩
    have e1 : ((ks.map kD).zip es).map (·.2) = es := List.map_snd_zip (by rw [List.length_map, ra.length, hl]; exact Nat.le_refl _)
    have e2 : (ks.zip xs).map (·.2) = xs := List.map_snd_zip (by rw [hl]; exact Nat.le_refl _)
    rw [e1] at w'
    rw [e2]
    have hln : H l = none := by
      by_cases c : l = p
      · rw [c]; exact hp
      · rw [upd_ne c] at hl2; exact hl2
    refine k _ _ _ (fun b o eb => upd_ext hl2 _ _ (upd_ext hp _ _ eb)) (.lst upd_same (fr l hln) ?_) w'
    exact ra.mono (Kp.of fun b o eb => upd_ext hl2 _ _ (upd_ext hp _ _ eb)) Sb.refl
  · exact w'.elim
/-- sorted(d.items()) -/
def rSitems (m : Am) : V → List V → Hp → VK → Prop := fun x xs H Q => rItemsK x xs H fun v H1 => rSortI m [v] H1 Q
theorem key_str {k : Key} (h : isStrD (kD k) = true) : k.isRight = true := by
  cases k <;> first | rfl | cases h
theorem snd_sitems : Snd m .sitems (Rm (rSitems m)) := by
  rintro H S ds vs Qd Q ⟨fr, nt⟩ r w k
  have w' : wSitems ds Qd := w
  unfold wSitems at w'
  split at w'
  · obtain ⟨h1, h2, h3, h4, q⟩ := w'
    obtain ⟨x, rfl, r1⟩ := r.one
    obtain ⟨a, ks, xs, es, rfl, rfl, e, hl, ra⟩ := r1.dctF
    have le : es.length = ks.length := by rw [ra.length, hl]
    refine ⟨a, _, rfl, rfl, e, fun p hp => ⟨p, a, ks, xs, es, S, rfl, upd_same, (Rd.upd e hp), hl, ra.mono (Kp.upd hp) Sb.refl, fun b hb => ?_, fun kk hk => ?_, h2, h3, h4, fun H1 l ys n1 hl2 ry => ?_⟩⟩
    · by_cases c : b = p
      · rw [c]; exact fr p hp
      · rw [upd_ne c] at hb; exact fr b hb
    · obtain ⟨j, hj⟩ := List.mem_iff_getElem?.mp hk
      have hj2 : j < es.length := by rw [le]; exact (List.getElem?_eq_some_iff.mp hj).1
      have hm : (kD kk, es[j]) ∈ (ks.map kD).zip es := by
        refine List.mem_iff_getElem?.mpr ⟨j, List.getElem?_zip_eq_some.mpr ⟨by rw [List.getElem?_map, hj]; rfl, List.getElem?_eq_getElem hj2⟩⟩
      exact key_str (h1 _ hm)
    · have hn : ∀ b o, H b = some o → H1 b = some o := fun b o eb => n1 b o (upd_ext hp _ _ eb)
      have hln : ¬ S l := by
        refine fr l ?_
        cases q2 : H l with
        | none => rfl
        | some o => rw [hn l o q2] at hl2; cases hl2
      refine k _ _ _ (fun b o eb => upd_ext hl2 _ _ (hn b o eb)) (.lst upd_same hln (ry.mono (Kp.upd hl2) Sb.refl)) q
  · exact w'.elim
/-- t.count(k), ints -/
def rTcount : V → List V → Hp → VK → Prop := fun x xs H Q => ∃ (p : Addr) (o : Obj) (ns : List Int) (k : Int), x = .ref p ∧ xs = [.int k] ∧ H p = some (.frz o (.tup (ns.map V.int))) ∧ Q (.int (ns.count k : Nat)) H
theorem ints_rd {ns : List Int} {xs : List V} (r : RDs m.G m.wa H S (ns.map D.int) xs) : xs = ns.map V.int := by
  induction ns generalizing xs with
  | nil => cases r; rfl
  | cons n ns ih => cases r with
    | cons r1 r2 => cases r1; rw [ih r2]; rfl
theorem mt_tcount : MtR X "tuple.count" rTcount := by
  intro pins s σ H x xs v us Q I rx rxs h
  obtain ⟨p, ob, ns, k, rfl, rfl, hs, q⟩ := h
  cases rx
  obtain ⟨u, rfl, ru⟩ := vals1 rxs
  obtain ⟨t, rfl⟩ := ru
  obtain ⟨_, _, its, rv, ⟨cl, dd, dt, sl⟩, ho, rfl, n, rfl⟩ := I.hok p _ hs
  have hi := ints_of_vals rv
  refine call_meets PySem.F.slot_tuple_count ⟨_, ho, rfl⟩ PySem.F.entry_tuple_count (PySem.F.args_tuple_count_2 _ _) (SeqAt.tuple_countAt p its.toArray n dd sl (.int k t) (eqk k)) ⟨ho, fun y hy => (eqk_gives hi y (by simpa using hy)).at _ _, ?_⟩
  have ec : its.toArray.toList.countP (eqk k) = ns.count k := eqk_count hi
  exact ⟨.int (ns.count k : Nat), H, I.tok _, ⟨s.toks, by rw [ec]⟩, q⟩
theorem soft_ints : ∀ ns : List Int, soft (ns.map D.int) = false
  | [] => rfl
  | _ :: ns => soft_ints ns
theorem snd_count : Snd m .count (Rm rTcount) := by
  rintro H S ds vs Qd Q ⟨fr, nt⟩ r w k
  have w' : wCount ds Qd := w
  unfold wCount at w'
  split at w'
  · obtain ⟨ns, rfl, q⟩ := w'
    obtain ⟨x, y, rfl, r1, r2⟩ := r.two
    obtain ⟨a, xs, rfl, e, ra⟩ := r1.tup
    cases r2.int
    rw [soft_ints] at e
    obtain ⟨o, e1, _⟩ := e
    rw [ints_rd ra] at e1
    exact ⟨a, o, ns, _, rfl, rfl, e1, k.flat (.int _) q⟩
  · exact w'.elim
/-! ### set(..), sorted(set(..)) -/
def rSetL1 (K : PySem.W.Frag) (w : World) : List V → Hp → VK → Prop := fun vs H Q => ∃ (l : Addr) (ns : List Int), vs = [.ref l] ∧ SqL K H l (ns.map V.int) ∧ ns.length < 63 ∧ ∀ p c, H p = none → c ≤ ns.length → Q (.ref p) (upd H p (SetO w p (fun j => decide (j ∈ ns)) c))
theorem cr_setL1 (hc : X.calm = true) : CallR X (.type "set") (rSetL1 X.K X.w) := by
  intro pins s σ H vs us Q I r h
  obtain ⟨l, ns, rfl, hl, hf, q⟩ := h
  rw [Vals.ref1 r]
  obtain ⟨its, rv, pl, hz⟩ := I.list hl
  have hi := ints_of_vals rv
  refine set_of_list (P := X.prog) (w := X.w) (ns := ns) (I.ok.hd hc) pl.isList (by simpa using hi) (by unfold scanBound; omega) fun h' tk c R hcn k => ?_
  exact ⟨.ref s.heap.objs.size, upd H s.heap.objs.size (SetO X.w s.heap.objs.size (fun j => decide (j ∈ ns)) c), I.laid (t' := tk) k (Nat.le_refl _) (setO_new R), rfl, q _ c (I.hok.fresh (Nat.le_refl _)) hcn⟩
def rSset (m : Am) (w : World) : List V → Hp → VK → Prop := fun vs H Q => rSetL1 m.G.K w vs H fun v H1 => rSortedSet w [v] H1 Q
theorem snd_sset {w : World} : Snd m .sset (rSset m w) := by
  rintro H S ds vs Qd Q ⟨fr, nt⟩ r w' k
  have w2 : wSset ds Qd := w'
  unfold wSset at w2
  split at w2
  · obtain ⟨ns, rfl, hf, q⟩ := w2
    obtain ⟨x, rfl, r1⟩ := r.one
    obtain ⟨a, xs, rfl, e, ra⟩ := r1.lst
    rw [ints_rd ra] at e
    refine ⟨a, ns, rfl, SqL.of e, hf, fun p c hp hc => ⟨p, _, c, rfl, upd_same, by omega, fun ms l hs hm _ hl2 => ?_⟩⟩
    have hln : H l = none := by
      by_cases cc : l = p
      · rw [cc]; exact hp
      · rw [upd_ne cc] at hl2; exact hl2
    exact k _ _ _ (fun b o eb => upd_ext hl2 _ _ (upd_ext hp _ _ eb)) (.lst upd_same (fr l hln) (rd_is ms)) (q ms hs fun j => (hm j).trans (by simp))
  · exact w2.elim
end
end SD

set_option Elab.async false
set_option linter.all false
set_option maxRecDepth 100000
set_option maxHeartbeats 4000000
namespace SD
open PySem PySem.Spec PyProof.Rows L2
/-! ## tuple(d.values()) -/
section
variable {prog : Program} {w : World} {A : Around} {E : Value → Shared → Prop} {s : Shared} {T : String} {r d : Addr} {n : Nat} {P : Nat → Value → Prop} {OK : Heap → Prop}
/-- what a walked source gives, in a list that is let go -/
theorem src_collect {Q : List Value → Shared → Prop} (K : PySem.W.KdlSrc prog w T r d n P OK) (hh : A.handled = none) (hok : OK s.heap) (hn : n ≤ sizeLine)
    (hQ : ∀ h' tk acc, (∀ b o, s.heap.get? b = some o → h'.get? b = some o) → ItemsOf P acc n → Q acc.toList { s with heap := h', toks := tk }) : wpAny (model prog w) A (collect (.ref r)) Q E s := by
  have l0 : (s.heap.push { cls := .type "list", data := .seq ([] : List Value).toArray }).get? s.heap.objs.size = some { cls := .type "list", data := .seq #[] 0 } := Heap.get?_push_size _ rfl
  have old : ∀ b o, s.heap.get? b = some o → (s.heap.push { cls := .type "list", data := .seq ([] : List Value).toArray }).get? b = some o := fun b o e => Heap.get?_push_of_some _ e
  have hlt := K.there _ hok
  unfold collect
  refine wpAny_bind (wpAny_runValue (codeAny_builtin F.entry_proto_collect (by
    rw [Around.under_plainId F.plain_proto_collect _]
    show wpAny _ A.in1 (newList [] >>= fun l1 => again (.builtin "list.__iadd__" ⟨[l1, .ref r], []⟩)) _ _ s
    refine wpAny_bind (wpAny_newObj_type (wpAny_pure ⟨plainId_quiet F.plain_list_iadd _, codeAny_builtin F.entry_list_iadd ?_⟩))
    (rw [Around.under_plainId F.plain_list_iadd _])
    show wpAny _ A.in1 (Builtin.List.listExtendWith (.ref s.heap.objs.size) (.ref r) (.ref s.heap.objs.size)) _ _ _
    refine wpAny_mono (PySem.W.kdl_extend (A := A) (R := fun q s' => q = .ok (.ret (.ref s.heap.objs.size)) ∧ ∃ (h' : Heap) (tk : Nat) (acc : Array Value) (c' : Nat), s' = { s with heap := h', toks := tk } ∧ (∀ b o, s.heap.get? b = some o → h'.get? b = some o) ∧
        h'.get? s.heap.objs.size = some { cls := .type "list", dict := none, data := .seq acc c', slots := #[] } ∧ ItemsOf P acc n)
      (s := { s with heap := s.heap.push { cls := .type "list", data := .seq ([] : List Value).toArray } }) K hh (K.keep _ _ hok fun b _ o e => old b o e) s.heap.objs.size (Nat.ne_of_gt hlt.1) (Nat.ne_of_gt hlt.2) _ 0 l0
      (fun h' tk acc c' hk e hi => ⟨rfl, h', tk, acc, c', rfl, fun b o q => hk b o (Nat.ne_of_lt (Heap.lt_size q)) (old b o q), e, hi⟩) hn) (fun fin s' h => ?_) (fun e s' h => absurd h.1 (by simp))
    cases fin with
    | done f =>
      obtain ⟨e, h', tk, acc, c', rfl, hk, hS', hi⟩ := h
      cases e
      exact wpAny_bind (m := load s.heap.objs.size) (wpAny_load hS' (wpAny_pure (hQ h' tk acc hk hi)))
    | again c2 =>
      refine ⟨h.1, codeAny_mono h.2 fun q s2 hq => ?_⟩
      obtain ⟨rfl, h', tk, acc, c', rfl, hk, hS', hi⟩ := hq
      exact wpAny_bind (m := load s.heap.objs.size) (wpAny_load hS' (wpAny_pure (hQ h' tk acc hk hi))))))
theorem src_tuple_new {Q₁ : Value → Shared → Prop} (K : PySem.W.KdlSrc prog w T r d n P OK) (hh : A.handled = none) (hok : OK s.heap) (hn : n ≤ sizeLine) (hsp : (Value.type T == Value.type "tuple") = false)
    (h : ∀ (h' : Heap) (tk : Nat) (acc : Array Value), (∀ b o, s.heap.get? b = some o → h'.get? b = some o) → ItemsOf P acc n → Q₁ (.ref h'.objs.size) { s with heap := h'.push { cls := .type "tuple", data := .seq acc }, toks := tk }) :
    codeAny (model prog w) A (.call (.builtin "tuple.__new__") ⟨[.type "tuple", .ref r], []⟩) (wants Q₁ E) s := by
  have ty : s.TypeIs (.ref r) T := K.type s hok
  have hA : A.in1.handled = none := hh
  refine codeAny_of_tree (show wpAny _ A.in1 (do checkBuiltinCall "tuple.__new__" ⟨[.type "tuple", .ref r], []⟩; again (.builtin "tuple.__new__" ⟨[.type "tuple", .ref r], []⟩)) _ _ s from ?_)
  refine wpAny_bind (wpAny_of_eq (F.newCall_tuple_1 _) (wpAny_pure ⟨plainId_quiet F.plain_tuple_new _, codeAny_builtin F.entry_tuple_new (by
    have q1 := sub_tuple_self; have q2 := init_tuple_lookup; have q3 := madeHere_tuple
    rw [Around.under_plainId F.plain_tuple_new _]
    wp_walk using wpAny_typeOf ty, src_collect (A := A.in1) K hA hok hn
    intro h' tk acc hk hacc
    show wpAny _ _ (Builtin.Tuple.tupleExact acc.toList.toArray >>= fun v => ret v) _ _ _
    unfold Builtin.Tuple.tupleExact
    refine wpAny_bind (wpAny_newObj_type (wpAny_pure ?_) (by show acc.toList.toArray.size ≤ sizeLine; simp only [Array.toArray_toList]; rw [hacc.1]; exact hn))
    have e : acc.toList.toArray = acc := by simp
    rw [e]
    exact h h' tk acc hk hacc)⟩))
theorem src_call_tuple {Q : Value → Shared → Prop} (K : PySem.W.KdlSrc prog w T r d n P OK) (hh : A.handled = none) (hok : OK s.heap) (hn : n ≤ sizeLine) (hsp : (Value.type T == Value.type "tuple") = false)
    (h : ∀ (h' : Heap) (tk : Nat) (acc : Array Value), (∀ b o, s.heap.get? b = some o → h'.get? b = some o) → ItemsOf P acc n → Q (.ref h'.objs.size) { s with heap := h'.push { cls := .type "tuple", data := .seq acc }, toks := tk }) :
    wpAny (model prog w) A (call (.type "tuple") [.ref r]) Q E s := by
  refine callType_codes (Q₁ := fun o s1 => s1.TypeIs o "tuple" ∧ Q o s1) F.called_tuple (F.typeCall_tuple_1 _) F.entry_object_init (src_tuple_new (A := A.in1) K hh hok hn hsp fun h' tk acc hk hi => ?_) fun o s1 h1 => ?_
  · exact ⟨⟨_, Heap.get?_push_size _ rfl, rfl⟩, h h' tk acc hk hi⟩
  · refine ⟨h1.1, F.args_object_init_2 o _, ?_⟩
    exact object_init_meets F.called_tuple.init.lookup F.called_tuple.made (by decide) prog w A.in1 _ s1 ⟨h1.1, rfl, h1.2⟩
end
section
variable {m : Am} {X : Cx} {S : Addr → Prop} {H : Hp}
def rTupV : List V → Hp → VK → Prop := fun vs H Q => ∃ (p a : Addr) (kvs : List (Key × V)), vs = [.ref p] ∧ H p = some (valuesO p a) ∧ Rd H a (.dK kvs) ∧ NewT H (kvs.map (·.2)) Q
theorem cr_tupV (hc : X.calm = true) : CallR X (.type "tuple") rTupV := by
  intro pins s σ H vs us Q I r h
  obtain ⟨p, a, kvs, rfl, hp, ha, q⟩ := h
  obtain rfl := Vals.ref1 r
  have view : s.heap.IsValuesView p a := (show ObjOk X.prog X.w H s.heap p (valuesO p a) from I.hok p _ hp).1
  obtain ⟨z, hd, ws, rel, dd⟩ := dk_rd I.hok ha
  obtain ⟨ep, hat⟩ := dd.dictAt
  have hl := rel.length
  refine src_call_tuple (PySem.W.kdl_values (knd := mixKind X.prog X.w) (kvs := ws) (ep := ep)) (I.ok.hd hc) ⟨view, hat⟩ (by rw [← hl]; exact z) (by decide) fun h' tk acc hk hacc => ?_
  have ea : acc.toList = ws.map (·.2) := PySem.W.kdl_vals_eq acc.toList (by rw [Array.length_toList]; exact hacc.1) fun j v e => hacc.2 j v (by rw [← Array.getElem?_toList]; exact e)
  have hv : Vals (kvs.map (·.2)) acc.toList := by rw [ea]; exact kv_vals rel
  have fin := lay_tup (I.kept (t' := tk) hk) hv (by rw [List.length_map]; exact z) q
  have e2 : acc.toList.toArray = acc := by simp
  rw [e2] at fin
  exact fin
def rTvals : V → List V → Hp → VK → Prop := fun x xs H Q => rValuesK x xs H fun v H1 => rTupV [v] H1 Q
theorem snd_tvals : Snd m .tvals (Rm rTvals) := by
  rintro H S ds vs Qd Q ⟨fr, nt⟩ r w k
  have w' : wTvals ds Qd := w
  unfold wTvals at w'
  split at w'
  · obtain ⟨x, rfl, r1⟩ := r.one
    obtain ⟨a, ks, xs, es, rfl, rfl, e, hl, ra⟩ := r1.dctF
    refine ⟨a, _, rfl, rfl, e, fun p hp => ⟨p, a, ks.zip xs, rfl, upd_same, (Rd.upd e hp), ?_⟩⟩
    have e1 : ((ks.map kD).zip es).map (·.2) = es := List.map_snd_zip (by rw [List.length_map, ra.length, hl]; exact Nat.le_refl _)
    have e2 : (ks.zip xs).map (·.2) = xs := List.map_snd_zip (by rw [hl]; exact Nat.le_refl _)
    rw [e1] at w'
    rw [e2]
    have k2 : Fin m (upd H p (valuesO p a)) S Qd Q := fun d v H' n rd q => k d v H' (fun b o eb => n b o (upd_ext hp _ _ eb)) rd q
    refine Fin.newT k2 (fun b hb => ?_) (ra.mono (Kp.upd hp) Sb.refl) w'
    by_cases c : b = p
    · rw [c]; exact fr p hp
    · rw [upd_ne c] at hb; exact fr b hb
  · exact w'.elim
end
end SD

set_option Elab.async false
set_option linter.all false
set_option maxRecDepth 100000
set_option maxHeartbeats 4000000
namespace SD
open PySem PySem.Spec PyProof.Rows L2

/-! ## expressions -/
def notStar : Expr → Bool
  | .Starred _ _ => false
  | _ => true
def notSlice : Expr → Bool
  | .Slice _ _ _ _ => false
  | _ => true
/-- as a test it is its own truth -/
def plainTest : Expr → Bool
  | .UnaryOp .Not _ _ => false
  | .BoolOp _ _ _ => false
  | .IfExp _ _ _ _ => false
  | .Compare _ _ _ _ => false
  | _ => true
theorem star_nb {e : Expr} {es : List Expr} {env : PySem.Env} (h : notStar e = true) : starEach (e :: es) env = (false, eval e env) :: starEach es env := by
  cases e <;> first | rfl | cases h
theorem star_any : ∀ {es : List Expr} {env : PySem.Env} {pos : Pos}, (∀ e ∈ es, notStar e = true) → (backTo pos (starEach es env)).any (·.1) = false
  | [], _, _, _ => rfl
  | e :: es, env, pos, h => by
    rw [star_nb (h e List.mem_cons_self)]
    show (false || (backTo pos (starEach es env)).any (·.1)) = false
    rw [star_any fun x hx => h x (List.mem_cons_of_mem _ hx)]
    rfl
theorem slice_nb {e : Expr} (h : notSlice e = true) : ∀ o i, subscripted e false o i = operate [o, i] (getItem o i) := by
  intro o i
  cases e <;> first | rfl | cases h
theorem test_nb {e : Expr} (h : plainTest e = true) {env : PySem.Env} : ∀ whole, isTrue e env whole = (do let v ← whole; standAt e.pos; holding [v] (truthy v)) := by
  intro whole
  cases e <;> first
    | rfl
    | (cases h; done)
    | (rename_i op x p; cases op <;> first | rfl | (cases h; done))
def RdT (m : Am) (wp : DEnv → (D → DEnv → Prop) → Prop) : TT := fun σ H Q => ∃ (env : DEnv) (Qd : Bool → DEnv → Prop), RS m σ H env ∧ wp env (fun d env' => ∃ b, dTruth d = some b ∧ Qd b env') ∧
  ∀ b env' H', St1 m σ H env H' env' → Qd b env' → Q b H'
section
variable {m : Am} {X : Cx} {k : Nat} {t : Tb} {Ex : ExV → DEnv → Prop} {σ : L2.St} {H : Hp} {S : Addr → Prop} {env : DEnv} {ds : List D} {vs : List V} {Qd : D → Prop} {Q : VK} {d : D} {v : V} {e : Expr} {es : List Expr} {ir : IE} {irs : List IE} {pos : Pos}
abbrev DE (m : Am) (X : Cx) (t : Tb) (Ex : ExV → DEnv → Prop) (ir : IE) (e : Expr) : Prop := PE X e (RdE m (wpE t Ex ir))
abbrev DT (m : Am) (X : Cx) (t : Tb) (Ex : ExV → DEnv → Prop) (ir : IE) (e : Expr) : Prop := PT X e (RdT m (wpE t Ex ir))
/-- operands and their expressions -/
def AL (m : Am) (X : Cx) (t : Tb) (Ex : ExV → DEnv → Prop) : List IE → List Expr → Prop
  | [], [] => True
  | i :: is, e :: es => PE X e (tO m t Ex i) ∧ notStar e = true ∧ AL m X t Ex is es
  | _, _ => False
theorem AL.pa : ∀ {irs : List IE} {es : List Expr}, AL m X t Ex irs es → PA X es (tL (irs.map (tO m t Ex)))
  | [], [], _ => pa_nil
  | i :: is, e :: es, h => pa_cons h.1 (AL.pa h.2.2) (star_nb h.2.1)
  | [], _ :: _, h => h.elim
  | _ :: _, [], h => h.elim
theorem AL.star : ∀ {irs : List IE} {es : List Expr}, AL m X t Ex irs es → ∀ e ∈ es, notStar e = true
  | [], [], _, _, h => by cases h
  | i :: is, e :: es, h, x, hx => by
    rcases List.mem_cons.mp hx with rfl | hx
    · exact h.2.1
    · exact AL.star h.2.2 x hx
  | [], _ :: _, h, _, _ => h.elim
  | _ :: _, [], h, _, _ => h.elim
theorem tru_of {b : Bool} (r : RA m H S d v) (h : dTruth d = some b) : TruV m.G.K v H b := by
  have r' : RO m H S d v := .inl r
  cases d <;> simp only [dTruth] at h <;> first | (cases h; done) | skip
  · cases h; rw [r'.non]; rfl
  · cases h; rw [r'.bl]; rfl
  · cases h; rw [r'.int]; rfl
  · split at h
    · rename_i x hx
      cases h
      rw [r'.str]
      refine ⟨by rw [sl_len, sizeLine_eq]; exact hx, ?_⟩
      rw [sl_len]
      cases x with
      | nil => rfl
      | cons a l =>
        show (!false) = _
        symm
        show ((((a :: l).length : Nat) : Int) != 0) = true
        rw [bne_iff_ne]
        simp
        omega
    · cases h
  · cases h
    obtain ⟨a, xs, rfl, e, ra⟩ := r'.tup
    refine .inr (.inl ⟨xs, e.sq, ?_⟩)
    cases ra <;> rfl
  · cases h
    obtain ⟨a, xs, rfl, e, ra⟩ := r'.lst
    refine .inl ⟨xs, SqL.of e, ?_⟩
    cases ra <;> rfl
/-- a value read as a test -/
theorem dt_gen (g : GX m X k) (h : DE m X t Ex ir e) (hp : plainTest e = true) : DT m X t Ex ir e := by
  refine PT.weak (pt_truth h (test_nb hp)) fun σ H Q ⟨env, Qd, r, w, kk⟩ => ?_
  refine ⟨env, _, r, w, fun d v env' H' s ra ⟨b, hb, q⟩ => ?_⟩
  exact ⟨b, by rw [g.hK]; exact tru_of ra hb, kk b env' H' s q⟩
/-- a comparison read as a test -/
def isBlOp (o : Op) : Prop := ∀ (ds : List D) (P : D → Prop), opW o ds P → opW o ds fun d => (∃ c, d = .bl c) ∧ P d
theorem op_readT {o : Op} {R : List V → Hp → VK → Prop} (hs : Snd m o R) (hbl : isBlOp o) {args : List IE} {Q : Bool → Hp → Prop} (h : RdT m (wpE t Ex (.op o args)) σ H Q) : tL (args.map (tO m t Ex)) σ H fun vs H' => R vs H' fun x H'' => ∃ k, x = .bl k ∧ Q k H'' := by
  obtain ⟨env, Qd, r, w, kk⟩ := h
  refine chainL args ⟨env, _, r, w, fun ds vs env' H' s ro w' => ?_⟩
  refine hs H' _ ds vs _ _ ⟨fun p hp => s.rs.free hp, s.rs.notup⟩ (ro.rol s.rs) (hbl ds _ w') fun d v H'' n rd q => ?_
  obtain ⟨⟨c, rfl⟩, b, hb, q⟩ := q
  cases hb
  cases rd
  exact ⟨c, rfl, kk c env' H'' (s.trans (n.st1 s.rs)) q⟩
theorem isBl_eq : isBlOp .eq := fun ds P h => by
  have h' : wEq ds P := h
  show wEq ds _
  unfold wEq at h' ⊢
  split at h'
  · exact ⟨h'.1, h'.2.1, ⟨_, rfl⟩, h'.2.2⟩
  · exact h'.elim
theorem isBl_ne : isBlOp .ne := fun ds P h => by
  have h' : wNe ds P := h
  show wNe ds _
  unfold wNe at h' ⊢
  split at h'
  · exact ⟨h'.1, h'.2.1, ⟨_, rfl⟩, h'.2.2⟩
  · exact h'.elim
theorem isBl_lt : isBlOp .lt := fun ds P h => by
  have h' : wLt ds P := h
  show wLt ds _
  unfold wLt at h' ⊢
  split at h'
  · exact ⟨h'.1, ⟨_, rfl⟩, h'.2⟩
  · exact h'.elim
theorem isBl_le : isBlOp .le := fun ds P h => by
  have h' : wLe ds P := h
  show wLe ds _
  unfold wLe at h' ⊢
  split at h'
  · exact ⟨h'.1, ⟨_, rfl⟩, h'.2⟩
  · exact h'.elim
theorem isBl_gt : isBlOp .gt := fun ds P h => by
  have h' : wGt ds P := h
  show wGt ds _
  unfold wGt at h' ⊢
  split at h'
  · exact ⟨h'.1, ⟨_, rfl⟩, h'.2⟩
  · exact h'.elim
theorem isBl_ge : isBlOp .ge := fun ds P h => by
  have h' : wGe ds P := h
  show wGe ds _
  unfold wGe at h' ⊢
  split at h'
  · exact ⟨h'.1, ⟨_, rfl⟩, h'.2⟩
  · exact h'.elim
theorem isBl_isN : isBlOp .isN := fun ds P h => by
  have h' : wIsn ds P := h
  show wIsn ds _
  unfold wIsn at h' ⊢
  split at h'
  · exact ⟨h'.1, ⟨_, rfl⟩, h'.2⟩
  · exact h'.elim
theorem isBl_isnN : isBlOp .isnN := fun ds P h => by
  have h' : wIsnn ds P := h
  show wIsnn ds _
  unfold wIsnn at h' ⊢
  split at h'
  · exact ⟨h'.1, ⟨_, rfl⟩, h'.2⟩
  · exact h'.elim
theorem isBl_isB : isBlOp .isB := fun ds P h => by
  have h' : wIsb ds P := h
  show wIsb ds _
  unfold wIsb at h' ⊢
  split at h'
  · exact ⟨⟨_, rfl⟩, h'⟩
  · exact h'.elim
theorem isBl_isnB : isBlOp .isnB := fun ds P h => by
  have h' : wIsnb ds P := h
  show wIsnb ds _
  unfold wIsnb at h' ⊢
  split at h'
  · exact ⟨⟨_, rfl⟩, h'⟩
  · exact h'.elim
theorem isBl_in : isBlOp .inn := fun ds P h => by
  have h' : wInn ds P := h
  show wInn ds _
  unfold wInn at h' ⊢
  split at h'
  · obtain ⟨b, e, q⟩ := h'
    exact ⟨b, e, ⟨_, rfl⟩, q⟩
  · exact h'.elim
theorem isBl_nin : isBlOp .nin := fun ds P h => by
  have h' : wNin ds P := h
  show wNin ds _
  unfold wNin at h' ⊢
  split at h'
  · obtain ⟨b, e, q⟩ := h'
    exact ⟨b, e, ⟨_, rfl⟩, q⟩
  · exact h'.elim
/-- the two readings of an operator's node -/
structure Both (m : Am) (X : Cx) (t : Tb) (Ex : ExV → DEnv → Prop) (ir : IE) (e : Expr) : Prop where
  v : DE m X t Ex ir e
  b : DT m X t Ex ir e
theorem both_cmp {o : Op} {op : CmpOp} {r : R2} {i j : IE} {a b : Expr} {p : Pos} (ho : OpR X (compareOp op) r) (hs : Snd m o (Rb r)) (hbl : isBlOp o) (ha : PE X a (tO m t Ex i)) (hb : PE X b (tO m t Ex j)) (hm : behindInMarks op b = false) : Both m X t Ex (.op o [i, j]) (.Compare a [op] [b] p) :=
  ⟨PE.weak (pe_cmpR ho ha hb hm) fun σ H Q h => op_read hs h, PT.weak (pt_cmpR ho ha hb hm) fun σ H Q h => op_readT hs hbl h⟩
theorem both_bin {o : Op} {op : Operator} {r : R2} {i j : IE} {a b : Expr} {p : Pos} (g : GX m X k) (ho : OpR X (binaryOp op) r) (hs : Snd m o (Rb r)) (ha : PE X a (tO m t Ex i)) (hb : PE X b (tO m t Ex j)) : Both m X t Ex (.op o [i, j]) (.BinOp a op b p) := by
  have h : DE m X t Ex (.op o [i, j]) (.BinOp a op b p) := PE.weak (pe_op ho ha hb) fun σ H Q h => op_read hs h
  exact ⟨h, dt_gen g h rfl⟩
theorem both_of (g : GX m X k) (h : DE m X t Ex ir e) (hp : plainTest e = true) : Both m X t Ex ir e := ⟨h, dt_gen g h hp⟩
theorem both_callB {o : Op} {id : String} {x : Str} {r : List V → Hp → VK → Prop} {p : Pos} (g : GX m X k) (hc : CallR X (.builtin id) r) (hs : Snd m o r) (al : AL m X t Ex irs (e :: es)) (hg : Gl X x) (hm : X.mg x = none) (hv : bootBuiltins x = some (.builtin id))
    (hn : x ≠ "__name__") (hdb : (x == ("__debug__" : Str)) = false) : Both m X t Ex (.op o irs) (.Call (.Name x p) (e :: es) [] pos) := by
  have st := al.star
  refine both_of g (PE.weak (pe_callB hc hg hm hv al.pa hn hdb (star_nb (st e List.mem_cons_self)) (star_any fun y hy => st y (List.mem_cons_of_mem _ hy))) fun σ H Q h => ?_) rfl
  exact op_read hs h
theorem both_callT {o : Op} {T : String} {x : Str} {r : List V → Hp → VK → Prop} {p : Pos} (g : GX m X k) (hc : CallR X (.type T) r) (hs : Snd m o r) (al : AL m X t Ex irs (e :: es)) (hg : Gl X x) (hm : X.mg x = none) (hv : bootBuiltins x = some (.type T))
    (hn : x ≠ "__name__") (hdb : (x == ("__debug__" : Str)) = false) : Both m X t Ex (.op o irs) (.Call (.Name x p) (e :: es) [] pos) := by
  have st := al.star
  refine both_of g (PE.weak (pe_callTy hc hg hm hv al.pa hn hdb (star_nb (st e List.mem_cons_self)) (star_any fun y hy => st y (List.mem_cons_of_mem _ hy))) fun σ H Q h => ?_) rfl
  exact op_read hs h
/-! ### names -/
/-- a slot's own object becomes a value as any other: its place holds o now -/
theorem RS.toPl {i : Nat} {a : Addr} {o : HO} (r : RS m σ H env) (h : env[i]? = some (some (true, d))) (ha : σ[i]? = some (some (V.ref a))) (nt : NoTbl o) (rd : RD m.G m.wa (upd H a o) (Sx m.So σ (env.set i (some (false, d)))) d (.ref a)) :
    St1 m σ H env (upd H a o) (env.set i (some (false, d))) := by
  obtain ⟨a', ha', x0, n1, n2⟩ := r.ow i d h
  rw [ha] at ha'
  cases ha'
  have hi : i < env.length := (List.getElem?_eq_some_iff.mp h).1
  have at_i : (env.set i (some (false, d)))[i]? = some (some (false, d)) := by rw [List.getElem?_set_self hi]
  have at_j : ∀ j, j ≠ i → (env.set i (some (false, d)))[j]? = env[j]? := fun j hj => by rw [List.getElem?_set_ne (Ne.symm hj)]
  have old : ∀ j (e : D), (env.set i (some (false, d)))[j]? = some (some (true, e)) → j ≠ i ∧ env[j]? = some (some (true, e)) := fun j e q => by
    have hj : j ≠ i := fun z => by subst z; rw [at_i] at q; cases q
    rw [at_j j hj] at q
    exact ⟨hj, q⟩
  have sub : ∀ b, Sx m.So σ (env.set i (some (false, d))) b → Sx m.So σ env b := fun b hb => by
    rcases hb with hb | ⟨j, e, h1, h2⟩
    · exact .inl hb
    · exact .inr ⟨j, e, (old j e h1).2, h2⟩
  have sa : Sx m.So σ env a := .inr ⟨i, d, h, ha⟩
  have wne : m.G.hw = true → m.wa ≠ a := fun hw z => n1 (by rw [← z]; exact r.so.1 hw)
  have kp : Kp (Sx m.So σ env) H (upd H a o) := fun c w e n _ => by rw [upd_ne (fun z => n (by rw [z]; exact sa))]; exact e
  refine ⟨⟨by rw [List.length_set]; exact r.len, fun j e q => ?_, fun j e q => ?_, fun j l e f b q1 q2 h1 h2 => ?_, ⟨r.so.1, fun c q => ?_⟩, ?_, ?_, ?_, ?_⟩, kp, sub, fun c q => ?_, fun c u q1 _ e => by rw [upd_ne (fun z => n1 (by rw [← z]; exact q1))]; exact e⟩
  · by_cases hj : j = i
    · subst hj
      rw [at_i] at q
      cases q
      exact ⟨_, ha, .inl rd⟩
    · rw [at_j j hj] at q
      obtain ⟨v, h1, h2⟩ := r.pl j e q
      exact ⟨v, h1, h2.mono kp (Sb.sub sub)⟩
  · obtain ⟨hj, q'⟩ := old j e q
    obtain ⟨b, h1, h2, h3, h4⟩ := r.ow j e q'
    have hba : b ≠ a := fun z => hj (r.ap j i e d b q' h h1 (by rw [z]; exact ha))
    refine ⟨b, h1, ?_, h3, h4⟩
    cases h2 with
    | lst e0 q0 => exact .lst (by rw [upd_ne hba]; exact e0) (q0.mono kp (Sb.sub sub))
    | dK e0 l0 q0 => exact .dK (by rw [upd_ne hba]; exact e0) l0 (q0.mono kp (Sb.sub sub))
    | dT e0 l0 q0 => exact .dT (by rw [upd_ne hba]; exact e0) l0 (q0.mono kp (Sb.sub sub))
  · exact r.ap j l e f b (old j e q1).2 (old l f q2).2 h1 h2
  · obtain ⟨u, e, k⟩ := r.so.2 c q
    exact ⟨u, by rw [upd_ne (fun z => n1 (by rw [← z]; exact q))]; exact e, k⟩
  · intro hw
    obtain ⟨x, y, z, e, w⟩ := r.we hw
    exact ⟨x, y, z, by rw [upd_ne (wne hw)]; exact e, w⟩
  · intro p hp
    obtain ⟨ps, e, q⟩ := r.ta p hp
    have hpa : p.1 ≠ a := fun z => by
      obtain ⟨o1, e1, nt1⟩ := x0.there
      rw [← z, e] at e1
      cases e1
      exact nt1 ps rfl
    refine ⟨ps, by rw [upd_ne hpa]; exact e, q.1, fun pos cv hc => ?_⟩
    obtain ⟨c, e2, e3⟩ := q.2 pos cv hc
    refine ⟨c, e2, ?_⟩
    have hca : c ≠ a := fun z => by
      rw [z] at e3
      cases x0 with
      | lst e0 q0 => rw [e0] at e3; cases e3
      | dK e0 l0 q0 => rw [e0] at e3; cases e3
      | dT e0 l0 q0 => rw [e0] at e3; cases e3
    rw [upd_ne hca]; exact e3
  · intro c u e n t
    have hca : c ≠ a := fun z => by rw [z, n2] at e; cases e
    rw [upd_ne hca]
    exact r.fr c u e n t
  · intro c q
    by_cases hca : c = a
    · rw [hca]; exact n2
    · rw [upd_ne hca] at q; exact r.nn c q
  · by_cases hca : c = a
    · subst hca; rw [upd_same] at q; cases q
    · rw [upd_ne hca] at q; exact q
theorem upd_id {a : Addr} {o : HO} (h : H a = some o) : upd H a o = H := by
  funext b
  by_cases hb : b = a
  · subst hb; rw [upd_same, h]
  · rw [upd_ne hb]
theorem sub_pl {i : Nat} {a : Addr} (r : RS m σ H env) (h : env[i]? = some (some (true, d))) (ha : σ[i]? = some (some (V.ref a))) : (∀ b, Sx m.So σ (env.set i (some (false, d))) b → Sx m.So σ env b) ∧ ¬ Sx m.So σ (env.set i (some (false, d))) a := by
  obtain ⟨a', ha', x0, n1, n2⟩ := r.ow i d h
  rw [ha] at ha'
  cases ha'
  have hi : i < env.length := (List.getElem?_eq_some_iff.mp h).1
  have at_i : (env.set i (some (false, d)))[i]? = some (some (false, d)) := by rw [List.getElem?_set_self hi]
  have old : ∀ j (e : D), (env.set i (some (false, d)))[j]? = some (some (true, e)) → j ≠ i ∧ env[j]? = some (some (true, e)) := fun j e q => by
    have hj : j ≠ i := fun z => by subst z; rw [at_i] at q; cases q
    rw [List.getElem?_set_ne (Ne.symm hj)] at q
    exact ⟨hj, q⟩
  refine ⟨fun b hb => ?_, fun hb => ?_⟩
  · rcases hb with hb | ⟨j, e, h1, h2⟩
    · exact .inl hb
    · exact .inr ⟨j, e, (old j e h1).2, h2⟩
  · rcases hb with hb | ⟨j, e, h1, h2⟩
    · exact n1 hb
    · obtain ⟨hj, q⟩ := old j e h1
      exact hj (r.ap j i e d a q h h2 ha)
/-- a dict may be known from now on, for good -/
def tGh (t : TE) : TE := fun σ H Q => t σ H Q ∨ ∃ d u, H d = some u ∧ Mut (some u) ∧ ∀ od, t σ (upd H d (.frz od u)) Q
theorem pe_ghost {t : TE} (h : PE X e t) : PE X e (tGh t) := by
  refine ⟨fun pins s σ H Q I hw => ?_⟩
  rcases hw with hw | ⟨d, u, hd, mu, hw⟩
  · exact h.run pins s σ H Q I hw
  · obtain ⟨od, I1⟩ := I.lock hd mu
    exact h.run pins s σ _ Q I1 (hw od)
/-- .. behind the expression -/
def tPost (t : TE) : TE := fun σ H Q => t σ H fun v H' => Q v H' ∨ ∃ d u, H' d = some u ∧ Mut (some u) ∧ ∀ od, Q v (upd H' d (.frz od u))
theorem pe_post {t : TE} (h : PE X e t) : PE X e (tPost t) := by
  refine ⟨fun pins s σ H Q I hw => ?_⟩
  refine thn (h.run pins s σ H _ I hw) fun v s1 ⟨x, H1, I1, r1, q⟩ => ?_
  rcases q with q | ⟨d, u, hd, mu, q⟩
  · exact ⟨x, H1, I1, r1, q⟩
  · obtain ⟨od, I2⟩ := I1.lock hd mu
    exact ⟨x, _, I2, r1, q od⟩
theorem de_var {i : Nat} (h : PE X e (tVar i)) : DE m X t Ex (.var i) e := by
  refine PE.weak (pe_ghost h) fun σ H Q ⟨env, Qd, r, w, kk⟩ => ?_
  have w' : varW i env Qd := w
  unfold varW at w'
  split at w'
  · rename_i d hd
    obtain ⟨v, h1, h2⟩ := r.pl i d hd
    exact .inl ⟨v, h1, kk d v env H (St1.refl r) h2 w'⟩
  · rename_i d hd
    obtain ⟨a, ha, x, n1, n2⟩ := r.ow i d hd
    obtain ⟨sub, na⟩ := sub_pl r hd ha
    cases x with
    | lst e0 q0 =>
      have rd : RD m.G m.wa H (Sx m.So σ (env.set i (some (false, _)))) _ (.ref a) := .lst e0 na (q0.mono Kp.refl (Sb.sub sub))
      have s := r.toPl hd ha noTbl_lst (by rw [upd_id e0]; exact rd)
      rw [upd_id e0] at s
      exact .inl ⟨.ref a, ha, kk _ (.ref a) _ H s (.inl rd) w'⟩
    | dK e0 l0 q0 =>
      refine .inr ⟨a, _, e0, True.intro, fun od => ?_⟩
      have sa : Sx m.So σ env a := .inr ⟨i, _, hd, ha⟩
      have kp : ∀ u, Kp (Sx m.So σ env) H (upd H a u) := fun u c w e n _ => by rw [upd_ne (fun z => n (by rw [z]; exact sa))]; exact e
      have rd : RD m.G m.wa (upd H a (.frz od (.dK _))) (Sx m.So σ (env.set i (some (false, _)))) _ (.ref a) := .dK upd_same na l0 (q0.mono (kp _) (Sb.sub sub))
      exact ⟨.ref a, ha, kk _ (.ref a) _ _ (r.toPl hd ha noTbl_frz rd) (.inl rd) w'⟩
    | dT e0 l0 q0 =>
      refine .inr ⟨a, _, e0, True.intro, fun od => ?_⟩
      have sa : Sx m.So σ env a := .inr ⟨i, _, hd, ha⟩
      have kp : ∀ u, Kp (Sx m.So σ env) H (upd H a u) := fun u c w e n _ => by rw [upd_ne (fun z => n (by rw [z]; exact sa))]; exact e
      have rd : RD m.G m.wa (upd H a (.frz od (.dT _))) (Sx m.So σ (env.set i (some (false, _)))) _ (.ref a) := .dT upd_same na l0 (q0.mono (kp _) (Sb.sub sub))
      exact ⟨.ref a, ha, kk _ (.ref a) _ _ (r.toPl hd ha noTbl_frz rd) (.inl rd) w'⟩
  · exact w'.elim
theorem de_const {v : V} (h : PE X e (tC v)) (hr : ∀ (H : Hp) (S : Addr → Prop), RD m.G m.wa H S d v) (hw : ∀ env Q, wpE t Ex ir env Q = Q d env) : DE m X t Ex ir e := by
  refine PE.weak h fun σ H Q ⟨env, Qd, r, w, kk⟩ => ?_
  rw [hw] at w
  exact kk d v env H (St1.refl r) (.inl (hr _ _)) w
/-! ### displays -/
theorem ROs.rds : ∀ {irs : List IE} {ds : List D} {vs : List V}, (∀ i ∈ irs, isBor i = false) → ds.all (fun d => !isClo d) = true → ROs m σ H env irs ds vs → RDs m.G m.wa H (Sx m.So σ env) ds vs ∧ ds.length = irs.length
  | [], [], [], _, _, _ => ⟨.nil, rfl⟩
  | [], [], _ :: _, _, _, h => h.elim
  | [], _ :: _, _, _, _, h => h.elim
  | _ :: _, [], vs, _, _, h => by cases vs <;> exact h.elim
  | _ :: _, _ :: _, [], _, _, h => h.elim
  | i :: is, d :: ds, v :: vs, hb, hc, h => by
    rw [ROs_nb (hb i List.mem_cons_self)] at h
    rw [List.all_cons, Bool.and_eq_true] at hc
    obtain ⟨a, b⟩ := ROs.rds (fun j hj => hb j (List.mem_cons_of_mem _ hj)) hc.2 h.2
    refine ⟨.cons ?_ a, by simp [b]⟩
    rcases h.1 with q | q
    · exact q
    · rw [m.clo q] at hc
      exact absurd hc.1 (by decide)
end
end SD

set_option Elab.async false
set_option linter.all false
set_option maxRecDepth 100000
set_option maxHeartbeats 4000000
namespace SD
open PySem PySem.Spec PyProof.Rows L2

/-! ## operators and their places in the text -/
def binO : Op → Option Operator
  | .add => some .Add | .sub => some .Sub | .mul => some .Mult | .fdiv => some .FloorDiv | .mod => some .Mod | .pow => some .Pow
  | _ => none
def cmpO : Op → Option CmpOp
  | .eq => some .Eq | .ne => some .NotEq | .lt => some .Lt | .gt => some .Gt | .le => some .LtE | .ge => some .GtE
  | .inn => some .In | .nin => some .NotIn | .isB => some .Is | .isnB => some .IsNot
  | _ => none
def bltO : Op → Option Str
  | .len => some "len" | .abs => some "abs" | .sum => some "sum" | .max1 => some "max" | .min1 => some "min" | .max2 => some "max" | .min2 => some "min"
  | .all_ => some "all" | .any_ => some "any" | .int_ => some "int" | .bool_ => some "bool" | .list_ => some "list" | .tuple_ => some "tuple"
  | .divmod => some "divmod" | .sorted => some "sorted"
  | _ => none
def isNone : Expr → Bool
  | .Constant .none _ _ => true
  | _ => false
def glB (sc : Scope) (x : Str) : Bool := decide (sc.names.lookup x = some .globalImplicit)
/-- the operands of an operator's node in the text -/
def argsOf (sc : Scope) (o : Op) : Expr → Option (List Expr)
  | .BinOp a op b _ => if binO o = some op then some [a, b] else none
  | .Compare a [op] [b] _ => if cmpO o = some op ∧ behindInMarks op b = false then some [a, b] else if (o = .isN ∧ op = .Is ∧ isNone b = true) ∨ (o = .isnN ∧ op = .IsNot ∧ isNone b = true) then some [a] else none
  | .UnaryOp .USub a _ => if o = .neg then some [a] else none
  | .Call (.Name x _) args [] _ => if bltO o = some x ∧ glB sc x = true then some args else
      match o, args with
      | .sset, [.Call (.Name y _) [a] [] _] => if x = ("sorted" : Str) ∧ glB sc x = true ∧ y = ("set" : Str) ∧ glB sc y = true ∧ notStar a = true then some [a] else none
      | .isi T, [a, .Name n _] => if x = ("isinstance" : Str) ∧ glB sc x = true ∧ n = (T.nm : Str) ∧ glB sc n = true ∧ T.nm ≠ "" then some [a] else none
      | _, _ => none
  | .Subscript a (.Slice none none none _) _ => if o = .sl false false then some [a] else none
  | .Subscript a (.Slice (some l) none none _) _ => if o = .sl true false then some [a, l] else none
  | .Subscript a (.Slice none (some h) none _) _ => if o = .sl false true then some [a, h] else none
  | .Subscript a (.Slice (some l) (some h) none _) _ => if o = .sl true true then some [a, l, h] else none
  | .Subscript a b _ => if o = .idx ∧ notSlice b = true then some [a, b] else none
  | _ => none
/-- the built-in names that the rules speak of -/
def bltNames : List Str := ["len", "abs", "sum", "max", "min", "all", "any", "int", "bool", "list", "tuple", "isinstance", "str", "dict", "range", "enumerate", "zip", "reversed", "sorted", "set", "divmod"]
section
variable {m : Am} {X : Cx} {k : Nat} {t : Tb} {Ex : ExV → DEnv → Prop} {e : Expr} {es : List Expr} {ir : IE} {irs : List IE} {pos : Pos}
theorem AL.one {a : Expr} (h : AL m X t Ex irs [a]) : ∃ i, irs = [i] ∧ PE X a (tO m t Ex i) ∧ notStar a = true := by
  cases irs with
  | nil => exact h.elim
  | cons i irs => cases irs with
    | nil => exact ⟨i, rfl, h.1, h.2.1⟩
    | cons _ _ => exact h.2.2.elim
theorem AL.two {a b : Expr} (h : AL m X t Ex irs [a, b]) : ∃ i j, irs = [i, j] ∧ PE X a (tO m t Ex i) ∧ PE X b (tO m t Ex j) := by
  cases irs with
  | nil => exact h.elim
  | cons i irs =>
    obtain ⟨j, rfl, h2, _⟩ := AL.one h.2.2
    exact ⟨i, j, rfl, h.1, h2⟩
theorem AL.three {a b c : Expr} (h : AL m X t Ex irs [a, b, c]) : ∃ i j l, irs = [i, j, l] ∧ PE X a (tO m t Ex i) ∧ PE X b (tO m t Ex j) ∧ PE X c (tO m t Ex l) := by
  cases irs with
  | nil => exact h.elim
  | cons i irs =>
    obtain ⟨j, l, rfl, h2, h3⟩ := AL.two h.2.2
    exact ⟨i, j, l, rfl, h.1, h2, h3⟩
theorem Gl.of {x : Str} {sc : Scope} (hs : X.env.scope = sc) (h : glB sc x = true) : Gl X x := by
  have h' := of_decide_eq_true h
  rw [← hs] at h'
  exact h'
theorem tOb : PE X e (tO m t Ex ir) → PE X e (tO m t Ex ir) := id
theorem bin_sound {o : Op} {op : Operator} {a b : Expr} {i j : IE} (g : GX m X k) (h : binO o = some op) (ha : PE X a (tO m t Ex i)) (hb : PE X b (tO m t Ex j)) : Both m X t Ex (.op o [i, j]) (.BinOp a op b pos) := by
  cases o <;> simp only [binO] at h <;> first | (cases h; done) | skip
  all_goals cases h
  · exact both_bin (r := rAdd4 m.G.K) g (by have h := or_add (X := X); rw [g.hK] at h; exact h) snd_add ha hb
  · exact both_bin g op_sub snd_sub ha hb
  · exact both_bin (r := rMul3 m.G.K) g (by have h := or_mul (X := X); rw [g.hK] at h; exact h) snd_mul ha hb
  · exact both_bin g op_fdiv snd_fdiv ha hb
  · exact both_bin g op_mod snd_mod ha hb
  · exact both_bin g op_pow snd_pow ha hb
theorem unit64 (g : GX m X k) : X.A.units + 64 < cLine := g.room.units
theorem unit65 (g : GX m X k) : X.A.units + 65 < cLine := by have h := g.room.un; omega
theorem cmp_sound {o : Op} {op : CmpOp} {a b : Expr} {i j : IE} (g : GX m X k) (h : cmpO o = some op) (ha : PE X a (tO m t Ex i)) (hb : PE X b (tO m t Ex j)) (hm : behindInMarks op b = false) : Both m X t Ex (.op o [i, j]) (.Compare a [op] [b] pos) := by
  have hu := unit64 g
  cases o <;> simp only [cmpO] at h <;> first | (cases h; done) | skip
  all_goals cases h
  · exact both_cmp (r := rEqD m.G.K) (by have h := op_eqD (X := X) hu; rw [g.hK] at h; exact h) snd_eq isBl_eq ha hb hm
  · exact both_cmp (r := rNeD m.G.K) (by have h := op_neD (X := X) hu; rw [g.hK] at h; exact h) snd_ne isBl_ne ha hb hm
  · exact both_cmp (r := rOd m.G.K dlt) (by have h := or_od (X := X) od_lt (fun _ _ => rfl) hu; rw [g.hK] at h; exact h) snd_lt isBl_lt ha hb hm
  · exact both_cmp (r := rOd m.G.K fun a b => !dlt b a) (by have h := or_od (X := X) od_le (fun _ _ => rfl) hu; rw [g.hK] at h; exact h) snd_le isBl_le ha hb hm
  · exact both_cmp (r := rOd m.G.K fun a b => dlt b a) (by have h := or_od (X := X) od_gt (fun _ _ => rfl) hu; rw [g.hK] at h; exact h) snd_gt isBl_gt ha hb hm
  · exact both_cmp (r := rOd m.G.K fun a b => !dlt a b) (by have h := or_od (X := X) od_ge (fun _ _ => rfl) hu; rw [g.hK] at h; exact h) snd_ge isBl_ge ha hb hm
  · exact both_cmp (r := rIsBl) op_is_bl snd_isB isBl_isB ha hb hm
  · exact both_cmp (r := rIsnBl) op_isnot_bl snd_isnB isBl_isnB ha hb hm
  · exact both_cmp (r := rIn4 m.G.K) (by have h := or_in (X := X) (unit65 g); rw [g.hK] at h; exact h) snd_in isBl_in ha hb hm
  · exact both_cmp (r := rNin4 m.G.K) (by have h := or_nin (X := X) (unit65 g); rw [g.hK] at h; exact h) snd_nin isBl_nin ha hb hm
theorem isN_sound {a b : Expr} {i : IE} (g : GX m X k) (hn : isNone b = true) (ha : PE X a (tO m t Ex i)) : Both m X t Ex (.op .isN [i]) (.Compare a [.Is] [b] pos) := by
  cases b <;> first | (cases hn; done) | skip
  rename_i c j p
  cases c <;> first | (cases hn; done) | skip
  have h1 := pe_cmp (pos := pos) (pc_isN (j := j) (pos' := p) ha) rfl
  have h2 := pt_cmp (pos := pos) (pc_isN (j := j) (pos' := p) ha) rfl
  refine ⟨PE.weak h1 fun σ H Q h => op_read snd_isN h, PT.weak h2 fun σ H Q h => op_readT snd_isN isBl_isN h⟩
theorem isnN_sound {a b : Expr} {i : IE} (g : GX m X k) (hn : isNone b = true) (ha : PE X a (tO m t Ex i)) : Both m X t Ex (.op .isnN [i]) (.Compare a [.IsNot] [b] pos) := by
  cases b <;> first | (cases hn; done) | skip
  rename_i c j p
  cases c <;> first | (cases hn; done) | skip
  have h1 := pe_cmp (pos := pos) (pc_notN (j := j) (pos' := p) ha) rfl
  have h2 := pt_cmp (pos := pos) (pc_notN (j := j) (pos' := p) ha) rfl
  refine ⟨PE.weak h1 fun σ H Q h => op_read snd_isnN h, PT.weak h2 fun σ H Q h => op_readT snd_isnN isBl_isnN h⟩
theorem blt_nd {x : Str} (h : x ∈ bltNames) : x ≠ "__name__" ∧ (x == ("__debug__" : Str)) = false := by
  have q : (bltNames.all fun x => decide (x ≠ "__name__" ∧ (x == ("__debug__" : Str)) = false)) = true := by decide +kernel
  exact of_decide_eq_true (List.all_eq_true.mp q x h)
theorem boot_len' : bootBuiltins "len" = some (.builtin "len") := by decide +kernel
theorem boot_abs' : bootBuiltins "abs" = some (.builtin "abs") := by decide +kernel
theorem boot_max' : bootBuiltins "max" = some (.builtin "max") := by decide +kernel
theorem boot_min' : bootBuiltins "min" = some (.builtin "min") := by decide +kernel
theorem boot_divmod' : bootBuiltins "divmod" = some (.builtin "divmod") := by decide +kernel
theorem boot_sorted' : bootBuiltins "sorted" = some (.builtin "sorted") := by decide +kernel
theorem boot_sum' : bootBuiltins "sum" = some (.builtin "sum") := by decide +kernel
theorem boot_all' : bootBuiltins "all" = some (.builtin "all") := by decide +kernel
theorem boot_any' : bootBuiltins "any" = some (.builtin "any") := by decide +kernel
theorem boot_int' : bootBuiltins "int" = some (.type "int") := by decide +kernel
theorem boot_bool' : bootBuiltins "bool" = some (.type "bool") := by decide +kernel
theorem boot_list' : bootBuiltins "list" = some (.type "list") := by decide +kernel
theorem boot_tuple' : bootBuiltins "tuple" = some (.type "tuple") := by decide +kernel
theorem boot_isi' : bootBuiltins "isinstance" = some (.builtin "isinstance") := by decide +kernel
theorem blt_sound {o : Op} {x : Str} {p : Pos} {args : List Expr} (g : GX m X k) (hb : ∀ x ∈ bltNames, X.mg x = none) (h : bltO o = some x) (hg : Gl X x) (al : AL m X t Ex irs args) (he : args ≠ []) : Both m X t Ex (.op o irs) (.Call (.Name x p) args [] pos) := by
  cases args with
  | nil => exact absurd rfl he
  | cons e es =>
    have hin : x ∈ bltNames := by
      cases o <;> simp only [bltO] at h <;> first | (cases h; done) | (cases h; decide +kernel)
    obtain ⟨n1, n2⟩ := blt_nd hin
    have hm := hb x hin
    cases o <;> simp only [bltO] at h <;> first | (cases h; done) | skip
    all_goals cases h
    · exact both_callB g (r := rLenG m.G.K) (by have h := cr_lenG (X := X); rw [g.hK] at h; exact h) snd_len al hg hm boot_len' n1 n2
    · exact both_callB g (r := rAbs1) call_abs snd_abs al hg hm boot_abs' n1 n2
    · exact both_callT g (r := rInt1) call_int1 snd_int al hg hm boot_int' n1 n2
    · exact both_callT g (r := rBool1) call_bool1 snd_bool al hg hm boot_bool' n1 n2
    · exact both_callB g (r := rSortG m) (cr_sortG g.calm (unit64 g) g.hK) snd_sorted al hg hm boot_sorted' n1 n2
    · exact both_callT g (r := rListG m) (cr_listG g.calm g.hK) snd_list al hg hm boot_list' n1 n2
    · exact both_callT g (r := rTupleB m.G.K) (by have h := call_tupleB (X := X); rw [g.hK] at h; exact h) snd_tuple al hg hm boot_tuple' n1 n2
    · exact both_callB g (r := rSum m.G.K) (by have h := cr_sum (X := X) g.calm; rw [g.hK] at h; exact h) snd_sum al hg hm boot_sum' n1 n2
    · exact both_callB g (r := rMax m.G.K) (by have h := cr_max (X := X) g.calm; rw [g.hK] at h; exact h) snd_max1 al hg hm boot_max' n1 n2
    · exact both_callB g (r := rMin m.G.K) (by have h := cr_min (X := X) g.calm; rw [g.hK] at h; exact h) snd_min1 al hg hm boot_min' n1 n2
    · exact both_callB g (r := rMax2') (call_max2 g.calm) snd_max2 al hg hm boot_max' n1 n2
    · exact both_callB g (r := rMin2') (call_min2 g.calm) snd_min2 al hg hm boot_min' n1 n2
    · exact both_callB g (r := rAll m.G.K) (by have h := cr_all (X := X) g.calm; rw [g.hK] at h; exact h) snd_all al hg hm boot_all' n1 n2
    · exact both_callB g (r := rAny m.G.K) (by have h := cr_any (X := X) g.calm; rw [g.hK] at h; exact h) snd_any al hg hm boot_any' n1 n2
    · exact both_callB g (r := rDivmod) call_divmod snd_divmod al hg hm boot_divmod' n1 n2
theorem ty_boot {T : Ty} (h : T.nm ≠ "") : (T.nm : Str) ∈ bltNames ∧ bootBuiltins (T.nm : Str) = some (.type T.nm) := by
  cases T <;> first | exact absurd rfl h | (exact ⟨by decide +kernel, by decide +kernel⟩)
theorem isi_sound {T : Ty} {a : Expr} {i : IE} {p p2 : Pos} (g : GX m X k) (hb : ∀ x ∈ bltNames, X.mg x = none) (hT : T.nm ≠ "") (hg : Gl X "isinstance") (hg2 : Gl X (T.nm : Str)) (ha : PE X a (tO m t Ex i)) (hs : notStar a = true) :
    Both m X t Ex (.op (.isi T) [i]) (.Call (.Name "isinstance" p) [a, .Name (T.nm : Str) p2] [] pos) := by
  obtain ⟨h1, h2⟩ := ty_boot hT
  obtain ⟨n1, n2⟩ := blt_nd h1
  have hnc : ∀ c, T ≠ .cls c := fun c e => by subst e; exact hT rfl
  have pn : PE X (.Name (T.nm : Str) p2) (tC (.ty T.nm)) := pe_bltn hg2 (hb _ h1) h2 rfl n1 n2
  have pa : PA X [a, .Name (T.nm : Str) p2] (tCons (tO m t Ex i) (tCons (tC (.ty T.nm)) tNil)) := pa_cons ha (pa_cons pn pa_nil rfl) (star_nb hs)
  have hm : X.mg "isinstance" = none := hb _ (by decide +kernel)
  have hc : CallR X (.builtin "isinstance") (rIsi m.G.K) := by have h := call_isi (X := X); rw [g.hK] at h; exact h
  refine both_of g (PE.weak (pe_callB hc hg hm boot_isi' pa (by decide +kernel) (by decide +kernel) (star_nb hs) rfl) fun σ H Q h => ?_) rfl
  exact op_read (snd_isi hnc) h
theorem boot_set' : bootBuiltins "set" = some (.type "set") := by decide +kernel
theorem sset_sound {a : Expr} {i : IE} {p p2 pos2 : Pos} (g : GX m X k) (hb : ∀ x ∈ bltNames, X.mg x = none) (hg : Gl X "sorted") (hg2 : Gl X "set") (ha : PE X a (tO m t Ex i)) (hs : notStar a = true) :
    Both m X t Ex (.op .sset [i]) (.Call (.Name "sorted" p) [.Call (.Name "set" p2) [a] [] pos2] [] pos) := by
  have hc : CallR X (.type "set") (rSetL1 m.G.K m.G.w) := by have h := cr_setL1 (X := X) g.calm; rw [g.hK, g.hw] at h; exact h
  have hd : CallR X (.builtin "sorted") (rSortedSet m.G.w) := by have h := cr_sortedSet (X := X) g.calm; rw [g.hw] at h; exact h
  have inner := pe_callTy (pos := pos2) (p := p2) hc hg2 (hb _ (by decide +kernel)) boot_set' (pa_cons ha pa_nil (star_nb hs)) (by decide +kernel) (by decide +kernel) (star_nb hs) rfl
  refine both_of g (PE.weak (pe_callB hd hg (hb _ (by decide +kernel)) boot_sorted' (pa_cons inner pa_nil rfl) (by decide +kernel) (by decide +kernel) rfl rfl) fun σ H Q h => ?_) rfl
  exact op_read (snd_sset (w := m.G.w)) h
theorem sl_sound {a : Expr} {lo hi : Option Expr} {p2 : Pos} (g : GX m X k) {es : List Expr} (al : AL m X t Ex irs es) {bl bh : Bool}
    (h : (lo = none ∧ hi = none ∧ es = [a] ∧ bl = false ∧ bh = false) ∨ (∃ l, lo = some l ∧ hi = none ∧ es = [a, l] ∧ bl = true ∧ bh = false) ∨ (∃ r, lo = none ∧ hi = some r ∧ es = [a, r] ∧ bl = false ∧ bh = true) ∨ (∃ l r, lo = some l ∧ hi = some r ∧ es = [a, l, r] ∧ bl = true ∧ bh = true)) :
    Both m X t Ex (.op (.sl bl bh) irs) (.Subscript a (.Slice lo hi none p2) pos) := by
  have hr : SlR X (rSl3 m.G.K) := by have h := or_sl (X := X); rw [g.hK] at h; exact h
  refine both_of g ?_ rfl
  rcases h with ⟨rfl, rfl, rfl, rfl, rfl⟩ | ⟨l, rfl, rfl, rfl, rfl, rfl⟩ | ⟨r, rfl, rfl, rfl, rfl, rfl⟩ | ⟨l, r, rfl, rfl, rfl, rfl, rfl⟩
  · obtain ⟨i, rfl, h1, _⟩ := al.one
    exact PE.weak (pe_slice hr h1 po_none po_none) fun σ H Q h => op_read snd_sl h
  · obtain ⟨i, j, rfl, h1, h2⟩ := al.two
    exact PE.weak (pe_slice hr h1 (po_some h2) po_none) fun σ H Q h => op_read snd_sl h
  · obtain ⟨i, j, rfl, h1, h2⟩ := al.two
    exact PE.weak (pe_slice hr h1 po_none (po_some h2)) fun σ H Q h => op_read snd_sl h
  · obtain ⟨i, j, l, rfl, h1, h2, h3⟩ := al.three
    exact PE.weak (pe_slice2 hr h1 h2 h3) fun σ H Q h => op_read snd_sl h
theorem idx_sound {a b : Expr} {i j : IE} (g : GX m X k) (ha : PE X a (tO m t Ex i)) (hb : PE X b (tO m t Ex j)) (hs : notSlice b = true) : Both m X t Ex (.op .idx [i, j]) (.Subscript a b pos) := by
  have hr : IxR X (rIx4 m.G.K) := by
    have h := (ix_seq (X := X)).or (ix_dct (X := X) (by have := unit64 g; omega))
    rw [g.hK] at h
    exact h
  refine both_of g (PE.weak (pe_ix hr ha hb (slice_nb hs)) fun σ H Q h => ?_) rfl
  exact op_read snd_idx h
/-- THE OPERATORS -/
theorem op_sound {sc : Scope} {o : Op} (g : GX m X k) (hsc : X.env.scope = sc) (hb : ∀ x ∈ bltNames, X.mg x = none) (h : argsOf sc o e = some es) (al : AL m X t Ex irs es) (hne : es ≠ []) : Both m X t Ex (.op o irs) e := by
  unfold argsOf at h
  split at h
  · split at h
    · rename_i hh
      cases h
      obtain ⟨i, j, rfl, h1, h2⟩ := al.two
      exact bin_sound g hh h1 h2
    · cases h
  · split at h
    · rename_i hh
      cases h
      obtain ⟨i, j, rfl, h1, h2⟩ := al.two
      exact cmp_sound g hh.1 h1 h2 hh.2
    · split at h
      · rename_i hh
        cases h
        obtain ⟨i, rfl, h1, _⟩ := al.one
        rcases hh with ⟨rfl, rfl, hn⟩ | ⟨rfl, rfl, hn⟩
        · exact isN_sound g hn h1
        · exact isnN_sound g hn h1
      · cases h
  · split at h
    · rename_i hh
      cases h
      subst hh
      obtain ⟨i, rfl, h1, _⟩ := al.one
      exact both_of g (PE.weak (pe_un un_neg h1) fun σ H Q h => op_read snd_neg h) rfl
    · cases h
  · split at h
    · rename_i hh
      cases h
      exact blt_sound g hb hh.1 (Gl.of hsc hh.2) al hne
    · split at h
      · split at h
        · rename_i hh
          cases h
          obtain ⟨rfl, h1, rfl, h2, h3⟩ := hh
          obtain ⟨i, rfl, h4, h5⟩ := al.one
          exact sset_sound g hb (Gl.of hsc h1) (Gl.of hsc h2) h4 h5
        · cases h
      · split at h
        · rename_i hh
          cases h
          obtain ⟨rfl, h1, rfl, h2, h3⟩ := hh
          obtain ⟨i, rfl, h4, h5⟩ := al.one
          exact isi_sound g hb h3 (Gl.of hsc h1) (Gl.of hsc h2) h4 h5
        · cases h
      · cases h
  · split at h
    · rename_i hh; cases h; subst hh
      exact sl_sound g al (.inl ⟨rfl, rfl, rfl, rfl, rfl⟩)
    · cases h
  · split at h
    · rename_i hh; cases h; subst hh
      exact sl_sound g al (.inr (.inl ⟨_, rfl, rfl, rfl, rfl, rfl⟩))
    · cases h
  · split at h
    · rename_i hh; cases h; subst hh
      exact sl_sound g al (.inr (.inr (.inl ⟨_, rfl, rfl, rfl, rfl, rfl⟩)))
    · cases h
  · split at h
    · rename_i hh; cases h; subst hh
      exact sl_sound g al (.inr (.inr (.inr ⟨_, _, rfl, rfl, rfl, rfl, rfl⟩)))
    · cases h
  · split at h
    · rename_i hh
      cases h
      obtain ⟨rfl, hs⟩ := hh
      obtain ⟨i, j, rfl, h1, h2⟩ := al.two
      exact idx_sound g h1 h2 hs
    · cases h
  · cases h
end
end SD

set_option Elab.async false
set_option linter.all false
set_option maxRecDepth 100000
set_option maxHeartbeats 4000000
namespace SD
open PySem PySem.Spec PyProof.Rows L2

/-! ## what a def keeps -/
/-- the ambient part at a call: the well is there, the tables are, the forbidden places are tracked -/
structure Amb (G : Wd) (wa : Addr) (So : Addr → Prop) (H : Hp) : Prop where
  so : (G.hw = true → So wa) ∧ SoOk So H
  we : G.hw = true → ∃ a b c : Int, H wa = some (.lst [.int a, .int b, .int c]) ∧ WOk a b c
  ta : NdefX.TabsN G.T H
/-- behind a call: all but the well stands as it stood -/
structure FrC (G : Wd) (wa : Addr) (H H' : Hp) : Prop where
  kp : ∀ a o, H a = some o → (G.hw = true → a ≠ wa) → NoTbl o → H' a = some o
  nn : ∀ a, H' a = none → H a = none
/-- an exception that flies: its class, its fields -/
def REx (G : Wd) (wa : Addr) (H : Hp) (S : Addr → Prop) (x : ExV) (cls : Value) (dx : Option Addr) : Prop :=
  cls = .ref (G.cls x.c) ∧ ((x.fs = [] ∧ dx = none) ∨ ∃ d xs, dx = some d ∧ H d = some (.xd ((G.fld x.c).zip xs)) ∧ ¬ S d ∧ (G.fld x.c).length = xs.length ∧ RDs G wa H S x.fs xs)
/-- a def in a def (or a lambda), made: its text T, the cells that it captured, its code object's place -/
def CT.fd (T : CT) (cl : List (Str × Addr)) (c : Addr) (doc pm ctv : Value) : FuncData :=
  { name := T.name, qualname := T.qual, params := T.params, body := T.body, scope := T.scope, globals := mainGlobals, closure := cl, defaults := .none, kwdefaults := .none, doc := doc, pyModule := pm, annotations := none, code := .ref c, closureTuple := ctv, builtins := builtinsNs }
def FnC (f : Addr) (T : CT) (cl : List (Str × Addr)) (c : Addr) : HO := .ext fun h => ∃ (od : Option Addr) (sl : Array (Option Value)) (doc pm ctv : Value), h.get? f = some (⟨.type "function", od, .func (T.fd cl c doc pm ctv), sl⟩ : Obj)
theorem noTbl_fnC {f T cl c} : NoTbl (FnC f T cl c) := fun _ z => by unfold FnC at z; cases z
theorem noTbl_code {c q} : NoTbl (LamX.CodeO c q) := fun _ z => by unfold LamX.CodeO at z; cases z
/-- a closure as it is handed over, at the state h, H0: what its cells hold is known -/
def CAt (G : Wd) (fs : List Addr) (h : Heap) (H0 : Hp) (wa : Addr) (H : Hp) (S : Addr → Prop) (d : D) (v : V) : Prop := ∃ (c : Nat) (ws : List D) (f : Addr) (cl : List (Str × Addr)) (c' : Addr) (wss : List V), d = .clo c ws ∧ v = .ref f ∧ H f = some (FnC f (G.ct c) cl c') ∧ ¬ S f ∧
  H c' = some (LamX.CodeO c' (G.ct c).qual) ∧ ¬ S c' ∧ RDs G wa H S ws wss ∧ NdefX.CellsAt cl (G.cfr c) (wss.map some) h H0 ∧ ∀ y a, cl.lookup y = some a → a ∉ fs
theorem CAt.mono {G : Wd} {fs : List Addr} {h : Heap} {H0 : Hp} {wa : Addr} {H H' : Hp} {S S' : Addr → Prop} {d : D} {v : V} (k : Kp S H H') (s : Sb H S S') (r : CAt G fs h H0 wa H S d v) : CAt G fs h H0 wa H' S' d v := by
  obtain ⟨c, ws, f, cl, c', wss, h1, h2, h3, h4, h5, h6, h7, h8⟩ := r
  obtain ⟨a1, a2⟩ := stay k s h3 h4 noTbl_fnC
  obtain ⟨b1, b2⟩ := stay k s h5 h6 noTbl_code
  exact ⟨c, ws, f, cl, c', wss, h1, h2, a1, a2, b1, b2, h7.mono k s, h8⟩
theorem CAt.clo {G : Wd} {fs : List Addr} {h : Heap} {H0 : Hp} {wa : Addr} {H : Hp} {S : Addr → Prop} {d : D} {v : V} (r : CAt G fs h H0 wa H S d v) : isClo d = true := by
  obtain ⟨c, ws, f, cl, c', wss, rfl, _⟩ := r
  rfl
def CAs (G : Wd) (fs : List Addr) (h : Heap) (wa : Addr) (So : Addr → Prop) (H : Hp) : List D → List V → Prop
  | [], [] => True
  | d :: ds, v :: vs => (RD G wa H So d v ∨ CAt G fs h H wa H So d v) ∧ CAs G fs h wa So H ds vs
  | _, _ => False
def GOk (G : Wd) (lvl : Nat) (f : Addr) (fd : FuncData) (ps : List Str) (C : Contract) : Prop :=
  ∀ (A : Around) (outer : List PySem.Env) (s : Shared) (H : Hp) (args : Args) (us : List Value) (vs : List V) (ds : List D) (wa : Addr) (So : Addr → Prop) (Qd : D → Prop) (Ed : ExV → Prop) (Q : VK) (E : XK),
    Room lvl A → Env0 G.P G.w G.K G.mg G.base A outer s H → BindsTo s fd args (ps.zip us) → Vals vs us → ds.length = ps.length → CAs G (frs outer) s.heap wa So H ds vs → Amb G wa So H → C ds Qd Ed →
    (∀ d v H', FrC G wa H H' → Amb G wa So H' → RD G wa H' So d v → Qd d → Q v H') → (∀ x cls dx H', FrC G wa H H' → Amb G wa So H' → REx G wa H' So x cls dx → Ed x → E cls dx H') →
    codeAny (model G.P G.w) A (.call (.ref f) args) (CR (CX G.P G.w) outer G.P G.w H s Q E) s
theorem GOk.mono {G : Wd} {j k : Nat} {f fd ps C} (h : GOk G j f fd ps C) (l : j ≤ k) : GOk G k f fd ps C := fun A outer s H args us vs ds wa So Qd Ed Q E hr => h A outer s H args us vs ds wa So Qd Ed Q E (hr.mono l)
def permV (p : List Nat) (us : List Value) : List Value := p.map fun i => us.getD i .none
/-- what a call by names alone binds -/
def KwB (K : PySem.W.Frag) (fd : FuncData) (ps : List Str) (q : List Str × List Nat) : Prop := ∀ (s : Shared) (us : List Value), K.In s.heap → us.length = q.1.length → BindsTo s fd ⟨[], q.1.zip us⟩ (ps.zip (permV q.2 us))
theorem CAs.len {G : Wd} {fs : List Addr} {h : Heap} {wa : Addr} {So : Addr → Prop} : ∀ {ds : List D} {vs : List V}, CAs G fs h wa So H ds vs → ds.length = vs.length
  | [], [], _ => rfl
  | _ :: _, _ :: _, h => by simp [CAs.len h.2]
  | [], _ :: _, h => h.elim
  | _ :: _, [], h => h.elim
structure SameP (X : Cx) (G : Wd) : Prop where
  hP : X.prog = G.P
  hw : X.w = G.w
  hK : X.K = G.K
  hmg : X.mg = G.mg
  hb : X.base = G.base
/-- what a call of f keeps, however it is made: mk lays its n arguments -/
def CallX (G : Wd) (lvl : Nat) (f : Addr) (mk : List Value → Args) (n : Nat) (C : Contract) : Prop :=
  ∀ (X : Cx) (pins : List (Addr × Obj)) (σ : L2.St) (H : Hp) (s : Shared) (us : List Value) (vs : List V) (ds : List D) (wa : Addr) (So : Addr → Prop) (Qd : D → Prop) (Ed : ExV → Prop) (Q : VK) (E : XK),
    SameP X G → Room lvl X.A → Inv X pins σ H s → (∀ H1 s1 u s', Inv X pins σ H1 s1 → CX X.prog X.w X.stack H1 s1 E u s' → X.xe u s') → Vals vs us → ds.length = n → CAs G (frs X.stack) s.heap wa So H ds vs → Amb G wa So H → C ds Qd Ed →
    (∀ d v H', FrC G wa H H' → Amb G wa So H' → RD G wa H' So d v → Qd d → Q v H') → (∀ x cls dx H', FrC G wa H H' → Amb G wa So H' → REx G wa H' So x cls dx → Ed x → E cls dx H') →
    wpAny (model X.prog X.w) X.A (call (.ref f) (mk us).pos (mk us).kw) (EP X pins σ Q) X.xe s
theorem env0_at {X : Cx} {G : Wd} {pins : List (Addr × Obj)} {σ : L2.St} {H : Hp} {s : Shared} (hX : SameP X G) (I : Inv X pins σ H s) : Env0 G.P G.w G.K G.mg G.base X.A X.stack s H := by
  have q := I.env0
  rw [hX.hP, hX.hw, hX.hK, hX.hmg, hX.hb] at q
  exact q
theorem gok_run {G : Wd} {lvl : Nat} {f : Addr} {fd : FuncData} {ps : List Str} {C : Contract} (h : GOk G lvl f fd ps C) {X : Cx} {pins : List (Addr × Obj)} {σ : L2.St} {H : Hp} {s : Shared} {args : Args} {us : List Value} {vs : List V} {ds : List D} {wa : Addr} {So : Addr → Prop} {Qd : D → Prop} {Ed : ExV → Prop} {Q : VK} {E : XK}
    (hX : SameP X G) (hr : Room lvl X.A) (I : Inv X pins σ H s) (hx : ∀ H1 s1 u s', Inv X pins σ H1 s1 → CX X.prog X.w X.stack H1 s1 E u s' → X.xe u s') (bt : BindsTo s fd args (ps.zip us)) (rv : Vals vs us) (hl : ds.length = ps.length) (ca : CAs G (frs X.stack) s.heap wa So H ds vs) (am : Amb G wa So H) (hc : C ds Qd Ed)
    (kq : ∀ d v H', FrC G wa H H' → Amb G wa So H' → RD G wa H' So d v → Qd d → Q v H') (ke : ∀ x cls dx H', FrC G wa H H' → Amb G wa So H' → REx G wa H' So x cls dx → Ed x → E cls dx H') :
    wpAny (model X.prog X.w) X.A (call (.ref f) args.pos args.kw) (EP X pins σ Q) X.xe s := by
  have run := h X.A X.stack s H args us vs ds wa So Qd Ed Q E hr (env0_at hX I) bt rv hl ca am hc kq ke
  rw [← hX.hP, ← hX.hw] at run
  refine wpAny_call (codeAny_mono run fun rr s' hq => ?_)
  cases rr with
  | error u => exact hx H s u s' I hq
  | ok fl =>
    cases fl with
    | ret u => exact I.after hq
    | next => exact False.elim hq
    | brk => exact False.elim hq
    | cont => exact False.elim hq
theorem callX_pos {G : Wd} {lvl : Nat} {f : Addr} {fd : FuncData} {ps : List Str} {C : Contract} (h : GOk G lvl f fd ps C) (b : Binds G.K fd ps []) : CallX G lvl f (fun us => ⟨us, []⟩) ps.length C :=
  fun X pins σ H s us vs ds wa So Qd Ed Q E hX hr I hx rv hl ca am hc kq ke => by
    have bt : BindsTo s fd ⟨us, []⟩ (ps.zip us) := by
      have kin := I.kIn
      rw [hX.hK] at kin
      have q := b s us kin (by rw [List.append_nil, ← rv.length, ← ca.len, hl])
      simpa using q
    exact gok_run h hX hr I hx bt rv hl ca am hc kq ke
theorem permV_vals {vs : List V} {p : List Nat} {us : List Value} (rv : Vals vs us) (hp : ∀ i ∈ p, i < vs.length) : Vals (p.map fun i => vs.getD i .non) (permV p us) := by
  unfold permV
  induction p with
  | nil => exact .nil
  | cons i p ih =>
    have hi := hp i List.mem_cons_self
    obtain ⟨u, h1, h2⟩ := rv.get (List.getElem?_eq_getElem hi)
    refine .cons ?_ (ih fun j hj => hp j (List.mem_cons_of_mem _ hj))
    show RelV (vs.getD i .non) (us.getD i .none)
    rw [List.getD_eq_getElem?_getD, List.getD_eq_getElem?_getD, h1, List.getElem?_eq_getElem hi]
    exact h2
theorem CAs.get {G : Wd} {fs : List Addr} {h : Heap} {wa : Addr} {So : Addr → Prop} {H : Hp} : ∀ {ds : List D} {vs : List V} {i : Nat}, CAs G fs h wa So H ds vs → i < ds.length → (RD G wa H So (ds.getD i .non) (vs.getD i .non) ∨ CAt G fs h H wa H So (ds.getD i .non) (vs.getD i .non))
  | [], _, _, _, h => by simp at h
  | _ :: _, [], _, h, _ => h.elim
  | _ :: _, _ :: _, 0, h, _ => h.1
  | _ :: _, _ :: _, i + 1, h, hi => CAs.get (i := i) h.2 (by simpa using hi)
theorem CAs.perm {G : Wd} {fs : List Addr} {h : Heap} {wa : Addr} {So : Addr → Prop} {H : Hp} {ds : List D} {vs : List V} (ca : CAs G fs h wa So H ds vs) : ∀ {p : List Nat}, (∀ i ∈ p, i < ds.length) → CAs G fs h wa So H (permD p ds) (p.map fun i => vs.getD i .non)
  | [], _ => trivial
  | i :: p, hp => ⟨ca.get (hp i List.mem_cons_self), CAs.perm ca (p := p) fun j hj => hp j (List.mem_cons_of_mem _ hj)⟩
theorem callX_kw {G : Wd} {lvl : Nat} {f : Addr} {fd : FuncData} {ps : List Str} {C : Contract} {q : List Str × List Nat} (h : GOk G lvl f fd ps C) (kb : KwB G.K fd ps q) (hl1 : q.1.length = ps.length) (hl2 : q.2.length = ps.length) (hp : ∀ i ∈ q.2, i < ps.length) :
    CallX G lvl f (fun us => ⟨[], q.1.zip us⟩) q.1.length (fun ds => C (permD q.2 ds)) := fun X pins σ H s us vs ds wa So Qd Ed Q E hX hr I hx rv hl ca am hc kq ke => by
  have kin := I.kIn
  rw [hX.hK] at kin
  have hvl : ds.length = vs.length := ca.len
  have bt := kb s us kin (by rw [← rv.length, ← hvl, hl])
  have hpi : ∀ i ∈ q.2, i < ds.length := fun i hi => by rw [hl, hl1]; exact hp i hi
  exact gok_run h hX hr I hx bt (permV_vals rv fun i hi => by rw [← hvl]; exact hpi i hi) (by unfold permD; rw [List.length_map, hl2]) (ca.perm hpi) am hc kq ke
/-- the def (or class) g of the module, called at level k at most -/
structure HasG (G : Wd) (k : Nat) (g : GD) (n : Nat) : Prop where
  ex : ∃ f, G.mg g.name = some (.ref f) ∧ f = G.glb n ∧ PySem.W.keepIn G.K (.ref f) = true ∧ CallX G g.lvl f (fun us => ⟨us, []⟩) g.ps.length g.C ∧ ∀ q ∈ g.kws, CallX G g.lvl f (fun us => ⟨[], q.1.zip us⟩) q.1.length (fun ds => g.C (permD q.2 ds)) ∧ q.1.length = g.ps.length
  lvl : g.lvl ≤ k
/-- the def in a def n: what it keeps wherever it is made -/
structure HasC (G : Wd) (k : Nat) (cd : CD) (n : Nat) : Prop where
  run : ∀ (A : Around) (outer : List PySem.Env) (s : Shared) (H : Hp) (us : List Value) (vs : List V) (ds ws : List D) (wss : List V) (wa : Addr) (So : Addr → Prop) (Qd : D → Prop) (Ed : ExV → Prop) (Q : VK) (E : XK) (f : Addr) (cl : List (Str × Addr)) (c' : Addr),
    Room k A → Env0 G.P G.w G.K G.mg G.base A outer s H → H f = some (FnC f (G.ct n) cl c') → H c' = some (LamX.CodeO c' (G.ct n).qual) → NdefX.CellsAt cl (G.cfr n) (wss.map some) s.heap H → Vals vs us → ds.length = cd.ps.length → RDs G wa H So ds vs → RDs G wa H So ws wss → Amb G wa So H → cd.C (ds ++ ws) Qd Ed →
    (∀ d v H', FrC G wa H H' → Amb G wa So H' → RD G wa H' So d v → Qd d → Q v H') → (∀ x cls dx H', FrC G wa H H' → Amb G wa So H' → REx G wa H' So x cls dx → Ed x → E cls dx H') →
    codeAny (model G.P G.w) A (.call (.ref f) ⟨us, []⟩) (CR (CX G.P G.w) outer G.P G.w H s Q E) s
/-- what is wanted of exceptions -/
structure XH (m : Am) (X : Cx) (Ex : ExV → DEnv → Prop) : Prop where
  ex : ∃ W : WX, Takes X W ∧ ∀ x env cls dx σ H, RS m σ H env → REx m.G m.wa H (Sx m.So σ env) x cls dx → Ex x env → W cls dx σ H
/-- closures that were handed in may be handed on -/
def CH (m : Am) (X : Cx) : Prop := ∀ (pins : List (Addr × Obj)) (σ : L2.St) (H : Hp) (s : Shared) (S : Addr → Prop) (d : D) (v : V), Inv X pins σ H s → isOwnD d = false → m.cl H S d v → CAt m.G (frs X.stack) s.heap H m.wa H S d v
/-- closures that were made here may be handed over -/
def OH (m : Am) (X : Cx) (t : Tb) : Prop := ∀ (c : Nat), t.own c = true → ∀ (pins : List (Addr × Obj)) (σ : L2.St) (H : Hp) (s : Shared) (S : Addr → Prop) (v : V), Inv X pins σ H s → m.cl H S (.own c) v → ∃ (f : Addr) (cl : List (Str × Addr)) (c' : Addr), v = .ref f ∧ H f = some (FnC f (m.G.ct c) cl c') ∧ ¬ S f ∧
  H c' = some (LamX.CodeO c' (m.G.ct c).qual) ∧ ¬ S c' ∧ ∀ wss : List V, (t.cc c).js.map (NdefX.slotAt σ) = wss.map some → NdefX.CellsAt cl (m.G.cfr c) (wss.map some) s.heap H ∧ ∀ y a, cl.lookup y = some a → a ∉ frs X.stack

section
variable {m : Am} {X : Cx} {k : Nat} {t : Tb} {Ex : ExV → DEnv → Prop} {σ : L2.St} {H H' H1 H2 : Hp} {S : Addr → Prop} {env env1 : DEnv} {ds : List D} {vs : List V} {Qd : D → Prop} {Q : VK} {d : D} {v : V} {e : Expr} {es : List Expr} {ir : IE} {irs : List IE} {pos : Pos}
theorem RS.amb (r : RS m σ H env) : Amb m.G m.wa (Sx m.So σ env) H where
  so := ⟨fun hw => .inl (r.so.1 hw), fun a h => by
    rcases h with h | ⟨i, d, h1, h2⟩
    · exact r.so.2 a h
    · obtain ⟨b, e, x, _⟩ := r.ow i d h1
      rw [h2] at e
      cases e
      cases x with
      | lst e q => exact ⟨_, e, noTbl_lst, ⟨fun _ z => (nomatch z), fun _ z => (nomatch z)⟩⟩
      | dK e l q => exact ⟨_, e, noTbl_dK, ⟨fun _ z => (nomatch z), fun _ z => (nomatch z)⟩⟩
      | dT e l q => exact ⟨_, e, noTbl_dT, ⟨fun _ z => (nomatch z), fun _ z => (nomatch z)⟩⟩⟩
  we := r.we
  ta := r.ta
theorem RS.wne (r : RS m σ H env) {a : Addr} (h : ¬ Sx m.So σ env a) : m.G.hw = true → a ≠ m.wa := fun hw e => h (by rw [e]; exact .inl (r.so.1 hw))
theorem RS.call (r : RS m σ H env) (f : FrC m.G m.wa H H') (a : Amb m.G m.wa S H') : St1 m σ H env H' env := by
  have kp : Kp (Sx m.So σ env) H H' := fun b o e n t => f.kp b o e (r.wne n) t
  have ks : ∀ b o, m.So b → (m.G.hw = true → b ≠ m.wa) → H b = some o → H' b = some o := fun b o h n e => by
    obtain ⟨u, e2, nt, _⟩ := r.so.2 b h
    rw [e] at e2
    cases e2
    exact f.kp b o e n nt
  refine ⟨⟨r.len, fun i d e => ?_, fun i d e => ?_, r.ap, ⟨r.so.1, fun b h => ?_⟩, a.we, a.ta, fun b o e n t => f.kp b o (r.fr b o e n t) n t, fun b e => r.nn b (f.nn b e)⟩, kp, fun _ h => h, f.nn, ks⟩
  · obtain ⟨v, h1, h2⟩ := r.pl i d e
    exact ⟨v, h1, h2.mono kp Sb.refl⟩
  · obtain ⟨b, h1, h2, h3, h4⟩ := r.ow i d e
    have hb : m.G.hw = true → b ≠ m.wa := fun hw q => h3 (by rw [q]; exact r.so.1 hw)
    refine ⟨b, h1, ?_, h3, h4⟩
    cases h2 with
    | lst e q => exact .lst (f.kp _ _ e hb noTbl_lst) (q.mono kp Sb.refl)
    | dK e l q => exact .dK (f.kp _ _ e hb noTbl_dK) l (q.mono kp Sb.refl)
    | dT e l q => exact .dT (f.kp _ _ e hb noTbl_dT) l (q.mono kp Sb.refl)
  · by_cases hw : m.G.hw = true ∧ b = m.wa
    · obtain ⟨hw, rfl⟩ := hw
      exact a.so.2 _ (a.so.1 hw)
    · obtain ⟨u, e, k⟩ := r.so.2 b h
      exact ⟨u, ks b u h (fun z q => hw ⟨z, q⟩) e, k⟩
/-- the places that borrowed arguments stand at -/
def Brw (σ : L2.St) (env : DEnv) (irs : List IE) (a : Addr) : Prop := ∃ i d, IE.bor i ∈ irs ∧ env[i]? = some (some (true, d)) ∧ σ[i]? = some (some (V.ref a))
theorem flat_any {G : Wd} {wa : Addr} {S S' : Addr → Prop} (h : flatD d = true) (r : RD G wa H S d v) : RD G wa H S' d v := by
  cases r <;> first | exact absurd h Bool.false_ne_true | skip
  · exact .non
  · exact .bl _
  · exact .int _
  · exact .str _
  · exact .glb _
  · exact .ty _
theorem ROs.cas {fs : List Addr} {h : Heap} (r : RS m σ H env) {all : List IE} : ∀ {irs : List IE} {ds : List D} {vs : List V}, (∀ i ∈ irs, i ∈ all) → borOk irs ds = true → ROs m σ H env irs ds vs → CAs m.G fs h m.wa (fun a => Sx m.So σ env a ∧ ¬ Brw σ env all a) H ds vs ∧ ds.length = irs.length
  | [], [], [], _, _, _ => ⟨trivial, rfl⟩
  | [], [], _ :: _, _, _, h => h.elim
  | [], _ :: _, _, _, _, h => h.elim
  | _ :: _, [], vs, _, _, h => by cases vs <;> exact h.elim
  | _ :: _, _ :: _, [], _, _, h => h.elim
  | i :: is, d :: ds, v :: vs, hi, hbo, h => by
    have hbo : (!(isBor i && isDc d) && !isClo d && borOk is ds) = true := hbo
    rw [Bool.and_eq_true, Bool.and_eq_true] at hbo
    have hno : isClo d = false := by simpa using hbo.1.2
    replace hbo := And.intro hbo.1.1 hbo.2
    obtain ⟨a, b⟩ := ROs.cas r (fun j hj => hi j (List.mem_cons_of_mem _ hj)) hbo.2 h.2
    refine ⟨⟨?_, a⟩, by simp [b]⟩
    by_cases hb : isBor i = true
    · cases i <;> first | (cases hb; done) | skip
      obtain ⟨⟨b, h1⟩, h2⟩ := h.1
      cases b with
      | false =>
        obtain ⟨a, e1, x⟩ := r.pl _ _ h1
        rw [h2] at e1
        cases e1
        have ra := x.mono (S' := fun a => Sx m.So σ env a ∧ ¬ Brw σ env all a) Kp.refl (Sb.sub fun b z => z.1)
        rcases ra with q | q
        · exact .inl q
        · exact absurd (m.clo q) (by rw [hno]; exact Bool.false_ne_true)
      | true =>
        obtain ⟨a, e1, x, h3, h4⟩ := r.ow _ _ h1
        rw [h2] at e1
        cases e1
        have na : ¬ (Sx m.So σ env a ∧ ¬ Brw σ env all a) := fun z => z.2 ⟨_, _, hi _ List.mem_cons_self, h1, h2⟩
        have sb : ∀ b, (Sx m.So σ env b ∧ ¬ Brw σ env all b) → Sx m.So σ env b := fun b z => z.1
        refine .inl ?_
        cases x with
        | lst e q => exact .lst e na (q.mono Kp.refl (Sb.sub sb))
        | dK e l q => exact absurd hbo.1 Bool.false_ne_true
        | dT e l q => exact absurd hbo.1 Bool.false_ne_true
    · rw [ROs_nb (by simpa using hb)] at h
      have ra := h.1.mono (S' := fun a => Sx m.So σ env a ∧ ¬ Brw σ env all a) Kp.refl (Sb.sub fun b z => z.1)
      rcases ra with q | q
      · exact .inl q
      · exact absurd (m.clo q) (by rw [hno]; exact Bool.false_ne_true)
theorem no_brw (h : irs.any isBor = false) {a : Addr} : ¬ Brw σ env irs a := fun ⟨i, _, hi, _⟩ => by
  have := List.any_eq_false.mp h _ hi
  exact this rfl
theorem flats_any {G : Wd} {wa : Addr} {S S' : Addr → Prop} : ∀ {ds : List D} {vs : List V}, ds.all flatD = true → RDs G wa H S ds vs → RDs G wa H S' ds vs
  | _, _, _, .nil => .nil
  | _, _, h, .cons r t => by
    rw [List.all_cons, Bool.and_eq_true] at h
    exact .cons (flat_any h.1 r) (flats_any h.2 t)
theorem RS.ne_xd {i : Nat} {a : Addr} {d : D} {fs} (r : RS m σ H env) (h : env[i]? = some (some (true, d))) (h2 : σ[i]? = some (some (V.ref a))) : H a ≠ some (.xd fs) := by
  intro e
  obtain ⟨b, hb, x, _⟩ := r.ow i d h
  rw [h2] at hb
  cases hb
  cases x with
  | lst q _ => rw [e] at q; cases q
  | dK q _ _ => rw [e] at q; cases q
  | dT q _ _ => rw [e] at q; cases q
def wpCall (t : Tb) (Ex : ExV → DEnv → Prop) (kk : Nat) (irs : List IE) : DEnv → (D → DEnv → Prop) → Prop := fun env Q => wpL t Ex irs env fun ds env' => ds.length = (t.gd kk).ps.length ∧ borOk irs ds = true ∧ (t.gd kk).C ds (fun d => (irs.any isBor = true → flatD d = true) ∧ Q d env') (fun x => (irs.any isBor = true → x.fs.all flatD = true) ∧ Ex x env')
/-- behind the arguments: the callee runs -/
theorem call_core {pins : List (Addr × Obj)} {s1 : Shared} {lvl n : Nat} {f : Addr} {mk : List Value → Args} {C : Contract} {us : List Value} {Qe : D → DEnv → Prop} (g : GX m X k) (xh : XH m X Ex) (h4 : CallX m.G lvl f mk n C) (hlv : lvl ≤ k)
    (I1 : Inv X pins σ H1 s1) (rv : Vals vs us) (hlp : ds.length = n) (st1 : St1 m σ H env H1 env1) (ca : CAs m.G (frs X.stack) s1.heap m.wa (fun a => Sx m.So σ env1 a ∧ ¬ Brw σ env1 irs a) H1 ds vs)
    (w1 : C ds (fun d => (irs.any isBor = true → flatD d = true) ∧ Qe d env1) (fun x => (irs.any isBor = true → x.fs.all flatD = true) ∧ Ex x env1)) (kq : ∀ d v env' H', St1 m σ H env H' env' → RA m H' (Sx m.So σ env') d v → Qe d env' → Q v H') :
    wpAny (model X.prog X.w) X.A (call (.ref f) (mk us).pos (mk us).kw) (EP X pins σ Q) X.xe s1 := by
  obtain ⟨W, tk, hW⟩ := xh.ex
  have amb : Amb m.G m.wa (fun a => Sx m.So σ env1 a ∧ ¬ Brw σ env1 irs a) H1 := by
    have q := st1.rs.amb
    refine ⟨⟨fun hw => ⟨q.so.1 hw, fun ⟨i, d, hi, hd, e⟩ => ?_⟩, fun a z => q.so.2 a z.1⟩, q.we, q.ta⟩
    obtain ⟨a, ha, x, n1, n2⟩ := st1.rs.ow i d hd
    rw [e] at ha
    cases ha
    exact n1 (st1.rs.so.1 hw)
  refine h4 X pins σ H1 s1 us vs ds m.wa _ _ _ Q (fun cls dx H2 => W cls dx σ H2) ⟨g.hP, g.hw, g.hK, g.hmg, g.hb⟩ (g.room.mono hlv) I1 (fun H1 s1 u s' I hq => tk u s' (XE.of_call I (fun _ _ _ z => z) hq)) rv hlp ca amb w1 (fun d v H2 fr am rd ⟨hf, q⟩ => ?_) (fun x cls dx H2 fr am rx ⟨hf, q⟩ => ?_)
  · have s2 := st1.rs.call fr am
    refine kq d v env1 H2 (st1.trans s2) (.inl ?_) q
    by_cases hb : irs.any isBor = true
    · exact flat_any (hf hb) rd
    · exact rd.mono Kp.refl (Sb.sub fun a z => ⟨z, no_brw (by simpa using hb)⟩)
  · have s2 := st1.rs.call fr am
    refine hW x env1 cls dx σ H2 s2.rs ?_ q
    obtain ⟨r1, r2⟩ := rx
    refine ⟨r1, ?_⟩
    rcases r2 with r2 | ⟨dd, xs, e1, e2, n, l, rd⟩
    · exact .inl r2
    · by_cases hb : irs.any isBor = true
      · refine .inr ⟨dd, xs, e1, e2, fun z => ?_, l, flats_any (hf hb) rd⟩
        by_cases hbr : Brw σ env1 irs dd
        · obtain ⟨i, d0, hi, hd0, hh⟩ := hbr
          exact s2.rs.ne_xd hd0 hh e2
        · exact n ⟨z, hbr⟩
      · refine .inr ⟨dd, xs, e1, e2, fun z => n ⟨z, no_brw (by simpa using hb)⟩, l, rd.mono Kp.refl (Sb.sub fun a z => ⟨z, no_brw (by simpa using hb)⟩)⟩
/-- A CALL of a def of the module, however its name is found; cv: what is handed over of what the arguments are -/
theorem pe_callG {kk : Nat} {x : Str} {p : Pos} {Pn : L2.St → Prop} {Wp : List D → DEnv → (D → DEnv → Prop) → Prop} (g : GX m X k) (xh : XH m X Ex) (hg : HasG m.G k (t.gd kk) kk)
    (hname : ∀ (pins : List (Addr × Obj)) (s : Shared) (σ : L2.St) (H : Hp) (Q' : Value → Shared → Prop), Inv X pins σ H s → Pn σ → (∀ s1, Inv X pins σ H s1 → Q' (.ref (m.G.glb kk)) s1) → wpAny (model X.prog X.w) X.A (eval (.Name x p) X.env) Q' X.xe s)
    (al : AL m X t Ex irs es) (hne : es ≠ [])
    (cv : ∀ (pins : List (Addr × Obj)) (σ : L2.St) (H : Hp) (s : Shared) (env : DEnv) (ds : List D) (vs : List V) (Qd : D → DEnv → Prop), Inv X pins σ H s → RS m σ H env → ROs m σ H env irs ds vs → Wp ds env Qd → ∃ ds', ds'.length = (t.gd kk).ps.length ∧ CAs m.G (frs X.stack) s.heap m.wa (fun a => Sx m.So σ env a ∧ ¬ Brw σ env irs a) H ds' vs ∧
      (t.gd kk).C ds' (fun d => (irs.any isBor = true → flatD d = true) ∧ Qd d env) (fun x => (irs.any isBor = true → x.fs.all flatD = true) ∧ Ex x env)) :
    PE X (.Call (.Name x p) es [] pos) fun σ H Q => Pn σ ∧ RdE m (fun env Q => wpL t Ex irs env fun ds env' => Wp ds env' Q) σ H Q := by
  cases es with
  | nil => exact absurd rfl hne
  | cons e es =>
    obtain ⟨⟨f, h1, rfl, h2, h4, _⟩, hlv⟩ := hg
    have st := al.star
    refine ⟨fun pins s0 σ H Q I0 ⟨pn, env, Qd, r, w, kq⟩ => ?_⟩
    rw [← g.hmg] at h1
    rw [← g.hK] at h2
    refine wpAny_Call_Name_kw (hname pins s0 σ H _ I0 pn fun s I => ?_)
    have hread : tL (irs.map (tO m t Ex)) σ H fun vs H1 => ∃ ds env1, St1 m σ H env H1 env1 ∧ ROs m σ H1 env1 irs ds vs ∧ Wp ds env1 Qd :=
      chainL irs ⟨env, _, r, w, fun ds vs env1 H1 s1 ro w1 => ⟨ds, env1, s1, ro, w1⟩⟩
    refine PySem.W.callWith_K (h₀ := X.base) I.ok.mod.kin h2 (thn (al.pa.run pos pins s σ H _ I hread) fun us s1 ⟨vs, H1, I1, rv, ds, env1, st1, ro, w1⟩ => ⟨I1.kIn, ?_⟩) (star_nb (st e List.mem_cons_self)) (star_any fun y hy => st y (List.mem_cons_of_mem _ hy))
    obtain ⟨ds', hlp, ca, w2⟩ := cv pins σ H1 s1 env1 ds vs Qd I1 st1.rs ro w1
    exact call_core g xh h4 hlv I1 rv hlp st1 ca w2 kq
theorem cv_call {kk : Nat} : ∀ (pins : List (Addr × Obj)) (σ : L2.St) (H : Hp) (s : Shared) (env : DEnv) (ds : List D) (vs : List V) (Qd : D → DEnv → Prop), Inv X pins σ H s → RS m σ H env → ROs m σ H env irs ds vs →
    (ds.length = (t.gd kk).ps.length ∧ borOk irs ds = true ∧ (t.gd kk).C ds (fun d => (irs.any isBor = true → flatD d = true) ∧ Qd d env) (fun x => (irs.any isBor = true → x.fs.all flatD = true) ∧ Ex x env)) → ∃ ds', ds'.length = (t.gd kk).ps.length ∧ CAs m.G (frs X.stack) s.heap m.wa (fun a => Sx m.So σ env a ∧ ¬ Brw σ env irs a) H ds' vs ∧
      (t.gd kk).C ds' (fun d => (irs.any isBor = true → flatD d = true) ∧ Qd d env) (fun x => (irs.any isBor = true → x.fs.all flatD = true) ∧ Ex x env) := fun pins σ H s env ds vs Qd I rs ro ⟨hl, hb, w⟩ =>
  ⟨ds, hl, (ROs.cas (h := s.heap) (all := irs) rs (fun i hi => hi) hb ro).1, w⟩
theorem de_call {kk : Nat} {x : Str} {p : Pos} (g : GX m X k) (xh : XH m X Ex) (hg : HasG m.G k (t.gd kk) kk) (hx : (t.gd kk).name = x) (hgl : Gl X x) (hdb : (x == ("__debug__" : Str)) = false) (al : AL m X t Ex irs es) (hne : es ≠ []) :
    DE m X t Ex (.call kk irs) (.Call (.Name x p) es [] pos) := by
  obtain ⟨⟨f, h1, rfl, _⟩, _⟩ := id hg
  rw [← g.hmg, hx] at h1
  exact PE.weak (pe_callG (Pn := fun _ => True) g xh hg (fun pins s σ H Q' I _ hq => ld_glob I hgl h1 (hq s I) hdb) al hne cv_call) fun σ H Q ⟨env, Qd, r, w, kq⟩ => ⟨trivial, env, Qd, r, w, kq⟩
/-! ### a def of the frame's own is handed over -/
theorem splitOwn_is {c : Nat} : ∀ {ds ds0 : List D}, splitOwn c ds = some ds0 → ds = ds0 ++ [.own c] ∧ ∀ d ∈ ds0, isClo d = false
  | [], _, h => by cases h
  | [d], ds0, h => by
    cases d <;> simp only [splitOwn] at h <;> first | (cases h; done) | skip
    split at h
    · rename_i e
      cases h; subst e
      exact ⟨rfl, fun _ z => by cases z⟩
    · cases h
  | d :: e :: ds, ds0, h => by
    have h' : (if isClo d then none else (splitOwn c (e :: ds)).map (d :: ·)) = some ds0 := by
      cases d <;> first | exact h | (simp only [splitOwn] at h; exact h)
    split at h'
    · cases h'
    · rename_i hd
      obtain ⟨l, hl, rfl⟩ := Option.map_eq_some_iff.mp h'
      obtain ⟨h1, h2⟩ := splitOwn_is hl
      refine ⟨by rw [h1]; rfl, fun x hx => ?_⟩
      rcases List.mem_cons.mp hx with rfl | hx
      · simpa using hd
      · exact h2 x hx
theorem slotsD_is : ∀ {js : List Nat} {ws : List D}, slotsD env js = some ws → RS m σ H env → ∃ wss : List V, js.map (NdefX.slotAt σ) = wss.map some ∧ RDs m.G m.wa H (Sx m.So σ env) ws wss
  | [], ws, h, r => by cases h; exact ⟨[], rfl, .nil⟩
  | j :: js, ws, h, r => by
    unfold slotsD at h
    split at h
    · rename_i d hd
      split at h
      · cases h
      · rename_i hc
        obtain ⟨l, hl, rfl⟩ := Option.map_eq_some_iff.mp h
        obtain ⟨wss, h1, h2⟩ := slotsD_is hl r
        obtain ⟨v, h3, h4⟩ := r.pl j d hd
        refine ⟨v :: wss, by rw [List.map_cons, List.map_cons, h1, NdefX.slotAt_of h3], .cons ?_ h2⟩
        rcases h4 with z | z
        · exact z
        · exact absurd (m.clo z) hc
    · cases h
theorem CAs.snoc {G : Wd} {fs : List Addr} {h : Heap} {wa : Addr} {So : Addr → Prop} : ∀ {ds : List D} {vs : List V}, CAs G fs h wa So H ds vs → (RD G wa H So d v ∨ CAt G fs h H wa H So d v) → CAs G fs h wa So H (ds ++ [d]) (vs ++ [v])
  | [], [], _, q => ⟨q, trivial⟩
  | _ :: _, _ :: _, a, q => ⟨a.1, CAs.snoc a.2 q⟩
  | [], _ :: _, h, _ => h.elim
  | _ :: _, [], h, _ => h.elim
theorem ROs.snoc : ∀ {irs : List IE} {ds : List D} {vs : List V}, irs.any isBor = false → ROs m σ H env irs (ds ++ [d]) vs → ∃ vs0 v, vs = vs0 ++ [v] ∧ RA m H (Sx m.So σ env) d v ∧ ∃ irs0, ROs m σ H env irs0 ds vs0 ∧ irs0.any isBor = false
  | [], ds, vs, _, h => by cases ds <;> cases vs <;> exact h.elim
  | i :: is, [], vs, hb, h => by
    cases vs with
    | nil => exact h.elim
    | cons v vs =>
      rw [List.any_cons, Bool.or_eq_false_iff] at hb
      rw [List.nil_append, ROs_nb hb.1] at h
      cases is <;> cases vs <;> first | exact ⟨[], v, rfl, h.1, [], trivial, rfl⟩ | exact h.2.elim
  | i :: is, e :: ds, vs, hb, h => by
    cases vs with
    | nil => exact h.elim
    | cons v vs =>
      rw [List.any_cons, Bool.or_eq_false_iff] at hb
      rw [List.cons_append, ROs_nb hb.1] at h
      obtain ⟨vs0, v1, rfl, h1, irs0, h2, h3⟩ := ROs.snoc hb.2 h.2
      refine ⟨v :: vs0, v1, rfl, h1, i :: irs0, ?_, by rw [List.any_cons, hb.1, h3]; rfl⟩
      rw [ROs_nb hb.1]
      exact ⟨h.1, h2⟩
theorem ROs.casN {fs : List Addr} {h : Heap} {T : Addr → Prop} {pr : D → Bool} (hT : ∀ a, T a → Sx m.So σ env a) (hcl : ∀ d v, pr d = false → m.cl H T d v → CAt m.G fs h H m.wa H T d v) : ∀ {irs : List IE} {ds : List D} {vs : List V}, irs.any isBor = false → (∀ d ∈ ds, pr d = false) → ROs m σ H env irs ds vs → CAs m.G fs h m.wa T H ds vs
  | [], [], [], _, _, _ => trivial
  | [], [], _ :: _, _, _, h => h.elim
  | [], _ :: _, _, _, _, h => h.elim
  | _ :: _, [], vs, _, _, h => by cases vs <;> exact h.elim
  | _ :: _, _ :: _, [], _, _, h => h.elim
  | i :: is, d :: ds, v :: vs, hb, ho, h => by
    rw [List.any_cons, Bool.or_eq_false_iff] at hb
    rw [ROs_nb hb.1] at h
    refine ⟨?_, ROs.casN hT hcl hb.2 (fun e he => ho e (List.mem_cons_of_mem _ he)) h.2⟩
    have ra := h.1.mono (S' := T) Kp.refl (Sb.sub hT)
    rcases ra with q | q
    · exact .inl q
    · exact .inr (hcl _ _ (ho d List.mem_cons_self) q)
theorem de_callc {kk c : Nat} {x : Str} {p : Pos} (g : GX m X k) (xh : XH m X Ex) (oh : OH m X t) (hc : t.own c = true) (hg : HasG m.G k (t.gd kk) kk) (hx : (t.gd kk).name = x) (hgl : Gl X x) (hdb : (x == ("__debug__" : Str)) = false) (al : AL m X t Ex irs es) (hne : es ≠ []) :
    DE m X t Ex (.callc kk irs c) (.Call (.Name x p) es [] pos) := by
  obtain ⟨⟨f, h1, rfl, _⟩, _⟩ := id hg
  rw [← g.hmg, hx] at h1
  refine PE.weak (pe_callG (Pn := fun _ => True) (Wp := fun ds env' Q => ∃ ds0, splitOwn c ds = some ds0 ∧ ∃ ws, slotsD env' (t.cc c).js = some ws ∧ ds.length = (t.gd kk).ps.length ∧ irs.any isBor = false ∧ (t.gd kk).C (ds0 ++ [.clo c ws]) (fun d => Q d env') (fun x => Ex x env'))
    g xh hg (fun pins s σ H Q' I _ hq => ld_glob I hgl h1 (hq s I) hdb) al hne fun pins σ H s env ds vs Qd I rs ro ⟨ds0, hs, ws, hw, hl, hb, w⟩ => ?_) fun σ H Q ⟨env, Qd, r, w, kq⟩ => ⟨trivial, env, Qd, r, w, kq⟩
  obtain ⟨rfl, hno⟩ := splitOwn_is hs
  obtain ⟨vs0, v, rfl, ra, irs0, ro0, hb0⟩ := ROs.snoc hb ro
  have sub : ∀ a, (Sx m.So σ env a ∧ ¬ Brw σ env irs a) → Sx m.So σ env a := fun a z => z.1
  have cl : m.cl H (fun a => Sx m.So σ env a ∧ ¬ Brw σ env irs a) (.own c) v := by
    rcases ra.mono (S' := fun a => Sx m.So σ env a ∧ ¬ Brw σ env irs a) Kp.refl (Sb.sub sub) with z | z
    · cases z
    · exact z
  obtain ⟨f, cs, c', rfl, a1, a2, a3, a4, a5⟩ := oh c hc pins σ H s _ v I cl
  obtain ⟨wss, b1, b2⟩ := slotsD_is hw rs
  refine ⟨ds0 ++ [.clo c ws], by rw [← hl, List.length_append, List.length_append]; rfl, ?_, ?_⟩
  · refine CAs.snoc (ROs.casN (pr := isClo) sub (fun d v q z => absurd (m.clo z) (by rw [q]; exact Bool.false_ne_true)) hb0 hno ro0) (.inr ⟨c, ws, f, cs, c', wss, rfl, rfl, a1, a2, a3, a4, b2.mono Kp.refl (Sb.sub sub), (a5 wss b1).1, (a5 wss b1).2⟩)
  · rw [hb]
    refine cast ?_ w
    congr 1 <;> (funext d; simp)
/-- closures that were handed in are handed on -/
theorem de_callp {kk : Nat} {x : Str} {p : Pos} (g : GX m X k) (xh : XH m X Ex) (ch : CH m X) (hg : HasG m.G k (t.gd kk) kk) (hx : (t.gd kk).name = x) (hgl : Gl X x) (hdb : (x == ("__debug__" : Str)) = false) (al : AL m X t Ex irs es) (hne : es ≠ []) :
    DE m X t Ex (.callp kk irs) (.Call (.Name x p) es [] pos) := by
  obtain ⟨⟨f, h1, rfl, _⟩, _⟩ := id hg
  rw [← g.hmg, hx] at h1
  refine PE.weak (pe_callG (Pn := fun _ => True) (Wp := fun ds env' Q => ds.length = (t.gd kk).ps.length ∧ irs.any isBor = false ∧ ds.all (fun d => !isOwnD d) = true ∧ (t.gd kk).C ds (fun d => Q d env') (fun x => Ex x env'))
    g xh hg (fun pins s σ H Q' I _ hq => ld_glob I hgl h1 (hq s I) hdb) al hne fun pins σ H s env ds vs Qd I rs ro ⟨hl, hb, ho, w⟩ => ?_) fun σ H Q ⟨env, Qd, r, w, kq⟩ => ⟨trivial, env, Qd, r, w, kq⟩
  have sub : ∀ a, (Sx m.So σ env a ∧ ¬ Brw σ env irs a) → Sx m.So σ env a := fun a z => z.1
  refine ⟨ds, hl, ROs.casN (pr := isOwnD) sub (fun d v q z => ch pins σ H s _ d v I q z) hb (fun d hd => by simpa using List.all_eq_true.mp ho d hd) ro, ?_⟩
  rw [hb]
  refine cast ?_ w
  congr 1 <;> (funext d; simp)
/-! ### a call by names alone -/
theorem pk_al : ∀ {irs : List IE} {kws : List Keyword}, AL m X t Ex irs (kws.map (·.value)) → PK X kws (tL (irs.map (tO m t Ex)))
  | [], [], _ => pk_nil
  | [], _ :: _, h => h.elim
  | _ :: _, [], h => h.elim
  | i :: is, ⟨nm, e, kp⟩ :: kws, h => pk_cons h.1 (pk_al h.2.2)
def kwNames : List Keyword → List Str → Bool
  | [], [] => true
  | ⟨some n, _, _⟩ :: kws, x :: xs => decide (n = x) && kwNames kws xs
  | _, _ => false
theorem kwNames_all {pos : Pos} {en : PySem.Env} {kws : List Keyword} {ks : List Str} (h : kwNames kws ks = true) : (backToKw pos (keywordEach kws en)).all (·.1.isSome) = true ∧ (backToKw pos (keywordEach kws en)).filterMap (·.1) = ks ∧ (backToKw pos (keywordEach kws en)).any (·.1.isNone) = false := by
  induction kws generalizing ks with
  | nil => cases ks <;> first | exact ⟨rfl, rfl, rfl⟩ | cases h
  | cons kw kws ih =>
    obtain ⟨nm, e, kp⟩ := kw
    cases nm with
    | none => cases ks <;> cases h
    | some n =>
      cases ks with
      | nil => cases h
      | cons y ks =>
        have h' : (decide (n = y) && kwNames kws ks) = true := h
        rw [Bool.and_eq_true, decide_eq_true_eq] at h'
        obtain ⟨rfl, h2⟩ := h'
        obtain ⟨a, b, c⟩ := ih h2
        refine ⟨?_, ?_, ?_⟩
        · show (true && (backToKw pos (keywordEach kws en)).all (·.1.isSome)) = true
          rw [a]; rfl
        · show n :: (backToKw pos (keywordEach kws en)).filterMap (·.1) = n :: ks
          rw [b]
        · show (false || (backToKw pos (keywordEach kws en)).any (·.1.isNone)) = false
          rw [c]; rfl
theorem de_callk {kk : Nat} {x : Str} {p : Pos} {ks : List Str} {q : List Nat} {kws : List Keyword} (g : GX m X k) (xh : XH m X Ex) (hg : HasG m.G k (t.gd kk) kk) (hq : (ks, q) ∈ (t.gd kk).kws) (hx : (t.gd kk).name = x) (hgl : Gl X x) (hdb : (x == ("__debug__" : Str)) = false)
    (hn : kwNames kws ks = true) (al : AL m X t Ex irs (kws.map (·.value))) (hlen : kws.length = ks.length) : DE m X t Ex (.callk kk ks q irs) (.Call (.Name x p) [] kws pos) := by
  obtain ⟨⟨f, h1, rfl, h2, _, hkb⟩, hlv⟩ := hg
  obtain ⟨h4, hkl⟩ := hkb _ hq
  refine ⟨fun pins s0 σ H Q I0 ⟨env, Qd, r, w, kq⟩ => ?_⟩
  rw [← g.hmg, hx] at h1
  rw [← g.hK] at h2
  obtain ⟨n1, n2, n3⟩ := kwNames_all (pos := pos) (en := X.env) hn
  refine wpAny_Call_Name_kw (ld_glob I0 hgl h1 ?_ hdb)
  have hread : tL (irs.map (tO m t Ex)) σ H fun vs H1 => ∃ ds env1, St1 m σ H env H1 env1 ∧ ROs m σ H1 env1 irs ds vs ∧ ds.length = (t.gd kk).ps.length ∧ irs.any isBor = false ∧ borOk irs ds = true ∧ (t.gd kk).C (permD q ds) (fun d => Qd d env1) (fun x => Ex x env1) :=
    chainL irs ⟨env, _, r, w, fun ds vs env1 H1 s1 ro w1 => ⟨ds, env1, s1, ro, w1⟩⟩
  refine PySem.W.callWith_KW0 (h₀ := X.base) I0.ok.mod.kin h2 n1 (thn ((pk_al al).run pos pins s0 σ H _ I0 hread) fun us s1 ⟨vs, H1, I1, rv, ds, env1, st1, ro, hlp, hnb, hbo, w1⟩ => ⟨I1.kIn, ?_⟩) (by rw [n3]; rfl)
  obtain ⟨ca, hlen2⟩ := ROs.cas (fs := frs X.stack) (h := s1.heap) (all := irs) st1.rs (fun i hi => hi) hbo ro
  rw [n2]
  exact call_core (Q := Q) (irs := irs) (mk := fun us => ⟨[], ks.zip us⟩) (n := ks.length) g xh h4 hlv I1 rv (by rw [hlp, ← hkl]) st1 ca (by
    rw [hnb]
    refine cast ?_ w1
    congr 1 <;> (funext d; simp)) kq
/-- a call of what a name of the frame holds -/
theorem de_callv {i : Nat} {x : Str} {p : Pos} (g : GX m X k) (xh : XH m X Ex) (ch : CH m X) (hg : ∀ n, t.hs n = true → HasG m.G k (t.gd n) n) (hgc : ∀ n, t.hcc n = true → HasC m.G k (t.cc n) n) (hv : PE X (.Name x p) (tVar i)) (al : AL m X t Ex irs es) (hne : es ≠ []) :
    DE m X t Ex (.callv i irs) (.Call (.Name x p) es [] pos) := by
  have h : ∀ n : { n : Nat // t.hs n = true }, PE X (.Call (.Name x p) es [] pos) fun σ H Q => σ[i]? = some (some (.ref (m.G.glb n.1))) ∧ RdE m (wpCall t Ex n.1 irs) σ H Q := fun n =>
    pe_callG (Pn := fun σ => σ[i]? = some (some (.ref (m.G.glb n.1)))) g xh (hg n.1 n.2) (fun pins s σ H Q' I pn hq => thn (hv.run pins s σ H (fun y H1 => y = .ref (m.G.glb n.1) ∧ H1 = H) I ⟨_, pn, rfl, rfl⟩) fun u s1 ⟨y, H1, I1, r1, e1, e2⟩ => by
      subst e1 e2
      cases r1
      exact hq s1 I1) al hne cv_call
  have h2 : PE X (.Call (.Name x p) es [] pos) fun σ H Q => ∃ (c : Nat) (ws : List D), RdE m (fun env Q => env[i]? = some (some (false, .clo c ws)) ∧ t.hcc c = true ∧ wpL t Ex irs env fun ds env' => callvW t (.clo c ws) irs ds (fun d => Q d env') (fun x => Ex x env')) σ H Q := by
    cases es with
    | nil => exact absurd rfl hne
    | cons e es =>
      obtain ⟨W, tk, hW⟩ := xh.ex
      have st := al.star
      refine ⟨fun pins s0 σ H Q I0 ⟨c, ws, env, Qd, r, ⟨hn, hcc, w⟩, kq⟩ => ?_⟩
      obtain ⟨v, h1, h2⟩ := r.pl i _ hn
      refine wpAny_Call_Name_kw (thn (hv.run pins s0 σ H (fun y H1 => y = v ∧ H1 = H) I0 ⟨v, h1, rfl, rfl⟩) fun u s ⟨y, H0, I, r1, e1, e2⟩ => ?_)
      subst e1 e2
      have cl : m.cl H0 (Sx m.So σ env) (.clo c ws) y := by
        rcases h2 with z | z
        · cases z
        · exact z
      obtain ⟨c0, ws0, f, cs, c', wss, e3, rfl, a1, a2, a3, a4, a5, a6, _⟩ := ch pins σ H0 s _ _ _ I rfl cl
      cases e3
      obtain rfl : u = Value.ref f := r1
      have fnAt : ∀ {H2 : Hp} {s2 : Shared} {cs c'}, Inv X pins σ H2 s2 → H2 f = some (FnC f (m.G.ct c) cs c') → PySem.W.FnAt f s2.heap := fun {H2 s2 cs c'} I2 e => by
        obtain ⟨⟨od, sl, doc, pm, ctv, ho⟩, _, _⟩ := I2.hok f _ e
        exact ⟨_, od, _, sl, ho⟩
      have hread : tL (irs.map (tO m t Ex)) σ H0 fun vs H1 => ∃ ds env1, St1 m σ H0 env H1 env1 ∧ ROs m σ H1 env1 irs ds vs ∧ callvW t (.clo c ws) irs ds (fun d => Qd d env1) (fun x => Ex x env1) :=
        chainL irs ⟨env, _, r, w, fun ds vs env1 H1 s1 ro w1 => ⟨ds, env1, s1, ro, w1⟩⟩
      refine PySem.W.callWith_F (first := []) (fnAt I a1) (thn (al.pa.run pos pins s σ H0 _ I hread) fun us s1 ⟨vs, H1, I1, rv, ds, env1, st1, ro, w1⟩ => ?_) (star_nb (st e List.mem_cons_self)) (star_any fun y hy => st y (List.mem_cons_of_mem _ hy))
      obtain ⟨hlp, hnb, hok, w2⟩ := w1
      have cl1 : m.cl H1 (Sx m.So σ env1) (.clo c ws) (.ref f) := m.mono st1.kp (Sb.sub st1.sb) cl
      obtain ⟨c0, ws0, f0, cs, c', wss, e3, e4, a1, a2, a3, a4, a5, a6, _⟩ := ch pins σ H1 s1 _ _ _ I1 rfl cl1
      cases e3; cases e4
      refine ⟨fnAt I1 a1, ?_⟩
      have rd : RDs m.G m.wa H1 (Sx m.So σ env1) ds vs := (ro.rds (fun i hi => by simpa using List.any_eq_false.mp hnb i hi) hok).1
      have e0 : Env0 m.G.P m.G.w m.G.K m.G.mg m.G.base X.A X.stack s1 H1 := by
        have q := I1.env0
        rw [g.hP, g.hw, g.hK, g.hmg, g.hb] at q
        exact q
      have hc := hgc c hcc
      have run := hc.run X.A X.stack s1 H1 us vs ds ws wss m.wa (Sx m.So σ env1) _ _ Q (fun cls dx H2 => W cls dx σ H2) f cs c' g.room e0 a1 a3 a6 rv hlp rd a5 st1.rs.amb w2 (fun d v H2 fr am rd q => ?_) (fun x cls dx H2 fr am rx q => ?_)
      · rw [← g.hP, ← g.hw] at run
        refine wpAny_call (codeAny_mono run fun rr s' hq => ?_)
        cases rr with
        | error u => exact tk u s' (XE.of_call I1 (fun cls dx H2 z => z) hq)
        | ok fl =>
          cases fl with
          | ret u => exact I1.after hq
          | next => exact False.elim hq
          | brk => exact False.elim hq
          | cont => exact False.elim hq
      · have s2 := st1.rs.call fr am
        exact kq d v env1 H2 (st1.trans s2) (.inl rd) q
      · have s2 := st1.rs.call fr am
        exact hW x env1 cls dx σ H2 s2.rs rx q
  have hany : PE X (.Call (.Name x p) es [] pos) fun σ H Q => (∃ n : { n : Nat // t.hs n = true }, σ[i]? = some (some (.ref (m.G.glb n.1))) ∧ RdE m (wpCall t Ex n.1 irs) σ H Q) ∨ ∃ (c : Nat) (ws : List D), RdE m (fun env Q => env[i]? = some (some (false, .clo c ws)) ∧ t.hcc c = true ∧ wpL t Ex irs env fun ds env' => callvW t (.clo c ws) irs ds (fun d => Q d env') (fun x => Ex x env')) σ H Q :=
    ⟨fun pins s σ H Q I z => z.elim (fun ⟨a, z⟩ => (h a).run pins s σ H Q I z) fun z => h2.run pins s σ H Q I z⟩
  refine PE.weak hany fun σ H Q ⟨env, Qd, r, ⟨d0, hn, hv0, w⟩, kq⟩ => ?_
  obtain ⟨v, h1, h2⟩ := r.pl i _ hn
  cases d0 with
  | glb n =>
    have ev : v = .ref (m.G.glb n) := by
      rcases h2 with z | z
      · cases z; rfl
      · cases m.clo z
    subst ev
    exact .inl ⟨⟨n, hv0⟩, h1, env, Qd, r, w, kq⟩
  | clo c ws => exact .inr ⟨c, ws, env, Qd, r, ⟨hn, hv0, w⟩, kq⟩
  | _ => exact hv0.elim
end
end SD

set_option Elab.async false
set_option linter.all false
set_option maxRecDepth 100000
set_option maxHeartbeats 4000000
namespace SD
open PySem PySem.Spec PyProof.Rows L2
section
variable {m : Am} {X : Cx} {k : Nat} {t : Tb} {Ex : ExV → DEnv → Prop} {σ : L2.St} {H H' H1 H2 : Hp} {S : Addr → Prop} {env env1 : DEnv} {ds : List D} {vs : List V} {Qd : D → Prop} {Q : VK} {d : D} {v : V} {e : Expr} {es : List Expr} {ir : IE} {irs : List IE} {pos : Pos}
/-! ### displays -/
theorem de_tup {kk : Nat} (nb : ∀ i ∈ irs, isBor i = false) (hl : irs.length ≤ 1000) (al : AL m X t Ex irs es) : DE m X t Ex (.tup irs) (.Tuple es kk pos) := by
  refine PE.weak (pe_tupB al.pa) fun σ H Q ⟨env, Qd, r, w, kq⟩ => ?_
  refine chainL irs ⟨env, _, r, w, fun ds vs env1 H1 s1 ro ⟨ok, q⟩ => ?_⟩
  obtain ⟨rd, hlen⟩ := ro.rds nb ok
  refine ⟨by rw [← rd.length, hlen, sizeLine_eq]; omega, fun p hp => ?_⟩
  cases e : soft ds with
  | true => exact .inl (kq (.tup ds) (.ref p) env1 _ (s1.trans (St1.new s1.rs hp)) (.inl (.tup (by rw [e]; exact upd_same) (s1.rs.free hp) (rd.mono (Kp.upd hp) Sb.refl))) q)
  | false => exact .inr fun o ho => kq (.tup ds) (.ref p) env1 _ (s1.trans (St1.new s1.rs hp)) (.inl (.tup (by rw [e]; exact ⟨o, upd_same, ho⟩) (s1.rs.free hp) (rd.mono (Kp.upd hp) Sb.refl))) q
theorem de_lst (nb : ∀ i ∈ irs, isBor i = false) (hl : irs.length ≤ 1000) (al : AL m X t Ex irs es) : DE m X t Ex (.lst irs) (.List es pos) := by
  refine PE.weak (pe_lst al.pa) fun σ H Q ⟨env, Qd, r, w, kq⟩ => ?_
  refine chainL irs ⟨env, _, r, w, fun ds vs env1 H1 s1 ro ⟨ok, q⟩ => ?_⟩
  obtain ⟨rd, hlen⟩ := ro.rds nb ok
  refine ⟨by rw [← rd.length, hlen, sizeLine_eq]; omega, fun p hp => ?_⟩
  exact kq (.lst ds) (.ref p) env1 _ (s1.trans (St1.new s1.rs hp)) (.inl (.lst upd_same (s1.rs.free hp) (rd.mono (Kp.upd hp) Sb.refl))) q
/-! ### and, or, not, a if c else b -/
def BL (m : Am) (X : Cx) (t : Tb) (Ex : ExV → DEnv → Prop) : List IE → List Expr → Prop
  | [], [] => True
  | i :: is, e :: es => DE m X t Ex i e ∧ BL m X t Ex is es
  | _, _ => False
def TL (m : Am) (X : Cx) (t : Tb) (Ex : ExV → DEnv → Prop) : List IE → List Expr → Prop
  | [], [] => True
  | i :: is, e :: es => DT m X t Ex i e ∧ TL m X t Ex is es
  | _, _ => False
theorem de_and (g : GX m X k) : ∀ {irs : List IE} {es : List Expr}, BL m X t Ex irs es → irs ≠ [] → PE X (.BoolOp .And es pos) (RdE m (wpAnd t Ex irs))
  | [], _, _, h => absurd rfl h
  | [i], [e], h, _ => pe_one h.1
  | [i], [], h, _ => h.elim
  | [i], _ :: _ :: _, h, _ => h.2.elim
  | i :: j :: is, [], h, _ => h.elim
  | i :: j :: is, [_], h, _ => h.2.elim
  | i :: j :: is, a :: b :: es, h, _ => by
    refine PE.weak (pe_andT h.1 (de_and g (irs := j :: is) h.2 (by simp))) fun σ H Q ⟨env, Qd, r, w, kq⟩ => ?_
    refine ⟨env, _, r, w, fun d v env1 H1 s1 ra ⟨b, hb, q⟩ => ⟨b, by rw [g.hK]; exact tru_of ra hb, ?_⟩⟩
    cases b with
    | true => exact ⟨env1, Qd, s1.rs, q, fun d v env2 H2 s2 ra2 q2 => kq d v env2 H2 (s1.trans s2) ra2 q2⟩
    | false => exact kq d v env1 H1 s1 ra q
theorem de_or (g : GX m X k) : ∀ {irs : List IE} {es : List Expr}, BL m X t Ex irs es → irs ≠ [] → PE X (.BoolOp .Or es pos) (RdE m (wpOr t Ex irs))
  | [], _, _, h => absurd rfl h
  | [i], [e], h, _ => pe_one h.1
  | [i], [], h, _ => h.elim
  | [i], _ :: _ :: _, h, _ => h.2.elim
  | i :: j :: is, [], h, _ => h.elim
  | i :: j :: is, [_], h, _ => h.2.elim
  | i :: j :: is, a :: b :: es, h, _ => by
    refine PE.weak (pe_orT h.1 (de_or g (irs := j :: is) h.2 (by simp))) fun σ H Q ⟨env, Qd, r, w, kq⟩ => ?_
    refine ⟨env, _, r, w, fun d v env1 H1 s1 ra ⟨b, hb, q⟩ => ⟨b, by rw [g.hK]; exact tru_of ra hb, ?_⟩⟩
    cases b with
    | false => exact ⟨env1, Qd, s1.rs, q, fun d v env2 H2 s2 ra2 q2 => kq d v env2 H2 (s1.trans s2) ra2 q2⟩
    | true => exact kq d v env1 H1 s1 ra q
theorem PW.weak {e : Expr} {t t' : TT} (h : PW X e t) (w : ∀ σ H Q, t' σ H Q → t σ H Q) : PW X e t' := ⟨fun wh pins s σ H Q I q => h.run wh pins s σ H Q I (w σ H Q q)⟩
theorem ctx_and (A : DEnv → (D → DEnv → Prop) → Prop) (Qd : Bool → DEnv → Prop) : (fun (d : D) (env' : DEnv) => ∃ tt, dTruth d = some tt ∧ if tt = true then A env' (fun d env2 => ∃ b, dTruth d = some b ∧ Qd b env2) else ∃ b, dTruth d = some b ∧ Qd b env') =
    fun (d : D) (env' : DEnv) => ∃ b, dTruth d = some b ∧ if b = true then A env' (fun d env2 => ∃ b, dTruth d = some b ∧ Qd b env2) else Qd false env' := by
  funext d env'
  apply propext
  constructor
  · rintro ⟨tt, h, q⟩
    refine ⟨tt, h, ?_⟩
    cases tt with
    | true => exact q
    | false => obtain ⟨b, hb, q⟩ := q; rw [h] at hb; cases hb; exact q
  · rintro ⟨tt, h, q⟩
    refine ⟨tt, h, ?_⟩
    cases tt with
    | true => exact q
    | false => exact ⟨false, h, q⟩
theorem ctx_or (A : DEnv → (D → DEnv → Prop) → Prop) (Qd : Bool → DEnv → Prop) : (fun (d : D) (env' : DEnv) => ∃ tt, dTruth d = some tt ∧ if tt = true then (∃ b, dTruth d = some b ∧ Qd b env') else A env' (fun d env2 => ∃ b, dTruth d = some b ∧ Qd b env2)) =
    fun (d : D) (env' : DEnv) => ∃ b, dTruth d = some b ∧ if b = true then Qd true env' else A env' (fun d env2 => ∃ b, dTruth d = some b ∧ Qd b env2) := by
  funext d env'
  apply propext
  constructor
  · rintro ⟨tt, h, q⟩
    refine ⟨tt, h, ?_⟩
    cases tt with
    | false => exact q
    | true => obtain ⟨b, hb, q⟩ := q; rw [h] at hb; cases hb; exact q
  · rintro ⟨tt, h, q⟩
    refine ⟨tt, h, ?_⟩
    cases tt with
    | false => exact q
    | true => exact ⟨true, h, q⟩
theorem dt_and : ∀ {irs : List IE} {es : List Expr}, TL m X t Ex irs es → irs ≠ [] → PW X (.BoolOp .And es pos) (RdT m (wpAnd t Ex irs))
  | [], _, _, h => absurd rfl h
  | [i], [e], h, _ => pw_and1 h.1
  | [i], [], h, _ => h.elim
  | [i], _ :: _ :: _, h, _ => h.2.elim
  | i :: j :: is, [], h, _ => h.elim
  | i :: j :: is, [_], h, _ => h.2.elim
  | i :: j :: is, a :: b :: es, h, _ => by
    refine PW.weak (pw_and h.1 (dt_and (irs := j :: is) h.2 (by simp))) fun σ H Q ⟨env, Qd, r, w, kq⟩ => ?_
    refine ⟨env, fun b env1 => if b = true then wpAnd t Ex (j :: is) env1 (fun d env2 => ∃ b, dTruth d = some b ∧ Qd b env2) else Qd false env1, r, ?_, fun b env1 H1 s1 q => ?_⟩
    · have w' : wpE t Ex i env fun d env' => ∃ tt, dTruth d = some tt ∧ if tt = true then wpAnd t Ex (j :: is) env' (fun d env2 => ∃ b, dTruth d = some b ∧ Qd b env2) else ∃ b, dTruth d = some b ∧ Qd b env' := w
      rw [ctx_and (wpAnd t Ex (j :: is)) Qd] at w'
      exact w'
    · cases b with
      | true => exact ⟨env1, Qd, s1.rs, q, fun b env2 H2 s2 q2 => kq b env2 H2 (s1.trans s2) q2⟩
      | false => exact kq false env1 H1 s1 q
theorem dt_or : ∀ {irs : List IE} {es : List Expr}, TL m X t Ex irs es → irs ≠ [] → PW X (.BoolOp .Or es pos) (RdT m (wpOr t Ex irs))
  | [], _, _, h => absurd rfl h
  | [i], [e], h, _ => pw_or1 h.1
  | [i], [], h, _ => h.elim
  | [i], _ :: _ :: _, h, _ => h.2.elim
  | i :: j :: is, [], h, _ => h.elim
  | i :: j :: is, [_], h, _ => h.2.elim
  | i :: j :: is, a :: b :: es, h, _ => by
    refine PW.weak (pw_or h.1 (dt_or (irs := j :: is) h.2 (by simp))) fun σ H Q ⟨env, Qd, r, w, kq⟩ => ?_
    refine ⟨env, fun b env1 => if b = true then Qd true env1 else wpOr t Ex (j :: is) env1 (fun d env2 => ∃ b, dTruth d = some b ∧ Qd b env2), r, ?_, fun b env1 H1 s1 q => ?_⟩
    · have w' : wpE t Ex i env fun d env' => ∃ tt, dTruth d = some tt ∧ if tt = true then (∃ b, dTruth d = some b ∧ Qd b env') else wpOr t Ex (j :: is) env' (fun d env2 => ∃ b, dTruth d = some b ∧ Qd b env2) := w
      rw [ctx_or (wpOr t Ex (j :: is)) Qd] at w'
      exact w'
    · cases b with
      | true => exact kq true env1 H1 s1 q
      | false => exact ⟨env1, Qd, s1.rs, q, fun b env2 H2 s2 q2 => kq b env2 H2 (s1.trans s2) q2⟩
theorem de_not (g : GX m X k) {a : Expr} (h : DE m X t Ex ir a) : DE m X t Ex (.not ir) (.UnaryOp .Not a pos) := by
  refine PE.weak (pe_notT h) fun σ H Q ⟨env, Qd, r, w, kq⟩ => ?_
  refine ⟨env, _, r, w, fun d v env1 H1 s1 ra ⟨b, hb, q⟩ => ⟨b, by rw [g.hK]; exact tru_of ra hb, ?_⟩⟩
  exact kq (.bl (!b)) (.bl (!b)) env1 H1 s1 (.inl (.bl _)) q
theorem dt_not {a : Expr} (h : DT m X t Ex ir a) : DT m X t Ex (.not ir) (.UnaryOp .Not a pos) := by
  refine PT.weak (pt_not h) fun σ H Q ⟨env, Qd, r, w, kq⟩ => ?_
  refine ⟨env, _, r, w, fun b env1 H1 s1 ⟨b', hb, q⟩ => ?_⟩
  cases hb
  exact kq (!b) env1 H1 s1 q
theorem de_ite {c a b : Expr} {ic ia ib : IE} (hc : DT m X t Ex ic c) (ha : DE m X t Ex ia a) (hb : DE m X t Ex ib b) : DE m X t Ex (.ite ic ia ib) (.IfExp c a b pos) := by
  refine PE.weak (pe_ifExp hc ha hb) fun σ H Q ⟨env, Qd, r, w, kq⟩ => ?_
  refine ⟨env, _, r, w, fun bb env1 H1 s1 q => ?_⟩
  cases bb with
  | true => exact ⟨env1, Qd, s1.rs, q, fun d v env2 H2 s2 ra q2 => kq d v env2 H2 (s1.trans s2) ra q2⟩
  | false => exact ⟨env1, Qd, s1.rs, q, fun d v env2 H2 s2 ra q2 => kq d v env2 H2 (s1.trans s2) ra q2⟩
/-- every comparison has its rule -/
theorem cmp_rule {o : Op} {op : CmpOp} (g : GX m X k) (h : cmpO o = some op) : ∃ r : R2, OpR X (compareOp op) r ∧ Snd m o (Rb r) ∧ isBlOp o := by
  have hu := unit64 g
  cases o <;> simp only [cmpO] at h <;> first | (cases h; done) | skip
  all_goals cases h
  · exact ⟨rEqD m.G.K, by have h := op_eqD (X := X) hu; rw [g.hK] at h; exact h, snd_eq, isBl_eq⟩
  · exact ⟨rNeD m.G.K, by have h := op_neD (X := X) hu; rw [g.hK] at h; exact h, snd_ne, isBl_ne⟩
  · exact ⟨rOd m.G.K dlt, by have h := or_od (X := X) od_lt (fun _ _ => rfl) hu; rw [g.hK] at h; exact h, snd_lt, isBl_lt⟩
  · exact ⟨rOd m.G.K fun a b => !dlt b a, by have h := or_od (X := X) od_le (fun _ _ => rfl) hu; rw [g.hK] at h; exact h, snd_le, isBl_le⟩
  · exact ⟨rOd m.G.K fun a b => dlt b a, by have h := or_od (X := X) od_gt (fun _ _ => rfl) hu; rw [g.hK] at h; exact h, snd_gt, isBl_gt⟩
  · exact ⟨rOd m.G.K fun a b => !dlt a b, by have h := or_od (X := X) od_ge (fun _ _ => rfl) hu; rw [g.hK] at h; exact h, snd_ge, isBl_ge⟩
  · exact ⟨rIsBl, op_is_bl, snd_isB, isBl_isB⟩
  · exact ⟨rIsnBl, op_isnot_bl, snd_isnB, isBl_isnB⟩
  · exact ⟨rIn4 m.G.K, by have h := or_in (X := X) (unit65 g); rw [g.hK] at h; exact h, snd_in, isBl_in⟩
  · exact ⟨rNin4 m.G.K, by have h := or_nin (X := X) (unit65 g); rw [g.hK] at h; exact h, snd_nin, isBl_nin⟩
theorem chain_core {o p : Op} {r r' : R2} {ta tb tc : TE} {i j l : IE} (hs : Snd m o (Rb r)) (hs' : Snd m p (Rb r')) {a b c : Expr} (ha : DE m X t Ex i a) (hb : DE m X t Ex j b) (hc : DE m X t Ex l c) {σ H Q}
    (h : RdE m (wpE t Ex (.chain o p i j l)) σ H Q) : tChain r r' (RdE m (wpE t Ex i)) (RdE m (wpE t Ex j)) (RdE m (wpE t Ex l)) σ H Q := by
  obtain ⟨env, Qd, rs, w, kq⟩ := h
  refine ⟨env, _, rs, w, fun d1 v1 env1 H1 s1 ra1 w1 => ⟨env1, _, s1.rs, w1, fun d2 v2 env2 H2 s2 ra2 w2 => ?_⟩⟩
  refine hs H2 (Sx m.So σ env2) [d1, d2] [v1, v2] _ _ ⟨fun q hq => s2.rs.free hq, s2.rs.notup⟩ ⟨.inl (ra1.step s2), .inl ra2, trivial⟩ w2 fun d v H3 n rd ⟨tt, ht, q⟩ => ?_
  cases d <;> simp only [unB] at ht <;> first | (cases ht; done) | skip
  cases ht
  cases rd
  have s3 : St1 m σ H2 env2 H3 env2 := n.st1 s2.rs
  refine ⟨tt, rfl, ?_⟩
  cases tt with
  | false => exact kq (.bl false) (.bl false) env2 H3 ((s1.trans s2).trans s3) (.inl (.bl _)) q
  | true =>
    refine ⟨env2, _, s3.rs, q, fun d3 v3 env3 H4 s4 ra3 w3 => ?_⟩
    refine hs' H4 (Sx m.So σ env3) [d2, d3] [v2, v3] _ _ ⟨fun q hq => s4.rs.free hq, s4.rs.notup⟩ ⟨.inl ((ra2.step s3).step s4), .inl ra3, trivial⟩ w3 fun d v H5 n2 rd2 q2 => ?_
    exact kq d v env3 H5 ((((s1.trans s2).trans s3).trans s4).trans (n2.st1 s4.rs)) (.inl rd2) q2
theorem de_chain {o p : Op} {op op' : CmpOp} {i j l : IE} {a b c : Expr} (g : GX m X k) (h1 : cmpO o = some op) (h2 : cmpO p = some op') (hm : lastMarks [op, op'] [b, c] = false) (ha : DE m X t Ex i a) (hb : DE m X t Ex j b) (hc : DE m X t Ex l c) :
    DE m X t Ex (.chain o p i j l) (.Compare a [op, op'] [b, c] pos) := by
  obtain ⟨r, ho, hs, _⟩ := cmp_rule g h1
  obtain ⟨r', ho', hs', _⟩ := cmp_rule g h2
  exact PE.weak (pe_chain ho ho' ha hb hc hm) fun σ H Q h => chain_core (ta := RdE m (wpE t Ex i)) (tb := RdE m (wpE t Ex j)) (tc := RdE m (wpE t Ex l)) hs hs' ha hb hc h
theorem chain_coreT {o p : Op} {r r' : R2} {i j l : IE} (hs : Snd m o (Rb r)) (hs' : Snd m p (Rb r')) (hbl : isBlOp p) {Q : Bool → Hp → Prop}
    (h : RdT m (wpE t Ex (.chain o p i j l)) σ H Q) : tTest (tChain r r' (RdE m (wpE t Ex i)) (RdE m (wpE t Ex j)) (RdE m (wpE t Ex l))) σ H Q := by
  obtain ⟨env, Qd, rs, w, kq⟩ := h
  refine ⟨env, _, rs, w, fun d1 v1 env1 H1 s1 ra1 w1 => ⟨env1, _, s1.rs, w1, fun d2 v2 env2 H2 s2 ra2 w2 => ?_⟩⟩
  refine hs H2 (Sx m.So σ env2) [d1, d2] [v1, v2] _ _ ⟨fun q hq => s2.rs.free hq, s2.rs.notup⟩ ⟨.inl (ra1.step s2), .inl ra2, trivial⟩ w2 fun d v H3 n rd ⟨tt, ht, q⟩ => ?_
  cases d <;> simp only [unB] at ht <;> first | (cases ht; done) | skip
  cases ht
  cases rd
  have s3 : St1 m σ H2 env2 H3 env2 := n.st1 s2.rs
  refine ⟨tt, rfl, ?_⟩
  cases tt with
  | false =>
    obtain ⟨b, hb, q⟩ := q
    cases hb
    exact ⟨false, rfl, kq false env2 H3 ((s1.trans s2).trans s3) q⟩
  | true =>
    refine ⟨env2, _, s3.rs, q, fun d3 v3 env3 H4 s4 ra3 w3 => ?_⟩
    refine hs' H4 (Sx m.So σ env3) [d2, d3] [v2, v3] _ _ ⟨fun q hq => s4.rs.free hq, s4.rs.notup⟩ ⟨.inl ((ra2.step s3).step s4), .inl ra3, trivial⟩ (hbl _ _ w3) fun d v H5 n2 rd2 ⟨⟨c, hc⟩, b, hb, q2⟩ => ?_
    subst hc
    cases hb
    cases rd2
    exact ⟨c, rfl, kq c env3 H5 ((((s1.trans s2).trans s3).trans s4).trans (n2.st1 s4.rs)) q2⟩
theorem dt_chain {o p : Op} {op op' : CmpOp} {i j l : IE} {a b c : Expr} (g : GX m X k) (h1 : cmpO o = some op) (h2 : cmpO p = some op') (hm : lastMarks [op, op'] [b, c] = false) (ha : DE m X t Ex i a) (hb : DE m X t Ex j b) (hc : DE m X t Ex l c) :
    DT m X t Ex (.chain o p i j l) (.Compare a [op, op'] [b, c] pos) := by
  obtain ⟨r, ho, hs, _⟩ := cmp_rule g h1
  obtain ⟨r', ho', hs', hbl⟩ := cmp_rule g h2
  exact PT.weak (pt_chain ho ho' ha hb hc hm) fun σ H Q h => chain_coreT hs hs' hbl h
/-! ### a slot's own object is changed -/
theorem RS.mut {i : Nat} {a : Addr} {d' : D} {o : HO} (r : RS m σ H env) (h : env[i]? = some (some (true, d))) (ha : σ[i]? = some (some (V.ref a))) (nt : NoTbl o)
    (x : RX m.G m.wa (upd H a o) (Sx m.So σ env) d' a) : St1 m σ H env (upd H a o) (env.set i (some (true, d'))) := by
  obtain ⟨b, hb, x0, n1, n2⟩ := r.ow i d h
  rw [ha] at hb
  cases hb
  have hi : i < env.length := (List.getElem?_eq_some_iff.mp h).1
  have at_i : (env.set i (some (true, d')))[i]? = some (some (true, d')) := by rw [List.getElem?_set_self hi]
  have at_j : ∀ j, j ≠ i → (env.set i (some (true, d')))[j]? = env[j]? := fun j hj => by rw [List.getElem?_set_ne (Ne.symm hj)]
  have hs : Sx m.So σ (env.set i (some (true, d'))) = Sx m.So σ env := by
    funext c
    apply propext
    constructor
    · rintro (q | ⟨j, e, h1, h2⟩)
      · exact .inl q
      · by_cases hj : j = i
        · subst hj; exact .inr ⟨j, d, h, h2⟩
        · rw [at_j j hj] at h1; exact .inr ⟨j, e, h1, h2⟩
    · rintro (q | ⟨j, e, h1, h2⟩)
      · exact .inl q
      · by_cases hj : j = i
        · subst hj; exact .inr ⟨j, d', at_i, h2⟩
        · exact .inr ⟨j, e, by rw [at_j j hj]; exact h1, h2⟩
  have sa : Sx m.So σ env a := .inr ⟨i, d, h, ha⟩
  have kp : Kp (Sx m.So σ env) H (upd H a o) := fun c u e n _ => by rw [upd_ne (fun z => n (by rw [z]; exact sa))]; exact e
  have wne : m.G.hw = true → m.wa ≠ a := fun hw z => n1 (by rw [← z]; exact r.so.1 hw)
  have old : ∀ j (e : D) (b : Bool), (env.set i (some (true, d')))[j]? = some (some (b, e)) → j ≠ i → env[j]? = some (some (b, e)) := fun j e b q hj => by rw [at_j j hj] at q; exact q
  refine ⟨⟨by rw [List.length_set]; exact r.len, fun j e q => ?_, fun j e q => ?_, fun j l e f c q1 q2 h1 h2 => ?_, ⟨r.so.1, fun c q => ?_⟩, ?_, ?_, ?_, ?_⟩, kp, fun c q => by rw [hs] at q; exact q, fun c q => ?_, fun c u q1 _ e => by rw [upd_ne (fun z => n1 (by rw [← z]; exact q1))]; exact e⟩
  · have hj : j ≠ i := fun z => by subst z; rw [at_i] at q; cases q
    obtain ⟨v, h1, h2⟩ := r.pl j e (old j e false q hj)
    rw [hs]
    exact ⟨v, h1, h2.mono kp Sb.refl⟩
  · rw [hs]
    by_cases hj : j = i
    · subst hj
      rw [at_i] at q
      cases q
      exact ⟨a, ha, x, n1, n2⟩
    · obtain ⟨b, h1, h2, h3, h4⟩ := r.ow j e (old j e true q hj)
      have hba : b ≠ a := fun z => hj (r.ap j i e d b (old j e true q hj) h h1 (by rw [z]; exact ha))
      refine ⟨b, h1, ?_, h3, h4⟩
      cases h2 with
      | lst e0 q0 => exact .lst (by rw [upd_ne hba]; exact e0) (q0.mono kp Sb.refl)
      | dK e0 l0 q0 => exact .dK (by rw [upd_ne hba]; exact e0) l0 (q0.mono kp Sb.refl)
      | dT e0 l0 q0 => exact .dT (by rw [upd_ne hba]; exact e0) l0 (q0.mono kp Sb.refl)
  · have g1 : ∃ e', env[j]? = some (some (true, e')) := by
      by_cases hj : j = i
      · subst hj; exact ⟨d, h⟩
      · exact ⟨e, old j e true q1 hj⟩
    have g2 : ∃ e', env[l]? = some (some (true, e')) := by
      by_cases hj : l = i
      · subst hj; exact ⟨d, h⟩
      · exact ⟨f, old l f true q2 hj⟩
    obtain ⟨e1, g1⟩ := g1
    obtain ⟨e2, g2⟩ := g2
    exact r.ap j l e1 e2 c g1 g2 h1 h2
  · obtain ⟨u, e, k⟩ := r.so.2 c q
    exact ⟨u, by rw [upd_ne (fun z => n1 (by rw [← z]; exact q))]; exact e, k⟩
  · intro hw
    obtain ⟨x, y, z, e, w⟩ := r.we hw
    exact ⟨x, y, z, by rw [upd_ne (wne hw)]; exact e, w⟩
  · intro p hp
    obtain ⟨ps, e, q⟩ := r.ta p hp
    have hpa : p.1 ≠ a := fun z => by
      obtain ⟨o1, e1, nt1⟩ := x0.there
      rw [← z, e] at e1
      cases e1
      exact nt1 ps rfl
    refine ⟨ps, by rw [upd_ne hpa]; exact e, q.1, fun pos cv hc => ?_⟩
    obtain ⟨c, e2, e3⟩ := q.2 pos cv hc
    refine ⟨c, e2, ?_⟩
    have hca : c ≠ a := fun z => by
      rw [z] at e3
      cases x0 with
      | lst e0 q0 => rw [e0] at e3; cases e3
      | dK e0 l0 q0 => rw [e0] at e3; cases e3
      | dT e0 l0 q0 => rw [e0] at e3; cases e3
    rw [upd_ne hca]; exact e3
  · intro c u e n t
    have hca : c ≠ a := fun z => by rw [z, n2] at e; cases e
    rw [upd_ne hca]
    exact r.fr c u e n t
  · intro c q
    by_cases hca : c = a
    · rw [hca]; exact n2
    · rw [upd_ne hca] at q; exact r.nn c q
  · by_cases hca : c = a
    · subst hca; rw [upd_same] at q; cases q
    · rw [upd_ne hca] at q; exact q
end
end SD

set_option Elab.async false
set_option linter.all false
set_option maxRecDepth 100000
set_option maxHeartbeats 4000000
namespace SD
open PySem PySem.Spec PyProof.Rows L2
theorem star_all : ∀ {es : List Expr} {env : PySem.Env} {pos : Pos}, (∀ e ∈ es, notStar e = true) → (backTo pos (starEach es env)).all (fun x => !x.1) = true
  | [], _, _, _ => rfl
  | e :: es, env, pos, h => by
    rw [star_nb (h e List.mem_cons_self)]
    show (true && (backTo pos (starEach es env)).all (fun x => !x.1)) = true
    rw [star_all fun x hx => h x (List.mem_cons_of_mem _ hx)]
    rfl
theorem few_ok {es : List Expr} {env : PySem.Env} {pos : Pos} (h : ∀ e ∈ es, notStar e = true) (hl : es.length < 29) : ((backTo pos (starEach es env)).all (fun x => !x.1) && (backToKw pos (keywordEach [] env)).all (fun x => x.1.isSome)
      && decide (es.length + ([] : List Keyword).length + (if ([] : List Keyword).isEmpty then 0 else 1) < 30)) = true := by
  rw [star_all h]
  show (true && true && decide _) = true
  rw [decide_eq_true (by show es.length + 0 + 0 < 30; omega)]
  rfl
section
variable {m : Am} {X : Cx} {k : Nat} {t : Tb} {Ex : ExV → DEnv → Prop} {σ : L2.St} {H H' H1 H2 : Hp} {S : Addr → Prop} {env env1 : DEnv} {ds : List D} {vs : List V} {Qd : D → Prop} {Q : VK} {d : D} {v : V} {e : Expr} {es : List Expr} {ir : IE} {irs : List IE} {pos cpos apos : Pos} {o : Expr}
/-- the value is of a type whose methods are found (more than tyV: known dicts) -/
def tyW (K : PySem.W.Frag) (T : String) (x : V) (H : Hp) : Prop := (T = "str" ∧ ∃ z, x = .str z) ∨ (T = "list" ∧ ∃ p xs, x = .ref p ∧ SqL K H p xs) ∨ (T = "dict" ∧ ∃ p, x = .ref p ∧ ((∃ kvs, Rd H p (.dK kvs)) ∨ ∃ kvs, Rd H p (.dT kvs))) ∨ (T = "tuple" ∧ ∃ p o xs, x = .ref p ∧ H p = some (.frz o (.tup xs)) ∧ o.dict = none)
theorem tyW_is {pins : List (Addr × Obj)} {s : Shared} {T : String} {x : V} {u : Value} (I : Inv X pins σ H s) (r : RelV x u) (ty : tyW X.K T x H) : s.TypeIs u T ∧ ∀ a, u = .ref a → ∃ ob, s.heap.get? a = some ob ∧ ob.dict = none := by
  rcases ty with ⟨rfl, z, rfl⟩ | ⟨rfl, p, xs, rfl, e⟩ | ⟨rfl, p, rfl, e⟩ | ⟨rfl, p, o, xs, rfl, e, hd⟩
  · obtain ⟨tk, rfl⟩ := r
    exact ⟨typeIs_str s z tk, fun _ q => nomatch q⟩
  · cases r
    obtain ⟨its, _, pl, _⟩ := I.list e
    refine ⟨pl.isList.typeIs, fun a q => ?_⟩
    cases q
    obtain ⟨o, n, e1, c, hd, _⟩ := pl
    exact ⟨o, e1, hd⟩
  · cases r
    have z : ∃ o, s.heap.get? p = some o ∧ o.ExactDict := by
      rcases e with ⟨kvs, e⟩ | ⟨kvs, e⟩
      · obtain ⟨_, _, _, _, o, _, _, e1, ex, _⟩ := e.ok I.hok
        exact ⟨o, e1, ex⟩
      · obtain ⟨_, _, _, _, o, _, _, e1, ex, _⟩ := e.ok I.hok
        exact ⟨o, e1, ex⟩
    obtain ⟨o, e1, ex⟩ := z
    refine ⟨⟨o, e1, ex.1⟩, fun a q => ?_⟩
    cases q
    exact ⟨o, e1, ex.2.1⟩
  · cases r
    obtain ⟨e1, _, its, _, o2, e2, c, _⟩ := I.hok p _ e
    rw [e1] at e2
    cases e2
    refine ⟨⟨o, e1, c⟩, fun a q => ?_⟩
    cases q
    exact ⟨o, e1, hd⟩
theorem tyw_of {T : String} (h : tyN d = some T) (r : RO m H S d v) (hT : T = "str" ∨ T = "list" ∨ T = "dict") : tyW m.G.K T v H := by
  cases d
  case str x => cases h; exact .inl ⟨rfl, _, r.str⟩
  case lst l => cases h; obtain ⟨a, xs, rfl, e, ra⟩ := r.lst; exact .inr (.inl ⟨rfl, a, xs, rfl, SqL.of e⟩)
  case dct tk l =>
    cases h
    cases tk with
    | false =>
      obtain ⟨a, ks, xs, ds, rfl, rfl, e, hl, r⟩ := r.dctF
      exact .inr (.inr (.inl ⟨rfl, a, rfl, .inl ⟨_, e⟩⟩))
    | true =>
      obtain ⟨a, ks, xs, ds, rfl, rfl, e, hl, r⟩ := r.dctT
      exact .inr (.inr (.inl ⟨rfl, a, rfl, .inr ⟨_, e⟩⟩))
  all_goals (simp only [tyN] at h; first | (cases h; done) | (cases h; rcases hT with q | q | q <;> exact absurd q (by decide)))
theorem tyw_ofM {T : String} (h : tyM d = some T) (r : RO m H S d v) : tyW m.G.K T v H := by
  cases d
  case str x => exact tyw_of (d := .str x) h r (.inl (Option.some.inj h).symm)
  case lst l => exact tyw_of (d := .lst l) h r (.inr (.inl (Option.some.inj h).symm))
  case dct tk l => exact tyw_of (d := .dct tk l) h r (.inr (.inr (Option.some.inj h).symm))
  case tup l =>
    have h' : (if soft l = true then none else some "tuple") = some T := h
    split at h'
    · cases h'
    · rename_i hs
      cases h'
      obtain ⟨a, xs, rfl, e, _⟩ := r.tup
      rw [show soft l = false by simpa using hs] at e
      obtain ⟨o, e1, e2⟩ := e
      exact .inr (.inr (.inr ⟨rfl, a, o, xs, rfl, e1, e2⟩))
  all_goals cases h
def tMt (K : PySem.W.Frag) (T : String) (r : V → List V → Hp → VK → Prop) (to : TE) (ta : TA) : TE := fun σ H Q => to σ H fun x H1 => tyW K T x H1 ∧ ta σ H1 fun xs H2 => r x xs H2 Q
/-- o.name(..) -/
theorem pe_mt0 {to : TE} {name : Str} {T id : String} {r : V → List V → Hp → VK → Prop} (pa : PlainAttrs T) (slot : Slot T name id) (hty : typeOf (.builtin id) = pure (.type "method_descriptor")) (hm : MtR X id r) (ho : PE X o to)
    (hbase : attributeBase o name X.env (eval o X.env) = eval o X.env) (hline : (apos.endLine == cpos.line) = true) : PE X (.Call (.Attribute o name apos) [] [] cpos) (tMt X.K T r to tNil) := by
  refine ⟨fun pins s σ H Q I h => ?_⟩
  refine wpAny_Call_method0_late hbase hline (thn (ho.run pins s σ H _ I h) fun u s1 ⟨x, H1, I1, r1, ty, q1⟩ => ?_)
  obtain ⟨h1, h2⟩ := tyW_is I1 r1 ty
  exact ⟨T, id, pa, slot, hty, h1, h2, Calls.callWith_builtin rfl (PySem.evalArgs_none (hm pins s1 σ H1 x [] u [] Q I1 r1 .nil q1))⟩
theorem pe_mt {a : Expr} {to : TE} {ta : TA} {name : Str} {T id : String} {r : V → List V → Hp → VK → Prop} (pa : PlainAttrs T) (slot : Slot T name id) (hty : typeOf (.builtin id) = pure (.type "method_descriptor")) (hm : MtR X id r) (ho : PE X o to) (ha : PA X (a :: es) ta)
    (hbase : attributeBase o name X.env (eval o X.env) = eval o X.env) (hst : ∀ e ∈ a :: es, notStar e = true) (hfew : (a :: es).length < 29) (hline : (apos.endLine == cpos.line) = true) : PE X (.Call (.Attribute o name apos) (a :: es) [] cpos) (tMt X.K T r to ta) := by
  refine ⟨fun pins s σ H Q I h => ?_⟩
  refine wpAny_Call_method_late hbase (few_ok hst hfew) hline rfl (thn (ho.run pins s σ H _ I h) fun u s1 ⟨x, H1, I1, r1, ty, q1⟩ => ?_)
  obtain ⟨h1, h2⟩ := tyW_is I1 r1 ty
  refine ⟨T, id, pa, slot, hty, h1, h2, ?_⟩
  have hA := ha.run cpos pins s1 σ H1 _ I1 q1
  rw [star_nb (hst a List.mem_cons_self)] at hA ⊢
  refine Calls.callWith_builtin ?_ (Calls.evalArgs_plain (thn hA fun us s2 ⟨vs, H2, I2, r2, q2⟩ => hm pins s2 σ H2 x vs u us Q I2 r1 r2 q2))
  show (false || (backTo cpos (starEach es X.env)).any (·.1)) = false
  rw [star_any fun y hy => hst y (List.mem_cons_of_mem _ hy)]
  rfl
/-- a change of a slot's own list, by values -/
def MSnd (m : Am) (o : MOp) (r : V → List V → Hp → VK → Prop) : Prop := ∀ (H : Hp) (S : Addr → Prop) (d : D) (ds : List D) (a : Addr) (vs : List V) (Qd : D → D → Prop) (Q : VK), S a → RX m.G m.wa H S d a → RDs m.G m.wa H S ds vs → mutW o d ds Qd →
  (∀ d' r' v u, NoTbl u → RX m.G m.wa (upd H a u) S d' a → RD m.G m.wa (upd H a u) S r' v → Qd r' d' → Q v (upd H a u)) → r (.ref a) vs H Q
theorem kp_own {a : Addr} {u : HO} (sa : S a) : Kp S H (upd H a u) := fun c w e n _ => by rw [upd_ne (fun z => n (by rw [z]; exact sa))]; exact e
theorem ms_append : MSnd m .append rAppend := by
  intro H S d ds a vs Qd Q sa x rd w kq
  cases d <;> first | exact w.elim | skip
  rename_i l
  cases ds with
  | nil => exact w.elim
  | cons d0 ds => cases ds with
    | cons _ _ => exact w.elim
    | nil =>
      cases x with
      | lst e q =>
        cases rd with
        | cons r0 t0 =>
          cases t0
          refine ⟨a, _, _, rfl, rfl, e, by rw [← q.length, sizeLine_eq]; exact w.1, ?_⟩
          exact kq _ _ _ _ noTbl_lst (.lst upd_same ((q.append (RDs.one r0)).mono (kp_own sa) Sb.refl)) .non w.2
theorem ms_extend : MSnd m .extend rExtend := by
  intro H S d ds a vs Qd Q sa x rd w kq
  cases d <;> first | exact w.elim | skip
  rename_i l
  cases ds with
  | nil => exact w.elim
  | cons d0 ds => cases ds with
    | cons _ _ => cases d0 <;> exact w.elim
    | nil =>
      cases d0 <;> first | exact w.elim | skip
      cases x with
      | lst e q =>
        cases rd with
        | cons r0 t0 =>
          cases t0
          cases r0 with
          | lst e2 n2 q2 =>
            refine ⟨a, _, _, _, rfl, rfl, e, e2, by rw [← q.length, ← q2.length, sizeLine_eq]; exact w.1, ?_⟩
            exact kq _ _ _ _ noTbl_lst (.lst upd_same ((q.append q2).mono (kp_own sa) Sb.refl)) .non w.2
theorem ms_pop0 : MSnd m .pop0 rPop := by
  intro H S d ds a vs Qd Q sa x rd w kq
  cases d <;> first | exact w.elim | skip
  rename_i l
  cases ds with
  | cons _ _ => exact w.elim
  | nil =>
    cases x with
    | lst e q =>
      cases rd
      obtain ⟨d, h1, h2⟩ := w
      obtain ⟨v, hv, rv⟩ := q.get h1
      refine ⟨a, _, v, rfl, rfl, e, by rw [← q.length]; exact hv, ?_⟩
      refine kq _ _ _ _ noTbl_lst (.lst upd_same (RDs.mono (kp_own sa) Sb.refl ?_)) (rv.mono (kp_own sa) Sb.refl) h2
      rw [List.dropLast_eq_take, List.dropLast_eq_take, ← q.length]
      exact q.take _
theorem ms_pop1 : MSnd m .pop1 rPopAt := by
  intro H S d ds a vs Qd Q sa x rd w kq
  cases d <;> first | exact w.elim | skip
  rename_i l
  cases ds with
  | nil => exact w.elim
  | cons d0 ds => cases ds with
    | cons _ _ => cases d0 <;> exact w.elim
    | nil =>
      cases d0 <;> first | exact w.elim | skip
      cases x with
      | lst e q =>
        cases rd with
        | cons r0 t0 =>
          cases t0
          cases r0
          obtain ⟨h1, h2, kk, d, h3, h4, h5⟩ := w
          obtain ⟨v, hv, rv⟩ := q.get h4
          refine ⟨a, _, _, kk, v, rfl, rfl, e, h1, h2, by rw [← q.length]; exact (ixN_seq h3).1, hv, ?_⟩
          exact kq _ _ _ _ noTbl_lst (.lst upd_same ((q.eraseIdx _).mono (kp_own sa) Sb.refl)) (rv.mono (kp_own sa) Sb.refl) h5
def rInsert1 : V → List V → Hp → VK → Prop := fun x vs H Q => ∃ (l : Addr) (xs : List V) (i : Int) (y : V), x = .ref l ∧ vs = [.int i, y] ∧ H l = some (.lst xs) ∧ xs.length < sizeLine ∧ 0 ≤ i ∧ i < 2 ^ 63 ∧
    Q .non (upd H l (.lst (xs.take i.toNat ++ [y] ++ xs.drop i.toNat)))
theorem ms_insert : MSnd m .insert rInsert1 := by
  intro H S d ds a vs Qd Q sa x rd w kq
  cases d <;> first | exact w.elim | skip
  rename_i l
  cases ds with
  | nil => exact w.elim
  | cons d0 ds => cases ds with
    | nil => cases d0 <;> exact w.elim
    | cons d1 ds => cases ds with
      | cons _ _ => cases d0 <;> exact w.elim
      | nil =>
        cases d0 <;> first | exact w.elim | skip
        cases x with
        | lst e q =>
          cases rd with
          | cons r0 t0 =>
            cases r0
            cases t0 with
            | cons r1 t1 =>
              cases t1
              obtain ⟨⟨h1, h2, h3⟩, h4⟩ := w
              refine ⟨a, _, _, _, rfl, rfl, e, by rw [← q.length, sizeLine_eq]; exact h1, h2, h3, ?_⟩
              exact kq _ _ _ _ noTbl_lst (.lst upd_same ((((q.take _).append (RDs.one r1)).append (q.drop _)).mono (kp_own sa) Sb.refl)) .non h4
/-- the reading of such a change -/
theorem mut_read {i : Nat} {mo : MOp} {r : V → List V → Hp → VK → Prop} (hs : MSnd m mo r) (nb : ∀ j ∈ irs, isBor j = false) (h : RdE m (wpE t Ex (.mut mo i irs)) σ H Q) (hT : mvTy mo = "list") :
    tMt m.G.K "list" r (tVar i) (tL (irs.map (tO m t Ex))) σ H Q := by
  obtain ⟨env, Qd, rs, ⟨⟨d0, h0, hty⟩, w⟩, kq⟩ := h
  obtain ⟨a, ha, x0, n1, n2⟩ := rs.ow i d0 h0
  refine ⟨.ref a, ha, tyw_of (m := m) (S := Sx m.So σ env) (by rw [hty, hT]) (.inr ⟨a, rfl, x0⟩) (.inr (.inl rfl)), ?_⟩
  refine chainL irs ⟨env, _, rs, w, fun ds vs env1 H1 s1 ro ⟨ok, d, hd, w1⟩ => ?_⟩
  obtain ⟨rd, _⟩ := ro.rds nb ok
  obtain ⟨b, hb, x, _⟩ := s1.rs.ow i d hd
  rw [ha] at hb
  cases hb
  refine hs H1 (Sx m.So σ env1) d ds a vs _ _ (.inr ⟨i, d, hd, ha⟩) x rd w1 fun d' r' v u nt x' rd' q => ?_
  have s2 := s1.rs.mut hd ha nt x'
  exact kq r' v _ _ (s1.trans s2) (.inl (rd'.mono Kp.refl (Sb.sub s2.sb))) q
end
end SD

set_option Elab.async false
set_option linter.all false
set_option maxRecDepth 100000
set_option maxHeartbeats 4000000
namespace SD
open PySem PySem.Spec PyProof.Rows L2
section
variable {m : Am} {X : Cx} {k : Nat} {t : Tb} {Ex : ExV → DEnv → Prop} {σ σ' : L2.St} {H H' H1 H2 : Hp} {S S' : Addr → Prop} {env env1 env' : DEnv} {ds : List D} {vs : List V} {Qd : D → Prop} {Q : VK} {d : D} {v : V} {e : Expr} {es : List Expr} {ir : IE} {irs : List IE} {pos : Pos}
/-! ### slots stored and forgotten -/
theorem Sx.set {i : Nat} {x : Slt} {y : Option V} (hl : env.length = σ.length) (hx : isOwn (some x) = false) : ∀ a, Sx m.So (σ.set i y) (env.set i x) a → Sx m.So σ env a := by
  rintro a (h | ⟨j, d, h1, h2⟩)
  · exact .inl h
  · by_cases hj : j = i
    · subst hj
      by_cases hlt : j < env.length
      · rw [List.getElem?_set_self hlt] at h1
        cases h1
        cases hx
      · rw [List.set_eq_of_length_le (by omega)] at h1
        rw [List.getElem?_eq_none (by omega)] at h1
        cases h1
    · rw [List.getElem?_set_ne (Ne.symm hj)] at h1 h2
      exact .inr ⟨j, d, h1, h2⟩
theorem RS.setSlot {i : Nat} {x : Slt} {y : Option V} (r : RS m σ H env) (hx : isOwn (some x) = false) (hy : ∀ d, x = some (false, d) → ∃ v, y = some v ∧ RA m H (Sx m.So σ env) d v) : RS m (σ.set i y) H (env.set i x) := by
  have sub := Sx.set (m := m) (σ := σ) (env := env) (i := i) (x := x) (y := y) r.len hx
  have own : ∀ (j : Nat) (e : D), (env.set i x)[j]? = some (some (true, e)) → j ≠ i ∧ env[j]? = some (some (true, e)) := fun j e q => by
    by_cases hj : j = i
    · subst hj
      by_cases hlt : j < env.length
      · rw [List.getElem?_set_self hlt] at q
        cases q
        cases hx
      · rw [List.getElem?_eq_none (by rw [List.length_set]; omega)] at q
        cases q
    · rw [List.getElem?_set_ne (Ne.symm hj)] at q
      exact ⟨hj, q⟩
  refine ⟨by rw [List.length_set, List.length_set]; exact r.len, fun j e q => ?_, fun j e q => ?_, fun j l e f b q1 q2 h1 h2 => ?_, r.so, r.we, r.ta, r.fr, r.nn⟩
  · by_cases hj : j = i
    · subst hj
      by_cases hlt : j < env.length
      · rw [List.getElem?_set_self hlt] at q
        cases q
        obtain ⟨v, rfl, ra⟩ := hy e rfl
        exact ⟨v, by rw [List.getElem?_set_self (by rw [← r.len]; exact hlt)], ra.mono Kp.refl (Sb.sub sub)⟩
      · rw [List.getElem?_eq_none (by rw [List.length_set]; omega)] at q
        cases q
    · rw [List.getElem?_set_ne (Ne.symm hj)] at q ⊢
      obtain ⟨v, h1, h2⟩ := r.pl j e q
      exact ⟨v, h1, h2.mono Kp.refl (Sb.sub sub)⟩
  · obtain ⟨hj, q'⟩ := own j e q
    obtain ⟨b, h1, h2, h3, h4⟩ := r.ow j e q'
    refine ⟨b, by rw [List.getElem?_set_ne (Ne.symm hj)]; exact h1, ?_, h3, h4⟩
    cases h2 with
    | lst e0 q0 => exact .lst e0 (q0.mono Kp.refl (Sb.sub sub))
    | dK e0 l0 q0 => exact .dK e0 l0 (q0.mono Kp.refl (Sb.sub sub))
    | dT e0 l0 q0 => exact .dT e0 l0 (q0.mono Kp.refl (Sb.sub sub))
  · obtain ⟨hj, p1⟩ := own j e q1
    obtain ⟨hl, p2⟩ := own l f q2
    rw [List.getElem?_set_ne (Ne.symm hj)] at h1
    rw [List.getElem?_set_ne (Ne.symm hl)] at h2
    exact r.ap j l e f b p1 p2 h1 h2
theorem RS.wipe (r : RS m σ H env) : ∀ vs : List Nat, RS m (L2.wipe σ vs) H (wipeE env vs) ∧ ∀ a, Sx m.So (L2.wipe σ vs) (wipeE env vs) a → Sx m.So σ env a
  | [] => ⟨r, fun _ h => h⟩
  | i :: vs => by
    obtain ⟨a, b⟩ := RS.wipe r vs
    exact ⟨a.setSlot (i := i) (x := none) (y := none) rfl (fun d z => by cases z), fun c h => b c (Sx.set (i := i) (x := none) (y := none) a.len rfl c h)⟩
theorem wipe_get : ∀ {vs : List Nat} {j : Nat}, j ∉ vs → (L2.wipe σ vs)[j]? = σ[j]?
  | [], j, _ => rfl
  | i :: vs, j, h => by
    show ((L2.wipe σ vs).set i none)[j]? = _
    rw [List.getElem?_set_ne (fun z => h (by rw [z]; exact List.mem_cons_self)), wipe_get fun z => h (List.mem_cons_of_mem _ z)]
theorem wipe_in : ∀ {vs : List Nat} {j : Nat}, j ∈ vs → j < σ.length → (L2.wipe σ vs)[j]? = some none
  | i :: vs, j, h, hl => by
    show ((L2.wipe σ vs).set i none)[j]? = _
    by_cases hj : i = j
    · subst hj; rw [List.getElem?_set_self (by rw [wipe_length]; exact hl)]
    · rw [List.getElem?_set_ne hj]
      rcases List.mem_cons.mp h with z | z
      · exact absurd z.symm hj
      · exact wipe_in z hl
theorem wipe_eq {vs : List Nat} (hl : σ'.length = σ.length) (h : ∀ j, j ∉ vs → σ'[j]? = σ[j]?) : L2.wipe σ' vs = L2.wipe σ vs := by
  apply List.ext_getElem?
  intro j
  by_cases hj : j ∈ vs
  · by_cases hlt : j < σ.length
    · rw [wipe_in hj hlt, wipe_in hj (by omega)]
    · rw [List.getElem?_eq_none (by rw [wipe_length]; omega), List.getElem?_eq_none (by rw [wipe_length]; omega)]
  · rw [wipe_get hj, wipe_get hj, h j hj]
theorem wipe_inv {vs : List Nat} (h : L2.wipe σ' vs = L2.wipe σ vs) : σ'.length = σ.length ∧ ∀ j, j ∉ vs → σ'[j]? = σ[j]? := by
  refine ⟨by rw [← wipe_length σ' vs, h, wipe_length], fun j hj => ?_⟩
  rw [← wipe_get (σ := σ') hj, h, wipe_get hj]
theorem back_len {old new : DEnv} : ∀ vs : List Nat, (backE old new vs).length = new.length
  | [] => rfl
  | i :: vs => by show ((backE old new vs).set i _).length = _; rw [List.length_set, back_len vs]
theorem back_get {old new : DEnv} : ∀ {vs : List Nat} {j : Nat}, j ∉ vs → (backE old new vs)[j]? = new[j]?
  | [], j, _ => rfl
  | i :: vs, j, h => by
    show ((backE old new vs).set i _)[j]? = _
    rw [List.getElem?_set_ne (fun z => h (by rw [z]; exact List.mem_cons_self)), back_get fun z => h (List.mem_cons_of_mem _ z)]
theorem back_in {old new : DEnv} (hl : new.length = old.length) : ∀ {vs : List Nat} {j : Nat}, j ∈ vs → (backE old new vs)[j]? = old[j]?
  | i :: vs, j, h => by
    show ((backE old new vs).set i (old.getD i none))[j]? = _
    by_cases hj : i = j
    · subst hj
      by_cases hlt : i < old.length
      · rw [List.getElem?_set_self (by rw [back_len, hl]; exact hlt), List.getElem?_eq_getElem hlt]
        simp [List.getD, List.getElem?_eq_getElem hlt]
      · rw [List.getElem?_eq_none (by rw [List.length_set, back_len, hl]; omega), List.getElem?_eq_none (by omega)]
    · rw [List.getElem?_set_ne hj]
      rcases List.mem_cons.mp h with z | z
      · exact absurd z.symm hj
      · exact back_in hl z
theorem noOwn_at {vs : List Nat} (h : noOwn env vs = true) {j : Nat} (hj : j ∈ vs) {d : D} : env[j]? ≠ some (some (true, d)) := by
  intro e
  have q := List.all_eq_true.mp h j hj
  rw [e] at q
  cases q
/-- behind a block -/
theorem RS.back {en3 : DEnv} {H5 : Hp} {bs : List Nat} (r : RS m σ H env) (r3 : RS m σ' H5 en3) (hw : L2.wipe σ' bs = L2.wipe σ bs) (n0 : noOwn env bs = true) (n3 : noOwn en3 bs = true) (kp : Kp (Sx m.So σ env) H H5) (sb : ∀ a, Sx m.So σ' en3 a → Sx m.So σ env a) (nn : ∀ a, H5 a = none → H a = none)
    (ks : ∀ a o, m.So a → (m.G.hw = true → a ≠ m.wa) → H a = some o → H5 a = some o) : St1 m σ H env H5 (backE env en3 bs) := by
  obtain ⟨wl, wg⟩ := wipe_inv hw
  have hl : en3.length = env.length := by rw [r3.len, wl, r.len]
  have own : ∀ (j : Nat) (e : D), (backE env en3 bs)[j]? = some (some (true, e)) → j ∉ bs ∧ en3[j]? = some (some (true, e)) := fun j e q => by
    by_cases hj : j ∈ bs
    · rw [back_in hl hj] at q
      exact absurd q (noOwn_at n0 hj)
    · rw [back_get hj] at q
      exact ⟨hj, q⟩
  have sub3 : ∀ a, Sx m.So σ (backE env en3 bs) a → Sx m.So σ' en3 a := fun a h => by
    rcases h with h | ⟨j, d, h1, h2⟩
    · exact .inl h
    · obtain ⟨hj, q⟩ := own j d h1
      exact .inr ⟨j, d, q, by rw [wg j hj]; exact h2⟩
  have sub : ∀ a, Sx m.So σ (backE env en3 bs) a → Sx m.So σ env a := fun a h => sb a (sub3 a h)
  refine ⟨⟨by rw [back_len, hl]; exact r.len, fun j e q => ?_, fun j e q => ?_, fun j l e f b q1 q2 h1 h2 => ?_, r3.so, r3.we, r3.ta, r3.fr, r3.nn⟩, kp, sub, nn, ks⟩
  · by_cases hj : j ∈ bs
    · rw [back_in hl hj] at q
      obtain ⟨v, h1, h2⟩ := r.pl j e q
      exact ⟨v, h1, h2.mono kp (Sb.sub sub)⟩
    · rw [back_get hj] at q
      obtain ⟨v, h1, h2⟩ := r3.pl j e q
      exact ⟨v, by rw [← wg j hj]; exact h1, h2.mono Kp.refl (Sb.sub sub3)⟩
  · obtain ⟨hj, q'⟩ := own j e q
    obtain ⟨b, h1, h2, h3, h4⟩ := r3.ow j e q'
    refine ⟨b, by rw [← wg j hj]; exact h1, ?_, h3, h4⟩
    cases h2 with
    | lst e0 q0 => exact .lst e0 (q0.mono Kp.refl (Sb.sub sub3))
    | dK e0 l0 q0 => exact .dK e0 l0 (q0.mono Kp.refl (Sb.sub sub3))
    | dT e0 l0 q0 => exact .dT e0 l0 (q0.mono Kp.refl (Sb.sub sub3))
  · obtain ⟨hj, p1⟩ := own j e q1
    obtain ⟨hl, p2⟩ := own l f q2
    rw [← wg j hj] at h1
    rw [← wg l hl] at h2
    exact r3.ap j l e f b p1 p2 h1 h2
/-! ### targets -/
mutual
def namesT : IT → List Nat
  | .nm i => [i]
  | .tp l => namesTs l
def namesTs : List IT → List Nat
  | [] => []
  | t :: ts => namesT t ++ namesTs ts
end
/-- the state behind a store -/
structure Stored (m : Am) (σ : L2.St) (H : Hp) (env : DEnv) (ns : List Nat) (σ' : L2.St) (env' : DEnv) : Prop where
  rs : RS m σ' H env'
  sb : ∀ a, Sx m.So σ' env' a → Sx m.So σ env a
  wi : ∀ bs : List Nat, (∀ i ∈ ns, i ∈ bs) → L2.wipe σ' bs = L2.wipe σ bs
def gT (m : Am) (T : IT) : TG := fun v σ H Q => ∃ env d env', RS m σ H env ∧ RD m.G m.wa H (Sx m.So σ env) d v ∧ asgT T d env = some env' ∧ ∀ σ', Stored m σ H env (namesT T) σ' env' → Q σ' H
def gTs (m : Am) (T : List IT) : TGs := fun vs σ H Q => ∃ env ds env', RS m σ H env ∧ RDs m.G m.wa H (Sx m.So σ env) ds vs ∧ asgTs T ds env = some env' ∧ ∀ σ', Stored m σ H env (namesTs T) σ' env' → Q σ' H
theorem PG.weak {tg : Expr} {g g' : TG} (h : PG X tg g) (w : ∀ v σ H Q, g' v σ H Q → g v σ H Q) : PG X tg g' := ⟨fun pins s σ H v u Q I r q => h.run pins s σ H v u Q I r (w v σ H Q q)⟩
theorem PG.or {tg : Expr} {g g' : TG} (h : PG X tg g) (h' : PG X tg g') : PG X tg fun v σ H Q => g v σ H Q ∨ g' v σ H Q := ⟨fun pins s σ H v u Q I r q => q.elim (h.run pins s σ H v u Q I r) (h'.run pins s σ H v u Q I r)⟩
theorem PGs.weak {tg : List Expr} {g g' : TGs} (h : PGs X tg g) (w : ∀ v σ H Q, g' v σ H Q → g v σ H Q) : PGs X tg g' := ⟨fun pins s σ H v u Q I r q => h.run pins s σ H v u Q I r (w v σ H Q q)⟩
mutual
def tgOk (N : List Str) (sc : Scope) (fn : Str → Bool) : IT → Expr → Bool
  | .nm i, .Name x _ => decide (N[i]? = some x) && (decide (sc.names.lookup x = some .local) || (decide (sc.names.lookup x = some .cell) && fn x))
  | .tp l, .Tuple es _ _ => tgsOk N sc fn l es
  | _, _ => false
def tgsOk (N : List Str) (sc : Scope) (fn : Str → Bool) : List IT → List Expr → Bool
  | [], [] => true
  | t :: ts, e :: es => notStar e && tgOk N sc fn t e && tgsOk N sc fn ts es
  | _, _ => false
end
theorem asgE_nb {e : Expr} {es : List Expr} {en : PySem.Env} (h : notStar e = true) : assignEach (e :: es) en = (false, assign e en) :: assignEach es en := by
  cases e <;> first | rfl | cases h
theorem tgs_each {N : List Str} {sc : Scope} {fn : Str → Bool} {en : PySem.Env} : ∀ {ts : List IT} {es : List Expr}, tgsOk N sc fn ts es = true → (assignEach es en).length = ts.length ∧ (assignEach es en).findIdx? (·.1) = none
  | [], [], _ => ⟨rfl, rfl⟩
  | t :: ts, e :: es, h => by
    have h' : (notStar e && tgOk N sc fn t e && tgsOk N sc fn ts es) = true := by unfold tgsOk at h; exact h
    rw [Bool.and_eq_true, Bool.and_eq_true] at h'
    obtain ⟨a, b⟩ := tgs_each (en := en) h'.2
    rw [asgE_nb h'.1.1]
    refine ⟨by simp [a], ?_⟩
    rw [List.findIdx?_cons, b]
    rfl
  | [], _ :: _, h => by unfold tgsOk at h; cases h
  | _ :: _, [], h => by unfold tgsOk at h; cases h
theorem asgTs_len : ∀ {ts : List IT} {ds : List D} {env env' : DEnv}, asgTs ts ds env = some env' → ds.length = ts.length
  | [], [], _, _, _ => rfl
  | t :: ts, d :: ds, env, env', h => by
    unfold asgTs at h
    cases e : asgT t d env with
    | none => rw [e] at h; cases h
    | some env1 => rw [e] at h; simp [asgTs_len (ts := ts) (ds := ds) (env := env1) (env' := env') h]
  | [], _ :: _, _, _, h => by unfold asgTs at h; cases h
  | _ :: _, [], _, _, h => by unfold asgTs at h; cases h
mutual
theorem pg_T (g : GX m X k) : ∀ {T : IT} {tg : Expr}, tgOk X.N X.env.scope X.fn T tg = true → PG X tg (gT m T)
  | .nm i, tg, h => by
    cases tg <;> first | (unfold tgOk at h; cases h; done) | skip
    rename_i x p
    have h' : (decide (X.N[i]? = some x) && (decide (X.env.scope.names.lookup x = some .local) || (decide (X.env.scope.names.lookup x = some .cell) && X.fn x))) = true := by unfold tgOk at h; exact h
    simp only [Bool.and_eq_true, Bool.or_eq_true, decide_eq_true_eq] at h'
    obtain ⟨h1, h2⟩ := h'
    refine PG.weak (pg_name g.nd h1 (h2.elim .inl fun z => .inr z.1) (h2.elim .inr fun z => .inl z.2)) fun v σ H Q ⟨env, d, env', r, rd, ha, kq⟩ => ?_
    have ha' : some (env.set i (some (false, d))) = some env' := by unfold asgT at ha; exact ha
    cases ha'
    refine kq _ ⟨r.setSlot rfl fun d' z => by cases z; exact ⟨v, rfl, .inl rd⟩, Sx.set r.len rfl, fun bs hb => wipe_eq (by rw [List.length_set]) fun j hj => ?_⟩
    rw [List.getElem?_set_ne fun z => hj (by rw [← z]; exact hb i (by unfold namesT; exact List.mem_singleton.mpr rfl))]
  | .tp ts, tg, h => by
    cases tg <;> first | (unfold tgOk at h; cases h; done) | skip
    rename_i es kk p
    have h' : tgsOk X.N X.env.scope X.fn ts es = true := by unfold tgOk at h; exact h
    obtain ⟨l1, l2⟩ := tgs_each (en := X.env) h'
    have pgs := pgs_T g h'
    refine PG.weak (PG.or (pg_tup (n := ts.length) g.calm pgs l1 l2) (pg_lst (n := ts.length) g.calm pgs l1 l2)) fun v σ H Q ⟨env, d, env', r, rd, ha, kq⟩ => ?_
    cases rd with
    | @tup a0 xs0 ds0 e n rs =>
      have ha' : asgTs ts ds0 env = some env' := by unfold asgT at ha; exact ha
      exact .inl ⟨_, _, rfl, e.sq, by rw [← rs.length, asgTs_len ha'], env, _, env', r, rs, ha', fun σ' st => kq σ' (by unfold namesT; exact st)⟩
    | @lst a0 xs0 ds0 e n rs =>
      have ha' : asgTs ts ds0 env = some env' := by unfold asgT at ha; exact ha
      exact .inr ⟨_, _, rfl, SqL.of e, by rw [← rs.length, asgTs_len ha'], env, _, env', r, rs, ha', fun σ' st => kq σ' (by unfold namesT; exact st)⟩
    | @ktup a0 xs0 ds0 e rs =>
      have ha' : asgTs ts ds0 env = some env' := by unfold asgT at ha; exact ha
      exact .inl ⟨_, _, rfl, by rw [g.hK]; exact e.sq, by rw [← rs.length, asgTs_len ha'], env, _, env', r, rs, ha', fun σ' st => kq σ' (by unfold namesT; exact st)⟩
    | @stup a0 xs0 ds0 e n rs =>
      have ha' : asgTs ts ds0 env = some env' := by unfold asgT at ha; exact ha
      exact .inl ⟨_, _, rfl, SqT.of e, by rw [← rs.length, asgTs_len ha'], env, _, env', r, rs, ha', fun σ' st => kq σ' (by unfold namesT; exact st)⟩
    | _ => unfold asgT at ha; cases ha
theorem pgs_T (g : GX m X k) : ∀ {T : List IT} {tg : List Expr}, tgsOk X.N X.env.scope X.fn T tg = true → PGs X tg (gTs m T)
  | [], [], _ => PGs.weak pgs_nil fun vs σ H Q ⟨env, ds, env', r, rd, ha, kq⟩ => by
    cases ds with
    | nil =>
      cases rd
      unfold asgTs at ha
      cases ha
      exact ⟨rfl, kq σ ⟨r, fun _ h => h, fun _ _ => rfl⟩⟩
    | cons _ _ => unfold asgTs at ha; cases ha
  | t :: ts, e :: es, h => by
    have h' : (notStar e && tgOk X.N X.env.scope X.fn t e && tgsOk X.N X.env.scope X.fn ts es) = true := by unfold tgsOk at h; exact h
    rw [Bool.and_eq_true, Bool.and_eq_true] at h'
    refine PGs.weak (pgs_cons (pg_T g h'.1.2) (pgs_T g h'.2) (by rw [asgE_nb h'.1.1]; rfl)) fun vs σ H Q ⟨env, ds, env', r, rd, ha, kq⟩ => ?_
    cases rd with
    | nil => unfold asgTs at ha; cases ha
    | @cons d v ds vs r0 t0 =>
      unfold asgTs at ha
      cases ea : asgT t d env with
      | none => rw [ea] at ha; cases ha
      | some env1 =>
        rw [ea] at ha
        refine ⟨v, vs, rfl, env, d, env1, r, r0, ea, fun σ1 st => ?_⟩
        refine ⟨env1, ds, env', st.rs, t0.mono Kp.refl (Sb.sub st.sb), ha, fun σ2 st2 => kq σ2 ⟨st2.rs, fun a z => st.sb a (st2.sb a z), fun bs hb => ?_⟩⟩
        have hb1 : ∀ i ∈ namesT t ++ namesTs ts, i ∈ bs := by unfold namesTs at hb; exact hb
        rw [st2.wi bs fun i hi => hb1 i (List.mem_append_right _ hi), st.wi bs fun i hi => hb1 i (List.mem_append_left _ hi)]
  | [], _ :: _, h => by unfold tgsOk at h; cases h
  | _ :: _, [], h => by unfold tgsOk at h; cases h
end
end
end SD

set_option Elab.async false
set_option linter.all false
set_option maxRecDepth 100000
set_option maxHeartbeats 4000000
namespace SD
open PySem PySem.Spec PyProof.Rows L2

/-! ### enumerate over a tuple -/
set_option maxHeartbeats 1000000 in
theorem meets_enum1B {v : Value} {o : Obj} {H : Heap → Prop} (B : Begins v o H) :
    Meets (Builtin.«enumerate.__new__» ⟨[.type "enumerate", v], []⟩) (fun _ R s => H s.heap ∧
      R (.ok (.ret (.ref (s.heap.push o).objs.size))) { s with heap := (s.heap.push o).push { cls := .type "enumerate", data := .fields #[.none, .bool false, .ref s.heap.objs.size, rawInt 0, .none, .none] } }) :=
  .of_wp fun prog w A R s hh => by
    obtain ⟨hp, gg, dr, tk, os⟩ := s
    obtain ⟨hB, hR⟩ := hh
    have hsub := sub_enumerate
    have begin1 : ∀ {A' : Around} {E : Value → Shared → Prop} {Q : Value → Shared → Prop}, Q (.ref hp.objs.size) ⟨hp.push o, gg, dr, tk, os⟩ → wpAny (model prog w) A' (pyIter v) Q E ⟨hp, gg, dr, tk, os⟩ :=
      fun q => B.iter prog w _ _ ⟨hp, gg, dr, tk, os⟩ _ hB q
    wp_walk using begin1
    refine wpAny_stack_any fun st => wpAny_pure ?_
    split
    · rename_i c _ _ _ _ _
      cases (c == Value.type "enumerate")
      · wp_walk using begin1
        exact ⟨_, rfl, hR⟩
      · wp_walk using begin1
        exact ⟨_, rfl, hR⟩
    · wp_walk using begin1
      exact ⟨_, rfl, hR⟩
theorem enum_begins1 {prog : Program} {w : World} {A : Around} {E : Value → Shared → Prop} {s : Shared} {v : Value} {o : Obj} {H : Heap → Prop} {Q : Value → Shared → Prop} (B : Begins v o H) (hB : H s.heap)
    (h : ∀ h', IsEnum h' (s.heap.objs.size + 1) s.heap.objs.size 0 .none → h'.get? s.heap.objs.size = some o → (∀ b u, s.heap.get? b = some u → h'.get? b = some u) → Q (.ref (s.heap.objs.size + 1)) { s with heap := h' }) :
    wpAny (model prog w) A (call (.type "enumerate") [v]) Q E s := by
  refine callType_new F.called_enumerate (by decide) (F.typeCall_enumerate_1 _) (F.newCall_enumerate_1 _) (fun obj => F.args_object_init_2 obj _) F.entry_enumerate_new (meets_enum1B B) ⟨hB, ?_⟩
  have hz : (s.heap.push o).objs.size = s.heap.objs.size + 1 := Heap.size_push ..
  show _ ∧ _
  rw [hz]
  have he : IsEnum ((s.heap.push o).push { cls := .type "enumerate", data := .fields #[.none, .bool false, .ref s.heap.objs.size, rawInt 0, .none, .none] }) (s.heap.objs.size + 1) s.heap.objs.size 0 .none := by
    have q := Heap.get?_push_size (s.heap.push o) (o := { cls := .type "enumerate", data := .fields #[.none, .bool false, .ref s.heap.objs.size, rawInt 0, .none, .none] }) rfl
    rw [hz] at q
    exact q
  exact ⟨⟨_, he, rfl⟩, h _ he (Heap.get?_push_of_some _ (Heap.get?_push_size _ B.free)) fun b u x => Heap.get?_push_of_some _ (Heap.get?_push_of_some _ x)⟩
/-- the tuple at a, its items in new pairs -/
def IteT (K : PySem.W.Frag) (a : Addr) : It :=
  ⟨fun i H => ∃ (xs : List V) (x : V), SqT K H a xs ∧ xs[i]? = some x, fun i H v H' => ∃ T x, v = .ref T ∧ H T = none ∧ H' = upd H T (.tup [.int (i : Nat), x]) ∧ ∀ xs, SqT K H a xs → xs[i]? = some x, fun i H => ∃ xs : List V, SqT K H a xs ∧ xs.length = i⟩
theorem turn_enumT {P : Program} {w : World} {K : PySem.W.Frag} {elts : List Expr} {kk : Nat} {tpos : Pos} (a e it : Addr) (hai : a ≠ it) (hae : e ≠ a) :
    Turn P w K (.Tuple elts kk tpos) (IteT K a) [e, it] e (fun i h => (∃ old, IsEnum h e it (0 + ((i : Nat) : Int)) old) ∧ h.IsTupleIter it a i ∧ e ≠ it) where
  mem := by simp
  obj := fun i h st b hb => by
    obtain ⟨⟨old, he⟩, ⟨o, ho, hc, hd⟩, _⟩ := st
    have e' : b = e ∨ b = it := by simpa using hb
    rcases e' with z | z
    · rw [z]; exact ⟨_, he, fun v q => nomatch q⟩
    · rw [z]; exact ⟨o, ho, fun v q => by rw [hd] at q; cases q⟩
  keep := fun i h h' st kp => by
    obtain ⟨⟨old, he⟩, hi, hne⟩ := st
    exact ⟨⟨old, kp e (by simp) _ he⟩, hi.at fun o q => kp it (by simp) o q, hne⟩
  item := by
    intro X hP hw hK hc i pins s σ H E I hf st hg
    subst hP hw hK
    obtain ⟨he, hit, hne⟩ := st
    obtain ⟨xs, x, hq, hx⟩ := hg
    obtain ⟨its, rv, p, hz⟩ := I.tuple hq
    have hl := rv.length
    have hlt : i < its.toArray.size := by
      have z : i < xs.length := (List.getElem?_eq_some_iff.mp hx).1
      simp only [List.size_toArray]; omega
    have D := Draws.tuple (prog := X.prog) (w := X.w) (A := X.A.in1) (I.ok.hd hc) it a hai its.toArray
    have WT := WalksT.enumFrom (A := X.A) 0 D e hne (by simp only [List.mem_cons, List.not_mem_nil, or_false, not_or]; exact ⟨hne, hae⟩) (by simp)
    refine WT.item i s _ E hlt ⟨he, hit, p⟩ fun T vals h' tk hP hT ht mid kp => ?_
    refine ⟨_, rfl, WT.go elts kk tpos i T { s with heap := h', toks := tk } _ E mid fun h'' st'' kp' => ?_⟩
    obtain ⟨tt, u, hu, rfl⟩ := hP
    obtain ⟨u', hu', ru⟩ := rv.get hx
    have eu : u = u' := by
      have z : its[i]? = some u := by simpa using hu
      rw [hu'] at z
      exact (Option.some.inj z).symm
    subst eu
    have hTw : T ∉ [e, it] := WT.apart i T h' mid
    have hT2 : h''.IsTuple T #[.int (0 + (i : Int)) tt, u] := ht.at fun o q => kp' T o hTw q
    have new : ObjOk X.prog X.w (upd H T (.tup [.int (i : Nat), x])) h'' T (.tup [.int (i : Nat), x]) :=
      ⟨by show 2 ≤ sizeLine; decide, [.int (0 + (i : Int)) tt, u], .cons ⟨tt, by rw [Int.zero_add]⟩ (.cons ru .nil), hT2⟩
    have I1 : Inv X pins σ (upd H T (.tup [.int (i : Nat), x])) { s with heap := h'', toks := tk } := I.turnedNew (ch := [e, it]) (fun b ob hb q => kp' b ob hb (kp b ob hb q)) hf hT new
    obtain ⟨he', hit', _⟩ := st''
    refine ⟨.ref T, _, I1, rfl, ⟨T, x, rfl, I.hok.fresh hT, rfl, fun ys hy => by rw [I.tuple_inj hy hq]; exact hx⟩, ⟨he', hit', hne⟩, fun b hb => ?_⟩
    rw [upd_ne (fun z => hTw (by rw [← z]; exact hb))]
    exact (hf b hb).1
  done := by
    intro X hP hw hK hc i pins s σ H E I hf st hg
    subst hP hw hK
    obtain ⟨⟨old, he⟩, hit, hne⟩ := st
    obtain ⟨xs, hq, hx⟩ := hg
    obtain ⟨its, rv, p, hz⟩ := I.tuple hq
    obtain ⟨f0, f1, f2, f3, f4, f5⟩ := hf it (by simp)
    have hl := rv.length
    have D := Draws.tuple (prog := X.prog) (w := X.w) (A := X.A.in1) (I.ok.hd hc) it a hai its.toArray
    have en : i = its.toArray.size := by simp only [List.size_toArray]; omega
    subst en
    exact wpAny_pyNext_enum_endD D he ⟨hit, p⟩ fun h' eb => ⟨rfl, I.turned (t' := s.toks) (fun b o hb q => eb b o hb q) f0 f1 f3 f4 f5⟩
  self := fun A i s Q E st h => let ⟨⟨_, he⟩, _⟩ := st; wpAny_pyIter_enum he h
def iEnumA (K : PySem.W.Frag) (ta : TA) : TI := fun σ H R => ta σ H fun vs H1 => ∃ a xs, vs = [.ref a] ∧ ((SqL K H1 a xs ∧ R (Ite K a) H1) ∨ (SqT K H1 a xs ∧ R (IteT K a) H1))
theorem pi_enumA {X : Cx} {e : Expr} {ta : TA} {p pos tpos : Pos} {elts : List Expr} {kk : Nat} (hg : Gl X "enumerate") (hm : X.mg "enumerate" = none) (ha : PA X [e] ta) (hs : starEach [e] X.env = [(false, eval e X.env)]) :
    PI X (.Tuple elts kk tpos) (.Call (.Name "enumerate" p) [e] [] pos) (iEnumA X.K ta) := by
  refine ⟨fun pins s σ H R I h => ?_⟩
  refine Call_ (ld_blt I hg hm boot_enumerate (PyProof.Rows.callWith_type1 (thn (ha.run pos pins s σ H _ I h) fun us s1 ⟨vs, H1, I1, r1, q1⟩ => ?_) hs rfl))
  obtain ⟨a, xs, ex, q⟩ := q1
  subst ex
  cases r1 with
  | cons r rr =>
    cases rr
    cases r
    have fresh2 : ∀ b ∈ [s1.heap.objs.size + 1, s1.heap.objs.size], FpOk X pins H1 b := fun b hb => by
      have e' : b = s1.heap.objs.size + 1 ∨ b = s1.heap.objs.size := by simpa using hb
      have hle : s1.heap.objs.size ≤ b := by omega
      exact I1.fpOk hle (I1.hok.fresh hle)
    rcases q with ⟨hq, q⟩ | ⟨hq, q⟩
    · obtain ⟨its, rv, p', hz⟩ := I1.list hq
      refine call_enumerate_list p'.isList fun h' he hit hsz hk => wpAny_pyIter_enum he ?_
      exact ⟨s1.heap.objs.size + 1, [s1.heap.objs.size + 1, s1.heap.objs.size], _, _, H1, rfl, I1.kept (t' := s1.toks) hk, turn_enum a (s1.heap.objs.size + 1) s1.heap.objs.size, ⟨⟨.none, he⟩, hit, Nat.succ_ne_self _⟩, fresh2, q⟩
    · obtain ⟨its, rv, p', hz⟩ := I1.tuple hq
      have al : a < s1.heap.objs.size := by obtain ⟨o, ho, _⟩ := id p'; exact Heap.lt_size ho
      refine enum_begins1 (begins_tuple a its.toArray) p' fun h' he hit hk => wpAny_pyIter_enum he ?_
      exact ⟨s1.heap.objs.size + 1, [s1.heap.objs.size + 1, s1.heap.objs.size], _, _, H1, rfl, I1.kept (t' := s1.toks) hk, turn_enumT a (s1.heap.objs.size + 1) s1.heap.objs.size (Nat.ne_of_lt al) (Nat.ne_of_gt (Nat.lt_succ_of_lt al)), ⟨⟨.none, he⟩, ⟨_, hit, rfl, rfl⟩, Nat.succ_ne_self _⟩, fresh2, q⟩
/-! ### what is walked, whatever it is -/
def iAny (K : PySem.W.Frag) (te : TE) : TI := fun σ H R => te σ H fun x H1 => (∃ a xs, x = .ref a ∧ SqL K H1 a xs ∧ R (Itl K a) H1) ∨ (∃ a xs, x = .ref a ∧ SqT K H1 a xs ∧ R (Itt K a) H1) ∨ (∃ z, x = .str z ∧ R (Its z) H1) ∨
  (∃ d o kvs, x = .ref d ∧ H1 d = some (.frz o (.dK kvs)) ∧ R (Itk d o kvs) H1) ∨ ∃ d o kvs, x = .ref d ∧ H1 d = some (.frz o (.dT kvs)) ∧ R (Itkt d o kvs) H1
theorem pi_any {X : Cx} {tg e : Expr} {te : TE} (he : PE X e te) : PI X tg e (iAny X.K te) := by
  refine ⟨fun pins s σ H R I h => ?_⟩
  refine thn (he.run pins s σ H _ I h) fun u s1 ⟨x, H1, I1, rx, q1⟩ => ?_
  have one : ∀ b ∈ [s1.heap.objs.size], FpOk X pins H1 b := fun b hb => by
    have z : b = s1.heap.objs.size := by simpa using hb
    subst z
    exact I1.fpOk (Nat.le_refl _) (I1.hok.fresh (Nat.le_refl _))
  rcases q1 with ⟨a, xs, rfl, hq, q⟩ | ⟨a, xs, rfl, hq, q⟩ | ⟨z, rfl, q⟩ | ⟨d, o, kvs, rfl, hd, q⟩ | ⟨d, o, kvs, rfl, hd, q⟩
  · cases rx
    obtain ⟨its, rv, p, hz⟩ := I1.list hq
    exact wpAny_pyIter_list p.isList ⟨_, [s1.heap.objs.size], _, _, H1, rfl, I1.kept (t' := s1.toks) fun b w z => Heap.get?_push_of_some _ z, turn_list a _, ⟨_, Heap.get?_push_size _ rfl, rfl, rfl⟩, one, q⟩
  · cases rx
    obtain ⟨its, rv, p, hz⟩ := I1.tuple hq
    exact wpAny_pyIter_tuple (show s1.heap.IsTuple a its.toArray from p) ⟨_, [s1.heap.objs.size], _, _, H1, rfl, I1.kept (t' := s1.toks) fun b w z => Heap.get?_push_of_some _ z, turn_tuple a _, ⟨_, Heap.get?_push_size _ rfl, rfl, rfl⟩, one, q⟩
  · obtain ⟨tk, rfl⟩ := rx
    cases ha : z.cps.all (· < 128)
    · exact wpAny_pyIter_wide ha (pi_one (tk := s1.toks) I1 _ (turn_str _ z tk "str_iterator" (.inr rfl)) ⟨_, Heap.get?_push_size _ rfl, rfl, rfl⟩ q)
    · exact wpAny_pyIter_ascii ha (pi_one (tk := s1.toks) I1 _ (turn_str _ z tk "str_ascii_iterator" (.inl rfl)) ⟨_, Heap.get?_push_size _ rfl, rfl, rfl⟩ q)
  · obtain rfl : u = Value.ref d := rx
    obtain ⟨hs, hgd, hx, es, ep, vs, hdt, hsz, kv, hm⟩ := I1.frzK hd
    refine iter_keys hs hgd hx hdt (pi_one (tk := s1.toks) I1 _ (turn_keys _ hdt) ⟨_, Heap.get?_push_size _ rfl, rfl, ?_⟩ q)
    rw [hsz] <;> rfl
  · obtain rfl : u = Value.ref d := rx
    obtain ⟨hs, hgd, hx, es, ep, hdt, hsz, ent⟩ := I1.frzT hd
    refine iter_keys hs hgd hx hdt (pi_one (tk := s1.toks) I1 _ (turn_keysT _ hdt) ⟨_, Heap.get?_push_size _ rfl, rfl, ?_⟩ q)
    rw [hsz] <;> rfl
/-! ### the items that are due, whatever stands beside them -/
structure Itm (m : Am) (H0 : Hp) (S0 : Addr → Prop) (J : It) (items : List D) : Prop where
  go : ∀ H2 i, Kp S0 H0 H2 → i < items.length → J.go i H2
  stop : ∀ H2, Kp S0 H0 H2 → J.stop items.length H2
  yld : ∀ H2 S2 i x H3, Kp S0 H0 H2 → Sb H0 S0 S2 → (∀ p, H2 p = none → ¬ S2 p) → (∀ a xs, S2 a → H2 a ≠ some (.tup xs)) → i < items.length → J.yld i H2 x H3 → ∃ d, items[i]? = some d ∧ New H2 H3 ∧ RD m.G m.wa H3 S2 d x
section
variable {m : Am} {X : Cx} {k : Nat} {t : Tb} {Ex : ExV → DEnv → Prop} {H : Hp} {S : Addr → Prop} {ds : List D} {vs : List V} {d : D} {v : V} {a : Addr}
theorem itm_list (e : H a = some (.lst vs)) (n : ¬ S a) (r : RDs m.G m.wa H S ds vs) : Itm m H S (Itl m.G.K a) ds where
  go := fun H2 i kp hi => by
    obtain ⟨v, hv, _⟩ := r.get (List.getElem?_eq_getElem hi)
    exact ⟨vs, v, SqL.of (kp _ _ e n noTbl_lst), hv⟩
  stop := fun H2 kp => ⟨vs, SqL.of (kp _ _ e n noTbl_lst), by rw [← r.length]; exact Nat.le_refl _⟩
  yld := fun H2 S2 i x H3 kp sb fr nt hi y => by
    obtain ⟨rfl, q⟩ := y
    obtain ⟨d, hd, rd⟩ := r.getV (q vs (SqL.of (kp _ _ e n noTbl_lst)))
    exact ⟨d, hd, fun _ _ z => z, rd.mono kp sb⟩
theorem itm_tup (e : ∀ H2, Kp S H H2 → SqT m.G.K H2 a vs) (r : RDs m.G m.wa H S ds vs) : Itm m H S (Itt m.G.K a) ds where
  go := fun H2 i kp hi => by
    obtain ⟨v, hv, _⟩ := r.get (List.getElem?_eq_getElem hi)
    exact ⟨vs, v, e H2 kp, hv⟩
  stop := fun H2 kp => ⟨vs, e H2 kp, by rw [← r.length]; exact Nat.le_refl _⟩
  yld := fun H2 S2 i x H3 kp sb fr nt hi y => by
    obtain ⟨rfl, q⟩ := y
    obtain ⟨d, hd, rd⟩ := r.getV (q vs (e _ kp))
    exact ⟨d, hd, fun _ _ z => z, rd.mono kp sb⟩
theorem itm_str (x : List Nat) : Itm m H S (Its ⟨x.toArray⟩) (x.map fun c => .str [c]) where
  go := fun H2 i kp hi => by simpa [Its] using hi
  stop := fun H2 kp => by simp [Its]
  yld := fun H2 S2 i y H3 kp sb fr nt hi q => by
    obtain ⟨rfl, c, hc, rfl⟩ := q
    have hc' : x[i]? = some c := by simpa using hc
    exact ⟨.str [c], by rw [List.getElem?_map, hc']; rfl, fun _ _ z => z, .str [c]⟩
theorem itm_range {lo : Int} {n : Nat} : Itm m H S (Itr lo n) ((List.range n).map fun (k : Nat) => .int (lo + (k : Int))) where
  go := fun H2 i kp hi => by simpa [Itr] using hi
  stop := fun H2 kp => by simp [Itr]
  yld := fun H2 S2 i y H3 kp sb fr nt hi q => by
    obtain ⟨rfl, rfl⟩ := q
    have hi' : i < n := by simpa using hi
    exact ⟨.int (lo + (i : Int)), by rw [List.getElem?_map, List.getElem?_range hi']; rfl, fun _ _ z => z, .int _⟩
theorem zip_get {α β : Type} : ∀ {as : List α} {bs : List β} {i : Nat} {a : α} {b : β}, (as.zip bs)[i]? = some (a, b) → as[i]? = some a ∧ bs[i]? = some b
  | [], _, _, _, _, h => by simp at h
  | _ :: _, [], _, _, _, h => by simp at h
  | a :: as, b :: bs, 0, _, _, h => by simp at h; simp [h]
  | a :: as, b :: bs, i + 1, _, _, h => by simpa using zip_get (as := as) (bs := bs) (i := i) (by simpa using h)
theorem keyRD (k : Key) : RD m.G m.wa H S (kD k) (kV k) := by
  cases k with
  | inl i => exact .int i
  | inr x => have h := RD.str (G := m.G) (wa := m.wa) (H := H) (S := S) x.cps.toList; simpa [kD, kV] using h
theorem keysRD : ∀ ks : List Key, RDs m.G m.wa H S (ks.map kD) (ks.map kV)
  | [] => .nil
  | k :: ks => .cons (keyRD k) (keysRD ks)
theorem itm_keys {o : Obj} {ks : List Key} (e : H a = some (.frz o (.dK (ks.zip vs)))) (n : ¬ S a) (hl : ks.length = vs.length) (r : RDs m.G m.wa H S ds vs) : Itm m H S (Itk a o (ks.zip vs)) (((ks.map kD).zip ds).map (·.1)) := by
  have l1 : (((ks.map kD).zip ds).map (·.1)).length = (ks.zip vs).length := by simp [r.length]
  have e1 : ((ks.map kD).zip ds).map (·.1) = ks.map kD := List.map_fst_zip (by rw [List.length_map, r.length, hl]; exact Nat.le_refl _)
  refine ⟨fun H2 i kp hi => ⟨kp _ _ e n noTbl_frz, by rw [← l1]; exact hi⟩, fun H2 kp => ⟨kp _ _ e n noTbl_frz, by rw [← l1]; exact Nat.le_refl _⟩, fun H2 S2 i y H3 kp sb fr nt hi q => ?_⟩
  obtain ⟨rfl, k, v, h1, rfl⟩ := q
  refine ⟨kD k, ?_, fun _ _ z => z, keyRD k⟩
  rw [e1, List.getElem?_map, (zip_get h1).1]
  rfl
theorem itm_keysT {o : Obj} {ks : List (List Key)} (e : H a = some (.frz o (.dT (ks.zip vs)))) (n : ¬ S a) (hl : ks.length = vs.length ∧ NE ks) (r : RDs m.G m.wa H S ds vs) : Itm m H S (Itkt a o (ks.zip vs)) (((ks.map kDs).zip ds).map (·.1)) := by
  have l1 : (((ks.map kDs).zip ds).map (·.1)).length = (ks.zip vs).length := by simp [r.length]
  have e1 : ((ks.map kDs).zip ds).map (·.1) = ks.map kDs := List.map_fst_zip (by rw [List.length_map, r.length, hl.1]; exact Nat.le_refl _)
  refine ⟨fun H2 i kp hi => ⟨kp _ _ e n noTbl_frz, by rw [← l1]; exact hi⟩, fun H2 kp => ⟨kp _ _ e n noTbl_frz, by rw [← l1]; exact Nat.le_refl _⟩, fun H2 S2 i y H3 kp sb fr nt hi q => ?_⟩
  obtain ⟨rfl, k, v, b, h1, rfl, h2⟩ := q
  refine ⟨kDs k, ?_, fun _ _ z => z, .tup (by rw [soft_keys (hl.2 k (List.mem_of_getElem? (zip_get h1).1))]; exact h2) (fun z => nt b _ z h2) (keysRD k)⟩
  rw [e1, List.getElem?_map, (zip_get h1).1]
  rfl
theorem itm_vals {o : Obj} {ks : List Key} (e : H a = some (.frz o (.dK (ks.zip vs)))) (n : ¬ S a) (hl : ks.length = vs.length) (r : RDs m.G m.wa H S ds vs) : Itm m H S (Itd a o (ks.zip vs)) (((ks.map kD).zip ds).map (·.2)) := by
  have l1 : (((ks.map kD).zip ds).map (·.2)).length = (ks.zip vs).length := by simp [r.length]
  have e1 : ((ks.map kD).zip ds).map (·.2) = ds := List.map_snd_zip (by rw [List.length_map, r.length, hl]; exact Nat.le_refl _)
  refine ⟨fun H2 i kp hi => ⟨kp _ _ e n noTbl_frz, by rw [← l1]; exact hi⟩, fun H2 kp => ⟨kp _ _ e n noTbl_frz, by rw [← l1]; exact Nat.le_refl _⟩, fun H2 S2 i y H3 kp sb fr nt hi q => ?_⟩
  obtain ⟨rfl, k, h1⟩ := q
  obtain ⟨d, hd, rd⟩ := r.getV (zip_get h1).2
  exact ⟨d, by rw [e1]; exact hd, fun _ _ z => z, rd.mono kp sb⟩
theorem itm_items {o : Obj} {ks : List Key} (e : H a = some (.frz o (.dK (ks.zip vs)))) (n : ¬ S a) (hl : ks.length = vs.length) (r : RDs m.G m.wa H S ds vs) : Itm m H S (Iti a o (ks.zip vs)) (((ks.map kD).zip ds).map fun p => .ktup [p.1, p.2]) := by
  have l1 : (((ks.map kD).zip ds).map fun p => D.ktup [p.1, p.2]).length = (ks.zip vs).length := by simp [r.length]
  refine ⟨fun H2 i kp hi => ⟨kp _ _ e n noTbl_frz, by rw [← l1]; exact hi⟩, fun H2 kp => ⟨kp _ _ e n noTbl_frz, by rw [← l1]; exact Nat.le_refl _⟩, fun H2 S2 i y H3 kp sb fr nt hi q => ?_⟩
  obtain ⟨T, k, v, h1, rfl, hT, rfl⟩ := q
  obtain ⟨d, hd, rd⟩ := r.getV (zip_get h1).2
  refine ⟨.ktup [kD k, d], ?_, upd_ext hT, .stup upd_same (fr T hT) (.cons (keyRD k) (.cons ((rd.mono kp sb).mono (Kp.upd hT) Sb.refl) .nil))⟩
  have z : ((ks.map kD).zip ds)[i]? = some (kD k, d) := by
    rw [List.getElem?_zip_eq_some]
    exact ⟨by rw [List.getElem?_map, (zip_get h1).1]; rfl, hd⟩
  rw [List.getElem?_map, z]
  rfl
theorem itm_enum (e : H a = some (.lst vs)) (n : ¬ S a) (r : RDs m.G m.wa H S ds vs) : Itm m H S (Ite m.G.K a) (ds.zipIdx.map fun p => .ktup [.int p.2, p.1]) where
  go := fun H2 i kp hi => by
    obtain ⟨v, hv, _⟩ := r.get (List.getElem?_eq_getElem (show i < ds.length by simpa using hi))
    exact ⟨vs, v, SqL.of (kp _ _ e n noTbl_lst), hv⟩
  stop := fun H2 kp => ⟨vs, SqL.of (kp _ _ e n noTbl_lst), by simp [r.length]⟩
  yld := fun H2 S2 i x H3 kp sb fr nt hi y => by
    obtain ⟨T, x, rfl, hT, rfl, q⟩ := y
    obtain ⟨d, hd, rd⟩ := r.getV (q vs (SqL.of (kp _ _ e n noTbl_lst)))
    refine ⟨.ktup [.int i, d], ?_, upd_ext hT, .stup upd_same (fr T hT) (.cons (.int _) (.cons ((rd.mono kp sb).mono (Kp.upd hT) Sb.refl) .nil))⟩
    rw [List.getElem?_map, List.getElem?_zipIdx, hd]
    simp
theorem itm_enumT (e : ∀ H2, Kp S H H2 → SqT m.G.K H2 a vs) (r : RDs m.G m.wa H S ds vs) : Itm m H S (IteT m.G.K a) (ds.zipIdx.map fun p => .ktup [.int p.2, p.1]) where
  go := fun H2 i kp hi => by
    obtain ⟨v, hv, _⟩ := r.get (List.getElem?_eq_getElem (show i < ds.length by simpa using hi))
    exact ⟨vs, v, e H2 kp, hv⟩
  stop := fun H2 kp => ⟨vs, e H2 kp, by simp [r.length]⟩
  yld := fun H2 S2 i x H3 kp sb fr nt hi y => by
    obtain ⟨T, x, rfl, hT, rfl, q⟩ := y
    obtain ⟨d, hd, rd⟩ := r.getV (q vs (e _ kp))
    refine ⟨.ktup [.int i, d], ?_, upd_ext hT, .stup upd_same (fr T hT) (.cons (.int _) (.cons ((rd.mono kp sb).mono (Kp.upd hT) Sb.refl) .nil))⟩
    rw [List.getElem?_map, List.getElem?_zipIdx, hd]
    simp
variable {es : List D} {us : List V} {b : Addr}
theorem zip_end {vs us : List V} (r : RDs m.G m.wa H S ds vs) (r2 : RDs m.G m.wa H S es us) : vs.length ≤ ((ds.zip es).map fun p => D.ktup [p.1, p.2]).length ∨ us.length ≤ ((ds.zip es).map fun p => D.ktup [p.1, p.2]).length := by
  simp only [List.length_map, List.length_zip, r.length, r2.length]
  omega
theorem zip_at {i : Nat} {d e : D} (h1 : ds[i]? = some d) (h2 : es[i]? = some e) : ((ds.zip es).map fun p => D.ktup [p.1, p.2])[i]? = some (.ktup [d, e]) := by
  have z : (ds.zip es)[i]? = some (d, e) := by rw [List.getElem?_zip_eq_some]; exact ⟨h1, h2⟩
  rw [List.getElem?_map, z]
  rfl
theorem itm_zip (e : H a = some (.lst vs)) (n : ¬ S a) (r : RDs m.G m.wa H S ds vs) (e2 : H b = some (.lst us)) (n2 : ¬ S b) (r2 : RDs m.G m.wa H S es us) : Itm m H S (Itz m.G.K a b) ((ds.zip es).map fun p => .ktup [p.1, p.2]) where
  go := fun H2 i kp hi => by
    have hi' : i < ds.length ∧ i < es.length := by simp only [List.length_map, List.length_zip] at hi; omega
    obtain ⟨v, hv, _⟩ := r.get (List.getElem?_eq_getElem hi'.1)
    obtain ⟨u, hu, _⟩ := r2.get (List.getElem?_eq_getElem hi'.2)
    exact ⟨vs, us, v, u, SqL.of (kp _ _ e n noTbl_lst), SqL.of (kp _ _ e2 n2 noTbl_lst), hv, hu⟩
  stop := fun H2 kp => ⟨vs, us, SqL.of (kp _ _ e n noTbl_lst), SqL.of (kp _ _ e2 n2 noTbl_lst), zip_end r r2⟩
  yld := fun H2 S2 i x H3 kp sb fr nt hi y => by
    obtain ⟨T, x, y, rfl, hT, rfl, q, q2⟩ := y
    obtain ⟨d, hd, rd⟩ := r.getV (q vs (SqL.of (kp _ _ e n noTbl_lst)))
    obtain ⟨d2, hd2, rd2⟩ := r2.getV (q2 us (SqL.of (kp _ _ e2 n2 noTbl_lst)))
    exact ⟨_, zip_at hd hd2, upd_ext hT, .stup upd_same (fr T hT) (.cons ((rd.mono kp sb).mono (Kp.upd hT) Sb.refl) (.cons ((rd2.mono kp sb).mono (Kp.upd hT) Sb.refl) .nil))⟩
theorem itm_zipT (e : ∀ H2, Kp S H H2 → SqT m.G.K H2 a vs) (r : RDs m.G m.wa H S ds vs) (e2 : ∀ H2, Kp S H H2 → SqT m.G.K H2 b us) (r2 : RDs m.G m.wa H S es us) : Itm m H S (RZ.ItzT m.G.K a b) ((ds.zip es).map fun p => .ktup [p.1, p.2]) where
  go := fun H2 i kp hi => by
    have hi' : i < ds.length ∧ i < es.length := by simp only [List.length_map, List.length_zip] at hi; omega
    obtain ⟨v, hv, _⟩ := r.get (List.getElem?_eq_getElem hi'.1)
    obtain ⟨u, hu, _⟩ := r2.get (List.getElem?_eq_getElem hi'.2)
    exact ⟨vs, us, v, u, e H2 kp, e2 H2 kp, hv, hu⟩
  stop := fun H2 kp => ⟨vs, us, e H2 kp, e2 H2 kp, zip_end r r2⟩
  yld := fun H2 S2 i x H3 kp sb fr nt hi y => by
    obtain ⟨T, x, y, rfl, hT, rfl, q, q2⟩ := y
    obtain ⟨d, hd, rd⟩ := r.getV (q vs (e _ kp))
    obtain ⟨d2, hd2, rd2⟩ := r2.getV (q2 us (e2 _ kp))
    exact ⟨_, zip_at hd hd2, upd_ext hT, .stup upd_same (fr T hT) (.cons ((rd.mono kp sb).mono (Kp.upd hT) Sb.refl) (.cons ((rd2.mono kp sb).mono (Kp.upd hT) Sb.refl) .nil))⟩
end
end SD

set_option Elab.async false
set_option linter.all false
set_option maxRecDepth 100000
set_option maxHeartbeats 4000000
namespace SD
open PySem PySem.Spec PyProof.Rows L2

/-! ### a place that a block fills -/
def Am.plus (m : Am) (D : Addr) : Am := { m with So := fun a => m.So a ∨ a = D }
section
variable {m : Am} {X : Cx} {k : Nat} {t : Tb} {Ex : ExV → DEnv → Prop} {σ σ' : L2.St} {H H' H1 H2 : Hp} {S S' : Addr → Prop} {env env1 env' : DEnv} {ds : List D} {vs : List V} {Qd : D → Prop} {Q : VK} {d : D} {v : V} {e : Expr} {es : List Expr} {ir : IE} {irs : List IE} {pos : Pos} {p a : Addr} {o u : HO}
theorem GX.plus (g : GX m X k) (D : Addr) : GX (m.plus D) X k := ⟨g.hP, g.hw, g.hK, g.hmg, g.hb, g.nd, g.calm, g.room⟩
theorem RX.move {G : Wd} {wa : Addr} {a : Addr} (n : H a = H' a) (k : Kp S H H') (s : Sb H S S') (r : RX G wa H S d a) : RX G wa H' S' d a := by
  cases r with
  | lst e r => exact .lst (by rw [← n]; exact e) (r.mono k s)
  | dK e l r => exact .dK (by rw [← n]; exact e) l (r.mono k s)
  | dT e l r => exact .dT (by rw [← n]; exact e) l (r.mono k s)
/-- a new object, from now on others' own -/
theorem RS.plus (r : RS m σ H env) (hp : H p = none) (nt : NoTbl o) (nu : NoTE o) : RS (m.plus p) σ (upd H p o) env := by
  have r1 := r.new (o := o) hp
  have sb : Sb H (Sx m.So σ env) (Sx (m.plus p).So σ env) := fun a h => by
    rcases h with (h | rfl) | h
    · exact .inl (.inl h)
    · exact .inr hp
    · exact .inl (.inr h)
  refine ⟨r1.len, fun i d e => ?_, fun i d e => ?_, r1.ap, ⟨fun hw => .inl (r1.so.1 hw), fun a h => ?_⟩, r1.we, r1.ta, r1.fr, r1.nn⟩
  · obtain ⟨v, h1, h2⟩ := r.pl i d e
    exact ⟨v, h1, h2.mono (Kp.upd hp) sb⟩
  · obtain ⟨b, h1, h2, h3, h4⟩ := r.ow i d e
    obtain ⟨w, e1, _⟩ := h2.there
    have hb : b ≠ p := fun z => by rw [z, hp] at e1; cases e1
    exact ⟨b, h1, h2.move (by rw [upd_ne hb]) (Kp.upd hp) sb, fun z => z.elim h3 hb, h4⟩
  · rcases h with h | rfl
    · exact r1.so.2 a h
    · exact ⟨o, upd_same, nt, nu⟩
theorem RS.unplus (r : RS (m.plus p) σ H env) (hw : m.G.hw = true → m.So m.wa) : RS m σ H env := by
  have sb : ∀ a, Sx m.So σ env a → Sx (m.plus p).So σ env a := fun a h => h.elim (fun z => .inl (.inl z)) .inr
  refine ⟨r.len, fun i d e => ?_, fun i d e => ?_, r.ap, ⟨hw, fun a h => r.so.2 a (.inl h)⟩, r.we, r.ta, r.fr, r.nn⟩
  · obtain ⟨v, h1, h2⟩ := r.pl i d e
    have h3 : RA m H (Sx (m.plus p).So σ env) d v := h2
    exact ⟨v, h1, h3.mono Kp.refl (Sb.sub sb)⟩
  · obtain ⟨b, h1, h2, h3, h4⟩ := r.ow i d e
    exact ⟨b, h1, h2.move rfl Kp.refl (Sb.sub sb), fun z => h3 (.inl z), h4⟩
theorem St1.unplus (s : St1 (m.plus p) σ (upd H p o) env H' env') (r : RS m σ H env) (hp : H p = none) : St1 m σ H env H' env' := by
  refine ⟨s.rs.unplus r.so.1, fun a u e n nt => ?_, fun a h => ?_, fun a h => ?_, fun a u h n e => s.ks a u (.inl h) n (upd_ext hp _ _ e)⟩
  · have hap : a ≠ p := ne_of_none e hp
    exact s.kp a u (upd_ext hp _ _ e) (fun z => z.elim (fun q => q.elim (fun w => n (.inl w)) hap) fun q => n (.inr q)) nt
  · have h2 : Sx (m.plus p).So σ env' a := h.elim (fun z => .inl (.inl z)) .inr
    rcases s.sb a h2 with (q | q) | q
    · exact .inl q
    · subst q
      rcases h with h | ⟨i, d, h3, h4⟩
      · exact .inl h
      · obtain ⟨b, h5, _, h6, _⟩ := s.rs.ow i d h3
        rw [h4] at h5
        cases h5
        exact absurd (.inr rfl) h6
    · exact .inr q
  · have z := s.nn a h
    by_cases q : a = p
    · rw [q]; exact hp
    · rw [upd_ne q] at z; exact z
/-- a turn of a block, and the filling behind it -/
theorem St1.turn {Hi H5 H6 : Hp} {en en5 : DEnv} {D : Addr} (su : St1 m σ H1 env1 Hi en) (hD : H1 D = none) (r1 : RS m σ H1 env1) (z : St1 (m.plus D) σ Hi en H5 en5) (r5 : RS (m.plus D) σ H6 en5) (h6 : ∀ a, a ≠ D → H6 a = H5 a) (n6 : H6 D ≠ none) : St1 m σ H1 env1 H6 en5 := by
  refine ⟨r5.unplus r1.so.1, fun a u e n nt => ?_, fun a h => ?_, fun a h => ?_, fun a u h n e => ?_⟩
  · have hap : a ≠ D := ne_of_none e hD
    rw [h6 a hap]
    refine z.kp a u (su.kp a u e n nt) (fun q => ?_) nt
    rcases q with (q | q) | q
    · exact n (.inl q)
    · exact hap q
    · exact n (su.sb a (.inr q))
  · have h2 : Sx (m.plus D).So σ en5 a := h.elim (fun z => .inl (.inl z)) .inr
    rcases z.sb a h2 with (q | q) | q
    · exact .inl q
    · subst q
      rcases h with h | ⟨i, d, h3, h4⟩
      · exact .inl h
      · obtain ⟨b, h5, _, h6, _⟩ := r5.ow i d h3
        rw [h4] at h5
        cases h5
        exact absurd (.inr rfl) h6
    · exact su.sb a (.inr q)
  · by_cases q : a = D
    · rw [q] at h; exact absurd h n6
    · rw [h6 a q] at h
      exact su.nn a (z.nn a h)
  · have hap : a ≠ D := ne_of_none e hD
    rw [h6 a hap]
    exact z.ks a u (.inl h) n (su.ks a u h n e)
/-- what is others' own may be filled -/
theorem RS.soUpd (r : RS m σ H env) (ha : m.So a) (hw : m.G.hw = true → a ≠ m.wa) (e : H a = some u) (n0 : m.H0 a = none) (nk : (∃ xs, u = .lst xs) ∨ ∃ kvs, u = .dK kvs) (nt : NoTbl o) (nu : NoTE o) : RS m σ (upd H a o) env := by
  have kp : Kp (Sx m.So σ env) H (upd H a o) := fun c w e n _ => by rw [upd_ne (fun z => n (by rw [z]; exact .inl ha))]; exact e
  refine ⟨r.len, fun i d q => ?_, fun i d q => ?_, r.ap, ⟨r.so.1, fun c h => ?_⟩, ?_, ?_, fun c w q n t => ?_, fun c q => ?_⟩
  · obtain ⟨v, h1, h2⟩ := r.pl i d q
    exact ⟨v, h1, h2.mono kp Sb.refl⟩
  · obtain ⟨b, h1, h2, h3, h4⟩ := r.ow i d q
    have hb : b ≠ a := fun z => h3 (by rw [z]; exact ha)
    exact ⟨b, h1, h2.move (by rw [upd_ne hb]) kp Sb.refl, h3, h4⟩
  · by_cases hc : c = a
    · rw [hc]; exact ⟨o, upd_same, nt, nu⟩
    · rw [upd_ne hc]; exact r.so.2 c h
  · intro hw2
    obtain ⟨x, y, z, q, w⟩ := r.we hw2
    exact ⟨x, y, z, by rw [upd_ne (Ne.symm (hw hw2))]; exact q, w⟩
  · intro p hp
    obtain ⟨ps, e1, q⟩ := r.ta p hp
    obtain ⟨w, e0, ntw, _⟩ := r.so.2 a ha
    have hpa : p.1 ≠ a := fun z => by
      rw [← z, e1] at e0
      cases e0
      exact ntw ps rfl
    refine ⟨ps, by rw [upd_ne hpa]; exact e1, q.1, fun pos cv hc => ?_⟩
    obtain ⟨c, e2, e3⟩ := q.2 pos cv hc
    refine ⟨c, e2, ?_⟩
    have hca : c ≠ a := fun z => by
      rw [z, e] at e3
      rcases nk with ⟨xs, rfl⟩ | ⟨xs, rfl⟩ <;> cases e3
    rw [upd_ne hca]; exact e3
  · have hc : c ≠ a := fun z => by rw [z, n0] at q; cases q
    rw [upd_ne hc]; exact r.fr c w q n t
  · by_cases hc : c = a
    · rw [hc]; exact n0
    · rw [upd_ne hc] at q; exact r.nn c q

/-! ### readings of what is walked, of tests -/
def RdI (m : Am) (wp : DEnv → (List D → DEnv → Prop) → Prop) : TI := fun σ H R => ∃ (env : DEnv) (Qd : List D → DEnv → Prop), RS m σ H env ∧ wp env Qd ∧ ∀ items env' H' J, St1 m σ H env H' env' → Itm m H' (Sx m.So σ env') J items → Qd items env' → R J H'
def wpI (t : Tb) (Ex : ExV → DEnv → Prop) (k : IK) (src : List IE) : DEnv → (List D → DEnv → Prop) → Prop := fun env Q => wpL t Ex src env fun ds env1 => ∃ items, iterW k ds = some items ∧ Q items env1
def RdC (m : Am) (wp : DEnv → (Bool → DEnv → Prop) → Prop) : TT := fun σ H Q => ∃ (env : DEnv) (Qd : Bool → DEnv → Prop), RS m σ H env ∧ wp env Qd ∧ ∀ b env' H', St1 m σ H env H' env' → Qd b env' → Q b H'
theorem PTs.weak {ifs : List Expr} {q q' : TT} (h : PTs X ifs q) (w : ∀ σ H Q, q' σ H Q → q σ H Q) : PTs X ifs q' := ⟨fun pins s σ H Q I z => h.run pins s σ H Q I (w σ H Q z)⟩
theorem pts_cs0 : PTs X [] (RdC m (wpCs t Ex [])) := PTs.weak pts_nil fun σ H Q ⟨env, Qd, r, w, kq⟩ => kq true env H (St1.refl r) w
theorem pts_cs1 {c : Expr} {ic : IE} (h : DT m X t Ex ic c) : PTs X [c] (RdC m (wpCs t Ex [ic])) := PTs.weak (pts_one h) fun σ H Q ⟨env, Qd, r, w, kq⟩ => by
  refine ⟨env, Qd, r, ?_, kq⟩
  have w' : wpE t Ex ic env fun d env' => ∃ tt, dTruth d = some tt ∧ if tt = true then Qd true env' else Qd false env' := w
  have e : (fun (d : D) (env' : DEnv) => ∃ b, dTruth d = some b ∧ Qd b env') = fun d env' => ∃ tt, dTruth d = some tt ∧ if tt = true then Qd true env' else Qd false env' := by
    funext d env'
    apply propext
    constructor
    · rintro ⟨b, h, q⟩; exact ⟨b, h, by cases b <;> exact q⟩
    · rintro ⟨b, h, q⟩; exact ⟨b, h, by cases b <;> exact q⟩
  rw [e]
  exact w'
theorem PE.any {α : Type} {q : α → TE} (h : ∀ a, PE X e (q a)) : PE X e fun σ H Q => ∃ a, q a σ H Q := ⟨fun pins s σ H Q I ⟨a, z⟩ => (h a).run pins s σ H Q I z⟩
theorem PG.any {α : Type} {tg : Expr} {q : α → TG} (h : ∀ a, PG X tg (q a)) : PG X tg fun v σ H Q => ∃ a, q a v σ H Q := ⟨fun pins s σ H v u Q I r ⟨a, z⟩ => (h a).run pins s σ H v u Q I r z⟩
theorem PTs.any {α : Type} {ifs : List Expr} {q : α → TT} (h : ∀ a, PTs X ifs (q a)) : PTs X ifs fun σ H Q => ∃ a, q a σ H Q := ⟨fun pins s σ H Q I ⟨a, z⟩ => (h a).run pins s σ H Q I z⟩
/-- what a block's parts keep: for every place that the block fills -/
abbrev Blk (m : Am) (X : Cx) (scope : Scope) (P : Am → Cx → Prop) : Prop := ∀ (D : Addr) (s : Shared) (H : Hp) (C : Addr) (cl : List (Str × Addr)) (fp : List Addr), P (m.plus D) (X.blk s H scope (compEnvC scope cl C X.env) fp)
theorem drop_cons {items : List D} {i : Nat} (h : i < items.length) : items.drop i = items[i] :: items.drop (i + 1) := List.drop_eq_getElem_cons h
/-- a new list of the reader's own -/
def RdNL (m : Am) (wp : DEnv → (D → DEnv → Prop) → Prop) : TE := fun σ H Q => ∃ (env : DEnv) (Qd : D → DEnv → Prop), RS m σ H env ∧ wp env Qd ∧
  ∀ l xs p env' H', St1 m σ H env H' env' → RS (m.plus p) σ H' env' → H p = none → H' p = some (.lst xs) → RDs m.G m.wa H' (Sx (m.plus p).So σ env') l xs → Qd (.lst l) env' → Q (.ref p) H'
theorem St1.fresh (s : St1 m σ H env H' env') (r : RS m σ H env) (hp : H p = none) : ¬ Sx m.So σ env' p := fun z => r.free hp (s.sb p z)
theorem RdNL.of {wp : DEnv → (D → DEnv → Prop) → Prop} (h : RdE m wp σ H Q) : RdNL m wp σ H Q := by
  obtain ⟨env, Qd, r, w, kq⟩ := h
  exact ⟨env, Qd, r, w, fun l xs p env' H' s rp hp e rs q => kq _ _ env' H' s (.inl (.lst e (s.fresh r hp) (rs.mono Kp.refl (Sb.sub fun a z => z.elim (fun q => .inl (.inl q)) .inr)))) q⟩
/-- [e for T in .. if ..] -/
def tgC (m : Am) (T : IT) : TG := fun v σ H Q => ∃ D : Addr, gT (m.plus D) T v σ H Q
def ttC (m : Am) (t : Tb) (cs : List IE) : TT := fun σ H Q => ∃ D : Addr, RdC (m.plus D) (wpCs t noEx cs) σ H Q
def teC (m : Am) (t : Tb) (ex : IE) : TE := fun σ H Q => ∃ D : Addr, RdE (m.plus D) (wpE t noEx ex) σ H Q
theorem comp_read {ik : IK} {src cs : List IE} {ex : IE} {T : IT} {bs : List Nat} (hns : ∀ i ∈ namesT T, i ∈ bs) (h : RdNL m (wpE t Ex (.comp bs T ik src cs ex)) σ H Q) : tLc (RdI m (wpI t Ex ik src)) (tgC m T) (ttC m t cs) (teC m t ex) bs σ H Q := by
  obtain ⟨env, Qd, r, w, kq⟩ := h
  refine ⟨env, _, r, w, fun items env1 H1 J s1 it ⟨hn, q⟩ D hD => ?_⟩
  have rP := s1.rs.plus (o := .lst []) hD noTbl_lst ⟨fun _ z => (nomatch z), fun _ z => (nomatch z)⟩
  have hDw : m.G.hw = true → D ≠ m.wa := fun hw z => by
    obtain ⟨x, e, _⟩ := s1.rs.so.2 _ (s1.rs.so.1 hw)
    rw [← z, hD] at e
    cases e
  refine ⟨fun i mm H => mm = items.length - i ∧ i ≤ items.length ∧ ∃ acc en accV, RS (m.plus D) σ H en ∧ St1 m σ H1 env1 H en ∧ noOwn en bs = true ∧ H D = some (.lst accV) ∧ RDs m.G m.wa H (Sx (m.plus D).So σ en) acc accV ∧ compL _ _ (items.drop i) acc en,
    ⟨items.length, rfl, Nat.zero_le _, [], env1, [], rP, St1.new s1.rs hD, hn, upd_same, .nil, q⟩, ?_⟩
  rintro i mm Hi ⟨rfl, hle, acc, en, accV, rs, su, hno, hDi, ra, cl⟩
  have nD : ¬ Sx m.So σ en D := fun z => s1.rs.free hD (su.sb D z)
  by_cases hlt : i < items.length
  · refine .inr ⟨it.go Hi i su.kp hlt, fun H' => items.length - (i + 1) = items.length - (i + 1) ∧ i + 1 ≤ items.length ∧ ∃ acc en accV, RS (m.plus D) σ H' en ∧ St1 m σ H1 env1 H' en ∧ noOwn en bs = true ∧ H' D = some (.lst accV) ∧ RDs m.G m.wa H' (Sx (m.plus D).So σ en) acc accV ∧ compL _ _ (items.drop (i + 1)) acc en,
      fun H' z => ⟨items.length - (i + 1), by omega, z⟩, fun x H' y => ?_⟩
    have sb2 : Sb H1 (Sx m.So σ env1) (Sx (m.plus D).So σ en) := fun a z => by
      rcases z with (z | rfl) | z
      · exact .inl (.inl z)
      · exact .inr hD
      · exact .inl (su.sb a (.inr z))
    obtain ⟨d, hd, nw, rd⟩ := it.yld Hi _ i x H' su.kp sb2 (fun p hp => rs.free hp) rs.notup hlt y
    rw [drop_cons hlt] at cl
    have ed : items[i] = d := by rw [List.getElem?_eq_getElem hlt] at hd; exact Option.some.inj hd
    rw [ed] at cl
    obtain ⟨en1, ha, wc⟩ := cl
    have sH : St1 (m.plus D) σ Hi en H' en := nw.st1 rs
    obtain ⟨rw_, subw⟩ := sH.rs.wipe bs
    refine ⟨D, wipeE en bs, d, en1, rw_, rd.mono Kp.refl (Sb.sub subw), ha, fun σ2 st2 => ⟨st2.wi bs hns |>.trans (wipe_eq (by rw [wipe_length]) fun j hj => wipe_get hj), D, en1, _, st2.rs, wc, fun b en2 H3 s3 q => ?_⟩⟩
    have hw2 : L2.wipe σ2 bs = L2.wipe σ bs := st2.wi bs hns |>.trans (wipe_eq (by rw [wipe_length]) fun j hj => wipe_get hj)
    have sub1 : ∀ a, Sx (m.plus D).So σ2 en1 a → Sx (m.plus D).So σ en a := fun a z => subw a (st2.sb a z)
    -- behind the turn
    have back : ∀ {H5 : Hp} {en3 : DEnv}, St1 (m.plus D) σ2 H' en1 H5 en3 → noOwn en3 bs = true → St1 (m.plus D) σ Hi en H5 (backE en en3 bs) ∧ H5 D = some (.lst accV) ∧ noOwn (backE en en3 bs) bs = true ∧ RDs m.G m.wa H5 (Sx (m.plus D).So σ (backE en en3 bs)) acc accV := fun {H5 en3} s5 hn3 => by
      have z := RS.back sH.rs s5.rs hw2 hno hn3 (s5.kp.mono sub1) (fun a z => sub1 a (s5.sb a z)) s5.nn s5.ks
      have z2 := sH.trans z
      refine ⟨z2, z2.ks D _ (.inr rfl) hDw hDi, List.all_eq_true.mpr fun j hj => ?_, ra.mono z2.kp (Sb.sub z2.sb)⟩
      rw [back_in (by rw [s5.rs.len, (wipe_inv hw2).1, rs.len]) hj]
      exact List.all_eq_true.mp hno j hj
    cases b with
    | false =>
      obtain ⟨hn2, hsz, cl2⟩ := q
      obtain ⟨b1, b2, b3, b4⟩ := back s3 hn2
      rw [List.append_nil] at cl2
      exact ⟨rfl, hlt, acc, _, accV, b1.rs, su.turn hD s1.rs b1 b1.rs (fun _ _ => rfl) (by rw [b2]; exact fun z => nomatch z), b3, b2, b4, cl2⟩
    | true =>
      refine ⟨D, en2, _, s3.rs, q, fun yd yv en3 H4 s4 ry ⟨hn3, hc, hsz, cl2⟩ => ?_⟩
      have s34 := s3.trans s4
      obtain ⟨b1, b2, b3, b4⟩ := back s34 hn3
      have ry' : RD m.G m.wa H4 (Sx (m.plus D).So σ2 en3) yd yv := by
        rcases ry with z | z
        · exact z
        · have c := m.clo z
          rw [hc] at c
          cases c
      have ry2 : RD m.G m.wa H4 (Sx (m.plus D).So σ (backE en en3 bs)) yd yv := ry'.mono Kp.refl (Sb.sub fun a z => by
        rcases z with z | ⟨j, e0, h1, h2⟩
        · exact .inl z
        · have hj : j ∉ bs := fun hj => noOwn_at b3 hj h1
          rw [back_get hj] at h1
          exact .inr ⟨j, e0, h1, by rw [(wipe_inv hw2).2 j hj]; exact h2⟩)
      have hla : accV.length < sizeLine := by
        rw [List.length_append] at hsz
        have z := b4.length
        rw [sizeLine_eq]
        simp at hsz
        omega
      have nH0 : m.H0 D = none := s1.rs.nn D hD
      have r5 := b1.rs.soUpd (a := D) (o := .lst (accV ++ [yv])) (.inr rfl) hDw b2 nH0 (.inl ⟨_, rfl⟩) noTbl_lst ⟨fun _ z => (nomatch z), fun _ z => (nomatch z)⟩
      have kp5 : Kp (Sx (m.plus D).So σ (backE en en3 bs)) H4 (upd H4 D (.lst (accV ++ [yv]))) := fun c w e n _ => by rw [upd_ne (fun z => n (by rw [z]; exact .inl (.inr rfl)))]; exact e
      exact ⟨accV, b2, hla, rfl, hlt, acc ++ [yd], backE en en3 bs, accV ++ [yv], r5, su.turn hD s1.rs b1 r5 (fun a h => upd_ne h) (by rw [upd_same]; exact fun z => nomatch z), b3, upd_same, (b4.append (RDs.one ry2)).mono kp5 Sb.refl, cl2⟩
  · have ei : i = items.length := by omega
    subst ei
    rw [List.drop_length] at cl
    refine .inl ⟨it.stop Hi su.kp, ?_⟩
    refine kq acc accV D en Hi (s1.trans su) rs (s1.nn D hD) hDi ra cl
theorem de_comp {ik : IK} {src cs : List IE} {ex : IE} {T : IT} {elt tg iter : Expr} {ifs : List Expr} {scope : Scope} {own : List (Str × Nat)} (g : GX m X k) (hi : PI X tg iter (RdI m (wpI t Ex ik src))) (ok : BlkOk X.N X.env.scope scope own) (hns : ∀ i ∈ namesT T, i ∈ own.map (·.2))
    (hg : Blk m X scope fun m X => PG X tg (gT m T)) (ht : Blk m X scope fun m X => PTs X ifs (RdC m (wpCs t noEx cs))) (he : Blk m X scope fun m X => DE m X t noEx ex elt) (hs : ∀ x, foldedSetIterable iter X.env x = pure x) :
    PE X (.ListComp elt [⟨tg, iter, ifs, 0⟩] scope pos) (RdNL m (wpE t Ex (.comp (own.map (·.2)) T ik src cs ex))) :=
  PE.weak (pe_lc (pos := pos) g.calm g.nd hi ok (fun s H C cl fp => PG.any fun D => hg D s H C cl fp) (fun s H C cl fp => PTs.any fun D => ht D s H C cl fp) (fun s H C cl fp => PE.any fun D => he D s H C cl fp) hs) fun σ H Q h => comp_read hns h
/-- name = [..] on one line -/
theorem PS.weak {st : Stmt} {q q' : TS} (h : PS X st q) (w : ∀ E σ H, q' E σ H → q E σ H) : PS X st q' := ⟨fun pins s σ H E I z => h.run pins s σ H E I (w E σ H z)⟩
theorem ds_comp {i : Nat} {y : Str} {py spos : Pos} {ik : IK} {src cs : List IE} {ex : IE} {T : IT} {elt tg iter : Expr} {ifs : List Expr} {scope : Scope} {own : List (Str × Nat)} (g : GX m X k) (hy : X.N[i]? = some y) (hyl : X.env.scope.names.lookup y = some .local) (hsw : swapsWith (.ListComp elt [⟨tg, iter, ifs, 0⟩] scope pos) (some (.Name y py)) spos.line X.env = pure true)
    (hi : PI X tg iter (RdI m (wpI t Ex ik src))) (ok : BlkOk X.N X.env.scope scope own) (hns : ∀ i ∈ namesT T, i ∈ own.map (·.2))
    (hg : Blk m X scope fun m X => PG X tg (gT m T)) (ht : Blk m X scope fun m X => PTs X ifs (RdC m (wpCs t noEx cs))) (he : Blk m X scope fun m X => DE m X t noEx ex elt) (hs : ∀ x, foldedSetIterable iter X.env x = pure x) :
    PS X (.Assign [.Name y py] (.ListComp elt [⟨tg, iter, ifs, 0⟩] scope pos) spos) (tAsg (RdNL m (wpE t Ex (.comp (own.map (·.2)) T ik src cs ex))) (gName i)) :=
  PS.weak (ps_setLc g.calm g.nd hy hyl hsw hi ok (fun s H C cl fp => PG.any fun D => hg D s H C cl fp) (fun s H C cl fp => PTs.any fun D => ht D s H C cl fp) (fun s H C cl fp => PE.any fun D => he D s H C cl fp) hs) fun E σ H h => comp_read hns h
end
end SD

set_option Elab.async false
set_option linter.all false
set_option maxRecDepth 100000
set_option maxHeartbeats 4000000
namespace SD
open PySem PySem.Spec PyProof.Rows L2
section
variable {m : Am} {X : Cx} {k : Nat} {t : Tb} {Ex : ExV → DEnv → Prop} {σ σ' : L2.St} {H H' H1 H2 : Hp} {S S' : Addr → Prop} {env env1 env' : DEnv} {ds : List D} {vs : List V} {Qd : D → Prop} {Q : VK} {d : D} {v : V} {e : Expr} {es : List Expr} {ir : IE} {irs : List IE} {pos : Pos} {p a : Addr} {o u : HO}
def putV (ks : List Key) (xs : List V) (k : Key) (z : V) : List V := (ks.zip xs).map fun p => if p.1 = k then z else p.2
def putD (ks : List Key) (ds : List D) (k : Key) (y : D) : List D := (ks.zip ds).map fun p => if p.1 = k then y else p.2
theorem any_k (k : Key) : ∀ (ks : List Key) (xs : List V), ks.length = xs.length → ((ks.zip xs).any fun kv => decide (kv.1 = k)) = ks.any fun x => decide (x = k)
  | [], _, _ => rfl
  | _ :: _, [], h => by simp at h
  | k0 :: ks, x :: xs, h => by simp only [List.zip_cons_cons, List.any_cons]; rw [any_k k ks xs (by simpa using h)]
theorem any_d (k : Key) : ∀ (ks : List Key) (ds : List D), ks.length = ds.length → (((ks.map kD).zip ds).any fun p => deq p.1 (kD k)) = ks.any fun x => decide (x = k)
  | [], _, _ => rfl
  | _ :: _, [], h => by simp at h
  | k0 :: ks, x :: xs, h => by simp only [List.map_cons, List.zip_cons_cons, List.any_cons]; rw [any_d k ks xs (by simpa using h), deq_kD]
theorem map_k (k : Key) (z : V) : ∀ (ks : List Key) (xs : List V), ks.length = xs.length → (ks.zip xs).map (fun kv => if kv.1 = k then (kv.1, z) else kv) = ks.zip (putV ks xs k z) ∧ ks.length = (putV ks xs k z).length
  | [], _, _ => ⟨rfl, rfl⟩
  | _ :: _, [], h => by simp at h
  | k0 :: ks, x :: xs, h => by
    obtain ⟨a, b⟩ := map_k k z ks xs (by simpa using h)
    refine ⟨?_, by simp only [putV, List.zip_cons_cons, List.map_cons, List.length_cons] at b ⊢; omega⟩
    simp only [putV, List.zip_cons_cons, List.map_cons] at a ⊢
    rw [a]
    by_cases q : k0 = k
    · rw [if_pos q, if_pos q]
    · rw [if_neg q, if_neg q]
theorem map_d (k : Key) (y : D) : ∀ (ks : List Key) (ds : List D), ks.length = ds.length → ((ks.map kD).zip ds).map (fun p => if deq p.1 (kD k) = true then (p.1, y) else p) = (ks.map kD).zip (putD ks ds k y)
  | [], _, _ => rfl
  | _ :: _, [], h => by simp at h
  | k0 :: ks, x :: xs, h => by
    have a := map_d k y ks xs (by simpa using h)
    simp only [putD, List.zip_cons_cons, List.map_cons] at a ⊢
    rw [a, deq_kD]
    by_cases q : k0 = k
    · rw [if_pos q, if_pos (decide_eq_true q)]
    · rw [if_neg q, if_neg (by simpa using q)]
theorem put_rd (k : Key) (y : D) (z : V) (rz : RD m.G m.wa H S y z) : ∀ (ks : List Key) (xs : List V) (ds : List D), RDs m.G m.wa H S ds xs → RDs m.G m.wa H S (putD ks ds k y) (putV ks xs k z)
  | [], _, _, _ => .nil
  | _ :: _, _, _, .nil => .nil
  | k0 :: ks, x :: xs, _, .cons r t => by
    have ih := put_rd k y z rz ks xs _ t
    simp only [putD, putV, List.zip_cons_cons, List.map_cons] at ih ⊢
    by_cases q : k0 = k
    · rw [if_pos q, if_pos q]; exact .cons rz ih
    · rw [if_neg q, if_neg q]; exact .cons r ih
/-- d[k] = y -/
theorem put_ok (k : Key) (y : D) (z : V) (rz : RD m.G m.wa H S y z) (ks : List Key) (xs : List V) (ds : List D) (hl : ks.length = xs.length) (r : RDs m.G m.wa H S ds xs) :
    ∃ ks' xs' ds', putK (ks.zip xs) k z = List.zip ks' xs' ∧ dPut ((ks.map kD).zip ds) (kD k) y = (List.map kD ks').zip ds' ∧ ks'.length = xs'.length ∧ RDs m.G m.wa H S ds' xs' := by
  have hd : ks.length = ds.length := by rw [hl, r.length]
  unfold putK dPut
  rw [any_k k ks xs hl, any_d k ks ds hd]
  by_cases q : (ks.any fun x => decide (x = k)) = true
  · rw [if_pos q, if_pos q]
    obtain ⟨a, b⟩ := map_k k z ks xs hl
    exact ⟨ks, _, _, a, map_d k y ks ds hd, b, put_rd k y z rz ks xs ds r⟩
  · rw [if_neg q, if_neg q]
    refine ⟨ks ++ [k], xs ++ [z], ds ++ [y], ?_, ?_, by simp [hl], r.append (RDs.one rz)⟩
    · rw [List.zip_append hl]; rfl
    · rw [List.map_append, List.zip_append (by rw [List.length_map]; exact hd)]; rfl
/-- a new dict of the reader's own -/
def RdNK (m : Am) (wp : DEnv → (D → DEnv → Prop) → Prop) : TE := fun σ H Q => ∃ (env : DEnv) (Qd : D → DEnv → Prop), RS m σ H env ∧ wp env Qd ∧
  ∀ (ks : List Key) (xs : List V) (ds : List D) p env' H', St1 m σ H env H' env' → RS (m.plus p) σ H' env' → H p = none → H' p = some (.dK (ks.zip xs)) → ks.length = xs.length → RDs m.G m.wa H' (Sx (m.plus p).So σ env') ds xs → Qd (.dct false ((ks.map kD).zip ds)) env' → Q (.ref p) H'
/-- as a value, it is known for good -/
theorem RdNK.of {wp : DEnv → (D → DEnv → Prop) → Prop} {q : TE} (hq : ∀ σ H Q, RdNK m wp σ H Q → q σ H Q) (h : RdE m wp σ H Q) : tPost q σ H Q := by
  obtain ⟨env, Qd, r, w, kq⟩ := h
  refine hq σ H _ ⟨env, Qd, r, w, fun ks xs ds p env' H' s rp hp e hl rs qd => .inr ⟨p, _, e, True.intro, fun od => ?_⟩⟩
  have hw : m.G.hw = true → p ≠ m.wa := fun hw z => by
    obtain ⟨x, e2, _⟩ := r.so.2 _ (r.so.1 hw)
    rw [← z, hp] at e2
    cases e2
  have nS := s.fresh r hp
  have rf := (rp.soUpd (a := p) (o := .frz od (.dK (ks.zip xs))) (.inr rfl) hw e (r.nn p hp) (.inr ⟨_, rfl⟩) noTbl_frz ⟨fun _ z => (nomatch z), fun _ z => (nomatch z)⟩).unplus r.so.1
  have h6 : ∀ a, a ≠ p → upd H' p (.frz od (.dK (ks.zip xs))) a = H' a := fun a h => upd_ne h
  have kpp : ∀ a o, a ≠ p → H' a = some o → upd H' p (.frz od (.dK (ks.zip xs))) a = some o := fun a o h e => by rw [h6 a h]; exact e
  have st : St1 m σ H env (upd H' p (.frz od (.dK (ks.zip xs)))) env' := by
    refine ⟨rf, fun a o e0 n nt => kpp a o (ne_of_none e0 hp) (s.kp a o e0 n nt), s.sb, fun a z => ?_, fun a o h n e0 => kpp a o (ne_of_none e0 hp) (s.ks a o h n e0)⟩
    by_cases ha : a = p
    · rw [ha, upd_same] at z; cases z
    · rw [h6 a ha] at z; exact s.nn a z
  have rm : RDs m.G m.wa (upd H' p (.frz od (.dK (ks.zip xs)))) (Sx m.So σ env') ds xs := by
    have kpf : Kp (Sx (m.plus p).So σ env') H' (upd H' p (.frz od (.dK (ks.zip xs)))) := fun c w e n _ => by rw [upd_ne (fun z => n (by rw [z]; exact .inl (.inr rfl)))]; exact e
    exact rs.mono kpf (Sb.sub fun a z => z.elim (fun q => .inl (.inl q)) .inr)
  exact kq _ _ env' _ st (.inl (.dK upd_same nS hl rm)) qd
def tkC (m : Am) (t : Tb) (ex : IE) : TE := teC m t ex
theorem dcomp_read {ik : IK} {src cs : List IE} {kx ex : IE} {T : IT} {bs : List Nat} (hns : ∀ i ∈ namesT T, i ∈ bs) (h : RdNK m (wpE t Ex (.dcomp false bs T ik src cs kx ex)) σ H Q) : tDc (RdI m (wpI t Ex ik src)) (tgC m T) (ttC m t cs) (teC m t kx) (teC m t ex) bs σ H Q := by
  obtain ⟨env, Qd, r, w, kq⟩ := h
  refine ⟨env, _, r, w, fun items env1 H1 J s1 it ⟨hn, q⟩ D hD => ?_⟩
  have rP := s1.rs.plus (o := .dK []) hD noTbl_dK ⟨fun _ z => (nomatch z), fun _ z => (nomatch z)⟩
  have hDw : m.G.hw = true → D ≠ m.wa := fun hw z => by
    obtain ⟨x, e, _⟩ := s1.rs.so.2 _ (s1.rs.so.1 hw)
    rw [← z, hD] at e
    cases e
  refine ⟨fun i mm H => mm = items.length - i ∧ i ≤ items.length ∧ ∃ (en : DEnv) (ks : List Key) (xs : List V) (ds : List SD.D), RS (m.plus D) σ H en ∧ St1 m σ H1 env1 H en ∧ noOwn en bs = true ∧ H D = some (.dK (ks.zip xs)) ∧ ks.length = xs.length ∧ RDs m.G m.wa H (Sx (m.plus D).So σ en) ds xs ∧ dcompL _ _ false (items.drop i) ((ks.map kD).zip ds) en,
    ⟨items.length, rfl, Nat.zero_le _, env1, [], [], [], rP, St1.new s1.rs hD, hn, upd_same, rfl, .nil, q⟩, ?_⟩
  rintro i mm Hi ⟨rfl, hle, en, ks, xs, ds, rs, su, hno, hDi, hl, ra, cl⟩
  have nD : ¬ Sx m.So σ en D := fun z => s1.rs.free hD (su.sb D z)
  by_cases hlt : i < items.length
  · refine .inr ⟨it.go Hi i su.kp hlt, fun H' => items.length - (i + 1) = items.length - (i + 1) ∧ i + 1 ≤ items.length ∧ ∃ (en : DEnv) (ks : List Key) (xs : List V) (ds : List SD.D), RS (m.plus D) σ H' en ∧ St1 m σ H1 env1 H' en ∧ noOwn en bs = true ∧ H' D = some (.dK (ks.zip xs)) ∧ ks.length = xs.length ∧ RDs m.G m.wa H' (Sx (m.plus D).So σ en) ds xs ∧ dcompL _ _ false (items.drop (i + 1)) ((ks.map kD).zip ds) en,
      fun H' z => ⟨items.length - (i + 1), by omega, z⟩, fun x H' y => ?_⟩
    have sb2 : Sb H1 (Sx m.So σ env1) (Sx (m.plus D).So σ en) := fun a z => by
      rcases z with (z | rfl) | z
      · exact .inl (.inl z)
      · exact .inr hD
      · exact .inl (su.sb a (.inr z))
    obtain ⟨d, hd, nw, rd⟩ := it.yld Hi _ i x H' su.kp sb2 (fun p hp => rs.free hp) rs.notup hlt y
    rw [drop_cons hlt] at cl
    have ed : items[i] = d := by rw [List.getElem?_eq_getElem hlt] at hd; exact Option.some.inj hd
    rw [ed] at cl
    obtain ⟨en1, ha, wc⟩ := cl
    have sH : St1 (m.plus D) σ Hi en H' en := nw.st1 rs
    obtain ⟨rw_, subw⟩ := sH.rs.wipe bs
    refine ⟨D, wipeE en bs, d, en1, rw_, rd.mono Kp.refl (Sb.sub subw), ha, fun σ2 st2 => ⟨st2.wi bs hns |>.trans (wipe_eq (by rw [wipe_length]) fun j hj => wipe_get hj), D, en1, _, st2.rs, wc, fun b en2 H3 s3 q => ?_⟩⟩
    have hw2 : L2.wipe σ2 bs = L2.wipe σ bs := st2.wi bs hns |>.trans (wipe_eq (by rw [wipe_length]) fun j hj => wipe_get hj)
    have sub1 : ∀ a, Sx (m.plus D).So σ2 en1 a → Sx (m.plus D).So σ en a := fun a z => subw a (st2.sb a z)
    have back : ∀ {H5 : Hp} {en3 : DEnv}, St1 (m.plus D) σ2 H' en1 H5 en3 → noOwn en3 bs = true → St1 (m.plus D) σ Hi en H5 (backE en en3 bs) ∧ H5 D = some (.dK (ks.zip xs)) ∧ noOwn (backE en en3 bs) bs = true ∧ RDs m.G m.wa H5 (Sx (m.plus D).So σ (backE en en3 bs)) ds xs := fun {H5 en3} s5 hn3 => by
      have z := RS.back sH.rs s5.rs hw2 hno hn3 (s5.kp.mono sub1) (fun a z => sub1 a (s5.sb a z)) s5.nn s5.ks
      have z2 := sH.trans z
      refine ⟨z2, z2.ks D _ (.inr rfl) hDw hDi, List.all_eq_true.mpr fun j hj => ?_, ra.mono z2.kp (Sb.sub z2.sb)⟩
      rw [back_in (by rw [s5.rs.len, (wipe_inv hw2).1, rs.len]) hj]
      exact List.all_eq_true.mp hno j hj
    cases b with
    | false =>
      obtain ⟨hn2, cl2⟩ := q
      obtain ⟨b1, b2, b3, b4⟩ := back s3 hn2
      exact ⟨rfl, hlt, _, ks, xs, ds, b1.rs, su.turn hD s1.rs b1 b1.rs (fun _ _ => rfl) (by rw [b2]; exact fun z => nomatch z), b3, b2, hl, b4, cl2⟩
    | true =>
      refine ⟨D, en2, _, s3.rs, q, fun kd kv en3 H4 s4 rk w3 => ⟨D, en3, _, s4.rs, w3, fun yd yv en4 H5 s5 ry ⟨hn3, hc, hko, hsz, cl2⟩ => ?_⟩⟩
      have s34 := (s3.trans s4).trans s5
      obtain ⟨b1, b2, b3, b4⟩ := back s34 hn3
      have ry' : RD m.G m.wa H5 (Sx (m.plus D).So σ2 en4) yd yv := by
        rcases ry with z | z
        · exact z
        · have c := m.clo z
          rw [hc] at c
          cases c
      have ry2 : RD m.G m.wa H5 (Sx (m.plus D).So σ (backE en en4 bs)) yd yv := ry'.mono Kp.refl (Sb.sub fun a z => by
        rcases z with z | ⟨j, e0, h1, h2⟩
        · exact .inl z
        · have hj : j ∉ bs := fun hj => noOwn_at b3 hj h1
          rw [back_get hj] at h1
          exact .inr ⟨j, e0, h1, by rw [(wipe_inv hw2).2 j hj]; exact h2⟩)
      have hko' : (toK kd).isSome = true := hko
      obtain ⟨key, hkey⟩ := Option.isSome_iff_exists.mp hko'
      have ekd := toK_kD hkey
      subst ekd
      have ekv : kv = kV key := RO.key (m := m.plus D) (.inl rk)
      subst ekv
      have hla : (ks.zip xs).length < sizeLine := by
        have z := b4.length
        have hsz' : ((ks.map kD).zip ds).length < 16777216 := hsz
        rw [sizeLine_eq]
        simp only [List.length_zip, List.length_map] at hsz' ⊢
        omega
      obtain ⟨ks', xs', ds', p1, p2, p3, p4⟩ := put_ok key yd yv ry2 ks xs ds hl b4
      rw [p2] at cl2
      have nH0 : m.H0 D = none := s1.rs.nn D hD
      have r5 := b1.rs.soUpd (a := D) (o := .dK (ks'.zip xs')) (.inr rfl) hDw b2 nH0 (.inr ⟨_, rfl⟩) noTbl_dK ⟨fun _ z => (nomatch z), fun _ z => (nomatch z)⟩
      have kp5 : Kp (Sx (m.plus D).So σ (backE en en4 bs)) H5 (upd H5 D (.dK (ks'.zip xs'))) := fun c w e n _ => by rw [upd_ne (fun z => n (by rw [z]; exact .inl (.inr rfl)))]; exact e
      refine ⟨ks.zip xs, key, rfl, b2, hla, ?_⟩
      rw [p1]
      exact ⟨rfl, hlt, backE en en4 bs, ks', xs', ds', r5, su.turn hD s1.rs b1 r5 (fun a h => upd_ne h) (by rw [upd_same]; exact fun z => nomatch z), b3, upd_same, p3, p4.mono kp5 Sb.refl, cl2⟩
  · have ei : i = items.length := by omega
    subst ei
    rw [List.drop_length] at cl
    exact .inl ⟨it.stop Hi su.kp, kq ks xs ds D en Hi (s1.trans su) rs (s1.nn D hD) hDi hl ra cl⟩
theorem de_dcomp {ik : IK} {src cs : List IE} {kx ex : IE} {T : IT} {kel elt tg iter : Expr} {ifs : List Expr} {scope : Scope} {own : List (Str × Nat)} (g : GX m X k) (hi : PI X tg iter (RdI m (wpI t Ex ik src))) (ok : BlkOk X.N X.env.scope scope own) (hns : ∀ i ∈ namesT T, i ∈ own.map (·.2))
    (hg : Blk m X scope fun m X => PG X tg (gT m T)) (ht : Blk m X scope fun m X => PTs X ifs (RdC m (wpCs t noEx cs))) (hk : Blk m X scope fun m X => DE m X t noEx kx kel) (he : Blk m X scope fun m X => DE m X t noEx ex elt) (hs : ∀ x, foldedSetIterable iter X.env x = pure x) :
    PE X (.DictComp kel elt [⟨tg, iter, ifs, 0⟩] scope pos) (RdNK m (wpE t Ex (.dcomp false (own.map (·.2)) T ik src cs kx ex))) :=
  PE.weak (pe_dc (pos := pos) g.calm g.nd hi ok (fun s H C cl fp => PG.any fun D => hg D s H C cl fp) (fun s H C cl fp => PTs.any fun D => ht D s H C cl fp) (fun s H C cl fp => PE.any fun D => hk D s H C cl fp) (fun s H C cl fp => PE.any fun D => he D s H C cl fp) hs) fun σ H Q h => dcomp_read hns h
end
end SD

set_option Elab.async false
set_option linter.all false
set_option maxRecDepth 100000
set_option maxHeartbeats 4000000
namespace SD
open PySem PySem.Spec PyProof.Rows L2
section
variable {m : Am} {X : Cx} {k : Nat} {t : Tb} {Ex : ExV → DEnv → Prop} {σ σ' : L2.St} {H H' H1 H2 : Hp} {S S' : Addr → Prop} {env env1 env' : DEnv} {ds : List D} {vs : List V} {Qd : D → Prop} {Q : VK} {d : D} {v : V} {e : Expr} {es : List Expr} {ir : IE} {irs : List IE} {pos : Pos} {p a : Addr} {o u : HO}
/-! ### methods that change nothing -/
theorem MtR.weak {id : String} {r r' : V → List V → Hp → VK → Prop} (h : MtR X id r) (w : ∀ x xs H Q, r' x xs H Q → r x xs H Q) : MtR X id r' := fun pins s σ H x xs v us Q I rx rs q => h pins s σ H x xs v us Q I rx rs (w x xs H Q q)
def rGet : V → List V → Hp → VK → Prop := fun x xs H Q => ∃ a y o, x = .ref a ∧ DGet H a y o ∧ ((xs = [y] ∧ Q (o.getD .non) H) ∨ ∃ z, xs = [y, z] ∧ Q (o.getD z) H)
theorem mt_get (hu : X.A.units + 1 < cLine) : MtR X "dict.get" rGet := by
  intro pins s σ H x xs v us Q I rx rxs h
  obtain ⟨a, y, o, rfl, g, h⟩ := h
  cases (show v = Value.ref a from rx)
  rcases h with ⟨rfl, q⟩ | ⟨z, rfl, q⟩
  · obtain ⟨u, rfl, ru⟩ := vals1 rxs
    exact d_get1 hu I g ru fun w' s' I' rw' => ⟨_, H, I', rw', q⟩
  · cases rxs with
    | cons ru rr =>
      obtain ⟨w, rfl, rw_⟩ := vals1 rr
      exact d_get2 hu I g ru rw_ fun w' s' I' rw' => ⟨_, H, I', rw', q⟩
theorem OptR.getD {o : Option D} {ov : Option V} {dd : D} {vv : V} (h : OptR m H S o ov) (r : RD m.G m.wa H S dd vv) : RD m.G m.wa H S (o.getD dd) (ov.getD vv) := by
  cases o with
  | none => cases ov with
    | none => exact r
    | some _ => exact h.elim
  | some d => cases ov with
    | none => exact h.elim
    | some _ => exact h
theorem RO.rd (h : noX d = true) (r : RO m H S d v) : RD m.G m.wa H S d v := by
  rcases r with (r | r) | ⟨a, rfl, r⟩
  · exact r
  · have c := m.clo r
    cases d <;> first | (cases c; done) | cases h
  · cases r <;> cases h
theorem snd_get1 : Snd m .get1 (Rm rGet) := by
  rintro H S ds vs Qd Q ⟨fr, nt⟩ r w kq
  have w' : wGet1 ds Qd := w
  unfold wGet1 at w'
  split at w'
  · obtain ⟨x, y, rfl, r1, r2⟩ := r.two
    obtain ⟨o, h, q⟩ := w'
    obtain ⟨a, ov, rfl, g, ro⟩ := look_ok r1 r2 h
    exact ⟨a, y, ov, rfl, g, .inl ⟨rfl, kq.flat (ro.getD .non) q⟩⟩
  · exact w'.elim
theorem snd_get2 : Snd m .get2 (Rm rGet) := by
  rintro H S ds vs Qd Q ⟨fr, nt⟩ r w kq
  have w' : wGet2 ds Qd := w
  unfold wGet2 at w'
  split at w'
  · obtain ⟨x, y, z, rfl, r1, r2, r3⟩ := r.three
    obtain ⟨hc, o, h, q⟩ := w'
    obtain ⟨a, ov, rfl, g, ro⟩ := look_ok r1 r2 h
    have r3' := r3.rd hc
    exact ⟨a, y, ov, rfl, g, .inr ⟨z, rfl, kq.flat (ro.getD r3') q⟩⟩
  · exact w'.elim
def rStarts : V → List V → Hp → VK → Prop := fun x xs H Q => ∃ a b, x = .str a ∧ xs = [.str b] ∧ Q (.bl (Txt.startswith a b)) H
theorem snd_starts : Snd m .starts (Rm rStarts) := by
  rintro H S ds vs Qd Q ⟨fr, nt⟩ r w kq
  have w' : wStarts ds Qd := w
  unfold wStarts at w'
  split at w'
  · obtain ⟨x, y, rfl, r1, r2⟩ := r.two
    have e1 := r1.str
    have e2 := r2.str
    subst e1 e2
    exact ⟨_, _, rfl, rfl, kq.flat (.bl _) w'⟩
  · exact w'.elim
theorem snd_index : Snd m .index (Rm (rIndex m.G.K)) := by
  rintro H S ds vs Qd Q ⟨fr, nt⟩ r w kq
  have w' : wIndex ds Qd := w
  unfold wIndex at w'
  split at w'
  · rename_i l x
    obtain ⟨u, y, rfl, r1, r2⟩ := r.two
    obtain ⟨h1, h2, j, hj, q⟩ := w'
    obtain ⟨a, xs, rfl, e, rd⟩ := r1.lst
    rw [List.findIdx?_eq_some_iff_getElem] at hj
    obtain ⟨hl, hj1, hj2⟩ := hj
    obtain ⟨v, hv, rv⟩ := rd.get (List.getElem?_eq_getElem hl)
    have fl : ∀ (i : Nat) (hi : i < l.length), flatK l[i] = true := fun i hi => List.all_eq_true.mp h2 _ (List.getElem_mem hi)
    refine ⟨a, xs, y, j, v, rfl, rfl, SqL.of e, r2.flatV h1, (RDs.flat h2 h1 rd r2).1, hv, ?_, fun mm z hm hz => ?_, kq.flat (.int _) q⟩
    · rw [eqV_flat (fl j hl) h1 (.inl (.inl rv)) r2]; exact hj1
    · obtain ⟨d, hd, rz⟩ := rd.getV hz
      have hml : mm < l.length := by omega
      rw [List.getElem?_eq_getElem hml] at hd
      cases hd
      rw [eqV_flat (fl mm hml) h1 (.inl (.inl rz)) r2]
      simpa using hj2 mm hm
  · exact w'.elim
def rJoin (K : PySem.W.Frag) : V → List V → Hp → VK → Prop := fun x xs H Q => ∃ a p, ∃ ys : List Str, x = .str a ∧ xs = [.ref p] ∧ (SqL K H p (ys.map V.str) ∨ SqT K H p (ys.map V.str)) ∧ (ys.map (·.length)).sum + ys.length * a.length ≤ 16777216 ∧ Q (.str (Txt.join a ys)) H
theorem unS_all : ∀ {l : List D} {ys : List (List Nat)} {xs : List V}, allSome (l.map unS) = some ys → RDs m.G m.wa H S l xs → xs = (ys.map fun y => (⟨y.toArray⟩ : Str)).map V.str
  | [], ys, xs, h, r => by cases r; cases h; rfl
  | d :: l, ys, _, h, .cons r t => by
    cases d <;> first | (cases h; done) | skip
    rename_i x
    simp only [List.map_cons, unS, allSome] at h
    cases e : allSome (l.map unS) with
    | none => rw [e] at h; cases h
    | some zs =>
      rw [e] at h
      cases h
      cases r
      rw [unS_all e t]
      rfl
theorem txtRD (s : Str) : RD m.G m.wa H S (.str s.cps.toList) (.str s) := by
  have z := RD.str (G := m.G) (wa := m.wa) (H := H) (S := S) s.cps.toList
  simpa using z
theorem lens_eq (ys : List (List Nat)) : ((ys.map fun y => (⟨y.toArray⟩ : Str)).map (·.length)) = ys.map (·.length) := by
  rw [List.map_map]
  exact List.map_congr_left fun y _ => by simp [Str.length]
theorem snd_join : Snd m .join (Rm (rJoin m.G.K)) := by
  rintro H S ds vs Qd Q ⟨fr, nt⟩ r w kq
  have w' : wJoin ds Qd := w
  unfold wJoin at w'
  split at w'
  · obtain ⟨x, y, rfl, r1, r2⟩ := r.two
    have e1 := r1.str
    subst e1
    obtain ⟨a, xs, rfl, e, ra⟩ := r2.lst
    obtain ⟨ys, h, hl, q⟩ := w'
    have e2 := unS_all h ra
    subst e2
    refine ⟨_, a, _, rfl, rfl, .inl (SqL.of e), ?_, kq.flat ?_ q⟩
    · rw [lens_eq, List.length_map, sl_len]; exact hl
    · exact txtRD _
  · exact w'.elim
/-- methods that change nothing: the type, the method's name in the model, the number of its arguments -/
def methO : Op → Option (String × String × Nat)
  | .split => some ("str", "split", 1)
  | .starts => some ("str", "startswith", 1)
  | .join => some ("str", "join", 1)
  | .get1 => some ("dict", "get", 1)
  | .get2 => some ("dict", "get", 2)
  | .index => some ("list", "index", 1)
  | .count => some ("tuple", "count", 1)
  | _ => none
def IsMt (m : Am) (X : Cx) (o : Op) (T : String) (name : Str) (r : V → List V → Hp → VK → Prop) : Prop := ∃ id, PlainAttrs T ∧ Slot T name id ∧ typeOf (.builtin id) = pure (.type "method_descriptor") ∧ MtR X id r ∧ Snd m o (Rm r)
theorem is_mt {o : Op} {T n : String} {l : Nat} (g : GX m X k) (h : methO o = some (T, n, l)) : ∃ r, IsMt m X o T (Str.ofString n) r ∧ mTy o = T := by
  cases o <;> simp only [methO] at h <;> first | (cases h; done) | skip
  all_goals cases h
  · exact ⟨_, ⟨_, F.plainAttrs_dict, F.slot_dict_get, F.type_dict_get, mt_get (by have := unit64 g; omega), snd_get1⟩, rfl⟩
  · exact ⟨_, ⟨_, F.plainAttrs_dict, F.slot_dict_get, F.type_dict_get, mt_get (by have := unit64 g; omega), snd_get2⟩, rfl⟩
  · exact ⟨_, ⟨_, F.plainAttrs_str, F.slot_str_split, F.type_str_split, mt_split, snd_split⟩, rfl⟩
  · exact ⟨_, ⟨_, F.plainAttrs_str, F.slot_str_join, F.type_str_join, (by have h := mt_join (X := X); rw [g.hK] at h; exact h), snd_join⟩, rfl⟩
  · exact ⟨_, ⟨_, F.plainAttrs_str, F.slot_str_startswith, F.type_str_startswith, mt_startswith, snd_starts⟩, rfl⟩
  · exact ⟨_, ⟨_, F.plainAttrs_list, F.slot_list_index, F.type_list_index, (by have h := mt_index (X := X); rw [g.hK] at h; exact h), snd_index⟩, rfl⟩
  · exact ⟨_, ⟨_, F.plainAttrs_tuple, F.slot_tuple_count, F.type_tuple_count, mt_tcount, snd_count⟩, rfl⟩
theorem meth_nb {o : Op} {r : IE} {args : List IE} {env : DEnv} {Q : D → DEnv → Prop} (h : isBor r = false) : wpE t Ex (.meth o r args) env Q = wpE t Ex r env fun d env1 => tyM d = some (mTy o) ∧ wpL t Ex args env1 fun ds env2 => opW o (d :: ds) fun r => Q r env2 := by
  cases r <;> first | rfl | cases h
theorem meth_read {o : Op} {T : String} {ri : IE} {r : V → List V → Hp → VK → Prop} {args : List IE} (hs : Snd m o (Rm r)) (hT : mTy o = T) (h : RdE m (wpE t Ex (.meth o ri args)) σ H Q) : tMt m.G.K T r (tO m t Ex ri) (tL (args.map (tO m t Ex))) σ H Q := by
  obtain ⟨env, Qd, rs, w, kq⟩ := h
  by_cases hb : isBor ri = true
  · cases ri <;> first | (cases hb; done) | skip
    rename_i i
    obtain ⟨⟨b0, d0, h0, hty⟩, w⟩ := w
    have at0 : ∀ {H : Hp} {env : DEnv} (rs : RS m σ H env) {b : Bool} {d : SD.D}, env[i]? = some (some (b, d)) → ∃ v, σ[i]? = some (some v) ∧ RO m H (Sx m.So σ env) d v := fun {H env} rs {b d} h => by
      cases b with
      | true => obtain ⟨a, ha, x, _⟩ := rs.ow i d h; exact ⟨_, ha, .inr ⟨a, rfl, x⟩⟩
      | false => obtain ⟨v, ha, x⟩ := rs.pl i d h; exact ⟨v, ha, .inl x⟩
    obtain ⟨v, ha, x0⟩ := at0 rs h0
    refine ⟨v, ha, tyw_ofM (m := m) (S := Sx m.So σ env) (by rw [hty, hT]) x0, ?_⟩
    refine chainL args ⟨env, _, rs, w, fun ds vs env1 H1 s1 ro ⟨b, d, hd, w1⟩ => ?_⟩
    obtain ⟨v', hb, x⟩ := at0 s1.rs hd
    rw [ha] at hb
    cases hb
    exact hs H1 (Sx m.So σ env1) (d :: ds) (v :: vs) _ Q ⟨fun p hp => s1.rs.free hp, s1.rs.notup⟩ ⟨x, ro.rol s1.rs⟩ w1 fun d v H2 n rd q => kq d v env1 H2 (s1.trans (n.st1 s1.rs)) (.inl rd) q
  · have hb' : isBor ri = false := by simpa using hb
    rw [meth_nb hb'] at w
    rw [tO_nb hb']
    refine ⟨env, _, rs, w, fun d v env1 H1 s1 ra ⟨hty, w1⟩ => ⟨tyw_ofM (m := m) (S := Sx m.So σ env1) (by rw [hty, hT]) (.inl ra), ?_⟩⟩
    refine chainL args ⟨env1, _, s1.rs, w1, fun ds vs env2 H2 s2 ro w2 => ?_⟩
    exact hs H2 (Sx m.So σ env2) (d :: ds) (v :: vs) _ Q ⟨fun p hp => s2.rs.free hp, s2.rs.notup⟩ ⟨.inl (ra.step s2), ro.rol s2.rs⟩ w2 fun d v H3 n rd q => kq d v env2 H3 ((s1.trans s2).trans (n.st1 s2.rs)) (.inl rd) q
def baseB : Expr → Bool
  | .Call _ [] [] _ => false
  | _ => true
theorem base_okB {o : Expr} (h : baseB o = true) {nm : Str} {en : PySem.Env} : attributeBase o nm en (eval o en) = eval o en := by
  cases o <;> first | rfl | skip
  rename_i f as ks p
  cases as with
  | nil => cases ks with
    | nil => cases h
    | cons _ _ => cases f <;> rfl
  | cons _ _ => cases f <;> rfl
theorem de_meth {o : Op} {T n : String} {r : Expr} {ri : IE} {apos cpos : Pos} (g : GX m X k) (h : methO o = some (T, n, es.length)) (hr : PE X r (tO m t Ex ri)) (hb : baseB r = true) (al : AL m X t Ex irs es) (hne : es ≠ []) (hl : es.length < 29) (hline : (apos.endLine == cpos.line) = true) :
    DE m X t Ex (.meth o ri irs) (.Call (.Attribute r (Str.ofString n) apos) es [] cpos) := by
  obtain ⟨rr, ⟨id, pa, sl, ty, hm, hs⟩, h1⟩ := is_mt g h
  cases es with
  | nil => exact absurd rfl hne
  | cons a es =>
    refine PE.weak (pe_mt pa sl ty hm hr al.pa (base_okB hb) al.star hl hline) fun σ H Q h => ?_
    rw [g.hK]
    exact meth_read hs h1 h
/-- list(d.values()), sorted(d.items()): what is called, the method -/
def viewO : Op → Option (String × String)
  | .lvals => some ("list", "values")
  | .sitems => some ("sorted", "items")
  | .tvals => some ("tuple", "values")
  | _ => none
theorem de_view {o : Op} {fnm n : String} {r : Expr} {ri : IE} {p apos cpos : Pos} (g : GX m X k) (hb : ∀ x ∈ bltNames, X.mg x = none) (h : viewO o = some (fnm, n)) (hg : Gl X (Str.ofString fnm)) (hr : PE X r (tO m t Ex ri)) (hbs : baseB r = true) (hline : (apos.endLine == cpos.line) = true) :
    DE m X t Ex (.meth o ri []) (.Call (.Name (Str.ofString fnm) p) [.Call (.Attribute r (Str.ofString n) apos) [] [] cpos] [] pos) := by
  cases o <;> simp only [viewO] at h <;> first | (cases h; done) | skip
  all_goals cases h
  · have inner := pe_mt0 F.plainAttrs_dict F.slot_dict_values F.type_dict_values mt_valuesK hr (base_okB hbs) hline
    refine PE.weak (pe_callTy (cr_listV g.calm) hg (hb _ (by decide +kernel)) boot_list' (pa_cons inner pa_nil rfl) (by decide +kernel) (by decide +kernel) rfl rfl) fun σ H Q h => ?_
    rw [g.hK]
    exact meth_read snd_lvals rfl h
  · have inner := pe_mt0 F.plainAttrs_dict F.slot_dict_items F.type_dict_items mt_itemsK hr (base_okB hbs) hline
    refine PE.weak (pe_callB (cr_sortItems (m := m) g.calm (unit64 g) g.hK) hg (hb _ (by decide +kernel)) boot_sorted' (pa_cons inner pa_nil rfl) (by decide +kernel) (by decide +kernel) rfl rfl) fun σ H Q h => ?_
    rw [g.hK]
    exact meth_read snd_sitems rfl h
  · have inner := pe_mt0 F.plainAttrs_dict F.slot_dict_values F.type_dict_values mt_valuesK hr (base_okB hbs) hline
    refine PE.weak (pe_callTy (cr_tupV g.calm) hg (hb _ (by decide +kernel)) boot_tuple' (pa_cons inner pa_nil rfl) (by decide +kernel) (by decide +kernel) rfl rfl) fun σ H Q h => ?_
    rw [g.hK]
    exact meth_read snd_tvals rfl h
/-! ### methods that change a slot's own list -/
def mutO : MOp → Option (String × Nat)
  | .append => some ("append", 1) | .extend => some ("extend", 1) | .pop0 => some ("pop", 0) | .pop1 => some ("pop", 1) | .insert => some ("insert", 2)
  | _ => none
def IsMu (m : Am) (X : Cx) (o : MOp) (name : Str) (r : V → List V → Hp → VK → Prop) : Prop := ∃ id, Slot "list" name id ∧ typeOf (.builtin id) = pure (.type "method_descriptor") ∧ MtR X id r ∧ MSnd m o r
theorem is_mu {o : MOp} {n : String} {l : Nat} (h : mutO o = some (n, l)) : ∃ r, IsMu m X o (Str.ofString n) r ∧ mvTy o = "list" := by
  cases o <;> simp only [mutO] at h <;> first | (cases h; done) | skip
  all_goals cases h
  · exact ⟨_, ⟨_, F.slot_list_append, F.type_list_append, mt_append, ms_append⟩, rfl⟩
  · exact ⟨_, ⟨_, F.slot_list_pop, F.type_list_pop, mt_pop, ms_pop0⟩, rfl⟩
  · exact ⟨_, ⟨_, F.slot_list_pop, F.type_list_pop, mt_popAt, ms_pop1⟩, rfl⟩
  · exact ⟨_, ⟨_, F.slot_list_extend, F.type_list_extend, mt_extend, ms_extend⟩, rfl⟩
  · exact ⟨_, ⟨_, F.slot_list_insert, F.type_list_insert, mt_insert, ms_insert⟩, rfl⟩
theorem de_mut {o : MOp} {n : String} {r : Expr} {i : Nat} {apos cpos : Pos} (g : GX m X k) (h : mutO o = some (n, es.length)) (hr : PE X r (tVar i)) (hb : baseB r = true) (nb : ∀ j ∈ irs, isBor j = false) (al : AL m X t Ex irs es) (hl : es.length < 29) (hline : (apos.endLine == cpos.line) = true) :
    DE m X t Ex (.mut o i irs) (.Call (.Attribute r (Str.ofString n) apos) es [] cpos) := by
  obtain ⟨rr, ⟨id, sl, ty, hm, hs⟩, h1⟩ := is_mu (m := m) (X := X) h
  cases es with
  | nil =>
    refine PE.weak (pe_mt0 F.plainAttrs_list sl ty hm hr (base_okB hb) hline) fun σ H Q h => ?_
    rw [g.hK]
    cases irs with
    | nil => exact mut_read hs nb h h1
    | cons _ _ => exact al.elim
  | cons a es =>
    refine PE.weak (pe_mt F.plainAttrs_list sl ty hm hr al.pa (base_okB hb) al.star hl hline) fun σ H Q h => ?_
    rw [g.hK]
    exact mut_read hs nb h h1
/-! ### the well -/
theorem de_wget {i c : Nat} {o : Expr} {j : Nat} {p : Pos} (g : GX m X k) (ho : PE X o (tVar i)) : DE m X t Ex (.wget i c) (.Subscript o (.Constant (.int (c : Int)) j p) pos) := by
  have hr : IxR X (rIx4 m.G.K) := by
    have h := (ix_seq (X := X)).or (ix_dct (X := X) (by have := unit64 g; omega))
    rw [g.hK] at h
    exact h
  refine PE.weak (pe_ix hr ho pe_int (slice_nb rfl)) fun σ H Q ⟨env, Qd, r, ⟨h1, h2, w⟩, kq⟩ => ?_
  obtain ⟨v, hv, ra⟩ := r.pl i _ h1
  have ev : m.G.hw = true ∧ v = .ref m.wa := by
    rcases ra with z | z
    · cases z with | well h => exact ⟨h, rfl⟩
    · cases m.clo z
  obtain ⟨hw, rfl⟩ := ev
  obtain ⟨a, b, d, e, ok⟩ := r.we hw
  refine ⟨.ref m.wa, hv, .inl (.inl ⟨m.wa, [.int a, .int b, .int d], (c : Int), ?_⟩)⟩
  have hc : c = 0 ∨ c = 1 ∨ c = 2 := by omega
  rcases hc with rfl | rfl | rfl
  · exact ⟨.int a, rfl, rfl, SqL.of e, rfl, kq (.int a) (.int a) env H (St1.refl r) (.inl (.int a)) (w a ok.1 fun z => by cases z)⟩
  · exact ⟨.int b, rfl, rfl, SqL.of e, rfl, kq (.int b) (.int b) env H (St1.refl r) (.inl (.int b)) (w b ok.2.1 fun _ => ok.2.2.1)⟩
  · exact ⟨.int d, rfl, rfl, SqL.of e, rfl, kq (.int d) (.int d) env H (St1.refl r) (.inl (.int d)) (w d ok.2.2.2 fun z => by cases z)⟩
end
end SD

set_option Elab.async false
set_option linter.all false
set_option maxRecDepth 100000
set_option maxHeartbeats 4000000
namespace SD
open PySem PySem.Spec PyProof.Rows L2
/-! ## dict(..) -/
theorem list_pick {α : Type} {P : Nat → α → Prop} : ∀ n : Nat, (∀ j, j < n → ∃ x, P j x) → ∃ l : List α, l.length = n ∧ ∀ j x, l[j]? = some x → P j x
  | 0, _ => ⟨[], rfl, fun j x h => by simp at h⟩
  | n + 1, h => by
    obtain ⟨l, hl, hp⟩ := list_pick n fun j hj => h j (by omega)
    obtain ⟨x, hx⟩ := h n (by omega)
    refine ⟨l ++ [x], by simp [hl], fun j y e => ?_⟩
    by_cases hj : j < l.length
    · rw [List.getElem?_append_left hj] at e; exact hp j y e
    · rw [List.getElem?_append_right (by omega)] at e
      have hj2 : j - l.length = 0 := by
        have := (List.getElem?_eq_some_iff.mp e).1
        simp at this; omega
      rw [hj2] at e
      have : j = n := by omega
      subst this
      simp at e
      rw [← e]; exact hx
section
variable {m : Am} {X : Cx} {k : Nat} {t : Tb} {Ex : ExV → DEnv → Prop} {σ : L2.St} {H H1 : Hp} {S : Addr → Prop} {env : DEnv} {Q : VK} {e : Expr} {es : List Expr} {irs : List IE} {pos : Pos}
/-- the pairs, by values -/
theorem pairs_rd : ∀ {l : List D} {ps : List (D × D)} {xs : List V}, pairsL l = some ps → (∀ p ∈ ps, (toK p.1).isSome = true) → RDs m.G m.wa H S l xs →
    ∃ (ks : List Key) (vs : List V) (ds : List D) (as : List Addr), xs = as.map V.ref ∧ Paired (fun p kv => SqT m.G.K H p [kV kv.1, kv.2]) as (ks.zip vs) ∧ ps = (ks.map kD).zip ds ∧ ks.length = vs.length ∧ RDs m.G m.wa H S ds vs ∧ ks.length = l.length
  | [], _, _, h, _, .nil => by
    cases h
    exact ⟨[], [], [], [], rfl, .nil, rfl, rfl, .nil, rfl⟩
  | d :: l, ps, _, h, hk, .cons (v := v) r rs => by
    unfold pairsL at h
    split at h
    · rename_i heq; cases heq
    · rename_i kd vd l' heq
      cases heq
      cases hp : pairsL l with
      | none => rw [hp] at h; cases h
      | some ps' =>
        rw [hp] at h
        cases h
        obtain ⟨ks, vs, ds, as, rfl, pr, rfl, hl, rd, hlen⟩ := pairs_rd hp (fun p hp => hk p (List.mem_cons_of_mem _ hp)) rs
        obtain ⟨a, xs, rfl, ea, ra⟩ := RO.tup (m := m) (.inl (.inl r))
        obtain ⟨key, hkey⟩ := Option.isSome_iff_exists.mp (hk _ List.mem_cons_self)
        have ek := toK_kD hkey
        simp only at ek
        subst ek
        cases ra with
        | cons r1 r2 => cases r2 with
          | cons r3 r4 =>
            cases r4
            have e1 := r1.key
            subst e1
            exact ⟨key :: ks, _ :: vs, vd :: ds, a :: as, rfl, .cons ea.sq pr, rfl, by simp [hl], .cons r3 rd, by simp [hlen]⟩
    · cases h
theorem soft_pairs : ∀ {l : List D} {ps : List (D × D)}, pairsL l = some ps → soft l = false
  | [], _, _ => rfl
  | d :: l, ps, h => by
    unfold pairsL at h
    split at h
    · rename_i heq; cases heq
    · rename_i kd vd l' heq
      cases heq
      cases hp : pairsL l with
      | none => rw [hp] at h; cases h
      | some ps1 => have q : soft l = false := soft_pairs hp; exact q
    · cases h
theorem merge_ok : ∀ (ks : List Key) (vs : List V) (ds : List D) (ks0 : List Key) (vs0 : List V) (ds0 : List D), ks.length = vs.length → RDs m.G m.wa H S ds vs → ks0.length = vs0.length → RDs m.G m.wa H S ds0 vs0 →
    ∃ ks' xs' ds', mergeK (ks0.zip vs0) (ks.zip vs) = List.zip ks' xs' ∧ putAll ((ks0.map kD).zip ds0) ((ks.map kD).zip ds) = (List.map kD ks').zip ds' ∧ ks'.length = xs'.length ∧ RDs m.G m.wa H S ds' xs'
  | [], _, _, ks0, vs0, ds0, _, _, h0, r0 => ⟨ks0, vs0, ds0, rfl, rfl, h0, r0⟩
  | _ :: _, [], _, _, _, _, h, _, _, _ => by simp at h
  | k :: ks, v :: vs, _, ks0, vs0, ds0, h, .cons (d := d) r rs, h0, r0 => by
    obtain ⟨k1, x1, d1, p1, p2, p3, p4⟩ := put_ok k d v r ks0 vs0 ds0 h0 r0
    obtain ⟨k2, x2, d2, q1, q2, q3, q4⟩ := merge_ok ks vs _ k1 x1 d1 (by simpa using h) rs p3 p4
    refine ⟨k2, x2, d2, ?_, ?_, q3, q4⟩
    · rw [← q1, ← p1]; rfl
    · rw [← q2, ← p2]; rfl
def rDictG (m : Am) : List V → Hp → VK → Prop := fun vs H Q =>
  (∃ (a : Addr) (ps : List Addr) (kvs : List (Key × V)), vs = [.ref a] ∧ SqL m.G.K H a (ps.map V.ref) ∧ Paired (fun p kv => SqT m.G.K H p [kV kv.1, kv.2]) ps kvs ∧ ∀ p, H p = none → Q (.ref p) (upd H p (.dK (mergeK [] kvs)))) ∨
  (∃ (a : Addr) (o : Obj) (ps : List Addr) (kvs : List (Key × V)), vs = [.ref a] ∧ H a = some (.frz o (.tup (ps.map V.ref))) ∧ o.dict = none ∧ Paired (fun p kv => SqT m.G.K H p [kV kv.1, kv.2]) ps kvs ∧ ∀ p, H p = none → Q (.ref p) (upd H p (.dK (mergeK [] kvs)))) ∨
  ∃ (a : Addr) (kvs : List (Key × V)), vs = [.ref a] ∧ Rd H a (.dK kvs) ∧ ∀ p, H p = none → Q (.ref p) (upd H p (.dK kvs))
theorem cr_dictG (hc : X.calm = true) (hK : X.K = m.G.K) : CallR X (.type "dict") (rDictG m) := by
  intro pins s σ H vs us Q I r h
  rcases h with ⟨a, ps, kvs, rfl, hq, pr, q⟩ | ⟨a, o, ps, kvs, rfl, ha, hd, pr, q⟩ | ⟨a, kvs, rfl, hq, q⟩
  · rw [← hK] at hq pr
    exact call_dictP hc pins s σ H _ us Q I r ⟨a, ps, kvs, rfl, hq, pr, q⟩
  · rw [← hK] at pr
    obtain ⟨u, rfl, ru⟩ := vals1 r
    cases ru
    obtain ⟨ho, hz, its, rv, o2, ho2, hcls, n, hdat⟩ := (show ObjOk X.prog X.w H s.heap a (.frz o (.tup (ps.map V.ref))) from I.hok a _ ha)
    rw [ho] at ho2
    cases ho2
    have ei := refs_at rv
    subst ei
    obtain ⟨prs, rel, hl, hpr⟩ := pairs_of I pr
    have hplen : prs.length = ps.length := hl
    obtain ⟨vps, hvl, hvp⟩ := list_pick (α := Value × Value) (P := fun j kv => ∃ b qq, ps[j]? = some b ∧ prs[j]? = some qq ∧ qq.2 = kv.2 ∧ IsTup s.heap b #[kv.1, kv.2] ∧ keyIs qq.1 kv.1 = true) prs.length fun j hj => by
      obtain ⟨b, w, h1, h2, h3⟩ := hpr j prs[j] (List.getElem?_eq_getElem hj)
      exact ⟨(w, prs[j].2), b, prs[j], h1, List.getElem?_eq_getElem hj, rfl, h2, h3⟩
    have PA := PairArg.tuple (prog := X.prog) (w := X.w) a (ps.map Value.ref).toArray (fun j => ps.getD j 0) vps
    have hat : ∀ j b, ps[j]? = some b → ps.getD j 0 = b := fun j b e => by simp [List.getD_eq_getElem?_getD, e]
    refine PySem.call_dict_pairs (knd := mixKind X.prog X.w) (kvs := prs) PA (I.ok.hd hc) ⟨⟨o, n, ho, hcls, hd, hdat⟩, by simp [hvl, hplen], fun j kk vv e => ?_⟩ ⟨hvl.symm, fun i key v e => ?_⟩ (by rw [hvl, hplen]; simpa using hz) fun h' tk hd' kp => ?_
    · obtain ⟨b, qq, h1, h2, h3, h4, h5⟩ := hvp j _ e
      show _ = some (Value.ref (ps.getD j 0)) ∧ PairAt s.heap (ps.getD j 0) kk vv
      rw [hat j b h1]
      exact ⟨by simp [h1], .inl h4⟩
    · obtain ⟨b, qq, h1, h2, h3, h4, h5⟩ := hvp i _ e
      simp only at h3
      exact ⟨qq.1, by rw [h2, ← h3], h5⟩
    · have hm : (s.heap.objs.size == sysModules) = false := beq_eq_false_iff_ne.mpr (Nat.ne_of_gt I.big)
      have hlen : (mergeK [] kvs).length ≤ sizeLine := by
        refine Nat.le_trans (length_mergeK kvs []) ?_
        rw [List.length_nil, Nat.zero_add, rel.length, hl]
        simpa using hz
      exact ⟨.ref s.heap.objs.size, upd H s.heap.objs.size (.dK (mergeK [] kvs)), I.laid (t' := tk) (fun b o' e => kp b o' (by simp) e) (Nat.le_refl _) (show ObjOk X.prog X.w _ _ _ (.dK (mergeK [] kvs)) from ⟨hlen, hm, merged [] prs, KV.merge rel .nil, hd'⟩), rfl, q _ (I.hok.fresh (Nat.le_refl _))⟩
  · exact call_dictD pins s σ H _ us Q I r ⟨a, kvs, rfl, hq, q⟩
theorem boot_dict' : bootBuiltins "dict" = some (.type "dict") := by decide +kernel
/-- a new dict at p behind a step -/
theorem new_dict {ks : List Key} {xs : List V} {ds : List D} {p : Addr} {Qd : D → DEnv → Prop} {env1 : DEnv} (s1 : St1 m σ H env H1 env1) (hp : H1 p = none) (hl : ks.length = xs.length) (rs : RDs m.G m.wa H1 (Sx m.So σ env1) ds xs) (q : Qd (.dct false ((ks.map kD).zip ds)) env1)
    (kq : ∀ (ks : List Key) (xs : List V) (ds : List D) p env' H', St1 m σ H env H' env' → RS (m.plus p) σ H' env' → H p = none → H' p = some (.dK (ks.zip xs)) → ks.length = xs.length → RDs m.G m.wa H' (Sx (m.plus p).So σ env') ds xs → Qd (.dct false ((ks.map kD).zip ds)) env' → Q (.ref p) H') : Q (.ref p) (upd H1 p (.dK (ks.zip xs))) := by
  have sb : Sb H1 (Sx m.So σ env1) (Sx (m.plus p).So σ env1) := fun a z => by
    rcases z with (z | rfl) | z
    · exact .inl (.inl z)
    · exact .inr hp
    · exact .inl (.inr z)
  exact kq ks xs ds p env1 _ (s1.trans (St1.new s1.rs hp)) (s1.rs.plus hp noTbl_dK ⟨fun _ z => (nomatch z), fun _ z => (nomatch z)⟩) (s1.nn p hp) upd_same hl (rs.mono (Kp.upd hp) sb) q
theorem de_dnewN : PE X (.Dict [] [] pos) (RdNK m (wpE t Ex (.dnew false))) := by
  refine PE.weak pe_dnewK fun σ H Q ⟨env, Qd, r, w, kq⟩ p hp => ?_
  exact kq [] [] [] p env _ (St1.new r hp) (r.plus hp noTbl_dK ⟨fun _ z => (nomatch z), fun _ z => (nomatch z)⟩) hp upd_same rfl .nil w
theorem de_dictN {q : Pos} (g : GX m X k) (hb : ∀ x ∈ bltNames, X.mg x = none) (hg : Gl X "dict") (al : AL m X t Ex irs (e :: es)) : PE X (.Call (.Name "dict" q) (e :: es) [] pos) (RdNK m (wpE t Ex (.op .dict_ irs))) := by
  have st := al.star
  have hin : ("dict" : Str) ∈ bltNames := by decide +kernel
  obtain ⟨n1, n2⟩ := blt_nd hin
  refine PE.weak (pe_callTy (cr_dictG (m := m) g.calm g.hK) hg (hb _ hin) boot_dict' al.pa n1 n2 (star_nb (st e List.mem_cons_self)) (star_any fun y hy => st y (List.mem_cons_of_mem _ hy))) fun σ H Q ⟨env, Qd, r, w, kq⟩ => ?_
  refine chainL irs ⟨env, _, r, w, fun ds vs env1 H1 s1 ro w1 => ?_⟩
  have w' : wDict ds (fun d => Qd d env1) := w1
  unfold wDict at w'
  split at w'
  · obtain ⟨ps, h1, h2, q⟩ := w'
    obtain ⟨x, rfl, r1⟩ := (ro.rol s1.rs).one
    obtain ⟨a, xs, rfl, ea, ra⟩ := r1.lst
    obtain ⟨ks, vs, es, as, rfl, pr, rfl, hl, rd, _⟩ := pairs_rd h1 h2 ra
    obtain ⟨ks', xs', ds', p1, p2, p3, p4⟩ := merge_ok ks vs es [] [] [] hl rd rfl .nil
    have p1' : mergeK [] (ks.zip vs) = List.zip ks' xs' := p1
    have p2' : putAll [] ((ks.map kD).zip es) = (List.map kD ks').zip ds' := p2
    refine .inl ⟨a, as, ks.zip vs, rfl, SqL.of ea, pr, fun p hp => ?_⟩
    rw [p1']
    rw [p2'] at q
    exact new_dict s1 hp p3 p4 q kq
  · obtain ⟨ps, h1, h2, hz, q⟩ := w'
    obtain ⟨x, rfl, r1⟩ := (ro.rol s1.rs).one
    obtain ⟨a, xs, rfl, ea, ra⟩ := r1.tup
    obtain ⟨ks, vs, es, as, rfl, pr, rfl, hl, rd, _⟩ := pairs_rd h1 h2 ra
    obtain ⟨ks', xs', ds', p1, p2, p3, p4⟩ := merge_ok ks vs es [] [] [] hl rd rfl .nil
    have p1' : mergeK [] (ks.zip vs) = List.zip ks' xs' := p1
    have p2' : putAll [] ((ks.map kD).zip es) = (List.map kD ks').zip ds' := p2
    rw [soft_pairs h1] at ea
    obtain ⟨o, eo, ed⟩ := ea
    refine .inr (.inl ⟨a, o, as, ks.zip vs, rfl, eo, ed, pr, fun p hp => ?_⟩)
    rw [p1']
    rw [p2'] at q
    exact new_dict s1 hp p3 p4 q kq
  · obtain ⟨x, rfl, r1⟩ := (ro.rol s1.rs).one
    obtain ⟨a, ks, xs, es, rfl, rfl, e, hl, ra⟩ := r1.dctF
    exact .inr (.inr ⟨a, _, rfl, e, fun p hp => new_dict s1 hp hl ra w' kq⟩)
  · exact w'.elim
end
end SD

set_option Elab.async false
set_option linter.all false
set_option maxRecDepth 100000
set_option maxHeartbeats 4000000
namespace SD
open PySem PySem.Spec PyProof.Rows L2
section
variable {m : Am} {X : Cx} {k : Nat} {t : Tb} {Ex : ExV → DEnv → Prop} {σ σ' : L2.St} {H H' H1 H2 : Hp} {S S' : Addr → Prop} {env env1 env' : DEnv} {ds : List D} {vs : List V} {Qd : D → Prop} {Q : VK} {d : D} {v : V} {e : Expr} {es : List Expr} {ir : IE} {irs : List IE} {pos : Pos} {p a : Addr} {o u : HO} {tg iter : Expr} {R : It → Hp → Prop} {i j : IE}
/-! ### what is walked, by its kind -/
theorem PI.weak {wi wi' : TI} (h : PI X tg iter wi) (w : ∀ σ H R, wi' σ H R → wi σ H R) : PI X tg iter wi' := ⟨fun pins s σ H R I q => h.run pins s σ H R I (w σ H R q)⟩
theorem SqT.kp {b : Bool} (e : TupAt H a vs b) (n : ¬ S a) : ∀ H2, Kp S H H2 → SqT m.G.K H2 a vs := fun H2 kp => (e.stay kp Sb.refl n).1.sq
theorem itm_rev (e : H a = some (.lst vs)) (n : ¬ S a) (r : RDs m.G m.wa H S ds vs) : Itm m H S (Itv m.G.K a vs.length) ds.reverse where
  go := fun H2 i kp hi => by
    have hi' : i < ds.length := by simpa using hi
    have hl := r.length
    obtain ⟨v, hv, _⟩ := r.get (i := vs.length - 1 - i) (List.getElem?_eq_getElem (by omega))
    exact ⟨by omega, vs, v, SqL.of (kp _ _ e n noTbl_lst), hv⟩
  stop := fun H2 kp => by show vs.length ≤ ds.reverse.length; rw [List.length_reverse, r.length]; exact Nat.le_refl _
  yld := fun H2 S2 i x H3 kp sb fr nt hi y => by
    obtain ⟨rfl, q⟩ := y
    obtain ⟨d, hd, rd⟩ := r.getV (q vs (SqL.of (kp _ _ e n noTbl_lst)))
    have hi' : i < ds.length := by simpa using hi
    have hl := r.length
    exact ⟨d, by rw [List.getElem?_reverse hi', hl]; exact hd, fun _ _ z => z, rd.mono kp sb⟩
theorem wpI_one {kk : IK} {Qi : List D → DEnv → Prop} (nb : isBor i = false) (w : wpI t Ex kk [i] env Qi) : wpE t Ex i env fun d env1 => ∃ items, iterW kk [d] = some items ∧ Qi items env1 := by
  unfold wpI at w
  rw [wpL_nb nb] at w
  exact w
theorem it_any (nb : isBor i = false) (h : RdI m (wpI t Ex .it [i]) σ H R) : iAny m.G.K (RdE m (wpE t Ex i)) σ H R := by
  obtain ⟨env, Qd, r, w, kq⟩ := h
  refine ⟨env, _, r, wpI_one nb w, fun d v env1 H1 s1 ra ⟨items, hi, q⟩ => ?_⟩
  rcases ra with ra | ra
  · cases ra with
    | str x => cases hi; exact .inr (.inr (.inl ⟨_, rfl, kq _ env1 H1 _ s1 (itm_str x) q⟩))
    | tup e n rs => cases hi; exact .inr (.inl ⟨_, _, rfl, e.sq, kq _ env1 H1 _ s1 (itm_tup (SqT.kp e n) rs) q⟩)
    | ktup e rs => cases hi; exact .inr (.inl ⟨_, _, rfl, e.sq, kq _ env1 H1 _ s1 (itm_tup (fun _ _ => e.sq) rs) q⟩)
    | stup e n rs => cases hi; exact .inr (.inl ⟨_, _, rfl, SqT.of e, kq _ env1 H1 _ s1 (itm_tup (fun H2 kp => SqT.of (kp _ _ e n noTbl_tup)) rs) q⟩)
    | lst e n rs => cases hi; exact .inl ⟨_, _, rfl, SqL.of e, kq _ env1 H1 _ s1 (itm_list e n rs) q⟩
    | dK e n l rs => cases hi; exact .inr (.inr (.inr (.inl ⟨_, _, _, rfl, e, kq _ env1 H1 _ s1 (itm_keys e n l rs) q⟩)))
    | dT e n l rs => cases hi; exact .inr (.inr (.inr (.inr ⟨_, _, _, rfl, e, kq _ env1 H1 _ s1 (itm_keysT e n l rs) q⟩)))
    | _ => cases hi
  · have c := m.clo ra
    cases d <;> first | (cases c; done) | cases hi
theorem it_vals (nb : isBor i = false) (h : RdI m (wpI t Ex .vals [i]) σ H R) : iVals (RdE m (wpE t Ex i)) σ H R := by
  obtain ⟨env, Qd, r, w, kq⟩ := h
  refine ⟨env, _, r, wpI_one nb w, fun d v env1 H1 s1 ra ⟨items, hi, q⟩ => ?_⟩
  rcases ra with ra | ra
  · cases ra with
    | dK e n l rs => cases hi; exact ⟨_, _, _, rfl, e, kq _ env1 H1 _ s1 (itm_vals e n l rs) q⟩
    | _ => cases hi
  · have c := m.clo ra
    cases d <;> first | (cases c; done) | cases hi
theorem it_keysM (nb : isBor i = false) (h : RdI m (wpI t Ex .keys [i]) σ H R) : iKeysM (RdE m (wpE t Ex i)) σ H R := by
  obtain ⟨env, Qd, r, w, kq⟩ := h
  refine ⟨env, _, r, wpI_one nb w, fun d v env1 H1 s1 ra ⟨items, hi, q⟩ => ?_⟩
  rcases ra with ra | ra
  · cases ra with
    | dK e n l rs => cases hi; exact ⟨_, _, _, rfl, e, kq _ env1 H1 _ s1 (itm_keys e n l rs) q⟩
    | _ => cases hi
  · have c := m.clo ra
    cases d <;> first | (cases c; done) | cases hi
theorem it_items (nb : isBor i = false) (h : RdI m (wpI t Ex .items [i]) σ H R) : iItems (RdE m (wpE t Ex i)) σ H R := by
  obtain ⟨env, Qd, r, w, kq⟩ := h
  refine ⟨env, _, r, wpI_one nb w, fun d v env1 H1 s1 ra ⟨items, hi, q⟩ => ?_⟩
  rcases ra with ra | ra
  · cases ra with
    | dK e n l rs => cases hi; exact ⟨_, _, _, rfl, e, kq _ env1 H1 _ s1 (itm_items e n l rs) q⟩
    | _ => cases hi
  · have c := m.clo ra
    cases d <;> first | (cases c; done) | cases hi
theorem it_rev (nb : isBor i = false) (h : RdI m (wpI t Ex .rev [i]) σ H R) : RT.iRevA m.G.K (RdE m (wpE t Ex i)) σ H R := by
  obtain ⟨env, Qd, r, w, kq⟩ := h
  refine ⟨env, _, r, wpI_one nb w, fun d v env1 H1 s1 ra ⟨items, hi, q⟩ => ?_⟩
  rcases ra with ra | ra
  · cases ra with
    | lst e n rs => cases hi; exact ⟨_, _, rfl, .inl ⟨SqL.of e, kq _ env1 H1 _ s1 (itm_rev e n rs) q⟩⟩
    | _ => cases hi
  · have c := m.clo ra
    cases d <;> first | (cases c; done) | cases hi
theorem it_enum (nb : isBor i = false) (h : RdI m (wpI t Ex .enum [i]) σ H R) : iEnumA m.G.K (tL ([i].map (tO m t Ex))) σ H R := by
  obtain ⟨env, Qd, r, w, kq⟩ := h
  refine chainL [i] ⟨env, _, r, w, fun ds vs env1 H1 s1 ro ⟨items, hi, q⟩ => ?_⟩
  cases ds with
  | nil => cases vs <;> exact ro.elim
  | cons d ds => cases ds with
    | cons _ _ => cases vs with
      | nil => exact ro.elim
      | cons _ vs => exact absurd ro.2 (by cases vs <;> exact fun z => z)
    | nil =>
      cases vs with
      | nil => exact ro.elim
      | cons v vs =>
        rw [ROs_nb nb] at ro
        obtain ⟨ra, ro⟩ := ro
        cases vs with
        | cons _ _ => exact ro.elim
        | nil =>
          rcases ra with ra | ra
          · cases ra with
            | tup e n rs => cases hi; exact ⟨_, _, rfl, .inr ⟨e.sq, kq _ env1 H1 _ s1 (itm_enumT (SqT.kp e n) rs) q⟩⟩
            | lst e n rs => cases hi; exact ⟨_, _, rfl, .inl ⟨SqL.of e, kq _ env1 H1 _ s1 (itm_enum e n rs) q⟩⟩
            | _ => cases hi
          · have c := m.clo ra
            cases d <;> first | (cases c; done) | cases hi
theorem ROs.one (nb : isBor i = false) (h : ROs m σ H env [i] ds vs) : ∃ d v, ds = [d] ∧ vs = [v] ∧ RA m H (Sx m.So σ env) d v := by
  cases ds with
  | nil => cases vs <;> exact h.elim
  | cons d ds =>
    cases vs with
    | nil => exact h.elim
    | cons v vs =>
      rw [ROs_nb nb] at h
      cases ds with
      | cons _ _ => exact absurd h.2 (by cases vs <;> exact fun z => z)
      | nil => cases vs with
        | cons _ _ => exact absurd h.2 fun z => z
        | nil => exact ⟨d, v, rfl, rfl, h.1⟩
theorem ROs.two (nb : isBor i = false) (nb2 : isBor j = false) (h : ROs m σ H env [i, j] ds vs) : ∃ d v d2 v2, ds = [d, d2] ∧ vs = [v, v2] ∧ RA m H (Sx m.So σ env) d v ∧ RA m H (Sx m.So σ env) d2 v2 := by
  cases ds with
  | nil => cases vs <;> exact h.elim
  | cons d ds =>
    cases vs with
    | nil => exact h.elim
    | cons v vs =>
      rw [ROs_nb nb] at h
      obtain ⟨d2, v2, rfl, rfl, h2⟩ := ROs.one nb2 h.2
      exact ⟨d, v, d2, v2, rfl, rfl, h.1, h2⟩
theorem RA.noclo (c : isClo d = false) (h : RA m H S d v) : RD m.G m.wa H S d v := h.elim id fun z => by
  have q := m.clo z
  rw [c] at q
  cases q
theorem it_range1 (nb : isBor i = false) (h : RdI m (wpI t Ex .range [i]) σ H R) : iRng1 (tL ([i].map (tO m t Ex))) σ H R := by
  obtain ⟨env, Qd, r, w, kq⟩ := h
  refine chainL [i] ⟨env, _, r, w, fun ds vs env1 H1 s1 ro ⟨items, hi, q⟩ => ?_⟩
  obtain ⟨d, v, rfl, rfl, ra⟩ := ro.one nb
  cases d with
  | int n =>
    simp only [iterW] at hi
    split at hi
    · rename_i hb
      cases hi
      cases ra.noclo rfl
      have e : ((List.range n.toNat).map fun (k : Nat) => D.int (k : Int)) = (List.range n.toNat).map fun (k : Nat) => D.int (0 + (k : Int)) := by simp
      rw [e] at q
      exact ⟨n, rfl, hb.1, hb.2, kq _ env1 H1 _ s1 itm_range q⟩
    · cases hi
  | _ => cases hi
theorem it_range2 (nb : isBor i = false) (nb2 : isBor j = false) (h : RdI m (wpI t Ex .range [i, j]) σ H R) : iRng2 (tL ([i, j].map (tO m t Ex))) σ H R := by
  obtain ⟨env, Qd, r, w, kq⟩ := h
  refine chainL [i, j] ⟨env, _, r, w, fun ds vs env1 H1 s1 ro ⟨items, hi, q⟩ => ?_⟩
  obtain ⟨d, v, d2, v2, rfl, rfl, ra, ra2⟩ := ro.two nb nb2
  cases d with
  | int a =>
    cases d2 with
    | int b =>
      simp only [iterW] at hi
      split at hi
      · rename_i hb
        cases hi
        cases ra.noclo rfl
        cases ra2.noclo rfl
        exact ⟨a, b, rfl, hb, kq _ env1 H1 _ s1 itm_range q⟩
      · cases hi
    | _ => cases hi
  | _ => cases hi
theorem it_zip (nb : isBor i = false) (nb2 : isBor j = false) (h : RdI m (wpI t Ex .zip [i, j]) σ H R) : RZ.iZipA m.G.K (tL ([i, j].map (tO m t Ex))) σ H R := by
  obtain ⟨env, Qd, r, w, kq⟩ := h
  refine chainL [i, j] ⟨env, _, r, w, fun ds vs env1 H1 s1 ro ⟨items, hi, q⟩ => ?_⟩
  obtain ⟨d, v, d2, v2, rfl, rfl, ra, ra2⟩ := ro.two nb nb2
  cases d with
  | tup l =>
    cases d2 with
    | tup l2 =>
      cases hi
      cases ra.noclo rfl with
      | tup e n rs => cases ra2.noclo rfl with
        | tup e2 n2 rs2 => exact ⟨_, _, _, _, rfl, .inr ⟨e.sq, e2.sq, kq _ env1 H1 _ s1 (itm_zipT (SqT.kp e n) rs (SqT.kp e2 n2) rs2) q⟩⟩
    | _ => cases hi
  | lst l =>
    cases d2 with
    | lst l2 =>
      cases hi
      cases ra.noclo rfl with
      | lst e n rs => cases ra2.noclo rfl with
        | lst e2 n2 rs2 => exact ⟨_, _, _, _, rfl, .inl ⟨SqL.of e, SqL.of e2, kq _ env1 H1 _ s1 (itm_zip e n rs e2 n2 rs2) q⟩⟩
    | _ => cases hi
  | _ => cases hi
/-! ### the text of what is walked -/
def isTup : Expr → Bool
  | .Tuple _ _ _ => true
  | _ => false
def foldB : Expr → Bool
  | .Set _ _ _ => false
  | _ => true
theorem fold_ok {en : PySem.Env} (h : foldB iter = true) : ∀ x, foldedSetIterable iter en x = pure x := fun x => by cases iter <;> first | rfl | cases h
def itFn : IK → Str
  | .range => "range" | .enum => "enumerate" | .zip => "zip" | .rev => "reversed" | _ => ""
def itMt : IK → Str
  | .keys => "keys" | .vals => "values" | .items => "items" | _ => ""
def itArgs (sc : Scope) (kk : IK) (tg iter : Expr) : Option (List Expr) :=
  match kk with
  | .it => if foldB iter = true ∧ notStar iter = true then some [iter] else none
  | _ => match iter with
    | .Call (.Name x _) args [] _ => if x = itFn kk ∧ glB sc x = true ∧ ((kk = .range ∧ (args.length = 1 ∨ args.length = 2)) ∨ (kk = .enum ∧ args.length = 1 ∧ isTup tg = true) ∨ (kk = .zip ∧ args.length = 2 ∧ isTup tg = true) ∨ (kk = .rev ∧ args.length = 1)) then some args else none
    | .Call (.Attribute r nm apos) [] [] cpos => if nm = itMt kk ∧ baseB r = true ∧ (apos.endLine == cpos.line) = true ∧ notStar r = true ∧ (kk = .keys ∨ kk = .vals ∨ (kk = .items ∧ isTup tg = true)) then some [r] else none
    | _ => none
theorem pi_iter {sc : Scope} {kk : IK} {src : List IE} (g : GX m X k) (hsc : X.env.scope = sc) (hb : ∀ x ∈ bltNames, X.mg x = none) (h : itArgs sc kk tg iter = some es) (al : AL m X t Ex src es) (nb : ∀ i ∈ src, isBor i = false) : PI X tg iter (RdI m (wpI t Ex kk src)) := by
  unfold itArgs at h
  split at h
  · split at h
    · cases h
      obtain ⟨i, rfl, h1, h2⟩ := al.one
      have n1 := nb i List.mem_cons_self
      rw [tO_nb n1] at h1
      exact PI.weak (pi_any h1) fun σ H R q => by rw [g.hK]; exact it_any n1 q
    · cases h
  · split at h
    · split at h
      · rename_i hh
        cases h
        obtain ⟨rfl, hg, h3⟩ := hh
        have gl := Gl.of hsc hg
        rcases h3 with ⟨rfl, h3⟩ | ⟨rfl, h3, h4⟩ | ⟨rfl, h3, h4⟩ | ⟨rfl, h3⟩
        · have hm : X.mg "range" = none := hb _ (by decide +kernel)
          rcases h3 with h3 | h3
          · match es, h3 with
            | [a], _ =>
              obtain ⟨i, rfl, h1, h2⟩ := al.one
              exact PI.weak (pi_range1 gl hm al.pa (star_nb h2)) fun σ H R q => it_range1 (nb i List.mem_cons_self) q
          · match es, h3 with
            | [a, b], _ =>
              obtain ⟨i, j, rfl, h1, h2⟩ := al.two
              have st := al.star
              exact PI.weak (pi_range2 gl hm al.pa (by rw [star_nb (st a List.mem_cons_self), star_nb (st b (List.mem_cons_of_mem _ List.mem_cons_self))]; rfl) (by rw [star_nb (st b (List.mem_cons_of_mem _ List.mem_cons_self))]; rfl)) fun σ H R q => it_range2 (nb i List.mem_cons_self) (nb j (List.mem_cons_of_mem _ List.mem_cons_self)) q
        · have hm : X.mg "enumerate" = none := hb _ (by decide +kernel)
          match es, h3 with
          | [a], _ =>
            obtain ⟨i, rfl, h1, h2⟩ := al.one
            cases tg <;> first | (cases h4; done) | skip
            exact PI.weak (pi_enumA gl hm al.pa (star_nb h2)) fun σ H R q => by rw [g.hK]; exact it_enum (nb i List.mem_cons_self) q
        · have hm : X.mg "zip" = none := hb _ (by decide +kernel)
          match es, h3 with
          | [a, b], _ =>
            obtain ⟨i, j, rfl, h1, h2⟩ := al.two
            have st := al.star
            cases tg <;> first | (cases h4; done) | skip
            exact PI.weak (RZ.pi_zipA gl hm al.pa (star_nb (st a List.mem_cons_self)) (star_any fun y hy => st y (List.mem_cons_of_mem _ hy))) fun σ H R q => by rw [g.hK]; exact it_zip (nb i List.mem_cons_self) (nb j (List.mem_cons_of_mem _ List.mem_cons_self)) q
        · have hm : X.mg "reversed" = none := hb _ (by decide +kernel)
          match es, h3 with
          | [a], _ =>
            obtain ⟨i, rfl, h1, h2⟩ := al.one
            have n1 := nb i List.mem_cons_self
            rw [tO_nb n1] at h1
            exact PI.weak (RT.pi_revA gl hm h1 (star_nb h2)) fun σ H R q => by rw [g.hK]; exact it_rev n1 q
      · cases h
    · split at h
      · rename_i hh
        cases h
        obtain ⟨rfl, hbs, hline, hst, h3⟩ := hh
        obtain ⟨i, rfl, h1, h2⟩ := al.one
        have n1 := nb i List.mem_cons_self
        rw [tO_nb n1] at h1
        rcases h3 with rfl | rfl | ⟨rfl, h4⟩
        · exact PI.weak (pi_keysM h1 (base_okB hbs) hline) fun σ H R q => it_keysM n1 q
        · exact PI.weak (pi_values h1 (base_okB hbs) hline) fun σ H R q => it_vals n1 q
        · cases tg <;> first | (cases h4; done) | skip
          exact PI.weak (pi_items h1 (base_okB hbs) hline) fun σ H R q => it_items n1 q
      · cases h
    · cases h
end
end SD

set_option Elab.async false
set_option linter.all false
set_option maxRecDepth 100000
set_option maxHeartbeats 4000000
namespace SD
open PySem PySem.Spec PyProof.Rows L2
/-! ## own classes: fields, properties, isinstance -/
/-- what a call of a def wants (no closures) -/
def spC (G : Wd) (ps : List Str) (C : Contract) : Sp := fun vs H Q E => ∃ (ds : List D) (wa : Addr) (So : Addr → Prop) (Qd : D → Prop) (Ed : ExV → Prop), ds.length = ps.length ∧ RDs G wa H So ds vs ∧ Amb G wa So H ∧ C ds Qd Ed ∧
  (∀ d v H', FrC G wa H H' → Amb G wa So H' → RD G wa H' So d v → Qd d → Q v H') ∧ (∀ x cls dx H', FrC G wa H H' → Amb G wa So H' → REx G wa H' So x cls dx → Ed x → E cls dx H')
/-- the class c, named x, whose instances have the fields fl -/
structure FldC (G : Wd) (c : Nat) (x : Str) (fl : List Str) : Prop where
  nm : G.mg x = some (.ref (G.cls c))
  fe : G.fld c = fl
  ins : C8.InsC G.K (G.cls c)
  na : ∀ f ∈ fl, NoAttr G.K (G.cls c) f
  nd : fl.Nodup
/-- a property of the class c; its getter is told by g -/
structure PrpG (G : Wd) (k c : Nat) (g : GD) : Prop where
  run : ∃ (pa gf : Addr) (fd : FuncData) (j : Nat), PropOf G.K (G.cls c) g.name pa gf ∧ FnOk G.P G.w G.K G.mg G.base (CX G.P G.w) j gf fd g.ps (spC G g.ps g.C) ∧ Binds G.K fd g.ps [] ∧ j + 1 ≤ k
  cl : Cls G.K (G.cls c)
  ps : g.ps.length = 1
theorem PrpG.mono {G : Wd} {j k c : Nat} {g : GD} (h : PrpG G j c g) (l : j ≤ k) : PrpG G k c g := by
  obtain ⟨⟨pa, gf, fd, i, a, b, d, e⟩, cl, ps⟩ := h
  exact ⟨⟨pa, gf, fd, i, a, b, d, Nat.le_trans e l⟩, cl, ps⟩
theorem lookup_zip {f : Str} : ∀ {fl : List Str} {xs : List V} {i : Nat} {x : V}, fl.Nodup → fl[i]? = some f → xs[i]? = some x → (fl.zip xs).lookup f = some x
  | [], _, i, _, _, h, _ => by simp at h
  | _ :: _, [], i, _, _, _, h => by simp at h
  | g :: fl, y :: xs, 0, x, _, h1, h2 => by
    cases h1; cases h2
    simp [List.lookup]
  | g :: fl, y :: xs, i + 1, x, nd, h1, h2 => by
    have n2 := List.nodup_cons.mp nd
    have h1' : fl[i]? = some f := by simpa using h1
    have hne : (f == g) = false := beq_eq_false_iff_ne.mpr fun e => n2.1 (e ▸ List.mem_of_getElem? h1')
    rw [List.zip_cons_cons, List.lookup_cons, hne]
    exact lookup_zip n2.2 h1' (by simpa using h2)
section
variable {m : Am} {X : Cx} {k : Nat} {t : Tb} {Ex : ExV → DEnv → Prop} {e : Expr} {ir : IE} {pos : Pos}
theorem obj_at {H : Hp} {S : Addr → Prop} {c : Nat} {fs : List D} {v : V} (r : RA m H S (.obj c fs) v) : ∃ (a dx : Addr) (xs : List V), v = .ref a ∧ H a = some (.ins (m.G.cls c) dx ((m.G.fld c).zip xs)) ∧ ¬ S a ∧ (m.G.fld c).length = xs.length ∧ RDs m.G m.wa H S fs xs := by
  rcases r with r | r
  · cases r with
    | obj h1 h2 h3 h4 => exact ⟨_, _, _, rfl, h1, h2, h3, h4⟩
  · cases m.clo r
theorem de_fld {c i : Nat} {x f : Str} {fl : List Str} (g : GX m X k) (hf : FldC m.G c x fl) (hi : fl[i]? = some f) (he : DE m X t Ex ir e) (hb : baseB e = true) : DE m X t Ex (.fld c i ir) (.Attribute e f pos) := by
  refine PE.weak (pe_fld he (base_okB hb)) fun σ H Q ⟨env, Qd, r, w, kq⟩ => ⟨env, _, r, w, fun d v env' H' s ra ⟨fs, y, e1, e2, q⟩ => ?_⟩
  subst e1
  obtain ⟨a, dx, xs, rfl, h1, h2, h3, h4⟩ := obj_at ra
  rw [hf.fe] at h1
  obtain ⟨v', hv, rv⟩ := h4.get e2
  refine ⟨a, _, dx, _, v', rfl, h1, ?_, ?_, lookup_zip hf.nd hi hv, kq y v' env' H' s (.inl rv) q⟩
  · rw [g.hK]; exact hf.ins.cl
  · rw [g.hK]; exact hf.na f (List.mem_of_getElem? hi)
theorem de_isc {c : Nat} {x : Str} {fl : List Str} {p p2 : Pos} (g : GX m X k) (hb : ∀ x ∈ bltNames, X.mg x = none) (hf : FldC m.G c x fl) (hg : Gl X "isinstance") (hgx : Gl X x) (hd : (x == ("__debug__" : Str)) = false) (he : DE m X t Ex ir e) (hs : notStar e = true) :
    DE m X t Ex (.isc c ir) (.Call (.Name "isinstance" p) [e, .Name x p2] [] pos) := by
  have hm : X.mg "isinstance" = none := hb _ (by decide +kernel)
  have ins : C8.InsC X.K (m.G.cls c) := by rw [g.hK]; exact hf.ins
  have hn : X.mg x = some (.ref (m.G.cls c)) := by rw [g.hmg]; exact hf.nm
  have pn : PE X (.Name x p2) (tC (.ref (m.G.cls c))) := pe_glob hgx hn rfl hd
  refine PE.weak (pe_callB (C8.call_isC ins) hg hm boot_isi' (pa_cons he (pa_cons pn pa_nil rfl) (star_nb hs)) (by decide +kernel) (by decide +kernel) (star_nb hs) rfl) fun σ H Q ⟨env, Qd, r, w, kq⟩ => ?_
  refine ⟨env, _, r, w, fun d v env' H' s ra ⟨⟨fs, e1⟩, q⟩ => ?_⟩
  subst e1
  obtain ⟨a, dx, xs, rfl, h1, h2, h3, h4⟩ := obj_at ra
  exact ⟨a, dx, _, rfl, h1, kq (.bl true) (.bl true) env' H' s (.inl (.bl true)) q⟩
theorem de_prop {c n : Nat} (g : GX m X k) (hp : PrpG m.G k c (t.gd n)) (he : DE m X t Ex ir e) (hb : baseB e = true) : DE m X t Ex (.prop c n ir) (.Attribute e (t.gd n).name pos) := by
  obtain ⟨⟨pa, gf, fd, j, hpo, F, hbi, lj⟩, hcl, hps⟩ := hp
  rw [← g.hP, ← g.hw, ← g.hK, ← g.hmg, ← g.hb] at F
  rw [← g.hK] at hpo hbi hcl
  refine PE.weak (pe_prop (E := fun _ _ _ => False) he hcl hpo F (g.room.mono lj) hbi .nil (fun _ _ _ _ _ _ _ z => by obtain ⟨_, _, _, _, _, _, _, _, _, _, _, _, z⟩ := z; exact z) (base_okB hb)) fun σ H Q ⟨env, Qd, r, w, kq⟩ => ?_
  refine ⟨env, _, r, w, fun d v env' H' s ra ⟨⟨fs, e1⟩, hC⟩ => ?_⟩
  subst e1
  obtain ⟨a, dx, xs, rfl, h1, h2, h3, h4⟩ := obj_at ra
  refine ⟨a, dx, _, rfl, h1, [.obj c fs], m.wa, Sx m.So σ env', _, fun _ => False, hps.symm, .cons (.obj h1 h2 h3 h4) .nil, s.rs.amb, hC, fun d v H2 fr am rd q => ?_, fun _ _ _ _ _ _ _ z => z⟩
  have s2 := s.rs.call fr am
  exact kq d v env' H2 (s.trans s2) (.inl rd) q
end
end SD

set_option Elab.async false
set_option linter.all false
set_option maxRecDepth 100000
set_option maxHeartbeats 4000000
namespace SD
open PySem PySem.Spec PyProof.Rows L2

/-! ## the small language against the text -/
def visB (sc : Scope) (x : Str) : Bool := decide (sc.names.lookup x = some .local) || decide (sc.names.lookup x = some .cell) || decide (sc.names.lookup x = some .free)
def varB (N : List Str) (sc : Scope) (i : Nat) : Expr → Bool
  | .Name x _ => decide (N[i]? = some x) && visB sc x && !(x == ("__debug__" : Str)) && !(x == ("__classdict__" : Str))
  | _ => false
def litB : D → Expr → Bool
  | .int i, .Constant (.int j) _ _ => decide (i = j)
  | .bl b, .Constant (.bool c) _ _ => b == c
  | .non, .Constant .none _ _ => true
  | .str x, .Constant (.str y) _ _ => decide (x = y.cps.toList)
  | _, _ => false
def ownV (N : List Str) (vs : List Nat) : List (Str × Nat) := vs.map fun v => (N.getD v default, v)
theorem ownV_snd {N : List Str} {vs : List Nat} : (ownV N vs).map (·.2) = vs := by
  unfold ownV
  rw [List.map_map]
  exact List.map_id _
def fnOf (scope : Scope) : Str → Bool := fun x => scope.names.lookup x == some .cell
/-- no cell of a block bears the empty name: so are the blocks told from a def's own frame -/
def blkX (N : List Str) (sc scope : Scope) (own : List (Str × Nat)) : Bool := blkC N sc scope own && !(fnOf scope "")
theorem blkX_c {N : List Str} {sc scope : Scope} {own : List (Str × Nat)} (h : blkX N sc scope own = true) : blkC N sc scope own = true := (Bool.and_eq_true_iff.mp h).1
theorem blkX_f {N : List Str} {sc scope : Scope} {own : List (Str × Nat)} (h : blkX N sc scope own = true) : fnOf scope "" = false := by simpa using (Bool.and_eq_true_iff.mp h).2
mutual
def tstB : IE → Bool
  | .ite _ _ _ => false
  | .and l => tstBs l
  | .or l => tstBs l
  | .not a => tstB a
  | _ => true
def tstBs : List IE → Bool
  | [] => true
  | e :: es => tstB e && tstBs es
end
section
variable (t : Tb) (N : List Str)
mutual
def chkE : IE → Scope → (Str → Bool) → Expr → Bool
  | .var i, sc, _, e => varB N sc i e
  | .bor i, sc, _, e => varB N sc i e
  | .lit d, _, _, e => litB d e
  | .con k, sc, _, e => match e with
    | .Name x _ => decide (x = t.cnm k) && glB sc x && t.hc k && !(x == ("__debug__" : Str))
    | _ => false
  | .op o args, sc, fn, e => match argsOf sc o e with
    | some es => !es.isEmpty && chkL args sc fn es
    | none => match e with
      | .Call (.Name x _) (a :: es) [] _ => decide (o = .dict_) && decide (x = "dict") && glB sc x && chkL args sc fn (a :: es)
      | _ => false
  | .tup l, sc, fn, e => match e with
    | .Tuple es _ _ => l.all (fun i => !isBor i) && decide (l.length ≤ 1000) && chkL l sc fn es
    | _ => false
  | .lst l, sc, fn, e => match e with
    | .List es _ => l.all (fun i => !isBor i) && decide (l.length ≤ 1000) && chkL l sc fn es
    | _ => false
  | .and l, sc, fn, e => match e with
    | .BoolOp .And es _ => l.all (fun i => !isBor i) && !l.isEmpty && chkL l sc fn es
    | _ => false
  | .or l, sc, fn, e => match e with
    | .BoolOp .Or es _ => l.all (fun i => !isBor i) && !l.isEmpty && chkL l sc fn es
    | _ => false
  | .not a, sc, fn, e => match e with
    | .UnaryOp .Not x _ => !isBor a && chkE a sc fn x
    | _ => false
  | .ite c a b, sc, fn, e => match e with
    | .IfExp ec ea eb _ => !isBor c && !isBor a && !isBor b && tstB c && chkE c sc fn ec && chkE a sc fn ea && chkE b sc fn eb
    | _ => false
  | .chain o p a b c, sc, fn, e => match e with
    | .Compare ea [o1, o2] [eb, ec] _ => decide (cmpO o = some o1) && decide (cmpO p = some o2) && !lastMarks [o1, o2] [eb, ec] && !isBor a && !isBor b && !isBor c && chkE a sc fn ea && chkE b sc fn eb && chkE c sc fn ec
    | _ => false
  | .call k args, sc, fn, e => match e with
    | .Call (.Name x _) es [] _ => t.hs k && decide ((t.gd k).name = x) && glB sc x && !(x == ("__debug__" : Str)) && !es.isEmpty && chkL args sc fn es
    | _ => false
  | .callv i args, sc, fn, e => match e with
    | .Call (.Name x p) es [] _ => fn "" && varB N sc i (.Name x p) && !es.isEmpty && chkL args sc fn es
    | _ => false
  | .mut o i args, sc, fn, e => match e with
    | .Call (.Attribute r nm apos) es [] cpos => varB N sc i r && baseB r && (match mutO o with | some (n, l) => decide (nm = Str.ofString n) && decide (l = es.length) | none => false) && decide (es.length < 29) && (apos.endLine == cpos.line) && args.all (fun i => !isBor i) && chkL args sc fn es
    | _ => false
  | .meth o ri args, sc, fn, e => match e with
    | .Call (.Attribute r nm apos) es [] cpos => chkE ri sc fn r && baseB r && (match methO o with | some (_, n, l) => decide (nm = Str.ofString n) && decide (l = es.length) | none => false) && !es.isEmpty && decide (es.length < 29) && (apos.endLine == cpos.line) && chkL args sc fn es
    | .Call (.Name x _) [.Call (.Attribute r nm apos) [] [] cpos] [] _ => chkE ri sc fn r && baseB r && (match viewO o with | some (f, n) => decide (x = Str.ofString f) && decide (nm = Str.ofString n) | none => false) && (apos.endLine == cpos.line) && args.isEmpty && glB sc x
    | _ => false
  | .comp vs T ik src cs ex, sc, fn, e => match e with
    | .ListComp elt [⟨tg, iter, ifs, 0⟩] scope _ => (match itArgs sc ik tg iter with
        | some es => src.all (fun i => !isBor i) && foldB iter && blkX N sc scope (ownV N vs) && (namesT T).all (fun i => decide (i ∈ vs)) && tgOk N (relS scope sc) (fnOf scope) T tg && cs.all (fun i => !isBor i && tstB i) && decide (cs.length ≤ 1) && !isBor ex &&
            chkL src sc fn es && chkM cs (relS scope sc) (fnOf scope) ifs && chkE ex (relS scope sc) (fnOf scope) elt
        | none => false)
    | _ => false
  | .dcomp tk vs T ik src cs kx ex, sc, fn, e => match e with
    | .DictComp kel elt [⟨tg, iter, ifs, 0⟩] scope _ => (match itArgs sc ik tg iter with
        | some es => !tk && src.all (fun i => !isBor i) && foldB iter && blkX N sc scope (ownV N vs) && (namesT T).all (fun i => decide (i ∈ vs)) && tgOk N (relS scope sc) (fnOf scope) T tg && cs.all (fun i => !isBor i && tstB i) && decide (cs.length ≤ 1) && !isBor kx && !isBor ex &&
            chkL src sc fn es && chkM cs (relS scope sc) (fnOf scope) ifs && chkE kx (relS scope sc) (fnOf scope) kel && chkE ex (relS scope sc) (fnOf scope) elt
        | none => false)
    | _ => false
  | .dnew tk, _, _, e => match e with
    | .Dict [] [] _ => !tk
    | _ => false
  | .wget i c, sc, _, e => match e with
    | .Subscript o (.Constant (.int n) _ _) _ => varB N sc i o && decide (n = (c : Int))
    | _ => false
  | .bot, _, _, _ => true
  | .lam _, _, _, _ => false
  | .callk k ks p args, sc, fn, e => match e with
    | .Call (.Name x _) [] kws _ => t.hs k && decide ((ks, p) ∈ (t.gd k).kws) && decide ((t.gd k).name = x) && glB sc x && !(x == ("__debug__" : Str)) && kwNames kws ks && decide (kws.length = ks.length) && chkL args sc fn (kws.map (·.value))
    | _ => false
  | .callp k args, sc, fn, e => match e with
    | .Call (.Name x _) es [] _ => fn "" && t.hs k && decide ((t.gd k).name = x) && glB sc x && !(x == ("__debug__" : Str)) && !es.isEmpty && chkL args sc fn es
    | _ => false
  | .prop c n r, sc, fn, e => match e with
    | .Attribute o nm _ => t.hp c n && decide ((t.gd n).name = nm) && !isBor r && baseB o && chkE r sc fn o
    | _ => false
  | .isc c r, sc, fn, e => match e with
    | .Call (.Name x _) [o, .Name y _] [] _ => decide (x = ("isinstance" : Str)) && glB sc x && t.hl c && decide (y = t.cln c) && glB sc y && !(y == ("__debug__" : Str)) && !isBor r && notStar o && chkE r sc fn o
    | _ => false
  | .fld c i r, sc, fn, e => match e with
    | .Attribute o nm _ => t.hl c && decide ((t.fl c)[i]? = some nm) && !isBor r && baseB o && chkE r sc fn o
    | _ => false
  | .callc k args c, sc, fn, e => match e with
    | .Call (.Name x _) es [] _ => fn "" && t.own c && t.hs k && decide ((t.gd k).name = x) && glB sc x && !(x == ("__debug__" : Str)) && !es.isEmpty && chkL args sc fn es
    | _ => false
def chkL : List IE → Scope → (Str → Bool) → List Expr → Bool
  | [], _, _, [] => true
  | i :: is, sc, fn, e :: es => notStar e && chkE i sc fn e && chkL is sc fn es
  | _, _, _, _ => false
def chkM : List IE → Scope → (Str → Bool) → List Expr → Bool
  | [], _, _, [] => true
  | i :: is, sc, fn, e :: es => chkE i sc fn e && chkM is sc fn es
  | _, _, _, _ => false
end
end
/-- what a rule asks of its surroundings -/
structure SX (m : Am) (X : Cx) (k : Nat) (t : Tb) (Ex : ExV → DEnv → Prop) : Prop where
  g : GX m X k
  xh : XH m X Ex
  ch : X.fn "" = true → CH m X
  hb : ∀ x ∈ bltNames, X.mg x = none
  gd : ∀ n, t.hs n = true → HasG m.G k (t.gd n) n
  gc : ∀ n, t.hcc n = true → HasC m.G k (t.cc n) n
  oh : X.fn "" = true → OH m X t
  cn : ∀ n, t.hc n = true → ∃ v u, X.mg (t.cnm n) = some u ∧ RelV v u ∧ ∀ H S, RD m.G m.wa H S (t.con n) v
  gp : ∀ c n, t.hp c n = true → PrpG m.G k c (t.gd n)
  gl : ∀ c, t.hl c = true → FldC m.G c (t.cln c) (t.fl c)
theorem takes_no {X : Cx} : Takes X fun _ _ _ _ => False := fun _ _ ⟨_, _, _, _, _, _, _, _, _, _, _, _, _, _, _, _, w⟩ => w.elim
theorem SX.blk {m : Am} {X : Cx} {k : Nat} {t : Tb} {Ex} (h : SX m X k t Ex) (D : Addr) (s : Shared) (H : Hp) (scope : Scope) (en : PySem.Env) (fp : List Addr) (h0 : fnOf scope "" = false) : SX (m.plus D) (X.blk s H scope en fp) k t noEx where
  g := ⟨h.g.hP, h.g.hw, h.g.hK, h.g.hmg, h.g.hb, h.g.nd, h.g.calm, h.g.room⟩
  xh := ⟨⟨_, takes_no, fun _ _ _ _ _ _ _ _ z => z⟩⟩
  ch := fun z => by
    have z' : fnOf scope "" = true := z
    rw [h0] at z'; cases z'
  hb := h.hb
  gd := h.gd
  gc := h.gc
  oh := fun z => by
    have z' : fnOf scope "" = true := z
    rw [h0] at z'; cases z'
  cn := h.cn
  gp := h.gp
  gl := h.gl
section
variable {t : Tb} {N : List Str}
theorem var_ok {X : Cx} {i : Nat} {e : Expr} (hN : X.N = N) (h : varB N X.env.scope i e = true) : PE X e (tVar i) := by
  cases e <;> first | (cases h; done) | skip
  rename_i x p
  subst hN
  simp only [varB, visB, Bool.and_eq_true, Bool.or_eq_true, decide_eq_true_eq, Bool.not_eq_true'] at h
  obtain ⟨⟨⟨h1, h2⟩, h3⟩, h4⟩ := h
  exact pe_var h1 (h2.elim (fun z => z.elim .inl fun q => .inr (.inl q)) fun z => .inr (.inr z)) h3 h4
theorem lit_ok {m : Am} {X : Cx} {Ex} {d : D} {e : Expr} (h : litB d e = true) : DE m X t Ex (.lit d) e := by
  cases d <;> cases e <;> first | (cases h; done) | skip
  all_goals (rename_i c _ _; cases c <;> first | (cases h; done) | skip)
  · exact de_const pe_non (fun _ _ => .non) fun _ _ => rfl
  · rename_i b _ _ c
    have e : b = c := by simpa [litB] using h
    subst e
    exact de_const pe_bl (fun _ _ => .bl _) fun _ _ => rfl
  · rename_i b _ _ c
    have e : b = c := by simpa [litB] using h
    subst e
    exact de_const pe_int (fun _ _ => .int _) fun _ _ => rfl
  · rename_i x _ _ y
    have e : x = y.cps.toList := by simpa [litB] using h
    subst e
    exact de_const (v := .str y) pe_str (fun H S => by have q := RD.str (G := m.G) (wa := m.wa) (H := H) (S := S) y.cps.toList; simpa using q) fun _ _ => rfl
theorem plain_lit {d : D} {e : Expr} (h : litB d e = true) : plainTest e = true := by cases d <;> cases e <;> first | rfl | (cases h; done)
theorem plain_var {sc : Scope} {i : Nat} {e : Expr} (h : varB N sc i e = true) : plainTest e = true := by cases e <;> first | rfl | (cases h; done)
theorem allNb {l : List IE} (h : l.all (fun i => !isBor i) = true) : ∀ i ∈ l, isBor i = false := fun i hi => by
  have q := List.all_eq_true.mp h i hi
  simpa using q
/-- what holds of an expression that stands the check -/
def ChkP (m : Am) (X : Cx) (t : Tb) (Ex : ExV → DEnv → Prop) (ir : IE) (e : Expr) : Prop := PE X e (tO m t Ex ir) ∧ (isBor ir = false → tstB ir = true → DT m X t Ex ir e)
theorem ChkP.of {m : Am} {X : Cx} {Ex} {ir : IE} {e : Expr} (h : Both m X t Ex ir e) (nb : isBor ir = false) : ChkP m X t Ex ir e := ⟨by rw [tO_nb nb]; exact h.v, fun _ _ => h.b⟩
theorem ChkP.de {m : Am} {X : Cx} {Ex} {ir : IE} {e : Expr} (h : ChkP m X t Ex ir e) (nb : isBor ir = false) : DE m X t Ex ir e := by have q := h.1; rw [tO_nb nb] at q; exact q
def AllP (m : Am) (X : Cx) (t : Tb) (Ex : ExV → DEnv → Prop) : List IE → List Expr → Prop
  | [], [] => True
  | i :: is, e :: es => ChkP m X t Ex i e ∧ AllP m X t Ex is es
  | _, _ => False
theorem AllP.bl {m : Am} {X : Cx} {Ex} : ∀ {is : List IE} {es : List Expr}, (∀ i ∈ is, isBor i = false) → AllP m X t Ex is es → BL m X t Ex is es
  | [], [], _, _ => trivial
  | i :: is, e :: es, nb, h => ⟨h.1.de (nb i List.mem_cons_self), AllP.bl (fun j hj => nb j (List.mem_cons_of_mem _ hj)) h.2⟩
  | [], _ :: _, _, h => h.elim
  | _ :: _, [], _, h => h.elim
theorem AllP.tl {m : Am} {X : Cx} {Ex} : ∀ {is : List IE} {es : List Expr}, (∀ i ∈ is, isBor i = false) → tstBs is = true → AllP m X t Ex is es → TL m X t Ex is es
  | [], [], _, _, _ => trivial
  | i :: is, e :: es, nb, ht, h => by
    have ht' : (tstB i && tstBs is) = true := by unfold tstBs at ht; exact ht
    rw [Bool.and_eq_true] at ht'
    exact ⟨h.1.2 (nb i List.mem_cons_self) ht'.1, AllP.tl (fun j hj => nb j (List.mem_cons_of_mem _ hj)) ht'.2 h.2⟩
  | [], _ :: _, _, _, h => h.elim
  | _ :: _, [], _, _, h => h.elim
theorem AllP.cs {m : Am} {X : Cx} {Ex} {cs : List IE} {ifs : List Expr} (hc : cs.all (fun i => !isBor i && tstB i) = true) (hl : cs.length ≤ 1) (h : AllP m X t Ex cs ifs) : PTs X ifs (RdC m (wpCs t Ex cs)) := by
  match cs, ifs, h with
  | [], [], _ => exact pts_cs0
  | [c], [i], h =>
    have q : (!isBor c && tstB c) = true := List.all_eq_true.mp hc c List.mem_cons_self
    simp only [Bool.and_eq_true, Bool.not_eq_true'] at q
    exact pts_cs1 (h.1.2 q.1 q.2)
  | _ :: _ :: _, _, _ => exact absurd hl (by simp)
  | [_], _ :: _ :: _, h => exact h.2.elim
mutual
theorem chk_ok : ∀ (ir : IE) {m : Am} {X : Cx} {k : Nat} {Ex : ExV → DEnv → Prop} {e : Expr}, SX m X k t Ex → X.N = N → chkE t N ir X.env.scope X.fn e = true → ChkP m X t Ex ir e
  | .var i, m, X, k, Ex, e, hx, hN, h => .of (both_of hx.g (de_var (var_ok hN (by unfold chkE at h; exact h))) (plain_var (by unfold chkE at h; exact h))) rfl
  | .bor i, m, X, k, Ex, e, hx, hN, h => ⟨var_ok hN (by unfold chkE at h; exact h), fun z => by cases z⟩
  | .lit d, m, X, k, Ex, e, hx, hN, h => .of (both_of hx.g (lit_ok (by unfold chkE at h; exact h)) (plain_lit (by unfold chkE at h; exact h))) rfl
  | .con n, m, X, k, Ex, e, hx, hN, h => by
    unfold chkE at h
    split at h
    · simp only [Bool.and_eq_true, decide_eq_true_eq, Bool.not_eq_true'] at h
      obtain ⟨⟨⟨rfl, h2⟩, h3⟩, h4⟩ := h
      obtain ⟨v, u, h5, h6, h7⟩ := hx.cn n h3
      exact .of (both_of hx.g (de_const (pe_glob (Gl.of rfl h2) h5 h6 h4) h7 fun _ _ => rfl) rfl) rfl
    · cases h
  | .op o args, m, X, k, Ex, e, hx, hN, h => by
    unfold chkE at h
    split at h
    · rename_i es he
      simp only [Bool.and_eq_true, Bool.not_eq_true'] at h
      exact .of (op_sound hx.g rfl hx.hb he (chkL_ok args hx hN h.2) (by cases es; cases h.1; simp)) rfl
    · split at h
      · simp only [Bool.and_eq_true, decide_eq_true_eq] at h
        obtain ⟨⟨⟨rfl, rfl⟩, h3⟩, h4⟩ := h
        exact .of (both_of hx.g (PE.weak (pe_post (de_dictN hx.g hx.hb (Gl.of rfl h3) (chkL_ok args hx hN h4))) fun σ H Q h => RdNK.of (fun _ _ _ z => z) h) rfl) rfl
      · cases h
  | .tup l, m, X, k, Ex, e, hx, hN, h => by
    unfold chkE at h
    split at h
    · simp only [Bool.and_eq_true, decide_eq_true_eq] at h
      exact .of (both_of hx.g (de_tup (allNb h.1.1) h.1.2 (chkL_ok l hx hN h.2)) rfl) rfl
    · cases h
  | .lst l, m, X, k, Ex, e, hx, hN, h => by
    unfold chkE at h
    split at h
    · simp only [Bool.and_eq_true, decide_eq_true_eq] at h
      exact .of (both_of hx.g (de_lst (allNb h.1.1) h.1.2 (chkL_ok l hx hN h.2)) rfl) rfl
    · cases h
  | .and l, m, X, k, Ex, e, hx, hN, h => by
    unfold chkE at h
    split at h
    · simp only [Bool.and_eq_true, Bool.not_eq_true'] at h
      have nb := allNb h.1.1
      have q := chkA_ok l hx hN h.2
      have ne : l ≠ [] := by rintro rfl; cases h.1.2
      exact ⟨de_and hx.g (q.bl nb) ne, fun _ ht => (dt_and (q.tl nb (by unfold tstB at ht; exact ht)) ne).pt⟩
    · cases h
  | .or l, m, X, k, Ex, e, hx, hN, h => by
    unfold chkE at h
    split at h
    · simp only [Bool.and_eq_true, Bool.not_eq_true'] at h
      have nb := allNb h.1.1
      have q := chkA_ok l hx hN h.2
      have ne : l ≠ [] := by rintro rfl; cases h.1.2
      exact ⟨de_or hx.g (q.bl nb) ne, fun _ ht => (dt_or (q.tl nb (by unfold tstB at ht; exact ht)) ne).pt⟩
    · cases h
  | .not a, m, X, k, Ex, e, hx, hN, h => by
    unfold chkE at h
    split at h
    · simp only [Bool.and_eq_true, Bool.not_eq_true'] at h
      have q := chk_ok a hx hN h.2
      exact ⟨de_not hx.g (q.de h.1), fun _ ht => dt_not (q.2 h.1 (by unfold tstB at ht; exact ht))⟩
    · cases h
  | .ite c a b, m, X, k, Ex, e, hx, hN, h => by
    unfold chkE at h
    split at h
    · simp only [Bool.and_eq_true, Bool.not_eq_true'] at h
      obtain ⟨⟨⟨⟨⟨⟨h1, h2⟩, h3⟩, h4⟩, h5⟩, h6⟩, h7⟩ := h
      exact ⟨de_ite ((chk_ok c hx hN h5).2 h1 h4) ((chk_ok a hx hN h6).de h2) ((chk_ok b hx hN h7).de h3), fun _ ht => by unfold tstB at ht; cases ht⟩
    · cases h
  | .chain o p a b c, m, X, k, Ex, e, hx, hN, h => by
    unfold chkE at h
    split at h
    · simp only [Bool.and_eq_true, Bool.not_eq_true', decide_eq_true_eq] at h
      obtain ⟨⟨⟨⟨⟨⟨⟨⟨h1, h2⟩, h3⟩, h4⟩, h5⟩, h6⟩, h7⟩, h8⟩, h9⟩ := h
      have qa := (chk_ok a hx hN h7).de h4
      have qb := (chk_ok b hx hN h8).de h5
      have qc := (chk_ok c hx hN h9).de h6
      exact ⟨de_chain hx.g h1 h2 h3 qa qb qc, fun _ _ => dt_chain hx.g h1 h2 h3 qa qb qc⟩
    · cases h
  | .call n args, m, X, k, Ex, e, hx, hN, h => by
    unfold chkE at h
    split at h
    · rename_i x p es pos
      simp only [Bool.and_eq_true, Bool.not_eq_true', decide_eq_true_eq] at h
      obtain ⟨⟨⟨⟨⟨h1, h2⟩, h3⟩, h4⟩, h5⟩, h6⟩ := h
      exact .of (both_of hx.g (de_call hx.g hx.xh (hx.gd n h1) h2 (Gl.of rfl h3) h4 (chkL_ok args hx hN h6) (by rintro rfl; cases h5)) rfl) rfl
    · cases h
  | .callv i args, m, X, k, Ex, e, hx, hN, h => by
    unfold chkE at h
    split at h
    · rename_i x p es pos
      simp only [Bool.and_eq_true, Bool.not_eq_true'] at h
      obtain ⟨⟨⟨h0, h1⟩, h2⟩, h3⟩ := h
      exact .of (both_of hx.g (de_callv hx.g hx.xh (hx.ch h0) hx.gd hx.gc (var_ok hN h1) (chkL_ok args hx hN h3) (by rintro rfl; cases h2)) rfl) rfl
    · cases h
  | .mut o i args, m, X, k, Ex, e, hx, hN, h => by
    unfold chkE at h
    split at h
    · rename_i r nm apos es cpos
      simp only [Bool.and_eq_true, decide_eq_true_eq] at h
      obtain ⟨⟨⟨⟨⟨⟨h1, h2⟩, h3⟩, h4⟩, h5⟩, h6⟩, h7⟩ := h
      split at h3
      · rename_i n l hm
        simp only [Bool.and_eq_true, decide_eq_true_eq] at h3
        obtain ⟨rfl, rfl⟩ := h3
        exact .of (both_of hx.g (de_mut hx.g hm (var_ok hN h1) h2 (allNb h6) (chkL_ok args hx hN h7) h4 h5) rfl) rfl
      · cases h3
    · cases h
  | .meth o ri args, m, X, k, Ex, e, hx, hN, h => by
    unfold chkE at h
    split at h
    · rename_i r nm apos es cpos
      simp only [Bool.and_eq_true, decide_eq_true_eq, Bool.not_eq_true'] at h
      obtain ⟨⟨⟨⟨⟨⟨h1, h2⟩, h3⟩, h4⟩, h5⟩, h6⟩, h7⟩ := h
      split at h3
      · rename_i T n l hm
        simp only [Bool.and_eq_true, decide_eq_true_eq] at h3
        obtain ⟨rfl, rfl⟩ := h3
        exact .of (both_of hx.g (de_meth hx.g hm (chk_ok ri hx hN h1).1 h2 (chkL_ok args hx hN h7) (by rintro rfl; cases h4) h5 h6) rfl) rfl
      · cases h3
    · rename_i x px r nm apos cpos pp
      simp only [Bool.and_eq_true, decide_eq_true_eq] at h
      obtain ⟨⟨⟨⟨⟨h1, h2⟩, h3⟩, h4⟩, h5⟩, h6⟩ := h
      split at h3
      · rename_i f n hm
        simp only [Bool.and_eq_true, decide_eq_true_eq] at h3
        obtain ⟨rfl, rfl⟩ := h3
        cases args with
        | nil => exact .of (both_of hx.g (de_view hx.g hx.hb hm (Gl.of rfl h6) (chk_ok ri hx hN h1).1 h2 h4) rfl) rfl
        | cons _ _ => cases h5
      · cases h3
    · cases h
  | .comp vs T ik src cs ex, m, X, k, Ex, e, hx, hN, h => by
    unfold chkE at h
    split at h
    · rename_i elt tg iter ifs scope pos
      split at h
      · rename_i es he
        simp only [Bool.and_eq_true, Bool.not_eq_true', decide_eq_true_eq] at h
        obtain ⟨⟨⟨⟨⟨⟨⟨⟨⟨⟨h1, h2⟩, h3⟩, h4⟩, h5⟩, h6⟩, h7⟩, h8⟩, h9⟩, h10⟩, h11⟩ := h
        have pi := pi_iter (kk := ik) (src := src) hx.g rfl hx.hb he (chkL_ok src hx hN h9) (allNb h1)
        have dc : DE m X t Ex (.comp ((ownV N vs).map (·.2)) T ik src cs ex) (.ListComp elt [⟨tg, iter, ifs, 0⟩] scope pos) := by
          refine PE.weak ?_ fun σ H Q h => RdNL.of h
          refine de_comp hx.g pi (by rw [hN]; exact blkOk_by (blkX_c h3)) (by rw [ownV_snd]; exact fun i hi => of_decide_eq_true (List.all_eq_true.mp h4 i hi)) (fun D s H C cl fp => ?_) (fun D s H C cl fp => ?_) (fun D s H C cl fp => ?_) (fold_ok h2)
          · exact pg_T (hx.blk D s H scope _ fp (blkX_f h3)).g (by show tgOk X.N _ _ T tg = true; rw [hN]; exact h5)
          · exact (chkM_ok cs (hx.blk D s H scope _ fp (blkX_f h3)) hN h10).cs h6 h7
          · exact (chk_ok ex (hx.blk D s H scope _ fp (blkX_f h3)) hN h11).de h8
        rw [ownV_snd] at dc
        exact .of (both_of hx.g dc rfl) rfl
      · cases h
    · cases h
  | .dcomp tk vs T ik src cs kx ex, m, X, k, Ex, e, hx, hN, h => by
    unfold chkE at h
    split at h
    · rename_i kel elt tg iter ifs scope pos
      split at h
      · rename_i es he
        simp only [Bool.and_eq_true, Bool.not_eq_true', decide_eq_true_eq] at h
        obtain ⟨⟨⟨⟨⟨⟨⟨⟨⟨⟨⟨⟨⟨rfl, h1⟩, h2⟩, h3⟩, h4⟩, h5⟩, h6⟩, h7⟩, h8k⟩, h8⟩, h9⟩, h10⟩, h11k⟩, h11⟩ := h
        have pi := pi_iter (kk := ik) (src := src) hx.g rfl hx.hb he (chkL_ok src hx hN h9) (allNb h1)
        have dc : DE m X t Ex (.dcomp false ((ownV N vs).map (·.2)) T ik src cs kx ex) (.DictComp kel elt [⟨tg, iter, ifs, 0⟩] scope pos) := by
          refine PE.weak (pe_post ?_) fun σ H Q h => RdNK.of (fun _ _ _ z => z) h
          refine de_dcomp hx.g pi (by rw [hN]; exact blkOk_by (blkX_c h3)) (by rw [ownV_snd]; exact fun i hi => of_decide_eq_true (List.all_eq_true.mp h4 i hi)) (fun D s H C cl fp => ?_) (fun D s H C cl fp => ?_) (fun D s H C cl fp => ?_) (fun D s H C cl fp => ?_) (fold_ok h2)
          · exact pg_T (hx.blk D s H scope _ fp (blkX_f h3)).g (by show tgOk X.N _ _ T tg = true; rw [hN]; exact h5)
          · exact (chkM_ok cs (hx.blk D s H scope _ fp (blkX_f h3)) hN h10).cs h6 h7
          · exact (chk_ok kx (hx.blk D s H scope _ fp (blkX_f h3)) hN h11k).de h8k
          · exact (chk_ok ex (hx.blk D s H scope _ fp (blkX_f h3)) hN h11).de h8
        rw [ownV_snd] at dc
        exact .of (both_of hx.g dc rfl) rfl
      · cases h
    · cases h
  | .dnew tk, m, X, k, Ex, e, hx, hN, h => by
    unfold chkE at h
    split at h
    · simp only [Bool.not_eq_true'] at h
      subst h
      exact .of (both_of hx.g (PE.weak (pe_post de_dnewN) fun σ H Q h => RdNK.of (fun _ _ _ z => z) h) rfl) rfl
    · cases h
  | .bot, m, X, k, Ex, e, hx, hN, h => .of ⟨⟨fun pins s σ H Q I ⟨env, Qd, r, w, kq⟩ => w.elim⟩, ⟨fun pins s σ H Q I ⟨env, Qd, r, w, kq⟩ => w.elim⟩⟩ rfl
  | .lam _, m, X, k, Ex, e, hx, hN, h => by unfold chkE at h; cases h
  | .callk n ks p args, m, X, k, Ex, e, hx, hN, h => by
    unfold chkE at h
    split at h
    · rename_i x q kws pos
      simp only [Bool.and_eq_true, decide_eq_true_eq, Bool.not_eq_true'] at h
      obtain ⟨⟨⟨⟨⟨⟨⟨h1, h2⟩, h3⟩, h4⟩, h5⟩, h6⟩, h7⟩, h8⟩ := h
      exact .of (both_of hx.g (de_callk hx.g hx.xh (hx.gd n h1) h2 h3 (Gl.of rfl h4) h5 h6 (chkL_ok args hx hN h8) h7) rfl) rfl
    · cases h
  | .callp n args, m, X, k, Ex, e, hx, hN, h => by
    unfold chkE at h
    split at h
    · rename_i x q es pos
      simp only [Bool.and_eq_true, decide_eq_true_eq, Bool.not_eq_true'] at h
      obtain ⟨⟨⟨⟨⟨⟨h0, h2⟩, h3⟩, h4⟩, h5⟩, h6⟩, h7⟩ := h
      exact .of (both_of hx.g (de_callp hx.g hx.xh (hx.ch h0) (hx.gd n h2) h3 (Gl.of rfl h4) h5 (chkL_ok args hx hN h7) (by rintro rfl; cases h6)) rfl) rfl
    · cases h
  | .callc n args c, m, X, k, Ex, e, hx, hN, h => by
    unfold chkE at h
    split at h
    · rename_i x q es pos
      simp only [Bool.and_eq_true, decide_eq_true_eq, Bool.not_eq_true'] at h
      obtain ⟨⟨⟨⟨⟨⟨⟨h0, h1⟩, h2⟩, h3⟩, h4⟩, h5⟩, h6⟩, h7⟩ := h
      exact .of (both_of hx.g (de_callc hx.g hx.xh (hx.oh h0) h1 (hx.gd n h2) h3 (Gl.of rfl h4) h5 (chkL_ok args hx hN h7) (by rintro rfl; cases h6)) rfl) rfl
    · cases h
  | .prop c n r, m, X, k, Ex, e, hx, hN, h => by
    unfold chkE at h
    split at h
    · simp only [Bool.and_eq_true, decide_eq_true_eq, Bool.not_eq_true'] at h
      obtain ⟨⟨⟨⟨h1, rfl⟩, h3⟩, h4⟩, h5⟩ := h
      exact .of (both_of hx.g (de_prop hx.g (hx.gp c n h1) ((chk_ok r hx hN h5).de h3) h4) rfl) rfl
    · cases h
  | .isc c r, m, X, k, Ex, e, hx, hN, h => by
    unfold chkE at h
    split at h
    · simp only [Bool.and_eq_true, decide_eq_true_eq, Bool.not_eq_true'] at h
      obtain ⟨⟨⟨⟨⟨⟨⟨⟨rfl, h2⟩, h3⟩, rfl⟩, h5⟩, h6⟩, h7⟩, h8⟩, h9⟩ := h
      exact .of (both_of hx.g (de_isc hx.g hx.hb (hx.gl c h3) (Gl.of rfl h2) (Gl.of rfl h5) h6 ((chk_ok r hx hN h9).de h7) h8) rfl) rfl
    · cases h
  | .fld c i r, m, X, k, Ex, e, hx, hN, h => by
    unfold chkE at h
    split at h
    · simp only [Bool.and_eq_true, decide_eq_true_eq, Bool.not_eq_true'] at h
      obtain ⟨⟨⟨⟨h1, h2⟩, h3⟩, h4⟩, h5⟩ := h
      exact .of (both_of hx.g (de_fld hx.g (hx.gl c h1) h2 ((chk_ok r hx hN h5).de h3) h4) rfl) rfl
    · cases h
  | .wget i c, m, X, k, Ex, e, hx, hN, h => by
    unfold chkE at h
    split at h
    · simp only [Bool.and_eq_true, decide_eq_true_eq] at h
      obtain ⟨h1, rfl⟩ := h
      exact .of (both_of hx.g (de_wget hx.g (var_ok hN h1)) rfl) rfl
    · cases h
theorem chkL_ok : ∀ (is : List IE) {m : Am} {X : Cx} {k : Nat} {Ex : ExV → DEnv → Prop} {es : List Expr}, SX m X k t Ex → X.N = N → chkL t N is X.env.scope X.fn es = true → AL m X t Ex is es
  | [], m, X, k, Ex, [], hx, hN, h => trivial
  | i :: is, m, X, k, Ex, e :: es, hx, hN, h => by
    unfold chkL at h
    simp only [Bool.and_eq_true] at h
    exact ⟨(chk_ok i hx hN h.1.2).1, h.1.1, chkL_ok is hx hN h.2⟩
  | [], m, X, k, Ex, _ :: _, hx, hN, h => by unfold chkL at h; cases h
  | _ :: _, m, X, k, Ex, [], hx, hN, h => by unfold chkL at h; cases h
theorem chkA_ok : ∀ (is : List IE) {m : Am} {X : Cx} {k : Nat} {Ex : ExV → DEnv → Prop} {es : List Expr}, SX m X k t Ex → X.N = N → chkL t N is X.env.scope X.fn es = true → AllP m X t Ex is es
  | [], m, X, k, Ex, [], hx, hN, h => trivial
  | i :: is, m, X, k, Ex, e :: es, hx, hN, h => by
    unfold chkL at h
    simp only [Bool.and_eq_true] at h
    exact ⟨chk_ok i hx hN h.1.2, chkA_ok is hx hN h.2⟩
  | [], m, X, k, Ex, _ :: _, hx, hN, h => by unfold chkL at h; cases h
  | _ :: _, m, X, k, Ex, [], hx, hN, h => by unfold chkL at h; cases h
theorem chkM_ok : ∀ (is : List IE) {m : Am} {X : Cx} {k : Nat} {Ex : ExV → DEnv → Prop} {es : List Expr}, SX m X k t Ex → X.N = N → chkM t N is X.env.scope X.fn es = true → AllP m X t Ex is es
  | [], m, X, k, Ex, [], hx, hN, h => trivial
  | i :: is, m, X, k, Ex, e :: es, hx, hN, h => by
    unfold chkM at h
    simp only [Bool.and_eq_true] at h
    exact ⟨chk_ok i hx hN h.1, chkM_ok is hx hN h.2⟩
  | [], m, X, k, Ex, _ :: _, hx, hN, h => by unfold chkM at h; cases h
  | _ :: _, m, X, k, Ex, [], hx, hN, h => by unfold chkM at h; cases h
end
end
end SD

set_option Elab.async false
set_option linter.all false
set_option maxRecDepth 100000
set_option maxHeartbeats 4000000
namespace SD
open PySem PySem.Spec PyProof.Rows L2

/-! ## statements -/
inductive IS where
  | set (i : Nat) (e : IE) | own (i : Nat) (e : IE) | asg (T : IT) (e : IE) | asgS (ts : List (Nat × Option IE)) (e : IE) | par (l : List (Nat × Bool × IE))
  | put (i : Nat) (kx e : IE) | expr (e : IE) | ite (c : IE) (a b : List IS)
  | for_ (T : IT) (k : IK) (src : List IE) (body : List IS) | while_ (c : IE) (body : List IS)
  | wset (i c : Nat) (e : IE) | wdm (i c j : Nat) (e : IE)
  | ret (e : IE) | retN | pass | brk | cont | never | doc
  | snap (i : Nat) (e : IE)
  | ndef (i c : Nat) | forl (T : IT) (k : Nat) (args : List IE) (c : Nat) (body : List IS)
/-- own lists are read only, own dicts not at all -/
def frzS : Slt → Slt
  | some (true, .lst l) => some (false, .lst l)
  | some (true, _) => none
  | s => s
def frzE (env : DEnv) : DEnv := env.map frzS
def flatL : D → Bool
  | .lst l => l.all flatD
  | _ => false
structure KS where
  nx : DEnv → Prop
  rt : D → DEnv → Prop
  bk : DEnv → Prop
  ct : DEnv → Prop
/-- d[k] = v -/
def putW : D → D → D → (D → Prop) → Prop
  | .dct tk l, kd, v, Q => keyOk tk kd = true ∧ l.length < 16777216 ∧ Q (.dct tk (dPut l kd v))
  | .lst l, .int i, v, Q => ∃ n, ixN l.length i = some n ∧ Q (.lst (l.set n v))
  | _, _, _, _ => False
def storeP : List (Nat × Bool × IE) → List D → DEnv → Option DEnv
  | [], [], env => some env
  | (i, b, _) :: is, d :: ds, env => storeP is ds (env.set i (some (b, d)))
  | _, _, _ => none
def seqD : D → Option (List D)
  | .tup l => some l
  | .ktup l => some l
  | .lst l => some l
  | _ => none
section
variable (t : Tb) (Ex : ExV → DEnv → Prop)
/-- stores from the left: names, and items of a slot's own dict or list -/
def storesW : List (Nat × Option IE) → List D → DEnv → (DEnv → Prop) → Prop
  | [], [], env, Q => Q env
  | (i, none) :: ts, d :: ds, env, Q => storesW ts ds (env.set i (some (false, d))) Q
  | (i, some kx) :: ts, d :: ds, env, Q => (∃ d0, env[i]? = some (some (true, d0))) ∧ wpE t Ex kx env fun kd env2 => ∃ od, env2[i]? = some (some (true, od)) ∧ putW od kd d fun od' => storesW ts ds (env2.set i (some (true, od'))) Q
  | _, _, _, _ => False
mutual
def wpS : IS → DEnv → KS → Prop
  | .set i e, env, K => wpE t Ex e env fun d env' => isClo d = false ∧ K.nx (env'.set i (some (false, d)))
  | .own i e, env, K => wpE t Ex e env fun d env' => i < env'.length ∧ K.nx (env'.set i (some (true, d)))
  | .asg T e, env, K => wpE t Ex e env fun d env' => isClo d = false ∧ ∃ env2, asgT T d env' = some env2 ∧ K.nx env2
  | .asgS ts e, env, K => wpE t Ex e env fun d env' => isClo d = false ∧ ∃ ds, seqD d = some ds ∧ ds.length = ts.length ∧ storesW t Ex ts ds env' K.nx
  | .par l, env, K => wpL t Ex (l.map (·.2.2)) env fun ds env' => (∀ x ∈ l, x.1 < env'.length) ∧ ∃ env2, storeP l ds env' = some env2 ∧ K.nx env2
  | .put i kx e, env, K => wpE t Ex e env fun d env1 => isClo d = false ∧ (∃ d0, env1[i]? = some (some (true, d0))) ∧ wpE t Ex kx env1 fun kd env2 => ∃ od, env2[i]? = some (some (true, od)) ∧ putW od kd d fun od' => K.nx (env2.set i (some (true, od')))
  | .expr e, env, K => wpE t Ex e env fun _ env' => K.nx env'
  | .ite c a b, env, K => wpE t Ex c env fun d env' => ∃ q, dTruth d = some q ∧ if q = true then wpSs a env' K else wpSs b env' K
  | .for_ T k src body, env, K => wpL t Ex src env fun ds env1 => ∃ items, iterW k ds = some items ∧
      forL (fun x en N => ∃ en1, asgT T x en = some en1 ∧ wpSs body en1 { nx := N, ct := N, bk := K.nx, rt := K.rt }) K.nx items env1
  | .while_ c body, env, K => ∃ I : Nat → DEnv → Prop, (∃ n, I n env) ∧ ∀ n en, I n en → wpE t Ex c en fun d en' => ∃ q, dTruth d = some q ∧
      if q = true then wpSs body en' { nx := fun e => ∃ n', n' < n ∧ I n' e, ct := fun e => ∃ n', n' < n ∧ I n' e, bk := K.nx, rt := K.rt } else K.nx en'
  | .ret e, env, K => wpE t Ex e env fun d env' => isClo d = false ∧ K.rt d env'
  | .wset i c e, env, K => wpE t Ex e env fun d env' => env'[i]? = some (some (false, .well)) ∧ c < 3 ∧ ∃ w : Int, d = .int w ∧ 0 ≤ w ∧ (c = 1 → w < 4294967296) ∧ K.nx env'
  | .wdm i c j e, env, K => wpE t Ex e env fun d env' => env'[i]? = some (some (false, .well)) ∧ c < 3 ∧ ∃ (w : Int) (v : D), d = .ktup [.int w, v] ∧ 0 ≤ w ∧ (c = 1 → w < 4294967296) ∧ K.nx (env'.set j (some (false, v)))
  | .snap i e, env, K => wpE t Ex e (frzE env) fun d env' => env' = frzE env ∧ flatL d = true ∧ K.nx (env.set i (some (false, d)))
  | .retN, env, K => K.rt .non env
  | .pass, env, K => K.nx env
  | .doc, env, K => K.nx env
  | .brk, env, K => K.bk env
  | .cont, env, K => K.ct env
  | .never, _, _ => False
  | .ndef i c, env, K => K.nx (env.set i (some (false, .own c)))
  | .forl T k args c body, env, K => wpL t Ex [.callc k (args ++ [.lam c]) c] env fun ds env1 => ∃ items, iterW .it ds = some items ∧
      forL (fun x en N => ∃ en1, asgT T x en = some en1 ∧ wpSs body en1 { nx := N, ct := N, bk := K.nx, rt := K.rt }) K.nx items env1
def wpSs : List IS → DEnv → KS → Prop
  | [], env, K => K.nx env
  | s :: ss, env, K => wpS s env { nx := fun env' => wpSs ss env' K, rt := K.rt, bk := K.bk, ct := K.ct }
end
end
/-- from the statement's start to its end -/
structure StS (m : Am) (σ : L2.St) (H : Hp) (env : DEnv) (σ' : L2.St) (H' : Hp) (env' : DEnv) : Prop where
  rs : RS m σ' H' env'
  kp : Kp (Sx m.So σ env) H H'
  sb : Sb H (Sx m.So σ env) (Sx m.So σ' env')
  nn : ∀ a, H' a = none → H a = none
section
variable {m : Am} {X : Cx} {k : Nat} {t : Tb} {Ex : ExV → DEnv → Prop} {σ σ' σ1 σ2 : L2.St} {H H' H1 H2 : Hp} {S S' : Addr → Prop} {env env1 env2 env' : DEnv} {ds : List D} {vs : List V} {d : D} {v : V} {e : Expr} {es : List Expr} {ir : IE} {irs : List IE} {pos : Pos} {E : Ends}
theorem StS.refl (r : RS m σ H env) : StS m σ H env σ H env := ⟨r, Kp.refl, Sb.refl, fun _ h => h⟩
theorem StS.trans (a : StS m σ H env σ1 H1 env1) (b : StS m σ1 H1 env1 σ2 H2 env2) : StS m σ H env σ2 H2 env2 := ⟨b.rs, a.kp.trans a.sb b.kp, a.sb.trans a.nn b.sb, fun c h => a.nn c (b.nn c h)⟩
theorem St1.sts (s : St1 m σ H env H' env') : StS m σ H env σ H' env' := ⟨s.rs, s.kp, Sb.sub s.sb, s.nn⟩
theorem Stored.sts {ns : List Nat} (s : Stored m σ H env ns σ' env') : StS m σ H env σ' H env' := ⟨s.rs, Kp.refl, Sb.sub s.sb, fun _ h => h⟩
structure KOk (m : Am) (σ : L2.St) (H : Hp) (env : DEnv) (K : KS) (E : Ends) : Prop where
  nx : ∀ σ' H' env', StS m σ H env σ' H' env' → K.nx env' → E.nx σ' H'
  rt : ∀ d v σ' H' env', StS m σ H env σ' H' env' → RD m.G m.wa H' (Sx m.So σ' env') d v → K.rt d env' → E.rt v H'
  bk : ∀ σ' H' env', StS m σ H env σ' H' env' → K.bk env' → E.bk σ' H'
  ct : ∀ σ' H' env', StS m σ H env σ' H' env' → K.ct env' → E.ct σ' H'
def RdS (m : Am) (wp : DEnv → KS → Prop) : TS := fun E σ H => ∃ env K, RS m σ H env ∧ wp env K ∧ KOk m σ H env K E
theorem KOk.step {K : KS} (k : KOk m σ H env K E) (s : StS m σ H env σ1 H1 env1) : KOk m σ1 H1 env1 K E :=
  ⟨fun _ _ _ z => k.nx _ _ _ (s.trans z), fun _ _ _ _ _ z => k.rt _ _ _ _ _ (s.trans z), fun _ _ _ z => k.bk _ _ _ (s.trans z), fun _ _ _ z => k.ct _ _ _ (s.trans z)⟩
theorem PSs.weak {sts : List Stmt} {q q' : TS} (h : PSs X sts q) (w : ∀ E σ H, q' E σ H → q E σ H) : PSs X sts q' := ⟨fun pins s σ H E I z => h.run pins s σ H E I (w E σ H z)⟩
abbrev DS (m : Am) (X : Cx) (t : Tb) (Ex : ExV → DEnv → Prop) (is : IS) (s : Stmt) : Prop := PS X s (RdS m (wpS t Ex is))
abbrev DSs (m : Am) (X : Cx) (t : Tb) (Ex : ExV → DEnv → Prop) (is : List IS) (s : List Stmt) : Prop := PSs X s (RdS m (wpSs t Ex is))
theorem dss_nil : DSs m X t Ex [] [] := PSs.weak pss_nil fun E σ H ⟨env, K, r, w, k⟩ => k.nx σ H env (StS.refl r) w
theorem dss_cons {i : IS} {is : List IS} {s : Stmt} {ss : List Stmt} (h1 : DS m X t Ex i s) (h2 : DSs m X t Ex is ss) : DSs m X t Ex (i :: is) (s :: ss) := PSs.weak (pss_cons h1 h2) fun E σ H ⟨env, K, r, w, k⟩ =>
  ⟨env, { nx := fun env' => wpSs t Ex is env' K, rt := K.rt, bk := K.bk, ct := K.ct }, r, w, ⟨fun σ' H' env' st q => ⟨env', K, st.rs, q, k.step st⟩, k.rt, k.bk, k.ct⟩⟩
theorem ds_pass : DS m X t Ex .pass (.Pass pos) := PS.weak ps_pass fun E σ H ⟨env, K, r, w, k⟩ => k.nx σ H env (StS.refl r) w
theorem ds_brk : DS m X t Ex .brk (.Break pos) := PS.weak ps_break fun E σ H ⟨env, K, r, w, k⟩ => k.bk σ H env (StS.refl r) w
theorem ds_cont : DS m X t Ex .cont (.Continue pos) := PS.weak ps_continue fun E σ H ⟨env, K, r, w, k⟩ => k.ct σ H env (StS.refl r) w
theorem ds_doc {x j p} : DS m X t Ex .doc (.Expr (.Constant (.str x) j p) pos) := PS.weak ps_doc fun E σ H ⟨env, K, r, w, k⟩ => k.nx σ H env (StS.refl r) w
theorem ds_never {s : Stmt} : DS m X t Ex .never s := PS.weak ps_never fun E σ H ⟨env, K, r, w, k⟩ => w
theorem ds_retN : DS m X t Ex .retN (.Return none pos) := PS.weak ps_retN fun E σ H ⟨env, K, r, w, k⟩ => k.rt .non .non σ H env (StS.refl r) .non w
theorem ds_ret (h : DE m X t Ex ir e) : DS m X t Ex (.ret ir) (.Return (some e) pos) := PS.weak (ps_ret h) fun E σ H ⟨env, K, r, w, k⟩ =>
  ⟨env, _, r, w, fun d v env' H' s ra ⟨hc, q⟩ => k.rt d v σ H' env' s.sts (ra.noclo hc) q⟩
theorem ds_expr (h : DE m X t Ex ir e) (hs : swapsWith e none pos.line X.env = pure false) : DS m X t Ex (.expr ir) (.Expr e pos) := PS.weak (ps_expr h hs) fun E σ H ⟨env, K, r, w, k⟩ =>
  ⟨env, _, r, w, fun d v env' H' s ra q => k.nx σ H' env' s.sts q⟩
theorem ds_set {i : Nat} {x : Str} {p : Pos} (g : GX m X k) (hi : X.N[i]? = some x) (hx : Loc X.env.scope x) (hf : X.fn x = true ∨ X.env.scope.names.lookup x = some .local) (h : DE m X t Ex ir e) (hs : swapsWith e (some (.Name x p)) pos.line X.env = pure false) : DS m X t Ex (.set i ir) (.Assign [.Name x p] e pos) :=
  PS.weak (ps_set g.nd hi hx h hs hf) fun E σ H ⟨env, K, r, w, k⟩ => ⟨env, _, r, w, fun d v env' H' s ra ⟨hc, q⟩ => by
    have r2 := s.rs.setSlot (i := i) (x := some (false, d)) (y := some v) rfl fun d' z => by cases z; exact ⟨v, rfl, ra⟩
    exact k.nx _ H' _ (s.sts.trans ⟨r2, Kp.refl, Sb.sub (Sx.set s.rs.len rfl), fun _ h => h⟩) q⟩
theorem ds_asg {T : IT} {tg : Expr} (g : GX m X k) (hg : PG X tg (gT m T)) (h : DE m X t Ex ir e) (hs : swapsWithSole [tg] e pos.line X.env = pure false) (hw : swappedStores [tg] e X.env = pure none) (h1 : (assignEach [tg] X.env).map (·.2) = [assign tg X.env]) : DS m X t Ex (.asg T ir) (.Assign [tg] e pos) :=
  PS.weak (ps_asg h hg hs hw h1) fun E σ H ⟨env, K, r, w, k⟩ => ⟨env, _, r, w, fun d v env' H' s ra ⟨hc, env2, ha, q⟩ =>
    ⟨env', d, env2, s.rs, ra.noclo hc, ha, fun σ' st => k.nx σ' H' env2 (s.sts.trans st.sts) q⟩⟩
theorem ds_ite {c : Expr} {a b : List Stmt} {ia ib : List IS} (hc : DT m X t Ex ir c) (ha : DSs m X t Ex ia a) (hb : DSs m X t Ex ib b) : DS m X t Ex (.ite ir ia ib) (.If c a b pos) :=
  PS.weak (ps_if hc ha hb) fun E σ H ⟨env, K, r, w, k⟩ => by
    refine ⟨env, fun q env' => if q = true then wpSs t Ex ia env' K else wpSs t Ex ib env' K, r, w, fun q env' H' s z => ?_⟩
    cases q with
    | true => exact ⟨env', K, s.rs, z, k.step s.sts⟩
    | false => exact ⟨env', K, s.rs, z, k.step s.sts⟩
theorem ds_for {T : IT} {ik : IK} {src : List IE} {body : List IS} {tg iter : Expr} {b : List Stmt} (g : GX m X k) (hp : PassesOwn (model X.prog X.w) X.A X.env X.xe) (hi : PI X tg iter (RdI m (wpI t Ex ik src))) (hg : PG X tg (gT m T)) (hb : DSs m X t Ex body b) (hs : ∀ x, foldedSetIterable iter X.env x = pure x) :
    DS m X t Ex (.for_ T ik src body) (.For tg iter b [] pos) := by
  refine PS.weak (ps_for hp g.calm hi hg hb hs) fun E σ H ⟨env, K, r, w, k⟩ => ?_
  refine ⟨env, _, r, w, fun items env1 H1 J s1 it q => ?_⟩
  have st0 : StS m σ H1 env1 σ H1 env1 := StS.refl s1.rs
  refine ⟨fun i mm σ' H' => mm = items.length - i ∧ i ≤ items.length ∧ ∃ en, StS m σ H1 env1 σ' H' en ∧ forL _ _ (items.drop i) en, ⟨items.length, rfl, Nat.zero_le _, env1, st0, q⟩, ?_⟩
  rintro i mm σ' H' ⟨rfl, hle, en, st, fl⟩
  by_cases hlt : i < items.length
  · refine .inr ⟨it.go H' i st.kp hlt, fun σ2 H2 => items.length - (i + 1) = items.length - (i + 1) ∧ i + 1 ≤ items.length ∧ ∃ en, StS m σ H1 env1 σ2 H2 en ∧ forL _ _ (items.drop (i + 1)) en, fun σ2 H2 z => ⟨items.length - (i + 1), by omega, z⟩, fun x H2 y => ?_⟩
    obtain ⟨d, hd, nw, rd⟩ := it.yld H' _ i x H2 st.kp st.sb (fun p hp => st.rs.free hp) st.rs.notup hlt y
    rw [drop_cons hlt] at fl
    have ed : items[i] = d := by rw [List.getElem?_eq_getElem hlt] at hd; exact Option.some.inj hd
    rw [ed] at fl
    obtain ⟨en1, ha, wb⟩ := fl
    have sH := nw.st1 st.rs
    refine ⟨en, d, en1, sH.rs, rd, ha, fun σ2 st2 => ⟨en1, _, st2.rs, wb, ?_⟩⟩
    have stA := st.trans (sH.sts.trans st2.sts)
    have kk := k.step s1.sts
    exact ⟨fun σ3 H3 env3 s3 z => ⟨rfl, hlt, env3, stA.trans s3, z⟩, fun d v σ3 H3 env3 s3 => kk.rt d v σ3 H3 env3 (stA.trans s3), fun σ3 H3 env3 s3 => kk.nx σ3 H3 env3 (stA.trans s3), fun σ3 H3 env3 s3 z => ⟨rfl, hlt, env3, stA.trans s3, z⟩⟩
  · have ei : i = items.length := by omega
    subst ei
    rw [List.drop_length] at fl
    exact .inl ⟨it.stop H' st.kp, (k.step s1.sts).nx σ' H' en st fl⟩
theorem ds_while {c : Expr} {body : List IS} {b : List Stmt} (hp : PassesOwn (model X.prog X.w) X.A X.env X.xe) (hc : DT m X t Ex ir c) (hb : DSs m X t Ex body b) : DS m X t Ex (.while_ ir body) (.While c b [] pos) := by
  refine PS.weak (ps_while hp hc hb) fun E σ H ⟨env, K, r, w, k⟩ => ?_
  obtain ⟨I, ⟨n, h0⟩, w⟩ := w
  refine ⟨fun n σ' H' => ∃ en, StS m σ H env σ' H' en ∧ I n en, ⟨n, env, StS.refl r, h0⟩, ?_⟩
  rintro n σ' H' ⟨en, st, hI⟩
  refine ⟨en, fun q en' => if q = true then wpSs t Ex body en' { nx := fun e => ∃ n', n' < n ∧ I n' e, ct := fun e => ∃ n', n' < n ∧ I n' e, bk := K.nx, rt := K.rt } else K.nx en', st.rs, w n en hI, fun q en' H2 s2 z => ?_⟩
  have stA := st.trans s2.sts
  cases q with
  | false => exact k.nx σ' H2 en' stA z
  | true =>
    refine ⟨fun σ3 H3 => ∃ n', n' < n ∧ ∃ en, StS m σ H env σ3 H3 en ∧ I n' en, fun σ3 H3 z => z, en', _, s2.rs, z, ?_⟩
    exact ⟨fun σ3 H3 env3 s3 ⟨n', h1, h2⟩ => ⟨n', h1, env3, stA.trans s3, h2⟩, fun d v σ3 H3 env3 s3 => k.rt d v σ3 H3 env3 (stA.trans s3), fun σ3 H3 env3 s3 => k.nx σ3 H3 env3 (stA.trans s3), fun σ3 H3 env3 s3 ⟨n', h1, h2⟩ => ⟨n', h1, env3, stA.trans s3, h2⟩⟩
/-! ### the well -/
theorem RS.wellUpd {xs : List V} (r : RS m σ H env) (hw : m.G.hw = true) (hx : ∃ a b c : Int, xs = [.int a, .int b, .int c] ∧ WOk a b c) : St1 m σ H env (upd H m.wa (.lst xs)) env := by
  have kp : Kp (Sx m.So σ env) H (upd H m.wa (.lst xs)) := fun c w e n _ => by rw [upd_ne (fun z => n (by rw [z]; exact .inl (r.so.1 hw)))]; exact e
  obtain ⟨x, y, z, ew, _⟩ := r.we hw
  refine ⟨⟨r.len, fun i d q => ?_, fun i d q => ?_, r.ap, ⟨r.so.1, fun c h => ?_⟩, ?_, ?_, fun c w q n t => ?_, fun c q => ?_⟩, kp, fun _ h => h, fun c q => ?_, fun c w h n e => by rw [upd_ne (n hw)]; exact e⟩
  · obtain ⟨v, h1, h2⟩ := r.pl i d q
    exact ⟨v, h1, h2.mono kp Sb.refl⟩
  · obtain ⟨b, h1, h2, h3, h4⟩ := r.ow i d q
    have hb : b ≠ m.wa := fun z => h3 (by rw [z]; exact r.so.1 hw)
    exact ⟨b, h1, h2.move (by rw [upd_ne hb]) kp Sb.refl, h3, h4⟩
  · by_cases hc : c = m.wa
    · rw [hc]; exact ⟨_, upd_same, noTbl_lst, ⟨fun _ z => (nomatch z), fun _ z => (nomatch z)⟩⟩
    · rw [upd_ne hc]; exact r.so.2 c h
  · obtain ⟨a, b, c, rfl, ok⟩ := hx
    exact fun _ => ⟨a, b, c, upd_same, ok⟩
  · intro p hp
    obtain ⟨ps, e1, q⟩ := r.ta p hp
    have hpa : p.1 ≠ m.wa := fun z => by rw [z, ew] at e1; cases e1
    refine ⟨ps, by rw [upd_ne hpa]; exact e1, q.1, fun pos cv hc => ?_⟩
    obtain ⟨c, e2, e3⟩ := q.2 pos cv hc
    refine ⟨c, e2, ?_⟩
    have hca : c ≠ m.wa := fun z => by rw [z, ew] at e3; cases e3
    rw [upd_ne hca]; exact e3
  · rw [upd_ne (n hw)]; exact r.fr c w q n t
  · by_cases hc : c = m.wa
    · rw [hc, upd_same] at q; cases q
    · rw [upd_ne hc] at q; exact r.nn c q
  · by_cases hc : c = m.wa
    · rw [hc, upd_same] at q; cases q
    · rw [upd_ne hc] at q; exact q
theorem well_at {i : Nat} (r : RS m σ H env) (h : env[i]? = some (some (false, .well))) : m.G.hw = true ∧ σ[i]? = some (some (.ref m.wa)) := by
  obtain ⟨v, hv, ra⟩ := r.pl i _ h
  rcases ra with z | z
  · cases z with | well h => exact ⟨h, hv⟩
  · cases m.clo z
/-- well[c] = w, by values -/
theorem well_set {c : Nat} {w : Int} (r : RS m σ H env) (hw : m.G.hw = true) (hc : c < 3) (h0 : 0 ≤ w) (h1 : c = 1 → w < 4294967296) : ∃ xs : List V, rSetL (.ref m.wa) (.int (c : Int)) (.int w) H (fun H' => H' = upd H m.wa (.lst xs)) ∧ St1 m σ H env (upd H m.wa (.lst xs)) env := by
  obtain ⟨a, b, d, e, ok⟩ := r.we hw
  have hcc : c = 0 ∨ c = 1 ∨ c = 2 := by omega
  rcases hcc with rfl | rfl | rfl
  · exact ⟨[.int w, .int b, .int d], ⟨m.wa, _, 0, 0, rfl, rfl, e, rfl, rfl⟩, r.wellUpd hw ⟨w, b, d, rfl, h0, ok.2⟩⟩
  · exact ⟨[.int a, .int w, .int d], ⟨m.wa, _, 1, 1, rfl, rfl, e, rfl, rfl⟩, r.wellUpd hw ⟨a, w, d, rfl, ok.1, h0, h1 rfl, ok.2.2.2⟩⟩
  · exact ⟨[.int a, .int b, .int w], ⟨m.wa, _, 2, 2, rfl, rfl, e, rfl, rfl⟩, r.wellUpd hw ⟨a, b, w, rfl, ok.1, ok.2.1, ok.2.2.1, h0⟩⟩
theorem rSetL_imp {o i v : V} {Q Q' : Hp → Prop} (h : rSetL o i v H Q) (w : ∀ H', Q H' → Q' H') : rSetL o i v H Q' := by
  obtain ⟨p, xs, k, j, a, b, c, d, q⟩ := h
  exact ⟨p, xs, k, j, a, b, c, d, w _ q⟩
theorem sub_asg {o kel : Expr} {q : Pos} {en : PySem.Env} (h : notSlice kel = true) : ∀ v, assign (.Subscript o kel q) en v = (do
      let ov ← holding [v] (eval o en)
      let iv ← holding [v, ov] (eval kel en)
      standAt q
      holding [v, ov, iv] (setItem ov iv v)
      release [v, ov, iv] []) := fun v => by cases kel <;> first | rfl | cases h
theorem ds_wset {i c : Nat} {o : Expr} {j : Nat} {p q : Pos} (g : GX m X k) (ho : PE X o (tVar i)) (he : DE m X t Ex ir e) (hn : (match e with | .ListComp _ _ _ _ => false | .SetComp _ _ _ _ => false | .DictComp _ _ _ _ _ => false | _ => true) = true) : DS m X t Ex (.wset i c ir) (.Assign [.Subscript o (.Constant (.int (c : Int)) j p) q] e pos) := by
  refine PS.weak (ps_asg he (pg_sub ho pe_int set_list (sub_asg rfl)) (by unfold swapsWithSole; cases e <;> first | rfl | cases hn) (by cases e <;> rfl) rfl) fun E σ H ⟨env, K, r, w, kk⟩ => ?_
  refine ⟨env, _, r, w, fun d v env1 H1 s1 ra ⟨h1, hc, w, hd, h2, h3, q⟩ => ?_⟩
  subst hd
  cases ra.noclo rfl
  obtain ⟨hw, hat⟩ := well_at s1.rs h1
  obtain ⟨xs, hset, s2⟩ := well_set s1.rs hw hc h2 h3
  exact ⟨.ref m.wa, hat, rSetL_imp hset fun H' z => by subst z; exact kk.nx σ _ env1 (s1.trans s2).sts q⟩
theorem ds_wdm {i c l : Nat} {o : Expr} {y : Str} {j : Nat} {p q pt py : Pos} {kt : Nat} (g : GX m X k) (ho : PE X o (tVar i)) (hi : X.N[l]? = some y) (hx : Loc X.env.scope y) (hf : X.fn y = true ∨ X.env.scope.names.lookup y = some .local) (he : DE m X t Ex ir e) (hn : (match e with | .ListComp _ _ _ _ => false | .SetComp _ _ _ _ => false | .DictComp _ _ _ _ _ => false | .Tuple _ _ _ => false | _ => true) = true) :
    DS m X t Ex (.wdm i c l ir) (.Assign [.Tuple [.Subscript o (.Constant (.int (c : Int)) j p) q, .Name y py] kt pt] e pos) := by
  refine PS.weak (ps_asg he (pg_tup (n := 2) g.calm (pgs_cons (pg_sub ho pe_int set_list (sub_asg rfl)) (pgs_cons (pg_name g.nd hi hx hf) pgs_nil rfl) rfl) rfl rfl) (by unfold swapsWithSole; cases e <;> first | rfl | cases hn) (by cases e <;> first | rfl | cases hn) rfl) fun E σ H ⟨env, K, r, w, kk⟩ => ?_
  refine ⟨env, _, r, w, fun d v env1 H1 s1 ra ⟨h1, hc, w, vd, hd, h2, h3, q⟩ => ?_⟩
  subst hd
  obtain ⟨a, xs, rfl, ea, rs⟩ := RO.ktup (m := m) (.inl ra)
  cases rs with
  | cons r1 rs => cases rs with
    | cons r2 rs =>
      cases rs
      cases r1
      obtain ⟨hw, hat⟩ := well_at s1.rs h1
      obtain ⟨ys, hset, s2⟩ := well_set s1.rs hw hc h2 h3
      refine ⟨a, _, rfl, (by rw [g.hK]; exact ea), rfl, _, _, rfl, ⟨.ref m.wa, hat, rSetL_imp hset fun H' z => ?_⟩⟩
      subst z
      refine ⟨_, _, rfl, rfl, ?_⟩
      have r3 := r2.mono s2.kp (Sb.sub s2.sb)
      have r4 := s2.rs.setSlot (i := l) (x := some (false, vd)) (y := some _) rfl fun d' z => by cases z; exact ⟨_, rfl, .inl r3⟩
      exact kk.nx _ _ _ ((s1.trans s2).sts.trans ⟨r4, Kp.refl, Sb.sub (Sx.set s2.rs.len rfl), fun _ h => h⟩) q
end
end SD

set_option Elab.async false
set_option linter.all false
set_option maxRecDepth 100000
set_option maxHeartbeats 4000000
namespace SD
open PySem PySem.Spec PyProof.Rows L2
/-! ## defs in defs and lambdas are made -/
section
variable {m : Am} {X : Cx} {k : Nat} {t : Tb} {Ex : ExV → DEnv → Prop} {σ σ' σ1 σ2 : L2.St} {H H' H1 H2 : Hp} {S S' : Addr → Prop} {env env1 env2 env' : DEnv} {ds : List D} {vs : List V} {d : D} {v : V} {e : Expr} {es : List Expr} {ir : IE} {irs : List IE} {pos : Pos} {E : Ends} {p : Addr} {Q : VK} {pins : List (Addr × Obj)} {s : Shared}
/-- new things, longer tables -/
theorem RS.grow (r : RS m σ H env) (ex : ∀ a o, H a = some o → NoTbl o → H' a = some o) (nn : ∀ a, H' a = none → H a = none) (ta : NdefX.TabsN m.G.T H') : RS m σ H' env := by
  have kp : ∀ S : Addr → Prop, Kp S H H' := fun S a o e _ t => ex a o e t
  refine ⟨r.len, fun i d q => ?_, fun i d q => ?_, r.ap, ⟨r.so.1, fun a h => ?_⟩, fun hw => ?_, ta, fun a o e n t => ex a o (r.fr a o e n t) t, fun a e => r.nn a (nn a e)⟩
  · obtain ⟨v, h1, h2⟩ := r.pl i d q
    exact ⟨v, h1, h2.mono (kp _) Sb.refl⟩
  · obtain ⟨b, h1, h2, h3, h4⟩ := r.ow i d q
    obtain ⟨o, e, nt⟩ := h2.there
    exact ⟨b, h1, h2.move (by rw [e, ex b o e nt]) (kp _) Sb.refl, h3, h4⟩
  · obtain ⟨o, e, nt, ne⟩ := r.so.2 a h
    exact ⟨o, ex a o e nt, nt, ne⟩
  · obtain ⟨a, b, c, e, ok⟩ := r.we hw
    exact ⟨a, b, c, ex _ _ e noTbl_lst, ok⟩
theorem RS.noS_ext {φ : Heap → Prop} (r : RS m σ H env) (e : H p = some (.ext φ)) : ¬ Sx m.So σ env p := by
  rintro (h | ⟨i, d, h1, h2⟩)
  · obtain ⟨o, e2, _, ne⟩ := r.so.2 p h
    rw [e] at e2; cases e2
    exact ne.2 _ rfl
  · obtain ⟨a, e2, x, _⟩ := r.ow i d h1
    rw [h2] at e2; cases e2
    cases x with
    | lst q _ => rw [e] at q; cases q
    | dK q _ _ => rw [e] at q; cases q
    | dT q _ _ => rw [e] at q; cases q
/-- what the making of the frame's own defs asks -/
structure MkC (m : Am) (X : Cx) (t : Tb) : Prop where
  ex : ∀ c, t.own c = true → ∃ (cc P : Addr) (nm : Nat → Nat → Str), LamX.TabB X.base X.mg cc P ∧ X.env.code = .ref cc ∧ (P, nm) ∈ m.G.T ∧ (∀ q ∈ m.G.T, q.1 = P → q.2 = nm) ∧ nm (t.cc c).pos.1 (t.cc c).pos.2 = (m.G.ct c).qual ∧
    (∀ y ∈ (m.G.ct c).scope.names, y.2 = .free → X.env.scope.names.lookup y.1 = some .cell ∨ X.env.scope.names.lookup y.1 = some .free) ∧
    ∀ (H : Hp) (S : Addr → Prop) (f c' : Addr), H f = some (FnC f (m.G.ct c) (cloFrom X.env.cells (m.G.ct c).scope.names []) c') → ¬ S f → H c' = some (LamX.CodeO c' (m.G.ct c).qual) → ¬ S c' → m.cl H S (.own c) (.ref f)
theorem ds_ndef {i c : Nat} {name : Str} {params : Arguments} {body : List Stmt} {scope : Scope} (g : GX m X k) (mk : MkC m X t) (hc : t.own c = true) (tx : m.G.ct c = ⟨name, X.env.qual ++ name, params, .stmts body, scope⟩) (hp : (t.cc c).pos = (pos.line, pos.col))
    (hd0 : params.defaults = []) (hk0 : params.kw_defaults = []) (ha : annTrees params none X.env = []) (hi : X.N[i]? = some name) (hx : Loc X.env.scope name) (hf : X.fn name = true ∨ X.env.scope.names.lookup name = some .local) :
    DS m X t Ex (.ndef i c) (.FunctionDef name params body [] none [] scope none name pos) := by
  obtain ⟨cc, P, nm, TB, hcode, hm, hu, hn, hfree, hcl⟩ := mk.ex c hc
  rw [hp, tx] at hn
  rw [tx] at hfree
  refine PS.weak (NdefX.ps_ndefM TB hcode hm hn hu hfree hd0 hk0 ha g.nd hi hx hf) fun E σ H ⟨env, K, r, w, k⟩ => ⟨r.ta, fun f c' H1 eN nn T1 f0 f1 c1 => ?_⟩
  have ex : ∀ a o, H a = some o → NoTbl o → H1 a = some o := fun a o e nt => eN a o e nt
  have r1 := r.grow ex nn T1
  have ra : RA m H1 (Sx m.So σ env) (.own c) (.ref f) := .inr (hcl H1 _ f c' (by rw [tx]; exact f1) (r.free f0) (by rw [tx]; exact c1) (r1.noS_ext c1))
  have r2 := r1.setSlot (i := i) (x := some (false, .own c)) (y := some (.ref f)) rfl fun d' z => by cases z; exact ⟨_, rfl, ra⟩
  exact k.nx _ H1 _ ⟨r2, fun a o e _ nt => ex a o e nt, Sb.sub (Sx.set r.len rfl), nn⟩ w
/-- the lambda's object is new, and known -/
theorem inv_lam {T : CT} {cl : List (Str × Addr)} {c' : Addr} {doc pm ctv : Value} {t' : Nat} (I : Inv X pins σ H s) : Inv X pins σ (upd H s.heap.objs.size (FnC s.heap.objs.size T cl c')) { s with heap := s.heap.push { cls := .type "function", data := .func (T.fd cl c' doc pm ctv) }, toks := t' } :=
  I.laid (fun b u e => Heap.get?_push_of_some _ e) (Nat.le_refl _) ⟨⟨none, #[], doc, pm, ctv, Heap.get?_push_size _ rfl⟩, ⟨_, Heap.get?_push_size _ rfl⟩, fun h1 h2 ⟨od, sl, d, p, t, z⟩ st => ⟨od, sl, d, p, t, st _ z⟩⟩
theorem lam_make {Tn : List NdefX.NTab} {nm : Nat → Nat → Str} {cc P : Addr} {params : Arguments} {body : Expr} {scope : Scope} {Q : Value → Shared → Prop} {E : Value → Shared → Prop} (I : Inv X pins σ H s) (TB : LamX.TabB X.base X.mg cc P) (hcode : X.env.code = .ref cc) (hm : (P, nm) ∈ Tn)
    (hn : nm pos.line pos.col = X.env.qual ++ "<lambda>") (hu : ∀ q ∈ Tn, q.1 = P → q.2 = nm) (hT : NdefX.TabsN Tn H) (hdef : defaultsOf params X.env = ([], [])) (hfree : ∀ y ∈ scope.names, y.2 = .free → ∃ a, X.env.cells.lookup y.1 = some a)
    (h : ∀ (f c' : Addr) (H1 : Hp) (s' : Shared), Inv X pins σ H1 s' → LamX.ExtN H H1 → (∀ b, H1 b = none → H b = none) → NdefX.TabsN Tn H1 → H f = none → H1 f = some (FnC f ⟨"<lambda>", X.env.qual ++ "<lambda>", params, .expr body, scope⟩ (cloFrom X.env.cells scope.names []) c') → H1 c' = some (LamX.CodeO c' (X.env.qual ++ "<lambda>")) → Q (.ref f) s') :
    wpAny (model X.prog X.w) X.A (eval (.Lambda params body scope pos) X.env) Q E s := by
  obtain ⟨ps, hP, ht, ha⟩ := hT _ hm
  have bP := TB.bm.keeps I.bk
  have gP := I.hok P _ hP
  refine PySem.W.kla_eval hdef ?_
  cases hc : codeAmong pos ps.toList with
  | some cv =>
    obtain ⟨c', rfl, hco⟩ := ha pos cv hc
    replace hco : H c' = some (LamX.CodeO c' (nm pos.line pos.col)) := hco
    rw [hn] at hco
    refine PySem.W.kla_makeFunctionHit (mg := X.mg) (c := cc) (P := P) (ps := ps) (closure_ok hfree) I.ok.glob (I.mod.glob.keeps I.bk) hcode (TB.code.keeps I.bk) gP ht hc bP fun ctv h' tk hx hsz => ?_
    have J : Inv X pins σ H { s with heap := h', toks := tk } := I.kept hx
    have n0 := J.hok.fresh (Nat.le_refl _)
    refine h h'.objs.size c' _ _ (inv_lam (T := ⟨"<lambda>", X.env.qual ++ "<lambda>", params, .expr body, scope⟩) (t' := tk) J) (fun b o z _ => ?_) (fun b z => ?_) (hT.ext fun b o z => ?_) n0 upd_same ?_
    · rw [upd_ne (ne_of_none z n0)]; exact z
    · by_cases hb : b = h'.objs.size
      · rw [hb, upd_same] at z; cases z
      · rw [upd_ne hb] at z; exact z
    · rw [upd_ne (ne_of_none z n0)]; exact z
    · rw [upd_ne (ne_of_none hco n0)]; exact hco
  | none =>
    refine PySem.W.kla_makeFunction (mg := X.mg) (c := cc) (P := P) (ps := ps) (closure_ok hfree) I.ok.glob (I.mod.glob.keeps I.bk) hcode (TB.code.keeps I.bk) gP ht hc TB.gP bP fun c' ctv h' tk hx hge hlt hrec htb => ?_
    obtain ⟨c2, oc, fs, tq, hz, hoc, hd, hv⟩ := hrec
    cases hz
    have nC : H c' = none := I.hok.fresh hge
    have J := LamX.inv_table (t' := tk) (more := #[rawInt pos.line, rawInt pos.col, .ref c']) (h' := h') I hP (fun b o hb z => hx b o hb z) htb hge ⟨oc, fs, tq, hoc, hd, hv⟩
    have n0 := J.hok.fresh (Nat.le_refl _)
    have nPc : P ≠ c' := ne_of_none hP nC
    have eL : (ps ++ #[rawInt pos.line, rawInt pos.col, .ref c']).toList = ps.toList ++ [rawInt pos.line, rawInt pos.col, .ref c'] := by simp
    have ext1 : ∀ b o, H b = some o → NoTbl o → upd (upd H P (.tbl (ps ++ #[rawInt pos.line, rawInt pos.col, .ref c']))) c' (LamX.CodeO c' (X.env.qual ++ "<lambda>")) b = some o := fun b o z nt => by
      have hb : b ≠ P := fun q => by rw [q, hP] at z; cases z; exact nt _ rfl
      rw [upd_ne (ne_of_none z nC), upd_ne hb]; exact z
    refine h h'.objs.size c' _ _ (inv_lam (T := ⟨"<lambda>", X.env.qual ++ "<lambda>", params, .expr body, scope⟩) (t' := tk) J) (fun b o z nt => ?_) (fun b z => ?_) (fun q hq => ?_) (I.hok.fresh (Nat.le_trans hge (Nat.le_of_lt hlt))) upd_same ?_
    · rw [upd_ne (ne_of_none (ext1 b o z nt) n0)]; exact ext1 b o z nt
    · by_cases hb : b = h'.objs.size
      · rw [hb, upd_same] at z; cases z
      · rw [upd_ne hb] at z
        by_cases hb2 : b = c'
        · rw [hb2, upd_same] at z; cases z
        · rw [upd_ne hb2] at z
          by_cases hb3 : b = P
          · rw [hb3, upd_same] at z; cases z
          · rw [upd_ne hb3] at z; exact z
    · have up : ∀ b o, upd (upd H P (.tbl (ps ++ #[rawInt pos.line, rawInt pos.col, .ref c']))) c' (LamX.CodeO c' (X.env.qual ++ "<lambda>")) b = some o → upd (upd (upd H P (.tbl (ps ++ #[rawInt pos.line, rawInt pos.col, .ref c']))) c' (LamX.CodeO c' (X.env.qual ++ "<lambda>"))) h'.objs.size (FnC h'.objs.size ⟨"<lambda>", X.env.qual ++ "<lambda>", params, .expr body, scope⟩ (cloFrom X.env.cells scope.names []) c') b = some o := fun b o z => by
        rw [upd_ne (ne_of_none z n0)]; exact z
      by_cases hb : q.1 = P
      · rw [hu q hq hb, hb]
        refine ⟨_, up _ _ (by rw [upd_ne nPc, upd_same]), by rw [eL]; exact PySem.TriplesOk_snoc _ _ _ _ ht, fun p' cv hcv => ?_⟩
        rw [eL] at hcv
        rcases NdefX.among_app2 _ ht hcv with z | ⟨z, z1, z2⟩
        · obtain ⟨c0, z1, z2⟩ := ha p' cv z
          exact ⟨c0, z1, up _ _ (ext1 _ _ z2 noTbl_code)⟩
        · refine ⟨c', z, up _ _ ?_⟩
          rw [← z1, ← z2, hn]
          exact upd_same
      · obtain ⟨ps', a1, a2, a3⟩ := hT q hq
        refine ⟨ps', up _ _ (by rw [upd_ne (ne_of_none a1 nC), upd_ne hb]; exact a1), a2, fun p' cv hcv => ?_⟩
        obtain ⟨c0, z1, z2⟩ := a3 p' cv hcv
        exact ⟨c0, z1, up _ _ (ext1 _ _ z2 noTbl_code)⟩
    · rw [upd_ne (Nat.ne_of_lt hlt)]; exact upd_same
theorem de_lam {c : Nat} {params : Arguments} {body : Expr} {scope : Scope} (mk : MkC m X t) (hc : t.own c = true) (tx : m.G.ct c = ⟨"<lambda>", X.env.qual ++ "<lambda>", params, .expr body, scope⟩) (hp : (t.cc c).pos = (pos.line, pos.col)) (hdef : defaultsOf params X.env = ([], [])) :
    DE m X t Ex (.lam c) (.Lambda params body scope pos) := by
  obtain ⟨cc, P, nm, TB, hcode, hm, hu, hn, hfree, hcl⟩ := mk.ex c hc
  rw [hp, tx] at hn
  rw [tx] at hfree
  refine ⟨fun pins s σ H Q I ⟨env, Qd, r, w, kq⟩ => ?_⟩
  refine lam_make I TB hcode hm hn hu r.ta hdef (fun y hy e => (hfree y hy e).elim (fun z => I.ok.has _ (.inl z)) fun z => I.ok.has _ (.inr z)) fun f c' H1 s' I1 eN nn T1 f0 f1 c1 => ?_
  have ex : ∀ a o, H a = some o → NoTbl o → H1 a = some o := fun a o e nt => eN a o e nt
  have r1 := r.grow ex nn T1
  have ra : RA m H1 (Sx m.So σ env) (.own c) (.ref f) := .inr (hcl H1 _ f c' (by rw [tx]; exact f1) (r.free f0) (by rw [tx]; exact c1) (r1.noS_ext c1))
  exact ⟨.ref f, H1, I1, rfl, kq _ _ env H1 ⟨r1, fun a o e _ nt => ex a o e nt, fun _ h => h, nn, fun a o h _ e => by
    obtain ⟨u, e2, nt, _⟩ := r.so.2 a h
    rw [e] at e2; cases e2
    exact ex a o e nt⟩ ra w⟩
end
end SD

set_option Elab.async false
set_option linter.all false
set_option maxRecDepth 100000
set_option maxHeartbeats 4000000
namespace SD
open PySem PySem.Spec PyProof.Rows L2
section
variable {m : Am} {X : Cx} {k : Nat} {t : Tb} {Ex : ExV → DEnv → Prop} {σ σ' σ1 σ2 : L2.St} {H H' H1 H2 : Hp} {S S' : Addr → Prop} {env env1 env2 env' : DEnv} {ds : List D} {vs : List V} {d : D} {v : V} {e : Expr} {es : List Expr} {ir : IE} {irs : List IE} {pos : Pos} {E : Ends} {p : Addr} {Q : VK}
/-! ### new objects become a slot's own -/
/-- a new object of the reader's own -/
def RdN (m : Am) (wp : DEnv → (D → DEnv → Prop) → Prop) : TE := fun σ H Q => ∃ (env : DEnv) (Qd : D → DEnv → Prop), RS m σ H env ∧ wp env Qd ∧
  ∀ d p env' H', St1 m σ H env H' env' → RS (m.plus p) σ H' env' → H p = none → RX m.G m.wa H' (Sx (m.plus p).So σ env') d p → Qd d env' → Q (.ref p) H'
theorem RdN.nl {wp} (h : RdN m wp σ H Q) : RdNL m wp σ H Q := by
  obtain ⟨env, Qd, r, w, kq⟩ := h
  exact ⟨env, Qd, r, w, fun l xs p env' H' s rp hp e rs q => kq _ p env' H' s rp hp (.lst e rs) q⟩
theorem RdN.nk {wp} (h : RdN m wp σ H Q) : RdNK m wp σ H Q := by
  obtain ⟨env, Qd, r, w, kq⟩ := h
  exact ⟨env, Qd, r, w, fun ks xs ds p env' H' s rp hp e hl rs q => kq _ p env' H' s rp hp (.dK e hl rs) q⟩
/-- a new list at p behind a step -/
theorem new_list {l : List D} {xs : List V} {Qd : D → DEnv → Prop} (s1 : St1 m σ H env H1 env1) (hp : H1 p = none) (rs : RDs m.G m.wa H1 (Sx m.So σ env1) l xs) (q : Qd (.lst l) env1)
    (kq : ∀ d p env' H', St1 m σ H env H' env' → RS (m.plus p) σ H' env' → H p = none → RX m.G m.wa H' (Sx (m.plus p).So σ env') d p → Qd d env' → Q (.ref p) H') : Q (.ref p) (upd H1 p (.lst xs)) := by
  have sb : Sb H1 (Sx m.So σ env1) (Sx (m.plus p).So σ env1) := fun a z => by
    rcases z with (z | rfl) | z
    · exact .inl (.inl z)
    · exact .inr hp
    · exact .inl (.inr z)
  exact kq (.lst l) p env1 _ (s1.trans (St1.new s1.rs hp)) (s1.rs.plus hp noTbl_lst ⟨fun _ z => (nomatch z), fun _ z => (nomatch z)⟩) (s1.nn p hp) (.lst upd_same (rs.mono (Kp.upd hp) sb)) q
theorem dn_lst (nb : ∀ i ∈ irs, isBor i = false) (hl : irs.length ≤ 1000) (al : AL m X t Ex irs es) : PE X (.List es pos) (RdN m (wpE t Ex (.lst irs))) := by
  refine PE.weak (pe_lst al.pa) fun σ H Q ⟨env, Qd, r, w, kq⟩ => ?_
  refine chainL irs ⟨env, _, r, w, fun ds vs env1 H1 s1 ro ⟨ok, q⟩ => ?_⟩
  obtain ⟨rd, hlen⟩ := ro.rds nb ok
  exact ⟨by rw [← rd.length, hlen, sizeLine_eq]; omega, fun p hp => new_list s1 hp rd q kq⟩
theorem dn_dict : PE X (.Dict [] [] pos) (RdN m (wpE t Ex (.dnew false))) := by
  refine PE.weak pe_dnewK fun σ H Q ⟨env, Qd, r, w, kq⟩ p hp => ?_
  exact kq (.dct false []) p env _ (St1.new r hp) (r.plus hp noTbl_dK ⟨fun _ z => (nomatch z), fun _ z => (nomatch z)⟩) hp (.dK (ks := []) (xs := []) (ds := []) upd_same rfl .nil) w
theorem dn_dictT : PE X (.Dict [] [] pos) (RdN m (wpE t Ex (.dnew true))) := by
  refine PE.weak pe_dnewT fun σ H Q ⟨env, Qd, r, w, kq⟩ p hp => ?_
  exact kq (.dct true []) p env _ (St1.new r hp) (r.plus hp noTbl_dT ⟨fun _ z => (nomatch z), fun _ z => (nomatch z)⟩) hp (.dT (ks := []) (xs := []) (ds := []) upd_same ⟨rfl, fun _ z => by cases z⟩ .nil) w
theorem RS.adopt {i : Nat} (r : RS (m.plus p) σ H env) (hw : m.G.hw = true → m.So m.wa) (hi : i < env.length) (hp : ¬ m.So p) (h0 : m.H0 p = none) (x : RX m.G m.wa H (Sx (m.plus p).So σ env) d p) :
    RS m (σ.set i (some (.ref p))) H (env.set i (some (true, d))) ∧ ∀ a, Sx m.So (σ.set i (some (.ref p))) (env.set i (some (true, d))) a → Sx (m.plus p).So σ env a := by
  have at_i : (env.set i (some (true, d)))[i]? = some (some (true, d)) := by rw [List.getElem?_set_self hi]
  have sat : (σ.set i (some (V.ref p)))[i]? = some (some (.ref p)) := by rw [List.getElem?_set_self (by rw [← r.len]; exact hi)]
  have own : ∀ j (e : D), (env.set i (some (true, d)))[j]? = some (some (true, e)) → (j = i ∧ e = d) ∨ (j ≠ i ∧ env[j]? = some (some (true, e))) := fun j e q => by
    by_cases hj : j = i
    · subst hj; rw [at_i] at q; cases q; exact .inl ⟨rfl, rfl⟩
    · rw [List.getElem?_set_ne (Ne.symm hj)] at q; exact .inr ⟨hj, q⟩
  have sub : ∀ a, Sx m.So (σ.set i (some (.ref p))) (env.set i (some (true, d))) a → Sx (m.plus p).So σ env a := fun a z => by
    rcases z with z | ⟨j, e, h1, h2⟩
    · exact .inl (.inl z)
    · rcases own j e h1 with ⟨rfl, rfl⟩ | ⟨hj, q⟩
      · rw [sat] at h2; cases h2; exact .inl (.inr rfl)
      · rw [List.getElem?_set_ne (Ne.symm hj)] at h2
        exact .inr ⟨j, e, q, h2⟩
  refine ⟨⟨by rw [List.length_set, List.length_set]; exact r.len, fun j e q => ?_, fun j e q => ?_, fun j l e f b q1 q2 h1 h2 => ?_, ⟨hw, fun a h => r.so.2 a (.inl h)⟩, r.we, r.ta, r.fr, r.nn⟩, sub⟩
  · have hj : j ≠ i := fun z => by subst z; rw [at_i] at q; cases q
    rw [List.getElem?_set_ne (Ne.symm hj)] at q ⊢
    obtain ⟨v, h1, h2⟩ := r.pl j e q
    have h3 : RA m H (Sx (m.plus p).So σ env) e v := h2
    exact ⟨v, h1, h3.mono Kp.refl (Sb.sub sub)⟩
  · rcases own j e q with ⟨rfl, rfl⟩ | ⟨hj, q⟩
    · exact ⟨p, sat, x.move rfl Kp.refl (Sb.sub sub), hp, h0⟩
    · obtain ⟨b, h1, h2, h3, h4⟩ := r.ow j e q
      exact ⟨b, by rw [List.getElem?_set_ne (Ne.symm hj)]; exact h1, h2.move rfl Kp.refl (Sb.sub sub), fun z => h3 (.inl z), h4⟩
  · rcases own j e q1 with ⟨rfl, rfl⟩ | ⟨hj, p1⟩ <;> rcases own l f q2 with ⟨rfl, rfl⟩ | ⟨hl, p2⟩
    · rfl
    · rw [sat] at h1; cases h1
      rw [List.getElem?_set_ne (Ne.symm hl)] at h2
      obtain ⟨b, h5, _, h6, _⟩ := r.ow l f p2
      rw [h2] at h5; cases h5
      exact absurd (.inr rfl) h6
    · rw [sat] at h2; cases h2
      rw [List.getElem?_set_ne (Ne.symm hj)] at h1
      obtain ⟨b, h5, _, h6, _⟩ := r.ow j e p1
      rw [h1] at h5; cases h5
      exact absurd (.inr rfl) h6
    · rw [List.getElem?_set_ne (Ne.symm hj)] at h1
      rw [List.getElem?_set_ne (Ne.symm hl)] at h2
      exact r.ap j l e f b p1 p2 h1 h2
theorem own_end {i : Nat} {K : KS} (r : RS m σ H env) (k : KOk m σ H env K E) (s : St1 m σ H env H' env') (rp : RS (m.plus p) σ H' env') (hp : H p = none) (x : RX m.G m.wa H' (Sx (m.plus p).So σ env') d p) (hi : i < env'.length) (q : K.nx (env'.set i (some (true, d)))) : E.nx (σ.set i (some (.ref p))) H' := by
  have nS : ¬ m.So p := fun z => r.free hp (.inl z)
  obtain ⟨r2, sub⟩ := rp.adopt r.so.1 hi nS (r.nn p hp) x
  refine k.nx _ H' _ ⟨r2, s.kp, fun a z => ?_, s.nn⟩ q
  rcases sub a z with (z | rfl) | z
  · exact .inl (.inl z)
  · exact .inr hp
  · exact .inl (s.sb a (.inr z))
theorem ds_own {i : Nat} {x : Str} {py : Pos} (g : GX m X k) (hi : X.N[i]? = some x) (hx : Loc X.env.scope x) (hf : X.fn x = true ∨ X.env.scope.names.lookup x = some .local) (h : PE X e (RdN m (wpE t Ex ir))) (hs : swapsWith e (some (.Name x py)) pos.line X.env = pure false) : DS m X t Ex (.own i ir) (.Assign [.Name x py] e pos) :=
  PS.weak (ps_set g.nd hi hx h hs hf) fun E σ H ⟨env, K, r, w, k⟩ => ⟨env, _, r, w, fun d p env' H' s rp hp x ⟨hl, q⟩ => own_end r k s rp hp x hl q⟩
end
end SD

set_option Elab.async false
set_option linter.all false
set_option maxRecDepth 100000
set_option maxHeartbeats 4000000
namespace SD
open PySem PySem.Spec PyProof.Rows L2
section
variable {m : Am} {X : Cx} {k : Nat} {t : Tb} {N : List Str} {Ex : ExV → DEnv → Prop} {σ σ' σ1 σ2 : L2.St} {H H' H1 H2 : Hp} {S S' : Addr → Prop} {env env1 env2 env' : DEnv} {ds : List D} {vs : List V} {d : D} {v : V} {e : Expr} {es : List Expr} {ir : IE} {irs : List IE} {pos : Pos} {E : Ends} {p : Addr} {Q : VK}
/-! ### stores on one line -/
def swB (sc : Scope) (e : Expr) (x : Str) (p : Pos) : Bool := match e with
  | .ListComp _ _ s _ => decide (sc.names.lookup x = some .local) && p.line == e.pos.line && !(s.names.any fun (n, k) => n == x && (k == .local || k == .cell))
  | .SetComp _ _ s _ => decide (sc.names.lookup x = some .local) && p.line == e.pos.line && !(s.names.any fun (n, k) => n == x && (k == .local || k == .cell))
  | .DictComp _ _ _ s _ => decide (sc.names.lookup x = some .local) && p.line == e.pos.line && !(s.names.any fun (n, k) => n == x && (k == .local || k == .cell))
  | _ => false
theorem blk_fn {en : PySem.Env} (h : en.scope.kind = .function) : en.blockKind = .function := by unfold Env.blockKind; rw [h]; rfl
theorem kind_dec {en : PySem.Env} {x : Str} : (en.kindOf x == some NameKind.local) = decide (en.scope.names.lookup x = some .local) := by
  show (en.scope.names.lookup x == some NameKind.local) = _
  cases h : en.scope.names.lookup x with
  | none => rfl
  | some c => cases c <;> rfl
theorem sw_ok {en : PySem.Env} {x : Str} {q : Pos} {l : Nat} (h : en.scope.kind = .function) : swapsWith e (some (.Name x q)) l en = pure (swB en.scope e x q) := by
  have hb := blk_fn h
  cases e <;> first
    | rfl
    | (unfold swapsWith swB
       simp only [hb, kind_dec]
       rfl)
theorem sw_no {l : Nat} {en : PySem.Env} (h : (match e with | .ListComp _ _ _ _ => false | .SetComp _ _ _ _ => false | .DictComp _ _ _ _ _ => false | _ => true) = true) {tg : Option Expr} : swapsWith e tg l en = pure false := by
  cases e <;> first | rfl | cases h
def notComp : Expr → Bool
  | .ListComp _ _ _ _ => false
  | .SetComp _ _ _ _ => false
  | .DictComp _ _ _ _ _ => false
  | _ => true
theorem sw_noB {l : Nat} {en : PySem.Env} (h : notComp e = true) {tg : Option Expr} : swapsWith e tg l en = pure false := by
  cases e <;> first | rfl | cases h
/-- the parts of a list comprehension that stands the check -/
structure CompP (m : Am) (X : Cx) (t : Tb) (Ex : ExV → DEnv → Prop) (own : List (Str × Nat)) (T : IT) (ik : IK) (src cs : List IE) (ex : IE) (elt tg iter : Expr) (ifs : List Expr) (scope : Scope) : Prop where
  pi : PI X tg iter (RdI m (wpI t Ex ik src))
  ok : BlkOk X.N X.env.scope scope own
  ns : ∀ i ∈ namesT T, i ∈ own.map (·.2)
  hg : Blk m X scope fun m X => PG X tg (gT m T)
  ht : Blk m X scope fun m X => PTs X ifs (RdC m (wpCs t noEx cs))
  he : Blk m X scope fun m X => DE m X t noEx ex elt
  hs : ∀ x, foldedSetIterable iter X.env x = pure x
theorem comp_parts {vs : List Nat} {T : IT} {ik : IK} {src cs : List IE} {ex : IE} {elt tg iter : Expr} {ifs : List Expr} {scope : Scope} (hx : SX m X k t Ex) (hN : X.N = N) (h : chkE t N (.comp vs T ik src cs ex) X.env.scope X.fn (.ListComp elt [⟨tg, iter, ifs, 0⟩] scope pos) = true) :
    CompP m X t Ex (ownV N vs) T ik src cs ex elt tg iter ifs scope := by
  unfold chkE at h
  split at h
  · rename_i elt' tg' iter' ifs' scope' pos' heq
    cases heq
    split at h
    · rename_i es he
      simp only [Bool.and_eq_true, Bool.not_eq_true', decide_eq_true_eq] at h
      obtain ⟨⟨⟨⟨⟨⟨⟨⟨⟨⟨h1, h2⟩, h3⟩, h4⟩, h5⟩, h6⟩, h7⟩, h8⟩, h9⟩, h10⟩, h11⟩ := h
      refine ⟨pi_iter (kk := ik) (src := src) hx.g rfl hx.hb he (chkL_ok src hx hN h9) (allNb h1), by rw [hN]; exact blkOk_by (blkX_c h3), by rw [ownV_snd]; exact fun i hi => of_decide_eq_true (List.all_eq_true.mp h4 i hi), fun D s H C cl fp => ?_, fun D s H C cl fp => ?_, fun D s H C cl fp => ?_, fold_ok h2⟩
      · exact pg_T (hx.blk D s H scope _ fp (blkX_f h3)).g (by show tgOk X.N _ _ T tg = true; rw [hN]; exact h5)
      · exact (chkM_ok cs (hx.blk D s H scope _ fp (blkX_f h3)) hN h10).cs h6 h7
      · exact (chk_ok ex (hx.blk D s H scope _ fp (blkX_f h3)) hN h11).de h8
    · cases h
  · cases h
theorem dn_list {q : Pos} (g : GX m X k) (hb : ∀ x ∈ bltNames, X.mg x = none) (hg : Gl X "list") (al : AL m X t Ex irs (e :: es)) : PE X (.Call (.Name "list" q) (e :: es) [] pos) (RdN m (wpE t Ex (.op .list_ irs))) := by
  have st := al.star
  have hin : ("list" : Str) ∈ bltNames := by decide +kernel
  obtain ⟨n1, n2⟩ := blt_nd hin
  refine PE.weak (pe_callTy (cr_listG (m := m) g.calm g.hK) hg (hb _ hin) boot_list' al.pa n1 n2 (star_nb (st e List.mem_cons_self)) (star_any fun y hy => st y (List.mem_cons_of_mem _ hy))) fun σ H Q ⟨env, Qd, r, w, kq⟩ => ?_
  refine chainL irs ⟨env, _, r, w, fun ds vs env1 H1 s1 ro w1 => ?_⟩
  have w' : wList ds (fun d => Qd d env1) := w1
  unfold wList at w'
  split at w'
  · obtain ⟨l, h1, q⟩ := w'
    obtain ⟨x, rfl, r1⟩ := (ro.rol s1.rs).one
    exact ⟨x, rfl, src_of s1.rs.notup h1 r1 fun xs rd p hp => new_list s1 hp rd q kq⟩
  · exact w'.elim
/-- sorted(..), a new list of its own -/
theorem dn_sorted {q : Pos} (g : GX m X k) (hb : ∀ x ∈ bltNames, X.mg x = none) (hg : Gl X "sorted") (al : AL m X t Ex irs (e :: es)) : PE X (.Call (.Name "sorted" q) (e :: es) [] pos) (RdN m (wpE t Ex (.op .sorted irs))) := by
  have st := al.star
  have hin : ("sorted" : Str) ∈ bltNames := by decide +kernel
  obtain ⟨n1, n2⟩ := blt_nd hin
  refine PE.weak (pe_callB (cr_sortG (m := m) g.calm (unit64 g) g.hK) hg (hb _ hin) boot_sorted' al.pa n1 n2 (star_nb (st e List.mem_cons_self)) (star_any fun y hy => st y (List.mem_cons_of_mem _ hy))) fun σ H Q ⟨env, Qd, r, w, kq⟩ => ?_
  refine chainL irs ⟨env, _, r, w, fun ds vs env1 H1 s1 ro w1 => ?_⟩
  have w' : wSorted ds (fun d => Qd d env1) := w1
  unfold wSorted at w'
  split at w'
  · obtain ⟨l, h1, h2, h3, h4, h5, q⟩ := w'
    obtain ⟨x, rfl, r1⟩ := (ro.rol s1.rs).one
    exact ⟨x, rfl, src_of s1.rs.notup h1 r1 fun xs rd => ⟨_, l, rd, h3, h2, h4, fun p ys hp rs => new_list s1 hp rs q kq⟩⟩
  · exact w'.elim
/-- the parts of a dict comprehension that stands the check -/
structure DompP (m : Am) (X : Cx) (t : Tb) (Ex : ExV → DEnv → Prop) (own : List (Str × Nat)) (T : IT) (ik : IK) (src cs : List IE) (kx ex : IE) (kel elt tg iter : Expr) (ifs : List Expr) (scope : Scope) : Prop where
  c : CompP m X t Ex own T ik src cs ex elt tg iter ifs scope
  hk : Blk m X scope fun m X => DE m X t noEx kx kel
theorem domp_parts {tk : Bool} {vs : List Nat} {T : IT} {ik : IK} {src cs : List IE} {kx ex : IE} {kel elt tg iter : Expr} {ifs : List Expr} {scope : Scope} (hx : SX m X k t Ex) (hN : X.N = N) (h : chkE t N (.dcomp tk vs T ik src cs kx ex) X.env.scope X.fn (.DictComp kel elt [⟨tg, iter, ifs, 0⟩] scope pos) = true) :
    tk = false ∧ DompP m X t Ex (ownV N vs) T ik src cs kx ex kel elt tg iter ifs scope := by
  unfold chkE at h
  split at h
  · rename_i kel' elt' tg' iter' ifs' scope' pos' heq
    cases heq
    split at h
    · rename_i es he
      simp only [Bool.and_eq_true, Bool.not_eq_true', decide_eq_true_eq] at h
      obtain ⟨⟨⟨⟨⟨⟨⟨⟨⟨⟨⟨⟨⟨h0, h1⟩, h2⟩, h3⟩, h4⟩, h5⟩, h6⟩, h7⟩, h8k⟩, h8⟩, h9⟩, h10⟩, h11k⟩, h11⟩ := h
      refine ⟨h0, ⟨pi_iter (kk := ik) (src := src) hx.g rfl hx.hb he (chkL_ok src hx hN h9) (allNb h1), by rw [hN]; exact blkOk_by (blkX_c h3), by rw [ownV_snd]; exact fun i hi => of_decide_eq_true (List.all_eq_true.mp h4 i hi), fun D s H C cl fp => ?_, fun D s H C cl fp => ?_, fun D s H C cl fp => ?_, fold_ok h2⟩, fun D s H C cl fp => ?_⟩
      · exact pg_T (hx.blk D s H scope _ fp (blkX_f h3)).g (by show tgOk X.N _ _ T tg = true; rw [hN]; exact h5)
      · exact (chkM_ok cs (hx.blk D s H scope _ fp (blkX_f h3)) hN h10).cs h6 h7
      · exact (chk_ok ex (hx.blk D s H scope _ fp (blkX_f h3)) hN h11).de h8
      · exact (chk_ok kx (hx.blk D s H scope _ fp (blkX_f h3)) hN h11k).de h8k
    · cases h
  · cases h
/-- name = {..} on one line, the name a local -/
theorem ps_setDc {i : Nat} {y : Str} {py pos spos : Pos} {kx vx tg iter : Expr} {ifs : List Expr} {scope : Scope} {own : List (Str × Nat)} {wi : TI} {gt : TG} {tt : TT} {tk tv : TE} (hc : X.calm = true) (hN : X.N.Nodup) (hy : X.N[i]? = some y) (hyl : X.env.scope.names.lookup y = some .local)
    (hsw : swapsWith (.DictComp kx vx [⟨tg, iter, ifs, 0⟩] scope pos) (some (.Name y py)) spos.line X.env = pure true) (hi : PI X tg iter wi) (ok : BlkOk X.N X.env.scope scope own)
    (hg : ∀ (s : Shared) (H : Hp) (C : Addr) (cl : List (Str × Addr)) (fp : List Addr), PG (X.blk s H scope (compEnvC scope cl C X.env) fp) tg gt) (ht : ∀ (s : Shared) (H : Hp) (C : Addr) (cl : List (Str × Addr)) (fp : List Addr), PTs (X.blk s H scope (compEnvC scope cl C X.env) fp) ifs tt)
    (hk : ∀ (s : Shared) (H : Hp) (C : Addr) (cl : List (Str × Addr)) (fp : List Addr), PE (X.blk s H scope (compEnvC scope cl C X.env) fp) kx tk) (he : ∀ (s : Shared) (H : Hp) (C : Addr) (cl : List (Str × Addr)) (fp : List Addr), PE (X.blk s H scope (compEnvC scope cl C X.env) fp) vx tv) (hs : ∀ x, foldedSetIterable iter X.env x = pure x) :
    PS X (.Assign [.Name y py] (.DictComp kx vx [⟨tg, iter, ifs, 0⟩] scope pos) spos) (tAsg (tDc wi gt tt tk tv (own.map (·.2))) (gName i)) := by
  refine ⟨fun pins s σ H D I hw => ?_⟩
  rw [exec_Assign_Name_used _ _ _ _ hsw]
  refine wpAny_bind (wpAny_standAt (wpAny_bind ?_))
  show wpAny _ X.A (do let _ ← comprehension (.DictComp kx vx [⟨tg, iter, ifs, 0⟩] scope pos) scope X.env (firstIterPos [⟨tg, iter, ifs, 0⟩] pos) newDict false (eval iter X.env) (some (assign (.Name y py) X.env))) _ _ s
  have hw : tDc wi gt tt tk tv (own.map (·.2)) σ H (fun x H1 => gName i x σ H1 D.nx) := hw
  refine wpAny_bind (thn (dc_core (Qf := fun _ s' => SP X pins D .next s') hc hN I hi ok hg ht hk he hs hw fun L C s' mm H' I' q hn f => ?_) fun _ s' hq => wpAny_pure (wpAny_pure hq))
  show wpAny _ _ (assign (.Name y py) X.env (.ref L)) _ _ _
  refine wpAny_assign_Name (store_ok2 (v := V.ref L) I' hN hy (.inl hyl) rfl (fun s2 I2 ⟨a, sb, ha⟩ => ?_) (.inr hyl))
  obtain ⟨f0, f1, f2, f3, f4, f5⟩ := f
  have haC : C ≠ a := by
    rcases ha with z | z
    · rw [z]; exact f1
    · exact fun e => f4 y a z e.symm
  refine ⟨mm, hn.sameBut sb haC, fun h3 sb3 => ?_⟩
  exact ⟨_, H', I2.turned (t' := s2.toks) (fun b o hb e => (sb3.2 b hb).trans e) f0 f1 f3 f4 f5, q⟩
theorem ds_dcomp {i : Nat} {y : Str} {py spos : Pos} {ik : IK} {src cs : List IE} {kx ex : IE} {T : IT} {kel elt tg iter : Expr} {ifs : List Expr} {scope : Scope} {own : List (Str × Nat)} (g : GX m X k) (hy : X.N[i]? = some y) (hyl : X.env.scope.names.lookup y = some .local) (hsw : swapsWith (.DictComp kel elt [⟨tg, iter, ifs, 0⟩] scope pos) (some (.Name y py)) spos.line X.env = pure true)
    (c : DompP m X t Ex own T ik src cs kx ex kel elt tg iter ifs scope) : PS X (.Assign [.Name y py] (.DictComp kel elt [⟨tg, iter, ifs, 0⟩] scope pos) spos) (tAsg (RdNK m (wpE t Ex (.dcomp false (own.map (·.2)) T ik src cs kx ex))) (gName i)) :=
  PS.weak (ps_setDc g.calm g.nd hy hyl hsw c.c.pi c.c.ok (fun s H C cl fp => PG.any fun D => c.c.hg D s H C cl fp) (fun s H C cl fp => PTs.any fun D => c.c.ht D s H C cl fp) (fun s H C cl fp => PE.any fun D => c.hk D s H C cl fp) (fun s H C cl fp => PE.any fun D => c.c.he D s H C cl fp) c.c.hs) fun E σ H h => dcomp_read c.c.ns h
/-- a slice of a list, a new list of its own -/
def rSlxL (K : PySem.W.Frag) : Bool → Bool → List V → Hp → VK → Prop
  | true, false, [x, a], H, Q => ∃ i, a = .int i ∧ rSlL K x (some i) none H Q
  | false, true, [x, b], H, Q => ∃ j, b = .int j ∧ rSlL K x none (some j) H Q
  | _, _, _, _, _ => False
theorem ls_of {S : Addr → Prop} {H : Hp} {d : D} {x : V} {lo hi : Option Int} {Qd : D → Prop} (hd : isLs d = true) (r : RO m H S d x) (w : slW d lo hi Qd) : ∃ (a : Addr) (xs : List V) (l : List D), x = .ref a ∧ SqL m.G.K H a xs ∧ RDs m.G m.wa H S l xs ∧ Qd (.lst (dCut l lo hi)) := by
  cases d <;> first | (cases hd; done) | skip
  · obtain ⟨a, xs, rfl, e, ra⟩ := r.lst
    exact ⟨a, xs, _, rfl, SqL.of e, ra, w⟩
  · obtain ⟨a, xs, rfl, e, ra⟩ := r.rl
    exact ⟨a, xs, _, rfl, e, ra, w⟩
theorem dn_sl {a : Expr} {lo hi : Option Expr} {p2 : Pos} (g : GX m X k) (al : AL m X t Ex irs es) {bl bh : Bool} (h : (∃ l, lo = some l ∧ hi = none ∧ es = [a, l] ∧ bl = true ∧ bh = false) ∨ (∃ r, lo = none ∧ hi = some r ∧ es = [a, r] ∧ bl = false ∧ bh = true)) :
    PE X (.Subscript a (.Slice lo hi none p2) pos) (RdN m (wpE t Ex (.op (.sll bl bh) irs))) := by
  have hr : SlR X (rSlL m.G.K) := by have h := sl_list (X := X); rw [g.hK] at h; exact h
  have core : ∀ σ H Q, RdN m (wpE t Ex (.op (.sll bl bh) irs)) σ H Q → tL (irs.map (tO m t Ex)) σ H fun vs H1 => rSlxL m.G.K bl bh vs H1 Q := fun σ H Q ⟨env, Qd, r, w, kq⟩ => by
    refine chainL irs ⟨env, _, r, w, fun ds vs env1 H1 s1 ro w1 => ?_⟩
    have w' : wSll bl bh ds (fun d => Qd d env1) := w1
    cases ds with
    | nil => exact w'.elim
    | cons d r0 =>
      obtain ⟨hd, w2⟩ := w'
      cases bl <;> cases bh
      · rcases h with ⟨_, _, _, _, z, _⟩ | ⟨_, _, _, _, _, z⟩ <;> cases z
      · cases r0 with
        | nil => exact w2.elim
        | cons e r0 =>
          cases r0 with
          | cons _ _ => cases e <;> exact w2.elim
          | nil =>
            cases e <;> first | exact w2.elim | skip
            obtain ⟨x, y, rfl, r1, r2⟩ := (ro.rol s1.rs).two
            cases r2.int
            obtain ⟨a, xs, l, rfl, e1, ra, q⟩ := ls_of (m := m) hd r1 w2
            exact ⟨_, rfl, a, xs, rfl, e1, fun p hp => new_list s1 hp (ra.cut _ _) q kq⟩
      · cases r0 with
        | nil => exact w2.elim
        | cons e r0 =>
          cases r0 with
          | cons _ _ => cases e <;> exact w2.elim
          | nil =>
            cases e <;> first | exact w2.elim | skip
            obtain ⟨x, y, rfl, r1, r2⟩ := (ro.rol s1.rs).two
            cases r2.int
            obtain ⟨a, xs, l, rfl, e1, ra, q⟩ := ls_of (m := m) hd r1 w2
            exact ⟨_, rfl, a, xs, rfl, e1, fun p hp => new_list s1 hp (ra.cut _ _) q kq⟩
      · rcases h with ⟨_, _, _, _, _, z⟩ | ⟨_, _, _, _, z, _⟩ <;> cases z
  rcases h with ⟨l, rfl, rfl, rfl, rfl, rfl⟩ | ⟨r, rfl, rfl, rfl, rfl, rfl⟩
  · obtain ⟨i, j, rfl, h1, h2⟩ := al.two
    exact PE.weak (pe_slice hr h1 (po_some h2) po_none) fun σ H Q h => core σ H Q h
  · obtain ⟨i, j, rfl, h1, h2⟩ := al.two
    exact PE.weak (pe_slice hr h1 po_none (po_some h2)) fun σ H Q h => core σ H Q h
/-- new objects, against the text -/
def chkN (t : Tb) (N : List Str) : IE → Scope → (Str → Bool) → Expr → Bool
  | .lst l, sc, fn, .List es p => chkE t N (.lst l) sc fn (.List es p)
  | .comp vs T ik src cs ex, sc, fn, .ListComp elt [⟨tg, iter, ifs, 0⟩] scope p => chkE t N (.comp vs T ik src cs ex) sc fn (.ListComp elt [⟨tg, iter, ifs, 0⟩] scope p)
  | .dnew _, _, _, .Dict [] [] _ => true
  | .op .list_ args, sc, fn, .Call (.Name x _) (e :: es) [] _ => decide (x = "list") && glB sc x && chkL t N args sc fn (e :: es)
  | .op .sorted args, sc, fn, .Call (.Name x _) (e :: es) [] _ => decide (x = "sorted") && glB sc x && chkL t N args sc fn (e :: es)
  | .op .dict_ args, sc, fn, .Call (.Name x _) (e :: es) [] _ => decide (x = "dict") && glB sc x && chkL t N args sc fn (e :: es)
  | .dcomp tk vs T ik src cs kx ex, sc, fn, .DictComp kel elt [⟨tg, iter, ifs, 0⟩] scope p => chkE t N (.dcomp tk vs T ik src cs kx ex) sc fn (.DictComp kel elt [⟨tg, iter, ifs, 0⟩] scope p)
  | .op (.sll true false) args, sc, fn, .Subscript a (.Slice (some l) none none _) _ => chkL t N args sc fn [a, l]
  | .op (.sll false true) args, sc, fn, .Subscript a (.Slice none (some r) none _) _ => chkL t N args sc fn [a, r]
  | _, _, _, _ => false
theorem chkN_ok (hx : SX m X k t Ex) (hN : X.N = N) (h : chkN t N ir X.env.scope X.fn e = true) : PE X e (RdN m (wpE t Ex ir)) := by
  unfold chkN at h
  split at h
  · rename_i l es p
    unfold chkE at h
    simp only [Bool.and_eq_true, decide_eq_true_eq] at h
    exact dn_lst (allNb h.1.1) h.1.2 (chkL_ok l hx hN h.2)
  · rename_i vs T ik src cs ex elt tg iter ifs scope p
    have c := comp_parts hx hN h
    have q := de_comp (pos := p) hx.g c.pi c.ok c.ns c.hg c.ht c.he c.hs
    rw [ownV_snd] at q
    exact PE.weak q fun σ H Q z => z.nl
  · rename_i tk p
    cases tk with
    | false => exact dn_dict
    | true => exact dn_dictT
  · simp only [Bool.and_eq_true, decide_eq_true_eq] at h
    obtain ⟨⟨rfl, h1⟩, h2⟩ := h
    exact dn_list hx.g hx.hb (Gl.of rfl h1) (chkL_ok _ hx hN h2)
  · simp only [Bool.and_eq_true, decide_eq_true_eq] at h
    obtain ⟨⟨rfl, h1⟩, h2⟩ := h
    exact dn_sorted hx.g hx.hb (Gl.of rfl h1) (chkL_ok _ hx hN h2)
  · simp only [Bool.and_eq_true, decide_eq_true_eq] at h
    obtain ⟨⟨rfl, h1⟩, h2⟩ := h
    exact PE.weak (de_dictN hx.g hx.hb (Gl.of rfl h1) (chkL_ok _ hx hN h2)) fun σ H Q z => z.nk
  · rename_i tk vs T ik src cs kx ex kel elt tg iter ifs scope p
    obtain ⟨rfl, c⟩ := domp_parts hx hN h
    have q := de_dcomp (pos := p) hx.g c.c.pi c.c.ok c.c.ns c.c.hg c.c.ht c.hk c.c.he c.c.hs
    rw [ownV_snd] at q
    exact PE.weak q fun σ H Q z => z.nk
  · exact dn_sl hx.g (chkL_ok _ hx hN h) (.inl ⟨_, rfl, rfl, rfl, rfl, rfl⟩)
  · exact dn_sl hx.g (chkL_ok _ hx hN h) (.inr ⟨_, rfl, rfl, rfl, rfl, rfl⟩)
  · cases h
end
end SD

set_option Elab.async false
set_option linter.all false
set_option maxRecDepth 100000
set_option maxHeartbeats 4000000
namespace SD
open PySem PySem.Spec PyProof.Rows L2
/-! ## several stores at once -/
def Am.pluss (m : Am) (Ds : List Addr) : Am := { m with So := fun a => m.So a ∨ a ∈ Ds }
theorem pluss_nil {m : Am} : m.pluss [] = m := by
  unfold Am.pluss
  congr 1
  funext a
  simp
theorem pluss_plus {m : Am} {Ds : List Addr} {p : Addr} : (m.pluss Ds).plus p = m.pluss (Ds ++ [p]) := by
  unfold Am.pluss Am.plus
  congr 1
  funext a
  simp only [List.mem_append, List.mem_singleton, or_assoc]
theorem plus_pluss {m : Am} {Ds : List Addr} {p : Addr} : (m.plus p).pluss Ds = m.pluss (p :: Ds) := by
  unfold Am.pluss Am.plus
  congr 1
  funext a
  simp only [List.mem_cons, or_assoc]
theorem pluss_plus' {m : Am} {Ds : List Addr} {p : Addr} : (m.pluss Ds).plus p = m.pluss (p :: Ds) := by
  unfold Am.pluss Am.plus
  congr 1
  funext a
  simp only [List.mem_cons]
  apply propext
  constructor
  · rintro ((h | h) | h)
    · exact .inl h
    · exact .inr (.inr h)
    · exact .inr (.inl h)
  · rintro (h | h | h)
    · exact .inl (.inl h)
    · exact .inr h
    · exact .inl (.inr h)
section
variable {m : Am} {X : Cx} {k : Nat} {t : Tb} {N : List Str} {Ex : ExV → DEnv → Prop} {σ σ' σ1 σ2 : L2.St} {H H' H1 H2 : Hp} {S S' : Addr → Prop} {env env1 env2 env' : DEnv} {ds : List D} {vs : List V} {d : D} {v : V} {e : Expr} {es : List Expr} {ir : IE} {irs : List IE} {pos : Pos} {E : Ends} {p : Addr} {Q : VK}
/-- the values of the operands: those that are new are told with their places ps -/
def ParO (m : Am) (H : Hp) (S : Addr → Prop) : List (Nat × Bool × IE) → List D → List V → List Addr → Prop
  | [], [], [], [] => True
  | (_, true, _) :: is, d :: ds, v :: vs, p :: ps => (v = .ref p ∧ RX m.G m.wa H S d p ∧ m.H0 p = none ∧ ¬ m.So p ∧ p ∉ ps) ∧ ParO m H S is ds vs ps
  | (_, false, _) :: is, d :: ds, v :: vs, ps => RA m H S d v ∧ ParO m H S is ds vs ps
  | _, _, _, _ => False
theorem ParO.mono (k : Kp S H H') (s : Sb H S S') : ∀ {is : List (Nat × Bool × IE)} {ds : List D} {vs : List V} {ps : List Addr}, (∀ p ∈ ps, H' p = H p) → ParO m H S is ds vs ps → ParO m H' S' is ds vs ps
  | [], [], [], [], _, _ => trivial
  | (_, true, _) :: is, d :: ds, v :: vs, p :: ps, hp, h => ⟨⟨h.1.1, h.1.2.1.move (hp p List.mem_cons_self).symm k s, h.1.2.2⟩, ParO.mono k s (fun q hq => hp q (List.mem_cons_of_mem _ hq)) h.2⟩
  | (_, false, _) :: is, d :: ds, v :: vs, ps, hp, h => ⟨h.1.mono k s, ParO.mono k s hp h.2⟩
def tOP (m : Am) (t : Tb) (Ex : ExV → DEnv → Prop) (x : Nat × Bool × IE) : TE := fun σ H Q => ∃ Ds : List Addr, if x.2.1 = true then RdN (m.pluss Ds) (wpE t Ex x.2.2) σ H Q else RdE (m.pluss Ds) (wpE t Ex x.2.2) σ H Q
/-- the stores -/
def setAll : List (Nat × Bool × IE) → List V → L2.St → L2.St
  | (i, _, _) :: is, v :: vs, σ => setAll is vs (σ.set i (some v))
  | _, _, σ => σ
theorem ParO.base {mc : Am} {Ds : List Addr} : ∀ {is : List (Nat × Bool × IE)} {ds : List D} {vs : List V} {ps : List Addr}, ParO (mc.plus p) H S is ds vs ps → ParO mc H S is ds vs ps
  | [], [], [], [], _ => trivial
  | (_, true, _) :: is, d :: ds, v :: vs, q :: ps, h => ⟨⟨h.1.1, h.1.2.1, h.1.2.2.1, fun z => h.1.2.2.2.1 (.inl z), h.1.2.2.2.2⟩, ParO.base (Ds := Ds) h.2⟩
  | (_, false, _) :: is, d :: ds, v :: vs, ps, h => ⟨h.1, ParO.base (Ds := Ds) h.2⟩
theorem ParO.nin : ∀ {is : List (Nat × Bool × IE)} {ds : List D} {vs : List V} {ps : List Addr}, ParO (m.plus p) H S is ds vs ps → p ∉ ps
  | [], [], [], [], _ => by simp
  | (_, true, _) :: is, d :: ds, v :: vs, q :: ps, h => by
    have a := ParO.nin h.2
    have b : q ≠ p := fun z => h.1.2.2.2.1 (.inr z)
    simp only [List.mem_cons, not_or]
    exact ⟨Ne.symm b, a⟩
  | (_, false, _) :: is, d :: ds, v :: vs, ps, h => ParO.nin h.2
/-- operands from the left -/
theorem chainP (m0 : Am) : ∀ (is : List (Nat × Bool × IE)) {Ds : List Addr} {σ : L2.St} {H : Hp} {Q : List V → Hp → Prop}, (∀ x ∈ is, isBor x.2.2 = false) →
    (∃ env Qd, RS (m0.pluss Ds) σ H env ∧ wpL t Ex (is.map (·.2.2)) env Qd ∧ ∀ ds vs ps env' H', St1 (m0.pluss Ds) σ H env H' env' → RS ((m0.pluss Ds).pluss ps) σ H' env' → (∀ p ∈ ps, H p = none) → ParO (m0.pluss Ds) H' (Sx ((m0.pluss Ds).pluss ps).So σ env') is ds vs ps → Qd ds env' → Q vs H') → tL (is.map (tOP m0 t Ex)) σ H Q
  | [], Ds, σ, H, Q, _, ⟨env, Qd, r, w, kq⟩ => kq [] [] [] env H (St1.refl r) (by rw [pluss_nil]; exact r) (fun _ z => by cases z) trivial w
  | (i, b, ir) :: is, Ds, σ, H, Q, nb, ⟨env, Qd, r, w, kq⟩ => by
    have n1 := nb _ List.mem_cons_self
    have nbs : ∀ x ∈ is, isBor x.2.2 = false := fun x hx => nb x (List.mem_cons_of_mem _ hx)
    rw [List.map_cons, wpL_nb n1] at w
    cases b with
    | false =>
      refine ⟨Ds, ?_⟩
      rw [if_neg (by simp)]
      refine ⟨env, _, r, w, fun d v env1 H1 s1 ra w1 => ?_⟩
      refine chainP m0 is (Ds := Ds) nbs ⟨env1, _, s1.rs, w1, fun ds vs ps env2 H2 s2 rp hn po q => ?_⟩
      refine kq (d :: ds) (v :: vs) ps env2 H2 (s1.trans s2) rp (fun p hp => s1.nn p (hn p hp)) ⟨ra.mono s2.kp fun a z => ?_, po⟩ q
      rcases z with (z | z) | z
      · exact .inl (.inl z)
      · exact .inr (hn a z)
      · exact .inl (s2.sb a (.inr z))
    | true =>
      refine ⟨Ds, ?_⟩
      rw [if_pos rfl]
      refine ⟨env, _, r, w, fun d p env1 H1 s1 rp hp x w1 => ?_⟩
      rw [pluss_plus] at rp x
      refine chainP m0 is (Ds := Ds ++ [p]) nbs ⟨env1, _, rp, w1, fun ds vs ps env2 H2 s2 rp2 hn po q => ?_⟩
      rw [← pluss_plus] at s2 rp2 po
      have s12 := s1.turn hp r s2 s2.rs (fun _ _ => rfl) (fun z => by
        obtain ⟨o, e, _⟩ := s2.rs.so.2 p (.inr rfl)
        rw [z] at e
        cases e)
      rw [plus_pluss] at rp2
      refine kq (d :: ds) (.ref p :: vs) (p :: ps) env2 H2 s12 rp2 (fun a ha => (List.mem_cons.mp ha).elim (fun z => by rw [z]; exact hp) fun z => s1.nn a (hn a z)) ⟨⟨rfl, ?_, r.nn p hp, fun z => r.free hp (.inl z), po.nin⟩, ?_⟩ q
      · rw [← pluss_plus] at x
        obtain ⟨o, eo, _⟩ := x.there
        have hpw : m0.G.hw = true → p ≠ m0.wa := fun hw z => by
          obtain ⟨x, e2, _⟩ := r.so.2 _ (r.so.1 hw)
          have e3 : H p = some x := by rw [z]; exact e2
          rw [hp] at e3
          cases e3
        refine x.move (by rw [eo, s2.ks p o (.inr rfl) hpw eo]) s2.kp fun a z => ?_
        rcases z with (z | z) | z
        · exact .inl (.inl (.inl z))
        · rcases List.mem_cons.mp z with z | z
          · exact .inl (.inl (.inr z))
          · exact .inr (hn a z)
        · exact .inl (s2.sb a (.inr z))
      · rw [← plus_pluss]
        exact ParO.base (Ds := []) po
/-- the stores, one after the other -/
theorem storeAll : ∀ (is : List (Nat × Bool × IE)) {mc : Am} {ds : List D} {vs : List V} {ps : List Addr} {σ : L2.St} {env env2 : DEnv}, RS (mc.pluss ps) σ H env → (mc.G.hw = true → mc.So mc.wa) → ParO mc H (Sx (mc.pluss ps).So σ env) is ds vs ps → storeP is ds env = some env2 → (∀ x ∈ is, x.1 < env.length) →
    RS mc (setAll is vs σ) H env2 ∧ ∀ a, Sx mc.So (setAll is vs σ) env2 a → Sx (mc.pluss ps).So σ env a
  | [], mc, [], [], [], σ, env, env2, r, hw, po, h, hl => by
    cases h
    rw [pluss_nil] at r ⊢
    exact ⟨r, fun _ z => z⟩
  | (i, true, ir) :: is, mc, d :: ds, v :: vs, p :: ps, σ, env, env2, r, hw, po, h, hl => by
    obtain ⟨⟨rfl, x, h0, hS, hn⟩, po⟩ := po
    rw [← pluss_plus'] at r x po ⊢
    obtain ⟨r2, sub⟩ := r.adopt (i := i) (fun z => .inl (hw z)) (hl _ List.mem_cons_self) (fun z => z.elim hS hn) h0 x
    obtain ⟨a, b⟩ := storeAll is r2 hw (po.mono Kp.refl (Sb.sub sub) fun _ _ => rfl) h fun y hy => by rw [List.length_set]; exact hl y (List.mem_cons_of_mem _ hy)
    exact ⟨a, fun c z => sub c (b c z)⟩
  | (i, false, ir) :: is, mc, d :: ds, v :: vs, ps, σ, env, env2, r, hw, po, h, hl => by
    obtain ⟨ra, po⟩ := po
    have r2 := r.setSlot (i := i) (x := some (false, d)) (y := some v) rfl fun d' z => by cases z; exact ⟨v, rfl, ra⟩
    have sub := Sx.set (m := mc.pluss ps) (i := i) (x := some (false, d)) (y := some v) r.len rfl
    obtain ⟨a, b⟩ := storeAll is r2 hw (po.mono Kp.refl (Sb.sub sub) fun _ _ => rfl) h fun y hy => by rw [List.length_set]; exact hl y (List.mem_cons_of_mem _ hy)
    exact ⟨a, fun c z => sub c (b c z)⟩
  | [], _, _ :: _, _, _, _, _, _, _, _, po, h, _ => by cases h
  | [], _, [], _ :: _, _, _, _, _, _, _, po, _, _ => po.elim
  | [], _, [], [], _ :: _, _, _, _, _, _, po, _, _ => po.elim
  | (_, true, _) :: _, _, [], vs, ps, _, _, _, _, _, po, h, _ => by cases h
  | (_, false, _) :: _, _, [], vs, ps, _, _, _, _, _, po, h, _ => by cases h
  | (_, true, _) :: _, _, _ :: _, [], ps, _, _, _, _, _, po, _, _ => po.elim
  | (_, false, _) :: _, _, _ :: _, [], ps, _, _, _, _, _, po, _, _ => by cases ps <;> exact po.elim
  | (_, true, _) :: _, _, _ :: _, _ :: _, [], _, _, _, _, _, po, _, _ => po.elim
theorem ParO.len : ∀ {is : List (Nat × Bool × IE)} {ds : List D} {vs : List V} {ps : List Addr}, ParO m H S is ds vs ps → vs.length = is.length
  | [], [], [], [], _ => rfl
  | (_, true, _) :: is, d :: ds, v :: vs, q :: ps, h => by simp [ParO.len h.2]
  | (_, false, _) :: is, d :: ds, v :: vs, ps, h => by simp [ParO.len h.2]
/-- a, b = x, y: from the readings of the values to the stores -/
theorem par_read {l : List (Nat × Bool × IE)} (nb : ∀ x ∈ l, isBor x.2.2 = false) {K : KS} (r : RS m σ H env) (k : KOk m σ H env K E) (w : wpL t Ex (l.map (·.2.2)) env fun ds env' => (∀ x ∈ l, x.1 < env'.length) ∧ ∃ env2, storeP l ds env' = some env2 ∧ K.nx env2) {Q : List V → Hp → Prop}
    (hQ : ∀ vs H1, vs.length = l.length → E.nx (setAll l vs σ) H1 → (∀ p, H1 p = none → E.nx (setAll l vs σ) (upd H1 p (.tup vs))) → Q vs H1) : tL (l.map (tOP m t Ex)) σ H Q := by
  refine chainP m l (Ds := []) nb ⟨env, _, by rw [pluss_nil]; exact r, w, fun ds vs ps env' H' s rp hn po ⟨hl, env2, hst, q⟩ => ?_⟩
  rw [pluss_nil] at s rp po
  refine hQ vs H' po.len ?_ fun p hp => ?_
  · obtain ⟨r2, sub⟩ := storeAll l rp r.so.1 po hst hl
    refine k.nx _ H' env2 ⟨r2, s.kp, fun a z => ?_, s.nn⟩ q
    rcases sub a z with (z | z) | z
    · exact .inl (.inl z)
    · exact .inr (hn a z)
    · exact .inl (s.sb a (.inr z))
  · have hps : ∀ a ∈ ps, upd H' p (.tup vs) a = H' a := fun a ha => by
      obtain ⟨o, e, _⟩ := rp.so.2 a (.inr ha)
      exact upd_ne fun z => by rw [z, hp] at e; cases e
    obtain ⟨r2, sub⟩ := storeAll l (rp.new (o := .tup vs) hp) r.so.1 (po.mono (Kp.upd hp) Sb.refl hps) hst hl
    refine k.nx _ _ env2 ⟨r2, s.kp.trans (Sb.sub s.sb) (Kp.upd hp), fun a z => ?_, fun a z => s.nn a ?_⟩ q
    · rcases sub a z with (z | z) | z
      · exact .inl (.inl z)
      · exact .inr (hn a z)
      · exact .inl (s.sb a (.inr z))
    · by_cases ha : a = p
      · rw [ha, upd_same] at z; cases z
      · rw [upd_ne ha] at z; exact z
/-- each operand and its expression -/
def ALP (m : Am) (X : Cx) (t : Tb) (Ex : ExV → DEnv → Prop) : List (Nat × Bool × IE) → List Expr → Prop
  | [], [] => True
  | x :: xs, e :: es => PE X e (tOP m t Ex x) ∧ notStar e = true ∧ ALP m X t Ex xs es
  | _, _ => False
theorem ALP.pa : ∀ {l : List (Nat × Bool × IE)} {es : List Expr}, ALP m X t Ex l es → PA X es (tL (l.map (tOP m t Ex)))
  | [], [], _ => pa_nil
  | x :: xs, e :: es, h => pa_cons h.1 (ALP.pa h.2.2) (star_nb h.2.1)
  | [], _ :: _, h => h.elim
  | _ :: _, [], h => h.elim
def gNs : List (Nat × Bool × IE) → TGs
  | [] => gNil
  | x :: xs => gCons (gName x.1) (gNs xs)
theorem gNs_ok : ∀ {l : List (Nat × Bool × IE)} {vs : List V} {σ : L2.St} {H : Hp} {Q : L2.St → Hp → Prop}, vs.length = l.length → Q (setAll l vs σ) H → gNs l vs σ H Q
  | [], [], _, _, _, _, h => ⟨rfl, h⟩
  | x :: xs, v :: vs, _, _, _, hl, h => ⟨v, vs, rfl, gNs_ok (l := xs) (by simpa using hl) h⟩
  | [], _ :: _, _, _, _, hl, _ => by cases hl
  | _ :: _, [], _, _, _, hl, _ => by cases hl
def nmsOk (N : List Str) (sc : Scope) (fn : Str → Bool) : List (Nat × Bool × IE) → List Expr → Bool
  | [], [] => true
  | x :: xs, .Name y _ :: es => decide (N[x.1]? = some y) && (decide (sc.names.lookup y = some .local) || (decide (sc.names.lookup y = some .cell) && fn y)) && nmsOk N sc fn xs es
  | _, _ => false
theorem nms_pg (g : GX m X k) : ∀ {l : List (Nat × Bool × IE)} {ts : List Expr}, nmsOk X.N X.env.scope X.fn l ts = true → PGs X ts (gNs l) ∧ (assignEach ts X.env).length = l.length ∧ (assignEach ts X.env).findIdx? (·.1) = none
  | [], [], _ => ⟨pgs_nil, rfl, rfl⟩
  | x :: xs, tg :: ts, h => by
    cases tg <;> first | (unfold nmsOk at h; cases h; done) | skip
    rename_i y p
    unfold nmsOk at h
    simp only [Bool.and_eq_true, Bool.or_eq_true, decide_eq_true_eq] at h
    obtain ⟨⟨h1, h2⟩, h3⟩ := h
    obtain ⟨a, b, c⟩ := nms_pg g h3
    have en : assignEach (.Name y p :: ts) X.env = (false, assign (.Name y p) X.env) :: assignEach ts X.env := rfl
    refine ⟨pgs_cons (pg_name g.nd h1 (h2.elim .inl fun z => .inr z.1) (h2.elim .inr fun z => .inl z.2)) a rfl, by rw [en]; simp [b], ?_⟩
    rw [en, List.findIdx?_cons, c]
    rfl
  | [], _ :: _, h => by unfold nmsOk at h; cases h
  | _ :: _, [], h => by unfold nmsOk at h; cases h
/-- a, b = x, y: by a tuple that is laid -/
theorem ds_parT {l : List (Nat × Bool × IE)} {ts : List Expr} {kt k2 : Nat} {pt p2 : Pos} (g : GX m X k) (nb : ∀ x ∈ l, isBor x.2.2 = false) (hl : l.length ≤ 1000) (hg : nmsOk X.N X.env.scope X.fn l ts = true) (ha : ALP m X t Ex l es) (hw : swappedStores [.Tuple ts kt pt] (.Tuple es k2 p2) X.env = pure none) :
    DS m X t Ex (.par l) (.Assign [.Tuple ts kt pt] (.Tuple es k2 p2) pos) := by
  obtain ⟨a, b, c⟩ := nms_pg g hg
  refine PS.weak (ps_asg (pe_tup ha.pa) (pg_tup (n := l.length) g.calm a b c) (by unfold swapsWithSole; rfl) hw rfl) fun E σ H ⟨env, K, r, w, kk⟩ => ?_
  refine par_read nb r kk w fun vs H1 hlen _ h2 => ⟨by rw [hlen, sizeLine_eq]; omega, fun p hp => ?_⟩
  exact ⟨p, vs, rfl, SqT.of upd_same, hlen, gNs_ok hlen (h2 p hp)⟩
theorem ds_par2 {x1 x2 : Nat × Bool × IE} {y1 y2 : Str} {q1 q2 : Pos} {a b : Expr} {kt k2 : Nat} {pt p2 : Pos} (g : GX m X k) (nb : ∀ x ∈ [x1, x2], isBor x.2.2 = false) (h1 : X.N[x1.1]? = some y1) (h2 : X.N[x2.1]? = some y2) (hij : x1.1 ≠ x2.1) (l1 : X.env.scope.names.lookup y1 = some .local) (l2 : X.env.scope.names.lookup y2 = some .local)
    (ha : ALP m X t Ex [x1, x2] [a, b]) (hw : swappedStores [.Tuple [.Name y1 q1, .Name y2 q2] kt pt] (.Tuple [a, b] k2 p2) X.env = pure (some [y1, y2])) : DS m X t Ex (.par [x1, x2]) (.Assign [.Tuple [.Name y1 q1, .Name y2 q2] kt pt] (.Tuple [a, b] k2 p2) pos) := by
  refine PS.weak (ps_par g.calm g.nd h1 h2 hij l1 l2 ha.pa hw (by unfold swapsWithSole; rfl)) fun E σ H ⟨env, K, r, w, kk⟩ => ?_
  refine par_read nb r kk w fun vs H1 hlen h1 _ => ?_
  match vs, hlen with
  | [u, v], _ => exact ⟨u, v, rfl, h1⟩
theorem ds_par3 {x1 x2 x3 : Nat × Bool × IE} {y1 y2 y3 : Str} {q1 q2 q3 : Pos} {a b c : Expr} {kt k2 : Nat} {pt p2 : Pos} (g : GX m X k) (nb : ∀ x ∈ [x1, x2, x3], isBor x.2.2 = false) (h1 : X.N[x1.1]? = some y1) (h2 : X.N[x2.1]? = some y2) (h3 : X.N[x3.1]? = some y3) (hij : x1.1 ≠ x2.1) (hil : x1.1 ≠ x3.1) (hjl : x2.1 ≠ x3.1)
    (l1 : X.env.scope.names.lookup y1 = some .local) (l2 : X.env.scope.names.lookup y2 = some .local) (l3 : X.env.scope.names.lookup y3 = some .local)
    (ha : ALP m X t Ex [x1, x2, x3] [a, b, c]) (hw : swappedStores [.Tuple [.Name y1 q1, .Name y2 q2, .Name y3 q3] kt pt] (.Tuple [a, b, c] k2 p2) X.env = pure (some [y1, y2, y3])) : DS m X t Ex (.par [x1, x2, x3]) (.Assign [.Tuple [.Name y1 q1, .Name y2 q2, .Name y3 q3] kt pt] (.Tuple [a, b, c] k2 p2) pos) := by
  refine PS.weak (ps_par3 g.calm g.nd h1 h2 h3 hij hil hjl l1 l2 l3 ha.pa hw (by unfold swapsWithSole; rfl)) fun E σ H ⟨env, K, r, w, kk⟩ => ?_
  refine par_read nb r kk w fun vs H1 hlen h1 _ => ?_
  match vs, hlen with
  | [u, v, w], _ => exact ⟨u, v, w, rfl, h1⟩
end
end SD

set_option Elab.async false
set_option linter.all false
set_option maxRecDepth 100000
set_option maxHeartbeats 4000000
namespace SD
open PySem PySem.Spec PyProof.Rows L2
def isStar : Expr → Bool
  | .Starred .. => true
  | _ => false
def swLine (ts : List Expr) : Nat := (ts.head?.map (·.pos.line)).getD 0
def swNm (sc : Scope) (line : Nat) (ts : List Expr) : List Str := ts.filterMap fun
    | .Name id pos => if sc.names.lookup id == some .local && pos.line == line then some id else none
    | _ => none
/-- which names are stored from the right; none: the model is silent -/
def swS (sc : Scope) (ts vs : List Expr) : Option (Option (List Str)) :=
  if (!(ts.length == 2 || ts.length == 3) || vs.length != ts.length) = true then some none
  else if vs.any isStar = true then some none
  else if ((swNm sc (swLine ts) ts).length != ts.length || (swNm sc (swLine ts) ts).eraseDups.length != (swNm sc (swLine ts) ts).length) = true then some none
  else if vs.all (foldedForSure 8) = true then some none
  else if vs.all (constantsAlone 8) = true then none
  else some (some (swNm sc (swLine ts) ts))
theorem sws_ok {en : PySem.Env} {ts vs : List Expr} {kt k2 : Nat} {pt p2 : Pos} {o : Option (List Str)} (h : en.scope.kind = .function) (hs : swS en.scope ts vs = some o) : swappedStores [.Tuple ts kt pt] (.Tuple vs k2 p2) en = pure o := by
  have hb := blk_fn h
  have hn : (ts.filterMap fun | .Name id pos => if en.kindOf id == some .local && pos.line == (ts.head?.map (·.pos.line)).getD 0 then some id else none | _ => none) = swNm en.scope (swLine ts) ts := rfl
  have hst : (vs.any fun | .Starred .. => true | _ => false) = vs.any isStar := rfl
  unfold swS at hs
  unfold swappedStores
  simp only [hb]
  by_cases c1 : (!(ts.length == 2 || ts.length == 3) || vs.length != ts.length) = true
  · rw [if_pos c1] at hs
    cases hs
    rw [if_pos (by rw [c1]; rfl)]
  · rw [if_neg c1] at hs
    rw [if_neg (by simp only [Bool.not_eq_true] at c1; rw [c1]; decide)]
    by_cases c2 : vs.any isStar = true
    · rw [if_pos c2] at hs
      cases hs
      exact if_pos c2
    · rw [if_neg c2] at hs
      refine (if_neg c2).trans ?_
      by_cases c3 : ((swNm en.scope (swLine ts) ts).length != ts.length || (swNm en.scope (swLine ts) ts).eraseDups.length != (swNm en.scope (swLine ts) ts).length) = true
      · rw [if_pos c3] at hs
        cases hs
        exact if_pos c3
      · rw [if_neg c3] at hs
        refine (if_neg c3).trans ?_
        by_cases c4 : vs.all (foldedForSure 8) = true
        · rw [if_pos c4] at hs
          cases hs
          exact if_pos c4
        · rw [if_neg c4] at hs
          refine (if_neg c4).trans ?_
          by_cases c5 : vs.all (constantsAlone 8) = true
          · rw [if_pos c5] at hs; cases hs
          · rw [if_neg c5] at hs
            cases hs
            exact if_neg c5
section
variable {m : Am} {X : Cx} {k : Nat} {t : Tb} {N : List Str} {Ex : ExV → DEnv → Prop}
def chkX (t : Tb) (N : List Str) (sc : Scope) (fn : Str → Bool) : List (Nat × Bool × IE) → List Expr → Bool
  | [], [] => true
  | (i, b, ir) :: xs, e :: es => notStar e && !isBor ir && (if b = true then chkN t N ir sc fn e else chkE t N ir sc fn e) && chkX t N sc fn xs es
  | _, _ => false
theorem RS.unpluss {σ : L2.St} {H : Hp} {env : DEnv} (hw : m.G.hw = true → m.So m.wa) : ∀ {Ds : List Addr}, RS (m.pluss Ds) σ H env → RS m σ H env
  | [], r => by rw [pluss_nil] at r; exact r
  | p :: Ds, r => by
    rw [← pluss_plus'] at r
    exact RS.unpluss hw (r.unplus (fun z => .inl (hw z)))
theorem chkX_ok (hw : m.G.hw = true → m.So m.wa) (hx : SX m X k t Ex) (hN : X.N = N) : ∀ {l : List (Nat × Bool × IE)} {es : List Expr}, chkX t N X.env.scope X.fn l es = true → ALP m X t Ex l es ∧ ∀ x ∈ l, isBor x.2.2 = false
  | [], [], _ => ⟨trivial, fun _ h => by cases h⟩
  | (i, b, ir) :: xs, e :: es, h => by
    unfold chkX at h
    simp only [Bool.and_eq_true, Bool.not_eq_true'] at h
    obtain ⟨⟨⟨h1, h2⟩, h3⟩, h4⟩ := h
    obtain ⟨a, c⟩ := chkX_ok hw hx hN h4
    refine ⟨⟨?_, h1, a⟩, fun x hx => ?_⟩
    · refine PE.any fun Ds => ?_
      have hx' : SX (m.pluss Ds) X k t Ex := ⟨⟨hx.g.hP, hx.g.hw, hx.g.hK, hx.g.hmg, hx.g.hb, hx.g.nd, hx.g.calm, hx.g.room⟩, ⟨by
          obtain ⟨W, tk, hW⟩ := hx.xh.ex
          refine ⟨W, tk, fun x env cls dx σ H r rx q => ?_⟩
          refine hW x env cls dx σ H (r.unpluss hw) ?_ q
          obtain ⟨r1, r2⟩ := rx
          refine ⟨r1, ?_⟩
          have sb : ∀ a, Sx m.So σ env a → Sx (m.pluss Ds).So σ env a := fun a z => z.elim (fun q => .inl (.inl q)) .inr
          rcases r2 with r2 | ⟨dd, xs, e1, e2, n, l, rd⟩
          · exact .inl r2
          · exact .inr ⟨dd, xs, e1, e2, fun z => n (sb dd z), l, rd.mono Kp.refl (Sb.sub sb)⟩⟩, fun z => hx.ch z, hx.hb, hx.gd, hx.gc, fun z => hx.oh z, hx.cn, hx.gp, hx.gl⟩
      cases b with
      | true => exact PE.weak (chkN_ok hx' hN h3) fun σ H Q z => z
      | false => exact PE.weak ((chk_ok ir hx' hN h3).de h2) fun σ H Q z => z
    · rcases List.mem_cons.mp hx with rfl | hx
      · exact h2
      · exact c x hx
  | [], _ :: _, h => by unfold chkX at h; cases h
  | _ :: _, [], h => by unfold chkX at h; cases h
/-- several stores at once -/
def chkP (t : Tb) (N : List Str) (l : List (Nat × Bool × IE)) (sc : Scope) (fn : Str → Bool) (s : Stmt) : Bool := match s with
  | .Assign [.Tuple ts _ _] (.Tuple es _ _) _ => decide (l.length ≤ 1000) && nmsOk N sc fn l ts && chkX t N sc fn l es && (match swS sc ts es with
    | some none => true
    | some (some nm) => (match l, ts, es with
      | [x1, x2], [.Name y1 _, .Name y2 _], [_, _] => decide (nm = [y1, y2]) && decide (x1.1 ≠ x2.1) && decide (sc.names.lookup y1 = some .local) && decide (sc.names.lookup y2 = some .local)
      | [x1, x2, x3], [.Name y1 _, .Name y2 _, .Name y3 _], [_, _, _] => decide (nm = [y1, y2, y3]) && decide (x1.1 ≠ x2.1) && decide (x1.1 ≠ x3.1) && decide (x2.1 ≠ x3.1) && decide (sc.names.lookup y1 = some .local) && decide (sc.names.lookup y2 = some .local) && decide (sc.names.lookup y3 = some .local)
      | _, _, _ => false)
    | none => false)
  | _ => false
theorem chkP_ok {l : List (Nat × Bool × IE)} {s : Stmt} (hx : SX m X k t Ex) (hN : X.N = N) (hk : X.env.scope.kind = .function) (h : chkP t N l X.env.scope X.fn s = true) : DS m X t Ex (.par l) s := by
  by_cases hw : m.G.hw = true → m.So m.wa
  · unfold chkP at h
    split at h
    · rename_i ts kt pt es k2 p2 q
      simp only [Bool.and_eq_true, decide_eq_true_eq] at h
      obtain ⟨⟨⟨h1, h2⟩, h3⟩, h4⟩ := h
      obtain ⟨al, nb⟩ := chkX_ok hw hx hN h3
      rw [← hN] at h2
      split at h4
      · rename_i hs
        exact ds_parT hx.g nb h1 h2 al (sws_ok hk hs)
      · rename_i nm hs
        split at h4
        · rename_i x1 x2 y1 q1 y2 q2 a b
          simp only [Bool.and_eq_true, decide_eq_true_eq] at h4
          obtain ⟨⟨⟨rfl, hij⟩, l1⟩, l2⟩ := h4
          simp only [nmsOk, Bool.and_eq_true, decide_eq_true_eq] at h2
          exact ds_par2 hx.g nb h2.1.1 h2.2.1.1 hij l1 l2 al (sws_ok hk hs)
        · rename_i x1 x2 x3 y1 q1 y2 q2 y3 q3 a b c
          simp only [Bool.and_eq_true, decide_eq_true_eq] at h4
          obtain ⟨⟨⟨⟨⟨⟨rfl, hij⟩, hil⟩, hjl⟩, l1⟩, l2⟩, l3⟩ := h4
          simp only [nmsOk, Bool.and_eq_true, decide_eq_true_eq] at h2
          exact ds_par3 hx.g nb h2.1.1 h2.2.1.1 h2.2.2.1.1 hij hil hjl l1 l2 l3 al (sws_ok hk hs)
        · cases h4
      · cases h4
    · cases h
  · exact PS.weak ps_never fun E σ H ⟨env, K, r, _⟩ => hw r.so.1
end
end SD

set_option Elab.async false
set_option linter.all false
set_option maxRecDepth 100000
set_option maxHeartbeats 4000000
namespace SD
open PySem PySem.Spec PyProof.Rows L2
section
variable {m : Am} {X : Cx} {k : Nat} {t : Tb} {N : List Str} {Ex : ExV → DEnv → Prop} {σ σ' : L2.St} {H H' : Hp} {S : Addr → Prop} {env env' : DEnv} {d : D} {v : V} {e : Expr} {ir kx : IE} {pos : Pos} {E : Ends} {p : Addr}
/-! ## d[k] = v, a slot's own d -/
theorem PSet.or {t t' : TSet} (h : PSet X t) (h' : PSet X t') : PSet X fun o i v H Q => t o i v H Q ∨ t' o i v H Q := fun pins s σ H o i v ov iv u Q I ro ri rv q => q.elim (h pins s σ H o i v ov iv u Q I ro ri rv) (h' pins s σ H o i v ov iv u Q I ro ri rv)
theorem RDs.setI {G : Wd} {wa : Addr} {ds : List D} {vs : List V} (r : RD G wa H S d v) (rs : RDs G wa H S ds vs) (i : Nat) : RDs G wa H S (ds.set i d) (vs.set i v) := RDs.set r i rs
section
variable {κ : Type} [DecidableEq κ] (f : κ → D) (hf : ∀ a b, deq (f a) (f b) = decide (a = b))
def putVG (ks : List κ) (xs : List V) (k : κ) (z : V) : List V := (ks.zip xs).map fun p => if p.1 = k then z else p.2
def putDG (ks : List κ) (ds : List D) (k : κ) (y : D) : List D := (ks.zip ds).map fun p => if p.1 = k then y else p.2
theorem any_kG (k : κ) : ∀ (ks : List κ) (xs : List V), ks.length = xs.length → ((ks.zip xs).any fun kv => decide (kv.1 = k)) = ks.any fun x => decide (x = k)
  | [], _, _ => rfl
  | _ :: _, [], h => by simp at h
  | k0 :: ks, x :: xs, h => by simp only [List.zip_cons_cons, List.any_cons]; rw [any_kG k ks xs (by simpa using h)]
include hf in
theorem any_dG (k : κ) : ∀ (ks : List κ) (ds : List D), ks.length = ds.length → (((ks.map f).zip ds).any fun p => deq p.1 (f k)) = ks.any fun x => decide (x = k)
  | [], _, _ => rfl
  | _ :: _, [], h => by simp at h
  | k0 :: ks, x :: xs, h => by simp only [List.map_cons, List.zip_cons_cons, List.any_cons]; rw [any_dG k ks xs (by simpa using h), hf]
theorem map_kG (k : κ) (z : V) : ∀ (ks : List κ) (xs : List V), ks.length = xs.length → (ks.zip xs).map (fun kv => if kv.1 = k then (kv.1, z) else kv) = ks.zip (putVG ks xs k z) ∧ ks.length = (putVG ks xs k z).length
  | [], _, _ => ⟨rfl, rfl⟩
  | _ :: _, [], h => by simp at h
  | k0 :: ks, x :: xs, h => by
    obtain ⟨a, b⟩ := map_kG k z ks xs (by simpa using h)
    refine ⟨?_, by simp only [putVG, List.zip_cons_cons, List.map_cons, List.length_cons] at b ⊢; omega⟩
    simp only [putVG, List.zip_cons_cons, List.map_cons] at a ⊢
    rw [a]
    by_cases q : k0 = k
    · rw [if_pos q, if_pos q]
    · rw [if_neg q, if_neg q]
include hf in
theorem map_dG (k : κ) (y : D) : ∀ (ks : List κ) (ds : List D), ks.length = ds.length → ((ks.map f).zip ds).map (fun p => if deq p.1 (f k) = true then (p.1, y) else p) = (ks.map f).zip (putDG ks ds k y)
  | [], _, _ => rfl
  | _ :: _, [], h => by simp at h
  | k0 :: ks, x :: xs, h => by
    have a := map_dG k y ks xs (by simpa using h)
    simp only [putDG, List.zip_cons_cons, List.map_cons] at a ⊢
    rw [a, hf]
    by_cases q : k0 = k
    · rw [if_pos q, if_pos (decide_eq_true q)]
    · rw [if_neg q, if_neg (by simpa using q)]
theorem put_rdG (k : κ) (y : D) (z : V) (rz : RD m.G m.wa H S y z) : ∀ (ks : List κ) (xs : List V) (ds : List D), RDs m.G m.wa H S ds xs → RDs m.G m.wa H S (putDG ks ds k y) (putVG ks xs k z)
  | [], _, _, _ => .nil
  | _ :: _, _, _, .nil => .nil
  | k0 :: ks, x :: xs, _, .cons r t => by
    have ih := put_rdG k y z rz ks xs _ t
    simp only [putDG, putVG, List.zip_cons_cons, List.map_cons] at ih ⊢
    by_cases q : k0 = k
    · rw [if_pos q, if_pos q]; exact .cons rz ih
    · rw [if_neg q, if_neg q]; exact .cons r ih
include hf in
theorem put_okG (k : κ) (y : D) (z : V) (rz : RD m.G m.wa H S y z) (ks : List κ) (xs : List V) (ds : List D) (hl : ks.length = xs.length) (r : RDs m.G m.wa H S ds xs) :
    ∃ ks' xs' ds', putK (ks.zip xs) k z = List.zip ks' xs' ∧ dPut ((ks.map f).zip ds) (f k) y = (List.map f ks').zip ds' ∧ ks'.length = xs'.length ∧ RDs m.G m.wa H S ds' xs' ∧ ∀ q ∈ ks', q ∈ ks ∨ q = k := by
  have hd : ks.length = ds.length := by rw [hl, r.length]
  unfold putK dPut
  rw [any_kG k ks xs hl, any_dG f hf k ks ds hd]
  by_cases q : (ks.any fun x => decide (x = k)) = true
  · rw [if_pos q, if_pos q]
    obtain ⟨a, b⟩ := map_kG k z ks xs hl
    exact ⟨ks, _, _, a, map_dG f hf k y ks ds hd, b, put_rdG k y z rz ks xs ds r, fun q hq => .inl hq⟩
  · rw [if_neg q, if_neg q]
    refine ⟨ks ++ [k], xs ++ [z], ds ++ [y], ?_, ?_, by simp [hl], r.append (RDs.one rz), fun q hq => by simpa using hq⟩
    · rw [List.zip_append hl]; rfl
    · rw [List.map_append, List.zip_append (by rw [List.length_map]; exact hd)]; rfl
end
theorem put_ok2 {od kd d : D} {v kv : V} {a : Addr} {Qd : D → Prop} {Q : Hp → Prop} (sa : S a) (x : RX m.G m.wa H S od a) (rk : RA m H S kd kv) (rv : RD m.G m.wa H S d v) (w : putW od kd d Qd)
    (kq : ∀ od' u, NoTbl u → RX m.G m.wa (upd H a u) S od' a → Qd od' → Q (upd H a u)) : rSetL (.ref a) kv v H Q ∨ rSetD (.ref a) kv v H Q := by
  cases x with
  | @lst _ xs l e rs =>
    cases kd with
    | int i =>
      obtain ⟨n, h1, h2⟩ := w
      cases rk.noclo rfl
      exact .inl ⟨a, xs, i, n, rfl, rfl, e, by rw [← rs.length]; exact h1, kq _ _ noTbl_lst (.lst upd_same ((RDs.set rv n rs).mono (kp_own sa) Sb.refl)) h2⟩
    | _ => exact w.elim
  | @dK _ ks xs l e hl rs =>
    obtain ⟨h1, h2, h3⟩ := w
    have h1' : (toK kd).isSome = true := h1
    obtain ⟨key, hkey⟩ := Option.isSome_iff_exists.mp h1'
    have ekd := toK_kD hkey
    subst ekd
    have ekv : kv = kV key := RO.key (m := m) (.inl rk)
    subst ekv
    obtain ⟨ks', xs', ds', p1, p2, p3, p4⟩ := put_ok key d v rv ks xs l hl rs
    rw [p2] at h3
    refine .inr ⟨a, _, rfl, .inl ⟨_, key, e, rfl, ?_, rfl⟩, ?_⟩
    · rw [sizeLine_eq]
      have z := rs.length
      simp only [List.length_zip, List.length_map] at h2 ⊢
      omega
    · rw [p1]
      exact kq _ _ noTbl_dK (.dK upd_same p3 (p4.mono (kp_own sa) Sb.refl)) h3
  | @dT _ ks xs l e hl rs =>
    obtain ⟨h1, h2, h3⟩ := w
    have h1' : (toKs kd).isSome = true := h1
    obtain ⟨key, hkey⟩ := Option.isSome_iff_exists.mp h1'
    have ekd := toKs_kD hkey
    subst ekd
    obtain ⟨b, ys, rfl, eb, rb⟩ := RO.tup (m := m) (.inl rk)
    have e3 := rb.keys
    subst e3
    obtain ⟨ks', xs', ds', p1, p2, p3, p4, p5⟩ := put_okG kDs (fun a b => deq_kDs a b) key d v rv ks xs l hl.1 rs
    rw [soft_keys (toKs_ne hkey)] at eb
    have ne : NE ks' := fun q hq => (p5 q hq).elim (hl.2 q) fun z => by rw [z]; exact toKs_ne hkey
    rw [p2] at h3
    refine .inr ⟨a, _, rfl, .inr ⟨_, key, b, e, rfl, eb, ?_, rfl⟩, ?_⟩
    · rw [sizeLine_eq]
      have z := rs.length
      simp only [List.length_zip, List.length_map] at h2 ⊢
      omega
    · rw [p1]
      exact kq _ _ noTbl_dT (.dT upd_same ⟨p3, ne⟩ (p4.mono (kp_own sa) Sb.refl)) h3
theorem ds_put {i : Nat} {o kel : Expr} {q : Pos} (g : GX m X k) (ho : PE X o (tVar i)) (hk : DE m X t Ex kx kel) (he : DE m X t Ex ir e) (hn : notComp e = true) (ha : ∀ v, assign (.Subscript o kel q) X.env v = (do
      let ov ← holding [v] (eval o X.env)
      let iv ← holding [v, ov] (eval kel X.env)
      standAt q
      holding [v, ov, iv] (setItem ov iv v)
      release [v, ov, iv] [])) : DS m X t Ex (.put i kx ir) (.Assign [.Subscript o kel q] e pos) := by
  have hs : PSet X fun o i v H Q => rSetL o i v H Q ∨ rSetD o i v H Q := PSet.or set_list (set_dict (by have := unit64 g; omega))
  refine PS.weak (ps_asg he (pg_sub ho hk hs ha) (by unfold swapsWithSole; exact sw_noB hn) (by cases e <;> rfl) rfl) fun E σ H ⟨env, K, r, w, kk⟩ => ?_
  refine ⟨env, _, r, w, fun d v env1 H1 s1 ra ⟨hc, ⟨d0, h0⟩, w1⟩ => ?_⟩
  obtain ⟨a, hav, x0, n1, n2⟩ := s1.rs.ow i d0 h0
  refine ⟨.ref a, hav, env1, _, s1.rs, w1, fun kd kv env2 H2 s2 rk ⟨od, ho2, w2⟩ => ?_⟩
  obtain ⟨b, hb, x, _⟩ := s2.rs.ow i od ho2
  rw [hav] at hb
  cases hb
  refine put_ok2 (S := Sx m.So σ env2) (m := m) (.inr ⟨i, od, ho2, hav⟩) x rk ((ra.step s2).noclo hc) w2 fun od' u nt x' q => ?_
  have s3 := s2.rs.mut ho2 hav nt x'
  exact kk.nx σ _ _ ((s1.trans s2).trans s3).sts q
end
end SD

set_option Elab.async false
set_option linter.all false
set_option maxRecDepth 100000
set_option maxHeartbeats 4000000
namespace SD
open PySem PySem.Spec PyProof.Rows L2
/-! ## several targets, items of own objects among them -/
def storeB (N : List Str) (sc : Scope) (fn : Str → Bool) (i : Nat) (x : Str) : Bool := decide (N[i]? = some x) && (decide (sc.names.lookup x = some .local) || (decide (sc.names.lookup x = some .cell) && fn x))
theorem store_at {N : List Str} {X : Cx} {i : Nat} {x : Str} (hN : X.N = N) (h : storeB N X.env.scope X.fn i x = true) : X.N[i]? = some x ∧ Loc X.env.scope x ∧ (X.fn x = true ∨ X.env.scope.names.lookup x = some .local) := by
  simp only [storeB, Bool.and_eq_true, Bool.or_eq_true, decide_eq_true_eq] at h
  obtain ⟨h1, h2⟩ := h
  exact ⟨by rw [hN]; exact h1, h2.elim .inl fun z => .inr z.1, h2.elim .inr fun z => .inl z.2⟩
/-- the stores' reading -/
def gStores (m : Am) (t : Tb) (Ex : ExV → DEnv → Prop) (ts : List (Nat × Option IE)) : TGs := fun vs σ H Q => ∃ env ds Qd, RS m σ H env ∧ RDs m.G m.wa H (Sx m.So σ env) ds vs ∧ storesW t Ex ts ds env Qd ∧ ∀ σ' H' env', StS m σ H env σ' H' env' → Qd env' → Q σ' H'
def tgsB (t : Tb) (N : List Str) (sc : Scope) (fn : Str → Bool) : List (Nat × Option IE) → List Expr → Bool
  | [], [] => true
  | (i, none) :: ts, .Name x _ :: es => storeB N sc fn i x && tgsB t N sc fn ts es
  | (i, some kx) :: ts, .Subscript o kel _ :: es => varB N sc i o && !isBor kx && notSlice kel && chkE t N kx sc fn kel && tgsB t N sc fn ts es
  | _, _ => false
section
variable {m : Am} {X : Cx} {k : Nat} {t : Tb} {N : List Str} {Ex : ExV → DEnv → Prop} {e : Expr} {ir : IE} {pos : Pos}
theorem pgs_S (hx : SX m X k t Ex) (hN : X.N = N) : ∀ {ts : List (Nat × Option IE)} {es : List Expr}, tgsB t N X.env.scope X.fn ts es = true → PGs X es (gStores m t Ex ts) ∧ (assignEach es X.env).length = ts.length ∧ (assignEach es X.env).findIdx? (·.1) = none
  | [], [], _ => ⟨PGs.weak pgs_nil fun vs σ H Q ⟨env, ds, Qd, r, rd, w, kq⟩ => by
      cases rd with
      | nil => exact ⟨rfl, kq σ H env (StS.refl r) w⟩
      | cons _ _ => exact w.elim, rfl, rfl⟩
  | (i, none) :: ts, tg :: es, h => by
    cases tg <;> first | (unfold tgsB at h; cases h; done) | skip
    rename_i x p
    unfold tgsB at h
    simp only [Bool.and_eq_true] at h
    obtain ⟨a, b, c⟩ := store_at hN h.1
    obtain ⟨pg, l1, l2⟩ := pgs_S hx hN h.2
    have en : assignEach (.Name x p :: es) X.env = (false, assign (.Name x p) X.env) :: assignEach es X.env := rfl
    refine ⟨PGs.weak (pgs_cons (pg_name hx.g.nd a b c) pg rfl) fun vs σ H Q ⟨env, ds, Qd, r, rd, w, kq⟩ => ?_, by rw [en]; simp [l1], by rw [en, List.findIdx?_cons, l2]; rfl⟩
    cases rd with
    | nil => exact w.elim
    | @cons d v ds vs r0 t0 =>
      have r2 := r.setSlot (i := i) (x := some (false, d)) (y := some v) rfl fun d' z => by cases z; exact ⟨v, rfl, .inl r0⟩
      have sub := Sx.set (m := m) (i := i) (x := some (false, d)) (y := some v) r.len rfl
      refine ⟨v, vs, rfl, env.set i (some (false, d)), ds, Qd, r2, t0.mono Kp.refl (Sb.sub sub), w, fun σ' H' env' s q => kq σ' H' env' ((StS.trans ⟨r2, Kp.refl, Sb.sub sub, fun _ h => h⟩ s)) q⟩
  | (i, some kx) :: ts, tg :: es, h => by
    cases tg <;> first | (unfold tgsB at h; cases h; done) | skip
    rename_i o kel q
    unfold tgsB at h
    simp only [Bool.and_eq_true, Bool.not_eq_true'] at h
    obtain ⟨⟨⟨⟨h1, h2⟩, h3⟩, h4⟩, h5⟩ := h
    obtain ⟨pg, l1, l2⟩ := pgs_S hx hN h5
    have hs : PSet X fun o i v H Q => rSetL o i v H Q ∨ rSetD o i v H Q := PSet.or set_list (set_dict (by have := unit64 hx.g; omega))
    have ha : ∀ v, assign (.Subscript o kel q) X.env v = (do
      let ov ← holding [v] (eval o X.env)
      let iv ← holding [v, ov] (eval kel X.env)
      standAt q
      holding [v, ov, iv] (setItem ov iv v)
      release [v, ov, iv] []) := sub_asg h3
    have en : assignEach (.Subscript o kel q :: es) X.env = (false, assign (.Subscript o kel q) X.env) :: assignEach es X.env := rfl
    refine ⟨PGs.weak (pgs_cons (pg_sub (var_ok hN h1) ((chk_ok kx hx hN h4).de h2) hs ha) pg rfl) fun vs σ H Q ⟨env, ds, Qd, r, rd, w, kq⟩ => ?_, by rw [en]; simp [l1], by rw [en, List.findIdx?_cons, l2]; rfl⟩
    cases rd with
    | nil => exact w.elim
    | @cons d v ds vs r0 t0 =>
      obtain ⟨⟨d0, h0⟩, w1⟩ := w
      obtain ⟨a, hav, x0, n1, n2⟩ := r.ow i d0 h0
      refine ⟨v, vs, rfl, .ref a, hav, env, _, r, w1, fun kd kv env2 H2 s2 rk ⟨od, ho2, w2⟩ => ?_⟩
      obtain ⟨b, hb, x, _⟩ := s2.rs.ow i od ho2
      rw [hav] at hb
      cases hb
      refine put_ok2 (S := Sx m.So σ env2) (m := m) (.inr ⟨i, od, ho2, hav⟩) x rk (r0.mono s2.kp (Sb.sub s2.sb)) w2 fun od' u nt x' q => ?_
      have s3 := s2.rs.mut ho2 hav nt x'
      exact ⟨_, ds, Qd, s3.rs, (t0.mono s2.kp (Sb.sub s2.sb)).mono s3.kp (Sb.sub s3.sb), q, fun σ' H' env' s q2 => kq σ' H' env' (((s2.trans s3).sts).trans s) q2⟩
  | [], _ :: _, h => by unfold tgsB at h; cases h
  | (_, none) :: _, [], h => by unfold tgsB at h; cases h
  | (_, some _) :: _, [], h => by unfold tgsB at h; cases h
theorem ds_asgS {ts : List (Nat × Option IE)} {es : List Expr} {kt : Nat} {pt : Pos} (hx : SX m X k t Ex) (hN : X.N = N) (hk : X.env.scope.kind = .function) (hg : tgsB t N X.env.scope X.fn ts es = true) (he : DE m X t Ex ir e) (hn : notComp e = true) (hw : swappedStores [.Tuple es kt pt] e X.env = pure none) :
    DS m X t Ex (.asgS ts ir) (.Assign [.Tuple es kt pt] e pos) := by
  obtain ⟨pg, l1, l2⟩ := pgs_S hx hN hg
  refine PS.weak (ps_asg he (PG.or (pg_tup (n := ts.length) hx.g.calm pg l1 l2) (pg_lst (n := ts.length) hx.g.calm pg l1 l2)) (by unfold swapsWithSole; exact sw_noB hn) hw rfl) fun E σ H ⟨env, K, r, w, kk⟩ => ?_
  refine ⟨env, _, r, w, fun d v env1 H1 s1 ra ⟨hc, ds, hd, hl, w1⟩ => ?_⟩
  have fin : ∀ vs, RDs m.G m.wa H1 (Sx m.So σ env1) ds vs → gStores m t Ex ts vs σ H1 E.nx := fun vs rd => ⟨env1, ds, K.nx, s1.rs, rd, w1, fun σ' H' env' s q => kk.nx σ' H' env' (s1.sts.trans s) q⟩
  have ra' := ra.noclo hc
  cases ra' with
  | tup e n rs => cases hd; exact .inl ⟨_, _, rfl, e.sq, by rw [← rs.length]; exact hl, fin _ rs⟩
  | ktup e rs => cases hd; exact .inl ⟨_, _, rfl, by rw [hx.g.hK]; exact e.sq, by rw [← rs.length]; exact hl, fin _ rs⟩
  | stup e n rs => cases hd; exact .inl ⟨_, _, rfl, SqT.of e, by rw [← rs.length]; exact hl, fin _ rs⟩
  | lst e n rs => cases hd; exact .inr ⟨_, _, rfl, SqL.of e, by rw [← rs.length]; exact hl, fin _ rs⟩
  | _ => cases hd
end
end SD

set_option Elab.async false
set_option linter.all false
set_option maxRecDepth 100000
set_option maxHeartbeats 4000000
namespace SD
open PySem PySem.Spec PyProof.Rows L2
/-! ## statements against the text -/
def isDoc : Expr → Bool
  | .Constant (.str _) _ _ => true
  | _ => false
/-- no names are stored from the right -/
def asgSw (sc : Scope) (ts : List Expr) : Expr → Bool
  | .Tuple es _ _ => decide (swS sc ts es = some none)
  | _ => true
theorem asgSw_ok {en : PySem.Env} {ts : List Expr} {e : Expr} {kt : Nat} {pt : Pos} (hk : en.scope.kind = .function) (h : asgSw en.scope ts e = true) : swappedStores [.Tuple ts kt pt] e en = pure none := by
  cases e <;> first | rfl | skip
  rename_i es k2 p2
  unfold asgSw at h
  exact sws_ok hk (of_decide_eq_true h)
mutual
/-- no def in a def -/
def noNd : IS → Bool
  | .ndef _ _ => false
  | .forl _ _ _ _ _ => false
  | .ite _ a b => noNds a && noNds b
  | .for_ _ _ _ a => noNds a
  | .while_ _ a => noNds a
  | _ => true
def noNds : List IS → Bool
  | [] => true
  | i :: is => noNd i && noNds is
end
section
variable (t : Tb) (N : List Str)
mutual
def chkS : IS → Scope → (Str → Bool) → Stmt → Bool
  | .set i ir, sc, fn, s => match s with
    | .Assign [.Name x p] e _ => storeB N sc fn i x && !isBor ir && chkE t N ir sc fn e && (!swB sc e x p || (match ir, e with | .comp _ _ _ _ _ _, .ListComp _ [⟨_, _, _, 0⟩] _ _ => true | _, _ => false))
    | _ => false
  | .snap i ir, sc, fn, s => match s with
    | .Assign [.Name x p] e _ => storeB N sc fn i x && chkE t N ir sc fn e && (match ir, e with | .comp _ _ _ _ _ _, .ListComp _ [⟨_, _, _, 0⟩] _ _ => true | _, _ => false)
    | _ => false
  | .own i ir, sc, fn, s => match s with
    | .Assign [.Name x p] e _ => storeB N sc fn i x && chkN t N ir sc fn e && (!swB sc e x p || (match ir, e with | .comp _ _ _ _ _ _, .ListComp _ [⟨_, _, _, 0⟩] _ _ => true | .dcomp _ _ _ _ _ _ _ _, .DictComp _ _ [⟨_, _, _, 0⟩] _ _ => true | _, _ => false))
    | _ => false
  | .asg T ir, sc, fn, s => match s with
    | .Assign [.Tuple es kk p] e _ => !isBor ir && tgOk N sc fn T (.Tuple es kk p) && chkE t N ir sc fn e && notComp e && (match e with | .Tuple _ _ _ => false | _ => true)
    | _ => false
  | .asgS ts ir, sc, fn, s => match s with
    | .Assign [.Tuple es _ _] e _ => !isBor ir && tgsB t N sc fn ts es && chkE t N ir sc fn e && notComp e && asgSw sc es e
    | _ => false
  | .par l, sc, fn, s => chkP t N l sc fn s
  | .put i kx ir, sc, fn, s => match s with
    | .Assign [.Subscript o kel _] e _ => varB N sc i o && !isBor kx && !isBor ir && notSlice kel && notComp e && chkE t N kx sc fn kel && chkE t N ir sc fn e
    | _ => false
  | .expr ir, sc, fn, s => match s with
    | .Expr e _ => !isBor ir && chkE t N ir sc fn e && notComp e
    | _ => false
  | .ite c a b, sc, fn, s => match s with
    | .If ec ea eb _ => !isBor c && tstB c && chkE t N c sc fn ec && chkSs a sc fn ea && chkSs b sc fn eb
    | _ => false
  | .for_ T ik src body, sc, fn, s => match s with
    | .For tg iter b [] _ => (match itArgs sc ik tg iter with
      | some es => src.all (fun i => !isBor i) && foldB iter && tgOk N sc fn T tg && chkL t N src sc fn es && chkSs body sc fn b
      | none => false)
    | _ => false
  | .while_ c body, sc, fn, s => match s with
    | .While ec b [] _ => !isBor c && tstB c && chkE t N c sc fn ec && chkSs body sc fn b
    | _ => false
  | .ret ir, sc, fn, s => match s with
    | .Return (some e) _ => !isBor ir && chkE t N ir sc fn e
    | _ => false
  | .wset i c ir, sc, fn, s => match s with
    | .Assign [.Subscript o (.Constant (.int n) _ _) _] e _ => varB N sc i o && decide (n = (c : Int)) && !isBor ir && notComp e && chkE t N ir sc fn e
    | _ => false
  | .wdm i c l ir, sc, fn, s => match s with
    | .Assign [.Tuple [.Subscript o (.Constant (.int n) _ _) _, .Name y _] _ _] e _ => varB N sc i o && decide (n = (c : Int)) && !isBor ir && notComp e && !isTup e && storeB N sc fn l y && chkE t N ir sc fn e
    | _ => false
  | .retN, _, _, s => match s with
    | .Return none _ => true
    | _ => false
  | .pass, _, _, s => match s with
    | .Pass _ => true
    | _ => false
  | .doc, _, _, s => match s with
    | .Expr e _ => isDoc e
    | _ => false
  | .brk, _, _, s => match s with
    | .Break _ => true
    | _ => false
  | .cont, _, _, s => match s with
    | .Continue _ => true
    | _ => false
  | .never, _, _, _ => true
  | .ndef i c, sc, fn, s => match s with
    | .FunctionDef name params _ [] none [] _ none name2 pos => fn "" && t.own c && decide (name = name2) && params.defaults.isEmpty && params.kw_defaults.isEmpty && storeB N sc fn i name && decide ((t.cc c).pos = (pos.line, pos.col))
    | _ => false
  | .forl T kk args c body, sc, fn, s => match s with
    | .For tg (.Call (.Name x _) es [] _) b [] _ => (match es.getLast? with
      | some (.Lambda params _ _ lpos) => fn "" && t.own c && t.hs kk && decide ((t.gd kk).name = x) && glB sc x && !(x == ("__debug__" : Str)) && decide ((t.cc c).pos = (lpos.line, lpos.col)) && params.defaults.isEmpty && params.kw_defaults.isEmpty && chkL t N args sc fn es.dropLast && tgOk N sc fn T tg && noNds body && chkSs body sc fn b
      | _ => false)
    | _ => false
def chkSs : List IS → Scope → (Str → Bool) → List Stmt → Bool
  | [], _, _, [] => true
  | i :: is, sc, fn, s :: ss => chkS i sc fn s && chkSs is sc fn ss
  | _, _, _, _ => false
end
end
/-! the texts of defs in defs -/
mutual
def txS (ct : Nat → CT) (q : Str) : IS → Stmt → Prop
  | .ndef _ c, s => (∃ name params body scope n2 pos, s = .FunctionDef name params body [] none [] scope none n2 pos ∧ ct c = ⟨name, q ++ name, params, .stmts body, scope⟩ ∧ ∀ en, annTrees params none en = [])
  | .forl _ _ _ c _, s => (∃ tg x px es cp b p params bd scope lp, s = .For tg (.Call (.Name x px) es [] cp) b [] p ∧ es.getLast? = some (.Lambda params bd scope lp) ∧ ct c = ⟨"<lambda>", q ++ "<lambda>", params, .expr bd, scope⟩ ∧ ∀ en, defaultsOf params en = ([], []))
  | .ite _ a b, .If _ ea eb _ => txSs ct q a ea ∧ txSs ct q b eb
  | .for_ _ _ _ a, .For _ _ ea _ _ => txSs ct q a ea
  | .while_ _ a, .While _ ea _ _ => txSs ct q a ea
  | _, _ => True
def txSs (ct : Nat → CT) (q : Str) : List IS → List Stmt → Prop
  | i :: is, s :: ss => txS ct q i s ∧ txSs ct q is ss
  | _, _ => True
end
mutual
theorem txS_no {ct : Nat → CT} {q : Str} : ∀ (i : IS) (s : Stmt), noNd i = true → txS ct q i s
  | .ndef _ _, s, h => by cases h
  | .forl _ _ _ _ _, s, h => by cases h
  | .ite _ a b, s, h => by
    have h' : (noNds a && noNds b) = true := h
    rw [Bool.and_eq_true] at h'
    cases s <;> first | trivial | exact ⟨txSs_no a _ h'.1, txSs_no b _ h'.2⟩
  | .for_ _ _ _ a, s, h => by cases s <;> first | trivial | exact txSs_no a _ h
  | .while_ _ a, s, h => by cases s <;> first | trivial | exact txSs_no a _ h
  | .set _ _, s, h => by cases s <;> trivial
  | .own _ _, s, h => by cases s <;> trivial
  | .snap _ _, s, h => by cases s <;> trivial
  | .asg _ _, s, h => by cases s <;> trivial
  | .asgS _ _, s, h => by cases s <;> trivial
  | .par _, s, h => by cases s <;> trivial
  | .put _ _ _, s, h => by cases s <;> trivial
  | .expr _, s, h => by cases s <;> trivial
  | .wset _ _ _, s, h => by cases s <;> trivial
  | .wdm _ _ _ _, s, h => by cases s <;> trivial
  | .ret _, s, h => by cases s <;> trivial
  | .retN, s, h => by cases s <;> trivial
  | .pass, s, h => by cases s <;> trivial
  | .brk, s, h => by cases s <;> trivial
  | .cont, s, h => by cases s <;> trivial
  | .never, s, h => by cases s <;> trivial
  | .doc, s, h => by cases s <;> trivial
theorem txSs_no {ct : Nat → CT} {q : Str} : ∀ (is : List IS) (ss : List Stmt), noNds is = true → txSs ct q is ss
  | [], ss, _ => by cases ss <;> trivial
  | i :: is, [], _ => trivial
  | i :: is, s :: ss, h => by
    have h' : (noNd i && noNds is) = true := h
    rw [Bool.and_eq_true] at h'
    exact ⟨txS_no i s h'.1, txSs_no is ss h'.2⟩
end
section
variable {t : Tb} {N : List Str}
theorem al_snoc {m : Am} {X : Cx} {Ex : ExV → DEnv → Prop} {i : IE} {e : Expr} : ∀ {is : List IE} {es : List Expr}, AL m X t Ex is es → PE X e (tO m t Ex i) → notStar e = true → AL m X t Ex (is ++ [i]) (es ++ [e])
  | [], [], _, h, n => ⟨h, n, trivial⟩
  | _ :: _, _ :: _, a, h, n => ⟨a.1, a.2.1, al_snoc a.2.2 h n⟩
  | [], _ :: _, a, _, _ => a.elim
  | _ :: _, [], a, _, _ => a.elim
theorem swB_local {sc : Scope} {e : Expr} {x : Str} {q : Pos} (h : swB sc e x q = true) : sc.names.lookup x = some .local := by
  cases e <;> first | (cases h; done) | skip
  all_goals
    simp only [swB, Bool.and_eq_true, decide_eq_true_eq] at h
    exact h.1.1
theorem set_comp {m : Am} {X : Cx} {k : Nat} {Ex : ExV → DEnv → Prop} {i : Nat} {x : Str} {q pos spos : Pos} {vs : List Nat} {T : IT} {ik : IK} {src cs : List IE} {ex : IE} {elt tg iter : Expr} {ifs : List Expr} {scope : Scope} (hx : SX m X k t Ex) (hN : X.N = N) (hk : X.env.scope.kind = .function)
    (hi : X.N[i]? = some x) (h : chkE t N (.comp vs T ik src cs ex) X.env.scope X.fn (.ListComp elt [⟨tg, iter, ifs, 0⟩] scope pos) = true) (hs : swB X.env.scope (.ListComp elt [⟨tg, iter, ifs, 0⟩] scope pos) x q = true) :
    PS X (.Assign [.Name x q] (.ListComp elt [⟨tg, iter, ifs, 0⟩] scope pos) spos) (tAsg (RdNL m (wpE t Ex (.comp vs T ik src cs ex))) (gName i)) := by
  have c := comp_parts hx hN h
  have z := ds_comp (py := q) (spos := spos) (pos := pos) hx.g hi (swB_local hs) (by rw [sw_ok hk, hs]) c.pi c.ok c.ns c.hg c.ht c.he c.hs
  rw [ownV_snd] at z
  exact z
theorem frzE_get {env : DEnv} {i : Nat} {b : Bool} {d : D} (h : (frzE env)[i]? = some (some (b, d))) : b = false ∧ (env[i]? = some (some (false, d)) ∨ ∃ l, d = .lst l ∧ env[i]? = some (some (true, .lst l))) := by
  unfold frzE at h
  rw [List.getElem?_map] at h
  obtain ⟨s, h1, h2⟩ := Option.map_eq_some_iff.mp h
  rw [h1]
  unfold frzS at h2
  split at h2
  · cases h2; exact ⟨rfl, .inr ⟨_, rfl, rfl⟩⟩
  · cases h2
  · rename_i n1 n2
    subst h2
    cases b with
    | false => exact ⟨rfl, .inl rfl⟩
    | true => exact absurd rfl (n2 d)
theorem frzE_so {So : Addr → Prop} {σ : L2.St} {env : DEnv} {a : Addr} (h : Sx So σ (frzE env) a) : So a := by
  rcases h with h | ⟨i, d, h, _⟩
  · exact h
  · cases (frzE_get h).1
theorem RS.frz {m : Am} {σ : L2.St} {H : Hp} {env : DEnv} (r : RS m σ H env) : RS m σ H (frzE env) where
  len := by rw [← r.len]; unfold frzE; rw [List.length_map]
  pl := fun i d h => by
    obtain ⟨_, h' | ⟨l, e, h'⟩⟩ := frzE_get h
    · obtain ⟨v, h1, h2⟩ := r.pl i d h'
      exact ⟨v, h1, h2.mono Kp.refl (Sb.sub fun a z => .inl (frzE_so z))⟩
    · subst e
      obtain ⟨a, h1, h2, h3, _⟩ := r.ow i _ h'
      cases h2 with
      | lst e rs => exact ⟨_, h1, .inl (.lst e (fun z => h3 (frzE_so z)) (rs.mono Kp.refl (Sb.sub fun a z => .inl (frzE_so z))))⟩
  ow := fun i d h => by cases (frzE_get h).1
  ap := fun i j d e a h => by cases (frzE_get h).1
  so := r.so
  we := r.we
  ta := r.ta
  fr := r.fr
  nn := r.nn
/-- what was read only is own again -/
theorem RS.thaw {m : Am} {σ : L2.St} {H H' : Hp} {env : DEnv} (r : RS m σ H env) (s : St1 m σ H (frzE env) H' (frzE env)) : St1 m σ H env H' env := by
  have kp : Kp (Sx m.So σ env) H H' := s.kp.mono fun a z => .inl (frzE_so z)
  refine ⟨⟨r.len, fun i d h => ?_, fun i d h => ?_, r.ap, s.rs.so, s.rs.we, s.rs.ta, s.rs.fr, s.rs.nn⟩, kp, fun _ z => z, s.nn, s.ks⟩
  · obtain ⟨v, h1, h2⟩ := r.pl i d h
    exact ⟨v, h1, h2.mono kp Sb.refl⟩
  · obtain ⟨a, h1, h2, h3, h4⟩ := r.ow i d h
    refine ⟨a, h1, ?_, h3, h4⟩
    obtain ⟨o, e, nt⟩ := h2.there
    exact h2.move (by rw [e, s.kp a o e (fun z => h3 (frzE_so z)) nt]) kp Sb.refl
mutual
theorem chkS_ok : ∀ (is : IS) {m : Am} {X : Cx} {k : Nat} {Ex : ExV → DEnv → Prop} {s : Stmt}, SX m X k t Ex → (X.fn "" = true → MkC m X t) → txS m.G.ct X.env.qual is s → X.N = N → X.env.scope.kind = .function → PassesOwn (model X.prog X.w) X.A X.env X.xe → chkS t N is X.env.scope X.fn s = true → DS m X t Ex is s
  | .set i ir, m, X, k, Ex, s, hx, mk, tx, hN, hk, hp, h => by
    unfold chkS at h
    split at h
    · rename_i x p e q
      simp only [Bool.and_eq_true, Bool.not_eq_true', Bool.or_eq_true] at h
      obtain ⟨⟨⟨h1, h2⟩, h3⟩, h4⟩ := h
      obtain ⟨a, b, c⟩ := store_at hN h1
      by_cases hs : swB X.env.scope e x p = true
      · rcases h4 with h4 | h4
        · rw [hs] at h4; cases h4
        · split at h4
          · refine PS.weak (set_comp hx hN hk a h3 hs) fun E σ H ⟨env, K, r, w, kk⟩ => RdNL.of ⟨env, fun d env' => isClo d = false ∧ K.nx (env'.set i (some (false, d))), r, w, fun d v env' H' s ra ⟨hc, q⟩ => ?_⟩
            have r2 := s.rs.setSlot (i := i) (x := some (false, d)) (y := some v) rfl fun d' z => by cases z; exact ⟨v, rfl, ra⟩
            exact kk.nx _ H' _ (s.sts.trans ⟨r2, Kp.refl, Sb.sub (Sx.set s.rs.len rfl), fun _ h => h⟩) q
          · cases h4
      · exact ds_set hx.g a b c ((chk_ok ir hx hN h3).de h2) (by rw [sw_ok hk]; simp only [Bool.not_eq_true] at hs; rw [hs])
    · cases h
  | .snap i ir, m, X, k, Ex, s, hx, mk, tx, hN, hk, hp, h => by
    unfold chkS at h
    split at h
    · rename_i x p e q
      simp only [Bool.and_eq_true] at h
      obtain ⟨⟨h1, h3⟩, h4⟩ := h
      obtain ⟨a, b, c⟩ := store_at hN h1
      split at h4
      · rename_i vs T ik src cs ex elt tg iter ifs scope pos'
        have fin : ∀ (E : Ends) (σ : L2.St) (H : Hp), (∃ env K, RS m σ H env ∧ wpS t Ex (.snap i (.comp vs T ik src cs ex)) env K ∧ KOk m σ H env K E) → RdNL m (wpE t Ex (.comp vs T ik src cs ex)) σ H (fun v H1 => E.nx (σ.set i (some v)) H1) := fun E σ H ⟨env, K, r, w, kk⟩ => by
          refine ⟨frzE env, fun d env' => env' = frzE env ∧ flatL d = true ∧ K.nx (env.set i (some (false, d))), r.frz, w, fun l xs p env' H' s rp hp e rs ⟨he, hf, q⟩ => ?_⟩
          subst he
          have s2 := r.thaw s
          have fl : l.all flatD = true := hf
          have r2 := s2.rs.setSlot (i := i) (x := some (false, .lst l)) (y := some (.ref p)) rfl fun d' z => by
            cases z
            exact ⟨_, rfl, .inl (.lst e (r.free hp) (flats_any fl rs))⟩
          exact kk.nx _ H' _ (s2.sts.trans ⟨r2, Kp.refl, Sb.sub (Sx.set s2.rs.len rfl), fun _ h => h⟩) q
        by_cases hs : swB X.env.scope (.ListComp elt [⟨tg, iter, ifs, 0⟩] scope pos') x p = true
        · exact PS.weak (set_comp hx hN hk a h3 hs) fin
        · have cp := comp_parts hx hN h3
          have z := de_comp (pos := pos') hx.g cp.pi cp.ok cp.ns cp.hg cp.ht cp.he cp.hs
          rw [ownV_snd] at z
          exact PS.weak (ps_set hx.g.nd a b z (by rw [sw_ok hk]; simp only [Bool.not_eq_true] at hs; rw [hs]) c) fin
      · cases h4
    · cases h
  | .own i ir, m, X, k, Ex, s, hx, mk, tx, hN, hk, hp, h => by
    unfold chkS at h
    split at h
    · rename_i x p e q
      simp only [Bool.and_eq_true, Bool.not_eq_true', Bool.or_eq_true] at h
      obtain ⟨⟨h1, h3⟩, h4⟩ := h
      obtain ⟨a, b, c⟩ := store_at hN h1
      by_cases hs : swB X.env.scope e x p = true
      · rcases h4 with h4 | h4
        · rw [hs] at h4; cases h4
        · split at h4
          · unfold chkN at h3
            refine PS.weak (set_comp hx hN hk a h3 hs) fun E σ H ⟨env, K, r, w, kk⟩ => ⟨env, fun d env' => i < env'.length ∧ K.nx (env'.set i (some (true, d))), r, w, fun l xs p env' H' s rp hp e rs ⟨hl, q⟩ => own_end r kk s rp hp (.lst e rs) hl q⟩
          · rename_i tk vs T ik src cs kx ex kel elt tg iter ifs scope pos'
            unfold chkN at h3
            obtain ⟨rfl, dp⟩ := domp_parts hx hN h3
            have z := ds_dcomp (py := p) (spos := q) (pos := pos') hx.g a (swB_local hs) (by rw [sw_ok hk, hs]) dp
            rw [ownV_snd] at z
            exact PS.weak z fun E σ H ⟨env, K, r, w, kk⟩ => ⟨env, fun d env' => i < env'.length ∧ K.nx (env'.set i (some (true, d))), r, w, fun ks xs ds p env' H' s rp hp e hl rs ⟨hl2, q⟩ => own_end r kk s rp hp (.dK e hl rs) hl2 q⟩
          · cases h4
      · exact ds_own hx.g a b c (chkN_ok hx hN h3) (by rw [sw_ok hk]; simp only [Bool.not_eq_true] at hs; rw [hs])
    · cases h
  | .asg T ir, m, X, k, Ex, s, hx, mk, tx, hN, hk, hp, h => by
    unfold chkS at h
    split at h
    · rename_i es kk p e q
      simp only [Bool.and_eq_true, Bool.not_eq_true'] at h
      obtain ⟨⟨⟨⟨h1, h2⟩, h3⟩, h4⟩, h5⟩ := h
      refine ds_asg hx.g (pg_T hx.g (by rw [hN]; exact h2)) ((chk_ok ir hx hN h3).de h1) (by unfold swapsWithSole; exact sw_noB h4) ?_ rfl
      cases e <;> first | rfl | cases h5
    · cases h
  | .asgS ts ir, m, X, k, Ex, s, hx, mk, tx, hN, hk, hp, h => by
    unfold chkS at h
    split at h
    · simp only [Bool.and_eq_true, Bool.not_eq_true'] at h
      obtain ⟨⟨⟨⟨h1, h2⟩, h3⟩, h4⟩, h5⟩ := h
      exact ds_asgS hx hN hk h2 ((chk_ok ir hx hN h3).de h1) h4 (asgSw_ok hk h5)
    · cases h
  | .par l, m, X, k, Ex, s, hx, mk, tx, hN, hk, hp, h => by
    unfold chkS at h
    exact chkP_ok hx hN hk h
  | .put i kx ir, m, X, k, Ex, s, hx, mk, tx, hN, hk, hp, h => by
    unfold chkS at h
    split at h
    · simp only [Bool.and_eq_true, Bool.not_eq_true'] at h
      obtain ⟨⟨⟨⟨⟨⟨h1, h2⟩, h3⟩, h4⟩, h5⟩, h6⟩, h7⟩ := h
      refine ds_put hx.g (var_ok hN h1) ((chk_ok kx hx hN h6).de h2) ((chk_ok ir hx hN h7).de h3) h5 fun v => ?_
      rename_i o kel q e q2
      cases kel <;> first | rfl | cases h4
    · cases h
  | .expr ir, m, X, k, Ex, s, hx, mk, tx, hN, hk, hp, h => by
    unfold chkS at h
    split at h
    · simp only [Bool.and_eq_true, Bool.not_eq_true'] at h
      exact ds_expr ((chk_ok ir hx hN h.1.2).de h.1.1) (sw_noB h.2)
    · cases h
  | .ite c a b, m, X, k, Ex, s, hx, mk, tx, hN, hk, hp, h => by
    unfold chkS at h
    split at h
    · simp only [Bool.and_eq_true, Bool.not_eq_true'] at h
      obtain ⟨⟨⟨⟨h1, h2⟩, h3⟩, h4⟩, h5⟩ := h
      exact ds_ite ((chk_ok c hx hN h3).2 h1 h2) (chkSs_ok a hx mk tx.1 hN hk hp h4) (chkSs_ok b hx mk tx.2 hN hk hp h5)
    · cases h
  | .for_ T ik src body, m, X, k, Ex, s, hx, mk, tx, hN, hk, hp, h => by
    unfold chkS at h
    split at h
    · split at h
      · rename_i es he
        simp only [Bool.and_eq_true] at h
        obtain ⟨⟨⟨⟨h1, h2⟩, h3⟩, h4⟩, h5⟩ := h
        exact ds_for hx.g hp (pi_iter hx.g rfl hx.hb he (chkL_ok src hx hN h4) (allNb h1)) (pg_T hx.g (by rw [hN]; exact h3)) (chkSs_ok body hx mk tx hN hk hp h5) (fold_ok h2)
      · cases h
    · cases h
  | .while_ c body, m, X, k, Ex, s, hx, mk, tx, hN, hk, hp, h => by
    unfold chkS at h
    split at h
    · simp only [Bool.and_eq_true, Bool.not_eq_true'] at h
      obtain ⟨⟨⟨h1, h2⟩, h3⟩, h4⟩ := h
      exact ds_while hp ((chk_ok c hx hN h3).2 h1 h2) (chkSs_ok body hx mk tx hN hk hp h4)
    · cases h
  | .ret ir, m, X, k, Ex, s, hx, mk, tx, hN, hk, hp, h => by
    unfold chkS at h
    split at h
    · simp only [Bool.and_eq_true, Bool.not_eq_true'] at h
      exact ds_ret ((chk_ok ir hx hN h.2).de h.1)
    · cases h
  | .wset i c ir, m, X, k, Ex, s, hx, mk, tx, hN, hk, hp, h => by
    unfold chkS at h
    split at h
    · rename_i o n j p q e q2
      simp only [Bool.and_eq_true, Bool.not_eq_true', decide_eq_true_eq] at h
      obtain ⟨⟨⟨⟨h1, rfl⟩, h3⟩, h4⟩, h5⟩ := h
      exact ds_wset hx.g (var_ok hN h1) ((chk_ok ir hx hN h5).de h3) (by cases e <;> first | rfl | cases h4)
    · cases h
  | .wdm i c l ir, m, X, k, Ex, s, hx, mk, tx, hN, hk, hp, h => by
    unfold chkS at h
    split at h
    · rename_i o n j p q y py kt pt e q2
      simp only [Bool.and_eq_true, Bool.not_eq_true', decide_eq_true_eq] at h
      obtain ⟨⟨⟨⟨⟨⟨h1, rfl⟩, h3⟩, h4⟩, h6⟩, h7⟩, h5⟩ := h
      obtain ⟨a, b, c'⟩ := store_at hN h7
      exact ds_wdm hx.g (var_ok hN h1) a b c' ((chk_ok ir hx hN h5).de h3) (by cases e <;> first | rfl | (cases h4; done) | (cases h6; done))
    · cases h
  | .retN, m, X, k, Ex, s, hx, mk, tx, hN, hk, hp, h => by
    unfold chkS at h
    split at h
    · exact ds_retN
    · cases h
  | .pass, m, X, k, Ex, s, hx, mk, tx, hN, hk, hp, h => by
    unfold chkS at h
    split at h
    · exact ds_pass
    · cases h
  | .doc, m, X, k, Ex, s, hx, mk, tx, hN, hk, hp, h => by
    unfold chkS at h
    split at h
    · rename_i e q
      cases e <;> first | (cases h; done) | skip
      rename_i c j p2
      cases c <;> first | (cases h; done) | skip
      exact ds_doc
    · cases h
  | .brk, m, X, k, Ex, s, hx, mk, tx, hN, hk, hp, h => by
    unfold chkS at h
    split at h
    · exact ds_brk
    · cases h
  | .cont, m, X, k, Ex, s, hx, mk, tx, hN, hk, hp, h => by
    unfold chkS at h
    split at h
    · exact ds_cont
    · cases h
  | .never, m, X, k, Ex, s, hx, mk, tx, hN, hk, hp, h => ds_never
  | .ndef i c, m, X, k, Ex, s, hx, mk, tx, hN, hk, hp, h => by
    unfold chkS at h
    split at h
    · rename_i name params body scope n2 pos
      simp only [Bool.and_eq_true, decide_eq_true_eq, List.isEmpty_iff] at h
      obtain ⟨⟨⟨⟨⟨⟨h0, h1⟩, h2⟩, h3⟩, h4⟩, h5⟩, h6⟩ := h
      obtain ⟨_, _, _, _, _, _, e, t1, t2⟩ := tx
      cases e
      subst h2
      obtain ⟨a, b, c'⟩ := store_at hN h5
      exact ds_ndef hx.g (mk h0) h1 t1 h6 h3 h4 (t2 _) a b c'
    · cases h
  | .forl T kk args c body, m, X, k, Ex, s, hx, mk, tx, hN, hk, hp, h => by
    unfold chkS at h
    split at h
    · rename_i tg x px es cpos b pos
      split at h
      · rename_i params bd sc2 lpos hl
        simp only [Bool.and_eq_true, decide_eq_true_eq, List.isEmpty_iff, Bool.not_eq_true'] at h
        obtain ⟨⟨⟨⟨⟨⟨⟨⟨⟨⟨⟨⟨h0, h1⟩, h2⟩, h3⟩, h4⟩, h5⟩, h6⟩, h7⟩, h8⟩, h9⟩, h10⟩, hno⟩, h11⟩ := h
        obtain ⟨_, _, _, _, _, _, _, _, _, _, _, e, t0, t1, t2⟩ := tx
        cases e
        rw [hl] at t0
        cases t0
        have al := al_snoc (chkL_ok args hx hN h9) (i := .lam c) (e := .Lambda params bd sc2 lpos) (de_lam (mk h0) h1 t1 h6 (t2 _)) rfl
        have ees : es.dropLast ++ [.Lambda params bd sc2 lpos] = es := by
          obtain ⟨l, e⟩ := List.getLast?_eq_some_iff.mp hl
          rw [e, List.dropLast_concat]
        rw [ees] at al
        have dc := de_callc (p := px) (pos := cpos) hx.g hx.xh (hx.oh h0) h1 (hx.gd kk h2) h3 (Gl.of rfl h4) h5 al (by rintro rfl; cases hl)
        have al1 : AL m X t Ex [.callc kk (args ++ [.lam c]) c] [.Call (.Name x px) es [] cpos] := ⟨dc, rfl, trivial⟩
        exact ds_for (pos := pos) (T := T) hx.g hp (pi_iter (sc := X.env.scope) (kk := .it) (tg := tg) (iter := .Call (.Name x px) es [] cpos) hx.g rfl hx.hb rfl al1 fun i hi => by
          rw [List.mem_singleton.mp hi]; rfl) (pg_T hx.g (by rw [hN]; exact h10)) (chkSs_ok body hx mk (txSs_no _ _ hno) hN hk hp h11) (fold_ok rfl)
      · cases h
    · cases h
theorem chkSs_ok : ∀ (is : List IS) {m : Am} {X : Cx} {k : Nat} {Ex : ExV → DEnv → Prop} {ss : List Stmt}, SX m X k t Ex → (X.fn "" = true → MkC m X t) → txSs m.G.ct X.env.qual is ss → X.N = N → X.env.scope.kind = .function → PassesOwn (model X.prog X.w) X.A X.env X.xe → chkSs t N is X.env.scope X.fn ss = true → DSs m X t Ex is ss
  | [], m, X, k, Ex, [], hx, mk, tx, hN, hk, hp, h => dss_nil
  | i :: is, m, X, k, Ex, s :: ss, hx, mk, tx, hN, hk, hp, h => by
    unfold chkSs at h
    simp only [Bool.and_eq_true] at h
    exact dss_cons (chkS_ok i hx mk tx.1 hN hk hp h.1) (chkSs_ok is hx mk tx.2 hN hk hp h.2)
  | [], m, X, k, Ex, _ :: _, hx, mk, tx, hN, hk, hp, h => by unfold chkSs at h; cases h
  | _ :: _, m, X, k, Ex, [], hx, mk, tx, hN, hk, hp, h => by unfold chkSs at h; cases h
end
end
end SD

set_option Elab.async false
set_option linter.all false
set_option maxRecDepth 100000
set_option maxHeartbeats 4000000
namespace SD
open PySem PySem.Spec PyProof.Rows L2
/-! ## a def's contract by its body -/
/-- no closures are held -/
def amOf (G : Wd) (wa : Addr) (So : Addr → Prop) (H : Hp) : Am := { G := G, wa := wa, So := So, H0 := H, cl := fun _ _ _ _ => False, mono := fun _ _ z => z, clo := fun z => z.elim }
def env0 (N : List Str) (ds : List D) : DEnv := ds.map (fun d => some (false, d)) ++ List.replicate (N.length - ds.length) none
def endK (Qd : D → Prop) : KS := { nx := fun _ => Qd .non, rt := fun d _ => Qd d, bk := fun _ => False, ct := fun _ => False }
theorem CAs.rds {G : Wd} {fs : List Addr} {h : Heap} {wa : Addr} {So : Addr → Prop} {H : Hp} : ∀ {ds : List D} {vs : List V}, (∀ d ∈ ds, isClo d = false) → CAs G fs h wa So H ds vs → RDs G wa H So ds vs
  | [], [], _, _ => .nil
  | d :: _, _ :: _, n, z => .cons (z.1.elim id fun q => absurd q.clo (by rw [n d List.mem_cons_self]; exact Bool.false_ne_true)) (CAs.rds (fun e he => n e (List.mem_cons_of_mem _ he)) z.2)
  | [], _ :: _, _, z => z.elim
  | _ :: _, [], _, z => z.elim
theorem borOk_no : ∀ {irs : List IE} {ds : List D}, borOk irs ds = true → ds.length = irs.length → ∀ d ∈ ds, isClo d = false
  | _, [], _, _, _, h => by cases h
  | [], _ :: _, _, l, _, _ => by cases l
  | i :: is, d :: ds, hb, l, e, he => by
    have hb' : (!(isBor i && isDc d) && !isClo d && borOk is ds) = true := hb
    rw [Bool.and_eq_true, Bool.and_eq_true] at hb'
    rcases List.mem_cons.mp he with rfl | he
    · simpa using hb'.1.2
    · exact borOk_no hb'.2 (by simpa using l) e he
/-- what a call of the contract C wants -/
theorem env0_get {N : List Str} {ds : List D} {i : Nat} {s : Slt} (h : (env0 N ds)[i]? = some s) : (∃ d, ds[i]? = some d ∧ s = some (false, d)) ∨ s = none := by
  unfold env0 at h
  by_cases hi : i < ds.length
  · rw [List.getElem?_append_left (by simpa using hi), List.getElem?_map, List.getElem?_eq_getElem hi] at h
    cases h
    exact .inl ⟨_, List.getElem?_eq_getElem hi, rfl⟩
  · rw [List.getElem?_append_right (by simpa using hi), List.getElem?_replicate] at h
    split at h
    · cases h; exact .inr rfl
    · cases h
theorem start_get {N : List Str} {vs : List V} {i : Nat} {v : V} (h : vs[i]? = some v) : (L2.start N vs)[i]? = some (some v) := by
  have hi : i < vs.length := (List.getElem?_eq_some_iff.mp h).1
  unfold L2.start
  rw [List.getElem?_append_left (by simpa using hi), List.getElem?_map, h]
  rfl
theorem rs_start {G : Wd} {wa : Addr} {So : Addr → Prop} {H : Hp} {N : List Str} {ds : List D} {vs : List V} (r : RDs G wa H So ds vs) (a : Amb G wa So H) : RS (amOf G wa So H) (L2.start N vs) H (env0 N ds) := by
  have no : ∀ i d, (env0 N ds)[i]? ≠ some (some (true, d)) := fun i d h => by
    rcases env0_get h with ⟨e, _, q⟩ | q <;> cases q
  have sx : ∀ b, Sx So (L2.start N vs) (env0 N ds) b → So b := fun b h => by
    rcases h with h | ⟨i, d, h1, _⟩
    · exact h
    · exact absurd h1 (no i d)
  refine ⟨?_, fun i d h => ?_, fun i d h => absurd h (no i d), fun i j d e b h => absurd h (no i d), a.so, a.we, a.ta, fun b o e _ _ => e, fun b e => e⟩
  · unfold env0 L2.start
    rw [List.length_append, List.length_append, List.length_map, List.length_map, List.length_replicate, List.length_replicate, r.length]
  · rcases env0_get h with ⟨e, he, q⟩ | q
    · cases q
      obtain ⟨v, h1, h2⟩ := r.get he
      exact ⟨v, start_get h1, .inl (h2.mono Kp.refl (Sb.sub sx))⟩
    · cases q
theorem RS.frc {m : Am} {σ H env} (r : RS m σ H env) : FrC m.G m.wa m.H0 H := ⟨r.fr, r.nn⟩
theorem RS.amb0 {m : Am} {σ H env} (r : RS m σ H env) : Amb m.G m.wa m.So H := ⟨r.so, r.we, r.ta⟩
/-- the tables that a def's text is read by -/
structure TX (G : Wd) (t : Tb) (k : Nat) : Prop where
  hb : ∀ x ∈ bltNames, G.mg x = none
  gd : ∀ n, t.hs n = true → HasG G k (t.gd n) n
  gc : ∀ n, t.hcc n = true → HasC G k (t.cc n) n
  cn : ∀ n, t.hc n = true → ∃ v u, G.mg (t.cnm n) = some u ∧ RelV v u ∧ ∀ wa H S, RD G wa H S (t.con n) v
  gp : ∀ c n, t.hp c n = true → PrpG G k c (t.gd n) := by intro c n h; cases h
  gl : ∀ c, t.hl c = true → FldC G c (t.cln c) (t.fl c) := by intro c h; cases h
/-! ### a def without closures -/
theorem fok_of {G : Wd} {t : Tb} {k : Nat} {x qual : Str} {st : Stmt} {f : Addr} {fd : FuncData} {N ps : List Str} {C : Contract} (F : L2.Fun G.K x qual st f fd) (hS : C8.scC N ps (defScope st) = true) (T : TX G t k) (no : ∀ c, t.own c = false) (is : List IS) (nd : noNds is = true)
    (hc : chkSs t N is (defScope st) (fun _ => true) (defBody st) = true) (hC : ∀ ds Qd Ed, C ds Qd Ed → ds.length = ps.length → wpSs t (fun x _ => Ed x) is (env0 N ds) (endK Qd)) : FnOk G.P G.w G.K G.mg G.base (CX G.P G.w) (k + 1) f fd ps (spC G ps C) := by
  have S := C8.fnScope_by hS
  obtain ⟨oc, od, kV, doc, pm, an, cdv, ct, osl, rfl, lk, hcd⟩ := F.ex
  refine fn_of lk hcd S (fun vs H Q E ⟨ds, wa, So, Qd, Ed, h1, h2, _⟩ => by rw [← h2.length, h1]) fun A outer s H vs Q E hr ⟨ds, wa, So, Qd, Ed, h1, h2, amb, hc0, kq, ke⟩ => ?_
  let X := cxOf (CX G.P G.w) G.P G.w G.K G.mg G.base N qual (defScope st) f cdv A outer s H E
  let m := amOf G wa So H
  have sxs : ∀ (σ : L2.St) (env : DEnv) a, So a → Sx m.So σ env a := fun _ _ _ z => .inl z
  have hx : SX m X k t (fun x _ => Ed x) := by
    refine ⟨⟨rfl, rfl, rfl, rfl, rfl, S.nd, rfl, hr⟩, ⟨⟨fun cls dx _ H => E cls dx H, takes_of rfl rfl rfl rfl, fun x env cls dx σ H' r rx q => ?_⟩⟩, fun _ pins σ H' s' S' d v I _ z => z.elim, T.hb, T.gd, T.gc, fun _ c hc => (by rw [no] at hc; cases hc), fun n hn => ?_, T.gp, T.gl⟩
    · refine ke x cls dx H' r.frc r.amb0 ?_ q
      obtain ⟨r1, r2⟩ := rx
      refine ⟨r1, ?_⟩
      rcases r2 with r2 | ⟨dd, xs, e1, e2, n, l, rd⟩
      · exact .inl r2
      · exact .inr ⟨dd, xs, e1, e2, fun z => n (sxs _ _ _ z), l, rd.mono Kp.refl (Sb.sub fun a z => sxs _ _ _ z)⟩
    · obtain ⟨v, u, a, b, c⟩ := T.cn n hn
      exact ⟨v, u, a, b, c wa⟩
  have hp : PassesOwn (model X.prog X.w) X.A X.env X.xe := passes_of (X := X) (K := fun u s'' => CX G.P G.w outer H s E u s'') rfl
  have ds_ : DSs m X t (fun x _ => Ed x) is (defBody st) := chkSs_ok is hx (fun _ => ⟨fun c hc => by rw [no] at hc; cases hc⟩) (txSs_no _ _ nd) rfl S.kind hp hc
  refine ⟨_, ds_, env0 N ds, endK Qd, rs_start h2 amb, hC ds Qd Ed hc0 h1, ⟨fun σ' H' env' z q => ?_, fun d v σ' H' env' z rd q => ?_, fun _ _ _ _ z => z.elim, fun _ _ _ _ z => z.elim⟩⟩
  · exact kq .non .non H' z.rs.frc z.rs.amb0 .non q
  · exact kq d v H' z.rs.frc z.rs.amb0 (rd.mono Kp.refl (Sb.sub fun a q => sxs _ _ _ q)) q
/-! ### a def that takes and makes closures -/
/-- a def of the frame's own; cells: what the frame's cells are -/
def OwnAt (G : Wd) (cells : List (Str × Addr)) (H : Hp) (S : Addr → Prop) (d : D) (v : V) : Prop := ∃ (c : Nat) (f c' : Addr), d = .own c ∧ v = .ref f ∧ H f = some (FnC f (G.ct c) (cloFrom cells (G.ct c).scope.names []) c') ∧ ¬ S f ∧ H c' = some (LamX.CodeO c' (G.ct c).qual) ∧ ¬ S c'
def amC (G : Wd) (fs : List Addr) (wa : Addr) (So : Addr → Prop) (H : Hp) (h : Heap) (cells : List (Str × Addr)) : Am where
  G := G
  wa := wa
  So := So
  H0 := H
  cl := fun H' S d v => CAt G fs h H wa H' S d v ∨ OwnAt G cells H' S d v
  mono := fun {H' H2 S S' d v} k s z => z.elim (fun q => .inl (q.mono k s)) fun ⟨c, f, c', e1, e2, h1, h2, h3, h4⟩ => by
    obtain ⟨a1, a2⟩ := stay k s h1 h2 noTbl_fnC
    obtain ⟨b1, b2⟩ := stay k s h3 h4 noTbl_code
    exact .inr ⟨c, f, c', e1, e2, a1, a2, b1, b2⟩
  clo := fun z => z.elim (fun q => q.clo) fun ⟨c, f, c', e1, _⟩ => by rw [e1]; rfl
theorem CAs.get2 {G : Wd} {fs : List Addr} {h : Heap} {wa : Addr} {So : Addr → Prop} {H : Hp} : ∀ {ds : List D} {vs : List V} {i : Nat} {d : D}, CAs G fs h wa So H ds vs → ds[i]? = some d → ∃ v, vs[i]? = some v ∧ (RD G wa H So d v ∨ CAt G fs h H wa H So d v)
  | [], _, _, _, _, e => by simp at e
  | _ :: _, [], _, _, z, _ => z.elim
  | _ :: _, v :: _, 0, _, z, e => by cases e; exact ⟨v, rfl, z.1⟩
  | _ :: _, _ :: _, i + 1, _, z, e => CAs.get2 (i := i) z.2 e
theorem rs_startC {G : Wd} {fs : List Addr} {wa : Addr} {So : Addr → Prop} {H : Hp} {h : Heap} {cells : List (Str × Addr)} {N : List Str} {ds : List D} {vs : List V} (r : CAs G fs h wa So H ds vs) (a : Amb G wa So H) : RS (amC G fs wa So H h cells) (L2.start N vs) H (env0 N ds) := by
  have no : ∀ i d, (env0 N ds)[i]? ≠ some (some (true, d)) := fun i d h => by
    rcases env0_get h with ⟨e, _, q⟩ | q <;> cases q
  have sx : ∀ b, Sx So (L2.start N vs) (env0 N ds) b → So b := fun b h => by
    rcases h with h | ⟨i, d, h1, _⟩
    · exact h
    · exact absurd h1 (no i d)
  refine ⟨?_, fun i d h => ?_, fun i d h => absurd h (no i d), fun i j d e b h => absurd h (no i d), a.so, a.we, a.ta, fun b o e _ _ => e, fun b e => e⟩
  · unfold env0 L2.start
    rw [List.length_append, List.length_append, List.length_map, List.length_map, List.length_replicate, List.length_replicate, r.len]
  · rcases env0_get h with ⟨e, he, q⟩ | q
    · cases q
      obtain ⟨v, h1, h2⟩ := r.get2 he
      refine ⟨v, start_get h1, ?_⟩
      rcases h2 with z | z
      · exact .inl (z.mono Kp.refl (Sb.sub sx))
      · exact .inr (.inl (z.mono Kp.refl (Sb.sub sx)))
    · cases q
/-- what the making of a closure asks of the world: the maker's code object cc, its table P -/
structure OwnC (G : Wd) (t : Tb) (N : List Str) (qual : Str) (sc : Scope) (cc : Addr) (c : Nat) : Prop where
  fr : G.cfr c = (t.cc c).fr
  nd : NdefX.ndefB sc (G.ct c).scope (t.cc c).fr = true
  js : (t.cc c).js.map (fun j => N[j]?) = (t.cc c).fr.map some
  tb : ∃ (P : Addr) (nm : Nat → Nat → Str), LamX.TabB G.base G.mg cc P ∧ (P, nm) ∈ G.T ∧ (∀ q ∈ G.T, q.1 = P → q.2 = nm) ∧ nm (t.cc c).pos.1 (t.cc c).pos.2 = (G.ct c).qual
theorem gok_of {G : Wd} {t : Tb} {k : Nat} {x qual : Str} {st : Stmt} {f : Addr} {fd : FuncData} {N ps : List Str} {C : Contract} (F : L2.Fun G.K x qual st f fd) (hS : C8.scC N ps (defScope st) = true) (T : TX G t k) (is : List IS)
    (ho : ∀ c, t.own c = true → ∃ cc, fd.code = .ref cc ∧ OwnC G t N qual (defScope st) cc c) (tx : txSs G.ct (qual ++ ".<locals>.") is (defBody st))
    (hc : chkSs t N is (defScope st) (fun _ => true) (defBody st) = true) (hC : ∀ ds Qd Ed, C ds Qd Ed → ds.length = ps.length → wpSs t (fun x _ => Ed x) is (env0 N ds) (endK Qd)) : GOk G (k + 1) f fd ps C := by
  have S := C8.fnScope_by hS
  obtain ⟨oc, od, kV, doc, pm, an, cdv, ct, osl, rfl, lk, hcd⟩ := F.ex
  intro A outer s H args us vs ds wa So Qd Ed Q E hr e0 bt rv hlp ca amb hc0 kq ke
  refine LamX.run_ofS lk hcd S hr e0 bt rv (by rw [← ca.len, hlp]) fun hr' => ?_
  let X := cxOf (CX G.P G.w) G.P G.w G.K G.mg G.base N qual (defScope st) f cdv A outer s H E
  let m := amC G (frs outer) wa So H s.heap X.env.cells
  have sxs : ∀ (σ : L2.St) (env : DEnv) a, So a → Sx m.So σ env a := fun _ _ _ z => .inl z
  have hx : SX m X k t (fun x _ => Ed x) := by
    refine ⟨⟨rfl, rfl, rfl, rfl, rfl, S.nd, rfl, hr'⟩, ⟨⟨fun cls dx _ H => E cls dx H, takes_of rfl rfl rfl rfl, fun x env cls dx σ H' r rx q => ?_⟩⟩, fun _ pins σ H' s' S' d v I hno z => ?_, T.hb, T.gd, T.gc, fun _ c hown pins σ H' s' S' v I z => ?_, fun n hn => ?_, T.gp, T.gl⟩
    · refine ke x cls dx H' r.frc r.amb0 ?_ q
      obtain ⟨r1, r2⟩ := rx
      refine ⟨r1, ?_⟩
      rcases r2 with r2 | ⟨dd, xs, e1, e2, n, l, rd⟩
      · exact .inl r2
      · exact .inr ⟨dd, xs, e1, e2, fun z => n (sxs _ _ _ z), l, rd.mono Kp.refl (Sb.sub fun a z => sxs _ _ _ z)⟩
    · rcases z with z | ⟨c, f, c', e1, _⟩
      · obtain ⟨c, ws, f, cl, c', wss, h1, h2, h3, h4, h5, h6, h7, h8, h9⟩ := z
        refine ⟨c, ws, f, cl, c', wss, h1, h2, h3, h4, h5, h6, h7, ?_, fun y a e => ?_⟩
        · exact NdefX.CellsAt.later (X := X) h8 h9 (fun y a e z => by cases z) I
        · obtain ⟨_, v, o, ho, _⟩ := h8.all y a e
          exact fun z => (List.mem_cons.mp z).elim (fun q => by rw [q] at ho; exact Nat.lt_irrefl _ (Heap.lt_size ho)) (h9 y a e)
      · rw [e1] at hno; cases hno
    · obtain ⟨cc, hcode, O⟩ := ho c hown
      rcases z with z | ⟨c0, f, c', e1, rfl, h3, h4, h5, h6⟩
      · obtain ⟨c, ws, f, cl, c', wss, h1, _⟩ := z
        cases h1
      · cases e1
        refine ⟨f, _, c', rfl, h3, h4, h5, h6, fun wss hw => ?_⟩
        have cp := NdefX.Caps.made (X := X) (scope := (G.ct c).scope) (fr := (t.cc c).fr) (js := (t.cc c).js) I.ok (NdefX.ndef_free O.nd) (NdefX.ndef_fr O.nd) O.js
        have q := NdefX.cells_of I cp
        rw [hw, ← O.fr] at q
        refine ⟨q, fun y a e z => ?_⟩
        have hca := cp.sub y a e
        obtain ⟨v, o, ho, hd⟩ := I.cell y a hca
        rcases List.mem_cons.mp (show a ∈ X.env.locals :: frs X.outer from z) with z | z
        · obtain ⟨mm, ⟨o2, es, ep, e1, e2, _⟩, _⟩ := I.loc
          rw [← z, ho] at e1
          cases e1
          rw [hd] at e2
          cases e2
        · obtain ⟨_, o2, e1, _⟩ := I.ok.funs.mem z
          exact Nat.lt_irrefl _ (Nat.lt_of_lt_of_le (Heap.lt_size e1) (I.ok.cab y a rfl hca))
    · obtain ⟨v, u, a, b, c⟩ := T.cn n hn
      exact ⟨v, u, a, b, c wa⟩
  have mk : X.fn "" = true → MkC m X t := fun _ => ⟨fun c hown => by
    obtain ⟨cc, hcode, O⟩ := ho c hown
    obtain ⟨P, nm, b1, b2, b3, b4⟩ := O.tb
    exact ⟨cc, P, nm, b1, hcode, b2, b3, b4, NdefX.ndef_free O.nd, fun H S f c' h1 h2 h3 h4 => .inr ⟨c, f, c', rfl, rfl, h1, h2, h3, h4⟩⟩⟩
  have hp : PassesOwn (model X.prog X.w) X.A X.env X.xe := passes_of (X := X) (K := fun u s'' => CX G.P G.w outer H s E u s'') rfl
  have ds_ : DSs m X t (fun x _ => Ed x) is (defBody st) := chkSs_ok is hx mk tx rfl S.kind hp hc
  refine ⟨_, ds_, env0 N ds, endK Qd, rs_startC ca amb, hC ds Qd Ed hc0 hlp, ⟨fun σ' H' env' z q => ?_, fun d v σ' H' env' z rd q => ?_, fun _ _ _ _ z => z.elim, fun _ _ _ _ z => z.elim⟩⟩
  · exact kq .non .non H' z.rs.frc z.rs.amb0 .non q
  · exact kq d v H' z.rs.frc z.rs.amb0 (rd.mono Kp.refl (Sb.sub fun a q => sxs _ _ _ q)) q
/-- a def of the module, told by its body -/
theorem hasG_of {G : Wd} {k n : Nat} {g : GD} {st : Stmt} {f : Addr} {fd : FuncData} (F : L2.Fun G.K g.name g.name st f fd) (mg : G.mg g.name = some (.ref f)) (hf : f = G.glb n) (b : Binds G.K fd g.ps []) (o : GOk G g.lvl f fd g.ps g.C) (l : g.lvl ≤ k)
    (kb : ∀ q ∈ g.kws, KwB G.K fd g.ps q ∧ q.1.length = g.ps.length ∧ q.2.length = g.ps.length ∧ ∀ i ∈ q.2, i < g.ps.length) : HasG G k g n :=
  ⟨⟨f, mg, hf, F.kp, callX_pos o b, fun q hq => ⟨callX_kw o (kb q hq).1 (kb q hq).2.1 (kb q hq).2.2.1 (kb q hq).2.2.2, (kb q hq).2.1⟩⟩, l⟩
end SD

set_option Elab.async false
set_option linter.all false
set_option maxRecDepth 100000
set_option maxHeartbeats 4000000
namespace SD
open PySem PySem.Spec PyProof.Rows L2
/-! ## the law's own def: f(g(script, lap)), where g makes a new list that f takes as its well -/
/-- a body that ends in a new object -/
def chkSr (t : Tb) (N : List Str) : List IS → IE → Scope → (Str → Bool) → List Stmt → Bool
  | [], ir, sc, fn, [.Return (some e) _] => chkN t N ir sc fn e
  | i :: is, ir, sc, fn, s :: ss => chkS t N i sc fn s && chkSr t N is ir sc fn ss
  | _, _, _, _, _ => false
def wpSr (t : Tb) (Ex : ExV → DEnv → Prop) : List IS → IE → DEnv → (D → Prop) → Prop
  | [], ir, env, Q => wpE t Ex ir env fun d _ => Q d
  | i :: is, ir, env, Q => wpS t Ex i env { nx := fun env' => wpSr t Ex is ir env' Q, rt := fun _ _ => False, bk := fun _ => False, ct := fun _ => False }
def RdR (m : Am) (t : Tb) (Ex : ExV → DEnv → Prop) (is : List IS) (ir : IE) : TS := fun E σ H => ∃ env Q, RS m σ H env ∧ wpSr t Ex is ir env Q ∧
  ∀ d p σ' H' env', StS m σ H env σ' H' env' → H p = none → RX m.G m.wa H' (Sx (m.plus p).So σ' env') d p → Q d → E.rt (.ref p) H'
theorem chkSr_ok {t : Tb} {N : List Str} : ∀ (is : List IS) {ir : IE} {m : Am} {X : Cx} {k : Nat} {Ex : ExV → DEnv → Prop} {ss : List Stmt}, SX m X k t Ex → (X.fn "" = true → MkC m X t) → noNds is = true → X.N = N → X.env.scope.kind = .function → PassesOwn (model X.prog X.w) X.A X.env X.xe →
    chkSr t N is ir X.env.scope X.fn ss = true → PSs X ss (RdR m t Ex is ir)
  | [], ir, m, X, k, Ex, ss, hx, mk, nd, hN, hk, hp, h => by
    unfold chkSr at h
    split at h
    · rename_i e pos heq
      refine PSs.weak (pss_one (ps_ret (chkN_ok hx hN h))) fun E σ H ⟨env, Q, r, w, kq⟩ => ?_
      exact ⟨env, fun d _ => Q d, r, w, fun d p env' H' s rp hp x q => kq d p σ H' env' s.sts hp x q⟩
    · rename_i heq
      cases heq
    · cases h
  | i :: is, ir, m, X, k, Ex, [], hx, mk, nd, hN, hk, hp, h => by unfold chkSr at h; cases h
  | i :: is, ir, m, X, k, Ex, s :: ss, hx, mk, nd, hN, hk, hp, h => by
    unfold chkSr at h
    simp only [Bool.and_eq_true] at h
    refine PSs.weak (pss_cons (chkS_ok i hx mk (txS_no i s (Bool.and_eq_true_iff.mp nd).1) hN hk hp h.1) (chkSr_ok is hx mk (Bool.and_eq_true_iff.mp nd).2 hN hk hp h.2)) fun E σ H ⟨env, Q, r, w, kq⟩ => ?_
    exact ⟨env, _, r, w, ⟨fun σ' H' env' st q => ⟨env', Q, st.rs, q, fun d p σ2 H2 env2 st2 hp x q => kq d p σ2 H2 env2 (st.trans st2) (st.nn p hp) x q⟩, fun _ _ _ _ _ _ _ z => z.elim, fun _ _ _ _ z => z.elim, fun _ _ _ _ z => z.elim⟩⟩
/-- what a call of a def that makes a new list of three ints wants -/
def spN (G : Wd) (ps : List Str) (C : List D → (Int → Int → Int → Prop) → Prop) : Sp := fun vs H Q _ => ∃ (ds : List D) (wa : Addr) (So : Addr → Prop) (Qd : Int → Int → Int → Prop), ds.length = ps.length ∧ RDs G wa H So ds vs ∧ Amb G wa So H ∧ C ds Qd ∧
  (∀ a b c p H', FrC G wa H H' → Amb G wa So H' → H p = none → H' p = some (.lst [.int a, .int b, .int c]) → Qd a b c → Q (.ref p) H')
theorem fn_new {G : Wd} {t : Tb} {k : Nat} {x qual : Str} {st : Stmt} {f : Addr} {fd : FuncData} {N ps : List Str} {C : List D → (Int → Int → Int → Prop) → Prop} (F : L2.Fun G.K x qual st f fd) (hS : C8.scC N ps (defScope st) = true) (T : TX G t k) (no : ∀ c, t.own c = false) (is : List IS) (nd : noNds is = true) (ir : IE)
    (hc : chkSr t N is ir (defScope st) (fun _ => true) (defBody st) = true) (hC : ∀ ds Qd, C ds Qd → ds.length = ps.length → wpSr t noEx is ir (env0 N ds) fun d => ∃ a b c, d = .lst [.int a, .int b, .int c] ∧ Qd a b c) :
    FnOk G.P G.w G.K G.mg G.base (CX G.P G.w) (k + 1) f fd ps (spN G ps C) := by
  have S := C8.fnScope_by hS
  obtain ⟨oc, od, kV, doc, pm, an, cdv, ct, osl, rfl, lk, hcd⟩ := F.ex
  refine fn_of lk hcd S (fun vs H Q E ⟨ds, wa, So, Qd, h1, h2, _⟩ => by rw [← h2.length, h1]) fun A outer s H vs Q E hr ⟨ds, wa, So, Qd, h1, h2, amb, hc0, kq⟩ => ?_
  let X := cxOf (CX G.P G.w) G.P G.w G.K G.mg G.base N qual (defScope st) f cdv A outer s H E
  let m := amOf G wa So H
  have hx : SX m X k t noEx := by
    refine ⟨⟨rfl, rfl, rfl, rfl, rfl, S.nd, rfl, hr⟩, ⟨⟨_, takes_no, fun _ _ _ _ _ _ _ _ z => z⟩⟩, fun _ pins σ H' s' S' d v I _ z => z.elim, T.hb, T.gd, T.gc, fun _ c hc => (by rw [no] at hc; cases hc), fun n hn => ?_, T.gp, T.gl⟩
    obtain ⟨v, u, a, b, c⟩ := T.cn n hn
    exact ⟨v, u, a, b, c wa⟩
  have hp : PassesOwn (model X.prog X.w) X.A X.env X.xe := passes_of (X := X) (K := fun u s'' => CX G.P G.w outer H s E u s'') rfl
  refine ⟨_, chkSr_ok is hx (fun _ => ⟨fun c hc => by rw [no] at hc; cases hc⟩) nd rfl S.kind hp hc, env0 N ds, _, rs_start h2 amb, hC ds Qd hc0 h1, fun d p σ' H' env' z hpn x q => ?_⟩
  obtain ⟨a, b, c, rfl, qd⟩ := q
  have e3 : H' p = some (.lst [.int a, .int b, .int c]) := by
    cases x with
    | lst e rs =>
      cases rs with
      | cons r1 rs => cases rs with
        | cons r2 rs => cases rs with
          | cons r3 rs =>
            cases rs
            cases r1; cases r2; cases r3
            exact e
  exact kq a b c p H' z.rs.frc z.rs.amb0 hpn e3 qd
/-- the contract of f(g(..)), told over g's arguments -/
def CComp (C0 : List D → (Int → Int → Int → Prop) → Prop) (C1 : Contract) : Contract := fun ds Q _ => ∃ Qw : Int → Int → Int → Prop, C0 ds Qw ∧ ∀ a b c, Qw a b c → WOk a b c ∧ C1 [.well] (fun d => d = .bl true ∧ Q (.bl true)) fun _ => False
def Wd.up (G : Wd) : Wd := { G with hw := true }
theorem de_comp2 {m : Am} {X : Cx} {k j1 j0 : Nat} {t : Tb} {Ex : ExV → DEnv → Prop} {kk : Nat} {x y : Str} {p1 p2 q1 q2 : Pos} {irs : List IE} {e : Expr} {es : List Expr} {f0 f1 : Addr} {fd0 fd1 : FuncData} {ps : List Str} {C0 : List D → (Int → Int → Int → Prop) → Prop} {C1 : Contract} {w : Str}
    (g : GX m X k) (hw : m.G.hw = false) (F1 : FnOk m.G.P m.G.w m.G.K m.G.mg m.G.base (CX m.G.P m.G.w) j1 f1 fd1 [w] (spC m.G.up [w] C1)) (F0 : FnOk m.G.P m.G.w m.G.K m.G.mg m.G.base (CX m.G.P m.G.w) j0 f0 fd0 ps (spN m.G ps C0))
    (l1 : j1 ≤ k) (l0 : j0 ≤ k) (m1 : m.G.mg x = some (.ref f1)) (m0 : m.G.mg y = some (.ref f0)) (k1 : PySem.W.keepIn m.G.K (.ref f1) = true) (k0 : PySem.W.keepIn m.G.K (.ref f0) = true) (b1 : Binds m.G.K fd1 [w] []) (b0 : Binds m.G.K fd0 ps [])
    (gx : Gl X x) (gy : Gl X y) (dx : (x == ("__debug__" : Str)) = false) (dy : (y == ("__debug__" : Str)) = false) (hC : (t.gd kk).C = CComp C0 C1) (hps : (t.gd kk).ps = ps) (nc : ∀ H S d v, ¬ m.cl H S d v) (nb : irs.any isBor = false)
    (al : AL m X t Ex irs (e :: es)) : DE m X t Ex (.call kk irs) (.Call (.Name x p1) [.Call (.Name y p2) (e :: es) [] q2] [] q1) := by
  have st := al.star
  rw [← g.hP, ← g.hw, ← g.hK, ← g.hmg, ← g.hb] at F1 F0
  rw [← g.hmg] at m1 m0
  rw [← g.hK] at k1 k0 b1 b0
  have inner := pe_call (pos := q2) (p := p2) (E := fun _ _ _ => False) F0 (g.room.mono l0) gy m0 k0 b0 .nil (fun _ _ _ _ _ _ _ c => by obtain ⟨_, _, _, _, _, _, _, _, _, _, _, _, z⟩ := c; exact z.elim) al.pa dy (star_nb (st e List.mem_cons_self)) (star_any fun y hy => st y (List.mem_cons_of_mem _ hy))
  refine PE.weak (pe_call (pos := q1) (p := p1) (E := fun _ _ _ => False) F1 (g.room.mono l1) gx m1 k1 b1 .nil (fun _ _ _ _ _ _ _ c => by obtain ⟨_, _, _, _, _, _, _, _, _, _, _, _, z⟩ := c; exact z.elim) (pa_cons inner pa_nil rfl) dx rfl rfl) fun σ H Q ⟨env, Qd, r, w0, kq⟩ => ?_
  refine chainL irs ⟨env, _, r, w0, fun ds vs env1 H1 s1 ro w1 => ?_⟩
  obtain ⟨hl, hbo, w1⟩ := w1
  rw [hC] at w1
  rw [hps] at hl
  obtain ⟨Qw, c0, h1⟩ := w1
  obtain ⟨ca, hlen⟩ := ROs.cas (fs := []) (h := m.G.base) (all := irs) s1.rs (fun i hi => hi) hbo ro
  have rds := (ca.rds (borOk_no hbo hlen)).mono Kp.refl (Sb.sub (S := fun a => Sx m.So σ env1 a ∧ ¬ Brw σ env1 irs a) (S' := Sx m.So σ env1) fun a z => ⟨z, no_brw nb⟩)
  show spN m.G ps C0 (vs ++ []) H1 _ _
  rw [List.append_nil]
  refine ⟨ds, m.wa, _, Qw, hl, rds, s1.rs.amb, c0, fun a b c p H2 fr am hpn e2 qw => ?_⟩
  obtain ⟨wok, c1⟩ := h1 a b c qw
  have am2 : Amb m.G.up p (fun a => a = p) H2 := ⟨⟨fun _ => rfl, fun a' z => ⟨.lst [.int a, .int b, .int c], by rw [z]; exact e2, noTbl_lst, ⟨fun _ z => (nomatch z), fun _ z => (nomatch z)⟩⟩⟩, fun _ => ⟨a, b, c, e2, wok⟩, am.ta⟩
  refine ⟨[.well], p, fun a => a = p, _, fun _ => False, rfl, .cons (.well rfl) .nil, am2, c1, fun d v H3 fr3 am3 rd q => ?_, fun _ _ _ _ _ _ _ z => z⟩
  obtain ⟨rfl, q⟩ := q
  cases rd
  have kp3 : ∀ a o, H1 a = some o → NoTbl o → H3 a = some o := fun a o e nt => by
    have e2' := fr.kp a o e (fun z => by rw [hw] at z; cases z) nt
    have hap : a ≠ p := fun z => by rw [z, hpn] at e; cases e
    exact fr3.kp a o e2' (fun _ => hap) nt
  have fr4 : FrC m.G m.wa H1 H3 := ⟨fun a o e _ nt => kp3 a o e nt, fun a e => fr.nn a (fr3.nn a e)⟩
  have am4 : Amb m.G m.wa (fun _ => False) H3 := ⟨⟨fun z => absurd (hw.symm.trans z) Bool.false_ne_true, fun a z => z.elim⟩, fun z => absurd (hw.symm.trans z) Bool.false_ne_true, am3.ta⟩
  exact kq (.bl true) (.bl true) env1 H3 (s1.trans (s1.rs.call fr4 am4)) (.inl (.bl _)) q.2
/-- the parts of a comprehension whose item is read otherwise -/
theorem comp_else {m : Am} {X : Cx} {k : Nat} {t : Tb} {N : List Str} {Ex : ExV → DEnv → Prop} {vs : List Nat} {T : IT} {ik : IK} {src cs : List IE} {ex : IE} {elt tg iter : Expr} {ifs : List Expr} {scope : Scope} {c : Nat} {p pos : Pos} (hx : SX m X k t Ex) (hN : X.N = N)
    (h : chkE t N (.comp vs T ik src cs (.lit .non)) X.env.scope X.fn (.ListComp (.Constant .none c p) [⟨tg, iter, ifs, 0⟩] scope pos) = true) (he : fnOf scope "" = false → Blk m X scope fun m X => DE m X t noEx ex elt) :
    DE m X t Ex (.comp vs T ik src cs ex) (.ListComp elt [⟨tg, iter, ifs, 0⟩] scope pos) := by
  have c0 := comp_parts hx hN h
  have h3 : fnOf scope "" = false := by
    unfold chkE at h
    split at h
    · rename_i heq
      cases heq
      split at h
      · simp only [Bool.and_eq_true] at h
        exact blkX_f h.1.1.1.1.1.1.1.1.2
      · cases h
    · cases h
  have q := de_comp (pos := pos) hx.g c0.pi c0.ok c0.ns c0.hg c0.ht (he h3) c0.hs
  rw [ownV_snd] at q
  exact PE.weak q fun σ H Q z => RdNL.of z
end SD

set_option Elab.async false
set_option linter.all false
set_option maxRecDepth 100000
set_option maxHeartbeats 4000000
namespace SD
open PySem PySem.Spec PyProof.Rows L2
/-! ## the law itself: return all([f(g(script, lap)) for lap in ..]) -/
def chkLaw (t : Tb) (N : List Str) (kk : Nat) (vs : List Nat) (T : IT) (ik : IK) (src : List IE) (xn yn : Str) (sc : Scope) : List Stmt → Bool
  | [.Return (some (.Call (.Name a _) [.ListComp (.Call (.Name x _) [.Call (.Name y _) (e :: es) [] _] [] _) [⟨tg, iter, ifs, 0⟩] scope pos] [] _)) _] =>
    decide (a = "all") && decide (x = xn) && decide (y = yn) && glB sc a && glB (relS scope sc) x && glB (relS scope sc) y && !(x == ("__debug__" : Str)) && !(y == ("__debug__" : Str)) &&
    chkE t N (.comp vs T ik src [] (.lit .non)) sc (fun _ => true) (.ListComp (.Constant .none 0 pos) [⟨tg, iter, ifs, 0⟩] scope pos) && chkL t N [.var 0, .var 1] (relS scope sc) (fnOf scope) (e :: es)
  | _ => false
theorem law_fn {G : Wd} {t : Tb} {k kk j1 j0 : Nat} {x qual xn yn w pn : Str} {st : Stmt} {f f0 f1 : Addr} {fd fd0 fd1 : FuncData} {N ps : List Str} {vs : List Nat} {T : IT} {ik : IK} {src : List IE} {C0 : List D → (Int → Int → Int → Prop) → Prop} {C1 C : Contract} (F : L2.Fun G.K x qual st f fd) (hS : C8.scC N [pn] (defScope st) = true) (TT : TX G t k) (no : ∀ c, t.own c = false) (hw : G.hw = false)
    (hc : chkLaw t N kk vs T ik src xn yn (defScope st) (defBody st) = true)
    (F1 : FnOk G.P G.w G.K G.mg G.base (CX G.P G.w) j1 f1 fd1 [w] (spC G.up [w] C1)) (F0 : FnOk G.P G.w G.K G.mg G.base (CX G.P G.w) j0 f0 fd0 ps (spN G ps C0))
    (l1 : j1 ≤ k) (l0 : j0 ≤ k) (m1 : G.mg xn = some (.ref f1)) (m0 : G.mg yn = some (.ref f0)) (k1 : PySem.W.keepIn G.K (.ref f1) = true) (k0 : PySem.W.keepIn G.K (.ref f0) = true) (b1 : Binds G.K fd1 [w] []) (b0 : Binds G.K fd0 ps [])
    (hk : (t.gd kk).C = CComp C0 C1) (hps : (t.gd kk).ps = ps)
    (hC : ∀ ds Qd Ed, C ds Qd Ed → ds.length = 1 → wpSs t noEx [.ret (.op .all_ [.comp vs T ik src [] (.call kk [.var 0, .var 1])])] (env0 N ds) (endK Qd)) :
    FnOk G.P G.w G.K G.mg G.base (CX G.P G.w) (k + 1) f fd [pn] (spC G [pn] C) := by
  have S := C8.fnScope_by hS
  obtain ⟨oc, od, kV, doc, pm, an, cdv, ct, osl, rfl, lk, hcd⟩ := F.ex
  refine fn_of lk hcd S (fun vs H Q E ⟨ds, wa, So, Qd, Ed, h1, h2, _⟩ => by rw [← h2.length, h1]) fun A outer s H vs0 Q E hr ⟨ds, wa, So, Qd, Ed, h1, h2, amb, hc0, kq, ke⟩ => ?_
  let X := cxOf (CX G.P G.w) G.P G.w G.K G.mg G.base N qual (defScope st) f cdv A outer s H E
  let m := amOf G wa So H
  have hx : SX m X k t noEx := by
    refine ⟨⟨rfl, rfl, rfl, rfl, rfl, S.nd, rfl, hr⟩, ⟨⟨_, takes_no, fun _ _ _ _ _ _ _ _ z => z⟩⟩, fun _ pins σ H' s' S' d v I _ z => z.elim, TT.hb, TT.gd, TT.gc, fun _ c hc => (by rw [no] at hc; cases hc), fun n hn => ?_, TT.gp, TT.gl⟩
    obtain ⟨v, u, a, b, c⟩ := TT.cn n hn
    exact ⟨v, u, a, b, c wa⟩
  have ds_ : DSs m X t noEx [.ret (.op .all_ [.comp vs T ik src [] (.call kk [.var 0, .var 1])])] (defBody st) := by
    unfold chkLaw at hc
    split at hc
    · rename_i a pa xx px yy py e es pq pr tg iter ifs scope pos pz pw heq
      simp only [Bool.and_eq_true, decide_eq_true_eq, Bool.not_eq_true'] at hc
      obtain ⟨⟨⟨⟨⟨⟨⟨⟨⟨rfl, rfl⟩, rfl⟩, g1⟩, g2⟩, g3⟩, d1⟩, d2⟩, hcomp⟩, hargs⟩ := hc
      rw [heq]
      have cmp := comp_else (ex := .call kk [.var 0, .var 1]) (elt := .Call (.Name xx px) [.Call (.Name yy py) (e :: es) [] pq] [] pr) hx rfl hcomp fun h3 D s H C cl fp =>
        de_comp2 (m := m.plus D) (hx.blk D s H scope _ fp h3).g hw F1 F0 l1 l0 m1 m0 k1 k0 b1 b0 (Gl.of rfl g2) (Gl.of rfl g3) d1 d2 hk hps (fun _ _ _ _ z => z) rfl (chkL_ok _ (hx.blk D s H scope _ fp h3) rfl hargs)
      have al : AL m X t noEx [.comp vs T ik src [] (.call kk [.var 0, .var 1])] [.ListComp (.Call (.Name xx px) [.Call (.Name yy py) (e :: es) [] pq] [] pr) [⟨tg, iter, ifs, 0⟩] scope pos] := ⟨cmp, rfl, trivial⟩
      have ha : ∀ (q1 q2 : Pos) (l : List Expr), argsOf (defScope st) .all_ (.Call (.Name "all" q1) l [] q2) = some l := fun q1 q2 l => if_pos ⟨rfl, g1⟩
      exact dss_cons (ds_ret (op_sound (sc := defScope st) hx.g rfl hx.hb (ha _ _ _) al (by simp)).v) dss_nil
    · cases hc
  refine ⟨_, ds_, env0 N ds, endK Qd, rs_start h2 amb, hC ds Qd Ed hc0 h1, ⟨fun σ' H' env' z q => ?_, fun d v σ' H' env' z rd q => ?_, fun _ _ _ _ z => z.elim, fun _ _ _ _ z => z.elim⟩⟩
  · exact kq .non .non H' z.rs.frc z.rs.amb0 .non q
  · exact kq d v H' z.rs.frc z.rs.amb0 (rd.mono Kp.refl (Sb.sub fun a q => .inl q)) q
/-- what the law is called with -/
theorem rds_ints {G : Wd} {wa : Addr} {H : Hp} {S : Addr → Prop} : ∀ ns : List Int, RDs G wa H S (ns.map D.int) (ns.map V.int)
  | [] => .nil
  | n :: ns => .cons (.int n) (rds_ints ns)
theorem sp_law {G : Wd} {C : Contract} {H : Hp} {a : Addr} {ns : List Int} {Q : VK} {E : XK} {pn : Str} (hw : G.hw = false) (hT : G.T = []) (hO : Only H) (h : SqL G.K H a (ns.map V.int))
    (hC : C [.rl (ns.map D.int)] (fun d => d = .bl true) fun _ => False) (hQ : ∀ H', Q (.bl true) H') : spC G [pn] C [.ref a] H Q E := by
  have rd : RD G a H (fun _ => False) (.rl (ns.map D.int)) (.ref a) := by
    rcases h with (h | ⟨o, h⟩) | h
    · rcases hO a with z | ⟨ob, xs, z⟩
      · rw [h] at z; cases z
      · rw [h] at z; cases z
    · exact .rl h (fun z => z) (rds_ints ns)
    · exact .krl h (rds_ints ns)
  refine ⟨_, a, fun _ => False, _, _, rfl, .cons rd .nil, ⟨⟨fun z => absurd (hw.symm.trans z) Bool.false_ne_true, fun _ z => z.elim⟩, fun z => absurd (hw.symm.trans z) Bool.false_ne_true, by rw [hT]; exact fun p hp => by cases hp⟩, hC, fun d v H' _ _ rd q => ?_, fun _ _ _ _ _ _ _ z => z.elim⟩
  subst q
  cases rd
  exact hQ H'
end SD

set_option Elab.async false
set_option linter.all false
set_option maxRecDepth 100000
namespace SD
open PySem L2
/-! ## words for the laws: what the wishes of the small language come to -/
/-- first o, then what is wished of its value -/
def wO {α : Type} (o : Option α) (k : α → Prop) : Prop := ∃ a, o = some a ∧ k a
structure Wit {α : Sort u} (k : α) : Type where mk ::
/-- twins whose continuation simp leaves alone till the first argument is done -/
def wOW {α : Type} (o : Option α) (k : α → Prop) (_w : Wit k := ⟨⟩) : Prop := wO o k
@[simp low] theorem wOW_rel {α : Type} {o : Option α} {k : α → Prop} {w} : wOW o k w = wO o k := rfl
def opWW (o : Op) (ds : List D) (k : D → Prop) (_w : Wit k := ⟨⟩) : Prop := opW o ds k
@[simp low] theorem opWW_rel {o : Op} {ds} {k : D → Prop} {w} : opWW o ds k w = opW o ds k := rfl
def forLW (step : D → DEnv → (DEnv → Prop) → Prop) (done : DEnv → Prop) (items : List D) (env : DEnv) (_w1 : Wit step := ⟨⟩) (_w2 : Wit done := ⟨⟩) : Prop := forL step done items env
@[simp low] theorem forLW_rel {step done items env w1 w2} : forLW step done items env w1 w2 = forL step done items env := rfl
def compLW (step : D → DEnv → (List D → DEnv → Prop) → Prop) (done : List D → DEnv → Prop) (items acc : List D) (env : DEnv) (_w1 : Wit step := ⟨⟩) (_w2 : Wit done := ⟨⟩) : Prop := compL step done items acc env
@[simp low] theorem compLW_rel {step done items acc env w1 w2} : compLW step done items acc env w1 w2 = compL step done items acc env := rfl
def dcompLW (step : D → DEnv → (Option (D × D) → DEnv → Prop) → Prop) (done : List (D × D) → DEnv → Prop) (tk : Bool) (items : List D) (acc : List (D × D)) (env : DEnv) (_w1 : Wit step := ⟨⟩) (_w2 : Wit done := ⟨⟩) : Prop := dcompL step done tk items acc env
@[simp low] theorem dcompLW_rel {step done tk items acc env w1 w2} : dcompLW step done tk items acc env w1 w2 = dcompL step done tk items acc env := rfl
@[simp ↓] theorem wO_some {α : Type} {a : α} {k : α → Prop} : wO (some a) k = k a := by simp [wO]
@[simp] theorem wO_none {α : Type} {k : α → Prop} : wO none k = False := by simp [wO]
@[simp] theorem wO_some' {α : Type} {a : α} {k : α → Prop} : wO (some a) k = k a := wO_some
def slotP (env : DEnv) (i : Nat) : Option (Bool × D) := (env[i]?).join
@[simp] theorem slotP_zero {x : Slt} {l : DEnv} : slotP (x :: l) 0 = x := by simp [slotP]
@[simp] theorem slotP_succ {x : Slt} {l : DEnv} {n : Nat} : slotP (x :: l) (n + 1) = slotP l n := by simp [slotP]
def slotD (env : DEnv) (i : Nat) : Option D := (slotP env i).map (·.2)
@[simp] theorem slotD_eq {env : DEnv} {i : Nat} : slotD env i = (slotP env i).map (·.2) := rfl
def slotO (env : DEnv) (i : Nat) : Option D := (slotP env i).bind fun p => if p.1 then some p.2 else none
@[simp] theorem slotO_eq {env : DEnv} {i : Nat} : slotO env i = (slotP env i).bind fun p => if p.1 then some p.2 else none := rfl
theorem slotP_iff {env : DEnv} {i : Nat} {b d} : slotP env i = some (b, d) ↔ env[i]? = some (some (b, d)) := by
  unfold slotP
  cases h : env[i]? with
  | none => simp
  | some x => simp
theorem ex_slot {env : DEnv} {i : Nat} {k : D → Prop} : (∃ b d, env[i]? = some (some (b, d)) ∧ k d) = wO (slotD env i) k := by
  apply propext
  simp only [wO, slotD, Option.map_eq_some_iff, Prod.exists]
  constructor
  · rintro ⟨b, d, h, q⟩; exact ⟨d, ⟨b, d, slotP_iff.mpr h, rfl⟩, q⟩
  · rintro ⟨d, ⟨b, d', h, rfl⟩, q⟩; exact ⟨b, d', slotP_iff.mp h, q⟩
theorem ex_slot0 {env : DEnv} {i : Nat} : (∃ b d, env[i]? = some (some (b, d))) = ((slotD env i).isSome = true) := by
  apply propext
  simp only [slotD, Option.isSome_map, Option.isSome_iff_exists, Prod.exists]
  constructor
  · rintro ⟨b, d, h⟩; exact ⟨b, d, slotP_iff.mpr h⟩
  · rintro ⟨b, d, h⟩; exact ⟨b, d, slotP_iff.mp h⟩
theorem ex_own {env : DEnv} {i : Nat} {k : D → Prop} : (∃ d, env[i]? = some (some (true, d)) ∧ k d) = wO (slotO env i) k := by
  apply propext
  simp only [wO, slotO, Option.bind_eq_some_iff, Prod.exists]
  constructor
  · rintro ⟨d, h, q⟩; exact ⟨d, ⟨true, d, slotP_iff.mpr h, rfl⟩, q⟩
  · rintro ⟨d, ⟨b, d', h, e⟩, q⟩
    cases b with
    | true => cases e; exact ⟨d, slotP_iff.mp h, q⟩
    | false => cases e
theorem ex_own0 {env : DEnv} {i : Nat} : (∃ d, env[i]? = some (some (true, d))) = ((slotO env i).isSome = true) := by
  have h := ex_own (env := env) (i := i) (k := fun _ => True)
  simp only [and_true] at h
  rw [h]
  apply propext
  simp [wO, Option.isSome_iff_exists]
def gOf : Bool × D → Option Nat
  | (false, .glb n) => some n
  | _ => none
@[simp] theorem gOf_glb {n} : gOf (false, .glb n) = some n := rfl
theorem ex_glb {env : DEnv} {i : Nat} {k : Nat → Prop} : (∃ n, env[i]? = some (some (false, .glb n)) ∧ k n) = wO ((slotP env i).bind gOf) k := by
  apply propext
  simp only [wO, Option.bind_eq_some_iff, Prod.exists]
  constructor
  · rintro ⟨n, h, q⟩; exact ⟨n, ⟨false, .glb n, slotP_iff.mpr h, rfl⟩, q⟩
  · rintro ⟨n, ⟨b, d, h, e⟩, q⟩
    cases b with
    | true => cases e
    | false => cases d <;> cases e; exact ⟨n, slotP_iff.mp h, q⟩
section
variable {t : Tb} {Ex : ExV → DEnv → Prop} {env : DEnv} {Q : D → DEnv → Prop} {Ql : List D → DEnv → Prop} {K : KS} {e c a b : IE} {es : List IE}
@[simp] theorem isBor_var {i} : isBor (.var i) = false := rfl
@[simp] theorem isBor_lit {d} : isBor (.lit d) = false := rfl
@[simp] theorem isBor_con {k} : isBor (.con k) = false := rfl
@[simp] theorem isBor_op {o l} : isBor (.op o l) = false := rfl
@[simp] theorem isBor_tup {l} : isBor (.tup l) = false := rfl
@[simp] theorem isBor_lst {l} : isBor (.lst l) = false := rfl
@[simp] theorem isBor_and {l} : isBor (.and l) = false := rfl
@[simp] theorem isBor_or {l} : isBor (.or l) = false := rfl
@[simp] theorem isBor_not {l} : isBor (.not l) = false := rfl
@[simp] theorem isBor_ite {a b c} : isBor (.ite a b c) = false := rfl
@[simp] theorem isBor_chain {o p a b c} : isBor (.chain o p a b c) = false := rfl
@[simp] theorem isBor_call {k l} : isBor (.call k l) = false := rfl
@[simp] theorem isBor_callv {k l} : isBor (.callv k l) = false := rfl
@[simp] theorem isBor_mut {o k l} : isBor (.mut o k l) = false := rfl
@[simp] theorem isBor_meth {o k l} : isBor (.meth o k l) = false := rfl
@[simp] theorem isBor_comp {a b c d e f} : isBor (.comp a b c d e f) = false := rfl
@[simp] theorem isBor_dcomp {a b c d e f g h} : isBor (.dcomp a b c d e f g h) = false := rfl
@[simp] theorem isBor_dnew {a} : isBor (.dnew a) = false := rfl
@[simp] theorem isBor_bot : isBor .bot = false := rfl
@[simp] theorem isBor_lam {c} : isBor (.lam c) = false := rfl
@[simp] theorem isBor_callk {a b c d} : isBor (.callk a b c d) = false := rfl
@[simp] theorem isBor_callc {a b c} : isBor (.callc a b c) = false := rfl
@[simp] theorem isBor_callp {a b} : isBor (.callp a b) = false := rfl
@[simp] theorem isBor_wget {a b} : isBor (.wget a b) = false := rfl
@[simp] theorem isBor_prop {a b c} : isBor (.prop a b c) = false := rfl
@[simp] theorem isBor_isc {a b} : isBor (.isc a b) = false := rfl
@[simp] theorem isBor_fld {a b c} : isBor (.fld a b c) = false := rfl
@[simp] theorem isBor_bor {i} : isBor (.bor i) = true := rfl
@[simp ↓] theorem wpL_nil : wpL t Ex [] env Ql = Ql [] env := rfl
theorem wpL_bor_0 {i} : wpL t Ex (.bor i :: es) env Ql = ((slotD env i).isSome = true ∧ wpL t Ex es env fun ds env' => wO (slotD env' i) fun d => Ql (d :: ds) env') := by
  rw [← ex_slot0]
  show ((∃ b d, env[i]? = some (some (b, d))) ∧ wpL t Ex es env fun ds env' => ∃ b d, env'[i]? = some (some (b, d)) ∧ Ql (d :: ds) env') = _
  simp only [ex_slot]
@[simp ↓] theorem wpL_bor {i} : wpL t Ex (.bor i :: es) env Ql = ((slotD env i).isSome = true ∧ wpL t Ex es env fun ds env' => wOW (slotD env' i) fun d => Ql (d :: ds) env') := wpL_bor_0
@[simp ↓] theorem wpL_var {i} : wpL t Ex ((.var i) :: es) env Ql = wpE t Ex (.var i) env fun d env1 => wpL t Ex es env1 fun ds env2 => Ql (d :: ds) env2 := rfl
@[simp ↓] theorem wpL_lit {d : D} : wpL t Ex ((.lit d) :: es) env Ql = wpE t Ex (.lit d) env fun d env1 => wpL t Ex es env1 fun ds env2 => Ql (d :: ds) env2 := rfl
@[simp ↓] theorem wpL_con {k} : wpL t Ex ((.con k) :: es) env Ql = wpE t Ex (.con k) env fun d env1 => wpL t Ex es env1 fun ds env2 => Ql (d :: ds) env2 := rfl
@[simp ↓] theorem wpL_op {o l} : wpL t Ex ((.op o l) :: es) env Ql = wpE t Ex (.op o l) env fun d env1 => wpL t Ex es env1 fun ds env2 => Ql (d :: ds) env2 := rfl
@[simp ↓] theorem wpL_tup {l} : wpL t Ex ((.tup l) :: es) env Ql = wpE t Ex (.tup l) env fun d env1 => wpL t Ex es env1 fun ds env2 => Ql (d :: ds) env2 := rfl
@[simp ↓] theorem wpL_lst {l} : wpL t Ex ((.lst l) :: es) env Ql = wpE t Ex (.lst l) env fun d env1 => wpL t Ex es env1 fun ds env2 => Ql (d :: ds) env2 := rfl
@[simp ↓] theorem wpL_and {l} : wpL t Ex ((.and l) :: es) env Ql = wpE t Ex (.and l) env fun d env1 => wpL t Ex es env1 fun ds env2 => Ql (d :: ds) env2 := rfl
@[simp ↓] theorem wpL_or {l} : wpL t Ex ((.or l) :: es) env Ql = wpE t Ex (.or l) env fun d env1 => wpL t Ex es env1 fun ds env2 => Ql (d :: ds) env2 := rfl
@[simp ↓] theorem wpL_not  : wpL t Ex ((.not a) :: es) env Ql = wpE t Ex (.not a) env fun d env1 => wpL t Ex es env1 fun ds env2 => Ql (d :: ds) env2 := rfl
@[simp ↓] theorem wpL_ite  : wpL t Ex ((.ite c a b) :: es) env Ql = wpE t Ex (.ite c a b) env fun d env1 => wpL t Ex es env1 fun ds env2 => Ql (d :: ds) env2 := rfl
@[simp ↓] theorem wpL_chain {o p} : wpL t Ex ((.chain o p a b c) :: es) env Ql = wpE t Ex (.chain o p a b c) env fun d env1 => wpL t Ex es env1 fun ds env2 => Ql (d :: ds) env2 := rfl
@[simp ↓] theorem wpL_call {k l} : wpL t Ex ((.call k l) :: es) env Ql = wpE t Ex (.call k l) env fun d env1 => wpL t Ex es env1 fun ds env2 => Ql (d :: ds) env2 := rfl
@[simp ↓] theorem wpL_callv {k l} : wpL t Ex ((.callv k l) :: es) env Ql = wpE t Ex (.callv k l) env fun d env1 => wpL t Ex es env1 fun ds env2 => Ql (d :: ds) env2 := rfl
@[simp ↓] theorem wpL_mut {o i l} : wpL t Ex ((.mut o i l) :: es) env Ql = wpE t Ex (.mut o i l) env fun d env1 => wpL t Ex es env1 fun ds env2 => Ql (d :: ds) env2 := rfl
@[simp ↓] theorem wpL_meth {o l} : wpL t Ex ((.meth o a l) :: es) env Ql = wpE t Ex (.meth o a l) env fun d env1 => wpL t Ex es env1 fun ds env2 => Ql (d :: ds) env2 := rfl
@[simp ↓] theorem wpL_comp {vs tg ik src cs} : wpL t Ex ((.comp vs tg ik src cs e) :: es) env Ql = wpE t Ex (.comp vs tg ik src cs e) env fun d env1 => wpL t Ex es env1 fun ds env2 => Ql (d :: ds) env2 := rfl
@[simp ↓] theorem wpL_dcomp {tk vs tg ik src cs} : wpL t Ex ((.dcomp tk vs tg ik src cs a b) :: es) env Ql = wpE t Ex (.dcomp tk vs tg ik src cs a b) env fun d env1 => wpL t Ex es env1 fun ds env2 => Ql (d :: ds) env2 := rfl
@[simp ↓] theorem wpL_dnew {tk} : wpL t Ex ((.dnew tk) :: es) env Ql = wpE t Ex (.dnew tk) env fun d env1 => wpL t Ex es env1 fun ds env2 => Ql (d :: ds) env2 := rfl
@[simp ↓] theorem wpL_bot : wpL t Ex (.bot :: es) env Ql = wpE t Ex .bot env fun d env1 => wpL t Ex es env1 fun ds env2 => Ql (d :: ds) env2 := rfl
@[simp ↓] theorem wpL_lam {n} : wpL t Ex ((.lam n) :: es) env Ql = wpE t Ex (.lam n) env fun d env1 => wpL t Ex es env1 fun ds env2 => Ql (d :: ds) env2 := rfl
@[simp ↓] theorem wpL_callk {k ks p l} : wpL t Ex ((.callk k ks p l) :: es) env Ql = wpE t Ex (.callk k ks p l) env fun d env1 => wpL t Ex es env1 fun ds env2 => Ql (d :: ds) env2 := rfl
@[simp ↓] theorem wpL_callc {k l n} : wpL t Ex ((.callc k l n) :: es) env Ql = wpE t Ex (.callc k l n) env fun d env1 => wpL t Ex es env1 fun ds env2 => Ql (d :: ds) env2 := rfl
@[simp ↓] theorem wpL_callp {k l} : wpL t Ex ((.callp k l) :: es) env Ql = wpE t Ex (.callp k l) env fun d env1 => wpL t Ex es env1 fun ds env2 => Ql (d :: ds) env2 := rfl
@[simp ↓] theorem wpL_prop {c n} : wpL t Ex ((.prop c n a) :: es) env Ql = wpE t Ex (.prop c n a) env fun d env1 => wpL t Ex es env1 fun ds env2 => Ql (d :: ds) env2 := rfl
@[simp ↓] theorem wpL_isc {c} : wpL t Ex ((.isc c a) :: es) env Ql = wpE t Ex (.isc c a) env fun d env1 => wpL t Ex es env1 fun ds env2 => Ql (d :: ds) env2 := rfl
@[simp ↓] theorem wpL_fld {c i} : wpL t Ex ((.fld c i a) :: es) env Ql = wpE t Ex (.fld c i a) env fun d env1 => wpL t Ex es env1 fun ds env2 => Ql (d :: ds) env2 := rfl
@[simp ↓] theorem wpL_wget {i n} : wpL t Ex ((.wget i n) :: es) env Ql = wpE t Ex (.wget i n) env fun d env1 => wpL t Ex es env1 fun ds env2 => Ql (d :: ds) env2 := rfl
theorem wpE_var_0 {i} : wpE t Ex (.var i) env Q = wO (slotP env i) fun p => if p.1 = true then Q p.2 (env.set i (some (false, p.2))) else Q p.2 env := by
  apply propext
  show varW i env Q ↔ _
  unfold varW slotP wO
  constructor
  · intro h
    split at h
    · rename_i d hd; exact ⟨(false, d), by rw [hd]; rfl, by simpa using h⟩
    · rename_i d hd; exact ⟨(true, d), by rw [hd]; rfl, by simpa using h⟩
    · exact h.elim
  · rintro ⟨⟨b, d⟩, h, q⟩
    have h' := slotP_iff.mp h
    rw [h']
    cases b <;> simpa using q
@[simp ↓] theorem wpE_var {i} : wpE t Ex (.var i) env Q = wOW (slotP env i) fun p => if p.1 = true then Q p.2 (env.set i (some (false, p.2))) else Q p.2 env := wpE_var_0
@[simp ↓] theorem wpE_lit {d} : wpE t Ex (.lit d) env Q = Q d env := rfl
@[simp ↓] theorem wpE_con {k} : wpE t Ex (.con k) env Q = Q (t.con k) env := rfl
@[simp ↓] theorem wpE_op {o l} : wpE t Ex (.op o l) env Q = wpL t Ex l env fun ds env' => opWW o ds fun d => Q d env' := rfl
@[simp ↓] theorem wpE_tup {l} : wpE t Ex (.tup l) env Q = wpL t Ex l env fun ds env' => okT ds ∧ Q (.tup ds) env' := rfl
@[simp ↓] theorem wpE_lst {l} : wpE t Ex (.lst l) env Q = wpL t Ex l env fun ds env' => okT ds ∧ Q (.lst ds) env' := rfl
@[simp ↓] theorem wpE_and {l} : wpE t Ex (.and l) env Q = wpAnd t Ex l env Q := rfl
@[simp ↓] theorem wpE_or {l} : wpE t Ex (.or l) env Q = wpOr t Ex l env Q := rfl
@[simp ↓] theorem wpAnd_one : wpAnd t Ex [e] env Q = wpE t Ex e env Q := rfl
@[simp ↓] theorem wpAnd_cons : wpAnd t Ex (e :: a :: es) env Q = wpE t Ex e env fun d env' => wOW (dTruth d) fun q => if q = true then wpAnd t Ex (a :: es) env' Q else Q d env' := rfl
@[simp ↓] theorem wpOr_one : wpOr t Ex [e] env Q = wpE t Ex e env Q := rfl
@[simp ↓] theorem wpOr_cons : wpOr t Ex (e :: a :: es) env Q = wpE t Ex e env fun d env' => wOW (dTruth d) fun q => if q = true then Q d env' else wpOr t Ex (a :: es) env' Q := rfl
@[simp ↓] theorem wpE_not : wpE t Ex (.not a) env Q = wpE t Ex a env fun d env' => wOW (dTruth d) fun b => Q (.bl (!b)) env' := rfl
@[simp ↓] theorem wpE_ite : wpE t Ex (.ite c a b) env Q = wpE t Ex c env fun d env' => wOW (dTruth d) fun q => if q = true then wpE t Ex a env' Q else wpE t Ex b env' Q := rfl
@[simp ↓] theorem wpE_chain {o p} : wpE t Ex (.chain o p a b c) env Q = wpE t Ex a env fun x env1 => wpE t Ex b env1 fun y env2 => opWW o [x, y] fun r => wOW (unB r) fun q => if q = true then wpE t Ex c env2 (fun z env3 => opWW p [y, z] fun r2 => Q r2 env3) else Q (.bl false) env2 := rfl
/-- a call: the promise of the def -/
def callW (t : Tb) (Ex : ExV → DEnv → Prop) (k : Nat) (l : List IE) (ds : List D) (env : DEnv) (Q : D → DEnv → Prop) : Prop :=
  ds.length = (t.gd k).ps.length ∧ borOk l ds = true ∧ (t.gd k).C ds (fun d => (l.any isBor = true → flatD d = true) ∧ Q d env) (fun x => (l.any isBor = true → x.fs.all flatD = true) ∧ Ex x env)
@[simp ↓] theorem wpE_call {k l} : wpE t Ex (.call k l) env Q = wpL t Ex l env fun ds env' => callW t Ex k l ds env' Q := rfl
theorem wpE_callv_0 {i l} : wpE t Ex (.callv i l) env Q = wO (slotP env i) fun p => p.1 = false ∧ vOk t p.2 ∧ wpL t Ex l env fun ds env' => callvW t p.2 l ds (fun d => Q d env') fun x => Ex x env' := by
  apply propext
  simp only [wO, Prod.exists]
  constructor
  · rintro ⟨d0, h, q⟩; exact ⟨false, d0, slotP_iff.mpr h, rfl, q⟩
  · rintro ⟨b, d0, h, rfl, q⟩; exact ⟨d0, slotP_iff.mp h, q⟩
@[simp ↓] theorem wpE_callv {i l} : wpE t Ex (.callv i l) env Q = wOW (slotP env i) fun p => p.1 = false ∧ vOk t p.2 ∧ wpL t Ex l env fun ds env' => callvW t p.2 l ds (fun d => Q d env') fun x => Ex x env' := wpE_callv_0
@[simp] theorem vOk_glb {n} : vOk t (.glb n) = (t.hs n = true) := rfl
@[simp] theorem vOk_clo {c ws} : vOk t (.clo c ws) = (t.hcc c = true) := rfl
theorem callvW_glb {n l} {ds : List D} {P : D → Prop} {E : ExV → Prop} : callvW t (.glb n) l ds P E = (ds.length = (t.gd n).ps.length ∧ borOk l ds = true ∧ (t.gd n).C ds (fun d => (l.any isBor = true → flatD d = true) ∧ P d) (fun x => (l.any isBor = true → x.fs.all flatD = true) ∧ E x)) := rfl
theorem callvW_clo {c ws l} {ds : List D} {P : D → Prop} {E : ExV → Prop} : callvW t (.clo c ws) l ds P E = (ds.length = (t.cc c).ps.length ∧ l.any isBor = false ∧ ds.all (fun d => !isClo d) = true ∧ (t.cc c).C (ds ++ ws) P E) := rfl
@[simp ↓] theorem wpE_bot : wpE t Ex .bot env Q = False := rfl
@[simp ↓] theorem wpE_lam {c} : wpE t Ex (.lam c) env Q = Q (.own c) env := rfl
@[simp ↓] theorem wpE_callk {k ks p l} : wpE t Ex (.callk k ks p l) env Q = wpL t Ex l env fun ds env' => ds.length = (t.gd k).ps.length ∧ l.any isBor = false ∧ borOk l ds = true ∧ (t.gd k).C (permD p ds) (fun d => Q d env') (fun x => Ex x env') := rfl
@[simp ↓] theorem wpE_callp {k l} : wpE t Ex (.callp k l) env Q = wpL t Ex l env fun ds env' => ds.length = (t.gd k).ps.length ∧ l.any isBor = false ∧ ds.all (fun d => !isOwnD d) = true ∧ (t.gd k).C ds (fun d => Q d env') (fun x => Ex x env') := rfl
@[simp ↓] theorem wpE_callc {k l c} : wpE t Ex (.callc k l c) env Q = wpL t Ex l env fun ds env' => wOW (splitOwn c ds) fun ds0 => wOW (slotsD env' (t.cc c).js) fun ws => ds.length = (t.gd k).ps.length ∧ l.any isBor = false ∧ (t.gd k).C (ds0 ++ [.clo c ws]) (fun d => Q d env') (fun x => Ex x env') := rfl
@[simp] theorem splitOwn_last {c} : splitOwn c [.own c] = some [] := by simp [splitOwn]
@[simp] theorem splitOwn_cons {c} {x y : D} {ds : List D} : splitOwn c (x :: y :: ds) = if isClo x = true then none else (splitOwn c (y :: ds)).map (x :: ·) := by cases x <;> rfl
@[simp] theorem slotsD_nil : slotsD env [] = some [] := rfl
theorem slotsD_cons {j js} : slotsD env (j :: js) = (slotP env j).bind fun p => if p.1 = false ∧ isClo p.2 = false then (slotsD env js).map (p.2 :: ·) else none := by
  have e : slotsD env (j :: js) = match env[j]? with | some (some (false, d)) => if isClo d then none else (slotsD env js).map (d :: ·) | _ => none := rfl
  rw [e]
  unfold slotP
  cases h : env[j]? with
  | none => rfl
  | some x =>
    cases x with
    | none => rfl
    | some q =>
      obtain ⟨b, d⟩ := q
      cases b
      · cases hc : isClo d <;> simp [hc]
      · rfl
theorem wpE_mut_0 {o i l} : wpE t Ex (.mut o i l) env Q = (wO (slotO env i) (fun d => tyN d = some (mvTy o)) ∧ wpL t Ex l env fun ds env' => okT ds ∧ wO (slotO env' i) fun d => mutW o d ds fun r d' => Q r (env'.set i (some (true, d')))) := by
  rw [← ex_own]
  simp only [← ex_own]; rfl
@[simp ↓] theorem wpE_mut {o i l} : wpE t Ex (.mut o i l) env Q = (wOW (slotO env i) (fun d => tyN d = some (mvTy o)) ∧ wpL t Ex l env fun ds env' => okT ds ∧ wOW (slotO env' i) fun d => mutW o d ds fun r d' => Q r (env'.set i (some (true, d')))) := wpE_mut_0
theorem wpE_methb_0 {o i l} : wpE t Ex (.meth o (.bor i) l) env Q = (wO (slotD env i) (fun d => tyM d = some (mTy o)) ∧ wpL t Ex l env fun ds env' => wO (slotD env' i) fun d => opW o (d :: ds) fun r => Q r env') := by
  rw [← ex_slot]
  simp only [← ex_slot]; rfl
@[simp ↓] theorem wpE_methb {o i l} : wpE t Ex (.meth o (.bor i) l) env Q = (wOW (slotD env i) (fun d => tyM d = some (mTy o)) ∧ wpL t Ex l env fun ds env' => wOW (slotD env' i) fun d => opWW o (d :: ds) fun r => Q r env') := wpE_methb_0
@[simp ↓] theorem wpE_meth_var {o l} {i} : wpE t Ex (.meth o (.var i) l) env Q = wpE t Ex (.var i) env fun d env1 => tyM d = some (mTy o) ∧ wpL t Ex l env1 fun ds env2 => opWW o (d :: ds) fun r => Q r env2 := rfl
@[simp ↓] theorem wpE_meth_lit {o l} {d : D} : wpE t Ex (.meth o (.lit d) l) env Q = wpE t Ex (.lit d) env fun d env1 => tyM d = some (mTy o) ∧ wpL t Ex l env1 fun ds env2 => opWW o (d :: ds) fun r => Q r env2 := rfl
@[simp ↓] theorem wpE_meth_con {o l} {k} : wpE t Ex (.meth o (.con k) l) env Q = wpE t Ex (.con k) env fun d env1 => tyM d = some (mTy o) ∧ wpL t Ex l env1 fun ds env2 => opWW o (d :: ds) fun r => Q r env2 := rfl
@[simp ↓] theorem wpE_meth_op {o l} {o2 l2} : wpE t Ex (.meth o (.op o2 l2) l) env Q = wpE t Ex (.op o2 l2) env fun d env1 => tyM d = some (mTy o) ∧ wpL t Ex l env1 fun ds env2 => opWW o (d :: ds) fun r => Q r env2 := rfl
@[simp ↓] theorem wpE_meth_tup {o l} {l2} : wpE t Ex (.meth o (.tup l2) l) env Q = wpE t Ex (.tup l2) env fun d env1 => tyM d = some (mTy o) ∧ wpL t Ex l env1 fun ds env2 => opWW o (d :: ds) fun r => Q r env2 := rfl
@[simp ↓] theorem wpE_meth_lst {o l} {l2} : wpE t Ex (.meth o (.lst l2) l) env Q = wpE t Ex (.lst l2) env fun d env1 => tyM d = some (mTy o) ∧ wpL t Ex l env1 fun ds env2 => opWW o (d :: ds) fun r => Q r env2 := rfl
@[simp ↓] theorem wpE_meth_call {o l} {k l2} : wpE t Ex (.meth o (.call k l2) l) env Q = wpE t Ex (.call k l2) env fun d env1 => tyM d = some (mTy o) ∧ wpL t Ex l env1 fun ds env2 => opWW o (d :: ds) fun r => Q r env2 := rfl
@[simp ↓] theorem wpE_meth_meth {o l} {o2 l2} : wpE t Ex (.meth o (.meth o2 a l2) l) env Q = wpE t Ex (.meth o2 a l2) env fun d env1 => tyM d = some (mTy o) ∧ wpL t Ex l env1 fun ds env2 => opWW o (d :: ds) fun r => Q r env2 := rfl
@[simp ↓] theorem wpE_comp {vs tg ik src cs} : wpE t Ex (.comp vs tg ik src cs e) env Q = wpL t Ex src env fun ds env1 => wOW (iterW ik ds) fun items => noOwn env1 vs = true ∧
      compLW (fun x en K => wOW (asgT tg x (wipeE en vs)) fun en1 => wpCs t noEx cs en1 fun b en2 => if b = true then wpE t noEx e en2 (fun y en3 => noOwn en3 vs = true ∧ isClo y = false ∧ K [y] (backE en en3 vs)) else noOwn en2 vs = true ∧ K [] (backE en en2 vs)) (fun acc en => Q (.lst acc) en) items [] env1 := rfl
@[simp ↓] theorem wpE_dcomp {tk vs tg ik src cs a b} : wpE t Ex (.dcomp tk vs tg ik src cs a b) env Q = wpL t Ex src env fun ds env1 => wOW (iterW ik ds) fun items => noOwn env1 vs = true ∧
      dcompLW (fun x en K => wOW (asgT tg x (wipeE en vs)) fun en1 => wpCs t noEx cs en1 fun q en2 => if q = true then wpE t noEx a en2 (fun y en3 => wpE t noEx b en3 fun z en4 => noOwn en4 vs = true ∧ isClo z = false ∧ K (some (y, z)) (backE en en4 vs)) else noOwn en2 vs = true ∧ K none (backE en en2 vs)) (fun acc en => Q (.dct tk acc) en) tk items [] env1 := rfl
@[simp ↓] theorem wpE_dnew {tk} : wpE t Ex (.dnew tk) env Q = Q (.dct tk []) env := rfl
@[simp ↓] theorem wpE_prop {c n} : wpE t Ex (.prop c n a) env Q = wpE t Ex a env fun d env' => (∃ fs, d = .obj c fs) ∧ (t.gd n).C [d] (fun r => Q r env') (fun _ => False) := rfl
@[simp ↓] theorem wpE_isc {c} : wpE t Ex (.isc c a) env Q = wpE t Ex a env fun d env' => (∃ fs, d = .obj c fs) ∧ Q (.bl true) env' := rfl
@[simp ↓] theorem wpE_fld {c i} : wpE t Ex (.fld c i a) env Q = wpE t Ex a env fun d env' => ∃ fs y, d = .obj c fs ∧ fs[i]? = some y ∧ Q y env' := rfl
theorem wpE_wget_0 {i c} : wpE t Ex (.wget i c) env Q = (slotP env i = some (false, .well) ∧ c < 3 ∧ ∀ w : Int, 0 ≤ w → (c = 1 → w < 4294967296) → Q (.int w) env) := by
  rw [slotP_iff]; rfl
@[simp ↓] theorem wpE_wget {i c} : wpE t Ex (.wget i c) env Q = (slotP env i = some (false, .well) ∧ c < 3 ∧ ∀ w : Int, 0 ≤ w → (c = 1 → w < 4294967296) → Q (.int w) env) := wpE_wget_0
@[simp ↓] theorem wpCs_nil {P : Bool → DEnv → Prop} : wpCs t Ex [] env P = P true env := rfl
@[simp ↓] theorem wpCs_cons {P : Bool → DEnv → Prop} : wpCs t Ex (e :: es) env P = wpE t Ex e env fun d env' => wOW (dTruth d) fun q => if q = true then wpCs t Ex es env' P else P false env' := rfl
/-! statements -/
variable {s : IS} {ss x y : List IS}
@[simp ↓] theorem wpSs_nil : wpSs t Ex [] env K = K.nx env := rfl
@[simp ↓] theorem wpSs_cons : wpSs t Ex (s :: ss) env K = wpS t Ex s env { nx := fun env' => wpSs t Ex ss env' K, rt := K.rt, bk := K.bk, ct := K.ct } := rfl
@[simp ↓] theorem wpS_set {i} : wpS t Ex (.set i e) env K = wpE t Ex e env fun d env' => isClo d = false ∧ K.nx (env'.set i (some (false, d))) := rfl
@[simp ↓] theorem wpS_own {i} : wpS t Ex (.own i e) env K = wpE t Ex e env fun d env' => i < env'.length ∧ K.nx (env'.set i (some (true, d))) := rfl
@[simp ↓] theorem wpS_asg {T} : wpS t Ex (.asg T e) env K = wpE t Ex e env fun d env' => isClo d = false ∧ wOW (asgT T d env') fun env2 => K.nx env2 := rfl
@[simp ↓] theorem wpS_asgS {ts} : wpS t Ex (.asgS ts e) env K = wpE t Ex e env fun d env' => isClo d = false ∧ wOW (seqD d) fun ds => ds.length = ts.length ∧ storesW t Ex ts ds env' K.nx := rfl
@[simp ↓] theorem wpS_par {l} : wpS t Ex (.par l) env K = wpL t Ex (l.map (·.2.2)) env fun ds env' => (∀ x ∈ l, x.1 < env'.length) ∧ wOW (storeP l ds env') fun env2 => K.nx env2 := rfl
theorem wpS_put_0 {i kx} : wpS t Ex (.put i kx e) env K = wpE t Ex e env fun d env1 => isClo d = false ∧ (slotO env1 i).isSome = true ∧ wpE t Ex kx env1 fun kd env2 => wO (slotO env2 i) fun od => putW od kd d fun od' => K.nx (env2.set i (some (true, od'))) := by
  simp only [← ex_own0, ← ex_own]; rfl
@[simp ↓] theorem wpS_put {i kx} : wpS t Ex (.put i kx e) env K = wpE t Ex e env fun d env1 => isClo d = false ∧ (slotO env1 i).isSome = true ∧ wpE t Ex kx env1 fun kd env2 => wOW (slotO env2 i) fun od => putW od kd d fun od' => K.nx (env2.set i (some (true, od'))) := wpS_put_0
@[simp ↓] theorem wpS_snap {i} : wpS t Ex (.snap i e) env K = wpE t Ex e (frzE env) fun d env' => env' = frzE env ∧ flatL d = true ∧ K.nx (env.set i (some (false, d))) := rfl
@[simp] theorem frzE_nil : frzE [] = [] := rfl
@[simp] theorem frzE_cons {s : Slt} {en : DEnv} : frzE (s :: en) = frzS s :: frzE en := rfl
@[simp] theorem frzS_lst {l} : frzS (some (true, .lst l)) = some (false, .lst l) := rfl
@[simp] theorem frzS_dct {tk l} : frzS (some (true, .dct tk l)) = none := rfl
@[simp] theorem frzS_none : frzS none = none := rfl
@[simp] theorem frzS_pl {d} : frzS (some (false, d)) = some (false, d) := rfl
@[simp] theorem frzS_own {s : Slt} : isOwn (some (frzS s)) = false := by
  unfold frzS
  split
  · rfl
  · rfl
  · rename_i n1 n2
    cases s with
    | none => rfl
    | some p =>
      obtain ⟨b, d⟩ := p
      cases b with
      | false => rfl
      | true => exact absurd rfl (n2 d)
@[simp] theorem flatL_lst {l} : flatL (.lst l) = l.all flatD := rfl
@[simp ↓] theorem wpS_expr : wpS t Ex (.expr e) env K = wpE t Ex e env fun _ env' => K.nx env' := rfl
@[simp ↓] theorem wpS_ite : wpS t Ex (.ite c x y) env K = wpE t Ex c env fun d env' => wOW (dTruth d) fun q => if q = true then wpSs t Ex x env' K else wpSs t Ex y env' K := rfl
@[simp ↓] theorem wpS_for {T ik src} : wpS t Ex (.for_ T ik src x) env K = wpL t Ex src env fun ds env1 => wOW (iterW ik ds) fun items =>
      forLW (fun x' en N => wOW (asgT T x' en) fun en1 => wpSs t Ex x en1 { nx := N, ct := N, bk := K.nx, rt := K.rt }) K.nx items env1 := rfl
theorem wpS_while : wpS t Ex (.while_ c x) env K = ∃ I : Nat → DEnv → Prop, (∃ n, I n env) ∧ ∀ n en, I n en → wpE t Ex c en fun d en' => wOW (dTruth d) fun q =>
      if q = true then wpSs t Ex x en' { nx := fun e => ∃ n', n' < n ∧ I n' e, ct := fun e => ∃ n', n' < n ∧ I n' e, bk := K.nx, rt := K.rt } else K.nx en' := rfl
@[simp ↓] theorem wpS_ret : wpS t Ex (.ret e) env K = wpE t Ex e env fun d env' => isClo d = false ∧ K.rt d env' := rfl
theorem wpS_wset_0 {i c} : wpS t Ex (.wset i c e) env K = wpE t Ex e env fun d env' => slotP env' i = some (false, .well) ∧ c < 3 ∧ ∃ w : Int, d = .int w ∧ 0 ≤ w ∧ (c = 1 → w < 4294967296) ∧ K.nx env' := by
  simp only [slotP_iff]; rfl
@[simp ↓] theorem wpS_wset {i c} : wpS t Ex (.wset i c e) env K = wpE t Ex e env fun d env' => slotP env' i = some (false, .well) ∧ c < 3 ∧ ∃ w : Int, d = .int w ∧ 0 ≤ w ∧ (c = 1 → w < 4294967296) ∧ K.nx env' := wpS_wset_0
theorem wpS_wdm_0 {i c j} : wpS t Ex (.wdm i c j e) env K = wpE t Ex e env fun d env' => slotP env' i = some (false, .well) ∧ c < 3 ∧ ∃ (w : Int) (v : D), d = .ktup [.int w, v] ∧ 0 ≤ w ∧ (c = 1 → w < 4294967296) ∧ K.nx (env'.set j (some (false, v))) := by
  simp only [slotP_iff]; rfl
@[simp ↓] theorem wpS_wdm {i c j} : wpS t Ex (.wdm i c j e) env K = wpE t Ex e env fun d env' => slotP env' i = some (false, .well) ∧ c < 3 ∧ ∃ (w : Int) (v : D), d = .ktup [.int w, v] ∧ 0 ≤ w ∧ (c = 1 → w < 4294967296) ∧ K.nx (env'.set j (some (false, v))) := wpS_wdm_0
@[simp ↓] theorem wpS_retN : wpS t Ex .retN env K = K.rt .non env := rfl
@[simp ↓] theorem wpS_pass : wpS t Ex .pass env K = K.nx env := rfl
@[simp ↓] theorem wpS_doc : wpS t Ex .doc env K = K.nx env := rfl
@[simp ↓] theorem wpS_brk : wpS t Ex .brk env K = K.bk env := rfl
@[simp ↓] theorem wpS_cont : wpS t Ex .cont env K = K.ct env := rfl
@[simp ↓] theorem wpS_ndef {i n} : wpS t Ex (.ndef i n) env K = K.nx (env.set i (some (false, .own n))) := rfl
@[simp ↓] theorem wpS_forl {T k l n} : wpS t Ex (.forl T k l n x) env K = wpL t Ex [.callc k (l ++ [.lam n]) n] env fun ds env1 => wOW (iterW .it ds) fun items =>
      forLW (fun x' en N => wOW (asgT T x' en) fun en1 => wpSs t Ex x en1 { nx := N, ct := N, bk := K.nx, rt := K.rt }) K.nx items env1 := rfl
@[simp ↓] theorem wpS_never : wpS t Ex .never env K = False := rfl
@[simp] theorem endK_nx {P : D → Prop} : (endK P).nx env = P .non := rfl
@[simp] theorem endK_rt {P : D → Prop} {d} : (endK P).rt d env = P d := rfl
@[simp] theorem storesW_nil {P : DEnv → Prop} : storesW t Ex [] [] env P = P env := rfl
@[simp ↓] theorem storesW_nm {P : DEnv → Prop} {i ts} {d : D} {ds} : storesW t Ex ((i, none) :: ts) (d :: ds) env P = storesW t Ex ts ds (env.set i (some (false, d))) P := rfl
theorem storesW_put_0 {P : DEnv → Prop} {i kx ts} {d : D} {ds} : storesW t Ex ((i, some kx) :: ts) (d :: ds) env P = ((slotO env i).isSome = true ∧ wpE t Ex kx env fun kd env2 => wO (slotO env2 i) fun od => putW od kd d fun od' => storesW t Ex ts ds (env2.set i (some (true, od'))) P) := by
  simp only [← ex_own0, ← ex_own]; rfl
@[simp ↓] theorem storesW_put {P : DEnv → Prop} {i kx ts} {d : D} {ds} : storesW t Ex ((i, some kx) :: ts) (d :: ds) env P = ((slotO env i).isSome = true ∧ wpE t Ex kx env fun kd env2 => wOW (slotO env2 i) fun od => putW od kd d fun od' => storesW t Ex ts ds (env2.set i (some (true, od'))) P) := storesW_put_0
@[simp] theorem storeP_nil : storeP [] [] env = some env := rfl
@[simp] theorem storeP_cons {i b ir is} {d : D} {ds} : storeP ((i, b, ir) :: is) (d :: ds) env = storeP is ds (env.set i (some (b, d))) := rfl
@[simp] theorem asgT_nm {i d} : asgT (.nm i) d env = some (env.set i (some (false, d))) := rfl
@[simp] theorem asgT_tup {l ds} : asgT (.tp l) (.tup ds) env = asgTs l ds env := rfl
@[simp] theorem asgT_lst {l ds} : asgT (.tp l) (.lst ds) env = asgTs l ds env := rfl
@[simp] theorem asgT_ktup {l ds} : asgT (.tp l) (.ktup ds) env = asgTs l ds env := rfl
@[simp] theorem asgTs_nil : asgTs [] [] env = some env := rfl
@[simp] theorem asgTs_cons {T : IT} {Ts : List IT} {d : D} {ds : List D} : asgTs (T :: Ts) (d :: ds) env = (asgT T d env).bind fun env1 => asgTs Ts ds env1 := rfl
@[simp] theorem wipeE_nil : wipeE env [] = env := rfl
@[simp] theorem wipeE_cons {v vs} : wipeE env (v :: vs) = (wipeE env vs).set v none := rfl
@[simp] theorem backE_nil {new : DEnv} : backE env new [] = new := rfl
@[simp] theorem backE_cons {new : DEnv} {v vs} : backE env new (v :: vs) = (backE env new vs).set v (env.getD v none) := rfl
@[simp] theorem noOwn_nil : noOwn env [] = true := rfl
@[simp] theorem noOwn_cons {v vs} : noOwn env (v :: vs) = (!isOwn env[v]? && noOwn env vs) := rfl
@[simp] theorem isOwn_f {d} : isOwn (some (some (false, d))) = false := rfl
@[simp] theorem isOwn_n : isOwn (some none) = false := rfl
@[simp] theorem borOk_nil {ds} : borOk [] ds = true := by cases ds <;> rfl
@[simp] theorem borOk_cons {d : D} {ds} : borOk (e :: es) (d :: ds) = (!(isBor e && isDc d) && !isClo d && borOk es ds) := rfl
end
section
@[simp] theorem dTruth_bl {b} : dTruth (.bl b) = some b := rfl
@[simp] theorem unB_bl {b} : unB (.bl b) = some b := rfl
@[simp] theorem isClo_non : isClo .non = false := rfl
@[simp] theorem isClo_bl {b} : isClo (.bl b) = false := rfl
@[simp] theorem isClo_int {b} : isClo (.int b) = false := rfl
@[simp] theorem isClo_str {b} : isClo (.str b) = false := rfl
@[simp] theorem isClo_tup {b} : isClo (.tup b) = false := rfl
@[simp] theorem isClo_lst {b} : isClo (.lst b) = false := rfl
@[simp] theorem isClo_dct {a b} : isClo (.dct a b) = false := rfl
@[simp] theorem isClo_ktup {b} : isClo (.ktup b) = false := rfl
@[simp] theorem isClo_glb {b} : isClo (.glb b) = false := rfl
@[simp] theorem isClo_rl {b} : isClo (.rl b) = false := rfl
@[simp] theorem isClo_well : isClo .well = false := rfl
@[simp] theorem isOwnD_clo {c ws} : isOwnD (.clo c ws) = false := rfl
@[simp] theorem isOwnD_glb {c} : isOwnD (.glb c) = false := rfl
theorem isOwnD_of {d : D} (h : isClo d = false) : isOwnD d = false := by cases d <;> first | rfl | cases h
@[simp] theorem okT_nil : okT [] := rfl
@[simp] theorem okT_cons {d : D} {ds} : okT (d :: ds) ↔ (isClo d = false ∧ okT ds) := by simp [okT]
@[simp] theorem isDc_non : isDc .non = false := rfl
@[simp] theorem isDc_bl {b} : isDc (.bl b) = false := rfl
@[simp] theorem isDc_int {b} : isDc (.int b) = false := rfl
@[simp] theorem isDc_str {b} : isDc (.str b) = false := rfl
@[simp] theorem isDc_tup {b} : isDc (.tup b) = false := rfl
@[simp] theorem isDc_lst {b} : isDc (.lst b) = false := rfl
@[simp] theorem isDc_glb {b} : isDc (.glb b) = false := rfl
end
/-! operators -/
section
variable {Q : D → Prop} {a b d x c : D} {i j : Int} {l r : List D} {s u : List Nat}
@[simp ↓] theorem opW_add_int : opW .add [.int i, .int j] Q = Q (.int (i + j)) := rfl
@[simp ↓] theorem opW_add_str : opW .add [.str s, .str u] Q = (Sz (s.length + u.length) ∧ Q (.str (s ++ u))) := rfl
@[simp ↓] theorem opW_add_lst : opW .add [.lst l, .lst r] Q = (Sz (l.length + r.length) ∧ Q (.lst (l ++ r))) := rfl
@[simp ↓] theorem opW_add_tup : opW .add [.tup l, .tup r] Q = (Sz (l.length + r.length) ∧ Q (.tup (l ++ r))) := rfl
@[simp ↓] theorem opW_sub : opW .sub [.int i, .int j] Q = Q (.int (i - j)) := rfl
@[simp ↓] theorem opW_mul_int : opW .mul [.int i, .int j] Q = (CMul i j ∧ Q (.int (i * j))) := rfl
@[simp ↓] theorem opW_mul_lst : opW .mul [.lst l, .int j] Q = ((-(2 ^ 63) ≤ j ∧ j < 2 ^ 63 ∧ Sz (l.length * j.toNat)) ∧ Q (.lst (List.replicate j.toNat l).flatten)) := rfl
@[simp ↓] theorem opW_mul_tup : opW .mul [.tup l, .int j] Q = ((l ≠ [] ∧ 2 ≤ j ∧ j ≤ 1000 ∧ l.length ≤ 1000) ∧ Q (.tup (List.replicate j.toNat l).flatten)) := rfl
@[simp ↓] theorem opW_fdiv : opW .fdiv [.int i, .int j] Q = ((0 < j ∧ j < 1073741824) ∧ Q (.int (i / j))) := rfl
@[simp ↓] theorem opW_mod : opW .mod [.int i, .int j] Q = (0 < j ∧ Q (.int (i % j))) := rfl
@[simp ↓] theorem opW_pow : opW .pow [.int i, .int j] Q = (CPow i j ∧ Q (.int (i ^ j.toNat))) := rfl
@[simp ↓] theorem opW_neg : opW .neg [.int i] Q = Q (.int (-i)) := rfl
@[simp ↓] theorem opW_eq : opW .eq [a, b] Q = (okD a 20 = true ∧ okD b 20 = true ∧ Q (.bl (deq a b))) := rfl
@[simp ↓] theorem opW_ne : opW .ne [a, b] Q = (okD a 20 = true ∧ okD b 20 = true ∧ Q (.bl (!deq a b))) := rfl
theorem opW_lt : opW .lt [a, b] Q = (ordB a b = true ∧ Q (.bl (dlt a b))) := rfl
theorem opW_gt : opW .gt [a, b] Q = (ordB a b = true ∧ Q (.bl (dlt b a))) := rfl
theorem opW_le : opW .le [a, b] Q = (ordB a b = true ∧ Q (.bl (!dlt b a))) := rfl
theorem opW_ge : opW .ge [a, b] Q = (ordB a b = true ∧ Q (.bl (!dlt a b))) := rfl
theorem opW_ltI_0 : opW .lt [.int i, .int j] Q = Q (.bl (decide (i < j))) := by simp [opW_lt, ordB, okD, cmpB, dlt]
@[simp ↓] theorem opW_ltI : opW .lt [.int i, .int j] Q = Q (.bl (decide (i < j))) := opW_ltI_0
theorem opW_leI_0 : opW .le [.int i, .int j] Q = Q (.bl (decide (i ≤ j))) := by
  have h : (!decide (j < i)) = decide (i ≤ j) := by rw [← decide_not]; exact decide_eq_decide.mpr (by omega)
  simp [opW_le, ordB, okD, cmpB, dlt, h]
@[simp ↓] theorem opW_leI : opW .le [.int i, .int j] Q = Q (.bl (decide (i ≤ j))) := opW_leI_0
theorem opW_gtI_0 : opW .gt [.int i, .int j] Q = Q (.bl (decide (j < i))) := by simp [opW_gt, ordB, okD, cmpB, dlt]
@[simp ↓] theorem opW_gtI : opW .gt [.int i, .int j] Q = Q (.bl (decide (j < i))) := opW_gtI_0
theorem opW_geI_0 : opW .ge [.int i, .int j] Q = Q (.bl (decide (j ≤ i))) := by
  have h : (!decide (i < j)) = decide (j ≤ i) := by rw [← decide_not]; exact decide_eq_decide.mpr (by omega)
  simp [opW_ge, ordB, okD, cmpB, dlt, h]
@[simp ↓] theorem opW_geI : opW .ge [.int i, .int j] Q = Q (.bl (decide (j ≤ i))) := opW_geI_0
@[simp ↓] theorem opW_isN : opW .isN [d] Q = (isClo d = false ∧ Q (.bl (isNon d))) := rfl
@[simp ↓] theorem opW_isnN : opW .isnN [d] Q = (isClo d = false ∧ Q (.bl (!isNon d))) := rfl
@[simp ↓] theorem opW_isB {p q : Bool} : opW .isB [.bl p, .bl q] Q = Q (.bl (decide (p = q))) := rfl
@[simp ↓] theorem opW_isnB {p q : Bool} : opW .isnB [.bl p, .bl q] Q = Q (.bl (!decide (p = q))) := rfl
@[simp ↓] theorem opW_inn : opW .inn [x, c] Q = wOW (isIn x c) fun b => Q (.bl b) := rfl
@[simp ↓] theorem opW_nin : opW .nin [x, c] Q = wOW (isIn x c) fun b => Q (.bl (!b)) := rfl
@[simp ↓] theorem opW_len_lst : opW .len [.lst l] Q = Q (.int l.length) := rfl
@[simp ↓] theorem opW_len_tup : opW .len [.tup l] Q = Q (.int l.length) := rfl
@[simp ↓] theorem opW_len_rl : opW .len [.rl l] Q = Q (.int l.length) := rfl
@[simp ↓] theorem opW_len_ktup : opW .len [.ktup l] Q = Q (.int l.length) := rfl
@[simp ↓] theorem opW_len_str : opW .len [.str s] Q = (Sz s.length ∧ Q (.int s.length)) := rfl
@[simp ↓] theorem opW_len_dct {tk l} : opW .len [.dct tk l] Q = Q (.int l.length) := rfl
@[simp ↓] theorem opW_abs : opW .abs [.int i] Q = Q (.int (if i < 0 then -i else i)) := rfl
@[simp ↓] theorem opW_int : opW .int_ [.int i] Q = Q (.int i) := rfl
@[simp ↓] theorem opW_bool {b : Bool} : opW .bool_ [.bl b] Q = Q (.bl b) := rfl
@[simp ↓] theorem opW_isi {T : Ty} : opW (.isi T) [d] Q = ((tyN d).isSome = true ∧ isDT d = false ∧ Q (.bl (isTy T d))) := rfl
@[simp ↓] theorem opW_list : opW .list_ [d] Q = wOW (seqOf d) fun l => Q (.lst l) := rfl
@[simp ↓] theorem opW_tuple_lst : opW .tuple_ [.lst l] Q = Q (.tup l) := rfl
@[simp ↓] theorem opW_tuple_tup : opW .tuple_ [.tup l] Q = Q (.tup l) := rfl
@[simp ↓] theorem opW_sum : opW .sum [.lst l] Q = wOW (allSome (l.map unI)) fun ns => Q (.int ns.sum) := rfl
@[simp ↓] theorem opW_max2 : opW .max2 [.int i, .int j] Q = Q (.int (if j > i then j else i)) := rfl
@[simp ↓] theorem opW_min2 : opW .min2 [.int i, .int j] Q = Q (.int (if j < i then j else i)) := rfl
@[simp ↓] theorem opW_all : opW .all_ [.lst l] Q = wOW (allSome (l.map unB)) fun bs => Q (.bl (bs.all id)) := rfl
@[simp ↓] theorem opW_any : opW .any_ [.lst l] Q = wOW (allSome (l.map unB)) fun bs => Q (.bl (bs.any id)) := rfl
@[simp ↓] theorem opW_idx_lst : opW .idx [.lst l, .int i] Q = wOW (atI l i) Q := rfl
@[simp ↓] theorem opW_idx_tup : opW .idx [.tup l, .int i] Q = wOW (atI l i) Q := rfl
@[simp ↓] theorem opW_idx_rl : opW .idx [.rl l, .int i] Q = wOW (atI l i) Q := rfl
@[simp ↓] theorem opW_idx_ktup : opW .idx [.ktup l, .int i] Q = wOW (atI l i) Q := rfl
@[simp ↓] theorem opW_idx_str : opW .idx [.str s, .int i] Q = (Sz s.length ∧ wOW (atI s i) fun c => Q (.str [c])) := rfl
theorem opW_idx_dct_0 {tk l} : opW .idx [.dct tk l, x] Q = ∃ d, dLook (.dct tk l) x = some (some d) ∧ Q d := by cases x <;> rfl
theorem opW_idx_dct {tk l} : opW .idx [.dct tk l, x] Q = ∃ d, dLook (.dct tk l) x = some (some d) ∧ Q d := opW_idx_dct_0
@[simp ↓] theorem opW_sl {lo hi : Bool} : opW (.sl lo hi) (d :: r) Q = wSl lo hi (d :: r) Q := rfl
@[simp ↓] theorem wSl_ff : wSl false false [d] Q = slW d none none Q := rfl
@[simp ↓] theorem wSl_tf : wSl true false [d, .int i] Q = slW d (some i) none Q := rfl
@[simp ↓] theorem wSl_ft : wSl false true [d, .int i] Q = slW d none (some i) Q := rfl
@[simp ↓] theorem wSl_tt : wSl true true [d, .int i, .int j] Q = slW d (some i) (some j) Q := rfl
@[simp ↓] theorem slW_rl {lo hi} : slW (.rl l) lo hi Q = Q (.lst (dCut l lo hi)) := rfl
@[simp ↓] theorem slW_lst {lo hi} : slW (.lst l) lo hi Q = Q (.lst (dCut l lo hi)) := rfl
@[simp ↓] theorem slW_tup {lo hi} : slW (.tup l) lo hi Q = Q (.tup (dCut l lo hi)) := rfl
@[simp ↓] theorem slW_str {lo hi} : slW (.str s) lo hi Q = (Sz s.length ∧ Q (.str (dCut s lo hi))) := rfl
theorem opW_index : opW .index [.lst l, x] Q = (flatK x = true ∧ l.all flatK = true ∧ ∃ j, l.findIdx? (fun z => deq z x) = some j ∧ Q (.int (j : Nat))) := rfl
theorem opW_split : opW .split [.str s, .str u] Q = ((u ≠ [] ∧ Sz (s.length + 2)) ∧ Q (.lst ((PySem.Txt.split ⟨s.toArray⟩ ⟨u.toArray⟩).map fun s => .str s.cps.toList))) := rfl
@[simp ↓] theorem opW_get1 {tk l} : opW .get1 [.dct tk l, x] Q = wOW (dLook (.dct tk l) x) fun o => Q (o.getD .non) := rfl
@[simp ↓] theorem opW_get2 {tk l} : opW .get2 [.dct tk l, x, d] Q = (noX d = true ∧ wOW (dLook (.dct tk l) x) fun o => Q (o.getD d)) := rfl
@[simp ↓] theorem opW_divmod : opW .divmod [.int i, .int j] Q = ((0 < j ∧ j < 1073741824) ∧ Q (.ktup [.int (i / j), .int (i % j)])) := rfl
@[simp ↓] theorem opW_sorted : opW .sorted [d] Q = wOW (seqOf d) fun l => (∀ a ∈ l, ∀ b ∈ l, ordT a b = true) ∧ okDs l 8 = true ∧ fstOk l ∧ Sz l.length ∧ Q (.lst (dsort l)) := rfl
@[simp ↓] theorem opW_dict_lst : opW .dict_ [.lst l] Q = wOW (pairsL l) fun ps => (∀ p ∈ ps, (toK p.1).isSome = true) ∧ Q (.dct false (putAll [] ps)) := rfl
@[simp ↓] theorem opW_dict_tup : opW .dict_ [.tup l] Q = wOW (pairsL l) fun ps => (∀ p ∈ ps, (toK p.1).isSome = true) ∧ Sz l.length ∧ Q (.dct false (putAll [] ps)) := rfl
@[simp ↓] theorem opW_dict_dct {l} : opW .dict_ [.dct false l] Q = Q (.dct false l) := rfl
@[simp] theorem isIn_lst : isIn x (.lst l) = if okD x 20 && okDs l 20 then some (l.any fun z => deq z x) else none := rfl
@[simp] theorem isIn_tup : isIn x (.tup l) = if flatK x && l.all flatK then some (l.any fun z => deq z x) else none := rfl
@[simp] theorem isIn_ktup : isIn x (.ktup l) = if flatK x && l.all flatK then some (l.any fun z => deq z x) else none := rfl
@[simp] theorem isIn_sign {c} : isIn (.str [c]) (.str s) = some (decide (c ∈ s)) := rfl
@[simp] theorem isIn_dct {tk l} : isIn x (.dct tk l) = (dLook (.dct tk l) x).map (·.isSome) := rfl
@[simp] theorem seqOf_lst : seqOf (.lst l) = some l := rfl
@[simp] theorem seqOf_tup : seqOf (.tup l) = some l := rfl
@[simp] theorem seqOf_dct {tk l} : seqOf (.dct tk l) = some (l.map (·.1)) := rfl
@[simp] theorem seqD_tup : seqD (.tup l) = some l := rfl
@[simp] theorem seqD_lst : seqD (.lst l) = some l := rfl
@[simp] theorem seqD_ktup : seqD (.ktup l) = some l := rfl
@[simp] theorem iterW_lst : iterW .it [.lst l] = some l := rfl
@[simp] theorem iterW_tup : iterW .it [.tup l] = some l := rfl
@[simp] theorem iterW_ktup : iterW .it [.ktup l] = some l := rfl
@[simp] theorem iterW_str : iterW .it [.str s] = some (s.map fun c => .str [c]) := rfl
@[simp] theorem iterW_dct {tk l} : iterW .it [.dct tk l] = some (l.map (·.1)) := rfl
@[simp] theorem iterW_vals {l} : iterW .vals [.dct false l] = some (l.map (·.2)) := rfl
@[simp] theorem iterW_items {l} : iterW .items [.dct false l] = some (l.map fun p => .ktup [p.1, p.2]) := rfl
@[simp] theorem iterW_enum_tup : iterW .enum [.tup l] = some (l.zipIdx.map fun p => .ktup [.int p.2, p.1]) := rfl
@[simp] theorem iterW_enum_lst : iterW .enum [.lst l] = some (l.zipIdx.map fun p => .ktup [.int p.2, p.1]) := rfl
@[simp] theorem iterW_zip_lst : iterW .zip [.lst l, .lst r] = some ((l.zip r).map fun p => .ktup [p.1, p.2]) := rfl
@[simp] theorem iterW_zip_tup : iterW .zip [.tup l, .tup r] = some ((l.zip r).map fun p => .ktup [p.1, p.2]) := rfl
@[simp] theorem iterW_rev : iterW .rev [.lst l] = some l.reverse := rfl
theorem iterW_range : iterW .range [.int i] = if -(2 ^ 62) ≤ i ∧ i < 2 ^ 62 then some ((List.range i.toNat).map fun (k : Nat) => .int (k : Int)) else none := rfl
theorem iterW_range2 : iterW .range [.int i, .int j] = if -(2 ^ 62) ≤ i ∧ i < 2 ^ 62 ∧ -(2 ^ 62) ≤ j ∧ j < 2 ^ 62 then some ((List.range (j - i).toNat).map fun (k : Nat) => .int (i + (k : Int))) else none := rfl
@[simp] theorem mutW_append {P : D → D → Prop} : mutW .append (.lst l) [d] P = (l.length < 16777216 ∧ P .non (.lst (l ++ [d]))) := rfl
@[simp] theorem mutW_extend {P : D → D → Prop} : mutW .extend (.lst l) [.lst r] P = (Sz (l.length + r.length) ∧ P .non (.lst (l ++ r))) := rfl
@[simp] theorem tyM_lst : tyM (.lst l) = some "list" := rfl
@[simp] theorem tyM_dct {tk l} : tyM (.dct tk l) = some "dict" := rfl
@[simp] theorem tyM_str : tyM (.str s) = some "str" := rfl
@[simp] theorem tyM_tup : tyM (.tup l) = if soft l = true then none else some "tuple" := rfl
theorem opW_mulS {x : List Nat} {k : Int} : opW .mul [.str x, .int k] Q = ((x.length ≤ 16 ∧ 1 ≤ k ∧ k ≤ 1000) ∧ Q (.str (List.replicate k.toNat x).flatten)) := rfl
@[simp ↓] theorem opW_lvals {l : List (D × D)} : opW .lvals [.dct false l] Q = Q (.lst (l.map (·.2))) := rfl
@[simp ↓] theorem opW_tvals {l : List (D × D)} : opW .tvals [.dct false l] Q = Q (.tup (l.map (·.2))) := rfl
@[simp ↓] theorem opW_sll {lo hi : Bool} : opW (.sll lo hi) (.lst l :: r) Q = wSl lo hi (.lst l :: r) Q := by
  show (isLs (.lst l) = true ∧ wSl lo hi (.lst l :: r) Q) = _
  simp [isLs]
theorem opW_sitems {l : List (D × D)} : opW .sitems [.dct false l] Q = ((∀ p ∈ l, isStrD p.1 = true) ∧ okDs (l.map pairD) 8 = true ∧ (∀ a ∈ l.map pairD, ∀ b ∈ l.map pairD, ordT a b = true) ∧ fstOk (l.map pairD) ∧ Q (.lst (dsort (l.map pairD)))) := rfl
theorem opW_sset : opW .sset [.lst l] Q = ∃ ns : List Int, l = ns.map .int ∧ ns.length < 63 ∧ ∀ ms : List Int, ms.Pairwise (· < ·) → (∀ k, k ∈ ms ↔ k ∈ ns) → Q (.lst (ms.map .int)) := rfl
theorem opW_count {i : Int} : opW .count [.tup l, .int i] Q = ∃ ns : List Int, l = ns.map .int ∧ Q (.int (ns.count i : Nat)) := rfl
@[simp] theorem tyN_lst : tyN (.lst l) = some "list" := rfl
@[simp] theorem tyN_dct {tk l} : tyN (.dct tk l) = some "dict" := rfl
@[simp] theorem tyN_str : tyN (.str s) = some "str" := rfl
@[simp] theorem tyN_tup : tyN (.tup l) = some "tuple" := rfl
@[simp] theorem tyN_int : tyN (.int i) = some "int" := rfl
@[simp] theorem tyN_non : tyN .non = some "NoneType" := rfl
@[simp] theorem tyN_bl {b} : tyN (.bl b) = some "bool" := rfl
@[simp] theorem mvTy_append : mvTy .append = "list" := rfl
@[simp] theorem mvTy_extend : mvTy .extend = "list" := rfl
@[simp] theorem mvTy_pop0 : mvTy .pop0 = "list" := rfl
@[simp] theorem mvTy_pop1 : mvTy .pop1 = "list" := rfl
@[simp] theorem mvTy_insert : mvTy .insert = "list" := rfl
@[simp] theorem mTy_get1 : mTy .get1 = "dict" := rfl
@[simp] theorem mTy_get2 : mTy .get2 = "dict" := rfl
@[simp] theorem mTy_split : mTy .split = "str" := rfl
@[simp] theorem mTy_join : mTy .join = "str" := rfl
@[simp] theorem mTy_index : mTy .index = "list" := rfl
@[simp] theorem mTy_starts : mTy .starts = "str" := rfl
@[simp] theorem isNon_non : isNon .non = true := rfl
@[simp] theorem isNon_int : isNon (.int i) = false := rfl
@[simp] theorem isNon_str : isNon (.str s) = false := rfl
@[simp] theorem isNon_tup : isNon (.tup l) = false := rfl
@[simp] theorem isNon_lst : isNon (.lst l) = false := rfl
@[simp] theorem isNon_bl {b} : isNon (.bl b) = false := rfl
end
/-! loops -/
theorem forL_inv {step : D → DEnv → (DEnv → Prop) → Prop} {done : DEnv → Prop} (I : Nat → DEnv → Prop) : ∀ (items : List D) (env : DEnv) (n : Nat), I n env →
    (∀ i x en K, items[i]? = some x → I (n + i) en → (∀ en', I (n + i + 1) en' → K en') → step x en K) → (∀ en, I (n + items.length) en → done en) → forL step done items env
  | [], env, n, h0, _, hd => hd env h0
  | x :: xs, env, n, h0, hs, hd => hs 0 x env _ rfl h0 fun en' h' => forL_inv I xs en' (n + 1) h' (fun i y en K hi hI hK => hs (i + 1) y en K (by simpa using hi) (by rw [show n + (i + 1) = n + 1 + i by omega]; exact hI) fun e he => hK e (by rw [show n + 1 + i + 1 = n + (i + 1) + 1 by omega]; exact he)) fun en h => hd en (by rw [List.length_cons, show n + (xs.length + 1) = n + 1 + xs.length by omega]; exact h)
theorem compL_inv {step : D → DEnv → (List D → DEnv → Prop) → Prop} {done : List D → DEnv → Prop} (I : Nat → List D → DEnv → Prop) : ∀ (items acc : List D) (env : DEnv) (n : Nat), I n acc env →
    (∀ i x ac en (K : List D → DEnv → Prop), items[i]? = some x → I (n + i) ac en → (∀ add en', (ac ++ add).length ≤ 16777216 → I (n + i + 1) (ac ++ add) en' → K add en') → step x en K) → (∀ ac en, I (n + items.length) ac en → done ac en) → compL step done items acc env
  | [], acc, env, n, h0, _, hd => hd acc env h0
  | x :: xs, acc, env, n, h0, hs, hd => hs 0 x acc env _ rfl h0 fun add e hl hI => ⟨hl, compL_inv I xs (acc ++ add) e (n + 1) hI (fun i y ac en K hi hI' hK =>
      hs (i + 1) y ac en K (by simpa using hi) (by rw [show n + (i + 1) = n + 1 + i by omega]; exact hI') fun add e h1 h2 => hK add e h1 (by rw [show n + 1 + i + 1 = n + (i + 1) + 1 by omega]; exact h2)) fun ac en h => hd ac en (by rw [List.length_cons, show n + (xs.length + 1) = n + 1 + xs.length by omega]; exact h)⟩
/-- a comprehension whose turns give what f says -/
theorem compL_map {step : D → DEnv → (List D → DEnv → Prop) → Prop} {done : List D → DEnv → Prop} {env : DEnv} (f : D → List D) : ∀ (items acc : List D), (∀ x ∈ items, ∀ K : List D → DEnv → Prop, K (f x) env → step x env K) → (acc ++ items.flatMap f).length ≤ 16777216 → done (acc ++ items.flatMap f) env → compL step done items acc env
  | [], acc, _, _, hd => by
    have h : done acc env := by simpa using hd
    exact h
  | x :: xs, acc, hs, hl, hd => by
    refine hs x List.mem_cons_self _ ⟨?_, ?_⟩
    · simp only [List.flatMap_cons, List.length_append] at hl ⊢; omega
    · refine compL_map f xs (acc ++ f x) (fun y hy => hs y (List.mem_cons_of_mem _ hy)) (by simpa [List.append_assoc] using hl) (by simpa [List.append_assoc] using hd)
theorem flat_one {α β : Type} (g : α → β) : ∀ l : List α, l.flatMap (fun x => [g x]) = l.map g
  | [] => rfl
  | x :: l => by rw [List.flatMap_cons, flat_one g l]; rfl
theorem flat_if {α : Type} (p : α → Bool) : ∀ l : List α, l.flatMap (fun x => if p x = true then [x] else []) = l.filter p
  | [] => rfl
  | x :: l => by
    rw [List.flatMap_cons, flat_if p l]
    cases h : p x <;> simp [h]
theorem compL_map1 {step : D → DEnv → (List D → DEnv → Prop) → Prop} {done : List D → DEnv → Prop} {env : DEnv} (g : D → D) (items : List D) (hs : ∀ x ∈ items, ∀ K : List D → DEnv → Prop, K [g x] env → step x env K) (hl : items.length ≤ 16777216) (hd : done (items.map g) env) : compL step done items [] env :=
  compL_map (fun x => [g x]) items [] hs (by rw [flat_one]; simpa using hl) (by rw [flat_one]; simpa using hd)
theorem compL_filter {step : D → DEnv → (List D → DEnv → Prop) → Prop} {done : List D → DEnv → Prop} {env : DEnv} (p : D → Bool) (items : List D) (hs : ∀ x ∈ items, ∀ K : List D → DEnv → Prop, K (if p x = true then [x] else []) env → step x env K) (hl : items.length ≤ 16777216) (hd : done (items.filter p) env) : compL step done items [] env :=
  compL_map (fun x => if p x = true then [x] else []) items [] hs (by rw [flat_if]; have := List.length_filter_le p items; simp; omega) (by rw [flat_if]; simpa using hd)
theorem allSome_map {α : Type} (f : D → Option α) (g : D → α) : ∀ l : List D, (∀ x ∈ l, f x = some (g x)) → allSome (l.map f) = some (l.map g)
  | [], _ => rfl
  | x :: l, h => by
    rw [List.map_cons, h x List.mem_cons_self]
    show (allSome (l.map f)).map _ = _
    rw [allSome_map f g l fun y hy => h y (List.mem_cons_of_mem _ hy)]
    rfl
end SD

set_option Elab.async false
set_option linter.all false
set_option maxRecDepth 100000
set_option maxHeartbeats 4000000
namespace SD
open PySem PySem.Spec PyProof.Rows L2
/-! ## what the top leaves -/
/-- the def x of the module, with its text -/
def DefAt (K : PySem.W.Frag) (x : Str) (st : Stmt) : Prop := ∃ (f : Addr) (fd : FuncData), PySem.W.nsIn K mainGlobals x = some (some (.ref f)) ∧ L2.Fun K x x st f fd
theorem def_at {K : PySem.W.Frag} {x : Str} {st : Stmt} {f : Addr} {oc : Value} {od an : Option Addr} {osl : Array (Option Value)} {kV doc pm cdv ct : Value} (a : PySem.W.nsIn K mainGlobals x = some (some (.ref f)))
    (l : K.lookup f = some ⟨oc, od, .func (PySem.W.fnOf x x (defArgs st) (defBody st) (defScope st) .none kV doc pm an cdv ct), osl⟩) (c : PySem.W.codeIn K cdv x = true) (k : PySem.W.keepIn K (.ref f) = true) : DefAt K x st := ⟨f, _, a, L2.fun_mk l c k⟩
/-- a constant of the module that is an int, a text -/
def IntAt (K : PySem.W.Frag) (x : Str) (i : Int) : Prop := ∃ t, PySem.W.nsIn K mainGlobals x = some (some (.int i t))
def StrAt (K : PySem.W.Frag) (x : Str) (s : Str) : Prop := ∃ t, PySem.W.nsIn K mainGlobals x = some (some (.str s t))
theorem int_at {K : PySem.W.Frag} {x : Str} {i : Int} {t : Tok} (a : PySem.W.nsIn K mainGlobals x = some (some (.int i t))) : IntAt K x i := ⟨t, a⟩
theorem str_at {K : PySem.W.Frag} {x : Str} {s : Str} {t : Tok} (a : PySem.W.nsIn K mainGlobals x = some (some (.str s t))) : StrAt K x s := ⟨t, a⟩
/-- a tuple of texts of the top -/
def txtB (ys : List Str) (us : List Value) : Bool := match ys, us with
  | [], [] => true
  | y :: ys, .str z _ :: us => decide (y = z) && txtB ys us
  | _, _ => false
def TxtAt (K : PySem.W.Frag) (x : Str) (ys : List Str) : Prop := ∃ a, PySem.W.nsIn K mainGlobals x = some (some (.ref a)) ∧ SD.KT K a (ys.map V.str)
theorem txtB_ok : ∀ {ys : List Str} {us : List Value}, txtB ys us = true → Vals (ys.map V.str) us
  | [], [], _ => .nil
  | y :: ys, u :: us, h => by
    cases u <;> first | (simp [txtB] at h; done) | skip
    rename_i z tk
    simp only [txtB, Bool.and_eq_true, decide_eq_true_eq] at h
    obtain ⟨rfl, h⟩ := h
    exact .cons ⟨tk, rfl⟩ (txtB_ok h)
  | [], _ :: _, h => by simp [txtB] at h
  | _ :: _, [], h => by simp [txtB] at h
theorem txt_at {K : PySem.W.Frag} {x : Str} {ys : List Str} {a : Addr} {o : Obj} {its : Array Value} {n : Nat} (h : PySem.W.nsIn K mainGlobals x = some (some (.ref a))) (l : K.lookup a = some o) (c : o.cls = .type "tuple") (d : o.dict = none) (e : o.data = .seq its n) (z : decide (its.size ≤ 1000) = true) (t : txtB ys its.toList = true) : TxtAt K x ys :=
  ⟨a, h, o, its, n, l, c, d, e, by rw [sizeLine_eq]; have := of_decide_eq_true z; omega, txtB_ok t⟩
end SD

set_option Elab.async false
set_option linter.all false
set_option maxRecDepth 100000
set_option maxHeartbeats 4000000
namespace SD
open PySem L2
/-! ## the values' own functions (values.py) -/
/-- a value that any function may be handed -/
def Pl : D → Bool
  | .non => true | .bl _ => true | .int _ => true | .str x => x.all (· < 0x110000) && decide (x.length ≤ 16777216) | .tup _ => true | .lst _ => true | .dct false _ => true
  | _ => false
theorem Pl.ty {d : D} (h : Pl d = true) : (tyN d).isSome = true ∧ isDT d = false := by
  cases d <;> first | (cases h; done) | (exact ⟨rfl, rfl⟩) | skip
  rename_i tk l
  cases tk <;> first | (cases h; done) | exact ⟨rfl, rfl⟩
theorem Pl.clo {d : D} (h : Pl d = true) : isClo d = false := by
  cases d <;> first | (cases h; done) | rfl
theorem Pl.str {x : List Nat} (h : Pl (.str x) = true) : x.all (· < 0x110000) = true ∧ x.length ≤ 16777216 := by
  simpa [Pl] using h
def optB : D → Bool
  | .non => true | .int _ => true
  | _ => false
theorem optB_or {d : D} (h : optB d = true) : d = .non ∨ ∃ a, d = .int a := by
  cases d <;> first | (cases h; done) | exact .inl rfl | exact .inr ⟨_, rfl⟩
theorem ite_bl {P : D → Prop} {b c : Bool} {p : Prop} [Decidable p] (h : P (.bl (if p then b else c))) : if p then P (.bl b) else P (.bl c) := by
  split <;> simp_all
/-! is_whole -/
def i_is_whole : List IS := [.ret (.and [.op (.isi .int) [.bor 0], .not (.op (.isi .bool) [.bor 0])])]
def isWh : D → Bool
  | .int _ => true
  | _ => false
theorem isWh_eq (d : D) : isWh d = (isTy .int d && !isTy .bool d) := by cases d <;> rfl
def C_is_whole : Contract
  | [d], Q, _ => Pl d = true ∧ Q (.bl (isWh d))
  | _, _, _ => False
def g_is_whole : GD := { name := "is_whole", ps := ["value"], lvl := 1, C := C_is_whole }
theorem is_whole_ok {t : Tb} {Ex Ex'} {d : D} {Q : D → Prop} (h : C_is_whole [d] Q Ex) : wpSs t Ex' i_is_whole [some (false, d)] (endK Q) := by
  obtain ⟨hd, q⟩ := h
  simp -dsimp [i_is_whole, Pl.ty hd]
  rw [isWh_eq] at q
  cases h : isTy .int d <;> cases h2 : isTy .bool d <;> simp -dsimp [h, h2] at q ⊢ <;> exact q
/-! is_number -/
def i_is_number : List IS := [.ite (.or [.not (.call 100 [.var 0]), .and [.op .isnN [.bor 1], .op .lt [.bor 0, .bor 1]]]) [.ret (.lit (.bl false))] [], .ret (.or [.op .isN [.bor 2], .op .le [.bor 0, .bor 2]])]
def isNum : D → D → D → Bool
  | .int i, lo, hi => (match lo with | .int a => decide (a ≤ i) | _ => true) && (match hi with | .int b => decide (i ≤ b) | _ => true)
  | _, _, _ => false
theorem isWh_or (d : D) : (∃ i, d = .int i) ∨ (isWh d = false ∧ ∀ lo hi, isNum d lo hi = false) := by
  cases d <;> first | exact .inl ⟨_, rfl⟩ | exact .inr ⟨rfl, fun _ _ => rfl⟩
def C_is_number : Contract
  | [d, lo, hi], Q, _ => Pl d = true ∧ optB lo = true ∧ optB hi = true ∧ Q (.bl (isNum d lo hi))
  | _, _, _ => False
def g_is_number : GD := { name := "is_number", ps := ["value", "low", "high"], lvl := 2, C := C_is_number }
theorem is_number_ok {t : Tb} (g100 : t.gd 100 = g_is_whole) {Ex Ex'} {d lo hi : D} {Q : D → Prop} (h : C_is_number [d, lo, hi] Q Ex) : wpSs t Ex' i_is_number [some (false, d), some (false, lo), some (false, hi)] (endK Q) := by
  obtain ⟨hd, hl, hh, q⟩ := h
  simp -dsimp [i_is_number, callW, g100, g_is_whole, C_is_whole, hd, Pl.clo hd]
  rcases isWh_or d with ⟨i, rfl⟩ | ⟨h1, h2⟩
  · rcases optB_or hl with rfl | ⟨a, rfl⟩ <;> rcases optB_or hh with rfl | ⟨b, rfl⟩ <;> simp -dsimp [isWh, isNum] at q ⊢
    · exact q
    · exact q
    · by_cases h : i < a
      · rw [if_pos h]; rw [decide_eq_false (by omega)] at q; exact q
      · rw [if_neg h]; rw [decide_eq_true (by omega)] at q; exact q
    · by_cases h : i < a
      · rw [if_pos h]; rw [decide_eq_false (show ¬ a ≤ i by omega)] at q; exact q
      · rw [if_neg h]; rw [decide_eq_true (show a ≤ i by omega)] at q; exact q
  · simp -dsimp [h1]
    rw [h2] at q; exact q
/-! is_tuple_of -/
def i_is_tuple_of : List IS := [.ret (.and [.op (.isi .tuple) [.bor 0], .op .eq [.op .len [.bor 0], .bor 1]])]
def tupOf : D → Int → Bool
  | .tup l, n => (l.length : Int) == n
  | _, _ => false
theorem tup_or {d : D} (h : Pl d = true) : (∃ l, d = .tup l) ∨ (isTy .tuple d = false ∧ ∀ n, tupOf d n = false) := by
  cases d <;> first | (cases h; done) | exact .inl ⟨_, rfl⟩ | exact .inr ⟨rfl, fun _ => rfl⟩
def C_is_tuple_of : Contract
  | [d, .int n], Q, _ => Pl d = true ∧ Q (.bl (tupOf d n))
  | _, _, _ => False
def g_is_tuple_of : GD := { name := "is_tuple_of", ps := ["value", "many"], lvl := 1, C := C_is_tuple_of }
theorem is_tuple_of_ok {t : Tb} {Ex Ex'} {d : D} {n : Int} {Q : D → Prop} (h : C_is_tuple_of [d, .int n] Q Ex) : wpSs t Ex' i_is_tuple_of [some (false, d), some (false, .int n)] (endK Q) := by
  obtain ⟨hd, q⟩ := h
  simp -dsimp [i_is_tuple_of, Pl.ty hd]
  rcases tup_or hd with ⟨l, rfl⟩ | ⟨h1, h2⟩
  · simp -dsimp [isTy, okD, deq, tupOf] at q ⊢
    exact q
  · simp -dsimp [h1]
    rw [h2] at q; exact q
/-! is_ascending: of a list -/
def i_is_ascending : List IS := [.ret (.op .all_ [.comp [1, 2] (.tp [.nm 1, .nm 2]) .zip [.var 0, .op (.sl true false) [.bor 0, .lit (.int 1)]] [] (.op .lt [.bor 1, .bor 2])])]
def ascL : List D → Bool
  | a :: b :: l => dlt a b && ascL (b :: l)
  | _ => true
def ordL : List D → Bool
  | a :: b :: l => ordB a b && ordL (b :: l)
  | _ => true
def C_is_ascending : Contract
  | [.lst l], Q, _ => ordL l = true ∧ l.length ≤ 16777216 ∧ Q (.bl (ascL l))
  | _, _, _ => False
def g_is_ascending : GD := { name := "is_ascending", ps := ["values"], lvl := 1, C := C_is_ascending }
theorem zip_asc : ∀ l : List D, ((l.zip l.tail).map fun p => dlt p.1 p.2).all id = ascL l
  | [] => rfl
  | [_] => rfl
  | a :: b :: l => by
    have ih := zip_asc (b :: l)
    simp only [List.tail_cons, List.zip_cons_cons, List.map_cons, List.all_cons, id, ascL] at ih ⊢
    rw [ih]
theorem zip_ord : ∀ {l : List D}, ordL l = true → ∀ p ∈ l.zip l.tail, ordB p.1 p.2 = true
  | [], _, p, hp => by simp -dsimp at hp
  | [_], _, p, hp => by simp -dsimp at hp
  | a :: b :: l, h, p, hp => by
    simp only [ordL, Bool.and_eq_true] at h
    simp only [List.tail_cons, List.zip_cons_cons, List.mem_cons] at hp
    rcases hp with rfl | hp
    · exact h.1
    · exact zip_ord h.2 p (by simpa using hp)
theorem allSome_bl : ∀ l : List Bool, allSome ((l.map D.bl).map unB) = some l
  | [] => rfl
  | b :: l => by
    have ih := allSome_bl l
    simp only [List.map_cons, unB_bl, allSome, ih, Option.map_some]
theorem dCut_tail (l : List D) : dCut l (some 1) none = l.tail := by
  cases l with
  | nil => rfl
  | cons a l => simp -dsimp [dCut, HT.sIx]
theorem is_ascending_ok {t : Tb} {Ex Ex'} {l : List D} {Q : D → Prop} (h : C_is_ascending [.lst l] Q Ex) : wpSs t Ex' i_is_ascending [some (false, .lst l), none, none] (endK Q) := by
  obtain ⟨ho, hl, q⟩ := h
  simp -dsimp [i_is_ascending]
  rw [dCut_tail]
  refine compL_map1 (fun x => match x with | .ktup [a, b] => .bl (dlt a b) | _ => .non) _ ?_ ?_ ?_
  · intro x hx K hK
    obtain ⟨p, hp, rfl⟩ := List.mem_map.mp hx
    have ho2 := zip_ord ho p hp
    simp -dsimp [opW_lt, ho2]
    exact hK
  · simp -dsimp; omega
  · have e : ((l.zip l.tail).map fun p => D.ktup [p.1, p.2]).map (fun x => match x with | .ktup [a, b] => D.bl (dlt a b) | _ => .non) = ((l.zip l.tail).map fun p => dlt p.1 p.2).map D.bl := by
      rw [List.map_map, List.map_map]; rfl
    rw [e, allSome_bl]
    rw [← zip_asc] at q
    simpa using q
/-! wrong_at -/
def i_wrong_at : List IS := [.ite (.not (.op (.isi .tuple) [.bor 0])) [.ret (.lst [.lit .non])] [], .for_ (.tp [.nm 3, .nm 4]) .enum [.var 0] [.ite (.or [.op .eq [.bor 3, .bor 1], .not (.callv 2 [.var 4, .op (.sl false true) [.bor 0, .bor 3]])]) [.ret (.lst [.var 3])] []], .ret (.lst [])]
def badAt (l : List D) (most : D) (p : D → List D → Bool) (x : D × Nat) : Bool := deq (.int x.2) most || !p x.1 (l.take x.2)
def wrongAt (l : List D) (most : D) (p : D → List D → Bool) : List D := match l.zipIdx.find? (badAt l most p) with
  | some x => [.int x.2]
  | none => []
/-- what a call of a value keeps -/
abbrev CF := D → Contract
/-- .. is what the tables say of a call with two arguments -/
def CfOk (t : Tb) (cf : CF) : Prop := ∀ f ds Q E, cf f ds Q E → vOk t f ∧ ((∃ n, f = .glb n ∧ (t.gd n).ps.length = 2 ∧ (t.gd n).C ds Q E) ∨ ∃ c ws, f = .clo c ws ∧ (t.cc c).ps.length = 2 ∧ (t.cc c).C (ds ++ ws) Q E)
def fnD : D → Bool
  | .glb _ => true
  | .clo _ _ => true
  | _ => false
theorem fnD_or {f : D} (h : fnD f = true) : (∃ n, f = .glb n) ∨ ∃ c ws, f = .clo c ws := by
  cases f <;> first | (cases h; done) | exact .inl ⟨_, rfl⟩ | exact .inr ⟨_, _, rfl⟩
theorem fnD_own {f : D} (h : fnD f = true) : isOwnD f = false := by
  rcases fnD_or h with ⟨n, rfl⟩ | ⟨c, ws, rfl⟩ <;> rfl
theorem CfOk.call {t : Tb} {cf : CF} (h : CfOk t cf) {f v w : D} {Q : D → Prop} {E : ExV → Prop} {l : List IE} (hl : l.any isBor = false) (hl2 : l.length = 2) (hv : isClo v = false) (hw : isClo w = false) (c : cf f [v, w] Q E) : callvW t f l [v, w] Q E := by
  obtain ⟨_, ⟨n, rfl, h2, h3⟩ | ⟨c, ws, rfl, h2, h3⟩⟩ := h f _ _ _ c
  · rw [callvW_glb]
    refine ⟨by rw [h2]; rfl, ?_, ?_⟩
    · match l, hl2 with
      | [a, b], _ =>
        have ha : isBor a = false ∧ isBor b = false := by simpa using hl
        simp [borOk, ha.1, ha.2, hv, hw]
    · rw [hl]
      refine cast ?_ h3
      congr 1 <;> (funext d; simp)
  · rw [callvW_clo]
    exact ⟨by rw [h2]; rfl, hl, by simp [hv, hw], h3⟩
def okRun (cf : CF) (f : D) (l : List D) (most : D) (p : D → List D → Bool) : Prop := (∀ v ∈ l, isClo v = false) ∧ (l ≠ [] → ∃ Q E v w, cf f [v, w] Q E) ∧ ∀ (i : Nat) v Q' E', l[i]? = some v → deq (.int i) most = false → (∀ j w, j < i → l[j]? = some w → badAt l most p (w, j) = false) → Q' (.bl (p v (l.take i))) → cf f [v, .tup (l.take i)] Q' E'
def C_wrong_at (cf : CF) : Contract
  | [d, most, f], Q, _ => fnD f = true ∧ Pl d = true ∧ optB most = true ∧ ((∀ l, d ≠ .tup l) → Q (.lst [.non])) ∧ ∀ l, d = .tup l → ∃ p : D → List D → Bool, okRun cf f l most p ∧ Q (.lst (wrongAt l most p))
  | _, _, _ => False
def g_wrong_at (cf : CF) : GD := { name := "wrong_at", ps := ["values", "most", "is_right"], lvl := 20, C := C_wrong_at cf }
theorem take_min {α : Type} (l : List α) (i : Nat) : l.take (min i l.length) = l.take i := by
  by_cases h : i ≤ l.length
  · rw [Nat.min_eq_left h]
  · rw [Nat.min_eq_right (by omega), List.take_of_length_le (by omega), List.take_of_length_le (by omega)]
theorem dCut_take {α : Type} (l : List α) (i : Nat) : dCut l none (some (i : Int)) = l.take i := by
  have h : ¬ ((i : Int) < 0) := by omega
  simp -dsimp [dCut, HT.sIx, h, take_min]
theorem dCut_drop {α : Type} (l : List α) (i : Nat) : dCut l (some (i : Int)) none = l.drop i := by
  have h : ¬ ((i : Int) < 0) := by omega
  simp -dsimp [dCut, HT.sIx, h]
  rw [List.take_of_length_le (by simp -dsimp)]
  by_cases h2 : i ≤ l.length
  · rw [Nat.min_eq_left h2]
  · rw [Nat.min_eq_right (by omega), List.drop_of_length_le (by omega), List.drop_of_length_le (by omega)]
theorem wrong_at_ok {t : Tb} {cf : CF} {Ex : ExV → Prop} {d most f : D} {Q : D → Prop} (hcf : CfOk t cf) (h : C_wrong_at cf [d, most, f] Q Ex) : wpSs t (fun x _ => Ex x) i_wrong_at [some (false, d), some (false, most), some (false, f), none, none] (endK Q) := by
  obtain ⟨hf, hd, hm, h1, h2⟩ := h
  have okm : okD most 20 = true := by rcases optB_or hm with rfl | ⟨a, rfl⟩ <;> rfl
  simp -dsimp [i_wrong_at, Pl.ty hd]
  rcases tup_or hd with ⟨l, rfl⟩ | ⟨h3, _⟩
  · obtain ⟨p, ⟨hcl, hsome, hcall⟩, q⟩ := h2 l rfl
    simp -dsimp [isTy]
    refine forL_inv (fun i en => (∀ j w, j < i → l[j]? = some w → badAt l most p (w, j) = false) ∧ ∃ x y, en = [some (false, .tup l), some (false, most), some (false, f), x, y]) _ _ 0 ⟨fun _ _ h => by omega, none, none, rfl⟩ ?_ ?_
    · rintro i x en K hi ⟨hb, x0, y0, rfl⟩ hK
      rw [Nat.zero_add] at hb hK
      rw [List.getElem?_map, List.getElem?_zipIdx] at hi
      cases hv : l[i]? with
      | none => rw [hv] at hi; simp -dsimp at hi
      | some v =>
        rw [hv] at hi
        simp -dsimp at hi
        subst hi
        have hvl := List.mem_of_getElem? hv
        have hs : vOk t f := by
          obtain ⟨_, _, _, _, c⟩ := hsome (fun e => by rw [e] at hvl; cases hvl)
          exact (hcf f _ _ _ c).1
        simp -dsimp [okD, okm, dCut_take, hs]
        have found : badAt l most p (v, i) = true → Q (.lst [.int i]) := fun hbad => by
          have e : l.zipIdx.find? (badAt l most p) = some (v, i) := by
            rw [List.find?_eq_some_iff_getElem]
            have hil : i < l.length := (List.getElem?_eq_some_iff.mp hv).1
            refine ⟨hbad, i, by simpa using hil, ?_, fun j hj => ?_⟩
            · rw [List.getElem_zipIdx]
              simp -dsimp [(List.getElem?_eq_some_iff.mp hv).2]
            · rw [List.getElem_zipIdx]
              have := hb j l[j] hj (List.getElem?_eq_getElem (by omega))
              simp -dsimp [this]
          unfold wrongAt at q
          rw [e] at q
          exact q
        have next : badAt l most p (v, i) = false → ∀ x y, K [some (false, D.tup l), some (false, most), some (false, f), x, y] := fun hg x y => hK _ ⟨fun j w hj hw => by
          by_cases hji : j < i
          · exact hb j w hji hw
          · have : j = i := by omega
            subst this
            rw [hv] at hw
            cases hw
            exact hg, x, y, rfl⟩
        cases he : deq (D.int ↑i) most with
        | true =>
          simp -dsimp
          exact found (by simp -dsimp [badAt, he])
        | false =>
          simp -dsimp
          refine hcf.call rfl rfl (hcl v hvl) rfl (hcall i v _ _ hv he hb ?_)
          simp -dsimp
          cases hpv : p v (l.take i) with
          | true => simp -dsimp; exact next (by simp -dsimp [badAt, he, hpv]) _ _
          | false => simp -dsimp; exact found (by simp -dsimp [badAt, hpv])
    · rintro en ⟨hb, x0, y0, rfl⟩
      simp only [Nat.zero_add, List.length_map, List.length_zipIdx] at hb
      have e : l.zipIdx.find? (badAt l most p) = none := by
        rw [List.find?_eq_none]
        rintro ⟨w, j⟩ hm
        obtain ⟨hj, hjl, hw⟩ := List.mem_zipIdx hm
        have hw' : l[j]? = some w := by rw [hw]; simp -dsimp
        have := hb j w (by omega) hw'
        simp -dsimp [this]
      unfold wrongAt at q
      rw [e] at q
      simpa using q
  · simp -dsimp [h3]
    exact h1 fun l e => by subst e; cases h3
/-! wrong_between -/
def i_wrong_between : List IS := [.ite (.or [.not (.op (.isi .tuple) [.bor 0]), .op .lt [.op .len [.bor 0], .bor 1]]) [.ret (.lst [.lit .non])] [], .ret (.callp 105 [.var 0, .var 2, .var 3])]
def C_wrong_between (cf : CF) : Contract
  | [d, .int least, most, f], Q, _ => fnD f = true ∧ Pl d = true ∧ optB most = true ∧ ((∀ l, d = .tup l → (l.length : Int) < least) → Q (.lst [.non])) ∧ ∀ l, d = .tup l → least ≤ (l.length : Int) → ∃ p : D → List D → Bool, okRun cf f l most p ∧ Q (.lst (wrongAt l most p))
  | _, _, _ => False
def g_wrong_between (cf : CF) : GD := { name := "wrong_between", ps := ["values", "least", "most", "is_right"], lvl := 21, C := C_wrong_between cf }
theorem wrong_between_ok {t : Tb} {cf : CF} (g105 : t.gd 105 = g_wrong_at cf) {Ex : ExV → Prop} {d most f : D} {least : Int} {Q : D → Prop} (h : C_wrong_between cf [d, .int least, most, f] Q Ex) : wpSs t (fun x _ => Ex x) i_wrong_between [some (false, d), some (false, .int least), some (false, most), some (false, f)] (endK Q) := by
  obtain ⟨hf, hd, hm, h1, h2⟩ := h
  simp -dsimp [i_wrong_between, Pl.ty hd]
  rcases tup_or hd with ⟨l, rfl⟩ | ⟨h3, _⟩
  · simp -dsimp [isTy]
    by_cases hl : (l.length : Int) < least
    · simp -dsimp [hl]
      exact h1 fun l' e => by cases e; exact hl
    · rw [if_neg (by simpa using hl)]
      rw [g105]
      have hmo : isOwnD most = false := by rcases optB_or hm with rfl | ⟨a, rfl⟩ <;> rfl
      refine ⟨rfl, ⟨rfl, hmo, fnD_own hf⟩, hf, hd, hm, fun z => absurd rfl (z l), fun l' e => ?_⟩
      cases e
      obtain ⟨p, a, b⟩ := h2 l rfl (by omega)
      exact ⟨p, a, rfl, b⟩
  · simp -dsimp [h3]
    exact h1 fun l e => by subst e; cases h3
/-! is_letters -/
def i_is_letters : List IS := [.ite (.or [.not (.op (.isi .str) [.bor 0]), .not (.chain .le .le (.var 1) (.op .len [.bor 0]) (.var 2))]) [.ret (.lit (.bl false))] [], .ret (.op .all_ [.comp [3] (.nm 3) .it [.var 0] [] (.op .inn [.bor 3, .con 300])])]
def letters : List Nat := [97, 98, 99, 100, 101, 102, 103, 104, 105, 106, 107, 108, 109, 110, 111, 112, 113, 114, 115, 116, 117, 118, 119, 120, 121, 122]
def isLet : D → Int → Int → Bool
  | .str x, lo, hi => decide (lo ≤ (x.length : Int)) && decide ((x.length : Int) ≤ hi) && x.all (· ∈ letters)
  | _, _, _ => false
theorem str_or {d : D} (h : Pl d = true) : (∃ x, d = .str x) ∨ (isTy .str d = false ∧ ∀ a b, isLet d a b = false) := by
  cases d <;> first | (cases h; done) | exact .inl ⟨_, rfl⟩ | exact .inr ⟨rfl, fun _ _ => rfl⟩
def C_is_letters : Contract
  | [d, .int lo, .int hi], Q, _ => Pl d = true ∧ Q (.bl (isLet d lo hi))
  | _, _, _ => False
def g_is_letters : GD := { name := "is_letters", ps := ["value", "least", "most"], lvl := 1, C := C_is_letters }
theorem is_letters_ok {t : Tb} (c300 : t.con 300 = .str letters) {Ex Ex'} {d : D} {lo hi : Int} {Q : D → Prop} (h : C_is_letters [d, .int lo, .int hi] Q Ex) : wpSs t Ex' i_is_letters [some (false, d), some (false, .int lo), some (false, .int hi), none] (endK Q) := by
  obtain ⟨hd, q⟩ := h
  simp -dsimp [i_is_letters, Pl.ty hd]
  rcases str_or hd with ⟨x, rfl⟩ | ⟨h1, h2⟩
  · have hx := (Pl.str hd).2
    simp -dsimp [isTy, Sz, hx]
    simp only [isLet] at q
    by_cases h1 : lo ≤ (x.length : Int)
    · by_cases h2 : (x.length : Int) ≤ hi
      · simp -dsimp [h1, h2]
        simp -dsimp [h1, h2] at q
        refine compL_map1 (fun y => match y with | .str [c] => .bl (decide (c ∈ letters)) | _ => .non) _ ?_ ?_ ?_
        · intro y hy K hK
          obtain ⟨c, hc, rfl⟩ := List.mem_map.mp hy
          simp -dsimp [c300]
          exact hK
        · simpa using hx
        · have e : (x.map fun c => D.str [c]).map (fun y => match y with | .str [c] => D.bl (decide (c ∈ letters)) | _ => .non) = (x.map fun c => decide (c ∈ letters)).map D.bl := by
            rw [List.map_map, List.map_map]; rfl
          rw [e, allSome_bl]
          simpa [List.all_map] using q
      · simp -dsimp [h1, h2]
        simp -dsimp [h1, h2] at q
        exact q
    · simp -dsimp [h1]
      simp -dsimp [h1] at q
      exact q
  · simp -dsimp [h1]
    rw [h2] at q; exact q
/-! is_name -/
def i_is_name : List IS := [.ret (.and [.call 107 [.var 0, .lit (.int 1), .con 301], .op .nin [.bor 0, .con 302]])]
def wordsL : List (List Nat) := [[97, 108, 108], [97, 110, 121], [98, 97, 99, 107], [98, 111, 111, 107], [99, 97, 108, 108], [99, 97, 114, 114, 121], [99, 108, 111, 115, 101], [99, 111, 112, 121], [100, 97, 121], [100, 111, 119, 110], [101, 110, 100], [102, 97, 108, 108], [102, 114, 101, 101], [103, 105, 118, 101], [104, 101, 114, 101], [104, 111, 108, 100, 101, 114], [108, 101, 116, 116, 101, 114, 115], [108, 105, 101, 115], [108, 111, 99, 107], [109, 97, 121], [110, 101, 118, 101, 114], [110, 111, 98, 111, 100, 121], [110, 111, 110, 101], [111, 98, 106, 101, 99, 116], [111, 114, 100, 101, 114], [111, 114, 100, 101, 114, 115], [112, 101, 114, 104, 97, 112, 115], [113, 117, 105, 116], [114, 97, 110, 103, 101], [114, 101, 115, 116], [114, 111, 117, 110, 100], [114, 111, 119], [115, 101, 101, 110], [115, 117, 114, 101], [116, 97, 107, 101], [117, 110, 115, 101, 101, 110], [118, 101, 114, 115, 105, 111, 110], [119, 111, 114, 100]]
def isName : D → Bool
  | .str x => isLet (.str x) 1 8 && !wordsL.contains x
  | _ => false
def C_is_name : Contract
  | [d], Q, _ => Pl d = true ∧ Q (.bl (isName d))
  | _, _, _ => False
def g_is_name : GD := { name := "is_name", ps := ["value"], lvl := 2, C := C_is_name }
theorem any_str (x : List Nat) : ∀ ws : List (List Nat), ((ws.map D.str).any fun z => deq z (.str x)) = ws.contains x
  | [] => rfl
  | w :: ws => by
    rw [List.map_cons, List.any_cons, any_str x ws, List.contains_cons]
    congr 1
    show (w == x) = (x == w)
    exact Bool.eq_iff_iff.mpr ⟨fun h => by simpa using (beq_iff_eq.mp h).symm, fun h => by simpa using (beq_iff_eq.mp h).symm⟩
theorem all_flat (ws : List (List Nat)) : (ws.map D.str).all flatK = true := by
  rw [List.all_map]; simp -dsimp [flatK]
theorem is_name_ok {t : Tb} (g107 : t.gd 107 = g_is_letters) (c301 : t.con 301 = .int 8) (c302 : t.con 302 = .ktup (wordsL.map D.str)) {Ex Ex'} {d : D} {Q : D → Prop} (h : C_is_name [d] Q Ex) : wpSs t Ex' i_is_name [some (false, d)] (endK Q) := by
  obtain ⟨hd, q⟩ := h
  rcases str_or hd with ⟨x, rfl⟩ | ⟨h1, h2⟩
  · have e := any_str x wordsL
    have f := all_flat wordsL
    have hin : isIn (.str x) (.ktup (wordsL.map D.str)) = some (wordsL.contains x) := by rw [isIn_ktup, f, e]; rfl
    simp only [isName] at q
    simp -dsimp [-isIn_ktup, i_is_name, c301, c302, callW, g107, g_is_letters, C_is_letters, hd, hin]
    cases hl : isLet (.str x) 1 8 with
    | false => rw [hl] at q; simpa using q
    | true => rw [hl] at q; simpa using q
  · have hn : isName d = false := by cases d <;> first | rfl | cases h1
    simp -dsimp [-isIn_ktup, i_is_name, c301, c302, callW, g107, g_is_letters, C_is_letters, hd, Pl.clo hd, h2]
    rw [hn] at q; exact q
/-! is_one_of -/
def i_is_one_of : List IS := [.ret (.and [.op (.isi .str) [.bor 0], .op .inn [.bor 0, .bor 1]])]
def oneOf (ws : List (List Nat)) : D → Bool
  | .str x => ws.contains x
  | _ => false
def C_is_one_of : Contract
  | [d, c], Q, _ => Pl d = true ∧ ∃ ws : List (List Nat), (c = .lst (ws.map D.str) ∧ (∀ w ∈ ws, w.all (· < 0x110000) = true) ∨ c = .tup (ws.map D.str) ∨ c = .ktup (ws.map D.str)) ∧ Q (.bl (oneOf ws d))
  | _, _, _ => False
def g_is_one_of : GD := { name := "is_one_of", ps := ["value", "words"], lvl := 1, C := C_is_one_of }
theorem okDs_str : ∀ {ws : List (List Nat)} {n : Nat}, (∀ w ∈ ws, w.all (· < 0x110000) = true) → okDs (ws.map D.str) n = true
  | [], _, _ => rfl
  | w :: ws, n, h => by
    show (okD (.str w) n && okDs (ws.map D.str) n) = true
    rw [okDs_str fun y hy => h y (List.mem_cons_of_mem _ hy), Bool.and_true]
    exact h w List.mem_cons_self
theorem is_one_of_ok {t : Tb} {Ex Ex'} {d c : D} {Q : D → Prop} (h : C_is_one_of [d, c] Q Ex) : wpSs t Ex' i_is_one_of [some (false, d), some (false, c)] (endK Q) := by
  obtain ⟨hd, ws, hc, q⟩ := h
  simp -dsimp [i_is_one_of, Pl.ty hd]
  rcases str_or hd with ⟨x, rfl⟩ | ⟨h1, h2⟩
  · have ok : okD (.str x) 20 = true := (Pl.str hd).1
    have e := any_str x ws
    have f := all_flat ws
    simp -dsimp [isTy]
    simp only [oneOf, ← e] at q
    rcases hc with ⟨rfl, hw⟩ | rfl | rfl
    · rw [isIn_lst, ok, okDs_str hw]; simpa using q
    · rw [isIn_tup, f]; simpa [flatK] using q
    · rw [isIn_ktup, f]; simpa [flatK] using q
  · have hn : oneOf ws d = false := by cases d <;> first | rfl | cases h1
    simp -dsimp [h1]
    rw [hn] at q; exact q
end SD

set_option Elab.async false
set_option linter.all false
set_option maxRecDepth 100000
set_option maxHeartbeats 4000000
namespace SD
open PySem PySem.Spec PyProof.Rows L2
/-! ## what a def in a def, a lambda keeps, by its body -/
section
variable {G : Wd} {t : Tb} {k n : Nat} {cd : CD} {N : List Str}
theorem startF_is {N : List Str} {vs wss : List V} : NdefX.startF N vs (wss.map some) = L2.start N (vs ++ wss) := by
  unfold NdefX.startF L2.start
  rw [List.map_append, List.append_assoc, List.length_append, List.length_map]
  congr 3
  omega
theorem hasC_of {name qual : Str} {params : Arguments} {body : List Stmt} {scope : Scope} (hct : G.ct n = ⟨name, qual, params, .stmts body, scope⟩) (hfr : G.cfr n = cd.fr) (S : NdefX.nscB N cd.ps cd.fr scope = true)
    (hb : ∀ (cl : List (Str × Addr)) (c' : Addr) (doc pm ctv : Value) (us : List Value), us.length = cd.ps.length → bindArgs (CT.fd ⟨name, qual, params, .stmts body, scope⟩ cl c' doc pm ctv) ⟨us, []⟩ = pure (cd.ps.zip us)) (T : TX G t k) (no : ∀ c, t.own c = false) (is : List IS) (nd : noNds is = true)
    (hc : chkSs t N is scope (fun _ => false) body = true) (hC : ∀ ds Qd Ed, cd.C ds Qd Ed → ds.length = cd.ps.length + cd.fr.length → wpSs t (fun x _ => Ed x) is (env0 N ds) (endK Qd)) : HasC G (k + 1) cd n := by
  have NS := NdefX.nscope_by S
  refine ⟨fun A outer s H us vs ds ws wss wa So Qd Ed Q E f cl c' hr e0 hf hco hcell rv hlp rd rw_ amb hc0 kq ke => ?_⟩
  rw [hct] at hf hco
  rw [hfr] at hcell
  have lw : ws.length = cd.fr.length := by rw [rw_.length, ← hcell.len, List.length_map]
  have O : NdefX.NOk G.P G.w G.K G.mg G.base (CX G.P G.w) (k + 1) f ⟨name, qual, params, body, scope, cl, c'⟩ cd.ps cd.fr (fun ws' vs' H' Q' E' => ws' = wss.map some ∧ vs' = vs ∧ H' = H ∧ Q' = Q ∧ E' = E) := by
    refine NdefX.nok_of (N := N) NS (fun doc pm ctv us hu => hb cl c' doc pm ctv us hu) (fun ws' vs' H' Q' E' z => by rw [z.2.1, ← rd.length, hlp]) fun A2 outer2 s2 H2 vs2 ws2 Q2 E2 hr2 hf2 hc2 hl2 z => ?_
    obtain ⟨rfl, rfl, rfl, rfl, rfl⟩ := z
    let X := NdefX.ncx (CX G.P G.w) G.P G.w G.K G.mg G.base N ⟨name, qual, params, body, scope, cl, c'⟩ f A2 outer2 s2 H2 E2
    let m := amOf G wa So H2
    have sxs : ∀ (σ : L2.St) (env : DEnv) a, So a → Sx m.So σ env a := fun _ _ _ z => .inl z
    have hx : SX m X k t (fun x _ => Ed x) := by
      refine ⟨⟨rfl, rfl, rfl, rfl, rfl, NS.nd, rfl, hr2⟩, ⟨⟨fun cls dx _ H => E2 cls dx H, takes_of rfl rfl rfl rfl, fun x env cls dx σ H' r rx q => ?_⟩⟩, fun z => (nomatch z), T.hb, T.gd, T.gc, fun z => (nomatch z), fun n hn => ?_, T.gp, T.gl⟩
      · refine ke x cls dx H' r.frc r.amb0 ?_ q
        obtain ⟨r1, r2⟩ := rx
        refine ⟨r1, ?_⟩
        rcases r2 with r2 | ⟨dd, xs, e1, e2, n, l, rd⟩
        · exact .inl r2
        · exact .inr ⟨dd, xs, e1, e2, fun z => n (sxs _ _ _ z), l, rd.mono Kp.refl (Sb.sub fun a z => sxs _ _ _ z)⟩
      · obtain ⟨v, u, a, b, c⟩ := T.cn n hn
        exact ⟨v, u, a, b, c wa⟩
    have hp : PassesOwn (model X.prog X.w) X.A X.env X.xe := passes_of (X := X) (K := fun u s'' => CX G.P G.w outer2 H2 s2 E2 u s'') rfl
    have ds_ : DSs m X t (fun x _ => Ed x) is body := chkSs_ok is hx (fun z => by cases z) (txSs_no _ _ nd) rfl NS.kind hp hc
    rw [startF_is]
    refine ⟨_, ds_, env0 N (ds ++ ws), endK Qd, rs_start (rd.append rw_) amb, hC _ Qd Ed hc0 (by rw [List.length_append, hlp, lw]), ⟨fun σ' H' env' z q => ?_, fun d v σ' H' env' z rd q => ?_, fun _ _ _ _ z => z.elim, fun _ _ _ _ z => z.elim⟩⟩
    · exact kq .non .non H' z.rs.frc z.rs.amb0 .non q
    · exact kq d v H' z.rs.frc z.rs.amb0 (rd.mono Kp.refl (Sb.sub fun a q => sxs _ _ _ q)) q
  exact O.run A outer s H us vs _ Q E hr e0 hf hco hcell rv ⟨rfl, rfl, rfl, rfl, rfl⟩
theorem hasC_lam {qual : Str} {params : Arguments} {body : Expr} {scope : Scope} (hct : G.ct n = ⟨"<lambda>", qual, params, .expr body, scope⟩) (hfr : G.cfr n = cd.fr) (S : NdefX.nscB N cd.ps cd.fr scope = true)
    (hb : ∀ (cl : List (Str × Addr)) (c' : Addr) (doc pm ctv : Value) (us : List Value), us.length = cd.ps.length → bindArgs (CT.fd ⟨"<lambda>", qual, params, .expr body, scope⟩ cl c' doc pm ctv) ⟨us, []⟩ = pure (cd.ps.zip us)) (T : TX G t k) (no : ∀ c, t.own c = false) (ir : IE) (nb : isBor ir = false)
    (hc : chkE t N ir scope (fun _ => false) body = true) (hC : ∀ ds Qd Ed, cd.C ds Qd Ed → ds.length = cd.ps.length + cd.fr.length → wpE t (fun x _ => Ed x) ir (env0 N ds) fun d _ => isClo d = false ∧ Qd d) : HasC G (k + 1) cd n := by
  have NS := NdefX.nscope_by S
  refine ⟨fun A outer s H us vs ds ws wss wa So Qd Ed Q E f cl c' hr e0 hf hco hcell rv hlp rd rw_ amb hc0 kq ke => ?_⟩
  rw [hct] at hf hco
  rw [hfr] at hcell
  have lw : ws.length = cd.fr.length := by rw [rw_.length, ← hcell.len, List.length_map]
  have lim : s.heap.NoLimit := e0.mod.nolimit.keeps fun b o e => (e0.bs b o e).1
  obtain ⟨⟨od, sl, doc, pm, ctv, ho⟩, _, _⟩ := e0.hok f _ hf
  have hcr := NdefX.codeO_at e0.hok hco
  refine PySem.W.kla_callFunE hr.depth ho rfl NS.co NS.gen rfl hcr ?_
  have hbu := hb cl c' doc pm ctv us (by rw [← rv.length, ← rd.length, hlp])
  refine (show wpAny _ _ (bindArgs (CT.fd ⟨"<lambda>", qual, params, .expr body, scope⟩ cl c' doc pm ctv) ⟨us, []⟩) _ _ s from ?_)
  rw [hbu]
  refine wpAny_pure (wpAny_newFunctionEnv NS.nocell (fun ⟨x, _⟩ hy => NS.par x (List.of_mem_zip hy).1) (fun h₁ hns hsb => ⟨lim.fresh _ hsb, ?_⟩) NS.kind)
  let F : NdefX.NF := ⟨"<lambda>", qual, params, [], scope, cl, c'⟩
  let X := NdefX.ncx (CX G.P G.w) G.P G.w G.K G.mg G.base N F f A outer s H E
  let m := amOf G wa So H
  show codeAny _ _ (.expr body X.env) _ _
  have kp : ∀ b o, s.heap.get? b = some o → h₁.get? b = some o := fun b o e => hsb.extBut b o (Nat.ne_of_lt (Heap.lt_size e)) (Heap.get?_push_of_some _ e)
  have I : Inv X [] (NdefX.startF N vs (wss.map some)) H { s with heap := h₁, toks := s.toks + (cd.ps.zip us).length } := NdefX.inv_startN (F := F) NS hr.hd e0 (by rw [← rd.length, hlp]) rv hcell hns kp
  rw [startF_is] at I
  have sxs : ∀ (σ : L2.St) (env : DEnv) a, So a → Sx m.So σ env a := fun _ _ _ z => .inl z
  have hx : SX m X k t (fun x _ => Ed x) := by
    refine ⟨⟨rfl, rfl, rfl, rfl, rfl, NS.nd, rfl, hr.deeper _⟩, ⟨⟨fun cls dx _ H => E cls dx H, takes_of rfl rfl rfl rfl, fun x env cls dx σ H' r rx q => ?_⟩⟩, fun z => (nomatch z), T.hb, T.gd, T.gc, fun z => (nomatch z), fun n hn => ?_, T.gp, T.gl⟩
    · refine ke x cls dx H' r.frc r.amb0 ?_ q
      obtain ⟨r1, r2⟩ := rx
      refine ⟨r1, ?_⟩
      rcases r2 with r2 | ⟨dd, xs, e1, e2, n, l, rd⟩
      · exact .inl r2
      · exact .inr ⟨dd, xs, e1, e2, fun z => n (sxs _ _ _ z), l, rd.mono Kp.refl (Sb.sub fun a z => sxs _ _ _ z)⟩
    · obtain ⟨v, u, a, b, c⟩ := T.cn n hn
      exact ⟨v, u, a, b, c wa⟩
  have de : DE m X t (fun x _ => Ed x) ir body := (chk_ok ir hx rfl hc).de nb
  have rs := rs_start (N := N) (rd.append rw_) amb
  refine PySem.W.kla_codeExpr (wpAny_mono (de.run [] _ _ H Q I ⟨env0 N (ds ++ ws), _, rs, hC _ Qd Ed hc0 (by rw [List.length_append, hlp, lw]), fun d v env' H' z ra ⟨hcl, q⟩ => ?_⟩) (fun v s' hq => ?_) fun e s' hq => hq)
  · refine kq d v H' z.rs.frc z.rs.amb0 ?_ q
    rcases ra with ra | ra
    · exact ra.mono Kp.refl (Sb.sub fun a q => sxs _ _ _ q)
    · exact ra.elim
  · obtain ⟨w', H', J', rv', q⟩ := hq
    exact ⟨w', H', J'.os, J'.bare, J'.base, J'.hok, rv', q⟩
end
end SD

set_option Elab.async false
set_option linter.all false
set_option maxRecDepth 100000
set_option maxHeartbeats 4000000
namespace SD
open PySem PySem.Spec PyProof.Rows L2
/-! ## a class is called: its __init__ ends in self.f = e -/
def chkI (t : Tb) (N : List Str) (f : Str) : List IS → IE → Scope → (Str → Bool) → List Stmt → Bool
  | [], ir, sc, fn, [.Assign [.Attribute (.Name x p1) g p2] e pos] => decide (g = f) && varB N sc 0 (.Name x p1) && !isBor ir && notComp e && chkE t N ir sc fn e
  | i :: is, ir, sc, fn, s :: ss => chkS t N i sc fn s && chkI t N f is ir sc fn ss
  | _, _, _, _, _ => false
def wpSi (t : Tb) (Ex : ExV → DEnv → Prop) : List IS → IE → DEnv → (D → Prop) → Prop
  | [], ir, env, Q => wpE t Ex ir env fun d env' => env'[0]? = some (some (false, .own 0)) ∧ isClo d = false ∧ Q d
  | i :: is, ir, env, Q => wpS t Ex i env { nx := fun env' => wpSi t Ex is ir env' Q, rt := fun _ _ => False, bk := fun _ => False, ct := fun _ => False }
def RdJ (m : Am) (t : Tb) (Ex : ExV → DEnv → Prop) (is : List IS) (ir : IE) (a C dx : Addr) (f : Str) : TS := fun E σ H => ∃ env Q, RS m σ H env ∧ wpSi t Ex is ir env Q ∧
  ∀ d v σ' H' env', StS m σ H env σ' H' env' → RD m.G m.wa H' (Sx m.So σ' env') d v → Q d → E.nx σ' (upd H' a (.ins C dx [(f, v)]))
theorem chkI_ok {t : Tb} {N : List Str} {a C dx : Addr} {f : Str} : ∀ (is : List IS) {ir : IE} {m : Am} {X : Cx} {k : Nat} {Ex : ExV → DEnv → Prop} {ss : List Stmt}, SX m X k t Ex → (X.fn "" = true → MkC m X t) → noNds is = true → X.N = N → X.env.scope.kind = .function → PassesOwn (model X.prog X.w) X.A X.env X.xe →
    (∀ H S v, m.cl H S (.own 0) v → v = .ref a) → m.H0 a = some (.ins C dx []) → (m.G.hw = true → a ≠ m.wa) → Cls m.G.K C → NoAttr m.G.K C f →
    chkI t N f is ir X.env.scope X.fn ss = true → PSs X ss (RdJ m t Ex is ir a C dx f)
  | [], ir, m, X, k, Ex, ss, hx, mk, nd, hN, hk, hp, hcl, h0, hwa, hc, hna, h => by
    unfold chkI at h
    split at h
    · rename_i x p1 g p2 e pos heq
      simp only [Bool.and_eq_true, decide_eq_true_eq, Bool.not_eq_true'] at h
      obtain ⟨⟨⟨⟨rfl, h2⟩, h3⟩, h4⟩, h5⟩ := h
      refine PSs.weak (pss_one (ps_fld (var_ok hN h2) ((chk_ok _ hx hN h5).de h3) (sw_noB h4))) fun E σ H ⟨env, Q, r, w, kq⟩ => ?_
      refine ⟨env, _, r, w, fun d v env' H' s ra ⟨e0, hcd, q⟩ => ?_⟩
      obtain ⟨v0, hv, ra0⟩ := s.rs.pl 0 _ e0
      have ev : v0 = .ref a := by
        rcases ra0 with z | z
        · cases z
        · exact hcl _ _ _ z
      subst ev
      have ha : H' a = some (.ins C dx []) := s.rs.fr a _ h0 hwa noTbl_ins
      refine ⟨.ref a, hv, a, C, dx, [], rfl, ha, by rw [hx.g.hK]; exact hc, by rw [hx.g.hK]; exact hna, by decide, ?_⟩
      exact kq d v σ H' env' s.sts (ra.noclo hcd) q
    · rename_i heq
      cases heq
    · cases h
  | i :: is, ir, m, X, k, Ex, [], hx, mk, nd, hN, hk, hp, hcl, h0, hwa, hc, hna, h => by unfold chkI at h; cases h
  | i :: is, ir, m, X, k, Ex, s :: ss, hx, mk, nd, hN, hk, hp, hcl, h0, hwa, hc, hna, h => by
    unfold chkI at h
    simp only [Bool.and_eq_true] at h
    refine PSs.weak (pss_cons (chkS_ok i hx mk (txS_no i s (Bool.and_eq_true_iff.mp nd).1) hN hk hp h.1) (chkI_ok is hx mk (Bool.and_eq_true_iff.mp nd).2 hN hk hp hcl h0 hwa hc hna h.2)) fun E σ H ⟨env, Q, r, w, kq⟩ => ?_
    exact ⟨env, _, r, w, ⟨fun σ' H' env' st q => ⟨env', Q, st.rs, q, fun d v σ2 H2 env2 st2 x q => kq d v σ2 H2 env2 (st.trans st2) x q⟩, fun _ _ _ _ _ _ _ z => z.elim, fun _ _ _ _ z => z.elim, fun _ _ _ _ z => z.elim⟩⟩
def amS (G : Wd) (wa : Addr) (So : Addr → Prop) (H : Hp) (a : Addr) : Am := { G := G, wa := wa, So := So, H0 := H, cl := fun _ _ d v => d = .own 0 ∧ v = .ref a, mono := fun _ _ z => z, clo := fun z => by rw [z.1]; rfl }
theorem rs_startS {G : Wd} {wa : Addr} {So : Addr → Prop} {H : Hp} {N : List Str} {ds : List D} {vs : List V} {a : Addr} (r : RDs G wa H So ds vs) (am : Amb G wa So H) : RS (amS G wa So H a) (L2.start N (.ref a :: vs)) H (env0 N (.own 0 :: ds)) := by
  have no : ∀ i d, (env0 N (.own 0 :: ds))[i]? ≠ some (some (true, d)) := fun i d h => by
    rcases env0_get h with ⟨e, _, q⟩ | q <;> cases q
  have sx : ∀ b, Sx So (L2.start N (.ref a :: vs)) (env0 N (.own 0 :: ds)) b → So b := fun b h => by
    rcases h with h | ⟨i, d, h1, _⟩
    · exact h
    · exact absurd h1 (no i d)
  refine ⟨?_, fun i d h => ?_, fun i d h => absurd h (no i d), fun i j d e b h => absurd h (no i d), am.so, am.we, am.ta, fun b o e _ _ => e, fun b e => e⟩
  · unfold env0 L2.start
    rw [List.length_append, List.length_append, List.length_map, List.length_map, List.length_replicate, List.length_replicate, List.length_cons, List.length_cons, r.length]
  · rcases env0_get h with ⟨e, he, q⟩ | q
    · cases q
      cases i with
      | zero =>
        cases he
        exact ⟨.ref a, start_get rfl, .inr ⟨rfl, rfl⟩⟩
      | succ i =>
        obtain ⟨v, h1, h2⟩ := r.get (by simpa using he)
        exact ⟨v, start_get (by simpa using h1), .inl (h2.mono Kp.refl (Sb.sub sx))⟩
    · cases q
/-- what a call of __init__ wants -/
def spI (G : Wd) (c : Nat) (f : Str) (np : Nat) (C : Contract) : Sp := fun vs H Q E => ∃ (a dx : Addr) (ds : List D) (vs' : List V) (wa : Addr) (So : Addr → Prop) (Qd : D → Prop) (Ed : ExV → Prop), vs = .ref a :: vs' ∧ ds.length = np ∧ H a = some (.ins (G.cls c) dx []) ∧ (G.hw = true → a ≠ wa) ∧ RDs G wa H (fun b => So b ∨ b = a) ds vs' ∧
  Amb G wa (fun b => So b ∨ b = a) H ∧ C ds Qd Ed ∧ (∀ d v H', FrC G wa H H' → Amb G wa (fun b => So b ∨ b = a) H' → RD G wa H' (fun b => So b ∨ b = a) d v → Qd (.obj c [d]) → Q .non (upd H' a (.ins (G.cls c) dx [(f, v)]))) ∧
  (∀ x cls dx' H', FrC G wa H H' → Amb G wa (fun b => So b ∨ b = a) H' → REx G wa H' (fun b => So b ∨ b = a) x cls dx' → Ed x → E cls dx' H')
theorem fn_init {G : Wd} {t : Tb} {k : Nat} {x qual f : Str} {st : Stmt} {fI : Addr} {fd : FuncData} {N ps : List Str} {c : Nat} {C : Contract} (F : L2.Fun G.K x qual st fI fd) (hS : C8.scC N (("self" : Str) :: ps) (defScope st) = true) (hcl : Cls G.K (G.cls c)) (hna : NoAttr G.K (G.cls c) f) (T : TX G t k) (no : ∀ c, t.own c = false)
    (is : List IS) (nd : noNds is = true) (ir : IE) (hc : chkI t N f is ir (defScope st) (fun _ => true) (defBody st) = true) (hC : ∀ ds Qd Ed, C ds Qd Ed → ds.length = ps.length → wpSi t (fun x _ => Ed x) is ir (env0 N (.own 0 :: ds)) fun d => Qd (.obj c [d])) :
    FnOk G.P G.w G.K G.mg G.base (CX G.P G.w) (k + 1) fI fd (("self" : Str) :: ps) (spI G c f ps.length C) := by
  have S := C8.fnScope_by hS
  obtain ⟨oc, od, kV, doc, pm, an, cdv, ct, osl, rfl, lk, hcd⟩ := F.ex
  refine fn_of lk hcd S (fun vs H Q E ⟨a, dx, ds, vs', wa, So, Qd, Ed, e, h1, _, _, h2, _⟩ => by rw [e, List.length_cons, List.length_cons, ← h2.length, h1]) fun A outer s H vs Q E hr ⟨a, dx, ds, vs', wa, So, Qd, Ed, e, h1, ha, hwa, h2, amb, hc0, kq, ke⟩ => ?_
  subst e
  let X := cxOf (CX G.P G.w) G.P G.w G.K G.mg G.base N qual (defScope st) fI cdv A outer s H E
  let m := amS G wa (fun b => So b ∨ b = a) H a
  have sxs : ∀ (σ : L2.St) (env : DEnv) b, (So b ∨ b = a) → Sx m.So σ env b := fun _ _ _ z => .inl z
  have hx : SX m X k t (fun x _ => Ed x) := by
    refine ⟨⟨rfl, rfl, rfl, rfl, rfl, S.nd, rfl, hr⟩, ⟨⟨fun cls dx _ H => E cls dx H, takes_of rfl rfl rfl rfl, fun x env cls dx σ H' r rx q => ?_⟩⟩, fun _ pins σ H' s' S' d v I ho z => ?_, T.hb, T.gd, T.gc, fun _ c hc => (by rw [no] at hc; cases hc), fun n hn => ?_, T.gp, T.gl⟩
    · refine ke x cls dx H' r.frc r.amb0 ?_ q
      obtain ⟨r1, r2⟩ := rx
      refine ⟨r1, ?_⟩
      rcases r2 with r2 | ⟨dd, xs, e1, e2, n, l, rd⟩
      · exact .inl r2
      · exact .inr ⟨dd, xs, e1, e2, fun z => n (sxs _ _ _ z), l, rd.mono Kp.refl (Sb.sub fun a z => sxs _ _ _ z)⟩
    · have z1 : d = .own 0 := z.1
      rw [z1] at ho; cases ho
    · obtain ⟨v, u, a, b, c⟩ := T.cn n hn
      exact ⟨v, u, a, b, c wa⟩
  have hp : PassesOwn (model X.prog X.w) X.A X.env X.xe := passes_of (X := X) (K := fun u s'' => CX G.P G.w outer H s E u s'') rfl
  refine ⟨_, chkI_ok (a := a) (C := G.cls c) (dx := dx) is hx (fun _ => ⟨fun c hc => by rw [no] at hc; cases hc⟩) nd rfl S.kind hp (fun _ _ _ z => z.2) ha hwa hcl hna hc, env0 N (.own 0 :: ds), _, rs_startS h2 amb, hC ds Qd Ed hc0 h1, fun d v σ' H' env' z rd q => ?_⟩
  exact kq d v H' z.rs.frc z.rs.amb0 (rd.mono Kp.refl (Sb.sub fun b q => sxs _ _ _ q)) q
/-- a class's call -/
theorem tabs_upd {T : List NdefX.NTab} {H : Hp} {a C dx : Addr} {fs fs' : List (Str × V)} (h : NdefX.TabsN T H) (e : H a = some (.ins C dx fs)) : NdefX.TabsN T (upd H a (.ins C dx fs')) := fun p hp => by
  obtain ⟨ps, h1, h2, h3⟩ := h p hp
  refine ⟨ps, ?_, h2, fun pos cv hcv => ?_⟩
  · rw [upd_ne (ne_of h1 e (by intro z; cases z))]; exact h1
  · obtain ⟨c, e1, e2⟩ := h3 pos cv hcv
    refine ⟨c, e1, ?_⟩
    rw [upd_ne (ne_of e2 e (by intro z; unfold LamX.CodeO at z; cases z))]; exact e2
theorem callX_cls {G : Wd} {lvl c : Nat} {f : Str} {mk : List Value → Args} {fI : Addr} {fd : FuncData} {ps : List Str} {C : Contract} (M : Mk G.K (G.cls c) fI) (F : FnOk G.P G.w G.K G.mg G.base (CX G.P G.w) lvl fI fd (("self" : Str) :: ps) (spI G c f ps.length C)) (hfl : G.fld c = [f])
    (pm : List Value → List Value) (pd : List D → List D) (pv : List V → List V) (n : Nat) (hn : ∀ ds : List D, ds.length = n → (pd ds).length = ps.length) (hpd : ∀ {G wa H S ds vs}, ds.length = n → RDs G wa H S ds vs → RDs G wa H S (pd ds) (pv vs)) (hpv : ∀ {vs us}, vs.length = n → Vals vs us → Vals (pv vs) (pm us))
    (hb : ∀ (s : Shared) (a : Addr) (us : List Value), G.K.In s.heap → us.length = n → BindsTo s fd ⟨.ref a :: (mk us).pos, (mk us).kw⟩ ((("self" : Str) :: ps).zip (.ref a :: pm us)))
    (nc : ∀ ds Qd Ed, ds.length = n → C (pd ds) Qd Ed → ∀ d ∈ ds, isClo d = false) : CallX G (lvl + 1) (G.cls c) mk n (fun ds => C (pd ds)) := by
  intro X pins σ H s us vs ds wa So Qd Ed Q E hX hr I hx rv hl ca am hc kq ke
  have rd := ca.rds (nc _ _ _ hl hc)
  have kin := I.kIn
  rw [hX.hK] at kin
  obtain ⟨hp, g, dr, tk, os⟩ := s
  have I2 := Inv.made (C := G.cls c) I
  have hz : H hp.objs.size = none := I.hok.fresh (Nat.le_refl _)
  have hz1 : H (hp.objs.size + 1) = none := I.hok.fresh (Nat.le_succ _)
  have ne : hp.objs.size ≠ hp.objs.size + 1 := Nat.ne_of_lt (Nat.lt_succ_self _)
  have ext : ∀ b o, H b = some o → upd (upd H hp.objs.size (.own (hp.objs.size + 1))) (hp.objs.size + 1) (.ins (G.cls c) hp.objs.size []) b = some o := fun b o e => by
    rw [upd_ne (ne_of_none e hz1), upd_ne (ne_of_none e hz)]; exact e
  have vl : vs.length = n := by rw [← rd.length]; exact hl
  have ul : us.length = n := by rw [← rv.length]; exact vl
  have soa : ∀ b, So b → b ≠ hp.objs.size + 1 := fun b h e => by
    obtain ⟨o, e1, _⟩ := am.so.2 b h
    rw [e, hz1] at e1; cases e1
  have hwa : G.hw = true → hp.objs.size + 1 ≠ wa := fun hw e => soa wa (am.so.1 hw) e.symm
  have rd2 : RDs G wa (upd (upd H hp.objs.size (.own (hp.objs.size + 1))) (hp.objs.size + 1) (.ins (G.cls c) hp.objs.size [])) (fun b => So b ∨ b = hp.objs.size + 1) (pd ds) (pv vs) :=
    (hpd hl rd).mono (Kp.of ext) fun b h => h.imp id fun e => by rw [e]; exact hz1
  have am2 : Amb G wa (fun b => So b ∨ b = hp.objs.size + 1) (upd (upd H hp.objs.size (.own (hp.objs.size + 1))) (hp.objs.size + 1) (.ins (G.cls c) hp.objs.size [])) :=
    ⟨⟨fun hw => .inl (am.so.1 hw), fun b h => by
      rcases h with h | h
      · obtain ⟨o, e1, e2⟩ := am.so.2 b h
        exact ⟨o, ext b o e1, e2⟩
      · rw [h]
        exact ⟨_, upd_same, noTbl_ins, ⟨fun _ z => (nomatch z), fun _ z => (nomatch z)⟩⟩⟩, fun hw => by
      obtain ⟨a, b, c, e, ok⟩ := am.we hw
      exact ⟨a, b, c, ext _ _ e, ok⟩, am.ta.ext ext⟩
  have frd : ∀ {H'}, FrC G wa (upd (upd H hp.objs.size (.own (hp.objs.size + 1))) (hp.objs.size + 1) (.ins (G.cls c) hp.objs.size [])) H' → FrC G wa H H' := fun {H'} fr => ⟨fun b o e h nt => fr.kp b o (ext b o e) h nt, fun b e => by
    have q := fr.nn b e
    cases hb2 : H b with
    | none => rfl
    | some o => rw [ext b o hb2] at q; cases q⟩
  have hsp : spI G c f ps.length C (.ref (hp.objs.size + 1) :: pv vs) (upd (upd H hp.objs.size (.own (hp.objs.size + 1))) (hp.objs.size + 1) (.ins (G.cls c) hp.objs.size [])) (fun v H2 => v = .non ∧ Q (.ref (hp.objs.size + 1)) H2) E := by
    refine ⟨hp.objs.size + 1, hp.objs.size, pd ds, pv vs, wa, So, Qd, Ed, rfl, hn ds hl, upd_same, hwa, rd2, am2, hc, fun d v H' fr am' rdv q => ⟨rfl, ?_⟩, fun x cls dx' H' fr am' rx q => ?_⟩
    · have ha' : H' (hp.objs.size + 1) = some (.ins (G.cls c) hp.objs.size []) := fr.kp _ _ upd_same hwa noTbl_ins
      have kp' : Kp (fun b => So b ∨ b = hp.objs.size + 1) H' (upd H' (hp.objs.size + 1) (.ins (G.cls c) hp.objs.size [(f, v)])) := fun b o e n _ => by
        rw [upd_ne fun z => n (.inr z)]; exact e
      have fr2 := frd fr
      refine kq (.obj c [d]) _ _ ⟨fun b o e h nt => ?_, fun b e => ?_⟩ ⟨⟨am.so.1, fun b h => ?_⟩, fun hw => ?_, tabs_upd am'.ta ha'⟩ ?_ q
      · rw [upd_ne (ne_of_none e hz1)]; exact fr2.kp b o e h nt
      · refine fr2.nn b ?_
        by_cases z : b = hp.objs.size + 1
        · rw [z, upd_same] at e; cases e
        · rw [upd_ne z] at e; exact e
      · obtain ⟨o, e1, e2⟩ := am'.so.2 b (.inl h)
        exact ⟨o, by rw [upd_ne (soa b h)]; exact e1, e2⟩
      · obtain ⟨x, y, z, e, ok⟩ := am'.we hw
        exact ⟨x, y, z, by rw [upd_ne fun q => hwa hw q.symm]; exact e, ok⟩
      · have e1 : (G.fld c).zip [v] = [(f, v)] := by rw [hfl]; rfl
        refine .obj (xs := [v]) (dx := hp.objs.size) (by rw [upd_same, e1]) (fun h => soa _ h rfl) (by rw [hfl]; rfl) (.cons ?_ .nil)
        exact rdv.mono kp' (Sb.sub fun b h => .inl h) |>.mono Kp.refl (Sb.sub fun b h => h)
    · refine ke x cls dx' H' (frd fr) ⟨⟨am.so.1, fun b h => am'.so.2 b (.inl h)⟩, am'.we, am'.ta⟩ ?_ q
      obtain ⟨r1, r2⟩ := rx
      refine ⟨r1, ?_⟩
      rcases r2 with r2 | ⟨dd, xs, e1, e2, n, l, rd⟩
      · exact .inl r2
      · exact .inr ⟨dd, xs, e1, e2, fun z => n (.inl z), l, rd.mono Kp.refl (Sb.sub fun b z => .inl z)⟩
  have e0 := (env0_at hX I2).make (G.cls c) (mk us).pos (mk us).kw
  have run := F.run _ X.stack _ _ ⟨.ref (hp.objs.size + 1) :: (mk us).pos, (mk us).kw⟩ (.ref (hp.objs.size + 1) :: pm us) (.ref (hp.objs.size + 1) :: pv vs) _ E (hr.make (G.cls c) (mk us).pos (mk us).kw) e0 (hb _ (hp.objs.size + 1) us (by have q := I2.kIn; rw [hX.hK] at q; exact q) ul) (.cons rfl (hpv vl rv)) hsp
  rw [← hX.hP, ← hX.hw] at run
  have M2 := M
  rw [← hX.hK] at M2
  refine wpAny_call (make_map (f := fI) I.kIn M2.makes M2.init (beq_iff_eq.mp M2.fn) (codeAny_mono run fun rr s' hq => ?_))
  cases rr with
  | error u => exact hx _ _ u s' I2 hq
  | ok fl =>
    cases fl with
    | ret u =>
      obtain ⟨v, H', I3, rv', e4, q3⟩ := I2.after hq
      subst e4
      exact ⟨rv', ⟨.ref (hp.objs.size + 1), H', I3, rfl, q3⟩⟩
    | next => exact False.elim hq
    | brk => exact False.elim hq
    | cont => exact False.elim hq
/-- what a call of a class by names alone binds -/
def KwI (K : PySem.W.Frag) (fd : FuncData) (ps : List Str) (q : List Str × List Nat) : Prop := ∀ (s : Shared) (a : Addr) (us : List Value), K.In s.heap → us.length = q.1.length → BindsTo s fd ⟨[.ref a], q.1.zip us⟩ ((("self" : Str) :: ps).zip (.ref a :: permV q.2 us))
theorem RDs.perm {G : Wd} {wa : Addr} {H : Hp} {S : Addr → Prop} {ds : List D} {vs : List V} (r : RDs G wa H S ds vs) : ∀ {p : List Nat}, (∀ i ∈ p, i < ds.length) → RDs G wa H S (permD p ds) (p.map fun i => vs.getD i .non)
  | [], _ => .nil
  | i :: p, hp => by
    have hi := hp i List.mem_cons_self
    obtain ⟨v, h1, h2⟩ := r.get (List.getElem?_eq_getElem hi)
    refine .cons ?_ (RDs.perm r (p := p) fun j hj => hp j (List.mem_cons_of_mem _ hj))
    show RD G wa H S (ds.getD i .non) (vs.getD i .non)
    rw [List.getD_eq_getElem?_getD, List.getD_eq_getElem?_getD, List.getElem?_eq_getElem hi, h1]
    exact h2
theorem hasG_cls {G : Wd} {k n c : Nat} {f : Str} {g : GD} {fI : Addr} {fd : FuncData} (M : Mk G.K (G.cls c) fI) (lv : Nat) (F : FnOk G.P G.w G.K G.mg G.base (CX G.P G.w) lv fI fd (("self" : Str) :: g.ps) (spI G c f g.ps.length g.C)) (hfl : G.fld c = [f]) (mg : G.mg g.name = some (.ref (G.cls c))) (hf : G.cls c = G.glb n) (hlv : g.lvl = lv + 1)
    (b : Binds G.K fd (("self" : Str) :: g.ps) []) (kb : ∀ q ∈ g.kws, KwI G.K fd g.ps q ∧ q.1.length = g.ps.length ∧ q.2.length = g.ps.length ∧ (∀ i ∈ q.2, i < g.ps.length) ∧ ∀ i, i < g.ps.length → i ∈ q.2) (nc : ∀ ds Qd Ed, g.C ds Qd Ed → ∀ d ∈ ds, isClo d = false) (l : g.lvl ≤ k) : HasG G k g n := by
  refine ⟨⟨G.cls c, mg, hf, M.kp, ?_, fun q hq => ?_⟩, l⟩
  · rw [hlv]
    refine callX_cls (mk := fun us => ⟨us, []⟩) M F hfl (fun us => us) (fun ds => ds) (fun vs => vs) g.ps.length (fun _ h => h) (fun _ r => r) (fun _ r => r) (fun s a us X hl => ?_) fun ds Qd Ed _ h => nc ds Qd Ed h
    have q := b s (.ref a :: us) X (by rw [List.append_nil, List.length_cons, List.length_cons, hl])
    rw [List.append_nil] at q
    exact q
  · obtain ⟨h1, h2, h3, h4, h5⟩ := kb q hq
    refine ⟨?_, h2⟩
    rw [hlv]
    refine callX_cls (mk := fun us => ⟨[], q.1.zip us⟩) M F hfl (permV q.2) (permD q.2) (fun vs => q.2.map fun i => vs.getD i .non) q.1.length (fun ds hl => ?_) (fun {_ _ _ _ ds _} hl r => r.perm fun i hi => ?_) (fun {vs us} hl r => permV_vals r fun i hi => ?_) (fun s a us X hl => h1 s a us X hl) (fun ds Qd Ed hdl hc d hd => ?_)
    · unfold permD; rw [List.length_map, h3]
    · rw [hl, h2]; exact h4 i hi
    · rw [hl, h2]; exact h4 i hi
    · obtain ⟨i, hi, e⟩ := List.getElem_of_mem hd
      refine nc _ _ _ hc d (List.mem_map.mpr ⟨i, h5 i (by rw [← h2, ← hdl]; exact hi), ?_⟩)
      rw [List.getD_eq_getElem?_getD, List.getElem?_eq_getElem hi, e]; rfl
/-- a property, told by its getter -/
theorem prpG_of {G : Wd} {k c : Nat} {g : GD} {pa gf : Addr} {fd : FuncData} {j : Nat} (hp : PropOf G.K (G.cls c) g.name pa gf) (F : FnOk G.P G.w G.K G.mg G.base (CX G.P G.w) j gf fd g.ps (spC G g.ps g.C)) (b : Binds G.K fd g.ps []) (l : j + 1 ≤ k) (cl : Cls G.K (G.cls c)) (ps : g.ps.length = 1) : PrpG G k c g :=
  ⟨⟨pa, gf, fd, j, hp, F, b, l⟩, cl, ps⟩
/-! what the top leaves of a class -/
structure ClsF (K : PySem.W.Frag) (C fI : Addr) (f : Str) : Prop where
  ins : C8.InsC K C
  na : NoAttr K C f
  mks : Mk K C fI
/-- the class x of the module: its place, its __init__, its properties -/
def ClsAt (K : PySem.W.Frag) (x f : Str) (ini : Stmt) : Prop := ∃ (C fI : Addr) (fd : FuncData), PySem.W.nsIn K mainGlobals x = some (some (.ref C)) ∧ ClsF K C fI f ∧ L2.Fun K "__init__" (x ++ ".__init__") ini fI fd
def PrpAt (K : PySem.W.Frag) (x f : Str) (st : Stmt) : Prop := ∃ (C pa gf : Addr) (fd : FuncData), PySem.W.nsIn K mainGlobals x = some (some (.ref C)) ∧ PropOf K C f pa gf ∧ L2.Fun K f (x ++ "." ++ f) st gf fd
theorem cls_at {K : PySem.W.Frag} {x f : Str} {ini : Stmt} {C fI : Addr} {oc : Value} {od an : Option Addr} {osl : Array (Option Value)} {kV doc pm cdv ct : Value} (a : PySem.W.nsIn K mainGlobals x = some (some (.ref C)))
    (pg : PySem.W.plainGet K C Str.empty = true) (hd : PySem.W.hasDictIn K C = true) (po : PySem.W.plainOver K C = true) (sa : PySem.W.findIn K (.ref C) "__setattr__" = some (some (.builtin "object.__setattr__")))
    (ha : PySem.W.findIn K (.ref C) "__class__" = some (some (.builtin "object.__class__"))) (hn : PySem.W.specialIn K (.builtin "object.__class__") "__get__" = some (some (.builtin "getset_descriptor.__get__"))) (htk : PySem.W.takesIn K (.builtin "object.__class__") = some true)
    (hm : PySem.W.mroIn K C (.type "object") = some true) (me : PySem.W.kitOne K (.ref C) (.ref C) = some true) (na : PySem.W.findIn K (.ref C) f = some none) (mk : PySem.W.makesIn K C = true) (hi : PySem.W.findIn K (.ref C) "__init__" = some (some (.ref fI))) (fn : PySem.W.isFn K (.ref fI) = true) (kp : PySem.W.keepIn K (.ref C) = true)
    (l : K.lookup fI = some ⟨oc, od, .func (PySem.W.fnOf "__init__" (x ++ ".__init__") (defArgs ini) (defBody ini) (defScope ini) .none kV doc pm an cdv ct), osl⟩) (c : PySem.W.codeIn K cdv (x ++ ".__init__") = true) (k : PySem.W.keepIn K (.ref fI) = true) : ClsAt K x f ini :=
  ⟨C, fI, _, a, ⟨⟨⟨pg, hd, po, sa⟩, ha, hn, htk, hm, me⟩, na, ⟨mk, hi, fn, kp⟩⟩, L2.fun_mk l c k⟩
theorem prp_at {K : PySem.W.Frag} {x f : Str} {st : Stmt} {C pa gf : Addr} {oc : Value} {od an : Option Addr} {osl : Array (Option Value)} {kV doc pm cdv ct : Value} {rest : List Value} (a : PySem.W.nsIn K mainGlobals x = some (some (.ref C)))
    (h1 : PySem.W.findIn K (.ref C) f = some (some (.ref pa))) (h2 : PySem.W.specialIn K (.ref pa) "__get__" = some (some (.builtin "property.__get__"))) (h3 : PySem.W.takesIn K (.ref pa) = some true) (h4 : PySem.W.recIn K pa "property" = some (.ref gf :: rest))
    (l : K.lookup gf = some ⟨oc, od, .func (PySem.W.fnOf f (x ++ "." ++ f) (defArgs st) (defBody st) (defScope st) .none kV doc pm an cdv ct), osl⟩) (c : PySem.W.codeIn K cdv (x ++ "." ++ f) = true) (k : PySem.W.keepIn K (.ref gf) = true) : PrpAt K x f st :=
  ⟨C, pa, gf, _, a, ⟨h1, h2, h3, _, h4⟩, L2.fun_mk l c k⟩
end SD

set_option Elab.async false
set_option linter.all false
set_option maxRecDepth 100000
set_option maxHeartbeats 4000000
namespace SD
open PySem L2
/-! ## what many laws want -/
@[simp] theorem isDT_non : isDT .non = false := rfl
@[simp] theorem isDT_bl {b} : isDT (.bl b) = false := rfl
@[simp] theorem isDT_int {b} : isDT (.int b) = false := rfl
@[simp] theorem isDT_str {b} : isDT (.str b) = false := rfl
@[simp] theorem isDT_tup {b} : isDT (.tup b) = false := rfl
@[simp] theorem isDT_lst {b} : isDT (.lst b) = false := rfl
theorem cmulR {i j : Int} (h : -(2 ^ 64) < j ∧ j < 2 ^ 64) : CMul i j := .inr h
theorem cmulL {i j : Int} (h : -(2 ^ 64) < i ∧ i < 2 ^ 64) : CMul i j := .inl h
def C_draw : Contract
  | [.well, .int n], Q, _ => 0 < n ∧ n < 1073741824 ∧ ∀ r : Int, 0 ≤ r → r < n → Q (.int r)
  | _, _, _ => False
def g_draw (x : Str) : GD := { name := x, ps := ["well", "limit"], lvl := 1, C := C_draw }
def C_of : Contract
  | [.well, .tup l], Q, _ => l ≠ [] ∧ l.length < 1073741824 ∧ l.all (fun d => !isClo d) = true ∧ ∀ x ∈ l, Q x
  | [.well, .str s], Q, _ => s ≠ [] ∧ s.length ≤ 16777216 ∧ ∀ c ∈ s, Q (.str [c])
  | _, _, _ => False
def g_of (x : Str) : GD := { name := x, ps := ["well", "some"], lvl := 2, C := C_of }
theorem atI_nat {α : Type} {l : List α} {r : Int} (h0 : 0 ≤ r) (h1 : r < l.length) : ∃ x, x ∈ l ∧ atI l r = some x := by
  have h : r.toNat < l.length := by omega
  refine ⟨l[r.toNat], List.getElem_mem h, ?_⟩
  have e : ixN l.length r = some r.toNat := by
    unfold ixN
    simp -dsimp [h0, h1]
  rw [atI, e]
  exact List.getElem?_eq_getElem h
def C_shuffled : Contract
  | [.well, .lst l], Q, _ => l.length ≤ 16777216 ∧ l.all (fun d => !isClo d) = true ∧ ∀ l', l'.Perm l → Q (.lst l')
  | _, _, _ => False
def g_shuffled (x : Str) : GD := { name := x, ps := ["well", "some"], lvl := 2, C := C_shuffled }
theorem perm_take {α : Type} : ∀ (l : List α) (k : Nat) (x : α), l[k]? = some x → (x :: l.eraseIdx k).Perm l
  | a :: l, 0, x, h => by cases h; exact .refl _
  | a :: l, k + 1, x, h => by
    have ih := perm_take l k x (by simpa using h)
    exact (List.Perm.swap a x _).trans (ih.cons a)
theorem range_nat {n : Nat} (h : n ≤ 16777216) : iterW .range [.int (n : Int)] = some ((List.range n).map fun (k : Nat) => .int (k : Int)) := by
  rw [iterW_range, if_pos ⟨by omega, by omega⟩]
  rfl
theorem sort_map {α : Type} (f : α → D) (l : List α) (ho : ∀ a ∈ l, ∀ b ∈ l, ordT (f a) (f b) = true) (hi : l.Pairwise fun a b => deq (f a) (f b) = false) (hs : ∀ a ∈ l, ∀ b ∈ l, deq (f a) (f b) = deq (f b) (f a)) :
    ∃ l' : List α, l'.Perm l ∧ dsort (l.map f) = l'.map f ∧ l'.Pairwise fun a b => dlt (f a) (f b) = true := by
  let r : α → α → Bool := fun a b => tle (f a) (f b)
  have hp : (l.mergeSort r).Perm l := List.mergeSort_perm l r
  refine ⟨l.mergeSort r, hp, (List.map_mergeSort (r := r) (s := tle) (f := f) fun _ _ _ _ => rfl).symm, ?_⟩
  have h1 : (l.mergeSort r).Pairwise fun a b => r a b = true := List.pairwise_mergeSort (le := r) (fun a b c => tle_trans (f a) (f b) (f c)) (fun a b => tle_total (f a) (f b)) l
  have h2 : (l.mergeSort r).Pairwise fun a b => a ∈ l ∧ b ∈ l ∧ deq (f a) (f b) = false := by
    have h3 : l.Pairwise fun a b => a ∈ l ∧ b ∈ l ∧ deq (f a) (f b) = false := List.Pairwise.and_mem.mp hi |>.imp fun h => ⟨h.1, h.2.1, h.2.2⟩
    exact hp.symm.pairwise h3 fun {a b} h => ⟨h.2.1, h.1, by rw [hs b h.2.1 a h.1]; exact h.2.2⟩
  refine (h1.and h2).imp fun {a b} ⟨h3, ha, hb, h4⟩ => ?_
  obtain ⟨e1, e2⟩ := dCmp_is (f a) (f b) (ho a ha b hb)
  rw [e2]
  have h5 : tlt (f b) (f a) = false := by simpa [r, tle] using h3
  have h6 : dCmp (f b) (f a) = (dCmp (f a) (f b)).swap := dCmp_sw _ _
  unfold tlt at h5
  rw [h6] at h5
  rw [h4] at e1
  cases h : dCmp (f a) (f b) with
  | lt => rfl
  | eq => rw [h] at e1; cases e1
  | gt => rw [h] at h5; cases h5
def AllIn (l : List D) (Q : D → Prop) : Prop := ∀ x ∈ l, Q x
theorem C_of_tup {l : List D} {Q : D → Prop} {E} : C_of [.well, .tup l] Q E = (l ≠ [] ∧ l.length < 1073741824 ∧ l.all (fun d => !isClo d) = true ∧ AllIn l Q) := rfl
theorem C_of_str {l : List Nat} {Q : D → Prop} {E} : C_of [.well, .str l] Q E = (l ≠ [] ∧ l.length ≤ 16777216 ∧ ∀ c ∈ l, Q (.str [c])) := rfl
theorem inLet {ws : List (List Nat)} {x : List Nat} : ((ws.map D.str).any fun z => deq z (.str x)) = ws.contains x := any_str x ws
structure NamesOk (ns : List (List Nat)) : Prop where
  nm : ∀ x ∈ ns, isName (.str x) = true
  inc : ns.Pairwise fun a b => sLt a b = true
def C_names : Contract
  | [.well, .int n], Q, _ => 0 ≤ n ∧ n ≤ 26 ∧ ∀ ns, NamesOk ns → (ns.length : Int) = n → Q (.lst (ns.map .str))
  | _, _, _ => False
def g_names (x : Str) : GD := { name := x, ps := ["well", "many"], lvl := 3, C := C_names }
theorem range_n {n : Int} (h0 : 0 ≤ n) (h1 : n ≤ 26) : iterW .range [.int n] = some ((List.range n.toNat).map fun (k : Nat) => .int (k : Int)) := by
  have e : n = (n.toNat : Int) := by omega
  rw [e]
  exact range_nat (by omega)
theorem C_draw_is {n : Int} {Q : D → Prop} {E} : C_draw [.well, .int n] Q E = (0 < n ∧ n < 1073741824 ∧ ∀ r : Int, 0 ≤ r → r < n → Q (.int r)) := rfl
theorem C_names_is {n : Int} {Q : D → Prop} {E} : C_names [.well, .int n] Q E = (0 ≤ n ∧ n ≤ 26 ∧ ∀ ns, NamesOk ns → (ns.length : Int) = n → Q (.lst (ns.map .str))) := rfl
theorem C_shuffled_is {l : List D} {Q : D → Prop} {E} : C_shuffled [.well, .lst l] Q E = (l.length ≤ 16777216 ∧ l.all (fun d => !isClo d) = true ∧ ∀ l', l'.Perm l → Q (.lst l')) := rfl
theorem allSome_ints : ∀ xs : List Int, allSome (xs.map (unI ∘ D.int)) = some xs
  | [] => rfl
  | x :: xs => by
    have ih := allSome_ints xs
    show (allSome (xs.map (unI ∘ D.int))).map _ = _
    rw [ih]; rfl
theorem sum_bound {m : Int} : ∀ xs : List Int, (∀ x ∈ xs, -m ≤ x ∧ x ≤ m) → -(m * xs.length) ≤ xs.sum ∧ xs.sum ≤ m * xs.length
  | [], _ => by simp -dsimp
  | x :: xs, h => by
    have ih := sum_bound xs fun y hy => h y (List.mem_cons_of_mem _ hy)
    have hx := h x List.mem_cons_self
    have e : m * ((x :: xs).length : Int) = m * xs.length + m := by
      simp only [List.length_cons, Int.natCast_add, Int.mul_add]
      simp -dsimp
    rw [List.sum_cons, e]
    omega
theorem perm_map_inv {α β : Type} {f : α → β} {g : β → α} (h : ∀ x, g (f x) = x) {l : List α} {l' : List β} (hp : l'.Perm (l.map f)) : ∃ ss : List α, ss.Perm l ∧ l' = ss.map f := by
  refine ⟨l'.map g, ?_, ?_⟩
  · have := hp.map g
    rw [List.map_map] at this
    have e : l.map (g ∘ f) = l := by
      rw [show g ∘ f = id from funext h]; exact List.map_id l
    rwa [e] at this
  · rw [List.map_map]
    refine (List.map_id l').symm.trans (List.map_congr_left fun d hd => ?_)
    obtain ⟨x, _, rfl⟩ := List.mem_map.mp (hp.mem_iff.mp hd)
    show f x = f (g (f x))
    rw [h]
theorem perm_sum {l l' : List Int} (h : l.Perm l') : l.sum = l'.sum := by
  induction h with
  | nil => rfl
  | cons x _ ih => simp -dsimp [ih]
  | swap x y l => simp -dsimp; omega
  | trans _ _ a b => exact a.trans b
def restW (t : Tb) (Ex : ExV → DEnv → Prop) (l : List IS) (env : DEnv) (K : KS) : Prop := wpSs t Ex l env K
theorem wpSs_two {t : Tb} {Ex} {a b : IS} {l : List IS} {env K} : wpSs t Ex (a :: b :: l) env K = wpS t Ex a env { nx := fun e => wpS t Ex b e { nx := fun e => restW t Ex l e K, rt := K.rt, bk := K.bk, ct := K.ct }, rt := K.rt, bk := K.bk, ct := K.ct } := rfl
theorem deq_str (a b : List Nat) : deq (.str a) (.str b) = decide (a = b) := by
  show (a == b) = _
  exact Bool.eq_iff_iff.mpr (by simp -dsimp)
theorem sLt_irr : ∀ x : List Nat, sLt x x = false
  | [] => rfl
  | x :: l => by unfold sLt; rw [if_pos rfl]; exact sLt_irr l
theorem NamesOk.nodup {ns : List (List Nat)} (h : NamesOk ns) : ns.Nodup := h.inc.imp fun {a b} z e => by
  subst e
  rw [sLt_irr] at z
  cases z
theorem name_pl {x : List Nat} (h : isName (.str x) = true) : Pl (.str x) = true ∧ x.all (· < 0x110000) = true := by
  simp only [isName, isLet, Bool.and_eq_true, List.all_eq_true, decide_eq_true_eq] at h
  have h1 : x.all (· < 0x110000) = true := List.all_eq_true.mpr fun c hc => decide_eq_true ((show ∀ c ∈ letters, c < 0x110000 by decide) c (h.1.2 c hc))
  refine ⟨?_, h1⟩
  show (x.all (fun x => decide (x < 1114112)) && decide (x.length ≤ 16777216)) = true
  rw [h1]
  simp -dsimp
  omega
end SD

set_option Elab.async false
set_option linter.all false
set_option maxRecDepth 100000
set_option maxHeartbeats 4000000
namespace SD
open PySem PySem.Spec PyProof.Rows L2
/-! ## the end, where defs in defs are made -/
/-- the def x of the module, its code object and its table -/
def DefCAt (K : PySem.W.Frag) (x : Str) (st : Stmt) (c P : Addr) : Prop := ∃ (f : Addr) (fd : FuncData), PySem.W.nsIn K mainGlobals x = some (some (.ref f)) ∧ L2.Fun K x x st f fd ∧ fd.code = .ref c ∧ PySem.W.codeHdIn K c P = true ∧ K.lookup P = none
theorem defc_at {K : PySem.W.Frag} {x : Str} {st : Stmt} {f c P : Addr} {oc : Value} {od an : Option Addr} {osl : Array (Option Value)} {kV doc pm ct oc2 : Value} {od2 : Option Addr} {vs : Array Value} {sl2 : Array (Option Value)} (a : PySem.W.nsIn K mainGlobals x = some (some (.ref f)))
    (l : K.lookup f = some ⟨oc, od, .func (PySem.W.fnOf x x (defArgs st) (defBody st) (defScope st) .none kV doc pm an (.ref c) ct), osl⟩) (u : K.lookup c = some ⟨oc2, od2, .fields vs, sl2⟩) (t : vs[11]? = some (.ref P)) (h : PySem.W.codeHdIn K c P = true) (n : K.lookup P = none) (e : PySem.W.codeIn K (.ref c) x = true) (k : PySem.W.keepIn K (.ref f) = true) : DefCAt K x st c P :=
  ⟨f, _, a, L2.fun_mk l e k, rfl, h, n⟩
theorem kwb {K : PySem.W.Frag} {x qual : Str} {st : Stmt} {f : Addr} {fd : FuncData} {ps : List Str} {q : List Str × List Nat} (F : L2.Fun K x qual st f fd)
    (h : ∀ (kV doc pm : Value) (an : Option Addr) (cdv ct : Value) (us : List Value), us.length = q.1.length → bindArgs (PySem.W.fnOf x qual (defArgs st) (defBody st) (defScope st) .none kV doc pm an cdv ct) ⟨[], q.1.zip us⟩ = pure (ps.zip (permV q.2 us))) : KwB K fd ps q := by
  obtain ⟨oc, od, kV, doc, pm, an, cdv, ct, osl, rfl, lk, hcd⟩ := F.ex
  exact fun s us _ hl => .of_eq (h kV doc pm an cdv ct us hl)
theorem HasC.up {G : Wd} {j k n : Nat} {cd : CD} (h : HasC G j cd n) (l : j ≤ k) : HasC G k cd n := ⟨fun A outer s H us vs ds ws wss wa So Qd Ed Q E f cl c' hr => h.run A outer s H us vs ds ws wss wa So Qd Ed Q E f cl c' (hr.mono l)⟩
def spLawT (K : PySem.W.Frag) (cs : List (Addr × Addr)) : Sp := fun vs H Q _ => ∃ (a : Addr) (ns : List Int), vs = [.ref a] ∧ (∀ p ∈ cs, H p.2 = some (.tbl #[])) ∧ SqL K H a (ns.map V.int) ∧ ns.length ≤ 63 ∧ ∀ H', Q (.bl true) H'
theorem sp_lawT {G : Wd} {C : Contract} {H : Hp} {a : Addr} {ns : List Int} {Q : VK} {E : XK} {pn : Str} {cs : List (Addr × Addr)} (hw : G.hw = false) (hT : ∀ q ∈ G.T, ∃ p ∈ cs, q.1 = p.2) (hH : ∀ p ∈ cs, H p.2 = some (.tbl #[])) (h : SqL G.K H a (ns.map V.int))
    (hC : ∀ d, (d = .rl (ns.map D.int) ∨ d = .lst (ns.map D.int)) → C [d] (fun d => d = .bl true) fun _ => False) (hQ : ∀ H', Q (.bl true) H') : spC G [pn] C [.ref a] H Q E := by
  have rd : ∃ d, (d = .rl (ns.map D.int) ∨ d = .lst (ns.map D.int)) ∧ RD G a H (fun _ => False) d (.ref a) := by
    rcases h with (h | ⟨o, h⟩) | h
    · exact ⟨_, .inr rfl, .lst h (fun z => z) (rds_ints ns)⟩
    · exact ⟨_, .inl rfl, .rl h (fun z => z) (rds_ints ns)⟩
    · exact ⟨_, .inl rfl, .krl h (rds_ints ns)⟩
  obtain ⟨d, hd, rd⟩ := rd
  refine ⟨_, a, fun _ => False, _, _, rfl, .cons rd .nil, ⟨⟨fun z => absurd (hw.symm.trans z) Bool.false_ne_true, fun _ z => z.elim⟩, fun z => absurd (hw.symm.trans z) Bool.false_ne_true, fun q hq => ?_⟩, hC d hd, fun d v H' _ _ rd q => ?_, fun _ _ _ _ _ _ _ z => z.elim⟩
  · obtain ⟨p, hp, e⟩ := hT q hq
    refine NdefX.TabN.nil ?_
    rw [e]; exact hH p hp
  · subst q
    cases rd
    exact hQ H'
theorem walkLT {l : PySem.W.OpenLaw} {q : Program} {loose : List Str} {XP : (Str → Option Value) → Heap → Prop} {YP : World → Heap → Prop} {d : DefRec} {K : Params → PySem.W.Frag} (hn : l.most = some 63) (hdf : d.params.defaults = [])
    (hY : ∀ (w : World) (h : Heap), YP w h → (K w.params).In h)
    (F : ∀ (w : World) (mg : Str → Option Value) (fa : Addr) (h : Heap), YP w h → (K w.params).In h → h.Ns mainGlobals mg → mg d.name = some (.ref fa) →
      ∃ (fd : FuncData) (cs : List (Addr × Addr)), (∀ p ∈ cs, h.get? p.2 = some { cls := .none, data := .fields #[] }) ∧ (∀ p ∈ cs, (K w.params).lookup p.2 = none) ∧ (∀ p ∈ cs, PySem.W.CodeHd h p.1 p.2) ∧ (∀ (s : Shared) (u : Value), BindsTo s fd ⟨[u], []⟩ [("script", u)]) ∧
        ∀ base : Heap, (K w.params).In base → base.Ns mainGlobals mg → (∀ p ∈ cs, LamX.TabB base mg p.1 p.2) → FnOk l.prog w (K w.params) mg base (CX l.prog w) 60 fa fd ["script"] (spLawT (K w.params) cs)) :
    PySem.W.WalkO q loose XP YP l.row.toRowW d [] (fun f vs => PySem.call f vs) :=
  LamX.walk_ofTs (n := 63) (k := 60) (x := "script") (CX := fun w => CX l.prog w) hn (by decide) hdf ⟨rfl, by decide, by decide⟩ hY (fun w mg fa h Y KX G hmg => by
    obtain ⟨fd, cs, a1, a2, a3, a4, a5⟩ := F w mg fa h Y KX G hmg
    exact ⟨fd, cs, spLawT (K w.params) cs, a1, a2, a3, a4, fun H a ns hl _ hH hS => ⟨a, ns, rfl, hH, hS, hl, fun _ => rfl⟩, a5⟩) fun _ _ _ _ _ z => by obtain ⟨_, _, _, _, _, _, _, _, _, _, _, _, z⟩ := z; exact z
end SD

set_option Elab.async false
set_option linter.all false
set_option maxRecDepth 100000
set_option maxHeartbeats 4000000
namespace SD
open PySem L2
/-! ## the family of flows: what the defs do that stand in all of its laws -/
def i_is_cause : List IS := [.ite (.or [.not (.call 102 [.var 1, .lit (.int 3)]), .not (.call 109 [.op .idx [.bor 1, .lit (.int 0)], .var 0])]) [.ret (.lit (.bl false))] [], .ret (.and [.call 101 [.op .idx [.bor 1, .lit (.int 2)], .lit (.int 0), .con 319], .call 101 [.op .idx [.bor 1, .lit (.int 1)], .lit (.int 0), .op .idx [.bor 1, .lit (.int 2)]]])]
def i_are_causes : List IS := [.ndef 2 5, .ret (.op .eq [.callc 105 [.var 1, .con 322, .var 2] 5, .lst []])]
def i_is_event : List IS := [.ite (.or [.not (.call 102 [.var 1, .lit (.int 2)]), .not (.call 108 [.op .idx [.bor 1, .lit (.int 0)]]), .op .inn [.op .idx [.bor 1, .lit (.int 0)], .bor 0]]) [.ret (.lit (.bl false))] [], .ret (.call 1075 [.var 0, .op .idx [.bor 1, .lit (.int 1)]])]
def i_check_events : List IS := [.ndef 1 6, .ite (.or [.not (.op (.isi .tuple) [.bor 0]), .op .lt [.op .len [.bor 0], .con 320]]) [.never] [], .for_ (.nm 2) .it [.callc 2105 [.var 0, .con 321, .var 1] 6] [.never]]
def i_check_flow : List IS := [.ite (.not (.isc 1 (.var 0))) [.never] []]
def i_is_row : List IS := [.ite (.not (.call 102 [.var 1, .op .len [.bor 0]])) [.ret (.lit (.bl false))] [], .ret (.op .all_ [.comp [2, 3] (.tp [.nm 2, .nm 3]) .zip [.var 0, .var 1] [] (.call 101 [.var 3, .op .idx [.bor 2, .lit (.int 1)], .op .idx [.bor 2, .lit (.int 2)]])])]
def i_are_delays : List IS := [.ite (.not (.call 102 [.var 1, .op .len [.prop 1 1203 (.var 0)]])) [.ret (.lit (.bl false))] [], .ret (.op .all_ [.comp [2, 3] (.tp [.nm 2, .nm 3]) .zip [.prop 1 1203 (.var 0), .var 1] [] (.call 1159 [.op .idx [.bor 2, .lit (.int 1)], .var 3])])]
def i_days : List IS := [.expr (.call 1158 [.var 0]), .ite (.not (.call 1160 [.var 0, .var 1])) [.never] [], .ret (.call 1157 [.var 0, .var 1])]
def i_days_by : List IS := [.own 2 (.dnew false), .for_ (.tp [.tp [.nm 3, .nm 4], .nm 5]) .zip [.prop 1 1203 (.var 0), .var 1] [.put 2 (.var 3) (.op .max1 [.op .add [.lst [.lit (.int 0)], .comp [6, 7] (.tp [.nm 6, .nm 7]) .zip [.var 4, .var 5] [] (.op .add [.op .idx [.bor 2, .op .idx [.bor 6, .lit (.int 0)]], .bor 7])]])], .ret (.meth .tvals (.bor 2) [])]
def i__law_of : List IS := [.ret (.op .idx [.bor 1, .call 1900 [.var 0, .op .len [.bor 1]]])]
def i__law_names : List IS := [.par [(2, true, .lst []), (3, false, .lit (.str [97, 98, 99, 100, 101, 102, 103, 104, 105, 106, 107, 108, 109, 110, 111, 112, 113, 114, 115, 116, 117, 118, 119, 120, 121, 122]))], .for_ (.nm 4) .range [.var 1] [.par [(5, false, .call 1080 [.var 0, .lst [.lit (.int 0), .lit (.int 0), .lit (.int 1), .lit (.int 3), .lit (.int 6)]]), (6, false, .lit (.str []))], .for_ (.nm 7) .range [.var 5] [.set 6 (.op .add [.bor 6, .call 1080 [.var 0, .var 3]])], .set 8 (.call 1900 [.var 0, .op .add [.bor 5, .lit (.int 1)]]), .set 6 (.op .add [.op .add [.op .add [.op (.sl false true) [.bor 6, .bor 8], .op .idx [.bor 3, .bor 4]], .op (.sl false true) [.lit (.str [113]), .bor 5]], .op (.sl true false) [.bor 6, .bor 8]]), .set 9 (.call 1900 [.var 0, .op .add [.op .len [.bor 2], .lit (.int 1)]]), .expr (.mut .insert 2 [.var 9, .ite (.op .nin [.bor 6, .bor 2]) (.var 6) (.op .add [.op .mul [.op .idx [.bor 3, .bor 4], .lit (.int 7)], .lit (.str [113])])])], .ret (.var 2)]
def i__law_same (kc : List IE → IE) : List IS := [.ite (.or [.op (.isi .tuple) [.bor 1], .op (.isi .list) [.bor 1]]) [.ite (.or [.and [.op (.isi .tuple) [.bor 1], .not (.op (.isi .tuple) [.bor 0])], .and [.op (.isi .list) [.bor 1], .not (.op (.isi .list) [.bor 0])]]) [.ret (.lit (.bl false))] [], .ret (.and [.op .eq [.op .len [.bor 0], .op .len [.bor 1]], .op .all_ [.comp [2, 3] (.tp [.nm 2, .nm 3]) .zip [.var 0, .var 1] [] ((kc [.var 2, .var 3]))]])] [], .ite (.op .isN [.bor 1]) [.ret (.op .isN [.bor 0])] [], .ite (.or [.op (.isi .bool) [.bor 0], .op (.isi .bool) [.bor 1]]) [.ret (.and [.op (.isi .bool) [.bor 0], .op (.isi .bool) [.bor 1], .op .eq [.bor 0, .bor 1]])] [], .ite (.op (.isi .int) [.bor 1]) [.ret (.and [.op (.isi .int) [.bor 0], .op .eq [.bor 0, .bor 1]])] [], .ite (.op (.isi .str) [.bor 1]) [.ret (.and [.op (.isi .str) [.bor 0], .op .eq [.bor 0, .bor 1]])] [], .ret (.op .eq [.bor 0, .bor 1])]
def i__law_flow : List IS := [.par [(4, false, .call 1081 [.var 0, .var 1]), (5, true, .lst [])], .for_ (.tp [.nm 6, .nm 7]) .enum [.var 4] [.par [(8, true, .op (.sll false true) [.bor 4, .bor 6]), (9, true, .lst [])], .for_ (.nm 10) .range [.op .min2 [.bor 6, .call 1080 [.var 0, .lst [.lit (.int 1), .lit (.int 2), .lit (.int 2), .var 2, .call 1900 [.var 0, .op .add [.bor 2, .lit (.int 1)]]]]]] [.set 11 (.mut .pop1 8 [.call 1080 [.var 0, .lst [.op .sub [.op .len [.bor 8], .lit (.int 1)], .call 1900 [.var 0, .op .len [.bor 8]]]]]), .set 12 (.call 1080 [.var 0, .lst [.lit (.int 0), .lit (.int 0), .call 1900 [.var 0, .op .add [.bor 3, .lit (.int 1)]]]]), .expr (.mut .append 9 [.tup [.var 11, .var 12, .call 1080 [.var 0, .lst [.var 12, .op .add [.bor 12, .call 1900 [.var 0, .op .sub [.op .add [.bor 3, .lit (.int 1)], .bor 12]]], .var 3]]]])], .expr (.mut .append 5 [.tup [.var 7, .op .tuple_ [.op .sorted [.bor 9]]]])], .ret (.op .tuple_ [.bor 5])]
def i_Flow_init : List IS := [.expr (.call 1077 [.var 1])]
def e_Flow_init : IE := .tup [.var 1]
def i_Flow_events : List IS := [.ret (.op .idx [.fld 1 0 (.var 0), .lit (.int 0)])]
def i_Flow_parts : List IS := [.ret (.fld 1 0 (.var 0))]
def i_c5_are_causes : List IS := [.ret (.and [.call 1074 [.var 2, .var 0], .or [.op .eq [.bor 1, .tup []], .op .lt [.op .idx [.op .idx [.bor 1, .op .neg [.lit (.int 1)]], .lit (.int 0)], .op .idx [.bor 0, .lit (.int 0)]]]])]
def i_c6_check_events : List IS := [.ret (.call 1076 [.comp [2] (.nm 2) .it [.var 1] [] (.op .idx [.bor 2, .lit (.int 0)]), .var 0])]
end SD

set_option Elab.async false
set_option linter.all false
set_option maxRecDepth 100000
set_option maxHeartbeats 4000000
namespace SD
open PySem L2
/-! _law_take, _law_of -/
def i_take (c : Int) : List IS := [.ite (.op .gt [.wget 0 0, .lit (.int 0)]) [.wdm 0 0 2 (.op .divmod [.wget 0 0, .bor 1]), .ret (.var 2)] [], .wset 0 2 (.op .add [.wget 0 2, .lit (.int 1)]), .set 3 (.op .mod [.op .int_ [.op .add [.op .mul [.wget 0 1, .lit (.int c)], .op .mul [.lit (.int 16033), .wget 0 2]]], .lit (.int 2147483563)]), .wset 0 1 (.op .mod [.op .int_ [.op .add [.op .mul [.bor 3, .op .add [.op .mod [.op .int_ [.bor 3], .lit (.int 4999)], .lit (.int 30103)]], .op .mul [.lit (.int 5), .wget 0 2]]], .lit (.int 2147483563)]), .ret (.op .mod [.op .int_ [.op .fdiv [.wget 0 1, .lit (.int 811)]], .bor 1])]
def g_take : GD := { name := "_law_take", ps := ["urn", "many"], lvl := 1, C := C_draw }
theorem take_ok {t : Tb} {Ex} {c n : Int} {Q : D → Prop} (hc : 0 ≤ c ∧ c < 1000000) (h0 : 0 < n) (h1 : n < 1073741824) (q : ∀ r : Int, 0 ≤ r → r < n → Q (.int r)) : wpSs t Ex (i_take c) [some (false, .well), some (false, .int n), none, none] (endK Q) := by
  simp -dsimp [i_take, endK]
  intro w hw
  split
  · intro w2 hw2
    exact ⟨⟨h0, h1⟩, w2 / n, .int (w2 % n), ⟨rfl, rfl⟩, Int.ediv_nonneg hw2 (by omega), rfl, q _ (Int.emod_nonneg _ (by omega)) (Int.emod_lt_of_pos _ h0)⟩
  · intro w1 hw1
    refine ⟨by omega, fun w2 h2 h3 => ⟨cmulR (by omega), fun w3 h4 => ⟨cmulL (by omega), cmulR (by omega), fun w4 h5 => ⟨cmulL (by omega), Int.emod_nonneg _ (by decide), ?_, fun w5 h6 h7 => ⟨h0, q _ (Int.emod_nonneg _ (by omega)) (Int.emod_lt_of_pos _ h0)⟩⟩⟩⟩⟩
    have := Int.emod_lt_of_pos ((w2 * c + 16033 * w3) % 2147483563 * ((w2 * c + 16033 * w3) % 2147483563 % 4999 + 30103) + 5 * w4) (show (0 : Int) < 2147483563 by decide)
    omega
def C_uof : Contract
  | [.well, .tup l], Q, _ => l ≠ [] ∧ l.length < 1073741824 ∧ l.all (fun d => !isClo d) = true ∧ ∀ x ∈ l, Q x
  | [.well, .lst l], Q, _ => l ≠ [] ∧ l.length < 1073741824 ∧ l.all (fun d => !isClo d) = true ∧ ∀ x ∈ l, Q x
  | [.well, .str s], Q, _ => s ≠ [] ∧ s.length ≤ 16777216 ∧ ∀ c ∈ s, Q (.str [c])
  | _, _, _ => False
def g_uof : GD := { name := "_law_of", ps := ["urn", "some"], lvl := 2, C := C_uof }
theorem C_uof_lst {l : List D} {Q : D → Prop} {E} : C_uof [.well, .lst l] Q E = (l ≠ [] ∧ l.length < 1073741824 ∧ l.all (fun d => !isClo d) = true ∧ AllIn l Q) := rfl
theorem C_uof_str {l : List Nat} {Q : D → Prop} {E} : C_uof [.well, .str l] Q E = (l ≠ [] ∧ l.length ≤ 16777216 ∧ ∀ c ∈ l, Q (.str [c])) := rfl
theorem uof_ok {t : Tb} (g : t.gd 1900 = g_take) {Ex} {ds : List D} {Q : D → Prop} {E : ExV → Prop} {d : D} (h : C_uof [.well, d] Q E) : wpSs t Ex i__law_of [some (false, .well), some (false, d)] (endK Q) := by
  cases d with
  | tup l =>
    obtain ⟨h0, h1, h2, q⟩ := h
    have hl : 0 < l.length := List.length_pos_iff.mpr h0
    simp -dsimp [i__law_of, endK, callW, g, g_take, C_draw]
    refine ⟨hl, by omega, fun r h3 h4 => ?_⟩
    obtain ⟨x, hx, e⟩ := atI_nat (l := l) h3 h4
    have h5 := List.all_eq_true.mp h2 x hx
    rw [e]
    simpa using ⟨by simpa using h5, q x hx⟩
  | lst l =>
    obtain ⟨h0, h1, h2, q⟩ := h
    have hl : 0 < l.length := List.length_pos_iff.mpr h0
    simp -dsimp [i__law_of, endK, callW, g, g_take, C_draw]
    refine ⟨hl, by omega, fun r h3 h4 => ?_⟩
    obtain ⟨x, hx, e⟩ := atI_nat (l := l) h3 h4
    have h5 := List.all_eq_true.mp h2 x hx
    rw [e]
    simpa using ⟨by simpa using h5, q x hx⟩
  | str l =>
    obtain ⟨h0, h1, q⟩ := h
    have hl : 0 < l.length := List.length_pos_iff.mpr h0
    simp -dsimp [i__law_of, endK, callW, g, g_take, C_draw, Sz, h1]
    refine ⟨hl, by omega, fun r h3 h4 => ?_⟩
    obtain ⟨x, hx, e⟩ := atI_nat (l := l) h3 h4
    rw [e]
    simpa using q x hx
  | _ => exact h.elim
/-! _law_same -/
/-- plain data, n deep -/
def isU : Nat → D → Prop
  | _, .non => True
  | _, .int _ => True
  | _, .bl _ => True
  | _, .str x => x.all (· < 0x110000) = true
  | n + 1, .tup l => l.length ≤ 16777216 ∧ ∀ d ∈ l, isU n d
  | n + 1, .lst l => l.length ≤ 16777216 ∧ ∀ d ∈ l, isU n d
  | _, _ => False
theorem isU_clo {n : Nat} {d : D} (h : isU n d) : isClo d = false := by
  cases d <;> first | rfl | (cases n <;> exact h.elim)
def C_usame (n : Nat) : Contract
  | [a, b], Q, _ => a = b ∧ isU n b ∧ Q (.bl true)
  | _, _, _ => False
def g_usame (n : Nat) : GD := { name := "_law_same", ps := ["one", "two"], lvl := n + 1, C := C_usame n }
theorem C_usame_eq {n : Nat} {a b : D} {Q : D → Prop} {E} : C_usame n [a, b] Q E = (a = b ∧ isU n b ∧ Q (.bl true)) := rfl
theorem usame_leaf {t : Tb} {kc : List IE → IE} {Ex : ExV → DEnv → Prop} {d : D} {Q : D → Prop} (h : isU 0 d) (q : Q (.bl true)) : wpSs t Ex (i__law_same kc) [some (false, d), some (false, d), none, none] (endK Q) := by
  cases d <;> first | exact h.elim | skip
  · simp -dsimp [i__law_same, endK, isTy]
    exact q
  · rename_i b
    simp -dsimp [i__law_same, endK, isTy, okD, deq]
    exact q
  · rename_i i
    simp -dsimp [i__law_same, endK, isTy, okD, deq]
    exact q
  · rename_i x
    have ok : okD (.str x) 20 = true := h
    simp -dsimp [i__law_same, endK, isTy, ok, deq_str]
    exact q
theorem zip_self_D (l : List D) : l.zip l = l.map fun d => (d, d) := by
  induction l with
  | nil => rfl
  | cons a l ih => simp [ih]
theorem usame_ok {t : Tb} {kk n : Nat} (g : t.gd kk = g_usame n) {Ex : ExV → DEnv → Prop} {a b : D} {Q : D → Prop} {E : ExV → Prop} (h : C_usame (n + 1) [a, b] Q E) : wpSs t Ex (i__law_same fun l => .call kk l) [some (false, a), some (false, b), none, none] (endK Q) := by
  obtain ⟨rfl, hd, q⟩ := h
  have fin : ∀ (l : List D) (f : D → D), wO (allSome (List.map unB (List.map (fun x => D.bl true) (List.map f l)))) fun bs => Q (D.bl (bs.all id)) := fun l f => by
    have e1 : (l.map f).map (fun _ => D.bl true) = (l.map fun _ => true).map D.bl := by rw [List.map_map, List.map_map]; rfl
    rw [e1, List.map_map]
    have e0 : allSome ((l.map fun _ => true).map (unB ∘ D.bl)) = some (l.map fun _ => true) := by
      have h := allSome_bl (l.map fun _ => true)
      rw [List.map_map] at h
      exact h
    rw [e0, wO_some]
    have e2 : (l.map fun _ => true).all id = true := by simp -dsimp
    rw [e2]
    exact q
  cases a with
  | non => exact usame_leaf (d := .non) trivial q
  | int i => exact usame_leaf (d := .int i) trivial q
  | bl b => exact usame_leaf (d := .bl b) trivial q
  | str x => exact usame_leaf (d := .str x) hd q
  | tup l =>
    obtain ⟨hl, hi⟩ := hd
    simp -dsimp [i__law_same, endK, isTy, okD, deq, zip_self_D]
    refine compL_map1 (fun _ => .bl true) _ ?_ (by simp; exact hl) ?_
    · intro x hx K hK
      obtain ⟨d, hd, rfl⟩ := List.mem_map.mp hx
      simp -dsimp [asgT, asgTs, callW, g, g_usame, C_usame_eq, hi d hd, isU_clo (hi d hd)]
      exact hK
    · exact fin l _
  | lst l =>
    obtain ⟨hl, hi⟩ := hd
    simp -dsimp [i__law_same, endK, isTy, okD, deq, zip_self_D]
    refine compL_map1 (fun _ => .bl true) _ ?_ (by simp; exact hl) ?_
    · intro x hx K hK
      obtain ⟨d, hd, rfl⟩ := List.mem_map.mp hx
      simp -dsimp [asgT, asgTs, callW, g, g_usame, C_usame_eq, hi d hd, isU_clo (hi d hd)]
      exact hK
    · exact fin l _
  | _ => exact hd.elim
theorem usame_ok0 {t : Tb} {Ex : ExV → DEnv → Prop} {a b : D} {Q : D → Prop} {E : ExV → Prop} (h : C_usame 0 [a, b] Q E) : wpSs t Ex (i__law_same fun _ => .bot) [some (false, a), some (false, b), none, none] (endK Q) := by
  obtain ⟨rfl, hd, q⟩ := h
  exact usame_leaf hd q
end SD

set_option Elab.async false
set_option linter.all false
set_option maxRecDepth 100000
set_option maxHeartbeats 4000000
namespace SD
open PySem L2
/-! _law_names -/
theorem dCut_dropN {α : Type} (l : List α) (i : Nat) : dCut l (some (i : Int)) none = l.drop i := by
  have e1 : HT.sIx l.length 0 (some (i : Int)) = min i l.length := by
    show (if (i : Int) < 0 then ((i : Int) + (l.length : Int)).toNat else min (i : Int).toNat l.length) = _
    rw [if_neg (by omega)]; simp
  have e2 : HT.sIx l.length l.length none = l.length := rfl
  unfold dCut
  rw [e1, e2]
  by_cases h : i ≤ l.length
  · rw [Nat.min_eq_left h, List.take_of_length_le (by rw [List.length_drop]; omega)]
  · rw [Nat.min_eq_right (by omega), List.drop_eq_nil_of_le (Nat.le_refl _), List.drop_eq_nil_of_le (by omega)]; simp
structure UP (k : Nat) (x : List Nat) : Prop where
  nm : isName (.str x) = true
  has : 97 + k ∈ x
  qs : k = 16 → x = [113] ∨ 2 ≤ x.count 113
structure UNames (ns : List (List Nat)) : Prop where
  nm : ∀ x ∈ ns, isName (.str x) = true
  nd : ns.Nodup
theorem isName_mk {x : List Nat} (h1 : 1 ≤ x.length) (h8 : x.length ≤ 8) (hl : ∀ c ∈ x, c ∈ letters) (hw : x.length = 1 ∨ 113 ∈ x ∧ x.length ≠ 4) : isName (.str x) = true := by
  have ww : ∀ w ∈ wordsL, w.length ≠ 1 ∧ (113 ∈ w → w.length = 4) := by decide
  have a : isLet (.str x) 1 8 = true := by
    have h : x.all (· ∈ letters) = true := List.all_eq_true.mpr fun c hc => decide_eq_true (hl c hc)
    have h3 : decide ((1 : Int) ≤ (x.length : Int)) = true := decide_eq_true (by omega)
    have h4 : decide ((x.length : Int) ≤ 8) = true := decide_eq_true (by omega)
    simp only [isLet, h, h3, h4]
    rfl
  have b : wordsL.contains x = false := by
    rw [Bool.eq_false_iff]
    intro h
    obtain ⟨w1, w2⟩ := ww x (List.contains_iff_mem.mp h)
    rcases hw with e | ⟨e1, e2⟩
    · exact w1 e
    · exact e2 (w2 e1)
  simp only [isName, a, b]
  rfl
theorem let97 {k : Nat} (h : k < 26) : 97 + k ∈ letters := by
  have : ∀ k < 26, 97 + k ∈ letters := by decide
  exact this k h
theorem letAt {k : Nat} (h : k < 26) : atI letters (k : Int) = some (97 + k) := by
  have e : ixN letters.length (k : Int) = some k := by
    unfold ixN
    rw [if_pos (by omega), if_pos (by show (k : Int) < 26; omega)]
    simp
  have : ∀ k < 26, letters[k]? = some (97 + k) := by decide
  rw [atI, e]
  exact this k h
/-- the name of a turn -/
theorem up_new {i at_ : Nat} {nm : List Nat} (hi : i < 26) (hl : ∀ c ∈ nm, c ∈ letters) (hz : nm.length ≤ 6) (h4 : nm.length ≠ 2) : UP i (nm.take at_ ++ [97 + i] ++ (if nm.length = 0 then [] else [113]) ++ nm.drop at_) := by
  have q97 : 113 ∈ letters := by decide
  have hlen : (nm.take at_).length + (nm.drop at_).length = nm.length := by rw [List.length_take, List.length_drop]; omega
  have hall : ∀ c ∈ nm.take at_ ++ [97 + i] ++ (if nm.length = 0 then [] else [113]) ++ nm.drop at_, c ∈ letters := fun c hc => by
    rcases List.mem_append.mp hc with hc | hc
    · rcases List.mem_append.mp hc with hc | hc
      · rcases List.mem_append.mp hc with hc | hc
        · exact hl c (List.mem_of_mem_take hc)
        · rw [List.mem_singleton.mp hc]; exact let97 hi
      · split at hc
        · cases hc
        · rw [List.mem_singleton.mp hc]; exact q97
    · exact hl c (List.mem_of_mem_drop hc)
  by_cases h0 : nm.length = 0
  · have e : nm = [] := List.eq_nil_of_length_eq_zero h0
    subst e
    refine ⟨isName_mk (by simp) (by simp) hall (.inl (by simp)), by simp, fun e => .inl ?_⟩
    subst e; simp
  · rw [if_neg h0]
    rw [if_neg h0] at hall
    refine ⟨isName_mk (by simp; omega) (by simp only [List.length_append, List.length_singleton]; omega) hall (.inr ⟨by simp, by simp only [List.length_append, List.length_singleton]; omega⟩), by simp, fun e => .inr ?_⟩
    subst e
    simp only [List.count_append]
    have a1 : List.count 113 [97 + 16] = 1 := by decide
    rw [a1]
    have a2 : List.count 113 [113] = 1 := by decide
    omega
theorem up_back {i : Nat} (hi : i < 26) : UP i (List.replicate 7 (97 + i) ++ [113]) := by
  refine ⟨isName_mk (by simp) (by simp) (fun c hc => ?_) (.inr ⟨by simp, by simp⟩), by simp [List.replicate], fun e => .inr ?_⟩
  · rcases List.mem_append.mp hc with h | h
    · rw [(List.mem_replicate.mp h).2]; exact let97 hi
    · rw [List.mem_singleton.mp h]; decide
  · subst e; decide
theorem up_fresh {i k : Nat} {x : List Nat} (hk : k < i) (h : UP k x) : x ≠ List.replicate 7 (97 + i) ++ [113] := fun e => by
  subst e
  have h1 := h.has
  rcases List.mem_append.mp h1 with h2 | h2
  · have := (List.mem_replicate.mp h2).2
    omega
  · have hk16 : k = 16 := by
      have := List.mem_singleton.mp h2
      omega
    rcases h.qs hk16 with e | e
    · simp [List.replicate] at e
    · rw [List.count_append, List.count_replicate] at e
      have h3 : ((97 + i == 113) = true) = False := by
        have : 97 + i ≠ 113 := by omega
        simp [this]
      rw [if_neg (by rw [h3]; exact fun z => z)] at e
      have a2 : List.count 113 [113] = 1 := by decide
      rw [a2] at e
      omega
theorem inL8 {F : List (List Nat)} {x : List Nat} (hx : x.all (· < 0x110000) = true) (hF : ∀ w ∈ F, w.all (· < 0x110000) = true) : isIn (.str x) (.lst (F.map D.str)) = some (decide (x ∈ F)) := by
  have h1 : okD (.str x) 20 = true := hx
  have h3 : F.contains x = decide (x ∈ F) := Bool.eq_iff_iff.mpr (by simp)
  rw [isIn_lst, h1, okDs_str hF, any_str, h3]; rfl
def C_unames : Contract
  | [.well, .int n], Q, _ => 0 ≤ n ∧ n ≤ 26 ∧ ∀ ns, UNames ns → (ns.length : Int) = n → Q (.lst (ns.map .str))
  | _, _, _ => False
def g_unames : GD := { name := "_law_names", ps := ["urn", "many"], lvl := 3, C := C_unames }
def una : List IS := [.par [(5, false, .call 1080 [.var 0, .lst [.lit (.int 0), .lit (.int 0), .lit (.int 1), .lit (.int 3), .lit (.int 6)]]), (6, false, .lit (.str []))], .for_ (.nm 7) .range [.var 5] [.set 6 (.op .add [.bor 6, .call 1080 [.var 0, .var 3]])]]
def unb : List IS := [.set 8 (.call 1900 [.var 0, .op .add [.bor 5, .lit (.int 1)]]), .set 6 (.op .add [.op .add [.op .add [.op (.sl false true) [.bor 6, .bor 8], .op .idx [.bor 3, .bor 4]], .op (.sl false true) [.lit (.str [113]), .bor 5]], .op (.sl true false) [.bor 6, .bor 8]]), .set 9 (.call 1900 [.var 0, .op .add [.op .len [.bor 2], .lit (.int 1)]]), .expr (.mut .insert 2 [.var 9, .ite (.op .nin [.bor 6, .bor 2]) (.var 6) (.op .add [.op .mul [.op .idx [.bor 3, .bor 4], .lit (.int 7)], .lit (.str [113])])])]
theorem wpSs_app2 {t : Tb} {Ex : ExV → DEnv → Prop} {r : List IS} {K : KS} : ∀ {l : List IS} {env : DEnv}, wpSs t Ex (l ++ r) env K = wpSs t Ex l env { nx := fun e => restW t Ex r e K, rt := K.rt, bk := K.bk, ct := K.ct }
  | [], _ => rfl
  | s :: l, env => by
    show wpS t Ex s env { nx := fun env' => wpSs t Ex (l ++ r) env' K, rt := K.rt, bk := K.bk, ct := K.ct } = _
    simp only [wpSs_app2 (l := l)]
    rfl
theorem unames_split : i__law_names = [.par [(2, true, .lst []), (3, false, .lit (.str letters))], .for_ (.nm 4) .range [.var 1] (una ++ unb), .ret (.var 2)] := rfl
abbrev uE (n : Int) (ns : List (List Nat)) (i : Int) (a5 a6 a7 a8 a9 : Slt) : DEnv := [some (false, .well), some (false, .int n), some (true, .lst (ns.map D.str)), some (false, .str letters), some (false, .int i), a5, a6, a7, a8, a9]
theorem una_ok {t : Tb} (g1 : t.gd 1080 = g_uof) {Ex} {n i : Int} {ns : List (List Nat)} {a5 a6 a7 a8 a9 : Slt} {K : KS} (hK : ∀ (nm : List Nat) (a7 : Slt), (∀ c ∈ nm, c ∈ letters) → nm.length ≤ 6 → nm.length ≠ 2 → K.nx (uE n ns i (some (false, .int nm.length)) (some (false, .str nm)) a7 a8 a9)) :
    wpSs t Ex una (uE n ns i a5 a6 a7 a8 a9) K := by
  simp -dsimp [una, storeP, callW, g1, g_uof, C_uof_lst]
  intro d hd
  have hd2 : ∃ r : Nat, r ≤ 6 ∧ r ≠ 2 ∧ d = .int (r : Int) := by
    simp only [List.mem_cons, List.not_mem_nil, or_false] at hd
    rcases hd with rfl | rfl | rfl | rfl | rfl
    · exact ⟨0, by decide, by decide, rfl⟩
    · exact ⟨0, by decide, by decide, rfl⟩
    · exact ⟨1, by decide, by decide, rfl⟩
    · exact ⟨3, by decide, by decide, rfl⟩
    · exact ⟨6, by decide, by decide, rfl⟩
  obtain ⟨r, r6, r2, rfl⟩ := hd2
  simp -dsimp [range_nat (show r ≤ 16777216 by omega)]
  refine forL_inv (fun j en => ∃ nm a7, en = uE n ns i (some (false, .int (r : Int))) (some (false, .str nm)) a7 a8 a9 ∧ nm.length = j ∧ ∀ c ∈ nm, c ∈ letters) _ _ 0 ⟨[], _, rfl, rfl, by simp⟩ ?_ ?_
  · rintro j y en K2 hj ⟨nm, b7, rfl, hnl, hnm⟩ hK2
    have hj2 : j < r := by
      have := (List.getElem?_eq_some_iff.mp hj).1
      simpa using this
    simp -dsimp [C_uof_str, Sz]
    refine ⟨by decide, by decide, fun c hc => ⟨by omega, hK2 _ ⟨nm ++ [c], _, rfl, by simp; omega, fun c' hc' => ?_⟩⟩⟩
    rcases List.mem_append.mp hc' with h | h
    · exact hnm c' h
    · rw [List.mem_singleton.mp h]; exact hc
  · rintro en ⟨nm, b7, rfl, hnl, hnm⟩
    simp -dsimp at hnl
    have e : (r : Int) = (nm.length : Int) := by omega
    rw [e]
    exact hK nm b7 hnm (by omega) (by omega)
theorem q_take (n : Nat) : ([113] : List Nat).take n = if n = 0 then [] else [113] := by
  cases n with
  | zero => rfl
  | succ n => simp
theorem unb_ok {t : Tb} (g1 : t.gd 1900 = g_take) {Ex} {n : Int} {i : Nat} {ns : List (List Nat)} {nm : List Nat} {a7 a8 a9 : Slt} {K : KS} (hi : i < 26) (hlen : ns.length ≤ 26) (hns : ∀ x ∈ ns, ∃ k, k < i ∧ UP k x) (hl : ∀ c ∈ nm, c ∈ letters) (h6 : nm.length ≤ 6) (h2 : nm.length ≠ 2)
    (hK : ∀ (p : Nat) (y : List Nat) (a6 a8 a9 : Slt), p ≤ ns.length → UP i y → y ∉ ns → K.nx (uE n (ns.take p ++ [y] ++ ns.drop p) i (some (false, .int nm.length)) a6 a7 a8 a9)) :
    wpSs t Ex unb (uE n ns i (some (false, .int nm.length)) (some (false, .str nm)) a7 a8 a9) K := by
  simp -dsimp [-isIn_lst, unb, callW, g1, g_take, C_draw_is]
  refine ⟨by omega, ?_⟩
  intro r r0 r1
  obtain ⟨at_, rfl⟩ : ∃ k : Nat, r = (k : Int) := ⟨r.toNat, by omega⟩
  have hw := up_new (at_ := at_) hi hl h6 h2
  rw [← q_take] at hw
  have hF : ∀ w ∈ ns, w.all (· < 0x110000) = true := fun w hw => by
    obtain ⟨k, _, u⟩ := hns w hw
    exact (name_pl u.nm).2
  rw [dCut_take, dCut_take, dCut_dropN, letAt hi, wO_some]
  have e1 : nm.take at_ ++ [97 + i] ++ List.take nm.length [113] ++ nm.drop at_ = List.take at_ nm ++ (97 + i) :: (List.take nm.length [113] ++ List.drop at_ nm) := by simp
  rw [e1] at hw
  have hx := name_pl hw.nm
  have t1 : (nm.take at_).length ≤ 6 := by rw [List.length_take]; omega
  have t2 : (nm.drop at_).length ≤ 6 := by rw [List.length_drop]; omega
  have t3 : (List.take nm.length [113]).length ≤ 1 := by rw [List.length_take]; simp; omega
  have ll : letters.length = 26 := rfl
  refine ⟨by omega, by omega, by omega, by omega, by omega, by omega, by omega, fun p p0 p1 => ?_⟩
  obtain ⟨p, rfl⟩ : ∃ k : Nat, p = (k : Int) := ⟨p.toNat, by omega⟩
  rw [inL8 hx.2 hF, wO_some]
  have ins : ∀ (y : List Nat) (a6 : Slt), UP i y → y ∉ ns → K.nx [some (false, D.well), some (false, D.int n), some (true, D.lst (List.take p (List.map D.str ns) ++ [D.str y] ++ List.drop p (List.map D.str ns))), some (false, D.str letters), some (false, D.int ↑i), some (false, D.int ↑nm.length), a6, a7, some (false, D.int ↑at_), some (false, D.int ↑p)] := fun y a6 u hy => by
    have := hK p y a6 (some (false, D.int ↑at_)) (some (false, D.int ↑p)) (by omega) u hy
    have e2 : (ns.take p ++ [y] ++ ns.drop p).map D.str = List.take p (List.map D.str ns) ++ [D.str y] ++ List.drop p (List.map D.str ns) := by
      rw [List.map_append, List.map_append, List.map_take, List.map_drop]; rfl
    unfold uE at this
    rw [e2] at this
    exact this
  by_cases hm : List.take at_ nm ++ (97 + i) :: (List.take nm.length [113] ++ List.drop at_ nm) ∈ ns
  · rw [if_pos (decide_eq_true hm), ll, wO_some, opW_mulS]
    have e3 : (List.replicate (7 : Int).toNat [97 + i]).flatten = List.replicate 7 (97 + i) := by simp [List.replicate]
    rw [e3]
    have hb := up_back hi
    refine ⟨by omega, ⟨by simp, by decide, by decide⟩, ⟨by simp, rfl, ⟨by simp; omega, by omega, by omega⟩, ?_⟩⟩
    exact ins _ _ hb fun h => by
      obtain ⟨k, hk, u⟩ := hns _ h
      exact up_fresh hk u rfl
  · rw [if_neg (by simpa using hm)]
    refine ⟨⟨by simp; omega, by omega, by omega⟩, ?_⟩
    exact ins _ _ hw hm
theorem unames_ok {t : Tb} (g1 : t.gd 1900 = g_take) (g2 : t.gd 1080 = g_uof) {Ex} {n : Int} {Q : D → Prop} {E : ExV → Prop} (h : C_unames [.well, .int n] Q E) : wpSs t Ex i__law_names [some (false, .well), some (false, .int n), none, none, none, none, none, none, none, none] (endK Q) := by
  obtain ⟨h0, h1, q⟩ := h
  rw [unames_split]
  simp -dsimp [endK, storeP, range_n h0 h1]
  refine forL_inv (fun i en => ∃ ns a4 a5 a6 a7 a8 a9, en = [some (false, D.well), some (false, .int n), some (true, .lst (ns.map D.str)), some (false, .str letters), a4, a5, a6, a7, a8, a9] ∧ ns.length = i ∧ ns.Nodup ∧ ∀ x ∈ ns, ∃ k, k < i ∧ UP k x) _ _ 0 ⟨[], none, none, none, none, none, none, rfl, rfl, List.nodup_nil, by simp⟩ ?_ ?_
  · rintro i x en K hi ⟨ns, a4, a5, a6, a7, a8, a9, rfl, hl, hnd, hns⟩ hK
    have hi2 : i < n.toNat := by
      have := (List.getElem?_eq_some_iff.mp hi).1
      simpa using this
    rw [Nat.zero_add] at hl hns hK
    rw [List.getElem?_map, List.getElem?_range hi2] at hi
    cases hi
    rw [wpSs_app2]
    refine una_ok g2 fun nm a7' hl1 h6 h2 => ?_
    dsimp only
    unfold restW
    refine unb_ok g1 (by omega) (by omega) (fun x hx => by
      obtain ⟨k, hk, u⟩ := hns x hx
      exact ⟨k, hk, u⟩) hl1 h6 h2 fun p y a6 b8 b9 hp u hy => ?_
    have hperm : (ns.take p ++ [y] ++ ns.drop p).Perm (y :: ns) := by
      have := List.perm_middle (a := y) (l₁ := ns.take p) (l₂ := ns.drop p)
      rw [List.take_append_drop] at this
      simpa using this
    refine hK _ ⟨_, _, _, _, _, _, _, rfl, by rw [hperm.length_eq]; simp; omega, hperm.symm.nodup (List.nodup_cons.mpr ⟨hy, hnd⟩), fun x hx => ?_⟩
    rcases List.mem_cons.mp (hperm.mem_iff.mp hx) with rfl | hx
    · exact ⟨i, by omega, u⟩
    · obtain ⟨k, hk, u⟩ := hns x hx
      exact ⟨k, by omega, u⟩
  · rintro en ⟨ns, a4, a5, a6, a7, a8, a9, rfl, hl, hnd, hns⟩
    simp -dsimp at hl
    simp -dsimp
    exact q ns ⟨fun x hx => by obtain ⟨k, _, u⟩ := hns x hx; exact u.nm, hnd⟩ (by omega)
end SD

set_option Elab.async false
set_option linter.all false
set_option maxRecDepth 100000
set_option maxHeartbeats 4000000
namespace SD
open PySem L2
/-! ## flows, plainly -/
abbrev Nm := List Nat
abbrev Ca := Nm × Int × Int
abbrev Ev := Nm × List Ca
def caD (c : Ca) : D := .tup [.str c.1, .int c.2.1, .int c.2.2]
theorem caD_def {c : Ca} : caD c = .tup [.str c.1, .int c.2.1, .int c.2.2] := rfl
def evD (e : Ev) : D := .tup [.str e.1, .tup (e.2.map caD)]
theorem evD_def {e : Ev} : evD e = .tup [.str e.1, .tup (e.2.map caD)] := rfl
def evsD (es : List Ev) : D := .tup (es.map evD)
def nms (es : List Ev) : List Nm := es.map (·.1)
structure CaOk (names : List Nm) (c : Ca) : Prop where
  m : c.1 ∈ names
  lo : 0 ≤ c.2.1
  le : c.2.1 ≤ c.2.2
  hi : c.2.2 ≤ 30
structure CasOk (names : List Nm) (cs : List Ca) : Prop where
  c : ∀ c ∈ cs, CaOk names c
  inc : cs.Pairwise fun a b => sLt a.1 b.1 = true
  l6 : cs.length ≤ 6
structure FlowOk (es : List Ev) : Prop where
  l2 : 2 ≤ es.length
  l20 : es.length ≤ 20
  nm : ∀ e ∈ es, isName (.str e.1) = true
  nd : (nms es).Nodup
  cs : ∀ i e, es[i]? = some e → CasOk ((nms es).take i) e.2
theorem nm_lt {es : List Ev} (h : ∀ e ∈ es, isName (.str e.1) = true) : ∀ w ∈ nms es, w.all (· < 0x110000) = true := fun w hw => by
  obtain ⟨e, he, rfl⟩ := List.mem_map.mp hw
  exact (name_pl (h e he)).2
/-! _law_flow -/
def C_flow : Contract
  | [.well, .int n, .int m, .int h], Q, _ => 2 ≤ n ∧ n ≤ 20 ∧ 0 ≤ m ∧ m ≤ 6 ∧ 0 ≤ h ∧ h ≤ 30 ∧ ∀ es, FlowOk es → (es.length : Int) = n → (∀ e ∈ es, (2 ≤ m → (e.2.length : Int) ≤ m) ∧ ∀ c ∈ e.2, c.2.2 ≤ h) → Q (evsD es)
  | _, _, _ => False
def g_flow : GD := { name := "_law_flow", ps := ["urn", "many", "most", "high"], lvl := 4, C := C_flow }
theorem C_unames_is {n : Int} {Q : D → Prop} {E} : C_unames [.well, .int n] Q E = (0 ≤ n ∧ n ≤ 26 ∧ ∀ ns, UNames ns → (ns.length : Int) = n → Q (.lst (ns.map .str))) := rfl
def fla : List IS := [.par [(8, true, .op (.sll false true) [.bor 4, .bor 6]), (9, true, .lst [])]]
def flb : List IS := [.set 11 (.mut .pop1 8 [.call 1080 [.var 0, .lst [.op .sub [.op .len [.bor 8], .lit (.int 1)], .call 1900 [.var 0, .op .len [.bor 8]]]]]), .set 12 (.call 1080 [.var 0, .lst [.lit (.int 0), .lit (.int 0), .call 1900 [.var 0, .op .add [.bor 3, .lit (.int 1)]]]]), .expr (.mut .append 9 [.tup [.var 11, .var 12, .call 1080 [.var 0, .lst [.var 12, .op .add [.bor 12, .call 1900 [.var 0, .op .sub [.op .add [.bor 3, .lit (.int 1)], .bor 12]]], .var 3]]]])]
def flc : List IS := [.for_ (.nm 10) .range [.op .min2 [.bor 6, .call 1080 [.var 0, .lst [.lit (.int 1), .lit (.int 2), .lit (.int 2), .var 2, .call 1900 [.var 0, .op .add [.bor 2, .lit (.int 1)]]]]]] flb]
def fld_ : List IS := [.expr (.mut .append 5 [.tup [.var 7, .op .tuple_ [.op .sorted [.bor 9]]]])]
theorem flow_split : i__law_flow = [.par [(4, false, .call 1081 [.var 0, .var 1]), (5, true, .lst [])], .for_ (.tp [.nm 6, .nm 7]) .enum [.var 4] (fla ++ (flc ++ fld_)), .ret (.op .tuple_ [.bor 5])] := rfl
/-- the slots in a turn -/
abbrev fE (n m h : Int) (ns : List Nm) (ed : List D) (i : Int) (x : Nm) (left : List Nm) (cs : List Ca) (a10 a11 a12 : Slt) : DEnv := [some (false, .well), some (false, .int n), some (false, .int m), some (false, .int h), some (false, .lst (ns.map D.str)), some (true, .lst ed), some (false, .int i), some (false, .str x), some (true, .lst (left.map D.str)), some (true, .lst (cs.map caD)), a10, a11, a12]
theorem eraseIdx_mapS {α β : Type} (f : α → β) : ∀ (l : List α) (k : Nat), (l.map f).eraseIdx k = (l.eraseIdx k).map f
  | [], k => by simp
  | a :: l, 0 => rfl
  | a :: l, k + 1 => by
    show f a :: (l.map f).eraseIdx k = f a :: (l.eraseIdx k).map f
    rw [eraseIdx_mapS f l k]
/-- one cause is drawn -/
theorem flb_ok {t : Tb} (g1 : t.gd 1900 = g_take) (g2 : t.gd 1080 = g_uof) {Ex} {n m h i : Int} {ns : List Nm} {ed : List D} {x : Nm} {left : List Nm} {cs : List Ca} {a10 a11 a12 : Slt} {K : KS} (h0 : 0 ≤ h) (h30 : h ≤ 30) (hl : 0 < left.length) (hl2 : left.length ≤ 26) (hcl : cs.length ≤ 26)
    (hK : ∀ (k : Nat) (c : Nm) (lo hi : Int) (a11 a12 : Slt), left[k]? = some c → 0 ≤ lo → lo ≤ hi → hi ≤ h → K.nx (fE n m h ns ed i x (left.eraseIdx k) (cs ++ [(c, lo, hi)]) a10 a11 a12)) :
    wpSs t Ex flb (fE n m h ns ed i x left cs a10 a11 a12) K := by
  simp -dsimp [flb, callW, g1, g2, g_take, g_uof, C_draw_is, C_uof_lst]
  refine ⟨hl, by omega, fun r r0 r1 d hd => ?_⟩
  have hd2 : ∃ k : Nat, k < left.length ∧ d = .int (k : Int) := by
    simp only [List.mem_cons, List.not_mem_nil, or_false] at hd
    rcases hd with rfl | rfl
    · exact ⟨left.length - 1, by omega, by congr 1; omega⟩
    · exact ⟨r.toNat, by omega, by congr 1; omega⟩
  obtain ⟨k, hk, rfl⟩ := hd2
  refine ⟨rfl, by omega, by omega, k, .str left[k], ?_, by rw [List.getElem?_map, List.getElem?_eq_getElem hk]; rfl, rfl, by omega, by omega, fun r2 r3 r4 d2 hd2 => ?_⟩
  · rw [List.length_map]
    unfold ixN
    rw [if_pos (by omega), if_pos (by omega)]
    simp
  have hd3 : ∃ lo : Int, 0 ≤ lo ∧ lo ≤ h ∧ d2 = .int lo := by
    simp only [List.mem_cons, List.not_mem_nil, or_false] at hd2
    rcases hd2 with rfl | rfl | rfl
    · exact ⟨0, by omega, h0, rfl⟩
    · exact ⟨0, by omega, h0, rfl⟩
    · exact ⟨r2, r3, by omega, rfl⟩
  obtain ⟨lo, lo0, lo1, rfl⟩ := hd3
  simp -dsimp [C_draw_is]
  refine ⟨by omega, by omega, fun r5 r6 r7 d3 hd3 => ?_⟩
  have hd4 : ∃ hi : Int, lo ≤ hi ∧ hi ≤ h ∧ d3 = .int hi := by
    simp only [List.mem_cons, List.not_mem_nil, or_false] at hd3
    rcases hd3 with rfl | rfl | rfl
    · exact ⟨lo, by omega, by omega, rfl⟩
    · exact ⟨lo + r5, by omega, by omega, rfl⟩
    · exact ⟨h, by omega, by omega, rfl⟩
  obtain ⟨hi, hi0, hi1, rfl⟩ := hd4
  have := hK k left[k] lo hi (some (false, .str left[k])) (some (false, .int lo)) (List.getElem?_eq_getElem hk) lo0 hi0 hi1
  have e1 : (left.map D.str).eraseIdx k = (left.eraseIdx k).map D.str := eraseIdx_mapS _ _ _
  have e2 : cs.map caD ++ [D.tup [.str left[k], .int lo, .int hi]] = (cs ++ [(left[k], lo, hi)]).map caD := by rw [List.map_append]; rfl
  rw [e1]
  refine ⟨rfl, by omega, ?_⟩
  rw [e2]
  exact this
/-- the causes of an event are drawn -/
theorem flc_ok {t : Tb} (g1 : t.gd 1900 = g_take) (g2 : t.gd 1080 = g_uof) {Ex} {n m h : Int} {i : Nat} {ns : List Nm} {ed : List D} {x : Nm} {a10 a11 a12 : Slt} {K : KS} (m0 : 0 ≤ m) (m6 : m ≤ 6) (h0 : 0 ≤ h) (h30 : h ≤ 30) (hl2 : ns.length ≤ 20) (hi : i ≤ ns.length)
    (hK : ∀ (left : List Nm) (cs : List Ca) (a10 a11 a12 : Slt), (cs.map (·.1) ++ left).Perm (ns.take i) → (∀ c ∈ cs, 0 ≤ c.2.1 ∧ c.2.1 ≤ c.2.2 ∧ c.2.2 ≤ h) → cs.length ≤ 6 → (2 ≤ m → (cs.length : Int) ≤ m) → K.nx (fE n m h ns ed i x left cs a10 a11 a12)) :
    wpSs t Ex flc (fE n m h ns ed i x (ns.take i) [] a10 a11 a12) K := by
  simp -dsimp [flc, callW, g1, g2, g_take, g_uof, C_draw_is, C_uof_lst]
  refine ⟨by omega, by omega, fun r r0 r1 d hd => ?_⟩
  have hd2 : ∃ q : Nat, q ≤ 6 ∧ (2 ≤ m → (q : Int) ≤ m) ∧ d = .int (q : Int) := by
    simp only [List.mem_cons, List.not_mem_nil, or_false] at hd
    rcases hd with rfl | rfl | rfl | rfl | rfl
    · exact ⟨1, by omega, by omega, rfl⟩
    · exact ⟨2, by omega, by omega, rfl⟩
    · exact ⟨2, by omega, by omega, rfl⟩
    · exact ⟨m.toNat, by omega, by omega, by congr 1; omega⟩
    · exact ⟨r.toNat, by omega, by omega, by congr 1; omega⟩
  obtain ⟨q, q6, qm, rfl⟩ := hd2
  simp -dsimp
  have hr : ∃ w : Nat, w ≤ i ∧ w ≤ q ∧ (if q < i then (q : Int) else (i : Int)) = (w : Int) := by
    by_cases c : q < i
    · exact ⟨q, by omega, by omega, if_pos c⟩
    · exact ⟨i, by omega, by omega, if_neg c⟩
  obtain ⟨w, w1, w2, ew⟩ := hr
  rw [ew, range_nat (by omega), wO_some]
  refine forL_inv (fun j en => ∃ left cs a10 a11 a12, en = fE n m h ns ed i x left cs a10 a11 a12 ∧ cs.length = j ∧ (cs.map (·.1) ++ left).Perm (ns.take i) ∧ ∀ c ∈ cs, 0 ≤ c.2.1 ∧ c.2.1 ≤ c.2.2 ∧ c.2.2 ≤ h) _ _ 0 ⟨_, [], _, _, _, rfl, rfl, by simp, by simp⟩ ?_ ?_
  · rintro j y en K2 hj ⟨left, cs, b10, b11, b12, rfl, hcl, hp, hc⟩ hK2
    have hj2 : j < w := by
      have := (List.getElem?_eq_some_iff.mp hj).1
      simpa using this
    rw [Nat.zero_add] at hcl hK2
    have hlen := hp.length_eq
    rw [List.length_append, List.length_map, List.length_take, Nat.min_eq_left hi] at hlen
    refine flb_ok g1 g2 h0 h30 (by omega) (by omega) (by omega) fun k c lo hi2 c11 c12 hk l0 l1 l2 => hK2 _ ⟨_, _, _, _, _, rfl, by simp; omega, ?_, fun c' hc' => ?_⟩
    · refine List.Perm.trans ?_ hp
      rw [List.map_append, List.append_assoc]
      exact List.Perm.append_left _ (perm_take left k c hk)
    · rcases List.mem_append.mp hc' with z | z
      · exact hc c' z
      · rw [List.mem_singleton.mp z]; exact ⟨l0, l1, l2⟩
  · rintro en ⟨left, cs, b10, b11, b12, rfl, hcl, hp, hc⟩
    simp -dsimp at hcl
    exact hK left cs b10 b11 b12 hp hc (by omega) fun hm => by have := qm hm; omega
theorem dlts_ca {a b : Ca} (h : a.1 ≠ b.1) : dlt (caD a) (caD b) = sLt a.1 b.1 := by
  have h3 : deq (.str a.1) (.str b.1) = false := by rw [deq_str]; exact decide_eq_false h
  show (if deq (.str a.1) (.str b.1) then _ else dlt (.str a.1) (.str b.1)) = _
  rw [h3]; rfl
theorem deq_ca_ne {a b : Ca} (h : a.1 ≠ b.1) : deq (caD a) (caD b) = false := by
  have h3 : deq (.str a.1) (.str b.1) = false := by rw [deq_str]; exact decide_eq_false h
  show (deq (.str a.1) (.str b.1) && _) = false
  rw [h3]; rfl
theorem okDs_ca : ∀ {cs : List Ca}, (∀ c ∈ cs, c.1.all (· < 0x110000) = true) → okDs (cs.map caD) 8 = true
  | [], _ => rfl
  | c :: cs, h => by
    show ((c.1.all (fun x => decide (x < 1114112)) && (true && (true && true))) && okDs (cs.map caD) 8) = true
    rw [okDs_ca fun x hx => h x (List.mem_cons_of_mem _ hx), h c List.mem_cons_self]; rfl
theorem sort_ca {cs : List Ca} (nd : (cs.map (·.1)).Nodup) : ∃ ds : List Ca, ds.Perm cs ∧ ds.Pairwise (fun a b => sLt a.1 b.1 = true) ∧ dsort (cs.map caD) = ds.map caD := by
  have nd2 : cs.Pairwise fun a b => a.1 ≠ b.1 := List.pairwise_map.mp nd
  obtain ⟨l', hp, e, hinc⟩ := sort_map caD cs (fun _ _ _ _ => rfl) (nd2.imp fun h => deq_ca_ne h) fun a _ b _ => by
    show (deq (.str a.1) (.str b.1) && (deq (.int a.2.1) (.int b.2.1) && (deq (.int a.2.2) (.int b.2.2) && true))) = (deq (.str b.1) (.str a.1) && (deq (.int b.2.1) (.int a.2.1) && (deq (.int b.2.2) (.int a.2.2) && true)))
    rw [deq_str, deq_str]
    refine Bool.eq_iff_iff.mpr ?_
    simp [deq]
    constructor <;> rintro ⟨h1, h2, h3⟩ <;> exact ⟨h1.symm, h2.symm, h3.symm⟩
  refine ⟨l', hp, ?_, e⟩
  have nd' : l'.Pairwise fun a b => a.1 ≠ b.1 := hp.symm.pairwise nd2 fun h => Ne.symm h
  exact (List.Pairwise.and nd' hinc).imp fun {a b} h => by rw [← dlts_ca h.1]; exact h.2
/-- an event is put -/
theorem fld_ok {t : Tb} {Ex} {n m h : Int} {i : Int} {ns : List Nm} {ed : List D} {x : Nm} {left : List Nm} {cs : List Ca} {a10 a11 a12 : Slt} {K : KS} (nd : (cs.map (·.1)).Nodup) (hn : ∀ c ∈ cs, c.1.all (· < 0x110000) = true) (hl : cs.length ≤ 6) (hed : ed.length ≤ 30)
    (hK : ∀ (ds : List Ca) (a9 : Slt), ds.Perm cs → ds.Pairwise (fun a b => sLt a.1 b.1 = true) → K.nx [some (false, .well), some (false, .int n), some (false, .int m), some (false, .int h), some (false, .lst (ns.map D.str)), some (true, .lst (ed ++ [evD (x, ds)])), some (false, .int i), some (false, .str x), some (true, .lst (left.map D.str)), a9, a10, a11, a12]) :
    wpSs t Ex fld_ (fE n m h ns ed i x left cs a10 a11 a12) K := by
  obtain ⟨ds, hp, hinc, e⟩ := sort_ca nd
  simp -dsimp [fld_, -List.mem_map]
  rw [e]
  refine ⟨fun a ha b hb => ?_, okDs_ca hn, .inl fun a ha => ?_, by omega, by omega, ?_⟩
  · obtain ⟨a1, _, rfl⟩ := List.mem_map.mp ha
    obtain ⟨b1, _, rfl⟩ := List.mem_map.mp hb
    rfl
  · obtain ⟨a1, _, rfl⟩ := List.mem_map.mp ha
    exact ⟨_, _, rfl⟩
  · exact hK ds _ hp hinc
theorem flow_ok {t : Tb} (g1 : t.gd 1900 = g_take) (g2 : t.gd 1080 = g_uof) (g3 : t.gd 1081 = g_unames) {Ex} {n m h : Int} {Q : D → Prop} {E : ExV → Prop} (hc : C_flow [.well, .int n, .int m, .int h] Q E) : wpSs t Ex i__law_flow [some (false, .well), some (false, .int n), some (false, .int m), some (false, .int h), none, none, none, none, none, none, none, none, none] (endK Q) := by
  obtain ⟨n2, n20, m0, m6, h0, h30, q⟩ := hc
  rw [flow_split]
  simp -dsimp [endK, storeP, callW, g3, g_unames, C_unames_is]
  refine ⟨by omega, by omega, fun ns un hl => ?_⟩
  refine forL_inv (fun i en => ∃ es a6 a7 a8 a9 a10 a11 a12, en = [some (false, .well), some (false, .int n), some (false, .int m), some (false, .int h), some (false, .lst (ns.map D.str)), some (true, .lst (es.map evD)), a6, a7, a8, a9, a10, a11, a12] ∧ nms es = ns.take i ∧ (∀ j e, es[j]? = some e → CasOk ((nms es).take j) e.2) ∧ ∀ e ∈ es, (2 ≤ m → (e.2.length : Int) ≤ m) ∧ ∀ c ∈ e.2, c.2.2 ≤ h) _ _ 0 ⟨[], none, none, none, none, none, none, none, rfl, rfl, by simp, by simp⟩ ?_ ?_
  · rintro i x en K hi ⟨es, a6, a7, a8, a9, a10, a11, a12, rfl, hn, hcs, hb⟩ hK
    rw [Nat.zero_add] at hn hK
    rw [List.getElem?_map] at hi
    obtain ⟨⟨d, j⟩, hp, rfl⟩ := Option.map_eq_some_iff.mp hi
    have hz := List.getElem?_zipIdx (l := ns.map D.str) (i := 0) (j := i)
    rw [hp, List.getElem?_map] at hz
    have hil : i < ns.length := by
      have := (List.getElem?_eq_some_iff.mp hp).1
      simpa using this
    rw [List.getElem?_eq_getElem hil] at hz
    have hz2 : d = .str ns[i] ∧ j = i := by simpa using hz
    obtain ⟨rfl, rfl⟩ := hz2
    have hlen : es.length = j := by
      have := congrArg List.length hn
      rw [List.length_take, nms, List.length_map] at this
      omega
    subst hlen
    have hlt : ∀ w ∈ ns, w.all (· < 0x110000) = true := fun w hw => (name_pl (un.nm w hw)).2
    have hfresh : ns[es.length] ∉ ns.take es.length := fun hm => by
      obtain ⟨k, hk, ek⟩ := List.getElem_of_mem hm
      rw [List.length_take] at hk
      rw [List.getElem_take] at ek
      exact (List.pairwise_iff_getElem.mp un.nd) k es.length (by omega) hil (by omega) ek
    refine ⟨_, rfl, ?_⟩
    dsimp only [List.set]
    rw [wpSs_app2]
    have ecut : dCut (ns.map D.str) none (some (es.length : Int)) = (ns.take es.length).map D.str := by rw [dCut_take, List.map_take]
    simp -dsimp [-List.map_take, fla, storeP, ecut]
    unfold restW
    rw [wpSs_app2]
    have hn20 : ns.length ≤ 20 := by omega
    refine flc_ok (i := es.length) g1 g2 (a10 := a10) (a11 := a11) (a12 := a12) m0 m6 h0 h30 hn20 (by omega) fun left cs b10 b11 b12 hp hcb hc6 hcm => ?_
    dsimp only
    unfold restW
    have hsub : ∀ x ∈ cs.map (·.1), x ∈ ns.take es.length := fun x hx => hp.mem_iff.mp (List.mem_append_left _ hx)
    have hndj : (ns.take es.length).Nodup := un.nd.sublist (List.take_sublist _ _)
    have hnd : (cs.map (·.1)).Nodup := (List.nodup_append.mp (hp.symm.nodup hndj)).1
    refine fld_ok hnd (fun c hc => hlt _ (List.mem_of_mem_take (hsub _ (List.mem_map_of_mem hc)))) hc6 (by rw [List.length_map]; omega) fun ds a9' hpd hinc => ?_
    have e2 : es.map evD ++ [evD (ns[es.length], ds)] = (es ++ [(ns[es.length], ds)]).map evD := by rw [List.map_append]; rfl
    dsimp only
    rw [e2]
    have hnm : nms (es ++ [(ns[es.length], ds)]) = ns.take (es.length + 1) := by
      rw [nms, List.map_append, List.take_succ, List.getElem?_eq_getElem hil]
      show nms es ++ [ns[es.length]] = _
      rw [hn]; rfl
    refine hK _ ⟨_, _, _, _, _, _, _, _, rfl, hnm, fun k e hk => ?_, fun e he => ?_⟩
    · rw [hnm]
      by_cases hkj : k < es.length
      · rw [List.getElem?_append_left hkj] at hk
        have h1 := hcs k e hk
        rw [hn, List.take_take, Nat.min_eq_left (by omega)] at h1
        rw [List.take_take, Nat.min_eq_left (by omega)]
        exact h1
      · rw [List.getElem?_append_right (by omega)] at hk
        have hk0 : k - es.length = 0 := by
          have := (List.getElem?_eq_some_iff.mp hk).1
          simpa using this
        rw [hk0] at hk
        cases hk
        have : k = es.length := by omega
        subst this
        rw [List.take_take, Nat.min_eq_left (by omega)]
        exact ⟨fun c hc => by
          have hc' := hpd.mem_iff.mp hc
          obtain ⟨x1, x2, x3⟩ := hcb c hc'
          exact ⟨hsub _ (List.mem_map_of_mem hc'), x1, x2, by omega⟩, hinc, by rw [hpd.length_eq]; exact hc6⟩
    · rcases List.mem_append.mp he with z | z
      · exact hb e z
      · rw [List.mem_singleton.mp z]
        exact ⟨fun hm => by rw [hpd.length_eq]; exact hcm hm, fun c hc => (hcb c (hpd.mem_iff.mp hc)).2.2⟩
  · rintro en ⟨es, a6, a7, a8, a9, a10, a11, a12, rfl, hn, hcs, hb⟩
    simp -dsimp at hn
    simp -dsimp
    have hlen : es.length = ns.length := by
      have := congrArg List.length hn
      rw [nms, List.length_map] at this
      exact this
    have hnm : ∀ e ∈ es, isName (.str e.1) = true := fun e he => un.nm _ (by rw [← hn]; exact List.mem_map_of_mem he)
    exact q es ⟨by omega, by omega, hnm, by rw [hn]; exact un.nd, hcs⟩ (by omega) hb
end SD

set_option Elab.async false
set_option linter.all false
set_option maxRecDepth 100000
set_option maxHeartbeats 4000000
namespace SD
open PySem L2
theorem C_is_number_is {d lo hi : D} {Q : D → Prop} {E} : C_is_number [d, lo, hi] Q E = (Pl d = true ∧ optB lo = true ∧ optB hi = true ∧ Q (.bl (isNum d lo hi))) := rfl
theorem C_is_tuple_of_is {d : D} {n : Int} {Q : D → Prop} {E} : C_is_tuple_of [d, .int n] Q E = (Pl d = true ∧ Q (.bl (tupOf d n))) := rfl
theorem C_is_name_is {d : D} {Q : D → Prop} {E} : C_is_name [d] Q E = (Pl d = true ∧ Q (.bl (isName d))) := rfl
theorem at0 {α : Type} {x : α} {l : List α} : atI (x :: l) 0 = some x := by
  rw [atI, ixN, if_pos (by omega), if_pos (by simp -dsimp)]; rfl
theorem at1 {α : Type} {x y : α} {l : List α} : atI (x :: y :: l) 1 = some y := by
  rw [atI, ixN, if_pos (by omega), if_pos (by simp -dsimp; omega)]; rfl
theorem at2 {α : Type} {x y z : α} {l : List α} : atI (x :: y :: z :: l) 2 = some z := by
  rw [atI, ixN, if_pos (by omega), if_pos (by simp -dsimp; omega)]; rfl
theorem atLast {α : Type} {x : α} {l : List α} : atI (l ++ [x]) (-1) = some x := by
  rw [atI, ixN, if_neg (by omega), if_pos (by simp -dsimp; omega)]
  have e : (-1 + ((l ++ [x]).length : Int)).toNat = l.length := by simp -dsimp; omega
  rw [e]
  simp -dsimp
theorem atN {α : Type} {l : List α} {i : Nat} (h : i < l.length) : atI l (i : Int) = l[i]? := by
  unfold atI ixN
  rw [if_pos (by omega), if_pos (by omega)]
  rfl
theorem deq_ne {l : List D} (h : l ≠ []) : deq (.tup l) (.tup []) = false := by
  cases l with
  | nil => exact absurd rfl h
  | cons a l => rfl
theorem ordB_str {x y : List Nat} (hx : x.all (· < 0x110000) = true) (hy : y.all (· < 0x110000) = true) : ordB (.str x) (.str y) = true := by
  show (x.all (fun c => decide (c < 1114112)) && y.all (fun c => decide (c < 1114112)) && true) = true
  rw [hx, hy]; rfl
theorem Pl_tup {l : List D} : Pl (.tup l) = true := rfl
theorem Pl_int {i : Int} : Pl (.int i) = true := rfl
theorem optB_int {i : Int} : optB (.int i) = true := rfl
theorem tupOf_tup {l : List D} {n : Int} : tupOf (.tup l) n = ((l.length : Int) == n) := rfl
theorem isNum_of {i lo hi : Int} (h1 : lo ≤ i) (h2 : i ≤ hi) : isNum (.int i) (.int lo) (.int hi) = true := by simp [isNum, h1, h2]
/-! what wrong_at finds where nothing is wrong -/
theorem wrongAt_none {l : List D} {most : D} {p : D → List D → Bool} (h : ∀ x ∈ l.zipIdx, badAt l most p x = false) : wrongAt l most p = [] := by
  unfold wrongAt
  rw [List.find?_eq_none.mpr fun x hx => by rw [h x hx]; exact Bool.false_ne_true]
theorem wa_right {cf : CF} {f : D} {l : List D} {m : Int} {Q : D → Prop} {E : ExV → Prop} (hf : fnD f = true) (hm : (l.length : Int) ≤ m) (hc : ∀ v ∈ l, isClo v = false)
    (main : ∀ (i : Nat) v (Q' : D → Prop) (E' : ExV → Prop), l[i]? = some v → Q' (.bl true) → cf f [v, .tup (l.take i)] Q' E') (q : Q (.lst [])) : C_wrong_at cf [.tup l, .int m, f] Q E := by
  refine ⟨hf, rfl, rfl, fun z => absurd rfl (z l), fun l2 e => ?_⟩
  cases e
  refine ⟨fun _ _ => true, ⟨hc, fun h0 => ?_, fun i v Q' E' hv _ _ q' => main i v Q' E' hv q'⟩, ?_⟩
  · obtain ⟨v, hv⟩ : ∃ v, l[0]? = some v := by
      cases l with
      | nil => exact absurd rfl h0
      | cons a l => exact ⟨a, rfl⟩
    exact ⟨fun _ => True, fun _ => False, v, _, main 0 v _ _ hv trivial⟩
  · rw [wrongAt_none fun x hx => ?_]
    · exact q
    · obtain ⟨v, j⟩ := x
      obtain ⟨_, hj, _⟩ := List.mem_zipIdx hx
      simp [badAt, deq]; omega
/-! is_cause -/
def C_is_cause : Contract
  | [ns, v], Q, _ => ∃ (l : List Nm) (c : Ca), ns = .lst (l.map .str) ∧ v = caD c ∧ (∀ x ∈ l, isName (.str x) = true) ∧ CaOk l c ∧ Q (.bl true)
  | _, _, _ => False
def g_is_cause : GD := { name := "is_cause", ps := ["names", "value"], lvl := 3, C := C_is_cause }
theorem is_cause_ok {t : Tb} (g101 : t.gd 101 = g_is_number) (g102 : t.gd 102 = g_is_tuple_of) (g109 : t.gd 109 = g_is_one_of) (c319 : t.con 319 = .int 30) {Ex : ExV → DEnv → Prop} {a b : D} {Q : D → Prop} {E : ExV → Prop} (h : C_is_cause [a, b] Q E) : wpSs t Ex i_is_cause [some (false, a), some (false, b)] (endK Q) := by
  obtain ⟨l, c, rfl, rfl, hn, o, q⟩ := h
  have hk := name_pl (hn c.1 o.m)
  have e1 : oneOf l (.str c.1) = true := by simpa [oneOf] using o.m
  simp -dsimp [i_is_cause, endK, callW, g101, g102, g109, g_is_number, g_is_tuple_of, g_is_one_of, c319, C_is_number_is, C_is_tuple_of_is, C_is_one_of, Pl_tup, Pl_int, optB_int, tupOf_tup, caD_def, at0, at1, at2, hk.1, isNum_of o.lo o.le, isNum_of (Int.le_trans o.lo o.le) o.hi]
  refine ⟨l, ⟨rfl, fun w hw => by simpa using (name_pl (hn w hw)).2⟩, ?_⟩
  rw [e1]
  simp -dsimp [at1, at2, isNum_of o.lo o.le, isNum_of (Int.le_trans o.lo o.le) o.hi]
  exact q
/-! the closure of are_causes -/
def C_c5 : Contract
  | [v, b, ns], Q, _ => ∃ (l : List Nm) (c : Ca) (bs : List Ca), v = caD c ∧ b = .tup (bs.map caD) ∧ ns = .lst (l.map .str) ∧ (∀ x ∈ l, isName (.str x) = true) ∧ CaOk l c ∧ (∀ y ∈ bs, y.1 ∈ l) ∧ bs.length ≤ 6 ∧ (∀ y, bs.getLast? = some y → sLt y.1 c.1 = true) ∧ Q (.bl true)
  | _, _, _ => False
def cd5 : CD := { ps := ["each", "before"], fr := ["names"], js := [0], lvl := 4, C := C_c5, pos := (63, 4) }
theorem C_is_cause_is {ns v : D} {Q : D → Prop} {E} : C_is_cause [ns, v] Q E = ∃ (l : List Nm) (c : Ca), ns = .lst (l.map .str) ∧ v = caD c ∧ (∀ x ∈ l, isName (.str x) = true) ∧ CaOk l c ∧ Q (.bl true) := rfl
theorem isClo_ca {c : Ca} : isClo (caD c) = false := rfl
theorem okDs_can : ∀ {cs : List Ca}, (∀ c ∈ cs, isName (.str c.1) = true) → okDs (cs.map caD) 8 = true := fun h => okDs_ca fun c hc => (name_pl (h c hc)).2
theorem okD_cas {cs : List Ca} (h : ∀ c ∈ cs, isName (.str c.1) = true) : okD (.tup (cs.map caD)) 20 = true := by
  show okDs (cs.map caD) 19 = true
  have : ∀ {cs : List Ca} {n : Nat}, (∀ c ∈ cs, isName (.str c.1) = true) → okDs (cs.map caD) (n + 1) = true := by
    intro cs n
    induction cs with
    | nil => intro _; rfl
    | cons c cs ih =>
      intro h
      show ((c.1.all (fun x => decide (x < 1114112)) && (true && (true && true))) && okDs (cs.map caD) (n + 1)) = true
      rw [ih fun x hx => h x (List.mem_cons_of_mem _ hx), (name_pl (h c List.mem_cons_self)).2]; rfl
  exact this h
theorem c5_ok {t : Tb} (g1074 : t.gd 1074 = g_is_cause) {Ex : ExV → DEnv → Prop} {v b c : D} {Q : D → Prop} {E : ExV → Prop} (h : C_c5 [v, b, c] Q E) : wpSs t Ex i_c5_are_causes [some (false, v), some (false, b), some (false, c)] (endK Q) := by
  obtain ⟨l, x, bs, rfl, rfl, rfl, hn, o, hb, h6, hl, q⟩ := h
  have hbn : ∀ y ∈ bs, isName (.str y.1) = true := fun y hy => hn _ (hb y hy)
  simp -dsimp [i_c5_are_causes, endK, callW, g1074, g_is_cause, isClo_ca]
  refine ⟨l, x, rfl, rfl, fun y hy => hn y hy, o, ?_⟩
  have hok := okD_cas hbn
  simp -dsimp [hok]
  rcases List.eq_nil_or_concat bs with rfl | ⟨bs, y, rfl⟩
  · exact ⟨rfl, (if_pos (show deq (.tup ([] : List D)) (.tup []) = true from rfl)).mpr q⟩
  · rw [List.concat_eq_append] at hbn hl ⊢
    have hny := name_pl (hbn y (by simp))
    have hnx := name_pl (hn x.1 o.m)
    have hlt : sLt y.1 x.1 = true := hl y (by simp)
    rw [deq_ne (by simp)]
    simp only [List.map_append, List.map_cons, List.map_nil]
    refine ⟨rfl, ?_⟩
    rw [if_neg (by simp), atLast]
    simp -dsimp [caD_def, at0, opW_lt, ordB_str hny.2 hnx.2, dlt, hlt]
    exact q
/-! are_causes -/
def C_are_causes : Contract
  | [ns, v], Q, _ => ∃ (l : List Nm) (cs : List Ca), ns = .lst (l.map .str) ∧ v = .tup (cs.map caD) ∧ (∀ x ∈ l, isName (.str x) = true) ∧ CasOk l cs ∧ Q (.bl true)
  | _, _, _ => False
def g_are_causes : GD := { name := "are_causes", ps := ["names", "value"], lvl := 21, C := C_are_causes }
theorem are_causes_ok {t : Tb} {cf : CF} (g105 : t.gd 105 = g_wrong_at cf) (c5 : t.cc 5 = cd5) (hcf : ∀ ws ds Q E, C_c5 (ds ++ ws) Q E → cf (.clo 5 ws) ds Q E) (c322 : t.con 322 = .int 6) {Ex : ExV → DEnv → Prop} {d w : D} {Q : D → Prop} {E : ExV → Prop} (h : C_are_causes [d, w] Q E) :
    wpSs t Ex i_are_causes [some (false, d), some (false, w), none] (endK Q) := by
  obtain ⟨l, cs, rfl, rfl, hn, o, q⟩ := h
  simp -dsimp [i_are_causes, endK, c5, cd5, slotsD_cons, g105, g_wrong_at, c322]
  refine wa_right rfl (by rw [List.length_map]; have := o.l6; omega) (fun v hv => ?_) (fun i v Q' E' hv q' => ?_) ?_
  · obtain ⟨x, _, rfl⟩ := List.mem_map.mp hv; rfl
  · rw [List.getElem?_map] at hv
    obtain ⟨x, hx, rfl⟩ := Option.map_eq_some_iff.mp hv
    refine hcf _ _ _ _ ⟨l, x, cs.take i, rfl, by rw [List.map_take], rfl, hn, o.c x (List.mem_of_getElem? hx), fun y hy => (o.c y (List.mem_of_mem_take hy)).m, by rw [List.length_take]; have := o.l6; omega, fun y hy => ?_, q'⟩
    obtain ⟨hi, ex⟩ := List.getElem?_eq_some_iff.mp hx
    have hy2 := hy
    rw [List.getLast?_eq_getElem?, List.length_take, List.getElem?_take] at hy2
    split at hy2
    · obtain ⟨hj, ey⟩ := List.getElem?_eq_some_iff.mp hy2
      have := List.pairwise_iff_getElem.mp o.inc (min i cs.length - 1) i hj hi (by omega)
      rw [ey, ex] at this; exact this
    · cases hy2
  · simp -dsimp [okD, okDs, deq]
    exact q
end SD

set_option Elab.async false
set_option linter.all false
set_option maxRecDepth 100000
set_option maxHeartbeats 4000000
namespace SD
open PySem L2
theorem isClo_ev {e : Ev} : isClo (evD e) = false := rfl
def fstD : D → D
  | .tup (a :: _) => a
  | d => d
theorem map_fst_ev {es : List Ev} : (es.map evD).map fstD = (nms es).map D.str := by
  rw [nms, List.map_map, List.map_map]; rfl
/-! is_event -/
def C_is_event : Contract
  | [ns, v], Q, _ => ∃ (l : List Nm) (e : Ev), ns = .lst (l.map .str) ∧ v = evD e ∧ (∀ x ∈ l, isName (.str x) = true) ∧ isName (.str e.1) = true ∧ e.1 ∉ l ∧ CasOk l e.2 ∧ Q (.bl true)
  | _, _, _ => False
def g_is_event : GD := { name := "is_event", ps := ["names", "value"], lvl := 22, C := C_is_event }
theorem is_event_ok {t : Tb} (g102 : t.gd 102 = g_is_tuple_of) (g108 : t.gd 108 = g_is_name) (g1075 : t.gd 1075 = g_are_causes) {Ex : ExV → DEnv → Prop} {a b : D} {Q : D → Prop} {E : ExV → Prop} (h : C_is_event [a, b] Q E) : wpSs t Ex i_is_event [some (false, a), some (false, b)] (endK Q) := by
  obtain ⟨l, e, rfl, rfl, hn, hne, hni, o, q⟩ := h
  have hk := name_pl hne
  have hin : isIn (.str e.1) (.lst (l.map .str)) = some false := by
    rw [inL8 hk.2 fun w hw => (name_pl (hn w hw)).2, decide_eq_false hni]
  simp -dsimp [-isIn_lst, i_is_event, endK, callW, g102, g108, g1075, g_is_tuple_of, g_is_name, g_are_causes, C_is_tuple_of_is, C_is_name_is, Pl_tup, tupOf_tup, evD_def, at0, at1, hk.1, hne, hin]
  exact ⟨l, e.2, rfl, rfl, hn, o, rfl, q⟩
/-! the closure of check_events -/
def C_c6 : Contract
  | [v, b], Q, _ => ∃ (es : List Ev) (e : Ev), v = evD e ∧ b = .tup (es.map evD) ∧ (∀ x ∈ nms es, isName (.str x) = true) ∧ isName (.str e.1) = true ∧ e.1 ∉ nms es ∧ CasOk (nms es) e.2 ∧ es.length ≤ 20 ∧ Q (.bl true)
  | _, _, _ => False
def cd6 : CD := { ps := ["each", "before"], fr := [], js := [], lvl := 23, C := C_c6, pos := (72, 4) }
theorem c6_ok {t : Tb} (g1076 : t.gd 1076 = g_is_event) {Ex : ExV → DEnv → Prop} {v b : D} {Q : D → Prop} {E : ExV → Prop} (h : C_c6 [v, b] Q E) : wpSs t Ex i_c6_check_events [some (false, v), some (false, b), none] (endK Q) := by
  obtain ⟨es, e, rfl, rfl, hn, hne, hni, o, hl, q⟩ := h
  simp -dsimp [i_c6_check_events, endK]
  refine compL_map1 fstD _ ?_ (by rw [List.length_map]; omega) ?_
  · intro x hx K hK
    obtain ⟨y, hy, rfl⟩ := List.mem_map.mp hx
    simp -dsimp [evD_def, at0]
    exact hK
  · rw [map_fst_ev]
    simp -dsimp [callW, g1076, g_is_event, isClo_ev]
    exact ⟨nms es, e, rfl, rfl, hn, hne, hni, o, rfl, q⟩
/-! check_events -/
def C_check_events : Contract
  | [d], Q, _ => ∃ es : List Ev, d = evsD es ∧ FlowOk es ∧ Q .non
  | _, _, _ => False
def g_check_events : GD := { name := "check_events", ps := ["value"], lvl := 26, C := C_check_events }
def g_wrong_at2 (cf : CF) : GD := { name := "wrong_at", ps := ["values", "most", "is_right"], lvl := 25, C := C_wrong_at cf }
theorem nms_take {es : List Ev} {i : Nat} : nms (es.take i) = (nms es).take i := by rw [nms, nms, List.map_take]
theorem check_events_ok {t : Tb} {cf : CF} (g2105 : t.gd 2105 = g_wrong_at2 cf) (c6 : t.cc 6 = cd6) (hcf : ∀ ws ds Q E, C_c6 (ds ++ ws) Q E → cf (.clo 6 ws) ds Q E) (c320 : t.con 320 = .int 2) (c321 : t.con 321 = .int 20) {Ex : ExV → DEnv → Prop} {d : D} {Q : D → Prop} {E : ExV → Prop} (h : C_check_events [d] Q E) :
    wpSs t Ex i_check_events [some (false, d), none, none] (endK Q) := by
  obtain ⟨es, rfl, o, q⟩ := h
  have l2 := o.l2; have l20 := o.l20
  have l2' : ¬ ((es.length : Int) < 2) := by omega
  simp -dsimp [i_check_events, endK, evsD, c6, cd6, slotsD_cons, g2105, g_wrong_at2, c320, c321, isTy, l2']
  refine wa_right rfl (by rw [List.length_map]; omega) (fun v hv => ?_) (fun i v Q' E' hv q' => ?_) ?_
  · obtain ⟨x, _, rfl⟩ := List.mem_map.mp hv; rfl
  · rw [List.getElem?_map] at hv
    obtain ⟨e, he, rfl⟩ := Option.map_eq_some_iff.mp hv
    have hall : ∀ x ∈ nms es, isName (.str x) = true := fun x hx => by
      obtain ⟨y, hy, rfl⟩ := List.mem_map.mp hx
      exact o.nm y hy
    refine hcf _ _ _ _ ⟨es.take i, e, rfl, by rw [List.map_take], fun x hx => hall x ?_, o.nm e (List.mem_of_getElem? he), fun hm => ?_, ?_, by rw [List.length_take]; omega, q'⟩
    · rw [nms_take] at hx; exact List.mem_of_mem_take hx
    · rw [nms_take] at hm
      obtain ⟨hi, ex⟩ := List.getElem?_eq_some_iff.mp he
      have hi2 : i < (nms es).length := by rw [nms, List.length_map]; exact hi
      obtain ⟨j, hj, ej⟩ := List.getElem_of_mem hm
      rw [List.length_take] at hj
      rw [List.getElem_take] at ej
      have e2 : (nms es)[i] = e.1 := by simp only [nms, List.getElem_map, ex]
      exact (List.pairwise_iff_getElem.mp o.nd) j i (by omega) hi2 (by omega) (ej.trans e2.symm)
    · rw [nms_take]
      exact o.cs i e he
  · simp -dsimp [forL]
    exact q
/-! Flow -/
def flowO (es : List Ev) : D := .obj 1 [.tup [evsD es]]
theorem flowO_def {es : List Ev} : flowO es = .obj 1 [.tup [evsD es]] := rfl
def C_Flow : Contract
  | [d], Q, _ => ∃ es : List Ev, d = evsD es ∧ FlowOk es ∧ Q (flowO es)
  | _, _, _ => False
def g_Flow : GD := { name := "Flow", ps := ["events"], lvl := 30, C := C_Flow }
theorem isClo_evs {es : List Ev} : isClo (evsD es) = false := rfl
theorem Flow_init_ok {t : Tb} (g1077 : t.gd 1077 = g_check_events) {Ex : ExV → DEnv → Prop} {d : D} {Q : D → Prop} {E : ExV → Prop} (h : C_Flow [d] Q E) : wpSi t Ex i_Flow_init e_Flow_init [some (false, .own 0), some (false, d)] fun d => Q (.obj 1 [d]) := by
  obtain ⟨es, rfl, o, q⟩ := h
  simp -dsimp [i_Flow_init, e_Flow_init, wpSi, callW, g1077, g_check_events, isClo_evs]
  exact ⟨es, rfl, o, by simp -dsimp; exact q⟩
/-! events -/
def C_events : Contract
  | [d], Q, _ => ∃ es : List Ev, d = flowO es ∧ Q (evsD es)
  | _, _, _ => False
def g_events : GD := { name := "events", ps := ["self"], lvl := 1, C := C_events }
theorem Flow_events_ok {t : Tb} {Ex : ExV → DEnv → Prop} {d : D} {Q : D → Prop} {E : ExV → Prop} (h : C_events [d] Q E) : wpSs t Ex i_Flow_events [some (false, d)] (endK Q) := by
  obtain ⟨es, rfl, q⟩ := h
  simp -dsimp [i_Flow_events, endK, flowO_def]
  rw [at0]
  exact ⟨_, rfl, rfl, q⟩
/-! check_flow -/
def C_check_flow : Contract
  | [d], Q, _ => ∃ es : List Ev, d = flowO es ∧ Q .non
  | _, _, _ => False
def g_check_flow : GD := { name := "check_flow", ps := ["value"], lvl := 3, C := C_check_flow }
theorem check_flow_ok {t : Tb} {Ex : ExV → DEnv → Prop} {d : D} {Q : D → Prop} {E : ExV → Prop} (h : C_check_flow [d] Q E) : wpSs t Ex i_check_flow [some (false, d)] (endK Q) := by
  obtain ⟨es, rfl, q⟩ := h
  simp -dsimp [i_check_flow, endK, flowO_def]
  exact q
end SD

set_option Elab.async false
set_option linter.all false
set_option maxRecDepth 100000
set_option maxHeartbeats 4000000
namespace SD
open PySem L2
/-! ## delays -/
abbrev Row := List Int
def rowD (r : Row) : D := .tup (r.map .int)
theorem rowD_def {r : Row} : rowD r = .tup (r.map .int) := rfl
def dlD (dl : List Row) : D := .tup (dl.map rowD)
structure RowOk (cs : List Ca) (r : Row) : Prop where
  l : r.length = cs.length
  b : ∀ q ∈ cs.zip r, q.1.2.1 ≤ q.2 ∧ q.2 ≤ q.1.2.2
structure DelOk (es : List Ev) (dl : List Row) : Prop where
  l : dl.length = es.length
  r : ∀ p ∈ es.zip dl, RowOk p.1.2 p.2
def stepL (f : Nm → Int) (p : Ev × Row) : List Int := (p.1.2.zip p.2).map fun q => f q.1.1 + q.2
/-- f are the days -/
def IsDay (prs : List (Ev × Row)) (f : Nm → Int) : Prop := ∀ p ∈ prs, f p.1.1 ∈ 0 :: stepL f p ∧ ∀ y ∈ 0 :: stepL f p, y ≤ f p.1.1
theorem zip_mapL {α β γ δ : Type} (f : α → γ) (g : β → δ) : ∀ (l : List α) (r : List β), (l.map f).zip (r.map g) = (l.zip r).map fun p => (f p.1, g p.2)
  | [], _ => rfl
  | _ :: _, [] => rfl
  | a :: l, b :: r => by
    show (f a, g b) :: (l.map f).zip (r.map g) = _
    rw [zip_mapL f g l r]; rfl
/-! is_row -/
def C_is_row : Contract
  | [a, b], Q, _ => ∃ (cs : List Ca) (r : Row), a = .tup (cs.map caD) ∧ b = rowD r ∧ RowOk cs r ∧ cs.length ≤ 6 ∧ Q (.bl true)
  | _, _, _ => False
def g_is_row : GD := { name := "is_row", ps := ["causes", "value"], lvl := 3, C := C_is_row }
theorem trues {α : Type} (l : List α) {f : α → D} {Q : D → Prop} (q : Q (.bl true)) : wO (allSome (List.map unB (List.map (fun _ => D.bl true) (l.map f)))) fun bs => Q (D.bl (bs.all id)) := by
  have e1 : (l.map f).map (fun _ => D.bl true) = (l.map fun _ => true).map D.bl := by rw [List.map_map, List.map_map]; rfl
  rw [e1, List.map_map]
  have e0 : allSome ((l.map fun _ => true).map (unB ∘ D.bl)) = some (l.map fun _ => true) := by
    have h := allSome_bl (l.map fun _ => true)
    rw [List.map_map] at h
    exact h
  rw [e0, wO_some]
  have e2 : (l.map fun _ => true).all id = true := by simp -dsimp
  rw [e2]
  exact q
theorem is_row_ok {t : Tb} (g101 : t.gd 101 = g_is_number) (g102 : t.gd 102 = g_is_tuple_of) {Ex : ExV → DEnv → Prop} {a b : D} {Q : D → Prop} {E : ExV → Prop} (h : C_is_row [a, b] Q E) : wpSs t Ex i_is_row [some (false, a), some (false, b), none, none] (endK Q) := by
  obtain ⟨cs, r, rfl, rfl, o, l6, q⟩ := h
  have hl := o.l
  have e1 : (r.length : Int) = (cs.length : Int) := by omega
  simp -dsimp [i_is_row, endK, callW, g101, g102, g_is_number, g_is_tuple_of, C_is_number_is, C_is_tuple_of_is, Pl_tup, tupOf_tup, rowD_def, e1, zip_mapL]
  refine compL_map1 (fun _ => .bl true) _ ?_ (by simp; omega) ?_
  · intro x hx K hK
    obtain ⟨p, hp, rfl⟩ := List.mem_map.mp hx
    have hb := o.b p hp
    simp -dsimp [asgT, asgTs, caD_def, at0, at1, at2, Pl_int, optB_int, isNum_of hb.1 hb.2]
    exact hK
  · exact trues _ q
/-! are_delays -/
def C_are_delays : Contract
  | [a, b], Q, _ => ∃ (es : List Ev) (dl : List Row), a = flowO es ∧ b = dlD dl ∧ FlowOk es ∧ DelOk es dl ∧ Q (.bl true)
  | _, _, _ => False
def g_are_delays : GD := { name := "are_delays", ps := ["flow", "value"], lvl := 4, C := C_are_delays }
theorem C_events_is {d : D} {Q : D → Prop} {E} : C_events [d] Q E = ∃ es : List Ev, d = flowO es ∧ Q (evsD es) := rfl
theorem FlowOk.cas {es : List Ev} (h : FlowOk es) {e : Ev} (he : e ∈ es) : ∃ i, es[i]? = some e ∧ CasOk ((nms es).take i) e.2 := by
  obtain ⟨i, hi⟩ := List.mem_iff_getElem?.mp he
  exact ⟨i, hi, h.cs i e hi⟩
theorem FlowOk.l6 {es : List Ev} (h : FlowOk es) {e : Ev} (he : e ∈ es) : e.2.length ≤ 6 := by
  obtain ⟨i, _, o⟩ := h.cas he
  exact o.l6
theorem isClo_row {r : Row} : isClo (rowD r) = false := rfl
theorem isClo_dl {r : List Row} : isClo (dlD r) = false := rfl
theorem dlD_def {dl : List Row} : dlD dl = .tup (dl.map rowD) := rfl
theorem evsD_def {es : List Ev} : evsD es = .tup (es.map evD) := rfl
theorem are_delays_ok {t : Tb} (g102 : t.gd 102 = g_is_tuple_of) (g1159 : t.gd 1159 = g_is_row) (g1203 : t.gd 1203 = g_events) {Ex : ExV → DEnv → Prop} {a b : D} {Q : D → Prop} {E : ExV → Prop} (h : C_are_delays [a, b] Q E) : wpSs t Ex i_are_delays [some (false, a), some (false, b), none, none] (endK Q) := by
  obtain ⟨es, dl, rfl, rfl, o, od, q⟩ := h
  have hl := od.l
  have l20 := o.l20
  have e1 : (dl.length : Int) = (es.length : Int) := by omega
  simp -dsimp [i_are_delays, endK, callW, g102, g1159, g1203, g_is_tuple_of, g_is_row, g_events, C_is_tuple_of_is, Pl_tup, tupOf_tup, dlD_def]
  refine ⟨⟨_, rfl⟩, es, rfl, ?_⟩
  simp -dsimp [evsD_def, e1, zip_mapL, C_is_tuple_of_is, Pl_tup, tupOf_tup]
  refine ⟨⟨_, rfl⟩, es, rfl, ?_⟩
  simp -dsimp [evsD_def, e1, zip_mapL]
  refine compL_map1 (fun _ => .bl true) _ ?_ (by simp; omega) ?_
  · intro x hx K hK
    obtain ⟨p, hp, rfl⟩ := List.mem_map.mp hx
    simp -dsimp [asgT, asgTs, evD_def, at0, at1, isClo_row]
    exact ⟨_, _, rfl, rfl, od.r p hp, o.l6 (List.of_mem_zip hp).1, by simp -dsimp; exact hK⟩
  · exact trues _ q
end SD

set_option Elab.async false
set_option linter.all false
set_option maxRecDepth 100000
set_option maxHeartbeats 4000000
namespace SD
open PySem L2
/-! ## dicts from texts to numbers -/
def tabI (l : List (Nm × Int)) : List (D × D) := l.map fun p => (.str p.1, .int p.2)
theorem dPut_new {l : List (D × D)} {x : Nm} {d : D} (h : ∀ p ∈ l, deq p.1 (.str x) = false) : dPut l (.str x) d = l ++ [(.str x, d)] := by
  unfold dPut
  rw [if_neg]
  intro z
  obtain ⟨p, hp, e⟩ := List.any_eq_true.mp z
  rw [h p hp] at e; cases e
theorem tabI_new {l : List (Nm × Int)} {x : Nm} {i : Int} (h : x ∉ l.map (·.1)) : dPut (tabI l) (.str x) (.int i) = tabI (l ++ [(x, i)]) := by
  rw [dPut_new fun p hp => ?_]
  · unfold tabI; rw [List.map_append]; rfl
  · obtain ⟨q, hq, rfl⟩ := List.mem_map.mp hp
    rw [deq_str]
    exact decide_eq_false fun e => h (e ▸ List.mem_map_of_mem hq)
def tabF (f : Nm → Int) (hs : List Nm) : List (Nm × Int) := hs.map fun h => (h, f h)
theorem dGet_tabF (f : Nm → Int) {x : Nm} : ∀ {hs : List Nm}, x ∈ hs → dGet (tabI (tabF f hs)) (.str x) = some (.int (f x))
  | [], h => by cases h
  | h :: hs, hx => by
    show (if deq (.str h) (.str x) then some (D.int (f h)) else dGet (tabI (tabF f hs)) (.str x)) = _
    rw [deq_str]
    by_cases e : h = x
    · subst e; simp
    · rw [decide_eq_false e]
      rcases List.mem_cons.mp hx with z | z
      · exact absurd z.symm e
      · exact dGet_tabF f z
theorem look_tabF (f : Nm → Int) {x : Nm} {hs : List Nm} (h : x ∈ hs) : dLook (.dct false (tabI (tabF f hs))) (.str x) = some (some (.int (f x))) := by
  show (if (toK (.str x)).isSome = true then some (dGet (tabI (tabF f hs)) (.str x)) else none) = _
  have e0 : (toK (.str x)).isSome = true := rfl
  rw [if_pos e0, dGet_tabF f h]
theorem tabF_keys (f : Nm → Int) (hs : List Nm) : (tabF f hs).map (·.1) = hs := by unfold tabF; rw [List.map_map]; exact List.map_id' _
theorem tabF_put (f : Nm → Int) {x : Nm} {hs : List Nm} (h : x ∉ hs) : dPut (tabI (tabF f hs)) (.str x) (.int (f x)) = tabI (tabF f (hs ++ [x])) := by
  rw [tabI_new (by rw [tabF_keys]; exact h)]
  unfold tabF
  rw [List.map_append]; rfl
theorem tabF_vals (f : Nm → Int) (hs : List Nm) : (tabI (tabF f hs)).map (·.2) = hs.map fun x => D.int (f x) := by
  unfold tabI tabF; rw [List.map_map, List.map_map]; rfl
/-! days_by -/
def dayD (f : Nm → Int) (es : List Ev) : D := .tup ((nms es).map fun x => .int (f x))
theorem dayD_def {f : Nm → Int} {es : List Ev} : dayD f es = .tup ((nms es).map fun x => .int (f x)) := rfl
def C_days_by : Contract
  | [a, b], Q, _ => ∃ (es : List Ev) (dl : List Row) (f : Nm → Int), a = flowO es ∧ b = dlD dl ∧ FlowOk es ∧ DelOk es dl ∧ IsDay (es.zip dl) f ∧ Q (dayD f es)
  | _, _, _ => False
def g_days_by : GD := { name := "days_by", ps := ["flow", "delays"], lvl := 3, C := C_days_by }
theorem allSome_ints8 (xs : List Int) : allSome ((xs.map D.int).map unI) = some xs := by
  have := allSome_ints xs
  rw [List.map_map]; exact this
/-- the day of an event, asked of the dict -/
def stD (f : Nm → Int) : D → D
  | .ktup [.tup (.str c :: _), .int r] => .int (f c + r)
  | d => d
theorem nms_get {es : List Ev} {i : Nat} {e : Ev} (h : es[i]? = some e) : (nms es)[i]? = some e.1 := by
  rw [nms, List.getElem?_map, h]; rfl
theorem nms_fresh {es : List Ev} (o : (nms es).Nodup) {i : Nat} {e : Ev} (h : es[i]? = some e) : e.1 ∉ (nms es).take i := fun hm => by
  obtain ⟨hi, ex⟩ := List.getElem?_eq_some_iff.mp (nms_get h)
  obtain ⟨j, hj, ej⟩ := List.getElem_of_mem hm
  rw [List.length_take] at hj
  rw [List.getElem_take] at ej
  exact (List.pairwise_iff_getElem.mp o) j i (by omega) hi (by omega) (ej.trans ex.symm)
theorem take_succ_nms {es : List Ev} {i : Nat} {e : Ev} (h : es[i]? = some e) : (nms es).take (i + 1) = (nms es).take i ++ [e.1] := by
  rw [List.take_succ, nms_get h]; rfl
def dbB : List IS := [.put 2 (.var 3) (.op .max1 [.op .add [.lst [.lit (.int 0)], .comp [6, 7] (.tp [.nm 6, .nm 7]) .zip [.var 4, .var 5] [] (.op .add [.op .idx [.bor 2, .op .idx [.bor 6, .lit (.int 0)]], .bor 7])]])]
theorem dbB_ok {t : Tb} {Ex : ExV → DEnv → Prop} {es : List Ev} {f : Nm → Int} {a0 a1 : Slt} {i : Nat} {e : Ev} {r : Row} {K : KS} (o : FlowOk es) (he : es[i]? = some e) (hr : RowOk e.2 r) (hd : f e.1 ∈ 0 :: stepL f (e, r) ∧ ∀ y ∈ 0 :: stepL f (e, r), y ≤ f e.1)
    (hK : K.nx [a0, a1, some (true, .dct false (tabI (tabF f ((nms es).take (i + 1))))), some (false, .str e.1), some (false, .tup (e.2.map caD)), some (false, rowD r), none, none]) :
    wpSs t Ex dbB [a0, a1, some (true, .dct false (tabI (tabF f ((nms es).take i)))), some (false, .str e.1), some (false, .tup (e.2.map caD)), some (false, rowD r), none, none] K := by
  have l20 := o.l20
  have o2 := o.cs i e he
  have l6 := o2.l6
  have hpl : (tabI (tabF f ((nms es).take i))).length < 16777216 := by
    simp only [tabI, tabF, nms, List.length_map, List.length_take]; omega
  simp -dsimp [dbB, rowD_def, zip_mapL]
  refine compL_map1 (stD f) _ ?_ (by simp; omega) ?_
  · intro x hx K hK
    obtain ⟨p, hp, rfl⟩ := List.mem_map.mp hx
    have hm : p.1.1 ∈ (nms es).take i := (o2.c _ (List.of_mem_zip hp).1).m
    simp -dsimp [asgT, asgTs, caD_def, at0, opW_idx_dct, look_tabF f hm]
    exact hK
  · have e1 : ∀ g : Ca × Int → D, (∀ p, g p = D.ktup [caD p.1, .int p.2]) → List.map (stD f) (List.map g (e.2.zip r)) = (stepL f (e, r)).map D.int := fun g hg => by
      unfold stepL
      rw [List.map_map, List.map_map]
      exact List.map_congr_left fun p _ => by show stD f (g p) = _; rw [hg]; rfl
    rw [e1 ((fun p => D.ktup [p.fst, p.snd]) ∘ fun p => (caD p.fst, D.int p.snd)) fun _ => rfl]
    refine ⟨by simp [stepL]; omega, 0 :: stepL f (e, r), allSome_ints8 (0 :: stepL f (e, r)), by simp, fun m hm hmax => ?_⟩
    have : m = f e.1 := Int.le_antisymm (hd.2 m hm) (hmax _ hd.1)
    subst this
    have hput : dPut (tabI (tabF f ((nms es).take i))) (.str e.1) (.int (f e.1)) = tabI (tabF f ((nms es).take (i + 1))) := by
      rw [tabF_put f (nms_fresh o.nd he), take_succ_nms he]
    simp -dsimp
    rw [← hput] at hK
    exact ⟨rfl, hpl, hK⟩
theorem days_by_ok {t : Tb} (g1203 : t.gd 1203 = g_events) {Ex : ExV → DEnv → Prop} {a b : D} {Q : D → Prop} {E : ExV → Prop} (h : C_days_by [a, b] Q E) : wpSs t Ex i_days_by [some (false, a), some (false, b), none, none, none, none, none, none] (endK Q) := by
  obtain ⟨es, dl, f, rfl, rfl, o, od, hd, q⟩ := h
  have hl := od.l
  have hs : i_days_by = [.own 2 (.dnew false), .for_ (.tp [.tp [.nm 3, .nm 4], .nm 5]) .zip [.prop 1 1203 (.var 0), .var 1] dbB, .ret (.meth .tvals (.bor 2) [])] := rfl
  rw [hs]
  simp -dsimp [endK, g1203, g_events, dlD_def]
  refine ⟨⟨_, rfl⟩, es, rfl, ?_⟩
  simp -dsimp [evsD_def, zip_mapL]
  refine forL_inv (fun i en => ∃ a3 a4 a5, en = [some (false, flowO es), some (false, .tup (dl.map rowD)), some (true, .dct false (tabI (tabF f ((nms es).take i)))), a3, a4, a5, none, none]) _ _ 0 ⟨_, _, _, rfl⟩ ?_ ?_
  · rintro i x en K hi ⟨a3, a4, a5, rfl⟩ hK
    rw [Nat.zero_add] at hK ⊢
    rw [List.getElem?_map] at hi
    obtain ⟨⟨e, r⟩, hp, rfl⟩ := Option.map_eq_some_iff.mp hi
    have he := (List.getElem?_zip_eq_some.mp hp).1
    have hm := List.mem_of_getElem? hp
    simp -dsimp [asgT, asgTs, evD_def, rowD_def]
    exact dbB_ok o he (od.r _ hm) (hd _ hm) (hK _ ⟨_, _, _, rfl⟩)
  · rintro en ⟨a3, a4, a5, rfl⟩
    have e1 : (nms es).take es.length = nms es := by rw [List.take_of_length_le]; simp [nms]
    have e2 : min es.length dl.length = es.length := by omega
    simp -dsimp [e1, e2]
    rw [tabF_vals]
    exact ⟨rfl, q⟩
/-! days -/
def C_days : Contract
  | [a, b], Q, _ => ∃ (es : List Ev) (dl : List Row) (f : Nm → Int), a = flowO es ∧ b = dlD dl ∧ FlowOk es ∧ DelOk es dl ∧ IsDay (es.zip dl) f ∧ Q (dayD f es)
  | _, _, _ => False
def g_days : GD := { name := "days", ps := ["flow", "delays"], lvl := 5, kws := [(["delays", "flow"], [1, 0])], C := C_days }
theorem isClo_fl {es : List Ev} : isClo (flowO es) = false := rfl
theorem isClo_day {f : Nm → Int} {es : List Ev} : isClo (dayD f es) = false := rfl
theorem days_ok {t : Tb} (g1157 : t.gd 1157 = g_days_by) (g1158 : t.gd 1158 = g_check_flow) (g1160 : t.gd 1160 = g_are_delays) {Ex : ExV → DEnv → Prop} {a b : D} {Q : D → Prop} {E : ExV → Prop} (h : C_days [a, b] Q E) : wpSs t Ex i_days [some (false, a), some (false, b)] (endK Q) := by
  obtain ⟨es, dl, f, rfl, rfl, o, od, hd, q⟩ := h
  simp -dsimp [i_days, endK, callW, g1157, g1158, g1160, g_days_by, g_check_flow, g_are_delays, isClo_fl, isClo_dl]
  refine ⟨es, rfl, ?_⟩
  simp -dsimp [callW, isClo_fl, isClo_dl]
  refine ⟨es, dl, rfl, rfl, o, od, ?_⟩
  simp -dsimp [callW, isClo_fl, isClo_dl]
  exact ⟨es, dl, f, rfl, rfl, o, od, hd, rfl, q⟩
end SD

set_option Elab.async false
set_option linter.all false
set_option maxRecDepth 100000
namespace SD
open PySem L2
def clsM (s : Stmt) (k : Nat) : Stmt := match s with
  | .ClassDef _ _ _ b _ _ _ _ _ _ _ => b.getD k (.Pass ⟨0, 0, 0, 0⟩)
  | _ => .Pass ⟨0, 0, 0, 0⟩
def tops (i : Nat) : Stmt := PySem.Challenge.pw_portedlines_k52_whole_days_along_all_way.main.body.getD i (.Pass ⟨0, 0, 0, 0⟩)
def n_days_by : List Str := ["flow", "delays", "found", "name", "causes", "row", "cause", "delay"]
abbrev s_days_by : Stmt := tops 7
def n_is_whole : List Str := ["value"]
abbrev s_is_whole : Stmt := tops 12
def n_is_number : List Str := ["value", "low", "high"]
abbrev s_is_number : Stmt := tops 13
def n_is_tuple_of : List Str := ["value", "many"]
abbrev s_is_tuple_of : Stmt := tops 14
def n_wrong_at : List Str := ["values", "most", "is_right", "at", "value"]
abbrev s_wrong_at : Stmt := tops 15
def n_is_letters : List Str := ["value", "least", "most", "letter"]
abbrev s_is_letters : Stmt := tops 16
def n_is_name : List Str := ["value"]
abbrev s_is_name : Stmt := tops 17
def n_is_one_of : List Str := ["value", "words"]
abbrev s_is_one_of : Stmt := tops 18
def n_is_cause : List Str := ["names", "value"]
abbrev s_is_cause : Stmt := tops 23
def n_are_causes : List Str := ["names", "value", "is_right"]
abbrev s_are_causes : Stmt := tops 24
def n_is_event : List Str := ["names", "value"]
abbrev s_is_event : Stmt := tops 25
def n_check_events : List Str := ["value", "is_right", "at"]
abbrev s_check_events : Stmt := tops 26
def n_check_flow : List Str := ["value"]
abbrev s_check_flow : Stmt := tops 28
def n_is_row : List Str := ["causes", "value", "cause", "delay"]
abbrev s_is_row : Stmt := tops 29
def n_are_delays : List Str := ["flow", "value", "event", "row"]
abbrev s_are_delays : Stmt := tops 30
def n_days : List Str := ["flow", "delays"]
abbrev s_days : Stmt := tops 31
def n__law_urn : List Str := ["script", "lap", "mixed", "cell", "own"]
def i__law_urn : List IS := [.set 2 (.op .add [.lit (.int 735173), .op .mul [.lit (.int 9013), .bor 1]]), .for_ (.nm 3) .it [.op (.sl false true) [.bor 0, .lit (.int 11)]] [.set 2 (.op .mod [.op .int_ [.op .add [.op .add [.op .mul [.bor 2, .lit (.int 50053)], .op .mul [.op .mod [.op .int_ [.bor 3], .lit (.int 2147483423)], .lit (.int 17)]], .lit (.int 29)]], .lit (.int 2147483563)])], .set 4 (.ite (.op .lt [.bor 1, .op .len [.bor 0]]) (.op .int_ [.op .idx [.bor 0, .bor 1]]) (.lit (.int 0))), .set 2 (.op .mod [.op .int_ [.op .add [.op .add [.op .mul [.bor 2, .lit (.int 61)], .op .mul [.op .mod [.op .int_ [.bor 4], .lit (.int 2147483423)], .lit (.int 30071)]], .lit (.int 7)]], .lit (.int 2147483563)]), .ret (.lst [.ite (.or [.op .lt [.bor 4, .lit (.int 0)], .op .ge [.bor 4, .op .pow [.lit (.int 10), .lit (.int 15)]]]) (.op .abs [.bor 4]) (.lit (.int 0)), .var 2, .lit (.int 0)])]
abbrev s__law_urn : Stmt := tops 33
def n__law_take : List Str := ["urn", "many", "figure", "stir"]
def i__law_take : List IS := [.ite (.op .gt [.wget 0 0, .lit (.int 0)]) [.wdm 0 0 2 (.op .divmod [.wget 0 0, .bor 1]), .ret (.var 2)] [], .wset 0 2 (.op .add [.wget 0 2, .lit (.int 1)]), .set 3 (.op .mod [.op .int_ [.op .add [.op .mul [.wget 0 1, .lit (.int 40087)], .op .mul [.lit (.int 16033), .wget 0 2]]], .lit (.int 2147483563)]), .wset 0 1 (.op .mod [.op .int_ [.op .add [.op .mul [.bor 3, .op .add [.op .mod [.op .int_ [.bor 3], .lit (.int 4999)], .lit (.int 30103)]], .op .mul [.lit (.int 5), .wget 0 2]]], .lit (.int 2147483563)]), .ret (.op .mod [.op .int_ [.op .fdiv [.wget 0 1, .lit (.int 811)]], .bor 1])]
abbrev s__law_take : Stmt := tops 34
def n__law_of : List Str := ["urn", "some"]
abbrev s__law_of : Stmt := tops 35
def n__law_names : List Str := ["urn", "many", "found", "letters", "turn", "size", "name", "lap", "at", "place"]
abbrev s__law_names : Stmt := tops 36
def n__law_same : List Str := ["one", "two", "a", "b"]
abbrev s__law_same : Stmt := tops 37
def n__law_flow : List Str := ["urn", "many", "most", "high", "names", "events", "k", "name", "left", "causes", "turn", "cause", "low"]
abbrev s__law_flow : Stmt := tops 38
def n__law_days : List Str := ["events", "delays", "found", "k", "event", "name", "causes", "j", "cause"]
abbrev s__law_days : Stmt := tops 39
def n__law_ends : List Str := ["events", "at", "cause", "event"]
abbrev s__law_ends : Stmt := tops 40
def n__law_ways : List Str := ["events", "last", "table", "found", "edge", "ahead", "way", "cause", "least", "most"]
abbrev s__law_ways : Stmt := tops 41
def n__law_delays : List Str := ["urn", "events", "found", "name", "causes", "rows", "cause", "least", "most"]
abbrev s__law_delays : Stmt := tops 42
def n__law_longest : List Str := ["events", "delays", "steps", "found", "k", "event", "j", "cause", "name", "causes", "sums", "way"]
abbrev s__law_longest : Stmt := tops 43
def n__law_turned : List Str := ["urn", "events", "delays", "left", "found", "told", "k", "event", "known", "free", "pair", "cause", "rows"]
abbrev s__law_turned : Stmt := tops 44
def n__law_right : List Str := ["urn", "held", "turn", "events", "flow", "delays", "own", "due", "event", "others", "told"]
abbrev s__law_right : Stmt := tops 45
def n_law : List Str := ["script", "lap"]
def i_law : List IS := [.ret (.op .all_ [.comp [1] (.nm 1) .range [.op .max2 [.lit (.int 1), .op .min2 [.op .len [.bor 0], .lit (.int 3)]]] [] (.call 1170 [.call 1901 [.var 0, .var 1]])])]
abbrev s_law : Stmt := tops 46
def n_Flow_init : List Str := ["self", "events"]
abbrev s_Flow_init : Stmt := clsM (tops 27) 0
def n_Flow_events : List Str := ["self"]
abbrev s_Flow_events : Stmt := clsM (tops 27) 1
def n_Flow_parts : List Str := ["self"]
abbrev s_Flow_parts : Stmt := clsM (tops 27) 2
def n_Flow_eq : List Str := ["self", "other"]
abbrev s_Flow_eq : Stmt := clsM (tops 27) 3
def i_Flow_eq : List IS := [.ret (.and [.isc 1 (.var 1), .op .eq [.prop 1 1204 (.var 0), .prop 1 1204 (.var 1)]])]
def n_c5_are_causes : List Str := ["each", "before", "names"]
def n_c6_check_events : List Str := ["each", "before", "event"]
end SD

set_option Elab.async false
set_option linter.all false
set_option maxRecDepth 100000
set_option maxHeartbeats 4000000
namespace SD
open PySem L2
def i__law_days : List IS := [.own 2 (.dnew false), .for_ (.tp [.nm 3, .nm 4]) .enum [.var 0] [.asg (.tp [.nm 5, .nm 6]) (.var 4), .put 2 (.var 5) (.op .max1 [.op .add [.lst [.lit (.int 0)], .comp [7, 8] (.tp [.nm 7, .nm 8]) .enum [.var 6] [] (.op .add [.op .idx [.bor 2, .op .idx [.bor 8, .lit (.int 0)]], .op .idx [.op .idx [.bor 1, .bor 3], .bor 7]])]])], .ret (.var 2)]
def i__law_ends : List IS := [.ret (.op .tuple_ [.comp [3] (.nm 3) .it [.var 0] [] (.op .tuple_ [.comp [2] (.nm 2) .it [.op .idx [.bor 3, .lit (.int 1)]] [] (.op .idx [.bor 2, .bor 1])])])]
def i__law_delays : List IS := [.own 2 (.lst []), .for_ (.tp [.nm 3, .nm 4]) .it [.var 1] [.own 5 (.lst []), .for_ (.tp [.nm 6, .nm 7, .nm 8]) .it [.var 4] [.expr (.mut .append 5 [.call 1080 [.var 0, .lst [.var 7, .var 8, .op .add [.bor 7, .call 1900 [.var 0, .op .add [.op .sub [.bor 8, .bor 7], .lit (.int 1)]]]]]])], .expr (.mut .append 2 [.op .tuple_ [.bor 5]])], .ret (.op .tuple_ [.bor 2])]
/-! _law_days -/
def C_ldays : Contract
  | [a, b], Q, _ => ∃ (es : List Ev) (dl : List Row) (f : Nm → Int), a = evsD es ∧ b = dlD dl ∧ FlowOk es ∧ DelOk es dl ∧ IsDay (es.zip dl) f ∧ Q (.dct false (tabI (tabF f (nms es))))
  | _, _, _ => False
def g_ldays : GD := { name := "_law_days", ps := ["events", "delays"], lvl := 1, C := C_ldays }
def stE (f : Nm → Int) (r : Row) : D → D
  | .ktup [.int j, .tup (.str c :: _)] => .int (f c + r.getD j.toNat 0)
  | d => d
theorem zipIdx_zip {α : Type} (cs : List α) (r : Row) (h : r.length = cs.length) (g : α → Int → Int) : (cs.zipIdx.map fun p => g p.1 (r.getD p.2 0)) = (cs.zip r).map fun q => g q.1 q.2 := by
  apply List.ext_getElem
  · simp [h]
  · intro i h1 h2
    simp only [List.length_map, List.length_zipIdx] at h1
    simp only [List.getElem_map, List.getElem_zipIdx, List.getElem_zip, Nat.zero_add]
    rw [List.getD_eq_getElem?_getD, List.getElem?_eq_getElem (by omega)]
    rfl
def ldB : List IS := [.asg (.tp [.nm 5, .nm 6]) (.var 4), .put 2 (.var 5) (.op .max1 [.op .add [.lst [.lit (.int 0)], .comp [7, 8] (.tp [.nm 7, .nm 8]) .enum [.var 6] [] (.op .add [.op .idx [.bor 2, .op .idx [.bor 8, .lit (.int 0)]], .op .idx [.op .idx [.bor 1, .bor 3], .bor 7]])]])]
theorem ldB_ok {t : Tb} {Ex : ExV → DEnv → Prop} {es : List Ev} {dl : List Row} {f : Nm → Int} {a0 a5 a6 : Slt} {i : Nat} {e : Ev} {r : Row} {K : KS} (o : FlowOk es) (he : es[i]? = some e) (hri : dl[i]? = some r) (hr : RowOk e.2 r) (hd : f e.1 ∈ 0 :: stepL f (e, r) ∧ ∀ y ∈ 0 :: stepL f (e, r), y ≤ f e.1)
    (hK : ∀ a4 a5 a6, K.nx [a0, some (false, dlD dl), some (true, .dct false (tabI (tabF f ((nms es).take (i + 1))))), some (false, .int (i : Int)), a4, a5, a6, none, none]) :
    wpSs t Ex ldB [a0, some (false, dlD dl), some (true, .dct false (tabI (tabF f ((nms es).take i)))), some (false, .int (i : Int)), some (false, evD e), a5, a6, none, none] K := by
  have l20 := o.l20
  have o2 := o.cs i e he
  have l6 := o2.l6
  have hrl := hr.l
  have hil : i < dl.length := (List.getElem?_eq_some_iff.mp hri).1
  have hidx : atI (dl.map rowD) (i : Int) = some (rowD r) := by
    rw [atN (by rw [List.length_map]; exact hil), List.getElem?_map, hri]; rfl
  have hpl : (tabI (tabF f ((nms es).take i))).length < 16777216 := by
    simp only [tabI, tabF, nms, List.length_map, List.length_take]; omega
  simp -dsimp [ldB, evD_def, dlD_def]
  refine compL_map1 (stE f r) _ ?_ (by simp; omega) ?_
  · intro x hx K hK
    obtain ⟨⟨x, j⟩, hp, rfl⟩ := List.mem_map.mp hx
    obtain ⟨c, hc, rfl, hj⟩ : ∃ c, e.2[j]? = some c ∧ x = caD c ∧ j < e.2.length := by
      have h1 := List.mk_mem_zipIdx_iff_getElem?.mp hp
      rw [List.getElem?_map] at h1
      obtain ⟨c, h2, h3⟩ := Option.map_eq_some_iff.mp h1
      exact ⟨c, h2, h3.symm, (List.getElem?_eq_some_iff.mp h2).1⟩
    have hm : c.1 ∈ (nms es).take i := (o2.c _ (List.mem_of_getElem? hc)).m
    have hjx : atI (r.map D.int) (j : Int) = some (.int (r.getD j 0)) := by
      rw [atN (by rw [List.length_map]; omega), List.getElem?_map, List.getD_eq_getElem?_getD, List.getElem?_eq_getElem (by omega)]; rfl
    simp -dsimp [asgT, asgTs, caD_def, at0, opW_idx_dct, look_tabF f hm, hidx, rowD_def, hjx]
    exact hK
  · have e1 : List.map (stE f r) (List.map (fun p : D × Nat => D.ktup [.int (p.2 : Int), p.1]) ((e.2.map caD).zipIdx)) = (stepL f (e, r)).map D.int := by
      unfold stepL
      show _ = List.map D.int (List.map (fun q : Ca × Int => (fun (c : Ca) (x : Int) => f c.1 + x) q.1 q.2) (e.2.zip r))
      rw [← zipIdx_zip e.2 r hrl (fun c x => f c.1 + x), List.zipIdx_map, List.map_map, List.map_map, List.map_map]
      refine List.map_congr_left fun p _ => ?_
      show D.int (f p.1.1 + r.getD (p.2 : Int).toNat 0) = _
      rw [Int.toNat_natCast]; rfl
    rw [e1]
    refine ⟨by simp [stepL]; omega, 0 :: stepL f (e, r), allSome_ints8 (0 :: stepL f (e, r)), by simp, fun m hm hmax => ?_⟩
    have : m = f e.1 := Int.le_antisymm (hd.2 m hm) (hmax _ hd.1)
    subst this
    have hput : dPut (tabI (tabF f ((nms es).take i))) (.str e.1) (.int (f e.1)) = tabI (tabF f ((nms es).take (i + 1))) := by
      rw [tabF_put f (nms_fresh o.nd he), take_succ_nms he]
    simp -dsimp
    have hK2 := hK (some (false, D.tup [D.str e.1, D.tup (e.2.map caD)])) (some (false, .str e.1)) (some (false, .tup (e.2.map caD)))
    rw [← hput] at hK2
    exact ⟨rfl, hpl, hK2⟩
theorem ldays_ok {t : Tb} {Ex : ExV → DEnv → Prop} {a b : D} {Q : D → Prop} {E : ExV → Prop} (h : C_ldays [a, b] Q E) : wpSs t Ex i__law_days [some (false, a), some (false, b), none, none, none, none, none, none, none] (endK Q) := by
  obtain ⟨es, dl, f, rfl, rfl, o, od, hd, q⟩ := h
  have hl := od.l
  have hs : i__law_days = [.own 2 (.dnew false), .for_ (.tp [.nm 3, .nm 4]) .enum [.var 0] ldB, .ret (.var 2)] := rfl
  rw [hs]
  simp -dsimp [endK, evsD_def]
  refine forL_inv (fun i en => ∃ a3 a4 a5 a6, en = [some (false, .tup (es.map evD)), some (false, dlD dl), some (true, .dct false (tabI (tabF f ((nms es).take i)))), a3, a4, a5, a6, none, none]) _ _ 0 ⟨_, _, _, _, rfl⟩ ?_ ?_
  · rintro i x en K hi ⟨a3, a4, a5, a6, rfl⟩ hK
    rw [Nat.zero_add] at hK ⊢
    rw [List.getElem?_map] at hi
    obtain ⟨⟨d, j⟩, hp, rfl⟩ := Option.map_eq_some_iff.mp hi
    have hz := List.getElem?_zipIdx (l := es.map evD) (i := 0) (j := i)
    rw [hp, List.getElem?_map] at hz
    have hil : i < es.length := by
      have := (List.getElem?_eq_some_iff.mp hp).1
      simpa using this
    rw [List.getElem?_eq_getElem hil] at hz
    have hz2 : d = evD es[i] ∧ j = i := by simpa using hz
    obtain ⟨rfl, rfl⟩ := hz2
    have he : es[j]? = some es[j] := List.getElem?_eq_getElem hil
    have hr : dl[j]? = some (dl[j]'(by omega)) := List.getElem?_eq_getElem (by omega)
    have hm : (es[j], dl[j]'(by omega)) ∈ es.zip dl := List.mem_of_getElem? (List.getElem?_zip_eq_some.mpr ⟨he, hr⟩)
    simp -dsimp [asgT, asgTs]
    exact ldB_ok o he hr (od.r _ hm) (hd _ hm) fun a4 a5 a6 => hK _ ⟨_, _, _, _, rfl⟩
  · rintro en ⟨a3, a4, a5, a6, rfl⟩
    have e1 : (nms es).take es.length = nms es := by rw [List.take_of_length_le]; simp [nms]
    simp -dsimp [e1]
    exact q
/-! _law_ends -/
def enR (a : Int) (cs : List Ca) : Row := cs.map fun c => if a = 1 then c.2.1 else c.2.2
def enL (a : Int) (es : List Ev) : List Row := es.map fun e => enR a e.2
def C_ends : Contract
  | [x, .int a], Q, _ => ∃ es : List Ev, x = evsD es ∧ FlowOk es ∧ (a = 1 ∨ a = 2) ∧ Q (dlD (enL a es))
  | _, _, _ => False
def g_ends : GD := { name := "_law_ends", ps := ["events", "at"], lvl := 1, C := C_ends }
def enF (a : Int) : D → D
  | .tup [_, .int x, .int y] => .int (if a = 1 then x else y)
  | d => d
def enG (a : Int) : D → D
  | .tup [_, .tup cs] => .tup (cs.map (enF a))
  | d => d
theorem enF_map {a : Int} {cs : List Ca} : (cs.map caD).map (enF a) = (enR a cs).map D.int := by
  unfold enR; rw [List.map_map, List.map_map]; rfl
theorem enG_map {a : Int} {es : List Ev} : (es.map evD).map (enG a) = (enL a es).map rowD := by
  unfold enL; rw [List.map_map, List.map_map]
  refine List.map_congr_left fun e _ => ?_
  show D.tup ((e.2.map caD).map (enF a)) = _
  rw [enF_map]; rfl
theorem ends_ok {t : Tb} {Ex : ExV → DEnv → Prop} {x y : D} {Q : D → Prop} {E : ExV → Prop} (h : C_ends [x, y] Q E) : wpSs t Ex i__law_ends [some (false, x), some (false, y), none, none] (endK Q) := by
  cases y with
  | int a =>
    obtain ⟨es, rfl, o, ha, q⟩ := h
    have l20 := o.l20
    simp -dsimp [i__law_ends, endK, evsD_def]
    refine compL_map1 (enG a) _ ?_ (by simp; omega) ?_
    · intro x hx K hK
      obtain ⟨e, he, rfl⟩ := List.mem_map.mp hx
      have l6 := o.l6 he
      simp -dsimp [evD_def, at1]
      refine compL_map1 (enF a) _ ?_ (by simp; omega) ?_
      · intro x hx K hK
        obtain ⟨c, hc, rfl⟩ := List.mem_map.mp hx
        rcases ha with rfl | rfl
        · simp -dsimp [caD_def, at1]; exact hK
        · simp -dsimp [caD_def, at2]; exact hK
      · exact ⟨rfl, hK⟩
    · rw [enG_map]
      exact q
  | _ => exact h.elim
theorem enL_ok {es : List Ev} {a : Int} (o : FlowOk es) : DelOk es (enL a es) := by
  refine ⟨by simp [enL], fun p hp => ?_⟩
  unfold enL at hp
  rw [List.zip_map_right] at hp
  obtain ⟨⟨e, e2⟩, h1, rfl⟩ := List.mem_map.mp hp
  have : e = e2 := by
    have h2 : (e, e2) ∈ es.map fun x => (x, x) := by
      have : es.zip es = es.map fun x => (x, x) := by
        clear h1 hp o
        induction es with
        | nil => rfl
        | cons a l ih => simp [ih]
      rw [← this]; exact h1
    obtain ⟨z, _, hz⟩ := List.mem_map.mp h2
    cases hz; rfl
  subst this
  have he := (List.of_mem_zip h1).1
  obtain ⟨i, _, oc⟩ := o.cas he
  refine ⟨by simp [enR], fun q hq => ?_⟩
  show _ ≤ _ ∧ _
  unfold enR at hq
  simp only [Prod.map, id] at hq
  rw [List.zip_map_right] at hq
  obtain ⟨⟨c, c2⟩, h3, rfl⟩ := List.mem_map.mp hq
  have : c = c2 := by
    have : e.2.zip e.2 = e.2.map fun x => (x, x) := by
      generalize e.2 = l
      induction l with
      | nil => rfl
      | cons a l ih => simp [ih]
    rw [this] at h3
    obtain ⟨z, _, hz⟩ := List.mem_map.mp h3
    cases hz; rfl
  subst this
  have hc := oc.c c (List.of_mem_zip h3).1
  have := hc.le
  simp only [Prod.map, id]
  split <;> omega
end SD

set_option Elab.async false
set_option linter.all false
set_option maxRecDepth 100000
set_option maxHeartbeats 4000000
namespace SD
open PySem L2
/-! _law_delays -/
def C_delays : Contract
  | [.well, x], Q, _ => ∃ es : List Ev, x = evsD es ∧ FlowOk es ∧ ∀ dl, DelOk es dl → Q (dlD dl)
  | _, _, _ => False
def g_delays : GD := { name := "_law_delays", ps := ["urn", "events"], lvl := 3, C := C_delays }
theorem zip_snoc {α β : Type} : ∀ {l : List α} {r : List β} {i : Nat} {a : α} {b : β}, l[i]? = some a → r.length = i → l.zip (r ++ [b]) = l.zip r ++ [(a, b)]
  | [], _, i, a, b, h, _ => by cases h
  | x :: l, [], i, a, b, h, hl => by
    subst hl
    cases h
    show [(x, b)] ++ l.zip [] = _
    rw [List.zip_nil_right]; rfl
  | x :: l, y :: r, i, a, b, h, hl => by
    subst hl
    show (x, y) :: l.zip (r ++ [b]) = (x, y) :: (l.zip r ++ [(a, b)])
    rw [zip_snoc (i := r.length) (by simpa using h) rfl]
def lyA : List IS := [.expr (.mut .append 5 [.call 1080 [.var 0, .lst [.var 7, .var 8, .op .add [.bor 7, .call 1900 [.var 0, .op .add [.op .sub [.bor 8, .bor 7], .lit (.int 1)]]]]]])]
def lyB : List IS := [.own 5 (.lst []), .for_ (.tp [.nm 6, .nm 7, .nm 8]) .it [.var 4] lyA, .expr (.mut .append 2 [.op .tuple_ [.bor 5]])]
abbrev lyE (d : D) (f : List D) (a3 a4 a5 a6 a7 a8 : Slt) : DEnv := [some (false, .well), some (false, d), some (true, .lst f), a3, a4, a5, a6, a7, a8]
theorem lyB_ok {t : Tb} (g1 : t.gd 1900 = g_take) (g2 : t.gd 1080 = g_uof) {Ex : ExV → DEnv → Prop} {d : D} {f : List D} {ns : List Nm} {e : Ev} {a5 a6 a7 a8 : Slt} {K : KS} (o : CasOk ns e.2) (hf : f.length ≤ 30)
    (hK : ∀ r a3 a4 a5 a6 a7 a8, RowOk e.2 r → K.nx (lyE d (f ++ [rowD r]) a3 a4 a5 a6 a7 a8)) :
    wpSs t Ex lyB (lyE d f (some (false, .str e.1)) (some (false, .tup (e.2.map caD))) a5 a6 a7 a8) K := by
  have l6 := o.l6
  simp -dsimp [lyB]
  refine forL_inv (fun i en => ∃ (r : Row) (a6 a7 a8 : Slt), en = lyE d f (some (false, .str e.1)) (some (false, .tup (e.2.map caD))) (some (true, .lst (r.map .int))) a6 a7 a8 ∧ r.length = i ∧ ∀ q ∈ e.2.zip r, q.1.2.1 ≤ q.2 ∧ q.2 ≤ q.1.2.2) _ _ 0 ⟨[], _, _, _, rfl, rfl, by simp⟩ ?_ ?_
  · rintro i x en K hi ⟨r, a6, a7, a8, rfl, hr, hb⟩ hK2
    rw [Nat.zero_add] at hr hK2
    rw [List.getElem?_map] at hi
    obtain ⟨c, hc, rfl⟩ := Option.map_eq_some_iff.mp hi
    have oc := o.c c (List.mem_of_getElem? hc)
    have o1 := oc.lo; have o2 := oc.le; have o3 := oc.hi
    have hil := (List.getElem?_eq_some_iff.mp hc).1
    simp -dsimp [lyA, asgT, asgTs, caD_def, callW, g1, g2, g_take, g_uof, C_draw_is, C_uof_lst]
    refine ⟨by omega, by omega, fun z z0 z1 y hy => ?_⟩
    have hy2 : ∃ v : Int, c.2.1 ≤ v ∧ v ≤ c.2.2 ∧ y = .int v := by
      simp only [List.mem_cons, List.not_mem_nil, or_false] at hy
      rcases hy with rfl | rfl | rfl
      · exact ⟨_, by omega, by omega, rfl⟩
      · exact ⟨_, by omega, by omega, rfl⟩
      · exact ⟨_, by omega, by omega, rfl⟩
    obtain ⟨v, v0, v1, rfl⟩ := hy2
    have e1 : r.map D.int ++ [D.int v] = (r ++ [v]).map D.int := by rw [List.map_append]; rfl
    refine ⟨rfl, by omega, ?_⟩
    rw [e1]
    refine hK2 _ ⟨_, _, _, _, rfl, by simp; omega, fun q hq => ?_⟩
    rw [zip_snoc hc hr] at hq
    rcases List.mem_append.mp hq with h | h
    · exact hb q h
    · rw [List.mem_singleton.mp h]; exact ⟨v0, v1⟩
  · rintro en ⟨r, a6, a7, a8, rfl, hr, hb⟩
    simp -dsimp at hr
    simp -dsimp
    refine ⟨by omega, ?_⟩
    exact hK r _ _ _ _ _ _ ⟨by omega, hb⟩
theorem delays_ok {t : Tb} (g1 : t.gd 1900 = g_take) (g2 : t.gd 1080 = g_uof) {Ex : ExV → DEnv → Prop} {d : D} {Q : D → Prop} {E : ExV → Prop} (h : C_delays [.well, d] Q E) : wpSs t Ex i__law_delays [some (false, .well), some (false, d), none, none, none, none, none, none, none] (endK Q) := by
  obtain ⟨es, rfl, o, q⟩ := h
  have l20 := o.l20
  have hs : i__law_delays = [.own 2 (.lst []), .for_ (.tp [.nm 3, .nm 4]) .it [.var 1] lyB, .ret (.op .tuple_ [.bor 2])] := rfl
  rw [hs]
  simp -dsimp [endK, evsD_def]
  refine forL_inv (fun i en => ∃ (dl : List Row) (a3 a4 a5 a6 a7 a8 : Slt), en = lyE (.tup (es.map evD)) (dl.map rowD) a3 a4 a5 a6 a7 a8 ∧ dl.length = i ∧ ∀ p ∈ es.zip dl, RowOk p.1.2 p.2) _ _ 0 ⟨[], _, _, _, _, _, _, rfl, rfl, by simp⟩ ?_ ?_
  · rintro i x en K hi ⟨dl, a3, a4, a5, a6, a7, a8, rfl, hl, hb⟩ hK
    rw [Nat.zero_add] at hl hK
    rw [List.getElem?_map] at hi
    obtain ⟨e, he, rfl⟩ := Option.map_eq_some_iff.mp hi
    have hil := (List.getElem?_eq_some_iff.mp he).1
    simp -dsimp [asgT, asgTs, evD_def]
    refine lyB_ok g1 g2 (o.cs i e he) (by rw [List.length_map]; omega) fun r a3 a4 a5 a6 a7 a8 ro => ?_
    have e1 : dl.map rowD ++ [rowD r] = (dl ++ [r]).map rowD := by rw [List.map_append]; rfl
    rw [e1]
    refine hK _ ⟨_, _, _, _, _, _, _, rfl, by simp; omega, fun q hq => ?_⟩
    rw [zip_snoc he hl] at hq
    rcases List.mem_append.mp hq with h | h
    · exact hb q h
    · rw [List.mem_singleton.mp h]; exact ro
  · rintro en ⟨dl, a3, a4, a5, a6, a7, a8, rfl, hl, hb⟩
    simp -dsimp at hl
    simp -dsimp
    exact q dl ⟨by omega, hb⟩
end SD

set_option Elab.async false
set_option linter.all false
set_option maxRecDepth 100000
set_option maxHeartbeats 4000000
namespace SD
open PySem L2
/-! ## the days are there -/
theorem max_of : ∀ l : List Int, l ≠ [] → ∃ m, m ∈ l ∧ ∀ y ∈ l, y ≤ m
  | [], h => absurd rfl h
  | [a], _ => ⟨a, by simp, by simp⟩
  | a :: b :: l, _ => by
    obtain ⟨m, h1, h2⟩ := max_of (b :: l) (by simp)
    by_cases c : a ≤ m
    · exact ⟨m, List.mem_cons_of_mem _ h1, fun y hy => by
        rcases List.mem_cons.mp hy with rfl | h
        · exact c
        · exact h2 y h⟩
    · exact ⟨a, List.mem_cons_self, fun y hy => by
        rcases List.mem_cons.mp hy with rfl | h
        · exact Int.le_refl _
        · have := h2 y h; omega⟩
/-- causes stand ahead -/
theorem cause_ne {es : List Ev} (o : FlowOk es) {i j : Nat} {e d : Ev} (hi : es[i]? = some e) (hj : es[j]? = some d) (hle : j ≤ i) {c : Ca} (hc : c ∈ d.2) : c.1 ≠ e.1 := fun h => by
  have hm := ((o.cs j d hj).c c hc).m
  have hf := nms_fresh o.nd hi
  rw [← h] at hf
  have : (nms es).take j = ((nms es).take i).take j := by rw [List.take_take, Nat.min_eq_left hle]
  rw [this] at hm
  exact hf (List.mem_of_mem_take hm)
theorem zip_getP {α β : Type} {l : List α} {r : List β} {i : Nat} {p : α × β} (h : (l.zip r)[i]? = some p) : l[i]? = some p.1 ∧ r[i]? = some p.2 := List.getElem?_zip_eq_some.mp h
theorem stepL_congr {f g : Nm → Int} {p : Ev × Row} (h : ∀ c ∈ p.1.2, f c.1 = g c.1) : stepL f p = stepL g p := by
  unfold stepL
  exact List.map_congr_left fun q hq => by rw [h q.1 (List.of_mem_zip hq).1]
theorem day_ex {es : List Ev} {dl : List Row} (o : FlowOk es) : ∃ f, IsDay (es.zip dl) f := by
  have main : ∀ i, ∃ f, IsDay ((es.zip dl).take i) f := by
    intro i
    induction i with
    | zero => exact ⟨fun _ => 0, fun p hp => by cases hp⟩
    | succ i ih =>
      obtain ⟨f, hf⟩ := ih
      cases hp : (es.zip dl)[i]? with
      | none => exact ⟨f, by rw [List.take_succ, hp]; simpa using hf⟩
      | some p =>
        obtain ⟨M, hM, hmax⟩ := max_of (0 :: stepL f p) (by simp)
        have hpe := (zip_getP hp).1
        let g : Nm → Int := fun x => if x = p.1.1 then M else f x
        have key : ∀ j q, (es.zip dl)[j]? = some q → j ≤ i → stepL g q = stepL f q := fun j q hq hj => stepL_congr fun c hc => by
          show (if c.1 = p.1.1 then M else f c.1) = f c.1
          rw [if_neg (cause_ne o hpe (zip_getP hq).1 hj hc)]
        refine ⟨g, fun q hq => ?_⟩
        rw [List.take_succ, hp] at hq
        rcases List.mem_append.mp hq with h | h
        · obtain ⟨j, hj⟩ := List.mem_iff_getElem?.mp h
          rw [List.getElem?_take] at hj
          split at hj
          · rename_i hji
            rw [key j q hj (by omega)]
            have hne : q.1.1 ≠ p.1.1 := fun z => by
              have h1 := nms_get (zip_getP hj).1
              have h2 := nms_fresh o.nd hpe
              apply h2
              rw [← z]
              refine List.mem_of_getElem? (i := j) ?_
              rw [List.getElem?_take, if_pos hji, h1]
            have : g q.1.1 = f q.1.1 := if_neg hne
            rw [this]
            exact hf q h
          · cases hj
        · have : q = p := by simpa using h
          subst this
          rw [key i q hp (Nat.le_refl _)]
          have : g q.1.1 = M := if_pos rfl
          rw [this]
          exact ⟨hM, hmax⟩
  obtain ⟨f, hf⟩ := main (es.zip dl).length
  rw [List.take_length] at hf
  exact ⟨f, hf⟩
theorem IsDay.perm {l r : List (Ev × Row)} {f : Nm → Int} (h : IsDay l f) (p : r.Perm l) : IsDay r f := fun q hq => h q (p.mem_iff.mp hq)
/-! _law_turned -/
def i__law_turned : List IS := [.par [(3, true, .comp [6, 7] (.tp [.nm 6, .nm 7]) .enum [.var 1] [] (.tup [.var 7, .op .idx [.bor 2, .bor 6]])), (4, true, .lst []), (5, true, .lst [])], .while_ (.op .ne [.bor 3, .lst []]) [.snap 8 (.comp [7] (.nm 7) .it [.var 4] [] (.op .idx [.bor 7, .lit (.int 0)])), .snap 9 (.comp [6, 10] (.tp [.nm 6, .nm 10]) .enum [.var 3] [.op .all_ [.comp [11] (.nm 11) .it [.op .idx [.op .idx [.bor 10, .lit (.int 0)], .lit (.int 1)]] [] (.op .inn [.op .idx [.bor 11, .lit (.int 0)], .bor 8])]] (.var 6)), .asg (.tp [.nm 7, .nm 12]) (.mut .pop1 3 [.call 1080 [.var 0, .var 9]]), .expr (.mut .append 4 [.var 7]), .expr (.mut .append 5 [.var 12])], .ret (.tup [.op .tuple_ [.bor 4], .op .tuple_ [.bor 5]])]
def turnD (ps : List (Ev × Row)) : D := .tup [.tup (ps.map fun p => evD p.1), .tup (ps.map fun p => rowD p.2)]
def C_turned : Contract
  | [.well, a, b], Q, _ => ∃ (es : List Ev) (dl : List Row), a = evsD es ∧ b = dlD dl ∧ FlowOk es ∧ DelOk es dl ∧ ∀ ps : List (Ev × Row), ps.Perm (es.zip dl) → FlowOk (ps.map (·.1)) → Q (turnD ps)
  | _, _, _ => False
def g_turned : GD := { name := "_law_turned", ps := ["urn", "events", "delays"], lvl := 3, C := C_turned }
def prrD (p : Ev × Row) : D := .tup [evD p.1, rowD p.2]
theorem prrD_def {p : Ev × Row} : prrD p = .tup [evD p.1, rowD p.2] := rfl
abbrev tE (d b : D) (left fnd : List (Ev × Row)) (a7 a8 a9 a12 : Slt) : DEnv := [some (false, .well), some (false, d), some (false, b), some (true, .lst (left.map prrD)), some (true, .lst (fnd.map fun p => evD p.1)), some (true, .lst (fnd.map fun p => rowD p.2)), none, a7, a8, a9, none, none, a12]
def knw (fnd : List (Ev × Row)) : List Nm := fnd.map fun p => p.1.1
def tuA : List IS := [.snap 8 (.comp [7] (.nm 7) .it [.var 4] [] (.op .idx [.bor 7, .lit (.int 0)]))]
def tuB : List IS := [.snap 9 (.comp [6, 10] (.tp [.nm 6, .nm 10]) .enum [.var 3] [.op .all_ [.comp [11] (.nm 11) .it [.op .idx [.op .idx [.bor 10, .lit (.int 0)], .lit (.int 1)]] [] (.op .inn [.op .idx [.bor 11, .lit (.int 0)], .bor 8])]] (.var 6))]
def tuC : List IS := [.asg (.tp [.nm 7, .nm 12]) (.mut .pop1 3 [.call 1080 [.var 0, .var 9]]), .expr (.mut .append 4 [.var 7]), .expr (.mut .append 5 [.var 12])]
theorem all_fl_str (l : List Nm) : ∀ x ∈ l.map D.str, flatD x = true := by
  intro x hx
  obtain ⟨y, _, rfl⟩ := List.mem_map.mp hx
  rfl
theorem tuA_ok {t : Tb} {Ex : ExV → DEnv → Prop} {d b : D} {left fnd : List (Ev × Row)} {a7 a8 a9 a12 : Slt} {K : KS} (hl : fnd.length ≤ 20)
    (hK : K.nx (tE d b left fnd a7 (some (false, .lst ((knw fnd).map .str))) a9 a12)) : wpSs t Ex tuA (tE d b left fnd a7 a8 a9 a12) K := by
  simp -dsimp [tuA]
  refine compL_map1 fstD _ ?_ (by simp; omega) ?_
  · intro x hx K hK
    obtain ⟨p, hp, rfl⟩ := List.mem_map.mp hx
    simp -dsimp [evD_def, at0]
    exact hK
  · have e : (fnd.map fun p => evD p.1).map fstD = (knw fnd).map D.str := by
      unfold knw; rw [List.map_map, List.map_map]; rfl
    rw [e]
    exact ⟨rfl, all_fl_str _, hK⟩
/-- what may come next -/
def frB (kn : List Nm) (cs : List Ca) : Bool := cs.all fun c => decide (c.1 ∈ kn)
def inF (kn : List Nm) : D → D
  | .tup (.str c :: _) => .bl (decide (c ∈ kn))
  | d => d
theorem inF_map {kn : List Nm} {cs : List Ca} : (cs.map caD).map (inF kn) = (cs.map fun c => decide (c.1 ∈ kn)).map D.bl := by
  rw [List.map_map, List.map_map]; rfl
def frF (kn : List Nm) : D → List D
  | .ktup [.int j, .tup [.tup [_, .tup cs], _]] => if cs.all (fun c => deq (inF kn c) (.bl true)) then [.int j] else []
  | _ => []
theorem frF_is {kn : List Nm} {p : Ev × Row} {j : Nat} : frF kn (.ktup [.int (j : Int), prrD p]) = if frB kn p.1.2 = true then [.int (j : Int)] else [] := by
  show (if (p.1.2.map caD).all (fun c => deq (inF kn c) (.bl true)) = true then [D.int (j : Int)] else []) = _
  have : ((p.1.2.map caD).all fun c => deq (inF kn c) (.bl true)) = frB kn p.1.2 := by
    rw [List.all_map]; unfold frB
    congr 1
    funext c
    show deq (D.bl (decide (c.1 ∈ kn))) (D.bl true) = _
    cases decide (c.1 ∈ kn) <;> rfl
  rw [this]
theorem flat_len {α β : Type} (f : α → List β) (h : ∀ x, (f x).length ≤ 1) : ∀ l : List α, (l.flatMap f).length ≤ l.length
  | [] => Nat.le_refl _
  | a :: l => by
    rw [List.flatMap_cons, List.length_append, List.length_cons]
    have := flat_len f h l
    have := h a
    omega
theorem frF_len {kn : List Nm} (x : D) : (frF kn x).length ≤ 1 := by
  unfold frF
  split
  · split <;> simp
  · simp
def free (kn : List Nm) (left : List (Ev × Row)) : List D := (((left.map prrD).zipIdx).map fun p => D.ktup [.int (p.2 : Int), p.1]).flatMap (frF kn)
theorem free_mem {kn : List Nm} {left : List (Ev × Row)} {d : D} : d ∈ free kn left ↔ ∃ (j : Nat) (p : Ev × Row), left[j]? = some p ∧ frB kn p.1.2 = true ∧ d = .int (j : Int) := by
  unfold free
  rw [List.mem_flatMap]
  constructor
  · rintro ⟨x, hx, hd⟩
    obtain ⟨⟨y, j⟩, hp, rfl⟩ := List.mem_map.mp hx
    have h1 := List.mk_mem_zipIdx_iff_getElem?.mp hp
    rw [List.getElem?_map] at h1
    obtain ⟨p, h2, h3⟩ := Option.map_eq_some_iff.mp h1
    subst h3
    have h4 : d ∈ (if frB kn p.1.2 = true then [D.int (j : Int)] else []) := by rw [← frF_is]; exact hd
    split at h4
    · rename_i hb
      exact ⟨j, p, h2, hb, by simpa using h4⟩
    · cases h4
  · rintro ⟨j, p, h1, h2, rfl⟩
    refine ⟨.ktup [.int (j : Int), prrD p], List.mem_map.mpr ⟨(prrD p, j), List.mk_mem_zipIdx_iff_getElem?.mpr (by rw [List.getElem?_map, h1]; rfl), rfl⟩, ?_⟩
    rw [frF_is, if_pos h2]
    exact List.mem_singleton_self _
theorem free_len {kn : List Nm} {left : List (Ev × Row)} : (free kn left).length ≤ left.length := by
  have := flat_len (frF kn) frF_len (((left.map prrD).zipIdx).map fun p => D.ktup [.int (p.2 : Int), p.1])
  simpa [free] using this
theorem tuB_ok {t : Tb} {Ex : ExV → DEnv → Prop} {d b : D} {left fnd : List (Ev × Row)} {a7 a9 a12 : Slt} {K : KS} (hl : left.length ≤ 20) (h6 : ∀ p ∈ left, p.1.2.length ≤ 6) (hc : ∀ p ∈ left, ∀ c ∈ p.1.2, c.1.all (· < 0x110000) = true) (hn : ∀ x ∈ knw fnd, x.all (· < 0x110000) = true)
    (hK : K.nx (tE d b left fnd a7 (some (false, .lst ((knw fnd).map .str))) (some (false, .lst (free (knw fnd) left))) a12)) : wpSs t Ex tuB (tE d b left fnd a7 (some (false, .lst ((knw fnd).map .str))) a9 a12) K := by
  simp -dsimp [tuB]
  refine compL_map (frF (knw fnd)) _ [] ?_ ?_ ?_
  · intro x hx K hK
    obtain ⟨⟨y, j⟩, hp, rfl⟩ := List.mem_map.mp hx
    have h1 := List.mk_mem_zipIdx_iff_getElem?.mp hp
    rw [List.getElem?_map] at h1
    obtain ⟨p, h2, h3⟩ := Option.map_eq_some_iff.mp h1
    subst h3
    have hm := List.mem_of_getElem? h2
    rw [frF_is] at hK
    simp -dsimp [asgT, asgTs, prrD_def, evD_def, at0, at1]
    have l6 := h6 p hm
    refine compL_map1 (inF (knw fnd)) _ ?_ (by simp; omega) ?_
    · intro x hx K hK
      obtain ⟨c, hcm, rfl⟩ := List.mem_map.mp hx
      simp -dsimp [-isIn_lst, caD_def, at0, inL8 (hc p hm c hcm) hn]
      exact hK
    · rw [inF_map, allSome_bl]
      simp -dsimp
      by_cases hb : frB (knw fnd) p.1.2 = true
      · rw [if_pos hb] at hK
        rw [if_neg]
        · exact hK
        · intro z
          obtain ⟨c, hcm, e⟩ := List.mem_map.mp z
          have := List.all_eq_true.mp hb c hcm
          rw [e] at this; cases this
      · rw [if_neg hb] at hK
        rw [if_pos]
        · exact hK
        · have : ∃ c ∈ p.1.2, ¬ (decide (c.1 ∈ knw fnd) = true) := by
            refine Classical.byContradiction fun z => hb (List.all_eq_true.mpr fun c hcm => ?_)
            exact Classical.byContradiction fun y => z ⟨c, hcm, y⟩
          obtain ⟨c, hcm, e⟩ := this
          exact List.mem_map.mpr ⟨c, hcm, by simpa using e⟩
  · have := free_len (kn := knw fnd) (left := left)
    show ([] ++ free (knw fnd) left).length ≤ _
    rw [List.nil_append]; omega
  · refine ⟨rfl, ?_, hK⟩
    intro x hx
    rw [List.nil_append] at hx
    have hx : x ∈ free (knw fnd) left := hx
    obtain ⟨_, _, _, _, rfl⟩ := free_mem.mp hx
    rfl
theorem tuC_ok {t : Tb} (g2 : t.gd 1080 = g_uof) {Ex : ExV → DEnv → Prop} {d b : D} {left fnd : List (Ev × Row)} {kn : List Nm} {a7 a8 a12 : Slt} {K : KS} (hl : left.length ≤ 20) (hf : fnd.length ≤ 20) (hn : ∃ (j : Nat) (p : Ev × Row), left[j]? = some p ∧ frB kn p.1.2 = true)
    (hK : ∀ (j : Nat) (p : Ev × Row) a7 a9 a12, left[j]? = some p → frB kn p.1.2 = true → K.nx (tE d b (left.eraseIdx j) (fnd ++ [p]) a7 a8 a9 a12)) : wpSs t Ex tuC (tE d b left fnd a7 a8 (some (false, .lst (free kn left))) a12) K := by
  have fl := free_len (kn := kn) (left := left)
  simp -dsimp [tuC, callW, g2, g_uof, C_uof_lst]
  refine ⟨?_, by omega, fun x hx => ?_, fun x hx => ?_⟩
  · obtain ⟨j, p, h1, h2⟩ := hn
    intro z
    have := free_mem.mpr ⟨j, p, h1, h2, rfl⟩
    rw [z] at this; cases this
  · obtain ⟨_, _, _, _, rfl⟩ := free_mem.mp hx; rfl
  · obtain ⟨j, p, h1, h2, rfl⟩ := free_mem.mp hx
    have hjl := (List.getElem?_eq_some_iff.mp h1).1
    refine ⟨rfl, by omega, by omega, j, prrD p, ?_, by rw [List.getElem?_map, h1]; rfl, ?_⟩
    · rw [List.length_map]
      unfold ixN
      rw [if_pos (by omega), if_pos (by omega)]
      simp
    · have e1 : (left.map prrD).eraseIdx j = (left.eraseIdx j).map prrD := eraseIdx_mapS _ _ _
      rw [e1]
      have e2 : (fnd.map fun p => evD p.1) ++ [evD p.1] = (fnd ++ [p]).map fun p => evD p.1 := by rw [List.map_append]; rfl
      have e3 : (fnd.map fun p => rowD p.2) ++ [rowD p.2] = (fnd ++ [p]).map fun p => rowD p.2 := by rw [List.map_append]; rfl
      simp -dsimp [prrD_def, asgT, asgTs]
      rw [e2, e3]
      exact ⟨rfl, by omega, rfl, by omega, hK j p _ _ _ h1 h2⟩
end SD

set_option Elab.async false
set_option linter.all false
set_option maxRecDepth 100000
set_option maxHeartbeats 4000000
namespace SD
open PySem L2
theorem zip_fst {es : List Ev} {dl : List Row} (h : dl.length = es.length) : (es.zip dl).map (·.1) = es := by
  rw [List.map_fst_zip]; omega
theorem zip_ex {es : List Ev} {dl : List Row} (h : dl.length = es.length) {k : Nat} {e : Ev} (he : es[k]? = some e) : ∃ r, (es.zip dl)[k]? = some (e, r) := by
  have hk := (List.getElem?_eq_some_iff.mp he).1
  exact ⟨dl[k]'(by omega), List.getElem?_zip_eq_some.mpr ⟨he, List.getElem?_eq_getElem _⟩⟩
theorem free_ex {es : List Ev} {dl : List Row} (o : FlowOk es) (od : DelOk es dl) {left fnd : List (Ev × Row)} (hp : (fnd ++ left).Perm (es.zip dl)) : ∀ (i : Nat) (p : Ev × Row), (es.zip dl)[i]? = some p → p ∈ left → ∃ (j : Nat) (p : Ev × Row), left[j]? = some p ∧ frB (knw fnd) p.1.2 = true := by
  intro i
  induction i using Nat.strongRecOn with
  | ind i ih =>
    intro p hi hm
    by_cases hb : frB (knw fnd) p.1.2 = true
    · obtain ⟨j, hj⟩ := List.mem_iff_getElem?.mp hm
      exact ⟨j, p, hj, hb⟩
    · have : ∃ c ∈ p.1.2, ¬ (c.1 ∈ knw fnd) := by
        refine Classical.byContradiction fun z => hb (List.all_eq_true.mpr fun c hcm => ?_)
        exact decide_eq_true (Classical.byContradiction fun y => z ⟨c, hcm, y⟩)
      obtain ⟨c, hc, hn⟩ := this
      have hcm := ((o.cs i p.1 (zip_getP hi).1).c c hc).m
      obtain ⟨k, hk⟩ := List.mem_iff_getElem?.mp hcm
      rw [List.getElem?_take] at hk
      split at hk
      · rename_i hki
        rw [nms, List.getElem?_map] at hk
        obtain ⟨e, he, hec⟩ := Option.map_eq_some_iff.mp hk
        obtain ⟨r, hr⟩ := zip_ex od.l he
        have hq := hp.mem_iff.mpr (List.mem_of_getElem? hr)
        rcases List.mem_append.mp hq with h | h
        · exact absurd (List.mem_map.mpr ⟨_, h, hec⟩) hn
        · exact ih k hki _ hr h
      · cases hk
/-- the found stand in an order -/
def FndOk (fnd : List (Ev × Row)) : Prop := ∀ (i : Nat) (e : Ev), (fnd.map (·.1))[i]? = some e → CasOk ((nms (fnd.map (·.1))).take i) e.2
theorem knw_is {fnd : List (Ev × Row)} : nms (fnd.map (·.1)) = knw fnd := by unfold nms knw; rw [List.map_map]; rfl
theorem fnd_snoc {ns : List Nm} {fnd : List (Ev × Row)} {p : Ev × Row} (h : FndOk fnd) (hb : frB (knw fnd) p.1.2 = true) (ho : CasOk ns p.1.2) : FndOk (fnd ++ [p]) := by
  intro i e hi
  rw [knw_is]
  have ek : knw (fnd ++ [p]) = knw fnd ++ [p.1.1] := by unfold knw; rw [List.map_append]; rfl
  have kl : (knw fnd).length = fnd.length := by unfold knw; rw [List.length_map]
  rw [ek]
  rw [List.map_append] at hi
  by_cases c : i < fnd.length
  · rw [List.getElem?_append_left (by rw [List.length_map]; exact c)] at hi
    have := h i e hi
    rw [knw_is] at this
    rw [List.take_append_of_le_length (by omega)]
    exact this
  · rw [List.getElem?_append_right (by rw [List.length_map]; omega), List.length_map] at hi
    have hi0 : i - fnd.length = 0 := by
      have := (List.getElem?_eq_some_iff.mp hi).1
      simpa using this
    rw [hi0] at hi
    cases hi
    have : i = fnd.length := by omega
    subst this
    rw [List.take_append_of_le_length (by omega), List.take_of_length_le (by omega)]
    exact ⟨fun c hc => ⟨of_decide_eq_true (List.all_eq_true.mp hb c hc), (ho.c c hc).lo, (ho.c c hc).le, (ho.c c hc).hi⟩, ho.inc, ho.l6⟩
theorem fnd_flow {es : List Ev} {dl : List Row} (o : FlowOk es) (od : DelOk es dl) {fnd : List (Ev × Row)} (hp : fnd.Perm (es.zip dl)) (h : FndOk fnd) : FlowOk (fnd.map (·.1)) := by
  have p2 : (fnd.map (·.1)).Perm es := by
    have := hp.map (·.1)
    rw [zip_fst od.l] at this
    exact this
  exact ⟨by rw [p2.length_eq]; exact o.l2, by rw [p2.length_eq]; exact o.l20, fun e he => o.nm e (p2.mem_iff.mp he), (p2.map (fun e : Ev => e.1)).symm.nodup o.nd, h⟩
theorem okDs_caN : ∀ {cs : List Ca} {n : Nat}, (∀ c ∈ cs, c.1.all (· < 0x110000) = true) → okDs (cs.map caD) (n + 1) = true
  | [], _, _ => rfl
  | c :: cs, n, h => by
    show ((c.1.all (fun x => decide (x < 1114112)) && (true && (true && true))) && okDs (cs.map caD) (n + 1)) = true
    rw [okDs_caN fun x hx => h x (List.mem_cons_of_mem _ hx), h c List.mem_cons_self]; rfl
theorem okDs_int : ∀ {r : Row} {n : Nat}, okDs (r.map .int) n = true
  | [], _ => rfl
  | i :: r, n => by
    show (true && okDs (r.map .int) n) = true
    rw [okDs_int]; rfl
theorem ok_ev {e : Ev} {n : Nat} (h : e.1.all (· < 0x110000) = true) (hc : ∀ c ∈ e.2, c.1.all (· < 0x110000) = true) : okD (evD e) (n + 3) = true := by
  show ((e.1.all (fun x => decide (x < 1114112))) && (okDs (e.2.map caD) (n + 1) && true)) = true
  rw [h, okDs_caN hc]; rfl
theorem ok_row {r : Row} {n : Nat} : okD (rowD r) (n + 1) = true := by
  show okDs (r.map .int) n = true
  exact okDs_int
theorem okDs_prr : ∀ {l : List (Ev × Row)} {n : Nat}, (∀ p ∈ l, p.1.1.all (· < 0x110000) = true ∧ ∀ c ∈ p.1.2, c.1.all (· < 0x110000) = true) → okDs (l.map prrD) (n + 4) = true
  | [], _, _ => rfl
  | p :: l, n, h => by
    show ((okD (evD p.1) (n + 3) && (okD (rowD p.2) (n + 3) && true)) && okDs (l.map prrD) (n + 4)) = true
    rw [okDs_prr fun x hx => h x (List.mem_cons_of_mem _ hx), ok_ev (h p List.mem_cons_self).1 (h p List.mem_cons_self).2, ok_row]; rfl
/-- from event and place to event and delays -/
def tuF (dl : List Row) : D → D
  | .ktup [.int k, e] => .tup [e, rowD (dl.getD k.toNat [])]
  | d => d
theorem zipIdx_zipR {α : Type} (cs : List α) (r : List Row) (h : r.length = cs.length) : (cs.zipIdx.map fun p => (p.1, r.getD p.2 [])) = cs.zip r := by
  apply List.ext_getElem
  · simp [h]
  · intro i h1 h2
    simp only [List.length_map, List.length_zipIdx] at h1
    simp only [List.getElem_map, List.getElem_zipIdx, List.getElem_zip, Nat.zero_add]
    rw [List.getD_eq_getElem?_getD, List.getElem?_eq_getElem (by omega)]
    rfl
theorem turned_ok {t : Tb} (g2 : t.gd 1080 = g_uof) {Ex : ExV → DEnv → Prop} {a b : D} {Q : D → Prop} {E : ExV → Prop} (h : C_turned [.well, a, b] Q E) : wpSs t Ex i__law_turned [some (false, .well), some (false, a), some (false, b), none, none, none, none, none, none, none, none, none, none] (endK Q) := by
  obtain ⟨es, dl, rfl, rfl, o, od, q⟩ := h
  have l20 := o.l20
  have hl := od.l
  have hs : i__law_turned = [.par [(3, true, .comp [6, 7] (.tp [.nm 6, .nm 7]) .enum [.var 1] [] (.tup [.var 7, .op .idx [.bor 2, .bor 6]])), (4, true, .lst []), (5, true, .lst [])], .while_ (.op .ne [.bor 3, .lst []]) (tuA ++ (tuB ++ tuC)), .ret (.tup [.op .tuple_ [.bor 4], .op .tuple_ [.bor 5]])] := rfl
  rw [hs]
  simp -dsimp [endK, evsD_def, dlD_def, storeP]
  refine compL_map1 (tuF dl) _ ?_ (by simp; omega) ?_
  · intro x hx K hK
    obtain ⟨⟨y, j⟩, hp, rfl⟩ := List.mem_map.mp hx
    have h1 := List.mk_mem_zipIdx_iff_getElem?.mp hp
    rw [List.getElem?_map] at h1
    obtain ⟨e, h2, h3⟩ := Option.map_eq_some_iff.mp h1
    subst h3
    have hj := (List.getElem?_eq_some_iff.mp h2).1
    have hidx : atI (dl.map rowD) (j : Int) = some (rowD (dl.getD j [])) := by
      rw [atN (by rw [List.length_map]; omega), List.getElem?_map, List.getD_eq_getElem?_getD, List.getElem?_eq_getElem (by omega)]; rfl
    simp -dsimp [asgT, asgTs, hidx]
    exact ⟨⟨rfl, rfl⟩, hK⟩
  · have e1 : List.map (tuF dl) (List.map (fun p : D × Nat => D.ktup [.int (p.2 : Int), p.1]) ((es.map evD).zipIdx)) = (es.zip dl).map prrD := by
      rw [← zipIdx_zipR es dl hl, List.zipIdx_map, List.map_map, List.map_map, List.map_map]
      rfl
    rw [e1]
    simp -dsimp [wpS_while]
    refine ⟨fun n en => ∃ (left fnd : List (Ev × Row)) (a7 a8 a9 a12 : Slt), en = tE (.tup (es.map evD)) (.tup (dl.map rowD)) left fnd a7 a8 a9 a12 ∧ n = left.length ∧ (fnd ++ left).Perm (es.zip dl) ∧ FndOk fnd, ⟨_, es.zip dl, [], none, none, none, none, rfl, rfl, .refl _, fun i e h => by cases h⟩, ?_⟩
    rintro n en ⟨left, fnd, a7, a8, a9, a12, rfl, rfl, hp, hf⟩
    have hmem : ∀ p ∈ left, p ∈ es.zip dl := fun p hm => hp.mem_iff.mp (List.mem_append_right _ hm)
    have hmemf : ∀ p ∈ fnd, p ∈ es.zip dl := fun p hm => hp.mem_iff.mp (List.mem_append_left _ hm)
    have hev : ∀ p ∈ es.zip dl, p.1.1.all (· < 0x110000) = true ∧ ∀ c ∈ p.1.2, c.1.all (· < 0x110000) = true := fun p hm => by
      have he := (List.of_mem_zip hm).1
      refine ⟨(name_pl (o.nm _ he)).2, fun c hc => ?_⟩
      obtain ⟨i, _, oc⟩ := o.cas he
      exact nm_lt o.nm _ (List.mem_of_mem_take (oc.c c hc).m)
    have hlen := hp.length_eq
    rw [List.length_append, List.length_zip] at hlen
    have hok : okD (.lst (left.map prrD)) 20 = true := okDs_prr (n := 15) fun p hm => hev p (hmem p hm)
    simp -dsimp [hok]
    refine ⟨rfl, ?_⟩
    cases hlf : left with
    | nil =>
      subst hlf
      rw [List.append_nil] at hp
      have := q fnd hp (fnd_flow o od hp hf)
      simp -dsimp [deq]
      exact this
    | cons p0 l0 =>
      rw [← hlf]
      have hne : deq (.lst (left.map prrD)) (.lst []) = false := by rw [hlf]; rfl
      simp -dsimp [hne]
      rw [wpSs_app2]
      refine tuA_ok (by omega) ?_
      dsimp only
      unfold restW
      rw [wpSs_app2]
      refine tuB_ok (by omega) (fun p hm => o.l6 (List.of_mem_zip (hmem p hm)).1) (fun p hm => (hev p (hmem p hm)).2) (fun x hx => ?_) ?_
      · obtain ⟨p, hm, rfl⟩ := List.mem_map.mp hx
        exact (hev p (hmemf p hm)).1
      · dsimp only
        unfold restW
        have hex : ∃ (j : Nat) (p : Ev × Row), left[j]? = some p ∧ frB (knw fnd) p.1.2 = true := by
          have hm0 : p0 ∈ left := by rw [hlf]; exact List.mem_cons_self
          obtain ⟨i, hi⟩ := List.mem_iff_getElem?.mp (hmem p0 hm0)
          exact free_ex o od hp i p0 hi hm0
        refine tuC_ok g2 (by omega) (by omega) hex fun j p a7 a9 a12 hj hb => ?_
        have hjl := (List.getElem?_eq_some_iff.mp hj).1
        obtain ⟨_, _, oc⟩ := o.cas (List.of_mem_zip (hmem p (List.mem_of_getElem? hj))).1
        refine ⟨(left.eraseIdx j).length, by rw [List.length_eraseIdx_of_lt hjl]; omega, left.eraseIdx j, fnd ++ [p], ⟨_, _, _, _, rfl⟩, rfl, ?_, fnd_snoc hf hb oc⟩
        rw [List.append_assoc]
        exact (List.Perm.append_left fnd (perm_take left j p hj)).trans hp
end SD

set_option Elab.async false
set_option linter.all false
set_option maxRecDepth 100000
set_option maxHeartbeats 4000000
namespace SD
open PySem L2
/-! ## ways, plainly -/
def csOf (es : List Ev) (x : Nm) : List Ca := ((es.find? fun e => decide (e.1 = x)).map (·.2)).getD []
theorem csOf_is : ∀ {es : List Ev} {e : Ev}, (nms es).Nodup → e ∈ es → csOf es e.1 = e.2
  | [], _, _, h => by cases h
  | a :: es, e, nd, h => by
    have nd' : (a.1 :: nms es).Nodup := nd
    rw [List.nodup_cons] at nd'
    unfold csOf
    by_cases c : a.1 = e.1
    · rcases List.mem_cons.mp h with h | h
      · subst h; simp
      · exact absurd (List.mem_map.mpr ⟨e, h, c.symm⟩) nd'.1
    · rw [List.find?_cons_of_neg (by simpa using c)]
      rcases List.mem_cons.mp h with h | h
      · subst h; exact absurd rfl c
      · exact csOf_is nd'.2 h
def dly (prs : List (Ev × Row)) (a b : Nm) : Int := ((prs.find? fun p => decide (p.1.1 = b)).bind fun p => ((p.1.2.zip p.2).find? fun q => decide (q.1.1 = a)).map (·.2)).getD 0
theorem find_key {α : Type} (key : α → Nm) : ∀ {l : List α} {a : α}, (l.map key).Nodup → a ∈ l → l.find? (fun x => decide (key x = key a)) = some a
  | [], _, _, h => by cases h
  | x :: l, a, nd, h => by
    rw [List.map_cons, List.nodup_cons] at nd
    by_cases c : key x = key a
    · rcases List.mem_cons.mp h with h | h
      · subst h; simp
      · exact absurd (List.mem_map.mpr ⟨a, h, c.symm⟩) nd.1
    · rw [List.find?_cons_of_neg (by simpa using c)]
      rcases List.mem_cons.mp h with h | h
      · subst h; exact absurd rfl c
      · exact find_key key nd.2 h
theorem cas_nd {ns : List Nm} {cs : List Ca} (o : CasOk ns cs) : (cs.map (·.1)).Nodup := by
  rw [List.nodup_iff_pairwise_ne, List.pairwise_map]
  exact o.inc.imp fun {a b} h e => by rw [e, sLt_irr] at h; cases h
theorem zip_map1 {α β γ : Type} (f : α → γ) : ∀ (l : List α) (r : List β), (l.zip r).map (fun q => f q.1) = (l.map f).take r.length
  | [], r => by simp
  | a :: l, [] => by simp
  | a :: l, b :: r => by
    show f a :: (l.zip r).map _ = f a :: (l.map f).take r.length
    rw [zip_map1 f l r]
theorem dly_is {es : List Ev} {dl : List Row} (o : FlowOk es) (od : DelOk es dl) {p : Ev × Row} {q : Ca × Int} (hp : p ∈ es.zip dl) (hq : q ∈ p.1.2.zip p.2) : dly (es.zip dl) q.1.1 p.1.1 = q.2 := by
  have n1 : ((es.zip dl).map fun p => p.1.1).Nodup := by
    rw [zip_map1 (fun e : Ev => e.1)]
    exact o.nd.sublist (List.take_sublist _ _)
  obtain ⟨_, _, oc⟩ := o.cas (List.of_mem_zip hp).1
  have n2 : ((p.1.2.zip p.2).map fun q => q.1.1).Nodup := by
    rw [zip_map1 (fun e : Ca => e.1)]
    exact (cas_nd oc).sublist (List.take_sublist _ _)
  unfold dly
  rw [find_key (fun p : Ev × Row => p.1.1) n1 hp]
  show (Option.map _ (List.find? (fun q' : Ca × Int => decide (q'.1.1 = q.1.1)) (p.1.2.zip p.2))).getD 0 = q.2
  rw [find_key (fun q : Ca × Int => q.1.1) n2 hq]
  rfl
def wsum (g : Nm → Nm → Int) : List Nm → Int
  | a :: b :: t => g a b + wsum g (b :: t)
  | _ => 0
def PathK (es : List Ev) : List Nm → Prop
  | a :: b :: t => (∃ e ∈ es, e.1 = b ∧ ∃ c ∈ e.2, c.1 = a) ∧ PathK es (b :: t)
  | _ => True
structure WaysOk (es : List Ev) (dl : List Row) (m : Int) (ws : List (List Nm)) : Prop where
  p : ∀ w ∈ ws, w ≠ [] ∧ PathK es w ∧ w.length ≤ 8
  le : ∀ w ∈ ws, wsum (dly (es.zip dl)) w ≤ m
  ex : ∃ w ∈ ws, wsum (dly (es.zip dl)) w = m
  len : ws.length ≤ 300000
structure WInv (es : List Ev) (dl : List Row) (f : Nm → Int) (m : Int) (n : Nat) (edge found : List (List Nm)) : Prop where
  e : ∀ w ∈ edge, ∃ h t k, w = h :: t ∧ k < n ∧ (nms es)[k]? = some h ∧ PathK es w ∧ w.length + n ≤ 8 ∧ f h + wsum (dly (es.zip dl)) w ≤ m
  fo : ∀ w ∈ found, w ≠ [] ∧ PathK es w ∧ w.length ≤ 8 ∧ wsum (dly (es.zip dl)) w ≤ m
  ex : (∃ w ∈ edge, ∃ h t, w = h :: t ∧ f h + wsum (dly (es.zip dl)) w = m) ∨ ∃ w ∈ found, wsum (dly (es.zip dl)) w = m
  len : (found.length + edge.length) * 6 ^ n ≤ 6 ^ es.length
def nxW (es : List Ev) (w : List Nm) : List (List Nm) := (csOf es (w.headD [])).map fun c => c.1 :: w
def nfW (es : List Ev) (w : List Nm) : List (List Nm) := if csOf es (w.headD []) = [] then [w] else []
theorem both_len {es : List Ev} {w : List Nm} (h6 : (csOf es (w.headD [])).length ≤ 6) : (nfW es w).length + (nxW es w).length ≤ 6 := by
  unfold nfW nxW
  rw [List.length_map]
  split
  · rename_i h; rw [h]; simp
  · rw [List.length_nil]; omega
theorem flat_both (es : List Ev) : ∀ (ws : List (List Nm)), (∀ w ∈ ws, (csOf es (w.headD [])).length ≤ 6) → (ws.flatMap (nfW es)).length + (ws.flatMap (nxW es)).length ≤ 6 * ws.length
  | [], _ => by simp
  | w :: ws, h => by
    rw [List.flatMap_cons, List.flatMap_cons, List.length_append, List.length_append, List.length_cons]
    have := flat_both es ws fun x hx => h x (List.mem_cons_of_mem _ hx)
    have := both_len (h w List.mem_cons_self)
    omega
theorem get_ev {es : List Ev} {k : Nat} {h : Nm} (hk : (nms es)[k]? = some h) : ∃ e, es[k]? = some e ∧ e.1 = h := by
  rw [nms, List.getElem?_map] at hk
  obtain ⟨e, h1, h2⟩ := Option.map_eq_some_iff.mp hk
  exact ⟨e, h1, h2⟩
theorem csOf_get {es : List Ev} (o : FlowOk es) {k : Nat} {h : Nm} (hk : (nms es)[k]? = some h) : CasOk ((nms es).take k) (csOf es h) := by
  obtain ⟨e, h1, rfl⟩ := get_ev hk
  rw [csOf_is o.nd (List.mem_of_getElem? h1)]
  exact o.cs k e h1
theorem day_nn {es : List Ev} {dl : List Row} {f : Nm → Int} (od : DelOk es dl) (hd : IsDay (es.zip dl) f) {e : Ev} (he : e ∈ es) : 0 ≤ f e.1 := by
  obtain ⟨i, hi⟩ := List.mem_iff_getElem?.mp he
  obtain ⟨r, hr⟩ := zip_ex od.l hi
  exact (hd _ (List.mem_of_getElem? hr)).2 0 List.mem_cons_self
/-- one round -/
theorem winv_step {es : List Ev} {dl : List Row} {f : Nm → Int} {m : Int} {n : Nat} {edge found : List (List Nm)} (o : FlowOk es) (od : DelOk es dl) (hd : IsDay (es.zip dl) f) (v : WInv es dl f m (n + 1) edge found) : WInv es dl f m n (edge.flatMap (nxW es)) (found ++ edge.flatMap (nfW es)) := by
  -- what a way of the edge is
  have key : ∀ (h : Nm) (t : List Nm) (k : Nat), (nms es)[k]? = some h → ∃ p, p ∈ es.zip dl ∧ p.1.1 = h ∧ csOf es h = p.1.2 ∧ RowOk p.1.2 p.2 ∧ (∀ c ∈ p.1.2, ∃ j, j < k ∧ (nms es)[j]? = some c.1) := fun h t k hk => by
    obtain ⟨e, he, rfl⟩ := get_ev hk
    obtain ⟨r, hr⟩ := zip_ex od.l he
    have hm := List.mem_of_getElem? hr
    refine ⟨(e, r), hm, rfl, csOf_is o.nd (List.mem_of_getElem? he), od.r _ hm, fun c hc => ?_⟩
    have := ((o.cs k e he).c c hc).m
    obtain ⟨j, hj⟩ := List.mem_iff_getElem?.mp this
    rw [List.getElem?_take] at hj
    split at hj
    · rename_i hjk; exact ⟨j, hjk, hj⟩
    · cases hj
  have pair : ∀ (p : Ev × Row), p ∈ es.zip dl → ∀ c ∈ p.1.2, ∃ x : Int, (c, x) ∈ p.1.2.zip p.2 ∧ 0 ≤ x ∧ dly (es.zip dl) c.1 p.1.1 = x ∧ f c.1 + x ≤ f p.1.1 := fun p hp c hc => by
    have ro := od.r p hp
    obtain ⟨j, hj⟩ := List.mem_iff_getElem?.mp hc
    have hjl := (List.getElem?_eq_some_iff.mp hj).1
    have hm : (c, p.2[j]'(by have := ro.l; omega)) ∈ p.1.2.zip p.2 := List.mem_of_getElem? (List.getElem?_zip_eq_some.mpr ⟨hj, List.getElem?_eq_getElem _⟩)
    obtain ⟨_, _, oc⟩ := o.cas (List.of_mem_zip hp).1
    have h0 := (oc.c c hc).lo
    have hb : c.2.1 ≤ p.2[j]'(by have := ro.l; omega) := (ro.b _ hm).1
    refine ⟨_, hm, by omega, dly_is o od hp hm, (hd p hp).2 _ (List.mem_cons_of_mem _ ?_)⟩
    exact List.mem_map.mpr ⟨_, hm, rfl⟩
  refine ⟨fun w hw => ?_, fun w hw => ?_, ?_, ?_⟩
  · obtain ⟨w0, hw0, hw1⟩ := List.mem_flatMap.mp hw
    obtain ⟨h, t, k, rfl, hk, hnk, hpa, hl, hle⟩ := v.e w0 hw0
    obtain ⟨p, hp, rfl, hcs, ro, hin⟩ := key h t k hnk
    obtain ⟨c, hc, rfl⟩ := List.mem_map.mp hw1
    have hc2 : c ∈ p.1.2 := by rw [← hcs]; exact hc
    obtain ⟨j, hjk, hj⟩ := hin c hc2
    obtain ⟨x, hx, x0, hdx, hfx⟩ := pair p hp c hc2
    refine ⟨c.1, p.1.1 :: t, j, rfl, by omega, hj, ⟨⟨p.1, (List.of_mem_zip hp).1, rfl, c, hc2, rfl⟩, hpa⟩, by rw [List.length_cons]; omega, ?_⟩
    show f c.1 + (dly (es.zip dl) c.1 p.1.1 + wsum _ (p.1.1 :: t)) ≤ m
    rw [hdx]
    omega
  · rcases List.mem_append.mp hw with hw | hw
    · exact v.fo w hw
    · obtain ⟨w0, hw0, hw1⟩ := List.mem_flatMap.mp hw
      obtain ⟨h, t, k, rfl, hk, hnk, hpa, hl, hle⟩ := v.e w0 hw0
      obtain ⟨p, hp, rfl, hcs, ro, hin⟩ := key h t k hnk
      unfold nfW at hw1
      split at hw1
      · rw [List.mem_singleton.mp hw1]
        have := day_nn od hd (List.of_mem_zip hp).1
        exact ⟨by simp, hpa, by omega, by omega⟩
      · cases hw1
  · rcases v.ex with ⟨w, hw, h, t, rfl, he⟩ | ⟨w, hw, he⟩
    · obtain ⟨h', t', k, e1, hk, hnk, hpa, hl, hle⟩ := v.e _ hw
      cases e1
      obtain ⟨p, hp, rfl, hcs, ro, hin⟩ := key h t k hnk
      have hdp := (hd p hp).1
      by_cases hc0 : p.1.2 = []
      · right
        refine ⟨p.1.1 :: t, List.mem_append_right _ (List.mem_flatMap.mpr ⟨_, hw, ?_⟩), ?_⟩
        · unfold nfW
          rw [if_pos (by show csOf es p.1.1 = []; rw [hcs]; exact hc0)]
          exact List.mem_singleton_self _
        · have : stepL f p = [] := by unfold stepL; rw [hc0]; rfl
          rw [this] at hdp
          have : f p.1.1 = 0 := by simpa using hdp
          omega
      · left
        have att : ∃ c ∈ p.1.2, f c.1 + dly (es.zip dl) c.1 p.1.1 = f p.1.1 := by
          rcases List.mem_cons.mp hdp with h0 | h0
          · obtain ⟨c, hc⟩ := List.exists_mem_of_ne_nil _ hc0
            obtain ⟨x, hx, x0, hdx, hfx⟩ := pair p hp c hc
            obtain ⟨j, hjk, hj⟩ := hin c hc
            obtain ⟨e, hee, hec⟩ := get_ev hj
            have := day_nn od hd (List.mem_of_getElem? hee)
            rw [hec] at this
            exact ⟨c, hc, by rw [hdx]; omega⟩
          · obtain ⟨q, hq, hqe⟩ := List.mem_map.mp h0
            exact ⟨q.1, (List.of_mem_zip hq).1, by rw [dly_is o od hp hq]; exact hqe⟩
        obtain ⟨c, hc, hce⟩ := att
        refine ⟨c.1 :: p.1.1 :: t, List.mem_flatMap.mpr ⟨_, hw, List.mem_map.mpr ⟨c, by show c ∈ csOf es p.1.1; rw [hcs]; exact hc, rfl⟩⟩, c.1, _, rfl, ?_⟩
        show f c.1 + (dly (es.zip dl) c.1 p.1.1 + wsum _ (p.1.1 :: t)) = m
        omega
    · exact .inr ⟨w, List.mem_append_left _ hw, he⟩
  · have h6 : ∀ w ∈ edge, (csOf es (w.headD [])).length ≤ 6 := fun w hw => by
      obtain ⟨h, t, k, rfl, hk, hnk, _⟩ := v.e w hw
      exact (csOf_get o hnk).l6
    have h1 := flat_both es edge h6
    have h2 := v.len
    rw [Nat.pow_succ] at h2
    rw [List.length_append]
    have h3 : (found.length + (edge.flatMap (nfW es)).length + (edge.flatMap (nxW es)).length) ≤ 6 * (found.length + edge.length) := by omega
    refine Nat.le_trans (Nat.mul_le_mul_right _ h3) ?_
    have : 6 * (found.length + edge.length) * 6 ^ n = (found.length + edge.length) * (6 ^ n * 6) := by
      rw [Nat.mul_comm 6, Nat.mul_assoc, Nat.mul_comm 6]
    omega
theorem winv_init {es : List Ev} {dl : List Row} {f : Nm → Int} {k : Nat} {x : Nm} (h8 : es.length < 8) (hk : (nms es)[k]? = some x) : WInv es dl f (f x) es.length [[x]] [] := by
  refine ⟨fun w hw => ?_, fun w hw => (nomatch hw), .inl ⟨[x], by simp, x, [], rfl, by simp [wsum]⟩, by simp⟩
  rw [List.mem_singleton.mp hw]
  have := (List.getElem?_eq_some_iff.mp hk).1
  rw [nms, List.length_map] at this
  exact ⟨x, [], k, rfl, this, hk, trivial, by simp; omega, by simp [wsum]⟩
theorem winv_end {es : List Ev} {dl : List Row} {f : Nm → Int} {m : Int} {n : Nat} {found : List (List Nm)} (h8 : es.length < 8) (v : WInv es dl f m n [] found) : WaysOk es dl m found := by
  refine ⟨fun w hw => ⟨(v.fo w hw).1, (v.fo w hw).2.1, (v.fo w hw).2.2.1⟩, fun w hw => (v.fo w hw).2.2.2, ?_, ?_⟩
  · rcases v.ex with ⟨w, hw, _⟩ | h
    · cases hw
    · exact h
  · have h1 := v.len
    have h2 : 0 < 6 ^ n := Nat.pow_pos (by decide)
    have h3 : 6 ^ es.length ≤ 6 ^ 7 := Nat.pow_le_pow_right (by decide) (by omega)
    have h4 : found.length + ([] : List (List Nm)).length ≤ (found.length + ([] : List (List Nm)).length) * 6 ^ n := Nat.le_mul_of_pos_right _ h2
    have h5 : 6 ^ 7 = 279936 := by decide
    simp only [List.length_nil, Nat.add_zero] at h1 h4
    omega
end SD

set_option Elab.async false
set_option linter.all false
set_option maxRecDepth 100000
set_option maxHeartbeats 4000000
namespace SD
open PySem L2
/-! _law_ways -/
def i__law_ways : List IS := [.par [(2, false, .op .dict_ [.bor 0]), (3, true, .lst []), (4, false, .lst [.tup [.var 1]])], .while_ (.op .ne [.bor 4, .lst []]) [.own 5 (.lst []), .for_ (.nm 6) .it [.var 4] [.ite (.op .eq [.op .idx [.bor 2, .op .idx [.bor 6, .lit (.int 0)]], .tup []]) [.expr (.mut .append 3 [.var 6])] [], .for_ (.tp [.nm 7, .nm 8, .nm 9]) .it [.op .idx [.bor 2, .op .idx [.bor 6, .lit (.int 0)]]] [.expr (.mut .append 5 [.op .add [.tup [.var 7], .bor 6]])]], .set 4 (.var 5)], .ret (.var 3)]
def wyD (w : List Nm) : D := .tup (w.map .str)
theorem wyD_def {w : List Nm} : wyD w = .tup (w.map .str) := rfl
def C_ways : Contract
  | [a, .str x], Q, _ => ∃ (es : List Ev) (dl : List Row) (f : Nm → Int), a = evsD es ∧ FlowOk es ∧ DelOk es dl ∧ IsDay (es.zip dl) f ∧ es.length < 8 ∧ x ∈ nms es ∧ ∀ ws, WaysOk es dl (f x) ws → Q (.lst (ws.map wyD))
  | _, _, _ => False
def g_ways : GD := { name := "_law_ways", ps := ["events", "last"], lvl := 1, C := C_ways }
def tabE (es : List Ev) : List (D × D) := es.map fun e => (.str e.1, .tup (e.2.map caD))
theorem pairsL_ev : ∀ es : List Ev, pairsL (es.map evD) = some (tabE es)
  | [] => rfl
  | h :: hs => by
    show (pairsL (hs.map evD)).map _ = _
    rw [pairsL_ev hs]; rfl
theorem putAll_ev : ∀ {es acc : List Ev}, (nms (acc ++ es)).Nodup → putAll (tabE acc) (tabE es) = tabE (acc ++ es)
  | [], acc, _ => by rw [List.append_nil]; rfl
  | e :: es, acc, h => by
    have h1 : e.1 ∉ nms acc := by
      rw [nms, List.map_append, List.nodup_append] at h
      exact fun z => h.2.2 _ z _ (by simp) rfl
    show putAll (dPut (tabE acc) (.str e.1) (.tup (e.2.map caD))) (tabE es) = _
    rw [dPut_new fun p hp => ?_]
    · have q := putAll_ev (es := es) (acc := acc ++ [e]) (by rw [List.append_assoc]; exact h)
      rw [List.append_assoc] at q
      have e1 : tabE acc ++ [(D.str e.1, D.tup (e.2.map caD))] = tabE (acc ++ [e]) := by unfold tabE; rw [List.map_append]; rfl
      rw [e1]
      exact q
    · obtain ⟨q, hq, rfl⟩ := List.mem_map.mp hp
      rw [deq_str]
      exact decide_eq_false fun z => h1 (z ▸ List.mem_map_of_mem hq)
theorem tabE_keys {es : List Ev} : ∀ (a b : D), (a, b) ∈ tabE es → (toK a).isSome = true := fun a b hab => by
  obtain ⟨h, _, e⟩ := List.mem_map.mp hab
  cases e; rfl
theorem dGet_tabE : ∀ {es : List Ev} {x : Nm}, x ∈ nms es → dGet (tabE es) (.str x) = some (.tup ((csOf es x).map caD))
  | [], _, h => by cases h
  | e :: es, x, h => by
    show (if deq (.str e.1) (.str x) then some (D.tup (e.2.map caD)) else dGet (tabE es) (.str x)) = _
    rw [deq_str]
    unfold csOf
    by_cases c : e.1 = x
    · subst c; simp
    · rw [decide_eq_false c, List.find?_cons_of_neg (by simpa using c)]
      rcases List.mem_cons.mp h with z | z
      · exact absurd z.symm c
      · exact dGet_tabE z
theorem look_tabE {es : List Ev} {x : Nm} (h : x ∈ nms es) : dLook (.dct false (tabE es)) (.str x) = some (some (.tup ((csOf es x).map caD))) := by
  show (if (toK (.str x)).isSome = true then some (dGet (tabE es) (.str x)) else none) = _
  have e0 : (toK (.str x)).isSome = true := rfl
  rw [if_pos e0, dGet_tabE h]
def wyB : List IS := [.ite (.op .eq [.op .idx [.bor 2, .op .idx [.bor 6, .lit (.int 0)]], .tup []]) [.expr (.mut .append 3 [.var 6])] [], .for_ (.tp [.nm 7, .nm 8, .nm 9]) .it [.op .idx [.bor 2, .op .idx [.bor 6, .lit (.int 0)]]] [.expr (.mut .append 5 [.op .add [.tup [.var 7], .bor 6]])]]
abbrev wE (es : List Ev) (x : Nm) (found : List (List Nm)) (a4 a5 a6 a7 a8 a9 : Slt) : DEnv := [some (false, .tup (es.map evD)), some (false, .str x), some (false, .dct false (tabE es)), some (true, .lst (found.map wyD)), a4, a5, a6, a7, a8, a9]
theorem wyB_ok {t : Tb} {Ex : ExV → DEnv → Prop} {es : List Ev} {x : Nm} {found ahead : List (List Nm)} {a4 a7 a8 a9 : Slt} {h : Nm} {tl : List Nm} {K : KS} (o : FlowOk es) (hh : h ∈ nms es) (l6 : (csOf es h).length ≤ 6) (htl : tl.length ≤ 100) (hl : found.length ≤ 16000000) (hl2 : ahead.length ≤ 16000000)
    (hK : ∀ a6 a7 a8 a9, K.nx (wE es x (found ++ nfW es (h :: tl)) a4 (some (true, .lst ((ahead ++ nxW es (h :: tl)).map wyD))) a6 a7 a8 a9)) :
    wpSs t Ex wyB (wE es x found a4 (some (true, .lst (ahead.map wyD))) (some (false, wyD (h :: tl))) a7 a8 a9) K := by
  have hcn : ∀ c ∈ csOf es h, c.1.all (· < 0x110000) = true := fun c hc => by
    obtain ⟨e, he, rfl⟩ := List.mem_map.mp hh
    rw [csOf_is o.nd he] at hc
    obtain ⟨i, _, oc⟩ := o.cas he
    exact nm_lt o.nm _ (List.mem_of_mem_take (oc.c c hc).m)
  have hok : okD (.tup ((csOf es h).map caD)) 20 = true := okDs_caN (n := 18) hcn
  have lp : ∀ (fd : List (List Nm)), fd = found ++ nfW es (h :: tl) → wpSs t Ex [.for_ (.tp [.nm 7, .nm 8, .nm 9]) .it [.op .idx [.bor 2, .op .idx [.bor 6, .lit (.int 0)]]] [.expr (.mut .append 5 [.op .add [.tup [.var 7], .bor 6]])]] (wE es x fd a4 (some (true, .lst (ahead.map wyD))) (some (false, wyD (h :: tl))) a7 a8 a9) K := fun fd hfd => by
    simp -dsimp [wyD_def, at0, opW_idx_dct, look_tabE hh]
    refine forL_inv (fun i en => ∃ a7 a8 a9, en = wE es x fd a4 (some (true, .lst ((ahead ++ ((csOf es h).take i).map fun c => c.1 :: h :: tl).map wyD))) (some (false, wyD (h :: tl))) a7 a8 a9) _ _ 0 ⟨a7, a8, a9, by rw [List.take_zero, List.map_nil, List.append_nil]; rfl⟩ ?_ ?_
    · rintro i y en K2 hi ⟨b7, b8, b9, rfl⟩ hK2
      rw [Nat.zero_add] at hK2 ⊢
      rw [List.getElem?_map] at hi
      obtain ⟨c, hc, rfl⟩ := Option.map_eq_some_iff.mp hi
      have hil := (List.getElem?_eq_some_iff.mp hc).1
      have e1 : ((ahead ++ ((csOf es h).take i).map fun c => c.1 :: h :: tl).map wyD) ++ [wyD (c.1 :: h :: tl)] = (ahead ++ ((csOf es h).take (i + 1)).map fun c => c.1 :: h :: tl).map wyD := by
        rw [List.take_succ, hc, List.map_append, List.map_append, List.map_append, List.map_append, List.append_assoc]
        rfl
      simp -dsimp [-List.map_append, -List.map_take, asgT, asgTs, caD_def, wyD_def]
      refine ⟨by omega, by omega, ?_⟩
      have := hK2 _ ⟨some (false, .str c.1), some (false, .int c.2.1), some (false, .int c.2.2), rfl⟩
      rw [← e1] at this
      exact this
    · rintro en ⟨b7, b8, b9, rfl⟩
      have e2 : (csOf es h).take (0 + ((csOf es h).map caD).length) = csOf es h := by rw [List.take_of_length_le]; simp
      rw [e2]
      have := hK (some (false, wyD (h :: tl))) b7 b8 b9
      rw [← hfd] at this
      exact this
  have hs : wyB = [.ite (.op .eq [.op .idx [.bor 2, .op .idx [.bor 6, .lit (.int 0)]], .tup []]) [.expr (.mut .append 3 [.var 6])] []] ++ [.for_ (.tp [.nm 7, .nm 8, .nm 9]) .it [.op .idx [.bor 2, .op .idx [.bor 6, .lit (.int 0)]]] [.expr (.mut .append 5 [.op .add [.tup [.var 7], .bor 6]])]] := rfl
  rw [hs, wpSs_app2]
  simp -dsimp [wyD_def, at0, opW_idx_dct, look_tabE hh, hok]
  refine ⟨rfl, ?_⟩
  by_cases c0 : csOf es h = []
  · have e3 : deq (.tup ((csOf es h).map caD)) (.tup []) = true := by rw [c0]; rfl
    have e4 : found ++ nfW es (h :: tl) = found ++ [h :: tl] := by
      rw [show nfW es (h :: tl) = [h :: tl] from if_pos c0]
    rw [e3, if_pos rfl]
    refine ⟨by omega, ?_⟩
    have := lp _ e4.symm
    have e5 : (found ++ [h :: tl]).map wyD = found.map wyD ++ [D.tup (D.str h :: tl.map D.str)] := by rw [List.map_append]; rfl
    rw [wE, e5] at this
    exact this
  · have e3 : deq (.tup ((csOf es h).map caD)) (.tup []) = false := deq_ne (by simpa using c0)
    have e4 : found ++ nfW es (h :: tl) = found := by
      rw [show nfW es (h :: tl) = [] from if_neg c0, List.append_nil]
    rw [e3, if_neg (by simp)]
    exact lp _ e4.symm
theorem edge_lt {es : List Ev} {dl : List Row} {f : Nm → Int} {m : Int} {n : Nat} {edge found : List (List Nm)} (h8 : es.length < 8) (v : WInv es dl f m n edge found) : found.length + edge.length ≤ 279936 := by
  have h1 := v.len
  have h2 : 0 < 6 ^ n := Nat.pow_pos (by decide)
  have h3 : 6 ^ es.length ≤ 6 ^ 7 := Nat.pow_le_pow_right (by decide) (by omega)
  have h4 : found.length + edge.length ≤ (found.length + edge.length) * 6 ^ n := Nat.le_mul_of_pos_right _ h2
  have h5 : 6 ^ 7 = 279936 := by decide
  omega
theorem okDs_wy : ∀ {ws : List (List Nm)} {n : Nat}, (∀ w ∈ ws, ∀ x ∈ w, x.all (· < 0x110000) = true) → okDs (ws.map wyD) (n + 2) = true
  | [], _, _ => rfl
  | w :: ws, n, h => by
    show (okDs (w.map .str) (n + 1) && okDs (ws.map wyD) (n + 2)) = true
    rw [okDs_wy fun x hx => h x (List.mem_cons_of_mem _ hx), okDs_str fun x hx => h w List.mem_cons_self x hx]; rfl
theorem path_nm {es : List Ev} (o : FlowOk es) : ∀ {w : List Nm} {h : Nm} {t : List Nm}, w = h :: t → h ∈ nms es → PathK es w → ∀ x ∈ w, x ∈ nms es
  | [], _, _, e, _, _ => by cases e
  | [a], h, t, e, hh, _ => by
    cases e
    intro x hx
    rw [List.mem_singleton.mp hx]; exact hh
  | a :: b :: t, h, t', e, hh, hp => by
    cases e
    intro x hx
    obtain ⟨⟨e, he, e1, _⟩, hp2⟩ := hp
    rcases List.mem_cons.mp hx with rfl | hx
    · exact hh
    · exact path_nm o (w := b :: t) rfl (e1 ▸ List.mem_map_of_mem he) hp2 x hx
theorem ways_ok {t : Tb} {Ex : ExV → DEnv → Prop} {a b : D} {Q : D → Prop} {E : ExV → Prop} (hc : C_ways [a, b] Q E) : wpSs t Ex i__law_ways [some (false, a), some (false, b), none, none, none, none, none, none, none, none] (endK Q) := by
  cases b with
  | str x =>
    obtain ⟨es, dl, f, rfl, o, od, hd, h8, hx, q⟩ := hc
    have hs : i__law_ways = [.par [(2, false, .op .dict_ [.bor 0]), (3, true, .lst []), (4, false, .lst [.tup [.var 1]])], .while_ (.op .ne [.bor 4, .lst []]) ([.own 5 (.lst []), .for_ (.nm 6) .it [.var 4] wyB, .set 4 (.var 5)]), .ret (.var 3)] := rfl
    rw [hs]
    have hput : putAll [] (tabE es) = tabE es := putAll_ev (acc := []) (by simpa using o.nd)
    simp -dsimp [endK, evsD_def, pairsL_ev, hput, Sz, storeP, wpS_while]
    refine ⟨fun a b hab => tabE_keys a b hab, by omega, ?_⟩
    obtain ⟨k, hk⟩ := List.mem_iff_getElem?.mp hx
    refine ⟨fun n en => ∃ (edge found : List (List Nm)) (a5 a6 a7 a8 a9 : Slt), en = wE es x found (some (false, .lst (edge.map wyD))) a5 a6 a7 a8 a9 ∧ WInv es dl f (f x) n edge found, ⟨es.length, [[x]], [], none, none, none, none, none, rfl, winv_init h8 hk⟩, ?_⟩
    rintro n en ⟨edge, found, a5, a6, a7, a8, a9, rfl, v⟩
    have hlt := edge_lt h8 v
    have hok : okD (.lst (edge.map wyD)) 20 = true := okDs_wy (n := 17) fun w hw y hy => by
      obtain ⟨h, tl, k, rfl, _, hnk, hp, _⟩ := v.e w hw
      exact nm_lt o.nm y (path_nm o rfl (List.mem_of_getElem? hnk) hp y hy)
    simp -dsimp [hok]
    refine ⟨rfl, ?_⟩
    cases hed : edge with
    | nil =>
      subst hed
      have := q found (winv_end h8 v)
      simp -dsimp [deq]
      exact this
    | cons w0 l0 =>
      rw [← hed]
      have hne : deq (.lst (edge.map wyD)) (.lst []) = false := by rw [hed]; rfl
      obtain ⟨n, rfl⟩ : ∃ j, n = j + 1 := by
        obtain ⟨_, _, k, _, hk, _⟩ := v.e w0 (by rw [hed]; exact List.mem_cons_self)
        exact ⟨n - 1, by omega⟩
      simp -dsimp [hne]
      have h6 : ∀ w ∈ edge, (csOf es (w.headD [])).length ≤ 6 := fun w hw => by
        obtain ⟨h, t, k, rfl, hk, hnk, _⟩ := v.e w hw
        exact (csOf_get o hnk).l6
      refine forL_inv (fun i en => ∃ a6 a7 a8 a9, en = wE es x (found ++ (edge.take i).flatMap (nfW es)) (some (false, .lst (edge.map wyD))) (some (true, .lst (((edge.take i).flatMap (nxW es)).map wyD))) a6 a7 a8 a9) _ _ 0 ⟨a6, a7, a8, a9, by simp⟩ ?_ ?_
      · rintro i y en K2 hi ⟨b6, b7, b8, b9, rfl⟩ hK2
        rw [Nat.zero_add] at hK2 ⊢
        rw [List.getElem?_map] at hi
        obtain ⟨w, hw, rfl⟩ := Option.map_eq_some_iff.mp hi
        have hm := List.mem_of_getElem? hw
        obtain ⟨h, tl, k, rfl, hk, hnk, _, hl, _⟩ := v.e w hm
        have fb := flat_both es (edge.take i) fun w hw => h6 w (List.mem_of_mem_take hw)
        rw [List.length_take] at fb
        rw [List.length_cons] at hl
        show wpSs t Ex wyB (wE es x (found ++ (edge.take i).flatMap (nfW es)) (some (false, .lst (edge.map wyD))) (some (true, .lst (((edge.take i).flatMap (nxW es)).map wyD))) (some (false, wyD (h :: tl))) b7 b8 b9) _
        refine wyB_ok o (List.mem_of_getElem? hnk) (csOf_get o hnk).l6 (by omega) (by rw [List.length_append]; omega) (by omega) fun c6 c7 c8 c9 => ?_
        have := hK2 _ ⟨c6, c7, c8, c9, rfl⟩
        rw [List.take_succ, hw] at this
        simpa [List.flatMap_append] using this
      · rintro en ⟨b6, b7, b8, b9, rfl⟩
        have e1 : edge.take (0 + (edge.map wyD).length) = edge := by rw [List.take_of_length_le]; simp
        rw [e1]
        simp -dsimp
        exact ⟨n, by omega, _, _, ⟨by rw [← List.map_append], rfl⟩, winv_step o od hd v⟩
  | _ => exact hc.elim
end SD

set_option Elab.async false
set_option linter.all false
set_option maxRecDepth 100000
set_option maxHeartbeats 4000000
namespace SD
open PySem L2
/-! ## dicts from two texts to a number -/
abbrev K2 := Nm × Nm
def kD2 (k : K2) : D := .tup [.str k.1, .str k.2]
theorem kD2_def {k : K2} : kD2 k = .tup [.str k.1, .str k.2] := rfl
def stT (m : List (K2 × Int)) : List (D × D) := m.map fun p => (kD2 p.1, .int p.2)
def putK (m : List (K2 × Int)) (k : K2) (v : Int) : List (K2 × Int) :=
  if (m.any fun p => decide (p.1 = k)) = true then m.map fun p => if p.1 = k then (p.1, v) else p else m ++ [(k, v)]
def getK (m : List (K2 × Int)) (k : K2) : Option Int := (m.find? fun p => decide (p.1 = k)).map (·.2)
theorem deq_k2 (a b : K2) : deq (kD2 a) (kD2 b) = decide (a = b) := by
  show (deq (.str a.1) (.str b.1) && (deq (.str a.2) (.str b.2) && true)) = _
  rw [deq_str, deq_str, Bool.and_true]
  refine Bool.eq_iff_iff.mpr ?_
  simp [Prod.ext_iff]
theorem dPut_st {m : List (K2 × Int)} {k : K2} {v : Int} : dPut (stT m) (kD2 k) (.int v) = stT (putK m k v) := by
  have e : ((stT m).any fun p => deq p.1 (kD2 k)) = m.any fun p => decide (p.1 = k) := by
    unfold stT
    rw [List.any_map]
    congr 1
    funext p
    exact deq_k2 p.1 k
  unfold dPut putK
  rw [e]
  split
  · unfold stT
    rw [List.map_map, List.map_map]
    refine List.map_congr_left fun p _ => ?_
    show (if deq (kD2 p.1) (kD2 k) = true then (kD2 p.1, D.int v) else (kD2 p.1, D.int p.2)) = _
    rw [deq_k2]
    by_cases c : p.1 = k
    · simp [c]
    · simp [c]
  · unfold stT
    rw [List.map_append]; rfl
theorem getK_map {k k' : K2} {v : Int} : ∀ m : List (K2 × Int), getK (m.map fun p => if p.1 = k then (p.1, v) else p) k' = if k' = k then (if (m.any fun p => decide (p.1 = k)) = true then some v else none) else getK m k'
  | [] => by
    show none = _
    split <;> rfl
  | p :: m => by
    have ih := getK_map (k := k) (k' := k') (v := v) m
    have hk : (if p.1 = k then (p.1, v) else p).1 = p.1 := by split <;> rfl
    by_cases c : p.1 = k'
    · have e1 : getK ((p :: m).map fun p => if p.1 = k then (p.1, v) else p) k' = some (if p.1 = k then (p.1, v) else p).2 := by
        unfold getK
        rw [List.map_cons, List.find?_cons_of_pos (by simpa [hk] using c)]
        rfl
      have e2 : getK (p :: m) k' = some p.2 := by
        unfold getK
        rw [List.find?_cons_of_pos (by simpa using c)]
        rfl
      rw [e1, e2]
      by_cases d : k' = k
      · rw [if_pos d, if_pos (c.trans d), List.any_cons, decide_eq_true (c.trans d)]
        rfl
      · rw [if_neg d, if_neg (fun z => d (c.symm.trans z))]
    · have e1 : getK ((p :: m).map fun p => if p.1 = k then (p.1, v) else p) k' = getK (m.map fun p => if p.1 = k then (p.1, v) else p) k' := by
        unfold getK
        rw [List.map_cons, List.find?_cons_of_neg (by simpa [hk] using c)]
      have e2 : getK (p :: m) k' = getK m k' := by
        unfold getK
        rw [List.find?_cons_of_neg (by simpa using c)]
      rw [e1, e2, ih, List.any_cons]
      by_cases d : k' = k
      · have : p.1 ≠ k := fun z => c (z.trans d.symm)
        rw [if_pos d, if_pos d, decide_eq_false this, Bool.false_or]
      · rw [if_neg d, if_neg d]
theorem getK_put {m : List (K2 × Int)} {k k' : K2} {v : Int} : getK (putK m k v) k' = if k' = k then some v else getK m k' := by
  unfold putK
  split
  · rename_i h
    rw [getK_map, if_pos h]
  · rename_i h
    unfold getK
    rw [List.find?_append]
    have hno : ∀ p ∈ m, p.1 ≠ k := fun p hp e => h (List.any_eq_true.mpr ⟨p, hp, by simpa using e⟩)
    by_cases d : k' = k
    · subst d
      have : m.find? (fun p => decide (p.1 = k')) = none := List.find?_eq_none.mpr fun p hp => by simpa using hno p hp
      rw [this, if_pos rfl]
      simp
    · rw [if_neg d, List.find?_cons_of_neg (by simpa using fun z => d z.symm)]
      simp
theorem putK_len {m : List (K2 × Int)} {k : K2} {v : Int} : (putK m k v).length ≤ m.length + 1 := by
  unfold putK
  split <;> simp
theorem dGet_st {k : K2} : ∀ m : List (K2 × Int), dGet (stT m) (kD2 k) = (getK m k).map .int
  | [] => rfl
  | p :: m => by
    show (if deq (kD2 p.1) (kD2 k) then some (D.int p.2) else dGet (stT m) (kD2 k)) = _
    rw [deq_k2]
    unfold getK
    by_cases c : p.1 = k
    · rw [decide_eq_true c, List.find?_cons_of_pos (by simpa using c)]; rfl
    · rw [decide_eq_false c, List.find?_cons_of_neg (by simpa using c)]
      exact dGet_st m
theorem look_st {m : List (K2 × Int)} {k : K2} {v : Int} (h : getK m k = some v) : dLook (.dct true (stT m)) (kD2 k) = some (some (.int v)) := by
  have e0 : (toKs (kD2 k)).isSome = true := rfl
  show (if (toKs (kD2 k)).isSome = true then some (dGet (stT m) (kD2 k)) else none) = _
  rw [if_pos e0, dGet_st, h]; rfl
/-! sums along ways -/
theorem wsum_range (g : Nm → Nm → Int) : ∀ w : List Nm, ((List.range (w.length - 1)).map fun i => g (w.getD i []) (w.getD (i + 1) [])).sum = wsum g w
  | [] => rfl
  | [_] => rfl
  | a :: b :: t => by
    have ih := wsum_range g (b :: t)
    have e : (a :: b :: t).length - 1 = (b :: t).length - 1 + 1 := by simp
    rw [e, List.range_succ_eq_map, List.map_cons, List.sum_cons, List.map_map]
    show g a b + _ = g a b + wsum g (b :: t)
    rw [← ih]
    rfl
theorem path_get {es : List Ev} : ∀ {w : List Nm} {i : Nat}, PathK es w → i + 1 < w.length → ∃ e ∈ es, e.1 = w.getD (i + 1) [] ∧ ∃ c ∈ e.2, c.1 = w.getD i []
  | [], i, _, h => by simp at h
  | [_], i, _, h => by simp at h
  | a :: b :: t, 0, hp, _ => hp.1
  | a :: b :: t, i + 1, hp, h => path_get (w := b :: t) (i := i) hp.2 (by simpa using h)
end SD

set_option Elab.async false
set_option linter.all false
set_option maxRecDepth 100000
set_option maxHeartbeats 4000000
namespace SD
open PySem L2
/-! _law_longest -/
def i__law_longest : List IS := [.par [(2, true, .dnew true), (3, true, .lst [])], .for_ (.tp [.nm 4, .nm 5]) .enum [.var 0] [.for_ (.tp [.nm 6, .nm 7]) .enum [.op .idx [.bor 5, .lit (.int 1)]] [.put 2 (.tup [.op .idx [.bor 7, .lit (.int 0)], .op .idx [.bor 5, .lit (.int 0)]]) (.op .idx [.op .idx [.bor 1, .bor 4], .bor 6])]], .for_ (.tp [.nm 8, .nm 9]) .it [.var 0] [.own 10 (.lst []), .for_ (.nm 11) .it [.call 1166 [.var 0, .var 8]] [.expr (.mut .append 10 [.op .sum [.comp [4] (.nm 4) .range [.op .sub [.op .len [.bor 11], .lit (.int 1)]] [] (.op .idx [.bor 2, .tup [.op .idx [.bor 11, .bor 4], .op .idx [.bor 11, .op .add [.bor 4, .lit (.int 1)]]]])]])], .expr (.mut .append 3 [.op .max1 [.bor 10]])], .ret (.op .tuple_ [.bor 3])]
def C_longest : Contract
  | [a, b], Q, _ => ∃ (es : List Ev) (dl : List Row) (f : Nm → Int), a = evsD es ∧ b = dlD dl ∧ FlowOk es ∧ DelOk es dl ∧ IsDay (es.zip dl) f ∧ es.length < 8 ∧ Q (dayD f es)
  | _, _, _ => False
def g_longest : GD := { name := "_law_longest", ps := ["events", "delays"], lvl := 2, C := C_longest }
abbrev lgE (es : List Ev) (dl : List Row) (m : List (K2 × Int)) (found : List D) (a4 a5 a6 a7 a8 a9 a10 a11 : Slt) : DEnv := [some (false, .tup (es.map evD)), some (false, .tup (dl.map rowD)), some (true, .dct true (stT m)), some (true, .lst found), a4, a5, a6, a7, a8, a9, a10, a11]
def lgA1 : List IS := [.put 2 (.tup [.op .idx [.bor 7, .lit (.int 0)], .op .idx [.bor 5, .lit (.int 0)]]) (.op .idx [.op .idx [.bor 1, .bor 4], .bor 6])]
def lgA2 : List IS := [.for_ (.tp [.nm 6, .nm 7]) .enum [.op .idx [.bor 5, .lit (.int 1)]] lgA1]
def KnA (es : List Ev) (dl : List Row) (m : List (K2 × Int)) (i : Nat) : Prop := ∀ p ∈ (es.zip dl).take i, ∀ q ∈ p.1.2.zip p.2, getK m (q.1.1, p.1.1) = some (dly (es.zip dl) q.1.1 p.1.1)
theorem lgA2_ok {t : Tb} {Ex : ExV → DEnv → Prop} {es : List Ev} {dl : List Row} {m : List (K2 × Int)} {found : List D} {a6 a7 a8 a9 a10 a11 : Slt} {i : Nat} {p : Ev × Row} {K : KS} (o : FlowOk es) (od : DelOk es dl) (h8 : es.length < 8) (hp : (es.zip dl)[i]? = some p) (hm : m.length ≤ 6 * i) (kn : KnA es dl m i)
    (hK : ∀ m a4 a5 a6 a7, isOwn (some a4) = false → m.length ≤ 6 * (i + 1) → KnA es dl m (i + 1) → K.nx (lgE es dl m found a4 a5 a6 a7 a8 a9 a10 a11)) :
    wpSs t Ex lgA2 (lgE es dl m found (some (false, .int (i : Int))) (some (false, evD p.1)) a6 a7 a8 a9 a10 a11) K := by
  have hz := zip_getP hp
  have hpm := List.mem_of_getElem? hp
  have ro := od.r p hpm
  have l6 := o.l6 (List.of_mem_zip hpm).1
  have hil : i < dl.length := (List.getElem?_eq_some_iff.mp hz.2).1
  have hil2 : i < es.length := (List.getElem?_eq_some_iff.mp hz.1).1
  have hidx : atI (dl.map rowD) (i : Int) = some (rowD p.2) := by
    rw [atN (by rw [List.length_map]; exact hil), List.getElem?_map, hz.2]; rfl
  simp -dsimp [lgA2, evD_def, at1]
  refine forL_inv (fun j en => ∃ (m : List (K2 × Int)) (a6 a7 : Slt), en = lgE es dl m found (some (false, .int (i : Int))) (some (false, evD p.1)) a6 a7 a8 a9 a10 a11 ∧ m.length ≤ 6 * i + j ∧ KnA es dl m i ∧ ∀ q ∈ (p.1.2.zip p.2).take j, getK m (q.1.1, p.1.1) = some (dly (es.zip dl) q.1.1 p.1.1)) _ _ 0 ⟨m, _, _, rfl, hm, kn, by simp⟩ ?_ ?_
  · rintro j x en K2 hj ⟨m, b6, b7, rfl, hml, kn, knj⟩ hK2
    rw [Nat.zero_add] at hml knj hK2
    rw [List.getElem?_map] at hj
    obtain ⟨⟨d, j'⟩, hq, rfl⟩ := Option.map_eq_some_iff.mp hj
    have hz2 := List.getElem?_zipIdx (l := p.1.2.map caD) (i := 0) (j := j)
    rw [hq, List.getElem?_map] at hz2
    have hjl : j < p.1.2.length := by
      have := (List.getElem?_eq_some_iff.mp hq).1
      simpa using this
    rw [List.getElem?_eq_getElem hjl] at hz2
    have hz3 : d = caD p.1.2[j] ∧ j' = j := by simpa using hz2
    obtain ⟨rfl, rfl⟩ := hz3
    have hrl := ro.l
    have hjx : atI (p.2.map D.int) (j' : Int) = some (.int (p.2[j']'(by omega))) := by
      rw [atN (by rw [List.length_map]; omega), List.getElem?_map, List.getElem?_eq_getElem (by omega)]; rfl
    have hqz : (p.1.2.zip p.2)[j']? = some (p.1.2[j'], p.2[j']'(by omega)) := List.getElem?_zip_eq_some.mpr ⟨List.getElem?_eq_getElem _, List.getElem?_eq_getElem _⟩
    have hd : dly (es.zip dl) (p.1.2[j']).1 p.1.1 = p.2[j']'(by omega) := dly_is o od hpm (List.mem_of_getElem? hqz)
    have hml2 : (stT m).length < 16777216 := by unfold stT; rw [List.length_map]; omega
    simp -dsimp [lgA1, asgT, asgTs, hidx, rowD_def, hjx, caD_def, evD_def, at0]
    refine ⟨rfl, hml2, ?_⟩
    have := hK2 _ ⟨putK m ((p.1.2[j']).1, p.1.1) (p.2[j']'(by omega)), some (false, .int (j' : Int)), some (false, caD p.1.2[j']), rfl, ?_, ?_, ?_⟩
    · rw [lgE, ← dPut_st] at this
      exact this
    · have := putK_len (m := m) (k := ((p.1.2[j']).1, p.1.1)) (v := p.2[j']'(by omega))
      omega
    · intro p' hp' q' hq'
      rw [getK_put]
      split
      · rename_i e
        have e1 := congrArg Prod.fst e
        have e2 := congrArg Prod.snd e
        dsimp only at e1 e2
        rw [e1, e2, hd]
      · exact kn p' hp' q' hq'
    · intro q' hq'
      rw [getK_put]
      split
      · rename_i e
        have e1 := congrArg Prod.fst e
        dsimp only at e1
        rw [e1, hd]
      · rename_i hne
        rw [List.take_succ, hqz] at hq'
        rcases List.mem_append.mp hq' with h | h
        · exact knj q' h
        · have : q' = (p.1.2[j'], p.2[j']'(by omega)) := by simpa using h
          rw [this] at hne
          exact absurd rfl hne
  · rintro en ⟨m, b6, b7, rfl, hml, kn, knj⟩
    have hrl := ro.l
    have e1 : (p.1.2.zip p.2).take (0 + (List.map (fun p : D × Nat => D.ktup [.int (p.2 : Int), p.1]) (p.1.2.map caD).zipIdx).length) = p.1.2.zip p.2 := by
      rw [List.take_of_length_le]; simp; exact Nat.min_le_left _ _
    rw [e1] at knj
    simp -dsimp at hml
    refine hK m _ _ _ _ rfl (by omega) fun p' hp' q' hq' => ?_
    rw [List.take_succ, hp] at hp'
    rcases List.mem_append.mp hp' with h | h
    · exact kn p' h q' hq'
    · have : p' = p := by simpa using h
      subst this
      exact knj q' hq'
def lgB2 : List IS := [.expr (.mut .append 10 [.op .sum [.comp [4] (.nm 4) .range [.op .sub [.op .len [.bor 11], .lit (.int 1)]] [] (.op .idx [.bor 2, .tup [.op .idx [.bor 11, .bor 4], .op .idx [.bor 11, .op .add [.bor 4, .lit (.int 1)]]]])]])]
theorem kn_path {es : List Ev} {dl : List Row} {m : List (K2 × Int)} (od : DelOk es dl) (kn : ∀ p ∈ es.zip dl, ∀ q ∈ p.1.2.zip p.2, getK m (q.1.1, p.1.1) = some (dly (es.zip dl) q.1.1 p.1.1)) {w : List Nm} {i : Nat} (hp : PathK es w) (h : i + 1 < w.length) : getK m (w.getD i [], w.getD (i + 1) []) = some (dly (es.zip dl) (w.getD i []) (w.getD (i + 1) [])) := by
  obtain ⟨e, he, e1, c, hc, e2⟩ := path_get hp h
  obtain ⟨k, hk⟩ := List.mem_iff_getElem?.mp he
  obtain ⟨r, hr⟩ := zip_ex od.l hk
  have hm := List.mem_of_getElem? hr
  obtain ⟨j, hj⟩ := List.mem_iff_getElem?.mp hc
  have hjl := (List.getElem?_eq_some_iff.mp hj).1
  have rl : r.length = e.2.length := (od.r _ hm).l
  have hq : (c, r[j]'(by omega)) ∈ e.2.zip r := List.mem_of_getElem? (List.getElem?_zip_eq_some.mpr ⟨hj, List.getElem?_eq_getElem _⟩)
  have := kn _ hm _ hq
  rw [← e1, ← e2]
  exact this
def lgF (g : Nm → Nm → Int) (w : List Nm) : D → D
  | .int i => .int (g (w.getD i.toNat []) (w.getD (i.toNat + 1) []))
  | d => d
theorem lgB2_ok {t : Tb} {Ex : ExV → DEnv → Prop} {es : List Ev} {dl : List Row} {m : List (K2 × Int)} {found : List D} {a4 a5 a6 a7 a8 a9 : Slt} {S : List Int} {w : List Nm} {K : KS} (od : DelOk es dl) (h4 : isOwn (some a4) = false) (hS : S.length ≤ 400000) (hw : w ≠ [] ∧ PathK es w ∧ w.length ≤ 8) (kn : ∀ p ∈ es.zip dl, ∀ q ∈ p.1.2.zip p.2, getK m (q.1.1, p.1.1) = some (dly (es.zip dl) q.1.1 p.1.1))
    (hK : K.nx (lgE es dl m found a4 a5 a6 a7 a8 a9 (some (true, .lst ((S ++ [wsum (dly (es.zip dl)) w]).map .int))) (some (false, wyD w)))) :
    wpSs t Ex lgB2 (lgE es dl m found a4 a5 a6 a7 a8 a9 (some (true, .lst (S.map .int))) (some (false, wyD w))) K := by
  obtain ⟨w0, wp, w8⟩ := hw
  have hl0 : 0 < w.length := List.length_pos_iff.mpr w0
  have en : (w.length : Int) - 1 = ((w.length - 1 : Nat) : Int) := by omega
  simp -dsimp [lgB2, wyD_def, en, h4]
  rw [range_nat (by omega), wO_some]
  refine compL_map1 (lgF (dly (es.zip dl)) w) _ ?_ (by simp; omega) ?_
  · intro x hx K hK
    obtain ⟨i, hi, rfl⟩ := List.mem_map.mp hx
    have hi2 : i < w.length - 1 := List.mem_range.mp hi
    have e1 : atI (w.map D.str) (i : Int) = some (.str (w.getD i [])) := by
      rw [atN (by rw [List.length_map]; omega), List.getElem?_map, List.getD_eq_getElem?_getD, List.getElem?_eq_getElem (by omega)]; rfl
    have e2 : atI (w.map D.str) ((i : Int) + 1) = some (.str (w.getD (i + 1) [])) := by
      have : (i : Int) + 1 = ((i + 1 : Nat) : Int) := by omega
      rw [this, atN (by rw [List.length_map]; omega), List.getElem?_map, List.getD_eq_getElem?_getD, List.getElem?_eq_getElem (by omega)]; rfl
    have hk := look_st (kn_path od kn wp (i := i) (by omega))
    rw [kD2_def] at hk
    simp -dsimp [e1, e2]
    rw [opW_idx_dct]
    exact ⟨_, hk, rfl, hK⟩
  · have e3 : (List.map (fun (k : Nat) => D.int (k : Int)) (List.range (w.length - 1))).map (lgF (dly (es.zip dl)) w) = ((List.range (w.length - 1)).map fun i => dly (es.zip dl) (w.getD i []) (w.getD (i + 1) [])).map D.int := by
      rw [List.map_map, List.map_map]; rfl
    rw [e3, allSome_ints8, wO_some, wsum_range]
    simp -dsimp
    have e4 : (S ++ [wsum (dly (es.zip dl)) w]).map D.int = S.map D.int ++ [.int (wsum (dly (es.zip dl)) w)] := by rw [List.map_append]; rfl
    rw [lgE, e4] at hK
    exact ⟨by omega, hK⟩
def lgB1 : List IS := [.own 10 (.lst []), .for_ (.nm 11) .it [.call 1166 [.var 0, .var 8]] lgB2, .expr (.mut .append 3 [.op .max1 [.bor 10]])]
theorem C_ways_is {a : D} {x : Nm} {Q : D → Prop} {E} : C_ways [a, .str x] Q E = ∃ (es : List Ev) (dl : List Row) (f : Nm → Int), a = evsD es ∧ FlowOk es ∧ DelOk es dl ∧ IsDay (es.zip dl) f ∧ es.length < 8 ∧ x ∈ nms es ∧ ∀ ws, WaysOk es dl (f x) ws → Q (.lst (ws.map wyD)) := rfl
theorem lgB1_ok {t : Tb} (g : t.gd 1166 = g_ways) {Ex : ExV → DEnv → Prop} {es : List Ev} {dl : List Row} {f : Nm → Int} {m : List (K2 × Int)} {found : List D} {a4 a5 a6 a7 a9 a10 a11 : Slt} {x : Nm} {K : KS} (o : FlowOk es) (od : DelOk es dl) (hd : IsDay (es.zip dl) f) (h8 : es.length < 8) (hx : x ∈ nms es) (h4 : isOwn (some a4) = false) (hf : found.length ≤ 10) (kn : ∀ p ∈ es.zip dl, ∀ q ∈ p.1.2.zip p.2, getK m (q.1.1, p.1.1) = some (dly (es.zip dl) q.1.1 p.1.1))
    (hK : ∀ a10 a11, K.nx (lgE es dl m (found ++ [.int (f x)]) a4 a5 a6 a7 (some (false, .str x)) a9 a10 a11)) :
    wpSs t Ex lgB1 (lgE es dl m found a4 a5 a6 a7 (some (false, .str x)) a9 a10 a11) K := by
  simp -dsimp [lgB1, callW, g, g_ways]
  refine ⟨es, dl, f, rfl, o, od, hd, h8, hx, fun ws wo => ?_⟩
  have wl := wo.len
  simp -dsimp
  refine forL_inv (fun i en => ∃ a11, en = lgE es dl m found a4 a5 a6 a7 (some (false, .str x)) a9 (some (true, .lst (((ws.take i).map (wsum (dly (es.zip dl)))).map .int))) a11) _ _ 0 ⟨_, rfl⟩ ?_ ?_
  · rintro i y en K2 hi ⟨b11, rfl⟩ hK2
    rw [Nat.zero_add] at hK2 ⊢
    rw [List.getElem?_map] at hi
    obtain ⟨w, hw, rfl⟩ := Option.map_eq_some_iff.mp hi
    have hil := (List.getElem?_eq_some_iff.mp hw).1
    show wpSs t Ex lgB2 (lgE es dl m found a4 a5 a6 a7 (some (false, .str x)) a9 (some (true, .lst (((ws.take i).map (wsum (dly (es.zip dl)))).map .int))) (some (false, wyD w))) _
    refine lgB2_ok od h4 (by rw [List.length_map, List.length_take]; omega) (wo.p w (List.mem_of_getElem? hw)) kn ?_
    have := hK2 _ ⟨some (false, wyD w), rfl⟩
    rw [List.take_succ, hw, Option.toList_some, List.map_append (f := wsum (dly (es.zip dl)))] at this
    exact this
  · rintro en ⟨b11, rfl⟩
    have e1 : ws.take (0 + (ws.map wyD).length) = ws := by rw [List.take_of_length_le]; simp
    rw [e1]
    simp -dsimp [-List.map_map]
    obtain ⟨w, hw, he⟩ := wo.ex
    refine ⟨ws.map (wsum (dly (es.zip dl))), allSome_ints8 _, fun z => ?_, fun v hv hmax => ?_⟩
    · have : w ∈ [] := by rw [← List.map_eq_nil_iff.mp z]; exact hw
      cases this
    · obtain ⟨u, hu, rfl⟩ := List.mem_map.mp hv
      have h1 := wo.le u hu
      have h2 := hmax _ (List.mem_map.mpr ⟨w, hw, rfl⟩)
      rw [he] at h2
      have : wsum (dly (es.zip dl)) u = f x := Int.le_antisymm h1 h2
      rw [this]
      exact ⟨rfl, by omega, hK _ _⟩
theorem longest_ok {t : Tb} (g : t.gd 1166 = g_ways) {Ex : ExV → DEnv → Prop} {a b : D} {Q : D → Prop} {E : ExV → Prop} (hc : C_longest [a, b] Q E) : wpSs t Ex i__law_longest [some (false, a), some (false, b), none, none, none, none, none, none, none, none, none, none] (endK Q) := by
  obtain ⟨es, dl, f, rfl, rfl, o, od, hd, h8, q⟩ := hc
  have hl := od.l
  have hs : i__law_longest = [.par [(2, true, .dnew true), (3, true, .lst [])], .for_ (.tp [.nm 4, .nm 5]) .enum [.var 0] lgA2, .for_ (.tp [.nm 8, .nm 9]) .it [.var 0] lgB1, .ret (.op .tuple_ [.bor 3])] := rfl
  rw [hs]
  simp -dsimp [endK, evsD_def, dlD_def, storeP]
  refine forL_inv (fun i en => ∃ (m : List (K2 × Int)) (a4 a5 a6 a7 : Slt), en = lgE es dl m [] a4 a5 a6 a7 none none none none ∧ isOwn (some a4) = false ∧ m.length ≤ 6 * i ∧ KnA es dl m i) _ _ 0 ⟨[], _, _, _, _, rfl, rfl, by simp, fun p hp => by cases hp⟩ ?_ ?_
  · rintro i x en K hi ⟨m, a4, a5, a6, a7, rfl, _, hm, kn⟩ hK
    rw [Nat.zero_add] at hm kn hK
    rw [List.getElem?_map] at hi
    obtain ⟨⟨d, j⟩, hp, rfl⟩ := Option.map_eq_some_iff.mp hi
    have hz := List.getElem?_zipIdx (l := es.map evD) (i := 0) (j := i)
    rw [hp, List.getElem?_map] at hz
    have hil : i < es.length := by
      have := (List.getElem?_eq_some_iff.mp hp).1
      simpa using this
    rw [List.getElem?_eq_getElem hil] at hz
    have hz2 : d = evD es[i] ∧ j = i := by simpa using hz
    obtain ⟨rfl, rfl⟩ := hz2
    obtain ⟨r, hr⟩ := zip_ex od.l (List.getElem?_eq_getElem hil)
    simp -dsimp [asgT, asgTs]
    exact lgA2_ok o od h8 hr hm kn fun m a4 a5 a6 a7 h4 hm kn => hK _ ⟨m, _, _, _, _, rfl, h4, hm, kn⟩
  · rintro en ⟨m, a4, a5, a6, a7, rfl, h4, hm, kn⟩
    have e1 : (es.zip dl).take (0 + (List.map (fun p : D × Nat => D.ktup [.int (p.2 : Int), p.1]) (es.map evD).zipIdx).length) = es.zip dl := by
      rw [List.take_of_length_le]; simp; exact Nat.min_le_left _ _
    unfold KnA at kn
    rw [e1] at kn
    simp -dsimp
    refine forL_inv (fun i en => ∃ (a8 a9 a10 a11 : Slt), en = lgE es dl m (((nms es).take i).map fun x => .int (f x)) a4 a5 a6 a7 a8 a9 a10 a11) _ _ 0 ⟨_, _, _, _, rfl⟩ ?_ ?_
    · rintro i x en K hi ⟨a8, a9, a10, a11, rfl⟩ hK
      rw [Nat.zero_add] at hK ⊢
      rw [List.getElem?_map] at hi
      obtain ⟨e, he, rfl⟩ := Option.map_eq_some_iff.mp hi
      simp -dsimp [-List.map_take, asgT, asgTs, evD_def]
      refine lgB1_ok g o od hd h8 (List.mem_of_getElem? (nms_get he)) h4 (by rw [List.length_map, List.length_take]; have := (List.getElem?_eq_some_iff.mp he).1; omega) kn fun a10 a11 => ?_
      have := hK _ ⟨some (false, .str e.1), some (false, .tup (e.2.map caD)), a10, a11, rfl⟩
      rw [take_succ_nms he, List.map_append] at this
      exact this
    · rintro en ⟨a8, a9, a10, a11, rfl⟩
      have e2 : (nms es).take (0 + (es.map evD).length) = nms es := by rw [List.take_of_length_le]; simp [nms]
      rw [e2]
      simp -dsimp
      exact q
end SD

set_option Elab.async false
set_option linter.all false
set_option maxRecDepth 100000
set_option maxHeartbeats 4000000
namespace SD
open PySem L2
/-! _law_right -/
def i__law_right : List IS := [.own 1 (.lst []), .for_ (.nm 2) .range [.lit (.int 4)] [.set 3 (.call 1083 [.var 0, .call 1080 [.var 0, .lst [.lit (.int 20), .lit (.int 20), .lit (.int 2), .lit (.int 6), .op .add [.lit (.int 2), .call 1900 [.var 0, .lit (.int 19)]]]], .call 1080 [.var 0, .lst [.lit (.int 6), .lit (.int 3)]], .lit (.int 30)]), .set 4 (.call 1202 [.var 3]), .for_ (.nm 5) .it [.lst [.call 1167 [.var 0, .var 3], .call 1165 [.var 3, .lit (.int 1)], .call 1165 [.var 3, .lit (.int 2)], .call 1167 [.var 0, .var 3]]] [.set 6 (.call 1164 [.var 3, .var 5]), .set 7 (.op .tuple_ [.comp [8] (.nm 8) .it [.var 3] [] (.op .idx [.bor 6, .op .idx [.bor 8, .lit (.int 0)]])]), .ite (.and [.op .lt [.op .len [.bor 3], .lit (.int 8)], .op .ne [.bor 7, .call 1168 [.var 3, .var 5]]]) [.ret (.lit (.bl false))] [], .ite (.not (.call 1082 [.lst [.call 1161 [.var 4, .var 5], .callk 1161 ["delays", "flow"] [1, 0] [.var 5, .var 4]], .lst [.var 7, .var 7]])) [.ret (.lit (.bl false))] [], .expr (.mut .append 1 [.tup [.var 4, .var 5, .var 7]]), .asg (.tp [.nm 9, .nm 10]) (.call 1169 [.var 0, .var 3, .var 5]), .ite (.not (.call 1082 [.call 1161 [.call 1202 [.var 9], .var 10], .op .tuple_ [.comp [8] (.nm 8) .it [.var 9] [] (.op .idx [.bor 6, .op .idx [.bor 8, .lit (.int 0)]])]])) [.ret (.lit (.bl false))] []]], .ret (.op .all_ [.comp [4, 5, 7] (.tp [.nm 4, .nm 5, .nm 7]) .it [.var 1] [] (.call 1082 [.call 1161 [.var 4, .var 5], .var 7])])]
def C_right : Contract
  | [.well], Q, _ => Q (.bl true)
  | _, _, _ => False
def g_right : GD := { name := "_law_right", ps := ["urn"], lvl := 35, C := C_right }
def rb1 : List IS := [.set 6 (.call 1164 [.var 3, .var 5]), .set 7 (.op .tuple_ [.comp [8] (.nm 8) .it [.var 3] [] (.op .idx [.bor 6, .op .idx [.bor 8, .lit (.int 0)]])])]
def rb2 : List IS := [.ite (.and [.op .lt [.op .len [.bor 3], .lit (.int 8)], .op .ne [.bor 7, .call 1168 [.var 3, .var 5]]]) [.ret (.lit (.bl false))] []]
def rb3 : List IS := [.ite (.not (.call 1082 [.lst [.call 1161 [.var 4, .var 5], .callk 1161 ["delays", "flow"] [1, 0] [.var 5, .var 4]], .lst [.var 7, .var 7]])) [.ret (.lit (.bl false))] [], .expr (.mut .append 1 [.tup [.var 4, .var 5, .var 7]])]
def rb4 : List IS := [.asg (.tp [.nm 9, .nm 10]) (.call 1169 [.var 0, .var 3, .var 5]), .ite (.not (.call 1082 [.call 1161 [.call 1202 [.var 9], .var 10], .op .tuple_ [.comp [8] (.nm 8) .it [.var 9] [] (.op .idx [.bor 6, .op .idx [.bor 8, .lit (.int 0)]])]])) [.ret (.lit (.bl false))] []]
abbrev rE (held : List D) (a2 : Slt) (es : List Ev) (dl : List Row) (a6 a7 a9 a10 : Slt) : DEnv := [some (false, .well), some (true, .lst held), a2, some (false, evsD es), some (false, flowO es), some (false, dlD dl), a6, a7, none, a9, a10]
def tabD (f : Nm → Int) (es : List Ev) : D := .dct false (tabI (tabF f (nms es)))
theorem tabD_def {f : Nm → Int} {es : List Ev} : tabD f es = .dct false (tabI (tabF f (nms es))) := rfl
def ownF (f : Nm → Int) : D → D
  | .tup (.str x :: _) => .int (f x)
  | d => d
theorem ownF_map {f : Nm → Int} {es : List Ev} : (es.map evD).map (ownF f) = (nms es).map fun x => .int (f x) := by
  rw [nms, List.map_map, List.map_map]; rfl
theorem rb1_ok {t : Tb} (g64 : t.gd 1164 = g_ldays) {Ex : ExV → DEnv → Prop} {held : List D} {a2 a6 a7 a9 a10 : Slt} {es : List Ev} {dl : List Row} {f : Nm → Int} {K : KS} (o : FlowOk es) (od : DelOk es dl) (hd : IsDay (es.zip dl) f)
    (hK : K.nx (rE held a2 es dl (some (false, tabD f es)) (some (false, dayD f es)) a9 a10)) : wpSs t Ex rb1 (rE held a2 es dl a6 a7 a9 a10) K := by
  have l20 := o.l20
  simp -dsimp [rb1, callW, g64, g_ldays, isClo_evs, isClo_dl]
  refine ⟨es, dl, f, rfl, rfl, o, od, hd, ?_⟩
  simp -dsimp [evsD_def]
  refine compL_map1 (ownF f) _ ?_ (by simp; omega) ?_
  · intro x hx K hK
    obtain ⟨e, he, rfl⟩ := List.mem_map.mp hx
    simp -dsimp [evD_def, at0, opW_idx_dct, look_tabF f (show e.1 ∈ nms es from List.mem_map_of_mem he)]
    exact hK
  · rw [ownF_map]
    exact hK
theorem okD_day {f : Nm → Int} {es : List Ev} : okD (dayD f es) 20 = true := by
  have : dayD f es = rowD ((nms es).map f) := by unfold dayD rowD; rw [List.map_map]; rfl
  rw [this]; exact ok_row (n := 19)
theorem deq_ints : ∀ l : List Int, deq (.tup (l.map .int)) (.tup (l.map .int)) = true
  | [] => rfl
  | a :: l => by
    show (deq (.int a) (.int a) && deq (.tup (l.map .int)) (.tup (l.map .int))) = true
    rw [deq_ints l]
    simp [deq]
theorem deq_day {f : Nm → Int} {es : List Ev} : deq (dayD f es) (dayD f es) = true := by
  have : dayD f es = rowD ((nms es).map f) := by unfold dayD rowD; rw [List.map_map]; rfl
  rw [this]; exact deq_ints _
theorem rb2_ok {t : Tb} (g68 : t.gd 1168 = g_longest) {Ex : ExV → DEnv → Prop} {held : List D} {a2 a6 a9 a10 : Slt} {es : List Ev} {dl : List Row} {f : Nm → Int} {K : KS} (o : FlowOk es) (od : DelOk es dl) (hd : IsDay (es.zip dl) f)
    (hK : K.nx (rE held a2 es dl a6 (some (false, dayD f es)) a9 a10)) : wpSs t Ex rb2 (rE held a2 es dl a6 (some (false, dayD f es)) a9 a10) K := by
  simp -dsimp [rb2, callW, g68, g_longest, isClo_evs, isClo_dl]
  rw [evsD_def]
  simp -dsimp
  by_cases h8 : (es.length : Int) < 8
  · rw [if_pos h8]
    refine ⟨es, dl, f, rfl, rfl, o, od, hd, by omega, ?_⟩
    simp -dsimp [okD_day, deq_day, h8]
    exact hK
  · rw [if_neg h8, if_neg h8]
    exact hK
theorem isU_day {n : Nat} {f : Nm → Int} {es : List Ev} (h : es.length ≤ 20) : isU (n + 1) (dayD f es) := by
  refine ⟨by rw [List.length_map, nms, List.length_map]; omega, fun d hd => ?_⟩
  obtain ⟨x, _, rfl⟩ := List.mem_map.mp hd
  cases n <;> trivial
theorem C_days_is {a b : D} {Q : D → Prop} {E} : C_days [a, b] Q E = ∃ (es : List Ev) (dl : List Row) (f : Nm → Int), a = flowO es ∧ b = dlD dl ∧ FlowOk es ∧ DelOk es dl ∧ IsDay (es.zip dl) f ∧ Q (dayD f es) := rfl
def trD (es : List Ev) (dl : List Row) (f : Nm → Int) : D := .tup [flowO es, dlD dl, dayD f es]
theorem trD_def {es : List Ev} {dl : List Row} {f : Nm → Int} : trD es dl f = .tup [flowO es, dlD dl, dayD f es] := rfl
theorem rb3_ok {t : Tb} (g61 : t.gd 1161 = g_days) (g82 : t.gd 1082 = g_usame 2) {Ex : ExV → DEnv → Prop} {held : List D} {a2 a6 a9 a10 : Slt} {es : List Ev} {dl : List Row} {f : Nm → Int} {K : KS} (o : FlowOk es) (od : DelOk es dl) (hd : IsDay (es.zip dl) f) (hl : held.length ≤ 100)
    (hK : ∀ a7, isOwn (some a7) = false → K.nx (rE (held ++ [trD es dl f]) a2 es dl a6 a7 a9 a10)) : wpSs t Ex rb3 (rE held a2 es dl a6 (some (false, dayD f es)) a9 a10) K := by
  simp -dsimp [rb3, callW, g61, g82, g_days, g_usame, isClo_fl, isClo_dl, permD]
  refine ⟨es, dl, f, rfl, rfl, o, od, hd, ?_⟩
  refine ⟨es, dl, f, rfl, rfl, o, od, hd, ⟨rfl, rfl⟩, rfl, rfl, ?_, ?_⟩
  · refine ⟨by simp, fun d hd => ?_⟩
    simp only [List.mem_cons, List.not_mem_nil, or_false, or_self] at hd
    rw [hd]; exact isU_day o.l20
  · simp -dsimp
    exact ⟨rfl, by omega, hK _ rfl⟩
theorem zip_unzip2 {α β : Type} : ∀ l : List (α × β), (l.map (·.1)).zip (l.map (·.2)) = l
  | [] => rfl
  | a :: l => by
    show (a.1, a.2) :: (l.map (·.1)).zip (l.map (·.2)) = _
    rw [zip_unzip2 l]
theorem turnD_def {ps : List (Ev × Row)} : turnD ps = .tup [evsD (ps.map (·.1)), dlD (ps.map (·.2))] := by
  unfold turnD evsD dlD
  rw [List.map_map, List.map_map]; rfl
theorem C_turned_is {a b : D} {Q : D → Prop} {E} : C_turned [.well, a, b] Q E = ∃ (es : List Ev) (dl : List Row), a = evsD es ∧ b = dlD dl ∧ FlowOk es ∧ DelOk es dl ∧ ∀ ps : List (Ev × Row), ps.Perm (es.zip dl) → FlowOk (ps.map (·.1)) → Q (turnD ps) := rfl
theorem rb4_ok {t : Tb} (g61 : t.gd 1161 = g_days) (g69 : t.gd 1169 = g_turned) (g202 : t.gd 1202 = g_Flow) (g82 : t.gd 1082 = g_usame 2) {Ex : ExV → DEnv → Prop} {held : List D} {a2 a7 a9 a10 : Slt} {es : List Ev} {dl : List Row} {f : Nm → Int} {K : KS} (o : FlowOk es) (od : DelOk es dl) (hd : IsDay (es.zip dl) f)
    (hK : ∀ a9 a10, K.nx (rE held a2 es dl (some (false, tabD f es)) a7 a9 a10)) : wpSs t Ex rb4 (rE held a2 es dl (some (false, tabD f es)) a7 a9 a10) K := by
  simp -dsimp [rb4, callW, g61, g69, g202, g82, g_days, g_turned, g_Flow, g_usame, isClo_evs, isClo_dl]
  refine ⟨es, dl, rfl, rfl, o, od, fun ps hp of' => ?_⟩
  have hz := zip_unzip2 ps
  have od' : DelOk (ps.map (·.1)) (ps.map (·.2)) := ⟨by simp, fun p hm => by rw [hz] at hm; exact od.r p (hp.mem_iff.mp hm)⟩
  have hd' : IsDay ((ps.map (·.1)).zip (ps.map (·.2))) f := by rw [hz]; exact hd.perm hp
  have hsub : ∀ e ∈ ps.map (·.1), e.1 ∈ nms es := fun e he => by
    obtain ⟨p, hm, rfl⟩ := List.mem_map.mp he
    exact List.mem_map_of_mem (List.of_mem_zip (hp.mem_iff.mp hm)).1
  rw [turnD_def]
  generalize ps.map (·.1) = es' at *
  generalize ps.map (·.2) = dl' at *
  simp -dsimp [asgT, asgTs, isClo_evs, isClo_dl]
  refine ⟨es', rfl, of', ?_⟩
  simp -dsimp [isClo_fl, isClo_dl]
  refine ⟨es', dl', f, rfl, rfl, of', od', hd', ?_⟩
  have l20 := of'.l20
  simp -dsimp [evsD_def, tabD_def]
  refine compL_map1 (ownF f) _ ?_ (by simp; omega) ?_
  · intro x hx K hK
    obtain ⟨e, he, rfl⟩ := List.mem_map.mp hx
    simp -dsimp [evD_def, at0, opW_idx_dct, look_tabF f (hsub e he)]
    exact hK
  · rw [ownF_map]
    refine ⟨rfl, rfl, isU_day l20, ?_⟩
    simp -dsimp
    exact hK _ _
/-! the whole -/
def HeldOk (d : D) : Prop := ∃ (es : List Ev) (dl : List Row) (f : Nm → Int), d = trD es dl f ∧ FlowOk es ∧ DelOk es dl ∧ IsDay (es.zip dl) f
def rbA : List IS := [.set 3 (.call 1083 [.var 0, .call 1080 [.var 0, .lst [.lit (.int 20), .lit (.int 20), .lit (.int 2), .lit (.int 6), .op .add [.lit (.int 2), .call 1900 [.var 0, .lit (.int 19)]]]], .call 1080 [.var 0, .lst [.lit (.int 6), .lit (.int 3)]], .lit (.int 30)]), .set 4 (.call 1202 [.var 3])]
def rbB : List IS := [.for_ (.nm 5) .it [.lst [.call 1167 [.var 0, .var 3], .call 1165 [.var 3, .lit (.int 1)], .call 1165 [.var 3, .lit (.int 2)], .call 1167 [.var 0, .var 3]]] (rb1 ++ (rb2 ++ (rb3 ++ rb4)))]
def rbC : List IS := [.ret (.op .all_ [.comp [4, 5, 7] (.tp [.nm 4, .nm 5, .nm 7]) .it [.var 1] [] (.call 1082 [.call 1161 [.var 4, .var 5], .var 7])])]
theorem right_split : i__law_right = [.own 1 (.lst []), .for_ (.nm 2) .range [.lit (.int 4)] (rbA ++ rbB)] ++ rbC := rfl
abbrev rF (held : List D) (a2 a3 a4 a5 a6 a7 a9 a10 : Slt) : DEnv := [some (false, .well), some (true, .lst held), a2, a3, a4, a5, a6, a7, none, a9, a10]
theorem C_flow_is {n m h : Int} {Q : D → Prop} {E} : C_flow [.well, .int n, .int m, .int h] Q E = (2 ≤ n ∧ n ≤ 20 ∧ 0 ≤ m ∧ m ≤ 6 ∧ 0 ≤ h ∧ h ≤ 30 ∧ ∀ es, FlowOk es → (es.length : Int) = n → (∀ e ∈ es, (2 ≤ m → (e.2.length : Int) ≤ m) ∧ ∀ c ∈ e.2, c.2.2 ≤ h) → Q (evsD es)) := rfl
theorem rbA_ok {t : Tb} (g1 : t.gd 1900 = g_take) (g80 : t.gd 1080 = g_uof) (g83 : t.gd 1083 = g_flow) (g202 : t.gd 1202 = g_Flow) {Ex : ExV → DEnv → Prop} {held : List D} {a2 a3 a4 a5 a6 a7 a9 a10 : Slt} {K : KS}
    (hK : ∀ es : List Ev, FlowOk es → K.nx (rF held a2 (some (false, evsD es)) (some (false, flowO es)) a5 a6 a7 a9 a10)) : wpSs t Ex rbA (rF held a2 a3 a4 a5 a6 a7 a9 a10) K := by
  simp -dsimp [rbA, callW, g1, g80, g83, g202, g_take, g_uof, g_flow, g_Flow, C_draw_is, C_uof_lst]
  intro r r0 r1 d hd
  have hd2 : ∃ n : Int, 2 ≤ n ∧ n ≤ 20 ∧ d = .int n := by
    simp only [List.mem_cons, List.not_mem_nil, or_false] at hd
    rcases hd with rfl | rfl | rfl | rfl | rfl
    · exact ⟨_, by omega, by omega, rfl⟩
    · exact ⟨_, by omega, by omega, rfl⟩
    · exact ⟨_, by omega, by omega, rfl⟩
    · exact ⟨_, by omega, by omega, rfl⟩
    · exact ⟨_, by omega, by omega, rfl⟩
  obtain ⟨n, n2, n20, rfl⟩ := hd2
  intro d hd
  have hd2 : ∃ m : Int, 0 ≤ m ∧ m ≤ 6 ∧ d = .int m := by
    simp only [List.mem_cons, List.not_mem_nil, or_false] at hd
    rcases hd with rfl | rfl
    · exact ⟨_, by omega, by omega, rfl⟩
    · exact ⟨_, by omega, by omega, rfl⟩
  obtain ⟨m, m0, m6, rfl⟩ := hd2
  simp -dsimp [C_flow_is]
  exact ⟨n2, n20, m0, m6, fun es o hl _ => ⟨rfl, es, rfl, o, rfl, hK es o⟩⟩
theorem C_delays_is {d : D} {Q : D → Prop} {E} : C_delays [.well, d] Q E = ∃ es : List Ev, d = evsD es ∧ FlowOk es ∧ ∀ dl, DelOk es dl → Q (dlD dl) := rfl
theorem C_ends_is {d : D} {a : Int} {Q : D → Prop} {E} : C_ends [d, .int a] Q E = ∃ es : List Ev, d = evsD es ∧ FlowOk es ∧ (a = 1 ∨ a = 2) ∧ Q (dlD (enL a es)) := rfl
theorem rb_ok {t : Tb} (g64 : t.gd 1164 = g_ldays) (g68 : t.gd 1168 = g_longest) (g61 : t.gd 1161 = g_days) (g69 : t.gd 1169 = g_turned) (g202 : t.gd 1202 = g_Flow) (g82 : t.gd 1082 = g_usame 2) {Ex : ExV → DEnv → Prop} {held : List D} {a2 a6 a7 a9 a10 : Slt} {es : List Ev} {dl : List Row} {K : KS} (o : FlowOk es) (od : DelOk es dl) (hl : held.length ≤ 100) (hh : ∀ d ∈ held, HeldOk d)
    (hK : ∀ held' a6 a7 a9 a10, held'.length ≤ held.length + 1 → (∀ d ∈ held', HeldOk d) → isOwn (some a7) = false → K.nx (rE held' a2 es dl a6 a7 a9 a10)) : wpSs t Ex (rb1 ++ (rb2 ++ (rb3 ++ rb4))) (rE held a2 es dl a6 a7 a9 a10) K := by
  obtain ⟨f, hd⟩ := day_ex (dl := dl) o
  rw [wpSs_app2]
  refine rb1_ok g64 o od hd ?_
  dsimp only
  unfold restW
  rw [wpSs_app2]
  refine rb2_ok g68 o od hd ?_
  dsimp only
  unfold restW
  rw [wpSs_app2]
  refine rb3_ok g61 g82 o od hd hl fun a7 h7 => ?_
  dsimp only
  unfold restW
  refine rb4_ok g61 g69 g202 g82 o od hd fun a9 a10 => hK _ _ _ _ _ (by simp) (fun d hm => ?_) h7
  rcases List.mem_append.mp hm with h | h
  · exact hh d h
  · rw [List.mem_singleton.mp h]; exact ⟨es, dl, f, rfl, o, od, hd⟩
theorem rbB_ok {t : Tb} (g65 : t.gd 1165 = g_ends) (g67 : t.gd 1167 = g_delays) (g64 : t.gd 1164 = g_ldays) (g68 : t.gd 1168 = g_longest) (g61 : t.gd 1161 = g_days) (g69 : t.gd 1169 = g_turned) (g202 : t.gd 1202 = g_Flow) (g82 : t.gd 1082 = g_usame 2) {Ex : ExV → DEnv → Prop} {held : List D} {a2 a5 a6 a7 a9 a10 : Slt} {es : List Ev} {K : KS} (o : FlowOk es) (hl : held.length ≤ 20) (hh : ∀ d ∈ held, HeldOk d) (h5 : isOwn (some a5) = false) (h7 : isOwn (some a7) = false)
    (hK : ∀ held' a5 a6 a7 a9 a10, held'.length ≤ held.length + 4 → (∀ d ∈ held', HeldOk d) → isOwn (some a5) = false → isOwn (some a7) = false → K.nx (rF held' a2 (some (false, evsD es)) (some (false, flowO es)) a5 a6 a7 a9 a10)) : wpSs t Ex rbB (rF held a2 (some (false, evsD es)) (some (false, flowO es)) a5 a6 a7 a9 a10) K := by
  simp -dsimp [rbB, callW, g65, g67, g_ends, g_delays, C_delays_is, C_ends_is, isClo_evs]
  refine ⟨es, rfl, o, fun dl1 h1 => ?_⟩
  refine ⟨es, rfl, o, es, rfl, o, es, rfl, o, fun dl2 h2 => ⟨⟨rfl, rfl, rfl, rfl⟩, ?_⟩⟩
  refine forL_inv (fun i en => ∃ held' a5 a6 a7 a9 a10, en = rF held' a2 (some (false, evsD es)) (some (false, flowO es)) a5 a6 a7 a9 a10 ∧ held'.length ≤ held.length + i ∧ (∀ d ∈ held', HeldOk d) ∧ isOwn (some a5) = false ∧ isOwn (some a7) = false) _ _ 0 ⟨held, _, _, _, _, _, rfl, by omega, hh, h5, h7⟩ ?_ ?_
  · rintro i x en K2 hi ⟨held', b5, b6, b7, b9, b10, rfl, hl', hh', _⟩ hK2
    rw [Nat.zero_add] at hl' hK2
    have hx : ∃ dl, x = dlD dl ∧ DelOk es dl := by
      have := List.mem_of_getElem? hi
      simp only [List.mem_cons, List.not_mem_nil, or_false] at this
      rcases this with rfl | rfl | rfl | rfl
      · exact ⟨_, rfl, h1⟩
      · exact ⟨_, rfl, enL_ok o⟩
      · exact ⟨_, rfl, enL_ok o⟩
      · exact ⟨_, rfl, h2⟩
    have hi4 : i < 4 := (List.getElem?_eq_some_iff.mp hi).1
    obtain ⟨dl, rfl, od⟩ := hx
    show wpSs t Ex (rb1 ++ (rb2 ++ (rb3 ++ rb4))) (rE held' a2 es dl b6 b7 b9 b10) _
    exact rb_ok g64 g68 g61 g69 g202 g82 o od (by omega) hh' fun h'' c6 c7 c9 c10 hl2 hh2 h7 => hK2 _ ⟨h'', _, _, _, _, _, rfl, by omega, hh2, rfl, h7⟩
  · rintro en ⟨held', b5, b6, b7, b9, b10, rfl, hl', hh', h5, h7⟩
    exact hK held' _ _ _ _ _ (by simpa using hl') hh' h5 h7
theorem rbC_ok {t : Tb} (g61 : t.gd 1161 = g_days) (g82 : t.gd 1082 = g_usame 2) {Ex : ExV → DEnv → Prop} {held : List D} {a2 a3 a4 a5 a6 a7 a9 a10 : Slt} {Q : D → Prop} (hl : held.length ≤ 100) (hh : ∀ d ∈ held, HeldOk d) (h4 : isOwn (some a4) = false) (h5 : isOwn (some a5) = false) (h7 : isOwn (some a7) = false) (q : Q (.bl true)) : wpSs t Ex rbC (rF held a2 a3 a4 a5 a6 a7 a9 a10) (endK Q) := by
  simp -dsimp [rbC, endK, callW, g61, g82, g_days, g_usame, h4, h5, h7]
  refine compL_map1 (fun _ => .bl true) _ ?_ (by omega) ?_
  · intro x hx K hK
    obtain ⟨es, dl, f, rfl, o, od, hd⟩ := hh x hx
    simp -dsimp [trD_def, asgT, asgTs, isClo_fl, isClo_dl]
    refine ⟨es, dl, f, rfl, rfl, o, od, hd, ?_⟩
    simp -dsimp [isClo_day]
    exact ⟨rfl, isU_day o.l20, rfl, hK⟩
  · have e1 : held.map (fun _ => D.bl true) = (held.map fun _ => true).map D.bl := by rw [List.map_map]; rfl
    rw [e1, allSome_bl, wO_some]
    have e2 : (held.map fun _ => true).all id = true := by simp -dsimp
    rw [e2]
    exact q
theorem right_ok {t : Tb} (g1 : t.gd 1900 = g_take) (g80 : t.gd 1080 = g_uof) (g83 : t.gd 1083 = g_flow) (g65 : t.gd 1165 = g_ends) (g67 : t.gd 1167 = g_delays) (g64 : t.gd 1164 = g_ldays) (g68 : t.gd 1168 = g_longest) (g61 : t.gd 1161 = g_days) (g69 : t.gd 1169 = g_turned) (g202 : t.gd 1202 = g_Flow) (g82 : t.gd 1082 = g_usame 2) {Ex : ExV → DEnv → Prop} {Q : D → Prop} {E : ExV → Prop} (h : C_right [.well] Q E) : wpSs t Ex i__law_right [some (false, .well), none, none, none, none, none, none, none, none, none, none] (endK Q) := by
  have q : Q (.bl true) := h
  rw [right_split, wpSs_app2]
  simp -dsimp
  have e4 : iterW .range [.int 4] = some ((List.range 4).map fun (k : Nat) => .int (k : Int)) := range_nat (n := 4) (by omega)
  rw [e4, wO_some]
  refine forL_inv (fun i en => ∃ held a2 a3 a4 a5 a6 a7 a9 a10, en = rF held a2 a3 a4 a5 a6 a7 a9 a10 ∧ held.length ≤ 4 * i ∧ (∀ d ∈ held, HeldOk d) ∧ isOwn (some a4) = false ∧ isOwn (some a5) = false ∧ isOwn (some a7) = false) _ _ 0 ⟨[], _, _, _, _, _, _, _, _, rfl, by simp, by simp, rfl, rfl, rfl⟩ ?_ ?_
  · rintro i x en K2 hi ⟨held, a2, a3, a4, a5, a6, a7, a9, a10, rfl, hl, hh, _, h5, h7⟩ hK2
    rw [Nat.zero_add] at hl hK2
    have hi4 : i < 4 := by
      have := (List.getElem?_eq_some_iff.mp hi).1
      simpa using this
    show wpSs t Ex (rbA ++ rbB) (rF held (some (false, x)) a3 a4 a5 a6 a7 a9 a10) _
    rw [wpSs_app2]
    refine rbA_ok g1 g80 g83 g202 fun es o => ?_
    dsimp only
    unfold restW
    refine rbB_ok g65 g67 g64 g68 g61 g69 g202 g82 o (by omega) hh h5 h7 fun h' c5 c6 c7 c9 c10 hl2 hh2 h5 h7 => hK2 _ ⟨h', _, _, _, _, _, _, _, _, rfl, by omega, hh2, rfl, h5, h7⟩
  · rintro en ⟨held, a2, a3, a4, a5, a6, a7, a9, a10, rfl, hl, hh, h4, h5, h7⟩
    unfold restW
    simp -dsimp at hl
    exact rbC_ok g61 g82 (by omega) hh h4 h5 h7 q
end SD

set_option Elab.async false
set_option linter.all false
set_option maxRecDepth 100000
set_option maxHeartbeats 4000000
namespace SD
open PySem L2
def wl_is : List IS := [.set 2 (.op .add [.lit (.int 735173), .op .mul [.lit (.int 9013), .bor 1]]), .for_ (.nm 3) .it [.op (.sl false true) [.bor 0, .lit (.int 11)]] [.set 2 (.op .mod [.op .int_ [.op .add [.op .add [.op .mul [.bor 2, .lit (.int 50053)], .op .mul [.op .mod [.op .int_ [.bor 3], .lit (.int 2147483423)], .lit (.int 17)]], .lit (.int 29)]], .lit (.int 2147483563)])], .set 4 (.ite (.op .lt [.bor 1, .op .len [.bor 0]]) (.op .int_ [.op .idx [.bor 0, .bor 1]]) (.lit (.int 0))), .set 2 (.op .mod [.op .int_ [.op .add [.op .add [.op .mul [.bor 2, .lit (.int 61)], .op .mul [.op .mod [.op .int_ [.bor 4], .lit (.int 2147483423)], .lit (.int 30071)]], .lit (.int 7)]], .lit (.int 2147483563)])]
def wl_ir : IE := (.lst [.ite (.or [.op .lt [.bor 4, .lit (.int 0)], .op .ge [.bor 4, .op .pow [.lit (.int 10), .lit (.int 15)]]]) (.op .abs [.bor 4]) (.lit (.int 0)), .var 2, .lit (.int 0)])
def C_well0 : List D → (Int → Int → Int → Prop) → Prop
  | [.rl l, .int lap], Q => ∃ ns : List Int, l = ns.map D.int ∧ ns.length ≤ 63 ∧ 0 ≤ lap ∧ lap ≤ 100 ∧ ∀ a b : Int, 0 ≤ a → 0 ≤ b → b < 4294967296 → Q a b 0
  | [.lst l, .int lap], Q => ∃ ns : List Int, l = ns.map D.int ∧ ns.length ≤ 63 ∧ 0 ≤ lap ∧ lap ≤ 100 ∧ ∀ a b : Int, 0 ≤ a → 0 ≤ b → b < 4294967296 → Q a b 0
  | _, _ => False
theorem wpSr_nil {t : Tb} {Ex} {ir : IE} {env} {Q : D → Prop} : wpSr t Ex [] ir env Q = wpE t Ex ir env fun d _ => Q d := rfl
theorem wpSr_cons {t : Tb} {Ex} {i : IS} {is : List IS} {ir : IE} {env} {Q : D → Prop} : wpSr t Ex (i :: is) ir env Q = wpS t Ex i env { nx := fun env' => wpSr t Ex is ir env' Q, rt := fun _ _ => False, bk := fun _ => False, ct := fun _ => False } := rfl
theorem well_ok {t : Tb} {Ex} {ns : List Int} {lap : Int} {Q : D → Prop} (hl : ns.length ≤ 63) (h0 : 0 ≤ lap) (h1 : lap ≤ 100) (q : ∀ a b : Int, 0 ≤ a → 0 ≤ b → b < 4294967296 → Q (.lst [.int a, .int b, .int 0])) :
    wpSr t Ex wl_is wl_ir [some (false, .rl (ns.map D.int)), some (false, .int lap), none, none, none] Q := by
  have hcut : dCut (ns.map D.int) none (some 11) = (ns.take 11).map D.int := by
    have := dCut_take (ns.map D.int) 11
    rw [List.map_take]; exact this
  simp -dsimp [-List.map_take, wl_is, wl_ir, wpSr_nil, wpSr_cons, hcut]
  refine ⟨cmulL (by omega), ?_⟩
  refine forL_inv (fun i en => ∃ (st : Int) (a3 : Slt), en = [some (false, .rl (ns.map D.int)), some (false, .int lap), some (false, .int st), a3, none]) _ _ 0 ⟨_, _, rfl⟩ ?_ ?_
  · rintro i x en K hi ⟨st, a3, rfl⟩ hK
    obtain ⟨y, _, rfl⟩ := List.mem_map.mp (List.mem_of_getElem? hi)
    simp -dsimp [cmulR]
    exact hK _ ⟨_, _, rfl⟩
  · rintro en ⟨st, a3, rfl⟩
    have b0 : ∀ z : Int, 0 ≤ z % 2147483563 := fun z => Int.emod_nonneg _ (by decide)
    have b1 : ∀ z : Int, z % 2147483563 < 4294967296 := fun z => by
      have := Int.emod_lt_of_pos z (show (0 : Int) < 2147483563 by decide)
      omega
    have fin : ∀ own z : Int, if own < 0 then Q (.lst [.int (if own < 0 then -own else own), .int (z % 2147483563), .int 0]) else if 1000000000000000 ≤ own then Q (.lst [.int (if own < 0 then -own else own), .int (z % 2147483563), .int 0]) else Q (.lst [.int 0, .int (z % 2147483563), .int 0]) := fun own z => by
      by_cases h : own < 0
      · rw [if_pos h, if_pos h]; exact q _ _ (by omega) (b0 _) (b1 _)
      · rw [if_neg h]
        by_cases h2 : 1000000000000000 ≤ own
        · rw [if_pos h2, if_neg h]; exact q _ _ (by omega) (b0 _) (b1 _)
        · rw [if_neg h2]; exact q _ _ (by decide) (b0 _) (b1 _)
    simp -dsimp [-List.map_take, cmulR]
    have cp : CPow 10 15 := ⟨by decide, by decide, by decide⟩
    by_cases hlt : lap < (ns.length : Int)
    · rw [if_pos hlt]
      have e1 : atI (ns.map D.int) lap = some (.int ns[lap.toNat]) := by
        have hn : lap.toNat < ns.length := by omega
        have e : ixN (ns.map D.int).length lap = some lap.toNat := by
          unfold ixN
          simp -dsimp [h0, hlt]
        rw [atI, e]
        simp [List.getElem?_eq_getElem hn]
      rw [e1, wO_some]
      generalize ns[lap.toNat] = own
      simp -dsimp [cmulR]
      by_cases h : own < 0
      · simp -dsimp [h]
        exact q _ _ (by omega) (b0 _) (b1 _)
      · simp -dsimp [h, cp]
        by_cases h2 : 1000000000000000 ≤ own
        · simp -dsimp [h2]
          exact q _ _ (by omega) (b0 _) (b1 _)
        · simp -dsimp [h2]
          exact q _ _ (by decide) (b0 _) (b1 _)
    · rw [if_neg hlt]
      exact ⟨cp, q _ _ (by decide) (b0 _) (b1 _)⟩
theorem well_okL {t : Tb} {Ex} {ns : List Int} {lap : Int} {Q : D → Prop} (hl : ns.length ≤ 63) (h0 : 0 ≤ lap) (h1 : lap ≤ 100) (q : ∀ a b : Int, 0 ≤ a → 0 ≤ b → b < 4294967296 → Q (.lst [.int a, .int b, .int 0])) :
    wpSr t Ex wl_is wl_ir [some (false, .lst (ns.map D.int)), some (false, .int lap), none, none, none] Q := by
  have hcut : dCut (ns.map D.int) none (some 11) = (ns.take 11).map D.int := by
    have := dCut_take (ns.map D.int) 11
    rw [List.map_take]; exact this
  simp -dsimp [-List.map_take, wl_is, wl_ir, wpSr_nil, wpSr_cons, hcut]
  refine ⟨cmulL (by omega), ?_⟩
  refine forL_inv (fun i en => ∃ (st : Int) (a3 : Slt), en = [some (false, .lst (ns.map D.int)), some (false, .int lap), some (false, .int st), a3, none]) _ _ 0 ⟨_, _, rfl⟩ ?_ ?_
  · rintro i x en K hi ⟨st, a3, rfl⟩ hK
    obtain ⟨y, _, rfl⟩ := List.mem_map.mp (List.mem_of_getElem? hi)
    simp -dsimp [cmulR]
    exact hK _ ⟨_, _, rfl⟩
  · rintro en ⟨st, a3, rfl⟩
    have b0 : ∀ z : Int, 0 ≤ z % 2147483563 := fun z => Int.emod_nonneg _ (by decide)
    have b1 : ∀ z : Int, z % 2147483563 < 4294967296 := fun z => by
      have := Int.emod_lt_of_pos z (show (0 : Int) < 2147483563 by decide)
      omega
    have fin : ∀ own z : Int, if own < 0 then Q (.lst [.int (if own < 0 then -own else own), .int (z % 2147483563), .int 0]) else if 1000000000000000 ≤ own then Q (.lst [.int (if own < 0 then -own else own), .int (z % 2147483563), .int 0]) else Q (.lst [.int 0, .int (z % 2147483563), .int 0]) := fun own z => by
      by_cases h : own < 0
      · rw [if_pos h, if_pos h]; exact q _ _ (by omega) (b0 _) (b1 _)
      · rw [if_neg h]
        by_cases h2 : 1000000000000000 ≤ own
        · rw [if_pos h2, if_neg h]; exact q _ _ (by omega) (b0 _) (b1 _)
        · rw [if_neg h2]; exact q _ _ (by decide) (b0 _) (b1 _)
    simp -dsimp [-List.map_take, cmulR]
    have cp : CPow 10 15 := ⟨by decide, by decide, by decide⟩
    by_cases hlt : lap < (ns.length : Int)
    · rw [if_pos hlt]
      have e1 : atI (ns.map D.int) lap = some (.int ns[lap.toNat]) := by
        have hn : lap.toNat < ns.length := by omega
        have e : ixN (ns.map D.int).length lap = some lap.toNat := by
          unfold ixN
          simp -dsimp [h0, hlt]
        rw [atI, e]
        simp [List.getElem?_eq_getElem hn]
      rw [e1, wO_some]
      generalize ns[lap.toNat] = own
      simp -dsimp [cmulR]
      by_cases h : own < 0
      · simp -dsimp [h]
        exact q _ _ (by omega) (b0 _) (b1 _)
      · simp -dsimp [h, cp]
        by_cases h2 : 1000000000000000 ≤ own
        · simp -dsimp [h2]
          exact q _ _ (by omega) (b0 _) (b1 _)
        · simp -dsimp [h2]
          exact q _ _ (by decide) (b0 _) (b1 _)
    · rw [if_neg hlt]
      exact ⟨cp, q _ _ (by decide) (b0 _) (b1 _)⟩
def C_law : Contract
  | [.rl l], Q, _ => ∃ ns : List Int, l = ns.map D.int ∧ ns.length ≤ 63 ∧ Q (.bl true)
  | [.lst l], Q, _ => ∃ ns : List Int, l = ns.map D.int ∧ ns.length ≤ 63 ∧ Q (.bl true)
  | _, _, _ => False
theorem lawC_ok {t : Tb} (hk : (t.gd 1999).C = CComp C_well0 C_right) (hps : (t.gd 1999).ps.length = 2) {ns : List Int} {Q : D → Prop} (hl : ns.length ≤ 63) (q : Q (.bl true)) :
    wpSs t noEx [.ret (.op .all_ [.comp [1] (.nm 1) .range [.op .max2 [.lit (.int 1), .op .min2 [.op .len [.bor 0], .lit (.int 3)]]] [] (.call 1999 [.var 0, .var 1])])] [some (false, .rl (ns.map D.int)), none] (endK Q) := by
  simp -dsimp [endK]
  have hr : ∃ k : Nat, k ≤ 3 ∧ (if 1 < if 3 < (ns.length : Int) then 3 else (ns.length : Int) then if 3 < (ns.length : Int) then 3 else (ns.length : Int) else 1) = (k : Int) := by
    refine ⟨(if 1 < if 3 < (ns.length : Int) then 3 else (ns.length : Int) then if 3 < (ns.length : Int) then 3 else (ns.length : Int) else (1 : Int)).toNat, ?_, ?_⟩ <;> (split <;> split <;> omega)
  obtain ⟨k, hk4, hr⟩ := hr
  rw [hr, range_nat (by omega), wO_some]
  refine compL_map1 (fun _ => .bl true) _ ?_ ?_ ?_
  · intro x hx K hK
    obtain ⟨j, hj, rfl⟩ := List.mem_map.mp hx
    have hjk := List.mem_range.mp hj
    simp -dsimp [callW, hk, hps]
    exact ⟨fun a b c => WOk a b c, ⟨ns, rfl, hl, by omega, by omega, fun a b h1 h2 h3 => ⟨h1, h2, h3, by decide⟩⟩, fun a b c w => ⟨w, rfl, rfl, hK⟩⟩
  · simp -dsimp; omega
  · have e1 : ((List.range k).map fun (j : Nat) => (D.int (j : Int))).map (fun _ => D.bl true) = ((List.range k).map fun _ => true).map D.bl := by rw [List.map_map, List.map_map]; rfl
    rw [e1, allSome_bl, wO_some]
    have e2 : ((List.range k).map fun _ => true).all id = true := by simp -dsimp
    rw [e2]
    exact q
theorem lawC_okL {t : Tb} (hk : (t.gd 1999).C = CComp C_well0 C_right) (hps : (t.gd 1999).ps.length = 2) {ns : List Int} {Q : D → Prop} (hl : ns.length ≤ 63) (q : Q (.bl true)) :
    wpSs t noEx [.ret (.op .all_ [.comp [1] (.nm 1) .range [.op .max2 [.lit (.int 1), .op .min2 [.op .len [.bor 0], .lit (.int 3)]]] [] (.call 1999 [.var 0, .var 1])])] [some (false, .lst (ns.map D.int)), none] (endK Q) := by
  simp -dsimp [endK]
  have hr : ∃ k : Nat, k ≤ 3 ∧ (if 1 < if 3 < (ns.length : Int) then 3 else (ns.length : Int) then if 3 < (ns.length : Int) then 3 else (ns.length : Int) else 1) = (k : Int) := by
    refine ⟨(if 1 < if 3 < (ns.length : Int) then 3 else (ns.length : Int) then if 3 < (ns.length : Int) then 3 else (ns.length : Int) else (1 : Int)).toNat, ?_, ?_⟩ <;> (split <;> split <;> omega)
  obtain ⟨k, hk4, hr⟩ := hr
  rw [hr, range_nat (by omega), wO_some]
  refine compL_map1 (fun _ => .bl true) _ ?_ ?_ ?_
  · intro x hx K hK
    obtain ⟨j, hj, rfl⟩ := List.mem_map.mp hx
    have hjk := List.mem_range.mp hj
    simp -dsimp [callW, hk, hps]
    exact ⟨fun a b c => WOk a b c, ⟨ns, rfl, hl, by omega, by omega, fun a b h1 h2 h3 => ⟨h1, h2, h3, by decide⟩⟩, fun a b c w => ⟨w, rfl, rfl, hK⟩⟩
  · simp -dsimp; omega
  · have e1 : ((List.range k).map fun (j : Nat) => (D.int (j : Int))).map (fun _ => D.bl true) = ((List.range k).map fun _ => true).map D.bl := by rw [List.map_map, List.map_map]; rfl
    rw [e1, allSome_bl, wO_some]
    have e2 : ((List.range k).map fun _ => true).all id = true := by simp -dsimp
    rw [e2]
    exact q
end SD

set_option Elab.async false
set_option linter.all false
set_option maxRecDepth 100000
set_option maxHeartbeats 4000000
namespace SD
open PySem PySem.Spec PyProof.Rows L2
def s_clo (l : List Stmt) (k : Nat) : Stmt := l.getD k (.Pass ⟨0, 0, 0, 0⟩)
def lamE : Stmt → Expr
  | .For _ (.Call _ es _ _) _ _ _ => es.getLast?.getD (.Constant .none 0 ⟨0, 0, 0, 0⟩)
  | _ => .Constant .none 0 ⟨0, 0, 0, 0⟩
def lamA : Expr → Arguments
  | .Lambda p _ _ _ => p
  | _ => defArgs (.Pass ⟨0, 0, 0, 0⟩)
def lamB : Expr → Expr
  | .Lambda _ b _ _ => b
  | e => e
def lamS : Expr → Scope
  | .Lambda _ _ s _ => s
  | _ => defScope (.Pass ⟨0, 0, 0, 0⟩)
def ctL52 : Nat → CT := fun n => if n = 5 then ⟨"is_right", ("are_causes" ++ ".<locals>.") ++ "is_right", defArgs (s_clo (defBody s_are_causes) 0), .stmts (defBody (s_clo (defBody s_are_causes) 0)), defScope (s_clo (defBody s_are_causes) 0)⟩ else if n = 6 then ⟨"is_right", ("check_events" ++ ".<locals>.") ++ "is_right", defArgs (s_clo (defBody s_check_events) 0), .stmts (defBody (s_clo (defBody s_check_events) 0)), defScope (s_clo (defBody s_check_events) 0)⟩ else ⟨"", "", defArgs (.Pass ⟨0, 0, 0, 0⟩), .stmts [], defScope (.Pass ⟨0, 0, 0, 0⟩)⟩
def cfrL52 : Nat → List Str := fun n => if n = 5 then cd5.fr else if n = 6 then cd6.fr else []
def nmL52 : Nat → Nat → Str := fun l c => if l = 63 ∧ c = 4 then (ctL52 5).qual else if l = 72 ∧ c = 4 then (ctL52 6).qual else ""
def cfL52a : CF := fun f ds Q E => (∃ ws, f = .clo 5 ws ∧ C_c5 (ds ++ ws) Q E)
def cfL52b : CF := fun f ds Q E => (∃ ws, f = .clo 6 ws ∧ C_c6 (ds ++ ws) Q E)
def g_pairL52 : GD := { name := "", ps := ["script", "lap"], lvl := 36, C := CComp C_well0 C_right }
def conLL52 : List (Nat × Str × D) := [(300, Str.ofString "SMALL_LETTERS", .str letters), (301, Str.ofString "MOST_IN_NAME", .int (8)), (302, Str.ofString "WORDS", .ktup (wordsL.map .str)), (319, Str.ofString "MOST_DELAY", .int (30)), (320, Str.ofString "FEWEST_EVENTS", .int (2)), (321, Str.ofString "MOST_EVENTS", .int (20)), (322, Str.ofString "MOST_CAUSES", .int (6))]
def gdLL52 : List (Nat × GD) := [(100, g_is_whole), (102, g_is_tuple_of), (107, g_is_letters), (109, g_is_one_of), (1900, g_take), (4082, (g_usame 0)), (1164, g_ldays), (1165, g_ends), (1166, g_ways), (101, g_is_number), (108, g_is_name), (1080, g_uof), (3082, (g_usame 1)), (1168, g_longest), (1074, g_is_cause), (1159, g_is_row), (1158, g_check_flow), (1157, g_days_by), (1081, g_unames), (1082, (g_usame 2)), (1167, g_delays), (1169, g_turned), (1160, g_are_delays), (1083, g_flow), (1161, g_days), (105, (g_wrong_at cfL52a)), (1075, g_are_causes), (1076, g_is_event), (2105, (g_wrong_at2 cfL52b)), (1077, g_check_events), (1202, g_Flow), (1203, g_events)]
def tbL52 (known kc : List Nat) (cl : Nat) (own : Nat → Bool) : Tb := { con := fun k => ((conLL52.lookup k).getD (Str.empty, .non)).2, cnm := fun k => ((conLL52.lookup k).getD (Str.empty, .non)).1, gd := fun n => (gdLL52.lookup n).getD g_pairL52, hc := fun k => (conLL52.map (·.1)).contains k, hs := fun n => known.contains n, cc := fun c => if c = 5 then cd5 else cd6, hcc := fun n => kc.contains n, own := own, hp := fun c n => match cl with | 2 => ([(1, 1203)] : List (Nat × Nat)).contains (c, n) | _ => false, hl := fun c => match cl with | 0 => false | _ => c == 1, cln := fun c => if c = 1 then "Flow" else Str.empty, fl := fun c => if c = 1 then ["told"] else [] }
theorem HasG.up2 {G : Wd} {j k n : Nat} {g : GD} (h : HasG G j g n) (l : j ≤ k) : HasG G k g n := ⟨h.ex, Nat.le_trans h.lvl l⟩
theorem has_nil {G : Wd} {k : Nat} {g : Nat → GD} : ∀ n ∈ ([] : List Nat), HasG G k (g n) n := fun n h => by cases h
theorem has_cons {G : Wd} {k a : Nat} {l : List Nat} {g : Nat → GD} (h : HasG G k (g a) a) (h2 : ∀ n ∈ l, HasG G k (g n) n) : ∀ n ∈ a :: l, HasG G k (g n) n := fun n hn => (List.mem_cons.mp hn).elim (fun e => by rw [e]; exact h) (h2 n)
theorem hac_nil {G : Wd} {k : Nat} {g : Nat → CD} : ∀ n ∈ ([] : List Nat), HasC G k (g n) n := fun n h => by cases h
theorem hac_cons {G : Wd} {k a : Nat} {l : List Nat} {g : Nat → CD} (h : HasC G k (g a) a) (h2 : ∀ n ∈ l, HasC G k (g n) n) : ∀ n ∈ a :: l, HasC G k (g n) n := fun n hn => (List.mem_cons.mp hn).elim (fun e => by rw [e]; exact h) (h2 n)
theorem ok_cfL52a {known kc : List Nat} {cl : Nat} {own : Nat → Bool} (hk : kc.contains 5 = true) : CfOk (tbL52 known kc cl own) cfL52a := fun f ds Q E h => by
  rcases h with ⟨ws, rfl, h⟩
  · exact ⟨hk, .inr ⟨5, ws, rfl, rfl, h⟩⟩
theorem ok_cfL52b {known kc : List Nat} {cl : Nat} {own : Nat → Bool} (hk : kc.contains 6 = true) : CfOk (tbL52 known kc cl own) cfL52b := fun f ds Q E h => by
  rcases h with ⟨ws, rfl, h⟩
  · exact ⟨hk, .inr ⟨6, ws, rfl, rfl, h⟩⟩
def knL52_1 : List Nat := []
def kcL52_1 : List Nat := []
def knL52_2 : List Nat := [100, 102, 107, 109, 1900, 4082, 1164, 1165, 1166]
def kcL52_2 : List Nat := []
def knL52_3 : List Nat := [100, 102, 107, 109, 1900, 4082, 1164, 1165, 1166, 101, 108, 1080, 3082, 1168]
def kcL52_3 : List Nat := []
def knL52_4 : List Nat := [100, 102, 107, 109, 1900, 4082, 1164, 1165, 1166, 101, 108, 1080, 3082, 1168, 1074, 1159, 1158, 1157, 1081, 1082, 1167, 1169]
def kcL52_4 : List Nat := []
def knL52_5 : List Nat := [100, 102, 107, 109, 1900, 4082, 1164, 1165, 1166, 101, 108, 1080, 3082, 1168, 1074, 1159, 1158, 1157, 1081, 1082, 1167, 1169, 1160, 1083]
def kcL52_5 : List Nat := [5]
def knL52_20 : List Nat := [100, 102, 107, 109, 1900, 4082, 1164, 1165, 1166, 101, 108, 1080, 3082, 1168, 1074, 1159, 1158, 1157, 1081, 1082, 1167, 1169, 1160, 1083, 1161]
def kcL52_20 : List Nat := [5]
def knL52_21 : List Nat := [100, 102, 107, 109, 1900, 4082, 1164, 1165, 1166, 101, 108, 1080, 3082, 1168, 1074, 1159, 1158, 1157, 1081, 1082, 1167, 1169, 1160, 1083, 1161, 105]
def kcL52_21 : List Nat := [5]
def knL52_22 : List Nat := [100, 102, 107, 109, 1900, 4082, 1164, 1165, 1166, 101, 108, 1080, 3082, 1168, 1074, 1159, 1158, 1157, 1081, 1082, 1167, 1169, 1160, 1083, 1161, 105, 1075]
def kcL52_22 : List Nat := [5]
def knL52_23 : List Nat := [100, 102, 107, 109, 1900, 4082, 1164, 1165, 1166, 101, 108, 1080, 3082, 1168, 1074, 1159, 1158, 1157, 1081, 1082, 1167, 1169, 1160, 1083, 1161, 105, 1075, 1076]
def kcL52_23 : List Nat := [5]
def knL52_25 : List Nat := [100, 102, 107, 109, 1900, 4082, 1164, 1165, 1166, 101, 108, 1080, 3082, 1168, 1074, 1159, 1158, 1157, 1081, 1082, 1167, 1169, 1160, 1083, 1161, 105, 1075, 1076]
def kcL52_25 : List Nat := [5, 6]
def knL52_26 : List Nat := [100, 102, 107, 109, 1900, 4082, 1164, 1165, 1166, 101, 108, 1080, 3082, 1168, 1074, 1159, 1158, 1157, 1081, 1082, 1167, 1169, 1160, 1083, 1161, 105, 1075, 1076, 2105]
def kcL52_26 : List Nat := [5, 6]
def knL52_29 : List Nat := [100, 102, 107, 109, 1900, 4082, 1164, 1165, 1166, 101, 108, 1080, 3082, 1168, 1074, 1159, 1158, 1157, 1081, 1082, 1167, 1169, 1160, 1083, 1161, 105, 1075, 1076, 2105, 1077]
def kcL52_29 : List Nat := [5, 6]
def knL52_35 : List Nat := [100, 102, 107, 109, 1900, 4082, 1164, 1165, 1166, 101, 108, 1080, 3082, 1168, 1074, 1159, 1158, 1157, 1081, 1082, 1167, 1169, 1160, 1083, 1161, 105, 1075, 1076, 2105, 1077, 1202]
def kcL52_35 : List Nat := [5, 6]
theorem sc_is_whole : C8.scC n_is_whole g_is_whole.ps (defScope s_is_whole) = true := by decide +kernel
theorem ck_100 : chkSs (tbL52 knL52_1 kcL52_1 0 (fun _ => false)) n_is_whole i_is_whole (defScope s_is_whole) (fun _ => true) (defBody s_is_whole) = true := by decide +kernel
theorem sc_is_tuple_of : C8.scC n_is_tuple_of g_is_tuple_of.ps (defScope s_is_tuple_of) = true := by decide +kernel
theorem ck_102 : chkSs (tbL52 knL52_1 kcL52_1 0 (fun _ => false)) n_is_tuple_of i_is_tuple_of (defScope s_is_tuple_of) (fun _ => true) (defBody s_is_tuple_of) = true := by decide +kernel
theorem sc_is_letters : C8.scC n_is_letters g_is_letters.ps (defScope s_is_letters) = true := by decide +kernel
theorem ck_107 : chkSs (tbL52 knL52_1 kcL52_1 0 (fun _ => false)) n_is_letters i_is_letters (defScope s_is_letters) (fun _ => true) (defBody s_is_letters) = true := by decide +kernel
theorem sc_is_one_of : C8.scC n_is_one_of g_is_one_of.ps (defScope s_is_one_of) = true := by decide +kernel
theorem ck_109 : chkSs (tbL52 knL52_1 kcL52_1 0 (fun _ => false)) n_is_one_of i_is_one_of (defScope s_is_one_of) (fun _ => true) (defBody s_is_one_of) = true := by decide +kernel
theorem sc__law_take : C8.scC n__law_take g_take.ps (defScope s__law_take) = true := by decide +kernel
theorem ck_1900 : chkSs (tbL52 knL52_1 kcL52_1 0 (fun _ => false)) n__law_take (i_take 40087) (defScope s__law_take) (fun _ => true) (defBody s__law_take) = true := by decide +kernel
theorem sc__law_same : C8.scC n__law_same (g_usame 0).ps (defScope s__law_same) = true := by decide +kernel
theorem ck_4082 : chkSs (tbL52 knL52_1 kcL52_1 0 (fun _ => false)) n__law_same (i__law_same fun _ => .bot) (defScope s__law_same) (fun _ => true) (defBody s__law_same) = true := by decide +kernel
theorem sc__law_days : C8.scC n__law_days g_ldays.ps (defScope s__law_days) = true := by decide +kernel
theorem ck_1164 : chkSs (tbL52 knL52_1 kcL52_1 0 (fun _ => false)) n__law_days i__law_days (defScope s__law_days) (fun _ => true) (defBody s__law_days) = true := by decide +kernel
theorem sc__law_ends : C8.scC n__law_ends g_ends.ps (defScope s__law_ends) = true := by decide +kernel
theorem ck_1165 : chkSs (tbL52 knL52_1 kcL52_1 0 (fun _ => false)) n__law_ends i__law_ends (defScope s__law_ends) (fun _ => true) (defBody s__law_ends) = true := by decide +kernel
theorem sc__law_ways : C8.scC n__law_ways g_ways.ps (defScope s__law_ways) = true := by decide +kernel
theorem ck_1166 : chkSs (tbL52 knL52_1 kcL52_1 0 (fun _ => false)) n__law_ways i__law_ways (defScope s__law_ways) (fun _ => true) (defBody s__law_ways) = true := by decide +kernel
theorem sc_is_number : C8.scC n_is_number g_is_number.ps (defScope s_is_number) = true := by decide +kernel
theorem ck_101 : chkSs (tbL52 knL52_2 kcL52_2 0 (fun _ => false)) n_is_number i_is_number (defScope s_is_number) (fun _ => true) (defBody s_is_number) = true := by decide +kernel
theorem sc_is_name : C8.scC n_is_name g_is_name.ps (defScope s_is_name) = true := by decide +kernel
theorem ck_108 : chkSs (tbL52 knL52_2 kcL52_2 0 (fun _ => false)) n_is_name i_is_name (defScope s_is_name) (fun _ => true) (defBody s_is_name) = true := by decide +kernel
theorem sc__law_of : C8.scC n__law_of g_uof.ps (defScope s__law_of) = true := by decide +kernel
theorem ck_1080 : chkSs (tbL52 knL52_2 kcL52_2 0 (fun _ => false)) n__law_of i__law_of (defScope s__law_of) (fun _ => true) (defBody s__law_of) = true := by decide +kernel
theorem ck_3082 : chkSs (tbL52 knL52_2 kcL52_2 0 (fun _ => false)) n__law_same (i__law_same fun l => .call 4082 l) (defScope s__law_same) (fun _ => true) (defBody s__law_same) = true := by decide +kernel
theorem sc__law_longest : C8.scC n__law_longest g_longest.ps (defScope s__law_longest) = true := by decide +kernel
theorem ck_1168 : chkSs (tbL52 knL52_2 kcL52_2 0 (fun _ => false)) n__law_longest i__law_longest (defScope s__law_longest) (fun _ => true) (defBody s__law_longest) = true := by decide +kernel
theorem sc_is_cause : C8.scC n_is_cause g_is_cause.ps (defScope s_is_cause) = true := by decide +kernel
theorem ck_1074 : chkSs (tbL52 knL52_3 kcL52_3 2 (fun _ => false)) n_is_cause i_is_cause (defScope s_is_cause) (fun _ => true) (defBody s_is_cause) = true := by decide +kernel
theorem sc_is_row : C8.scC n_is_row g_is_row.ps (defScope s_is_row) = true := by decide +kernel
theorem ck_1159 : chkSs (tbL52 knL52_3 kcL52_3 2 (fun _ => false)) n_is_row i_is_row (defScope s_is_row) (fun _ => true) (defBody s_is_row) = true := by decide +kernel
theorem sc_check_flow : C8.scC n_check_flow g_check_flow.ps (defScope s_check_flow) = true := by decide +kernel
theorem ck_1158 : chkSs (tbL52 knL52_3 kcL52_3 2 (fun _ => false)) n_check_flow i_check_flow (defScope s_check_flow) (fun _ => true) (defBody s_check_flow) = true := by decide +kernel
theorem sc_days_by : C8.scC n_days_by g_days_by.ps (defScope s_days_by) = true := by decide +kernel
theorem ck_1157 : chkSs (tbL52 knL52_3 kcL52_3 2 (fun _ => false)) n_days_by i_days_by (defScope s_days_by) (fun _ => true) (defBody s_days_by) = true := by decide +kernel
theorem sc__law_names : C8.scC n__law_names g_unames.ps (defScope s__law_names) = true := by decide +kernel
theorem ck_1081 : chkSs (tbL52 knL52_3 kcL52_3 2 (fun _ => false)) n__law_names i__law_names (defScope s__law_names) (fun _ => true) (defBody s__law_names) = true := by decide +kernel
theorem ck_1082 : chkSs (tbL52 knL52_3 kcL52_3 2 (fun _ => false)) n__law_same (i__law_same fun l => .call 3082 l) (defScope s__law_same) (fun _ => true) (defBody s__law_same) = true := by decide +kernel
theorem sc__law_delays : C8.scC n__law_delays g_delays.ps (defScope s__law_delays) = true := by decide +kernel
theorem ck_1167 : chkSs (tbL52 knL52_3 kcL52_3 2 (fun _ => false)) n__law_delays i__law_delays (defScope s__law_delays) (fun _ => true) (defBody s__law_delays) = true := by decide +kernel
theorem sc__law_turned : C8.scC n__law_turned g_turned.ps (defScope s__law_turned) = true := by decide +kernel
theorem ck_1169 : chkSs (tbL52 knL52_3 kcL52_3 2 (fun _ => false)) n__law_turned i__law_turned (defScope s__law_turned) (fun _ => true) (defBody s__law_turned) = true := by decide +kernel
theorem sc_are_delays : C8.scC n_are_delays g_are_delays.ps (defScope s_are_delays) = true := by decide +kernel
theorem ck_1160 : chkSs (tbL52 knL52_4 kcL52_4 2 (fun _ => false)) n_are_delays i_are_delays (defScope s_are_delays) (fun _ => true) (defBody s_are_delays) = true := by decide +kernel
theorem sc__law_flow : C8.scC n__law_flow g_flow.ps (defScope s__law_flow) = true := by decide +kernel
theorem ck_1083 : chkSs (tbL52 knL52_4 kcL52_4 2 (fun _ => false)) n__law_flow i__law_flow (defScope s__law_flow) (fun _ => true) (defBody s__law_flow) = true := by decide +kernel
theorem sc_days : C8.scC n_days g_days.ps (defScope s_days) = true := by decide +kernel
theorem ck_1161 : chkSs (tbL52 knL52_5 kcL52_5 2 (fun _ => false)) n_days i_days (defScope s_days) (fun _ => true) (defBody s_days) = true := by decide +kernel
theorem sc_wrong_at : C8.scC n_wrong_at (g_wrong_at cfL52a).ps (defScope s_wrong_at) = true := by decide +kernel
theorem ck_105 : chkSs (tbL52 knL52_20 kcL52_20 2 (fun _ => false)) n_wrong_at i_wrong_at (defScope s_wrong_at) (fun _ => true) (defBody s_wrong_at) = true := by decide +kernel
theorem sc_are_causes : C8.scC n_are_causes g_are_causes.ps (defScope s_are_causes) = true := by decide +kernel
theorem ck_1075 : chkSs (tbL52 knL52_21 kcL52_21 2 (fun c => c == 5)) n_are_causes i_are_causes (defScope s_are_causes) (fun _ => true) (defBody s_are_causes) = true := by decide +kernel
theorem sc_is_event : C8.scC n_is_event g_is_event.ps (defScope s_is_event) = true := by decide +kernel
theorem ck_1076 : chkSs (tbL52 knL52_22 kcL52_22 2 (fun _ => false)) n_is_event i_is_event (defScope s_is_event) (fun _ => true) (defBody s_is_event) = true := by decide +kernel
theorem ck_2105 : chkSs (tbL52 knL52_25 kcL52_25 2 (fun _ => false)) n_wrong_at i_wrong_at (defScope s_wrong_at) (fun _ => true) (defBody s_wrong_at) = true := by decide +kernel
theorem sc_check_events : C8.scC n_check_events g_check_events.ps (defScope s_check_events) = true := by decide +kernel
theorem ck_1077 : chkSs (tbL52 knL52_26 kcL52_26 2 (fun c => c == 6)) n_check_events i_check_events (defScope s_check_events) (fun _ => true) (defBody s_check_events) = true := by decide +kernel
theorem nd_5 : NdefX.ndefB (defScope s_are_causes) (ctL52 5).scope cd5.fr = true := by decide +kernel
theorem ns_5 : NdefX.nscB n_c5_are_causes cd5.ps cd5.fr (ctL52 5).scope = true := by decide +kernel
theorem ckc_5 : chkSs (tbL52 knL52_4 kcL52_4 2 (fun _ => false)) n_c5_are_causes i_c5_are_causes (ctL52 5).scope (fun _ => false) (defBody (s_clo (defBody s_are_causes) 0)) = true := by decide +kernel
theorem hcc_5 : ∀ ds Qd Ed, C_c5 ds Qd Ed → ds.length = cd5.ps.length + cd5.fr.length → wpSs (tbL52 knL52_4 kcL52_4 2 (fun _ => false)) (fun x _ => Ed x) i_c5_are_causes (env0 n_c5_are_causes ds) (endK Qd) := by
  intro ds Qd Ed h hl
  unfold C_c5 at h
  split at h <;> first | exact h.elim | skip
  all_goals (exact c5_ok rfl (E := Ed) h)
theorem nd_6 : NdefX.ndefB (defScope s_check_events) (ctL52 6).scope cd6.fr = true := by decide +kernel
theorem ns_6 : NdefX.nscB n_c6_check_events cd6.ps cd6.fr (ctL52 6).scope = true := by decide +kernel
theorem ckc_6 : chkSs (tbL52 knL52_23 kcL52_23 2 (fun _ => false)) n_c6_check_events i_c6_check_events (ctL52 6).scope (fun _ => false) (defBody (s_clo (defBody s_check_events) 0)) = true := by decide +kernel
theorem hcc_6 : ∀ ds Qd Ed, C_c6 ds Qd Ed → ds.length = cd6.ps.length + cd6.fr.length → wpSs (tbL52 knL52_23 kcL52_23 2 (fun _ => false)) (fun x _ => Ed x) i_c6_check_events (env0 n_c6_check_events ds) (endK Qd) := by
  intro ds Qd Ed h hl
  unfold C_c6 at h
  split at h <;> first | exact h.elim | skip
  all_goals (exact c6_ok rfl (E := Ed) h)
theorem sc_right : C8.scC n__law_right ["urn"] (defScope s__law_right) = true := by decide +kernel
theorem ck_right : chkSs (tbL52 knL52_35 kcL52_35 2 (fun _ => false)) n__law_right i__law_right (defScope s__law_right) (fun _ => true) (defBody s__law_right) = true := by decide +kernel
theorem sc_well : C8.scC n__law_urn ["script", "lap"] (defScope s__law_urn) = true := by decide +kernel
theorem ck_well : chkSr (tbL52 [] [] 0 fun _ => false) n__law_urn wl_is wl_ir (defScope s__law_urn) (fun _ => true) (defBody s__law_urn) = true := by decide +kernel
theorem sc_law : C8.scC n_law ["script"] (defScope s_law) = true := by decide +kernel
theorem ck_law : chkLaw (tbL52 [] [] 0 fun _ => false) n_law 1999 [1] (.nm 1) .range [.op .max2 [.lit (.int 1), .op .min2 [.op .len [.bor 0], .lit (.int 3)]]] "_law_right" "_law_urn" (defScope s_law) (defBody s_law) = true := by decide +kernel
theorem hc_100 : ∀ ds Qd Ed, g_is_whole.C ds Qd Ed → ds.length = g_is_whole.ps.length → wpSs (tbL52 knL52_1 kcL52_1 0 (fun _ => false)) (fun x _ => Ed x) i_is_whole (env0 n_is_whole ds) (endK Qd) := by
  intro ds Qd Ed h hl
  change C_is_whole ds Qd Ed at h
  unfold C_is_whole at h
  split at h <;> first | exact h.elim | skip
  all_goals (exact is_whole_ok (Ex := Ed) h)
theorem hc_102 : ∀ ds Qd Ed, g_is_tuple_of.C ds Qd Ed → ds.length = g_is_tuple_of.ps.length → wpSs (tbL52 knL52_1 kcL52_1 0 (fun _ => false)) (fun x _ => Ed x) i_is_tuple_of (env0 n_is_tuple_of ds) (endK Qd) := by
  intro ds Qd Ed h hl
  change C_is_tuple_of ds Qd Ed at h
  unfold C_is_tuple_of at h
  split at h <;> first | exact h.elim | skip
  all_goals (exact is_tuple_of_ok (Ex := Ed) h)
theorem hc_107 : ∀ ds Qd Ed, g_is_letters.C ds Qd Ed → ds.length = g_is_letters.ps.length → wpSs (tbL52 knL52_1 kcL52_1 0 (fun _ => false)) (fun x _ => Ed x) i_is_letters (env0 n_is_letters ds) (endK Qd) := by
  intro ds Qd Ed h hl
  change C_is_letters ds Qd Ed at h
  unfold C_is_letters at h
  split at h <;> first | exact h.elim | skip
  all_goals (exact is_letters_ok rfl (Ex := Ed) h)
theorem hc_109 : ∀ ds Qd Ed, g_is_one_of.C ds Qd Ed → ds.length = g_is_one_of.ps.length → wpSs (tbL52 knL52_1 kcL52_1 0 (fun _ => false)) (fun x _ => Ed x) i_is_one_of (env0 n_is_one_of ds) (endK Qd) := by
  intro ds Qd Ed h hl
  change C_is_one_of ds Qd Ed at h
  unfold C_is_one_of at h
  split at h <;> first | exact h.elim | skip
  all_goals (exact is_one_of_ok (Ex := Ed) h)
theorem hc_1900 : ∀ ds Qd Ed, g_take.C ds Qd Ed → ds.length = g_take.ps.length → wpSs (tbL52 knL52_1 kcL52_1 0 (fun _ => false)) (fun x _ => Ed x) (i_take 40087) (env0 n__law_take ds) (endK Qd) := by
  intro ds Qd Ed h hl
  change C_draw ds Qd Ed at h
  unfold C_draw at h
  split at h <;> first | exact h.elim | skip
  all_goals (exact take_ok (by decide) h.1 h.2.1 h.2.2)
theorem hc_4082 : ∀ ds Qd Ed, (g_usame 0).C ds Qd Ed → ds.length = (g_usame 0).ps.length → wpSs (tbL52 knL52_1 kcL52_1 0 (fun _ => false)) (fun x _ => Ed x) (i__law_same fun _ => .bot) (env0 n__law_same ds) (endK Qd) := by
  intro ds Qd Ed h hl
  change C_usame 0 ds Qd Ed at h
  unfold C_usame at h
  split at h <;> first | exact h.elim | skip
  all_goals (exact usame_ok0 (E := Ed) h)
theorem hc_1164 : ∀ ds Qd Ed, g_ldays.C ds Qd Ed → ds.length = g_ldays.ps.length → wpSs (tbL52 knL52_1 kcL52_1 0 (fun _ => false)) (fun x _ => Ed x) i__law_days (env0 n__law_days ds) (endK Qd) := by
  intro ds Qd Ed h hl
  change C_ldays ds Qd Ed at h
  unfold C_ldays at h
  split at h <;> first | exact h.elim | skip
  all_goals (exact ldays_ok (E := Ed) h)
theorem hc_1165 : ∀ ds Qd Ed, g_ends.C ds Qd Ed → ds.length = g_ends.ps.length → wpSs (tbL52 knL52_1 kcL52_1 0 (fun _ => false)) (fun x _ => Ed x) i__law_ends (env0 n__law_ends ds) (endK Qd) := by
  intro ds Qd Ed h hl
  change C_ends ds Qd Ed at h
  unfold C_ends at h
  split at h <;> first | exact h.elim | skip
  all_goals (exact ends_ok (E := Ed) h)
theorem hc_1166 : ∀ ds Qd Ed, g_ways.C ds Qd Ed → ds.length = g_ways.ps.length → wpSs (tbL52 knL52_1 kcL52_1 0 (fun _ => false)) (fun x _ => Ed x) i__law_ways (env0 n__law_ways ds) (endK Qd) := by
  intro ds Qd Ed h hl
  change C_ways ds Qd Ed at h
  unfold C_ways at h
  split at h <;> first | exact h.elim | skip
  all_goals (exact ways_ok (E := Ed) h)
theorem hc_101 : ∀ ds Qd Ed, g_is_number.C ds Qd Ed → ds.length = g_is_number.ps.length → wpSs (tbL52 knL52_2 kcL52_2 0 (fun _ => false)) (fun x _ => Ed x) i_is_number (env0 n_is_number ds) (endK Qd) := by
  intro ds Qd Ed h hl
  change C_is_number ds Qd Ed at h
  unfold C_is_number at h
  split at h <;> first | exact h.elim | skip
  all_goals (exact is_number_ok rfl (Ex := Ed) h)
theorem hc_108 : ∀ ds Qd Ed, g_is_name.C ds Qd Ed → ds.length = g_is_name.ps.length → wpSs (tbL52 knL52_2 kcL52_2 0 (fun _ => false)) (fun x _ => Ed x) i_is_name (env0 n_is_name ds) (endK Qd) := by
  intro ds Qd Ed h hl
  change C_is_name ds Qd Ed at h
  unfold C_is_name at h
  split at h <;> first | exact h.elim | skip
  all_goals (exact is_name_ok rfl rfl rfl (Ex := Ed) h)
theorem hc_1080 : ∀ ds Qd Ed, g_uof.C ds Qd Ed → ds.length = g_uof.ps.length → wpSs (tbL52 knL52_2 kcL52_2 0 (fun _ => false)) (fun x _ => Ed x) i__law_of (env0 n__law_of ds) (endK Qd) := by
  intro ds Qd Ed h hl
  change C_uof ds Qd Ed at h
  unfold C_uof at h
  split at h <;> first | exact h.elim | skip
  all_goals (exact uof_ok (ds := []) rfl (E := Ed) h)
theorem hc_3082 : ∀ ds Qd Ed, (g_usame 1).C ds Qd Ed → ds.length = (g_usame 1).ps.length → wpSs (tbL52 knL52_2 kcL52_2 0 (fun _ => false)) (fun x _ => Ed x) (i__law_same fun l => .call 4082 l) (env0 n__law_same ds) (endK Qd) := by
  intro ds Qd Ed h hl
  change C_usame 1 ds Qd Ed at h
  unfold C_usame at h
  split at h <;> first | exact h.elim | skip
  all_goals (exact usame_ok rfl (E := Ed) h)
theorem hc_1168 : ∀ ds Qd Ed, g_longest.C ds Qd Ed → ds.length = g_longest.ps.length → wpSs (tbL52 knL52_2 kcL52_2 0 (fun _ => false)) (fun x _ => Ed x) i__law_longest (env0 n__law_longest ds) (endK Qd) := by
  intro ds Qd Ed h hl
  change C_longest ds Qd Ed at h
  unfold C_longest at h
  split at h <;> first | exact h.elim | skip
  all_goals (exact longest_ok rfl (E := Ed) h)
theorem hc_1074 : ∀ ds Qd Ed, g_is_cause.C ds Qd Ed → ds.length = g_is_cause.ps.length → wpSs (tbL52 knL52_3 kcL52_3 2 (fun _ => false)) (fun x _ => Ed x) i_is_cause (env0 n_is_cause ds) (endK Qd) := by
  intro ds Qd Ed h hl
  change C_is_cause ds Qd Ed at h
  unfold C_is_cause at h
  split at h <;> first | exact h.elim | skip
  all_goals (exact is_cause_ok rfl rfl rfl rfl (E := Ed) h)
theorem hc_1159 : ∀ ds Qd Ed, g_is_row.C ds Qd Ed → ds.length = g_is_row.ps.length → wpSs (tbL52 knL52_3 kcL52_3 2 (fun _ => false)) (fun x _ => Ed x) i_is_row (env0 n_is_row ds) (endK Qd) := by
  intro ds Qd Ed h hl
  change C_is_row ds Qd Ed at h
  unfold C_is_row at h
  split at h <;> first | exact h.elim | skip
  all_goals (exact is_row_ok rfl rfl (E := Ed) h)
theorem hc_1158 : ∀ ds Qd Ed, g_check_flow.C ds Qd Ed → ds.length = g_check_flow.ps.length → wpSs (tbL52 knL52_3 kcL52_3 2 (fun _ => false)) (fun x _ => Ed x) i_check_flow (env0 n_check_flow ds) (endK Qd) := by
  intro ds Qd Ed h hl
  change C_check_flow ds Qd Ed at h
  unfold C_check_flow at h
  split at h <;> first | exact h.elim | skip
  all_goals (exact check_flow_ok (E := Ed) h)
theorem hc_1157 : ∀ ds Qd Ed, g_days_by.C ds Qd Ed → ds.length = g_days_by.ps.length → wpSs (tbL52 knL52_3 kcL52_3 2 (fun _ => false)) (fun x _ => Ed x) i_days_by (env0 n_days_by ds) (endK Qd) := by
  intro ds Qd Ed h hl
  change C_days_by ds Qd Ed at h
  unfold C_days_by at h
  split at h <;> first | exact h.elim | skip
  all_goals (exact days_by_ok rfl (E := Ed) h)
theorem hc_1081 : ∀ ds Qd Ed, g_unames.C ds Qd Ed → ds.length = g_unames.ps.length → wpSs (tbL52 knL52_3 kcL52_3 2 (fun _ => false)) (fun x _ => Ed x) i__law_names (env0 n__law_names ds) (endK Qd) := by
  intro ds Qd Ed h hl
  change C_unames ds Qd Ed at h
  unfold C_unames at h
  split at h <;> first | exact h.elim | skip
  all_goals (exact unames_ok rfl rfl (E := Ed) h)
theorem hc_1082 : ∀ ds Qd Ed, (g_usame 2).C ds Qd Ed → ds.length = (g_usame 2).ps.length → wpSs (tbL52 knL52_3 kcL52_3 2 (fun _ => false)) (fun x _ => Ed x) (i__law_same fun l => .call 3082 l) (env0 n__law_same ds) (endK Qd) := by
  intro ds Qd Ed h hl
  change C_usame 2 ds Qd Ed at h
  unfold C_usame at h
  split at h <;> first | exact h.elim | skip
  all_goals (exact usame_ok rfl (E := Ed) h)
theorem hc_1167 : ∀ ds Qd Ed, g_delays.C ds Qd Ed → ds.length = g_delays.ps.length → wpSs (tbL52 knL52_3 kcL52_3 2 (fun _ => false)) (fun x _ => Ed x) i__law_delays (env0 n__law_delays ds) (endK Qd) := by
  intro ds Qd Ed h hl
  change C_delays ds Qd Ed at h
  unfold C_delays at h
  split at h <;> first | exact h.elim | skip
  all_goals (exact delays_ok rfl rfl (E := Ed) h)
theorem hc_1169 : ∀ ds Qd Ed, g_turned.C ds Qd Ed → ds.length = g_turned.ps.length → wpSs (tbL52 knL52_3 kcL52_3 2 (fun _ => false)) (fun x _ => Ed x) i__law_turned (env0 n__law_turned ds) (endK Qd) := by
  intro ds Qd Ed h hl
  change C_turned ds Qd Ed at h
  unfold C_turned at h
  split at h <;> first | exact h.elim | skip
  all_goals (exact turned_ok rfl (E := Ed) h)
theorem hc_1160 : ∀ ds Qd Ed, g_are_delays.C ds Qd Ed → ds.length = g_are_delays.ps.length → wpSs (tbL52 knL52_4 kcL52_4 2 (fun _ => false)) (fun x _ => Ed x) i_are_delays (env0 n_are_delays ds) (endK Qd) := by
  intro ds Qd Ed h hl
  change C_are_delays ds Qd Ed at h
  unfold C_are_delays at h
  split at h <;> first | exact h.elim | skip
  all_goals (exact are_delays_ok rfl rfl rfl (E := Ed) h)
theorem hc_1083 : ∀ ds Qd Ed, g_flow.C ds Qd Ed → ds.length = g_flow.ps.length → wpSs (tbL52 knL52_4 kcL52_4 2 (fun _ => false)) (fun x _ => Ed x) i__law_flow (env0 n__law_flow ds) (endK Qd) := by
  intro ds Qd Ed h hl
  change C_flow ds Qd Ed at h
  unfold C_flow at h
  split at h <;> first | exact h.elim | skip
  all_goals (exact flow_ok rfl rfl rfl (E := Ed) h)
theorem hc_1161 : ∀ ds Qd Ed, g_days.C ds Qd Ed → ds.length = g_days.ps.length → wpSs (tbL52 knL52_5 kcL52_5 2 (fun _ => false)) (fun x _ => Ed x) i_days (env0 n_days ds) (endK Qd) := by
  intro ds Qd Ed h hl
  change C_days ds Qd Ed at h
  unfold C_days at h
  split at h <;> first | exact h.elim | skip
  all_goals (exact days_ok rfl rfl rfl (E := Ed) h)
theorem hc_105 : ∀ ds Qd Ed, (g_wrong_at cfL52a).C ds Qd Ed → ds.length = (g_wrong_at cfL52a).ps.length → wpSs (tbL52 knL52_20 kcL52_20 2 (fun _ => false)) (fun x _ => Ed x) i_wrong_at (env0 n_wrong_at ds) (endK Qd) := by
  intro ds Qd Ed h hl
  change C_wrong_at cfL52a ds Qd Ed at h
  unfold C_wrong_at at h
  split at h <;> first | exact h.elim | skip
  all_goals (exact wrong_at_ok (ok_cfL52a (by decide)) h)
theorem hc_1075 : ∀ ds Qd Ed, g_are_causes.C ds Qd Ed → ds.length = g_are_causes.ps.length → wpSs (tbL52 knL52_21 kcL52_21 2 (fun c => c == 5)) (fun x _ => Ed x) i_are_causes (env0 n_are_causes ds) (endK Qd) := by
  intro ds Qd Ed h hl
  change C_are_causes ds Qd Ed at h
  unfold C_are_causes at h
  split at h <;> first | exact h.elim | skip
  all_goals (exact are_causes_ok rfl rfl (fun ws ds Q E h => ⟨ws, rfl, h⟩) rfl (E := Ed) h)
theorem hc_1076 : ∀ ds Qd Ed, g_is_event.C ds Qd Ed → ds.length = g_is_event.ps.length → wpSs (tbL52 knL52_22 kcL52_22 2 (fun _ => false)) (fun x _ => Ed x) i_is_event (env0 n_is_event ds) (endK Qd) := by
  intro ds Qd Ed h hl
  change C_is_event ds Qd Ed at h
  unfold C_is_event at h
  split at h <;> first | exact h.elim | skip
  all_goals (exact is_event_ok rfl rfl rfl (E := Ed) h)
theorem hc_2105 : ∀ ds Qd Ed, (g_wrong_at2 cfL52b).C ds Qd Ed → ds.length = (g_wrong_at2 cfL52b).ps.length → wpSs (tbL52 knL52_25 kcL52_25 2 (fun _ => false)) (fun x _ => Ed x) i_wrong_at (env0 n_wrong_at ds) (endK Qd) := by
  intro ds Qd Ed h hl
  change C_wrong_at cfL52b ds Qd Ed at h
  unfold C_wrong_at at h
  split at h <;> first | exact h.elim | skip
  all_goals (exact wrong_at_ok (ok_cfL52b (by decide)) h)
theorem hc_1077 : ∀ ds Qd Ed, g_check_events.C ds Qd Ed → ds.length = g_check_events.ps.length → wpSs (tbL52 knL52_26 kcL52_26 2 (fun c => c == 6)) (fun x _ => Ed x) i_check_events (env0 n_check_events ds) (endK Qd) := by
  intro ds Qd Ed h hl
  change C_check_events ds Qd Ed at h
  unfold C_check_events at h
  split at h <;> first | exact h.elim | skip
  all_goals (exact check_events_ok rfl rfl (fun ws ds Q E h => ⟨ws, rfl, h⟩) rfl rfl (E := Ed) h)
theorem hc_right : ∀ ds Qd Ed, C_right ds Qd Ed → ds.length = 1 → wpSs (tbL52 knL52_35 kcL52_35 2 (fun _ => false)) (fun x _ => Ed x) i__law_right (env0 n__law_right ds) (endK Qd) := by
  intro ds Qd Ed h hl
  unfold C_right at h
  split at h <;> first | exact h.elim | skip
  all_goals (exact right_ok rfl rfl rfl rfl rfl rfl rfl rfl rfl rfl rfl (E := Ed) h)
theorem hc_well : ∀ ds Qd, C_well0 ds Qd → ds.length = 2 → wpSr (tbL52 [] [] 0 fun _ => false) noEx wl_is wl_ir (env0 n__law_urn ds) fun d => ∃ a b c, d = .lst [.int a, .int b, .int c] ∧ Qd a b c := by
  intro ds Qd h hl
  unfold C_well0 at h
  split at h <;> first | exact h.elim | skip
  · obtain ⟨ns, rfl, h1, h2, h3, q⟩ := h
    exact well_ok h1 h2 h3 fun a b a0 b0 b1 => ⟨a, b, 0, rfl, q a b a0 b0 b1⟩
  · obtain ⟨ns, rfl, h1, h2, h3, q⟩ := h
    exact well_okL h1 h2 h3 fun a b a0 b0 b1 => ⟨a, b, 0, rfl, q a b a0 b0 b1⟩
theorem hc_law : ∀ ds Qd Ed, C_law ds Qd Ed → ds.length = 1 → wpSs (tbL52 [] [] 0 fun _ => false) noEx [.ret (.op .all_ [.comp [1] (.nm 1) .range [.op .max2 [.lit (.int 1), .op .min2 [.op .len [.bor 0], .lit (.int 3)]]] [] (.call 1999 [.var 0, .var 1])])] (env0 n_law ds) (endK Qd) := by
  intro ds Qd Ed h hl
  unfold C_law at h
  split at h <;> first | exact h.elim | skip
  · obtain ⟨ns, rfl, h1, q⟩ := h
    exact lawC_ok rfl rfl h1 q
  · obtain ⟨ns, rfl, h1, q⟩ := h
    exact lawC_okL rfl rfl h1 q
theorem tx_5 : txSs ctL52 ("are_causes" ++ ".<locals>.") i_are_causes (defBody s_are_causes) := ⟨⟨_, _, _, _, _, _, rfl, rfl, fun _ => rfl⟩, txSs_no _ _ rfl⟩
theorem tx_6 : txSs ctL52 ("check_events" ++ ".<locals>.") i_check_events (defBody s_check_events) := ⟨⟨_, _, _, _, _, _, rfl, rfl, fun _ => rfl⟩, txSs_no _ _ rfl⟩
theorem sc_Flow_init : C8.scC n_Flow_init (("self" : Str) :: g_Flow.ps) (defScope s_Flow_init) = true := by decide +kernel
theorem ck_1202 : chkI (tbL52 knL52_29 kcL52_29 2 (fun _ => false)) n_Flow_init "told" i_Flow_init e_Flow_init (defScope s_Flow_init) (fun _ => true) (defBody s_Flow_init) = true := by decide +kernel
theorem hc_1202 : ∀ ds Qd Ed, C_Flow ds Qd Ed → ds.length = 1 → wpSi (tbL52 knL52_29 kcL52_29 2 (fun _ => false)) (fun x _ => Ed x) i_Flow_init e_Flow_init (env0 n_Flow_init (.own 0 :: ds)) fun d => Qd (.obj 1 [d]) := by
  intro ds Qd Ed h hl
  unfold C_Flow at h
  split at h <;> first | exact h.elim | skip
  all_goals (exact Flow_init_ok rfl (E := Ed) h)
theorem nc_1202 : ∀ ds Qd Ed, g_Flow.C ds Qd Ed → ∀ d ∈ ds, isClo d = false := by
  intro ds Qd Ed h d hd
  change C_Flow ds Qd Ed at h
  unfold C_Flow at h
  split at h <;> first | exact h.elim | skip
  all_goals ((obtain ⟨es, rfl, _⟩ := h; rw [List.mem_singleton.mp hd]; rfl))
theorem sc_Flow_events : C8.scC n_Flow_events g_events.ps (defScope s_Flow_events) = true := by decide +kernel
theorem ck_1203 : chkSs (tbL52 [] [] 1 fun _ => false) n_Flow_events i_Flow_events (defScope s_Flow_events) (fun _ => true) (defBody s_Flow_events) = true := by decide +kernel
theorem hc_1203 : ∀ ds Qd Ed, g_events.C ds Qd Ed → ds.length = g_events.ps.length → wpSs (tbL52 [] [] 1 fun _ => false) (fun x _ => Ed x) i_Flow_events (env0 n_Flow_events ds) (endK Qd) := by
  intro ds Qd Ed h hl
  change C_events ds Qd Ed at h
  unfold C_events at h
  split at h <;> first | exact h.elim | skip
  all_goals (exact Flow_events_ok (E := Ed) h)
end SD

set_option Elab.async false
set_option linter.all false
set_option maxRecDepth 100000
set_option maxHeartbeats 4000000
namespace SD
open PySem PySem.Spec PyProof.Rows L2
theorem words_is : (List.map Str.ofString ["all", "any", "back", "book", "call", "carry", "close", "copy", "day", "down", "end", "fall", "free", "give", "here", "holder", "letters", "lies", "lock", "may", "never", "nobody", "none", "object", "order", "orders", "perhaps", "quit", "range", "rest", "round", "row", "seen", "sure", "take", "unseen", "version", "word"]) = wordsL.map fun x => (⟨x.toArray⟩ : Str) := by decide +kernel
theorem fin {l : PySem.W.OpenLaw} {w : World} {K : PySem.W.Frag} {h : Heap} {mg : Str → Option Value} {fa c0 P0 c1 P1 : Addr} (X : K.In h) (G : h.Ns mainGlobals mg) (hfa : mg "law" = some (.ref fa))
    (d_days_by : SD.DefAt K "days_by" (SD.tops 7))
    (d_is_whole : SD.DefAt K "is_whole" (SD.tops 12))
    (d_is_number : SD.DefAt K "is_number" (SD.tops 13))
    (d_is_tuple_of : SD.DefAt K "is_tuple_of" (SD.tops 14))
    (d_wrong_at : SD.DefAt K "wrong_at" (SD.tops 15))
    (d_is_letters : SD.DefAt K "is_letters" (SD.tops 16))
    (d_is_name : SD.DefAt K "is_name" (SD.tops 17))
    (d_is_one_of : SD.DefAt K "is_one_of" (SD.tops 18))
    (d_is_cause : SD.DefAt K "is_cause" (SD.tops 23))
    (d_are_causes : SD.DefCAt K "are_causes" (SD.tops 24) c0 P0)
    (d_is_event : SD.DefAt K "is_event" (SD.tops 25))
    (d_check_events : SD.DefCAt K "check_events" (SD.tops 26) c1 P1)
    (d_check_flow : SD.DefAt K "check_flow" (SD.tops 28))
    (d_is_row : SD.DefAt K "is_row" (SD.tops 29))
    (d_are_delays : SD.DefAt K "are_delays" (SD.tops 30))
    (d_days : SD.DefAt K "days" (SD.tops 31))
    (d__law_urn : SD.DefAt K "_law_urn" (SD.tops 33))
    (d__law_take : SD.DefAt K "_law_take" (SD.tops 34))
    (d__law_of : SD.DefAt K "_law_of" (SD.tops 35))
    (d__law_names : SD.DefAt K "_law_names" (SD.tops 36))
    (d__law_same : SD.DefAt K "_law_same" (SD.tops 37))
    (d__law_flow : SD.DefAt K "_law_flow" (SD.tops 38))
    (d__law_days : SD.DefAt K "_law_days" (SD.tops 39))
    (d__law_ends : SD.DefAt K "_law_ends" (SD.tops 40))
    (d__law_ways : SD.DefAt K "_law_ways" (SD.tops 41))
    (d__law_delays : SD.DefAt K "_law_delays" (SD.tops 42))
    (d__law_longest : SD.DefAt K "_law_longest" (SD.tops 43))
    (d__law_turned : SD.DefAt K "_law_turned" (SD.tops 44))
    (d__law_right : SD.DefAt K "_law_right" (SD.tops 45))
    (d_law : SD.DefAt K "law" (SD.tops 46))
    (d_Flow : SD.ClsAt K "Flow" "told" (SD.clsM (SD.tops 27) 0))
    (p_Flow_events : SD.PrpAt K "Flow" "events" (SD.clsM (SD.tops 27) 1))
    (t0 : h.get? P0 = some { cls := .none, data := .fields #[] })
    (t1 : h.get? P1 = some { cls := .none, data := .fields #[] })
    (c_SMALL_LETTERS : SD.StrAt K "SMALL_LETTERS" (PySem.Str.ofString "abcdefghijklmnopqrstuvwxyz"))
    (c_MOST_IN_NAME : SD.IntAt K "MOST_IN_NAME" (8))
    (c_WORDS : SD.TxtAt K "WORDS" (List.map PySem.Str.ofString ["all", "any", "back", "book", "call", "carry", "close", "copy", "day", "down", "end", "fall", "free", "give", "here", "holder", "letters", "lies", "lock", "may", "never", "nobody", "none", "object", "order", "orders", "perhaps", "quit", "range", "rest", "round", "row", "seen", "sure", "take", "unseen", "version", "word"]))
    (c_MOST_DELAY : SD.IntAt K "MOST_DELAY" (30))
    (c_FEWEST_EVENTS : SD.IntAt K "FEWEST_EVENTS" (2))
    (c_MOST_EVENTS : SD.IntAt K "MOST_EVENTS" (20))
    (c_MOST_CAUSES : SD.IntAt K "MOST_CAUSES" (6))
    (b_len : PySem.W.nsIn K PySem.mainGlobals "len" = some none)
    (b_abs : PySem.W.nsIn K PySem.mainGlobals "abs" = some none)
    (b_sum : PySem.W.nsIn K PySem.mainGlobals "sum" = some none)
    (b_max : PySem.W.nsIn K PySem.mainGlobals "max" = some none)
    (b_min : PySem.W.nsIn K PySem.mainGlobals "min" = some none)
    (b_all : PySem.W.nsIn K PySem.mainGlobals "all" = some none)
    (b_any : PySem.W.nsIn K PySem.mainGlobals "any" = some none)
    (b_int : PySem.W.nsIn K PySem.mainGlobals "int" = some none)
    (b_bool : PySem.W.nsIn K PySem.mainGlobals "bool" = some none)
    (b_list : PySem.W.nsIn K PySem.mainGlobals "list" = some none)
    (b_tuple : PySem.W.nsIn K PySem.mainGlobals "tuple" = some none)
    (b_isinstance : PySem.W.nsIn K PySem.mainGlobals "isinstance" = some none)
    (b_str : PySem.W.nsIn K PySem.mainGlobals "str" = some none)
    (b_dict : PySem.W.nsIn K PySem.mainGlobals "dict" = some none)
    (b_range : PySem.W.nsIn K PySem.mainGlobals "range" = some none)
    (b_enumerate : PySem.W.nsIn K PySem.mainGlobals "enumerate" = some none)
    (b_zip : PySem.W.nsIn K PySem.mainGlobals "zip" = some none)
    (b_reversed : PySem.W.nsIn K PySem.mainGlobals "reversed" = some none)
    (b_sorted : PySem.W.nsIn K PySem.mainGlobals "sorted" = some none)
    (b_set : PySem.W.nsIn K PySem.mainGlobals "set" = some none)
    (b_divmod : PySem.W.nsIn K PySem.mainGlobals "divmod" = some none) :
    ∃ (fd : FuncData) (cs : List (Addr × Addr)), (∀ p ∈ cs, h.get? p.2 = some { cls := .none, data := .fields #[] }) ∧ (∀ p ∈ cs, K.lookup p.2 = none) ∧ (∀ p ∈ cs, PySem.W.CodeHd h p.1 p.2) ∧ (∀ (s : Shared) (u : Value), BindsTo s fd ⟨[u], []⟩ [("script", u)]) ∧
      ∀ base : Heap, K.In base → base.Ns mainGlobals mg → (∀ p ∈ cs, LamX.TabB base mg p.1 p.2) → FnOk l.prog w K mg base (CX l.prog w) 60 fa fd ["script"] (spLawT K cs) := by
  obtain ⟨f100, fd100, e100, F100⟩ := d_is_whole
  obtain ⟨f102, fd102, e102, F102⟩ := d_is_tuple_of
  obtain ⟨f107, fd107, e107, F107⟩ := d_is_letters
  obtain ⟨f109, fd109, e109, F109⟩ := d_is_one_of
  obtain ⟨f1900, fd1900, e1900, F1900⟩ := d__law_take
  obtain ⟨f4082, fd4082, e4082, F4082⟩ := d__law_same
  obtain ⟨f1164, fd1164, e1164, F1164⟩ := d__law_days
  obtain ⟨f1165, fd1165, e1165, F1165⟩ := d__law_ends
  obtain ⟨f1166, fd1166, e1166, F1166⟩ := d__law_ways
  obtain ⟨f101, fd101, e101, F101⟩ := d_is_number
  obtain ⟨f108, fd108, e108, F108⟩ := d_is_name
  obtain ⟨f1080, fd1080, e1080, F1080⟩ := d__law_of
  obtain ⟨f1168, fd1168, e1168, F1168⟩ := d__law_longest
  obtain ⟨f1074, fd1074, e1074, F1074⟩ := d_is_cause
  obtain ⟨f1159, fd1159, e1159, F1159⟩ := d_is_row
  obtain ⟨f1158, fd1158, e1158, F1158⟩ := d_check_flow
  obtain ⟨f1157, fd1157, e1157, F1157⟩ := d_days_by
  obtain ⟨f1081, fd1081, e1081, F1081⟩ := d__law_names
  obtain ⟨f1167, fd1167, e1167, F1167⟩ := d__law_delays
  obtain ⟨f1169, fd1169, e1169, F1169⟩ := d__law_turned
  obtain ⟨f1160, fd1160, e1160, F1160⟩ := d_are_delays
  obtain ⟨f1083, fd1083, e1083, F1083⟩ := d__law_flow
  obtain ⟨f1161, fd1161, e1161, F1161⟩ := d_days
  obtain ⟨f105, fd105, e105, F105⟩ := d_wrong_at
  obtain ⟨f1075, fd1075, e1075, F1075, co1075, ch1075, cn1075⟩ := d_are_causes
  obtain ⟨f1076, fd1076, e1076, F1076⟩ := d_is_event
  obtain ⟨f1077, fd1077, e1077, F1077, co1077, ch1077, cn1077⟩ := d_check_events
  obtain ⟨f1170, fd1170, e1170, F1170⟩ := d__law_right
  obtain ⟨f1901, fd1901, e1901, F1901⟩ := d__law_urn
  obtain ⟨f1171, fd1171, e1171, F1171⟩ := d_law
  have m100 := PySem.W.mg_of X G e100
  have m102 := PySem.W.mg_of X G e102
  have m107 := PySem.W.mg_of X G e107
  have m109 := PySem.W.mg_of X G e109
  have m1900 := PySem.W.mg_of X G e1900
  have m4082 := PySem.W.mg_of X G e4082
  have m1164 := PySem.W.mg_of X G e1164
  have m1165 := PySem.W.mg_of X G e1165
  have m1166 := PySem.W.mg_of X G e1166
  have m101 := PySem.W.mg_of X G e101
  have m108 := PySem.W.mg_of X G e108
  have m1080 := PySem.W.mg_of X G e1080
  have m1168 := PySem.W.mg_of X G e1168
  have m1074 := PySem.W.mg_of X G e1074
  have m1159 := PySem.W.mg_of X G e1159
  have m1158 := PySem.W.mg_of X G e1158
  have m1157 := PySem.W.mg_of X G e1157
  have m1081 := PySem.W.mg_of X G e1081
  have m1167 := PySem.W.mg_of X G e1167
  have m1169 := PySem.W.mg_of X G e1169
  have m1160 := PySem.W.mg_of X G e1160
  have m1083 := PySem.W.mg_of X G e1083
  have m1161 := PySem.W.mg_of X G e1161
  have m105 := PySem.W.mg_of X G e105
  have m1075 := PySem.W.mg_of X G e1075
  have m1076 := PySem.W.mg_of X G e1076
  have m1077 := PySem.W.mg_of X G e1077
  have m1170 := PySem.W.mg_of X G e1170
  have m1901 := PySem.W.mg_of X G e1901
  have m1171 := PySem.W.mg_of X G e1171
  obtain ⟨t300, k300⟩ := c_SMALL_LETTERS
  have n300 := PySem.W.mg_of X G k300
  obtain ⟨t301, k301⟩ := c_MOST_IN_NAME
  have n301 := PySem.W.mg_of X G k301
  obtain ⟨a302, k302, K302⟩ := c_WORDS
  have n302 := PySem.W.mg_of X G k302
  obtain ⟨t319, k319⟩ := c_MOST_DELAY
  have n319 := PySem.W.mg_of X G k319
  obtain ⟨t320, k320⟩ := c_FEWEST_EVENTS
  have n320 := PySem.W.mg_of X G k320
  obtain ⟨t321, k321⟩ := c_MOST_EVENTS
  have n321 := PySem.W.mg_of X G k321
  obtain ⟨t322, k322⟩ := c_MOST_CAUSES
  have n322 := PySem.W.mg_of X G k322
  obtain ⟨C1, fI1, fdI1, eC1, hC1, FI1⟩ := d_Flow
  have mC1 := PySem.W.mg_of X G eC1
  obtain ⟨D1203, pa1203, gf1203, fd1203, eD1203, hP1203, F1203⟩ := p_Flow_events
  have qD1203 : C1 = D1203 := by
    rw [eC1] at eD1203
    cases eD1203; rfl
  subst qD1203
  have efa : fa = f1171 := by
    rw [hfa] at m1171
    cases m1171; rfl
  subst efa
  refine ⟨fd1171, [(c0, P0), (c1, P1)], List.forall_mem_cons.mpr ⟨t0, List.forall_mem_cons.mpr ⟨t1, fun _ h => nomatch h⟩⟩, List.forall_mem_cons.mpr ⟨cn1075, List.forall_mem_cons.mpr ⟨cn1077, fun _ h => nomatch h⟩⟩, List.forall_mem_cons.mpr ⟨PySem.W.codeHd_of_K X ch1075, List.forall_mem_cons.mpr ⟨PySem.W.codeHd_of_K X ch1077, fun _ h => nomatch h⟩⟩, fun s v => ?_, fun base hB hN hTB => ?_⟩
  · obtain ⟨oc, od, kV, doc, pm, an, cdv, ct, osl, rfl, lk, hcd⟩ := F1171.ex
    exact .of_eq rfl
  let G1 : Wd := { P := l.prog, w := w, K := K, mg := mg, base := base, T := [(P0, nmL52), (P1, nmL52)], cls := fun c => if c = 1 then C1 else 0, glb := fun n => (([(100, f100), (102, f102), (107, f107), (109, f109), (1900, f1900), (4082, f4082), (1164, f1164), (1165, f1165), (1166, f1166), (101, f101), (108, f108), (1080, f1080), (1168, f1168), (1074, f1074), (1159, f1159), (1158, f1158), (1157, f1157), (1081, f1081), (1167, f1167), (1169, f1169), (1160, f1160), (1083, f1083), (1161, f1161), (105, f105), (1075, f1075), (1076, f1076), (1077, f1077), (1170, f1170), (1901, f1901), (1171, fa), (1202, C1), (3082, f4082), (1082, f4082), (2105, f105)] : List (Nat × Addr)).lookup n).getD 0, fld := fun c => if c = 1 then ["told"] else [], hw := true, ct := ctL52, cfr := cfrL52 }
  let G0 : Wd := { G1 with hw := false }
  have hb : ∀ x ∈ bltNames, mg x = none := by
    unfold bltNames
    exact List.forall_mem_cons.mpr ⟨PySem.W.mg_none_of X G b_len, List.forall_mem_cons.mpr ⟨PySem.W.mg_none_of X G b_abs, List.forall_mem_cons.mpr ⟨PySem.W.mg_none_of X G b_sum, List.forall_mem_cons.mpr ⟨PySem.W.mg_none_of X G b_max, List.forall_mem_cons.mpr ⟨PySem.W.mg_none_of X G b_min, List.forall_mem_cons.mpr ⟨PySem.W.mg_none_of X G b_all, List.forall_mem_cons.mpr ⟨PySem.W.mg_none_of X G b_any, List.forall_mem_cons.mpr ⟨PySem.W.mg_none_of X G b_int, List.forall_mem_cons.mpr ⟨PySem.W.mg_none_of X G b_bool, List.forall_mem_cons.mpr ⟨PySem.W.mg_none_of X G b_list, List.forall_mem_cons.mpr ⟨PySem.W.mg_none_of X G b_tuple, List.forall_mem_cons.mpr ⟨PySem.W.mg_none_of X G b_isinstance, List.forall_mem_cons.mpr ⟨PySem.W.mg_none_of X G b_str, List.forall_mem_cons.mpr ⟨PySem.W.mg_none_of X G b_dict, List.forall_mem_cons.mpr ⟨PySem.W.mg_none_of X G b_range, List.forall_mem_cons.mpr ⟨PySem.W.mg_none_of X G b_enumerate, List.forall_mem_cons.mpr ⟨PySem.W.mg_none_of X G b_zip, List.forall_mem_cons.mpr ⟨PySem.W.mg_none_of X G b_reversed, List.forall_mem_cons.mpr ⟨PySem.W.mg_none_of X G b_sorted, List.forall_mem_cons.mpr ⟨PySem.W.mg_none_of X G b_set, List.forall_mem_cons.mpr ⟨PySem.W.mg_none_of X G b_divmod, fun _ h => nomatch h⟩⟩⟩⟩⟩⟩⟩⟩⟩⟩⟩⟩⟩⟩⟩⟩⟩⟩⟩⟩⟩
  have tb0 : LamX.TabB base mg c0 P0 := hTB (c0, P0) (by simp)
  have tb1 : LamX.TabB base mg c1 P1 := hTB (c1, P1) (by simp)
  have cn : ∀ (G : Wd), G.K = K → (∀ n, G.glb n = G1.glb n) → ∀ k, (conLL52.map (·.1)).contains k = true → ∃ v u, mg ((conLL52.lookup k).getD (Str.empty, .non)).1 = some u ∧ RelV v u ∧ ∀ wa H S, RD G wa H S ((conLL52.lookup k).getD (Str.empty, .non)).2 v := by
    intro G hK hgl k hk
    have hk2 := List.contains_iff_mem.mp hk
    simp only [conLL52, List.map_cons, List.map_nil, List.mem_cons, List.not_mem_nil, or_false] at hk2
    rcases hk2 with rfl | rfl | rfl | rfl | rfl | rfl | rfl
    · refine ⟨.str (Str.ofString "abcdefghijklmnopqrstuvwxyz"), _, n300, ⟨t300, rfl⟩, fun wa H S => ?_⟩
      have e : (Str.ofString "abcdefghijklmnopqrstuvwxyz") = ⟨(letters : List Nat).toArray⟩ := by decide +kernel
      show RD G wa H S (.str letters) (.str (Str.ofString "abcdefghijklmnopqrstuvwxyz"))
      rw [e]; exact .str _
    · exact ⟨.int 8, _, n301, ⟨t301, rfl⟩, fun wa H S => .int 8⟩
    · refine ⟨.ref a302, _, n302, rfl, fun wa H S => ?_⟩
      have hr : ∀ xs : List (List Nat), RDs G wa H S (xs.map D.str) ((xs.map fun x => (⟨x.toArray⟩ : Str)).map V.str) := fun xs => by
        induction xs with
        | nil => exact .nil
        | cons x xs ih => exact .cons (.str x) ih
      have e := words_is
      rw [e] at K302
      exact .ktup (by rw [hK]; exact K302) (hr wordsL)
    · exact ⟨.int 30, _, n319, ⟨t319, rfl⟩, fun wa H S => .int 30⟩
    · exact ⟨.int 2, _, n320, ⟨t320, rfl⟩, fun wa H S => .int 2⟩
    · exact ⟨.int 20, _, n321, ⟨t321, rfl⟩, fun wa H S => .int 20⟩
    · exact ⟨.int 6, _, n322, ⟨t322, rfl⟩, fun wa H S => .int 6⟩
  have FC1 : FldC G1 1 "Flow" ["told"] := ⟨mC1, rfl, hC1.ins, fun f hf => by
    rw [List.mem_singleton.mp hf]; exact hC1.na, by decide⟩
  have mkT : ∀ (known kc : List Nat) (cl : Nat) (own : Nat → Bool) (k : Nat), (∀ n ∈ known, HasG G1 k ((tbL52 known kc cl own).gd n) n) → (∀ n ∈ kc, HasC G1 k ((tbL52 known kc cl own).cc n) n) → (∀ c n, (tbL52 known kc cl own).hp c n = true → PrpG G1 k c ((tbL52 known kc cl own).gd n)) → TX G1 (tbL52 known kc cl own) k := fun known kc cl own k h h2 h3 => ⟨hb, fun n hn => h n (List.contains_iff_mem.mp hn), fun n hn => h2 n (List.contains_iff_mem.mp hn), fun n hn => by
    obtain ⟨v, u, a, b, c⟩ := cn G1 rfl (fun _ => rfl) n hn
    exact ⟨v, u, a, b, c⟩, h3, fun c hc => by
    cases cl with
    | zero => cases hc
    | succ n =>
      have hc2 : c = 1 := by simpa [tbL52] using hc
      rcases hc2 with rfl
      · exact FC1⟩
  have T0 : ∀ k, TX G0 (tbL52 [] [] 0 fun _ => false) k := fun k => ⟨hb, fun n hn => (Bool.false_ne_true hn).elim, fun n hn => (Bool.false_ne_true hn).elim, fun n hn => by
    obtain ⟨v, u, a, b, c⟩ := cn G0 rfl (fun _ => rfl) n hn
    exact ⟨v, u, a, b, c⟩, fun c n h => (by cases h), fun c h => (by cases h)⟩
  have PG1203 : PrpG G1 2 1 g_events := prpG_of hP1203 (fok_of F1203 sc_Flow_events (mkT [] [] 1 (fun _ => false) 0 has_nil hac_nil fun c n h => (by cases h)) (fun _ => rfl) i_Flow_events rfl ck_1203 hc_1203) (F1203.binds fun _ _ _ _ _ _ us hl => match us, hl with | [_], _ => rfl) (Nat.le_refl _) hC1.ins.1 rfl
  have TK1 := fun own => mkT knL52_1 kcL52_1 0 own 0 has_nil hac_nil (fun c n h => by cases h)
  have H100 : HasG G1 1 g_is_whole 100 := hasG_of (g := g_is_whole) F100 m100 rfl (F100.binds fun _ _ _ _ _ _ us hl => match us, hl with | [_], _ => rfl) (gok_of F100 sc_is_whole (TK1 _) i_is_whole (fun c hc => (by cases hc)) (txSs_no _ _ rfl) ck_100 hc_100) (Nat.le_refl _) (fun _ h => nomatch h)
  have H102 : HasG G1 1 g_is_tuple_of 102 := hasG_of (g := g_is_tuple_of) F102 m102 rfl (F102.binds fun _ _ _ _ _ _ us hl => match us, hl with | [_, _], _ => rfl) (gok_of F102 sc_is_tuple_of (TK1 _) i_is_tuple_of (fun c hc => (by cases hc)) (txSs_no _ _ rfl) ck_102 hc_102) (Nat.le_refl _) (fun _ h => nomatch h)
  have H107 : HasG G1 1 g_is_letters 107 := hasG_of (g := g_is_letters) F107 m107 rfl (F107.binds fun _ _ _ _ _ _ us hl => match us, hl with | [_, _, _], _ => rfl) (gok_of F107 sc_is_letters (TK1 _) i_is_letters (fun c hc => (by cases hc)) (txSs_no _ _ rfl) ck_107 hc_107) (Nat.le_refl _) (fun _ h => nomatch h)
  have H109 : HasG G1 1 g_is_one_of 109 := hasG_of (g := g_is_one_of) F109 m109 rfl (F109.binds fun _ _ _ _ _ _ us hl => match us, hl with | [_, _], _ => rfl) (gok_of F109 sc_is_one_of (TK1 _) i_is_one_of (fun c hc => (by cases hc)) (txSs_no _ _ rfl) ck_109 hc_109) (Nat.le_refl _) (fun _ h => nomatch h)
  have H1900 : HasG G1 1 g_take 1900 := hasG_of (g := g_take) F1900 m1900 rfl (F1900.binds fun _ _ _ _ _ _ us hl => match us, hl with | [_, _], _ => rfl) (gok_of F1900 sc__law_take (TK1 _) (i_take 40087) (fun c hc => (by cases hc)) (txSs_no _ _ rfl) ck_1900 hc_1900) (Nat.le_refl _) (fun _ h => nomatch h)
  have H4082 : HasG G1 1 (g_usame 0) 4082 := hasG_of (g := (g_usame 0)) F4082 m4082 rfl (F4082.binds fun _ _ _ _ _ _ us hl => match us, hl with | [_, _], _ => rfl) (gok_of F4082 sc__law_same (TK1 _) (i__law_same fun _ => .bot) (fun c hc => (by cases hc)) (txSs_no _ _ rfl) ck_4082 hc_4082) (Nat.le_refl _) (fun _ h => nomatch h)
  have H1164 : HasG G1 1 g_ldays 1164 := hasG_of (g := g_ldays) F1164 m1164 rfl (F1164.binds fun _ _ _ _ _ _ us hl => match us, hl with | [_, _], _ => rfl) (gok_of F1164 sc__law_days (TK1 _) i__law_days (fun c hc => (by cases hc)) (txSs_no _ _ rfl) ck_1164 hc_1164) (Nat.le_refl _) (fun _ h => nomatch h)
  have H1165 : HasG G1 1 g_ends 1165 := hasG_of (g := g_ends) F1165 m1165 rfl (F1165.binds fun _ _ _ _ _ _ us hl => match us, hl with | [_, _], _ => rfl) (gok_of F1165 sc__law_ends (TK1 _) i__law_ends (fun c hc => (by cases hc)) (txSs_no _ _ rfl) ck_1165 hc_1165) (Nat.le_refl _) (fun _ h => nomatch h)
  have H1166 : HasG G1 1 g_ways 1166 := hasG_of (g := g_ways) F1166 m1166 rfl (F1166.binds fun _ _ _ _ _ _ us hl => match us, hl with | [_, _], _ => rfl) (gok_of F1166 sc__law_ways (TK1 _) i__law_ways (fun c hc => (by cases hc)) (txSs_no _ _ rfl) ck_1166 hc_1166) (Nat.le_refl _) (fun _ h => nomatch h)
  have TK2 := fun own => mkT knL52_2 kcL52_2 0 own 1 (has_cons (H100.up2 (by decide)) (has_cons (H102.up2 (by decide)) (has_cons (H107.up2 (by decide)) (has_cons (H109.up2 (by decide)) (has_cons (H1900.up2 (by decide)) (has_cons (H4082.up2 (by decide)) (has_cons (H1164.up2 (by decide)) (has_cons (H1165.up2 (by decide)) (has_cons (H1166.up2 (by decide)) has_nil))))))))) hac_nil (fun c n h => by cases h)
  have H101 : HasG G1 2 g_is_number 101 := hasG_of (g := g_is_number) F101 m101 rfl (F101.binds fun _ _ _ _ _ _ us hl => match us, hl with | [_, _, _], _ => rfl) (gok_of F101 sc_is_number (TK2 _) i_is_number (fun c hc => (by cases hc)) (txSs_no _ _ rfl) ck_101 hc_101) (Nat.le_refl _) (fun _ h => nomatch h)
  have H108 : HasG G1 2 g_is_name 108 := hasG_of (g := g_is_name) F108 m108 rfl (F108.binds fun _ _ _ _ _ _ us hl => match us, hl with | [_], _ => rfl) (gok_of F108 sc_is_name (TK2 _) i_is_name (fun c hc => (by cases hc)) (txSs_no _ _ rfl) ck_108 hc_108) (Nat.le_refl _) (fun _ h => nomatch h)
  have H1080 : HasG G1 2 g_uof 1080 := hasG_of (g := g_uof) F1080 m1080 rfl (F1080.binds fun _ _ _ _ _ _ us hl => match us, hl with | [_, _], _ => rfl) (gok_of F1080 sc__law_of (TK2 _) i__law_of (fun c hc => (by cases hc)) (txSs_no _ _ rfl) ck_1080 hc_1080) (Nat.le_refl _) (fun _ h => nomatch h)
  have H3082 : HasG G1 2 (g_usame 1) 3082 := hasG_of (g := (g_usame 1)) F4082 m4082 rfl (F4082.binds fun _ _ _ _ _ _ us hl => match us, hl with | [_, _], _ => rfl) (gok_of F4082 sc__law_same (TK2 _) (i__law_same fun l => .call 4082 l) (fun c hc => (by cases hc)) (txSs_no _ _ rfl) ck_3082 hc_3082) (Nat.le_refl _) (fun _ h => nomatch h)
  have H1168 : HasG G1 2 g_longest 1168 := hasG_of (g := g_longest) F1168 m1168 rfl (F1168.binds fun _ _ _ _ _ _ us hl => match us, hl with | [_, _], _ => rfl) (gok_of F1168 sc__law_longest (TK2 _) i__law_longest (fun c hc => (by cases hc)) (txSs_no _ _ rfl) ck_1168 hc_1168) (Nat.le_refl _) (fun _ h => nomatch h)
  have TK3 := fun own => mkT knL52_3 kcL52_3 2 own 2 (has_cons (H100.up2 (by decide)) (has_cons (H102.up2 (by decide)) (has_cons (H107.up2 (by decide)) (has_cons (H109.up2 (by decide)) (has_cons (H1900.up2 (by decide)) (has_cons (H4082.up2 (by decide)) (has_cons (H1164.up2 (by decide)) (has_cons (H1165.up2 (by decide)) (has_cons (H1166.up2 (by decide)) (has_cons (H101.up2 (by decide)) (has_cons (H108.up2 (by decide)) (has_cons (H1080.up2 (by decide)) (has_cons (H3082.up2 (by decide)) (has_cons (H1168.up2 (by decide)) has_nil)))))))))))))) hac_nil (fun c n h => by
    have h2 : (c, n) ∈ ([(1, 1203)] : List (Nat × Nat)) := List.contains_iff_mem.mp h
    simp only [List.mem_cons, List.not_mem_nil, or_false, Prod.mk.injEq] at h2
    rcases h2 with ⟨rfl, rfl⟩
    · exact PG1203.mono (by decide))
  have H1074 : HasG G1 3 g_is_cause 1074 := hasG_of (g := g_is_cause) F1074 m1074 rfl (F1074.binds fun _ _ _ _ _ _ us hl => match us, hl with | [_, _], _ => rfl) (gok_of F1074 sc_is_cause (TK3 _) i_is_cause (fun c hc => (by cases hc)) (txSs_no _ _ rfl) ck_1074 hc_1074) (Nat.le_refl _) (fun _ h => nomatch h)
  have H1159 : HasG G1 3 g_is_row 1159 := hasG_of (g := g_is_row) F1159 m1159 rfl (F1159.binds fun _ _ _ _ _ _ us hl => match us, hl with | [_, _], _ => rfl) (gok_of F1159 sc_is_row (TK3 _) i_is_row (fun c hc => (by cases hc)) (txSs_no _ _ rfl) ck_1159 hc_1159) (Nat.le_refl _) (fun _ h => nomatch h)
  have H1158 : HasG G1 3 g_check_flow 1158 := hasG_of (g := g_check_flow) F1158 m1158 rfl (F1158.binds fun _ _ _ _ _ _ us hl => match us, hl with | [_], _ => rfl) (gok_of F1158 sc_check_flow (TK3 _) i_check_flow (fun c hc => (by cases hc)) (txSs_no _ _ rfl) ck_1158 hc_1158) (Nat.le_refl _) (fun _ h => nomatch h)
  have H1157 : HasG G1 3 g_days_by 1157 := hasG_of (g := g_days_by) F1157 m1157 rfl (F1157.binds fun _ _ _ _ _ _ us hl => match us, hl with | [_, _], _ => rfl) (gok_of F1157 sc_days_by (TK3 _) i_days_by (fun c hc => (by cases hc)) (txSs_no _ _ rfl) ck_1157 hc_1157) (Nat.le_refl _) (fun _ h => nomatch h)
  have H1081 : HasG G1 3 g_unames 1081 := hasG_of (g := g_unames) F1081 m1081 rfl (F1081.binds fun _ _ _ _ _ _ us hl => match us, hl with | [_, _], _ => rfl) (gok_of F1081 sc__law_names (TK3 _) i__law_names (fun c hc => (by cases hc)) (txSs_no _ _ rfl) ck_1081 hc_1081) (Nat.le_refl _) (fun _ h => nomatch h)
  have H1082 : HasG G1 3 (g_usame 2) 1082 := hasG_of (g := (g_usame 2)) F4082 m4082 rfl (F4082.binds fun _ _ _ _ _ _ us hl => match us, hl with | [_, _], _ => rfl) (gok_of F4082 sc__law_same (TK3 _) (i__law_same fun l => .call 3082 l) (fun c hc => (by cases hc)) (txSs_no _ _ rfl) ck_1082 hc_1082) (Nat.le_refl _) (fun _ h => nomatch h)
  have H1167 : HasG G1 3 g_delays 1167 := hasG_of (g := g_delays) F1167 m1167 rfl (F1167.binds fun _ _ _ _ _ _ us hl => match us, hl with | [_, _], _ => rfl) (gok_of F1167 sc__law_delays (TK3 _) i__law_delays (fun c hc => (by cases hc)) (txSs_no _ _ rfl) ck_1167 hc_1167) (Nat.le_refl _) (fun _ h => nomatch h)
  have H1169 : HasG G1 3 g_turned 1169 := hasG_of (g := g_turned) F1169 m1169 rfl (F1169.binds fun _ _ _ _ _ _ us hl => match us, hl with | [_, _, _], _ => rfl) (gok_of F1169 sc__law_turned (TK3 _) i__law_turned (fun c hc => (by cases hc)) (txSs_no _ _ rfl) ck_1169 hc_1169) (Nat.le_refl _) (fun _ h => nomatch h)
  have TK4 := fun own => mkT knL52_4 kcL52_4 2 own 3 (has_cons (H100.up2 (by decide)) (has_cons (H102.up2 (by decide)) (has_cons (H107.up2 (by decide)) (has_cons (H109.up2 (by decide)) (has_cons (H1900.up2 (by decide)) (has_cons (H4082.up2 (by decide)) (has_cons (H1164.up2 (by decide)) (has_cons (H1165.up2 (by decide)) (has_cons (H1166.up2 (by decide)) (has_cons (H101.up2 (by decide)) (has_cons (H108.up2 (by decide)) (has_cons (H1080.up2 (by decide)) (has_cons (H3082.up2 (by decide)) (has_cons (H1168.up2 (by decide)) (has_cons (H1074.up2 (by decide)) (has_cons (H1159.up2 (by decide)) (has_cons (H1158.up2 (by decide)) (has_cons (H1157.up2 (by decide)) (has_cons (H1081.up2 (by decide)) (has_cons (H1082.up2 (by decide)) (has_cons (H1167.up2 (by decide)) (has_cons (H1169.up2 (by decide)) has_nil)))))))))))))))))))))) hac_nil (fun c n h => by
    have h2 : (c, n) ∈ ([(1, 1203)] : List (Nat × Nat)) := List.contains_iff_mem.mp h
    simp only [List.mem_cons, List.not_mem_nil, or_false, Prod.mk.injEq] at h2
    rcases h2 with ⟨rfl, rfl⟩
    · exact PG1203.mono (by decide))
  have HC5 : HasC G1 4 cd5 5 := hasC_of (t := (tbL52 knL52_4 kcL52_4 2 (fun _ => false))) rfl rfl ns_5 (fun _ _ _ _ _ us hl => match us, hl with | [_, _], _ => rfl) (TK4 _) (fun _ => rfl) i_c5_are_causes rfl ckc_5 hcc_5
  have H1160 : HasG G1 4 g_are_delays 1160 := hasG_of (g := g_are_delays) F1160 m1160 rfl (F1160.binds fun _ _ _ _ _ _ us hl => match us, hl with | [_, _], _ => rfl) (gok_of F1160 sc_are_delays (TK4 _) i_are_delays (fun c hc => (by cases hc)) (txSs_no _ _ rfl) ck_1160 hc_1160) (Nat.le_refl _) (fun _ h => nomatch h)
  have H1083 : HasG G1 4 g_flow 1083 := hasG_of (g := g_flow) F1083 m1083 rfl (F1083.binds fun _ _ _ _ _ _ us hl => match us, hl with | [_, _, _, _], _ => rfl) (gok_of F1083 sc__law_flow (TK4 _) i__law_flow (fun c hc => (by cases hc)) (txSs_no _ _ rfl) ck_1083 hc_1083) (Nat.le_refl _) (fun _ h => nomatch h)
  have TK5 := fun own => mkT knL52_5 kcL52_5 2 own 4 (has_cons (H100.up2 (by decide)) (has_cons (H102.up2 (by decide)) (has_cons (H107.up2 (by decide)) (has_cons (H109.up2 (by decide)) (has_cons (H1900.up2 (by decide)) (has_cons (H4082.up2 (by decide)) (has_cons (H1164.up2 (by decide)) (has_cons (H1165.up2 (by decide)) (has_cons (H1166.up2 (by decide)) (has_cons (H101.up2 (by decide)) (has_cons (H108.up2 (by decide)) (has_cons (H1080.up2 (by decide)) (has_cons (H3082.up2 (by decide)) (has_cons (H1168.up2 (by decide)) (has_cons (H1074.up2 (by decide)) (has_cons (H1159.up2 (by decide)) (has_cons (H1158.up2 (by decide)) (has_cons (H1157.up2 (by decide)) (has_cons (H1081.up2 (by decide)) (has_cons (H1082.up2 (by decide)) (has_cons (H1167.up2 (by decide)) (has_cons (H1169.up2 (by decide)) (has_cons (H1160.up2 (by decide)) (has_cons (H1083.up2 (by decide)) has_nil)))))))))))))))))))))))) (hac_cons (HC5.up (by decide)) hac_nil) (fun c n h => by
    have h2 : (c, n) ∈ ([(1, 1203)] : List (Nat × Nat)) := List.contains_iff_mem.mp h
    simp only [List.mem_cons, List.not_mem_nil, or_false, Prod.mk.injEq] at h2
    rcases h2 with ⟨rfl, rfl⟩
    · exact PG1203.mono (by decide))
  have H1161 : HasG G1 5 g_days 1161 := hasG_of (g := g_days) F1161 m1161 rfl (F1161.binds fun _ _ _ _ _ _ us hl => match us, hl with | [_, _], _ => rfl) (gok_of F1161 sc_days (TK5 _) i_days (fun c hc => (by cases hc)) (txSs_no _ _ rfl) ck_1161 hc_1161) (Nat.le_refl _) (List.forall_mem_cons.mpr ⟨⟨kwb F1161 fun _ _ _ _ _ _ us hl => (match us, hl with | [_, _], _ => rfl), rfl, rfl, by decide⟩, fun _ h => nomatch h⟩)
  have TK20 := fun own => mkT knL52_20 kcL52_20 2 own 19 (has_cons (H100.up2 (by decide)) (has_cons (H102.up2 (by decide)) (has_cons (H107.up2 (by decide)) (has_cons (H109.up2 (by decide)) (has_cons (H1900.up2 (by decide)) (has_cons (H4082.up2 (by decide)) (has_cons (H1164.up2 (by decide)) (has_cons (H1165.up2 (by decide)) (has_cons (H1166.up2 (by decide)) (has_cons (H101.up2 (by decide)) (has_cons (H108.up2 (by decide)) (has_cons (H1080.up2 (by decide)) (has_cons (H3082.up2 (by decide)) (has_cons (H1168.up2 (by decide)) (has_cons (H1074.up2 (by decide)) (has_cons (H1159.up2 (by decide)) (has_cons (H1158.up2 (by decide)) (has_cons (H1157.up2 (by decide)) (has_cons (H1081.up2 (by decide)) (has_cons (H1082.up2 (by decide)) (has_cons (H1167.up2 (by decide)) (has_cons (H1169.up2 (by decide)) (has_cons (H1160.up2 (by decide)) (has_cons (H1083.up2 (by decide)) (has_cons (H1161.up2 (by decide)) has_nil))))))))))))))))))))))))) (hac_cons (HC5.up (by decide)) hac_nil) (fun c n h => by
    have h2 : (c, n) ∈ ([(1, 1203)] : List (Nat × Nat)) := List.contains_iff_mem.mp h
    simp only [List.mem_cons, List.not_mem_nil, or_false, Prod.mk.injEq] at h2
    rcases h2 with ⟨rfl, rfl⟩
    · exact PG1203.mono (by decide))
  have H105 : HasG G1 20 (g_wrong_at cfL52a) 105 := hasG_of (g := (g_wrong_at cfL52a)) F105 m105 rfl (F105.binds fun _ _ _ _ _ _ us hl => match us, hl with | [_, _, _], _ => rfl) (gok_of F105 sc_wrong_at (TK20 _) i_wrong_at (fun c hc => (by cases hc)) (txSs_no _ _ rfl) ck_105 hc_105) (Nat.le_refl _) (fun _ h => nomatch h)
  have TK21 := fun own => mkT knL52_21 kcL52_21 2 own 20 (has_cons (H100.up2 (by decide)) (has_cons (H102.up2 (by decide)) (has_cons (H107.up2 (by decide)) (has_cons (H109.up2 (by decide)) (has_cons (H1900.up2 (by decide)) (has_cons (H4082.up2 (by decide)) (has_cons (H1164.up2 (by decide)) (has_cons (H1165.up2 (by decide)) (has_cons (H1166.up2 (by decide)) (has_cons (H101.up2 (by decide)) (has_cons (H108.up2 (by decide)) (has_cons (H1080.up2 (by decide)) (has_cons (H3082.up2 (by decide)) (has_cons (H1168.up2 (by decide)) (has_cons (H1074.up2 (by decide)) (has_cons (H1159.up2 (by decide)) (has_cons (H1158.up2 (by decide)) (has_cons (H1157.up2 (by decide)) (has_cons (H1081.up2 (by decide)) (has_cons (H1082.up2 (by decide)) (has_cons (H1167.up2 (by decide)) (has_cons (H1169.up2 (by decide)) (has_cons (H1160.up2 (by decide)) (has_cons (H1083.up2 (by decide)) (has_cons (H1161.up2 (by decide)) (has_cons (H105.up2 (by decide)) has_nil)))))))))))))))))))))))))) (hac_cons (HC5.up (by decide)) hac_nil) (fun c n h => by
    have h2 : (c, n) ∈ ([(1, 1203)] : List (Nat × Nat)) := List.contains_iff_mem.mp h
    simp only [List.mem_cons, List.not_mem_nil, or_false, Prod.mk.injEq] at h2
    rcases h2 with ⟨rfl, rfl⟩
    · exact PG1203.mono (by decide))
  have H1075 : HasG G1 21 g_are_causes 1075 := hasG_of (g := g_are_causes) F1075 m1075 rfl (F1075.binds fun _ _ _ _ _ _ us hl => match us, hl with | [_, _], _ => rfl) (gok_of F1075 sc_are_causes (TK21 _) i_are_causes (fun c hc => by
    have hc2 : c = 5 := beq_iff_eq.mp hc
    subst hc2
    exact ⟨c0, co1075, rfl, nd_5, rfl, P0, nmL52, tb0, by simp [G1], fun q hq _ => by simp only [G1, List.mem_cons, List.not_mem_nil, or_false] at hq; rcases hq with rfl | rfl <;> rfl, rfl⟩) tx_5 ck_1075 hc_1075) (Nat.le_refl _) (fun _ h => nomatch h)
  have TK22 := fun own => mkT knL52_22 kcL52_22 2 own 21 (has_cons (H100.up2 (by decide)) (has_cons (H102.up2 (by decide)) (has_cons (H107.up2 (by decide)) (has_cons (H109.up2 (by decide)) (has_cons (H1900.up2 (by decide)) (has_cons (H4082.up2 (by decide)) (has_cons (H1164.up2 (by decide)) (has_cons (H1165.up2 (by decide)) (has_cons (H1166.up2 (by decide)) (has_cons (H101.up2 (by decide)) (has_cons (H108.up2 (by decide)) (has_cons (H1080.up2 (by decide)) (has_cons (H3082.up2 (by decide)) (has_cons (H1168.up2 (by decide)) (has_cons (H1074.up2 (by decide)) (has_cons (H1159.up2 (by decide)) (has_cons (H1158.up2 (by decide)) (has_cons (H1157.up2 (by decide)) (has_cons (H1081.up2 (by decide)) (has_cons (H1082.up2 (by decide)) (has_cons (H1167.up2 (by decide)) (has_cons (H1169.up2 (by decide)) (has_cons (H1160.up2 (by decide)) (has_cons (H1083.up2 (by decide)) (has_cons (H1161.up2 (by decide)) (has_cons (H105.up2 (by decide)) (has_cons (H1075.up2 (by decide)) has_nil))))))))))))))))))))))))))) (hac_cons (HC5.up (by decide)) hac_nil) (fun c n h => by
    have h2 : (c, n) ∈ ([(1, 1203)] : List (Nat × Nat)) := List.contains_iff_mem.mp h
    simp only [List.mem_cons, List.not_mem_nil, or_false, Prod.mk.injEq] at h2
    rcases h2 with ⟨rfl, rfl⟩
    · exact PG1203.mono (by decide))
  have H1076 : HasG G1 22 g_is_event 1076 := hasG_of (g := g_is_event) F1076 m1076 rfl (F1076.binds fun _ _ _ _ _ _ us hl => match us, hl with | [_, _], _ => rfl) (gok_of F1076 sc_is_event (TK22 _) i_is_event (fun c hc => (by cases hc)) (txSs_no _ _ rfl) ck_1076 hc_1076) (Nat.le_refl _) (fun _ h => nomatch h)
  have TK23 := fun own => mkT knL52_23 kcL52_23 2 own 22 (has_cons (H100.up2 (by decide)) (has_cons (H102.up2 (by decide)) (has_cons (H107.up2 (by decide)) (has_cons (H109.up2 (by decide)) (has_cons (H1900.up2 (by decide)) (has_cons (H4082.up2 (by decide)) (has_cons (H1164.up2 (by decide)) (has_cons (H1165.up2 (by decide)) (has_cons (H1166.up2 (by decide)) (has_cons (H101.up2 (by decide)) (has_cons (H108.up2 (by decide)) (has_cons (H1080.up2 (by decide)) (has_cons (H3082.up2 (by decide)) (has_cons (H1168.up2 (by decide)) (has_cons (H1074.up2 (by decide)) (has_cons (H1159.up2 (by decide)) (has_cons (H1158.up2 (by decide)) (has_cons (H1157.up2 (by decide)) (has_cons (H1081.up2 (by decide)) (has_cons (H1082.up2 (by decide)) (has_cons (H1167.up2 (by decide)) (has_cons (H1169.up2 (by decide)) (has_cons (H1160.up2 (by decide)) (has_cons (H1083.up2 (by decide)) (has_cons (H1161.up2 (by decide)) (has_cons (H105.up2 (by decide)) (has_cons (H1075.up2 (by decide)) (has_cons (H1076.up2 (by decide)) has_nil)))))))))))))))))))))))))))) (hac_cons (HC5.up (by decide)) hac_nil) (fun c n h => by
    have h2 : (c, n) ∈ ([(1, 1203)] : List (Nat × Nat)) := List.contains_iff_mem.mp h
    simp only [List.mem_cons, List.not_mem_nil, or_false, Prod.mk.injEq] at h2
    rcases h2 with ⟨rfl, rfl⟩
    · exact PG1203.mono (by decide))
  have HC6 : HasC G1 23 cd6 6 := hasC_of (t := (tbL52 knL52_23 kcL52_23 2 (fun _ => false))) rfl rfl ns_6 (fun _ _ _ _ _ us hl => match us, hl with | [_, _], _ => rfl) (TK23 _) (fun _ => rfl) i_c6_check_events rfl ckc_6 hcc_6
  have TK25 := fun own => mkT knL52_25 kcL52_25 2 own 24 (has_cons (H100.up2 (by decide)) (has_cons (H102.up2 (by decide)) (has_cons (H107.up2 (by decide)) (has_cons (H109.up2 (by decide)) (has_cons (H1900.up2 (by decide)) (has_cons (H4082.up2 (by decide)) (has_cons (H1164.up2 (by decide)) (has_cons (H1165.up2 (by decide)) (has_cons (H1166.up2 (by decide)) (has_cons (H101.up2 (by decide)) (has_cons (H108.up2 (by decide)) (has_cons (H1080.up2 (by decide)) (has_cons (H3082.up2 (by decide)) (has_cons (H1168.up2 (by decide)) (has_cons (H1074.up2 (by decide)) (has_cons (H1159.up2 (by decide)) (has_cons (H1158.up2 (by decide)) (has_cons (H1157.up2 (by decide)) (has_cons (H1081.up2 (by decide)) (has_cons (H1082.up2 (by decide)) (has_cons (H1167.up2 (by decide)) (has_cons (H1169.up2 (by decide)) (has_cons (H1160.up2 (by decide)) (has_cons (H1083.up2 (by decide)) (has_cons (H1161.up2 (by decide)) (has_cons (H105.up2 (by decide)) (has_cons (H1075.up2 (by decide)) (has_cons (H1076.up2 (by decide)) has_nil)))))))))))))))))))))))))))) (hac_cons (HC5.up (by decide)) (hac_cons (HC6.up (by decide)) hac_nil)) (fun c n h => by
    have h2 : (c, n) ∈ ([(1, 1203)] : List (Nat × Nat)) := List.contains_iff_mem.mp h
    simp only [List.mem_cons, List.not_mem_nil, or_false, Prod.mk.injEq] at h2
    rcases h2 with ⟨rfl, rfl⟩
    · exact PG1203.mono (by decide))
  have H2105 : HasG G1 25 (g_wrong_at2 cfL52b) 2105 := hasG_of (g := (g_wrong_at2 cfL52b)) F105 m105 rfl (F105.binds fun _ _ _ _ _ _ us hl => match us, hl with | [_, _, _], _ => rfl) (gok_of F105 sc_wrong_at (TK25 _) i_wrong_at (fun c hc => (by cases hc)) (txSs_no _ _ rfl) ck_2105 hc_2105) (Nat.le_refl _) (fun _ h => nomatch h)
  have TK26 := fun own => mkT knL52_26 kcL52_26 2 own 25 (has_cons (H100.up2 (by decide)) (has_cons (H102.up2 (by decide)) (has_cons (H107.up2 (by decide)) (has_cons (H109.up2 (by decide)) (has_cons (H1900.up2 (by decide)) (has_cons (H4082.up2 (by decide)) (has_cons (H1164.up2 (by decide)) (has_cons (H1165.up2 (by decide)) (has_cons (H1166.up2 (by decide)) (has_cons (H101.up2 (by decide)) (has_cons (H108.up2 (by decide)) (has_cons (H1080.up2 (by decide)) (has_cons (H3082.up2 (by decide)) (has_cons (H1168.up2 (by decide)) (has_cons (H1074.up2 (by decide)) (has_cons (H1159.up2 (by decide)) (has_cons (H1158.up2 (by decide)) (has_cons (H1157.up2 (by decide)) (has_cons (H1081.up2 (by decide)) (has_cons (H1082.up2 (by decide)) (has_cons (H1167.up2 (by decide)) (has_cons (H1169.up2 (by decide)) (has_cons (H1160.up2 (by decide)) (has_cons (H1083.up2 (by decide)) (has_cons (H1161.up2 (by decide)) (has_cons (H105.up2 (by decide)) (has_cons (H1075.up2 (by decide)) (has_cons (H1076.up2 (by decide)) (has_cons (H2105.up2 (by decide)) has_nil))))))))))))))))))))))))))))) (hac_cons (HC5.up (by decide)) (hac_cons (HC6.up (by decide)) hac_nil)) (fun c n h => by
    have h2 : (c, n) ∈ ([(1, 1203)] : List (Nat × Nat)) := List.contains_iff_mem.mp h
    simp only [List.mem_cons, List.not_mem_nil, or_false, Prod.mk.injEq] at h2
    rcases h2 with ⟨rfl, rfl⟩
    · exact PG1203.mono (by decide))
  have H1077 : HasG G1 26 g_check_events 1077 := hasG_of (g := g_check_events) F1077 m1077 rfl (F1077.binds fun _ _ _ _ _ _ us hl => match us, hl with | [_], _ => rfl) (gok_of F1077 sc_check_events (TK26 _) i_check_events (fun c hc => by
    have hc2 : c = 6 := beq_iff_eq.mp hc
    subst hc2
    exact ⟨c1, co1077, rfl, nd_6, rfl, P1, nmL52, tb1, by simp [G1], fun q hq _ => by simp only [G1, List.mem_cons, List.not_mem_nil, or_false] at hq; rcases hq with rfl | rfl <;> rfl, rfl⟩) tx_6 ck_1077 hc_1077) (Nat.le_refl _) (fun _ h => nomatch h)
  have TK29 := fun own => mkT knL52_29 kcL52_29 2 own 28 (has_cons (H100.up2 (by decide)) (has_cons (H102.up2 (by decide)) (has_cons (H107.up2 (by decide)) (has_cons (H109.up2 (by decide)) (has_cons (H1900.up2 (by decide)) (has_cons (H4082.up2 (by decide)) (has_cons (H1164.up2 (by decide)) (has_cons (H1165.up2 (by decide)) (has_cons (H1166.up2 (by decide)) (has_cons (H101.up2 (by decide)) (has_cons (H108.up2 (by decide)) (has_cons (H1080.up2 (by decide)) (has_cons (H3082.up2 (by decide)) (has_cons (H1168.up2 (by decide)) (has_cons (H1074.up2 (by decide)) (has_cons (H1159.up2 (by decide)) (has_cons (H1158.up2 (by decide)) (has_cons (H1157.up2 (by decide)) (has_cons (H1081.up2 (by decide)) (has_cons (H1082.up2 (by decide)) (has_cons (H1167.up2 (by decide)) (has_cons (H1169.up2 (by decide)) (has_cons (H1160.up2 (by decide)) (has_cons (H1083.up2 (by decide)) (has_cons (H1161.up2 (by decide)) (has_cons (H105.up2 (by decide)) (has_cons (H1075.up2 (by decide)) (has_cons (H1076.up2 (by decide)) (has_cons (H2105.up2 (by decide)) (has_cons (H1077.up2 (by decide)) has_nil)))))))))))))))))))))))))))))) (hac_cons (HC5.up (by decide)) (hac_cons (HC6.up (by decide)) hac_nil)) (fun c n h => by
    have h2 : (c, n) ∈ ([(1, 1203)] : List (Nat × Nat)) := List.contains_iff_mem.mp h
    simp only [List.mem_cons, List.not_mem_nil, or_false, Prod.mk.injEq] at h2
    rcases h2 with ⟨rfl, rfl⟩
    · exact PG1203.mono (by decide))
  have H1202 : HasG G1 30 g_Flow 1202 := hasG_cls (g := g_Flow) (c := 1) hC1.mks 29 (fn_init (C := C_Flow) FI1 sc_Flow_init hC1.ins.1 hC1.na (TK29 fun _ => false) (fun _ => rfl) i_Flow_init rfl e_Flow_init ck_1202 hc_1202) rfl mC1 rfl rfl (FI1.binds fun _ _ _ _ _ _ us hl => match us, hl with | [_, _], _ => rfl) (fun _ h => nomatch h) nc_1202 (Nat.le_refl _)
  have TKR := mkT knL52_35 kcL52_35 2 (fun _ => false) 34 (has_cons (H100.up2 (by decide)) (has_cons (H102.up2 (by decide)) (has_cons (H107.up2 (by decide)) (has_cons (H109.up2 (by decide)) (has_cons (H1900.up2 (by decide)) (has_cons (H4082.up2 (by decide)) (has_cons (H1164.up2 (by decide)) (has_cons (H1165.up2 (by decide)) (has_cons (H1166.up2 (by decide)) (has_cons (H101.up2 (by decide)) (has_cons (H108.up2 (by decide)) (has_cons (H1080.up2 (by decide)) (has_cons (H3082.up2 (by decide)) (has_cons (H1168.up2 (by decide)) (has_cons (H1074.up2 (by decide)) (has_cons (H1159.up2 (by decide)) (has_cons (H1158.up2 (by decide)) (has_cons (H1157.up2 (by decide)) (has_cons (H1081.up2 (by decide)) (has_cons (H1082.up2 (by decide)) (has_cons (H1167.up2 (by decide)) (has_cons (H1169.up2 (by decide)) (has_cons (H1160.up2 (by decide)) (has_cons (H1083.up2 (by decide)) (has_cons (H1161.up2 (by decide)) (has_cons (H105.up2 (by decide)) (has_cons (H1075.up2 (by decide)) (has_cons (H1076.up2 (by decide)) (has_cons (H2105.up2 (by decide)) (has_cons (H1077.up2 (by decide)) (has_cons (H1202.up2 (by decide)) has_nil))))))))))))))))))))))))))))))) (hac_cons (HC5.up (by decide)) (hac_cons (HC6.up (by decide)) hac_nil)) (fun c n h => by
    have h2 : (c, n) ∈ ([(1, 1203)] : List (Nat × Nat)) := List.contains_iff_mem.mp h
    simp only [List.mem_cons, List.not_mem_nil, or_false, Prod.mk.injEq] at h2
    rcases h2 with ⟨rfl, rfl⟩
    · exact PG1203.mono (by decide))
  have FR := fok_of F1170 sc_right TKR (fun _ => rfl) i__law_right rfl ck_right hc_right
  have FW := fn_new (C := C_well0) F1901 sc_well (T0 0) (fun _ => rfl) wl_is rfl wl_ir ck_well hc_well
  have FL := law_fn (G := G0) (C := C_law) F1171 sc_law (T0 59) (fun _ => rfl) rfl ck_law FR FW (by decide) (by decide) m1170 m1901 F1170.kp F1901.kp (F1170.binds fun _ _ _ _ _ _ us hl => match us, hl with | [_], _ => rfl) (F1901.binds fun _ _ _ _ _ _ us hl => match us, hl with | [_, _], _ => rfl) rfl rfl hc_law
  exact FL.imp fun vs H Q E ⟨a, ns, e, hH, hS, hl, hq⟩ => by
    subst e
    refine sp_lawT (cs := [(c0, P0), (c1, P1)]) rfl (fun q hq => ?_) hH hS (fun d hd => ?_) hq
    · simp only [G0, G1, List.mem_cons, List.not_mem_nil, or_false] at hq
      rcases hq with rfl | rfl
      · exact ⟨(c0, P0), by simp, rfl⟩
      · exact ⟨(c1, P1), by simp, rfl⟩
    · rcases hd with rfl | rfl <;> exact ⟨ns, rfl, hl, rfl⟩
end SD

open PySem PySem.W PyProof.Rows in
set_option maxRecDepth 100000 in
set_option maxHeartbeats 0 in
theorem PySem.Challenge.cw_portedlines_k52_whole_days_along_all_way_holds : PySem.Challenge.rw_portedlines_k52_whole_days_along_all_way.Holds := by
  w_on; o_law; k_head; (case hw => w_witness2)
  k_fill
  refine SD.walkLT (l := PySem.Challenge.rw_portedlines_k52_whole_days_along_all_way) rfl rfl (fun w h Y => PySem.W.km_in_of Y) ?F
  case F =>
    intro w mg fa h Y KX G hmg
    have hT8 := PySem.W.km_tabs_of Y
    refine' SD.fin KX G hmg ?d_days_by ?d_is_whole ?d_is_number ?d_is_tuple_of ?d_wrong_at ?d_is_letters ?d_is_name ?d_is_one_of ?d_is_cause ?d_are_causes ?d_is_event ?d_check_events ?d_check_flow ?d_is_row ?d_are_delays ?d_days ?d__law_urn ?d__law_take ?d__law_of ?d__law_names ?d__law_same ?d__law_flow ?d__law_days ?d__law_ends ?d__law_ways ?d__law_delays ?d__law_longest ?d__law_turned ?d__law_right ?d_law ?d_Flow ?p_Flow_events ?t0 ?t1 ?c_SMALL_LETTERS ?c_MOST_IN_NAME ?c_WORDS ?c_MOST_DELAY ?c_FEWEST_EVENTS ?c_MOST_EVENTS ?c_MOST_CAUSES ?b_len ?b_abs ?b_sum ?b_max ?b_min ?b_all ?b_any ?b_int ?b_bool ?b_list ?b_tuple ?b_isinstance ?b_str ?b_dict ?b_range ?b_enumerate ?b_zip ?b_reversed ?b_sorted ?b_set ?b_divmod
    (case d_days_by => refine' SD.def_at ?a ?l ?c ?k; (case a => k_is); (case l => k_is); (case c => k_is); (case k => k_is))
    (case d_is_whole => refine' SD.def_at ?a ?l ?c ?k; (case a => k_is); (case l => k_is); (case c => k_is); (case k => k_is))
    (case d_is_number => refine' SD.def_at ?a ?l ?c ?k; (case a => k_is); (case l => k_is); (case c => k_is); (case k => k_is))
    (case d_is_tuple_of => refine' SD.def_at ?a ?l ?c ?k; (case a => k_is); (case l => k_is); (case c => k_is); (case k => k_is))
    (case d_wrong_at => refine' SD.def_at ?a ?l ?c ?k; (case a => k_is); (case l => k_is); (case c => k_is); (case k => k_is))
    (case d_is_letters => refine' SD.def_at ?a ?l ?c ?k; (case a => k_is); (case l => k_is); (case c => k_is); (case k => k_is))
    (case d_is_name => refine' SD.def_at ?a ?l ?c ?k; (case a => k_is); (case l => k_is); (case c => k_is); (case k => k_is))
    (case d_is_one_of => refine' SD.def_at ?a ?l ?c ?k; (case a => k_is); (case l => k_is); (case c => k_is); (case k => k_is))
    (case d_is_cause => refine' SD.def_at ?a ?l ?c ?k; (case a => k_is); (case l => k_is); (case c => k_is); (case k => k_is))
    (case d_are_causes => refine' SD.defc_at ?a ?l ?u ?t ?h ?n ?c ?k; (case a => k_is); (case l => k_is); (case u => k_is); (case t => exact rfl); (case h => kernel_rfl); (case n => kernel_rfl); (case c => k_is); (case k => k_is))
    (case d_is_event => refine' SD.def_at ?a ?l ?c ?k; (case a => k_is); (case l => k_is); (case c => k_is); (case k => k_is))
    (case d_check_events => refine' SD.defc_at ?a ?l ?u ?t ?h ?n ?c ?k; (case a => k_is); (case l => k_is); (case u => k_is); (case t => exact rfl); (case h => kernel_rfl); (case n => kernel_rfl); (case c => k_is); (case k => k_is))
    (case d_check_flow => refine' SD.def_at ?a ?l ?c ?k; (case a => k_is); (case l => k_is); (case c => k_is); (case k => k_is))
    (case d_is_row => refine' SD.def_at ?a ?l ?c ?k; (case a => k_is); (case l => k_is); (case c => k_is); (case k => k_is))
    (case d_are_delays => refine' SD.def_at ?a ?l ?c ?k; (case a => k_is); (case l => k_is); (case c => k_is); (case k => k_is))
    (case d_days => refine' SD.def_at ?a ?l ?c ?k; (case a => k_is); (case l => k_is); (case c => k_is); (case k => k_is))
    (case d__law_urn => refine' SD.def_at ?a ?l ?c ?k; (case a => k_is); (case l => k_is); (case c => k_is); (case k => k_is))
    (case d__law_take => refine' SD.def_at ?a ?l ?c ?k; (case a => k_is); (case l => k_is); (case c => k_is); (case k => k_is))
    (case d__law_of => refine' SD.def_at ?a ?l ?c ?k; (case a => k_is); (case l => k_is); (case c => k_is); (case k => k_is))
    (case d__law_names => refine' SD.def_at ?a ?l ?c ?k; (case a => k_is); (case l => k_is); (case c => k_is); (case k => k_is))
    (case d__law_same => refine' SD.def_at ?a ?l ?c ?k; (case a => k_is); (case l => k_is); (case c => k_is); (case k => k_is))
    (case d__law_flow => refine' SD.def_at ?a ?l ?c ?k; (case a => k_is); (case l => k_is); (case c => k_is); (case k => k_is))
    (case d__law_days => refine' SD.def_at ?a ?l ?c ?k; (case a => k_is); (case l => k_is); (case c => k_is); (case k => k_is))
    (case d__law_ends => refine' SD.def_at ?a ?l ?c ?k; (case a => k_is); (case l => k_is); (case c => k_is); (case k => k_is))
    (case d__law_ways => refine' SD.def_at ?a ?l ?c ?k; (case a => k_is); (case l => k_is); (case c => k_is); (case k => k_is))
    (case d__law_delays => refine' SD.def_at ?a ?l ?c ?k; (case a => k_is); (case l => k_is); (case c => k_is); (case k => k_is))
    (case d__law_longest => refine' SD.def_at ?a ?l ?c ?k; (case a => k_is); (case l => k_is); (case c => k_is); (case k => k_is))
    (case d__law_turned => refine' SD.def_at ?a ?l ?c ?k; (case a => k_is); (case l => k_is); (case c => k_is); (case k => k_is))
    (case d__law_right => refine' SD.def_at ?a ?l ?c ?k; (case a => k_is); (case l => k_is); (case c => k_is); (case k => k_is))
    (case d_law => refine' SD.def_at ?a ?l ?c ?k; (case a => k_is); (case l => k_is); (case c => k_is); (case k => k_is))
    (case d_Flow => refine' SD.cls_at ?a ?pg ?hd ?po ?sa ?ha ?hn ?htk ?hm ?me ?na ?mk ?hi ?fn ?kp ?l ?c ?k; (case a => first | k_is | kernel_rfl); (case pg => first | k_is | kernel_rfl); (case hd => first | k_is | kernel_rfl); (case po => first | k_is | kernel_rfl); (case sa => first | k_is | kernel_rfl); (case ha => first | k_is | kernel_rfl); (case hn => first | k_is | kernel_rfl); (case htk => first | k_is | kernel_rfl); (case hm => first | k_is | kernel_rfl); (case me => first | k_is | kernel_rfl); (case na => first | k_is | kernel_rfl); (case mk => first | k_is | kernel_rfl); (case hi => first | k_is | kernel_rfl); (case fn => first | k_is | kernel_rfl); (case kp => first | k_is | kernel_rfl); (case l => first | k_is | kernel_rfl); (case c => first | k_is | kernel_rfl); (case k => first | k_is | kernel_rfl))
    (case p_Flow_events => refine' SD.prp_at ?a ?h1 ?h2 ?h3 ?h4 ?l ?c ?k; (case a => first | k_is | kernel_rfl); (case h1 => first | k_is | kernel_rfl); (case h2 => first | k_is | kernel_rfl); (case h3 => first | k_is | kernel_rfl); (case h4 => first | k_is | kernel_rfl); (case l => first | k_is | kernel_rfl); (case c => first | k_is | kernel_rfl); (case k => first | k_is | kernel_rfl))
    (case t0 => exact hT8 _ (by k_mem))
    (case t1 => exact hT8 _ (by k_mem))
    (case c_SMALL_LETTERS => refine' SD.str_at ?a; (case a => k_is))
    (case c_MOST_IN_NAME => refine' SD.int_at ?a; (case a => k_is))
    (case c_WORDS => refine' SD.txt_at ?a ?l ?c ?d ?e ?z ?t; (case a => k_is); (case l => k_is); (case c => exact rfl); (case d => exact rfl); (case e => exact rfl); (case z => decide +kernel); (case t => decide +kernel))
    (case c_MOST_DELAY => refine' SD.int_at ?a; (case a => k_is))
    (case c_FEWEST_EVENTS => refine' SD.int_at ?a; (case a => k_is))
    (case c_MOST_EVENTS => refine' SD.int_at ?a; (case a => k_is))
    (case c_MOST_CAUSES => refine' SD.int_at ?a; (case a => k_is))
    (case b_len => k_is)
    (case b_abs => k_is)
    (case b_sum => k_is)
    (case b_max => k_is)
    (case b_min => k_is)
    (case b_all => k_is)
    (case b_any => k_is)
    (case b_int => k_is)
    (case b_bool => k_is)
    (case b_list => k_is)
    (case b_tuple => k_is)
    (case b_isinstance => k_is)
    (case b_str => k_is)
    (case b_dict => k_is)
    (case b_range => k_is)
    (case b_enumerate => k_is)
    (case b_zip => k_is)
    (case b_reversed => k_is)
    (case b_sorted => k_is)
    (case b_set => k_is)
    (case b_divmod => k_is)

