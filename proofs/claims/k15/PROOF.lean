import PyProof.Rows.All
import Wide.All
import OpenK.AllK
import Wide.FinOn
import HandS.ForMost
import HandS.Walk
import HandS.Flow
import HandS.Conv
import HandS.Codes
import HandS.Nested
import HandS.Lambda
import HandS.Deep
import HandS.TupAny
import HandS.TupLe
import HandS.TupLen
import HandS.Text
import HandS.Strs
import HandS.IsInst
import HandS.ClsMeth
import HandS.MakeKwOnly
import HandS.Property
import HandS.DictTup
import HandS.DictComp
import HandS.Small
import HandS.SlotsOwn
import HandS.Star
import HandS.Exc
import HandS.Records
import HandS.Zip
import HandS.NoneIn
import HandS.ExcOwn
import HandS.ExcInit
import HandS.ExcField
import HandS.ExcIs
import HandS.TryMany
import HandS.TryOnly
import HandS.WordsExc
import HandS.CallSlots
import HandS.Wide
import HandS.Rev
import HandS.RevRange
import HandS.StrMore
import HandS.Iter
import HandS.SortKw
import HandS.Style
import HandS.RaiseFrom
import HandS.SuiteRaise
import HandS.ExcCtx
import HandS.ExcInitHot
import HandS.HotCalls
import HandS.ExcValue
import KE.KOpsOwn
import KE.KExcSuper
import KE.GoesEnum
import KE.GoesMore
import HandS.Defaults
import HandS.MakeKw
import HandS.ExcSuper
import KE.SortKeyHeap
import HandS.Head0
import HandS.Head1
import HandS.Head2
import HandS.HeadEnd
import HandS.HeadHook1
import HandS.HeadHook2
import HandS.EndTab
import HandS.HeadNt
import KE.SortData
import KE.KDictDisplayH
import HandS.SetKeys
import HandS.ListItems
import PyProof.Rows.MatchSeqLen
import KE.KDictCopyH
import KE.KEqNest
import HandS.DeepEq
import KE.KDictOf
import PyProof.NeKinds
import KE.KCallOwn
import KE.KDflt
import PyProof.CollectIter
import HandS.FStr
import PyProof.FString3
import PyProof.Rows.StrIntSpec
import HandS.ReplaceDef
import HandS.ReplaceLit
import PyProof.Rows.StrCase
import PySem.Challenge.RW_everyboard_k15_texts_nearly_good
set_option Elab.async false
set_option maxRecDepth 100000
set_option linter.all false
set_option autoImplicit false
section
set_option maxHeartbeats 200000
namespace Dn
open PySem L2
abbrev Fg := PySem.W.Frag
inductive D where
  | non
  | bl (b : Bool)
  | int (i : Int)
  | str (s : Str)
  | tup (m : Bool) (xs : List D)
  | lst (xs : List D)
  | scr (xs : List Int)
  | dcK (kvs : List (Key × D))
  | dcT (kvs : List (List Key × D))
  | obj (c : Str) (fs : List (Str × D))
  | cell (n : Nat)
  | exc (c : Str) (fs : List (Str × D))
instance : Inhabited D := ⟨.non⟩
/-- slots: unset, frozen data, a list or dict of one's own, an object of one's own at a known address, a known address -/
inductive Sl where
  | un
  | fz (d : D)
  | ow (d : D)
  | sf (p : Addr) (d : D)
  | ad (p : Addr)
  | cl (c : Str)
instance : Inhabited Sl := ⟨.un⟩
abbrev Env := List Sl
abbrev Flds := List (Str × D)
inductive Out (α : Type) where
  | stuck
  | ok (a : α) (e : Env) (s : List D)
  | exn (c : Str) (fs : Flds) (e : Env) (s : List D)
abbrev M (α : Type) := Env → List D → Out α
namespace M
@[inline] def ret {α : Type} (a : α) : M α := fun e s => .ok a e s
@[inline] def stuck {α : Type} : M α := fun _ _ => .stuck
@[inline] def bind {α β : Type} (m : M α) (k : α → M β) : M β := fun e s => match m e s with
  | .ok a e' s' => k a e' s'
  | .stuck => .stuck
  | .exn c f e' s' => .exn c f e' s'
@[inline] def lift {α : Type} (o : Option α) : M α := fun e s => match o with
  | some a => .ok a e s
  | none => .stuck
end M
abbrev NTb := Addr × Str
/-- a dict -/
def DicO : HO → Prop
  | .dK _ => True
  | .dT _ => True
  | _ => False
/-- all that was there stands (a table of code objects may grow, a dict may be locked) -/
def Stays (H' : Hp) (a : Addr) (o : HO) : Prop := H' a = some o ∨ (∃ xs ys, o = .tbl xs ∧ H' a = some (.tbl ys)) ∨ (DicO o ∧ ∃ ob, H' a = some (.frz ob o))
def Sme (H H' : Hp) : Prop := ∀ a o, H a = some o → Stays H' a o
theorem Sme.refl (H : Hp) : Sme H H := fun _ _ h => .inl h
theorem Stays.trans {H H' : Hp} {a : Addr} {o : HO} (h : Stays H a o) (e : Sme H H') : Stays H' a o := by
  rcases h with q | ⟨xs, ys, e1, q⟩ | ⟨d, ob, q⟩
  · exact e a o q
  · rcases e a _ q with q' | ⟨_, zs, _, q'⟩ | ⟨d, _⟩
    · exact .inr (.inl ⟨xs, ys, e1, q'⟩)
    · exact .inr (.inl ⟨xs, zs, e1, q'⟩)
    · exact d.elim
  · rcases e a _ q with q' | ⟨_, zs, z, q'⟩ | ⟨d', _⟩
    · exact .inr (.inr ⟨d, ob, q'⟩)
    · cases z
    · exact d'.elim
theorem Sme.trans {H H1 H2 : Hp} (a : Sme H H1) (b : Sme H1 H2) : Sme H H2 := fun c o h => (a c o h).trans b
theorem Stays.upd {H : Hp} {a p : Addr} {o u : HO} (h : Stays H a o) (n : a ≠ p) : Stays (L2.upd H p u) a o := by
  unfold Stays
  rw [upd_ne n]; exact h
theorem Stays.ne {H : Hp} {a : Addr} {o : HO} (h : Stays H a o) : H a ≠ none := by
  rcases h with z | ⟨_, _, _, z⟩ | ⟨_, _, z⟩ <;> (rw [z]; exact fun q => nomatch q)
theorem Sme.free {H H' : Hp} (e : Sme H H') {l : Addr} (h : H' l = none) : H l = none := by
  cases q : H l with
  | none => rfl
  | some o => exact absurd h (e l o q).ne
theorem Sme.at {H H' : Hp} {a : Addr} {o : HO} (e : Sme H H') (h : H a = some o) (n : ∀ xs, o ≠ .tbl xs) (d : ¬ DicO o) : H' a = some o := by
  rcases e a o h with z | ⟨xs, _, z, _⟩ | ⟨z, _⟩
  · exact z
  · exact absurd z (n xs)
  · exact absurd z d
section
variable {H H' : Hp} {a : Addr}
theorem Sme.lst {vs : List V} (e : Sme H H') (h : H a = some (.lst vs)) : H' a = some (.lst vs) := e.at h (fun _ z => nomatch z) id
theorem Sme.tup {vs : List V} (e : Sme H H') (h : H a = some (.tup vs)) : H' a = some (.tup vs) := e.at h (fun _ z => nomatch z) id
theorem Sme.ins {C dx : Addr} {fs : List (Str × V)} (e : Sme H H') (h : H a = some (.ins C dx fs)) : H' a = some (.ins C dx fs) := e.at h (fun _ z => nomatch z) id
theorem Sme.frz {o : Obj} {u : HO} (e : Sme H H') (h : H a = some (.frz o u)) : H' a = some (.frz o u) := e.at h (fun _ z => nomatch z) id
theorem Sme.xd {fs : List (Str × V)} (e : Sme H H') (h : H a = some (.xd fs)) : H' a = some (.xd fs) := e.at h (fun _ z => nomatch z) id
theorem Sme.rd {u : HO} (d : DicO u) (e : Sme H H') (h : Rd H a u) : Rd H' a u := by
  rcases h with h | ⟨o, h⟩
  · rcases e a _ h with z | ⟨_, _, z, _⟩ | ⟨_, ob, z⟩
    · exact .inl z
    · subst z; exact d.elim
    · exact .inr ⟨ob, z⟩
  · exact .inr ⟨o, e.frz h⟩
theorem Sme.dK {vs : List (Key × V)} (e : Sme H H') (h : Rd H a (.dK vs)) : Rd H' a (.dK vs) := e.rd trivial h
theorem Sme.dT {vs : List (List Key × V)} (e : Sme H H') (h : Rd H a (.dT vs)) : Rd H' a (.dT vs) := e.rd trivial h
theorem sqt_mono {K : Fg} {xs : List V} (e : Sme H H') (h : SqT K H a xs) : SqT K H' a xs := by
  rcases h with (h | ⟨o, h⟩) | h
  · exact .inl (.inl (e.tup h))
  · exact .inl (.inr ⟨o, e.frz h⟩)
  · exact .inr h
theorem sql_mono {K : Fg} {xs : List V} (e : Sme H H') (h : SqL K H a xs) : SqL K H' a xs := by
  rcases h with (h | ⟨o, h⟩) | h
  · exact .inl (.inl (e.lst h))
  · exact .inl (.inr ⟨o, e.frz h⟩)
  · exact .inr h
end
/-- a tuple whose methods may be called -/
def NdT (K : Fg) (H : Hp) (a : Addr) (vs : List V) : Prop := (∃ o, H a = some (.frz o (.tup vs)) ∧ o.dict = none) ∨
  ∃ (o : Obj) (its : Array Value) (n : Nat), K.lookup a = some o ∧ o.cls = .type "tuple" ∧ o.dict = none ∧ o.data = .seq its n ∧ its.size ≤ sizeLine ∧ Vals vs its.toList
theorem NdT.sq {K : Fg} {H : Hp} {a : Addr} {vs : List V} (h : NdT K H a vs) : SqT K H a vs := by
  rcases h with ⟨o, h, _⟩ | ⟨o, its, n, h1, h2, _, h3, h4, h5⟩
  · exact .inl (.inr ⟨o, h⟩)
  · exact .inr ⟨o, its, n, h1, h2, h3, h4, h5⟩
theorem NdT.mono {K : Fg} {H H' : Hp} {a : Addr} {vs : List V} (e : Sme H H') (h : NdT K H a vs) : NdT K H' a vs := by
  rcases h with ⟨o, h, d⟩ | h
  · exact .inl ⟨o, e.frz h, d⟩
  · exact .inr h
/-- an exception that stands: made (exo), or caught and held -/
def exV (a C : Addr) (dd : Option Addr) : HO := .ext fun h => ∃ o vs, h.get? a = some o ∧ o.cls = .ref C ∧ o.dict = dd ∧ o.data = .fields vs
def ExAt (B : Hp) (a C : Addr) (dd : Option Addr) : Prop := B a = some (exo a C dd) ∨ ∃ oe, B a = some (.frz oe (exV a C dd))
/-- its dict -/
def XdAt (B : Hp) (d : Addr) (us : List (Str × V)) : Prop := B d = some (exd d us) ∨ B d = some (.xd us)
theorem ExAt.mono {B B' : Hp} {a C : Addr} {dd : Option Addr} (e : Sme B B') (h : ExAt B a C dd) : ExAt B' a C dd := by
  rcases h with h | ⟨oe, h⟩
  · exact .inl (e.at h (fun _ z => nomatch (show HO.ext _ = HO.tbl _ from z)) id)
  · exact .inr ⟨oe, e.frz h⟩
theorem XdAt.mono {B B' : Hp} {d : Addr} {us : List (Str × V)} (e : Sme B B') (h : XdAt B d us) : XdAt B' d us := by
  rcases h with h | h
  · exact .inl (e.at h (fun _ z => nomatch (show HO.ext _ = HO.tbl _ from z)) id)
  · exact .inr (e.xd h)
mutual
inductive Rp (K : Fg) (ca : Str → Addr) (cs : List Addr) (B : Hp) : V → D → Prop
  | non : Rp K ca cs B .non .non
  | bl (b : Bool) : Rp K ca cs B (.bl b) (.bl b)
  | int (i : Int) : Rp K ca cs B (.int i) (.int i)
  | str (s : Str) : Rp K ca cs B (.str s) (.str s)
  | tup {a : Addr} {vs : List V} {xs : List D} : B a = some (.tup vs) → RpL K ca cs B vs xs → Rp K ca cs B (.ref a) (.tup false xs)
  | tupM {a : Addr} {vs : List V} {xs : List D} : NdT K B a vs → RpL K ca cs B vs xs → Rp K ca cs B (.ref a) (.tup true xs)
  | lst {a : Addr} {vs : List V} {xs : List D} : B a = some (.lst vs) → RpL K ca cs B vs xs → Rp K ca cs B (.ref a) (.lst xs)
  | scr {a : Addr} {xs : List Int} : SqL K B a (xs.map V.int) → Rp K ca cs B (.ref a) (.scr xs)
  | dcK {a : Addr} {ws : List (Key × V)} {kvs : List (Key × D)} : Rd B a (.dK ws) → ws.map (·.1) = kvs.map (·.1) → RpL K ca cs B (ws.map (·.2)) (kvs.map (·.2)) → Rp K ca cs B (.ref a) (.dcK kvs)
  | dcT {a : Addr} {ws : List (List Key × V)} {kvs : List (List Key × D)} : Rd B a (.dT ws) → ws.map (·.1) = kvs.map (·.1) → RpL K ca cs B (ws.map (·.2)) (kvs.map (·.2)) → Rp K ca cs B (.ref a) (.dcT kvs)
  | obj {a dx : Addr} {c : Str} {ws : List (Str × V)} {fs : Flds} : B a = some (.ins (ca c) dx ws) → ws.map (·.1) = fs.map (·.1) → RpL K ca cs B (ws.map (·.2)) (fs.map (·.2)) → Rp K ca cs B (.ref a) (.obj c fs)
  | cell {a : Addr} {n : Nat} : cs[n]? = some a → Rp K ca cs B (.ref a) (.cell n)
  | exc0 {a : Addr} {c : Str} : ExAt B a (ca c) none → Rp K ca cs B (.ref a) (.exc c [])
  | exc {a d : Addr} {c : Str} {us : List (Str × V)} {fs : Flds} : ExAt B a (ca c) (some d) → XdAt B d us → (∀ f y, fs.lookup f = some y → (us.lookup f).isSome = true) → (∀ f y v, fs.lookup f = some y → us.lookup f = some v → Rp K ca cs B v y) → Rp K ca cs B (.ref a) (.exc c fs)
inductive RpL (K : Fg) (ca : Str → Addr) (cs : List Addr) (B : Hp) : List V → List D → Prop
  | nil : RpL K ca cs B [] []
  | cons {v : V} {d : D} {vs : List V} {ds : List D} : Rp K ca cs B v d → RpL K ca cs B vs ds → RpL K ca cs B (v :: vs) (d :: ds)
end
def Pre {α : Type} (xs ys : List α) : Prop := ∃ zs, ys = xs ++ zs
theorem Pre.refl {α : Type} (xs : List α) : Pre xs xs := ⟨[], by simp⟩
theorem Pre.trans {α : Type} {xs ys zs : List α} (a : Pre xs ys) (b : Pre ys zs) : Pre xs zs := by
  obtain ⟨u, rfl⟩ := a; obtain ⟨v, rfl⟩ := b; exact ⟨u ++ v, by simp⟩
theorem Pre.get {α : Type} {xs ys : List α} (a : Pre xs ys) {i : Nat} {x : α} (h : xs[i]? = some x) : ys[i]? = some x := by
  obtain ⟨u, rfl⟩ := a
  rw [List.getElem?_append_left (List.getElem?_eq_some_iff.mp h).1]; exact h
section
variable {K : Fg} {ca : Str → Addr} {cs cs' : List Addr} {B B' H H' : Hp}
mutual
theorem Rp.mono (e : Sme B B') (p : Pre cs cs') : ∀ {v : V} {d : D}, Rp K ca cs B v d → Rp K ca cs' B' v d
  | _, _, .non => .non
  | _, _, .bl b => .bl b
  | _, _, .int i => .int i
  | _, _, .str i => .str i
  | _, _, .tup h r => .tup (e.tup h) (r.mono e p)
  | _, _, .tupM h r => .tupM (h.mono e) (r.mono e p)
  | _, _, .lst h r => .lst (e.lst h) (r.mono e p)
  | _, _, .scr h => .scr (sql_mono e h)
  | _, _, .dcK h k r => .dcK (e.dK h) k (r.mono e p)
  | _, _, .dcT h k r => .dcT (e.dT h) k (r.mono e p)
  | _, _, .obj h k r => .obj (e.ins h) k (r.mono e p)
  | _, _, .cell h => .cell (p.get h)
  | _, _, .exc0 h => .exc0 (h.mono e)
  | _, _, .exc h x k r => .exc (h.mono e) (x.mono e) k fun f y v h1 h2 => (r f y v h1 h2).mono e p
theorem RpL.mono (e : Sme B B') (p : Pre cs cs') : ∀ {vs : List V} {ds : List D}, RpL K ca cs B vs ds → RpL K ca cs' B' vs ds
  | _, _, .nil => .nil
  | _, _, .cons h r => .cons (h.mono e p) (r.mono e p)
end
theorem RpL.len : ∀ {vs : List V} {ds : List D}, RpL K ca cs B vs ds → vs.length = ds.length
  | _, _, .nil => rfl
  | _, _, .cons _ r => by rw [List.length_cons, List.length_cons, r.len]
theorem RpL.get : ∀ {vs : List V} {ds : List D} {i : Nat} {d : D}, RpL K ca cs B vs ds → ds[i]? = some d → ∃ v, vs[i]? = some v ∧ Rp K ca cs B v d
  | _, _, _, _, .nil, e => by simp at e
  | _, _, 0, _, .cons r _, e => by simp at e; subst e; exact ⟨_, rfl, r⟩
  | _, _, i + 1, d, .cons _ t, e => by
    obtain ⟨v, h1, h2⟩ := t.get (i := i) (d := d) (by simpa using e)
    exact ⟨v, by simpa using h1, h2⟩
theorem RpL.app : ∀ {vs ws : List V} {xs ys : List D}, RpL K ca cs B vs xs → RpL K ca cs B ws ys → RpL K ca cs B (vs ++ ws) (xs ++ ys)
  | _, _, _, _, .nil, s => s
  | _, _, _, _, .cons r t, s => .cons r (t.app s)
theorem RpL.set {v : V} {x : D} (r : Rp K ca cs B v x) : ∀ {vs : List V} {xs : List D} (i : Nat), RpL K ca cs B vs xs → RpL K ca cs B (vs.set i v) (xs.set i x)
  | _, _, _, .nil => .nil
  | _, _, 0, .cons _ t => .cons r t
  | _, _, i + 1, .cons q t => .cons q (RpL.set r i t)
theorem RpL.take : ∀ {vs : List V} {xs : List D} (n : Nat), RpL K ca cs B vs xs → RpL K ca cs B (vs.take n) (xs.take n)
  | _, _, 0, _ => by simp; exact .nil
  | _, _, _ + 1, .nil => .nil
  | _, _, n + 1, .cons r t => .cons r (t.take n)
theorem RpL.drop : ∀ {vs : List V} {xs : List D} (n : Nat), RpL K ca cs B vs xs → RpL K ca cs B (vs.drop n) (xs.drop n)
  | _, _, 0, r => r
  | _, _, _ + 1, .nil => .nil
  | _, _, n + 1, .cons _ t => t.drop n
theorem RpL.rev : ∀ {vs : List V} {xs : List D}, RpL K ca cs B vs xs → RpL K ca cs B vs.reverse xs.reverse
  | _, _, .nil => .nil
  | _, _, .cons r t => by rw [List.reverse_cons, List.reverse_cons]; exact t.rev.app (.cons r .nil)
theorem RpL.dropLast {vs : List V} {xs : List D} (r : RpL K ca cs B vs xs) : RpL K ca cs B vs.dropLast xs.dropLast := by
  rw [List.dropLast_eq_take, List.dropLast_eq_take, r.len]
  exact r.take _
theorem RpL.ints : ∀ {vs : List V} {xs : List Int}, RpL K ca cs B vs (xs.map D.int) → vs = xs.map V.int
  | [], [], .nil => rfl
  | _, _ :: _, .cons r t => by cases r; rw [List.map_cons, ← t.ints]
theorem RpL.strs : ∀ {vs : List V} {xs : List Str}, RpL K ca cs B vs (xs.map D.str) → vs = xs.map V.str
  | [], [], .nil => rfl
  | _, _ :: _, .cons r t => by cases r; rw [List.map_cons, ← t.strs]
theorem RpL.bls : ∀ {vs : List V} {xs : List Bool}, RpL K ca cs B vs (xs.map D.bl) → vs = xs.map V.bl
  | [], [], .nil => rfl
  | _, _ :: _, .cons r t => by cases r; rw [List.map_cons, ← t.bls]
def Own (K : Fg) (ca : Str → Addr) (cs : List Addr) (B H : Hp) (p : Addr) : D → Prop
  | .lst xs => ∃ vs, H p = some (.lst vs) ∧ B p = none ∧ RpL K ca cs B vs xs
  | .dcK kvs => ∃ ws, H p = some (.dK ws) ∧ B p = none ∧ ws.map (·.1) = kvs.map (·.1) ∧ RpL K ca cs B (ws.map (·.2)) (kvs.map (·.2))
  | .dcT kvs => ∃ ws, H p = some (.dT ws) ∧ B p = none ∧ ws.map (·.1) = kvs.map (·.1) ∧ RpL K ca cs B (ws.map (·.2)) (kvs.map (·.2))
  | .obj c fs => ∃ dx ws, H p = some (.ins (ca c) dx ws) ∧ B p = none ∧ ws.map (·.1) = fs.map (·.1) ∧ RpL K ca cs B (ws.map (·.2)) (fs.map (·.2))
  | _ => False
/-- what is read: frozen or one's own -/
def Lk (K : Fg) (ca : Str → Addr) (cs : List Addr) (B H : Hp) (v : V) (d : D) : Prop := Rp K ca cs B v d ∨ ∃ p, v = .ref p ∧ Own K ca cs B H p d
theorem Lk.lst {v : V} {xs : List D} (s : Sme B H) (h : Lk K ca cs B H v (.lst xs)) : ∃ a vs, v = .ref a ∧ H a = some (.lst vs) ∧ RpL K ca cs B vs xs := by
  rcases h with h | ⟨p, e, vs, h1, _, h3⟩
  · cases h with
    | lst h r => exact ⟨_, _, rfl, s.lst h, r⟩
  · exact ⟨p, vs, e, h1, h3⟩
theorem Lk.dcK {v : V} {xs : List (Key × D)} (s : Sme B H) (h : Lk K ca cs B H v (.dcK xs)) : ∃ a ws, v = .ref a ∧ Rd H a (.dK ws) ∧ ws.map (·.1) = xs.map (·.1) ∧ RpL K ca cs B (ws.map (·.2)) (xs.map (·.2)) := by
  rcases h with h | ⟨p, e, vs, h1, _, h3⟩
  · cases h with
    | dcK h k r => exact ⟨_, _, rfl, s.dK h, k, r⟩
  · exact ⟨p, vs, e, .inl h1, h3⟩
theorem Lk.dcT {v : V} {xs : List (List Key × D)} (s : Sme B H) (h : Lk K ca cs B H v (.dcT xs)) : ∃ a ws, v = .ref a ∧ Rd H a (.dT ws) ∧ ws.map (·.1) = xs.map (·.1) ∧ RpL K ca cs B (ws.map (·.2)) (xs.map (·.2)) := by
  rcases h with h | ⟨p, e, vs, h1, _, h3⟩
  · cases h with
    | dcT h k r => exact ⟨_, _, rfl, s.dT h, k, r⟩
  · exact ⟨p, vs, e, .inl h1, h3⟩
theorem Lk.obj {v : V} {c : Str} {fs : Flds} (s : Sme B H) (h : Lk K ca cs B H v (.obj c fs)) : ∃ a dx ws, v = .ref a ∧ H a = some (.ins (ca c) dx ws) ∧ ws.map (·.1) = fs.map (·.1) ∧ RpL K ca cs B (ws.map (·.2)) (fs.map (·.2)) := by
  rcases h with h | ⟨p, e, dx, vs, h1, _, h3⟩
  · cases h with
    | obj h k r => exact ⟨_, _, _, rfl, s.ins h, k, r⟩
  · exact ⟨p, dx, vs, e, h1, h3⟩
theorem Lk.tup {v : V} {m : Bool} {xs : List D} (s : Sme B H) (h : Lk K ca cs B H v (.tup m xs)) : ∃ a vs, v = .ref a ∧ SqT K B a vs ∧ SqT K H a vs ∧ RpL K ca cs B vs xs := by
  rcases h with h | ⟨p, e, h⟩
  · cases h with
    | tup h r => exact ⟨_, _, rfl, SqT.of h, SqT.of (s.tup h), r⟩
    | tupM h r => exact ⟨_, _, rfl, h.sq, (h.mono s).sq, r⟩
  · cases h
theorem Lk.exc {v : V} {c : Str} {fs : Flds} (h : Lk K ca cs B H v (.exc c fs)) : Rp K ca cs B v (.exc c fs) := by
  rcases h with h | ⟨p, e, h⟩
  · exact h
  · cases h
theorem Lk.int {v : V} {i : Int} (h : Lk K ca cs B H v (.int i)) : v = .int i := by
  rcases h with h | ⟨p, e, h⟩
  · cases h; rfl
  · cases h
theorem Lk.bl {v : V} {i : Bool} (h : Lk K ca cs B H v (.bl i)) : v = .bl i := by
  rcases h with h | ⟨p, e, h⟩
  · cases h; rfl
  · cases h
theorem Lk.str {v : V} {i : Str} (h : Lk K ca cs B H v (.str i)) : v = .str i := by
  rcases h with h | ⟨p, e, h⟩
  · cases h; rfl
  · cases h
theorem Lk.non {v : V} (h : Lk K ca cs B H v .non) : v = .non := by
  rcases h with h | ⟨p, e, h⟩
  · cases h; rfl
  · cases h
theorem Lk.scr {v : V} {xs : List Int} (s : Sme B H) (h : Lk K ca cs B H v (.scr xs)) : ∃ a, v = .ref a ∧ SqL K B a (xs.map V.int) ∧ SqL K H a (xs.map V.int) := by
  rcases h with h | ⟨p, e, h⟩
  · cases h with
    | scr h => exact ⟨_, rfl, h, sql_mono s h⟩
  · cases h
end
def Hid (o : Option HO) : Prop := ∃ u, o = some u ∧ ∀ vs, u ≠ .tup vs
theorem Hid.ne {o : Option HO} (h : Hid o) : o ≠ none := by
  obtain ⟨u, e, _⟩ := h
  rw [e]; exact fun z => nomatch z
structure Gr (T : List NTb) (ps : List Addr) (B H B' H' : Hp) : Prop where
  b : Sme B B'
  h : ∀ a o, a ∉ ps → H a = some o → H' a = some o ∨ (∃ xs ys, o = .tbl xs ∧ H' a = some (.tbl ys)) ∨ (DicO o ∧ B' a ≠ none ∧ ∃ ob, H' a = some (.frz ob o))
  s : Sme B' H'
  n : ∀ a, Hid (H a) → B a = none → B' a = none
  t : LamX.Tabs T H → LamX.Tabs T H'
  l : ∀ p ∈ ps, Hid (H p) → Hid (H' p)
section
variable {T : List NTb}
theorem Gr.refl {ps : List Addr} {B H : Hp} (s : Sme B H) : Gr T ps B H B H := ⟨Sme.refl B, fun _ _ _ h => .inl h, s, fun _ _ h => h, fun h => h, fun _ _ h => h⟩
theorem Gr.same {B H B' H' : Hp} (g : Gr T [] B H B' H') : Sme H H' := fun a o h => by
  rcases g.h a o (by simp) h with z | z | ⟨d, _, z⟩
  · exact .inl z
  · exact .inr (.inl z)
  · exact .inr (.inr ⟨d, z⟩)
theorem Gr.stay {ps : List Addr} {B H B' H' : Hp} (g : Gr T ps B H B' H') {a : Addr} (h : Hid (H a)) : Hid (H' a) := by
  by_cases hp : a ∈ ps
  · exact g.l a hp h
  · obtain ⟨o, e, n⟩ := h
    rcases g.h a o hp e with q | ⟨_, ys, _, q⟩ | ⟨_, _, _, q⟩
    · exact ⟨o, q, n⟩
    · exact ⟨_, q, fun _ z => nomatch z⟩
    · exact ⟨_, q, fun _ z => nomatch z⟩
theorem nn_of {B B' : Hp} (b : Sme B B') {a : Addr} (h : B a ≠ none) : B' a ≠ none := fun z => h (b.free z)
theorem Gr.trans {ps : List Addr} {B H B1 H1 B2 H2 : Hp} (a : Gr T ps B H B1 H1) (b : Gr T ps B1 H1 B2 H2) : Gr T ps B H B2 H2 :=
  ⟨a.b.trans b.b, fun c o hc h => by
    rcases a.h c o hc h with q | ⟨xs, ys, e, q⟩ | ⟨d, nb, ob, q⟩
    · exact b.h c o hc q
    · rcases b.h c _ hc q with q' | ⟨_, zs, _, q'⟩ | ⟨d, _⟩
      · exact .inr (.inl ⟨xs, ys, e, q'⟩)
      · exact .inr (.inl ⟨xs, zs, e, q'⟩)
      · exact d.elim
    · rcases b.h c _ hc q with q' | ⟨_, zs, z, q'⟩ | ⟨d', _⟩
      · exact .inr (.inr ⟨d, nn_of b.b nb, ob, q'⟩)
      · cases z
      · exact d'.elim, b.s, fun c hc h => b.n c (a.stay hc) (a.n c hc h), fun z => b.t (a.t z), fun p hp h => b.l p hp (a.l p hp h)⟩
theorem Gr.wk {ps qs : List Addr} {B H B' H' : Hp} (g : Gr T ps B H B' H') (h : ∀ a ∈ ps, a ∈ qs) : Gr T qs B H B' H' := ⟨g.b, fun a o ha => g.h a o fun z => ha (h a z), g.s, g.n, g.t, fun p _ hp => g.stay hp⟩
theorem Gr.wk0 {qs : List Addr} {B H B' H' : Hp} (g : Gr T [] B H B' H') : Gr T qs B H B' H' := g.wk fun _ z => nomatch z
theorem free_b {B H : Hp} {p : Addr} (s : Sme B H) (h : H p = none) : B p = none := s.free h
/-- neither a table nor a code object -/
def Pln : Option HO → Prop
  | some (.tbl _) => False
  | some (.ext _) => False
  | _ => True
theorem tabs_upd {H : Hp} {p : Addr} {o : HO} (h : Pln (H p)) (t : LamX.Tabs T H) : LamX.Tabs T (upd H p o) := fun q hq => by
  obtain ⟨ps, e, k, f⟩ := t q hq
  refine ⟨ps, ?_, k, fun pos cv hc => ?_⟩
  · rw [upd_ne (fun z => by rw [z] at e; rw [e] at h; exact h)]; exact e
  · obtain ⟨c, ec, hc⟩ := f pos cv hc
    exact ⟨c, ec, by rw [upd_ne (fun z => by rw [z] at hc; rw [hc] at h; exact h)]; exact hc⟩
theorem Pln.none {H : Hp} {p : Addr} (h : H p = none) : Pln (H p) := by rw [h]; exact trivial
/-- a new object that is never changed any more -/
theorem Gr.alloc {B H : Hp} {p : Addr} {o : HO} (s : Sme B H) (h : H p = none) : Gr T [] B H (upd B p o) (upd H p o) where
  b := fun a u e => Stays.upd (.inl e) (ne_of_none e (free_b s h))
  h := fun a u _ e => by rw [upd_ne (ne_of_none e h)]; exact .inl e
  s := fun a u e => by
    by_cases q : a = p
    · subst q; rw [upd_same] at e; cases e; exact .inl upd_same
    · rw [upd_ne q] at e; exact (s a u e).upd q
  n := fun a ha hb => by rw [upd_ne (fun z => ha.ne (by rw [z]; exact h))]; exact hb
  t := tabs_upd (Pln.none h)
  l := fun _ z => nomatch z
/-- a new object that is one's own -/
theorem Gr.own {B H : Hp} {p : Addr} {o : HO} (s : Sme B H) (h : H p = none) : Gr T [] B H B (upd H p o) where
  b := Sme.refl B
  h := fun a u _ e => by rw [upd_ne (ne_of_none e h)]; exact .inl e
  s := fun a u e => (s a u e).upd (ne_of_none e (free_b s h))
  n := fun _ _ hb => hb
  t := tabs_upd (Pln.none h)
  l := fun _ z => nomatch z
/-- one's own object changed -/
theorem Gr.mut {B H : Hp} {p : Addr} {o : HO} (s : Sme B H) (h : B p = none) (l : Pln (H p)) (ho : ∀ vs, o ≠ .tup vs) : Gr T [p] B H B (upd H p o) where
  b := Sme.refl B
  h := fun a u ha e => by rw [upd_ne (fun z => ha (by simp [z]))]; exact .inl e
  s := fun a u e => (s a u e).upd (ne_of_none e h)
  n := fun _ _ hb => hb
  t := tabs_upd l
  l := fun q hq _ => by
    have : q = p := by simpa using hq
    subst this
    exact ⟨_, upd_same, ho⟩
end
/-- one's own object becomes one that is never changed any more -/
theorem frz_sme {B H : Hp} {p : Addr} {o : HO} (s : Sme B H) (h : H p = some o) (b : B p = none) : Sme B (upd B p o) ∧ Sme (upd B p o) H := by
  refine ⟨fun a u e => ?_, fun a u e => ?_⟩
  · exact Stays.upd (.inl e) (ne_of_none e b)
  · by_cases q : a = p
    · subst q; rw [upd_same] at e; cases e; exact .inl h
    · rw [upd_ne q] at e; exact s a u e
structure Fx where
  T : List NTb
  ca : Str → Addr
  B0 : Hp
  H0 : Hp
  cs0 : List Addr
/-- a slot: what stands there, the addresses that it owns -/
def SlR (K : Fg) (ca : Str → Addr) (cs : List Addr) (B H : Hp) : Sl → Option V → List Addr → Prop
  | .un, _, ps => ps = []
  | .fz d, w, ps => ps = [] ∧ ∃ v, w = some v ∧ Rp K ca cs B v d
  | .ow d, w, ps => ∃ p, ps = [p] ∧ w = some (.ref p) ∧ Own K ca cs B H p d
  | .sf p d, w, ps => ps = [p] ∧ w = some (.ref p) ∧ Own K ca cs B H p d
  | .ad p, w, ps => ps = [] ∧ w = some (.ref p)
  | .cl c, w, ps => ps = [] ∧ w = some (.ref (ca c))
inductive EnvR (K : Fg) (ca : Str → Addr) (cs : List Addr) (B H : Hp) : Env → L2.St → List Addr → Prop
  | nil : EnvR K ca cs B H [] [] []
  | cons {s : Sl} {w : Option V} {ps : List Addr} {e : Env} {σ : L2.St} {qs : List Addr} : SlR K ca cs B H s w ps → EnvR K ca cs B H e σ qs → EnvR K ca cs B H (s :: e) (w :: σ) (ps ++ qs)
structure SR (K : Fg) (x : Fx) (env : Env) (st : List D) (cs ows : List Addr) (σ : L2.St) (B H : Hp) : Prop where
  g : Gr x.T x.cs0 x.B0 x.H0 B H
  tb : LamX.Tabs x.T H
  en : EnvR K x.ca cs B H env σ ows
  ce : Paired (fun d p => Own K x.ca cs B H p d) st cs
  nd : (ows ++ cs).Nodup
  pr : Pre x.cs0 cs
  fo : ∀ p ∈ ows, x.H0 p = none
  fc : ∀ p ∈ cs, p ∉ x.cs0 → x.H0 p = none
theorem SR.s {K : Fg} {x : Fx} {env : Env} {st : List D} {cs ows : List Addr} {σ : L2.St} {B H : Hp} (h : SR K x env st cs ows σ B H) : Sme B H := h.g.s
end Dn
end
section
set_option maxHeartbeats 200000
namespace Dn
open PySem L2
section
variable {K : Fg} {ca : Str → Addr} {cs cs' : List Addr} {B B' H H' : Hp} {p q : Addr} {d d' : D}
/-- what is one's own at q stays so -/
def Kp (B H B' H' : Hp) (q : Addr) : Prop := Hid (H q) → B q = none → (∀ o, H q = some o → (∀ xs, o ≠ .tbl xs) → H' q = some o) ∧ B' q = none
theorem Kp.same (B H : Hp) (q : Addr) : Kp B H B H q := fun _ h => ⟨fun _ z _ => z, h⟩
theorem Own.keep (o : Own K ca cs B H p d) (b : Sme B B') (k : Kp B H B' H' p) (e : Pre cs cs') : Own K ca cs' B' H' p d := by
  cases d with
  | lst xs =>
    obtain ⟨vs, h1, h2, h3⟩ := o
    obtain ⟨k1, k2⟩ := k ⟨_, h1, fun _ z => nomatch z⟩ h2
    exact ⟨vs, k1 _ h1 (fun _ z => nomatch z), k2, h3.mono b e⟩
  | dcK xs =>
    obtain ⟨vs, h1, h2, h3, h4⟩ := o
    obtain ⟨k1, k2⟩ := k ⟨_, h1, fun _ z => nomatch z⟩ h2
    exact ⟨vs, k1 _ h1 (fun _ z => nomatch z), k2, h3, h4.mono b e⟩
  | dcT xs =>
    obtain ⟨vs, h1, h2, h3, h4⟩ := o
    obtain ⟨k1, k2⟩ := k ⟨_, h1, fun _ z => nomatch z⟩ h2
    exact ⟨vs, k1 _ h1 (fun _ z => nomatch z), k2, h3, h4.mono b e⟩
  | obj c fs =>
    obtain ⟨dx, vs, h1, h2, h3, h4⟩ := o
    obtain ⟨k1, k2⟩ := k ⟨_, h1, fun _ z => nomatch z⟩ h2
    exact ⟨dx, vs, k1 _ h1 (fun _ z => nomatch z), k2, h3, h4.mono b e⟩
  | _ => exact o.elim
theorem Own.live (o : Own K ca cs B H p d) : Hid (H p) := by
  cases d with
  | lst xs => obtain ⟨vs, h1, h2, h3⟩ := o; exact ⟨_, h1, fun _ z => nomatch z⟩
  | dcK xs => obtain ⟨vs, h1, h2, h3⟩ := o; exact ⟨_, h1, fun _ z => nomatch z⟩
  | dcT xs => obtain ⟨vs, h1, h2, h3⟩ := o; exact ⟨_, h1, fun _ z => nomatch z⟩
  | obj c fs => obtain ⟨dx, vs, h1, h2, h3⟩ := o; exact ⟨_, h1, fun _ z => nomatch z⟩
  | _ => exact o.elim
theorem Own.pln (o : Own K ca cs B H p d) : Pln (H p) := by
  cases d with
  | lst xs => obtain ⟨vs, h1, h2, h3⟩ := o; rw [h1]; exact trivial
  | dcK xs => obtain ⟨vs, h1, h2, h3⟩ := o; rw [h1]; exact trivial
  | dcT xs => obtain ⟨vs, h1, h2, h3⟩ := o; rw [h1]; exact trivial
  | obj c fs => obtain ⟨dx, vs, h1, h2, h3⟩ := o; rw [h1]; exact trivial
  | _ => exact o.elim
theorem Own.nb (o : Own K ca cs B H p d) : B p = none := by
  cases d with
  | lst xs => obtain ⟨vs, h1, h2, h3⟩ := o; exact h2
  | dcK xs => obtain ⟨vs, h1, h2, h3⟩ := o; exact h2
  | dcT xs => obtain ⟨vs, h1, h2, h3⟩ := o; exact h2
  | obj c fs => obtain ⟨dx, vs, h1, h2, h3⟩ := o; exact h2
  | _ => exact o.elim
/-- given up: from now on frozen -/
theorem Own.frz (o : Own K ca cs B H p d) (s : Sme B H) : ∃ u, H p = some u ∧ (∀ vs, u ≠ .tup vs) ∧ Rp K ca cs (upd B p u) (.ref p) d := by
  cases d with
  | lst xs => obtain ⟨vs, h1, h2, h3⟩ := o; exact ⟨_, h1, fun _ z => (nomatch z), .lst upd_same (h3.mono (frz_sme s h1 h2).1 (Pre.refl _))⟩
  | dcK xs => obtain ⟨vs, h1, h2, h3, h4⟩ := o; exact ⟨_, h1, fun _ z => (nomatch z), .dcK (.inl upd_same) h3 (h4.mono (frz_sme s h1 h2).1 (Pre.refl _))⟩
  | dcT xs => obtain ⟨vs, h1, h2, h3, h4⟩ := o; exact ⟨_, h1, fun _ z => (nomatch z), .dcT (.inl upd_same) h3 (h4.mono (frz_sme s h1 h2).1 (Pre.refl _))⟩
  | obj c fs => obtain ⟨dx, vs, h1, h2, h3, h4⟩ := o; exact ⟨_, h1, fun _ z => (nomatch z), .obj upd_same h3 (h4.mono (frz_sme s h1 h2).1 (Pre.refl _))⟩
  | _ => exact o.elim
theorem SlR.keep {s : Sl} {w : Option V} {ps : List Addr} (h : SlR K ca cs B H s w ps) (b : Sme B B') (e : Pre cs cs') (k : ∀ q ∈ ps, Kp B H B' H' q) : SlR K ca cs' B' H' s w ps := by
  cases s with
  | un => exact h
  | fz d => obtain ⟨h1, v, h2, h3⟩ := h; exact ⟨h1, v, h2, h3.mono b e⟩
  | ow d => obtain ⟨p, rfl, h2, h3⟩ := h; exact ⟨p, rfl, h2, h3.keep b (k p (by simp)) e⟩
  | sf p d => obtain ⟨rfl, h2, h3⟩ := h; exact ⟨rfl, h2, h3.keep b (k p (by simp)) e⟩
  | ad p => exact h
  | cl c => exact h
theorem EnvR.keep {env : Env} {σ : L2.St} {ows : List Addr} (h : EnvR K ca cs B H env σ ows) (b : Sme B B') (e : Pre cs cs') (k : ∀ q ∈ ows, Kp B H B' H' q) : EnvR K ca cs' B' H' env σ ows := by
  induction h with
  | nil => exact .nil
  | cons r t ih => exact .cons (r.keep b e fun q hq => k q (by simp [hq])) (ih fun q hq => k q (by simp [hq]))
theorem EnvR.len {env : Env} {σ : L2.St} {ows : List Addr} (h : EnvR K ca cs B H env σ ows) : env.length = σ.length := by
  induction h with
  | nil => rfl
  | cons r t ih => simp [ih]
theorem EnvR.at {env : Env} {σ : L2.St} {ows : List Addr} (h : EnvR K ca cs B H env σ ows) : ∀ {i : Nat} {s : Sl}, env[i]? = some s →
    ∃ w ps qs, σ[i]? = some w ∧ SlR K ca cs B H s w ps ∧ ows.Perm (ps ++ qs) ∧
      ∀ {cs' : List Addr} {B' H' : Hp} {s' : Sl} {w' : Option V} {ps' : List Addr}, Sme B B' → Pre cs cs' → (∀ q ∈ qs, Kp B H B' H' q) → SlR K ca cs' B' H' s' w' ps' →
        ∃ ows', EnvR K ca cs' B' H' (env.set i s') (σ.set i w') ows' ∧ ows'.Perm (ps' ++ qs) := by
  induction h with
  | nil => intro i s hi; simp at hi
  | @cons s0 w0 ps0 e0 σ0 qs0 r t ih =>
    intro i s hi
    cases i with
    | zero =>
      simp at hi
      subst hi
      refine ⟨w0, ps0, qs0, rfl, r, List.Perm.refl _, fun {cs' B' H' s' w' ps'} b e k r' => ⟨ps' ++ qs0, ?_, List.Perm.refl _⟩⟩
      exact .cons r' (t.keep b e k)
    | succ i =>
      obtain ⟨w, ps, qs, h1, h2, h3, h4⟩ := ih (i := i) (s := s) (by simpa using hi)
      refine ⟨w, ps, ps0 ++ qs, by simpa using h1, h2, ?_, fun {cs' B' H' s' w' ps'} b e k r' => ?_⟩
      · exact (h3.append_left ps0).trans (by rw [← List.append_assoc, ← List.append_assoc]; exact List.perm_append_comm.append_right qs)
      · obtain ⟨ows', k1, k2⟩ := h4 b e (fun q hq => k q (by simp [hq])) r'
        refine ⟨ps0 ++ ows', .cons (r.keep b e fun q hq => k q (by simp [hq])) k1, ?_⟩
        exact (k2.append_left ps0).trans (by rw [← List.append_assoc, ← List.append_assoc]; exact List.perm_append_comm.append_right qs)
theorem ce_keep {st : List D} {ps : List Addr} (h : Paired (fun d p => Own K ca cs B H p d) st ps) (b : Sme B B') (e : Pre cs cs') (k : ∀ q ∈ ps, Kp B H B' H' q) : Paired (fun d p => Own K ca cs' B' H' p d) st ps := by
  induction h with
  | nil => exact .nil
  | cons r t ih => exact .cons (r.keep b (k _ (by simp)) e) (ih fun q hq => k q (by simp [hq]))
theorem ce_live {st : List D} {ps : List Addr} (h : Paired (fun d p => Own K ca cs B H p d) st ps) : ∀ p ∈ ps, Hid (H p) := by
  induction h with
  | nil => intro p hp; cases hp
  | cons r t ih =>
    intro p hp
    rcases List.mem_cons.mp hp with e | e
    · subst e; exact r.live
    · exact ih p e
theorem en_live {env : Env} {σ : L2.St} {ows : List Addr} (h : EnvR K ca cs B H env σ ows) : ∀ p ∈ ows, Hid (H p) := by
  induction h with
  | nil => intro p hp; cases hp
  | @cons s w ps e σ qs r t ih =>
    intro p hp
    rcases List.mem_append.mp hp with e | e
    · cases s with
      | un => cases (show ps = [] from r); cases e
      | fz d => cases r.1; cases e
      | ow d =>
        obtain ⟨p', rfl, _, o⟩ := r
        have : p = p' := by simpa using e
        subst this
        exact o.live
      | ad p' => cases r.1; cases e
      | cl c => cases r.1; cases e
      | sf p' d =>
        obtain ⟨rfl, _, o⟩ := r
        have : p = p' := by simpa using e
        subst this
        exact o.live
    · exact ih p e
theorem ce_len {st : List D} {ps : List Addr} (h : Paired (fun d p => Own K ca cs B H p d) st ps) : st.length = ps.length := Paired.length h
theorem ce_at {st : List D} {ps : List Addr} (h : Paired (fun d p => Own K ca cs B H p d) st ps) : ∀ {i : Nat} {d : D}, st[i]? = some d → ∃ p, ps[i]? = some p ∧ Own K ca cs B H p d := by
  induction h with
  | nil => intro i d hi; simp at hi
  | cons r t ih =>
    intro i d hi
    cases i with
    | zero => simp at hi; subst hi; exact ⟨_, rfl, r⟩
    | succ i => obtain ⟨p, h1, h2⟩ := ih (i := i) (by simpa using hi); exact ⟨p, by simpa using h1, h2⟩
theorem ce_set {st : List D} {ps : List Addr} (h : Paired (fun d p => Own K ca cs B H p d) st ps) (b : Sme B B') (e : Pre cs cs') : ∀ {i : Nat} {d : D} {p : Addr}, ps[i]? = some p → ps.Nodup → (∀ q ∈ ps, q ≠ p → Kp B H B' H' q) → Own K ca cs' B' H' p d →
    Paired (fun d p => Own K ca cs' B' H' p d) (st.set i d) ps := by
  induction h with
  | nil => intro i d p hi; simp at hi
  | @cons d0 p0 st0 ps0 r t ih =>
    intro i d p hi nd k o
    rw [List.nodup_cons] at nd
    cases i with
    | zero =>
      simp at hi; subst hi
      exact .cons o (ce_keep t b e fun q hq => k q (by simp [hq]) fun z => nd.1 (by rw [← z]; exact hq))
    | succ i =>
      have hi' : ps0[i]? = some p := by simpa using hi
      have hm := List.mem_of_getElem? hi'
      refine .cons (r.keep b (k p0 (by simp) fun z => nd.1 (by rw [z]; exact hm)) e) (ih hi' nd.2 (fun q hq => k q (by simp [hq])) o)
theorem Gr.kp {T : List NTb} {ps : List Addr} (g : Gr T ps B H B' H') (h : q ∉ ps) : Kp B H B' H' q := fun hh hb =>
  ⟨fun o e n => by
    rcases g.h q o h e with z | ⟨xs, _, z, _⟩ | ⟨_, z, _⟩
    · exact z
    · exact absurd z (n xs)
    · exact absurd (g.n q hh hb) z, g.n q hh hb⟩
end
theorem paired_app {α β : Type} {F : α → β → Prop} : ∀ {xs zs : List α} {ys ws : List β}, Paired F xs ys → Paired F zs ws → Paired F (xs ++ zs) (ys ++ ws)
  | _, _, _, _, .nil, s => s
  | _, _, _, _, .cons r t, s => .cons r (paired_app t s)
def SX (K : Fg) (x : Fx) (env : Env) (st : List D) (cs : List Addr) (σ : L2.St) (B H : Hp) : Prop := ∃ ows, SR K x env st cs ows σ B H
section
variable {K : Fg} {x : Fx} {env : Env} {st : List D} {cs : List Addr} {σ : L2.St} {B H B' H' : Hp}
theorem SX.s (h : SX K x env st cs σ B H) : Sme B H := by obtain ⟨_, h⟩ := h; exact h.s
theorem SX.tb (h : SX K x env st cs σ B H) : LamX.Tabs x.T H := by obtain ⟨_, h⟩ := h; exact h.tb
theorem SX.len (h : SX K x env st cs σ B H) : env.length = σ.length := by obtain ⟨_, h⟩ := h; exact h.en.len
theorem SX.grow (h : SX K x env st cs σ B H) (g : Gr x.T [] B H B' H') : SX K x env st cs σ B' H' := by
  obtain ⟨ows, h⟩ := h
  exact ⟨ows, ⟨h.g.trans g.wk0, g.t h.tb, h.en.keep g.b (Pre.refl _) fun q _ => g.kp (by simp), ce_keep h.ce g.b (Pre.refl _) fun q _ => g.kp (by simp), h.nd, h.pr, h.fo, h.fc⟩⟩
/-- a frozen value on top -/
theorem SX.fz {v : V} {d : D} (h : SX K x env st cs σ B H) (r : Rp K x.ca cs B v d) : SX K x (.fz d :: env) st cs (some v :: σ) B H := by
  obtain ⟨ows, h⟩ := h
  exact ⟨[] ++ ows, ⟨h.g, h.tb, .cons ⟨rfl, v, rfl, r⟩ h.en, h.ce, h.nd, h.pr, h.fo, h.fc⟩⟩
theorem SX.rp {v : V} {d : D} (h : SX K x (.fz d :: env) st cs (some v :: σ) B H) : Rp K x.ca cs B v d := by
  obtain ⟨ows, h⟩ := h
  cases h.en with
  | cons r t => obtain ⟨_, v', e, r⟩ := r; cases e; exact r
theorem SX.tail {s : Sl} {w : Option V} (h : SX K x (s :: env) st cs (w :: σ) B H) : SX K x env st cs σ B H := by
  obtain ⟨ows, h⟩ := h
  cases h with
  | mk g tb en ce nd pr fo fc =>
    cases en with
    | @cons _ _ ps _ _ qs r t => exact ⟨qs, ⟨g, tb, t, ce, (by rw [List.append_assoc] at nd; exact (List.nodup_append.mp nd).2.1), pr, fun p hp => fo p (by simp [hp]), fc⟩⟩
/-- an object that was new in H0 -/
theorem Gr.fresh0 {T : List NTb} {ps : List Addr} {B0 H0 : Hp} {p : Addr} (g : Gr T ps B0 H0 B H) (l : ∀ p ∈ ps, Hid (H p)) (h : H p = none) : H0 p = none := by
  cases e : H0 p with
  | none => rfl
  | some o =>
    by_cases q : p ∈ ps
    · exact absurd h (l p q).ne
    · rcases g.h p o q e with z | ⟨_, _, _, z⟩ | ⟨_, _, _, z⟩ <;> (rw [h] at z; cases z)
theorem SR.live0 {ows : List Addr} (h : SR K x env st cs ows σ B H) : ∀ p ∈ x.cs0, Hid (H p) := fun p hp => by
  obtain ⟨zs, e⟩ := h.pr
  exact ce_live h.ce p (by rw [e]; simp [hp])
/-- a new object of one's own on top -/
theorem SX.own {p : Addr} {d : D} (h : SX K x env st cs σ B H) (g : Gr x.T [] B H B' H') (n : H p = none) (o : Own K x.ca cs B' H' p d) : SX K x (.ow d :: env) st cs (some (.ref p) :: σ) B' H' := by
  have h0 := h
  obtain ⟨ows, h⟩ := h
  have n0 : x.H0 p = none := h.g.fresh0 h.live0 n
  have nm : p ∉ ows ++ cs := fun z => by
    rcases List.mem_append.mp z with z | z
    · exact (en_live h.en p z).ne n
    · exact (ce_live h.ce p z).ne n
  refine ⟨[p] ++ ows, ⟨h.g.trans g.wk0, g.t h.tb, .cons ⟨p, rfl, rfl, o⟩ (h.en.keep g.b (Pre.refl _) fun q _ => g.kp (by simp)), ce_keep h.ce g.b (Pre.refl _) fun q _ => g.kp (by simp), ?_, h.pr, ?_, h.fc⟩⟩
  · rw [List.append_assoc]
    exact List.nodup_cons.mpr ⟨nm, h.nd⟩
  · intro q hq
    rcases List.mem_append.mp hq with z | z
    · have : q = p := by simpa using z
      rw [this]; exact n0
    · exact h.fo q z
/-- an address on top -/
theorem SX.ad (p : Addr) (h : SX K x env st cs σ B H) : SX K x (.ad p :: env) st cs (some (.ref p) :: σ) B H := by
  obtain ⟨ows, h⟩ := h
  exact ⟨[] ++ ows, ⟨h.g, h.tb, .cons ⟨rfl, rfl⟩ h.en, h.ce, h.nd, h.pr, h.fo, h.fc⟩⟩
theorem SX.cl (c : Str) (h : SX K x env st cs σ B H) : SX K x (.cl c :: env) st cs (some (.ref (x.ca c)) :: σ) B H := by
  obtain ⟨ows, h⟩ := h
  exact ⟨[] ++ ows, ⟨h.g, h.tb, .cons ⟨rfl, rfl⟩ h.en, h.ce, h.nd, h.pr, h.fo, h.fc⟩⟩
/-- a known address on top -/
theorem SX.ownS {p : Addr} {d : D} (h : SX K x env st cs σ B H) (g : Gr x.T [] B H B' H') (n : H p = none) (o : Own K x.ca cs B' H' p d) : SX K x (.sf p d :: env) st cs (some (.ref p) :: σ) B' H' := by
  obtain ⟨ows, h⟩ := h.own g n o
  cases h with
  | mk g tb en ce nd pr fo fc =>
    cases en with
    | cons r t =>
      obtain ⟨p', rfl, e, ow⟩ := r
      cases e
      exact ⟨_, ⟨g, tb, .cons ⟨rfl, rfl, ow⟩ t, ce, nd, pr, fo, fc⟩⟩
/-- .. forgotten -/
theorem SX.sfOw {p : Addr} {d : D} {w : Option V} (h : SX K x (.sf p d :: env) st cs (w :: σ) B H) : w = some (.ref p) ∧ SX K x (.ow d :: env) st cs (w :: σ) B H := by
  obtain ⟨ows, h⟩ := h
  cases h with
  | mk g tb en ce nd pr fo fc =>
    cases en with
    | cons r t =>
      obtain ⟨rfl, e, ow⟩ := r
      exact ⟨e, _, ⟨g, tb, .cons ⟨p, rfl, e, ow⟩ t, ce, nd, pr, fo, fc⟩⟩
/-- a slot -/
theorem SX.at {i : Nat} {s : Sl} (h : SX K x env st cs σ B H) (e : env[i]? = some s) : ∃ w, σ[i]? = some w ∧ ∃ ps, SlR K x.ca cs B H s w ps := by
  obtain ⟨ows, h⟩ := h
  obtain ⟨w, ps, qs, h1, h2, _⟩ := h.en.at e
  exact ⟨w, h1, ps, h2⟩
theorem SX.atF {i : Nat} {d : D} (h : SX K x env st cs σ B H) (e : env[i]? = some (.fz d)) : ∃ v, σ[i]? = some (some v) ∧ Rp K x.ca cs B v d := by
  obtain ⟨w, h1, ps, _, v, rfl, r⟩ := h.at e
  exact ⟨v, h1, r⟩
theorem SX.atO {i : Nat} {d : D} (h : SX K x env st cs σ B H) (e : env[i]? = some (.ow d)) : ∃ p, σ[i]? = some (some (.ref p)) ∧ Own K x.ca cs B H p d := by
  obtain ⟨w, h1, ps, p, _, rfl, r⟩ := h.at e
  exact ⟨p, h1, r⟩
theorem SX.atS {i : Nat} {p : Addr} {d : D} (h : SX K x env st cs σ B H) (e : env[i]? = some (.sf p d)) : σ[i]? = some (some (.ref p)) ∧ Own K x.ca cs B H p d := by
  obtain ⟨w, h1, ps, _, rfl, r⟩ := h.at e
  exact ⟨h1, r⟩
/-- one's own object in slot i changed -/
theorem SX.mutG {i : Nat} {s s' : Sl} {d : D} {p : Addr} {o : HO} (h : SX K x env st cs σ B H) (e : env[i]? = some s) (hp : σ[i]? = some (some (.ref p))) (ho : ∀ vs, o ≠ .tup vs) (hs1 : ∀ {ps}, SlR K x.ca cs B H s (some (.ref p)) ps → ps = [p] ∧ Own K x.ca cs B H p d) (o' : SlR K x.ca cs B (upd H p o) s' (some (.ref p)) [p]) : SX K x (env.set i s') st cs σ B (upd H p o) := by
  have hs := h.s
  obtain ⟨ows, h⟩ := h
  obtain ⟨w, ps, qs, h1, h2, h3, h4⟩ := h.en.at e
  rw [hp] at h1
  cases h1
  obtain ⟨rfl, ow⟩ := hs1 h2
  have gm := Gr.mut (T := x.T) (o := o) hs ow.nb ow.pln ho
  have nd : ([p] ++ qs ++ cs).Nodup := (h3.append_right cs).nodup_iff.mp h.nd
  have np : p ∉ qs ++ cs := by
    rw [List.append_assoc] at nd
    exact (List.nodup_cons.mp nd).1
  have kp : ∀ q ∈ qs ++ cs, Kp B H B (upd H p o) q := fun q hq => gm.kp (by
    intro z
    have : q = p := by simpa using z
    exact np (by rw [← this]; exact hq))
  obtain ⟨ows', k1, k2⟩ := h4 (Sme.refl B) (Pre.refl cs) (fun q hq => kp q (by simp [hq])) (s' := s') (w' := some (.ref p)) (ps' := [p]) o'
  have hp0 : p ∉ x.cs0 := fun z => by
    obtain ⟨zs, e⟩ := h.pr
    exact np (by rw [e]; simp [z])
  have es : σ.set i (some (.ref p)) = σ := by
    apply List.ext_getElem?
    intro j
    by_cases hj : i = j
    · subst hj
      have hl := (List.getElem?_eq_some_iff.mp hp).1
      rw [List.getElem?_set_self hl, hp]
    · rw [List.getElem?_set_ne hj]
  rw [es] at k1
  have nd' : (ows' ++ cs).Nodup := (k2.append_right cs).nodup_iff.mpr nd
  have n0 : x.H0 p = none := h.fo p (h3.mem_iff.mpr (by simp))
  refine ⟨ows', ⟨⟨h.g.b, fun a u ha hu => ?_, gm.s, fun a ha hb => gm.n a (h.g.stay ha) (h.g.n a ha hb), fun z => gm.t (h.g.t z), fun q hq hh => gm.stay (h.g.l q hq hh)⟩, gm.t h.tb, k1, ce_keep h.ce (Sme.refl B) (Pre.refl cs) fun q hq => kp q (by simp [hq]), nd', h.pr, ?_, h.fc⟩⟩
  · have na : a ≠ p := ne_of_none hu n0
    rw [upd_ne na]
    exact h.g.h a u ha hu
  · intro q hq
    exact h.fo q (h3.mem_iff.mpr (k2.mem_iff.mp hq))
theorem SX.mut {i : Nat} {d d' : D} {p : Addr} {o : HO} (h : SX K x env st cs σ B H) (e : env[i]? = some (.ow d)) (hp : σ[i]? = some (some (.ref p))) (ho : ∀ vs, o ≠ .tup vs) (o' : Own K x.ca cs B (upd H p o) p d') : SX K x (env.set i (.ow d')) st cs σ B (upd H p o) :=
  h.mutG e hp ho (fun {ps} r => by obtain ⟨p', rfl, e', ow⟩ := r; cases e'; exact ⟨rfl, ow⟩) ⟨p, rfl, rfl, o'⟩
theorem SX.mutS {i : Nat} {d d' : D} {p : Addr} {o : HO} (h : SX K x env st cs σ B H) (e : env[i]? = some (.sf p d)) (hp : σ[i]? = some (some (.ref p))) (ho : ∀ vs, o ≠ .tup vs) (o' : Own K x.ca cs B (upd H p o) p d') : SX K x (env.set i (.sf p d')) st cs σ B (upd H p o) :=
  h.mutG e hp ho (fun {ps} r => ⟨r.1, r.2.2⟩) ⟨rfl, rfl, o'⟩
/-- a cell changed -/
theorem SX.mutC {n : Nat} {d d' : D} {p : Addr} {o : HO} (h : SX K x env st cs σ B H) (e : st[n]? = some d) (hp : cs[n]? = some p) (ho : ∀ vs, o ≠ .tup vs) (o' : Own K x.ca cs B (upd H p o) p d') : SX K x env (st.set n d') cs σ B (upd H p o) := by
  have hs := h.s
  obtain ⟨ows, h⟩ := h
  obtain ⟨p', e', ow⟩ := ce_at h.ce e
  rw [hp] at e'
  cases e'
  have gm := Gr.mut (T := x.T) (o := o) hs ow.nb ow.pln ho
  have ndc : cs.Nodup := (List.nodup_append.mp h.nd).2.1
  have pc : p ∈ cs := List.mem_of_getElem? hp
  have po : ∀ q ∈ ows, q ≠ p := fun q hq z => (List.nodup_append.mp h.nd).2.2 q hq p pc z
  refine ⟨ows, ⟨?_, gm.t h.tb, h.en.keep (Sme.refl B) (Pre.refl cs) fun q hq => gm.kp (by simpa using po q hq), ce_set h.ce (Sme.refl B) (Pre.refl cs) hp ndc (fun q _ hq => gm.kp (by simpa using hq)) o', h.nd, h.pr, h.fo, h.fc⟩⟩
  refine ⟨h.g.b, fun a u ha hu => ?_, gm.s, fun a hh hb => gm.n a (h.g.stay hh) (h.g.n a hh hb), fun z => gm.t (h.g.t z), fun q hq hh => gm.stay (h.g.l q hq hh)⟩
  by_cases hc : p ∈ x.cs0
  · have na : a ≠ p := fun z => ha (by rw [z]; exact hc)
    rw [upd_ne na]
    exact h.g.h a u ha hu
  · have n0 := h.fc p pc hc
    rw [upd_ne (ne_of_none hu n0)]
    exact h.g.h a u ha hu
/-- one's own object given up -/
theorem SX.frz {i : Nat} {d : D} (h : SX K x env st cs σ B H) (e : env[i]? = some (.ow d)) : ∃ B', Sme B B' ∧ SX K x (env.set i (.fz d)) st cs σ B' H := by
  have hs := h.s
  obtain ⟨ows, h⟩ := h
  obtain ⟨w, ps, qs, h1, h2, h3, h4⟩ := h.en.at e
  obtain ⟨p, rfl, rfl, ow⟩ := h2
  obtain ⟨u, hu, nt, r⟩ := ow.frz hs
  obtain ⟨f1, f2⟩ := frz_sme hs hu ow.nb
  have nd : ([p] ++ qs ++ cs).Nodup := (h3.append_right cs).nodup_iff.mp h.nd
  have np : p ∉ qs ++ cs := by
    rw [List.append_assoc] at nd
    exact (List.nodup_cons.mp nd).1
  have kp : ∀ q ∈ qs ++ cs, Kp B H (upd B p u) H q := fun q hq _ hb => ⟨fun _ z _ => z, by
    rw [upd_ne (fun z => np (by rw [← z]; exact hq))]; exact hb⟩
  obtain ⟨ows', k1, k2⟩ := h4 f1 (Pre.refl cs) (fun q hq => kp q (by simp [hq])) (s' := .fz d) (w' := some (.ref p)) (ps' := []) ⟨rfl, _, rfl, r⟩
  have es : σ.set i (some (.ref p)) = σ := by
    apply List.ext_getElem?
    intro j
    by_cases hj : i = j
    · subst hj
      have hl := (List.getElem?_eq_some_iff.mp h1).1
      rw [List.getElem?_set_self hl, h1]
    · rw [List.getElem?_set_ne hj]
  rw [es] at k1
  have n0 : x.H0 p = none := h.fo p (h3.mem_iff.mpr (by simp))
  refine ⟨upd B p u, f1, ows', ⟨⟨h.g.b.trans f1, (fun a o ha ho => (h.g.h a o ha ho).imp id fun z => z.imp id fun ⟨q1, q2, q3⟩ => ⟨q1, nn_of f1 q2, q3⟩), f2, fun a ha hb => ?_, h.g.t, h.g.l⟩, h.tb, k1, ce_keep h.ce f1 (Pre.refl cs) fun q hq => kp q (by simp [hq]), ?_, h.pr, ?_, h.fc⟩⟩
  · have na : a ≠ p := fun z => ha.ne (by rw [z]; exact n0)
    rw [upd_ne na]
    exact h.g.n a ha hb
  · exact (k2.append_right cs).nodup_iff.mpr (by
      rw [List.append_assoc] at nd
      exact (List.nodup_cons.mp nd).2)
  · intro q hq
    exact h.fo q (h3.mem_iff.mpr (by have := k2.mem_iff.mp hq; simp at this; simp [this]))
/-- the top becomes slot i -/
theorem SX.set {s : Sl} {w : Option V} (i : Nat) (h : SX K x (s :: env) st cs (w :: σ) B H) : SX K x (env.set i s) st cs (σ.set i w) B H := by
  obtain ⟨ows, h⟩ := h
  cases h with
  | mk g tb en ce nd pr fo fc =>
    cases en with
    | @cons _ _ ps _ _ qs r t =>
      cases hs : env[i]? with
      | none =>
        have h1 : env.length ≤ i := List.getElem?_eq_none_iff.mp hs
        have h2 : σ.length ≤ i := by rw [← t.len]; exact h1
        rw [List.set_eq_of_length_le h1, List.set_eq_of_length_le h2]
        exact ⟨qs, ⟨g, tb, t, ce, (by rw [List.append_assoc] at nd; exact (List.nodup_append.mp nd).2.1), pr, fun p hp => fo p (by simp [hp]), fc⟩⟩
      | some s0 =>
        obtain ⟨w0, ps0, qs0, h1, h2, h3, h4⟩ := t.at hs
        obtain ⟨ows', k1, k2⟩ := h4 (Sme.refl B) (Pre.refl cs) (fun q hq => Kp.same B H q) r
        refine ⟨ows', ⟨g, tb, k1, ce, ?_, pr, ?_, fc⟩⟩
        · refine (k2.append_right cs).nodup_iff.mpr ?_
          have nd2 : (ps ++ (ps0 ++ qs0) ++ cs).Nodup := ((h3.append_left ps).append_right cs).nodup_iff.mp nd
          refine nd2.sublist ?_
          rw [List.append_assoc, List.append_assoc, List.append_assoc]
          exact (List.Sublist.refl ps).append (List.sublist_append_right _ _)
        · intro q hq
          have := k2.mem_iff.mp hq
          rcases List.mem_append.mp this with z | z
          · exact fo q (by simp [z])
          · exact fo q (by have := h3.mem_iff.mpr (show q ∈ ps0 ++ qs0 by simp [z]); simp [this])
/-- a slot is forgotten -/
theorem SX.unset (i : Nat) {w : Option V} (h : SX K x env st cs σ B H) : SX K x (env.set i .un) st cs (σ.set i w) B H := by
  have : SX K x (.un :: env) st cs (w :: σ) B H := by
    obtain ⟨ows, h⟩ := h
    exact ⟨[] ++ ows, ⟨h.g, h.tb, .cons rfl h.en, h.ce, h.nd, h.pr, h.fo, h.fc⟩⟩
  exact this.set i
/-- the top given up -/
theorem SX.frzT {d : D} {w : Option V} (h : SX K x (.ow d :: env) st cs (w :: σ) B H) : ∃ B', Sme B B' ∧ SX K x (.fz d :: env) st cs (w :: σ) B' H := by
  obtain ⟨B', h1, h2⟩ := h.frz (i := 0) (d := d) rfl
  exact ⟨B', h1, h2⟩
/-- the top becomes a cell -/
theorem SX.toCell {d : D} {w : Option V} (h : SX K x (.ow d :: env) st cs (w :: σ) B H) : ∃ p, w = some (.ref p) ∧ SX K x (.fz (.cell st.length) :: env) (st ++ [d]) (cs ++ [p]) (w :: σ) B H := by
  obtain ⟨ows, h⟩ := h
  cases h with
  | mk g tb en ce nd pr fo fc =>
    cases en with
    | @cons _ _ ps _ _ qs r t =>
      obtain ⟨p, rfl, rfl, ow⟩ := r
      have pre : Pre cs (cs ++ [p]) := ⟨[p], rfl⟩
      have kp : ∀ q, Kp B H B H q := Kp.same B H
      refine ⟨p, rfl, [] ++ qs, ⟨g, tb, .cons ⟨rfl, _, rfl, .cell ?_⟩ (t.keep (Sme.refl B) pre fun q _ => kp q), ?_, ?_, pr.trans pre, fun q hq => fo q (by simpa using .inr (by simpa using hq)), ?_⟩⟩
      · rw [ce_len ce]; simp
      · exact paired_app (ce_keep ce (Sme.refl B) pre fun q _ => kp q) (.cons (ow.keep (Sme.refl B) (kp p) pre) .nil)
      · have : ([p] ++ qs ++ cs).Nodup := nd
        refine (List.Perm.nodup_iff ?_).mp this
        show List.Perm (p :: (qs ++ cs)) (qs ++ (cs ++ [p]))
        rw [← List.append_assoc]
        exact (List.perm_append_comm (l₁ := [p]) (l₂ := qs ++ cs))
      · intro q hq nq
        rcases List.mem_append.mp hq with z | z
        · exact fc q z nq
        · have : q = p := by simpa using z
          rw [this]; exact fo p (by simp)
theorem SX.cellAt {n : Nat} {d : D} (h : SX K x env st cs σ B H) (e : st[n]? = some d) : ∃ p, cs[n]? = some p ∧ Own K x.ca cs B H p d := by
  obtain ⟨ows, h⟩ := h
  exact ce_at h.ce e
end
end Dn
end
section
set_option maxHeartbeats 200000
namespace Dn
open PySem L2
/-- an exception: its class, its dict -/
def ExR (K : Fg) (ca : Str → Addr) (cs : List Addr) (B : Hp) (cls : Value) (d : Option Addr) (c : Str) (fs : Flds) : Prop :=
  cls = .ref (ca c) ∧ ((d = none ∧ fs = []) ∨ ∃ dx ws, d = some dx ∧ XdAt B dx ws ∧ ∀ f y, fs.lookup f = some y → ∃ v, ws.lookup f = some v ∧ Rp K ca cs B v y)
theorem ExR.mono {K : Fg} {ca : Str → Addr} {cs cs' : List Addr} {B B' : Hp} {cls : Value} {d : Option Addr} {c : Str} {fs : Flds} (h : ExR K ca cs B cls d c fs) (e : Sme B B') (p : Pre cs cs') : ExR K ca cs' B' cls d c fs := by
  obtain ⟨h1, h2⟩ := h
  refine ⟨h1, ?_⟩
  rcases h2 with h2 | ⟨dx, ws, h2, h3, h4⟩
  · exact .inl h2
  · exact .inr ⟨dx, ws, h2, h3.mono e, fun f y hy => by
      obtain ⟨v, a, b⟩ := h4 f y hy
      exact ⟨v, a, b.mono e p⟩⟩
def outE (K : Fg) (x : Fx) (W : WX) (σ : L2.St) (cs : List Addr) (B : Hp) (c : Str) (fs : Flds) (env' : Env) (st' : List D) : Prop :=
  ∀ cls d cs' B' H', SX K x env' st' cs' σ B' H' → Sme B B' → Pre cs cs' → ExR K x.ca cs' B' cls d c fs → W cls d σ H'
def outG {α : Type} (K : Fg) (x : Fx) (W : WX) (σ : L2.St) (cs : List Addr) (B : Hp) (o : Out α) (k : α → Env → List D → List Addr → Hp → Prop) : Prop := match o with
  | .stuck => False
  | .ok a e s => ∀ cs' B', Sme B B' → Pre cs cs' → k a e s cs' B'
  | .exn c fs e s => outE K x W σ cs B c fs e s
section
variable {α β : Type} {K : Fg} {x : Fx} {W : WX} {σ : L2.St} {cs cs' : List Addr} {B B' : Hp} {e : Env} {s : List D}
theorem outE.up {c : Str} {fs : Flds} (h : outE K x W σ cs B c fs e s) (b : Sme B B') (p : Pre cs cs') : outE K x W σ cs' B' c fs e s :=
  fun cls d cs2 B2 H2 sx sb pr ex => h cls d cs2 B2 H2 sx (b.trans sb) (p.trans pr) ex
theorem outG.up {o : Out α} {k : α → Env → List D → List Addr → Hp → Prop} (h : outG K x W σ cs B o k) (b : Sme B B') (p : Pre cs cs') : outG K x W σ cs' B' o k := by
  cases o with
  | stuck => exact h
  | ok a e s => exact fun cs2 B2 sb pr => h cs2 B2 (b.trans sb) (p.trans pr)
  | exn c fs e s => exact outE.up h b p
theorem outG.imp {o : Out α} {k k' : α → Env → List D → List Addr → Hp → Prop} (h : outG K x W σ cs B o k) (i : ∀ a e s cs' B', k a e s cs' B' → k' a e s cs' B') : outG K x W σ cs B o k' := by
  cases o with
  | stuck => exact h
  | ok a e s => exact fun cs2 B2 sb pr => i _ _ _ _ _ (h cs2 B2 sb pr)
  | exn c fs e s => exact h
theorem outG.imp' {o : Out α} {k k' : α → Env → List D → List Addr → Hp → Prop} (h : outG K x W σ cs B o k) (i : ∀ a e s cs' B', o = .ok a e s → Sme B B' → Pre cs cs' → k a e s cs' B' → k' a e s cs' B') : outG K x W σ cs B o k' := by
  cases o with
  | stuck => exact h
  | ok a e s => exact fun cs2 B2 sb pr => i _ _ _ _ _ rfl sb pr (h cs2 B2 sb pr)
  | exn c fs e s => exact h
theorem outG.bind {m : M α} {f : α → M β} {k : β → Env → List D → List Addr → Hp → Prop} (h : outG K x W σ cs B ((m.bind f) e s) k) : outG K x W σ cs B (m e s) (fun a e' s' cs' B' => outG K x W σ cs' B' (f a e' s') k) := by
  unfold M.bind at h
  cases hm : m e s with
  | stuck => rw [hm] at h; exact h
  | ok a e' s' => rw [hm] at h; exact fun cs2 B2 sb pr => outG.up h sb pr
  | exn c fs e' s' => rw [hm] at h; exact h
theorem outG.now {a : α} {k : α → Env → List D → List Addr → Hp → Prop} (h : outG K x W σ cs B (.ok a e s) k) : k a e s cs B := h cs B (Sme.refl B) (Pre.refl cs)
theorem outG.lift {o : Option α} {k : α → Env → List D → List Addr → Hp → Prop} (h : outG K x W σ cs B (M.lift o e s) k) : ∃ a, o = some a ∧ k a e s cs B := by
  unfold M.lift at h
  cases o with
  | none => exact h.elim
  | some a => exact ⟨a, rfl, h.now⟩
end
/-- what is looked at: a value, or what stands in slot i -/
inductive Pl where
  | v (d : D)
  | s (i : Nat)
def PlR (K : Fg) (ca : Str → Addr) (cs : List Addr) (B : Hp) (σ : L2.St) (v : V) : Pl → Prop
  | .v d => Rp K ca cs B v d
  | .s i => σ[i]? = some (some v)
theorem PlR.mono {K : Fg} {ca : Str → Addr} {cs cs' : List Addr} {B B' : Hp} {σ : L2.St} {v : V} {p : Pl} (h : PlR K ca cs B σ v p) (e : Sme B B') (q : Pre cs cs') : PlR K ca cs' B' σ v p := by
  cases p with
  | v d => exact (show Rp K ca cs B v d from h).mono e q
  | s i => exact h
/-- values: frozen or one's own; frozen; looked at; lists of these; truth values -/
def qU (K : Fg) (x : Fx) (σ : L2.St) (Q : VK) : Sl → Env → List D → List Addr → Hp → Prop := fun r e s cs B => ∀ v H, SX K x (r :: e) s cs (some v :: σ) B H → Q v H
def qV (K : Fg) (x : Fx) (σ : L2.St) (Q : VK) : D → Env → List D → List Addr → Hp → Prop := fun d e s cs B => ∀ v H, SX K x e s cs σ B H → Rp K x.ca cs B v d → Q v H
def qL (K : Fg) (x : Fx) (σ : L2.St) (Q : VK) : Pl → Env → List D → List Addr → Hp → Prop := fun p e s cs B => ∀ v H, SX K x e s cs σ B H → PlR K x.ca cs B σ v p → Q v H
def qA (K : Fg) (x : Fx) (σ : L2.St) (Q : List V → Hp → Prop) : List D → Env → List D → List Addr → Hp → Prop := fun ds e s cs B => ∀ vs H, SX K x e s cs σ B H → RpL K x.ca cs B vs ds → Q vs H
def qN (K : Fg) (x : Fx) (σ : L2.St) (Q : List V → Hp → Prop) : List Pl → Env → List D → List Addr → Hp → Prop := fun ps e s cs B => ∀ vs H, SX K x e s cs σ B H → Paired (PlR K x.ca cs B σ) vs ps → Q vs H
def qT (K : Fg) (x : Fx) (σ : L2.St) (Q : Bool → Hp → Prop) : Bool → Env → List D → List Addr → Hp → Prop := fun b e s cs B => ∀ H, SX K x e s cs σ B H → Q b H
def tU (K : Fg) (x : Fx) (W : WX) (m : M Sl) : TE := fun σ H Q => ∃ env st cs B, SX K x env st cs σ B H ∧ outG K x W σ cs B (m env st) (qU K x σ Q)
def tV (K : Fg) (x : Fx) (W : WX) (m : M D) : TE := fun σ H Q => ∃ env st cs B, SX K x env st cs σ B H ∧ outG K x W σ cs B (m env st) (qV K x σ Q)
def tL (K : Fg) (x : Fx) (W : WX) (m : M Pl) : TE := fun σ H Q => ∃ env st cs B, SX K x env st cs σ B H ∧ outG K x W σ cs B (m env st) (qL K x σ Q)
def tA (K : Fg) (x : Fx) (W : WX) (m : M (List D)) : TA := fun σ H Q => ∃ env st cs B, SX K x env st cs σ B H ∧ outG K x W σ cs B (m env st) (qA K x σ Q)
def tN (K : Fg) (x : Fx) (W : WX) (m : M (List Pl)) : TA := fun σ H Q => ∃ env st cs B, SX K x env st cs σ B H ∧ outG K x W σ cs B (m env st) (qN K x σ Q)
def tT (K : Fg) (x : Fx) (W : WX) (m : M Bool) : TT := fun σ H Q => ∃ env st cs B, SX K x env st cs σ B H ∧ outG K x W σ cs B (m env st) (qT K x σ Q)
theorem PE.imp {X : Cx} {e : Expr} {t t' : TE} (h : PE X e t) (i : ∀ σ H Q, t' σ H Q → t σ H Q) : PE X e t' := ⟨fun pins s σ H Q I q => h.run pins s σ H Q I (i σ H Q q)⟩
theorem PE.or {X : Cx} {e : Expr} {t t' : TE} (h : PE X e t) (h' : PE X e t') : PE X e (fun σ H Q => t σ H Q ∨ t' σ H Q) := ⟨fun pins s σ H Q I q => q.elim (h.run pins s σ H Q I) (h'.run pins s σ H Q I)⟩
theorem PE.any {X : Cx} {e : Expr} {ι : Type 1} {t : ι → TE} (h : ∀ i, PE X e (t i)) : PE X e (fun σ H Q => ∃ i, t i σ H Q) := ⟨fun pins s σ H Q I ⟨i, q⟩ => (h i).run pins s σ H Q I q⟩
theorem PE.all {X : Cx} {e : Expr} {P : TE → Prop} (h : ∀ t, P t → PE X e t) : PE X e (fun σ H Q => ∃ t, P t ∧ t σ H Q) := ⟨fun pins s σ H Q I ⟨t, p, q⟩ => (h t p).run pins s σ H Q I q⟩
theorem PT.imp {X : Cx} {e : Expr} {t t' : TT} (h : PT X e t) (i : ∀ σ H Q, t' σ H Q → t σ H Q) : PT X e t' := ⟨fun pins s σ H Q I q => h.run pins s σ H Q I (i σ H Q q)⟩
theorem PT.all {X : Cx} {e : Expr} {P : TT → Prop} (h : ∀ t, P t → PT X e t) : PT X e (fun σ H Q => ∃ t, P t ∧ t σ H Q) := ⟨fun pins s σ H Q I ⟨t, p, q⟩ => (h t p).run pins s σ H Q I q⟩
theorem PA.imp {X : Cx} {e : List Expr} {t t' : TA} (h : PA X e t) (i : ∀ σ H Q, t' σ H Q → t σ H Q) : PA X e t' := ⟨fun pos pins s σ H Q I q => h.run pos pins s σ H Q I (i σ H Q q)⟩
theorem PS.imp {X : Cx} {e : Stmt} {t t' : TS} (h : PS X e t) (i : ∀ D σ H, t' D σ H → t D σ H) : PS X e t' := ⟨fun pins s σ H D I q => h.run pins s σ H D I (i D σ H q)⟩
theorem PS.all {X : Cx} {e : Stmt} {P : TS → Prop} (h : ∀ t, P t → PS X e t) : PS X e (fun D σ H => ∃ t, P t ∧ t D σ H) := ⟨fun pins s σ H D I ⟨t, p, q⟩ => (h t p).run pins s σ H D I q⟩
theorem PSs.imp {X : Cx} {e : List Stmt} {t t' : TS} (h : PSs X e t) (i : ∀ D σ H, t' D σ H → t D σ H) : PSs X e t' := ⟨fun pins s σ H D I q => h.run pins s σ H D I (i D σ H q)⟩
theorem PE.pre {X : Cx} {e : Expr} {t t' : TE} (h : PE X e t) (i : ∀ pins s σ H Q, Inv X pins σ H s → t' σ H Q → ∃ H2, Inv X pins σ H2 s ∧ t σ H2 Q) : PE X e t' := ⟨fun pins s σ H Q I q => by
  obtain ⟨H2, I2, q2⟩ := i pins s σ H Q I q
  exact h.run pins s σ H2 Q I2 q2⟩
def frzS : Sl → M D
  | .fz d => M.ret d
  | .ow d => M.ret d
  | .un => M.stuck
  | .sf _ _ => M.stuck
  | .ad _ => M.stuck
  | .cl _ => M.stuck
def frzM (m : M Sl) : M D := m.bind frzS
section
variable {K : Fg} {x : Fx} {W : WX} {X : Cx} {e : Expr} {σ : L2.St} {H : Hp} {Q : VK}
theorem tU_of_tV {m : M Sl} (h : tV K x W (frzM m) σ H Q) : tU K x W m σ H Q := by
  obtain ⟨env, st, cs, B, hs, ho⟩ := h
  refine ⟨env, st, cs, B, hs, (outG.bind ho).imp fun r e s cs' B' k v H' sx => ?_⟩
  cases r with
  | un => exact (show False from k).elim
  | sf _ _ => exact (show False from k).elim
  | ad _ => exact (show False from k).elim
  | cl _ => exact (show False from k).elim
  | fz d => exact (outG.now k) v H' sx.tail sx.rp
  | ow d =>
    obtain ⟨B2, s2, sx2⟩ := sx.frzT
    exact (show outG K x W σ cs' B' (.ok d e s) (qV K x σ Q) from k) cs' B2 s2 (Pre.refl _) v H' sx2.tail sx2.rp
theorem tV_of_tL {m : M D} (h : tL K x W (m.bind fun d => M.ret (.v d)) σ H Q) : tV K x W m σ H Q := by
  obtain ⟨env, st, cs, B, hs, ho⟩ := h
  exact ⟨env, st, cs, B, hs, (outG.bind ho).imp fun r e s cs' B' k v H' sx rp => (outG.now k) v H' sx rp⟩
theorem PE.frz {m : M Sl} (h : PE X e (tU K x W m)) : PE X e (tV K x W (frzM m)) := PE.imp h fun _ _ _ q => tU_of_tV q
theorem PE.look {m : M D} (h : PE X e (tV K x W m)) : PE X e (tL K x W (m.bind fun d => M.ret (.v d))) := PE.imp h fun _ _ _ q => tV_of_tL q
end
/-- what stands at a place now -/
def cont (st : List D) : D → Option D
  | .cell n => st[n]?
  | d => some d
def rsv (p : Pl) : M D := fun e s => match p with
  | .v d => match cont s d with
    | some y => .ok y e s
    | none => .stuck
  | .s i => match e[i]? with
    | some (.fz d) => match cont s d with
      | some y => .ok y e s
      | none => .stuck
    | some (.ow d) => .ok d e s
    | some (.sf _ d) => .ok d e s
    | _ => .stuck
section
variable {K : Fg} {x : Fx} {env : Env} {st : List D} {cs : List Addr} {σ : L2.St} {B H : Hp}
theorem lk_cont {v : V} {d y : D} (h : SX K x env st cs σ B H) (r : Rp K x.ca cs B v d) (e : cont st d = some y) : Lk K x.ca cs B H v y := by
  cases d with
  | cell n =>
    cases r with
    | cell hc =>
      obtain ⟨p, h1, h2⟩ := h.cellAt (show st[n]? = some y from e)
      rw [hc] at h1
      cases h1
      exact .inr ⟨_, rfl, h2⟩
  | _ => cases e; exact .inl r
theorem lk_rsv {v : V} {p : Pl} {y : D} {e' : Env} {s' : List D} (h : SX K x env st cs σ B H) (r : PlR K x.ca cs B σ v p) (e : rsv p env st = .ok y e' s') : e' = env ∧ s' = st ∧ Lk K x.ca cs B H v y := by
  unfold rsv at e
  cases p with
  | v d =>
    simp only at e
    cases hc : cont st d with
    | none => rw [hc] at e; cases e
    | some z => rw [hc] at e; cases e; exact ⟨rfl, rfl, lk_cont h r hc⟩
  | s i =>
    simp only at e
    cases hi : env[i]? with
    | none => rw [hi] at e; cases e
    | some s =>
      rw [hi] at e
      cases s with
      | un => cases e
      | ad q => cases e
      | cl q => cases e
      | sf q d =>
        cases e
        obtain ⟨h1, h2⟩ := h.atS hi
        rw [show σ[i]? = some (some v) from r] at h1
        cases h1
        exact ⟨rfl, rfl, .inr ⟨q, rfl, h2⟩⟩
      | fz d =>
        simp only at e
        cases hc : cont st d with
        | none => rw [hc] at e; cases e
        | some z =>
          rw [hc] at e; cases e
          obtain ⟨u, h1, h2⟩ := h.atF hi
          rw [show σ[i]? = some (some v) from r] at h1
          cases h1
          exact ⟨rfl, rfl, lk_cont h h2 hc⟩
      | ow d =>
        cases e
        obtain ⟨u, h1, h2⟩ := h.atO hi
        rw [show σ[i]? = some (some v) from r] at h1
        cases h1
        exact ⟨rfl, rfl, .inr ⟨u, rfl, h2⟩⟩
/-- what an operation by values hands back -/
def Post (K : Fg) (x : Fx) (cs : List Addr) (B H : Hp) (r : Sl) (Q : VK) : Prop := match r with
  | .fz d => ∀ u B' H', Gr x.T [] B H B' H' → Rp K x.ca cs B' u d → Q u H'
  | .ow d => ∀ p B' H', Gr x.T [] B H B' H' → H p = none → Own K x.ca cs B' H' p d → Q (.ref p) H'
  | .sf p d => ∀ B' H', Gr x.T [] B H B' H' → H p = none → Own K x.ca cs B' H' p d → Q (.ref p) H'
  | .ad p => ∀ B' H', Gr x.T [] B H B' H' → Q (.ref p) H'
  | .cl c => ∀ B' H', Gr x.T [] B H B' H' → Q (.ref (x.ca c)) H'
  | .un => False
theorem post_of {r : Sl} {Q : VK} (h : SX K x env st cs σ B H) (hr : r ≠ .un) (k : ∀ v B' H', SX K x (r :: env) st cs (some v :: σ) B' H' → Sme B B' → Q v H') : Post K x cs B H r Q := by
  cases r with
  | un => exact hr rfl
  | fz d => exact fun u B' H' g rp => k u B' H' ((h.grow g).fz rp) g.b
  | ow d => exact fun p B' H' g n o => k _ B' H' (h.own g n o) g.b
  | sf p d => exact fun B' H' g n o => k _ B' H' (h.ownS g n o) g.b
  | ad p => exact fun B' H' g => k _ B' H' ((h.grow g).ad p) g.b
  | cl c => exact fun B' H' g => k _ B' H' ((h.grow g).cl c) g.b
end
def bin2 (f : D → D → Option Sl) (ma mb : M Pl) : M Sl := ma.bind fun a => mb.bind fun b => (rsv a).bind fun y => (rsv b).bind fun z => M.lift (f y z)
def Sound2 (K : Fg) (x : Fx) (rr : R2) (a b : D) (r : Sl) : Prop := r ≠ .un ∧ ∀ (cs : List Addr) (B H : Hp) (v w : V) (Q : VK), Sme B H → Lk K x.ca cs B H v a → Lk K x.ca cs B H w b → Post K x cs B H r Q → rr v w H Q
section
variable {K : Fg} {x : Fx} {W : WX} {X : Cx} {σ : L2.St} {H : Hp} {Q : VK}
theorem outG.rsv {β : Type} {p : Pl} {f : D → M β} {env : Env} {st : List D} {cs : List Addr} {B : Hp} {k : β → Env → List D → List Addr → Hp → Prop} (h : outG K x W σ cs B (((rsv p).bind f) env st) k) :
    ∃ y, outG K x W σ cs B (f y env st) k ∧ ∀ {cs' B' H v}, SX K x env st cs' σ B' H → PlR K x.ca cs' B' σ v p → Lk K x.ca cs' B' H v y := by
  have h := outG.bind h
  cases hr : Dn.rsv p env st with
  | stuck => rw [hr] at h; exact h.elim
  | exn c fs e' s' =>
    exfalso
    unfold Dn.rsv at hr
    cases p with
    | v d => simp only at hr; split at hr <;> cases hr
    | s i =>
      simp only at hr
      split at hr
      · split at hr <;> cases hr
      · cases hr
      · cases hr
      · cases hr
  | ok y e' s' =>
    have hst : e' = env ∧ s' = st := by
      unfold Dn.rsv at hr
      cases p with
      | v d => simp only at hr; split at hr <;> cases hr; exact ⟨rfl, rfl⟩
      | s i =>
        simp only at hr
        split at hr
        · split at hr <;> cases hr; exact ⟨rfl, rfl⟩
        · cases hr; exact ⟨rfl, rfl⟩
        · cases hr; exact ⟨rfl, rfl⟩
        · cases hr
    obtain ⟨rfl, rfl⟩ := hst
    rw [hr] at h
    exact ⟨y, h.now, fun sx pl => (lk_rsv sx pl hr).2.2⟩
theorem tU_bin2 {f : D → D → Option Sl} {P : R2 → Prop} {ma mb : M Pl} (hP : ∃ rr, P rr) (hf : ∀ a b r, f a b = some r → ∃ rr, P rr ∧ Sound2 K x rr a b r) (h : tU K x W (bin2 f ma mb) σ H Q) : ∃ rr, P rr ∧ tOp rr (tL K x W ma) (tL K x W mb) σ H Q := by
  obtain ⟨rr0, hrr0⟩ := hP
  obtain ⟨env, st, cs, B, hs, ho⟩ := h
  have ho := outG.bind ho
  cases hma : ma env st with
  | stuck => rw [hma] at ho; exact ho.elim
  | exn c fs e' s' => rw [hma] at ho; exact ⟨rr0, hrr0, env, st, cs, B, hs, by rw [hma]; exact ho⟩
  | ok a e1 s1 =>
    rw [hma] at ho
    have ho1 := outG.bind ho.now
    cases hmb : mb e1 s1 with
    | stuck => rw [hmb] at ho1; exact ho1.elim
    | exn c fs e' s' =>
      refine ⟨rr0, hrr0, env, st, cs, B, hs, ?_⟩
      rw [hma]
      intro cs1 B1 sb1 pr1 v H1 sx1 pl1
      refine ⟨e1, s1, cs1, B1, sx1, ?_⟩
      rw [hmb] at ho1 ⊢
      exact outE.up ho1 sb1 pr1
    | ok b e2 s2 =>
      rw [hmb] at ho1
      obtain ⟨y, ho2, hy⟩ := outG.rsv ho1.now
      obtain ⟨z, ho3, hz⟩ := outG.rsv ho2
      have hfz : ∃ r, f y z = some r := by
        obtain ⟨r, e, _⟩ := outG.lift ho3
        exact ⟨r, e⟩
      obtain ⟨r, hr⟩ := hfz
      unfold M.lift at ho3
      rw [hr] at ho3
      obtain ⟨rr, hrr, hun, hsound⟩ := hf y z r hr
      refine ⟨rr, hrr, env, st, cs, B, hs, ?_⟩
      rw [hma]
      intro cs1 B1 sb1 pr1 v H1 sx1 pl1
      refine ⟨e1, s1, cs1, B1, sx1, ?_⟩
      rw [hmb]
      intro cs2 B2 sb2 pr2 w H2 sx2 pl2
      refine hsound cs2 B2 H2 v w Q sx2.s (hy sx2 (pl1.mono sb2 pr2)) (hz sx2 pl2) (post_of sx2 hun fun u B' H' sx sb => ?_)
      exact (show outG K x W σ cs B (.ok r e2 s2) (qU K x σ Q) from ho3) cs2 B' (sb1.trans (sb2.trans sb)) (pr1.trans pr2) u H' sx
theorem pe_bin2 {ea eb : Expr} {op : Operator} {pos : Pos} {f : D → D → Option Sl} {ma mb : M Pl} (hP : ∃ rr, OpR X (binaryOp op) rr) (hf : ∀ a b r, f a b = some r → ∃ rr, OpR X (binaryOp op) rr ∧ Sound2 K x rr a b r) (ha : PE X ea (tL K x W ma)) (hb : PE X eb (tL K x W mb)) :
    PE X (.BinOp ea op eb pos) (tU K x W (bin2 f ma mb)) :=
  PE.imp (PE.all (P := fun t => ∃ rr, OpR X (binaryOp op) rr ∧ t = tOp rr (tL K x W ma) (tL K x W mb)) fun t ⟨rr, h1, h2⟩ => by subst h2; exact pe_op h1 ha hb) fun σ H Q q => by
    obtain ⟨rr, h1, h2⟩ := tU_bin2 hP hf q
    exact ⟨_, ⟨rr, h1, rfl⟩, h2⟩
theorem pe_cmp2 {ea eb : Expr} {op : CmpOp} {pos : Pos} {f : D → D → Option Sl} {ma mb : M Pl} (hm : behindInMarks op eb = false) (hP : ∃ rr, OpR X (compareOp op) rr) (hf : ∀ a b r, f a b = some r → ∃ rr, OpR X (compareOp op) rr ∧ Sound2 K x rr a b r) (ha : PE X ea (tL K x W ma)) (hb : PE X eb (tL K x W mb)) :
    PE X (.Compare ea [op] [eb] pos) (tU K x W (bin2 f ma mb)) :=
  PE.imp (PE.all (P := fun t => ∃ rr, OpR X (compareOp op) rr ∧ t = tOp rr (tL K x W ma) (tL K x W mb)) fun t ⟨rr, h1, h2⟩ => by subst h2; exact pe_cmpR h1 ha hb hm) fun σ H Q q => by
    obtain ⟨rr, h1, h2⟩ := tU_bin2 hP hf q
    exact ⟨_, ⟨rr, h1, rfl⟩, h2⟩
theorem pe_ix2 {ea eb : Expr} {pos : Pos} {f : D → D → Option Sl} {ma mb : M Pl} (hp : PlainIx eb) (hP : ∃ rr, IxR X rr) (hf : ∀ a b r, f a b = some r → ∃ rr, IxR X rr ∧ Sound2 K x rr a b r) (ha : PE X ea (tL K x W ma)) (hb : PE X eb (tL K x W mb)) :
    PE X (.Subscript ea eb pos) (tU K x W (bin2 f ma mb)) :=
  PE.imp (PE.all (P := fun t => ∃ rr, IxR X rr ∧ t = tOp rr (tL K x W ma) (tL K x W mb)) fun t ⟨rr, h1, h2⟩ => by subst h2; exact pe_ix h1 ha hb hp) fun σ H Q q => by
    obtain ⟨rr, h1, h2⟩ := tU_bin2 hP hf q
    exact ⟨_, ⟨rr, h1, rfl⟩, h2⟩
end
end Dn
end
section
set_option maxHeartbeats 200000
namespace Dn
open PySem L2
mutual
def py : D → PyData
  | .non => .none
  | .bl b => .bool b
  | .int i => .int i
  | .str s => .str s
  | .tup _ xs => .tuple (pyL xs)
  | .lst xs => .list (pyL xs)
  | .scr xs => .list (xs.map .int)
  | .dcK _ => .none
  | .dcT _ => .none
  | .obj _ _ => .none
  | .cell _ => .none
  | .exc _ _ => .none
def pyL : List D → List PyData
  | [] => []
  | d :: ds => py d :: pyL ds
end
theorem pyL_map : ∀ xs : List D, pyL xs = xs.map py
  | [] => rfl
  | x :: xs => by rw [pyL, List.map_cons, pyL_map xs]
mutual
def isDt : D → Bool
  | .non | .bl _ | .int _ | .str _ | .scr _ => true
  | .tup _ xs => isDtL xs
  | .lst xs => isDtL xs
  | .dcK _ | .dcT _ | .obj _ _ | .cell _ | .exc _ _ => false
def isDtL : List D → Bool
  | [] => true
  | d :: ds => isDt d && isDtL ds
end
def flatD : D → Bool
  | .non | .bl _ | .int _ | .str _ => true
  | _ => false
def scalD : D → D → Bool
  | .non, .non => true | .non, .int _ => true | .int _, .non => true | .non, .bl _ => true | .bl _, .non => true | .non, .str _ => true | .str _, .non => true
  | .int _, .int _ => true | .bl _, .bl _ => true | .str _, .str _ => true
  | .int _, .str _ => true | .str _, .int _ => true | .bl _, .str _ => true | .str _, .bl _ => true
  | _, _ => false
section
variable {K : Fg} {ca : Str → Addr} {cs : List Addr} {B H : Hp}
theorem dp_ints {xs : List Int} : DpAll K H (xs.map V.int) (xs.map PyData.int) := by
  induction xs with
  | nil => exact .nil
  | cons x xs ih => exact .cons (.int x) ih
mutual
theorem Rp.dp (s : Sme B H) : ∀ {v : V} {d : D}, Rp K ca cs B v d → isDt d = true → Dp K H v (py d)
  | _, _, .non, _ => .non
  | _, _, .bl b, _ => .bl b
  | _, _, .int i, _ => .int i
  | _, _, .str z, _ => .str z
  | _, _, .tup h r, q => .tup (SqT.of (s.tup h)) (r.dp s q)
  | _, _, .tupM h r, q => .tup (h.mono s).sq (r.dp s q)
  | _, _, .lst h r, q => .lst (SqL.of (s.lst h)) (r.dp s q)
  | _, _, .scr h, _ => .lst (sql_mono s h) dp_ints
  | _, _, .dcK _ _ _, q => by cases q
  | _, _, .dcT _ _ _, q => by cases q
  | _, _, .obj _ _ _, q => by cases q
  | _, _, .cell _, q => by cases q
  | _, _, .exc0 _, q => by cases q
  | _, _, .exc _ _ _ _, q => by cases q
theorem RpL.dp (s : Sme B H) : ∀ {vs : List V} {ds : List D}, RpL K ca cs B vs ds → isDtL ds = true → DpAll K H vs (pyL ds)
  | _, _, .nil, _ => .nil
  | _, _, .cons h r, q => .cons (h.dp s (Bool.and_eq_true_iff.mp q).1) (r.dp s (Bool.and_eq_true_iff.mp q).2)
end
theorem Lk.dp {v : V} {d : D} (s : Sme B H) (h : Lk K ca cs B H v d) (q : isDt d = true) : Dp K H v (py d) := by
  rcases h with h | ⟨p, e, h⟩
  · exact h.dp s q
  · subst e
    cases d with
    | lst xs => obtain ⟨vs, h1, h2, h3⟩ := h; exact .lst (SqL.of h1) (h3.dp s q)
    | dcK _ => cases q
    | dcT _ => cases q
    | obj _ _ => cases q
    | _ => exact h.elim
theorem scal_of {v w : V} {a b : D} (h : Lk K ca cs B H v a) (h' : Lk K ca cs B H w b) (e : scalD a b = true) : scal v w = true ∧ decide (v = w) = PyData.eqv (py a) (py b) := by
  cases a <;> cases b <;> simp [scalD] at e <;>
    (first | rw [h.non] | rw [h.int] | rw [h.bl] | rw [h.str]) <;> (first | rw [h'.non] | rw [h'.int] | rw [h'.bl] | rw [h'.str]) <;>
    simp [scal, py, PyData.eqv, Bool.beq_eq_decide_eq]
theorem Lk.flat {v : V} {a : D} (h : Lk K ca cs B H v a) (e : flatD a = true) : flatV v = true := by
  cases a <;> simp [flatD] at e <;> (first | rw [h.non] | rw [h.int] | rw [h.bl] | rw [h.str]) <;> rfl
theorem flat_eq {v w : V} {a b : D} (h : Rp K ca cs B v a) (h' : Lk K ca cs B H w b) (e : flatD a = true) (e' : flatD b = true) : eqV v w = PyData.eqv (py a) (py b) := by
  have h : Lk K ca cs B H v a := .inl h
  cases a <;> simp [flatD] at e <;> cases b <;> simp [flatD] at e' <;>
    (first | rw [h.non] | rw [h.int] | rw [h.bl] | rw [h.str]) <;> (first | rw [h'.non] | rw [h'.int] | rw [h'.bl] | rw [h'.str]) <;>
    simp [eqV, py, PyData.eqv]
theorem flat_in {w : V} {b : D} (h' : Lk K ca cs B H w b) (e' : flatD b = true) : ∀ {vs : List V} {ds : List D}, RpL K ca cs B vs ds → ds.all flatD = true → inV w vs = (ds.any fun y => PyData.eqv (py y) (py b)) ∧ vs.all flatV = true
  | _, _, .nil, _ => by simp [inV]
  | _, _, .cons r t, q => by
    rw [List.all_cons, Bool.and_eq_true] at q
    obtain ⟨h1, h2⟩ := flat_in h' e' t q.2
    unfold inV at h1 ⊢
    rw [List.any_cons, List.any_cons, h1, flat_eq r h' q.1 e', List.all_cons, h2, Lk.flat (H := H) (.inl r) q.1]
    exact ⟨rfl, rfl⟩
end
def mulOk (i j : Int) : Bool := decide (j.natAbs < 2 ^ 64) || (decide (i.natAbs < 2 ^ 64) || decide (i.natAbs.log2 + j.natAbs.log2 < 1000000))
def divOk (j : Int) : Bool := decide (0 < j) && decide (j.natAbs.log2 < 9000)
def powOk (i j : Int) : Bool := decide (0 ≤ j) && decide (j ≤ 1000000) && decide (i.natAbs < 2 ^ 128)
def catTup (m : Bool) (xs : List D) (n : Bool) (ys : List D) : D := if xs.isEmpty then .tup n ys else if ys.isEmpty then .tup m xs else .tup false (xs ++ ys)
def grd {α : Type} (b : Bool) (a : α) : Option α := if b then some a else none
theorem grd_some {α : Type} {b : Bool} {a r : α} (h : grd b a = some r) : b = true ∧ a = r := by
  unfold grd at h
  split at h
  · cases h; exact ⟨by assumption, rfl⟩
  · cases h
def binD : Operator → D → D → Option Sl
  | .Add, .int i, .int j => some (.fz (.int (i + j)))
  | .Add, .str a, .str b => grd (decide (a.length + b.length ≤ sizeLine)) (.fz (.str (a ++ b)))
  | .Add, .lst xs, .lst ys => grd (decide (xs.length + ys.length ≤ sizeLine)) (.ow (.lst (xs ++ ys)))
  | .Add, .tup m xs, .tup n ys => grd (decide (xs.length + ys.length ≤ sizeLine)) (.fz (catTup m xs n ys))
  | .Sub, .int i, .int j => some (.fz (.int (i - j)))
  | .Mult, .int i, .int j => grd (mulOk i j) (.fz (.int (i * j)))
  | .Mod, .int i, .int j => grd (decide (0 < j)) (.fz (.int (i % j)))
  | .FloorDiv, .int i, .int j => grd (divOk j) (.fz (.int (i / j)))
  | .Pow, .int i, .int j => grd (powOk i j) (.fz (.int (i ^ j.toNat)))
  | _, _, _ => none
def CPowW (i j : Int) : Prop := 0 ≤ j ∧ j ≤ 1000000 ∧ i.natAbs < 2 ^ 128
theorem op_powW {X : Cx} : OpR X (binaryOp .Pow) (rI CPowW fun i j => .int (i ^ j.toNat)) := opI fun i j _ _ _ _ _ hc q => by
  refine PyProof.Rows.pow_int hc.1 ?_ q
  have hb : Builtin.Int.intBits i ≤ 128 := PyProof.Rows.intBits_le hc.2.2
  have h1 : (Builtin.Int.intBits i : Int) ≤ 128 := by omega
  calc (Builtin.Int.intBits i : Int) * j ≤ 128 * j := Int.mul_le_mul_of_nonneg_right h1 hc.1
    _ ≤ 128 * 1000000 := Int.mul_le_mul_of_nonneg_left hc.2.1 (by decide)
    _ ≤ 2 ^ 27 := by decide
section
variable {X : Cx} {x : Fx}
theorem s2_int {C : Int → Int → Prop} {f : Int → Int → V} {i j : Int} {d : D} (c : C i j) (h : ∀ cs B, Rp X.K x.ca cs B (f i j) d) : Sound2 X.K x (rI C f) (.int i) (.int j) (.fz d) :=
  ⟨(fun z => nomatch z), fun cs B H v w Q s h1 h2 p => ⟨i, j, h1.int, h2.int, c, p _ B H (Gr.refl s) (h cs B)⟩⟩
theorem s2_int0 {f : Int → Int → V} {i j : Int} {d : D} (h : ∀ cs B, Rp X.K x.ca cs B (f i j) d) : Sound2 X.K x (rI0 f) (.int i) (.int j) (.fz d) :=
  ⟨(fun z => nomatch z), fun cs B H v w Q s h1 h2 p => ⟨i, j, h1.int, h2.int, p _ B H (Gr.refl s) (h cs B)⟩⟩
theorem tup_of {K : Fg} {ca : Str → Addr} {cs : List Addr} {B H : Hp} {v : V} {m : Bool} {xs : List D} (h : Lk K ca cs B H v (.tup m xs)) : Rp K ca cs B v (.tup m xs) := by
  rcases h with h | ⟨p, e, h⟩
  · exact h
  · cases h
theorem bin_ok (op : Operator) (a b : D) (r : Sl) (h : binD op a b = some r) : ∃ rr, OpR X (binaryOp op) rr ∧ Sound2 X.K x rr a b r := by
  unfold binD at h
  split at h
  · cases h; exact ⟨_, op_add, s2_int0 fun _ _ => .int _⟩
  · obtain ⟨h1, rfl⟩ := grd_some h
    exact ⟨_, op_add_str, (fun z => nomatch z), fun cs B H v w Q s l1 l2 p => ⟨_, _, l1.str, l2.str, of_decide_eq_true h1, p _ B H (Gr.refl s) (.str _)⟩⟩
  · obtain ⟨h1, rfl⟩ := grd_some h
    refine ⟨_, op_cat, (fun z => nomatch z), fun cs B H v w Q s l1 l2 p => ?_⟩
    obtain ⟨a, vs, rfl, e1, e2⟩ := l1.lst s
    obtain ⟨b, ws, rfl, e3, e4⟩ := l2.lst s
    refine ⟨a, b, vs, ws, rfl, rfl, e1, e3, by rw [e2.len, e4.len]; exact of_decide_eq_true h1, fun q hq => ?_⟩
    exact p q B _ (Gr.own s hq) hq ⟨_, upd_same, free_b s hq, e2.app e4⟩
  · obtain ⟨h1, rfl⟩ := grd_some h
    refine ⟨_, op_catA, (fun z => nomatch z), fun cs B H v w Q s l1 l2 p => ?_⟩
    have t1 := tup_of l1
    have t2 := tup_of l2
    obtain ⟨a, vs, rfl, e0, e1, e2⟩ := l1.tup s
    obtain ⟨b, ws, rfl, e0', e3, e4⟩ := l2.tup s
    refine ⟨a, b, vs, ws, rfl, rfl, e1, e3, by rw [e2.len, e4.len]; exact of_decide_eq_true h1, fun z => ?_, fun z z' => ?_, fun z z' q hq => ?_⟩
    · subst z
      refine p _ B H (Gr.refl s) ?_
      unfold catTup
      rw [if_pos (by cases e2; rfl)]; exact t2
    · subst z'
      refine p _ B H (Gr.refl s) ?_
      unfold catTup
      rw [if_neg (by cases e2 <;> first | exact absurd rfl z | (intro q; cases q)), if_pos (by cases e4; rfl)]; exact t1
    · have ga := Gr.alloc (T := x.T) (o := .tup (vs ++ ws)) s hq
      refine p _ _ _ ga ?_
      unfold catTup
      rw [if_neg (by cases e2 <;> first | exact absurd rfl z | (intro q; cases q)), if_neg (by cases e4 <;> first | exact absurd rfl z' | (intro q; cases q))]
      exact .tup upd_same ((e2.app e4).mono ga.b (Pre.refl _))
  · cases h; exact ⟨_, op_sub, s2_int0 fun _ _ => .int _⟩
  · obtain ⟨h1, rfl⟩ := grd_some h
    unfold mulOk at h1
    rw [Bool.or_eq_true, Bool.or_eq_true] at h1
    rcases h1 with h1 | h1 | h1
    · have q := of_decide_eq_true h1
      exact ⟨_, op_mul, s2_int (C := CMul) (.inr ⟨by omega, by omega⟩) fun _ _ => .int _⟩
    · have q := of_decide_eq_true h1
      exact ⟨_, op_mul, s2_int (C := CMul) (.inl ⟨by omega, by omega⟩) fun _ _ => .int _⟩
    · exact ⟨_, op_mulW, s2_int (show CMulW _ _ from of_decide_eq_true (p := (_ < _)) h1) fun _ _ => .int _⟩
  · obtain ⟨h1, rfl⟩ := grd_some h
    exact ⟨_, op_mod, s2_int (of_decide_eq_true h1) fun _ _ => .int _⟩
  · obtain ⟨h1, rfl⟩ := grd_some h
    unfold divOk at h1
    rw [Bool.and_eq_true] at h1
    exact ⟨_, op_fdivW, s2_int ⟨of_decide_eq_true h1.1, of_decide_eq_true h1.2⟩ fun _ _ => .int _⟩
  · obtain ⟨h1, rfl⟩ := grd_some h
    unfold powOk at h1
    rw [Bool.and_eq_true, Bool.and_eq_true] at h1
    exact ⟨_, op_powW, s2_int ⟨of_decide_eq_true h1.1.1, of_decide_eq_true h1.1.2, of_decide_eq_true h1.2⟩ fun _ _ => .int _⟩
  · cases h
def eqOk (a b : D) : Bool := scalD a b || (isDt a && isDt b && SeqAt.shaped (py a) && SeqAt.shaped (py b))
def inOk (a : D) (ys : List D) : Bool := (flatD a && ys.all flatD) || (isDt a && isDtL ys && SeqAt.shaped (py a) && SeqAt.shaped (.list (pyL ys)))
def inB (a : D) (ys : List D) : Bool := ys.any fun y => PyData.eqv (py y) (py a)
def keyD : D → Option Key
  | .int i => some (.inl i)
  | .str s => some (.inr s)
  | _ => none
def keysL : List D → Option (List Key)
  | [] => some []
  | d :: ds => match keyD d, keysL ds with
    | some k, some ks => some (k :: ks)
    | _, _ => none
def keysD : D → Option (List Key)
  | .tup false xs => keysL xs
  | _ => none
def getK {κ : Type} [DecidableEq κ] (kvs : List (κ × D)) (k : κ) : Option D := (kvs.find? fun kv => decide (kv.1 = k)).map (·.2)
/-- x in y -/
def inD (a : D) : D → Option Bool
  | .lst ys => grd (inOk a ys) (inB a ys)
  | .tup _ ys => grd (inOk a ys) (inB a ys)
  | .dcK kvs => match keyD a with
    | some k => some (getK kvs k).isSome
    | none => match kvs, keysD a with
      | [], some _ => some false
      | _, _ => none
  | .dcT kvs => match keysD a with
    | some k => some (getK kvs k).isSome
    | none => none
  | .str z => match a with
    | .str y => match y.cps.toList with
      | [c] => some (decide (c ∈ z.cps.toList))
      | _ => none
    | _ => none
  | _ => none
def cmpB : CmpOp → D → D → Option Bool
  | .Eq, a, b => grd (eqOk a b) (PyData.eqv (py a) (py b))
  | .NotEq, a, b => grd (eqOk a b) (!PyData.eqv (py a) (py b))
  | .Lt, .int i, .int j => some (decide (i < j))
  | .LtE, .int i, .int j => some (decide (i ≤ j))
  | .Gt, .int i, .int j => some (decide (j < i))
  | .GtE, .int i, .int j => some (decide (j ≤ i))
  | .In, a, b => inD a b
  | .NotIn, a, b => (inD a b).map (!·)
  | _, _, _ => none
def cmpD (op : CmpOp) (a b : D) : Option Sl := (cmpB op a b).map fun r => .fz (.bl r)
theorem op_inDT (hu : X.A.units + 65 < cLine) : OpR X (compareOp .In) (fun x y H Q => ∃ d ds, Dp X.K H x d ∧ Dp X.K H y (.tuple ds) ∧ SeqAt.shaped d = true ∧ SeqAt.shaped (.list ds) = true ∧ Q (.bl (ds.any fun z => PyData.eqv z d)) H) := by
  intro pins s σ H x y v u Q I rx ry h
  obtain ⟨d, ds, hd, he, sd, se, q⟩ := h
  obtain ⟨as, r1⟩ := Dp.reads I d x v hd rx
  obtain ⟨bs, r2⟩ := Dp.reads I (.tuple ds) y u he ry
  exact SeqAt.in_tuple_reads r2 r1 (SeqAt.canLay_of_shaped se) (SeqAt.canLay_of_shaped sd) (PyProof.Rows.room_in_shaped sd hu) ⟨.bl _, H, I, rfl, q⟩
theorem op_niDT (hu : X.A.units + 65 < cLine) : OpR X (compareOp .NotIn) (fun x y H Q => ∃ d ds, Dp X.K H x d ∧ Dp X.K H y (.tuple ds) ∧ SeqAt.shaped d = true ∧ SeqAt.shaped (.list ds) = true ∧ Q (.bl (!ds.any fun z => PyData.eqv z d)) H) := by
  intro pins s σ H x y v u Q I rx ry h
  obtain ⟨d, ds, hd, he, sd, se, q⟩ := h
  obtain ⟨as, r1⟩ := Dp.reads I d x v hd rx
  obtain ⟨bs, r2⟩ := Dp.reads I (.tuple ds) y u he ry
  exact SeqAt.notIn_tuple_reads r2 r1 (SeqAt.canLay_of_shaped se) (SeqAt.canLay_of_shaped sd) (PyProof.Rows.room_in_shaped sd hu) ⟨.bl _, H, I, rfl, q⟩
theorem op_dIn (hu : X.A.units + 1 < cLine) : OpR X (compareOp .In) (fun y x H Q => ∃ a o, x = .ref a ∧ DGet H a y o ∧ Q (.bl o.isSome) H) := by
  intro pins s σ H y x v u Q I ry rx h
  obtain ⟨a, o, rfl, g, q⟩ := h
  cases (show u = Value.ref a from rx)
  exact d_in hu I g ry fun s3 I3 => ⟨.bl o.isSome, H, I3, rfl, q⟩
theorem op_dNi (hu : X.A.units + 1 < cLine) : OpR X (compareOp .NotIn) (fun y x H Q => ∃ a o, x = .ref a ∧ DGet H a y o ∧ Q (.bl (!o.isSome)) H) := by
  intro pins s σ H y x v u Q I ry rx h
  obtain ⟨a, o, rfl, g, q⟩ := h
  cases (show u = Value.ref a from rx)
  exact d_notIn hu I g ry fun s3 I3 => ⟨.bl (!o.isSome), H, I3, rfl, q⟩
end
section
variable {K : Fg} {ca : Str → Addr} {cs : List Addr} {B H : Hp}
theorem val_get {κ : Type} [DecidableEq κ] (k : κ) : ∀ {ws : List (κ × V)} {kvs : List (κ × D)}, ws.map (·.1) = kvs.map (·.1) → RpL K ca cs B (ws.map (·.2)) (kvs.map (·.2)) →
    (getK kvs k = none ∧ valV ws k = none) ∨ ∃ y v, getK kvs k = some y ∧ valV ws k = some v ∧ Rp K ca cs B v y
  | [], [], _, _ => .inl ⟨rfl, rfl⟩
  | [], _ :: _, e, _ => by cases e
  | _ :: _, [], e, _ => by cases e
  | w :: ws, y :: kvs, e, r => by
    rw [List.map_cons, List.map_cons] at e r
    obtain ⟨e1, e2⟩ := List.cons.inj e
    cases r with
    | cons r1 r2 =>
      unfold getK valV
      rw [List.find?_cons, List.find?_cons, e1]
      by_cases z : y.1 = k
      · rw [decide_eq_true z]; exact .inr ⟨_, _, rfl, rfl, r1⟩
      · rw [decide_eq_false z]; exact val_get k e2 r2
theorem key_of' {v : V} {d : D} {k : Key} (h : Lk K ca cs B H v d) (e : keyD d = some k) : v = kV k := by
  cases d with
  | int i => cases e; exact h.int
  | str s => cases e; exact h.str
  | _ => cases e
theorem keysL_of : ∀ {vs : List V} {ds : List D} {ks : List Key}, RpL K ca cs B vs ds → keysL ds = some ks → vs = ks.map kV
  | _, _, _, .nil, e => by cases e; rfl
  | _, _, ks, .cons (d := d) (ds := ds) r t, e => by
    unfold keysL at e
    cases h1 : keyD d with
    | none => rw [h1] at e; cases e
    | some k =>
      cases h2 : keysL ds with
      | none => rw [h1, h2] at e; cases e
      | some ks' =>
        rw [h1, h2] at e
        cases e
        rw [List.map_cons, ← keysL_of t h2, key_of' (H := B) (.inl r) h1]
theorem keys_of' {v : V} {d : D} {ks : List Key} (s : Sme B H) (h : Lk K ca cs B H v d) (e : keysD d = some ks) : ∃ b, v = .ref b ∧ B b = some (.tup (ks.map kV)) ∧ H b = some (.tup (ks.map kV)) := by
  cases d with
  | tup m xs =>
    cases m with
    | true => cases e
    | false =>
      have h := tup_of h
      cases h with
      | tup h r =>
        have := keysL_of r e
        subst this
        exact ⟨_, rfl, h, s.tup h⟩
  | _ => cases e
end
section
variable {X : Cx} {x : Fx}
theorem s2_bl {rr : R2} {a b : D} {r : Bool} (h : ∀ (cs : List Addr) (B H : Hp) (v w : V) (Q : VK), Sme B H → Lk X.K x.ca cs B H v a → Lk X.K x.ca cs B H w b → Q (.bl r) H → rr v w H Q) : Sound2 X.K x rr a b (.fz (.bl r)) :=
  ⟨fun z => (nomatch z), fun cs B H v w Q s l1 l2 p => h cs B H v w Q s l1 l2 (p _ B H (Gr.refl s) (.bl r))⟩
/-- the empty dict is one with tuple keys, too -/
theorem dT_empty {P : Program} {w : World} {H : Hp} {h : Heap} {a : Addr} (o : ObjOk P w H h a (.dK [])) (H' : Hp) : ObjOk P w H' h a (.dT []) := by
  obtain ⟨h1, h2, vs, kv, dd⟩ := o
  cases kv
  obtain ⟨o, es, ep, e1, e2, e3, e4, e5, e6⟩ := dd
  have : es.toList = [] := List.length_eq_zero_iff.mp e5.length
  exact ⟨h1, h2, [], .nil, o, es, ep, e1, e2, e3, this, by simp⟩
theorem inv_dT {pins : List (Addr × Obj)} {σ : L2.St} {H : Hp} {s : Shared} {a : Addr} (I : Inv X pins σ H s) (e : H a = some (.dK [])) : Inv X pins σ (upd H a (.dT [])) s := by
  have ho := I.hok a _ e
  have hx : ∃ o, s.heap.get? a = some o := by
    obtain ⟨_, _, _, _, o, _, _, e1, _⟩ := ho
    exact ⟨o, e1⟩
  exact I.write (t' := s.toks) (x := a) (e := a) (h' := s.heap) (by rw [e]; exact True.intro) (.inl rfl) (fun b u _ q => q) hx (dT_empty ho _)
theorem upd_back {H : Hp} {a : Addr} {o : HO} (e : H a = some o) : upd H a o = H := by
  funext b
  by_cases z : b = a
  · subst z; rw [upd_same, e]
  · rw [upd_ne z]
theorem dT_rd0 {P : Program} {w : World} {H : Hp} {h : Heap} {a : Addr} (ok : HOk P w H h) (e : Rd H a (.dK [])) : (a == sysModules) = false ∧ h.DictOfH (tupleKind (mixKind P w)) a [] := by
  obtain ⟨z, y, xs, r, o, es, ep, h1, h2, h3, h4, h5⟩ := dT_empty (e.ok ok) H
  cases r
  exact ⟨y, o, es, ep, h1, h2, h3, h4, (fun x hx => by cases hx), h5⟩
theorem op_dIn0 (hu : X.A.units + 1 < cLine) : OpR X (compareOp .In) (fun y x H Q => ∃ a b, ∃ k : List Key, x = .ref a ∧ y = .ref b ∧ Rd H a (.dK []) ∧ H b = some (.tup (k.map kV)) ∧ Q (.bl false) H) := by
  intro pins s σ H y x v u Q I ry rx h
  obtain ⟨a, b, k, rfl, rfl, ha, hb, q⟩ := h
  cases (show u = Value.ref a from rx)
  cases (show v = Value.ref b from ry)
  obtain ⟨hd, dd⟩ := dT_rd0 I.hok ha
  exact wpAny_in_heap (tupleKind_room_in1 hu) (key_of I.hok hb) hd dd ⟨.bl false, H, I.tok _, rfl, q⟩
theorem op_dNi0 (hu : X.A.units + 1 < cLine) : OpR X (compareOp .NotIn) (fun y x H Q => ∃ a b, ∃ k : List Key, x = .ref a ∧ y = .ref b ∧ Rd H a (.dK []) ∧ H b = some (.tup (k.map kV)) ∧ Q (.bl true) H) := by
  intro pins s σ H y x v u Q I ry rx h
  obtain ⟨a, b, k, rfl, rfl, ha, hb, q⟩ := h
  cases (show u = Value.ref a from rx)
  cases (show v = Value.ref b from ry)
  obtain ⟨hd, dd⟩ := dT_rd0 I.hok ha
  exact PyProof.Rows.wpAny_notIn_heap (tupleKind_room_in1 hu) (key_of I.hok hb) hd dd ⟨.bl true, H, I.tok _, rfl, q⟩
theorem in_ok (hu : X.A.units + 65 < cLine) (a b : D) (r : Bool) (h : inD a b = some r) : (∃ rr, OpR X (compareOp .In) rr ∧ Sound2 X.K x rr a b (.fz (.bl r))) ∧ ∃ rr, OpR X (compareOp .NotIn) rr ∧ Sound2 X.K x rr a b (.fz (.bl (!r))) := by
  unfold inD at h
  split at h
  · rename_i ys
    obtain ⟨h1, rfl⟩ := grd_some h
    unfold inOk at h1
    rw [Bool.or_eq_true] at h1
    rcases h1 with h1 | h1
    · rw [Bool.and_eq_true] at h1
      refine ⟨⟨_, op_in_seq, s2_bl fun cs B H v w Q s l1 l2 q => ?_⟩, ⟨_, op_notIn_seq, s2_bl fun cs B H v w Q s l1 l2 q => ?_⟩⟩ <;>
        (obtain ⟨p, vs, rfl, e1, e2⟩ := l2.lst s
         obtain ⟨f1, f2⟩ := flat_in l1 h1.1 e2 h1.2)
      · exact ⟨p, vs, rfl, .inl (SqL.of e1), l1.flat h1.1, f2, by rw [if_neg Bool.false_ne_true, f1]; exact q⟩
      · exact ⟨p, vs, rfl, .inl (SqL.of e1), l1.flat h1.1, f2, by rw [if_pos rfl, f1]; exact q⟩
    · rw [Bool.and_eq_true, Bool.and_eq_true, Bool.and_eq_true] at h1
      obtain ⟨⟨⟨i1, i2⟩, i3⟩, i4⟩ := h1
      have hl : (pyL ys).any (fun z => PyData.eqv z (py a)) = inB a ys := by rw [pyL_map, List.any_map]; rfl
      refine ⟨⟨_, op_inD hu, s2_bl fun cs B H v w Q s l1 l2 q => ⟨py a, pyL ys, l1.dp s i1, l2.dp (d := .lst ys) s i2, i3, i4, by rw [hl]; exact q⟩⟩, ⟨_, op_notInD hu, s2_bl fun cs B H v w Q s l1 l2 q => ⟨py a, pyL ys, l1.dp s i1, l2.dp (d := .lst ys) s i2, i3, i4, by rw [hl]; exact q⟩⟩⟩
  · rename_i m ys
    obtain ⟨h1, rfl⟩ := grd_some h
    unfold inOk at h1
    rw [Bool.or_eq_true] at h1
    rcases h1 with h1 | h1
    · rw [Bool.and_eq_true] at h1
      refine ⟨⟨_, op_in_seq, s2_bl fun cs B H v w Q s l1 l2 q => ?_⟩, ⟨_, op_notIn_seq, s2_bl fun cs B H v w Q s l1 l2 q => ?_⟩⟩ <;>
        (obtain ⟨p, vs, rfl, e0, e1, e2⟩ := l2.tup s
         obtain ⟨f1, f2⟩ := flat_in l1 h1.1 e2 h1.2)
      · exact ⟨p, vs, rfl, .inr e1, l1.flat h1.1, f2, by rw [if_neg Bool.false_ne_true, f1]; exact q⟩
      · exact ⟨p, vs, rfl, .inr e1, l1.flat h1.1, f2, by rw [if_pos rfl, f1]; exact q⟩
    · rw [Bool.and_eq_true, Bool.and_eq_true, Bool.and_eq_true] at h1
      obtain ⟨⟨⟨i1, i2⟩, i3⟩, i4⟩ := h1
      have hl : (pyL ys).any (fun z => PyData.eqv z (py a)) = inB a ys := by rw [pyL_map, List.any_map]; rfl
      refine ⟨⟨_, op_inDT hu, s2_bl fun cs B H v w Q s l1 l2 q => ⟨py a, pyL ys, l1.dp s i1, l2.dp (d := .tup m ys) s i2, i3, i4, by rw [hl]; exact q⟩⟩, ⟨_, op_niDT hu, s2_bl fun cs B H v w Q s l1 l2 q => ⟨py a, pyL ys, l1.dp s i1, l2.dp (d := .tup m ys) s i2, i3, i4, by rw [hl]; exact q⟩⟩⟩
  · rename_i kvs
    split at h
    · rename_i k hk
      cases h
      refine ⟨⟨_, op_dIn (by omega), s2_bl fun cs B H v w Q s l1 l2 q => ?_⟩, ⟨_, op_dNi (by omega), s2_bl fun cs B H v w Q s l1 l2 q => ?_⟩⟩ <;>
        (obtain ⟨p, ws, rfl, e1, e2, e3⟩ := l2.dcK s
         have hv := key_of' l1 hk
         subst hv
         refine ⟨p, _, rfl, .inl ⟨ws, k, e1, rfl, rfl⟩, ?_⟩
         rcases val_get k e2 e3 with ⟨g1, g2⟩ | ⟨y, u, g1, g2, _⟩ <;> rw [g2] <;> rw [g1] at q <;> exact q)
    · split at h
      · rename_i ks hks
        cases h
        refine ⟨⟨_, op_dIn0 (by omega), s2_bl fun cs B H v w Q s l1 l2 q => ?_⟩, ⟨_, op_dNi0 (by omega), s2_bl fun cs B H v w Q s l1 l2 q => ?_⟩⟩ <;>
          (obtain ⟨p, ws, rfl, e1, e2, e3⟩ := l2.dcK s
           obtain ⟨b, rfl, b1, b2⟩ := keys_of' s l1 hks
           have : ws = [] := List.map_eq_nil_iff.mp e2
           subst this
           exact ⟨p, b, ks, rfl, rfl, e1, b2, q⟩)
      · cases h
  · rename_i kvs
    split at h
    · rename_i k hk
      cases h
      refine ⟨⟨_, op_dIn (by omega), s2_bl fun cs B H v w Q s l1 l2 q => ?_⟩, ⟨_, op_dNi (by omega), s2_bl fun cs B H v w Q s l1 l2 q => ?_⟩⟩ <;>
        (obtain ⟨p, ws, rfl, e1, e2, e3⟩ := l2.dcT s
         obtain ⟨b, rfl, b1, b2⟩ := keys_of' s l1 hk
         refine ⟨p, _, rfl, .inr ⟨ws, k, b, e1, rfl, b2, rfl⟩, ?_⟩
         rcases val_get k e2 e3 with ⟨g1, g2⟩ | ⟨y, u, g1, g2, _⟩ <;> rw [g2] <;> rw [g1] at q <;> exact q)
    · cases h
  · rename_i z
    split at h
    · rename_i y
      split at h
      · rename_i c hc
        cases h
        have e : y = ⟨#[c]⟩ := by
          obtain ⟨ar⟩ := y
          congr 1
          exact Array.toList_inj.mp hc
        subst e
        exact ⟨⟨_, op_in_sign, s2_bl fun cs B H v w Q s l1 l2 q => ⟨c, z, l1.str, l2.str, q⟩⟩, ⟨_, op_notIn_sign, s2_bl fun cs B H v w Q s l1 l2 q => ⟨c, z, l1.str, l2.str, q⟩⟩⟩
      · cases h
    · cases h
  · cases h
theorem cmp_ok (hu : X.A.units + 65 < cLine) (op : CmpOp) (a b : D) (r : Sl) (h : cmpD op a b = some r) : ∃ rr, OpR X (compareOp op) rr ∧ Sound2 X.K x rr a b r := by
  unfold cmpD at h
  obtain ⟨q, hq, rfl⟩ := Option.map_eq_some_iff.mp h
  clear h
  unfold cmpB at hq
  split at hq
  · obtain ⟨h1, rfl⟩ := grd_some hq
    unfold eqOk at h1
    rw [Bool.or_eq_true] at h1
    rcases h1 with h1 | h1
    · exact ⟨_, op_eq, s2_bl fun cs B H v w Q s l1 l2 q => ⟨(scal_of l1 l2 h1).1, by rw [(scal_of l1 l2 h1).2]; exact q⟩⟩
    · rw [Bool.and_eq_true, Bool.and_eq_true, Bool.and_eq_true] at h1
      obtain ⟨⟨⟨i1, i2⟩, i3⟩, i4⟩ := h1
      exact ⟨_, op_eqD (by omega), s2_bl fun cs B H v w Q s l1 l2 q => ⟨_, _, l1.dp s i1, l2.dp s i2, i3, i4, q⟩⟩
  · obtain ⟨h1, rfl⟩ := grd_some hq
    unfold eqOk at h1
    rw [Bool.or_eq_true] at h1
    rcases h1 with h1 | h1
    · exact ⟨_, op_ne, s2_bl fun cs B H v w Q s l1 l2 q => ⟨(scal_of l1 l2 h1).1, by rw [(scal_of l1 l2 h1).2]; exact q⟩⟩
    · rw [Bool.and_eq_true, Bool.and_eq_true, Bool.and_eq_true] at h1
      obtain ⟨⟨⟨i1, i2⟩, i3⟩, i4⟩ := h1
      exact ⟨_, op_neD (by omega), s2_bl fun cs B H v w Q s l1 l2 q => ⟨_, _, l1.dp s i1, l2.dp s i2, i3, i4, q⟩⟩
  · cases hq; exact ⟨_, op_lt, s2_int0 fun _ _ => .bl _⟩
  · cases hq; exact ⟨_, op_le, s2_int0 fun _ _ => .bl _⟩
  · cases hq; exact ⟨_, op_gt, s2_int0 fun _ _ => .bl _⟩
  · cases hq; exact ⟨_, op_ge, s2_int0 fun _ _ => .bl _⟩
  · exact (in_ok hu _ _ _ hq).1
  · obtain ⟨q', hq', rfl⟩ := Option.map_eq_some_iff.mp hq
    exact (in_ok hu _ _ _ hq').2
  · cases hq
theorem cmp_any (op : CmpOp) : ∃ rr, OpR X (compareOp op) rr := ⟨fun _ _ _ _ => False, fun _ _ _ _ _ _ _ _ _ _ _ _ h => h.elim⟩
theorem bin_any (op : Operator) : ∃ rr, OpR X (binaryOp op) rr := ⟨fun _ _ _ _ => False, fun _ _ _ _ _ _ _ _ _ _ _ _ h => h.elim⟩
theorem ix_any : ∃ rr, IxR X rr := ⟨fun _ _ _ _ => False, fun _ _ _ _ _ _ _ _ _ _ _ _ _ _ h => h.elim⟩
def sgn (c : Nat) : Str := ⟨#[c]⟩
def ixD : D → D → Option Sl
  | .lst xs, .int i => (atI xs i).map .fz
  | .tup _ xs, .int i => (atI xs i).map .fz
  | .scr xs, .int i => (atI xs i).map fun j => .fz (.int j)
  | .str z, .int i => if z.length ≤ sizeLine then (atI z.cps.toList i).map fun c => .fz (.str (sgn c)) else none
  | .dcK kvs, k => match keyD k with
    | some k => (getK kvs k).map .fz
    | none => none
  | .dcT kvs, k => match keysD k with
    | some k => (getK kvs k).map .fz
    | none => none
  | _, _ => none
theorem atI_rp {K : Fg} {ca : Str → Addr} {cs : List Addr} {B : Hp} {vs : List V} {xs : List D} {i : Int} {d : D} (r : RpL K ca cs B vs xs) (h : atI xs i = some d) : ∃ v, atI vs i = some v ∧ Rp K ca cs B v d := by
  unfold atI at h ⊢
  rw [r.len]
  cases e : ixN xs.length i with
  | none => rw [e] at h; cases h
  | some j => rw [e] at h; exact r.get h
theorem atI_map {α β : Type} (f : α → β) {xs : List α} {i : Int} {x : α} (h : atI xs i = some x) : atI (xs.map f) i = some (f x) := by
  unfold atI at h ⊢
  rw [List.length_map]
  cases e : ixN xs.length i with
  | none => rw [e] at h; cases h
  | some j =>
    rw [e] at h
    show (xs.map f)[j]? = some (f x)
    rw [List.getElem?_map, show xs[j]? = some x from h]; rfl
theorem subTail_any {prog : Program} {w : World} {A : Around} {E : Value → Shared → Prop} {s : Shared} {value slice : Expr} {o i : Value} {T id : String} {Q : Value → Shared → Prop} (hT : s.TypeIs o T)
    (hl : typeLookup (.type T) "__getitem__" = pure (some (.builtin id))) (h : wpAny (model prog w) A (getItem o i) Q E s) (hs : subscripted slice false o i = operate [o, i] (getItem o i)) :
    wpAny (model prog w) A (PyProof.Rows.subscriptTail value slice o i) Q E s := by
  unfold PyProof.Rows.subscriptTail
  refine wpAny_bind ?_
  rw [getitemInPython_of_ne hT.not_modules]
  refine wpAny_bind (wpAny_specialOf hT hl ?_)
  have fin : wpAny (model prog w) A (subscripted slice false o i) (fun r s₃ => wpAny (model prog w) A (letTemporaryGo value o r >>= fun _ => pure r) Q E s₃) E s := by
    rw [hs]
    exact wpAny_operating (wpAny_mono h (fun r s₃ h₃ => wpAny_bind (wpAny_letTemporaryGo (wpAny_pure h₃))) fun _ _ x => x)
  first
    | exact wpAny_pure (wpAny_bind fin)
    | exact wpAny_bind (wpAny_pure (wpAny_bind fin))
    | exact wpAny_bind fin
theorem ix_dict (hu : X.A.units + 1 < cLine) : IxR X (fun x y H Q => ∃ a v, x = .ref a ∧ DGet H a y (some v) ∧ Q v H) := by
  intro value slice pins s σ H x y v u Q I rx ry h hs
  obtain ⟨a, z, rfl, g, q⟩ := h
  cases (show v = Value.ref a from rx)
  exact subTail_any (dict_typeIs I g) PySem.F.slot_dict_getitem.lookup (d_getItem hu I g ry fun w' s3 I3 rw' => ⟨z, H, I3, rw', q⟩) hs
theorem ix_ok (hu : X.A.units + 65 < cLine) (a b : D) (r : Sl) (h : ixD a b = some r) : ∃ rr, IxR X rr ∧ Sound2 X.K x rr a b r := by
  unfold ixD at h
  split at h
  · obtain ⟨d, hd, rfl⟩ := Option.map_eq_some_iff.mp h
    refine ⟨_, ix_list, (fun z => nomatch z), fun cs B H v w Q s l1 l2 p => ?_⟩
    obtain ⟨a, vs, rfl, e1, e2⟩ := l1.lst s
    obtain ⟨u, h1, h2⟩ := atI_rp e2 hd
    exact ⟨a, vs, _, u, rfl, l2.int, SqL.of e1, h1, p u B H (Gr.refl s) h2⟩
  · obtain ⟨d, hd, rfl⟩ := Option.map_eq_some_iff.mp h
    refine ⟨_, ix_tup, (fun z => nomatch z), fun cs B H v w Q s l1 l2 p => ?_⟩
    obtain ⟨a, vs, rfl, e0, e1, e2⟩ := l1.tup s
    obtain ⟨u, h1, h2⟩ := atI_rp e2 hd
    exact ⟨a, vs, _, u, rfl, l2.int, e1, h1, p u B H (Gr.refl s) h2⟩
  · obtain ⟨d, hd, rfl⟩ := Option.map_eq_some_iff.mp h
    refine ⟨_, ix_list, (fun z => nomatch z), fun cs B H v w Q s l1 l2 p => ?_⟩
    obtain ⟨a, rfl, e0, e1⟩ := l1.scr s
    exact ⟨a, _, _, _, rfl, l2.int, e1, atI_map V.int hd, p _ B H (Gr.refl s) (.int _)⟩
  · split at h
    · rename_i hz
      obtain ⟨c, hc, rfl⟩ := Option.map_eq_some_iff.mp h
      exact ⟨_, ix_str, (fun z => nomatch z), fun cs B H v w Q s l1 l2 p => ⟨_, _, c, l1.str, l2.int, hz, hc, p _ B H (Gr.refl s) (.str _)⟩⟩
    · cases h
  · split at h
    · rename_i k hk
      obtain ⟨d, hd, rfl⟩ := Option.map_eq_some_iff.mp h
      refine ⟨_, ix_dict (by omega), (fun z => nomatch z), fun cs B H v w Q s l1 l2 p => ?_⟩
      obtain ⟨a, ws, rfl, e1, e2, e3⟩ := l1.dcK s
      have hv := key_of' l2 hk
      subst hv
      rcases val_get k e2 e3 with ⟨g1, g2⟩ | ⟨y, u, g1, g2, g3⟩
      · rw [g1] at hd; cases hd
      · rw [g1] at hd; cases hd
        exact ⟨a, u, rfl, by rw [← g2]; exact .inl ⟨ws, k, e1, rfl, rfl⟩, p u B H (Gr.refl s) g3⟩
    · cases h
  · split at h
    · rename_i k hk
      obtain ⟨d, hd, rfl⟩ := Option.map_eq_some_iff.mp h
      refine ⟨_, ix_dict (by omega), (fun z => nomatch z), fun cs B H v w Q s l1 l2 p => ?_⟩
      obtain ⟨a, ws, rfl, e1, e2, e3⟩ := l1.dcT s
      obtain ⟨b, rfl, b1, b2⟩ := keys_of' s l2 hk
      rcases val_get k e2 e3 with ⟨g1, g2⟩ | ⟨y, u, g1, g2, g3⟩
      · rw [g1] at hd; cases hd
      · rw [g1] at hd; cases hd
        exact ⟨a, u, rfl, by rw [← g2]; exact .inr ⟨ws, k, b, e1, rfl, b2, rfl⟩, p u B H (Gr.refl s) g3⟩
    · cases h
  · cases h
end
end Dn
end
section
set_option maxHeartbeats 200000
namespace Dn
open PySem L2
section
variable {K : Fg} {x : Fx} {W : WX} {X : Cx} {σ : L2.St} {H : Hp} {Q : VK}
def rdN (i : Nat) : M Sl := fun e s => match e[i]? with
  | some (.fz d) => .ok (.fz d) e s
  | some (.ow d) => .ok (.fz d) (e.set i (.fz d)) s
  | _ => .stuck
def lkN (i : Nat) : M Pl := fun e s => match e[i]? with
  | some (.fz _) => .ok (.s i) e s
  | some (.ow _) => .ok (.s i) e s
  | some (.sf _ _) => .ok (.s i) e s
  | _ => .stuck
theorem tU_rdN {i : Nat} (h : tU K x W (rdN i) σ H Q) : tVar i σ H Q := by
  obtain ⟨env, st, cs, B, hs, ho⟩ := h
  unfold rdN at ho
  split at ho
  · rename_i d hd
    obtain ⟨v, h1, h2⟩ := hs.atF hd
    exact ⟨v, h1, ho.now v H (hs.fz h2)⟩
  · rename_i d hd
    obtain ⟨B', sb, sx⟩ := hs.frz hd
    have hl := (List.getElem?_eq_some_iff.mp hd).1
    obtain ⟨v, h1, h2⟩ := sx.atF (i := i) (d := d) (by rw [List.getElem?_set_self hl])
    exact ⟨v, h1, ho cs B' sb (Pre.refl _) v H (sx.fz h2)⟩
  · exact ho.elim
theorem tL_lkN {i : Nat} (h : tL K x W (lkN i) σ H Q) : tVar i σ H Q := by
  obtain ⟨env, st, cs, B, hs, ho⟩ := h
  unfold lkN at ho
  split at ho
  · rename_i d hd
    obtain ⟨v, h1, h2⟩ := hs.atF hd
    exact ⟨v, h1, ho.now v H hs h1⟩
  · rename_i d hd
    obtain ⟨p, h1, h2⟩ := hs.atO hd
    exact ⟨_, h1, ho.now _ H hs h1⟩
  · rename_i p d hd
    obtain ⟨h1, h2⟩ := hs.atS hd
    exact ⟨_, h1, ho.now _ H hs h1⟩
  · exact ho.elim
theorem tU_cst {v : V} {d : D} (r : ∀ cs B, Rp K x.ca cs B v d) (h : tU K x W (M.ret (.fz d)) σ H Q) : tC v σ H Q := by
  obtain ⟨env, st, cs, B, hs, ho⟩ := h
  exact ho.now v H (hs.fz (r cs B))
def un1 (f : D → Option Sl) (m : M Pl) : M Sl := m.bind fun p => (rsv p).bind fun y => M.lift (f y)
def Sound1 (K : Fg) (x : Fx) (rr : V → Hp → VK → Prop) (a : D) (r : Sl) : Prop := r ≠ .un ∧ ∀ (cs : List Addr) (B H : Hp) (v : V) (Q : VK), Sme B H → Lk K x.ca cs B H v a → Post K x cs B H r Q → rr v H Q
theorem tU_un1 {f : D → Option Sl} {P : (V → Hp → VK → Prop) → Prop} {m : M Pl} (hP : ∃ rr, P rr) (hf : ∀ a r, f a = some r → ∃ rr, P rr ∧ Sound1 K x rr a r) (h : tU K x W (un1 f m) σ H Q) : ∃ rr, P rr ∧ tUn rr (tL K x W m) σ H Q := by
  obtain ⟨rr0, hrr0⟩ := hP
  obtain ⟨env, st, cs, B, hs, ho⟩ := h
  have ho := outG.bind ho
  cases hm : m env st with
  | stuck => rw [hm] at ho; exact ho.elim
  | exn c fs e' s' => rw [hm] at ho; exact ⟨rr0, hrr0, env, st, cs, B, hs, by rw [hm]; exact ho⟩
  | ok a e1 s1 =>
    rw [hm] at ho
    obtain ⟨y, ho2, hy⟩ := outG.rsv ho.now
    have hr : ∃ r, f y = some r := by
      obtain ⟨r, e, _⟩ := outG.lift ho2
      exact ⟨r, e⟩
    obtain ⟨r, hr⟩ := hr
    unfold M.lift at ho2
    rw [hr] at ho2
    obtain ⟨rr, hrr, hun, hsound⟩ := hf y r hr
    refine ⟨rr, hrr, env, st, cs, B, hs, ?_⟩
    rw [hm]
    intro cs1 B1 sb1 pr1 v H1 sx1 pl1
    refine hsound cs1 B1 H1 v Q sx1.s (hy sx1 pl1) (post_of sx1 hun fun u B' H' sx sb => ?_)
    exact (show outG K x W σ cs B (.ok r e1 s1) (qU K x σ Q) from ho2) cs1 B' (sb1.trans sb) pr1 u H' sx
def negD : D → Option Sl
  | .int i => some (.fz (.int (-i)))
  | _ => none
theorem pe_neg1 {e : Expr} {pos : Pos} {m : M Pl} (h : PE X e (tL X.K x W m)) : PE X (.UnaryOp .USub e pos) (tU X.K x W (un1 negD m)) :=
  PE.imp (PE.all (P := fun t => ∃ rr, UnR X (unaryOp .USub) rr ∧ t = tUn rr (tL X.K x W m)) fun t ⟨rr, h1, h2⟩ => by subst h2; exact pe_un h1 h) fun σ H Q q => by
    obtain ⟨rr, h1, h2⟩ := tU_un1 (P := fun rr => UnR X (unaryOp .USub) rr) ⟨_, un_neg⟩ (fun a r hr => by
      unfold negD at hr
      split at hr
      · cases hr
        exact ⟨_, un_neg, (fun z => nomatch z), fun cs B H v Q s l p => ⟨_, l.int, p _ B H (Gr.refl s) (.int _)⟩⟩
      · cases hr) q
    exact ⟨_, ⟨rr, h1, rfl⟩, h2⟩
theorem truthy_dH {prog : Program} {w : World} {K : Type} [DecidableEq K] {knd : HeapKind prog w K} {A : Around} {E : Value → Shared → Prop} {s : Shared} {d : Addr} {xs : List (K × Addr × Value)} {Q : Bool → Shared → Prop} (hd : (d == sysModules) = false) (hm : s.heap.DictOfH knd d xs) (hfit : (xs.length : Int) < 2 ^ 63)
    (h : Q (!xs.isEmpty) { s with toks := s.toks + 1 + 1 }) : wpAny (model prog w) A (truthy (.ref d)) Q E s := by
  have hne : ((xs.length : Int) != 0) = !xs.isEmpty := by cases xs <;> simp <;> omega
  have key : wpAny (model prog w) A (runValue (.builtin "len" ⟨[.ref d], []⟩)) (fun r s' => r = .int xs.length (s.toks + 1) ∧ Q (!xs.isEmpty) s') E s := by
    refine wpAny_runValue (codeAny_builtin entry_len ?_)
    rw [Around.under_plainId plain_len _]
    exact wpAny_mono (wpAny_len_body_dictH (Q := fun r s' => r = .int xs.length (s.toks + 1) ∧ Q (!xs.isEmpty) s') hd hm hfit ⟨rfl, h⟩)
      (fun fin s' h' => by obtain ⟨r, rfl, hq⟩ := h'; exact hq) fun _ _ e => e
  unfold truthy
  first
    | refine wpAny_bind (wpAny_callSpecial?_none (name := Str.ofString "__bool__") hm.typeIs noBool_dict ?_)
    | refine wpAny_bind (wpAny_pure (wpAny_bind (wpAny_callSpecial?_none (name := Str.ofString "__bool__") hm.typeIs noBool_dict ?_)))
  first
    | refine wpAny_bind (wpAny_specialOf (name := Str.ofString "__len__") hm.typeIs F.slot_dict_len.lookup ?_)
    | refine wpAny_bind (wpAny_pure (wpAny_bind (wpAny_specialOf (name := Str.ofString "__len__") hm.typeIs F.slot_dict_len.lookup ?_)))
  first
    | exact wpAny_bind (wpAny_mono key (fun r s' h' => by obtain ⟨rfl, hq⟩ := h'; exact wpAny_pure (hne ▸ hq)) fun _ _ e => e)
    | exact wpAny_bind (wpAny_pure (wpAny_bind (wpAny_mono key (fun r s' h' => by obtain ⟨rfl, hq⟩ := h'; exact wpAny_pure (hne ▸ hq)) fun _ _ e => e)))
/-- truth, dicts of both kinds too -/
def Tr2 (K : Fg) (v : V) (H : Hp) (k : Bool) : Prop := TruV K v H k ∨ (∃ p, ∃ kvs : List (Key × V), v = .ref p ∧ Rd H p (.dK kvs) ∧ k = !kvs.isEmpty) ∨ ∃ p, ∃ kvs : List (List Key × V), v = .ref p ∧ Rd H p (.dT kvs) ∧ k = !kvs.isEmpty
theorem tru2 : TruR X (fun v H Q => ∃ k, Tr2 X.K v H k ∧ Q k H) := by
  intro pins s σ H v u Q I rx h
  obtain ⟨k, h, q⟩ := h
  have hs : sizeLine = 16777216 := sizeLine_eq
  rcases h with h | ⟨p, kvs, rfl, h, rfl⟩ | ⟨p, kvs, rfl, h, rfl⟩
  · exact tru_ok pins s σ H v u Q I rx ⟨k, h, q⟩
  · cases rx
    obtain ⟨hz, hS, vs, r, m⟩ := dk_rd I.hok h
    have hlen : kvs.length = vs.length := Paired.length r
    exact wpAny_truthy_dict hS m (by omega) ⟨H, I.tok _, by rw [isEmpty_kv r]; exact q⟩
  · cases rx
    obtain ⟨hz, hS, vs, r, m⟩ := dt_rd I.hok h
    have hlen : kvs.length = vs.length := Paired.length r
    refine truthy_dH hS m (by omega) ⟨H, I.tok _, ?_⟩
    have e : (!vs.isEmpty) = !kvs.isEmpty := by cases r <;> rfl
    rw [e]; exact q
def truD : D → Option Bool
  | .non => some false
  | .bl b => some b
  | .int i => some (i != 0)
  | .str z => grd (decide (z.length ≤ sizeLine)) ((z.length : Int) != 0)
  | .lst xs => some (!xs.isEmpty)
  | .tup _ xs => some (!xs.isEmpty)
  | .dcK kvs => some (!kvs.isEmpty)
  | .scr xs => some (!xs.isEmpty)
  | .dcT kvs => some (!kvs.isEmpty)
  | _ => none
theorem rpl_empty {ca : Str → Addr} {cs : List Addr} {B : Hp} {vs : List V} {xs : List D} (r : RpL K ca cs B vs xs) : (!vs.isEmpty) = !xs.isEmpty := by cases r <;> rfl
theorem kv_empty {κ : Type} {ws : List (κ × V)} {kvs : List (κ × D)} (e : ws.map (·.1) = kvs.map (·.1)) : (!kvs.isEmpty) = !ws.isEmpty := by
  cases ws with
  | nil => have := List.map_eq_nil_iff.mp e.symm; subst this; rfl
  | cons w ws => cases kvs with
    | nil => cases e
    | cons k kvs => rfl
theorem tru_of {ca : Str → Addr} {cs : List Addr} {B : Hp} {v : V} {d : D} {b : Bool} (s : Sme B H) (h : Lk K ca cs B H v d) (e : truD d = some b) : Tr2 K v H b := by
  unfold truD at e
  split at e
  · cases e; rw [h.non]; exact .inl rfl
  · cases e; rw [h.bl]; exact .inl rfl
  · cases e; rw [h.int]; exact .inl rfl
  · obtain ⟨h1, rfl⟩ := grd_some e; rw [h.str]; exact .inl ⟨of_decide_eq_true h1, rfl⟩
  · cases e
    obtain ⟨a, vs, rfl, e1, e2⟩ := h.lst s
    exact .inl (.inl ⟨vs, SqL.of e1, (rpl_empty e2).symm⟩)
  · cases e
    obtain ⟨a, vs, rfl, e0, e1, e2⟩ := h.tup s
    exact .inl (.inr (.inl ⟨vs, e1, (rpl_empty e2).symm⟩))
  · cases e
    obtain ⟨a, ws, rfl, e1, e2, e3⟩ := h.dcK s
    exact .inr (.inl ⟨a, ws, rfl, e1, kv_empty e2⟩)
  · cases e
    obtain ⟨a, rfl, e0, e1⟩ := h.scr s
    refine .inl (.inl ⟨_, e1, ?_⟩)
    rename_i xs
    cases xs <;> rfl
  · cases e
    obtain ⟨a, ws, rfl, e1, e2, e3⟩ := h.dcT s
    exact .inr (.inr ⟨a, ws, rfl, e1, kv_empty e2⟩)
  · cases e
def truM (m : M Pl) : M Bool := m.bind fun p => (rsv p).bind fun y => M.lift (truD y)
theorem tT_tru {m : M Pl} {Q : Bool → Hp → Prop} (h : tT K x W (truM m) σ H Q) : tL K x W m σ H fun v H' => ∃ k, Tr2 K v H' k ∧ Q k H' := by
  obtain ⟨env, st, cs, B, hs, ho⟩ := h
  refine ⟨env, st, cs, B, hs, (outG.bind ho).imp fun p e s cs' B' k v H' sx pl => ?_⟩
  obtain ⟨y, ho2, hy⟩ := outG.rsv k
  obtain ⟨b, hb, q⟩ := outG.lift ho2
  exact ⟨b, tru_of sx.s (hy sx pl) hb, q H' sx⟩
/-- the test of a value -/
theorem pt_tru {e : Expr} {m : M Pl} (h : PE X e (tL X.K x W m)) (he : ∀ whole, isTrue e X.env whole = (do let v ← whole; standAt e.pos; holding [v] (truthy v))) : PT X e (tT X.K x W (truM m)) :=
  PT.imp (pt_truthR h tru2 he) fun σ H Q q => tT_tru q
def notM (m : M Bool) : M Bool := m.bind fun b => M.ret (!b)
theorem pt_notM {e : Expr} {pos : Pos} {m : M Bool} (h : PT X e (tT X.K x W m)) : PT X (.UnaryOp .Not e pos) (tT X.K x W (notM m)) :=
  PT.imp (pt_not h) fun σ H Q ⟨env, st, cs, B, hs, ho⟩ => ⟨env, st, cs, B, hs, (outG.bind ho).imp fun b e s cs' B' k H' sx => k.now H' sx⟩
def andM (m n : M Bool) : M Bool := m.bind fun b => if b then n else M.ret false
def orM (m n : M Bool) : M Bool := m.bind fun b => if b then M.ret true else n
theorem pw_andM {a b : Expr} {rest : List Expr} {pos : Pos} {m n : M Bool} (ha : PT X a (tT X.K x W m)) (hb : PW X (.BoolOp .And (b :: rest) pos) (tT X.K x W n)) : PW X (.BoolOp .And (a :: b :: rest) pos) (tT X.K x W (andM m n)) := by
  have h := pw_and ha hb
  refine ⟨fun wh pins s σ H Q I q => h.run wh pins s σ H Q I ?_⟩
  obtain ⟨env, st, cs, B, hs, ho⟩ := q
  refine ⟨env, st, cs, B, hs, (outG.bind ho).imp fun b e s cs' B' k H' sx => ?_⟩
  cases b with
  | true => rw [if_pos rfl]; exact ⟨e, s, cs', B', sx, k⟩
  | false => rw [if_neg Bool.false_ne_true]; exact (show outG _ _ _ _ _ _ (.ok false e s) _ from k).now H' sx
theorem pw_orM {a b : Expr} {rest : List Expr} {pos : Pos} {m n : M Bool} (ha : PT X a (tT X.K x W m)) (hb : PW X (.BoolOp .Or (b :: rest) pos) (tT X.K x W n)) : PW X (.BoolOp .Or (a :: b :: rest) pos) (tT X.K x W (orM m n)) := by
  have h := pw_or ha hb
  refine ⟨fun wh pins s σ H Q I q => h.run wh pins s σ H Q I ?_⟩
  obtain ⟨env, st, cs, B, hs, ho⟩ := q
  refine ⟨env, st, cs, B, hs, (outG.bind ho).imp fun b e s cs' B' k H' sx => ?_⟩
  cases b with
  | true => rw [if_pos rfl]; exact (show outG _ _ _ _ _ _ (.ok true e s) _ from k).now H' sx
  | false => rw [if_neg Bool.false_ne_true]; exact ⟨e, s, cs', B', sx, k⟩
def tAnd2 (K : Fg) (ta tb : TE) : TE := fun σ H Q => ta σ H fun v H1 => ∃ k, Tr2 K v H1 k ∧ if k = true then tb σ H1 Q else Q v H1
theorem pe_and2 {a b : Expr} {rest : List Expr} {pos : Pos} {ta tb : TE} (ha : PE X a ta) (hb : PE X (.BoolOp .And (b :: rest) pos) tb) : PE X (.BoolOp .And (a :: b :: rest) pos) (tAnd2 X.K ta tb) := by
  refine ⟨fun pins s σ H Q I h => ?_⟩
  refine PyProof.Rows.BoolOp_and (thn (ha.run pins s σ H _ I h) fun v s1 ⟨y, H1, I1, r1, q1⟩ => ?_)
  obtain ⟨k, e, q1⟩ := q1
  refine thn (tru2 pins s1 σ H1 y v (fun c H2 => c = k ∧ H2 = H1) I1 r1 ⟨k, e, rfl, rfl⟩) fun c s2 hc => ?_
  obtain ⟨H2, I2, rfl, rfl⟩ := hc
  cases c with
  | true => rw [if_pos rfl] at q1 ⊢; exact hb.run pins s2 σ H2 Q I2 q1
  | false => rw [if_neg Bool.false_ne_true] at q1 ⊢; exact ⟨y, H2, I2, r1, q1⟩
def andV (m : M D) (n : M Sl) : M Sl := m.bind fun d => (M.lift (truD d)).bind fun b => if b then n else M.ret (.fz d)
def orV (m : M D) (n : M Sl) : M Sl := m.bind fun d => (M.lift (truD d)).bind fun b => if b then M.ret (.fz d) else n
theorem pe_andV {a b : Expr} {rest : List Expr} {pos : Pos} {m : M D} {n : M Sl} (ha : PE X a (tV X.K x W m)) (hb : PE X (.BoolOp .And (b :: rest) pos) (tU X.K x W n)) : PE X (.BoolOp .And (a :: b :: rest) pos) (tU X.K x W (andV m n)) :=
  PE.imp (pe_and2 ha hb) fun σ H Q ⟨env, st, cs, B, hs, ho⟩ => by
    refine ⟨env, st, cs, B, hs, (outG.bind ho).imp fun d e s cs' B' k v H' sx rp => ?_⟩
    obtain ⟨b, hb, k⟩ := outG.lift (outG.bind k)
    refine ⟨b, tru_of sx.s (.inl rp) hb, ?_⟩
    cases b with
    | true => rw [if_pos rfl]; exact ⟨e, s, cs', B', sx, k⟩
    | false => rw [if_neg Bool.false_ne_true]; exact (show outG X.K x W σ cs' B' (.ok (Sl.fz d) e s) (qU X.K x σ Q) from k).now v H' (sx.fz rp)
def blM (m : M Bool) : M Sl := m.bind fun b => M.ret (.fz (.bl b))
def ifV (t : M Bool) (m n : M Sl) : M Sl := t.bind fun b => if b then m else n
def bool1 : Sl → M Bool
  | .fz (.bl b) => M.ret b
  | _ => M.stuck
/-- a value that is a truth value, as a test -/
theorem tT_bool {m : M Sl} {Q : Bool → Hp → Prop} (h : tT K x W (m.bind bool1) σ H Q) : tU K x W m σ H fun v H' => ∃ k, v = .bl k ∧ Q k H' := by
  obtain ⟨env, st, cs, B, hs, ho⟩ := h
  refine ⟨env, st, cs, B, hs, (outG.bind ho).imp fun r e s cs' B' k v H' sx => ?_⟩
  cases r with
  | fz d =>
    cases d with
    | bl b =>
      have rp := sx.rp
      cases rp
      exact ⟨b, rfl, (show outG _ _ _ _ _ _ (.ok b e s) _ from k).now H' sx.tail⟩
    | _ => exact (show False from k).elim
  | _ => exact (show False from k).elim
theorem pt_cmp2 {ea eb : Expr} {op : CmpOp} {pos : Pos} {f : D → D → Option Sl} {ma mb : M Pl} (hm : behindInMarks op eb = false) (hP : ∃ rr, OpR X (compareOp op) rr) (hf : ∀ a b r, f a b = some r → ∃ rr, OpR X (compareOp op) rr ∧ Sound2 K x rr a b r) (ha : PE X ea (tL K x W ma)) (hb : PE X eb (tL K x W mb)) :
    PT X (.Compare ea [op] [eb] pos) (tT K x W ((bin2 f ma mb).bind bool1)) :=
  PT.imp (PT.all (P := fun t => ∃ rr, OpR X (compareOp op) rr ∧ t = tTest (tOp rr (tL K x W ma) (tL K x W mb))) fun t ⟨rr, h1, h2⟩ => by subst h2; exact pt_cmpR h1 ha hb hm) fun σ H Q q => by
    obtain ⟨rr, h1, h2⟩ := tU_bin2 hP hf (tT_bool q)
    exact ⟨_, ⟨rr, h1, rfl⟩, h2⟩
def isNn : D → Bool
  | .non => true
  | _ => false
theorem isNn_of {ca : Str → Addr} {cs : List Addr} {B : Hp} {v : V} {d : D} (h : Lk K ca cs B H v d) : decide (v = .non) = isNn d := by
  rcases h with h | ⟨p, rfl, h⟩
  · cases h <;> simp [isNn]
  · cases d <;> first | exact h.elim | simp [isNn]
def isN1 (neg : Bool) (m : M Pl) : M Bool := m.bind fun p => (rsv p).bind fun y => M.ret (if neg then !isNn y else isNn y)
theorem isN_out {neg : Bool} {m : M Pl} {env : Env} {st : List D} {cs : List Addr} {B : Hp} {k : Bool → Env → List D → List Addr → Hp → Prop} (ho : outG K x W σ cs B (isN1 neg m env st) k) {Q : VK}
    (hk : ∀ b e s cs' B' H', SX K x e s cs' σ B' H' → k b e s cs' B' → Q (.bl b) H') : outG K x W σ cs B (m env st) (qL K x σ fun v H1 => Q (.bl (if neg then !decide (v = .non) else decide (v = .non))) H1) := by
  refine (outG.bind ho).imp fun p e s cs' B' k v H' sx pl => ?_
  obtain ⟨y, k, hy⟩ := outG.rsv k
  rw [isNn_of (hy sx pl)]
  exact hk _ e s cs' B' H' sx k.now
theorem pt_isN1 {a : Expr} {j : Nat} {pos pos' : Pos} {m : M Pl} (ha : PE X a (tL X.K x W m)) : PT X (.Compare a [.Is] [.Constant .none j pos'] pos) (tT X.K x W (isN1 false m)) :=
  PT.imp (pt_cmp (pc_isN ha)) fun σ H Q ⟨env, st, cs, B, hs, ho⟩ => ⟨env, st, cs, B, hs, (isN_out (neg := false) ho (Q := fun v H' => ∃ c, v = .bl c ∧ Q c H') fun b e s cs' B' H' sx k => ⟨b, rfl, k H' sx⟩)⟩
theorem pt_notN1 {a : Expr} {j : Nat} {pos pos' : Pos} {m : M Pl} (ha : PE X a (tL X.K x W m)) : PT X (.Compare a [.IsNot] [.Constant .none j pos'] pos) (tT X.K x W (isN1 true m)) :=
  PT.imp (pt_cmp (pc_notN ha)) fun σ H Q ⟨env, st, cs, B, hs, ho⟩ => ⟨env, st, cs, B, hs, (isN_out (neg := true) ho (Q := fun v H' => ∃ c, v = .bl c ∧ Q c H') fun b e s cs' B' H' sx k => ⟨b, rfl, k H' sx⟩)⟩
end
end Dn
end
section
set_option maxHeartbeats 200000
namespace Dn
open PySem L2
section
variable {K : Fg} {x : Fx} {W : WX} {X : Cx} {σ : L2.St} {H : Hp} {Q : VK}
def icmp : CmpOp → Option (Int → Int → Bool)
  | .Lt => some fun i j => decide (i < j)
  | .LtE => some fun i j => decide (i ≤ j)
  | .Gt => some fun i j => decide (j < i)
  | .GtE => some fun i j => decide (j ≤ i)
  | _ => none
def intD : D → Option Int
  | .int i => some i
  | _ => none
theorem intD_some {d : D} {i : Int} (h : intD d = some i) : d = .int i := by
  cases d <;> cases h; rfl
theorem rp_int {ca : Str → Addr} {cs : List Addr} {B : Hp} {v : V} {d : D} {i : Int} (r : Rp K ca cs B v d) (h : intD d = some i) : v = .int i := by
  have := intD_some h
  subst this
  cases r; rfl
def chn (f1 f2 : Int → Int → Bool) (ma mb mc : M D) : M Bool := ma.bind fun a => mb.bind fun b => (M.lift (intD a)).bind fun i => (M.lift (intD b)).bind fun j =>
  if f1 i j then mc.bind fun c => (M.lift (intD c)).bind fun l => M.ret (f2 j l) else M.ret false
theorem icmp_ok {op : CmpOp} {f : Int → Int → Bool} (h : icmp op = some f) : OpR X (compareOp op) (rI0 fun i j => .bl (f i j)) := by
  cases op with
  | Lt => cases h; exact op_lt
  | LtE => cases h; exact op_le
  | Gt => cases h; exact op_gt
  | GtE => cases h; exact op_ge
  | _ => cases h
theorem chn_out {f1 f2 : Int → Int → Bool} {ma mb mc : M D} {k : Bool → Env → List D → List Addr → Hp → Prop} {env : Env} {st : List D} {cs : List Addr} {B : Hp} (hs : SX K x env st cs σ B H) (ho : outG K x W σ cs B (chn f1 f2 ma mb mc env st) k)
    (hk : ∀ b e s cs' B' H', SX K x e s cs' σ B' H' → k b e s cs' B' → Q (.bl b) H') : tChain (rI0 fun i j => .bl (f1 i j)) (rI0 fun i j => .bl (f2 i j)) (tV K x W ma) (tV K x W mb) (tV K x W mc) σ H Q := by
  refine ⟨env, st, cs, B, hs, (outG.bind ho).imp fun a e1 s1 cs1 B1 k1 v H1 sx1 r1 => ?_⟩
  refine ⟨e1, s1, cs1, B1, sx1, (outG.bind k1).imp' fun b e2 s2 cs2 B2 _ sb pr k2 w H2 sx2 r2 => ?_⟩
  obtain ⟨i, hi, k2⟩ := outG.lift (outG.bind k2)
  obtain ⟨j, hj, k2⟩ := outG.lift (outG.bind k2)
  refine ⟨i, j, rp_int r1 hi, rp_int r2 hj, f1 i j, rfl, ?_⟩
  cases hf : f1 i j with
  | false =>
    rw [if_neg Bool.false_ne_true]
    rw [hf] at k2
    exact hk false e2 s2 cs2 B2 H2 sx2 (show outG K x W σ cs2 B2 (.ok false e2 s2) k from k2).now
  | true =>
    rw [if_pos rfl]
    rw [hf] at k2
    refine ⟨e2, s2, cs2, B2, sx2, (outG.bind k2).imp fun c e3 s3 cs3 B3 k3 u H3 sx3 r3 => ?_⟩
    obtain ⟨l, hl, k3⟩ := outG.lift (outG.bind k3)
    exact ⟨j, l, rp_int r2 hj, rp_int r3 hl, hk _ e3 s3 cs3 B3 H3 sx3 k3.now⟩
theorem pe_chn {a b c : Expr} {o1 o2 : CmpOp} {pos : Pos} {f1 f2 : Int → Int → Bool} {ma mb mc : M D} (h1 : icmp o1 = some f1) (h2 : icmp o2 = some f2) (hm : lastMarks [o1, o2] [b, c] = false) (ha : PE X a (tV X.K x W ma)) (hb : PE X b (tV X.K x W mb)) (hc : PE X c (tV X.K x W mc)) :
    PE X (.Compare a [o1, o2] [b, c] pos) (tU X.K x W (blM (chn f1 f2 ma mb mc))) :=
  PE.imp (pe_chain (icmp_ok h1) (icmp_ok h2) ha hb hc hm) fun σ H Q ⟨env, st, cs, B, hs, ho⟩ => chn_out hs (outG.bind ho) fun b e s cs' B' H' sx k => k.now _ H' (sx.fz (.bl b))
theorem pt_chn {a b c : Expr} {o1 o2 : CmpOp} {pos : Pos} {f1 f2 : Int → Int → Bool} {ma mb mc : M D} (h1 : icmp o1 = some f1) (h2 : icmp o2 = some f2) (hm : lastMarks [o1, o2] [b, c] = false) (ha : PE X a (tV X.K x W ma)) (hb : PE X b (tV X.K x W mb)) (hc : PE X c (tV X.K x W mc)) :
    PT X (.Compare a [o1, o2] [b, c] pos) (tT X.K x W (chn f1 f2 ma mb mc)) :=
  PT.imp (pt_chain (icmp_ok h1) (icmp_ok h2) ha hb hc hm) fun σ H Q ⟨env, st, cs, B, hs, ho⟩ => chn_out hs ho fun b e s cs' B' H' sx k => ⟨b, rfl, k H' sx⟩
def nst : Expr → Bool
  | .Starred _ _ => false
  | _ => true
theorem nst_ok {e : Expr} {es : List Expr} {env : PySem.Env} (h : nst e = true) : starEach (e :: es) env = (false, eval e env) :: starEach es env := by
  cases e <;> first | rfl | cases h
theorem nst_all {pos : Pos} {env : PySem.Env} : ∀ {es : List Expr}, es.all nst = true → (backTo pos (starEach es env)).any (·.1) = false
  | [], _ => rfl
  | e :: es, h => by
    rw [List.all_cons, Bool.and_eq_true] at h
    rw [nst_ok h.1]
    show (false || (backTo pos (starEach es env)).any (·.1)) = false
    rw [nst_all h.2]; rfl
def argsV : List (M D) → M (List D)
  | [] => M.ret []
  | m :: ms => m.bind fun d => (argsV ms).bind fun ds => M.ret (d :: ds)
def argsL : List (M Pl) → M (List Pl)
  | [] => M.ret []
  | m :: ms => m.bind fun d => (argsL ms).bind fun ds => M.ret (d :: ds)
theorem pa_nilV : PA X [] (tA X.K x W (argsV [])) := PA.imp pa_nil fun σ H Q ⟨env, st, cs, B, hs, ho⟩ => (show outG _ _ _ _ _ _ (.ok [] env st) _ from ho).now [] H hs .nil
theorem pa_consV {e : Expr} {es : List Expr} {m : M D} {ms : List (M D)} (hn : nst e = true) (he : PE X e (tV X.K x W m)) (hr : PA X es (tA X.K x W (argsV ms))) : PA X (e :: es) (tA X.K x W (argsV (m :: ms))) :=
  PA.imp (pa_cons he hr (nst_ok hn)) fun σ H Q ⟨env, st, cs, B, hs, ho⟩ =>
    ⟨env, st, cs, B, hs, (outG.bind ho).imp fun d e s cs1 B1 k v H1 sx1 r1 => ⟨e, s, cs1, B1, sx1, (outG.bind k).imp' fun ds e2 s2 cs2 B2 _ sb pr k2 vs H2 sx2 r2 => k2.now (v :: vs) H2 sx2 (.cons (r1.mono sb pr) r2)⟩⟩
theorem pa_nilL : PA X [] (tN X.K x W (argsL [])) := PA.imp pa_nil fun σ H Q ⟨env, st, cs, B, hs, ho⟩ => (show outG _ _ _ _ _ _ (.ok [] env st) _ from ho).now [] H hs .nil
theorem pa_consL {e : Expr} {es : List Expr} {m : M Pl} {ms : List (M Pl)} (hn : nst e = true) (he : PE X e (tL X.K x W m)) (hr : PA X es (tN X.K x W (argsL ms))) : PA X (e :: es) (tN X.K x W (argsL (m :: ms))) :=
  PA.imp (pa_cons he hr (nst_ok hn)) fun σ H Q ⟨env, st, cs, B, hs, ho⟩ =>
    ⟨env, st, cs, B, hs, (outG.bind ho).imp fun d e s cs1 B1 k v H1 sx1 r1 => ⟨e, s, cs1, B1, sx1, (outG.bind k).imp' fun ds e2 s2 cs2 B2 _ sb pr k2 vs H2 sx2 r2 => k2.now (v :: vs) H2 sx2 (.cons (r1.mono sb pr) r2)⟩⟩
def tupM (m : M (List D)) : M Sl := m.bind fun ds => M.lift (grd (decide (ds.length ≤ sizeLine)) (.fz (.tup false ds)))
def lstM (m : M (List D)) : M Sl := m.bind fun ds => M.lift (grd (decide (ds.length ≤ sizeLine)) (.ow (.lst ds)))
theorem pe_tupM {es : List Expr} {x1 : Nat} {pos : Pos} {m : M (List D)} (h : PA X es (tA X.K x W m)) : PE X (.Tuple es x1 pos) (tU X.K x W (tupM m)) :=
  PE.imp (pe_tup h) fun σ H Q ⟨env, st, cs, B, hs, ho⟩ => ⟨env, st, cs, B, hs, (outG.bind ho).imp fun ds e s cs1 B1 k vs H1 sx1 r1 => by
    have hl : ds.length ≤ sizeLine := by
      obtain ⟨r, hr, _⟩ := outG.lift k
      exact of_decide_eq_true (grd_some hr).1
    unfold M.lift grd at k
    rw [if_pos (decide_eq_true hl)] at k
    refine ⟨by rw [r1.len]; exact hl, fun p hp => ?_⟩
    have ga := Gr.alloc (T := x.T) (o := .tup vs) sx1.s hp
    exact (show outG X.K x W σ cs1 B1 (.ok (Sl.fz (.tup false ds)) e s) (qU X.K x σ Q) from k) cs1 _ ga.b (Pre.refl _) _ _ ((sx1.grow ga).fz (.tup upd_same (r1.mono ga.b (Pre.refl _))))⟩
theorem pe_lstM {es : List Expr} {pos : Pos} {m : M (List D)} (h : PA X es (tA X.K x W m)) : PE X (.List es pos) (tU X.K x W (lstM m)) :=
  PE.imp (pe_lst h) fun σ H Q ⟨env, st, cs, B, hs, ho⟩ => ⟨env, st, cs, B, hs, (outG.bind ho).imp fun ds e s cs1 B1 k vs H1 sx1 r1 => by
    have hl : ds.length ≤ sizeLine := by
      obtain ⟨r, hr, _⟩ := outG.lift k
      exact of_decide_eq_true (grd_some hr).1
    unfold M.lift grd at k
    rw [if_pos (decide_eq_true hl)] at k
    refine ⟨by rw [r1.len]; exact hl, fun p hp => ?_⟩
    exact (show outG X.K x W σ cs1 B1 (.ok (Sl.ow (.lst ds)) e s) (qU X.K x σ Q) from k).now _ _ (sx1.own (Gr.own sx1.s hp) hp ⟨vs, upd_same, free_b sx1.s hp, r1⟩)⟩
def dctM : M Sl := M.ret (.ow (.dcK []))
theorem pe_dctM {pos : Pos} : PE X (.Dict [] [] pos) (tU X.K x W dctM) :=
  PE.imp pe_dnewK fun σ H Q ⟨env, st, cs, B, hs, ho⟩ p hp => (show outG X.K x W σ cs B (.ok (Sl.ow (.dcK [])) env st) (qU X.K x σ Q) from ho).now _ _ (hs.own (Gr.own hs.s hp) hp ⟨[], upd_same, free_b hs.s hp, rfl, .nil⟩)
def cutD {α : Type} (xs : List α) (lo hi : Option Int) : List α := (xs.drop (HT.sIx xs.length 0 lo)).take (HT.sIx xs.length xs.length hi - HT.sIx xs.length 0 lo)
def slD (d : D) (lo hi : Option Int) : Option Sl := match d with
  | .lst xs => some (.ow (.lst (cutD xs lo hi)))
  | .tup m xs => some (.fz (if HT.sIx xs.length 0 lo = 0 ∧ HT.sIx xs.length xs.length hi = xs.length then .tup m xs else .tup false (cutD xs lo hi)))
  | .str z => grd (decide (z.length ≤ sizeLine)) (.fz (.str (cutS z lo hi)))
  | _ => none
def SoundS (K : Fg) (x : Fx) (rr : V → Option Int → Option Int → Hp → VK → Prop) (a : D) (lo hi : Option Int) (r : Sl) : Prop := r ≠ .un ∧ ∀ (cs : List Addr) (B H : Hp) (v : V) (Q : VK), Sme B H → Lk K x.ca cs B H v a → Post K x cs B H r Q → rr v lo hi H Q
theorem cutV_rp {ca : Str → Addr} {cs : List Addr} {B : Hp} {vs : List V} {xs : List D} {lo hi : Option Int} (r : RpL K ca cs B vs xs) : RpL K ca cs B (cutV vs lo hi) (cutD xs lo hi) := by
  unfold cutV cutD
  rw [r.len]
  exact (r.drop _).take _
theorem sl_ok (d : D) (lo hi : Option Int) (r : Sl) (h : slD d lo hi = some r) : ∃ rr, L2.SlR X rr ∧ SoundS X.K x rr d lo hi r := by
  unfold slD at h
  split at h
  · cases h
    refine ⟨_, sl_list, (fun z => nomatch z), fun cs B H v Q s l p => ?_⟩
    obtain ⟨a, vs, rfl, e1, e2⟩ := l.lst s
    exact ⟨a, vs, rfl, SqL.of e1, fun q hq => p q B _ (Gr.own s hq) hq ⟨_, upd_same, free_b s hq, cutV_rp e2⟩⟩
  · cases h
    refine ⟨_, sl_tupA, (fun z => nomatch z), fun cs B H v Q s l p => ?_⟩
    have t := tup_of l
    obtain ⟨a, vs, rfl, e0, e1, e2⟩ := l.tup s
    refine ⟨a, vs, rfl, e1, fun z => ?_, fun z q hq => ?_⟩
    · refine p _ B H (Gr.refl s) ?_
      rw [e2.len] at z
      rw [if_pos z]; exact t
    · have ga := Gr.alloc (T := x.T) (o := .tup (cutV vs lo hi)) s hq
      refine p _ _ _ ga ?_
      rw [e2.len] at z
      rw [if_neg z]
      exact .tup upd_same ((cutV_rp e2).mono ga.b (Pre.refl _))
  · obtain ⟨h1, rfl⟩ := grd_some h
    exact ⟨_, sl_str, (fun z => nomatch z), fun cs B H v Q s l p => ⟨_, l.str, of_decide_eq_true h1, p _ B H (Gr.refl s) (.str _)⟩⟩
  · cases h
def qO (K : Fg) (x : Fx) (σ : L2.St) (Q : Option Int → Hp → Prop) : Option Int → Env → List D → List Addr → Hp → Prop := fun b e s cs B => ∀ H, SX K x e s cs σ B H → Q b H
def tO (K : Fg) (x : Fx) (W : WX) (m : M (Option Int)) : TO := fun σ H Q => ∃ env st cs B, SX K x env st cs σ B H ∧ outG K x W σ cs B (m env st) (qO K x σ Q)
def prtM (m : M D) : M (Option Int) := m.bind fun d => (M.lift (intD d)).bind fun i => M.ret (some i)
theorem PO.imp' {e : Option Expr} {t t' : TO} (h : PO X e t) (i : ∀ σ H Q, t' σ H Q → t σ H Q) : PO X e t' := ⟨fun pins s σ H Q I q => h.run pins s σ H Q I (i σ H Q q)⟩
theorem po_noneM : PO X none (tO X.K x W (M.ret none)) := PO.imp' po_none fun σ H Q ⟨env, st, cs, B, hs, ho⟩ => (show outG _ _ _ _ _ _ (.ok none env st) _ from ho).now H hs
theorem po_someM {e : Expr} {m : M D} (h : PE X e (tV X.K x W m)) : PO X (some e) (tO X.K x W (prtM m)) := PO.imp' (po_some h) fun σ H Q ⟨env, st, cs, B, hs, ho⟩ =>
  ⟨env, st, cs, B, hs, (outG.bind ho).imp fun d e s cs1 B1 k v H1 sx1 r1 => by
    obtain ⟨i, hi, k⟩ := outG.lift (outG.bind k)
    exact ⟨i, rp_int r1 hi, k.now H1 sx1⟩⟩
def slM (m : M Pl) (lo hi : M (Option Int)) : M Sl := m.bind fun p => lo.bind fun a => hi.bind fun b => (rsv p).bind fun y => M.lift (slD y a b)
theorem pe_slM {e : Expr} {lo hi : Option Expr} {p2 pos : Pos} {m : M Pl} {ml mh : M (Option Int)} (h : PE X e (tL X.K x W m)) (h1 : PO X lo (tO X.K x W ml)) (h2 : PO X hi (tO X.K x W mh)) : PE X (.Subscript e (.Slice lo hi none p2) pos) (tU X.K x W (slM m ml mh)) :=
  PE.imp (PE.all (P := fun t => ∃ rr, L2.SlR X rr ∧ t = tSl rr (tL X.K x W m) (tO X.K x W ml) (tO X.K x W mh)) fun t ⟨rr, q1, q2⟩ => by subst q2; exact pe_slice q1 h h1 h2) fun σ H Q ⟨env, st, cs, B, hs, ho⟩ => by
    have fls : L2.SlR X (fun _ _ _ _ _ => False) := fun _ _ _ _ _ _ _ _ _ _ _ _ _ _ _ _ _ h => h.elim
    have ho := outG.bind ho
    cases hm : m env st with
    | stuck => rw [hm] at ho; exact ho.elim
    | exn c fs e' s' => rw [hm] at ho; exact ⟨_, ⟨_, fls, rfl⟩, env, st, cs, B, hs, by rw [hm]; exact ho⟩
    | ok p e1 s1 =>
      rw [hm] at ho
      have ho1 := outG.bind ho.now
      cases hl : ml e1 s1 with
      | stuck => rw [hl] at ho1; exact ho1.elim
      | exn c fs e' s' =>
        refine ⟨_, ⟨_, fls, rfl⟩, env, st, cs, B, hs, ?_⟩
        rw [hm]
        intro cs1 B1 sb1 pr1 v H1 sx1 pl1
        refine ⟨e1, s1, cs1, B1, sx1, ?_⟩
        rw [hl] at ho1 ⊢
        exact outE.up ho1 sb1 pr1
      | ok a e2 s2 =>
        rw [hl] at ho1
        have ho2 := outG.bind ho1.now
        cases hh : mh e2 s2 with
        | stuck => rw [hh] at ho2; exact ho2.elim
        | exn c fs e' s' =>
          refine ⟨_, ⟨_, fls, rfl⟩, env, st, cs, B, hs, ?_⟩
          rw [hm]
          intro cs1 B1 sb1 pr1 v H1 sx1 pl1
          refine ⟨e1, s1, cs1, B1, sx1, ?_⟩
          rw [hl]
          intro cs2 B2 sb2 pr2 H2 sx2
          refine ⟨e2, s2, cs2, B2, sx2, ?_⟩
          rw [hh] at ho2 ⊢
          exact outE.up ho2 (sb1.trans sb2) (pr1.trans pr2)
        | ok b e3 s3 =>
          rw [hh] at ho2
          obtain ⟨y, ho3, hy⟩ := outG.rsv ho2.now
          obtain ⟨r, hr⟩ : ∃ r, slD y a b = some r := by
            obtain ⟨r, e, _⟩ := outG.lift ho3
            exact ⟨r, e⟩
          unfold M.lift at ho3
          rw [hr] at ho3
          obtain ⟨rr, hrr, hun, hsound⟩ := sl_ok (X := X) (x := x) y a b r hr
          refine ⟨_, ⟨rr, hrr, rfl⟩, env, st, cs, B, hs, ?_⟩
          rw [hm]
          intro cs1 B1 sb1 pr1 v H1 sx1 pl1
          refine ⟨e1, s1, cs1, B1, sx1, ?_⟩
          rw [hl]
          intro cs2 B2 sb2 pr2 H2 sx2
          refine ⟨e2, s2, cs2, B2, sx2, ?_⟩
          rw [hh]
          intro cs3 B3 sb3 pr3 H3 sx3
          refine hsound cs3 B3 H3 v Q sx3.s (hy sx3 (pl1.mono (sb2.trans sb3) (pr2.trans pr3))) (post_of sx3 hun fun u B' H' sx sb => ?_)
          exact (show outG X.K x W σ cs B (.ok r e3 s3) (qU X.K x σ Q) from ho3) cs3 B' (sb1.trans (sb2.trans (sb3.trans sb))) (pr1.trans (pr2.trans pr3)) u H' sx
def LkL (K : Fg) (ca : Str → Addr) (cs : List Addr) (B H : Hp) : List V → List D → Prop := Paired (Lk K ca cs B H)
def SoundN (K : Fg) (x : Fx) (rr : List V → Hp → VK → Prop) (ds : List D) (r : Sl) : Prop := r ≠ .un ∧ ∀ (cs : List Addr) (B H : Hp) (vs : List V) (Q : VK), Sme B H → LkL K x.ca cs B H vs ds → Post K x cs B H r Q → rr vs H Q
def rsvs : List Pl → M (List D)
  | [] => M.ret []
  | p :: ps => (rsv p).bind fun y => (rsvs ps).bind fun ys => M.ret (y :: ys)
theorem outG.rsvs {β : Type} {env : Env} {st : List D} {cs : List Addr} {B : Hp} {k : β → Env → List D → List Addr → Hp → Prop} : ∀ {ps : List Pl} {f : List D → M β}, outG K x W σ cs B (((Dn.rsvs ps).bind f) env st) k →
    ∃ ys, outG K x W σ cs B (f ys env st) k ∧ ∀ {cs' B' H vs}, SX K x env st cs' σ B' H → Paired (PlR K x.ca cs' B' σ) vs ps → LkL K x.ca cs' B' H vs ys
  | [], f, h => ⟨[], h, fun {cs' B' H vs} sx pl => by cases pl; exact .nil⟩
  | p :: ps, f, h => by
    obtain ⟨y, h1, hy⟩ := outG.rsv (p := p) (outG.bind h)
    obtain ⟨ys, h2, hys⟩ := outG.rsvs (ps := ps) h1
    have h2 := h2.now
    refine ⟨y :: ys, h2, fun {cs' B' H vs} sx pl => ?_⟩
    cases pl with
    | cons r t => exact .cons (hy sx r) (hys sx t)
def bltM (f : List D → Option Sl) (m : M (List Pl)) : M Sl := m.bind fun ps => (rsvs ps).bind fun ys => M.lift (f ys)
theorem tU_blt {f : List D → Option Sl} {P : (List V → Hp → VK → Prop) → Prop} {m : M (List Pl)} (hP : ∃ rr, P rr) (hf : ∀ ds r, f ds = some r → ∃ rr, P rr ∧ SoundN K x rr ds r) (h : tU K x W (bltM f m) σ H Q) : ∃ rr, P rr ∧ tCB rr (tN K x W m) σ H Q := by
  obtain ⟨rr0, hrr0⟩ := hP
  obtain ⟨env, st, cs, B, hs, ho⟩ := h
  have ho := outG.bind ho
  cases hm : m env st with
  | stuck => rw [hm] at ho; exact ho.elim
  | exn c fs e' s' => rw [hm] at ho; exact ⟨rr0, hrr0, env, st, cs, B, hs, by rw [hm]; exact ho⟩
  | ok a e1 s1 =>
    rw [hm] at ho
    obtain ⟨y, ho2, hy⟩ := outG.rsvs ho.now
    have hr : ∃ r, f y = some r := by
      obtain ⟨r, e, _⟩ := outG.lift ho2
      exact ⟨r, e⟩
    obtain ⟨r, hr⟩ := hr
    unfold M.lift at ho2
    rw [hr] at ho2
    obtain ⟨rr, hrr, hun, hsound⟩ := hf y r hr
    refine ⟨rr, hrr, env, st, cs, B, hs, ?_⟩
    rw [hm]
    intro cs1 B1 sb1 pr1 v H1 sx1 pl1
    refine hsound cs1 B1 H1 v Q sx1.s (hy sx1 pl1) (post_of sx1 hun fun u B' H' sx sb => ?_)
    exact (show outG K x W σ cs B (.ok r e1 s1) (qU K x σ Q) from ho2) cs1 B' (sb1.trans sb) pr1 u H' sx
end
end Dn
end
section
set_option maxHeartbeats 200000
namespace Dn
open PySem L2
section
variable {K : Fg} {x : Fx} {W : WX} {X : Cx} {σ : L2.St} {H : Hp} {Q : VK}
theorem lk1 {ca : Str → Addr} {cs : List Addr} {B : Hp} {vs : List V} {d : D} (h : LkL K ca cs B H vs [d]) : ∃ v, vs = [v] ∧ Lk K ca cs B H v d := by
  cases h with
  | cons r t => cases t; exact ⟨_, rfl, r⟩
theorem lk2 {ca : Str → Addr} {cs : List Addr} {B : Hp} {vs : List V} {d e : D} (h : LkL K ca cs B H vs [d, e]) : ∃ v w, vs = [v, w] ∧ Lk K ca cs B H v d ∧ Lk K ca cs B H w e := by
  cases h with
  | cons r t =>
    obtain ⟨w, rfl, q⟩ := lk1 t
    exact ⟨_, w, rfl, r, q⟩
def intsD : List D → Option (List Int)
  | [] => some []
  | .int i :: ds => (intsD ds).map (i :: ·)
  | _ => none
theorem intsD_some : ∀ {ds : List D} {is : List Int}, intsD ds = some is → ds = is.map D.int
  | [], is, h => by cases h; rfl
  | .int i :: ds, is, h => by
    obtain ⟨js, h1, rfl⟩ := Option.map_eq_some_iff.mp (show (intsD ds).map (i :: ·) = some is from h)
    rw [List.map_cons, ← intsD_some h1]
  | .non :: _, _, h => by cases h
  | .bl _ :: _, _, h => by cases h
  | .str _ :: _, _, h => by cases h
  | .tup _ _ :: _, _, h => by cases h
  | .lst _ :: _, _, h => by cases h
  | .scr _ :: _, _, h => by cases h
  | .dcK _ :: _, _, h => by cases h
  | .dcT _ :: _, _, h => by cases h
  | .obj _ _ :: _, _, h => by cases h
  | .cell _ :: _, _, h => by cases h
def blsD : List D → Option (List Bool)
  | [] => some []
  | .bl i :: ds => (blsD ds).map (i :: ·)
  | _ => none
theorem blsD_some : ∀ {ds : List D} {is : List Bool}, blsD ds = some is → ds = is.map D.bl
  | [], is, h => by cases h; rfl
  | .bl i :: ds, is, h => by
    obtain ⟨js, h1, rfl⟩ := Option.map_eq_some_iff.mp (show (blsD ds).map (i :: ·) = some is from h)
    rw [List.map_cons, ← blsD_some h1]
  | .non :: _, _, h => by cases h
  | .int _ :: _, _, h => by cases h
  | .str _ :: _, _, h => by cases h
  | .tup _ _ :: _, _, h => by cases h
  | .lst _ :: _, _, h => by cases h
  | .scr _ :: _, _, h => by cases h
  | .dcK _ :: _, _, h => by cases h
  | .dcT _ :: _, _, h => by cases h
  | .obj _ _ :: _, _, h => by cases h
  | .cell _ :: _, _, h => by cases h
theorem blsD_map (is : List Bool) : blsD (is.map D.bl) = some is := by
  induction is with
  | nil => rfl
  | cons i is ih => show (blsD (is.map D.bl)).map (i :: ·) = _; rw [ih]; rfl
def keyV : Key → D
  | .inl i => .int i
  | .inr s => .str s
def lenF : List D → Option Sl
  | [.lst xs] => some (.fz (.int xs.length))
  | [.tup _ xs] => some (.fz (.int xs.length))
  | [.scr xs] => some (.fz (.int xs.length))
  | [.dcK xs] => some (.fz (.int xs.length))
  | [.dcT xs] => some (.fz (.int xs.length))
  | [.str z] => grd (decide (z.length ≤ sizeLine)) (.fz (.int z.length))
  | _ => none
def absI (i : Int) : Int := if i < 0 then -i else i
def absF : List D → Option Sl
  | [.int i] => some (.fz (.int (absI i)))
  | _ => none
def intF : List D → Option Sl
  | [.int i] => some (.fz (.int i))
  | [.bl b] => some (.fz (.int (if b then 1 else 0)))
  | _ => none
def maxL : Int → List Int → Int
  | m, [] => m
  | m, i :: is => maxL (if m < i then i else m) is
def minL : Int → List Int → Int
  | m, [] => m
  | m, i :: is => minL (if i < m then i else m) is
theorem maxL_mem : ∀ (is : List Int) (m : Int), maxL m is ∈ m :: is ∧ ∀ y ∈ m :: is, y ≤ maxL m is
  | [], m => ⟨by simp [maxL], fun y hy => by simp at hy; subst hy; exact Int.le_refl _⟩
  | i :: is, m => by
    obtain ⟨h1, h2⟩ := maxL_mem is (if m < i then i else m)
    refine ⟨?_, fun y hy => ?_⟩
    · show maxL (if m < i then i else m) is ∈ _
      rcases List.mem_cons.mp h1 with e | e
      · rw [e]; split <;> simp
      · simp [e]
    · show y ≤ maxL (if m < i then i else m) is
      rcases List.mem_cons.mp hy with e | e
      · subst e
        refine Int.le_trans ?_ (h2 _ List.mem_cons_self)
        split <;> omega
      · rcases List.mem_cons.mp e with e | e
        · subst e
          refine Int.le_trans ?_ (h2 _ List.mem_cons_self)
          split <;> omega
        · exact h2 y (List.mem_cons_of_mem _ e)
theorem minL_mem : ∀ (is : List Int) (m : Int), minL m is ∈ m :: is ∧ ∀ y ∈ m :: is, minL m is ≤ y
  | [], m => ⟨by simp [minL], fun y hy => by simp at hy; subst hy; exact Int.le_refl _⟩
  | i :: is, m => by
    obtain ⟨h1, h2⟩ := minL_mem is (if i < m then i else m)
    refine ⟨?_, fun y hy => ?_⟩
    · show minL (if i < m then i else m) is ∈ _
      rcases List.mem_cons.mp h1 with e | e
      · rw [e]; split <;> simp
      · simp [e]
    · show minL (if i < m then i else m) is ≤ y
      rcases List.mem_cons.mp hy with e | e
      · subst e
        refine Int.le_trans (h2 _ List.mem_cons_self) ?_
        split <;> omega
      · rcases List.mem_cons.mp e with e | e
        · subst e
          refine Int.le_trans (h2 _ List.mem_cons_self) ?_
          split <;> omega
        · exact h2 y (List.mem_cons_of_mem _ e)
def maxF : List D → Option Sl
  | [.int i, .int j] => some (.fz (.int (if i < j then j else i)))
  | [.lst xs] => match intsD xs with
    | some (i :: is) => some (.fz (.int (maxL i is)))
    | _ => none
  | _ => none
def minF : List D → Option Sl
  | [.int i, .int j] => some (.fz (.int (if j < i then j else i)))
  | [.lst xs] => match intsD xs with
    | some (i :: is) => some (.fz (.int (minL i is)))
    | _ => none
  | _ => none
def sumF : List D → Option Sl
  | [.lst xs] => (intsD xs).map fun is => .fz (.int is.sum)
  | _ => none
def allF : List D → Option Sl
  | [.lst xs] => (blsD xs).map fun is => .fz (.bl (is.all id))
  | _ => none
def anyF : List D → Option Sl
  | [.lst xs] => (blsD xs).map fun is => .fz (.bl (is.any id))
  | _ => none
def keyT (ks : List Key) : D := .tup false (ks.map keyV)
def listF : List D → Option Sl
  | [.lst xs] => some (.ow (.lst xs))
  | [.tup _ xs] => some (.ow (.lst xs))
  | [.dcK kvs] => some (.ow (.lst (kvs.map fun kv => keyV kv.1)))
  | [.dcT kvs] => some (.ow (.lst (kvs.map fun kv => keyT kv.1)))
  | _ => none
def strD : D → Bool
  | .str _ => true
  | _ => false
def tupleF : List D → Option Sl
  | [.lst xs] => some (.fz (.tup (xs.all strD) xs))
  | [.tup m xs] => some (.fz (.tup m xs))
  | _ => none
theorem rp_keyV {ca : Str → Addr} {cs : List Addr} {B : Hp} (k : Key) : Rp K ca cs B (kV k) (keyV k) := by
  cases k with
  | inl i => exact .int i
  | inr s => exact .str s
theorem rpl_keyV {ca : Str → Addr} {cs : List Addr} {B : Hp} : ∀ ks : List Key, RpL K ca cs B (ks.map kV) (ks.map keyV)
  | [] => .nil
  | k :: ks => .cons (rp_keyV k) (rpl_keyV ks)
theorem map_fst {κ α β : Type} {ws : List (κ × α)} {kvs : List (κ × β)} (e : ws.map (·.1) = kvs.map (·.1)) {γ : Type} (f : κ → γ) : ws.map (fun w => f w.1) = kvs.map fun w => f w.1 := by
  have := congrArg (List.map f) e
  rw [List.map_map, List.map_map] at this
  exact this
abbrev rTupF (K : Fg) : List V → Hp → VK → Prop := fun xs H Q => ∃ p ys, xs = [.ref p] ∧ ((SqL K H p ys ∧ ∀ l o, H l = none → o.dict = none → Q (.ref l) (upd H l (.frz o (.tup ys)))) ∨ (SqT K H p ys ∧ Q (.ref p) H))
theorem call_tuple_frz {X : Cx} : CallR X (.type "tuple") (rTupF X.K) := by
  intro pins s σ H xs us Q I r h
  obtain ⟨p, ys, rfl, h⟩ := h
  obtain ⟨u, rfl, rx⟩ := vals1 r
  cases rx
  rcases h with ⟨hq, q⟩ | ⟨hq, q⟩
  · obtain ⟨its, r', pl, hz⟩ := I.list hq
    have hlen := r'.length
    refine PySem.call_tuple_list pl.isList (fun h' kp => ?_) (by simp only [List.size_toArray] <;> omega)
    have I1 : Inv X pins σ H { s with heap := h' } := I.kept (t' := s.toks) kp
    have I2 : Inv X pins σ (upd H h'.objs.size (.frz { cls := .type "tuple", data := .seq its.toArray } (.tup ys))) { s with heap := h'.push { cls := .type "tuple", data := .seq its.toArray } } :=
      I1.laid (t' := s.toks) (fun b o e => Heap.get?_push_of_some _ e) (Nat.le_refl _) (show ObjOk X.prog X.w _ _ _ (.frz _ (.tup ys)) from ⟨Heap.get?_push_size _ rfl, hz, its, r', PyProof.Rows.IsTup.new _ _⟩)
    exact ⟨.ref h'.objs.size, _, I2, rfl, q _ _ (I1.hok.fresh (Nat.le_refl _)) rfl⟩
  · obtain ⟨its, r', pl, hz⟩ := I.tuple hq
    exact PySem.call_tuple_same pl ⟨.ref p, H, I, rfl, q⟩
/-- all tuples of bs are seen from now on -/
def seeT (B H : Hp) (bs : List Addr) : Hp := fun a => match B a with
  | some o => some o
  | none => if a ∈ bs then H a else none
theorem seeT_of {B H : Hp} {bs : List Addr} (s : Sme B H) {a : Addr} {vs : List V} (ha : a ∈ bs) (h : H a = some (.tup vs)) : seeT B H bs a = some (.tup vs) := by
  unfold seeT
  cases e : B a with
  | some o =>
    rcases s a o e with z | ⟨_, _, _, z⟩ | ⟨_, _, z⟩
    · rw [h] at z; cases z; rfl
    · rw [h] at z; cases z
    · rw [h] at z; cases z
  | none => show (if a ∈ bs then H a else none) = _; rw [if_pos ha]; exact h
theorem Gr.see {T : List NTb} {B H : Hp} {bs : List Addr} (s : Sme B H) (hb : ∀ b ∈ bs, ∃ vs, H b = some (.tup vs)) : Gr T [] B H (seeT B H bs) H where
  b := fun a o e => .inl (by unfold seeT; rw [e])
  h := fun a o _ e => .inl e
  s := fun a o e => by
    unfold seeT at e
    split at e
    · rename_i u e'
      cases e
      exact s a _ e'
    · split at e
      · exact .inl e
      · cases e
  n := fun a ha hn => by
    unfold seeT
    rw [hn]
    show (if a ∈ bs then H a else none) = none
    split
    · rename_i hm
      obtain ⟨vs, e⟩ := hb a hm
      obtain ⟨u, e', n⟩ := ha
      rw [e] at e'
      cases e'
      exact absurd rfl (n vs)
    · rfl
  t := fun z => z
  l := fun _ z => nomatch z
theorem isKeys_tup {H : Hp} : ∀ {ws : List (List Key × V)} {bs : List Addr}, IsKeys H ws bs → ∀ b ∈ bs, ∃ vs, H b = some (.tup vs)
  | _, _, .nil, b, hb => by cases hb
  | _, _, .cons q s, b, hb => by
    rcases List.mem_cons.mp hb with e | e
    · subst e; exact ⟨_, q⟩
    · exact isKeys_tup s b e
theorem isKeys_rp {ca : Str → Addr} {cs : List Addr} {B H : Hp} {all : List Addr} (s : Sme B H) : ∀ {ws : List (List Key × V)} {bs : List Addr}, IsKeys H ws bs → (∀ b ∈ bs, b ∈ all) → RpL K ca cs (seeT B H all) (bs.map V.ref) (ws.map fun w => keyT w.1)
  | _, _, .nil, _ => .nil
  | _, _, .cons q t, h => .cons (.tup (seeT_of s (h _ List.mem_cons_self) q) (rpl_keyV _)) (isKeys_rp s t fun b hb => h b (List.mem_cons_of_mem _ hb))
theorem call_lenK : CallR X (.builtin "len") (fun xs H Q => ∃ a, ∃ kvs : List (Key × V), xs = [V.ref a] ∧ Rd H a (.dK kvs) ∧ Q (.int kvs.length) H) := by
  intro pins s σ H xs us Q I r h
  obtain ⟨a, kvs, rfl, ha, q⟩ := h
  obtain ⟨u, rfl, ru⟩ := vals1 r
  cases ru
  exact d_len I ha fun t s' I' => ⟨.int kvs.length, H, I', ⟨t, rfl⟩, q⟩
theorem call_lenT : CallR X (.builtin "len") (fun xs H Q => ∃ p, ∃ kvs : List (List Key × V), xs = [.ref p] ∧ Rd H p (.dT kvs) ∧ Q (.int ((kvs.length : Nat) : Int)) H) := by
  intro pins s σ H xs us Q I r h
  obtain ⟨p, kvs, rfl, hp, q⟩ := h
  obtain ⟨u, rfl, rx⟩ := vals1 r
  obtain rfl : u = .ref p := rx
  obtain ⟨z, hd, ys, rel, dd⟩ := dt_rd I.hok hp
  have hl : kvs.length = ys.length := Paired.length rel
  refine call_len_dictH hd dd (by rw [← hl]; rw [sizeLine_eq] at z; omega) ?_
  rw [← hl]
  exact ⟨.int ((kvs.length : Nat) : Int), H, I.tok _, ⟨_, rfl⟩, q⟩
theorem call_listK (hc : X.calm = true) : CallR X (.type "list") (fun xs H Q => ∃ p, ∃ kvs : List (Key × V), xs = [.ref p] ∧ Rd H p (.dK kvs) ∧ ∀ q, H q = none → Q (.ref q) (upd H q (.lst (kvs.map fun kv => kV kv.1)))) := by
  intro pins s σ H xs us Q I r h
  obtain ⟨p, kvs, e, hk, q⟩ := h
  subst e
  obtain ⟨u, eu, rx⟩ := vals1 r
  subst eu
  obtain rfl : u = Value.ref p := rx
  obtain ⟨z, lo, vs, rk, hd⟩ := dk_rd I.hok hk
  obtain ⟨ep, hat⟩ := hd.dictAt
  have hl : kvs.length = vs.length := Paired.length rk
  refine PySem.W.kdl_call (PySem.W.kdl_dict (knd := mixKind X.prog X.w) (kvs := vs) (ep := ep) lo) (I.ok.hd hc) hat (by rw [← hl]; exact z) fun h' tk acc' c' hkeep hS hacc => ?_
  refine ⟨.ref s.heap.objs.size, upd H s.heap.objs.size (.lst (kvs.map fun kv => kV kv.1)), I.laid hkeep (Nat.le_refl _) (show ObjOk X.prog X.w _ _ _ (.lst (kvs.map fun kv => kV kv.1)) from ⟨?_, acc'.toList, c', ?_, ?_⟩), rfl, q _ (I.hok.fresh (Nat.le_refl _))⟩
  · rw [List.length_map]; exact z
  · have el : acc'.toList.length = acc'.size := by simp
    refine vals_of_at (by rw [List.length_map, el, hacc.1, hl]) fun j y w h1 h2 => ?_
    obtain ⟨k, y2, hky, hi⟩ := hacc.2 j w (by rw [← Array.getElem?_toList]; exact h2)
    have e1 : (kvs.map (·.1))[j]? = some k := by
      rw [KV.keys rk, List.getElem?_map, hky] <;> rfl
    have e2 : (kvs.map fun kv => kV kv.1)[j]? = some (kV k) := by
      have e3 : (kvs.map fun kv => kV kv.1) = (kvs.map (·.1)).map kV := by rw [List.map_map] <;> rfl
      rw [e3, List.getElem?_map, e1] <;> rfl
    rw [e2] at h1
    cases h1
    exact keyIs_rel hi
  · rw [Array.toArray_toList]; exact hS
def CallOk (X : Cx) (fv : Value) (f : List D → Option Sl) (x : Fx) : Prop := ∀ ds r, f ds = some r → ∃ rr, CallR X fv rr ∧ SoundN X.K x rr ds r
theorem callAny (fv : Value) : ∃ rr, CallR X fv rr := ⟨fun _ _ _ => False, fun _ _ _ _ _ _ _ _ _ h => h.elim⟩
theorem len_ok : CallOk X (.builtin "len") lenF x := fun ds r h => by
  unfold lenF at h
  split at h
  · cases h
    refine ⟨_, call_len_seq, (fun z => nomatch z), fun cs B H vs Q s l0 p => ?_⟩
    obtain ⟨v, rfl, l⟩ := lk1 l0
    obtain ⟨a, vs, rfl, e1, e2⟩ := l.lst s
    exact ⟨a, vs, rfl, .inl (SqL.of e1), by rw [e2.len]; exact p _ B H (Gr.refl s) (.int _)⟩
  · cases h
    refine ⟨_, call_len_seq, (fun z => nomatch z), fun cs B H vs Q s l0 p => ?_⟩
    obtain ⟨v, rfl, l⟩ := lk1 l0
    obtain ⟨a, vs, rfl, e0, e1, e2⟩ := l.tup s
    exact ⟨a, vs, rfl, .inr e1, by rw [e2.len]; exact p _ B H (Gr.refl s) (.int _)⟩
  · cases h
    refine ⟨_, call_len_seq, (fun z => nomatch z), fun cs B H vs Q s l0 p => ?_⟩
    obtain ⟨v, rfl, l⟩ := lk1 l0
    obtain ⟨a, rfl, e0, e1⟩ := l.scr s
    exact ⟨a, _, rfl, .inl e1, by rw [List.length_map]; exact p _ B H (Gr.refl s) (.int _)⟩
  · cases h
    refine ⟨_, call_lenK, (fun z => nomatch z), fun cs B H vs Q s l0 p => ?_⟩
    obtain ⟨v, rfl, l⟩ := lk1 l0
    obtain ⟨a, ws, rfl, e1, e2, e3⟩ := l.dcK s
    refine ⟨a, ws, rfl, e1, ?_⟩
    have e4 := congrArg List.length e2
    rw [List.length_map, List.length_map] at e4
    rw [e4]; exact p _ B H (Gr.refl s) (.int _)
  · cases h
    refine ⟨_, call_lenT, (fun z => nomatch z), fun cs B H vs Q s l0 p => ?_⟩
    obtain ⟨v, rfl, l⟩ := lk1 l0
    obtain ⟨a, ws, rfl, e1, e2, e3⟩ := l.dcT s
    refine ⟨a, ws, rfl, e1, ?_⟩
    have e4 := congrArg List.length e2
    rw [List.length_map, List.length_map] at e4
    rw [e4]; exact p _ B H (Gr.refl s) (.int _)
  · obtain ⟨h1, rfl⟩ := grd_some h
    refine ⟨_, call_len_str, (fun z => nomatch z), fun cs B H vs Q s l0 p => ?_⟩
    obtain ⟨v, rfl, l⟩ := lk1 l0
    exact ⟨_, by rw [l.str], of_decide_eq_true h1, p _ B H (Gr.refl s) (.int _)⟩
  · cases h
theorem abs_ok : CallOk X (.builtin "abs") absF x := fun ds r h => by
  unfold absF at h
  split at h
  · cases h
    refine ⟨_, call_abs, (fun z => nomatch z), fun cs B H vs Q s l0 p => ?_⟩
    obtain ⟨v, rfl, l⟩ := lk1 l0
    exact ⟨_, by rw [l.int], p _ B H (Gr.refl s) (.int _)⟩
  · cases h
theorem int_ok : CallOk X (.type "int") intF x := fun ds r h => by
  unfold intF at h
  split at h
  · cases h
    refine ⟨_, call_int1, (fun z => nomatch z), fun cs B H vs Q s l0 p => ?_⟩
    obtain ⟨v, rfl, l⟩ := lk1 l0
    exact .inl ⟨_, by rw [l.int], p _ B H (Gr.refl s) (.int _)⟩
  · cases h
    refine ⟨_, call_int1, (fun z => nomatch z), fun cs B H vs Q s l0 p => ?_⟩
    obtain ⟨v, rfl, l⟩ := lk1 l0
    exact .inr ⟨_, by rw [l.bl], p _ B H (Gr.refl s) (.int _)⟩
  · cases h
theorem max_ok (hc : X.calm = true) : CallOk X (.builtin "max") maxF x := fun ds r h => by
  unfold maxF at h
  split at h
  · cases h
    refine ⟨_, call_max2 hc, (fun z => nomatch z), fun cs B H vs Q s l p => ?_⟩
    obtain ⟨v, w, rfl, l1, l2⟩ := lk2 l
    exact ⟨_, _, by rw [l1.int, l2.int], p _ B H (Gr.refl s) (.int _)⟩
  · split at h
    · rename_i xs i is hi
      cases h
      have hx := intsD_some hi
      subst hx
      refine ⟨_, cr_max hc, (fun z => nomatch z), fun cs B H vs Q s l0 p => ?_⟩
      obtain ⟨v, rfl, l⟩ := lk1 l0
      obtain ⟨a, vs, rfl, e1, e2⟩ := l.lst s
      have e3 := e2.ints
      subst e3
      obtain ⟨m1, m2⟩ := maxL_mem is i
      refine ⟨a, i :: is, rfl, SqL.of e1, by simp, fun m hm hu => ?_⟩
      have : m = maxL i is := Int.le_antisymm (m2 m hm) (hu _ m1)
      rw [this]; exact p _ B H (Gr.refl s) (.int _)
    · cases h
  · cases h
theorem min_ok (hc : X.calm = true) : CallOk X (.builtin "min") minF x := fun ds r h => by
  unfold minF at h
  split at h
  · cases h
    refine ⟨_, call_min2 hc, (fun z => nomatch z), fun cs B H vs Q s l p => ?_⟩
    obtain ⟨v, w, rfl, l1, l2⟩ := lk2 l
    exact ⟨_, _, by rw [l1.int, l2.int], p _ B H (Gr.refl s) (.int _)⟩
  · split at h
    · rename_i xs i is hi
      cases h
      have hx := intsD_some hi
      subst hx
      refine ⟨_, cr_min hc, (fun z => nomatch z), fun cs B H vs Q s l0 p => ?_⟩
      obtain ⟨v, rfl, l⟩ := lk1 l0
      obtain ⟨a, vs, rfl, e1, e2⟩ := l.lst s
      have e3 := e2.ints
      subst e3
      obtain ⟨m1, m2⟩ := minL_mem is i
      refine ⟨a, i :: is, rfl, SqL.of e1, by simp, fun m hm hu => ?_⟩
      have : m = minL i is := Int.le_antisymm (hu _ m1) (m2 m hm)
      rw [this]; exact p _ B H (Gr.refl s) (.int _)
    · cases h
  · cases h
theorem sum_ok (hc : X.calm = true) : CallOk X (.builtin "sum") sumF x := fun ds r h => by
  unfold sumF at h
  split at h
  · obtain ⟨is, hi, rfl⟩ := Option.map_eq_some_iff.mp h
    have hx := intsD_some hi
    subst hx
    refine ⟨_, cr_sum hc, (fun z => nomatch z), fun cs B H vs Q s l0 p => ?_⟩
    obtain ⟨v, rfl, l⟩ := lk1 l0
    obtain ⟨a, vs, rfl, e1, e2⟩ := l.lst s
    have e3 := e2.ints
    subst e3
    exact ⟨a, is, rfl, SqL.of e1, p _ B H (Gr.refl s) (.int _)⟩
  · cases h
theorem all_ok (hc : X.calm = true) : CallOk X (.builtin "all") allF x := fun ds r h => by
  unfold allF at h
  split at h
  · obtain ⟨is, hi, rfl⟩ := Option.map_eq_some_iff.mp h
    have hx := blsD_some hi
    subst hx
    refine ⟨_, cr_all hc, (fun z => nomatch z), fun cs B H vs Q s l0 p => ?_⟩
    obtain ⟨v, rfl, l⟩ := lk1 l0
    obtain ⟨a, vs, rfl, e1, e2⟩ := l.lst s
    have e3 := e2.bls
    subst e3
    exact ⟨a, is, rfl, SqL.of e1, p _ B H (Gr.refl s) (.bl _)⟩
  · cases h
theorem any_ok (hc : X.calm = true) : CallOk X (.builtin "any") anyF x := fun ds r h => by
  unfold anyF at h
  split at h
  · obtain ⟨is, hi, rfl⟩ := Option.map_eq_some_iff.mp h
    have hx := blsD_some hi
    subst hx
    refine ⟨_, cr_any hc, (fun z => nomatch z), fun cs B H vs Q s l0 p => ?_⟩
    obtain ⟨v, rfl, l⟩ := lk1 l0
    obtain ⟨a, vs, rfl, e1, e2⟩ := l.lst s
    have e3 := e2.bls
    subst e3
    exact ⟨a, is, rfl, SqL.of e1, p _ B H (Gr.refl s) (.bl _)⟩
  · cases h
theorem list_ok (hc : X.calm = true) : CallOk X (.type "list") listF x := fun ds r h => by
  unfold listF at h
  split at h
  · cases h
    refine ⟨_, call_list_of, (fun z => nomatch z), fun cs B H vs Q s l0 p => ?_⟩
    obtain ⟨v, rfl, l⟩ := lk1 l0
    obtain ⟨a, vs, rfl, e1, e2⟩ := l.lst s
    exact ⟨a, vs, rfl, .inl (SqL.of e1), fun q hq => p q B _ (Gr.own s hq) hq ⟨vs, upd_same, free_b s hq, e2⟩⟩
  · cases h
    refine ⟨_, call_list_of, (fun z => nomatch z), fun cs B H vs Q s l0 p => ?_⟩
    obtain ⟨v, rfl, l⟩ := lk1 l0
    obtain ⟨a, vs, rfl, e0, e1, e2⟩ := l.tup s
    exact ⟨a, vs, rfl, .inr e1, fun q hq => p q B _ (Gr.own s hq) hq ⟨vs, upd_same, free_b s hq, e2⟩⟩
  · rename_i kvs
    cases h
    refine ⟨_, call_listK hc, (fun z => nomatch z), fun cs B H vs Q s l0 p => ?_⟩
    obtain ⟨v, rfl, l⟩ := lk1 l0
    obtain ⟨a, ws, rfl, e1, e2, e3⟩ := l.dcK s
    refine ⟨a, ws, rfl, e1, fun q hq => p q B _ (Gr.own s hq) hq ⟨_, upd_same, free_b s hq, ?_⟩⟩
    rw [map_fst e2 kV]
    have := rpl_keyV (K := X.K) (ca := x.ca) (cs := cs) (B := B) (kvs.map (·.1))
    rw [List.map_map, List.map_map] at this
    exact this
  · rename_i kvs
    cases h
    refine ⟨_, call_list_dT hc, (fun z => nomatch z), fun cs B H vs Q s l0 p => ?_⟩
    obtain ⟨v, rfl, l⟩ := lk1 l0
    obtain ⟨a, ws, rfl, e1, e2, e3⟩ := l.dcT s
    refine ⟨a, ws, rfl, e1, fun q bs hq hk => ?_⟩
    have gs := Gr.see (T := x.T) s (isKeys_tup hk)
    refine p q (seeT B H bs) _ ((gs.trans (Gr.own gs.s hq))) hq ⟨_, upd_same, free_b gs.s hq, ?_⟩
    rw [← map_fst e2 keyT]
    exact isKeys_rp s hk fun _ z => z
  · cases h
theorem tuple_ok : CallOk X (.type "tuple") tupleF x := fun ds r h => by
  unfold tupleF at h
  split at h
  · rename_i xs
    cases h
    cases hall : xs.all strD with
    | true =>
      refine ⟨_, call_tuple_frz, (fun z => nomatch z), fun cs B H vs Q s l0 p => ?_⟩
      obtain ⟨v, rfl, l⟩ := lk1 l0
      obtain ⟨a, vs, rfl, e1, e2⟩ := l.lst s
      refine ⟨a, vs, rfl, .inl ⟨SqL.of e1, fun q o hq ho => ?_⟩⟩
      have ga := Gr.alloc (T := x.T) (o := .frz o (.tup vs)) s hq
      exact p _ _ _ ga (.tupM (.inl ⟨o, upd_same, ho⟩) (e2.mono ga.b (Pre.refl _)))
    | false =>
      refine ⟨_, call_tuple_of, (fun z => nomatch z), fun cs B H vs Q s l0 p => ?_⟩
      obtain ⟨v, rfl, l⟩ := lk1 l0
      obtain ⟨a, vs, rfl, e1, e2⟩ := l.lst s
      refine ⟨a, vs, rfl, .inl ⟨SqL.of e1, fun q hq => ?_⟩⟩
      have ga := Gr.alloc (T := x.T) (o := .tup vs) s hq
      exact p _ _ _ ga (.tup upd_same (e2.mono ga.b (Pre.refl _)))
  · cases h
    refine ⟨_, call_tuple_of, (fun z => nomatch z), fun cs B H vs Q s l0 p => ?_⟩
    obtain ⟨v, rfl, l⟩ := lk1 l0
    have t := tup_of l
    obtain ⟨a, vs, rfl, e0, e1, e2⟩ := l.tup s
    exact ⟨a, vs, rfl, .inr ⟨e1, p _ B H (Gr.refl s) t⟩⟩
  · cases h
/-- a built-in function by its name -/
def bltF (n : Str) : Option (List D → Option Sl) :=
  if n = "len" then some lenF else if n = "abs" then some absF else if n = "int" then some intF else if n = "max" then some maxF else if n = "min" then some minF else if n = "sum" then some sumF
  else if n = "all" then some allF else if n = "any" then some anyF else if n = "list" then some listF else if n = "tuple" then some tupleF else none
theorem pe_bltB {n : Str} {id : String} {e : Expr} {es : List Expr} {p pos : Pos} {f : List D → Option Sl} {m : M (List Pl)} (hv : bootBuiltins n = some (.builtin id)) (hn : n ≠ "__name__") (hd : (n == ("__debug__" : Str)) = false) (hf : CallOk X (.builtin id) f x) (hg : Gl X n) (hm : X.mg n = none) (hs : (e :: es).all nst = true)
    (ha : PA X (e :: es) (tN X.K x W m)) : PE X (.Call (.Name n p) (e :: es) [] pos) (tU X.K x W (bltM f m)) := by
  rw [List.all_cons, Bool.and_eq_true] at hs
  refine PE.imp (PE.all (P := fun t => ∃ rr, CallR X (.builtin id) rr ∧ t = tCB rr (tN X.K x W m)) fun t ⟨rr, h1, h2⟩ => by subst h2; exact pe_callB h1 hg hm hv ha hn hd (nst_ok hs.1) (nst_all hs.2)) fun σ H Q q => ?_
  obtain ⟨rr, h1, h2⟩ := tU_blt (callAny _) hf q
  exact ⟨_, ⟨rr, h1, rfl⟩, h2⟩
theorem pe_bltT {n : Str} {id : String} {e : Expr} {es : List Expr} {p pos : Pos} {f : List D → Option Sl} {m : M (List Pl)} (hv : bootBuiltins n = some (.type id)) (hn : n ≠ "__name__") (hd : (n == ("__debug__" : Str)) = false) (hf : CallOk X (.type id) f x) (hg : Gl X n) (hm : X.mg n = none) (hs : (e :: es).all nst = true)
    (ha : PA X (e :: es) (tN X.K x W m)) : PE X (.Call (.Name n p) (e :: es) [] pos) (tU X.K x W (bltM f m)) := by
  rw [List.all_cons, Bool.and_eq_true] at hs
  refine PE.imp (PE.all (P := fun t => ∃ rr, CallR X (.type id) rr ∧ t = tCB rr (tN X.K x W m)) fun t ⟨rr, h1, h2⟩ => by subst h2; exact pe_callTy h1 hg hm hv ha hn hd (nst_ok hs.1) (nst_all hs.2)) fun σ H Q q => ?_
  obtain ⟨rr, h1, h2⟩ := tU_blt (callAny _) hf q
  exact ⟨_, ⟨rr, h1, rfl⟩, h2⟩
theorem pe_blt (hc : X.calm = true) {n : Str} {e : Expr} {es : List Expr} {p pos : Pos} {f : List D → Option Sl} {m : M (List Pl)} (hf : bltF n = some f) (hg : Gl X n) (hm : X.mg n = none) (hs : (e :: es).all nst = true)
    (ha : PA X (e :: es) (tN X.K x W m)) : PE X (.Call (.Name n p) (e :: es) [] pos) (tU X.K x W (bltM f m)) := by
  unfold bltF at hf
  split at hf
  · cases hf; rename_i h; subst h; exact pe_bltB (by decide +kernel) (by decide) (by decide) len_ok hg hm hs ha
  split at hf
  · cases hf; rename_i h; subst h; exact pe_bltB (by decide +kernel) (by decide) (by decide) abs_ok hg hm hs ha
  split at hf
  · cases hf; rename_i h; subst h; exact pe_bltT (by decide +kernel) (by decide) (by decide) int_ok hg hm hs ha
  split at hf
  · cases hf; rename_i h; subst h; exact pe_bltB (by decide +kernel) (by decide) (by decide) (max_ok hc) hg hm hs ha
  split at hf
  · cases hf; rename_i h; subst h; exact pe_bltB (by decide +kernel) (by decide) (by decide) (min_ok hc) hg hm hs ha
  split at hf
  · cases hf; rename_i h; subst h; exact pe_bltB (by decide +kernel) (by decide) (by decide) (sum_ok hc) hg hm hs ha
  split at hf
  · cases hf; rename_i h; subst h; exact pe_bltB (by decide +kernel) (by decide) (by decide) (all_ok hc) hg hm hs ha
  split at hf
  · cases hf; rename_i h; subst h; exact pe_bltB (by decide +kernel) (by decide) (by decide) (any_ok hc) hg hm hs ha
  split at hf
  · cases hf; rename_i h; subst h; exact pe_bltT (by decide +kernel) (by decide) (by decide) (list_ok hc) hg hm hs ha
  split at hf
  · cases hf; rename_i h; subst h; exact pe_bltT (by decide +kernel) (by decide) (by decide) tuple_ok hg hm hs ha
  · cases hf
end
end Dn
end
section
set_option maxHeartbeats 200000
namespace Dn
open PySem L2
inductive Fw where
  | nx
  | bk
  | ct
  | rt (r : Sl)
def qS (K : Fg) (x : Fx) (D : Ends) : Fw → Env → List Dn.D → List Addr → Hp → Prop
  | .nx, e, s, cs, B => ∀ σ H, SX K x e s cs σ B H → D.nx σ H
  | .bk, e, s, cs, B => ∀ σ H, SX K x e s cs σ B H → D.bk σ H
  | .ct, e, s, cs, B => ∀ σ H, SX K x e s cs σ B H → D.ct σ H
  | .rt r, e, s, cs, B => ∀ v σ H, SX K x (r :: e) s cs (some v :: σ) B H → D.rt v H
def outS {α : Type} (K : Fg) (x : Fx) (W : WX) (cs : List Addr) (B : Hp) (o : Out α) (k : α → Env → List D → List Addr → Hp → Prop) : Prop := match o with
  | .stuck => False
  | .ok f e s => ∀ cs' B', Sme B B' → Pre cs cs' → k f e s cs' B'
  | .exn c fs e s => ∀ σ, outE K x W σ cs B c fs e s
def tS (K : Fg) (x : Fx) (W : WX) (m : M Fw) : TS := fun D σ H => ∃ env st cs B, SX K x env st cs σ B H ∧ outS K x W cs B (m env st) (qS K x D)
section
variable {α β : Type} {K : Fg} {x : Fx} {W : WX} {X : Cx} {σ : L2.St} {H : Hp} {cs cs' : List Addr} {B B' : Hp} {e : Env} {s : List D} {k k' : α → Env → List D → List Addr → Hp → Prop} {kb : β → Env → List D → List Addr → Hp → Prop}
theorem outS.up {o : Out α} (h : outS K x W cs B o k) (b : Sme B B') (p : Pre cs cs') : outS K x W cs' B' o k := by
  cases o with
  | stuck => exact h
  | ok a e s => exact fun cs2 B2 sb pr => h cs2 B2 (b.trans sb) (p.trans pr)
  | exn c fs e s => exact fun σ => outE.up (h σ) b p
theorem outS.imp {o : Out α} (h : outS K x W cs B o k) (i : ∀ a e s cs' B', Sme B B' → Pre cs cs' → k a e s cs' B' → k' a e s cs' B') : outS K x W cs B o k' := by
  cases o with
  | stuck => exact h
  | ok a e s => exact fun cs2 B2 sb pr => i _ _ _ _ _ sb pr (h cs2 B2 sb pr)
  | exn c fs e s => exact h
theorem outS.bind {m : M α} {f : α → M β} (h : outS K x W cs B ((m.bind f) e s) kb) : outS K x W cs B (m e s) (fun a e' s' cs' B' => outS K x W cs' B' (f a e' s') kb) := by
  unfold M.bind at h
  cases hm : m e s with
  | stuck => rw [hm] at h; exact h
  | ok a e' s' => rw [hm] at h; exact fun cs2 B2 sb pr => outS.up h sb pr
  | exn c fs e' s' => rw [hm] at h; exact h
theorem outS.g {o : Out α} (h : outS K x W cs B o k) (σ : L2.St) : outG K x W σ cs B o k := by
  cases o with
  | stuck => exact h
  | ok a e s => exact h
  | exn c fs e s => exact h σ
theorem outS.now {a : α} (h : outS K x W cs B (.ok a e s) k) : k a e s cs B := h cs B (Sme.refl B) (Pre.refl cs)
def seqK (n : M Fw) : Fw → M Fw
  | .nx => n
  | f => M.ret f
def seqM (m n : M Fw) : M Fw := m.bind (seqK n)
theorem pss_nilS : PSs X [] (tS X.K x W (M.ret .nx)) := PSs.imp pss_nil fun D σ H ⟨env, st, cs, B, hs, ho⟩ => (show outS X.K x W cs B (.ok Fw.nx env st) (qS X.K x D) from ho).now σ H hs
theorem seq_out {n : M Fw} {D : Ends} {f : Fw} (h : outS K x W cs B (seqK n f e s) (qS K x D)) : qS K x { D with nx := tS K x W n D } f e s cs B := by
  cases f with
  | nx => exact fun σ H sx => ⟨e, s, cs, B, sx, h⟩
  | bk => exact (show outS K x W cs B (.ok Fw.bk e s) (qS K x D) from h).now
  | ct => exact (show outS K x W cs B (.ok Fw.ct e s) (qS K x D) from h).now
  | rt r => exact (show outS K x W cs B (.ok (Fw.rt r) e s) (qS K x D) from h).now
theorem pss_seqS {st : Stmt} {rest : List Stmt} {m n : M Fw} (h1 : PS X st (tS X.K x W m)) (h2 : PSs X rest (tS X.K x W n)) : PSs X (st :: rest) (tS X.K x W (seqM m n)) :=
  PSs.imp (pss_cons h1 h2) fun D σ H ⟨env, st, cs, B, hs, ho⟩ => ⟨env, st, cs, B, hs, (outS.bind ho).imp fun f e s cs' B' _ _ k => seq_out k⟩
def exprS (m : M Sl) : M Fw := m.bind fun _ => M.ret .nx
theorem ps_exprS {e : Expr} {pos : Pos} {m : M Sl} (h : PE X e (tU X.K x W m)) (hs : swapsWith e none pos.line X.env = pure false) : PS X (.Expr e pos) (tS X.K x W (exprS m)) :=
  PS.imp (ps_expr h hs) fun D σ H ⟨env, st, cs, B, hs, ho⟩ => ⟨env, st, cs, B, hs, ((outS.bind ho).g σ).imp fun r e s cs' B' k v H' sx => k.now σ H' sx.tail⟩
def retS (m : M Sl) : M Fw := m.bind fun r => M.ret (.rt r)
theorem ps_retS {e : Expr} {pos : Pos} {m : M Sl} (h : PE X e (tU X.K x W m)) : PS X (.Return (some e) pos) (tS X.K x W (retS m)) :=
  PS.imp (ps_ret h) fun D σ H ⟨env, st, cs, B, hs, ho⟩ => ⟨env, st, cs, B, hs, ((outS.bind ho).g σ).imp fun r e s cs' B' k v H' sx => k.now v σ H' sx⟩
def ifS (t : M Bool) (m n : M Fw) : M Fw := t.bind fun b => if b then m else n
theorem ps_ifS {c : Expr} {a b : List Stmt} {pos : Pos} {t : M Bool} {m n : M Fw} (hc : PT X c (tT X.K x W t)) (ha : PSs X a (tS X.K x W m)) (hb : PSs X b (tS X.K x W n)) : PS X (.If c a b pos) (tS X.K x W (ifS t m n)) :=
  PS.imp (ps_if hc ha hb) fun D σ H ⟨env, st, cs, B, hs, ho⟩ => ⟨env, st, cs, B, hs, ((outS.bind ho).g σ).imp fun b e s cs' B' k H' sx => by
    cases b with
    | true => rw [if_pos rfl]; exact ⟨e, s, cs', B', sx, k⟩
    | false => rw [if_neg Bool.false_ne_true]; exact ⟨e, s, cs', B', sx, k⟩⟩
def setN (i : Nat) (r : Sl) : M Fw := fun e s => .ok .nx (e.set i r) s
def setC (i : Nat) (r : Sl) : M Fw := fun e s => match r with
  | .ow d => .ok .nx (e.set i (.fz (.cell s.length))) (s ++ [d])
  | r => .ok .nx (e.set i r) s
def asgN (i : Nat) (m : M Sl) : M Fw := m.bind (setN i)
def asgC (i : Nat) (m : M Sl) : M Fw := m.bind (setC i)
theorem tS_asgN {i : Nat} {m : M Sl} {D : Ends} (h : tS K x W (asgN i m) D σ H) : tAsg (tU K x W m) (gName i) D σ H := by
  obtain ⟨env, st, cs, B, hs, ho⟩ := h
  exact ⟨env, st, cs, B, hs, ((outS.bind ho).g σ).imp fun r e s cs' B' k v H' sx => (show outS K x W cs' B' (.ok Fw.nx (e.set i r) s) (qS K x D) from k).now _ H' (sx.set i)⟩
theorem tS_asgC {i : Nat} {m : M Sl} {D : Ends} (h : tS K x W (asgC i m) D σ H) : tAsg (tU K x W m) (gName i) D σ H := by
  obtain ⟨env, st, cs, B, hs, ho⟩ := h
  refine ⟨env, st, cs, B, hs, ((outS.bind ho).g σ).imp fun r e s cs' B' k v H' sx => ?_⟩
  cases r with
  | ow d =>
    obtain ⟨p, e', sx'⟩ := sx.toCell
    exact (show outS K x W cs' B' (.ok Fw.nx (e.set i (.fz (.cell s.length))) (s ++ [d])) (qS K x D) from k) (cs' ++ [p]) B' (Sme.refl _) ⟨[p], rfl⟩ _ H' (sx'.set i)
  | fz d => exact (show outS K x W cs' B' (.ok Fw.nx (e.set i (.fz d)) s) (qS K x D) from k).now _ H' (sx.set i)
  | un => exact (show outS K x W cs' B' (.ok Fw.nx (e.set i .un) s) (qS K x D) from k).now _ H' (sx.set i)
  | ad p => exact (show outS K x W cs' B' (.ok Fw.nx (e.set i (.ad p)) s) (qS K x D) from k).now _ H' (sx.set i)
  | cl p => exact (show outS K x W cs' B' (.ok Fw.nx (e.set i (.cl p)) s) (qS K x D) from k).now _ H' (sx.set i)
  | sf p d => exact (show outS K x W cs' B' (.ok Fw.nx (e.set i (.sf p d)) s) (qS K x D) from k).now _ H' (sx.set i)
def qG (K : Fg) (x : Fx) (N : L2.St → Hp → Prop) : Unit → Env → List D → List Addr → Hp → Prop := fun _ e s cs B => ∀ σ H, SX K x e s cs σ B H → N σ H
def tG (K : Fg) (x : Fx) (W : WX) (t : D → M Unit) : TG := fun v σ H N => ∃ env st cs B d, SX K x env st cs σ B H ∧ Rp K x.ca cs B v d ∧ outS K x W cs B (t d env st) (qG K x N)
def tGs (K : Fg) (x : Fx) (W : WX) (t : List D → M Unit) : TGs := fun vs σ H N => ∃ env st cs B ds, SX K x env st cs σ B H ∧ RpL K x.ca cs B vs ds ∧ outS K x W cs B (t ds env st) (qG K x N)
theorem PG.imp {tg : Expr} {t t' : TG} (h : PG X tg t) (i : ∀ v σ H Q, t' v σ H Q → t v σ H Q) : PG X tg t' := ⟨fun pins s σ H v u Q I r q => h.run pins s σ H v u Q I r (i v σ H Q q)⟩
theorem PGs.imp {tg : List Expr} {t t' : TGs} (h : PGs X tg t) (i : ∀ v σ H Q, t' v σ H Q → t v σ H Q) : PGs X tg t' := ⟨fun pins s σ H v u Q I r q => h.run pins s σ H v u Q I r (i v σ H Q q)⟩
theorem PG.all {tg : Expr} {P : TG → Prop} (h : ∀ t, P t → PG X tg t) : PG X tg (fun v σ H Q => ∃ t, P t ∧ t v σ H Q) := ⟨fun pins s σ H v u Q I r ⟨t, p, q⟩ => (h t p).run pins s σ H v u Q I r q⟩
def tgN (i : Nat) (d : D) : M Unit := fun e s => .ok () (e.set i (.fz d)) s
theorem pg_nameM {i : Nat} {n : Str} {pos : Pos} (h : PG X (.Name n pos) (gName i)) : PG X (.Name n pos) (tG X.K x W (tgN i)) :=
  PG.imp h fun v σ H N ⟨env, st, cs, B, d, hs, r, ho⟩ => (show outS X.K x W cs B (.ok () (env.set i (.fz d)) st) (qG X.K x N) from ho).now _ H ((hs.fz r).set i)
def tgs : List (D → M Unit) → List D → M Unit
  | [], [] => M.ret ()
  | t :: ts, d :: ds => (t d).bind fun _ => tgs ts ds
  | _, _ => M.stuck
theorem pgs_nilM : PGs X [] (tGs X.K x W (tgs [])) := PGs.imp pgs_nil fun vs σ H N ⟨env, st, cs, B, ds, hs, r, ho⟩ => by
  cases r with
  | nil => exact ⟨rfl, (show outS X.K x W cs B (.ok () env st) (qG X.K x N) from ho).now σ H hs⟩
  | cons r t => exact (show False from ho).elim
theorem pgs_consM {t : Expr} {ts : List Expr} {f : D → M Unit} {fs : List (D → M Unit)} (h1 : PG X t (tG X.K x W f)) (h2 : PGs X ts (tGs X.K x W (tgs fs))) (hs : (assignEach (t :: ts) X.env).map (·.2) = assign t X.env :: (assignEach ts X.env).map (·.2)) : PGs X (t :: ts) (tGs X.K x W (tgs (f :: fs))) :=
  PGs.imp (pgs_cons h1 h2 hs) fun vs σ H N ⟨env, st, cs, B, ds, hs, r, ho⟩ => by
    cases r with
    | nil => exact (show False from ho).elim
    | @cons v d vs ds r t =>
      refine ⟨v, vs, rfl, env, st, cs, B, d, hs, r, (outS.bind ho).imp fun _ e s cs' B' sb pr k σ' H' sx => ?_⟩
      exact ⟨e, s, cs', B', ds, sx, t.mono sb pr, k⟩
def tupI : D → Option (List D)
  | .tup _ xs => some xs
  | _ => none
def tgT (n : Nat) (ts : List (D → M Unit)) (d : D) : M Unit := (M.lift (tupI d)).bind fun ds => if ds.length = n then tgs ts ds else M.stuck
theorem pg_tupM {es : List Expr} {k n : Nat} {pos : Pos} {fs : List (D → M Unit)} (hc : X.calm = true) (h : PGs X es (tGs X.K x W (tgs fs))) (hn : (assignEach es X.env).length = n) (hst : (assignEach es X.env).findIdx? (·.1) = none) : PG X (.Tuple es k pos) (tG X.K x W (tgT n fs)) :=
  PG.imp (pg_tup (n := n) hc h hn hst) fun v σ H N ⟨env, st, cs, B, d, hs, r, ho⟩ => by
    have ho := outS.bind ho
    cases d with
    | tup m xs =>
      have ho := (show outS X.K x W cs B (.ok xs env st) _ from ho).now
      obtain ⟨a, vs, rfl, e0, e1, e2⟩ := Lk.tup hs.s (.inl r)
      by_cases hl : xs.length = n
      · rw [if_pos hl] at ho
        exact ⟨a, vs, rfl, e1, by rw [e2.len]; exact hl, env, st, cs, B, xs, hs, e2, ho⟩
      · rw [if_neg hl] at ho; exact (show False from ho).elim
    | _ => exact (show False from ho).elim
/-- target = value -/
def asgG (t : D → M Unit) (m : M D) : M Fw := m.bind fun d => (t d).bind fun _ => M.ret .nx
theorem tS_asgG {t : D → M Unit} {m : M D} {D : Ends} (h : tS K x W (asgG t m) D σ H) : tAsg (tV K x W m) (tG K x W t) D σ H := by
  obtain ⟨env, st, cs, B, hs, ho⟩ := h
  exact ⟨env, st, cs, B, hs, ((outS.bind ho).g σ).imp fun d e s cs' B' k v H' sx rp => ⟨e, s, cs', B', d, sx, rp, (outS.bind k).imp fun _ e2 s2 cs2 B2 _ _ k2 σ2 H2 sx2 => k2.now σ2 H2 sx2⟩⟩
def loopK (n : M Fw) : Fw → M Fw
  | .nx => n
  | .ct => n
  | .bk => M.ret .nx
  | .rt r => M.ret (.rt r)
theorem loop_out {n : M Fw} {D : Ends} {f : Fw} {N : L2.St → Hp → Prop} (h : outS K x W cs B (loopK n f e s) (qS K x D)) (hN : ∀ cs' B' σ' H', Sme B B' → Pre cs cs' → SX K x e s cs' σ' B' H' → outS K x W cs' B' (n e s) (qS K x D) → N σ' H') : qS K x { D with nx := N, ct := N, bk := D.nx } f e s cs B := by
  cases f with
  | nx => exact fun σ H sx => hN cs B σ H (Sme.refl B) (Pre.refl cs) sx h
  | ct => exact fun σ H sx => hN cs B σ H (Sme.refl B) (Pre.refl cs) sx h
  | bk => exact (show outS K x W cs B (.ok Fw.nx e s) (qS K x D) from h).now
  | rt r => exact (show outS K x W cs B (.ok (Fw.rt r) e s) (qS K x D) from h).now
/-- what an iterable yields -/
def ItR (K : Fg) (x : Fx) (cs : List Addr) (B : Hp) (xs : List D) (J : It) : Prop := ∃ (G : Hp → Prop) (Y : Nat → Hp → V → Hp → Prop), Walk J xs.length G Y ∧ (∀ H, Sme B H → G H) ∧
  ∀ (i : Nat) (d : D) (B3 H3 : Hp) (v : V) (H4 : Hp), xs[i]? = some d → Sme B B3 → Sme B3 H3 → Y i H3 v H4 → ∃ B4, Gr x.T [] B3 H3 B4 H4 ∧ ∀ cs', Pre cs cs' → Rp K x.ca cs' B4 v d
def qI (K : Fg) (x : Fx) (σ : L2.St) (R : It → Hp → Prop) : List D → Env → List D → List Addr → Hp → Prop := fun xs e s cs B => ∀ J H, SX K x e s cs σ B H → ItR K x cs B xs J → R J H
def tI (K : Fg) (x : Fx) (W : WX) (m : M (List D)) : TI := fun σ H R => ∃ env st cs B, SX K x env st cs σ B H ∧ outG K x W σ cs B (m env st) (qI K x σ R)
theorem ItR.up {xs : List D} {J : It} (h : ItR K x cs B xs J) (b : Sme B B') (p : Pre cs cs') : ItR K x cs' B' xs J := by
  obtain ⟨G, Y, w, g, y⟩ := h
  refine ⟨G, Y, w, fun H s => g H (b.trans s), fun i d B3 H3 v H4 hd sb ss hy => ?_⟩
  obtain ⟨B4, gr, r⟩ := y i d B3 H3 v H4 hd (b.trans sb) ss hy
  exact ⟨B4, gr, fun cs2 pr => r cs2 (p.trans pr)⟩
def forM (t : D → M Unit) (body : M Fw) : List D → M Fw
  | [] => M.ret .nx
  | d :: ds => (t d).bind fun _ => body.bind (loopK (forM t body ds))
def forS (it : M (List D)) (t : D → M Unit) (body : M Fw) : M Fw := it.bind (forM t body)
theorem tS_for {it : M (List D)} {t : D → M Unit} {body : M Fw} {D : Ends} (h : tS K x W (forS it t body) D σ H) : tFor (tI K x W it) (tG K x W t) (tS K x W body) D σ H := by
  obtain ⟨env, st, cs, B, hs, ho⟩ := h
  refine ⟨env, st, cs, B, hs, ((outS.bind ho).g σ).imp fun xs e s cs1 B1 k J H1 sx1 ir => ?_⟩
  obtain ⟨G, Y, w, g, y⟩ := ir
  refine for_it w (fun i σ H => ∃ env st cs B, SX K x env st cs σ B H ∧ Sme B1 B ∧ Pre cs1 cs ∧ outS K x W cs B (forM t body (xs.drop i) env st) (qS K x D)) ⟨e, s, cs1, B1, sx1, Sme.refl _, Pre.refl _, k⟩ (fun i σ H _ ⟨_, _, _, _, sx, sb, _, _⟩ => g H (sb.trans sx.s)) ?_ ?_
  · rintro i v σ H H' hi ⟨env, st, cs, B, sx, sb, pr, k⟩ hy
    have e1 : xs.drop i = xs[i] :: xs.drop (i + 1) := List.drop_eq_getElem_cons hi
    rw [e1] at k
    obtain ⟨B4, gr, r⟩ := y i xs[i] B H v H' (by simp [hi]) sb sx.s hy
    have k := outS.bind (outS.up k gr.b (Pre.refl cs))
    refine ⟨env, st, cs, B4, xs[i], sx.grow gr, r cs pr, k.imp fun _ e2 s2 cs2 B2 sb2 pr2 k2 σ2 H2 sx2 => ?_⟩
    refine ⟨e2, s2, cs2, B2, sx2, (outS.bind k2).imp fun f e3 s3 cs3 B3 sb3 pr3 k3 => loop_out k3 fun cs4 B5 σ4 H4 sb4 pr4 sx4 k4 => ?_⟩
    exact ⟨e3, s3, cs4, B5, sx4, sb.trans (gr.b.trans (sb2.trans (sb3.trans sb4))), pr.trans (pr2.trans (pr3.trans pr4)), k4⟩
  · rintro σ H ⟨env, st, cs, B, sx, sb, pr, k⟩
    rw [List.drop_length] at k
    exact (show outS K x W cs B (.ok Fw.nx env st) (qS K x D) from k).now σ H sx
end
end Dn
end
section
set_option maxHeartbeats 200000
namespace Dn
open PySem L2
def IteT (K : Fg) (a : Addr) : It :=
  ⟨fun i H => ∃ (xs : List V) (x : V), SqT K H a xs ∧ xs[i]? = some x, fun i H v H' => ∃ T x, v = .ref T ∧ H T = none ∧ H' = upd H T (.tup [.int (i : Nat), x]) ∧ ∀ xs, SqT K H a xs → xs[i]? = some x, fun i H => ∃ xs : List V, SqT K H a xs ∧ xs.length ≤ i⟩
theorem walk_enumT {K : Fg} {a : Addr} {xs : List V} : Walk (IteT K a) xs.length (fun H => SqT K H a xs) (YPair (fun i => some (.int (i : Nat))) (fun i => xs[i]?)) := by
  refine ⟨fun i _ hi q => ⟨xs, xs[i], q, by simp [hi]⟩, fun _ q => ⟨xs, q, Nat.le_refl _⟩, fun i H v H' _ q y => ?_⟩
  obtain ⟨T, x, h1, h2, h3, h4⟩ := y
  exact ⟨T, .int (i : Nat), x, h1, h2, h3, rfl, h4 xs q⟩
theorem turn_enumT {P : Program} {w : World} {K : Fg} {elts : List Expr} {kk : Nat} {tpos : Pos} (a e it : Addr) :
    Turn P w K (.Tuple elts kk tpos) (IteT K a) [e, it] e (fun i h => (∃ old, IsEnum h e it ((i : Nat) : Int) old) ∧ h.IsTupleIter it a i ∧ e ≠ it ∧ a ≠ e ∧ a ≠ it) where
  mem := by simp
  obj := fun i h st b hb => by
    obtain ⟨⟨old, he⟩, ⟨o, ho, hc, hd⟩, _⟩ := st
    have e' : b = e ∨ b = it := by simpa using hb
    rcases e' with z | z
    · rw [z]; exact ⟨_, he, fun v q => nomatch q⟩
    · rw [z]; exact ⟨o, ho, fun v q => by rw [hd] at q; cases q⟩
  keep := fun i h h' st k => let ⟨⟨old, he⟩, hi, hne⟩ := st; ⟨⟨old, k e (by simp) _ he⟩, hi.at fun o q => k it (by simp) o q, hne⟩
  item := by
    intro X hP hw hK hc i pins s σ H E I hf st hg
    subst hP hw hK
    obtain ⟨⟨old, he⟩, hit, hne, hae, hai⟩ := st
    obtain ⟨xs, x, hq, hx⟩ := hg
    obtain ⟨its, rv, p, hz⟩ := I.tuple hq
    obtain ⟨u, hu, ru⟩ := rv.get hx
    have hel : e < s.heap.objs.size := Heap.lt_size he
    have hil : it < s.heap.objs.size := by obtain ⟨_, q, _⟩ := hit; exact Heap.lt_size q
    have hlt : i < its.toArray.size := by
      have := (List.getElem?_eq_some_iff.mp hu).1
      simpa using this
    refine wpAny_pyNext_enum_itemD (PySem.Draws.tuple (show X.A.in1.handled = none from I.ok.hd hc) it a hai its.toArray) he ⟨hit, p⟩ hlt hne (by simp [hne, Ne.symm hae]) fun x' h' tk hP ho hst' hT hsz hk => ?_
    have hxu : x' = u := by
      have h1 : its.toArray[i]? = some u := by simpa using hu
      rw [h1] at hP; cases hP; rfl
    subst hxu
    have hit' := hst'.1
    refine ⟨_, rfl, wpAny_letOwnedTupleGo_enum (s := { s with heap := h', toks := tk + 1 }) ho fun h'' he' sb => ?_⟩
    have hT2 : h''.get? s.heap.objs.size = some { cls := .type "tuple", data := .seq #[.int i tk, x'] } := (sb.2 _ (Nat.ne_of_gt hel)).trans hT
    have new : ObjOk X.prog X.w (upd H s.heap.objs.size (.tup [.int (i : Nat), x])) h'' s.heap.objs.size (.tup [.int (i : Nat), x]) :=
      ⟨by show 2 ≤ sizeLine; decide, [.int i tk, x'], .cons ⟨_, rfl⟩ (.cons ru .nil), ⟨_, hT2, rfl, _, rfl⟩⟩
    have I1 : Inv X pins σ (upd H s.heap.objs.size (.tup [.int (i : Nat), x])) { s with heap := h'', toks := tk + 1 } :=
      I.turnedNew (ch := [e, it]) (fun b ob hb q => (sb.2 b (fun z => hb (by simp [z]))).trans (hk b ob (fun z => hb (by simp [z])) (fun z => hb (by simp [z])) q)) hf (Nat.le_refl _) new
    refine ⟨.ref s.heap.objs.size, _, I1, rfl, ⟨_, x, rfl, I.hok.fresh (Nat.le_refl _), rfl, fun ys hy => by rw [I.tuple_inj hy hq]; exact hx⟩, ⟨⟨x', ?_⟩, hit'.at fun o q => (sb.2 it (Ne.symm hne)).trans q, hne, hae, hai⟩, fun b hb => ?_⟩
    · have e1 : ((i + 1 : Nat) : Int) = (i : Int) + 1 := by omega
      rw [e1]; exact he'
    · have hb' : b < s.heap.objs.size := by
        have e' : b = e ∨ b = it := by simpa using hb
        rcases e' with z | z
        · rw [z]; exact hel
        · rw [z]; exact hil
      rw [upd_ne (Nat.ne_of_lt hb')]
      exact (hf b hb).1
  done := by
    intro X hP hw hK hc i pins s σ H E I hf st hg
    subst hP hw hK
    obtain ⟨⟨old, he⟩, hit, hne, hae, hai⟩ := st
    obtain ⟨xs, hq, hx⟩ := hg
    obtain ⟨its, rv, p, hz⟩ := I.tuple hq
    obtain ⟨f0, f1, f2, f3, f4, f5⟩ := hf it (by simp)
    have hl := rv.length
    have D1 : Draws X.prog X.w X.A.in1 it [it, a] i (fun i v => its.toArray[i]? = some v) (fun j h => j = i ∧ h.IsTupleIter it a j ∧ h.IsTuple a its.toArray) := {
      live := fun _ _ st => let ⟨o, ho, _⟩ := st.2.1; ⟨o, ho⟩
      frame := fun _ _ _ st hk => ⟨st.1, st.2.1.at fun o e => hk it (by simp) o e, st.2.2.at fun o e => hk a (by simp) o e⟩
      item := fun j s Q E hj st hQ => absurd st.1 (Nat.ne_of_lt hj)
      done := fun s Q E st hE => wpAny_nextOf_tuple_end (show X.A.in1.handled = none from I.ok.hd hc) st.2.1 st.2.2 (by simp; omega) hE }
    exact wpAny_pyNext_enum_endD D1 he ⟨rfl, hit, p⟩ fun h' eb => ⟨rfl, I.turned (t' := s.toks) (fun b o hb q => eb b o hb q) f0 f1 f3 f4 f5⟩
  self := fun A i s Q E st h => let ⟨⟨_, he⟩, _⟩ := st; wpAny_pyIter_enum he h
theorem meets_enum_newT (l : Addr) (items : Array Value) :
    Meets (Builtin.«enumerate.__new__» ⟨[.type "enumerate", .ref l], []⟩) (fun _ R s => s.heap.IsTuple l items ∧
      R (.ok (.ret (.ref (s.heap.push { cls := .type "tuple_iterator", data := .fields #[.ref l, .int 0 0] }).objs.size)))
        { s with heap := (s.heap.push { cls := .type "tuple_iterator", data := .fields #[.ref l, .int 0 0] }).push { cls := .type "enumerate", data := .fields #[.none, .bool false, .ref s.heap.objs.size, rawInt 0, .none, .none] } }) :=
  .of_wp fun prog w A R s h => by
    obtain ⟨hp, g, d, tk, os⟩ := s; obtain ⟨h1, h⟩ := h
    have hsub := sub_enumerate
    have q1 : ∀ {A' : Around} {E : Value → Shared → Prop} {Q : Value → Shared → Prop}, Q (.ref hp.objs.size) ⟨hp.push { cls := .type "tuple_iterator", data := .fields #[.ref l, .int 0 0] }, g, d, tk, os⟩ → wpAny (model prog w) A' (pyIter (.ref l)) Q E ⟨hp, g, d, tk, os⟩ :=
      fun q => wpAny_pyIter_tuple (s := ⟨hp, g, d, tk, os⟩) h1 q
    wp_walk using q1
    refine wpAny_stack_any fun st => wpAny_pure ?_
    split
    · rename_i c _ _ _ _ _
      cases (c == Value.type "enumerate")
      · wp_walk using q1
        exact ⟨_, rfl, h⟩
      · wp_walk using q1
        exact ⟨_, rfl, h⟩
    · wp_walk using q1
      exact ⟨_, rfl, h⟩
theorem call_enumT {prog : Program} {w : World} {A : Around} {E : Value → Shared → Prop} {s : Shared} {l : Addr} {items : Array Value} {Q : Value → Shared → Prop} (hL : s.heap.IsTuple l items)
    (h : ∀ h', IsEnum h' (s.heap.objs.size + 1) s.heap.objs.size 0 .none → h'.IsTupleIter s.heap.objs.size l 0 → h'.objs.size = s.heap.objs.size + 2 →
      (∀ b o, s.heap.get? b = some o → h'.get? b = some o) → Q (.ref (s.heap.objs.size + 1)) { s with heap := h' }) :
    wpAny (model prog w) A (call (.type "enumerate") [.ref l]) Q E s := by
  refine callType_new F.called_enumerate (by decide) (F.typeCall_enumerate_1 _) (F.newCall_enumerate_1 _) (fun obj => F.args_object_init_2 obj _) F.entry_enumerate_new
    (meets_enum_newT l items) ⟨hL, ?_⟩
  have hz : (s.heap.push { cls := .type "tuple_iterator", data := .fields #[.ref l, .int 0 0] }).objs.size = s.heap.objs.size + 1 := Heap.size_push ..
  show _ ∧ _
  rw [hz]
  have he : IsEnum ((s.heap.push { cls := .type "tuple_iterator", data := .fields #[.ref l, .int 0 0] }).push
      { cls := .type "enumerate", data := .fields #[.none, .bool false, .ref s.heap.objs.size, rawInt 0, .none, .none] }) (s.heap.objs.size + 1) s.heap.objs.size 0 .none := by
    have := Heap.get?_push_size (s.heap.push { cls := .type "tuple_iterator", data := .fields #[.ref l, .int 0 0] })
      (o := { cls := .type "enumerate", data := .fields #[.none, .bool false, .ref s.heap.objs.size, rawInt 0, .none, .none] }) rfl
    rw [hz] at this; exact this
  refine ⟨⟨_, he, rfl⟩, h _ he ⟨_, Heap.get?_push_of_some _ (Heap.get?_push_size _ rfl), rfl, rfl⟩ (by rw [Heap.size_push, hz]) fun b o x => Heap.get?_push_of_some _ (Heap.get?_push_of_some _ x)⟩
def iEnumT (K : Fg) (ta : TA) : TI := fun σ H R => ta σ H fun vs H1 => ∃ a xs, vs = [.ref a] ∧ SqT K H1 a xs ∧ R (IteT K a) H1
theorem pi_enumT {X : Cx} {e : Expr} {ta : TA} {p pos tpos : Pos} {elts : List Expr} {kk : Nat} (hg : Gl X "enumerate") (hm : X.mg "enumerate" = none) (ha : PA X [e] ta) (hs : starEach [e] X.env = [(false, eval e X.env)] := by rfl) :
    PI X (.Tuple elts kk tpos) (.Call (.Name "enumerate" p) [e] [] pos) (iEnumT X.K ta) := by
  refine ⟨fun pins s σ H R I h => ?_⟩
  refine PyProof.Rows.Call_ (ld_blt I hg hm PyProof.Rows.boot_enumerate (PyProof.Rows.callWith_type1 (thn (ha.run pos pins s σ H _ I h) fun us s1 ⟨vs, H1, I1, r1, q1⟩ => ?_) hs rfl))
  obtain ⟨a, xs, ex, hq, q⟩ := q1
  subst ex
  cases r1 with
  | cons r rr =>
    cases rr
    cases r
    obtain ⟨its, rv, p', hz⟩ := I1.tuple hq
    have hal : a < s1.heap.objs.size := by obtain ⟨_, q, _⟩ := p'; exact Heap.lt_size q
    refine call_enumT (show s1.heap.IsTuple a its.toArray from p') fun h' he hit hsz hk => wpAny_pyIter_enum he ?_
    have I2 : Inv X pins σ H1 { s1 with heap := h' } := I1.kept (t' := s1.toks) hk
    refine ⟨s1.heap.objs.size + 1, [s1.heap.objs.size + 1, s1.heap.objs.size], _, _, H1, rfl, I2, turn_enumT a (s1.heap.objs.size + 1) s1.heap.objs.size, ⟨⟨.none, he⟩, hit, Nat.succ_ne_self _, Nat.ne_of_lt (Nat.lt_succ_of_lt hal), Nat.ne_of_lt hal⟩, fun b hb => ?_, q⟩
    have e' : b = s1.heap.objs.size + 1 ∨ b = s1.heap.objs.size := by simpa using hb
    have hle : s1.heap.objs.size ≤ b := by
      rcases e' with z | z
      · rw [z]; exact Nat.le_add_right _ _
      · rw [z]; exact Nat.le_refl _
    exact I1.fpOk hle (I1.hok.fresh hle)
section
variable {K : Fg} {x : Fx} {W : WX} {X : Cx} {σ : L2.St} {H : Hp} {tg : Expr}
theorem PI.imp {e : Expr} {t t' : TI} (h : PI X tg e t) (i : ∀ σ H R, t' σ H R → t σ H R) : PI X tg e t' := ⟨fun pins s σ H R I q => h.run pins s σ H R I (i σ H R q)⟩
theorem PI.all {e : Expr} {P : TI → Prop} (h : ∀ t, P t → PI X tg e t) : PI X tg e (fun σ H R => ∃ t, P t ∧ t σ H R) := ⟨fun pins s σ H R I ⟨t, p, q⟩ => (h t p).run pins s σ H R I q⟩
/-- what a for over a value walks over -/
def itV : D → Option (List D)
  | .lst xs => some xs
  | .tup _ xs => some xs
  | .scr is => some (is.map D.int)
  | .str z => some (z.cps.toList.map fun c => .str ⟨#[c]⟩)
  | _ => none
section
variable {cs : List Addr} {B : Hp}
theorem it_at {a : Addr} {vs : List V} {xs : List D} {J : It} {S : Hp → Prop} (w : Walk J vs.length S (YAt vs)) (g : ∀ H, Sme B H → S H) (r : RpL K x.ca cs B vs xs) : ItR K x cs B xs J := by
  refine ⟨S, YAt vs, r.len ▸ w, g, fun i d B3 H3 v H4 hd sb ss hy => ?_⟩
  obtain ⟨rfl, hv⟩ := hy
  refine ⟨B3, Gr.refl ss, fun cs' pr => ?_⟩
  obtain ⟨v', h1, h2⟩ := r.get hd
  rw [hv] at h1; cases h1
  exact h2.mono sb pr
theorem it_pair {vs ws : Nat → Option V} {xs ys : Nat → D} {n : Nat} {J : It} {S : Hp → Prop} {zs : List D} (hn : zs.length = n) (w : Walk J n S (YPair vs ws)) (g : ∀ H, Sme B H → S H) (hz : ∀ (i : Nat) (d : D), zs[i]? = some d → d = D.tup false [xs i, ys i]) (h1 : ∀ i v, i < n → vs i = some v → Rp K x.ca cs B v (xs i)) (h2 : ∀ i v, i < n → ws i = some v → Rp K x.ca cs B v (ys i)) : ItR K x cs B zs J := by
  refine ⟨S, YPair vs ws, hn ▸ w, g, fun i d B3 H3 v H4 hd sb ss hy => ?_⟩
  obtain ⟨T, a, b, rfl, hT, rfl, ha, hb⟩ := hy
  have hi : i < n := by rw [← hn]; exact (List.getElem?_eq_some_iff.mp hd).1
  have ga := Gr.alloc (T := x.T) (o := .tup [a, b]) ss hT
  refine ⟨_, ga, fun cs' pr => ?_⟩
  rw [hz i d hd]
  exact .tup upd_same (.cons ((h1 i a hi ha).mono (sb.trans ga.b) pr) (.cons ((h2 i b hi hb).mono (sb.trans ga.b) pr) .nil))
theorem it_fn {f : Nat → V} {g : Nat → D} {n : Nat} {J : It} {zs : List D} (hn : zs.length = n) (w : Walk J n (fun _ => True) (YFn f)) (hz : ∀ (i : Nat) (d : D), zs[i]? = some d → d = g i) (h : ∀ i cs B, Rp K x.ca cs B (f i) (g i)) : ItR K x cs B zs J := by
  refine ⟨_, _, hn ▸ w, fun _ _ => trivial, fun i d B3 H3 v H4 hd sb ss hy => ?_⟩
  obtain ⟨rfl, rfl⟩ := hy
  exact ⟨B3, Gr.refl ss, fun cs' _ => by rw [hz i d hd]; exact h i cs' B3⟩
end
theorem it_lst {cs : List Addr} {B H : Hp} {v : V} {xs : List D} (s : Sme B H) (r : Rp K x.ca cs B v (.lst xs)) : ∃ a, v = .ref a ∧ (∃ vs, SqL K H a vs) ∧ ItR K x cs B xs (Itl K a) := by
  cases r with
  | @lst a vs _ h r => exact ⟨a, rfl, ⟨vs, SqL.of (s.lst h)⟩, it_at (a := a) walk_list (fun H s => SqL.of (s.lst h)) r⟩
theorem rpl_ints {ca : Str → Addr} {cs : List Addr} {B : Hp} : ∀ (is : List Int), RpL K ca cs B (is.map V.int) (is.map D.int)
  | [] => .nil
  | i :: is => .cons (.int i) (rpl_ints is)
theorem it_scr {cs : List Addr} {B H : Hp} {v : V} {xs : List Int} (s : Sme B H) (r : Rp K x.ca cs B v (.scr xs)) : ∃ a, v = .ref a ∧ (∃ vs, SqL K H a vs) ∧ ItR K x cs B (xs.map D.int) (Itl K a) := by
  cases r with
  | @scr a _ h => exact ⟨a, rfl, ⟨_, sql_mono s h⟩, it_at (a := a) walk_list (fun H s => sql_mono s h) (rpl_ints xs)⟩
theorem it_tup {cs : List Addr} {B H : Hp} {v : V} {m : Bool} {xs : List D} (s : Sme B H) (r : Rp K x.ca cs B v (.tup m xs)) : ∃ a, v = .ref a ∧ (∃ vs, SqT K H a vs) ∧ ItR K x cs B xs (Itt K a) := by
  obtain ⟨a, vs, rfl, e0, e1, e2⟩ := Lk.tup s (.inl r)
  exact ⟨a, rfl, ⟨vs, e1⟩, it_at (a := a) walk_tup (fun H s => sqt_mono s e0) e2⟩
theorem it_str {cs : List Addr} {B : Hp} {z : Str} : ItR K x cs B (z.cps.toList.map fun c => .str ⟨#[c]⟩) (Its z) := by
  refine ⟨_, _, (by rw [List.length_map, Array.length_toList]; exact walk_str), fun _ _ => trivial, fun i d B3 H3 v H4 hd sb ss hy => ?_⟩
  obtain ⟨rfl, c, hc, rfl⟩ := hy
  refine ⟨B3, Gr.refl ss, fun cs' _ => ?_⟩
  rw [List.getElem?_map, Array.getElem?_toList, hc] at hd
  cases hd
  exact .str _
def iterV (m : M D) : M (List D) := m.bind fun d => M.lift (itV d)
theorem pi_val {e : Expr} {m : M D} (h : PE X e (tV X.K x W m)) : PI X tg e (tI X.K x W (iterV m)) :=
  PI.imp (PI.all (P := fun t => t = iList X.K (tV X.K x W m) ∨ t = iTup X.K (tV X.K x W m) ∨ t = iStr (tV X.K x W m)) fun t ht => by
    rcases ht with rfl | rfl | rfl
    · exact pi_list h
    · exact pi_tup h
    · exact pi_str h) fun σ H R ⟨env, st, cs, B, hs, ho⟩ => by
    have ho := outG.bind ho
    cases hm : m env st with
    | stuck => rw [hm] at ho; exact ho.elim
    | exn c fs e' s' => rw [hm] at ho; exact ⟨_, .inl rfl, env, st, cs, B, hs, by rw [hm]; exact ho⟩
    | ok d e1 s1 =>
      rw [hm] at ho
      obtain ⟨xs, hx, k⟩ := outG.lift ho.now
      have key : ∀ cs1 B1 J H1, Sme B B1 → Pre cs cs1 → SX X.K x e1 s1 cs1 σ B1 H1 → ItR X.K x cs1 B1 xs J → R J H1 := fun cs1 B1 J H1 sb pr sx ir => by
        have h := (show outG X.K x W σ cs1 B1 (M.lift (itV d) e1 s1) (qI X.K x σ R) from ho cs1 B1 sb pr)
        rw [hx] at h
        exact h.now J H1 sx ir
      cases d with
      | lst ys =>
        cases hx
        refine ⟨_, .inl rfl, env, st, cs, B, hs, ?_⟩
        rw [hm]
        intro cs1 B1 sb pr v H1 sx rp
        obtain ⟨a, e, q, ir⟩ := it_lst sx.s rp
        exact ⟨a, e, q, key cs1 B1 _ H1 sb pr sx ir⟩
      | scr ys =>
        cases hx
        refine ⟨_, .inl rfl, env, st, cs, B, hs, ?_⟩
        rw [hm]
        intro cs1 B1 sb pr v H1 sx rp
        obtain ⟨a, e, q, ir⟩ := it_scr sx.s rp
        exact ⟨a, e, q, key cs1 B1 _ H1 sb pr sx ir⟩
      | tup mm ys =>
        cases hx
        refine ⟨_, .inr (.inl rfl), env, st, cs, B, hs, ?_⟩
        rw [hm]
        intro cs1 B1 sb pr v H1 sx rp
        obtain ⟨a, e, q, ir⟩ := it_tup sx.s rp
        exact ⟨a, e, q, key cs1 B1 _ H1 sb pr sx ir⟩
      | str z =>
        cases hx
        refine ⟨_, .inr (.inr rfl), env, st, cs, B, hs, ?_⟩
        rw [hm]
        intro cs1 B1 sb pr v H1 sx rp
        cases rp
        exact ⟨z, rfl, key cs1 B1 _ H1 sb pr sx it_str⟩
      | _ => cases hx
/-- the first thing that an iterable of arguments says of them -/
def SoundI (K : Fg) (x : Fx) (rr : List V → Hp → (It → Hp → Prop) → Prop) (ds xs : List D) : Prop := ∀ (cs : List Addr) (B H : Hp) (vs : List V) (R : It → Hp → Prop), Sme B H → RpL K x.ca cs B vs ds → (∀ J, ItR K x cs B xs J → R J H) → rr vs H R
def iCall (rr : List V → Hp → (It → Hp → Prop) → Prop) (ta : TA) : TI := fun σ H R => ta σ H fun vs H1 => rr vs H1 R
def iterA (f : List D → Option (List D)) (m : M (List D)) : M (List D) := m.bind fun ds => M.lift (f ds)
theorem pi_call {e : Expr} {f : List D → Option (List D)} {m : M (List D)} (P : (List V → Hp → (It → Hp → Prop) → Prop) → Prop) (h0 : ∃ rr, P rr) (hP : ∀ rr, P rr → PI X tg e (iCall rr (tA X.K x W m))) (hf : ∀ ds xs, f ds = some xs → ∃ rr, P rr ∧ SoundI X.K x rr ds xs) : PI X tg e (tI X.K x W (iterA f m)) :=
  PI.imp (PI.all (P := fun t => ∃ rr, P rr ∧ t = iCall rr (tA X.K x W m)) fun t ⟨rr, h1, h2⟩ => by subst h2; exact hP rr h1) fun σ H R ⟨env, st, cs, B, hs, ho⟩ => by
    obtain ⟨rr0, hrr0⟩ := h0
    have ho := outG.bind ho
    cases hm : m env st with
    | stuck => rw [hm] at ho; exact ho.elim
    | exn c fs e' s' => rw [hm] at ho; exact ⟨_, ⟨rr0, hrr0, rfl⟩, env, st, cs, B, hs, by rw [hm]; exact ho⟩
    | ok ds e1 s1 =>
      rw [hm] at ho
      obtain ⟨xs, hx, k⟩ := outG.lift ho.now
      obtain ⟨rr, h1, h2⟩ := hf ds xs hx
      refine ⟨_, ⟨rr, h1, rfl⟩, env, st, cs, B, hs, ?_⟩
      rw [hm]
      intro cs1 B1 sb pr vs H1 sx rp
      have h := (show outG X.K x W σ cs1 B1 (M.lift (f ds) e1 s1) (qI X.K x σ R) from ho cs1 B1 sb pr)
      rw [hx] at h
      exact h2 cs1 B1 H1 vs R sx.s rp fun J ir => h.now J H1 sx ir
def rngL (lo : Int) (n : Nat) : List D := (List.range n).map fun i => .int (lo + (i : Nat))
theorem it_rng {cs : List Addr} {B : Hp} {lo : Int} {n : Nat} : ItR K x cs B (rngL lo n) (Itr lo n) :=
  it_fn (g := fun i => .int (lo + (i : Nat))) (by unfold rngL; simp) walk_range (fun i d hd => by
    unfold rngL at hd
    rw [List.getElem?_map] at hd
    obtain ⟨j, h1, h2⟩ := Option.map_eq_some_iff.mp hd
    obtain ⟨_, h3⟩ := List.getElem?_eq_some_iff.mp h1
    rw [List.getElem_range] at h3
    rw [← h2, ← h3]) fun i cs B => .int _
def bnd (i : Int) : Bool := decide (-(2 ^ 62) ≤ i) && decide (i < 2 ^ 62)
theorem bnd_ok {i : Int} (h : bnd i = true) : -(2 ^ 62) ≤ i ∧ i < 2 ^ 62 := by
  unfold bnd at h
  rw [Bool.and_eq_true] at h
  exact ⟨of_decide_eq_true h.1, of_decide_eq_true h.2⟩
def rngF1 : List D → Option (List D)
  | [.int j] => if bnd j then some (rngL 0 j.toNat) else none
  | _ => none
def rngF2 : List D → Option (List D)
  | [.int i, .int j] => if bnd i && bnd j then some (rngL i (j - i).toNat) else none
  | _ => none
theorem nst2 {a b : Expr} {env : PySem.Env} (h1 : nst a = true) (h2 : nst b = true) : starEach [a, b] env = [(false, eval a env), (false, eval b env)] := by
  rw [nst_ok h1, nst_ok h2]; rfl
theorem pi_rng1 {a : Expr} {m : M (List D)} {p pos : Pos} (hg : Gl X "range") (hm : X.mg "range" = none) (hs : nst a = true) (ha : PA X [a] (tA X.K x W m)) : PI X tg (.Call (.Name "range" p) [a] [] pos) (tI X.K x W (iterA rngF1 m)) := by
  refine PI.imp (pi_range1 hg hm ha (nst_ok hs)) fun σ H R ⟨env, st, cs, B, hs, ho⟩ => ⟨env, st, cs, B, hs, (outG.bind ho).imp fun ds e s cs1 B1 k vs H1 sx rp => ?_⟩
  obtain ⟨xs, hx, k⟩ := outG.lift k
  unfold rngF1 at hx
  split at hx
  · rename_i j
    split at hx
    · rename_i hb
      cases hx
      obtain ⟨b1, b2⟩ := bnd_ok hb
      cases rp with
      | cons r rr =>
        cases rr; cases r
        exact ⟨j, rfl, b1, b2, k _ H1 sx it_rng⟩
    · cases hx
  · cases hx
theorem pi_rng2 {a b : Expr} {m : M (List D)} {p pos : Pos} (hg : Gl X "range") (hm : X.mg "range" = none) (h1 : nst a = true) (h2 : nst b = true) (ha : PA X [a, b] (tA X.K x W m)) : PI X tg (.Call (.Name "range" p) [a, b] [] pos) (tI X.K x W (iterA rngF2 m)) := by
  refine PI.imp (pi_range2 hg hm ha (nst2 h1 h2) (nst_ok h2)) fun σ H R ⟨env, st, cs, B, hs, ho⟩ => ⟨env, st, cs, B, hs, (outG.bind ho).imp fun ds e s cs1 B1 k vs H1 sx rp => ?_⟩
  obtain ⟨xs, hx, k⟩ := outG.lift k
  unfold rngF2 at hx
  split at hx
  · rename_i i j
    split at hx
    · rename_i hb
      cases hx
      rw [Bool.and_eq_true] at hb
      obtain ⟨b1, b2⟩ := bnd_ok hb.1
      obtain ⟨b3, b4⟩ := bnd_ok hb.2
      cases rp with
      | cons r rr =>
        cases rr with
        | cons r2 rr =>
          cases rr; cases r; cases r2
          exact ⟨i, j, rfl, ⟨b1, b2, b3, b4⟩, k _ H1 sx it_rng⟩
    · cases hx
  · cases hx
def enuL (xs : List D) : List D := xs.mapIdx fun i d => .tup false [.int (i : Nat), d]
def enuF : List D → Option (List D)
  | [.lst xs] => some (enuL xs)
  | [.tup _ xs] => some (enuL xs)
  | _ => none
theorem it_enu {cs : List Addr} {B : Hp} {vs : List V} {xs : List D} {J : It} {S : Hp → Prop} (w : Walk J vs.length S (YPair (fun i => some (.int (i : Nat))) (fun i => vs[i]?))) (g : ∀ H, Sme B H → S H) (r : RpL K x.ca cs B vs xs) : ItR K x cs B (enuL xs) J := by
  refine it_pair (xs := fun i => .int (i : Nat)) (ys := fun i => xs[i]?.getD .non) (by unfold enuL; rw [List.length_mapIdx, r.len]) w g (fun i d hd => ?_) (fun i v _ hv => by cases hv; exact .int _) fun i v hi hv => ?_
  · unfold enuL at hd
    rw [List.getElem?_mapIdx] at hd
    obtain ⟨y, h1, h2⟩ := Option.map_eq_some_iff.mp hd
    rw [h1]; exact h2.symm
  · rw [r.len] at hi
    obtain ⟨v', h1, h2⟩ := r.get (i := i) (d := xs[i]) (by simp [hi])
    rw [hv] at h1; cases h1
    simpa [hi] using h2
theorem pi_enu {e : Expr} {m : M (List D)} {p pos tpos : Pos} {elts : List Expr} {kk : Nat} (hg : Gl X "enumerate") (hm : X.mg "enumerate" = none) (hs : nst e = true) (ha : PA X [e] (tA X.K x W m)) : PI X (.Tuple elts kk tpos) (.Call (.Name "enumerate" p) [e] [] pos) (tI X.K x W (iterA enuF m)) :=
  pi_call (fun rr => PI X (.Tuple elts kk tpos) (.Call (.Name "enumerate" p) [e] [] pos) (iCall rr (tA X.K x W m))) ⟨_, pi_enum hg hm ha (nst_ok hs)⟩ (fun _ h => h) fun ds xs hx => by
    unfold enuF at hx
    split at hx
    · rename_i ys
      cases hx
      refine ⟨_, pi_enum hg hm ha (nst_ok hs), fun cs B H vs R s rp k => ?_⟩
      cases rp with
      | cons r rr =>
        cases rr
        cases r with
        | @lst a vs _ h r => exact ⟨a, vs, rfl, SqL.of (s.lst h), k _ (it_enu walk_enum (fun H s => SqL.of (s.lst h)) r)⟩
    · rename_i mm ys
      cases hx
      refine ⟨_, pi_enumT hg hm ha (nst_ok hs), fun cs B H vs R s rp k => ?_⟩
      cases rp with
      | cons r rr =>
        cases rr
        obtain ⟨a, vs, rfl, e0, e1, e2⟩ := Lk.tup s (.inl r)
        exact ⟨a, vs, rfl, e1, k _ (it_enu walk_enumT (fun H s => sqt_mono s e0) e2)⟩
    · cases hx
def zipL (xs ys : List D) : List D := List.zipWith (fun a b => .tup false [a, b]) xs ys
def zipF : List D → Option (List D)
  | [.lst xs, .lst ys] => some (zipL xs ys)
  | [.tup _ xs, .tup _ ys] => some (zipL xs ys)
  | _ => none
def revF : D → Option (List D)
  | .lst xs => some xs.reverse
  | .tup _ xs => some xs.reverse
  | _ => none
def iterR (m : M D) : M (List D) := m.bind fun d => M.lift (revF d)
end
end Dn
end
section
set_option maxHeartbeats 200000
namespace Dn
open PySem L2
def Fx.pre (x : Fx) (p : Addr) (o : HO) : Fx := { x with H0 := upd x.H0 p o }
section
variable {K : Fg} {x : Fx} {env : Env} {st : List D} {cs : List Addr} {σ : L2.St} {B H : Hp}
theorem pre_same {p : Addr} {o : HO} : (x.pre p o).H0 p = some o := upd_same
theorem pre_ne {p a : Addr} {o : HO} (e : a ≠ p) : (x.pre p o).H0 a = x.H0 a := upd_ne e
structure Out0 (x : Fx) (p : Addr) : Prop where
  h : x.H0 p = none
  b : x.B0 p = none
  c : p ∉ x.cs0
/-- what the hidden list says -/
theorem SR.hid {p : Addr} {vs : List V} {ows : List Addr} (o0 : Out0 x p) (h : SR K (x.pre p (.lst vs)) env st cs ows σ B H) : H p = some (.lst vs) ∧ B p = none ∧ p ∉ ows ++ cs := by
  have e0 : (x.pre p (.lst vs)).H0 p = some (.lst vs) := pre_same
  refine ⟨?_, h.g.n p ⟨_, e0, fun _ z => nomatch z⟩ o0.b, fun z => ?_⟩
  · rcases h.g.h p _ o0.c e0 with z | ⟨_, _, z, _⟩ | ⟨z, _⟩
    · exact z
    · cases z
    · exact z.elim
  · rcases List.mem_append.mp z with z | z
    · have := h.fo p z; rw [e0] at this; cases this
    · have := h.fc p z o0.c; rw [e0] at this; cases this
theorem SX.hid {p : Addr} {vs : List V} (o0 : Out0 x p) (h : SX K (x.pre p (.lst vs)) env st cs σ B H) : H p = some (.lst vs) ∧ B p = none := by
  obtain ⟨ows, h⟩ := h
  exact ⟨(h.hid o0).1, (h.hid o0).2.1⟩
/-- a list of one's own, kept apart -/
theorem SX.begin {p : Addr} (h : SX K x env st cs σ B H) (hp : H p = none) : Out0 x p ∧ SX K (x.pre p (.lst [])) env st cs σ B (upd H p (.lst [])) := by
  have hs := h.s
  obtain ⟨ows, h⟩ := h
  have n0 : x.H0 p = none := h.g.fresh0 h.live0 hp
  have nm : p ∉ ows ++ cs := fun z => by
    rcases List.mem_append.mp z with z | z
    · exact (en_live h.en p z).ne hp
    · exact (ce_live h.ce p z).ne hp
  have nb : B p = none := free_b hs hp
  have nc : p ∉ x.cs0 := fun z => (h.live0 p z).ne hp
  have g := Gr.own (T := x.T) (o := .lst []) hs hp
  have kp : ∀ q, Kp B H B (upd H p (.lst [])) q := fun q => g.kp (by simp)
  refine ⟨⟨n0, h.g.b.free nb, nc⟩, ows, ⟨⟨h.g.b, fun a o ha ho => ?_, g.s, fun a ha hb => ?_, fun _ => g.t h.tb, fun q hq _ => g.stay (h.live0 q hq)⟩, g.t h.tb, h.en.keep (Sme.refl B) (Pre.refl _) fun q _ => kp q, ce_keep h.ce (Sme.refl B) (Pre.refl _) fun q _ => kp q, h.nd, h.pr, fun q hq => ?_, fun q hq hq2 => ?_⟩⟩
  · by_cases e : a = p
    · subst e
      rw [pre_same] at ho; cases ho
      exact .inl upd_same
    · rw [pre_ne e] at ho
      rw [upd_ne e]
      exact h.g.h a o ha ho
  · by_cases e : a = p
    · subst e; exact nb
    · rw [pre_ne e] at ha
      exact h.g.n a ha hb
  · have e : q ≠ p := fun z => nm (by rw [← z]; simp [hq])
    rw [pre_ne e]; exact h.fo q hq
  · have e : q ≠ p := fun z => nm (by rw [← z]; simp [hq])
    rw [pre_ne e]; exact h.fc q hq hq2
theorem SX.app {p : Addr} {vs ws : List V} (o0 : Out0 x p) (h : SX K (x.pre p (.lst vs)) env st cs σ B H) : SX K (x.pre p (.lst ws)) env st cs σ B (upd H p (.lst ws)) := by
  obtain ⟨ows, h⟩ := h
  obtain ⟨hp, hb, nm⟩ := h.hid o0
  have g := Gr.mut (T := x.T) (o := .lst ws) h.s hb (by rw [hp]; exact trivial) (fun _ z => nomatch z)
  have kp : ∀ q ∈ ows ++ cs, Kp B H B (upd H p (.lst ws)) q := fun q hq => g.kp (by
    intro z
    have : q = p := by simpa using z
    exact nm (by rw [← this]; exact hq))
  refine ⟨ows, ⟨⟨h.g.b, fun a o ha ho => ?_, g.s, fun a ha hb' => ?_, fun _ => g.t h.tb, fun q hq _ => g.stay (h.live0 q hq)⟩, g.t h.tb, h.en.keep (Sme.refl B) (Pre.refl _) fun q hq => kp q (by simp [hq]), ce_keep h.ce (Sme.refl B) (Pre.refl _) fun q hq => kp q (by simp [hq]), h.nd, h.pr, fun q hq => ?_, fun q hq hq2 => ?_⟩⟩
  · by_cases e : a = p
    · subst e
      rw [pre_same] at ho; cases ho
      exact .inl upd_same
    · rw [pre_ne e] at ho
      rw [upd_ne e]
      exact h.g.h a o ha (by rw [pre_ne e]; exact ho)
  · by_cases e : a = p
    · subst e; exact hb
    · rw [pre_ne e] at ha
      exact h.g.n a (by rw [pre_ne e]; exact ha) hb'
  · have e : q ≠ p := fun z => nm (by rw [← z]; simp [hq])
    rw [pre_ne e, ← pre_ne (o := .lst vs) e]; exact h.fo q hq
  · have e : q ≠ p := fun z => nm (by rw [← z]; simp [hq])
    rw [pre_ne e, ← pre_ne (o := .lst vs) e]; exact h.fc q hq hq2
/-- at last it is one's own -/
theorem SX.fin {p : Addr} {vs : List V} {xs : List D} (o0 : Out0 x p) (h : SX K (x.pre p (.lst vs)) env st cs σ B H) (r : RpL K x.ca cs B vs xs) : SX K x (.ow (.lst xs) :: env) st cs (some (.ref p) :: σ) B H := by
  obtain ⟨ows, h⟩ := h
  obtain ⟨hp, hb, nm⟩ := h.hid o0
  refine ⟨[p] ++ ows, ⟨⟨h.g.b, fun a o ha ho => ?_, h.g.s, fun a ha hb' => ?_, fun _ => h.tb, fun q hq _ => h.live0 q hq⟩, h.tb, .cons ⟨p, rfl, rfl, vs, hp, hb, r⟩ h.en, h.ce, ?_, h.pr, fun q hq => ?_, fun q hq hq2 => ?_⟩⟩
  · have e : a ≠ p := ne_of_none ho o0.h
    exact h.g.h a o ha (by rw [pre_ne e]; exact ho)
  · have e : a ≠ p := fun z => ha.ne (by rw [z]; exact o0.h)
    exact h.g.n a (by rw [pre_ne e]; exact ha) hb'
  · rw [List.append_assoc]
    exact List.nodup_cons.mpr ⟨nm, h.nd⟩
  · rcases List.mem_append.mp hq with z | z
    · have : q = p := by simpa using z
      rw [this]; exact o0.h
    · have e : q ≠ p := fun z' => nm (by rw [← z']; simp [z])
      rw [← pre_ne (o := .lst vs) e]; exact h.fo q z
  · have e : q ≠ p := fun z => nm (by rw [← z]; simp [hq])
    rw [← pre_ne (o := .lst vs) e]; exact h.fc q hq hq2
def frzE : List Nat → Env → Env
  | [], e => e
  | i :: is, e => match e[i]? with
    | some (.ow d) => frzE is (e.set i (.fz d))
    | some (.sf _ _) => frzE is (e.set i .un)
    | _ => frzE is e
def wipeE : List Nat → Env → Env
  | [], e => e
  | i :: is, e => (wipeE is e).set i .un
def restE (e0 : Env) : List Nat → Env → Env
  | [], e => e
  | i :: is, e => restE e0 is (e.set i (e0[i]?.getD .un))
theorem SX.frzE : ∀ (is : List Nat) {env : Env} {B : Hp}, SX K x env st cs σ B H → ∃ B', Sme B B' ∧ SX K x (Dn.frzE is env) st cs σ B' H
  | [], _, B, h => ⟨B, Sme.refl B, h⟩
  | i :: is, env, B, h => by
    unfold Dn.frzE
    split
    · rename_i d hd
      obtain ⟨B1, s1, h1⟩ := h.frz hd
      obtain ⟨B2, s2, h2⟩ := SX.frzE is h1
      exact ⟨B2, s1.trans s2, h2⟩
    · rename_i p d hd
      obtain ⟨w, hw, _⟩ := h.at hd
      have h1 := h.unset i (w := w)
      rw [show σ.set i w = σ from by
        apply List.ext_getElem?
        intro j
        by_cases q : i = j
        · subst q; rw [List.getElem?_set_self (List.getElem?_eq_some_iff.mp hw).1, hw]
        · rw [List.getElem?_set_ne q]] at h1
      exact SX.frzE is h1
    · exact SX.frzE is h
def isOw : Sl → Bool
  | .ow _ => true
  | .sf _ _ => true
  | _ => false
def noOw (is : List Nat) (e : Env) : Prop := ∀ i ∈ is, ∀ r, e[i]? = some r → isOw r = false
theorem noOw_set {is : List Nat} {e : Env} {j : Nat} {r : Sl} (hr : isOw r = false) (h : noOw is e) : noOw is (e.set j r) := fun i hi d' z => by
  by_cases q : j = i
  · subst q
    by_cases hl : j < e.length
    · rw [List.getElem?_set_self hl] at z; cases z; exact hr
    · rw [List.getElem?_eq_none (by simp; omega)] at z; cases z
  · rw [List.getElem?_set_ne q] at z
    exact h i hi d' z
theorem frzE_keep {js : List Nat} : ∀ (is : List Nat) {e : Env}, noOw js e → noOw js (Dn.frzE is e)
  | [], _, h => h
  | i :: is, e, h => by
    unfold Dn.frzE
    split
    · exact frzE_keep is (noOw_set rfl h)
    · exact frzE_keep is (noOw_set rfl h)
    · exact frzE_keep is h
theorem frzE_no : ∀ (is : List Nat) (e : Env), noOw is (Dn.frzE is e)
  | [], _ => fun i hi => nomatch hi
  | i :: is, e => by
    have key : ∀ e', noOw [i] e' → noOw (i :: is) (Dn.frzE is e') := fun e' h j hj => by
      rcases List.mem_cons.mp hj with q | q
      · subst q; exact frzE_keep is h j (by simp)
      · exact frzE_no is e' j q
    unfold Dn.frzE
    split
    · rename_i d hd
      refine key _ fun j hj d' z => ?_
      have : j = i := by simpa using hj
      subst this
      have hl := (List.getElem?_eq_some_iff.mp hd).1
      rw [List.getElem?_set_self hl] at z; cases z; rfl
    · rename_i p d hd
      refine key _ fun j hj d' z => ?_
      have : j = i := by simpa using hj
      subst this
      have hl := (List.getElem?_eq_some_iff.mp hd).1
      rw [List.getElem?_set_self hl] at z; cases z; rfl
    · rename_i hn hn2
      refine key _ fun j hj d' z => ?_
      have : j = i := by simpa using hj
      subst this
      cases d' with
      | ow d => exact absurd z (hn d)
      | sf p d => exact absurd z (hn2 p d)
      | _ => rfl
theorem SX.wipeE : ∀ (is : List Nat), SX K x env st cs σ B H → SX K x (Dn.wipeE is env) st cs (wipe σ is) B H
  | [], h => h
  | i :: is, h => (SX.wipeE is h).unset i
theorem wipe_ne {σ : L2.St} {i : Nat} : ∀ {vs : List Nat}, i ∉ vs → (wipe σ vs)[i]? = σ[i]?
  | [], _ => rfl
  | v :: vs, h => by
    unfold wipe
    rw [List.getElem?_set_ne (fun z => h (by simp [z]))]
    exact wipe_ne fun z => h (by simp [z])
theorem set_get {α : Type} {l : List α} {i : Nat} {w a : α} (h : l[i]? = some w) : (l.set i a).set i w = l := by
  apply List.ext_getElem?
  intro j
  by_cases q : i = j
  · subst q
    have hl := (List.getElem?_eq_some_iff.mp h).1
    rw [List.getElem?_set_self (by simpa using hl), h]
  · rw [List.getElem?_set_ne q, List.getElem?_set_ne q]
theorem SX.restE {x0 : Fx} {e0 : Env} {cs0 : List Addr} {B0 H0 : Hp} {st0 : List D} (hca : x0.ca = x.ca) (h0 : SX K x0 e0 st0 cs0 σ B0 H0) (b : Sme B0 B) (pr : Pre cs0 cs) : ∀ (is : List Nat) {env : Env}, is.Nodup → noOw is e0 → SX K x env st cs (wipe σ is) B H → SX K x (Dn.restE e0 is env) st cs σ B H
  | [], _, _, _, h => h
  | i :: is, env, nd, no, h => by
    rw [List.nodup_cons] at nd
    have h' : SX K x env st cs ((wipe σ is).set i none) B H := h
    refine SX.restE hca h0 b pr is nd.2 (fun j hj => no j (by simp [hj])) ?_
    cases he : e0[i]? with
    | none =>
      have hl : σ.length ≤ i := by rw [← h0.len]; exact List.getElem?_eq_none_iff.mp he
      have hl2 : env.length ≤ i := by rw [h'.len, List.length_set, wipe_length]; exact hl
      rw [List.set_eq_of_length_le hl2]
      rw [List.set_eq_of_length_le (by rw [wipe_length]; exact hl)] at h'
      exact h'
    | some s =>
      cases s with
      | ow d => cases no i (by simp) _ he
      | sf p d => cases no i (by simp) _ he
      | ad p =>
        obtain ⟨w, hw, ps, _, rfl⟩ := h0.at he
        have := (h'.ad p).set i
        rw [set_get (by rw [wipe_ne nd.1]; exact hw)] at this
        exact this
      | cl c =>
        obtain ⟨w, hw, ps, _, rfl⟩ := h0.at he
        rw [hca] at hw
        have := (h'.cl c).set i
        rw [set_get (by rw [wipe_ne nd.1]; exact hw)] at this
        exact this
      | un =>
        obtain ⟨w, hw, _⟩ := h0.at he
        have := h'.unset i (w := w)
        rw [set_get (by rw [wipe_ne nd.1]; exact hw)] at this
        exact this
      | fz d =>
        obtain ⟨v, hv, r⟩ := h0.atF he
        rw [hca] at r
        have := (h'.fz (r.mono b pr)).set i
        rw [set_get (by rw [wipe_ne nd.1]; exact hv)] at this
        exact this
end
def WF : WX := fun _ _ _ _ => False
def qW (K : Fg) (x : Fx) (σ : L2.St) (vs : List Nat) (N : L2.St → Hp → Prop) : Unit → Env → List D → List Addr → Hp → Prop := fun _ e s cs B => ∀ σ' H, SX K x e s cs σ' B H → wipe σ' vs = wipe σ vs → N σ' H
def tW (K : Fg) (x : Fx) (W : WX) (vs : List Nat) (t : D → M Unit) : TG := fun v σ H N => ∃ env st cs B d, SX K x env st cs σ B H ∧ Rp K x.ca cs B v d ∧ outS K x W cs B (t d env st) (qW K x σ vs N)
theorem wipe_set {σ : L2.St} {i : Nat} {w : Option V} : ∀ {vs : List Nat}, i ∈ vs → wipe (σ.set i w) vs = wipe σ vs
  | v :: vs, h => by
    unfold wipe
    by_cases q : i ∈ vs
    · rw [wipe_set q]
    · have e : i = v := by
        rcases List.mem_cons.mp h with z | z
        · exact z
        · exact absurd z q
      subst e
      apply List.ext_getElem?
      intro j
      by_cases qj : i = j
      · subst qj
        by_cases hl : i < σ.length
        · rw [List.getElem?_set_self (by rw [wipe_length, List.length_set]; exact hl), List.getElem?_set_self (by rw [wipe_length]; exact hl)]
        · rw [List.getElem?_eq_none (by simp [wipe_length]; omega), List.getElem?_eq_none (by simp [wipe_length]; omega)]
      · rw [List.getElem?_set_ne qj, List.getElem?_set_ne qj]
        have : ∀ us : List Nat, (wipe (σ.set i w) us)[j]? = (wipe σ us)[j]? := fun us => by
          induction us with
          | nil => exact List.getElem?_set_ne qj
          | cons u us ih =>
            unfold wipe
            by_cases qu : u = j
            · subst qu
              by_cases hl : u < σ.length
              · rw [List.getElem?_set_self (by rw [wipe_length, List.length_set]; exact hl), List.getElem?_set_self (by rw [wipe_length]; exact hl)]
              · rw [List.getElem?_eq_none (by simp [wipe_length]; omega), List.getElem?_eq_none (by simp [wipe_length]; omega)]
            · rw [List.getElem?_set_ne qu, List.getElem?_set_ne qu]; exact ih
        exact this vs
theorem wipe_in {j : Nat} {vs : List Nat} (hj : j ∈ vs) (τ : L2.St) : (wipe τ vs)[j]? = if j < τ.length then some none else none := by
  by_cases hl : j < τ.length
  · rw [if_pos hl]
    cases hq : (wipe τ vs)[j]? with
    | none => rw [List.getElem?_eq_none_iff, wipe_length] at hq; omega
    | some o =>
      cases o with
      | none => rfl
      | some z => exact absurd hj (wipe_some hq).2
  · rw [if_neg hl]; exact List.getElem?_eq_none (by rw [wipe_length]; omega)
theorem wipe_wipe (σ : L2.St) (vs : List Nat) : wipe (wipe σ vs) vs = wipe σ vs := by
  apply List.ext_getElem?
  intro j
  by_cases hj : j ∈ vs
  · rw [wipe_in hj, wipe_in hj, wipe_length]
  · rw [wipe_ne hj]
section
variable {K : Fg} {x : Fx} {W : WX} {X : Cx} {vs : List Nat}
theorem pg_nameW {i : Nat} {n : Str} {pos : Pos} (hi : i ∈ vs) (h : PG X (.Name n pos) (gName i)) : PG X (.Name n pos) (tW X.K x W vs (tgN i)) :=
  PG.imp h fun v σ H N ⟨env, st, cs, B, d, hs, r, ho⟩ => (show outS X.K x W cs B (.ok () (env.set i (.fz d)) st) (qW X.K x σ vs N) from ho).now _ H ((hs.fz r).set i) (wipe_set hi)
end
def GX (x x' : Fx) : Prop := x'.ca = x.ca ∧ x'.T = x.T
def aE (x : Fx) (f : Fx → TE) : TE := fun σ H Q => ∃ x', GX x x' ∧ f x' σ H Q
def aT (x : Fx) (f : Fx → TT) : TT := fun σ H Q => ∃ x', GX x x' ∧ f x' σ H Q
def aG (x : Fx) (f : Fx → TG) : TG := fun v σ H Q => ∃ x', GX x x' ∧ f x' v σ H Q
section
variable {X : Cx} {x : Fx}
theorem PE.aE {e : Expr} {f : Fx → TE} (h : ∀ x', GX x x' → PE X e (f x')) : PE X e (aE x f) := ⟨fun pins s σ H Q I ⟨i, g, q⟩ => (h i g).run pins s σ H Q I q⟩
theorem PTs.aT {e : List Expr} {f : Fx → TT} (h : ∀ x', GX x x' → PTs X e (f x')) : PTs X e (aT x f) := ⟨fun pins s σ H Q I ⟨i, g, q⟩ => (h i g).run pins s σ H Q I q⟩
theorem PG.aG {e : Expr} {f : Fx → TG} (h : ∀ x', GX x x' → PG X e (f x')) : PG X e (aG x f) := ⟨fun pins s σ H v u Q I r ⟨i, g, q⟩ => (h i g).run pins s σ H v u Q I r q⟩
theorem PTs.imp {e : List Expr} {t t' : TT} (h : PTs X e t) (i : ∀ σ H Q, t' σ H Q → t σ H Q) : PTs X e t' := ⟨fun pins s σ H Q I q => h.run pins s σ H Q I (i σ H Q q)⟩
theorem pts_nilM {W : WX} : PTs X [] (tT X.K x W (M.ret true)) := PTs.imp pts_nil fun σ H Q ⟨env, st, cs, B, hs, ho⟩ => (show outG X.K x W σ cs B (.ok true env st) (qT X.K x σ Q) from ho).now H hs
end
def lcStep (t : D → M Unit) (c : M Bool) (el : M D) (acc : List D) (d : D) : M (List D) := (t d).bind fun _ => c.bind fun b => if b then el.bind fun y => if acc.length < sizeLine then M.ret (acc ++ [y]) else M.stuck else M.ret acc
def lcL (vs : List Nat) (t : D → M Unit) (c : M Bool) (el : M D) : List D → List D → M (List D)
  | [], acc => M.ret acc
  | d :: ds, acc => fun e s => match lcStep t c el acc d e s with
    | .ok acc' e' s' => lcL vs t c el ds acc' (wipeE vs e') s'
    | _ => .stuck
def lcK (vs : List Nat) (t : D → M Unit) (c : M Bool) (el : M D) (xs : List D) : M Sl := fun e s => match lcL vs t c el xs [] (wipeE vs (frzE vs e)) s with
  | .ok acc e' s' => .ok (.ow (.lst acc)) (restE (frzE vs e) vs e') s'
  | _ => .stuck
def lcM (vs : List Nat) (it : M (List D)) (t : D → M Unit) (c : M Bool) (el : M D) : M Sl := it.bind (lcK vs t c el)
def kEq {α : Type} (a : α) (e : Env) (s : List D) : α → Env → List D → List Addr → Hp → Prop := fun a' e' s' _ _ => a' = a ∧ e' = e ∧ s' = s
theorem outS.of {α : Type} {K : Fg} {x : Fx} {W : WX} {cs : List Addr} {B : Hp} {o : Out α} {a : α} {e : Env} {s : List D} (h : o = .ok a e s) : outS K x W cs B o (kEq a e s) := by
  subst h
  exact fun cs' B' _ _ => ⟨rfl, rfl, rfl⟩
theorem tLc_of {K : Fg} {x : Fx} {W : WX} {vs : List Nat} {it : M (List D)} {t : D → M Unit} {c : M Bool} {el : M D} {σ : L2.St} {H : Hp} {Q : VK} (nd : vs.Nodup) (h : tU K x W (lcM vs it t c el) σ H Q) :
    tLc (tI K x W it) (aG x fun x' => tW K x' WF vs t) (aT x fun x' => tT K x' WF c) (aE x fun x' => tV K x' WF el) vs σ H Q := by
  obtain ⟨env, st, cs, B, hs, ho⟩ := h
  refine ⟨env, st, cs, B, hs, (outG.bind ho).imp fun xs e1 s1 cs1 B1 k J H1 sx1 ir D0 hD => ?_⟩
  obtain ⟨B2, b2, sx2⟩ := sx1.frzE vs
  have ir2 := ir.up b2 (Pre.refl cs1)
  obtain ⟨o0, sx3⟩ := sx2.begin hD
  obtain ⟨accF, eF, sF, hF⟩ : ∃ accF eF sF, lcL vs t c el xs [] (wipeE vs (frzE vs e1)) s1 = .ok accF eF sF := by
    unfold lcK at k
    split at k
    · rename_i acc e' s' h; exact ⟨_, _, _, h⟩
    · exact k.elim
  unfold lcK at k
  rw [hF] at k
  obtain ⟨G, Y, w, g, y⟩ := ir2
  refine lc_it w (fun i H => ∃ e s cs B ws acc, SX K (x.pre D0 (.lst ws)) e s cs (wipe σ vs) B H ∧ Sme B2 B ∧ Pre cs1 cs ∧ RpL K x.ca cs B ws acc ∧ lcL vs t c el (xs.drop i) acc e s = .ok accF eF sF) ?_ ?_ ?_ ?_
  · exact ⟨_, s1, cs1, B2, [], [], sx3.wipeE vs, Sme.refl _, Pre.refl _, .nil, hF⟩
  · rintro i H _ ⟨e, s, cs, B, ws, acc, sx, sb, pr, r, hl⟩
    exact g H (sb.trans sx.s)
  · rintro i v H H' hi ⟨e, s, cs, B, ws, acc, sx, sb, pr, r, hl⟩ hy
    rw [List.drop_eq_getElem_cons hi] at hl
    unfold lcL at hl
    obtain ⟨B4, gr, rv⟩ := y i xs[i] B H v H' (by simp [hi]) sb sx.s hy
    have sx4 : SX K (x.pre D0 (.lst ws)) e s cs (wipe σ vs) B4 H' := sx.grow gr
    cases hst : lcStep t c el acc xs[i] e s with
    | stuck => rw [hst] at hl; cases hl
    | exn _ _ _ _ => rw [hst] at hl; cases hl
    | ok acc' e' s' =>
      rw [hst] at hl
      have gx : GX x (x.pre D0 (.lst ws)) := ⟨rfl, rfl⟩
      have ho := outS.bind (outS.of (K := K) (x := x.pre D0 (.lst ws)) (W := WF) (cs := cs) (B := B4) hst)
      refine ⟨_, gx, e, s, cs, B4, xs[i], sx4, rv cs pr, ho.imp fun _ e2 s2 cs2 B5 sb2 pr2 k2 σ2 H2 sx5 hw => ⟨hw.trans (wipe_wipe σ vs), ?_⟩⟩
      refine ⟨_, gx, e2, s2, cs2, B5, sx5, ((outS.bind k2).g σ2).imp' fun b e3 s3 cs3 B6 _ sb3 pr3 k3 H3 sx6 => ?_⟩
      have fin : ∀ {ws' : List V} {e4 : Env} {s4 : List D} {cs4 : List Addr} {B7 H4 : Hp}, SX K (x.pre D0 (.lst ws')) e4 s4 cs4 σ2 B7 H4 → Sme B6 B7 → Pre cs3 cs4 → RpL K x.ca cs4 B7 ws' acc' → e4 = e' → s4 = s' →
          ∃ e s cs B ws acc, SX K (x.pre D0 (.lst ws)) e s cs (wipe σ vs) B H4 ∧ Sme B2 B ∧ Pre cs1 cs ∧ RpL K x.ca cs B ws acc ∧ lcL vs t c el (xs.drop (i + 1)) acc e s = .ok accF eF sF := fun {ws' e4 s4 cs4 B7 H4} sx7 sb7 pr7 r7 he hs' => by
        subst he hs'
        have hw' : wipe σ2 vs = wipe σ vs := hw.trans (wipe_wipe σ vs)
        have sx8 := sx7.wipeE vs
        rw [hw'] at sx8
        exact ⟨_, s4, cs4, B7, ws', acc', sx8, sb.trans (gr.b.trans (sb2.trans (sb3.trans sb7))), pr.trans (pr2.trans (pr3.trans pr7)), r7, hl⟩
      have r6 : RpL K x.ca cs3 B6 ws acc := r.mono (gr.b.trans (sb2.trans sb3)) (pr2.trans pr3)
      cases b with
      | false =>
        dsimp only
        rw [if_neg Bool.false_ne_true]
        obtain ⟨ha, he, hs'⟩ := (show outS K (x.pre D0 (.lst ws)) WF cs3 B6 (.ok acc e3 s3) (kEq acc' e' s') from k3).now
        exact fin sx6 (Sme.refl _) (Pre.refl _) (by rw [← ha]; exact r6) he hs'
      | true =>
        dsimp only
        rw [if_pos rfl]
        refine ⟨_, gx, e3, s3, cs3, B6, sx6, ((outS.bind (show outS K (x.pre D0 (.lst ws)) WF cs3 B6 ((el.bind fun y => if acc.length < sizeLine then M.ret (acc ++ [y]) else M.stuck) e3 s3) (kEq acc' e' s') from k3)).g σ2).imp' fun d e4 s4 cs4 B7 _ sb4 pr4 k4 y' H4 sx7 r7 => ?_⟩
        by_cases hlen : acc.length < sizeLine
        · rw [if_pos hlen] at k4
          obtain ⟨ha, he, hs'⟩ := (show outS K (x.pre D0 (.lst ws)) WF cs4 B7 (.ok (acc ++ [d]) e4 s4) (kEq acc' e' s') from k4).now
          refine ⟨ws, (sx7.hid o0).1, by rw [r6.len]; exact hlen, ?_⟩
          exact fin (sx7.app o0) sb4 pr4 (by rw [← ha]; exact (r6.mono sb4 pr4).app (.cons r7 .nil)) he hs'
        · rw [if_neg hlen] at k4
          exact (show False from k4).elim
  · rintro H ⟨e, s, cs, B, ws, acc, sx, sb, pr, r, hl⟩
    rw [List.drop_length] at hl
    obtain ⟨rfl, rfl, rfl⟩ : accF = acc ∧ eF = e ∧ sF = s := by cases hl; exact ⟨rfl, rfl, rfl⟩
    have sx' := SX.restE (x := x.pre D0 (.lst ws)) (x0 := x) rfl sx2 sb pr vs nd (frzE_no vs e1) sx
    exact (show outG K x W σ cs1 B1 (.ok (Sl.ow (.lst accF)) (restE (frzE vs e1) vs eF) sF) (qU K x σ Q) from k) cs B (b2.trans sb) pr _ H (sx'.fin o0 r)
section
variable {X : Cx} {x : Fx} {W : WX} {elt tg iter : Expr} {ifs : List Expr} {scope : Scope} {own : List (Str × Nat)} {pos spos : Pos} {it : M (List D)} {t : D → M Unit} {c : M Bool} {el : M D}
theorem pe_lcM (hc : X.calm = true) (hN : X.N.Nodup) (nd : (own.map (·.2)).Nodup) (hi : PI X tg iter (tI X.K x W it)) (ok : BlkOk X.N X.env.scope scope own)
    (hg : ∀ (s : Shared) (H : Hp) (C : Addr) (cl : List (Str × Addr)) (fp : List Addr) (x' : Fx), GX x x' → PG (X.blk s H scope (compEnvC scope cl C X.env) fp) tg (tW X.K x' WF (own.map (·.2)) t))
    (ht : ∀ (s : Shared) (H : Hp) (C : Addr) (cl : List (Str × Addr)) (fp : List Addr) (x' : Fx), GX x x' → PTs (X.blk s H scope (compEnvC scope cl C X.env) fp) ifs (tT X.K x' WF c))
    (he : ∀ (s : Shared) (H : Hp) (C : Addr) (cl : List (Str × Addr)) (fp : List Addr) (x' : Fx), GX x x' → PE (X.blk s H scope (compEnvC scope cl C X.env) fp) elt (tV X.K x' WF el)) (hs : ∀ y, foldedSetIterable iter X.env y = pure y) :
    PE X (.ListComp elt [⟨tg, iter, ifs, 0⟩] scope pos) (tU X.K x W (lcM (own.map (·.2)) it t c el)) :=
  PE.imp (pe_lc hc hN hi ok (fun s H C cl fp => PG.aG (hg s H C cl fp)) (fun s H C cl fp => PTs.aT (ht s H C cl fp)) (fun s H C cl fp => PE.aE (he s H C cl fp)) hs) fun σ H Q h => tLc_of nd h
end
end Dn
end
section
set_option maxHeartbeats 200000
namespace Dn
open PySem L2
def wrP (p : Pl) (d : D) : M Unit := fun e s => match p with
  | .v (.cell n) => if n < s.length then .ok () e (s.set n d) else .stuck
  | .v _ => .stuck
  | .s i => match e[i]? with
    | some (.ow _) => .ok () (e.set i (.ow d)) s
    | some (.sf p _) => .ok () (e.set i (.sf p d)) s
    | some (.fz (.cell n)) => if n < s.length then .ok () e (s.set n d) else .stuck
    | _ => .stuck
section
variable {K : Fg} {x : Fx} {W : WX} {X : Cx} {env : Env} {st : List D} {cs : List Addr} {σ : L2.St} {B H : Hp}
theorem wr_ok {v : V} {p : Pl} {y d' : D} {e1 e2 : Env} {s1 s2 : List D} (h : SX K x env st cs σ B H) (pl : PlR K x.ca cs B σ v p) (hr : rsv p env st = .ok y e1 s1) (hw : wrP p d' env st = .ok () e2 s2) :
    ∃ q, v = .ref q ∧ Own K x.ca cs B H q y ∧ ∀ o, (∀ vs, o ≠ .tup vs) → Own K x.ca cs B (upd H q o) q d' → SX K x e2 s2 cs σ B (upd H q o) := by
  have key : ∀ n, Rp K x.ca cs B v (.cell n) → st[n]? = some y → (if n < st.length then Out.ok () env (st.set n d') else .stuck) = .ok () e2 s2 → ∃ q, v = .ref q ∧ Own K x.ca cs B H q y ∧ ∀ o, (∀ vs, o ≠ .tup vs) → Own K x.ca cs B (upd H q o) q d' → SX K x e2 s2 cs σ B (upd H q o) := fun n r hn hw => by
    cases r with
    | cell hc =>
      split at hw
      · cases hw
        obtain ⟨q, h1, h2⟩ := h.cellAt hn
        rw [hc] at h1; cases h1
        exact ⟨_, rfl, h2, fun o ho o' => h.mutC hn hc ho o'⟩
      · cases hw
  unfold rsv at hr
  unfold wrP at hw
  cases p with
  | v d =>
    simp only at hr hw
    cases d with
    | cell n =>
      simp only at hw
      cases hc : cont st (.cell n) with
      | none => rw [hc] at hr; cases hr
      | some z => rw [hc] at hr; cases hr; exact key n pl hc hw
    | _ => cases hw
  | s i =>
    simp only at hr hw
    have pl : σ[i]? = some (some v) := pl
    cases hi : env[i]? with
    | none => rw [hi] at hw; cases hw
    | some s =>
      rw [hi] at hr hw
      cases s with
      | un => cases hw
      | ad q => cases hw
      | cl q => cases hw
      | sf q d =>
        cases hr; cases hw
        obtain ⟨h1, h2⟩ := h.atS hi
        rw [pl] at h1; cases h1
        exact ⟨q, rfl, h2, fun o ho o' => h.mutS hi pl ho o'⟩
      | ow d =>
        cases hr; cases hw
        obtain ⟨q, h1, h2⟩ := h.atO hi
        rw [pl] at h1; cases h1
        exact ⟨q, rfl, h2, fun o ho o' => h.mut hi pl ho o'⟩
      | fz d =>
        cases d with
        | cell n =>
          simp only at hr hw
          cases hc : cont st (.cell n) with
          | none => rw [hc] at hr; cases hr
          | some z =>
            rw [hc] at hr; cases hr
            obtain ⟨u, h1, h2⟩ := h.atF hi
            rw [pl] at h1; cases h1
            exact key n h2 hc hw
        | _ => cases hw
/-- a change by values -/
def SoundM (K : Fg) (x : Fx) (rr : V → List V → Hp → VK → Prop) (y : D) (ds : List D) (d' r : D) : Prop := ∀ (cs : List Addr) (B H : Hp) (q : Addr) (vs : List V) (Q : VK), Sme B H → Own K x.ca cs B H q y → RpL K x.ca cs B vs ds →
  (∀ o u, (∀ ws, o ≠ .tup ws) → Own K x.ca cs B (upd H q o) q d' → Rp K x.ca cs B u r → Q u (upd H q o)) → rr (.ref q) vs H Q
def chgM (f : D → List D → Option (D × D)) (p : Pl) (ds : List D) : M Sl := (rsv p).bind fun y => (M.lift (f y ds)).bind fun z => (wrP p z.1).bind fun _ => M.ret (.fz z.2)
theorem rsv_same {p : Pl} {y : D} {e' : Env} {s' : List D} (h : rsv p env st = .ok y e' s') : e' = env ∧ s' = st := by
  unfold rsv at h
  cases p with
  | v d => simp only at h; split at h <;> cases h; exact ⟨rfl, rfl⟩
  | s i =>
    simp only at h
    split at h
    · split at h <;> cases h; exact ⟨rfl, rfl⟩
    · cases h; exact ⟨rfl, rfl⟩
    · cases h; exact ⟨rfl, rfl⟩
    · cases h
theorem rsv_exn {p : Pl} {c : Str} {fs : Flds} {e' : Env} {s' : List D} (h : rsv p env st = .exn c fs e' s') : False := by
  unfold rsv at h
  cases p with
  | v d => simp only at h; split at h <;> cases h
  | s i =>
    simp only at h
    split at h
    · split at h <;> cases h
    · cases h
    · cases h
    · cases h
/-- the change is made: the place resolved, the operation found, what follows -/
theorem chg_out {f : D → List D → Option (D × D)} {p : Pl} {ds : List D} {k : Sl → Env → List D → List Addr → Hp → Prop} (ho : outG K x W σ cs B (chgM f p ds env st) k) :
    ∃ y d' r e2 s2, f y ds = some (d', r) ∧ (∀ {cs' B' H' v}, SX K x env st cs' σ B' H' → PlR K x.ca cs' B' σ v p → ∃ q, v = .ref q ∧ Own K x.ca cs' B' H' q y ∧ ∀ o, (∀ vs, o ≠ .tup vs) → Own K x.ca cs' B' (upd H' q o) q d' → SX K x e2 s2 cs' σ B' (upd H' q o)) ∧
      ∀ cs' B', Sme B B' → Pre cs cs' → k (.fz r) e2 s2 cs' B' := by
  unfold chgM M.bind M.lift M.ret at ho
  cases hr : rsv p env st with
  | stuck => rw [hr] at ho; exact ho.elim
  | exn c fs e' s' => exact (rsv_exn hr).elim
  | ok y e1 s1 =>
    rw [hr] at ho
    obtain ⟨rfl, rfl⟩ := rsv_same hr
    simp only at ho
    cases hf : f y ds with
    | none => rw [hf] at ho; exact ho.elim
    | some z =>
      rw [hf] at ho
      simp only at ho
      cases hw : wrP p z.1 e1 s1 with
      | stuck => rw [hw] at ho; exact ho.elim
      | exn c fs e' s' =>
        exfalso
        unfold wrP at hw
        cases p with
        | v d => cases d <;> simp only at hw <;> first | (split at hw <;> cases hw) | cases hw
        | s i => simp only at hw; split at hw <;> first | (split at hw <;> cases hw) | cases hw
      | ok u e2 s2 =>
        rw [hw] at ho
        exact ⟨y, z.1, z.2, e2, s2, hf, fun sx pl => wr_ok sx pl hr hw, ho⟩
end
def tyD : D → Option String
  | .lst _ => some "list"
  | .scr _ => some "list"
  | .str _ => some "str"
  | .dcK _ => some "dict"
  | .dcT _ => some "dict"
  | .tup _ _ => some "tuple"
  | _ => none
section
variable {K : Fg} {x : Fx} {W : WX} {X : Cx} {σ : L2.St} {H : Hp} {Q : VK}
theorem lk_ty {cs : List Addr} {B H : Hp} {v : V} {y : D} (s : Sme B H) (o : Lk K x.ca cs B H v y) : (tyD y = some "list" → tyV K "list" v H) ∧ (tyD y = some "str" → tyV K "str" v H) := by
  refine ⟨fun h => ?_, fun h => ?_⟩
  · cases y with
    | lst xs => obtain ⟨a, vs, rfl, e1, _⟩ := o.lst s; exact .inl ⟨rfl, vs, SqL.of e1⟩
    | scr xs => obtain ⟨a, rfl, e1, e2⟩ := o.scr s; exact .inl ⟨rfl, _, e2⟩
    | _ => simp [tyD] at h
  · cases y with
    | str z => rw [o.str]; exact rfl
    | _ => simp [tyD] at h
/-- o.m(args), the place o changed -/
def mutM (T : String) (f : D → List D → Option (D × D)) (mo : M Pl) (ma : M (List D)) : M Sl := mo.bind fun p => (rsv p).bind fun y0 => if tyD y0 = some T then ma.bind fun ds => chgM f p ds else M.stuck
/-- o.m(args), nothing changed -/
def bmM (T : String) (f : D → List D → Option Sl) (mo : M Pl) (ma : M (List D)) : M Sl := mo.bind fun p => (rsv p).bind fun y0 => if tyD y0 = some T then ma.bind fun ds => (rsv p).bind fun y => M.lift (f y ds) else M.stuck
def SoundB (K : Fg) (x : Fx) (rr : V → List V → Hp → VK → Prop) (y : D) (ds : List D) (r : Sl) : Prop := r ≠ .un ∧ ∀ (cs : List Addr) (B H : Hp) (v : V) (vs : List V) (Q : VK), Sme B H → Lk K x.ca cs B H v y → RpL K x.ca cs B vs ds → Post K x cs B H r Q → rr v vs H Q
theorem tyV_lst {v : V} {T : String} (hT : T = "list" ∨ T = "str") {cs : List Addr} {B : Hp} {y : D} (s : Sme B H) (o : Lk K x.ca cs B H v y) (h : tyD y = some T) : tyV K T v H := by
  rcases hT with rfl | rfl
  · exact (lk_ty s o).1 h
  · exact (lk_ty s o).2 h
theorem tU_mut {T : String} {f : D → List D → Option (D × D)} {mo : M Pl} {ma : M (List D)} {P : (V → List V → Hp → VK → Prop) → Prop} (hT : T = "list" ∨ T = "str") (hP : ∃ rr, P rr) (hf : ∀ y ds d' r, f y ds = some (d', r) → ∃ rr, P rr ∧ SoundM K x rr y ds d' r) (h : tU K x W (mutM T f mo ma) σ H Q) :
    ∃ rr, P rr ∧ tBM K T rr (tL K x W mo) (tA K x W ma) σ H Q := by
  obtain ⟨rr0, hrr0⟩ := hP
  obtain ⟨env, st, cs, B, hs, ho⟩ := h
  have ho := outG.bind ho
  cases hm : mo env st with
  | stuck => rw [hm] at ho; exact ho.elim
  | exn c fs e' s' => rw [hm] at ho; exact ⟨rr0, hrr0, env, st, cs, B, hs, by rw [hm]; exact ho⟩
  | ok p e1 s1 =>
    rw [hm] at ho
    obtain ⟨y0, ho1, hy0⟩ := outG.rsv ho.now
    by_cases hty : tyD y0 = some T
    · rw [if_pos hty] at ho1
      have ho1 := outG.bind ho1
      cases ha : ma e1 s1 with
      | stuck => rw [ha] at ho1; exact ho1.elim
      | exn c fs e' s' =>
        refine ⟨rr0, hrr0, env, st, cs, B, hs, ?_⟩
        rw [hm]
        intro cs1 B1 sb1 pr1 v H1 sx1 pl1
        refine ⟨tyV_lst hT sx1.s (hy0 sx1 pl1) hty, e1, s1, cs1, B1, sx1, ?_⟩
        rw [ha] at ho1 ⊢
        exact outE.up ho1 sb1 pr1
      | ok ds e2 s2 =>
        rw [ha] at ho1
        obtain ⟨y, d', r, e3, s3, hfy, hq, hk⟩ := chg_out ho1.now
        obtain ⟨rr, hrr, hsound⟩ := hf y ds d' r hfy
        refine ⟨rr, hrr, env, st, cs, B, hs, ?_⟩
        rw [hm]
        intro cs1 B1 sb1 pr1 v H1 sx1 pl1
        refine ⟨tyV_lst hT sx1.s (hy0 sx1 pl1) hty, e1, s1, cs1, B1, sx1, ?_⟩
        rw [ha]
        intro cs2 B2 sb2 pr2 vs H2 sx2 rp2
        obtain ⟨q, rfl, ow, hwr⟩ := hq sx2 (pl1.mono sb2 pr2)
        refine hsound cs2 B2 H2 q vs Q sx2.s ow rp2 fun o u hno ow' ru => ?_
        exact hk cs2 B2 (sb1.trans sb2) (pr1.trans pr2) u _ ((hwr o hno ow').fz ru)
    · rw [if_neg hty] at ho1; exact (show False from ho1).elim
theorem tU_bm {T : String} {f : D → List D → Option Sl} {mo : M Pl} {ma : M (List D)} {P : (V → List V → Hp → VK → Prop) → Prop} (hT : T = "list" ∨ T = "str") (hP : ∃ rr, P rr) (hf : ∀ y ds r, f y ds = some r → ∃ rr, P rr ∧ SoundB K x rr y ds r) (h : tU K x W (bmM T f mo ma) σ H Q) :
    ∃ rr, P rr ∧ tBM K T rr (tL K x W mo) (tA K x W ma) σ H Q := by
  obtain ⟨rr0, hrr0⟩ := hP
  obtain ⟨env, st, cs, B, hs, ho⟩ := h
  have ho := outG.bind ho
  cases hm : mo env st with
  | stuck => rw [hm] at ho; exact ho.elim
  | exn c fs e' s' => rw [hm] at ho; exact ⟨rr0, hrr0, env, st, cs, B, hs, by rw [hm]; exact ho⟩
  | ok p e1 s1 =>
    rw [hm] at ho
    obtain ⟨y0, ho1, hy0⟩ := outG.rsv ho.now
    by_cases hty : tyD y0 = some T
    · rw [if_pos hty] at ho1
      have ho1 := outG.bind ho1
      cases ha : ma e1 s1 with
      | stuck => rw [ha] at ho1; exact ho1.elim
      | exn c fs e' s' =>
        refine ⟨rr0, hrr0, env, st, cs, B, hs, ?_⟩
        rw [hm]
        intro cs1 B1 sb1 pr1 v H1 sx1 pl1
        refine ⟨tyV_lst hT sx1.s (hy0 sx1 pl1) hty, e1, s1, cs1, B1, sx1, ?_⟩
        rw [ha] at ho1 ⊢
        exact outE.up ho1 sb1 pr1
      | ok ds e2 s2 =>
        rw [ha] at ho1
        obtain ⟨y, ho2, hy⟩ := outG.rsv ho1.now
        obtain ⟨r, hr, _⟩ := outG.lift ho2
        rw [hr] at ho2
        obtain ⟨rr, hrr, hun, hsound⟩ := hf y ds r hr
        refine ⟨rr, hrr, env, st, cs, B, hs, ?_⟩
        rw [hm]
        intro cs1 B1 sb1 pr1 v H1 sx1 pl1
        refine ⟨tyV_lst hT sx1.s (hy0 sx1 pl1) hty, e1, s1, cs1, B1, sx1, ?_⟩
        rw [ha]
        intro cs2 B2 sb2 pr2 vs H2 sx2 rp2
        refine hsound cs2 B2 H2 v vs Q sx2.s (hy sx2 (pl1.mono sb2 pr2)) rp2 (post_of sx2 hun fun u B' H' sx sb => ?_)
        exact (show outG K x W σ cs B (.ok r e2 s2) (qU K x σ Q) from ho2) cs2 B' (sb1.trans (sb2.trans sb)) (pr1.trans pr2) u H' sx
    · rw [if_neg hty] at ho1; exact (show False from ho1).elim
def appF : D → List D → Option (D × D)
  | .lst xs, [d] => grd (decide (xs.length < sizeLine)) (.lst (xs ++ [d]), .non)
  | _, _ => none
def popF : D → List D → Option (D × D)
  | .lst xs, [] => xs.getLast?.map fun d => (.lst xs.dropLast, d)
  | .lst xs, [.int i] => if -(2 ^ 63) ≤ i ∧ i < 2 ^ 63 then match seqIndex? i xs.length with
    | some k => xs[k]?.map fun d => (.lst (xs.eraseIdx k), d)
    | none => none
    else none
  | _, _ => none
theorem RpL.one {cs : List Addr} {B : Hp} {vs : List V} {d : D} (h : RpL K x.ca cs B vs [d]) : ∃ v, vs = [v] ∧ Rp K x.ca cs B v d := by
  cases h with
  | cons r t => cases t; exact ⟨_, rfl, r⟩
theorem RpL.erase {ca : Str → Addr} {cs : List Addr} {B : Hp} : ∀ {vs : List V} {xs : List D} (i : Nat), RpL K ca cs B vs xs → RpL K ca cs B (vs.eraseIdx i) (xs.eraseIdx i)
  | _, _, _, .nil => .nil
  | _, _, 0, .cons _ t => t
  | _, _, i + 1, .cons r t => .cons r (RpL.erase i t)
theorem app_ok' {y : D} {ds : List D} {d' r : D} (h : appF y ds = some (d', r)) : SoundM K x rAppend y ds d' r := by
  unfold appF at h
  split at h
  · obtain ⟨h1, h2⟩ := grd_some h
    cases h2
    intro cs B H q vs Q s o rp k
    obtain ⟨ws, e1, e2, e3⟩ := o
    obtain ⟨v, rfl, rv⟩ := rp.one
    exact ⟨q, ws, v, rfl, rfl, e1, by rw [e3.len]; exact of_decide_eq_true h1, k _ _ (fun _ z => nomatch z) ⟨_, upd_same, e2, e3.app (.cons rv .nil)⟩ .non⟩
  · cases h
theorem popAt_ok' {y : D} {z : D} {d' r : D} (h : popF y [z] = some (d', r)) : SoundM K x rPopAt y [z] d' r := by
  unfold popF at h
  split at h
  · rename_i hz; cases hz
  · rename_i xs i hz
    cases hz
    split at h
    · rename_i hb
      split at h
      · rename_i kk hk
        obtain ⟨d, h1, h2⟩ := Option.map_eq_some_iff.mp h
        cases h2
        intro cs B H q vs Q s o rp k
        obtain ⟨ws, e1, e2, e3⟩ := o
        obtain ⟨v, rfl, rv⟩ := rp.one
        cases rv
        obtain ⟨v, hv, rv⟩ := e3.get h1
        exact ⟨q, ws, i, kk, v, rfl, rfl, e1, hb.1, hb.2, by rw [e3.len]; exact hk, hv, k _ _ (fun _ z => nomatch z) ⟨_, upd_same, e2, e3.erase kk⟩ rv⟩
      · cases h
    · cases h
  · cases h
theorem few_ok {cpos : Pos} {env : PySem.Env} : ∀ {es : List Expr}, es.all nst = true → es.length < 30 → ((backTo cpos (starEach es env)).all (fun x => !x.1) && (backToKw cpos (keywordEach [] env)).all (fun x => x.1.isSome)
      && decide (es.length + ([] : List Keyword).length + (if ([] : List Keyword).isEmpty then 0 else 1) < 30)) = true := fun {es} h hl => by
  have h1 : ∀ {es : List Expr}, es.all nst = true → (backTo cpos (starEach es env)).all (fun x => !x.1) = true := fun {es} h => by
    induction es with
    | nil => rfl
    | cons e es ih =>
      rw [List.all_cons, Bool.and_eq_true] at h
      rw [nst_ok h.1]
      show (true && (backTo cpos (starEach es env)).all (fun x => !x.1)) = true
      rw [ih h.2]; rfl
  rw [h1 h]
  show (true && true && decide (es.length + 0 + 0 < 30)) = true
  simpa using hl
section
variable {o e : Expr} {es : List Expr} {apos cpos : Pos} {mo : M Pl} {ma : M (List D)} {name : Str} {id : String} {T : String}
theorem pe_mut1 {rr : V → List V → Hp → VK → Prop} {f : D → List D → Option (D × D)} {ma : M D} (pa : PlainAttrs T) (slot : Slot T name id) (hty : typeOf (.builtin id) = pure (.type "method_descriptor")) (hT : T = "list" ∨ T = "str") (hm : MtR X id rr) (hf : ∀ y z d' r, f y [z] = some (d', r) → SoundM X.K x rr y [z] d' r) (ho : PE X o (tL X.K x W mo)) (hn : nst e = true) (ha : PE X e (tV X.K x W ma))
    (hbase : attributeBase o name X.env (eval o X.env) = eval o X.env) (hline : (apos.endLine == cpos.line) = true) : PE X (.Call (.Attribute o name apos) [e] [] cpos) (tU X.K x W (mutM T (fun y ds => if ds.length = 1 then f y ds else none) mo (argsV [ma]))) :=
  PE.imp (pe_bm pa slot hty hm ho (pa_consV hn ha pa_nilV) hbase (few_ok (by simp [hn]) (by simp)) hline (nst_ok hn) (nst_all rfl)) fun σ H Q h => by
    obtain ⟨rr', e, q⟩ := tU_mut (P := fun r => r = rr) hT ⟨rr, rfl⟩ (fun y ds d' r hh => ⟨rr, rfl, by
      split at hh
      · rename_i hz
        match ds, hz with
        | [z], _ => exact hf y z d' r hh
      · cases hh⟩) h
    subst e
    exact q
theorem pe_bm1 {rr : V → List V → Hp → VK → Prop} {f : D → List D → Option Sl} {ma : M D} (pa : PlainAttrs T) (slot : Slot T name id) (hty : typeOf (.builtin id) = pure (.type "method_descriptor")) (hT : T = "list" ∨ T = "str") (hm : MtR X id rr) (hf : ∀ y ds r, f y ds = some r → SoundB X.K x rr y ds r) (ho : PE X o (tL X.K x W mo)) (hn : nst e = true) (ha : PE X e (tV X.K x W ma))
    (hbase : attributeBase o name X.env (eval o X.env) = eval o X.env) (hline : (apos.endLine == cpos.line) = true) : PE X (.Call (.Attribute o name apos) [e] [] cpos) (tU X.K x W (bmM T f mo (argsV [ma]))) :=
  PE.imp (pe_bm pa slot hty hm ho (pa_consV hn ha pa_nilV) hbase (few_ok (by simp [hn]) (by simp)) hline (nst_ok hn) (nst_all rfl)) fun σ H Q h => by
    obtain ⟨rr', e, q⟩ := tU_bm (P := fun r => r = rr) hT ⟨rr, rfl⟩ (fun y ds r hh => ⟨rr, rfl, hf y ds r hh⟩) h
    subst e
    exact q
end
def idxN (xs : List D) (d : D) : Option Nat := xs.findIdx? fun y => PyData.eqv (py y) (py d)
def ixlF : D → List D → Option Sl
  | .lst xs, [d] => if flatD d && xs.all flatD then (idxN xs d).map fun j => .fz (.int (j : Nat)) else none
  | _, _ => none
theorem idx_spec {p : D → Bool} : ∀ {xs : List D} {j : Nat}, xs.findIdx? p = some j → ∃ d, xs[j]? = some d ∧ p d = true ∧ ∀ m d', m < j → xs[m]? = some d' → p d' = false
  | [], j, h => by simp at h
  | x :: xs, j, h => by
    rw [List.findIdx?_cons] at h
    split at h
    · rename_i hx
      cases h
      exact ⟨x, rfl, hx, fun m _ hm => absurd hm (Nat.not_lt_zero _)⟩
    · rename_i hx
      obtain ⟨i, h1, h2⟩ := Option.map_eq_some_iff.mp h
      subst h2
      obtain ⟨d, a, b, c⟩ := idx_spec h1
      refine ⟨d, by simpa using a, b, fun m d' hm hd => ?_⟩
      cases m with
      | zero => simp at hd; subst hd; simpa using hx
      | succ m => exact c m d' (by omega) (by simpa using hd)
theorem ixl_ok {y : D} {ds : List D} {r : Sl} (h : ixlF y ds = some r) : SoundB K x (rIndex K) y ds r := by
  unfold ixlF at h
  split at h
  · split at h
    · rename_i xs d hb
      rw [Bool.and_eq_true] at hb
      obtain ⟨j, h1, h2⟩ := Option.map_eq_some_iff.mp h
      cases h2
      refine ⟨(fun z => nomatch z), fun cs B H v vs Q s l rp k => ?_⟩
      obtain ⟨a, ws, rfl, e1, e2⟩ := l.lst s
      obtain ⟨w, rfl, rw⟩ := rp.one
      obtain ⟨z, a1, a2, a3⟩ := idx_spec h1
      obtain ⟨u, b1, b2⟩ := e2.get a1
      have fl := (flat_in (.inl rw : Lk K x.ca cs B H w d) hb.1 e2 hb.2).2
      have fz : flatD z = true := List.all_eq_true.mp hb.2 z (List.mem_of_getElem? a1)
      refine ⟨a, ws, w, j, u, rfl, rfl, SqL.of e1, Lk.flat (.inl rw : Lk K x.ca cs B H w d) hb.1, fl, b1, ?_, fun m z' hm hz => ?_, k _ B H (Gr.refl s) (.int _)⟩
      · rw [flat_eq b2 (.inl rw : Lk K x.ca cs B H w d) fz hb.1]; exact a2
      · have hlt : m < xs.length := by rw [← e2.len]; exact (List.getElem?_eq_some_iff.mp hz).1
        obtain ⟨u', c1, c2⟩ := e2.get (i := m) (d := xs[m]) (by simp [hlt])
        rw [hz] at c1; cases c1
        rw [flat_eq c2 (.inl rw : Lk K x.ca cs B H w d) (List.all_eq_true.mp hb.2 _ (List.getElem_mem hlt)) hb.1]
        exact a3 m _ hm (by simp [hlt])
    · cases h
  · cases h
def strL : List D → Option (List Str)
  | [] => some []
  | .str z :: ds => (strL ds).map (z :: ·)
  | _ :: _ => none
theorem strL_some : ∀ {xs : List D} {ys : List Str}, strL xs = some ys → xs = ys.map D.str
  | [], ys, h => by cases h; rfl
  | d :: xs, ys, h => by
    cases d with
    | str z =>
      obtain ⟨zs, h1, h2⟩ := Option.map_eq_some_iff.mp h
      subst h2
      rw [strL_some h1]; rfl
    | _ => cases h
def tNd (K : Fg) (r : V → List V → Hp → VK → Prop) (to : TE) (t : TA) : TE := fun σ H Q => to σ H fun x H1 => (∃ p vs, x = .ref p ∧ NdT K H1 p vs) ∧ t σ H1 fun xs H2 => r x xs H2 Q
theorem NdT.typ {X : Cx} {pins : List (Addr × Obj)} {σ : L2.St} {H : Hp} {s : Shared} {a : Addr} {vs : List V} (I : Inv X pins σ H s) (h : NdT X.K H a vs) : s.TypeIs (.ref a) "tuple" ∧ ∃ ob, s.heap.get? a = some ob ∧ ob.dict = none := by
  rcases h with ⟨o, h, d⟩ | ⟨o, its, n, h1, h2, h3, _⟩
  · obtain ⟨e, _, _, _, o', e', c, _⟩ := (show ObjOk X.prog X.w H s.heap a (.frz o (.tup vs)) from I.hok a _ h)
    exact ⟨⟨o', e', c⟩, o, e, d⟩
  · exact ⟨⟨o, I.kIn a o h1, h2⟩, o, I.kIn a o h1, h3⟩
theorem pe_nd {X : Cx} {o e : Expr} {es : List Expr} {to : TE} {t : TA} {name : Str} {apos cpos : Pos} {id : String} {r : V → List V → Hp → VK → Prop} (slot : Slot "tuple" name id) (hty : typeOf (.builtin id) = pure (.type "method_descriptor")) (hm : MtR X id r) (ho : PE X o to) (ha : PA X (e :: es) t)
    (hbase : attributeBase o name X.env (eval o X.env) = eval o X.env)
    (hfew : ((backTo cpos (starEach (e :: es) X.env)).all (fun x => !x.1) && (backToKw cpos (keywordEach [] X.env)).all (fun x => x.1.isSome)
      && decide ((e :: es).length + ([] : List Keyword).length + (if ([] : List Keyword).isEmpty then 0 else 1) < 30)) = true)
    (hline : (apos.endLine == cpos.line) = true) (hs : starEach (e :: es) X.env = (false, eval e X.env) :: starEach es X.env) (hplain : (backTo cpos (starEach es X.env)).any (·.1) = false) :
    PE X (.Call (.Attribute o name apos) (e :: es) [] cpos) (tNd X.K r to t) := by
  refine ⟨fun pins s σ H Q I h => ?_⟩
  refine wpAny_Call_method_late hbase hfew hline rfl (thn (ho.run pins s σ H _ I h) fun v s1 ⟨x, H1, I1, r1, ⟨p, vs, ex, nd⟩, q1⟩ => ?_)
  subst ex
  cases r1
  obtain ⟨h1, h2⟩ := nd.typ I1
  refine ⟨"tuple", id, PySem.F.plainAttrs_tuple, slot, hty, h1, (fun a ea => by cases ea; exact h2), ?_⟩
  have hA := ha.run cpos pins s1 σ H1 _ I1 q1
  rw [hs] at hA ⊢
  refine PySem.Calls.callWith_builtin (by show (false || (backTo cpos (starEach es X.env)).any (·.1)) = false; rw [hplain] <;> rfl) (PySem.Calls.evalArgs_plain ?_)
  exact thn hA fun us s2 ⟨vs, H2, I2, r2, q2⟩ => hm pins s2 σ H2 (V.ref p) vs (Value.ref p) us Q I2 rfl r2 q2
abbrev rTupIx (K : Fg) : V → List V → Hp → VK → Prop := fun x xs H Q => ∃ p, ∃ ys : List Str, ∃ z j, x = .ref p ∧ xs = [.str z] ∧ SqT K H p (ys.map V.str) ∧ ys[j]? = some z ∧ (∀ m, m < j → ys[m]? ≠ some z) ∧ Q (.int (j : Nat)) H
end
end Dn
end
section
set_option maxHeartbeats 200000
namespace Dn
open PySem L2
section
variable {K : Fg} {x : Fx} {W : WX} {X : Cx} {σ : L2.St} {H : Hp} {Q : VK} {o e : Expr} {apos cpos : Pos} {mo : M Pl} {ma : M D}
def ixtF : D → D → Option Sl
  | .tup true xs, .str z => match strL xs with
    | some ys => (ys.findIdx? fun y => decide (y = z)).map fun j => .fz (.int (j : Nat))
    | none => none
  | _, _ => none
/-- a tuple of texts: the place read before and after is a value -/
def ixtM (mo : M Pl) (ma : M D) : M Sl := mo.bind fun p => (rsv p).bind fun y0 => match y0 with
  | .tup true _ => ma.bind fun d => M.lift (ixtF y0 d)
  | _ => M.stuck
def ixM (mo : M Pl) (ma : M D) : M Sl := fun e s => match mo e s with
  | .ok p e1 s1 => match rsv p e1 s1 with
    | .ok (.tup true _) _ _ => ixtM mo ma e s
    | _ => bmM "list" ixlF mo (argsV [ma]) e s
  | _ => bmM "list" ixlF mo (argsV [ma]) e s
theorem lk_nd {cs : List Addr} {B H : Hp} {v : V} {xs : List D} (s : Sme B H) (h : Lk K x.ca cs B H v (.tup true xs)) : ∃ a vs, v = .ref a ∧ NdT K B a vs ∧ NdT K H a vs ∧ RpL K x.ca cs B vs xs := by
  rcases h with h | ⟨p, e, h⟩
  · cases h with
    | tupM h r => exact ⟨_, _, rfl, h, h.mono s, r⟩
  · cases h
theorem tU_ixt (h : tU K x W (ixtM mo ma) σ H Q) : tNd K (rTupIx K) (tL K x W mo) (tA K x W (argsV [ma])) σ H Q := by
  obtain ⟨env, st, cs, B, hs, ho⟩ := h
  refine ⟨env, st, cs, B, hs, (outG.bind ho).imp fun p e1 s1 cs1 B1 k v H1 sx1 pl1 => ?_⟩
  obtain ⟨y0, k, hy⟩ := outG.rsv k
  cases y0 with
  | tup m xs =>
    cases m with
    | false => exact (show False from k).elim
    | true =>
      obtain ⟨a, vs, rfl, n1, n2, r1⟩ := lk_nd sx1.s (hy sx1 pl1)
      refine ⟨⟨a, vs, rfl, n2⟩, e1, s1, cs1, B1, sx1, ?_⟩
      have k := outG.bind (show outG K x W σ cs1 B1 ((ma.bind fun d => M.lift (ixtF (.tup true xs) d)) e1 s1) (qU K x σ Q) from k)
      unfold argsV M.bind
      cases hm : ma e1 s1 with
      | stuck => rw [hm] at k; exact k.elim
      | exn c fs e' s' => rw [hm] at k; exact k
      | ok d e2 s2 =>
        rw [hm] at k
        intro cs2 B2 sb pr ws H2 sx2 rp
        obtain ⟨w, rfl, rw⟩ := RpL.one rp
        obtain ⟨r, hr, k2⟩ := outG.lift (k cs2 B2 sb pr)
        cases d with
        | str z =>
          unfold ixtF at hr
          simp only at hr
          split at hr
          · rename_i ys hys
            obtain ⟨j, h1, h2⟩ := Option.map_eq_some_iff.mp hr
            subst h2
            have := strL_some hys
            subst this
            cases rw
            have e3 := r1.strs
            subst e3
            have h3 : (ys.map D.str).findIdx? (fun d => match d with | .str y => decide (y = z) | _ => false) = some j := by
              rw [List.findIdx?_map]; exact h1
            obtain ⟨d, a1, a2, a3⟩ := idx_spec h3
            rw [List.getElem?_map] at a1
            obtain ⟨y, b1, b2⟩ := Option.map_eq_some_iff.mp a1
            subst b2
            have : y = z := of_decide_eq_true a2
            subst this
            refine ⟨a, ys, y, j, rfl, rfl, (((n1.mono sb).mono sx2.s)).sq, b1, fun m hm hy' => ?_, k2 _ H2 (sx2.fz (.int _))⟩
            have := a3 m (.str y) hm (by rw [List.getElem?_map, hy']; rfl)
            simp at this
          · cases hr
        | _ => cases hr
  | _ => exact (show False from k).elim
theorem pe_ix (ho : PE X o (tL X.K x W mo)) (hn : nst e = true) (ha : PE X e (tV X.K x W ma)) (hbase : attributeBase o "index" X.env (eval o X.env) = eval o X.env) (hline : (apos.endLine == cpos.line) = true) : PE X (.Call (.Attribute o "index" apos) [e] [] cpos) (tU X.K x W (ixM mo ma)) :=
  PE.imp (PE.or (pe_bm1 (f := ixlF) (ma := ma) PySem.F.plainAttrs_list F.slot_list_index rfl (.inl rfl) mt_index (fun y ds r h => ixl_ok h) ho hn ha hbase hline)
    (pe_nd F.slot_tuple_index rfl mt_tup_index ho (pa_consV hn ha pa_nilV) hbase (few_ok (by simp [hn]) (by simp)) hline (nst_ok hn) (nst_all rfl))) fun σ H Q ⟨env, st, cs, B, hs, hk⟩ => by
    unfold ixM at hk
    split at hk
    · split at hk
      · exact .inr (tU_ixt ⟨env, st, cs, B, hs, hk⟩)
      · exact .inl ⟨env, st, cs, B, hs, hk⟩
    · exact .inl ⟨env, st, cs, B, hs, hk⟩
def fndF : D → List D → Option Sl
  | .str a, [.str b] => some (.fz (.int (Txt.find a b)))
  | _, _ => none
theorem fnd_ok {y : D} {ds : List D} {r : Sl} (h : fndF y ds = some r) : SoundB K x (fun x xs H Q => ∃ a b, x = .str a ∧ xs = [.str b] ∧ Q (.int (Txt.find a b)) H) y ds r := by
  unfold fndF at h
  split at h
  · cases h
    refine ⟨(fun z => nomatch z), fun cs B H v vs Q s l rp k => ?_⟩
    obtain ⟨w, rfl, rw⟩ := RpL.one rp
    cases rw
    exact ⟨_, _, l.str, rfl, k _ B H (Gr.refl s) (.int _)⟩
  · cases h
def seqS : D → Option (List Str)
  | .lst xs => strL xs
  | .tup _ xs => strL xs
  | _ => none
def jnF : D → List D → Option Sl
  | .str a, [d] => match seqS d with
    | some ys => grd (decide ((ys.map (·.length)).sum + ys.length * a.length ≤ 16777216)) (.fz (.str (Txt.join a ys)))
    | none => none
  | _, _ => none
theorem jn_ok {y : D} {ds : List D} {r : Sl} (h : jnF y ds = some r) : SoundB K x (fun x xs H Q => ∃ a p, ∃ ys : List Str, x = .str a ∧ xs = [.ref p] ∧ (SqL K H p (ys.map V.str) ∨ SqT K H p (ys.map V.str)) ∧
    (ys.map (·.length)).sum + ys.length * a.length ≤ 16777216 ∧ Q (.str (Txt.join a ys)) H) y ds r := by
  unfold jnF at h
  split at h
  · rename_i a d
    split at h
    · rename_i ys hys
      obtain ⟨h1, h2⟩ := grd_some h
      cases h2
      refine ⟨(fun z => nomatch z), fun cs B H v vs Q s l rp k => ?_⟩
      obtain ⟨w, rfl, rw⟩ := RpL.one rp
      cases d with
      | lst xs =>
        have := strL_some (show strL xs = some ys from hys)
        subst this
        obtain ⟨p, us, rfl, e1, e2⟩ := Lk.lst s (.inl rw)
        have e3 := e2.strs
        subst e3
        exact ⟨a, p, ys, l.str, rfl, .inl (SqL.of e1), of_decide_eq_true h1, k _ B H (Gr.refl s) (.str _)⟩
      | tup m xs =>
        have := strL_some (show strL xs = some ys from hys)
        subst this
        obtain ⟨p, us, rfl, e0, e1, e2⟩ := Lk.tup s (.inl rw)
        have e3 := e2.strs
        subst e3
        exact ⟨a, p, ys, l.str, rfl, .inr e1, of_decide_eq_true h1, k _ B H (Gr.refl s) (.str _)⟩
      | _ => cases hys
    · cases h
  · cases h
def splF : D → List D → Option Sl
  | .str a, [.str b] => grd (!(b.length == 0) && decide (a.length + 2 ≤ sizeLine)) (.ow (.lst ((Txt.split a b).map D.str)))
  | _, _ => none
theorem rpl_strs {ca : Str → Addr} {cs : List Addr} {B : Hp} : ∀ (is : List Str), RpL K ca cs B (is.map V.str) (is.map D.str)
  | [] => .nil
  | i :: is => .cons (.str i) (rpl_strs is)
theorem spl_ok {y : D} {ds : List D} {r : Sl} (h : splF y ds = some r) : SoundB K x (fun x xs H Q => ∃ a b, x = .str a ∧ xs = [.str b] ∧ (b.length == 0) = false ∧ a.length + 2 ≤ sizeLine ∧ rNewStrs (Txt.split a b) H Q) y ds r := by
  unfold splF at h
  split at h
  · obtain ⟨h1, h2⟩ := grd_some h
    cases h2
    rw [Bool.and_eq_true] at h1
    refine ⟨(fun z => nomatch z), fun cs B H v vs Q s l rp k => ?_⟩
    obtain ⟨w, rfl, rw⟩ := RpL.one rp
    cases rw
    exact ⟨_, _, l.str, rfl, by simpa using h1.1, of_decide_eq_true h1.2, fun p hp => k p B _ (Gr.own s hp) hp ⟨_, upd_same, free_b s hp, rpl_strs _⟩⟩
  · cases h
/-- a method of a built-in type with one argument -/
def m1F (n : Str) : Option (M Pl → M D → M Sl) :=
  if n = "append" then some fun mo ma => mutM "list" (fun y ds => if ds.length = 1 then appF y ds else none) mo (argsV [ma])
  else if n = "pop" then some fun mo ma => mutM "list" (fun y ds => if ds.length = 1 then popF y ds else none) mo (argsV [ma])
  else if n = "index" then some ixM
  else if n = "find" then some fun mo ma => bmM "str" fndF mo (argsV [ma])
  else if n = "join" then some fun mo ma => bmM "str" jnF mo (argsV [ma])
  else if n = "split" then some fun mo ma => bmM "str" splF mo (argsV [ma])
  else none
theorem pe_m1F {n : Str} {g : M Pl → M D → M Sl} (hg : m1F n = some g) (ho : PE X o (tL X.K x W mo)) (hn : nst e = true) (ha : PE X e (tV X.K x W ma)) (hbase : attributeBase o n X.env (eval o X.env) = eval o X.env) (hline : (apos.endLine == cpos.line) = true) : PE X (.Call (.Attribute o n apos) [e] [] cpos) (tU X.K x W (g mo ma)) := by
  unfold m1F at hg
  split at hg
  · rename_i h; cases hg; subst h; exact pe_mut1 PySem.F.plainAttrs_list F.slot_list_append rfl (.inl rfl) mt_append (fun y z d' r h => app_ok' h) ho hn ha hbase hline
  split at hg
  · rename_i h; cases hg; subst h; exact pe_mut1 PySem.F.plainAttrs_list F.slot_list_pop rfl (.inl rfl) mt_popAt (fun y z d' r h => popAt_ok' h) ho hn ha hbase hline
  split at hg
  · rename_i h; cases hg; subst h; exact pe_ix ho hn ha hbase hline
  split at hg
  · rename_i h; cases hg; subst h; exact pe_bm1 PySem.F.plainAttrs_str F.slot_str_find rfl (.inr rfl) mt_find (fun y ds r h => fnd_ok h) ho hn ha hbase hline
  split at hg
  · rename_i h; cases hg; subst h; exact pe_bm1 PySem.F.plainAttrs_str F.slot_str_join rfl (.inr rfl) mt_join (fun y ds r h => jn_ok h) ho hn ha hbase hline
  split at hg
  · rename_i h; cases hg; subst h; exact pe_bm1 PySem.F.plainAttrs_str F.slot_str_split rfl (.inr rfl) mt_split (fun y ds r h => spl_ok h) ho hn ha hbase hline
  · cases hg
end
def putD {κ : Type} [DecidableEq κ] (kvs : List (κ × D)) (k : κ) (v : D) : List (κ × D) :=
  if (kvs.any fun kv => decide (kv.1 = k)) = true then kvs.map (fun kv => if kv.1 = k then (kv.1, v) else kv) else kvs ++ [(k, v)]
def setF : D → List D → Option (D × D)
  | .lst xs, [.int i, d] => (ixN xs.length i).map fun j => (.lst (xs.set j d), .non)
  | .dcK kvs, [i, d] => match keyD i with
    | some k => grd (decide (kvs.length < sizeLine)) (.dcK (putD kvs k d), .non)
    | none => match kvs, keysD i with
      | [], some ks => some (.dcT [(ks, d)], .non)
      | _, _ => none
  | .dcT kvs, [i, d] => match keysD i with
    | some ks => grd (decide (kvs.length < sizeLine)) (.dcT (putD kvs ks d), .non)
    | none => none
  | _, _ => none
section
variable {K : Fg} {x : Fx} {W : WX} {X : Cx} {σ : L2.St} {H : Hp}
theorem put_rp {κ : Type} [DecidableEq κ] {ca : Str → Addr} {cs : List Addr} {B : Hp} {k : κ} {v : V} {d : D} (r : Rp K ca cs B v d) {ws : List (κ × V)} {kvs : List (κ × D)} (e : ws.map (·.1) = kvs.map (·.1)) (h : RpL K ca cs B (ws.map (·.2)) (kvs.map (·.2))) :
    (putK ws k v).map (·.1) = (putD kvs k d).map (·.1) ∧ RpL K ca cs B ((putK ws k v).map (·.2)) ((putD kvs k d).map (·.2)) := by
  have ha : ∀ {ws : List (κ × V)} {kvs : List (κ × D)}, ws.map (·.1) = kvs.map (·.1) → (ws.any fun kv => decide (kv.1 = k)) = kvs.any fun kv => decide (kv.1 = k) := fun {ws} => by
    induction ws with
    | nil => intro kvs e; cases kvs with
      | nil => rfl
      | cons _ _ => cases e
    | cons w ws ih => intro kvs e; cases kvs with
      | nil => cases e
      | cons y kvs =>
        rw [List.map_cons, List.map_cons] at e
        obtain ⟨e1, e2⟩ := List.cons.inj e
        rw [List.any_cons, List.any_cons, ih e2, e1]
  unfold putK putD
  rw [ha e]
  split
  · rename_i hx; clear hx
    have : ∀ {ws : List (κ × V)} {kvs : List (κ × D)}, ws.map (·.1) = kvs.map (·.1) → RpL K ca cs B (ws.map (·.2)) (kvs.map (·.2)) →
        ((ws.map fun kv => if kv.1 = k then (kv.1, v) else kv).map (·.1) = (kvs.map fun kv => if kv.1 = k then (kv.1, d) else kv).map (·.1)) ∧ RpL K ca cs B ((ws.map fun kv => if kv.1 = k then (kv.1, v) else kv).map (·.2)) ((kvs.map fun kv => if kv.1 = k then (kv.1, d) else kv).map (·.2)) := fun {ws} => by
      induction ws with
      | nil => intro kvs e h; cases kvs with
        | nil => exact ⟨rfl, .nil⟩
        | cons _ _ => cases e
      | cons w ws ih => intro kvs e h; cases kvs with
        | nil => cases e
        | cons y kvs =>
          rw [List.map_cons, List.map_cons] at e h
          obtain ⟨e1, e2⟩ := List.cons.inj e
          cases h with
          | cons h1 h2 =>
            obtain ⟨i1, i2⟩ := ih e2 h2
            simp only [List.map_cons]
            by_cases z : y.1 = k
            · rw [if_pos z, if_pos (e1.trans z)]
              exact ⟨by rw [i1]; exact congrArg (· :: _) e1, .cons r i2⟩
            · rw [if_neg z, if_neg (fun q => z (e1.symm.trans q))]
              exact ⟨by rw [i1]; exact congrArg (· :: _) e1, .cons h1 i2⟩
    exact this e h
  · simp only [List.map_append, List.map_cons, List.map_nil]
    exact ⟨by rw [e], h.app (.cons r .nil)⟩
theorem upd_upd {H : Hp} {a : Addr} {o u : HO} : upd (upd H a o) a u = upd H a u := by
  funext b
  by_cases z : b = a
  · subst z; rw [upd_same, upd_same]
  · rw [upd_ne z, upd_ne z, upd_ne z]
def rSet0 : TSet := fun o i v H Q => ∃ a b, ∃ k : List Key, o = .ref a ∧ i = .ref b ∧ H a = some (.dK []) ∧ H b = some (.tup (k.map kV)) ∧ Q (upd H a (.dT [(k, v)]))
theorem set_dict0 (hu : X.A.units + 1 < cLine) : PSet X rSet0 := by
  intro pins s σ H o i v ov iv u Q I ro ri rv h
  obtain ⟨a, b, k, rfl, rfl, ha, hb, q⟩ := h
  cases (show ov = Value.ref a from ro)
  have I2 := inv_dT I ha
  have hab : b ≠ a := fun z => by rw [z, ha] at hb; cases hb
  refine d_setItem hu I2 (DPut.t (kvs := []) (k := k) (b := b) upd_same (by rw [upd_ne hab]; exact hb) (by decide)) ri rv fun s' I' => ⟨_, I', ?_⟩
  rw [upd_upd]
  exact q
def SoundT (K : Fg) (x : Fx) (rr : TSet) (y i d d' : D) : Prop := ∀ (cs : List Addr) (B H : Hp) (q : Addr) (w v : V) (N : Hp → Prop), Sme B H → Own K x.ca cs B H q y → Rp K x.ca cs B w i → Rp K x.ca cs B v d →
  (∀ o, (∀ ws, o ≠ .tup ws) → Own K x.ca cs B (upd H q o) q d' → N (upd H q o)) → rr (.ref q) w v H N
theorem set_ok (hu : X.A.units + 1 < cLine) (y i d d' r : D) (h : setF y [i, d] = some (d', r)) : ∃ rr, PSet X rr ∧ SoundT X.K x rr y i d d' := by
  unfold setF at h
  split at h
  · rename_i xs ii dd he
    cases he
    obtain ⟨j, h1, h2⟩ := Option.map_eq_some_iff.mp h
    cases h2
    refine ⟨_, set_list, fun cs B H q w v N s o rw rv k => ?_⟩
    obtain ⟨ws, e1, e2, e3⟩ := o
    cases rw
    exact ⟨q, ws, ii, j, rfl, rfl, e1, by rw [e3.len]; exact h1, k _ (fun _ z => nomatch z) ⟨_, upd_same, e2, RpL.set rv j e3⟩⟩
  · rename_i kvs ii dd he
    cases he
    split at h
    · rename_i kk hk
      obtain ⟨h1, h2⟩ := grd_some h
      cases h2
      refine ⟨_, set_dict hu, fun cs B H q w v N s o rw rv k => ?_⟩
      obtain ⟨ws, e1, e2, e3, e4⟩ := o
      have hw := key_of' (H := H) (.inl rw) hk
      subst hw
      have hl : ws.length < sizeLine := by
        have : ws.length = kvs.length := by have := congrArg List.length e3; simpa using this
        rw [this]; exact of_decide_eq_true h1
      obtain ⟨p1, p2⟩ := put_rp (k := kk) rv e3 e4
      exact ⟨q, _, rfl, DPut.k e1 hl, k _ (fun _ z => nomatch z) ⟨_, upd_same, e2, p1, p2⟩⟩
    · split at h
      · rename_i ks hk
        cases h
        refine ⟨_, set_dict0 hu, fun cs B H q w v N s o rw rv k => ?_⟩
        obtain ⟨ws, e1, e2, e3, e4⟩ := o
        obtain ⟨b, rfl, hb, hb2⟩ := keys_of' s (.inl rw) hk
        cases ws with
        | cons _ _ => cases e3
        | nil => exact ⟨q, b, ks, rfl, rfl, e1, hb2, k _ (fun _ z => nomatch z) ⟨_, upd_same, e2, rfl, .cons rv .nil⟩⟩
      · cases h
  · rename_i kvs ii dd he
    cases he
    split at h
    · rename_i ks hk
      obtain ⟨h1, h2⟩ := grd_some h
      cases h2
      refine ⟨_, set_dict hu, fun cs B H q w v N s o rw rv k => ?_⟩
      obtain ⟨ws, e1, e2, e3, e4⟩ := o
      obtain ⟨b, rfl, hb, hb2⟩ := keys_of' s (.inl rw) hk
      have hl : ws.length < sizeLine := by
        have : ws.length = kvs.length := by have := congrArg List.length e3; simpa using this
        rw [this]; exact of_decide_eq_true h1
      obtain ⟨p1, p2⟩ := put_rp (k := ks) rv e3 e4
      exact ⟨q, _, rfl, DPut.t e1 hb2 hl, k _ (fun _ z => nomatch z) ⟨_, upd_same, e2, p1, p2⟩⟩
    · cases h
  · cases h
def tgS (mo : M Pl) (mi : M D) (d : D) : M Unit := mo.bind fun p => mi.bind fun i => (chgM setF p [i, d]).bind fun _ => M.ret ()
theorem tG_sub {mo : M Pl} {mi : M D} {v : V} {N : L2.St → Hp → Prop} {P : TSet → Prop} (hP : ∃ rr, P rr) (hf : ∀ y i d d' r, setF y [i, d] = some (d', r) → ∃ rr, P rr ∧ SoundT K x rr y i d d') (h : tG K x W (tgS mo mi) v σ H N) :
    ∃ rr, P rr ∧ gSub (tL K x W mo) (tV K x W mi) rr v σ H N := by
  obtain ⟨rr0, hrr0⟩ := hP
  obtain ⟨env, st, cs, B, d, hs, hd, ho⟩ := h
  have ho := (outS.bind ho)
  cases hm : mo env st with
  | stuck => rw [hm] at ho; exact ho.elim
  | exn c fs e' s' => rw [hm] at ho; exact ⟨rr0, hrr0, env, st, cs, B, hs, by rw [hm]; exact ho σ⟩
  | ok p e1 s1 =>
    rw [hm] at ho
    have ho1 := outS.bind ho.now
    cases ha : mi e1 s1 with
    | stuck => rw [ha] at ho1; exact ho1.elim
    | exn c fs e' s' =>
      refine ⟨rr0, hrr0, env, st, cs, B, hs, ?_⟩
      rw [hm]
      intro cs1 B1 sb1 pr1 v H1 sx1 pl1
      refine ⟨e1, s1, cs1, B1, sx1, ?_⟩
      rw [ha] at ho1 ⊢
      exact outE.up (ho1 σ) sb1 pr1
    | ok i e2 s2 =>
      rw [ha] at ho1
      obtain ⟨y, d', r, e3, s3, hfy, hq, hk⟩ := chg_out (((outS.bind ho1.now)).g σ)
      obtain ⟨rr, hrr, hsound⟩ := hf y i d d' r hfy
      refine ⟨rr, hrr, env, st, cs, B, hs, ?_⟩
      rw [hm]
      intro cs1 B1 sb1 pr1 u H1 sx1 pl1
      refine ⟨e1, s1, cs1, B1, sx1, ?_⟩
      rw [ha]
      intro cs2 B2 sb2 pr2 w H2 sx2 rw2
      obtain ⟨q, rfl, ow, hwr⟩ := hq sx2 (pl1.mono sb2 pr2)
      refine hsound cs2 B2 H2 q w v _ sx2.s ow rw2 (hd.mono (sb1.trans sb2) (pr1.trans pr2)) fun o hno ow' => ?_
      exact (show outS K x W cs2 B2 (.ok () e3 s3) (qG K x N) from hk cs2 B2 (sb1.trans sb2) (pr1.trans pr2)).now _ _ (hwr o hno ow')
def nsl : Expr → Bool
  | .Slice _ _ _ _ => false
  | _ => true
theorem asg_sub {o i : Expr} {pos : Pos} {env : PySem.Env} (h : nsl i = true) (v : Value) : assign (.Subscript o i pos) env v = (do
      let ov ← holding [v] (eval o env)
      let iv ← holding [v, ov] (eval i env)
      standAt pos
      holding [v, ov, iv] (setItem ov iv v)
      release [v, ov, iv] []) := by
  cases i <;> first | rfl | cases h
theorem pg_subM (hu : X.A.units + 1 < cLine) {o i : Expr} {pos : Pos} {mo : M Pl} {mi : M D} (hn : nsl i = true) (ho : PE X o (tL X.K x W mo)) (hi : PE X i (tV X.K x W mi)) : PG X (.Subscript o i pos) (tG X.K x W (tgS mo mi)) :=
  PG.imp (PG.all (P := fun t => ∃ rr, PSet X rr ∧ t = gSub (tL X.K x W mo) (tV X.K x W mi) rr) fun t ⟨rr, h1, h2⟩ => by subst h2; exact pg_sub ho hi h1 (asg_sub hn)) fun v σ H N h => by
    obtain ⟨rr, h1, h2⟩ := tG_sub (P := PSet X) ⟨_, set_list⟩ (fun y i d d' r hh => set_ok hu y i d d' r hh) h
    exact ⟨_, ⟨rr, h1, rfl⟩, h2⟩
structure ClsOk (K : Fg) (ca : Str → Addr) (fl : Str → Str → Bool) : Prop where
  cls : ∀ c f, fl c f = true → Cls K (ca c) ∧ NoAttr K (ca c) f
def fldD (fl : Str → Str → Bool) (f : Str) : D → Option Sl
  | .obj c fs => if fl c f then (fs.lookup f).map fun d => .fz d else none
  | _ => none
theorem look_rp {ca : Str → Addr} {cs : List Addr} {B : Hp} {f : Str} : ∀ {ws : List (Str × V)} {fs : Flds}, ws.map (·.1) = fs.map (·.1) → RpL K ca cs B (ws.map (·.2)) (fs.map (·.2)) → ∀ {d : D}, fs.lookup f = some d → ∃ v, ws.lookup f = some v ∧ Rp K ca cs B v d
  | [], [], _, _, _, h => by cases h
  | [], _ :: _, e, _, _, _ => by cases e
  | _ :: _, [], e, _, _, _ => by cases e
  | w :: ws, y :: fs, e, r, d, h => by
    rw [List.map_cons, List.map_cons] at e r
    obtain ⟨e1, e2⟩ := List.cons.inj e
    cases r with
    | cons r1 r2 =>
      obtain ⟨g, z⟩ := y
      obtain ⟨g', z'⟩ := w
      cases e1
      rw [List.lookup_cons] at h ⊢
      cases hg : f == g with
      | true => rw [hg] at h; cases h; exact ⟨_, by simp only [hg], r1⟩
      | false => rw [hg] at h; obtain ⟨v, a, b⟩ := look_rp e2 r2 h; exact ⟨v, by simp only [hg]; exact a, b⟩
theorem pe_fldM {ca : Str → Addr} {fl : Str → Str → Bool} (ck : ClsOk X.K ca fl) (hca : x.ca = ca) {o : Expr} {f : Str} {pos : Pos} {mo : M Pl} (ho : PE X o (tL X.K x W mo)) (hb : attributeBase o f X.env (eval o X.env) = eval o X.env) : PE X (.Attribute o f pos) (tU X.K x W (un1 (fldD fl f) mo)) :=
  PE.imp (pe_fld ho hb) fun σ H Q ⟨env, st, cs, B, hs, ho⟩ => ⟨env, st, cs, B, hs, (outG.bind ho).imp fun p e s cs1 B1 k v H1 sx pl => by
    obtain ⟨y, k, hy⟩ := outG.rsv k
    obtain ⟨r, hr, k⟩ := outG.lift k
    cases y with
    | obj c fs =>
      unfold fldD at hr
      simp only at hr
      split at hr
      · rename_i hfl
        obtain ⟨d, h1, h2⟩ := Option.map_eq_some_iff.mp hr
        subst h2
        obtain ⟨a, dx, ws, rfl, e1, e2, e3⟩ := Lk.obj sx.s (hy sx pl)
        obtain ⟨u, u1, u2⟩ := look_rp e2 e3 h1
        obtain ⟨c1, c2⟩ := ck.cls c f hfl
        rw [← hca] at c1 c2
        exact ⟨a, _, dx, ws, u, rfl, e1, c1, c2, u1, k u H1 (sx.fz u2)⟩
      · cases hr
    | _ => cases hr⟩
def putFD (f : Str) (v : D) : Flds → Flds
  | [] => [(f, v)]
  | (g, x) :: r => if g = f then (g, v) :: r else (g, x) :: putFD f v r
def sfF (fl : Str → Str → Bool) (f : Str) : D → List D → Option (D × D)
  | .obj c fs, [d] => if fl c f && decide (fs.length < 1000) then some (.obj c (putFD f d fs), .non) else none
  | _, _ => none
theorem putF_rp {ca : Str → Addr} {cs : List Addr} {B : Hp} {f : Str} {v : V} {d : D} (r : Rp K ca cs B v d) : ∀ {ws : List (Str × V)} {fs : Flds}, ws.map (·.1) = fs.map (·.1) → RpL K ca cs B (ws.map (·.2)) (fs.map (·.2)) →
    (putF f v ws).map (·.1) = (putFD f d fs).map (·.1) ∧ RpL K ca cs B ((putF f v ws).map (·.2)) ((putFD f d fs).map (·.2))
  | [], [], _, _ => ⟨rfl, .cons r .nil⟩
  | [], _ :: _, e, _ => by cases e
  | _ :: _, [], e, _ => by cases e
  | (g', z') :: ws, (g, z) :: fs, e, h => by
    rw [List.map_cons, List.map_cons] at e h
    obtain ⟨e1, e2⟩ := List.cons.inj e
    cases e1
    cases h with
    | cons h1 h2 =>
      unfold putF putFD
      by_cases q : g' = f
      · rw [if_pos q, if_pos q]
        exact ⟨congrArg (g' :: ·) e2, .cons r h2⟩
      · rw [if_neg q, if_neg q]
        obtain ⟨i1, i2⟩ := putF_rp r e2 h2
        exact ⟨congrArg (g' :: ·) i1, .cons h1 i2⟩
def setFld (fl : Str → Str → Bool) (f : Str) (mo : M Pl) (mv : M D) : M Fw := mv.bind fun d => mo.bind fun p => (chgM (sfF fl f) p [d]).bind fun _ => M.ret .nx
theorem ps_fldM {ca : Str → Addr} {fl : Str → Str → Bool} (ck : ClsOk X.K ca fl) (hca : x.ca = ca) {o value : Expr} {f : Str} {pos pos' : Pos} {mo : M Pl} {mv : M D} (ho : PE X o (tL X.K x W mo)) (hv : PE X value (tV X.K x W mv)) (hs : swapsWith value (some (.Attribute o f pos')) pos.line X.env = pure false) : PS X (.Assign [.Attribute o f pos'] value pos) (tS X.K x W (setFld fl f mo mv)) :=
  PS.imp (ps_fld ho hv hs) fun D σ H ⟨env, st, cs, B, hs, ho⟩ => ⟨env, st, cs, B, hs, ((outS.bind ho).g σ).imp fun d e s cs1 B1 k v H1 sx1 r1 => by
    refine ⟨e, s, cs1, B1, sx1, ((outS.bind k).g σ).imp' fun p e2 s2 cs2 B2 _ sb pr k2 u H2 sx2 pl2 => ?_⟩
    obtain ⟨y, d', r, e3, s3, hfy, hq, hk⟩ := chg_out ((outS.bind k2).g σ)
    obtain ⟨q, rfl, ow, hwr⟩ := hq sx2 pl2
    cases y with
    | obj c fs =>
      unfold sfF at hfy
      simp only at hfy
      split at hfy
      · rename_i hfl
        cases hfy
        rw [Bool.and_eq_true] at hfl
        obtain ⟨dx, ws, o1, o2, o3, o4⟩ := ow
        obtain ⟨c1, c2⟩ := ck.cls c f hfl.1
        rw [← hca] at c1 c2
        have hl : ws.length < 1000 := by
          have : ws.length = fs.length := by have := congrArg List.length o3; simpa using this
          rw [this]; exact of_decide_eq_true hfl.2
        obtain ⟨p1, p2⟩ := putF_rp (f := f) (r1.mono sb pr) o3 o4
        refine ⟨q, _, dx, ws, rfl, o1, c1, c2, hl, ?_⟩
        exact (show outS X.K x W cs2 B2 (.ok Fw.nx e3 s3) (qS X.K x D) from hk cs2 B2 (Sme.refl _) (Pre.refl _)).now σ _ (hwr _ (fun _ z => nomatch z) ⟨dx, _, upd_same, o2, p1, p2⟩)
      · cases hfy
    | _ => cases hfy⟩
end
end Dn
end
section
set_option maxHeartbeats 200000
namespace Dn
open PySem L2
/-- the entry of a call made now -/
def Fx.now (x : Fx) (cs : List Addr) (B H : Hp) : Fx := ⟨x.T, x.ca, B, H, cs⟩
section
variable {K : Fg} {x : Fx} {env es : Env} {st st' : List D} {cs cs' : List Addr} {σ τ : L2.St} {B H B' H' : Hp}
theorem SX.enter (h : SX K x env st cs σ B H) : SX K (x.now cs B H) [] st cs [] B H := by
  have hs := h.s
  obtain ⟨ows, h⟩ := h
  exact ⟨[], ⟨Gr.refl hs, h.tb, .nil, h.ce, (List.nodup_append.mp h.nd).2.1, Pre.refl _, fun p hp => (nomatch hp), fun p hp hn => absurd hp hn⟩⟩
theorem EnvR.app {ca : Str → Addr} : ∀ {es : Env} {τ : L2.St} {ps : List Addr}, EnvR K ca cs B H es τ ps → ∀ {env : Env} {σ : L2.St} {qs : List Addr}, EnvR K ca cs B H env σ qs → EnvR K ca cs B H (es ++ env) (τ ++ σ) (ps ++ qs)
  | _, _, _, .nil, _, _, _, h => h
  | _, _, _, .cons r t, _, _, _, h => by rw [List.append_assoc]; exact .cons r (t.app h)
theorem SX.call (h : SX K x env st cs σ B H) (h' : SX K (x.now cs B H) es st' cs' τ B' H') : SX K x (es ++ env) st' cs' (τ ++ σ) B' H' := by
  obtain ⟨ows, h⟩ := h
  obtain ⟨ps, h'⟩ := h'
  have g' : Gr x.T cs B H B' H' := h'.g
  have nd := List.nodup_append.mp h.nd
  have fr : ∀ p, H p = none → x.H0 p = none := fun p hp => h.g.fresh0 h.live0 hp
  have hps : ∀ p ∈ ps, H p = none := h'.fo
  have hcs : ∀ p ∈ cs', p ∉ cs → H p = none := h'.fc
  have pre : Pre cs cs' := h'.pr
  have no : ∀ q ∈ ows, q ∉ cs := fun q hq hc => nd.2.2 q hq q hc rfl
  refine ⟨ps ++ ows, ⟨⟨h.g.b.trans g'.b, fun a o ha ho => ?_, g'.s, fun a ha hb => g'.n a (h.g.stay ha) (h.g.n a ha hb), fun z => g'.t (h.g.t z), fun p hp hh => g'.stay (h.g.l p hp hh)⟩, h'.tb, EnvR.app h'.en (h.en.keep g'.b pre fun q hq => g'.kp (no q hq)), h'.ce, ?_, h.pr.trans pre, fun p hp => ?_, fun p hp hn => ?_⟩⟩
  · have hac : a ∉ cs := fun z => by
      have := h.fc a z ha
      rw [ho] at this; cases this
    rcases h.g.h a o ha ho with q | ⟨xs, ys, e, q⟩ | ⟨d, nb, ob, q⟩
    · exact g'.h a o hac q
    · rcases g'.h a _ hac q with q' | ⟨_, zs, _, q'⟩ | ⟨d, _⟩
      · exact .inr (.inl ⟨xs, ys, e, q'⟩)
      · exact .inr (.inl ⟨xs, zs, e, q'⟩)
      · exact d.elim
    · rcases g'.h a _ hac q with q' | ⟨_, zs, z, q'⟩ | ⟨d', _⟩
      · exact .inr (.inr ⟨d, nn_of g'.b nb, ob, q'⟩)
      · cases z
      · exact d'.elim
  · have ndp := List.nodup_append.mp h'.nd
    rw [List.append_assoc]
    refine List.nodup_append.mpr ⟨ndp.1, List.nodup_append.mpr ⟨nd.1, ndp.2.1, fun a ha b hb e => ?_⟩, fun a ha b hb e => ?_⟩
    · subst e
      by_cases hc : a ∈ cs
      · exact no a ha hc
      · exact (en_live h.en a ha).ne (hcs a hb hc)
    · subst e
      rcases List.mem_append.mp hb with z | z
      · exact (en_live h.en a z).ne (hps a ha)
      · exact ndp.2.2 a ha a z rfl
  · rcases List.mem_append.mp hp with z | z
    · exact fr p (hps p z)
    · exact h.fo p z
  · by_cases hc : p ∈ cs
    · exact h.fc p hc hn
    · exact fr p (hcs p hp hc)
end
abbrev CF := List D → List D → Out Sl
def envE {α : Type} : Out α → Env
  | .stuck => []
  | .ok _ e _ => e
  | .exn _ _ e _ => e
def okC (cf : CF) : Prop := ∀ ds s, envE (cf ds s) = []
def spF (K : Fg) (T : List NTb) (ca : Str → Addr) (cf : CF) : Sp := fun vs H Q E => ∃ ds st cs B, SX K ⟨T, ca, B, H, cs⟩ [] st cs [] B H ∧ RpL K ca cs B vs ds ∧
  outG K ⟨T, ca, B, H, cs⟩ (fun cls d _ H => E cls d H) [] cs B (cf ds st) (fun r _ s cs' B' => ∀ u H', SX K ⟨T, ca, B, H, cs⟩ [r] s cs' [some u] B' H' → Q u H')
/-- a call: the caller's slots stay -/
def runC (cf : CF) (ds : List D) : M Sl := fun e s => match cf ds s with
  | .ok r _ s' => .ok r e s'
  | .exn c fs _ s' => .exn c fs e s'
  | .stuck => .stuck
def callM (cf : CF) (ma : M (List D)) : M Sl := ma.bind (runC cf)
section
variable {K : Fg} {x : Fx} {W : WX} {X : Cx} {σ : L2.St} {H : Hp} {Q : VK} {env : Env} {st : List D} {cs : List Addr} {B : Hp}
/-- the caller's side -/
theorem sp_of {cf : CF} {ds : List D} {vs : List V} (oc : okC cf) (sx : SX K x env st cs σ B H) (r : RpL K x.ca cs B vs ds) (ho : outG K x W σ cs B (runC cf ds env st) (qU K x σ Q)) : spF K x.T x.ca cf vs H Q (WE W σ) := by
  refine ⟨ds, st, cs, B, sx.enter, r, ?_⟩
  have hoc := oc ds st
  unfold runC at ho
  cases hc : cf ds st with
  | stuck => rw [hc] at ho; exact ho
  | ok r e s =>
    rw [hc] at ho
    exact fun cs' B' sb pr u H' sx' => ho cs' B' sb pr u H' (sx.call sx')
  | exn c fs e s =>
    rw [hc] at ho hoc
    have he : e = [] := hoc
    subst he
    exact fun cls d cs' B' H' sx' sb pr ex => ho cls d cs' B' H' (sx.call sx') sb pr ex
theorem tU_call {cf : CF} {ma : M (List D)} (oc : okC cf) (h : tU K x W (callM cf ma) σ H Q) : tCallS (spF K x.T x.ca cf) (WE W) (tA K x W ma) σ H Q := by
  obtain ⟨env, st, cs, B, hs, ho⟩ := h
  exact ⟨env, st, cs, B, hs, (outG.bind ho).imp fun ds e s cs1 B1 k vs H1 sx1 r1 => sp_of oc sx1 r1 k⟩
theorem pe_callM {T : List NTb} {ca : Str → Addr} {f : Addr} {fd : FuncData} {ps : List Str} {k : Nat} {cf : CF} {n : Str} {p pos : Pos} {e : Expr} {es : List Expr} {ma : M (List D)} (hT : x.T = T) (hca : x.ca = ca) (oc : okC cf) (F : FnOk X.prog X.w X.K X.mg X.base (L2N.CX X.prog X.w) k f fd ps (spF X.K T ca cf)) (hr : Room k X.A) (hg : Gl X n) (hm : X.mg n = some (.ref f)) (hk : PySem.W.keepIn X.K (.ref f) = true) (hb : Binds X.K fd ps []) (tk : L2N.Takes X W)
    (hd : (n == ("__debug__" : Str)) = false) (hs : (e :: es).all nst = true) (ha : PA X (e :: es) (tA X.K x W ma)) : PE X (.Call (.Name n p) (e :: es) [] pos) (tU X.K x W (callM cf ma)) := by
  subst hT hca
  rw [List.all_cons, Bool.and_eq_true] at hs
  exact PE.imp (pe_callS F hr hg hm hk hb (fun σ => L2N.passAt tk σ) ha hd (nst_ok hs.1) (nst_all hs.2)) fun σ H Q h => tU_call oc h
end
def slots (N : List Str) (ds : List D) : Env := ds.map Sl.fz ++ List.replicate (N.length - ds.length) .un
/-- what a body says, as a call -/
def bodyC (np : Nat) (N : List Str) (m : M Fw) : CF := fun ds s => if ds.length = np then match m (slots N ds) s with
  | .ok .nx _ s' => .ok (.fz .non) [] s'
  | .ok (.rt r) _ s' => .ok r [] s'
  | .ok _ _ _ => .stuck
  | .exn c fs _ s' => .exn c fs [] s'
  | .stuck => .stuck
  else .stuck
theorem bodyC_ok (np : Nat) (N : List Str) (m : M Fw) : okC (bodyC np N m) := fun ds s => by
  unfold bodyC
  by_cases h : ds.length = np
  · rw [if_pos h]
    cases hm : m (slots N ds) s with
    | stuck => rfl
    | ok f e s' => cases f <;> rfl
    | exn c fs e s' => rfl
  · rw [if_neg h]; rfl
section
variable {K : Fg} {x : Fx} {st : List D} {cs : List Addr} {B H : Hp}
theorem SX.slots0 : ∀ (n : Nat), SX K x [] st cs [] B H → SX K x (List.replicate n .un) st cs (List.replicate n none) B H
  | 0, h => h
  | n + 1, h => by
    obtain ⟨ows, h⟩ := SX.slots0 n h
    exact ⟨[] ++ ows, ⟨h.g, h.tb, .cons rfl h.en, h.ce, h.nd, h.pr, h.fo, h.fc⟩⟩
theorem SX.params {env : Env} {σ : L2.St} (h : SX K x env st cs σ B H) : ∀ {vs : List V} {ds : List D}, RpL K x.ca cs B vs ds → SX K x (ds.map Sl.fz ++ env) st cs (vs.map some ++ σ) B H
  | _, _, .nil => h
  | _, _, .cons r t => (SX.params h t).fz r
theorem SX.drop {es env : Env} {τ σ : L2.St} (hl : es.length = τ.length) (h : SX K x (es ++ env) st cs (τ ++ σ) B H) : SX K x env st cs σ B H := by
  induction es generalizing τ with
  | nil => cases τ with
    | nil => exact h
    | cons _ _ => cases hl
  | cons e es ih => cases τ with
    | nil => cases hl
    | cons w τ => exact ih (by simpa using hl) h.tail
/-- all slots forgotten -/
theorem SX.bare {env : Env} {σ : L2.St} (h : SX K x env st cs σ B H) : SX K x [] st cs [] B H := by
  have hl := h.len
  induction env generalizing σ with
  | nil => cases σ with
    | nil => exact h
    | cons _ _ => cases hl
  | cons e es ih => cases σ with
    | nil => cases hl
    | cons w σ => exact ih h.tail (by simpa using hl)
/-- the top stays -/
theorem SX.top {r : Sl} {w : Option V} {env : Env} {σ : L2.St} (h : SX K x (r :: env) st cs (w :: σ) B H) : SX K x [r] st cs [w] B H := by
  obtain ⟨ows, h⟩ := h
  cases h with
  | mk g tb en ce nd pr fo fc =>
    cases en with
    | @cons _ _ ps _ _ qs rr t =>
      refine ⟨ps ++ [], ⟨g, tb, .cons rr .nil, ce, ?_, pr, fun p hp => fo p (by simp at hp; simp [hp]), fc⟩⟩
      rw [List.append_nil]
      rw [List.append_assoc] at nd
      have n := List.nodup_append.mp nd
      exact List.nodup_append.mpr ⟨n.1, (List.nodup_append.mp n.2.1).2.1, fun a ha b hb e => n.2.2 a ha b (by simp [hb]) e⟩
end
theorem body_ok {X : Cx} {T : List NTb} {ca : Str → Addr} {N : List Str} {np : Nat} {m : M Fw} {vs : List V} {H : Hp} {Q : VK} {E : XK} (hsp : spF X.K T ca (bodyC np N m) vs H Q E) :
    ∃ x : Fx, x.T = T ∧ x.ca = ca ∧ tS X.K x (fun cls d _ H => E cls d H) m { nx := fun _ H' => Q .non H', rt := Q, bk := fun _ _ => False, ct := fun _ _ => False } (L2.start N vs) H := by
  obtain ⟨ds, st, cs, B, sx, r, ho⟩ := hsp
  refine ⟨⟨T, ca, B, H, cs⟩, rfl, rfl, slots N ds, st, cs, B, ?_, ?_⟩
  · unfold slots L2.start
    rw [r.len]
    exact SX.params (SX.slots0 _ sx) r
  · unfold bodyC at ho
    split at ho
    · cases hm : m (slots N ds) st with
      | stuck => rw [hm] at ho; exact ho.elim
      | ok f e s =>
        rw [hm] at ho
        cases f with
        | nx => exact fun cs' B' sb pr σ' H' sx' => ho cs' B' sb pr .non H' (sx'.bare.fz .non)
        | rt r' => exact fun cs' B' sb pr u σ' H' sx' => ho cs' B' sb pr u H' sx'.top
        | bk => exact ho.elim
        | ct => exact ho.elim
      | exn c fs e s =>
        rw [hm] at ho
        exact fun σ' cls d cs' B' H' sx' sb pr ex => ho cls d cs' B' H' sx'.bare sb pr ex
    · exact ho.elim
end Dn
end
section
set_option maxHeartbeats 200000
namespace Dn
open PySem L2
/-- what every word may ask -/
structure Gw (X : Cx) : Prop where
  un : X.A.units + 65 < cLine
  nd : X.N.Nodup
theorem Gw.u1 {X : Cx} (g : Gw X) : X.A.units + 1 < cLine := by have := g.un; omega
structure Gd (X : Cx) (W : WX) : Prop extends Gw X where
  calm : X.calm = true
  tk : L2N.Takes X W
instance {X : Cx} {W : WX} : CoeOut (Gd X W) (Gw X) := ⟨Gd.toGw⟩
theorem Gd.blk {X : Cx} {W : WX} (g : Gd X W) (s : Shared) (H : Hp) (sc : Scope) (e : PySem.Env) (fp : List Addr) : Gd (X.blk s H sc e fp) WF :=
  ⟨⟨g.un, g.nd⟩, g.calm, fun u s' ⟨_, _, _, _, _, _, _, _, _, _, _, _, _, _, _, _, w⟩ => (show False from w)⟩
def lookM (m : M D) : M Pl := m.bind fun d => M.ret (.v d)
def cI (i : Int) : M Sl := M.ret (.fz (.int i))
def cS (s : Str) : M Sl := M.ret (.fz (.str s))
def cB (b : Bool) : M Sl := M.ret (.fz (.bl b))
def cN : M Sl := M.ret (.fz .non)
section
variable {x : Fx} {W : WX} {X : Cx} {n : Str} {i j : Nat} {pos p2 : Pos}
theorem w_var (hN : X.N[i]? = some n) (hv : Vis X.env.scope n) (hd : (n == ("__debug__" : Str)) = false := by decide) (hcd : (n == ("__classdict__" : Str)) = false := by decide) : PE X (.Name n pos) (tU X.K x W (rdN i)) := PE.imp (pe_var hN hv hd hcd) fun _ _ _ h => tU_rdN h
theorem w_lk (hN : X.N[i]? = some n) (hv : Vis X.env.scope n) (hd : (n == ("__debug__" : Str)) = false := by decide) (hcd : (n == ("__classdict__" : Str)) = false := by decide) : PE X (.Name n pos) (tL X.K x W (lkN i)) := PE.imp (pe_var hN hv hd hcd) fun _ _ _ h => tL_lkN h
theorem w_int {k : Int} : PE X (.Constant (.int k) j pos) (tU X.K x W (cI k)) := PE.imp pe_int fun _ _ _ h => tU_cst (fun _ _ => .int k) h
theorem w_str {k : Str} : PE X (.Constant (.str k) j pos) (tU X.K x W (cS k)) := PE.imp pe_str fun _ _ _ h => tU_cst (fun _ _ => .str k) h
theorem w_bl {k : Bool} : PE X (.Constant (.bool k) j pos) (tU X.K x W (cB k)) := PE.imp pe_bl fun _ _ _ h => tU_cst (fun _ _ => .bl k) h
theorem w_non : PE X (.Constant .none j pos) (tU X.K x W cN) := PE.imp pe_non fun _ _ _ h => tU_cst (fun _ _ => .non) h
theorem w_look {e : Expr} {m : M D} (h : PE X e (tV X.K x W m)) : PE X e (tL X.K x W (lookM m)) := PE.look h
variable {a b c : Expr} {ma mb : M Pl}
theorem w_bin {op : Operator} (ha : PE X a (tL X.K x W ma)) (hb : PE X b (tL X.K x W mb)) : PE X (.BinOp a op b pos) (tU X.K x W (bin2 (binD op) ma mb)) := pe_bin2 (bin_any op) (fun _ _ _ h => bin_ok op _ _ _ h) ha hb
theorem w_cmp (g : Gw X) {op : CmpOp} (ha : PE X a (tL X.K x W ma)) (hb : PE X b (tL X.K x W mb)) (hm : behindInMarks op b = false := by rfl) : PE X (.Compare a [op] [b] pos) (tU X.K x W (bin2 (cmpD op) ma mb)) := pe_cmp2 hm (cmp_any op) (fun _ _ _ h => cmp_ok g.un op _ _ _ h) ha hb
def cmpT (op : CmpOp) (ma mb : M Pl) : M Bool := (bin2 (cmpD op) ma mb).bind bool1
theorem wt_cmp (g : Gw X) {op : CmpOp} (ha : PE X a (tL X.K x W ma)) (hb : PE X b (tL X.K x W mb)) (hm : behindInMarks op b = false := by rfl) : PT X (.Compare a [op] [b] pos) (tT X.K x W (cmpT op ma mb)) := pt_cmp2 hm (cmp_any op) (fun _ _ _ h => cmp_ok g.un op _ _ _ h) ha hb
theorem plain_of (h : nsl b = true) : PlainIx b := by
  cases b <;> first | (intro _ _; rfl) | cases h
theorem w_ix (g : Gw X) (ha : PE X a (tL X.K x W ma)) (hb : PE X b (tL X.K x W mb)) (hn : nsl b = true := by rfl) : PE X (.Subscript a b pos) (tU X.K x W (bin2 ixD ma mb)) := pe_ix2 (plain_of hn) ix_any (fun _ _ _ h => ix_ok g.un _ _ _ h) ha hb
theorem wt_and1 {m : M Bool} (h : PT X a (tT X.K x W m)) : PW X (.BoolOp .And [a] pos) (tT X.K x W m) := pw_and1 h
theorem wt_or1 {m : M Bool} (h : PT X a (tT X.K x W m)) : PW X (.BoolOp .Or [a] pos) (tT X.K x W m) := pw_or1 h
end
section
variable {x : Fx} {W : WX} {X : Cx} {n : Str} {i j : Nat} {pos p2 : Pos} {e : Expr}
theorem s_set (g : Gw X) {m : M Sl} (hi : X.N[i]? = some n) (hx : Loc X.env.scope n) (he : PE X e (tU X.K x W m)) (hs : swapsWith e (some (.Name n p2)) pos.line X.env = pure false := by rfl) (hf : X.fn n = true ∨ X.env.scope.names.lookup n = some .local := by first | exact .inl rfl | exact .inr rfl) : PS X (.Assign [.Name n p2] e pos) (tS X.K x W (asgN i m)) :=
  PS.imp (ps_set g.nd hi hx he hs hf) fun D σ H h => tS_asgN h
theorem s_setC (g : Gw X) {m : M Sl} (hi : X.N[i]? = some n) (hx : Loc X.env.scope n) (he : PE X e (tU X.K x W m)) (hs : swapsWith e (some (.Name n p2)) pos.line X.env = pure false := by rfl) (hf : X.fn n = true ∨ X.env.scope.names.lookup n = some .local := by first | exact .inl rfl | exact .inr rfl) : PS X (.Assign [.Name n p2] e pos) (tS X.K x W (asgC i m)) :=
  PS.imp (ps_set g.nd hi hx he hs hf) fun D σ H h => tS_asgC h
theorem g_name (g : Gw X) (hi : X.N[i]? = some n) (hx : Loc X.env.scope n) (hf : X.fn n = true ∨ X.env.scope.names.lookup n = some .local := by first | exact .inl rfl | exact .inr rfl) : PG X (.Name n pos) (tG X.K x W (tgN i)) := pg_nameM (pg_name g.nd hi hx hf)
theorem g_nameW (g : Gw X) {vs : List Nat} (hv : i ∈ vs) (hi : X.N[i]? = some n) (hx : Loc X.env.scope n) (hf : X.fn n = true ∨ X.env.scope.names.lookup n = some .local := by first | exact .inl rfl | exact .inr rfl) : PG X (.Name n pos) (tW X.K x W vs (tgN i)) := pg_nameW hv (pg_name g.nd hi hx hf)
theorem g_cons {t : Expr} {ts : List Expr} {f : D → M Unit} {fs : List (D → M Unit)} (h1 : PG X t (tG X.K x W f)) (h2 : PGs X ts (tGs X.K x W (tgs fs))) (hs : (assignEach (t :: ts) X.env).map (·.2) = assign t X.env :: (assignEach ts X.env).map (·.2) := by rfl) : PGs X (t :: ts) (tGs X.K x W (tgs (f :: fs))) := pgs_consM h1 h2 hs
theorem g_tup (g : Gd X W) {es : List Expr} {k nn : Nat} {fs : List (D → M Unit)} (h : PGs X es (tGs X.K x W (tgs fs))) (hn : (assignEach es X.env).length = nn := by rfl) (hst : (assignEach es X.env).findIdx? (·.1) = none := by rfl) : PG X (.Tuple es k pos) (tG X.K x W (tgT nn fs)) := pg_tupM g.calm h hn hst
theorem s_asg {tg : Expr} {t : D → M Unit} {m : M D} (he : PE X e (tV X.K x W m)) (hg : PG X tg (tG X.K x W t)) (hs : swapsWithSole [tg] e pos.line X.env = pure false := by rfl) (hw : swappedStores [tg] e X.env = pure none := by rfl)
    (h1 : (assignEach [tg] X.env).map (·.2) = [assign tg X.env] := by rfl) : PS X (.Assign [tg] e pos) (tS X.K x W (asgG t m)) := PS.imp (ps_asg he hg hs hw h1) fun D σ H h => tS_asgG h
theorem s_for (g : Gd X W) {tg iter : Expr} {body : List Stmt} {it : M (List D)} {t : D → M Unit} {m : M Fw} (hp : PassesOwn (model X.prog X.w) X.A X.env X.xe) (hi : PI X tg iter (tI X.K x W it)) (hg : PG X tg (tG X.K x W t)) (hb : PSs X body (tS X.K x W m)) (hs : ∀ x, foldedSetIterable iter X.env x = pure x := by intro _; rfl) : PS X (.For tg iter body [] pos) (tS X.K x W (forS it t m)) :=
  PS.imp (ps_for hp g.calm hi hg hb hs) fun D σ H h => tS_for h
end
theorem sp_len {K : Fg} {T : List NTb} {ca : Str → Addr} {N : List Str} {np : Nat} {m : M Fw} {vs : List V} {H : Hp} {Q : VK} {E : XK} (h : spF K T ca (bodyC np N m) vs H Q E) : vs.length = np := by
  obtain ⟨ds, st, cs, B, sx, r, ho⟩ := h
  rw [r.len]
  unfold bodyC at ho
  split at ho
  · assumption
  · exact ho.elim
abbrev WQ (E : XK) : WX := fun cls d _ H => E cls d H
/-- the context of a body -/
structure Bd (X : Cx) (W : WX) (k : Nat) : Prop extends Gd X W where
  own : PassesOwn (model X.prog X.w) X.A X.env X.xe
  room : Room k X.A
section
variable {P : Program} {w : World} {K : Fg} {mg : Str → Option Value} {base : Heap} {T : List NTb} {ca : Str → Addr}
theorem fun_okC {CX : CXT} {n qual : Str} {st : Stmt} {f : Addr} {fd : FuncData} {N ps : List Str} {k : Nat} {sp : Sp} (F : Fun K n qual st f fd) (S : FnScope N ps (defScope st)) (len : ∀ vs H Q E, sp vs H Q E → vs.length = ps.length)
    (hbody : ∀ (cdv : Value) (A : Around) (outer : List PySem.Env) (s : Shared) (H : Hp) (vs : List V) (Q : VK) (E : XK), Room k (A.deeper (PyProof.Rows.envOfC qual (defScope st) s.heap.objs.size f cdv)) → sp vs H Q E →
      ∃ t, PSs (cxOf CX P w K mg base N qual (defScope st) f cdv A outer s H E) (defBody st) t ∧ t { nx := fun _ H' => Q .non H', rt := Q } (L2.start N vs) H) : FnOk P w K mg base CX (k + 1) f fd ps sp := by
  obtain ⟨oc, od, kV, doc, pm, an, cdv, ct, osl, rfl, lk, hcd⟩ := F.ex
  exact fn_of lk hcd S len fun A outer s H vs Q E hr hsp => hbody cdv A outer s H vs Q E hr hsp
theorem def_ok {n qual : Str} {st : Stmt} {f : Addr} {fd : FuncData} {N ps : List Str} {k np : Nat} {m : M Fw} (hps : ps.length = np) (F : Fun K n qual st f fd) (S : FnScope N ps (defScope st))
    (hb : ∀ (X : Cx) (E : XK) (x : Fx) (cdv : Value) (A : Around) (outer : List PySem.Env) (s : Shared) (H : Hp), X = cxOf (L2N.CX P w) P w K mg base N qual (defScope st) f cdv A outer s H E → x.T = T → x.ca = ca → Bd X (WQ E) k → PSs X (defBody st) (tS X.K x (WQ E) m)) :
    FnOk P w K mg base (L2N.CX P w) (k + 1) f fd ps (spF K T ca (bodyC np N m)) := by
  refine fun_okC F S (fun vs H Q E h => by rw [sp_len h, hps]) fun cdv A outer s H vs Q E hr hsp => ?_
  obtain ⟨x, h1, h2, h3⟩ := body_ok (X := cxOf (L2N.CX P w) P w K mg base N qual (defScope st) f cdv A outer s H E) hsp
  refine ⟨_, hb _ E x cdv A outer s H rfl h1 h2 ⟨⟨⟨?_, S.nd⟩, rfl, L2N.takes_of rfl rfl rfl rfl⟩, passes_of rfl, hr⟩, h3⟩
  have := hr.un
  show (A.deeper _).units + 65 < cLine
  omega
end
end Dn
end
section
set_option maxHeartbeats 200000
namespace Dn
open PySem L2
def visB (sc : Scope) (n : Str) : Bool := match sc.names.lookup n with
  | some .local => true
  | some .cell => true
  | some .free => true
  | _ => false
def locB (sc : Scope) (n : Str) : Bool := match sc.names.lookup n with
  | some .local => true
  | some .cell => true
  | _ => false
theorem vis_of {sc : Scope} {n : Str} (h : visB sc n = true) : Vis sc n := by
  unfold visB at h
  split at h
  · exact .inl (by assumption)
  · exact .inr (.inl (by assumption))
  · exact .inr (.inr (by assumption))
  · cases h
theorem loc_of {sc : Scope} {n : Str} (h : locB sc n = true) : Loc sc n := by
  unfold locB at h
  split at h
  · exact .inl (by assumption)
  · exact .inr (by assumption)
  · cases h
def fnB (fn : Str → Bool) (sc : Scope) (n : Str) : Bool := fn n || match sc.names.lookup n with
  | some .local => true
  | _ => false
theorem fn_of' {fn : Str → Bool} {sc : Scope} {n : Str} (h : fnB fn sc n = true) : fn n = true ∨ sc.names.lookup n = some .local := by
  unfold fnB at h
  rw [Bool.or_eq_true] at h
  rcases h with h | h
  · exact .inl h
  · split at h
    · exact .inr (by assumption)
    · cases h
section
variable {x : Fx} {W : WX} {X : Cx} {n : Str} {i j : Nat} {pos p2 : Pos} {e : Expr}
theorem w_gs {k : Str} (hg : Gl X n) (h : ∃ t, X.mg n = some (.str k t)) (hd : (n == ("__debug__" : Str)) = false := by decide) : PE X (.Name n pos) (tU X.K x W (cS k)) := by
  obtain ⟨t, h⟩ := h
  exact PE.imp (pe_glob (v := .str k) hg h ⟨t, rfl⟩ hd) fun _ _ _ h => tU_cst (fun _ _ => .str k) h
end
end Dn
end
section
set_option maxHeartbeats 200000
namespace Dn
open PySem L2
def isLoc : NameKind → Bool
  | .local => true
  | .cell => true
  | _ => false
def blkB (N : List Str) (sc scope : Scope) (own : List (Str × Nat)) : Bool :=
  decide (scope.kind = .function) && scope.names.all (fun y => decide (scope.names.lookup y.1 = some y.2)) && own.all (fun p => decide (N[p.2]? = some p.1)) &&
  scope.names.all (fun y => !decide (y.2 = .free) || decide (sc.names.lookup y.1 = some .cell) || decide (sc.names.lookup y.1 = some .free)) &&
  scope.names.all (fun y => !isLoc y.2 || (own.map (·.1)).any (fun z => decide (z = y.1)) || !N.any (fun z => decide (z = y.1)))
theorem blk_of {N : List Str} {sc scope : Scope} {own : List (Str × Nat)} (h : blkB N sc scope own = true) : BlkOk N sc scope own := by
  unfold blkB at h
  simp only [Bool.and_eq_true] at h
  obtain ⟨⟨⟨⟨h1, h2⟩, h3⟩, h4⟩, h5⟩ := h
  refine ⟨of_decide_eq_true h1, fun y hy => of_decide_eq_true (List.all_eq_true.mp h2 y hy), fun p hp => of_decide_eq_true (List.all_eq_true.mp h3 p hp), fun y hy e => ?_, fun y hy e => ?_⟩
  · have := List.all_eq_true.mp h4 y hy
    simpa [e] using this
  · have := List.all_eq_true.mp h5 y hy
    have hl : isLoc y.2 = true := by rcases e with e | e <;> (rw [e]; rfl)
    rw [hl] at this
    simp at this
    rcases this with ⟨b, hb⟩ | hn
    · exact .inl (by simp only [List.mem_map]; exact ⟨_, hb, rfl⟩)
    · exact .inr fun z => hn _ z rfl
section
variable {x : Fx} {W : WX} {X : Cx} {o e : Expr} {apos cpos : Pos} {mo : M Pl} {ma : M D}
theorem w_append1 (ho : PE X o (tL X.K x W mo)) (ha : PE X e (tV X.K x W ma)) (hn : nst e = true := by rfl) (hbase : attributeBase o "append" X.env (eval o X.env) = eval o X.env := by rfl) (hline : (apos.endLine == cpos.line) = true := by rfl) : PE X (.Call (.Attribute o "append" apos) [e] [] cpos) (tU X.K x W (mutM "list" (fun y ds => if ds.length = 1 then appF y ds else none) mo (argsV [ma]))) := pe_m1F (n := "append") rfl ho hn ha hbase hline
theorem w_index1 (ho : PE X o (tL X.K x W mo)) (ha : PE X e (tV X.K x W ma)) (hn : nst e = true := by rfl) (hbase : attributeBase o "index" X.env (eval o X.env) = eval o X.env := by rfl) (hline : (apos.endLine == cpos.line) = true := by rfl) : PE X (.Call (.Attribute o "index" apos) [e] [] cpos) (tU X.K x W (ixM mo ma)) := pe_m1F (n := "index") rfl ho hn ha hbase hline
theorem w_join1 (ho : PE X o (tL X.K x W mo)) (ha : PE X e (tV X.K x W ma)) (hn : nst e = true := by rfl) (hbase : attributeBase o "join" X.env (eval o X.env) = eval o X.env := by rfl) (hline : (apos.endLine == cpos.line) = true := by rfl) : PE X (.Call (.Attribute o "join" apos) [e] [] cpos) (tU X.K x W (bmM "str" jnF mo (argsV [ma]))) := pe_m1F (n := "join") rfl ho hn ha hbase hline
theorem w_split1 (ho : PE X o (tL X.K x W mo)) (ha : PE X e (tV X.K x W ma)) (hn : nst e = true := by rfl) (hbase : attributeBase o "split" X.env (eval o X.env) = eval o X.env := by rfl) (hline : (apos.endLine == cpos.line) = true := by rfl) : PE X (.Call (.Attribute o "split" apos) [e] [] cpos) (tU X.K x W (bmM "str" splF mo (argsV [ma]))) := pe_m1F (n := "split") rfl ho hn ha hbase hline
end
end Dn
end
section
set_option maxHeartbeats 200000
namespace Dn
open PySem L2
open Classical in
/-- the outcome that is the same at every address -/
noncomputable def allP {α : Type} (f : Addr → Out α) : Out α := if h : ∃ o, ∀ p, f p = o then Classical.choose h else .stuck
theorem allP_eq {α : Type} {f : Addr → Out α} {o : Out α} (h : ∀ p, f p = o) : allP f = o := by
  have hx : ∃ o, ∀ p, f p = o := ⟨o, h⟩
  unfold allP
  rw [dif_pos hx]
  have := Classical.choose_spec hx 0
  rw [h 0] at this
  exact this.symm
theorem allP_cases {α : Type} (f : Addr → Out α) : allP f = .stuck ∨ ∀ p, f p = allP f := by
  by_cases h : ∃ o, ∀ p, f p = o
  · obtain ⟨o, ho⟩ := h
    exact .inr fun p => by rw [allP_eq ho]; exact ho p
  · left; unfold allP; rw [dif_neg h]
def slotI (p : Addr) (c : Str) (N : List Str) (ds : List D) : Env := .sf p (.obj c []) :: (ds.map Sl.fz ++ List.replicate (N.length - (ds.length + 1)) .un)
def fstE (p : Addr) (s : List D) : Env → Out Sl
  | .sf q d :: _ => if q = p then .ok (.ow d) [] s else .stuck
  | _ => .stuck
def initP (c : Str) (np : Nat) (N : List Str) (m : M Fw) (ds s : List D) (p : Addr) : Out Sl := if ds.length = np then match m (slotI p c N ds) s with
  | .ok .nx e s' => fstE p s' e
  | .exn x fs _ s' => .exn x fs [] s'
  | _ => .stuck
  else .stuck
noncomputable def initC (c : Str) (np : Nat) (N : List Str) (m : M Fw) : CF := fun ds s => allP (initP c np N m ds s)
theorem initP_env (c : Str) (np : Nat) (N : List Str) (m : M Fw) (ds s : List D) (p : Addr) : envE (initP c np N m ds s p) = [] := by
  unfold initP
  by_cases h : ds.length = np
  · rw [if_pos h]
    cases hm : m (slotI p c N ds) s with
    | stuck => rfl
    | exn c fs e s' => rfl
    | ok f e s' =>
      cases f with
      | nx =>
        show envE (fstE p s' e) = []
        unfold fstE
        split
        · split <;> rfl
        · rfl
      | _ => rfl
  · rw [if_neg h]; rfl
theorem initC_ok (c : Str) (np : Nat) (N : List Str) (m : M Fw) : okC (initC c np N m) := fun ds s => by
  rcases allP_cases (initP c np N m ds s) with h | h
  · show envE (allP _) = []
    rw [h]; rfl
  · show envE (allP _) = []
    rw [← h 0]; exact initP_env ..
def spI (K : Fg) (T : List NTb) (ca : Str → Addr) (c : Str) (cf : CF) : Sp := fun vs H Q E => ∃ (x0 : Fx) (p : Addr) (ws : List V) (ds st : List D) (cs : List Addr) (B : Hp), x0.T = T ∧ x0.ca = ca ∧ vs = .ref p :: ws ∧ SX K x0 [.sf p (.obj c [])] st cs [some (.ref p)] B H ∧ RpL K ca cs B ws ds ∧
  outG K x0 (fun cls d _ H => E cls d H) [] cs B (cf ds st) (fun r _ s cs' B' => ∀ H', SX K x0 [r] s cs' [some (.ref p)] B' H' → Q .non H')
theorem spI_len {K : Fg} {T : List NTb} {ca : Str → Addr} {c : Str} {N : List Str} {np : Nat} {m : M Fw} {vs : List V} {H : Hp} {Q : VK} {E : XK} (h : spI K T ca c (initC c np N m) vs H Q E) : vs.length = np + 1 := by
  obtain ⟨x0, p, ws, ds, st, cs, B, _, _, rfl, sx, r, ho⟩ := h
  rw [List.length_cons, r.len]
  by_cases hl : ds.length = np
  · rw [hl]
  · exfalso
    have : initC c np N m ds st = .stuck := allP_eq fun p => by unfold initP; rw [if_neg hl]
    rw [this] at ho
    exact ho.elim
section
variable {K : Fg} {x : Fx} {st : List D} {cs : List Addr} {B H : Hp}
/-- params behind the first slot -/
theorem SX.under {r : Sl} {w : Option V} {env : Env} {σ : L2.St} (h : SX K x [r] st cs [w] B H) (h2 : SX K x env st cs σ B H → True) (he : ∃ qs, EnvR K x.ca cs B H env σ qs ∧ qs = []) : SX K x (r :: env) st cs (w :: σ) B H := by
  obtain ⟨ows, h⟩ := h
  obtain ⟨qs, he, rfl⟩ := he
  cases h with
  | mk g tb en ce nd pr fo fc =>
    cases en with
    | @cons _ _ ps _ _ qs rr t =>
      cases t
      exact ⟨ps ++ [], ⟨g, tb, .cons rr he, ce, nd, pr, fo, fc⟩⟩
theorem env_par {ca : Str → Addr} : ∀ {vs : List V} {ds : List D} (n : Nat), RpL K ca cs B vs ds → EnvR K ca cs B H (ds.map Sl.fz ++ List.replicate n .un) (vs.map some ++ List.replicate n none) []
  | _, _, 0, .nil => .nil
  | _, _, n + 1, .nil => by
    exact .cons (ps := []) rfl (env_par n .nil)
  | _, _, n, .cons r t => .cons (ps := []) ⟨rfl, _, rfl, r⟩ (env_par n t)
end
theorem init_body {X : Cx} {T : List NTb} {ca : Str → Addr} {c : Str} {N : List Str} {np : Nat} {m : M Fw} {vs : List V} {H : Hp} {Q : VK} {E : XK} (hsp : spI X.K T ca c (initC c np N m) vs H Q E) :
    ∃ x : Fx, x.T = T ∧ x.ca = ca ∧ tS X.K x (fun cls d _ H => E cls d H) m { nx := fun _ H' => Q .non H', rt := Q, bk := fun _ _ => False, ct := fun _ _ => False } (L2.start N vs) H := by
  obtain ⟨x0, p, ws, ds, st, cs, B, h1, h2, rfl, sx, r, ho⟩ := hsp
  refine ⟨x0, h1, h2, slotI p c N ds, st, cs, B, ?_, ?_⟩
  · have hr : RpL X.K x0.ca cs B ws ds := by rw [h2]; exact r
    unfold slotI L2.start
    rw [List.length_cons, r.len]
    exact SX.under sx (fun _ => trivial) ⟨[], env_par _ hr, rfl⟩
  · have hall : ∀ q, initP c np N m ds st q = initC c np N m ds st := by
      rcases allP_cases (initP c np N m ds st) with h | h
      · exfalso
        have : initC c np N m ds st = .stuck := h
        rw [this] at ho
        exact ho.elim
      · exact h
    rw [← hall p] at ho
    unfold initP at ho
    split at ho
    · cases hm : m (slotI p c N ds) st with
      | stuck => rw [hm] at ho; exact ho.elim
      | exn cc fs e s =>
        rw [hm] at ho
        exact fun σ' cls d cs' B' H' sx' sb pr ex => ho cls d cs' B' H' sx'.bare sb pr ex
      | ok f e s =>
        rw [hm] at ho
        cases f with
        | nx =>
          have ho : outG X.K x0 _ [] cs B (fstE p s e) _ := ho
          unfold fstE at ho
          split at ho
          · rename_i q d e'
            split at ho
            · rename_i hq
              subst hq
              exact fun cs' B' sb pr σ' H' sx' => by
                cases σ' with
                | nil => exact absurd sx'.len (by simp)
                | cons w σ' =>
                  have sx1 := sx'.top
                  obtain ⟨rfl, sx2⟩ := sx1.sfOw
                  exact ho cs' B' sb pr H' sx2
            · exact ho.elim
          · exact ho.elim
        | _ => exact ho.elim
    · exact ho.elim
section
variable {P : Program} {w : World} {K : Fg} {mg : Str → Option Value} {base : Heap} {T : List NTb} {ca : Str → Addr}
/-- an __init__ -/
theorem init_ok {n qual c : Str} {params : Arguments} {body : List Stmt} {scope : Scope} {dvs : List V} {kws : List (Str × V)} {f : Addr} {fd : FuncData} {N ps : List Str} {k np : Nat} {m : M Fw} (hps : ps.length = np + 1) (F : FunD K n qual params body scope dvs kws f fd) (S : FnScope N ps scope)
    (hb : ∀ (X : Cx) (E : XK) (x : Fx) (cdv : Value) (A : Around) (outer : List PySem.Env) (s : Shared) (H : Hp), X = cxOf (L2N.CX P w) P w K mg base N qual scope f cdv A outer s H E → x.T = T → x.ca = ca → Bd X (WQ E) k → PSs X body (tS X.K x (WQ E) m)) :
    FnOk P w K mg base (L2N.CX P w) (k + 1) f fd ps (spI K T ca c (initC c np N m)) := by
  refine F.ok S (fun vs H Q E h => by rw [spI_len h, hps]) fun cdv A outer s H vs Q E hr hsp => ?_
  obtain ⟨x, h1, h2, h3⟩ := init_body (X := cxOf (L2N.CX P w) P w K mg base N qual scope f cdv A outer s H E) hsp
  refine ⟨_, hb _ E x cdv A outer s H rfl h1 h2 ⟨⟨⟨?_, S.nd⟩, rfl, L2N.takes_of rfl rfl rfl rfl⟩, passes_of rfl, hr⟩, h3⟩
  have := hr.un
  show (A.deeper _).units + 65 < cLine
  omega
end
def tMkS (C : Addr) (n m : Nat) (sp : Sp) (gV : List V → List V → List V) (E : L2.St → XK) (t tk : TA) : TE := fun σ H Q => t σ H fun vs H1 => tk σ H1 fun zs H2 => vs.length = n ∧ zs.length = m ∧ ∀ a dx, H2 a = none → H2 dx = none → dx ≠ a →
  sp (gV (.ref a :: vs) zs) (upd (upd H2 dx (.own a)) a (.ins C dx [])) (fun v H3 => v = .non ∧ Q (.ref a) H3) (E σ)
section
variable {X : Cx} {k n : Nat} {f C : Addr} {fd : FuncData} {ps ks : List Str} {sp : Sp} {E : L2.St → XK} {cn : Str} {p pos : Pos} {e : Expr} {es : List Expr} {kws : List Keyword} {t tk : TA} {g : List Value → List Value → List Value} {gV : List V → List V → List V} {CX : CXT}
theorem mkS_run {pins : List (Addr × Obj)} {σ : L2.St} {H : Hp} {s : Shared} {Q : VK} {us ws : List Value} {vs zs : List V} (mk : Mk X.K C f) (F : FnOk X.prog X.w X.K X.mg X.base CX k f fd ps sp) (room : Room (k + 1) X.A) (hb : KBn X.K fd ps (n + 1) ks g gV) (hx : PassesAt CX X σ (E σ))
    (inv : Inv X pins σ H s) (r1 : Vals vs us) (r2 : Vals zs ws) (l1 : vs.length = n) (l2 : zs.length = ks.length)
    (h : ∀ a dx, H a = none → H dx = none → dx ≠ a → sp (gV (.ref a :: vs) zs) (upd (upd H dx (.own a)) a (.ins C dx [])) (fun v H2 => v = .non ∧ Q (.ref a) H2) (E σ)) :
    wpAny (model X.prog X.w) X.A (call (.ref C) us (ks.zip ws)) (EP X pins σ Q) X.xe s := by
  have q0 := h (s.heap.objs.size + 1) _ (inv.hok.fresh (Nat.le_succ _)) (inv.hok.fresh (Nat.le_refl _)) (Nat.ne_of_lt (Nat.lt_succ_self _))
  have inv2 := Inv.made (C := C) inv
  have rr := hb.rel (vs := V.ref (s.heap.objs.size + 1) :: vs) (us := Value.ref (s.heap.objs.size + 1) :: us) (.cons rfl r1) r2
  have len1 : (Value.ref (s.heap.objs.size + 1) :: us).length = n + 1 := by rw [List.length_cons, ← r1.length, l1]
  refine wpAny_call (make_map (f := f) inv.kIn mk.makes mk.init (beq_iff_eq.mp mk.fn) (codeAny_mono (F.run _ X.stack _ _ ⟨_ :: us, ks.zip ws⟩ (g (_ :: us) ws) _ _ (E σ) (room.make C us _) (inv2.env0.make C us _) (hb.to _ _ ws inv2.kIn len1 (r2.length.symm.trans l2)) rr q0) ?_))
  intro res t back
  match res, back with
  | .error e, back => exact hx pins _ _ e t inv2 back
  | .ok (.ret u), back =>
    obtain ⟨v, H', inv3, rv, ev, q3⟩ := inv2.after back
    cases ev
    exact ⟨rv, ⟨V.ref (s.heap.objs.size + 1), H', inv3, rfl, q3⟩⟩
  | .ok .next, back => exact back.elim
  | .ok .brk, back => exact back.elim
  | .ok .cont, back => exact back.elim
theorem pe_mkS (mk : Mk X.K C f) (F : FnOk X.prog X.w X.K X.mg X.base CX k f fd ps sp) (room : Room (k + 1) X.A) (hg : Gl X cn) (hm : X.mg cn = some (.ref C)) (hb : KBn X.K fd ps (n + 1) ks g gV) (hx : ∀ σ, PassesAt CX X σ (E σ)) (ha : PA X (e :: es) t) (hkw : PK X kws tk)
    (hall : (backToKw pos (keywordEach kws X.env)).all (·.1.isSome) = true) (hks : (backToKw pos (keywordEach kws X.env)).filterMap (·.1) = ks) (hdb : (cn == ("__debug__" : Str)) = false)
    (he : starEach (e :: es) X.env = (false, eval e X.env) :: starEach es X.env) (hpl : ((backTo pos (starEach (e :: es) X.env)).any (·.1) || (backToKw pos (keywordEach kws X.env)).any (·.1.isNone)) = false) :
    PE X (.Call (.Name cn p) (e :: es) kws pos) (tMkS C n ks.length sp gV E t tk) := by
  constructor
  intro pins s σ H Q inv h
  refine wpAny_Call_Name_kw (ld_glob inv hg hm (PySem.W.callWith_KW (h₀ := X.base) inv.ok.mod.kin mk.kp hall ?_ hpl he) hdb)
  refine thn (ha.run pos pins s σ H _ inv h) fun us s1 ⟨vs, H1, inv1, ra, q1⟩ => thn (hkw.run pos pins s1 σ H1 _ inv1 q1) fun ws s2 ⟨zs, H2, inv2, rz, l1, l2, q2⟩ => ⟨inv2.kIn, ?_⟩
  subst hks
  exact mkS_run mk F room hb (hx σ) inv2 ra rz l1 l2 q2
end
def makeM (cf : CF) (ma mk : M (List D)) (f : List D → List D → Option (List D)) : M Sl := ma.bind fun ds => mk.bind fun zs => (M.lift (f ds zs)).bind (runC cf)
section
variable {K : Fg} {x : Fx} {W : WX} {X : Cx} {σ : L2.St} {H : Hp} {Q : VK}
theorem tU_make {c : Str} {cf : CF} {ma mk : M (List D)} {f : List D → List D → Option (List D)} {n m : Nat} {gV : List V → List V → List V} (oc : okC cf)
    (hg : ∀ ds zs r, f ds zs = some r → ds.length = n ∧ zs.length = m ∧ ∀ cs B a vs ws, RpL K x.ca cs B vs ds → RpL K x.ca cs B ws zs → ∃ us, gV (.ref a :: vs) ws = .ref a :: us ∧ RpL K x.ca cs B us r)
    (h : tU K x W (makeM cf ma mk f) σ H Q) : tMkS (x.ca c) n m (spI K x.T x.ca c cf) gV (WE W) (tA K x W ma) (tA K x W mk) σ H Q := by
  obtain ⟨env, st, cs, B, hs, ho⟩ := h
  refine ⟨env, st, cs, B, hs, (outG.bind ho).imp fun ds e s cs1 B1 k vs H1 sx1 r1 => ?_⟩
  refine ⟨e, s, cs1, B1, sx1, (outG.bind k).imp' fun zs e2 s2 cs2 B2 _ sb pr k2 ws H2 sx2 r2 => ?_⟩
  obtain ⟨r, hr, k2⟩ := outG.lift (outG.bind k2)
  obtain ⟨l1, l2, hgv⟩ := hg ds zs r hr
  refine ⟨by rw [r1.len, l1], by rw [r2.len, l2], fun a dx ha hd ne => ?_⟩
  obtain ⟨us, e1, ru⟩ := hgv cs2 B2 a vs ws (r1.mono sb pr) r2
  rw [e1]
  have sx0 := sx2.enter
  have g1 := Gr.own (T := x.T) (o := .own a) sx0.s hd
  have sx3 := sx0.grow g1
  have ha' : (upd H2 dx (.own a)) a = none := by rw [upd_ne (Ne.symm ne)]; exact ha
  have sx4 := SX.ownS (x := x.now cs2 B2 H2) (d := .obj c []) sx3 (Gr.own sx3.s ha') ha' ⟨dx, [], upd_same, free_b sx3.s ha', rfl, .nil⟩
  refine ⟨x.now cs2 B2 H2, a, us, r, s2, cs2, B2, rfl, rfl, rfl, sx4, ru, ?_⟩
  have hoc := oc r s2
  unfold runC at k2
  cases hc : cf r s2 with
  | stuck => rw [hc] at k2; exact k2
  | ok q e3 s3 =>
    rw [hc] at k2
    exact fun cs' B' sb' pr' H' sx' => ⟨rfl, k2 cs' B' sb' pr' _ H' (sx2.call sx')⟩
  | exn cc fs e3 s3 =>
    rw [hc] at k2 hoc
    have he : e3 = [] := hoc
    subst he
    exact fun cls d cs' B' H' sx' sb' pr' ex => k2 cls d cs' B' H' (sx2.call sx') sb' pr' ex
theorem pk_nilV : PK X [] (tA X.K x W (argsV [])) := ⟨fun pos pins s σ H Q I h => pk_nil.run pos pins s σ H Q I (by
  obtain ⟨env, st, cs, B, hs, ho⟩ := h
  exact (show outG _ _ _ _ _ _ (.ok [] env st) _ from ho).now [] H hs .nil)⟩
theorem pk_consV {e : Expr} {kws : List Keyword} {nm : Option Str} {kpos : Pos} {m : M D} {ms : List (M D)} (he : PE X e (tV X.K x W m)) (hr : PK X kws (tA X.K x W (argsV ms))) : PK X (⟨nm, e, kpos⟩ :: kws) (tA X.K x W (argsV (m :: ms))) :=
  ⟨fun pos pins s σ H Q I h => (pk_cons he hr).run pos pins s σ H Q I (by
    obtain ⟨env, st, cs, B, hs, ho⟩ := h
    exact ⟨env, st, cs, B, hs, (outG.bind ho).imp fun d e s cs1 B1 k v H1 sx1 r1 => ⟨e, s, cs1, B1, sx1, (outG.bind k).imp' fun ds e2 s2 cs2 B2 _ sb pr k2 vs H2 sx2 r2 => k2.now (v :: vs) H2 sx2 (.cons (r1.mono sb pr) r2)⟩⟩)⟩
end
end Dn
end
section
set_option maxHeartbeats 200000
namespace Dn
open PySem L2 NdefX
/-- the first row of such an __init__ -/
def supRow (z : Str) (j : Nat) (p0 p1 p2 p3 p4 p5 : Pos) : Stmt := .Expr (.Call (.Attribute (.Call (.Name "super" p0) [] [] p1) "__init__" p2) [.Constant (.str z) j p3] [] p4) p5
/-- what the top left of the class at C, of its __init__ at f -/
structure ExcT (K : Fg) (P : Program) (mg : Str → Option Value) (C f : Addr) (qual : Str) (params : Arguments) (rest : List Stmt) (scope : Scope) (fd : FuncData) : Prop where
  oex : OexC K C
  row : ∃ z j p0 p1 p2 p3 p4 p5 cc cda doc pm an ct oc od osl, fd = PySem.W.fnX "__init__" qual params (supRow z j p0 p1 p2 p3 p4 p5 :: rest) scope [("__class__", cc)] .none .none doc pm an (.ref cda) ct ∧ K.lookup f = some ⟨oc, od, .func fd, osl⟩ ∧ (p2.endLine == p4.line) = true ∧
    PySem.W.codeIn K (.ref cda) qual = true ∧ (∃ ccl cdd vs ccs file tf, K.lookup cda = some ⟨ccl, cdd, .fields vs, ccs⟩ ∧ vs[2]? = some (.str file tf) ∧ ((P.main.file : Str) == file) = true) ∧ ∃ cl cld csl, K.lookup cc = some ⟨cl, cld, .cell (some (.ref C)), csl⟩
  self : (params.posonlyargs ++ params.args).head?.map (·.arg) = some "self"
  sub : PySem.W.mroIn K C (.ref C) = some true
  ve : PySem.W.subIn K (.ref C) (.type "ValueError") = some true
  sup : PySem.W.ks_superIn K C C "__init__" = some (some (.builtin "ValueError.__init__"))
  mg : mg "super" = none
  third : PySem.W.nsIn K cStatics "thirdparty.any" = some none
  top : (P.main.scope.names.lookup ("super" : Str)).isSome = false
  ks : scope.names.lookup ("super" : Str) = some .globalImplicit
  kc : scope.names.lookup ("__class__" : Str) = some .free
theorem exc_init {P : Program} {w : World} {K : Fg} {mg : Str → Option Value} {base : Heap} {C f : Addr} {qual : Str} {params : Arguments} {rest : List Stmt} {scope : Scope} {fd : FuncData} {N qs : List Str} {k : Nat} {sp : Sp} {CX : CXT}
    (T : ExcT K P mg C f qual params rest scope fd) (S : NScope N ("self" :: qs) ["__class__"] scope) (len : ∀ vs H Q E, sp vs H Q E → vs.length = qs.length + 1)
    (hbody : ∀ (X : Cx) (F : NF) (A : Around) (outer : List PySem.Env) (s : Shared) (H : Hp) (vs : List V) (Q : VK) (E : XK), X = ncx CX P w K mg base N F f A outer s H E → F.scope = scope → F.qual = qual → Room k X.A → sp vs H Q E →
      ∃ a ws, vs = .ref a :: ws ∧ H a = some (exo a C none) ∧ ∃ t, PSs X rest t ∧ t { nx := fun _ H' => Q .non H', rt := Q } (startF N vs [none]) H) :
    FnOk P w K mg base CX (k + 1) f fd ("self" :: qs) sp := by
  obtain ⟨z, j, p0, p1, p2, p3, p4, p5, cc, cda, doc, pm, an, ct, oc, od, osl, rfl, lk, hline, hcd, ⟨ccl, cdd, fv, ccs, file, tf, hcode, hvs, hfile⟩, ccl', cld, csl, hcell⟩ := T.row
  refine ⟨fun vs H Q E h => by rw [len vs H Q E h]; rfl, fun A outer s H args us vs Q E hr e0 hb r hsp => ?_⟩
  have hl := len _ _ _ _ hsp
  have kin : K.In s.heap := fun b o e => (e0.bs b o (e0.mod.kin b o e)).1
  have lim : s.heap.NoLimit := e0.mod.nolimit.keeps fun b o e => (e0.bs b o e).1
  generalize hF : (⟨"__init__", qual, params, supRow z j p0 p1 p2 p3 p4 p5 :: rest, scope, [("__class__", cc)], cda⟩ : NF) = F
  have hsc : F.scope = scope := by rw [← hF]
  have hql : F.qual = qual := by rw [← hF]
  obtain ⟨a, ws, rfl, hea, t, ht, hq⟩ := hbody (ncx CX P w K mg base N F f A outer s H E) F A outer s H vs Q E rfl hsc hql (hr.deeper _) hsp
  refine PySem.ks_codeAny_call_defAt (body := supRow z j p0 p1 p2 p3 p4 p5 :: rest) (binds := (("self" : Str) :: qs).zip us) hr.depth (kin _ _ lk) rfl lim (PySem.W.codeRec_of kin hcd) rfl hb S.nocell (fun y hy => ?_) (fun h₁ hns kp => ?_) S.co S.gen S.kind
  · obtain ⟨n, u⟩ := y
    exact S.par n (List.of_mem_zip hy).1
  · have ca : CellsAt F.cl ["__class__"] [none] s.heap H := by
      rw [← hF]
      refine ⟨rfl, fun y c hy => ?_, fun x y c hx hy => ?_, fun i y hy => ?_⟩
      · have : c = cc := by
          simp only [List.lookup] at hy
          split at hy
          · exact (Option.some.inj hy).symm
          · cases hy
        subst this
        exact ⟨(e0.bs _ _ (e0.mod.kin _ _ hcell)).2, _, _, kin _ _ hcell, rfl⟩
      · simp only [List.lookup] at hx hy
        split at hx
        · split at hy
          · rename_i h1 _ h2
            exact (eq_of_beq h1).trans (eq_of_beq h2).symm
          · cases hy
        · cases hx
      · cases i with
        | zero =>
          cases hy
          exact ⟨cc, by simp [List.lookup], fun v hv => by cases hv⟩
        | succ i => cases hy
    have I : Inv (ncx CX P w K mg base N F f A outer s H E) [] (startF N (.ref a :: ws) [none]) H { s with heap := h₁, toks := s.toks + ((("self" : Str) :: qs).zip us).length } := by
      refine inv_startN (ps := "self" :: qs) (fr := ["__class__"]) (by rw [hsc]; exact S) hr.hd e0 hl r ca hns kp
    have henv : envF F f s.heap.objs.size = PySem.callEnv (PySem.W.fnX "__init__" qual params (supRow z j p0 p1 p2 p3 p4 p5 :: rest) scope [("__class__", cc)] .none .none doc pm an (.ref cda) ct) s.heap.objs.size f := by
      rw [← hF]; rfl
    rw [← henv]
    have fin : ∀ {fl : Flow} {s' : Shared}, SP (ncx CX P w K mg base N F f A outer s H E) [] { nx := fun _ H' => Q .non H', rt := Q } fl s' → CR CX outer P w H s Q E (.ok (.ret (match fl with | .ret v => v | _ => .none))) s' := fun {fl s'} hs => by
      cases fl with
      | ret u =>
        obtain ⟨v, σ', H', J, rv, q⟩ := hs
        exact ⟨v, H', J.os, J.bare, J.base, J.hok, rv, q⟩
      | next =>
        obtain ⟨σ', H', J, q⟩ := hs
        exact ⟨.non, H', J.os, J.bare, J.base, J.hok, rfl, q⟩
      | brk => obtain ⟨_, _, _, q⟩ := hs; exact False.elim q
      | cont => obtain ⟨_, _, _, q⟩ := hs; exact False.elim q
    have kin1 : K.In h₁ := fun b o e => kp b o (kin b o e)
    generalize htk : s.toks + ((("self" : Str) :: qs).zip us).length = tk0
    rw [htk] at I
    have scE : (envF F f s.heap.objs.size).scope = scope := hsc
    have kk : (envF F f s.heap.objs.size).scope.kind = .function := by rw [scE]; exact S.kind
    have ks' : (envF F f s.heap.objs.size).kindOf "super" = some .globalImplicit := by show (envF F f s.heap.objs.size).scope.names.lookup _ = _; rw [scE]; exact T.ks
    have kc' : (envF F f s.heap.objs.size).kindOf "__class__" = some .free := by show (envF F f s.heap.objs.size).scope.names.lookup _ = _; rw [scE]; exact T.kc
    have kself : (envF F f s.heap.objs.size).kindOf "self" = some .local := by show (envF F f s.heap.objs.size).scope.names.lookup _ = _; rw [scE]; exact S.par _ (by simp)
    have cells : (envF F f s.heap.objs.size).cells = [(("__class__" : Str), cc)] := by rw [← hF]
    have code : (envF F f s.heap.objs.size).code = .ref cda := by rw [← hF]
    obtain ⟨ar, har, hself⟩ : ∃ ar, (params.posonlyargs ++ params.args).head? = some ar ∧ ar.arg = "self" := by
      have := T.self
      cases hh : (params.posonlyargs ++ params.args).head? with
      | none => rw [hh] at this; cases this
      | some ar => rw [hh] at this; exact ⟨ar, rfl, Option.some.inj this⟩
    obtain ⟨nm, q, N', bs, bm, sn, sub, ab, col, dd, k0, k1, k2, k3, k5, hC, hbm⟩ := T.oex.cls
    have hcl : PySem.W.clsIn K C = some { name := nm, bases := bs, mro := .ref C :: bm, ns := N', qualname := q, hasDict := true, slotNames := sn, subclasses := sub, abstract := ab, collection := col, hasDel := false } := by unfold PySem.W.clsIn; rw [hC] <;> rfl
    have hu0 : us[0]? = some (.ref a) := by
      obtain ⟨u, h1, h2⟩ := r.get (i := 0) (x := .ref a) rfl
      rw [h1]
      exact congrArg some (show u = Value.ref a from h2)
    have hlk : (fun y => ((("self" : Str) :: qs).zip us).reverse.lookup y) ar.arg = some (.ref a) := by
      rw [hself]
      refine zip_look (i := 0) ?_ rfl hu0
      have := S.nd.sublist (List.take_sublist (("self" :: qs : List Str).length + (["__class__"] : List Str).length) N)
      rw [S.pre] at this
      exact (List.nodup_append.mp this).1
    refine PySem.ks_wpAt_execs_cons (PySem.ks_wpAt_Expr_any ?_ (by unfold interactive; rw [kk]; rfl) rfl)
    rw [PySem.arm_eval_Call]
    obtain ⟨mb, hb1, hb2⟩ := e0.mod.blt
    obtain ⟨t1, hoa⟩ := exo_at (e0.hok.kept (h' := h₁) kp) hea
    refine wpAt_bind (PySem.ks_wpAt_super_base (f := f) ks' kc' (by decide) rfl (kin1 _ _ lk) rfl har code (kin1 _ _ hcode) rfl hvs hfile T.top ?_)
    refine PySem.W.ks_loadName_global kk ks' (PySem.Calls.loadGlobal_builtin (env := envF F f s.heap.objs.size) (mg := mg) (mb := mb) (e0.mod.glob.keeps fun b o e => kp b o ((e0.bs b o e).1)) T.mg (hb1.keeps fun b o e => kp b o ((e0.bs b o e).1)) ((hb2 "super" (by decide)).trans (by decide +kernel : bootBuiltins "super" = some (.type "super"))) ⟨rfl, ?_⟩)
    refine wpAny_loadName_free kk kc' (by rw [cells]; simp [List.lookup]) ⟨_, kin1 _ _ hcell, rfl⟩ ?_
    refine wpAny_loadName_local kk (by rw [hself]; exact kself) hns hlk ?_
    refine PySem.ks_wpAny_isType_cls (kin1 _ _ hC) rfl ⟨rfl, ?_⟩
    refine PySem.ks_wpAny_call_super (kin1 _ _ hC) rfl hoa rfl (fun c => by simp) (PySem.W.looks_mroIn kin1 T.sub) fun h2 hso k2' => ?_
    refine wpAt_of_wpAny (wpAny_bind (wpAny_standAt ?_))
    have kin2 : K.In h2 := fun b o e => k2' b o (kin1 b o e)
    have hform : methodCallForm ([Expr.Constant (.str z) j p3].length + ([] : List Keyword).length) (backTo p4 (starEach [Expr.Constant (.str z) j p3] (envF F f s.heap.objs.size))) (backToKw p4 (keywordEach [] (envF F f s.heap.objs.size))) = true := rfl
    have hpos : methodCallPos true (.Call (.Name "super" p0) [] [] p1) (envF F f s.heap.objs.size) p2 p4 = pure p4 := by unfold methodCallPos; simp [hline]
    unfold methodCall calleeOf
    rw [hform]
    have hsup : PySem.W.alongIn K "__init__" (((Value.ref C :: bm).dropWhile (· != .ref C)).drop 1) = some (some (.builtin "ValueError.__init__")) := by
      have := T.sup
      unfold PySem.W.ks_superIn at this
      rw [hcl] at this
      exact this
    have inst : PySem.W.InstAt h2 a { cls := .ref C, dict := none, data := .fields #[.ref t1, .none, .none, .none, .bool false, .none] } C none := ⟨k2' _ _ hoa, rfl, rfl, trivial⟩
    have hI : PySem.W.Looks (model P w) h2 (isInstance (.ref a) (.type "ValueError")) true := inst.type.andThen (PySem.W.looks_subIn kin2 T.ve)
    refine wpAny_bind (wpAny_holding (PySem.W.kxs_getMethod PySem.W.kxs_ValueError hso (PySem.W.looks_opaque kin2 T.third) (l₀ := .ref C :: bm) ?_ rfl kin2 hsup hI (PySem.W.ks_ne kin2 inst hcl) (by decide) ?_))
    · exact fun A Q E s k q => wpAny_bind ((PySem.W.looks_clsIn kin2 hcl) A _ E s k (wpAny_pure q))
    refine wpAny_bind (wpAny_of_eq hpos ?_)
    have I2 := I.kept (t' := tk0 + 1) (h' := h2.push (PySem.W.kxs_mw "ValueError.__init__" a)) fun b u e => Heap.get?_push_of_some _ (k2' b u e)
    refine PySem.W.kxs_callWith (i := "ValueError.__init__") (x := a) rfl (PySem.Calls.evalArgs_plain ?_)
    have hmw : (h2.push (PySem.W.kxs_mw "ValueError.__init__" a)).get? h2.objs.size = some (PySem.W.kxs_mw "ValueError.__init__" a) := Heap.get?_push_size _ rfl
    refine PyProof.Rows.args_cons (PySem.Calls.Constant_str (PyProof.Rows.args_nil ⟨hmw, ?_⟩)) rfl
    have hsz : h2.objs.size < (h2.push (PySem.W.kxs_mw "ValueError.__init__" a)).objs.size := Heap.lt_size hmw
    have hoa3 : (h2.push (PySem.W.kxs_mw "ValueError.__init__" a)).get? a = some ({ cls := .ref C, dict := none, data := .fields #[.ref t1, .none, .none, .none, .bool false, .none] } : Obj) := Heap.get?_push_of_some _ (k2' _ _ hoa)
    have hC3 : (h2.push (PySem.W.kxs_mw "ValueError.__init__" a)).get? C = some (excClassObj nm q C N' bs bm true sn sub ab col dd k0 k1 k2 k3 k5 "ValueError.__new__") := Heap.get?_push_of_some _ (kin2 _ _ hC)
    generalize h2.push (PySem.W.kxs_mw "ValueError.__init__" a) = h3 at I2 hmw hoa3 hC3 hsz ⊢
    refine wpAny_call (codeAny_of_tree ?_)
    show wpAny _ _ (PySem.callAny (.ref h2.objs.size) ⟨[.str z (tk0 + 1)], []⟩) _ _ _
    simp only [PySem.callAny]
    refine wpAny_bind (wpAny_load hmw ?_)
    simp only [PySem.W.kxs_mw, show (Value.type "method-wrapper" == Value.type "method" || Value.type "method-wrapper" == Value.type "builtin_function_or_method" || Value.type "method-wrapper" == Value.type "method-wrapper") = true by decide, if_true]
    refine PySem.W.KFB.if_so (by decide) ?_
    refine wpAny_bind (PySem.W.check_bound_init PySem.F.excBase_ValueError.toExcCallFacts hC3 hoa3 rfl ?_)
    refine wpAny_bind (wpAny_pure (wpAny_pure ?_))
    refine ⟨plainId_quiet PySem.F.excBase_ValueError.init.plain _, codeAny_builtin PySem.F.excBase_ValueError.initEntry ?_⟩
    refine PySem.W.exc_init_tree (cls := .ref C) (t0 := t1) (dv := none) (c2 := .none) (c3 := .none) (b4 := .bool false) hoa3 (by show 1 ≤ sizeLine; decide) fun h4 k4 e4 _ => ?_
    have J := I2.write (t' := tk0 + 1 + 1) (x := a) (e := a) (o := exo a C none) (by rw [hea]; exact True.intro) (.inl rfl) k4 ⟨_, e4⟩ (exo_ok e4)
    rw [upd_back hea] at J
    refine wpAt_of_wpAny (wpAny_mono (ht.run [] _ _ H _ J hq) (fun fl s' hs => fin hs) fun e s' hs => hs)
end Dn
end
section
set_option maxHeartbeats 200000
namespace Dn
open PySem L2 NdefX
def Fx.at (x : Fx) (cs : List Addr) (B : Hp) : Fx := { x with B0 := B, cs0 := cs }
section
variable {K : Fg} {x : Fx} {env env' : Env} {st st' : List D} {cs cs' : List Addr} {σ σ' : L2.St} {B H B' H' : Hp}
theorem SX.re (h : SX K x env st cs σ B H) : SX K (x.at cs B) env st cs σ B H := by
  have hs := h.s
  obtain ⟨ows, h⟩ := h
  refine ⟨ows, ⟨⟨Sme.refl B, fun a o ha ho => ?_, hs, fun _ _ z => z, fun _ => h.tb, fun p hp _ => ce_live h.ce p hp⟩, h.tb, h.en, h.ce, h.nd, Pre.refl _, h.fo, fun p hp hn => absurd hp hn⟩⟩
  refine h.g.h a o (fun z => ha ?_) ho
  obtain ⟨zs, e⟩ := h.pr
  show a ∈ cs
  rw [e]; simp [z]
theorem SX.back (h : SX K x env st cs σ B H) (h' : SX K (x.at cs B) env' st' cs' σ' B' H') : SX K x env' st' cs' σ' B' H' ∧ Sme B B' ∧ Pre cs cs' := by
  obtain ⟨ows, h⟩ := h
  obtain ⟨ows', h'⟩ := h'
  have b : Sme B B' := h'.g.b
  have p : Pre cs cs' := h'.pr
  refine ⟨⟨ows', ⟨⟨h.g.b.trans b, fun a o ha ho => ?_, h'.g.s, fun a ha hb => h'.g.n a ha (h.g.n a ha hb), fun z => h'.g.t z, fun q hq hh => h'.g.l q (show q ∈ cs from by obtain ⟨zs, e⟩ := h.pr; rw [e]; simp [hq]) hh⟩, h'.tb, h'.en, h'.ce, h'.nd, h.pr.trans p, h'.fo, fun q hq hn => ?_⟩⟩, b, p⟩
  · refine h'.g.h a o (fun z => ?_) ho
    have := h.fc a z ha
    rw [show x.H0 a = some o from ho] at this; cases this
  · by_cases hc : q ∈ cs
    · exact h.fc q hc hn
    · exact h'.fc q hq hc
end
/-- the classes of errors: their addresses by name, their fields -/
def spX (C : Addr) (fl : List Str) : Sp := fun vs H Q _ => ∃ a ws, vs = .ref a :: ws ∧ ws.length = fl.length ∧ H a = some (exo a C none) ∧ ∀ d, H d = none → d ≠ a → Q .non (upd (upd H d (exd d (fl.zip ws).reverse)) a (exo a C (some d)))
structure ErrOk (X : Cx) (C : Addr) (n : Str) (fl : List Str) (k : Nat) : Prop where
  oex : OexC X.K C
  ini : ∃ fI fd, PySem.W.findIn X.K (.ref C) "__init__" = some (some (.ref fI)) ∧ PySem.W.typeIn X.K (.ref fI) = some (.type "function") ∧ FnOk X.prog X.w X.K X.mg X.base (L2N.CX X.prog X.w) k fI fd ("self" :: fl) (spX C fl) ∧ Binds X.K fd ("self" :: fl) []
  mg : X.mg n = some (.ref C)
theorem no_pass {X : Cx} : Passes (L2N.CX X.prog X.w) X (fun _ _ _ => False) := fun _ _ _ _ _ _ _ ⟨_, _, _, _, _, _, _, _, _, _, _, _, z⟩ => z.elim
def raiseM (c : Str) (fl : List Str) (ma : M (List D)) : M Fw := ma.bind fun ds e s => if ds.length = fl.length then .exn c (fl.zip ds) e s else .stuck
theorem look_zip {K : Fg} {ca : Str → Addr} {cs : List Addr} {B : Hp} {f : Str} : ∀ {fl : List Str} {ws : List V} {ds : List D}, fl.Nodup → RpL K ca cs B ws ds → ∀ {y : D}, (fl.zip ds).lookup f = some y → ∃ v, (fl.zip ws).reverse.lookup f = some v ∧ Rp K ca cs B v y
  | [], _, _, _, _, _, h => by simp at h
  | _ :: _, _, _, _, .nil, _, h => by simp at h
  | g :: fl, _, _, nd, .cons (v := v) (d := d) (vs := ws) (ds := ds) r t, y, h => by
    rw [List.nodup_cons] at nd
    rw [List.zip_cons_cons] at h ⊢
    rw [List.reverse_cons, List.lookup_append]
    rw [List.lookup_cons] at h
    cases hg : f == g with
    | true =>
      rw [hg] at h
      cases h
      have e := eq_of_beq hg
      subst e
      have hn : (fl.zip ws).reverse.lookup f = none := by
        cases e : (fl.zip ws).reverse.lookup f with
        | none => rfl
        | some w => exact absurd (List.of_mem_zip (List.mem_reverse.mp (PySem.mem_of_lookup e))).1 nd.1
      rw [hn]
      exact ⟨v, by simp [List.lookup], r⟩
    | false =>
      rw [hg] at h
      obtain ⟨w, h1, h2⟩ := look_zip nd.2 t h
      rw [h1]
      exact ⟨w, rfl, h2⟩
/-- C(e, ..) to be raised; its context is None -/
theorem pmkN {X : Cx} {CX : CXT} {n : Str} {e : Expr} {es : List Expr} {ta : TA} {p pos : Pos} {C fI : Addr} {k : Nat} {fd : FuncData} {ps : List Str} {sp : Sp} (T : OexC X.K C) (iC : PySem.W.findIn X.K (.ref C) "__init__" = some (some (.ref fI))) (tI : PySem.W.typeIn X.K (.ref fI) = some (.type "function"))
    (F1 : FnOk X.prog X.w X.K X.mg X.base CX k fI fd ps sp) (room : Room (k + 1) X.A) (hb : Binds X.K fd ps []) (hx : Passes CX X (fun _ _ _ => False)) (hg : Gl X n) (hm : X.mg n = some (.ref C)) (ha : PA X (e :: es) ta)
    (hdb : (n == ("__debug__" : Str)) = false) (he : starEach (e :: es) X.env = (false, eval e X.env) :: starEach es X.env) (hpl : (backTo pos (starEach es X.env)).any (·.1) = false) :
    L2N.PMk X (.Call (.Name n p) (e :: es) [] pos) (tMkO C sp [] ta) := by
  intro pins s σ H Q inv h
  obtain ⟨nm, qn, N, bs, bm, sn, sub, ab, col, dd, k0, k1, k2, k3, k5, hC, hbm⟩ := T.cls
  refine wpAny_Call_Name_kw (ld_glob inv hg hm ?_ hdb)
  refine PySem.W.callWith_K (h₀ := X.base) inv.ok.mod.kin T.kC (thn (ha.run pos pins s σ H _ inv h) fun us s1 ⟨vs, H1, inv1, r1, hz, q1⟩ => ⟨inv1.kIn, ?_⟩) he hpl
  show wpAny _ _ (call (.ref C) us) _ _ _
  obtain ⟨hp, g, dr, tk, os⟩ := s1
  have big : hp.objs.size ≤ hp.objs.size + 1 := Nat.le_succ _
  have new : H1 (hp.objs.size + 1) = none := inv1.hok.fresh big
  have go := q1 (hp.objs.size + 1) new
  rw [List.append_nil] at go
  have keep : ∀ b o, hp.get? b = some o → ((hp.push (PySem.W.kdv_tup us)).push (PySem.HandSPX.excO C hp.objs.size)).get? b = some o := fun b o z => Heap.get?_push_of_some _ (Heap.get?_push_of_some _ z)
  have there : ((hp.push (PySem.W.kdv_tup us)).push (PySem.HandSPX.excO C hp.objs.size)).get? (hp.objs.size + 1) = some (PySem.HandSPX.excO C hp.objs.size) := by heap_get
  have inv2 : Inv X pins σ (upd H1 (hp.objs.size + 1) (exo (hp.objs.size + 1) C none)) ⟨(hp.push (PySem.W.kdv_tup us)).push (PySem.HandSPX.excO C hp.objs.size), g, dr, tk, os⟩ :=
    inv1.laid (t' := tk) (a := hp.objs.size + 1) (o := exo (hp.objs.size + 1) C none) (h' := (hp.push (PySem.W.kdv_tup us)).push (PySem.HandSPX.excO C hp.objs.size)) keep big (exo_ok there)
  have rr : Vals (V.ref (hp.objs.size + 1) :: vs) (Value.ref (hp.objs.size + 1) :: us) := .cons rfl r1
  have len : (Value.ref (hp.objs.size + 1) :: us ++ []).length = ps.length := by
    have z := rr.length
    rw [F1.len _ _ _ _ go] at z
    rw [List.append_nil]; exact z.symm
  have hbd := hb _ (Value.ref (hp.objs.size + 1) :: us) inv2.kIn len
  rw [List.append_nil] at hbd
  have hus : us.length ≤ sizeLine := by
    rw [← Paired.length r1, sizeLine_eq]
    omega
  refine wpAny_call (PySem.HandSPX.call_own F.excBase_ValueError (fun Y => PySem.HandSPX.refsVE_contains Y bm hbm) (inv1.kIn _ _ hC) (PySem.W.looks_findIn inv1.kIn iC) (fun self => PySem.W.bind_fn inv1.kIn self tI) hus
    (codeAny_mono (F1.run _ X.stack _ _ ⟨Value.ref (hp.objs.size + 1) :: us, []⟩ (Value.ref (hp.objs.size + 1) :: us) _ _ (fun _ _ _ => False) (room.make C us []) (inv2.env0.make C us []) hbd rr go) ?_))
  intro res t back
  match res, back with
  | .error er, back => exact hx pins σ _ _ er t inv2 back
  | .ok (.ret u), back =>
    obtain ⟨v, H2, os2, bare2, un2, hok2, rv, ev, d, fs, ea, ed, hd1, q2⟩ := back
    subst ev
    obtain ⟨h2, g2, d2, t2, os'⟩ := t
    obtain ⟨t0, G, J, kG, ge, hoe, na⟩ := mk_end0 (d2 := d2) (t2 := t2) inv1 big keep un2 hok2 os2 bare2 ea ed hd1
    exact ⟨rv, ⟨_, _, _, ⟨G, g2, d2, t2, os'⟩, _, .ref C, some d, rfl, J, kG, ge, hoe, ⟨rfl, rfl, fun vs hv => by cases hv; rfl⟩, rfl, rfl, na, rfl, bare2, raises_own T.exC T.tyC, q2⟩⟩
  | .ok .next, back => exact back.elim
  | .ok .brk, back => exact back.elim
  | .ok .cont, back => exact back.elim
section
variable {X : Cx} {x : Fx} {W : WX}
theorem s_raise (g : Gd X W) {k : Nat} {c n : Str} {fl : List Str} {e : Expr} {es : List Expr} {p pos pos' : Pos} {ma : M (List D)} (hr : Room (k + 1) X.A) (T : ErrOk X (x.ca c) n fl k) (nd : fl.Nodup) (hg : Gl X n) (hd : (n == ("__debug__" : Str)) = false) (hs : (e :: es).all nst = true) (hl : fl.length ≤ 1000) (ha : PA X (e :: es) (tA X.K x W ma)) :
    PS X (.Raise (some (.Call (.Name n p) (e :: es) [] pos)) none pos') (tS X.K x W (raiseM c fl ma)) := by
  obtain ⟨fI, fd, iC, tI, F, hb⟩ := T.ini
  rw [List.all_cons, Bool.and_eq_true] at hs
  refine PS.imp (L2N.ps_raise g.calm g.tk (pmkN T.oex iC tI F hr hb no_pass hg T.mg ha hd (nst_ok hs.1) (nst_all hs.2))) fun D σ H ⟨env, st, cs, B, hs, ho⟩ => ⟨env, st, cs, B, hs, ((outS.bind ho).g σ).imp fun ds e s cs1 B1 k vs H1 sx r => ?_⟩
  have k : outS X.K x W cs1 B1 (if ds.length = fl.length then .exn c (fl.zip ds) e s else .stuck) (qS X.K x D) := k
  by_cases hlen : ds.length = fl.length
  · rw [if_pos hlen] at k
    refine ⟨by rw [r.len, hlen]; exact hl, fun a ha => ⟨a, vs, by rw [List.append_nil], by rw [r.len, hlen], upd_same, fun d hd hda => ⟨rfl, d, _, upd_same, by rw [upd_ne hda, upd_same], by rw [upd_ne hda] at hd; exact hd, ?_⟩⟩⟩
    have hd1 : H1 d = none := by rw [upd_ne hda] at hd; exact hd
    have hH : upd (del (upd (upd (upd H1 a (exo a (x.ca c) none)) d (exd d (fl.zip vs).reverse)) a (exo a (x.ca c) (some d))) a) d (.xd (fl.zip vs).reverse) = upd H1 d (.xd (fl.zip vs).reverse) := by
      funext b
      by_cases hb : b = d
      · subst hb; rw [upd_same, upd_same]
      · rw [upd_ne hb, upd_ne hb]
        by_cases hba : b = a
        · subst hba; rw [del_same]; exact ha.symm
        · rw [del_ne hba, upd_ne hba, upd_ne hb, upd_ne hba]
    rw [hH]
    have ga := Gr.alloc (T := x.T) (o := .xd (fl.zip vs).reverse) sx.s hd1
    refine k σ (.ref (x.ca c)) (some d) cs1 _ _ (sx.grow ga) ga.b (Pre.refl _) ⟨rfl, .inr ⟨d, _, rfl, .inr upd_same, fun f y hy => ?_⟩⟩
    exact look_zip nd (r.mono ga.b (Pre.refl _)) hy
  · rw [if_neg hlen] at k; exact k.elim
end
def dropS (i : Nat) : Out Fw → Out Fw
  | .ok f e s => .ok f (e.set i .un) s
  | _ => .stuck
def tsX (K : Fg) (x : Fx) (cls : Value) (d : Option Addr) (ms : Str → Flds → M Fw) : TS := fun D σ H => ∃ c fs x', GX x x' ∧ ExR K x'.ca x'.cs0 x'.B0 cls d c fs ∧ tS K x' WF (ms c fs) D σ H
theorem PSs.tsX {X : Cx} {body : List Stmt} {x : Fx} {cls : Value} {d : Option Addr} {ms : Str → Flds → M Fw} (h : ∀ c fs x', GX x x' → ExR X.K x'.ca x'.cs0 x'.B0 cls d c fs → PSs X body (tS X.K x' WF (ms c fs))) : PSs X body (Dn.tsX X.K x cls d ms) :=
  ⟨fun pins s σ H D I ⟨c, fs, x', g, ex, q⟩ => (h c fs x' g ex).run pins s σ H D I q⟩
end Dn
end
section
set_option maxHeartbeats 200000
namespace Dn
open PySem L2 NdefX LamX PySem.W PyProof.Rows
section
variable {P : Program} {w : World} {K : Fg} {mg : Str → Option Value} {base : Heap} {N ps fr : List Str} {A : Around} {outer : List PySem.Env} {s : Shared} {H : Hp} {E : XK} {us : List Value} {vs : List V} {ws : List (Option V)} {Q : VK}
/-- a lambda's call, by the reading of its body -/
theorem lam_run {k : Nat} {f c' : Addr} {qual : Str} {params : Arguments} {body : Expr} {scope : Scope} {cl : List (Str × Addr)} {pm ctv : Value} {tb : TE}
    (S : NScope N ps fr scope) (hf : s.heap.get? f = some (kla_obj "<lambda>" qual params body scope cl pm c' ctv)) (hc : H c' = some (LamX.CodeO c' qual))
    (hb : bindArgs (kla_fn "<lambda>" qual params body scope cl pm (.ref c') ctv) ⟨us, []⟩ = pure (ps.zip us)) (r : Vals vs us) (hl : vs.length = ps.length)
    (e0 : Env0 P w K mg base A outer s H) (C : CellsAt cl fr ws s.heap H) (hr : Room (k + 1) A)
    (hbody : Room k (A.deeper (envF ⟨"<lambda>", qual, params, [], scope, cl, c'⟩ f s.heap.objs.size)) → PE (ncx CX0 P w K mg base N ⟨"<lambda>", qual, params, [], scope, cl, c'⟩ f A outer s H E) body tb)
    (ht : tb (startF N vs ws) H Q) : codeAny (model P w) A (.call (.ref f) ⟨us, []⟩) (CR CX0 outer P w H s Q E) s := by
  have lim : s.heap.NoLimit := e0.mod.nolimit.keeps fun b o e => (e0.bs b o e).1
  obtain ⟨⟨oc, vs', t, hoc, hdc, hvc⟩, _, _⟩ := e0.hok c' _ hc
  refine kla_callFunE hr.depth hf rfl S.co S.gen rfl ⟨c', oc, vs', t, rfl, hoc, hdc, hvc⟩ ?_
  rw [hb]
  refine wpAny_pure (wpAny_newFunctionEnv S.nocell (fun ⟨n, _⟩ hy => S.par n (List.of_mem_zip hy).1) (fun h1 hns hsb => ⟨lim.fresh _ hsb, ?_⟩) S.kind)
  have kp : ∀ b o, s.heap.get? b = some o → h1.get? b = some o := fun b o e => hsb.extBut b o (Nat.ne_of_lt (Heap.lt_size e)) (Heap.get?_push_of_some _ e)
  have J : Inv (ncx CX0 P w K mg base N ⟨"<lambda>", qual, params, [], scope, cl, c'⟩ f A outer s H E) [] (startF N vs ws) H { s with heap := h1, toks := s.toks + (ps.zip us).length } :=
    inv_startN (F := ⟨"<lambda>", qual, params, [], scope, cl, c'⟩) S hr.hd e0 hl r C hns kp
  refine kla_codeExpr (wpAny_mono ((hbody (hr.deeper _)).run [] _ _ H Q J ht) (fun v s' hq => ?_) fun e s' hq => hq)
  obtain ⟨x, H', J', rv, q⟩ := hq
  exact ⟨x, H', J'.os, J'.bare, J'.base, J'.hok, rv, q⟩
end
section
variable {X : Cx} {pins : List (Addr × Obj)} {σ : L2.St} {H : Hp} {s : Shared}
/-- a new list that was not tracked is tracked from now on; c is thrown away -/
theorem inv_adopt (I : Inv X pins σ H s) {a c : Addr} {h' : Heap} {ys : List V} {its : List Value} {n t' : Nat} (fa : FpOk X pins H a) (fc : FpOk X pins H c) (k : ∀ b o, b ≠ a → b ≠ c → s.heap.get? b = some o → h'.get? b = some o)
    (ha : h'.get? a = some (seqObj "list" its.toArray n)) (hv : Vals ys its) (hz : ys.length ≤ sizeLine) : Inv X pins σ (upd H a (.lst ys)) { s with heap := h', toks := t' } := by
  obtain ⟨a0, a1, a2, a3, a4, a5⟩ := fa
  obtain ⟨c0, c1, c2, c3, c4, c5⟩ := fc
  have na : ∀ b u, H b = some u → b ≠ a := fun b u e z => by rw [z, a0] at e; cases e
  have nc : ∀ b u, H b = some u → b ≠ c := fun b u e z => by rw [z, c0] at e; cases e
  refine I.step (g' := s.gens) (d' := s.drawn) (ch := [a, c]) (fun b hb => ?_) (fun b o _ _ hc e _ => k b o (fun z => hc (by simp [z])) (fun z => hc (by simp [z])) e) (fun b o _ _ hc e _ => ⟨o.slots, k b o (fun z => hc (by simp [z])) (fun z => hc (by simp [z])) e⟩) (fun b o hc e n => ?_)
    (fun b o hc e => ⟨o, k b o (fun z => hc (by simp [z])) (fun z => hc (by simp [z])) e⟩) (fun b xs e => by rw [upd_ne (na b _ e)]; exact e) (fun b o u e => by rw [upd_ne (na b _ e)]; exact e) (fun b ps e => ⟨#[], by rw [upd_ne (na b _ e), e]; simp⟩) (fun m hm => ?_) (fun b u e => ?_) I.bare
  · rcases List.mem_cons.mp hb with rfl | hb
    · exact ⟨a3, a1, a4, a5⟩
    · have e : b = c := by simpa using hb
      subst e
      exact ⟨c3, c1, c4, c5⟩
  · rw [upd_ne (fun z => hc (by simp [z]))]; exact n
  · obtain ⟨o, es, ep, ho, r⟩ := hm
    exact ⟨o, es, ep, k _ _ (fun z => a1 z.symm) (fun z => c1 z.symm) ho, r⟩
  · by_cases q : b = a
    · subst q
      rw [upd_same] at e
      cases e
      exact ⟨hz, its, n, hv, ha⟩
    · rw [upd_ne q] at e
      refine (I.hok b u e).stay (fun d v hd r => k d v ?_ ?_ r) (fun d r => by rw [upd_ne (na d _ r)]; exact r) fun d xs r => by rw [upd_ne (na d _ r)]; exact r
      · rcases hd with rfl | hd
        · exact q
        · exact na d _ hd
      · rcases hd with rfl | hd
        · exact nc d u e
        · exact nc d _ hd
theorem fp_stk (I : Inv X pins σ H s) {b : Addr} (f : FpOk X pins H b) : b ∉ frs X.stack := fun z => by
  obtain ⟨_, f1, f2, _⟩ := f
  rcases List.mem_cons.mp (I.stkSub b z) with e | e
  · exact f1 e
  · exact f2 e
theorem fp_up {H' : Hp} {b : Addr} (f : FpOk X pins H b) (h : H' b = none) : FpOk X pins H' b := ⟨h, f.2⟩
end
theorem each_reads {h : Heap} : ∀ {us : List Value} {ds : List PyData} {as : List Addr}, ReadsAll h us ds as → EachIs (fun v k => ∃ as, Reads h v k as) us ds
  | _, _, _, .nil => EachIs.nil
  | _, _, _, .cons r t => EachIs.cons ⟨_, r⟩ (each_reads t)
section
variable {X : Cx} {pins : List (Addr × Obj)} {σ : L2.St} {H1 : Hp} {s : Shared} {E : Value → Shared → Prop}
/-- what one call of the key function leaves -/
def KT (X : Cx) (pins : List (Addr × Obj)) (σ : L2.St) (M : Hp → Prop) (d : PyData) (s1 : Shared) (Ha : Hp) (kv : Value) (s2 : Shared) : Prop :=
  ∃ (kx : V) (Hb : Hp), Inv X pins σ Hb s2 ∧ M Hb ∧ Sme Ha Hb ∧ RelV kx kv ∧ Dp X.K Hb kx d ∧ ∀ b o, s1.heap.get? b = some o → Ha b = none → b ∉ frs X.stack → s2.heap.get? b = some o ∧ Hb b = none
theorem dp_sme {K : Fg} {H H' : Hp} (e : Sme H H') : ∀ {v : V} {d : PyData}, Dp K H v d → Dp K H' v d := fun {v d} h => by
  induction h using Dp.rec (motive_2 := fun vs ds _ => DpAll K H' vs ds) with
  | non => exact .non
  | bl b => exact .bl b
  | int i => exact .int i
  | str x => exact .str x
  | lst q _ ih => exact .lst (sql_mono e q) ih
  | tup q _ ih => exact .tup (sqt_mono e q) ih
  | nil => exact .nil
  | cons _ _ h1 h2 => exact .cons h1 h2
theorem dpAll_sme {K : Fg} {H H' : Hp} (e : Sme H H') : ∀ {vs : List V} {ds : List PyData}, DpAll K H vs ds → DpAll K H' vs ds
  | _, _, .nil => .nil
  | _, _, .cons a b => .cons (dp_sme e a) (dpAll_sme e b)
theorem dpAll_snoc {K : Fg} {H : Hp} {v : V} {d : PyData} (h : Dp K H v d) : ∀ {vs : List V} {ds : List PyData}, DpAll K H vs ds → DpAll K H (vs ++ [v]) (ds ++ [d])
  | _, _, .nil => .cons h .nil
  | _, _, .cons a b => .cons a (dpAll_snoc h b)
theorem vals_snoc {v : V} {u : Value} (h : RelV v u) : ∀ {vs : List V} {us : List Value}, Vals vs us → Vals (vs ++ [v]) (us ++ [u])
  | _, _, .nil => .cons h .nil
  | _, _, .cons a b => .cons a (vals_snoc h b)
theorem srt_rest {f a kS : Addr} {fo : Obj} {us : List Value} {xs : List V} {kz : List PyData} {e1 : Nat} {M : Hp → Prop} {Pq : PySem.Fin → Shared → Prop}
    (I : Inv X pins σ H1 s) (m1 : M H1) (fk : FpOk X pins H1 kS) (fa : FpOk X pins H1 a) (nk : s.heap.get? kS = some (seqObj "list" #[] 0)) (na : s.heap.get? a = some (seqObj "list" #[] e1)) (hka : kS ≠ a) (nf : s.heap.get? f = some fo) (hf : H1 f = none) (ff : f ∉ frs X.stack) (hfk : f ≠ kS)
    (hv : Vals xs us) (hlen : kz.length = us.length) (hZ : us.length ≤ sizeLine) (hal : AllAlike kz) (hsk : Sortable kz) (hu : ∀ d, d ∈ kz → X.A.in1.in1.units + d.depth < cLine)
    (turn : ∀ (i : Nat) (x : V) (u : Value) (d : PyData), xs[i]? = some x → us[i]? = some u → RelV x u → kz[i]? = some d → ∀ (s1 : Shared) (Ha : Hp), Inv X pins σ Ha s1 → M Ha → Sme H1 Ha → s1.heap.get? f = some fo → Ha f = none →
      wpAny (model X.prog X.w) X.A.in1.in1 (call (.ref f) [u]) (KT X pins σ M d s1 Ha) (fun _ _ => False) s1)
    (fin : ∀ (Ha : Hp) (s1 : Shared) (h' : Heap) (tk : Nat) (out : List Value) (c : Nat), Inv X pins σ Ha s1 → M Ha → Sme H1 Ha → FpOk X pins Ha a → FpOk X pins Ha kS → (∀ b o, b ≠ a → b ≠ kS → s1.heap.get? b = some o → h'.get? b = some o) → h'.get? a = some (seqObj "list" out.toArray c) → KeyedOut false kz us out →
      Pq (.done (.ret .none)) { s1 with heap := h', toks := tk }) :
    wpAny (model X.prog X.w) X.A.in1.in1 (ksk_rest a (.ref f) false us.toArray e1 (.ref kS)) Pq E s := by
  unfold ksk_rest
  refine wpAny_bind (wpAny_rule ?_)
  first
    | rw [List.forIn_toArray]
    | (rw [← Array.forIn_toList]; simp only [List.toList_toArray])
  refine wpAny_bind (ksk_fold (fun i s1 => ∃ (Ha : Hp) (kA : Array Value) (e : Nat) (ks : List V), Inv X pins σ Ha s1 ∧ M Ha ∧ Sme H1 Ha ∧ s1.heap.get? kS = some (seqObj "list" kA e) ∧ Ha kS = none ∧ s1.heap.get? a = some (seqObj "list" #[] e1) ∧ Ha a = none ∧
      s1.heap.get? f = some fo ∧ Ha f = none ∧ Vals ks kA.toList ∧ DpAll X.K Ha ks (kz.take i)) us 0 s
    ⟨H1, #[], 0, [], I, m1, Sme.refl _, nk, fk.1, na, fa.1, nf, hf, .nil, by rw [List.take_zero]; exact .nil⟩ ?step ?done)
  case step =>
    rintro j u s1 hx ⟨Ha, kA, e, ks, Ia, ma, sa, nk1, k0, na1, a0, nf1, f0, rv, rd⟩
    simp only [Nat.zero_add] at rd ⊢
    have hj : j < us.length := (List.getElem?_eq_some_iff.mp hx).1
    obtain ⟨d, hd⟩ : ∃ d, kz[j]? = some d := ⟨_, List.getElem?_eq_getElem (by omega)⟩
    obtain ⟨x, hxx⟩ : ∃ x, xs[j]? = some x := ⟨_, List.getElem?_eq_getElem (by rw [hv.length]; exact hj)⟩
    obtain ⟨u', hu', rx⟩ := hv.get hxx
    rw [hx] at hu'
    cases hu'
    refine wpAny_bind (wpAny_attempt (wpAny_mono (turn j x u d hxx hx rx hd s1 Ha Ia ma sa nf1 f0) (fun kv s2 he => ?_) fun _ _ z => z.elim))
    obtain ⟨kx, Hb, Ib, mb, sb, rk, dk, keep⟩ := he
    have fkb : FpOk X pins Ha kS := fp_up fk k0
    have fab : FpOk X pins Ha a := fp_up fa a0
    obtain ⟨nk2, k2⟩ := keep kS _ nk1 k0 (fp_stk Ia fkb)
    obtain ⟨na2, a2⟩ := keep a _ na1 a0 (fp_stk Ia fab)
    obtain ⟨nf2, f2⟩ := keep f _ nf1 f0 ff
    have hz : kA.size ≤ us.length := by
      have h1 := rv.length
      have h2 : ∀ {vs : List V} {ds : List PyData}, DpAll X.K Ha vs ds → vs.length = ds.length := fun h => by
        induction h using DpAll.rec (motive_1 := fun _ _ _ => True) with
        | nil => rfl
        | cons _ _ _ h => simp [h]
        | _ => trivial
      have h3 := h2 rd
      have h4 : kA.toList.length = kA.size := Array.length_toList
      have h5 : ks.length = kA.toList.length := h1
      have h6 : (kz.take j).length ≤ kz.length := List.length_take_le' .. 
      omega
    have s1b := Heap.SameBut.update s2.heap kS (Obj.mapSeq (·.push kv))
    obtain ⟨c2, hc2⟩ : ∃ c2, (s2.heap.update kS (Obj.mapSeq (·.push kv))).get? kS = some (seqObj "list" (kA.push kv) c2) := ⟨_, get?_update_seq nk2 (·.push kv)⟩
    refine wpAny_bind (listUpdate_at nk2 rfl ?_ (Nat.le_trans hz hZ) (Nat.le_trans (Nat.le_of_eq (Array.size_push ..)) (Nat.succ_le_succ (Nat.le_trans hz hZ))))
    obtain ⟨q0, q1, q2, q3, q4, q5⟩ := fp_up fk k2
    have Ic : Inv X pins σ Hb { s2 with heap := s2.heap.update kS (Obj.mapSeq (·.push kv)) } := Ib.turned (t' := s2.toks) (fun b o hb e => (s1b.2 b hb).trans e) q0 q1 q3 q4 q5
    refine wpAny_pure ⟨rfl, Hb, kA.push kv, c2, ks ++ [kx], Ic, mb, sa.trans sb, hc2, k2, (s1b.2 a hka.symm).trans na2, a2, (s1b.2 f hfk).trans nf2, f2, ?_, ?_⟩
    · rw [Array.toList_push]; exact vals_snoc rk rv
    · rw [List.take_add_one, hd]
      exact dpAll_snoc dk (dpAll_sme sb rd)
  case done =>
    rintro s1 ⟨Ha, kA, e, ks, Ia, ma, sa, nk1, k0, na1, a0, nf1, f0, rv, rd⟩
    have e3 : kz.take (0 + us.length) = kz := List.take_of_length_le (by omega)
    rw [e3] at rd
    obtain ⟨as, ra⟩ := Dp.readsAll Ia kz ks kA.toList rd rv
    have hk := each_reads ra
    have hsz : kA.size = us.length := by
      have h1 := hk.length
      rw [Array.length_toList] at h1
      omega
    refine wpAny_bind (listItems_at nk1 rfl ?_)
    obtain ⟨G, g1, g2⟩ := L2.restrict s1.heap (fun b => b != kS)
    have kp : KeepsBut a G s1.heap := fun b o _ hb => by
      by_cases q : b = kS
      · rw [g2 b (by simp [q])] at hb; cases hb
      · rw [g1 b (by simp [q])] at hb; exact hb
    refine keyH_end (κ := dataKind s1.heap kz) (h₁ := G) kp (g2 kS (by simp)) nk1 na1 hka (SortsAt.data hk hal hsk hu) hsz hZ fun h3 tk3 c k3 n3 => ?_
    exact fin Ha s1 h3 tk3 _ c Ia ma sa (fp_up fa a0) (fp_up fk k0) (fun b o h1 h2 hb => k3 b o h1 (by rw [g1 b (by simp [h2])]; exact hb)) n3 ⟨s1.heap, kA.toList, hal, rfl, hk⟩
end
section
variable {X : Cx} {pins : List (Addr × Obj)} {σ : L2.St} {H : Hp} {s : Shared}
/-- all stands, a table may grow -/
def SmT (H H' : Hp) : Prop := ∀ a o, H a = some o → H' a = some o ∨ ∃ xs ys, o = .tbl xs ∧ H' a = some (.tbl ys)
theorem SmT.sme {H H' : Hp} (h : SmT H H') : Sme H H' := fun a o e => (h a o e).elim .inl fun z => .inr (.inl z)
theorem SmT.refl (H : Hp) : SmT H H := fun _ _ h => .inl h
theorem tab_grow {T : List NTb} {Pt cn : Addr} {q : Str} {ts : Array Value} {pos : Pos} (hT : LamX.Tabs T H) (hu : ∀ p ∈ T, p.1 = Pt → p.2 = q) (hP : H Pt = some (.tbl ts)) (ok : TriplesOk ts.toList)
    (own : ∀ (ps : Pos) (cv : Value), codeAmong ps ts.toList = some cv → ∃ d, cv = .ref d ∧ H d = some (LamX.CodeO d q)) (nc : H cn = none) :
    let G := upd (upd H Pt (.tbl (ts ++ #[rawInt pos.line, rawInt pos.col, .ref cn]))) cn (LamX.CodeO cn q)
    SmT H G ∧ LamX.Tabs T G := by
  intro G
  have nPc : Pt ≠ cn := ne_of_none hP nc
  have keepC : ∀ d, H d = some (LamX.CodeO d q) ∨ (∃ r, H d = some (LamX.CodeO d r)) → G d = H d := fun d hd => by
    have hx : ∃ r, H d = some (LamX.CodeO d r) := hd.elim (fun z => ⟨q, z⟩) id
    obtain ⟨r, hr⟩ := hx
    show upd (upd H Pt _) cn _ d = H d
    rw [upd_ne (ne_of_none hr nc), upd_ne (ne_of hr hP (LamX.codeO_ne _))]
  refine ⟨fun b o e => ?_, fun p hp => ?_⟩
  · by_cases z : b = Pt
    · rw [z, hP] at e
      cases e
      exact .inr ⟨ts, _, rfl, by rw [z]; show upd (upd H Pt _) cn _ Pt = _; rw [upd_ne nPc, upd_same]⟩
    · exact .inl (by show upd (upd H Pt _) cn _ b = _; rw [upd_ne (ne_of_none e nc), upd_ne z]; exact e)
  · by_cases z : p.1 = Pt
    · have el : (ts ++ #[rawInt pos.line, rawInt pos.col, .ref cn]).toList = ts.toList ++ [rawInt pos.line, rawInt pos.col, .ref cn] := by simp
      refine ⟨_, by rw [z]; show upd (upd H Pt _) cn _ Pt = _; rw [upd_ne nPc, upd_same], by rw [el]; exact TriplesOk_snoc _ _ _ _ ok, fun ps cv hcv => ?_⟩
      rw [hu p hp z]
      rw [el] at hcv
      rcases LamX.among_app _ ok hcv with y | y
      · obtain ⟨d, e1, e2⟩ := own ps cv y
        exact ⟨d, e1, by rw [keepC d (.inl e2)]; exact e2⟩
      · exact ⟨cn, y, upd_same⟩
    · obtain ⟨ts', a1, a2, a3⟩ := hT p hp
      refine ⟨ts', by show upd (upd H Pt _) cn _ p.1 = _; rw [upd_ne (ne_of_none a1 nc), upd_ne z]; exact a1, a2, fun ps cv hcv => ?_⟩
      obtain ⟨d, e1, e2⟩ := a3 ps cv hcv
      exact ⟨d, e1, by rw [keepC d (.inr ⟨_, e2⟩)]; exact e2⟩
theorem new_stk (I : Inv X pins σ H s) {b : Addr} (h : s.heap.objs.size ≤ b) : b ∉ frs X.stack := fp_stk I (I.fpOk h (I.hok.fresh h))
/-- a lambda is made -/
theorem lam_mk {T : List NTb} {c Pt : Addr} {params : Arguments} {body : Expr} {scope : Scope} {pos : Pos} {E : Value → Shared → Prop} {Q : Value → Shared → Prop} (I : Inv X pins σ H s) (TB : LamX.TabB X.base X.mg c Pt) (hcode : X.env.code = .ref c)
    (hm : (Pt, X.env.qual ++ "<lambda>") ∈ T) (hu : ∀ p ∈ T, p.1 = Pt → p.2 = X.env.qual ++ "<lambda>") (hT : LamX.Tabs T H) (hdef : defaultsOf params X.env = ([], [])) (hfree : ∀ y ∈ scope.names, y.2 = .free → ∃ c, X.env.cells.lookup y.1 = some c)
    (h : ∀ (f cn : Addr) (pm ctv : Value) (G : Hp) (s1 : Shared), Inv X pins σ G s1 → SmT H G → LamX.Tabs T G → s1.heap.get? f = some (kla_obj "<lambda>" (X.env.qual ++ "<lambda>") params body scope (cloFrom X.env.cells scope.names []) pm cn ctv) →
      G f = none → f ∉ frs X.stack → G cn = some (LamX.CodeO cn (X.env.qual ++ "<lambda>")) → Q (.ref f) s1) :
    wpAny (model X.prog X.w) X.A (eval (.Lambda params body scope pos) X.env) Q E s := by
  obtain ⟨ts, hP, ok, own⟩ := hT _ hm
  have onP : s.heap.get? Pt = some { cls := .none, data := .fields ts } := I.hok Pt _ hP
  have bP := TB.bm.keeps I.bk
  have gl := I.mod.glob.keeps I.bk
  have cd := TB.code.keeps I.bk
  refine kla_eval hdef ?_
  cases hit : codeAmong pos ts.toList with
  | some cv =>
    obtain ⟨cn, e, hco⟩ := own pos cv hit
    subst e
    refine kla_makeFunctionHit (mg := X.mg) (c := c) (P := Pt) (ps := ts) (closure_ok hfree) I.ok.glob gl hcode cd onP ok hit bP fun ctv g tk keep big => ?_
    refine h g.objs.size cn _ ctv H _ (I.kept fun b o e => ?_) (SmT.refl H) hT (Heap.get?_push_size _ rfl) (I.hok.fresh big) (new_stk I big) hco
    exact Heap.get?_push_of_some _ (keep b o e)
  | none =>
    refine kla_makeFunction (mg := X.mg) (c := c) (P := Pt) (ps := ts) (closure_ok hfree) I.ok.glob gl hcode cd onP ok hit TB.gP bP fun cn ctv g tk keep ge lt rec' tb => ?_
    obtain ⟨c2, oc, fs, t, e2, a1, a2, a3⟩ := rec'
    cases e2
    have nc : H cn = none := I.hok.fresh ge
    have big : s.heap.objs.size ≤ g.objs.size := Nat.le_trans ge (Nat.le_of_lt lt)
    obtain ⟨sm, tg⟩ := tab_grow (pos := pos) hT hu hP ok own nc
    refine h g.objs.size cn _ ctv _ _ (LamX.inv_table (t' := tk) (h' := g.push _) I hP (fun b o hb e => ?_) (Heap.get?_push_of_some _ tb) ge ⟨oc, fs, t, ?_, a2, a3⟩) sm tg (Heap.get?_push_size _ rfl) ?_ (new_stk I big) upd_same
    · exact Heap.get?_push_of_some _ (keep b o hb e)
    · exact Heap.get?_push_of_some _ a1
    · rw [upd_ne (Nat.ne_of_gt lt), upd_ne (Nat.ne_of_gt (Nat.lt_of_lt_of_le (Heap.lt_size onP) big))]
      exact I.hok.fresh big
end
/-- ys are the items xs sorted by the keys kz -/
def SortedAs (kz : List PyData) (xs ys : List V) : Prop := ∃ us out, Vals xs us ∧ KeyedOut false kz us out ∧ Vals ys out
/-- sorted(e, key=lambda ..): tb is the reading of the lambda's body over its own names, js the places of the captured ones -/
def tSrt (K : Fg) (T : List NTb) (ta : TA) (tb : TE) (NL : List Str) (js : List Nat) : TE := fun σ H Q => ta σ H fun vs H1 => LamX.Tabs T H1 ∧ ∃ (l : Addr) (xs : List V) (kz : List PyData), vs = [.ref l] ∧ SqL K H1 l xs ∧ kz.length = xs.length ∧ AllAlike kz ∧ Sortable kz ∧ (∀ d ∈ kz, d.depth ≤ 60) ∧
  ∀ H2, SmT H1 H2 → LamX.Tabs T H2 → ∃ M : Hp → Prop, M H2 ∧
    (∀ (i : Nat) (v : V) (d : PyData) (Ha : Hp), xs[i]? = some v → kz[i]? = some d → M Ha → Sme H2 Ha → tb (startF NL [v] (js.map (slotAt σ))) Ha fun kv Hb => M Hb ∧ Sme Ha Hb ∧ Dp K Hb kv d) ∧
    ∀ (Ha : Hp) (p : Addr) (ys : List V), M Ha → Sme H2 Ha → Ha p = none → SortedAs kz xs ys → Q (.ref p) (upd Ha p (.lst ys))
section
variable {X : Cx}
theorem boot_srt : bootBuiltins "sorted" = some (.builtin "sorted") := by decide +kernel
theorem srt_arg (x : Addr) (v : Value) : argsOk "list.sort" ⟨[.ref x], [(Str.ofString "key", v)]⟩ := by unfold argsOk; kernel_rfl
theorem pe_srtLam {e : Expr} {params : Arguments} {body : Expr} {scope : Scope} {p pos lpos kpos : Pos} {ta : TA} {tb : TE} {T : List NTb} {c Pt : Addr} {NL fr : List Str} {pn : Str} {js : List Nat} {k : Nat}
    (hg : Gl X "sorted") (hm : X.mg "sorted" = none) (ha : PA X [e] ta) (TB : LamX.TabB X.base X.mg c Pt) (hcode : X.env.code = .ref c) (hT : (Pt, X.env.qual ++ "<lambda>") ∈ T) (hu : ∀ p ∈ T, p.1 = Pt → p.2 = X.env.qual ++ "<lambda>")
    (hdef : defaultsOf params X.env = ([], [])) (S : NScope NL [pn] fr scope) (hfree : ∀ y ∈ scope.names, y.2 = .free → X.env.scope.names.lookup y.1 = some .cell ∨ X.env.scope.names.lookup y.1 = some .free) (hfr : ∀ y ∈ fr, (y, NameKind.free) ∈ scope.names) (hjs : js.map (fun j => X.N[j]?) = fr.map some)
    (hr : Room (k + 3) X.A) (hb : ∀ (pm ctv : Value) (cn : Addr) (cl : List (Str × Addr)) (u : Value), bindArgs (kla_fn "<lambda>" (X.env.qual ++ "<lambda>") params body scope cl pm (.ref cn) ctv) ⟨[u], []⟩ = pure [(pn, u)])
    (hbody : ∀ (f cn : Addr) (cl : List (Str × Addr)) (A : Around) (outer : List PySem.Env) (s : Shared) (H : Hp) (E : XK), Room k (A.deeper (envF ⟨"<lambda>", X.env.qual ++ "<lambda>", params, [], scope, cl, cn⟩ f s.heap.objs.size)) →
      PE (ncx CX0 X.prog X.w X.K X.mg X.base NL ⟨"<lambda>", X.env.qual ++ "<lambda>", params, [], scope, cl, cn⟩ f A outer s H E) body tb)
    (he : backTo pos (starEach [e] X.env) = (false, eval e X.env) :: backTo pos (starEach [] X.env) := by rfl) (hpl : (backTo pos (starEach [e] X.env)).any (·.1) = false := by rfl) :
    PE X (.Call (.Name "sorted" p) [e] [⟨some "key", .Lambda params body scope lpos, kpos⟩] pos) (tSrt X.K T ta tb NL js) := by
  refine ⟨fun pins s σ H Q I h => ?_⟩
  refine wpAny_Call_Name_kw (ld_blt I hg hm boot_srt ?_ (by decide) (by decide))
  refine callWith_kw (thn (ha.run pos pins s σ H _ I h) fun us s1 ⟨vs, H1, I1, r1, q1⟩ => ?_) he hpl rfl rfl
  obtain ⟨tabs, l, xs, kz, e1, sq, hlen, hal, hsk, hdp, k2⟩ := q1
  subst e1
  obtain ⟨u, e2, ru⟩ := vals1 r1
  subst e2
  cases ru
  show wpAny _ _ (evalAll [do let v ← eval (.Lambda params body scope lpos) X.env; standAt pos; pure v]) _ _ s1
  refine wpAny_evalAll_cons (wpAny_bind (lam_mk I1 TB hcode hT hu tabs hdef (fun y hy z => I1.ok.has y.1 (hfree y hy z)) fun f cn pm ctv G s2 I2 sm tg hf gf ff gc => ?_))
  refine wpAny_bind (wpAny_standAt (wpAny_pure (wpAny_evalAll_nil ?_)))
  show wpAny _ _ (call (.builtin "sorted") [.ref l] [(Str.ofString "key", .ref f)]) _ _ s2
  obtain ⟨M, m2, turn, fin⟩ := k2 G sm tg
  obtain ⟨its, rv, pl, hz⟩ := I2.list (sql_mono sm.sme sq)
  have hlz : its.length ≤ sizeLine := by rw [← rv.length]; exact hz
  refine sorted_of_sort (pl.isList) hlz (ksk_s1 _ _) (fun x => srt_arg x _) fun E' => ?_
  rw [ksk_t1]
  have hcz : (copyHeap s2.heap its).get? (s2.heap.objs.size + 1) = some (seqObj "list" its.toArray 0) := copyHeap_at _ _
  have alt : s2.heap.objs.size + 1 < (copyHeap s2.heap its).objs.size := Heap.lt_size hcz
  obtain ⟨ep, hep⟩ : ∃ ep, ((copyHeap s2.heap its).update (s2.heap.objs.size + 1) (Obj.mapSeq fun _ => (#[] : Array Value))).get? (s2.heap.objs.size + 1) = some (seqObj "list" #[] ep) := ⟨_, get?_update_seq hcz fun _ => #[]⟩
  unfold ksk_tree
  refine wpAny_bind (listItems_at hcz rfl ?_)
  refine wpAny_bind (listUpdate_at hcz rfl ?_ (by rw [List.size_toArray]; exact hlz) (Nat.zero_le _))
  refine wpAny_bind (seqEpoch_at hep rfl ?_)
  refine wpAny_bind (wpAny_newTuple ?_ (by show its.length ≤ _; exact hlz))
  refine wpAny_bind (wpAny_newList ?_ (Nat.zero_le _))
  refine wpAny_holding ?_
  have kp : ∀ b o, s2.heap.get? b = some o → ((((copyHeap s2.heap its).update (s2.heap.objs.size + 1) (Obj.mapSeq fun _ => (#[] : Array Value))).push (seqObj "tuple" its.toArray 0)).push (seqObj "list" #[] 0)).get? b = some o := fun b o q => by
    refine Heap.get?_push_of_some _ (Heap.get?_push_of_some _ ?_)
    rw [Heap.get?_update_ne _ _ _ _ (Nat.ne_of_lt (Nat.lt_succ_of_lt (Heap.lt_size q)))]
    exact copyHeap_old q
  have big : s2.heap.objs.size ≤ (((copyHeap s2.heap its).update (s2.heap.objs.size + 1) (Obj.mapSeq fun _ => (#[] : Array Value))).push (seqObj "tuple" its.toArray 0)).objs.size := by
    rw [size_push', Heap.size_update]
    exact Nat.le_of_lt (Nat.lt_succ_of_lt (Nat.lt_trans (Nat.lt_succ_self _) alt))
  have I3 : Inv X pins σ G { s2 with heap := (((copyHeap s2.heap its).update (s2.heap.objs.size + 1) (Obj.mapSeq fun _ => (#[] : Array Value))).push (seqObj "tuple" its.toArray 0)).push (seqObj "list" #[] 0) } := I2.kept (t' := s2.toks) kp
  have fk := I2.fpOk big (H' := G) (I2.hok.fresh big)
  have fa := I2.fpOk (b := s2.heap.objs.size + 1) (Nat.le_succ _) (H' := G) (I2.hok.fresh (Nat.le_succ _))
  have hka : (((copyHeap s2.heap its).update (s2.heap.objs.size + 1) (Obj.mapSeq fun _ => (#[] : Array Value))).push (seqObj "tuple" its.toArray 0)).objs.size ≠ s2.heap.objs.size + 1 := by
    rw [size_push', Heap.size_update]
    exact Nat.ne_of_gt (Nat.lt_succ_of_lt alt)
  have hfk : f ≠ (((copyHeap s2.heap its).update (s2.heap.objs.size + 1) (Obj.mapSeq fun _ => (#[] : Array Value))).push (seqObj "tuple" its.toArray 0)).objs.size := Nat.ne_of_lt (Nat.lt_of_lt_of_le (Heap.lt_size hf) big)
  have un : X.A.in1.in1.units = X.A.units + 2 := rfl
  refine srt_rest (xs := xs) (kz := kz) (M := M) I3 m2 fk fa (Heap.get?_push_size _ rfl) (Heap.get?_push_of_some _ (Heap.get?_push_of_some _ hep)) hka (kp f _ hf) gf ff hfk rv (by rw [hlen, rv.length]) hlz hal hsk ?_ ?_ ?_
  · intro d hd
    have h1 := hdp d hd
    have h2 := hr.units
    rw [un]
    omega
  · intro i x u d hx hu' rx hd s3 Ha I4 ma sa nf f0
    have hrr : Room (k + 1) X.A.in1.in1 := hr.in1.in1
    have C := cells_of I4 (Caps.made (scope := scope) (fr := fr) (js := js) I4.ok hfree hfr hjs)
    have gc' : Ha cn = some (LamX.CodeO cn (X.env.qual ++ "<lambda>")) := sa.at gc (LamX.codeO_ne (c := cn) (q := X.env.qual ++ "<lambda>")) (show ¬ DicO (.ext _) from id)
    refine wpAny_call (codeAny_mono (lam_run (k := k) (vs := [x]) (us := [u]) (ps := [pn]) (E := fun _ _ _ => False) (Q := fun kv Hb => M Hb ∧ Sme Ha Hb ∧ Dp X.K Hb kv d) S nf gc' (hb pm ctv cn _ u) (.cons rx .nil) rfl I4.env0.in1.in1 C hrr (hbody f cn _ _ _ _ _ _) (turn i x d Ha hx hd ma sa)) fun r s4 hq => ?_)
    cases r with
    | error e => exact False.elim hq
    | ok fl =>
      cases fl with
      | ret kv =>
        obtain ⟨kx, Hb, os, bare, und, hok, rk, q1, q2, q3⟩ := hq
        obtain ⟨hh, g, dr, tk, os'⟩ := s4
        obtain rfl : os' = s3.os := os
        refine ⟨kx, Hb, I4.call (h' := hh) (g' := g) (d' := dr) (t' := tk) (ch := []) und hok bare (fun b z => absurd z (by simp)), q1, q2, rk, q3, fun b o e n hs => ⟨und.keep b o e n hs (by simp), und.free b o e n (by simp)⟩⟩
      | next => exact False.elim hq
      | brk => exact False.elim hq
      | cont => exact False.elim hq
  · intro Ha s3 h' tk out cc I4 ma sa f1 f2 kk hout ko
    refine ⟨rfl, ?_⟩
    have rl := ko.length (by rw [hlen, rv.length])
    have hR : EachIs (fun (u : Value) (b : V × PyData) => RelV b.1 u) its (xs.zip kz) := by
      have : ∀ (xs : List V) (its : List Value) (kz : List PyData), Vals xs its → kz.length = xs.length → EachIs (fun (u : Value) (b : V × PyData) => RelV b.1 u) its (xs.zip kz) := by
        intro xs
        induction xs with
        | nil => intro its kz r _; cases r; exact EachIs.nil
        | cons x xs ih =>
          intro its kz r hl
          cases r with
          | cons a b =>
            cases kz with
            | nil => simp at hl
            | cons d kz => exact EachIs.cons a (ih _ _ b (by simpa using hl))
      exact this xs its kz rv hlen
    have hmk : (xs.zip kz).map (·.2) = kz := by rw [List.map_snd_zip]; omega
    have ek := keyedOut_each (rev := false) (bs := xs.zip kz) (·.2) (by rw [hmk]; exact ko) hR
    have vo : ∀ {out : List Value} {bs : List (V × PyData)}, EachIs (fun (u : Value) (b : V × PyData) => RelV b.1 u) out bs → Vals (bs.map (·.1)) out := by
      intro out bs h
      induction h with
      | nil => exact .nil
      | cons a _ ih => exact .cons a ih
    have vv := vo ek
    have I5 := inv_adopt (t' := tk) I4 f1 f2 (fun b o h1 h2 e => kk b o h1 h2 e) hout vv (by rw [vv.length, rl]; exact hlz)
    exact ⟨.ref _, _, I5, rfl, fin Ha _ _ ma sa f1.1 ⟨its, out, rv, ko, vv⟩⟩
end
mutual
def noC : D → Bool
  | .cell _ => false
  | .tup _ xs => noCL xs
  | .lst xs => noCL xs
  | .dcK kvs => noCK kvs
  | .dcT kvs => noCT kvs
  | .obj _ fs => noCF fs
  | .exc _ fs => noCF fs
  | _ => true
def noCL : List D → Bool
  | [] => true
  | d :: ds => noC d && noCL ds
def noCK : List (Key × D) → Bool
  | [] => true
  | d :: ds => noC d.2 && noCK ds
def noCT : List (List Key × D) → Bool
  | [] => true
  | d :: ds => noC d.2 && noCT ds
def noCF : Flds → Bool
  | [] => true
  | d :: ds => noC d.2 && noCF ds
end
theorem noCK_map : ∀ kvs : List (Key × D), noCK kvs = noCL (kvs.map (·.2))
  | [] => rfl
  | d :: ds => by simp only [noCK, List.map_cons, noCL, noCK_map ds]
theorem noCT_map : ∀ kvs : List (List Key × D), noCT kvs = noCL (kvs.map (·.2))
  | [] => rfl
  | d :: ds => by simp only [noCT, List.map_cons, noCL, noCT_map ds]
theorem noCF_map : ∀ kvs : Flds, noCF kvs = noCL (kvs.map (·.2))
  | [] => rfl
  | d :: ds => by simp only [noCF, List.map_cons, noCL, noCF_map ds]
theorem noCF_at {f : Str} {y : D} : ∀ {fs : Flds}, noCF fs = true → fs.lookup f = some y → noC y = true
  | [], _, h => by simp at h
  | (g, d) :: ds, n, h => by
    simp only [noCF, Bool.and_eq_true] at n
    rw [List.lookup_cons] at h
    cases hg : f == g with
    | true => rw [hg] at h; cases h; exact n.1
    | false => rw [hg] at h; exact noCF_at n.2 h
section
variable {K : Fg} {ca : Str → Addr} {cs : List Addr} {B : Hp}
mutual
theorem Rp.bareC : ∀ {v : V} {d : D}, Rp K ca cs B v d → noC d = true → Rp K ca [] B v d
  | _, _, .non, _ => .non
  | _, _, .bl b, _ => .bl b
  | _, _, .int i, _ => .int i
  | _, _, .str i, _ => .str i
  | _, _, .tup h r, n => .tup h (r.bareC (by simpa [noC] using n))
  | _, _, .tupM h r, n => .tupM h (r.bareC (by simpa [noC] using n))
  | _, _, .lst h r, n => .lst h (r.bareC (by simpa [noC] using n))
  | _, _, .scr h, _ => .scr h
  | _, _, .dcK h k r, n => .dcK h k (r.bareC (by rw [← noCK_map]; simpa [noC] using n))
  | _, _, .dcT h k r, n => .dcT h k (r.bareC (by rw [← noCT_map]; simpa [noC] using n))
  | _, _, .obj h k r, n => .obj h k (r.bareC (by rw [← noCF_map]; simpa [noC] using n))
  | _, _, .cell h, n => by simp [noC] at n
  | _, _, .exc0 h, _ => .exc0 h
  | _, _, .exc h x k r, n => .exc h x k fun f y v h1 h2 => (r f y v h1 h2).bareC (noCF_at (by simpa [noC] using n) h1)
theorem RpL.bareC : ∀ {vs : List V} {ds : List D}, RpL K ca cs B vs ds → noCL ds = true → RpL K ca [] B vs ds
  | _, _, .nil, _ => .nil
  | _, _, .cons r t, n => by
    simp only [noCL, Bool.and_eq_true] at n
    exact .cons (r.bareC n.1) (t.bareC n.2)
end
end
def sortD (xs ks : List D) : List D := ((xs.zip ks).mergeSort (dataLe false fun b => py b.2)).map (·.1)
theorem sortedAs_rp {K : Fg} {ca : Str → Addr} {cs : List Addr} {B : Hp} {vs ys : List V} {xs ks : List D} (r : RpL K ca cs B vs xs) (hl : ks.length = xs.length) (h : SortedAs (ks.map py) vs ys) : RpL K ca cs B ys (sortD xs ks) := by
  obtain ⟨us, out, v1, ko, v2⟩ := h
  have hm : (xs.zip ks).map (fun b => py b.2) = ks.map py := by
    have e : (xs.zip ks).map (fun b => py b.2) = ((xs.zip ks).map (·.2)).map py := by rw [List.map_map]; rfl
    rw [e, List.map_snd_zip]
    omega
  have hR : ∀ (vs : List V) (us : List Value) (xs ks : List D), Vals vs us → RpL K ca cs B vs xs → ks.length = xs.length → EachIs (fun (u : Value) (b : D × D) => ∃ v, RelV v u ∧ Rp K ca cs B v b.1) us (xs.zip ks) := by
    intro vs
    induction vs with
    | nil => intro us xs ks a b _; cases a; cases b; exact EachIs.nil
    | cons v vs ih =>
      intro us xs ks a b hl
      cases a with
      | cons a1 a2 =>
        cases b with
        | cons b1 b2 =>
          cases ks with
          | nil => simp at hl
          | cons k ks => exact EachIs.cons ⟨v, a1, b1⟩ (ih _ _ _ a2 b2 (by simpa using hl))
  have ek := keyedOut_each (rev := false) (bs := xs.zip ks) (fun b => py b.2) (by rw [hm]; exact ko) (hR vs us xs ks v1 r hl)
  have fin : ∀ {out : List Value} {bs : List (D × D)} {ys : List V}, EachIs (fun (u : Value) (b : D × D) => ∃ v, RelV v u ∧ Rp K ca cs B v b.1) out bs → Vals ys out → RpL K ca cs B ys (bs.map (·.1)) := by
    intro out bs ys h
    induction h generalizing ys with
    | nil => intro q; cases q; exact .nil
    | cons a _ ih =>
      intro q
      cases q with
      | cons q1 q2 =>
        obtain ⟨v, e1, e2⟩ := a
        have := RelV.inj q1 e1
        subst this
        exact .cons e2 (ih q2)
  exact fin ek v2
end Dn
end
section
set_option maxHeartbeats 200000
namespace Dn
open PySem L2 NdefX LamX PySem.W PyProof.Rows
theorem outG.unbind {α β : Type} {K : Fg} {x : Fx} {W : WX} {σ : L2.St} {cs : List Addr} {B : Hp} {e : Dn.Env} {s : List D} {m : M α} {f : α → M β} {k : β → Env → List D → List Addr → Hp → Prop} (h : outG K x W σ cs B (m e s) (fun a e' s' cs' B' => outG K x W σ cs' B' (f a e' s') k)) : outG K x W σ cs B ((m.bind f) e s) k := by
  unfold M.bind
  cases hm : m e s with
  | stuck => rw [hm] at h; exact h
  | ok a e' s' => rw [hm] at h; exact h.now
  | exn c fs e' s' => rw [hm] at h; exact h
def tupK : PyData → Bool
  | .tuple (_ :: _) => true
  | _ => false
def keyOk (ks : List D) : Bool := ks.all isDt && (ks.all fun d => ks.all fun d' => PySem.W.alike (py d) (py d')) && (ks.all fun d => tupK (py d)) && ks.all fun d => decide ((py d).depth ≤ 60)
def capS : Option Sl → Sl
  | some (.fz d) => if noC d then .fz d else .un
  | _ => .un
def capE (js : List Nat) (e : Dn.Env) : Dn.Env := js.map fun j => capS e[j]?
def lamE (js : List Nat) (nl : Nat) (e : Dn.Env) (x : D) : Dn.Env := .fz x :: (capE js e ++ List.replicate (nl - 1 - js.length) .un)
def srtKeys (js : List Nat) (nl : Nat) (e : Dn.Env) (kb : M D) : List D → Option (List D)
  | [] => some []
  | x :: xs => match kb (lamE js nl e x) [] with
    | .ok k _ _ => (srtKeys js nl e kb xs).map (k :: ·)
    | _ => none
def srtK (js : List Nat) (nl : Nat) (kb : M D) (d : D) : M Sl := fun e s => match d with
  | .lst xs => if noCL xs then match srtKeys js nl (frzE js e) kb xs with
      | some ks => if keyOk ks then .ok (.ow (.lst (sortD xs ks))) (frzE js e) s else .stuck
      | none => .stuck
    else .stuck
  | _ => .stuck
def srtM (js : List Nat) (nl : Nat) (ma : M D) (kb : M D) : M Sl := ma.bind (srtK js nl kb)
theorem srtKeys_len {js : List Nat} {nl : Nat} {e : Dn.Env} {kb : M D} : ∀ {xs ks : List D}, srtKeys js nl e kb xs = some ks → ks.length = xs.length
  | [], ks, h => by cases h; rfl
  | x :: xs, ks, h => by
    unfold srtKeys at h
    split at h
    · obtain ⟨ks', h1, h2⟩ := Option.map_eq_some_iff.mp h
      subst h2
      simp [srtKeys_len h1]
    · cases h
theorem srtKeys_get {js : List Nat} {nl : Nat} {e : Dn.Env} {kb : M D} : ∀ {xs ks : List D} {i : Nat} {k : D}, srtKeys js nl e kb xs = some ks → ks[i]? = some k → ∃ x e' s', xs[i]? = some x ∧ kb (lamE js nl e x) [] = .ok k e' s'
  | [], ks, i, k, h, hk => by cases h; simp at hk
  | x :: xs, ks, i, k, h, hk => by
    unfold srtKeys at h
    split at h
    · rename_i k0 e' s' hb
      obtain ⟨ks', h1, h2⟩ := Option.map_eq_some_iff.mp h
      subst h2
      cases i with
      | zero => simp at hk; subst hk; exact ⟨x, e', s', rfl, hb⟩
      | succ i =>
        obtain ⟨y, e2, s2, a, b⟩ := srtKeys_get h1 (by simpa using hk)
        exact ⟨y, e2, s2, by simpa using a, b⟩
    · cases h
theorem cap_env {K : Fg} {x : Fx} {env : Dn.Env} {st : List D} {cs : List Addr} {σ : L2.St} {B H B' H' : Hp} (h : SX K x env st cs σ B H) (b : Sme B B') : ∀ (js : List Nat) (n : Nat), EnvR K x.ca [] B' H' (capE js env ++ List.replicate n .un) (js.map (slotAt σ) ++ List.replicate n none) []
  | [], 0 => .nil
  | [], n + 1 => .cons (ps := []) rfl (cap_env h b [] n)
  | j :: js, n => by
    have t := cap_env (H' := H') h b js n
    show EnvR K x.ca [] B' H' (capS env[j]? :: (capE js env ++ List.replicate n .un)) (slotAt σ j :: (js.map (slotAt σ) ++ List.replicate n none)) []
    refine .cons (ps := []) ?_ t
    unfold capS
    split
    · rename_i d hd
      split
      · rename_i hn
        obtain ⟨v, h1, h2⟩ := h.atF hd
        exact ⟨rfl, v, slotAt_of h1, (h2.bareC hn).mono b (Pre.refl _)⟩
      · rfl
    · rfl
theorem noCL_get : ∀ {xs : List D} {i : Nat} {d : D}, noCL xs = true → xs[i]? = some d → noC d = true
  | [], _, _, _, h => by simp at h
  | x :: xs, 0, d, n, h => by simp only [noCL, Bool.and_eq_true] at n; simp at h; subst h; exact n.1
  | x :: xs, i + 1, d, n, h => by simp only [noCL, Bool.and_eq_true] at n; exact noCL_get n.2 (by simpa using h)
theorem tU_srt {K : Fg} {x : Fx} {W : WX} {σ : L2.St} {H : Hp} {Q : VK} {js : List Nat} {NL : List Str} {ma kb : M D} (h : tU K x W (srtM js NL.length ma kb) σ H Q) : tSrt K x.T (tA K x W (argsV [ma])) (aE x fun x' => tV K x' WF kb) NL js σ H Q := by
  obtain ⟨env, st, cs, B, hs, ho⟩ := h
  refine ⟨env, st, cs, B, hs, outG.unbind ((outG.bind ho).imp fun d e s cs1 B1 k => outG.unbind ?_)⟩
  show outG K x W σ cs1 B1 (.ok [] e s) _
  intro cs1' B1' sb0 pr0
  show outG K x W σ cs1' B1' (.ok [d] e s) _
  have k := k.up sb0 pr0
  clear sb0 pr0
  intro cs2 B2 sb pr vs H1 sx r
  have k := k.up sb pr
  obtain ⟨v, rfl, rv⟩ := RpL.one r
  unfold srtK at k
  cases d with
  | lst xs =>
    simp only at k
    split at k
    · rename_i hnc
      split at k
      · rename_i ks hks
        split at k
        · rename_i hok
          unfold keyOk at hok
          simp only [Bool.and_eq_true] at hok
          obtain ⟨⟨⟨o1, o2⟩, o3⟩, o4⟩ := hok
          obtain ⟨a, ws, rfl, e1, e2⟩ := Lk.lst sx.s (.inl rv)
          obtain ⟨B3, b3, sx3⟩ := sx.frzE js
          refine ⟨sx.tb, a, ws, ks.map py, rfl, SqL.of e1, by rw [List.length_map, srtKeys_len hks, e2.len], ?_, ?_, ?_, fun H2 sm tb2 => ?_⟩
          · intro d hd d' hd'
            obtain ⟨y, hy, rfl⟩ := List.mem_map.mp hd
            obtain ⟨z, hz, rfl⟩ := List.mem_map.mp hd'
            exact List.all_eq_true.mp (List.all_eq_true.mp o2 y hy) z hz
          · refine .inl fun d hd => ?_
            obtain ⟨y, hy, rfl⟩ := List.mem_map.mp hd
            have := List.all_eq_true.mp o3 y hy
            unfold tupK at this
            split at this
            · rename_i a r h; exact ⟨a, r, h⟩
            · cases this
          · intro d hd
            obtain ⟨y, hy, rfl⟩ := List.mem_map.mp hd
            exact of_decide_eq_true (List.all_eq_true.mp o4 y hy)
          have g3 : Gr x.T [] B3 H1 B3 H2 := ⟨Sme.refl _, fun b o _ e => (sm b o e).imp id .inl, sx3.s.trans sm.sme, fun _ _ z => z, fun _ => tb2, fun _ z => nomatch z⟩
          have sx4 := sx3.grow g3
          refine ⟨fun Ha => ∃ Ba, Gr x.T [] B3 H2 Ba Ha ∧ LamX.Tabs x.T Ha, ⟨B3, Gr.refl g3.s, tb2⟩, fun i v d Ha hv hd ⟨Ba, gb, tba⟩ _ => ?_, fun Ha p ys ⟨Ba, gb, tba⟩ _ hp so => ?_⟩
          · rw [List.getElem?_map] at hd
            obtain ⟨kk, hk1, hk2⟩ := Option.map_eq_some_iff.mp hd
            subst hk2
            obtain ⟨y, e', s', hy, hkb⟩ := srtKeys_get hks hk1
            obtain ⟨v', hv', rv'⟩ := e2.get hy
            rw [hv] at hv'; cases hv'
            have ry : Rp K x.ca [] Ba v y := (rv'.bareC (noCL_get hnc hy)).mono (b3.trans gb.b) (Pre.refl _)
            have sxl : SX K ⟨x.T, x.ca, Ba, Ha, []⟩ (lamE js NL.length (frzE js e) y) [] [] (startF NL [v] (js.map (slotAt σ))) Ba Ha := by
              refine ⟨[], ⟨Gr.refl gb.s, tba, ?_, .nil, by simp, Pre.refl _, fun p hp => (nomatch hp), fun p hp => (nomatch hp)⟩⟩
              have := cap_env (H' := Ha) sx4 gb.b js (NL.length - 1 - js.length)
              unfold lamE startF
              rw [List.length_map]
              exact .cons (ps := []) ⟨rfl, v, rfl, ry⟩ this
            refine ⟨⟨x.T, x.ca, Ba, Ha, []⟩, ⟨rfl, rfl⟩, _, [], [], Ba, sxl, ?_⟩
            rw [hkb]
            intro cs' B' sb' pr' kv Hb sxk rk
            have gk : Gr x.T [] Ba Ha B' Hb := by obtain ⟨_, hh⟩ := sxk; exact hh.g
            exact ⟨⟨B', gb.trans gk, sxk.tb⟩, gk.same, Rp.dp gk.s rk (List.all_eq_true.mp o1 kk (List.mem_of_getElem? hk1))⟩
          · have sx5 := sx4.grow gb
            have go := Gr.own (T := x.T) (o := .lst ys) sx5.s hp
            refine (show outG K x W σ cs2 B2 (.ok (Sl.ow (.lst (sortD xs ks))) (frzE js e) s) (qU K x σ Q) from k) cs2 Ba (b3.trans gb.b) (Pre.refl _) _ _ (sx5.own go hp ⟨ys, upd_same, free_b sx5.s hp, ?_⟩)
            exact sortedAs_rp (e2.mono (b3.trans gb.b) (Pre.refl _)) (srtKeys_len hks) so
        · exact k.elim
      · exact k.elim
    · exact k.elim
  | _ => exact (show False from k).elim
end Dn
end
section
set_option maxHeartbeats 200000
namespace Dn
open PySem L2 NdefX
section
variable {x : Fx} {W : WX} {X : Cx}
/-- C.f, a whole number -/
theorem w_cval {n f : Str} {C : Addr} {mc : Value} {k : Int} {p pos : Pos} (hg : Gl X n) (hm : X.mg n = some (.ref C)) (r : ClX.CRead X.K C mc) (h : ∃ t, ClX.CVal X.K C mc f (.int k) (.int k t)) (hb : attributeBase (.Name n p) f X.env (eval (.Name n p) X.env) = eval (.Name n p) X.env := by rfl) (hd : (n == ("__debug__" : Str)) = false := by decide) : PE X (.Attribute (.Name n p) f pos) (tU X.K x W (cI k)) := by
  obtain ⟨t, h⟩ := h
  exact PE.imp (ClX.pe_cval (pe_glob (v := .ref C) hg hm rfl hd) hb) fun σ H Q q => ⟨C, mc, _, _, rfl, r, h, tU_cst (v := .int k) (fun _ _ => .int k) q⟩
theorem gd_lam {P : Program} {w : World} {K : Fg} {mg : Str → Option Value} {base : Heap} {NL : List Str} {F : NF} {f : Addr} {A : Around} {outer : List PySem.Env} {s : Shared} {H : Hp} {E : XK} {k : Nat} (hn : NL.Nodup) (hr : Room k (A.deeper (envF F f s.heap.objs.size))) : Gd (ncx CX0 P w K mg base NL F f A outer s H E) WF :=
  ⟨⟨by
    have := hr.un
    show (A.deeper (envF F f s.heap.objs.size)).units + 65 < cLine
    omega, hn⟩, rfl, fun u s' ⟨_, _, _, _, _, _, _, _, _, _, _, _, _, _, _, _, z⟩ => (show False from z).elim⟩
/-- sorted(e, key = lambda ..) -/
theorem w_srt {e : Expr} {params : Arguments} {body : Expr} {scope : Scope} {p pos lpos kpos : Pos} {T : List NTb} {c Pt : Addr} {NL fr : List Str} {pn : Str} {js : List Nat} {k : Nat} {ma kb : M D} (hxT : x.T = T)
    (hg : Gl X "sorted") (hm : X.mg "sorted" = none) (ha : PE X e (tV X.K x W ma)) (hn : nst e = true) (TB : LamX.TabB X.base X.mg c Pt) (hcode : X.env.code = .ref c) (hT : (Pt, X.env.qual ++ "<lambda>") ∈ T) (hu : ∀ p ∈ T, p.1 = Pt → p.2 = X.env.qual ++ "<lambda>")
    (hdef : defaultsOf params X.env = ([], [])) (S : NScope NL [pn] fr scope) (hfree : ∀ y ∈ scope.names, y.2 = .free → X.env.scope.names.lookup y.1 = some .cell ∨ X.env.scope.names.lookup y.1 = some .free) (hfr : ∀ y ∈ fr, (y, NameKind.free) ∈ scope.names) (hjs : js.map (fun j => X.N[j]?) = fr.map some)
    (hr : Room (k + 3) X.A) (hb : ∀ (pm ctv : Value) (cn : Addr) (cl : List (Str × Addr)) (u : Value), bindArgs (PySem.W.kla_fn "<lambda>" (X.env.qual ++ "<lambda>") params body scope cl pm (.ref cn) ctv) ⟨[u], []⟩ = pure [(pn, u)])
    (hbody : ∀ (f cn : Addr) (cl : List (Str × Addr)) (A : Around) (outer : List PySem.Env) (s : Shared) (H : Hp) (E : XK) (x' : Fx), GX x x' → Room k (A.deeper (envF ⟨"<lambda>", X.env.qual ++ "<lambda>", params, [], scope, cl, cn⟩ f s.heap.objs.size)) →
      PE (ncx CX0 X.prog X.w X.K X.mg X.base NL ⟨"<lambda>", X.env.qual ++ "<lambda>", params, [], scope, cl, cn⟩ f A outer s H E) body (tV X.K x' WF kb)) :
    PE X (.Call (.Name "sorted" p) [e] [⟨some "key", .Lambda params body scope lpos, kpos⟩] pos) (tU X.K x W (srtM js NL.length ma kb)) := by
  subst hxT
  refine PE.imp (pe_srtLam hg hm (pa_consV hn ha pa_nilV) TB hcode hT hu hdef S hfree hfr hjs hr hb (fun f cn cl A outer s H E hr => PE.aE fun x' gx => hbody f cn cl A outer s H E x' gx hr) ?_ (nst_all (by simp [hn]))) fun σ H Q h => tU_srt h
  rw [nst_ok hn]
  rfl
end
section
variable {P : Program} {w : World} {K : Fg} {mg : Str → Option Value} {base : Heap} {C f : Addr} {qual : Str} {params : Arguments} {scope : Scope} {fd : FuncData} {CX : CXT}
/-- self.f = f -/
def stRow (f : Str) (p1 p2 p3 p4 : Pos) : Stmt := .Assign [.Attribute (.Name "self" p1) f p2] (.Name f p3) p4
theorem err1 {fl : Str} {p1 p2 p3 p4 : Pos} (T : ExcT K P mg C f qual params [stRow fl p1 p2 p3 p4] scope fd) (S : NScope ["self", fl, "__class__"] ["self", fl] ["__class__"] scope) (hno : PySem.W.findIn K (.ref C) fl = some none) (hd1 : (fl == ("__debug__" : Str)) = false) (hd2 : (fl == ("__classdict__" : Str)) = false) : FnOk P w K mg base CX 1 f fd ["self", fl] (spX C [fl]) := by
  refine exc_init (k := 0) (qs := [fl]) T S (fun vs H Q E ⟨a, ws, e, l, _⟩ => by rw [e, List.length_cons, l]) fun X F A outer s H vs Q E hX hsc hq hr hsp => ?_
  obtain ⟨a, ws, rfl, l, ha, q⟩ := hsp
  match ws, l with
  | [v], _ =>
    subst hX
    have v0 : Vis (ncx CX P w K mg base ["self", fl, "__class__"] F f A outer s H E).env.scope "self" := .inl (by show F.scope.names.lookup _ = _; rw [hsc]; exact S.par _ (by simp))
    have v1 : Vis (ncx CX P w K mg base ["self", fl, "__class__"] F f A outer s H E).env.scope fl := .inl (by show F.scope.names.lookup _ = _; rw [hsc]; exact S.par _ (by simp))
    refine ⟨a, [v], rfl, ha, _, pss_one (ps_ost (pe_var (i := 0) rfl v0) (pe_var (i := 1) rfl v1 hd1 hd2) rfl), ?_⟩
    exact ⟨v, rfl, .ref a, rfl, a, C, rfl, T.oex, hno, .inl ⟨ha, fun d hd hda => q d hd hda⟩⟩
end
end Dn
end
section
set_option maxHeartbeats 200000
namespace Dn
open PySem L2 NdefX
/-- the class of what stands there -/
def clsD (m : Str) (st : List D) (d : D) : Option Str := match cont st d with
  | some (.obj c fs) => if (fs.lookup m).isNone then some c else none
  | _ => none
/-- o.m(..): by the class of o -/
def methM (m : Str) (cfs : Str → Option CF) (mo : M D) (ma : M (List D)) : M Sl := mo.bind fun d => fun e s => match clsD m s d with
  | some c => match cfs c with
    | some cf => (ma.bind fun ds => runC cf (d :: ds)) e s
    | none => .stuck
  | none => .stuck
end Dn
end
section
set_option maxHeartbeats 200000
namespace Dn
open PySem L2 NdefX
/-- what something is -/
inductive Tg where
  | b (n : String)
  | o (c : Str)
def tagD : D → Option Tg
  | .non => some (.b "NoneType")
  | .bl _ => some (.b "bool")
  | .int _ => some (.b "int")
  | .str _ => some (.b "str")
  | .tup _ _ => some (.b "tuple")
  | .lst _ => some (.b "list")
  | .scr _ => some (.b "list")
  | .dcK _ => some (.b "dict")
  | .obj c _ => some (.o c)
  | _ => none
def tagV (ca : Str → Addr) : Tg → Value
  | .b n => .type n
  | .o c => .ref (ca c)
/-- what isinstance asks of an own class -/
structure IsC (K : Fg) (C : Addr) : Prop where
  cl : Cls K C
  ha : PySem.W.findIn K (.ref C) "__class__" = some (some (.builtin "object.__class__"))
  hn : PySem.W.specialIn K (.builtin "object.__class__") "__get__" = some (some (.builtin "getset_descriptor.__get__"))
  ht : PySem.W.takesIn K (.builtin "object.__class__") = some true
  hm : PySem.W.mroIn K C (.type "object") = some true
def isiM (tab : Tg → Option Bool) (m : M Pl) : M Sl := m.bind fun p => (rsv p).bind fun y => (M.lift ((tagD y).bind tab)).bind fun b => M.ret (.fz (.bl b))
section
variable {K : Fg} {x : Fx} {W : WX} {X : Cx} {cs : List Addr} {B H : Hp}
theorem sql_ty {a : Addr} {xs : List V} (h : SqL K H a xs) : TyX K H (.ref a) (.type "list") := by
  rcases h with (h | ⟨o, h⟩) | ⟨o, _, _, h1, h2, _⟩
  · exact .base (.lst h)
  · exact .base (.frz h)
  · exact .kList h1 h2
theorem sqt_ty {a : Addr} {xs : List V} (h : SqT K H a xs) : TyX K H (.ref a) (.type "tuple") := by
  rcases h with (h | ⟨o, h⟩) | ⟨o, _, _, h1, h2, _⟩
  · exact .base (.tup h)
  · exact .fTuple h
  · exact .kTuple h1 h2
theorem tag_ty {v : V} {y : D} {t : Tg} (s : Sme B H) (h : Lk K x.ca cs B H v y) (e : tagD y = some t) (ic : ∀ c, t = .o c → IsC K (x.ca c)) : TyX K H v (tagV x.ca t) := by
  cases y with
  | non => cases e; rw [h.non]; exact .base .non
  | bl b => cases e; rw [h.bl]; exact .base (.bl _)
  | int b => cases e; rw [h.int]; exact .base (.int _)
  | str b => cases e; rw [h.str]; exact .base (.str _)
  | tup m xs => cases e; obtain ⟨a, vs, rfl, e0, e1, e2⟩ := h.tup s; exact sqt_ty e1
  | lst xs => cases e; obtain ⟨a, vs, rfl, e1, e2⟩ := h.lst s; exact .base (.lst e1)
  | scr xs => cases e; obtain ⟨a, rfl, e1, e2⟩ := h.scr s; exact sql_ty e2
  | dcK kvs =>
    cases e
    obtain ⟨a, ws, rfl, e1, _⟩ := h.dcK s
    rcases e1 with e1 | ⟨o, e1⟩
    · exact .base (.dK e1)
    · exact .fDict e1
  | obj c fs =>
    cases e
    obtain ⟨a, dx, ws, rfl, e1, _⟩ := h.obj s
    have i := ic c rfl
    exact .base (.ins e1 i.cl i.ha i.hn i.ht i.hm)
  | _ => cases e
theorem w_isi {e ce : Expr} {p pos : Pos} {m : M Pl} {tab : Tg → Option Bool} {cv : V} {u : Value} (hg : Gl X "isinstance") (hm : X.mg "isinstance" = none) (hcv : ClsV cv u) (hc : PE X ce (tC cv)) (ok : ∀ t b, tab t = some b → PySem.W.kitOne X.K (tagV x.ca t) u = some b) (ic : ∀ c b, tab (.o c) = some b → IsC X.K (x.ca c)) (hn : nst e = true) (hn2 : nst ce = true) (he : PE X e (tL X.K x W m)) :
    PE X (.Call (.Name "isinstance" p) [e, ce] [] pos) (tU X.K x W (isiM tab m)) :=
  PE.imp (pe_callB call_isi hg hm (by decide +kernel : bootBuiltins "isinstance" = some (.builtin "isinstance")) (pa_cons he (pa_cons hc pa_nil (nst_ok hn2)) (nst_ok hn)) (by decide) (by decide) (nst_ok hn) (nst_all (by simp [hn2]))) fun σ H Q ⟨env, st, cs, B, hs, ho⟩ => ⟨env, st, cs, B, hs, (outG.bind ho).imp fun pl e s cs1 B1 k v H1 sx1 pr1 => by
    obtain ⟨y, k, hy⟩ := outG.rsv k
    obtain ⟨b, hb, k⟩ := outG.lift (outG.bind k)
    obtain ⟨t, ht, hb⟩ := Option.bind_eq_some_iff.mp hb
    exact ⟨v, cv, tagV x.ca t, u, b, rfl, hcv, tag_ty sx1.s (hy sx1 pr1) ht (fun c e => by subst e; exact ic c b hb), ok t b hb, k.now _ H1 (sx1.fz (.bl b))⟩⟩
end
def propM (cfs : Str → Option CF) (mo : M D) : M Sl := mo.bind fun d => fun e s => match cont s d with
  | some (.obj c _) => match cfs c with
    | some cf => match cf [d] s with
      | .ok r _ s' => .ok r e s'
      | _ => .stuck
    | none => .stuck
  | _ => .stuck
end Dn
end
section
set_option maxHeartbeats 200000
namespace Dn
open PySem L2 NdefX
section
variable {X : Cx} {x : Fx} {W : WX} {T : List NTb} {ca : Str → Addr} {k n : Nat} {fI : Addr} {fd : FuncData} {ps ks : List Str} {c cn : Str} {p pos : Pos} {e : Expr} {es : List Expr} {kws : List Keyword} {gg : List Value → List Value → List Value} {gV : List V → List V → List V} {cf : CF} {fil : List D → List D → Option (List D)} {ma mk : M (List D)}
/-- how arguments fill the parameters -/
def Fills (K : Fg) (ca : Str → Addr) (n m : Nat) (fil : List D → List D → Option (List D)) (gV : List V → List V → List V) : Prop := ∀ ds zs r, fil ds zs = some r → ds.length = n ∧ zs.length = m ∧ ∀ cs B a vs ws, RpL K ca cs B vs ds → RpL K ca cs B ws zs → ∃ us, gV (.ref a :: vs) ws = .ref a :: us ∧ RpL K ca cs B us r
theorem w_make (g : Gd X W) (hT : x.T = T) (hca : x.ca = ca) (mkC : Mk X.K (ca c) fI) (oc : okC cf) (F : FnOk X.prog X.w X.K X.mg X.base (L2N.CX X.prog X.w) k fI fd ps (spI X.K T ca c cf)) (room : Room (k + 1) X.A) (hg : Gl X cn) (hm : X.mg cn = some (.ref (ca c))) (hb : KBn X.K fd ps (n + 1) ks gg gV) (hf : Fills X.K ca n ks.length fil gV)
    (ha : PA X (e :: es) (tA X.K x W ma)) (hkw : PK X kws (tA X.K x W mk)) (hs : (e :: es).all nst = true) (hall : (backToKw pos (keywordEach kws X.env)).all (·.1.isSome) = true := by rfl) (hks : (backToKw pos (keywordEach kws X.env)).filterMap (·.1) = ks := by rfl) (hdb : (cn == ("__debug__" : Str)) = false := by rfl)
    (hpl : ((backTo pos (starEach (e :: es) X.env)).any (·.1) || (backToKw pos (keywordEach kws X.env)).any (·.1.isNone)) = false := by rfl) : PE X (.Call (.Name cn p) (e :: es) kws pos) (tU X.K x W (makeM cf ma mk fil)) := by
  subst hT hca
  have hs' := hs
  rw [List.all_cons, Bool.and_eq_true] at hs'
  exact PE.imp (pe_mkS mkC F room hg hm hb (fun σ => L2N.passAt g.tk σ) ha hkw hall hks hdb (nst_ok hs'.1) hpl) fun σ H Q h => tU_make oc (fun ds zs r hr => hf ds zs r hr) h
end
def rCmpO (K : Fg) (C : Addr) (sp : Sp) : R2 := fun v w H Q => ∃ a dx fs b C' dy gs, v = .ref a ∧ w = .ref b ∧ H a = some (.ins C dx fs) ∧ H b = some (.ins C' dy gs) ∧ PySem.W.notFirst K C (.ref C') = true ∧ sp [v, w] H Q (fun _ _ _ => False)
section
variable {X : Cx} {k : Nat} {g C : Addr} {sp : Sp}
theorem ins_at {pins : List (Addr × Obj)} {σ : L2.St} {H : Hp} {s : Shared} {a dx : Addr} {fs : List (Str × V)} (I : Inv X pins σ H s) (h : H a = some (.ins C dx fs)) : ∃ ox od, PySem.W.InstAt s.heap a ox C od := by
  obtain ⟨mA, O, _⟩ := ins_get I.hok h
  obtain ⟨od, J, _⟩ := O.look
  exact ⟨_, _, J⟩
theorem op_cmpO {op : CmpOp} (hop : ∀ a b, compareOp op a b = richCompare op a b) (hs : PySem.W.findIn X.K (.ref C) (cmpInfo op).2.1 = some (some (.ref g))) (hf : PySem.W.isFn X.K (.ref g) = true) (F : FnR X.prog X.w X.K X.mg X.base (L2N.CX X.prog X.w) k g sp) (hr : Room k X.A) : OpR X (compareOp op) (rCmpO X.K C sp) := by
  intro pins s σ H v w u1 u2 Q I r1 r2 h
  obtain ⟨a, dx, vs, b, C', dy, ws, rfl, rfl, ha, hb, hn, q⟩ := h
  cases (show u1 = Value.ref a from r1)
  cases (show u2 = Value.ref b from r2)
  obtain ⟨ox, od, J⟩ := ins_at I ha
  obtain ⟨ox', od', J'⟩ := ins_at I hb
  obtain ⟨m, hF⟩ := I.fr
  rw [hop]
  refine PySem.W.cmp_K (op := op) (tb := .ref C') hr.units0 hF I.ok.mod.kin J J'.type hn hs hf ?_
  refine wpAny_mono (wpAny_call (run_fnR (us := [.ref a, .ref b]) (vs := [.ref a, .ref b]) F hr no_pass I (.cons rfl (.cons rfl .nil)) q)) (fun w s' z => ?_) fun _ _ x => x
  obtain ⟨z', H', I', rz, qz⟩ := z
  exact SlX.cmpback rz ⟨z', H', I', rz, qz⟩
end
/-- a op b of objects: the def of a's class -/
def opOM (cfs : Str → Option CF) (nf : Str → Str → Bool) (ma mb : M D) : M Sl := ma.bind fun a => mb.bind fun b => fun e s => match cont s a, cont s b with
  | some (.obj c _), some (.obj c' _) => match cfs c with
    | some cf => if nf c c' then match cf [a, b] s with
        | .ok r _ s' => .ok r e s'
        | _ => .stuck
      else .stuck
    | none => .stuck
  | _, _ => .stuck
/-- what is known of the operator's def -/
structure OpOk (X : Cx) (T : List NTb) (ca : Str → Addr) (k : Nat) (m c : Str) (cf : CF) : Prop where
  oc : okC cf
  fn : ∃ g fd ps, PySem.W.findIn X.K (.ref (ca c)) m = some (some (.ref g)) ∧ PySem.W.isFn X.K (.ref g) = true ∧ FnOk X.prog X.w X.K X.mg X.base (L2N.CX X.prog X.w) k g fd ps (spF X.K T ca cf) ∧ Binds X.K fd ps []
section
variable {X : Cx} {x : Fx} {W : WX} {T : List NTb} {ca : Str → Addr} {k : Nat} {cfs : Str → Option CF} {nf : Str → Str → Bool} {ma mb : M D} {σ : L2.St} {H : Hp} {Q : VK}
theorem tU_opO (hT : x.T = T) (hca : x.ca = ca) (hnf : ∀ c c', nf c c' = true → PySem.W.notFirst X.K (ca c) (.ref (ca c')) = true) {P : R2 → Prop} (h0 : ∃ rr, P rr) (hP : ∀ c cf, cfs c = some cf → P (rCmpO X.K (ca c) (spF X.K T ca cf))) (h : tU X.K x W (opOM cfs nf ma mb) σ H Q) : ∃ rr, P rr ∧ tOp rr (tV X.K x W ma) (tV X.K x W mb) σ H Q := by
  subst hT hca
  obtain ⟨rr0, p0⟩ := h0
  obtain ⟨env, st, cs, B, hs, ho⟩ := h
  have ho := outG.bind ho
  cases hm : ma env st with
  | stuck => rw [hm] at ho; exact ho.elim
  | exn c fs e' s' => rw [hm] at ho; exact ⟨rr0, p0, env, st, cs, B, hs, by rw [hm]; exact ho⟩
  | ok a e1 s1 =>
    rw [hm] at ho
    have ho1 := outG.bind ho.now
    cases hb : mb e1 s1 with
    | stuck => rw [hb] at ho1; exact ho1.elim
    | exn c fs e' s' =>
      refine ⟨rr0, p0, env, st, cs, B, hs, ?_⟩
      rw [hm]
      intro cs1 B1 sb1 pr1 v H1 sx1 rv
      refine ⟨e1, s1, cs1, B1, sx1, ?_⟩
      rw [hb] at ho1 ⊢
      exact outE.up ho1 sb1 pr1
    | ok b e2 s2 =>
      rw [hb] at ho1
      have h1 : outG X.K x W σ cs B (match cont s2 a, cont s2 b with
        | some (.obj c _), some (.obj c' _) => match cfs c with
          | some cf => if nf c c' then match cf [a, b] s2 with
              | .ok r _ s' => .ok r e2 s'
              | _ => .stuck
            else .stuck
          | none => .stuck
        | _, _ => .stuck) (qU X.K x σ Q) := ho1.now
      split at h1
      · rename_i c fs c' fs' hca hcb
        cases hcf : cfs c with
        | none => rw [hcf] at h1; exact h1.elim
        | some cf =>
          rw [hcf] at h1
          dsimp only at h1
          split at h1
          · rename_i hn
            cases hr : cf [a, b] s2 with
            | stuck => rw [hr] at h1; exact h1.elim
            | exn _ _ _ _ => rw [hr] at h1; exact h1.elim
            | ok r e3 s3 =>
              rw [hr] at h1
              refine ⟨_, hP c cf hcf, env, st, cs, B, hs, ?_⟩
              rw [hm]
              intro cs1 B1 sb1 pr1 v H1 sx1 rv
              refine ⟨e1, s1, cs1, B1, sx1, ?_⟩
              rw [hb]
              intro cs2 B2 sb2 pr2 w H2 sx2 rw2
              have rv2 := rv.mono sb2 pr2
              obtain ⟨pa, dx, vs, rfl, o1, _⟩ := Lk.obj sx2.s (lk_cont sx2 rv2 hca)
              obtain ⟨pb, dy, ws, rfl, q1, _⟩ := Lk.obj sx2.s (lk_cont sx2 rw2 hcb)
              refine ⟨pa, dx, vs, pb, _, dy, ws, rfl, rfl, o1, q1, hnf c c' hn, [a, b], s2, cs2, B2, sx2.enter, .cons rv2 (.cons rw2 .nil), ?_⟩
              rw [hr]
              exact fun cs' B' sb' pr' u H' sx' => (show outG X.K x W σ cs B (.ok r e2 s3) (qU X.K x σ Q) from h1) cs' B' (sb1.trans (sb2.trans sb')) (pr1.trans (pr2.trans pr')) u H' (sx2.call sx')
          · exact h1.elim
      · exact h1.elim
theorem op_rr {op : CmpOp} (hop : ∀ a b, compareOp op a b = richCompare op a b) (room : Room k X.A) (ok : ∀ c cf, cfs c = some cf → OpOk X T ca k (cmpInfo op).2.1 c cf) : ∀ c cf, cfs c = some cf → OpR X (compareOp op) (rCmpO X.K (ca c) (spF X.K T ca cf)) := fun c cf h => by
  obtain ⟨oc, g, fd, ps, h1, h2, F, hb⟩ := ok c cf h
  have F' := F.raw hb .nil
  exact op_cmpO hop h1 h2 (F'.imp fun vs H Q E q => by rw [List.append_nil]; exact q) room
theorem wt_cmpO {op : CmpOp} (hop : ∀ a b, compareOp op a b = richCompare op a b) (hT : x.T = T) (hca : x.ca = ca) (room : Room k X.A) (hnf : ∀ c c', nf c c' = true → PySem.W.notFirst X.K (ca c) (.ref (ca c')) = true) (ok : ∀ c cf, cfs c = some cf → OpOk X T ca k (cmpInfo op).2.1 c cf) {a b : Expr} {pos : Pos} (ha : PE X a (tV X.K x W ma)) (hb : PE X b (tV X.K x W mb)) (hm : behindInMarks op b = false := by rfl) :
    PT X (.Compare a [op] [b] pos) (tT X.K x W ((opOM cfs nf ma mb).bind bool1)) :=
  PT.imp (PT.all (P := fun t => ∃ rr, OpR X (compareOp op) rr ∧ t = tTest (tOp rr (tV X.K x W ma) (tV X.K x W mb))) fun t ⟨rr, h1, h2⟩ => by subst h2; exact pt_cmpR h1 ha hb hm) fun σ H Q q => by
    obtain ⟨rr, h1, h2⟩ := tU_opO hT hca hnf (cmp_any op) (op_rr hop room ok) (tT_bool q)
    exact ⟨_, ⟨rr, h1, rfl⟩, h2⟩
end
end Dn
end
section
set_option maxHeartbeats 200000
namespace Dn
open PySem L2 NdefX
/-- an error's class: what its __init__ promises -/
structure ErS (X : Cx) (C : Addr) (n : Str) (ps : List Str) (sp : Sp) (k : Nat) : Prop where
  oex : OexC X.K C
  ini : ∃ fI fd, PySem.W.findIn X.K (.ref C) "__init__" = some (some (.ref fI)) ∧ PySem.W.typeIn X.K (.ref fI) = some (.type "function") ∧ FnOk X.prog X.w X.K X.mg X.base (L2N.CX X.prog X.w) k fI fd ("self" :: ps) sp ∧ Binds X.K fd ("self" :: ps) []
  mg : X.mg n = some (.ref C)
end Dn
end
section
set_option maxHeartbeats 4000000
namespace PySem.W
open PySem PySem.Spec PySem.Calls PyProof.Rows
section
variable {prog : Program} {w : World} {A : Around} {E : Value → Shared → Prop} {s : Shared} {K : Frag} {x D : Addr} {ox : Obj} {od : Option Obj}
theorem kin_classD {Q : Option Value → Shared → Prop} (T : L2.ExcC K D) (X : K.In s.heap) (I : InstAt s.heap x ox D od) (h : Q (some (.ref D)) { s with toks := s.toks + 1 }) : wpAny (model prog w) A (getAttr? (.ref x) "__class__") Q E s := by
  have hcl : (clsIn K D).isSome = true := by
    obtain ⟨cd, hc, _⟩ := any_some T.hd
    rw [hc]; rfl
  have found : findObj K D od "__class__" = some (.bind (.builtin "getset_descriptor.__get__") (.builtin "object.__class__")) := by
    cases od with
    | none => exact findObj_dataN hcl T.ha T.hn T.ht
    | some o => exact findObj_data hcl T.ha T.hn T.ht
  obtain ⟨hp, gs, dr, tk, os⟩ := s
  have ty := I.type (M := model prog w)
  have l1 := looks_findIn (M := model prog w) X T.hg
  have l2 := looks_findIn (M := model prog w) X T.hk
  have l3 := looks_find (M := model prog w) X I found
  have isx : Looks (model prog w) hp (isInstance (.ref x) (.type "BaseException")) true := ty.andThen (looks_subIn X T.hs)
  have nob : (Value.builtin "BaseException.__getattribute__" == Value.builtin "object.__getattribute__") = false := by decide +kernel
  have noc : (onTheHeap (Value.ref D) && Value.builtin "BaseException.__getattribute__" == Value.builtin "object.__getattribute__") = false := by
    rw [nob]; rfl
  have non : (false && onTheHeap (Value.builtin "BaseException.__getattribute__")) = false := rfl
  unfold getAttr? getAttrBy? getAttrBy
  refine wpAny_bind (wpAny_mkText (wpAny_bind ?_))
  refine wpAny_attempt (wpAny_holding (wpAny_bind (ty.at ?_)))
  refine wpAny_bind (l1.at ?_)
  show wpAny _ _ (if (onTheHeap (Value.ref D) && Value.builtin "BaseException.__getattribute__" == Value.builtin "object.__getattribute__") = true then _ else _) _ _ _
  rw [noc, if_neg (by decide)]
  unfold getAttrByItsOwn hookBefore
  refine wpAny_bind ?_
  rw [if_pos (show onTheHeap (Value.ref D) = true by rfl)]
  refine l2.at (wpAny_bind (wpAny_attempt (wpAny_holding ?_)))
  unfold callGetattribute
  rw [non, if_neg (by decide)]
  unfold boundAndCalled
  rw [PySem.F.excAttr_ValueError.ga.bind (.ref x)]
  refine wpAny_bind (wpAny_pure ?_)
  show wpAny _ _ (call (.builtin "BaseException.__getattribute__") [.ref x, .str "__class__" tk]) _ _ _
  refine wpAny_call (codeAny_call_builtin PySem.F.excAttr_ValueError.ga.plain
    PySem.F.entry_bexc_ga ?_)
  refine @check_slot (model prog w) _ _ ⟨hp, gs, dr, tk + 1, os⟩ "BaseException.__getattribute__" "BaseException" "__getattribute__" (.ref x) [.str "__class__" tk] [] _ (by decide +kernel) (by decide +kernel) isx (PySem.F.args_bexc_ga (.ref x) (.str "__class__" tk)) ?_
  unfold Builtin.«object.__getattribute__»
  refine wpAny_bind (wpAny_of_eq (a := ((Value.ref x : Value), [Value.str "__class__" tk])) (by first | rfl | (simp only [slotArgs]; rfl)) ?_)
  refine wpAny_bind (wpAny_pure (wpAny_bind (ty.at ?_)))
  refine wpAny_bind (l3.at ?_)
  show wpAny _ _ (holding [Value.builtin "object.__class__"] (call (.builtin "getset_descriptor.__get__") [.builtin "object.__class__", .ref x, .ref D]) >>= ret) _ _ _
  refine wpAny_bind (wpAny_holding (wpAny_call (class_get (s := ⟨hp, gs, dr, tk + 1, os⟩) (ox := ox) (od := od) X I T.hm ?_)))
  refine wpAny_pure ?_
  show wpAny _ _ (handedOut (.ref D)) _ _ _
  rw [handedOut_of (v := .ref D) (by rfl)]
  first
    | exact wpAny_pure (wpAny_pure h)
    | exact wpAny_pure h
    | exact wpAny_pure (wpAny_bind (wpAny_pure (wpAny_pure h)))
theorem kitx_excD (T : L2.ExcC K D) : KitX K (.ref x) (.ref D) (fun h => InstAt h x ox D od) where
  ty := fun _ _ _ I => I.type
  it := fun _ _ X _ => by
    obtain ⟨cd, hc, _⟩ := any_some T.hd
    unfold clsIn at hc
    split at hc
    · rename_i c' d' cd' sl' ho
      intro A' Q' E' s' k q
      unfold isType loadHead
      exact wpAny_bind (wpAny_loadPart (k _ _ (X _ _ ho)) (wpAny_pure q))
    · cases hc
  ne := fun h tp dd its n sl X htp => by
    obtain ⟨cd, hc, _⟩ := any_some T.hd
    refine Bool.eq_false_iff.mpr fun q => ?_
    have e : D = tp := Value.ref.inj (beq_iff_eq.mp q)
    subst e
    unfold clsIn at hc
    split at hc
    · rename_i c' d' cd' sl' ho
      have z := (X _ _ ho).symm.trans htp
      cases z
    · cases hc
  ca := fun X I k => kin_classD T X I k
end
end PySem.W
namespace Dn
open PySem L2 NdefX
section
variable {X : Cx} {pins : List (Addr × Obj)} {σ : L2.St} {H : Hp} {s : Shared} {a C : Addr}
/-- the error's object -/
theorem exc_obj0 {dd : Option Addr} (I : Inv X pins σ H s) (h : ExAt H a C dd) : ∃ o vs, s.heap.get? a = some o ∧ o.cls = .ref C ∧ o.dict = dd ∧ o.data = .fields vs := by
  rcases h with h | ⟨oe, h⟩
  · obtain ⟨t1, e⟩ := exo_at I.hok h
    exact ⟨_, _, e, rfl, rfl, rfl⟩
  · have x : ObjOk X.prog X.w H s.heap a (.frz oe (exV a C dd)) := I.hok a _ h
    have y : ObjOk X.prog X.w H s.heap a (.ext fun h => ∃ o vs, h.get? a = some o ∧ o.cls = .ref C ∧ o.dict = dd ∧ o.data = .fields vs) := x.2
    exact y.1
theorem xd_at {d : Addr} {us : List (Str × V)} (I : Inv X pins σ H s) (h : XdAt H d us) : ∃ mA, s.heap.Ns1 d mA ∧ ∀ f, RelO (us.lookup f) (mA f) := by
  rcases h with h | h
  · exact exd_at I.hok h
  · exact I.hok d _ h
/-- an error with its fields -/
def ExW (H : Hp) (a C : Addr) (us : List (Str × V)) : Prop := (ExAt H a C none ∧ us = []) ∨ ∃ d, ExAt H a C (some d) ∧ XdAt H d us
theorem exw_inst {us : List (Str × V)} (I : Inv X pins σ H s) (h : ExW H a C us) : ∃ ox od, PySem.W.InstAt s.heap a ox C od ∧ (us = [] ∨ ∃ (o : Obj) (mA : Str → Option Value), od = some o ∧ (∀ f, PySem.W.lookIn f o = some (mA f)) ∧ ∀ f, RelO (us.lookup f) (mA f)) := by
  rcases h with ⟨h, rfl⟩ | ⟨d, h, hd⟩
  · obtain ⟨o, vs, h1, h2, h3, h4⟩ := exc_obj0 I h
    exact ⟨o, none, ⟨h1, h2, by unfold PySem.W.notCls; rw [h4] <;> rfl, by rw [h3]; trivial⟩, .inl rfl⟩
  · obtain ⟨o, vs, h1, h2, h3, h4⟩ := exc_obj0 I h
    obtain ⟨mA, hn, hr⟩ := xd_at I hd
    obtain ⟨od, ho, hl⟩ := lookIn_ns hn
    exact ⟨o, some od, ⟨h1, h2, by unfold PySem.W.notCls; rw [h4] <;> rfl, by rw [h3]; exact ho⟩, .inr ⟨od, mA, rfl, hl, hr⟩⟩
end
/-- isinstance(e, c) -/
def rIsX (K : Fg) : List V → Hp → VK → Prop := fun xs H Q => ∃ (a C : Addr) (us : List (Str × V)) (c : V) (cv : Value) (b : Bool), xs = [.ref a, c] ∧ ClsV c cv ∧ ExW H a C us ∧ ExcC K C ∧ PySem.W.kitOne K (.ref C) cv = some b ∧ Q (.bl b) H
theorem call_isX {X : Cx} : CallR X (.builtin "isinstance") (rIsX X.K) := by
  intro pins s σ H xs us Q I r h
  obtain ⟨a, C, us, c, cv, b, rfl, hcv, ex, T, e, q⟩ := h
  cases r with
  | cons rx rr =>
    cases rr with
    | cons rt rr =>
      cases rr
      cases rx
      have ec := hcv.eq rt
      subst ec
      obtain ⟨ox, od, J, _⟩ := exw_inst I ex
      exact PySem.W.kia_one (PySem.W.kitx_excD T) I.kIn J e (fun z => nomatch z) fun tk => ⟨.bl b, H, I.kept (t' := tk) fun _ _ z => z, rfl, q⟩
/-- e.f -/
def tXv (K : Fg) (f : Str) (te : TE) : TE := fun σ H Q => te σ H fun x H1 => ∃ (a C : Addr) (us : List (Str × V)) (v : V), x = .ref a ∧ ExW H1 a C us ∧ XfC K C ∧ PySem.W.findIn K (.ref C) f = some none ∧ us.lookup f = some v ∧ Q v H1
theorem pe_xv {X : Cx} {e : Expr} {f : Str} {te : TE} {pos : Pos} (he : PE X e te) (hb : attributeBase e f X.env (eval e X.env) = eval e X.env) : PE X (.Attribute e f pos) (tXv X.K f te) := by
  refine ⟨fun pins s σ H Q I h => ?_⟩
  refine attr_of hb (thn (he.run pins s σ H _ I h) fun u s1 hh => ?_)
  obtain ⟨x, H1, I1, rx, a, C, us, v, ex, ew, T, hno, l, q⟩ := hh
  subst ex
  obtain rfl : u = Value.ref a := rx
  obtain ⟨ox, od, J, fl⟩ := exw_inst I1 ew
  rcases fl with rfl | ⟨o, mA, rfl, hl, hr⟩
  · cases l
  · obtain ⟨w, hw, rw'⟩ := RelO.some_of (v := v) (o := mA f) (by rw [← l]; exact hr f)
    exact HandSPX.exc_get I1.kIn J T.ga T.gg T.exC (PySem.W.findObj_own T.hdC hno rfl (by rw [hl, hw])) (handed_of rw') ⟨v, H1, I1.tok _, rw', q⟩
end Dn
end
section
set_option maxHeartbeats 4000000
namespace L2N
open PySem PySem.Spec PyProof.Rows L2
section
variable {Y : Cx} {x n : Str} {c : Value} {i : Nat} {body suite : List Stmt} {b₀ : Stmt} {np pos pos' : Pos} {tb : WX → TS} {ts : Addr → Value → Option Addr → TS} {Wout : WX}
theorem ps_try_asN (hx : Y.ex = []) (hs : Y.stack = Y.env :: Y.outer) (hf : Y.env.frame = some Y.env.locals) (hnd : Y.N.Nodup) (hi : Y.N[i]? = some n) (hln : Y.env.kindOf n = some .local) (hc : Names Y x c) (tk : Takes Y Wout)
    (hb : ∀ (W : WX) (pn : List (Addr × Obj)) (xe : Value → Shared → Prop), Takes (Y.tr pn xe) W → PassesOwn (model Y.prog Y.w) Y.A Y.env xe → PSs (Y.tr pn xe) body (tb W))
    (hsu : ∀ (a : Addr) (oe : Obj) (cls : Value) (d : Option Addr) (pn : List (Addr × Obj)), Zn cls d oe → (∃ vs, oe.data = .fields vs) → Y.s_0.heap.get? a = none → PSs (Y.suite a ((a, oe) :: pn)) (b₀ :: suite) (ts a cls d)) :
    PS Y (.Try body [.ExceptHandler (some (.Name x np)) (some n) (b₀ :: suite) pos'] [] [] pos) (fun D σ H => tb (wAs Y.K c i ts Wout D) D σ H) := by
  refine ⟨fun pp s σ H D I h => ?_⟩
  have ok := I.ok
  have hfr : Y.A.frames = some (Y.env :: Y.outer) := by rw [ok.frames, hs]
  have hloc : Loc Y.env.scope n := .inl hln
  refine wpAny_Try_except ?_
  refine wpAny_mono ((hb (wAs Y.K c i ts Wout D) (Y.pn ++ pp) (fun e s₁ => wpAny (model Y.prog Y.w) Y.A (noteFrame e Y.env) (fun _ s₂ => wpAny (model Y.prog Y.w) Y.A (setFlight e none) (fun _ s₃ =>
    wpAny (model Y.prog Y.w) Y.A (handleBy e Y.env [.ExceptHandler (some (.Name x np)) (some n) (b₀ :: suite) pos']) (SP Y pp D) Y.xe s₃) Y.xe s₂) Y.xe s₁) (fun u s' xx => ?_) PassesOwn.looking).run [] s σ H D (I.toTry _) h) (fun f s1 res => ?_) (fun e s1 he => he)
  · -- the catch
    obtain ⟨a, B, sI, pins', σ', H', cls, d, rfl, Z', nb, up, sky, na, os, ag, b, hb1, yes, no⟩ := xx
    have Z : Inv Y pp σ' H' sI := Z'.ofTry ok
    have sky' : Sky B (Y.env :: Y.outer) a (Zn cls d) Y.env.locals s'.heap := by rw [← hs]; exact sky
    show wpAny (model Y.prog Y.w) Y.A (noteFrame (.ref a) Y.env) _ _ _
    refine Sky.land Zn.steady hfr hf sky' fun h3 fl3 up3 => ?_
    have Z3 : Inv Y pp σ' H' { s' with heap := h3 } := Z.landed nb fl3.1 (up.trans up3) os ag
    obtain ⟨w3, vs3, he3, hz3, hd3⟩ := fl3.there
    have notFr : ∀ {h : Heap} {o : Obj} {vs : Array Value}, h.FunFrames B (Y.env :: Y.outer) → h.get? a = some o → o.data = .fields vs → a ∉ frs (Y.env :: Y.outer) := fun {h o vs} ff e dd hm => by
      obtain ⟨_, o', e', hnf⟩ := ff.mem hm
      rw [e] at e'; cases e'
      exact hnf _ dd
    have nfr := notFr fl3.2.2.1 he3 hd3
    have nL : a ≠ Y.env.locals := fun z => nfr (List.mem_filterMap.mpr ⟨Y.env, List.mem_cons_self, by rw [hf, z]⟩)
    have nF : a ∉ Y.fs := fun hm => by
      obtain ⟨e, he, q⟩ := List.mem_filterMap.mp hm
      exact nfr (List.mem_filterMap.mpr ⟨e, List.mem_cons_of_mem _ he, q⟩)
    have n0 : Y.s_0.heap.get? a = none := by
      cases e : Y.s_0.heap.get? a with
      | none => rfl
      | some o =>
        obtain ⟨o', q⟩ := Z.base.there a o e (by rw [hx]; exact fun z => nomatch z)
        have z := nb a o' q (by rw [hs]; exact nfr)
        rw [fl3.2.1] at z
        cases z
    have U3 := Z3.suite he3 hd3 na nL nF
    refine wpAny_handleBy_cons (codeAny_handlers_test ?_) (by intro q; cases q)
    have LT : PySem.W.Looks (model Y.prog Y.w) h3 (typeOf (.ref a)) cls := fun A Q E s k q => wpAny_typeOf_ref (k _ _ he3) (by rw [hz3.1]; exact q)
    have LM := PySem.W.exm_one (M := model Y.prog Y.w) (Z3.kIn) LT hb1
    have test : ∀ {Q : Value → Shared → Prop} {E : Value → Shared → Prop}, Q c { s' with heap := h3 } → wpAny (model Y.prog Y.w) (Y.A.mark (some (.ref a))) (eval (.Name x np) Y.env) Q E { s' with heap := h3 } := fun {Q E} q => by
      obtain ⟨hg, hdbg, hm | ⟨hm, hv, hnn⟩⟩ := hc
      · exact ld_glob (X := Y.suite a ((a, w3) :: (Y.pn ++ pp))) U3 hg hm q hdbg
      · exact ld_blt (X := Y.suite a ((a, w3) :: (Y.pn ++ pp))) U3 hg hm hv q hnn hdbg
    refine test (LM.here ?_)
    cases b with
    | true =>
      refine codeAny_handlers_suite_as ?_
      refine HandSPX.lands_againZ fl3 fun h4 fl4 up4 => ?_
      have Z4 : Inv Y pp σ' H' { s' with heap := h4 } := Z.landed nb fl4.1 ((up.trans up3).trans up4) os ag
      obtain ⟨w4, vs4, he4, hz4, hd4⟩ := fl4.there
      have U4 := Z4.suite he4 hd4 na nL nF
      refine store_ok (X := Y.suite a ((a, w4) :: (Y.pn ++ pp))) (v := .ref a) U4 hnd hi hloc rfl (fun s5 U5 => ?_) (.inr hln)
      refine wpAny_mono ((hsu a w4 cls d (Y.pn ++ pp) hz4 ⟨_, hd4⟩ n0).run [] s5 _ H' _ U5 (yes rfl a na)) (fun f s6 res => ?_) (fun _ _ z => False.elim z)
      have end_ : ∀ {σ6 : L2.St} {H6 : Hp} {Q : Shared → Prop}, Inv (Y.suite a ((a, w4) :: (Y.pn ++ pp))) [] σ6 H6 s6 → (∀ s7, Inv Y pp (σ6.set i none) H6 s7 → Q s7) →
          wpAny (model Y.prog Y.w) Y.A (do bindName Y.env n .none; unbindBehindTheSuite Y.env n pos') (fun _ s7 => Q s7) Y.xe s6 := fun {σ6 H6 Q} U6 hq => gone_ok (U6.unsuite ok) hnd hi hln hq
      cases f with
      | next =>
        obtain ⟨σ6, H6, U6, q6⟩ := res
        exact end_ U6 fun s7 Z7 => ⟨_, _, Z7, q6⟩
      | brk =>
        obtain ⟨σ6, H6, U6, q6⟩ := res
        exact end_ U6 fun s7 Z7 => ⟨_, _, Z7, q6⟩
      | cont =>
        obtain ⟨σ6, H6, U6, q6⟩ := res
        exact end_ U6 fun s7 Z7 => ⟨_, _, Z7, q6⟩
      | ret u =>
        obtain ⟨v6, σ6, H6, U6, r6, q6⟩ := res
        exact end_ U6 fun s7 Z7 => ⟨_, _, _, Z7, r6, q6⟩
    | false =>
      show wpAny _ Y.A (handleBy (.ref a) Y.env []) _ _ _
      refine wpAny_handleBy_nil ?_
      obtain ⟨k1, k2, k3, oe, vs, T, oT, ts', he, hz, hd, h1, hr⟩ := id fl3
      unfold PySem.passOn
      refine wpAny_bind (wpAny_field he hd h1 ?_)
      rw [if_neg (show ¬ ((Value.ref T == Value.none) = true) from by simp)]
      have fin : wpAny (model Y.prog Y.w) Y.A (setFlight (.ref a) Y.env.frame) (fun _ s4 => wpAny (model Y.prog Y.w) Y.A (throw (.ref a) : Sem Flow) (SP Y pp D) Y.xe s4) Y.xe { s' with heap := h3 } := by
        rw [hf]
        refine HandSPX.setFlight_upZ fl3 fun h4 hh4 up4 => wpAny_throw (tk _ _ ?_)
        exact ⟨a, B, sI, pp, σ', H', cls, d, rfl, Z, nb, (up.trans up3).trans up4, .inr (.inr (by rw [hs]; exact hh4)), na, os, ag, no rfl⟩
      first
        | exact wpAny_bind (wpAny_pure (wpAny_bind fin))
        | exact wpAny_bind fin
  · cases f with
    | next =>
      obtain ⟨σ', H', Z', q⟩ := res
      exact wpAny_execs_nil ⟨σ', H', Z'.ofTry ok, q⟩
    | brk =>
      obtain ⟨σ', H', Z', q⟩ := res
      exact ⟨σ', H', Z'.ofTry ok, q⟩
    | cont =>
      obtain ⟨σ', H', Z', q⟩ := res
      exact ⟨σ', H', Z'.ofTry ok, q⟩
    | ret u =>
      obtain ⟨v, σ', H', Z', r, q⟩ := res
      exact ⟨v, σ', H', Z'.ofTry ok, r, q⟩
end
end L2N
end
section
set_option maxHeartbeats 4000000
namespace Dn
open PySem L2 NdefX
section
variable {X : Cx} {a C : Addr} {oe : Obj} {dd : Option Addr} {pn pins : List (Addr × Obj)} {σ : L2.St} {H H1 : Hp} {s s1 : Shared}
def notA (a : Addr) (l : List (Addr × Obj)) : List (Addr × Obj) := l.filter fun p => decide (p.1 ≠ a)
theorem del_upd (h : H a = none) {o : HO} : del (upd H a o) a = H := by
  funext b
  by_cases e : b = a
  · subst e; rw [del_same, h]
  · rw [del_ne e, upd_ne e]
theorem Inv.hold (n0 : X.s_0.heap.get? a = none) (hz : Zc (.ref C) dd oe) (hf : ∃ vs, oe.data = .fields vs) (I : Inv (X.suite a ((a, oe) :: pn)) pins σ H s) : H a = none ∧ Inv (X.suite a []) (notA a (pn ++ pins)) σ (upd H a (.frz oe (exV a C dd))) s := by
  have hp := I.pin (a, oe) (List.mem_append_left _ List.mem_cons_self)
  obtain ⟨h1, h2, h3, h4, h5⟩ := hp
  have h1 : s.heap.get? a = some oe := h1
  have h2 : H a = none := h2
  have ok := I.ok
  have ok' : (X.suite a []).Ok := ⟨ok.mod, ok.kind, ok.glob, ok.blt, ok.above, ok.inj, ok.has, ok.cab, (fun z => absurd (show false = true from z) Bool.false_ne_true), ok.frames, ok.stk, ok.exf, ok.bs, ok.bsz, ok.noex, ok.exfs, ok.funs, ok.frf⟩
  have ne0 : ∀ b o, X.s_0.heap.get? b = some o → b ≠ a := fun b o e z => by
    rw [z, n0] at e; cases e
  have u := I.base
  refine ⟨h2, ⟨ok', I.os, I.bare, ⟨u.keep, u.slot, fun b o e n hb => ?_, u.there, fun b xs e => ?_, fun b o v e => ?_, fun b ps e => ?_⟩, I.loc, I.cell, ?_, fun y c e => ?_, fun p hp => ?_, fun b o e => ?_, I.len⟩⟩
  · rw [upd_ne (ne0 b o e)]; exact u.free b o e n hb
  · have q := u.tups b xs e
    rw [upd_ne (ne_of_none q h2)]; exact q
  · have q := u.frzs b o v e
    rw [upd_ne (ne_of_none q h2)]; exact q
  · obtain ⟨m, q⟩ := u.tbls b ps e
    exact ⟨m, by rw [upd_ne (ne_of_none q h2)]; exact q⟩
  · rw [upd_ne (Ne.symm h3)]; exact I.free
  · have hc : c ≠ a := fun z => by
      obtain ⟨v, o, ho, hd⟩ := I.cell y c e
      rw [z, h1] at ho
      cases ho
      exact h5 v hd
    rw [upd_ne hc]; exact I.freeC y c e
  · have hp : p ∈ notA a (pn ++ pins) := by simpa using hp
    obtain ⟨hm, hne⟩ := List.mem_filter.mp hp
    have hne : p.1 ≠ a := by simpa using hne
    have q := I.pin p (by
      show p ∈ (a, oe) :: pn ++ pins
      rcases List.mem_append.mp hm with z | z
      · simp [z]
      · simp [z])
    exact ⟨q.1, by rw [upd_ne hne]; exact q.2.1, q.2.2⟩
  · by_cases hb : b = a
    · subst hb
      rw [upd_same] at e
      cases e
      obtain ⟨vs, hv⟩ := hf
      refine ⟨h1, ?_⟩
      show ObjOk X.prog X.w _ s.heap b (.ext fun h => ∃ o vs, h.get? b = some o ∧ o.cls = .ref C ∧ o.dict = dd ∧ o.data = .fields vs)
      exact ⟨⟨oe, vs, h1, hz.1, hz.2, hv⟩, ⟨oe, h1⟩, fun g1 g2 ⟨o, vs, z1, z2⟩ k => ⟨o, vs, k o z1, z2⟩⟩
    · rw [upd_ne hb] at e
      exact (I.hok b o e).stay (fun c v _ q => q) (fun c q => by rw [upd_ne (ne_of_none q h2)]; exact q) fun c xs q => by rw [upd_ne (ne_of_none q h2)]; exact q
theorem Inv.unhold {u0 : HO} (I : Inv (X.suite a ((a, oe) :: pn)) pins σ H s) (J : Inv (X.suite a []) (notA a (pn ++ pins)) σ H1 s1) (ha : H1 a = some (.frz oe u0)) : Inv (X.suite a ((a, oe) :: pn)) pins σ (del H1 a) s1 := by
  have hp := I.pin (a, oe) (List.mem_append_left _ List.mem_cons_self)
  obtain ⟨h1, h2, h3, h4, h5⟩ := hp
  have h1 : s.heap.get? a = some oe := h1
  have hs1 : s1.heap.get? a = some oe := by
    have z : ObjOk X.prog X.w H1 s1.heap a (.frz oe u0) := J.hok a _ ha
    exact z.1
  have u := J.base
  have nz : ∀ {b : Addr}, H1 b = none → del H1 a b = none := fun {b} e => by
    by_cases hb : b = a
    · rw [hb, del_same]
    · rw [del_ne hb]; exact e
  have n0 : ∀ b o v, X.H_0 b = some (.frz o v) → b ≠ a := fun b o v e z => by
    have q := I.base.frzs b o v e
    rw [z, h2] at q; cases q
  refine ⟨I.ok, J.os, J.bare, ⟨u.keep, u.slot, fun b o e n hb => nz (u.free b o e n hb), u.there, fun b xs e => ?_, fun b o v e => ?_, fun b ps e => ?_⟩, J.loc, J.cell, nz J.free, fun y c e => nz (J.freeC y c e), fun p hp => ?_, fun b o e => ?_, J.len⟩
  · have q := u.tups b xs e
    rw [del_ne (fun z => by rw [z, ha] at q; cases q)]; exact q
  · rw [del_ne (n0 b o v e)]; exact u.frzs b o v e
  · obtain ⟨m, q⟩ := u.tbls b ps e
    exact ⟨m, by rw [del_ne (fun z => by rw [z, ha] at q; cases q)]; exact q⟩
  · have hq := I.pin p hp
    by_cases hpa : p.1 = a
    · obtain ⟨q1, q2, q3, q4, q5⟩ := hq
      rw [hpa] at q1 q2 q3 q4 ⊢
      rw [h1] at q1
      cases q1
      exact ⟨hs1, del_same, q3, q4, q5⟩
    · have hm : p ∈ notA a (pn ++ pins) := List.mem_filter.mpr ⟨by
        have hp' : p ∈ (a, oe) :: (pn ++ pins) := hp
        rcases List.mem_cons.mp hp' with z | z
        · exact absurd (by rw [z]) hpa
        · exact z, by simpa using hpa⟩
      have q := J.pin p (List.mem_append_right _ hm)
      exact ⟨q.1, nz q.2.1, q.2.2⟩
  · have hb : b ≠ a := fun z => by rw [z, del_same] at e; cases e
    rw [del_ne hb] at e
    exact (J.hok b o e).stay (fun c v _ q => q) (fun c q => by rw [del_ne (fun z => by rw [z, ha] at q; cases q)]; exact q) fun c xs q => by rw [del_ne (fun z => by rw [z, ha] at q; cases q)]; exact q
/-- an expression read with the caught error as a thing that stands -/
def tHeld (a C : Addr) (oe : Obj) (dd : Option Addr) (te : TE) : TE := fun σ H Q => H a = none → te σ (upd H a (.frz oe (exV a C dd))) fun v H1 => H1 a = some (.frz oe (exV a C dd)) ∧ Q v (del H1 a)
theorem PE.held {e : Expr} {te : TE} (n0 : X.s_0.heap.get? a = none) (hz : Zc (.ref C) dd oe) (hf : ∃ vs, oe.data = .fields vs) (he : PE (X.suite a []) e te) : PE (X.suite a ((a, oe) :: pn)) e (tHeld a C oe dd te) := by
  refine ⟨fun pins s σ H Q I h => ?_⟩
  obtain ⟨ha, J⟩ := Inv.hold n0 hz hf I
  refine wpAny_mono (he.run _ s σ _ _ J (h ha)) (fun u s1 hh => ?_) fun _ _ z => z
  obtain ⟨v, H1, J1, r1, h1, q⟩ := hh
  exact ⟨v, del H1 a, Inv.unhold I J1 h1, r1, q⟩
end
end Dn
end
section
set_option maxHeartbeats 4000000
namespace Dn
open PySem L2 NdefX
noncomputable def tryA (i : Nat) (catch_ : Str → Option Bool) (mb : M Fw) (ms : Addr → Str → Flds → M Fw) : M Fw := fun e s => match mb e s with
  | .exn c fs e' s' => match catch_ c with
    | some true => allP fun a => dropS i (ms a c fs (e'.set i (.ad a)) s')
    | some false => .exn c fs e' s'
    | none => .stuck
  | o => o
/-- what is known of the caught error -/
structure Cau (X : Cx) (x : Fx) (a : Addr) (oe : Obj) (c : Str) (fs : Flds) : Prop where
  n0 : X.s_0.heap.get? a = none
  dt : ∃ vs, oe.data = .fields vs
  cx : PXN.CtxN oe
  ex : ∃ d, Zc (.ref (x.ca c)) d oe ∧ ExR X.K x.ca x.cs0 x.B0 (.ref (x.ca c)) d c fs
theorem try_impA {K : Fg} {x : Fx} {W : WX} {cv : Value} {i : Nat} {catch_ : Str → Option Bool} {mb : M Fw} {ms : Addr → Str → Flds → M Fw} {D : Ends} {σ : L2.St} {H : Hp} (hc : ∀ c b, catch_ c = some b → PySem.W.exmOne K (.ref (x.ca c)) cv = some b) (h : tS K x W (tryA i catch_ mb ms) D σ H) :
    tS K x (wAs K cv i (fun a cls d => tsX K x cls d (ms a)) W D) mb D σ H := by
  obtain ⟨env, st, cs, B, hs, ho⟩ := h
  refine ⟨env, st, cs, B, hs, ?_⟩
  unfold tryA at ho
  cases hm : mb env st with
  | stuck => rw [hm] at ho; exact ho
  | ok f e s => rw [hm] at ho; exact ho
  | exn c fs e s =>
    rw [hm] at ho
    simp only at ho
    intro σ' cls d cs' B' H' sx sb pr ex
    cases hb : catch_ c with
    | none => rw [hb] at ho; exact ho.elim
    | some b =>
      rw [hb] at ho
      refine ⟨b, by rw [ex.1]; exact hc c b hb, fun hbt a ha => ?_, fun hbf => ?_⟩
      · subst hbt
        simp only at ho
        have hall : ∀ a, dropS i (ms a c fs (e.set i (.ad a)) s) = allP fun a => dropS i (ms a c fs (e.set i (.ad a)) s) := by
          rcases allP_cases (fun a => dropS i (ms a c fs (e.set i (.ad a)) s)) with h | h
          · rw [h] at ho; exact ho.elim
          · exact h
        rw [← hall a] at ho
        refine ⟨c, fs, x.at cs' B', ⟨rfl, rfl⟩, ex, e.set i (.ad a), s, cs', B', (sx.re.ad a).set i, ?_⟩
        cases hms : ms a c fs (e.set i (.ad a)) s with
        | stuck => rw [hms] at ho; exact ho.elim
        | exn _ _ _ _ => rw [hms] at ho; exact ho.elim
        | ok f e2 s2 =>
          rw [hms] at ho
          have ho : outS K x W cs B (.ok f (e2.set i .un) s2) (qS K x D) := ho
          intro cs2 B2 sb2 pr2
          have q := ho cs2 B2 (sb.trans sb2) (pr.trans pr2)
          cases f with
          | nx => exact fun σ2 H2 sx2 => q _ H2 ((sx.back sx2).1.unset i)
          | bk => exact fun σ2 H2 sx2 => q _ H2 ((sx.back sx2).1.unset i)
          | ct => exact fun σ2 H2 sx2 => q _ H2 ((sx.back sx2).1.unset i)
          | rt r => exact fun v σ2 H2 sx2 => q v _ H2 ((sx.back sx2).1.unset (i + 1) (w := none))
      · subst hbf
        exact ho σ' cls d cs' B' H' sx sb pr ex
theorem s_tryA {X : Cx} {x : Fx} {W : WX} {n nm : Str} {cv : Value} {i : Nat} {body suite : List Stmt} {b0 : Stmt} {np pos pos' : Pos} {catch_ : Str → Option Bool} {mb : M Fw} {ms : Addr → Str → Flds → M Fw} (g : Gd X W) (hx : X.ex = []) (hs : X.stack = X.env :: X.outer) (hf : X.env.frame = some X.env.locals) (hi : X.N[i]? = some n) (hln : X.env.kindOf n = some .local) (hnm : Names X nm cv)
    (hc : ∀ c b, catch_ c = some b → PySem.W.exmOne X.K (.ref (x.ca c)) cv = some b)
    (hb : ∀ (W' : WX) (pn : List (Addr × Obj)) (xe : Value → Shared → Prop), L2N.Takes (X.tr pn xe) W' → PassesOwn (model X.prog X.w) X.A X.env xe → PSs (X.tr pn xe) body (tS X.K x W' mb))
    (hsu : ∀ (a : Addr) (oe : Obj) (pn : List (Addr × Obj)) (c : Str) (fs : Flds) (x' : Fx), GX x x' → Cau X x' a oe c fs → PSs (X.suite a ((a, oe) :: pn)) (b0 :: suite) (tS X.K x' WF (ms a c fs))) :
    PS X (.Try body [.ExceptHandler (some (.Name nm np)) (some n) (b0 :: suite) pos'] [] [] pos) (tS X.K x W (tryA i catch_ mb ms)) :=
  PS.imp (L2N.ps_try_asN (tb := fun W' => tS X.K x W' mb) (ts := fun a cls d => tsX X.K x cls d (ms a)) hx hs hf g.nd hi hln hnm g.tk hb fun a oe cls d pn hz hv n0 => PSs.tsX fun c fs x' gx ex => hsu a oe pn c fs x' gx ⟨n0, hv, hz.2.2, by
    have e := ex.1
    subst e
    exact ⟨d, hz.zc, ex⟩⟩) fun D σ H h => try_impA hc h
/-- slot i is the caught error -/
def isE (a : Addr) (i : Nat) (e : Env) : Bool := match e[i]? with
  | some (.ad b) => decide (b = a)
  | _ => false
def xfM (a : Addr) (fs : Flds) (ok : Bool) (i : Nat) (f : Str) : M Sl := fun e s => if isE a i e && ok then match fs.lookup f with
  | some y => .ok (.fz y) e s
  | none => .stuck
  else .stuck
def xiM (a : Addr) (r : Option Bool) (i : Nat) : M Sl := fun e s => if isE a i e then match r with
  | some b => .ok (.fz (.bl b)) e s
  | none => .stuck
  else .stuck
section
variable {X : Cx} {x : Fx} {W : WX} {K : Fg} {env : Env} {st : List D} {cs : List Addr} {σ : L2.St} {B H : Hp} {a : Addr} {oe : Obj} {pn : List (Addr × Obj)} {c : Str} {fs : Flds} {i : Nat} {n : Str}
theorem SX.isE (h : SX K x env st cs σ B H) (e : isE a i env = true) : σ[i]? = some (some (.ref a)) := by
  unfold Dn.isE at e
  split at e
  · rename_i b hb
    have e : b = a := by simpa using e
    subst e
    obtain ⟨w, h1, ps, h2⟩ := h.at hb
    obtain ⟨_, rfl⟩ := h2
    exact h1
  · cases e
theorem SX.b0 (h : SX K x env st cs σ B H) : Sme x.B0 B ∧ Pre x.cs0 cs := by
  obtain ⟨ows, h⟩ := h
  exact ⟨h.g.b, h.pr⟩
/-- the caught error, held -/
theorem Cau.exw (T : Cau X x a oe c fs) (hs : SX X.K x env st cs σ B H) : ∃ d us, Zc (.ref (x.ca c)) d oe ∧ (H a = none → ExW (upd H a (.frz oe (exV a (x.ca c) d))) a (x.ca c) us) ∧ ∀ f y, fs.lookup f = some y → ∃ v, us.lookup f = some v ∧ Rp X.K x.ca cs B v y := by
  obtain ⟨d, hz, ex⟩ := T.ex
  obtain ⟨b, p⟩ := hs.b0
  obtain ⟨_, ex⟩ := ex.mono b p
  rcases ex with ⟨rfl, rfl⟩ | ⟨dx, us, rfl, h1, h2⟩
  · exact ⟨none, [], hz, fun ha => .inl ⟨.inr ⟨oe, upd_same⟩, rfl⟩, fun f y hy => by simp at hy⟩
  · refine ⟨some dx, us, hz, fun ha => .inr ⟨dx, .inr ⟨oe, upd_same⟩, ?_⟩, h2⟩
    rcases h1.mono hs.s with q | q
    · exact .inl (by rw [upd_ne (ne_of_none q ha)]; exact q)
    · exact .inr (by rw [upd_ne (ne_of_none q ha)]; exact q)
theorem w_xf {f : Str} {p pos : Pos} {ok : Bool} (T : Cau X x a oe c fs) (ho : ok = true → XfC X.K (x.ca c) ∧ PySem.W.findIn X.K (.ref (x.ca c)) f = some none) (hi : X.N[i]? = some n) (hv : Vis X.env.scope n) (hd : (n == ("__debug__" : Str)) = false) (hd2 : (n == ("__classdict__" : Str)) = false) (hb : attributeBase (.Name n p) f X.env (eval (.Name n p) X.env) = eval (.Name n p) X.env := by rfl) :
    PE (X.suite a ((a, oe) :: pn)) (.Attribute (.Name n p) f pos) (tU X.K x W (xfM a fs ok i f)) := by
  refine PE.imp (PE.all (P := fun t => ∃ d, Zc (.ref (x.ca c)) d oe ∧ t = tHeld a (x.ca c) oe d (tXv X.K f (tVar i))) fun t ⟨d, hz, e⟩ => by subst e; exact PE.held T.n0 hz T.dt (pe_xv (X := X.suite a []) (pe_var hi hv hd hd2) hb)) fun σ H Q ⟨env, st, cs, B, hs, q⟩ => ?_
  obtain ⟨d, us, hz, ew, hl⟩ := T.exw hs
  refine ⟨_, ⟨d, hz, rfl⟩, fun ha => ?_⟩
  unfold xfM at q
  split at q
  · rename_i hq
    rw [Bool.and_eq_true] at hq
    obtain ⟨h1, h2⟩ := ho hq.2
    split at q
    · rename_i y hy
      obtain ⟨v, hv, rv⟩ := hl f y hy
      exact ⟨.ref a, hs.isE hq.1, a, x.ca c, us, v, rfl, ew ha, h1, h2, hv, upd_same, by rw [del_upd ha]; exact q.now v H (hs.fz rv)⟩
    · exact q.elim
  · exact q.elim
theorem w_xi {ce : Expr} {p p2 pos : Pos} {r : Option Bool} {cv : V} {u : Value} (T : Cau X x a oe c fs) (hg : Gl X "isinstance") (hm : X.mg "isinstance" = none) (hcv : ClsV cv u) (hce : PE (X.suite a []) ce (tC cv)) (hr : ∀ b, r = some b → ExcC X.K (x.ca c) ∧ PySem.W.kitOne X.K (.ref (x.ca c)) u = some b) (hn2 : nst ce = true) (hi : X.N[i]? = some n) (hv : Vis X.env.scope n) (hd : (n == ("__debug__" : Str)) = false) (hd2 : (n == ("__classdict__" : Str)) = false) :
    PE (X.suite a ((a, oe) :: pn)) (.Call (.Name "isinstance" p) [.Name n p2, ce] [] pos) (tU X.K x W (xiM a r i)) := by
  have hn : nst (.Name n p2) = true := rfl
  refine PE.imp (PE.all (P := fun t => ∃ d, Zc (.ref (x.ca c)) d oe ∧ t = tHeld a (x.ca c) oe d (tCB (rIsX X.K) (tCons (tVar i) (tCons (tC cv) tNil)))) fun t ⟨d, hz, e⟩ => by
    subst e
    exact PE.held T.n0 hz T.dt (pe_callB (X := X.suite a []) call_isX hg hm (by decide +kernel : bootBuiltins "isinstance" = some (.builtin "isinstance")) (pa_cons (pe_var hi hv hd hd2) (pa_cons hce pa_nil (nst_ok hn2)) (nst_ok hn)) (by decide) (by decide) (nst_ok hn) (nst_all (by simp [hn2])))) fun σ H Q ⟨env, st, cs, B, hs, q⟩ => ?_
  obtain ⟨d, us, hz, ew, hl⟩ := T.exw hs
  refine ⟨_, ⟨d, hz, rfl⟩, fun ha => ?_⟩
  unfold xiM at q
  split at q
  · rename_i hq
    cases r with
    | none => exact q.elim
    | some b =>
      obtain ⟨h1, h2⟩ := hr b rfl
      exact ⟨.ref a, hs.isE hq, a, x.ca c, us, cv, u, b, rfl, hcv, ew ha, h1, h2, upd_same, by rw [del_upd ha]; exact q.now _ H (hs.fz (.bl b))⟩
  · exact q.elim
end
theorem Rp.flat {K : Fg} {ca : Str → Addr} {cs cs' : List Addr} {B B' : Hp} {v : V} {d : D} (h : Rp K ca cs B v d) (f : flatD d = true) : Rp K ca cs' B' v d := by
  cases h <;> first | exact .non | exact .bl _ | exact .int _ | exact .str _ | cases f
section
variable {X : Cx} {x : Fx} {env : Env} {st : List D} {cs : List Addr} {σ : L2.St} {B H : Hp} {a : Addr} {oe : Obj} {pn : List (Addr × Obj)} {c : Str} {fs : Flds} {i : Nat}
theorem Cau.rp (T : Cau X x a oe c fs) (hs : SX X.K x env st cs σ B H) (hn : noCF fs = true) : ∃ d, Zc (.ref (x.ca c)) d oe ∧ (H a = none → Rp X.K x.ca [] (upd B a (.frz oe (exV a (x.ca c) d))) (.ref a) (.exc c fs)) := by
  obtain ⟨d, hz, ex⟩ := T.ex
  obtain ⟨b, p⟩ := hs.b0
  obtain ⟨_, ex⟩ := ex.mono b p
  rcases ex with ⟨rfl, rfl⟩ | ⟨dx, us, rfl, h1, h2⟩
  · exact ⟨none, hz, fun ha => .exc0 (.inr ⟨oe, upd_same⟩)⟩
  · refine ⟨some dx, hz, fun ha => ?_⟩
    have g := Gr.alloc (T := x.T) (o := .frz oe (exV a (x.ca c) (some dx))) hs.s ha
    refine .exc (.inr ⟨oe, upd_same⟩) (h1.mono g.b) (fun f y hy => ?_) fun f y v hy hv => ?_
    · obtain ⟨v, hv, _⟩ := h2 f y hy
      rw [hv]; rfl
    · obtain ⟨v', hv', r⟩ := h2 f y hy
      rw [hv'] at hv
      cases hv
      exact (r.bareC (noCF_at hn hy)).mono g.b (Pre.refl _)
end
end Dn
end
section
set_option maxHeartbeats 4000000
namespace Dn
open PySem PySem.Spec PyProof.Rows L2
open L2H (RoomH)
/-- no exception is handled, or one that is frozen, its context None -/
def HotH (A : Around) (H : Hp) : Prop := A.handled = none ∨ ∃ (a : Addr) (oe : Obj) (u : HO) (vs : Array Value), A.handled = some (.ref a) ∧ H a = some (.frz oe u) ∧ oe.data = .fields vs ∧ vs[2]? = some .none
/-- the promise of a def that may be called while an exception is handled -/
structure FnQ (P : Program) (w : World) (K : PySem.W.Frag) (mg : Str → Option Value) (base : Heap) (CX : CXT) (k : Nat) (f : Addr) (fd : FuncData) (ps : List Str) (sp : Sp) : Prop where
  len : ∀ vs H Q E, sp vs H Q E → vs.length = ps.length
  run : ∀ (A : Around) (outer : List PySem.Env) (s : Shared) (H : Hp) (args : Args) (us : List Value) (vs : List V) (Q : VK) (E : XK), RoomH k A → HotH A H → Env0 P w K mg base A outer s H → BindsTo s fd args (ps.zip us) → Vals vs us → sp vs H Q E →
    codeAny (model P w) A (.call (.ref f) args) (CR CX outer P w H s Q E) s
theorem FnQ.ok {P : Program} {w : World} {K : PySem.W.Frag} {mg : Str → Option Value} {base : Heap} {CX : CXT} {k : Nat} {f : Addr} {fd : FuncData} {ps : List Str} {sp : Sp} (F : FnQ P w K mg base CX k f fd ps sp) : FnOk P w K mg base CX k f fd ps sp :=
  ⟨F.len, fun A outer s H args us vs Q E hr => F.run A outer s H args us vs Q E ⟨hr.dp, hr.un⟩ (.inl hr.hd)⟩
end Dn
end
section
set_option maxHeartbeats 4000000
namespace Dn
open PySem PySem.Spec PyProof.Rows L2
abbrev St := L2.St
abbrev Ht (X : Cx) : Prop := HotH X.A X.H_0
section
variable {X : Cx} {pins : List (Addr × Obj)} {σ : L2.St} {H : Hp} {s : Shared}
theorem Ht.at (h : Ht X) (I : Inv X pins σ H s) : X.A.handled = none ∨ ∃ x1, HotX.HotAt X.A x1 s.heap := by
  rcases h with h | ⟨a, oe, u, vs, h1, h2, h3, h4⟩
  · exact .inl h
  · have z : ObjOk X.prog X.w H s.heap a (.frz oe u) := I.hok a _ (I.base.frzs a oe u h2)
    exact .inr ⟨a, h1, oe, vs, z.1, h3, h4⟩
theorem Ht.blk {s3 : Shared} {H3 : Hp} {scope : Scope} {ce : PySem.Env} {fp : List Addr} (h : Ht X) (I : Inv X pins σ H3 s3) : Ht (X.blk s3 H3 scope ce fp) := by
  rcases h with h | ⟨a, oe, u, vs, h1, h2, h3, h4⟩
  · exact .inl h
  · exact .inr ⟨a, oe, u, vs, h1, I.base.frzs a oe u h2, h3, h4⟩
end
structure TurnW (P : Program) (w : World) (K : PySem.W.Frag) (tg : Expr) (J : It) (fp : List Addr) (it : Addr) (tn : Nat → Heap → Prop) : Prop where
  mem : it ∈ fp
  obj : ∀ i h, tn i h → ∀ b ∈ fp, ∃ o, h.get? b = some o ∧ ∀ v, o.data ≠ .cell v
  keep : ∀ i h h', tn i h → (∀ b ∈ fp, ∀ o, h.get? b = some o → h'.get? b = some o) → tn i h'
  item : ∀ (X : Cx), X.prog = P → X.w = w → X.K = K → Ht X → ∀ (i : Nat) (pins : List (Addr × Obj)) (s : Shared) (σ : St) (H : Hp) (E : Value → Shared → Prop), Inv X pins σ H s → (∀ b ∈ fp, FpOk X pins H b) → tn i s.heap → J.go i H →
    wpAny (model P w) X.A (pyNext (.ref it)) (fun r s1 => ∃ u, r = some u ∧
      wpAny (model P w) X.A (letOwnedTupleGo tg (.ref it) u) (fun _ s2 => ∃ x H', Inv X pins σ H' s2 ∧ RelV x u ∧ J.yld i H x H' ∧ tn (i + 1) s2.heap ∧ ∀ b ∈ fp, H' b = none) E s1) E s
  done : ∀ (X : Cx), X.prog = P → X.w = w → X.K = K → Ht X → ∀ (i : Nat) (pins : List (Addr × Obj)) (s : Shared) (σ : St) (H : Hp) (E : Value → Shared → Prop), Inv X pins σ H s → (∀ b ∈ fp, FpOk X pins H b) → tn i s.heap → J.stop i H →
    wpAny (model P w) X.A (pyNext (.ref it)) (fun r s1 => r = none ∧ Inv X pins σ H s1) E s
  self : ∀ (A : Around) (i : Nat) (s : Shared) (Q : Value → Shared → Prop) (E : Value → Shared → Prop), tn i s.heap → Q (.ref it) s → wpAny (model P w) A (pyIter (.ref it)) Q E s
def PIEW (X : Cx) (pins : List (Addr × Obj)) (σ : St) (tg : Expr) (R : It → Hp → Prop) (itv : Value) (s2 : Shared) : Prop :=
  ∃ (it : Addr) (fp : List Addr) (tn : Nat → Heap → Prop) (J : It) (H' : Hp), itv = .ref it ∧ Inv X pins σ H' s2 ∧ TurnW X.prog X.w X.K tg J fp it tn ∧ tn 0 s2.heap ∧ (∀ b ∈ fp, FpOk X pins H' b) ∧ R J H'
structure PIW (X : Cx) (tg iter : Expr) (wi : TI) : Prop where
  run : ∀ (pins : List (Addr × Obj)) (s : Shared) (σ : St) (H : Hp) (R : It → Hp → Prop), Inv X pins σ H s → wi σ H R →
    wpAny (model X.prog X.w) X.A (eval iter X.env) (fun v s1 => wpAny (model X.prog X.w) X.A (pyIter v) (PIEW X pins σ tg R) X.xe s1) X.xe s
end Dn
end
section
set_option maxHeartbeats 4000000
namespace Dn
open PySem L2 NdefX
open L2H (RoomH)
theorem PIW.imp {X : Cx} {tg e : Expr} {t t' : TI} (h : PIW X tg e t) (i : ∀ σ H R, t' σ H R → t σ H R) : PIW X tg e t' := ⟨fun pins s σ H R I q => h.run pins s σ H R I (i σ H R q)⟩
end Dn
end
section
set_option maxHeartbeats 4000000
namespace Dn
open PySem L2 NdefX
open L2H (RoomH)
end Dn
end
section
set_option maxHeartbeats 4000000
namespace Dn
open PySem L2 NdefX
end Dn
end
section
set_option maxHeartbeats 4000000
namespace Dn
open PySem PySem.Spec PyProof.Rows L2 NdefX
end Dn
end
section
set_option maxHeartbeats 4000000
namespace Dn
open PySem L2 NdefX
/-- the facts of the class at C that can be tested -/
def errB (K : Fg) (C : Addr) : Bool :=
  decide (PySem.W.findIn K (.ref C) "__setattr__" = some (some (.builtin "object.__setattr__"))) && (decide (PySem.W.typeIn K (.ref C) = some (.type "type")) && (PySem.W.keepIn K (.ref C) &&
  (decide (PySem.W.findIn K (.ref C) "__getattribute__" = some (some (.builtin "BaseException.__getattribute__"))) && (decide (PySem.W.findIn K (.ref C) "__getattr__" = some none) && (decide (PySem.W.subIn K (.ref C) (.type "BaseException") = some true) && (PySem.W.hasDictIn K C &&
  (decide (PySem.W.findIn K (.ref C) "__class__" = some (some (.builtin "object.__class__"))) && (decide (PySem.W.specialIn K (.builtin "object.__class__") "__get__" = some (some (.builtin "getset_descriptor.__get__"))) && (decide (PySem.W.takesIn K (.builtin "object.__class__") = some true) && decide (PySem.W.mroIn K C (.type "object") = some true))))))))))
structure ErrC (K : Fg) (mg : Str → Option Value) (C : Addr) (n : Str) : Prop where
  mg : mg n = some (.ref C)
  oex : OexC K C
  exc : ExcC K C
theorem ErrC.xf {K : Fg} {mg : Str → Option Value} {C : Addr} {n : Str} (h : ErrC K mg C n) : XfC K C := ⟨h.exc.hg, h.exc.hk, h.exc.hs, h.exc.hd⟩
theorem errC_mk {K : Fg} {mg : Str → Option Value} {C : Addr} {n : Str} {nm q : Str} {N : Addr} {bs bm : List Value} {sn : List Str} {sub : List Value} {ab : Bool} {col : Option Bool} {dd : Option Addr} {m0 m1 m2 m3 m5 : Option Value}
    (a : mg n = some (.ref C)) (x : K.lookup C = some (excClassObj nm q C N bs bm true sn sub ab col dd m0 m1 m2 m3 m5 "ValueError.__new__")) (r : PySem.HandSPX.refsVE bm = true) (h : errB K C = true) : ErrC K mg C n := by
  unfold errB at h
  simp only [Bool.and_eq_true, decide_eq_true_eq] at h
  obtain ⟨h1, h2, h3, h4, h5, h6, h7, h8, h9, h10, h11⟩ := h
  exact ⟨a, ⟨⟨nm, q, N, bs, bm, sn, sub, ab, col, dd, m0, m1, m2, m3, m5, x, r⟩, h1, h6, h2, h3⟩, ⟨h4, h5, h6, h7, h8, h9, h10, h11⟩⟩
end Dn
end
section
set_option maxHeartbeats 4000000
namespace Dn
open PySem L2 NdefX
/-- an error's __init__ as it stands in K -/
structure IniT (K : Fg) (P : Program) (mg : Str → Option Value) (C : Addr) (qual : Str) (ps : List Str) (params : Arguments) (rest : List Stmt) (scope : Scope) : Prop where
  ex : ∃ fI fd, PySem.W.findIn K (.ref C) "__init__" = some (some (.ref fI)) ∧ PySem.W.typeIn K (.ref fI) = some (.type "function") ∧ ExcT K P mg C fI qual params rest scope fd ∧ Binds K fd ("self" :: ps) []
section
variable {X : Cx} {C : Addr} {n qual : Str} {params : Arguments} {scope : Scope}
theorem ers1 {f : Str} {p1 p2 p3 p4 : Pos} (E : ErrC X.K X.mg C n) (I : IniT X.K X.prog X.mg C qual [f] params [stRow f p1 p2 p3 p4] scope) (S : NScope ["self", f, "__class__"] ["self", f] ["__class__"] scope) (hno : PySem.W.findIn X.K (.ref C) f = some none) (hd1 : (f == ("__debug__" : Str)) = false) (hd2 : (f == ("__classdict__" : Str)) = false) : ErS X C n [f] (spX C [f]) 1 := by
  obtain ⟨fI, fd, h1, h2, T, hb⟩ := I.ex
  exact ⟨E.oex, ⟨fI, fd, h1, h2, err1 T S hno hd1 hd2, hb⟩, E.mg⟩
theorem ErS.err {fl : List Str} {k : Nat} (h : ErS X C n fl (spX C fl) k) : ErrOk X C n fl k := ⟨h.oex, h.ini, h.mg⟩
end
end Dn
end
section
set_option maxHeartbeats 4000000
namespace Dn
open PySem L2 NdefX
theorem Gw.blk {X : Cx} (g : Gw X) (s : Shared) (H : Hp) (sc : Scope) (e : PySem.Env) (fp : List Addr) : Gw (X.blk s H sc e fp) := ⟨g.un, g.nd⟩
theorem Gd.try {X : Cx} {W W' : WX} (g : Gd X W) {pn : List (Addr × Obj)} {xe : Value → Shared → Prop} (tk : L2N.Takes (X.tr pn xe) W') : Gd (X.tr pn xe) W' := ⟨⟨g.un, g.nd⟩, g.calm, tk⟩
theorem Gw.suite {X : Cx} (g : Gw X) (a : Addr) (pn : List (Addr × Obj)) : Gw (X.suite a pn) := ⟨g.un, g.nd⟩
end Dn
end
section
set_option maxHeartbeats 4000000
namespace Dn
open PySem L2 NdefX
open He (ba)
abbrev TxV : Type := Option (Str × Str × Arguments × FuncBody × Scope × Addr × Addr)
def txAt (K : Fg) (f : Addr) : TxV := match K.lookup f with
  | some ⟨_, _, .func fd, _⟩ => some (fd.name, fd.qualname, fd.params, fd.body, fd.scope, fd.globals, fd.builtins)
  | _ => none
/-- a text: where it stands, name, qualified name, parameters, body, scope -/
structure Tx where
  at_ : Str × Option Str
  name : Str
  qual : Str
  params : Arguments
  body : List Stmt
  scope : Scope
def Tx.val (d : Tx) : TxV := some (d.name, d.qual, d.params, .stmts d.body, d.scope, mainGlobals, builtinsNs)
abbrev AlC : Type := Bool × List TxV
structure SaysC (ex : Fg → Bool) (tx : List Tx) (K : Fg) : Prop where
  ex : ex K = true
  tx : tx.map (fun d => txAt K (He.fAd K d.at_)) = tx.map Tx.val
section
variable {ex : Fg → Bool} {tx : List Tx} {K : Fg}
theorem SaysC.at (c : SaysC ex tx K) {i : Nat} {d : Tx} (h : tx[i]? = some d) : txAt K (He.fAd K d.at_) = d.val := by
  have e2 : (tx.map fun d => txAt K (He.fAd K d.at_))[i]? = (tx.map Tx.val)[i]? := by rw [c.tx]
  rw [List.getElem?_map, List.getElem?_map, h] at e2
  exact Option.some.inj e2
end
def funB (K : Fg) (f : Addr) (q : Str) : Bool := PySem.W.keepIn K (.ref f) && match K.lookup f with
  | some ⟨_, _, .func fd, _⟩ => PySem.W.codeIn K fd.code q && (decide (fd.closure = []) && (match fd.defaults with
    | .none => true
    | _ => false))
  | _ => false
theorem fun_of {K : Fg} {f : Addr} {d : Tx} {st : Stmt} (e : txAt K f = d.val) (b : funB K f d.qual = true) (h1 : d.params = defArgs st) (h2 : d.body = defBody st) (h3 : d.scope = defScope st) : ∃ fd, L2.Fun K d.name d.qual st f fd := by
  unfold funB at b
  obtain ⟨kp, b⟩ := ba b
  unfold txAt at e
  cases q : K.lookup f with
  | none => rw [q] at b; cases b
  | some o =>
    obtain ⟨oc, od, dt, osl⟩ := o
    rw [q] at b e
    cases dt with
    | func fd =>
      obtain ⟨n1, n2, n3, n4, n5, n6, n7, n8, n9, n10, n11, n12, n13, n14, n15⟩ := fd
      have e2 : (some (n1, n2, n3, n4, n5, n6, n15) : TxV) = some (d.name, d.qual, d.params, .stmts d.body, d.scope, mainGlobals, builtinsNs) := e
      simp only [Option.some.injEq, Prod.mk.injEq] at e2
      obtain ⟨g1, g2, g3, g4, g5, g6, g8⟩ := e2
      obtain ⟨c1, c2⟩ := ba b
      obtain ⟨c3, c4⟩ := ba c2
      have hc := of_decide_eq_true c3
      dsimp only at hc c4 c1
      rw [h1] at g3; rw [h2] at g4; rw [h3] at g5
      subst g1 g2 g3 g4 g5 g6 g8 hc
      cases n8 <;> first | exact ⟨_, ⟨oc, od, n9, n10, n11, n12, n13, n14, osl, rfl, q, c1⟩, kp⟩ | cases c4
    | _ => cases b
/-- the class's object -/
def excB (K : Fg) (C : Addr) : Bool := match K.lookup C with
  | some ⟨.type t, _, .cls cd, sl⟩ => decide (t = "type") && (match cd.mro, sl.toList with
    | .ref C' :: bm, [_, _, _, _, some (.builtin n), _] => decide (C' = C) && (decide (n = "ValueError.__new__") && (!cd.hasDel && (cd.hasDict && PySem.HandSPX.refsVE bm)))
    | _, _ => false)
  | _ => false
theorem excB_ok {K : Fg} {C : Addr} (h : excB K C = true) : ∃ nm q N bs bm sn sub ab col dd k0 k1 k2 k3 k5, K.lookup C = some (excClassObj nm q C N bs bm true sn sub ab col dd k0 k1 k2 k3 k5 "ValueError.__new__") ∧ PySem.HandSPX.refsVE bm = true := by
  unfold excB at h
  split at h
  · rename_i t dd cd sl ho
    obtain ⟨ht, h⟩ := ba h
    split at h
    · rename_i C' bm k0 k1 k2 k3 n k5 hm hs
      obtain ⟨a1, h⟩ := ba h
      obtain ⟨a2, h⟩ := ba h
      obtain ⟨a3, h⟩ := ba h
      obtain ⟨a4, a5⟩ := ba h
      have e1 := of_decide_eq_true a1
      have e2 := of_decide_eq_true a2
      have e3 := of_decide_eq_true ht
      obtain ⟨nm, bs, mro, ns, qn, hd, sn, sub, ab, col, del⟩ := cd
      dsimp only at hm a3 a4
      simp only [Bool.not_eq_true'] at a3
      have hsl : sl = #[k0, k1, k2, k3, some (.builtin n), k5] := by
        rw [← hs]
      subst e1 e2 e3 hm a3 a4 hsl
      exact ⟨nm, qn, ns, bs, bm, sn, sub, ab, col, dd, k0, k1, k2, k3, k5, ho, a5⟩
    · cases h
  · cases h
theorem errC_of {K : Fg} {mg : Str → Option Value} {C : Addr} {n : Str} (a : mg n = some (.ref C)) (x : excB K C = true) (h : errB K C = true) : ErrC K mg C n := by
  obtain ⟨nm, q, N, bs, bm, sn, sub, ab, col, dd, k0, k1, k2, k3, k5, h1, h2⟩ := excB_ok x
  exact errC_mk a h1 h2 h
/-- the facts of the error's __init__ -/
def iniB (K : Fg) (file : Str) (C f : Addr) (q : Str) : Bool :=
  decide (PySem.W.findIn K (.ref C) "__init__" = some (some (.ref f))) && (decide (PySem.W.typeIn K (.ref f) = some (.type "function")) && (decide (PySem.W.mroIn K C (.ref C) = some true) && (decide (PySem.W.subIn K (.ref C) (.type "ValueError") = some true) &&
  (decide (PySem.W.ks_superIn K C C "__init__" = some (some (.builtin "ValueError.__init__"))) && (decide (PySem.W.nsIn K cStatics "thirdparty.any" = some none) && match K.lookup f with
  | some ⟨_, _, .func fd, _⟩ => PySem.W.codeIn K fd.code q && ((match fd.code with
    | .ref c => (match K.lookup c with
      | some ⟨_, _, .fields vs, _⟩ => (match (vs[2]? : Option Value) with
        | some (.str z _) => decide (z = file)
        | _ => false)
      | _ => false)
    | _ => false) && ((match fd.closure with
    | [(n, cc)] => decide (n = "__class__") && (match K.lookup cc with
      | some ⟨_, _, .cell (some (.ref C')), _⟩ => decide (C' = C)
      | _ => false)
    | _ => false) && ((match fd.defaults with
    | .none => true
    | _ => false) && (match fd.kwdefaults with
    | .none => true
    | _ => false))))
  | _ => false)))))
theorem ini_of {K : Fg} {P : Program} {mg : Str → Option Value} {C f : Addr} {n qual : Str} {d : Tx} {ps : List Str} {params : Arguments} {rest : List Stmt} {scope : Scope} {z : Str} {j : Nat} {p0 p1 p2 p3 p4 p5 : Pos} (E : ErrC K mg C n) (e : txAt K f = d.val) (b : iniB K P.main.file C f qual = true)
    (hn : d.name = "__init__") (hq : d.qual = qual) (h1 : d.params = params) (h2 : d.body = supRow z j p0 p1 p2 p3 p4 p5 :: rest) (h3 : d.scope = scope) (hl : (p2.endLine == p4.line) = true) (self : (params.posonlyargs ++ params.args).head?.map (·.arg) = some "self") (hm : mg "super" = none)
    (top : (P.main.scope.names.lookup ("super" : Str)).isSome = false) (ks : scope.names.lookup ("super" : Str) = some .globalImplicit) (kc : scope.names.lookup ("__class__" : Str) = some .free)
    (bd : ∀ (cl : List (Str × Addr)) (doc pm : Value) (an : Option Addr) (cdv ct : Value) (us : List Value), us.length = (("self" : Str) :: ps).length → bindArgs (PySem.W.fnX "__init__" qual params (supRow z j p0 p1 p2 p3 p4 p5 :: rest) scope cl .none .none doc pm an cdv ct) ⟨us, []⟩ = pure ((("self" : Str) :: ps).zip us)) : IniT K P mg C qual ps params rest scope := by
  unfold iniB at b
  obtain ⟨b1, b⟩ := ba b
  obtain ⟨b2, b⟩ := ba b
  obtain ⟨b3, b⟩ := ba b
  obtain ⟨b4, b⟩ := ba b
  obtain ⟨b5, b⟩ := ba b
  obtain ⟨b6, b⟩ := ba b
  unfold txAt at e
  cases q : K.lookup f with
  | none => rw [q] at b; cases b
  | some o =>
    obtain ⟨oc, od, dt, osl⟩ := o
    rw [q] at b e
    cases dt with
    | func fd =>
      obtain ⟨n1, n2, n3, n4, n5, n6, n7, n8, n9, n10, n11, n12, n13, n14, n15⟩ := fd
      have e2 : (some (n1, n2, n3, n4, n5, n6, n15) : TxV) = some (d.name, d.qual, d.params, .stmts d.body, d.scope, mainGlobals, builtinsNs) := e
      simp only [Option.some.injEq, Prod.mk.injEq] at e2
      obtain ⟨g1, g2, g3, g4, g5, g6, g8⟩ := e2
      rw [hn] at g1; rw [hq] at g2; rw [h1] at g3; rw [h2] at g4; rw [h3] at g5
      dsimp only at b
      obtain ⟨c1, b⟩ := ba b
      obtain ⟨c2, b⟩ := ba b
      obtain ⟨c3, b⟩ := ba b
      obtain ⟨c4, c5⟩ := ba b
      subst g1 g2 g3 g4 g5 g6 g8
      obtain ⟨rfl⟩ : n8 = .none := by cases n8 <;> first | rfl | cases c4
      obtain ⟨rfl⟩ : n9 = .none := by cases n9 <;> first | rfl | cases c5
      split at c2
      · rename_i c hb1
        split at c2
        · rename_i ccl cdd vs ccs hc
          split at c2
          · rename_i zz tf hz
            split at c3
            · rename_i nn cc hb0
              obtain ⟨c6, c7⟩ := ba c3
              have en := of_decide_eq_true c6
              subst en
              split at c7
              · rename_i k1 k2 C' k3 hcc
                have eC := of_decide_eq_true c7
                subst eC
                refine ⟨f, _, of_decide_eq_true b1, of_decide_eq_true b2, ⟨E.oex, ⟨z, j, p0, p1, p2, p3, p4, p5, cc, c, n10, n11, n12, n14, oc, od, osl, rfl, q, hl, c1, ⟨ccl, cdd, vs, ccs, zz, tf, hc, hz, ?_⟩, k1, k2, k3, hcc⟩, self, of_decide_eq_true b3, of_decide_eq_true b4, of_decide_eq_true b5, hm, of_decide_eq_true b6, top, ks, kc⟩, .all (bd _ _ _ _ _ _)⟩
                rw [of_decide_eq_true c2]
                exact beq_self_eq_true _
              · cases c7
            · cases c3
          · cases c2
        · cases c2
      · cases c2
    | _ => cases b
end Dn
end
section
set_option maxHeartbeats 4000000
namespace Dn
open PySem L2 NdefX
open He (ba ga ma)
/-- what a printed text leans on: names free, names bound, defs, errors, isinstance (c, d), built-in classes (c, T), except (c, d), fields that no class binds -/
structure Lst where
  fr : List Str := []
  gl : List Str := []
  df : List Str := []
  er : List Str := []
  kt : List (Str × Str × Bool) := []
  vt : List (Str × String × Bool) := []
  bt : List (String × String × Bool) := []
  xt : List (Str × Str × Bool) := []
  no : List (Str × Str) := []
def iniQ (c : Str) : Str := c ++ ".__init__"
def exL (L : Lst) (file : Str) (K : Fg) : Bool :=
  L.fr.all (fun n => (He.Fa.free n).ok K) && (L.gl.all (fun n => (He.Fa.glo n).ok K) && (L.df.all (fun n => (He.Fa.glo n).ok K && funB K (ga K n) n) && (L.er.all (fun c => (He.Fa.glo c).ok K && (excB K (ga K c) && (errB K (ga K c) && iniB K file (ga K c) (ma K (ga K c) "__init__") (iniQ c)))) &&
  (L.kt.all (fun p => decide (PySem.W.kitOne K (.ref (ga K p.1)) (.ref (ga K p.2.1)) = some p.2.2)) && (L.vt.all (fun p => decide (PySem.W.kitOne K (.ref (ga K p.1)) (.type p.2.1) = some p.2.2)) && (L.bt.all (fun p => decide (PySem.W.kitOne K (.type p.1) (.type p.2.1) = some p.2.2)) &&
  (L.xt.all (fun p => decide (PySem.W.exmOne K (.ref (ga K p.1)) (.ref (ga K p.2.1)) = some p.2.2)) && L.no.all (fun p => decide (PySem.W.findIn K (.ref (ga K p.1)) p.2 = some none)))))))))
structure All (L : Lst) (tx : List Tx) (P : Program) (K : Fg) (mg : Str → Option Value) : Prop where
  ex : exL L P.main.file K = true
  tx : tx.map (fun d => txAt K (He.fAd K d.at_)) = tx.map Tx.val
  h : ∃ h, K.In h ∧ h.Ns mainGlobals mg
section
variable {L : Lst} {tx : List Tx} {P : Program} {K : Fg} {mg : Str → Option Value}
theorem All.free (A : All L tx P K mg) {i : Nat} {n : Str} (h : L.fr[i]? = some n) : mg n = none := by
  obtain ⟨hp, X, G⟩ := A.h
  have := A.ex
  unfold exL at this
  exact He.free_ok X G (List.all_eq_true.mp (ba this).1 n (List.mem_of_getElem? h))
theorem All.glo (A : All L tx P K mg) {i : Nat} {n : Str} (h : L.gl[i]? = some n) : mg n = some (.ref (ga K n)) := by
  obtain ⟨hp, X, G⟩ := A.h
  have := A.ex
  unfold exL at this
  exact He.glo_ok X G (List.all_eq_true.mp (ba (ba this).2).1 n (List.mem_of_getElem? h))
theorem All.df (A : All L tx P K mg) {i : Nat} {n : Str} (h : L.df[i]? = some n) : mg n = some (.ref (ga K n)) ∧ funB K (ga K n) n = true := by
  obtain ⟨hp, X, G⟩ := A.h
  have := A.ex
  unfold exL at this
  have q := ba (List.all_eq_true.mp (ba (ba (ba this).2).2).1 n (List.mem_of_getElem? h))
  exact ⟨He.glo_ok X G q.1, q.2⟩
theorem All.er (A : All L tx P K mg) {n : Str} (h : n ∈ L.er) : ErrC K mg (ga K n) n ∧ iniB K P.main.file (ga K n) (ma K (ga K n) "__init__") (iniQ n) = true := by
  obtain ⟨hp, X, G⟩ := A.h
  have := A.ex
  unfold exL at this
  have q := ba (List.all_eq_true.mp (ba (ba (ba (ba this).2).2).2).1 n h)
  have r := ba q.2
  have u := ba r.2
  exact ⟨errC_of (He.glo_ok X G q.1) r.1 u.1, u.2⟩
theorem All.kt (A : All L tx P K mg) {p : Str × Str × Bool} (h : p ∈ L.kt) : PySem.W.kitOne K (.ref (ga K p.1)) (.ref (ga K p.2.1)) = some p.2.2 := by
  have := A.ex
  unfold exL at this
  exact of_decide_eq_true (List.all_eq_true.mp (ba (ba (ba (ba (ba this).2).2).2).2).1 p h)
theorem All.vt (A : All L tx P K mg) {p : Str × String × Bool} (h : p ∈ L.vt) : PySem.W.kitOne K (.ref (ga K p.1)) (.type p.2.1) = some p.2.2 := by
  have := A.ex
  unfold exL at this
  exact of_decide_eq_true (List.all_eq_true.mp (ba (ba (ba (ba (ba (ba this).2).2).2).2).2).1 p h)
theorem All.bt (A : All L tx P K mg) {p : String × String × Bool} (h : p ∈ L.bt) : PySem.W.kitOne K (.type p.1) (.type p.2.1) = some p.2.2 := by
  have := A.ex
  unfold exL at this
  exact of_decide_eq_true (List.all_eq_true.mp (ba (ba (ba (ba (ba (ba (ba this).2).2).2).2).2).2).1 p h)
theorem All.xt (A : All L tx P K mg) {p : Str × Str × Bool} (h : p ∈ L.xt) : PySem.W.exmOne K (.ref (ga K p.1)) (.ref (ga K p.2.1)) = some p.2.2 := by
  have := A.ex
  unfold exL at this
  exact of_decide_eq_true (List.all_eq_true.mp (ba (ba (ba (ba (ba (ba (ba (ba this).2).2).2).2).2).2).2).1 p h)
theorem All.no (A : All L tx P K mg) {p : Str × Str} (h : p ∈ L.no) : PySem.W.findIn K (.ref (ga K p.1)) p.2 = some none := by
  have := A.ex
  unfold exL at this
  exact of_decide_eq_true (List.all_eq_true.mp (ba (ba (ba (ba (ba (ba (ba (ba this).2).2).2).2).2).2).2).2 p h)
theorem All.at (A : All L tx P K mg) {i : Nat} {d : Tx} (h : tx[i]? = some d) : txAt K (He.fAd K d.at_) = d.val := by
  have e2 : (tx.map fun d => txAt K (He.fAd K d.at_))[i]? = (tx.map Tx.val)[i]? := by rw [A.tx]
  rw [List.getElem?_map, List.getElem?_map, h] at e2
  exact Option.some.inj e2
/-- a def as a text -/
def dfTx (n : Str) (st : Stmt) : Tx := ⟨(n, none), n, n, defArgs st, defBody st, defScope st⟩
def inTx0 (c : Str) (st : Stmt) : Tx := ⟨(c, some "__init__"), "__init__", iniQ c, defArgs st, defBody st, defScope st⟩
theorem All.fn (A : All L tx P K mg) {i j : Nat} {n : Str} {st : Stmt} (h : L.df[i]? = some n) (hj : tx[j]? = some (dfTx n st)) : ∃ fd, Fun K n n st (ga K n) fd := by
  obtain ⟨h1, h2⟩ := A.df h
  exact fun_of (d := dfTx n st) (A.at hj) h2 rfl rfl rfl
end
def tb3 (l : List (Str × Str × Bool)) (d c : Str) : Option Bool := match l with
  | [] => none
  | p :: r => if p.1 = c ∧ p.2.1 = d then some p.2.2 else tb3 r d c
theorem tb3_mem {d c : Str} {b : Bool} : ∀ {l : List (Str × Str × Bool)}, tb3 l d c = some b → (c, d, b) ∈ l
  | [], h => by cases h
  | p :: r, h => by
    unfold tb3 at h
    split at h
    · rename_i q
      obtain ⟨q1, q2⟩ := q
      obtain ⟨p1, p2, p3⟩ := p
      dsimp only at q1 q2 h
      subst q1 q2
      cases h
      exact List.mem_cons_self
    · exact List.mem_cons_of_mem _ (tb3_mem h)
def tv3 (l : List (Str × String × Bool)) (d : String) (c : Str) : Option Bool := match l with
  | [] => none
  | p :: r => if p.1 = c ∧ p.2.1 = d then some p.2.2 else tv3 r d c
theorem tv3_mem {d : String} {c : Str} {b : Bool} : ∀ {l : List (Str × String × Bool)}, tv3 l d c = some b → (c, d, b) ∈ l
  | [], h => by cases h
  | p :: r, h => by
    unfold tv3 at h
    split at h
    · rename_i q
      obtain ⟨q1, q2⟩ := q
      obtain ⟨p1, p2, p3⟩ := p
      dsimp only at q1 q2 h
      subst q1 q2
      cases h
      exact List.mem_cons_self
    · exact List.mem_cons_of_mem _ (tv3_mem h)
def tg3 (l : List (String × String × Bool)) (d : String) : Tg → Option Bool
  | .b c => (match l with
    | [] => none
    | p :: r => if p.1 = c ∧ p.2.1 = d then some p.2.2 else tg3 r d (.b c))
  | .o _ => none
theorem tg3_mem {d c : String} {b : Bool} : ∀ {l : List (String × String × Bool)}, tg3 l d (.b c) = some b → (c, d, b) ∈ l
  | [], h => by unfold tg3 at h; cases h
  | p :: r, h => by
    unfold tg3 at h
    dsimp only at h
    split at h
    · rename_i q
      obtain ⟨q1, q2⟩ := q
      obtain ⟨p1, p2, p3⟩ := p
      dsimp only at q1 q2 h
      subst q1 q2
      cases h
      exact List.mem_cons_self
    · exact List.mem_cons_of_mem _ (tg3_mem h)
def noB (l : List (Str × Str)) (f c : Str) : Bool := decide ((c, f) ∈ l)
def BA (fd : FuncData) (ps : List Str) : Prop := ∀ us : List Value, us.length = ps.length → bindArgs fd ⟨us, []⟩ = pure (ps.zip us)
theorem fun_ba {K : Fg} {x qual : Str} {st : Stmt} {f : Addr} {fd : FuncData} {ps : List Str} (F : Fun K x qual st f fd) (h : ∀ (kV doc pm : Value) (an : Option Addr) (cdv ct : Value) (us : List Value), us.length = ps.length → bindArgs (PySem.W.fnOf x qual (defArgs st) (defBody st) (defScope st) .none kV doc pm an cdv ct) ⟨us, []⟩ = pure (ps.zip us)) : BA fd ps := by
  obtain ⟨oc, od, kV, doc, pm, an, cdv, ct, osl, rfl, lk, hcd⟩ := F.ex
  exact h kV doc pm an cdv ct
/-- a quiet one -/
structure Pq (P : Program) (w : World) (K : Fg) (mg : Str → Option Value) (k : Nat) (n : Str) (ps : List Str) (cf : CF) : Prop where
  ex : ∃ fd, (∀ base : Heap, FnQ P w K mg base (L2N.CX P w) k (ga K n) fd ps (spF K [] (ga K) cf)) ∧ BA fd ps ∧ PySem.W.keepIn K (.ref (ga K n)) = true ∧ mg n = some (.ref (ga K n))
section
variable {X : Cx} {x : Fx} {W : WX} {L : Lst} {tx : List Tx}
theorem v_isi {e : Expr} {d : Str} {t : String} {p p2 pos : Pos} {m : M Pl} (A : All L tx X.prog X.K X.mg) (hg : Gl X "isinstance") (hm : X.mg "isinstance" = none) (hd : X.mg d = none) (hb : bootBuiltins d = some (.type t)) (hgd : Gl X d) (hdn : d ≠ "__name__") (hdd : (d == ("__debug__" : Str)) = false) (hn : nst e = true) (he : PE X e (tL X.K x W m)) :
    PE X (.Call (.Name "isinstance" p) [e, .Name d p2] [] pos) (tU X.K x W (isiM (tg3 L.bt t) m)) :=
  w_isi hg hm (.ty _) (pe_bltn (v := .ty t) hgd hd hb rfl hdn hdd) (fun g b h => by
    cases g with
    | b c => exact A.bt (tg3_mem h)
    | o c => unfold tg3 at h; cases h) (fun c b h => by unfold tg3 at h; cases h) hn rfl he
theorem v_raise (g : Gd X W) {c : Str} {fl : List Str} {e : Expr} {es : List Expr} {p pos pos' : Pos} {ma : M (List D)} (hca : x.ca = ga X.K) (T : ErS X (ga X.K c) c fl (spX (ga X.K c) fl) 1) (hr : Room 2 X.A) (nd : fl.Nodup) (hl : fl.length ≤ 1000) (hg : Gl X c) (hd : (c == ("__debug__" : Str)) = false) (hs : (e :: es).all nst = true) (ha : PA X (e :: es) (tA X.K x W ma)) :
    PS X (.Raise (some (.Call (.Name c p) (e :: es) [] pos)) none pos') (tS X.K x W (raiseM c fl ma)) := s_raise g (k := 1) hr (by rw [hca]; exact T.err) nd hg hd hs hl ha
theorem v_try {n d : Str} {i : Nat} {body suite : List Stmt} {b0 : Stmt} {np pos pos' : Pos} {mb : M Fw} {ms : Addr → Str → Flds → M Fw} (A : All L tx X.prog X.K X.mg) (hca : x.ca = ga X.K) (g : Gd X W) (hx : X.ex = []) (hs : X.stack = X.env :: X.outer) (hf : X.env.frame = some X.env.locals) (hi : X.N[i]? = some n) (hln : X.env.kindOf n = some .local) (hm : X.mg d = some (.ref (ga X.K d))) (hgd : Gl X d) (hdd : (d == ("__debug__" : Str)) = false)
    (hb : ∀ (W' : WX) (pn : List (Addr × Obj)) (xe : Value → Shared → Prop), L2N.Takes (X.tr pn xe) W' → PassesOwn (model X.prog X.w) X.A X.env xe → PSs (X.tr pn xe) body (tS X.K x W' mb))
    (hsu : ∀ (a : Addr) (oe : Obj) (pn : List (Addr × Obj)) (c : Str) (fs : Flds) (x' : Fx), GX x x' → Cau X x' a oe c fs → PSs (X.suite a ((a, oe) :: pn)) (b0 :: suite) (tS X.K x' WF (ms a c fs))) :
    PS X (.Try body [.ExceptHandler (some (.Name d np)) (some n) (b0 :: suite) pos'] [] [] pos) (tS X.K x W (tryA i (tb3 L.xt d) mb ms)) :=
  s_tryA g hx hs hf hi hln ⟨hgd, hdd, .inl hm⟩ (fun c b h => by rw [hca]; exact A.xt (tb3_mem h)) hb hsu
end
section
variable {L : Lst} {tx : List Tx} {P : Program} {K : Fg} {mg : Str → Option Value} {X : Cx}
theorem er1 (A : All L tx X.prog X.K X.mg) {j i : Nat} {c f : Str} {st : Stmt} (h : c ∈ L.er) (hj : tx[j]? = some (inTx0 c st)) {z : Str} {jj : Nat} {p0 p1 p2 p3 p4 p5 q1 q2 q3 q4 : Pos} (hb : defBody st = [supRow z jj p0 p1 p2 p3 p4 p5, stRow f q1 q2 q3 q4]) (hl : (p2.endLine == p4.line) = true) (self : ((defArgs st).posonlyargs ++ (defArgs st).args).head?.map (·.arg) = some "self") (hm : X.mg "super" = none)
    (top : (X.prog.main.scope.names.lookup ("super" : Str)).isSome = false) (ks : (defScope st).names.lookup ("super" : Str) = some .globalImplicit) (kc : (defScope st).names.lookup ("__class__" : Str) = some .free)
    (bd : ∀ (cl : List (Str × Addr)) (doc pm : Value) (an : Option Addr) (cdv ct : Value) (us : List Value), us.length = 2 → bindArgs (PySem.W.fnX "__init__" (iniQ c) (defArgs st) (supRow z jj p0 p1 p2 p3 p4 p5 :: [stRow f q1 q2 q3 q4]) (defScope st) cl .none .none doc pm an cdv ct) ⟨us, []⟩ = pure (([("self" : Str), f] : List Str).zip us)) (S : NScope ["self", f, "__class__"] ["self", f] ["__class__"] (defScope st))
    (hno : (c, f) ∈ L.no) (hd1 : (f == ("__debug__" : Str)) = false) (hd2 : (f == ("__classdict__" : Str)) = false) : ErS X (ga X.K c) c [f] (spX (ga X.K c) [f]) 1 := by
  obtain ⟨E, I⟩ := A.er h
  exact ers1 E (ini_of (ps := [f]) E (A.at hj) I rfl rfl rfl hb rfl hl self hm top ks kc bd) S (A.no hno) hd1 hd2
end
end Dn
end
section
set_option maxHeartbeats 4000000
namespace Dn
open PySem PySem.Spec PyProof.Rows L2
abbrev TB := L2.St → Hp → (Hp → Prop) → Prop
/-- what a clause does behind its tests; vs: the slots that it may forget -/
structure PB (X : Cx) (b : Sem Unit) (vs : List Nat) (tb : TB) : Prop where
  run : ∀ (pins : List (Addr × Obj)) (s : Shared) (σ : L2.St) (H : Hp) (N : Hp → Prop), L2.Inv X pins σ H s → tb σ H N →
    wpAny (model X.prog X.w) X.A b (fun _ s' => ∃ H', L2.Inv X pins (wipe σ vs) H' s' ∧ N H') (fun _ _ => False) s
theorem PB.imp {X : Cx} {b : Sem Unit} {vs : List Nat} {tb tb' : TB} (h : PB X b vs tb) (i : ∀ σ H N, tb' σ H N → tb σ H N) : PB X b vs tb' := ⟨fun pins s σ H N I q => h.run pins s σ H N I (i σ H N q)⟩
section
variable {elt t0 i0 t1 i1 t2 i2 : Expr} {ifs0 ifs1 ifs2 : List Expr} {scope : Scope} {pos : Pos}
abbrev ct2 (elt t0 i0 t1 i1 : Expr) (ifs0 ifs1 : List Expr) (scope : Scope) (pos : Pos) : Expr := .ListComp elt [⟨t0, i0, ifs0, 0⟩, ⟨t1, i1, ifs1, 0⟩] scope pos
abbrev ct3 (elt t0 i0 t1 i1 t2 i2 : Expr) (ifs0 ifs1 ifs2 : List Expr) (scope : Scope) (pos : Pos) : Expr := .ListComp elt [⟨t0, i0, ifs0, 0⟩, ⟨t1, i1, ifs1, 0⟩, ⟨t2, i2, ifs2, 0⟩] scope pos
variable {prog : Program} {w : World} {A : Around} {R : Result → Shared → Prop} {s : Shared} {it acc : Value} {env : PySem.Env}
end
end Dn
end
section
set_option maxHeartbeats 4000000
namespace Dn
open PySem PySem.Spec PyProof.Rows L2
/-- what a clause's body makes of the list so far -/
abbrev Bm := List D → M (List D)
def appB (el : M D) : Bm := fun acc => el.bind fun y => if acc.length < sizeLine then M.ret (acc ++ [y]) else M.stuck
def innT (t : D → M Unit) (c : M Bool) (b : Bm) (acc : List D) (d : D) : M (List D) := (t d).bind fun _ => c.bind fun r => if r then b acc else M.ret acc
def innL (vs : List Nat) (t : D → M Unit) (c : M Bool) (b : Bm) : List D → List D → M (List D)
  | [], acc => M.ret acc
  | d :: ds, acc => fun e s => match innT t c b acc d e s with
    | .ok acc' e' s' => innL vs t c b ds acc' (wipeE vs e') s'
    | _ => .stuck
def innB (vs : List Nat) (it : M (List D)) (t : D → M Unit) (c : M Bool) (b : Bm) : Bm := fun acc => it.bind fun xs => fun e s => innL vs t c b xs acc (wipeE vs e) s
def lcKB (vs : List Nat) (t : D → M Unit) (c : M Bool) (b : Bm) (xs : List D) : M Sl := fun e s => match innL vs t c b xs [] (wipeE vs (frzE vs e)) s with
  | .ok acc e' s' => .ok (.ow (.lst acc)) (restE (frzE vs e) vs e') s'
  | _ => .stuck
def lcBM (vs : List Nat) (it : M (List D)) (t : D → M Unit) (c : M Bool) (b : Bm) : M Sl := it.bind (lcKB vs t c b)
end Dn
end
section
set_option maxHeartbeats 4000000
namespace Dn
open PySem L2 NdefX
open He (ba ga ma)
structure Ls2 where
  l : Lst := {}
  cl : List Str := []
  na : List (Str × Str) := []
  mt : List (Str × Str) := []
  pr : List (Str × Str) := []
  cv : List (Str × Str × Int) := []
  gi : List (Str × Int) := []
  gs : List (Str × Str) := []
  nf : List (Str × Str) := []
  ko : List (Str × Str × Bool) := []
  kb : List (String × Str × Bool) := []
  lm : List Str := []
  kd : List (Str × Str × List Str) := []
  cm : List (Str × Str) := []
  ic : List (Str × Str × Int) := []
def prA (K : Fg) (c f : Str) : Addr := match PySem.W.recIn K (ma K (ga K c) f) "property" with
  | some (.ref g :: _) => g
  | _ => match PySem.W.recIn K (ma K (ga K c) f) "classmethod" with
    | some (.ref g :: _) => g
    | _ => 0
def cdA (K : Fg) (n : Str) : Addr := match K.lookup (ga K n) with
  | some ⟨_, _, .func fd, _⟩ => (match fd.code with
    | .ref c => c
    | _ => 0)
  | _ => 0
def tbA (K : Fg) (n : Str) : Addr := match K.lookup (cdA K n) with
  | some ⟨_, _, .fields vs, _⟩ => (match (vs[11]? : Option Value) with
    | some (.ref p) => p
    | _ => 0)
  | _ => 0
def mtQ (c m : Str) : Str := c ++ "." ++ m
def clsB (K : Fg) (c : Str) : Bool := (PySem.W.selfFirst K (ga K c) && PySem.W.noSeq K (ga K c)) && ((He.Fa.glo c).ok K && ((He.Fa.cls c).ok K && ((He.Fa.mkr c).ok K && (decide (PySem.W.findIn K (.ref (ga K c)) "__class__" = some (some (.builtin "object.__class__"))) && (decide (PySem.W.specialIn K (.builtin "object.__class__") "__get__" = some (some (.builtin "getset_descriptor.__get__"))) &&
  (decide (PySem.W.takesIn K (.builtin "object.__class__") = some true) && decide (PySem.W.mroIn K (ga K c) (.type "object") = some true)))))))
def propB (K : Fg) (c f : Str) : Bool := decide (PySem.W.findIn K (.ref (ga K c)) f = some (some (.ref (ma K (ga K c) f)))) && (decide (PySem.W.specialIn K (.ref (ma K (ga K c) f)) "__get__" = some (some (.builtin "property.__get__"))) && (decide (PySem.W.takesIn K (.ref (ma K (ga K c) f)) = some true) &&
  match PySem.W.recIn K (ma K (ga K c) f) "property" with
  | some (.ref _ :: _) => true
  | _ => false))
def cvB (K : Fg) (c f : Str) (i : Int) : Bool := PySem.W.readsIn K (ga K c) (.type "type") && (decide (PySem.W.specialIn K (.ref (ga K c)) "__getattribute__" = some (some (.builtin "type.__getattribute__"))) && match PySem.W.findCls K (.ref (ga K c)) (.type "type") f with
  | some (.val (.int j _)) => decide (j = i)
  | _ => false)
/-- C.__init__'s keyword-only parameter n has a tuple of texts as its default -/
def kdA (K : Fg) (c : Str) : Addr := match K.lookup (ma K (ga K c) "__init__") with
  | some ⟨_, _, .func fd, _⟩ => (match fd.kwdefaults with
    | .ref d => d
    | _ => 0)
  | _ => 0
def kdT (K : Fg) (c n : Str) : Addr := match PySem.W.nsIn K (kdA K c) n with
  | some (some (.ref t)) => t
  | _ => 0
def strsB : List Value → List Str → Bool
  | [], [] => true
  | .str s _ :: vs, t :: ts => decide (s = t) && strsB vs ts
  | _, _ => false
def isFnA (K : Fg) (a : Addr) : Bool := match K.lookup a with
  | some ⟨_, _, .func fd, _⟩ => (match fd.kwdefaults with
    | .ref _ => true
    | _ => false)
  | _ => false
def kdB (K : Fg) (p : Str × Str × List Str) : Bool := isFnA K (ma K (ga K p.1) "__init__") && ((match PySem.W.nsIn K (kdA K p.1) p.2.1 with
    | some (some (.ref _)) => true
    | _ => false) && match K.lookup (kdT K p.1 p.2.1) with
  | some ⟨.type "tuple", none, .seq its _, _⟩ => decide (its.size ≤ sizeLine) && strsB its.toList p.2.2
  | _ => false)
/-- o.f is a whole number that stands in o's class -/
def icB (K : Fg) (p : Str × Str × Int) : Bool := !PySem.W.copiedNames.contains p.2.1 && match PySem.W.findIn K (.ref (ga K p.1)) p.2.1 with
  | some (some (.int j t)) => decide (j = p.2.2) && decide (PySem.W.specialIn K (.int j t) "__get__" = some none)
  | _ => false
/-- C.m is a classmethod -/
def cmB (K : Fg) (c m : Str) : Bool := PySem.W.readsIn K (ga K c) (.type "type") && (decide (PySem.W.specialIn K (.ref (ga K c)) "__getattribute__" = some (some (.builtin "type.__getattribute__"))) && (He5.wrapB K (ga K c) "classmethod" "classmethod.__get__" m && (decide (He5.wf K (ga K c) "classmethod" m = prA K c m) && PySem.W.fnIn K (prA K c m))))
def lmB (K : Fg) (n : Str) : Bool := PySem.W.codeHdIn K (cdA K n) (tbA K n) && ((K.lookup (tbA K n)).isNone && decide (mainGlobals ≠ tbA K n))
def nodupB (l : List Addr) : Bool := decide l.Nodup
def exM (L : Ls2) (file : Str) (K : Fg) : Bool :=
  exL L.l file K && (L.cl.all (clsB K) && (L.na.all (fun p => (He.Fa.noat p.1 p.2).ok K) && (L.mt.all (fun p => (He.Fa.meth p.1 p.2).ok K && funB K (ma K (ga K p.1) p.2) (mtQ p.1 p.2)) && (L.pr.all (fun p => propB K p.1 p.2 && funB K (prA K p.1 p.2) (mtQ p.1 p.2)) &&
  (L.cv.all (fun p => cvB K p.1 p.2.1 p.2.2) && (L.gi.all (fun p => (He.Fa.int p.1 p.2).ok K) && (L.gs.all (fun p => (He.Fa.str p.1 p.2).ok K) && (L.nf.all (fun p => PySem.W.notFirst K (ga K p.1) (.ref (ga K p.2))) &&
  (L.ko.all (fun p => decide (PySem.W.kitOne K (.ref (ga K p.1)) (.ref (ga K p.2.1)) = some p.2.2)) && (L.kb.all (fun p => decide (PySem.W.kitOne K (.type p.1) (.ref (ga K p.2.1)) = some p.2.2)) && (L.lm.all (lmB K) && (nodupB (L.lm.map (tbA K)) && (L.kd.all (kdB K) && (L.cm.all (fun p => cmB K p.1 p.2 && funB K (prA K p.1 p.2) (mtQ p.1 p.2)) && L.ic.all (icB K)))))))))))))))
/-- the names of the tables -/
def tabsK (L : Ls2) (K : Fg) : List NTb := L.lm.map fun n => (tbA K n, n ++ ".<locals>." ++ "<lambda>")
structure Al2 (L : Ls2) (tx tp : List Tx) (P : Program) (K : Fg) (mg : Str → Option Value) (base : Heap) : Prop where
  a : All L.l tx P K mg
  ex : exM L P.main.file K = true
  tp : tp.map (fun d => txAt K (prA K d.at_.1 (d.at_.2.getD ""))) = tp.map Tx.val
  tb : ∀ n ∈ L.lm, LamX.TabB base mg (cdA K n) (tbA K n)
section
variable {L : Ls2} {tx tp : List Tx} {P : Program} {K : Fg} {mg : Str → Option Value} {base : Heap}
theorem Al2.cl (A : Al2 L tx tp P K mg base) {c : Str} (h : c ∈ L.cl) : mg c = some (.ref (ga K c)) ∧ Cls K (ga K c) ∧ Mk K (ga K c) (ma K (ga K c) "__init__") ∧ IsC K (ga K c) := by
  obtain ⟨hp, X, G⟩ := A.a.h
  have := A.ex
  unfold exM at this
  have q := List.all_eq_true.mp (ba (ba this).2).1 c h
  unfold clsB at q
  replace q := (ba q).2
  obtain ⟨q1, q⟩ := ba q
  obtain ⟨q2, q⟩ := ba q
  obtain ⟨q3, q⟩ := ba q
  obtain ⟨q4, q⟩ := ba q
  obtain ⟨q5, q⟩ := ba q
  obtain ⟨q6, q7⟩ := ba q
  have c2 := He.cls_ok q2
  exact ⟨He.glo_ok X G q1, c2, He.mkr_ok q3, ⟨c2, of_decide_eq_true q4, of_decide_eq_true q5, of_decide_eq_true q6, of_decide_eq_true q7⟩⟩
theorem Al2.sf (A : Al2 L tx tp P K mg base) {c : Str} (h : c ∈ L.cl) : PySem.W.selfFirst K (ga K c) = true := by
  have := A.ex
  unfold exM at this
  have q := List.all_eq_true.mp (ba (ba this).2).1 c h
  unfold clsB at q
  exact (ba (ba q).1).1
theorem Al2.sq (A : Al2 L tx tp P K mg base) {c : Str} (h : c ∈ L.cl) : PySem.W.noSeq K (ga K c) = true := by
  have := A.ex
  unfold exM at this
  have q := List.all_eq_true.mp (ba (ba this).2).1 c h
  unfold clsB at q
  exact (ba (ba q).1).2
theorem Al2.na (A : Al2 L tx tp P K mg base) {p : Str × Str} (h : p ∈ L.na) : NoAttr K (ga K p.1) p.2 := by
  have := A.ex
  unfold exM at this
  exact He.eqO_ok (List.all_eq_true.mp (ba (ba (ba this).2).2).1 p h)
theorem Al2.mt (A : Al2 L tx tp P K mg base) {p : Str × Str} (h : p ∈ L.mt) : Meth K (ga K p.1) p.2 (ma K (ga K p.1) p.2) ∧ funB K (ma K (ga K p.1) p.2) (mtQ p.1 p.2) = true := by
  have := A.ex
  unfold exM at this
  have q := ba (List.all_eq_true.mp (ba (ba (ba (ba this).2).2).2).1 p h)
  exact ⟨He.meth_ok q.1, q.2⟩
theorem Al2.pr (A : Al2 L tx tp P K mg base) {p : Str × Str} (h : p ∈ L.pr) : PropOf K (ga K p.1) p.2 (ma K (ga K p.1) p.2) (prA K p.1 p.2) ∧ funB K (prA K p.1 p.2) (mtQ p.1 p.2) = true := by
  have := A.ex
  unfold exM at this
  have q := ba (List.all_eq_true.mp (ba (ba (ba (ba (ba this).2).2).2).2).1 p h)
  refine ⟨?_, q.2⟩
  have r := q.1
  unfold propB at r
  obtain ⟨r1, r⟩ := ba r
  obtain ⟨r2, r⟩ := ba r
  obtain ⟨r3, r4⟩ := ba r
  refine ⟨of_decide_eq_true r1, of_decide_eq_true r2, of_decide_eq_true r3, ?_⟩
  split at r4
  · rename_i g rest hh
    exact ⟨rest, by unfold prA; rw [hh]⟩
  · cases r4
theorem Al2.cv (A : Al2 L tx tp P K mg base) {p : Str × Str × Int} (h : p ∈ L.cv) : ClX.CRead K (ga K p.1) (.type "type") ∧ ∃ t, ClX.CVal K (ga K p.1) (.type "type") p.2.1 (.int p.2.2) (.int p.2.2 t) := by
  have := A.ex
  unfold exM at this
  have q := List.all_eq_true.mp (ba (ba (ba (ba (ba (ba this).2).2).2).2).2).1 p h
  unfold cvB at q
  obtain ⟨r1, r⟩ := ba q
  obtain ⟨r2, r3⟩ := ba r
  refine ⟨⟨r1, of_decide_eq_true r2⟩, ?_⟩
  split at r3
  · rename_i j t hh
    rw [of_decide_eq_true r3] at hh
    exact ⟨t, hh, ⟨t, rfl⟩⟩
  · cases r3
theorem Al2.gi (A : Al2 L tx tp P K mg base) {p : Str × Int} (h : p ∈ L.gi) : ∃ t, mg p.1 = some (.int p.2 t) := by
  obtain ⟨hp, X, G⟩ := A.a.h
  have := A.ex
  unfold exM at this
  exact He.int_ok X G (List.all_eq_true.mp (ba (ba (ba (ba (ba (ba (ba this).2).2).2).2).2).2).1 p h)
theorem Al2.gs (A : Al2 L tx tp P K mg base) {p : Str × Str} (h : p ∈ L.gs) : ∃ t, mg p.1 = some (.str p.2 t) := by
  obtain ⟨hp, X, G⟩ := A.a.h
  have := A.ex
  unfold exM at this
  exact He.str_ok X G (List.all_eq_true.mp (ba (ba (ba (ba (ba (ba (ba (ba this).2).2).2).2).2).2).2).1 p h)
theorem Al2.nf (A : Al2 L tx tp P K mg base) {p : Str × Str} (h : p ∈ L.nf) : PySem.W.notFirst K (ga K p.1) (.ref (ga K p.2)) = true := by
  have := A.ex
  unfold exM at this
  exact List.all_eq_true.mp (ba (ba (ba (ba (ba (ba (ba (ba (ba this).2).2).2).2).2).2).2).2).1 p h
theorem Al2.ko (A : Al2 L tx tp P K mg base) {p : Str × Str × Bool} (h : p ∈ L.ko) : PySem.W.kitOne K (.ref (ga K p.1)) (.ref (ga K p.2.1)) = some p.2.2 := by
  have := A.ex
  unfold exM at this
  exact of_decide_eq_true (List.all_eq_true.mp (ba (ba (ba (ba (ba (ba (ba (ba (ba (ba this).2).2).2).2).2).2).2).2).2).1 p h)
theorem Al2.kb (A : Al2 L tx tp P K mg base) {p : String × Str × Bool} (h : p ∈ L.kb) : PySem.W.kitOne K (.type p.1) (.ref (ga K p.2.1)) = some p.2.2 := by
  have := A.ex
  unfold exM at this
  exact of_decide_eq_true (List.all_eq_true.mp (ba (ba (ba (ba (ba (ba (ba (ba (ba (ba (ba this).2).2).2).2).2).2).2).2).2).2).1 p h)
theorem exM_lm {file : Str} (this : exM L file K = true) : (∀ n ∈ L.lm, lmB K n = true) ∧ (L.lm.map (tbA K)).Nodup := by
  unfold exM at this
  have q := ba (ba (ba (ba (ba (ba (ba (ba (ba (ba (ba (ba this).2).2).2).2).2).2).2).2).2).2).2
  exact ⟨fun n h => List.all_eq_true.mp q.1 n h, of_decide_eq_true (ba q.2).1⟩
theorem exM_l {file : Str} (this : exM L file K = true) : exL L.l file K = true := by
  unfold exM at this
  exact (ba this).1
theorem funB_keep {f : Addr} {q : Str} (b : funB K f q = true) : PySem.W.keepIn K (.ref f) = true := by
  unfold funB at b
  exact (ba b).1
/-- the text of a method, of a property -/
def mtTx (c m : Str) (st : Stmt) : Tx := ⟨(c, some m), m, mtQ c m, defArgs st, defBody st, defScope st⟩
theorem Al2.fnT (A : Al2 L tx tp P K mg base) {i j : Nat} {n : Str} {st : Stmt} (h : L.l.df[i]? = some n) (hj : tx[j]? = some (dfTx n st)) : ∃ fd, Fun K n n st (ga K n) fd := A.a.fn h hj
theorem Al2.fnM (A : Al2 L tx tp P K mg base) {i j : Nat} {c m : Str} {st : Stmt} (h : L.mt[i]? = some (c, m)) (hj : tx[j]? = some (mtTx c m st)) : ∃ fd, Fun K m (mtQ c m) st (ma K (ga K c) m) fd :=
  fun_of (d := mtTx c m st) (A.a.at hj) (A.mt (List.mem_of_getElem? h)).2 rfl rfl rfl
end
def isTab : Option Obj → Bool
  | some ⟨.none, none, .fields vs, sl⟩ => vs.isEmpty && sl.isEmpty
  | _ => false
theorem isTab_ok {o : Option Obj} (h : isTab o = true) : o = some { cls := .none, data := .fields #[] } := by
  unfold isTab at h
  split at h
  · rename_i vs sl
    obtain ⟨h1, h2⟩ := ba h
    have e1 : vs = #[] := Array.isEmpty_iff.mp h1
    have e2 : sl = #[] := Array.isEmpty_iff.mp h2
    subst e1 e2
    rfl
  · cases h
def obsE (L : Ls2) (file : Str) (tx tp : List Tx) (g : Addr → Option Obj) (K : Fg) : AlC := (exM L file K && L.lm.all (fun m => isTab (g (tbA K m))), tx.map (fun d => txAt K (He.fAd K d.at_)) ++ tp.map (fun d => txAt K (prA K d.at_.1 (d.at_.2.getD ""))))
structure SaysE (L : Ls2) (file : Str) (tx tp : List Tx) (K : Fg) (h : Heap) : Prop where
  ex : exM L file K = true
  tx : tx.map (fun d => txAt K (He.fAd K d.at_)) = tx.map Tx.val
  tp : tp.map (fun d => txAt K (prA K d.at_.1 (d.at_.2.getD ""))) = tp.map Tx.val
  tb : ∀ m ∈ L.lm, h.get? (tbA K m) = some { cls := .none, data := .fields #[] }
structure Pf (L : Ls2) (P : Program) (w : World) (K : Fg) (mg : Str → Option Value) (base : Heap) (k : Nat) (f : Addr) (ps : List Str) (cf : CF) : Prop where
  ex : ∃ fd, FnOk P w K mg base (L2N.CX P w) k f fd ps (spF K (tabsK L K) (ga K) cf) ∧ BA fd ps
/-- an __init__: n parameters by place (beside self), ks by keyword -/
structure Pn (L : Ls2) (P : Program) (w : World) (K : Fg) (mg : Str → Option Value) (base : Heap) (k : Nat) (c : Str) (n : Nat) (ks ps : List Str) (cf : CF) : Prop where
  ex : ∃ fd, FnOk P w K mg base (L2N.CX P w) k (ma K (ga K c) "__init__") fd ps (spI K (tabsK L K) (ga K) c cf) ∧ KBn K fd ps (n + 1) ks (fun us ws => us ++ ws) (fun vs zs => vs ++ zs)
theorem kbn_of {K : Fg} {x qual : Str} {st : Stmt} {f : Addr} {fd : FuncData} {ps ks : List Str} {n : Nat} (F : Fun K x qual st f fd) (h : ∀ (kV doc pm : Value) (an : Option Addr) (cdv ct : Value) (us ws : List Value), us.length = n → ws.length = ks.length → bindArgs (PySem.W.fnOf x qual (defArgs st) (defBody st) (defScope st) .none kV doc pm an cdv ct) ⟨us, ks.zip ws⟩ = pure (ps.zip (us ++ ws))) :
    KBn K fd ps n ks (fun us ws => us ++ ws) (fun vs zs => vs ++ zs) := by
  obtain ⟨oc, od, kV, doc, pm, an, cdv, ct, osl, rfl, lk, hcd⟩ := F.ex
  exact ⟨fun s us ws _ h1 h2 => .of_eq (h kV doc pm an cdv ct us ws h1 h2), fun r1 r2 => r1.append r2⟩
theorem funD_of {K : Fg} {x qual : Str} {st : Stmt} {f : Addr} {fd : FuncData} (F : Fun K x qual st f fd) : FunD K x qual (defArgs st) (defBody st) (defScope st) [] [] f fd := by
  obtain ⟨oc, od, kV, doc, pm, an, cdv, ct, osl, e, lk, hcd⟩ := F.ex
  exact ⟨⟨oc, od, .none, kV, doc, pm, an, cdv, ct, osl, e, lk, hcd, .inl ⟨rfl, rfl⟩, .inl rfl⟩, F.kp⟩
/-- arguments by place, then by keyword -/
def filA (n m : Nat) (ds zs : List D) : Option (List D) := if ds.length = n ∧ zs.length = m then some (ds ++ zs) else none
theorem fil_all {K : Fg} {ca : Str → Addr} {n m : Nat} : Fills K ca n m (filA n m) (fun vs zs => vs ++ zs) := fun ds zs r h => by
  unfold filA at h
  split at h
  · rename_i hh
    cases h
    exact ⟨hh.1, hh.2, fun cs B a vs ws r1 r2 => ⟨vs ++ ws, rfl, r1.app r2⟩⟩
  · cases h
theorem walk_E {l : PySem.W.OpenLaw} {n k : Nat} {q : Program} {loose : List Str} {XP : (Str → Option Value) → Heap → Prop} {YP : World → Heap → Prop} {d : DefRec} {CX : World → CXT} {x : Str}
    (hn : l.most = some n) (hn2 : n ≤ sizeLine) (hdf : d.params.defaults = []) (hr : Room k callerA)
    (F : ∀ (w : World) (mg : Str → Option Value) (fa : Addr) (h : Heap), YP w h → h.Ns mainGlobals mg → mg d.name = some (.ref fa) → ∃ K : Fg, K.In h ∧ LamX.LawAtS l w K (CX w) k n x mg fa h)
    (hCX : ∀ (w : World) (H : Hp) (s : Shared) (e : Value) (s' : Shared), CX w [] H s (fun _ _ _ => False) e s' → False) :
    PySem.W.WalkO q loose XP YP l.row.toRowW d [] (fun f vs => PySem.call f vs) := by
  refine Att.attach_callB hn hdf fun w s₀ s₁ mg mb fa o pm cd doc a vs ns G Y ho hd hcd hmg hobj hints hlen hbits hg => ?_
  obtain ⟨K, KX, fd, cs, sp, hT, nT, C, hb, hsp, hF⟩ := F w mg fa _ Y G.T.g hmg
  exact LamX.law_callTs KX G.T.g G.T.b G.T.builtins G.T.nolimit hg hT nT C G.T.bmain hobj hints (Nat.le_trans hlen hn2) hr hF hb (fun H hH hS => hsp H a ns hlen hbits hH hS) fun H e s' => hCX w H s₁ e s'
/-- from what the Hook says and the law's promise -/
theorem lawAt {L : Ls2} {tx tp : List Tx} {l : PySem.W.OpenLaw} {w : World} {K : Fg} {k n : Nat} {x : Str} {mg : Str → Option Value} {fa : Addr} {h : Heap} {i : Nat} {cf : CF} (KX : K.In h) (G : h.Ns mainGlobals mg) (c : SaysE L l.prog.main.file tx tp K h) (hi : L.l.df[i]? = some "law") (hmg : mg ("law" : PySem.Str) = some (.ref fa))
    (ok : ∀ base : Heap, Al2 L tx tp l.prog K mg base → Pf L l.prog w K mg base k (ga K "law") [x] cf) (hl : ∀ ns : List Int, ns.length ≤ n → (∀ z ∈ ns, Builtin.Int.intBits z ≤ 1048576) → ∃ S, cf [.scr ns] [] = .ok (.fz (.bl true)) [] S)
    (hb0 : ∃ fd, (∀ us : List Value, us.length = 1 → bindArgs fd ⟨us, []⟩ = pure (([x] : List Str).zip us)) ∧ ∀ base : Heap, Al2 L tx tp l.prog K mg base → FnOk l.prog w K mg base (L2N.CX l.prog w) k (ga K "law") fd [x] (spF K (tabsK L K) (ga K) cf)) :
    LamX.LawAtS l w K (L2N.CX l.prog w) k n x mg fa h := by
  have A0 : All L.l tx l.prog K mg := ⟨exM_l c.ex, c.tx, h, KX, G⟩
  have hm := (A0.df hi).1
  rw [hmg] at hm
  cases hm
  obtain ⟨hl1, hl2⟩ := exM_lm c.ex
  obtain ⟨fd, hb, hF⟩ := hb0
  refine ⟨fd, L.lm.map fun m => (cdA K m, tbA K m), spF K (tabsK L K) (ga K) cf, fun p hp => ?_, fun p hp => ?_, fun p hp => ?_, fun s u => .of_eq (hb [u] rfl), fun H a ns hlen hbits hT hS => ?_, fun base hK hN hTB => ?_⟩
  · obtain ⟨m, hm, rfl⟩ := List.mem_map.mp hp
    exact c.tb m hm
  · obtain ⟨m, hm, rfl⟩ := List.mem_map.mp hp
    have := hl1 m hm
    unfold lmB at this
    exact Option.isNone_iff_eq_none.mp (ba (ba this).2).1
  · obtain ⟨m, hm, rfl⟩ := List.mem_map.mp hp
    have := hl1 m hm
    unfold lmB at this
    exact PySem.W.codeHd_of_K KX (ba this).1
  · obtain ⟨S, hS2⟩ := hl ns hlen hbits
    refine ⟨[.scr ns], [], [], H, ⟨[], ⟨Gr.refl (Sme.refl _), fun q hq => ?_, .nil, .nil, by simp, Pre.refl _, fun p hp => (nomatch hp), fun p hp => (nomatch hp)⟩⟩, .cons (.scr hS) .nil, ?_⟩
    · obtain ⟨m, hm, rfl⟩ := List.mem_map.mp hq
      exact LamX.TabS.nil (hT _ (List.mem_map.mpr ⟨m, hm, rfl⟩))
    · rw [hS2]
      intro cs' B1 sb pr u H1 sx
      have r := sx.rp
      cases r
      rfl
  · exact hF base ⟨A0, c.ex, c.tp, fun m hm => hTB _ (List.mem_map.mpr ⟨m, hm, rfl⟩)⟩
end Dn
end
section
set_option maxHeartbeats 4000000
namespace Dn
open PySem L2 NdefX
open He (ba ga ma)
section
variable {X : Cx} {x : Fx} {W : WX} {L : Ls2} {tx tp : List Tx} {k n i : Nat} {ps ks : List Str} {cf : CF} {f c m : Str} {p pos apos : Pos} {e o : Expr} {es : List Expr} {kws : List Keyword} {ma' mk : M (List D)}
theorem u_call {nm : Str} (A : Al2 L tx tp X.prog X.K X.mg X.base) (hi : L.l.df[i]? = some nm) (hT : x.T = tabsK L X.K) (hca : x.ca = ga X.K) (oc : okC cf) (F : Pf L X.prog X.w X.K X.mg X.base k (ga X.K nm) ps cf) (hr : Room k X.A) (hg : Gl X nm) (tk : L2N.Takes X W) (hd : (nm == ("__debug__" : Str)) = false) (hs : (e :: es).all nst = true) (ha : PA X (e :: es) (tA X.K x W ma')) : PE X (.Call (.Name nm p) (e :: es) [] pos) (tU X.K x W (callM cf ma')) := by
  obtain ⟨fd, h1, h2⟩ := F.ex
  obtain ⟨h3, h4⟩ := A.a.df hi
  exact pe_callM hT hca oc h1 hr hg h3 (funB_keep h4) (.all h2) tk hd hs ha
/-- C(e, ..) -/
theorem u_make {m' : Nat} (A : Al2 L tx tp X.prog X.K X.mg X.base) (g : Gd X W) (hi : L.cl[i]? = some c) (hT : x.T = tabsK L X.K) (hca : x.ca = ga X.K) (oc : okC cf) (F : Pn L X.prog X.w X.K X.mg X.base k c n ks ps cf) (hr : Room (k + 1) X.A) (hg : Gl X c) (ha : PA X (e :: es) (tA X.K x W ma')) (hkw : PK X kws (tA X.K x W mk)) (hs : (e :: es).all nst = true) (hall : (backToKw pos (keywordEach kws X.env)).all (·.1.isSome) = true) (hks : (backToKw pos (keywordEach kws X.env)).filterMap (·.1) = ks) (hdb : (c == ("__debug__" : Str)) = false) (hm' : ks.length = m') (hpl : ((backTo pos (starEach (e :: es) X.env)).any (·.1) || (backToKw pos (keywordEach kws X.env)).any (·.1.isNone)) = false) : PE X (.Call (.Name c p) (e :: es) kws pos) (tU X.K x W (makeM cf ma' mk (filA n m'))) := by
  subst hm'
  obtain ⟨fd, h1, h2⟩ := F.ex
  obtain ⟨h3, h4, h5, h6⟩ := A.cl (List.mem_of_getElem? hi)
  exact w_make g hT hca h5 oc h1 hr hg h3 h2 fil_all ha hkw hs hall hks hdb hpl
/-- o.f, a field -/
def naB (L : Ls2) (c f : Str) : Bool := decide ((c, f) ∈ L.na)
theorem Al2.ck {P : Program} {K : Fg} {mg : Str → Option Value} {base : Heap} (A : Al2 L tx tp P K mg base) (h : ∀ p ∈ L.na, p.1 ∈ L.cl) : ClsOk K (ga K) (naB L) := ⟨fun c f h1 => by
  have hm : (c, f) ∈ L.na := of_decide_eq_true h1
  exact ⟨(A.cl (h _ hm)).2.1, A.na hm⟩⟩
theorem u_fld {mo : M Pl} (A : Al2 L tx tp X.prog X.K X.mg X.base) (hn : ∀ p ∈ L.na, p.1 ∈ L.cl) (hca : x.ca = ga X.K) (ho : PE X o (tL X.K x W mo)) (hb : attributeBase o f X.env (eval o X.env) = eval o X.env) : PE X (.Attribute o f pos) (tU X.K x W (un1 (fldD (naB L) f) mo)) := pe_fldM (A.ck hn) hca ho hb
theorem u_setf {value : Expr} {pos' : Pos} {mo : M Pl} {mv : M D} (A : Al2 L tx tp X.prog X.K X.mg X.base) (hn : ∀ p ∈ L.na, p.1 ∈ L.cl) (hca : x.ca = ga X.K) (ho : PE X o (tL X.K x W mo)) (hv : PE X value (tV X.K x W mv)) (hs : swapsWith value (some (.Attribute o f pos')) pos.line X.env = pure false) : PS X (.Assign [.Attribute o f pos'] value pos) (tS X.K x W (setFld (naB L) f mo mv)) := ps_fldM (A.ck hn) hca ho hv hs
/-- C.f, a constant -/
theorem u_cval {v : Int} {j : Nat} (A : Al2 L tx tp X.prog X.K X.mg X.base) (hi : L.cl[i]? = some c) (hj : L.cv[j]? = some (c, f, v)) (hg : Gl X c) (hb : attributeBase (.Name c p) f X.env (eval (.Name c p) X.env) = eval (.Name c p) X.env) (hd : (c == ("__debug__" : Str)) = false) : PE X (.Attribute (.Name c p) f pos) (tU X.K x W (cI v)) := by
  obtain ⟨h1, h2⟩ := A.cv (List.mem_of_getElem? hj)
  exact w_cval hg (A.cl (List.mem_of_getElem? hi)).1 h1 h2 hb hd
theorem u_gs {v : Str} (A : Al2 L tx tp X.prog X.K X.mg X.base) (hi : L.gs[i]? = some (f, v)) (hg : Gl X f) (hd : (f == ("__debug__" : Str)) = false) : PE X (.Name f pos) (tU X.K x W (cS v)) := w_gs hg (A.gs (List.mem_of_getElem? hi)) hd
/-- one class -/
def oneC (c : Str) (cf : CF) (d : Str) : Option CF := if d = c then some cf else none
theorem oneC_all {P : Str → CF → Prop} (h : P c cf) : ∀ d cf', oneC c cf d = some cf' → P d cf' := fun d cf' e => by
  unfold oneC at e
  split at e
  · rename_i h1; subst h1; cases e; exact h
  · cases e
def unOM (cfs : Str → Option CF) (mo : M D) : M Sl := mo.bind fun d => fun e s => match cont s d with
  | some (.obj c _) => match cfs c with
    | some cf => match cf [d] s with
      | .ok r _ s' => .ok r e s'
      | _ => .stuck
    | none => .stuck
  | _ => .stuck
def nfB (L : Ls2) (c d : Str) : Bool := decide ((c, d) ∈ L.nf)
theorem opOk (A : Al2 L tx tp X.prog X.K X.mg X.base) {j : Nat} (hj : L.mt[j]? = some (c, m)) (oc : okC cf) (F : Pf L X.prog X.w X.K X.mg X.base k (ma X.K (ga X.K c) m) ps cf) : OpOk X (tabsK L X.K) (ga X.K) k m c cf := by
  obtain ⟨fd, h1, h2⟩ := F.ex
  obtain ⟨hm, _⟩ := A.mt (List.mem_of_getElem? hj)
  exact ⟨oc, _, fd, ps, hm.at_, hm.fn, h1, .all h2⟩
theorem ut_eqO {j : Nat} {b : Expr} {mA mB : M D} (A : Al2 L tx tp X.prog X.K X.mg X.base) (hj : L.mt[j]? = some (c, ("__eq__" : Str))) (hT : x.T = tabsK L X.K) (hca : x.ca = ga X.K) (oc : okC cf) (F : Pf L X.prog X.w X.K X.mg X.base k (ma X.K (ga X.K c) "__eq__") ps cf) (hr : Room k X.A) (ha : PE X e (tV X.K x W mA)) (hb : PE X b (tV X.K x W mB)) (hm : behindInMarks .Eq b = false) :
    PT X (.Compare e [.Eq] [b] pos) (tT X.K x W ((opOM (oneC c cf) (nfB L) mA mB).bind bool1)) := wt_cmpO (op := .Eq) (fun _ _ => rfl) hT hca hr (fun c c' h => A.nf (of_decide_eq_true h)) (oneC_all (opOk A hj oc F)) ha hb hm
def koT (L : Ls2) (d : Str) : Tg → Option Bool
  | .b t => tv3' L.kb d t
  | .o c => tb3 L.ko d c
where tv3' (l : List (String × Str × Bool)) (d : Str) (c : String) : Option Bool := match l with
  | [] => none
  | p :: r => if p.1 = c ∧ p.2.1 = d then some p.2.2 else tv3' r d c
theorem tv3'_mem {d : Str} {c : String} {b : Bool} : ∀ {l : List (String × Str × Bool)}, koT.tv3' l d c = some b → (c, d, b) ∈ l
  | [], h => by cases h
  | p :: r, h => by
    unfold koT.tv3' at h
    split at h
    · rename_i q
      obtain ⟨q1, q2⟩ := q
      obtain ⟨p1, p2, p3⟩ := p
      dsimp only at q1 q2 h
      subst q1 q2
      cases h
      exact List.mem_cons_self
    · exact List.mem_cons_of_mem _ (tv3'_mem h)
theorem u_iso {d : Str} {p2 : Pos} {mo : M Pl} (A : Al2 L tx tp X.prog X.K X.mg X.base) (hca : x.ca = ga X.K) (hg : Gl X "isinstance") (hm : X.mg "isinstance" = none) (hi : L.cl[i]? = some d) (hgd : Gl X d) (hdd : (d == ("__debug__" : Str)) = false) (hko : ∀ p ∈ L.ko, p.1 ∈ L.cl) (hn : nst e = true) (he : PE X e (tL X.K x W mo)) :
    PE X (.Call (.Name "isinstance" p) [e, .Name d p2] [] pos) (tU X.K x W (isiM (koT L d) mo)) :=
  w_isi hg hm (.own _) (pe_glob (v := .ref (ga X.K d)) hgd (A.cl (List.mem_of_getElem? hi)).1 rfl hdd) (fun t b h => by
    cases t with
    | b s => exact A.kb (tv3'_mem h)
    | o c => rw [hca]; exact A.ko (tb3_mem h)) (fun c b h => by rw [hca]; exact (A.cl (hko _ (tb3_mem h))).2.2.2) hn rfl he
end
end Dn
end
section
set_option maxHeartbeats 4000000
namespace Dn
open PySem PySem.Spec PyProof.Rows L2 NdefX
open PySem.W (alike AllAlike Sortable EachIs dataLe readsAll_each sorted_data)
open He (ba ga ma)
section
variable {P : Program} {w : World} {K : Fg} {mg : Str → Option Value} {base : Heap} {T : List NTb} {ca : Str → Addr}
theorem def_okL {n qual : Str} {st : Stmt} {fd : FuncData} {N ps : List Str} {k np : Nat} {m : M Fw} (hps : ps.length = np) (F : Fun K n qual st (ga K n) fd) (S : FnScope N ps (defScope st))
    (hb : ∀ (X : Cx) (E : XK) (x : Fx) (cdv : Value) (A : Around) (outer : List PySem.Env) (s : Shared) (H : Hp), cdv = .ref (cdA K n) → X = cxOf (L2N.CX P w) P w K mg base N qual (defScope st) (ga K n) cdv A outer s H E → x.T = T → x.ca = ca → Bd X (WQ E) k → PSs X (defBody st) (tS X.K x (WQ E) m)) :
    FnOk P w K mg base (L2N.CX P w) (k + 1) (ga K n) fd ps (spF K T ca (bodyC np N m)) := by
  obtain ⟨oc, od, kV, doc, pm, an, cdv, ct, osl, e, lk, hcd⟩ := F.ex
  have hcd' : cdv = .ref (cdA K n) := by
    unfold cdA
    rw [lk, e]
    unfold PySem.W.codeIn at hcd
    cases cdv <;> first | rfl | cases hcd
  subst e
  refine fn_of lk hcd S (fun vs H Q E h => by rw [sp_len h, hps]) fun A outer s H vs Q E hr hsp => ?_
  obtain ⟨x, h1, h2, h3⟩ := body_ok (X := cxOf (L2N.CX P w) P w K mg base N qual (defScope st) (ga K n) cdv A outer s H E) hsp
  refine ⟨_, hb _ E x cdv A outer s H hcd' rfl h1 h2 ⟨⟨⟨?_, S.nd⟩, rfl, L2N.takes_of rfl rfl rfl rfl⟩, passes_of rfl, hr⟩, h3⟩
  have := hr.un
  show (A.deeper _).units + 65 < cLine
  omega
end
section
variable {X : Cx} {x : Fx} {W : WX} {L : Ls2} {tx tp : List Tx}
def lamB (sc scope : Scope) : Bool := scope.names.all fun y => !(decide (y.2 = .free)) || (decide (sc.names.lookup y.1 = some .cell) || decide (sc.names.lookup y.1 = some .free))
theorem lam_of {sc scope : Scope} (h : lamB sc scope = true) : ∀ y ∈ scope.names, y.2 = .free → sc.names.lookup y.1 = some .cell ∨ sc.names.lookup y.1 = some .free := fun y hy e => by
  have := List.all_eq_true.mp h y hy
  rw [e] at this
  simpa using this
theorem u_srt {i : Nat} {nm : Str} {e : Expr} {params : Arguments} {body : Expr} {scope : Scope} {p pos lpos kpos : Pos} {NL fr : List Str} {pn : Str} {js : List Nat} {k : Nat} {ma kb : M D} (A : Al2 L tx tp X.prog X.K X.mg X.base) (hi : L.lm[i]? = some nm) (hxT : x.T = tabsK L X.K) (hg : Gl X "sorted") (hm : X.mg "sorted" = none) (ha : PE X e (tV X.K x W ma)) (hn : nst e = true) (hcode : X.env.code = .ref (cdA X.K nm)) (hq : X.env.qual = nm ++ ".<locals>.") (hdef : defaultsOf params X.env = ([], [])) (S : NScope NL [pn] fr scope) (hfree : lamB X.env.scope scope = true) (hfr : ∀ y ∈ fr, (y, NameKind.free) ∈ scope.names) (hjs : js.map (fun j => X.N[j]?) = fr.map some) (hr : Room (k + 3) X.A) (hb : ∀ (pm ctv : Value) (cn : Addr) (cl : List (Str × Addr)) (u : Value), bindArgs (PySem.W.kla_fn "<lambda>" (X.env.qual ++ "<lambda>") params body scope cl pm (.ref cn) ctv) ⟨[u], []⟩ = pure [(pn, u)]) (hbody : ∀ (f cn : Addr) (cl : List (Str × Addr)) (A : Around) (outer : List PySem.Env) (s : Shared) (H : Hp) (E : XK) (x' : Fx), GX x x' → Room k (A.deeper (envF ⟨"<lambda>", X.env.qual ++ "<lambda>", params, [], scope, cl, cn⟩ f s.heap.objs.size)) →
      PE (ncx CX0 X.prog X.w X.K X.mg X.base NL ⟨"<lambda>", X.env.qual ++ "<lambda>", params, [], scope, cl, cn⟩ f A outer s H E) body (tV X.K x' WF kb)) :
    PE X (.Call (.Name "sorted" p) [e] [⟨some "key", .Lambda params body scope lpos, kpos⟩] pos) (tU X.K x W (srtM js NL.length ma kb)) := by
  have hmem := List.mem_of_getElem? hi
  have hnd := (exM_lm A.ex).2
  refine w_srt hxT hg hm ha hn (A.tb nm hmem) hcode ?_ ?_ hdef S (lam_of hfree) hfr hjs hr hb hbody
  · rw [hq]
    exact List.mem_map.mpr ⟨nm, hmem, rfl⟩
  · intro q hq' e
    obtain ⟨m, hm', rfl⟩ := List.mem_map.mp hq'
    have : m = nm := by
      obtain ⟨i1, h1, e1⟩ := List.getElem_of_mem hm'
      obtain ⟨i2, h2, e2⟩ := List.getElem_of_mem hmem
      have hh : i1 = i2 := (List.getElem_inj (h₀ := by simpa using h1) (h₁ := by simpa using h2) hnd).mp (by simp only [List.getElem_map, e1, e2]; exact e)
      subst hh
      rw [← e1, ← e2]
    subst this
    rw [hq]
end
abbrev KD := List (Key × D)
def dcPut (acc : KD) (k v : D) : M KD := fun e s => match keyD k with
  | some k => if acc.length < sizeLine then .ok (putD acc k v) e s else .stuck
  | none => .stuck
def dcStep (t : D → M Unit) (c : M Bool) (kx vx : M D) (acc : KD) (d : D) : M KD := (t d).bind fun _ => c.bind fun b => if b then kx.bind fun k => vx.bind fun v => dcPut acc k v else M.ret acc
def dcL (vs : List Nat) (t : D → M Unit) (c : M Bool) (kx vx : M D) : List D → KD → M KD
  | [], acc => M.ret acc
  | d :: ds, acc => fun e s => match dcStep t c kx vx acc d e s with
    | .ok acc' e' s' => dcL vs t c kx vx ds acc' (wipeE vs e') s'
    | _ => .stuck
def dcK (vs : List Nat) (t : D → M Unit) (c : M Bool) (kx vx : M D) (xs : List D) : M Sl := fun e s => match dcL vs t c kx vx xs [] (wipeE vs (frzE vs e)) s with
  | .ok acc e' s' => .ok (.ow (.dcK acc)) (restE (frzE vs e) vs e') s'
  | _ => .stuck
def dcM (vs : List Nat) (it : M (List D)) (t : D → M Unit) (c : M Bool) (kx vx : M D) : M Sl := it.bind (dcK vs t c kx vx)
end Dn
end
section
set_option maxHeartbeats 4000000
namespace Dn
open PySem PySem.Spec PyProof.Rows L2 NdefX
end Dn
end
section
set_option maxHeartbeats 4000000
namespace Dn
open PySem L2 NdefX
open He (ba ga ma)
def ngB (neg b : Bool) : Bool := if neg then !b else b
/-- v in o -/
def inOM (neg : Bool) (cfs : Str → Option CF) (ma mb : M D) : M Sl := ma.bind fun a => mb.bind fun b => fun e s => match cont s b with
  | some (.obj c _) => match cfs c with
    | some cf => match cf [b, a] s with
      | .ok (.fz (.bl r)) _ s' => .ok (.fz (.bl (ngB neg r))) e s'
      | _ => .stuck
    | none => .stuck
  | _ => .stuck
end Dn
end
section
set_option maxHeartbeats 4000000
namespace Dn
open PySem L2 NdefX
open He (ba ga ma)
/-- len(o) -/
def lenOM (cfs : Str → Option CF) (ma : M (List D)) : M Sl := ma.bind fun ds => fun e s => match ds with
  | [d] => match cont s d with
    | some (.obj c _) => match cfs c with
      | some cf => match cf [d] s with
        | .ok (.fz (.int n)) _ s' => if 0 ≤ n ∧ n < 2 ^ 63 then .ok (.fz (.int n)) e s' else .stuck
        | _ => .stuck
      | none => .stuck
    | _ => .stuck
  | _ => .stuck
end Dn
end
section
set_option maxHeartbeats 4000000
namespace Dn
open PySem L2 NdefX
open He (ba ga ma)
section
variable {X : Cx} {x : Fx} {W : WX} {L : Lst} {tx : List Tx} {a : Addr} {oe : Obj} {pn : List (Addr × Obj)} {c : Str} {fs : Flds} {i : Nat} {n f d : Str} {p p2 p3 pos : Pos}
theorem v_xf (A : All L tx X.prog X.K X.mg) (hca : x.ca = ga X.K) (her : ∀ p ∈ L.no, p.1 ∈ L.er) (T : Cau X x a oe c fs) (hi : X.N[i]? = some n) (hv : Vis X.env.scope n) (hd : (n == ("__debug__" : Str)) = false) (hd2 : (n == ("__classdict__" : Str)) = false) (hb : attributeBase (.Name n p) f X.env (eval (.Name n p) X.env) = eval (.Name n p) X.env) :
    PE (X.suite a ((a, oe) :: pn)) (.Attribute (.Name n p) f pos) (tU X.K x W (xfM a fs (noB L.no f c) i f)) :=
  w_xf T (fun h => by
    rw [hca]
    have m : (c, f) ∈ L.no := of_decide_eq_true h
    exact ⟨(A.er (her _ m)).1.xf, A.no m⟩) hi hv hd hd2 hb
theorem v_xi (A : All L tx X.prog X.K X.mg) (hca : x.ca = ga X.K) (her : ∀ p ∈ L.kt, p.1 ∈ L.er) (T : Cau X x a oe c fs) (hg : Gl X "isinstance") (hm : X.mg "isinstance" = none) (hdm : X.mg d = some (.ref (ga X.K d))) (hgd : Gl X d) (hdd : (d == ("__debug__" : Str)) = false) (hi : X.N[i]? = some n) (hv : Vis X.env.scope n) (hd : (n == ("__debug__" : Str)) = false) (hd2 : (n == ("__classdict__" : Str)) = false) :
    PE (X.suite a ((a, oe) :: pn)) (.Call (.Name "isinstance" p) [.Name n p2, .Name d p3] [] pos) (tU X.K x W (xiM a (tb3 L.kt d c) i)) :=
  w_xi T hg hm (.own _) (pe_glob (X := X.suite a []) (v := .ref (ga X.K d)) hgd hdm rfl hdd) (fun b h => by rw [hca]; exact ⟨(A.er (her _ (tb3_mem h))).1.exc, A.kt (tb3_mem h)⟩) rfl hi hv hd hd2
end
end Dn
end
section
set_option maxHeartbeats 200000
namespace Dn
open PySem L2
end Dn
end
section
set_option maxHeartbeats 200000
namespace Dn
open PySem L2
end Dn
end
section
set_option maxHeartbeats 200000
namespace Dn
open PySem L2
def fzSl : Sl → Sl
  | .ow d => .fz d
  | r => r
def setZ (i : Nat) (r : Sl) : M Fw := fun e s => .ok .nx (e.set i (fzSl r)) s
def asgZ (i : Nat) (m : M Sl) : M Fw := m.bind (setZ i)
section
variable {K : Fg} {x : Fx} {W : WX} {X : Cx} {st : Stmt}
theorem tS_asgZ {i : Nat} {m : M Sl} {D : Ends} {σ : L2.St} {H : Hp} (h : tS K x W (asgZ i m) D σ H) : tS K x W (asgN i m) D σ H := by
  obtain ⟨env, s0, cs, B, hs, ho⟩ := h
  refine ⟨env, s0, cs, B, hs, ?_⟩
  unfold asgZ M.bind at ho
  unfold asgN M.bind
  cases hm : m env s0 with
  | stuck => rw [hm] at ho; exact ho
  | exn c f e s => rw [hm] at ho; exact ho
  | ok r e s =>
    rw [hm] at ho
    cases r with
    | ow d =>
      have ho : outS K x W cs B (.ok Fw.nx (e.set i (.fz d)) s) (qS K x D) := ho
      show outS K x W cs B (.ok Fw.nx (e.set i (.ow d)) s) (qS K x D)
      intro cs' B' sb pr σ2 H2 sx
      by_cases hi : i < e.length
      · obtain ⟨B2, s2, sx2⟩ := sx.frz (i := i) (d := d) (by rw [List.getElem?_set_self hi])
        rw [List.set_set] at sx2
        exact ho cs' B2 (sb.trans s2) pr σ2 H2 sx2
      · have e1 : ∀ z, e.set i z = e := fun z => List.set_eq_of_length_le (by omega)
        rw [e1] at ho sx
        exact ho cs' B' sb pr σ2 H2 sx
    | _ => exact ho
theorem PS.asgZ {i : Nat} {m : M Sl} (h : PS X st (tS K x W (asgN i m))) : PS X st (tS K x W (asgZ i m)) := PS.imp h fun _ _ _ q => tS_asgZ q
end
end Dn
end
section
set_option maxHeartbeats 200000
namespace Dn
open PySem L2
end Dn
end
section
set_option maxHeartbeats 200000
namespace Dn
open PySem L2
end Dn
end
section
set_option maxHeartbeats 4000000
namespace Dn
open PySem L2 NdefX
open He (ga) in
theorem v_xv {L : Lst} {tx : List Tx} {X : Cx} {x : Fx} {W : WX} {a : Addr} {oe : Obj} {pn : List (Addr × Obj)} {c : Str} {fs : Flds} {i : Nat} {n d : Str} {t : String} {p p2 p3 pos : Pos} (A : All L tx X.prog X.K X.mg) (hca : x.ca = ga X.K) (her : ∀ p ∈ L.vt, p.1 ∈ L.er) (T : Cau X x a oe c fs) (hg : Gl X "isinstance") (hm : X.mg "isinstance" = none) (hdm : X.mg d = none) (hb : bootBuiltins d = some (.type t)) (hgd : Gl X d) (hdn : d ≠ "__name__") (hdd : (d == ("__debug__" : Str)) = false) (hi : X.N[i]? = some n) (hv : Vis X.env.scope n) (hd : (n == ("__debug__" : Str)) = false) (hd2 : (n == ("__classdict__" : Str)) = false) :
    PE (X.suite a ((a, oe) :: pn)) (.Call (.Name "isinstance" p) [.Name n p2, .Name d p3] [] pos) (tU X.K x W (xiM a (tv3 L.vt t c) i)) :=
  w_xi T hg hm (.ty _) (pe_bltn (X := X.suite a []) (v := .ty t) hgd hdm hb rfl hdn hdd) (fun b h => by rw [hca]; exact ⟨(A.er (her _ (tv3_mem h))).1.exc, A.vt (tv3_mem h)⟩) rfl hi hv hd hd2
end Dn
end
section
set_option maxHeartbeats 200000
namespace Dn
open PySem L2
end Dn
end
section
set_option maxHeartbeats 4000000
namespace Dn
open PySem L2
end Dn
end
section
set_option maxHeartbeats 4000000
namespace Dn
open PySem PySem.Spec PyProof.Rows L2
end Dn
end
section
set_option maxHeartbeats 4000000
namespace Dn
open PySem L2 NdefX
open He (ba ga ma)
end Dn
end
section
set_option maxHeartbeats 4000000
namespace Dn
open PySem L2 NdefX
open He (ba ga ma)
section
variable {L : Ls2} {tx tp : List Tx} {P : Program} {K : Fg} {mg : Str → Option Value} {base : Heap}
theorem strs_vals : ∀ {ts : List Str} {vs : List Value}, strsB vs ts = true → Vals (ts.map V.str) vs
  | [], [], _ => .nil
  | [], v :: vs, h => by cases v <;> (unfold strsB at h; cases h)
  | t :: ts, [], h => by unfold strsB at h; cases h
  | t :: ts, v :: vs, h => by
    cases v with
    | str s tk =>
      unfold strsB at h
      obtain ⟨h1, h2⟩ := ba h
      have := of_decide_eq_true h1
      subst this
      exact .cons ⟨tk, rfl⟩ (strs_vals h2)
    | _ => unfold strsB at h; cases h
structure KdOk (K : Fg) (c n : Str) (ts : List Str) : Prop where
  fn : ∀ (oc : Value) (od : Option Addr) (fd : FuncData) (osl : Array (Option Value)), K.lookup (ma K (ga K c) "__init__") = some ⟨oc, od, .func fd, osl⟩ → fd.kwdefaults = .ref (kdA K c)
  at_ : PySem.W.nsIn K (kdA K c) n = some (some (.ref (kdT K c n)))
  nd : ∀ H : Hp, NdT K H (kdT K c n) (ts.map V.str)
theorem kdB_ok {p : Str × Str × List Str} (h : kdB K p = true) : KdOk K p.1 p.2.1 p.2.2 := by
  obtain ⟨h1, h⟩ := ba h
  obtain ⟨h2, h3⟩ := ba h
  refine ⟨fun oc od fd osl e => ?_, ?_, fun H => .inr ?_⟩
  · unfold isFnA at h1
    rw [e] at h1
    dsimp only at h1
    unfold kdA
    rw [e]
    dsimp only
    cases hk : fd.kwdefaults with
    | ref d => rfl
    | _ => rw [hk] at h1; cases h1
  · unfold kdT
    split at h2
    · rename_i t e
      rw [e]
    · cases h2
  · split at h3
    · rename_i its n sl e
      obtain ⟨k1, k2⟩ := ba h3
      exact ⟨_, its, n, e, rfl, rfl, rfl, of_decide_eq_true k1, strs_vals k2⟩
    · cases h3
theorem exM_kd {file : Str} (this : exM L file K = true) : L.kd.all (kdB K) = true ∧ L.cm.all (fun p => cmB K p.1 p.2 && funB K (prA K p.1 p.2) (mtQ p.1 p.2)) = true ∧ L.ic.all (icB K) = true := by
  unfold exM at this
  have q := ba (ba (ba (ba (ba (ba (ba (ba (ba (ba (ba (ba this).2).2).2).2).2).2).2).2).2).2).2
  exact ⟨(ba (ba q.2).2).1, ba (ba (ba q.2).2).2⟩
theorem Al2.kd (A : Al2 L tx tp P K mg base) {p : Str × Str × List Str} (h : p ∈ L.kd) : KdOk K p.1 p.2.1 p.2.2 := kdB_ok (List.all_eq_true.mp (exM_kd A.ex).1 p h)
theorem Al2.cm (A : Al2 L tx tp P K mg base) {p : Str × Str} (h : p ∈ L.cm) : ClX.CRead K (ga K p.1) (.type "type") ∧ ClX.CMet K (ga K p.1) (.type "type") p.2 (ma K (ga K p.1) p.2) (prA K p.1 p.2) ∧ funB K (prA K p.1 p.2) (mtQ p.1 p.2) = true := by
  obtain ⟨q, q2⟩ := ba (List.all_eq_true.mp (exM_kd A.ex).2.1 p h)
  unfold cmB at q
  obtain ⟨q1, q⟩ := ba q
  obtain ⟨q3, q⟩ := ba q
  obtain ⟨q4, q⟩ := ba q
  obtain ⟨q5, q6⟩ := ba q
  obtain ⟨w1, rest, w2⟩ := He5.wrapB_ok q4
  rw [of_decide_eq_true q5] at w2
  exact ⟨⟨q1, of_decide_eq_true q3⟩, ⟨w1, ⟨rest, w2⟩, q6⟩, q2⟩
end
end Dn
end
section
set_option maxHeartbeats 4000000
namespace Dn
open PySem L2 NdefX
open He (ba ga ma)
section
variable {X : Cx} {x : Fx} {W : WX} {L : Ls2} {tx tp : List Tx} {c f : Str} {pos : Pos} {o : Expr} {j i : Nat}
theorem Al2.ic {P : Program} {K : Fg} {mg : Str → Option Value} {base : Heap} (A : Al2 L tx tp P K mg base) {p : Str × Str × Int} (h : p ∈ L.ic) : ∃ t, Con K (ga K p.1) p.2.1 (.int p.2.2) (.int p.2.2 t) := by
  have q := List.all_eq_true.mp (exM_kd A.ex).2.2 p h
  unfold icB at q
  obtain ⟨q1, q2⟩ := ba q
  split at q2
  · rename_i j t e
    obtain ⟨q3, q4⟩ := ba q2
    have q3 := of_decide_eq_true q3
    subst q3
    exact ⟨t, e, ⟨t, rfl⟩, of_decide_eq_true q4, by simpa using q1⟩
  · cases q2
end
end Dn
end
section
set_option maxHeartbeats 4000000
namespace Dn
open PySem L2 NdefX
end Dn
end
section
set_option maxHeartbeats 4000000
namespace Dn
open PySem L2 PyProof.Rows
inductive Pt where
  | lit (s : Str)
  | cap (i : Nat)
/-- none: stuck; some none: no match -/
def ptI : List Pt → List D → Option (Option (List (Nat × D)))
  | [], [] => some (some [])
  | .lit z :: ps, d :: ds => if scalD d (.str z) then (if PyData.eqv (py d) (py (.str z)) then ptI ps ds else some none) else none
  | .cap i :: ps, d :: ds => (ptI ps ds).map fun r => r.map ((i, d) :: ·)
  | _, _ => none
def bindP : List (Nat × D) → Env → Env
  | [], e => e
  | p :: r, e => bindP r (e.set p.1 (.fz p.2))
section
variable {X : Cx} {x : Fx} {W : WX}
def CanSt (X : Cx) (i : Nat) (n : Str) : Prop := X.N[i]? = some n ∧ Loc X.env.scope n ∧ (X.fn n = true ∨ X.env.scope.names.lookup n = some .local)
inductive PtR (X : Cx) : List Pattern → List Pt → Prop
  | nil : PtR X [] []
  | lit {z : Str} {j : Nat} {p pos : Pos} {ps : List Pattern} {pts : List Pt} : PtR X ps pts → PtR X (.MatchValue (.Constant (.str z) j p) pos :: ps) (.lit z :: pts)
  | cap {n : Str} {i : Nat} {pos : Pos} {ps : List Pattern} {pts : List Pt} (h : CanSt X i n) : PtR X ps pts → PtR X (.MatchAs none (some n) pos :: ps) (.cap i :: pts)
inductive BsR (X : Cx) (ca : Str → Addr) (cs : List Addr) (B : Hp) : List (Str × Value) → List (Nat × D) → Prop
  | nil : BsR X ca cs B [] []
  | cons {n : Str} {i : Nat} {u : Value} {v : V} {d : D} {bs : List (Str × Value)} {ds : List (Nat × D)} : CanSt X i n → RelV v u → Rp X.K ca cs B v d → BsR X ca cs B bs ds → BsR X ca cs B ((n, u) :: bs) ((i, d) :: ds)
theorem PtR.len {ps : List Pattern} {pts : List Pt} (h : PtR X ps pts) : ps.length = pts.length := by
  induction h with
  | nil => rfl
  | lit _ ih => rw [List.length_cons, List.length_cons, ih]
  | cap _ _ ih => rw [List.length_cons, List.length_cons, ih]
def PostP (X : Cx) (pins : List (Addr × Obj)) (σ : L2.St) (H : Hp) (ca : Str → Addr) (cs : List Addr) (B : Hp) (r : Option (List (Nat × D))) (r' : Option (List (Str × Value))) (s' : Shared) : Prop :=
  Inv X pins σ H s' ∧ match r, r' with
    | none, none => True
    | some ds, some bs => BsR X ca cs B bs ds
    | _, _ => False
theorem each_ok {ca : Str → Addr} {cs : List Addr} {B H : Hp} (sm : Sme B H) {pins : List (Addr × Obj)} {σ : L2.St} {ps : List Pattern} {pts : List Pt} (h : PtR X ps pts) :
    ∀ {s : Shared} {us : List Value} {vs : List V} {ds : List D} {r : Option (List (Nat × D))}, Inv X pins σ H s → Vals vs us → RpL X.K ca cs B vs ds → ptI pts ds = some r →
      wpAny (model X.prog X.w) X.A (matchEach ps X.env us) (PostP X pins σ H ca cs B r) X.xe s := by
  induction h with
  | nil =>
    intro s us vs ds r I rv rp hr
    cases rp with
    | nil =>
      cases rv
      cases hr
      exact wpAny_matchEach_nil ⟨I, .nil⟩
    | cons _ _ => cases hr
  | @lit z j p pos ps pts _ ih =>
    intro s us vs ds r I rv rp hr
    cases rp with
    | nil => cases hr
    | @cons v d vs ds rd rp =>
      cases rv with
      | @cons _ u _ us r1 rv =>
        unfold ptI at hr
        split at hr
        · rename_i hsc
          refine wpAny_matchEach_cons (wpAny_matchPattern_Value ?_)
          refine thn (pe_str.run pins s σ H (fun v H' => v = .str z ∧ H' = H) I ⟨rfl, rfl⟩) fun x s1 ⟨v2, H2, I2, r2, e2, e3⟩ => ?_
          subst e2 e3
          obtain ⟨q1, q2⟩ := scal_of (.inl rd : Lk X.K ca cs B H2 v d) (.inl (.str z) : Lk X.K ca cs B H2 (.str z) (.str z)) hsc
          refine thn (op_eq pins s1 σ H2 v (.str z) u x (fun v H' => v = .bl (PyData.eqv (py d) (py (.str z))) ∧ H' = H2) I2 r1 r2 ⟨q1, by rw [q2]; exact ⟨rfl, rfl⟩⟩) fun c s2 ⟨v3, H3, I3, r3, e4, e5⟩ => ?_
          subst e4 e5
          obtain rfl : c = Value.bool (PyData.eqv (py d) (py (.str z))) := r3
          refine wpAny_truthy_bool ?_
          cases hb : PyData.eqv (py d) (py (.str z)) with
          | true =>
            rw [if_pos hb] at hr
            rw [if_pos rfl]
            refine thn (ih I3 rv rp hr) fun r' s3 ⟨I4, hq⟩ => ?_
            cases r with
            | none => cases r' with
              | none => exact ⟨I4, trivial⟩
              | some _ => exact hq.elim
            | some bs => cases r' with
              | none => exact hq.elim
              | some bs' => exact ⟨I4, hq⟩
          | false =>
            rw [hb] at hr
            rw [if_neg Bool.false_ne_true]
            rw [if_neg Bool.false_ne_true] at hr
            cases hr
            exact ⟨I3, trivial⟩
        · cases hr
  | @cap n i pos ps pts hc _ ih =>
    intro s us vs ds r I rv rp hr
    cases rp with
    | nil => cases hr
    | @cons v d vs ds rd rp =>
      cases rv with
      | @cons _ u _ us r1 rv =>
        unfold ptI at hr
        obtain ⟨r0, h1, h2⟩ := Option.map_eq_some_iff.mp hr
        subst h2
        refine wpAny_matchEach_cons (wpAny_matchPattern_Capture ?_)
        refine thn (ih I rv rp h1) fun r' s3 ⟨I4, hq⟩ => ?_
        cases r0 with
        | none => cases r' with
          | none => exact ⟨I4, trivial⟩
          | some _ => exact hq.elim
        | some bs => cases r' with
          | none => exact hq.elim
          | some bs' => exact ⟨I4, .cons hc r1 rd hq⟩
theorem assign_ok (hN : X.N.Nodup) {cs : List Addr} {B H : Hp} {pins : List (Addr × Obj)} {st : List D} {bs : List (Str × Value)} {ds : List (Nat × D)} (h : BsR X x.ca cs B bs ds) :
    ∀ {s : Shared} {σ : L2.St} {env : Env}, Inv X pins σ H s → SX X.K x env st cs σ B H → wpAny (model X.prog X.w) X.A (assignInOrder (bs.map fun (n, _) => bindName X.env n) (bs.map (·.2))) (fun _ s' => ∃ σ', Inv X pins σ' H s' ∧ SX X.K x (bindP ds env) st cs σ' B H) X.xe s := by
  induction h with
  | nil => exact fun I sx => wpAny_assignInOrder_none ⟨_, I, sx⟩
  | cons hc r1 rd _ ih =>
    intro s σ env I sx
    exact wpAny_assignInOrder_more (wpAny_bindName (store_ok I hN hc.1 hc.2.1 r1 (fun s' I' => ih I' ((sx.fz rd).set _)) hc.2.2))
end
end Dn
end
section
set_option maxHeartbeats 4000000
namespace Dn
open PySem L2 NdefX
open He (ba ga ma)
end Dn
end
section
set_option maxHeartbeats 4000000
namespace Dn
open PySem L2 NdefX
end Dn
end
section
set_option maxHeartbeats 4000000
namespace Dn
open PySem L2 NdefX
end Dn
end
section
set_option maxHeartbeats 4000000
namespace Dn
open PySem PySem.Spec PyProof.Rows L2 NdefX
end Dn
end
section
set_option maxHeartbeats 4000000
namespace Dn
open PySem L2 NdefX
end Dn
end
section
set_option maxHeartbeats 4000000
namespace Dn
open PySem PySem.Spec PyProof.Rows L2 NdefX
end Dn
end
section
set_option maxHeartbeats 4000000
namespace Dn
open PySem L2 NdefX
end Dn
end
section
set_option maxHeartbeats 4000000
namespace Dn
open PySem L2 NdefX
end Dn
end
section
set_option maxHeartbeats 4000000
namespace Dn
open PySem PySem.Spec PyProof.Rows L2 NdefX
open PySem.Sem (wp)
end Dn
end
section
set_option maxHeartbeats 4000000
namespace Dn
open PySem PySem.Spec PyProof.Rows L2 NdefX
end Dn
end
section
set_option maxHeartbeats 4000000
namespace Dn
open PySem PySem.Spec PyProof.Rows L2
end Dn
end
section
set_option maxHeartbeats 4000000
namespace Dn
open PySem PySem.Spec PyProof.Rows L2
end Dn
end
section
set_option maxHeartbeats 4000000
namespace Dn
open PySem L2 NdefX
open He (ba ga ma)
end Dn
end
section
set_option maxHeartbeats 4000000
namespace Dn
open PySem PySem.Spec PyProof.Rows L2 NdefX
open PySem.Sem (wp)
end Dn
end
section
set_option maxHeartbeats 4000000
namespace Dn
open PySem L2
def rvlD : D → Option Sl
  | .lst xs => some (.ow (.lst xs.reverse))
  | _ => none
def rvlM (m : M D) : M Sl := m.bind fun d => M.lift (rvlD d)
section
variable {X : Cx} {x : Fx} {W : WX}
theorem pe_rvlM {e : Expr} {m : M D} {k : Nat} {p1 p2 p3 pos : Pos} (he : PE X e (tV X.K x W m)) : PE X (.Subscript e (.Slice none none (some (.UnaryOp .USub (.Constant (.int 1) k p1) p2)) p3) pos) (tU X.K x W (rvlM m)) :=
  PE.imp (pe_revL he) fun σ H Q ⟨env, st, cs, B, hs, ho⟩ => ⟨env, st, cs, B, hs, (outG.bind ho).imp fun d e s cs1 B1 k v H1 sx1 r1 => by
    obtain ⟨r, hr, k⟩ := outG.lift k
    cases d with
    | lst xs =>
      cases hr
      cases r1 with
      | @lst a vs _ h2 r2 => exact ⟨a, vs, rfl, SqL.of (sx1.s.lst h2), fun p hp => k _ _ (sx1.own (Gr.own sx1.s hp) hp ⟨vs.reverse, upd_same, free_b sx1.s hp, r2.rev⟩)⟩
    | _ => cases hr⟩
end
end Dn
end
section
set_option maxHeartbeats 4000000
namespace Dn
open PySem PySem.Spec PyProof.Rows L2
end Dn
end
section
set_option maxHeartbeats 4000000
namespace Dn
open PySem PySem.Spec PyProof.Rows L2
open PySem.SeqAt (EqP)
end Dn
end
section
set_option maxHeartbeats 4000000
namespace Dn
open PySem PySem.Spec PyProof.Rows L2 NdefX
end Dn
end
section
set_option maxHeartbeats 4000000
namespace Dn
open PySem PySem.Spec PyProof.Rows L2 NdefX
end Dn
end
section
set_option maxHeartbeats 4000000
namespace Dn
open PySem PySem.Spec PyProof.Rows L2 NdefX
open He (ga ba)
def mdH (K : Fg) (n : Str) : List Int := match K.lookup (ga K n) with
  | some ⟨_, _, .dict es _, _⟩ => es.toList.map (·.hash)
  | _ => []
end Dn
end
section
set_option maxHeartbeats 4000000
namespace PySem.SeqAt
open AutoSeq1 (wpAny_loadPart')
open MeetsSeq MeetsSeq2 MeetsSeq3 SeqRoads2
section
variable {prog : Program} {w : World} {A : Around} {s : Shared}
theorem wpAny_loop {M : Model} {α β : Type} {A : Around} {E : Value → Shared → Prop} {s : Shared} {L : List α} {b : β} {f : α → β → Sem (ForInStep β)} {Q : β → Shared → Prop} {h} (hw : wpAny M A (forIn L b f) Q E s) : wpAny M A (List.forIn'.loop L (fun a _ => f a) L b h) Q E s := hw
theorem my_tuple_neIn (l b : Addr) (items items2 : Array Value) (n n2 : Nat) (dd dd2 : Option Addr) (sl sl2 : Array (Option Value)) (hsz : items.size = items2.size) :
    MeetsIn prog w (Builtin.«tuple.__ne__» ⟨[.ref l, .ref b], []⟩)
      (fun A R s => s.heap.get? l = some { cls := .type "tuple", dict := dd, data := .seq items n, slots := sl } ∧ s.heap.get? b = some { cls := .type "tuple", dict := dd2, data := .seq items2 n2, slots := sl2 } ∧
        (∀ j (h1 : j < items.size) (h2 : j < items2.size), EqIn prog w A.in1 s items[j] items2[j] true) ∧
        R (.ok (.ret (.bool false))) s) :=
  .of_wp fun A R s h => by
    obtain ⟨hp, g, d, tk, os⟩ := s; obtain ⟨hl, hb, he, h⟩ := h
    have f2 := AutoSeq1.sub_tuple_tuple
    have hZ : (items.toList.zip items2.toList).length = min items.size items2.size := by simp
    wp_walk using wpAny_loadPart' hl, wpAny_loadPart' hb
    refine wpAny_loop (wpAny_forIn_list _ (fun rest b s' => b.1 = none ∧ s' = ⟨hp, g, d, tk, os⟩ ∧ ∃ i, rest = (items.toList.zip items2.toList).drop i) _ ?turn ?fin _ _ ⟨rfl, rfl, 0, rfl⟩)
    case turn =>
      rintro ⟨y, x⟩ rest b s' ⟨hb', rfl, i, hz⟩
      have hlt : i < (items.toList.zip items2.toList).length := by
        rcases Nat.lt_or_ge i (items.toList.zip items2.toList).length with h' | h'
        · exact h'
        · rw [List.drop_of_length_le h'] at hz; cases hz
      have hm : i < min items.size items2.size := hZ ▸ hlt
      have h1 : i < items.size := Nat.lt_of_lt_of_le hm (Nat.min_le_left _ _)
      have h2 : i < items2.size := Nat.lt_of_lt_of_le hm (Nat.min_le_right _ _)
      rw [List.drop_eq_getElem_cons hlt] at hz
      injection hz with hyx hrest
      have hy : y = items[i] := by have := congrArg Prod.fst hyx; simpa using this
      have hx : x = items2[i] := by have := congrArg Prod.snd hyx; simpa using this
      subst hy hx
      refine wpAny_bind (he i h1 h2 _ _ ?_)
      wp_walk
      exact ⟨rfl, rfl, i + 1, hrest⟩
    case fin =>
      rintro ⟨b1, b2⟩ s' ⟨hb', rfl, i, hz⟩
      simp only at hb'
      subst hb'
      wp_walk
      exact ⟨_, rfl, by simpa [Builtin.Tuple.tupleCompareSizes, hsz] using h⟩
theorem rcNe_tuples {E : Value → Shared → Prop} {l b : Addr} {items items2 : Array Value} {Q : Value → Shared → Prop} (hl : s.heap.IsTuple l items) (hb : s.heap.IsTuple b items2) (hsz : items.size = items2.size) (hu : A.units < cLine)
    (he : ∀ j (h1 : j < items.size) (h2 : j < items2.size), EqIn prog w A.in1 s items[j] items2[j] true) (h : Q (.bool false) s) :
    wpAny (model prog w) A (richCompare .NotEq (.ref l) (.ref b)) Q E s := by
  obtain ⟨⟨cls, dd, data, sl⟩, ho, hc, n, hd⟩ := id hl
  obtain ⟨⟨cls2, dd2, data2, sl2⟩, ho2, hc2, n2, hd2⟩ := id hb
  simp only at hc hd hc2 hd2
  subst hc hd hc2 hd2
  exact wpAny_richCompare_same_room (T := "tuple") (op := .NotEq) ⟨_, ho, rfl⟩ ⟨_, ho2, rfl⟩ F.slot_tuple_ne (call_meetsIn F.slot_tuple_ne ⟨_, ho, rfl⟩ F.entry_tuple_ne (F.args_tuple_ne_2 _ _) (my_tuple_neIn l b items items2 n n2 dd dd2 sl sl2 hsz)
    ⟨ho, ho2, he, show Value.bool false ≠ Value.notImplemented ∧ Q (.bool false) s from ⟨(fun x => nomatch x), h⟩⟩) hu
end
end PySem.SeqAt
namespace Dn
open PySem PySem.Spec PyProof.Rows L2
open PySem.SeqAt (EqP EqIn rcNe_tuples)
end Dn
end
section
set_option maxHeartbeats 4000000
namespace Dn
open PySem L2 NdefX LamX PySem.W PyProof.Rows
open He (ga)
end Dn
end
section
set_option maxHeartbeats 4000000
namespace Dn
open PySem L2 NdefX
open He (ba ga ma)
end Dn
end
section
set_option maxHeartbeats 4000000
namespace Dn
open PySem L2 NdefX PySem.W PyProof.Rows
open He (ga)
end Dn
end
section
set_option maxHeartbeats 4000000
namespace Dn
open PySem L2 NdefX PySem.W PyProof.Rows
open He (ga)
end Dn
end
section
set_option maxHeartbeats 4000000
namespace Dn
open PySem L2 NdefX PySem.W PyProof.Rows
section
variable {prog : Program} {w : World} {A : Around} {E : Value → Shared → Prop} {s : Shared}
theorem isl_ext {h h' : Heap} {t b : Addr} {items : Array Value} (ht : h.IsList t items) (e : ∀ a o, a ≠ b → h.get? a = some o → h'.get? a = some o) (hne : t ≠ b) : h'.IsList t items := by
  obtain ⟨o, ho, r⟩ := ht
  exact ⟨o, e t o hne ho, r⟩
theorem isl_push {h : Heap} {t : Addr} {items : Array Value} (ht : h.IsList t items) (o : Obj) : (h.push o).IsList t items := by
  obtain ⟨o, ho, r⟩ := ht
  exact ⟨o, Heap.get?_push_of_some _ ho, r⟩
theorem draw_l {it t : Addr} {items : Array Value} (hne : t ≠ it) : ∀ (n i : Nat) (s : Shared) (Q : List Value → Shared → Prop), s.heap.IsListIter it t i → s.heap.IsList t items → i + n ≤ items.size →
    (∀ h', h'.IsListIter it t (i + n) → Heap.SameBut it s.heap h' → Q ((items.toList.drop i).take n) { s with heap := h' }) → wpAny (model prog w) A (draw (.ref it) n) Q E s
  | 0, i, s, Q, hit, _, _, hQ => by
    show wpAny _ _ (pure []) Q E s
    exact wpAny_pure (by simpa using hQ s.heap hit (Heap.SameBut.refl ..))
  | n + 1, i, s, Q, hit, ht, hle, hQ => by
    have hlt : i < items.size := by omega
    show wpAny _ _ (pyNext (.ref it) >>= _) Q E s
    refine wpAny_bind (wpAny_pyNext_list_item hit ht (x := items[i]) (by simp [hlt]) fun h₁ hit₁ hs₁ => ?_)
    refine wpAny_bind (wpAny_holding (draw_l hne n (i + 1) _ _ hit₁ (isl_ext ht (fun a o h e => hs₁.extBut a o h e) hne) (by omega) fun h₂ hit₂ hs₂ => wpAny_pure ?_))
    have hd : items.toList.drop i = items[i] :: items.toList.drop (i + 1) := by simp [List.drop_eq_getElem_cons, hlt]
    have := hQ h₂ (by rw [show i + (n + 1) = i + 1 + n by omega]; exact hit₂) (hs₁.trans hs₂)
    rw [hd, List.take_succ_cons] at this
    exact this
theorem unpackItems_l {t : Addr} {items : Array Value} {Q : List Value → Shared → Prop} (hh : A.handled = none) (ht : s.heap.IsList t items)
    (hQ : ∀ h', Heap.ExtBut s.heap.objs.size s.heap h' → Q items.toList { s with heap := h' }) : wpAny (model prog w) A (unpackItems (.ref t) items.size none) Q E s := by
  have hlt : t ≠ s.heap.objs.size := by obtain ⟨o, ho, _⟩ := ht; exact Nat.ne_of_lt (Heap.lt_size ho)
  unfold unpackItems
  refine wpAny_bind ?_
  · unfold notIterableAtAll
    refine wpAny_bind (wpAny_specialOf ht.typeIs slot_list_iter.lookup ?_)
    refine wpAny_pure ?_
    simp only [Bool.false_eq_true, if_false]
    refine wpAny_bind (wpAny_holding (wpAny_pyIter_list ht ?_))
    refine wpAny_bind (wpAny_holding (draw_l hlt items.size 0 _ _ ⟨_, Heap.get?_push_size _ rfl, rfl, rfl⟩ (isl_push ht _) (by omega) fun h₁ hit₁ hs₁ => ?_))
    have hall : List.take items.size (List.drop 0 items.toList) = items.toList := by
      rw [List.drop_zero]; exact List.take_of_length_le (by simp)
    rw [hall]
    rw [if_neg (by simp)]
    have ht₁ : h₁.IsList t items := isl_ext (isl_push ht _) (fun a o h e => hs₁.extBut a o h e) hlt
    refine wpAny_bind (wpAny_holding (wpAny_pyNext_list_end hh hit₁ ht₁ (by simp) fun h₂ he₂ => ?_))
    simp only [Option.isSome_none, Bool.false_eq_true, if_false]
    refine wpAny_pure (hQ h₂ fun b o hb e => he₂ b o hb (hs₁.extBut b o hb (Heap.get?_push_of_some _ e)))
end
end Dn
end
section
set_option maxHeartbeats 4000000
namespace Dn
open PySem L2 NdefX PySem.W PyProof.Rows
end Dn
end
section
set_option maxHeartbeats 200000
namespace Dn
open PySem L2 NdefX PyProof.Rows
end Dn
end
section
set_option maxHeartbeats 4000000
namespace Dn
open PySem PySem.Spec PyProof.Rows L2 NdefX PySem.W
open He (ga ba)
end Dn
end
section
set_option maxHeartbeats 200000
namespace Dn
open PySem L2
end Dn
end
section
set_option maxHeartbeats 200000
namespace Dn
open PySem PySem.Spec PyProof.Rows L2 NdefX
open He (ga ba)
def seeB : List Addr → List Addr → Nat → (List Addr → Nat → List Addr) → List Addr
  | [], new, m, k => k new m
  | b :: r, new, m, k => if m.testBit b then seeB r new m k else seeB r (b :: new) (m ||| (1 <<< b)) k
def seeF (g : Addr → Option Obj) : List Addr → List Addr → Nat → (List Addr → Nat → List Addr) → List Addr
  | [], new, m, k => k new m
  | a :: r, new, m, k => seeB (match g a with
    | some o => He.refsD o
    | none => []) new m fun new m => seeF g r new m k
def bfS (g : Addr → Option Obj) : Nat → List Addr → Nat → List Addr
  | 0, fr, _ => fr
  | n + 1, fr, m => seeF g fr [] m fun new m => fr ++ bfS g n new m
def asF (n : Nat) (g : Addr → Option Obj) : List Addr := (bfS g n [mainGlobals, cStatics] ((1 <<< mainGlobals) ||| (1 <<< cStatics))).filter fun a => !isTab (g a)
theorem saysX_of {K : Fg} {L : Ls2} {file : Str} {tx tp : List Tx} {h : Heap} (e : obsE L file tx tp h.get? K = (true, tx.map Tx.val ++ tp.map Tx.val)) : SaysE L file tx tp K h := by
  have e1 := congrArg (fun z : AlC => z.1) e
  have e2 := congrArg (fun z : AlC => z.2) e
  obtain ⟨a, b⟩ := ba e1
  have hl := List.append_inj e2 (by simp)
  exact ⟨a, hl.1, hl.2, fun m hm => isTab_ok (List.all_eq_true.mp b m hm)⟩
end Dn
end
section
set_option maxHeartbeats 4000000
namespace Dn
open PySem L2 NdefX LamX PySem.W PyProof.Rows
open He (ga)
/-- the default of a lambda's one parameter, if it has one -/
abbrev Dfl := Option (Str × Int)
def dvs : Dfl → List V
  | none => []
  | some q => [.int q.2]
/-- the number handed over: a literal, or a name -/
inductive Gt where
  | c (i : Int)
  | n (j : Nat)
end Dn
end
section
set_option maxHeartbeats 4000000
namespace Dn
open PySem L2 NdefX LamX PySem.W PyProof.Rows
end Dn
end
section
set_option maxHeartbeats 4000000
namespace Dn
open PySem L2 NdefX PySem.W PyProof.Rows
open He (ga ma)
end Dn
end
section
set_option maxHeartbeats 200000
namespace Dn
open PySem L2 NdefX PySem.W PyProof.Rows
end Dn
end
section
set_option maxHeartbeats 4000000
namespace Dn
open PySem L2 PyProof.Rows
def ptX (st : List D) (ps : List Pt) (d : D) : Option (Option (List (Nat × D))) := match cont st d with
  | some (.tup _ xs) => if xs.length = ps.length then ptI ps xs else some none
  | some (.lst xs) => if xs.length = ps.length then ptI ps xs else some none
  | _ => none
def casX (d : D) : List (List Pt × M Fw) → M Fw
  | [] => M.ret .nx
  | c :: r => fun e s => match ptX s c.1 d with
    | some (some bs) => c.2 (bindP bs e) s
    | some none => casX d r e s
    | none => .stuck
def mtX (m : M D) (cs : List (List Pt × M Fw)) : M Fw := m.bind fun d => casX d cs
section
variable {X : Cx} {x : Fx} {W : WX}
structure PCx (X : Cx) (x : Fx) (W : WX) (cases : List MatchCase) (cs : List (List Pt × M Fw)) : Prop where
  run : ∀ (pins : List (Addr × Obj)) (s : Shared) (σ : L2.St) (H : Hp) (De : Ends) (v : V) (u : Value) (d : D) (env : Env) (st : List D) (ads : List Addr) (B : Hp) (first : Bool), Inv X pins σ H s → RelV v u → SX X.K x env st ads σ B H → Rp X.K x.ca ads B v d →
    outS X.K x W ads B (casX d cs env st) (qS X.K x De) → wpAny (model X.prog X.w) X.A (matchCases cases X.env u first) (SP X pins De) X.xe s
theorem px_nil : PCx X x W [] [] := ⟨fun pins s σ H De v u d env st ads B first I r sx rp ho => wpAny_matchCases_nil ⟨σ, H, I, (show outS X.K x W ads B (.ok Fw.nx env st) (qS X.K x De) from ho).now σ H sx⟩⟩
theorem px_cons {ps : List Pattern} {pos : Pos} {body : List Stmt} {rest : List MatchCase} {pts : List Pt} {m : M Fw} {cs : List (List Pt × M Fw)} (hcm : X.calm = true) (hN : X.N.Nodup) (hp : PtR X ps pts) (hb : PSs X body (tS X.K x W m)) (hr : PCx X x W rest cs)
    (hstar : ps.findIdx? (·.isStar) = none := by rfl) (hwild : (ps.all fun p => p.isWildcard || (p.isStar && p.names.isEmpty)) = false := by rfl) : PCx X x W (⟨.MatchSequence ps pos, none, body⟩ :: rest) ((pts, m) :: cs) := by
  refine ⟨fun pins s σ H De v u d env st ads B first I r sx rp ho => wpAny_matchCases_cons ?_⟩
  -- what follows where the sequence has been unpacked
  have tail : ∀ (a : Addr) (its : List Value) (vs : List V) (xs : List D) (h' : Heap), Vals vs its → RpL X.K x.ca ads B vs xs → v = V.ref a → u = Value.ref a → Inv X pins σ H { s with heap := h', toks := s.toks + 1 + 1 } →
      outS X.K x W ads B (match ptI pts xs with
        | some (some bs) => m (bindP bs env) st
        | some none => casX d cs env st
        | none => .stuck) (qS X.K x De) →
      wpAny (model X.prog X.w) X.A (matchEach ps X.env its) (fun r' s3 => match r' with
        | none => wpAny (model X.prog X.w) X.A (matchCases rest X.env u false) (SP X pins De) X.xe s3
        | some bs' => wpAny (model X.prog X.w) X.A (assignInOrder (bs'.map fun (n, _) => bindName X.env n) (bs'.map (·.2))) (fun _ s4 => wpAny (model X.prog X.w) X.A (execs body X.env) (SP X pins De) X.xe s4) X.xe s3) X.xe { s with heap := h', toks := s.toks + 1 + 1 } := by
    intro a its vs xs h' rv e2 ev eu I1 ho
    cases hpt : ptI pts xs with
    | none => rw [hpt] at ho; exact ho.elim
    | some r0 =>
      rw [hpt] at ho
      refine thn (each_ok sx.s hp I1 rv e2 hpt) fun r' s3 ⟨I4, hq⟩ => ?_
      cases r0 with
      | none => cases r' with
        | none => exact hr.run pins s3 σ H De v u d env st ads B false I4 r sx rp ho
        | some _ => exact hq.elim
      | some bs => cases r' with
        | none => exact hq.elim
        | some bs' =>
          refine thn (assign_ok hN hq I4 sx) fun _ s4 ⟨σ', I5, sx5⟩ => ?_
          exact hb.run pins s4 σ' H De I5 ⟨_, st, ads, B, sx5, ho⟩
  unfold casX ptX at ho
  cases hc : cont st d with
  | none => rw [hc] at ho; exact ho.elim
  | some y =>
    rw [hc] at ho
    cases y with
    | tup fl xs =>
      dsimp only at ho
      obtain ⟨a, vs, rfl, e0, e1, e2⟩ := Lk.tup sx.s (lk_cont sx rp hc)
      obtain rfl : u = Value.ref a := r
      obtain ⟨its, rv, ht, hz⟩ := I.tuple e1
      have hsz : its.toArray.size = xs.length := by simp [← rv.length, e2.len]
      have hfit : ((its.toArray.size : Nat) : Int) < 2 ^ 63 := by
        rw [hsz, ← e2.len]
        have : sizeLine < 2 ^ 63 := by decide
        omega
      by_cases hl : xs.length = pts.length
      · rw [if_pos hl] at ho
        have hl2 : its.toArray.size = ps.length := by rw [hsz, hl, hp.len]
        refine matchSeq_tuple_hit ht hfit hl2 ?_ hstar hwild
        rw [← hl2]
        refine unpackItems_tuple (I.ok.hd hcm) (s := { s with toks := s.toks + 1 + 1 }) ht fun h' hx => ?_
        have I1 : Inv X pins σ H { s with heap := h', toks := s.toks + 1 + 1 } := I.kept (t' := s.toks + 1 + 1) fun b o e => hx b o (Nat.ne_of_lt (Heap.lt_size e)) e
        exact thn (tail a its vs xs h' rv e2 rfl rfl I1 ho) fun r' s3 q => by cases r' <;> exact q
      · rw [if_neg hl] at ho
        have hl2 : its.toArray.size ≠ ps.length := by rw [hsz, hp.len]; exact hl
        refine matchSeq_tuple_miss ht hfit hl2 ?_ hstar hwild
        exact hr.run pins _ σ H De (V.ref a) (Value.ref a) d env st ads B false (I.kept (t' := s.toks + 1 + 1) fun b o e => e) rfl sx rp ho
    | lst xs =>
      dsimp only at ho
      obtain ⟨a, vs, rfl, e1, e2⟩ := Lk.lst sx.s (lk_cont sx rp hc)
      obtain rfl : u = Value.ref a := r
      obtain ⟨its, rv, ⟨o, n', e, e5, e3, e4⟩, hz⟩ := I.list (SqL.of e1)
      have ht : s.heap.IsList a its.toArray := ⟨o, e, e5, n', e4⟩
      have hsz : its.toArray.size = xs.length := by simp [← rv.length, e2.len]
      have hfit : ((its.toArray.size : Nat) : Int) < 2 ^ 63 := by
        rw [hsz, ← e2.len]
        have : sizeLine < 2 ^ 63 := by decide
        omega
      by_cases hl : xs.length = pts.length
      · rw [if_pos hl] at ho
        have hl2 : its.toArray.size = ps.length := by rw [hsz, hl, hp.len]
        refine matchSeq_list_hit ht hfit hl2 ?_ hstar hwild
        rw [← hl2]
        refine unpackItems_l (I.ok.hd hcm) (s := { s with toks := s.toks + 1 + 1 }) ht fun h' hx => ?_
        have I1 : Inv X pins σ H { s with heap := h', toks := s.toks + 1 + 1 } := I.kept (t' := s.toks + 1 + 1) fun b o e => hx b o (Nat.ne_of_lt (Heap.lt_size e)) e
        exact thn (tail a its vs xs h' rv e2 rfl rfl I1 ho) fun r' s3 q => by cases r' <;> exact q
      · rw [if_neg hl] at ho
        have hl2 : its.toArray.size ≠ ps.length := by rw [hsz, hp.len]; exact hl
        refine matchSeq_list_miss ht hfit hl2 ?_ hstar hwild
        exact hr.run pins _ σ H De (V.ref a) (Value.ref a) d env st ads B false (I.kept (t' := s.toks + 1 + 1) fun b o e => e) rfl sx rp ho
    | _ => exact ho.elim
theorem s_matchX {subject : Expr} {cases : List MatchCase} {pos : Pos} {m : M D} {cs : List (List Pt × M Fw)} (he : PE X subject (tV X.K x W m)) (hc : PCx X x W cases cs) : PS X (.Match subject cases pos) (tS X.K x W (mtX m cs)) := by
  refine ⟨fun pins s σ H De I h => wpAny_Match ?_⟩
  obtain ⟨env, st, ads, B, hs, ho⟩ := h
  refine thn (he.run pins s σ H (fun v H1 => ∃ env st ads B d, SX X.K x env st ads σ B H1 ∧ Rp X.K x.ca ads B v d ∧ outS X.K x W ads B (casX d cs env st) (qS X.K x De)) I
    ⟨env, st, ads, B, hs, ((outS.bind ho).g σ).imp fun d e s cs' B' k v H1 sx r => ⟨e, s, cs', B', d, sx, r, k⟩⟩) fun u s1 ⟨v, H1, I1, r1, env1, st1, ads1, B1, d, sx1, rp1, k1⟩ => ?_
  exact hc.run pins s1 σ H1 De v u d env1 st1 ads1 B1 true I1 r1 sx1 rp1 k1
end
end Dn
end
section
set_option maxHeartbeats 4000000
namespace Dn
open PySem L2 NdefX PySem.W PyProof.Rows
section
variable {prog : Program} {w : World} {A : Around} {E : Value → Shared → Prop} {s : Shared}
/-- what a list's walk still holds, from a place on -/
theorem walks_from (hh : A.handled = none) (I ax : Addr) (hne : ax ≠ I) (items : Array Value) (k : Nat) (hk : k ≤ items.size) :
    WalksS prog w A I [I, ax] [I] (fun a b => b = a) (items.size - k) (fun i v => items[k + i]? = some v) (fun i s => s.heap.IsListIter I ax (k + i) ∧ s.heap.IsList ax items) := by
  have W := (Walks.list (prog := prog) (w := w) hh I ax hne items).toS
  refine ⟨W.sub, W.grefl, W.gtrans, fun i s h' tk st => W.frame (k + i) s h' tk st, fun i s Q E hi st hQ => W.item (k + i) s Q E (by omega) st fun v s' p st' m => hQ v s' p st' m, fun s Q E st hQ => W.done s Q E ?_ hQ, fun i s Q E st hQ => W.self (k + i) s Q E st hQ⟩
  rw [show k + (items.size - k) = items.size by omega] at st
  exact st
theorem unpackItems_s {t : Addr} {items : Array Value} {Q : List Value → Shared → Prop} (hh : A.handled = none) (ht : s.heap.IsList t items) (h1 : 1 ≤ items.size) (hz : items.size ≤ sizeLine)
    (hQ : ∀ (h' : Heap) (tk : Nat), (∀ b o, s.heap.get? b = some o → h'.get? b = some o) → Q [items[0], .ref h'.objs.size] { s with heap := h'.push { cls := .type "list", data := .seq (items.toList.drop 1).toArray }, toks := tk }) :
    wpAny (model prog w) A (unpackItems (.ref t) 2 (some 1)) Q E s := by
  have hlt : t ≠ s.heap.objs.size := by obtain ⟨o, ho, _⟩ := ht; exact Nat.ne_of_lt (Heap.lt_size ho)
  unfold unpackItems
  refine wpAny_bind ?_
  unfold notIterableAtAll
  refine wpAny_bind (wpAny_specialOf ht.typeIs slot_list_iter.lookup ?_)
  refine wpAny_pure ?_
  simp only [Bool.false_eq_true, if_false]
  refine wpAny_bind (wpAny_holding (wpAny_pyIter_list ht ?_))
  refine wpAny_bind (wpAny_holding (draw_l hlt 1 0 _ _ ⟨_, Heap.get?_push_size _ rfl, rfl, rfl⟩ (isl_push ht _) (by omega) fun h₁ hit₁ hs₁ => ?_))
  have ht₁ : h₁.IsList t items := isl_ext (isl_push ht _) (fun a o h e => hs₁.extBut a o h e) hlt
  have hf : List.take 1 (List.drop 0 items.toList) = [items[0]] := by
    rw [List.drop_zero]
    obtain ⟨l⟩ := items
    cases l with
    | nil => exact absurd h1 (by decide)
    | cons x l => rfl
  rw [hf]
  rw [if_neg (by simp)]
  have keep₁ : ∀ b o, s.heap.get? b = some o → h₁.get? b = some o := fun b o e => hs₁.extBut b o (Nat.ne_of_lt (Heap.lt_size e)) (Heap.get?_push_of_some _ e)
  refine wpAny_bind (wpAny_holding (wpAny_collect_iter (T := "list_iterator") (.inr (.inr (.inl rfl))) (walks_from (A := A.in1) hh s.heap.objs.size t hlt items 1 h1) (fun i s st => st.1.typeIs) ⟨hit₁, ht₁⟩ (fun b hb => ?_) List.mem_cons_self (fun s' acc hm hacc => ?_) (by omega)))
  · rcases List.mem_cons.mp hb with rfl | hb
    · obtain ⟨o, ho, _⟩ := hit₁; exact Heap.lt_size ho
    · rw [List.mem_singleton.mp hb]
      obtain ⟨o, ho, _⟩ := ht₁; exact Heap.lt_size ho
  · obtain ⟨ha1, ha2⟩ := hacc
    have hacc : acc.toList = items.toList.drop 1 := by
      refine List.ext_getElem? fun j => ?_
      rw [List.getElem?_drop, Array.getElem?_toList, Array.getElem?_toList]
      cases hj : acc[j]? with
      | some v => exact (ha2 j v hj).symm
      | none =>
        have : acc.size ≤ j := by rwa [Array.getElem?_eq_none_iff] at hj
        rw [Array.getElem?_eq_none (by omega)]
    have hl : (items.toList.drop 1).length = items.size - 1 := by simp
    rw [hacc]
    rw [if_neg (by omega)]
    have e1 : (items.toList.drop 1).length - (2 - 1 - 1) = (items.toList.drop 1).length := by omega
    rw [e1, List.take_length, List.drop_length]
    refine wpAny_bind (wpAny_newList (wpAny_pure ?_) (by omega))
    obtain ⟨hp, g, d, tk, os⟩ := s'
    obtain ⟨m1, m2, m3, m4, m5⟩ := hm
    have m2 : g = s.gens := m2
    have m3 : d = s.drawn := m3
    have m4 : os = s.os := m4
    subst m2 m3 m4
    exact hQ hp tk fun b o e => m1 b o (fun z => Nat.ne_of_lt (Heap.lt_size e) (List.mem_singleton.mp z)) (keep₁ b o e)
end
def gStr (K : PySem.W.Frag) (t : TGs) : TG := fun v σ H Q => ∃ a x xs, v = .ref a ∧ SqL K H a (x :: xs) ∧ ∀ p, H p = none → t [x, .ref p] σ (upd H p (.lst xs)) Q
theorem pg_str {X : Cx} {pos p : Pos} {ta tb : Expr} {k : Nat} {t : TGs} (hc : X.calm = true) (h : PGs X [ta, tb] t)
    (hm : (assignEach [ta, .Starred tb p] X.env).map (·.2) = (assignEach [ta, tb] X.env).map (·.2) := by rfl) (hn : (assignEach [ta, .Starred tb p] X.env).length = 2 := by rfl) (hst : (assignEach [ta, .Starred tb p] X.env).findIdx? (·.1) = some 1 := by rfl) : PG X (.Tuple [ta, .Starred tb p] k pos) (gStr X.K t) := by
  refine ⟨fun pins s σ H v u Q I r hw => ?_⟩
  obtain ⟨a, x, xs, e1, hq, hw⟩ := hw
  subst e1
  cases r
  obtain ⟨its, rv, ⟨o, n', e, e2, e3, e4⟩, hz⟩ := I.list hq
  cases rv with
  | @cons _ u0 _ us r1 rv =>
    rw [assign_Tuple]
    refine wpAny_bind (wpAny_standAt ?_)
    unfold unpack
    rw [hn, hst, hm]
    have hl := rv.length
    rw [List.length_cons] at hz
    refine wpAny_bind (wpAny_holding (unpackItems_s (I.ok.hd hc) (t := a) (items := (u0 :: us).toArray) ⟨o, e, e2, n', e4⟩ (by simp) (by simp; omega) fun h' tk kp => ?_))
    have I1 : Inv X pins σ H { s with heap := h', toks := tk } := I.kept (t' := tk) kp
    have I2 := I1.lnew (t' := tk) (its := us) rv (by omega)
    exact h.run pins _ σ _ [x, .ref h'.objs.size] _ Q I2 (.cons r1 (.cons rfl .nil)) (hw _ I1.fresh)
def lsI : D → Option (List D)
  | .lst xs => some xs
  | _ => none
/-- targets over a list: its first thing, the list of the others -/
def tgR (ts : List (D → M Unit)) (d : D) : M Unit := (M.lift (lsI d)).bind fun ds => match ds with
  | x :: xs => tgs ts [x, .lst xs]
  | [] => M.stuck
section
variable {X : Cx} {x : Fx} {W : WX} {pos p : Pos} {ta tb : Expr} {k : Nat} {fs : List (D → M Unit)}
theorem g_star (g : Gd X W) (h : PGs X [ta, tb] (tGs X.K x W (tgs fs))) (hm : (assignEach [ta, .Starred tb p] X.env).map (·.2) = (assignEach [ta, tb] X.env).map (·.2) := by rfl) (hn : (assignEach [ta, .Starred tb p] X.env).length = 2 := by rfl) (hst : (assignEach [ta, .Starred tb p] X.env).findIdx? (·.1) = some 1 := by rfl) : PG X (.Tuple [ta, .Starred tb p] k pos) (tG X.K x W (tgR fs)) :=
  PG.imp (pg_str g.calm h hm hn hst) fun v σ H N ⟨env, st, cs, B, d, hs, r, ho⟩ => by
    have ho := outS.bind ho
    cases d with
    | lst ys =>
      have ho := (show outS X.K x W cs B (.ok ys env st) _ from ho).now
      obtain ⟨a, vs, rfl, e1, e2⟩ := Lk.lst hs.s (.inl r)
      cases e2 with
      | nil => exact (show False from ho).elim
      | @cons v0 d0 vs ds r0 rs =>
        refine ⟨a, v0, vs, rfl, SqL.of e1, fun q hq => ?_⟩
        have ga := Gr.alloc (T := x.T) (o := .lst vs) hs.s hq
        exact ⟨env, st, cs, _, [d0, .lst ds], hs.grow ga, .cons (r0.mono ga.b (Pre.refl _)) (.cons (.lst upd_same (rs.mono ga.b (Pre.refl _))) .nil), ho.up ga.b (Pre.refl _)⟩
    | _ => exact (show False from ho).elim
end
end Dn
end
section
set_option maxHeartbeats 4000000
namespace Dn
open PySem Sem Builtin Builtin.Str Builtin.Int Builtin.Float PyProof.Rows
def sgnT (i : Int) : Str := if i < 0 then Str.ofString (toString i) else Str.ofString ("+" ++ toString i)
end Dn
namespace Dn
open PySem L2
end Dn
end
section
set_option maxHeartbeats 4000000
namespace Dn
open PySem PySem.Spec PyProof.Rows L2 NdefX
open He (ga ba)
abbrev MvT := List (Str × List (Str × Int))
def mvE : List DictEntry → List (Str × Int) → Bool
  | [], [] => true
  | e :: es, q :: qs => ((match e.key with
    | .str z _ => decide (z = q.1)
    | _ => false) && (match e.val with
    | .int i _ => decide (i = q.2)
    | _ => false)) && mvE es qs
  | _, _ => false
def mvB (K : Fg) (p : Str × List (Str × Int)) : Bool := (He.Fa.glo p.1).ok K && (!(ga K p.1 == sysModules) && (decide (p.2.map (·.1)).Nodup && match K.lookup (ga K p.1) with
  | some ⟨.type "dict", none, .dict es _, sl⟩ => sl.isEmpty && mvE es.toList p.2
  | _ => false))
/-- what the dict holds, in this world -/
def MvOk (w : World) (K : Fg) (p : Str × List (Str × Int)) : Prop := mvB K p = true ∧ mdH K p.1 = p.2.map fun q => hashStr w q.1
structure MvAt (w : World) (K : Fg) (mg : Str → Option Value) (md : MvT) : Prop where
  ok : ∀ p ∈ md, MvOk w K p
  mg : ∀ p ∈ md, mg p.1 = some (.ref (ga K p.1))
def mvGet (qs : List (Str × Int)) (z : Str) : Option Int := (qs.find? fun q => decide (q.1 = z)).map (·.2)
def MvV (q : Str × Int) (v : Key × Value) : Prop := v.1 = .inr q.1 ∧ ∃ t, v.2 = .int q.2 t
theorem mvE_pairs {P : Program} {w : World} : ∀ {es : List DictEntry} {qs : List (Str × Int)}, mvE es qs = true → (es.map (·.hash)) = (qs.map fun q => hashStr w q.1) →
    ∃ vs : List (Key × Value), Pairs (mixKind P w) es vs ∧ Paired MvV qs vs ∧ ∀ e ∈ es, ∃ k, (mixKind P w).is k e.key = true ∧ e.hash = (mixKind P w).hash k
  | [], [], _, _ => ⟨[], .nil, .nil, fun e he => nomatch he⟩
  | [], q :: qs, h, _ => by unfold mvE at h; cases h
  | e :: es, [], h, _ => by unfold mvE at h; cases h
  | e :: es, q :: qs, h, hh => by
    unfold mvE at h
    obtain ⟨h1, h2⟩ := ba h
    obtain ⟨h3, h4⟩ := ba h1
    rw [List.map_cons, List.map_cons] at hh
    injection hh with hh1 hh2
    obtain ⟨vs, p1, p2, p3⟩ := mvE_pairs (P := P) (w := w) h2 hh2
    obtain ⟨eh, ek, ev⟩ := e
    dsimp only at h3 h4 hh1
    cases ek with
    | str z tk =>
      have hz := of_decide_eq_true h3
      subst hz
      cases ev with
      | int i t =>
        have hi := of_decide_eq_true h4
        subst hi
        have hk : (mixKind P w).is (.inr q.1) (.str q.1 tk) = true := kV_is (k := .inr q.1) ⟨tk, rfl⟩
        refine ⟨(.inr q.1, .int q.2 t) :: vs, .cons hk rfl p1, .cons ⟨rfl, t, rfl⟩ p2, fun e he => ?_⟩
        rcases List.mem_cons.mp he with rfl | he
        · exact ⟨.inr q.1, hk, hh1⟩
        · exact p3 e he
      | _ => cases h4
    | _ => cases h3
theorem mvv_keys : ∀ {qs : List (Str × Int)} {vs : List (Key × Value)}, Paired MvV qs vs → vs.map (·.1) = (qs.map (·.1)).map Sum.inr
  | _, _, .nil => rfl
  | _, _, .cons h t => by rw [List.map_cons, List.map_cons, List.map_cons, mvv_keys t, h.1]
theorem mvv_get {z : Str} : ∀ {qs : List (Str × Int)} {vs : List (Key × Value)}, Paired MvV qs vs → (mvGet qs z = none ∧ valueAt vs (.inr z) = none) ∨ ∃ i t, mvGet qs z = some i ∧ valueAt vs (.inr z) = some (.int i t)
  | _, _, .nil => .inl ⟨rfl, rfl⟩
  | q :: qs, v :: vs, .cons h t => by
    obtain ⟨h1, a, h2⟩ := h
    by_cases e : q.1 = z
    · right
      refine ⟨q.2, a, ?_, ?_⟩
      · unfold mvGet; rw [List.find?_cons, decide_eq_true e]; rfl
      · unfold valueAt
        rw [List.find?_cons, decide_eq_true (by rw [h1, e])]
        show some v.2 = _
        rw [h2]
    · have e1 : mvGet (q :: qs) z = mvGet qs z := by unfold mvGet; rw [List.find?_cons, decide_eq_false e]
      have e2 : valueAt (v :: vs) (.inr z) = valueAt vs (.inr z) := by
        unfold valueAt
        rw [List.find?_cons, decide_eq_false (by rw [h1]; intro h; injection h with h; exact e h)]
      rw [e1, e2]
      exact mvv_get t
theorem mvOk_dict {P : Program} {w : World} {K : Fg} {p : Str × List (Str × Int)} (h : MvOk w K p) {hp : Heap} (KX : K.In hp) : (ga K p.1 == sysModules) = false ∧ ∃ vs, hp.DictOf (mixKind P w) (ga K p.1) vs ∧ Paired MvV p.2 vs := by
  obtain ⟨h1, hh⟩ := h
  unfold mvB at h1
  obtain ⟨_, h1⟩ := ba h1
  obtain ⟨h2, h1⟩ := ba h1
  obtain ⟨h3, h4⟩ := ba h1
  refine ⟨by simpa using h2, ?_⟩
  unfold mdH at hh
  split at h4
  · rename_i es ep sl e
    rw [e] at hh
    dsimp only at hh
    obtain ⟨h5, h6⟩ := ba h4
    obtain ⟨vs, p1, p2, p3⟩ := mvE_pairs (P := P) (w := w) h6 hh
    refine ⟨vs, ⟨_, es, ep, KX _ _ e, ⟨rfl, rfl, by simpa using h5⟩, rfl, fun e he => p3 e (by simpa using he), p1, ?_⟩, p2⟩
    rw [mvv_keys p2]
    have hn := of_decide_eq_true h3
    exact hn.map _ fun a b hab hi => hab (Sum.inr.inj hi)
  · cases h4
section
variable {X : Cx}
theorem op_mvIn {p : Str × List (Str × Int)} (h : MvOk X.w X.K p) : OpR X (compareOp .In) (fun y x H Q => x = .ref (ga X.K p.1) ∧ ∃ z, y = .str z ∧ Q (.bl (mvGet p.2 z).isSome) H) := by
  intro pins s σ H y x v u Q I ry rx hq
  obtain ⟨rfl, z, rfl, q⟩ := hq
  cases (show u = Value.ref (ga X.K p.1) from rx)
  obtain ⟨t, rfl⟩ := ry
  obtain ⟨hs, vs, dd, hp⟩ := mvOk_dict (P := X.prog) h I.kIn
  refine wpAny_in_of (knd := mixKind X.prog X.w) (k := .inr z) (kV_is (k := .inr z) ⟨t, rfl⟩) hs dd.mapOf ?_
  have e : (valueAt vs (.inr z)).isSome = (mvGet p.2 z).isSome := by
    rcases mvv_get (z := z) hp with ⟨a, b⟩ | ⟨i, t, a, b⟩ <;> rw [a, b] <;> rfl
  rw [e]
  exact ⟨.bl (mvGet p.2 z).isSome, H, I.tok _, rfl, q⟩
theorem ix_mv {p : Str × List (Str × Int)} (h : MvOk X.w X.K p) : IxR X (fun x y H Q => x = .ref (ga X.K p.1) ∧ ∃ z i, y = .str z ∧ mvGet p.2 z = some i ∧ Q (.int i) H) := by
  intro value slice pins s σ H x y v u Q I rx ry hq hs
  obtain ⟨rfl, z, i, rfl, hg, q⟩ := hq
  cases (show v = Value.ref (ga X.K p.1) from rx)
  obtain ⟨t, rfl⟩ := ry
  obtain ⟨hs', vs, dd, hp⟩ := mvOk_dict (P := X.prog) h I.kIn
  rcases mvv_get (z := z) hp with ⟨a, b⟩ | ⟨i', t', a, b⟩
  · rw [hg] at a; cases a
  · rw [hg] at a
    cases a
    exact subTail_any dd.typeIs PySem.F.slot_dict_getitem.lookup (wpAny_getItem_of (knd := mixKind X.prog X.w) (k := .inr z) (kV_is (k := .inr z) ⟨t, rfl⟩) dd.mapOf b ⟨.int i, H, I.tok _, ⟨t', rfl⟩, q⟩) hs
end
def mvInM (qs : List (Str × Int)) (mo : M Pl) : M Sl := mo.bind fun p => (rsv p).bind fun y => match y with
  | .str z => M.ret (.fz (.bl (mvGet qs z).isSome))
  | _ => M.stuck
def mvIxM (qs : List (Str × Int)) (mo : M Pl) : M Sl := mo.bind fun p => (rsv p).bind fun y => match y with
  | .str z => match mvGet qs z with
    | some i => M.ret (.fz (.int i))
    | none => M.stuck
  | _ => M.stuck
section
variable {X : Cx} {x : Fx} {W : WX} {K : Fg} {σ : L2.St} {H : Hp} {Q : VK} {qs : List (Str × Int)} {mo : M Pl}
theorem tU_mvIn {a : Addr} (h : tU K x W (mvInM qs mo) σ H Q) : tL K x W mo σ H fun y H1 => V.ref a = .ref a ∧ ∃ z, y = .str z ∧ Q (.bl (mvGet qs z).isSome) H1 := by
  obtain ⟨env, st, cs, B, hs, ho⟩ := h
  refine ⟨env, st, cs, B, hs, (outG.bind ho).imp fun p e1 s1 cs1 B1 k1 v H1 sx1 pl1 => ?_⟩
  obtain ⟨y, k1, hy⟩ := outG.rsv k1
  have lk := hy sx1 pl1
  cases y with
  | str z => exact ⟨rfl, z, lk.str, k1.now _ H1 (sx1.fz (.bl _))⟩
  | _ => exact (show False from k1).elim
theorem tU_mvIx {a : Addr} (h : tU K x W (mvIxM qs mo) σ H Q) : tL K x W mo σ H fun y H1 => V.ref a = .ref a ∧ ∃ z i, y = .str z ∧ mvGet qs z = some i ∧ Q (.int i) H1 := by
  obtain ⟨env, st, cs, B, hs, ho⟩ := h
  refine ⟨env, st, cs, B, hs, (outG.bind ho).imp fun p e1 s1 cs1 B1 k1 v H1 sx1 pl1 => ?_⟩
  obtain ⟨y, k1, hy⟩ := outG.rsv k1
  have lk := hy sx1 pl1
  cases y with
  | str z =>
    dsimp only at k1
    cases hg : mvGet qs z with
    | none => rw [hg] at k1; exact (show False from k1).elim
    | some i =>
      rw [hg] at k1
      exact ⟨rfl, z, i, lk.str, hg, k1.now _ H1 (sx1.fz (.int i))⟩
  | _ => exact (show False from k1).elim
variable {n : Str} {md : MvT} {i : Nat} {a : Expr} {p pos : Pos}
theorem pe_mv (M : MvAt X.w X.K X.mg md) (hi : md[i]? = some (n, qs)) (hg : Gl X n) (hd : (n == ("__debug__" : Str)) = false := by decide) : PE X (.Name n p) (tC (.ref (ga X.K n))) := pe_glob hg (M.mg _ (List.mem_of_getElem? hi)) rfl hd
theorem wt_mvIn (M : MvAt X.w X.K X.mg md) (hi : md[i]? = some (n, qs)) (hg : Gl X n) (ha : PE X a (tL X.K x W mo)) (hd : (n == ("__debug__" : Str)) = false := by decide) (hm : behindInMarks .In (.Name n p) = false := by rfl) : PT X (.Compare a [.In] [.Name n p] pos) (tT X.K x W ((mvInM qs mo).bind bool1)) :=
  PT.imp (pt_cmpR (op_mvIn (M.ok _ (List.mem_of_getElem? hi))) ha (pe_mv M hi hg hd) hm) fun σ H Q h => tU_mvIn (tT_bool h)
theorem w_mvIx (M : MvAt X.w X.K X.mg md) (hi : md[i]? = some (n, qs)) (hg : Gl X n) (ha : PE X a (tL X.K x W mo)) (hn : nsl a = true := by rfl) (hd : (n == ("__debug__" : Str)) = false := by decide) : PE X (.Subscript (.Name n p) a pos) (tU X.K x W (mvIxM qs mo)) :=
  PE.imp (L2.pe_ix (ix_mv (M.ok _ (List.mem_of_getElem? hi))) (pe_mv M hi hg hd) ha (plain_of hn)) fun σ H Q h => tU_mvIx h
end
def obsVG (as : (Addr → Option Obj) → List Addr) (L : Ls2) (file : Str) (tx tp : List Tx) (md : MvT) (g : Addr → Option Obj) : AlC × (Bool × List (List Int)) :=
  (obsE L file tx tp g (He.frG g (as g)), (md.all (mvB (He.frG g (as g))), md.map fun p => mdH (He.frG g (as g)) p.1))
def hookV (as : (Addr → Option Obj) → List Addr) (L : Ls2) (file : Str) (tx tp : List Tx) (md : MvT) : PySem.W.Hook where
  α := AlC × (Bool × List (List Int))
  obs := fun s => obsVG as L file tx tp md s.heap.get?
  val := fun w => ((true, tx.map Tx.val ++ tp.map Tx.val), (true, md.map fun p => p.2.map fun q => PySem.hashStr w q.1))
  says := fun w h => ∃ K : Fg, K.In h ∧ SaysE L file tx tp K h ∧ ∀ p ∈ md, MvOk w K p
  of := fun _ _ e => ⟨_, He.frG_in, saysX_of (congrArg (fun z => z.1) e), fun p hp => ⟨List.all_eq_true.mp (congrArg (fun z => z.2.1) e) p hp, by
    have h := congrArg (fun z => z.2.2) e
    exact List.map_inj_left.mp h p hp⟩⟩
  keeps := fun _ _ _ ⟨K, hK, c, m⟩ k => ⟨K, PySem.W.Frag.In.keeps hK k, ⟨c.ex, c.tx, c.tp, fun m hm => k _ _ (c.tb m hm)⟩, m⟩
theorem obsVG_eq {as : (Addr → Option Obj) → List Addr} {L : Ls2} {file : Str} {tx tp : List Tx} {md : MvT} {g : Addr → Option Obj} {s : Shared} (h : ∀ a, g a = s.heap.get? a) : obsVG as L file tx tp md g = (hookV as L file tx tp md).obs s := by
  have e : g = s.heap.get? := funext h
  rw [e] <;> rfl
theorem mvAt_of {w : World} {K : Fg} {mg : Str → Option Value} {md : MvT} {h : Heap} (KX : K.In h) (G : h.Ns mainGlobals mg) (m : ∀ p ∈ md, MvOk w K p) : MvAt w K mg md := ⟨m, fun p hp => He.glo_ok KX G (ba (m p hp).1).1⟩
end Dn
end
section
set_option maxHeartbeats 200000
namespace Dn
open PySem PySem.Spec PyProof.Rows L2 NdefX
def leI : List Int → List Int → Bool
  | [], _ => true
  | _ :: _, [] => false
  | x :: xs, y :: ys => if x = y then leI xs ys else decide (x ≤ y)
theorem lex_sh {e r : Nat → Bool} {z : Bool} : ∀ (k i : Nat), Ob.lexAt e r z (i + 1) k = Ob.lexAt (fun j => e (j + 1)) (fun j => r (j + 1)) z i k
  | 0, _ => rfl
  | k + 1, i => by
    rw [Ob.lexAt_succ, Ob.lexAt_succ, lex_sh k (i + 1)]
theorem leI_at : ∀ (ns ms : List Int), Ob.lexAt (fun j => decide (ns.getD j 0 = ms.getD j 0)) (fun j => decide (ns.getD j 0 ≤ ms.getD j 0)) (decide (ns.length ≤ ms.length)) 0 (min ns.length ms.length) = leI ns ms
  | [], ms => by
    rw [List.length_nil, Nat.zero_min, Ob.lexAt_zero, decide_eq_true (Nat.zero_le _)]
    rfl
  | n :: ns, [] => rfl
  | n :: ns, m :: ms => by
    rw [List.length_cons, List.length_cons, Nat.succ_min_succ, Ob.lexAt_succ, lex_sh]
    have e : decide (ns.length + 1 ≤ ms.length + 1) = decide (ns.length ≤ ms.length) := decide_eq_decide.mpr (by omega)
    rw [e]
    show (if decide (n = m) = true then Ob.lexAt (fun j => decide (ns.getD j 0 = ms.getD j 0)) (fun j => decide (ns.getD j 0 ≤ ms.getD j 0)) (decide (ns.length ≤ ms.length)) 0 (min ns.length ms.length) else decide (n ≤ m)) = if n = m then leI ns ms else decide (n ≤ m)
    rw [leI_at ns ms]
    by_cases q : n = m
    · rw [if_pos q, if_pos (decide_eq_true q)]
    · rw [if_neg q, if_neg (by rw [decide_eq_false q]; decide)]
def tleD (a b : D) : Option Sl := match a, b with
  | .tup _ xs, .tup _ ys => match intsD xs, intsD ys with
    | some ns, some ms => some (.fz (.bl (leI ns ms)))
    | _, _ => none
  | _, _ => none
section
variable {X : Cx} {x : Fx} {W : WX} {a b : Expr} {pos : Pos} {ma mb : M Pl}
theorem tle_snd (a b : D) (r : Sl) (h : tleD a b = some r) : ∃ rr, rr = rLeT X.K ∧ Sound2 X.K x rr a b r := by
  unfold tleD at h
  split at h
  · rename_i m xs m' ys
    split at h
    · rename_i ns ms e1 e2
      cases h
      have e1 := intsD_some e1
      have e2 := intsD_some e2
      subst e1 e2
      refine ⟨_, rfl, s2_bl fun cs B H v w Q s l1 l2 q => ?_⟩
      obtain ⟨p, vs, rfl, _, t1, r1⟩ := l1.tup s
      obtain ⟨p2, ws, rfl, _, t2, r2⟩ := l2.tup s
      have z1 := RpL.ints r1
      have z2 := RpL.ints r2
      subst z1 z2
      exact ⟨p, p2, ns, ms, rfl, rfl, t1, t2, by rw [leI_at]; exact q⟩
    · cases h
  · cases h
theorem wt_tle (g : Gw X) (ha : PE X a (tL X.K x W ma)) (hb : PE X b (tL X.K x W mb)) (hm : behindInMarks .LtE b = false := by rfl) : PT X (.Compare a [.LtE] [b] pos) (tT X.K x W ((bin2 tleD ma mb).bind bool1)) :=
  PT.imp (pt_cmpR (op_leT (by have := g.un; omega)) ha hb hm) fun σ H Q q => by
    obtain ⟨rr, h1, h2⟩ := tU_bin2 (P := fun rr => rr = rLeT X.K) ⟨_, rfl⟩ (fun y z r h => tle_snd y z r h) (tT_bool q)
    subst h1
    exact h2
end
end Dn
end
section
set_option maxHeartbeats 4000000
namespace Dn
open PySem PySem.Spec PyProof.Rows L2
/-- as L2N.XE, held by L -/
def XEL (X : Cx) (L : Addr) (W : WX) (u : Value) (s' : Shared) : Prop :=
  ∃ (a : Addr) (B : Heap) (sI : Shared) (pins : List (Addr × Obj)) (σ : L2.St) (H : Hp) (cls : Value) (d : Option Addr),
    u = .ref a ∧ Inv X pins σ H sI ∧ (∀ b o, sI.heap.get? b = some o → b ∉ frs X.stack → B.get? b = some o) ∧ sI.heap.UpToSlots s'.heap ∧
      L2.Sky B X.stack a (L2N.Zn cls d) L s'.heap ∧ H a = none ∧ s'.os = sI.os ∧ AllBare s'.gens ∧ W cls d σ H
def TkL (X : Cx) (L : Addr) (W : WX) : Prop := ∀ u s', XEL X L W u s' → X.xe u s'
theorem TkL.of {X : Cx} {W : WX} (t : L2N.Takes X W) : TkL X X.env.locals W := fun u s' x => t u s' x
theorem TkL.to {X : Cx} {W : WX} (t : TkL X X.env.locals W) : L2N.Takes X W := fun u s' x => t u s' x
/-- what a word in such a block may ask -/
structure Gx (X : Cx) (W : WX) : Prop extends Gd X W where
  fr : ∃ (F : Addr) (e0 : PySem.Env) (l : List PySem.Env), X.env.frame = some F ∧ X.stack = e0 :: l ∧ e0.frame = some F ∧ TkL X F W
section
variable {X : Cx} {x : Fx} {W : WX} {elt tg iter : Expr} {ifs : List Expr} {scope : Scope} {own : List (Str × Nat)} {pos spos : Pos} {it : M (List D)} {t : D → M Unit} {c : M Bool} {el : M D}
theorem Gx.of (g : Gd X W) (hs : X.stack = X.env :: X.outer) (hf : X.env.frame = some X.env.locals) : Gx X W := ⟨g, _, _, _, hf, hs, hf, .of g.tk⟩
end
end Dn
end
section
set_option maxHeartbeats 4000000
namespace Dn
open PySem PySem.Spec PyProof.Rows L2
open He (ga ma)
end Dn
end
section
set_option maxHeartbeats 4000000
namespace Dn
open PySem PySem.Spec PyProof.Rows L2
open Builtin Builtin.Str
/-- at most one place -/
def rep1 (x y z : Str) : Str := if ((occurrences x y 0 x.length 1).isEmpty || (y.length == 0 && z.length == 0)) = true then x else glued z (partsBetween x (occurrences x y 0 x.length 1) y.length)
theorem rep1_len (x y z : Str) : (rep1 x y z).length ≤ x.length + z.length := by
  unfold rep1
  split
  · exact Nat.le_add_right _ _
  · have h1 := StrLaws.occ_length_le x y 0 x.length 1
    have hy : (glued y (partsBetween x (occurrences x y 0 x.length 1) y.length)).length = x.length := by rw [StrLaws.glued_between_self]
    rw [size_glued, length_partsBetween, Nat.add_sub_cancel] at hy
    rw [size_glued, length_partsBetween, Nat.add_sub_cancel]
    have h2 : (occurrences x y 0 x.length 1).length * z.length ≤ 1 * z.length := Nat.mul_le_mul_right _ h1
    omega
theorem gives_rep1 (x y z : Str) (t u v q : Tok) (hu : u ≠ 0) (hv : v ≠ 0) (huv : u ≠ v) (hyz : (y == z) = false) (hb : x.length + z.length ≤ 16777216) :
    Gives («str.replace» ⟨[.str x t, .str y u, .str z v, .int 1 q], []⟩) (if ((occurrences x y 0 x.length 1).isEmpty || (y.length == 0 && z.length == 0)) = true then .val (.str x t) else .str (rep1 x y z)) := by
  have hl : tooLong (x.length + (occurrences x y 0 x.length 1).length * z.length) = false := by
    have h1 := StrLaws.occ_length_le x y 0 x.length 1
    have h2 : (occurrences x y 0 x.length 1).length * z.length ≤ 1 * z.length := Nat.mul_le_mul_right _ h1
    unfold tooLong sizeLine
    have e : (2 : Nat) ^ 24 = 16777216 := by decide
    exact decide_eq_false (by omega)
  have hc : («str.replace» ⟨[.str x t, .str y u, .str z v, .int 1 q], []⟩) = (do
      let limit ← countLimit "str.replace" (some (.int 1 q)) (x.length + 1)
      if ((occurrences x y 0 x.length limit).isEmpty || (y.length == 0 && z.length == 0)) = true then (do rule "str.replace.nothing"; ret (.str x t)) else
          (do let same ← isSame (.str y u) (.str z v)
              if same = true then (do rule "str.replace.old-is-new"; ret (.str x t)) else
              if tooLong (x.length + (occurrences x y 0 x.length limit).length * z.length) = true then unsupported "str.replace:memory" else
              retStr (glued z (partsBetween x (occurrences x y 0 x.length limit) y.length)))) := rfl
  rw [hc, countLimit_int "str.replace" 1 q (x.length + 1) (by decide), if_neg (by decide)]
  show Gives (if ((occurrences x y 0 x.length 1).isEmpty || (y.length == 0 && z.length == 0)) = true then (do rule "str.replace.nothing"; ret (.str x t)) else
          (do let same ← isSame (.str y u) (.str z v)
              if same = true then (do rule "str.replace.old-is-new"; ret (.str x t)) else
              if tooLong (x.length + (occurrences x y 0 x.length 1).length * z.length) = true then unsupported "str.replace:memory" else
              retStr (glued z (partsBetween x (occurrences x y 0 x.length 1) y.length)))) _
  unfold rep1
  cases hc : ((occurrences x y 0 x.length 1).isEmpty || (y.length == 0 && z.length == 0))
  · rw [isSame_str_other y z u v (by simp [hu, hv]) (by simp [huv]) hyz, hl]
    exact .of_eq rfl
  · exact .rule (.of_eq rfl)
section
variable {prog : Program} {w : World} {A : Around} {E : Value → Shared → Prop} {s : Shared} {env : PySem.Env}
theorem Call_meth3 {o e₁ e₂ e₃ : Expr} {name : Str} {apos pos : Pos} {Q : Value → Shared → Prop}
    (hbase : attributeBase o name env (eval o env) = eval o env) (hs : starEach [e₁, e₂, e₃] env = [(false, eval e₁ env), (false, eval e₂ env), (false, eval e₃ env)]) (hline : (apos.endLine == pos.line) = true)
    (h : wpAny (model prog w) A (eval o env) (fun ov s₁ => MethodOnS prog w A E name ov pos [(false, eval e₁ env), (false, eval e₂ env), (false, eval e₃ env)] Q s₁) E s) :
    wpAny (model prog w) A (eval (.Call (.Attribute o name apos) [e₁, e₂, e₃] [] pos) env) Q E s := by
  refine wpAny_Call_method_lateS hbase (by rw [hs]; rfl) hline ?_
  rw [hs]; exact h
end
section
variable {X : Cx} {x : Fx} {W : WX} {o e a b : Expr} {te to : TE}
theorem PET.imp {t t' : TE} (h : PET X e t) (i : ∀ σ H Q, t' σ H Q → t σ H Q) : PET X e t' := fun pins s σ H Q h0 I q => h pins s σ H Q h0 I (i σ H Q q)
theorem PET.all {P : TE → Prop} (h : ∀ t, P t → PET X e t) : PET X e (fun σ H Q => ∃ t, P t ∧ t σ H Q) := fun pins s σ H Q h0 I ⟨t, p, q⟩ => h t p pins s σ H Q h0 I q
theorem PET.of' (h : PE X e te) : PET X e te := fun pins s σ H Q _ I q => h.run pins s σ H Q I q
theorem PAT.imp {es : List Expr} {t t' : TA} (h : PAT X es t) (i : ∀ σ H Q, t' σ H Q → t σ H Q) : PAT X es t' := fun pos pins s σ H Q h0 I q => h pos pins s σ H Q h0 I (i σ H Q q)
theorem PST.imp {st : Stmt} {t t' : TS} (h : PST X st t) (i : ∀ D σ H, t' D σ H → t D σ H) : PST X st t' := fun pins s σ H D h0 I q => h pins s σ H D h0 I (i D σ H q)
theorem PSsT.imp {st : List Stmt} {t t' : TS} (h : PSsT X st t) (i : ∀ D σ H, t' D σ H → t D σ H) : PSsT X st t' := fun pins s σ H D h0 I q => h pins s σ H D h0 I (i D σ H q)
def tRep1 (to : TE) (y z : Str) : TE := fun σ H Q => to σ H fun v H1 => ∃ x, v = .str x ∧ x.length + z.length ≤ 16777216 ∧ Q (.str (rep1 x y z)) H1
theorem pet_rep1 {y z : Str} {j k l : Nat} {c0 c1 c2 apos pos : Pos} (ho : PE X o to) (hyz : (y == z) = false)
    (hst : starEach [.Constant (.str y) j c0, .Constant (.str z) k c1, .Constant (.int 1) l c2] X.env = [(false, eval (.Constant (.str y) j c0) X.env), (false, eval (.Constant (.str z) k c1) X.env), (false, eval (.Constant (.int 1) l c2) X.env)])
    (hbase : attributeBase o "replace" X.env (eval o X.env) = eval o X.env) (hline : (apos.endLine == pos.line) = true) :
    PET X (.Call (.Attribute o "replace" apos) [.Constant (.str y) j c0, .Constant (.str z) k c1, .Constant (.int 1) l c2] [] pos) (tRep1 to y z) := by
  intro pins s σ H Q h0 I h
  refine Call_meth3 hbase hst hline ?_
  refine wpAny_mono (PySem.wpAny_toks (ho.run pins s σ H _ I h)) (fun v s1 q => ?_) fun _ _ z => z.2
  obtain ⟨hk, v', H1, I1, r1, x, e1, hb, q⟩ := q
  subst e1
  obtain ⟨tx, e2⟩ := r1
  subst e2
  refine ⟨"str", _, PySem.F.plainAttrs_str, PySem.F.slot_str_replace, PySem.F.type_str_replace, typeIs_str _ _ _, (fun _ e => nomatch e), Calls.callWith_builtin rfl (Calls.evalArgs_plain (Calls.spliced_cons ?_))⟩
  refine Calls.Constant_str (Calls.spliced_cons (Calls.Constant_str (Calls.spliced_cons (wpAny_Constant_int (Calls.spliced_nil ?_)))))
  refine call_gives PySem.F.slot_str_replace (typeIs_str _ _ _) PySem.F.entry_str_replace (PySem.F.args_str_replace_4 _ _ _ _)
    (gives_rep1 x y z _ _ _ _ (by show s1.toks ≠ 0; omega) (by show s1.toks + 1 ≠ 0; omega) (by show s1.toks ≠ s1.toks + 1; omega) hyz hb) ?_
  have fin : ∀ (t' k : Nat), EP X pins σ Q (.str (rep1 x y z) t') { s1 with toks := k } := fun t' k => ⟨.str (rep1 x y z), H1, I1.tok k, ⟨t', rfl⟩, q⟩
  cases hc : ((occurrences x y 0 x.length 1).isEmpty || (y.length == 0 && z.length == 0))
  · refine ⟨?_, fin _ _⟩
    have := rep1_len x y z
    rw [sizeLine_eq]; omega
  · have ex : rep1 x y z = x := by unfold rep1; rw [if_pos hc]
    rw [ex] at fin
    exact fin _ _
def repM (y z : Str) (mo : M D) : M Sl := mo.bind fun d => match d with
  | .str x => if x.length + z.length ≤ 16777216 then M.ret (.fz (.str (rep1 x y z))) else M.stuck
  | _ => M.stuck
variable {mo ma mb : M D} {pos apos : Pos}
theorem wT_rep1 {y z : Str} {j k l : Nat} {c0 c1 c2 : Pos} (ho : PE X o (tV X.K x W mo)) (hyz : (y == z) = false := by decide)
    (hst : starEach [.Constant (.str y) j c0, .Constant (.str z) k c1, .Constant (.int 1) l c2] X.env = [(false, eval (.Constant (.str y) j c0) X.env), (false, eval (.Constant (.str z) k c1) X.env), (false, eval (.Constant (.int 1) l c2) X.env)] := by rfl)
    (hbase : attributeBase o "replace" X.env (eval o X.env) = eval o X.env := by rfl) (hline : (apos.endLine == pos.line) = true := by rfl) :
    PET X (.Call (.Attribute o "replace" apos) [.Constant (.str y) j c0, .Constant (.str z) k c1, .Constant (.int 1) l c2] [] pos) (tU X.K x W (repM y z mo)) :=
  PET.imp (pet_rep1 ho hyz hst hbase hline) fun σ H Q ⟨env, st, cs, B, hs, hq⟩ => ⟨env, st, cs, B, hs, (outG.bind hq).imp fun d e1 s1 cs1 B1 k v H1 sx r => by
    cases d with
    | str w =>
      cases r
      have k : outG X.K x W σ cs1 B1 ((if w.length + z.length ≤ 16777216 then M.ret (Sl.fz (.str (rep1 w y z))) else M.stuck) e1 s1) (qU X.K x σ Q) := k
      by_cases hw : w.length + z.length ≤ 16777216
      · rw [if_pos hw] at k
        exact ⟨w, rfl, hw, (show outG X.K x W σ cs1 B1 (.ok (Sl.fz (.str (rep1 w y z))) e1 s1) (qU X.K x σ Q) from k).now _ _ (sx.fz (.str _))⟩
      · rw [if_neg hw] at k; exact (show False from k).elim
    | _ => exact (show False from k).elim⟩
theorem wT_frz {m : M Sl} (h : PET X e (tU X.K x W m)) : PET X e (tV X.K x W (frzM m)) := PET.imp h fun _ _ _ q => tU_of_tV q
theorem wT_look {m : M D} (h : PET X e (tV X.K x W m)) : PET X e (tL X.K x W (lookM m)) := PET.imp h fun _ _ _ q => tV_of_tL q
theorem wT_bin {op : Operator} {ma mb : M Pl} (ha : PET X a (tL X.K x W ma)) (hb : PET X b (tL X.K x W mb)) : PET X (.BinOp a op b pos) (tU X.K x W (bin2 (binD op) ma mb)) :=
  PET.imp (PET.all (P := fun t => ∃ rr, OpR X (binaryOp op) rr ∧ t = tOp rr (tL X.K x W ma) (tL X.K x W mb)) fun t ⟨rr, h1, h2⟩ => by subst h2; exact CwR.pet_op h1 ha hb) fun σ H Q q => by
    obtain ⟨rr, h1, h2⟩ := tU_bin2 (bin_any op) (fun _ _ _ h => bin_ok op _ _ _ h) q
    exact ⟨_, ⟨rr, h1, rfl⟩, h2⟩
theorem paT_nil : PAT X [] (tA X.K x W (argsV [])) := fun pos pins s σ H Q _ I q => pa_nilV.run pos pins s σ H Q I q
theorem paT_cons {es : List Expr} {m : M D} {ms : List (M D)} (hn : nst e = true) (he : PET X e (tV X.K x W m)) (hr : PAT X es (tA X.K x W (argsV ms))) : PAT X (e :: es) (tA X.K x W (argsV (m :: ms))) :=
  PAT.imp (pat_cons he hr (nst_ok hn)) fun σ H Q ⟨env, st, cs, B, hs, ho⟩ =>
    ⟨env, st, cs, B, hs, (outG.bind ho).imp fun d e s cs1 B1 k v H1 sx1 r1 => ⟨e, s, cs1, B1, sx1, (outG.bind k).imp' fun ds e2 s2 cs2 B2 _ sb pr k2 vs H2 sx2 r2 => k2.now (v :: vs) H2 sx2 (.cons (r1.mono sb pr) r2)⟩⟩
theorem wT_lst {es : List Expr} {m : M (List D)} (h : PAT X es (tA X.K x W m)) : PET X (.List es pos) (tU X.K x W (lstM m)) :=
  PET.imp (pet_lst h) fun σ H Q ⟨env, st, cs, B, hs, ho⟩ => ⟨env, st, cs, B, hs, (outG.bind ho).imp fun ds e s cs1 B1 k vs H1 sx1 r1 => by
    have hl : ds.length ≤ sizeLine := by
      obtain ⟨r, hr, _⟩ := outG.lift k
      exact of_decide_eq_true (grd_some hr).1
    unfold M.lift grd at k
    rw [if_pos (decide_eq_true hl)] at k
    refine ⟨by rw [r1.len]; exact hl, fun p hp => ?_⟩
    exact (show outG X.K x W σ cs1 B1 (.ok (Sl.ow (.lst ds)) e s) (qU X.K x σ Q) from k).now _ _ (sx1.own (Gr.own sx1.s hp) hp ⟨vs, upd_same, free_b sx1.s hp, r1⟩)⟩
theorem pst_set {i : Nat} {n : Str} {pos' : Pos} (hN : X.N.Nodup) (hi : X.N[i]? = some n) (hx : Loc X.env.scope n) (he : PET X e te) (hs : swapsWith e (some (.Name n pos')) pos.line X.env = pure false) (hf : X.fn n = true ∨ X.env.scope.names.lookup n = some .local) :
    PST X (.Assign [.Name n pos'] e pos) (tAsg te (gName i)) := by
  intro pins s σ H D h0 I h
  refine wpAny_Assign_Name (thn (he pins s σ H _ h0 I h) fun v s1 ⟨y, H1, I1, r1, q1⟩ => ?_) hs
  exact store_ok I1 hN hi hx r1 (fun s2 I2 => ⟨_, H1, I2, q1⟩) hf
theorem sT_set (g : Gw X) {i : Nat} {n : Str} {p2 : Pos} {m : M Sl} (hi : X.N[i]? = some n) (hx : Loc X.env.scope n) (he : PET X e (tU X.K x W m)) (hs : swapsWith e (some (.Name n p2)) pos.line X.env = pure false := by rfl) (hf : X.fn n = true ∨ X.env.scope.names.lookup n = some .local := by first | exact .inl rfl | exact .inr rfl) : PST X (.Assign [.Name n p2] e pos) (tS X.K x W (asgN i m)) :=
  PST.imp (pst_set g.nd hi hx he hs hf) fun D σ H h => tS_asgN h
theorem PST.asgZ {st : Stmt} {i : Nat} {m : M Sl} (h : PST X st (tS X.K x W (asgN i m))) : PST X st (tS X.K x W (asgZ i m)) := PST.imp h fun _ _ _ q => tS_asgZ q
theorem psT_seqS {st : Stmt} {rest : List Stmt} {m n : M Fw} (h1 : PST X st (tS X.K x W m)) (h2 : PSsT X rest (tS X.K x W n)) : PSsT X (st :: rest) (tS X.K x W (seqM m n)) :=
  PSsT.imp (psst_cons h1 h2) fun D σ H ⟨env, st, cs, B, hs, ho⟩ => ⟨env, st, cs, B, hs, (outS.bind ho).imp fun f e s cs' B' _ _ k => seq_out k⟩
def strF : List D → Option Sl
  | [.int i] => grd (decide (-1000 ≤ i) && decide (i ≤ 1000)) (.fz (.str (toString i)))
  | _ => none
theorem str_ok : CallOk X (.type "str") strF x := fun ds r h => by
  unfold strF at h
  split at h
  · rename_i i
    obtain ⟨h1, rfl⟩ := grd_some h
    rw [Bool.and_eq_true, decide_eq_true_eq, decide_eq_true_eq] at h1
    refine ⟨_, call_str_int, (fun z => nomatch z), fun cs B H vs Q s l0 p => ?_⟩
    obtain ⟨v, rfl, l⟩ := lk1 l0
    refine ⟨i, by rw [l.int], ?_, p _ B H (Gr.refl s) (.str _)⟩
    by_cases h0 : i.natAbs = 0
    · rw [h0]; decide
    · have : i.natAbs < 2 ^ 1920 := Nat.lt_of_le_of_lt (show i.natAbs ≤ 1000 by omega) (by decide +kernel)
      exact (Nat.log2_lt h0).mpr this
  · cases h
theorem w_str_int {p : Pos} {m : M (List Pl)} {es : List Expr} (hg : Gl X "str") (hm : X.mg "str" = none) (hs : (e :: es).all nst = true) (ha : PA X (e :: es) (tN X.K x W m)) : PE X (.Call (.Name "str" p) (e :: es) [] pos) (tU X.K x W (bltM strF m)) :=
  pe_bltT (by decide +kernel) (by decide) (by decide) str_ok hg hm hs ha
def ordF : List D → Option Sl
  | [.str z] => grd (decide (z.length = 1)) (.fz (.int (z.cps.getD 0 0 : Nat)))
  | _ => none
theorem ord_ok : CallOk X (.builtin "ord") ordF x := fun ds r h => by
  unfold ordF at h
  split at h
  · obtain ⟨h1, rfl⟩ := grd_some h
    refine ⟨_, call_ord, (fun z => nomatch z), fun cs B H vs Q s l0 p => ?_⟩
    obtain ⟨v, rfl, l⟩ := lk1 l0
    exact ⟨_, by rw [l.str], of_decide_eq_true h1, p _ B H (Gr.refl s) (.int _)⟩
  · cases h
theorem w_ord {p : Pos} {m : M (List Pl)} {es : List Expr} (hg : Gl X "ord") (hm : X.mg "ord" = none) (hs : (e :: es).all nst = true) (ha : PA X (e :: es) (tN X.K x W m)) : PE X (.Call (.Name "ord" p) (e :: es) [] pos) (tU X.K x W (bltM ordF m)) :=
  pe_bltB (by decide +kernel) (by decide) (by decide) ord_ok hg hm hs ha
/-- len, also while an error is handled -/
theorem w_lenQ {p : Pos} {m : M (List Pl)} {es : List Expr} (hg : Gl X "len") (hm : X.mg "len" = none) (hs : (e :: es).all nst = true) (ha : PA X (e :: es) (tN X.K x W m)) : PE X (.Call (.Name "len" p) (e :: es) [] pos) (tU X.K x W (bltM lenF m)) :=
  pe_bltB (by decide +kernel) (by decide) (by decide) len_ok hg hm hs ha
def upM (mo : M D) : M Sl := mo.bind fun d => match d with
  | .str y => if y.length ≤ 5592405 then M.ret (.fz (.str (Txt.upper y))) else M.stuck
  | _ => M.stuck
theorem w_upper (ho : PE X o (tV X.K x W mo)) (hbase : attributeBase o "upper" X.env (eval o X.env) = eval o X.env := by rfl) (hline : (apos.endLine == pos.line) = true := by rfl) :
    PE X (.Call (.Attribute o "upper" apos) [] [] pos) (tU X.K x W (upM mo)) :=
  PE.imp (pe_upper ho hbase hline) fun σ H Q ⟨env, st, cs, B, hs, hq⟩ => ⟨env, st, cs, B, hs, (outG.bind hq).imp fun d e1 s1 cs1 B1 k v H1 sx r => by
    cases d with
    | str w =>
      cases r
      have k : outG X.K x W σ cs1 B1 ((if w.length ≤ 5592405 then M.ret (Sl.fz (.str (Txt.upper w))) else M.stuck) e1 s1) (qU X.K x σ Q) := k
      by_cases hw : w.length ≤ 5592405
      · rw [if_pos hw] at k
        exact ⟨⟨w, rfl⟩, w, rfl, rfl, hw, (show outG X.K x W σ cs1 B1 (.ok (Sl.fz (.str (Txt.upper w))) e1 s1) (qU X.K x σ Q) from k).now _ _ (sx.fz (.str _))⟩
      · rw [if_neg hw] at k; exact (show False from k).elim
    | _ => exact (show False from k).elim⟩
/-- a text so many times -/
def manyS (a : Str) (k : Nat) : Str := ⟨(List.replicate k a.cps).foldl (· ++ ·) #[]⟩
def smuD : D → D → Option Sl
  | .str a, .int n => grd (decide (2 ≤ n) && (decide (n ≤ 100000) && decide (a.length = 1))) (.fz (.str (manyS a n.toNat)))
  | _, _ => none
theorem fold_len : ∀ (k : Nat) (a acc : Array Nat), ((List.replicate k a).foldl (· ++ ·) acc).size = acc.size + k * a.size
  | 0, a, acc => by simp
  | k + 1, a, acc => by
    rw [List.replicate_succ, List.foldl_cons, fold_len k a, Array.size_append, Nat.succ_mul]
    omega
theorem op_smu : OpR X (binaryOp .Mult) (fun x y H Q => ∃ (a : Str) (n : Int), x = .str a ∧ y = .int n ∧ 2 ≤ n ∧ n ≤ 100000 ∧ a.length = 1 ∧ Q (.str (manyS a n.toNat)) H) := by
  intro pins s σ H x y v u Q I rx ry h
  obtain ⟨a, n, rfl, rfl, h1, h2, ha, q⟩ := h
  obtain ⟨t, rfl⟩ := rx
  obtain ⟨t', rfl⟩ := ry
  have e1 : decide (n < -(2 ^ 63 : Int)) = false := decide_eq_false (by omega)
  have e2 : decide (n ≥ 2 ^ 63) = false := decide_eq_false (by omega)
  have hn : ¬ n < 1 := by omega
  have hne : (n == 1 || a.length == 0) = false := by
    rw [ha, Bool.or_eq_false_iff]
    exact ⟨by simpa using (show n ≠ 1 by omega), rfl⟩
  have hnn : n.toNat ≤ 100000 := by omega
  refine P.mul_str (by rw [e1, e2]; rfl) (fun _ _ => ?_) (fun _ _ => ?_) ?_
  · rw [ha]
    have : (1 : Int) ≤ (2 ^ 63 - 1) / n := (Int.le_ediv_iff_mul_le (by omega)).mpr (by omega)
    intro z
    have z' : ((1 : Nat) : Int) > (2 ^ 63 - 1) / n := z
    omega
  · unfold tooLong sizeLine
    have e : (2 : Nat) ^ 24 = 16777216 := by decide
    rw [ha]
    exact decide_eq_false (by omega)
  · rw [if_neg hn, hne]
    have hl : (manyS a n.toNat).length = n.toNat := by
      show ((List.replicate n.toNat a.cps).foldl (· ++ ·) #[]).size = _
      rw [fold_len, show a.cps.size = 1 from ha]
      simp
    refine ⟨?_, .str (manyS a n.toNat), H, I.tok _, ⟨_, rfl⟩, q⟩
    show (manyS a n.toNat).length ≤ sizeLine
    rw [hl, sizeLine_eq]; omega
theorem smu_ok (a b : D) (r : Sl) (h : smuD a b = some r) : ∃ rr, OpR X (binaryOp .Mult) rr ∧ Sound2 X.K x rr a b r := by
  unfold smuD at h
  split at h
  · obtain ⟨h1, rfl⟩ := grd_some h
    simp only [Bool.and_eq_true, decide_eq_true_eq] at h1
    exact ⟨_, op_smu, (fun z => nomatch z), fun cs B H v w Q s l1 l2 p => ⟨_, _, l1.str, l2.int, h1.1, h1.2.1, h1.2.2, p _ B H (Gr.refl s) (.str _)⟩⟩
  · cases h
theorem w_smu {ma mb : M Pl} (ha : PE X a (tL X.K x W ma)) (hb : PE X b (tL X.K x W mb)) : PE X (.BinOp a .Mult b pos) (tU X.K x W (bin2 smuD ma mb)) := pe_bin2 (bin_any .Mult) (fun _ _ _ h => smu_ok _ _ _ h) ha hb
end
section
variable {P : Program} {w : World} {K : Fg} {mg : Str → Option Value} {base : Heap} {T : List NTb} {ca : Str → Addr}
theorem def_okT1 {n qual : Str} {st : Stmt} {f : Addr} {fd : FuncData} {N ps : List Str} {k np : Nat} {m : M Fw} (hps : ps.length = np) (F : Fun K n qual st f fd) (S : FnScope N ps (defScope st)) (hnc : ∀ y ∈ (defScope st).names, y.2 ≠ .cell) (h1 : 1 ≤ ps.length)
    (hb : ∀ (X : Cx) (E : XK) (x : Fx) (cdv : Value) (A : Around) (outer : List PySem.Env) (s : Shared) (H : Hp), X = cxOf (L2N.CX P w) P w K mg base N qual (defScope st) f cdv A outer s H E → x.T = T → x.ca = ca → Bd X (WQ E) k → PSsT X (defBody st) (tS X.K x (WQ E) m)) :
    FnOk P w K mg base (L2N.CX P w) (k + 1) f fd ps (spF K T ca (bodyC np N m)) := by
  obtain ⟨oc, od, kV, doc, pm, an, cdv, ct, osl, rfl, lk, hcd⟩ := F.ex
  refine fn_ofT lk hcd S hnc h1 (fun vs H Q E h => by rw [sp_len h, hps]) fun A outer s H vs Q E hr hsp => ?_
  obtain ⟨x, h1, h2, h3⟩ := body_ok (X := cxOf (L2N.CX P w) P w K mg base N qual (defScope st) f cdv A outer s H E) hsp
  refine ⟨_, hb _ E x cdv A outer s H rfl h1 h2 ⟨⟨⟨?_, S.nd⟩, rfl, L2N.takes_of rfl rfl rfl rfl⟩, passes_of rfl, hr⟩, h3⟩
  have := hr.un
  show (A.deeper _).units + 65 < cLine
  omega
end
end Dn
end
section
set_option maxHeartbeats 200000
namespace My
open PySem L2 Dn
open He (ga ma)
abbrev PR : Program := PySem.Challenge.pw_everyboard_k15_texts_nearly_good
def topS (i : Nat) : Stmt := PR.main.body.getD i (.Pass ⟨0, 0, 0, 0⟩)
def md_VALUES : List (Str × Int) := [("-6", -6), ("-5", -5), ("-4", -4), ("-3", -3), ("-2", -2), ("-1", -1), ("+0", 0), ("+1", 1), ("+2", 2), ("+3", 3), ("+4", 4), ("+5", 5), ("+6", 6)]
def mds : MvT := [("VALUES", md_VALUES)]
def lst : Ls2 := { cl := ["Book"], na := [("Book", "modes"), ("Book", "moves")], mt := [("Book", "__init__"), ("Book", "__eq__")], pr := [], cv := [("Book", "MODES", 3), ("Book", "REACH", 6), ("Book", "MOST", 8)], gi := [], gs := [("LETTERS", "abcdefghijklmnopqrstuvwxyz")], nf := [("Book", "Book")], ko := [("Book", "Book", true)], kb := [("NoneType", "Book", false), ("bool", "Book", false), ("int", "Book", false), ("str", "Book", false), ("tuple", "Book", false), ("list", "Book", false), ("dict", "Book", false)], lm := ["checked_moves", "_law_lines"], kd := [], cm := [], ic := [],   l := { fr := ["all", "len", "super", "tuple", "enumerate", "list", "sorted", "isinstance", "int", "str", "range", "ord", "bool", "ValueError"], gl := ["InvalidBook", "BoardError", "InvalidText"], df := [("is_mode" : Str), ("checked_modes" : Str), ("is_move" : Str), ("move_key" : Str), ("checked_moves" : Str), ("parse_modes" : Str), ("parse_move" : Str), ("parse_book" : Str), ("_law_cell" : Str), ("_law_source" : Str), ("_law_draw" : Str), ("_law_sign" : Str), ("_law_mark" : Str), ("_law_lines" : Str), ("_law_is_mode" : Str), ("_law_modes" : Str), ("_law_value" : Str), ("_law_move" : Str), ("_law_due" : Str), ("_law_changed" : Str), ("_law_head" : Str), ("law" : Str)], er := ["InvalidBook", "InvalidText"], kt := [("InvalidBook", "InvalidBook", true), ("InvalidBook", "BoardError", true), ("InvalidText", "InvalidBook", false), ("InvalidText", "BoardError", true)], vt := [("InvalidBook", "ValueError", true), ("InvalidText", "ValueError", true)], bt := [("NoneType", "bool", false), ("bool", "bool", true), ("int", "bool", false), ("str", "bool", false), ("tuple", "bool", false), ("list", "bool", false), ("dict", "bool", false)], xt := [("InvalidBook", "InvalidText", false), ("InvalidText", "InvalidText", true)], no := [("InvalidBook", "part"), ("InvalidText", "line")] } }
def s_g_is_mode : Stmt := topS 8
def s_g_checked_modes : Stmt := topS 9
def s_g_is_move : Stmt := topS 10
def s_g_move_key : Stmt := topS 11
def s_g_checked_moves : Stmt := topS 12
def s_Book_init : Stmt := inClass (topS 13) 3
def s_Book_eq : Stmt := inClass (topS 13) 15
def s_g_parse_modes : Stmt := topS 16
def s_g_parse_move : Stmt := topS 17
def s_g_parse_book : Stmt := topS 18
def s_law_cell : Stmt := topS 20
def s_law_source : Stmt := topS 21
def s_law_draw : Stmt := topS 22
def s_law_sign : Stmt := topS 25
def s_law_mark : Stmt := topS 23
def s_law_lines : Stmt := topS 24
def s_law_is_mode : Stmt := topS 27
def s_law_modes : Stmt := topS 28
def s_law_value : Stmt := topS 29
def s_law_move : Stmt := topS 30
def s_law_due : Stmt := topS 31
def s_law_changed : Stmt := topS 26
def s_law_head : Stmt := topS 32
def s_g_law : Stmt := topS 33
def i_InvalidBook : Stmt := inClass (topS 3) 0
def i_InvalidText : Stmt := inClass (topS 4) 0
def txs : List Tx := [dfTx "is_mode" s_g_is_mode, dfTx "checked_modes" s_g_checked_modes, dfTx "is_move" s_g_is_move, dfTx "move_key" s_g_move_key, dfTx "checked_moves" s_g_checked_moves, mtTx "Book" "__init__" s_Book_init, mtTx "Book" "__eq__" s_Book_eq, dfTx "parse_modes" s_g_parse_modes, dfTx "parse_move" s_g_parse_move, dfTx "parse_book" s_g_parse_book, dfTx "_law_cell" s_law_cell, dfTx "_law_source" s_law_source, dfTx "_law_draw" s_law_draw, dfTx "_law_sign" s_law_sign, dfTx "_law_mark" s_law_mark, dfTx "_law_lines" s_law_lines, dfTx "_law_is_mode" s_law_is_mode, dfTx "_law_modes" s_law_modes, dfTx "_law_value" s_law_value, dfTx "_law_move" s_law_move, dfTx "_law_due" s_law_due, dfTx "_law_changed" s_law_changed, dfTx "_law_head" s_law_head, dfTx "law" s_g_law, inTx0 "InvalidBook" i_InvalidBook, inTx0 "InvalidText" i_InvalidText]
def tps : List Tx := []
theorem her_k : ∀ p ∈ lst.l.kt, p.1 ∈ lst.l.er := by decide +kernel
theorem her_v : ∀ p ∈ lst.l.vt, p.1 ∈ lst.l.er := by decide +kernel
theorem her_n : ∀ p ∈ lst.l.no, p.1 ∈ lst.l.er := by decide +kernel
theorem her_na : ∀ p ∈ lst.na, p.1 ∈ lst.cl := by decide +kernel
theorem her_ko : ∀ p ∈ lst.ko, p.1 ∈ lst.cl := by decide +kernel
end My
end
section
set_option maxHeartbeats 0
namespace My
open PySem PySem.Spec PyProof.Rows L2 Dn
open He (ga)
abbrev R : PySem.W.OpenRow := PySem.W.OpenLaw.row PySem.Challenge.rw_everyboard_k15_texts_nearly_good
def loose0 : List Str := ["__name__", "_wall", "BoardError", "InvalidBook", "InvalidText", "InvalidMove", "LETTERS", "is_mode", "checked_modes", "is_move", "move_key", "checked_moves", "Book", "VALUES", "parse_modes"]
def loose1 : List Str := ["parse_move", "parse_book", "_law_cell", "_law_source", "_law_draw", "_law_mark", "_law_lines", "_law_sign", "_law_changed", "_law_is_mode", "_law_modes", "_law_value", "_law_move", "_law_due", "_law_head"]
def loose : List Str := loose0 ++ loose1
abbrev hk : PySem.W.Hook := hookV (asF 5) lst PR.main.file txs tps mds
def ob (s : PySem.W.SharedT) : AlC × (Bool × List (List Int)) := obsVG (asF 5) lst PR.main.file txs tps mds (HandSHeadRun.getT s)
theorem ob_eq (s : PySem.W.SharedT) : ob s = hk.obs s.abs := obsVG_eq (HandSHeadRun.getT_eq s)
/-- a world whose answer to one question is b -/
def wB (b : Bool) (w : World) : World := { w with params := { w.params with followText := fun z => cond (z == "special-get-raises") b (w.params.followText z) } }
theorem wB_self (w : World) : wB (w.params.followText "special-get-raises") w = w := by
  have h : (fun z => cond (z == "special-get-raises") (w.params.followText "special-get-raises") (w.params.followText z)) = w.params.followText := by
    funext z
    by_cases e : z = "special-get-raises"
    · subst e; simp
    · rw [beq_eq_false_iff_ne.mpr e]; rfl
  unfold wB
  rw [h]
theorem run0 (w : World) : HandSHeadRun.RunEq R (PySem.W.view R.prog [33]) hk ob 8000 loose (wB false w) := by
  intro os
  kernel_rfl
theorem run1 (w : World) : HandSHeadRun.RunEq R (PySem.W.view R.prog [33]) hk ob 8000 loose (wB true w) := by
  intro os
  kernel_rfl
theorem run (w : World) : HandSHeadRun.RunEq R (PySem.W.view R.prog [33]) hk ob 8000 loose w := by
  have h : HandSHeadRun.RunEq R (PySem.W.view R.prog [33]) hk ob 8000 loose (wB (w.params.followText "special-get-raises") w) := by
    cases w.params.followText "special-get-raises" with
    | false => exact run0 w
    | true => exact run1 w
  rw [wB_self] at h
  exact h
end My
end
section
set_option maxHeartbeats 200000
namespace Dn
open PySem
theorem nrf {α : Sort _} {a b : α} (h : a = b) : a = b := h
abbrev PQ (α : Type) := α → Env → List D → Prop
abbrev PX := Str → Flds → Env → List D → Prop
inductive wp {α : Type} : Out α → PQ α → PX → Prop
  | ok {a : α} {e : Env} {s : List D} {Q : PQ α} {X : PX} (h : Q a e s) : wp (.ok a e s) Q X
  | exn {c : Str} {f : Flds} {e : Env} {s : List D} {Q : PQ α} {X : PX} (h : X c f e s) : wp (.exn c f e s) Q X
def nX : PX := fun _ _ _ _ => False
section
variable {α β : Type} {Q : PQ α} {X : PX} {e e' : Env} {s s' : List D}
theorem wp_ok {a : α} : wp (.ok a e s) Q X = Q a e s := propext ⟨fun h => by cases h; assumption, .ok⟩
theorem wp_exn {c : Str} {f : Flds} : wp (.exn c f e s : Out α) Q X = X c f e s := propext ⟨fun h => by cases h; assumption, .exn⟩
theorem wp_stuck : wp (.stuck : Out α) Q X = False := propext ⟨fun h => (nomatch h), False.elim⟩
def bQ (k : α → M β) (Q : PQ β) (X : PX) : PQ α := fun a e s => wp (k a e s) Q X
theorem bQ_app {k : α → M β} {Q : PQ β} {a : α} : bQ k Q X a e s = wp (k a e s) Q X := nrf rfl
theorem wp_bind {m : M α} {k : α → M β} {Q : PQ β} : wp (M.bind m k e s) Q X = wp (m e s) (bQ k Q X) X := by
  unfold M.bind
  cases m e s with
  | stuck => rw [wp_stuck, wp_stuck]
  | ok a e s => rw [wp_ok]; rfl
  | exn c f e s => rw [wp_exn, wp_exn]
theorem wp_imp {o : Out α} {Q' : PQ α} {X' : PX} (h : wp o Q X) (i : ∀ a e s, Q a e s → Q' a e s) (j : ∀ c f e s, X c f e s → X' c f e s) : wp o Q' X' := by
  cases h with
  | ok h => exact .ok (i _ _ _ h)
  | exn h => exact .exn (j _ _ _ _ h)
theorem wp_of {o : Out α} {Q : PQ α} (h : wp o Q nX) : ∃ a e s, o = .ok a e s ∧ Q a e s := by
  cases h with
  | ok h => exact ⟨_, _, _, rfl, h⟩
  | exn h => exact h.elim
theorem ret_app {a : α} : M.ret a e s = .ok a e s := nrf rfl
theorem stuck_app : (M.stuck : M α) e s = .stuck := nrf rfl
theorem lift_some {a : α} : M.lift (some a) e s = .ok a e s := nrf rfl
theorem lift_none : (M.lift (none : Option α)) e s = .stuck := nrf rfl
theorem wp_grdO {c : Prop} [Decidable c] {o : Option α} : wp (M.lift (if c then o else none) e s) Q X = (c ∧ wp (M.lift o e s) Q X) := by
  by_cases h : c
  · rw [if_pos h]; exact propext ⟨fun z => ⟨h, z⟩, fun z => z.2⟩
  · rw [if_neg h, lift_none, wp_stuck]; exact propext ⟨fun z => z.elim, fun z => absurd z.1 h⟩
theorem wp_lmap {γ : Type} {f : γ → α} {o : Option γ} : wp (M.lift (Option.map f o) e s) Q X = ∃ a, o = some a ∧ Q (f a) e s := by
  cases o with
  | none =>
    show wp (M.lift none e s) Q X = _
    rw [lift_none, wp_stuck]; exact propext ⟨fun z => z.elim, fun ⟨_, z, _⟩ => nomatch z⟩
  | some a =>
    show wp (M.lift (some _) e s) Q X = _
    rw [lift_some, wp_ok]; exact propext ⟨fun z => ⟨a, rfl, z⟩, fun ⟨_, z, q⟩ => by cases z; exact q⟩
theorem ite_app {c : Prop} [Decidable c] {m n : M α} : (if c then m else n) e s = if c then m e s else n e s := by split <;> rfl
theorem wp_ite {c : Prop} [Decidable c] {o p : Out α} : wp (if c then o else p) Q X = if c then wp o Q X else wp p Q X := by split <;> rfl
end
section
variable {Q : PQ Fw} {QS : PQ Sl} {QD : PQ D} {QP : PQ Pl} {QB : PQ Bool} {QL : PQ (List D)} {QU : PQ Unit} {X : PX} {e : Env} {s : List D} {i : Nat}
theorem seqM_app {m n : M Fw} : seqM m n e s = M.bind m (seqK n) e s := nrf rfl
theorem ifS_app {t : M Bool} {m n : M Fw} : ifS t m n e s = M.bind t (fun b => if b then m else n) e s := nrf rfl
theorem retS_app {m : M Sl} : retS m e s = M.bind m (fun r => M.ret (.rt r)) e s := nrf rfl
theorem exprS_app {m : M Sl} : exprS m e s = M.bind m (fun _ => M.ret .nx) e s := nrf rfl
theorem asgN_app {m : M Sl} : asgN i m e s = M.bind m (setN i) e s := nrf rfl
theorem setN_app {r : Sl} : setN i r e s = .ok .nx (e.set i r) s := nrf rfl
theorem asgC_app {m : M Sl} : asgC i m e s = M.bind m (setC i) e s := nrf rfl
theorem setC_ow {d : D} : setC i (.ow d) e s = .ok .nx (e.set i (.fz (.cell s.length))) (s ++ [d]) := nrf rfl
theorem setC_fz {d : D} : setC i (.fz d) e s = .ok .nx (e.set i (.fz d)) s := nrf rfl
theorem asgG_app {t : D → M Unit} {m : M D} : asgG t m e s = M.bind m (fun d => (t d).bind fun _ => M.ret .nx) e s := nrf rfl
theorem tgN_app {d : D} : tgN i d e s = .ok () (e.set i (.fz d)) s := nrf rfl
theorem tgT_app {n : Nat} {ts : List (D → M Unit)} {m : Bool} {xs : List D} : tgT n ts (.tup m xs) e s = (if xs.length = n then tgs ts xs else M.stuck) e s := nrf rfl
theorem tgs_nil : tgs [] [] e s = .ok () e s := nrf rfl
theorem tgs_cons {t : D → M Unit} {ts : List (D → M Unit)} {d : D} {ds : List D} : tgs (t :: ts) (d :: ds) e s = M.bind (t d) (fun _ => tgs ts ds) e s := nrf rfl
theorem tgS_app {mo : M Pl} {mi : M D} {d : D} : tgS mo mi d e s = M.bind mo (fun p => mi.bind fun i => (chgM setF p [i, d]).bind fun _ => M.ret ()) e s := nrf rfl
theorem forS_app {it : M (List D)} {t : D → M Unit} {b : M Fw} : forS it t b e s = M.bind it (forM t b) e s := nrf rfl
theorem rdN_app : rdN i e s = (match e[i]? with | some (.fz d) => .ok (.fz d) e s | some (.ow d) => .ok (.fz d) (e.set i (.fz d)) s | _ => .stuck) := nrf rfl
theorem lkN_app : lkN i e s = (match e[i]? with | some (.fz _) => .ok (.s i) e s | some (.ow _) => .ok (.s i) e s | some (.sf _ _) => .ok (.s i) e s | _ => .stuck) := nrf rfl
theorem frzM_app {m : M Sl} : frzM m e s = M.bind m frzS e s := nrf rfl
theorem frz_fz {d : D} : frzS (.fz d) e s = .ok d e s := nrf rfl
theorem frz_ow' {d : D} : frzS (.ow d) e s = .ok d e s := nrf rfl
theorem lookM_app {m : M D} : lookM m e s = M.bind m (fun d => M.ret (.v d)) e s := nrf rfl
theorem bin2_app {f : D → D → Option Sl} {ma mb : M Pl} : bin2 f ma mb e s = M.bind ma (fun a => mb.bind fun b => (rsv a).bind fun y => (rsv b).bind fun z => M.lift (f y z)) e s := nrf rfl
theorem un1_app {f : D → Option Sl} {m : M Pl} : un1 f m e s = M.bind m (fun p => (rsv p).bind fun y => M.lift (f y)) e s := nrf rfl
theorem rsv_app {p : Pl} : rsv p e s = (match p with
  | .v d => match cont s d with
    | some y => .ok y e s
    | none => .stuck
  | .s i => match e[i]? with
    | some (.fz d) => match cont s d with
      | some y => .ok y e s
      | none => .stuck
    | some (.ow d) => .ok d e s
    | some (.sf _ d) => .ok d e s
    | _ => .stuck) := rfl
theorem argsV_nil : argsV [] e s = .ok [] e s := nrf rfl
theorem argsV_cons {m : M D} {ms : List (M D)} : argsV (m :: ms) e s = M.bind m (fun d => (argsV ms).bind fun ds => M.ret (d :: ds)) e s := nrf rfl
theorem argsL_nil : argsL [] e s = .ok [] e s := nrf rfl
theorem argsL_cons {m : M Pl} {ms : List (M Pl)} : argsL (m :: ms) e s = M.bind m (fun d => (argsL ms).bind fun ds => M.ret (d :: ds)) e s := nrf rfl
theorem lstM_app {m : M (List D)} : lstM m e s = M.bind m (fun ds => M.lift (grd (decide (ds.length ≤ sizeLine)) (.ow (.lst ds)))) e s := nrf rfl
theorem tupM_app {m : M (List D)} : tupM m e s = M.bind m (fun ds => M.lift (grd (decide (ds.length ≤ sizeLine)) (.fz (.tup false ds)))) e s := nrf rfl
theorem dctM_app : dctM e s = .ok (.ow (.dcK [])) e s := nrf rfl
theorem bltM_app {f : List D → Option Sl} {m : M (List Pl)} : bltM f m e s = M.bind m (fun ps => (rsvs ps).bind fun ys => M.lift (f ys)) e s := nrf rfl
theorem rsvs_nil : rsvs [] e s = .ok [] e s := nrf rfl
theorem rsvs_cons {p : Pl} {ps : List Pl} : rsvs (p :: ps) e s = M.bind (rsv p) (fun y => (rsvs ps).bind fun ys => M.ret (y :: ys)) e s := nrf rfl
theorem callM_app {cf : CF} {ma : M (List D)} : callM cf ma e s = M.bind ma (runC cf) e s := nrf rfl
/-- behind a call -/
def cQ (e : Env) (Q : PQ Sl) : PQ Sl := fun r _ s => Q r e s
def cX (e : Env) (X : PX) : PX := fun c f _ s => X c f e s
theorem cQ_app {r : Sl} {e2 : Env} : cQ e QS r e2 s = QS r e s := nrf rfl
theorem cX_app {c : Str} {f : Flds} {e2 : Env} : cX e X c f e2 s = X c f e s := nrf rfl
theorem wp_runC {cf : CF} {ds : List D} : wp (runC cf ds e s) QS X = wp (cf ds s) (cQ e QS) (cX e X) := by
  unfold runC
  cases cf ds s with
  | stuck => rw [wp_stuck, wp_stuck]
  | ok a e s => rw [wp_ok, wp_ok]; rfl
  | exn c f e s => rw [wp_exn, wp_exn]; rfl
theorem truM_app {m : M Pl} : truM m e s = M.bind m (fun p => (rsv p).bind fun y => M.lift (truD y)) e s := nrf rfl
theorem notM_app {m : M Bool} : notM m e s = M.bind m (fun b => M.ret (!b)) e s := nrf rfl
theorem andM_app {m n : M Bool} : Dn.andM m n e s = M.bind m (fun b => if b then n else M.ret false) e s := nrf rfl
theorem orM_app {m n : M Bool} : Dn.orM m n e s = M.bind m (fun b => if b then M.ret true else n) e s := nrf rfl
theorem andV_app {m : M D} {n : M Sl} : andV m n e s = M.bind m (fun d => (M.lift (truD d)).bind fun b => if b then n else M.ret (.fz d)) e s := nrf rfl
theorem orV_app {m : M D} {n : M Sl} : orV m n e s = M.bind m (fun d => (M.lift (truD d)).bind fun b => if b then M.ret (.fz d) else n) e s := nrf rfl
theorem blM_app {m : M Bool} : blM m e s = M.bind m (fun b => M.ret (.fz (.bl b))) e s := nrf rfl
theorem ifV_app {t : M Bool} {m n : M Sl} : ifV t m n e s = M.bind t (fun b => if b then m else n) e s := nrf rfl
theorem isN1_app {neg : Bool} {m : M Pl} : isN1 neg m e s = M.bind m (fun p => (rsv p).bind fun y => M.ret (if neg then !isNn y else isNn y)) e s := nrf rfl
theorem cmpT_app {op : CmpOp} {ma mb : M Pl} : cmpT op ma mb e s = M.bind (bin2 (cmpD op) ma mb) bool1 e s := nrf rfl
theorem bool1_app {b : Bool} : bool1 (.fz (.bl b)) e s = .ok b e s := nrf rfl
theorem chn_app {f1 f2 : Int → Int → Bool} {ma mb mc : M D} : chn f1 f2 ma mb mc e s = M.bind ma (fun a => mb.bind fun b => (M.lift (intD a)).bind fun i => (M.lift (intD b)).bind fun j => if f1 i j then mc.bind fun c => (M.lift (intD c)).bind fun l => M.ret (f2 j l) else M.ret false) e s := nrf rfl
theorem isiM_app {tab : Tg → Option Bool} {m : M Pl} : isiM tab m e s = M.bind m (fun p => (rsv p).bind fun y => (M.lift ((tagD y).bind tab)).bind fun b => M.ret (.fz (.bl b))) e s := nrf rfl
theorem slM_app {m : M Pl} {lo hi : M (Option Int)} : slM m lo hi e s = M.bind m (fun p => lo.bind fun a => hi.bind fun b => (rsv p).bind fun y => M.lift (slD y a b)) e s := nrf rfl
theorem prtM_app {m : M D} : prtM m e s = M.bind m (fun d => (M.lift (intD d)).bind fun i => M.ret (some i)) e s := nrf rfl
theorem mutM_app {T : String} {f : D → List D → Option (D × D)} {mo : M Pl} {ma : M (List D)} : mutM T f mo ma e s = M.bind mo (fun p => (rsv p).bind fun y0 => if tyD y0 = some T then ma.bind fun ds => chgM f p ds else M.stuck) e s := nrf rfl
theorem bmM_app {T : String} {f : D → List D → Option Sl} {mo : M Pl} {ma : M (List D)} : bmM T f mo ma e s = M.bind mo (fun p => (rsv p).bind fun y0 => if tyD y0 = some T then ma.bind fun ds => (rsv p).bind fun y => M.lift (f y ds) else M.stuck) e s := nrf rfl
theorem chgM_app {f : D → List D → Option (D × D)} {p : Pl} {ds : List D} : chgM f p ds e s = M.bind (rsv p) (fun y => (M.lift (f y ds)).bind fun z => (wrP p z.1).bind fun _ => M.ret (.fz z.2)) e s := nrf rfl
theorem wrP_app {p : Pl} {d : D} : wrP p d e s = (match p with
  | .v (.cell n) => if n < s.length then .ok () e (s.set n d) else .stuck
  | .v _ => .stuck
  | .s i => match e[i]? with
    | some (.ow _) => .ok () (e.set i (.ow d)) s
    | some (.sf p _) => .ok () (e.set i (.sf p d)) s
    | some (.fz (.cell n)) => if n < s.length then .ok () e (s.set n d) else .stuck
    | _ => .stuck) := rfl
theorem iterV_app {m : M D} : iterV m e s = M.bind m (fun d => M.lift (itV d)) e s := nrf rfl
theorem iterA_app {f : List D → Option (List D)} {m : M (List D)} : iterA f m e s = M.bind m (fun ds => M.lift (f ds)) e s := nrf rfl
theorem iterR_app {m : M D} : iterR m e s = M.bind m (fun d => M.lift (revF d)) e s := nrf rfl
theorem cI_app {k : Int} : cI k e s = .ok (.fz (.int k)) e s := nrf rfl
theorem cS_app {k : Str} : cS k e s = .ok (.fz (.str k)) e s := nrf rfl
theorem cB_app {k : Bool} : cB k e s = .ok (.fz (.bl k)) e s := nrf rfl
theorem cN_app : cN e s = .ok (.fz .non) e s := nrf rfl
theorem lcM_app {vs : List Nat} {it : M (List D)} {t : D → M Unit} {c : M Bool} {el : M D} : lcM vs it t c el e s = M.bind it (lcK vs t c el) e s := nrf rfl
theorem lcStep_app {t : D → M Unit} {c : M Bool} {el : M D} {acc : List D} {d : D} : lcStep t c el acc d e s = M.bind (t d) (fun _ => c.bind fun b => if b then el.bind fun y => if acc.length < sizeLine then M.ret (acc ++ [y]) else M.stuck else M.ret acc) e s := nrf rfl
theorem dcM_app {vs : List Nat} {it : M (List D)} {t : D → M Unit} {c : M Bool} {kx vx : M D} : dcM vs it t c kx vx e s = M.bind it (dcK vs t c kx vx) e s := nrf rfl
theorem dcStep_app {t : D → M Unit} {c : M Bool} {kx vx : M D} {acc : KD} {d : D} : dcStep t c kx vx acc d e s = M.bind (t d) (fun _ => c.bind fun b => if b then kx.bind fun k => vx.bind fun v => dcPut acc k v else M.ret acc) e s := nrf rfl
theorem lcBM_app {vs : List Nat} {it : M (List D)} {t : D → M Unit} {c : M Bool} {b : Bm} : lcBM vs it t c b e s = M.bind it (lcKB vs t c b) e s := nrf rfl
theorem innB_app {vs : List Nat} {it : M (List D)} {t : D → M Unit} {c : M Bool} {b : Bm} {acc : List D} : innB vs it t c b acc e s = M.bind it (fun xs => fun e s => innL vs t c b xs acc (wipeE vs e) s) e s := nrf rfl
theorem appB_app {el : M D} {acc : List D} : appB el acc e s = M.bind el (fun y => if acc.length < sizeLine then M.ret (acc ++ [y]) else M.stuck) e s := nrf rfl
theorem makeM_app {cf : CF} {ma mk : M (List D)} {f : List D → List D → Option (List D)} : makeM cf ma mk f e s = M.bind ma (fun ds => mk.bind fun zs => (M.lift (f ds zs)).bind (runC cf)) e s := nrf rfl
theorem setFld_app {fl : Str → Str → Bool} {f : Str} {mo : M Pl} {mv : M D} : setFld fl f mo mv e s = M.bind mv (fun d => mo.bind fun p => (chgM (sfF fl f) p [d]).bind fun _ => M.ret .nx) e s := nrf rfl
end
section
variable {i j : Int} {a b : Str} {xs ys : List D} {m n : Bool} {s : List D} {k : Nat} {kvs : List (L2.Key × D)} {kts : List (List L2.Key × D)} {c : Str} {fs : Flds} {is : List Int} {x y d : D} {p q : Bool}
theorem b_add : binD .Add (.int i) (.int j) = some (.fz (.int (i + j))) := nrf rfl
theorem b_addS : binD .Add (.str a) (.str b) = if a.length + b.length ≤ sizeLine then some (.fz (.str (a ++ b))) else none := by simp [binD, grd]
theorem b_addL : binD .Add (.lst xs) (.lst ys) = if xs.length + ys.length ≤ sizeLine then some (.ow (.lst (xs ++ ys))) else none := by simp [binD, grd]
theorem b_addT : binD .Add (.tup m xs) (.tup n ys) = if xs.length + ys.length ≤ sizeLine then some (.fz (catTup m xs n ys)) else none := by simp [binD, grd]
theorem b_sub : binD .Sub (.int i) (.int j) = some (.fz (.int (i - j))) := nrf rfl
theorem b_mul : binD .Mult (.int i) (.int j) = if mulOk i j = true then some (.fz (.int (i * j))) else none := nrf rfl
theorem b_mod : binD .Mod (.int i) (.int j) = if 0 < j then some (.fz (.int (i % j))) else none := by simp [binD, grd]
theorem b_div : binD .FloorDiv (.int i) (.int j) = if divOk j = true then some (.fz (.int (i / j))) else none := nrf rfl
theorem b_pow : binD .Pow (.int i) (.int j) = if powOk i j = true then some (.fz (.int (i ^ j.toNat))) else none := nrf rfl
theorem c_lt : cmpD .Lt (.int i) (.int j) = some (.fz (.bl (decide (i < j)))) := nrf rfl
theorem c_le : cmpD .LtE (.int i) (.int j) = some (.fz (.bl (decide (i ≤ j)))) := nrf rfl
theorem c_gt : cmpD .Gt (.int i) (.int j) = some (.fz (.bl (decide (j < i)))) := nrf rfl
theorem c_ge : cmpD .GtE (.int i) (.int j) = some (.fz (.bl (decide (j ≤ i)))) := nrf rfl
theorem c_eqI : cmpD .Eq (.int i) (.int j) = some (.fz (.bl (decide (i = j)))) := by simp [cmpD, cmpB, grd, eqOk, scalD, py, PyData.eqv]; rfl
theorem c_neI : cmpD .NotEq (.int i) (.int j) = some (.fz (.bl (!decide (i = j)))) := by simp [cmpD, cmpB, grd, eqOk, scalD, py, PyData.eqv]; rfl
theorem c_eqS : cmpD .Eq (.str a) (.str b) = some (.fz (.bl (decide (a = b)))) := by simp [cmpD, cmpB, grd, eqOk, scalD, py, PyData.eqv]; rfl
theorem c_neS : cmpD .NotEq (.str a) (.str b) = some (.fz (.bl (!decide (a = b)))) := by simp [cmpD, cmpB, grd, eqOk, scalD, py, PyData.eqv]; rfl
theorem c_eqB : cmpD .Eq (.bl p) (.bl q) = some (.fz (.bl (p == q))) := by simp [cmpD, cmpB, grd, eqOk, scalD, py, PyData.eqv]
theorem c_neB : cmpD .NotEq (.bl p) (.bl q) = some (.fz (.bl (!(p == q)))) := by simp [cmpD, cmpB, grd, eqOk, scalD, py, PyData.eqv]
theorem c_in : cmpD .In x y = (inD x y).map fun r => .fz (.bl r) := nrf rfl
theorem c_ni : cmpD .NotIn x y = (inD x y).map fun r => .fz (.bl (!r)) := by cases h : inD x y <;> simp [cmpD, cmpB, h]
theorem cont_non : cont s .non = some .non := nrf rfl
theorem cont_bl : cont s (.bl p) = some (.bl p) := nrf rfl
theorem cont_int : cont s (.int i) = some (.int i) := nrf rfl
theorem cont_str : cont s (.str a) = some (.str a) := nrf rfl
theorem cont_tup : cont s (.tup m xs) = some (.tup m xs) := nrf rfl
theorem cont_lst : cont s (.lst xs) = some (.lst xs) := nrf rfl
theorem cont_scr : cont s (.scr is) = some (.scr is) := nrf rfl
theorem cont_dcK : cont s (.dcK kvs) = some (.dcK kvs) := nrf rfl
theorem cont_dcT : cont s (.dcT kts) = some (.dcT kts) := nrf rfl
theorem cont_obj : cont s (.obj c fs) = some (.obj c fs) := nrf rfl
theorem cont_cell : cont s (.cell k) = s[k]? := nrf rfl
theorem tru_bl : truD (.bl p) = some p := nrf rfl
theorem tru_non : truD .non = some false := nrf rfl
theorem tru_lst : truD (.lst xs) = some (!xs.isEmpty) := nrf rfl
theorem tru_tup : truD (.tup m xs) = some (!xs.isEmpty) := nrf rfl
theorem tru_dcK : truD (.dcK kvs) = some (!kvs.isEmpty) := nrf rfl
theorem tru_dcT : truD (.dcT kts) = some (!kts.isEmpty) := nrf rfl
theorem tru_int : truD (.int i) = some (i != 0) := nrf rfl
theorem ty_lst : tyD (.lst xs) = some "list" := nrf rfl
theorem ty_str : tyD (.str a) = some "str" := nrf rfl
theorem it_lst' : itV (.lst xs) = some xs := nrf rfl
theorem it_tup' : itV (.tup m xs) = some xs := nrf rfl
theorem it_str' : itV (.str a) = some (a.cps.toList.map fun c => .str ⟨#[c]⟩) := nrf rfl
theorem app_1 : appF (.lst xs) [d] = if xs.length < sizeLine then some (.lst (xs ++ [d]), .non) else none := by simp [appF, grd]
theorem i_int : intD (.int i) = some i := nrf rfl
theorem neg_i : negD (.int i) = some (.fz (.int (-i))) := nrf rfl
theorem len_lst : lenF [.lst xs] = some (.fz (.int xs.length)) := nrf rfl
theorem len_tup : lenF [.tup m xs] = some (.fz (.int xs.length)) := nrf rfl
theorem len_scr : lenF [.scr is] = some (.fz (.int is.length)) := nrf rfl
theorem len_dcK : lenF [.dcK kvs] = some (.fz (.int kvs.length)) := nrf rfl
theorem len_dcT : lenF [.dcT kts] = some (.fz (.int kts.length)) := nrf rfl
theorem len_str : lenF [.str a] = if a.length ≤ sizeLine then some (.fz (.int a.length)) else none := by simp [lenF, grd]
theorem abs_i : absF [.int i] = some (.fz (.int (absI i))) := nrf rfl
theorem int_i : intF [.int i] = some (.fz (.int i)) := nrf rfl
theorem int_b : intF [.bl p] = some (.fz (.int (if p then 1 else 0))) := nrf rfl
theorem ix_lst : ixD (.lst xs) (.int i) = (L2.atI xs i).map .fz := nrf rfl
theorem ix_tup : ixD (.tup m xs) (.int i) = (L2.atI xs i).map .fz := nrf rfl
theorem ix_scr : ixD (.scr is) (.int i) = (L2.atI is i).map fun j => .fz (.int j) := nrf rfl
theorem ix_str : ixD (.str a) (.int i) = if a.length ≤ sizeLine then (L2.atI a.cps.toList i).map fun c => .fz (.str (sgn c)) else none := nrf rfl
theorem set_lst : setF (.lst xs) [.int i, d] = (L2.ixN xs.length i).map fun j => (.lst (xs.set j d), .non) := nrf rfl
theorem rng_1 : rngF1 [.int j] = if bnd j = true then some (rngL 0 j.toNat) else none := nrf rfl
theorem rng_2 : rngF2 [.int i, .int j] = if (bnd i && bnd j) = true then some (rngL i (j - i).toNat) else none := nrf rfl
theorem enu_l : enuF [.lst xs] = some (enuL xs) := nrf rfl
theorem enu_t : enuF [.tup m xs] = some (enuL xs) := nrf rfl
theorem fnd_s : fndF (.str a) [.str b] = some (.fz (.int (Txt.find a b))) := nrf rfl
theorem sl_str {lo hi : Option Int} : slD (.str a) lo hi = if a.length ≤ sizeLine then some (.fz (.str (L2.cutS a lo hi))) else none := by simp [slD, grd]
theorem sl_lst {lo hi : Option Int} : slD (.lst xs) lo hi = some (.ow (.lst (cutD xs lo hi))) := nrf rfl
theorem zip_l : zipF [.lst xs, .lst ys] = some (zipL xs ys) := nrf rfl
end
theorem grd_t {α : Type} {a : α} : grd true a = some a := nrf rfl
theorem grd_d {α : Type} {c : Prop} [Decidable c] {a : α} : grd (decide c) a = if c then some a else none := by simp [grd]
theorem atI0 {α : Type} {a : α} {l : List α} : L2.atI (a :: l) 0 = some a := by simp [L2.atI, L2.ixN]
theorem atI1 {α : Type} {a b : α} {l : List α} : L2.atI (a :: b :: l) 1 = some b := by
  have h : (1 : Int) < (((a :: b :: l).length : Nat) : Int) := by simp; omega
  unfold L2.atI L2.ixN
  rw [if_pos (by decide), if_pos h]; rfl
theorem atI2 {α : Type} {a b c : α} {l : List α} : L2.atI (a :: b :: c :: l) 2 = some c := by
  have h : (2 : Int) < (((a :: b :: c :: l).length : Nat) : Int) := by simp; omega
  unfold L2.atI L2.ixN
  rw [if_pos (by decide), if_pos h]; rfl
theorem atI3 {α : Type} {a b c d : α} {l : List α} : L2.atI (a :: b :: c :: d :: l) 3 = some d := by
  have h : (3 : Int) < (((a :: b :: c :: d :: l).length : Nat) : Int) := by simp; omega
  unfold L2.atI L2.ixN
  rw [if_pos (by decide), if_pos h]; rfl
def bodyQ (Q : PQ Sl) : PQ Fw := fun f _ s => match f with
  | .nx => Q (.fz .non) [] s
  | .rt r => Q r [] s
  | _ => False
def bodyX (X : PX) : PX := fun c f _ s => X c f [] s
section
variable {Q : PQ Sl} {X : PX} {e : Env} {s : List D}
theorem bodyQ_nx : bodyQ Q .nx e s = Q (.fz .non) [] s := nrf rfl
theorem bodyQ_rt {r : Sl} : bodyQ Q (.rt r) e s = Q r [] s := nrf rfl
theorem bodyX_app {c : Str} {f : Flds} : bodyX X c f e s = X c f [] s := nrf rfl
theorem wp_body {np : Nat} {N : List Str} {m : M Fw} {ds : List D} (hl : ds.length = np) (h : wp (m (slots N ds) s) (bodyQ Q) (bodyX X)) : wp (bodyC np N m ds s) Q X := by
  unfold bodyC
  rw [if_pos hl]
  cases hm : m (slots N ds) s with
  | stuck => rw [hm] at h; cases h
  | exn c f e s => rw [hm] at h; cases h with | exn h => exact .exn h
  | ok f e s' =>
    rw [hm] at h
    cases h with
    | ok h =>
      cases f with
      | nx => exact .ok h
      | rt r => exact .ok h
      | bk => exact h.elim
      | ct => exact h.elim
end
def loopQ (I : Env → List D → Prop) (Q : PQ Fw) : PQ Fw := fun f e s => match f with
  | .nx => I e s
  | .ct => I e s
  | .bk => Q .nx e s
  | .rt r => Q (.rt r) e s
section
variable {Q : PQ Fw} {X : PX} {e : Env} {s : List D} {I : Env → List D → Prop}
theorem loopQ_nx : loopQ I Q .nx e s = I e s := nrf rfl
theorem loopQ_ct : loopQ I Q .ct e s = I e s := nrf rfl
theorem loopQ_bk : loopQ I Q .bk e s = Q .nx e s := nrf rfl
theorem loopQ_rt {r : Sl} : loopQ I Q (.rt r) e s = Q (.rt r) e s := nrf rfl
theorem wp_forM {t : D → M Unit} {b : M Fw} (J : Nat → Env → List D → Prop) : ∀ (ds : List D) (n : Nat) {e : Env} {s : List D}, J n e s → (∀ i d e s, ds[i]? = some d → J (n + i) e s → wp (t d e s) (bQ (fun _ => b) (loopQ (J (n + i + 1)) Q) X) X) → (∀ e s, J (n + ds.length) e s → Q .nx e s) → wp (forM t b ds e s) Q X
  | [], n, e, s, h0, _, hd => .ok (hd e s h0)
  | d :: ds, n, e, s, h0, st, hd => by
    show wp (M.bind (t d) (fun _ => b.bind (loopK (forM t b ds))) e s) Q X
    rw [wp_bind]
    refine wp_imp (st 0 d e s rfl h0) (fun _ e1 s1 h1 => ?_) fun _ _ _ _ h => h
    show wp (M.bind b (loopK (forM t b ds)) e1 s1) Q X
    rw [wp_bind]
    refine wp_imp (show wp (b e1 s1) _ X from h1) (fun f e2 s2 h2 => ?_) fun _ _ _ _ h => h
    have go : J (n + 1) e2 s2 → wp (forM t b ds e2 s2) Q X := fun h3 => wp_forM J ds (n + 1) h3 (fun i d e s hi hj => by
      have := st (i + 1) d e s (by simpa using hi) (by rw [show n + (i + 1) = n + 1 + i by omega]; exact hj)
      rw [show n + (i + 1) + 1 = n + 1 + i + 1 by omega] at this
      exact this) fun e s hj => hd e s (by rw [List.length_cons, show n + (ds.length + 1) = n + 1 + ds.length by omega]; exact hj)
    cases f with
    | nx => exact go h2
    | ct => exact go h2
    | bk => exact .ok h2
    | rt r => exact .ok h2
theorem wp_for {t : D → M Unit} {b : M Fw} {ds : List D} (J : Nat → Env → List D → Prop) (h0 : J 0 e s) (st : ∀ i d e s, ds[i]? = some d → J i e s → wp (t d e s) (bQ (fun _ => b) (loopQ (J (i + 1)) Q) X) X) (hd : ∀ e s, J ds.length e s → Q .nx e s) : wp (forM t b ds e s) Q X :=
  wp_forM J ds 0 h0 (fun i d e s hi hj => by rw [Nat.zero_add] at hj ⊢; exact st i d e s hi hj) (fun e s hj => hd e s (by rw [Nat.zero_add] at hj; exact hj))
def whQ (I : Env → List D → Prop) (b : M Fw) (Q : PQ Fw) (X : PX) : PQ Bool := fun c e s => match c with
  | true => wp (b e s) (loopQ I Q) X
  | false => Q .nx e s
theorem whQ_true {b : M Fw} : whQ I b Q X true e s = wp (b e s) (loopQ I Q) X := nrf rfl
theorem whQ_false {b : M Fw} : whQ I b Q X false e s = Q .nx e s := nrf rfl
end
section
variable {Q : PQ Sl} {X : PX} {e : Env} {s : List D}
theorem wp_lcL {vs : List Nat} {t : D → M Unit} {c : M Bool} {el : M D} {QL : PQ (List D)} (J : Nat → List D → Env → List D → Prop) : ∀ (xs : List D) (n : Nat) {acc : List D} {e : Env} {s : List D}, J n acc e s → (∀ i d acc e s, xs[i]? = some d → J (n + i) acc e s → wp (lcStep t c el acc d e s) (fun acc' e' s' => J (n + i + 1) acc' (wipeE vs e') s') nX) → (∀ acc e s, J (n + xs.length) acc e s → QL acc e s) → wp (lcL vs t c el xs acc e s) QL X
  | [], n, acc, e, s, h0, _, hd => .ok (hd acc e s h0)
  | d :: xs, n, acc, e, s, h0, st, hd => by
    obtain ⟨acc', e', s', h1, h2⟩ := wp_of (st 0 d acc e s rfl h0)
    show wp (match lcStep t c el acc d e s with
      | .ok acc' e' s' => lcL vs t c el xs acc' (wipeE vs e') s'
      | _ => .stuck) QL X
    rw [h1]
    exact wp_lcL J xs (n + 1) h2 (fun i d acc e s hi hj => by
      have := st (i + 1) d acc e s (by simpa using hi) (by rw [show n + (i + 1) = n + 1 + i by omega]; exact hj)
      rw [show n + (i + 1) + 1 = n + 1 + i + 1 by omega] at this
      exact this) fun acc e s hj => hd acc e s (by rw [List.length_cons, show n + (xs.length + 1) = n + 1 + xs.length by omega]; exact hj)
theorem wp_lcK {vs : List Nat} {t : D → M Unit} {c : M Bool} {el : M D} {xs : List D} (J : Nat → List D → Env → List D → Prop) (h0 : J 0 [] (wipeE vs (frzE vs e)) s) (st : ∀ i d acc e s, xs[i]? = some d → J i acc e s → wp (lcStep t c el acc d e s) (fun acc' e' s' => J (i + 1) acc' (wipeE vs e') s') nX)
    (hd : ∀ acc e' s', J xs.length acc e' s' → Q (.ow (.lst acc)) (restE (frzE vs e) vs e') s') : wp (lcK vs t c el xs e s) Q X := by
  have h : wp (lcL vs t c el xs [] (wipeE vs (frzE vs e)) s) (fun acc e' s' => Q (.ow (.lst acc)) (restE (frzE vs e) vs e') s') nX :=
    wp_lcL J xs 0 h0 (fun i d acc e s hi hj => by rw [Nat.zero_add] at hj ⊢; exact st i d acc e s hi hj) fun acc e s hj => hd acc e s (by rw [Nat.zero_add] at hj; exact hj)
  obtain ⟨acc, e', s', h1, h2⟩ := wp_of h
  unfold lcK
  rw [h1]
  exact .ok h2
/-- the store and the other slots stay: the items that g gives -/
theorem wp_lcP {vs : List Nat} {t : D → M Unit} {c : M Bool} {el : M D} {xs : List D} (g : D → Option D) (hz : xs.length ≤ sizeLine) (st : ∀ d ∈ xs, ∀ acc : List D, acc.length < sizeLine → wp (lcStep t c el acc d (wipeE vs (frzE vs e)) s) (fun acc' e' s' => acc' = acc ++ (g d).toList ∧ wipeE vs e' = wipeE vs (frzE vs e) ∧ s' = s) nX)
    (hd : Q (.ow (.lst (xs.filterMap g))) (restE (frzE vs e) vs (wipeE vs (frzE vs e))) s) : wp (lcK vs t c el xs e s) Q X := by
  refine wp_lcK (fun i acc e' s' => i ≤ xs.length ∧ acc = (xs.take i).filterMap g ∧ e' = wipeE vs (frzE vs e) ∧ s' = s) ⟨Nat.zero_le _, rfl, rfl, rfl⟩ (fun i d acc e' s' hi ⟨h1, h2, h3, h4⟩ => ?_) fun acc e' s' ⟨h1, h2, h3, h4⟩ => ?_
  · subst h3 h4
    have hi' := List.getElem?_eq_some_iff.mp hi
    obtain ⟨hlt, hx⟩ := hi'
    have hl : acc.length < sizeLine := by
      have := List.length_filterMap_le g (xs.take i)
      rw [h2]
      rw [List.length_take] at this
      omega
    refine wp_imp (st d (List.mem_of_getElem? hi) acc hl) (fun acc' e2 s2 ⟨q1, q2, q3⟩ => ⟨by omega, ?_, q2, q3⟩) fun _ _ _ _ h => h
    rw [q1, h2, List.take_succ, hi, List.filterMap_append]
    cases hg : g d <;> simp [hg]
  · subst h3 h4
    rw [List.take_length] at h2
    rw [h2]
    exact hd
end
end Dn
end
section
set_option maxHeartbeats 200000
namespace Dn
open PySem
mutual
theorem eqv_self : ∀ d : PyData, d.canLay0 = true → PyData.eqv d d = true
  | .none, _ => rfl
  | .bool b, _ => by simp [PyData.eqv]
  | .int i, _ => by simp [PyData.eqv]
  | .str x, _ => by simp [PyData.eqv]
  | .list xs, h => by rw [PyData.eqv]; exact eqvAll_self xs h
  | .tuple xs, h => by rw [PyData.eqv]; exact eqvAll_self xs h
  | .dict _, h => by cases h
theorem eqvAll_self : ∀ ds : List PyData, PyData.canLayAll0 ds = true → PyData.eqvAll ds ds = true
  | [], _ => rfl
  | d :: ds, h => by
    have h' : (d.canLay0 && PyData.canLayAll0 ds) = true := h
    rw [Bool.and_eq_true] at h'
    rw [PyData.eqvAll, eqv_self d h'.1, eqvAll_self ds h'.2]; rfl
end
structure Pd (n : Nat) (d : D) : Prop where
  dt : isDt d = true
  ly : (py d).canLay0 = true
  dp : (py d).depth ≤ n
theorem Pd.non {n : Nat} : Pd n .non := ⟨rfl, rfl, Nat.zero_le _⟩
theorem Pd.bl {n : Nat} {b : Bool} : Pd n (.bl b) := ⟨rfl, rfl, Nat.zero_le _⟩
theorem Pd.int {n : Nat} {i : Int} : Pd n (.int i) := ⟨rfl, rfl, Nat.zero_le _⟩
theorem Pd.str {n : Nat} {z : Str} (h : z.cps.all (· < 0x110000) = true) : Pd n (.str z) := ⟨rfl, h, Nat.zero_le _⟩
theorem Pd.mono {n m : Nat} {d : D} (h : Pd n d) (hm : n ≤ m) : Pd m d := ⟨h.dt, h.ly, Nat.le_trans h.dp hm⟩
theorem pd_all {n : Nat} : ∀ {xs : List D}, (∀ x ∈ xs, Pd n x) → isDtL xs = true ∧ PyData.canLayAll0 (pyL xs) = true ∧ PyData.depthAll (pyL xs) ≤ n
  | [], _ => ⟨rfl, rfl, Nat.zero_le _⟩
  | x :: xs, h => by
    obtain ⟨a, b, c⟩ := pd_all fun y hy => h y (List.mem_cons_of_mem _ hy)
    obtain ⟨p, q, r⟩ := h x List.mem_cons_self
    refine ⟨?_, ?_, ?_⟩
    · show (isDt x && isDtL xs) = true
      rw [p, a]; rfl
    · show (PyData.canLay0 (py x) && PyData.canLayAll0 (pyL xs)) = true
      rw [q, b]; rfl
    · show max (PyData.depth (py x)) (PyData.depthAll (pyL xs)) ≤ n
      omega
theorem Pd.tup {n : Nat} {m : Bool} {xs : List D} (h : ∀ x ∈ xs, Pd n x) : Pd (n + 1) (.tup m xs) := by
  obtain ⟨a, b, c⟩ := pd_all h
  exact ⟨a, b, Nat.succ_le_succ c⟩
theorem Pd.lst {n : Nat} {xs : List D} (h : ∀ x ∈ xs, Pd n x) : Pd (n + 1) (.lst xs) := by
  obtain ⟨a, b, c⟩ := pd_all h
  exact ⟨a, b, Nat.succ_le_succ c⟩
theorem Pd.sh {d : D} (h : Pd 64 d) : SeqAt.shaped (py d) = true := by
  unfold SeqAt.shaped
  rw [h.ly, decide_eq_true h.dp]; rfl
theorem eqOk_pd {a b : D} (ha : Pd 64 a) (hb : Pd 64 b) : eqOk a b = true := by
  unfold eqOk
  rw [ha.dt, hb.dt, ha.sh, hb.sh]
  simp
theorem eq_py {a b : D} (ha : Pd 64 a) (hb : Pd 64 b) (h : py a = py b) : cmpD .Eq a b = some (.fz (.bl true)) := by
  show (grd (eqOk a b) (PyData.eqv (py a) (py b))).map (fun r => Sl.fz (.bl r)) = _
  rw [eqOk_pd ha hb, ← h, eqv_self _ ha.ly]; rfl
theorem ne_py {a b : D} (ha : Pd 64 a) (hb : Pd 64 b) (h : py a = py b) : cmpD .NotEq a b = some (.fz (.bl false)) := by
  show (grd (eqOk a b) (!PyData.eqv (py a) (py b))).map (fun r => Sl.fz (.bl r)) = _
  rw [eqOk_pd ha hb, ← h, eqv_self _ ha.ly]; rfl
theorem eq_rf {a : D} (ha : Pd 64 a) : cmpD .Eq a a = some (.fz (.bl true)) := eq_py ha ha rfl
theorem ne_rf {a : D} (ha : Pd 64 a) : cmpD .NotEq a a = some (.fz (.bl false)) := ne_py ha ha rfl
theorem wp_try {i : Nat} {ct : Str → Option Bool} {mb : M Fw} {ms : Addr → Str → Flds → M Fw} {e : Env} {s : List D} {Q : PQ Fw} {X : PX}
    (h : wp (mb e s) Q (fun c fs e1 s1 => ct c = some true ∧ ∃ (f : Fw) (e2 : Env) (s2 : List D), (∀ a, ms a c fs (e1.set i (.ad a)) s1 = .ok f (e2.set i (.ad a)) s2) ∧ Q f (e2.set i .un) s2)) : wp (tryA i ct mb ms e s) Q X := by
  unfold tryA
  cases hm : mb e s with
  | stuck => rw [hm] at h; cases h
  | ok f e1 s1 => rw [hm] at h; cases h with | ok h => exact .ok h
  | exn c fs e1 s1 =>
    rw [hm] at h
    cases h with
    | exn h =>
      obtain ⟨hc, f, e2, s2, ha, hq⟩ := h
      simp only [hc]
      rw [allP_eq (o := .ok f (e2.set i .un) s2) fun a => by rw [ha a]; simp [dropS]]
      exact .ok hq
section
variable {t : D → M Unit} {b : M Fw} {d : D} {ds : List D} {e : Env} {s : List D}
theorem xf_app {a : Addr} {fs : Flds} {ok : Bool} {i : Nat} {f : Str} : xfM a fs ok i f e s = (if isE a i e && ok then match fs.lookup f with
  | some y => .ok (.fz y) e s
  | none => .stuck
  else .stuck) := nrf rfl
theorem xi_app {a : Addr} {r : Option Bool} {i : Nat} : xiM a r i e s = (if isE a i e then match r with
  | some b => .ok (.fz (.bl b)) e s
  | none => .stuck
  else .stuck) := nrf rfl
end
end Dn
end
section
set_option maxHeartbeats 200000
namespace Dn
open PySem
def propK (cfs : Str → Option CF) (d : D) : M Sl := fun e s => match cont s d with
  | some (.obj c _) => match cfs c with
    | some cf => match cf [d] s with
      | .ok r _ s' => .ok r e s'
      | _ => .stuck
    | none => .stuck
  | _ => .stuck
def inK (neg : Bool) (cfs : Str → Option CF) (a b : D) : M Sl := fun e s => match cont s b with
  | some (.obj c _) => match cfs c with
    | some cf => match cf [b, a] s with
      | .ok (.fz (.bl r)) _ s' => .ok (.fz (.bl (ngB neg r))) e s'
      | _ => .stuck
    | none => .stuck
  | _ => .stuck
def lenK (cfs : Str → Option CF) (d : D) : M Sl := fun e s => match cont s d with
  | some (.obj c _) => match cfs c with
    | some cf => match cf [d] s with
      | .ok (.fz (.int n)) _ s' => if 0 ≤ n ∧ n < 2 ^ 63 then .ok (.fz (.int n)) e s' else .stuck
      | _ => .stuck
    | none => .stuck
  | _ => .stuck
def opK (cfs : Str → Option CF) (nf : Str → Str → Bool) (a b : D) : M Sl := fun e s => match cont s a, cont s b with
  | some (.obj c _), some (.obj c' _) => match cfs c with
    | some cf => if nf c c' then match cf [a, b] s with
        | .ok r _ s' => .ok r e s'
        | _ => .stuck
      else .stuck
    | none => .stuck
  | _, _ => .stuck
def methK (m : Str) (cfs : Str → Option CF) (ma : M (List D)) (d : D) : M Sl := fun e s => match clsD m s d with
  | some c => match cfs c with
    | some cf => (ma.bind fun ds => runC cf (d :: ds)) e s
    | none => .stuck
  | none => .stuck
section
variable {cfs : Str → Option CF} {neg : Bool} {nf : Str → Str → Bool} {m : Str} {mo ma mb : M D} {mas : M (List D)} {e : Env} {s : List D}
theorem propM_app : propM cfs mo e s = M.bind mo (propK cfs) e s := nrf rfl
theorem unOM_app : unOM cfs mo e s = M.bind mo (propK cfs) e s := nrf rfl
theorem inOM_app : inOM neg cfs ma mb e s = M.bind ma (fun a => mb.bind fun b => inK neg cfs a b) e s := nrf rfl
theorem opOM_app : opOM cfs nf ma mb e s = M.bind ma (fun a => mb.bind fun b => opK cfs nf a b) e s := nrf rfl
theorem methM_app : methM m cfs mo mas e s = M.bind mo (methK m cfs mas) e s := nrf rfl
theorem lenOM_app {md : M D} : lenOM cfs (argsV [md]) e s = M.bind md (lenK cfs) e s := by
  unfold lenOM argsV M.bind
  cases md e s <;> rfl
end
section
variable {c : Str} {cf : CF} {neg : Bool} {nf : Str → Str → Bool} {m : Str} {fs gs : Flds} {a : D} {mas : M (List D)} {e : Env} {s s' : List D} {r : Sl}
theorem oneC_me : oneC c cf c = some cf := by unfold oneC; rw [if_pos rfl]
theorem opK_ok (hn : nf c c = true) (h : cf [.obj c fs, .obj c gs] s = .ok r [] s') : opK (oneC c cf) nf (.obj c fs) (.obj c gs) e s = .ok r e s' := by
  unfold opK; rw [cont_obj, cont_obj]; dsimp only; rw [oneC_me]; dsimp only; rw [if_pos hn, h]
end
section
variable {i : Nat} {m : M Sl} {e : Env} {s : List D} {d : D} {neg : Bool} {ma mb : M Pl} {Q : PQ (List D)} {X : PX}
theorem asgZ_app : asgZ i m e s = M.bind m (setZ i) e s := nrf rfl
theorem setZ_ow : setZ i (.ow d) e s = .ok .nx (e.set i (.fz d)) s := nrf rfl
theorem setZ_fz : setZ i (.fz d) e s = .ok .nx (e.set i (.fz d)) s := nrf rfl
end
end Dn
end
section
set_option maxHeartbeats 200000
namespace Dn
open PySem
section
variable {Q : PQ Sl} {X : PX} {e : Env} {s : List D} {α : Type}
theorem wp_lcT {vs : List Nat} {t : D → M Unit} {c : M Bool} {el : M D} (L : List α) (f : α → D) (p : α → Bool) (g : α → D) (hz : L.length ≤ 16777216) (st : ∀ a ∈ L, ∀ acc : List D, acc.length < 16777216 → wp (lcStep t c el acc (f a) (wipeE vs (frzE vs e)) s) (fun acc' e' s' => acc' = (if p a then acc ++ [g a] else acc) ∧ wipeE vs e' = wipeE vs (frzE vs e) ∧ s' = s) nX)
    (hd : Q (.ow (.lst ((L.filter p).map g))) (restE (frzE vs e) vs (wipeE vs (frzE vs e))) s) : wp (lcK vs t c el (L.map f) e s) Q X := by
  refine wp_lcK (fun i acc e' s' => acc = ((L.take i).filter p).map g ∧ e' = wipeE vs (frzE vs e) ∧ s' = s) ⟨rfl, rfl, rfl⟩ (fun i d acc e' s' hi ⟨h2, h3, h4⟩ => ?_) fun acc e' s' ⟨h2, h3, h4⟩ => ?_
  · subst h3 h4
    rw [List.getElem?_map] at hi
    obtain ⟨a, ha, rfl⟩ := Option.map_eq_some_iff.mp hi
    have hlt := (List.getElem?_eq_some_iff.mp ha).1
    have hl : acc.length < 16777216 := by
      have := List.length_filter_le p (L.take i)
      rw [h2, List.length_map]
      rw [List.length_take] at this
      omega
    refine wp_imp (st a (List.mem_of_getElem? ha) acc hl) (fun acc' e2 s2 ⟨q1, q2, q3⟩ => ⟨?_, q2, q3⟩) fun _ _ _ _ h => h
    rw [q1, h2, List.take_succ, ha, Option.toList_some, List.filter_append, List.map_append]
    by_cases hp : p a <;> simp [hp]
  · subst h3 h4
    rw [List.length_map, List.take_length] at h2
    rw [h2]
    exact hd
theorem wp_lcA {vs : List Nat} {t : D → M Unit} {c : M Bool} {el : M D} (L : List α) (f : α → D) (g : α → D) (hz : L.length ≤ 16777216) (st : ∀ a ∈ L, ∀ acc : List D, acc.length < 16777216 → wp (lcStep t c el acc (f a) (wipeE vs (frzE vs e)) s) (fun acc' e' s' => acc' = acc ++ [g a] ∧ wipeE vs e' = wipeE vs (frzE vs e) ∧ s' = s) nX)
    (hd : Q (.ow (.lst (L.map g))) (restE (frzE vs e) vs (wipeE vs (frzE vs e))) s) : wp (lcK vs t c el (L.map f) e s) Q X :=
  wp_lcT L f (fun _ => true) g hz (fun a ha acc hl => wp_imp (st a ha acc hl) (fun _ _ _ ⟨q1, q2, q3⟩ => ⟨by rw [q1]; rfl, q2, q3⟩) fun _ _ _ _ h => h) (by rw [show L.filter (fun _ => true) = L from List.filter_eq_self.mpr fun _ _ => rfl]; exact hd)
end
section
variable {Q : PQ Fw} {X : PX} {e : Env} {s : List D} {α : Type}
/-- a loop over things: J by the turn -/
theorem wp_forL {t : D → M Unit} {b : M Fw} (L : List α) (f : α → D) (J : Nat → Env → List D → Prop) (h0 : J 0 e s) (st : ∀ i a e s, L[i]? = some a → J i e s → wp (t (f a) e s) (bQ (fun _ => b) (loopQ (J (i + 1)) Q) X) X) (hd : ∀ e s, J L.length e s → Q .nx e s) : wp (forM t b (L.map f) e s) Q X :=
  wp_for J h0 (fun i d e s hi hj => by
    rw [List.getElem?_map] at hi
    obtain ⟨a, ha, rfl⟩ := Option.map_eq_some_iff.mp hi
    exact st i a e s ha hj) fun e s hj => hd e s (by rw [List.length_map] at hj; exact hj)
theorem wp_forR {t : D → M Unit} {b : M Fw} {lo : Int} {n : Nat} (J : Nat → Env → List D → Prop) (h0 : J 0 e s) (st : ∀ i e s, i < n → J i e s → wp (t (.int (lo + (i : Int))) e s) (bQ (fun _ => b) (loopQ (J (i + 1)) Q) X) X) (hd : ∀ e s, J n e s → Q .nx e s) : wp (forM t b (rngL lo n) e s) Q X := by
  unfold rngL
  refine wp_forL (List.range n) (fun i => D.int (lo + (i : Nat))) J h0 (fun i a e s hi hj => ?_) fun e s hj => hd e s (by rw [List.length_range] at hj; exact hj)
  obtain ⟨h1, h2⟩ := List.getElem?_eq_some_iff.mp hi
  rw [List.getElem_range] at h2
  subst h2
  rw [List.length_range] at h1
  exact st i e s h1 hj
end
/-- one statement, then the others -/
theorem wp_seq {m n : M Fw} {e : Env} {s : List D} {Q : PQ Fw} {X : PX} (P : Env → List D → Prop) (h1 : wp (m e s) (fun f e' s' => f = .nx ∧ P e' s') X) (h2 : ∀ e' s', P e' s' → wp (n e' s') Q X) : wp (seqM m n e s) Q X := by
  rw [seqM_app, wp_bind]
  refine wp_imp h1 (fun f e' s' ⟨hf, hp⟩ => ?_) fun _ _ _ _ h => h
  subst hf
  exact h2 e' s' hp
theorem wp_tgN {i : Nat} {d : D} {e : Env} {s : List D} {b : M Fw} {Q : PQ Fw} {X : PX} (h : wp (b (e.set i (.fz d)) s) Q X) : wp (tgN i d e s) (bQ (fun _ => b) Q X) X := by
  rw [tgN_app, wp_ok, bQ_app]; exact h
end Dn
end
section
set_option maxHeartbeats 200000
namespace My
open PySem L2 Dn
open He (ga ma)
section
variable {w : World} {K : Dn.Fg} {mg : Str → Option Value} {base : Heap}
theorem er_InvalidBook {X : Cx} (hP : X.prog = PR) (A : All lst.l txs X.prog X.K X.mg) : ErS X (ga X.K "InvalidBook") "InvalidBook" ["part"] (spX (ga X.K "InvalidBook") ["part"]) 1 :=
  er1 A (st := i_InvalidBook) (j := 24) (i := 0) (List.mem_of_getElem? (i := 0) rfl) rfl rfl rfl rfl (A.free (i := 2) rfl) (by rw [hP]; decide +kernel) rfl rfl (fun _ _ _ _ _ _ us hl => match us, hl with | [_, _], _ => rfl) (NdefX.nscope_by (by decide +kernel)) (List.mem_of_getElem? (i := 0) rfl) rfl rfl
theorem er_InvalidText {X : Cx} (hP : X.prog = PR) (A : All lst.l txs X.prog X.K X.mg) : ErS X (ga X.K "InvalidText") "InvalidText" ["line"] (spX (ga X.K "InvalidText") ["line"]) 1 :=
  er1 A (st := i_InvalidText) (j := 25) (i := 0) (List.mem_of_getElem? (i := 1) rfl) rfl rfl rfl rfl (A.free (i := 2) rfl) (by rw [hP]; decide +kernel) rfl rfl (fun _ _ _ _ _ _ us hl => match us, hl with | [_, _], _ => rfl) (NdefX.nscope_by (by decide +kernel)) (List.mem_of_getElem? (i := 1) rfl) rfl rfl
def m_g_is_mode : M Fw :=
  seqM (retS (andV (frzM (blM (chn (fun i j => decide (i ≤ j)) (fun i j => decide (i ≤ j)) (frzM (cI 1)) (frzM (bltM lenF (argsL [lkN 0]))) (frzM (cI 8))))) (bltM allF (argsL [lookM (frzM (lcM [1] (iterV (frzM (rdN 0))) (tgN 1) (M.ret true) (frzM (bin2 (cmpD .In) (lkN 1) (lookM (frzM (cS "abcdefghijklmnopqrstuvwxyz")))))))]))))
  (M.ret .nx)
def c_g_is_mode : CF := bodyC 1 ["word", "letter"] m_g_is_mode
theorem okc_g_is_mode : okC c_g_is_mode := bodyC_ok _ _ _
theorem sc_g_is_mode : FnScope ["word", "letter"] ["word"] (defScope s_g_is_mode) := ⟨rfl, rfl, rfl, by decide +kernel, rfl, by decide +kernel, by decide +kernel⟩
theorem ok_g_is_mode (A : Al2 lst txs tps PR K mg base) : Pf lst PR w K mg base 1 (ga K "is_mode") ["word"] c_g_is_mode := by
  obtain ⟨fd, F⟩ := A.fnT (i := 0) (j := 0) (st := s_g_is_mode) rfl rfl
  refine ⟨fd, def_ok rfl F sc_g_is_mode fun X E x cdv Ar outer s H hX hT hca bd => ?_, fun_ba F fun _ _ _ _ _ _ us hl => match us, hl with | [_], _ => rfl⟩
  subst hX
  have g := bd.toGd
  exact pss_seqS (ps_retS (pe_andV (PE.frz (pe_chn rfl rfl rfl (PE.frz (w_int)) (PE.frz (pe_blt g.calm rfl rfl (A.a.free (i := 1) rfl) rfl (pa_consL rfl (w_lk (i := 0) rfl (vis_of rfl)) (pa_nilL)))) (PE.frz (w_int)))) (pe_one (pe_blt g.calm rfl rfl (A.a.free (i := 0) rfl) rfl (pa_consL rfl (w_look (PE.frz (pe_lcM g.calm g.nd (own := [("letter", 1)]) (by decide) (pi_val (PE.frz (w_var (i := 0) rfl (vis_of rfl)))) (blk_of rfl) (fun _ _ _ _ _ _ gx1 => g_nameW (g.blk _ _ _ _ _).toGw (by decide) (i := 1) rfl (loc_of rfl) (fn_of' rfl)) (fun _ _ _ _ _ _ gx1 => pts_nilM) (fun _ _ _ _ _ _ gx1 => PE.frz (w_cmp (g.blk _ _ _ _ _).toGw (w_lk (i := 1) rfl (vis_of rfl)) (w_look (PE.frz (u_gs A (i := 0) rfl rfl rfl))))) (fun _ => rfl)))) (pa_nilL))))))
    (pss_nilS)
def l1_g_checked_modes : M Fw :=
  seqM (ifS (orM (notM (truM (lookM (frzM (callM c_g_is_mode (argsV [frzM (rdN 2)])))))) (cmpT .In (lkN 2) (lookM (frzM (slM (lkN 0) (M.ret none) (prtM (frzM (rdN 1)))))))) (seqM (raiseM "InvalidBook" ["part"] (argsV [frzM (rdN 2)]))
  (M.ret .nx)) (M.ret .nx))
  (M.ret .nx)
def m_g_checked_modes : M Fw :=
  seqM (ifS (notM (chn (fun i j => decide (i ≤ j)) (fun i j => decide (i ≤ j)) (frzM (cI 1)) (frzM (bltM lenF (argsL [lkN 0]))) (frzM (cI 3)))) (seqM (raiseM "InvalidBook" ["part"] (argsV [frzM (bltM tupleF (argsL [lkN 0]))]))
  (M.ret .nx)) (M.ret .nx))
  (seqM (forS (iterA enuF (argsV [frzM (rdN 0)])) (tgT 2 [tgN 1, tgN 2]) (l1_g_checked_modes))
  (seqM (retS (bltM tupleF (argsL [lkN 0])))
  (M.ret .nx)))
def c_g_checked_modes : CF := bodyC 1 ["modes", "place", "mode"] m_g_checked_modes
theorem okc_g_checked_modes : okC c_g_checked_modes := bodyC_ok _ _ _
theorem sc_g_checked_modes : FnScope ["modes", "place", "mode"] ["modes"] (defScope s_g_checked_modes) := ⟨rfl, rfl, rfl, by decide +kernel, rfl, by decide +kernel, by decide +kernel⟩
theorem ok_g_checked_modes (A : Al2 lst txs tps PR K mg base) : Pf lst PR w K mg base 3 (ga K "checked_modes") ["modes"] c_g_checked_modes := by
  obtain ⟨fd, F⟩ := A.fnT (i := 1) (j := 1) (st := s_g_checked_modes) rfl rfl
  refine ⟨fd, def_ok rfl F sc_g_checked_modes fun X E x cdv Ar outer s H hX hT hca bd => ?_, fun_ba F fun _ _ _ _ _ _ us hl => match us, hl with | [_], _ => rfl⟩
  subst hX
  have g := bd.toGd
  exact pss_seqS (ps_ifS (pt_notM (pt_chn rfl rfl rfl (PE.frz (w_int)) (PE.frz (pe_blt g.calm rfl rfl (A.a.free (i := 1) rfl) rfl (pa_consL rfl (w_lk (i := 0) rfl (vis_of rfl)) (pa_nilL)))) (PE.frz (u_cval A (i := 0) (j := 0) rfl rfl rfl rfl rfl)))) (pss_seqS (v_raise g hca (er_InvalidBook rfl A.a) (bd.room.mono (by decide)) (by decide) (by decide) rfl rfl rfl (pa_consV rfl (PE.frz (pe_blt g.calm rfl rfl (A.a.free (i := 3) rfl) rfl (pa_consL rfl (w_lk (i := 0) rfl (vis_of rfl)) (pa_nilL)))) (pa_nilV)))
    (pss_nilS)) (pss_nilS))
    (pss_seqS (s_for g bd.own (pi_enu rfl (A.a.free (i := 4) rfl) rfl (pa_consV rfl (PE.frz (w_var (i := 0) rfl (vis_of rfl))) (pa_nilV))) (g_tup g (g_cons (g_name g (i := 1) rfl (loc_of rfl) (fn_of' rfl)) (g_cons (g_name g (i := 2) rfl (loc_of rfl) (fn_of' rfl)) (pgs_nilM)))) (pss_seqS (ps_ifS (PW.pt (pw_orM (pt_notM (pt_tru (w_look (PE.frz (u_call A (i := 0) rfl hT hca okc_g_is_mode (ok_g_is_mode A) (bd.room.mono (by decide)) rfl g.tk rfl rfl (pa_consV rfl (PE.frz (w_var (i := 2) rfl (vis_of rfl))) (pa_nilV))))) (fun _ => rfl))) (wt_or1 (wt_cmp g.toGw (w_lk (i := 2) rfl (vis_of rfl)) (w_look (PE.frz (pe_slM (w_lk (i := 0) rfl (vis_of rfl)) (po_noneM) (po_someM (PE.frz (w_var (i := 1) rfl (vis_of rfl))))))))))) (pss_seqS (v_raise g hca (er_InvalidBook rfl A.a) (bd.room.mono (by decide)) (by decide) (by decide) rfl rfl rfl (pa_consV rfl (PE.frz (w_var (i := 2) rfl (vis_of rfl))) (pa_nilV)))
    (pss_nilS)) (pss_nilS))
    (pss_nilS)))
    (pss_seqS (ps_retS (pe_blt g.calm rfl rfl (A.a.free (i := 3) rfl) rfl (pa_consL rfl (w_lk (i := 0) rfl (vis_of rfl)) (pa_nilL))))
    (pss_nilS)))
def m_g_is_move : M Fw :=
  seqM (asgG (tgT 4 [tgN 2, tgN 3, tgN 4, tgN 5]) (frzM (rdN 0)))
  (seqM (ifS (orM (cmpT .NotIn (lkN 2) (lkN 1)) (cmpT .NotIn (lkN 5) (lkN 1))) (seqM (retS (cB false))
  (M.ret .nx)) (M.ret .nx))
  (seqM (retS (andV (frzM (blM (chn (fun i j => decide (i ≤ j)) (fun i j => decide (i ≤ j)) (frzM (un1 negD (lookM (frzM (cI 6))))) (frzM (rdN 3)) (frzM (cI 6))))) (blM (chn (fun i j => decide (i ≤ j)) (fun i j => decide (i ≤ j)) (frzM (un1 negD (lookM (frzM (cI 6))))) (frzM (rdN 4)) (frzM (cI 6))))))
  (M.ret .nx)))
def c_g_is_move : CF := bodyC 2 ["move", "modes", "mode", "rows", "columns", "after"] m_g_is_move
theorem okc_g_is_move : okC c_g_is_move := bodyC_ok _ _ _
theorem sc_g_is_move : FnScope ["move", "modes", "mode", "rows", "columns", "after"] ["move", "modes"] (defScope s_g_is_move) := ⟨rfl, rfl, rfl, by decide +kernel, rfl, by decide +kernel, by decide +kernel⟩
theorem ok_g_is_move (A : Al2 lst txs tps PR K mg base) : Pf lst PR w K mg base 1 (ga K "is_move") ["move", "modes"] c_g_is_move := by
  obtain ⟨fd, F⟩ := A.fnT (i := 2) (j := 2) (st := s_g_is_move) rfl rfl
  refine ⟨fd, def_ok rfl F sc_g_is_move fun X E x cdv Ar outer s H hX hT hca bd => ?_, fun_ba F fun _ _ _ _ _ _ us hl => match us, hl with | [_, _], _ => rfl⟩
  subst hX
  have g := bd.toGd
  exact pss_seqS (s_asg (PE.frz (w_var (i := 0) rfl (vis_of rfl))) (g_tup g (g_cons (g_name g (i := 2) rfl (loc_of rfl) (fn_of' rfl)) (g_cons (g_name g (i := 3) rfl (loc_of rfl) (fn_of' rfl)) (g_cons (g_name g (i := 4) rfl (loc_of rfl) (fn_of' rfl)) (g_cons (g_name g (i := 5) rfl (loc_of rfl) (fn_of' rfl)) (pgs_nilM)))))))
    (pss_seqS (ps_ifS (PW.pt (pw_orM (wt_cmp g.toGw (w_lk (i := 2) rfl (vis_of rfl)) (w_lk (i := 1) rfl (vis_of rfl))) (wt_or1 (wt_cmp g.toGw (w_lk (i := 5) rfl (vis_of rfl)) (w_lk (i := 1) rfl (vis_of rfl)))))) (pss_seqS (ps_retS (w_bl))
    (pss_nilS)) (pss_nilS))
    (pss_seqS (ps_retS (pe_andV (PE.frz (pe_chn rfl rfl rfl (PE.frz (pe_neg1 (w_look (PE.frz (u_cval A (i := 0) (j := 1) rfl rfl rfl rfl rfl))))) (PE.frz (w_var (i := 3) rfl (vis_of rfl))) (PE.frz (u_cval A (i := 0) (j := 1) rfl rfl rfl rfl rfl)))) (pe_one (pe_chn rfl rfl rfl (PE.frz (pe_neg1 (w_look (PE.frz (u_cval A (i := 0) (j := 1) rfl rfl rfl rfl rfl))))) (PE.frz (w_var (i := 4) rfl (vis_of rfl))) (PE.frz (u_cval A (i := 0) (j := 1) rfl rfl rfl rfl rfl))))))
    (pss_nilS)))
def m_g_move_key : M Fw :=
  seqM (retS (tupM (argsV [frzM (ixM (lkN 1) (frzM (bin2 ixD (lkN 0) (lookM (frzM (cI 0)))))), frzM (bin2 ixD (lkN 0) (lookM (frzM (cI 1)))), frzM (bin2 ixD (lkN 0) (lookM (frzM (cI 2)))), frzM (ixM (lkN 1) (frzM (bin2 ixD (lkN 0) (lookM (frzM (cI 3))))))])))
  (M.ret .nx)
def c_g_move_key : CF := bodyC 2 ["move", "modes"] m_g_move_key
theorem okc_g_move_key : okC c_g_move_key := bodyC_ok _ _ _
theorem sc_g_move_key : FnScope ["move", "modes"] ["move", "modes"] (defScope s_g_move_key) := ⟨rfl, rfl, rfl, by decide +kernel, rfl, by decide +kernel, by decide +kernel⟩
theorem ok_g_move_key (A : Al2 lst txs tps PR K mg base) : Pf lst PR w K mg base 1 (ga K "move_key") ["move", "modes"] c_g_move_key := by
  obtain ⟨fd, F⟩ := A.fnT (i := 3) (j := 3) (st := s_g_move_key) rfl rfl
  refine ⟨fd, def_ok rfl F sc_g_move_key fun X E x cdv Ar outer s H hX hT hca bd => ?_, fun_ba F fun _ _ _ _ _ _ us hl => match us, hl with | [_, _], _ => rfl⟩
  subst hX
  have g := bd.toGd
  exact pss_seqS (ps_retS (pe_tupM (pa_consV rfl (PE.frz (w_index1 (w_lk (i := 1) rfl (vis_of rfl)) (PE.frz (w_ix g.toGw (w_lk (i := 0) rfl (vis_of rfl)) (w_look (PE.frz (w_int))))))) (pa_consV rfl (PE.frz (w_ix g.toGw (w_lk (i := 0) rfl (vis_of rfl)) (w_look (PE.frz (w_int))))) (pa_consV rfl (PE.frz (w_ix g.toGw (w_lk (i := 0) rfl (vis_of rfl)) (w_look (PE.frz (w_int))))) (pa_consV rfl (PE.frz (w_index1 (w_lk (i := 1) rfl (vis_of rfl)) (PE.frz (w_ix g.toGw (w_lk (i := 0) rfl (vis_of rfl)) (w_look (PE.frz (w_int))))))) (pa_nilV)))))))
    (pss_nilS)
def l1_g_checked_moves : M Fw :=
  seqM (ifS (notM (truM (lookM (frzM (callM c_g_is_move (argsV [frzM (rdN 3), frzM (rdN 1)])))))) (seqM (raiseM "InvalidBook" ["part"] (argsV [frzM (bltM tupleF (argsL [lkN 3]))]))
  (M.ret .nx)) (M.ret .nx))
  (seqM (asgG (tgS (lkN 2) (frzM (bltM tupleF (argsL [lkN 3])))) (frzM (cB true)))
  (M.ret .nx))
def m_g_checked_moves : M Fw :=
  seqM (asgN 2 (dctM))
  (seqM (forS (iterV (frzM (rdN 0))) (tgN 3) (l1_g_checked_moves))
  (seqM (ifS (cmpT .Gt (lookM (frzM (bltM lenF (argsL [lkN 2])))) (lookM (frzM (cI 8)))) (seqM (raiseM "InvalidBook" ["part"] (argsV [frzM (bltM lenF (argsL [lkN 2]))]))
  (M.ret .nx)) (M.ret .nx))
  (seqM (retS (bltM tupleF (argsL [lookM (frzM (srtM [1] 2 (frzM (bltM listF (argsL [lkN 2]))) (frzM (callM c_g_move_key (argsV [frzM (rdN 0), frzM (rdN 1)])))))])))
  (M.ret .nx))))
def c_g_checked_moves : CF := bodyC 2 ["moves", "modes", "kept", "move"] m_g_checked_moves
theorem okc_g_checked_moves : okC c_g_checked_moves := bodyC_ok _ _ _
theorem sc_g_checked_moves : FnScope ["moves", "modes", "kept", "move"] ["moves", "modes"] (defScope s_g_checked_moves) := ⟨rfl, rfl, rfl, by decide +kernel, rfl, by decide +kernel, by decide +kernel⟩
theorem ok_g_checked_moves (A : Al2 lst txs tps PR K mg base) : Pf lst PR w K mg base 5 (ga K "checked_moves") ["moves", "modes"] c_g_checked_moves := by
  obtain ⟨fd, F⟩ := A.fnT (i := 4) (j := 4) (st := s_g_checked_moves) rfl rfl
  refine ⟨fd, def_okL rfl F sc_g_checked_moves fun X E x cdv Ar outer s H hcd hX hT hca bd => ?_, fun_ba F fun _ _ _ _ _ _ us hl => match us, hl with | [_, _], _ => rfl⟩
  subst hX
  have g := bd.toGd
  exact pss_seqS (s_set g (i := 2) rfl (loc_of rfl) (pe_dctM) rfl (fn_of' rfl))
    (pss_seqS (s_for g bd.own (pi_val (PE.frz (w_var (i := 0) rfl (vis_of rfl)))) (g_name g (i := 3) rfl (loc_of rfl) (fn_of' rfl)) (pss_seqS (ps_ifS (pt_notM (pt_tru (w_look (PE.frz (u_call A (i := 2) rfl hT hca okc_g_is_move (ok_g_is_move A) (bd.room.mono (by decide)) rfl g.tk rfl rfl (pa_consV rfl (PE.frz (w_var (i := 3) rfl (vis_of rfl))) (pa_consV rfl (PE.frz (w_var (i := 1) rfl (vis_of rfl))) (pa_nilV)))))) (fun _ => rfl))) (pss_seqS (v_raise g hca (er_InvalidBook rfl A.a) (bd.room.mono (by decide)) (by decide) (by decide) rfl rfl rfl (pa_consV rfl (PE.frz (pe_blt g.calm rfl rfl (A.a.free (i := 3) rfl) rfl (pa_consL rfl (w_lk (i := 3) rfl (vis_of rfl)) (pa_nilL)))) (pa_nilV)))
    (pss_nilS)) (pss_nilS))
    (pss_seqS (s_asg (PE.frz (w_bl)) (pg_subM g.u1 rfl (w_lk (i := 2) rfl (vis_of rfl)) (PE.frz (pe_blt g.calm rfl rfl (A.a.free (i := 3) rfl) rfl (pa_consL rfl (w_lk (i := 3) rfl (vis_of rfl)) (pa_nilL))))))
    (pss_nilS))))
    (pss_seqS (ps_ifS (wt_cmp g.toGw (w_look (PE.frz (pe_blt g.calm rfl rfl (A.a.free (i := 1) rfl) rfl (pa_consL rfl (w_lk (i := 2) rfl (vis_of rfl)) (pa_nilL))))) (w_look (PE.frz (u_cval A (i := 0) (j := 2) rfl rfl rfl rfl rfl)))) (pss_seqS (v_raise g hca (er_InvalidBook rfl A.a) (bd.room.mono (by decide)) (by decide) (by decide) rfl rfl rfl (pa_consV rfl (PE.frz (pe_blt g.calm rfl rfl (A.a.free (i := 1) rfl) rfl (pa_consL rfl (w_lk (i := 2) rfl (vis_of rfl)) (pa_nilL)))) (pa_nilV)))
    (pss_nilS)) (pss_nilS))
    (pss_seqS (ps_retS (pe_blt g.calm rfl rfl (A.a.free (i := 3) rfl) rfl (pa_consL rfl (w_look (PE.frz (u_srt A (i := 0) rfl (NL := ["move", "modes"]) (fr := ["modes"]) (pn := "move") (js := [1]) (k := 1) hT rfl (A.a.free (i := 6) rfl) (PE.frz (pe_blt g.calm rfl rfl (A.a.free (i := 5) rfl) rfl (pa_consL rfl (w_lk (i := 2) rfl (vis_of rfl)) (pa_nilL)))) rfl hcd rfl rfl (NdefX.nscope_by (by decide +kernel)) rfl (by decide +kernel) rfl (bd.room.mono (by decide)) (fun _ _ _ _ _ => rfl) (fun fL cnL clL AL oL sL HL EL xL gxL hrL => PE.frz (u_call A (i := 3) rfl (gxL.2.trans hT) (gxL.1.trans hca) okc_g_move_key (ok_g_move_key A) (hrL.mono (by decide)) rfl (gd_lam (by decide) hrL).tk rfl rfl (pa_consV rfl (PE.frz (w_var (i := 0) rfl (vis_of rfl))) (pa_consV rfl (PE.frz (w_var (i := 1) rfl (vis_of rfl))) (pa_nilV)))))))) (pa_nilL))))
    (pss_nilS))))
noncomputable def m_Book_init : M Fw :=
  seqM (setFld (naB lst) "modes" (lkN 0) (frzM (callM c_g_checked_modes (argsV [frzM (rdN 2)]))))
  (seqM (setFld (naB lst) "moves" (lkN 0) (frzM (callM c_g_checked_moves (argsV [frzM (rdN 1), frzM (un1 (fldD (naB lst) "modes") (lkN 0))]))))
  (M.ret .nx))
noncomputable def c_Book_init : CF := initC "Book" 2 ["self", "moves", "modes"] m_Book_init
theorem okc_Book_init : okC c_Book_init := initC_ok _ _ _ _
theorem sc_Book_init : FnScope ["self", "moves", "modes"] ["self", "moves", "modes"] (defScope s_Book_init) := ⟨rfl, rfl, rfl, by decide +kernel, rfl, by decide +kernel, by decide +kernel⟩
theorem ok_Book_init (A : Al2 lst txs tps PR K mg base) : Pn lst PR w K mg base 6 "Book" 1 ["modes"] ["self", "moves", "modes"] c_Book_init := by
  obtain ⟨fd, F⟩ := A.fnM (i := 0) (j := 5) (st := s_Book_init) rfl rfl
  refine ⟨fd, init_ok (c := "Book") rfl (funD_of F) sc_Book_init fun X E x cdv Ar outer s H hX hT hca bd => ?_, kbn_of F fun _ _ _ _ _ _ us ws h1 h2 => match us, h1, ws, h2 with | [_, _], _, [_], _ => rfl⟩
  subst hX
  have g := bd.toGd
  exact pss_seqS (u_setf A her_na hca (w_lk (i := 0) rfl (vis_of rfl)) (PE.frz (u_call A (i := 1) rfl hT hca okc_g_checked_modes (ok_g_checked_modes A) (bd.room.mono (by decide)) rfl g.tk rfl rfl (pa_consV rfl (PE.frz (w_var (i := 2) rfl (vis_of rfl))) (pa_nilV)))) rfl)
    (pss_seqS (u_setf A her_na hca (w_lk (i := 0) rfl (vis_of rfl)) (PE.frz (u_call A (i := 4) rfl hT hca okc_g_checked_moves (ok_g_checked_moves A) (bd.room.mono (by decide)) rfl g.tk rfl rfl (pa_consV rfl (PE.frz (w_var (i := 1) rfl (vis_of rfl))) (pa_consV rfl (PE.frz (u_fld A her_na hca (w_lk (i := 0) rfl (vis_of rfl)) rfl)) (pa_nilV))))) rfl)
    (pss_nilS))
def m_Book_eq : M Fw :=
  seqM (retS (andV (frzM (isiM (koT lst "Book") (lkN 1))) (andV (frzM (bin2 (cmpD .Eq) (lookM (frzM (un1 (fldD (naB lst) "modes") (lkN 0)))) (lookM (frzM (un1 (fldD (naB lst) "modes") (lkN 1)))))) (bin2 (cmpD .Eq) (lookM (frzM (un1 (fldD (naB lst) "moves") (lkN 0)))) (lookM (frzM (un1 (fldD (naB lst) "moves") (lkN 1))))))))
  (M.ret .nx)
def c_Book_eq : CF := bodyC 2 ["self", "other"] m_Book_eq
theorem okc_Book_eq : okC c_Book_eq := bodyC_ok _ _ _
theorem sc_Book_eq : FnScope ["self", "other"] ["self", "other"] (defScope s_Book_eq) := ⟨rfl, rfl, rfl, by decide +kernel, rfl, by decide +kernel, by decide +kernel⟩
theorem ok_Book_eq (A : Al2 lst txs tps PR K mg base) : Pf lst PR w K mg base 1 (ma K (ga K "Book") "__eq__") ["self", "other"] c_Book_eq := by
  obtain ⟨fd, F⟩ := A.fnM (i := 1) (j := 6) (st := s_Book_eq) rfl rfl
  refine ⟨fd, def_ok rfl F sc_Book_eq fun X E x cdv Ar outer s H hX hT hca bd => ?_, fun_ba F fun _ _ _ _ _ _ us hl => match us, hl with | [_, _], _ => rfl⟩
  subst hX
  have g := bd.toGd
  exact pss_seqS (ps_retS (pe_andV (PE.frz (u_iso A (i := 0) hca rfl (A.a.free (i := 7) rfl) rfl rfl rfl her_ko rfl (w_lk (i := 1) rfl (vis_of rfl)))) (pe_andV (PE.frz (w_cmp g.toGw (w_look (PE.frz (u_fld A her_na hca (w_lk (i := 0) rfl (vis_of rfl)) rfl))) (w_look (PE.frz (u_fld A her_na hca (w_lk (i := 1) rfl (vis_of rfl)) rfl))))) (pe_one (w_cmp g.toGw (w_look (PE.frz (u_fld A her_na hca (w_lk (i := 0) rfl (vis_of rfl)) rfl))) (w_look (PE.frz (u_fld A her_na hca (w_lk (i := 1) rfl (vis_of rfl)) rfl))))))))
    (pss_nilS)
def l1_g_parse_modes : M Fw :=
  seqM (ifS (orM (notM (truM (lookM (frzM (callM c_g_is_mode (argsV [frzM (rdN 3)])))))) (cmpT .In (lkN 3) (lookM (frzM (slM (lkN 4) (M.ret none) (prtM (frzM (rdN 2)))))))) (seqM (retS (cN))
  (M.ret .nx)) (M.ret .nx))
  (M.ret .nx)
def m_g_parse_modes : M Fw :=
  seqM (asgG (tgR [tgN 1, tgN 4]) (frzM (bmM "str" splF (lkN 0) (argsV [frzM (cS " ")]))))
  (seqM (ifS (orM (cmpT .NotEq (lkN 1) (lookM (frzM (cS "modes")))) (notM (chn (fun i j => decide (i ≤ j)) (fun i j => decide (i ≤ j)) (frzM (cI 1)) (frzM (bltM lenF (argsL [lkN 4]))) (frzM (cI 3))))) (seqM (retS (cN))
  (M.ret .nx)) (M.ret .nx))
  (seqM (forS (iterA enuF (argsV [frzM (rdN 4)])) (tgT 2 [tgN 2, tgN 3]) (l1_g_parse_modes))
  (seqM (retS (rdN 4))
  (M.ret .nx))))
def c_g_parse_modes : CF := bodyC 1 ["line", "word", "place", "mode", "modes"] m_g_parse_modes
theorem okc_g_parse_modes : okC c_g_parse_modes := bodyC_ok _ _ _
theorem sc_g_parse_modes : FnScope ["line", "word", "place", "mode", "modes"] ["line"] (defScope s_g_parse_modes) := ⟨rfl, rfl, rfl, by decide +kernel, rfl, by decide +kernel, by decide +kernel⟩
theorem ok_g_parse_modes (A : Al2 lst txs tps PR K mg base) : Pf lst PR w K mg base 2 (ga K "parse_modes") ["line"] c_g_parse_modes := by
  obtain ⟨fd, F⟩ := A.fnT (i := 5) (j := 7) (st := s_g_parse_modes) rfl rfl
  refine ⟨fd, def_ok rfl F sc_g_parse_modes fun X E x cdv Ar outer s H hX hT hca bd => ?_, fun_ba F fun _ _ _ _ _ _ us hl => match us, hl with | [_], _ => rfl⟩
  subst hX
  have g := bd.toGd
  exact pss_seqS (s_asg (PE.frz (w_split1 (w_lk (i := 0) rfl (vis_of rfl)) (PE.frz (w_str)))) (g_star g (g_cons (g_name g (i := 1) rfl (loc_of rfl) (fn_of' rfl)) (g_cons (g_name g (i := 4) rfl (loc_of rfl) (fn_of' rfl)) (pgs_nilM)))))
    (pss_seqS (ps_ifS (PW.pt (pw_orM (wt_cmp g.toGw (w_lk (i := 1) rfl (vis_of rfl)) (w_look (PE.frz (w_str)))) (wt_or1 (pt_notM (pt_chn rfl rfl rfl (PE.frz (w_int)) (PE.frz (pe_blt g.calm rfl rfl (A.a.free (i := 1) rfl) rfl (pa_consL rfl (w_lk (i := 4) rfl (vis_of rfl)) (pa_nilL)))) (PE.frz (u_cval A (i := 0) (j := 0) rfl rfl rfl rfl rfl))))))) (pss_seqS (ps_retS (w_non))
    (pss_nilS)) (pss_nilS))
    (pss_seqS (s_for g bd.own (pi_enu rfl (A.a.free (i := 4) rfl) rfl (pa_consV rfl (PE.frz (w_var (i := 4) rfl (vis_of rfl))) (pa_nilV))) (g_tup g (g_cons (g_name g (i := 2) rfl (loc_of rfl) (fn_of' rfl)) (g_cons (g_name g (i := 3) rfl (loc_of rfl) (fn_of' rfl)) (pgs_nilM)))) (pss_seqS (ps_ifS (PW.pt (pw_orM (pt_notM (pt_tru (w_look (PE.frz (u_call A (i := 0) rfl hT hca okc_g_is_mode (ok_g_is_mode A) (bd.room.mono (by decide)) rfl g.tk rfl rfl (pa_consV rfl (PE.frz (w_var (i := 3) rfl (vis_of rfl))) (pa_nilV))))) (fun _ => rfl))) (wt_or1 (wt_cmp g.toGw (w_lk (i := 3) rfl (vis_of rfl)) (w_look (PE.frz (pe_slM (w_lk (i := 4) rfl (vis_of rfl)) (po_noneM) (po_someM (PE.frz (w_var (i := 2) rfl (vis_of rfl))))))))))) (pss_seqS (ps_retS (w_non))
    (pss_nilS)) (pss_nilS))
    (pss_nilS)))
    (pss_seqS (ps_retS (w_var (i := 4) rfl (vis_of rfl)))
    (pss_nilS))))
def m_g_parse_move : M Fw :=
  seqM (mtX (frzM (bmM "str" splF (lkN 0) (argsV [frzM (cS " ")]))) [([.cap 2, .cap 3, .cap 4, .cap 5], seqM (ifS (andM (cmpT .In (lkN 2) (lkN 1)) (andM (cmpT .In (lkN 5) (lkN 1)) (andM ((mvInM md_VALUES (lkN 3)).bind bool1) ((mvInM md_VALUES (lkN 4)).bind bool1)))) (seqM (retS (tupM (argsV [frzM (rdN 2), frzM (mvIxM md_VALUES (lkN 3)), frzM (mvIxM md_VALUES (lkN 4)), frzM (rdN 5)])))
  (M.ret .nx)) (M.ret .nx))
  (M.ret .nx))])
  (seqM (retS (cN))
  (M.ret .nx))
def c_g_parse_move : CF := bodyC 2 ["line", "modes", "mode", "rows", "columns", "after"] m_g_parse_move
theorem okc_g_parse_move : okC c_g_parse_move := bodyC_ok _ _ _
theorem sc_g_parse_move : FnScope ["line", "modes", "mode", "rows", "columns", "after"] ["line", "modes"] (defScope s_g_parse_move) := ⟨rfl, rfl, rfl, by decide +kernel, rfl, by decide +kernel, by decide +kernel⟩
theorem ok_g_parse_move (A : Al2 lst txs tps PR K mg base) (hM : MvAt w K mg mds) : Pf lst PR w K mg base 1 (ga K "parse_move") ["line", "modes"] c_g_parse_move := by
  obtain ⟨fd, F⟩ := A.fnT (i := 6) (j := 8) (st := s_g_parse_move) rfl rfl
  refine ⟨fd, def_ok rfl F sc_g_parse_move fun X E x cdv Ar outer s H hX hT hca bd => ?_, fun_ba F fun _ _ _ _ _ _ us hl => match us, hl with | [_, _], _ => rfl⟩
  subst hX
  have g := bd.toGd
  exact pss_seqS (s_matchX (PE.frz (w_split1 (w_lk (i := 0) rfl (vis_of rfl)) (PE.frz (w_str)))) (px_cons g.calm g.nd (.cap (i := 2) ⟨rfl, loc_of rfl, fn_of' rfl⟩ (.cap (i := 3) ⟨rfl, loc_of rfl, fn_of' rfl⟩ (.cap (i := 4) ⟨rfl, loc_of rfl, fn_of' rfl⟩ (.cap (i := 5) ⟨rfl, loc_of rfl, fn_of' rfl⟩ .nil)))) (pss_seqS (ps_ifS (PW.pt (pw_andM (wt_cmp g.toGw (w_lk (i := 2) rfl (vis_of rfl)) (w_lk (i := 1) rfl (vis_of rfl))) (pw_andM (wt_cmp g.toGw (w_lk (i := 5) rfl (vis_of rfl)) (w_lk (i := 1) rfl (vis_of rfl))) (pw_andM (wt_mvIn hM (i := 0) rfl rfl (w_lk (i := 3) rfl (vis_of rfl))) (wt_and1 (wt_mvIn hM (i := 0) rfl rfl (w_lk (i := 4) rfl (vis_of rfl)))))))) (pss_seqS (ps_retS (pe_tupM (pa_consV rfl (PE.frz (w_var (i := 2) rfl (vis_of rfl))) (pa_consV rfl (PE.frz (w_mvIx hM (i := 0) rfl rfl (w_lk (i := 3) rfl (vis_of rfl)))) (pa_consV rfl (PE.frz (w_mvIx hM (i := 0) rfl rfl (w_lk (i := 4) rfl (vis_of rfl)))) (pa_consV rfl (PE.frz (w_var (i := 5) rfl (vis_of rfl))) (pa_nilV)))))))
    (pss_nilS)) (pss_nilS))
    (pss_nilS)) px_nil rfl rfl))
    (pss_seqS (ps_retS (w_non))
    (pss_nilS))
noncomputable def l1_g_parse_book : M Fw :=
  seqM (asgZ 6 (callM c_g_parse_move (argsV [frzM (rdN 5), frzM (rdN 1)])))
  (seqM (ifS (orM (isN1 false (lkN 6)) (cmpT .GtE (lkN 4) (lookM (frzM (cI 8))))) (seqM (raiseM "InvalidText" ["line"] (argsV [frzM (bin2 (binD .Add) (lkN 4) (lookM (frzM (cI 2))))]))
  (M.ret .nx)) (M.ret .nx))
  (seqM (ifS (andM (truM (lkN 2)) ((bin2 tleD (lookM (frzM (callM c_g_move_key (argsV [frzM (rdN 6), frzM (rdN 1)])))) (lookM (frzM (callM c_g_move_key (argsV [frzM (bin2 ixD (lkN 2) (lookM (frzM (un1 negD (lookM (frzM (cI 1))))))), frzM (rdN 1)]))))).bind bool1)) (seqM (raiseM "InvalidText" ["line"] (argsV [frzM (bin2 (binD .Add) (lkN 4) (lookM (frzM (cI 2))))]))
  (M.ret .nx)) (M.ret .nx))
  (seqM (exprS (mutM "list" (fun y ds => if ds.length = 1 then appF y ds else none) (lkN 2) (argsV [frzM (rdN 6)])))
  (M.ret .nx))))
noncomputable def m_g_parse_book : M Fw :=
  seqM (asgG (tgR [tgN 3, tgN 7]) (frzM (bmM "str" splF (lkN 0) (argsV [frzM (cS "\n")]))))
  (seqM (asgZ 1 (callM c_g_parse_modes (argsV [frzM (rdN 3)])))
  (seqM (ifS (isN1 false (lkN 1)) (seqM (raiseM "InvalidText" ["line"] (argsV [frzM (cI 1)]))
  (M.ret .nx)) (M.ret .nx))
  (seqM (asgN 2 (lstM (argsV [])))
  (seqM (forS (iterA enuF (argsV [frzM (rdN 7)])) (tgT 2 [tgN 4, tgN 5]) (l1_g_parse_book))
  (seqM (retS (makeM c_Book_init (argsV [frzM (rdN 2)]) (argsV [frzM (rdN 1)]) (filA 1 1)))
  (M.ret .nx))))))
noncomputable def c_g_parse_book : CF := bodyC 1 ["text", "modes", "moves", "first", "place", "line", "move", "others"] m_g_parse_book
theorem okc_g_parse_book : okC c_g_parse_book := bodyC_ok _ _ _
theorem sc_g_parse_book : FnScope ["text", "modes", "moves", "first", "place", "line", "move", "others"] ["text"] (defScope s_g_parse_book) := ⟨rfl, rfl, rfl, by decide +kernel, rfl, by decide +kernel, by decide +kernel⟩
theorem ok_g_parse_book (A : Al2 lst txs tps PR K mg base) (hM : MvAt w K mg mds) : Pf lst PR w K mg base 8 (ga K "parse_book") ["text"] c_g_parse_book := by
  obtain ⟨fd, F⟩ := A.fnT (i := 7) (j := 9) (st := s_g_parse_book) rfl rfl
  refine ⟨fd, def_ok rfl F sc_g_parse_book fun X E x cdv Ar outer s H hX hT hca bd => ?_, fun_ba F fun _ _ _ _ _ _ us hl => match us, hl with | [_], _ => rfl⟩
  subst hX
  have g := bd.toGd
  exact pss_seqS (s_asg (PE.frz (w_split1 (w_lk (i := 0) rfl (vis_of rfl)) (PE.frz (w_str)))) (g_star g (g_cons (g_name g (i := 3) rfl (loc_of rfl) (fn_of' rfl)) (g_cons (g_name g (i := 7) rfl (loc_of rfl) (fn_of' rfl)) (pgs_nilM)))))
    (pss_seqS (PS.asgZ (s_set g (i := 1) rfl (loc_of rfl) (u_call A (i := 5) rfl hT hca okc_g_parse_modes (ok_g_parse_modes A) (bd.room.mono (by decide)) rfl g.tk rfl rfl (pa_consV rfl (PE.frz (w_var (i := 3) rfl (vis_of rfl))) (pa_nilV))) rfl (fn_of' rfl)))
    (pss_seqS (ps_ifS (pt_isN1 (w_lk (i := 1) rfl (vis_of rfl))) (pss_seqS (v_raise g hca (er_InvalidText rfl A.a) (bd.room.mono (by decide)) (by decide) (by decide) rfl rfl rfl (pa_consV rfl (PE.frz (w_int)) (pa_nilV)))
    (pss_nilS)) (pss_nilS))
    (pss_seqS (s_set g (i := 2) rfl (loc_of rfl) (pe_lstM (pa_nilV)) rfl (fn_of' rfl))
    (pss_seqS (s_for g bd.own (pi_enu rfl (A.a.free (i := 4) rfl) rfl (pa_consV rfl (PE.frz (w_var (i := 7) rfl (vis_of rfl))) (pa_nilV))) (g_tup g (g_cons (g_name g (i := 4) rfl (loc_of rfl) (fn_of' rfl)) (g_cons (g_name g (i := 5) rfl (loc_of rfl) (fn_of' rfl)) (pgs_nilM)))) (pss_seqS (PS.asgZ (s_set g (i := 6) rfl (loc_of rfl) (u_call A (i := 6) rfl hT hca okc_g_parse_move (ok_g_parse_move A hM) (bd.room.mono (by decide)) rfl g.tk rfl rfl (pa_consV rfl (PE.frz (w_var (i := 5) rfl (vis_of rfl))) (pa_consV rfl (PE.frz (w_var (i := 1) rfl (vis_of rfl))) (pa_nilV)))) rfl (fn_of' rfl)))
    (pss_seqS (ps_ifS (PW.pt (pw_orM (pt_isN1 (w_lk (i := 6) rfl (vis_of rfl))) (wt_or1 (wt_cmp g.toGw (w_lk (i := 4) rfl (vis_of rfl)) (w_look (PE.frz (u_cval A (i := 0) (j := 2) rfl rfl rfl rfl rfl))))))) (pss_seqS (v_raise g hca (er_InvalidText rfl A.a) (bd.room.mono (by decide)) (by decide) (by decide) rfl rfl rfl (pa_consV rfl (PE.frz (w_bin (w_lk (i := 4) rfl (vis_of rfl)) (w_look (PE.frz (w_int))))) (pa_nilV)))
    (pss_nilS)) (pss_nilS))
    (pss_seqS (ps_ifS (PW.pt (pw_andM (pt_tru (w_lk (i := 2) rfl (vis_of rfl)) (fun _ => rfl)) (wt_and1 (wt_tle g.toGw (w_look (PE.frz (u_call A (i := 3) rfl hT hca okc_g_move_key (ok_g_move_key A) (bd.room.mono (by decide)) rfl g.tk rfl rfl (pa_consV rfl (PE.frz (w_var (i := 6) rfl (vis_of rfl))) (pa_consV rfl (PE.frz (w_var (i := 1) rfl (vis_of rfl))) (pa_nilV)))))) (w_look (PE.frz (u_call A (i := 3) rfl hT hca okc_g_move_key (ok_g_move_key A) (bd.room.mono (by decide)) rfl g.tk rfl rfl (pa_consV rfl (PE.frz (w_ix g.toGw (w_lk (i := 2) rfl (vis_of rfl)) (w_look (PE.frz (pe_neg1 (w_look (PE.frz (w_int)))))))) (pa_consV rfl (PE.frz (w_var (i := 1) rfl (vis_of rfl))) (pa_nilV)))))))))) (pss_seqS (v_raise g hca (er_InvalidText rfl A.a) (bd.room.mono (by decide)) (by decide) (by decide) rfl rfl rfl (pa_consV rfl (PE.frz (w_bin (w_lk (i := 4) rfl (vis_of rfl)) (w_look (PE.frz (w_int))))) (pa_nilV)))
    (pss_nilS)) (pss_nilS))
    (pss_seqS (ps_exprS (w_append1 (w_lk (i := 2) rfl (vis_of rfl)) (PE.frz (w_var (i := 6) rfl (vis_of rfl)))) rfl)
    (pss_nilS))))))
    (pss_seqS (ps_retS (u_make A g (i := 0) rfl hT hca okc_Book_init (ok_Book_init A) (bd.room.mono (by decide)) rfl (pa_consV rfl (PE.frz (w_var (i := 2) rfl (vis_of rfl))) (pa_nilV)) (pk_consV (PE.frz (w_var (i := 1) rfl (vis_of rfl))) (pk_nilV)) rfl rfl rfl rfl rfl rfl))
    (pss_nilS))))))
def m_law_cell : M Fw :=
  seqM (ifS (cmpT .Lt (lkN 1) (lookM (frzM (bltM lenF (argsL [lkN 0]))))) (seqM (retS (bin2 ixD (lkN 0) (lkN 1)))
  (M.ret .nx)) (M.ret .nx))
  (seqM (retS (cI 0))
  (M.ret .nx))
def c_law_cell : CF := bodyC 2 ["_law_script", "_law_place"] m_law_cell
theorem okc_law_cell : okC c_law_cell := bodyC_ok _ _ _
theorem sc_law_cell : FnScope ["_law_script", "_law_place"] ["_law_script", "_law_place"] (defScope s_law_cell) := ⟨rfl, rfl, rfl, by decide +kernel, rfl, by decide +kernel, by decide +kernel⟩
theorem ok_law_cell (A : Al2 lst txs tps PR K mg base) : Pf lst PR w K mg base 1 (ga K "_law_cell") ["_law_script", "_law_place"] c_law_cell := by
  obtain ⟨fd, F⟩ := A.fnT (i := 8) (j := 10) (st := s_law_cell) rfl rfl
  refine ⟨fd, def_ok rfl F sc_law_cell fun X E x cdv Ar outer s H hX hT hca bd => ?_, fun_ba F fun _ _ _ _ _ _ us hl => match us, hl with | [_, _], _ => rfl⟩
  subst hX
  have g := bd.toGd
  exact pss_seqS (ps_ifS (wt_cmp g.toGw (w_lk (i := 1) rfl (vis_of rfl)) (w_look (PE.frz (pe_blt g.calm rfl rfl (A.a.free (i := 1) rfl) rfl (pa_consL rfl (w_lk (i := 0) rfl (vis_of rfl)) (pa_nilL)))))) (pss_seqS (ps_retS (w_ix g.toGw (w_lk (i := 0) rfl (vis_of rfl)) (w_lk (i := 1) rfl (vis_of rfl))))
    (pss_nilS)) (pss_nilS))
    (pss_seqS (ps_retS (w_int))
    (pss_nilS))
def m_law_source : M Fw :=
  seqM (ifS (cmpT .GtE (lkN 0) (lookM (frzM (bin2 (binD .Pow) (lookM (frzM (cI 10))) (lookM (frzM (cI 18))))))) (seqM (retS (lstM (argsV [frzM (rdN 0), frzM (cI 1)])))
  (M.ret .nx)) (M.ret .nx))
  (seqM (retS (lstM (argsV [frzM (bin2 (binD .Mod) (lookM (frzM (bltM intF (argsL [lookM (frzM (bin2 (binD .Add) (lookM (frzM (bin2 (binD .Mult) (lkN 0) (lookM (frzM (cI 45991)))))) (lookM (frzM (cI 49979687)))))])))) (lookM (frzM (cI 2147483647)))), frzM (cI 0)])))
  (M.ret .nx))
def c_law_source : CF := bodyC 1 ["_law_cell_here"] m_law_source
theorem okc_law_source : okC c_law_source := bodyC_ok _ _ _
theorem sc_law_source : FnScope ["_law_cell_here"] ["_law_cell_here"] (defScope s_law_source) := ⟨rfl, rfl, rfl, by decide +kernel, rfl, by decide +kernel, by decide +kernel⟩
theorem ok_law_source (A : Al2 lst txs tps PR K mg base) : Pf lst PR w K mg base 1 (ga K "_law_source") ["_law_cell_here"] c_law_source := by
  obtain ⟨fd, F⟩ := A.fnT (i := 9) (j := 11) (st := s_law_source) rfl rfl
  refine ⟨fd, def_ok rfl F sc_law_source fun X E x cdv Ar outer s H hX hT hca bd => ?_, fun_ba F fun _ _ _ _ _ _ us hl => match us, hl with | [_], _ => rfl⟩
  subst hX
  have g := bd.toGd
  exact pss_seqS (ps_ifS (wt_cmp g.toGw (w_lk (i := 0) rfl (vis_of rfl)) (w_look (PE.frz (w_bin (w_look (PE.frz (w_int))) (w_look (PE.frz (w_int))))))) (pss_seqS (ps_retS (pe_lstM (pa_consV rfl (PE.frz (w_var (i := 0) rfl (vis_of rfl))) (pa_consV rfl (PE.frz (w_int)) (pa_nilV)))))
    (pss_nilS)) (pss_nilS))
    (pss_seqS (ps_retS (pe_lstM (pa_consV rfl (PE.frz (w_bin (w_look (PE.frz (pe_blt g.calm rfl rfl (A.a.free (i := 8) rfl) rfl (pa_consL rfl (w_look (PE.frz (w_bin (w_look (PE.frz (w_bin (w_lk (i := 0) rfl (vis_of rfl)) (w_look (PE.frz (w_int)))))) (w_look (PE.frz (w_int)))))) (pa_nilL))))) (w_look (PE.frz (w_int))))) (pa_consV rfl (PE.frz (w_int)) (pa_nilV)))))
    (pss_nilS))
def m_law_draw : M Fw :=
  seqM (ifS (cmpT .Eq (lookM (frzM (bin2 ixD (lkN 0) (lookM (frzM (cI 1)))))) (lookM (frzM (cI 1)))) (seqM (asgZ 2 (bin2 (binD .Mod) (lookM (frzM (bltM intF (argsL [lookM (frzM (bin2 ixD (lkN 0) (lookM (frzM (cI 0)))))])))) (lkN 1)))
  (seqM (asgG (tgS (lkN 0) (frzM (cI 0))) (frzM (bin2 (binD .FloorDiv) (lookM (frzM (bin2 ixD (lkN 0) (lookM (frzM (cI 0)))))) (lkN 1))))
  (seqM (retS (rdN 2))
  (M.ret .nx)))) (M.ret .nx))
  (seqM (asgG (tgS (lkN 0) (frzM (cI 0))) (frzM (bin2 (binD .Mod) (lookM (frzM (bltM intF (argsL [lookM (frzM (bin2 (binD .Add) (lookM (frzM (bin2 (binD .Mult) (lookM (frzM (bin2 ixD (lkN 0) (lookM (frzM (cI 0)))))) (lookM (frzM (cI 69621)))))) (lookM (frzM (cI 49979687)))))])))) (lookM (frzM (cI 2147483647))))))
  (seqM (retS (bin2 (binD .Mod) (lookM (frzM (bin2 (binD .FloorDiv) (lookM (frzM (bltM intF (argsL [lookM (frzM (bin2 (binD .Mod) (lookM (frzM (bin2 (binD .Pow) (lookM (frzM (bin2 ixD (lkN 0) (lookM (frzM (cI 0)))))) (lookM (frzM (cI 5)))))) (lookM (frzM (cI 2147483647)))))])))) (lookM (frzM (cI 16)))))) (lkN 1)))
  (M.ret .nx)))
def c_law_draw : CF := bodyC 2 ["_law_source_here", "_law_limit", "_law_digit"] m_law_draw
theorem okc_law_draw : okC c_law_draw := bodyC_ok _ _ _
theorem sc_law_draw : FnScope ["_law_source_here", "_law_limit", "_law_digit"] ["_law_source_here", "_law_limit"] (defScope s_law_draw) := ⟨rfl, rfl, rfl, by decide +kernel, rfl, by decide +kernel, by decide +kernel⟩
theorem ok_law_draw (A : Al2 lst txs tps PR K mg base) : Pf lst PR w K mg base 1 (ga K "_law_draw") ["_law_source_here", "_law_limit"] c_law_draw := by
  obtain ⟨fd, F⟩ := A.fnT (i := 10) (j := 12) (st := s_law_draw) rfl rfl
  refine ⟨fd, def_ok rfl F sc_law_draw fun X E x cdv Ar outer s H hX hT hca bd => ?_, fun_ba F fun _ _ _ _ _ _ us hl => match us, hl with | [_, _], _ => rfl⟩
  subst hX
  have g := bd.toGd
  exact pss_seqS (ps_ifS (wt_cmp g.toGw (w_look (PE.frz (w_ix g.toGw (w_lk (i := 0) rfl (vis_of rfl)) (w_look (PE.frz (w_int)))))) (w_look (PE.frz (w_int)))) (pss_seqS (PS.asgZ (s_set g (i := 2) rfl (loc_of rfl) (w_bin (w_look (PE.frz (pe_blt g.calm rfl rfl (A.a.free (i := 8) rfl) rfl (pa_consL rfl (w_look (PE.frz (w_ix g.toGw (w_lk (i := 0) rfl (vis_of rfl)) (w_look (PE.frz (w_int)))))) (pa_nilL))))) (w_lk (i := 1) rfl (vis_of rfl))) rfl (fn_of' rfl)))
    (pss_seqS (s_asg (PE.frz (w_bin (w_look (PE.frz (w_ix g.toGw (w_lk (i := 0) rfl (vis_of rfl)) (w_look (PE.frz (w_int)))))) (w_lk (i := 1) rfl (vis_of rfl)))) (pg_subM g.u1 rfl (w_lk (i := 0) rfl (vis_of rfl)) (PE.frz (w_int))))
    (pss_seqS (ps_retS (w_var (i := 2) rfl (vis_of rfl)))
    (pss_nilS)))) (pss_nilS))
    (pss_seqS (s_asg (PE.frz (w_bin (w_look (PE.frz (pe_blt g.calm rfl rfl (A.a.free (i := 8) rfl) rfl (pa_consL rfl (w_look (PE.frz (w_bin (w_look (PE.frz (w_bin (w_look (PE.frz (w_ix g.toGw (w_lk (i := 0) rfl (vis_of rfl)) (w_look (PE.frz (w_int)))))) (w_look (PE.frz (w_int)))))) (w_look (PE.frz (w_int)))))) (pa_nilL))))) (w_look (PE.frz (w_int))))) (pg_subM g.u1 rfl (w_lk (i := 0) rfl (vis_of rfl)) (PE.frz (w_int))))
    (pss_seqS (ps_retS (w_bin (w_look (PE.frz (w_bin (w_look (PE.frz (pe_blt g.calm rfl rfl (A.a.free (i := 8) rfl) rfl (pa_consL rfl (w_look (PE.frz (w_bin (w_look (PE.frz (w_bin (w_look (PE.frz (w_ix g.toGw (w_lk (i := 0) rfl (vis_of rfl)) (w_look (PE.frz (w_int)))))) (w_look (PE.frz (w_int)))))) (w_look (PE.frz (w_int)))))) (pa_nilL))))) (w_look (PE.frz (w_int)))))) (w_lk (i := 1) rfl (vis_of rfl))))
    (pss_nilS)))
def m_law_sign : M Fw :=
  seqM (ifS (cmpT .Lt (lkN 0) (lookM (frzM (cI 0)))) (seqM (retS (bltM strF (argsL [lkN 0])))
  (M.ret .nx)) (M.ret .nx))
  (seqM (retS (bin2 (binD .Add) (lookM (frzM (cS "+"))) (lookM (frzM (bltM strF (argsL [lkN 0]))))))
  (M.ret .nx))
def c_law_sign : CF := bodyC 1 ["_law_value_here"] m_law_sign
theorem okc_law_sign : okC c_law_sign := bodyC_ok _ _ _
theorem sc_law_sign : FnScope ["_law_value_here"] ["_law_value_here"] (defScope s_law_sign) := ⟨rfl, rfl, rfl, by decide +kernel, rfl, by decide +kernel, by decide +kernel⟩
theorem ok_law_sign (A : Al2 lst txs tps PR K mg base) : Pf lst PR w K mg base 1 (ga K "_law_sign") ["_law_value_here"] c_law_sign := by
  obtain ⟨fd, F⟩ := A.fnT (i := 11) (j := 13) (st := s_law_sign) rfl rfl
  refine ⟨fd, def_ok rfl F sc_law_sign fun X E x cdv Ar outer s H hX hT hca bd => ?_, fun_ba F fun _ _ _ _ _ _ us hl => match us, hl with | [_], _ => rfl⟩
  subst hX
  have g := bd.toGd
  exact pss_seqS (ps_ifS (wt_cmp g.toGw (w_lk (i := 0) rfl (vis_of rfl)) (w_look (PE.frz (w_int)))) (pss_seqS (ps_retS (w_str_int rfl (A.a.free (i := 9) rfl) rfl (pa_consL rfl (w_lk (i := 0) rfl (vis_of rfl)) (pa_nilL))))
    (pss_nilS)) (pss_nilS))
    (pss_seqS (ps_retS (w_bin (w_look (PE.frz (w_str))) (w_look (PE.frz (w_str_int rfl (A.a.free (i := 9) rfl) rfl (pa_consL rfl (w_lk (i := 0) rfl (vis_of rfl)) (pa_nilL)))))))
    (pss_nilS))
def m_law_mark : M Fw :=
  seqM (retS (tupM (argsV [frzM (ixM (lkN 1) (frzM (bin2 ixD (lkN 0) (lookM (frzM (cI 0)))))), frzM (bin2 ixD (lkN 0) (lookM (frzM (cI 1)))), frzM (bin2 ixD (lkN 0) (lookM (frzM (cI 2)))), frzM (ixM (lkN 1) (frzM (bin2 ixD (lkN 0) (lookM (frzM (cI 3))))))])))
  (M.ret .nx)
def c_law_mark : CF := bodyC 2 ["_law_move_here", "_law_kinds"] m_law_mark
theorem okc_law_mark : okC c_law_mark := bodyC_ok _ _ _
theorem sc_law_mark : FnScope ["_law_move_here", "_law_kinds"] ["_law_move_here", "_law_kinds"] (defScope s_law_mark) := ⟨rfl, rfl, rfl, by decide +kernel, rfl, by decide +kernel, by decide +kernel⟩
theorem ok_law_mark (A : Al2 lst txs tps PR K mg base) : Pf lst PR w K mg base 1 (ga K "_law_mark") ["_law_move_here", "_law_kinds"] c_law_mark := by
  obtain ⟨fd, F⟩ := A.fnT (i := 12) (j := 14) (st := s_law_mark) rfl rfl
  refine ⟨fd, def_ok rfl F sc_law_mark fun X E x cdv Ar outer s H hX hT hca bd => ?_, fun_ba F fun _ _ _ _ _ _ us hl => match us, hl with | [_, _], _ => rfl⟩
  subst hX
  have g := bd.toGd
  exact pss_seqS (ps_retS (pe_tupM (pa_consV rfl (PE.frz (w_index1 (w_lk (i := 1) rfl (vis_of rfl)) (PE.frz (w_ix g.toGw (w_lk (i := 0) rfl (vis_of rfl)) (w_look (PE.frz (w_int))))))) (pa_consV rfl (PE.frz (w_ix g.toGw (w_lk (i := 0) rfl (vis_of rfl)) (w_look (PE.frz (w_int))))) (pa_consV rfl (PE.frz (w_ix g.toGw (w_lk (i := 0) rfl (vis_of rfl)) (w_look (PE.frz (w_int))))) (pa_consV rfl (PE.frz (w_index1 (w_lk (i := 1) rfl (vis_of rfl)) (PE.frz (w_ix g.toGw (w_lk (i := 0) rfl (vis_of rfl)) (w_look (PE.frz (w_int))))))) (pa_nilV)))))))
    (pss_nilS)
def l1_law_lines : M Fw :=
  seqM (asgZ 7 (bin2 ixD (lkN 1) (lookM (frzM (callM c_law_draw (argsV [frzM (rdN 0), frzM (bltM lenF (argsL [lkN 1]))]))))))
  (seqM (asgZ 8 (bin2 (binD .Sub) (lookM (frzM (callM c_law_draw (argsV [frzM (rdN 0), frzM (bin2 (binD .Add) (lookM (frzM (bin2 (binD .Mult) (lookM (frzM (cI 2))) (lkN 2)))) (lookM (frzM (cI 1))))])))) (lkN 2)))
  (seqM (asgZ 9 (bin2 (binD .Sub) (lookM (frzM (callM c_law_draw (argsV [frzM (rdN 0), frzM (bin2 (binD .Add) (lookM (frzM (bin2 (binD .Mult) (lookM (frzM (cI 2))) (lkN 2)))) (lookM (frzM (cI 1))))])))) (lkN 2)))
  (seqM (asgZ 6 (tupM (argsV [frzM (rdN 7), frzM (rdN 8), frzM (rdN 9), frzM (bin2 ixD (lkN 1) (lookM (frzM (callM c_law_draw (argsV [frzM (rdN 0), frzM (bltM lenF (argsL [lkN 1]))])))))])))
  (seqM (ifS (cmpT .NotIn (lkN 6) (lkN 3)) (seqM (exprS (mutM "list" (fun y ds => if ds.length = 1 then appF y ds else none) (lkN 3) (argsV [frzM (rdN 6)])))
  (M.ret .nx)) (M.ret .nx))
  (M.ret .nx)))))
def l2_law_lines : M Fw :=
  seqM (asgZ 10 (lstM (argsV [frzM (bin2 ixD (lkN 6) (lookM (frzM (cI 0)))), frzM (callM c_law_sign (argsV [frzM (bin2 ixD (lkN 6) (lookM (frzM (cI 1))))])), frzM (callM c_law_sign (argsV [frzM (bin2 ixD (lkN 6) (lookM (frzM (cI 2))))])), frzM (bin2 ixD (lkN 6) (lookM (frzM (cI 3))))])))
  (seqM (exprS (mutM "list" (fun y ds => if ds.length = 1 then appF y ds else none) (lkN 5) (argsV [frzM (bmM "str" jnF (lookM (frzM (cS " "))) (argsV [frzM (rdN 10)]))])))
  (M.ret .nx))
def m_law_lines : M Fw :=
  seqM (asgZ 1 (bin2 ixD (lookM (frzM (lstM (argsV [frzM (lstM (argsV [frzM (cS "rest")])), frzM (lstM (argsV [frzM (cS "go"), frzM (cS "stay")])), frzM (lstM (argsV [frzM (cS "b"), frzM (cS "abcdefgh"), frzM (cS "a")])), frzM (lstM (argsV [frzM (cS "x"), frzM (cS "xy")]))])))) (lookM (frzM (callM c_law_draw (argsV [frzM (rdN 0), frzM (cI 4)]))))))
  (seqM (asgZ 2 (bin2 ixD (lookM (frzM (lstM (argsV [frzM (cI 1), frzM (cI 6)])))) (lookM (frzM (callM c_law_draw (argsV [frzM (rdN 0), frzM (cI 2)]))))))
  (seqM (asgN 3 (lstM (argsV [])))
  (seqM (forS (iterA rngF1 (argsV [frzM (callM c_law_draw (argsV [frzM (rdN 0), frzM (cI 10)]))])) (tgN 4) (l1_law_lines))
  (seqM (asgN 3 (srtM [1] 2 (frzM (rdN 3)) (frzM (callM c_law_mark (argsV [frzM (rdN 0), frzM (rdN 1)])))))
  (seqM (asgN 5 (lstM (argsV [frzM (bin2 (binD .Add) (lookM (frzM (cS "modes "))) (lookM (frzM (bmM "str" jnF (lookM (frzM (cS " "))) (argsV [frzM (rdN 1)])))))])))
  (seqM (forS (iterV (frzM (rdN 3))) (tgN 6) (l2_law_lines))
  (seqM (retS (rdN 5))
  (M.ret .nx))))))))
def c_law_lines : CF := bodyC 1 ["_law_source_here", "_law_kinds", "_law_span", "_law_moves", "_law_k", "_law_lines_here", "_law_move_here", "_law_first", "_law_rows", "_law_columns", "_law_parts"] m_law_lines
theorem okc_law_lines : okC c_law_lines := bodyC_ok _ _ _
theorem sc_law_lines : FnScope ["_law_source_here", "_law_kinds", "_law_span", "_law_moves", "_law_k", "_law_lines_here", "_law_move_here", "_law_first", "_law_rows", "_law_columns", "_law_parts"] ["_law_source_here"] (defScope s_law_lines) := ⟨rfl, rfl, rfl, by decide +kernel, rfl, by decide +kernel, by decide +kernel⟩
theorem ok_law_lines (A : Al2 lst txs tps PR K mg base) : Pf lst PR w K mg base 5 (ga K "_law_lines") ["_law_source_here"] c_law_lines := by
  obtain ⟨fd, F⟩ := A.fnT (i := 13) (j := 15) (st := s_law_lines) rfl rfl
  refine ⟨fd, def_okL rfl F sc_law_lines fun X E x cdv Ar outer s H hcd hX hT hca bd => ?_, fun_ba F fun _ _ _ _ _ _ us hl => match us, hl with | [_], _ => rfl⟩
  subst hX
  have g := bd.toGd
  exact pss_seqS (PS.asgZ (s_set g (i := 1) rfl (loc_of rfl) (w_ix g.toGw (w_look (PE.frz (pe_lstM (pa_consV rfl (PE.frz (pe_lstM (pa_consV rfl (PE.frz (w_str)) (pa_nilV)))) (pa_consV rfl (PE.frz (pe_lstM (pa_consV rfl (PE.frz (w_str)) (pa_consV rfl (PE.frz (w_str)) (pa_nilV))))) (pa_consV rfl (PE.frz (pe_lstM (pa_consV rfl (PE.frz (w_str)) (pa_consV rfl (PE.frz (w_str)) (pa_consV rfl (PE.frz (w_str)) (pa_nilV)))))) (pa_consV rfl (PE.frz (pe_lstM (pa_consV rfl (PE.frz (w_str)) (pa_consV rfl (PE.frz (w_str)) (pa_nilV))))) (pa_nilV)))))))) (w_look (PE.frz (u_call A (i := 10) rfl hT hca okc_law_draw (ok_law_draw A) (bd.room.mono (by decide)) rfl g.tk rfl rfl (pa_consV rfl (PE.frz (w_var (i := 0) rfl (vis_of rfl))) (pa_consV rfl (PE.frz (w_int)) (pa_nilV))))))) rfl (fn_of' rfl)))
    (pss_seqS (PS.asgZ (s_set g (i := 2) rfl (loc_of rfl) (w_ix g.toGw (w_look (PE.frz (pe_lstM (pa_consV rfl (PE.frz (w_int)) (pa_consV rfl (PE.frz (w_int)) (pa_nilV)))))) (w_look (PE.frz (u_call A (i := 10) rfl hT hca okc_law_draw (ok_law_draw A) (bd.room.mono (by decide)) rfl g.tk rfl rfl (pa_consV rfl (PE.frz (w_var (i := 0) rfl (vis_of rfl))) (pa_consV rfl (PE.frz (w_int)) (pa_nilV))))))) rfl (fn_of' rfl)))
    (pss_seqS (s_set g (i := 3) rfl (loc_of rfl) (pe_lstM (pa_nilV)) rfl (fn_of' rfl))
    (pss_seqS (s_for g bd.own (pi_rng1 rfl (A.a.free (i := 10) rfl) rfl (pa_consV rfl (PE.frz (u_call A (i := 10) rfl hT hca okc_law_draw (ok_law_draw A) (bd.room.mono (by decide)) rfl g.tk rfl rfl (pa_consV rfl (PE.frz (w_var (i := 0) rfl (vis_of rfl))) (pa_consV rfl (PE.frz (w_int)) (pa_nilV))))) (pa_nilV))) (g_name g (i := 4) rfl (loc_of rfl) (fn_of' rfl)) (pss_seqS (PS.asgZ (s_set g (i := 7) rfl (loc_of rfl) (w_ix g.toGw (w_lk (i := 1) rfl (vis_of rfl)) (w_look (PE.frz (u_call A (i := 10) rfl hT hca okc_law_draw (ok_law_draw A) (bd.room.mono (by decide)) rfl g.tk rfl rfl (pa_consV rfl (PE.frz (w_var (i := 0) rfl (vis_of rfl))) (pa_consV rfl (PE.frz (pe_blt g.calm rfl rfl (A.a.free (i := 1) rfl) rfl (pa_consL rfl (w_lk (i := 1) rfl (vis_of rfl)) (pa_nilL)))) (pa_nilV))))))) rfl (fn_of' rfl)))
    (pss_seqS (PS.asgZ (s_set g (i := 8) rfl (loc_of rfl) (w_bin (w_look (PE.frz (u_call A (i := 10) rfl hT hca okc_law_draw (ok_law_draw A) (bd.room.mono (by decide)) rfl g.tk rfl rfl (pa_consV rfl (PE.frz (w_var (i := 0) rfl (vis_of rfl))) (pa_consV rfl (PE.frz (w_bin (w_look (PE.frz (w_bin (w_look (PE.frz (w_int))) (w_lk (i := 2) rfl (vis_of rfl))))) (w_look (PE.frz (w_int))))) (pa_nilV)))))) (w_lk (i := 2) rfl (vis_of rfl))) rfl (fn_of' rfl)))
    (pss_seqS (PS.asgZ (s_set g (i := 9) rfl (loc_of rfl) (w_bin (w_look (PE.frz (u_call A (i := 10) rfl hT hca okc_law_draw (ok_law_draw A) (bd.room.mono (by decide)) rfl g.tk rfl rfl (pa_consV rfl (PE.frz (w_var (i := 0) rfl (vis_of rfl))) (pa_consV rfl (PE.frz (w_bin (w_look (PE.frz (w_bin (w_look (PE.frz (w_int))) (w_lk (i := 2) rfl (vis_of rfl))))) (w_look (PE.frz (w_int))))) (pa_nilV)))))) (w_lk (i := 2) rfl (vis_of rfl))) rfl (fn_of' rfl)))
    (pss_seqS (PS.asgZ (s_set g (i := 6) rfl (loc_of rfl) (pe_tupM (pa_consV rfl (PE.frz (w_var (i := 7) rfl (vis_of rfl))) (pa_consV rfl (PE.frz (w_var (i := 8) rfl (vis_of rfl))) (pa_consV rfl (PE.frz (w_var (i := 9) rfl (vis_of rfl))) (pa_consV rfl (PE.frz (w_ix g.toGw (w_lk (i := 1) rfl (vis_of rfl)) (w_look (PE.frz (u_call A (i := 10) rfl hT hca okc_law_draw (ok_law_draw A) (bd.room.mono (by decide)) rfl g.tk rfl rfl (pa_consV rfl (PE.frz (w_var (i := 0) rfl (vis_of rfl))) (pa_consV rfl (PE.frz (pe_blt g.calm rfl rfl (A.a.free (i := 1) rfl) rfl (pa_consL rfl (w_lk (i := 1) rfl (vis_of rfl)) (pa_nilL)))) (pa_nilV)))))))) (pa_nilV)))))) rfl (fn_of' rfl)))
    (pss_seqS (ps_ifS (wt_cmp g.toGw (w_lk (i := 6) rfl (vis_of rfl)) (w_lk (i := 3) rfl (vis_of rfl))) (pss_seqS (ps_exprS (w_append1 (w_lk (i := 3) rfl (vis_of rfl)) (PE.frz (w_var (i := 6) rfl (vis_of rfl)))) rfl)
    (pss_nilS)) (pss_nilS))
    (pss_nilS)))))))
    (pss_seqS (s_set g (i := 3) rfl (loc_of rfl) (u_srt A (i := 1) rfl (NL := ["_law_move_here", "_law_kinds"]) (fr := ["_law_kinds"]) (pn := "_law_move_here") (js := [1]) (k := 1) hT rfl (A.a.free (i := 6) rfl) (PE.frz (w_var (i := 3) rfl (vis_of rfl))) rfl hcd rfl rfl (NdefX.nscope_by (by decide +kernel)) rfl (by decide +kernel) rfl (bd.room.mono (by decide)) (fun _ _ _ _ _ => rfl) (fun fL cnL clL AL oL sL HL EL xL gxL hrL => PE.frz (u_call A (i := 12) rfl (gxL.2.trans hT) (gxL.1.trans hca) okc_law_mark (ok_law_mark A) (hrL.mono (by decide)) rfl (gd_lam (by decide) hrL).tk rfl rfl (pa_consV rfl (PE.frz (w_var (i := 0) rfl (vis_of rfl))) (pa_consV rfl (PE.frz (w_var (i := 1) rfl (vis_of rfl))) (pa_nilV)))))) rfl (fn_of' rfl))
    (pss_seqS (s_set g (i := 5) rfl (loc_of rfl) (pe_lstM (pa_consV rfl (PE.frz (w_bin (w_look (PE.frz (w_str))) (w_look (PE.frz (w_join1 (w_look (PE.frz (w_str))) (PE.frz (w_var (i := 1) rfl (vis_of rfl)))))))) (pa_nilV))) rfl (fn_of' rfl))
    (pss_seqS (s_for g bd.own (pi_val (PE.frz (w_var (i := 3) rfl (vis_of rfl)))) (g_name g (i := 6) rfl (loc_of rfl) (fn_of' rfl)) (pss_seqS (PS.asgZ (s_set g (i := 10) rfl (loc_of rfl) (pe_lstM (pa_consV rfl (PE.frz (w_ix g.toGw (w_lk (i := 6) rfl (vis_of rfl)) (w_look (PE.frz (w_int))))) (pa_consV rfl (PE.frz (u_call A (i := 11) rfl hT hca okc_law_sign (ok_law_sign A) (bd.room.mono (by decide)) rfl g.tk rfl rfl (pa_consV rfl (PE.frz (w_ix g.toGw (w_lk (i := 6) rfl (vis_of rfl)) (w_look (PE.frz (w_int))))) (pa_nilV)))) (pa_consV rfl (PE.frz (u_call A (i := 11) rfl hT hca okc_law_sign (ok_law_sign A) (bd.room.mono (by decide)) rfl g.tk rfl rfl (pa_consV rfl (PE.frz (w_ix g.toGw (w_lk (i := 6) rfl (vis_of rfl)) (w_look (PE.frz (w_int))))) (pa_nilV)))) (pa_consV rfl (PE.frz (w_ix g.toGw (w_lk (i := 6) rfl (vis_of rfl)) (w_look (PE.frz (w_int))))) (pa_nilV)))))) rfl (fn_of' rfl)))
    (pss_seqS (ps_exprS (w_append1 (w_lk (i := 5) rfl (vis_of rfl)) (PE.frz (w_join1 (w_look (PE.frz (w_str))) (PE.frz (w_var (i := 10) rfl (vis_of rfl)))))) rfl)
    (pss_nilS))))
    (pss_seqS (ps_retS (w_var (i := 5) rfl (vis_of rfl)))
    (pss_nilS))))))))
def l1_law_is_mode : M Fw :=
  seqM (ifS (cmpT .NotIn (lkN 1) (lookM (frzM (cS "abcdefghijklmnopqrstuvwxyz")))) (seqM (retS (cB false))
  (M.ret .nx)) (M.ret .nx))
  (M.ret .nx)
def m_law_is_mode : M Fw :=
  seqM (ifS (notM (chn (fun i j => decide (i ≤ j)) (fun i j => decide (i ≤ j)) (frzM (cI 1)) (frzM (bltM lenF (argsL [lkN 0]))) (frzM (cI 8)))) (seqM (retS (cB false))
  (M.ret .nx)) (M.ret .nx))
  (seqM (forS (iterV (frzM (rdN 0))) (tgN 1) (l1_law_is_mode))
  (seqM (retS (cB true))
  (M.ret .nx)))
def c_law_is_mode : CF := bodyC 1 ["_law_word", "_law_letter"] m_law_is_mode
theorem okc_law_is_mode : okC c_law_is_mode := bodyC_ok _ _ _
theorem sc_law_is_mode : FnScope ["_law_word", "_law_letter"] ["_law_word"] (defScope s_law_is_mode) := ⟨rfl, rfl, rfl, by decide +kernel, rfl, by decide +kernel, by decide +kernel⟩
theorem ok_law_is_mode (A : Al2 lst txs tps PR K mg base) : Pf lst PR w K mg base 1 (ga K "_law_is_mode") ["_law_word"] c_law_is_mode := by
  obtain ⟨fd, F⟩ := A.fnT (i := 14) (j := 16) (st := s_law_is_mode) rfl rfl
  refine ⟨fd, def_ok rfl F sc_law_is_mode fun X E x cdv Ar outer s H hX hT hca bd => ?_, fun_ba F fun _ _ _ _ _ _ us hl => match us, hl with | [_], _ => rfl⟩
  subst hX
  have g := bd.toGd
  exact pss_seqS (ps_ifS (pt_notM (pt_chn rfl rfl rfl (PE.frz (w_int)) (PE.frz (pe_blt g.calm rfl rfl (A.a.free (i := 1) rfl) rfl (pa_consL rfl (w_lk (i := 0) rfl (vis_of rfl)) (pa_nilL)))) (PE.frz (w_int)))) (pss_seqS (ps_retS (w_bl))
    (pss_nilS)) (pss_nilS))
    (pss_seqS (s_for g bd.own (pi_val (PE.frz (w_var (i := 0) rfl (vis_of rfl)))) (g_name g (i := 1) rfl (loc_of rfl) (fn_of' rfl)) (pss_seqS (ps_ifS (wt_cmp g.toGw (w_lk (i := 1) rfl (vis_of rfl)) (w_look (PE.frz (w_str)))) (pss_seqS (ps_retS (w_bl))
    (pss_nilS)) (pss_nilS))
    (pss_nilS)))
    (pss_seqS (ps_retS (w_bl))
    (pss_nilS)))
def l1_law_modes : M Fw :=
  seqM (ifS (orM (notM (truM (lookM (frzM (callM c_law_is_mode (argsV [frzM (bin2 ixD (lkN 1) (lkN 2))])))))) (cmpT .In (lookM (frzM (bin2 ixD (lkN 1) (lkN 2)))) (lookM (frzM (slM (lkN 1) (prtM (frzM (cI 1))) (prtM (frzM (rdN 2)))))))) (seqM (retS (lstM (argsV [])))
  (M.ret .nx)) (M.ret .nx))
  (M.ret .nx)
def m_law_modes : M Fw :=
  seqM (asgZ 1 (bmM "str" splF (lkN 0) (argsV [frzM (cS " ")])))
  (seqM (ifS (orM (cmpT .NotEq (lookM (frzM (bin2 ixD (lkN 1) (lookM (frzM (cI 0)))))) (lookM (frzM (cS "modes")))) (notM (chn (fun i j => decide (i ≤ j)) (fun i j => decide (i ≤ j)) (frzM (cI 2)) (frzM (bltM lenF (argsL [lkN 1]))) (frzM (cI 4))))) (seqM (retS (lstM (argsV [])))
  (M.ret .nx)) (M.ret .nx))
  (seqM (forS (iterA rngF2 (argsV [frzM (cI 1), frzM (bltM lenF (argsL [lkN 1]))])) (tgN 2) (l1_law_modes))
  (seqM (retS (slM (lkN 1) (prtM (frzM (cI 1))) (M.ret none)))
  (M.ret .nx))))
def c_law_modes : CF := bodyC 1 ["_law_line", "_law_words", "_law_k"] m_law_modes
theorem okc_law_modes : okC c_law_modes := bodyC_ok _ _ _
theorem sc_law_modes : FnScope ["_law_line", "_law_words", "_law_k"] ["_law_line"] (defScope s_law_modes) := ⟨rfl, rfl, rfl, by decide +kernel, rfl, by decide +kernel, by decide +kernel⟩
theorem ok_law_modes (A : Al2 lst txs tps PR K mg base) : Pf lst PR w K mg base 2 (ga K "_law_modes") ["_law_line"] c_law_modes := by
  obtain ⟨fd, F⟩ := A.fnT (i := 15) (j := 17) (st := s_law_modes) rfl rfl
  refine ⟨fd, def_ok rfl F sc_law_modes fun X E x cdv Ar outer s H hX hT hca bd => ?_, fun_ba F fun _ _ _ _ _ _ us hl => match us, hl with | [_], _ => rfl⟩
  subst hX
  have g := bd.toGd
  exact pss_seqS (PS.asgZ (s_set g (i := 1) rfl (loc_of rfl) (w_split1 (w_lk (i := 0) rfl (vis_of rfl)) (PE.frz (w_str))) rfl (fn_of' rfl)))
    (pss_seqS (ps_ifS (PW.pt (pw_orM (wt_cmp g.toGw (w_look (PE.frz (w_ix g.toGw (w_lk (i := 1) rfl (vis_of rfl)) (w_look (PE.frz (w_int)))))) (w_look (PE.frz (w_str)))) (wt_or1 (pt_notM (pt_chn rfl rfl rfl (PE.frz (w_int)) (PE.frz (pe_blt g.calm rfl rfl (A.a.free (i := 1) rfl) rfl (pa_consL rfl (w_lk (i := 1) rfl (vis_of rfl)) (pa_nilL)))) (PE.frz (w_int))))))) (pss_seqS (ps_retS (pe_lstM (pa_nilV)))
    (pss_nilS)) (pss_nilS))
    (pss_seqS (s_for g bd.own (pi_rng2 rfl (A.a.free (i := 10) rfl) rfl rfl (pa_consV rfl (PE.frz (w_int)) (pa_consV rfl (PE.frz (pe_blt g.calm rfl rfl (A.a.free (i := 1) rfl) rfl (pa_consL rfl (w_lk (i := 1) rfl (vis_of rfl)) (pa_nilL)))) (pa_nilV)))) (g_name g (i := 2) rfl (loc_of rfl) (fn_of' rfl)) (pss_seqS (ps_ifS (PW.pt (pw_orM (pt_notM (pt_tru (w_look (PE.frz (u_call A (i := 14) rfl hT hca okc_law_is_mode (ok_law_is_mode A) (bd.room.mono (by decide)) rfl g.tk rfl rfl (pa_consV rfl (PE.frz (w_ix g.toGw (w_lk (i := 1) rfl (vis_of rfl)) (w_lk (i := 2) rfl (vis_of rfl)))) (pa_nilV))))) (fun _ => rfl))) (wt_or1 (wt_cmp g.toGw (w_look (PE.frz (w_ix g.toGw (w_lk (i := 1) rfl (vis_of rfl)) (w_lk (i := 2) rfl (vis_of rfl))))) (w_look (PE.frz (pe_slM (w_lk (i := 1) rfl (vis_of rfl)) (po_someM (PE.frz (w_int))) (po_someM (PE.frz (w_var (i := 2) rfl (vis_of rfl))))))))))) (pss_seqS (ps_retS (pe_lstM (pa_nilV)))
    (pss_nilS)) (pss_nilS))
    (pss_nilS)))
    (pss_seqS (ps_retS (pe_slM (w_lk (i := 1) rfl (vis_of rfl)) (po_someM (PE.frz (w_int))) (po_noneM)))
    (pss_nilS))))
def l1_law_value : M Fw :=
  seqM (ifS (cmpT .Eq (lookM (frzM (callM c_law_sign (argsV [frzM (rdN 1)])))) (lkN 0)) (seqM (retS (rdN 1))
  (M.ret .nx)) (M.ret .nx))
  (M.ret .nx)
def m_law_value : M Fw :=
  seqM (forS (iterA rngF2 (argsV [frzM (un1 negD (lookM (frzM (cI 6)))), frzM (cI 7)])) (tgN 1) (l1_law_value))
  (seqM (retS (cN))
  (M.ret .nx))
def c_law_value : CF := bodyC 1 ["_law_word", "_law_value_here"] m_law_value
theorem okc_law_value : okC c_law_value := bodyC_ok _ _ _
theorem sc_law_value : FnScope ["_law_word", "_law_value_here"] ["_law_word"] (defScope s_law_value) := ⟨rfl, rfl, rfl, by decide +kernel, rfl, by decide +kernel, by decide +kernel⟩
theorem ok_law_value (A : Al2 lst txs tps PR K mg base) : Pf lst PR w K mg base 2 (ga K "_law_value") ["_law_word"] c_law_value := by
  obtain ⟨fd, F⟩ := A.fnT (i := 16) (j := 18) (st := s_law_value) rfl rfl
  refine ⟨fd, def_ok rfl F sc_law_value fun X E x cdv Ar outer s H hX hT hca bd => ?_, fun_ba F fun _ _ _ _ _ _ us hl => match us, hl with | [_], _ => rfl⟩
  subst hX
  have g := bd.toGd
  exact pss_seqS (s_for g bd.own (pi_rng2 rfl (A.a.free (i := 10) rfl) rfl rfl (pa_consV rfl (PE.frz (pe_neg1 (w_look (PE.frz (w_int))))) (pa_consV rfl (PE.frz (w_int)) (pa_nilV)))) (g_name g (i := 1) rfl (loc_of rfl) (fn_of' rfl)) (pss_seqS (ps_ifS (wt_cmp g.toGw (w_look (PE.frz (u_call A (i := 11) rfl hT hca okc_law_sign (ok_law_sign A) (bd.room.mono (by decide)) rfl g.tk rfl rfl (pa_consV rfl (PE.frz (w_var (i := 1) rfl (vis_of rfl))) (pa_nilV))))) (w_lk (i := 0) rfl (vis_of rfl))) (pss_seqS (ps_retS (w_var (i := 1) rfl (vis_of rfl)))
    (pss_nilS)) (pss_nilS))
    (pss_nilS)))
    (pss_seqS (ps_retS (w_non))
    (pss_nilS))
def m_law_move : M Fw :=
  seqM (asgZ 2 (bmM "str" splF (lkN 0) (argsV [frzM (cS " ")])))
  (seqM (ifS (orM (cmpT .NotEq (lookM (frzM (bltM lenF (argsL [lkN 2])))) (lookM (frzM (cI 4)))) (orM (cmpT .NotIn (lookM (frzM (bin2 ixD (lkN 2) (lookM (frzM (cI 0)))))) (lkN 1)) (cmpT .NotIn (lookM (frzM (bin2 ixD (lkN 2) (lookM (frzM (cI 3)))))) (lkN 1)))) (seqM (retS (cN))
  (M.ret .nx)) (M.ret .nx))
  (seqM (asgZ 3 (callM c_law_value (argsV [frzM (bin2 ixD (lkN 2) (lookM (frzM (cI 1))))])))
  (seqM (asgZ 4 (callM c_law_value (argsV [frzM (bin2 ixD (lkN 2) (lookM (frzM (cI 2))))])))
  (seqM (ifS (orM (isN1 false (lkN 3)) (isN1 false (lkN 4))) (seqM (retS (cN))
  (M.ret .nx)) (M.ret .nx))
  (seqM (retS (tupM (argsV [frzM (bin2 ixD (lkN 2) (lookM (frzM (cI 0)))), frzM (rdN 3), frzM (rdN 4), frzM (bin2 ixD (lkN 2) (lookM (frzM (cI 3))))])))
  (M.ret .nx))))))
def c_law_move : CF := bodyC 2 ["_law_line", "_law_kinds", "_law_words", "_law_rows", "_law_columns"] m_law_move
theorem okc_law_move : okC c_law_move := bodyC_ok _ _ _
theorem sc_law_move : FnScope ["_law_line", "_law_kinds", "_law_words", "_law_rows", "_law_columns"] ["_law_line", "_law_kinds"] (defScope s_law_move) := ⟨rfl, rfl, rfl, by decide +kernel, rfl, by decide +kernel, by decide +kernel⟩
theorem ok_law_move (A : Al2 lst txs tps PR K mg base) : Pf lst PR w K mg base 3 (ga K "_law_move") ["_law_line", "_law_kinds"] c_law_move := by
  obtain ⟨fd, F⟩ := A.fnT (i := 17) (j := 19) (st := s_law_move) rfl rfl
  refine ⟨fd, def_ok rfl F sc_law_move fun X E x cdv Ar outer s H hX hT hca bd => ?_, fun_ba F fun _ _ _ _ _ _ us hl => match us, hl with | [_, _], _ => rfl⟩
  subst hX
  have g := bd.toGd
  exact pss_seqS (PS.asgZ (s_set g (i := 2) rfl (loc_of rfl) (w_split1 (w_lk (i := 0) rfl (vis_of rfl)) (PE.frz (w_str))) rfl (fn_of' rfl)))
    (pss_seqS (ps_ifS (PW.pt (pw_orM (wt_cmp g.toGw (w_look (PE.frz (pe_blt g.calm rfl rfl (A.a.free (i := 1) rfl) rfl (pa_consL rfl (w_lk (i := 2) rfl (vis_of rfl)) (pa_nilL))))) (w_look (PE.frz (w_int)))) (pw_orM (wt_cmp g.toGw (w_look (PE.frz (w_ix g.toGw (w_lk (i := 2) rfl (vis_of rfl)) (w_look (PE.frz (w_int)))))) (w_lk (i := 1) rfl (vis_of rfl))) (wt_or1 (wt_cmp g.toGw (w_look (PE.frz (w_ix g.toGw (w_lk (i := 2) rfl (vis_of rfl)) (w_look (PE.frz (w_int)))))) (w_lk (i := 1) rfl (vis_of rfl))))))) (pss_seqS (ps_retS (w_non))
    (pss_nilS)) (pss_nilS))
    (pss_seqS (PS.asgZ (s_set g (i := 3) rfl (loc_of rfl) (u_call A (i := 16) rfl hT hca okc_law_value (ok_law_value A) (bd.room.mono (by decide)) rfl g.tk rfl rfl (pa_consV rfl (PE.frz (w_ix g.toGw (w_lk (i := 2) rfl (vis_of rfl)) (w_look (PE.frz (w_int))))) (pa_nilV))) rfl (fn_of' rfl)))
    (pss_seqS (PS.asgZ (s_set g (i := 4) rfl (loc_of rfl) (u_call A (i := 16) rfl hT hca okc_law_value (ok_law_value A) (bd.room.mono (by decide)) rfl g.tk rfl rfl (pa_consV rfl (PE.frz (w_ix g.toGw (w_lk (i := 2) rfl (vis_of rfl)) (w_look (PE.frz (w_int))))) (pa_nilV))) rfl (fn_of' rfl)))
    (pss_seqS (ps_ifS (PW.pt (pw_orM (pt_isN1 (w_lk (i := 3) rfl (vis_of rfl))) (wt_or1 (pt_isN1 (w_lk (i := 4) rfl (vis_of rfl)))))) (pss_seqS (ps_retS (w_non))
    (pss_nilS)) (pss_nilS))
    (pss_seqS (ps_retS (pe_tupM (pa_consV rfl (PE.frz (w_ix g.toGw (w_lk (i := 2) rfl (vis_of rfl)) (w_look (PE.frz (w_int))))) (pa_consV rfl (PE.frz (w_var (i := 3) rfl (vis_of rfl))) (pa_consV rfl (PE.frz (w_var (i := 4) rfl (vis_of rfl))) (pa_consV rfl (PE.frz (w_ix g.toGw (w_lk (i := 2) rfl (vis_of rfl)) (w_look (PE.frz (w_int))))) (pa_nilV)))))))
    (pss_nilS))))))
def l1_law_due : M Fw :=
  seqM (asgZ 4 (callM c_law_move (argsV [frzM (bin2 ixD (lkN 0) (lkN 3)), frzM (rdN 1)])))
  (seqM (ifS (orM (isN1 false (lkN 4)) (cmpT .Gt (lkN 3) (lookM (frzM (cI 8))))) (seqM (retS (lstM (argsV [frzM (bin2 (binD .Add) (lkN 3) (lookM (frzM (cI 1))))])))
  (M.ret .nx)) (M.ret .nx))
  (seqM (ifS (andM (truM (lkN 2)) ((bin2 tleD (lookM (frzM (callM c_law_mark (argsV [frzM (rdN 4), frzM (rdN 1)])))) (lookM (frzM (callM c_law_mark (argsV [frzM (bin2 ixD (lkN 2) (lookM (frzM (un1 negD (lookM (frzM (cI 1))))))), frzM (rdN 1)]))))).bind bool1)) (seqM (retS (lstM (argsV [frzM (bin2 (binD .Add) (lkN 3) (lookM (frzM (cI 1))))])))
  (M.ret .nx)) (M.ret .nx))
  (seqM (exprS (mutM "list" (fun y ds => if ds.length = 1 then appF y ds else none) (lkN 2) (argsV [frzM (rdN 4)])))
  (M.ret .nx))))
def m_law_due : M Fw :=
  seqM (asgZ 1 (callM c_law_modes (argsV [frzM (bin2 ixD (lkN 0) (lookM (frzM (cI 0))))])))
  (seqM (ifS (cmpT .Eq (lkN 1) (lookM (frzM (lstM (argsV []))))) (seqM (retS (lstM (argsV [frzM (cI 1)])))
  (M.ret .nx)) (M.ret .nx))
  (seqM (asgN 2 (lstM (argsV [])))
  (seqM (forS (iterA rngF2 (argsV [frzM (cI 1), frzM (bltM lenF (argsL [lkN 0]))])) (tgN 3) (l1_law_due))
  (seqM (retS (lstM (argsV [frzM (rdN 1), frzM (rdN 2)])))
  (M.ret .nx)))))
def c_law_due : CF := bodyC 1 ["_law_lines_here", "_law_kinds", "_law_moves", "_law_k", "_law_move_here"] m_law_due
theorem okc_law_due : okC c_law_due := bodyC_ok _ _ _
theorem sc_law_due : FnScope ["_law_lines_here", "_law_kinds", "_law_moves", "_law_k", "_law_move_here"] ["_law_lines_here"] (defScope s_law_due) := ⟨rfl, rfl, rfl, by decide +kernel, rfl, by decide +kernel, by decide +kernel⟩
theorem ok_law_due (A : Al2 lst txs tps PR K mg base) : Pf lst PR w K mg base 4 (ga K "_law_due") ["_law_lines_here"] c_law_due := by
  obtain ⟨fd, F⟩ := A.fnT (i := 18) (j := 20) (st := s_law_due) rfl rfl
  refine ⟨fd, def_ok rfl F sc_law_due fun X E x cdv Ar outer s H hX hT hca bd => ?_, fun_ba F fun _ _ _ _ _ _ us hl => match us, hl with | [_], _ => rfl⟩
  subst hX
  have g := bd.toGd
  exact pss_seqS (PS.asgZ (s_set g (i := 1) rfl (loc_of rfl) (u_call A (i := 15) rfl hT hca okc_law_modes (ok_law_modes A) (bd.room.mono (by decide)) rfl g.tk rfl rfl (pa_consV rfl (PE.frz (w_ix g.toGw (w_lk (i := 0) rfl (vis_of rfl)) (w_look (PE.frz (w_int))))) (pa_nilV))) rfl (fn_of' rfl)))
    (pss_seqS (ps_ifS (wt_cmp g.toGw (w_lk (i := 1) rfl (vis_of rfl)) (w_look (PE.frz (pe_lstM (pa_nilV))))) (pss_seqS (ps_retS (pe_lstM (pa_consV rfl (PE.frz (w_int)) (pa_nilV))))
    (pss_nilS)) (pss_nilS))
    (pss_seqS (s_set g (i := 2) rfl (loc_of rfl) (pe_lstM (pa_nilV)) rfl (fn_of' rfl))
    (pss_seqS (s_for g bd.own (pi_rng2 rfl (A.a.free (i := 10) rfl) rfl rfl (pa_consV rfl (PE.frz (w_int)) (pa_consV rfl (PE.frz (pe_blt g.calm rfl rfl (A.a.free (i := 1) rfl) rfl (pa_consL rfl (w_lk (i := 0) rfl (vis_of rfl)) (pa_nilL)))) (pa_nilV)))) (g_name g (i := 3) rfl (loc_of rfl) (fn_of' rfl)) (pss_seqS (PS.asgZ (s_set g (i := 4) rfl (loc_of rfl) (u_call A (i := 17) rfl hT hca okc_law_move (ok_law_move A) (bd.room.mono (by decide)) rfl g.tk rfl rfl (pa_consV rfl (PE.frz (w_ix g.toGw (w_lk (i := 0) rfl (vis_of rfl)) (w_lk (i := 3) rfl (vis_of rfl)))) (pa_consV rfl (PE.frz (w_var (i := 1) rfl (vis_of rfl))) (pa_nilV)))) rfl (fn_of' rfl)))
    (pss_seqS (ps_ifS (PW.pt (pw_orM (pt_isN1 (w_lk (i := 4) rfl (vis_of rfl))) (wt_or1 (wt_cmp g.toGw (w_lk (i := 3) rfl (vis_of rfl)) (w_look (PE.frz (w_int))))))) (pss_seqS (ps_retS (pe_lstM (pa_consV rfl (PE.frz (w_bin (w_lk (i := 3) rfl (vis_of rfl)) (w_look (PE.frz (w_int))))) (pa_nilV))))
    (pss_nilS)) (pss_nilS))
    (pss_seqS (ps_ifS (PW.pt (pw_andM (pt_tru (w_lk (i := 2) rfl (vis_of rfl)) (fun _ => rfl)) (wt_and1 (wt_tle g.toGw (w_look (PE.frz (u_call A (i := 12) rfl hT hca okc_law_mark (ok_law_mark A) (bd.room.mono (by decide)) rfl g.tk rfl rfl (pa_consV rfl (PE.frz (w_var (i := 4) rfl (vis_of rfl))) (pa_consV rfl (PE.frz (w_var (i := 1) rfl (vis_of rfl))) (pa_nilV)))))) (w_look (PE.frz (u_call A (i := 12) rfl hT hca okc_law_mark (ok_law_mark A) (bd.room.mono (by decide)) rfl g.tk rfl rfl (pa_consV rfl (PE.frz (w_ix g.toGw (w_lk (i := 2) rfl (vis_of rfl)) (w_look (PE.frz (pe_neg1 (w_look (PE.frz (w_int)))))))) (pa_consV rfl (PE.frz (w_var (i := 1) rfl (vis_of rfl))) (pa_nilV)))))))))) (pss_seqS (ps_retS (pe_lstM (pa_consV rfl (PE.frz (w_bin (w_lk (i := 3) rfl (vis_of rfl)) (w_look (PE.frz (w_int))))) (pa_nilV))))
    (pss_nilS)) (pss_nilS))
    (pss_seqS (ps_exprS (w_append1 (w_lk (i := 2) rfl (vis_of rfl)) (PE.frz (w_var (i := 4) rfl (vis_of rfl)))) rfl)
    (pss_nilS))))))
    (pss_seqS (ps_retS (pe_lstM (pa_consV rfl (PE.frz (w_var (i := 1) rfl (vis_of rfl))) (pa_consV rfl (PE.frz (w_var (i := 2) rfl (vis_of rfl))) (pa_nilV)))))
    (pss_nilS)))))
def m_law_changed : M Fw :=
  seqM (asgZ 4 (bin2 ixD (lkN 0) (lkN 1)))
  (seqM (asgZ 5 (bmM "str" splF (lkN 4) (argsV [frzM (cS " ")])))
  (seqM (asgZ 6 (lstM (argsV [frzM (bin2 (binD .Add) (lookM (frzM (cS " "))) (lkN 4)), frzM (bin2 (binD .Add) (lkN 4) (lookM (frzM (cS " ")))), frzM (repM " " "  " (frzM (rdN 4))), frzM (cS "")])))
  (seqM (asgZ 6 (bin2 (binD .Add) (lkN 6) (lookM (frzM (lstM (argsV [frzM (upM (frzM (rdN 4))), frzM (repM "+" "" (frzM (rdN 4)))]))))))
  (seqM (asgZ 6 (bin2 (binD .Add) (lkN 6) (lookM (frzM (lstM (argsV [frzM (repM "+0" "-0" (frzM (rdN 4))), frzM (repM "+" "++" (frzM (rdN 4)))]))))))
  (seqM (asgZ 6 (bin2 (binD .Add) (lkN 6) (lookM (frzM (lstM (argsV [frzM (repM "1" "7" (frzM (rdN 4)))]))))))
  (seqM (asgZ 6 (bin2 (binD .Add) (lkN 6) (lookM (frzM (lstM (argsV [frzM (bin2 (binD .Add) (lkN 4) (lkN 3)), frzM (bin2 (binD .Add) (lkN 3) (lkN 4)), frzM (bmM "str" jnF (lookM (frzM (cS " "))) (argsV [frzM (slM (lkN 5) (M.ret none) (prtM (frzM (un1 negD (lookM (frzM (cI 1)))))))])), frzM (bin2 (binD .Add) (lookM (frzM (bin2 (binD .Add) (lkN 4) (lookM (frzM (cS " ")))))) (lookM (frzM (bin2 ixD (lkN 5) (lookM (frzM (un1 negD (lookM (frzM (cI 1))))))))))]))))))
  (seqM (asgZ 6 (bin2 (binD .Add) (lkN 6) (lookM (frzM (lstM (argsV [frzM (repM "1" "01" (frzM (rdN 4)))]))))))
  (seqM (asgZ 6 (bin2 (binD .Add) (lkN 6) (lookM (frzM (lstM (argsV [frzM (bin2 ixD (lkN 5) (lookM (frzM (cI 0)))), frzM (bmM "str" jnF (lookM (frzM (cS " "))) (argsV [frzM (rvlM (frzM (rdN 5)))])), frzM (repM "-" "+" (frzM (rdN 4)))]))))))
  (seqM (ifS (cmpT .Lt (lkN 2) (lookM (frzM (bltM lenF (argsL [lkN 6]))))) (seqM (retS (bin2 (binD .Add) (lookM (frzM (bin2 (binD .Add) (lookM (frzM (slM (lkN 0) (M.ret none) (prtM (frzM (rdN 1)))))) (lookM (frzM (lstM (argsV [frzM (bin2 ixD (lkN 6) (lkN 2))]))))))) (lookM (frzM (slM (lkN 0) (prtM (frzM (bin2 (binD .Add) (lkN 1) (lookM (frzM (cI 1)))))) (M.ret none))))))
  (M.ret .nx)) (M.ret .nx))
  (seqM (ifS (cmpT .Eq (lkN 2) (lookM (frzM (bltM lenF (argsL [lkN 6]))))) (seqM (retS (bin2 (binD .Add) (lookM (frzM (bin2 (binD .Add) (lookM (frzM (slM (lkN 0) (M.ret none) (prtM (frzM (rdN 1)))))) (lookM (frzM (lstM (argsV [frzM (rdN 4)]))))))) (lookM (frzM (slM (lkN 0) (prtM (frzM (rdN 1))) (M.ret none))))))
  (M.ret .nx)) (M.ret .nx))
  (seqM (ifS (cmpT .Eq (lkN 2) (lookM (frzM (bin2 (binD .Add) (lookM (frzM (bltM lenF (argsL [lkN 6])))) (lookM (frzM (cI 1))))))) (seqM (retS (bin2 (binD .Add) (lkN 0) (lookM (frzM (lstM (argsV [frzM (cS "")]))))))
  (M.ret .nx)) (M.ret .nx))
  (seqM (ifS (andM (cmpT .In (lkN 2) (lookM (frzM (lstM (argsV [frzM (bin2 (binD .Add) (lookM (frzM (bltM lenF (argsL [lkN 6])))) (lookM (frzM (cI 4)))), frzM (bin2 (binD .Add) (lookM (frzM (bltM lenF (argsL [lkN 6])))) (lookM (frzM (cI 5))))]))))) (cmpT .Gt (lookM (frzM (bltM lenF (argsL [lkN 4])))) (lookM (frzM (cI 6))))) (seqM (asgZ 8 (bin2 (binD .Mod) (lookM (frzM (bin2 (binD .Mult) (lookM (frzM (bltM ordF (argsL [lkN 3])))) (lookM (frzM (cI 7)))))) (lookM (frzM (bltM lenF (argsL [lkN 4]))))))
  (seqM (ifS (cmpT .Eq (lkN 1) (lookM (frzM (cI 0)))) (seqM (asgZ 8 (bin2 (binD .Add) (lookM (frzM (cI 6))) (lookM (frzM (bin2 (binD .Mod) (lookM (frzM (bin2 (binD .Mult) (lookM (frzM (bltM ordF (argsL [lkN 3])))) (lookM (frzM (cI 7)))))) (lookM (frzM (bin2 (binD .Sub) (lookM (frzM (bltM lenF (argsL [lkN 4])))) (lookM (frzM (cI 6)))))))))))
  (M.ret .nx)) (M.ret .nx))
  (seqM (asgZ 9 (bin2 (binD .Add) (lookM (frzM (bin2 (binD .Add) (lookM (frzM (slM (lkN 4) (M.ret none) (prtM (frzM (rdN 8)))))) (lookM (frzM (bin2 ixD (lookM (frzM (cS "1A-+~_"))) (lookM (frzM (bin2 (binD .Mod) (lookM (frzM (bltM ordF (argsL [lkN 3])))) (lookM (frzM (cI 6)))))))))))) (lookM (frzM (slM (lkN 4) (prtM (frzM (bin2 (binD .Add) (lkN 8) (lookM (frzM (cI 1)))))) (M.ret none))))))
  (seqM (retS (bin2 (binD .Add) (lookM (frzM (bin2 (binD .Add) (lookM (frzM (slM (lkN 0) (M.ret none) (prtM (frzM (rdN 1)))))) (lookM (frzM (lstM (argsV [frzM (rdN 9)]))))))) (lookM (frzM (slM (lkN 0) (prtM (frzM (bin2 (binD .Add) (lkN 1) (lookM (frzM (cI 1)))))) (M.ret none))))))
  (M.ret .nx))))) (M.ret .nx))
  (seqM (ifS (cmpT .Eq (lkN 2) (lookM (frzM (bin2 (binD .Add) (lookM (frzM (bltM lenF (argsL [lkN 6])))) (lookM (frzM (cI 6))))))) (seqM (asgZ 9 (bmM "str" jnF (lookM (frzM (cS " "))) (argsV [frzM (bin2 (binD .Add) (lookM (frzM (bin2 (binD .Add) (lookM (frzM (slM (lkN 5) (M.ret none) (prtM (frzM (cI 1)))))) (lookM (frzM (lstM (argsV [frzM (bin2 (binD .Add) (lookM (frzM (cS "+"))) (lookM (frzM (bin2 smuD (lookM (frzM (cS "1"))) (lookM (frzM (cI 5000)))))))]))))))) (lookM (frzM (slM (lkN 5) (prtM (frzM (cI 2))) (M.ret none)))))])))
  (seqM (retS (bin2 (binD .Add) (lookM (frzM (bin2 (binD .Add) (lookM (frzM (slM (lkN 0) (M.ret none) (prtM (frzM (rdN 1)))))) (lookM (frzM (lstM (argsV [frzM (rdN 9)]))))))) (lookM (frzM (slM (lkN 0) (prtM (frzM (bin2 (binD .Add) (lkN 1) (lookM (frzM (cI 1)))))) (M.ret none))))))
  (M.ret .nx))) (M.ret .nx))
  (seqM (asgZ 7 (bin2 (binD .Add) (lookM (frzM (slM (lkN 0) (prtM (frzM (bin2 (binD .Add) (lkN 1) (lookM (frzM (cI 1)))))) (prtM (frzM (bin2 (binD .Add) (lkN 1) (lookM (frzM (cI 2))))))))) (lookM (frzM (lstM (argsV [frzM (rdN 4)]))))))
  (seqM (retS (bin2 (binD .Add) (lookM (frzM (bin2 (binD .Add) (lookM (frzM (slM (lkN 0) (M.ret none) (prtM (frzM (rdN 1)))))) (lkN 7)))) (lookM (frzM (slM (lkN 0) (prtM (frzM (bin2 (binD .Add) (lkN 1) (lookM (frzM (cI 2)))))) (M.ret none))))))
  (M.ret .nx))))))))))))))))
def c_law_changed : CF := bodyC 4 ["_law_lines_here", "_law_at", "_law_way", "_law_letter", "_law_line", "_law_words", "_law_plain", "_law_swapped", "_law_spot", "_law_odd"] m_law_changed
theorem okc_law_changed : okC c_law_changed := bodyC_ok _ _ _
theorem sc_law_changed : FnScope ["_law_lines_here", "_law_at", "_law_way", "_law_letter", "_law_line", "_law_words", "_law_plain", "_law_swapped", "_law_spot", "_law_odd"] ["_law_lines_here", "_law_at", "_law_way", "_law_letter"] (defScope s_law_changed) := ⟨rfl, rfl, rfl, by decide +kernel, rfl, by decide +kernel, by decide +kernel⟩
theorem ok_law_changed (A : Al2 lst txs tps PR K mg base) : Pf lst PR w K mg base 1 (ga K "_law_changed") ["_law_lines_here", "_law_at", "_law_way", "_law_letter"] c_law_changed := by
  obtain ⟨fd, F⟩ := A.fnT (i := 19) (j := 21) (st := s_law_changed) rfl rfl
  refine ⟨fd, def_okT1 rfl F sc_law_changed (by decide +kernel) (by decide) fun X E x cdv Ar outer s H hX hT hca bd => ?_, fun_ba F fun _ _ _ _ _ _ us hl => match us, hl with | [_, _, _, _], _ => rfl⟩
  subst hX
  have g := bd.toGd
  exact psT_seqS (PST.of (PS.asgZ (s_set g (i := 4) rfl (loc_of rfl) (w_ix g.toGw (w_lk (i := 0) rfl (vis_of rfl)) (w_lk (i := 1) rfl (vis_of rfl))) rfl (fn_of' rfl))))
    (psT_seqS (PST.of (PS.asgZ (s_set g (i := 5) rfl (loc_of rfl) (w_split1 (w_lk (i := 4) rfl (vis_of rfl)) (PE.frz (w_str))) rfl (fn_of' rfl))))
    (psT_seqS (PST.asgZ (sT_set g.toGw (i := 6) rfl (loc_of rfl) (wT_lst (paT_cons rfl (PET.of' (PE.frz (w_bin (w_look (PE.frz (w_str))) (w_lk (i := 4) rfl (vis_of rfl))))) (paT_cons rfl (PET.of' (PE.frz (w_bin (w_lk (i := 4) rfl (vis_of rfl)) (w_look (PE.frz (w_str)))))) (paT_cons rfl (wT_frz (wT_rep1 (PE.frz (w_var (i := 4) rfl (vis_of rfl))))) (paT_cons rfl (PET.of' (PE.frz (w_str))) (paT_nil)))))) rfl (fn_of' rfl)))
    (psT_seqS (PST.asgZ (sT_set g.toGw (i := 6) rfl (loc_of rfl) (wT_bin (PET.of' (w_lk (i := 6) rfl (vis_of rfl))) (wT_look (wT_frz (wT_lst (paT_cons rfl (PET.of' (PE.frz (w_upper (PE.frz (w_var (i := 4) rfl (vis_of rfl)))))) (paT_cons rfl (wT_frz (wT_rep1 (PE.frz (w_var (i := 4) rfl (vis_of rfl))))) (paT_nil))))))) rfl (fn_of' rfl)))
    (psT_seqS (PST.asgZ (sT_set g.toGw (i := 6) rfl (loc_of rfl) (wT_bin (PET.of' (w_lk (i := 6) rfl (vis_of rfl))) (wT_look (wT_frz (wT_lst (paT_cons rfl (wT_frz (wT_rep1 (PE.frz (w_var (i := 4) rfl (vis_of rfl))))) (paT_cons rfl (wT_frz (wT_rep1 (PE.frz (w_var (i := 4) rfl (vis_of rfl))))) (paT_nil))))))) rfl (fn_of' rfl)))
    (psT_seqS (PST.asgZ (sT_set g.toGw (i := 6) rfl (loc_of rfl) (wT_bin (PET.of' (w_lk (i := 6) rfl (vis_of rfl))) (wT_look (wT_frz (wT_lst (paT_cons rfl (wT_frz (wT_rep1 (PE.frz (w_var (i := 4) rfl (vis_of rfl))))) (paT_nil)))))) rfl (fn_of' rfl)))
    (psT_seqS (PST.of (PS.asgZ (s_set g (i := 6) rfl (loc_of rfl) (w_bin (w_lk (i := 6) rfl (vis_of rfl)) (w_look (PE.frz (pe_lstM (pa_consV rfl (PE.frz (w_bin (w_lk (i := 4) rfl (vis_of rfl)) (w_lk (i := 3) rfl (vis_of rfl)))) (pa_consV rfl (PE.frz (w_bin (w_lk (i := 3) rfl (vis_of rfl)) (w_lk (i := 4) rfl (vis_of rfl)))) (pa_consV rfl (PE.frz (w_join1 (w_look (PE.frz (w_str))) (PE.frz (pe_slM (w_lk (i := 5) rfl (vis_of rfl)) (po_noneM) (po_someM (PE.frz (pe_neg1 (w_look (PE.frz (w_int)))))))))) (pa_consV rfl (PE.frz (w_bin (w_look (PE.frz (w_bin (w_lk (i := 4) rfl (vis_of rfl)) (w_look (PE.frz (w_str)))))) (w_look (PE.frz (w_ix g.toGw (w_lk (i := 5) rfl (vis_of rfl)) (w_look (PE.frz (pe_neg1 (w_look (PE.frz (w_int))))))))))) (pa_nilV))))))))) rfl (fn_of' rfl))))
    (psT_seqS (PST.asgZ (sT_set g.toGw (i := 6) rfl (loc_of rfl) (wT_bin (PET.of' (w_lk (i := 6) rfl (vis_of rfl))) (wT_look (wT_frz (wT_lst (paT_cons rfl (wT_frz (wT_rep1 (PE.frz (w_var (i := 4) rfl (vis_of rfl))))) (paT_nil)))))) rfl (fn_of' rfl)))
    (psT_seqS (PST.asgZ (sT_set g.toGw (i := 6) rfl (loc_of rfl) (wT_bin (PET.of' (w_lk (i := 6) rfl (vis_of rfl))) (wT_look (wT_frz (wT_lst (paT_cons rfl (PET.of' (PE.frz (w_ix g.toGw (w_lk (i := 5) rfl (vis_of rfl)) (w_look (PE.frz (w_int)))))) (paT_cons rfl (PET.of' (PE.frz (w_join1 (w_look (PE.frz (w_str))) (PE.frz (pe_rvlM (PE.frz (w_var (i := 5) rfl (vis_of rfl)))))))) (paT_cons rfl (wT_frz (wT_rep1 (PE.frz (w_var (i := 4) rfl (vis_of rfl))))) (paT_nil)))))))) rfl (fn_of' rfl)))
    (PSsT.of (pss_seqS (ps_ifS (wt_cmp g.toGw (w_lk (i := 2) rfl (vis_of rfl)) (w_look (PE.frz (pe_blt g.calm rfl rfl (A.a.free (i := 1) rfl) rfl (pa_consL rfl (w_lk (i := 6) rfl (vis_of rfl)) (pa_nilL)))))) (pss_seqS (ps_retS (w_bin (w_look (PE.frz (w_bin (w_look (PE.frz (pe_slM (w_lk (i := 0) rfl (vis_of rfl)) (po_noneM) (po_someM (PE.frz (w_var (i := 1) rfl (vis_of rfl))))))) (w_look (PE.frz (pe_lstM (pa_consV rfl (PE.frz (w_ix g.toGw (w_lk (i := 6) rfl (vis_of rfl)) (w_lk (i := 2) rfl (vis_of rfl)))) (pa_nilV)))))))) (w_look (PE.frz (pe_slM (w_lk (i := 0) rfl (vis_of rfl)) (po_someM (PE.frz (w_bin (w_lk (i := 1) rfl (vis_of rfl)) (w_look (PE.frz (w_int)))))) (po_noneM))))))
    (pss_nilS)) (pss_nilS))
    (pss_seqS (ps_ifS (wt_cmp g.toGw (w_lk (i := 2) rfl (vis_of rfl)) (w_look (PE.frz (pe_blt g.calm rfl rfl (A.a.free (i := 1) rfl) rfl (pa_consL rfl (w_lk (i := 6) rfl (vis_of rfl)) (pa_nilL)))))) (pss_seqS (ps_retS (w_bin (w_look (PE.frz (w_bin (w_look (PE.frz (pe_slM (w_lk (i := 0) rfl (vis_of rfl)) (po_noneM) (po_someM (PE.frz (w_var (i := 1) rfl (vis_of rfl))))))) (w_look (PE.frz (pe_lstM (pa_consV rfl (PE.frz (w_var (i := 4) rfl (vis_of rfl))) (pa_nilV)))))))) (w_look (PE.frz (pe_slM (w_lk (i := 0) rfl (vis_of rfl)) (po_someM (PE.frz (w_var (i := 1) rfl (vis_of rfl)))) (po_noneM))))))
    (pss_nilS)) (pss_nilS))
    (pss_seqS (ps_ifS (wt_cmp g.toGw (w_lk (i := 2) rfl (vis_of rfl)) (w_look (PE.frz (w_bin (w_look (PE.frz (pe_blt g.calm rfl rfl (A.a.free (i := 1) rfl) rfl (pa_consL rfl (w_lk (i := 6) rfl (vis_of rfl)) (pa_nilL))))) (w_look (PE.frz (w_int))))))) (pss_seqS (ps_retS (w_bin (w_lk (i := 0) rfl (vis_of rfl)) (w_look (PE.frz (pe_lstM (pa_consV rfl (PE.frz (w_str)) (pa_nilV)))))))
    (pss_nilS)) (pss_nilS))
    (pss_seqS (ps_ifS (PW.pt (pw_andM (wt_cmp g.toGw (w_lk (i := 2) rfl (vis_of rfl)) (w_look (PE.frz (pe_lstM (pa_consV rfl (PE.frz (w_bin (w_look (PE.frz (pe_blt g.calm rfl rfl (A.a.free (i := 1) rfl) rfl (pa_consL rfl (w_lk (i := 6) rfl (vis_of rfl)) (pa_nilL))))) (w_look (PE.frz (w_int))))) (pa_consV rfl (PE.frz (w_bin (w_look (PE.frz (pe_blt g.calm rfl rfl (A.a.free (i := 1) rfl) rfl (pa_consL rfl (w_lk (i := 6) rfl (vis_of rfl)) (pa_nilL))))) (w_look (PE.frz (w_int))))) (pa_nilV))))))) (wt_and1 (wt_cmp g.toGw (w_look (PE.frz (pe_blt g.calm rfl rfl (A.a.free (i := 1) rfl) rfl (pa_consL rfl (w_lk (i := 4) rfl (vis_of rfl)) (pa_nilL))))) (w_look (PE.frz (w_int))))))) (pss_seqS (PS.asgZ (s_set g (i := 8) rfl (loc_of rfl) (w_bin (w_look (PE.frz (w_bin (w_look (PE.frz (w_ord rfl (A.a.free (i := 11) rfl) rfl (pa_consL rfl (w_lk (i := 3) rfl (vis_of rfl)) (pa_nilL))))) (w_look (PE.frz (w_int)))))) (w_look (PE.frz (pe_blt g.calm rfl rfl (A.a.free (i := 1) rfl) rfl (pa_consL rfl (w_lk (i := 4) rfl (vis_of rfl)) (pa_nilL)))))) rfl (fn_of' rfl)))
    (pss_seqS (ps_ifS (wt_cmp g.toGw (w_lk (i := 1) rfl (vis_of rfl)) (w_look (PE.frz (w_int)))) (pss_seqS (PS.asgZ (s_set g (i := 8) rfl (loc_of rfl) (w_bin (w_look (PE.frz (w_int))) (w_look (PE.frz (w_bin (w_look (PE.frz (w_bin (w_look (PE.frz (w_ord rfl (A.a.free (i := 11) rfl) rfl (pa_consL rfl (w_lk (i := 3) rfl (vis_of rfl)) (pa_nilL))))) (w_look (PE.frz (w_int)))))) (w_look (PE.frz (w_bin (w_look (PE.frz (pe_blt g.calm rfl rfl (A.a.free (i := 1) rfl) rfl (pa_consL rfl (w_lk (i := 4) rfl (vis_of rfl)) (pa_nilL))))) (w_look (PE.frz (w_int)))))))))) rfl (fn_of' rfl)))
    (pss_nilS)) (pss_nilS))
    (pss_seqS (PS.asgZ (s_set g (i := 9) rfl (loc_of rfl) (w_bin (w_look (PE.frz (w_bin (w_look (PE.frz (pe_slM (w_lk (i := 4) rfl (vis_of rfl)) (po_noneM) (po_someM (PE.frz (w_var (i := 8) rfl (vis_of rfl))))))) (w_look (PE.frz (w_ix g.toGw (w_look (PE.frz (w_str))) (w_look (PE.frz (w_bin (w_look (PE.frz (w_ord rfl (A.a.free (i := 11) rfl) rfl (pa_consL rfl (w_lk (i := 3) rfl (vis_of rfl)) (pa_nilL))))) (w_look (PE.frz (w_int)))))))))))) (w_look (PE.frz (pe_slM (w_lk (i := 4) rfl (vis_of rfl)) (po_someM (PE.frz (w_bin (w_lk (i := 8) rfl (vis_of rfl)) (w_look (PE.frz (w_int)))))) (po_noneM))))) rfl (fn_of' rfl)))
    (pss_seqS (ps_retS (w_bin (w_look (PE.frz (w_bin (w_look (PE.frz (pe_slM (w_lk (i := 0) rfl (vis_of rfl)) (po_noneM) (po_someM (PE.frz (w_var (i := 1) rfl (vis_of rfl))))))) (w_look (PE.frz (pe_lstM (pa_consV rfl (PE.frz (w_var (i := 9) rfl (vis_of rfl))) (pa_nilV)))))))) (w_look (PE.frz (pe_slM (w_lk (i := 0) rfl (vis_of rfl)) (po_someM (PE.frz (w_bin (w_lk (i := 1) rfl (vis_of rfl)) (w_look (PE.frz (w_int)))))) (po_noneM))))))
    (pss_nilS))))) (pss_nilS))
    (pss_seqS (ps_ifS (wt_cmp g.toGw (w_lk (i := 2) rfl (vis_of rfl)) (w_look (PE.frz (w_bin (w_look (PE.frz (pe_blt g.calm rfl rfl (A.a.free (i := 1) rfl) rfl (pa_consL rfl (w_lk (i := 6) rfl (vis_of rfl)) (pa_nilL))))) (w_look (PE.frz (w_int))))))) (pss_seqS (PS.asgZ (s_set g (i := 9) rfl (loc_of rfl) (w_join1 (w_look (PE.frz (w_str))) (PE.frz (w_bin (w_look (PE.frz (w_bin (w_look (PE.frz (pe_slM (w_lk (i := 5) rfl (vis_of rfl)) (po_noneM) (po_someM (PE.frz (w_int)))))) (w_look (PE.frz (pe_lstM (pa_consV rfl (PE.frz (w_bin (w_look (PE.frz (w_str))) (w_look (PE.frz (w_smu (w_look (PE.frz (w_str))) (w_look (PE.frz (w_int)))))))) (pa_nilV)))))))) (w_look (PE.frz (pe_slM (w_lk (i := 5) rfl (vis_of rfl)) (po_someM (PE.frz (w_int))) (po_noneM))))))) rfl (fn_of' rfl)))
    (pss_seqS (ps_retS (w_bin (w_look (PE.frz (w_bin (w_look (PE.frz (pe_slM (w_lk (i := 0) rfl (vis_of rfl)) (po_noneM) (po_someM (PE.frz (w_var (i := 1) rfl (vis_of rfl))))))) (w_look (PE.frz (pe_lstM (pa_consV rfl (PE.frz (w_var (i := 9) rfl (vis_of rfl))) (pa_nilV)))))))) (w_look (PE.frz (pe_slM (w_lk (i := 0) rfl (vis_of rfl)) (po_someM (PE.frz (w_bin (w_lk (i := 1) rfl (vis_of rfl)) (w_look (PE.frz (w_int)))))) (po_noneM))))))
    (pss_nilS))) (pss_nilS))
    (pss_seqS (PS.asgZ (s_set g (i := 7) rfl (loc_of rfl) (w_bin (w_look (PE.frz (pe_slM (w_lk (i := 0) rfl (vis_of rfl)) (po_someM (PE.frz (w_bin (w_lk (i := 1) rfl (vis_of rfl)) (w_look (PE.frz (w_int)))))) (po_someM (PE.frz (w_bin (w_lk (i := 1) rfl (vis_of rfl)) (w_look (PE.frz (w_int))))))))) (w_look (PE.frz (pe_lstM (pa_consV rfl (PE.frz (w_var (i := 4) rfl (vis_of rfl))) (pa_nilV)))))) rfl (fn_of' rfl)))
    (pss_seqS (ps_retS (w_bin (w_look (PE.frz (w_bin (w_look (PE.frz (pe_slM (w_lk (i := 0) rfl (vis_of rfl)) (po_noneM) (po_someM (PE.frz (w_var (i := 1) rfl (vis_of rfl))))))) (w_lk (i := 7) rfl (vis_of rfl))))) (w_look (PE.frz (pe_slM (w_lk (i := 0) rfl (vis_of rfl)) (po_someM (PE.frz (w_bin (w_lk (i := 1) rfl (vis_of rfl)) (w_look (PE.frz (w_int)))))) (po_noneM))))))
    (pss_nilS)))))))))))))))))
def m_law_head : M Fw :=
  seqM (asgZ 1 (lstM (argsV [frzM (cS "a"), frzM (cS "b"), frzM (cS "ab"), frzM (cS "rest"), frzM (cS "modes"), frzM (cS "abcdefgh"), frzM (cS "abcdefghi"), frzM (cS "A")])))
  (seqM (asgZ 2 (bin2 ixD (lookM (frzM (lstM (argsV [frzM (cS "modes"), frzM (cS "modes"), frzM (cS "modes"), frzM (cS "mode"), frzM (cS "Modes"), frzM (cS "")])))) (lookM (frzM (callM c_law_draw (argsV [frzM (rdN 0), frzM (cI 6)]))))))
  (seqM (retS (bmM "str" jnF (lookM (frzM (cS " "))) (argsV [frzM (bin2 (binD .Add) (lookM (frzM (lstM (argsV [frzM (rdN 2)])))) (lookM (frzM (lcM [3] (iterA rngF1 (argsV [frzM (callM c_law_draw (argsV [frzM (rdN 0), frzM (cI 6)]))])) (tgN 3) (M.ret true) (frzM (bin2 ixD (lkN 1) (lookM (frzM (callM c_law_draw (argsV [frzM (rdN 0), frzM (cI 8)]))))))))))])))
  (M.ret .nx)))
def c_law_head : CF := bodyC 1 ["_law_source_here", "_law_menu", "_law_first", "_law_k"] m_law_head
theorem okc_law_head : okC c_law_head := bodyC_ok _ _ _
theorem sc_law_head : FnScope ["_law_source_here", "_law_menu", "_law_first", "_law_k"] ["_law_source_here"] (defScope s_law_head) := ⟨rfl, rfl, rfl, by decide +kernel, rfl, by decide +kernel, by decide +kernel⟩
theorem ok_law_head (A : Al2 lst txs tps PR K mg base) : Pf lst PR w K mg base 2 (ga K "_law_head") ["_law_source_here"] c_law_head := by
  obtain ⟨fd, F⟩ := A.fnT (i := 20) (j := 22) (st := s_law_head) rfl rfl
  refine ⟨fd, def_ok rfl F sc_law_head fun X E x cdv Ar outer s H hX hT hca bd => ?_, fun_ba F fun _ _ _ _ _ _ us hl => match us, hl with | [_], _ => rfl⟩
  subst hX
  have g := bd.toGd
  exact pss_seqS (PS.asgZ (s_set g (i := 1) rfl (loc_of rfl) (pe_lstM (pa_consV rfl (PE.frz (w_str)) (pa_consV rfl (PE.frz (w_str)) (pa_consV rfl (PE.frz (w_str)) (pa_consV rfl (PE.frz (w_str)) (pa_consV rfl (PE.frz (w_str)) (pa_consV rfl (PE.frz (w_str)) (pa_consV rfl (PE.frz (w_str)) (pa_consV rfl (PE.frz (w_str)) (pa_nilV)))))))))) rfl (fn_of' rfl)))
    (pss_seqS (PS.asgZ (s_set g (i := 2) rfl (loc_of rfl) (w_ix g.toGw (w_look (PE.frz (pe_lstM (pa_consV rfl (PE.frz (w_str)) (pa_consV rfl (PE.frz (w_str)) (pa_consV rfl (PE.frz (w_str)) (pa_consV rfl (PE.frz (w_str)) (pa_consV rfl (PE.frz (w_str)) (pa_consV rfl (PE.frz (w_str)) (pa_nilV)))))))))) (w_look (PE.frz (u_call A (i := 10) rfl hT hca okc_law_draw (ok_law_draw A) (bd.room.mono (by decide)) rfl g.tk rfl rfl (pa_consV rfl (PE.frz (w_var (i := 0) rfl (vis_of rfl))) (pa_consV rfl (PE.frz (w_int)) (pa_nilV))))))) rfl (fn_of' rfl)))
    (pss_seqS (ps_retS (w_join1 (w_look (PE.frz (w_str))) (PE.frz (w_bin (w_look (PE.frz (pe_lstM (pa_consV rfl (PE.frz (w_var (i := 2) rfl (vis_of rfl))) (pa_nilV))))) (w_look (PE.frz (pe_lcM g.calm g.nd (own := [("_law_k", 3)]) (by decide) (pi_rng1 rfl (A.a.free (i := 10) rfl) rfl (pa_consV rfl (PE.frz (u_call A (i := 10) rfl hT hca okc_law_draw (ok_law_draw A) (bd.room.mono (by decide)) rfl g.tk rfl rfl (pa_consV rfl (PE.frz (w_var (i := 0) rfl (vis_of rfl))) (pa_consV rfl (PE.frz (w_int)) (pa_nilV))))) (pa_nilV))) (blk_of rfl) (fun _ _ _ _ _ _ gx1 => g_nameW (g.blk _ _ _ _ _).toGw (by decide) (i := 3) rfl (loc_of rfl) (fn_of' rfl)) (fun _ _ _ _ _ _ gx1 => pts_nilM) (fun _ _ _ _ _ _ gx1 => PE.frz (w_ix (g.blk _ _ _ _ _).toGw (w_lk (i := 1) rfl (vis_of rfl)) (w_look (PE.frz (u_call A (i := 10) rfl (gx1.2.trans hT) (gx1.1.trans hca) okc_law_draw (ok_law_draw A) (bd.room.mono (by decide)) rfl (g.blk _ _ _ _ _).tk rfl rfl (pa_consV rfl (PE.frz (w_var (i := 0) rfl (vis_of rfl))) (pa_consV rfl (PE.frz (w_int)) (pa_nilV)))))))) (fun _ => rfl))))))))
    (pss_nilS)))
noncomputable def l1_g_law : M Fw :=
  seqM (asgZ 6 (callM c_law_changed (argsV [frzM (rdN 6), frzM (bin2 (binD .Mod) (lookM (frzM (bin2 ixD (lkN 4) (lkN 7)))) (lookM (frzM (bltM lenF (argsL [lkN 6]))))), frzM (bin2 ixD (lkN 3) (lkN 7)), frzM (rdN 5)])))
  (M.ret .nx)
noncomputable def l2_g_law : M Fw :=
  seqM (tryA 11 (tb3 lst.l.xt "InvalidText") (seqM (asgZ 12 (callM c_g_parse_book (argsV [frzM (rdN 9)])))
  (M.ret .nx)) (fun a c fs => seqM (ifS (orM (cmpT .NotEq (lookM (frzM (bltM lenF (argsL [lkN 8])))) (lookM (frzM (cI 1)))) (orM (cmpT .NotEq (lookM (frzM (xfM a fs (noB lst.l.no "line" c) 11 "line"))) (lookM (frzM (bin2 ixD (lkN 8) (lookM (frzM (cI 0))))))) (truM (lookM (frzM (isiM (tg3 lst.l.bt "bool") (lookM (frzM (xfM a fs (noB lst.l.no "line" c) 11 "line"))))))))) (seqM (retS (cB false))
  (M.ret .nx)) (M.ret .nx))
  (seqM (ifS (orM (notM (truM (lookM (frzM (xiM a (tb3 lst.l.kt "BoardError" c) 11))))) (orM (notM (truM (lookM (frzM (xiM a (tv3 lst.l.vt "ValueError" c) 11))))) (truM (lookM (frzM (xiM a (tb3 lst.l.kt "InvalidBook" c) 11)))))) (seqM (retS (cB false))
  (M.ret .nx)) (M.ret .nx))
  (seqM (asgZ 12 (cN))
  (M.ret .nx)))))
  (seqM (ifS (cmpT .Eq (lookM (frzM (bltM lenF (argsL [lkN 8])))) (lookM (frzM (cI 1)))) (seqM (ifS (isN1 true (lkN 12)) (seqM (retS (cB false))
  (M.ret .nx)) (M.ret .nx))
  (M.ret .nx)) (seqM (ifS (isN1 false (lkN 12)) (seqM (retS (cB false))
  (M.ret .nx)) (seqM (ifS (orM (cmpT .NotEq (lookM (frzM (un1 (fldD (naB lst) "modes") (lkN 12)))) (lookM (frzM (bltM tupleF (argsL [lookM (frzM (bin2 ixD (lkN 8) (lookM (frzM (cI 0)))))]))))) (cmpT .NotEq (lookM (frzM (un1 (fldD (naB lst) "moves") (lkN 12)))) (lookM (frzM (bltM tupleF (argsL [lookM (frzM (bin2 ixD (lkN 8) (lookM (frzM (cI 1)))))])))))) (seqM (retS (cB false))
  (M.ret .nx)) (seqM (ifS (notM ((opOM (oneC "Book" c_Book_eq) (nfB lst) (frzM (rdN 12)) (frzM (makeM c_Book_init (argsV [frzM (bin2 ixD (lkN 8) (lookM (frzM (cI 1))))]) (argsV [frzM (bin2 ixD (lkN 8) (lookM (frzM (cI 0))))]) (filA 1 1)))).bind bool1)) (seqM (retS (cB false))
  (M.ret .nx)) (M.ret .nx))
  (M.ret .nx)))
  (M.ret .nx)))
  (M.ret .nx)))
  (M.ret .nx))
noncomputable def m_g_law : M Fw :=
  seqM (asgC 1 (callM c_law_source (argsV [frzM (callM c_law_cell (argsV [frzM (rdN 0), frzM (cI 0)]))])))
  (seqM (asgZ 2 (bin2 ixD (lookM (frzM (lstM (argsV [frzM (cI 1), frzM (cI 0), frzM (cI 2), frzM (cI 1)])))) (lookM (frzM (callM c_law_draw (argsV [frzM (rdN 1), frzM (cI 4)]))))))
  (seqM (asgZ 3 (lstM (argsV [frzM (callM c_law_draw (argsV [frzM (rdN 1), frzM (cI 24)])), frzM (callM c_law_draw (argsV [frzM (rdN 1), frzM (cI 24)]))])))
  (seqM (asgZ 4 (lstM (argsV [frzM (callM c_law_draw (argsV [frzM (rdN 1), frzM (cI 11)])), frzM (callM c_law_draw (argsV [frzM (rdN 1), frzM (cI 11)]))])))
  (seqM (asgZ 5 (bin2 ixD (lookM (frzM (cS "abcdefghijklmnopqrstuvwxyz"))) (lookM (frzM (callM c_law_draw (argsV [frzM (rdN 1), frzM (cI 26)]))))))
  (seqM (asgZ 6 (callM c_law_lines (argsV [frzM (rdN 1)])))
  (seqM (forS (iterA rngF1 (argsV [frzM (rdN 2)])) (tgN 7) (l1_g_law))
  (seqM (ifS (cmpT .Eq (lookM (frzM (callM c_law_draw (argsV [frzM (rdN 1), frzM (cI 4)])))) (lookM (frzM (cI 0)))) (seqM (asgZ 6 (bin2 (binD .Add) (lookM (frzM (lstM (argsV [frzM (callM c_law_head (argsV [frzM (rdN 1)]))])))) (lookM (frzM (slM (lkN 6) (prtM (frzM (cI 1))) (M.ret none))))))
  (M.ret .nx)) (M.ret .nx))
  (seqM (asgZ 8 (callM c_law_due (argsV [frzM (rdN 6)])))
  (seqM (asgZ 9 (bmM "str" jnF (lookM (frzM (cS "\n"))) (argsV [frzM (rdN 6)])))
  (seqM (forS (iterA rngF1 (argsV [frzM (cI 2)])) (tgN 10) (l2_g_law))
  (seqM (retS (cB true))
  (M.ret .nx))))))))))))
noncomputable def c_g_law : CF := bodyC 1 ["_law_script", "_law_source_here", "_law_times", "_law_ways", "_law_places", "_law_letter", "_law_lines_here", "_law_k", "_law_due_here", "_law_text", "_law_turn", "e", "_law_book"] m_g_law
theorem sc_g_law : FnScope ["_law_script", "_law_source_here", "_law_times", "_law_ways", "_law_places", "_law_letter", "_law_lines_here", "_law_k", "_law_due_here", "_law_text", "_law_turn", "e", "_law_book"] ["_law_script"] (defScope s_g_law) := ⟨rfl, rfl, rfl, by decide +kernel, rfl, by decide +kernel, by decide +kernel⟩
theorem ix_g_law : lst.l.df[21]? = some ("law" : Str) ∧ txs[23]? = some (dfTx "law" s_g_law) := ⟨rfl, rfl⟩
theorem ba_g_law {fd : FuncData} (F : Fun K "law" "law" s_g_law (ga K "law") fd) : BA fd ["_law_script"] := fun_ba F fun _ _ _ _ _ _ us hl => match us, hl with | [_], _ => rfl
theorem okf_g_law (A : Al2 lst txs tps PR K mg base) (hM : MvAt w K mg mds) {fd : FuncData} (F : Fun K "law" "law" s_g_law (ga K "law") fd) : FnOk PR w K mg base (L2N.CX PR w) 9 (ga K "law") fd ["_law_script"] (spF K (tabsK lst K) (ga K) c_g_law) := by
  refine def_ok rfl F sc_g_law fun X E x cdv Ar outer s H hX hT hca bd => ?_
  subst hX
  have g := bd.toGd
  exact pss_seqS (s_setC g (i := 1) rfl (loc_of rfl) (u_call A (i := 9) rfl hT hca okc_law_source (ok_law_source A) (bd.room.mono (by decide)) rfl g.tk rfl rfl (pa_consV rfl (PE.frz (u_call A (i := 8) rfl hT hca okc_law_cell (ok_law_cell A) (bd.room.mono (by decide)) rfl g.tk rfl rfl (pa_consV rfl (PE.frz (w_var (i := 0) rfl (vis_of rfl))) (pa_consV rfl (PE.frz (w_int)) (pa_nilV))))) (pa_nilV))) rfl (fn_of' rfl))
    (pss_seqS (PS.asgZ (s_set g (i := 2) rfl (loc_of rfl) (w_ix g.toGw (w_look (PE.frz (pe_lstM (pa_consV rfl (PE.frz (w_int)) (pa_consV rfl (PE.frz (w_int)) (pa_consV rfl (PE.frz (w_int)) (pa_consV rfl (PE.frz (w_int)) (pa_nilV)))))))) (w_look (PE.frz (u_call A (i := 10) rfl hT hca okc_law_draw (ok_law_draw A) (bd.room.mono (by decide)) rfl g.tk rfl rfl (pa_consV rfl (PE.frz (w_var (i := 1) rfl (vis_of rfl))) (pa_consV rfl (PE.frz (w_int)) (pa_nilV))))))) rfl (fn_of' rfl)))
    (pss_seqS (PS.asgZ (s_set g (i := 3) rfl (loc_of rfl) (pe_lstM (pa_consV rfl (PE.frz (u_call A (i := 10) rfl hT hca okc_law_draw (ok_law_draw A) (bd.room.mono (by decide)) rfl g.tk rfl rfl (pa_consV rfl (PE.frz (w_var (i := 1) rfl (vis_of rfl))) (pa_consV rfl (PE.frz (w_int)) (pa_nilV))))) (pa_consV rfl (PE.frz (u_call A (i := 10) rfl hT hca okc_law_draw (ok_law_draw A) (bd.room.mono (by decide)) rfl g.tk rfl rfl (pa_consV rfl (PE.frz (w_var (i := 1) rfl (vis_of rfl))) (pa_consV rfl (PE.frz (w_int)) (pa_nilV))))) (pa_nilV)))) rfl (fn_of' rfl)))
    (pss_seqS (PS.asgZ (s_set g (i := 4) rfl (loc_of rfl) (pe_lstM (pa_consV rfl (PE.frz (u_call A (i := 10) rfl hT hca okc_law_draw (ok_law_draw A) (bd.room.mono (by decide)) rfl g.tk rfl rfl (pa_consV rfl (PE.frz (w_var (i := 1) rfl (vis_of rfl))) (pa_consV rfl (PE.frz (w_int)) (pa_nilV))))) (pa_consV rfl (PE.frz (u_call A (i := 10) rfl hT hca okc_law_draw (ok_law_draw A) (bd.room.mono (by decide)) rfl g.tk rfl rfl (pa_consV rfl (PE.frz (w_var (i := 1) rfl (vis_of rfl))) (pa_consV rfl (PE.frz (w_int)) (pa_nilV))))) (pa_nilV)))) rfl (fn_of' rfl)))
    (pss_seqS (PS.asgZ (s_set g (i := 5) rfl (loc_of rfl) (w_ix g.toGw (w_look (PE.frz (w_str))) (w_look (PE.frz (u_call A (i := 10) rfl hT hca okc_law_draw (ok_law_draw A) (bd.room.mono (by decide)) rfl g.tk rfl rfl (pa_consV rfl (PE.frz (w_var (i := 1) rfl (vis_of rfl))) (pa_consV rfl (PE.frz (w_int)) (pa_nilV))))))) rfl (fn_of' rfl)))
    (pss_seqS (PS.asgZ (s_set g (i := 6) rfl (loc_of rfl) (u_call A (i := 13) rfl hT hca okc_law_lines (ok_law_lines A) (bd.room.mono (by decide)) rfl g.tk rfl rfl (pa_consV rfl (PE.frz (w_var (i := 1) rfl (vis_of rfl))) (pa_nilV))) rfl (fn_of' rfl)))
    (pss_seqS (s_for g bd.own (pi_rng1 rfl (A.a.free (i := 10) rfl) rfl (pa_consV rfl (PE.frz (w_var (i := 2) rfl (vis_of rfl))) (pa_nilV))) (g_name g (i := 7) rfl (loc_of rfl) (fn_of' rfl)) (pss_seqS (PS.asgZ (s_set g (i := 6) rfl (loc_of rfl) (u_call A (i := 19) rfl hT hca okc_law_changed (ok_law_changed A) (bd.room.mono (by decide)) rfl g.tk rfl rfl (pa_consV rfl (PE.frz (w_var (i := 6) rfl (vis_of rfl))) (pa_consV rfl (PE.frz (w_bin (w_look (PE.frz (w_ix g.toGw (w_lk (i := 4) rfl (vis_of rfl)) (w_lk (i := 7) rfl (vis_of rfl))))) (w_look (PE.frz (pe_blt g.calm rfl rfl (A.a.free (i := 1) rfl) rfl (pa_consL rfl (w_lk (i := 6) rfl (vis_of rfl)) (pa_nilL))))))) (pa_consV rfl (PE.frz (w_ix g.toGw (w_lk (i := 3) rfl (vis_of rfl)) (w_lk (i := 7) rfl (vis_of rfl)))) (pa_consV rfl (PE.frz (w_var (i := 5) rfl (vis_of rfl))) (pa_nilV)))))) rfl (fn_of' rfl)))
    (pss_nilS)))
    (pss_seqS (ps_ifS (wt_cmp g.toGw (w_look (PE.frz (u_call A (i := 10) rfl hT hca okc_law_draw (ok_law_draw A) (bd.room.mono (by decide)) rfl g.tk rfl rfl (pa_consV rfl (PE.frz (w_var (i := 1) rfl (vis_of rfl))) (pa_consV rfl (PE.frz (w_int)) (pa_nilV)))))) (w_look (PE.frz (w_int)))) (pss_seqS (PS.asgZ (s_set g (i := 6) rfl (loc_of rfl) (w_bin (w_look (PE.frz (pe_lstM (pa_consV rfl (PE.frz (u_call A (i := 20) rfl hT hca okc_law_head (ok_law_head A) (bd.room.mono (by decide)) rfl g.tk rfl rfl (pa_consV rfl (PE.frz (w_var (i := 1) rfl (vis_of rfl))) (pa_nilV)))) (pa_nilV))))) (w_look (PE.frz (pe_slM (w_lk (i := 6) rfl (vis_of rfl)) (po_someM (PE.frz (w_int))) (po_noneM))))) rfl (fn_of' rfl)))
    (pss_nilS)) (pss_nilS))
    (pss_seqS (PS.asgZ (s_set g (i := 8) rfl (loc_of rfl) (u_call A (i := 18) rfl hT hca okc_law_due (ok_law_due A) (bd.room.mono (by decide)) rfl g.tk rfl rfl (pa_consV rfl (PE.frz (w_var (i := 6) rfl (vis_of rfl))) (pa_nilV))) rfl (fn_of' rfl)))
    (pss_seqS (PS.asgZ (s_set g (i := 9) rfl (loc_of rfl) (w_join1 (w_look (PE.frz (w_str))) (PE.frz (w_var (i := 6) rfl (vis_of rfl)))) rfl (fn_of' rfl)))
    (pss_seqS (s_for g bd.own (pi_rng1 rfl (A.a.free (i := 10) rfl) rfl (pa_consV rfl (PE.frz (w_int)) (pa_nilV))) (g_name g (i := 10) rfl (loc_of rfl) (fn_of' rfl)) (pss_seqS (v_try A.a hca g rfl rfl rfl (i := 11) rfl rfl (A.a.glo (i := 2) rfl) rfl rfl (fun W1 pn xe tk ow => pss_seqS (PS.asgZ (s_set (g.try tk) (i := 12) rfl (loc_of rfl) (u_call A (i := 7) rfl hT hca okc_g_parse_book (ok_g_parse_book A hM) (bd.room.mono (by decide)) rfl (g.try tk).tk rfl rfl (pa_consV rfl (PE.frz (w_var (i := 9) rfl (vis_of rfl))) (pa_nilV))) rfl (fn_of' rfl)))
    (pss_nilS)) (fun a oe pn c fs x1 gy cau => pss_seqS (ps_ifS (PW.pt (pw_orM (wt_cmp (g.toGw.suite _ _) (w_look (PE.frz (w_lenQ rfl (A.a.free (i := 1) rfl) rfl (pa_consL rfl (w_lk (i := 8) rfl (vis_of rfl)) (pa_nilL))))) (w_look (PE.frz (w_int)))) (pw_orM (wt_cmp (g.toGw.suite _ _) (w_look (PE.frz (v_xf A.a (gy.1.trans hca) her_n cau (i := 11) rfl (vis_of rfl) rfl rfl rfl))) (w_look (PE.frz (w_ix (g.toGw.suite _ _) (w_lk (i := 8) rfl (vis_of rfl)) (w_look (PE.frz (w_int))))))) (wt_or1 (pt_tru (w_look (PE.frz (v_isi A.a rfl (A.a.free (i := 7) rfl) (A.a.free (i := 12) rfl) (by decide +kernel) rfl (by decide) rfl rfl (w_look (PE.frz (v_xf A.a (gy.1.trans hca) her_n cau (i := 11) rfl (vis_of rfl) rfl rfl rfl)))))) (fun _ => rfl)))))) (pss_seqS (ps_retS (w_bl))
    (pss_nilS)) (pss_nilS))
    (pss_seqS (ps_ifS (PW.pt (pw_orM (pt_notM (pt_tru (w_look (PE.frz (v_xi A.a (gy.1.trans hca) her_k cau rfl (A.a.free (i := 7) rfl) (A.a.glo (i := 1) rfl) rfl rfl (i := 11) rfl (vis_of rfl) rfl rfl))) (fun _ => rfl))) (pw_orM (pt_notM (pt_tru (w_look (PE.frz (v_xv A.a (gy.1.trans hca) her_v cau rfl (A.a.free (i := 7) rfl) (A.a.free (i := 13) rfl) (by decide +kernel) rfl (by decide) rfl (i := 11) rfl (vis_of rfl) rfl rfl))) (fun _ => rfl))) (wt_or1 (pt_tru (w_look (PE.frz (v_xi A.a (gy.1.trans hca) her_k cau rfl (A.a.free (i := 7) rfl) (A.a.glo (i := 0) rfl) rfl rfl (i := 11) rfl (vis_of rfl) rfl rfl))) (fun _ => rfl)))))) (pss_seqS (ps_retS (w_bl))
    (pss_nilS)) (pss_nilS))
    (pss_seqS (PS.asgZ (s_set (g.toGw.suite _ _) (i := 12) rfl (loc_of rfl) (w_non) rfl (fn_of' rfl)))
    (pss_nilS)))))
    (pss_seqS (ps_ifS (wt_cmp g.toGw (w_look (PE.frz (pe_blt g.calm rfl rfl (A.a.free (i := 1) rfl) rfl (pa_consL rfl (w_lk (i := 8) rfl (vis_of rfl)) (pa_nilL))))) (w_look (PE.frz (w_int)))) (pss_seqS (ps_ifS (pt_notN1 (w_lk (i := 12) rfl (vis_of rfl))) (pss_seqS (ps_retS (w_bl))
    (pss_nilS)) (pss_nilS))
    (pss_nilS)) (pss_seqS (ps_ifS (pt_isN1 (w_lk (i := 12) rfl (vis_of rfl))) (pss_seqS (ps_retS (w_bl))
    (pss_nilS)) (pss_seqS (ps_ifS (PW.pt (pw_orM (wt_cmp g.toGw (w_look (PE.frz (u_fld A her_na hca (w_lk (i := 12) rfl (vis_of rfl)) rfl))) (w_look (PE.frz (pe_blt g.calm rfl rfl (A.a.free (i := 3) rfl) rfl (pa_consL rfl (w_look (PE.frz (w_ix g.toGw (w_lk (i := 8) rfl (vis_of rfl)) (w_look (PE.frz (w_int)))))) (pa_nilL)))))) (wt_or1 (wt_cmp g.toGw (w_look (PE.frz (u_fld A her_na hca (w_lk (i := 12) rfl (vis_of rfl)) rfl))) (w_look (PE.frz (pe_blt g.calm rfl rfl (A.a.free (i := 3) rfl) rfl (pa_consL rfl (w_look (PE.frz (w_ix g.toGw (w_lk (i := 8) rfl (vis_of rfl)) (w_look (PE.frz (w_int)))))) (pa_nilL))))))))) (pss_seqS (ps_retS (w_bl))
    (pss_nilS)) (pss_seqS (ps_ifS (pt_notM (ut_eqO A (j := 1) rfl hT hca okc_Book_eq (ok_Book_eq A) (bd.room.mono (by decide)) (PE.frz (w_var (i := 12) rfl (vis_of rfl))) (PE.frz (u_make A g (i := 0) rfl hT hca okc_Book_init (ok_Book_init A) (bd.room.mono (by decide)) rfl (pa_consV rfl (PE.frz (w_ix g.toGw (w_lk (i := 8) rfl (vis_of rfl)) (w_look (PE.frz (w_int))))) (pa_nilV)) (pk_consV (PE.frz (w_ix g.toGw (w_lk (i := 8) rfl (vis_of rfl)) (w_look (PE.frz (w_int))))) (pk_nilV)) rfl rfl rfl rfl rfl rfl)) rfl)) (pss_seqS (ps_retS (w_bl))
    (pss_nilS)) (pss_nilS))
    (pss_nilS)))
    (pss_nilS)))
    (pss_nilS)))
    (pss_nilS))))
    (pss_seqS (ps_retS (w_bl))
    (pss_nilS))))))))))))
end
end My
end
section
set_option maxHeartbeats 200000
namespace My
open PySem Dn
open L2 (atI ixN)
theorem stpB : (((((((type_of% @wp_ok) ∧ ((type_of% @wp_exn) ∧ (type_of% @wp_stuck))) ∧ ((type_of% @bQ_app) ∧ ((type_of% @wp_bind) ∧ (type_of% @ret_app)))) ∧ (((type_of% @stuck_app) ∧ ((type_of% @lift_some) ∧ (type_of% @lift_none))) ∧ ((type_of% @ite_app) ∧ ((type_of% @wp_ite) ∧ (type_of% @wp_grdO))))) ∧ ((((type_of% @wp_lmap) ∧ ((type_of% @decide_eq_true_eq) ∧ (type_of% @seqM_app))) ∧ ((type_of% @ifS_app) ∧ ((type_of% @retS_app) ∧ (type_of% @exprS_app)))) ∧ (((type_of% @asgN_app) ∧ ((type_of% @setN_app) ∧ (type_of% @asgC_app))) ∧ ((type_of% @setC_ow) ∧ ((type_of% @setC_fz) ∧ (type_of% @asgG_app)))))) ∧ (((((type_of% @tgN_app) ∧ ((type_of% @tgT_app) ∧ (type_of% @tgs_nil))) ∧ ((type_of% @tgs_cons) ∧ ((type_of% @tgS_app) ∧ (type_of% @forS_app)))) ∧ (((type_of% @rdN_app) ∧ ((type_of% @lkN_app) ∧ (type_of% @frzM_app))) ∧ ((type_of% @frz_fz) ∧ ((type_of% @frz_ow') ∧ (type_of% @lookM_app))))) ∧ ((((type_of% @bin2_app) ∧ ((type_of% @un1_app) ∧ (type_of% @rsv_app))) ∧ ((type_of% @argsV_nil) ∧ ((type_of% @argsV_cons) ∧ (type_of% @argsL_nil)))) ∧ (((type_of% @argsL_cons) ∧ ((type_of% @lstM_app) ∧ (type_of% @tupM_app))) ∧ (((type_of% @dctM_app) ∧ (type_of% @bltM_app)) ∧ ((type_of% @rsvs_nil) ∧ (type_of% @rsvs_cons))))))) ∧ ((((((type_of% @callM_app) ∧ ((type_of% @cQ_app) ∧ (type_of% @cX_app))) ∧ ((type_of% @wp_runC) ∧ ((type_of% @truM_app) ∧ (type_of% @notM_app)))) ∧ (((type_of% @andM_app) ∧ ((type_of% @orM_app) ∧ (type_of% @andV_app))) ∧ ((type_of% @orV_app) ∧ ((type_of% @blM_app) ∧ (type_of% @ifV_app))))) ∧ ((((type_of% @isN1_app) ∧ ((type_of% @cmpT_app) ∧ (type_of% @bool1_app))) ∧ ((type_of% @chn_app) ∧ ((type_of% @isiM_app) ∧ (type_of% @slM_app)))) ∧ (((type_of% @prtM_app) ∧ ((type_of% @mutM_app) ∧ (type_of% @bmM_app))) ∧ ((type_of% @chgM_app) ∧ ((type_of% @wrP_app) ∧ (type_of% @iterV_app)))))) ∧ (((((type_of% @iterA_app) ∧ ((type_of% @iterR_app) ∧ (type_of% @cI_app))) ∧ ((type_of% @cS_app) ∧ ((type_of% @cB_app) ∧ (type_of% @cN_app)))) ∧ (((type_of% @lcM_app) ∧ ((type_of% @lcStep_app) ∧ (type_of% @dcM_app))) ∧ ((type_of% @dcStep_app) ∧ ((type_of% @lcBM_app) ∧ (type_of% @innB_app))))) ∧ ((((type_of% @appB_app) ∧ ((type_of% @makeM_app) ∧ (type_of% @setFld_app))) ∧ ((type_of% @bodyQ_nx) ∧ ((type_of% @bodyQ_rt) ∧ (type_of% @bodyX_app)))) ∧ (((type_of% @loopQ_nx) ∧ ((type_of% @loopQ_ct) ∧ (type_of% @loopQ_bk))) ∧ (((type_of% @loopQ_rt) ∧ (type_of% @whQ_true)) ∧ ((type_of% @whQ_false) ∧ (type_of% @List.map_cons.{0,0})))))))) ∧ (((((((type_of% @List.map_nil.{0,0}) ∧ ((type_of% @List.length_cons.{0}) ∧ (type_of% @List.length_nil.{0}))) ∧ ((type_of% @List.cons_append.{0}) ∧ ((type_of% @List.nil_append.{0}) ∧ (type_of% @List.getElem?_cons_zero.{0})))) ∧ (((type_of% @List.getElem?_cons_succ.{0}) ∧ ((type_of% @List.set_cons_zero.{0}) ∧ (type_of% @List.set_cons_succ.{0}))) ∧ ((type_of% @Option.map_some.{0,0}) ∧ ((type_of% @Option.map_none.{0,0}) ∧ (type_of% @Option.bind_some.{0,0}))))) ∧ ((((type_of% @b_add) ∧ ((type_of% @b_addS) ∧ (type_of% @b_addL))) ∧ ((type_of% @b_addT) ∧ ((type_of% @b_sub) ∧ (type_of% @b_mul)))) ∧ (((type_of% @b_mod) ∧ ((type_of% @b_div) ∧ (type_of% @b_pow))) ∧ ((type_of% @c_lt) ∧ ((type_of% @c_le) ∧ (type_of% @c_gt)))))) ∧ (((((type_of% @c_ge) ∧ ((type_of% @c_eqI) ∧ (type_of% @c_neI))) ∧ ((type_of% @c_eqS) ∧ ((type_of% @c_neS) ∧ (type_of% @c_eqB)))) ∧ (((type_of% @c_neB) ∧ ((type_of% @c_in) ∧ (type_of% @c_ni))) ∧ ((type_of% @cont_non) ∧ ((type_of% @cont_bl) ∧ (type_of% @cont_int))))) ∧ ((((type_of% @cont_str) ∧ ((type_of% @cont_tup) ∧ (type_of% @cont_lst))) ∧ ((type_of% @cont_scr) ∧ ((type_of% @cont_dcK) ∧ (type_of% @cont_dcT)))) ∧ (((type_of% @cont_obj) ∧ ((type_of% @cont_cell) ∧ (type_of% @tru_bl))) ∧ (((type_of% @tru_non) ∧ (type_of% @tru_lst)) ∧ ((type_of% @tru_tup) ∧ (type_of% @tru_dcK))))))) ∧ ((((((type_of% @tru_dcT) ∧ ((type_of% @tru_int) ∧ (type_of% @ty_lst))) ∧ ((type_of% @ty_str) ∧ ((type_of% @it_lst') ∧ (type_of% @it_tup')))) ∧ (((type_of% @it_str') ∧ ((type_of% @app_1) ∧ (type_of% @i_int))) ∧ ((type_of% @neg_i) ∧ ((type_of% @len_lst) ∧ (type_of% @len_tup))))) ∧ ((((type_of% @len_scr) ∧ ((type_of% @len_dcK) ∧ (type_of% @len_dcT))) ∧ ((type_of% @len_str) ∧ ((type_of% @abs_i) ∧ (type_of% @int_i)))) ∧ (((type_of% @int_b) ∧ ((type_of% @ix_lst) ∧ (type_of% @ix_tup))) ∧ ((type_of% @ix_scr) ∧ ((type_of% @ix_str) ∧ (type_of% @set_lst)))))) ∧ (((((type_of% @rng_1) ∧ ((type_of% @rng_2) ∧ (type_of% @enu_l))) ∧ ((type_of% @enu_t) ∧ ((type_of% @zip_l) ∧ (type_of% @grd_t)))) ∧ (((type_of% @grd_d) ∧ ((type_of% @fnd_s) ∧ (type_of% @sl_str))) ∧ ((type_of% @sl_lst) ∧ ((type_of% @atI0) ∧ (type_of% @atI1))))) ∧ ((((type_of% @atI2) ∧ ((type_of% @atI3) ∧ (type_of% @if_true.{1}))) ∧ ((type_of% @if_true.{0}) ∧ ((type_of% @if_false.{1}) ∧ (type_of% @if_false.{0})))) ∧ (((type_of% @Bool.false_eq_true) ∧ ((type_of% @decide_true) ∧ (type_of% @decide_false))) ∧ (((type_of% @sizeLine_eq) ∧ (type_of% @and_true)) ∧ ((type_of% @true_and) ∧ (type_of% @eq_self.{1})))))))) := ⟨⟨⟨⟨⟨⟨⟨@wp_ok, ⟨@wp_exn, @wp_stuck⟩⟩, ⟨@bQ_app, ⟨@wp_bind, @ret_app⟩⟩⟩, ⟨⟨@stuck_app, ⟨@lift_some, @lift_none⟩⟩, ⟨@ite_app, ⟨@wp_ite, @wp_grdO⟩⟩⟩⟩, ⟨⟨⟨@wp_lmap, ⟨@decide_eq_true_eq, @seqM_app⟩⟩, ⟨@ifS_app, ⟨@retS_app, @exprS_app⟩⟩⟩, ⟨⟨@asgN_app, ⟨@setN_app, @asgC_app⟩⟩, ⟨@setC_ow, ⟨@setC_fz, @asgG_app⟩⟩⟩⟩⟩, ⟨⟨⟨⟨@tgN_app, ⟨@tgT_app, @tgs_nil⟩⟩, ⟨@tgs_cons, ⟨@tgS_app, @forS_app⟩⟩⟩, ⟨⟨@rdN_app, ⟨@lkN_app, @frzM_app⟩⟩, ⟨@frz_fz, ⟨@frz_ow', @lookM_app⟩⟩⟩⟩, ⟨⟨⟨@bin2_app, ⟨@un1_app, @rsv_app⟩⟩, ⟨@argsV_nil, ⟨@argsV_cons, @argsL_nil⟩⟩⟩, ⟨⟨@argsL_cons, ⟨@lstM_app, @tupM_app⟩⟩, ⟨⟨@dctM_app, @bltM_app⟩, ⟨@rsvs_nil, @rsvs_cons⟩⟩⟩⟩⟩⟩, ⟨⟨⟨⟨⟨@callM_app, ⟨@cQ_app, @cX_app⟩⟩, ⟨@wp_runC, ⟨@truM_app, @notM_app⟩⟩⟩, ⟨⟨@andM_app, ⟨@orM_app, @andV_app⟩⟩, ⟨@orV_app, ⟨@blM_app, @ifV_app⟩⟩⟩⟩, ⟨⟨⟨@isN1_app, ⟨@cmpT_app, @bool1_app⟩⟩, ⟨@chn_app, ⟨@isiM_app, @slM_app⟩⟩⟩, ⟨⟨@prtM_app, ⟨@mutM_app, @bmM_app⟩⟩, ⟨@chgM_app, ⟨@wrP_app, @iterV_app⟩⟩⟩⟩⟩, ⟨⟨⟨⟨@iterA_app, ⟨@iterR_app, @cI_app⟩⟩, ⟨@cS_app, ⟨@cB_app, @cN_app⟩⟩⟩, ⟨⟨@lcM_app, ⟨@lcStep_app, @dcM_app⟩⟩, ⟨@dcStep_app, ⟨@lcBM_app, @innB_app⟩⟩⟩⟩, ⟨⟨⟨@appB_app, ⟨@makeM_app, @setFld_app⟩⟩, ⟨@bodyQ_nx, ⟨@bodyQ_rt, @bodyX_app⟩⟩⟩, ⟨⟨@loopQ_nx, ⟨@loopQ_ct, @loopQ_bk⟩⟩, ⟨⟨@loopQ_rt, @whQ_true⟩, ⟨@whQ_false, @List.map_cons.{0,0}⟩⟩⟩⟩⟩⟩⟩, ⟨⟨⟨⟨⟨⟨@List.map_nil.{0,0}, ⟨@List.length_cons.{0}, @List.length_nil.{0}⟩⟩, ⟨@List.cons_append.{0}, ⟨@List.nil_append.{0}, @List.getElem?_cons_zero.{0}⟩⟩⟩, ⟨⟨@List.getElem?_cons_succ.{0}, ⟨@List.set_cons_zero.{0}, @List.set_cons_succ.{0}⟩⟩, ⟨@Option.map_some.{0,0}, ⟨@Option.map_none.{0,0}, @Option.bind_some.{0,0}⟩⟩⟩⟩, ⟨⟨⟨@b_add, ⟨@b_addS, @b_addL⟩⟩, ⟨@b_addT, ⟨@b_sub, @b_mul⟩⟩⟩, ⟨⟨@b_mod, ⟨@b_div, @b_pow⟩⟩, ⟨@c_lt, ⟨@c_le, @c_gt⟩⟩⟩⟩⟩, ⟨⟨⟨⟨@c_ge, ⟨@c_eqI, @c_neI⟩⟩, ⟨@c_eqS, ⟨@c_neS, @c_eqB⟩⟩⟩, ⟨⟨@c_neB, ⟨@c_in, @c_ni⟩⟩, ⟨@cont_non, ⟨@cont_bl, @cont_int⟩⟩⟩⟩, ⟨⟨⟨@cont_str, ⟨@cont_tup, @cont_lst⟩⟩, ⟨@cont_scr, ⟨@cont_dcK, @cont_dcT⟩⟩⟩, ⟨⟨@cont_obj, ⟨@cont_cell, @tru_bl⟩⟩, ⟨⟨@tru_non, @tru_lst⟩, ⟨@tru_tup, @tru_dcK⟩⟩⟩⟩⟩⟩, ⟨⟨⟨⟨⟨@tru_dcT, ⟨@tru_int, @ty_lst⟩⟩, ⟨@ty_str, ⟨@it_lst', @it_tup'⟩⟩⟩, ⟨⟨@it_str', ⟨@app_1, @i_int⟩⟩, ⟨@neg_i, ⟨@len_lst, @len_tup⟩⟩⟩⟩, ⟨⟨⟨@len_scr, ⟨@len_dcK, @len_dcT⟩⟩, ⟨@len_str, ⟨@abs_i, @int_i⟩⟩⟩, ⟨⟨@int_b, ⟨@ix_lst, @ix_tup⟩⟩, ⟨@ix_scr, ⟨@ix_str, @set_lst⟩⟩⟩⟩⟩, ⟨⟨⟨⟨@rng_1, ⟨@rng_2, @enu_l⟩⟩, ⟨@enu_t, ⟨@zip_l, @grd_t⟩⟩⟩, ⟨⟨@grd_d, ⟨@fnd_s, @sl_str⟩⟩, ⟨@sl_lst, ⟨@atI0, @atI1⟩⟩⟩⟩, ⟨⟨⟨@atI2, ⟨@atI3, @if_true.{1}⟩⟩, ⟨@if_true.{0}, ⟨@if_false.{1}, @if_false.{0}⟩⟩⟩, ⟨⟨@Bool.false_eq_true, ⟨@decide_true, @decide_false⟩⟩, ⟨⟨@sizeLine_eq, @and_true⟩, ⟨@true_and, @eq_self.{1}⟩⟩⟩⟩⟩⟩⟩⟩
theorem atI_nat {α : Type} (xs : List α) (j : Nat) : atI xs (j : Int) = xs[j]? := by
  unfold atI ixN
  by_cases h : j < xs.length
  · simp [h]
  · simp [h]
theorem atI_of {α : Type} {xs : List α} {i : Int} {a : α} (h0 : 0 ≤ i) (h : xs[i.toNat]? = some a) : atI xs i = some a := by
  have := atI_nat xs i.toNat
  rw [Int.toNat_of_nonneg h0] at this
  rw [this]; exact h
/-- what stands in a pot, n takes ahead -/
def PotV (f : Nat) (d : D) : Prop := ∃ a b : Int, d = .lst [.int a, .int b] ∧ 0 ≤ a ∧ 0 ≤ b ∧ b + f ≤ 2 ^ 100
end My
end
section
set_option maxHeartbeats 200000
namespace My
open PySem Dn
open L2 (atI ixN)
def Pot (n f : Nat) (s : List D) : Prop := ∃ d, s[n]? = some d ∧ PotV f d
def Sam (n : Nat) (s s' : List D) : Prop := s'.length = s.length ∧ ∀ m, m ≠ n → s'[m]? = s[m]?
theorem Sam.refl (n : Nat) (s : List D) : Sam n s s := ⟨rfl, fun _ _ => rfl⟩
theorem Sam.trans {n : Nat} {s s1 s2 : List D} (a : Sam n s s1) (b : Sam n s1 s2) : Sam n s s2 := ⟨b.1.trans a.1, fun m h => (b.2 m h).trans (a.2 m h)⟩
theorem PotV.mono {f g : Nat} {d : D} (h : PotV f d) (hg : g ≤ f) : PotV g d := by
  obtain ⟨a, b, e, h1, h2, h3⟩ := h
  exact ⟨a, b, e, h1, h2, by omega⟩
theorem Pot.mono {n f g : Nat} {s : List D} (h : Pot n f s) (hg : g ≤ f) : Pot n g s := by
  obtain ⟨d, h1, h2⟩ := h
  exact ⟨d, h1, h2.mono hg⟩
def W (cs : List Nat) : Str := ⟨cs.toArray⟩
theorem W_cps (cs : List Nat) : (W cs).cps.toList = cs := rfl
theorem W_len (cs : List Nat) : (W cs).length = cs.length := by simp [W, Str.length]
theorem W_of (z : Str) : z = W z.cps.toList := rfl
theorem cut_W (cs : List Nat) (lo hi : Option Int) : L2.cutS (W cs) lo hi = W ((cs.drop (HT.sIx cs.length 0 lo)).take (HT.sIx cs.length cs.length hi - HT.sIx cs.length 0 lo)) := by
  unfold L2.cutS
  rw [W_len, W_cps]; rfl
def ltr (i : Nat) : Nat := 97 + i
abbrev AZ : Str := "abcdefghijklmnopqrstuvwxyz"
theorem AZ_cps : AZ.cps.toList = (List.range 26).map ltr := by decide +kernel
theorem AZ_len : AZ.length = 26 := by decide +kernel
theorem AZ_at {i : Nat} (h : i < 26) : atI AZ.cps.toList (i : Int) = some (ltr i) := by
  rw [atI_nat, AZ_cps]
  simp [h]
/-- a mode by its letters -/
def Lt (cs : List Nat) : Prop := ∀ c ∈ cs, ∃ i, i < 26 ∧ c = ltr i
def Md (z : Str) : Prop := 1 ≤ z.cps.toList.length ∧ z.cps.toList.length ≤ 8 ∧ Lt z.cps.toList
structure Kinds (ks : List Str) : Prop where
  pos : 1 ≤ ks.length
  le : ks.length ≤ 3
  nd : ks.Nodup
  md : ∀ k ∈ ks, Md k
theorem rngL_get {lo : Int} {n i : Nat} {d : D} (h : (rngL lo n)[i]? = some d) : i < n ∧ d = .int (lo + (i : Int)) := by
  unfold rngL at h
  rw [List.getElem?_map] at h
  cases hr : (List.range n)[i]? with
  | none => rw [hr] at h; cases h
  | some j =>
    rw [hr] at h
    have h2 := List.getElem?_eq_some_iff.mp hr
    obtain ⟨h3, h4⟩ := h2
    rw [List.getElem_range] at h4
    rw [List.length_range] at h3
    subst h4
    cases h
    exact ⟨h3, rfl⟩
theorem strL_map (xs : List Str) : strL (xs.map D.str) = some xs := by
  induction xs with
  | nil => rfl
  | cons x xs ih => simp [strL, ih]
theorem bnd_of {i : Int} (h0 : -(2 ^ 62) ≤ i) (h : i < 2 ^ 62) : bnd i = true := by
  unfold bnd
  rw [decide_eq_true h0, decide_eq_true h]; rfl
end My
end
section
set_option maxHeartbeats 200000
namespace My
open PySem Dn
open L2 (atI ixN)
abbrev Mv := Str × Int × Int × Str
def mvD (m : Mv) : D := .tup false [.str m.1, .int m.2.1, .int m.2.2.1, .str m.2.2.2]
structure VMv (ks : List Str) (m : Mv) : Prop where
  a : m.1 ∈ ks
  b : m.2.2.2 ∈ ks
  r0 : -6 ≤ m.2.1
  r1 : m.2.1 ≤ 6
  c0 : -6 ≤ m.2.2.1
  c1 : m.2.2.1 ≤ 6
theorem mul_s (i j : Int) (h : j.natAbs < 2 ^ 64) : mulOk i j = true := by unfold mulOk; rw [decide_eq_true h]; rfl
theorem ks_at {ks : List Str} {j : Nat} (h : j < ks.length) : atI (ks.map D.str) (j : Int) = some (.str ks[j]) := by
  rw [atI_nat]; simp [h]
end My
end
section
set_option maxHeartbeats 200000
namespace My
open PySem Dn
open L2 (atI ixN)
theorem det {α : Type} {o : Out α} {R : α} {E : Dn.Env} {S : List D} (h : wp o (fun r e s => r = R ∧ e = E ∧ s = S) nX) : o = .ok R E S := by
  obtain ⟨r, e, s, h1, rfl, rfl, rfl⟩ := wp_of h
  exact h1
theorem in_s1 {c : Nat} {z : Str} : inD (.str ⟨#[c]⟩) (.str z) = some (decide (c ∈ z.cps.toList)) := nrf rfl
theorem raise_app {c : Str} {fl : List Str} {ma : M (List D)} {e : Dn.Env} {s : List D} : raiseM c fl ma e s = M.bind ma (fun ds e s => if ds.length = fl.length then .exn c (fl.zip ds) e s else .stuck) e s := nrf rfl
theorem is_mode_ok {z : Str} (h : Md z) (s : List D) : c_g_is_mode [.str z] s = .ok (.fz (.bl true)) [] s := by
  obtain ⟨h1, h2, h3⟩ := h
  have hl : z.length = z.cps.toList.length := rfl
  refine det (wp_body rfl ?_)
  unfold m_g_is_mode
  have z1 : z.length ≤ 16777216 := by omega
  have z2 : (1 : Int) ≤ (z.length : Int) := by omega
  have z3 : (z.length : Int) ≤ 8 := by omega
  simp only [stpB, seqK, slots, List.replicate, reduceIte, reduceCtorEq, Nat.reduceAdd, Nat.reduceSub, Nat.reduceLT, Nat.reduceLeDiff, z1, z2, z3]
  refine wp_lcP (fun _ => some (.bl true)) (by rw [List.length_map, sizeLine_eq]; omega) (fun d hd acc hacc => ?_) ?_
  · obtain ⟨c, hc, rfl⟩ := List.mem_map.mp hd
    obtain ⟨i, hi, rfl⟩ := h3 c hc
    have hm : ltr i ∈ AZ.cps.toList := by rw [AZ_cps]; exact List.mem_map.mpr ⟨i, List.mem_range.mpr hi, rfl⟩
    rw [sizeLine_eq] at hacc
    simp only [stpB, seqK, slots, List.replicate, reduceIte, reduceCtorEq, Nat.reduceAdd, Nat.reduceSub, Nat.reduceLT, Nat.reduceLeDiff, in_s1, hacc, frzE, wipeE, Option.some.injEq, exists_eq_left', hm]
    rfl
  · have ha : allF [.lst ((z.cps.toList.map fun c => D.str ⟨#[c]⟩).filterMap fun _ => some (.bl true))] = some (.fz (.bl true)) := by
      have e : ((z.cps.toList.map fun c => D.str ⟨#[c]⟩).filterMap fun _ => some (D.bl true)) = (List.replicate z.cps.toList.length true).map D.bl := by
        rw [List.filterMap_map]
        generalize z.cps.toList = l
        induction l with
        | nil => rfl
        | cons a l ih => simp [List.replicate_succ]; simpa using ih
      rw [e]
      show ((blsD _).map _) = _
      rw [blsD_map]
      simp
    simp only [stpB, seqK, slots, List.replicate, reduceIte, reduceCtorEq, Nat.reduceAdd, Nat.reduceSub, Nat.reduceLT, Nat.reduceLeDiff, restE, frzE, wipeE, ha]
theorem kd_in {ks : List Str} {z : Str} {m : Bool} : inD (.str z) (.tup m (ks.map D.str)) = some (decide (z ∈ ks)) := by
  show grd (inOk (.str z) (ks.map D.str)) (inB (.str z) (ks.map D.str)) = _
  have h1 : inOk (.str z) (ks.map D.str) = true := by
    unfold inOk
    have : (ks.map D.str).all flatD = true := by simp [flatD]
    simp [flatD, this]
  rw [h1, grd_t]
  congr 1
  unfold inB
  rw [List.any_map]
  clear h1
  induction ks with
  | nil => rfl
  | cons k ks ih =>
    rw [List.any_cons, ih]
    simp [py, PyData.eqv]
    by_cases hk : k = z
    · simp [hk]
    · simp [hk, Ne.symm hk]
theorem kd_inL {ks : List Str} {z : Str} : inD (.str z) (.lst (ks.map D.str)) = some (decide (z ∈ ks)) := kd_in (m := true)
/-- the modes as given -/
def KsD (ks : List Str) (d : D) : Prop := d = .lst (ks.map .str) ∨ d = .tup true (ks.map .str)
theorem checked_modes_ok {ks : List Str} (hk : Kinds ks) {d : D} (hd : KsD ks d) (s : List D) : c_g_checked_modes [d] s = .ok (.fz (.tup true (ks.map .str))) [] s := by
  have hall : (ks.map D.str).all strD = true := by simp [strD]
  have k1 : (1 : Int) ≤ (ks.length : Int) := by have := hk.pos; omega
  have k2 : (ks.length : Int) ≤ 3 := by have := hk.le; omega
  have hlen : lenF [d] = some (.fz (.int (ks.length : Int))) := by rcases hd with rfl | rfl <;> simp [lenF]
  have henu : enuF [d] = some (enuL (ks.map D.str)) := by rcases hd with rfl | rfl <;> rfl
  have htup : tupleF [d] = some (.fz (.tup true (ks.map .str))) := by
    rcases hd with rfl | rfl
    · show some (Sl.fz (.tup ((ks.map D.str).all strD) _)) = _; rw [hall]
    · rfl
  have hcont : cont s d = some d := by rcases hd with rfl | rfl <;> rfl
  refine det (wp_body rfl ?_)
  unfold m_g_checked_modes
  simp only [stpB, seqK, slots, List.replicate, reduceIte, reduceCtorEq, Nat.reduceAdd, Nat.reduceSub, Nat.reduceLT, Nat.reduceLeDiff, hcont, hlen, k1, k2, henu, Bool.not_true]
  refine wp_for (fun i e s' => s' = s ∧ ∃ x1 x2, e = [.fz d, x1, x2]) ⟨rfl, _, _, rfl⟩ (fun i y e s' hi hj => ?_) fun e s' hj => ?_
  · obtain ⟨rfl, x1, x2, rfl⟩ := hj
    unfold enuL at hi
    rw [List.getElem?_mapIdx] at hi
    cases hki : ks[i]? with
    | none => simp [hki] at hi
    | some k =>
      have hil : i < ks.length := (List.getElem?_eq_some_iff.mp hki).1
      have hy : y = .tup false [.int (i : Int), .str k] := by
        simp [hki] at hi
        exact hi.symm
      subst hy
      have hmk := is_mode_ok (hk.md k (List.mem_of_getElem? hki)) s'
      have hsl : slD d none (some (i : Int)) = some (.ow (.lst ((ks.take i).map .str))) ∨ slD d none (some (i : Int)) = some (.fz (.tup false ((ks.take i).map .str))) := by
        rcases hd with rfl | rfl
        · left
          show some (Sl.ow (.lst (cutD _ _ _))) = _
          unfold cutD
          rw [HT.sIx_nat, HT.sIx_none]
          simp [Nat.min_eq_left (Nat.le_of_lt hil)]
        · right
          show some (Sl.fz (if _ then _ else _)) = _
          rw [HT.sIx_nat, HT.sIx_none, if_neg]
          · unfold cutD
            rw [HT.sIx_nat, HT.sIx_none]
            simp [Nat.min_eq_left (Nat.le_of_lt hil)]
          · simp; omega
      have hni : decide (k ∈ ks.take i) = false := by
        rw [decide_eq_false_iff_not]
        intro hm
        obtain ⟨j, hj, e⟩ := List.getElem_of_mem hm
        have hjl : j < i := by simp at hj; omega
        have hjk : j < ks.length := by omega
        rw [List.getElem_take] at e
        have e2 : ks[i] = k := (List.getElem?_eq_some_iff.mp hki).2
        rw [← e2] at e
        have := (List.getElem_inj hk.nd).mp e
        omega
      unfold l1_g_checked_modes
      rcases hsl with hsl | hsl
      · simp only [stpB, seqK, slots, List.replicate, reduceIte, reduceCtorEq, Nat.reduceAdd, Nat.reduceSub, Nat.reduceLT, Nat.reduceLeDiff, hmk, hcont, hsl, kd_inL, hni, Bool.not_true, Option.some.injEq, exists_eq_left']
        exact ⟨_, _, rfl⟩
      · simp only [stpB, seqK, slots, List.replicate, reduceIte, reduceCtorEq, Nat.reduceAdd, Nat.reduceSub, Nat.reduceLT, Nat.reduceLeDiff, hmk, hcont, hsl, kd_in, hni, Bool.not_true, Option.some.injEq, exists_eq_left']
        exact ⟨_, _, rfl⟩
  · obtain ⟨rfl, x1, x2, rfl⟩ := hj
    simp only [stpB, seqK, slots, List.replicate, reduceIte, reduceCtorEq, Nat.reduceAdd, Nat.reduceSub, Nat.reduceLT, Nat.reduceLeDiff, hcont, htup]
theorem is_move_ok {ks : List Str} {m : Mv} (h : VMv ks m) (s : List D) : c_g_is_move [mvD m, .tup true (ks.map .str)] s = .ok (.fz (.bl true)) [] s := by
  obtain ⟨a, b, r0, r1, c0, c1⟩ := h
  refine det (wp_body rfl ?_)
  unfold m_g_is_move mvD
  simp only [stpB, seqK, slots, List.replicate, reduceIte, reduceCtorEq, Nat.reduceAdd, Nat.reduceSub, Nat.reduceLT, Nat.reduceLeDiff, kd_in, a, b, r0, r1, c0, c1, Bool.not_true, Bool.false_or, Option.some.injEq, exists_eq_left', Int.reduceNeg]
/-- the place of a mode -/
def ixK (ks : List Str) (z : Str) : Nat := ks.idxOf z
end My
end
section
set_option maxHeartbeats 200000
namespace My
open PySem Dn
open L2 (atI ixN Key)
def kyD (ks : List Str) (m : Mv) : D := .tup false [.int (ixK ks m.1 : Int), .int m.2.1, .int m.2.2.1, .int (ixK ks m.2.2.2 : Int)]
theorem ixtF_ok {ks : List Str} {z : Str} (h : z ∈ ks) : ixtF (.tup true (ks.map D.str)) (.str z) = some (.fz (.int (ixK ks z : Int))) := by
  show (match strL (ks.map D.str) with
    | some ys => (ys.findIdx? fun y => decide (y = z)).map fun j => Sl.fz (.int (j : Nat))
    | none => none) = _
  rw [strL_map]
  dsimp only
  have hx : ks.findIdx? (fun y => decide (y = z)) = some (ixK ks z) := by
    unfold ixK List.idxOf
    rw [List.findIdx?_eq_some_iff_findIdx_eq]
    refine ⟨List.idxOf_lt_length_of_mem h, ?_⟩
    congr 1
  rw [hx]; rfl
theorem wp_ixM {xs : List D} {mo : M Pl} {ma : M D} {p : Pl} {e e1 : Dn.Env} {s s1 : List D} {Q : PQ Sl} {X : PX} (h1 : mo e s = .ok p e1 s1) (h2 : rsv p e1 s1 = .ok (.tup true xs) e1 s1) : wp (ixM mo ma e s) Q X = wp (ma e1 s1) (bQ (fun d => M.lift (ixtF (.tup true xs) d)) Q X) X := by
  unfold ixM
  rw [h1]
  dsimp only
  rw [h2]
  dsimp only
  unfold ixtM
  rw [wp_bind, h1, wp_ok, bQ_app, wp_bind, h2, wp_ok, bQ_app, wp_bind]
theorem move_key_ok {ks : List Str} {m : Mv} (h : VMv ks m) (s : List D) : c_g_move_key [mvD m, .tup true (ks.map .str)] s = .ok (.fz (kyD ks m)) [] s := by
  refine det (wp_body rfl ?_)
  unfold m_g_move_key mvD
  simp only [stpB, seqK, slots, List.replicate, reduceIte, reduceCtorEq, Nat.reduceAdd, Nat.reduceSub, Nat.reduceLT, Nat.reduceLeDiff]
  rw [wp_ixM (mo := lkN 1) (p := .s 1) (xs := ks.map .str) (h1 := rfl) (h2 := rfl)]
  simp only [stpB, seqK, slots, List.replicate, reduceIte, reduceCtorEq, Nat.reduceAdd, Nat.reduceSub, Nat.reduceLT, Nat.reduceLeDiff, ixtF_ok h.a, Option.some.injEq, exists_eq_left']
  rw [wp_ixM (mo := lkN 1) (p := .s 1) (xs := ks.map .str) (h1 := rfl) (h2 := rfl)]
  simp only [stpB, seqK, slots, List.replicate, reduceIte, reduceCtorEq, Nat.reduceAdd, Nat.reduceSub, Nat.reduceLT, Nat.reduceLeDiff, ixtF_ok h.b, Option.some.injEq, exists_eq_left', kyD]
def leK (ks : List Str) : Mv → Mv → Bool := PySem.W.dataLe false fun m => py (kyD ks m)
def ins (l : List Mv) (m : Mv) : List Mv := if m ∈ l then l else l ++ [m]
def ddp (ms : List Mv) : List Mv := ms.foldl ins []
def kyL (m : Mv) : List Key := [.inr m.1, .inl m.2.1, .inl m.2.2.1, .inr m.2.2.2]
def kdD (l : List Mv) : D := match l with
  | [] => .dcK []
  | m :: r => .dcT ((m :: r).map fun m => (kyL m, .bl true))
theorem kyL_inj {a b : Mv} (h : kyL a = kyL b) : a = b := by
  obtain ⟨a1, a2, a3, a4⟩ := a
  obtain ⟨b1, b2, b3, b4⟩ := b
  simp [kyL] at h
  simp [h]
theorem put_ky {l : List Mv} {m : Mv} : putD (l.map fun m => (kyL m, D.bl true)) (kyL m) (.bl true) = (ins l m).map fun m => (kyL m, D.bl true) := by
  unfold putD ins
  have h : ((l.map fun m => (kyL m, D.bl true)).any fun kv => decide (kv.1 = kyL m)) = decide (m ∈ l) := by
    rw [List.any_map]
    induction l with
    | nil => rfl
    | cons a l ih =>
      rw [List.any_cons, ih]
      by_cases ha : a = m
      · subst ha; simp
      · have : kyL a ≠ kyL m := fun z => ha (kyL_inj z)
        simp [this, Ne.symm ha]
  rw [h]
  by_cases hm : m ∈ l
  · simp only [hm, decide_true, if_true]
    rw [List.map_map]
    apply List.map_congr_left
    intro a ha
    simp only [Function.comp]
    split
    · rename_i he; simp
    · rfl
  · simp [hm]
theorem kd_set {l : List Mv} {m : Mv} (hl : l.length < 16777216) : setF (kdD l) [mvD m, .bl true] = some (kdD (ins l m), .non) := by
  have hk : keysD (mvD m) = some (kyL m) := rfl
  have hk2 : keyD (mvD m) = none := rfl
  cases l with
  | nil =>
    rfl
  | cons a l =>
    show (match keysD (mvD m) with
      | some ks => grd (decide (((a :: l).map fun m => (kyL m, D.bl true)).length < sizeLine)) (D.dcT (putD ((a :: l).map fun m => (kyL m, D.bl true)) ks (.bl true)), D.non)
      | none => none) = _
    rw [hk]
    dsimp only
    rw [grd_d, if_pos (by rw [List.length_map, sizeLine_eq]; exact hl), put_ky]
    have : ins (a :: l) m ≠ [] := by unfold ins; split <;> simp
    cases hi : ins (a :: l) m with
    | nil => exact absurd hi this
    | cons b r => rfl
theorem kd_len {l : List Mv} : lenF [kdD l] = some (.fz (.int l.length)) := by cases l <;> simp [kdD, lenF]
theorem kd_list {l : List Mv} : listF [kdD l] = some (.ow (.lst (l.map mvD))) := by
  cases l with
  | nil => rfl
  | cons a l =>
    show some (Sl.ow (.lst (((a :: l).map fun m => (kyL m, D.bl true)).map fun kv => keyT kv.1))) = _
    rw [List.map_map]; rfl
theorem kd_cont {l : List Mv} {s : List D} : cont s (kdD l) = some (kdD l) := by cases l <;> rfl
theorem ins_mem {l : List Mv} {m x : Mv} : x ∈ ins l m ↔ x ∈ l ∨ x = m := by
  unfold ins
  split
  · rename_i h
    constructor
    · exact .inl
    · rintro (h' | rfl)
      · exact h'
      · exact h
  · simp
theorem ins_nd {l : List Mv} {m : Mv} (h : l.Nodup) : (ins l m).Nodup := by
  unfold ins
  split
  · exact h
  · rename_i hm
    rw [List.nodup_append]
    exact ⟨h, by simp, fun a ha b hb e => hm (by rw [List.mem_singleton.mp hb] at e; rw [← e]; exact ha)⟩
theorem fold_ins : ∀ (ms l : List Mv), l.Nodup → (ms.foldl ins l).Nodup ∧ (∀ x, x ∈ ms.foldl ins l ↔ x ∈ l ∨ x ∈ ms) ∧ (ms.foldl ins l).length ≤ l.length + ms.length
  | [], l, h => ⟨h, fun x => by simp, by simp⟩
  | m :: ms, l, h => by
    obtain ⟨a, b, c⟩ := fold_ins ms (ins l m) (ins_nd h)
    refine ⟨a, fun x => ?_, ?_⟩
    · rw [List.foldl_cons, b, ins_mem, List.mem_cons, or_assoc]
    · rw [List.foldl_cons]
      have : (ins l m).length ≤ l.length + 1 := by unfold ins; split <;> simp
      simp
      omega
theorem ddp_nd (ms : List Mv) : (ddp ms).Nodup := (fold_ins ms [] (by simp)).1
theorem ddp_mem {ms : List Mv} {x : Mv} : x ∈ ddp ms ↔ x ∈ ms := by
  have := (fold_ins ms [] (by simp)).2.1 x
  unfold ddp
  simpa using this
theorem ddp_len (ms : List Mv) : (ddp ms).length ≤ ms.length := by
  have := (fold_ins ms [] (by simp)).2.2
  unfold ddp
  simpa using this
def bkM (ks : List Str) (ms : List Mv) : List Mv := (ddp ms).mergeSort (leK ks)
def tupM' (xs : List D) : D := .tup (xs.all strD) xs
theorem srt_keys {ks : List Str} (e : Dn.Env) (he : e[1]? = some (.fz (.tup true (ks.map .str)))) : ∀ l : List Mv, (∀ m ∈ l, VMv ks m) → srtKeys [1] 2 e (frzM (callM c_g_move_key (argsV [frzM (rdN 0), frzM (rdN 1)]))) (l.map mvD) = some (l.map (kyD ks))
  | [], _ => rfl
  | m :: l, h => by
    have hn : noC (.tup true (ks.map D.str)) = true := by
      show noCL (ks.map D.str) = true
      clear he h
      induction ks with
      | nil => rfl
      | cons k ks ih => simpa [noCL, noC] using ih
    have h1 : frzM (callM c_g_move_key (argsV [frzM (rdN 0), frzM (rdN 1)])) (lamE [1] 2 e (mvD m)) [] = .ok (kyD ks m) (lamE [1] 2 e (mvD m)) [] := by
      have hl : lamE [1] 2 e (mvD m) = [.fz (mvD m), .fz (.tup true (ks.map .str))] := by
        simp [lamE, capE, capS, he, hn]
      rw [hl]
      refine det ?_
      simp only [stpB, seqK, slots, List.replicate, reduceIte, reduceCtorEq, Nat.reduceAdd, Nat.reduceSub, Nat.reduceLT, Nat.reduceLeDiff]
      rw [move_key_ok (h m List.mem_cons_self)]
      try simp only [stpB, seqK, slots, List.replicate, reduceIte, reduceCtorEq, Nat.reduceAdd, Nat.reduceSub, Nat.reduceLT, Nat.reduceLeDiff]
    show (match frzM (callM c_g_move_key (argsV [frzM (rdN 0), frzM (rdN 1)])) (lamE [1] 2 e (mvD m)) [] with
      | .ok k _ _ => (srtKeys [1] 2 e (frzM (callM c_g_move_key (argsV [frzM (rdN 0), frzM (rdN 1)]))) (l.map mvD)).map (k :: ·)
      | _ => none) = _
    rw [h1]
    dsimp only
    rw [srt_keys e he l fun m hm => h m (List.mem_cons_of_mem _ hm)]
    rfl
theorem key_ok {ks : List Str} (l : List Mv) : keyOk (l.map (kyD ks)) = true := by
  unfold keyOk
  simp only [List.all_map]
  have h1 : ∀ m : Mv, isDt (kyD ks m) = true := fun m => rfl
  have h2 : ∀ a b : Mv, PySem.W.alike (py (kyD ks a)) (py (kyD ks b)) = true := fun a b => rfl
  have h3 : ∀ m : Mv, tupK (py (kyD ks m)) = true := fun m => rfl
  have h4 : ∀ m : Mv, decide ((py (kyD ks m)).depth ≤ 60) = true := fun m => rfl
  simp [Function.comp, h1, h2, h3, h4]
theorem sort_mv {ks : List Str} (l : List Mv) : sortD (l.map mvD) (l.map (kyD ks)) = (l.mergeSort (leK ks)).map mvD := by
  unfold sortD
  have e1 : (l.map mvD).zip (l.map (kyD ks)) = l.map fun m => (mvD m, kyD ks m) := by
    rw [List.zip_map']
  rw [e1, ← List.map_mergeSort (f := fun m => (mvD m, kyD ks m)) (r := leK ks) (s := PySem.W.dataLe false fun b => py b.2) (fun a _ b _ => rfl), List.map_map]
  rfl
theorem nocl_mv (l : List Mv) : noCL (l.map mvD) = true := by
  induction l with
  | nil => rfl
  | cons a l ih => simpa [noCL, noC, mvD] using ih
theorem bkM_mem {ks : List Str} {ms : List Mv} {x : Mv} : x ∈ bkM ks ms ↔ x ∈ ms := by unfold bkM; rw [List.mem_mergeSort]; exact ddp_mem
theorem checked_moves_ok {ks : List Str} {ms : List Mv} (hv : ∀ m ∈ ms, VMv ks m) (hl : ms.length ≤ 8) (s : List D) : c_g_checked_moves [.lst (ms.map mvD), .tup true (ks.map .str)] s = .ok (.fz (tupM' ((bkM ks ms).map mvD))) [] s := by
  refine det (wp_body rfl ?_)
  unfold m_g_checked_moves
  simp only [stpB, seqK, slots, List.replicate, reduceIte, reduceCtorEq, Nat.reduceAdd, Nat.reduceSub, Nat.reduceLT, Nat.reduceLeDiff]
  refine wp_for (fun i e s' => s' = s ∧ i ≤ ms.length ∧ ∃ x3, e = [.fz (.lst (ms.map mvD)), .fz (.tup true (ks.map .str)), .ow (kdD ((ms.take i).foldl ins [])), x3]) ⟨rfl, Nat.zero_le _, _, rfl⟩ (fun i d e s' hi hj => ?_) fun e s' hj => ?_
  · obtain ⟨rfl, hil, x3, rfl⟩ := hj
    rw [List.getElem?_map] at hi
    obtain ⟨m, hm, rfl⟩ := Option.map_eq_some_iff.mp hi
    have hil2 := (List.getElem?_eq_some_iff.mp hm).1
    have hmv := hv m (List.mem_of_getElem? hm)
    unfold l1_g_checked_moves
    have hc : cont s' (mvD m) = some (mvD m) := rfl
    have ht : tupleF [mvD m] = some (.fz (mvD m)) := rfl
    have hlen := (fold_ins (ms.take i) [] (by simp)).2.2
    simp at hlen
    have hs := kd_set (l := (ms.take i).foldl ins []) (m := m) (by omega)
    simp only [stpB, seqK, slots, List.replicate, reduceIte, reduceCtorEq, Nat.reduceAdd, Nat.reduceSub, Nat.reduceLT, Nat.reduceLeDiff]
    rw [is_move_ok hmv]
    simp only [stpB, seqK, slots, List.replicate, reduceIte, reduceCtorEq, Nat.reduceAdd, Nat.reduceSub, Nat.reduceLT, Nat.reduceLeDiff, hc, ht, hs, Bool.not_true]
    rw [show (ms.take (i + 1)).foldl ins [] = ins ((ms.take i).foldl ins []) m by rw [List.take_succ, hm, Option.toList_some, List.foldl_append]; rfl]
    exact ⟨by omega, _, rfl⟩
  · obtain ⟨rfl, hil, x3, rfl⟩ := hj
    rw [List.length_map, List.take_length]
    have hl2 : ¬ (8 : Int) < ((ddp ms).length : Int) := by have := ddp_len ms; omega
    have hd : (ms.foldl ins []) = ddp ms := rfl
    rw [hd]
    simp only [stpB, seqK, slots, List.replicate, reduceIte, reduceCtorEq, Nat.reduceAdd, Nat.reduceSub, Nat.reduceLT, Nat.reduceLeDiff, kd_cont, kd_len, hl2, kd_list]
    have hsr : srtM [1] 2 (frzM (bltM listF (argsL [lkN 2]))) (frzM (callM c_g_move_key (argsV [frzM (rdN 0), frzM (rdN 1)]))) [.fz (.lst (ms.map mvD)), .fz (.tup true (ks.map .str)), .ow (kdD (ddp ms)), x3] s' = .ok (.ow (.lst ((bkM ks ms).map mvD))) [.fz (.lst (ms.map mvD)), .fz (.tup true (ks.map .str)), .ow (kdD (ddp ms)), x3] s' := by
      refine det ?_
      show wp (M.bind _ (srtK [1] 2 _) _ _) _ _
      simp only [stpB, seqK, slots, List.replicate, reduceIte, reduceCtorEq, Nat.reduceAdd, Nat.reduceSub, Nat.reduceLT, Nat.reduceLeDiff, kd_cont, kd_list]
      show wp (if noCL ((ddp ms).map mvD) then match srtKeys [1] 2 [.fz (.lst (ms.map mvD)), .fz (.tup true (ks.map .str)), .ow (kdD (ddp ms)), x3] _ ((ddp ms).map mvD) with
        | some ks => if keyOk ks then _ else _
        | none => _
        else _) _ _
      rw [if_pos (nocl_mv _), srt_keys _ rfl _ fun m hm => hv m (ddp_mem.mp hm)]
      dsimp only
      rw [if_pos (key_ok _), sort_mv]
      exact .ok ⟨rfl, rfl, rfl⟩
    rw [hsr]
    have htt : tupleF [.lst ((bkM ks ms).map mvD)] = some (.fz (tupM' ((bkM ks ms).map mvD))) := rfl
    simp only [stpB, seqK, slots, List.replicate, reduceIte, reduceCtorEq, Nat.reduceAdd, Nat.reduceSub, Nat.reduceLT, Nat.reduceLeDiff, htt]
end My
end
section
set_option maxHeartbeats 200000
namespace My
open PySem Dn
open L2 (atI ixN Key)
theorem init_eq {c : Str} {np : Nat} {N : List Str} {m : M Fw} {ds s s' : List D} {d : D} (hl : ds.length = np) (h : ∀ p, ∃ r, m (slotI p c N ds) s = .ok .nx (.sf p d :: r) s') : initC c np N m ds s = .ok (.ow d) [] s' := by
  refine allP_eq fun p => ?_
  obtain ⟨r, h⟩ := h p
  unfold initP
  rw [if_pos hl, h]
  show (if p = p then _ else _) = _
  rw [if_pos rfl]
theorem fld_some {c f : Str} {fs : Flds} {d : D} (h : naB lst c f = true) (h2 : fs.lookup f = some d) : fldD (naB lst) f (.obj c fs) = some (.fz d) := by
  show (if naB lst c f then (fs.lookup f).map fun d => Sl.fz d else none) = _
  rw [if_pos h, h2]; rfl
theorem sf_some {c f : Str} {fs : Flds} {d : D} (h : naB lst c f = true) (h2 : fs.length < 1000) : sfF (naB lst) f (.obj c fs) [d] = some (.obj c (putFD f d fs), .non) := by
  show (if naB lst c f && decide (fs.length < 1000) then some (D.obj c (putFD f d fs), D.non) else none) = _
  rw [h, decide_eq_true h2]; rfl
def bkO (ks : List Str) (ms : List Mv) : D := .obj "Book" [("modes", .tup true (ks.map .str)), ("moves", tupM' (ms.map mvD))]
theorem na1 : naB lst "Book" "modes" = true := by decide +kernel
theorem na2 : naB lst "Book" "moves" = true := by decide +kernel
theorem bk_modes {ks : List Str} {ms : List Mv} : fldD (naB lst) "modes" (bkO ks ms) = some (.fz (.tup true (ks.map .str))) := fld_some na1 rfl
theorem bk_moves {ks : List Str} {ms : List Mv} : fldD (naB lst) "moves" (bkO ks ms) = some (.fz (tupM' (ms.map mvD))) := fld_some na2 rfl
theorem bk_cont {ks : List Str} {ms : List Mv} {s : List D} : cont s (bkO ks ms) = some (bkO ks ms) := rfl
theorem book_ok {ks : List Str} (hk : Kinds ks) {ms : List Mv} (hv : ∀ m ∈ ms, VMv ks m) (hl : ms.length ≤ 8) {d : D} (hd : KsD ks d) (s : List D) : c_Book_init [.lst (ms.map mvD), d] s = .ok (.ow (bkO ks (bkM ks ms))) [] s := by
  have hc : cont s d = some d := by rcases hd with rfl | rfl <;> rfl
  refine init_eq rfl fun p => ?_
  have key : wp (m_Book_init (slotI p "Book" ["self", "moves", "modes"] [.lst (ms.map mvD), d]) s) (fun f e s' => f = .nx ∧ e = [.sf p (bkO ks (bkM ks ms)), .fz (.lst (ms.map mvD)), .fz d] ∧ s' = s) nX := by
    unfold m_Book_init slotI
    simp only [stpB, seqK, slots, List.replicate, reduceIte, reduceCtorEq, Nat.reduceAdd, Nat.reduceSub, Nat.reduceLT, Nat.reduceLeDiff]
    rw [checked_modes_ok hk hd]
    have s1 := sf_some (fs := []) (d := .tup true (ks.map D.str)) na1 (by decide)
    have f1 := fld_some (c := "Book") (f := "modes") (fs := [("modes", .tup true (ks.map D.str))]) (d := .tup true (ks.map D.str)) na1 rfl
    simp only [stpB, seqK, slots, List.replicate, reduceIte, reduceCtorEq, Nat.reduceAdd, Nat.reduceSub, Nat.reduceLT, Nat.reduceLeDiff, s1, putFD, f1]
    rw [checked_moves_ok hv hl]
    have s2 := sf_some (f := "moves") (fs := [("modes", .tup true (ks.map D.str))]) (d := tupM' ((bkM ks ms).map mvD)) na2 (show 1 < 1000 by decide)
    simp only [stpB, seqK, slots, List.replicate, reduceIte, reduceCtorEq, Nat.reduceAdd, Nat.reduceSub, Nat.reduceLT, Nat.reduceLeDiff, s2, putFD, bkO]
    rfl
  obtain ⟨f, e, s', h1, rfl, rfl, rfl⟩ := wp_of key
  exact ⟨_, h1⟩
structure BkOk (ks : List Str) (ms : List Mv) : Prop where
  k : Kinds ks
  v : ∀ m ∈ ms, VMv ks m
  l : ms.length ≤ 8
theorem BkOk.bk {ks : List Str} {ms : List Mv} (h : BkOk ks ms) : BkOk ks (bkM ks ms) := ⟨h.k, fun m hm => h.v m (bkM_mem.mp hm), by
  unfold bkM
  rw [List.length_mergeSort]
  have := ddp_len ms
  have := h.l
  omega⟩
def trM (m : Mv) : Mv := (m.1, m.2.2.1, m.2.1, m.2.2.2)
theorem VMv.tr {ks : List Str} {m : Mv} (h : VMv ks m) : VMv ks (trM m) := ⟨h.a, h.b, h.c0, h.c1, h.r0, h.r1⟩
theorem BkOk.map {ks : List Str} {ms : List Mv} (h : BkOk ks ms) {f : Mv → Mv} (hf : ∀ m, VMv ks m → VMv ks (f m)) : BkOk ks (ms.map f) := ⟨h.k, fun m hm => by
  obtain ⟨x, hx, rfl⟩ := List.mem_map.mp hm
  exact hf x (h.v x hx), by rw [List.length_map]; exact h.l⟩
/-- a board that is not too large -/
structure Bg (h w : Nat) : Prop where
  hh : h ≤ 2000000
  ww : w ≤ 2000000
  z : h * (w * 3) ≤ 2000000
theorem Bg.of {h w : Nat} (h1 : 1 ≤ h) (w1 : 1 ≤ w) (hz : h * (w * 3) ≤ 2000000) : Bg h w := by
  have e1 : h * 3 ≤ h * (w * 3) := Nat.mul_le_mul_left h (by omega)
  have e2 : 1 * (w * 3) ≤ h * (w * 3) := Nat.mul_le_mul_right _ h1
  exact ⟨by omega, by omega, hz⟩
theorem Bg.mod {h w : Nat} (b : Bg h w) {ks : List Str} (hk : ks.length ≤ 3) {i j : Nat} (hi : i ≤ h) (hj : j ≤ w) : i * (j * ks.length) ≤ 2000000 := Nat.le_trans (Nat.mul_le_mul hi (Nat.mul_le_mul hj hk)) b.z
end My
end
section
set_option maxHeartbeats 200000
namespace My
open PySem Dn
open L2 (atI ixN Key)
theorem stqB : (((type_of% @propM_app) ∧ (type_of% @unOM_app)) ∧ ((type_of% @inOM_app) ∧ ((type_of% @opOM_app) ∧ (type_of% @methM_app)))) ∧ (((type_of% @lenOM_app) ∧ ((type_of% @asgZ_app) ∧ (type_of% @setZ_ow))) ∧ ((type_of% @setZ_fz) ∧ ((type_of% @Option.some.injEq.{0}) ∧ (type_of% @exists_eq_left'.{1})))) := ⟨⟨⟨@propM_app, @unOM_app⟩, ⟨@inOM_app, ⟨@opOM_app, @methM_app⟩⟩⟩, ⟨⟨@lenOM_app, ⟨@asgZ_app, @setZ_ow⟩⟩, ⟨@setZ_fz, ⟨@Option.some.injEq.{0}, @exists_eq_left'.{1}⟩⟩⟩⟩
end My
end
section
set_option maxHeartbeats 200000
namespace My
open PySem Dn
open L2 (atI ixN Key)
/-- what stands in a source: a large number that is used up digit by digit, or the state of a generator -/
def SrcV (d : D) : Prop := ∃ a b : Int, d = .lst [.int a, .int b] ∧ 0 ≤ a ∧ (b = 1 ∨ (b = 0 ∧ a < 2147483647))
def Src (n : Nat) (s : List D) : Prop := ∃ d, s[n]? = some d ∧ SrcV d
section
variable {s : List D} {n : Nat}
theorem cell_ok (ns : List Int) (k : Nat) : ∃ z : Int, c_law_cell [.scr ns, .int (k : Int)] s = .ok (.fz (.int z)) [] s := by
  have key : wp (c_law_cell [.scr ns, .int (k : Int)] s) (fun r e s' => e = [] ∧ s' = s ∧ ∃ z : Int, r = .fz (.int z)) nX := by
    refine wp_body rfl ?_
    unfold m_law_cell
    by_cases h : (k : Int) < (ns.length : Int)
    · simp only [stpB, seqK, slots, List.replicate, reduceIte, reduceCtorEq, Nat.reduceAdd, Nat.reduceSub, Nat.reduceLT, Nat.reduceLeDiff, stqB, h, decide_true]
      exact ⟨ns[k], atI_of (by omega) (by simp), _, rfl⟩
    · simp only [stpB, seqK, slots, List.replicate, reduceIte, reduceCtorEq, Nat.reduceAdd, Nat.reduceSub, Nat.reduceLT, Nat.reduceLeDiff, stqB, h, decide_false]
      exact ⟨_, rfl⟩
  obtain ⟨r, e, s', h1, rfl, rfl, z, rfl⟩ := wp_of key
  exact ⟨z, h1⟩
theorem source_ok (z : Int) : ∃ d, SrcV d ∧ c_law_source [.int z] s = .ok (.ow d) [] s := by
  have p18 : powOk 10 18 = true := by decide
  have e18 : (10 : Int) ^ (18 : Int).toNat = 1000000000000000000 := by decide
  have hm1 : ∀ i j : Int, j.natAbs < 2 ^ 64 → mulOk i j = true := fun i j h => by unfold mulOk; simp [h]
  have key : wp (c_law_source [.int z] s) (fun r e s' => e = [] ∧ s' = s ∧ ∃ d, SrcV d ∧ r = .ow d) nX := by
    refine wp_body rfl ?_
    unfold m_law_source
    by_cases h : (1000000000000000000 : Int) ≤ z
    · simp only [stpB, seqK, slots, List.replicate, reduceIte, reduceCtorEq, Nat.reduceAdd, Nat.reduceSub, Nat.reduceLT, Nat.reduceLeDiff, stqB, p18, e18, h, decide_true]
      exact ⟨_, ⟨z, 1, rfl, by omega, .inl rfl⟩, rfl⟩
    · have hd : divOk 2147483647 = true := by decide
      simp only [stpB, seqK, slots, List.replicate, reduceIte, reduceCtorEq, Nat.reduceAdd, Nat.reduceSub, Nat.reduceLT, Nat.reduceLeDiff, stqB, p18, e18, h, decide_false, hd, hm1 z 45991 (by decide)]
      exact ⟨by decide, _, ⟨_, 0, rfl, Int.emod_nonneg _ (by decide), .inr ⟨rfl, Int.emod_lt_of_pos _ (by decide)⟩⟩, rfl⟩
  obtain ⟨r, e, s', h1, rfl, rfl, d, hd, rfl⟩ := wp_of key
  exact ⟨d, hd, h1⟩
theorem draw_ok {d : D} (z : Int) (hz : 0 < z) (hz2 : z < 2 ^ 200) (hs : s[n]? = some d) (hp : SrcV d) : ∃ v : Int, 0 ≤ v ∧ v < z ∧ ∃ d', SrcV d' ∧ c_law_draw [.cell n, .int z] s = .ok (.fz (.int v)) [] (s.set n d') := by
  obtain ⟨a, b, rfl, ha, hb⟩ := hp
  have hn : n < s.length := (List.getElem?_eq_some_iff.mp hs).1
  have x0 : ixN 2 0 = some 0 := rfl
  have x1 : ixN 2 1 = some 1 := rfl
  have hdv : divOk z = true := by
    unfold divOk
    have : z.natAbs.log2 < 9000 := by
      have : z.natAbs.log2 < 200 := (Nat.log2_lt (by omega)).mpr (by omega)
      omega
    simp [hz, this]
  have hm1 : ∀ i j : Int, j.natAbs < 2 ^ 64 → mulOk i j = true := fun i j h => by unfold mulOk; simp [h]
  have hd : divOk 2147483647 = true := by decide
  have hd2 : divOk 16 = true := by decide
  have key : wp (c_law_draw [.cell n, .int z] s) (fun r e s' => e = [] ∧ ∃ v : Int, 0 ≤ v ∧ v < z ∧ r = .fz (.int v) ∧ ∃ d', SrcV d' ∧ s' = s.set n d') nX := by
    refine wp_body rfl ?_
    unfold m_law_draw
    rcases hb with rfl | ⟨rfl, hb⟩
    · simp only [stpB, seqK, slots, List.replicate, reduceIte, reduceCtorEq, Nat.reduceAdd, Nat.reduceSub, Nat.reduceLT, Nat.reduceLeDiff, stqB, hs, x0, x1, hn, hdv, hz, List.getElem?_set_self hn, List.set_set, List.length_set]
      exact ⟨_, Int.emod_nonneg a (by omega), Int.emod_lt_of_pos a hz, rfl, _, ⟨a / z, 1, rfl, Int.ediv_nonneg ha (by omega), .inl rfl⟩, rfl⟩
    · simp only [stpB, seqK, slots, List.replicate, reduceIte, reduceCtorEq, Nat.reduceAdd, Nat.reduceSub, Nat.reduceLT, Nat.reduceLeDiff, stqB, hs, x0, x1, hn, hdv, hz, hd, hd2, hm1 a 69621 (by decide), List.getElem?_set_self hn, List.set_set, List.length_set]
      have q2 := Int.emod_nonneg (a * 69621 + 49979687) (show (2147483647 : Int) ≠ 0 by decide)
      have q3 := Int.emod_lt_of_pos (a * 69621 + 49979687) (show (0 : Int) < 2147483647 by decide)
      generalize (a * 69621 + 49979687) % 2147483647 = w at q2 q3 ⊢
      have q4 : powOk w 5 = true := by
        unfold powOk
        have : w.natAbs < 2 ^ 128 := by omega
        simp [this]
      simp only [stpB, seqK, slots, List.replicate, reduceIte, reduceCtorEq, Nat.reduceAdd, Nat.reduceSub, Nat.reduceLT, Nat.reduceLeDiff, stqB, q4]
      rw [if_neg (by decide)]
      exact ⟨by decide, by decide, _, Int.emod_nonneg _ (by omega), Int.emod_lt_of_pos _ hz, rfl, _, ⟨w, 0, rfl, q2, .inr ⟨rfl, q3⟩⟩, rfl⟩
  obtain ⟨r, e, s', h1, rfl, v, v1, v2, rfl, d', hd', rfl⟩ := wp_of key
  exact ⟨v, v1, v2, d', hd', h1⟩
theorem wp_draw {z : Int} {Q : PQ Sl} {X : PX} (hp : Src n s) (hz : 0 < z) (hz2 : z < 2 ^ 200) (k : ∀ (v : Nat) s', (v : Int) < z → Src n s' → Sam n s s' → Q (.fz (.int (v : Int))) [] s') : wp (c_law_draw [.cell n, .int z] s) Q X := by
  obtain ⟨d, hs, hp⟩ := hp
  obtain ⟨v, v1, v2, d', hd', h⟩ := draw_ok z hz hz2 hs hp
  rw [h]
  have hn : n < s.length := (List.getElem?_eq_some_iff.mp hs).1
  have := k v.toNat (s.set n d') (by omega) ⟨d', List.getElem?_set_self hn, hd'⟩ ⟨by simp, fun m h => List.getElem?_set_ne (Ne.symm h)⟩
  rw [Int.toNat_of_nonneg v1] at this
  exact .ok this
end
end My
end
section
set_option maxHeartbeats 200000
namespace My
open PySem Dn
open L2 (atI ixN Key)
def VZ (z : Str) : Prop := z.cps.all (· < 0x110000) = true
theorem md_ok {z : Str} (h : Md z) : VZ z := by
  unfold VZ
  rw [← Array.all_toList, List.all_eq_true]
  intro c hc
  obtain ⟨i, hi, rfl⟩ := h.2.2 c hc
  exact decide_eq_true (by unfold ltr; omega)
section
variable {ks : List Str} {ms ns : List Mv} {s : List D}
theorem tmc {ns : List Mv} {s : List D} : cont s (tupM' (ns.map mvD)) = some (tupM' (ns.map mvD)) := rfl
theorem ktc {s : List D} : cont s (.tup true (ks.map .str)) = some (.tup true (ks.map .str)) := rfl
theorem pd_mv {m : Mv} (hk : Kinds ks) (h : VMv ks m) : Pd 1 (mvD m) := by
  unfold mvD
  refine Pd.tup fun x hx => ?_
  simp at hx
  rcases hx with rfl | rfl | rfl | rfl
  · exact .str (md_ok (hk.md _ h.a))
  · exact .int
  · exact .int
  · exact .str (md_ok (hk.md _ h.b))
theorem pd_kst (hk : Kinds ks) : Pd 64 (.tup true (ks.map .str)) := by
  refine (Pd.tup (n := 1) fun x hx => ?_).mono (by decide)
  obtain ⟨k, hk', rfl⟩ := List.mem_map.mp hx
  exact .str (md_ok (hk.md _ hk'))
theorem pd_tms (hb : BkOk ks ms) : Pd 64 (tupM' (ms.map mvD)) := by
  unfold tupM'
  refine (Pd.tup (n := 1) fun x hx => ?_).mono (by decide)
  obtain ⟨m, hm, rfl⟩ := List.mem_map.mp hx
  exact pd_mv hb.k (hb.v m hm)
theorem book_eq_ok (hb : BkOk ks ms) : c_Book_eq [bkO ks ms, bkO ks ms] s = .ok (.fz (.bl true)) [] s := by
  refine det (wp_body rfl ?_)
  unfold m_Book_eq
  have ht : tagD (bkO ks ms) = some (.o "Book") := rfl
  have hk : koT lst "Book" (.o "Book") = some true := by decide +kernel
  simp only [stpB, seqK, slots, List.replicate, reduceIte, reduceCtorEq, Nat.reduceAdd, Nat.reduceSub, Nat.reduceLT, Nat.reduceLeDiff, stqB, bk_cont, bk_modes, bk_moves, tmc, ktc, ht, hk, eq_rf (pd_kst hb.k), eq_rf (pd_tms hb)]
theorem opK_bk {cf : CF} {nf : Str → Str → Bool} {r : Sl} {e : Dn.Env} {s' : List D} (hn : nf "Book" "Book" = true) (h' : cf [bkO ks ms, bkO ks ns] s = .ok r [] s') : opK (oneC "Book" cf) nf (bkO ks ms) (bkO ks ns) e s = .ok r e s' := opK_ok hn h'
theorem nf_bk : nfB lst "Book" "Book" = true := by decide +kernel
end
end My
end
section
set_option maxHeartbeats 200000
namespace My
open PySem Dn
open L2 (atI ixN Key)
def spS : Str := ⟨#[32]⟩
def nlS : Str := ⟨#[10]⟩
theorem sp_is : (" " : Str) = spS := by decide +kernel
theorem nl_is : ("\n" : Str) = nlS := by decide +kernel
theorem tl_app (a b : Str) : (a ++ b).cps.toList = a.cps.toList ++ b.cps.toList := by
  show (a.cps ++ b.cps).toList = _
  simp
theorem ext_tl {a b : Str} (h : a.cps.toList = b.cps.toList) : a = b := Str.ext' (Array.toList_inj.mp h)
theorem j_cons (z a b : Str) (l : List Str) : Str.join z (a :: b :: l) = a ++ z ++ Str.join z (b :: l) := rfl
def Fr0 (c : Nat) (l : List Str) : Prop := ∀ p ∈ l, c ∉ p.cps.toList
theorem cut_eq {c : Nat} {a b r t : List Nat} (ha : c ∉ a) (hb : c ∉ b) (h : a ++ c :: r = b ++ c :: t) : a = b ∧ r = t := by
  induction a generalizing b with
  | nil =>
    cases b with
    | nil => simpa using h
    | cons y b =>
      injection h with h1 _
      exact absurd (h1 ▸ List.mem_cons_self) hb
  | cons x a ih =>
    cases b with
    | nil =>
      injection h with h1 _
      exact absurd (h1 ▸ List.mem_cons_self) ha
    | cons y b =>
      injection h with h1 h2
      obtain ⟨e1, e2⟩ := ih (fun z => ha (List.mem_cons_of_mem _ z)) (fun z => hb (List.mem_cons_of_mem _ z)) h2
      exact ⟨by rw [h1, e1], e2⟩
theorem join_inj {c : Nat} : ∀ {as bs : List Str}, as ≠ [] → bs ≠ [] → Fr0 c as → Fr0 c bs → Str.join ⟨#[c]⟩ as = Str.join ⟨#[c]⟩ bs → as = bs
  | [], _, h, _, _, _, _ => absurd rfl h
  | _, [], _, h, _, _, _ => absurd rfl h
  | [a], [b], _, _, _, _, h => by
    have h : a = b := h
    rw [h]
  | [a], b :: b2 :: bs, _, _, fa, fb, h => by
    have h : a = b ++ ⟨#[c]⟩ ++ Str.join ⟨#[c]⟩ (b2 :: bs) := h
    have := fa a List.mem_cons_self
    rw [h, tl_app, tl_app] at this
    exact absurd (by simp) this
  | a :: a2 :: as, [b], _, _, fa, fb, h => by
    have h : a ++ ⟨#[c]⟩ ++ Str.join ⟨#[c]⟩ (a2 :: as) = b := h
    have := fb b List.mem_cons_self
    rw [← h, tl_app, tl_app] at this
    exact absurd (by simp) this
  | a :: a2 :: as, b :: b2 :: bs, _, _, fa, fb, h => by
    rw [j_cons, j_cons] at h
    have h2 := congrArg (fun z : Str => z.cps.toList) h
    simp only [tl_app] at h2
    rw [List.append_assoc, List.append_assoc] at h2
    obtain ⟨e1, e2⟩ := cut_eq (fa a List.mem_cons_self) (fb b List.mem_cons_self) h2
    have ih := join_inj (as := a2 :: as) (bs := b2 :: bs) (by simp) (by simp) (fun p hp => fa p (List.mem_cons_of_mem _ hp)) (fun p hp => fb p (List.mem_cons_of_mem _ hp)) (ext_tl e2)
    rw [ext_tl e1, ih]
theorem split_join {c : Nat} {l : List Str} (hl : l ≠ []) (hf : Fr0 c l) : Txt.split (Str.join ⟨#[c]⟩ l) ⟨#[c]⟩ = l := by
  have h1 := StrLaws.join_split (Str.join ⟨#[c]⟩ l) ⟨#[c]⟩
  have h2 := StrLaws.split_free (Str.join ⟨#[c]⟩ l) c
  have h3 : Txt.split (Str.join ⟨#[c]⟩ l) ⟨#[c]⟩ ≠ [] := fun z => by
    have := PyProof.Rows.split_pos (Str.join ⟨#[c]⟩ l) ⟨#[c]⟩
    rw [z] at this
    exact absurd this (by decide)
  exact join_inj h3 hl h2 hf h1
theorem tj (z : Str) (l : List Str) : Txt.join z l = Str.join z l := eq_of_beq (PyProof.Rows.join_plain_closes z l)
theorem j_len (z : Str) : ∀ l : List Str, (Str.join z l).length ≤ (l.map (·.length)).sum + l.length * z.length
  | [] => Nat.zero_le _
  | [x] => by
    show x.length ≤ _
    simp
  | x :: y :: l => by
    have ih := j_len z (y :: l)
    rw [j_cons, Str.length_append, Str.length_append, List.map_cons, List.sum_cons, List.length_cons, Nat.add_mul, Nat.one_mul]
    omega
theorem six {i : Int} (h : -6 ≤ i ∧ i ≤ 6) : i = -6 ∨ i = -5 ∨ i = -4 ∨ i = -3 ∨ i = -2 ∨ i = -1 ∨ i = 0 ∨ i = 1 ∨ i = 2 ∨ i = 3 ∨ i = 4 ∨ i = 5 ∨ i = 6 := by omega
theorem sgn_facts {i : Int} (h : -6 ≤ i ∧ i ≤ 6) : (sgnT i).length = 2 ∧ 32 ∉ (sgnT i).cps.toList ∧ 10 ∉ (sgnT i).cps.toList ∧ mvGet md_VALUES (sgnT i) = some i := by
  rcases six h with rfl | rfl | rfl | rfl | rfl | rfl | rfl | rfl | rfl | rfl | rfl | rfl | rfl <;> refine ⟨?_, ?_, ?_, ?_⟩ <;> decide +kernel
section
variable {ks : List Str} {m : Mv} {ns : List Mv}
theorem sum_le {l : List Nat} {b : Nat} (h : ∀ x ∈ l, x ≤ b) : l.sum ≤ l.length * b := by
  induction l with
  | nil => exact Nat.zero_le _
  | cons x l ih =>
    have := h x List.mem_cons_self
    have := ih fun y hy => h y (List.mem_cons_of_mem _ hy)
    rw [List.sum_cons, List.length_cons, Nat.add_mul, Nat.one_mul]
    omega
end
end My
end
section
set_option maxHeartbeats 200000
namespace My
open PySem Dn
open L2 (atI ixN Key)
section
variable {ks : List Str} {ms ns : List Mv} {m : Mv} {s : List D}
theorem sp_len : (" " : Str).length = 1 := by decide +kernel
theorem jn_of {d : D} {z : Str} {l : List Str} (hd : seqS d = some l) (h : (l.map (·.length)).sum + l.length * z.length ≤ 16777216) : jnF (.str z) [d] = some (.fz (.str (Str.join z l))) := by
  unfold jnF
  dsimp only
  rw [hd]
  show grd (decide ((l.map (·.length)).sum + l.length * z.length ≤ 16777216)) (Sl.fz (.str (Txt.join z l))) = _
  rw [decide_eq_true h, tj]
  rfl
theorem jn_lst {z : Str} {l : List Str} (h : (l.map (·.length)).sum + l.length * z.length ≤ 16777216) : jnF (.str z) [.lst (l.map .str)] = some (.fz (.str (Str.join z l))) := jn_of (strL_map l) h
theorem tgR_app {ts : List (D → Dn.M Unit)} {x : D} {xs : List D} {e : Dn.Env} {s : List D} : tgR ts (.lst (x :: xs)) e s = tgs ts [x, .lst xs] e s := nrf rfl
theorem mtX_app {m : Dn.M D} {cs : List (List Pt × Dn.M Fw)} {e : Dn.Env} {s : List D} : mtX m cs e s = Dn.M.bind m (fun d => casX d cs) e s := nrf rfl
theorem casX_hit {d : D} {ps : List Pt} {mm : Dn.M Fw} {cs : List (List Pt × Dn.M Fw)} {bs : List (Nat × D)} {e : Dn.Env} {s : List D} (h : ptX s ps d = some (some bs)) : casX d ((ps, mm) :: cs) e s = mm (bindP bs e) s := by
  show (match ptX s ps d with
    | some (some bs) => mm (bindP bs e) s
    | some none => casX d cs e s
    | none => .stuck) = _
  rw [h]
theorem mvIn_app {qs : List (Str × Int)} {mo : Dn.M Pl} {e : Dn.Env} {s : List D} : mvInM qs mo e s = Dn.M.bind mo (fun p => (rsv p).bind fun y => match y with
  | .str z => Dn.M.ret (.fz (.bl (mvGet qs z).isSome))
  | _ => Dn.M.stuck) e s := nrf rfl
theorem mvIx_app {qs : List (Str × Int)} {mo : Dn.M Pl} {e : Dn.Env} {s : List D} : mvIxM qs mo e s = Dn.M.bind mo (fun p => (rsv p).bind fun y => match y with
  | .str z => match mvGet qs z with
    | some i => Dn.M.ret (.fz (.int i))
    | none => Dn.M.stuck
  | _ => Dn.M.stuck) e s := nrf rfl
end
end My
end
section
set_option maxHeartbeats 200000
namespace My
open PySem Dn
open L2 (atI ixN Key)
def keyM (ks : List Str) (m : Mv) : List Int := [(ixK ks m.1 : Int), m.2.1, m.2.2.1, (ixK ks m.2.2.2 : Int)]
theorem leK_eq {ks : List Str} {a b : Mv} : leK ks a b = decide (keyM ks a ≤ keyM ks b) := by
  show (!PySem.W.dataLt (.tuple ((keyM ks b).map .int)) (.tuple ((keyM ks a).map .int))) = _
  rw [PySem.W.dataLt_tuple]
  show (!PySem.W.rowLt ((keyM ks b).map .int) ((keyM ks a).map .int)) = _
  rw [PySem.W.dataLt_ints]
  by_cases h : keyM ks b < keyM ks a
  · have h' : ¬ keyM ks a ≤ keyM ks b := fun r => List.not_lt.mpr r h
    simp [h, h']
  · have h' : keyM ks a ≤ keyM ks b := List.not_lt.mp h
    simp [h, h']
theorem ixK_get {ks : List Str} {z : Str} (h : z ∈ ks) : ks[ixK ks z]? = some z := by
  unfold ixK
  rw [List.getElem?_eq_getElem (List.idxOf_lt_length_iff.mpr h)]
  exact congrArg some (List.getElem_idxOf (List.idxOf_lt_length_iff.mpr h))
theorem ixK_inj {ks : List Str} {y z : Str} (hy : y ∈ ks) (hz : z ∈ ks) (h : ixK ks y = ixK ks z) : y = z := by
  have h1 := ixK_get hy
  have h2 := ixK_get hz
  rw [h, h2] at h1
  exact (Option.some.inj h1).symm
theorem keyM_inj {ks : List Str} {a b : Mv} (ha : VMv ks a) (hb : VMv ks b) (h : keyM ks a = keyM ks b) : a = b := by
  unfold keyM at h
  simp only [List.cons.injEq, and_true] at h
  obtain ⟨h1, h2, h3, h4⟩ := h
  obtain ⟨a1, a2, a3, a4⟩ := a
  obtain ⟨b1, b2, b3, b4⟩ := b
  have e1 := ixK_inj ha.a hb.a (by omega)
  have e4 := ixK_inj ha.b hb.b (by omega)
  simp only at e1 e4 h2 h3
  subst e1 e4 h2 h3
  rfl
section
variable {ks : List Str} {ms ns : List Mv} {s : List D}
theorem bkM_nd : (bkM ks ms).Nodup := ((List.mergeSort_perm _ _).nodup_iff).mpr (ddp_nd ms)
theorem leK_trans {a b c : Mv} (h1 : leK ks a b = true) (h2 : leK ks b c = true) : leK ks a c = true := by
  rw [leK_eq, decide_eq_true_iff] at *
  exact List.le_trans h1 h2
theorem bkM_srt : (bkM ks ms).Pairwise fun a b => leK ks a b = true := by
  unfold bkM
  refine List.pairwise_mergeSort (fun a b c h1 h2 => ?_) (fun a b => ?_) _
  · rw [leK_eq, decide_eq_true_iff] at *
    exact List.le_trans h1 h2
  · rw [leK_eq, leK_eq, Bool.or_eq_true, decide_eq_true_iff, decide_eq_true_iff]
    exact List.le_total _ _
theorem leK_anti {a b : Mv} (ha : VMv ks a) (hb : VMv ks b) (h1 : leK ks a b = true) (h2 : leK ks b a = true) : a = b := by
  rw [leK_eq, decide_eq_true_iff] at h1 h2
  exact keyM_inj ha hb (List.le_antisymm h1 h2)
theorem bkM_is {S : List Mv} (hv : ∀ m ∈ S, VMv ks m) (n : S.Nodup) (st : S.Pairwise fun a b => leK ks a b = true) (h : ∀ m, m ∈ ms ↔ m ∈ S) : bkM ks ms = S :=
  List.Perm.eq_of_pairwise (le := fun a b => leK ks a b = true) (fun a b ha hb h1 h2 => leK_anti (hv a ((h a).mp (bkM_mem.mp ha))) (hv b hb) h1 h2) bkM_srt st ((List.perm_ext_iff_of_nodup bkM_nd n).mpr fun m => bkM_mem.trans (h m))
end
theorem ixl_ok {ks : List Str} {z : Str} (h : z ∈ ks) : ixlF (.lst (ks.map D.str)) [.str z] = some (.fz (.int (ixK ks z : Int))) := by
  show (if flatD (.str z) && (ks.map D.str).all flatD then (idxN (ks.map D.str) (.str z)).map fun j => Sl.fz (.int (j : Nat)) else none) = _
  have h1 : (ks.map D.str).all flatD = true := by simp [flatD]
  rw [h1, if_pos (show (flatD (.str z) && true) = true from rfl)]
  have hx : idxN (ks.map D.str) (.str z) = some (ixK ks z) := by
    unfold idxN ixK
    rw [List.findIdx?_map, List.findIdx?_eq_some_iff_findIdx_eq]
    refine ⟨List.idxOf_lt_length_of_mem h, ?_⟩
    unfold List.idxOf
    congr 1
  rw [hx]; rfl
theorem wp_ixL {xs : List D} {mo : M Pl} {ma : M D} {p : Pl} {e e1 : Dn.Env} {s s1 : List D} {Q : PQ Sl} {X : PX} (h1 : mo e s = .ok p e1 s1) (h2 : rsv p e1 s1 = .ok (.lst xs) e1 s1) : wp (ixM mo ma e s) Q X = wp (bmM "list" ixlF mo (argsV [ma]) e s) Q X := by
  unfold ixM
  rw [h1]
  dsimp only
  rw [h2]
theorem ix_last {xs : List D} {x : D} (h : xs.getLast? = some x) : ixD (.lst xs) (.int (-1)) = some (.fz x) := by
  obtain ⟨pre, rfl⟩ := List.getLast?_eq_some_iff.mp h
  rw [ix_lst]
  have : atI (pre ++ [x]) (-1) = some x := by
    unfold atI ixN
    simp
    rw [if_pos (by omega), show (-1 + ((pre.length : Int) + 1)).toNat = pre.length by omega]
    simp
  rw [this]; rfl
section
variable {ks : List Str} {ms ns : List Mv} {m : Mv} {s : List D}
theorem key_body (hv : VMv ks m) {e0 : Dn.Env} : wp (m_g_move_key [.fz (mvD m), .fz (.lst (ks.map .str))] s) (bodyQ fun r e s' => r = .fz (kyD ks m) ∧ e = [] ∧ s' = s) (bodyX nX) := by
  unfold m_g_move_key mvD
  simp only [stpB, seqK, slots, List.replicate, reduceIte, reduceCtorEq, Nat.reduceAdd, Nat.reduceSub, Nat.reduceLT, Nat.reduceLeDiff, stqB]
  rw [wp_ixL (mo := lkN 1) (p := .s 1) (xs := ks.map .str) (h1 := rfl) (h2 := rfl)]
  simp only [stpB, seqK, slots, List.replicate, reduceIte, reduceCtorEq, Nat.reduceAdd, Nat.reduceSub, Nat.reduceLT, Nat.reduceLeDiff, stqB, ixl_ok hv.a]
  rw [wp_ixL (mo := lkN 1) (p := .s 1) (xs := ks.map .str) (h1 := rfl) (h2 := rfl)]
  simp only [stpB, seqK, slots, List.replicate, reduceIte, reduceCtorEq, Nat.reduceAdd, Nat.reduceSub, Nat.reduceLT, Nat.reduceLeDiff, stqB, ixl_ok hv.b]
  try rfl
theorem move_keyL_ok (hv : VMv ks m) (s : List D) : c_g_move_key [mvD m, .lst (ks.map .str)] s = .ok (.fz (kyD ks m)) [] s := det (wp_body rfl (key_body (e0 := []) hv))
theorem tle_ky (a b : Mv) : tleD (kyD ks a) (kyD ks b) = some (.fz (.bl (leI (keyM ks a) (keyM ks b)))) := rfl
theorem ky_cont {m : Mv} {s : List D} : cont s (kyD ks m) = some (kyD ks m) := rfl
theorem mv_cont {m : Mv} {s : List D} : cont s (mvD m) = some (mvD m) := rfl
theorem mv_nn {m : Mv} : isNn (mvD m) = false := rfl
end
end My
end
section
set_option maxHeartbeats 200000
namespace My
open PySem Dn
open L2 (atI ixN Key)
section
variable {ks : List Str} {ms ns : List Mv} {m : Mv} {s : List D} {n : Nat}
theorem md_by {z : Str} (h : (decide (1 ≤ z.cps.toList.length) && decide (z.cps.toList.length ≤ 8) && z.cps.toList.all fun c => decide (97 ≤ c) && decide (c < 123)) = true) : Md z := by
  rw [Bool.and_eq_true, Bool.and_eq_true] at h
  obtain ⟨⟨h1, h2⟩, h3⟩ := h
  refine ⟨of_decide_eq_true h1, of_decide_eq_true h2, fun c hc => ?_⟩
  have := List.all_eq_true.mp h3 c hc
  rw [Bool.and_eq_true] at this
  have a := of_decide_eq_true this.1
  have b := of_decide_eq_true this.2
  exact ⟨c - 97, by omega, by unfold ltr; omega⟩
def WsOk (ws : List Str) (i : Nat) : Prop := ws.Nodup ∧ ws.length ≤ i ∧ (0 < i → 1 ≤ ws.length) ∧ ∀ k ∈ ws, Md k
theorem WsOk.add {ws : List Str} {i : Nat} {z : Str} (h : WsOk ws i) (hz : Md z) (hn : z ∉ ws) : WsOk (ws ++ [z]) (i + 1) := by
  obtain ⟨h1, h2, h3, h4⟩ := h
  refine ⟨?_, by simp; omega, fun _ => by simp, fun k hk => ?_⟩
  · rw [List.nodup_append]
    exact ⟨h1, by simp, fun a ha b hb => by rw [List.mem_singleton.mp hb]; exact fun e => hn (e ▸ ha)⟩
  · rcases List.mem_append.mp hk with h | h
    · exact h4 k h
    · rw [List.mem_singleton.mp h]; exact hz
theorem WsOk.same {ws : List Str} {i : Nat} {z : Str} (h : WsOk ws i) (hn : z ∈ ws) : WsOk ws (i + 1) := by
  obtain ⟨h1, h2, h3, h4⟩ := h
  exact ⟨h1, by omega, fun _ => List.length_pos_of_mem hn, h4⟩
end
end My
end
section
set_option maxHeartbeats 200000
namespace My
open PySem Dn
open L2 (atI ixN Key)
section
variable {ks : List Str} {ms ns : List Mv} {m : Mv} {s : List D} {n : Nat}
theorem pd_msn (hk : Kinds ks) (hv : ∀ m ∈ ms, VMv ks m) : Pd 2 (.lst (ms.map mvD)) := Pd.lst fun x hx => by
  obtain ⟨m, hm, rfl⟩ := List.mem_map.mp hx
  exact pd_mv hk (hv m hm)
theorem mv_eqv (a b : Mv) : PyData.eqv (py (mvD a)) (py (mvD b)) = decide (a = b) := by
  obtain ⟨a1, a2, a3, a4⟩ := a
  obtain ⟨b1, b2, b3, b4⟩ := b
  simp [mvD, py, pyL, PyData.eqv, PyData.eqvAll]
  by_cases h1 : a1 = b1 <;> by_cases h2 : a2 = b2 <;> by_cases h3 : a3 = b3 <;> by_cases h4 : a4 = b4 <;> simp [h1, h2, h3, h4]
theorem mv_inB {m : Mv} : inB (mvD m) (ms.map mvD) = decide (m ∈ ms) := by
  unfold inB
  rw [List.any_map]
  induction ms with
  | nil => rfl
  | cons k l ih =>
    rw [List.any_cons, ih]
    simp only [Function.comp]
    rw [mv_eqv]
    by_cases hk : k = m
    · subst hk; simp
    · simp [hk, Ne.symm hk]
theorem mv_inOk {m : Mv} (hk : Kinds ks) (hv : ∀ m ∈ ms, VMv ks m) (hm : VMv ks m) : inOk (mvD m) (ms.map mvD) = true := by
  have p1 := (pd_mv hk hm).mono (show 1 ≤ 64 by decide)
  have p2 := (pd_msn hk hv).mono (show 2 ≤ 64 by decide)
  unfold inOk
  rw [p1.dt, p1.sh, show isDtL (ms.map mvD) = true from p2.dt, show SeqAt.shaped (.list (pyL (ms.map mvD))) = true from p2.sh]
  simp
theorem mv_in {m : Mv} (hk : Kinds ks) (hv : ∀ m ∈ ms, VMv ks m) (hm : VMv ks m) : inD (mvD m) (.lst (ms.map mvD)) = some (decide (m ∈ ms)) := by
  show grd (inOk (mvD m) (ms.map mvD)) (inB (mvD m) (ms.map mvD)) = _
  rw [mv_inOk hk hv hm, grd_t, mv_inB]
theorem mark_ok (hv : VMv ks m) (s : List D) : c_law_mark [mvD m, .lst (ks.map .str)] s = .ok (.fz (kyD ks m)) [] s := det (wp_body rfl (key_body (e0 := []) hv))
abbrev kyX : M D := frzM (callM c_law_mark (argsV [frzM (rdN 0), frzM (rdN 1)]))
theorem kyX_ok {m : Mv} (hv : VMv ks m) : kyX [.fz (mvD m), .fz (.lst (ks.map .str))] s = .ok (kyD ks m) [.fz (mvD m), .fz (.lst (ks.map .str))] s := by
  refine det ?_
  unfold kyX
  simp only [stpB, seqK, slots, List.replicate, reduceIte, reduceCtorEq, Nat.reduceAdd, Nat.reduceSub, Nat.reduceLT, Nat.reduceLeDiff, stqB, mark_ok hv]
theorem noc_ks : noC (.lst (ks.map D.str)) = true := by
  show noCL (ks.map D.str) = true
  induction ks with
  | nil => rfl
  | cons k ks ih => simpa [noCL, noC] using ih
end
end My
end
section
set_option maxHeartbeats 200000
namespace My
open PySem Dn
open L2 (atI ixN Key)
def WdB (z : Str) : Bool := decide (1 ≤ z.cps.toList.length) && (decide (z.cps.toList.length ≤ 8) && z.cps.toList.all fun c => decide (c ∈ AZ.cps.toList))
theorem allF_map {α : Type} (L : List α) (g : α → Bool) : allF [.lst (L.map fun c => D.bl (g c))] = some (.fz (.bl (L.all g))) := by
  have e : (L.map fun c => D.bl (g c)) = (L.map g).map D.bl := by rw [List.map_map]; rfl
  rw [e]
  show ((blsD _).map _) = _
  rw [blsD_map]
  simp
theorem wd_md {z : Str} : WdB z = true ↔ Md z := by
  have az : ∀ c, c ∈ AZ.cps.toList ↔ ∃ j, j < 26 ∧ c = ltr j := fun c => by
    have e : AZ.cps.toList = (List.range 26).map ltr := by decide +kernel
    rw [e, List.mem_map]
    constructor
    · rintro ⟨j, hj, rfl⟩; exact ⟨j, List.mem_range.mp hj, rfl⟩
    · rintro ⟨j, hj, rfl⟩; exact ⟨j, List.mem_range.mpr hj, rfl⟩
  unfold WdB Md
  rw [Bool.and_eq_true, Bool.and_eq_true, decide_eq_true_iff, decide_eq_true_iff, List.all_eq_true]
  refine and_congr_right fun _ => and_congr_right fun _ => ⟨fun h c hc => ?_, fun h c hc => ?_⟩
  · exact (az c).mp (of_decide_eq_true (h c hc))
  · exact decide_eq_true ((az c).mpr (h c hc))
/-- the modes of a first line -/
def pModes (l : Str) : Option (List Str) := match Txt.split l spS with
  | w :: ks => if w = ("modes" : Str) ∧ 1 ≤ ks.length ∧ ks.length ≤ 3 ∧ (∀ i (h : i < ks.length), WdB ks[i] = true ∧ ks[i] ∉ ks.take i) then some ks else none
  | [] => none
/-- the move of a later line -/
def pMove (ks : List Str) (l : Str) : Option Mv := match Txt.split l spS with
  | [a, r, c, b] => if a ∈ ks ∧ b ∈ ks then match mvGet md_VALUES r, mvGet md_VALUES c with
    | some i, some j => some (a, i, j, b)
    | _, _ => none
    else none
  | _ => none
theorem spl_sp {a : Str} (h : a.length ≤ 1000000) : splF (.str a) [.str " "] = some (.ow (.lst ((Txt.split a spS).map .str))) := by
  show grd (!((" " : Str).length == 0) && decide (a.length + 2 ≤ sizeLine)) (Sl.ow (.lst ((Txt.split a " ").map .str))) = _
  rw [sp_len, decide_eq_true (by rw [sizeLine_eq]; omega), sp_is]
  rfl
theorem spl_ln {a : Str} (h : a.length ≤ 1000000) : splF (.str a) [.str "\n"] = some (.ow (.lst ((Txt.split a nlS).map .str))) := by
  have hnl : ("\n" : Str).length = 1 := by decide +kernel
  show grd (!(("\n" : Str).length == 0) && decide (a.length + 2 ≤ sizeLine)) (Sl.ow (.lst ((Txt.split a "\n").map .str))) = _
  rw [hnl, decide_eq_true (by rw [sizeLine_eq]; omega), nl_is]
  rfl
theorem split_ne (a : Str) (c : Nat) : ∃ w r, Txt.split a ⟨#[c]⟩ = w :: r := by
  have := PyProof.Rows.split_pos a ⟨#[c]⟩
  cases h : Txt.split a ⟨#[c]⟩ with
  | nil => rw [h] at this; exact absurd this (by decide)
  | cons w r => exact ⟨w, r, rfl⟩
theorem len_mem : ∀ {z p : Str} {l : List Str}, p ∈ l → p.length ≤ (Str.join z l).length
  | z, p, [x], h => by rw [List.mem_singleton.mp h]; exact Nat.le_refl _
  | z, p, x :: y :: l, h => by
    rw [j_cons, Str.length_append, Str.length_append]
    rcases List.mem_cons.mp h with rfl | h
    · omega
    · have := len_mem (z := z) h
      omega
theorem split_len {a p : Str} {c : Nat} (h : p ∈ Txt.split a ⟨#[c]⟩) : p.length ≤ a.length := by
  have h1 := StrLaws.join_split a ⟨#[c]⟩
  have := len_mem (z := ⟨#[c]⟩) h
  rw [h1] at this
  exact this
section
variable {ks : List Str} {s : List D}
theorem is_mode_gen {z : Str} (hz : z.length ≤ 1000000) : c_g_is_mode [.str z] s = .ok (.fz (.bl (WdB z))) [] s := by
  have hl : z.length = z.cps.toList.length := rfl
  refine det (wp_body rfl ?_)
  unfold m_g_is_mode WdB
  have z1 : z.length ≤ 16777216 := by omega
  by_cases h1 : 1 ≤ z.cps.toList.length
  · by_cases h2 : z.cps.toList.length ≤ 8
    · have z2 : (1 : Int) ≤ (z.length : Int) := by omega
      have z3 : (z.length : Int) ≤ 8 := by omega
      simp only [stpB, seqK, slots, List.replicate, reduceIte, reduceCtorEq, Nat.reduceAdd, Nat.reduceSub, Nat.reduceLT, Nat.reduceLeDiff, stqB, z1, z2, z3]
      refine wp_lcA z.cps.toList (fun c => D.str ⟨#[c]⟩) (fun c => D.bl (decide (c ∈ AZ.cps.toList))) (by omega) (fun c hc acc hacc => ?_) ?_
      · simp only [stpB, seqK, slots, List.replicate, reduceIte, reduceCtorEq, Nat.reduceAdd, Nat.reduceSub, Nat.reduceLT, Nat.reduceLeDiff, stqB, in_s1, hacc, frzE, wipeE]
      · rw [show (z.cps.toList.map fun c => D.bl (decide (c ∈ AZ.cps.toList))) = z.cps.toList.map (fun c => D.bl ((fun c => decide (c ∈ AZ.cps.toList)) c)) from rfl]
        simp only [stpB, seqK, slots, List.replicate, reduceIte, reduceCtorEq, Nat.reduceAdd, Nat.reduceSub, Nat.reduceLT, Nat.reduceLeDiff, stqB, restE, frzE, wipeE, allF_map, h1, h2, decide_true, Bool.true_and]
    · have z2 : (1 : Int) ≤ (z.length : Int) := by omega
      have z3 : ¬ (z.length : Int) ≤ 8 := by omega
      simp only [stpB, seqK, slots, List.replicate, reduceIte, reduceCtorEq, Nat.reduceAdd, Nat.reduceSub, Nat.reduceLT, Nat.reduceLeDiff, stqB, z1, z2, z3, h1, h2, decide_true, decide_false, Bool.true_and, Bool.false_and]
  · have z2 : ¬ (1 : Int) ≤ (z.length : Int) := by omega
    simp only [stpB, seqK, slots, List.replicate, reduceIte, reduceCtorEq, Nat.reduceAdd, Nat.reduceSub, Nat.reduceLT, Nat.reduceLeDiff, stqB, z1, z2, h1, decide_false, Bool.false_and]
theorem law_is_mode_gen {z : Str} (hz : z.length ≤ 1000000) : c_law_is_mode [.str z] s = .ok (.fz (.bl (WdB z))) [] s := by
  have hl : z.length = z.cps.toList.length := rfl
  refine det (wp_body rfl ?_)
  unfold m_law_is_mode
  have z1 : z.length ≤ 16777216 := by omega
  by_cases h1 : 1 ≤ z.cps.toList.length
  · by_cases h2 : z.cps.toList.length ≤ 8
    · have z2 : (1 : Int) ≤ (z.length : Int) := by omega
      have z3 : (z.length : Int) ≤ 8 := by omega
      simp only [stpB, seqK, slots, List.replicate, reduceIte, reduceCtorEq, Nat.reduceAdd, Nat.reduceSub, Nat.reduceLT, Nat.reduceLeDiff, stqB, z1, z2, z3, Bool.not_true, decide_true]
      refine wp_forL z.cps.toList (fun c => D.str ⟨#[c]⟩) (fun i e s' => s = s' ∧ (∀ j y, j < i → z.cps.toList[j]? = some y → y ∈ AZ.cps.toList) ∧ ∃ x1, e = [.fz (.str z), x1]) ⟨rfl, fun j y hj => by omega, _, rfl⟩ (fun i c e s' hi hj => ?_) fun e s' hj => ?_
      · obtain ⟨rfl, hg, x1, rfl⟩ := hj
        unfold l1_law_is_mode
        by_cases hc : c ∈ AZ.cps.toList
        · simp only [stpB, seqK, slots, List.replicate, reduceIte, reduceCtorEq, Nat.reduceAdd, Nat.reduceSub, Nat.reduceLT, Nat.reduceLeDiff, stqB, in_s1, hc, decide_true, Bool.not_true]
          refine ⟨fun j y hj hy => ?_, _, rfl⟩
          rcases Nat.lt_succ_iff_lt_or_eq.mp hj with k | k
          · exact hg j y k hy
          · subst k; rw [hi] at hy; cases hy; exact hc
        · have hw : WdB z = false := by
            unfold WdB
            rw [decide_eq_true h1, decide_eq_true h2, Bool.true_and, Bool.true_and]
            rw [Bool.eq_false_iff]
            intro q
            exact hc (of_decide_eq_true (List.all_eq_true.mp q c (List.mem_of_getElem? hi)))
          simp only [stpB, seqK, slots, List.replicate, reduceIte, reduceCtorEq, Nat.reduceAdd, Nat.reduceSub, Nat.reduceLT, Nat.reduceLeDiff, stqB, in_s1, hc, decide_false, Bool.not_false, hw]
      · obtain ⟨rfl, hg, x1, rfl⟩ := hj
        have hw : WdB z = true := by
          unfold WdB
          rw [decide_eq_true h1, decide_eq_true h2, Bool.true_and, Bool.true_and, List.all_eq_true]
          intro c hc
          obtain ⟨j, hj, e⟩ := List.getElem_of_mem hc
          exact decide_eq_true (hg j c hj (by rw [List.getElem?_eq_getElem hj, e]))
        simp only [stpB, seqK, slots, List.replicate, reduceIte, reduceCtorEq, Nat.reduceAdd, Nat.reduceSub, Nat.reduceLT, Nat.reduceLeDiff, stqB, hw]
    · have z2 : (1 : Int) ≤ (z.length : Int) := by omega
      have z3 : ¬ (z.length : Int) ≤ 8 := by omega
      have hw : WdB z = false := by unfold WdB; rw [decide_eq_false h2, Bool.false_and, Bool.and_false]
      simp only [stpB, seqK, slots, List.replicate, reduceIte, reduceCtorEq, Nat.reduceAdd, Nat.reduceSub, Nat.reduceLT, Nat.reduceLeDiff, stqB, z1, z2, z3, Bool.not_false, decide_true, decide_false, hw]
  · have z2 : ¬ (1 : Int) ≤ (z.length : Int) := by omega
    have hw : WdB z = false := by unfold WdB; rw [decide_eq_false h1, Bool.false_and]
    simp only [stpB, seqK, slots, List.replicate, reduceIte, reduceCtorEq, Nat.reduceAdd, Nat.reduceSub, Nat.reduceLT, Nat.reduceLeDiff, stqB, z1, z2, Bool.not_false, decide_false, hw]
theorem pm_no {l w : Str} {ks : List Str} (h : Txt.split l spS = w :: ks) (hn : ¬ (w = ("modes" : Str) ∧ 1 ≤ ks.length ∧ ks.length ≤ 3 ∧ (∀ i (h : i < ks.length), WdB ks[i] = true ∧ ks[i] ∉ ks.take i))) : pModes l = none := by
  unfold pModes
  rw [h]
  exact if_neg hn
theorem pm_yes {l w : Str} {ks : List Str} (h : Txt.split l spS = w :: ks) (hn : w = ("modes" : Str) ∧ 1 ≤ ks.length ∧ ks.length ≤ 3 ∧ (∀ i (h : i < ks.length), WdB ks[i] = true ∧ ks[i] ∉ ks.take i)) : pModes l = some ks := by
  unfold pModes
  rw [h]
  exact if_pos hn
theorem pm_kinds {l : Str} {ks : List Str} (h : pModes l = some ks) : Kinds ks := by
  unfold pModes at h
  split at h
  · split at h
    · rename_i q
      cases h
      obtain ⟨_, h1, h3, hw⟩ := q
      refine ⟨h1, h3, ?_, fun k hk => ?_⟩
      · rw [List.nodup_iff_pairwise_ne, List.pairwise_iff_getElem]
        intro i j hi hj hij e
        refine (hw j hj).2 ?_
        rw [List.mem_take_iff_getElem]
        exact ⟨i, by omega, e⟩
      · obtain ⟨i, hi, rfl⟩ := List.getElem_of_mem hk
        exact wd_md.mp (hw i hi).1
    · cases h
  · cases h
def mD : Option (List Str) → Sl
  | some ks => .fz (.lst (ks.map .str))
  | none => .fz .non
theorem take_sl {ks : List Str} {i : Nat} (h : i < ks.length) : slD (.lst (ks.map .str)) none (some (i : Int)) = some (.ow (.lst ((ks.take i).map .str))) := by
  show some (Sl.ow (.lst (cutD _ _ _))) = _
  unfold cutD
  rw [HT.sIx_nat, HT.sIx_none]
  simp [Nat.min_eq_left (Nat.le_of_lt h)]
theorem parse_modes_gen {l : Str} (hl : l.length ≤ 1000000) (s : List D) : c_g_parse_modes [.str l] s = .ok (mD (pModes l)) [] s := by
  obtain ⟨w, ks, hw⟩ := split_ne l 32
  have hw : Txt.split l spS = w :: ks := hw
  have hsp := spl_sp hl
  rw [hw, List.map_cons] at hsp
  have henu : enuF [.lst (ks.map .str)] = some (enuL (ks.map D.str)) := rfl
  have hlen : lenF [.lst (ks.map D.str)] = some (.fz (.int (ks.length : Int))) := by simp [lenF]
  refine det (wp_body rfl ?_)
  unfold m_g_parse_modes
  refine wp_seq (fun e s' => s' = s ∧ e = [.fz (.str l), .fz (.str w), .un, .un, .fz (.lst (ks.map .str))]) ?_ fun e s1 ⟨hs, he⟩ => ?_
  · simp only [stpB, seqK, slots, List.replicate, reduceIte, reduceCtorEq, Nat.reduceAdd, Nat.reduceSub, Nat.reduceLT, Nat.reduceLeDiff, stqB, hsp, tgR_app]
  subst hs he
  by_cases h0 : w = ("modes" : Str)
  · have hm0 : decide (w = ("modes" : Str)) = true := decide_eq_true h0
    by_cases k1 : 1 ≤ ks.length
    · have k1' : (1 : Int) ≤ (ks.length : Int) := by omega
      by_cases k3 : ks.length ≤ 3
      · have k3' : (ks.length : Int) ≤ 3 := by omega
        simp only [stpB, seqK, slots, List.replicate, reduceIte, reduceCtorEq, Nat.reduceAdd, Nat.reduceSub, Nat.reduceLT, Nat.reduceLeDiff, stqB, hlen, k1', k3', henu, hm0, decide_true, Bool.not_true, List.length_map]
        refine wp_for (fun i e s' => s' = s1 ∧ (∀ j (h : j < ks.length), j < i → WdB ks[j] = true ∧ ks[j] ∉ ks.take j) ∧ ∃ x2 x3, e = [.fz (.str l), .fz (.str w), x2, x3, .fz (.lst (ks.map .str))]) ⟨rfl, fun j h q => by omega, _, _, rfl⟩ (fun i y e s' hi hj => ?_) fun e s' hj => ?_
        · obtain ⟨rfl, hg, x2, x3, rfl⟩ := hj
          unfold enuL at hi
          rw [List.getElem?_mapIdx] at hi
          cases hki : ks[i]? with
          | none => simp [hki] at hi
          | some k =>
            obtain ⟨hil, hik⟩ := List.getElem?_eq_some_iff.mp hki
            have hy : y = .tup false [.int (i : Int), .str k] := by
              simp [hki] at hi
              exact hi.symm
            subst hy
            have hkl : k.length ≤ 1000000 := by
              have := split_len (a := l) (p := k) (c := 32) (by rw [show Txt.split l ⟨#[32]⟩ = w :: ks from hw]; exact List.mem_cons_of_mem _ (List.mem_of_getElem? hki))
              omega
            have hmk := is_mode_gen (s := s') hkl
            have hsl := take_sl hil
            unfold l1_g_parse_modes
            cases hwd : WdB k with
            | false =>
              have hpm := pm_no hw fun q => by have := (q.2.2.2 i hil).1; rw [hik, hwd] at this; cases this
              rw [hwd] at hmk
              simp only [stpB, seqK, slots, List.replicate, reduceIte, reduceCtorEq, Nat.reduceAdd, Nat.reduceSub, Nat.reduceLT, Nat.reduceLeDiff, stqB, hmk, Bool.not_false, hpm, mD]
            | true =>
              rw [hwd] at hmk
              by_cases hin : k ∈ ks.take i
              · have hpm := pm_no hw fun q => (q.2.2.2 i hil).2 (by rw [hik]; exact hin)
                simp only [stpB, seqK, slots, List.replicate, reduceIte, reduceCtorEq, Nat.reduceAdd, Nat.reduceSub, Nat.reduceLT, Nat.reduceLeDiff, stqB, hmk, Bool.not_true, hsl, kd_inL, hin, decide_true, hpm, mD]
              · simp only [stpB, seqK, slots, List.replicate, reduceIte, reduceCtorEq, Nat.reduceAdd, Nat.reduceSub, Nat.reduceLT, Nat.reduceLeDiff, stqB, hmk, Bool.not_true, hsl, kd_inL, hin, decide_false]
                refine ⟨fun j h q => ?_, _, _, rfl⟩
                rcases Nat.lt_succ_iff_lt_or_eq.mp q with k | k
                · exact hg j h k
                · subst k; rw [hik]; exact ⟨hwd, hin⟩
        · obtain ⟨rfl, hg, x2, x3, rfl⟩ := hj
          have hq : (enuL (ks.map D.str)).length = ks.length := by unfold enuL; simp
          have hpm := pm_yes hw ⟨h0, k1, k3, fun i h => hg i h (by omega)⟩
          simp only [stpB, seqK, slots, List.replicate, reduceIte, reduceCtorEq, Nat.reduceAdd, Nat.reduceSub, Nat.reduceLT, Nat.reduceLeDiff, stqB, hpm, mD]
      · have k3' : ¬ (ks.length : Int) ≤ 3 := by omega
        have hpm := pm_no hw fun q => k3 q.2.2.1
        simp only [stpB, seqK, slots, List.replicate, reduceIte, reduceCtorEq, Nat.reduceAdd, Nat.reduceSub, Nat.reduceLT, Nat.reduceLeDiff, stqB, hlen, k1', k3', hm0, Bool.not_true, decide_false, Bool.not_false, hpm, mD, List.length_map]
    · have k1' : ¬ (1 : Int) ≤ (ks.length : Int) := by omega
      have hpm := pm_no hw fun q => k1 q.2.1
      simp only [stpB, seqK, slots, List.replicate, reduceIte, reduceCtorEq, Nat.reduceAdd, Nat.reduceSub, Nat.reduceLT, Nat.reduceLeDiff, stqB, hlen, k1', hm0, Bool.not_true, Bool.not_false, hpm, mD, List.length_map]
  · have hm0 : decide (w = ("modes" : Str)) = false := decide_eq_false h0
    have hpm := pm_no hw fun q => h0 q.1
    simp only [stpB, seqK, slots, List.replicate, reduceIte, reduceCtorEq, Nat.reduceAdd, Nat.reduceSub, Nat.reduceLT, Nat.reduceLeDiff, stqB, hm0, Bool.not_false, hpm, mD]
end
end My
end
section
set_option maxHeartbeats 200000
namespace My
open PySem Dn
open L2 (atI ixN Key)
section
variable {ks : List Str} {s : List D}
theorem casX_miss {d : D} {ps : List Pt} {mm : Dn.M Fw} {cs : List (List Pt × Dn.M Fw)} {e : Dn.Env} {s : List D} (h : ptX s ps d = some none) : casX d ((ps, mm) :: cs) e s = casX d cs e s := by
  show (match ptX s ps d with
    | some (some bs) => mm (bindP bs e) s
    | some none => casX d cs e s
    | none => .stuck) = _
  rw [h]
theorem casX_end {d : D} {e : Dn.Env} {s : List D} : casX d [] e s = .ok .nx e s := nrf rfl
def vD : Option Mv → Sl
  | some m => .fz (mvD m)
  | none => .fz .non
theorem pv_no {l : Str} {ws : List Str} (h : Txt.split l spS = ws) (hn : ws.length ≠ 4) : pMove ks l = none := by
  unfold pMove
  rw [h]
  match ws, hn with
  | [], _ => rfl
  | [_], _ => rfl
  | [_, _], _ => rfl
  | [_, _, _], _ => rfl
  | [_, _, _, _], h => exact absurd rfl h
  | _ :: _ :: _ :: _ :: _ :: _, _ => rfl
theorem pv_4 {l a r c b : Str} (h : Txt.split l spS = [a, r, c, b]) : pMove ks l = if a ∈ ks ∧ b ∈ ks then match mvGet md_VALUES r, mvGet md_VALUES c with
    | some i, some j => some (a, i, j, b)
    | _, _ => none
    else none := by
  unfold pMove
  rw [h]
  try rfl
theorem md_range : md_VALUES = (List.range 13).map fun j : Nat => (sgnT (-6 + (j : Int)), -6 + (j : Int)) := by decide +kernel
theorem mv_rng {w : Str} {i : Int} (h : mvGet md_VALUES w = some i) : -6 ≤ i ∧ i ≤ 6 := by
  unfold mvGet at h
  obtain ⟨q, hq, rfl⟩ := Option.map_eq_some_iff.mp h
  have := List.mem_of_find?_eq_some hq
  rw [md_range] at this
  obtain ⟨j, hj, rfl⟩ := List.mem_map.mp this
  have := List.mem_range.mp hj
  show -6 ≤ -6 + (j : Int) ∧ -6 + (j : Int) ≤ 6
  omega
theorem pv_vmv {l : Str} {m : Mv} (h : pMove ks l = some m) : VMv ks m := by
  unfold pMove at h
  split at h
  · split at h
    · rename_i hab
      split at h
      · rename_i i j hi hj
        cases h
        have := mv_rng hi
        have := mv_rng hj
        exact ⟨hab.1, hab.2, by show -6 ≤ i; omega, by show i ≤ 6; omega, by show -6 ≤ j; omega, by show j ≤ 6; omega⟩
      · cases h
    · cases h
  · cases h
theorem parse_move_gen {l : Str} (hl : l.length ≤ 1000000) (s : List D) : c_g_parse_move [.str l, .lst (ks.map .str)] s = .ok (vD (pMove ks l)) [] s := by
  have hsp := spl_sp hl
  by_cases h4 : (Txt.split l spS).length = 4
  · obtain ⟨a, r, c, b, hw⟩ : ∃ a r c b, Txt.split l spS = [a, r, c, b] := by
      match hq : Txt.split l spS, h4 with
      | [a, r, c, b], _ => exact ⟨a, r, c, b, rfl⟩
    rw [hw] at hsp
    simp only [List.map_cons, List.map_nil] at hsp
    have hv := pv_4 (ks := ks) hw
    have hpt : ptX s [.cap 2, .cap 3, .cap 4, .cap 5] (.lst [.str a, .str r, .str c, .str b]) = some (some [(2, .str a), (3, .str r), (4, .str c), (5, .str b)]) := rfl
    refine det (wp_body rfl ?_)
    unfold m_g_parse_move
    by_cases ha : a ∈ ks
    · by_cases hb : b ∈ ks
      · cases hr : mvGet md_VALUES r with
        | some i =>
          cases hc : mvGet md_VALUES c with
          | some j =>
            rw [hr, hc, if_pos ⟨ha, hb⟩] at hv
            rw [hv]
            simp only [stpB, seqK, slots, List.replicate, reduceIte, reduceCtorEq, Nat.reduceAdd, Nat.reduceSub, Nat.reduceLT, Nat.reduceLeDiff, stqB, hsp, mtX_app, casX_hit hpt, bindP, kd_inL, ha, hb, mvIn_app, mvIx_app, hr, hc, Option.isSome_some, decide_true]
            rfl
          | none =>
            rw [hr, hc, if_pos ⟨ha, hb⟩] at hv
            rw [hv]
            simp only [stpB, seqK, slots, List.replicate, reduceIte, reduceCtorEq, Nat.reduceAdd, Nat.reduceSub, Nat.reduceLT, Nat.reduceLeDiff, stqB, hsp, mtX_app, casX_hit hpt, bindP, kd_inL, ha, hb, mvIn_app, mvIx_app, hr, hc, Option.isSome_some, Option.isSome_none, decide_true]
            try rfl
        | none =>
          rw [hr, if_pos ⟨ha, hb⟩] at hv
          rw [hv]
          simp only [stpB, seqK, slots, List.replicate, reduceIte, reduceCtorEq, Nat.reduceAdd, Nat.reduceSub, Nat.reduceLT, Nat.reduceLeDiff, stqB, hsp, mtX_app, casX_hit hpt, bindP, kd_inL, ha, hb, mvIn_app, mvIx_app, hr, Option.isSome_none, decide_true]
          try rfl
      · rw [if_neg fun q => hb q.2] at hv
        rw [hv]
        simp only [stpB, seqK, slots, List.replicate, reduceIte, reduceCtorEq, Nat.reduceAdd, Nat.reduceSub, Nat.reduceLT, Nat.reduceLeDiff, stqB, hsp, mtX_app, casX_hit hpt, bindP, kd_inL, ha, hb, decide_true, decide_false]
        try rfl
    · rw [if_neg fun q => ha q.1] at hv
      rw [hv]
      simp only [stpB, seqK, slots, List.replicate, reduceIte, reduceCtorEq, Nat.reduceAdd, Nat.reduceSub, Nat.reduceLT, Nat.reduceLeDiff, stqB, hsp, mtX_app, casX_hit hpt, bindP, kd_inL, ha, decide_false]
      try rfl
  · have hv := pv_no (ks := ks) rfl h4
    have hpt : ptX s [.cap 2, .cap 3, .cap 4, .cap 5] (.lst ((Txt.split l spS).map D.str)) = some none := by
      show (if ((Txt.split l spS).map D.str).length = 4 then _ else _) = _
      rw [if_neg (by rw [List.length_map]; exact h4)]
    rw [hv]
    refine det (wp_body rfl ?_)
    unfold m_g_parse_move
    simp only [stpB, seqK, slots, List.replicate, reduceIte, reduceCtorEq, Nat.reduceAdd, Nat.reduceSub, Nat.reduceLT, Nat.reduceLeDiff, stqB, hsp, mtX_app, casX_miss hpt, casX_end]
    try rfl
theorem law_sign_ok {i : Int} (h : -6 ≤ i ∧ i ≤ 6) (s : List D) : c_law_sign [.int i] s = .ok (.fz (.str (sgnT i))) [] s := by
  rcases six h with rfl | rfl | rfl | rfl | rfl | rfl | rfl | rfl | rfl | rfl | rfl | rfl | rfl <;> kernel_rfl
def iD : Option Int → Sl
  | some i => .fz (.int i)
  | none => .fz .non
theorem law_value_ok (w : Str) (s : List D) : c_law_value [.str w] s = .ok (iD (mvGet md_VALUES w)) [] s := by
  refine det (wp_body rfl ?_)
  unfold m_law_value
  simp only [stpB, seqK, slots, List.replicate, reduceIte, reduceCtorEq, Nat.reduceAdd, Nat.reduceSub, Nat.reduceLT, Nat.reduceLeDiff, stqB, show bnd (-6) = true by decide, show bnd 7 = true by decide]
  rw [show ((7 : Int) - -6).toNat = 13 from rfl]
  refine ⟨rfl, ?_⟩
  refine wp_forR (n := 13) (fun i e s' => s' = s ∧ (∀ j, j < i → sgnT (-6 + (j : Int)) ≠ w) ∧ ∃ x1, e = [.fz (.str w), x1]) ⟨rfl, fun j h => absurd h (Nat.not_lt_zero j), _, rfl⟩ (fun i e s' hi hj => ?_) fun e s' hj => ?_
  · obtain ⟨rfl, hg, x1, rfl⟩ := hj
    have hr : -6 ≤ -6 + (i : Int) ∧ -6 + (i : Int) ≤ 6 := by omega
    unfold l1_law_value
    by_cases hq : sgnT (-6 + (i : Int)) = w
    · have hv : mvGet md_VALUES w = some (-6 + (i : Int)) := by rw [← hq]; exact (sgn_facts hr).2.2.2
      simp only [stpB, seqK, slots, List.replicate, reduceIte, reduceCtorEq, Nat.reduceAdd, Nat.reduceSub, Nat.reduceLT, Nat.reduceLeDiff, stqB, law_sign_ok hr, hq, decide_true, hv, iD]
    · simp only [stpB, seqK, slots, List.replicate, reduceIte, reduceCtorEq, Nat.reduceAdd, Nat.reduceSub, Nat.reduceLT, Nat.reduceLeDiff, stqB, law_sign_ok hr, hq, decide_false]
      refine ⟨fun j h => ?_, _, rfl⟩
      rcases Nat.lt_succ_iff_lt_or_eq.mp h with k | k
      · exact hg j k
      · subst k; exact hq
  · obtain ⟨rfl, hg, x1, rfl⟩ := hj
    have hv : mvGet md_VALUES w = none := by
      unfold mvGet
      rw [Option.map_eq_none_iff, List.find?_eq_none]
      intro q hq
      rw [md_range] at hq
      obtain ⟨j, hj, rfl⟩ := List.mem_map.mp hq
      rw [decide_eq_true_iff]
      exact hg j (List.mem_range.mp hj)
    simp only [stpB, seqK, slots, List.replicate, reduceIte, reduceCtorEq, Nat.reduceAdd, Nat.reduceSub, Nat.reduceLT, Nat.reduceLeDiff, stqB, hv, iD]
theorem law_move_ok {l : Str} (hl : l.length ≤ 1000000) (s : List D) : c_law_move [.str l, .lst (ks.map .str)] s = .ok (vD (pMove ks l)) [] s := by
  have hsp := spl_sp hl
  refine det (wp_body rfl ?_)
  unfold m_law_move
  by_cases h4 : (Txt.split l spS).length = 4
  · obtain ⟨a, r, c, b, hw⟩ : ∃ a r c b, Txt.split l spS = [a, r, c, b] := by
      match hq : Txt.split l spS, h4 with
      | [a, r, c, b], _ => exact ⟨a, r, c, b, rfl⟩
    rw [hw] at hsp
    simp only [List.map_cons, List.map_nil] at hsp
    have hv := pv_4 (ks := ks) hw
    have hlen : lenF [.lst [.str a, .str r, .str c, .str b]] = some (.fz (.int 4)) := rfl
    have hne : cmpD .NotEq (.int 4) (.int 4) = some (.fz (.bl false)) := rfl
    have x0 : atI [D.str a, .str r, .str c, .str b] 0 = some (.str a) := rfl
    have x1 : atI [D.str a, .str r, .str c, .str b] 1 = some (.str r) := rfl
    have x2 : atI [D.str a, .str r, .str c, .str b] 2 = some (.str c) := rfl
    have x3 : atI [D.str a, .str r, .str c, .str b] 3 = some (.str b) := rfl
    by_cases ha : a ∈ ks
    · by_cases hb : b ∈ ks
      · cases hr : mvGet md_VALUES r with
        | some i =>
          cases hc : mvGet md_VALUES c with
          | some j =>
            rw [hr, hc, if_pos ⟨ha, hb⟩] at hv
            rw [hv]
            simp only [stpB, seqK, slots, List.replicate, reduceIte, reduceCtorEq, Nat.reduceAdd, Nat.reduceSub, Nat.reduceLT, Nat.reduceLeDiff, stqB, hsp, List.map_cons, List.map_nil, hlen, hne, x0, x1, x2, x3, kd_inL, ha, hb, decide_true, Bool.not_true, law_value_ok, hr, hc, iD]
            rfl
          | none =>
            rw [hr, hc, if_pos ⟨ha, hb⟩] at hv
            rw [hv]
            simp only [stpB, seqK, slots, List.replicate, reduceIte, reduceCtorEq, Nat.reduceAdd, Nat.reduceSub, Nat.reduceLT, Nat.reduceLeDiff, stqB, hsp, List.map_cons, List.map_nil, hlen, hne, x0, x1, x2, x3, kd_inL, ha, hb, decide_true, Bool.not_true, law_value_ok, hr, hc, iD]
            try rfl
        | none =>
          rw [hr, if_pos ⟨ha, hb⟩] at hv
          rw [hv]
          cases hc : mvGet md_VALUES c <;> simp only [stpB, seqK, slots, List.replicate, reduceIte, reduceCtorEq, Nat.reduceAdd, Nat.reduceSub, Nat.reduceLT, Nat.reduceLeDiff, stqB, hsp, List.map_cons, List.map_nil, hlen, hne, x0, x1, x2, x3, kd_inL, ha, hb, decide_true, Bool.not_true, law_value_ok, hr, hc, iD] <;> try rfl
      · rw [if_neg fun q => hb q.2] at hv
        rw [hv]
        simp only [stpB, seqK, slots, List.replicate, reduceIte, reduceCtorEq, Nat.reduceAdd, Nat.reduceSub, Nat.reduceLT, Nat.reduceLeDiff, stqB, hsp, List.map_cons, List.map_nil, hlen, hne, x0, x1, x2, x3, kd_inL, ha, hb, decide_true, decide_false, Bool.not_true, Bool.not_false]
        try rfl
    · rw [if_neg fun q => ha q.1] at hv
      rw [hv]
      simp only [stpB, seqK, slots, List.replicate, reduceIte, reduceCtorEq, Nat.reduceAdd, Nat.reduceSub, Nat.reduceLT, Nat.reduceLeDiff, stqB, hsp, List.map_cons, List.map_nil, hlen, hne, x0, x1, x2, x3, kd_inL, ha, decide_false, Bool.not_false]
      try rfl
  · have hv := pv_no (ks := ks) rfl h4
    have hlen : lenF [.lst ((Txt.split l spS).map D.str)] = some (.fz (.int ((Txt.split l spS).length : Int))) := by simp [lenF]
    have h4' : ¬ ((Txt.split l spS).length : Int) = 4 := by omega
    rw [hv]
    simp only [stpB, seqK, slots, List.replicate, reduceIte, reduceCtorEq, Nat.reduceAdd, Nat.reduceSub, Nat.reduceLT, Nat.reduceLeDiff, stqB, hsp, hlen, h4', decide_false, Bool.not_false]
    try rfl
end
end My
end
section
set_option maxHeartbeats 200000
namespace My
open PySem Dn
open L2 (atI ixN Key)
def lastLe (ks : List Str) (ns : List Mv) (m : Mv) : Bool := match ns.getLast? with
  | some p => leI (keyM ks m) (keyM ks p)
  | none => false
def runB (ks : List Str) : List Str → Nat → List Mv → Nat ⊕ List Mv
  | [], _, ns => .inr ns
  | l :: ls, i, ns => match pMove ks l with
    | none => .inl (i + 2)
    | some m => if 8 ≤ i ∨ lastLe ks ns m = true then .inl (i + 2) else runB ks ls (i + 1) (ns ++ [m])
def pRes : List Str → Nat ⊕ (List Str × List Mv)
  | h :: os => match pModes h with
    | none => .inl 1
    | some ks => match runB ks os 0 [] with
      | .inl n => .inl n
      | .inr ns => .inr (ks, ns)
  | [] => .inl 0
theorem pRes_none {h : Str} {os : List Str} (e : pModes h = none) : pRes (h :: os) = .inl 1 := by
  show (match pModes h with
    | none => (.inl 1 : Nat ⊕ (List Str × List Mv))
    | some ks => match runB ks os 0 [] with
      | .inl n => .inl n
      | .inr ns => .inr (ks, ns)) = _
  rw [e]
theorem pRes_some {h : Str} {os ks : List Str} (e : pModes h = some ks) : pRes (h :: os) = match runB ks os 0 [] with
      | .inl n => .inl n
      | .inr ns => .inr (ks, ns) := by
  show (match pModes h with
    | none => (.inl 1 : Nat ⊕ (List Str × List Mv))
    | some ks => match runB ks os 0 [] with
      | .inl n => .inl n
      | .inr ns => .inr (ks, ns)) = _
  rw [e]
theorem le_leI : ∀ xs ys : List Int, xs.length = ys.length → xs ≤ ys → leI xs ys = true
  | [], [], _, _ => rfl
  | x :: xs, y :: ys, hl, h => by
    show (if x = y then leI xs ys else decide (x ≤ y)) = true
    rw [List.cons_le_cons_iff] at h
    rcases h with h | ⟨rfl, h⟩
    · rw [if_neg (by omega), decide_eq_true_iff]; omega
    · rw [if_pos rfl]; exact le_leI xs ys (by simpa using hl) h
section
variable {ks : List Str} {ns : List Mv} {s : List D}
def Asc (ks : List Str) (ns : List Mv) : Prop := (∀ m ∈ ns, VMv ks m) ∧ ns.length ≤ 8 ∧ ns.Pairwise fun a b => leK ks a b = true ∧ a ≠ b
theorem Asc.add {m : Mv} (h : Asc ks ns) (hm : VMv ks m) (h8 : ns.length < 8) (hl : lastLe ks ns m = false) : Asc ks (ns ++ [m]) := by
  obtain ⟨h1, h2, h3⟩ := h
  refine ⟨fun x hx => ?_, by rw [List.length_append, List.length_singleton]; omega, ?_⟩
  · rcases List.mem_append.mp hx with q | q
    · exact h1 x q
    · rw [List.mem_singleton.mp q]; exact hm
  · rw [List.pairwise_append]
    refine ⟨h3, List.pairwise_singleton _ _, fun a ha b hb => ?_⟩
    rw [List.mem_singleton.mp hb]
    cases hp : ns.getLast? with
    | none => rw [List.getLast?_eq_none_iff.mp hp] at ha; cases ha
    | some p =>
      unfold lastLe at hl
      rw [hp] at hl
      have hl : leI (keyM ks m) (keyM ks p) = false := hl
      obtain ⟨pre, rfl⟩ := List.getLast?_eq_some_iff.mp hp
      have hno : ¬ keyM ks m ≤ keyM ks p := fun q => by
        rw [le_leI (keyM ks m) (keyM ks p) (by rfl) q] at hl
        cases hl
      have hpm : leK ks p m = true := by
        rw [leK_eq, decide_eq_true_iff]
        exact (List.le_total _ _).resolve_right hno
      have hap : leK ks a p = true := by
        rcases List.mem_append.mp ha with q | q
        · exact ((List.pairwise_append.mp h3).2.2 a q p (List.mem_singleton.mpr rfl)).1
        · rw [List.mem_singleton.mp q, leK_eq, decide_eq_true_iff]; exact List.le_refl _
      refine ⟨leK_trans hap hpm, fun e => ?_⟩
      subst e
      rw [leK_eq, decide_eq_true_iff] at hap
      exact hno hap
theorem Asc.nil : Asc ks [] := ⟨fun _ h => absurd h List.not_mem_nil, by decide, List.Pairwise.nil⟩
theorem Asc.bk (hk : Kinds ks) (h : Asc ks ns) : BkOk ks ns := ⟨hk, h.1, h.2.1⟩
theorem Asc.is (h : Asc ks ns) : bkM ks ns = ns := bkM_is h.1 (by
    rw [List.nodup_iff_pairwise_ne]
    exact h.2.2.imp fun q => q.2) (h.2.2.imp fun q => q.1) fun _ => Iff.rfl
theorem runB_ok : ∀ (ls : List Str) (i : Nat) (ns : List Mv) {r : List Mv}, i = ns.length → Asc ks ns → runB ks ls i ns = .inr r → Asc ks r
  | [], _, ns, r, _, h, e => by cases e; exact h
  | l :: ls, i, ns, r, hi, h, e => by
    unfold runB at e
    cases hm : pMove ks l with
    | none => rw [hm] at e; cases e
    | some m =>
      rw [hm] at e
      dsimp only at e
      split at e
      · cases e
      · rename_i q
        have q1 : i < 8 := Nat.lt_of_not_le fun z => q (.inl z)
        have q2 : lastLe ks ns m = false := by rw [← Bool.not_eq_true]; exact fun z => q (.inr z)
        exact runB_ok ls (i + 1) (ns ++ [m]) (by rw [List.length_append, List.length_singleton, hi]) (h.add (pv_vmv hm) (by omega) q2) e
theorem pRes_ok {L : List Str} (h : pRes L = .inr (ks, ns)) : Kinds ks ∧ Asc ks ns := by
  unfold pRes at h
  split at h
  · rename_i hd os
    cases hp : pModes hd with
    | none => rw [hp] at h; cases h
    | some k2 =>
      rw [hp] at h
      dsimp only at h
      cases hr : runB k2 os 0 [] with
      | inl n => rw [hr] at h; cases h
      | inr r =>
        rw [hr] at h
        cases h
        exact ⟨pm_kinds hp, runB_ok os 0 [] rfl .nil hr⟩
  · cases h
theorem runB_none {l : Str} {ls : List Str} {i : Nat} (h : pMove ks l = none) : runB ks (l :: ls) i ns = .inl (i + 2) := by
  unfold runB; rw [h]
theorem runB_bad {l : Str} {ls : List Str} {i : Nat} {m : Mv} (h : pMove ks l = some m) (q : 8 ≤ i ∨ lastLe ks ns m = true) : runB ks (l :: ls) i ns = .inl (i + 2) := by
  unfold runB; rw [h]; exact if_pos q
theorem runB_go {l : Str} {ls : List Str} {i : Nat} {m : Mv} (h : pMove ks l = some m) (q : i < 8) (q2 : lastLe ks ns m = false) : runB ks (l :: ls) i ns = runB ks ls (i + 1) (ns ++ [m]) := by
  conv => lhs; unfold runB
  rw [h]
  exact if_neg fun z => z.elim (fun z => by omega) fun z => by rw [q2] at z; cases z
theorem parse_book_gen {h : Str} {os : List Str} (hf : Fr0 10 (h :: os)) (hl : (Str.join nlS (h :: os)).length ≤ 1000000) : wp (c_g_parse_book [.str (Str.join nlS (h :: os))] s)
    (fun r e s' => e = [] ∧ s' = s ∧ ∃ ks ns, pRes (h :: os) = .inr (ks, ns) ∧ r = .ow (bkO ks ns))
    (fun c fs e s' => e = [] ∧ s' = s ∧ c = ("InvalidText" : Str) ∧ ∃ n : Nat, pRes (h :: os) = .inl n ∧ fs = [(("line" : Str), D.int (n : Int))]) := by
  have hsplit : Txt.split (Str.join nlS (h :: os)) nlS = h :: os := split_join (by simp) hf
  have hle : ∀ p ∈ h :: os, p.length ≤ 1000000 := fun p hp => Nat.le_trans (len_mem (z := nlS) hp) hl
  have hsp := spl_ln hl
  rw [hsplit, List.map_cons] at hsp
  generalize Str.join nlS (h :: os) = T at hsp ⊢
  refine wp_body rfl ?_
  unfold m_g_parse_book
  refine wp_seq (fun e s' => s' = s ∧ e = [.fz (.str T), .un, .un, .fz (.str h), .un, .un, .un, .fz (.lst (os.map .str))]) ?_ fun e s1 ⟨hs1, he⟩ => ?_
  · simp only [stpB, seqK, slots, List.replicate, reduceIte, reduceCtorEq, Nat.reduceAdd, Nat.reduceSub, Nat.reduceLT, Nat.reduceLeDiff, stqB, hsp, tgR_app]
  subst hs1 he
  have hpm := parse_modes_gen (hle h List.mem_cons_self)
  cases hm : pModes h with
  | none =>
    have hres : pRes (h :: os) = .inl 1 := pRes_none hm
    rw [hm] at hpm
    simp only [stpB, seqK, slots, List.replicate, reduceIte, reduceCtorEq, Nat.reduceAdd, Nat.reduceSub, Nat.reduceLT, Nat.reduceLeDiff, stqB, hpm, mD, raise_app, List.zip_cons_cons, List.zip_nil_left]
    exact ⟨1, hres, rfl⟩
  | some ks =>
    have hk := pm_kinds hm
    rw [hm] at hpm
    refine wp_seq (fun e s' => s' = s1 ∧ e = [.fz (.str T), .fz (.lst (ks.map .str)), .un, .fz (.str h), .un, .un, .un, .fz (.lst (os.map .str))]) ?_ fun e s2 ⟨hs2, he⟩ => ?_
    · simp only [stpB, seqK, slots, List.replicate, reduceIte, reduceCtorEq, Nat.reduceAdd, Nat.reduceSub, Nat.reduceLT, Nat.reduceLeDiff, stqB, hpm, mD]
    subst hs2 he
    have lnn : isNn (.lst (ks.map D.str)) = false := rfl
    refine wp_seq (fun e s' => s' = s2 ∧ e = [.fz (.str T), .fz (.lst (ks.map .str)), .un, .fz (.str h), .un, .un, .un, .fz (.lst (os.map .str))]) ?_ fun e s3 ⟨hs3, he⟩ => ?_
    · simp only [stpB, seqK, slots, List.replicate, reduceIte, reduceCtorEq, Nat.reduceAdd, Nat.reduceSub, Nat.reduceLT, Nat.reduceLeDiff, stqB, lnn]
    subst hs3 he
    refine wp_seq (fun e s' => s' = s3 ∧ e = [.fz (.str T), .fz (.lst (ks.map .str)), .ow (.lst []), .fz (.str h), .un, .un, .un, .fz (.lst (os.map .str))]) ?_ fun e s4 ⟨hs4, he⟩ => ?_
    · simp only [stpB, seqK, slots, List.replicate, reduceIte, reduceCtorEq, Nat.reduceAdd, Nat.reduceSub, Nat.reduceLT, Nat.reduceLeDiff, stqB]
    subst hs4 he
    have hres : ∀ {n : Nat}, runB ks os 0 [] = .inl n → pRes (h :: os) = .inl n := fun {n} q => by rw [pRes_some hm, q]
    refine wp_seq (fun e s' => s' = s4 ∧ ∃ ns x4 x5 x6, runB ks os 0 [] = .inr ns ∧ e = [.fz (.str T), .fz (.lst (ks.map .str)), .ow (.lst (ns.map mvD)), .fz (.str h), x4, x5, x6, .fz (.lst (os.map .str))]) ?_ fun e s5 ⟨hs5, ns, x4, x5, x6, hns, he⟩ => ?_
    · have henu : enuF [.lst (os.map D.str)] = some (enuL (os.map D.str)) := rfl
      simp only [stpB, seqK, slots, List.replicate, reduceIte, reduceCtorEq, Nat.reduceAdd, Nat.reduceSub, Nat.reduceLT, Nat.reduceLeDiff, stqB, henu]
      refine wp_for (fun i e s' => s' = s4 ∧ ∃ ns x4 x5 x6, ns.length = i ∧ i ≤ 8 ∧ (∀ m ∈ ns, VMv ks m) ∧ runB ks os 0 [] = runB ks (os.drop i) i ns ∧ e = [.fz (.str T), .fz (.lst (ks.map .str)), .ow (.lst (ns.map mvD)), .fz (.str h), x4, x5, x6, .fz (.lst (os.map .str))]) ⟨rfl, [], _, _, _, rfl, by decide, fun m h => absurd h List.not_mem_nil, rfl, rfl⟩ (fun i y e s' hi hj => ?_) fun e s' hj => ?_
      · obtain ⟨rfl, ns, x4, x5, x6, hnl, hi8, hv, hrun, rfl⟩ := hj
        unfold enuL at hi
        rw [List.getElem?_mapIdx] at hi
        cases hmi : os[i]? with
        | none => simp [hmi] at hi
        | some l =>
          obtain ⟨hil, him⟩ := List.getElem?_eq_some_iff.mp hmi
          have hy : y = .tup false [.int (i : Int), .str l] := by
            simp [hmi] at hi
            exact hi.symm
          subst hy
          have hdr : os.drop i = l :: os.drop (i + 1) := by rw [List.drop_eq_getElem_cons hil, him]
          rw [hdr] at hrun
          have hpv := parse_move_gen (ks := ks) (hle l (List.mem_cons_of_mem _ (List.mem_of_getElem? hmi)))
          have e2 : (i : Int) + 2 = ((i + 2 : Nat) : Int) := by omega
          unfold l1_g_parse_book
          cases hmv : pMove ks l with
          | none =>
            rw [hmv] at hpv
            rw [runB_none hmv] at hrun
            simp only [stpB, seqK, slots, List.replicate, reduceIte, reduceCtorEq, Nat.reduceAdd, Nat.reduceSub, Nat.reduceLT, Nat.reduceLeDiff, stqB, hpv, vD, raise_app, List.zip_cons_cons, List.zip_nil_left]
            exact ⟨_, hres hrun, by rw [← e2]⟩
          | some m =>
            have hvm := pv_vmv hmv
            rw [hmv] at hpv
            by_cases g8 : 8 ≤ i
            · have g8' : ((8 : Int) ≤ (i : Int)) = True := eq_true (by omega)
              rw [runB_bad hmv (.inl g8)] at hrun
              simp only [stpB, seqK, slots, List.replicate, reduceIte, reduceCtorEq, Nat.reduceAdd, Nat.reduceSub, Nat.reduceLT, Nat.reduceLeDiff, stqB, hpv, vD, mv_cont, mv_nn, g8', decide_true, raise_app, List.zip_cons_cons, List.zip_nil_left]
              exact ⟨_, hres hrun, by rw [← e2]⟩
            · have g8' : ((8 : Int) ≤ (i : Int)) = False := eq_false (by omega)
              have htl : ns.length < 16777216 := by omega
              cases hp : ns.getLast? with
              | none =>
                have hn0 := List.getLast?_eq_none_iff.mp hp
                have hll : lastLe ks ns m = false := by unfold lastLe; rw [hp]
                rw [runB_go hmv (by omega) hll] at hrun
                subst hn0
                simp only [stpB, seqK, slots, List.replicate, reduceIte, reduceCtorEq, Nat.reduceAdd, Nat.reduceSub, Nat.reduceLT, Nat.reduceLeDiff, stqB, hpv, vD, mv_cont, mv_nn, g8', decide_false, List.map_nil, List.isEmpty_nil, Bool.not_true]
                refine ⟨[m], _, _, _, by rw [List.length_singleton]; rw [List.length_nil] at hnl; omega, by omega, fun x hx => by rw [List.mem_singleton.mp hx]; exact hvm, hrun, rfl⟩
              | some p =>
                obtain ⟨pre, hpre⟩ := List.getLast?_eq_some_iff.mp hp
                have hl2 : (ns.map mvD).getLast? = some (mvD p) := by rw [hpre, List.map_append, List.map_singleton, List.getLast?_concat]
                have hne : (ns.map mvD).isEmpty = false := by rw [hpre]; simp
                have hil' := ix_last hl2
                have hvp := hv p (by rw [hpre]; simp)
                have ht := tle_ky (ks := ks) m p
                have hlle : lastLe ks ns m = leI (keyM ks m) (keyM ks p) := by unfold lastLe; rw [hp]
                cases hle2 : leI (keyM ks m) (keyM ks p) with
                | true =>
                  rw [runB_bad hmv (.inr (hlle.trans hle2))] at hrun
                  rw [hle2] at ht
                  simp only [stpB, seqK, slots, List.replicate, reduceIte, reduceCtorEq, Nat.reduceAdd, Nat.reduceSub, Nat.reduceLT, Nat.reduceLeDiff, stqB, hpv, vD, mv_cont, mv_nn, g8', decide_false, hne, Bool.not_false, move_keyL_ok hvm, hil', move_keyL_ok hvp, ky_cont, ht, raise_app, List.zip_cons_cons, List.zip_nil_left]
                  exact ⟨_, hres hrun, by rw [← e2]⟩
                | false =>
                  rw [runB_go hmv (by omega) (hlle.trans hle2)] at hrun
                  rw [hle2] at ht
                  simp only [stpB, seqK, slots, List.replicate, reduceIte, reduceCtorEq, Nat.reduceAdd, Nat.reduceSub, Nat.reduceLT, Nat.reduceLeDiff, stqB, hpv, vD, mv_cont, mv_nn, g8', decide_false, hne, Bool.not_false, Bool.not_true, move_keyL_ok hvm, hil', move_keyL_ok hvp, ky_cont, ht, List.length_map, htl]
                  refine ⟨ns ++ [m], _, _, _, by rw [List.length_append, List.length_singleton]; omega, by omega, fun x hx => ?_, hrun, by rw [List.map_append]; rfl⟩
                  rcases List.mem_append.mp hx with q | q
                  · exact hv x q
                  · rw [List.mem_singleton.mp q]; exact hvm
      · obtain ⟨rfl, ns, x4, x5, x6, hnl, hi8, hv, hrun, rfl⟩ := hj
        have hq : (enuL (os.map D.str)).length = os.length := by unfold enuL; simp
        rw [hq, List.drop_length] at hrun
        exact ⟨rfl, rfl, ns, _, _, _, hrun, rfl⟩
    subst hs5 he
    have hasc := runB_ok os 0 [] rfl .nil hns
    have hfl : ∀ d d' : D, filA 1 1 [d] [d'] = some [d, d'] := fun _ _ => rfl
    have hbk := book_ok hk hasc.1 hasc.2.1 (.inl rfl) s5
    rw [hasc.is] at hbk
    have hrs : pRes (h :: os) = .inr (ks, ns) := by rw [pRes_some hm, hns]
    simp only [stpB, seqK, slots, List.replicate, reduceIte, reduceCtorEq, Nat.reduceAdd, Nat.reduceSub, Nat.reduceLT, Nat.reduceLeDiff, stqB, hfl, hbk]
    exact ⟨ks, ns, hrs, rfl⟩
end
end My
end
section
set_option maxHeartbeats 200000
namespace My
open PySem Dn
open L2 (atI ixN Key)
section
variable {ks : List Str} {ns : List Mv} {s : List D}
def mL : Option (List Str) → List D
  | some ks => ks.map .str
  | none => []
theorem sl_mid {x : D} {xs : List D} {i : Nat} (h : i ≤ xs.length) : slD (.lst (x :: xs)) (some 1) (some (1 + (i : Int))) = some (.ow (.lst (xs.take i))) := by
  show some (Sl.ow (.lst (cutD _ _ _))) = _
  unfold cutD
  rw [show (1 : Int) + (i : Int) = ((i + 1 : Nat) : Int) by omega, show (1 : Int) = ((1 : Nat) : Int) from rfl, HT.sIx_nat, HT.sIx_nat]
  simp
theorem cut_tl {x : D} {xs : List D} : cutD (x :: xs) (some 1) none = xs := by
  unfold cutD
  rw [show (1 : Int) = ((1 : Nat) : Int) from rfl, HT.sIx_nat, HT.sIx_none]
  simp
theorem at_tl {x : D} {xs : List D} {i : Nat} : atI (x :: xs) (1 + (i : Int)) = xs[i]? := by
  rw [show (1 : Int) + (i : Int) = ((i + 1 : Nat) : Int) by omega, atI_nat, List.getElem?_cons_succ]
theorem law_modes_ok {l : Str} (hl : l.length ≤ 1000000) (s : List D) : c_law_modes [.str l] s = .ok (.ow (.lst (mL (pModes l)))) [] s := by
  obtain ⟨w, ks, hw⟩ := split_ne l 32
  have hw : Txt.split l spS = w :: ks := hw
  have hsp := spl_sp hl
  rw [hw, List.map_cons] at hsp
  have hlen : lenF [.lst (D.str w :: ks.map D.str)] = some (.fz (.int ((ks.length : Int) + 1))) := by simp [lenF]
  have x0 : atI (D.str w :: ks.map D.str) 0 = some (.str w) := atI0
  refine det (wp_body rfl ?_)
  unfold m_law_modes
  refine wp_seq (fun e s' => s' = s ∧ e = [.fz (.str l), .fz (.lst (D.str w :: ks.map .str)), .un]) ?_ fun e s1 ⟨hs, he⟩ => ?_
  · simp only [stpB, seqK, slots, List.replicate, reduceIte, reduceCtorEq, Nat.reduceAdd, Nat.reduceSub, Nat.reduceLT, Nat.reduceLeDiff, stqB, hsp]
  subst hs he
  by_cases h0 : w = ("modes" : Str)
  · have hm0 : decide (w = ("modes" : Str)) = true := decide_eq_true h0
    by_cases k1 : 1 ≤ ks.length
    · have k1' : (2 : Int) ≤ (ks.length : Int) + 1 := by omega
      by_cases k3 : ks.length ≤ 3
      · have k3' : (ks.length : Int) + 1 ≤ 4 := by omega
        simp only [stpB, seqK, slots, List.replicate, reduceIte, reduceCtorEq, Nat.reduceAdd, Nat.reduceSub, Nat.reduceLT, Nat.reduceLeDiff, stqB, hlen, x0, k1', k3', hm0, decide_true, Bool.not_true, bnd_of (i := (ks.length : Int) + 1) (by omega) (by omega), show bnd 1 = true by decide]
        rw [show ((ks.length : Int) + 1 - 1).toNat = ks.length by omega]
        refine ⟨rfl, ?_⟩
        refine wp_forR (n := ks.length) (fun i e s' => s' = s1 ∧ (∀ j (h : j < ks.length), j < i → WdB ks[j] = true ∧ ks[j] ∉ ks.take j) ∧ ∃ x2, e = [.fz (.str l), .fz (.lst (D.str w :: ks.map .str)), x2]) ⟨rfl, fun j h q => by omega, _, rfl⟩ (fun i e s' hil hj => ?_) fun e s' hj => ?_
        · obtain ⟨rfl, hg, x2, rfl⟩ := hj
          have hki : ks[i]? = some ks[i] := List.getElem?_eq_getElem hil
          obtain ⟨k, hik⟩ : ∃ k, ks[i] = k := ⟨_, rfl⟩
          rw [hik] at hki
          have hat : atI (D.str w :: ks.map D.str) (1 + (i : Int)) = some (.str k) := by rw [at_tl, List.getElem?_map, hki]; rfl
          have hkl : k.length ≤ 1000000 := by
            have := split_len (a := l) (p := k) (c := 32) (by rw [show Txt.split l ⟨#[32]⟩ = w :: ks from hw]; exact List.mem_cons_of_mem _ (List.mem_of_getElem? hki))
            omega
          have hmk := law_is_mode_gen (s := s') hkl
          have hsl : slD (.lst (D.str w :: ks.map D.str)) (some 1) (some (1 + (i : Int))) = some (.ow (.lst ((ks.take i).map .str))) := by
            rw [sl_mid (by rw [List.length_map]; omega), List.map_take]
          unfold l1_law_modes
          cases hwd : WdB k with
          | false =>
            have hpm := pm_no hw fun q => by have := (q.2.2.2 i hil).1; rw [hik, hwd] at this; cases this
            rw [hwd] at hmk
            simp only [stpB, seqK, slots, List.replicate, reduceIte, reduceCtorEq, Nat.reduceAdd, Nat.reduceSub, Nat.reduceLT, Nat.reduceLeDiff, stqB, hat, hmk, Bool.not_false, hpm, mL]
          | true =>
            rw [hwd] at hmk
            by_cases hin : k ∈ ks.take i
            · have hpm := pm_no hw fun q => (q.2.2.2 i hil).2 (by rw [hik]; exact hin)
              simp only [stpB, seqK, slots, List.replicate, reduceIte, reduceCtorEq, Nat.reduceAdd, Nat.reduceSub, Nat.reduceLT, Nat.reduceLeDiff, stqB, hat, hmk, Bool.not_true, hsl, kd_inL, hin, decide_true, hpm, mL]
            · simp only [stpB, seqK, slots, List.replicate, reduceIte, reduceCtorEq, Nat.reduceAdd, Nat.reduceSub, Nat.reduceLT, Nat.reduceLeDiff, stqB, hat, hmk, Bool.not_true, hsl, kd_inL, hin, decide_false]
              refine ⟨fun j h q => ?_, _, rfl⟩
              rcases Nat.lt_succ_iff_lt_or_eq.mp q with k | k
              · exact hg j h k
              · subst k; rw [hik]; exact ⟨hwd, hin⟩
        · obtain ⟨rfl, hg, x2, rfl⟩ := hj
          have hpm := pm_yes hw ⟨h0, k1, k3, fun i h => hg i h h⟩
          simp only [stpB, seqK, slots, List.replicate, reduceIte, reduceCtorEq, Nat.reduceAdd, Nat.reduceSub, Nat.reduceLT, Nat.reduceLeDiff, stqB, hpm, mL, cut_tl]
      · have k3' : ¬ (ks.length : Int) + 1 ≤ 4 := by omega
        have hpm := pm_no hw fun q => k3 q.2.2.1
        simp only [stpB, seqK, slots, List.replicate, reduceIte, reduceCtorEq, Nat.reduceAdd, Nat.reduceSub, Nat.reduceLT, Nat.reduceLeDiff, stqB, hlen, x0, k1', k3', hm0, Bool.not_true, decide_false, Bool.not_false, hpm, mL]
    · have k1' : ¬ (2 : Int) ≤ (ks.length : Int) + 1 := by omega
      have hpm := pm_no hw fun q => k1 q.2.1
      simp only [stpB, seqK, slots, List.replicate, reduceIte, reduceCtorEq, Nat.reduceAdd, Nat.reduceSub, Nat.reduceLT, Nat.reduceLeDiff, stqB, hlen, x0, k1', hm0, Bool.not_true, Bool.not_false, hpm, mL]
  · have hm0 : decide (w = ("modes" : Str)) = false := decide_eq_false h0
    have hpm := pm_no hw fun q => h0 q.1
    simp only [stpB, seqK, slots, List.replicate, reduceIte, reduceCtorEq, Nat.reduceAdd, Nat.reduceSub, Nat.reduceLT, Nat.reduceLeDiff, stqB, hm0, x0, Bool.not_false, hpm, mL]
theorem eq_of {a b : D} (ha : Pd 64 a) (hb : Pd 64 b) : cmpD .Eq a b = some (.fz (.bl (PyData.eqv (py a) (py b)))) := by
  show (grd (eqOk a b) (PyData.eqv (py a) (py b))).map (fun r => Sl.fz (.bl r)) = _
  rw [eqOk_pd ha hb]; rfl
theorem pd_nil : Pd 64 (.lst []) := (Pd.lst (n := 0) fun x hx => absurd hx List.not_mem_nil).mono (by decide)
theorem eq_nil_ks (hk : Kinds ks) : cmpD .Eq (.lst (ks.map .str)) (.lst []) = some (.fz (.bl false)) := by
  have h1 : Pd 64 (.lst (ks.map .str)) := (Pd.lst (n := 0) fun x hx => by
    obtain ⟨k, hk', rfl⟩ := List.mem_map.mp hx
    exact .str (md_ok (hk.md k hk'))).mono (by decide)
  have hp := hk.pos
  cases ks with
  | nil => simp at hp
  | cons k l => rw [eq_of h1 pd_nil]; rfl
theorem eq_nil0 : cmpD .Eq (.lst []) (.lst []) = some (.fz (.bl true)) := eq_rf pd_nil
def dueL : Nat ⊕ (List Str × List Mv) → List D
  | .inl n => [.int (n : Int)]
  | .inr (ks, ns) => [.lst (ks.map .str), .lst (ns.map mvD)]
theorem law_due_ok {h : Str} {os : List Str} (hle : ∀ p ∈ h :: os, p.length ≤ 1000000) (ho : os.length ≤ 1000) (s : List D) : c_law_due [.lst ((h :: os).map .str)] s = .ok (.ow (.lst (dueL (pRes (h :: os))))) [] s := by
  have hlm := law_modes_ok (hle h List.mem_cons_self)
  have x0 : atI (D.str h :: os.map D.str) 0 = some (.str h) := atI0
  have hlen : lenF [.lst (D.str h :: os.map D.str)] = some (.fz (.int ((os.length : Int) + 1))) := by simp [lenF]
  rw [List.map_cons]
  refine det (wp_body rfl ?_)
  unfold m_law_due
  cases hm : pModes h with
  | none =>
    rw [hm] at hlm
    rw [pRes_none hm]
    simp only [stpB, seqK, slots, List.replicate, reduceIte, reduceCtorEq, Nat.reduceAdd, Nat.reduceSub, Nat.reduceLT, Nat.reduceLeDiff, stqB, x0, hlm, mL, eq_nil0, dueL]
    rfl
  | some ks =>
    have hk := pm_kinds hm
    rw [hm] at hlm
    have hres : ∀ {n : Nat}, runB ks os 0 [] = .inl n → pRes (h :: os) = .inl n := fun {n} q => by rw [pRes_some hm, q]
    refine wp_seq (fun e s' => s' = s ∧ e = [.fz (.lst (D.str h :: os.map .str)), .fz (.lst (ks.map .str)), .un, .un, .un]) ?_ fun e s1 ⟨hs, he⟩ => ?_
    · simp only [stpB, seqK, slots, List.replicate, reduceIte, reduceCtorEq, Nat.reduceAdd, Nat.reduceSub, Nat.reduceLT, Nat.reduceLeDiff, stqB, x0, hlm, mL]
    subst hs he
    refine wp_seq (fun e s' => s' = s1 ∧ e = [.fz (.lst (D.str h :: os.map .str)), .fz (.lst (ks.map .str)), .un, .un, .un]) ?_ fun e s2 ⟨hs, he⟩ => ?_
    · simp only [stpB, seqK, slots, List.replicate, reduceIte, reduceCtorEq, Nat.reduceAdd, Nat.reduceSub, Nat.reduceLT, Nat.reduceLeDiff, stqB, eq_nil_ks hk]
    subst hs he
    refine wp_seq (fun e s' => s' = s2 ∧ e = [.fz (.lst (D.str h :: os.map .str)), .fz (.lst (ks.map .str)), .ow (.lst []), .un, .un]) ?_ fun e s3 ⟨hs, he⟩ => ?_
    · simp only [stpB, seqK, slots, List.replicate, reduceIte, reduceCtorEq, Nat.reduceAdd, Nat.reduceSub, Nat.reduceLT, Nat.reduceLeDiff, stqB]
    subst hs he
    simp only [stpB, seqK, slots, List.replicate, reduceIte, reduceCtorEq, Nat.reduceAdd, Nat.reduceSub, Nat.reduceLT, Nat.reduceLeDiff, stqB, hlen, bnd_of (i := (os.length : Int) + 1) (by omega) (by omega), show bnd 1 = true by decide]
    rw [show ((os.length : Int) + 1 - 1).toNat = os.length by omega]
    refine ⟨rfl, ?_⟩
    refine wp_forR (n := os.length) (fun i e s' => s' = s3 ∧ ∃ ns x3 x4, ns.length = i ∧ i ≤ 8 ∧ (∀ m ∈ ns, VMv ks m) ∧ runB ks os 0 [] = runB ks (os.drop i) i ns ∧ e = [.fz (.lst (D.str h :: os.map .str)), .fz (.lst (ks.map .str)), .ow (.lst (ns.map mvD)), x3, x4]) ⟨rfl, [], _, _, rfl, by decide, fun m h => absurd h List.not_mem_nil, rfl, rfl⟩ (fun i e s' hil hj => ?_) fun e s' hj => ?_
    · obtain ⟨rfl, ns, x3, x4, hnl, hi8, hv, hrun, rfl⟩ := hj
      have hdr : os.drop i = os[i] :: os.drop (i + 1) := List.drop_eq_getElem_cons hil
      have hmi := List.getElem_mem hil
      have hki : os[i]? = some os[i] := List.getElem?_eq_getElem hil
      generalize os[i] = l at hdr hmi hki
      rw [hdr] at hrun
      have hat : atI (D.str h :: os.map D.str) (1 + (i : Int)) = some (.str l) := by rw [at_tl, List.getElem?_map, hki]; rfl
      have hpv := law_move_ok (ks := ks) (hle l (List.mem_cons_of_mem _ hmi))
      have e2 : 1 + (i : Int) + 1 = ((i + 2 : Nat) : Int) := by omega
      unfold l1_law_due
      cases hmv : pMove ks l with
      | none =>
        rw [hmv] at hpv
        rw [runB_none hmv] at hrun
        rw [hres hrun]
        simp only [stpB, seqK, slots, List.replicate, reduceIte, reduceCtorEq, Nat.reduceAdd, Nat.reduceSub, Nat.reduceLT, Nat.reduceLeDiff, stqB, hat, hpv, vD, show isNn .non = true from rfl, e2, dueL]
      | some m =>
        have hvm := pv_vmv hmv
        rw [hmv] at hpv
        by_cases g8 : 8 ≤ i
        · have g8' : ((8 : Int) < 1 + (i : Int)) = True := eq_true (by omega)
          rw [runB_bad hmv (.inl g8)] at hrun
          rw [hres hrun]
          simp only [stpB, seqK, slots, List.replicate, reduceIte, reduceCtorEq, Nat.reduceAdd, Nat.reduceSub, Nat.reduceLT, Nat.reduceLeDiff, stqB, hat, hpv, vD, mv_cont, mv_nn, g8', decide_true, e2, dueL]
        · have g8' : ((8 : Int) < 1 + (i : Int)) = False := eq_false (by omega)
          have htl : ns.length < 16777216 := by omega
          cases hp : ns.getLast? with
          | none =>
            have hn0 := List.getLast?_eq_none_iff.mp hp
            have hll : lastLe ks ns m = false := by unfold lastLe; rw [hp]
            rw [runB_go hmv (by omega) hll] at hrun
            subst hn0
            simp only [stpB, seqK, slots, List.replicate, reduceIte, reduceCtorEq, Nat.reduceAdd, Nat.reduceSub, Nat.reduceLT, Nat.reduceLeDiff, stqB, hat, hpv, vD, mv_cont, mv_nn, g8', decide_false, List.map_nil, List.isEmpty_nil, Bool.not_true]
            refine ⟨[m], _, _, by rw [List.length_singleton]; rw [List.length_nil] at hnl; omega, by omega, fun x hx => by rw [List.mem_singleton.mp hx]; exact hvm, hrun, rfl⟩
          | some p =>
            obtain ⟨pre, hpre⟩ := List.getLast?_eq_some_iff.mp hp
            have hl2 : (ns.map mvD).getLast? = some (mvD p) := by rw [hpre, List.map_append, List.map_singleton, List.getLast?_concat]
            have hne : (ns.map mvD).isEmpty = false := by rw [hpre]; simp
            have hil' := ix_last hl2
            have hvp := hv p (by rw [hpre]; simp)
            have ht := tle_ky (ks := ks) m p
            have hlle : lastLe ks ns m = leI (keyM ks m) (keyM ks p) := by unfold lastLe; rw [hp]
            cases hle2 : leI (keyM ks m) (keyM ks p) with
            | true =>
              rw [runB_bad hmv (.inr (hlle.trans hle2))] at hrun
              rw [hle2] at ht
              rw [hres hrun]
              simp only [stpB, seqK, slots, List.replicate, reduceIte, reduceCtorEq, Nat.reduceAdd, Nat.reduceSub, Nat.reduceLT, Nat.reduceLeDiff, stqB, hat, hpv, vD, mv_cont, mv_nn, g8', decide_false, hne, Bool.not_false, mark_ok hvm, hil', mark_ok hvp, ky_cont, ht, e2, dueL]
            | false =>
              rw [runB_go hmv (by omega) (hlle.trans hle2)] at hrun
              rw [hle2] at ht
              simp only [stpB, seqK, slots, List.replicate, reduceIte, reduceCtorEq, Nat.reduceAdd, Nat.reduceSub, Nat.reduceLT, Nat.reduceLeDiff, stqB, hat, hpv, vD, mv_cont, mv_nn, g8', decide_false, hne, Bool.not_false, Bool.not_true, mark_ok hvm, hil', mark_ok hvp, ky_cont, ht, List.length_map, htl]
              refine ⟨ns ++ [m], _, _, by rw [List.length_append, List.length_singleton]; omega, by omega, fun x hx => ?_, hrun, by rw [List.map_append]; rfl⟩
              rcases List.mem_append.mp hx with q | q
              · exact hv x q
              · rw [List.mem_singleton.mp q]; exact hvm
    · obtain ⟨rfl, ns, x3, x4, hnl, hi8, hv, hrun, rfl⟩ := hj
      rw [List.drop_length] at hrun
      have hrs : pRes (h :: os) = .inr (ks, ns) := by rw [pRes_some hm, hrun]; rfl
      rw [hrs]
      simp only [stpB, seqK, slots, List.replicate, reduceIte, reduceCtorEq, Nat.reduceAdd, Nat.reduceSub, Nat.reduceLT, Nat.reduceLeDiff, stqB, dueL]
end
end My
end
section
set_option maxHeartbeats 200000
namespace My
open PySem Dn
open L2 (atI ixN Key)
open Builtin Builtin.Str
def Pr (c : Nat) : Prop := 32 ≤ c ∧ c ≤ 126
def PrS (z : Str) : Prop := ∀ c ∈ z.cps.toList, Pr c
structure Ln (B : Nat) (z : Str) : Prop where
  l : z.length ≤ B
  p : PrS z
theorem Ln.mono {A B : Nat} {z : Str} (h : Ln A z) (q : A ≤ B) : Ln B z := ⟨Nat.le_trans h.l q, h.p⟩
theorem prS_app {a b : Str} (ha : PrS a) (hb : PrS b) : PrS (a ++ b) := fun c hc => by
  rw [tl_app] at hc
  exact (List.mem_append.mp hc).elim (ha c) (hb c)
theorem Ln.app {A B : Nat} {a b : Str} (ha : Ln A a) (hb : Ln B b) : Ln (A + B) (a ++ b) := ⟨by rw [Str.length_append]; exact Nat.add_le_add ha.l hb.l, prS_app ha.p hb.p⟩
def lnB (B : Nat) (z : Str) : Bool := decide (z.length ≤ B) && z.cps.toList.all fun c => decide (32 ≤ c) && decide (c ≤ 126)
theorem ln_of {B : Nat} {z : Str} (h : lnB B z = true) : Ln B z := by
  unfold lnB at h
  rw [Bool.and_eq_true, decide_eq_true_iff, List.all_eq_true] at h
  refine ⟨h.1, fun c hc => ?_⟩
  have := h.2 c hc
  rw [Bool.and_eq_true, decide_eq_true_iff, decide_eq_true_iff] at this
  exact this
theorem prS_join {z : Str} (hz : PrS z) : ∀ {l : List Str}, (∀ p ∈ l, PrS p) → PrS (Str.join z l)
  | [], _ => fun c hc => by
    have : (Str.join z []).cps.toList = [] := rfl
    rw [this] at hc; cases hc
  | [x], h => h x List.mem_cons_self
  | x :: y :: l, h => by
    rw [j_cons]
    exact prS_app (prS_app (h x List.mem_cons_self) hz) (prS_join hz fun p hp => h p (List.mem_cons_of_mem _ hp))
theorem mem_join {z p : Str} : ∀ {l : List Str}, p ∈ l → ∀ c ∈ p.cps.toList, c ∈ (Str.join z l).cps.toList
  | [x], h, c, hc => by rw [List.mem_singleton.mp h] at hc; exact hc
  | x :: y :: l, h, c, hc => by
    rw [j_cons, tl_app, tl_app]
    rcases List.mem_cons.mp h with rfl | h
    · simp [hc]
    · exact List.mem_append_right _ (mem_join h c hc)
/-- the words of a line -/
theorem words_pr {a : Str} (h : PrS a) : ∀ p ∈ Txt.split a spS, PrS p := fun p hp c hc => h c (by
  have h1 := StrLaws.join_split a spS
  rw [← h1]
  exact mem_join hp c hc)
theorem join_sum (z : Str) : ∀ {l : List Str}, l ≠ [] → (Str.join z l).length + z.length = (l.map (·.length)).sum + l.length * z.length
  | [], h => absurd rfl h
  | [x], _ => by
    show x.length + z.length = _
    simp
  | x :: y :: l, _ => by
    have ih := join_sum z (l := y :: l) (by simp)
    rw [j_cons, Str.length_append, Str.length_append, List.map_cons, List.sum_cons, List.length_cons, Nat.add_mul, Nat.one_mul]
    omega
theorem words_sum (a : Str) : ((Txt.split a spS).map (·.length)).sum + (Txt.split a spS).length = a.length + 1 := by
  have h1 := StrLaws.join_split a spS
  obtain ⟨w, r, hw⟩ := split_ne a 32
  have hw : Txt.split a spS = w :: r := hw
  have h2 := join_sum spS (l := Txt.split a spS) (by rw [hw]; simp)
  rw [h1, show spS.length = 1 from by decide] at h2
  omega
/-- words put together anew -/
theorem ln_join {B : Nat} {l : List Str} (hp : ∀ p ∈ l, PrS p) (hs : (l.map (·.length)).sum + l.length ≤ B) : Ln B (Str.join spS l) := by
  refine ⟨?_, prS_join (ln_of (B := 1) (by decide +kernel)).p hp⟩
  have := j_len spS l
  rw [show spS.length = 1 from by decide] at this
  omega
theorem sum_sub {l m : List Nat} (h : l.Sublist m) : l.sum ≤ m.sum := by
  induction h with
  | slnil => exact Nat.le_refl _
  | cons a _ ih => rw [List.sum_cons]; omega
  | cons_cons a _ ih => rw [List.sum_cons, List.sum_cons]; omega
theorem sub_pr {x : Str} (h : PrS x) (i j : Nat) : PrS (strSub x i j) := fun c hc => h c (by
  have : (strSub x i j).cps = x.cps.extract i j := rfl
  rw [this, Array.toList_extract] at hc
  exact List.mem_of_mem_drop (List.mem_of_mem_take hc))
theorem parts_pr {x : Str} (h : PrS x) (cuts : List Nat) (w : Nat) : ∀ p ∈ partsBetween x cuts w, PrS p := fun p hp => by
  unfold partsBetween at hp
  obtain ⟨⟨i, j⟩, _, rfl⟩ := List.mem_map.mp hp
  exact sub_pr h i j
theorem rep1_pr {x y z : Str} (h : PrS x) (hz : PrS z) : PrS (rep1 x y z) := by
  unfold rep1
  split
  · exact h
  · rw [StrLaws.glued_eq_join]
    exact prS_join hz (parts_pr h _ _)
theorem ln_rep {B C : Nat} {x y z : Str} (h : Ln B x) (hz : Ln C z) : Ln (B + C) (rep1 x y z) := ⟨Nat.le_trans (rep1_len x y z) (Nat.add_le_add h.l hz.l), rep1_pr h.p hz.p⟩
theorem ln_up {B : Nat} {x : Str} (h : Ln B x) : Ln B (Txt.upper x) := by
  rw [PyProof.Rows.upper_ascii fun c hc => by have := (h.p c hc).2; omega]
  refine ⟨by show (x.cps.map _).size ≤ B; rw [Array.size_map]; exact h.l, fun c hc => ?_⟩
  have hc : c ∈ (x.cps.map PyProof.Rows.up1).toList := hc
  rw [Array.toList_map] at hc
  obtain ⟨d, hd, rfl⟩ := List.mem_map.mp hc
  have := h.p d hd
  unfold Pr at this ⊢
  unfold PyProof.Rows.up1
  split <;> omega
theorem ln_cut {B : Nat} {x : Str} (h : Ln B x) (lo hi : Option Int) : Ln B (L2.cutS x lo hi) := by
  rw [W_of x, cut_W]
  have hl : x.length = x.cps.toList.length := rfl
  refine ⟨?_, fun c hc => h.p c ?_⟩
  · show ((x.cps.toList.drop _).take _).toArray.size ≤ B
    simp only [List.size_toArray, List.length_take, List.length_drop]
    have := h.l
    omega
  · rw [W_cps] at hc
    exact List.mem_of_mem_drop (List.mem_of_mem_take hc)
theorem many_tl : ∀ (k : Nat) (a acc : Array Nat) (c : Nat), c ∈ ((List.replicate k a).foldl (· ++ ·) acc).toList → c ∈ acc.toList ∨ c ∈ a.toList
  | 0, a, acc, c, h => .inl h
  | k + 1, a, acc, c, h => by
    rw [List.replicate_succ, List.foldl_cons] at h
    rcases many_tl k a (acc ++ a) c h with q | q
    · rw [Array.toList_append] at q
      exact List.mem_append.mp q
    · exact .inr q
theorem ln_many {a : Str} (ha : Ln 1 a) (k : Nat) : Ln k (manyS a k) := by
  refine ⟨?_, fun c hc => ?_⟩
  · show ((List.replicate k a.cps).foldl (· ++ ·) #[]).size ≤ k
    rw [fold_len]
    have : a.cps.size ≤ 1 := ha.l
    have := Nat.mul_le_mul_left k this
    simp
    omega
  · rcases many_tl k a.cps #[] c hc with q | q
    · cases q
    · exact ha.p c q
/-- all the lines of a text -/
structure Lns (B N : Nat) (L : List Str) : Prop where
  n1 : 1 ≤ L.length
  n : L.length ≤ N
  h : ∀ l ∈ L, Ln B l
theorem Lns.fr {B N : Nat} {L : List Str} (h : Lns B N L) : Fr0 10 L := fun p hp hc => by
  have := ((h.h p hp).p 10 hc).1
  omega
theorem Lns.len {B N : Nat} {L : List Str} (h : Lns B N L) : (Str.join nlS L).length ≤ N * (B + 1) := by
  have h1 := j_len nlS L
  have h2 := sum_le (l := L.map (·.length)) (b := B) fun x hx => by
    obtain ⟨k, hk, rfl⟩ := List.mem_map.mp hx
    exact (h.h k hk).l
  rw [List.length_map] at h2
  rw [show nlS.length = 1 from by decide] at h1
  have h3 := Nat.mul_le_mul_right (B + 1) h.n
  rw [Nat.mul_add, Nat.mul_one] at h3
  omega
end My
end
section
set_option maxHeartbeats 200000
namespace My
open PySem Dn
open L2 (atI ixN Key)
section
variable {L ws P : List Str} {l z : Str} {s : List D} {A B N : Nat}
theorem rep_app {y z : Str} {mo : Dn.M D} {e : Dn.Env} {s : List D} : repM y z mo e s = Dn.M.bind mo (fun d => match d with
  | .str x => if x.length + z.length ≤ 16777216 then Dn.M.ret (.fz (.str (rep1 x y z))) else Dn.M.stuck
  | _ => Dn.M.stuck) e s := nrf rfl
theorem up_app {mo : Dn.M D} {e : Dn.Env} {s : List D} : upM mo e s = Dn.M.bind mo (fun d => match d with
  | .str y => if y.length ≤ 5592405 then Dn.M.ret (.fz (.str (Txt.upper y))) else Dn.M.stuck
  | _ => Dn.M.stuck) e s := nrf rfl
def eC (L ws P : List Str) (i w : Int) (z l : Str) (x6 : Sl) : Dn.Env := [.fz (.lst (L.map .str)), .fz (.int i), .fz (.int w), .fz (.str z), .fz (.str l), .fz (.lst (ws.map .str)), x6, .un, .un, .un]
theorem cut_to {xs : List Str} {i : Nat} (h : i ≤ xs.length) : cutD (xs.map D.str) none (some (i : Int)) = (xs.take i).map .str := by
  unfold cutD
  rw [HT.sIx_nat, HT.sIx_none, List.length_map, Nat.min_eq_left h, List.drop_zero, Nat.sub_zero, List.map_take]
theorem cut_from {xs : List Str} {i : Nat} : cutD (xs.map D.str) (some (i : Int)) none = (xs.drop i).map .str := by
  unfold cutD
  rw [HT.sIx_nat, HT.sIx_none, List.length_map, List.map_drop]
  by_cases h : i ≤ xs.length
  · rw [Nat.min_eq_left h, List.take_of_length_le (by simp)]
  · rw [Nat.min_eq_right (by omega), Nat.sub_self, List.take_zero, List.drop_of_length_le (by rw [List.length_map]; omega)]
theorem cut_last {xs : List Str} (h : 1 ≤ xs.length) : cutD (xs.map D.str) none (some (-1)) = xs.dropLast.map .str := by
  have hs : HT.sIx xs.length xs.length (some (-1)) = xs.length - 1 := by
    show (if (-1 : Int) < 0 then (-1 + (xs.length : Int)).toNat else min (-1 : Int).toNat xs.length) = _
    rw [if_pos (by decide)]; omega
  unfold cutD
  rw [List.length_map, hs, HT.sIx_none, List.drop_zero, Nat.sub_zero, ← List.map_take, List.dropLast_eq_take]
theorem jn_sp {xs : List Str} (h : (xs.map (·.length)).sum + xs.length ≤ 16777216) : jnF (.str " ") [.lst (xs.map .str)] = some (.fz (.str (Str.join spS xs))) := by
  rw [jn_lst (by rw [sp_len]; omega), sp_is]
theorem ws_sub {ws vs : List Str} (h : vs.Sublist ws) : (vs.map (·.length)).sum + vs.length ≤ (ws.map (·.length)).sum + ws.length := Nat.add_le_add (sum_sub (h.map _)) h.length_le
theorem add_all {C : Nat} {xs ys : List Str} (hx : ∀ p ∈ xs, Ln C p) (hy : ∀ p ∈ ys, Ln C p) : ∀ p ∈ xs ++ ys, Ln C p := fun p hp => (List.mem_append.mp hp).elim (hx p) (hy p)
theorem plain_ok (hl : Ln B l) (hB : B ≤ 20000) (hz : Ln 1 z) (hws : ws = Txt.split l spS) {i w : Int} {W : PQ Fw} {k : M Fw}
    (hk : ∀ P : List Str, P.length = 17 → (∀ p ∈ P, Ln (2 * B + 10) p) → wp (k (eC L ws P i w z l (.fz (.lst (P.map .str)))) s) W nX) :
    wp ((seqM (asgZ 6 (lstM (argsV [frzM (bin2 (binD .Add) (lookM (frzM (cS " "))) (lkN 4)), frzM (bin2 (binD .Add) (lkN 4) (lookM (frzM (cS " ")))), frzM (repM " " "  " (frzM (rdN 4))), frzM (cS "")])))
  (seqM (asgZ 6 (bin2 (binD .Add) (lkN 6) (lookM (frzM (lstM (argsV [frzM (upM (frzM (rdN 4))), frzM (repM "+" "" (frzM (rdN 4)))]))))))
  (seqM (asgZ 6 (bin2 (binD .Add) (lkN 6) (lookM (frzM (lstM (argsV [frzM (repM "+0" "-0" (frzM (rdN 4))), frzM (repM "+" "++" (frzM (rdN 4)))]))))))
  (seqM (asgZ 6 (bin2 (binD .Add) (lkN 6) (lookM (frzM (lstM (argsV [frzM (repM "1" "7" (frzM (rdN 4)))]))))))
  (seqM (asgZ 6 (bin2 (binD .Add) (lkN 6) (lookM (frzM (lstM (argsV [frzM (bin2 (binD .Add) (lkN 4) (lkN 3)), frzM (bin2 (binD .Add) (lkN 3) (lkN 4)), frzM (bmM "str" jnF (lookM (frzM (cS " "))) (argsV [frzM (slM (lkN 5) (M.ret none) (prtM (frzM (un1 negD (lookM (frzM (cI 1)))))))])), frzM (bin2 (binD .Add) (lookM (frzM (bin2 (binD .Add) (lkN 4) (lookM (frzM (cS " ")))))) (lookM (frzM (bin2 ixD (lkN 5) (lookM (frzM (un1 negD (lookM (frzM (cI 1))))))))))]))))))
  (seqM (asgZ 6 (bin2 (binD .Add) (lkN 6) (lookM (frzM (lstM (argsV [frzM (repM "1" "01" (frzM (rdN 4)))]))))))
  (seqM (asgZ 6 (bin2 (binD .Add) (lkN 6) (lookM (frzM (lstM (argsV [frzM (bin2 ixD (lkN 5) (lookM (frzM (cI 0)))), frzM (bmM "str" jnF (lookM (frzM (cS " "))) (argsV [frzM (rvlM (frzM (rdN 5)))])), frzM (repM "-" "+" (frzM (rdN 4)))]))))))
  k))))))) (eC L ws P i w z l .un) s) W nX := by
  have hll := hl.l
  have hzl := hz.l
  have g0 : ("" : Str).length = 0 := by decide +kernel
  have g1 : (" " : Str).length = 1 := sp_len
  have g2 : ("  " : Str).length = 2 := by decide +kernel
  have q : ∀ (a : Str) (n : Nat), lnB n a = true → Ln n a := fun a n h => ln_of h
  have lsp : Ln 1 (" " : Str) := q _ _ (by decide +kernel)
  have L10 : ∀ {a : Str} {n : Nat}, Ln n a → n ≤ 2 * B + 10 → Ln (2 * B + 10) a := fun h k => h.mono k
  have R : ∀ (y v : Str) (n : Nat), lnB n v = true → n ≤ 5 → Ln (2 * B + 10) (rep1 l y v) := fun y v n h k => (ln_rep hl (ln_of h)).mono (by omega)
  have hwl := words_sum l
  rw [← hws] at hwl
  obtain ⟨w0, wr, hw0⟩ := split_ne l 32
  have hw0 : ws = w0 :: wr := hws.trans hw0
  have hwp : ∀ p ∈ ws, PrS p := fun p hp => words_pr hl.p p (by rw [← hws]; exact hp)
  have hwln : ∀ p ∈ ws, Ln B p := fun p hp => ⟨Nat.le_trans (split_len (c := 32) (by rw [hws] at hp; exact hp)) hll, hwp p hp⟩
  refine wp_seq (fun e s' => s' = s ∧ ∃ P : List Str, P.length = 4 ∧ (∀ p ∈ P, Ln (2 * B + 10) p) ∧ e = eC L ws P i w z l (.fz (.lst (P.map .str)))) ?_ fun e s1 ⟨hs, P, hP, hPl, he⟩ => ?_
  · have c1 : (" " : Str).length + l.length ≤ 16777216 := by omega
    have c2 : l.length + (" " : Str).length ≤ 16777216 := by omega
    have c3 : l.length + ("  " : Str).length ≤ 16777216 := by omega
    unfold eC
    simp only [stpB, seqK, slots, List.replicate, reduceIte, reduceCtorEq, Nat.reduceAdd, Nat.reduceSub, Nat.reduceLT, Nat.reduceLeDiff, stqB, c1, c2, rep_app, c3]
    refine ⟨[" " ++ l, l ++ " ", rep1 l " " "  ", ""], rfl, ?_, rfl⟩
    simp only [List.mem_cons, List.not_mem_nil, or_false, forall_eq_or_imp, forall_eq]
    exact ⟨L10 (lsp.app hl) (by omega), L10 (hl.app lsp) (by omega), R _ _ 2 (by decide +kernel) (by decide), L10 (q "" 0 (by decide +kernel)) (by omega)⟩
  subst hs he
  refine wp_seq (fun e s' => s' = s1 ∧ ∃ P : List Str, P.length = 6 ∧ (∀ p ∈ P, Ln (2 * B + 10) p) ∧ e = eC L ws P i w z l (.fz (.lst (P.map .str)))) ?_ fun e s2 ⟨hs, P2, hP2, hPl2, he⟩ => ?_
  · have c3 : l.length + ("" : Str).length ≤ 16777216 := by omega
    have c4 : l.length ≤ 5592405 := by omega
    unfold eC
    simp only [stpB, seqK, slots, List.replicate, reduceIte, reduceCtorEq, Nat.reduceAdd, Nat.reduceSub, Nat.reduceLT, Nat.reduceLeDiff, stqB, rep_app, c3, up_app, c4]
    exact ⟨by simp only [List.length_map, List.length_cons, List.length_nil, hP]; omega, P ++ [Txt.upper l, rep1 l "+" ""], by rw [List.length_append, hP]; rfl, add_all hPl (by
      simp only [List.mem_cons, List.not_mem_nil, or_false, forall_eq_or_imp, forall_eq]
      exact ⟨L10 (ln_up hl) (by omega), R _ _ 0 (by decide +kernel) (by decide)⟩), by rw [List.map_append]; rfl⟩
  clear hP hPl
  subst hs he
  refine wp_seq (fun e s' => s' = s2 ∧ ∃ P : List Str, P.length = 8 ∧ (∀ p ∈ P, Ln (2 * B + 10) p) ∧ e = eC L ws P i w z l (.fz (.lst (P.map .str)))) ?_ fun e s3 ⟨hs, P3, hP3, hPl3, he⟩ => ?_
  · have c3 : l.length + ("-0" : Str).length ≤ 16777216 := by rw [show ("-0" : Str).length = 2 by decide +kernel]; omega
    have c4 : l.length + ("++" : Str).length ≤ 16777216 := by rw [show ("++" : Str).length = 2 by decide +kernel]; omega
    unfold eC
    simp only [stpB, seqK, slots, List.replicate, reduceIte, reduceCtorEq, Nat.reduceAdd, Nat.reduceSub, Nat.reduceLT, Nat.reduceLeDiff, stqB, rep_app, c3, c4]
    exact ⟨by simp only [List.length_map, List.length_cons, List.length_nil, hP2]; omega, P2 ++ [rep1 l "+0" "-0", rep1 l "+" "++"], by rw [List.length_append, hP2]; rfl, add_all hPl2 (by
      simp only [List.mem_cons, List.not_mem_nil, or_false, forall_eq_or_imp, forall_eq]
      exact ⟨R _ _ 2 (by decide +kernel) (by decide), R _ _ 2 (by decide +kernel) (by decide)⟩), by rw [List.map_append]; rfl⟩
  clear hP2 hPl2
  subst hs he
  refine wp_seq (fun e s' => s' = s3 ∧ ∃ P : List Str, P.length = 9 ∧ (∀ p ∈ P, Ln (2 * B + 10) p) ∧ e = eC L ws P i w z l (.fz (.lst (P.map .str)))) ?_ fun e s4 ⟨hs, P4, hP4, hPl4, he⟩ => ?_
  · have c3 : l.length + ("7" : Str).length ≤ 16777216 := by rw [show ("7" : Str).length = 1 by decide +kernel]; omega
    unfold eC
    simp only [stpB, seqK, slots, List.replicate, reduceIte, reduceCtorEq, Nat.reduceAdd, Nat.reduceSub, Nat.reduceLT, Nat.reduceLeDiff, stqB, rep_app, c3]
    exact ⟨by simp only [List.length_map, List.length_cons, List.length_nil, hP3]; omega, P3 ++ [rep1 l "1" "7"], by rw [List.length_append, hP3]; rfl, add_all hPl3 (by
      simp only [List.mem_cons, List.not_mem_nil, or_false, forall_eq]
      exact R _ _ 1 (by decide +kernel) (by decide)), by rw [List.map_append]; rfl⟩
  clear hP3 hPl3
  subst hs he
  obtain ⟨wl, hwl2⟩ : ∃ wl, ws.getLast? = some wl := ⟨_, List.getLast?_eq_some_getLast (by rw [hw0]; simp)⟩
  have hwlm : wl ∈ ws := by obtain ⟨pre, e⟩ := List.getLast?_eq_some_iff.mp hwl2; rw [e]; simp
  have hws1 : 1 ≤ ws.length := by rw [hw0]; simp
  refine wp_seq (fun e s' => s' = s4 ∧ ∃ P : List Str, P.length = 13 ∧ (∀ p ∈ P, Ln (2 * B + 10) p) ∧ e = eC L ws P i w z l (.fz (.lst (P.map .str)))) ?_ fun e s5 ⟨hs, P5, hP5, hPl5, he⟩ => ?_
  · have c1 : l.length + z.length ≤ 16777216 := by omega
    have c2 : z.length + l.length ≤ 16777216 := by omega
    have c3 : l.length + (" " : Str).length ≤ 16777216 := by omega
    have hlw := (hwln wl hwlm).l
    have c4 : (l ++ " ").length + wl.length ≤ 16777216 := by rw [Str.length_append]; omega
    have hsub := ws_sub (List.dropLast_sublist ws)
    have hj := jn_sp (xs := ws.dropLast) (by omega)
    have hx := ix_last (xs := ws.map D.str) (x := .str wl) (by rw [List.getLast?_map, hwl2]; rfl)
    have hx' : atI (ws.map D.str) (-1) = some (.str wl) := by
      rw [ix_lst] at hx
      obtain ⟨d, hd, e⟩ := Option.map_eq_some_iff.mp hx
      cases e; exact hd
    unfold eC
    simp only [stpB, seqK, slots, List.replicate, reduceIte, reduceCtorEq, Nat.reduceAdd, Nat.reduceSub, Nat.reduceLT, Nat.reduceLeDiff, stqB, c1, c2, c3, c4, cut_last hws1, hj, hx']
    exact ⟨by simp only [List.length_map, List.length_cons, List.length_nil, hP4]; omega, P4 ++ [l ++ z, z ++ l, Str.join spS ws.dropLast, l ++ " " ++ wl], by rw [List.length_append, hP4]; rfl, add_all hPl4 (by
      simp only [List.mem_cons, List.not_mem_nil, or_false, forall_eq_or_imp, forall_eq]
      exact ⟨L10 (hl.app hz) (by omega), L10 (hz.app hl) (by omega), (ln_join (fun p hp => hwp p ((List.dropLast_sublist ws).subset hp)) (Nat.le_refl _)).mono (by omega), L10 ((hl.app lsp).app (hwln wl hwlm)) (by omega)⟩), by rw [List.map_append]; rfl⟩
  clear hP4 hPl4
  subst hs he
  refine wp_seq (fun e s' => s' = s5 ∧ ∃ P : List Str, P.length = 14 ∧ (∀ p ∈ P, Ln (2 * B + 10) p) ∧ e = eC L ws P i w z l (.fz (.lst (P.map .str)))) ?_ fun e s6 ⟨hs, P6, hP6, hPl6, he⟩ => ?_
  · have c3 : l.length + ("01" : Str).length ≤ 16777216 := by rw [show ("01" : Str).length = 2 by decide +kernel]; omega
    unfold eC
    simp only [stpB, seqK, slots, List.replicate, reduceIte, reduceCtorEq, Nat.reduceAdd, Nat.reduceSub, Nat.reduceLT, Nat.reduceLeDiff, stqB, rep_app, c3]
    exact ⟨by simp only [List.length_map, List.length_cons, List.length_nil, hP5]; omega, P5 ++ [rep1 l "1" "01"], by rw [List.length_append, hP5]; rfl, add_all hPl5 (by
      simp only [List.mem_cons, List.not_mem_nil, or_false, forall_eq]
      exact R _ _ 2 (by decide +kernel) (by decide)), by rw [List.map_append]; rfl⟩
  clear hP5 hPl5
  subst hs he
  refine wp_seq (fun e s' => s' = s6 ∧ ∃ P : List Str, P.length = 17 ∧ (∀ p ∈ P, Ln (2 * B + 10) p) ∧ e = eC L ws P i w z l (.fz (.lst (P.map .str)))) ?_ fun e s7 ⟨hs, P7, hP7, hPl7, he⟩ => ?_
  · have c3 : l.length + ("+" : Str).length ≤ 16777216 := by rw [show ("+" : Str).length = 1 by decide +kernel]; omega
    have hx0 : atI (ws.map D.str) 0 = some (.str w0) := by rw [hw0]; exact atI0
    have hrs : (ws.reverse.map (·.length)).sum + ws.reverse.length = (ws.map (·.length)).sum + ws.length := by rw [List.map_reverse, List.sum_reverse, List.length_reverse]
    have hj := jn_sp (xs := ws.reverse) (by omega)
    have hrv : rvlD (.lst (ws.map D.str)) = some (.ow (.lst (ws.reverse.map .str))) := by
      show some (Sl.ow (.lst (ws.map D.str).reverse)) = _
      rw [List.map_reverse]
    have hrm : ∀ (m : Dn.M D) (e : Dn.Env) (s : List D), rvlM m e s = Dn.M.bind m (fun d => Dn.M.lift (rvlD d)) e s := fun _ _ _ => rfl
    unfold eC
    simp only [stpB, seqK, slots, List.replicate, reduceIte, reduceCtorEq, Nat.reduceAdd, Nat.reduceSub, Nat.reduceLT, Nat.reduceLeDiff, stqB, rep_app, c3, hx0, hrm, hrv, hj]
    exact ⟨by simp only [List.length_map, List.length_cons, List.length_nil, hP6]; omega, P6 ++ [w0, Str.join spS ws.reverse, rep1 l "-" "+"], by rw [List.length_append, hP6]; rfl, add_all hPl6 (by
      simp only [List.mem_cons, List.not_mem_nil, or_false, forall_eq_or_imp, forall_eq]
      exact ⟨L10 (hwln w0 (by rw [hw0]; exact List.mem_cons_self)) (by omega), (ln_join (fun p hp => hwp p (List.mem_reverse.mp hp)) (Nat.le_refl _)).mono (by omega), R _ _ 1 (by decide +kernel) (by decide)⟩), by rw [List.map_append]; rfl⟩
  clear hP6 hPl6
  subst hs he
  exact hk P7 hP7 hPl7
end
end My
end
section
set_option maxHeartbeats 200000
namespace My
open PySem Dn
open L2 (atI ixN Key)
section
variable {L ws P : List Str} {l z : Str} {s : List D} {A B N : Nat}
theorem in_two {a b c : Int} : inD (.int a) (.lst [.int b, .int c]) = some (decide (a = b ∨ a = c)) := by
  show grd (inOk (.int a) [.int b, .int c]) (inB (.int a) [.int b, .int c]) = _
  have e1 : inOk (.int a) [D.int b, .int c] = true := rfl
  have e2 : inB (.int a) [D.int b, .int c] = decide (a = b ∨ a = c) := by
    rw [Bool.eq_iff_iff]
    simp [inB, py, PyData.eqv]
    omega
  rw [e1, e2]; rfl
theorem lns_take {L : List Str} (h : Lns B N L) (hB : B ≤ A) (i : Nat) : ∀ p ∈ L.take i, Ln A p := fun p hp => (h.h p (List.mem_of_mem_take hp)).mono hB
theorem lns_drop {L : List Str} (h : Lns B N L) (hB : B ≤ A) (i : Nat) : ∀ p ∈ L.drop i, Ln A p := fun p hp => (h.h p (List.mem_of_mem_drop hp)).mono hB
theorem one_ln {p : Str} (h : Ln A p) : ∀ q ∈ [p], Ln A q := fun q hq => by rw [List.mem_singleton.mp hq]; exact h
theorem char_ln {x : Str} {i : Int} {c : Nat} (h : PrS x) (hc : atI x.cps.toList i = some c) : Ln 1 (sgn c) := by
  refine ⟨Nat.le_refl 1, fun d hd => ?_⟩
  have e : (sgn c).cps.toList = [c] := rfl
  rw [e, List.mem_singleton] at hd
  subst hd
  refine h d ?_
  unfold atI at hc
  revert hc
  cases ixN x.cps.toList.length i with
  | none => intro h; cases h
  | some j => intro h; exact List.mem_of_getElem? h
theorem swap_ok (hL : Lns B N L) (hl : Ln B l) (hB : B ≤ A) (hN : N ≤ 100) (i : Nat) (hi : i < L.length) : Lns A (N + 1) (L.take i ++ [l] ++ L.drop (i + 1)) := by
  have hn := hL.n
  refine ⟨by simp only [List.length_append, List.length_take, List.length_drop, List.length_singleton]; omega, by simp only [List.length_append, List.length_take, List.length_drop, List.length_singleton]; omega, add_all (add_all (lns_take hL hB i) (one_ln (hl.mono hB))) (lns_drop hL hB _)⟩
theorem take_drop_sub : ∀ ws : List Str, (ws.take 1 ++ ws.drop 2).Sublist ws
  | [] => .slnil
  | [a] => List.Sublist.refl _
  | a :: b :: l => by
    show List.Sublist (a :: l) (a :: b :: l)
    exact .cons_cons a (.cons b (List.Sublist.refl _))
theorem cut_one {L : List Str} {i : Nat} (hi : i < L.length) : cutD (L.map D.str) (some ((i : Int) + 1)) (some ((i : Int) + 2)) = ((L.drop (i + 1)).take 1).map .str := by
  have e1 : (i : Int) + 1 = ((i + 1 : Nat) : Int) := rfl
  have e2 : (i : Int) + 2 = ((i + 2 : Nat) : Int) := rfl
  rw [e1, e2]
  unfold cutD
  rw [HT.sIx_nat, HT.sIx_nat, List.length_map, List.map_take, List.map_drop, Nat.min_eq_left (show i + 1 ≤ L.length by omega)]
  by_cases h : i + 2 ≤ L.length
  · rw [Nat.min_eq_left h, show i + 2 - (i + 1) = 1 by omega]
  · rw [Nat.min_eq_right (by omega), show L.length - (i + 1) = 0 by omega, List.take_zero, List.drop_of_length_le (by rw [List.length_map]; omega)]
    rfl
theorem smu_k {a : Str} {n : Int} (h2 : 2 ≤ n) (h : n ≤ 100000) (ha : a.length = 1) : smuD (.str a) (.int n) = some (.fz (.str (manyS a n.toNat))) := by
  show grd (decide (2 ≤ n) && (decide (n ≤ 100000) && decide (a.length = 1))) _ = _
  rw [decide_eq_true h2, decide_eq_true h, decide_eq_true ha]
  rfl
theorem ones_ok : ∃ o : Str, smuD (D.str (Str.ofString "1")) (D.int 5000) = some (.fz (.str o)) ∧ Ln 5000 o := by
  have h := smu_k (a := Str.ofString "1") (n := 5000) (by decide) (by decide) (by decide +kernel)
  have h2 := ln_many (a := Str.ofString "1") (ln_of (by decide +kernel)) (5000 : Int).toNat
  exact ⟨_, h, h2.mono (by decide)⟩
theorem changed_ok (hL : Lns B N L) (hB : B ≤ 10000) (hN : N ≤ 100) (i : Nat) (hi : i < L.length) (w : Nat) (hw : w < 24) (c : Nat) (hc : 97 ≤ c ∧ c ≤ 122) : wp (c_law_changed [.lst (L.map .str), .int i, .int w, .str (sgn c)] s) (fun r e s' => e = [] ∧ s' = s ∧ ∃ L', Lns (2 * B + 5010) (N + 1) L' ∧ r = .ow (.lst (L'.map .str))) nX := by
  have hln := hL.n
  have hz : Ln 1 (sgn c) := ⟨Nat.le_refl 1, fun d hd => by
    have e : (sgn c).cps.toList = [c] := rfl
    rw [e, List.mem_singleton] at hd
    subst hd
    unfold Pr; omega⟩
  obtain ⟨l, hl⟩ : ∃ l, L[i]? = some l := ⟨_, List.getElem?_eq_getElem hi⟩
  have hll : Ln B l := hL.h l (List.mem_of_getElem? hl)
  have hlen := hll.l
  have hat : atI (L.map D.str) (i : Int) = some (.str l) := by rw [atI_nat, List.getElem?_map, hl]; rfl
  refine wp_body rfl ?_
  unfold m_law_changed
  refine wp_seq (fun e s' => s' = s ∧ e = [.fz (.lst (L.map .str)), .fz (.int i), .fz (.int w), .fz (.str (sgn c)), .fz (.str l), .un, .un, .un, .un, .un]) ?_ fun e s1 ⟨hs, he⟩ => ?_
  · simp only [stpB, seqK, slots, List.replicate, reduceIte, reduceCtorEq, Nat.reduceAdd, Nat.reduceSub, Nat.reduceLT, Nat.reduceLeDiff, stqB, hat]
  subst hs he
  refine wp_seq (fun e s' => s' = s1 ∧ e = eC L (Txt.split l spS) [] i w (sgn c) l .un) ?_ fun e s2 ⟨hs, he⟩ => ?_
  · unfold eC
    simp only [stpB, seqK, slots, List.replicate, reduceIte, reduceCtorEq, Nat.reduceAdd, Nat.reduceSub, Nat.reduceLT, Nat.reduceLeDiff, stqB, spl_sp (a := l) (by omega)]
  subst hs he
  refine plain_ok hll (by omega) hz rfl fun P hP hPl => ?_
  have hPA : ∀ p ∈ P, Ln (2 * B + 5010) p := fun p hp => (hPl p hp).mono (by omega)
  have hLA : Lns (2 * B + 5010) N L := ⟨hL.n1, hL.n, fun l hl => (hL.h l hl).mono (by omega)⟩
  have hlA : Ln (2 * B + 5010) l := hll.mono (by omega)
  have ct0 : cutD (L.map D.str) (some ((i : Int) + 1)) none = (L.drop (i + 1)).map .str := cut_from (i := i + 1)
  have ct2 : cutD (L.map D.str) (some ((i : Int) + 2)) none = (L.drop (i + 2)).map .str := cut_from (i := i + 2)
  have ct3 : cutD (L.map D.str) none (some (i : Int)) = (L.take i).map .str := cut_to (Nat.le_of_lt hi)
  have ct4 : cutD (L.map D.str) (some (i : Int)) none = (L.drop i).map .str := cut_from
  have s1 : ∀ xs : List Str, xs.length ≤ 1000 → (xs.map D.str).length ≤ 16777215 := fun xs h => by rw [List.length_map]; omega
  have s2 : ∀ (xs ys : List D), xs.length ≤ 1000 → ys.length ≤ 1000 → xs.length + ys.length ≤ 16777216 := fun xs ys h k => by omega
  have lt := List.length_take (i := i) (l := L)
  have ld := List.length_drop (i := i) (l := L)
  have ld1 := List.length_drop (i := i + 1) (l := L)
  have ld2 := List.length_drop (i := i + 2) (l := L)
  have c17 : ((17 : Nat) : Int) = 17 := rfl
  have ci : ((i : Nat) : Int) + 1 = ((i + 1 : Nat) : Int) := rfl
  unfold eC
  by_cases h1 : w < 17
  · obtain ⟨p, hp⟩ : ∃ p, P[w]? = some p := ⟨_, List.getElem?_eq_getElem (by omega)⟩
    have hpa : atI (P.map D.str) (w : Int) = some (.str p) := by rw [atI_nat, List.getElem?_map, hp]; rfl
    have h1' : (w : Int) < 17 := by omega
    simp only [stpB, seqK, slots, List.replicate, reduceIte, reduceCtorEq, Nat.reduceAdd, Nat.reduceSub, Nat.reduceLT, Nat.reduceLeDiff, stqB, List.length_map, hP, c17, h1', hpa, decide_true, ct0, ct3]
    refine ⟨by omega, by simp only [List.length_append, List.length_map, List.length_singleton]; omega, L.take i ++ [p] ++ L.drop (i + 1), swap_ok hLA (hPA p (List.mem_of_getElem? hp)) (Nat.le_refl _) hN i hi, by simp [List.map_append]⟩
  have h1' : ¬ (w : Int) < 17 := by omega
  by_cases h2 : w = 17
  · subst h2
    simp only [stpB, seqK, slots, List.replicate, reduceIte, reduceCtorEq, Nat.reduceAdd, Nat.reduceSub, Nat.reduceLT, Nat.reduceLeDiff, stqB, List.length_map, hP, c17, h1', decide_true, decide_false, ct4, ct3]
    refine ⟨by omega, by simp only [List.length_append, List.length_map, List.length_singleton]; omega, L.take i ++ [l] ++ L.drop i, ⟨by simp; omega, by simp; omega, add_all (add_all (lns_take hLA (Nat.le_refl _) i) (one_ln hlA)) (lns_drop hLA (Nat.le_refl _) i)⟩, by simp [List.map_append]⟩
  have h2' : ¬ (w : Int) = 17 := by omega
  by_cases h3 : w = 18
  · subst h3
    simp only [stpB, seqK, slots, List.replicate, reduceIte, reduceCtorEq, Nat.reduceAdd, Nat.reduceSub, Nat.reduceLT, Nat.reduceLeDiff, stqB, List.length_map, hP, c17, h1', h2', decide_true, decide_false]
    have e0 : Ln (2 * B + 5010) ("" : Str) := (ln_of (B := 0) (by decide +kernel)).mono (Nat.zero_le _)
    exact ⟨by omega, L ++ [("" : Str)], ⟨by simp, by simp; omega, add_all hLA.h (one_ln e0)⟩, by simp [List.map_append]⟩
  have h3' : ¬ (w : Int) = 18 := by omega
  by_cases h4 : (w = 21 ∨ w = 22) ∧ 6 < l.length
  · obtain ⟨h4a, h4b⟩ := h4
    have h4c : ((w : Int) = 17 + 4 ∨ (w : Int) = 17 + 5) := by omega
    have h2s : ¬ (w : Int) = 17 + 1 := by omega
    have hor : ordF [D.str (sgn c)] = some (.fz (.int (c : Int))) := rfl
    have h6 : (6 : Int) < (l.length : Int) := by omega
    have hdv : ∀ n : Nat, 0 < n → n ≤ 10000 → divOk (n : Int) = true := fun n h0 h => by
      unfold divOk
      have : n.log2 < 14 := (Nat.log2_lt (by omega)).mpr (by omega)
      have h2 : (n : Int).natAbs.log2 < 9000 := by rw [Int.natAbs_natCast]; omega
      rw [decide_eq_true h2, decide_eq_true (show (0 : Int) < (n : Int) by omega)]; rfl
    have hd1 : divOk (l.length : Int) = true := hdv _ (by omega) (by omega)
    have hd2 : divOk ((l.length : Int) - 6) = true := by
      have := hdv (l.length - 6) (by omega) (by omega)
      rwa [show ((l.length - 6 : Nat) : Int) = (l.length : Int) - 6 by omega] at this
    have hd3 : divOk 6 = true := by decide
    have hm : mulOk (c : Int) 7 = true := mul_s _ _ (by decide)
    obtain ⟨a, ha⟩ : ∃ a, atI (Str.ofString "1A-+~_").cps.toList ((c : Int) % 6) = some a := by
      have h6 : (Str.ofString "1A-+~_").cps.toList.length = 6 := by decide +kernel
      rw [show (c : Int) % 6 = ((c % 6 : Nat) : Int) by omega, atI_nat]
      exact ⟨_, List.getElem?_eq_getElem (by rw [h6]; omega)⟩
    have haL : Ln 1 (sgn a) := char_ln (ln_of (B := 6) (z := Str.ofString "1A-+~_") (by decide +kernel)).p ha
    have h6l : (Str.ofString "1A-+~_").length ≤ 16777216 := by rw [show (Str.ofString "1A-+~_").length = 6 by decide +kernel]; decide
    have hodd : ∀ p q : Int, Ln (2 * B + 5010) (L2.cutS l none (some p) ++ sgn a ++ L2.cutS l (some q) none) := fun p q => (((ln_cut hll none (some p)).app haL).app (ln_cut hll (some q) none)).mono (by omega)
    have hl1 : ∀ p : Int, (L2.cutS l none (some p)).length + (sgn a).length ≤ 16777216 := fun p => by
      have := (ln_cut hll none (some p)).l
      have := haL.l
      omega
    have hl2 : ∀ p q : Int, (L2.cutS l none (some p) ++ sgn a).length + (L2.cutS l (some q) none).length ≤ 16777216 := fun p q => by
      have := (hodd p q).l
      rw [Str.length_append] at this
      omega
    have f1 : ∀ p q : Int, ((List.map D.str (List.take i L)) ++ [D.str (L2.cutS l none (some p) ++ sgn a ++ L2.cutS l (some q) none)]).length + (List.drop (i + 1) L).length ≤ 16777216 := fun p q => by
      simp only [List.length_append, List.length_map, List.length_singleton]; omega
    have f2 : ∀ p q : Int, ∃ L', Lns (2 * B + 5010) (N + 1) L' ∧ Sl.ow (D.lst (List.map D.str (List.take i L) ++ [D.str (L2.cutS l none (some p) ++ sgn a ++ L2.cutS l (some q) none)] ++ List.map D.str (List.drop (i + 1) L))) = Sl.ow (D.lst (List.map D.str L')) := fun p q =>
      ⟨_, swap_ok hLA (hodd p q) (Nat.le_refl _) hN i hi, by simp [List.map_append]⟩
    have p6 : (0 : Int) < 6 := by decide
    have p60 : (0 : Int) < (l.length : Int) - 6 := by omega
    have p0 : (0 : Int) < (l.length : Int) := by omega
    have pl : l.length ≤ 16777216 := by omega
    by_cases hi0 : i = 0
    · have hi0' : ((i : Int) = 0) = True := eq_true (by omega)
      simp only [stpB, seqK, slots, List.replicate, reduceIte, reduceCtorEq, Nat.reduceAdd, Nat.reduceSub, Nat.reduceLT, Nat.reduceLeDiff, stqB, List.length_map, hP, c17, h1', h2', h2s, decide_false, in_two, h4c, hor, h6, hd1, hd2, hd3, hm, decide_true, ct3, ct0, hi0', pl, p6, p60, p0, h6l, ha, hl1, hl2, true_and, and_true, and_self]
      exact ⟨by omega, f1 _ _, f2 _ _⟩
    · have hi0' : ¬ (i : Int) = 0 := by omega
      simp only [stpB, seqK, slots, List.replicate, reduceIte, reduceCtorEq, Nat.reduceAdd, Nat.reduceSub, Nat.reduceLT, Nat.reduceLeDiff, stqB, List.length_map, hP, c17, h1', h2', h2s, decide_false, in_two, h4c, hor, h6, hd1, hd2, hd3, hm, decide_true, ct3, ct0, hi0', pl, p6, p60, p0, h6l, ha, hl1, hl2, true_and, and_true, and_self]
      exact ⟨by omega, f1 _ _, f2 _ _⟩
  have h4' : ¬ (((w : Int) = 17 + 4 ∨ (w : Int) = 17 + 5) ∧ (6 : Int) < (l.length : Int)) := by
    rintro ⟨a, b⟩
    exact h4 ⟨by omega, by omega⟩
  have h4d : (w : Int) = 17 + 4 ∨ (w : Int) = 17 + 5 → ¬ (6 : Int) < (l.length : Int) := fun a b => h4' ⟨a, b⟩
  have h2s : ¬ (w : Int) = 17 + 1 := by omega
  have ct5 : cutD (L.map D.str) (some ((i : Int) + 1)) (some ((i : Int) + 2)) = ((L.drop (i + 1)).take 1).map .str := cut_one hi
  have pl : l.length ≤ 16777216 := by omega
  by_cases h5 : w = 23
  · have hw1 : ¬ ((w : Int) = 17 + 4 ∨ (w : Int) = 17 + 5) := by omega
    have h5' : ((w : Int) = 17 + 6) = True := eq_true (by omega)
    obtain ⟨o, hsm, hml⟩ := ones_ok
    have hpl : Ln 5001 (Str.ofString "+" ++ o) := ((ln_of (B := 1) (z := "+") (by decide +kernel)).app hml).mono (by decide)
    have hpl' : (Str.ofString "+").length + o.length ≤ 16777216 := by have := hpl.l; rw [Str.length_append] at this; omega
    have hws := words_sum l
    have hwp := words_pr hll.p
    generalize hwe : Txt.split l spS = ws at hws hwp ⊢
    have hsw : (ws.map (·.length)).sum + ws.length ≤ B + 1 := by omega
    have hwl : ws.length ≤ B + 1 := by omega
    have cw1 : cutD (ws.map D.str) none (some 1) = (ws.take 1).map .str := by
      by_cases h : 1 ≤ ws.length
      · exact cut_to (i := 1) h
      · have : ws = [] := by cases ws with | nil => rfl | cons _ _ => simp at h
        subst this; rfl
    have cw2 : cutD (ws.map D.str) (some 2) none = (ws.drop 2).map .str := cut_from (i := 2)
    have hnew : ∀ p ∈ ws.take 1 ++ [Str.ofString "+" ++ o] ++ ws.drop 2, PrS p := fun p hp => by
      simp only [List.mem_append, List.mem_singleton] at hp
      rcases hp with (h | h) | h
      · exact hwp p (List.mem_of_mem_take h)
      · rw [h]; exact hpl.p
      · exact hwp p (List.mem_of_mem_drop h)
    have h2 := (take_drop_sub ws).length_le
    have hsum : ((ws.take 1 ++ [Str.ofString "+" ++ o] ++ ws.drop 2).map (·.length)).sum + (ws.take 1 ++ [Str.ofString "+" ++ o] ++ ws.drop 2).length ≤ B + 5004 := by
      have h1 : ((ws.take 1).map (·.length)).sum + ((ws.drop 2).map (·.length)).sum ≤ (ws.map (·.length)).sum := by
        rw [← List.sum_append, ← List.map_append]
        exact sum_sub (List.Sublist.map _ (take_drop_sub ws))
      have h3 := hpl.l
      rw [List.length_append] at h2
      simp only [List.map_append, List.sum_append, List.map_cons, List.map_nil, List.sum_cons, List.sum_nil, List.length_append, List.length_singleton]
      omega
    have hj := jn_sp (xs := ws.take 1 ++ [Str.ofString "+" ++ o] ++ ws.drop 2) (by omega)
    have hjl : Ln (2 * B + 5010) (Str.join spS (ws.take 1 ++ [Str.ofString "+" ++ o] ++ ws.drop 2)) := (ln_join hnew hsum).mono (by omega)
    simp only [List.map_append, List.map_cons, List.map_nil] at hj
    rw [List.length_append] at h2
    have b1 : (ws.take 1).length ≤ 16777215 := by omega
    have b2 : (List.map D.str (ws.take 1) ++ [D.str (Str.ofString "+" ++ o)]).length + (ws.drop 2).length ≤ 16777216 := by
      simp only [List.length_append, List.length_map, List.length_singleton]; omega
    simp only [stpB, seqK, slots, List.replicate, reduceIte, reduceCtorEq, Nat.reduceAdd, Nat.reduceSub, Nat.reduceLT, Nat.reduceLeDiff, stqB, List.length_map, hP, c17, h1', h2', h2s, decide_true, decide_false, in_two, hw1, h5', ct0, ct3, hsm, hpl', cw1, cw2, hj]
    exact ⟨b1, b2, by omega, by simp only [List.length_append, List.length_map, List.length_singleton]; omega, _, swap_ok hLA hjl (Nat.le_refl _) hN i hi, by simp [List.map_append]⟩
  have h5' : ¬ (w : Int) = 17 + 6 := by omega
  have fin : ∃ L', Lns (2 * B + 5010) (N + 1) L' ∧ Sl.ow (D.lst (List.map D.str (L.take i) ++ (List.map D.str ((L.drop (i + 1)).take 1) ++ [D.str l]) ++ List.map D.str (L.drop (i + 2)))) = Sl.ow (D.lst (List.map D.str L')) :=
    ⟨L.take i ++ ((L.drop (i + 1)).take 1 ++ [l]) ++ L.drop (i + 2), ⟨by simp; omega, by simp; omega, add_all (add_all (lns_take hLA (Nat.le_refl _) i) (add_all (fun p hp => hLA.h p (List.mem_of_mem_drop (List.mem_of_mem_take hp))) (one_ln hlA))) (lns_drop hLA (Nat.le_refl _) _)⟩, by simp [List.map_append]⟩
  have b0 : ((L.drop (i + 1)).take 1).length ≤ L.length := by rw [List.length_take]; omega
  have b1 : ((L.drop (i + 1)).take 1).length ≤ 16777215 := by omega
  have b2 : (List.take i L).length + (List.map D.str ((L.drop (i + 1)).take 1) ++ [D.str l]).length ≤ 16777216 := by
    simp only [List.length_append, List.length_map, List.length_singleton]; omega
  have b3 : (List.map D.str (List.take i L) ++ (List.map D.str ((L.drop (i + 1)).take 1) ++ [D.str l])).length + (List.drop (i + 2) L).length ≤ 16777216 := by
    simp only [List.length_append, List.length_map, List.length_singleton]; omega
  by_cases hw1 : ((w : Int) = 17 + 4 ∨ (w : Int) = 17 + 5)
  · have h6 := h4d hw1
    simp only [stpB, seqK, slots, List.replicate, reduceIte, reduceCtorEq, Nat.reduceAdd, Nat.reduceSub, Nat.reduceLT, Nat.reduceLeDiff, stqB, List.length_map, hP, c17, h1', h2', h2s, h5', decide_true, decide_false, in_two, ct0, ct2, ct3, ct5, hw1, h6, pl]
    exact ⟨b1, b2, b3, fin⟩
  · simp only [stpB, seqK, slots, List.replicate, reduceIte, reduceCtorEq, Nat.reduceAdd, Nat.reduceSub, Nat.reduceLT, Nat.reduceLeDiff, stqB, List.length_map, hP, c17, h1', h2', h2s, h5', decide_true, decide_false, in_two, ct0, ct2, ct3, ct5, hw1]
    exact ⟨b1, b2, b3, fin⟩
end
end My
end
section
set_option maxHeartbeats 200000
namespace My
open PySem Dn
open L2 (atI ixN Key)
section
variable {ks : List Str} {ms ns : List Mv} {m : Mv} {s : List D} {n : Nat}
theorem srt_keys3 (e : Dn.Env) (he : e[1]? = some (.fz (.lst (ks.map .str)))) : ∀ l : List Mv, (∀ m ∈ l, VMv ks m) → srtKeys [1] 2 e kyX (l.map mvD) = some (l.map (kyD ks))
  | [], _ => rfl
  | m :: l, h => by
    have hn : noC (.lst (ks.map D.str)) = true := noc_ks
    have h1 : kyX (lamE [1] 2 e (mvD m)) [] = .ok (kyD ks m) (lamE [1] 2 e (mvD m)) [] := by
      have hl : lamE [1] 2 e (mvD m) = [.fz (mvD m), .fz (.lst (ks.map .str))] := by
        simp [lamE, capE, capS, he, hn]
      rw [hl]
      exact kyX_ok (h m List.mem_cons_self)
    show (match kyX (lamE [1] 2 e (mvD m)) [] with
      | .ok k _ _ => (srtKeys [1] 2 e kyX (l.map mvD)).map (k :: ·)
      | _ => none) = _
    rw [h1]
    dsimp only
    rw [srt_keys3 e he l fun m hm => h m (List.mem_cons_of_mem _ hm)]
    rfl
theorem md_ln {z : Str} (h : Md z) : Ln 8 z := ⟨h.2.1, fun c hc => by
  obtain ⟨u, hu, rfl⟩ := h.2.2 c hc
  unfold Pr ltr; omega⟩
theorem sgn_ln {i : Int} (h : -6 ≤ i ∧ i ≤ 6) : Ln 2 (sgnT i) := by
  rcases six h with rfl | rfl | rfl | rfl | rfl | rfl | rfl | rfl | rfl | rfl | rfl | rfl | rfl <;> exact ln_of (by decide +kernel)
def lnM (m : Mv) : Str := Str.join spS [m.1, sgnT m.2.1, sgnT m.2.2.1, m.2.2.2]
theorem lnM_ln (hk : Kinds ks) (h : VMv ks m) : Ln 40 (lnM m) := by
  have a := md_ln (hk.md _ h.a)
  have b := md_ln (hk.md _ h.b)
  have c := sgn_ln ⟨h.r0, h.r1⟩
  have d := sgn_ln ⟨h.c0, h.c1⟩
  refine ln_join (fun p hp => ?_) ?_
  · simp only [List.mem_cons, List.not_mem_nil, or_false] at hp
    rcases hp with rfl | rfl | rfl | rfl
    · exact a.p
    · exact c.p
    · exact d.p
    · exact b.p
  · have := a.l
    have := b.l
    have := c.l
    have := d.l
    simp only [List.map_cons, List.map_nil, List.sum_cons, List.sum_nil, List.length_cons, List.length_nil]
    omega
theorem head_ln (hk : Kinds ks) : Ln 40 ("modes " ++ Str.join spS ks) := by
  have hs : (ks.map (·.length)).sum ≤ ks.length * 8 := by
    have := sum_le (l := ks.map (·.length)) (b := 8) fun x hx => by
      obtain ⟨k, hk1, rfl⟩ := List.mem_map.mp hx
      exact (md_ln (hk.md k hk1)).l
    rwa [List.length_map] at this
  have h3 := hk.le
  have hj : Ln 27 (Str.join spS ks) := ln_join (fun p hp => (md_ln (hk.md p hp)).p) (by omega)
  exact ((ln_of (B := 6) (z := "modes ") (by decide +kernel)).app hj).mono (by decide)
theorem kinds_by {ks : List Str} (h : (decide (1 ≤ ks.length) && decide (ks.length ≤ 3) && decide ks.Nodup && ks.all fun z => decide (1 ≤ z.cps.toList.length) && decide (z.cps.toList.length ≤ 8) && z.cps.toList.all fun c => decide (97 ≤ c) && decide (c < 123)) = true) : Kinds ks := by
  simp only [Bool.and_eq_true] at h
  obtain ⟨⟨⟨h1, h2⟩, h3⟩, h4⟩ := h
  exact ⟨of_decide_eq_true h1, of_decide_eq_true h2, of_decide_eq_true h3, fun k hk => md_by (List.all_eq_true.mp h4 k hk)⟩
def hdW : List Str := ["a", "b", "ab", "rest", "modes", "abcdefgh", "abcdefghi", "A"]
theorem lines_ok (hp : Src n s) : wp (c_law_lines [.cell n] s) (fun r e s' => e = [] ∧ Src n s' ∧ Sam n s s' ∧ ∃ L, Lns 40 10 L ∧ r = .fz (.lst (L.map .str))) nX := by
  refine wp_body rfl ?_
  unfold m_law_lines
  refine wp_seq (fun e s1 => Src n s1 ∧ Sam n s s1 ∧ ∃ ks, Kinds ks ∧ e = [.fz (.cell n), .fz (.lst (ks.map .str)), .un, .un, .un, .un, .un, .un, .un, .un, .un]) ?_ fun e s1 ⟨hP1, hS1, ks, hk, he⟩ => ?_
  · simp only [stpB, seqK, slots, List.replicate, reduceIte, reduceCtorEq, Nat.reduceAdd, Nat.reduceSub, Nat.reduceLT, Nat.reduceLeDiff, stqB]
    refine wp_draw hp (by decide) (by decide) fun v s1 hv hP1 hS1 => ?_
    have hv : v = 0 ∨ v = 1 ∨ v = 2 ∨ v = 3 := by omega
    rcases hv with rfl | rfl | rfl | rfl
    · simp only [stpB, seqK, slots, List.replicate, reduceIte, reduceCtorEq, Nat.reduceAdd, Nat.reduceSub, Nat.reduceLT, Nat.reduceLeDiff, stqB]
      exact ⟨_, rfl, hP1, hS1, ["rest"], kinds_by (by decide +kernel), rfl⟩
    · simp only [stpB, seqK, slots, List.replicate, reduceIte, reduceCtorEq, Nat.reduceAdd, Nat.reduceSub, Nat.reduceLT, Nat.reduceLeDiff, stqB]
      exact ⟨_, rfl, hP1, hS1, ["go", "stay"], kinds_by (by decide +kernel), rfl⟩
    · simp only [stpB, seqK, slots, List.replicate, reduceIte, reduceCtorEq, Nat.reduceAdd, Nat.reduceSub, Nat.reduceLT, Nat.reduceLeDiff, stqB]
      exact ⟨_, rfl, hP1, hS1, ["b", "abcdefgh", "a"], kinds_by (by decide +kernel), rfl⟩
    · simp only [stpB, seqK, slots, List.replicate, reduceIte, reduceCtorEq, Nat.reduceAdd, Nat.reduceSub, Nat.reduceLT, Nat.reduceLeDiff, stqB]
      exact ⟨_, rfl, hP1, hS1, ["x", "xy"], kinds_by (by decide +kernel), rfl⟩
  subst he
  refine wp_seq (fun e s2 => Src n s2 ∧ Sam n s s2 ∧ ∃ sp : Nat, 1 ≤ sp ∧ sp ≤ 6 ∧ e = [.fz (.cell n), .fz (.lst (ks.map .str)), .fz (.int sp), .un, .un, .un, .un, .un, .un, .un, .un]) ?_ fun e s2 ⟨hP2, hS2, sp, hs1, hs6, he⟩ => ?_
  · simp only [stpB, seqK, slots, List.replicate, reduceIte, reduceCtorEq, Nat.reduceAdd, Nat.reduceSub, Nat.reduceLT, Nat.reduceLeDiff, stqB]
    refine wp_draw hP1 (by decide) (by decide) fun u t1 hu hQ1 hT1 => ?_
    have hu : u = 0 ∨ u = 1 := by omega
    rcases hu with rfl | rfl
    · simp only [stpB, seqK, slots, List.replicate, reduceIte, reduceCtorEq, Nat.reduceAdd, Nat.reduceSub, Nat.reduceLT, Nat.reduceLeDiff, stqB]
      exact ⟨_, rfl, hQ1, hS1.trans hT1, 1, by decide, by decide, rfl⟩
    · simp only [stpB, seqK, slots, List.replicate, reduceIte, reduceCtorEq, Nat.reduceAdd, Nat.reduceSub, Nat.reduceLT, Nat.reduceLeDiff, stqB]
      exact ⟨_, rfl, hQ1, hS1.trans hT1, 6, by decide, by decide, rfl⟩
  subst he
  refine wp_seq (fun e s3 => s3 = s2 ∧ e = [.fz (.cell n), .fz (.lst (ks.map .str)), .fz (.int sp), .ow (.lst []), .un, .un, .un, .un, .un, .un, .un]) ?_ fun e s3 ⟨hs3, he⟩ => ?_
  · simp only [stpB, seqK, slots, List.replicate, reduceIte, reduceCtorEq, Nat.reduceAdd, Nat.reduceSub, Nat.reduceLT, Nat.reduceLeDiff, stqB]
  subst hs3 he
  refine wp_seq (fun e s4 => Src n s4 ∧ Sam n s s4 ∧ ∃ (ms : List Mv) (x4 x6 x7 x8 x9 : Sl), ms.length ≤ 9 ∧ (∀ m ∈ ms, VMv ks m) ∧ e = [.fz (.cell n), .fz (.lst (ks.map .str)), .fz (.int sp), .ow (.lst ((ddp ms).map mvD)), x4, .un, x6, x7, x8, x9, .un]) ?_ fun e s4 ⟨hP4, hS4, ms, x4, x6, x7, x8, x9, hml, hmv, he⟩ => ?_
  · simp only [stpB, seqK, slots, List.replicate, reduceIte, reduceCtorEq, Nat.reduceAdd, Nat.reduceSub, Nat.reduceLT, Nat.reduceLeDiff, stqB]
    refine wp_draw hP2 (by decide) (by decide) fun v t0 hv hQ0 hT0 => ?_
    simp only [stpB, seqK, slots, List.replicate, reduceIte, reduceCtorEq, Nat.reduceAdd, Nat.reduceSub, Nat.reduceLT, Nat.reduceLeDiff, stqB, bnd_of (i := (v : Int)) (by omega) (by omega), Int.toNat_natCast]
    refine wp_forR (n := v) (fun i e s' => Src n s' ∧ Sam n s s' ∧ i ≤ v ∧ ∃ (ms : List Mv) (x4 x6 x7 x8 x9 : Sl), ms.length = i ∧ (∀ m ∈ ms, VMv ks m) ∧ e = [.fz (.cell n), .fz (.lst (ks.map .str)), .fz (.int sp), .ow (.lst ((ddp ms).map mvD)), x4, .un, x6, x7, x8, x9, .un]) ⟨hQ0, hS2.trans hT0, by omega, [], _, _, _, _, _, rfl, fun m h => absurd h (List.not_mem_nil), rfl⟩ (fun i e s hi hj => ?_) fun e s hj => ?_
    · obtain ⟨hQ, hS, hiv, ms, x4, x6, x7, x8, x9, hml, hmv, rfl⟩ := hj
      unfold l1_law_lines
      have m2 : mulOk 2 (sp : Int) = true := mul_s _ _ (by omega)
      have hk1 := hk.pos
      simp only [stpB, seqK, slots, List.replicate, reduceIte, reduceCtorEq, Nat.reduceAdd, Nat.reduceSub, Nat.reduceLT, Nat.reduceLeDiff, stqB, List.length_map]
      refine wp_draw hQ (by omega) (by have := hk.le; omega) fun a t1 ha hQ1 hT1 => ?_
      have ha : a < ks.length := by omega
      simp only [stpB, seqK, slots, List.replicate, reduceIte, reduceCtorEq, Nat.reduceAdd, Nat.reduceSub, Nat.reduceLT, Nat.reduceLeDiff, stqB, ks_at ha, m2]
      refine wp_draw hQ1 (by omega) (by omega) fun b t2 hb hQ2 hT2 => ?_
      simp only [stpB, seqK, slots, List.replicate, reduceIte, reduceCtorEq, Nat.reduceAdd, Nat.reduceSub, Nat.reduceLT, Nat.reduceLeDiff, stqB, m2]
      refine wp_draw hQ2 (by omega) (by omega) fun c t3 hc hQ3 hT3 => ?_
      simp only [stpB, seqK, slots, List.replicate, reduceIte, reduceCtorEq, Nat.reduceAdd, Nat.reduceSub, Nat.reduceLT, Nat.reduceLeDiff, stqB, List.length_map]
      refine wp_draw hQ3 (by omega) (by have := hk.le; omega) fun d t4 hd hQ4 hT4 => ?_
      have hd : d < ks.length := by omega
      have hvm : VMv ks (ks[a], (b : Int) - (sp : Int), (c : Int) - (sp : Int), ks[d]) := ⟨List.getElem_mem ha, List.getElem_mem hd, by show -6 ≤ (b : Int) - sp; omega, by show (b : Int) - sp ≤ 6; omega, by show -6 ≤ (c : Int) - sp; omega, by show (c : Int) - sp ≤ 6; omega⟩
      have hSS := ((((hS.trans hT1).trans hT2).trans hT3).trans hT4)
      have hdv : ∀ x ∈ ddp ms, VMv ks x := fun x hx => hmv x (ddp_mem.mp hx)
      have hdl := ddp_len ms
      have hin := mv_in hk hdv hvm
      have hds : ddp (ms ++ [(ks[a], (b : Int) - (sp : Int), (c : Int) - (sp : Int), ks[d])]) = ins (ddp ms) (ks[a], (b : Int) - (sp : Int), (c : Int) - (sp : Int), ks[d]) := by
        unfold ddp
        rw [List.foldl_append]
        rfl
      have hnew : ∀ m ∈ ms ++ [(ks[a], (b : Int) - (sp : Int), (c : Int) - (sp : Int), ks[d])], VMv ks m := fun m hm => by
        rcases List.mem_append.mp hm with h | h
        · exact hmv m h
        · rw [List.mem_singleton.mp h]; exact hvm
      have hmvd : D.tup false [.str ks[a], .int ((b : Int) - (sp : Int)), .int ((c : Int) - (sp : Int)), .str ks[d]] = mvD (ks[a], (b : Int) - (sp : Int), (c : Int) - (sp : Int), ks[d]) := rfl
      have mc : ∀ s, cont s (mvD (ks[a], (b : Int) - (sp : Int), (c : Int) - (sp : Int), ks[d])) = some (mvD (ks[a], (b : Int) - (sp : Int), (c : Int) - (sp : Int), ks[d])) := fun _ => rfl
      by_cases hml2 : (ks[a], (b : Int) - (sp : Int), (c : Int) - (sp : Int), ks[d]) ∈ ddp ms
      · simp only [stpB, seqK, slots, List.replicate, reduceIte, reduceCtorEq, Nat.reduceAdd, Nat.reduceSub, Nat.reduceLT, Nat.reduceLeDiff, stqB, ks_at hd, hmvd, mc, hin, hml2, decide_true, Bool.not_true]
        have e1 : ddp (ms ++ [(ks[a], (b : Int) - (sp : Int), (c : Int) - (sp : Int), ks[d])]) = ddp ms := by rw [hds]; unfold ins; rw [if_pos hml2]
        exact ⟨hQ4, hSS, by omega, ms ++ [(ks[a], (b : Int) - (sp : Int), (c : Int) - (sp : Int), ks[d])], _, _, _, _, _, by simp [hml], hnew, by rw [e1]⟩
      · simp only [stpB, seqK, slots, List.replicate, reduceIte, reduceCtorEq, Nat.reduceAdd, Nat.reduceSub, Nat.reduceLT, Nat.reduceLeDiff, stqB, ks_at hd, hmvd, mc, hin, hml2, decide_false, Bool.not_false, List.length_map, show (ddp ms).length < 16777216 by omega]
        have e1 : ddp (ms ++ [(ks[a], (b : Int) - (sp : Int), (c : Int) - (sp : Int), ks[d])]) = ddp ms ++ [(ks[a], (b : Int) - (sp : Int), (c : Int) - (sp : Int), ks[d])] := by rw [hds]; unfold ins; rw [if_neg hml2]
        exact ⟨hQ4, hSS, by omega, ms ++ [(ks[a], (b : Int) - (sp : Int), (c : Int) - (sp : Int), ks[d])], _, _, _, _, _, by simp [hml], hnew, by rw [e1, List.map_append]; rfl⟩
    · obtain ⟨hQ, hS, hiv, ms, x4, x6, x7, x8, x9, hml, hmv, rfl⟩ := hj
      exact ⟨rfl, hQ, hS, ms, _, _, _, _, _, by omega, hmv, rfl⟩
  subst he
  have hdv : ∀ x ∈ ddp ms, VMv ks x := fun x hx => hmv x (ddp_mem.mp hx)
  have hdl := ddp_len ms
  have hsr : srtM [1] 2 (frzM (rdN 3)) kyX [.fz (.cell n), .fz (.lst (ks.map .str)), .fz (.int sp), .ow (.lst ((ddp ms).map mvD)), x4, .un, x6, x7, x8, x9, .un] s4 = .ok (.ow (.lst ((bkM ks ms).map mvD))) [.fz (.cell n), .fz (.lst (ks.map .str)), .fz (.int sp), .fz (.lst ((ddp ms).map mvD)), x4, .un, x6, x7, x8, x9, .un] s4 := by
    refine det ?_
    show wp (M.bind _ (srtK [1] 2 _) _ _) _ _
    simp only [stpB, seqK, slots, List.replicate, reduceIte, reduceCtorEq, Nat.reduceAdd, Nat.reduceSub, Nat.reduceLT, Nat.reduceLeDiff, stqB]
    show wp (if noCL ((ddp ms).map mvD) then match srtKeys [1] 2 [.fz (.cell n), .fz (.lst (ks.map .str)), .fz (.int sp), .fz (.lst ((ddp ms).map mvD)), x4, .un, x6, x7, x8, x9, .un] _ ((ddp ms).map mvD) with
      | some ks => if keyOk ks then _ else _
      | none => _
      else _) _ _
    rw [if_pos (nocl_mv _), srt_keys3 _ rfl _ hdv]
    dsimp only
    rw [if_pos (key_ok _), sort_mv]
    exact .ok ⟨rfl, rfl, rfl⟩
  have hbv : ∀ m ∈ bkM ks ms, VMv ks m := fun m hm => hmv m (by have := bkM_mem.mp hm; exact this)
  have hbl : (bkM ks ms).length ≤ 9 := by unfold bkM; rw [List.length_mergeSort]; omega
  have hhead := head_ln hk
  have hhl := hhead.l
  rw [Str.length_append] at hhl
  have hks : (ks.map (·.length)).sum + ks.length ≤ 16777216 := by
    have := sum_le (l := ks.map (·.length)) (b := 8) fun x hx => by
      obtain ⟨k, hk1, rfl⟩ := List.mem_map.mp hx
      exact (md_ln (hk.md k hk1)).l
    rw [List.length_map] at this
    have := hk.le
    omega
  refine wp_seq (fun e s' => s' = s4 ∧ e = [.fz (.cell n), .fz (.lst (ks.map .str)), .fz (.int sp), .ow (.lst ((bkM ks ms).map mvD)), x4, .un, x6, x7, x8, x9, .un]) ?_ fun e s5 ⟨hs5, he⟩ => ?_
  · simp only [stpB, seqK, slots, List.replicate, reduceIte, reduceCtorEq, Nat.reduceAdd, Nat.reduceSub, Nat.reduceLT, Nat.reduceLeDiff, stqB, hsr]
  subst hs5 he
  refine wp_seq (fun e s' => s' = s5 ∧ e = [.fz (.cell n), .fz (.lst (ks.map .str)), .fz (.int sp), .ow (.lst ((bkM ks ms).map mvD)), x4, .ow (.lst [.str ("modes " ++ Str.join spS ks)]), x6, x7, x8, x9, .un]) ?_ fun e s6 ⟨hs6, he⟩ => ?_
  · have hh2 : (Str.ofString "modes ").length + (spS.join ks).length ≤ 16777216 := by omega
    simp only [stpB, seqK, slots, List.replicate, reduceIte, reduceCtorEq, Nat.reduceAdd, Nat.reduceSub, Nat.reduceLT, Nat.reduceLeDiff, stqB, jn_sp hks, hh2]
  subst hs6 he
  generalize bkM ks ms = ns at *
  refine wp_seq (fun e s' => s' = s6 ∧ ∃ x6 x10, e = [.fz (.cell n), .fz (.lst (ks.map .str)), .fz (.int sp), .fz (.lst (ns.map mvD)), x4, .ow (.lst ((("modes " ++ Str.join spS ks) :: ns.map lnM).map .str)), x6, x7, x8, x9, x10]) ?_ fun e s7 ⟨hs7, x6, x10, he⟩ => ?_
  · simp only [stpB, seqK, slots, List.replicate, reduceIte, reduceCtorEq, Nat.reduceAdd, Nat.reduceSub, Nat.reduceLT, Nat.reduceLeDiff, stqB]
    refine wp_forL ns mvD (fun i e s' => s' = s6 ∧ i ≤ ns.length ∧ ∃ x6 x10, e = [.fz (.cell n), .fz (.lst (ks.map .str)), .fz (.int sp), .fz (.lst (ns.map mvD)), x4, .ow (.lst ((("modes " ++ Str.join spS ks) :: (ns.take i).map lnM).map .str)), x6, x7, x8, x9, x10]) ⟨rfl, Nat.zero_le _, _, _, rfl⟩ (fun i m e s' hi hj => ?_) fun e s' hj => ?_
    · obtain ⟨rfl, hi0, x6, x10, rfl⟩ := hj
      have hil := (List.getElem?_eq_some_iff.mp hi).1
      have hvm := hbv m (List.mem_of_getElem? hi)
      have hts : (ns.take (i + 1)).map lnM = (ns.take i).map lnM ++ [lnM m] := by rw [List.take_succ, hi, Option.toList_some, List.map_append]; rfl
      have mc : ∀ s, cont s (mvD m) = some (mvD m) := fun _ => rfl
      have i0 : ixD (mvD m) (.int 0) = some (.fz (.str m.1)) := by unfold mvD; rw [ix_tup, atI0]; rfl
      have i1 : ixD (mvD m) (.int 1) = some (.fz (.int m.2.1)) := by unfold mvD; rw [ix_tup, atI1]; rfl
      have i2 : ixD (mvD m) (.int 2) = some (.fz (.int m.2.2.1)) := by unfold mvD; rw [ix_tup, atI2]; rfl
      have i3 : ixD (mvD m) (.int 3) = some (.fz (.str m.2.2.2)) := by unfold mvD; rw [ix_tup, atI3]; rfl
      have hjw := (lnM_ln hk hvm).l
      have hj : jnF (.str " ") [.lst [.str m.1, .str (sgnT m.2.1), .str (sgnT m.2.2.1), .str m.2.2.2]] = some (.fz (.str (lnM m))) := jn_sp (xs := [m.1, sgnT m.2.1, sgnT m.2.2.1, m.2.2.2]) (by
        have a := (md_ln (hk.md _ hvm.a)).l
        have b := (md_ln (hk.md _ hvm.b)).l
        have c := (sgn_ln ⟨hvm.r0, hvm.r1⟩).l
        have d := (sgn_ln ⟨hvm.c0, hvm.c1⟩).l
        simp only [List.map_cons, List.map_nil, List.sum_cons, List.sum_nil, List.length_cons, List.length_nil]
        omega)
      unfold l2_law_lines
      simp only [stpB, seqK, slots, List.replicate, reduceIte, reduceCtorEq, Nat.reduceAdd, Nat.reduceSub, Nat.reduceLT, Nat.reduceLeDiff, stqB, mc, i0, i1, i2, i3, law_sign_ok ⟨hvm.r0, hvm.r1⟩, law_sign_ok ⟨hvm.c0, hvm.c1⟩, hj, hts]
      exact ⟨by simp only [List.length_map, List.length_take]; omega, hil, _, _, by simp only [List.map_append]; rfl⟩
    · obtain ⟨rfl, hi0, x6, x10, rfl⟩ := hj
      rw [List.take_length]
      exact ⟨rfl, rfl, _, _, rfl⟩
  subst hs7 he
  simp only [stpB, seqK, slots, List.replicate, reduceIte, reduceCtorEq, Nat.reduceAdd, Nat.reduceSub, Nat.reduceLT, Nat.reduceLeDiff, stqB]
  exact ⟨hP4, hS4, ("modes " ++ Str.join spS ks) :: ns.map lnM, ⟨by simp, by simp; omega, fun p hp => by
    rcases List.mem_cons.mp hp with rfl | hp
    · exact hhead
    · obtain ⟨m, hm, rfl⟩ := List.mem_map.mp hp
      exact lnM_ln hk (hbv m hm)⟩, rfl⟩
theorem head_ok (hp : Src n s) : wp (c_law_head [.cell n] s) (fun r e s' => e = [] ∧ Src n s' ∧ Sam n s s' ∧ ∃ l, Ln 100 l ∧ r = .fz (.str l)) nX := by
  refine wp_body rfl ?_
  unfold m_law_head
  refine wp_seq (fun e s1 => s1 = s ∧ e = [.fz (.cell n), .fz (.lst (hdW.map .str)), .un, .un]) ?_ fun e s1 ⟨hs1, he⟩ => ?_
  · simp only [stpB, seqK, slots, List.replicate, reduceIte, reduceCtorEq, Nat.reduceAdd, Nat.reduceSub, Nat.reduceLT, Nat.reduceLeDiff, stqB]
    rfl
  subst hs1 he
  refine wp_seq (fun e s2 => Src n s2 ∧ Sam n s1 s2 ∧ ∃ w, Ln 5 w ∧ e = [.fz (.cell n), .fz (.lst (hdW.map .str)), .fz (.str w), .un]) ?_ fun e s2 ⟨hP2, hS2, w, hw, he⟩ => ?_
  · simp only [stpB, seqK, slots, List.replicate, reduceIte, reduceCtorEq, Nat.reduceAdd, Nat.reduceSub, Nat.reduceLT, Nat.reduceLeDiff, stqB]
    refine wp_draw hp (by decide) (by decide) fun v s1 hv hP1 hS1 => ?_
    have hv : v = 0 ∨ v = 1 ∨ v = 2 ∨ v = 3 ∨ v = 4 ∨ v = 5 := by omega
    rcases hv with rfl | rfl | rfl | rfl | rfl | rfl <;> (simp only [stpB, seqK, slots, List.replicate, reduceIte, reduceCtorEq, Nat.reduceAdd, Nat.reduceSub, Nat.reduceLT, Nat.reduceLeDiff, stqB]; exact ⟨_, rfl, hP1, hS1, _, ln_of (by decide +kernel), rfl⟩)
  subst he
  simp only [stpB, seqK, slots, List.replicate, reduceIte, reduceCtorEq, Nat.reduceAdd, Nat.reduceSub, Nat.reduceLT, Nat.reduceLeDiff, stqB]
  refine wp_draw hP2 (by decide) (by decide) fun v t1 hv hQ1 hT1 => ?_
  simp only [stpB, seqK, slots, List.replicate, reduceIte, reduceCtorEq, Nat.reduceAdd, Nat.reduceSub, Nat.reduceLT, Nat.reduceLeDiff, stqB, bnd_of (i := (v : Int)) (by omega) (by omega), Int.toNat_natCast]
  have hl : (rngL 0 v).length = v := by unfold rngL; rw [List.length_map, List.length_range]
  refine wp_lcK (fun i acc e s' => e = [.fz (.cell n), .fz (.lst (hdW.map .str)), .fz (.str w), .un] ∧ Src n s' ∧ Sam n s1 s' ∧ ∃ ws : List Str, ws.length = i ∧ (∀ p ∈ ws, Ln 9 p) ∧ acc = ws.map .str) ⟨rfl, hQ1, hS2.trans hT1, [], rfl, fun p hp => absurd hp List.not_mem_nil, rfl⟩ (fun i d acc e s' hi hj => ?_) fun acc e s' hj => ?_
  · obtain ⟨rfl, hQ, hS, ws, hwl, hwp, rfl⟩ := hj
    obtain ⟨hiv, rfl⟩ := rngL_get hi
    unfold lcStep
    simp only [stpB, seqK, slots, List.replicate, reduceIte, reduceCtorEq, Nat.reduceAdd, Nat.reduceSub, Nat.reduceLT, Nat.reduceLeDiff, stqB]
    refine wp_draw hQ (by decide) (by decide) fun u t2 hu hQ2 hT2 => ?_
    obtain ⟨p, hp⟩ : ∃ p, hdW[u]? = some p := ⟨_, List.getElem?_eq_getElem (by show u < 8; omega)⟩
    have hpa : atI (hdW.map D.str) (u : Int) = some (.str p) := by rw [atI_nat, List.getElem?_map, hp]; rfl
    have hpl : Ln 9 p := by
      have : ∀ q ∈ hdW, lnB 9 q = true := by decide +kernel
      exact ln_of (this p (List.mem_of_getElem? hp))
    simp only [stpB, seqK, slots, List.replicate, reduceIte, reduceCtorEq, Nat.reduceAdd, Nat.reduceSub, Nat.reduceLT, Nat.reduceLeDiff, stqB, hpa, List.length_map]
    rw [if_pos (show ws.length < 16777216 by omega)]
    exact ⟨rfl, hQ2, hS.trans hT2, ws ++ [p], by simp [hwl], fun q hq => (List.mem_append.mp hq).elim (hwp q) fun h => by rw [List.mem_singleton.mp h]; exact hpl, by rw [List.map_append]; rfl⟩
  · obtain ⟨rfl, hQ, hS, ws, hwl, hwp, rfl⟩ := hj
    rw [hl] at hwl
    have hall : ∀ p ∈ w :: ws, PrS p := fun p hp => by
      rcases List.mem_cons.mp hp with rfl | hp
      · exact hw.p
      · exact (hwp p hp).p
    have hsum : ((w :: ws).map (·.length)).sum + (w :: ws).length ≤ 100 := by
      have := sum_le (l := ws.map (·.length)) (b := 9) fun x hx => by
        obtain ⟨k, hk1, rfl⟩ := List.mem_map.mp hx
        exact (hwp k hk1).l
      rw [List.length_map] at this
      have := hw.l
      rw [List.map_cons, List.sum_cons, List.length_cons]
      omega
    have hj := jn_sp (xs := w :: ws) (by omega)
    rw [List.map_cons] at hj
    simp only [stpB, seqK, slots, List.replicate, reduceIte, reduceCtorEq, Nat.reduceAdd, Nat.reduceSub, Nat.reduceLT, Nat.reduceLeDiff, stqB, hj, List.length_map]
    exact ⟨by omega, hQ, hS, _, ln_join hall hsum, rfl⟩
end
end My
end
section
set_option maxHeartbeats 200000
namespace My
open PySem Dn
open L2 (atI ixN Key)
section
variable {ks : List Str} {ms ns : List Mv} {m : Mv} {s : List D} {n : Nat} {h : Str} {os L : List Str}
theorem parse_no (hf : Fr0 10 (h :: os)) (hl : (Str.join nlS (h :: os)).length ≤ 1000000) {k : Nat} (hr : pRes (h :: os) = .inl k) (s : List D) : c_g_parse_book [.str (Str.join nlS (h :: os))] s = .exn "InvalidText" [("line", .int (k : Int))] [] s := by
  have hw := parse_book_gen (s := s) hf hl
  generalize c_g_parse_book [.str (Str.join nlS (h :: os))] s = o at hw
  cases hw with
  | ok q =>
    obtain ⟨_, _, ks, ns, q, _⟩ := q
    rw [hr] at q; cases q
  | exn q =>
    obtain ⟨rfl, rfl, rfl, j, q, rfl⟩ := q
    rw [hr] at q; cases q; rfl
theorem parse_yes (hf : Fr0 10 (h :: os)) (hl : (Str.join nlS (h :: os)).length ≤ 1000000) (hr : pRes (h :: os) = .inr (ks, ns)) (s : List D) : c_g_parse_book [.str (Str.join nlS (h :: os))] s = .ok (.ow (bkO ks ns)) [] s := by
  have hw := parse_book_gen (s := s) hf hl
  generalize c_g_parse_book [.str (Str.join nlS (h :: os))] s = o at hw
  cases hw with
  | ok q =>
    obtain ⟨rfl, rfl, ks, ns, q, rfl⟩ := q
    rw [hr] at q; cases q; rfl
  | exn q =>
    obtain ⟨_, _, _, j, q, _⟩ := q
    rw [hr] at q; cases q
def eT (zs : List Int) (x2 x3 x4 x5 x6 x7 x8 x9 x10 x11 x12 : Sl) : Dn.Env := [.fz (.scr zs), .fz (.cell 0), x2, x3, x4, x5, x6, x7, x8, x9, x10, x11, x12]
theorem is_at11 {a : Addr} {a0 a1 a2 a3 a4 a5 a6 a7 a8 a9 a10 x12 : Sl} : isE a 11 [a0, a1, a2, a3, a4, a5, a6, a7, a8, a9, a10, .ad a, x12] = true := by unfold isE; simp
theorem turn_ok (zs : List Int) (x2 x3 x4 x5 x7 x10 x12 : Sl) (hf : Fr0 10 (h :: os)) (hl : (Str.join nlS (h :: os)).length ≤ 1000000) : wp (l2_g_law (eT zs x2 x3 x4 x5 (.fz (.lst ((h :: os).map .str))) x7 (.fz (.lst (dueL (pRes (h :: os))))) (.fz (.str (Str.join nlS (h :: os)))) x10 .un x12) s)
    (fun f e s' => f = .nx ∧ s' = s ∧ ∃ x12', e = eT zs x2 x3 x4 x5 (.fz (.lst ((h :: os).map .str))) x7 (.fz (.lst (dueL (pRes (h :: os))))) (.fz (.str (Str.join nlS (h :: os)))) x10 .un x12') nX := by
  unfold l2_g_law
  have c1 : ((1 : Nat) : Int) = 1 := rfl
  have c2 : ((2 : Nat) : Int) = 2 := rfl
  have c21 : ¬ (2 : Int) = 1 := by decide
  have nn : isNn .non = true := rfl
  cases hr : pRes (h :: os) with
  | inl k =>
    have hp := parse_no hf hl hr
    have t1 : tb3 lst.l.xt "InvalidText" "InvalidText" = some true := by decide +kernel
    have t2 : noB lst.l.no "line" "InvalidText" = true := by decide +kernel
    have t3 : tb3 lst.l.kt "BoardError" "InvalidText" = some true := by decide +kernel
    have t4 : tv3 lst.l.vt "ValueError" "InvalidText" = some true := by decide +kernel
    have t5 : tb3 lst.l.kt "InvalidBook" "InvalidText" = some false := by decide +kernel
    have t6 : (tagD (.int (k : Int))).bind (tg3 lst.l.bt "bool") = some false := by show tg3 lst.l.bt "bool" _ = _; decide +kernel
    have lk : List.lookup ("line" : Str) [(("line" : Str), D.int (k : Int))] = some (D.int (k : Int)) := rfl
    refine wp_seq (fun e s' => s' = s ∧ e = eT zs x2 x3 x4 x5 (.fz (.lst ((h :: os).map .str))) x7 (.fz (.lst (dueL (.inl k)))) (.fz (.str (Str.join nlS (h :: os)))) x10 .un (.fz .non)) ?_ fun e s1 ⟨hs, he⟩ => ?_
    · refine wp_try ?_
      unfold eT dueL
      simp only [stpB, seqK, slots, List.replicate, reduceIte, reduceCtorEq, Nat.reduceAdd, Nat.reduceSub, Nat.reduceLT, Nat.reduceLeDiff, stqB, hp, t1]
      refine ⟨.nx, [.fz (.scr zs), .fz (.cell 0), x2, x3, x4, x5, .fz (.lst ((h :: os).map .str)), x7, .fz (.lst [.int (k : Int)]), .fz (.str (Str.join nlS (h :: os))), x10, .un, .fz .non], s, fun a => det ?_, ?_⟩
      · simp only [stpB, seqK, slots, List.replicate, reduceIte, reduceCtorEq, Nat.reduceAdd, Nat.reduceSub, Nat.reduceLT, Nat.reduceLeDiff, stqB, xi_app, xf_app, is_at11, t2, t3, t4, t5, t6, lk, Bool.and_true, Bool.not_true, Bool.not_false, c1, decide_true]
      · simp only [stpB, seqK, slots, List.replicate, reduceIte, reduceCtorEq, Nat.reduceAdd, Nat.reduceSub, Nat.reduceLT, Nat.reduceLeDiff, stqB]
    subst hs he
    unfold eT dueL
    simp only [stpB, seqK, slots, List.replicate, reduceIte, reduceCtorEq, Nat.reduceAdd, Nat.reduceSub, Nat.reduceLT, Nat.reduceLeDiff, stqB, c1, nn, Bool.not_true]
    exact ⟨_, rfl⟩
  | inr p =>
    obtain ⟨ks, ns⟩ := p
    have hp := parse_yes hf hl hr
    obtain ⟨hk, ha⟩ := pRes_ok hr
    refine wp_seq (fun e s' => s' = s ∧ e = eT zs x2 x3 x4 x5 (.fz (.lst ((h :: os).map .str))) x7 (.fz (.lst (dueL (.inr (ks, ns))))) (.fz (.str (Str.join nlS (h :: os)))) x10 .un (.fz (bkO ks ns))) ?_ fun e s1 ⟨hs, he⟩ => ?_
    · refine wp_try ?_
      unfold eT dueL
      simp only [stpB, seqK, slots, List.replicate, reduceIte, reduceCtorEq, Nat.reduceAdd, Nat.reduceSub, Nat.reduceLT, Nat.reduceLeDiff, stqB, hp]
    subst hs he
    unfold eT dueL
    have hb := ha.bk hk
    have hall : (ks.map D.str).all strD = true := by simp [strD]
    have htup : tupleF [.lst (ks.map D.str)] = some (.fz (.tup true (ks.map .str))) := by
      show some (Sl.fz (.tup ((ks.map D.str).all strD) _)) = _
      rw [hall]
    have htum : tupleF [.lst (ns.map mvD)] = some (.fz (tupM' (ns.map mvD))) := rfl
    have hfl : ∀ d d' : D, filA 1 1 [d] [d'] = some [d, d'] := fun _ _ => rfl
    have nb : isNn (bkO ks ns) = false := rfl
    have hbk := book_ok hk hb.v hb.l (.inl rfl) s1
    rw [ha.is] at hbk
    simp only [stpB, seqK, slots, List.replicate, reduceIte, reduceCtorEq, Nat.reduceAdd, Nat.reduceSub, Nat.reduceLT, Nat.reduceLeDiff, stqB, c2, c21, bk_cont, nb, Bool.not_true, Bool.not_false, bk_modes, bk_moves, atI0, atI1, htup, htum, tmc, ktc, ne_rf (pd_kst hk), ne_rf (pd_tms hb), hfl, hbk, opOM_app, opK_bk nf_bk (book_eq_ok hb)]
    exact ⟨_, rfl⟩
def BB : Nat → Nat
  | 0 => 40
  | i + 1 => 2 * BB i + 5010
theorem law_ok (zs : List Int) : ∃ S, c_g_law [.scr zs] [] = .ok (.fz (.bl true)) [] S := by
  have key : wp (c_g_law [.scr zs] []) (fun r e s => r = .fz (.bl true) ∧ e = []) nX := by
    refine wp_body rfl ?_
    unfold m_g_law
    obtain ⟨z0, hz0⟩ := cell_ok (s := []) zs 0
    obtain ⟨d0, hd0, hs0⟩ := source_ok (s := []) z0
    refine wp_seq (fun e s => Src 0 s ∧ e = eT zs .un .un .un .un .un .un .un .un .un .un .un) ?_ fun e s1 ⟨hP1, he⟩ => ?_
    · unfold eT
      simp only [stpB, seqK, slots, List.replicate, reduceIte, reduceCtorEq, Nat.reduceAdd, Nat.reduceSub, Nat.reduceLT, Nat.reduceLeDiff, stqB, show c_law_cell [.scr zs, .int 0] [] = .ok (.fz (.int z0)) [] [] from hz0, hs0]
      exact ⟨d0, rfl, hd0⟩
    subst he
    refine wp_seq (fun e s => Src 0 s ∧ ∃ t : Nat, t ≤ 2 ∧ e = eT zs (.fz (.int t)) .un .un .un .un .un .un .un .un .un .un) ?_ fun e s2 ⟨hP2, t, ht, he⟩ => ?_
    · unfold eT
      simp only [stpB, seqK, slots, List.replicate, reduceIte, reduceCtorEq, Nat.reduceAdd, Nat.reduceSub, Nat.reduceLT, Nat.reduceLeDiff, stqB]
      refine wp_draw hP1 (by decide) (by decide) fun u t1 hu hQ1 hT1 => ?_
      have hu : u = 0 ∨ u = 1 ∨ u = 2 ∨ u = 3 := by omega
      rcases hu with rfl | rfl | rfl | rfl
      · simp only [stpB, seqK, slots, List.replicate, reduceIte, reduceCtorEq, Nat.reduceAdd, Nat.reduceSub, Nat.reduceLT, Nat.reduceLeDiff, stqB]
        exact ⟨_, rfl, hQ1, 1, by decide, rfl⟩
      · simp only [stpB, seqK, slots, List.replicate, reduceIte, reduceCtorEq, Nat.reduceAdd, Nat.reduceSub, Nat.reduceLT, Nat.reduceLeDiff, stqB]
        exact ⟨_, rfl, hQ1, 0, by decide, rfl⟩
      · simp only [stpB, seqK, slots, List.replicate, reduceIte, reduceCtorEq, Nat.reduceAdd, Nat.reduceSub, Nat.reduceLT, Nat.reduceLeDiff, stqB]
        exact ⟨_, rfl, hQ1, 2, by decide, rfl⟩
      · simp only [stpB, seqK, slots, List.replicate, reduceIte, reduceCtorEq, Nat.reduceAdd, Nat.reduceSub, Nat.reduceLT, Nat.reduceLeDiff, stqB]
        exact ⟨_, rfl, hQ1, 1, by decide, rfl⟩
    subst he
    refine wp_seq (fun e s => Src 0 s ∧ ∃ w0 w1 : Nat, w0 < 24 ∧ w1 < 24 ∧ e = eT zs (.fz (.int t)) (.fz (.lst [.int w0, .int w1])) .un .un .un .un .un .un .un .un .un) ?_ fun e s3 ⟨hP3, w0, w1, hw0, hw1, he⟩ => ?_
    · unfold eT
      simp only [stpB, seqK, slots, List.replicate, reduceIte, reduceCtorEq, Nat.reduceAdd, Nat.reduceSub, Nat.reduceLT, Nat.reduceLeDiff, stqB]
      refine wp_draw hP2 (by decide) (by decide) fun u t1 hu hQ1 hT1 => ?_
      simp only [stpB, seqK, slots, List.replicate, reduceIte, reduceCtorEq, Nat.reduceAdd, Nat.reduceSub, Nat.reduceLT, Nat.reduceLeDiff, stqB]
      refine wp_draw hQ1 (by decide) (by decide) fun v t2 hv hQ2 hT2 => ?_
      simp only [stpB, seqK, slots, List.replicate, reduceIte, reduceCtorEq, Nat.reduceAdd, Nat.reduceSub, Nat.reduceLT, Nat.reduceLeDiff, stqB]
      exact ⟨hQ2, u, v, by omega, by omega, rfl⟩
    subst he
    refine wp_seq (fun e s => Src 0 s ∧ ∃ p0 p1 : Nat, e = eT zs (.fz (.int t)) (.fz (.lst [.int w0, .int w1])) (.fz (.lst [.int p0, .int p1])) .un .un .un .un .un .un .un .un) ?_ fun e s4 ⟨hP4, p0, p1, he⟩ => ?_
    · unfold eT
      simp only [stpB, seqK, slots, List.replicate, reduceIte, reduceCtorEq, Nat.reduceAdd, Nat.reduceSub, Nat.reduceLT, Nat.reduceLeDiff, stqB]
      refine wp_draw hP3 (by decide) (by decide) fun u t1 hu hQ1 hT1 => ?_
      simp only [stpB, seqK, slots, List.replicate, reduceIte, reduceCtorEq, Nat.reduceAdd, Nat.reduceSub, Nat.reduceLT, Nat.reduceLeDiff, stqB]
      refine wp_draw hQ1 (by decide) (by decide) fun v t2 hv hQ2 hT2 => ?_
      simp only [stpB, seqK, slots, List.replicate, reduceIte, reduceCtorEq, Nat.reduceAdd, Nat.reduceSub, Nat.reduceLT, Nat.reduceLeDiff, stqB]
      exact ⟨hQ2, u, v, rfl⟩
    subst he
    refine wp_seq (fun e s => Src 0 s ∧ ∃ c : Nat, 97 ≤ c ∧ c ≤ 122 ∧ e = eT zs (.fz (.int t)) (.fz (.lst [.int w0, .int w1])) (.fz (.lst [.int p0, .int p1])) (.fz (.str (sgn c))) .un .un .un .un .un .un .un) ?_ fun e s5 ⟨hP5, c, hc0, hc1, he⟩ => ?_
    · unfold eT
      simp only [stpB, seqK, slots, List.replicate, reduceIte, reduceCtorEq, Nat.reduceAdd, Nat.reduceSub, Nat.reduceLT, Nat.reduceLeDiff, stqB]
      refine wp_draw hP4 (by decide) (by decide) fun u t1 hu hQ1 hT1 => ?_
      have hu : u < 26 := by omega
      have hA : (Str.ofString "abcdefghijklmnopqrstuvwxyz").length ≤ 16777216 := by rw [show (Str.ofString "abcdefghijklmnopqrstuvwxyz").length = 26 from AZ_len]; decide
      have hat : atI (Str.ofString "abcdefghijklmnopqrstuvwxyz").cps.toList (u : Int) = some (ltr u) := AZ_at hu
      simp only [stpB, seqK, slots, List.replicate, reduceIte, reduceCtorEq, Nat.reduceAdd, Nat.reduceSub, Nat.reduceLT, Nat.reduceLeDiff, stqB, hA, hat]
      exact ⟨hQ1, ltr u, by unfold ltr; omega, by unfold ltr; omega, rfl⟩
    subst he
    refine wp_seq (fun e s => Src 0 s ∧ ∃ L, Lns 40 10 L ∧ e = eT zs (.fz (.int t)) (.fz (.lst [.int w0, .int w1])) (.fz (.lst [.int p0, .int p1])) (.fz (.str (sgn c))) (.fz (.lst (L.map .str))) .un .un .un .un .un .un) ?_ fun e s6 ⟨hP6, L, hL, he⟩ => ?_
    · unfold eT
      simp only [stpB, seqK, slots, List.replicate, reduceIte, reduceCtorEq, Nat.reduceAdd, Nat.reduceSub, Nat.reduceLT, Nat.reduceLeDiff, stqB]
      refine wp_imp (lines_ok hP5) (fun r e t1 ⟨he, hQ1, hT1, L, k1, hr⟩ => ?_) fun _ _ _ _ h => h.elim
      subst he hr
      simp only [stpB, seqK, slots, List.replicate, reduceIte, reduceCtorEq, Nat.reduceAdd, Nat.reduceSub, Nat.reduceLT, Nat.reduceLeDiff, stqB]
      exact ⟨hQ1, L, k1, rfl⟩
    subst he
    refine wp_seq (fun e s => Src 0 s ∧ ∃ L x7, Lns 16000 12 L ∧ e = eT zs (.fz (.int t)) (.fz (.lst [.int w0, .int w1])) (.fz (.lst [.int p0, .int p1])) (.fz (.str (sgn c))) (.fz (.lst (L.map .str))) x7 .un .un .un .un .un) ?_ fun e s7 ⟨hP7, L, x7, hL, he⟩ => ?_
    · unfold eT
      simp only [stpB, seqK, slots, List.replicate, reduceIte, reduceCtorEq, Nat.reduceAdd, Nat.reduceSub, Nat.reduceLT, Nat.reduceLeDiff, stqB, bnd_of (i := (t : Int)) (by omega) (by omega), Int.toNat_natCast]
      refine wp_forR (n := t) (fun i e s => Src 0 s ∧ ∃ L x7, Lns (BB i) (10 + i) L ∧ e = eT zs (.fz (.int t)) (.fz (.lst [.int w0, .int w1])) (.fz (.lst [.int p0, .int p1])) (.fz (.str (sgn c))) (.fz (.lst (L.map .str))) x7 .un .un .un .un .un) ⟨hP6, L, _, hL, rfl⟩ (fun i e s hi hj => ?_) fun e s hj => ?_
      · obtain ⟨hQ, L, x7, hL, rfl⟩ := hj
        have hn1 := hL.n1
        have hnN := hL.n
        obtain ⟨w, p, hw, hwa, hpa⟩ : ∃ w p : Nat, w < 24 ∧ atI [D.int (w0 : Int), .int w1] (i : Int) = some (.int (w : Int)) ∧ atI [D.int (p0 : Int), .int p1] (i : Int) = some (.int (p : Int)) := by
          have hi : i = 0 ∨ i = 1 := by omega
          rcases hi with rfl | rfl
          · exact ⟨w0, p0, hw0, rfl, rfl⟩
          · exact ⟨w1, p1, hw1, rfl, rfl⟩
        have hBi : BB i ≤ 10000 := by
          have hi : i = 0 ∨ i = 1 := by omega
          rcases hi with rfl | rfl <;> decide
        have hm : (p : Int) % (L.length : Int) = ((p % L.length : Nat) : Int) := by rw [Int.natCast_emod]
        have hl0 : (0 : Int) < (L.length : Int) := by omega
        have hdv : divOk (L.length : Int) = true := by
          unfold divOk
          have : L.length.log2 < 14 := (Nat.log2_lt (by omega)).mpr (by omega)
          have h2 : (L.length : Int).natAbs.log2 < 9000 := by rw [Int.natAbs_natCast]; omega
          rw [decide_eq_true h2, decide_eq_true hl0]; rfl
        unfold l1_g_law eT
        simp only [stpB, seqK, slots, List.replicate, reduceIte, reduceCtorEq, Nat.reduceAdd, Nat.reduceSub, Nat.reduceLT, Nat.reduceLeDiff, stqB, Int.zero_add, hwa, hpa, List.length_map, hdv, hm]
        refine ⟨hl0, wp_imp (changed_ok hL hBi (by omega) (p % L.length) (Nat.mod_lt _ hn1) w hw c ⟨hc0, hc1⟩) (fun r e t1 ⟨he, hs, L', k1, hr⟩ => ?_) fun _ _ _ _ h => h.elim⟩
        subst he hs hr
        simp only [stpB, seqK, slots, List.replicate, reduceIte, reduceCtorEq, Nat.reduceAdd, Nat.reduceSub, Nat.reduceLT, Nat.reduceLeDiff, stqB]
        exact ⟨hQ, L', _, k1, rfl⟩
      · obtain ⟨hQ, L, x7, hL, rfl⟩ := hj
        have hB : BB t ≤ 16000 := by
          have ht : t = 0 ∨ t = 1 ∨ t = 2 := by omega
          rcases ht with rfl | rfl | rfl <;> decide
        exact ⟨rfl, hQ, L, _, ⟨hL.n1, Nat.le_trans hL.n (by omega), fun l hl => (hL.h l hl).mono hB⟩, rfl⟩
    subst he
    refine wp_seq (fun e s => Src 0 s ∧ ∃ L x7, Lns 16000 12 L ∧ e = eT zs (.fz (.int t)) (.fz (.lst [.int w0, .int w1])) (.fz (.lst [.int p0, .int p1])) (.fz (.str (sgn c))) (.fz (.lst (L.map .str))) x7 .un .un .un .un .un) ?_ fun e s8 ⟨hP8, L, x7, hL, he⟩ => ?_
    · unfold eT
      simp only [stpB, seqK, slots, List.replicate, reduceIte, reduceCtorEq, Nat.reduceAdd, Nat.reduceSub, Nat.reduceLT, Nat.reduceLeDiff, stqB]
      refine wp_draw hP7 (by decide) (by decide) fun u t1 hu hQ1 hT1 => ?_
      by_cases hu0 : (u : Int) = 0
      · simp only [stpB, seqK, slots, List.replicate, reduceIte, reduceCtorEq, Nat.reduceAdd, Nat.reduceSub, Nat.reduceLT, Nat.reduceLeDiff, stqB, hu0]
        refine wp_imp (head_ok hQ1) (fun r e t2 ⟨he, hQ2, hT2, l, k1, hr⟩ => ?_) fun _ _ _ _ h => h.elim
        subst he hr
        have hct : cutD (L.map D.str) (some 1) none = (L.drop 1).map .str := cut_from (i := 1)
        have hnN := hL.n
        simp only [stpB, seqK, slots, List.replicate, reduceIte, reduceCtorEq, Nat.reduceAdd, Nat.reduceSub, Nat.reduceLT, Nat.reduceLeDiff, stqB, hct, List.length_map, List.length_drop]
        refine ⟨by omega, hQ2, l :: L.drop 1, _, ⟨by simp, by have := hL.n1; simp; omega, fun p hp => ?_⟩, rfl⟩
        rcases List.mem_cons.mp hp with rfl | hp
        · exact k1.mono (by decide)
        · exact hL.h p (List.mem_of_mem_drop hp)
      · simp only [stpB, seqK, slots, List.replicate, reduceIte, reduceCtorEq, Nat.reduceAdd, Nat.reduceSub, Nat.reduceLT, Nat.reduceLeDiff, stqB, hu0]
        exact ⟨hQ1, L, _, hL, rfl⟩
    subst he
    obtain ⟨h, os, rfl⟩ : ∃ h os, L = h :: os := by
      have := hL.n1
      cases L with
      | nil => simp at this
      | cons h os => exact ⟨h, os, rfl⟩
    have hlen := hL.len
    have hdue := law_due_ok (h := h) (os := os) (fun p hp => Nat.le_trans (hL.h p hp).l (by decide)) (by have := hL.n; simp at this; omega)
    have hjn : jnF (.str "\n") [.lst ((h :: os).map .str)] = some (.fz (.str (Str.join nlS (h :: os)))) := jn_lst (by
      have h2 := sum_le (l := (h :: os).map (·.length)) (b := 16000) fun x hx => by
        obtain ⟨k, hk, rfl⟩ := List.mem_map.mp hx
        exact (hL.h k hk).l
      rw [List.length_map] at h2
      have h1 := hL.n
      have h3 : ("\n" : Str).length = 1 := by decide +kernel
      have h4 := Nat.mul_le_mul_right 16000 h1
      rw [h3]
      omega)
    rw [List.map_cons] at hdue hjn
    refine wp_seq (fun e s => e = eT zs (.fz (.int t)) (.fz (.lst [.int w0, .int w1])) (.fz (.lst [.int p0, .int p1])) (.fz (.str (sgn c))) (.fz (.lst ((h :: os).map .str))) x7 (.fz (.lst (dueL (pRes (h :: os))))) .un .un .un .un) ?_ fun e s9 he => ?_
    · unfold eT
      simp only [stpB, seqK, slots, List.replicate, reduceIte, reduceCtorEq, Nat.reduceAdd, Nat.reduceSub, Nat.reduceLT, Nat.reduceLeDiff, stqB, hdue]
    subst he
    refine wp_seq (fun e s => e = eT zs (.fz (.int t)) (.fz (.lst [.int w0, .int w1])) (.fz (.lst [.int p0, .int p1])) (.fz (.str (sgn c))) (.fz (.lst ((h :: os).map .str))) x7 (.fz (.lst (dueL (pRes (h :: os))))) (.fz (.str (Str.join nlS (h :: os)))) .un .un .un) ?_ fun e s10 he => ?_
    · unfold eT
      simp only [stpB, seqK, slots, List.replicate, reduceIte, reduceCtorEq, Nat.reduceAdd, Nat.reduceSub, Nat.reduceLT, Nat.reduceLeDiff, stqB, hjn]
    subst he
    unfold eT
    simp only [stpB, seqK, slots, List.replicate, reduceIte, reduceCtorEq, Nat.reduceAdd, Nat.reduceSub, Nat.reduceLT, Nat.reduceLeDiff, stqB, show bnd 2 = true by decide]
    rw [show ((2 : Int)).toNat = 2 from rfl]
    refine wp_forR (n := 2) (fun i e s => ∃ x10 x12, e = eT zs (.fz (.int t)) (.fz (.lst [.int w0, .int w1])) (.fz (.lst [.int p0, .int p1])) (.fz (.str (sgn c))) (.fz (.lst ((h :: os).map .str))) x7 (.fz (.lst (dueL (pRes (h :: os))))) (.fz (.str (Str.join nlS (h :: os)))) x10 .un x12) ⟨_, _, rfl⟩ (fun i e s hi hj => ?_) fun e s hj => ?_
    · obtain ⟨x10, x12, rfl⟩ := hj
      unfold eT
      refine wp_tgN ?_
      refine wp_imp (turn_ok (h := h) (os := os) zs _ _ _ _ _ _ _ hL.fr (Nat.le_trans hlen (by decide))) (fun f e s' ⟨hf, hs, x12', he⟩ => ?_) fun _ _ _ _ h => h
      subst hf hs he
      exact ⟨_, _, rfl⟩
    · obtain ⟨x10, x12, rfl⟩ := hj
      unfold eT
      simp only [stpB, seqK, slots, List.replicate, reduceIte, reduceCtorEq, Nat.reduceAdd, Nat.reduceSub, Nat.reduceLT, Nat.reduceLeDiff, stqB]
  obtain ⟨r, e, S, h, rfl, rfl⟩ := wp_of key
  exact ⟨S, h⟩
end
end My
end
section
set_option maxHeartbeats 0
open PySem PySem.W PySem.Calls PyProof.Rows
set_option maxRecDepth 100000 in
set_option maxHeartbeats 0 in
theorem PySem.Challenge.cw_everyboard_k15_texts_nearly_good_holds : PySem.Challenge.rw_everyboard_k15_texts_nearly_good.Holds := by
  w_on; o_law
  refine HandSHeadRun.head_any (r := My.R) (q := view My.R.prog [33]) (H := My.hk) (ob := My.ob) (M := 8000) (loose := My.loose) (d := HandSHeadRun.topDef My.R.prog 33) (kwd := []) My.ob_eq
    (by kernel_rfl) (fun s => by kernel_rfl) My.run (by kernel_rfl) (by kernel_rfl) (by kernel_rfl) (by rfl) (by first | assumption | decide +kernel) (by decide +kernel) ⟨rfl, rfl, rfl, rfl, rfl, by decide +kernel⟩ ?hw ?hc
  case hw => w_witness2
  case hc =>
    refine Dn.walk_E (l := PySem.Challenge.rw_everyboard_k15_texts_nearly_good) (n := 63) (k := 9) (x := "_law_script") (CX := fun w => L2N.CX My.PR w) rfl (by decide) (by kernel_rfl) ⟨rfl, by decide, by decide⟩ ?F (fun _ _ _ _ _ ⟨_, _, _, _, _, _, _, _, _, _, _, _, z⟩ => z)
    intro w mg fa h Y G hmg0
    obtain ⟨K, KX, c, hM0⟩ := Y
    have hM := Dn.mvAt_of KX G hM0
    have hmg : mg ("law" : PySem.Str) = some (.ref fa) := by
      have e : (HandSHeadRun.topDef My.R.prog 33).name = ("law" : PySem.Str) := by kernel_rfl
      rw [← e]
      exact hmg0
    have A0 : Dn.All My.lst.l My.txs My.PR K mg := ⟨Dn.exM_l c.ex, c.tx, h, KX, G⟩
    obtain ⟨fd, F⟩ := A0.fn My.ix_g_law.1 My.ix_g_law.2
    exact ⟨K, KX, Dn.lawAt (L := My.lst) (tx := My.txs) (tp := My.tps) (cf := My.c_g_law) KX G c My.ix_g_law.1 hmg (fun base A => ⟨fd, My.okf_g_law A hM F, My.ba_g_law F⟩) (fun ns _ _ => My.law_ok ns) ⟨fd, fun us hu => My.ba_g_law F us hu, fun base A => My.okf_g_law A hM F⟩⟩
end
