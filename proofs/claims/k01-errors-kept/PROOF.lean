import PyProof.Rows.All
import Wide.All
import OpenK.AllK
import Wide.FinOn
import HandS.ForMost
import HandS.Wide
import HandS.Property
import HandS.IsInst
import HandS.TupLe
import HandS.Style
import HandS.EndBits
import HandS.Conv
import HandS.Iter
import HandS.Zip
import HandS.TupAny
import HandS.TryOnly
import HandS.List
import HandS.ListItems
import HandS.Deep
import PyProof.ReprLen
import PyProof.NeKinds
import HandS.ExcInit
import HandS.Nested
import HandS.WordsExc
import HandS.ExcIs
import HandS.ExcField
import KE.KExcSuper
import KE.KSuper
import KE.KExcIs
import HandS.FStr
import HandS.MakeKwOnly
import HandS.MakeKw
import KE.KCallOwn
import HandS.Text
import HandS.Steps
import HandS.ClsMeth
import PyProof.StrLawsChain
import PyProof.Rows.StrSplitAre
import PyProof.Rows.StrSplitJoin
import KE.SortData
import HandS.Sort
import KE.KIndexOf
import HandS.DictComp
import HandS.WordsDict
import KE.GoesMore
import PyProof.StrLawsTight
import PyProof.StrLawsRepr
import KE.KIntText
import HandS.Star
import HandS.More
import HandS.RaiseMore
import KE.KParD
import KE.IntTextLaws
import KE.GoesEnum
import KE.KStateDown
import HandS.Head0
import HandS.Head1
import HandS.Head2
import HandS.HeadHook1
import HandS.HeadHook2
import HandS.HeadHook3
import HandS.SetFor
import HandS.SetTxt0
import HandS.ReplaceLit
import KE.KCallOwn
import KE.DataFind
import PyProof.RulesMatch
import HandS.Lambda
import HandS.ExcOwn
import HandS.HeadHook4
import HandS.EndTab
import HandS.ExcValue
import PySem.Challenge.RW_frostmarks_k01_errors_and_what_they_keep
set_option Elab.async false
set_option linter.all false
set_option maxRecDepth 100000
set_option maxHeartbeats 4000000
/-! A layer of my own over the hand layer: values as data (Dv), things that change as a list (WS); readings without addresses. -/
namespace DL
open PySem L2

/-- data: what never changes any more -/
inductive Dv where
  | non | bl (b : Bool) | int (i : Int) | str (x : Str) | raw (v : V)
  | lst (xs : List Dv) | tup (xs : List Dv)
  | ins (C : Addr) (ks : List Str) (ds : List Dv)
  | dic (ks : List Key) (ds : List Dv)
  | exc (a : Addr) (d : Option Addr) (C : Addr) (ks : List Str) (ds : List Dv)
  /-- a tuple whose object is known to have no dict -/
  | tpn (xs : List Dv)
/-- a value: data, or a thing that changes, by its place in the world -/
inductive Sv where
  | d (x : Dv) | box (j : Nat)
/-- a slot: a value, or a list, a dict that nobody else knows -/
inductive Sl where
  | v (x : Sv) | own (xs : List Dv) | ownD (ks : List Key) (ds : List Dv)

abbrev Av := Addr → Prop
/-- a list, a tuple of the written part -/
def LK (K : PySem.W.Frag) (a : Addr) (vs : List V) : Prop := ∀ H : Hp, SqL K H a vs
def TK (K : PySem.W.Frag) (a : Addr) (vs : List V) : Prop := ∀ H : Hp, SqT K H a vs
/-- N: addresses that data must not name -/
def Sq (K : PySem.W.Frag) (N : Av) (H : Hp) (a : Addr) (vs : List V) : Prop := (¬ N a ∧ Rd H a (.lst vs)) ∨ LK K a vs
def Tq (K : PySem.W.Frag) (N : Av) (H : Hp) (a : Addr) (vs : List V) : Prop := (¬ N a ∧ Rd H a (.tup vs)) ∨ TK K a vs

mutual
inductive Has (K : PySem.W.Frag) (N : Av) (H : Hp) : V → Dv → Prop
  | non : Has K N H .non .non
  | bl (b : Bool) : Has K N H (.bl b) (.bl b)
  | int (i : Int) : Has K N H (.int i) (.int i)
  | str (x : Str) : Has K N H (.str x) (.str x)
  | raw (v : V) : Has K N H v (.raw v)
  | lst {a : Addr} {vs : List V} {xs : List Dv} : Sq K N H a vs → HasL K N H vs xs → Has K N H (.ref a) (.lst xs)
  | tup {a : Addr} {vs : List V} {xs : List Dv} : Tq K N H a vs → HasL K N H vs xs → Has K N H (.ref a) (.tup xs)
  | ins {a C dx : Addr} {ks : List Str} {vs : List V} {ds : List Dv} : ¬ N a → H a = some (.ins C dx (ks.zip vs)) → HasL K N H vs ds → ks.length = ds.length → Has K N H (.ref a) (.ins C ks ds)
  | dic {a : Addr} {ks : List Key} {vs : List V} {ds : List Dv} : ¬ N a → Rd H a (.dK (ks.zip vs)) → HasL K N H vs ds → ks.length = ds.length → Has K N H (.ref a) (.dic ks ds)
  | tpn {a : Addr} {o : Obj} {vs : List V} {xs : List Dv} : ¬ N a → o.dict = none → H a = some (.frz o (.tup vs)) → HasL K N H vs xs → Has K N H (.ref a) (.tpn xs)
  | exc0 {a C : Addr} : Has K N H (.ref a) (.exc a none C [] [])
  | exc {a C dd : Addr} {ks : List Str} {vs : List V} {ds : List Dv} : ¬ N dd → H dd = some (.xd (ks.zip vs)) → HasL K N H vs ds → ks.length = ds.length → Has K N H (.ref a) (.exc a (some dd) C ks ds)
inductive HasL (K : PySem.W.Frag) (N : Av) (H : Hp) : List V → List Dv → Prop
  | nil : HasL K N H [] []
  | cons {v : V} {d : Dv} {vs : List V} {ds : List Dv} : Has K N H v d → HasL K N H vs ds → HasL K N H (v :: vs) (d :: ds)
end
/-- what stood and may be named stands and may be named -/
def Mv (N : Av) (H : Hp) (N' : Av) (H' : Hp) : Prop := ∀ b o, H b = some o → ¬ N b → H' b = some o ∧ ¬ N' b

section
variable {K : PySem.W.Frag} {N N' N2 : Av} {H H' H2 : Hp}
theorem Rd.mv {b : Addr} {u : HO} (e : Mv N H N' H') (n : ¬ N b) (h : Rd H b u) : ¬ N' b ∧ Rd H' b u := by
  rcases h with h | ⟨o, h⟩
  · exact ⟨(e b _ h n).2, .inl (e b _ h n).1⟩
  · exact ⟨(e b _ h n).2, .inr ⟨o, (e b _ h n).1⟩⟩
theorem Sq.mv {a : Addr} {vs : List V} (e : Mv N H N' H') (h : Sq K N H a vs) : Sq K N' H' a vs := by
  rcases h with ⟨n, h⟩ | h
  · exact .inl (Rd.mv e n h)
  · exact .inr h
theorem Tq.mv {a : Addr} {vs : List V} (e : Mv N H N' H') (h : Tq K N H a vs) : Tq K N' H' a vs := by
  rcases h with ⟨n, h⟩ | h
  · exact .inl (Rd.mv e n h)
  · exact .inr h
theorem Sq.l {a : Addr} {vs : List V} (h : Sq K N H a vs) : SqL K H a vs := by
  rcases h with ⟨_, h⟩ | h
  · exact .inl h
  · exact h H
theorem Tq.t {a : Addr} {vs : List V} (h : Tq K N H a vs) : SqT K H a vs := by
  rcases h with ⟨_, h⟩ | h
  · exact .inl h
  · exact h H
mutual
theorem Has.mv (e : Mv N H N' H') : ∀ {v : V} {d : Dv}, Has K N H v d → Has K N' H' v d
  | _, _, .non => .non
  | _, _, .bl b => .bl b
  | _, _, .int i => .int i
  | _, _, .str x => .str x
  | _, _, .raw v => .raw v
  | _, _, .lst s h => .lst (Sq.mv e s) (HasL.mv e h)
  | _, _, .tup s h => .tup (Tq.mv e s) (HasL.mv e h)
  | _, _, .ins n s h l => .ins (e _ _ s n).2 (e _ _ s n).1 (HasL.mv e h) l
  | _, _, .dic n s h l => .dic (Rd.mv e n s).1 (Rd.mv e n s).2 (HasL.mv e h) l
  | _, _, .tpn n d s h => .tpn (e _ _ s n).2 d (e _ _ s n).1 (HasL.mv e h)
  | _, _, .exc0 => .exc0
  | _, _, .exc n s h l => .exc (e _ _ s n).2 (e _ _ s n).1 (HasL.mv e h) l
theorem HasL.mv (e : Mv N H N' H') : ∀ {vs : List V} {ds : List Dv}, HasL K N H vs ds → HasL K N' H' vs ds
  | _, _, .nil => .nil
  | _, _, .cons h t => .cons (Has.mv e h) (HasL.mv e t)
end
theorem Mv.refl : Mv N H N H := fun _ _ h n => ⟨h, n⟩
theorem Mv.weak (h : ∀ a, N' a → N a) : Mv N H N' H := fun _ _ e n => ⟨e, fun q => n (h _ q)⟩
theorem HasL.length : ∀ {vs : List V} {ds : List Dv}, HasL K N H vs ds → vs.length = ds.length
  | _, _, .nil => rfl
  | _, _, .cons _ t => congrArg (· + 1) (HasL.length t)
theorem HasL.append : ∀ {vs us : List V} {ds es : List Dv}, HasL K N H vs ds → HasL K N H us es → HasL K N H (vs ++ us) (ds ++ es)
  | _, _, _, _, .nil, s => s
  | _, _, _, _, .cons h t, s => .cons h (HasL.append t s)
theorem HasL.get : ∀ {vs : List V} {ds : List Dv} {i : Nat} {d : Dv}, HasL K N H vs ds → ds[i]? = some d → ∃ v, vs[i]? = some v ∧ Has K N H v d
  | _, _, _, _, .nil, e => by simp at e
  | _, _, 0, _, .cons h _, e => by simp at e; subst e; exact ⟨_, rfl, h⟩
  | _, _, i + 1, _, .cons _ t, e => by
    obtain ⟨v, h1, h2⟩ := HasL.get (i := i) t (by simpa using e)
    exact ⟨v, by simpa using h1, h2⟩
theorem HasL.set : ∀ {vs : List V} {ds : List Dv} (i : Nat) {v : V} {d : Dv}, HasL K N H vs ds → Has K N H v d → HasL K N H (vs.set i v) (ds.set i d)
  | _, _, _, _, _, .nil, _ => .nil
  | _, _, 0, _, _, .cons _ t, h => .cons h t
  | _, _, i + 1, _, _, .cons g t, h => .cons g (HasL.set i t h)
theorem HasL.take : ∀ {vs : List V} {ds : List Dv} (i : Nat), HasL K N H vs ds → HasL K N H (vs.take i) (ds.take i)
  | _, _, 0, _ => .nil
  | _, _, _ + 1, .nil => .nil
  | _, _, i + 1, .cons g t => .cons g (HasL.take i t)
theorem HasL.drop : ∀ {vs : List V} {ds : List Dv} (i : Nat), HasL K N H vs ds → HasL K N H (vs.drop i) (ds.drop i)
  | _, _, 0, h => h
  | _, _, _ + 1, .nil => .nil
  | _, _, i + 1, .cons _ t => HasL.drop i t
end

/-! ### things that change -/
def fpOf (As : List (List Addr)) (a : Addr) : Prop := ∃ l, l ∈ As ∧ a ∈ l
def bad (z : Av) (As : List (List Addr)) (a : Addr) : Prop := fpOf As a ∨ z a
/-- H' is a later heap: only the world's own things (As) and the own ones (ow) have changed -/
structure ExtS (As : List (List Addr)) (ow : Av) (H : Hp) (As' : List (List Addr)) (ow' : Av) (H' : Hp) : Prop where
  keep : ∀ b o, H b = some o → ¬ fpOf As b → ¬ ow b → H' b = some o ∧ ¬ fpOf As' b ∧ ¬ ow' b
  at_ : ∀ (j : Nat) (l : List Addr), As[j]? = some l → As'[j]? = some l
  up : ∀ a, H a ≠ none → H' a ≠ none
abbrev No : Av := fun _ => False
abbrev Ext (As : List (List Addr)) (H : Hp) (As' : List (List Addr)) (H' : Hp) : Prop := ExtS As No H As' No H'
def zo (z ow : Av) : Av := fun a => z a ∨ ow a
inductive HasV (K : PySem.W.Frag) (z : Av) (As : List (List Addr)) (H : Hp) : V → Sv → Prop
  | d {v : V} {x : Dv} : Has K (bad z As) H v x → HasV K z As H v (.d x)
  | box {p : Addr} {l : List Addr} {j : Nat} : As[j]? = some (p :: l) → HasV K z As H (.ref p) (.box j)
inductive HasVL (K : PySem.W.Frag) (z : Av) (As : List (List Addr)) (H : Hp) : List V → List Sv → Prop
  | nil : HasVL K z As H [] []
  | cons {v : V} {x : Sv} {vs : List V} {xs : List Sv} : HasV K z As H v x → HasVL K z As H vs xs → HasVL K z As H (v :: vs) (x :: xs)

structure MutK where
  R : List Addr → Hp → Prop
  st : ∀ l H H', (∀ a, a ∈ l → H' a = H a) → R l H → R l H'
inductive WObj where
  | lst (xs : List Sv)
  | ins (C : Addr) (ks : List Str) (ds : List Sv)
  | dic (ks : List Key) (ds : List Sv)
  | obj (k : MutK)
  /-- a dict that is walked -/
  | lck (o : Obj) (vs : List V) (ks : List Key) (ds : List Sv)
  /-- a tuple that holds things -/
  | tupV (xs : List Sv)
  /-- the table at P of the code objects that a def has made, all of them of the name q -/
  | tab (P : Addr) (q : Str)
  /-- an exception of the class C with its fields -/
  | xo (C : Addr) (ks : List Str) (ds : List Sv)
  | gone
abbrev DS := List (Option Sl)
abbrev WS := List WObj

section
variable {K : PySem.W.Frag} {z ow ow' ow2 : Av} {As As' As2 : List (List Addr)} {H H' H2 : Hp}
theorem ExtS.refl : ExtS As ow H As ow H := ⟨fun _ _ h n m => ⟨h, n, m⟩, fun _ _ h => h, fun _ h => h⟩
theorem ExtS.trans (e : ExtS As ow H As' ow' H') (f : ExtS As' ow' H' As2 ow2 H2) : ExtS As ow H As2 ow2 H2 :=
  ⟨fun b o h n m => let ⟨h1, n1, m1⟩ := e.keep b o h n m; f.keep b o h1 n1 m1, fun j l h => f.at_ j l (e.at_ j l h), fun a h => f.up a (e.up a h)⟩
/-- own things stand while only the world changes -/
theorem ExtS.own (e : Ext As H As' H') : ExtS As ow H As' ow H' := ⟨fun b o h n m => ⟨(e.keep b o h n fun q => q).1, (e.keep b o h n fun q => q).2.1, m⟩, e.at_, e.up⟩
theorem ExtS.mv (e : ExtS As ow H As' ow' H') : Mv (bad (zo z ow) As) H (bad (zo z ow') As') H' := fun b o h n => by
  obtain ⟨h1, n1, m1⟩ := e.keep b o h (fun f => n (.inl f)) fun f => n (.inr (.inr f))
  exact ⟨h1, fun q => by
    rcases q with q | q | q
    · exact n1 q
    · exact n (.inr (.inl q))
    · exact m1 q⟩
theorem Ext.mv (e : Ext As H As' H') : Mv (bad z As) H (bad z As') H' := fun b o h n => by
  obtain ⟨h1, n1, _⟩ := e.keep b o h (fun f => n (.inl f)) fun f => f
  exact ⟨h1, fun q => by
    rcases q with q | q
    · exact n1 q
    · exact n (.inr q)⟩
/-- foreign things: tracked, not the world's -/
structure Zok (z : Av) (As : List (List Addr)) (H : Hp) : Prop where
  trk : ∀ a, z a → H a ≠ none
  out : ∀ a, z a → ¬ fpOf As a
theorem Zok.ext (h : Zok z As H) (e : Ext As H As' H') : Zok z As' H' :=
  ⟨fun a q => e.up a (h.trk a q), fun a q => by
    cases r : H a with
    | none => exact absurd r (h.trk a q)
    | some o => exact (e.keep a o r (h.out a q) fun f => f).2.1⟩
theorem HasV.ext {v : V} {x : Sv} (e : Ext As H As' H') (h : HasV K z As H v x) : HasV K z As' H' v x := by
  cases h with
  | d h => exact .d (h.mv e.mv)
  | box h => exact .box (e.at_ _ _ h)
theorem HasVL.ext : ∀ {vs : List V} {xs : List Sv}, Ext As H As' H' → HasVL K z As H vs xs → HasVL K z As' H' vs xs
  | _, _, _, .nil => .nil
  | _, _, e, .cons h t => .cons (h.ext e) (t.ext e)
theorem HasVL.length : ∀ {vs : List V} {xs : List Sv}, HasVL K z As H vs xs → vs.length = xs.length
  | _, _, .nil => rfl
  | _, _, .cons _ t => congrArg (· + 1) (HasVL.length t)
theorem HasVL.get : ∀ {vs : List V} {ds : List Sv} {i : Nat} {d : Sv}, HasVL K z As H vs ds → ds[i]? = some d → ∃ v, vs[i]? = some v ∧ HasV K z As H v d
  | _, _, _, _, .nil, e => by simp at e
  | _, _, 0, _, .cons h _, e => by simp at e; subst e; exact ⟨_, rfl, h⟩
  | _, _, i + 1, _, .cons _ t, e => by
    obtain ⟨v, h1, h2⟩ := HasVL.get (i := i) t (by simpa using e)
    exact ⟨v, by simpa using h1, h2⟩
theorem HasVL.append : ∀ {vs us : List V} {ds es : List Sv}, HasVL K z As H vs ds → HasVL K z As H us es → HasVL K z As H (vs ++ us) (ds ++ es)
  | _, _, _, _, .nil, s => s
  | _, _, _, _, .cons h t, s => .cons h (HasVL.append t s)
end

/-- a code object of the name q -/
def CodO (c : Addr) (q : Str) : HO := .ext fun h => ∃ (oc : Obj) (vs : Array Value) (t : Tok), h.get? c = some oc ∧ oc.data = .fields vs ∧ vs[1]? = some (.str q t)
/-- a table of code objects that nothing else names -/
def TabOk (N : Av) (H : Hp) (P : Addr) (q : Str) : Prop := ∃ ps : Array Value, H P = some (.tbl ps) ∧ TriplesOk ps.toList ∧ ∀ (pos : Pos) (cv : Value), codeAmong pos ps.toList = some cv → ∃ c, cv = .ref c ∧ ¬ N c ∧ H c = some (CodO c q)
theorem TabOk.mv {N N' : Av} {H H' : Hp} {P : Addr} {q : Str} (e : Mv N H N' H') (s : H' P = H P) (h : TabOk N H P q) : TabOk N' H' P q := by
  obtain ⟨ps, h1, h2, h3⟩ := h
  refine ⟨ps, s.trans h1, h2, fun pos cv hc => ?_⟩
  obtain ⟨c, e1, e2, e3⟩ := h3 pos cv hc
  exact ⟨c, e1, (e c _ e3 e2).2, (e c _ e3 e2).1⟩
/-- the exception at a -/
def XcO (a C : Addr) (d : Option Addr) : HO := .ext fun h => ∃ oe : Obj, h.get? a = some oe ∧ oe.cls = .ref C ∧ oe.dict = d ∧ ∃ vs, oe.data = .fields vs
def XoOk (N : Av) (H : Hp) (a C : Addr) (fs : List (Str × V)) : Prop := ∃ d : Option Addr, H a = some (XcO a C d) ∧ ((d = none ∧ fs = []) ∨ ∃ dd, d = some dd ∧ ¬ N dd ∧ H dd = some (.xd fs))
theorem XoOk.mv {N N' : Av} {H H' : Hp} {a C : Addr} {fs : List (Str × V)} (e : Mv N H N' H') (s : H' a = H a) (h : XoOk N H a C fs) : XoOk N' H' a C fs := by
  obtain ⟨d, h1, h2⟩ := h
  refine ⟨d, s.trans h1, ?_⟩
  rcases h2 with h2 | ⟨dd, e1, e2, e3⟩
  · exact .inl h2
  · exact .inr ⟨dd, e1, (e dd _ e3 e2).2, (e dd _ e3 e2).1⟩
def WRep (K : PySem.W.Frag) (z : Av) (As : List (List Addr)) (H : Hp) (l : List Addr) : WObj → Prop
  | .lst xs => ∃ a vs, l = [a] ∧ H a = some (.lst vs) ∧ HasVL K z As H vs xs
  | .ins C ks ds => ∃ a dx vs, l = [a] ∧ H a = some (.ins C dx (ks.zip vs)) ∧ HasVL K z As H vs ds ∧ ks.length = ds.length
  | .dic ks ds => ∃ a vs, l = [a] ∧ H a = some (.dK (ks.zip vs)) ∧ HasVL K z As H vs ds ∧ ks.length = ds.length
  | .obj k => k.R l H
  | .lck o vs ks ds => ∃ a, l = [a] ∧ H a = some (.frz o (.dK (ks.zip vs))) ∧ HasVL K z As H vs ds ∧ ks.length = ds.length
  | .tupV xs => ∃ a vs, l = [a] ∧ H a = some (.tup vs) ∧ HasVL K z As H vs xs
  | .tab P q => l = [P] ∧ TabOk (bad z As) H P q
  | .xo C ks ds => ∃ a vs, l = [a] ∧ XoOk (bad z As) H a C (ks.zip vs) ∧ HasVL K z As H vs ds ∧ ks.length = ds.length
  | .gone => True
structure Wld (K : PySem.W.Frag) (z : Av) (As : List (List Addr)) (W : WS) (H : Hp) : Prop where
  len : As.length = W.length
  rep : ∀ (j : Nat) (l : List Addr) (o : WObj), As[j]? = some l → W[j]? = some o → WRep K z As H l o
  trk : ∀ a, fpOf As a → H a ≠ none
  dis : ∀ (i j : Nat) (l l' : List Addr) (a : Addr), As[i]? = some l → As[j]? = some l' → a ∈ l → a ∈ l' → i = j
  zok : Zok z As H

section
variable {K : PySem.W.Frag} {z z' ow ow' : Av} {As As' : List (List Addr)} {W W' : WS} {H H' : Hp}
theorem WRep.ext {l : List Addr} {o : WObj} (e : Ext As H As' H') (s : ∀ a, a ∈ l → H' a = H a) (h : WRep K z As H l o) : WRep K z As' H' l o := by
  cases o with
  | lst xs =>
    obtain ⟨a, vs, rfl, q, r⟩ := h
    exact ⟨a, vs, rfl, by rw [s a (List.Mem.head _)]; exact q, r.ext e⟩
  | ins C ks ds =>
    obtain ⟨a, dx, vs, rfl, q, r, n⟩ := h
    exact ⟨a, dx, vs, rfl, by rw [s a (List.Mem.head _)]; exact q, r.ext e, n⟩
  | dic ks ds =>
    obtain ⟨a, vs, rfl, q, r, n⟩ := h
    exact ⟨a, vs, rfl, by rw [s a (List.Mem.head _)]; exact q, r.ext e, n⟩
  | obj k => exact k.st l H H' s h
  | lck o_ vs_ ks ds =>
    obtain ⟨a, rfl, q, r, n⟩ := h
    exact ⟨a, rfl, by rw [s a (List.Mem.head _)]; exact q, r.ext e, n⟩
  | tupV xs =>
    obtain ⟨a, vs, rfl, q, r⟩ := h
    exact ⟨a, vs, rfl, by rw [s a (List.Mem.head _)]; exact q, r.ext e⟩
  | tab P q =>
    obtain ⟨rfl, h⟩ := h
    exact ⟨rfl, h.mv e.mv (s P (List.Mem.head _))⟩
  | xo C ks ds =>
    obtain ⟨a, vs, rfl, q, r, n⟩ := h
    exact ⟨a, vs, rfl, q.mv e.mv (s a (List.Mem.head _)), r.ext e, n⟩
  | gone => trivial
theorem HasVL.weak : ∀ {vs : List V} {xs : List Sv}, (∀ a, z' a → z a) → HasVL K z As H vs xs → HasVL K z' As H vs xs
  | _, _, _, .nil => .nil
  | _, _, w, .cons (.d h) t => .cons (.d (h.mv (Mv.weak fun a q => q.imp id (w a)))) (t.weak w)
  | _, _, w, .cons (.box h) t => .cons (.box h) (t.weak w)
theorem HasV.weak {v : V} {x : Sv} (w : ∀ a, z' a → z a) (h : HasV K z As H v x) : HasV K z' As H v x := by
  cases h with
  | d h => exact .d (h.mv (Mv.weak fun a q => q.imp id (w a)))
  | box h => exact .box h
theorem WRep.weak {l : List Addr} {o : WObj} (w : ∀ a, z' a → z a) (h : WRep K z As H l o) : WRep K z' As H l o := by
  cases o with
  | lst xs => obtain ⟨a, vs, e, q, r⟩ := h; exact ⟨a, vs, e, q, r.weak w⟩
  | ins C ks ds => obtain ⟨a, dx, vs, e, q, r, n⟩ := h; exact ⟨a, dx, vs, e, q, r.weak w, n⟩
  | dic ks ds => obtain ⟨a, vs, e, q, r, n⟩ := h; exact ⟨a, vs, e, q, r.weak w, n⟩
  | obj k => exact h
  | lck o_ vs_ ks ds => obtain ⟨a, e, q, r, n⟩ := h; exact ⟨a, e, q, r.weak w, n⟩
  | tupV xs => obtain ⟨a, vs, e, q, r⟩ := h; exact ⟨a, vs, e, q, r.weak w⟩
  | tab P q => exact ⟨h.1, h.2.mv (Mv.weak fun a q => q.imp id (w a)) rfl⟩
  | xo C ks ds => obtain ⟨a, vs, e, q, r, n⟩ := h; exact ⟨a, vs, e, q.mv (Mv.weak fun a q => q.imp id (w a)) rfl, r.weak w, n⟩
  | gone => trivial
theorem Wld.weak (w : ∀ a, z' a → z a) (h : Wld K z As W H) : Wld K z' As W H :=
  ⟨h.len, fun j l o a b => (h.rep j l o a b).weak w, h.trk, h.dis, ⟨fun a q => h.zok.trk a (w a q), fun a q => h.zok.out a (w a q)⟩⟩
/-- a new thing that never changes -/
theorem Ext.new {p : Addr} {o : HO} (h : H p = none) : ExtS As ow H As ow (upd H p o) :=
  ⟨fun b u e n m => ⟨by rw [upd_ne (ne_of_none e h)]; exact e, n, m⟩, fun _ _ q => q, fun a q => by
    unfold upd
    split
    · exact fun x => by cases x
    · exact q⟩
theorem Wld.new {p : Addr} {o : HO} (w : Wld K z As W H) (h : H p = none) : Wld K z As W (upd H p o) := by
  refine ⟨w.len, fun j l u h1 h2 => (w.rep j l u h1 h2).ext (Ext.new h) fun a q => upd_ne fun e => ?_, fun a f => (Ext.new (As := As) (ow := No) h).up a (w.trk a f), w.dis, w.zok.ext (Ext.new h)⟩
  subst e
  exact w.trk a ⟨l, List.mem_of_getElem? h1, q⟩ h
/-- a new thing that may change -/
theorem fp_app {l : List Addr} {a : Addr} : fpOf (As ++ [l]) a ↔ fpOf As a ∨ a ∈ l := by
  unfold fpOf
  constructor
  · rintro ⟨l', h, q⟩
    rcases List.mem_append.mp h with h | h
    · exact .inl ⟨l', h, q⟩
    · rw [List.mem_singleton] at h
      subst h
      exact .inr q
  · rintro (⟨l', h, q⟩ | q)
    · exact ⟨l', List.mem_append.mpr (.inl h), q⟩
    · exact ⟨l, List.mem_append.mpr (.inr (List.mem_singleton.mpr rfl)), q⟩
end

/-! ### slots -/
def Sl.isOwn : Sl → Bool
  | .v _ => false
  | _ => true
def owOf (O : Nat → Option Addr) : Av := fun a => ∃ i, O i = some a
def SRep (K : PySem.W.Frag) (z : Av) (As : List (List Addr)) (H : Hp) (o : Option Addr) (v : V) : Sl → Prop
  | .v x => o = none ∧ HasV K z As H v x
  | .own xs => ∃ a vs, o = some a ∧ v = .ref a ∧ H a = some (.lst vs) ∧ HasL K (bad z As) H vs xs
  | .ownD ks ds => ∃ a vs, o = some a ∧ v = .ref a ∧ H a = some (.dK (ks.zip vs)) ∧ HasL K (bad z As) H vs ds ∧ ks.length = ds.length
structure Rep (K : PySem.W.Frag) (z : Av) (O : Nat → Option Addr) (As : List (List Addr)) (σd : DS) (W : WS) (σ : St) (H : Hp) : Prop where
  wld : Wld K (zo z (owOf O)) As W H
  len : σ.length = σd.length
  sl : ∀ (i : Nat) (d : Sl), σd[i]? = some (some d) → ∃ v, σ[i]? = some (some v) ∧ SRep K (zo z (owOf O)) As H (O i) v d
  out : ∀ (i : Nat) (a : Addr), O i = some a → ¬ z a
  inj : ∀ (i j : Nat) (a : Addr), O i = some a → O j = some a → i = j
  oo : ∀ (i : Nat) (a : Addr), O i = some a → ∃ s, σd[i]? = some (some s) ∧ s.isOwn = true
section
variable {K : PySem.W.Frag} {z : Av} {O : Nat → Option Addr} {As As' : List (List Addr)} {σd : DS} {W W' : WS} {σ : St} {H H' : Hp}
theorem SRep.ext {o : Option Addr} {v : V} {x : Sl} (e : Ext As H As' H') (k : ∀ a, o = some a → H' a = H a) (h : SRep K z As H o v x) : SRep K z As' H' o v x := by
  cases x with
  | v x => exact ⟨h.1, h.2.ext e⟩
  | own xs =>
    obtain ⟨a, vs, ho, hv, q, r⟩ := h
    exact ⟨a, vs, ho, hv, by rw [k a ho]; exact q, r.mv e.mv⟩
  | ownD ks ds =>
    obtain ⟨a, vs, ho, hv, q, r, n⟩ := h
    exact ⟨a, vs, ho, hv, by rw [k a ho]; exact q, r.mv e.mv, n⟩
/-- an expression's end: the world may have changed, the slots stand -/
theorem Rep.ext (r : Rep K z O As σd W σ H) (e : Ext As H As' H') (w : Wld K (zo z (owOf O)) As' W' H') : Rep K z O As' σd W' σ H' := by
  refine ⟨w, r.len, fun i d h => ?_, r.out, r.inj, r.oo⟩
  obtain ⟨v, h1, h2⟩ := r.sl i d h
  refine ⟨v, h1, h2.ext e fun a ha => ?_⟩
  have q : zo z (owOf O) a := .inr ⟨i, ha⟩
  cases t : H a with
  | none => exact absurd t (r.wld.zok.trk a q)
  | some o => exact (e.keep a o t (r.wld.zok.out a q) fun f => f).1
end
end DL

namespace DL
open PySem L2

abbrev WE := DS → WS → (Sv → WS → Prop) → Prop
abbrev WB := DS → WS → (Dv → WS → Prop) → Prop
abbrev WF := DS → WS → (List Dv → WS → Prop) → Prop
abbrev WT := DS → WS → (Bool → WS → Prop) → Prop
abbrev WA := DS → WS → (List Sv → WS → Prop) → Prop
abbrev WAB := DS → WS → (List Dv → WS → Prop) → Prop
structure DEnds where
  nx : DS → WS → Prop
  rt : Sv → WS → Prop
  bk : DS → WS → Prop := fun _ _ => False
  ct : DS → WS → Prop := fun _ _ => False
abbrev WSt := DEnds → DS → WS → Prop

/-- what is behind an expression: later heap, later world, the value -/
def Nx (K : PySem.W.Frag) (z : Av) (As : List (List Addr)) (H : Hp) (Φ : Sv → WS → Prop) (Q : VK) : Prop :=
  ∀ v H' x As' W', Ext As H As' H' → Wld K z As' W' H' → HasV K z As' H' v x → Φ x W' → Q v H'
/-- read: data, or an own list, an own dict -/
def HasB (K : PySem.W.Frag) (z : Av) (As : List (List Addr)) (H : Hp) (v : V) (x : Dv) : Prop :=
  Has K (bad z As) H v x ∨ (∃ a vs xs, v = .ref a ∧ x = .lst xs ∧ z a ∧ H a = some (.lst vs) ∧ HasL K (bad z As) H vs xs) ∨
    ∃ a ks vs ds, v = .ref a ∧ x = .dic ks ds ∧ z a ∧ H a = some (.dK (ks.zip vs)) ∧ HasL K (bad z As) H vs ds ∧ ks.length = ds.length
inductive HasBL (K : PySem.W.Frag) (z : Av) (As : List (List Addr)) (H : Hp) : List V → List Dv → Prop
  | nil : HasBL K z As H [] []
  | cons {v : V} {x : Dv} {vs : List V} {xs : List Dv} : HasB K z As H v x → HasBL K z As H vs xs → HasBL K z As H (v :: vs) (x :: xs)
def z1 (z : Av) (p : Addr) : Av := fun a => z a ∨ a = p

def TEok (K : PySem.W.Frag) (t : TE) (w : WE) : Prop := ∀ {z : Av} {O : Nat → Option Addr} {As : List (List Addr)} {σd : DS} {W : WS} {σ : St} {H : Hp} (Φ : Sv → WS → Prop) (Q : VK), Rep K z O As σd W σ H → w σd W Φ → Nx K (zo z (owOf O)) As H Φ Q → t σ H Q
/-- a new list that nobody else knows -/
def TFok (K : PySem.W.Frag) (t : TE) (w : WF) : Prop := ∀ {z : Av} {O : Nat → Option Addr} {As : List (List Addr)} {σd : DS} {W : WS} {σ : St} {H : Hp} (Φ : List Dv → WS → Prop) (Q : VK), Rep K z O As σd W σ H → w σd W Φ →
  (∀ p H' vs xs As' W', H p = none → Ext As H As' H' → Wld K (z1 (zo z (owOf O)) p) As' W' H' → H' p = some (.lst vs) → HasL K (bad (z1 (zo z (owOf O)) p) As') H' vs xs → Φ xs W' → Q (.ref p) H') → t σ H Q
structure EndsOk (K : PySem.W.Frag) (z : Av) (As : List (List Addr)) (ow : Av) (H : Hp) (Dd : DEnds) (D : Ends) : Prop where
  nx : ∀ σd' W' O' As' σ' H', ExtS As ow H As' (owOf O') H' → Rep K z O' As' σd' W' σ' H' → Dd.nx σd' W' → D.nx σ' H'
  rt : ∀ v x W' ow' As' H', ExtS As ow H As' ow' H' → Wld K z As' W' H' → HasV K z As' H' v x → Dd.rt x W' → D.rt v H'
  bk : ∀ σd' W' O' As' σ' H', ExtS As ow H As' (owOf O') H' → Rep K z O' As' σd' W' σ' H' → Dd.bk σd' W' → D.bk σ' H'
  ct : ∀ σd' W' O' As' σ' H', ExtS As ow H As' (owOf O') H' → Rep K z O' As' σd' W' σ' H' → Dd.ct σd' W' → D.ct σ' H'
def TSok (K : PySem.W.Frag) (t : TS) (w : WSt) : Prop := ∀ {z : Av} {O : Nat → Option Addr} {As : List (List Addr)} {σd : DS} {W : WS} {σ : St} {H : Hp} (Dd : DEnds) (D : Ends), Rep K z O As σd W σ H → w Dd σd W → EndsOk K z As (owOf O) H Dd D → t D σ H

structure PD (X : Cx) (e : Expr) (t : TE) (w : WE) : Prop where
  pe : PE X e t
  ok : TEok X.K t w
structure PF (X : Cx) (e : Expr) (t : TE) (w : WF) : Prop where
  pe : PE X e t
  ok : TFok X.K t w
section
variable {K : PySem.W.Frag} {z : Av} {O : Nat → Option Addr} {As As' : List (List Addr)} {σd : DS} {W W' : WS} {σ : St} {H H' : Hp} {ow ow' : Av}
theorem EndsOk.ext {Dd : DEnds} {D : Ends} (h : EndsOk K z As ow H Dd D) (e : ExtS As ow H As' ow' H') : EndsOk K z As' ow' H' Dd D :=
  ⟨fun _ _ _ _ _ _ f => h.nx _ _ _ _ _ _ (e.trans f), fun _ _ _ _ _ _ f => h.rt _ _ _ _ _ _ (e.trans f), fun _ _ _ _ _ _ f => h.bk _ _ _ _ _ _ (e.trans f), fun _ _ _ _ _ _ f => h.ct _ _ _ _ _ _ (e.trans f)⟩
theorem HasB.ext {v : V} {x : Dv} (zk : Zok z As H) (e : Ext As H As' H') (h : HasB K z As H v x) : HasB K z As' H' v x := by
  rcases h with h | ⟨a, vs, xs, rfl, rfl, za, h, l⟩ | ⟨a, ks, vs, ds, rfl, rfl, za, h, l, n⟩
  · exact .inl (h.mv e.mv)
  · exact .inr (.inl ⟨a, vs, xs, rfl, rfl, za, (e.keep a _ h (zk.out a za) fun f => f).1, l.mv e.mv⟩)
  · exact .inr (.inr ⟨a, ks, vs, ds, rfl, rfl, za, (e.keep a _ h (zk.out a za) fun f => f).1, l.mv e.mv, n⟩)
theorem HasBL.ext : ∀ {vs : List V} {xs : List Dv}, Zok z As H → Ext As H As' H' → HasBL K z As H vs xs → HasBL K z As' H' vs xs
  | _, _, _, _, .nil => .nil
  | _, _, zk, e, .cons h t => .cons (h.ext zk e) (t.ext zk e)
theorem HasB.int {v : V} {i : Int} (h : HasB K z As H v (.int i)) : v = .int i := by
  rcases h with h | ⟨_, _, _, _, h, _⟩ | ⟨_, _, _, _, _, h, _⟩
  · cases h; rfl
  · cases h
  · cases h
theorem HasB.bl {v : V} {i : Bool} (h : HasB K z As H v (.bl i)) : v = .bl i := by
  rcases h with h | ⟨_, _, _, _, h, _⟩ | ⟨_, _, _, _, _, h, _⟩
  · cases h; rfl
  · cases h
  · cases h
theorem HasB.str {v : V} {i : Str} (h : HasB K z As H v (.str i)) : v = .str i := by
  rcases h with h | ⟨_, _, _, _, h, _⟩ | ⟨_, _, _, _, _, h, _⟩
  · cases h; rfl
  · cases h
  · cases h
theorem HasB.non {v : V} (h : HasB K z As H v .non) : v = .non := by
  rcases h with h | ⟨_, _, _, _, h, _⟩ | ⟨_, _, _, _, _, h, _⟩
  · cases h; rfl
  · cases h
  · cases h
theorem HasB.lst {v : V} {xs : List Dv} (h : HasB K z As H v (.lst xs)) : ∃ a vs, v = .ref a ∧ SqL K H a vs ∧ HasL K (bad z As) H vs xs := by
  rcases h with h | ⟨a, vs, xs, rfl, h, _, h2, h3⟩ | ⟨_, _, _, _, _, h, _⟩
  · cases h with
    | lst s l => exact ⟨_, _, rfl, s.l, l⟩
  · cases h
    exact ⟨a, vs, rfl, SqL.of h2, h3⟩
  · cases h
theorem HasB.tup {v : V} {xs : List Dv} (h : HasB K z As H v (.tup xs)) : ∃ a vs, v = .ref a ∧ SqT K H a vs ∧ HasL K (bad z As) H vs xs := by
  rcases h with h | ⟨_, _, _, _, h, _⟩ | ⟨_, _, _, _, _, h, _⟩
  · cases h with
    | tup s l => exact ⟨_, _, rfl, s.t, l⟩
  · cases h
  · cases h
theorem HasB.ins {v : V} {C : Addr} {ks : List Str} {ds : List Dv} (h : HasB K z As H v (.ins C ks ds)) : ∃ a dx vs, v = .ref a ∧ H a = some (.ins C dx (ks.zip vs)) ∧ HasL K (bad z As) H vs ds ∧ ks.length = ds.length := by
  rcases h with h | ⟨_, _, _, _, h, _⟩ | ⟨_, _, _, _, _, h, _⟩
  · cases h with
    | ins n s l e => exact ⟨_, _, _, rfl, s, l, e⟩
  · cases h
  · cases h
theorem HasB.dic {v : V} {ks : List Key} {ds : List Dv} (h : HasB K z As H v (.dic ks ds)) : ∃ a vs, v = .ref a ∧ Rd H a (.dK (ks.zip vs)) ∧ HasL K (bad z As) H vs ds ∧ ks.length = ds.length := by
  rcases h with h | ⟨_, _, _, _, h, _⟩ | ⟨a, ks, vs, ds, rfl, h, za, h2, h3, n⟩
  · cases h with
    | dic n s l e => exact ⟨_, _, rfl, s, l, e⟩
  · cases h
  · cases h
    exact ⟨a, vs, rfl, .inl h2, h3, n⟩
end

/-! ### slots, constants -/
def slot : DS → Nat → Option Sl
  | [], _ => none
  | x :: _, 0 => x
  | _ :: r, i + 1 => slot r i
theorem slot_at : ∀ {σd : DS} {i : Nat} {d : Sl}, slot σd i = some d → σd[i]? = some (some d)
  | [], _, _, h => by cases h
  | x :: _, 0, _, h => by
    have h' : x = some _ := h
    rw [h']
    rfl
  | _ :: r, i + 1, _, h => by
    rw [List.getElem?_cons_succ]
    exact slot_at h
abbrev wVar (i : Nat) : WE := fun σd W Φ => match slot σd i with
  | some (.v x) => Φ x W
  | _ => False
section
variable {K : PySem.W.Frag}
theorem teo_var {i : Nat} : TEok K (tVar i) (wVar i) := by
  intro z O As σd W σ H Φ Q r h q
  unfold wVar at h
  split at h
  · rename_i x e
    obtain ⟨v, h1, _, h2⟩ := r.sl i _ (slot_at e)
    exact ⟨v, h1, q v H x As W ExtS.refl r.wld h2 h⟩
  · exact h.elim
end
section
variable {X : Cx}
theorem dv (i : Nat) {x : Str} {pos : Pos} (hN : X.N[i]? = some x := by rfl) (hv : Vis X.env.scope x := by first | exact Or.inl rfl | exact Or.inr (Or.inl rfl) | exact Or.inr (Or.inr rfl)) (hd : (x == ("__debug__" : Str)) = false := by decide)
    (hcd : (x == ("__classdict__" : Str)) = false := by decide) : PD X (.Name x pos) (tVar i) (wVar i) := ⟨pe_var hN hv hd hcd, teo_var⟩
end

/-! ### operators -/
section
variable {K : PySem.W.Frag}
/-- is None, is not None -/
def isN : Dv → Bool := fun x => match x with
  | .non => true
  | _ => false
end
section
variable {X : Cx} {a b e : Expr} {ta tb te : TE} {wa wb : WB} {pos : Pos}
end

/-! ### tests -/
section
variable {K : PySem.W.Frag} {ta tb te : TE} {wa wb we : WE} {tt tu : TT} {wt wu : WT}
theorem HasV.bl {z : Av} {As : List (List Addr)} {H : Hp} {v : V} {b : Bool} (h : HasV K z As H v (.d (.bl b))) : v = .bl b := by
  cases h with
  | d h => cases h; rfl
theorem HasV.int {z : Av} {As : List (List Addr)} {H : Hp} {v : V} {b : Int} (h : HasV K z As H v (.d (.int b))) : v = .int b := by
  cases h with
  | d h => cases h; rfl
theorem HasV.str {z : Av} {As : List (List Addr)} {H : Hp} {v : V} {b : Str} (h : HasV K z As H v (.d (.str b))) : v = .str b := by
  cases h with
  | d h => cases h; rfl
end
section
variable {X : Cx} {a b c e : Expr} {ta tb te : TE} {wa wb we : WE} {tt tu : TT} {wt wu : WT} {pos : Pos} {rest : List Expr}
end

/-! ### arguments, displays -/
theorem line_of {n : Nat} (h : n ≤ 1000000) : n ≤ sizeLine := Nat.le_trans h (by decide)
section
variable {K : PySem.W.Frag} {ta : TE} {wa : WE} {tr : TA} {wr : WA}
end
section
variable {X : Cx} {e : Expr} {es : List Expr} {ta : TE} {wa : WE} {tr : TA} {wr : WA} {pos : Pos}
end
end DL

namespace DL
open PySem L2

/-! ### built-in functions -/
abbrev RDC := List Dv → WS → (Sv → WS → Prop) → Prop
abbrev RDF := List Dv → WS → (List Dv → WS → Prop) → Prop
theorem up_none {As As' : List (List Addr)} {H H' : Hp} {t : Addr} (e : Ext As H As' H') (h : H' t = none) : H t = none := by
  cases k : H t with
  | none => rfl
  | some o => exact absurd h (e.up t (by rw [k]; exact fun x => by cases x))
section
variable {K : PySem.W.Frag} {ta : TA} {wa : WAB}
theorem HasBL.one {z : Av} {As : List (List Addr)} {H : Hp} {vs : List V} {x : Dv} (h : HasBL K z As H vs [x]) : ∃ v, vs = [v] ∧ HasB K z As H v x := by
  cases h with
  | cons a b =>
    cases b
    exact ⟨_, rfl, a⟩
theorem HasBL.two {z : Av} {As : List (List Addr)} {H : Hp} {vs : List V} {x y : Dv} (h : HasBL K z As H vs [x, y]) : ∃ v u, vs = [v, u] ∧ HasB K z As H v x ∧ HasB K z As H u y := by
  cases h with
  | cons a b =>
    obtain ⟨u, e, b2⟩ := HasBL.one b
    subst e
    exact ⟨_, u, rfl, a, b2⟩
end
section
variable {X : Cx} {x : Str} {p pos : Pos} {e : Expr} {es : List Expr} {t : TA} {wa : WAB} {r : List V → Hp → VK → Prop} {rc : RDC} {rf : RDF}
end

/-! ### own defs: a promise told in data -/
abbrev WFn := List Sv → WS → (Sv → WS → Prop) → Prop
/-- what a constant is, as data -/
def Cn (K : PySem.W.Frag) (dvs : List V) (dd : List Dv) : Prop := ∀ N H, HasL K N H dvs dd
theorem Cn.nil {K : PySem.W.Frag} : Cn K [] [] := fun _ _ => .nil
section
variable {X : Cx} {x : Str} {p pos : Pos} {e : Expr} {es : List Expr} {t : TA} {wa : WA} {wf : WFn} {f : Addr} {fd : FuncData} {ps : List Str} {k : Nat} {ds : List Value} {dvs : List V} {dd : List Dv}
end

section
variable {P : Program} {w : World} {K : PySem.W.Frag} {mg : Str → Option Value} {base : Heap}
end

/-! ### statements -/
section
variable {K : PySem.W.Frag} {z : Av} {O : Nat → Option Addr} {As As' : List (List Addr)} {σd : DS} {W W' : WS} {σ : St} {H H' : Hp}
theorem SRep.weak {z z' : Av} {o : Option Addr} {v : V} {x : Sl} (w : ∀ a, z' a → z a) (h : SRep K z As H o v x) : SRep K z' As H o v x := by
  cases x with
  | v x => exact ⟨h.1, h.2.weak w⟩
  | own xs =>
    obtain ⟨a, vs, h1, h2, h3, h4⟩ := h
    exact ⟨a, vs, h1, h2, h3, h4.mv (Mv.weak fun a b => b.imp id (w a))⟩
  | ownD ks ds =>
    obtain ⟨a, vs, h1, h2, h3, h4, h5⟩ := h
    exact ⟨a, vs, h1, h2, h3, h4.mv (Mv.weak fun a b => b.imp id (w a)), h5⟩
end
section
variable {K : PySem.W.Frag} {te : TE} {we : WE} {t u : TS} {wt wu : WSt}
end
section
variable {X : Cx} {pos pos' : Pos} {e : Expr} {x : Str} {te : TE} {we : WE} {t u : TS} {wt wu : WSt} {st : Stmt} {rest : List Stmt}
end
end DL

namespace DL
open PySem L2

/-! ### attributes -/
section
variable {K : PySem.W.Frag}
theorem Wld.ins {z : Av} {As : List (List Addr)} {W : WS} {H : Hp} {v : V} {j : Nat} {C : Addr} {ks : List Str} {ds : List Sv} (w : Wld K z As W H) (h : HasV K z As H v (.box j)) (e : W[j]? = some (.ins C ks ds)) :
    ∃ a dx vs, v = .ref a ∧ As[j]? = some [a] ∧ H a = some (.ins C dx (ks.zip vs)) ∧ HasVL K z As H vs ds ∧ ks.length = ds.length := by
  cases h with
  | box h =>
    obtain ⟨a, dx, vs, e1, h1, h2, h3⟩ := w.rep j _ _ h e
    cases e1
    exact ⟨_, dx, vs, rfl, h, h1, h2, h3⟩
end
section
variable {K : PySem.W.Frag}
theorem HasVL.set : ∀ {z : Av} {As : List (List Addr)} {H : Hp} {vs : List V} {ds : List Sv} (i : Nat) {v : V} {d : Sv}, HasVL K z As H vs ds → HasV K z As H v d → HasVL K z As H (vs.set i v) (ds.set i d)
  | _, _, _, _, _, _, _, _, .nil, _ => .nil
  | _, _, _, _, _, 0, _, _, .cons _ t, h => .cons h t
  | _, _, _, _, _, i + 1, _, _, .cons g t, h => .cons g (HasVL.set i t h)
end

/-! ### properties, methods -/
section
variable {K : PySem.W.Frag}
end

/-! ### new instances -/
section
variable {K : PySem.W.Frag}
/-- the last thing is forgotten -/
theorem HasVL.cut {z : Av} {As As' : List (List Addr)} {H H' : Hp} {us : List V} : ∀ {vs : List V} {xs : List Sv}, (∀ (j : Nat) (l : List Addr), As[j]? = some l → As'[j]? = some l) → (∀ a, fpOf As a → fpOf As' a) → HasVL K z As H us xs → HasVL K z As' H' vs xs → HasVL K z As H' vs xs := by
  intro vs xs h1 h2 o n
  induction n generalizing us with
  | nil => exact .nil
  | cons a b ih =>
    cases o with
    | cons oa ob =>
      refine .cons ?_ (ih ob)
      cases a with
      | d a => exact .d (a.mv (Mv.weak fun x q => q.imp (h2 x) id))
      | box a =>
        cases oa with
        | box oa =>
          rw [h1 _ _ oa] at a
          cases a
          exact .box oa
theorem Wld.cut {z : Av} {As : List (List Addr)} {W : WS} {H H' : Hp} {l : List Addr} {o : WObj} (w : Wld K z As W H) (e : Ext As H (As ++ [l]) H') (w2 : Wld K z (As ++ [l]) (W ++ [o]) H') : Wld K z As W H' := by
  have f : ∀ a, fpOf As a → fpOf (As ++ [l]) a := fun a q => fp_app.mpr (.inl q)
  refine ⟨w.len, fun j l' u h1 h2 => ?_, fun a q => e.up a (w.trk a q), w.dis, ⟨fun a q => w2.zok.trk a q, fun a q x => w2.zok.out a q (f a x)⟩⟩
  have n := w2.rep j l' u (e.at_ j l' h1) (by rw [List.getElem?_append_left (List.getElem?_eq_some_iff.mp h2).1]; exact h2)
  have b := w.rep j l' u h1 h2
  cases u with
  | lst xs =>
    obtain ⟨a, vs, rfl, g1, g2⟩ := n
    obtain ⟨a', us, _, _, b2⟩ := b
    exact ⟨a, vs, rfl, g1, .cut e.at_ f b2 g2⟩
  | ins C ks ds =>
    obtain ⟨a, dx, vs, rfl, g1, g2, g3⟩ := n
    obtain ⟨a', _, us, _, _, b2, _⟩ := b
    exact ⟨a, dx, vs, rfl, g1, .cut e.at_ f b2 g2, g3⟩
  | dic ks ds =>
    obtain ⟨a, vs, rfl, g1, g2, g3⟩ := n
    obtain ⟨a', us, _, _, b2, _⟩ := b
    exact ⟨a, vs, rfl, g1, .cut e.at_ f b2 g2, g3⟩
  | obj k => exact n
  | lck o_ vs_ ks ds =>
    obtain ⟨a, rfl, g1, g2, g3⟩ := n
    obtain ⟨a', _, _, b2, _⟩ := b
    exact ⟨a, rfl, g1, .cut e.at_ f b2 g2, g3⟩
  | tupV xs =>
    obtain ⟨a, vs, rfl, g1, g2⟩ := n
    obtain ⟨a', us, _, _, b2⟩ := b
    exact ⟨a, vs, rfl, g1, .cut e.at_ f b2 g2⟩
  | tab P q => exact ⟨n.1, n.2.mv (Mv.weak fun a q => q.imp (f a) id) rfl⟩
  | xo C ks ds =>
    obtain ⟨a, vs, rfl, g1, g2, g3⟩ := n
    obtain ⟨a', us, _, _, b2, _⟩ := b
    exact ⟨a, vs, rfl, g1.mv (Mv.weak fun a q => q.imp (f a) id) rfl, .cut e.at_ f b2 g2, g3⟩
  | gone => trivial
theorem Ext.cut {As : List (List Addr)} {H H' : Hp} {l : List Addr} (e : Ext As H (As ++ [l]) H') : Ext As H As H' :=
  ⟨fun b o h n m => ⟨(e.keep b o h n m).1, fun q => (e.keep b o h n m).2.1 (fp_app.mpr (.inl q)), fun f => f⟩, fun _ _ h => h, e.up⟩
end
section
variable {X : Cx} {x f m : Str} {p pos apos pos' : Pos} {e o value : Expr} {es : List Expr} {t : TA} {wa : WA} {wf : WFn} {C fa pa g : Addr} {fd : FuncData} {ps : List Str} {k : Nat} {ds : List Value} {dvs : List V} {dd : List Dv} {te to : TE} {we wo : WE}
end
end DL

namespace DL
open PySem L2

/-! ### targets, loops -/
abbrev Tgt := Sv → DS → Option DS
section
variable {K : PySem.W.Frag} {z : Av} {As0 : List (List Addr)} {ow0 : Av} {H0 : Hp} {g : TG} {tgt : Tgt} {is : List Nat} {tb : TS} {wb : WSt}
end
/-! ### what is walked -/
abbrev WI := DS → WS → (List Dv → WS → Prop) → Prop
section
variable {K : PySem.W.Frag}
variable {g : TG} {tgt : Tgt} {is : List Nat} {tb : TS} {wb : WSt}
end

/-! ### a, b = e1, e2; x += e -/
section
variable {K : PySem.W.Frag}
theorem HasV.sub {z z' : Av} {As : List (List Addr)} {H : Hp} {v : V} {x : Sv} (w : ∀ a, z' a → z a) (h : HasV K z As H v x) : HasV K z' As H v x := h.weak w
end
section
variable {X : Cx} {pos p : Pos} {x y : Str} {a b e tg iter c : Expr} {body : List Stmt} {ta : TA} {wa : WA} {te : TE} {we : WE} {g : TG} {tgt : Tgt} {is : List Nat} {tb : TS} {wb : WSt}
end
end DL

namespace DL
open PySem L2

/-! ### comprehensions -/
def wipeD (σ : DS) : List Nat → DS
  | [] => σ
  | v :: vs => (wipeD σ vs).set v none
def notOwn : Option Sl → Bool
  | some s => !s.isOwn
  | none => true
section
variable {K : PySem.W.Frag}
theorem wipe_at {α : Type} {σ : List (Option α)} {j : Nat} : ∀ {vs : List Nat}, (List.foldr (fun v (s : List (Option α)) => s.set v none) σ vs)[j]? = if j ∈ vs then (σ[j]?).map (fun _ => none) else σ[j]?
  | [] => by simp
  | v :: vs => by
    rw [List.foldr_cons, List.getElem?_set]
    have ih := wipe_at (σ := σ) (j := j) (vs := vs)
    have hl : (List.foldr (fun v (s : List (Option α)) => s.set v none) σ vs).length = σ.length := by
      clear ih
      induction vs with
      | nil => rfl
      | cons a b ih => rw [List.foldr_cons, List.length_set, ih]
    by_cases h : v = j
    · subst h
      rw [if_pos rfl, if_pos List.mem_cons_self, hl]
      by_cases l : v < σ.length
      · rw [if_pos l, List.getElem?_eq_getElem l]
        rfl
      · rw [if_neg l, List.getElem?_eq_none (Nat.le_of_not_lt l)]
        rfl
    · rw [if_neg h, ih]
      by_cases m : j ∈ vs
      · rw [if_pos m, if_pos (List.mem_cons_of_mem _ m)]
      · rw [if_neg m, if_neg fun q => (List.mem_cons.mp q).elim (fun e => h e.symm) m]
theorem wipe_fold (σ : St) : ∀ vs : List Nat, wipe σ vs = List.foldr (fun v (s : St) => s.set v none) σ vs
  | [] => rfl
  | v :: vs => by
    unfold wipe
    rw [wipe_fold σ vs]
    rfl
theorem wipeD_fold (σ : DS) : ∀ vs : List Nat, wipeD σ vs = List.foldr (fun v (s : DS) => s.set v none) σ vs
  | [] => rfl
  | v :: vs => by
    unfold wipeD
    rw [wipeD_fold σ vs]
    rfl
theorem wipe_get (σ : St) (vs : List Nat) (j : Nat) : (wipe σ vs)[j]? = if j ∈ vs then (σ[j]?).map (fun _ => none) else σ[j]? := by
  rw [wipe_fold]
  exact wipe_at
theorem wipeD_get (σ : DS) (vs : List Nat) (j : Nat) : (wipeD σ vs)[j]? = if j ∈ vs then (σ[j]?).map (fun _ => none) else σ[j]? := by
  rw [wipeD_fold]
  exact wipe_at
theorem slot_get : ∀ {σ : DS} {i : Nat} {s : Sl}, σ[i]? = some (some s) → slot σ i = some s
  | [], _, _, h => by simp at h
  | x :: r, 0, s, h => by
    have h' : some x = some (some s) := h
    exact Option.some.inj h'
  | x :: r, i + 1, s, h => slot_get (σ := r) (i := i) (by rw [← h, List.getElem?_cons_succ])
/-- the slots while a list is being made at D -/
theorem Rep.under {z : Av} {O : Nat → Option Addr} {As As' : List (List Addr)} {σd : DS} {W W' : WS} {σ : St} {H H' : Hp} {D : Addr} {vs : List Nat} (r : Rep K z O As σd W σ H) (hD : H D = none) (e : Ext As H As' H') (wl : Wld K (z1 (zo z (owOf O)) D) As' W' H') (hv : vs.all (fun i => notOwn (slot σd i)) = true) :
    Rep K (z1 z D) O As' (wipeD σd vs) W' (wipe σ vs) H' ∧ ∀ i, i ∈ vs → O i = none := by
  have on : ∀ i, i ∈ vs → O i = none := fun i m => by
    cases q : O i with
    | none => rfl
    | some a =>
      obtain ⟨s, h1, h2⟩ := r.oo i a q
      have := List.all_eq_true.mp hv i m
      rw [slot_get h1] at this
      have h3 : (!s.isOwn) = true := this
      rw [h2] at h3
      cases h3
  have sub : ∀ a, zo (z1 z D) (owOf O) a → z1 (zo z (owOf O)) D a := fun a q => by
    rcases q with (q | q) | q
    · exact .inl (.inl q)
    · exact .inr q
    · exact .inl (.inr q)
  have mv : Mv (bad (zo z (owOf O)) As) H (bad (zo (z1 z D) (owOf O)) As') H' := fun b o hb n => by
    obtain ⟨h1, h2, _⟩ := e.keep b o hb (fun f => n (.inl f)) fun f => f
    refine ⟨h1, fun q => ?_⟩
    rcases q with q | (q | q) | q
    · exact h2 q
    · exact n (.inr (.inl q))
    · subst q
      rw [hD] at hb
      cases hb
    · exact n (.inr (.inr q))
  refine ⟨⟨wl.weak sub, ?_, fun j d ej => ?_, fun j a q => ?_, r.inj, fun j a q => ?_⟩, on⟩
  · rw [wipe_length, r.len]
    clear hv on
    induction vs with
    | nil => rfl
    | cons a b ih => unfold wipeD; rw [List.length_set, ← ih]
  · rw [wipeD_get] at ej
    by_cases m : j ∈ vs
    · rw [if_pos m] at ej
      cases q : σd[j]? with
      | none => rw [q] at ej; cases ej
      | some x => rw [q] at ej; cases ej
    · rw [if_neg m] at ej
      obtain ⟨v', h1, h2⟩ := r.sl j d ej
      refine ⟨v', by rw [wipe_get, if_neg m]; exact h1, ?_⟩
      have st : ∀ a, O j = some a → H' a = H a := fun a ha => by
        have q : zo z (owOf O) a := .inr ⟨j, ha⟩
        cases t : H a with
        | none => exact absurd t (r.wld.zok.trk a q)
        | some o => exact (e.keep a o t (r.wld.zok.out a q) fun f => f).1
      cases d with
      | v x =>
        obtain ⟨g1, g2⟩ := h2
        refine ⟨g1, ?_⟩
        cases g2 with
        | d g2 => exact .d (g2.mv mv)
        | box g2 => exact .box (e.at_ _ _ g2)
      | own ys =>
        obtain ⟨a, us, g1, g2, g3, g4⟩ := h2
        exact ⟨a, us, g1, g2, by rw [st a g1]; exact g3, g4.mv mv⟩
      | ownD ks ds =>
        obtain ⟨a, us, g1, g2, g3, g4, g5⟩ := h2
        exact ⟨a, us, g1, g2, by rw [st a g1]; exact g3, g4.mv mv, g5⟩
  · exact fun z' => by
      rcases z' with z' | z'
      · exact r.out j a q z'
      · subst z'
        exact r.wld.zok.trk a (.inr ⟨j, q⟩) hD
  · obtain ⟨s, h1, h2⟩ := r.oo j a q
    have m : j ∉ vs := fun m => by rw [on j m] at q; cases q
    exact ⟨s, by rw [wipeD_get, if_neg m]; exact h1, h2⟩
end
end DL

namespace DLX
open PySem PySem.Spec PyProof.Rows PySem.W L2
section
variable {prog : Program} {w : World} {A : Around} {E : Value → Shared → Prop} {s : Shared} {K : Frag} {x C L f : Addr} {h₀ : Heap} {m : Str → Option Value} {ox : Obj} {od : Option Obj} {b tb : Value}
end
end DLX
namespace DL
open PySem L2
section
variable {X : Cx} {C g : Addr} {fd : FuncData} {ps : List Str} {sp : Sp} {n : Nat}
end
/-- what a class must tell: the type of its instances can be looked up -/
structure IsF (K : PySem.W.Frag) (C : Addr) : Prop where
  cl : Cls K C
  ha : PySem.W.findIn K (.ref C) "__class__" = some (some (.builtin "object.__class__"))
  hn : PySem.W.specialIn K (.builtin "object.__class__") "__get__" = some (some (.builtin "getset_descriptor.__get__"))
  tk : PySem.W.takesIn K (.builtin "object.__class__") = some true
  mo : PySem.W.mroIn K C (.type "object") = some true
theorem HasB.raw {K : PySem.W.Frag} {z : Av} {As : List (List Addr)} {H : Hp} {v c : V} (h : HasB K z As H v (.raw c)) : v = c := by
  rcases h with h | ⟨_, _, _, _, h, _⟩ | ⟨_, _, _, _, _, h, _⟩
  · cases h; rfl
  · cases h
  · cases h
section
variable {X : Cx} {a b e o : Expr} {ta tb te to : TE} {wa wb we : WE} {pos : Pos} {C g : Addr} {fd : FuncData} {ps : List Str} {wf : WFn} {n : Nat} {es : List Expr}
end

/-! ### own lists: append; slices -/
section
variable {K : PySem.W.Frag} {z : Av} {O : Nat → Option Addr} {As : List (List Addr)} {σd : DS} {W : WS} {σ : St} {H : Hp}
/-- an own list is data from here on -/
abbrev wFreeze (i : Nat) (w : WSt) : WSt := fun Dd σd W => match slot σd i with
  | some (.own xs) => w Dd (σd.set i (some (.v (.d (.lst xs))))) W
  | _ => False
end
end DL

namespace DLX
open PySem PySem.Spec PyProof.Rows L2
end DLX
namespace DL
open PySem L2
/-! ### a[lo:hi] of a list, a[::-1] -/
abbrev WO := DS → WS → (Option Int → WS → Prop) → Prop
def cutD (xs : List Dv) (lo hi : Option Int) : List Dv := (xs.drop (HT.sIx xs.length 0 lo)).take (HT.sIx xs.length xs.length hi - HT.sIx xs.length 0 lo)
section
variable {K : PySem.W.Frag} {te : TE} {we : WB}
end
section
variable {X : Cx} {e : Expr} {te : TE} {we : WB} {p2 pos : Pos} {lo hi : Option Expr} {tl th : TO} {wl wh : WO}
end
/-! ### comprehensions as rules -/
section
variable {X : Cx} {c : Expr} {tt : TT} {wt : WT}
variable {elt tg iter : Expr} {ifs : List Expr} {scope : Scope} {own : List (Str × Nat)} {pos spos py : Pos} {wi : TI} {w : WI} {g : TG} {tgt : Tgt} {is : List Nat} {te : TE} {we : WE} {y : Str}
end
/-! ### short words for operators -/
section
variable {X : Cx} {K : PySem.W.Frag}
end
end DL

namespace DLX
open PySem PySem.Spec PyProof.Rows L2
section
variable {X : Cx}
end
end DLX
namespace DL
open PySem L2
section
variable {K : PySem.W.Frag}
end
section
variable {X : Cx} {a b c e : Expr} {ta tb tc te : TE} {wa wb wc we : WB} {pos : Pos}
end

/-! ### two own lists -/
section
variable {K : PySem.W.Frag}
end
section
variable {K : PySem.W.Frag}
end
section
variable {X : Cx} {x y : Str} {a b e : Expr} {t1 t2 te : TE} {w1 w2 : WF} {we : WB} {pos pos2 : Pos}
end

/-! ### a law's drawing: two numbers' sources, told by what holds of them -/
def cellsOk (cs : List Int) : Prop := ∀ c, c ∈ cs → 0 ≤ c ∧ c.natAbs.log2 ≤ 1048580
def dealR (l : List Addr) (H : Hp) : Prop := ∃ (p c : Addr) (cs : List Int) (s : Int), l = [p, c] ∧ p ≠ c ∧ H p = some (.lst [.ref c, .int s]) ∧ H c = some (.lst (cs.map V.int)) ∧ cellsOk cs ∧ cs.length ≤ 64 ∧ 0 ≤ s ∧ s < 2147483647
def dealK : MutK := ⟨dealR, fun l H H' k h => by
  obtain ⟨p, c, cs, s, rfl, n, h1, h2, h3⟩ := h
  exact ⟨p, c, cs, s, rfl, n, by rw [k p List.mem_cons_self]; exact h1, by rw [k c (List.mem_cons_of_mem _ List.mem_cons_self)]; exact h2, h3⟩⟩
/-- a new deal out of a display -/
def wDeal (w1 : WF) (w2 : WE) : WE := fun σd W Φ => w1 σd W fun xs W1 => w2 σd W1 fun y W2 => ∃ cs s, xs = cs.map Dv.int ∧ y = .d (.int s) ∧ (cellsOk cs ∧ cs.length ≤ 64 ∧ 0 ≤ s ∧ s < 2147483647) ∧ Φ (.box W2.length) (W2 ++ [.obj dealK])
section
variable {K : PySem.W.Frag}
theorem HasL.ints {N : Av} {H : Hp} : ∀ {cs : List Int} {vs : List V}, HasL K N H vs (cs.map Dv.int) → vs = cs.map V.int
  | [], _, h => by cases h; rfl
  | c :: cs, _, h => by
    cases h with
    | cons a b =>
      cases a
      rw [List.map_cons, HasL.ints b]
theorem teo_deal {t1 t2 : TE} {w1 : WF} {w2 : WE} (h1 : TFok K t1 w1) (h2 : TEok K t2 w2) : TEok K (tLst (tCons t1 (tCons t2 tNil))) (wDeal w1 w2) := by
  intro z O As σd W σ H Φ Q r g q
  refine h1 _ _ r g fun c H1 vs xs As1 W1 hc e1 wl1 hl1 hx1 g1 => ?_
  have r1 := (r.under (vs := []) hc e1 wl1 rfl).1
  refine h2 _ _ r1 g1 fun v H2 y As2 W2 e2 wl2 hy g2 => ?_
  obtain ⟨cs, s, rfl, rfl, hok, g2⟩ := g2
  obtain rfl := hy.int
  obtain rfl := hx1.ints
  have zc : zo (z1 z c) (owOf O) c := .inl (.inr rfl)
  have hl2 : H2 c = some (.lst (cs.map V.int)) := (e2.keep c _ hl1 (r1.wld.zok.out c zc) fun f => f).1
  refine ⟨by show 2 ≤ sizeLine; decide, fun p hp => ?_⟩
  have npc : p ≠ c := fun e => by rw [e, hl2] at hp; cases hp
  have e12 := e1.trans e2
  have k0 : ∀ b o, H2 b = some o → upd H2 p (.lst [.ref c, .int s]) b = some o := fun b o h => by rw [upd_ne (ne_of_none h hp)]; exact h
  have sub : ∀ a, zo z (owOf O) a → zo (z1 z c) (owOf O) a := fun a q => by
    rcases q with q | q
    · exact .inl (.inl q)
    · exact .inr q
  -- the world with the two as one thing
  have ws := wl2.weak sub
  have h0 : H p = none := up_none e12 hp
  have ex : Ext As2 H2 (As2 ++ [[p, c]]) (upd H2 p (.lst [.ref c, .int s])) → True := fun _ => trivial
  have keepx : ∀ b o, H2 b = some o → b ≠ c → ¬ fpOf As2 b → upd H2 p (.lst [.ref c, .int s]) b = some o ∧ ¬ fpOf (As2 ++ [[p, c]]) b := fun b o h n1 n2 => by
    refine ⟨k0 b o h, fun f => ?_⟩
    rcases fp_app.mp f with f | f
    · exact n2 f
    · rcases List.mem_cons.mp f with f | f
      · rw [f, hp] at h
        cases h
      · exact n1 (List.mem_singleton.mp f)
  have hcz : ∀ a, zo z (owOf O) a → a ≠ c := fun a q e => by
    rw [e] at q
    exact r.wld.zok.trk c q hc
  have zcf : ¬ fpOf As2 c := wl2.zok.out c zc
  have up2 : ∀ a, H2 a ≠ none → upd H2 p (.lst [.ref c, .int s]) a ≠ none := fun a q => by
    unfold upd
    split
    · exact fun x => by cases x
    · exact q
  have mv : Mv (bad (zo (z1 z c) (owOf O)) As2) H2 (bad (zo z (owOf O)) (As2 ++ [[p, c]])) (upd H2 p (.lst [.ref c, .int s])) := fun b o h n => by
    have n1 : b ≠ c := fun e => n (.inr (by rw [e]; exact zc))
    obtain ⟨g1, g2⟩ := keepx b o h n1 fun f => n (.inl f)
    refine ⟨g1, fun q => ?_⟩
    rcases q with q | q
    · exact g2 q
    · exact n (.inr (sub b q))
  have at2 : ∀ (j : Nat) (l : List Addr), As2[j]? = some l → (As2 ++ [[p, c]])[j]? = some l := fun j l h => by
    rw [List.getElem?_append_left (List.getElem?_eq_some_iff.mp h).1]
    exact h
  have hv : ∀ {v : V} {x : Sv}, HasV K (zo (z1 z c) (owOf O)) As2 H2 v x → HasV K (zo z (owOf O)) (As2 ++ [[p, c]]) (upd H2 p (.lst [.ref c, .int s])) v x := fun q => by
    cases q with
    | d q => exact .d (q.mv mv)
    | box q => exact .box (at2 _ _ q)
  have hvl : ∀ {vs : List V} {xs : List Sv}, HasVL K (zo (z1 z c) (owOf O)) As2 H2 vs xs → HasVL K (zo z (owOf O)) (As2 ++ [[p, c]]) (upd H2 p (.lst [.ref c, .int s])) vs xs := by
    intro vs xs q
    induction q with
    | nil => exact .nil
    | cons a _ ih => exact .cons (hv a) ih
  have last : ∀ {i : Nat} {l : List Addr}, (As2 ++ [[p, c]])[i]? = some l → As2[i]? = some l ∨ (i = As2.length ∧ l = [p, c]) := by
    intro i l h
    by_cases hi : i < As2.length
    · rw [List.getElem?_append_left hi] at h
      exact .inl h
    · have q := (List.getElem?_eq_some_iff.mp h).1
      rw [List.length_append, List.length_singleton] at q
      have hi' : i = As2.length := by omega
      subst hi'
      rw [List.getElem?_concat_length] at h
      cases h
      exact .inr ⟨rfl, rfl⟩
  have out2 : ∀ a, a ∈ [p, c] → ¬ fpOf As2 a := fun a m f => by
    rcases List.mem_cons.mp m with m | m
    · subst m
      exact wl2.trk a f hp
    · rw [List.mem_singleton.mp m] at f
      exact zcf f
  have dl : dealR [p, c] (upd H2 p (.lst [.ref c, .int s])) := ⟨p, c, cs, s, rfl, npc, upd_same, by rw [upd_ne npc.symm]; exact hl2, hok⟩
  have w3 : Wld K (zo z (owOf O)) (As2 ++ [[p, c]]) (W2 ++ [.obj dealK]) (upd H2 p (.lst [.ref c, .int s])) := by
    refine ⟨by rw [List.length_append, List.length_append, wl2.len] <;> rfl, fun j l u a1 a2 => ?_, fun a f => ?_, fun i j l l' a a1 a2 m1 m2 => ?_, ⟨fun a q => up2 a (wl2.zok.trk a (sub a q)), fun a q f => ?_⟩⟩
    · rcases last a1 with b1 | ⟨b1, b2⟩
      · rw [List.getElem?_append_left (by rw [← wl2.len]; exact (List.getElem?_eq_some_iff.mp b1).1)] at a2
        have old := wl2.rep j l u b1 a2
        have ne : ∀ a, a ∈ l → upd H2 p (.lst [.ref c, .int s]) a = H2 a := fun a m => upd_ne fun e => by
          subst e
          exact wl2.trk a ⟨l, List.mem_of_getElem? b1, m⟩ hp
        cases u with
        | lst xs =>
          obtain ⟨a, vs, rfl, q, r⟩ := old
          exact ⟨a, vs, rfl, by rw [ne a (List.Mem.head _)]; exact q, hvl r⟩
        | ins C ks ds =>
          obtain ⟨a, dx, vs, rfl, q, r, n⟩ := old
          exact ⟨a, dx, vs, rfl, by rw [ne a (List.Mem.head _)]; exact q, hvl r, n⟩
        | dic ks ds =>
          obtain ⟨a, vs, rfl, q, r, n⟩ := old
          exact ⟨a, vs, rfl, by rw [ne a (List.Mem.head _)]; exact q, hvl r, n⟩
        | obj k => exact k.st l H2 _ ne old
        | lck o_ vs_ ks ds =>
          obtain ⟨a, rfl, q, r, n⟩ := old
          exact ⟨a, rfl, by rw [ne a (List.Mem.head _)]; exact q, hvl r, n⟩
        | tupV xs =>
          obtain ⟨a, vs, rfl, q, r⟩ := old
          exact ⟨a, vs, rfl, by rw [ne a (List.Mem.head _)]; exact q, hvl r⟩
        | tab P q =>
          obtain ⟨rfl, old⟩ := old
          exact ⟨rfl, old.mv mv (ne P (List.Mem.head _))⟩
        | xo C ks ds =>
          obtain ⟨a, vs, rfl, q, r, n⟩ := old
          exact ⟨a, vs, rfl, q.mv mv (ne a (List.Mem.head _)), hvl r, n⟩
        | gone => trivial
      · subst b1 b2
        rw [wl2.len, List.getElem?_concat_length] at a2
        cases a2
        exact dl
    · rcases fp_app.mp f with f | f
      · exact up2 a (wl2.trk a f)
      · rcases List.mem_cons.mp f with f | f
        · rw [f, upd_same]
          exact fun x => by cases x
        · rw [List.mem_singleton.mp f, upd_ne npc.symm, hl2]
          exact fun x => by cases x
    · rcases last a1 with b1 | ⟨b1, b1'⟩ <;> rcases last a2 with b2 | ⟨b2, b2'⟩
      · exact wl2.dis i j l l' a b1 b2 m1 m2
      · subst b2'
        exact (out2 a m2 ⟨l, List.mem_of_getElem? b1, m1⟩).elim
      · subst b1'
        exact (out2 a m1 ⟨l', List.mem_of_getElem? b2, m2⟩).elim
      · rw [b1, b2]
    · rcases fp_app.mp f with f | f
      · exact wl2.zok.out a (sub a q) f
      · rcases List.mem_cons.mp f with f | f
        · rw [f] at q
          exact r.wld.zok.trk p q h0
        · exact hcz a q (List.mem_singleton.mp f)
  have e3 : Ext As H (As2 ++ [[p, c]]) (upd H2 p (.lst [.ref c, .int s])) := by
    refine ⟨fun b o h n m => ?_, fun j l h => at2 j l (e12.at_ j l h), fun a q => up2 a (e12.up a q)⟩
    obtain ⟨g1, g2, _⟩ := e12.keep b o h n m
    obtain ⟨g3, g4⟩ := keepx b o g1 (fun e => by rw [e, hc] at h; cases h) g2
    exact ⟨g3, g4, fun f => f⟩
  refine q _ _ _ (As2 ++ [[p, c]]) _ e3 w3 (.box (l := [c]) ?_) g2
  rw [← wl2.len, List.getElem?_concat_length]
end
theorem d_deal {X : Cx} {e1 e2 : Expr} {t1 t2 : TE} {w1 : WF} {w2 : WE} {pos : Pos} (h1 : PF X e1 t1 w1) (h2 : PD X e2 t2 w2) (hpa : PA X [e1, e2] (tCons t1 (tCons t2 tNil))) : PD X (.List [e1, e2] pos) (tLst (tCons t1 (tCons t2 tNil))) (wDeal w1 w2) := ⟨pe_lst hpa, teo_deal h1.ok h2.ok⟩
end DL

namespace DLX
open PySem PySem.Spec PyProof.Rows L2
end DLX
namespace DL
open PySem L2
section
variable {X : Cx} {o e e2 o2 : Expr} {te : TE} {we : WE} {wb : WB} {pos cpos apos apos2 cpos2 : Pos}
theorem dd {a b : Expr} {t1 t2 : TE} {w1 : WF} {w2 : WE} (ha : PF X a t1 w1) (hb : PD X b t2 w2) (h1 : starEach [a, b] X.env = (false, eval a X.env) :: starEach [b] X.env := by rfl) (h2 : starEach [b] X.env = (false, eval b X.env) :: starEach [] X.env := by rfl) :
    PD X (.List [a, b] pos) (tLst (tCons t1 (tCons t2 tNil))) (wDeal w1 w2) := d_deal ha hb (pa_cons ha.pe (pa_cons hb.pe pa_nil h2) h1)
end
/-! ### what helps in the readings -/
section
variable {K : PySem.W.Frag}
end
section
variable {X : Cx} {st : Stmt}
end
section
variable {K : PySem.W.Frag} {z : Av} {As : List (List Addr)} {W : WS} {H H' : Hp}
end
end DL

namespace DL
open PySem L2
/-! what any value is -/
def isFromD (x : Dv) (l : Int) : Bool := match x with
  | .int i => decide (l ≤ i)
  | _ => false
def isiOk (K : PySem.W.Frag) : Dv → Prop
  | .raw _ => False
  | .exc _ _ _ _ _ => False
  | .ins C _ _ => IsF K C ∧ PySem.W.kitOne K (.ref C) (.type "int") = some false ∧ PySem.W.kitOne K (.ref C) (.type "bool") = some false ∧ PySem.W.kitOne K (.ref C) (.type "str") = some false ∧ PySem.W.kitOne K (.ref C) (.type "list") = some false ∧ PySem.W.kitOne K (.ref C) (.type "tuple") = some false
  | _ => True
end DL

namespace DL
open PySem L2
end DL

/-! the law's own call, where nothing is being shown by repr -/
namespace DLG
open PySem PySem.Spec PyProof.Rows L2
section
variable {P : Program} {w : World} {K : PySem.W.Frag} {mg mb : Str → Option Value}
end
end DLG

/-! repr of data -/
namespace DLG
open PySem L2
section
variable {X : Cx} {pins : List (Addr × Obj)} {σ : L2.St} {H : Hp} {s : Shared}
end
end DLG
namespace DL
open PySem L2
section
variable {K : PySem.W.Frag} {N : Av} {H : Hp}
end
end DL

/-! the law as a whole, where repr is called -/
namespace DL
open PySem L2
section
variable {P : Program} {w : World} {K : PySem.W.Frag} {mg : Str → Option Value}
end
end DL

/-! comparing data, in, slices of tuples, tuple(..), zip -/
namespace DLG
open PySem PySem.Spec PyProof.Rows L2
section
variable {X : Cx}
end
end DLG
namespace DL
open PySem L2
section
variable {K : PySem.W.Frag} {N : Av} {H : Hp}
/-! in -/
end
end DL

namespace DL
open PySem L2 RZ
section
variable {K : PySem.W.Frag}
theorem HasL.cut {N : Av} {H : Hp} {vs : List V} {ds : List Dv} (lo hi : Option Int) (h : HasL K N H vs ds) : HasL K N H (cutV vs lo hi) (cutD ds lo hi) := by
  have hd : ∀ (n : Nat) {vs : List V} {ds : List Dv}, HasL K N H vs ds → HasL K N H (vs.drop n) (ds.drop n) := fun n => by
    induction n with
    | zero => exact fun h => h
    | succ n ih =>
      intro vs ds h
      cases h with
      | nil => exact .nil
      | cons a b => exact ih b
  have ht : ∀ (n : Nat) {vs : List V} {ds : List Dv}, HasL K N H vs ds → HasL K N H (vs.take n) (ds.take n) := fun n => by
    induction n with
    | zero => exact fun h => .nil
    | succ n ih =>
      intro vs ds h
      cases h with
      | nil => exact .nil
      | cons a b => exact .cons a (ih b)
  unfold cutV cutD
  rw [h.length]
  exact ht _ (hd _ h)
end
section
variable {X : Cx} {e a b c : Expr} {lo hi : Option Expr} {te : TE} {we : WB} {tl th : TO} {wl wh : WO} {ta : TA} {p p2 pos pos2 : Pos}
end
end DL

namespace DL
open PySem L2
section
variable {K : PySem.W.Frag}
end
section
variable {X : Cx} {tg e : Expr} {te : TE} {we : WE} {g : TG} {tgt : Tgt} {is : List Nat} {pos : Pos}
end
/-! rules for use within comprehensions: the part of the text is named, not the place -/
section
variable {X : Cx} {K : PySem.W.Frag} {o e : Expr} {es : List Expr} {te to : TE} {we wo : WE} {t : TA} {wa : WA} {C fa : Addr} {m f x : Str} {fd : FuncData} {ps : List Str} {wf : WFn} {k : Nat} {dvs : List V} {ds : List Value} {dd : List Dv} {pos apos p : Pos}
end
end DL

/-! what repr shows of numbers is short -/
namespace DL
open PySem L2
theorem log_small {k : Int} (h0 : 0 ≤ k) (h : k < 100000000000000000000) : k.natAbs.log2 < 120 := by
  by_cases z : k.natAbs = 0
  · rw [z]; decide
  · apply (Nat.log2_lt z).mpr
    have e : (2 : Nat) ^ 120 = 1329227995784915872903807060280344576 := by decide
    rw [e]
    omega
end DL

/-! super().__init__('..') within the __init__ of an own exception over other own ones over ValueError -/
namespace SX
open PySem PySem.Spec PySem.W PyProof.Rows L2 NdefX

section
variable {prog : Program} {w : World} {A : Around} {E : Value → Shared → Prop} {h : Heap} {g : Array GenState} {d : Drawn} {t : Nat} {os : OsState}
end

section
variable {CX : CXT} {P : Program} {w : World} {K : PySem.W.Frag} {mg : Str → Option Value} {base : Heap} {N ps : List Str} {F : NF} {f : Addr} {A : Around} {outer : List Env} {s0 : Shared} {H0 : Hp} {E0 : XK}
end
end SX

/-! C() and C(e) of own exceptions whose __init__ says super().__init__('..') -/
namespace SX
open PySem PySem.Spec PySem.W PyProof.Rows L2 NdefX

section
variable {P : Program} {w : World} {K : PySem.W.Frag} {mg : Str → Option Value} {base : Heap} {N : List Str} {F : NF} {f : Addr}
end

section
variable {X : Cx} {x : Str} {p pos : Pos} {C fI : Addr} {k : Nat} {fd : FuncData}
end
end SX

/-! exceptions, over data -/
namespace DL
open PySem L2

/-- what is wanted where an exception of the class C with these fields comes out -/
abbrev XW := Addr → List Str → List Dv → DS → WS → Prop
abbrev XF := Addr → List Str → List Dv → WS → Prop
def ExF (K : PySem.W.Frag) (N : Av) (H : Hp) (d : Option Addr) (C : Addr) (ks : List Str) (ds : List Dv) : Prop := ∀ a, Has K N H (.ref a) (.exc a d C ks ds)
theorem ExF.mv {K : PySem.W.Frag} {N N' : Av} {H H' : Hp} {d : Option Addr} {C : Addr} {ks : List Str} {ds : List Dv} (e : Mv N H N' H') (h : ExF K N H d C ks ds) : ExF K N' H' d C ks ds := fun a => (h a).mv e
def ExOk (K : PySem.W.Frag) (z : Av) (As : List (List Addr)) (ow : Av) (H : Hp) (ΦX : XW) (Wx : WX) : Prop :=
  ∀ C d ks ds O' As' σd' W' σ' H', ExtS As ow H As' (owOf O') H' → Rep K z O' As' σd' W' σ' H' → ExF K (bad (zo z (owOf O')) As') H' d C ks ds → ΦX C ks ds σd' W' → Wx (.ref C) d σ' H'
theorem ExOk.ext {K : PySem.W.Frag} {z : Av} {As As' : List (List Addr)} {ow ow' : Av} {H H' : Hp} {ΦX : XW} {Wx : WX} (h : ExOk K z As ow H ΦX Wx) (e : ExtS As ow H As' ow' H') : ExOk K z As' ow' H' ΦX Wx :=
  fun _ _ _ _ _ _ _ _ _ _ f => h _ _ _ _ _ _ _ _ _ _ (e.trans f)
/-! ### judgements that may let an exception out -/
def TEX (K : PySem.W.Frag) (t : WX → TE) (w : XW → WE) : Prop := ∀ {z : Av} {O : Nat → Option Addr} {As : List (List Addr)} {σd : DS} {W : WS} {σ : L2.St} {H : Hp} (ΦX : XW) (Wx : WX) (Φ : Sv → WS → Prop) (Q : VK),
  Rep K z O As σd W σ H → w ΦX σd W Φ → Nx K (zo z (owOf O)) As H Φ Q → ExOk K z As (owOf O) H ΦX Wx → t Wx σ H Q
def TSX (K : PySem.W.Frag) (t : WX → TS) (w : XW → WSt) : Prop := ∀ {z : Av} {O : Nat → Option Addr} {As : List (List Addr)} {σd : DS} {W : WS} {σ : L2.St} {H : Hp} (ΦX : XW) (Wx : WX) (Dd : DEnds) (D : Ends),
  Rep K z O As σd W σ H → w ΦX Dd σd W → EndsOk K z As (owOf O) H Dd D → ExOk K z As (owOf O) H ΦX Wx → t Wx D σ H
/-! ### what lets nothing out -/
section
variable {K : PySem.W.Frag} {te : TE} {we : WE} {t : TS} {wt : WSt}
theorem TEX.of (h : TEok K te we) : TEX K (fun _ => te) (fun _ => we) := by
  intro z O As σd W σ H ΦX Wx Φ Q r g q x
  exact h Φ Q r g q
theorem TSX.of (h : TSok K t wt) : TSX K (fun _ => t) (fun _ => wt) := by
  intro z O As σd W σ H ΦX Wx Dd D r g q x
  exact h Dd D r g q
end
section
variable {X : Cx} {e a b : Expr} {es : List Expr} {st : Stmt} {rest : List Stmt} {te : TE} {we : WE} {t u : TS} {wt wu : WSt} {tX uX : WX → TS} {wX vX : XW → WSt} {teX : WX → TE} {weX : XW → WE} {tbX : WX → TE} {wbX : XW → WB} {pos pos' : Pos} {x : Str}
/-! ### sequences, if -/
/-! ### statements over expressions that may let one out -/
/-! ### raise -/
/-! ### isinstance(C(..), D), str(..), not .. -/
end
end DL

/-! defs that raise, what makes exceptions, over data -/
namespace DL
open PySem L2
/-! ### exceptions made -/
section
variable {X : Cx} {x : Str} {p pos : Pos} {C fI : Addr} {k : Nat} {fd : FuncData} {e : Expr} {te : TE} {we : WE} {wa : WA} {ta : TA}
end

/-! ### defs that raise -/
abbrev WFnX := List Sv → WS → (Sv → WS → Prop) → XF → Prop
section
variable {P : Program} {w : World} {K : PySem.W.Frag} {mg : Str → Option Value} {base : Heap}
end

/-! ### calls that may raise -/
section
variable {X : Cx} {CX : CXT} {k : Nat} {f C : Addr} {fd : FuncData} {ps : List Str} {sp : Sp} {E : L2.St → XK} {x m : Str} {p pos apos : Pos} {e o : Expr} {es : List Expr} {t : TA} {ds : List Value} {dvs : List V}
end
section
variable {X : Cx} {x f m : Str} {p pos apos pos' : Pos} {e o value : Expr} {es : List Expr} {t : TA} {wa : WA} {wf : WFnX} {C fa pa g : Addr} {fd : FuncData} {ps : List Str} {k : Nat} {ds : List Value} {dvs : List V} {dd : List Dv} {te to : TE} {we wo : WE}
end
end DL

/-! try: body, except B as n: suite, over data -/
namespace DL
open PySem L2
section
variable {K : PySem.W.Frag} {z : Av} {O : Nat → Option Addr} {As As' : List (List Addr)} {σd : DS} {W W' : WS} {σ : L2.St} {H H' : Hp}
end
section
variable {X : Cx} {x n : Str} {B : Addr} {i : Nat} {body suite : List Stmt} {b₀ : Stmt} {np pos pos' : Pos} {tx : WX → TS} {wx : XW → WSt} {ts : Addr → Value → Option Addr → TS} {ws : Addr → Value → Option Addr → WSt}
end

/-! ### in the suite: isinstance(e, C), e.f -/
def DictAt (d : Option Addr) (H : Hp) : Prop := d = none ∨ ∃ dd fs, d = some dd ∧ H dd = some (.xd fs)
theorem HasB.exc {K : PySem.W.Frag} {z : Av} {As : List (List Addr)} {H : Hp} {v : V} {a C : Addr} {d : Option Addr} {ks : List Str} {ds : List Dv} (h : HasB K z As H v (.exc a d C ks ds)) : v = .ref a ∧ DictAt d H ∧ ∀ dd, d = some dd → ∃ vs, H dd = some (.xd (ks.zip vs)) ∧ HasL K (bad z As) H vs ds := by
  rcases h with h | ⟨_, _, _, _, h, _⟩ | ⟨_, _, _, _, _, h, _⟩
  · cases h with
    | exc0 => exact ⟨rfl, .inl rfl, fun dd q => nomatch q⟩
    | exc n s l e => exact ⟨rfl, .inr ⟨_, _, rfl, s⟩, fun dd q => by cases q; exact ⟨_, s, l⟩⟩
  · cases h
  · cases h
section
variable {X : Cx} {a : Addr} {oe : Obj} {cls : Value} {d : Option Addr} {pn : List (Addr × Obj)} {e : Expr} {es : List Expr} {te : TE} {we : WE} {ta : TA} {wa : WAB} {p pos : Pos} {f : Str}
end
end DL

namespace DL
open PySem L2
/-! ### what may be promised -/
section
variable {P : Program} {w : World} {K : PySem.W.Frag} {mg : Str → Option Value} {base : Heap} {CX : CXT} {k : Nat} {f : Addr} {fd : FuncData} {ps : List Str}
end
/-! ### things of any kind -/
end DL
namespace SX
open PySem PySem.Spec PySem.W PyProof.Rows L2 NdefX
section
variable {K : PySem.W.Frag} {nm q nm2 q2 : Str} {C N F N2 : Addr} {bs bm bs2 : List Value} {hd hd2 : Bool} {sn sn2 : List Str} {sub sub2 : List Value} {ab ab2 : Bool} {col col2 : Option Bool} {dd dd2 : Option Addr} {k0 k1 k2 k3 k5 j0 j1 j2 j3 j5 : Option Value} {nid nid2 : String} {r : Option (Option Value)}
end
end SX

/-! rules for the bodies of try, the part of the text named -/
namespace DL
open PySem L2
section
variable {X : Cx} {K : PySem.W.Frag} {x f m : Str} {p pos apos pos' : Pos} {e o value : Expr} {es : List Expr} {t : TA} {wa : WA} {wf : WFnX} {C fa pa g : Addr} {fd : FuncData} {ps : List Str} {k : Nat} {ds : List Value} {dvs : List V} {dd : List Dv} {te to : TE} {we wo : WE} {ta : WX → TA} {waX : XW → WAB}
end
end DL

namespace DL
open PySem L2 PySem.Spec PyProof.Rows
/-! ### str(..) of an own class with __str__ -/
section
variable {X : Cx} {C g : Addr} {fd : FuncData} {ps : List Str} {sp : Sp} {n : Nat}
end
/-! ### f-strings -/
inductive PJD (X : Cx) : List Expr → List TE → List WE → Prop where
  | nil : PJD X [] [] []
  | cons {e : Expr} {t : TE} {w : WE} {es : List Expr} {ts : List TE} {ws : List WE} (h : PD X e t w) (r : PJD X es ts ws) : PJD X (e :: es) (t :: ts) (w :: ws)
def wJs : List WE → Str → DS → WS → (Str → WS → Prop) → Prop
  | [], acc, _, W, Φ => Φ acc W
  | w :: ws, acc, σd, W, Φ => w σd W fun x W1 => match x with
    | .d (.str y) => (acc ++ y).length ≤ 1000000 ∧ wJs ws (acc ++ y) σd W1 Φ
    | _ => False
section
variable {X : Cx} {e v1 v2 : Expr} {es rest : List Expr} {te : TE} {we : WE} {ts : List TE} {ws : List WE} {pos : Pos}
theorem PJD.run (h : PJD X es ts ws) : ∀ {z : Av} {O : Nat → Option Addr} {As : List (List Addr)} {σd : DS} {W : WS} {σ : L2.St} {H : Hp} (acc : Str) (Φ : Str → WS → Prop) (Q : Str → Hp → Prop), Rep X.K z O As σd W σ H → wJs ws acc σd W Φ →
    (∀ y H' As' W', Ext As H As' H' → Wld X.K (zo z (owOf O)) As' W' H' → Φ y W' → Q y H') → tJs ts acc σ H Q := by
  induction h with
  | nil =>
    intro z O As σd W σ H acc Φ Q r g q
    exact q acc H As W ExtS.refl r.wld g
  | cons h _ ih =>
    intro z O As σd W σ H acc Φ Q r g q
    refine h.ok _ _ r g fun v H1 x As1 W1 e wl hv p => ?_
    split at p
    · obtain rfl := hv.str
      exact ⟨_, rfl, line_of p.1, ih _ Φ Q (r.ext e wl) p.2 fun y H' As' W' e2 wl2 p2 => q y H' As' W' (e.trans e2) wl2 p2⟩
    · exact p.elim
end
/-! ### an own list: x[k] = e; with a further value -/
section
variable {X : Cx} {x y : Str} {a b e o k : Expr} {t1 t2 te ti : TE} {w1 : WF} {w2 we : WE} {wi : WB} {pos pos2 : Pos}
end
end DL

/-! C(k = v, ..), all parameters in their order -/
namespace DL
open PySem L2 PySem.Spec PyProof.Rows
section
variable {X : Cx} {e : Expr} {kws : List Keyword} {te : TE} {we : WE} {t : TA} {wr : WA} {nm : Option Str} {kpos : Pos}
end
end DL

namespace DL
open PySem L2
end DL
namespace DL
open PySem L2
section
variable {t : WT} {a rest : XW → WSt} {ΦX : XW} {Dd : DEnds} {σ : DS} {W : WS} {b : Bool}
end
end DL
namespace DL
open PySem L2
end DL
namespace DL
open PySem L2
section
variable {t : WT} {a rest : WSt} {Dd : DEnds} {σ : DS} {W : WS} {b : Bool}
end
end DL
namespace DL
open PySem L2
theorem frz {i : Nat} {w : WSt} {Dd : DEnds} {σ : DS} {W : WS} {xs : List Dv} (h : slot σ i = some (.own xs)) (q : w Dd (σ.set i (some (.v (.d (.lst xs))))) W) : wFreeze i w Dd σ W := by
  unfold wFreeze
  rw [h]
  exact q
end DL

/-! texts -/
namespace DL
open PySem L2 PySem.Spec PyProof.Rows
section
variable {K : PySem.W.Frag} {N : Av} {H : Hp}
end
/-! ### split, join -/
section
variable {X : Cx} {K : PySem.W.Frag} {o e : Expr} {to te : TE} {wo we : WB} {apos pos : Pos}
/-! ### all(list), int(text), str(text), text + text -/
/-! ### one sign in a text -/
/-! ### for sign in text -/
end
end DL

/-! x[0::2], x[1::2] of six; classes in names, class methods -/
namespace DLX
open PySem PySem.Spec PyProof.Rows L2
end DLX
namespace DL
open PySem L2
end DL

/-! a class in a name, called; a class method called -/
namespace DL
open PySem L2 PySem.Spec PyProof.Rows
section
variable {X : Cx} {CX : CXT} {k : Nat} {f C : Addr} {fd : FuncData} {ps : List Str} {sp : Sp} {E : L2.St → XK} {x m : Str} {p pos apos : Pos} {e o : Expr} {es : List Expr} {ta : TE} {t : TA} {ds : List Value} {dvs : List V}
end
section
variable {X : Cx} {K : PySem.W.Frag} {x m : Str} {p pos apos : Pos} {e o : Expr} {es : List Expr} {t : TA} {wa : WA} {wf : WFnX} {C fa pa : Addr} {fd : FuncData} {ps : List Str} {k : Nat} {ds : List Value} {dvs : List V} {dd : List Dv} {to : TE} {wo : WE}
end
end DL

namespace DL
open PySem L2
section
variable {X : Cx} {K : PySem.W.Frag} {a b c : Expr} {ta tb tc : TE} {wa wb wc : WB} {pos : Pos}
end
/-! ### texts of numbers -/
/-- a number's text, as it is written -/
def canonB (w : Str) : Bool := decide (1 ≤ w.length) && decide (w.length ≤ 19) && w.cps.toList.all (fun c => decide (c ∈ ("0123456789" : Str).cps.toList)) && (decide (w = "0") || decide (w.cps.toList[0]? ≠ some 48))
def valS (w : Str) : Int := ((PySem.NumText.digitsVal w.cps.toList : Nat) : Int)
def numD (w : Str) : Dv := if canonB w = true then .int (valS w) else .non
theorem fig_digit {c : Nat} : c ∈ ("0123456789" : Str).cps.toList ↔ 48 ≤ c ∧ c ≤ 57 := by
  have e : ("0123456789" : Str).cps.toList = [48, 49, 50, 51, 52, 53, 54, 55, 56, 57] := by decide +kernel
  rw [e]
  simp
  omega
theorem len_list (x : Str) : x.length = x.cps.toList.length := by
  unfold Str.length
  simp
structure Canon (w : Str) : Prop where
  one : 1 ≤ w.length
  top : w.length ≤ 19
  dig : PySem.NumText.AllDigits w.cps.toList
  fst : w = "0" ∨ w.cps.toList[0]? ≠ some 48
theorem canon_to {w : Str} (h : Canon w) : canonB w = true := by
  unfold canonB
  simp only [Bool.and_eq_true, decide_eq_true_eq, List.all_eq_true, Bool.or_eq_true]
  exact ⟨⟨⟨h.one, h.top⟩, fun c hc => fig_digit.mpr (h.dig c hc)⟩, h.fst⟩
theorem digits_len : ∀ (k n : Nat), n < 10 ^ (k + 1) → (Nat.toDigits 10 n).length ≤ k + 1
  | 0, n, h => by
    rw [Nat.toDigits_of_lt_base (by simpa using h)]
    exact Nat.le_refl _
  | k + 1, n, h => by
    by_cases h2 : n < 10
    · rw [Nat.toDigits_of_lt_base h2]
      show 1 ≤ _
      omega
    · have e : Nat.toDigits 10 (n / 10) ++ Nat.toDigits 10 (n % 10) = Nat.toDigits 10 (10 * (n / 10) + n % 10) := Nat.toDigits_append_toDigits (by decide) (by omega) (by omega)
      rw [Nat.div_add_mod] at e
      have ih := digits_len k (n / 10) (by
        rw [Nat.pow_succ] at h
        omega)
      rw [← e, List.length_append, Nat.toDigits_of_lt_base (b := 10) (n := n % 10) (by omega)]
      show _ + 1 ≤ _
      omega
theorem digits_fst : ∀ (k n : Nat), n < 10 ^ (k + 1) → n ≠ 0 → ((Nat.toDigits 10 n).map Char.toNat)[0]? ≠ some 48
  | 0, n, h, h0 => by
    have h : n < 10 := by simpa using h
    rw [Nat.toDigits_of_lt_base h]
    have key : ∀ d : Nat, d < 10 → (Nat.digitChar d).toNat = d + 48 := by decide
    show some (Nat.digitChar n).toNat ≠ some 48
    rw [key n h]
    intro e
    have := Option.some.inj e
    omega
  | k + 1, n, h, h0 => by
    by_cases h2 : n < 10
    · exact digits_fst 0 n (by simpa using h2) h0
    · have e : Nat.toDigits 10 (n / 10) ++ Nat.toDigits 10 (n % 10) = Nat.toDigits 10 (10 * (n / 10) + n % 10) := Nat.toDigits_append_toDigits (by decide) (by omega) (by omega)
      rw [Nat.div_add_mod] at e
      have ih := digits_fst k (n / 10) (by
        rw [Nat.pow_succ] at h
        omega) (by omega)
      have hl : 0 < (Nat.toDigits 10 (n / 10)).length := by
        have := PySem.W.KIN.signs_num (n / 10)
        apply Classical.byContradiction
        intro z
        have z2 : Nat.toDigits 10 (n / 10) = [] := List.length_eq_zero_iff.mp (by omega)
        have v := PySem.W.KIN.val_back (n / 10)
        rw [z2] at v
        have v : 0 = n / 10 := v
        omega
      rw [← e, List.map_append, List.getElem?_append_left (by rw [List.length_map]; exact hl)]
      exact ih
theorem canon_num {n : Nat} (h : n < 10 ^ 19) : Canon (toString ((n : Nat) : Int) : Str) ∧ valS (toString ((n : Nat) : Int) : Str) = (n : Int) := by
  have e := PySem.W.KIN.signs_num n
  have hv := PySem.W.KIN.val_back n
  have hd : PySem.NumText.AllDigits (Str.ofString (toString ((n : Nat) : Int))).cps.toList := by
    intro c hc
    rw [e] at hc
    obtain ⟨ch, hch, e2⟩ := List.mem_map.mp hc
    have r := Nat.isDigit_of_mem_toDigits (by decide) (by decide) hch
    rw [← e2]
    unfold Char.isDigit at r
    simp only [Bool.and_eq_true, decide_eq_true_eq] at r
    exact ⟨r.1, r.2⟩
  have hl : (Str.ofString (toString ((n : Nat) : Int))).length = (Nat.toDigits 10 n).length := by
    rw [len_list, e, List.length_map]
  refine ⟨⟨?_, ?_, hd, ?_⟩, ?_⟩
  · show 1 ≤ (Str.ofString (toString ((n : Nat) : Int))).length
    rw [hl]
    apply Classical.byContradiction
    intro z
    have z2 : Nat.toDigits 10 n = [] := List.length_eq_zero_iff.mp (by omega)
    by_cases h10 : n < 10
    · rw [Nat.toDigits_of_lt_base h10] at z2
      cases z2
    · rw [z2] at hv
      have hv : 0 = n := hv
      omega
  · show (Str.ofString (toString ((n : Nat) : Int))).length ≤ 19
    rw [hl]
    exact digits_len 18 n h
  · by_cases h0 : n = 0
    · subst h0
      left
      decide +kernel
    · right
      show (Str.ofString (toString ((n : Nat) : Int))).cps.toList[0]? ≠ some 48
      rw [e]
      exact digits_fst 18 n h h0
  · show ((PySem.NumText.digitsVal (Str.ofString (toString ((n : Nat) : Int))).cps.toList : Nat) : Int) = n
    rw [e, hv]
theorem canon_int {i : Int} (h0 : 0 ≤ i) (h : i < 10000000000000000000) : Canon (toString i : Str) ∧ valS (toString i : Str) = i := by
  obtain ⟨n, rfl⟩ := Int.eq_ofNat_of_zero_le h0
  exact canon_num (by
    have e : (10 : Nat) ^ 19 = 10000000000000000000 := by decide
    omega)
end DL

/-! texts of loads: cut at the blanks, put together -/
namespace DL
open PySem L2 TL
theorem tl_sp : tl (" " : Str) = [32] := by decide +kernel
/-- a text's bounds -/
structure TxtOk (n : Nat) (x : Str) : Prop where
  len : x.length ≤ n
  chr : ∀ c, c ∈ tl x → c < 256
theorem Canon.txt {w : Str} (h : Canon w) : TxtOk 19 w := ⟨h.top, fun c hc => by have := h.dig c hc; omega⟩
end DL

namespace DL
open PySem L2 TL
end DL

namespace DL
open PySem L2 TL
/-! ### a part of a list of strings -/
def wt (ps : List Str) : Nat := (ps.map (·.length)).sum + ps.length
end DL

/-! dicts: displays, own dicts, update, d[k], d.get(k, x) -/
namespace DL
open PySem L2
/-! ### keys and values apart -/
def hasK (ks : List Key) (k : Key) : Bool := ks.any fun x => decide (x = k)
def putDs {α : Type} (ks : List Key) (as : List α) (k : Key) (a : α) : List α := if hasK ks k = true then List.zipWith (fun k' x => if k' = k then a else x) ks as else as ++ [a]
def getA {α : Type} : List Key → List α → Key → Option α
  | k' :: ks, a :: as, k => if k' = k then some a else getA ks as k
  | _, _, _ => none
section
variable {α : Type}
end
section
variable {K : PySem.W.Frag} {N : Av} {H : Hp}
theorem HasL.zw {v : V} {d : Dv} {k : Key} (hv : Has K N H v d) : ∀ {ks : List Key} {vs : List V} {ds : List Dv}, HasL K N H vs ds → HasL K N H (List.zipWith (fun k' x => if k' = k then v else x) ks vs) (List.zipWith (fun k' x => if k' = k then d else x) ks ds)
  | [], _, _, _ => .nil
  | _ :: _, _, _, .nil => .nil
  | x :: r, _, _, .cons a t => by
    rw [List.zipWith_cons_cons, List.zipWith_cons_cons]
    refine .cons ?_ (HasL.zw hv t)
    by_cases e : x = k
    · rw [if_pos e, if_pos e]
      exact hv
    · rw [if_neg e, if_neg e]
      exact a
theorem HasL.put {ks : List Key} {vs : List V} {ds : List Dv} {k : Key} {v : V} {d : Dv} (h : HasL K N H vs ds) (hv : Has K N H v d) : HasL K N H (putDs ks vs k v) (putDs ks ds k d) := by
  unfold putDs
  by_cases m : hasK ks k = true
  · rw [if_pos m, if_pos m]
    exact h.zw hv
  · rw [if_neg m, if_neg m]
    exact h.append (.cons hv .nil)
end

/-! ### a new dict that nobody else knows -/
/-! ### displays -/
end DL

/-! own dicts -/
namespace DL
open PySem L2
section
variable {K : PySem.W.Frag} {z : Av} {O : Nat → Option Addr} {As As' : List (List Addr)} {σd : DS} {W W' : WS} {σ : St} {H H' : Hp}
end
end DL
namespace DLX
open PySem PySem.Spec PyProof.Rows L2
/-! ### d.update(e) -/
end DLX
namespace DL
open PySem L2
/-! ### d[k], d.get(k, x) -/
/-! ### dict(a list of pairs) -/
end DL

/-! *e in displays and calls; dicts and tuples of the module -/
namespace DL
open PySem L2
end DL

/-! C(**d) -/
namespace KwX
open PySem PySem.Spec PyProof.Rows L2
section
variable {prog : Program} {w : World} {A : Around} {E : Value → Shared → Prop} {s : Shared}
end
end KwX

/-! C(**d); defs with **more, called by name -/
namespace KwX
open PySem PySem.Spec PyProof.Rows L2
section
variable {X : Cx} {CX : CXT} {k : Nat} {f C : Addr} {fd : FuncData} {ps ks : List Str} {sp : Sp} {E : L2.St → XK} {x : Str} {p pos kp : Pos} {e : Expr} {te : TE}
end
end KwX
namespace DL
open PySem L2
end DL

/-! defs with **more, called by name -/
namespace KwX
open PySem PySem.Spec PyProof.Rows L2
section
variable {prog : Program} {w : World} {A : Around} {E : Value → Shared → Prop}
end
section
variable {CX : CXT} {P : Program} {w : World} {K : PySem.W.Frag} {mg : Str → Option Value} {base : Heap} {k : Nat} {f : Addr} {name qual : Str} {params : Arguments} {body : List Stmt} {scope : Scope} {dV kV doc pm cdv ct oc : Value} {an od : Option Addr}
  {osl : Array (Option Value)} {N : List Str} {p1 pd : Str} {sp : Sp} {oks : List Str → Prop}
end
end KwX

/-! o.m(k = e, ..), m a def with **more -/
namespace KwX
open PySem PySem.Spec PyProof.Rows L2
section
variable {X : Cx} {CX : CXT} {k : Nat} {f C : Addr} {ks : List Str} {sp : Sp} {E : L2.St → XK} {m : Str} {apos pos : Pos} {o : Expr} {kws : List Keyword} {ta : TE} {tk : TA} {oks : List Str → Prop}
end
end KwX
namespace DL
open PySem L2
end DL

/-! defs with defaults; calls by name that raise nothing -/
namespace DL
open PySem L2
section
variable {P : Program} {w : World} {K : PySem.W.Frag} {mg : Str → Option Value} {base : Heap}
end
end DL

namespace DL
open PySem L2
end DL

/-! keepers as data -/
namespace DL
open PySem L2 TL
abbrev KN : List Str := ["begin", "freeze", "stop", "counts", "marks", "clears", "moves", "cut", "needs", "marked", "held"]
abbrev KK : List Key := [.inr "begin", .inr "freeze", .inr "stop", .inr "counts", .inr "marks", .inr "clears", .inr "moves", .inr "cut", .inr "needs", .inr "marked", .inr "held"]
theorem kk_map : KN.map Sum.inr = KK := rfl
structure Kp where
  b : Dv
  f : Dv
  s : Dv
  c : Dv
  m : Dv
  cl : Dv
  mo : Dv
  cu : Dv
  n : Dv
  ma : Dv
  h : Dv
abbrev Kp.ds (k : Kp) : List Dv := [k.b, k.f, k.s, k.c, k.m, k.cl, k.mo, k.cu, k.n, k.ma, k.h]
def Kp.at (k : Kp) (n : Str) : Dv := (getA KK k.ds (.inr n)).getD .non
theorem get_some {α : Type} : ∀ {ks : List Key} {as : List α} {k : Key}, ks.length = as.length → k ∈ ks → ∃ a, getA ks as k = some a
  | [], _, _, _, h => by cases h
  | _ :: _, [], _, h, _ => by cases h
  | x :: r, a :: s, k, h, m => by
    unfold getA
    by_cases e : x = k
    · exact ⟨a, by rw [if_pos e]⟩
    · rw [if_neg e]
      rcases List.mem_cons.mp m with q | q
      · exact absurd q.symm e
      · exact get_some (Nat.succ.inj h) q
theorem at_mem (k : Kp) {n : Str} (h : n ∈ KN) : getA KK k.ds (.inr n) = some (k.at n) := by
  obtain ⟨a, e⟩ := get_some (ks := KK) (as := k.ds) (k := .inr n) rfl (by rw [← kk_map]; exact List.mem_map.mpr ⟨n, h, rfl⟩)
  unfold Kp.at
  rw [e]
  rfl
theorem at_b (k : Kp) : k.at "begin" = k.b := by kernel_rfl
theorem at_f (k : Kp) : k.at "freeze" = k.f := by kernel_rfl
/-- one setting otherwise -/
def Kp.put (k : Kp) (n : Str) (x : Dv) : Kp :=
  let q (o : Str) (d : Dv) : Dv := if (Sum.inr o : Key) = Sum.inr n then x else d
  ⟨q "begin" k.b, q "freeze" k.f, q "stop" k.s, q "counts" k.c, q "marks" k.m, q "clears" k.cl, q "moves" k.mo, q "cut" k.cu, q "needs" k.n, q "marked" k.ma, q "held" k.h⟩
theorem put_at (k : Kp) (x : Dv) {n m : Str} (hn : n ∈ KN) (hm : m ∈ KN) : (k.put n x).at m = if m = n then x else k.at m := by
  have go : ∀ {ks : List Key} {as : List Dv}, ks.length = as.length → (.inr m : Key) ∈ ks → getA ks (List.zipWith (fun k' d => if k' = (Sum.inr n : Key) then x else d) ks as) (.inr m) = (getA ks as (.inr m)).map fun d => if m = n then x else d := by
    intro ks
    induction ks with
    | nil => intro as _ h; cases h
    | cons k' r ih =>
      intro as hl h
      cases as with
      | nil => cases hl
      | cons a s =>
        rw [List.zipWith_cons_cons]
        unfold getA
        by_cases e : k' = (Sum.inr m : Key)
        · subst e
          rw [if_pos rfl, if_pos rfl]
          show some (if (Sum.inr m : Key) = Sum.inr n then x else a) = some (if m = n then x else a)
          by_cases q : m = n
          · subst q
            rw [if_pos rfl, if_pos rfl]
          · rw [if_neg q, if_neg fun z => q (Sum.inr.inj z)]
        · rw [if_neg e, if_neg e]
          rcases List.mem_cons.mp h with q | q
          · exact absurd q.symm e
          · exact ih (Nat.succ.inj hl) q
  have e := go (ks := KK) (as := k.ds) rfl (by rw [← kk_map]; exact List.mem_map.mpr ⟨m, hm, rfl⟩)
  rw [at_mem k hm] at e
  have e2 : getA KK (k.put n x).ds (.inr m) = some (if m = n then x else k.at m) := e
  rw [at_mem _ hm] at e2
  exact Option.some.inj e2
/-- the pairs that are told -/
abbrev Kp.pairs (k : Kp) : List Dv := [.tup [.str "begin", k.b], .tup [.str "freeze", k.f], .tup [.str "stop", k.s], .tup [.str "counts", k.c], .tup [.str "marks", k.m], .tup [.str "clears", k.cl], .tup [.str "moves", k.mo], .tup [.str "cut", k.cu], .tup [.str "needs", k.n], .tup [.str "marked", k.ma], .tup [.str "held", k.h]]
/-! ### what is right -/
def isBl : Dv → Bool
  | .bl _ => true
  | _ => false
def wordsK (n : Str) : List Str := if n = "counts" then ["all", "both", "now", "readers"] else if n = "marks" then ["frozen", "never", "seen"] else if n = "moves" then ["always", "whole"] else if n = "cut" then ["horizon", "mark", "never"] else if n = "marked" then ["always", "never"] else if n = "held" then ["always", "never"] else []
def oneOf (x : Dv) (ws : List Str) : Bool := match x with
  | .str s => decide (s ∈ ws)
  | _ => false
def okSet (n : Str) (x : Dv) : Bool := if n = "begin" then isFromD x 2 else if n = "stop" then isN x || isFromD x 1 else if n = "clears" ∨ n = "needs" then isBl x else if (n = "marked" ∨ n = "held") ∧ isFromD x 1 = true then true else oneOf x (wordsK n)
def ltD (x y : Dv) : Bool := match x, y with
  | .int i, .int j => decide (i < j)
  | _, _ => false
def Kp.okAt (k : Kp) (n : Str) : Bool := if n = "freeze" then isFromD k.f 1 && ltD k.f k.b else okSet n (k.at n)
def Kp.wrong (k : Kp) : Option Str := KN.find? fun n => !k.okAt n
def Kp.allOk (K : PySem.W.Frag) (k : Kp) : Prop := ∀ n, n ∈ KN → isiOk K (k.at n)
/-! ### texts -/
def wordD : Dv → Str
  | .non => "never"
  | .bl b => if b = true then "yes" else "no"
  | .int i => toString i
  | .str x => x
  | _ => Str.empty
def lineD (n : Str) (x : Dv) : Str := (n ++ " ") ++ wordD x
def Kp.lines (k : Kp) : List Str := [lineD "begin" k.b, lineD "freeze" k.f, lineD "stop" k.s, lineD "counts" k.c, lineD "marks" k.m, lineD "clears" k.cl, lineD "moves" k.mo, lineD "cut" k.cu, lineD "needs" k.n, lineD "marked" k.ma, lineD "held" k.h]
def Kp.txt (k : Kp) : Str := Txt.join "\n" k.lines
/-- a value with a short word -/
def shortD (x : Dv) : Prop := x = .non ∨ (∃ b, x = .bl b) ∨ (∃ i : Int, x = .int i ∧ i.natAbs.log2 < 120) ∨ ∃ s : Str, x = .str s ∧ s.length ≤ 1000
def Kp.short (k : Kp) : Prop := ∀ x, x ∈ k.ds → shortD x
end DL

namespace DL
open PySem L2
end DL

/-! good keepers -/
namespace DL
open PySem L2 TL
abbrev allW : List Str := ["all", "both", "now", "readers", "frozen", "never", "seen", "always", "whole", "horizon", "mark"]
def limD (x : Dv) : Prop := x = .non ∨ (∃ b, x = .bl b) ∨ (∃ i : Int, x = .int i ∧ 0 ≤ i ∧ i < 10000000000000000000) ∨ ∃ s : Str, x = .str s ∧ s ∈ allW
theorem lim_short {x : Dv} (h : limD x) : shortD x := by
  rcases h with h | h | ⟨i, rfl, h0, h1⟩ | ⟨s, rfl, hs⟩
  · exact .inl h
  · exact .inr (.inl h)
  · exact .inr (.inr (.inl ⟨i, rfl, log_small h0 (by omega)⟩))
  · refine .inr (.inr (.inr ⟨s, rfl, ?_⟩))
    simp only [List.mem_cons, List.not_mem_nil, or_false] at hs
    rcases hs with rfl | rfl | rfl | rfl | rfl | rfl | rfl | rfl | rfl | rfl | rfl <;> decide
theorem lim_ok {K : PySem.W.Frag} {x : Dv} (h : limD x) : isiOk K x := by
  rcases h with rfl | ⟨b, rfl⟩ | ⟨i, rfl, h0, h1⟩ | ⟨s, rfl, hs⟩ <;> trivial
theorem mem_at (k : Kp) : ∀ x, x ∈ k.ds ↔ ∃ n, n ∈ KN ∧ k.at n = x := by
  have go : ∀ (ks : List Str) (as : List Dv), ks.Nodup → ks.length = as.length → ∀ x, x ∈ as ↔ ∃ n, n ∈ ks ∧ getA (ks.map Sum.inr) as (.inr n) = some x := by
    intro ks
    induction ks with
    | nil =>
      intro as _ hl x
      cases as with
      | nil => simp
      | cons a s => cases hl
    | cons k' r ih =>
      intro as hn hl x
      cases as with
      | nil => cases hl
      | cons a s =>
        obtain ⟨n1, n2⟩ := List.nodup_cons.mp hn
        have ih := ih s n2 (Nat.succ.inj hl) x
        rw [List.mem_cons, ih]
        constructor
        · rintro (rfl | ⟨n, hm, e⟩)
          · exact ⟨k', List.mem_cons_self, by rw [List.map_cons]; unfold getA; rw [if_pos rfl]⟩
          · refine ⟨n, List.mem_cons_of_mem _ hm, ?_⟩
            rw [List.map_cons]
            unfold getA
            rw [if_neg fun q => n1 (by rw [Sum.inr.inj q]; exact hm)]
            exact e
        · rintro ⟨n, hm, e⟩
          rw [List.map_cons] at e
          unfold getA at e
          by_cases q : (Sum.inr k' : Key) = Sum.inr n
          · rw [if_pos q] at e
            exact .inl (Option.some.inj e).symm
          · rw [if_neg q] at e
            rcases List.mem_cons.mp hm with z | z
            · exact absurd (by rw [z]) q
            · exact .inr ⟨n, z, e⟩
  intro x
  rw [go KN k.ds (by decide +kernel) rfl x]
  constructor
  · rintro ⟨n, hm, e⟩
    refine ⟨n, hm, ?_⟩
    have q := at_mem k hm
    rw [kk_map] at e
    rw [e] at q
    exact (Option.some.inj q).symm
  · rintro ⟨n, hm, rfl⟩
    exact ⟨n, hm, at_mem k hm⟩
structure Kp.good (k : Kp) : Prop where
  lim : ∀ n, n ∈ KN → limD (k.at n)
  ok : ∀ n, n ∈ KN → n ≠ "freeze" → okSet n (k.at n) = true
  fr : ∃ b f : Int, k.b = .int b ∧ k.f = .int f ∧ 1 ≤ f ∧ f < b
theorem Kp.good.limds {k : Kp} (h : k.good) : ∀ x, x ∈ k.ds → limD x := fun x hx => by
  obtain ⟨n, hn, rfl⟩ := (mem_at k x).mp hx
  exact h.lim n hn
theorem Kp.good.short {k : Kp} (h : k.good) : k.short := fun x hx => lim_short (h.limds x hx)
theorem Kp.good.all {K : PySem.W.Frag} {k : Kp} (h : k.good) : k.allOk K := fun n hn => lim_ok (h.lim n hn)
theorem find_none {α : Type} {p : α → Bool} : ∀ {xs : List α}, (∀ x, x ∈ xs → p x = false) → xs.find? p = none
  | [], _ => rfl
  | x :: r, h => by
    rw [List.find?_cons, h x List.mem_cons_self]
    exact find_none fun y hy => h y (List.mem_cons_of_mem _ hy)
theorem Kp.good.wrong {k : Kp} (h : k.good) : k.wrong = none := by
  refine find_none fun n hn => ?_
  unfold Kp.okAt
  by_cases e : n = "freeze"
  · rw [if_pos e]
    obtain ⟨b, f, h1, h2, h3, h4⟩ := h.fr
    rw [h1, h2]
    show (!(decide (1 ≤ f) && decide (f < b))) = false
    rw [decide_eq_true h3, decide_eq_true h4]
    rfl
  · rw [if_neg e, h.ok n hn e]
    rfl
theorem Kp.good.put {k : Kp} (h : k.good) {n : Str} {x : Dv} (hn : n ∈ KN) (n1 : n ≠ "begin") (n2 : n ≠ "freeze") (hl : limD x) (ho : okSet n x = true) : (k.put n x).good := by
  refine ⟨fun m hm => ?_, fun m hm mf => ?_, ?_⟩
  · rw [put_at k x hn hm]
    by_cases q : m = n
    · rw [if_pos q]; exact hl
    · rw [if_neg q]; exact h.lim m hm
  · rw [put_at k x hn hm]
    by_cases q : m = n
    · rw [if_pos q, q]; exact ho
    · rw [if_neg q]; exact h.ok m hm mf
  · obtain ⟨b, f, h1, h2, h3⟩ := h.fr
    refine ⟨b, f, ?_, ?_, h3⟩
    · rw [← at_b, put_at k x hn (by decide +kernel), if_neg (fun q => n1 q.symm), at_b, h1]
    · rw [← at_f, put_at k x hn (by decide +kernel), if_neg (fun q => n2 q.symm), at_f, h2]
/-! ### by place -/
theorem at_s (k : Kp) : k.at "stop" = k.s := by kernel_rfl
theorem at_c (k : Kp) : k.at "counts" = k.c := by kernel_rfl
theorem at_m (k : Kp) : k.at "marks" = k.m := by kernel_rfl
theorem at_cl (k : Kp) : k.at "clears" = k.cl := by kernel_rfl
theorem at_mo (k : Kp) : k.at "moves" = k.mo := by kernel_rfl
theorem at_cu (k : Kp) : k.at "cut" = k.cu := by kernel_rfl
theorem at_n (k : Kp) : k.at "needs" = k.n := by kernel_rfl
theorem at_ma (k : Kp) : k.at "marked" = k.ma := by kernel_rfl
theorem at_h (k : Kp) : k.at "held" = k.h := by kernel_rfl
end DL

/-! loops whose ends are letters -/
namespace DL
open PySem L2
end DL

/-! enumerate over a tuple -/
namespace EnX
open PySem PySem.Spec PyProof.Rows L2
section
variable {prog : Program} {w : World} {A : Around} {E : Value → Shared → Prop} {s : Shared}
end
end EnX

/-! enumerate, loops in defs that raise, partition, `in` of a dict of the module -/
namespace DL
open PySem L2
/-! ### enumerate -/
section
variable {K : PySem.W.Frag}
end
/-! ### for, where the body may raise -/
/-! ### xs.append(e), where e may raise -/
/-! ### a.partition(b) -/
/-! ### x in d, d a dict of the module -/
structure KIn (K : PySem.W.Frag) (w : World) (a : Addr) (keys : List Str) : Prop where
  ex : ∃ es n, KDict K w a es n
  at_ : ∀ z, ∃ r : Option Value, PySem.W.nsIn K a z = some r ∧ r.isSome = decide (z ∈ keys)
theorem kIn_of {K : PySem.W.Frag} {w : World} {a : Addr} {es : Array DictEntry} {n : Nat} {keys : List Str} (h1 : K.lookup a = some ⟨.type "dict", none, .dict es n, #[]⟩) (h2 : PySem.W.KeysLit w.params es.toList) (h3 : (a == sysModules) = false) (h4 : ∃ ts : List Tok, ts.length = keys.length ∧ es.toList.map (·.key) = List.zipWith Value.str keys ts) : KIn K w a keys := by
  refine ⟨⟨es, n, h1, h2, h3⟩, fun z => ?_⟩
  obtain ⟨ts, hl, hm⟩ := h4
  unfold PySem.W.nsIn
  rw [h1]
  dsimp only
  generalize es.toList = l at hm
  have key : (l.find? (·.key.isStr z)).isSome = decide (z ∈ keys) ∧ l.any (·.refKey) = false := by
    clear h1 h2
    induction l generalizing keys ts with
    | nil =>
      have : keys = [] := by
        cases keys with
        | nil => rfl
        | cons k r =>
          cases ts with
          | nil => cases hl
          | cons t s => cases hm
      subst this
      exact ⟨by simp, rfl⟩
    | cons e r ih =>
      cases keys with
      | nil => cases hm
      | cons k ks =>
        cases ts with
        | nil => cases hl
        | cons t s =>
          rw [List.map_cons, List.zipWith_cons_cons] at hm
          injection hm with hm1 hm2
          obtain ⟨i1, i2⟩ := ih s (Nat.succ.inj hl) hm2
          have e1 : e.key.isStr z = (k == z) := by
            rw [hm1]
            rfl
          have e2 : e.refKey = false := by
            unfold DictEntry.refKey
            rw [hm1]
          refine ⟨?_, by rw [List.any_cons, e2, i2]; rfl⟩
          rw [List.find?_cons, e1]
          by_cases q : k = z
          · subst q
            simp
          · have q1 : (k == z) = false := beq_eq_false_iff_ne.mpr q
            have q2 : ¬ z = k := fun h => q h.symm
            rw [q1]
            simp only [i1, List.mem_cons, q2, false_or]
  obtain ⟨k1, k2⟩ := key
  cases h : l.find? (·.key.isStr z) with
  | some e =>
    rw [h] at k1
    exact ⟨some e.val, rfl, k1⟩
  | none =>
    rw [h] at k1
    refine ⟨none, ?_, k1⟩
    rw [k2]
    rfl
end DL

/-! lists that a def makes and hands out, and its caller changes -/
namespace DL
open PySem L2
section
variable {K : PySem.W.Frag} {z : Av} {As As' : List (List Addr)} {W W' : WS} {H H' : Hp} {p : Addr}
end
end DL

/-! texts of keepers, read -/
namespace DL
open PySem L2 TL
/-- what a line tells -/
def numNames : List Str := ["begin", "freeze", "stop", "marked", "held"]
def isI : Dv → Bool
  | .int _ => true
  | _ => false
def valIn (n line : Str) : Option Dv :=
  if (Txt.partition line " ").1 ≠ n ∨ (Txt.partition line " ").2.1 = "" then none
  else if n = "clears" ∨ n = "needs" then (if (Txt.partition line " ").2.2 = "yes" then some (.bl true) else if (Txt.partition line " ").2.2 = "no" then some (.bl false) else none)
  else if n = "stop" ∧ (Txt.partition line " ").2.2 = "never" then some .non
  else if isI (numD (Txt.partition line " ").2.2) = true ∧ n ∈ numNames then some (numD (Txt.partition line " ").2.2)
  else if (Txt.partition line " ").2.2 ∈ wordsK n then some (.str (Txt.partition line " ").2.2) else none
/-- the values of the lines, or the number of the first wrong one -/
def readL : Nat → List Str → List Str → List Dv → Nat ⊕ List Dv
  | i, [], [], acc => .inr acc
  | i, [], _ :: _, acc => .inl i
  | i, _ :: _, [], _ => .inl i
  | i, n :: ns, l :: ls, acc => match valIn n l with
    | none => .inl i
    | some d => readL (i + 1) ns ls (acc ++ [d])
theorem name_free {n : Str} (h : n ∈ KN) : 32 ∉ tl n ∧ 10 ∉ tl n := by
  simp only [List.mem_cons, List.not_mem_nil, or_false] at h
  rcases h with rfl | rfl | rfl | rfl | rfl | rfl | rfl | rfl | rfl | rfl | rfl <;> decide +kernel
theorem part_line {n : Str} (h : n ∈ KN) (x : Dv) : Txt.partition (lineD n x) " " = (n, (" " : Str), wordD x) := partition_app tl_sp (name_free h).1
theorem lim_free {x : Dv} (h : limD x) : 10 ∉ tl (wordD x) := by
  rcases h with rfl | ⟨b, rfl⟩ | ⟨i, rfl, h0, h1⟩ | ⟨s, rfl, hs⟩
  · decide +kernel
  · cases b <;> decide +kernel
  · intro m
    have := (canon_int h0 h1).1.dig 10 m
    omega
  · simp only [List.mem_cons, List.not_mem_nil, or_false] at hs
    rcases hs with rfl | rfl | rfl | rfl | rfl | rfl | rfl | rfl | rfl | rfl | rfl <;> decide +kernel
theorem line_free {n : Str} {x : Dv} (hn : n ∈ KN) (h : limD x) : 10 ∉ tl (lineD n x) := by
  unfold lineD
  rw [tl_append, tl_append, tl_sp]
  intro m
  rcases List.mem_append.mp m with m | m
  · rcases List.mem_append.mp m with m | m
    · exact (name_free hn).2 m
    · simp at m
  · exact lim_free h m
theorem num_small {i : Int} (h0 : 0 ≤ i) (h1 : i < 10000000000000000000) : numD (toString i) = .int i := by
  have c := canon_int h0 h1
  unfold numD
  rw [if_pos (canon_to c.1), c.2]
theorem never_no {i : Int} (h0 : 0 ≤ i) (h1 : i < 10000000000000000000) : (toString i : Str) ≠ "never" := fun e => by
  have c := canon_to (canon_int h0 h1).1
  rw [e] at c
  exact absurd c (by decide +kernel)
theorem sp_ne : (" " : Str) ≠ "" := by decide +kernel
theorem val_line {n : Str} {x : Dv} (hn : n ∈ KN) (hl : limD x) (ho : n = "freeze" ∧ (∃ f : Int, x = .int f) ∨ n ≠ "freeze" ∧ okSet n x = true) : valIn n (lineD n x) = some x := by
  unfold valIn
  rw [part_line hn]
  dsimp only
  rw [if_neg (fun q => q.elim (fun z => z rfl) sp_ne)]
  have isint : ∀ i : Int, x = .int i → n ∈ numNames → n ≠ "clears" ∧ n ≠ "needs" → (if n = "clears" ∨ n = "needs" then (if wordD x = "yes" then some (Dv.bl true) else if wordD x = "no" then some (.bl false) else none)
      else if n = "stop" ∧ wordD x = "never" then some .non else if isI (numD (wordD x)) = true ∧ n ∈ numNames then some (numD (wordD x)) else if wordD x ∈ wordsK n then some (.str (wordD x)) else none) = some x := by
    intro i hi hm hc
    subst hi
    obtain ⟨h0, h1⟩ : 0 ≤ i ∧ i < 10000000000000000000 := by
      rcases hl with h | ⟨b, h⟩ | ⟨j, h, a, b⟩ | ⟨s, h, _⟩
      · cases h
      · cases h
      · cases h; exact ⟨a, b⟩
      · cases h
    have e : numD (wordD (.int i)) = .int i := num_small h0 h1
    rw [if_neg (fun q => q.elim hc.1 hc.2), if_neg (fun q => never_no h0 h1 q.2), e, if_pos ⟨rfl, hm⟩]
  rcases ho with ⟨rfl, f, hf⟩ | ⟨nf, ho⟩
  · exact isint f hf (by decide +kernel) ⟨by decide +kernel, by decide +kernel⟩
  unfold okSet at ho
  by_cases e1 : n = "begin"
  · subst e1
    rw [if_pos rfl] at ho
    cases x with
    | int i => exact isint i rfl (by decide +kernel) ⟨by decide +kernel, by decide +kernel⟩
    | _ => cases ho
  rw [if_neg e1] at ho
  by_cases e2 : n = "stop"
  · subst e2
    rw [if_pos rfl] at ho
    cases x with
    | int i => exact isint i rfl (by decide +kernel) ⟨by decide +kernel, by decide +kernel⟩
    | non =>
      rw [if_neg (by decide +kernel), if_pos ⟨rfl, rfl⟩]
    | _ => cases ho
  rw [if_neg e2] at ho
  by_cases e3 : n = "clears" ∨ n = "needs"
  · rw [if_pos e3] at ho
    rw [if_pos e3]
    cases x with
    | bl b =>
      cases b with
      | true => exact if_pos (by decide +kernel)
      | false => exact (if_neg (by decide +kernel)).trans (if_pos (by decide +kernel))
    | _ => cases ho
  rw [if_neg e3] at ho
  have word : oneOf x (wordsK n) = true → (if n = "clears" ∨ n = "needs" then (if wordD x = "yes" then some (Dv.bl true) else if wordD x = "no" then some (.bl false) else none)
      else if n = "stop" ∧ wordD x = "never" then some .non else if isI (numD (wordD x)) = true ∧ n ∈ numNames then some (numD (wordD x)) else if wordD x ∈ wordsK n then some (.str (wordD x)) else none) = some x := by
    intro h
    cases x with
    | str s =>
      have hs : s ∈ wordsK n := of_decide_eq_true h
      have hno : numD s = .non := by
        rcases hl with h | ⟨b, h⟩ | ⟨j, h, a, b⟩ | ⟨s', h, hs'⟩
        · cases h
        · cases h
        · cases h
        · cases h
          simp only [List.mem_cons, List.not_mem_nil, or_false] at hs'
          unfold numD
          rcases hs' with rfl | rfl | rfl | rfl | rfl | rfl | rfl | rfl | rfl | rfl | rfl <;> exact if_neg (by decide +kernel)
      have hno' : isI (numD (wordD (.str s))) ≠ true := by
        show isI (numD s) ≠ true
        rw [hno]
        decide
      rw [if_neg e3, if_neg (fun q => e2 q.1), if_neg (fun q => hno' q.1)]
      exact if_pos hs
    | _ => cases h
  by_cases e4 : (n = "marked" ∨ n = "held") ∧ isFromD x 1 = true
  · cases x with
    | int i => exact isint i rfl (by rcases e4.1 with rfl | rfl <;> decide +kernel) ⟨fun z => e3 (.inl z), fun z => e3 (.inr z)⟩
    | _ => cases e4.2
  · rw [if_neg e4] at ho
    exact word ho
theorem Kp.good.line {k : Kp} (h : k.good) {n : Str} (hn : n ∈ KN) : valIn n (lineD n (k.at n)) = some (k.at n) := by
  refine val_line hn (h.lim n hn) ?_
  by_cases e : n = "freeze"
  · subst e
    obtain ⟨b, f, _, hf, _⟩ := h.fr
    exact .inl ⟨rfl, f, by rw [at_f]; exact hf⟩
  · exact .inr ⟨e, h.ok n hn e⟩
theorem Kp.good.read {k : Kp} (h : k.good) : readL 0 KN k.lines [] = .inr k.ds := by
  have e1 := h.line (n := "begin") (by decide +kernel)
  have e2 := h.line (n := "freeze") (by decide +kernel)
  have e3 := h.line (n := "stop") (by decide +kernel)
  have e4 := h.line (n := "counts") (by decide +kernel)
  have e5 := h.line (n := "marks") (by decide +kernel)
  have e6 := h.line (n := "clears") (by decide +kernel)
  have e7 := h.line (n := "moves") (by decide +kernel)
  have e8 := h.line (n := "cut") (by decide +kernel)
  have e9 := h.line (n := "needs") (by decide +kernel)
  have e10 := h.line (n := "marked") (by decide +kernel)
  have e11 := h.line (n := "held") (by decide +kernel)
  rw [at_b] at e1
  rw [at_f] at e2
  rw [at_s] at e3
  rw [at_c] at e4
  rw [at_m] at e5
  rw [at_cl] at e6
  rw [at_mo] at e7
  rw [at_cu] at e8
  rw [at_n] at e9
  rw [at_ma] at e10
  rw [at_h] at e11
  unfold Kp.lines
  simp only [readL, e1, e2, e3, e4, e5, e6, e7, e8, e9, e10, e11]
  rfl
theorem tl_nl : tl ("\n" : Str) = [10] := by decide +kernel
theorem lines_mem (k : Kp) : ∀ l, l ∈ k.lines → ∃ n, n ∈ KN ∧ l = lineD n (k.at n) := fun l hl => by
  unfold Kp.lines at hl
  simp only [List.mem_cons, List.not_mem_nil, or_false] at hl
  rcases hl with rfl | rfl | rfl | rfl | rfl | rfl | rfl | rfl | rfl | rfl | rfl
  · exact ⟨"begin", by decide +kernel, by rw [at_b]⟩
  · exact ⟨"freeze", by decide +kernel, by rw [at_f]⟩
  · exact ⟨"stop", by decide +kernel, by rw [at_s]⟩
  · exact ⟨"counts", by decide +kernel, by rw [at_c]⟩
  · exact ⟨"marks", by decide +kernel, by rw [at_m]⟩
  · exact ⟨"clears", by decide +kernel, by rw [at_cl]⟩
  · exact ⟨"moves", by decide +kernel, by rw [at_mo]⟩
  · exact ⟨"cut", by decide +kernel, by rw [at_cu]⟩
  · exact ⟨"needs", by decide +kernel, by rw [at_n]⟩
  · exact ⟨"marked", by decide +kernel, by rw [at_ma]⟩
  · exact ⟨"held", by decide +kernel, by rw [at_h]⟩
theorem Kp.good.split {k : Kp} (h : k.good) : Txt.split k.txt "\n" = k.lines := by
  unfold Kp.txt
  refine split_join tl_nl (by decide +kernel) (by unfold Kp.lines; exact List.cons_ne_nil _ _) fun l hl => ?_
  obtain ⟨n, hn, rfl⟩ := lines_mem k l hl
  exact line_free hn (h.lim n hn)
end DL

namespace DL
open PySem L2
/-! ### x, y = a value, an own list -/
end DL

/-! cls(*xs) -/
namespace DL
open PySem L2 PySem.Spec PyProof.Rows
end DL

/-! x is True, whatever x is -/
namespace DL
open PySem L2 PySem.Spec PyProof.Rows
end DL

/-! how long a keeper's text is -/
namespace DL
open PySem L2 TL
end DL

/-! lines cut at blanks, and at their first blank -/
namespace DL
open PySem L2 TL
/-! ### what was read is right but for freeze -/
end DL

namespace DL
open PySem L2 TL
/-! ### displays whose items may raise -/
section
variable {X : Cx} {e : Expr} {es : List Expr} {teX : WX → TE} {weX : XW → WE} {tr : WX → TA} {wr : XW → WA} {t : TA} {w : WA} {pos : Pos}
end
/-! ### pairs, compared -/
/-! ### signs of texts -/
theorem joinL_memg {c : Nat} {S : List Nat} : ∀ {ps : List (List Nat)}, c ∈ joinL S ps → c ∈ S ∨ ∃ p, p ∈ ps ∧ c ∈ p
  | [], h => by cases h
  | [q], h => .inr ⟨q, List.mem_singleton.mpr rfl, h⟩
  | q :: r :: rest, h => by
    have h : c ∈ q ++ (S ++ joinL S (r :: rest)) := h
    rcases List.mem_append.mp h with h | h
    · exact .inr ⟨q, List.mem_cons_self, h⟩
    · rcases List.mem_append.mp h with h | h
      · exact .inl h
      · rcases joinL_memg h with h | ⟨p, hp, hc⟩
        · exact .inl h
        · exact .inr ⟨p, List.mem_cons_of_mem _ hp, hc⟩
theorem lim_chr {x : Dv} (h : limD x) : ∀ c, c ∈ tl (wordD x) → c < 256 := by
  rcases h with rfl | ⟨b, rfl⟩ | ⟨i, rfl, h0, h1⟩ | ⟨s, rfl, hs⟩
  · exact by decide +kernel
  · cases b <;> exact by decide +kernel
  · exact (canon_int h0 h1).1.txt.chr
  · simp only [List.mem_cons, List.not_mem_nil, or_false] at hs
    rcases hs with rfl | rfl | rfl | rfl | rfl | rfl | rfl | rfl | rfl | rfl | rfl <;> exact by decide +kernel
theorem name_chr {n : Str} (h : n ∈ KN) : ∀ c, c ∈ tl n → c < 256 := by
  simp only [List.mem_cons, List.not_mem_nil, or_false] at h
  rcases h with rfl | rfl | rfl | rfl | rfl | rfl | rfl | rfl | rfl | rfl | rfl <;> exact by decide +kernel
theorem line_chr {n : Str} {x : Dv} (hn : n ∈ KN) (h : limD x) : ∀ c, c ∈ tl (lineD n x) → c < 256 := fun c hc => by
  unfold lineD at hc
  rw [tl_append, tl_append, tl_sp] at hc
  rcases List.mem_append.mp hc with m | m
  · rcases List.mem_append.mp m with m | m
    · exact name_chr hn c m
    · rw [List.mem_singleton.mp m]; decide
  · exact lim_chr h c m
theorem join_chr {s : Str} {ls : List Str} (hs : ∀ c, c ∈ tl s → c < 256) (hl : ∀ l, l ∈ ls → ∀ c, c ∈ tl l → c < 256) : ∀ c, c ∈ tl (Txt.join s ls) → c < 256 := fun c hc => by
  rw [join_eq, tl_join] at hc
  rcases joinL_memg hc with hc | ⟨p, hp, hc⟩
  · exact hs c hc
  · obtain ⟨q, hq, rfl⟩ := List.mem_map.mp hp
    exact hl q hq c hc
theorem Kp.good.chr {k : Kp} (h : k.good) : ∀ c, c ∈ tl k.txt → c < 256 := join_chr (by decide +kernel) fun l hl => by
  obtain ⟨n, hn, rfl⟩ := lines_mem k l hl
  exact line_chr hn (h.lim n hn)
end DL

/-! pieces of lists of texts -/
namespace DL
open PySem L2 TL
end DL

/-! the head by one kernel run, its facts read by a Hook -/
namespace DH
open PySem PySem.Spec PyProof.Rows L2
/-- a fact of the written part -/
structure Ft where
  p : PySem.W.Frag → Prop
  d : ∀ K, Decidable (p K)
abbrev ft (p : PySem.W.Frag → Prop) [d : ∀ K, Decidable (p K)] : Ft := ⟨p, d⟩
def Ft.ok (K : PySem.W.Frag) (f : Ft) : Bool := @decide (f.p K) (f.d K)
/-- a def: where it stands, its names, its statement, defaults, closure -/
structure Df where
  at_ : PySem.W.Frag → Addr
  name : Str
  qual : Str
  st : Stmt
  dfl : List He.Dv := []
  cl : List Str := []
abbrev FnX : Type := Option (Str × Str × Arguments × FuncBody × Scope × Addr × List Str × Addr)
def fnX (K : PySem.W.Frag) (a : Addr) : FnX := match K.lookup a with
  | some ⟨_, _, .func fd, _⟩ => some (fd.name, fd.qualname, fd.params, fd.body, fd.scope, fd.globals, fd.closure.map (·.1), fd.builtins)
  | _ => none
def Df.val (d : Df) : FnX := some (d.name, d.qual, defArgs d.st, .stmts (defBody d.st), defScope d.st, mainGlobals, d.cl, builtinsNs)
abbrev Df.dvs (K : PySem.W.Frag) (d : Df) : List V := d.dfl.map (He.Dv.v K)
def Df.ok (K : PySem.W.Frag) (d : Df) : Bool := PySem.W.keepIn K (.ref (d.at_ K)) && (match K.lookup (d.at_ K) with
  | some ⟨_, _, .func fd, _⟩ => PySem.W.codeIn K fd.code d.qual && He.dflB K fd.defaults (d.dvs K)
  | _ => false)
abbrev FnG (K : PySem.W.Frag) (d : Df) (oc : Value) (od : Option Addr) (osl : Array (Option Value)) (ccs : List (Str × Addr)) (dV kV doc pm : Value) (an : Option Addr) (cdv ct : Value) : Prop :=
  K.lookup (d.at_ K) = some ⟨oc, od, .func ⟨d.name, d.qual, defArgs d.st, .stmts (defBody d.st), defScope d.st, mainGlobals, ccs, dV, kV, doc, pm, an, cdv, ct, builtinsNs⟩, osl⟩ ∧ ccs.map (·.1) = d.cl ∧ PySem.W.codeIn K cdv d.qual = true ∧ DflV K dV (d.dvs K)
theorem Df.get {K : PySem.W.Frag} {d : Df} (e : fnX K (d.at_ K) = d.val) (c : d.ok K = true) : PySem.W.keepIn K (.ref (d.at_ K)) = true ∧ ∃ oc od osl ccs dV kV doc pm an cdv ct, FnG K d oc od osl ccs dV kV doc pm an cdv ct := by
  obtain ⟨kp, c2⟩ := He.ba c
  refine ⟨kp, ?_⟩
  unfold fnX at e
  unfold FnG
  generalize K.lookup (d.at_ K) = lk at e c2 ⊢
  cases lk with
  | none => cases c2
  | some o =>
    obtain ⟨oc, od, dt, osl⟩ := o
    cases dt with
    | func fd =>
      obtain ⟨n1, n2, n3, n4, n5, n6, n7, n8, n9, n10, n11, n12, n13, n14, n15⟩ := fd
      have e2 : (some (n1, n2, n3, n4, n5, n6, n7.map (·.1), n15) : FnX) = some (d.name, d.qual, defArgs d.st, .stmts (defBody d.st), defScope d.st, mainGlobals, d.cl, builtinsNs) := e
      simp only [Option.some.injEq, Prod.mk.injEq] at e2
      obtain ⟨h1, h2, h3, h4, h5, h6, h7, h8⟩ := e2
      have c3 : (PySem.W.codeIn K n13 d.qual && He.dflB K n8 (d.dvs K)) = true := c2
      obtain ⟨k1, k2⟩ := He.ba c3
      exact ⟨oc, od, osl, n7, n8, n9, n10, n11, n12, n13, n14, by rw [h1, h2, h3, h4, h5, h6, h8], h7, k1, He.dflB_ok k2⟩
    | _ => cases c2
theorem Df.funD {K : PySem.W.Frag} {d : Df} (e : fnX K (d.at_ K) = d.val) (c : d.ok K = true) (hc : d.cl = []) : ∃ fd, FunD K d.name d.qual (defArgs d.st) (defBody d.st) (defScope d.st) (d.dvs K) [] (d.at_ K) fd := by
  obtain ⟨kp, oc, od, osl, ccs, dV, kV, doc, pm, an, cdv, ct, g1, g2, g3, g4⟩ := Df.get e c
  rw [hc] at g2
  obtain rfl : ccs = [] := List.map_eq_nil_iff.mp g2
  exact ⟨_, ⟨oc, od, dV, kV, doc, pm, an, cdv, ct, osl, rfl, g1, g3, g4, .inl rfl⟩, kp⟩
/-- the code object's address, the class cell's -/
def caA (K : PySem.W.Frag) (f : Addr) : Addr := match K.lookup f with
  | some ⟨_, _, .func fd, _⟩ => (match fd.code with
    | .ref c => c
    | _ => 0)
  | _ => 0
def ccA (K : PySem.W.Frag) (f : Addr) : Addr := match K.lookup f with
  | some ⟨_, _, .func fd, _⟩ => (match fd.closure with
    | [(_, c)] => c
    | _ => 0)
  | _ => 0
/-- an exception's own __init__ -/
theorem Df.ks {K : PySem.W.Frag} {d : Df} (e : fnX K (d.at_ K) = d.val) (c : d.ok K = true) (hc : d.cl = ([("__class__" : Str)] : List Str)) (hd : d.dfl = []) : ∃ oc od osl kV doc pm an ct, K.lookup (d.at_ K) = some ⟨oc, od, .func (PySem.W.ksFn d.name d.qual (defArgs d.st) (defBody d.st) (defScope d.st) .none kV doc pm an (.ref (caA K (d.at_ K))) ct (ccA K (d.at_ K))), osl⟩ ∧ PySem.W.codeIn K (.ref (caA K (d.at_ K))) d.qual = true := by
  obtain ⟨kp, oc, od, osl, ccs, dV, kV, doc, pm, an, cdv, ct, g1, g2, g3, g4⟩ := Df.get e c
  rw [hc] at g2
  have dv : d.dvs K = [] := by
    unfold Df.dvs
    rw [hd]
    rfl
  rw [dv] at g4
  rcases g4 with ⟨_, rfl⟩ | ⟨q, _⟩
  · obtain ⟨⟨x, cc⟩, r, rfl, h1, h2⟩ := List.map_eq_cons_iff.mp g2
    obtain rfl := List.map_eq_nil_iff.mp h2
    obtain rfl : x = "__class__" := h1
    cases cdv with
    | ref ca =>
      have e1 : caA K (d.at_ K) = ca := by
        unfold caA
        rw [g1]
      have e2 : ccA K (d.at_ K) = cc := by
        unfold ccA
        rw [g1]
      rw [e1, e2]
      exact ⟨oc, od, osl, kV, doc, pm, an, ct, g1, g3⟩
    | _ => cases g3
  · exact absurd rfl q
def fileB (K : PySem.W.Frag) (ca : Addr) (file : Str) : Bool := match K.lookup ca with
  | some ⟨_, _, .fields vs, _⟩ => (match (vs[2]? : Option Value) with
    | some (Value.str f _) => decide (f = file)
    | _ => false)
  | _ => false
def cellB (K : PySem.W.Frag) (cc C : Addr) : Bool := match K.lookup cc with
  | some ⟨_, _, .cell (some (.ref D)), _⟩ => decide (D = C)
  | _ => false
/-- an exception's class: what stands behind it in its order -/
def exB (K : PySem.W.Frag) (C : Addr) (bm : List Value) : Bool := match K.lookup C with
  | some ⟨.type t, _, .cls cd, sl⟩ => decide (t = "type") && (decide (cd.mro = .ref C :: bm) && (cd.hasDict && (!cd.hasDel && (match sl.toList with
    | [_, _, _, _, some (.builtin n), _] => decide (n = "ValueError.__new__")
    | _ => false))))
  | _ => false
/-! constants -/
theorem keys_at {P : Params} : ∀ {l : List DictEntry} {ks : List Str}, l.map He.keyOf = He.keysIn P ks → ∃ ts : List Tok, ts.length = ks.length ∧ l.map (·.key) = List.zipWith Value.str ks ts
  | [], [], _ => ⟨[], rfl, rfl⟩
  | [], _ :: _, h => by cases h
  | _ :: _, [], h => by cases h
  | e :: r, k :: ks, h => by
    have h1 : He.keyOf e :: r.map He.keyOf = some (k, PyData.keyHash P k) :: He.keysIn P ks := h
    injection h1 with h2 h3
    obtain ⟨ts, e1, e2⟩ := keys_at h3
    unfold He.keyOf at h2
    split at h2
    · rename_i x t q
      obtain ⟨h5, h6⟩ := Prod.mk.inj (Option.some.inj h2)
      refine ⟨t :: ts, by rw [List.length_cons, List.length_cons, e1], ?_⟩
      rw [List.map_cons, e2, q, h5]
      rfl
    · cases h2
/-- a dict with text keys -/
theorem dic_kin {K : PySem.W.Frag} {w : World} {a : Addr} {ks : List Str} (h : He.dicW K a = some (He.keysIn w.params ks)) : ∃ es n, KDict K w a es n ∧ DL.KIn K w a ks := by
  have h0 := h
  obtain ⟨es, n, D⟩ := He.dicW_ok h
  obtain ⟨d1, d2, d3⟩ := id D
  unfold He.dicW at h0
  rw [d1] at h0
  have h0 : (match decide (("dict" : String) = "dict") && ((#[] : Array (Option Value)).isEmpty && !(a == sysModules)) with
    | true => some (es.toList.map He.keyOf)
    | false => none) = some (He.keysIn w.params ks) := h0
  rw [d3] at h0
  have h0 : some (es.toList.map He.keyOf) = some (He.keysIn w.params ks) := h0
  exact ⟨es, n, D, DL.kIn_of d1 d2 d3 (keys_at (Option.some.inj h0))⟩
/-! the Hook -/
abbrev Tab : Type := (PySem.W.Frag → Addr) × List Str
abbrev Al : Type := Bool × List FnX × List (Option (List (Option (Str × Int))))
def obsK (fa : List Ft) (da : List Df) (ta : List Tab) (K : PySem.W.Frag) : Al := ((fa.all fun f => f.ok K) && da.all fun d => d.ok K, da.map fun d => fnX K (d.at_ K), ta.map fun t => He.dicW K (t.1 K))
def valK (da : List Df) (ta : List Tab) (w : World) : Al := (true, da.map Df.val, ta.map fun t => some (He.keysIn w.params t.2))
def Says (fa : List Ft) (da : List Df) (ta : List Tab) (w : World) (K : PySem.W.Frag) : Prop := obsK fa da ta K = valK da ta w
def obsG (n : List Addr) (fa : List Ft) (da : List Df) (ta : List Tab) (g : Addr → Option Obj) : Al := obsK fa da ta (He.frG g n)
def hook (n : List Addr) (fa : List Ft) (da : List Df) (ta : List Tab) : PySem.W.Hook where
  α := Al
  obs := fun s => obsG n fa da ta s.heap.get?
  val := fun w => valK da ta w
  says := fun w h => ∃ K : PySem.W.Frag, K.In h ∧ Says fa da ta w K
  of := fun _ _ e => ⟨_, He.frG_in, e⟩
  keeps := fun _ _ _ ⟨K, hK, c⟩ k => ⟨K, PySem.W.Frag.In.keeps hK k, c⟩
section
variable {fa : List Ft} {da : List Df} {ta : List Tab} {w : World} {K : PySem.W.Frag}
theorem Says.f (c : Says fa da ta w K) (i : Nat) {f : Ft} (h : fa[i]? = some f) : f.p K := by
  have c1 := (He.ba (show ((fa.all fun f => f.ok K) && da.all fun d => d.ok K) = true from congrArg (fun z : Al => z.1) c)).1
  exact @of_decide_eq_true _ (f.d K) (List.all_eq_true.mp c1 f (List.mem_of_getElem? h))
theorem Says.d0 (c : Says fa da ta w K) (i : Nat) {d : Df} (h : da[i]? = some d) : fnX K (d.at_ K) = d.val ∧ d.ok K = true := by
  have c2 := (He.ba (show ((fa.all fun f => f.ok K) && da.all fun d => d.ok K) = true from congrArg (fun z : Al => z.1) c)).2
  have e : da.map (fun d => fnX K (d.at_ K)) = da.map Df.val := congrArg (fun z : Al => z.2.1) c
  have e2 : (da.map fun d => fnX K (d.at_ K))[i]? = (da.map Df.val)[i]? := by rw [e]
  rw [List.getElem?_map, List.getElem?_map, h] at e2
  exact ⟨Option.some.inj e2, List.all_eq_true.mp c2 d (List.mem_of_getElem? h)⟩
theorem Says.fd (c : Says fa da ta w K) (i : Nat) {d : Df} (h : da[i]? = some d) (hc : d.cl = [] := by rfl) : ∃ fd, FunD K d.name d.qual (defArgs d.st) (defBody d.st) (defScope d.st) (d.dvs K) [] (d.at_ K) fd := Df.funD (c.d0 i h).1 (c.d0 i h).2 hc
theorem Says.ks (c : Says fa da ta w K) (i : Nat) {d : Df} (h : da[i]? = some d) (hc : d.cl = ([("__class__" : Str)] : List Str) := by rfl) (hd : d.dfl = [] := by rfl) : ∃ oc od osl kV doc pm an ct, K.lookup (d.at_ K) = some ⟨oc, od, .func (PySem.W.ksFn d.name d.qual (defArgs d.st) (defBody d.st) (defScope d.st) .none kV doc pm an (.ref (caA K (d.at_ K))) ct (ccA K (d.at_ K))), osl⟩ ∧ PySem.W.codeIn K (.ref (caA K (d.at_ K))) d.qual = true := Df.ks (c.d0 i h).1 (c.d0 i h).2 hc hd
theorem Says.kp (c : Says fa da ta w K) (i : Nat) {d : Df} (h : da[i]? = some d) : PySem.W.keepIn K (.ref (d.at_ K)) = true := (He.ba (c.d0 i h).2).1
theorem Says.t (c : Says fa da ta w K) (i : Nat) {t : Tab} (h : ta[i]? = some t) : ∃ es n, KDict K w (t.1 K) es n ∧ DL.KIn K w (t.1 K) t.2 := by
  have e : ta.map (fun t => He.dicW K (t.1 K)) = ta.map fun t => some (He.keysIn w.params t.2) := congrArg (fun z : Al => z.2.2) c
  have e2 : (ta.map fun t => He.dicW K (t.1 K))[i]? = (ta.map fun t => some (He.keysIn w.params t.2))[i]? := by rw [e]
  rw [List.getElem?_map, List.getElem?_map, h] at e2
  exact dic_kin (Option.some.inj e2)
end
/-! the end -/
end DH

/-! the head's facts in several runs: each run less memory -/
namespace DH
open PySem PySem.Spec PyProof.Rows L2
end DH


namespace MyH
open PySem L2 DL TL
def top (i : Nat) : Stmt := PySem.Challenge.pw_frostmarks_k01_errors_and_what_they_keep.main.body.getD i (.Pass ⟨0, 0, 0, 0⟩)
abbrev s__law_deal : Stmt := (top 12)
abbrev s__law_draw : Stmt := (top 13)
abbrev s__law_pick : Stmt := (top 14)
abbrev s__law_thing : Stmt := (top 16)
abbrev s__law_error : Stmt := (top 17)
abbrev s__law_by_name : Stmt := (top 18)
abbrev s__law_sorts : Stmt := (top 19)
abbrev s_law : Stmt := (top 20)
abbrev s_InvalidKeeper : Stmt := (inClass (top 3) 0)
abbrev s_InvalidLoad : Stmt := (inClass (top 4) 0)
abbrev s_InvalidZone : Stmt := (inClass (top 5) 0)
abbrev s_InvalidText : Stmt := (inClass (top 6) 0)
abbrev s_InvalidEvent : Stmt := (inClass (top 7) 0)
abbrev s_Refused : Stmt := (inClass (top 10) 0)
abbrev s_InvalidRing : Stmt := (inClass (top 2) 0)
abbrev s_InvalidHarm : Stmt := (inClass (top 8) 0)
abbrev s_InvalidCommand : Stmt := (inClass (top 9) 0)
abbrev P : Program := PySem.Challenge.pw_frostmarks_k01_errors_and_what_they_keep
def FA : List DH.Ft := ([DH.ft fun K => PySem.W.nsIn K mainGlobals "int" = some none, DH.ft fun K => PySem.W.nsIn K mainGlobals "bool" = some none, DH.ft fun K => PySem.W.nsIn K mainGlobals "str" = some none, DH.ft fun K => PySem.W.nsIn K mainGlobals "isinstance" = some none, DH.ft fun K => PySem.W.nsIn K mainGlobals "abs" = some none, DH.ft fun K => PySem.W.nsIn K mainGlobals "max" = some none, DH.ft fun K => PySem.W.nsIn K mainGlobals "min" = some none, DH.ft fun K => PySem.W.nsIn K mainGlobals "len" = some none, DH.ft fun K => PySem.W.nsIn K mainGlobals "range" = some none, DH.ft fun K => PySem.W.nsIn K mainGlobals "list" = some none, DH.ft fun K => PySem.W.nsIn K mainGlobals "repr" = some none, DH.ft fun K => PySem.W.nsIn K mainGlobals "tuple" = some none, DH.ft fun K => PySem.W.nsIn K mainGlobals "enumerate" = some none, DH.ft fun K => PySem.W.nsIn K mainGlobals "ValueError" = some none, DH.ft fun K => PySem.W.nsIn K mainGlobals "_law_deal" = some (some (.ref (He.ga K "_law_deal"))), DH.ft fun K => PySem.W.nsIn K mainGlobals "_law_draw" = some (some (.ref (He.ga K "_law_draw"))), DH.ft fun K => PySem.W.nsIn K mainGlobals "_law_pick" = some (some (.ref (He.ga K "_law_pick"))), DH.ft fun K => PySem.W.nsIn K mainGlobals "_law_thing" = some (some (.ref (He.ga K "_law_thing"))), DH.ft fun K => PySem.W.nsIn K mainGlobals "_law_error" = some (some (.ref (He.ga K "_law_error"))), DH.ft fun K => PySem.W.nsIn K mainGlobals "_law_by_name" = some (some (.ref (He.ga K "_law_by_name")))] : List DH.Ft) ++ ([DH.ft fun K => PySem.W.nsIn K mainGlobals "_law_sorts" = some (some (.ref (He.ga K "_law_sorts"))), DH.ft fun K => PySem.W.nsIn K mainGlobals "law" = some (some (.ref (He.ga K "law"))), DH.ft fun K => DH.exB K (He.ga K "FrostError") He.veBase = true, DH.ft fun K => PySem.W.findIn K (.ref (He.ga K "FrostError")) "__init__" = some (some (.builtin "ValueError.__init__")), DH.ft fun K => PySem.W.subIn K (.ref (He.ga K "FrostError")) (.type "BaseException") = some true, DH.ft fun K => PySem.W.hasDictIn K (He.ga K "FrostError") = true, DH.ft fun K => PySem.W.typeIn K (.ref (He.ga K "FrostError")) = some (.type "type"), DH.ft fun K => PySem.W.specialIn K (.builtin "object.__class__") "__get__" = some (some (.builtin "getset_descriptor.__get__")), DH.ft fun K => PySem.W.takesIn K (.builtin "object.__class__") = some true, DH.ft fun K => PySem.W.nsIn K mainGlobals "FrostError" = some (some (.ref (He.ga K "FrostError"))), DH.ft fun K => PySem.W.nsIn K mainGlobals "InvalidKeeper" = some (some (.ref (He.ga K "InvalidKeeper"))), DH.ft fun K => DH.fileB K (DH.caA K (He.ma K (He.ga K "InvalidKeeper") "__init__")) (P.main.file : Str) = true, DH.ft fun K => DH.cellB K (DH.ccA K (He.ma K (He.ga K "InvalidKeeper") "__init__")) (He.ga K "InvalidKeeper") = true, DH.ft fun K => DH.exB K (He.ga K "InvalidKeeper") (.ref (He.ga K "FrostError") :: He.veBase) = true, DH.ft fun K => PySem.W.findIn K (.ref (He.ga K "InvalidKeeper")) "__setattr__" = some (some (.builtin "object.__setattr__")), DH.ft fun K => PySem.W.subIn K (.ref (He.ga K "InvalidKeeper")) (.type "BaseException") = some true, DH.ft fun K => PySem.W.typeIn K (.ref (He.ga K "InvalidKeeper")) = some (.type "type"), DH.ft fun K => PySem.W.keepIn K (.ref (He.ga K "InvalidKeeper")) = true, DH.ft fun K => PySem.W.findIn K (.ref (He.ga K "InvalidKeeper")) "__init__" = some (some (.ref (He.ma K (He.ga K "InvalidKeeper") "__init__"))), DH.ft fun K => PySem.W.typeIn K (.ref (He.ma K (He.ga K "InvalidKeeper") "__init__")) = some (.type "function")] : List DH.Ft) ++ ([DH.ft fun K => PySem.W.isClsIn K (He.ga K "InvalidKeeper") = true, DH.ft fun K => PySem.W.mroIn K (He.ga K "InvalidKeeper") (.ref (He.ga K "InvalidKeeper")) = some true, DH.ft fun K => PySem.W.subIn K (.ref (He.ga K "InvalidKeeper")) (.type "ValueError") = some true, DH.ft fun K => PySem.W.findIn K (.ref (He.ga K "InvalidKeeper")) "__getattribute__" = some (some (.builtin "BaseException.__getattribute__")), DH.ft fun K => PySem.W.findIn K (.ref (He.ga K "InvalidKeeper")) "__getattr__" = some none, DH.ft fun K => PySem.W.hasDictIn K (He.ga K "InvalidKeeper") = true, DH.ft fun K => PySem.W.findIn K (.ref (He.ga K "InvalidKeeper")) "__class__" = some (some (.builtin "object.__class__")), DH.ft fun K => PySem.W.mroIn K (He.ga K "InvalidKeeper") (.type "object") = some true, DH.ft fun K => PySem.W.subIn K (.ref (He.ga K "InvalidKeeper")) (.ref (He.ga K "FrostError")) = some true, DH.ft fun K => PySem.W.mroIn K (He.ga K "InvalidKeeper") (.type "ValueError") = some true, DH.ft fun K => PySem.W.nsIn K mainGlobals "super" = some none, DH.ft fun K => PySem.W.nsIn K cStatics "thirdparty.any" = some none, DH.ft fun K => PySem.W.findIn K (.ref (He.ga K "InvalidKeeper")) "word" = some none, DH.ft fun K => PySem.W.nsIn K mainGlobals "InvalidLoad" = some (some (.ref (He.ga K "InvalidLoad"))), DH.ft fun K => DH.fileB K (DH.caA K (He.ma K (He.ga K "InvalidLoad") "__init__")) (P.main.file : Str) = true, DH.ft fun K => DH.cellB K (DH.ccA K (He.ma K (He.ga K "InvalidLoad") "__init__")) (He.ga K "InvalidLoad") = true, DH.ft fun K => DH.exB K (He.ga K "InvalidLoad") (.ref (He.ga K "FrostError") :: He.veBase) = true, DH.ft fun K => PySem.W.findIn K (.ref (He.ga K "InvalidLoad")) "__setattr__" = some (some (.builtin "object.__setattr__")), DH.ft fun K => PySem.W.subIn K (.ref (He.ga K "InvalidLoad")) (.type "BaseException") = some true, DH.ft fun K => PySem.W.typeIn K (.ref (He.ga K "InvalidLoad")) = some (.type "type")] : List DH.Ft) ++ ([DH.ft fun K => PySem.W.keepIn K (.ref (He.ga K "InvalidLoad")) = true, DH.ft fun K => PySem.W.findIn K (.ref (He.ga K "InvalidLoad")) "__init__" = some (some (.ref (He.ma K (He.ga K "InvalidLoad") "__init__"))), DH.ft fun K => PySem.W.typeIn K (.ref (He.ma K (He.ga K "InvalidLoad") "__init__")) = some (.type "function"), DH.ft fun K => PySem.W.isClsIn K (He.ga K "InvalidLoad") = true, DH.ft fun K => PySem.W.mroIn K (He.ga K "InvalidLoad") (.ref (He.ga K "InvalidLoad")) = some true, DH.ft fun K => PySem.W.subIn K (.ref (He.ga K "InvalidLoad")) (.type "ValueError") = some true, DH.ft fun K => PySem.W.findIn K (.ref (He.ga K "InvalidLoad")) "__getattribute__" = some (some (.builtin "BaseException.__getattribute__")), DH.ft fun K => PySem.W.findIn K (.ref (He.ga K "InvalidLoad")) "__getattr__" = some none, DH.ft fun K => PySem.W.hasDictIn K (He.ga K "InvalidLoad") = true, DH.ft fun K => PySem.W.findIn K (.ref (He.ga K "InvalidLoad")) "__class__" = some (some (.builtin "object.__class__")), DH.ft fun K => PySem.W.mroIn K (He.ga K "InvalidLoad") (.type "object") = some true, DH.ft fun K => PySem.W.subIn K (.ref (He.ga K "InvalidLoad")) (.ref (He.ga K "FrostError")) = some true, DH.ft fun K => PySem.W.mroIn K (He.ga K "InvalidLoad") (.type "ValueError") = some true, DH.ft fun K => PySem.W.findIn K (.ref (He.ga K "InvalidLoad")) "word" = some none, DH.ft fun K => PySem.W.nsIn K mainGlobals "InvalidZone" = some (some (.ref (He.ga K "InvalidZone"))), DH.ft fun K => DH.fileB K (DH.caA K (He.ma K (He.ga K "InvalidZone") "__init__")) (P.main.file : Str) = true, DH.ft fun K => DH.cellB K (DH.ccA K (He.ma K (He.ga K "InvalidZone") "__init__")) (He.ga K "InvalidZone") = true, DH.ft fun K => DH.exB K (He.ga K "InvalidZone") (.ref (He.ga K "FrostError") :: He.veBase) = true, DH.ft fun K => PySem.W.findIn K (.ref (He.ga K "InvalidZone")) "__setattr__" = some (some (.builtin "object.__setattr__")), DH.ft fun K => PySem.W.subIn K (.ref (He.ga K "InvalidZone")) (.type "BaseException") = some true] : List DH.Ft) ++ ([DH.ft fun K => PySem.W.typeIn K (.ref (He.ga K "InvalidZone")) = some (.type "type"), DH.ft fun K => PySem.W.keepIn K (.ref (He.ga K "InvalidZone")) = true, DH.ft fun K => PySem.W.findIn K (.ref (He.ga K "InvalidZone")) "__init__" = some (some (.ref (He.ma K (He.ga K "InvalidZone") "__init__"))), DH.ft fun K => PySem.W.typeIn K (.ref (He.ma K (He.ga K "InvalidZone") "__init__")) = some (.type "function"), DH.ft fun K => PySem.W.isClsIn K (He.ga K "InvalidZone") = true, DH.ft fun K => PySem.W.mroIn K (He.ga K "InvalidZone") (.ref (He.ga K "InvalidZone")) = some true, DH.ft fun K => PySem.W.subIn K (.ref (He.ga K "InvalidZone")) (.type "ValueError") = some true, DH.ft fun K => PySem.W.findIn K (.ref (He.ga K "InvalidZone")) "__getattribute__" = some (some (.builtin "BaseException.__getattribute__")), DH.ft fun K => PySem.W.findIn K (.ref (He.ga K "InvalidZone")) "__getattr__" = some none, DH.ft fun K => PySem.W.hasDictIn K (He.ga K "InvalidZone") = true, DH.ft fun K => PySem.W.findIn K (.ref (He.ga K "InvalidZone")) "__class__" = some (some (.builtin "object.__class__")), DH.ft fun K => PySem.W.mroIn K (He.ga K "InvalidZone") (.type "object") = some true, DH.ft fun K => PySem.W.subIn K (.ref (He.ga K "InvalidZone")) (.ref (He.ga K "FrostError")) = some true, DH.ft fun K => PySem.W.mroIn K (He.ga K "InvalidZone") (.type "ValueError") = some true, DH.ft fun K => PySem.W.findIn K (.ref (He.ga K "InvalidZone")) "word" = some none, DH.ft fun K => PySem.W.nsIn K mainGlobals "InvalidText" = some (some (.ref (He.ga K "InvalidText"))), DH.ft fun K => DH.fileB K (DH.caA K (He.ma K (He.ga K "InvalidText") "__init__")) (P.main.file : Str) = true, DH.ft fun K => DH.cellB K (DH.ccA K (He.ma K (He.ga K "InvalidText") "__init__")) (He.ga K "InvalidText") = true, DH.ft fun K => DH.exB K (He.ga K "InvalidText") (.ref (He.ga K "FrostError") :: He.veBase) = true, DH.ft fun K => PySem.W.findIn K (.ref (He.ga K "InvalidText")) "__setattr__" = some (some (.builtin "object.__setattr__"))] : List DH.Ft) ++ ([DH.ft fun K => PySem.W.subIn K (.ref (He.ga K "InvalidText")) (.type "BaseException") = some true, DH.ft fun K => PySem.W.typeIn K (.ref (He.ga K "InvalidText")) = some (.type "type"), DH.ft fun K => PySem.W.keepIn K (.ref (He.ga K "InvalidText")) = true, DH.ft fun K => PySem.W.findIn K (.ref (He.ga K "InvalidText")) "__init__" = some (some (.ref (He.ma K (He.ga K "InvalidText") "__init__"))), DH.ft fun K => PySem.W.typeIn K (.ref (He.ma K (He.ga K "InvalidText") "__init__")) = some (.type "function"), DH.ft fun K => PySem.W.isClsIn K (He.ga K "InvalidText") = true, DH.ft fun K => PySem.W.mroIn K (He.ga K "InvalidText") (.ref (He.ga K "InvalidText")) = some true, DH.ft fun K => PySem.W.subIn K (.ref (He.ga K "InvalidText")) (.type "ValueError") = some true, DH.ft fun K => PySem.W.findIn K (.ref (He.ga K "InvalidText")) "__getattribute__" = some (some (.builtin "BaseException.__getattribute__")), DH.ft fun K => PySem.W.findIn K (.ref (He.ga K "InvalidText")) "__getattr__" = some none, DH.ft fun K => PySem.W.hasDictIn K (He.ga K "InvalidText") = true, DH.ft fun K => PySem.W.findIn K (.ref (He.ga K "InvalidText")) "__class__" = some (some (.builtin "object.__class__")), DH.ft fun K => PySem.W.mroIn K (He.ga K "InvalidText") (.type "object") = some true, DH.ft fun K => PySem.W.subIn K (.ref (He.ga K "InvalidText")) (.ref (He.ga K "FrostError")) = some true, DH.ft fun K => PySem.W.mroIn K (He.ga K "InvalidText") (.type "ValueError") = some true, DH.ft fun K => PySem.W.findIn K (.ref (He.ga K "InvalidText")) "at" = some none, DH.ft fun K => PySem.W.nsIn K mainGlobals "InvalidEvent" = some (some (.ref (He.ga K "InvalidEvent"))), DH.ft fun K => DH.fileB K (DH.caA K (He.ma K (He.ga K "InvalidEvent") "__init__")) (P.main.file : Str) = true, DH.ft fun K => DH.cellB K (DH.ccA K (He.ma K (He.ga K "InvalidEvent") "__init__")) (He.ga K "InvalidEvent") = true, DH.ft fun K => DH.exB K (He.ga K "InvalidEvent") (.ref (He.ga K "FrostError") :: He.veBase) = true] : List DH.Ft) ++ ([DH.ft fun K => PySem.W.findIn K (.ref (He.ga K "InvalidEvent")) "__setattr__" = some (some (.builtin "object.__setattr__")), DH.ft fun K => PySem.W.subIn K (.ref (He.ga K "InvalidEvent")) (.type "BaseException") = some true, DH.ft fun K => PySem.W.typeIn K (.ref (He.ga K "InvalidEvent")) = some (.type "type"), DH.ft fun K => PySem.W.keepIn K (.ref (He.ga K "InvalidEvent")) = true, DH.ft fun K => PySem.W.findIn K (.ref (He.ga K "InvalidEvent")) "__init__" = some (some (.ref (He.ma K (He.ga K "InvalidEvent") "__init__"))), DH.ft fun K => PySem.W.typeIn K (.ref (He.ma K (He.ga K "InvalidEvent") "__init__")) = some (.type "function"), DH.ft fun K => PySem.W.isClsIn K (He.ga K "InvalidEvent") = true, DH.ft fun K => PySem.W.mroIn K (He.ga K "InvalidEvent") (.ref (He.ga K "InvalidEvent")) = some true, DH.ft fun K => PySem.W.subIn K (.ref (He.ga K "InvalidEvent")) (.type "ValueError") = some true, DH.ft fun K => PySem.W.findIn K (.ref (He.ga K "InvalidEvent")) "__getattribute__" = some (some (.builtin "BaseException.__getattribute__")), DH.ft fun K => PySem.W.findIn K (.ref (He.ga K "InvalidEvent")) "__getattr__" = some none, DH.ft fun K => PySem.W.hasDictIn K (He.ga K "InvalidEvent") = true, DH.ft fun K => PySem.W.findIn K (.ref (He.ga K "InvalidEvent")) "__class__" = some (some (.builtin "object.__class__")), DH.ft fun K => PySem.W.mroIn K (He.ga K "InvalidEvent") (.type "object") = some true, DH.ft fun K => PySem.W.subIn K (.ref (He.ga K "InvalidEvent")) (.ref (He.ga K "FrostError")) = some true, DH.ft fun K => PySem.W.mroIn K (He.ga K "InvalidEvent") (.type "ValueError") = some true, DH.ft fun K => PySem.W.findIn K (.ref (He.ga K "InvalidEvent")) "at" = some none, DH.ft fun K => PySem.W.nsIn K mainGlobals "Refused" = some (some (.ref (He.ga K "Refused"))), DH.ft fun K => DH.fileB K (DH.caA K (He.ma K (He.ga K "Refused") "__init__")) (P.main.file : Str) = true, DH.ft fun K => DH.cellB K (DH.ccA K (He.ma K (He.ga K "Refused") "__init__")) (He.ga K "Refused") = true] : List DH.Ft) ++ ([DH.ft fun K => DH.exB K (He.ga K "Refused") (.ref (He.ga K "FrostError") :: He.veBase) = true, DH.ft fun K => PySem.W.findIn K (.ref (He.ga K "Refused")) "__setattr__" = some (some (.builtin "object.__setattr__")), DH.ft fun K => PySem.W.subIn K (.ref (He.ga K "Refused")) (.type "BaseException") = some true, DH.ft fun K => PySem.W.typeIn K (.ref (He.ga K "Refused")) = some (.type "type"), DH.ft fun K => PySem.W.keepIn K (.ref (He.ga K "Refused")) = true, DH.ft fun K => PySem.W.findIn K (.ref (He.ga K "Refused")) "__init__" = some (some (.ref (He.ma K (He.ga K "Refused") "__init__"))), DH.ft fun K => PySem.W.typeIn K (.ref (He.ma K (He.ga K "Refused") "__init__")) = some (.type "function"), DH.ft fun K => PySem.W.isClsIn K (He.ga K "Refused") = true, DH.ft fun K => PySem.W.mroIn K (He.ga K "Refused") (.ref (He.ga K "Refused")) = some true, DH.ft fun K => PySem.W.subIn K (.ref (He.ga K "Refused")) (.type "ValueError") = some true, DH.ft fun K => PySem.W.findIn K (.ref (He.ga K "Refused")) "__getattribute__" = some (some (.builtin "BaseException.__getattribute__")), DH.ft fun K => PySem.W.findIn K (.ref (He.ga K "Refused")) "__getattr__" = some none, DH.ft fun K => PySem.W.hasDictIn K (He.ga K "Refused") = true, DH.ft fun K => PySem.W.findIn K (.ref (He.ga K "Refused")) "__class__" = some (some (.builtin "object.__class__")), DH.ft fun K => PySem.W.mroIn K (He.ga K "Refused") (.type "object") = some true, DH.ft fun K => PySem.W.subIn K (.ref (He.ga K "Refused")) (.ref (He.ga K "FrostError")) = some true, DH.ft fun K => PySem.W.mroIn K (He.ga K "Refused") (.type "ValueError") = some true, DH.ft fun K => PySem.W.findIn K (.ref (He.ga K "Refused")) "at" = some none, DH.ft fun K => PySem.W.nsIn K mainGlobals "InvalidRing" = some (some (.ref (He.ga K "InvalidRing"))), DH.ft fun K => DH.fileB K (DH.caA K (He.ma K (He.ga K "InvalidRing") "__init__")) (P.main.file : Str) = true] : List DH.Ft) ++ ([DH.ft fun K => DH.cellB K (DH.ccA K (He.ma K (He.ga K "InvalidRing") "__init__")) (He.ga K "InvalidRing") = true, DH.ft fun K => DH.exB K (He.ga K "InvalidRing") (.ref (He.ga K "FrostError") :: He.veBase) = true, DH.ft fun K => PySem.W.findIn K (.ref (He.ga K "InvalidRing")) "__setattr__" = some (some (.builtin "object.__setattr__")), DH.ft fun K => PySem.W.subIn K (.ref (He.ga K "InvalidRing")) (.type "BaseException") = some true, DH.ft fun K => PySem.W.typeIn K (.ref (He.ga K "InvalidRing")) = some (.type "type"), DH.ft fun K => PySem.W.keepIn K (.ref (He.ga K "InvalidRing")) = true, DH.ft fun K => PySem.W.findIn K (.ref (He.ga K "InvalidRing")) "__init__" = some (some (.ref (He.ma K (He.ga K "InvalidRing") "__init__"))), DH.ft fun K => PySem.W.typeIn K (.ref (He.ma K (He.ga K "InvalidRing") "__init__")) = some (.type "function"), DH.ft fun K => PySem.W.isClsIn K (He.ga K "InvalidRing") = true, DH.ft fun K => PySem.W.mroIn K (He.ga K "InvalidRing") (.ref (He.ga K "InvalidRing")) = some true, DH.ft fun K => PySem.W.subIn K (.ref (He.ga K "InvalidRing")) (.type "ValueError") = some true, DH.ft fun K => PySem.W.findIn K (.ref (He.ga K "InvalidRing")) "__getattribute__" = some (some (.builtin "BaseException.__getattribute__")), DH.ft fun K => PySem.W.findIn K (.ref (He.ga K "InvalidRing")) "__getattr__" = some none, DH.ft fun K => PySem.W.hasDictIn K (He.ga K "InvalidRing") = true, DH.ft fun K => PySem.W.findIn K (.ref (He.ga K "InvalidRing")) "__class__" = some (some (.builtin "object.__class__")), DH.ft fun K => PySem.W.mroIn K (He.ga K "InvalidRing") (.type "object") = some true, DH.ft fun K => PySem.W.subIn K (.ref (He.ga K "InvalidRing")) (.ref (He.ga K "FrostError")) = some true, DH.ft fun K => PySem.W.mroIn K (He.ga K "InvalidRing") (.type "ValueError") = some true, DH.ft fun K => PySem.W.nsIn K mainGlobals "InvalidHarm" = some (some (.ref (He.ga K "InvalidHarm"))), DH.ft fun K => DH.fileB K (DH.caA K (He.ma K (He.ga K "InvalidHarm") "__init__")) (P.main.file : Str) = true] : List DH.Ft) ++ ([DH.ft fun K => DH.cellB K (DH.ccA K (He.ma K (He.ga K "InvalidHarm") "__init__")) (He.ga K "InvalidHarm") = true, DH.ft fun K => DH.exB K (He.ga K "InvalidHarm") (.ref (He.ga K "FrostError") :: He.veBase) = true, DH.ft fun K => PySem.W.findIn K (.ref (He.ga K "InvalidHarm")) "__setattr__" = some (some (.builtin "object.__setattr__")), DH.ft fun K => PySem.W.subIn K (.ref (He.ga K "InvalidHarm")) (.type "BaseException") = some true, DH.ft fun K => PySem.W.typeIn K (.ref (He.ga K "InvalidHarm")) = some (.type "type"), DH.ft fun K => PySem.W.keepIn K (.ref (He.ga K "InvalidHarm")) = true, DH.ft fun K => PySem.W.findIn K (.ref (He.ga K "InvalidHarm")) "__init__" = some (some (.ref (He.ma K (He.ga K "InvalidHarm") "__init__"))), DH.ft fun K => PySem.W.typeIn K (.ref (He.ma K (He.ga K "InvalidHarm") "__init__")) = some (.type "function"), DH.ft fun K => PySem.W.isClsIn K (He.ga K "InvalidHarm") = true, DH.ft fun K => PySem.W.mroIn K (He.ga K "InvalidHarm") (.ref (He.ga K "InvalidHarm")) = some true, DH.ft fun K => PySem.W.subIn K (.ref (He.ga K "InvalidHarm")) (.type "ValueError") = some true, DH.ft fun K => PySem.W.findIn K (.ref (He.ga K "InvalidHarm")) "__getattribute__" = some (some (.builtin "BaseException.__getattribute__")), DH.ft fun K => PySem.W.findIn K (.ref (He.ga K "InvalidHarm")) "__getattr__" = some none, DH.ft fun K => PySem.W.hasDictIn K (He.ga K "InvalidHarm") = true, DH.ft fun K => PySem.W.findIn K (.ref (He.ga K "InvalidHarm")) "__class__" = some (some (.builtin "object.__class__")), DH.ft fun K => PySem.W.mroIn K (He.ga K "InvalidHarm") (.type "object") = some true, DH.ft fun K => PySem.W.subIn K (.ref (He.ga K "InvalidHarm")) (.ref (He.ga K "FrostError")) = some true, DH.ft fun K => PySem.W.mroIn K (He.ga K "InvalidHarm") (.type "ValueError") = some true, DH.ft fun K => PySem.W.nsIn K mainGlobals "InvalidCommand" = some (some (.ref (He.ga K "InvalidCommand"))), DH.ft fun K => DH.fileB K (DH.caA K (He.ma K (He.ga K "InvalidCommand") "__init__")) (P.main.file : Str) = true] : List DH.Ft) ++ ([DH.ft fun K => DH.cellB K (DH.ccA K (He.ma K (He.ga K "InvalidCommand") "__init__")) (He.ga K "InvalidCommand") = true, DH.ft fun K => DH.exB K (He.ga K "InvalidCommand") (.ref (He.ga K "FrostError") :: He.veBase) = true, DH.ft fun K => PySem.W.findIn K (.ref (He.ga K "InvalidCommand")) "__setattr__" = some (some (.builtin "object.__setattr__")), DH.ft fun K => PySem.W.subIn K (.ref (He.ga K "InvalidCommand")) (.type "BaseException") = some true, DH.ft fun K => PySem.W.typeIn K (.ref (He.ga K "InvalidCommand")) = some (.type "type"), DH.ft fun K => PySem.W.keepIn K (.ref (He.ga K "InvalidCommand")) = true, DH.ft fun K => PySem.W.findIn K (.ref (He.ga K "InvalidCommand")) "__init__" = some (some (.ref (He.ma K (He.ga K "InvalidCommand") "__init__"))), DH.ft fun K => PySem.W.typeIn K (.ref (He.ma K (He.ga K "InvalidCommand") "__init__")) = some (.type "function"), DH.ft fun K => PySem.W.isClsIn K (He.ga K "InvalidCommand") = true, DH.ft fun K => PySem.W.mroIn K (He.ga K "InvalidCommand") (.ref (He.ga K "InvalidCommand")) = some true, DH.ft fun K => PySem.W.subIn K (.ref (He.ga K "InvalidCommand")) (.type "ValueError") = some true, DH.ft fun K => PySem.W.findIn K (.ref (He.ga K "InvalidCommand")) "__getattribute__" = some (some (.builtin "BaseException.__getattribute__")), DH.ft fun K => PySem.W.findIn K (.ref (He.ga K "InvalidCommand")) "__getattr__" = some none, DH.ft fun K => PySem.W.hasDictIn K (He.ga K "InvalidCommand") = true, DH.ft fun K => PySem.W.findIn K (.ref (He.ga K "InvalidCommand")) "__class__" = some (some (.builtin "object.__class__")), DH.ft fun K => PySem.W.mroIn K (He.ga K "InvalidCommand") (.type "object") = some true, DH.ft fun K => PySem.W.subIn K (.ref (He.ga K "InvalidCommand")) (.ref (He.ga K "FrostError")) = some true, DH.ft fun K => PySem.W.mroIn K (He.ga K "InvalidCommand") (.type "ValueError") = some true, DH.ft fun K => (Value.ref (He.ga K "InvalidKeeper") == Value.ref (He.ga K "InvalidLoad")) = false, DH.ft fun K => PySem.W.mroIn K (He.ga K "InvalidKeeper") (.ref (He.ga K "InvalidLoad")) = some false] : List DH.Ft) ++ ([DH.ft fun K => (Value.ref (He.ga K "InvalidKeeper") == Value.ref (He.ga K "InvalidZone")) = false, DH.ft fun K => PySem.W.mroIn K (He.ga K "InvalidKeeper") (.ref (He.ga K "InvalidZone")) = some false, DH.ft fun K => (Value.ref (He.ga K "InvalidKeeper") == Value.ref (He.ga K "InvalidText")) = false, DH.ft fun K => PySem.W.mroIn K (He.ga K "InvalidKeeper") (.ref (He.ga K "InvalidText")) = some false, DH.ft fun K => (Value.ref (He.ga K "InvalidKeeper") == Value.ref (He.ga K "InvalidEvent")) = false, DH.ft fun K => PySem.W.mroIn K (He.ga K "InvalidKeeper") (.ref (He.ga K "InvalidEvent")) = some false, DH.ft fun K => (Value.ref (He.ga K "InvalidKeeper") == Value.ref (He.ga K "Refused")) = false, DH.ft fun K => PySem.W.mroIn K (He.ga K "InvalidKeeper") (.ref (He.ga K "Refused")) = some false, DH.ft fun K => (Value.ref (He.ga K "InvalidKeeper") == Value.ref (He.ga K "InvalidRing")) = false, DH.ft fun K => PySem.W.mroIn K (He.ga K "InvalidKeeper") (.ref (He.ga K "InvalidRing")) = some false, DH.ft fun K => (Value.ref (He.ga K "InvalidKeeper") == Value.ref (He.ga K "InvalidHarm")) = false, DH.ft fun K => PySem.W.mroIn K (He.ga K "InvalidKeeper") (.ref (He.ga K "InvalidHarm")) = some false, DH.ft fun K => (Value.ref (He.ga K "InvalidKeeper") == Value.ref (He.ga K "InvalidCommand")) = false, DH.ft fun K => PySem.W.mroIn K (He.ga K "InvalidKeeper") (.ref (He.ga K "InvalidCommand")) = some false, DH.ft fun K => (Value.ref (He.ga K "InvalidLoad") == Value.ref (He.ga K "InvalidKeeper")) = false, DH.ft fun K => PySem.W.mroIn K (He.ga K "InvalidLoad") (.ref (He.ga K "InvalidKeeper")) = some false, DH.ft fun K => (Value.ref (He.ga K "InvalidLoad") == Value.ref (He.ga K "InvalidZone")) = false, DH.ft fun K => PySem.W.mroIn K (He.ga K "InvalidLoad") (.ref (He.ga K "InvalidZone")) = some false, DH.ft fun K => (Value.ref (He.ga K "InvalidLoad") == Value.ref (He.ga K "InvalidText")) = false, DH.ft fun K => PySem.W.mroIn K (He.ga K "InvalidLoad") (.ref (He.ga K "InvalidText")) = some false] : List DH.Ft) ++ ([DH.ft fun K => (Value.ref (He.ga K "InvalidLoad") == Value.ref (He.ga K "InvalidEvent")) = false, DH.ft fun K => PySem.W.mroIn K (He.ga K "InvalidLoad") (.ref (He.ga K "InvalidEvent")) = some false, DH.ft fun K => (Value.ref (He.ga K "InvalidLoad") == Value.ref (He.ga K "Refused")) = false, DH.ft fun K => PySem.W.mroIn K (He.ga K "InvalidLoad") (.ref (He.ga K "Refused")) = some false, DH.ft fun K => (Value.ref (He.ga K "InvalidLoad") == Value.ref (He.ga K "InvalidRing")) = false, DH.ft fun K => PySem.W.mroIn K (He.ga K "InvalidLoad") (.ref (He.ga K "InvalidRing")) = some false, DH.ft fun K => (Value.ref (He.ga K "InvalidLoad") == Value.ref (He.ga K "InvalidHarm")) = false, DH.ft fun K => PySem.W.mroIn K (He.ga K "InvalidLoad") (.ref (He.ga K "InvalidHarm")) = some false, DH.ft fun K => (Value.ref (He.ga K "InvalidLoad") == Value.ref (He.ga K "InvalidCommand")) = false, DH.ft fun K => PySem.W.mroIn K (He.ga K "InvalidLoad") (.ref (He.ga K "InvalidCommand")) = some false, DH.ft fun K => (Value.ref (He.ga K "InvalidZone") == Value.ref (He.ga K "InvalidKeeper")) = false, DH.ft fun K => PySem.W.mroIn K (He.ga K "InvalidZone") (.ref (He.ga K "InvalidKeeper")) = some false, DH.ft fun K => (Value.ref (He.ga K "InvalidZone") == Value.ref (He.ga K "InvalidLoad")) = false, DH.ft fun K => PySem.W.mroIn K (He.ga K "InvalidZone") (.ref (He.ga K "InvalidLoad")) = some false, DH.ft fun K => (Value.ref (He.ga K "InvalidZone") == Value.ref (He.ga K "InvalidText")) = false, DH.ft fun K => PySem.W.mroIn K (He.ga K "InvalidZone") (.ref (He.ga K "InvalidText")) = some false, DH.ft fun K => (Value.ref (He.ga K "InvalidZone") == Value.ref (He.ga K "InvalidEvent")) = false, DH.ft fun K => PySem.W.mroIn K (He.ga K "InvalidZone") (.ref (He.ga K "InvalidEvent")) = some false, DH.ft fun K => (Value.ref (He.ga K "InvalidZone") == Value.ref (He.ga K "Refused")) = false, DH.ft fun K => PySem.W.mroIn K (He.ga K "InvalidZone") (.ref (He.ga K "Refused")) = some false] : List DH.Ft) ++ ([DH.ft fun K => (Value.ref (He.ga K "InvalidZone") == Value.ref (He.ga K "InvalidRing")) = false, DH.ft fun K => PySem.W.mroIn K (He.ga K "InvalidZone") (.ref (He.ga K "InvalidRing")) = some false, DH.ft fun K => (Value.ref (He.ga K "InvalidZone") == Value.ref (He.ga K "InvalidHarm")) = false, DH.ft fun K => PySem.W.mroIn K (He.ga K "InvalidZone") (.ref (He.ga K "InvalidHarm")) = some false, DH.ft fun K => (Value.ref (He.ga K "InvalidZone") == Value.ref (He.ga K "InvalidCommand")) = false, DH.ft fun K => PySem.W.mroIn K (He.ga K "InvalidZone") (.ref (He.ga K "InvalidCommand")) = some false, DH.ft fun K => (Value.ref (He.ga K "InvalidText") == Value.ref (He.ga K "InvalidKeeper")) = false, DH.ft fun K => PySem.W.mroIn K (He.ga K "InvalidText") (.ref (He.ga K "InvalidKeeper")) = some false, DH.ft fun K => (Value.ref (He.ga K "InvalidText") == Value.ref (He.ga K "InvalidLoad")) = false, DH.ft fun K => PySem.W.mroIn K (He.ga K "InvalidText") (.ref (He.ga K "InvalidLoad")) = some false, DH.ft fun K => (Value.ref (He.ga K "InvalidText") == Value.ref (He.ga K "InvalidZone")) = false, DH.ft fun K => PySem.W.mroIn K (He.ga K "InvalidText") (.ref (He.ga K "InvalidZone")) = some false, DH.ft fun K => (Value.ref (He.ga K "InvalidText") == Value.ref (He.ga K "InvalidEvent")) = false, DH.ft fun K => PySem.W.mroIn K (He.ga K "InvalidText") (.ref (He.ga K "InvalidEvent")) = some false, DH.ft fun K => (Value.ref (He.ga K "InvalidText") == Value.ref (He.ga K "Refused")) = false, DH.ft fun K => PySem.W.mroIn K (He.ga K "InvalidText") (.ref (He.ga K "Refused")) = some false, DH.ft fun K => (Value.ref (He.ga K "InvalidText") == Value.ref (He.ga K "InvalidRing")) = false, DH.ft fun K => PySem.W.mroIn K (He.ga K "InvalidText") (.ref (He.ga K "InvalidRing")) = some false, DH.ft fun K => (Value.ref (He.ga K "InvalidText") == Value.ref (He.ga K "InvalidHarm")) = false, DH.ft fun K => PySem.W.mroIn K (He.ga K "InvalidText") (.ref (He.ga K "InvalidHarm")) = some false] : List DH.Ft) ++ ([DH.ft fun K => (Value.ref (He.ga K "InvalidText") == Value.ref (He.ga K "InvalidCommand")) = false, DH.ft fun K => PySem.W.mroIn K (He.ga K "InvalidText") (.ref (He.ga K "InvalidCommand")) = some false, DH.ft fun K => (Value.ref (He.ga K "InvalidEvent") == Value.ref (He.ga K "InvalidKeeper")) = false, DH.ft fun K => PySem.W.mroIn K (He.ga K "InvalidEvent") (.ref (He.ga K "InvalidKeeper")) = some false, DH.ft fun K => (Value.ref (He.ga K "InvalidEvent") == Value.ref (He.ga K "InvalidLoad")) = false, DH.ft fun K => PySem.W.mroIn K (He.ga K "InvalidEvent") (.ref (He.ga K "InvalidLoad")) = some false, DH.ft fun K => (Value.ref (He.ga K "InvalidEvent") == Value.ref (He.ga K "InvalidZone")) = false, DH.ft fun K => PySem.W.mroIn K (He.ga K "InvalidEvent") (.ref (He.ga K "InvalidZone")) = some false, DH.ft fun K => (Value.ref (He.ga K "InvalidEvent") == Value.ref (He.ga K "InvalidText")) = false, DH.ft fun K => PySem.W.mroIn K (He.ga K "InvalidEvent") (.ref (He.ga K "InvalidText")) = some false, DH.ft fun K => (Value.ref (He.ga K "InvalidEvent") == Value.ref (He.ga K "Refused")) = false, DH.ft fun K => PySem.W.mroIn K (He.ga K "InvalidEvent") (.ref (He.ga K "Refused")) = some false, DH.ft fun K => (Value.ref (He.ga K "InvalidEvent") == Value.ref (He.ga K "InvalidRing")) = false, DH.ft fun K => PySem.W.mroIn K (He.ga K "InvalidEvent") (.ref (He.ga K "InvalidRing")) = some false, DH.ft fun K => (Value.ref (He.ga K "InvalidEvent") == Value.ref (He.ga K "InvalidHarm")) = false, DH.ft fun K => PySem.W.mroIn K (He.ga K "InvalidEvent") (.ref (He.ga K "InvalidHarm")) = some false, DH.ft fun K => (Value.ref (He.ga K "InvalidEvent") == Value.ref (He.ga K "InvalidCommand")) = false, DH.ft fun K => PySem.W.mroIn K (He.ga K "InvalidEvent") (.ref (He.ga K "InvalidCommand")) = some false, DH.ft fun K => (Value.ref (He.ga K "Refused") == Value.ref (He.ga K "InvalidKeeper")) = false, DH.ft fun K => PySem.W.mroIn K (He.ga K "Refused") (.ref (He.ga K "InvalidKeeper")) = some false] : List DH.Ft) ++ ([DH.ft fun K => (Value.ref (He.ga K "Refused") == Value.ref (He.ga K "InvalidLoad")) = false, DH.ft fun K => PySem.W.mroIn K (He.ga K "Refused") (.ref (He.ga K "InvalidLoad")) = some false, DH.ft fun K => (Value.ref (He.ga K "Refused") == Value.ref (He.ga K "InvalidZone")) = false, DH.ft fun K => PySem.W.mroIn K (He.ga K "Refused") (.ref (He.ga K "InvalidZone")) = some false, DH.ft fun K => (Value.ref (He.ga K "Refused") == Value.ref (He.ga K "InvalidText")) = false, DH.ft fun K => PySem.W.mroIn K (He.ga K "Refused") (.ref (He.ga K "InvalidText")) = some false, DH.ft fun K => (Value.ref (He.ga K "Refused") == Value.ref (He.ga K "InvalidEvent")) = false, DH.ft fun K => PySem.W.mroIn K (He.ga K "Refused") (.ref (He.ga K "InvalidEvent")) = some false, DH.ft fun K => (Value.ref (He.ga K "Refused") == Value.ref (He.ga K "InvalidRing")) = false, DH.ft fun K => PySem.W.mroIn K (He.ga K "Refused") (.ref (He.ga K "InvalidRing")) = some false, DH.ft fun K => (Value.ref (He.ga K "Refused") == Value.ref (He.ga K "InvalidHarm")) = false, DH.ft fun K => PySem.W.mroIn K (He.ga K "Refused") (.ref (He.ga K "InvalidHarm")) = some false, DH.ft fun K => (Value.ref (He.ga K "Refused") == Value.ref (He.ga K "InvalidCommand")) = false, DH.ft fun K => PySem.W.mroIn K (He.ga K "Refused") (.ref (He.ga K "InvalidCommand")) = some false, DH.ft fun K => (Value.ref (He.ga K "InvalidRing") == Value.ref (He.ga K "InvalidKeeper")) = false, DH.ft fun K => PySem.W.mroIn K (He.ga K "InvalidRing") (.ref (He.ga K "InvalidKeeper")) = some false, DH.ft fun K => (Value.ref (He.ga K "InvalidRing") == Value.ref (He.ga K "InvalidLoad")) = false, DH.ft fun K => PySem.W.mroIn K (He.ga K "InvalidRing") (.ref (He.ga K "InvalidLoad")) = some false, DH.ft fun K => (Value.ref (He.ga K "InvalidRing") == Value.ref (He.ga K "InvalidZone")) = false, DH.ft fun K => PySem.W.mroIn K (He.ga K "InvalidRing") (.ref (He.ga K "InvalidZone")) = some false] : List DH.Ft) ++ ([DH.ft fun K => (Value.ref (He.ga K "InvalidRing") == Value.ref (He.ga K "InvalidText")) = false, DH.ft fun K => PySem.W.mroIn K (He.ga K "InvalidRing") (.ref (He.ga K "InvalidText")) = some false, DH.ft fun K => (Value.ref (He.ga K "InvalidRing") == Value.ref (He.ga K "InvalidEvent")) = false, DH.ft fun K => PySem.W.mroIn K (He.ga K "InvalidRing") (.ref (He.ga K "InvalidEvent")) = some false, DH.ft fun K => (Value.ref (He.ga K "InvalidRing") == Value.ref (He.ga K "Refused")) = false, DH.ft fun K => PySem.W.mroIn K (He.ga K "InvalidRing") (.ref (He.ga K "Refused")) = some false, DH.ft fun K => (Value.ref (He.ga K "InvalidRing") == Value.ref (He.ga K "InvalidHarm")) = false, DH.ft fun K => PySem.W.mroIn K (He.ga K "InvalidRing") (.ref (He.ga K "InvalidHarm")) = some false, DH.ft fun K => (Value.ref (He.ga K "InvalidRing") == Value.ref (He.ga K "InvalidCommand")) = false, DH.ft fun K => PySem.W.mroIn K (He.ga K "InvalidRing") (.ref (He.ga K "InvalidCommand")) = some false, DH.ft fun K => (Value.ref (He.ga K "InvalidHarm") == Value.ref (He.ga K "InvalidKeeper")) = false, DH.ft fun K => PySem.W.mroIn K (He.ga K "InvalidHarm") (.ref (He.ga K "InvalidKeeper")) = some false, DH.ft fun K => (Value.ref (He.ga K "InvalidHarm") == Value.ref (He.ga K "InvalidLoad")) = false, DH.ft fun K => PySem.W.mroIn K (He.ga K "InvalidHarm") (.ref (He.ga K "InvalidLoad")) = some false, DH.ft fun K => (Value.ref (He.ga K "InvalidHarm") == Value.ref (He.ga K "InvalidZone")) = false, DH.ft fun K => PySem.W.mroIn K (He.ga K "InvalidHarm") (.ref (He.ga K "InvalidZone")) = some false, DH.ft fun K => (Value.ref (He.ga K "InvalidHarm") == Value.ref (He.ga K "InvalidText")) = false, DH.ft fun K => PySem.W.mroIn K (He.ga K "InvalidHarm") (.ref (He.ga K "InvalidText")) = some false, DH.ft fun K => (Value.ref (He.ga K "InvalidHarm") == Value.ref (He.ga K "InvalidEvent")) = false, DH.ft fun K => PySem.W.mroIn K (He.ga K "InvalidHarm") (.ref (He.ga K "InvalidEvent")) = some false] : List DH.Ft) ++ ([DH.ft fun K => (Value.ref (He.ga K "InvalidHarm") == Value.ref (He.ga K "Refused")) = false, DH.ft fun K => PySem.W.mroIn K (He.ga K "InvalidHarm") (.ref (He.ga K "Refused")) = some false, DH.ft fun K => (Value.ref (He.ga K "InvalidHarm") == Value.ref (He.ga K "InvalidRing")) = false, DH.ft fun K => PySem.W.mroIn K (He.ga K "InvalidHarm") (.ref (He.ga K "InvalidRing")) = some false, DH.ft fun K => (Value.ref (He.ga K "InvalidHarm") == Value.ref (He.ga K "InvalidCommand")) = false, DH.ft fun K => PySem.W.mroIn K (He.ga K "InvalidHarm") (.ref (He.ga K "InvalidCommand")) = some false, DH.ft fun K => (Value.ref (He.ga K "InvalidCommand") == Value.ref (He.ga K "InvalidKeeper")) = false, DH.ft fun K => PySem.W.mroIn K (He.ga K "InvalidCommand") (.ref (He.ga K "InvalidKeeper")) = some false, DH.ft fun K => (Value.ref (He.ga K "InvalidCommand") == Value.ref (He.ga K "InvalidLoad")) = false, DH.ft fun K => PySem.W.mroIn K (He.ga K "InvalidCommand") (.ref (He.ga K "InvalidLoad")) = some false, DH.ft fun K => (Value.ref (He.ga K "InvalidCommand") == Value.ref (He.ga K "InvalidZone")) = false, DH.ft fun K => PySem.W.mroIn K (He.ga K "InvalidCommand") (.ref (He.ga K "InvalidZone")) = some false, DH.ft fun K => (Value.ref (He.ga K "InvalidCommand") == Value.ref (He.ga K "InvalidText")) = false, DH.ft fun K => PySem.W.mroIn K (He.ga K "InvalidCommand") (.ref (He.ga K "InvalidText")) = some false, DH.ft fun K => (Value.ref (He.ga K "InvalidCommand") == Value.ref (He.ga K "InvalidEvent")) = false, DH.ft fun K => PySem.W.mroIn K (He.ga K "InvalidCommand") (.ref (He.ga K "InvalidEvent")) = some false, DH.ft fun K => (Value.ref (He.ga K "InvalidCommand") == Value.ref (He.ga K "Refused")) = false, DH.ft fun K => PySem.W.mroIn K (He.ga K "InvalidCommand") (.ref (He.ga K "Refused")) = some false, DH.ft fun K => (Value.ref (He.ga K "InvalidCommand") == Value.ref (He.ga K "InvalidRing")) = false, DH.ft fun K => PySem.W.mroIn K (He.ga K "InvalidCommand") (.ref (He.ga K "InvalidRing")) = some false] : List DH.Ft) ++ ([DH.ft fun K => (Value.ref (He.ga K "InvalidCommand") == Value.ref (He.ga K "InvalidHarm")) = false, DH.ft fun K => PySem.W.mroIn K (He.ga K "InvalidCommand") (.ref (He.ga K "InvalidHarm")) = some false, DH.ft fun K => PySem.W.isClsIn K (He.ga K "FrostError") = true, DH.ft fun K => (Value.ref (He.ga K "InvalidKeeper") == Value.ref (He.ga K "FrostError")) = false, DH.ft fun K => PySem.W.mroIn K (He.ga K "InvalidKeeper") (.ref (He.ga K "FrostError")) = some true, DH.ft fun K => (Value.ref (He.ga K "InvalidLoad") == Value.ref (He.ga K "FrostError")) = false, DH.ft fun K => PySem.W.mroIn K (He.ga K "InvalidLoad") (.ref (He.ga K "FrostError")) = some true, DH.ft fun K => (Value.ref (He.ga K "InvalidZone") == Value.ref (He.ga K "FrostError")) = false, DH.ft fun K => PySem.W.mroIn K (He.ga K "InvalidZone") (.ref (He.ga K "FrostError")) = some true, DH.ft fun K => (Value.ref (He.ga K "InvalidText") == Value.ref (He.ga K "FrostError")) = false, DH.ft fun K => PySem.W.mroIn K (He.ga K "InvalidText") (.ref (He.ga K "FrostError")) = some true, DH.ft fun K => (Value.ref (He.ga K "InvalidEvent") == Value.ref (He.ga K "FrostError")) = false, DH.ft fun K => PySem.W.mroIn K (He.ga K "InvalidEvent") (.ref (He.ga K "FrostError")) = some true, DH.ft fun K => (Value.ref (He.ga K "Refused") == Value.ref (He.ga K "FrostError")) = false, DH.ft fun K => PySem.W.mroIn K (He.ga K "Refused") (.ref (He.ga K "FrostError")) = some true, DH.ft fun K => (Value.ref (He.ga K "InvalidRing") == Value.ref (He.ga K "FrostError")) = false, DH.ft fun K => PySem.W.mroIn K (He.ga K "InvalidRing") (.ref (He.ga K "FrostError")) = some true, DH.ft fun K => (Value.ref (He.ga K "InvalidHarm") == Value.ref (He.ga K "FrostError")) = false, DH.ft fun K => PySem.W.mroIn K (He.ga K "InvalidHarm") (.ref (He.ga K "FrostError")) = some true, DH.ft fun K => (Value.ref (He.ga K "InvalidCommand") == Value.ref (He.ga K "FrostError")) = false] : List DH.Ft) ++ ([DH.ft fun K => PySem.W.mroIn K (He.ga K "InvalidCommand") (.ref (He.ga K "FrostError")) = some true] : List DH.Ft)
def DA : List DH.Df := ([⟨fun K => (He.ga K "_law_deal"), "_law_deal", "_law_deal", s__law_deal, [], []⟩, ⟨fun K => (He.ga K "_law_draw"), "_law_draw", "_law_draw", s__law_draw, [], []⟩, ⟨fun K => (He.ga K "_law_pick"), "_law_pick", "_law_pick", s__law_pick, [], []⟩, ⟨fun K => (He.ga K "_law_thing"), "_law_thing", "_law_thing", s__law_thing, [], []⟩, ⟨fun K => (He.ga K "_law_error"), "_law_error", "_law_error", s__law_error, [], []⟩, ⟨fun K => (He.ga K "_law_by_name"), "_law_by_name", "_law_by_name", s__law_by_name, [], []⟩, ⟨fun K => (He.ga K "_law_sorts"), "_law_sorts", "_law_sorts", s__law_sorts, [], []⟩, ⟨fun K => (He.ga K "law"), "law", "law", s_law, [], []⟩, ⟨fun K => (He.ma K (He.ga K "InvalidKeeper") "__init__"), "__init__", "InvalidKeeper.__init__", s_InvalidKeeper, [], ["__class__"]⟩, ⟨fun K => (He.ma K (He.ga K "InvalidLoad") "__init__"), "__init__", "InvalidLoad.__init__", s_InvalidLoad, [], ["__class__"]⟩, ⟨fun K => (He.ma K (He.ga K "InvalidZone") "__init__"), "__init__", "InvalidZone.__init__", s_InvalidZone, [], ["__class__"]⟩, ⟨fun K => (He.ma K (He.ga K "InvalidText") "__init__"), "__init__", "InvalidText.__init__", s_InvalidText, [], ["__class__"]⟩, ⟨fun K => (He.ma K (He.ga K "InvalidEvent") "__init__"), "__init__", "InvalidEvent.__init__", s_InvalidEvent, [], ["__class__"]⟩, ⟨fun K => (He.ma K (He.ga K "Refused") "__init__"), "__init__", "Refused.__init__", s_Refused, [], ["__class__"]⟩, ⟨fun K => (He.ma K (He.ga K "InvalidRing") "__init__"), "__init__", "InvalidRing.__init__", s_InvalidRing, [], ["__class__"]⟩, ⟨fun K => (He.ma K (He.ga K "InvalidHarm") "__init__"), "__init__", "InvalidHarm.__init__", s_InvalidHarm, [], ["__class__"]⟩, ⟨fun K => (He.ma K (He.ga K "InvalidCommand") "__init__"), "__init__", "InvalidCommand.__init__", s_InvalidCommand, [], ["__class__"]⟩] : List DH.Df)
def TA : List DH.Tab := ([] : List DH.Tab)
end MyH
namespace MyH
open PySem PySem.W PySem.Calls PyProof.Rows
abbrev RowL : OpenRow := OpenLaw.row PySem.Challenge.rw_frostmarks_k01_errors_and_what_they_keep
def LA : List Addr := mainGlobals :: (([24, 23, 67, 88, 109, 130, 151, 214, 46, 172, 193, 66, 87, 108, 129, 150, 213, 45, 171, 192, 220, 227, 234, 246, 253, 260, 265, 272, 63, 52, 84, 73, 105, 94, 126, 115, 147, 136, 210, 199] : List Addr) ++ ([42, 31, 168, 157, 189, 178, 2, 221, 228, 235, 247, 254, 261, 266, 273, 64, 85, 106, 127, 148, 211, 43, 169, 190] : List Addr))
def loose : List PySem.Str := (["FrostError", "InvalidRing", "InvalidKeeper", "InvalidLoad", "InvalidZone", "InvalidText", "InvalidEvent", "InvalidHarm", "InvalidCommand", "Refused", "_law_deal", "_law_draw", "_law_pick", "_law_mixed", "_law_thing", "_law_error", "_law_by_name", "_law_sorts"] : List PySem.Str)
def obL (s : SharedT) : DH.Al := DH.obsG LA FA DA TA (HandSHeadRun.getT s)
abbrev RunE (w : World) : Prop := HandSHeadRun.RunEq RowL (view RowL.prog [20]) (DH.hook LA FA DA TA) obL 40000 loose w
theorem runF (w : World) : RunE (w.withFollow "special-get-raises" false) := fun os => by kernel_rfl
theorem runT (w : World) : RunE (w.withFollow "special-get-raises" true) := fun os => by kernel_rfl
theorem runL (w : World) : RunE w := byRow2 "special-get-raises" (P := RunE) runF runT w
end MyH

/-! A layer of my own over the hand layer: values as data (Dv), things that change as a list (WS); readings without addresses. -/
namespace DL
open PySem L2

section
variable {K : PySem.W.Frag} {N N' N2 : Av} {H H' H2 : Hp}
theorem HasL.get' : ∀ {vs : List V} {ds : List Dv} {i : Nat} {v : V}, HasL K N H vs ds → vs[i]? = some v → ∃ d, ds[i]? = some d ∧ Has K N H v d
  | _, _, _, _, .nil, e => by simp at e
  | _, _, 0, _, .cons h _, e => by simp at e; subst e; exact ⟨_, rfl, h⟩
  | _, _, i + 1, _, .cons _ t, e => by
    obtain ⟨v, h1, h2⟩ := HasL.get' (i := i) t (by simpa using e)
    exact ⟨v, by simpa using h1, h2⟩
theorem HasL.reverse : ∀ {vs : List V} {ds : List Dv}, HasL K N H vs ds → HasL K N H vs.reverse ds.reverse
  | _, _, .nil => .nil
  | _, _, .cons h t => by
    rw [List.reverse_cons, List.reverse_cons]
    exact (HasL.reverse t).append (.cons h .nil)
end

/-! ### things that change -/
section
variable {K : PySem.W.Frag} {z ow ow' ow2 : Av} {As As' As2 : List (List Addr)} {H H' H2 : Hp}
theorem HasVL.ofL : ∀ {vs : List V} {ds : List Dv}, HasL K (bad z As) H vs ds → HasVL K z As H vs (ds.map Sv.d)
  | _, _, .nil => .nil
  | _, _, .cons h t => .cons (.d h) (HasVL.ofL t)
theorem HasVL.toL : ∀ {ds : List Dv} {vs : List V}, HasVL K z As H vs (ds.map Sv.d) → HasL K (bad z As) H vs ds
  | [], _, h => by cases h; exact .nil
  | d :: ds, _, h => by
    cases h with
    | cons a b =>
      cases a with
      | d a => exact .cons a (HasVL.toL b)
end

section
variable {K : PySem.W.Frag} {z z' ow ow' : Av} {As As' : List (List Addr)} {W W' : WS} {H H' : Hp}
theorem Wld.fresh {p : Addr} (w : Wld K z As W H) (h : H p = none) : ¬ bad z As p := fun q => by
  rcases q with q | q
  · exact w.trk p q h
  · exact w.zok.trk p q h
/-- new footprints: all of l was free ahead, H' keeps what was -/
theorem Ext.grow {l : List Addr} (k : ∀ b o, H b = some o → H' b = some o) (f : ∀ a, a ∈ l → H a = none) : ExtS As ow H (As ++ [l]) ow H' :=
  ⟨fun b o e n m => ⟨k b o e, ⟨fun q => (fp_app.mp q).elim n fun q => absurd ((f b q).symm.trans e) (fun x => by cases x), m⟩⟩,
   fun j l' q => (List.getElem?_append_left (List.getElem?_eq_some_iff.mp q).1).trans q,
   fun a q => by
    cases r : H a with
    | none => exact absurd r q
    | some o => rw [k a o r]; exact fun x => by cases x⟩
theorem Wld.grow {l : List Addr} {o : WObj} (w : Wld K z As W H) (k : ∀ b o, H b = some o → H' b = some o) (f : ∀ a, a ∈ l → H a = none) (t : ∀ a, a ∈ l → H' a ≠ none) (r : WRep K z (As ++ [l]) H' l o) : Wld K z (As ++ [l]) (W ++ [o]) H' := by
  have e : Ext As H (As ++ [l]) H' := Ext.grow k f
  refine ⟨by rw [List.length_append, List.length_append, w.len] <;> rfl, fun j l' u h1 h2 => ?_, fun a q => ?_, fun i j l1 l2 a h1 h2 q1 q2 => ?_, w.zok.ext e⟩
  · by_cases hj : j < As.length
    · rw [List.getElem?_append_left hj] at h1
      rw [List.getElem?_append_left (by rw [← w.len]; exact hj)] at h2
      refine (w.rep j l' u h1 h2).ext e fun a q => ?_
      cases r : H a with
      | none => exact absurd r (w.trk a ⟨l', List.mem_of_getElem? h1, q⟩)
      | some u' => exact k a u' r
    · have hj' : j = As.length := by
        have q := (List.getElem?_eq_some_iff.mp h1).1
        rw [List.length_append, List.length_singleton] at q
        omega
      subst hj'
      rw [List.getElem?_concat_length] at h1
      rw [w.len, List.getElem?_concat_length] at h2
      cases h1
      cases h2
      exact r
  · rcases fp_app.mp q with q | q
    · exact e.up a (w.trk a q)
    · exact t a q
  · have side : ∀ {i : Nat} {l1 : List Addr}, (As ++ [l])[i]? = some l1 → As[i]? = some l1 ∨ (i = As.length ∧ l1 = l) := by
      intro i l1 h
      by_cases hi : i < As.length
      · rw [List.getElem?_append_left hi] at h
        exact .inl h
      · have q := (List.getElem?_eq_some_iff.mp h).1
        rw [List.length_append, List.length_singleton] at q
        have hi' : i = As.length := by omega
        subst hi'
        rw [List.getElem?_concat_length] at h
        cases h
        exact .inr ⟨rfl, rfl⟩
    rcases side h1 with g1 | ⟨e1, e1'⟩ <;> rcases side h2 with g2 | ⟨e2, e2'⟩
    · exact w.dis i j l1 l2 a g1 g2 q1 q2
    · subst e2'
      exact absurd (f a q2) (w.trk a ⟨l1, List.mem_of_getElem? g1, q1⟩)
    · subst e1'
      exact absurd (f a q1) (w.trk a ⟨l2, List.mem_of_getElem? g2, q2⟩)
    · rw [e1, e2]
/-- the thing at j is changed, nothing else -/
theorem Ext.turn {l : List Addr} {j : Nat} (hj : As[j]? = some l) (k : ∀ b, b ∉ l → H' b = H b) (t : ∀ a, a ∈ l → H' a ≠ none) : ExtS As ow H As ow H' :=
  ⟨fun b o e n m => ⟨by rw [k b fun q => n ⟨l, List.mem_of_getElem? hj, q⟩]; exact e, n, m⟩, fun _ _ q => q, fun a q => by
    by_cases m : a ∈ l
    · exact t a m
    · rw [k a m]; exact q⟩
theorem Wld.turn {l : List Addr} {j : Nat} {o : WObj} (w : Wld K z As W H) (hj : As[j]? = some l) (k : ∀ b, b ∉ l → H' b = H b) (t : ∀ a, a ∈ l → H' a ≠ none) (r : WRep K z As H' l o) : Wld K z As (W.set j o) H' := by
  have e : Ext As H As H' := Ext.turn hj k t
  refine ⟨by rw [List.length_set]; exact w.len, fun i l' u h1 h2 => ?_, fun a q => e.up a (w.trk a q), w.dis, w.zok.ext e⟩
  by_cases q : j = i
  · subst q
    rw [hj] at h1
    cases h1
    rw [List.getElem?_set] at h2
    simp only [if_true] at h2
    split at h2
    · cases h2
      exact r
    · cases h2
  · rw [List.getElem?_set_ne q] at h2
    exact (w.rep i l' u h1 h2).ext e fun a m => k a fun m' => q (w.dis j i l l' a hj h1 m' m)
end

/-! ### slots -/
section
variable {K : PySem.W.Frag} {z : Av} {O : Nat → Option Addr} {As As' : List (List Addr)} {σd : DS} {W W' : WS} {σ : St} {H H' : Hp}
end
end DL

namespace DL
open PySem L2

def TBok (K : PySem.W.Frag) (t : TE) (w : WB) : Prop := ∀ {z : Av} {O : Nat → Option Addr} {As : List (List Addr)} {σd : DS} {W : WS} {σ : St} {H : Hp} (Φ : Dv → WS → Prop) (Q : VK), Rep K z O As σd W σ H → w σd W Φ →
  (∀ v H' x As' W', Ext As H As' H' → Wld K (zo z (owOf O)) As' W' H' → HasB K (zo z (owOf O)) As' H' v x → Φ x W' → Q v H') → t σ H Q
def TTok (K : PySem.W.Frag) (t : TT) (w : WT) : Prop := ∀ {z : Av} {O : Nat → Option Addr} {As : List (List Addr)} {σd : DS} {W : WS} {σ : St} {H : Hp} (Φ : Bool → WS → Prop) (Q : Bool → Hp → Prop), Rep K z O As σd W σ H → w σd W Φ →
  (∀ b H' As' W', Ext As H As' H' → Wld K (zo z (owOf O)) As' W' H' → Φ b W' → Q b H') → t σ H Q
def TAok (K : PySem.W.Frag) (t : TA) (w : WA) : Prop := ∀ {z : Av} {O : Nat → Option Addr} {As : List (List Addr)} {σd : DS} {W : WS} {σ : St} {H : Hp} (Φ : List Sv → WS → Prop) (Q : List V → Hp → Prop), Rep K z O As σd W σ H → w σd W Φ →
  (∀ vs H' xs As' W', Ext As H As' H' → Wld K (zo z (owOf O)) As' W' H' → HasVL K (zo z (owOf O)) As' H' vs xs → Φ xs W' → Q vs H') → t σ H Q
def TABok (K : PySem.W.Frag) (t : TA) (w : WAB) : Prop := ∀ {z : Av} {O : Nat → Option Addr} {As : List (List Addr)} {σd : DS} {W : WS} {σ : St} {H : Hp} (Φ : List Dv → WS → Prop) (Q : List V → Hp → Prop), Rep K z O As σd W σ H → w σd W Φ →
  (∀ vs H' xs As' W', Ext As H As' H' → Wld K (zo z (owOf O)) As' W' H' → HasBL K (zo z (owOf O)) As' H' vs xs → Φ xs W' → Q vs H') → t σ H Q
structure PB (X : Cx) (e : Expr) (t : TE) (w : WB) : Prop where
  pe : PE X e t
  ok : TBok X.K t w
structure PTD (X : Cx) (e : Expr) (t : TT) (w : WT) : Prop where
  pt : PT X e t
  ok : TTok X.K t w
structure PWD (X : Cx) (e : Expr) (t : TT) (w : WT) : Prop where
  pw : L2.PW X e t
  ok : TTok X.K t w
structure PAD (X : Cx) (es : List Expr) (t : TA) (w : WA) : Prop where
  pa : PA X es t
  ok : TAok X.K t w
structure PAB (X : Cx) (es : List Expr) (t : TA) (w : WAB) : Prop where
  pa : PA X es t
  ok : TABok X.K t w
structure PDS (X : Cx) (s : Stmt) (t : TS) (w : WSt) : Prop where
  ps : PS X s t
  ok : TSok X.K t w
structure PDSs (X : Cx) (s : List Stmt) (t : TS) (w : WSt) : Prop where
  ps : PSs X s t
  ok : TSok X.K t w

section
variable {K : PySem.W.Frag} {z : Av} {O : Nat → Option Addr} {As As' : List (List Addr)} {σd : DS} {W W' : WS} {σ : St} {H H' : Hp} {ow ow' : Av}
end

/-! ### slots, constants -/
abbrev wVarB (i : Nat) : WB := fun σd W Φ => match slot σd i with
  | some (.v (.d x)) => Φ x W
  | some (.own xs) => Φ (.lst xs) W
  | some (.ownD ks ds) => Φ (.dic ks ds) W
  | _ => False
abbrev wC (x : Dv) : WE := fun _ W Φ => Φ (.d x) W
abbrev rdD : Sv → WS → (Dv → WS → Prop) → Prop := fun x W Φ => match x with
  | .d x => Φ x W
  | .box _ => False
abbrev wBof (w : WE) : WB := fun σd W Φ => w σd W fun x W' => rdD x W' Φ

section
variable {K : PySem.W.Frag}
theorem tbo_var {i : Nat} : TBok K (tVar i) (wVarB i) := by
  intro z O As σd W σ H Φ Q r h q
  unfold wVarB at h
  split at h
  · rename_i x e
    obtain ⟨v, h1, _, h2⟩ := r.sl i _ (slot_at e)
    cases h2 with
    | d h2 => exact ⟨v, h1, q v H x As W ExtS.refl r.wld (.inl h2) h⟩
  · rename_i xs e
    obtain ⟨v, h1, a, vs, ho, hv, g1, g2⟩ := r.sl i _ (slot_at e)
    exact ⟨v, h1, q v H _ As W ExtS.refl r.wld (.inr (.inl ⟨a, vs, xs, hv, rfl, .inr ⟨i, ho⟩, g1, g2⟩)) h⟩
  · rename_i ks ds e
    obtain ⟨v, h1, a, vs, ho, hv, g1, g2, g3⟩ := r.sl i _ (slot_at e)
    exact ⟨v, h1, q v H _ As W ExtS.refl r.wld (.inr (.inr ⟨a, ks, vs, ds, hv, rfl, .inr ⟨i, ho⟩, g1, g2, g3⟩)) h⟩
  · exact h.elim
theorem teo_c {v : V} {x : Dv} (h : ∀ N H, Has K N H v x) : TEok K (tC v) (wC x) := by
  intro z O As σd W σ H Φ Q r g q
  exact q v H _ As W ExtS.refl r.wld (.d (h _ _)) g
theorem tbo_of {t : TE} {w : WE} (h : TEok K t w) : TBok K t (wBof w) := by
  intro z O As σd W σ H Φ Q r g q
  refine h (fun x W' => rdD x W' Φ) Q r g fun v H' x As' W' e wl hv p => ?_
  cases x with
  | d x =>
    cases hv with
    | d hv => exact q v H' x As' W' e wl (.inl hv) p
  | box j => exact p.elim
end
section
variable {X : Cx}
theorem bv (i : Nat) {x : Str} {pos : Pos} (hN : X.N[i]? = some x := by rfl) (hv : Vis X.env.scope x := by first | exact Or.inl rfl | exact Or.inr (Or.inl rfl) | exact Or.inr (Or.inr rfl)) (hd : (x == ("__debug__" : Str)) = false := by decide)
    (hcd : (x == ("__classdict__" : Str)) = false := by decide) : PB X (.Name x pos) (tVar i) (wVarB i) := ⟨pe_var hN hv hd hcd, tbo_var⟩
theorem d_int {i : Int} {j : Nat} {pos : Pos} : PD X (.Constant (.int i) j pos) (tC (.int i)) (wC (.int i)) := ⟨pe_int, teo_c fun _ _ => .int i⟩
theorem d_bl {i : Bool} {j : Nat} {pos : Pos} : PD X (.Constant (.bool i) j pos) (tC (.bl i)) (wC (.bl i)) := ⟨pe_bl, teo_c fun _ _ => .bl i⟩
theorem d_str {i : Str} {j : Nat} {pos : Pos} : PD X (.Constant (.str i) j pos) (tC (.str i)) (wC (.str i)) := ⟨pe_str, teo_c fun _ _ => .str i⟩
theorem d_non {j : Nat} {pos : Pos} : PD X (.Constant .none j pos) (tC .non) (wC .non) := ⟨pe_non, teo_c fun _ _ => .non⟩
theorem bb {e : Expr} {t : TE} {w : WE} (h : PD X e t w) : PB X e t (wBof w) := ⟨h.pe, tbo_of h.ok⟩
end

/-! ### operators -/
abbrev RD2 := Dv → Dv → WS → (Sv → WS → Prop) → Prop
def OpD (K : PySem.W.Frag) (r : R2) (rd : RD2) : Prop := ∀ {z : Av} {As : List (List Addr)} {W : WS} {H : Hp} {x y : V} {dx dy : Dv} (Φ : Sv → WS → Prop) (Q : VK), Wld K z As W H → HasB K z As H x dx → HasB K z As H y dy → rd dx dy W Φ → Nx K z As H Φ Q → r x y H Q
abbrev wOp (rd : RD2) (wa wb : WB) : WE := fun σd W Φ => wa σd W fun x W1 => wb σd W1 fun y W2 => rd x y W2 Φ
theorem teo_op {K : PySem.W.Frag} {r : R2} {rd : RD2} {ta tb : TE} {wa wb : WB} (ho : OpD K r rd) (ha : TBok K ta wa) (hb : TBok K tb wb) : TEok K (tOp r ta tb) (wOp rd wa wb) := by
  intro z O As σd W σ H Φ Q r1 h q
  refine ha _ _ r1 h fun v H1 x As1 W1 e1 wl1 hx p1 => ?_
  refine hb _ _ (r1.ext e1 wl1) p1 fun u H2 y As2 W2 e2 wl2 hy p2 => ?_
  exact ho Φ Q wl2 (hx.ext wl1.zok e2) hy p2 fun v' H' x' As' W' e3 wl3 hv p3 => q v' H' x' As' W' ((e1.trans e2).trans e3) wl3 hv p3
/-- ints -/
abbrev rdI (C : Int → Int → Prop) (g : Int → Int → Dv) : RD2 := fun x y W Φ => match x, y with
  | .int i, .int j => C i j ∧ Φ (.d (g i j)) W
  | _, _ => False
abbrev rdI0 (g : Int → Int → Dv) : RD2 := fun x y W Φ => match x, y with
  | .int i, .int j => Φ (.d (g i j)) W
  | _, _ => False
section
variable {K : PySem.W.Frag}
theorem od_I {C : Int → Int → Prop} {g : Int → Int → V} {gd : Int → Int → Dv} (hg : ∀ i j N H, Has K N H (g i j) (gd i j)) : OpD K (rI C g) (rdI C gd) := by
  intro z As W H x y dx dy Φ Q w hx hy h q
  unfold rdI at h
  split at h
  · obtain ⟨hc, h⟩ := h
    exact ⟨_, _, hx.int, hy.int, hc, q _ H _ As W ExtS.refl w (.d (hg _ _ _ _)) h⟩
  · exact h.elim
theorem od_I0 {g : Int → Int → V} {gd : Int → Int → Dv} (hg : ∀ i j N H, Has K N H (g i j) (gd i j)) : OpD K (rI0 g) (rdI0 gd) := by
  intro z As W H x y dx dy Φ Q w hx hy h q
  unfold rdI0 at h
  split at h
  · exact ⟨_, _, hx.int, hy.int, q _ H _ As W ExtS.refl w (.d (hg _ _ _ _)) h⟩
  · exact h.elim
/-- ==, != of plain things -/
def eqS : Dv → Dv → Option Bool := fun x y => match x, y with
  | .int i, .int j => some (decide (i = j))
  | .bl i, .bl j => some (decide (i = j))
  | .str i, .str j => some (decide (i = j))
  | .non, .non => some true
  | .non, .int _ => some false | .int _, .non => some false | .non, .bl _ => some false | .bl _, .non => some false
  | .non, .str _ => some false | .str _, .non => some false | .int _, .str _ => some false | .str _, .int _ => some false
  | .bl _, .str _ => some false | .str _, .bl _ => some false
  | _, _ => none
abbrev rdEq (f : Bool → Bool) : RD2 := fun x y W Φ => match eqS x y with
  | some b => Φ (.d (.bl (f b))) W
  | none => False
theorem eqS_of {z : Av} {As : List (List Addr)} {H : Hp} {x y : V} {dx dy : Dv} {b : Bool} (hx : HasB K z As H x dx) (hy : HasB K z As H y dy) (h : eqS dx dy = some b) : scal x y = true ∧ decide (x = y) = b := by
  unfold eqS at h
  split at h
  all_goals first
    | (cases h; rw [hx.int, hy.int]; exact ⟨rfl, by simp⟩)
    | (cases h; rw [hx.bl, hy.bl]; exact ⟨rfl, by simp⟩)
    | (cases h; rw [hx.str, hy.str]; exact ⟨rfl, by simp⟩)
    | (cases h; rw [hx.non, hy.non]; exact ⟨rfl, by simp⟩)
    | (cases h; rw [hx.non, hy.int]; exact ⟨rfl, by simp⟩)
    | (cases h; rw [hx.int, hy.non]; exact ⟨rfl, by simp⟩)
    | (cases h; rw [hx.non, hy.bl]; exact ⟨rfl, by simp⟩)
    | (cases h; rw [hx.bl, hy.non]; exact ⟨rfl, by simp⟩)
    | (cases h; rw [hx.non, hy.str]; exact ⟨rfl, by simp⟩)
    | (cases h; rw [hx.str, hy.non]; exact ⟨rfl, by simp⟩)
    | (cases h; rw [hx.int, hy.str]; exact ⟨rfl, by simp⟩)
    | (cases h; rw [hx.str, hy.int]; exact ⟨rfl, by simp⟩)
    | (cases h; rw [hx.bl, hy.str]; exact ⟨rfl, by simp⟩)
    | (cases h; rw [hx.str, hy.bl]; exact ⟨rfl, by simp⟩)
    | cases h
theorem od_eq : OpD K rEq (rdEq id) := by
  intro z As W H x y dx dy Φ Q w hx hy h q
  unfold rdEq at h
  split at h
  · rename_i b e
    obtain ⟨s, d⟩ := eqS_of hx hy e
    exact ⟨s, by rw [d]; exact q _ H _ As W ExtS.refl w (.d (.bl _)) h⟩
  · exact h.elim
theorem od_ne : OpD K rNe (rdEq not) := by
  intro z As W H x y dx dy Φ Q w hx hy h q
  unfold rdEq at h
  split at h
  · rename_i b e
    obtain ⟨s, d⟩ := eqS_of hx hy e
    exact ⟨s, by rw [d]; exact q _ H _ As W ExtS.refl w (.d (.bl _)) h⟩
  · exact h.elim
/-- items -/
def rdIxL : RD2 := fun x y W Φ => match x, y with
  | .lst xs, .int i => (match L2.atI xs i with
    | some d => Φ (.d d) W
    | none => False)
  | _, _ => False
theorem HasL.atI {N : Av} {H : Hp} {vs : List V} {xs : List Dv} {i : Int} {d : Dv} (h : HasL K N H vs xs) (e : L2.atI xs i = some d) : ∃ v, L2.atI vs i = some v ∧ Has K N H v d := by
  unfold L2.atI at e ⊢
  rw [h.length]
  cases r : ixN xs.length i with
  | none => rw [r] at e; cases e
  | some j =>
    rw [r] at e
    exact h.get e
theorem od_ixL : OpD K (rIxL K) rdIxL := by
  intro z As W H x y dx dy Φ Q w hx hy h q
  unfold rdIxL at h
  split at h
  · split at h
    · rename_i d e
      obtain ⟨a, vs, rfl, s, l⟩ := hx.lst
      obtain ⟨v, e1, hv⟩ := l.atI e
      exact ⟨a, vs, _, v, rfl, hy.int, s, e1, q v H _ As W ExtS.refl w (.d hv) h⟩
    · exact h.elim
  · exact h.elim
end
section
variable {X : Cx} {a b e : Expr} {ta tb te : TE} {wa wb : WB} {pos : Pos}
theorem d_op {op : Operator} {r : R2} {rd : RD2} (ho : OpR X (binaryOp op) r) (hd : OpD X.K r rd) (ha : PB X a ta wa) (hb : PB X b tb wb) : PD X (.BinOp a op b pos) (tOp r ta tb) (wOp rd wa wb) := ⟨pe_op ho ha.pe hb.pe, teo_op hd ha.ok hb.ok⟩
theorem d_ix {r : R2} {rd : RD2} (ho : IxR X r) (hd : OpD X.K r rd) (ha : PB X a ta wa) (hb : PB X b tb wb) (hs : PlainIx b) : PD X (.Subscript a b pos) (tOp r ta tb) (wOp rd wa wb) := ⟨pe_ix ho ha.pe hb.pe hs, teo_op hd ha.ok hb.ok⟩
end

/-! ### tests -/
abbrev wB (w : WE) : WT := fun σd W Φ => w σd W fun x W' => match x with
  | .d (.bl b) => Φ b W'
  | _ => False
abbrev wAnd (a b : WT) : WT := fun σd W Φ => a σd W fun c W1 => if c = true then b σd W1 Φ else Φ false W1
abbrev wOr (a b : WT) : WT := fun σd W Φ => a σd W fun c W1 => if c = true then Φ true W1 else b σd W1 Φ
abbrev wNot (a : WT) : WT := fun σd W Φ => a σd W fun c W1 => Φ (!c) W1
abbrev wIf (t : WT) (a b : WE) : WE := fun σd W Φ => t σd W fun c W1 => if c = true then a σd W1 Φ else b σd W1 Φ
section
variable {K : PySem.W.Frag} {ta tb te : TE} {wa wb we : WE} {tt tu : TT} {wt wu : WT}
theorem tto_B (h : TEok K te we) : TTok K (tB te) (wB we) := by
  intro z O As σd W σ H Φ Q r g q
  refine h _ _ r g fun v H' x As' W' e wl hv p => ?_
  split at p
  · exact ⟨_, hv.bl, q _ H' As' W' e wl p⟩
  · exact p.elim
theorem tto_test (h : TEok K te we) : TTok K (tTest te) (wB we) := tto_B h
theorem tto_and (h : TTok K tt wt) (h2 : TTok K tu wu) : TTok K (tAnd tt tu) (wAnd wt wu) := by
  intro z O As σd W σ H Φ Q r g q
  refine h _ _ r g fun b H1 As1 W1 e wl p => ?_
  cases b with
  | true =>
    rw [if_pos rfl] at p ⊢
    exact h2 _ _ (r.ext e wl) p fun b H' As' W' e2 wl2 p2 => q b H' As' W' (e.trans e2) wl2 p2
  | false =>
    rw [if_neg Bool.false_ne_true] at p ⊢
    exact q false H1 As1 W1 e wl p
theorem tto_or (h : TTok K tt wt) (h2 : TTok K tu wu) : TTok K (tOr tt tu) (wOr wt wu) := by
  intro z O As σd W σ H Φ Q r g q
  refine h _ _ r g fun b H1 As1 W1 e wl p => ?_
  cases b with
  | false =>
    rw [if_neg Bool.false_ne_true] at p ⊢
    exact h2 _ _ (r.ext e wl) p fun b H' As' W' e2 wl2 p2 => q b H' As' W' (e.trans e2) wl2 p2
  | true =>
    rw [if_pos rfl] at p ⊢
    exact q true H1 As1 W1 e wl p
theorem tto_not (h : TTok K tt wt) : TTok K (tNot tt) (wNot wt) := by
  intro z O As σd W σ H Φ Q r g q
  exact h _ _ r g fun b H1 As1 W1 e wl p => q (!b) H1 As1 W1 e wl p
theorem teo_if (h : TTok K tt wt) (ha : TEok K ta wa) (hb : TEok K tb wb) : TEok K (tIf tt ta tb) (wIf wt wa wb) := by
  intro z O As σd W σ H Φ Q r g q
  refine h _ _ r g fun b H1 As1 W1 e wl p => ?_
  cases b with
  | true =>
    rw [if_pos rfl] at p ⊢
    exact ha _ _ (r.ext e wl) p fun b H' x As' W' e2 wl2 p2 => q b H' x As' W' (e.trans e2) wl2 p2
  | false =>
    rw [if_neg Bool.false_ne_true] at p ⊢
    exact hb _ _ (r.ext e wl) p fun b H' x As' W' e2 wl2 p2 => q b H' x As' W' (e.trans e2) wl2 p2
end
section
variable {X : Cx} {a b c e : Expr} {ta tb te : TE} {wa wb we : WE} {tt tu : TT} {wt wu : WT} {pos : Pos} {rest : List Expr}
theorem t_cmp {op : CmpOp} {r : R2} {rd : RD2} {wa wb : WB} (ho : OpR X (compareOp op) r) (hd : OpD X.K r rd) (ha : PB X a ta wa) (hb : PB X b tb wb) (hm : behindInMarks op b = false) : PTD X (.Compare a [op] [b] pos) (tTest (tOp r ta tb)) (wB (wOp rd wa wb)) := ⟨pt_cmpR ho ha.pe hb.pe hm, tto_test (teo_op hd ha.ok hb.ok)⟩
theorem t_val (h : PD X e te we) (he : ∀ whole, isTrue e X.env whole = (do let v ← whole; standAt e.pos; holding [v] (truthy v)) := by intro _; rfl) : PTD X e (tB te) (wB we) := ⟨pt_val h.pe he, tto_B h.ok⟩
theorem t_not (h : PTD X e tt wt) : PTD X (.UnaryOp .Not e pos) (tNot tt) (wNot wt) := ⟨pt_not h.pt, tto_not h.ok⟩
theorem p_and1 (h : PTD X a tt wt) : PWD X (.BoolOp .And [a] pos) tt wt := ⟨pw_and1 h.pt, h.ok⟩
theorem p_or1 (h : PTD X a tt wt) : PWD X (.BoolOp .Or [a] pos) tt wt := ⟨pw_or1 h.pt, h.ok⟩
theorem p_and (h : PTD X a tt wt) (h2 : PWD X (.BoolOp .And (b :: rest) pos) tu wu) : PWD X (.BoolOp .And (a :: b :: rest) pos) (tAnd tt tu) (wAnd wt wu) := ⟨pw_and h.pt h2.pw, tto_and h.ok h2.ok⟩
theorem p_or (h : PTD X a tt wt) (h2 : PWD X (.BoolOp .Or (b :: rest) pos) tu wu) : PWD X (.BoolOp .Or (a :: b :: rest) pos) (tOr tt tu) (wOr wt wu) := ⟨pw_or h.pt h2.pw, tto_or h.ok h2.ok⟩
theorem t_bo (h : PWD X e tt wt) : PTD X e tt wt := ⟨h.pw.pt, h.ok⟩
theorem d_if (hc : PTD X c tt wt) (ha : PD X a ta wa) (hb : PD X b tb wb) : PD X (.IfExp c a b pos) (tIf tt ta tb) (wIf wt wa wb) := ⟨pe_ifExp hc.pt ha.pe hb.pe, teo_if hc.ok ha.ok hb.ok⟩
end

/-! ### arguments, displays -/
abbrev wNil : WA := fun _ W Φ => Φ [] W
abbrev wCons (wa : WE) (wr : WA) : WA := fun σd W Φ => wa σd W fun x W1 => wr σd W1 fun xs W2 => Φ (x :: xs) W2
abbrev wNilB : WAB := fun _ W Φ => Φ [] W
abbrev wConsB (wa : WB) (wr : WAB) : WAB := fun σd W Φ => wa σd W fun x W1 => wr σd W1 fun xs W2 => Φ (x :: xs) W2
/-- all of them data -/
def allD : List Sv → Option (List Dv)
  | [] => some []
  | .d x :: r => (allD r).map (x :: ·)
  | .box _ :: _ => none
theorem allD_eq : ∀ {xs : List Sv} {ds : List Dv}, allD xs = some ds → xs = ds.map Sv.d
  | [], _, h => by cases h; rfl
  | .d x :: r, _, h => by
    unfold allD at h
    cases q : allD r with
    | none => rw [q] at h; cases h
    | some ds =>
      rw [q] at h
      cases h
      rw [List.map_cons, ← allD_eq q]
  | .box _ :: _, _, h => by cases h
abbrev wTup (wa : WA) : WE := fun σd W Φ => wa σd W fun xs W1 => match allD xs with
  | some ds => ds.length ≤ 1000000 ∧ Φ (.d (.tup ds)) W1
  | none => False
abbrev wLst (wa : WA) : WF := fun σd W Φ => wa σd W fun xs W1 => match allD xs with
  | some ds => ds.length ≤ 1000000 ∧ Φ ds W1
  | none => False
/-- a new list as data -/
abbrev wFr (w : WF) : WE := fun σd W Φ => w σd W fun xs W1 => Φ (.d (.lst xs)) W1
section
variable {K : PySem.W.Frag} {ta : TE} {wa : WE} {tr : TA} {wr : WA}
theorem tao_nil : TAok K tNil wNil := fun Φ Q r h q => q [] _ [] _ _ ExtS.refl r.wld .nil h
theorem tao_cons (ha : TEok K ta wa) (hr : TAok K tr wr) : TAok K (tCons ta tr) (wCons wa wr) := by
  intro z O As σd W σ H Φ Q r g q
  refine ha _ _ r g fun v H1 x As1 W1 e wl hv p => ?_
  refine hr _ _ (r.ext e wl) p fun vs H2 xs As2 W2 e2 wl2 hvs p2 => ?_
  exact q _ H2 _ As2 W2 (e.trans e2) wl2 (.cons (hv.ext e2) hvs) p2
theorem tabo_nil : TABok K tNil wNilB := fun Φ Q r h q => q [] _ [] _ _ ExtS.refl r.wld .nil h
theorem tabo_cons {wa : WB} {wr : WAB} (ha : TBok K ta wa) (hr : TABok K tr wr) : TABok K (tCons ta tr) (wConsB wa wr) := by
  intro z O As σd W σ H Φ Q r g q
  refine ha _ _ r g fun v H1 x As1 W1 e wl hv p => ?_
  refine hr _ _ (r.ext e wl) p fun vs H2 xs As2 W2 e2 wl2 hvs p2 => ?_
  exact q _ H2 _ As2 W2 (e.trans e2) wl2 (.cons (hv.ext wl.zok e2) hvs) p2
theorem teo_tup (hr : TAok K tr wr) : TEok K (tTup tr) (wTup wr) := by
  intro z O As σd W σ H Φ Q r g q
  refine hr _ _ r g fun vs H1 xs As1 W1 e wl hvs p => ?_
  split at p
  · rename_i ds hd
    obtain rfl := allD_eq hd
    have hl := hvs.toL
    refine ⟨by rw [hl.length]; exact line_of p.1, fun t ht => ?_⟩
    exact q _ _ _ As1 W1 (e.trans (Ext.new ht)) (wl.new ht) (.d (.tup (.inl ⟨wl.fresh ht, .inl upd_same⟩) (hl.mv (Ext.mv (Ext.new ht))))) p.2
  · exact p.elim
theorem zk1 {z : Av} {As : List (List Addr)} {W : WS} {H : Hp} {p : Addr} {o : HO} (w : Wld K z As W H) (h : H p = none) : Wld K (z1 z p) As W (upd H p o) := by
  have e : Ext As H As (upd H p o) := Ext.new h
  have w' := w.new (o := o) h
  have mv : Mv (bad z As) H (bad (z1 z p) As) (upd H p o) := fun b u hb n => by
    refine ⟨(e.keep b u hb (fun f => n (.inl f)) fun f => f).1, fun q => ?_⟩
    rcases q with q | q | q
    · exact n (.inl q)
    · exact n (.inr q)
    · subst q
      rw [h] at hb
      cases hb
  have hv : ∀ {v : V} {x : Sv}, HasV K z As H v x → HasV K (z1 z p) As (upd H p o) v x := fun q => by
    cases q with
    | d q => exact .d (q.mv mv)
    | box q => exact .box q
  have hvl : ∀ {vs : List V} {xs : List Sv}, HasVL K z As H vs xs → HasVL K (z1 z p) As (upd H p o) vs xs := by
    intro vs xs q
    induction q with
    | nil => exact .nil
    | cons a _ ih => exact .cons (hv a) ih
  refine ⟨w'.len, fun j l u h1 h2 => ?_, w'.trk, w'.dis, ⟨fun a q => ?_, fun a q => ?_⟩⟩
  · have ne : ∀ a, a ∈ l → upd H p o a = H a := fun a m => upd_ne fun e' => by
      subst e'
      exact w.trk a ⟨l, List.mem_of_getElem? h1, m⟩ h
    have old := w.rep j l u h1 h2
    cases u with
    | lst xs =>
      obtain ⟨a, vs, rfl, q, r⟩ := old
      exact ⟨a, vs, rfl, by rw [ne a (List.Mem.head _)]; exact q, hvl r⟩
    | ins C ks ds =>
      obtain ⟨a, dx, vs, rfl, q, r, n⟩ := old
      exact ⟨a, dx, vs, rfl, by rw [ne a (List.Mem.head _)]; exact q, hvl r, n⟩
    | dic ks ds =>
      obtain ⟨a, vs, rfl, q, r, n⟩ := old
      exact ⟨a, vs, rfl, by rw [ne a (List.Mem.head _)]; exact q, hvl r, n⟩
    | obj k => exact k.st l H _ ne old
    | lck o_ vs_ ks ds =>
      obtain ⟨a, rfl, q, r, n⟩ := old
      exact ⟨a, rfl, by rw [ne a (List.Mem.head _)]; exact q, hvl r, n⟩
    | tupV xs =>
      obtain ⟨a, vs, rfl, q, r⟩ := old
      exact ⟨a, vs, rfl, by rw [ne a (List.Mem.head _)]; exact q, hvl r⟩
    | tab P q =>
      obtain ⟨rfl, old⟩ := old
      exact ⟨rfl, old.mv mv (ne P (List.Mem.head _))⟩
    | xo C ks ds =>
      obtain ⟨a, vs, rfl, q, r, n⟩ := old
      exact ⟨a, vs, rfl, q.mv mv (ne a (List.Mem.head _)), hvl r, n⟩
    | gone => trivial
  · rcases q with q | q
    · exact e.up a (w.zok.trk a q)
    · subst q
      rw [upd_same]
      exact fun x => by cases x
  · rcases q with q | q
    · exact w.zok.out a q
    · subst q
      exact fun f => w.trk a f h
theorem mv1 {z : Av} {As : List (List Addr)} {H : Hp} {p : Addr} {o : HO} (h : H p = none) : Mv (bad z As) H (bad (z1 z p) As) (upd H p o) := fun b u hb n => by
  refine ⟨by rw [upd_ne (ne_of_none hb h)]; exact hb, fun q => ?_⟩
  rcases q with q | q | q
  · exact n (.inl q)
  · exact n (.inr q)
  · subst q
    rw [h] at hb
    cases hb
theorem tfo_lst (hr : TAok K tr wr) : TFok K (tLst tr) (wLst wr) := by
  intro z O As σd W σ H Φ Q r g q
  refine hr _ _ r g fun vs H1 xs As1 W1 e wl hvs p => ?_
  split at p
  · rename_i ds hd
    obtain rfl := allD_eq hd
    have hl := hvs.toL
    refine ⟨by rw [hl.length]; exact line_of p.1, fun t ht => ?_⟩
    have h0 : H t = none := by
      cases k : H t with
      | none => rfl
      | some o => exact absurd ht (e.up t (by rw [k]; exact fun x => by cases x))
    exact q t _ vs ds As1 W1 h0 (e.trans (Ext.new ht)) (zk1 wl ht) upd_same (hl.mv (mv1 ht)) p.2
  · exact p.elim
/-- a new list as data -/
theorem teo_fr {t : TE} {w : WF} (h : TFok K t w) : TEok K t (wFr w) := by
  intro z O As σd W σ H Φ Q r g q
  refine h _ _ r g fun p H' vs xs As' W' hp e wl hl hx p2 => ?_
  have wk : ∀ a, zo z (owOf O) a → z1 (zo z (owOf O)) p a := fun a x => .inl x
  refine q (.ref p) H' _ As' W' e (wl.weak wk) (.d (.lst (.inl ⟨fun b => ?_, .inl hl⟩) (hx.mv (Mv.weak fun a b => b.imp id (wk a))))) p2
  rcases b with b | b
  · exact wl.zok.out p (.inr rfl) b
  · exact r.wld.zok.trk p b hp
end
section
variable {X : Cx} {e : Expr} {es : List Expr} {ta : TE} {wa : WE} {tr : TA} {wr : WA} {pos : Pos}
theorem a_nil : PAD X [] tNil wNil := ⟨pa_nil, tao_nil⟩
theorem a_cons (h : PD X e ta wa) (hr : PAD X es tr wr) (hs : starEach (e :: es) X.env = (false, eval e X.env) :: starEach es X.env := by rfl) : PAD X (e :: es) (tCons ta tr) (wCons wa wr) := ⟨pa_cons h.pe hr.pa hs, tao_cons h.ok hr.ok⟩
theorem b_nil : PAB X [] tNil wNilB := ⟨pa_nil, tabo_nil⟩
theorem b_cons {wa : WB} {wr : WAB} (h : PB X e ta wa) (hr : PAB X es tr wr) (hs : starEach (e :: es) X.env = (false, eval e X.env) :: starEach es X.env := by rfl) : PAB X (e :: es) (tCons ta tr) (wConsB wa wr) := ⟨pa_cons h.pe hr.pa hs, tabo_cons h.ok hr.ok⟩
theorem d_tup {x1 : _} (h : PAD X es tr wr) : PD X (.Tuple es x1 pos) (tTup tr) (wTup wr) := ⟨pe_tup h.pa, teo_tup h.ok⟩
theorem f_lst (h : PAD X es tr wr) : PF X (.List es pos) (tLst tr) (wLst wr) := ⟨pe_lst h.pa, tfo_lst h.ok⟩
theorem d_fr {t : TE} {w : WF} (h : PF X e t w) : PD X e t (wFr w) := ⟨h.pe, teo_fr h.ok⟩
end
end DL

namespace DL
open PySem L2

/-! ### built-in functions -/
def CallD (K : PySem.W.Frag) (r : List V → Hp → VK → Prop) (rc : RDC) : Prop := ∀ {z : Av} {As : List (List Addr)} {W : WS} {H : Hp} {vs : List V} {ds : List Dv} (Φ : Sv → WS → Prop) (Q : VK), Wld K z As W H → HasBL K z As H vs ds → rc ds W Φ → Nx K z As H Φ Q → r vs H Q
abbrev wCB (rc : RDC) (wa : WAB) : WE := fun σd W Φ => wa σd W fun ds W1 => rc ds W1 Φ
section
variable {K : PySem.W.Frag} {ta : TA} {wa : WAB}
theorem teo_cb {r : List V → Hp → VK → Prop} {rc : RDC} (hc : CallD K r rc) (ha : TABok K ta wa) : TEok K (tCB r ta) (wCB rc wa) := by
  intro z O As σd W σ H Φ Q r1 g q
  refine ha _ _ r1 g fun vs H1 ds As1 W1 e wl hv p => ?_
  exact hc Φ Q wl hv p fun v H' x As' W' e2 wl2 hv2 p2 => q v H' x As' W' (e.trans e2) wl2 hv2 p2
abbrev rcLen : RDC := fun ds W Φ => match ds with
  | [.lst xs] => Φ (.d (.int xs.length)) W
  | [.tup xs] => Φ (.d (.int xs.length)) W
  | [.str s] => s.length ≤ 1000000 ∧ Φ (.d (.int s.length)) W
  | _ => False
theorem cd_len : CallD K (fun xs H Q => ∃ x n, xs = [x] ∧ LenV K x H n ∧ Q (.int n) H) rcLen := by
  intro z As W H vs ds Φ Q wl hv h q
  unfold rcLen at h
  split at h
  · obtain ⟨v, rfl, h1⟩ := hv.one
    obtain ⟨a, us, rfl, s, l⟩ := h1.lst
    exact ⟨_, us.length, rfl, .inl ⟨us, s, rfl⟩, q _ H _ As W ExtS.refl wl (.d (by rw [l.length]; exact .int _)) h⟩
  · obtain ⟨v, rfl, h1⟩ := hv.one
    obtain ⟨a, us, rfl, s, l⟩ := h1.tup
    exact ⟨_, us.length, rfl, .inr ⟨us, s, rfl⟩, q _ H _ As W ExtS.refl wl (.d (by rw [l.length]; exact .int _)) h⟩
  · obtain ⟨v, rfl, h1⟩ := hv.one
    obtain rfl := h1.str
    exact ⟨_, _, rfl, ⟨line_of h.1, rfl⟩, q _ H _ As W ExtS.refl wl (.d (.int _)) h.2⟩
  · exact h.elim
abbrev rcInt : RDC := fun ds W Φ => match ds with
  | [.int i] => Φ (.d (.int i)) W
  | [.bl b] => Φ (.d (.int (if b then 1 else 0))) W
  | _ => False
theorem cd_int : CallD K (fun xs H Q => (∃ i, xs = [.int i] ∧ Q (.int i) H) ∨ ∃ k, xs = [.bl k] ∧ Q (.int (if k then 1 else 0)) H) rcInt := by
  intro z As W H vs ds Φ Q wl hv h q
  unfold rcInt at h
  split at h
  · obtain ⟨v, rfl, h1⟩ := hv.one
    obtain rfl := h1.int
    exact .inl ⟨_, rfl, q _ H _ As W ExtS.refl wl (.d (.int _)) h⟩
  · obtain ⟨v, rfl, h1⟩ := hv.one
    obtain rfl := h1.bl
    exact .inr ⟨_, rfl, q _ H _ As W ExtS.refl wl (.d (.int _)) h⟩
  · exact h.elim
abbrev rcAbs : RDC := fun ds W Φ => match ds with
  | [.int i] => Φ (.d (.int (if i < 0 then -i else i))) W
  | _ => False
theorem cd_abs : CallD K (fun xs H Q => ∃ i, xs = [.int i] ∧ Q (.int (if i < 0 then -i else i)) H) rcAbs := by
  intro z As W H vs ds Φ Q wl hv h q
  unfold rcAbs at h
  split at h
  · obtain ⟨v, rfl, h1⟩ := hv.one
    obtain rfl := h1.int
    exact ⟨_, rfl, q _ H _ As W ExtS.refl wl (.d (.int _)) h⟩
  · exact h.elim
abbrev rcI2 (g : Int → Int → Int) : RDC := fun ds W Φ => match ds with
  | [.int i, .int j] => Φ (.d (.int (g i j))) W
  | _ => False
def mx (i j : Int) : Int := if j > i then j else i
def mn (i j : Int) : Int := if j < i then j else i
theorem cd_max2 : CallD K (fun xs H Q => ∃ i j, xs = [.int i, .int j] ∧ Q (.int (if j > i then j else i)) H) (rcI2 mx) := by
  intro z As W H vs ds Φ Q wl hv h q
  unfold rcI2 at h
  split at h
  · obtain ⟨v, u, rfl, h1, h2⟩ := hv.two
    obtain rfl := h1.int
    obtain rfl := h2.int
    exact ⟨_, _, rfl, q _ H _ As W ExtS.refl wl (.d (.int _)) h⟩
  · exact h.elim
theorem cd_min2 : CallD K (fun xs H Q => ∃ i j, xs = [.int i, .int j] ∧ Q (.int (if j < i then j else i)) H) (rcI2 mn) := by
  intro z As W H vs ds Φ Q wl hv h q
  unfold rcI2 at h
  split at h
  · obtain ⟨v, u, rfl, h1, h2⟩ := hv.two
    obtain rfl := h1.int
    obtain rfl := h2.int
    exact ⟨_, _, rfl, q _ H _ As W ExtS.refl wl (.d (.int _)) h⟩
  · exact h.elim
end
section
variable {X : Cx} {x : Str} {p pos : Pos} {e : Expr} {es : List Expr} {t : TA} {wa : WAB} {r : List V → Hp → VK → Prop} {rc : RDC} {rf : RDF}
theorem d_callB {id : String} (hc : CallR X (.builtin id) r) (hd : CallD X.K r rc) (hg : Gl X x) (hm : X.mg x = none) (hv : bootBuiltins x = some (.builtin id)) (ha : PAB X (e :: es) t wa) (hn : x ≠ "__name__" := by decide) (hdb : (x == ("__debug__" : Str)) = false := by decide)
    (he : starEach (e :: es) X.env = (false, eval e X.env) :: starEach es X.env := by rfl) (hpl : (backTo pos (starEach es X.env)).any (·.1) = false := by rfl) : PD X (.Call (.Name x p) (e :: es) [] pos) (tCB r t) (wCB rc wa) := ⟨pe_callB hc hg hm hv ha.pa hn hdb he hpl, teo_cb hd ha.ok⟩
theorem d_callTy {T : String} (hc : CallR X (.type T) r) (hd : CallD X.K r rc) (hg : Gl X x) (hm : X.mg x = none) (hv : bootBuiltins x = some (.type T)) (ha : PAB X (e :: es) t wa) (hn : x ≠ "__name__" := by decide) (hdb : (x == ("__debug__" : Str)) = false := by decide)
    (he : starEach (e :: es) X.env = (false, eval e X.env) :: starEach es X.env := by rfl) (hpl : (backTo pos (starEach es X.env)).any (·.1) = false := by rfl) : PD X (.Call (.Name x p) (e :: es) [] pos) (tCB r t) (wCB rc wa) := ⟨pe_callTy hc hg hm hv ha.pa hn hdb he hpl, teo_cb hd ha.ok⟩
theorem d_bltn {u : Value} {v : V} (hg : Gl X x) (hm : X.mg x = none) (hv : bootBuiltins x = some u) (r : RelV v u) (hn : x ≠ "__name__" := by decide) (hdb : (x == ("__debug__" : Str)) = false := by decide) : PD X (.Name x pos) (tC v) (wC (.raw v)) := ⟨pe_bltn hg hm hv r hn hdb, teo_c fun _ _ => .raw v⟩
end

/-! ### own defs: a promise told in data -/
def spD (K : PySem.W.Frag) (wf : WFn) : Sp := fun vs H Q _ => ∃ (z : Av) (As : List (List Addr)) (W : WS) (xs : List Sv) (Φ : Sv → WS → Prop), Wld K z As W H ∧ HasVL K z As H vs xs ∧ wf xs W Φ ∧ Nx K z As H Φ Q
abbrev wCall (wf : WFn) (dd : List Dv) (wa : WA) : WE := fun σd W Φ => wa σd W fun xs W1 => wf (xs ++ dd.map Sv.d) W1 Φ
theorem teo_call {K : PySem.W.Frag} {wf : WFn} {dvs : List V} {dd : List Dv} {E : XK} {ta : TA} {wa : WA} (hd : Cn K dvs dd) (ha : TAok K ta wa) : TEok K (tCall (spD K wf) dvs E ta) (wCall wf dd wa) := by
  intro z O As σd W σ H Φ Q r g q
  refine ha _ _ r g fun vs H1 xs As1 W1 e wl hv p => ?_
  exact ⟨_, As1, W1, _, Φ, wl, hv.append (.ofL (hd _ _)), p, fun v H' x As' W' e2 wl2 hv2 p2 => q v H' x As' W' (e.trans e2) wl2 hv2 p2⟩
section
variable {X : Cx} {x : Str} {p pos : Pos} {e : Expr} {es : List Expr} {t : TA} {wa : WA} {wf : WFn} {f : Addr} {fd : FuncData} {ps : List Str} {k : Nat} {ds : List Value} {dvs : List V} {dd : List Dv}
theorem d_call (F : FnOk X.prog X.w X.K X.mg X.base CX0 k f fd ps (spD X.K wf)) (hr : Room k X.A) (hg : Gl X x) (hm : X.mg x = some (.ref f)) (hk : PySem.W.keepIn X.K (.ref f) = true) (hb : Binds X.K fd ps ds) (hd : Vals dvs ds) (hc : Cn X.K dvs dd)
    (ha : PAD X (e :: es) t wa) (hdb : (x == ("__debug__" : Str)) = false := by decide) (he : starEach (e :: es) X.env = (false, eval e X.env) :: starEach es X.env := by rfl) (hpl : (backTo pos (starEach es X.env)).any (·.1) = false := by rfl) :
    PD X (.Call (.Name x p) (e :: es) [] pos) (tCall (spD X.K wf) dvs E0 t) (wCall wf dd wa) := ⟨pe_call F hr hg hm hk hb hd pass0 ha.pa hdb he hpl, teo_call hc ha.ok⟩
end

def finD (Φ : Sv → WS → Prop) : DEnds := { nx := fun _ W => Φ (.d .non) W, rt := Φ }
def startD (N : List Str) (xs : List Sv) : DS := xs.map (fun x => some (.v x)) ++ List.replicate (N.length - xs.length) none
theorem rep_start {K : PySem.W.Frag} {z : Av} {As : List (List Addr)} {W : WS} {H : Hp} {N : List Str} {vs : List V} {xs : List Sv} (wl : Wld K z As W H) (hv : HasVL K z As H vs xs) : Rep K z (fun _ => none) As (startD N xs) W (L2.start N vs) H := by
  have zw : ∀ a, zo z (owOf fun _ => none) a → z a := fun a q => by
    rcases q with q | ⟨i, q⟩
    · exact q
    · cases q
  have hl := hv.length
  refine ⟨wl.weak zw, by unfold startD L2.start; simp [hl], fun i d e => ?_, fun i a q => (by cases q), fun i j a q => (by cases q), fun i a q => (by cases q)⟩
  unfold startD at e
  unfold L2.start
  by_cases hi : i < xs.length
  · rw [List.getElem?_append_left (by simpa using hi), List.getElem?_map] at e
    cases r : xs[i]? with
    | none => rw [r] at e; cases e
    | some x =>
      rw [r] at e
      cases e
      obtain ⟨v, h1, h2⟩ := hv.get r
      refine ⟨v, ?_, rfl, h2.weak zw⟩
      rw [List.getElem?_append_left (by simpa [hl] using hi), List.getElem?_map, h1]
      rfl
  · rw [List.getElem?_append_right (by simpa using Nat.le_of_not_lt hi), List.getElem?_replicate] at e
    split at e <;> cases e
section
variable {P : Program} {w : World} {K : PySem.W.Frag} {mg : Str → Option Value} {base : Heap}
theorem okD {x qual : Str} {st : Stmt} {f : Addr} {fd : FuncData} {N ps : List Str} {k : Nat} {wf : WFn} (F : Fun K x qual st f fd) (S : FnScope N ps (defScope st)) (hl : ∀ xs W Φ, wf xs W Φ → xs.length = ps.length)
    (body : ∀ (cdv : Value) (A : Around) (outer : List Env) (s : Shared) (H : Hp) (E : XK), Room k (A.deeper (PyProof.Rows.envOfC qual (defScope st) s.heap.objs.size f cdv)) →
      ∃ t wb, PDSs (cxOf CX0 P w K mg base N qual (defScope st) f cdv A outer s H E).nox (defBody st) t wb ∧ ∀ xs W Φ, wf xs W Φ → wb (finD Φ) (startD N xs) W) : FnOk P w K mg base CX0 (k + 1) f fd ps (spD K wf) := by
  refine F.ok S (fun vs H Q E h => ?_) (fun cdv A outer s H vs Q E hr h => ?_)
  · obtain ⟨z, As, W, xs, Φ, wl, hv, h, _⟩ := h
    rw [hv.length]
    exact hl _ _ _ h
  · obtain ⟨z, As, W, xs, Φ, wl, hv, h, q⟩ := h
    obtain ⟨t, wb, hp, hw⟩ := body cdv A outer s H E hr
    refine ⟨t, hp.ps, hp.ok _ _ (rep_start wl hv) (hw xs W Φ h) ?_⟩
    have ow : ∀ {As' : List (List Addr)} {ow' : Av} {H' : Hp}, ExtS As (owOf fun _ => none) H As' ow' H' → Ext As H As' H' := fun e =>
      ⟨fun b o h1 n1 _ => ⟨(e.keep b o h1 n1 fun ⟨i, q⟩ => by cases q).1, (e.keep b o h1 n1 fun ⟨i, q⟩ => by cases q).2.1, fun f => f⟩, e.at_, e.up⟩
    refine ⟨fun σd' W' O' As' σ' H' e r p => ?_, fun v x W' ow' As' H' e wl' hv' p => q v H' x As' W' (ow e) wl' hv' p, fun _ _ _ _ _ _ _ _ p => p.elim, fun _ _ _ _ _ _ _ _ p => p.elim⟩
    exact q .non H' (.d .non) As' W' (ow e) (r.wld.weak fun a q => .inl q) (.d .non) p
end

/-! ### statements -/
abbrev wSet (w : WE) (i : Nat) : WSt := fun Dd σd W => w σd W fun x W' => Dd.nx (σd.set i (some (.v x))) W'
abbrev wRet (w : WE) : WSt := fun Dd σd W => w σd W Dd.rt
def wSeq (a b : WSt) : WSt := fun Dd σd W => a { Dd with nx := b Dd } σd W
abbrev wNext : WSt := fun Dd σd W => Dd.nx σd W
def wIfS (t : WT) (a b : WSt) : WSt := fun Dd σd W => t σd W fun c W1 => if c = true then a Dd σd W1 else b Dd σd W1
def noO (O : Nat → Option Addr) (i : Nat) : Nat → Option Addr := fun j => if j = i then none else O j
section
variable {K : PySem.W.Frag} {z : Av} {O : Nat → Option Addr} {As As' : List (List Addr)} {σd : DS} {W W' : WS} {σ : St} {H H' : Hp}
theorem noO_sub {i : Nat} {a : Addr} (h : owOf (noO O i) a) : owOf O a := by
  obtain ⟨j, h⟩ := h
  unfold noO at h
  split at h
  · cases h
  · exact ⟨j, h⟩
theorem zo_sub {i : Nat} {a : Addr} (h : zo z (owOf (noO O i)) a) : zo z (owOf O) a := h.imp id noO_sub
theorem Rep.setV (r : Rep K z O As σd W σ H) (i : Nat) {v : V} {x : Sv} (h : HasV K (zo z (owOf O)) As H v x) : Rep K z (noO O i) As (σd.set i (some (.v x))) W (σ.set i (some v)) H := by
  refine ⟨r.wld.weak fun a => zo_sub, by rw [List.length_set, List.length_set]; exact r.len, fun j d e => ?_, fun j a q => ?_, fun j k a q1 q2 => ?_, fun j a q => ?_⟩
  · by_cases q : i = j
    · subst q
      rw [List.getElem?_set] at e ⊢
      simp only [if_true] at e ⊢
      by_cases l : i < σd.length
      · rw [if_pos l] at e
        rw [r.len, if_pos l]
        cases e
        exact ⟨v, rfl, by unfold noO; rw [if_pos rfl], h.weak fun a => zo_sub⟩
      · rw [if_neg l] at e
        cases e
    · rw [List.getElem?_set_ne q] at e ⊢
      obtain ⟨v', h1, h2⟩ := r.sl j d e
      refine ⟨v', h1, ?_⟩
      have : noO O i j = O j := by unfold noO; rw [if_neg (fun x => q x.symm)]
      rw [this]
      exact h2.weak fun a => zo_sub
  · unfold noO at q
    split at q
    · cases q
    · exact r.out j a q
  · unfold noO at q1 q2
    split at q1
    · cases q1
    · split at q2
      · cases q2
      · exact r.inj j k a q1 q2
  · unfold noO at q
    split at q
    · cases q
    · rename_i hj
      rw [List.getElem?_set_ne (fun x => hj x.symm)]
      exact r.oo j a q
theorem ext_noO {i : Nat} : ExtS As (owOf O) H As (owOf (noO O i)) H := ⟨fun b o h n m => ⟨h, n, fun q => m (noO_sub q)⟩, fun _ _ h => h, fun _ h => h⟩
end
section
variable {K : PySem.W.Frag} {te : TE} {we : WE} {t u : TS} {wt wu : WSt}
theorem tso_set {i : Nat} (h : TEok K te we) : TSok K (tAsg te (gName i)) (wSet we i) := by
  intro z O As σd W σ H Dd D r g q
  refine h _ _ r g fun v H' x As' W' e wl hv p => ?_
  exact q.nx _ W' (noO O i) As' _ H' (e.own.trans ext_noO) ((r.ext e wl).setV i hv) p
theorem tso_ret (h : TEok K te we) : TSok K (tRet te) (wRet we) := by
  intro z O As σd W σ H Dd D r g q
  refine h _ _ r g fun v H' x As' W' e wl hv p => ?_
  exact q.rt v x W' (owOf O) As' H' e.own (wl.weak fun a q => .inl q) (hv.weak fun a q => .inl q) p
theorem tso_seq (h : TSok K t wt) (h2 : TSok K u wu) : TSok K (tSeq t u) (wSeq wt wu) := by
  intro z O As σd W σ H Dd D r g q
  refine h (O := O) { Dd with nx := wu Dd } { D with nx := u D } r g ⟨fun σd' W' O' As' σ' H' e r' p => ?_, q.rt, q.bk, q.ct⟩
  exact h2 Dd D r' p (q.ext e)
theorem tso_next : TSok K tNext wNext := by
  intro z O As σd W σ H Dd D r g q
  exact q.nx _ W O As _ H ExtS.refl r g
theorem tso_if {tt : TT} {wc : WT} (hc : TTok K tt wc) (h : TSok K t wt) (h2 : TSok K u wu) : TSok K (tIfS tt t u) (wIfS wc wt wu) := by
  intro z O As σd W σ H Dd D r g q
  refine hc _ _ r g fun b H1 As1 W1 e wl p => ?_
  cases b with
  | true =>
    rw [if_pos rfl] at p ⊢
    exact h Dd D (r.ext e wl) p (q.ext e.own)
  | false =>
    rw [if_neg Bool.false_ne_true] at p ⊢
    exact h2 Dd D (r.ext e wl) p (q.ext e.own)
end
section
variable {X : Cx} {pos pos' : Pos} {e : Expr} {x : Str} {te : TE} {we : WE} {t u : TS} {wt wu : WSt} {st : Stmt} {rest : List Stmt}
theorem s_set {i : Nat} (hN : X.N.Nodup) (hi : X.N[i]? = some x) (hx : Loc X.env.scope x) (he : PD X e te we) (hs : swapsWith e (some (.Name x pos')) pos.line X.env = pure false := by rfl) (hf : X.fn x = true ∨ X.env.scope.names.lookup x = some .local := by first | exact .inl rfl | exact .inr rfl | assumption) :
    PDS X (.Assign [.Name x pos'] e pos) (tAsg te (gName i)) (wSet we i) := ⟨ps_set hN hi hx he.pe hs hf, tso_set he.ok⟩
theorem s_ret (he : PD X e te we) : PDS X (.Return (some e) pos) (tRet te) (wRet we) := ⟨ps_ret he.pe, tso_ret he.ok⟩
theorem ss_cons (h : PDS X st t wt) (h2 : PDSs X rest u wu) : PDSs X (st :: rest) (tSeq t u) (wSeq wt wu) := ⟨pss_cons h.ps h2.ps, tso_seq h.ok h2.ok⟩
theorem ss_one (h : PDS X st t wt) : PDSs X [st] t wt := ⟨pss_one h.ps, h.ok⟩
theorem ss_nil : PDSs X [] tNext wNext := ⟨pss_nil, tso_next⟩
theorem s_if {c : Expr} {a b : List Stmt} {tc : TT} {wc : WT} (hc : PTD X c tc wc) (ha : PDSs X a t wt) (hb : PDSs X b u wu) : PDS X (.If c a b pos) (tIfS tc t u) (wIfS wc wt wu) := ⟨ps_if hc.pt ha.ps hb.ps, tso_if hc.ok ha.ok hb.ok⟩
end
end DL

namespace DL
open PySem L2

/-! ### attributes -/
section
variable {K : PySem.W.Frag}
end
section
variable {K : PySem.W.Frag}
end

/-! ### properties, methods -/
section
variable {K : PySem.W.Frag}
end

/-! ### new instances -/
section
variable {K : PySem.W.Frag}
end
section
variable {X : Cx} {x f m : Str} {p pos apos pos' : Pos} {e o value : Expr} {es : List Expr} {t : TA} {wa : WA} {wf : WFn} {C fa pa g : Addr} {fd : FuncData} {ps : List Str} {k : Nat} {ds : List Value} {dvs : List V} {dd : List Dv} {te to : TE} {we wo : WE}
end
end DL

namespace DL
open PySem L2

/-! ### targets, loops -/
/-- the target's names stand at the places is -/
def TGok (K : PySem.W.Frag) (g : TG) (tgt : Tgt) (is : List Nat) : Prop := ∀ {z : Av} {O : Nat → Option Addr} {As : List (List Addr)} {σd σd' : DS} {W : WS} {σ : St} {H : Hp} {v : V} {x : Sv} (Q : St → Hp → Prop), Rep K z O As σd W σ H → HasV K (zo z (owOf O)) As H v x → tgt x σd = some σd' →
  (∀ O' σ', (∀ j, O' j = if j ∈ is then none else O j) → σ'.length = σ.length → (∀ j, j ∉ is → σ'[j]? = σ[j]?) → Rep K z O' As σd' W σ' H → Q σ' H) → g v σ H Q
structure PGD (X : Cx) (e : Expr) (g : TG) (tgt : Tgt) (is : List Nat) : Prop where
  pg : PG X e g
  ok : TGok X.K g tgt is
def tgN (i : Nat) : Tgt := fun x σ => some (σ.set i (some (.v x)))
theorem tgo_name {K : PySem.W.Frag} {i : Nat} : TGok K (gName i) (tgN i) [i] := by
  intro z O As σd σd' W σ H v x Q r h e q
  cases e
  refine q (noO O i) _ (fun j => ?_) (List.length_set ..) (fun j hj => List.getElem?_set_ne fun e => hj (List.mem_singleton.mpr e.symm)) (r.setV i h)
  unfold noO
  simp only [List.mem_singleton]
/-- a, b, .. = a tuple: the names' places -/
def setAll : List Nat → List Dv → DS → Option DS
  | [], [], σ => some σ
  | i :: is, x :: xs, σ => setAll is xs (σ.set i (some (.v (.d x))))
  | _, _, _ => none
def tgT (is : List Nat) : Tgt := fun x σ => match x with
  | .d (.tup xs) => setAll is xs σ
  | _ => none
def gNames : List Nat → TGs
  | [] => gNil
  | i :: is => gCons (gName i) (gNames is)
theorem tgo_names {K : PySem.W.Frag} : ∀ {is : List Nat} {z : Av} {O : Nat → Option Addr} {As : List (List Addr)} {σd σd' : DS} {W : WS} {σ : St} {H : Hp} {vs : List V} {xs : List Dv} (Q : St → Hp → Prop), Rep K z O As σd W σ H → HasL K (bad (zo z (owOf O)) As) H vs xs → setAll is xs σd = some σd' →
    (∀ O' σ', (∀ j, O' j = if j ∈ is then none else O j) → σ'.length = σ.length → (∀ j, j ∉ is → σ'[j]? = σ[j]?) → Rep K z O' As σd' W σ' H → Q σ' H) → gNames is vs σ H Q
  | [], z, O, As, σd, σd', W, σ, H, _, _, Q, r, h, e, q => by
    cases h with
    | nil =>
      cases e
      exact ⟨rfl, q O σ (fun j => by simp) rfl (fun _ _ => rfl) r⟩
    | cons a b => cases e
  | i :: is, z, O, As, σd, σd', W, σ, H, _, _, Q, r, h, e, q => by
    cases h with
    | nil => cases e
    | cons a b =>
      refine ⟨_, _, rfl, ?_⟩
      refine tgo_names (O := noO O i) Q (r.setV i (.d a)) (b.mv (Mv.weak fun a q => q.imp id zo_sub)) e fun O' σ' s l k r' => q O' σ' (fun j => ?_) (l.trans (List.length_set ..)) (fun j hj => ?_) r'
      · rw [s j]
        unfold noO
        by_cases h1 : j ∈ is
        · rw [if_pos h1, if_pos (List.mem_cons_of_mem _ h1)]
        · rw [if_neg h1]
          by_cases h2 : j = i
          · rw [if_pos h2, if_pos (h2 ▸ List.mem_cons_self)]
          · rw [if_neg h2, if_neg (fun h => (List.mem_cons.mp h).elim h2 h1)]
      · rw [k j fun h => hj (List.mem_cons_of_mem _ h), List.getElem?_set_ne (fun (e : i = j) => hj (by rw [← e]; exact List.mem_cons_self))]
theorem tgo_tup {K : PySem.W.Frag} {is : List Nat} : TGok K (gTup K is.length (gNames is)) (tgT is) is := by
  intro z O As σd σd' W σ H v x Q r h e q
  unfold tgT at e
  split at e
  · rename_i xs
    cases h with
    | d h =>
      cases h with
      | tup s l =>
        have n : ∀ {is : List Nat} {xs : List Dv} {σ σ' : DS}, setAll is xs σ = some σ' → xs.length = is.length := by
          intro is
          induction is with
          | nil => intro xs σ σ' h; cases xs with | nil => rfl | cons _ _ => cases h
          | cons i is ih => intro xs σ σ' h; cases xs with | nil => cases h | cons _ _ => exact congrArg (· + 1) (ih h)
        exact ⟨_, _, rfl, s.t, by rw [l.length, n e], tgo_names Q r l e q⟩
  · cases e
def wLoop (tgt : Tgt) (wb : WSt) : List Sv → WSt
  | [], Dd, σ, W => Dd.nx σ W
  | x :: xs, Dd, σ, W => match tgt x σ with
    | some σ' => wb { Dd with nx := wLoop tgt wb xs Dd, ct := wLoop tgt wb xs Dd, bk := Dd.nx } σ' W
    | none => False
/-- between two turns -/
def Btw (K : PySem.W.Frag) (z : Av) (As0 : List (List Addr)) (ow0 : Av) (H0 : Hp) (w : DS → WS → Prop) (σ : St) (H : Hp) : Prop := ∃ O As σd W, ExtS As0 ow0 H0 As (owOf O) H ∧ Rep K z O As σd W σ H ∧ w σd W
section
variable {K : PySem.W.Frag} {z : Av} {As0 : List (List Addr)} {ow0 : Av} {H0 : Hp} {g : TG} {tgt : Tgt} {is : List Nat} {tb : TS} {wb : WSt}
theorem loop_turn (hg : TGok K g tgt is) (hb : TSok K tb wb) {Dd : DEnds} {D : Ends} (q : EndsOk K z As0 ow0 H0 Dd D) {x : Sv} {xs : List Sv} {v : V} {σ : St} {H : Hp} {O : Nat → Option Addr} {As : List (List Addr)} {σd : DS} {W : WS}
    (e : ExtS As0 ow0 H0 As (owOf O) H) (r : Rep K z O As σd W σ H) (hv : HasV K (zo z (owOf O)) As H v x) (p : wLoop tgt wb (x :: xs) Dd σd W) {N : St → Hp → Prop}
    (hN : ∀ σ' H', Btw K z As0 ow0 H0 (wLoop tgt wb xs Dd) σ' H' → N σ' H') : g v σ H fun σ2 H2 => tb { D with nx := N, ct := N, bk := D.nx } σ2 H2 := by
  unfold wLoop at p
  split at p
  · rename_i σ' et
    refine hg _ r hv et fun O' σ2 s _ _ r2 => ?_
    have e2 : ExtS As0 ow0 H0 As (owOf O') H := e.trans ⟨fun b o h n m => ⟨h, n, fun ⟨j, f⟩ => m ⟨j, by rw [s j] at f; split at f <;> first | cases f | exact f⟩⟩, fun _ _ h => h, fun _ h => h⟩
    refine hb _ { D with nx := N, ct := N, bk := D.nx } r2 p ⟨fun σd' W' O3 As3 σ3 H3 e3 r3 p3 => ?_, (q.ext e2).rt, (q.ext e2).nx, fun σd' W' O3 As3 σ3 H3 e3 r3 p3 => ?_⟩
    · exact hN σ3 H3 ⟨O3, As3, σd', W', e2.trans e3, r3, p3⟩
    · exact hN σ3 H3 ⟨O3, As3, σd', W', e2.trans e3, r3, p3⟩
  · exact p.elim
end
/-! ### what is walked -/
/-- J walks the items: stable while data stand -/
structure Wk (K : PySem.W.Frag) (N : Av) (H : Hp) (J : It) (items : List Dv) : Prop where
  go : ∀ N' H' i, Mv N H N' H' → i < items.length → J.go i H'
  stop : ∀ N' H', Mv N H N' H' → J.stop items.length H'
  yld : ∀ N' H' i x H2, Mv N H N' H' → i < items.length → J.yld i H' x H2 → ∃ d, items[i]? = some d ∧
    ((H2 = H' ∧ Has K N' H' x d) ∨ ∃ T ys ds, H' T = none ∧ H2 = upd H' T (.tup ys) ∧ x = .ref T ∧ d = .tup ds ∧ HasL K N' H' ys ds)
def TIok (K : PySem.W.Frag) (wi : TI) (w : WI) : Prop := ∀ {z : Av} {O : Nat → Option Addr} {As : List (List Addr)} {σd : DS} {W : WS} {σ : St} {H : Hp} (Φ : List Dv → WS → Prop) (R : It → Hp → Prop), Rep K z O As σd W σ H → w σd W Φ →
  (∀ J H' xs As' W', Ext As H As' H' → Wld K (zo z (owOf O)) As' W' H' → Wk K (bad (zo z (owOf O)) As') H' J xs → Φ xs W' → R J H') → wi σ H R
structure PID (X : Cx) (tg iter : Expr) (wi : TI) (w : WI) : Prop where
  pi : PI X tg iter wi
  ok : TIok X.K wi w
def rangeD (lo : Int) (n : Nat) : List Dv := (List.range n).map fun k => .int (lo + (k : Nat))
def wiR1 (wa : WAB) : WI := fun σd W Φ => wa σd W fun xs W1 => match xs with
  | [.int n] => (-4611686018427387904 ≤ n ∧ n < 4611686018427387904) ∧ Φ (rangeD 0 n.toNat) W1
  | _ => False
def wiL (we : WE) : WI := fun σd W Φ => we σd W fun x W1 => match x with
  | .d (.lst xs) => Φ xs W1
  | _ => False
section
variable {K : PySem.W.Frag}
theorem wk_range {N : Av} {H : Hp} {lo : Int} {n : Nat} : Wk K N H (Itr lo n) (rangeD lo n) := by
  have hl : (rangeD lo n).length = n := by unfold rangeD; rw [List.length_map, List.length_range]
  refine ⟨fun N' H' i _ h => by rw [hl] at h; exact h, fun N' H' _ => by rw [hl]; exact Nat.le_refl n, fun N' H' i x H2 _ h y => ?_⟩
  rw [hl] at h
  obtain ⟨e, y⟩ := y
  refine ⟨.int (lo + (i : Nat)), ?_, .inl ⟨e, by rw [y]; exact .int _⟩⟩
  unfold rangeD
  rw [List.getElem?_map, List.getElem?_range h]
  rfl
theorem wk_list {N : Av} {H : Hp} {a : Addr} {vs : List V} {xs : List Dv} (s : Sq K N H a vs) (l : HasL K N H vs xs) : Wk K N H (Itl K a) xs := by
  refine ⟨fun N' H' i m h => ?_, fun N' H' m => ⟨vs, (s.mv m).l, by rw [l.length]; exact Nat.le_refl _⟩, fun N' H' i x H2 m h y => ?_⟩
  · have h' : i < vs.length := by rw [l.length]; exact h
    exact ⟨vs, vs[i], (s.mv m).l, List.getElem?_eq_getElem h'⟩
  · obtain ⟨e, y⟩ := y
    obtain ⟨d, h1, h2⟩ := (l.mv m).get' (y vs (s.mv m).l)
    exact ⟨d, h1, .inl ⟨e, h2⟩⟩
theorem tio_R1 {ta : TA} {wa : WAB} (ha : TABok K ta wa) : TIok K (iRng1 ta) (wiR1 wa) := by
  intro z O As σd W σ H Φ R r h q
  refine ha _ _ r h fun vs H1 xs As1 W1 e wl hv p => ?_
  split at p
  · rename_i n
    obtain ⟨v, rfl, h1⟩ := hv.one
    obtain rfl := h1.int
    exact ⟨n, rfl, by have := p.1.1; omega, by have := p.1.2; omega, q _ H1 _ As1 W1 e wl wk_range p.2⟩
  · exact p.elim
theorem tio_L {te : TE} {we : WE} (he : TEok K te we) : TIok K (iList K te) (wiL we) := by
  intro z O As σd W σ H Φ R r h q
  refine he _ _ r h fun v H1 x As1 W1 e wl hv p => ?_
  split at p
  · cases hv with
    | d hv =>
      cases hv with
      | @lst a vs _ s l => exact ⟨a, rfl, ⟨vs, s.l⟩, q _ H1 _ As1 W1 e wl (wk_list s l) p⟩
  · exact p.elim
theorem map_drop {xs : List Dv} {i : Nat} {d : Dv} (h : xs[i]? = some d) : (xs.map Sv.d).drop i = Sv.d d :: (xs.map Sv.d).drop (i + 1) := by
  have hl : i < (xs.map Sv.d).length := by simpa using (List.getElem?_eq_some_iff.mp h).1
  rw [List.drop_eq_getElem_cons hl]
  simp [(List.getElem?_eq_some_iff.mp h).2]
def wFor (tgt : Tgt) (wi : WI) (wb : WSt) : WSt := fun Dd σd W => wi σd W fun xs W1 => wLoop tgt wb (xs.map Sv.d) Dd σd W1
theorem yld_ok {z : Av} {O : Nat → Option Addr} {As : List (List Addr)} {σd : DS} {W : WS} {σ : St} {H H2 : Hp} {x : V} {d : Dv} (r : Rep K z O As σd W σ H) (h : (H2 = H ∧ Has K (bad (zo z (owOf O)) As) H x d) ∨ ∃ T ys ds, H T = none ∧ H2 = upd H T (.tup ys) ∧ x = .ref T ∧ d = .tup ds ∧ HasL K (bad (zo z (owOf O)) As) H ys ds) :
    Rep K z O As σd W σ H2 ∧ Ext As H As H2 ∧ HasV K (zo z (owOf O)) As H2 x (.d d) := by
  rcases h with ⟨rfl, h⟩ | ⟨T, ys, ds, hT, rfl, rfl, rfl, h⟩
  · exact ⟨r, ExtS.refl, .d h⟩
  · have e : Ext As H As (upd H T (.tup ys)) := Ext.new hT
    exact ⟨r.ext e (r.wld.new hT), e, .d (.tup (.inl ⟨r.wld.fresh hT, .inl upd_same⟩) (h.mv e.mv))⟩
variable {g : TG} {tgt : Tgt} {is : List Nat} {tb : TS} {wb : WSt}
theorem tso_for {wi : TI} {w : WI} (hi : TIok K wi w) (hg : TGok K g tgt is) (hb : TSok K tb wb) : TSok K (tFor wi g tb) (wFor tgt w wb) := by
  intro z O As σd W σ H Dd D r h q
  refine hi _ _ r h fun J H1 xs As1 W1 e wl hw p => ?_
  have r1 := r.ext e wl
  have q1 := q.ext e.own
  refine ⟨fun i m σ' H' => m = xs.length - i ∧ i ≤ xs.length ∧ Btw K z As1 (owOf O) H1 (wLoop tgt wb ((xs.map Sv.d).drop i) Dd) σ' H', ⟨xs.length, by simp, Nat.zero_le _, O, As1, σd, W1, ExtS.refl, r1, p⟩, fun i m σ' H' ⟨hm, hle, O', As', σd', W', e', r', p'⟩ => ?_⟩
  subst hm
  have mv : Mv (bad (zo z (owOf O)) As1) H1 (bad (zo z (owOf O')) As') H' := e'.mv
  by_cases hlt : i < xs.length
  · refine .inr ⟨hw.go _ _ _ mv hlt, Btw K z As1 (owOf O) H1 (wLoop tgt wb ((xs.map Sv.d).drop (i + 1)) Dd), fun σ2 H2 b => ⟨_, by omega, rfl, hlt, b⟩, fun x H2 y => ?_⟩
    obtain ⟨d, ed, hd⟩ := hw.yld _ _ _ _ _ mv hlt y
    obtain ⟨r2, e2, hv⟩ := yld_ok r' hd
    rw [map_drop ed] at p'
    exact loop_turn hg hb q1 (e'.trans e2.own) r2 hv p' fun _ _ h => h
  · have he : i = xs.length := by omega
    subst he
    refine .inl ⟨hw.stop _ _ mv, ?_⟩
    rw [List.drop_eq_nil_of_le (by rw [List.length_map]; exact Nat.le_refl _)] at p'
    exact q1.nx _ W' O' As' _ H' e' r' p'
end

/-! ### a, b = e1, e2; x += e -/
abbrev wPar (i j : Nat) (wa : WA) : WSt := fun Dd σd W => wa σd W fun xs W1 => match xs with
  | [x, y] => Dd.nx ((σd.set i (some (.v x))).set j (some (.v y))) W1
  | _ => False
section
variable {K : PySem.W.Frag}
theorem tso_par {i j : Nat} {ta : TA} {wa : WA} (ha : TAok K ta wa) : TSok K (tPar i j ta) (wPar i j wa) := by
  intro z O As σd W σ H Dd D r h q
  refine ha _ _ r h fun vs H1 xs As1 W1 e wl hv p => ?_
  split at p
  · cases hv with
    | cons a b =>
      cases b with
      | cons b c =>
        cases c
        refine ⟨_, _, rfl, q.nx _ W1 (noO (noO O i) j) As1 _ H1 ((e.own.trans ext_noO).trans ext_noO) (((r.ext e wl).setV i a).setV j (b.weak fun a => zo_sub)) p⟩
  · exact p.elim
end
section
variable {X : Cx} {pos p : Pos} {x y : Str} {a b e tg iter c : Expr} {body : List Stmt} {ta : TA} {wa : WA} {te : TE} {we : WE} {g : TG} {tgt : Tgt} {is : List Nat} {tb : TS} {wb : WSt}
theorem g_name {i : Nat} (hN : X.N.Nodup) (hi : X.N[i]? = some x) (hx : Loc X.env.scope x) (hf : X.fn x = true ∨ X.env.scope.names.lookup x = some .local := by first | exact .inl rfl | exact .inr rfl | assumption) : PGD X (.Name x pos) (gName i) (tgN i) [i] := ⟨pg_name hN hi hx hf, tgo_name⟩
theorem g_tup {es : List Expr} {k : _} (is : List Nat) (h : PG X (.Tuple es k pos) (gTup X.K is.length (gNames is))) : PGD X (.Tuple es k pos) (gTup X.K is.length (gNames is)) (tgT is) is := ⟨h, tgo_tup⟩
theorem i_R1 {wa : WAB} (hg : Gl X "range") (hm : X.mg "range" = none) (ha : PAB X [a] ta wa) (hs : starEach [a] X.env = [(false, eval a X.env)] := by rfl) : PID X tg (.Call (.Name "range" p) [a] [] pos) (iRng1 ta) (wiR1 wa) := ⟨pi_range1 hg hm ha.pa hs, tio_R1 ha.ok⟩
theorem i_L (he : PD X e te we) : PID X tg e (iList X.K te) (wiL we) := ⟨pi_list he.pe, tio_L he.ok⟩
theorem s_for {wi : TI} {w : WI} (hp : PassesOwn (model X.prog X.w) X.A X.env X.xe) (hc : X.calm = true) (hi : PID X tg iter wi w) (ht : PGD X tg g tgt is) (hb : PDSs X body tb wb) (hs : ∀ x, foldedSetIterable iter X.env x = pure x := by intro _; rfl) :
    PDS X (.For tg iter body [] pos) (tFor wi g tb) (wFor tgt w wb) := ⟨ps_for hp hc hi.pi ht.pg hb.ps hs, tso_for hi.ok ht.ok hb.ok⟩
theorem s_par {i j : Nat} {px py pt : Pos} {kt k2 pt2} (hc : X.calm = true) (hN : X.N.Nodup) (hi : X.N[i]? = some x) (hj : X.N[j]? = some y) (hij : i ≠ j)
    (hx : X.env.scope.names.lookup x = some .local) (hy : X.env.scope.names.lookup y = some .local) (ha : PAD X [a, b] ta wa)
    (hw : swappedStores [.Tuple [.Name x px, .Name y py] kt pt] (.Tuple [a, b] k2 pt2) X.env = pure (some [x, y]))
    (hs : swapsWithSole [.Tuple [.Name x px, .Name y py] kt pt] (.Tuple [a, b] k2 pt2) pos.line X.env = pure false := by rfl) :
    PDS X (.Assign [.Tuple [.Name x px, .Name y py] kt pt] (.Tuple [a, b] k2 pt2) pos) (tPar i j ta) (wPar i j wa) := ⟨ps_par hc hN hi hj hij hx hy ha.pa hw hs, tso_par ha.ok⟩
end
end DL

namespace DL
open PySem L2

/-! ### comprehensions -/
def wLcL (tgt : Tgt) (wt : WT) (we : WE) (vs : List Nat) (σ : DS) : List Dv → List Dv → WS → (List Dv → WS → Prop) → Prop
  | [], acc, W, Φ => Φ acc W
  | x :: xs, acc, W, Φ => match tgt (.d x) (wipeD σ vs) with
    | some σ2 => wt σ2 W fun b W1 => if b = true then we σ2 W1 fun y W2 => (match y with
      | .d y => wLcL tgt wt we vs σ xs (acc ++ [y]) W2 Φ
      | .box _ => False) else wLcL tgt wt we vs σ xs acc W1 Φ
    | none => False
def wLc (wi : WI) (tgt : Tgt) (wt : WT) (we : WE) (vs : List Nat) : WF := fun σd W Φ => wi σd W fun xs W1 => (vs.all (fun i => notOwn (slot σd i)) = true ∧ xs.length ≤ 1000000) ∧ wLcL tgt wt we vs σd xs [] W1 Φ
def wYes : WT := fun _ W Φ => Φ true W
section
variable {K : PySem.W.Frag}
theorem tto_yes : TTok K tYes wYes := fun Φ Q r g q => q true _ _ _ ExtS.refl r.wld g
theorem wipe_back {σ σ2 : St} {vs is : List Nat} (hl : σ2.length = (wipe σ vs).length) (k : ∀ j, j ∉ is → σ2[j]? = (wipe σ vs)[j]?) (hs : ∀ i, i ∈ is → i ∈ vs) : wipe σ2 vs = wipe σ vs := by
  apply List.ext_getElem?
  intro j
  rw [wipe_get, wipe_get]
  rw [wipe_length] at hl
  by_cases m : j ∈ vs
  · rw [if_pos m, if_pos m]
    by_cases l : j < σ.length
    · rw [List.getElem?_eq_getElem l, List.getElem?_eq_getElem (by rw [hl]; exact l)]
      rfl
    · rw [List.getElem?_eq_none (Nat.le_of_not_lt l), List.getElem?_eq_none (by rw [hl]; exact Nat.le_of_not_lt l)]
  · rw [if_neg m, if_neg m, k j fun q => m (hs j q), wipe_get, if_neg m]
/-- the list at D grows: all else stands -/
theorem grow_at {z : Av} {As : List (List Addr)} {W : WS} {H : Hp} {D : Addr} {o : HO} (w : Wld K z As W H) (hz : z D) : Wld K z As W (upd H D o) ∧ Mv (bad z As) H (bad z As) (upd H D o) := by
  have up : ∀ a, H a ≠ none → upd H D o a ≠ none := fun a q => by
    unfold upd
    split
    · exact fun x => by cases x
    · exact q
  have mv : Mv (bad z As) H (bad z As) (upd H D o) := fun b u hb n => ⟨by rw [upd_ne (fun (e : b = D) => n (.inr (by rw [e]; exact hz)))]; exact hb, n⟩
  have hv : ∀ {v : V} {x : Sv}, HasV K z As H v x → HasV K z As (upd H D o) v x := fun q => by
    cases q with
    | d q => exact .d (q.mv mv)
    | box q => exact .box q
  have hvl : ∀ {vs : List V} {xs : List Sv}, HasVL K z As H vs xs → HasVL K z As (upd H D o) vs xs := by
    intro vs xs q
    induction q with
    | nil => exact .nil
    | cons a _ ih => exact .cons (hv a) ih
  refine ⟨⟨w.len, fun j l u h1 h2 => ?_, fun a q => up a (w.trk a q), w.dis, ⟨fun a q => up a (w.zok.trk a q), w.zok.out⟩⟩, mv⟩
  have ne : ∀ a, a ∈ l → upd H D o a = H a := fun a m => upd_ne fun e => by
    subst e
    exact w.zok.out a hz ⟨l, List.mem_of_getElem? h1, m⟩
  have old := w.rep j l u h1 h2
  cases u with
  | lst xs =>
    obtain ⟨a, vs, rfl, q, r⟩ := old
    exact ⟨a, vs, rfl, by rw [ne a (List.Mem.head _)]; exact q, hvl r⟩
  | ins C ks ds =>
    obtain ⟨a, dx, vs, rfl, q, r, n⟩ := old
    exact ⟨a, dx, vs, rfl, by rw [ne a (List.Mem.head _)]; exact q, hvl r, n⟩
  | dic ks ds =>
    obtain ⟨a, vs, rfl, q, r, n⟩ := old
    exact ⟨a, vs, rfl, by rw [ne a (List.Mem.head _)]; exact q, hvl r, n⟩
  | obj k => exact k.st l H _ ne old
  | lck o_ vs_ ks ds =>
    obtain ⟨a, rfl, q, r, n⟩ := old
    exact ⟨a, rfl, by rw [ne a (List.Mem.head _)]; exact q, hvl r, n⟩
  | tupV xs =>
    obtain ⟨a, vs, rfl, q, r⟩ := old
    exact ⟨a, vs, rfl, by rw [ne a (List.Mem.head _)]; exact q, hvl r⟩
  | tab P q =>
    obtain ⟨rfl, old⟩ := old
    exact ⟨rfl, old.mv mv (ne P (List.Mem.head _))⟩
  | xo C ks ds =>
    obtain ⟨a, vs, rfl, q, r, n⟩ := old
    exact ⟨a, vs, rfl, q.mv mv (ne a (List.Mem.head _)), hvl r, n⟩
  | gone => trivial
theorem ext_mut {As As' : List (List Addr)} {H H' : Hp} {D : Addr} {o : HO} (hD : H D = none) (e : Ext As H As' H') : Ext As H As' (upd H' D o) :=
  ⟨fun b u hb n m => ⟨by rw [upd_ne (ne_of_none hb hD)]; exact (e.keep b u hb n m).1, (e.keep b u hb n m).2⟩, e.at_, fun a q => by
    unfold upd
    split
    · exact fun x => by cases x
    · exact e.up a q⟩
theorem tfo_lc {wi : TI} {w : WI} {g : TG} {tgt : Tgt} {is : List Nat} {tt : TT} {wt : WT} {te : TE} {we : WE} {vs : List Nat} (hi : TIok K wi w) (hg : TGok K g tgt is) (ht : TTok K tt wt) (he : TEok K te we) (hs : ∀ i, i ∈ is → i ∈ vs) :
    TFok K (tLc wi g tt te vs) (wLc w tgt wt we vs) := by
  intro z O As σd W σ H Φ Q r h q
  refine hi _ _ r h fun J H1 xs As1 W1 e wl hw p => ?_
  obtain ⟨⟨hno, hlen⟩, p⟩ := p
  have r1 := r.ext e wl
  intro D hD
  have hD0 := up_none e hD
  -- at turn i
  let Tn : Nat → Hp → Prop := fun i H' => ∃ As' W' us acc, Ext As1 H1 As' H' ∧ Wld K (z1 (zo z (owOf O)) D) As' W' H' ∧ H' D = some (.lst us) ∧ HasL K (bad (z1 (zo z (owOf O)) D) As') H' us acc ∧ us.length ≤ i ∧ wLcL tgt wt we vs σd (xs.drop i) acc W' Φ
  have start : Tn 0 (upd H1 D (.lst [])) := ⟨As1, W1, [], [], Ext.new hD, zk1 wl hD, upd_same, .nil, Nat.le_refl _, p⟩
  refine ⟨fun i m H' => m = xs.length - i ∧ i ≤ xs.length ∧ Tn i H', ⟨xs.length, by simp, Nat.zero_le _, start⟩, fun i m H' ⟨hm, hle, As', W', us, acc, e', wl', hl, ha, hn, p'⟩ => ?_⟩
  subst hm
  have zD : zo (z1 z D) (owOf O) D := .inl (.inr rfl)
  have sub1 : ∀ a, zo (z1 z D) (owOf O) a → z1 (zo z (owOf O)) D a := fun a q => by
    rcases q with (q | q) | q
    · exact .inl (.inl q)
    · exact .inr q
    · exact .inl (.inr q)
  have sub2 : ∀ a, z1 (zo z (owOf O)) D a → zo (z1 z D) (owOf O) a := fun a q => by
    rcases q with (q | q) | q
    · exact .inl (.inl q)
    · exact .inr q
    · exact .inl (.inr q)
  have mv : Mv (bad (zo z (owOf O)) As1) H1 (bad (zo (z1 z D) (owOf O)) As') H' := fun b o hb n => by
    obtain ⟨h1, h2, _⟩ := e'.keep b o hb (fun f => n (.inl f)) fun f => f
    refine ⟨h1, fun q => ?_⟩
    rcases q with q | (q | q) | q
    · exact h2 q
    · exact n (.inr (.inl q))
    · subst q
      rw [hD] at hb
      cases hb
    · exact n (.inr (.inr q))
  by_cases hlt : i < xs.length
  · refine .inr ⟨hw.go _ _ _ mv hlt, Tn (i + 1), fun H2 t => ⟨_, by omega, rfl, hlt, t⟩, fun x H2 y => ?_⟩
    obtain ⟨d, ed, hd⟩ := hw.yld _ _ _ _ _ mv hlt y
    obtain ⟨r', on⟩ := r1.under hD e' wl' hno
    obtain ⟨r2, e2, hv⟩ := yld_ok r' hd
    have hdrop : xs.drop i = d :: xs.drop (i + 1) := by
      rw [List.drop_eq_getElem_cons hlt]
      rw [List.getElem?_eq_getElem hlt] at ed
      rw [Option.some.inj ed]
    rw [hdrop] at p'
    unfold wLcL at p'
    split at p'
    · rename_i σ2d et
      refine hg _ r2 hv et fun O' σ2 hO l2 k2 r3 => ⟨wipe_back l2 k2 hs, ?_⟩
      have eO : O' = O := funext fun j => by
        rw [hO j]
        split
        · rename_i hj
          exact (on j (hs j hj)).symm
        · rfl
      subst eO
      refine ht _ _ r3 p' fun b H3 As3 W3 e3 wl3 p3 => ?_
      have kD : ∀ {Ha Hb : Hp} {Aa Ab : List (List Addr)} {Wa : WS}, Wld K (zo (z1 z D) (owOf O')) Aa Wa Ha → Ext Aa Ha Ab Hb → Ha D = some (.lst us) → Hb D = some (.lst us) := fun w e h => (e.keep D _ h (w.zok.out D zD) fun f => f).1
      have l2' := kD r'.wld e2 hl
      have l3 := kD r2.wld e3 l2'
      have h3 : HasL K (bad (zo (z1 z D) (owOf O')) As3) H3 us acc := ((ha.mv (Mv.weak fun a b => b.imp id (sub1 a))).mv e2.mv).mv e3.mv
      have e13 := (e'.trans e2).trans e3
      cases b with
      | true =>
        rw [if_pos rfl] at p3 ⊢
        refine he _ _ (r3.ext e3 wl3) p3 fun v H4 y As4 W4 e4 wl4 hy p4 => ?_
        split at p4
        · rename_i yd
          have l4 := kD wl3 e4 l3
          have h4 := h3.mv e4.mv
          obtain ⟨w5, m5⟩ := grow_at (o := .lst (us ++ [v])) wl4 zD
          refine ⟨us, l4, Nat.lt_of_lt_of_le (Nat.lt_of_le_of_lt hn hlt) (line_of hlen), As4, W4, us ++ [v], acc ++ [yd], ext_mut hD (e13.trans e4), w5.weak sub2, upd_same, ?_, by rw [List.length_append, List.length_singleton]; omega, p4⟩
          cases hy with
          | d hy => exact (((h4.append (.cons hy .nil)).mv m5).mv (Mv.weak fun a b => b.imp id (sub2 a)))
        · exact p4.elim
      | false =>
        rw [if_neg Bool.false_ne_true] at p3 ⊢
        exact ⟨As3, W3, us, acc, e13, wl3.weak sub2, l3, h3.mv (Mv.weak fun a b => b.imp id (sub2 a)), Nat.le_succ_of_le hn, p3⟩
    · exact p'.elim
  · have hx : i = xs.length := by omega
    subst hx
    refine .inl ⟨hw.stop _ _ mv, ?_⟩
    rw [List.drop_eq_nil_of_le (Nat.le_refl _)] at p'
    exact q D H' us acc As' W' hD0 (e.trans e') wl' hl ha p'
end
end DL

namespace DLX
open PySem PySem.Spec PyProof.Rows PySem.W L2
section
variable {prog : Program} {w : World} {A : Around} {E : Value → Shared → Prop} {s : Shared} {K : Frag} {x C L f : Addr} {h₀ : Heap} {m : Str → Option Value} {ox : Obj} {od : Option Obj} {b tb : Value}
end
end DLX
namespace DL
open PySem L2
section
variable {X : Cx} {C g : Addr} {fd : FuncData} {ps : List Str} {sp : Sp} {n : Nat}
end
section
variable {X : Cx} {a b e o : Expr} {ta tb te to : TE} {wa wb we : WE} {pos : Pos} {C g : Addr} {fd : FuncData} {ps : List Str} {wf : WFn} {n : Nat} {es : List Expr}
end

/-! ### own lists: append; slices -/
abbrev wApp (i : Nat) (we : WE) : WSt := fun Dd σd W => match slot σd i with
  | some (.own xs) => we σd W fun y W1 => (match y with
    | .d y => xs.length ≤ 1000000 ∧ Dd.nx (σd.set i (some (.own (xs ++ [y])))) W1
    | _ => False)
  | _ => False
section
variable {K : PySem.W.Frag} {z : Av} {O : Nat → Option Addr} {As : List (List Addr)} {σd : DS} {W : WS} {σ : St} {H : Hp}
/-- the own list in slot i changes -/
theorem Rep.turnOwn (r : Rep K z O As σd W σ H) {i : Nat} {a : Addr} {xs ys : List Dv} {us : List V} (hs : slot σd i = some (.own xs)) (ha : O i = some a) (hl : HasL K (bad (zo z (owOf O)) As) H us ys) :
    Rep K z O As (σd.set i (some (.own ys))) W σ (upd H a (.lst us)) ∧ ExtS As (owOf O) H As (owOf O) (upd H a (.lst us)) := by
  have za : zo z (owOf O) a := .inr ⟨i, ha⟩
  obtain ⟨w', mv⟩ := grow_at (o := .lst us) r.wld za
  have up : ∀ b, H b ≠ none → upd H a (.lst us) b ≠ none := fun b q => by
    unfold upd
    split
    · exact fun x => by cases x
    · exact q
  refine ⟨⟨w', by rw [List.length_set]; exact r.len, fun j d e => ?_, r.out, r.inj, fun j b q => ?_⟩, ⟨fun b o h n m => ⟨by rw [upd_ne (fun (e : b = a) => m (by rw [e]; exact ⟨i, ha⟩))]; exact h, n, m⟩, fun _ _ h => h, up⟩⟩
  · by_cases q : i = j
    · subst q
      have li : i < σd.length := (List.getElem?_eq_some_iff.mp (slot_at hs)).1
      rw [List.getElem?_set_self li] at e
      cases e
      obtain ⟨v, h1, b, vs, ho, hv, _⟩ := r.sl i _ (slot_at hs)
      rw [ha] at ho
      cases ho
      exact ⟨v, h1, a, us, ha, hv, upd_same, hl.mv mv⟩
    · rw [List.getElem?_set_ne q] at e
      obtain ⟨v, h1, h2⟩ := r.sl j d e
      refine ⟨v, h1, ?_⟩
      have st : ∀ b, O j = some b → upd H a (.lst us) b = H b := fun b hb => upd_ne fun e => q (r.inj i j a ha (e ▸ hb))
      cases d with
      | v x =>
        obtain ⟨g1, g2⟩ := h2
        refine ⟨g1, ?_⟩
        cases g2 with
        | d g2 => exact .d (g2.mv mv)
        | box g2 => exact .box g2
      | own zs =>
        obtain ⟨b, vs, g1, g2, g3, g4⟩ := h2
        exact ⟨b, vs, g1, g2, by rw [st b g1]; exact g3, g4.mv mv⟩
      | ownD ks ds =>
        obtain ⟨b, vs, g1, g2, g3, g4, g5⟩ := h2
        exact ⟨b, vs, g1, g2, by rw [st b g1]; exact g3, g4.mv mv, g5⟩
  · by_cases q2 : i = j
    · subst q2
      have li : i < σd.length := (List.getElem?_eq_some_iff.mp (slot_at hs)).1
      exact ⟨.own ys, List.getElem?_set_self li, rfl⟩
    · rw [List.getElem?_set_ne q2]
      exact r.oo j b q
theorem lt_line {n : Nat} (h : n ≤ 1000000) : n < sizeLine := Nat.lt_of_le_of_lt h (by decide)
theorem tso_app {i : Nat} {te : TE} {we : WE} (h : TEok K te we) : TSok K (tDrop (tBM K "list" rAppend (tVar i) (tCons te tNil))) (wApp i we) := by
  intro z O As σd W σ H Dd D r g q
  unfold wApp at g
  split at g
  · rename_i xs es
    obtain ⟨v, h1, a, vs, ho, rfl, h2, h3⟩ := r.sl i _ (slot_at es)
    refine ⟨_, h1, .inl ⟨rfl, vs, SqL.of h2⟩, h _ _ r g fun y H1 yd As1 W1 e wl hy p => ?_⟩
    split at p
    · rename_i yd
      have r1 := r.ext e wl
      obtain ⟨v', h1', a', vs', ho', hv', h2', h3'⟩ := r1.sl i _ (slot_at es)
      rw [ho] at ho'
      cases ho'
      have hy' : Has K (bad (zo z (owOf O)) As1) H1 y yd := by cases hy with | d hy => exact hy
      obtain ⟨r2, e2⟩ := r1.turnOwn es ho (h3'.append (.cons hy' .nil))
      refine ⟨a, vs', y, rfl, rfl, h2', ?_, q.nx _ W1 O As1 σ _ (e.own.trans e2) r2 p.2⟩
      rw [h3'.length]
      exact lt_line p.1
    · exact p.elim
  · exact g.elim
end
end DL

namespace DLX
open PySem PySem.Spec PyProof.Rows L2
/-- x[::st] where st comes to -1: the list turned about, new -/
def tTurn (K : PySem.W.Frag) (te : TE) : TE := fun σ H Q => te σ H fun x H1 => ∃ a xs, x = .ref a ∧ SqL K H1 a xs ∧ ∀ p, H1 p = none → Q (.ref p) (upd H1 p (.lst xs.reverse))
theorem pe_turn {X : Cx} {e st : Expr} {te : TE} {to : TO} {p3 pos : Pos} (he : PE X e te) (hst : PO X (some st) to) (hv : ∀ σ H, to σ H fun o H1 => o = some (-1) ∧ H1 = H) : PE X (.Subscript e (.Slice none none (some st) p3) pos) (tTurn X.K te) := by
  refine ⟨fun pins s σ H Q I h => ?_⟩
  refine Subscript_ ?_
  refine thn (he.run pins s σ H _ I h) fun v s1 hx => ?_
  obtain ⟨x, H1, I1, r1, a, xs, rfl, hq, q⟩ := hx
  obtain rfl : v = Value.ref a := r1
  refine wpAny_Slice ?_
  refine thn (po_none.run pins s1 σ H1 (fun o Ho => o = none ∧ Ho = H1) I1 ⟨rfl, rfl⟩) fun l s2 hl => ?_
  obtain ⟨o1, Ho1, J1, pl, rfl, rfl⟩ := hl
  refine thn (po_none.run pins s2 σ Ho1 (fun o Ho => o = none ∧ Ho = Ho1) J1 ⟨rfl, rfl⟩) fun u s3 hu => ?_
  obtain ⟨o2, Ho2, J2, pu, rfl, rfl⟩ := hu
  refine thn (hst.run pins s3 σ Ho2 (fun o Ho => o = some (-1) ∧ Ho = Ho2) J2 (hv σ Ho2)) fun t s4 ht => ?_
  obtain ⟨o3, Ho3, J3, pt, rfl, rfl⟩ := ht
  have J4 : Inv X pins σ Ho3 { s4 with heap := s4.heap.push { cls := .type "slice", data := .fields #[l, u, t] } } := J3.kept (t' := s4.toks) fun b ob q => Heap.get?_push_of_some _ q
  obtain ⟨its, r, hL, hz⟩ := J4.list hq
  have hn := r.length
  refine tail_any (ops := [.ref a, .ref s4.heap.objs.size]) hL.isList.typeIs PySem.slot_list_getitem.lookup ?_ (by with_unfolding_all rfl)
  refine wpAny_getItem_list_slice hL.isList (Heap.IsSliceOf.new _ l u t) pl pu pt (by decide) ?_ (by rw [List.size_toArray]; omega)
  rw [PySem.W.krv_pick]
  refine ⟨.ref _, _, J4.laid (t' := s4.toks) (o := .lst xs.reverse) (fun b ob q => Heap.get?_push_of_some _ q) (Nat.le_refl _) ?_, rfl, q _ (J4.hok.fresh (Nat.le_refl _))⟩
  exact ⟨by rw [List.length_reverse]; exact hz, _, 0, r.reverse, Heap.get?_push_size _ rfl⟩
end DLX
namespace DL
open PySem L2
/-! ### a[lo:hi] of a list, a[::-1] -/
def wOptS (w : WB) : DS → WS → (Option Int → WS → Prop) → Prop := fun σd W Φ => w σd W fun x W1 => match x with
  | .int i => Φ (some i) W1
  | _ => False
def TOok (K : PySem.W.Frag) (t : TO) (w : WO) : Prop := ∀ {z : Av} {O : Nat → Option Addr} {As : List (List Addr)} {σd : DS} {W : WS} {σ : St} {H : Hp} (Φ : Option Int → WS → Prop) (Q : Option Int → Hp → Prop), Rep K z O As σd W σ H → w σd W Φ →
  (∀ o H' As' W', Ext As H As' H' → Wld K (zo z (owOf O)) As' W' H' → Φ o W' → Q o H') → t σ H Q
structure POD (X : Cx) (e : Option Expr) (t : TO) (w : WO) : Prop where
  po : PO X e t
  ok : TOok X.K t w
def wSlL (we : WB) (wl wh : WO) : WF := fun σd W Φ => we σd W fun x W1 => wl σd W1 fun l W2 => wh σd W2 fun h W3 => match x with
  | .lst xs => Φ (cutD xs l h) W3
  | _ => False
def wTurn (we : WB) : WF := fun σd W Φ => we σd W fun x W1 => match x with
  | .lst xs => Φ xs.reverse W1
  | _ => False
section
variable {K : PySem.W.Frag} {te : TE} {we : WB}
theorem too_some (h : TBok K te we) : TOok K (tPart te) (wOptS we) := by
  intro z O As σd W σ H Φ Q r g q
  refine h _ _ r g fun v H1 x As1 W1 e wl hv p => ?_
  split at p
  · obtain rfl := hv.int
    exact ⟨_, rfl, q _ H1 As1 W1 e wl p⟩
  · exact p.elim
theorem tfo_sl {tl th : TO} {wl wh : WO} (h : TBok K te we) (hl : TOok K tl wl) (hh : TOok K th wh) : TFok K (tSl (rSlL K) te tl th) (wSlL we wl wh) := by
  intro z O As σd W σ H Φ Q r g q
  refine h _ _ r g fun v H1 x As1 W1 e1 w1 hv p1 => ?_
  refine hl _ _ (r.ext e1 w1) p1 fun l H2 As2 W2 e2 w2 p2 => ?_
  refine hh _ _ ((r.ext e1 w1).ext e2 w2) p2 fun k H3 As3 W3 e3 w3 p3 => ?_
  split at p3
  · rename_i xs
    obtain ⟨a, vs, rfl, s, hL⟩ := ((hv.ext w1.zok e2).ext w2.zok e3).lst
    refine ⟨a, vs, rfl, s, fun t ht => ?_⟩
    have e13 := (e1.trans e2).trans e3
    refine q t _ (cutV vs l k) (cutD xs l k) As3 W3 (up_none e13 ht) (e13.trans (Ext.new ht)) (zk1 w3 ht) upd_same ?_ p3
    unfold cutV cutD
    rw [hL.length]
    exact ((hL.drop _).take _).mv (mv1 ht)
  · exact p3.elim
theorem tfo_turn (h : TBok K te we) : TFok K (DLX.tTurn K te) (wTurn we) := by
  intro z O As σd W σ H Φ Q r g q
  refine h _ _ r g fun v H1 x As1 W1 e1 w1 hv p1 => ?_
  split at p1
  · obtain ⟨a, vs, rfl, s, hL⟩ := hv.lst
    exact ⟨a, vs, rfl, s, fun t ht => q t _ _ _ As1 W1 (up_none e1 ht) (e1.trans (Ext.new ht)) (zk1 w1 ht) upd_same (hL.reverse.mv (mv1 ht)) p1⟩
  · exact p1.elim
end
section
variable {X : Cx} {e : Expr} {te : TE} {we : WB} {p2 pos : Pos} {lo hi : Option Expr} {tl th : TO} {wl wh : WO}
theorem o_some (h : PB X e te we) : POD X (some e) (tPart te) (wOptS we) := ⟨po_some h.pe, too_some h.ok⟩
theorem f_sl (h : PB X e te we) (hl : POD X lo tl wl) (hh : POD X hi th wh) : PF X (.Subscript e (.Slice lo hi none p2) pos) (tSl (rSlL X.K) te tl th) (wSlL we wl wh) := ⟨pe_slice sl_list h.pe hl.po hh.po, tfo_sl h.ok hl.ok hh.ok⟩
/-- e[::0 - 1] -/
theorem f_turn {j1 j2 : Nat} {q1 q2 q3 : Pos} (h : PB X e te we) : PF X (.Subscript e (.Slice none none (some (.BinOp (.Constant (.int 0) j1 q1) .Sub (.Constant (.int 1) j2 q2) q3)) p2) pos) (DLX.tTurn X.K te) (wTurn we) :=
  ⟨DLX.pe_turn h.pe (po_some (pe_op op_sub pe_int pe_int)) (fun σ H => ⟨0, 1, rfl, rfl, _, rfl, rfl, rfl⟩), tfo_turn h.ok⟩
end
/-! ### comprehensions as rules -/
structure PTsD (X : Cx) (ifs : List Expr) (t : TT) (w : WT) : Prop where
  pt : PTs X ifs t
  ok : TTok X.K t w
section
variable {X : Cx} {c : Expr} {tt : TT} {wt : WT}
theorem ts_nil : PTsD X [] tYes wYes := ⟨pts_nil, tto_yes⟩
theorem ts_one (h : PTD X c tt wt) : PTsD X [c] tt wt := ⟨pts_one h.pt, h.ok⟩
variable {elt tg iter : Expr} {ifs : List Expr} {scope : Scope} {own : List (Str × Nat)} {pos spos py : Pos} {wi : TI} {w : WI} {g : TG} {tgt : Tgt} {is : List Nat} {te : TE} {we : WE} {y : Str}
theorem f_lc (hc : X.calm = true) (hN : X.N.Nodup) (hi : PID X tg iter wi w) (ok : BlkOk X.N X.env.scope scope own)
    (hg : ∀ (s : Shared) (H : Hp) (C : Addr) (cl : List (Str × Addr)) (fp : List Addr), PGD (X.blk s H scope (compEnvC scope cl C X.env) fp) tg g tgt is)
    (ht : ∀ (s : Shared) (H : Hp) (C : Addr) (cl : List (Str × Addr)) (fp : List Addr), PTsD (X.blk s H scope (compEnvC scope cl C X.env) fp) ifs tt wt)
    (he : ∀ (s : Shared) (H : Hp) (C : Addr) (cl : List (Str × Addr)) (fp : List Addr), PD (X.blk s H scope (compEnvC scope cl C X.env) fp) elt te we)
    (hsub : ∀ i, i ∈ is → i ∈ own.map (·.2)) (hs : ∀ x, foldedSetIterable iter X.env x = pure x := by intro _; rfl) :
    PF X (.ListComp elt [⟨tg, iter, ifs, 0⟩] scope pos) (tLc wi g tt te (own.map (·.2))) (wLc w tgt wt we (own.map (·.2))) :=
  ⟨pe_lc hc hN hi.pi ok (fun s H C cl fp => (hg s H C cl fp).pg) (fun s H C cl fp => (ht s H C cl fp).pt) (fun s H C cl fp => (he s H C cl fp).pe) hs,
   tfo_lc hi.ok (hg X.s_0 X.H_0 0 [] []).ok (ht X.s_0 X.H_0 0 [] []).ok (he X.s_0 X.H_0 0 [] []).ok hsub⟩
theorem s_lcO {i : Nat} (hc : X.calm = true) (hN : X.N.Nodup) (hy : X.N[i]? = some y) (hyl : X.env.scope.names.lookup y = some .local)
    (hsw : swapsWith (.ListComp elt [⟨tg, iter, ifs, 0⟩] scope pos) (some (.Name y py)) spos.line X.env = pure true) (hi : PID X tg iter wi w) (ok : BlkOk X.N X.env.scope scope own)
    (hg : ∀ (s : Shared) (H : Hp) (C : Addr) (cl : List (Str × Addr)) (fp : List Addr), PGD (X.blk s H scope (compEnvC scope cl C X.env) fp) tg g tgt is)
    (ht : ∀ (s : Shared) (H : Hp) (C : Addr) (cl : List (Str × Addr)) (fp : List Addr), PTsD (X.blk s H scope (compEnvC scope cl C X.env) fp) ifs tt wt)
    (he : ∀ (s : Shared) (H : Hp) (C : Addr) (cl : List (Str × Addr)) (fp : List Addr), PD (X.blk s H scope (compEnvC scope cl C X.env) fp) elt te we)
    (hsub : ∀ i, i ∈ is → i ∈ own.map (·.2)) (hs : ∀ x, foldedSetIterable iter X.env x = pure x := by intro _; rfl) :
    PDS X (.Assign [.Name y py] (.ListComp elt [⟨tg, iter, ifs, 0⟩] scope pos) spos) (tAsg (tLc wi g tt te (own.map (·.2))) (gName i)) (wSet (wFr (wLc w tgt wt we (own.map (·.2)))) i) :=
  ⟨ps_setLc hc hN hy hyl hsw hi.pi ok (fun s H C cl fp => (hg s H C cl fp).pg) (fun s H C cl fp => (ht s H C cl fp).pt) (fun s H C cl fp => (he s H C cl fp).pe) hs,
   tso_set (teo_fr (tfo_lc hi.ok (hg X.s_0 X.H_0 0 [] []).ok (ht X.s_0 X.H_0 0 [] []).ok (he X.s_0 X.H_0 0 [] []).ok hsub))⟩
end
/-! ### short words for operators -/
section
variable {X : Cx} {K : PySem.W.Frag}
theorem hi2 (f : Int → Int → Int) : ∀ i j N H, Has K N H ((fun i j => V.int (f i j)) i j) ((fun i j => Dv.int (f i j)) i j) := fun i j _ _ => .int _
theorem hb2 (f : Int → Int → Bool) : ∀ i j N H, Has K N H ((fun i j => V.bl (f i j)) i j) ((fun i j => Dv.bl (f i j)) i j) := fun i j _ _ => .bl _
theorem o_add : OpD K (rI0 fun i j => .int (i + j)) (rdI0 fun i j => .int (i + j)) := od_I0 (hi2 fun i j => i + j)
theorem o_sub : OpD K (rI0 fun i j => .int (i - j)) (rdI0 fun i j => .int (i - j)) := od_I0 (hi2 fun i j => i - j)
theorem o_mul : OpD K (rI CMul fun i j => .int (i * j)) (rdI CMul fun i j => .int (i * j)) := od_I (hi2 fun i j => i * j)
theorem o_mod : OpD K (rI (fun _ j => 0 < j) fun i j => .int (i % j)) (rdI (fun _ j => 0 < j) fun i j => .int (i % j)) := od_I (hi2 fun i j => i % j)
theorem o_pow : OpD K (rI CPow fun i j => .int (i ^ j.toNat)) (rdI CPow fun i j => .int (i ^ j.toNat)) := od_I (hi2 fun i j => i ^ j.toNat)
theorem o_lt : OpD K (rI0 fun i j => .bl (decide (i < j))) (rdI0 fun i j => .bl (decide (i < j))) := od_I0 (hb2 fun i j => decide (i < j))
theorem o_gt : OpD K (rI0 fun i j => .bl (decide (j < i))) (rdI0 fun i j => .bl (decide (j < i))) := od_I0 (hb2 fun i j => decide (j < i))
theorem o_ge : OpD K (rI0 fun i j => .bl (decide (j ≤ i))) (rdI0 fun i j => .bl (decide (j ≤ i))) := od_I0 (hb2 fun i j => decide (j ≤ i))
end
end DL

namespace DLX
open PySem PySem.Spec PyProof.Rows L2
section
variable {X : Cx}
/-- xs == [], xs != [] whatever the items are -/
theorem op_neNil (hu : X.A.units + 64 < cLine) : OpR X (compareOp .NotEq) (fun x y H Q => ∃ a b xs, x = .ref a ∧ y = .ref b ∧ SqL X.K H a xs ∧ SqL X.K H b [] ∧ Q (.bl (!xs.isEmpty)) H) := by
  intro pins s σ H x y v u Q I rx ry h
  obtain ⟨a, b, xs, rfl, rfl, ha, hb, q⟩ := h
  cases xs with
  | nil => exact op_neD hu pins s σ H (.ref a) (.ref b) v u Q I rx ry ⟨.list [], .list [], .lst ha .nil, .lst hb .nil, rfl, rfl, q⟩
  | cons x xs =>
    obtain rfl : v = Value.ref a := rx
    obtain rfl : u = Value.ref b := ry
    obtain ⟨its, r, hl, _⟩ := I.list ha
    obtain ⟨its2, r2, hl2, _⟩ := I.list hb
    have n1 := r.length
    have n2 := r2.length
    show wpAny (model X.prog X.w) X.A (richCompare .NotEq (.ref a) (.ref b)) (EP X pins σ Q) X.xe s
    refine SeqAt.RcNeAt.lists_lengths hl.isList hl2.isList ?_ (by omega) X.prog X.w _ _ ⟨.bl true, H, I, rfl, q⟩
    rw [List.size_toArray, List.size_toArray, ← n1, ← n2]
    simp
end
end DLX
namespace DL
open PySem L2
section
variable {K : PySem.W.Frag}
end
section
variable {X : Cx} {a b c e : Expr} {ta tb tc te : TE} {wa wb wc we : WB} {pos : Pos}
end

/-! ### two own lists -/
section
variable {K : PySem.W.Frag}
end
section
variable {K : PySem.W.Frag}
end
section
variable {X : Cx} {x y : Str} {a b e : Expr} {t1 t2 te : TE} {w1 w2 : WF} {we : WB} {pos pos2 : Pos}
theorem s_app (i : Nat) {te : TE} {we : WE} (hp : PS X (.Expr e pos) (tDrop (tBM X.K "list" rAppend (tVar i) (tCons te tNil)))) (h : TEok X.K te we) : PDS X (.Expr e pos) (tDrop (tBM X.K "list" rAppend (tVar i) (tCons te tNil))) (wApp i we) := ⟨hp, tso_app h⟩
end

/-! ### a law's drawing: two numbers' sources, told by what holds of them -/
/-- the draw: any number below the bound comes out -/
def wfDraw : WFn := fun xs W Φ => match xs with
  | [.box j, .d (.int n)] => W[j]? = some (.obj dealK) ∧ (0 < n ∧ n ≤ 1000000000000000000000000000000) ∧ ∀ r : Int, 0 ≤ r → r < n → Φ (.d (.int r)) W
  | _ => False
def scriptOk (ns : List Int) : Prop := ns.length ≤ 63 ∧ ∀ k, k ∈ ns → Builtin.Int.intBits k ≤ 1048576
def wfDeal : WFn := fun xs W Φ => match xs with
  | [.d (.lst xs), .d (.int b)] => (∃ ns, xs = ns.map Dv.int ∧ scriptOk ns) ∧ (0 ≤ b ∧ b ≤ 1000) ∧ Φ (.box W.length) (W ++ [.obj dealK])
  | _ => False
section
variable {K : PySem.W.Frag}
end
end DL

namespace DLX
open PySem PySem.Spec PyProof.Rows L2
def rCatA (K : PySem.W.Frag) : R2 := fun x y H Q => ∃ l b xs ys, x = .ref l ∧ y = .ref b ∧ SqL K H l xs ∧ SqL K H b ys ∧ xs.length + ys.length ≤ sizeLine ∧ ∀ p, H p = none → Q (.ref p) (upd H p (.lst (xs ++ ys)))
/-- xs + ys, lists wherever they stand -/
theorem op_catL {X : Cx} : OpR X (binaryOp .Add) (rCatA X.K) := by
  intro pins s σ H x y v u Q I rx ry h
  obtain ⟨l, b, xs, ys, rfl, rfl, hl, hb, hz, q⟩ := h
  obtain rfl : v = Value.ref l := rx
  obtain rfl : u = Value.ref b := ry
  obtain ⟨is, r1, p1, _⟩ := I.list hl
  obtain ⟨js, r2, p2, _⟩ := I.list hb
  have n1 := r1.length
  have n2 := r2.length
  obtain ⟨⟨c1, d1, t1, s1⟩, k1, g1, e1, f1, m1⟩ := p1
  obtain ⟨⟨c2, d2, t2, s2⟩, k2, g2, e2, f2, m2⟩ := p2
  simp only at e1 m1 e2 m2
  subst e1 m1 e2 m2
  have ea : is.toArray ++ js.toArray = (is ++ js).toArray := by simp
  refine concat_meets ⟨_, g1, rfl⟩ ⟨_, g2, rfl⟩ noFill_list_add seq_list_add PySem.F.slot_list_add PySem.F.entry_list_add (PySem.F.args_list_add_2 _ _) (list_addW l b is.toArray js.toArray k1 k2 d1 d2 s1 s2 ?_) ⟨g1, g2, ?_⟩
  · simp only [List.size_toArray]
    omega
  · rw [ea]
    exact ⟨.ref _, _, I.lnew (t' := s.toks) (r1.append r2) (by rw [List.length_append]; omega), rfl, q _ I.fresh⟩
end DLX
namespace DL
open PySem L2
abbrev Few (cpos : Pos) (es : List Expr) (env : Env) : Prop :=
  ((backTo cpos (starEach es env)).all (fun x => !x.1) && (backToKw cpos (keywordEach [] env)).all (fun x => x.1.isSome) && decide (es.length + ([] : List Keyword).length + (if ([] : List Keyword).isEmpty then 0 else 1) < 30)) = true
section
variable {X : Cx} {o e e2 o2 : Expr} {te : TE} {we : WE} {wb : WB} {pos cpos apos apos2 cpos2 : Pos}
theorem l_app {o e : Expr} {to te : TE} {apos cpos : Pos} (ho : PE X o to) (he : PE X e te) (h1 : attributeBase o "append" X.env (eval o X.env) = eval o X.env) (h2 : Few cpos [e] X.env) (h3 : (apos.endLine == cpos.line) = true) (h4 : starEach [e] X.env = (false, eval e X.env) :: starEach [] X.env) :
    PE X (.Call (.Attribute o "append" apos) [e] [] cpos) (tBM X.K "list" rAppend to (tCons te tNil)) :=
  pe_bm PySem.F.plainAttrs_list PySem.F.slot_list_append PySem.F.type_list_append mt_append ho (pa_cons he pa_nil h4) h1 h2 h3 h4 rfl
theorem sa (i : Nat) (ho : PE X o (tVar i)) (h : PD X e te we) (h1 : attributeBase o "append" X.env (eval o X.env) = eval o X.env := by rfl) (h2 : Few cpos [e] X.env := by rfl) (h3 : (apos.endLine == cpos.line) = true := by rfl) (h4 : starEach [e] X.env = (false, eval e X.env) :: starEach [] X.env := by rfl)
    (h5 : swapsWith (.Call (.Attribute o "append" apos) [e] [] cpos) none pos.line X.env = pure false := by rfl) : PDS X (.Expr (.Call (.Attribute o "append" apos) [e] [] cpos) pos) (tDrop (tBM X.K "list" rAppend (tVar i) (tCons te tNil))) (wApp i we) :=
  s_app i (ps_expr (l_app ho h.pe h1 h2 h3 h4) h5) h.ok
end
/-! ### what helps in the readings -/
theorem ite_d {c : Prop} [Decidable c] {A B : Prop} (h1 : c → A) (h2 : ¬ c → B) : if decide c = true then A else B := by
  by_cases h : c
  · rw [decide_eq_true h]
    exact h1 h
  · rw [decide_eq_false h]
    exact h2 h
/-- a loop by what holds at its turns; N: what the turn is to reach -/
theorem loop_by {tgt : Tgt} {wb : WSt} {Dd : DEnds} (I : List Sv → DS → WS → Prop) : ∀ {xs : List Sv} {σ : DS} {W : WS}, I xs σ W → (∀ σ W, I [] σ W → Dd.nx σ W) →
    (∀ x xs σ W (N : DS → WS → Prop), I (x :: xs) σ W → (∀ σ W, I xs σ W → N σ W) → ∃ σ', tgt x σ = some σ' ∧ wb { Dd with nx := N, ct := N, bk := Dd.nx } σ' W) → wLoop tgt wb xs Dd σ W
  | [], σ, W, h, h0, _ => h0 σ W h
  | x :: xs, σ, W, h, h0, hs => by
    obtain ⟨σ', e, q⟩ := hs x xs σ W (wLoop tgt wb xs Dd) h fun σ W i => loop_by I i h0 hs
    unfold wLoop
    rw [e]
    exact q
/-- xs + ys -/
def wCat (wa wb : WB) : WF := fun σd W Φ => wa σd W fun x W1 => wb σd W1 fun y W2 => match x, y with
  | .lst xs, .lst ys => xs.length + ys.length ≤ 1000000 ∧ Φ (xs ++ ys) W2
  | _, _ => False
section
variable {K : PySem.W.Frag}
theorem tfo_cat {ta tb : TE} {wa wb : WB} (ha : TBok K ta wa) (hb : TBok K tb wb) : TFok K (tOp (DLX.rCatA K) ta tb) (wCat wa wb) := by
  intro z O As σd W σ H Φ Q r g q
  refine ha _ _ r g fun v H1 x As1 W1 e1 w1 hx p1 => ?_
  refine hb _ _ (r.ext e1 w1) p1 fun u H2 y As2 W2 e2 w2 hy p2 => ?_
  split at p2
  · obtain ⟨a, vs, rfl, s1, l1⟩ := (hx.ext w1.zok e2).lst
    obtain ⟨b, us, rfl, s2, l2⟩ := hy.lst
    refine ⟨a, b, vs, us, rfl, rfl, s1, s2, by rw [l1.length, l2.length]; exact line_of p2.1, fun t ht => ?_⟩
    exact q t _ _ _ As2 W2 (up_none (e1.trans e2) ht) ((e1.trans e2).trans (Ext.new ht)) (zk1 w2 ht) upd_same ((l1.append l2).mv (mv1 ht)) p2.2
  · exact p2.elim
end
section
variable {X : Cx} {st : Stmt}
theorem f_cat {a b : Expr} {ta tb : TE} {wa wb : WB} {pos : Pos} (ha : PB X a ta wa) (hb : PB X b tb wb) : PF X (.BinOp a .Add b pos) (tOp (DLX.rCatA X.K) ta tb) (wCat wa wb) := ⟨pe_op DLX.op_catL ha.pe hb.pe, tfo_cat ha.ok hb.ok⟩
end
section
variable {K : PySem.W.Frag} {z : Av} {As : List (List Addr)} {W : WS} {H H' : Hp}
theorem Ext.turnG {l : List Addr} {j : Nat} (hj : As[j]? = some l) (k : ∀ b o, H b = some o → b ∉ l → H' b = some o) (t : ∀ a, a ∈ l → H' a ≠ none) : Ext As H As H' :=
  ⟨fun b o e n _ => ⟨k b o e fun q => n ⟨l, List.mem_of_getElem? hj, q⟩, n, fun f => f⟩, fun _ _ q => q, fun a q => by
    by_cases m : a ∈ l
    · exact t a m
    · cases r : H a with
      | none => exact absurd r q
      | some o => rw [k a o r m]; exact fun x => by cases x⟩
theorem set_same {α : Type} {xs : List α} {j : Nat} {x : α} (h : xs[j]? = some x) : xs.set j x = xs := by
  apply List.ext_getElem?
  intro i
  by_cases q : j = i
  · subst q
    rw [List.getElem?_set_self (List.getElem?_eq_some_iff.mp h).1, h]
  · rw [List.getElem?_set_ne q]
theorem Wld.turnG {l : List Addr} {j : Nat} {o : WObj} (w : Wld K z As W H) (hj : As[j]? = some l) (k : ∀ b o, H b = some o → b ∉ l → H' b = some o) (t : ∀ a, a ∈ l → H' a ≠ none) (r : WRep K z As H' l o) : Wld K z As (W.set j o) H' := by
  have e : Ext As H As H' := Ext.turnG hj k t
  refine ⟨by rw [List.length_set]; exact w.len, fun i l' u h1 h2 => ?_, fun a q => e.up a (w.trk a q), w.dis, w.zok.ext e⟩
  by_cases q : j = i
  · subst q
    rw [hj] at h1
    cases h1
    rw [List.getElem?_set] at h2
    simp only [if_true] at h2
    split at h2
    · cases h2
      exact r
    · cases h2
  · rw [List.getElem?_set_ne q] at h2
    refine (w.rep i l' u h1 h2).ext e fun a m => ?_
    cases r : H a with
    | none => exact absurd r (w.trk a ⟨l', List.mem_of_getElem? h1, m⟩)
    | some o => exact k a o r fun m' => q (w.dis j i l l' a hj h1 m' m)
end
/-- the promise of a law: True comes out -/
def wfLaw : WFn := fun xs W Φ => match xs with
  | [.d (.lst xs)] => (∃ ns, xs = ns.map Dv.int ∧ scriptOk ns) ∧ W = [] ∧ ∀ W', Φ (.d (.bl true)) W'
  | _ => False
theorem law_in {K : PySem.W.Frag} {H : Hp} {a : Addr} {ns : List Int} (hl : ns.length ≤ 63) (hb : ∀ k, k ∈ ns → Builtin.Int.intBits k ≤ 1048576) (hS : SqL K H a (ns.map V.int)) : spD K wfLaw [.ref a] H (fun v _ => v = .bl true) fun _ _ _ => False := by
  have hs : Sq K (bad No []) H a (ns.map V.int) := by
    rcases hS with h | h
    · exact .inl ⟨fun q => by
        rcases q with ⟨l, q, _⟩ | q
        · cases q
        · exact q, h⟩
    · exact .inr fun H => .inr h
  have hi : ∀ ns : List Int, HasL K (bad No []) H (ns.map V.int) (ns.map Dv.int) := fun ns => by
    induction ns with
    | nil => exact .nil
    | cons n ns ih => exact .cons (.int n) ih
  refine ⟨No, [], [], [.d (.lst (ns.map Dv.int))], fun x _ => x = .d (.bl true), ⟨rfl, fun j l o h => (by simp at h), fun a ⟨l, q, _⟩ => (by cases q), fun i j l l' a h => (by simp at h), ⟨fun a q => q.elim, fun a q => q.elim⟩⟩, .cons (.d (.lst hs (hi ns))) .nil, ⟨⟨ns, rfl, hl, hb⟩, rfl, fun _ => rfl⟩, fun v H' x As' W' e wl hv p => ?_⟩
  subst p
  exact hv.bl
theorem bits_log {k : Int} (h : Builtin.Int.intBits k ≤ 1048576) : k.natAbs.log2 ≤ 1048580 := by
  unfold Builtin.Int.intBits at h
  split at h <;> simp_all <;> omega
end DL

namespace DL
open PySem L2
/-- a comprehension whose test and element are known -/
theorem lcL_fm {tgt : Tgt} {wt : WT} {we : WE} {vs : List Nat} {σ : DS} (p : Dv → Bool) (f : Dv → Dv) : ∀ {xs acc : List Dv} {W : WS} {Φ : List Dv → WS → Prop},
    (∀ x, x ∈ xs → ∃ σ2, tgt (.d x) (wipeD σ vs) = some σ2 ∧ (∀ W (Ψ : Bool → WS → Prop), Ψ (p x) W → wt σ2 W Ψ) ∧ (p x = true → ∀ W (Ψ : Sv → WS → Prop), Ψ (.d (f x)) W → we σ2 W Ψ)) →
    Φ (acc ++ (xs.filter p).map f) W → wLcL tgt wt we vs σ xs acc W Φ
  | [], acc, W, Φ, _, h => by
    unfold wLcL
    simpa using h
  | x :: xs, acc, W, Φ, hx, h => by
    obtain ⟨σ2, e, ht, he⟩ := hx x List.mem_cons_self
    unfold wLcL
    rw [e]
    refine ht W _ ?_
    have ih := fun {acc : List Dv} {W : WS} => lcL_fm (W := W) (acc := acc) (Φ := Φ) p f (xs := xs) fun y hy => hx y (List.mem_cons_of_mem _ hy)
    cases hp : p x with
    | true =>
      rw [if_pos rfl]
      refine he hp W _ ?_
      show wLcL tgt wt we vs σ xs (acc ++ [f x]) W Φ
      refine ih ?_
      rw [List.filter_cons_of_pos hp] at h
      simpa using h
    | false =>
      rw [if_neg Bool.false_ne_true]
      refine ih ?_
      rw [List.filter_cons_of_neg (by rw [hp]; exact Bool.false_ne_true)] at h
      exact h
theorem at_last {α : Type} {xs : List α} {x : α} : (xs ++ [x])[xs.length]? = some x := List.getElem?_concat_length ..
/-! what any value is -/
def wfPick : WFn := fun xs W Φ => match xs with
  | [.box j, .d (.lst ys)] => W[j]? = some (.obj dealK) ∧ (ys ≠ [] ∧ ys.length ≤ 1000000) ∧ ∀ x, x ∈ ys → Φ (.d x) W
  | _ => False
theorem atI_mem {α : Type} {xs : List α} {r : Int} (h0 : 0 ≤ r) (h : r < xs.length) : ∃ x, L2.atI xs r = some x ∧ x ∈ xs := by
  have hr : r.toNat < xs.length := by omega
  refine ⟨xs[r.toNat], ?_, List.getElem_mem hr⟩
  have e : (r.toNat : Int) = r := by omega
  have := L2.atI_nat (xs := xs) (j := r.toNat) (List.getElem?_eq_getElem hr)
  rw [e] at this
  exact this
end DL

namespace DL
open PySem L2
/-- a loop over numbers -/
theorem loop_r {i : Nat} {wb : WSt} {Dd : DEnds} {lo : Int} {n : Nat} (I : DS → WS → Prop) {σ : DS} {W : WS} (h : I σ W) (h0 : ∀ σ W, I σ W → Dd.nx σ W)
    (hs : ∀ (k : Int), lo ≤ k → k < lo + n → ∀ σ W (N : DS → WS → Prop), I σ W → (∀ σ W, I σ W → N σ W) → wb { Dd with nx := N, ct := N, bk := Dd.nx } (σ.set i (some (.v (.d (.int k))))) W) : wLoop (tgN i) wb ((rangeD lo n).map Sv.d) Dd σ W := by
  refine loop_by (fun xs σ W => I σ W ∧ ∀ x, x ∈ xs → ∃ k : Int, x = .d (.int k) ∧ lo ≤ k ∧ k < lo + n) ⟨h, fun x hx => ?_⟩ (fun σ W h => h0 σ W h.1) fun x xs σ W N ⟨h, hx⟩ hN => ?_
  · obtain ⟨d, hd, rfl⟩ := List.mem_map.mp hx
    obtain ⟨k, hk, rfl⟩ := List.mem_map.mp hd
    have := List.mem_range.mp hk
    exact ⟨_, rfl, by omega, by omega⟩
  · obtain ⟨k, rfl, h1, h2⟩ := hx x List.mem_cons_self
    exact ⟨_, rfl, hs k h1 h2 σ W N h fun σ W i => hN σ W ⟨i, fun y hy => hx y (List.mem_cons_of_mem _ hy)⟩⟩
/-- the last of a chain of two -/
theorem rng_ok {n : Int} (h0 : 0 ≤ n) (h : n ≤ 1000000000) : -4611686018427387904 ≤ n ∧ n < 4611686018427387904 := by omega
theorem mx_mn {l : Nat} (h : l ≤ 63) {a b : Int} (ha : 0 ≤ a ∧ a ≤ 1000) (hb : 0 ≤ b ∧ b ≤ 1000) : 0 ≤ mx a (mn b (l : Int)) ∧ mx a (mn b (l : Int)) ≤ 1000 := by
  unfold mx mn
  split <;> split <;> omega
theorem nxp {X : DS → WS → Prop} {rt : Sv → WS → Prop} {bk ct : DS → WS → Prop} {σ : DS} {W : WS} (h : X σ W) : DEnds.nx { nx := X, rt := rt, bk := bk, ct := ct } σ W := h
theorem sif_f {t : WT} {a b : WSt} {D : DEnds} {σ : DS} {W : WS} (h : ∀ Ψ : Bool → WS → Prop, Ψ false W → t σ W Ψ) (k : b D σ W) : wSeq (wIfS t a wNext) b D σ W := h _ k
theorem lif_f {t : WT} {a : WSt} {D : DEnds} {σ : DS} {W : WS} (h : ∀ Ψ : Bool → WS → Prop, Ψ false W → t σ W Ψ) (k : D.nx σ W) : wIfS t a wNext D σ W := h _ k
theorem kit_rt {K : PySem.W.Frag} {T : String} {D : Addr} {b : Bool} (h1 : PySem.W.mroIn K D (.type T) = some b) (h2 : PySem.W.kitMeta T = true) : PySem.W.kitOne K (.ref D) (.type T) = some b := by
  unfold PySem.W.kitOne
  rw [if_neg (show ¬ (Value.ref D == Value.type T) = true from fun e => by cases beq_iff_eq.mp e)]
  show (if PySem.W.kitMeta T = true then PySem.W.subIn K (.ref D) (.type T) else none) = some b
  rw [if_pos h2]
  exact h1
theorem kit_rr {K : PySem.W.Frag} {C D : Addr} {b : Bool} (h1 : PySem.W.isClsIn K C = true) (h2 : PySem.W.typeIn K (.ref C) = some (.type "type")) (hn : (Value.ref D == Value.ref C) = false) (h : PySem.W.mroIn K D (.ref C) = some b) : PySem.W.kitOne K (.ref D) (.ref C) = some b := by
  unfold PySem.W.kitOne
  rw [hn, if_neg Bool.false_ne_true]
  show (if ((PySem.W.clsIn K C).isSome && PySem.W.typeIn K (.ref C) == some (.type "type")) = true then PySem.W.subIn K (.ref D) (.ref C) else none) = some b
  rw [h2, show (PySem.W.clsIn K C).isSome = true from h1, if_pos (by simp)]
  exact h
theorem kit_self {K : PySem.W.Frag} {C : Addr} : PySem.W.kitOne K (.ref C) (.ref C) = some true := by
  unfold PySem.W.kitOne
  rw [if_pos (by simp)]
theorem nle {a b : Nat} (h : Nat.ble a b = true) : a ≤ b := Nat.le_of_ble_eq_true h
end DL

/-! the law's own call, where nothing is being shown by repr -/
namespace DLG
open PySem PySem.Spec PyProof.Rows L2
section
variable {P : Program} {w : World} {K : PySem.W.Frag} {mg mb : Str → Option Value}
/-- the body of a def at one place of the stack -/
theorem fn_at {A : Around} {outer : List Env} {s : Shared} {H : Hp} {base : Heap} {k : Nat} {x qual : Str} {st : Stmt} {f : Addr} {fd : FuncData} {N ps : List Str} {args : Args} {us : List Value} {vs : List V} {Q : VK} {E : XK}
    (F : Fun K x qual st f fd) (S : FnScope N ps (defScope st)) (room : Room (k + 1) A) (e0 : Env0 P w K mg base A outer s H) (bd : BindsTo s fd args (ps.zip us)) (rv : Vals vs us) (hl : vs.length = ps.length)
    (body : ∀ cdv : Value, ∃ t, PSs (cxOf CX0 P w K mg base N qual (defScope st) f cdv A outer s H E).nox (defBody st) t ∧ t { nx := fun _ H' => Q .non H', rt := Q } (start N vs) H) :
    codeAny (model P w) A (.call (.ref f) args) (CR CX0 outer P w H s Q E) s := by
  obtain ⟨oc, od, kV, doc, pm, an, cdv, ct, osl, e, look, code⟩ := F.ex
  subst e
  obtain ⟨t, hb, ht⟩ := body cdv
  have inK : K.In s.heap := e0.mod.kin.keeps fun b o q => (e0.bs b o q).1
  have nolim : s.heap.NoLimit := e0.mod.nolimit.keeps fun b o q => (e0.bs b o q).1
  have kinds : ∀ y, y ∈ ps.zip us → (defScope st).names.lookup y.1 = some .local ∨ ((defScope st).names.lookup y.1 = some .cell ∧ ((cellsFrom (s.heap.objs.size + 1) (defScope st).names []).lookup y.1).isSome = true) := by
    intro y hy
    have hm : y.1 ∈ ps := (List.of_mem_zip (a := y.1) (b := y.2) hy).1
    exact (S.par y.1 hm).imp id fun q => ⟨q, PySem.W.cellsFrom_some _ _ _ (Or.inl q)⟩
  apply codeAny_call_function room.depth (inK _ _ look) rfl S.co S.gen rfl (PySem.W.codeRec_of inK code)
  apply bd
  apply wpAny_newFunctionEnv_cells S.kind kinds
  intro env he s1 inn
  cases he
  constructor
  · exact nolim.keeps inn.toInCall.keep
  apply codeAny_func
  have J := inv_start (CX := CX0) (cd := cdv) (f := f) (qual := qual) (E := E) S room.hd e0 hl rv inn
  apply wpAny_mono (hb.nox.run [] s1 (start N vs) H _ J ht)
  · intro fl s' q
    have out : ∀ (v : V) (u : Value) (σ' : L2.St) (H' : Hp), Inv (cxOf CX0 P w K mg base N qual (defScope st) f cdv A outer s H E) [] σ' H' s' → RelV v u → Q v H' → CE outer P w H s Q u s' :=
      fun v u σ' H' I r q => ⟨v, H', I.os, I.bare, I.base, I.hok, r, q⟩
    cases fl
    case ret u => obtain ⟨v, σ', H', I, r, q⟩ := q; exact out v u σ' H' I r q
    case next => obtain ⟨σ', H', I, q⟩ := q; exact out .non .none σ' H' I rfl q
    case brk => obtain ⟨_, _, _, q⟩ := q; exact q.elim
    case cont => obtain ⟨_, _, _, q⟩ := q; exact q.elim
  · exact fun _ _ q => q
/-- the law's call out of the top -/
theorem head_at {fa a : Addr} {s₁ : Shared} {vs : List Value} {ns : List Int} (inK : K.In s₁.heap) (hn : s₁.heap.Ns mainGlobals mg) (hb : s₁.heap.Ns builtinsNs mb) (boot : ∀ x : Str, x ≠ "__name__" → mb x = bootBuiltins x)
    (nolim : s₁.heap.NoLimit) (gens : s₁.gens = #[]) (at_ : s₁.heap.get? a = some { cls := .type "list", data := .seq vs.toArray }) (whole : IntsAre vs ns) (few : ns.length ≤ sizeLine)
    (run : ∀ (base : Heap) (H : Hp), K.In base → base.Ns mainGlobals mg → Env0 P w K mg base callerA [] s₁ H → SqL K H a (ns.map V.int) → codeAny (model P w) callerA (.call (.ref fa) ⟨[.ref a], []⟩) (CR CX0 [] P w H s₁ (fun v _ => v = .bl true) fun _ _ _ => False) s₁) :
    codeAny (model P w) callerA (.call (.ref fa) ⟨[.ref a], []⟩) (fun r s' => r = .ok (.ret (.bool true)) ∧ OldK s₁.heap s'.heap ∧ s'.os = s₁.os ∧ AllBare s'.gens) s₁ := by
  have go : ∀ H : Hp, (∀ b, H b ≠ none → b = a ∧ K.lookup a = none ∧ ∃ o l, H b = some (.frz o (.lst l))) → HOk P w H s₁.heap → SqL K H a (ns.map V.int) →
      codeAny (model P w) callerA (.call (.ref fa) ⟨[.ref a], []⟩) (fun r s' => r = .ok (.ret (.bool true)) ∧ OldK s₁.heap s'.heap ∧ s'.os = s₁.os ∧ AllBare s'.gens) s₁ := by
    intro H only hok sq
    have off : ∀ b, b ≠ a → H b = none := fun b ne => Classical.byContradiction fun q => ne (only b q).1
    have bK : K.In (hidT s₁.heap H) := by
      intro b o q
      apply hidT_get (inK b o q)
      apply Classical.byContradiction
      intro z
      have y := only b z
      rw [y.1, y.2.1] at q
      cases q
    have bN : ∀ {c : Addr} {m : Str → Option Value}, s₁.heap.Ns c m → (hidT s₁.heap H).Ns c m := by
      rintro c m ⟨o, es, ep, q, d, r⟩
      refine ⟨o, es, ep, hidT_get q (off c ?_), d, r⟩
      rintro rfl
      rw [at_] at q
      cases q
      cases d
    have bM : Mod K mg (hidT s₁.heap H) := by
      obtain ⟨mc, l1, l2⟩ := nolim
      exact ⟨bK, bN hn, ⟨mb, bN hb, boot⟩, ⟨mc, bN l1, l2⟩⟩
    have e0 : Env0 P w K mg (hidT s₁.heap H) callerA [] s₁ H := {
      frames := rfl, mod := bM, bs := fun _ _ q => of_hidT q, bsz := Nat.le_of_eq (hidT_size _ _), funs := trivial
      frf := fun b q => (List.not_mem_nil q).elim, hok := hok, bare := .of_eq gens }
    apply codeAny_mono (run _ H bK (bN hn) e0 sq)
    intro r s' res
    match r, res with
    | .error e, res => exact False.elim res
    | .ok .next, res => exact False.elim res
    | .ok .brk, res => exact False.elim res
    | .ok .cont, res => exact False.elim res
    | .ok (.ret u), ⟨v, H', os, bare, un, hok', rv, q⟩ =>
      have q' : v = .bl true := q
      subst q'
      have eu : u = .bool true := rv
      subst eu
      refine ⟨rfl, .of_keep ?_, os, bare⟩
      intro b o q
      by_cases z : H b = none
      · exact un.keep b o q z (fun y => (List.not_mem_nil y).elim) fun y => (List.not_mem_nil y).elim
      · obtain ⟨_, _, ob, l, y⟩ := only b z
        have h1 := (hok b _ y).1
        have h2 := (hok' b _ (un.frzs b ob _ y)).1
        rw [q] at h1
        cases h1
        exact h2
  have rv := vals_ints whole
  cases look : K.lookup a with
  | some o =>
    have q := inK a o look
    rw [at_] at q
    cases q
    apply go fun _ => none
    · exact fun b q => absurd rfl q
    · intro b u q
      cases (show (none : Option HO) = some u from q)
    · exact Or.inr ⟨_, vs.toArray, _, look, rfl, rfl, rfl, by rw [List.size_toArray, whole.length]; exact few, by simpa using rv⟩
  | none =>
    let o0 : Obj := { cls := .type "list", data := .seq vs.toArray }
    have at1 : (fun b => if b = a then some (HO.frz o0 (.lst (ns.map V.int))) else none : Hp) a = some (.frz o0 (.lst (ns.map V.int))) := if_pos rfl
    apply go fun b => if b = a then some (HO.frz o0 (.lst (ns.map V.int))) else none
    · intro b q
      by_cases z : b = a
      · exact ⟨z, look, o0, _, if_pos z⟩
      · exact absurd (if_neg z) q
    · intro b u q
      by_cases z : b = a
      · subst z
        have y := (if_pos rfl).symm.trans q
        cases y
        exact ⟨at_, by rw [List.length_map]; exact few, vs, _, rv, at_⟩
      · cases (if_neg z).symm.trans q
    · exact Or.inl (Or.inr ⟨o0, at1⟩)
end
end DLG

/-! repr of data -/
namespace DLG
open PySem L2
mutual
/-- what v is, seen over the abstract heap -/
inductive RdP (K : PySem.W.Frag) (H : Hp) : V → PyData → Prop
  | non : RdP K H .non .none
  | bl (b : Bool) : RdP K H (.bl b) (.bool b)
  | int (i : Int) : RdP K H (.int i) (.int i)
  | str (x : Str) : RdP K H (.str x) (.str x)
  | lst {a : Addr} {vs : List V} {ps : List PyData} : SqL K H a vs → RdPs K H vs ps → RdP K H (.ref a) (.list ps)
  | tup {a : Addr} {vs : List V} {ps : List PyData} : SqT K H a vs → RdPs K H vs ps → RdP K H (.ref a) (.tuple ps)
inductive RdPs (K : PySem.W.Frag) (H : Hp) : List V → List PyData → Prop
  | nil : RdPs K H [] []
  | cons {v : V} {p : PyData} {vs : List V} {ps : List PyData} : RdP K H v p → RdPs K H vs ps → RdPs K H (v :: vs) (p :: ps)
end
section
variable {X : Cx} {pins : List (Addr × Obj)} {σ : L2.St} {H : Hp} {s : Shared}
mutual
theorem RdP.reads (I : Inv X pins σ H s) : ∀ {v : V} {p : PyData} {u : Value}, RdP X.K H v p → RelV v u → ∃ as, Reads s.heap u p as ∧ p.hasDict = false
  | _, _, u, .non, r => by
    obtain rfl : u = .none := r
    exact ⟨[], .none, by simp only [PyData.hasDict]⟩
  | _, _, u, .bl b, r => by
    obtain rfl : u = .bool b := r
    exact ⟨[], .bool b, by simp only [PyData.hasDict]⟩
  | _, _, u, .int i, r => by
    obtain ⟨t, rfl⟩ := r
    exact ⟨[], .int i t, by simp only [PyData.hasDict]⟩
  | _, _, u, .str x, r => by
    obtain ⟨t, rfl⟩ := r
    exact ⟨[], .str x t, by simp only [PyData.hasDict]⟩
  | _, _, u, .lst (a := a) hs hp, r => by
    obtain rfl : u = .ref a := r
    obtain ⟨its, rv, ⟨o, n, e, c, _, d⟩, _⟩ := I.list hs
    obtain ⟨as, h, nd⟩ := RdPs.reads I hp rv
    exact ⟨_, .list e c d (by simpa using h), by simp only [PyData.hasDict]; exact nd⟩
  | _, _, u, .tup (a := a) hs hp, r => by
    obtain rfl : u = .ref a := r
    obtain ⟨its, rv, ⟨o, e, c, n, d⟩, _⟩ := I.tuple hs
    obtain ⟨as, h, nd⟩ := RdPs.reads I hp rv
    exact ⟨_, .tuple e c d (by simpa using h), by simp only [PyData.hasDict]; exact nd⟩
theorem RdPs.reads (I : Inv X pins σ H s) : ∀ {vs : List V} {ps : List PyData} {us : List Value}, RdPs X.K H vs ps → Vals vs us → ∃ as, ReadsAll s.heap us ps as ∧ PyData.hasDictAll ps = false
  | _, _, _, .nil, .nil => ⟨[], .nil, by simp only [PyData.hasDictAll]⟩
  | _, _, _, .cons a b, .cons ra rb => by
    obtain ⟨as, h1, n1⟩ := RdP.reads I a ra
    obtain ⟨bs, h2, n2⟩ := RdPs.reads I b rb
    exact ⟨_, .cons h1 h2, by simp only [PyData.hasDictAll, n1, n2, Bool.or_self]⟩
end
/-- repr(x) -/
def rRepr (K : PySem.W.Frag) : List V → Hp → VK → Prop := fun xs H Q => ∃ x p, xs = [x] ∧ RdP K H x p ∧ p.showable = true ∧ p.depth ≤ 100 ∧ p.shown.length ≤ sizeLine ∧ Q (.str p.shown) H
theorem call_repr {k : Nat} (hg : X.A.guards = some []) (hr : Room k X.A) : CallR X (.builtin "repr") (rRepr X.K) := by
  intro pins s σ H xs us Q I r h
  obtain ⟨x, p, rfl, hp, sh, dp, sz, q⟩ := h
  obtain ⟨u, rfl, rv⟩ := vals1 r
  have un : X.A.units + (p.depth + 1) < cLine := by
    have := hr.un
    omega
  have big : ∀ (a : Addr), u = .ref a → wpAny (model X.prog X.w) X.A (call (.builtin "repr") [u]) (EP X pins σ Q) X.xe s := by
    rintro a rfl
    obtain ⟨as, rd, nd⟩ := hp.reads I rv
    refine repr_of_reads' rd sh (fun z => by rw [nd] at z; cases z) hg un (fun _ _ e => e) (fun h' u' tk kk => ?_) sz
    exact ⟨.str p.shown, H, I.kept (t' := tk) kk, ⟨u', rfl⟩, q⟩
  cases hp with
  | non =>
    obtain rfl : u = .none := rv
    refine PySem.P.repr_of_none ⟨.str _, H, I.tok _, ⟨_, rfl⟩, ?_⟩
    simpa only [PyData.shown] using q
  | bl b =>
    obtain rfl : u = .bool b := rv
    refine PySem.P.repr_of_bool ⟨.str _, H, I.tok _, ⟨_, rfl⟩, ?_⟩
    simpa only [PyData.shown] using q
  | int i =>
    obtain ⟨t, rfl⟩ := rv
    refine PySem.P.repr_of_int (by simpa [PyData.showable] using sh) ⟨.str _, H, I.tok _, ⟨_, rfl⟩, ?_⟩
    simpa only [PyData.shown] using q
  | str y =>
    obtain ⟨t, rfl⟩ := rv
    refine PySem.P.repr_of_str ⟨.str _, H, I.tok _, ⟨_, rfl⟩, ?_⟩ (by simpa only [PyData.shown] using sz)
    simpa only [PyData.shown] using q
  | lst hs hq => exact big _ rv
  | tup hs hq => exact big _ rv
end
end DLG
namespace DL
open PySem L2
mutual
/-- data as the model's own data -/
def pyD : Dv → Option PyData
  | .non => some .none
  | .bl b => some (.bool b)
  | .int i => some (.int i)
  | .str x => some (.str x)
  | .lst xs => (pyDs xs).map .list
  | .tup xs => (pyDs xs).map .tuple
  | _ => none
def pyDs : List Dv → Option (List PyData)
  | [] => some []
  | x :: xs => match pyD x, pyDs xs with
    | some p, some ps => some (p :: ps)
    | _, _ => none
end
section
variable {K : PySem.W.Frag} {N : Av} {H : Hp}
mutual
theorem Has.rdP : ∀ {v : V} {d : Dv} {p : PyData}, Has K N H v d → pyD d = some p → DLG.RdP K H v p
  | _, _, p, .non, e => by
    simp only [pyD, Option.some.injEq] at e
    subst e
    exact .non
  | _, _, p, .bl b, e => by
    simp only [pyD, Option.some.injEq] at e
    subst e
    exact .bl b
  | _, _, p, .int i, e => by
    simp only [pyD, Option.some.injEq] at e
    subst e
    exact .int i
  | _, _, p, .str x, e => by
    simp only [pyD, Option.some.injEq] at e
    subst e
    exact .str x
  | _, _, p, .raw v, e => by
    simp [pyD] at e
  | _, _, p, .lst hs hl, e => by
    simp only [pyD, Option.map_eq_some_iff] at e
    obtain ⟨ps, e, rfl⟩ := e
    exact .lst hs.l (HasL.rdP hl e)
  | _, _, p, .tup hs hl, e => by
    simp only [pyD, Option.map_eq_some_iff] at e
    obtain ⟨ps, e, rfl⟩ := e
    exact .tup hs.t (HasL.rdP hl e)
  | _, _, p, .ins _ _ _ _, e => by
    simp [pyD] at e
  | _, _, p, .dic _ _ _ _, e => by
    simp [pyD] at e
  | _, _, p, .tpn _ _ _ _, e => by
    simp [pyD] at e
  | _, _, p, .exc0, e => by
    simp [pyD] at e
  | _, _, p, .exc _ _ _ _, e => by
    simp [pyD] at e
theorem HasL.rdP : ∀ {vs : List V} {ds : List Dv} {ps : List PyData}, HasL K N H vs ds → pyDs ds = some ps → DLG.RdPs K H vs ps
  | _, _, ps, .nil, e => by
    simp only [pyDs, Option.some.injEq] at e
    subst e
    exact .nil
  | _, _, ps, .cons (d := d) (ds := ds) a b, e => by
    unfold pyDs at e
    split at e
    · rename_i p qs e1 e2
      cases e
      exact .cons (Has.rdP a e1) (HasL.rdP b e2)
    · cases e
end
def rcRepr : RDC := fun ds W Φ => match ds with
  | [d] => ∃ p, pyD d = some p ∧ p.showable = true ∧ p.depth ≤ 100 ∧ p.shown.length ≤ sizeLine ∧ Φ (.d (.str p.shown)) W
  | _ => False
theorem cd_repr : CallD K (DLG.rRepr K) rcRepr := by
  intro z As W H vs ds Φ Q wl hv h q
  unfold rcRepr at h
  split at h
  · rename_i d
    obtain ⟨p, e, sh, dp, sz, h⟩ := h
    obtain ⟨v, rfl, h1⟩ := hv.one
    refine ⟨v, p, rfl, ?_, sh, dp, sz, q _ H _ As W ExtS.refl wl (.d (.str _)) h⟩
    rcases h1 with h1 | ⟨a, us, xs, rfl, rfl, _, ha, hl⟩ | ⟨_, _, _, _, _, rfl, _⟩
    · exact h1.rdP e
    · simp only [pyD, Option.map_eq_some_iff] at e
      obtain ⟨ps, e, rfl⟩ := e
      exact .lst (.inl (.inl ha)) (hl.rdP e)
    · simp [pyD] at e
  · exact h.elim
end
end DL

/-! the law as a whole, where repr is called -/
namespace DL
open PySem L2
section
variable {P : Program} {w : World} {K : PySem.W.Frag} {mg : Str → Option Value}
/-- the law's def keeps its promise, called out of the top -/
def LawAt (P : Program) (w : World) (K : PySem.W.Frag) (mg : Str → Option Value) (f : Addr) : Prop := ∀ (base : Heap) (H : Hp) (s : Shared) (a : Addr) (ns : List Int), K.In base → base.Ns mainGlobals mg → Env0 P w K mg base callerA [] s H →
  ns.length ≤ 63 → (∀ k, k ∈ ns → Builtin.Int.intBits k ≤ 1048576) → SqL K H a (ns.map V.int) → codeAny (model P w) callerA (.call (.ref f) ⟨[.ref a], []⟩) (CR CX0 [] P w H s (fun v _ => v = .bl true) fun _ _ _ => False) s
theorem okG {x qual : Str} {st : Stmt} {f : Addr} {fd : FuncData} {N : List Str} {k : Nat} (F : Fun K x qual st f fd) (S : FnScope N ["_law_script"] (defScope st)) (B : Binds K fd ["_law_script"] []) (hr : Room (k + 1) callerA)
    (body : ∀ (base : Heap) (cdv : Value) (A : Around) (outer : List Env) (s : Shared) (H : Hp) (E : XK), Room k (A.deeper (PyProof.Rows.envOfC qual (defScope st) s.heap.objs.size f cdv)) → A.guards = some [] →
      ∃ t wb, PDSs (cxOf CX0 P w K mg base N qual (defScope st) f cdv A outer s H E).nox (defBody st) t wb ∧ ∀ xs W Φ, wfLaw xs W Φ → wb (finD Φ) (startD N xs) W) : LawAt P w K mg f := by
  intro base H s a ns hK hN e0 hl hb hS
  have inK : K.In s.heap := e0.mod.kin.keeps fun b o q => (e0.bs b o q).1
  refine DLG.fn_at (us := [.ref a]) (vs := [.ref a]) F S hr e0 (B s [.ref a] inK rfl) (.cons rfl .nil) rfl fun cdv => ?_
  obtain ⟨t, wb, hp, hw⟩ := body base cdv callerA [] s H (fun _ _ _ => False) (hr.deeper _) rfl
  obtain ⟨z, As, W, xs, Φ, wl, hv, h, q⟩ := law_in (K := K) (H := H) (a := a) hl hb hS
  refine ⟨t, hp.ps, hp.ok _ _ (rep_start wl hv) (hw xs W Φ h) ?_⟩
  have ow : ∀ {As' : List (List Addr)} {ow' : Av} {H' : Hp}, ExtS As (owOf fun _ => none) H As' ow' H' → Ext As H As' H' := fun e =>
    ⟨fun b o h1 n1 _ => ⟨(e.keep b o h1 n1 fun ⟨i, q⟩ => by cases q).1, (e.keep b o h1 n1 fun ⟨i, q⟩ => by cases q).2.1, fun f => f⟩, e.at_, e.up⟩
  refine ⟨fun σd' W' O' As' σ' H' e r p => ?_, fun v x W' ow' As' H' e wl' hv' p => q v H' x As' W' (ow e) wl' hv' p, fun _ _ _ _ _ _ _ _ p => p.elim, fun _ _ _ _ _ _ _ _ p => p.elim⟩
  exact q .non H' (.d .non) As' W' (ow e) (r.wld.weak fun a q => .inl q) (.d .non) p
end
end DL

/-! comparing data, in, slices of tuples, tuple(..), zip -/
namespace DLG
open PySem PySem.Spec PyProof.Rows L2
section
variable {X : Cx}
end
end DLG
namespace DL
open PySem L2
section
variable {K : PySem.W.Frag} {N : Av} {H : Hp}
mutual
theorem Has.dp : ∀ {v : V} {d : Dv} {p : PyData}, Has K N H v d → pyD d = some p → Dp K H v p
  | _, _, p, .non, e => by
    simp only [pyD, Option.some.injEq] at e
    subst e
    exact .non
  | _, _, p, .bl b, e => by
    simp only [pyD, Option.some.injEq] at e
    subst e
    exact .bl b
  | _, _, p, .int i, e => by
    simp only [pyD, Option.some.injEq] at e
    subst e
    exact .int i
  | _, _, p, .str x, e => by
    simp only [pyD, Option.some.injEq] at e
    subst e
    exact .str x
  | _, _, p, .raw v, e => by
    simp [pyD] at e
  | _, _, p, .lst hs hl, e => by
    simp only [pyD, Option.map_eq_some_iff] at e
    obtain ⟨ps, e, rfl⟩ := e
    exact .lst hs.l (HasL.dp hl e)
  | _, _, p, .tup hs hl, e => by
    simp only [pyD, Option.map_eq_some_iff] at e
    obtain ⟨ps, e, rfl⟩ := e
    exact .tup hs.t (HasL.dp hl e)
  | _, _, p, .ins _ _ _ _, e => by
    simp [pyD] at e
  | _, _, p, .dic _ _ _ _, e => by
    simp [pyD] at e
  | _, _, p, .tpn _ _ _ _, e => by
    simp [pyD] at e
  | _, _, p, .exc0, e => by
    simp [pyD] at e
  | _, _, p, .exc _ _ _ _, e => by
    simp [pyD] at e
theorem HasL.dp : ∀ {vs : List V} {ds : List Dv} {ps : List PyData}, HasL K N H vs ds → pyDs ds = some ps → DpAll K H vs ps
  | _, _, ps, .nil, e => by
    simp only [pyDs, Option.some.injEq] at e
    subst e
    exact .nil
  | _, _, ps, .cons (d := d) (ds := ds) a b, e => by
    unfold pyDs at e
    split at e
    · rename_i p qs e1 e2
      cases e
      exact .cons (Has.dp a e1) (HasL.dp b e2)
    · cases e
end
theorem HasB.dp {z : Av} {As : List (List Addr)} {v : V} {d : Dv} {p : PyData} (h : HasB K z As H v d) (e : pyD d = some p) : Dp K H v p := by
  rcases h with h1 | ⟨a, us, xs, rfl, rfl, _, ha, hl⟩ | ⟨_, _, _, _, _, rfl, _⟩
  · exact h1.dp e
  · simp only [pyD, Option.map_eq_some_iff] at e
    obtain ⟨ps, e, rfl⟩ := e
    exact .lst (.inl (.inl ha)) (hl.dp e)
  · simp [pyD] at e
/-- == and != of data -/
abbrev rdEqD (f : Bool → Bool) : RD2 := fun x y W Φ => ∃ p q, pyD x = some p ∧ pyD y = some q ∧ SeqAt.shaped p = true ∧ SeqAt.shaped q = true ∧ Φ (.d (.bl (f (PyData.eqv p q)))) W
theorem od_neD : OpD K (rNeD K) (rdEqD not) := by
  intro z As W H x y dx dy Φ Q w hx hy ⟨p, q', e1, e2, s1, s2, h⟩ q
  exact ⟨p, q', hx.dp e1, hy.dp e2, s1, s2, q _ H _ As W ExtS.refl w (.d (.bl _)) h⟩
/-! in -/
end
end DL

namespace DL
open PySem L2 RZ
/-- tuple(x) -/
abbrev wTupOf (we : WB) : WE := fun σd W Φ => we σd W fun x W1 => match x with
  | .lst xs => Φ (.d (.tup xs)) W1
  | .tup xs => Φ (.d (.tup xs)) W1
  | _ => False
section
variable {K : PySem.W.Frag}
theorem HasB.tupH {z : Av} {As : List (List Addr)} {H : Hp} {v : V} {xs : List Dv} (h : HasB K z As H v (.tup xs)) : ∃ a vs, v = .ref a ∧ Tq K (bad z As) H a vs ∧ HasL K (bad z As) H vs xs := by
  rcases h with h | ⟨_, _, _, _, h, _⟩ | ⟨_, _, _, _, _, h, _⟩
  · cases h with
    | tup s l => exact ⟨_, _, rfl, s, l⟩
  · cases h
  · cases h
theorem teo_tupOf {te : TE} {we : WB} (h : TBok K te we) : TEok K (tThen te (kTup K)) (wTupOf we) := by
  intro z O As σd W σ H Φ Q r g q
  refine h _ _ r g fun v H1 x As1 W1 e1 w1 hv p => ?_
  split at p
  · obtain ⟨a, vs, rfl, s, l⟩ := hv.lst
    exact .inl ⟨a, vs, rfl, s, fun t ht => q _ _ _ As1 W1 (e1.trans (Ext.new ht)) (w1.new ht) (.d (.tup (.inl ⟨w1.fresh ht, .inl upd_same⟩) (l.mv (Ext.mv (Ext.new ht))))) p⟩
  · obtain ⟨a, vs, rfl, s, l⟩ := hv.tupH
    exact .inr ⟨a, vs, rfl, s.t, q _ _ _ As1 W1 e1 w1 (.d (.tup s l)) p⟩
  · exact p.elim
end
section
variable {X : Cx} {e a b c : Expr} {lo hi : Option Expr} {te : TE} {we : WB} {tl th : TO} {wl wh : WO} {ta : TA} {p p2 pos pos2 : Pos}
theorem d_tupOf (hg : Gl X "tuple") (hm : X.mg "tuple" = none) (ha : PB X a te we) (na : starEach [a] X.env = (false, eval a X.env) :: starEach [] X.env := by rfl) : PD X (.Call (.Name "tuple" p) [a] [] pos) (tThen te (kTup X.K)) (wTupOf we) := ⟨pe_tupleOf hg hm ha.pe na, teo_tupOf ha.ok⟩
theorem d_repr {k : Nat} {wa : WAB} (hg : X.A.guards = some []) (hr : Room k X.A) (hg' : Gl X "repr") (hm : X.mg "repr" = none) (ha : PAB X [a] ta wa) (he : starEach [a] X.env = (false, eval a X.env) :: starEach [] X.env := by rfl) (hpl : (backTo pos (starEach [] X.env)).any (·.1) = false := by rfl) :
    PD X (.Call (.Name "repr" p) [a] [] pos) (tCB (DLG.rRepr X.K) ta) (wCB rcRepr wa) := d_callB (DLG.call_repr hg hr) cd_repr hg' hm (by decide +kernel) ha (by decide) (by decide) he hpl
end
end DL

namespace DL
open PySem L2
section
variable {K : PySem.W.Frag}
end
section
variable {X : Cx} {tg e : Expr} {te : TE} {we : WE} {g : TG} {tgt : Tgt} {is : List Nat} {pos : Pos}
end
/-! rules for use within comprehensions: the part of the text is named, not the place -/
section
variable {X : Cx} {K : PySem.W.Frag} {o e : Expr} {es : List Expr} {te to : TE} {we wo : WE} {t : TA} {wa : WA} {C fa : Addr} {m f x : Str} {fd : FuncData} {ps : List Str} {wf : WFn} {k : Nat} {dvs : List V} {ds : List Value} {dd : List Dv} {pos apos p : Pos}
theorem g_tupK {es : List Expr} {k : _} (hK : X.K = K) (is : List Nat) (h : PG X (.Tuple es k pos) (gTup X.K is.length (gNames is))) : PGD X (.Tuple es k pos) (gTup K is.length (gNames is)) (tgT is) is := by
  subst hK
  exact g_tup is h
end
end DL

/-! what repr shows of numbers is short -/
namespace DL
open PySem L2
end DL

/-! super().__init__('..') within the __init__ of an own exception over other own ones over ValueError -/
namespace SX
open PySem PySem.Spec PySem.W PyProof.Rows L2 NdefX

section
variable {prog : Program} {w : World} {A : Around} {E : Value → Shared → Prop} {h : Heap} {g : Array GenState} {d : Drawn} {t : Nat} {os : OsState}
theorem mw_call {u e t0 C N : Addr} {nm q : Str} {bs bm : List Value} {hd : Bool} {sn : List Str} {sub : List Value} {ab : Bool} {col : Option Bool} {dd : Option Addr} {k0 k1 k2 k3 k5 : Option Value} {rest : List Value} {Q : Value → Shared → Prop}
    (hC : h.get? C = some (excClassObj nm q C N bs bm hd sn sub ab col dd k0 k1 k2 k3 k5 "ValueError.__new__")) (he : h.get? e = some (PySem.HandSPX.excO C t0)) (hu : h.get? u = some (kxs_mw "ValueError.__init__" e)) (hr : rest.length ≤ sizeLine)
    (hq : ∀ h' t1, (∀ b o, b ≠ e → h.get? b = some o → h'.get? b = some o) → h'.get? e = some (PySem.HandSPX.excO C t1) → Q .none ⟨h', g, d, t, os⟩) : wpAny (model prog w) A (call (.ref u) rest) Q E ⟨h, g, d, t, os⟩ := by
  refine wpAny_call (codeAny_of_tree ?_); show wpAny _ A.in1 (callAny (.ref u) ⟨rest, []⟩) _ _ _
  simp only [callAny]; refine wpAny_bind (wpAny_load hu ?_)
  simp only [kxs_mw]; refine KFB.if_so (by decide) ?_
  refine wpAny_bind (check_bound_init F.excBase_ValueError.toExcCallFacts hC he rfl ?_); refine wpAny_bind (wpAny_pure (wpAny_pure ?_))
  refine ⟨plainId_quiet F.excBase_ValueError.init.plain _, codeAny_builtin F.excBase_ValueError.initEntry ?_⟩
  exact exc_init_tree (cls := .ref C) (t0 := t0) (dv := none) (c2 := .none) (c3 := .none) (b4 := .bool false) he hr fun h' k1 k2 _ => hq h' _ k1 k2
end

/-- what the text and the written part say of such an __init__ -/
structure SupOk (P : Program) (K : PySem.W.Frag) (mg : Str → Option Value) (F : NF) (f C cc : Addr) (fd : FuncData) (slf : Str) : Prop where
  fn : ∃ oc od osl, K.lookup f = some ⟨oc, od, .func fd, osl⟩
  head : ((fd.params.posonlyargs ++ fd.params.args).head?.map (·.arg)) = some slf
  cl : F.cl = [(("__class__" : Str), cc)]
  code : ∃ oc od vs sl file tf, K.lookup F.c = some ⟨oc, od, .fields vs, sl⟩ ∧ vs[2]? = some (.str file tf) ∧ ((P.main.file : Str) == file) = true
  cell : ∃ oc od sl, K.lookup cc = some ⟨oc, od, .cell (some (.ref C)), sl⟩
  isC : PySem.W.isClsIn K C = true
  sub : PySem.W.mroIn K C (.ref C) = some true
  sup : mg "super" = none
  hks : F.scope.names.lookup ("super" : Str) = some .globalImplicit
  hkc : F.scope.names.lookup ("__class__" : Str) = some .free
  hka : F.scope.names.lookup slf = some .local
  top : (P.main.scope.names.lookup ("super" : Str)).isSome = false
  any : PySem.W.nsIn K cStatics "thirdparty.any" = some none
  ini : ks_superIn K C C "__init__" = some (some (.builtin "ValueError.__init__"))
  isV : PySem.W.subIn K (.ref C) (.type "ValueError") = some true

/-- how super().__init__('..') is evaluated: by rfl where the scope is known -/
def SupEv (F : NF) (f : Addr) (txt : Str) (j : Nat) (p0 p1 p2 p3 p4 : Pos) (L : Addr) : Prop :=
  ∃ pl : Sem Bool, eval (.Call (.Attribute (.Call (.Name "super" p0) [] [] p1) "__init__" p2) [.Constant (.str txt) j p3] [] p4) (envF F f L) = (do
    let ov ← attributeBase (.Call (.Name "super" p0) [] [] p1) "__init__" (envF F f L) (eval (.Call (.Name "super" p0) [] [] p1) (envF F f L))
    standAt p2.atName
    let (f', first) ← holding [ov] (getMethod ov "__init__" pl)
    callWith p4 f' first (backTo p4 (starEach [.Constant (.str txt) j p3] (envF F f L))) [])

section
variable {CX : CXT} {P : Program} {w : World} {K : PySem.W.Frag} {mg : Str → Option Value} {base : Heap} {N ps : List Str} {F : NF} {f : Addr} {A : Around} {outer : List Env} {s0 : Shared} {H0 : Hp} {E0 : XK}
theorem sup_step {C cc a : Addr} {fd : FuncData} {self : Str} {i : Nat} {txt : Str} {j : Nat} {p0 p1 p2 p3 p4 p5 : Pos} {body : List Stmt} {pins : List (Addr × Obj)} {σ : L2.St} {H : Hp} {s : Shared} {E : Value → Shared → Prop} {Q : Flow → Shared → Prop}
    (S : SupOk P K mg F f C cc fd self) (T : OexC K C) (hN : N[i]? = some self) (hs : σ[i]? = some (some (V.ref a))) (hk : F.scope.kind = .function)
    (I : Inv (ncx CX P w K mg base N F f A outer s0 H0 E0) pins σ H s) (ea : H a = some (exo a C none))
    (hev : SupEv F f txt j p0 p1 p2 p3 p4 s0.heap.objs.size)
    (hq : ∀ s', Inv (ncx CX P w K mg base N F f A outer s0 H0 E0) pins σ H s' → Q .next s') :
    _root_.PySem.wpAt (model P w) (A.deeper (envF F f s0.heap.objs.size)) (.func body (envF F f s0.heap.objs.size))
      (exec (.Expr (.Call (.Attribute (.Call (.Name "super" p0) [] [] p1) "__init__" p2) [.Constant (.str txt) j p3] [] p4) p5) (envF F f s0.heap.objs.size)) Q E s := by
  have X : K.In s.heap := I.kIn
  obtain ⟨oc, od, osl, hf⟩ := S.fn
  obtain ⟨ar, har, hself⟩ : ∃ ar, (fd.params.posonlyargs ++ fd.params.args).head? = some ar ∧ ar.arg = self := by
    have := S.head
    cases e : (fd.params.posonlyargs ++ fd.params.args).head? with
    | none => rw [e] at this; cases this
    | some ar => rw [e] at this; exact ⟨ar, rfl, Option.some.inj this⟩
  obtain ⟨ccl, cdd, vs, ccs, file, tf, hcode, hvs, hfile⟩ := S.code
  obtain ⟨cl, cld, csl, hcell⟩ := S.cell
  obtain ⟨cdD, hD⟩ : ∃ cd, clsIn K C = some cd := Option.isSome_iff_exists.mp S.isC
  obtain ⟨oD, hD1, hD2⟩ : ∃ oD, s.heap.get? C = some oD ∧ oD.data = .cls cdD := by
    unfold clsIn at hD
    split at hD
    · rename_i c d cd' sl ho
      cases hD
      exact ⟨_, X _ _ ho, rfl⟩
    · cases hD
  obtain ⟨t1, hoa⟩ := exo_at I.hok ea
  obtain ⟨m, hns, hlk⟩ := id I.loc
  obtain ⟨u, ru, hu⟩ := hlk i self (.ref a) hN hs (.inl S.hka)
  obtain rfl : u = Value.ref a := ru
  have hm : m self = some (.ref a) := by
    rcases hu with ⟨_, hu⟩ | ⟨hc, _⟩
    · exact hu
    · have e : F.scope.names.lookup self = some .local := S.hka
      have hc : F.scope.names.lookup self = some .cell ∨ F.scope.names.lookup self = some .free := hc
      rw [e] at hc
      rcases hc with hc | hc <;> cases hc
  obtain ⟨mb, hb1, hb2⟩ := I.mod.blt
  have hglob : s.heap.Ns (envF F f s0.heap.objs.size).globals mg := I.mod.glob.keeps I.bk
  have hbl : s.heap.Ns (envF F f s0.heap.objs.size).builtins mb := hb1.keeps I.bk
  obtain ⟨nm, q, N2, bs, bm, sn, sub, ab, col, dd, k0, k1, k2, k3, k5, hC, hbm⟩ := T.cls
  have hxC : a ≠ C := fun z => by
    have y := X _ _ hC
    rw [← z, hoa] at y
    have y2 := congrArg (fun o : Option Obj => o.map (·.data)) y
    cases y2
  refine ks_wpAt_Expr_any ?_ I.quiet (by rfl)
  obtain ⟨pl, hev⟩ := hev
  refine ks_wpAt_MethodCall (pl := pl) ?_ hev
  refine ks_wpAt_super_base (env := envF F f s0.heap.objs.size) S.hks S.hkc (by decide) rfl (X _ _ hf) rfl har rfl (X _ _ hcode) rfl hvs hfile S.top ?_
  refine ks_loadName_global hk S.hks (Calls.loadGlobal_builtin (env := envF F f s0.heap.objs.size) hglob S.sup hbl ((hb2 "super" (by decide)).trans (by rfl)) ⟨rfl, ?_⟩)
  refine wpAny_loadName_free hk S.hkc (by show List.lookup _ F.cl = _; rw [S.cl]; rfl) ⟨_, X _ _ hcell, rfl⟩ ?_
  rw [hself]
  refine wpAny_loadName_local hk S.hka hns hm ?_
  refine ks_wpAny_isType_cls hD1 hD2 ⟨rfl, ?_⟩
  obtain ⟨hp, g, dr, tk, os⟩ := s
  refine ks_wpAny_call_super hD1 hD2 hoa rfl (fun c e => nomatch e) (looks_mroIn X S.sub) (fun h1 e1 k1 => ?_)
  have X1 : K.In h1 := X.keeps k1
  have hin : Looks (model P w) h1 (isInstance (.ref a) (.type "ValueError")) true := by
    have L : Looks (model P w) h1 (typeOf (.ref a)) (.ref C) := fun A Q E s k q => wpAny_typeOf_ref (k _ _ (k1 _ _ hoa)) q
    exact L.andThen (looks_subIn X1 S.isV)
  have hini := S.ini
  unfold ks_superIn at hini
  rw [hD] at hini
  have hmro : Looks (model P w) h1 (mroOf (.ref C)) cdD.mro := fun A Q E s k q => wpAny_bind ((looks_clsIn X1 hD) A _ E s k (wpAny_pure q))
  refine kxs_getMethod (h := h1) kxs_ValueError e1 (looks_opaque X1 S.any) hmro rfl X1 hini hin hxC (by decide) ?_
  refine kxs_callWith (i := "ValueError.__init__") (x := a) (by rfl) (Calls.evalArgs_plain ?_)
  refine spliced_more (Calls.Constant_str (spliced_none ?_)) (by rfl)
  have hso : h1.get? hp.objs.size = some (ks_superObj C a C) := e1
  have kp : ∀ b o, hp.get? b = some o → (h1.push (kxs_mw "ValueError.__init__" a)).get? b = some o := fun b o e => Heap.get?_push_of_some _ (k1 b o e)
  have hu : (h1.push (kxs_mw "ValueError.__init__" a)).get? h1.objs.size = some (kxs_mw "ValueError.__init__" a) := Heap.get?_push_at rfl rfl
  refine ⟨hu, ?_⟩
  have hu' := kp _ _ hoa
  refine mw_call (X1.keeps (fun b o e => Heap.get?_push_of_some _ e) _ _ hC) hu' hu (by show 1 ≤ sizeLine; rw [sizeLine_eq]; omega) (fun h' t2 k2 e2 => ?_)
  refine hq _ ?_
  have J : Inv (ncx CX P w K mg base N F f A outer s0 H0 E0) pins σ H ⟨h1.push (kxs_mw "ValueError.__init__" a), g, dr, tk + 1 + 1, os⟩ := I.kept (t' := tk + 1 + 1) kp
  have J2 := J.write (t' := tk + 1 + 1) (x := a) (e := a) (o := exo a C none) (by rw [ea]; exact True.intro) (.inl rfl) k2 ⟨_, e2⟩ (exo_ok e2)
  have eu : upd H a (exo a C none) = H := by
    funext b
    by_cases hb : b = a
    · rw [hb, upd_same, ea]
    · rw [upd_ne hb]
  rw [eu] at J2
  exact J2
theorem fn_sup {k : Nat} {C cc : Addr} {dV kV doc pm ct : Value} {an : Option Addr} {slf : Str} {txt : Str} {j : Nat} {p0 p1 p2 p3 p4 p5 : Pos} {rest : List Stmt} {sp : Sp}
    (S : SupOk P K mg F f C cc (ksFn F.name F.qual F.params F.body F.scope dV kV doc pm an (.ref F.c) ct cc) slf) (T : OexC K C) (NS : NScope N ps ["__class__"] F.scope) (hcd : codeIn K (.ref F.c) F.qual = true)
    (hbd : F.body = .Expr (.Call (.Attribute (.Call (.Name "super" p0) [] [] p1) "__init__" p2) [.Constant (.str txt) j p3] [] p4) p5 :: rest) (hev : ∀ L, SupEv F f txt j p0 p1 p2 p3 p4 L) (h0 : N[0]? = some slf)
    (len : ∀ vs H Q E, sp vs H Q E → vs.length = ps.length)
    (hb : ∀ (A : Around) (outer : List Env) (s : Shared) (H : Hp) (vs : List V) (Q : VK) (E : XK), Room k (A.deeper (envF F f s.heap.objs.size)) → sp vs H Q E →
      ∃ a tl t, vs = V.ref a :: tl ∧ H a = some (exo a C none) ∧ PSs (ncx CX P w K mg base N F f A outer s H E) rest t ∧ t { nx := fun _ H' => Q .non H', rt := Q } (startF N vs [none]) H) :
    FnOk P w K mg base CX (k + 1) f (ksFn F.name F.qual F.params F.body F.scope dV kV doc pm an (.ref F.c) ct cc) ps sp := by
  refine ⟨len, fun A outer s H args us vs Q E hr e0 hbi r hsp => ?_⟩
  have hl := len _ _ _ _ hsp
  have KX : K.In s.heap := e0.mod.kin.keeps fun b o e => (e0.bs b o e).1
  have lim : s.heap.NoLimit := e0.mod.nolimit.keeps fun b o e => (e0.bs b o e).1
  obtain ⟨oc, od, osl, lk⟩ := S.fn
  obtain ⟨cl, cld, csl, hcell⟩ := S.cell
  have CA : CellsAt F.cl ["__class__"] [none] s.heap H := by
    have hk : ∀ y c, F.cl.lookup y = some c → c = cc ∧ y = ("__class__" : Str) := fun y c e => by
      rw [S.cl] at e
      simp only [List.lookup] at e
      split at e
      · rename_i q
        exact ⟨(Option.some.inj e).symm, beq_iff_eq.mp q⟩
      · cases e
    refine ⟨rfl, fun y c e => ?_, fun x y c e1 e2 => (hk x c e1).2.trans (hk y c e2).2.symm, fun i y e => ?_⟩
    · obtain ⟨rfl, _⟩ := hk y c e
      exact ⟨(e0.bs _ _ (e0.mod.kin _ _ hcell)).2, ⟨_, _, KX _ _ hcell, rfl⟩⟩
    · cases i with
      | zero =>
        have e : y = ("__class__" : Str) := (Option.some.inj e).symm
        subst e
        exact ⟨cc, by rw [S.cl]; rfl, fun v q => nomatch q⟩
      | succ i => exact nomatch e
  refine ks_codeAny_call_defAt hr.depth (KX _ _ lk) rfl lim (PySem.W.codeRec_of KX hcd) rfl hbi NS.nocell (fun ⟨n, v⟩ hy => NS.par n (List.of_mem_zip hy).1) (fun h₁ hns kp => ?_) NS.co NS.gen NS.kind
  have I : Inv (ncx CX P w K mg base N F f A outer s H E) [] (startF N vs [none]) H { s with heap := h₁, toks := s.toks + (ps.zip us).length } := inv_startN NS hr.hd e0 hl r CA hns kp
  obtain ⟨a, tl, t, ev, ea, ht, hq⟩ := hb A outer s H vs Q E (hr.deeper _) hsp
  have ee : callEnv (ksFn F.name F.qual F.params F.body F.scope dV kV doc pm an (.ref F.c) ct cc) s.heap.objs.size f = envF F f s.heap.objs.size := by
    unfold envF
    rw [S.cl]
    rfl
  rw [ee]
  show _root_.PySem.wpAt (model P w) (A.deeper (envF F f s.heap.objs.size)) (.func F.body (envF F f s.heap.objs.size)) (execs F.body (envF F f s.heap.objs.size)) _ _ _
  rw [hbd]
  refine ks_wpAt_execs_cons (sup_step (i := 0) S T h0 (by rw [ev]; rfl) NS.kind I ea (hev _) fun s' J => ?_)
  refine wpAt_of_wpAny (wpAny_mono (ht.run [] s' (startF N vs [none]) H _ J hq) (fun fl s' hs => ?_) fun e s' hs => hs)
  have fin : ∀ {σ' : L2.St} {H' : Hp} {v : V} {u : Value}, Inv (ncx CX P w K mg base N F f A outer s H E) [] σ' H' s' → L2.RelV v u → Q v H' → CE outer P w H s Q u s' :=
    fun {σ' H' v u} J rv q => ⟨v, H', J.os, J.bare, J.base, J.hok, rv, q⟩
  cases fl with
  | ret u =>
    obtain ⟨v, σ', H', J, rv, q⟩ := hs
    exact fin J rv q
  | next =>
    obtain ⟨σ', H', J, q⟩ := hs
    exact fin (v := V.non) (u := Value.none) J rfl q
  | brk => exact hs.elim fun _ z => z.elim fun _ z => z.2.elim
  | cont => exact hs.elim fun _ z => z.elim fun _ z => z.2.elim
end
end SX

/-! C() and C(e) of own exceptions whose __init__ says super().__init__('..') -/
namespace SX
open PySem PySem.Spec PySem.W PyProof.Rows L2 NdefX

/-- __init__(self): super().__init__('..') -/
def spS0 (C : Addr) : Sp := fun vs H Q _ => ∃ a, vs = [V.ref a] ∧ H a = some (exo a C none) ∧ Q .non H
/-- __init__(self, x): super().__init__('..'); self.f = x -/
def spS1 (C : Addr) (fld : Str) : Sp := fun vs H Q _ => ∃ a v, vs = [V.ref a, v] ∧ H a = some (exo a C none) ∧ ∀ dx, H dx = none → dx ≠ a → Q .non (upd (upd H dx (exd dx [(fld, v)])) a (exo a C (some dx)))
section
variable {P : Program} {w : World} {K : PySem.W.Frag} {mg : Str → Option Value} {base : Heap} {N : List Str} {F : NF} {f : Addr}
theorem fn_s0 {k : Nat} {C cc : Addr} {dV kV doc pm ct : Value} {an : Option Addr} {txt : Str} {j : Nat} {p0 p1 p2 p3 p4 p5 : Pos}
    (S : SupOk P K mg F f C cc (ksFn F.name F.qual F.params F.body F.scope dV kV doc pm an (.ref F.c) ct cc) "self") (T : OexC K C) (NS : NScope N ["self"] ["__class__"] F.scope) (hcd : codeIn K (.ref F.c) F.qual = true)
    (hbd : F.body = [.Expr (.Call (.Attribute (.Call (.Name "super" p0) [] [] p1) "__init__" p2) [.Constant (.str txt) j p3] [] p4) p5]) (hev : ∀ L, SupEv F f txt j p0 p1 p2 p3 p4 L) (h0 : N[0]? = some ("self" : Str)) :
    FnOk P w K mg base CX0 (k + 1) f (ksFn F.name F.qual F.params F.body F.scope dV kV doc pm an (.ref F.c) ct cc) ["self"] (spS0 C) := by
  refine fn_sup S T NS hcd hbd hev h0 (fun vs H Q E h => ?_) fun A outer s H vs Q E hr h => ?_
  · obtain ⟨a, rfl, _⟩ := h
    rfl
  · obtain ⟨a, rfl, ea, q⟩ := h
    exact ⟨a, [], tNext, rfl, ea, pss_nil, q⟩
theorem fn_s1 {k : Nat} {C cc : Addr} {dV kV doc pm ct : Value} {an : Option Addr} {txt fld x : Str} {j : Nat} {p0 p1 p2 p3 p4 p5 p6 p7 p8 p9 : Pos}
    (S : SupOk P K mg F f C cc (ksFn F.name F.qual F.params F.body F.scope dV kV doc pm an (.ref F.c) ct cc) "self") (T : OexC K C) (NS : NScope N ["self", x] ["__class__"] F.scope) (hcd : codeIn K (.ref F.c) F.qual = true)
    (hbd : F.body = [.Expr (.Call (.Attribute (.Call (.Name "super" p0) [] [] p1) "__init__" p2) [.Constant (.str txt) j p3] [] p4) p5, .Assign [.Attribute (.Name "self" p6) fld p7] (.Name x p8) p9]) (hev : ∀ L, SupEv F f txt j p0 p1 p2 p3 p4 L) (h0 : N[0]? = some ("self" : Str)) (h1 : N[1]? = some x)
    (hx : F.scope.names.lookup x = some .local) (hno : PySem.W.findIn K (.ref C) fld = some none) (hd : (x == ("__debug__" : Str)) = false) (hcd2 : (x == ("__classdict__" : Str)) = false)
    (hs : ∀ L, swapsWith (.Name x p8) (some (.Attribute (.Name "self" p6) fld p7)) p9.line (envF F f L) = pure false) :
    FnOk P w K mg base CX0 (k + 1) f (ksFn F.name F.qual F.params F.body F.scope dV kV doc pm an (.ref F.c) ct cc) ["self", x] (spS1 C fld) := by
  refine fn_sup S T NS hcd hbd hev h0 (fun vs H Q E h => ?_) fun A outer s H vs Q E hr h => ?_
  · obtain ⟨a, v, rfl, _⟩ := h
    rfl
  · obtain ⟨a, v, rfl, ea, q⟩ := h
    have S1 : PE (ncx CX0 P w K mg base N F f A outer s H E) (.Name "self" p6) (tVar 0) := pe_var h0 (.inl S.hka) (by decide) (by decide)
    have S2 : PE (ncx CX0 P w K mg base N F f A outer s H E) (.Name x p8) (tVar 1) := pe_var h1 (.inl hx) hd hcd2
    exact ⟨a, [v], _, rfl, ea, pss_cons (ps_ost (f := fld) S1 S2 (hs _)) pss_nil, ⟨v, rfl, V.ref a, rfl, a, C, rfl, T, hno, .inl ⟨ea, fun dx n ne => q dx n ne⟩⟩⟩
end

section
variable {X : Cx} {x : Str} {p pos : Pos} {C fI : Addr} {k : Nat} {fd : FuncData}
/-- C() -/
theorem pmk_s0 (T : OexC X.K C) (iC : PySem.W.findIn X.K (.ref C) "__init__" = some (some (.ref fI))) (tI : PySem.W.typeIn X.K (.ref fI) = some (.type "function"))
    (F1 : FnOk X.prog X.w X.K X.mg X.base CX0 k fI fd ["self"] (spS0 C)) (hr : Room (k + 1) X.A) (hb : Binds X.K fd ["self"] []) (hg : Gl X x) (hm : X.mg x = some (.ref C)) (hdb : (x == ("__debug__" : Str)) = false := by decide) :
    PMk X (.Call (.Name x p) [] [] pos) (fun _ H Q => Q (.ref C) none H) := by
  intro pins s σ H Q I hQ
  obtain ⟨nm, q, N, bs, bm, sn, sub, ab, col, dd, k0, k1, k2, k3, k5, hC, hbm⟩ := T.cls
  refine wpAny_Call_Name_kw (ld_glob I hg hm ?_ hdb); refine PySem.W.callWith_K0 I.kIn T.kC ?_
  obtain ⟨hp, g, dr, tk, os⟩ := s
  have hsz : hp.objs.size ≤ hp.objs.size + 1 := Nat.le_succ _
  have hn : H (hp.objs.size + 1) = none := I.hok.fresh hsz
  generalize ha : hp.objs.size + 1 = a at hn hsz
  have kk : ∀ b o, hp.get? b = some o → ((hp.push (PySem.W.kdv_tup [])).push (PySem.HandSPX.excO C hp.objs.size)).get? b = some o := fun b o e => Heap.get?_push_of_some _ (Heap.get?_push_of_some _ e)
  have hget : ((hp.push (PySem.W.kdv_tup [])).push (PySem.HandSPX.excO C hp.objs.size)).get? a = some (PySem.HandSPX.excO C hp.objs.size) := by rw [← ha]; heap_get
  have I2 : Inv X pins σ (upd H a (exo a C none)) ⟨(hp.push (PySem.W.kdv_tup [])).push (PySem.HandSPX.excO C hp.objs.size), g, dr, tk, os⟩ :=
    I.laid (t' := tk) (a := a) (o := exo a C none) (h' := (hp.push (PySem.W.kdv_tup [])).push (PySem.HandSPX.excO C hp.objs.size)) kk hsz (exo_ok hget)
  have bnd := hb ⟨(hp.push (PySem.W.kdv_tup [])).push (PySem.HandSPX.excO C hp.objs.size), g, dr, tk, os⟩ [Value.ref a] I2.kIn rfl
  refine wpAny_call (PySem.HandSPX.call_own F.excBase_ValueError (fun Y => PySem.HandSPX.refsVE_contains Y bm hbm) (I.kIn _ _ hC) (PySem.W.looks_findIn I.kIn iC) (fun self => PySem.W.bind_fn I.kIn self tI) (by show 0 ≤ _; exact Nat.zero_le _) ?_)
  rw [ha]
  refine codeAny_mono (F1.run _ X.stack _ _ ⟨[Value.ref a], []⟩ [Value.ref a] [V.ref a] (fun v H2 => v = .non ∧ H2 = upd H a (exo a C none)) (fun _ _ _ => False) (hr.make C [] []) (I2.env0.make C [] []) bnd (.cons rfl .nil) ⟨a, rfl, upd_same, rfl, rfl⟩) fun r s' hq => ?_
  cases r with
  | error er => exact (hq : False).elim
  | ok fl =>
    cases fl with
    | next => exact False.elim hq
    | brk => exact False.elim hq
    | cont => exact False.elim hq
    | ret u =>
      obtain ⟨v, H2, os2, bare, un, hok, rv, ev, e2⟩ := hq
      subst e2
      subst ev
      obtain ⟨h2, g2, d2, t2, os'⟩ := s'
      refine ⟨rv, ?_⟩
      obtain ⟨t0, hoe⟩ := exo_at hok upd_same
      obtain ⟨G, g1', g2'⟩ := restrict h2 fun b => decide (b ≠ a)
      have gk : ∀ b, b ≠ a → G.get? b = h2.get? b := fun b hb => g1' b (decide_eq_true hb)
      have ge : G.get? a = none := g2' a (by simp)
      have nha : ∀ {b : Addr} {o : Obj}, hp.get? b = some o → b ≠ a := fun {b o} z => Nat.ne_of_lt (Nat.lt_of_lt_of_le (Heap.lt_size z) hsz)
      have nH : ∀ {b : Addr} {o : HO}, H b = some o → b ≠ a := fun {b o} z e => by rw [e, hn] at z; cases z
      have up : ∀ {b : Addr}, b ≠ a → H b = none → upd H a (exo a C none) b = none := fun {b} hb n => (upd_ne hb).trans n
      have U : Un (frs X.stack) [] H H hp G :=
        ⟨fun b o z n hf hx => (gk b (nha z)).trans (un.keep b o (kk b o z) (up (nha z) n) hf hx), fun b o z n hf hx => by rw [gk b (nha z)]; exact un.slot b o (kk b o z) (up (nha z) n) hf hx,
         fun b o z n hx => n, fun b o z hx => by rw [gk b (nha z)]; exact un.there b o (kk b o z) hx, fun _ _ z => z, fun _ _ _ z => z, fun _ _ z => ⟨#[], by rw [z]; simp⟩⟩
      have hok3 : HOk X.prog X.w H G := fun b o z => by
        have z2 : upd H a (exo a C none) b = some o := (upd_ne (nH z)).trans z
        refine ((hok b o z2).stay (H' := H) (fun c v hc y => ?_) (fun c hc => ?_) fun c xs hc => ?_)
        · have hca : c ≠ a := by
            rcases hc with hc | hc
            · rw [hc]
              exact nH z
            · exact at_ne upd_same hc exo_own
          exact (gk c hca).trans y
        · have hca : c ≠ a := at_ne upd_same hc exo_own
          exact (upd_ne hca).symm.trans hc
        · have hca : c ≠ a := at_ne upd_same hc exo_tup
          exact (upd_ne hca).symm.trans hc
      have os2 : os' = os := os2
      have J : Inv X pins σ H ⟨G, g2, d2, t2, os'⟩ := I.call' (s' := ⟨G, g2, d2, t2, os'⟩) (ch := []) os2 U hok3 bare (fun b z => absurd z (by simp))
      refine ⟨a, _, _, ⟨G, g2, d2, t2, os'⟩, H, .ref C, none, rfl, J, fun b o z => ?_, ge, hoe, ⟨rfl, rfl⟩, rfl, rfl, hn, rfl, bare, raises_own T.exC T.tyC, hQ⟩
      by_cases hba : b = a
      · rw [hba, ge] at z
        cases z
      · exact (gk b hba).symm.trans z
end
end SX

/-! exceptions, over data -/
namespace DL
open PySem L2

/-! ### judgements that may let an exception out -/
structure PDX (X : Cx) (e : Expr) (t : WX → TE) (w : XW → WE) : Prop where
  pe : ∀ Wx, Takes X Wx → PE X e (t Wx)
  ok : TEX X.K t w
structure PDSX (X : Cx) (s : Stmt) (t : WX → TS) (w : XW → WSt) : Prop where
  ps : ∀ Wx, Takes X Wx → PS X s (t Wx)
  ok : TSX X.K t w
/-- made exceptions -/
abbrev TMk := L2.St → Hp → XK → Prop
abbrev WMk := DS → WS → XF → Prop
structure PDM (X : Cx) (e : Expr) (t : TMk) (w : WMk) : Prop where
  pm : PMk X e t
  ok : ∀ {z : Av} {O : Nat → Option Addr} {As : List (List Addr)} {σd : DS} {W : WS} {σ : L2.St} {H : Hp} (Φ : XF) (Q : XK), Rep X.K z O As σd W σ H → w σd W Φ →
    (∀ C d ks ds As' W' H', Ext As H As' H' → Wld X.K (zo z (owOf O)) As' W' H' → ExF X.K (bad (zo z (owOf O)) As') H' d C ks ds → Φ C ks ds W' → Q (.ref C) d H') → t σ H Q

/-! ### what lets nothing out -/
section
variable {K : PySem.W.Frag} {te : TE} {we : WE} {t : TS} {wt : WSt}
end
section
variable {X : Cx} {e a b : Expr} {es : List Expr} {st : Stmt} {rest : List Stmt} {te : TE} {we : WE} {t u : TS} {wt wu : WSt} {tX uX : WX → TS} {wX vX : XW → WSt} {teX : WX → TE} {weX : XW → WE} {tbX : WX → TE} {wbX : XW → WB} {pos pos' : Pos} {x : Str}
/-! ### sequences, if -/
/-! ### statements over expressions that may let one out -/
/-! ### raise -/
/-! ### isinstance(C(..), D), str(..), not .. -/
end
end DL

/-! defs that raise, what makes exceptions, over data -/
namespace DL
open PySem L2
/-! ### exceptions made -/
section
variable {X : Cx} {x : Str} {p pos : Pos} {C fI : Addr} {k : Nat} {fd : FuncData} {e : Expr} {te : TE} {we : WE} {wa : WA} {ta : TA}
/-- C() -/
theorem m_0 (T : OexC X.K C) (iC : PySem.W.findIn X.K (.ref C) "__init__" = some (some (.ref fI))) (tI : PySem.W.typeIn X.K (.ref fI) = some (.type "function"))
    (F1 : FnOk X.prog X.w X.K X.mg X.base CX0 k fI fd ["self"] (SX.spS0 C)) (hr : Room (k + 1) X.A) (hb : Binds X.K fd ["self"] []) (hg : Gl X x) (hm : X.mg x = some (.ref C)) (hdb : (x == ("__debug__" : Str)) = false := by decide) :
    PDM X (.Call (.Name x p) [] [] pos) (fun _ H Q => Q (.ref C) none H) (fun _ W Φ => Φ C [] [] W) := by
  refine ⟨SX.pmk_s0 T iC tI F1 hr hb hg hm hdb, ?_⟩
  intro z O As σd W σ H Φ Q r g q
  exact q C none [] [] As W H ExtS.refl r.wld (fun _ => .exc0) g
/-- C(e), C keeping it as the field f -/
theorem m_1 {f y : Str} (T : OexC X.K C) (iC : PySem.W.findIn X.K (.ref C) "__init__" = some (some (.ref fI))) (tI : PySem.W.typeIn X.K (.ref fI) = some (.type "function"))
    (F1 : FnOk X.prog X.w X.K X.mg X.base CX0 k fI fd ["self", y] (SX.spS1 C f)) (hr : Room (k + 1) X.A) (hb : Binds X.K fd ["self", y] []) (hg : Gl X x) (hm : X.mg x = some (.ref C)) (he : PD X e te we) (hdb : (x == ("__debug__" : Str)) = false := by decide)
    (hst : starEach [e] X.env = (false, eval e X.env) :: starEach [] X.env := by rfl) :
    PDM X (.Call (.Name x p) [e] [] pos) (tMkO C (SX.spS1 C f) [] (tCons te tNil)) (fun σd W Φ => we σd W fun v W' => match v with | .d v => Φ C [f] [v] W' | .box _ => False) := by
  refine ⟨pmk_oex T iC tI F1 hr hb .nil pass0 hg hm (pa_cons he.pe pa_nil hst) hdb hst (by rfl), ?_⟩
  intro z O As σd W σ H Φ Q r g q
  refine he.ok _ _ r g fun v H1 dv As1 W1 ex wl hv p => ?_
  cases dv with
  | box j => exact p.elim
  | d dv =>
    cases hv with
    | d hv =>
      refine ⟨by show 1 ≤ 1000; decide, fun a ha => ⟨a, v, rfl, upd_same, fun dx hdx ne => ⟨rfl, dx, [(f, v)], upd_same, ?_, ?_, ?_⟩⟩⟩
      · rw [upd_ne ne, upd_same]
      · rw [upd_ne ne] at hdx
        exact hdx
      · have hd1 : H1 dx = none := by rw [upd_ne ne] at hdx; exact hdx
        have eH : upd (del (upd (upd (upd H1 a (exo a C none)) dx (exd dx [(f, v)])) a (exo a C (some dx))) a) dx (.xd [(f, v)]) = upd H1 dx (.xd [(f, v)]) := by
          funext b
          by_cases h1 : b = dx
          · rw [h1, upd_same, upd_same]
          · rw [upd_ne h1, upd_ne h1]
            by_cases h2 : b = a
            · rw [h2, del_same, ha]
            · rw [del_ne h2, upd_ne h2, upd_ne h1, upd_ne h2]
        rw [eH]
        have en : Ext As1 H1 As1 (upd H1 dx (.xd [(f, v)])) := Ext.new hd1
        refine q C (some dx) [f] [dv] As1 W1 _ (ex.trans en) (wl.new hd1) (fun _ => ?_) p
        exact .exc (vs := [v]) (wl.fresh hd1) upd_same (.cons (hv.mv (Ext.mv en)) .nil) rfl
end

/-! ### defs that raise -/
section
variable {P : Program} {w : World} {K : PySem.W.Frag} {mg : Str → Option Value} {base : Heap}
end

/-! ### calls that may raise -/
section
variable {X : Cx} {CX : CXT} {k : Nat} {f C : Addr} {fd : FuncData} {ps : List Str} {sp : Sp} {E : L2.St → XK} {x m : Str} {p pos apos : Pos} {e o : Expr} {es : List Expr} {t : TA} {ds : List Value} {dvs : List V}
end
section
variable {X : Cx} {x f m : Str} {p pos apos pos' : Pos} {e o value : Expr} {es : List Expr} {t : TA} {wa : WA} {wf : WFnX} {C fa pa g : Addr} {fd : FuncData} {ps : List Str} {k : Nat} {ds : List Value} {dvs : List V} {dd : List Dv} {te to : TE} {we wo : WE}
end
end DL

/-! try: body, except B as n: suite, over data -/
namespace DL
open PySem L2
section
variable {K : PySem.W.Frag} {z : Av} {O : Nat → Option Addr} {As As' : List (List Addr)} {σd : DS} {W W' : WS} {σ : L2.St} {H H' : Hp}
end
section
variable {X : Cx} {x n : Str} {B : Addr} {i : Nat} {body suite : List Stmt} {b₀ : Stmt} {np pos pos' : Pos} {tx : WX → TS} {wx : XW → WSt} {ts : Addr → Value → Option Addr → TS} {ws : Addr → Value → Option Addr → WSt}
end

/-! ### in the suite: isinstance(e, C), e.f -/
section
variable {X : Cx} {a : Addr} {oe : Obj} {cls : Value} {d : Option Addr} {pn : List (Addr × Obj)} {e : Expr} {es : List Expr} {te : TE} {we : WE} {ta : TA} {wa : WAB} {p pos : Pos} {f : Str}
end
end DL

namespace DL
open PySem L2
/-! ### what may be promised -/
section
variable {P : Program} {w : World} {K : PySem.W.Frag} {mg : Str → Option Value} {base : Heap} {CX : CXT} {k : Nat} {f : Addr} {fd : FuncData} {ps : List Str}
theorem fn_false : FnOk P w K mg base CX k f fd ps (spD K fun _ _ _ => False) := by
  refine ⟨fun vs H Q E h => ?_, fun A outer s H args us vs Q E hr he hb hv h => ?_⟩
  · obtain ⟨_, _, _, _, _, _, _, h, _⟩ := h
    exact h.elim
  · obtain ⟨_, _, _, _, _, _, _, h, _⟩ := h
    exact h.elim
/-- one promise of many -/
theorem fn_any {ι : Type} {wf : ι → WFn} (F : ∀ i, FnOk P w K mg base CX k f fd ps (spD K (wf i))) : FnOk P w K mg base CX k f fd ps (spD K fun xs W Φ => ∃ i, wf i xs W Φ) := by
  refine ⟨fun vs H Q E h => ?_, fun A outer s H args us vs Q E hr he hb hv h => ?_⟩
  · obtain ⟨z, As, W, xs, Φ, a, b, ⟨i, c⟩, d⟩ := h
    exact (F i).len vs H Q E ⟨z, As, W, xs, Φ, a, b, c, d⟩
  · obtain ⟨z, As, W, xs, Φ, a, b, ⟨i, c⟩, d⟩ := h
    exact (F i).run A outer s H args us vs Q E hr he hb hv ⟨z, As, W, xs, Φ, a, b, c, d⟩
end
theorem d_callK {X : Cx} {K : PySem.W.Frag} {x : Str} {p pos : Pos} {e : Expr} {es : List Expr} {t : TA} {wa : WA} {wf : WFn} {f : Addr} {fd : FuncData} {ps : List Str} {k : Nat} {ds : List Value} {dvs : List V} {dd : List Dv} (hK : X.K = K) (F : FnOk X.prog X.w X.K X.mg X.base CX0 k f fd ps (spD X.K wf)) (hr : Room k X.A) (hg : Gl X x) (hm : X.mg x = some (.ref f)) (hk : PySem.W.keepIn X.K (.ref f) = true) (hb : Binds X.K fd ps ds) (hd : Vals dvs ds) (hc : Cn X.K dvs dd)
    (ha : PAD X (e :: es) t wa) (hdb : (x == ("__debug__" : Str)) = false := by decide) (he : starEach (e :: es) X.env = (false, eval e X.env) :: starEach es X.env := by rfl) (hpl : (backTo pos (starEach es X.env)).any (·.1) = false := by rfl) :
    PD X (.Call (.Name x p) (e :: es) [] pos) (tCall (spD K wf) dvs E0 t) (wCall wf dd wa) := by
  subst hK
  exact d_call F hr hg hm hk hb hd hc ha hdb he hpl
/-- a comprehension whose elements are drawn -/
theorem lcL_any {tgt : Tgt} {we : WE} {vs : List Nat} {σ : DS} (Pd : Dv → Prop) {W : WS} : ∀ {xs acc : List Dv} {Φ : List Dv → WS → Prop},
    (∀ x, x ∈ xs → ∃ σ2, tgt (.d x) (wipeD σ vs) = some σ2 ∧ ∀ (Ψ : Sv → WS → Prop), (∀ y, Pd y → Ψ (.d y) W) → we σ2 W Ψ) →
    (∀ ys, ys.length = xs.length → (∀ y, y ∈ ys → Pd y) → Φ (acc ++ ys) W) → wLcL tgt wYes we vs σ xs acc W Φ
  | [], acc, Φ, _, h => by
    unfold wLcL
    have := h [] rfl (fun y hy => (List.not_mem_nil hy).elim)
    rw [List.append_nil] at this
    exact this
  | x :: xs, acc, Φ, hx, h => by
    obtain ⟨σ2, e, he⟩ := hx x List.mem_cons_self
    unfold wLcL
    rw [e]
    dsimp only [wYes]
    rw [if_pos rfl]
    refine he _ fun y hy => ?_
    refine lcL_any Pd (fun z hz => hx z (List.mem_cons_of_mem _ hz)) fun ys hl hp => ?_
    have := h (y :: ys) (by simp [hl]) (fun z hz => by
      rcases List.mem_cons.mp hz with rfl | hz
      · exact hy
      · exact hp z hz)
    rw [List.append_assoc]
    exact this
/-! ### things of any kind -/
def thgBase : List Dv := [.non, .bl true, .bl false, .int 0, .int 1, .int (0 - 2), .str "", .str "take", .str "never", .str "always", .str "all", .tup [], .lst [], .tup [.str "mark", .str "now", .int 1]]
inductive Thg : Nat → Dv → Prop
  | base {n : Nat} {d : Dv} : d ∈ thgBase → Thg n d
  | lst {n : Nat} {xs : List Dv} : xs.length ≤ 3 → (∀ x, x ∈ xs → Thg n x) → Thg (n + 1) (.lst xs)
  | tup {n : Nat} {xs : List Dv} : xs.length ≤ 3 → (∀ x, x ∈ xs → Thg n x) → Thg (n + 1) (.tup xs)
def wfThing (n : Nat) : WFn := fun xs W Φ => ∃ j, xs = [.box j, .d (.int n)] ∧ W[j]? = some (.obj dealK) ∧ ∀ d, Thg n d → Φ (.d d) W
end DL
namespace SX
open PySem PySem.Spec PySem.W PyProof.Rows L2 NdefX
section
variable {K : PySem.W.Frag} {nm q nm2 q2 : Str} {C N F N2 : Addr} {bs bm bs2 : List Value} {hd hd2 : Bool} {sn sn2 : List Str} {sub sub2 : List Value} {ab ab2 : Bool} {col col2 : Option Bool} {dd dd2 : Option Addr} {k0 k1 k2 k3 k5 j0 j1 j2 j3 j5 : Option Value} {nid nid2 : String} {r : Option (Option Value)}
theorem ini_of (h1 : K.lookup C = some (excClassObj nm q C N bs (.ref F :: bm) hd sn sub ab col dd k0 k1 k2 k3 k5 nid)) (h2 : K.lookup F = some (excClassObj nm2 q2 F N2 bs2 bm hd2 sn2 sub2 ab2 col2 dd2 j0 j1 j2 j3 j5 nid2)) (h3 : findIn K (.ref F) "__init__" = r) : ks_superIn K C C "__init__" = r := by
  have e1 : clsIn K C = some { name := nm, bases := bs, mro := .ref C :: .ref F :: bm, ns := N, qualname := q, hasDict := hd, slotNames := sn, subclasses := sub, abstract := ab, collection := col, hasDel := false } := by unfold clsIn; rw [h1] <;> rfl
  unfold ks_superIn
  rw [e1]
  unfold findIn at h3
  dsimp only at h3
  rw [h2] at h3
  show alongIn K "__init__" (List.drop 1 (List.dropWhile (fun x => x != Value.ref C) (.ref C :: .ref F :: bm))) = r
  have e2 : List.dropWhile (fun x => x != Value.ref C) (Value.ref C :: .ref F :: bm) = Value.ref C :: .ref F :: bm := by simp [List.dropWhile_cons]
  rw [e2]
  exact h3
end
end SX

/-! rules for the bodies of try, the part of the text named -/
namespace DL
open PySem L2
section
variable {X : Cx} {K : PySem.W.Frag} {x f m : Str} {p pos apos pos' : Pos} {e o value : Expr} {es : List Expr} {t : TA} {wa : WA} {wf : WFnX} {C fa pa g : Addr} {fd : FuncData} {ps : List Str} {k : Nat} {ds : List Value} {dvs : List V} {dd : List Dv} {te to : TE} {we wo : WE} {ta : WX → TA} {waX : XW → WAB}
end
end DL

namespace DL
open PySem L2 PySem.Spec PyProof.Rows
/-! ### str(..) of an own class with __str__ -/
section
variable {X : Cx} {C g : Addr} {fd : FuncData} {ps : List Str} {sp : Sp} {n : Nat}
end
/-! ### f-strings -/
section
variable {X : Cx} {e v1 v2 : Expr} {es rest : List Expr} {te : TE} {we : WE} {ts : List TE} {ws : List WE} {pos : Pos}
end
/-! ### an own list: x[k] = e; with a further value -/
section
variable {X : Cx} {x y : Str} {a b e o k : Expr} {t1 t2 te ti : TE} {w1 : WF} {w2 we : WE} {wi : WB} {pos pos2 : Pos}
end
end DL

/-! C(k = v, ..), all parameters in their order -/
namespace DL
open PySem L2 PySem.Spec PyProof.Rows
structure PKD (X : Cx) (kws : List Keyword) (t : TA) (w : WA) : Prop where
  pk : PK X kws t
  ok : TAok X.K t w
section
variable {X : Cx} {e : Expr} {kws : List Keyword} {te : TE} {we : WE} {t : TA} {wr : WA} {nm : Option Str} {kpos : Pos}
theorem k_nil : PKD X [] tNil wNil := ⟨pk_nil, tao_nil⟩
theorem k_cons (h : PD X e te we) (hr : PKD X kws t wr) : PKD X (⟨nm, e, kpos⟩ :: kws) (tCons te t) (wCons we wr) := ⟨pk_cons h.pe hr.pk, tao_cons h.ok hr.ok⟩
end
end DL

namespace DL
open PySem L2
end DL
namespace DL
open PySem L2
section
variable {t : WT} {a rest : XW → WSt} {ΦX : XW} {Dd : DEnds} {σ : DS} {W : WS} {b : Bool}
end
end DL
namespace DL
open PySem L2
end DL
namespace DL
open PySem L2
section
variable {t : WT} {a rest : WSt} {Dd : DEnds} {σ : DS} {W : WS} {b : Bool}
end
end DL
namespace DL
open PySem L2
end DL

/-! texts -/
namespace DL
open PySem L2 PySem.Spec PyProof.Rows
section
variable {K : PySem.W.Frag} {N : Av} {H : Hp}
end
/-! ### split, join -/
section
variable {X : Cx} {K : PySem.W.Frag} {o e : Expr} {to te : TE} {wo we : WB} {apos pos : Pos}
/-! ### all(list), int(text), str(text), text + text -/
/-! ### one sign in a text -/
/-! ### for sign in text -/
end
end DL

/-! x[0::2], x[1::2] of six; classes in names, class methods -/
namespace DLX
open PySem PySem.Spec PyProof.Rows L2
end DLX
namespace DL
open PySem L2
end DL

/-! a class in a name, called; a class method called -/
namespace DL
open PySem L2 PySem.Spec PyProof.Rows
section
variable {X : Cx} {CX : CXT} {k : Nat} {f C : Addr} {fd : FuncData} {ps : List Str} {sp : Sp} {E : L2.St → XK} {x m : Str} {p pos apos : Pos} {e o : Expr} {es : List Expr} {ta : TE} {t : TA} {ds : List Value} {dvs : List V}
end
section
variable {X : Cx} {K : PySem.W.Frag} {x m : Str} {p pos apos : Pos} {e o : Expr} {es : List Expr} {t : TA} {wa : WA} {wf : WFnX} {C fa pa : Addr} {fd : FuncData} {ps : List Str} {k : Nat} {ds : List Value} {dvs : List V} {dd : List Dv} {to : TE} {wo : WE}
end
end DL

namespace DL
open PySem L2
section
variable {X : Cx} {K : PySem.W.Frag} {a b c : Expr} {ta tb tc : TE} {wa wb wc : WB} {pos : Pos}
end
/-! ### texts of numbers -/
theorem snoc_cases {α : Type} (l : List α) : l = [] ∨ ∃ r x, l = r ++ [x] := by
  cases e : l.reverse with
  | nil => exact .inl (List.reverse_eq_nil_iff.mp e)
  | cons x r => exact .inr ⟨r.reverse, x, by rw [← List.reverse_reverse l, e, List.reverse_cons]⟩
theorem digitsVal_app (cs : List Nat) (c : Nat) : PySem.NumText.digitsVal (cs ++ [c]) = PySem.NumText.digitsVal cs * 10 + (c - 48) := by
  unfold PySem.NumText.digitsVal
  rw [List.foldl_append]
  rfl
theorem digitsVal_pos : ∀ (n : Nat) (cs : List Nat), cs.length = n → PySem.NumText.AllDigits cs → cs ≠ [] → cs[0]? ≠ some 48 → 0 < PySem.NumText.digitsVal cs := by
  intro n
  induction n with
  | zero => intro cs hl _ hne; exact absurd (List.length_eq_zero_iff.mp hl) hne
  | succ n ih =>
    intro cs hl hd hne h0
    rcases snoc_cases cs with rfl | ⟨r, x, rfl⟩
    · exact absurd rfl hne
    · rw [digitsVal_app]
      have hx := hd x (List.mem_append.mpr (.inr (List.mem_singleton.mpr rfl)))
      by_cases hr : r = []
      · subst hr
        have : x ≠ 48 := fun e => h0 (by rw [e]; rfl)
        omega
      · have h1 : r[0]? ≠ some 48 := fun e => h0 (by
          rw [List.getElem?_append_left (List.length_pos_iff.mpr hr)]
          exact e)
        have := ih r (by rw [List.length_append, List.length_singleton] at hl; omega) (fun c hc => hd c (List.mem_append.mpr (.inl hc))) hr h1
        omega
theorem digit_char {c : Nat} (h : 48 ≤ c ∧ c ≤ 57) : (Nat.digitChar (c - 48)).toNat = c := by
  have key : ∀ d : Nat, d < 10 → (Nat.digitChar d).toNat = d + 48 := by decide
  have := key (c - 48) (by omega)
  omega
theorem digits_back : ∀ (n : Nat) (cs : List Nat), cs.length = n → PySem.NumText.AllDigits cs → cs ≠ [] → (cs = [48] ∨ cs[0]? ≠ some 48) → (Nat.toDigits 10 (PySem.NumText.digitsVal cs)).map Char.toNat = cs := by
  intro n
  induction n with
  | zero => intro cs hl _ hne; exact absurd (List.length_eq_zero_iff.mp hl) hne
  | succ n ih =>
    intro cs hl hd hne h0
    rcases snoc_cases cs with rfl | ⟨r, x, rfl⟩
    · exact absurd rfl hne
    · have hx := hd x (List.mem_append.mpr (.inr (List.mem_singleton.mpr rfl)))
      by_cases hr : r = []
      · subst hr
        have e : PySem.NumText.digitsVal ([] ++ [x]) = x - 48 := by
          rw [digitsVal_app]
          show 0 * 10 + (x - 48) = _
          omega
        rw [e, Nat.toDigits_of_lt_base (by omega)]
        show [(Nat.digitChar (x - 48)).toNat] = [x]
        rw [digit_char hx]
      · have h1 : r[0]? ≠ some 48 := fun e => by
          rcases h0 with h0 | h0
          · have l1 := congrArg List.length h0
            rw [List.length_append] at l1
            have l2 := List.length_pos_iff.mpr hr
            change r.length + 1 = 1 at l1
            omega
          · exact h0 (by
              rw [List.getElem?_append_left (List.length_pos_iff.mpr hr)]
              exact e)
        have hdr : PySem.NumText.AllDigits r := fun c hc => hd c (List.mem_append.mpr (.inl hc))
        have hlr : r.length = n := by rw [List.length_append, List.length_singleton] at hl; omega
        have hp := digitsVal_pos n r hlr hdr hr h1
        have t := ih r hlr hdr hr (.inr h1)
        have t2 : Nat.toDigits 10 (PySem.NumText.digitsVal r) ++ Nat.toDigits 10 (x - 48) = Nat.toDigits 10 (10 * PySem.NumText.digitsVal r + (x - 48)) := Nat.toDigits_append_toDigits (by decide) hp (by omega)
        rw [digitsVal_app, show PySem.NumText.digitsVal r * 10 + (x - 48) = 10 * PySem.NumText.digitsVal r + (x - 48) by omega, ← t2, List.map_append, t, Nat.toDigits_of_lt_base (by omega)]
        show r ++ [(Nat.digitChar (x - 48)).toNat] = r ++ [x]
        rw [digit_char hx]
theorem str_eq {x y : Str} (h : x.cps.toList = y.cps.toList) : x = y := by
  obtain ⟨a⟩ := x
  obtain ⟨b⟩ := y
  have : a = b := Array.toList_inj.mp h
  rw [this]
theorem ne_of_len {w : Str} (h : 1 ≤ w.length) : w.cps.toList ≠ [] := fun e => by
  rw [len_list, e] at h
  exact absurd h (by decide)
theorem zero_list : ("0" : Str).cps.toList = [48] := by decide +kernel
theorem Canon.back {w : Str} (h : Canon w) : (toString (valS w) : Str) = w := by
  refine str_eq ?_
  show (Str.ofString (toString ((PySem.NumText.digitsVal w.cps.toList : Nat) : Int))).cps.toList = _
  rw [PySem.W.KIN.signs_num]
  refine digits_back _ _ rfl h.dig (ne_of_len h.one) ?_
  rcases h.fst with e | e
  · left
    rw [e]
    exact zero_list
  · exact .inr e
end DL

/-! texts of loads: cut at the blanks, put together -/
namespace DL
open PySem L2 TL
theorem TxtOk.mono {n m : Nat} {x : Str} (h : TxtOk n x) (l : n ≤ m) : TxtOk m x := ⟨Nat.le_trans h.len l, h.chr⟩
end DL

namespace DL
open PySem L2 TL
end DL

namespace DL
open PySem L2 TL
/-! ### a part of a list of strings -/
end DL

/-! dicts: displays, own dicts, update, d[k], d.get(k, x) -/
namespace DL
open PySem L2
/-! ### keys and values apart -/
section
variable {α : Type}
end
section
variable {K : PySem.W.Frag} {N : Av} {H : Hp}
end

/-! ### a new dict that nobody else knows -/
abbrev WG := DS → WS → (List Key → List Dv → WS → Prop) → Prop
def TNok (K : PySem.W.Frag) (t : TE) (w : WG) : Prop := ∀ {z : Av} {O : Nat → Option Addr} {As : List (List Addr)} {σd : DS} {W : WS} {σ : St} {H : Hp} (Φ : List Key → List Dv → WS → Prop) (Q : VK), Rep K z O As σd W σ H → w σd W Φ →
  (∀ p H' vs ks ds As' W', H p = none → Ext As H As' H' → Wld K (z1 (zo z (owOf O)) p) As' W' H' → H' p = some (.dK (ks.zip vs)) → HasL K (bad (z1 (zo z (owOf O)) p) As') H' vs ds → ks.length = ds.length → Φ ks ds W' → Q (.ref p) H') → t σ H Q
structure PG (X : Cx) (e : Expr) (t : TE) (w : WG) : Prop where
  pe : PE X e t
  ok : TNok X.K t w
/-! ### displays -/
end DL

/-! own dicts -/
namespace DL
open PySem L2
section
variable {K : PySem.W.Frag} {z : Av} {O : Nat → Option Addr} {As As' : List (List Addr)} {σd : DS} {W W' : WS} {σ : St} {H H' : Hp}
end
end DL
namespace DLX
open PySem PySem.Spec PyProof.Rows L2
/-! ### d.update(e) -/
end DLX
namespace DL
open PySem L2
/-! ### d[k], d.get(k, x) -/
/-! ### dict(a list of pairs) -/
end DL

/-! *e in displays and calls; dicts and tuples of the module -/
namespace DL
open PySem L2
end DL

/-! C(**d) -/
namespace KwX
open PySem PySem.Spec PyProof.Rows L2
section
variable {prog : Program} {w : World} {A : Around} {E : Value → Shared → Prop} {s : Shared}
end
end KwX

/-! C(**d); defs with **more, called by name -/
namespace KwX
open PySem PySem.Spec PyProof.Rows L2
section
variable {X : Cx} {CX : CXT} {k : Nat} {f C : Addr} {fd : FuncData} {ps ks : List Str} {sp : Sp} {E : L2.St → XK} {x : Str} {p pos kp : Pos} {e : Expr} {te : TE}
end
end KwX
namespace DL
open PySem L2
end DL

/-! defs with **more, called by name -/
namespace KwX
open PySem PySem.Spec PyProof.Rows L2
section
variable {prog : Program} {w : World} {A : Around} {E : Value → Shared → Prop}
end
section
variable {CX : CXT} {P : Program} {w : World} {K : PySem.W.Frag} {mg : Str → Option Value} {base : Heap} {k : Nat} {f : Addr} {name qual : Str} {params : Arguments} {body : List Stmt} {scope : Scope} {dV kV doc pm cdv ct oc : Value} {an od : Option Addr}
  {osl : Array (Option Value)} {N : List Str} {p1 pd : Str} {sp : Sp} {oks : List Str → Prop}
end
end KwX

/-! o.m(k = e, ..), m a def with **more -/
namespace KwX
open PySem PySem.Spec PyProof.Rows L2
section
variable {X : Cx} {CX : CXT} {k : Nat} {f C : Addr} {ks : List Str} {sp : Sp} {E : L2.St → XK} {m : Str} {apos pos : Pos} {o : Expr} {kws : List Keyword} {ta : TE} {tk : TA} {oks : List Str → Prop}
end
end KwX
namespace DL
open PySem L2
end DL

/-! defs with defaults; calls by name that raise nothing -/
namespace DL
open PySem L2
section
variable {P : Program} {w : World} {K : PySem.W.Frag} {mg : Str → Option Value} {base : Heap}
end
end DL

namespace DL
open PySem L2
theorem u1 {n : Nat} (h : n + 64 < cLine) : n + 1 < cLine := by omega
end DL

/-! keepers as data -/
namespace DL
open PySem L2 TL
abbrev keepD (C : Addr) (k : Kp) : Dv := .ins C KN k.ds
/-! ### what is right -/
/-! ### texts -/
end DL

namespace DL
open PySem L2
end DL

/-! good keepers -/
namespace DL
open PySem L2 TL
/-! ### by place -/
def passD (x : Dv) : Prop := x = .str "always" ∨ x = .str "never" ∨ ∃ i : Int, x = .int i ∧ 1 ≤ i ∧ i < 10000000000000000000
theorem good_mk (k : Kp) {b f : Int} (hb : k.b = .int b) (hf : k.f = .int f) (h1 : 1 ≤ f) (h2 : f < b) (h3 : 2 ≤ b) (h4 : b < 10000000000000000000) (ls : limD k.s) (lc : limD k.c) (lm : limD k.m) (lcl : limD k.cl) (lmo : limD k.mo) (lcu : limD k.cu) (ln : limD k.n) (lma : limD k.ma) (lh : limD k.h)
    (os : okSet "stop" k.s = true) (oc : okSet "counts" k.c = true) (om : okSet "marks" k.m = true) (ocl : okSet "clears" k.cl = true) (omo : okSet "moves" k.mo = true) (ocu : okSet "cut" k.cu = true) (on : okSet "needs" k.n = true) (oma : okSet "marked" k.ma = true) (oh : okSet "held" k.h = true) : k.good := by
  refine ⟨fun n hn => ?_, fun n hn nf => ?_, b, f, hb, hf, h1, h2⟩
  · simp only [List.mem_cons, List.not_mem_nil, or_false] at hn
    rcases hn with rfl | rfl | rfl | rfl | rfl | rfl | rfl | rfl | rfl | rfl | rfl
    · rw [at_b, hb]; exact .inr (.inr (.inl ⟨_, rfl, by omega, h4⟩))
    · rw [at_f, hf]; exact .inr (.inr (.inl ⟨_, rfl, by omega, by omega⟩))
    · rw [at_s]; exact ls
    · rw [at_c]; exact lc
    · rw [at_m]; exact lm
    · rw [at_cl]; exact lcl
    · rw [at_mo]; exact lmo
    · rw [at_cu]; exact lcu
    · rw [at_n]; exact ln
    · rw [at_ma]; exact lma
    · rw [at_h]; exact lh
  · simp only [List.mem_cons, List.not_mem_nil, or_false] at hn
    rcases hn with rfl | rfl | rfl | rfl | rfl | rfl | rfl | rfl | rfl | rfl | rfl
    · rw [at_b, hb]
      unfold okSet
      rw [if_pos rfl]
      exact decide_eq_true h3
    · exact absurd rfl nf
    · rw [at_s]; exact os
    · rw [at_c]; exact oc
    · rw [at_m]; exact om
    · rw [at_cl]; exact ocl
    · rw [at_mo]; exact omo
    · rw [at_cu]; exact ocu
    · rw [at_n]; exact on
    · rw [at_ma]; exact oma
    · rw [at_h]; exact oh
/-- words, passing times, bools are right -/
theorem ok_word {n : Str} {x : Dv} (h : ∃ s, x = .str s ∧ s ∈ wordsK n) (hn : n ∈ (["counts", "marks", "moves", "cut", "marked", "held"] : List Str)) : okSet n x = true ∧ limD x := by
  obtain ⟨s, rfl, hs⟩ := h
  have key : s ∈ allW ∧ n ≠ "begin" ∧ n ≠ "stop" ∧ ¬(n = "clears" ∨ n = "needs") := by
    simp only [List.mem_cons, List.not_mem_nil, or_false] at hn
    rcases hn with rfl | rfl | rfl | rfl | rfl | rfl
    · have e : wordsK "counts" = (["all", "both", "now", "readers"] : List Str) := by kernel_rfl
      rw [e] at hs
      refine ⟨?_, by decide +kernel, by decide +kernel, by decide +kernel⟩
      simp only [List.mem_cons, List.not_mem_nil, or_false] at hs ⊢
      rcases hs with rfl | rfl | rfl | rfl <;> simp
    · have e : wordsK "marks" = (["frozen", "never", "seen"] : List Str) := by kernel_rfl
      rw [e] at hs
      refine ⟨?_, by decide +kernel, by decide +kernel, by decide +kernel⟩
      simp only [List.mem_cons, List.not_mem_nil, or_false] at hs ⊢
      rcases hs with rfl | rfl | rfl <;> simp
    · have e : wordsK "moves" = (["always", "whole"] : List Str) := by kernel_rfl
      rw [e] at hs
      refine ⟨?_, by decide +kernel, by decide +kernel, by decide +kernel⟩
      simp only [List.mem_cons, List.not_mem_nil, or_false] at hs ⊢
      rcases hs with rfl | rfl <;> simp
    · have e : wordsK "cut" = (["horizon", "mark", "never"] : List Str) := by kernel_rfl
      rw [e] at hs
      refine ⟨?_, by decide +kernel, by decide +kernel, by decide +kernel⟩
      simp only [List.mem_cons, List.not_mem_nil, or_false] at hs ⊢
      rcases hs with rfl | rfl | rfl <;> simp
    · have e : wordsK "marked" = (["always", "never"] : List Str) := by kernel_rfl
      rw [e] at hs
      refine ⟨?_, by decide +kernel, by decide +kernel, by decide +kernel⟩
      simp only [List.mem_cons, List.not_mem_nil, or_false] at hs ⊢
      rcases hs with rfl | rfl <;> simp
    · have e : wordsK "held" = (["always", "never"] : List Str) := by kernel_rfl
      rw [e] at hs
      refine ⟨?_, by decide +kernel, by decide +kernel, by decide +kernel⟩
      simp only [List.mem_cons, List.not_mem_nil, or_false] at hs ⊢
      rcases hs with rfl | rfl <;> simp
  refine ⟨?_, .inr (.inr (.inr ⟨s, rfl, key.1⟩))⟩
  unfold okSet
  rw [if_neg key.2.1, if_neg key.2.2.1, if_neg key.2.2.2]
  split
  · rfl
  · exact decide_eq_true hs
theorem ok_pass {n : Str} {x : Dv} (h : passD x) (hn : n = "marked" ∨ n = "held") : okSet n x = true ∧ limD x := by
  have hm : n ∈ (["counts", "marks", "moves", "cut", "marked", "held"] : List Str) := by
    rcases hn with rfl | rfl <;> simp
  have e : wordsK n = (["always", "never"] : List Str) := by
    rcases hn with rfl | rfl <;> kernel_rfl
  rcases h with rfl | rfl | ⟨i, rfl, h0, h1⟩
  · exact ok_word ⟨_, rfl, by rw [e]; simp⟩ hm
  · exact ok_word ⟨_, rfl, by rw [e]; simp⟩ hm
  · refine ⟨?_, .inr (.inr (.inl ⟨i, rfl, by omega, h1⟩))⟩
    have k : n ≠ "begin" ∧ n ≠ "stop" ∧ ¬(n = "clears" ∨ n = "needs") := by
      rcases hn with rfl | rfl <;> exact ⟨by decide +kernel, by decide +kernel, by decide +kernel⟩
    unfold okSet
    rw [if_neg k.1, if_neg k.2.1, if_neg k.2.2, if_pos ⟨hn, decide_eq_true h0⟩]
theorem ok_bool {n : Str} {b : Bool} (hn : n = "clears" ∨ n = "needs") : okSet n (.bl b) = true ∧ limD (.bl b) := by
  refine ⟨?_, .inr (.inl ⟨b, rfl⟩)⟩
  have k : n ≠ "begin" ∧ n ≠ "stop" := by
    rcases hn with rfl | rfl <;> exact ⟨by decide +kernel, by decide +kernel⟩
  unfold okSet
  rw [if_neg k.1, if_neg k.2, if_pos hn]
  rfl
theorem ok_stop {x : Dv} (h : x = .non ∨ ∃ i : Int, x = .int i ∧ 1 ≤ i ∧ i < 10000000000000000000) : okSet "stop" x = true ∧ limD x := by
  have k : ("stop" : Str) ≠ "begin" := by decide +kernel
  unfold okSet
  rw [if_neg k, if_pos rfl]
  rcases h with rfl | ⟨i, rfl, h0, h1⟩
  · exact ⟨rfl, .inl rfl⟩
  · exact ⟨decide_eq_true h0, .inr (.inr (.inl ⟨i, rfl, by omega, h1⟩))⟩
end DL

/-! loops whose ends are letters -/
namespace DL
open PySem L2
theorem loop_rg {i : Nat} {wb : WSt} {Dd : DEnds} {lo : Int} {n : Nat} (I : DS → WS → Prop) {σ : DS} {W : WS} (h : I σ W) (h0 : ∀ σ W, I σ W → Dd.nx σ W)
    (hs : ∀ (k : Int), lo ≤ k → k < lo + n → ∀ σ W (D : DEnds), I σ W → D.rt = Dd.rt → D.bk = Dd.nx → (∀ σ W, I σ W → D.nx σ W) → (∀ σ W, I σ W → D.ct σ W) → wb D (σ.set i (some (.v (.d (.int k))))) W) : wLoop (tgN i) wb ((rangeD lo n).map Sv.d) Dd σ W :=
  loop_r I h h0 fun k h1 h2 σ W N i hN => hs k h1 h2 σ W _ i rfl rfl hN hN
end DL

/-! enumerate over a tuple -/
namespace EnX
open PySem PySem.Spec PyProof.Rows L2
theorem meets_new1 {v : Value} {o : Obj} {H : Heap → Prop} (B : Begins v o H) :
    Meets (Builtin.«enumerate.__new__» ⟨[.type "enumerate", v], []⟩) (fun _ R s => H s.heap ∧
      R (.ok (.ret (.ref (s.heap.push o).objs.size))) { s with heap := (s.heap.push o).push { cls := .type "enumerate", data := .fields #[.none, .bool false, .ref s.heap.objs.size, rawInt 0, .none, .none] } }) :=
  .of_wp fun prog w A R s h => by
    obtain ⟨hp, g, d, tk, os⟩ := s; obtain ⟨h1, h⟩ := h
    have hsub := sub_enumerate
    have q1 : ∀ {A' : Around} {E : Value → Shared → Prop} {Q : Value → Shared → Prop}, Q (.ref hp.objs.size) ⟨hp.push o, g, d, tk, os⟩ → wpAny (model prog w) A' (pyIter v) Q E ⟨hp, g, d, tk, os⟩ :=
      fun q => B.iter prog w _ _ ⟨hp, g, d, tk, os⟩ _ h1 q
    wp_walk using q1
    refine wpAny_stack_any fun st => wpAny_pure ?_
    split
    · rename_i c _ _ _ _ _
      cases (c == Value.type "enumerate")
      · wp_walk using q1
        exact ⟨_, rfl, h⟩
      · wp_walk using q1
        exact ⟨_, rfl, h⟩
    · wp_walk using q1
      exact ⟨_, rfl, h⟩
section
variable {prog : Program} {w : World} {A : Around} {E : Value → Shared → Prop} {s : Shared}
theorem enum_begins1 {v : Value} {o : Obj} {H : Heap → Prop} {Q : Value → Shared → Prop} (B : Begins v o H) (h1 : H s.heap)
    (h : ∀ h', IsEnum h' (s.heap.objs.size + 1) s.heap.objs.size 0 .none → h'.get? s.heap.objs.size = some o → h'.objs.size = s.heap.objs.size + 2 →
      (∀ b o, s.heap.get? b = some o → h'.get? b = some o) → Q (.ref (s.heap.objs.size + 1)) { s with heap := h' }) :
    wpAny (model prog w) A (call (.type "enumerate") [v]) Q E s := by
  refine callType_new F.called_enumerate (by decide) (F.typeCall_enumerate_1 _) (F.newCall_enumerate_1 _) (fun obj => F.args_object_init_2 obj _) F.entry_enumerate_new
    (meets_new1 B) ⟨h1, ?_⟩
  have hz : (s.heap.push o).objs.size = s.heap.objs.size + 1 := Heap.size_push ..
  show _ ∧ _
  rw [hz]
  have he : IsEnum ((s.heap.push o).push { cls := .type "enumerate", data := .fields #[.none, .bool false, .ref s.heap.objs.size, rawInt 0, .none, .none] }) (s.heap.objs.size + 1) s.heap.objs.size 0 .none := by
    have := Heap.get?_push_size (s.heap.push o) (o := { cls := .type "enumerate", data := .fields #[.none, .bool false, .ref s.heap.objs.size, rawInt 0, .none, .none] }) rfl
    rw [hz] at this; exact this
  refine ⟨⟨_, he, rfl⟩, h _ he (Heap.get?_push_of_some _ (Heap.get?_push_size _ B.free)) (by rw [Heap.size_push, hz]) fun b o x => Heap.get?_push_of_some _ (Heap.get?_push_of_some _ x)⟩
end
/-- the tuple at a as it stands at each turn, each item in a new pair -/
def ItT (K : PySem.W.Frag) (a : Addr) : It :=
  ⟨fun i H => ∃ (xs : List V) (x : V), SqT K H a xs ∧ xs[i]? = some x, fun i H v H' => ∃ T x, v = .ref T ∧ H T = none ∧ H' = upd H T (.tup [.int (i : Nat), x]) ∧ ∀ xs, SqT K H a xs → xs[i]? = some x, fun i H => ∃ xs : List V, SqT K H a xs ∧ xs.length ≤ i⟩
theorem turn_enumT {P : Program} {w : World} {K : PySem.W.Frag} {elts : List Expr} {kk : Nat} {tpos : Pos} (a e it : Addr) (hat : a ≠ it) (hae : a ≠ e) :
    Turn P w K (.Tuple elts kk tpos) (ItT K a) [e, it] e (fun i h => (∃ old, IsEnum h e it ((i : Nat) : Int) old) ∧ h.IsTupleIter it a i ∧ e ≠ it) where
  mem := by simp
  obj := fun i h st b hb => by
    obtain ⟨⟨old, he⟩, ⟨o, ho, hc, hd⟩, _⟩ := st
    have e' : b = e ∨ b = it := by simpa using hb
    rcases e' with z | z
    · rw [z]; exact ⟨_, he, fun v q => nomatch q⟩
    · rw [z]; exact ⟨o, ho, fun v q => by rw [hd] at q; cases q⟩
  keep := fun i h h' st k => let ⟨⟨old, he⟩, hi, hne⟩ := st; ⟨⟨old, k e (by simp) _ he⟩, hi.at fun o q => k it (by simp) o q, hne⟩
  item := by
    intro X hP hw hK hc i pins s σ H E I hf st hg
    subst hP hw hK
    obtain ⟨⟨old, he⟩, hit, hne⟩ := st
    obtain ⟨xs, x, hq, hx⟩ := hg
    obtain ⟨its, rv, p, hz⟩ := I.tuple hq
    obtain ⟨u, hu, ru⟩ := rv.get hx
    have hel : e < s.heap.objs.size := Heap.lt_size he
    have hil : it < s.heap.objs.size := by obtain ⟨_, q, _⟩ := hit; exact Heap.lt_size q
    have D := Draws.tuple (prog := X.prog) (w := X.w) (A := X.A.in1) (I.ok.hd hc) it a hat its.toArray
    have hef : e ∉ [it, a] := fun q => by
      rcases List.mem_cons.mp q with q | q
      · exact hne q
      · exact hae (List.mem_singleton.mp q).symm
    have hui : its.toArray[i]? = some u := by simpa using hu
    have hlt : i < its.toArray.size := by
      have := (List.getElem?_eq_some_iff.mp hu).1
      simpa using this
    refine wpAny_pyNext_enum_itemC D he ⟨hit, p⟩ hlt hne hef fun y h' tk hy ho st' hT hsz hk => ?_
    have hyu : y = u := by
      rw [hui] at hy
      exact (Option.some.inj hy).symm
    subst hyu
    refine ⟨_, rfl, wpAny_letOwnedTupleGo_enum (s := { s with heap := h', toks := tk + 1 }) ho fun h'' he' sb => ?_⟩
    have hT2 : h''.get? s.heap.objs.size = some { cls := .type "tuple", data := .seq #[.int i tk, y] } := (sb.2 _ (Nat.ne_of_gt hel)).trans hT
    have new : ObjOk X.prog X.w (upd H s.heap.objs.size (.tup [.int (i : Nat), x])) h'' s.heap.objs.size (.tup [.int (i : Nat), x]) :=
      ⟨by show 2 ≤ sizeLine; decide, [.int i tk, y], .cons ⟨_, rfl⟩ (.cons ru .nil), ⟨_, hT2, rfl, _, rfl⟩⟩
    have I1 : Inv X pins σ (upd H s.heap.objs.size (.tup [.int (i : Nat), x])) { s with heap := h'', toks := tk + 1 } :=
      I.turnedNew (ch := [e, it]) (fun b ob hb q => (sb.2 b (fun z => hb (by simp [z]))).trans (hk b ob (fun z => hb (by simp [z])) (fun z => hb (by simp [z])) q)) hf (Nat.le_refl _) new
    refine ⟨.ref s.heap.objs.size, _, I1, rfl, ⟨_, x, rfl, I.hok.fresh (Nat.le_refl _), rfl, fun ys hy => by rw [I.tuple_inj hy hq]; exact hx⟩, ⟨⟨y, ?_⟩, st'.1.at fun o q => (sb.2 it (Ne.symm hne)).trans q, hne⟩, fun b hb => ?_⟩
    · have e1 : ((i + 1 : Nat) : Int) = (i : Int) + 1 := by omega
      rw [e1]; exact he'
    · have hb' : b < s.heap.objs.size := by
        have e' : b = e ∨ b = it := by simpa using hb
        rcases e' with z | z
        · rw [z]; exact hel
        · rw [z]; exact hil
      rw [upd_ne (Nat.ne_of_lt hb')]
      exact (hf b hb).1
  done := by
    intro X hP hw hK hc i pins s σ H E I hf st hg
    subst hP hw hK
    obtain ⟨⟨old, he⟩, hit, hne⟩ := st
    obtain ⟨xs, hq, hx⟩ := hg
    obtain ⟨its, rv, p, hz⟩ := I.tuple hq
    obtain ⟨f0, f1, f2, f3, f4, f5⟩ := hf it (by simp)
    have hl := rv.length
    have D : Draws X.prog X.w X.A.in1 it [it, a] i (fun _ _ => True) (fun j h => j = i ∧ h.IsTupleIter it a i ∧ h.IsTuple a its.toArray) := {
      live := fun _ _ st => let ⟨_, ⟨o, ho, _⟩, _⟩ := st; ⟨o, ho⟩
      frame := fun _ _ _ st hk => ⟨st.1, st.2.1.at fun o e => hk it (by simp) o e, st.2.2.at fun o e => hk a (by simp) o e⟩
      item := fun j s Q E hj st hQ => absurd st.1 (Nat.ne_of_lt hj)
      done := fun s Q E st hE => wpAny_nextOf_tuple_end (A := X.A.in1) (I.ok.hd hc) st.2.1 st.2.2 (by simp; omega) hE }
    exact wpAny_pyNext_enum_endD D he ⟨rfl, hit, p⟩ fun h' eb => ⟨rfl, I.turned (t' := s.toks) (fun b o hb q => eb b o hb q) f0 f1 f3 f4 f5⟩
  self := fun A i s Q E st h => let ⟨⟨_, he⟩, _⟩ := st; wpAny_pyIter_enum he h
/-- over a list or a tuple -/
def iEnumA (K : PySem.W.Frag) (ta : TA) : TI := fun σ H R => ta σ H fun vs H1 => ∃ a xs, vs = [.ref a] ∧ ((SqL K H1 a xs ∧ R (Ite K a) H1) ∨ (SqT K H1 a xs ∧ R (ItT K a) H1))
theorem pi_enumA {X : Cx} {e : Expr} {ta : TA} {p pos tpos : Pos} {elts : List Expr} {kk : Nat} (hg : Gl X "enumerate") (hm : X.mg "enumerate" = none) (ha : PA X [e] ta) (hs : starEach [e] X.env = [(false, eval e X.env)] := by rfl) :
    PI X (.Tuple elts kk tpos) (.Call (.Name "enumerate" p) [e] [] pos) (iEnumA X.K ta) := by
  refine ⟨fun pins s σ H R I h => ?_⟩
  refine Call_ (ld_blt I hg hm boot_enumerate (PyProof.Rows.callWith_type1 (thn (ha.run pos pins s σ H _ I h) fun us s1 ⟨vs, H1, I1, r1, q1⟩ => ?_) hs rfl))
  obtain ⟨a, xs, ex, hq⟩ := q1
  subst ex
  cases r1 with
  | cons r rr =>
    cases rr
    cases r
    have fp : ∀ b, b ∈ [s1.heap.objs.size + 1, s1.heap.objs.size] → FpOk X pins H1 b := fun b hb => by
      have e' : b = s1.heap.objs.size + 1 ∨ b = s1.heap.objs.size := by simpa using hb
      have hle : s1.heap.objs.size ≤ b := by
        rcases e' with z | z
        · rw [z]; exact Nat.le_add_right _ _
        · rw [z]; exact Nat.le_refl _
      exact I1.fpOk hle (I1.hok.fresh hle)
    rcases hq with ⟨hq, q⟩ | ⟨hq, q⟩
    · obtain ⟨its, rv, p', hz⟩ := I1.list hq
      refine call_enumerate_list p'.isList fun h' he hit hsz hk => wpAny_pyIter_enum he ?_
      have I2 : Inv X pins σ H1 { s1 with heap := h' } := I1.kept (t' := s1.toks) hk
      exact ⟨s1.heap.objs.size + 1, [s1.heap.objs.size + 1, s1.heap.objs.size], _, _, H1, rfl, I2, turn_enum a (s1.heap.objs.size + 1) s1.heap.objs.size, ⟨⟨.none, he⟩, hit, Nat.succ_ne_self _⟩, fp, q⟩
    · obtain ⟨its, rv, p', hz⟩ := I1.tuple hq
      have hal : a < s1.heap.objs.size := by
        obtain ⟨o, ho, _⟩ := id p'
        exact Heap.lt_size ho
      refine enum_begins1 (begins_tuple a its.toArray) p' fun h' he hit hsz hk => wpAny_pyIter_enum he ?_
      have I2 : Inv X pins σ H1 { s1 with heap := h' } := I1.kept (t' := s1.toks) hk
      exact ⟨s1.heap.objs.size + 1, [s1.heap.objs.size + 1, s1.heap.objs.size], _, _, H1, rfl, I2, turn_enumT a (s1.heap.objs.size + 1) s1.heap.objs.size (Nat.ne_of_lt hal) (Nat.ne_of_lt (Nat.lt_succ_of_lt hal)), ⟨⟨.none, he⟩, ⟨_, hit, rfl, rfl⟩, Nat.succ_ne_self _⟩, fp, q⟩
end EnX

/-! enumerate, loops in defs that raise, partition, `in` of a dict of the module -/
namespace DL
open PySem L2
/-! ### enumerate -/
def enumD : Nat → List Dv → List Dv
  | _, [] => []
  | k, x :: r => .tup [.int (k : Nat), x] :: enumD (k + 1) r
theorem enumD_len : ∀ {xs : List Dv} {k : Nat}, (enumD k xs).length = xs.length
  | [], _ => rfl
  | _ :: r, k => congrArg (· + 1) (enumD_len (xs := r) (k := k + 1))
theorem enumD_at : ∀ {xs : List Dv} {k i : Nat} {x : Dv}, xs[i]? = some x → (enumD k xs)[i]? = some (.tup [.int ((k + i : Nat) : Int), x])
  | [], _, _, _, h => by cases h
  | _ :: _, k, 0, _, h => by
    cases h
    rfl
  | _ :: r, k, i + 1, x, h => by
    have e := enumD_at (xs := r) (k := k + 1) (i := i) (x := x) h
    rw [show k + (i + 1) = k + 1 + i by omega]
    exact e
def wiE (wa : WA) : WI := fun σd W Φ => wa σd W fun xs W1 => match xs with
  | [.d (.lst xs)] => Φ (enumD 0 xs) W1
  | [.d (.tup xs)] => Φ (enumD 0 xs) W1
  | _ => False
section
variable {K : PySem.W.Frag}
theorem wk_enum {N : Av} {H : Hp} {a : Addr} {vs : List V} {xs : List Dv} (s : Sq K N H a vs) (l : HasL K N H vs xs) : Wk K N H (Ite K a) (enumD 0 xs) := by
  refine ⟨fun N' H' i m h => ?_, fun N' H' m => ⟨vs, (s.mv m).l, by rw [enumD_len, l.length]; exact Nat.le_refl _⟩, fun N' H' i x H2 m h y => ?_⟩
  · have h' : i < vs.length := by rw [l.length, ← enumD_len (k := 0)]; exact h
    exact ⟨vs, vs[i], (s.mv m).l, List.getElem?_eq_getElem h'⟩
  · obtain ⟨T, p, rfl, hT, rfl, f⟩ := y
    obtain ⟨d, e1, g1⟩ := (l.mv m).get' (f vs (s.mv m).l)
    have e := enumD_at (k := 0) e1
    rw [Nat.zero_add] at e
    exact ⟨_, e, .inr ⟨T, [.int (i : Nat), p], [.int (i : Nat), d], hT, rfl, rfl, rfl, .cons (.int _) (.cons g1 .nil)⟩⟩
theorem wk_enumT {N : Av} {H : Hp} {a : Addr} {vs : List V} {xs : List Dv} (s : Tq K N H a vs) (l : HasL K N H vs xs) : Wk K N H (EnX.ItT K a) (enumD 0 xs) := by
  refine ⟨fun N' H' i m h => ?_, fun N' H' m => ⟨vs, (s.mv m).t, by rw [enumD_len, l.length]; exact Nat.le_refl _⟩, fun N' H' i x H2 m h y => ?_⟩
  · have h' : i < vs.length := by rw [l.length, ← enumD_len (k := 0)]; exact h
    exact ⟨vs, vs[i], (s.mv m).t, List.getElem?_eq_getElem h'⟩
  · obtain ⟨T, p, rfl, hT, rfl, f⟩ := y
    obtain ⟨d, e1, g1⟩ := (l.mv m).get' (f vs (s.mv m).t)
    have e := enumD_at (k := 0) e1
    rw [Nat.zero_add] at e
    exact ⟨_, e, .inr ⟨T, [.int (i : Nat), p], [.int (i : Nat), d], hT, rfl, rfl, rfl, .cons (.int _) (.cons g1 .nil)⟩⟩
theorem tio_E {ta : TA} {wa : WA} (h : TAok K ta wa) : TIok K (EnX.iEnumA K ta) (wiE wa) := by
  intro z O As σd W σ H Φ R r g q
  refine h _ _ r g fun vs H1 xs As1 W1 e wl hv p => ?_
  unfold wiE at p
  split at p
  · cases hv with
    | cons a hv =>
      cases hv
      cases a with
      | d a => cases a with
        | lst s l => exact ⟨_, _, rfl, .inl ⟨s.l, q _ H1 _ As1 W1 e wl (wk_enum s l) p⟩⟩
  · cases hv with
    | cons a hv =>
      cases hv
      cases a with
      | d a => cases a with
        | tup s l => exact ⟨_, _, rfl, .inr ⟨s.t, q _ H1 _ As1 W1 e wl (wk_enumT s l) p⟩⟩
  · exact p.elim
end
theorem i_E {X : Cx} {a : Expr} {ta : TA} {p pos tpos : Pos} {elts : List Expr} {kk : Nat} {wa : WA} (hg : Gl X "enumerate") (hm : X.mg "enumerate" = none) (ha : PAD X [a] ta wa) (hs : starEach [a] X.env = [(false, eval a X.env)] := by rfl) :
    PID X (.Tuple elts kk tpos) (.Call (.Name "enumerate" p) [a] [] pos) (EnX.iEnumA X.K ta) (wiE wa) := ⟨EnX.pi_enumA hg hm ha.pa hs, tio_E ha.ok⟩
/-! ### for, where the body may raise -/
/-! ### xs.append(e), where e may raise -/
/-! ### a.partition(b) -/
/-! ### x in d, d a dict of the module -/
end DL

/-! lists that a def makes and hands out, and its caller changes -/
namespace DL
open PySem L2
section
variable {K : PySem.W.Frag} {z : Av} {As As' : List (List Addr)} {W W' : WS} {H H' : Hp} {p : Addr}
theorem bad_app {a : Addr} : bad z (As ++ [[p]]) a ↔ bad (z1 z p) As a := by
  constructor
  · rintro (h | h)
    · rcases fp_app.mp h with h | h
      · exact .inl h
      · exact .inr (.inr (List.mem_singleton.mp h))
    · exact .inr (.inl h)
  · rintro (h | h | h)
    · exact .inl (fp_app.mpr (.inl h))
    · exact .inr h
    · exact .inl (fp_app.mpr (.inr (by rw [h]; exact List.mem_singleton.mpr rfl)))
theorem HasV.toBox {v : V} {x : Sv} (h : HasV K (z1 z p) As H v x) : HasV K z (As ++ [[p]]) H v x := by
  cases h with
  | d h => exact .d (h.mv (Mv.weak fun a q => bad_app.mp q))
  | box h => exact .box ((List.getElem?_append_left (List.getElem?_eq_some_iff.mp h).1).trans h)
theorem HasVL.toBox : ∀ {vs : List V} {xs : List Sv}, HasVL K (z1 z p) As H vs xs → HasVL K z (As ++ [[p]]) H vs xs
  | _, _, .nil => .nil
  | _, _, .cons h t => .cons h.toBox t.toBox
theorem WRep.toBox {l : List Addr} {o : WObj} (h : WRep K (z1 z p) As H l o) : WRep K z (As ++ [[p]]) H l o := by
  cases o with
  | lst xs => obtain ⟨a, vs, e, q, r⟩ := h; exact ⟨a, vs, e, q, r.toBox⟩
  | ins C ks ds => obtain ⟨a, dx, vs, e, q, r, n⟩ := h; exact ⟨a, dx, vs, e, q, r.toBox, n⟩
  | dic ks ds => obtain ⟨a, vs, e, q, r, n⟩ := h; exact ⟨a, vs, e, q, r.toBox, n⟩
  | obj k => exact h
  | lck o_ vs_ ks ds => obtain ⟨a, e, q, r, n⟩ := h; exact ⟨a, e, q, r.toBox, n⟩
  | tupV xs => obtain ⟨a, vs, e, q, r⟩ := h; exact ⟨a, vs, e, q, r.toBox⟩
  | tab P q => exact ⟨h.1, h.2.mv (Mv.weak fun a q => bad_app.mp q) rfl⟩
  | xo C ks ds => obtain ⟨a, vs, e, q, r, n⟩ := h; exact ⟨a, vs, e, q.mv (Mv.weak fun a q => bad_app.mp q) rfl, r.toBox, n⟩
  | gone => trivial
/-- a list of one's own becomes a thing of the world -/
theorem Wld.toBox {vs : List V} {xs : List Dv} (w : Wld K (z1 z p) As W H) (nz : ¬ z p) (hl : H p = some (.lst vs)) (hx : HasL K (bad (z1 z p) As) H vs xs) : Wld K z (As ++ [[p]]) (W ++ [.lst (xs.map Sv.d)]) H := by
  have out : ¬ fpOf As p := w.zok.out p (.inr rfl)
  refine ⟨by rw [List.length_append, List.length_append, w.len] <;> rfl, fun j l o h1 h2 => ?_, fun a q => ?_, fun i j l1 l2 a h1 h2 q1 q2 => ?_, ⟨fun a q => w.zok.trk a (.inl q), fun a q f => ?_⟩⟩
  · by_cases hj : j < As.length
    · rw [List.getElem?_append_left hj] at h1
      rw [List.getElem?_append_left (by rw [← w.len]; exact hj)] at h2
      exact (w.rep j l o h1 h2).toBox
    · have hj' : j = As.length := by
        have q := (List.getElem?_eq_some_iff.mp h1).1
        rw [List.length_append, List.length_singleton] at q
        omega
      subst hj'
      rw [List.getElem?_concat_length] at h1
      rw [w.len, List.getElem?_concat_length] at h2
      cases h1
      cases h2
      exact ⟨p, vs, rfl, hl, .ofL (hx.mv (Mv.weak fun a q => bad_app.mp q))⟩
  · rcases fp_app.mp q with q | q
    · exact w.trk a q
    · rw [List.mem_singleton.mp q, hl]
      exact fun x => by cases x
  · have side : ∀ {i : Nat} {l1 : List Addr}, (As ++ [[p]])[i]? = some l1 → As[i]? = some l1 ∨ (i = As.length ∧ l1 = [p]) := by
      intro i l1 h
      by_cases hi : i < As.length
      · rw [List.getElem?_append_left hi] at h
        exact .inl h
      · have q := (List.getElem?_eq_some_iff.mp h).1
        rw [List.length_append, List.length_singleton] at q
        have hi' : i = As.length := by omega
        subst hi'
        rw [List.getElem?_concat_length] at h
        cases h
        exact .inr ⟨rfl, rfl⟩
    rcases side h1 with g1 | ⟨e1, e1'⟩ <;> rcases side h2 with g2 | ⟨e2, e2'⟩
    · exact w.dis i j l1 l2 a g1 g2 q1 q2
    · subst e2'
      rw [List.mem_singleton.mp q2] at q1
      exact absurd ⟨l1, List.mem_of_getElem? g1, q1⟩ out
    · subst e1'
      rw [List.mem_singleton.mp q1] at q2
      exact absurd ⟨l2, List.mem_of_getElem? g2, q2⟩ out
    · rw [e1, e2]
  · rcases fp_app.mp f with f | f
    · exact w.zok.out a (.inl q) f
    · rw [List.mem_singleton.mp f] at q
      exact nz q
theorem Ext.toBox (e : Ext As H As' H') (hp : H p = none) : Ext As H (As' ++ [[p]]) H' := by
  refine ⟨fun b o h n m => ⟨(e.keep b o h n m).1, fun q => ?_, fun f => f⟩, fun j l h => ?_, e.up⟩
  · rcases fp_app.mp q with q | q
    · exact (e.keep b o h n m).2.1 q
    · rw [List.mem_singleton.mp q, hp] at h
      exact nomatch h
  · exact (List.getElem?_append_left (List.getElem?_eq_some_iff.mp (e.at_ j l h)).1).trans (e.at_ j l h)
end
/-- a new list as a thing of the world -/
abbrev wBox (w : WF) : WE := fun σd W Φ => w σd W fun xs W1 => Φ (.box W1.length) (W1 ++ [.lst (xs.map Sv.d)])
theorem teo_box {K : PySem.W.Frag} {t : TE} {w : WF} (h : TFok K t w) : TEok K t (wBox w) := by
  intro z O As σd W σ H Φ Q r g q
  refine h _ _ r g fun p H' vs xs As' W' hp e wl hl hx p2 => ?_
  have nz : ¬ zo z (owOf O) p := fun f => r.wld.zok.trk p f hp
  refine q (.ref p) H' _ (As' ++ [[p]]) _ (e.toBox hp) (wl.toBox nz hl hx) (.box (p := p) (l := []) ?_) p2
  rw [← wl.len]
  exact List.getElem?_concat_length ..
theorem d_box {X : Cx} {e : Expr} {t : TE} {w : WF} (h : PF X e t w) : PD X e t (wBox w) := ⟨h.pe, teo_box h.ok⟩
end DL

/-! texts of keepers, read -/
namespace DL
open PySem L2 TL
end DL

namespace DL
open PySem L2
/-! ### x, y = a value, an own list -/
end DL

/-! cls(*xs) -/
namespace DL
open PySem L2 PySem.Spec PyProof.Rows
end DL

/-! x is True, whatever x is -/
namespace DL
open PySem L2 PySem.Spec PyProof.Rows
end DL

/-! how long a keeper's text is -/
namespace DL
open PySem L2 TL
end DL

/-! lines cut at blanks, and at their first blank -/
namespace DL
open PySem L2 TL
/-! ### what was read is right but for freeze -/
end DL

namespace DL
open PySem L2 TL
/-! ### displays whose items may raise -/
section
variable {X : Cx} {e : Expr} {es : List Expr} {teX : WX → TE} {weX : XW → WE} {tr : WX → TA} {wr : XW → WA} {t : TA} {w : WA} {pos : Pos}
end
/-! ### pairs, compared -/
/-! ### signs of texts -/
end DL

/-! pieces of lists of texts -/
namespace DL
open PySem L2 TL
end DL

/-! the head by one kernel run, its facts read by a Hook -/
namespace DH
open PySem PySem.Spec PyProof.Rows L2
theorem Df.fun_ {K : PySem.W.Frag} {d : Df} (e : fnX K (d.at_ K) = d.val) (c : d.ok K = true) (hc : d.cl = []) (hd : d.dfl = []) : ∃ fd, Fun K d.name d.qual d.st (d.at_ K) fd := by
  obtain ⟨kp, oc, od, osl, ccs, dV, kV, doc, pm, an, cdv, ct, g1, g2, g3, g4⟩ := Df.get e c
  rw [hc] at g2
  obtain rfl : ccs = [] := List.map_eq_nil_iff.mp g2
  have dv : d.dvs K = [] := by
    unfold Df.dvs
    rw [hd]
    rfl
  rw [dv] at g4
  rcases g4 with ⟨_, rfl⟩ | ⟨q, _⟩
  · exact ⟨_, fun_mk g1 g3 kp⟩
  · exact absurd rfl q
theorem fileB_ok {K : PySem.W.Frag} {ca : Addr} {file : Str} (h : fileB K ca file = true) : ∃ oc od vs sl tf, K.lookup ca = some ⟨oc, od, .fields vs, sl⟩ ∧ vs[2]? = some (.str file tf) := by
  unfold fileB at h
  split at h
  · rename_i oc od vs sl e
    split at h
    · rename_i f t e2
      rw [of_decide_eq_true h] at e2
      exact ⟨oc, od, vs, sl, t, e, e2⟩
    · cases h
  · cases h
theorem cellB_ok {K : PySem.W.Frag} {cc C : Addr} (h : cellB K cc C = true) : ∃ oc od sl, K.lookup cc = some ⟨oc, od, .cell (some (.ref C)), sl⟩ := by
  unfold cellB at h
  split at h
  · rename_i oc od D sl e
    rw [of_decide_eq_true h] at e
    exact ⟨oc, od, sl, e⟩
  · cases h
theorem exB_ok {K : PySem.W.Frag} {C : Addr} {bm : List Value} (h : exB K C bm = true) : ∃ nm q N bs sn sub ab col dd k0 k1 k2 k3 k5, K.lookup C = some (excClassObj nm q C N bs bm true sn sub ab col dd k0 k1 k2 k3 k5 "ValueError.__new__") := by
  unfold exB at h
  split at h
  · rename_i t dd cd sl e
    obtain ⟨h1, h⟩ := He.ba h
    obtain ⟨h2, h⟩ := He.ba h
    obtain ⟨h3, h⟩ := He.ba h
    obtain ⟨h4, h5⟩ := He.ba h
    split at h5
    · rename_i k0 k1 k2 k3 n k5 e2
      obtain ⟨nm, bs, mro, N, q, hdct, sn, sub, ab, col, hdel⟩ := cd
      have q1 : t = "type" := of_decide_eq_true h1
      have q2 : mro = .ref C :: bm := of_decide_eq_true h2
      have q3 : hdct = true := h3
      have q4 : hdel = false := by
        have : (!hdel) = true := h4
        cases hdel
        · rfl
        · cases this
      have q5 : n = "ValueError.__new__" := of_decide_eq_true h5
      have q6 : sl = #[k0, k1, k2, k3, some (.builtin n), k5] := by
        apply Array.ext'
        rw [e2]
      subst q1 q2 q3 q4 q5 q6
      exact ⟨nm, q, N, bs, sn, sub, ab, col, dd, k0, k1, k2, k3, k5, e⟩
    · cases h5
  · cases h
/-! constants -/
/-! the Hook -/
theorem obsG_eq {n : List Addr} {fa : List Ft} {da : List Df} {ta : List Tab} {g : Addr → Option Obj} {s : Shared} (h : ∀ a, g a = s.heap.get? a) : obsG n fa da ta g = (hook n fa da ta).obs s := by
  have e : g = s.heap.get? := funext h
  rw [e] <;> rfl
section
variable {fa : List Ft} {da : List Df} {ta : List Tab} {w : World} {K : PySem.W.Frag}
theorem Says.fn (c : Says fa da ta w K) (i : Nat) {d : Df} (h : da[i]? = some d) (hc : d.cl = [] := by rfl) (hd : d.dfl = [] := by rfl) : ∃ fd, Fun K d.name d.qual d.st (d.at_ K) fd := Df.fun_ (c.d0 i h).1 (c.d0 i h).2 hc hd
end
/-! the end -/
theorem walkH {l : PySem.W.OpenLaw} {q : Program} {loose : List Str} {XP : (Str → Option Value) → Heap → Prop} {fa : List Ft} {da : List Df} {ta : List Tab} {n : List Addr} {d : DefRec} (hn : l.most = some 63) (hdf : d.params.defaults = [])
    (F : ∀ (w : World) (K : PySem.W.Frag) (mg : Str → Option Value) (f : Addr) (h : Heap), K.In h → Says fa da ta w K → h.Ns mainGlobals mg → mg d.name = some (.ref f) → DL.LawAt l.prog w K mg f) : PySem.W.WalkO q loose XP (hook n fa da ta).says l.row.toRowW d [] (fun f vs => PySem.call f vs) := by
  apply Att.attach_callB hn hdf
  intro w s₀ s₁ mg mb fa o pm cd doc a vs ns G Y ho hd hcd hmg hobj hints hlen hbits hg
  obtain ⟨K, inK, c⟩ := Y
  exact DLG.head_at inK G.T.g G.T.b G.T.builtins G.T.nolimit hg hobj hints (Nat.le_trans hlen (by decide)) fun base H hK hN e0 hS => F w K mg fa _ inK c G.T.g hmg base H s₁ a ns hK hN e0 hlen hbits hS
end DH

/-! the head's facts in several runs: each run less memory -/
namespace DH
open PySem PySem.Spec PyProof.Rows L2
end DH


/-! the head's facts, tables of code objects left out -/
namespace DH
open PySem PySem.Spec PyProof.Rows L2
end DH

/-! things that a def has made are data when it is left -/
namespace DL
open PySem L2
def reL (f : Sv → Option Dv) : List Sv → Option (List Dv)
  | [] => some []
  | x :: xs => match f x, reL f xs with
    | some d, some ds => some (d :: ds)
    | _, _ => none
/-- the thing at a place n or later, read as data -/
def reB (W : WS) (n : Nat) : Nat → Sv → Option Dv
  | _, .d x => some x
  | 0, .box _ => none
  | k + 1, .box i => if n ≤ i then (match W[i]? with
    | some (.lst xs) => (reL (reB W n k) xs).map Dv.lst
    | some (.ins C ks ds) => (reL (reB W n k) ds).map (Dv.ins C ks)
    | _ => none) else none
section
variable {K : PySem.W.Frag} {z : Av} {As As' : List (List Addr)} {W ws : WS} {H H' : Hp}
theorem reL_has {N : Av} {f : Sv → Option Dv} (hf : ∀ v x d, HasV K z As' H' v x → f x = some d → Has K N H' v d) : ∀ {vs : List V} {xs : List Sv} {ds : List Dv}, HasVL K z As' H' vs xs → reL f xs = some ds → HasL K N H' vs ds := by
  intro vs xs
  induction xs generalizing vs with
  | nil =>
    intro ds h e
    cases h
    cases e
    exact .nil
  | cons x xs ih =>
    intro ds h e
    cases h with
    | cons a b =>
      unfold reL at e
      cases h1 : f x with
      | none => rw [h1] at e; exact nomatch e
      | some d =>
        cases h2 : reL f xs with
        | none => rw [h1, h2] at e; exact nomatch e
        | some ds' =>
          rw [h1, h2] at e
          cases e
          exact .cons (hf _ _ _ a h1) (ih b h2)
theorem reL_len {f : Sv → Option Dv} : ∀ {xs : List Sv} {ds : List Dv}, reL f xs = some ds → xs.length = ds.length := by
  intro xs
  induction xs with
  | nil =>
    intro ds e
    cases e
    rfl
  | cons x xs ih =>
    intro ds e
    unfold reL at e
    cases h1 : f x with
    | none => rw [h1] at e; exact nomatch e
    | some d =>
      cases h2 : reL f xs with
      | none => rw [h1, h2] at e; exact nomatch e
      | some ds' =>
        rw [h1, h2] at e
        cases e
        exact congrArg (· + 1) (ih h2)
theorem fp_mono (e : ∀ (j : Nat) (l : List Addr), As[j]? = some l → As'[j]? = some l) {a : Addr} (h : fpOf As a) : fpOf As' a := by
  obtain ⟨l, hl, hm⟩ := h
  obtain ⟨i, hi⟩ := List.getElem?_of_mem hl
  exact ⟨l, List.mem_of_getElem? (e i l hi), hm⟩
theorem reB_has (wl : Wld K z As W H) (e : Ext As H As' H') (w2 : Wld K z As' (W ++ ws) H') : ∀ (k : Nat) (v : V) (x : Sv) (d : Dv), HasV K z As' H' v x → reB (W ++ ws) W.length k x = some d → Has K (bad z As) H' v d := by
  have wk : ∀ {v : V} {d : Dv}, Has K (bad z As') H' v d → Has K (bad z As) H' v d := fun h => h.mv (Mv.weak fun a q => q.imp (fp_mono e.at_) fun q => q)
  have nb : ∀ {i : Nat} {a : Addr}, W.length ≤ i → As'[i]? = some [a] → ¬ bad z As a := by
    intro i a hi h q
    rcases q with ⟨l, hl, hm⟩ | q
    · obtain ⟨j, hj⟩ := List.getElem?_of_mem hl
      have := w2.dis j i l [a] a (e.at_ _ _ hj) h hm (List.mem_singleton.mpr rfl)
      have := (List.getElem?_eq_some_iff.mp hj).1
      rw [wl.len] at this
      omega
    · exact w2.zok.out a q ⟨_, List.mem_of_getElem? h, List.mem_singleton.mpr rfl⟩
  intro k
  induction k with
  | zero =>
    intro v x d h r
    cases h with
    | d h => cases r; exact wk h
    | box h => exact nomatch r
  | succ k ih =>
    intro v x d h r
    cases h with
    | d h => cases r; exact wk h
    | @box p l i h =>
      unfold reB at r
      by_cases hi : W.length ≤ i
      rotate_left
      · rw [if_neg hi] at r
        exact nomatch r
      rw [if_pos hi] at r
      cases hw : (W ++ ws)[i]? with
      | none => rw [hw] at r; exact nomatch r
      | some o =>
        rw [hw] at r
        have rp := w2.rep i _ _ h hw
        cases o with
        | lst xs =>
          obtain ⟨a, vs, ea, ha, hv⟩ := rp
          obtain ⟨rfl, rfl⟩ := List.cons.inj ea
          dsimp only at r
          cases h2 : reL (reB (W ++ ws) W.length k) xs with
          | none => rw [h2] at r; exact nomatch r
          | some ds =>
            rw [h2] at r
            cases r
            exact .lst (.inl ⟨nb hi h, .inl ha⟩) (reL_has ih hv h2)
        | ins C ks ds =>
          obtain ⟨a, dx, vs, ea, ha, hv, hl⟩ := rp
          obtain ⟨rfl, rfl⟩ := List.cons.inj ea
          dsimp only at r
          cases h2 : reL (reB (W ++ ws) W.length k) ds with
          | none => rw [h2] at r; exact nomatch r
          | some ds' =>
            rw [h2] at r
            cases r
            exact .ins (nb hi h) ha (reL_has ih hv h2) (hl.trans (reL_len h2))
        | dic ks ds => exact nomatch r
        | obj k => exact nomatch r
        | lck o_ vs_ ks ds => exact nomatch r
        | tupV xs => exact nomatch r
        | tab P q => exact nomatch r
        | xo C ks ds => exact nomatch r
        | gone => exact nomatch r
theorem HasVL.back {us : List V} : ∀ {vs : List V} {xs : List Sv}, (∀ (j : Nat) (l : List Addr), As[j]? = some l → As'[j]? = some l) → HasVL K z As H us xs → HasVL K z As' H' vs xs → HasVL K z As H' vs xs := by
  intro vs xs h1 o n
  induction n generalizing us with
  | nil => exact .nil
  | cons a b ih =>
    cases o with
    | cons oa ob =>
      refine .cons ?_ (ih ob)
      cases a with
      | d a => exact .d (a.mv (Mv.weak fun x q => q.imp (fp_mono h1) fun q => q))
      | box a =>
        cases oa with
        | box oa =>
          rw [h1 _ _ oa] at a
          cases a
          exact .box oa
/-- the new things are left out of the world -/
theorem Wld.back (w : Wld K z As W H) (e : Ext As H As' H') (w2 : Wld K z As' (W ++ ws) H') : Wld K z As W H' := by
  refine ⟨w.len, fun j l u h1 h2 => ?_, fun a q => e.up a (w.trk a q), w.dis, ⟨fun a q => w2.zok.trk a q, fun a q x => w2.zok.out a q (fp_mono e.at_ x)⟩⟩
  have n := w2.rep j l u (e.at_ j l h1) (by rw [List.getElem?_append_left (List.getElem?_eq_some_iff.mp h2).1]; exact h2)
  have b := w.rep j l u h1 h2
  cases u with
  | lst xs =>
    obtain ⟨a, vs, rfl, g1, g2⟩ := n
    obtain ⟨a', us, _, _, b2⟩ := b
    exact ⟨a, vs, rfl, g1, .back e.at_ b2 g2⟩
  | ins C ks ds =>
    obtain ⟨a, dx, vs, rfl, g1, g2, g3⟩ := n
    obtain ⟨a', _, us, _, _, b2, _⟩ := b
    exact ⟨a, dx, vs, rfl, g1, .back e.at_ b2 g2, g3⟩
  | dic ks ds =>
    obtain ⟨a, vs, rfl, g1, g2, g3⟩ := n
    obtain ⟨a', us, _, _, b2, _⟩ := b
    exact ⟨a, vs, rfl, g1, .back e.at_ b2 g2, g3⟩
  | obj k => exact n
  | lck o_ vs_ ks ds =>
    obtain ⟨a, rfl, g1, g2, g3⟩ := n
    obtain ⟨a', _, _, b2, _⟩ := b
    exact ⟨a, rfl, g1, .back e.at_ b2 g2, g3⟩
  | tupV xs =>
    obtain ⟨a, vs, rfl, g1, g2⟩ := n
    obtain ⟨a', us, _, _, b2⟩ := b
    exact ⟨a, vs, rfl, g1, .back e.at_ b2 g2⟩
  | tab P q => exact ⟨n.1, n.2.mv (Mv.weak fun x q => q.imp (fp_mono e.at_) fun q => q) rfl⟩
  | xo C ks ds =>
    obtain ⟨a, vs, rfl, g1, g2, g3⟩ := n
    obtain ⟨a', us, _, _, b2, _⟩ := b
    exact ⟨a, vs, rfl, g1.mv (Mv.weak fun x q => q.imp (fp_mono e.at_) fun q => q) rfl, .back e.at_ b2 g2, g3⟩
  | gone => trivial
theorem Ext.back (e : Ext As H As' H') : Ext As H As H' :=
  ⟨fun b o h n m => ⟨(e.keep b o h n m).1, n, fun q => q⟩, fun _ _ h => h, e.up⟩
/-- what a def that hands out new things hands out -/
def fzD (W : WS) (Φ : Sv → WS → Prop) : Sv → WS → Prop := fun x W' => ∃ ws d, W' = W ++ ws ∧ reB W' W.length 9 x = some d ∧ Φ (.d d) W
theorem Nx.frz {Φ : Sv → WS → Prop} {Q : VK} (w : Wld K z As W H) (q : Nx K z As H Φ Q) : Nx K z As H (fzD W Φ) Q := by
  intro v H' x As' W' e w2 hv p
  obtain ⟨ws, d, rfl, r, p⟩ := p
  exact q v H' _ As W e.back (w.back e w2) (.d (reB_has w e w2 9 v x d hv r)) p
end
section
variable {P : Program} {w : World} {K : PySem.W.Frag} {mg : Str → Option Value} {base : Heap}
end
end DL

/-! lists whose items are things: made, read, written -/
namespace DL
open PySem L2
section
variable {K : PySem.W.Frag} {z : Av} {As As' : List (List Addr)} {W W' : WS} {H H' : Hp} {p : Addr}
theorem HasVL.atI {vs : List V} {xs : List Sv} {i : Int} {d : Sv} (h : HasVL K z As H vs xs) (e : L2.atI xs i = some d) : ∃ v, L2.atI vs i = some v ∧ HasV K z As H v d := by
  unfold L2.atI at e ⊢
  rw [h.length]
  cases r : ixN xs.length i with
  | none => rw [r] at e; cases e
  | some j =>
    rw [r] at e
    exact h.get e
theorem Wld.lstB {v : V} {j : Nat} {xs : List Sv} (w : Wld K z As W H) (h : HasV K z As H v (.box j)) (e : W[j]? = some (.lst xs)) :
    ∃ a vs, v = .ref a ∧ As[j]? = some [a] ∧ H a = some (.lst vs) ∧ HasVL K z As H vs xs := by
  cases h with
  | box h =>
    obtain ⟨a, vs, e1, h1, h2⟩ := w.rep j _ _ h e
    cases e1
    exact ⟨_, vs, rfl, h, h1, h2⟩
theorem turn_lst {j : Nat} {a : Addr} {vs : List V} {xs : List Sv} (w : Wld K z As W H) (ha : As[j]? = some [a]) (hl : HasVL K z As H vs xs) : Wld K z As (W.set j (.lst xs)) (upd H a (.lst vs)) ∧ Ext As H As (upd H a (.lst vs)) := by
  have kp : ∀ b, b ∉ [a] → upd H a (.lst vs) b = H b := fun b n => upd_ne fun e => n (by rw [e]; exact List.mem_singleton.mpr rfl)
  have tr : ∀ b, b ∈ [a] → upd H a (.lst vs) b ≠ none := fun b m => by
    rw [List.mem_singleton] at m
    subst m
    rw [upd_same]
    exact fun x => by cases x
  have e : Ext As H As (upd H a (.lst vs)) := Ext.turn ha kp tr
  exact ⟨w.turn ha kp tr ⟨a, vs, rfl, upd_same, hl.ext e⟩, e⟩
end
/-! ### a comprehension whose items may be things: the list itself is one -/
section
variable {K : PySem.W.Frag}
end
/-! ### an item of a list that changes -/
section
variable {K : PySem.W.Frag}
end
section
variable {X : Cx} {a b e o k : Expr} {ta tb te to ti : TE} {wa we wo : WE} {wb wi : WB} {pos pos2 : Pos}
end
end DL

/-! rules: lists of things, [x] * n, tuple.index, texts in order -/
namespace DL
open PySem L2
section
variable {X : Cx} {tt : TT} {wt : WT}
variable {elt tg iter : Expr} {ifs : List Expr} {scope : Scope} {own : List (Str × Nat)} {pos spos py : Pos} {wi : TI} {w : WI} {g : TG} {tgt : Tgt} {is : List Nat} {te : TE} {we : WE} {y : Str}
end
/-! ### a new list, n times -/
section
variable {K : PySem.W.Frag}
end
section
variable {X : Cx} {a b : Expr} {ta tb : TE} {wa : WF} {wb : WB} {pos : Pos}
end
end DL

/-! sorted(xs) of data that are alike -/
namespace DLG
open PySem L2
def sortP {α : Type} (bs : List (α × PyData)) : List α := (bs.mergeSort (PySem.W.dataLe false Prod.snd)).map Prod.fst
section
variable {X : Cx} {pins : List (Addr × Obj)} {σ : L2.St} {H : Hp} {s : Shared}
theorem RdPs.len : ∀ {vs : List V} {ps : List PyData}, RdPs X.K H vs ps → vs.length = ps.length
  | _, _, .nil => rfl
  | _, _, .cons _ b => congrArg (· + 1) (RdPs.len b)
end
end DLG
namespace DL
open PySem L2
section
variable {K : PySem.W.Frag} {N : Av} {H : Hp}
theorem HasL.ofMem : ∀ S : List (V × Dv × PyData), (∀ t, t ∈ S → Has K N H t.1 t.2.1) → HasL K N H (S.map fun t => t.1) (S.map fun t => t.2.1)
  | [], _ => .nil
  | t :: r, h => .cons (h t List.mem_cons_self) (HasL.ofMem r fun x hx => h x (List.mem_cons_of_mem _ hx))
theorem HasL.zips : ∀ {vs : List V} {ds : List Dv} (ps : List PyData), HasL K N H vs ds → ∀ t, t ∈ vs.zip (ds.zip ps) → Has K N H t.1 t.2.1
  | _, _, _, .nil => fun t h => nomatch h
  | _, _, [], .cons _ _ => fun t h => nomatch h
  | _, _, p :: ps, .cons a b => fun t h => by
    rcases List.mem_cons.mp h with rfl | h
    · exact a
    · exact HasL.zips ps b t h
theorem zip_one : ∀ {vs : List V} {ds : List Dv} {ps : List PyData}, vs.length = ds.length → vs.zip ps = (vs.zip (ds.zip ps)).map fun t => (t.1, t.2.2)
  | [], _, _, _ => rfl
  | _ :: _, _ :: _, [], _ => rfl
  | v :: vs, d :: ds, p :: ps, h => by
    have h : vs.length + 1 = ds.length + 1 := h
    rw [List.zip_cons_cons, List.zip_cons_cons, List.zip_cons_cons, List.map_cons, ← zip_one (by omega)]
theorem zip_two : ∀ {vs : List V} {ds : List Dv} {ps : List PyData}, vs.length = ds.length → ds.zip ps = (vs.zip (ds.zip ps)).map fun t => t.2
  | [], [], _, _ => rfl
  | _ :: _, _ :: _, [], _ => rfl
  | v :: vs, d :: ds, p :: ps, h => by
    have h : vs.length + 1 = ds.length + 1 := h
    rw [List.zip_cons_cons, List.zip_cons_cons, List.map_cons, ← zip_two (by omega)]
theorem HasL.sorted {vs : List V} {ds : List Dv} (ps : List PyData) (h : HasL K N H vs ds) : HasL K N H (DLG.sortP (vs.zip ps)) (DLG.sortP (ds.zip ps)) := by
  have hl : vs.length = ds.length := h.length
  obtain ⟨T, h1, h2, h3⟩ : ∃ T : List (V × Dv × PyData), vs.zip ps = T.map (fun t => (t.1, t.2.2)) ∧ ds.zip ps = T.map (fun t => t.2) ∧ ∀ t, t ∈ T → Has K N H t.1 t.2.1 := ⟨_, zip_one hl, zip_two hl, h.zips ps⟩
  unfold DLG.sortP
  rw [h1, h2]
  rw [← List.map_mergeSort (r := PySem.W.dataLe false fun t : V × Dv × PyData => t.2.2) (f := fun t => (t.1, t.2.2)) (fun _ _ _ _ => rfl)]
  rw [← List.map_mergeSort (r := PySem.W.dataLe false fun t : V × Dv × PyData => t.2.2) (f := fun t => t.2) (fun _ _ _ _ => rfl)]
  rw [List.map_map, List.map_map]
  refine HasL.ofMem _ fun t ht => ?_
  exact h3 t ((List.mergeSort_perm _ _).mem_iff.mp ht)
end
section
variable {X : Cx} {x : Str} {p pos : Pos} {e : Expr} {es : List Expr} {t : TA} {wa : WAB} {r : List V → Hp → VK → Prop} {rf : RDF}
end
end DL

/-! tuples whose object is known: index -/
namespace DLG
open PySem L2
section
variable {X : Cx} {es : List Expr} {t : TA} {pos : Pos}
end
end DLG
namespace DL
open PySem L2
section
variable {K : PySem.W.Frag}
end
section
variable {X : Cx} {es : List Expr} {t : TA} {wa : WA} {pos apos : Pos} {e o : Expr} {te to : TE} {we : WE} {wo : WE} {wb : WB}
end
end DL

/-! lists or tuples walked, texts in order, isinstance of several classes -/
namespace DLG
open PySem L2
end DLG
namespace DL
open PySem L2
section
variable {K : PySem.W.Frag}
end
/-! ### texts in order -/
/-! ### isinstance(x, (list, tuple)) -/
section
variable {X : Cx} {x : Str} {p pos p1 p2 p3 : Pos} {e : Expr} {te : TE} {we : WB} {kk : Nat}
end
end DL

/-! dict comprehensions with texts as keys; len of a new dict -/
namespace DL
open PySem L2
section
variable {K : PySem.W.Frag}
end
section
variable {X : Cx} {tt : TT} {wt : WT}
variable {kx vx tg iter : Expr} {ifs : List Expr} {scope : Scope} {own : List (Str × Nat)} {pos spos py : Pos} {wi : TI} {w : WI} {g : TG} {tgt : Tgt} {is : List Nat} {tk tv : TE} {wk wv : WE} {y : Str}
end
/-! ### len of a new dict -/
end DL

/-! zip of a tuple and a list -/
namespace DLG
open PySem PySem.Spec PyProof.Rows L2
end DLG
namespace DL
open PySem L2
section
variable {K : PySem.W.Frag}
end
end DL

/-! a new list of new lists, as it stands in the world -/
namespace DL
open PySem L2
end DL

/-! calls by keywords in any order; enumerate over a list of things -/
namespace DLG
open PySem PySem.Spec PyProof.Rows L2
section
variable {X : Cx} {CX : CXT} {k : Nat} {f C : Addr} {fd : FuncData} {ps ks : List Str} {sp : Sp} {E : XK} {m : Str} {apos pos : Pos} {o : Expr} {kws : List Keyword} {ta : TE} {tk : TA} {g : List Value → List Value → List Value} {gV : List V → List V → List V}
end
end DLG
namespace DL
open PySem L2 PySem.Spec PyProof.Rows
/-! ### for i, x in enumerate(xs), xs a list of things -/
end DL

/-! readings: enumerate over a list of things; its list set -/
namespace DL
open PySem L2
section
variable {P : Program} {w : World} {K : PySem.W.Frag} {mg : Str → Option Value} {base : Heap}
end
end DL

/-! a field wherever it stands; dict comprehensions over unlike texts -/
namespace DL
open PySem L2
section
variable {K : PySem.W.Frag}
end
section
variable {X : Cx} {C : Addr} {f : Str} {pos : Pos} {e : Expr} {te : TE} {we : WE}
end
end DL

/-! zones: rows, what the methods compute, the draws (plain) -/
namespace My
open PySem L2 DL
def FAR : Int := 1000000000000000000000000000000000000000000000000000000000000
def sq (m : Nat) (rs : List (List Dv)) : Prop := rs.length = m ∧ ∀ r, r ∈ rs → r.length = m
theorem sq.at_ {m : Nat} {rs : List (List Dv)} (h : sq m rs) {i : Nat} (hi : i < m) : ∃ r, rs[i]? = some r ∧ rs.getD i [] = r ∧ r.length = m := by
  have hl : i < rs.length := by rw [h.1]; exact hi
  refine ⟨rs[i], List.getElem?_eq_getElem hl, ?_, h.2 _ (List.getElem_mem hl)⟩
  rw [List.getD_eq_getElem?_getD, List.getElem?_eq_getElem hl]
  rfl
theorem sq.set {m : Nat} {rs : List (List Dv)} (h : sq m rs) {i : Nat} {r : List Dv} (hr : r.length = m) : sq m (rs.set i r) := by
  refine ⟨by rw [List.length_set]; exact h.1, fun q hq => ?_⟩
  rcases List.mem_or_eq_of_mem_set hq with hq | rfl
  · exact h.2 q hq
  · exact hr
def sqI (m : Nat) (rs : List (List Int)) : Prop := rs.length = m ∧ ∀ r, r ∈ rs → r.length = m
def cellI (rs : List (List Int)) (i j : Nat) : Int := (rs.getD i []).getD j 0
def narR (rs : List (List Int)) (a s : Nat) (m : Int) : List (List Int) := rs.map fun row => if FAR ≤ row.getD a 0 then row else List.zipWith (fun known step => if step < FAR then mn known (row.getD a 0 + m + step) else known) row (rs.getD s [])
def nar (rs : List (List Int)) (a s : Nat) (m : Int) : Option (List (List Int)) := if cellI rs a s ≤ m then some rs else if m + cellI rs s a < 0 then none else some (narR rs a s m)
theorem sqI.row {m : Nat} {rs : List (List Int)} (h : sqI m rs) {i : Nat} (hi : i < m) : (rs.getD i []).length = m := by
  have hl : i < rs.length := by rw [h.1]; exact hi
  rw [List.getD_eq_getElem?_getD, List.getElem?_eq_getElem hl]
  exact h.2 _ (List.getElem_mem hl)
theorem sqI.nar {k : Nat} {rs q : List (List Int)} {a s : Nat} {m : Int} (h : sqI k rs) (hs : s < k) (e : My.nar rs a s m = some q) : sqI k q := by
  unfold My.nar at e
  split at e
  · cases e
    exact h
  · split at e
    · cases e
    · cases e
      unfold narR
      refine ⟨by rw [List.length_map]; exact h.1, fun r hr => ?_⟩
      obtain ⟨x, hx, rfl⟩ := List.mem_map.mp hr
      split
      · exact h.2 x hx
      · rw [List.length_zipWith, h.2 x hx, h.row hs, Nat.min_self]
def pinS (o : Option (List (List Int))) (t : Nat × Nat × Int) : Option (List (List Int)) := o.bind fun rs => nar rs t.1 t.2.1 t.2.2
def pin (o : Option (List (List Int))) (ts : List (Nat × Nat × Int)) : Option (List (List Int)) := ts.foldl pinS o
theorem pin_none : ∀ ts, pin none ts = none
  | [] => rfl
  | _ :: ts => pin_none ts
theorem sqI.set {m : Nat} {rs : List (List Int)} (h : sqI m rs) {i : Nat} {r : List Int} (hr : r.length = m) : sqI m (rs.set i r) := by
  refine ⟨by rw [List.length_set]; exact h.1, fun q hq => ?_⟩
  rcases List.mem_or_eq_of_mem_set hq with hq | rfl
  · exact h.2 q hq
  · exact hr
def limD (t : Str × Str × Int) : Dv := .tup [.str t.1, .str t.2.1, .int t.2.2]
/-- the words that the laws use: those drawn, and "b" -/
def six : List Str := ["mark", "row", "wait", "a", "log", "b", "c", "d", "e", "lie", "all", "x"]
structure wok (ws : List Str) : Prop where
  sub : ∀ w, w ∈ ws → w ∈ six
  nd : ws.Nodup
  lo : 1 ≤ ws.length
  hi : ws.length ≤ 5
def nws (ws : List Str) : List Str := "now" :: ws
def zok (ws : List Str) (o : Option (List (List Int))) : Prop := wok ws ∧ ∀ rs, o = some rs → sqI (ws.length + 1) rs
def limOk (ws : List Str) (t : Str × Str × Int) : Prop := t.1 ∈ nws ws ∧ t.2.1 ∈ nws ws ∧ t.1 ≠ t.2.1
def limsOk (ws : List Str) (ls : List (Str × Str × Int)) : Prop := ls.length ≤ 100 ∧ ∀ t, t ∈ ls → limOk ws t
def plT (ws : List Str) (t : Str × Str × Int) : Nat × Nat × Int := ((nws ws).idxOf t.1, (nws ws).idxOf t.2.1, t.2.2)
def stepI (f : List (List Int)) (k : Nat) : List (List Int) := (f.set k ((f.getD k []).set k 0)).set 0 (((f.set k ((f.getD k []).set k 0)).getD 0 []).set k 0)
def wideI (n : Nat) : List (List Int) := (List.range (n + 1)).foldl stepI (List.replicate (n + 1) (List.replicate (n + 1) FAR))
theorem step_sq {m : Nat} {f : List (List Int)} (h : sqI m f) {k : Nat} (hk : k < m) : sqI m (stepI f k) := by
  have s1 : sqI m (f.set k ((f.getD k []).set k 0)) := h.set (by rw [List.length_set]; exact h.row hk)
  unfold stepI
  exact s1.set (by rw [List.length_set]; exact s1.row (by omega))
theorem wide_sq (n : Nat) : sqI (n + 1) (wideI n) := by
  have key : ∀ (l : List Nat) (f : List (List Int)), (∀ k, k ∈ l → k < n + 1) → sqI (n + 1) f → sqI (n + 1) (l.foldl stepI f) := by
    intro l
    induction l with
    | nil => exact fun f _ h => h
    | cons k l ih => exact fun f hl h => ih _ (fun x hx => hl x (List.mem_cons_of_mem _ hx)) (step_sq h (hl k List.mem_cons_self))
  refine key _ _ (fun k hk => List.mem_range.mp hk) ⟨List.length_replicate, fun r hr => ?_⟩
  rw [List.eq_of_mem_replicate hr, List.length_replicate]
def initR (ws : List Str) (ls : List (Str × Str × Int)) : Option (List (List Int)) := pin (some (wideI ws.length)) (ls.map (plT ws))
def hasP (v : Int) (p : Int × Int) : Bool := decide (v - p.1 ≤ p.2)
def hasB (vs : List Int) : List (Int × List Int) → Bool
  | [] => true
  | p :: ps => (vs.zip p.2).all (hasP p.1) && hasB vs ps
theorem idx_lt {ws : List Str} {a : Str} (h : a ∈ nws ws) : (nws ws).idxOf a < ws.length + 1 := by
  have := List.idxOf_lt_length_of_mem h
  exact this
theorem zok.row {ws : List Str} {o : Option (List (List Int))} (h : zok ws o) : ws.length + 1 ≤ 10 := by
  have := h.1.hi
  omega

/-! the plain law: rows stay square, pins never grow them -/
def leR (k : Nat) (q rs : List (List Int)) : Prop := ∀ i j, i < k → j < k → cellI q i j ≤ cellI rs i j
theorem mn_le (a b : Int) : mn a b ≤ a := by
  unfold mn
  split <;> omega
theorem getD_mapR (f : List Int → List Int) (l : List (List Int)) {i : Nat} (h : i < l.length) : (l.map f).getD i [] = f (l.getD i []) := by
  rw [List.getD_eq_getElem?_getD, List.getD_eq_getElem?_getD, List.getElem?_map, List.getElem?_eq_getElem h]
  rfl
theorem getD_zipR (f : Int → Int → Int) {r q : List Int} {j : Nat} (h1 : j < r.length) (h2 : j < q.length) : (List.zipWith f r q).getD j 0 = f (r.getD j 0) (q.getD j 0) := by
  simp [List.getD_eq_getElem?_getD, List.getElem?_zipWith, List.getElem?_eq_getElem h1, List.getElem?_eq_getElem h2]
theorem nar_le {k : Nat} {rs q : List (List Int)} {a s : Nat} {m : Int} (h : sqI k rs) (hs : s < k) (e : nar rs a s m = some q) : leR k q rs := by
  unfold nar at e
  split at e
  · cases e
    exact fun _ _ _ _ => Int.le_refl _
  · split at e
    · cases e
    · cases e
      intro i j hi hj
      have hil : i < rs.length := by rw [h.1]; exact hi
      have hr := h.row hi
      have hq := h.row hs
      unfold cellI narR
      rw [getD_mapR _ _ hil]
      generalize rs.getD i [] = row at hr
      generalize rs.getD s [] = row2 at hq
      split
      · exact Int.le_refl _
      · rw [getD_zipR _ (by omega) (by omega)]
        split
        · exact mn_le _ _
        · exact Int.le_refl _
theorem pin_le {k : Nat} {w0 : List (List Int)} : ∀ {ts : List (Nat × Nat × Int)} {o : Option (List (List Int))}, (∀ t, t ∈ ts → t.1 < k ∧ t.2.1 < k) → (∀ rs, o = some rs → sqI k rs ∧ leR k rs w0) → ∀ rs, pin o ts = some rs → leR k rs w0
  | [], o, _, h => fun rs e => (h rs e).2
  | t :: ts, o, ht, h => by
    refine pin_le (ts := ts) (o := pinS o t) (fun u hu => ht u (List.mem_cons_of_mem _ hu)) fun rs e => ?_
    cases o with
    | none => cases e
    | some q =>
      obtain ⟨h1, h2⟩ := h q rfl
      have hs := (ht t List.mem_cons_self).2
      have h3 := nar_le h1 hs e
      exact ⟨h1.nar hs e, fun i j hi hj => Int.le_trans (h3 i j hi hj) (h2 i j hi hj)⟩
theorem pl_lt {ws : List Str} {ls : List (Str × Str × Int)} (h : limsOk ws ls) : ∀ t, t ∈ ls.map (plT ws) → t.1 < ws.length + 1 ∧ t.2.1 < ws.length + 1 := fun t ht => by
  obtain ⟨u, hu, rfl⟩ := List.mem_map.mp ht
  obtain ⟨h1, h2, _⟩ := h.2 u hu
  exact ⟨idx_lt h1, idx_lt h2⟩
end My

/-! zones: closed rows and their points (plain) -/
namespace My
open PySem L2 DL
theorem FAR_def : FAR = 1000000000000000000000000000000000000000000000000000000000000 := rfl
structure Clo (k : Nat) (B : Int) (rs : List (List Int)) : Prop where
  sq : sqI k rs
  dg : ∀ i, i < k → cellI rs i i = 0
  tr : ∀ i j l, i < k → j < k → l < k → cellI rs i j < FAR → cellI rs j l < FAR → cellI rs i l ≤ cellI rs i j + cellI rs j l
  bd : ∀ i j, i < k → j < k → cellI rs i j < FAR → -B ≤ cellI rs i j ∧ cellI rs i j ≤ B
  fr : ∀ i j, i < k → j < k → ¬ cellI rs i j < FAR → cellI rs i j = FAR
  z0 : ∀ j, j < k → cellI rs 0 j ≤ 0
def solR (k : Nat) (rs : List (List Int)) (p : Nat → Int) : Prop := ∀ i j, i < k → j < k → cellI rs i j < FAR → p i - p j ≤ cellI rs i j
theorem nar_cell {k : Nat} {rs : List (List Int)} {a s : Nat} {m : Int} (h : sqI k rs) (hs : s < k) {i j : Nat} (hi : i < k) (hj : j < k) :
    cellI (narR rs a s m) i j = if FAR ≤ cellI rs i a then cellI rs i j else if cellI rs s j < FAR then mn (cellI rs i j) (cellI rs i a + m + cellI rs s j) else cellI rs i j := by
  have hil : i < rs.length := by rw [h.1]; exact hi
  have hr := h.row hi
  have hq := h.row hs
  unfold cellI narR
  rw [getD_mapR _ _ hil]
  by_cases c : FAR ≤ (rs.getD i []).getD a 0
  · rw [if_pos c, if_pos c]
  · rw [if_neg c, if_neg c, getD_zipR _ (by omega) (by omega)]
theorem mn_cases (a b : Int) : (a ≤ b ∧ mn a b = a) ∨ (b < a ∧ mn a b = b) := by
  unfold mn
  split <;> omega
theorem Clo.nar {k : Nat} {B b : Int} {rs q : List (List Int)} {a s : Nat} {m : Int} (h : Clo k B rs) (ha : a < k) (hs : s < k) (hB : 0 ≤ B) (hm : -b ≤ m ∧ m ≤ b) (hF : 4 * (B + b) < FAR) (e : My.nar rs a s m = some q) :
    Clo k (2 * B + b) q ∧ ∀ p : Nat → Int, solR k q p ↔ solR k rs p ∧ p a - p s ≤ m := by
  have hb : 0 ≤ b := by omega
  unfold My.nar at e
  by_cases c1 : cellI rs a s ≤ m
  · rw [if_pos c1] at e
    cases e
    refine ⟨⟨h.sq, h.dg, h.tr, fun i j hi hj hf => ?_, h.fr, h.z0⟩, fun p => ⟨fun g => ⟨g, ?_⟩, fun g => g.1⟩⟩
    · have := h.bd i j hi hj hf
      omega
    · have := g a s ha hs (by omega)
      omega
  rw [if_neg c1] at e
  by_cases c2 : m + cellI rs s a < 0
  · rw [if_pos c2] at e
    cases e
  rw [if_neg c2] at e
  cases e
  have cel := fun i j (hi : i < k) (hj : j < k) => nar_cell (a := a) (m := m) h.sq hs hi hj
  have dga := h.dg a ha
  have dgs := h.dg s hs
  -- what a new entry is
  have new : ∀ i j, i < k → j < k → (cellI (narR rs a s m) i j = cellI rs i j ∧ (cellI rs i a < FAR → cellI rs s j < FAR → cellI rs i j ≤ cellI rs i a + m + cellI rs s j)) ∨
      (cellI rs i a < FAR ∧ cellI rs s j < FAR ∧ cellI (narR rs a s m) i j = cellI rs i a + m + cellI rs s j ∧ cellI rs i a + m + cellI rs s j < cellI rs i j) := by
    intro i j hi hj
    rw [cel i j hi hj]
    by_cases c3 : FAR ≤ cellI rs i a
    · rw [if_pos c3]
      exact .inl ⟨rfl, fun g => by omega⟩
    · rw [if_neg c3]
      by_cases c4 : cellI rs s j < FAR
      · rw [if_pos c4]
        rcases mn_cases (cellI rs i j) (cellI rs i a + m + cellI rs s j) with ⟨g1, g2⟩ | ⟨g1, g2⟩
        · exact .inl ⟨g2, fun _ _ => g1⟩
        · exact .inr ⟨by omega, c4, g2, g1⟩
      · rw [if_neg c4]
        exact .inl ⟨rfl, fun _ g => absurd g c4⟩
  have bd := h.bd
  refine ⟨⟨?_, ?_, ?_, ?_, ?_, ?_⟩, ?_⟩
  · exact h.sq.nar hs (m := m) (a := a) (by unfold My.nar; rw [if_neg c1, if_neg c2])
  · intro i hi
    have d := h.dg i hi
    rcases new i i hi hi with ⟨g, _⟩ | ⟨g1, g2, g3, g4⟩
    · rw [g, d]
    · have t := h.tr s i a hs hi ha g2 g1
      omega
  · intro i j l hi hj hl f1 f2
    -- the four ways
    have upper : ∀ x, cellI rs i a < FAR → cellI rs s l < FAR → cellI rs i a + m + cellI rs s l ≤ x → cellI (narR rs a s m) i l ≤ x := by
      intro x g1 g2 g3
      rcases new i l hi hl with ⟨e1, e2⟩ | ⟨e1, e2, e3, e4⟩
      · have := e2 g1 g2
        omega
      · omega
    have low : ∀ x, cellI rs i l ≤ x → cellI (narR rs a s m) i l ≤ x := by
      intro x g
      rcases new i l hi hl with ⟨e1, e2⟩ | ⟨e1, e2, e3, e4⟩
      · omega
      · omega
    rcases new i j hi hj with ⟨e1, e2⟩ | ⟨e1, e2, e3, e4⟩
    · rcases new j l hj hl with ⟨k1, k2⟩ | ⟨k1, k2, k3, k4⟩
      · rw [e1, k1]
        rw [e1] at f1
        rw [k1] at f2
        exact low _ (h.tr i j l hi hj hl f1 f2)
      · rw [e1] at f1
        have t := h.tr i j a hi hj ha f1 k1
        have b1 := bd i j hi hj f1
        have b2 := bd j a hj ha k1
        refine upper _ (by omega) k2 ?_
        omega
    · rcases new j l hj hl with ⟨k1, k2⟩ | ⟨k1, k2, k3, k4⟩
      · rw [k1] at f2
        have t := h.tr s j l hs hj hl e2 f2
        have b1 := bd s j hs hj e2
        have b2 := bd j l hj hl f2
        refine upper _ e1 (by omega) ?_
        omega
      · have t := h.tr s j a hs hj ha e2 k1
        have b1 := bd s j hs hj e2
        have b2 := bd j a hj ha k1
        refine upper _ e1 k2 ?_
        omega
  · intro i j hi hj f
    rcases new i j hi hj with ⟨e1, e2⟩ | ⟨e1, e2, e3, e4⟩
    · rw [e1] at f ⊢
      have := bd i j hi hj f
      omega
    · have b1 := bd i a hi ha e1
      have b2 := bd s j hs hj e2
      omega
  · intro i j hi hj f
    rcases new i j hi hj with ⟨e1, e2⟩ | ⟨e1, e2, e3, e4⟩
    · rw [e1] at f ⊢
      exact h.fr i j hi hj f
    · exfalso
      have b1 := bd i a hi ha e1
      have b2 := bd s j hs hj e2
      omega
  · intro j hj
    have k0 : 0 < k := by omega
    have z := h.z0 j hj
    rcases new 0 j k0 hj with ⟨e1, e2⟩ | ⟨e1, e2, e3, e4⟩
    · omega
    · omega
  · intro p
    refine ⟨fun g => ⟨fun i j hi hj f => ?_, ?_⟩, fun ⟨g1, g2⟩ i j hi hj f => ?_⟩
    · rcases new i j hi hj with ⟨e1, e2⟩ | ⟨e1, e2, e3, e4⟩
      · have := g i j hi hj (by omega)
        omega
      · have b1 := bd i a hi ha e1
        have b2 := bd s j hs hj e2
        have := g i j hi hj (by omega)
        omega
    · rcases new a s ha hs with ⟨e1, e2⟩ | ⟨e1, e2, e3, e4⟩
      · have := e2 (by omega) (by omega)
        omega
      · have := g a s ha hs (by omega)
        omega
    · rcases new i j hi hj with ⟨e1, e2⟩ | ⟨e1, e2, e3, e4⟩
      · rw [e1] at f ⊢
        exact g1 i j hi hj f
      · have t1 := g1 i a hi ha e1
        have t2 := g1 s j hs hj e2
        omega
theorem Clo.nar_no {k : Nat} {B b : Int} {rs : List (List Int)} {a s : Nat} {m : Int} (h : Clo k B rs) (ha : a < k) (hs : s < k) (hm : -b ≤ m ∧ m ≤ b) (hF : b < FAR) (e : My.nar rs a s m = none) (p : Nat → Int) (g : solR k rs p) : ¬ p a - p s ≤ m := by
  unfold My.nar at e
  by_cases c1 : cellI rs a s ≤ m
  · rw [if_pos c1] at e
    cases e
  rw [if_neg c1] at e
  by_cases c2 : m + cellI rs s a < 0
  · have := g s a hs ha (by omega)
    omega
  · rw [if_neg c2] at e
    cases e
/-! ### many limits -/
def keeps (ts : List (Nat × Nat × Int)) (p : Nat → Int) : Prop := ∀ t, t ∈ ts → p t.1 - p t.2.1 ≤ t.2.2
theorem one_pow2 : ∀ n : Nat, (1 : Int) ≤ 2 ^ n
  | 0 => by decide
  | n + 1 => by
    have := one_pow2 n
    rw [Int.pow_succ]
    omega
theorem pin_some {k : Nat} {b : Int} : ∀ {ts : List (Nat × Nat × Int)} {B : Int} {rs q : List (List Int)}, Clo k B rs → 0 ≤ B → (∀ t, t ∈ ts → (t.1 < k ∧ t.2.1 < k) ∧ -b ≤ t.2.2 ∧ t.2.2 ≤ b) → 4 * ((B + b) * 2 ^ ts.length) < FAR → pin (some rs) ts = some q →
    (∃ B', 0 ≤ B' ∧ B' + b ≤ (B + b) * 2 ^ ts.length ∧ Clo k B' q) ∧ ∀ p : Nat → Int, solR k q p ↔ solR k rs p ∧ keeps ts p
  | [], B, rs, q, h, hB, _, _, e => by
    cases e
    refine ⟨⟨B, hB, by simp, h⟩, fun p => ⟨fun g => ⟨g, fun t ht => nomatch ht⟩, fun g => g.1⟩⟩
  | t :: ts, B, rs, q, h, hB, ht, hF, e => by
    obtain ⟨⟨ha, hs⟩, hm⟩ := ht t List.mem_cons_self
    have hb : 0 ≤ b := by omega
    have p1 : (1 : Int) ≤ 2 ^ ts.length := one_pow2 _
    have e2 : (2 : Int) ^ (t :: ts).length = 2 * 2 ^ ts.length := by rw [List.length_cons, Int.pow_succ, Int.mul_comm]
    rw [e2] at hF
    have hF1 : 4 * (B + b) < FAR := by
      have : (B + b) * 1 ≤ (B + b) * (2 * 2 ^ ts.length) := Int.mul_le_mul_of_nonneg_left (by omega) (by omega)
      omega
    have e : pin (My.nar rs t.1 t.2.1 t.2.2) ts = some q := e
    cases en : My.nar rs t.1 t.2.1 t.2.2 with
    | none =>
      rw [en, pin_none] at e
      cases e
    | some r =>
      rw [en] at e
      obtain ⟨h1, h2⟩ := h.nar ha hs hB hm hF1 en
      have er : (2 * B + b + b) * 2 ^ ts.length = (B + b) * (2 * 2 ^ ts.length) := by
        rw [← Int.mul_assoc]
        congr 1
        omega
      obtain ⟨⟨B', b1, b2, b3⟩, h4⟩ := pin_some h1 (by omega) (fun u hu => ht u (List.mem_cons_of_mem _ hu)) (by rw [er]; exact hF) e
      refine ⟨⟨B', b1, by rw [e2, ← er]; exact b2, b3⟩, fun p => ?_⟩
      rw [h4, h2]
      refine ⟨fun ⟨⟨g1, g2⟩, g3⟩ => ⟨g1, fun u hu => ?_⟩, fun ⟨g1, g2⟩ => ⟨⟨g1, g2 t List.mem_cons_self⟩, fun u hu => g2 u (List.mem_cons_of_mem _ hu)⟩⟩
      rcases List.mem_cons.mp hu with rfl | hu
      · exact g2
      · exact g3 u hu
theorem pin_no {k : Nat} {b : Int} : ∀ {ts : List (Nat × Nat × Int)} {B : Int} {rs : List (List Int)}, Clo k B rs → 0 ≤ B → (∀ t, t ∈ ts → (t.1 < k ∧ t.2.1 < k) ∧ -b ≤ t.2.2 ∧ t.2.2 ≤ b) → 4 * ((B + b) * 2 ^ ts.length) < FAR → pin (some rs) ts = none →
    ∀ p : Nat → Int, solR k rs p → ¬ keeps ts p
  | [], B, rs, h, hB, _, _, e => by cases e
  | t :: ts, B, rs, h, hB, ht, hF, e => by
    intro p g hk
    obtain ⟨⟨ha, hs⟩, hm⟩ := ht t List.mem_cons_self
    have hb : 0 ≤ b := by omega
    have p1 : (1 : Int) ≤ 2 ^ ts.length := one_pow2 _
    have e2 : (2 : Int) ^ (t :: ts).length = 2 * 2 ^ ts.length := by rw [List.length_cons, Int.pow_succ, Int.mul_comm]
    rw [e2] at hF
    have hF1 : 4 * (B + b) < FAR := by
      have : (B + b) * 1 ≤ (B + b) * (2 * 2 ^ ts.length) := Int.mul_le_mul_of_nonneg_left (by omega) (by omega)
      omega
    have e : pin (My.nar rs t.1 t.2.1 t.2.2) ts = none := e
    cases en : My.nar rs t.1 t.2.1 t.2.2 with
    | none => exact h.nar_no ha hs hm (by omega) en p g (hk t List.mem_cons_self)
    | some r =>
      rw [en] at e
      obtain ⟨h1, h2⟩ := h.nar ha hs hB hm hF1 en
      have er : (2 * B + b + b) * 2 ^ ts.length = (B + b) * (2 * 2 ^ ts.length) := by
        rw [← Int.mul_assoc]
        congr 1
        omega
      exact pin_no h1 (by omega) (fun u hu => ht u (List.mem_cons_of_mem _ hu)) (by rw [er]; exact hF) e p ((h2 p).mpr ⟨g, hk t List.mem_cons_self⟩) fun u hu => hk u (List.mem_cons_of_mem _ hu)
/-! ### rows of no limits -/
theorem cell_set {k : Nat} {f : List (List Int)} (h : sqI k f) {a c i j : Nat} {v : Int} (ha : a < k) (hc : c < k) : cellI (f.set a ((f.getD a []).set c v)) i j = if i = a ∧ j = c then v else cellI f i j := by
  have hal : a < f.length := by rw [h.1]; exact ha
  have hr := h.row ha
  unfold cellI
  by_cases q : i = a
  · subst q
    have e : (f.set i ((f.getD i []).set c v)).getD i [] = (f.getD i []).set c v := by
      rw [List.getD_eq_getElem?_getD, List.getElem?_set_self hal]
      rfl
    rw [e]
    generalize f.getD i [] = r at *
    by_cases q2 : j = c
    · subst q2
      rw [if_pos ⟨rfl, rfl⟩, List.getD_eq_getElem?_getD, List.getElem?_set_self (by omega)]
      rfl
    · rw [if_neg (fun g => q2 g.2), List.getD_eq_getElem?_getD, List.getElem?_set_ne (fun g => q2 g.symm), List.getD_eq_getElem?_getD]
  · rw [if_neg (fun g => q g.1)]
    have e : (f.set a ((f.getD a []).set c v)).getD i [] = f.getD i [] := by
      rw [List.getD_eq_getElem?_getD, List.getElem?_set_ne (fun g => q g.symm), List.getD_eq_getElem?_getD]
    rw [e]
theorem step_cell {k : Nat} {f : List (List Int)} (h : sqI k f) {c i j : Nat} (hc : c < k) : cellI (stepI f c) i j = if (i = c ∨ i = 0) ∧ j = c then 0 else cellI f i j := by
  have s1 : sqI k (f.set c ((f.getD c []).set c 0)) := h.set (by rw [List.length_set]; exact h.row hc)
  unfold stepI
  rw [cell_set s1 (by omega) hc, cell_set h hc hc]
  by_cases q1 : i = 0 <;> by_cases q2 : j = c <;> by_cases q3 : i = c <;> simp [q1, q2, q3]
theorem wide_cell {n i j : Nat} (hi : i < n + 1) (hj : j < n + 1) : cellI (wideI n) i j = if i = j ∨ i = 0 then 0 else FAR := by
  have key : ∀ (l : List Nat) (f : List (List Int)), (∀ c, c ∈ l → c < n + 1) → sqI (n + 1) f → cellI (l.foldl stepI f) i j = if (i = j ∨ i = 0) ∧ j ∈ l then 0 else cellI f i j := by
    intro l
    induction l with
    | nil =>
      intro f _ _
      simp
    | cons c l ih =>
      intro f hl hf
      have hc := hl c List.mem_cons_self
      rw [List.foldl_cons, ih _ (fun x hx => hl x (List.mem_cons_of_mem _ hx)) (step_sq hf hc), step_cell hf hc]
      by_cases q1 : j = c
      · subst q1
        by_cases q2 : i = j ∨ i = 0
        · simp [q2]
        · simp [q2]
      · by_cases q2 : (i = j ∨ i = 0) ∧ j ∈ l
        · rw [if_pos q2, if_pos ⟨q2.1, List.mem_cons_of_mem _ q2.2⟩]
        · rw [if_neg q2, if_neg (fun g => q1 g.2), if_neg (fun g => q2 ⟨g.1, (List.mem_cons.mp g.2).resolve_left q1⟩)]
  unfold wideI
  have s0 : sqI (n + 1) (List.replicate (n + 1) (List.replicate (n + 1) FAR)) := ⟨List.length_replicate, fun r hr => by rw [List.eq_of_mem_replicate hr, List.length_replicate]⟩
  rw [key _ _ (fun c hc => List.mem_range.mp hc) s0]
  have e : cellI (List.replicate (n + 1) (List.replicate (n + 1) FAR)) i j = FAR := by
    have e0 : (List.replicate (n + 1) (List.replicate (n + 1) FAR)).getD i [] = List.replicate (n + 1) FAR := by
      rw [List.getD_eq_getElem?_getD, List.getElem?_replicate, if_pos hi]
      rfl
    unfold cellI
    rw [e0, List.getD_eq_getElem?_getD, List.getElem?_replicate, if_pos hj]
    rfl
  rw [e]
  by_cases q : i = j ∨ i = 0
  · rw [if_pos ⟨q, List.mem_range.mpr hj⟩, if_pos q]
  · rw [if_neg (fun g => q g.1), if_neg q]
theorem wide_clo (n : Nat) : Clo (n + 1) 0 (wideI n) := by
  have F := FAR_def
  refine ⟨wide_sq n, fun i hi => ?_, fun i j l hi hj hl f1 f2 => ?_, fun i j hi hj f => ?_, fun i j hi hj f => ?_, fun j hj => ?_⟩
  · rw [wide_cell hi hi, if_pos (.inl rfl)]
    <;> rfl
  · rw [wide_cell hi hj] at f1 ⊢
    rw [wide_cell hj hl] at f2 ⊢
    rw [wide_cell hi hl]
    by_cases q1 : i = j ∨ i = 0
    · rw [if_pos q1] at f1 ⊢
      by_cases q2 : j = l ∨ j = 0
      · rw [if_pos q2]
        rw [if_pos (by omega)]
        decide
      · rw [if_neg q2] at f2
        omega
    · rw [if_neg q1] at f1
      omega
  · rw [wide_cell hi hj] at f ⊢
    by_cases q1 : i = j ∨ i = 0
    · rw [if_pos q1]
      decide
    · rw [if_neg q1] at f
      omega
  · rw [wide_cell hi hj] at f ⊢
    by_cases q1 : i = j ∨ i = 0
    · rw [if_pos q1] at f
      omega
    · rw [if_neg q1]
  · rw [wide_cell (by omega) hj, if_pos (.inr rfl)]
    decide
theorem wide_sol {n : Nat} {p : Nat → Int} (h0 : p 0 = 0) : solR (n + 1) (wideI n) p ↔ ∀ j, j < n + 1 → 0 ≤ p j := by
  have F := FAR_def
  refine ⟨fun g j hj => ?_, fun g i j hi hj f => ?_⟩
  · have := g 0 j (by omega) hj (by rw [wide_cell (by omega) hj, if_pos (.inr rfl)]; omega)
    rw [wide_cell (by omega) hj, if_pos (.inr rfl), h0] at this
    omega
  · rw [wide_cell hi hj] at f ⊢
    by_cases q1 : i = j ∨ i = 0
    · rw [if_pos q1]
      rcases q1 with rfl | rfl
      · omega
      · have := g j hj
        omega
    · rw [if_neg q1] at f
      omega
/-! ### points that come to the limits -/
theorem Clo.fin0 {k : Nat} {B : Int} {rs : List (List Int)} (h : Clo k B rs) {j : Nat} (hj : j < k) : cellI rs 0 j < FAR := by
  have := h.z0 j hj
  have F := FAR_def
  omega
theorem Clo.least {k : Nat} {B : Int} {rs : List (List Int)} (h : Clo k B rs) : solR k rs fun l => -(cellI rs 0 l) := by
  intro i j hi hj f
  have t := h.tr 0 i j (by omega) hi hj (h.fin0 hi) f
  dsimp only
  omega
/-- the point that is farthest from j -/
theorem Clo.far {k : Nat} {B : Int} {rs : List (List Int)} (h : Clo k B rs) {j : Nat} (hj : j < k) (hf : ∀ l, l < k → cellI rs l j < FAR) : solR k rs fun l => cellI rs l j - cellI rs 0 j := by
  intro i l hi hl f
  have t := h.tr i l j hi hl hj f (hf l hl)
  dsimp only
  omega
/-- bounded rows with the same points are the same -/
theorem Clo.same {k : Nat} {B B' : Int} {rs qs : List (List Int)} (h : Clo k B rs) (h' : Clo k B' qs) (hf : ∀ i j, i < k → j < k → cellI rs i j < FAR) (hf' : ∀ i j, i < k → j < k → cellI qs i j < FAR) (e : ∀ p : Nat → Int, p 0 = 0 → (solR k rs p ↔ solR k qs p)) : rs = qs := by
  have le : ∀ {B B' : Int} {rs qs : List (List Int)}, Clo k B rs → Clo k B' qs → (∀ i j, i < k → j < k → cellI rs i j < FAR) → (∀ i j, i < k → j < k → cellI qs i j < FAR) → (∀ p : Nat → Int, p 0 = 0 → solR k rs p → solR k qs p) → ∀ i j, i < k → j < k → cellI rs i j ≤ cellI qs i j := by
    intro B B' rs qs h h' hf hf' e i j hi hj
    have g : (cellI rs i j - cellI rs 0 j) - (cellI rs j j - cellI rs 0 j) ≤ cellI qs i j := e (fun l => cellI rs l j - cellI rs 0 j) (by show cellI rs 0 j - cellI rs 0 j = 0; omega) (h.far hj fun l hl => hf l j hl hj) i j hi hj (hf' i j hi hj)
    have d := h.dg j hj
    omega
  refine List.ext_getElem (by rw [h.sq.1, h'.sq.1]) fun i h1 h2 => ?_
  have hi : i < k := by rw [← h.sq.1]; exact h1
  refine List.ext_getElem (by rw [h.sq.2 _ (List.getElem_mem h1), h'.sq.2 _ (List.getElem_mem h2)]) fun j h3 h4 => ?_
  have hj : j < k := by rw [← h.sq.2 _ (List.getElem_mem h1)]; exact h3
  have l1 := le h h' hf hf' (fun p p0 g => (e p p0).mp g) i j hi hj
  have l2 := le h' h hf' hf (fun p p0 g => (e p p0).mpr g) i j hi hj
  have c1 : cellI rs i j = rs[i][j] := by
    unfold cellI
    rw [List.getD_eq_getElem?_getD, List.getD_eq_getElem?_getD, List.getElem?_eq_getElem h1]
    show (rs[i][j]?).getD 0 = _
    rw [List.getElem?_eq_getElem h3]
    rfl
  have c2 : cellI qs i j = qs[i][j] := by
    unfold cellI
    rw [List.getD_eq_getElem?_getD, List.getD_eq_getElem?_getD, List.getElem?_eq_getElem h2]
    show (qs[i][j]?).getD 0 = _
    rw [List.getElem?_eq_getElem h4]
    rfl
  rw [← c1, ← c2]
  omega
end My

/-! tuple + tuple; a, b = a list; *e within a comprehension -/
namespace DL
open PySem L2
end DL

/-! zones: further defs (plain) -/
namespace My
open PySem L2 DL
end My

/-! zones: limits in their order (plain) -/
namespace My
open PySem L2 DL
end My

/-! zones: == of what they tell (plain) -/
namespace My
open PySem L2 DL
end My

/-! list(d.items()); x in xs, data of any depth -/
namespace DLG
open PySem PySem.Spec PyProof.Rows L2 LiI
end DLG
namespace DL
open PySem L2
def kD : Key → Dv
  | .inl i => .int i
  | .inr s => .str s
section
variable {K : PySem.W.Frag} {z : Av} {As : List (List Addr)} {W : WS} {H H' : Hp} {ow : Av}
theorem Ext.more (k : ∀ b o, H b = some o → H' b = some o) : ExtS As ow H As ow H' :=
  ⟨fun b u e n m => ⟨k b u e, n, m⟩, fun _ _ q => q, fun a q => by
    cases h : H a with
    | none => exact absurd h q
    | some o => rw [k a o h]; exact fun x => by cases x⟩
end
/-! ### x in xs -/
end DL

/-! zones: points by trial, drawn limits (plain) -/
namespace My
open PySem L2 DL
theorem now_no {ws : List Str} (h : wok ws) : ("now" : Str) ∉ ws := fun m => by
  have := h.sub _ m
  unfold six at this
  revert this
  decide +kernel
def ptsStep (top : Nat) (p : List Int) : List (List Int) := (List.range (top + 1)).map fun (v : Nat) => p ++ [Int.ofNat v]
def ptsN (top : Nat) : Nat → List (List Int)
  | 0 => [[]]
  | m + 1 => ((ptsN top m).map (ptsStep top)).flatten
def valP (ws : List Str) (pt : List Int) (w : Str) : Int := (0 :: pt).getD ((nws ws).idxOf w) 0
def keepB (ws : List Str) (pt : List Int) (t : Str × Str × Int) : Bool := decide (valP ws pt t.1 - valP ws pt t.2.1 ≤ t.2.2)
def keepsB (ws : List Str) (ls : List (Str × Str × Int)) (pt : List Int) : Bool := ls.all (keepB ws pt)
def smallL (ls : List (Str × Str × Int)) : Prop := ∀ t, t ∈ ls → -9 ≤ t.2.2 ∧ t.2.2 ≤ 9
theorem ptsN_len {top : Nat} : ∀ {m : Nat} {p : List Int}, p ∈ ptsN top m → p.length = m
  | 0, p, h => by
    rw [List.mem_singleton.mp h]
    rfl
  | m + 1, p, h => by
    obtain ⟨l, hl, hp⟩ := List.mem_flatten.mp h
    obtain ⟨q, hq, rfl⟩ := List.mem_map.mp hl
    obtain ⟨v, _, rfl⟩ := List.mem_map.mp hp
    rw [List.length_append, List.length_singleton, ptsN_len hq]
/-- which points are tried -/
theorem ptsN_mem {top : Nat} : ∀ {m : Nat} {p : List Int}, p ∈ ptsN top m ↔ p.length = m ∧ ∀ x, x ∈ p → 0 ≤ x ∧ x ≤ top
  | 0, p => by
    refine ⟨fun h => ?_, fun h => ?_⟩
    · rw [List.mem_singleton.mp h]
      exact ⟨rfl, fun x hx => nomatch hx⟩
    · rw [List.length_eq_zero_iff.mp h.1]
      exact List.mem_singleton.mpr rfl
  | m + 1, p => by
    refine ⟨fun h => ⟨ptsN_len h, ?_⟩, fun ⟨h1, h2⟩ => ?_⟩
    · obtain ⟨l, hl, hp⟩ := List.mem_flatten.mp h
      obtain ⟨q, hq, rfl⟩ := List.mem_map.mp hl
      obtain ⟨v, hv, rfl⟩ := List.mem_map.mp hp
      intro x hx
      rcases List.mem_append.mp hx with hx | hx
      · exact (ptsN_mem.mp hq).2 x hx
      · rw [List.mem_singleton.mp hx]
        have := List.mem_range.mp hv
        show 0 ≤ ((v : Nat) : Int) ∧ ((v : Nat) : Int) ≤ top
        omega
    · have hne : p ≠ [] := fun e => by
        rw [e] at h1
        cases h1
      have hp := List.dropLast_concat_getLast hne
      have hlast := h2 _ (List.getLast_mem hne)
      refine List.mem_flatten.mpr ⟨ptsStep top p.dropLast, List.mem_map.mpr ⟨p.dropLast, ptsN_mem.mpr ⟨by rw [List.length_dropLast, h1]; rfl, fun x hx => h2 x (List.dropLast_subset _ hx)⟩, rfl⟩, ?_⟩
      refine List.mem_map.mpr ⟨(p.getLast hne).toNat, List.mem_range.mpr (by omega), ?_⟩
      have e : Int.ofNat (p.getLast hne).toNat = p.getLast hne := by
        show (((p.getLast hne).toNat : Nat) : Int) = _
        omega
      rw [e]
      exact hp
/-! dicts -/
/-! specs -/
def insideL (ws : List Str) (ls : List (Str × Str × Int)) (top : Nat) : List (List Int) := (ptsN top ws.length).filter (keepsB ws ls)
end My

/-! zones: points and limits (plain) -/
namespace My
open PySem L2 DL
/-- a point as numbers by place, "now" first -/
def pf (p : List Int) : Nat → Int := fun i => (0 :: p).getD i 0
theorem pf0 (p : List Int) : pf p 0 = 0 := rfl
theorem keeps_b {ws : List Str} {ls : List (Str × Str × Int)} {p : List Int} : keepsB ws ls p = true ↔ keeps (ls.map (plT ws)) (pf p) := by
  unfold keepsB
  rw [List.all_eq_true]
  constructor
  · intro g t ht
    obtain ⟨u, hu, rfl⟩ := List.mem_map.mp ht
    exact of_decide_eq_true (g u hu)
  · intro g u hu
    exact decide_eq_true (g _ (List.mem_map.mpr ⟨u, hu, rfl⟩))
theorem pow2_le : ∀ {n m : Nat}, n ≤ m → (2 : Int) ^ n ≤ 2 ^ m := by
  intro n m h
  induction m with
  | zero =>
    have e : n = 0 := by omega
    subst e
    exact Int.le_refl _
  | succ m ih =>
    by_cases q : n ≤ m
    · have := ih q
      have p := one_pow2 m
      rw [Int.pow_succ]
      omega
    · have e : n = m + 1 := by omega
      subst e
      exact Int.le_refl _
theorem pl_ok {ws : List Str} {ls : List (Str × Str × Int)} (h : limsOk ws ls) (hs : smallL ls) : ∀ t, t ∈ ls.map (plT ws) → (t.1 < ws.length + 1 ∧ t.2.1 < ws.length + 1) ∧ -(9 : Int) ≤ t.2.2 ∧ t.2.2 ≤ 9 := fun t ht => by
  refine ⟨pl_lt h t ht, ?_⟩
  obtain ⟨u, hu, rfl⟩ := List.mem_map.mp ht
  exact hs u hu
theorem big20 {n : Nat} (h : n ≤ 40) : 4 * (((0 : Int) + 9) * 2 ^ n) < FAR := by
  have h1 := pow2_le (show n ≤ 40 by omega)
  have h2 : (2 : Int) ^ 40 = 1099511627776 := by decide
  rw [h2] at h1
  have F := FAR_def
  omega
/-- what the rows of limits tell -/
theorem init_sol {ws : List Str} {ls : List (Str × Str × Int)} {rs : List (List Int)} (h : limsOk ws ls) (hs : smallL ls) (hn : ls.length ≤ 40) (e : initR ws ls = some rs) :
    (∃ B, Clo (ws.length + 1) B rs) ∧ ∀ p : Nat → Int, p 0 = 0 → (solR (ws.length + 1) rs p ↔ (∀ j, j < ws.length + 1 → 0 ≤ p j) ∧ keeps (ls.map (plT ws)) p) := by
  obtain ⟨⟨B, _, _, h1⟩, h2⟩ := pin_some (b := 9) (wide_clo ws.length) (Int.le_refl _) (pl_ok h hs) (by rw [List.length_map]; exact big20 hn) e
  refine ⟨⟨B, h1⟩, fun p p0 => ?_⟩
  rw [h2 p, wide_sol p0]
theorem init_none {ws : List Str} {ls : List (Str × Str × Int)} (h : limsOk ws ls) (hs : smallL ls) (hn : ls.length ≤ 40) (e : initR ws ls = none) (p : Nat → Int) (p0 : p 0 = 0) (hp : ∀ j, j < ws.length + 1 → 0 ≤ p j) : ¬ keeps (ls.map (plT ws)) p :=
  pin_no (b := 9) (wide_clo ws.length) (Int.le_refl _) (pl_ok h hs) (by rw [List.length_map]; exact big20 hn) e p ((wide_sol p0).mpr hp)
/-- limits that tell an upper bound of each word -/
def boundL (ws : List Str) (ls : List (Str × Str × Int)) : Prop := ∀ w, w ∈ ws → (w, ("now" : Str), (5 : Int)) ∈ ls
theorem nar_m {k : Nat} {rs q : List (List Int)} {B : Int} {a s : Nat} {m : Int} (h : Clo k B rs) (ha : a < k) (hs : s < k) (e : nar rs a s m = some q) : cellI q a s ≤ m := by
  have F := FAR_def
  unfold nar at e
  split at e
  · cases e
    assumption
  · split at e
    · cases e
    · cases e
      have d1 := h.dg a ha
      have d2 := h.dg s hs
      rw [nar_cell h.sq hs ha hs, if_neg (by omega), if_pos (by omega)]
      rcases mn_cases (cellI rs a s) (cellI rs a a + m + cellI rs s s) with ⟨g1, g2⟩ | ⟨g1, g2⟩
      · omega
      · omega
theorem pin_m {k : Nat} {b : Int} : ∀ {ts : List (Nat × Nat × Int)} {B : Int} {rs q : List (List Int)}, Clo k B rs → 0 ≤ B → (∀ t, t ∈ ts → (t.1 < k ∧ t.2.1 < k) ∧ -b ≤ t.2.2 ∧ t.2.2 ≤ b) → 4 * ((B + b) * 2 ^ ts.length) < FAR → pin (some rs) ts = some q → ∀ t, t ∈ ts → cellI q t.1 t.2.1 ≤ t.2.2
  | [], _, _, _, _, _, _, _, _ => fun t ht => nomatch ht
  | t :: ts, B, rs, q, h, hB, ht, hF, e => by
    obtain ⟨⟨ha, hs⟩, hm⟩ := ht t List.mem_cons_self
    have hb : 0 ≤ b := by omega
    have p1 : (1 : Int) ≤ 2 ^ ts.length := one_pow2 _
    have e2 : (2 : Int) ^ (t :: ts).length = 2 * 2 ^ ts.length := by rw [List.length_cons, Int.pow_succ, Int.mul_comm]
    rw [e2] at hF
    have hF1 : 4 * (B + b) < FAR := by
      have : (B + b) * 1 ≤ (B + b) * (2 * 2 ^ ts.length) := Int.mul_le_mul_of_nonneg_left (by omega) (by omega)
      omega
    have e3 : pin (My.nar rs t.1 t.2.1 t.2.2) ts = some q := e
    cases en : My.nar rs t.1 t.2.1 t.2.2 with
    | none =>
      rw [en, pin_none] at e3
      cases e3
    | some r =>
      rw [en] at e3
      obtain ⟨h1, h2⟩ := h.nar ha hs hB hm hF1 en
      have er : (2 * B + b + b) * 2 ^ ts.length = (B + b) * (2 * 2 ^ ts.length) := by
        rw [← Int.mul_assoc]
        congr 1
        omega
      have ht' := fun u hu => ht u (List.mem_cons_of_mem _ hu)
      intro u hu
      rcases List.mem_cons.mp hu with rfl | hu
      · have l1 := nar_m h ha hs en
        have l2 := pin_le (w0 := r) (o := some r) (fun v hv => (ht' v hv).1) (fun rs' e' => by cases e'; exact ⟨h1.sq, fun _ _ _ _ => Int.le_refl _⟩) q e3 _ _ ha hs
        omega
      · exact pin_m h1 (by omega) ht' (by rw [er]; exact hF) e3 u hu
/-- all is bounded -/
theorem init_fin {ws : List Str} {ls : List (Str × Str × Int)} {rs : List (List Int)} (ok : wok ws) (h : limsOk ws ls) (hs : smallL ls) (hn : ls.length ≤ 40) (hb : boundL ws ls) (e : initR ws ls = some rs) : ∀ i j, i < ws.length + 1 → j < ws.length + 1 → cellI rs i j < FAR := by
  have F := FAR_def
  obtain ⟨⟨B, hc⟩, _⟩ := init_sol h hs hn e
  have m := pin_m (b := 9) (wide_clo ws.length) (Int.le_refl _) (pl_ok h hs) (by rw [List.length_map]; exact big20 hn) e
  have up : ∀ i, i < ws.length + 1 → cellI rs i 0 ≤ 5 := by
    intro i hi
    cases i with
    | zero =>
      have := hc.dg 0 hi
      omega
    | succ i =>
      have hiw : i < ws.length := by omega
      have nd : (nws ws).Nodup := List.nodup_cons.mpr ⟨now_no ok, ok.nd⟩
      have q := m _ (List.mem_map.mpr ⟨_, hb ws[i] (List.getElem_mem hiw), rfl⟩)
      have e1 : (nws ws).idxOf ws[i] = i + 1 := nd.idxOf_getElem (i + 1) (by show i + 1 < ws.length + 1; omega)
      have e0 : (nws ws).idxOf ("now" : Str) = 0 := List.idxOf_cons_self
      have q : cellI rs ((nws ws).idxOf ws[i]) ((nws ws).idxOf ("now" : Str)) ≤ 5 := q
      rw [e1, e0] at q
      exact q
  intro i j hi hj
  have t := hc.tr i 0 j hi (by omega) hj (by have := up i hi; omega) (hc.fin0 hj)
  have u := up i hi
  have z := hc.z0 j hj
  omega
end My

/-! zones: repr of what they tell (plain) -/
namespace My
open PySem L2 DL
theorem init_clo {ws : List Str} {ls : List (Str × Str × Int)} {rs : List (List Int)} (h : limsOk ws ls) (hs : smallL ls) (hn : ls.length ≤ 20) (e : initR ws ls = some rs) : ∃ B, B ≤ 10000000 ∧ Clo (ws.length + 1) B rs := by
  obtain ⟨⟨B, b0, b1, h1⟩, h2⟩ := pin_some (b := 9) (wide_clo ws.length) (Int.le_refl _) (pl_ok h hs) (by rw [List.length_map]; exact big20 (by omega)) e
  refine ⟨B, ?_, h1⟩
  rw [List.length_map] at b1
  have p := pow2_le hn
  have q : (2 : Int) ^ 20 = 1048576 := by decide
  rw [q] at p
  omega
end My

/-! zones: one within another, by points (plain) -/
namespace My
open PySem L2 DL
/-- the point of numbers by place, as a list -/
def ptL (n : Nat) (p : Nat → Int) : List Int := (List.range n).map fun i => p (i + 1)
theorem ptL_pf {n : Nat} {p : Nat → Int} (h0 : p 0 = 0) {i : Nat} (hi : i < n + 1) : pf (ptL n p) i = p i := by
  cases i with
  | zero => rw [pf0, h0]
  | succ i =>
    unfold pf ptL
    rw [List.getD_eq_getElem?_getD]
    show (((List.range n).map fun i => p (i + 1))[i]?).getD 0 = _
    rw [List.getElem?_map, List.getElem?_range (by omega)]
    rfl
theorem keeps_congr {ws : List Str} {ls : List (Str × Str × Int)} (h : limsOk ws ls) {p q : Nat → Int} (e : ∀ i, i < ws.length + 1 → p i = q i) (g : keeps (ls.map (plT ws)) p) : keeps (ls.map (plT ws)) q := fun t ht => by
  obtain ⟨a, b⟩ := pl_lt h t ht
  rw [← e _ a, ← e _ b]
  exact g t ht
theorem pf_pos {p : List Int} (h : ∀ x, x ∈ p → 0 ≤ x) {j : Nat} (hj : j < p.length + 1) : 0 ≤ pf p j := by
  cases j with
  | zero => exact Int.le_refl _
  | succ j =>
    have hjl : j < p.length := by omega
    have e : pf p (j + 1) = p[j] := by
      unfold pf
      rw [List.getD_eq_getElem?_getD]
      show (p[j]?).getD 0 = _
      rw [List.getElem?_eq_getElem hjl]
      rfl
    rw [e]
    exact h _ (List.getElem_mem hjl)
/-- the points of bounded limits -/
theorem inside_mem {ws : List Str} {ls : List (Str × Str × Int)} {p : List Int} : p ∈ insideL ws ls 5 ↔ (p.length = ws.length ∧ ∀ x, x ∈ p → 0 ≤ x ∧ x ≤ 5) ∧ keeps (ls.map (plT ws)) (pf p) := by
  unfold insideL
  rw [List.mem_filter, ptsN_mem, keeps_b]
  exact Iff.rfl
theorem bound_up {ws : List Str} {ls : List (Str × Str × Int)} (ok : wok ws) (hb : boundL ws ls) {p : Nat → Int} (p0 : p 0 = 0) (g : keeps (ls.map (plT ws)) p) {j : Nat} (hj : j < ws.length) : p (j + 1) ≤ 5 := by
  have q := g _ (List.mem_map.mpr ⟨_, hb ws[j] (List.getElem_mem hj), rfl⟩)
  have nd : (nws ws).Nodup := List.nodup_cons.mpr ⟨now_no ok, ok.nd⟩
  have e1 : (nws ws).idxOf ws[j] = j + 1 := nd.idxOf_getElem (j + 1) (by show j + 1 < ws.length + 1; omega)
  have e0 : (nws ws).idxOf ("now" : Str) = 0 := List.idxOf_cons_self
  have q : p ((nws ws).idxOf ws[j]) - p ((nws ws).idxOf ("now" : Str)) ≤ 5 := q
  rw [e1, e0, p0] at q
  omega
theorem ptL_in {ws : List Str} {ls : List (Str × Str × Int)} (ok : wok ws) (h : limsOk ws ls) (hb : boundL ws ls) {p : Nat → Int} (p0 : p 0 = 0) (pos : ∀ j, j < ws.length + 1 → 0 ≤ p j) (g : keeps (ls.map (plT ws)) p) : ptL ws.length p ∈ insideL ws ls 5 := by
  refine inside_mem.mpr ⟨⟨by unfold ptL; rw [List.length_map, List.length_range], fun x hx => ?_⟩, keeps_congr h (fun i hi => (ptL_pf p0 hi).symm) g⟩
  unfold ptL at hx
  obtain ⟨j, hj, rfl⟩ := List.mem_map.mp hx
  have hj := List.mem_range.mp hj
  exact ⟨pos _ (by omega), bound_up ok hb p0 g hj⟩
end My

/-! x in xs inside a comprehension -/
namespace DL
open PySem PySem.Spec PyProof.Rows L2
end DL

/-! zones: greatest differences and least coordinates, by points (plain) -/
namespace My
open PySem L2 DL
theorem inside_none {ws : List Str} {l : List (Str × Str × Int)} (h : limsOk ws l) (s : smallL l) (n : l.length ≤ 40) (e : initR ws l = none) : insideL ws l 5 = [] := by
  cases g : insideL ws l 5 with
  | nil => rfl
  | cons q t =>
    exfalso
    have hq : q ∈ insideL ws l 5 := by rw [g]; exact List.mem_cons_self
    obtain ⟨⟨hl, hbd⟩, kp⟩ := inside_mem.mp hq
    exact init_none h s n e _ (pf0 q) (fun j hj => pf_pos (fun x hx => (hbd x hx).1) (by rw [hl]; exact hj)) kp
theorem inside_far {ws : List Str} {l : List (Str × Str × Int)} {rs : List (List Int)} (ok : wok ws) (h : limsOk ws l) (s : smallL l) (n : l.length ≤ 40) (hb : boundL ws l) (e : initR ws l = some rs) {i j : Nat} (hi : i < ws.length + 1) (hj : j < ws.length + 1) : ∃ q, q ∈ insideL ws l 5 ∧ pf q i - pf q j = cellI rs i j := by
  obtain ⟨⟨B, hc⟩, hso⟩ := init_sol h s n e
  have z0 : (fun l => cellI rs l j - cellI rs 0 j) 0 = (0 : Int) := by
    show cellI rs 0 j - cellI rs 0 j = 0
    omega
  obtain ⟨pos, kp⟩ := (hso _ z0).mp (hc.far hj fun l hl => init_fin ok h s n hb e l j hl hj)
  refine ⟨_, ptL_in ok h hb z0 pos kp, ?_⟩
  rw [ptL_pf z0 hi, ptL_pf z0 hj]
  have d := hc.dg j hj
  omega
theorem inside_some {ws : List Str} {l : List (Str × Str × Int)} {rs : List (List Int)} (ok : wok ws) (h : limsOk ws l) (s : smallL l) (n : l.length ≤ 40) (hb : boundL ws l) (e : initR ws l = some rs) : insideL ws l 5 ≠ [] := by
  obtain ⟨q, hq, _⟩ := inside_far ok h s n hb e (i := 0) (j := 0) (by omega) (by omega)
  intro g
  rw [g] at hq
  cases hq
end My

/-! max(xs), min(xs) of a list of ints -/
namespace DL
open PySem PySem.Spec PyProof.Rows L2
section
variable {K : PySem.W.Frag}
end
end DL

/-! zones: the greatest difference of two ages, by points (plain) -/
namespace My
open PySem L2 DL
end My

/-! == of data inside a comprehension -/
namespace DL
open PySem PySem.Spec PyProof.Rows L2
end DL

/-! zones: cells of what the deeds make (plain) -/
namespace My
open PySem L2 DL
/-! ### cells of what the deeds make -/
end My

/-! zones: points of what the deeds make (plain) -/
namespace My
open PySem L2 DL
section
variable {k : Nat} {B : Int} {rs : List (List Int)}
end
end My

/-! zones: the deeds of bounded zones, by points tried (plain) -/
namespace My
open PySem L2 DL
theorem pf_at {p : List Int} {i : Nat} (h : i < p.length) : pf p (i + 1) = p[i] := by
  unfold pf
  rw [List.getD_eq_getElem?_getD]
  show (p[i]?).getD 0 = _
  rw [List.getElem?_eq_getElem h]
  rfl
theorem solR_congr {k : Nat} {rs : List (List Int)} {p q : Nat → Int} (e : ∀ i, i < k → p i = q i) (g : solR k rs p) : solR k rs q := fun i j hi hj f => by
  rw [← e i hi, ← e j hj]
  exact g i j hi hj f
theorem ptL_len (n : Nat) (p : Nat → Int) : (ptL n p).length = n := by
  unfold ptL
  rw [List.length_map, List.length_range]
/-- the bounded limits that the laws draw -/
structure bL (ws : List Str) (l : List (Str × Str × Int)) : Prop where
  ok : wok ws
  h : limsOk ws l
  s : smallL l
  n : l.length ≤ 20
  hb : boundL ws l
  two : 2 ≤ ws.length
section
variable {ws : List Str} {l : List (Str × Str × Int)}
theorem bL.sm (b : bL ws l) {rs : List (List Int)} (e : initR ws l = some rs) : ∃ B, 0 ≤ B ∧ B ≤ 10000000 ∧ Clo (ws.length + 1) B rs ∧ (∀ i j, i < ws.length + 1 → j < ws.length + 1 → cellI rs i j < FAR) ∧ ∀ p : Nat → Int, p 0 = 0 → (solR (ws.length + 1) rs p ↔ (∀ j, j < ws.length + 1 → 0 ≤ p j) ∧ keeps (l.map (plT ws)) p) := by
  have n := b.n
  obtain ⟨B, h1, h2⟩ := init_clo b.h b.s b.n e
  obtain ⟨_, h3⟩ := init_sol b.h b.s (by omega) e
  have F := FAR_def
  refine ⟨B, ?_, h1, h2, init_fin b.ok b.h b.s (by omega) b.hb e, h3⟩
  have d := h2.dg 0 (by omega)
  have := (h2.bd 0 0 (by omega) (by omega) (by omega)).2
  omega
theorem bL.nn (b : bL ws l) (e : initR ws l = none) : insideL ws l 5 = [] := by
  have n := b.n
  exact inside_none b.h b.s (by omega) e
/-- a point that is tried and in the zone -/
theorem bL.mem (b : bL ws l) {rs : List (List Int)} (e : initR ws l = some rs) {q : List Int} : q ∈ insideL ws l 5 ↔ q.length = ws.length ∧ solR (ws.length + 1) rs (pf q) := by
  obtain ⟨B, _, _, hc, hf, hs⟩ := b.sm e
  constructor
  · intro g
    obtain ⟨⟨g1, g2⟩, g3⟩ := inside_mem.mp g
    exact ⟨g1, (hs _ (pf0 q)).mpr ⟨fun j hj => pf_pos (fun x hx => (g2 x hx).1) (by rw [g1]; exact hj), g3⟩⟩
  · rintro ⟨g1, g2⟩
    obtain ⟨g3, g4⟩ := (hs _ (pf0 q)).mp g2
    refine inside_mem.mpr ⟨⟨g1, fun x hx => ?_⟩, g4⟩
    obtain ⟨j, hj, rfl⟩ := List.mem_iff_getElem.mp hx
    rw [← pf_at hj]
    exact ⟨g3 _ (by omega), bound_up b.ok b.hb (pf0 q) g4 (by omega)⟩
theorem bL.pt (b : bL ws l) {rs : List (List Int)} (e : initR ws l = some rs) {p : Nat → Int} (p0 : p 0 = 0) (g : solR (ws.length + 1) rs p) : ptL ws.length p ∈ insideL ws l 5 :=
  (b.mem e).mpr ⟨ptL_len _ _, solR_congr (fun i hi => (ptL_pf p0 hi).symm) g⟩
theorem bL.len (b : bL ws l) {q : List Int} (h : q ∈ insideL ws l 5) : q.length = ws.length ∧ ∀ x, x ∈ q → 0 ≤ x ∧ x ≤ 5 := (inside_mem.mp h).1
theorem bL.pos (b : bL ws l) {q : List Int} (h : q ∈ insideL ws l 5) {i : Nat} (hi : i < ws.length + 1) : 0 ≤ pf q i ∧ pf q i ≤ 5 := by
  obtain ⟨a, c⟩ := b.len h
  cases i with
  | zero => exact ⟨by rw [pf0]; decide, by rw [pf0]; decide⟩
  | succ i =>
    rw [pf_at (by omega)]
    exact c _ (List.getElem_mem _)
/-! ### the deeds, by points -/
end
end My

/-! zones: equal rows of deeds; limits without bounds (plain) -/
namespace My
open PySem L2 DL
section
variable {k : Nat} {B : Int} {rs : List (List Int)}
end
/-! ### limits of two words without bounds -/
section
variable {ws : List Str} {l : List (Str × Str × Int)}
structure fL (ws : List Str) (l : List (Str × Str × Int)) : Prop where
  ok : wok ws
  h : limsOk ws l
  s : smallL l
  n : l.length ≤ 20
theorem bL.fr (b : bL ws l) : fL ws l := ⟨b.ok, b.h, b.s, b.n⟩
theorem fL.sm (b : fL ws l) {rs : List (List Int)} (e : initR ws l = some rs) : ∃ B, 0 ≤ B ∧ B ≤ 10000000 ∧ Clo (ws.length + 1) B rs ∧ ∀ p : Nat → Int, p 0 = 0 → (solR (ws.length + 1) rs p ↔ (∀ j, j < ws.length + 1 → 0 ≤ p j) ∧ keeps (l.map (plT ws)) p) := by
  have n := b.n
  obtain ⟨B, h1, h2⟩ := init_clo b.h b.s b.n e
  obtain ⟨_, h3⟩ := init_sol b.h b.s (by omega) e
  have F := FAR_def
  refine ⟨B, ?_, h1, h2, h3⟩
  have d := h2.dg 0 (by omega)
  have := (h2.bd 0 0 (by omega) (by omega) (by omega)).2
  omega
theorem insideN_mem {top : Nat} {p : List Int} : p ∈ insideL ws l top ↔ (p.length = ws.length ∧ ∀ x, x ∈ p → 0 ≤ x ∧ x ≤ top) ∧ keeps (l.map (plT ws)) (pf p) := by
  unfold insideL
  rw [List.mem_filter, ptsN_mem, keeps_b]
theorem fL.nn (b : fL ws l) {top : Nat} (e : initR ws l = none) : insideL ws l top = [] := by
  have n := b.n
  cases g : insideL ws l top with
  | nil => rfl
  | cons q t =>
    exfalso
    have hq : q ∈ insideL ws l top := by rw [g]; exact List.mem_cons_self
    obtain ⟨⟨hl, hbd⟩, kp⟩ := insideN_mem.mp hq
    exact init_none b.h b.s (by omega) e _ (pf0 q) (fun j hj => pf_pos (fun x hx => (hbd x hx).1) (by rw [hl]; exact hj)) kp
end
end My

/-! zones: the greatest difference among the limits told (plain) -/
namespace My
open PySem L2 DL
end My

/-! xs.extend([..]) of an own list -/
namespace DL
open PySem PySem.Spec PyProof.Rows L2
section
variable {X : Cx} {o e : Expr} {te : TE} {wf : WF} {pos cpos apos : Pos}
end
end DL

/-! a law's walk, kept apart from its reading -/
namespace DL
open PySem PySem.Spec PyProof.Rows L2
end DL

/-! zones: comprehensions over points that are dicts, or over limits (plain) -/
namespace My
open PySem L2 DL
end My

/-! == [] inside a comprehension -/
namespace DL
open PySem PySem.Spec PyProof.Rows L2
end DL

namespace My
open PySem L2 DL
theorem bL.empty {ws : List Str} {l : List (Str × Str × Int)} (b : bL ws l) : (initR ws l).isNone = (insideL ws l 5).isEmpty := by
  have n := b.n
  cases e : initR ws l with
  | none => rw [b.nn e]; rfl
  | some rs =>
    cases g : insideL ws l 5 with
    | nil => exact absurd g (inside_some b.ok b.h b.s (by omega) b.hb e)
    | cons _ _ => rfl
end My

/-! zones of two words without bounds: points that are alike (plain) -/
namespace My
open PySem L2 DL
end My

namespace DL
open PySem PySem.Spec PyProof.Rows L2
end DL
/-! zones: has of lists, least points without bounds (plain) -/
namespace My
open PySem L2 DL
section
variable {ws : List Str} {l : List (Str × Str × Int)}
end
end My

/-! zones led further: rows and all their points (plain) -/
namespace My
open PySem L2 DL
/-- rows and all their points: each cell is come to by a point -/
structure Tight (n : Nat) (M : Int) (rs : List (List Int)) (L : List (List Int)) : Prop where
  sq : sqI (n + 1) rs
  fin : ∀ i j, i < n + 1 → j < n + 1 → cellI rs i j < FAR
  mem : ∀ q : List Int, q ∈ L ↔ q.length = n ∧ solR (n + 1) rs (pf q)
  att : ∀ i j, i < n + 1 → j < n + 1 → ∃ q, q ∈ L ∧ pf q i - pf q j = cellI rs i j
  bnd : ∀ q, q ∈ L → ∀ x, x ∈ q → 0 ≤ x ∧ x ≤ M
theorem pf_bnd {p : List Int} {M : Int} (M0 : 0 ≤ M) (hx : ∀ x, x ∈ p → 0 ≤ x ∧ x ≤ M) {s : Nat} (hs : s < p.length + 1) : 0 ≤ pf p s ∧ pf p s ≤ M := by
  cases s with
  | zero => exact ⟨by rw [pf0]; decide, by rw [pf0]; exact M0⟩
  | succ j =>
    rw [pf_at (by omega)]
    exact hx _ (List.getElem_mem _)
section
variable {n : Nat} {M : Int} {rs : List (List Int)} {L : List (List Int)}
theorem Tight.some_ (h : Tight n M rs L) : ∃ q, q ∈ L := by
  obtain ⟨q, hq, _⟩ := h.att 0 0 (by omega) (by omega)
  exact ⟨q, hq⟩
theorem Tight.pos (h : Tight n M rs L) (M0 : 0 ≤ M) {q : List Int} (hq : q ∈ L) {i : Nat} (hi : i < n + 1) : 0 ≤ pf q i ∧ pf q i ≤ M :=
  pf_bnd M0 (h.bnd q hq) (by rw [((h.mem q).mp hq).1]; exact hi)
end
/-- what rows and points have in common, rows or none -/
def okZ (n : Nat) (M : Int) (o : Option (List (List Int))) (L : List (List Int)) : Prop := (o = none ∧ L = []) ∨ ∃ rs, o = some rs ∧ Tight n M rs L
theorem okZ.map {n : Nat} {M M' : Int} {o : Option (List (List Int))} {L : List (List Int)} {f : List (List Int) → List (List Int)} {g : List (List Int) → List (List Int)} (h : okZ n M o L) (g0 : g [] = []) (hf : ∀ rs, Tight n M rs L → Tight n M' (f rs) (g L)) : okZ n M' (o.map f) (g L) := by
  rcases h with ⟨rfl, rfl⟩ | ⟨rs, rfl, h⟩
  · exact .inl ⟨rfl, g0⟩
  · exact .inr ⟨_, rfl, hf rs h⟩
theorem okZ.empty {n : Nat} {M : Int} {o : Option (List (List Int))} {L : List (List Int)} (h : okZ n M o L) : o.isNone = L.isEmpty := by
  rcases h with ⟨rfl, rfl⟩ | ⟨rs, rfl, h⟩
  · rfl
  · obtain ⟨q, hq⟩ := h.some_
    cases L with
    | nil => cases hq
    | cons _ _ => rfl
section
variable {ws : List Str} {l : List (Str × Str × Int)}
end
end My

/-! zones: what is told of points, in order (plain) -/
namespace My
open PySem L2 DL
theorem okZ.zok {ws : List Str} {M : Int} {o : Option (List (List Int))} {L : List (List Int)} (ok : wok ws) (h : okZ ws.length M o L) : zok ws o := by
  refine ⟨ok, fun rs e => ?_⟩
  rcases h with ⟨rfl, rfl⟩ | ⟨r, rfl, h⟩
  · cases e
  · cases e
    exact h.sq
theorem okZ.len {n : Nat} {M : Int} {o : Option (List (List Int))} {L : List (List Int)} (h : okZ n M o L) {q : List Int} (hq : q ∈ L) : q.length = n := by
  rcases h with ⟨rfl, rfl⟩ | ⟨r, rfl, h⟩
  · cases hq
  · exact ((h.mem q).mp hq).1
theorem okZ.bnd {n : Nat} {M : Int} {o : Option (List (List Int))} {L : List (List Int)} (h : okZ n M o L) {q : List Int} (hq : q ∈ L) : ∀ x, x ∈ q → 0 ≤ x ∧ x ≤ M := by
  rcases h with ⟨rfl, rfl⟩ | ⟨r, rfl, h⟩
  · cases hq
  · exact h.bnd q hq
end My

/-! zones: a point as a dict with a number put anew (plain) -/
namespace My
open PySem L2 DL
/-! specs -/
end My

/-! dict(..), list + list inside a comprehension -/
namespace DL
open PySem PySem.Spec PyProof.Rows L2
end DL

/-! an own list lent to an expression whose value, by its shape, cannot hold it -/
namespace DL
open PySem PySem.Spec PyProof.Rows L2
section
variable {K : PySem.W.Frag} {N N' : Av} {H : Hp}
end
section
variable {X : Cx} {pins : List (Addr × Obj)} {σ : L2.St} {H : Hp} {s : Shared}
end
section
variable {K : PySem.W.Frag} {z : Av} {As : List (List Addr)} {W : WS} {H H' : Hp}
end
end DL

/-! str of a tuple; xs.clear() of an own list; an own list returned as a box by a def that changes its world -/
namespace DLG
open PySem L2
section
variable {X : Cx} {pins : List (Addr × Obj)} {σ : L2.St} {H : Hp} {s : Shared}
end
end DLG
namespace DL
open PySem L2
section
variable {K : PySem.W.Frag}
end
/-! clear -/
section
variable {X : Cx} {o : Expr} {pos cpos apos : Pos}
end
/-! an own list is returned as a box -/
/-! the caller makes it its own -/
section
variable {K : PySem.W.Frag} {z : Av} {As As' : List (List Addr)} {W W' : WS} {H H' : Hp} {p : Addr}
end
end DL

/-! zones made of lists that are changed afterwards (plain) -/
namespace My
open PySem L2 DL
/-! what a zone holds is no list of tuples, of texts -/
/-! texts in their order -/
def strLe (s t : Str) : Bool := PySem.W.dataLe false Prod.snd ((Dv.str s, PyData.str s) : Dv × PyData) (.str t, .str t)
/-! the text of a limit -/
theorem ok_word : ∀ a, a ∈ nws six → PyData.strOk (reprText a) = true := by decide +kernel
end My

/-! a test that reads an own list -/
namespace DL
open PySem PySem.Spec PyProof.Rows L2
section
variable {K : PySem.W.Frag}
end
end DL

/-! a zone made anew of the limits that it tells -/
namespace My
open PySem L2 DL
section
variable {ws : List Str} {l : List (Str × Str × Int)}
end
end My

/-! things with identity: o.f += e, lists of things (append, len, stars), tuples that hold things, is None -/
namespace DL
open PySem L2
section
variable {K : PySem.W.Frag}
end
/-! ### o.append(e), o a list of the world -/
abbrev wAppV (wo we : WE) : WSt := fun Dd σd W => wo σd W fun x W1 => match x with
  | .box j => (match W1[j]? with
    | some (.lst _) => we σd W1 fun y W2 => (match W2[j]? with
      | some (.lst xs) => xs.length < 1000000 ∧ Dd.nx σd (W2.set j (.lst (xs ++ [y])))
      | _ => False)
    | _ => False)
  | _ => False
section
variable {K : PySem.W.Frag}
theorem tso_appV {to te : TE} {wo we : WE} (ho : TEok K to wo) (h : TEok K te we) : TSok K (tDrop (tBM K "list" rAppend to (tCons te tNil))) (wAppV wo we) := by
  intro z O As σd W σ H Dd D r g q
  refine ho _ _ r g fun v H1 x As1 W1 e wl hv p => ?_
  split at p
  · split at p
    · rename_i j _ xs0 ew
      obtain ⟨a, vs, rfl, ha, h1, h2⟩ := wl.lstB hv ew
      refine ⟨.inl ⟨rfl, vs, SqL.of h1⟩, ?_⟩
      refine h _ _ (r.ext e wl) p fun y H2 yd As2 W2 e2 wl2 hy p2 => ?_
      split at p2
      · rename_i xs ew2
        obtain ⟨hlen, p2⟩ := p2
        obtain ⟨a', vs', ea, ha', h1', h2'⟩ := wl2.lstB (hv.ext e2) ew2
        have ea2 : a = a' := by cases ea; rfl
        subst ea2
        obtain ⟨w3, e3⟩ := turn_lst wl2 ha' (h2'.append (.cons hy .nil))
        refine ⟨a, vs', y, rfl, rfl, h1', ?_, q.nx σd _ O As2 σ _ ((e.own.trans e2.own).trans e3.own) (((r.ext e wl).ext e2 wl2).ext e3 w3) p2⟩
        rw [h2'.length]
        exact Nat.lt_of_lt_of_le hlen (by decide)
      · exact p2.elim
    · exact p.elim
  · exact p.elim
end
/-! ### len of a list of the world -/
/-! ### *e, e a list of the world; displays that hold things -/
section
variable {K : PySem.W.Frag} {z : Av} {O : Nat → Option Addr} {As : List (List Addr)} {σd : DS} {W : WS} {σ : St} {H : Hp}
end
/-! ### x, y = a tuple that holds things -/
/-! ### e is None, e perhaps a thing -/
section
variable {K : PySem.W.Frag}
end
end DL

/-! dicts of the world -/
namespace DL
open PySem L2
section
variable {K : PySem.W.Frag} {z : Av} {As : List (List Addr)} {H : Hp}
theorem HasVL.zw {v : V} {d : Sv} {k : Key} (hv : HasV K z As H v d) : ∀ {ks : List Key} {vs : List V} {ds : List Sv}, HasVL K z As H vs ds → HasVL K z As H (List.zipWith (fun k' x => if k' = k then v else x) ks vs) (List.zipWith (fun k' x => if k' = k then d else x) ks ds)
  | [], _, _, _ => .nil
  | _ :: _, _, _, .nil => .nil
  | x :: r, _, _, .cons a t => by
    rw [List.zipWith_cons_cons, List.zipWith_cons_cons]
    refine .cons ?_ (HasVL.zw hv t)
    by_cases e : x = k
    · rw [if_pos e, if_pos e]
      exact hv
    · rw [if_neg e, if_neg e]
      exact a
theorem HasVL.put {ks : List Key} {vs : List V} {ds : List Sv} {k : Key} {v : V} {d : Sv} (h : HasVL K z As H vs ds) (hv : HasV K z As H v d) : HasVL K z As H (putDs ks vs k v) (putDs ks ds k d) := by
  unfold putDs
  by_cases m : hasK ks k = true
  · rw [if_pos m, if_pos m]
    exact h.zw hv
  · rw [if_neg m, if_neg m]
    exact h.append (.cons hv .nil)
theorem Wld.dicW {W : WS} {v : V} {j : Nat} {ks : List Key} {ds : List Sv} (w : Wld K z As W H) (h : HasV K z As H v (.box j)) (e : W[j]? = some (.dic ks ds)) :
    ∃ a vs, v = .ref a ∧ As[j]? = some [a] ∧ H a = some (.dK (ks.zip vs)) ∧ HasVL K z As H vs ds ∧ ks.length = ds.length := by
  cases h with
  | box h =>
    obtain ⟨a, vs, e1, h1, h2, h3⟩ := w.rep j _ _ h e
    cases e1
    exact ⟨_, vs, rfl, h, h1, h2, h3⟩
end
/-! {} -/
/-! d[k], k in d, d.get(k, x) -/
section
variable {K : PySem.W.Frag} {td ty : TE} {wo : WE} {wy : WB}
end
/-! d[k] = e -/
end DL

/-! walks over things of the world: their list, dict stands while it is walked -/
namespace DL
open PySem L2
abbrev WIG := DS → WS → (List Sv → (WS → Prop) → WS → Prop) → Prop
section
variable {K : PySem.W.Frag} {z : Av} {O : Nat → Option Addr} {As : List (List Addr)} {σd : DS} {W : WS} {σ : St} {H H2 : Hp} {x : V} {s : Sv}
end
/-! ### loops -/
section
variable {K : PySem.W.Frag} {z : Av} {As0 : List (List Addr)} {ow0 : Av} {H0 : Hp} {g : TG} {tgt : Tgt} {is : List Nat} {tb : TS} {wb : WSt}
end
/-! ### comprehensions -/
section
variable {K : PySem.W.Frag} {g : TG} {tgt : Tgt} {is : List Nat} {tt : TT} {wt : WT} {te : TE} {we : WE} {vs : List Nat}
end
/-! ### a list of the world is walked -/
end DL

/-! a dict of the world is locked while it is walked; new dicts as things -/
namespace DL
open PySem L2
section
variable {K : PySem.W.Frag} {z : Av} {As As' : List (List Addr)} {W W' : WS} {H H' : Hp} {p : Addr}
theorem Wld.toBoxO {o : WObj} (w : Wld K (z1 z p) As W H) (nz : ¬ z p) (hl : H p ≠ none) (rp : WRep K z (As ++ [[p]]) H [p] o) : Wld K z (As ++ [[p]]) (W ++ [o]) H := by
  have out : ¬ fpOf As p := w.zok.out p (.inr rfl)
  refine ⟨by rw [List.length_append, List.length_append, w.len] <;> rfl, fun j l o' h1 h2 => ?_, fun a q => ?_, fun i j l1 l2 a h1 h2 q1 q2 => ?_, ⟨fun a q => w.zok.trk a (.inl q), fun a q f => ?_⟩⟩
  · by_cases hj : j < As.length
    · rw [List.getElem?_append_left hj] at h1
      rw [List.getElem?_append_left (by rw [← w.len]; exact hj)] at h2
      exact (w.rep j l o' h1 h2).toBox
    · have hj' : j = As.length := by
        have q := (List.getElem?_eq_some_iff.mp h1).1
        rw [List.length_append, List.length_singleton] at q
        omega
      subst hj'
      rw [List.getElem?_concat_length] at h1
      rw [w.len, List.getElem?_concat_length] at h2
      cases h1
      cases h2
      exact rp
  · rcases fp_app.mp q with q | q
    · exact w.trk a q
    · rw [List.mem_singleton.mp q]
      exact hl
  · have side : ∀ {i : Nat} {l1 : List Addr}, (As ++ [[p]])[i]? = some l1 → As[i]? = some l1 ∨ (i = As.length ∧ l1 = [p]) := by
      intro i l1 h
      by_cases hi : i < As.length
      · rw [List.getElem?_append_left hi] at h
        exact .inl h
      · have q := (List.getElem?_eq_some_iff.mp h).1
        rw [List.length_append, List.length_singleton] at q
        have hi' : i = As.length := by omega
        subst hi'
        rw [List.getElem?_concat_length] at h
        cases h
        exact .inr ⟨rfl, rfl⟩
    rcases side h1 with g1 | ⟨e1, e1'⟩ <;> rcases side h2 with g2 | ⟨e2, e2'⟩
    · exact w.dis i j l1 l2 a g1 g2 q1 q2
    · subst e2'
      rw [List.mem_singleton.mp q2] at q1
      exact absurd ⟨l1, List.mem_of_getElem? g1, q1⟩ out
    · subst e1'
      rw [List.mem_singleton.mp q1] at q2
      exact absurd ⟨l2, List.mem_of_getElem? g2, q2⟩ out
    · rw [e1, e2]
  · rcases fp_app.mp f with f | f
    · exact w.zok.out a (.inl q) f
    · rw [List.mem_singleton.mp f] at q
      exact nz q
end
/-! ### locks -/
section
variable {K : PySem.W.Frag} {z : Av} {O : Nat → Option Addr} {As : List (List Addr)} {σd : DS} {W : WS} {σ : St} {H : Hp}
end
section
variable {K : PySem.W.Frag}
end
/-! ### what is walked -/
section
variable {K : PySem.W.Frag} {te : TE} {we : WE}
end
end DL

/-! == of things without an __eq__ of their own: the same thing or not -/
namespace DLG
open PySem PySem.Spec PyProof.Rows PySem.SeqAt L2
section
variable {M : Model} {prog : Program} {w : World} {A : Around} {E : Value → Shared → Prop} {s : Shared} {K : PySem.W.Frag} {x y C : Addr} {ox oy : Obj} {od od' : Option Obj}
end
end DLG
namespace DL
open PySem L2
end DL

/-! rules: things with identity, dicts of the world -/
namespace DL
open PySem L2
section
variable {X : Cx} {K : PySem.W.Frag} {o e i value : Expr} {es : List Expr} {f x y : Str} {pos pos' tpos cpos apos p : Pos} {to te td ty tx : TE} {wo we wx : WE} {wb wy : WB} {t : TA} {wa : WA} {C : Addr} {ks : List Str}
theorem s_appV (ho : PD X o to wo) (h : PD X e te we) (h1 : attributeBase o "append" X.env (eval o X.env) = eval o X.env := by rfl) (h2 : Few cpos [e] X.env := by rfl) (h3 : (apos.endLine == cpos.line) = true := by rfl) (h4 : starEach [e] X.env = (false, eval e X.env) :: starEach [] X.env := by rfl)
    (h5 : swapsWith (.Call (.Attribute o "append" apos) [e] [] cpos) none pos.line X.env = pure false := by rfl) : PDS X (.Expr (.Call (.Attribute o "append" apos) [e] [] cpos) pos) (tDrop (tBM X.K "list" rAppend to (tCons te tNil))) (wAppV wo we) :=
  ⟨ps_expr (l_app ho.pe h.pe h1 h2 h3 h4) h5, tso_appV ho.ok h.ok⟩
/-! is None -/
/-! the same thing -/
/-! dicts -/
end
/-! walks -/
section
variable {X : Cx} {K : PySem.W.Frag} {tg iter e : Expr} {te : TE} {we : WE} {apos cpos : Pos}
variable {body : List Stmt} {g : TG} {tgt : Tgt} {is : List Nat} {tb : TS} {wb : WSt} {pos : Pos} {wi : TI} {w : WIG}
variable {tt : TT} {wt : WT} {elt : Expr} {ifs : List Expr} {scope : Scope} {own : List (Str × Nat)}
end
/-! xs.extend(a list of the world) of an own list -/
section
variable {X : Cx} {o e : Expr} {te : TE} {we : WE} {pos cpos apos : Pos}
variable {tg iter : Expr} {wi : TI} {w : WIG} {g : TG} {tgt : Tgt} {is : List Nat} {tt : TT} {wt : WT} {elt : Expr} {ifs : List Expr} {scope : Scope} {own : List (Str × Nat)} {y : Str} {py spos : Pos}
end
/-! ### a dict comprehension over a thing of the world -/
section
variable {K : PySem.W.Frag} {tgt : Tgt} {wt : WT} {wk wv : WE} {vs : List Nat}
end
section
variable {X : Cx} {tt : TT} {wt : WT}
variable {kx vx tg iter : Expr} {ifs : List Expr} {scope : Scope} {own : List (Str × Nat)} {pos spos py : Pos} {wi : TI} {w : WIG} {g : TG} {tgt : Tgt} {is : List Nat} {tk tv : TE} {wk wv : WE} {y : Str}
end
end DL

/-! any; new things without arguments; plain stores -/
namespace DL
open PySem L2
section
variable {X : Cx} {x : Str} {p pos : Pos} {wf : WFn} {C fa : Addr} {fd : FuncData} {ps : List Str} {k : Nat} {ds : List Value} {dvs : List V} {dd : List Dv}
end
end DL
namespace My
open PySem L2 DL
/-! ### keepers, loads, events -/
inductive Lt where
  | al | nv | at_ (i : Int)
  deriving DecidableEq
def Lt.d : Lt → Dv
  | .al => .str "always"
  | .nv => .str "never"
  | .at_ i => .int i
def optI : Option Int → Dv
  | some i => .int i
  | none => .non
structure Ru where
  b : Int
  f : Int
  s : Option Int
  c : Str
  m : Str
  cl : Bool
  mo : Str
  cu : Str
  n : Bool
  ma : Lt
  h : Lt
def Ru.kp (r : Ru) : Kp := ⟨.int r.b, .int r.f, optI r.s, .str r.c, .str r.m, .bl r.cl, .str r.mo, .str r.cu, .bl r.n, r.ma.d, r.h.d⟩
structure Ld where
  hold : Option Int
  late : Int
  lasts : Int
def ldD (C : Addr) (l : Ld) : Dv := .ins C ["hold", "late", "lasts"] [optI l.hold, .int l.late, .int l.lasts]
structure Ev where
  word : Str
  nums : List Int
  held : Bool
/-! ### stores -/
structure Wr where
  num : Int
  st : Str
  sa : Option Int
structure Rd where
  own : Int
  held : Int
  opened : Int
  there : Bool
structure Rw where
  w : Nat
  spot : Int
  st : Str
structure Pg where
  marked : Bool
  elder : Bool
  dr : Option Nat
structure Wk where
  limit : Int
  begun : Int
  vis : List Int
  whole : Bool
structure Stt where
  ru : Ru
  ld : Ld
  old : Int
  now : Int
  mark : Int
  log : Int
  idle : Int
  ws : List Wr
  rs : List My.Rd
  rows : List Rw
  spots : List Int
  pgs : List Pg
  walk : Option Wk
  count : Int
/-- a new store -/
def Stt.new (r : Ru) (l : Ld) (half : Int) : Stt := ⟨r, l, half, 0, 0, 0, 0, [], [], [], [], [], none, 0⟩
def mn (a b : Int) : Int := if b < a then b else a
def mx (a b : Int) : Int := if a < b then b else a
def minI (a : Int) (l : List Int) : Int := l.foldl min a
def runB (w : Wr) : Bool := decide (w.st = "running")
def byW (c : Str) : Bool := decide (c ∈ (["all", "both"] : List Str))
def byO (c : Str) : Bool := decide (c ∈ (["both", "readers"] : List Str))
def Stt.holdW (s : Stt) : List Int := (s.ws.filter runB).map (·.num)
def Stt.holdR (s : Stt) : List Int := (s.rs.filter (·.there)).map (·.held)
def Stt.holdO (s : Stt) : List Int := (s.rs.filter (·.there)).map (·.own)
def Stt.hold (s : Stt) : List Int := (if byW s.ru.c = true then s.holdW else []) ++ ((if s.ru.c = "all" then s.holdR else []) ++ (if byO s.ru.c = true then s.holdO else []))
def Stt.least (s : Stt) : Int := minI s.now s.hold
def Stt.age (s : Stt) : Int := s.now - s.mark
def Stt.due (s : Stt) : Int := max (s.mark + s.ru.b) s.idle
def Stt.stopped (s : Stt) : Bool := match s.ru.s with
  | some t => decide (t ≤ s.age)
  | none => false
def Stt.isRun (s : Stt) (n : Int) : Bool := match s.ws[n.toNat]? with
  | some w => runB w
  | none => false
def leO (a : Int) : Option Int → Bool
  | some b => decide (a ≤ b)
  | none => true
def Stt.canTake (s : Stt) (many : Int) (runs : Bool) : Bool :=
  let held := s.hold ++ (if runs = true ∧ byW s.ru.c = true then [s.now] else [])
  let old := match held with
    | [] => 0
    | a :: l => s.now + many - minI a l
  decide (s.now + many - s.mark ≤ s.old) && (leO (s.now + many - s.mark) s.ru.s && (leO old s.ld.hold && (match s.walk with
    | none => decide (s.now + many - s.due ≤ s.ld.late)
    | some k => decide (s.now + many - k.begun ≤ s.ld.lasts))))
def Stt.canBegin (s : Stt) : Bool := s.walk.isNone && (decide (s.due ≤ s.now) && !(s.ru.n && s.stopped))
def Stt.pgAt (s : Stt) (p : Int) : Option Nat := s.spots.findIdx? fun q => decide (q = p)
def Stt.canDrop (s : Stt) (p : Int) : Bool := match s.pgAt p with
  | none => true
  | some i => (match s.pgs[i]? with
    | some g => g.elder && g.dr.isNone
    | none => false)
def Stt.isOpen (s : Stt) (n : Int) : Bool := match s.rs[n.toNat]? with
  | some r => r.there
  | none => false
def Stt.can (s : Stt) (e : Ev) : Bool :=
  let a := e.nums.getD 0 0
  let b := e.nums.getD 1 0
  if e.word = "take" then s.canTake a false else
  if e.word = "write" then s.canTake 1 true else
  if e.word ∈ (["put", "end", "break"] : List Str) then s.isRun a else
  if e.word = "drop" then s.isRun a && s.canDrop b else
  if e.word = "close" then s.isOpen a else
  if e.word = "begin" then s.canBegin else
  if e.word = "visit" then (match s.walk with
    | none => false
    | some k => !decide (a ∈ k.vis)) else
  decide (e.word = "open") || s.walk.isSome
/-- the page of a number, made if it is not there -/
def Stt.page (s : Stt) (p : Int) : Stt × Nat := match s.pgAt p with
  | some i => (s, i)
  | none => ({ s with spots := s.spots ++ [p], pgs := s.pgs ++ [⟨false, true, none⟩] }, s.pgs.length)
def Stt.setPg (s : Stt) (i : Nat) (f : Pg → Pg) : Stt := { s with pgs := s.pgs.modify i f }
def Stt.setWr (s : Stt) (i : Nat) (f : Wr → Wr) : Stt := { s with ws := s.ws.modify i f }
def Stt.changed (s : Stt) (p : Int) : Stt × Nat :=
  let q := s.page p
  (q.1.setPg q.2 fun g => { g with marked := g.marked && !s.ru.cl }, q.2)
def Stt.write (s : Stt) : Stt := { s with ws := s.ws ++ [⟨s.now, "running", none⟩], now := s.now + 1 }
def Stt.stopWr (s : Stt) (n : Nat) (st : Str) : Stt :=
  { s.setWr n (fun w => { w with st := st, sa := some s.count }) with
    pgs := s.pgs.map fun g => if st = "broken" ∧ g.dr = some n then { g with dr := none } else g }
def Stt.letIn (s : Stt) : Stt := { s with rs := s.rs ++ [⟨s.now, (match s.holdW with
  | [] => s.now
  | a :: l => minI a l), s.count, true⟩] }
def Stt.wronged (s : Stt) (w : Wr) : Bool := if s.old < s.now - w.num then false else s.rs.any fun r => r.there && (match w.sa with
  | some a => decide (r.opened < a)
  | none => false)
/-- what a pass does with a row -/
def Stt.treatRow (s : Stt) (lim : Int) (r : Rw) : Rw × List Str := match s.ws[r.w]? with
  | none => (r, [])
  | some w => if w.st = "ended" ∧ w.num + s.ru.f ≤ lim then ({ r with st := "frozen" }, if s.wronged w = true then ["sight"] else []) else
    if w.st = "broken" ∧ w.num < lim then ({ r with st := "gone" }, []) else (r, [])
def Stt.treatElder (s : Stt) (lim : Int) (g : Pg) : Pg × List Str := match g.dr with
  | none => (g, [])
  | some d => (match s.ws[d]? with
    | none => (g, [])
    | some w => if g.elder = false ∨ w.st ≠ "ended" ∨ lim ≤ w.num then (g, []) else ({ g with elder := false }, if s.wronged w = true then ["loss"] else []))
def Stt.doneB (s : Stt) (lim : Int) (r : Rw) : Bool := match s.ws[r.w]? with
  | some w => decide (w.st = "ended") && decide (w.num < lim)
  | none => false
def onB (p : Int) (r : Rw) : Bool := decide (r.spot = p) && decide (r.st = "kept")
def Stt.newMark (s : Stt) (lim : Int) (g : Pg) (p : Int) : Bool :=
  let left := s.rows.filter (onB p)
  decide (s.ru.m ≠ "never") && ((left.isEmpty || (decide (s.ru.m = "seen") && left.all (s.doneB lim))) && (!g.elder || g.dr.isNone))
def letsB : Lt → Int → Bool
  | .al, _ => true
  | .nv, _ => false
  | .at_ i, a => decide (a < i)
/-- the rows of a page are treated, one behind the other -/
def Stt.treatRows (s : Stt) (lim p : Int) : List Rw × List Str :=
  (s.rows.map fun r => if onB p r = true then (s.treatRow lim r).1 else r, (s.rows.filter (onB p)).flatMap fun r => (s.treatRow lim r).2)
def Stt.visit (s : Stt) (p : Int) (held : Bool) : Stt × List Str :=
  let q := s.page p
  match q.1.walk, q.1.pgs[q.2]? with
  | some k, some g =>
    let s1 : Stt := { q.1 with walk := some { k with vis := k.vis ++ [p] } }
    if g.marked = true ∧ letsB s.ru.ma s.age = true then (s1, []) else
    if held = true ∧ letsB s.ru.h s.age = true then ({ s1 with walk := some { k with vis := k.vis ++ [p], whole := false } }, []) else
    let t := s1.treatRows k.limit p
    let s2 : Stt := { s1 with rows := t.1 }
    let e := s2.treatElder k.limit g
    let s3 := s2.setPg q.2 fun _ => e.1
    (s3.setPg q.2 fun g => { g with marked := s3.newMark k.limit e.1 p }, t.2 ++ e.2)
  | _, _ => (q.1, [])
def Stt.visitAll (s : Stt) : List Int → Stt × List Str
  | [] => (s, [])
  | p :: ps => match s.walk with
    | none => (s, [])
    | some k => if p ∈ k.vis then s.visitAll ps else
      let q := s.visit p false
      let r := q.1.visitAll ps
      (r.1, q.2 ++ r.2)
def intLe (a b : Int) : Bool := PySem.W.dataLe false Prod.snd ((Dv.int a, PyData.int a) : Dv × PyData) (.int b, .int b)
def sortI (l : List Int) : List Int := l.mergeSort intLe
def Stt.finish (s : Stt) : Stt × List Str :=
  let q := s.visitAll (sortI s.spots)
  match q.1.walk with
  | none => q
  | some k =>
    let mark := if k.whole = true ∨ s.ru.mo = "always" then max q.1.mark (k.limit - s.ru.f) else q.1.mark
    ({ q.1 with mark := mark, log := (if s.ru.cu = "mark" then mark else if s.ru.cu = "horizon" then k.limit else q.1.log), walk := none, idle := q.1.now }, q.2)
def Stt.led (s : Stt) (e : Ev) : Stt × List Str :=
  let a := e.nums.getD 0 0
  let b := e.nums.getD 1 0
  if e.word = "take" then ({ s with now := s.now + a }, []) else
  if e.word = "write" then (s.write, []) else
  if e.word = "put" then (let q := s.changed b; ({ q.1 with rows := q.1.rows ++ [⟨a.toNat, b, "kept"⟩] }, [])) else
  if e.word = "drop" then (let q := s.changed b; (q.1.setPg q.2 fun g => { g with dr := some a.toNat }, [])) else
  if e.word ∈ (["end", "break"] : List Str) then (s.stopWr a.toNat (if e.word = "end" then "ended" else "broken"), []) else
  if e.word = "open" then (s.letIn, []) else
  if e.word = "close" then ({ s with rs := s.rs.modify a.toNat fun r => { r with there := false } }, []) else
  if e.word = "begin" then ({ s with walk := some ⟨s.least, s.now, [], true⟩ }, []) else
  if e.word = "visit" then s.visit a e.held else s.finish
/-! harms -/
def Stt.makers (s : Stt) : List Wr := (s.rows.filter fun (r : Rw) => decide (r.st = "kept")).filterMap fun (r : Rw) => s.ws[r.w]?
def Stt.droppers (s : Stt) : List Wr := (s.pgs.filter fun (g : Pg) => g.elder && g.dr.isSome).filterMap fun (g : Pg) => g.dr.bind fun d => s.ws[d]?
def Stt.halfOld (s : Stt) (l : List Wr) : Bool := l.any fun w => decide (w.st = "ended") && decide (s.old ≤ s.now - w.num)
def Stt.stuck (s : Stt) : Bool := if s.stopped = false then false else
  match s.ru.s with
  | none => false
  | some t => (match s.walk with
    | none => if s.now < s.due then true else if s.ru.n = false ∧ s.ru.f < t then false else true
    | some k => if s.ru.n = false ∧ s.ru.f < t then false else if k.whole = false ∧ s.ru.mo = "whole" then true else decide (t ≤ s.now - k.limit + s.ru.f))
def Stt.harmL (s : Stt) : List Str :=
  let both := s.makers ++ s.droppers
  (if s.halfOld s.makers = true then (["vanish"] : List Str) else []) ++ ((if s.halfOld s.droppers = true then (["return"] : List Str) else []) ++
  ((if (both.any fun w => decide (w.num < s.mark)) = true then (["lie"] : List Str) else []) ++ ((if (both.any fun w => decide (w.st ≠ "running") && decide (w.num < s.log)) = true then (["cut"] : List Str) else []) ++
  ((if s.stopped = true then (["stop"] : List Str) else []) ++ ((if s.old ≤ s.age then (["spent"] : List Str) else []) ++ (if s.stuck = true then (["stuck"] : List Str) else []))))))
def dedup : List Str → List Str
  | [] => []
  | x :: l => x :: (dedup l).filter fun y => !decide (y = x)
/-- an event happens: the store behind it, the harms in the order of the dict -/
def Stt.does (s : Stt) (e : Ev) : Stt × List Str :=
  let q := s.led e
  let s1 : Stt := { q.1 with count := q.1.count + 1 }
  (s1, dedup q.2 ++ s1.harmL)
end My

/-! how a store stands in the world -/
namespace My
open PySem L2 DL
structure Cs where
  course : Addr
  writer : Addr
  reader : Addr
  row : Addr
  page : Addr
  walk : Addr
  event : Addr
  played : Addr
  keeper : Addr
  load : Addr
inductive Lab where
  | crs | wl | rl | rowl | pgd | wk | vis
  | wr (i : Nat) | rd (i : Nat) | row (i : Nat) | pg (i : Nat)
  deriving DecidableEq
abbrev CF : List Str := ["rules", "promise", "old", "now", "mark", "log", "idle_since", "writers", "readers", "rows", "pages", "walk", "count"]
abbrev WF_ : List Str := ["number", "state", "stopped_at"]
abbrev RF_ : List Str := ["own", "held", "opened_at", "is_there"]
abbrev WoF : List Str := ["writer", "spot", "state"]
abbrev PF_ : List Str := ["is_marked", "has_elder", "dropper"]
abbrev WkF : List Str := ["limit", "begun", "visited", "is_whole"]
def boxes (l : Lab → Nat) (f : Nat → Lab) (n : Nat) : List Sv := (List.range n).map fun i => .box (l (f i))
def drV (l : Lab → Nat) : Option Nat → Sv
  | some i => .box (l (.wr i))
  | none => .d .non
def walkV (l : Lab → Nat) (s : Stt) : Sv := match s.walk with
  | some _ => .box (l .wk)
  | none => .d .non
abbrev crsO (c : Cs) (l : Lab → Nat) (s : Stt) : WObj := .ins c.course CF [.d (keepD c.keeper s.ru.kp), .d (ldD c.load s.ld), .d (.int s.old), .d (.int s.now), .d (.int s.mark), .d (.int s.log), .d (.int s.idle), .box (l .wl), .box (l .rl), .box (l .rowl), .box (l .pgd), walkV l s, .d (.int s.count)]
abbrev wrO (c : Cs) (w : Wr) : WObj := .ins c.writer WF_ [.d (.int w.num), .d (.str w.st), .d (optI w.sa)]
abbrev rdO (c : Cs) (r : My.Rd) : WObj := .ins c.reader RF_ [.d (.int r.own), .d (.int r.held), .d (.int r.opened), .d (.bl r.there)]
abbrev rwO (c : Cs) (l : Lab → Nat) (r : Rw) : WObj := .ins c.row WoF [.box (l (.wr r.w)), .d (.int r.spot), .d (.str r.st)]
abbrev pgO (c : Cs) (l : Lab → Nat) (p : Pg) : WObj := .ins c.page PF_ [.d (.bl p.marked), .d (.bl p.elder), drV l p.dr]
abbrev wkO (c : Cs) (l : Lab → Nat) (k : Wk) : WObj := .ins c.walk WkF [.d (.int k.limit), .d (.int k.begun), .box (l .vis), .d (.bl k.whole)]
abbrev visO (k : Wk) : WObj := .dic (k.vis.map Sum.inl) (k.vis.map fun _ => .d (.bl true))
def obj (c : Cs) (l : Lab → Nat) (s : Stt) : Lab → Option WObj
  | .crs => some (crsO c l s)
  | .wl => some (.lst (boxes l .wr s.ws.length))
  | .rl => some (.lst (boxes l .rd s.rs.length))
  | .rowl => some (.lst (boxes l .row s.rows.length))
  | .pgd => some (.dic (s.spots.map Sum.inl) (boxes l .pg s.pgs.length))
  | .wk => s.walk.map (wkO c l)
  | .vis => s.walk.map visO
  | .wr i => (s.ws[i]?).map (wrO c)
  | .rd i => (s.rs[i]?).map (rdO c)
  | .row i => (s.rows[i]?).map (rwO c l)
  | .pg i => (s.pgs[i]?).map (pgO c l)
/-- there is such a thing -/
def has (s : Stt) : Lab → Bool
  | .wk => s.walk.isSome
  | .vis => s.walk.isSome
  | .wr i => decide (i < s.ws.length)
  | .rd i => decide (i < s.rs.length)
  | .row i => decide (i < s.rows.length)
  | .pg i => decide (i < s.pgs.length)
  | _ => true
theorem obj_has (c : Cs) (l : Lab → Nat) (s : Stt) (a : Lab) : (obj c l s a).isSome = has s a := by
  have q : ∀ {α β : Type} (xs : List α) (f : α → β) (i : Nat), ((xs[i]?).map f).isSome = decide (i < xs.length) := fun xs f i => by
    rw [Option.isSome_map]
    by_cases h : i < xs.length
    · rw [List.getElem?_eq_getElem h, decide_eq_true h]
      rfl
    · rw [List.getElem?_eq_none (Nat.le_of_not_lt h), decide_eq_false h]
      rfl
  cases a <;> first | rfl | exact q _ _ _ | exact Option.isSome_map
structure okS (s : Stt) : Prop where
  rw : ∀ r, r ∈ s.rows → r.w < s.ws.length
  dr : ∀ p, p ∈ s.pgs → ∀ d, p.dr = some d → d < s.ws.length
  sp : s.spots.length = s.pgs.length
  nd : s.spots.Nodup
  sa : ∀ w, w ∈ s.ws → w.st ≠ "running" → w.sa.isSome = true
  vs : ∀ k, s.walk = some k → k.vis.Nodup ∧ ∀ v, v ∈ k.vis → v ∈ s.spots
  z1 : s.ws.length ≤ 900
  z2 : s.rs.length ≤ 900
  z3 : s.rows.length ≤ 900
  z4 : s.spots.length ≤ 900
/-- the store stands in the world, by the places l -/
structure Rp (c : Cs) (n0 : Nat) (W : WS) (l : Lab → Nat) (s : Stt) : Prop where
  at_ : ∀ a o, obj c l s a = some o → W[l a]? = some o
  inj : ∀ a b, has s a = true → has s b = true → l a = l b → a = b
  lo : ∀ a, has s a = true → n0 ≤ l a
  ok : okS s
/-- labels that stay -/
def stay : Lab → Bool
  | .wk => false
  | .vis => false
  | _ => true
/-- all else stands -/
structure Up (l : Lab → Nat) (s : Stt) (W : WS) (l' : Lab → Nat) (s' : Stt) (W' : WS) : Prop where
  len : W.length ≤ W'.length
  fr : ∀ j, j < W.length → (∀ a, has s a = true → l a ≠ j) → W'[j]? = W[j]?
  lb : ∀ a, has s' a = true → (has s a = true ∧ l' a = l a) ∨ W.length ≤ l' a
  mo : ∀ a, stay a = true → has s a = true → has s' a = true ∧ l' a = l a
section
variable {c : Cs} {n0 : Nat} {W W' W2 : WS} {l l' l2 : Lab → Nat} {s s' s2 : Stt}
theorem Up.trans (h : Up l s W l' s' W') (k : Up l' s' W' l2 s2 W2) : Up l s W l2 s2 W2 := by
  refine ⟨Nat.le_trans h.len k.len, fun j hj hn => ?_, fun a ha => ?_, fun a ha hb => ?_⟩
  · rw [k.fr j (Nat.lt_of_lt_of_le hj h.len) fun a ha e => ?_, h.fr j hj hn]
    rcases h.lb a ha with ⟨q1, q2⟩ | q
    · exact hn a q1 (q2.symm.trans e)
    · omega
  · rcases k.lb a ha with ⟨q1, q2⟩ | q
    · rcases h.lb a q1 with ⟨r1, r2⟩ | r
      · exact .inl ⟨r1, q2.trans r2⟩
      · exact .inr (by rw [q2]; exact r)
    · exact .inr (Nat.le_trans h.len q)
  · obtain ⟨h1, h2⟩ := h.mo a ha hb
    obtain ⟨k1, k2⟩ := k.mo a ha h1
    exact ⟨k1, k2.trans h2⟩
theorem Up.crs (h : Up l s W l' s' W') : l' .crs = l .crs := (h.mo .crs rfl rfl).2
theorem Rp.some_ (c : Cs) (l : Lab → Nat) {a : Lab} (ha : has s a = true) : ∃ o, obj c l s a = some o := by
  have q := obj_has c l s a
  rw [ha] at q
  exact Option.isSome_iff_exists.mp q
theorem has_of {a : Lab} {o : WObj} (e : obj c l s a = some o) : has s a = true := by
  rw [← obj_has c l s a, e]
  rfl
theorem Rp.lt (h : Rp c n0 W l s) {a : Lab} (ha : has s a = true) : l a < W.length := by
  obtain ⟨o, e⟩ := Rp.some_ c l ha
  exact (List.getElem?_eq_some_iff.mp (h.at_ a o e)).1
theorem Rp.ne (h : Rp c n0 W l s) {a b : Lab} (ha : has s a = true) (hb : has s b = true) (e : a ≠ b) : l a ≠ l b := fun q => e (h.inj a b ha hb q)
theorem Rp.base (h : Rp c n0 W l s) : n0 ≤ W.length := Nat.le_of_lt (Nat.lt_of_le_of_lt (h.lo .crs rfl) (h.lt rfl))
theorem Up.same : Up l s W l s W := ⟨Nat.le_refl _, fun _ _ _ => rfl, fun _ h => .inl ⟨h, rfl⟩, fun _ _ h => ⟨h, rfl⟩⟩
/-- a thing that is not the store's changes -/
theorem Rp.out (h : Rp c n0 W l s) {j : Nat} {o : WObj} (hj : ∀ a, has s a = true → l a ≠ j) : Rp c n0 (W.set j o) l s :=
  ⟨fun a o' e => by rw [List.getElem?_set_ne (hj a (has_of e)).symm]; exact h.at_ a o' e, h.inj, h.lo, h.ok⟩
theorem has_eq {a : Lab} (h : obj c l' s' a = obj c l s a) : has s' a = has s a := by rw [← obj_has c l' s' a, ← obj_has c l s a, h]
/-- one thing of the store changes; others stand or are forgotten -/
theorem Rp.set (h : Rp c n0 W l s) {a : Lab} {o : WObj} (ha : has s a = true) (h1 : obj c l s' a = some o) (h2 : ∀ b, b ≠ a → obj c l s' b = obj c l s b ∨ (stay b = false ∧ obj c l s' b = none)) (ok : okS s') :
    Rp c n0 (W.set (l a) o) l s' ∧ Up l s W l s' (W.set (l a) o) := by
  have old : ∀ b, has s' b = true → has s b = true := fun b hb => by
    by_cases e : b = a
    · rw [e]; exact ha
    · rcases h2 b e with q | ⟨_, q⟩
      · rw [← has_eq q]; exact hb
      · obtain ⟨o', e'⟩ := Rp.some_ c l hb
        rw [q] at e'
        cases e'
  refine ⟨⟨fun b o' e => ?_, fun b b' hb hb' => h.inj b b' (old b hb) (old b' hb'), fun b hb => h.lo b (old b hb), ok⟩, by rw [List.length_set]; exact Nat.le_refl _, fun j hj hn => ?_, fun b hb => .inl ⟨old b hb, rfl⟩, fun b hs hb => ⟨?_, rfl⟩⟩
  · by_cases q : b = a
    · subst q
      rw [List.getElem?_set_self (h.lt ha)]
      rw [h1] at e
      exact e
    · have hb := old b (has_of e)
      rw [List.getElem?_set_ne (h.ne ha hb fun e => q e.symm)]
      rcases h2 b q with q2 | ⟨_, q2⟩
      · exact h.at_ b o' (q2 ▸ e)
      · rw [q2] at e
        cases e
  · exact List.getElem?_set_ne (hn a ha)
  · by_cases q : b = a
    · rw [q]; exact has_of h1
    · rcases h2 b q with q2 | ⟨q2, _⟩
      · rw [has_eq q2]; exact hb
      · rw [hs] at q2
        cases q2
end
end My

/-! what the defs of stores promise -/
namespace My
open PySem L2 DL
/-- where a new store stands -/
def newL (n : Nat) : Lab → Nat
  | .crs => n
  | .wl => n + 1
  | .rl => n + 2
  | .rowl => n + 3
  | .pgd => n + 4
  | _ => 0
/-- how many numbers an event has -/
def sizeE (w : Str) : Option Nat := if w = "take" ∨ w = "end" ∨ w = "break" ∨ w = "close" ∨ w = "visit" then some 1 else if w = "put" ∨ w = "drop" then some 2 else if w = "write" ∨ w = "open" ∨ w = "begin" ∨ w = "finish" then some 0 else none
structure okE (e : Ev) : Prop where
  sz : sizeE e.word = some e.nums.length
  nn : ∀ n, n ∈ e.nums → 0 ≤ n
/-- room for one more of each -/
def room1 (s : Stt) : Prop := s.ws.length < 900 ∧ s.rs.length < 900 ∧ s.rows.length < 900 ∧ s.spots.length < 900
/-- the writers of kept rows, by their numbers -/
def Stt.mkI (s : Stt) : List Nat := (s.rows.filter fun (r : Rw) => decide (r.st = "kept")).map fun (r : Rw) => r.w
def Stt.drI (s : Stt) : List Nat := (s.pgs.filter fun (g : Pg) => g.elder && g.dr.isSome).filterMap fun (g : Pg) => g.dr
def wrB (l : Lab → Nat) (is : List Nat) : List Sv := is.map fun i => .box (l (.wr i))
/-! what is told of a store -/
def Stt.pgsOf (s : Stt) (f : Pg → Bool) : List Int := (sortI s.spots).filter fun p => match s.pgAt p with
  | some i => (match s.pgs[i]? with
    | some g => f g
    | none => false)
  | none => false
def Stt.told (s : Stt) : List Dv := [.int s.now, .int s.mark, .int s.log, .int s.least, (match s.walk with | some k => .int k.limit | none => .non), .tup (s.rows.map fun r => .str r.st), .tup ((s.pgsOf (·.marked)).map Dv.int), .tup ((s.pgsOf fun g => !g.elder).map Dv.int)]
/-! events of texts -/
end My

/-! reading what the walks of stores say -/
namespace My
open PySem L2 DL
section
variable {gd : WS → Prop} {tgt : Tgt} {wt : WT} {we : WE} {vs : List Nat} {σ : DS} {W : WS}
end
section
variable {c : Cs} {n0 : Nat} {W : WS} {l : Lab → Nat} {s : Stt}
theorem Rp.wr (h : Rp c n0 W l s) {i : Nat} {w : Wr} (e : s.ws[i]? = some w) : W[l (.wr i)]? = some (wrO c w) := h.at_ (.wr i) _ (by
  show (s.ws[i]?).map _ = _
  rw [e]
  rfl)
theorem Rp.rd (h : Rp c n0 W l s) {i : Nat} {w : My.Rd} (e : s.rs[i]? = some w) : W[l (.rd i)]? = some (rdO c w) := h.at_ (.rd i) _ (by
  show (s.rs[i]?).map _ = _
  rw [e]
  rfl)
theorem Rp.row (h : Rp c n0 W l s) {i : Nat} {w : Rw} (e : s.rows[i]? = some w) : W[l (.row i)]? = some (rwO c l w) := h.at_ (.row i) _ (by
  show (s.rows[i]?).map _ = _
  rw [e]
  rfl)
theorem Rp.pg (h : Rp c n0 W l s) {i : Nat} {w : Pg} (e : s.pgs[i]? = some w) : W[l (.pg i)]? = some (pgO c l w) := h.at_ (.pg i) _ (by
  show (s.pgs[i]?).map _ = _
  rw [e]
  rfl)
theorem Rp.wk (h : Rp c n0 W l s) {w : Wk} (e : s.walk = some w) : W[l .wk]? = some (wkO c l w) := h.at_ .wk _ (by
  show s.walk.map _ = _
  rw [e]
  rfl)
theorem Rp.vis (h : Rp c n0 W l s) {w : Wk} (e : s.walk = some w) : W[l .vis]? = some (visO w) := h.at_ .vis _ (by
  show s.walk.map _ = _
  rw [e]
  rfl)
end
section
variable {σ : DS} {W : WS} {vs : List Nat} {tgt : Tgt} {wt : WT} {we we0 : WE} {l : Lab → Nat}
end

section
variable {σ : DS} {W : WS} {vs : List Nat} {tgt : Tgt} {wt : WT} {we we0 wo : WE}
end
section
variable {c : Cs} {n0 : Nat} {W : WS} {l : Lab → Nat} {s : Stt} {p : Int}
end

theorem okE.one {e : Ev} (h : okE e) (q : sizeE e.word = some 1) : ∃ a, e.nums = [a] ∧ 0 ≤ a := by
  have k := h.sz
  rw [q, Option.some.injEq] at k
  match hn : e.nums with
  | [a] => exact ⟨a, rfl, h.nn a (by rw [hn]; exact List.mem_cons_self)⟩
  | [] => rw [hn] at k; cases k
  | _ :: _ :: _ => rw [hn] at k; simp at k
theorem okE.two {e : Ev} (h : okE e) (q : sizeE e.word = some 2) : ∃ a b, e.nums = [a, b] ∧ 0 ≤ a ∧ 0 ≤ b := by
  have k := h.sz
  rw [q, Option.some.injEq] at k
  match hn : e.nums with
  | [a, b] => exact ⟨a, b, rfl, h.nn a (by rw [hn]; exact List.mem_cons_self), h.nn b (by rw [hn]; exact List.mem_cons_of_mem _ List.mem_cons_self)⟩
  | [] => rw [hn] at k; cases k
  | [_] => rw [hn] at k; simp at k
  | _ :: _ :: _ :: _ => rw [hn] at k; simp at k
end My

/-! stores change -/
namespace My
open PySem L2 DL
section
variable {c : Cs} {n0 : Nat} {W W' : WS} {l l' : Lab → Nat} {s s' : Stt}
theorem len_of {α : Type} {xs : List α} {i : Nat} {x : α} (e : xs[i]? = some x) : i < xs.length := (List.getElem?_eq_some_iff.mp e).1
theorem Rp.setPg (h : Rp c n0 W l s) {i : Nat} {g g' : Pg} (e : s.pgs[i]? = some g) (hd : ∀ d, g'.dr = some d → d < s.ws.length) :
    Rp c n0 (W.set (l (.pg i)) (pgO c l g')) l { s with pgs := s.pgs.set i g' } ∧ Up l s W l { s with pgs := s.pgs.set i g' } (W.set (l (.pg i)) (pgO c l g')) := by
  refine h.set (a := .pg i) (decide_eq_true (len_of e)) ?_ (fun b hb => .inl ?_) ⟨h.ok.rw, fun p hp d e => ?_, by rw [List.length_set]; exact h.ok.sp, h.ok.nd, h.ok.sa, h.ok.vs, h.ok.z1, h.ok.z2, h.ok.z3, h.ok.z4⟩
  · show ((s.pgs.set i g')[i]?).map _ = _
    rw [List.getElem?_set_self (len_of e)]
    rfl
  · cases b with
    | pg j =>
      show ((s.pgs.set i g')[j]?).map _ = (s.pgs[j]?).map _
      rw [List.getElem?_set_ne fun q => hb (by rw [q])]
    | pgd =>
      show some (WObj.dic _ (boxes l .pg (s.pgs.set i g').length)) = _
      rw [List.length_set]
      rfl
    | _ => rfl
  · rcases List.mem_or_eq_of_mem_set hp with hp | hp
    · exact h.ok.dr p hp d e
    · subst hp
      exact hd d e
theorem Rp.setWr (h : Rp c n0 W l s) {i : Nat} {g g' : Wr} (e : s.ws[i]? = some g) (hs : g'.st ≠ "running" → g'.sa.isSome = true) :
    Rp c n0 (W.set (l (.wr i)) (wrO c g')) l { s with ws := s.ws.set i g' } ∧ Up l s W l { s with ws := s.ws.set i g' } (W.set (l (.wr i)) (wrO c g')) := by
  refine h.set (a := .wr i) (decide_eq_true (len_of e)) ?_ (fun b hb => .inl ?_) ⟨fun p hp => by rw [List.length_set]; exact h.ok.rw p hp, fun p hp d e => by rw [List.length_set]; exact h.ok.dr p hp d e, h.ok.sp, h.ok.nd, fun w hw => ?_, h.ok.vs, by rw [List.length_set]; exact h.ok.z1, h.ok.z2, h.ok.z3, h.ok.z4⟩
  · show ((s.ws.set i g')[i]?).map _ = _
    rw [List.getElem?_set_self (len_of e)]
    rfl
  · cases b with
    | wr j =>
      show ((s.ws.set i g')[j]?).map _ = (s.ws[j]?).map _
      rw [List.getElem?_set_ne fun q => hb (by rw [q])]
    | wl =>
      show some (WObj.lst (boxes l .wr (s.ws.set i g').length)) = _
      rw [List.length_set]
      rfl
    | _ => rfl
  · rcases List.mem_or_eq_of_mem_set hw with hw | hw
    · exact h.ok.sa w hw
    · subst hw
      exact hs
/-! new ones -/
theorem at_n {α : Type} (xs : List α) (x : α) : (xs ++ [x])[xs.length]? = some x := by
  rw [List.getElem?_append_right (Nat.le_refl _), Nat.sub_self]
  rfl
end
end My

/-! loops over things of the world -/
namespace DL
open PySem L2
end DL
namespace My
open PySem L2 DL
section
variable {c : Cs} {n0 : Nat} {W : WS} {l : Lab → Nat} {s : Stt}
end
end My
namespace My
open PySem L2 DL
section
variable {c : Cs} {n0 : Nat} {W W' : WS} {l : Lab → Nat} {s : Stt}
end
end My
namespace My
open PySem L2 DL
end My

/-! visits, events, the harms behind them -/
namespace My
open PySem L2 DL
section
variable {c : Cs} {n0 : Nat} {W : WS} {l : Lab → Nat} {s : Stt}
end
/-! the harms of an event -/
/-! a dict of harms -/
def dkey (L : List (Str × Bool)) : List Key := L.map fun q => Sum.inr q.1
def dval (L : List (Str × Bool)) : List Sv := L.map fun q => Sv.d (.bl q.2)
/-- the world while an event's harms are gathered -/
structure DoW (c : Cs) (n0 : Nat) (l0 : Lab → Nat) (s0 : Stt) (W0 W : WS) (l : Lab → Nat) (s : Stt) (h m1 m2 b : Nat) (L : List (Str × Bool)) : Prop where
  rp : Rp c n0 W l s
  up : Up l0 s0 W0 l s W
  hh : W[h]? = some (.dic (dkey L) (dval L))
  out : ∀ a, has s a = true → l a ≠ h
  ge : W0.length ≤ h
  k1 : W[m1]? = some (.lst (wrB l s.mkI))
  k2 : W[m2]? = some (.lst (wrB l s.drI))
  k3 : W[b]? = some (.lst (wrB l (s.mkI ++ s.drI)))
  n1 : m1 ≠ h
  n2 : m2 ≠ h
  n3 : b ≠ h
theorem Up.outS {l0 l : Lab → Nat} {s0 s : Stt} {W0 W : WS} (u : Up l0 s0 W0 l s W) {j : Nat} (hj : W0.length ≤ j) (o : WObj) : Up l0 s0 W0 l s (W.set j o) :=
  ⟨by rw [List.length_set]; exact u.len, fun i hi hn => by rw [List.getElem?_set_ne (by omega)]; exact u.fr i hi hn, u.lb, u.mo⟩
theorem DoW.put {c : Cs} {n0 : Nat} {l0 l : Lab → Nat} {s0 s : Stt} {W0 W : WS} {h m1 m2 b : Nat} {L : List (Str × Bool)} (d : DoW c n0 l0 s0 W0 W l s h m1 m2 b L) (L' : List (Str × Bool)) : DoW c n0 l0 s0 W0 (W.set h (.dic (dkey L') (dval L'))) l s h m1 m2 b L' :=
  ⟨d.rp.out d.out, d.up.outS d.ge _, List.getElem?_set_self (len_of d.hh), d.out, d.ge, by rw [List.getElem?_set_ne d.n1.symm]; exact d.k1, by rw [List.getElem?_set_ne d.n2.symm]; exact d.k2, by rw [List.getElem?_set_ne d.n3.symm]; exact d.k3, d.n1, d.n2, d.n3⟩
end My

/-! what is told of stores, events of texts -/
namespace My
open PySem L2 DL
/-! events of texts -/
end My

/-! for over enumerate of what may raise -/
namespace DL
open PySem L2
end DL

/-! histories -/
namespace My
open PySem L2 DL
/-- the harms behind an event, ascending -/
def Stt.harms (s : Stt) (e : Ev) : List Str := (s.does e).2.mergeSort strLe
def addH (at_ : Int) (f : List (Str × Int)) (h : Str) : List (Str × Int) := if h ∈ f.map (·.1) then f else f ++ [(h, at_)]
def Stt.run (s : Stt) (f : List (Str × Int)) : Nat → List Ev → (Stt × List (Str × Int)) ⊕ Nat
  | _, [] => .inl (s, f)
  | i, e :: es => if s.can e = true then Stt.run (s.does e).1 ((s.harms e).foldl (addH (i : Nat)) f) (i + 1) es else .inr i
/-- what is made stands behind what was there -/
structure Fr (W W' : WS) : Prop where
  len : W.length ≤ W'.length
  at_ : ∀ j, j < W.length → W'[j]? = W[j]?
theorem Fr.trans {W W' W2 : WS} (h : Fr W W') (k : Fr W' W2) : Fr W W2 := ⟨Nat.le_trans h.len k.len, fun j hj => (k.at_ j (Nat.lt_of_lt_of_le hj h.len)).trans (h.at_ j hj)⟩
/-- sizes -/
structure szS (s : Stt) (n : Nat) : Prop where
  a : s.ws.length ≤ n
  b : s.rs.length ≤ n
  c : s.rows.length ≤ n
  d : s.spots.length ≤ n
theorem szS.room {s : Stt} {n : Nat} (h : szS s n) (hn : n < 900) : room1 s := ⟨by have := h.a; omega, by have := h.b; omega, by have := h.c; omega, by have := h.d; omega⟩
end My

/-! C(e, .., k = v, ..), defaults between -/
namespace DLG
open PySem PySem.Spec PyProof.Rows L2
end DLG
namespace DL
open PySem L2 PySem.Spec PyProof.Rows
end DL

/-! histories that are computed -/
namespace My
open PySem L2 DL
/-! the same, computed -/
/-! what was met is in its order -/
end My

/-! the first harms -/
namespace My
open PySem L2 DL
/-- a new store stands -/
theorem Rp.new (c : Cs) (W : WS) (r : Ru) (ld : Ld) (half : Int) : Rp c W.length (W ++ [crsO c (newL W.length) (Stt.new r ld half), .lst [], .lst [], .lst [], .dic [] []]) (newL W.length) (Stt.new r ld half) := by
  have at_ : ∀ (k : Nat) (o : WObj), [crsO c (newL W.length) (Stt.new r ld half), .lst [], .lst [], .lst [], .dic [] []][k]? = some o → (W ++ [crsO c (newL W.length) (Stt.new r ld half), .lst [], .lst [], .lst [], .dic [] []])[W.length + k]? = some o := fun k o e => by
    rw [List.getElem?_append_right (Nat.le_add_right _ _), Nat.add_sub_cancel_left]
    exact e
  refine ⟨fun a o e => ?_, fun a b ha hb e => ?_, fun a ha => ?_, ⟨fun r h => absurd h List.not_mem_nil, fun p h => absurd h List.not_mem_nil, rfl, List.nodup_nil, fun w h => absurd h List.not_mem_nil, fun k e => (by cases e), Nat.zero_le _, Nat.zero_le _, Nat.zero_le _, Nat.zero_le _⟩⟩
  · cases a with
    | crs => cases e; exact at_ 0 _ rfl
    | wl => cases e; exact at_ 1 _ rfl
    | rl => cases e; exact at_ 2 _ rfl
    | rowl => cases e; exact at_ 3 _ rfl
    | pgd => cases e; exact at_ 4 _ rfl
    | _ => cases e
  · cases a <;> cases b <;> first | rfl | (cases ha; done) | (cases hb; done) | (exfalso; have e : W.length + _ = W.length + _ := e; omega) | (exfalso; have e : W.length = W.length + _ := e; omega) | (exfalso; have e : W.length + _ = W.length := e; omega)
  · cases a <;> first | exact Nat.le_add_right _ _ | exact Nat.le_refl _ | cases ha
end My

/-! rules for the laws' own stores -/
namespace DL
open PySem L2
section
variable {K : PySem.W.Frag} {z : Av} {As : List (List Addr)} {H H' : Hp}
end
/-! {k: e, ..} as a thing of the world -/
/-! d.update(e) -/
/-! xs + ys, lists of the world -/
/-! xs == [], xs != [] of a list of the world -/
section
variable {X : Cx} {e r : Expr} {te tr : TE} {we : WE} {wr : WB} {pos : Pos}
end
/-! len inside a comprehension -/
end DL

namespace My
open PySem L2 DL
end My

/-! how a law's own store stands in the world: a dict, lists of lists (printed by gen/mklw.py) -/
namespace My
namespace Lw
open PySem L2 DL
abbrev SK : List Key := [.inr "next", .inr "edge", .inr "end", .inr "since", .inr "pass", .inr "count", .inr "writers", .inr "readers", .inr "rows", .inr "pages"]
/-- the law's own word for a writer's state (one for one) -/
def stW (s : Str) : Str := if s = "running" then "runs" else if s = "runs" then "running" else s
def drW : Option Nat → Dv
  | some i => .int i
  | none => .non
abbrev crsO (l : Lab → Nat) (s : Stt) : WObj := .dic SK [.d (.int s.now), .d (.int s.mark), .d (.int s.log), .d (.int s.idle), walkV l s, .d (.int s.count), .box (l .wl), .box (l .rl), .box (l .rowl), .box (l .pgd)]
abbrev wrO (w : Wr) : WObj := .lst [.d (.int w.num), .d (.str (stW w.st)), .d (optI w.sa)]
abbrev rdO (r : My.Rd) : WObj := .lst [.d (.int r.own), .d (.int r.held), .d (.int r.opened), .d (.bl r.there)]
abbrev rwO (r : Rw) : WObj := .lst [.d (.int r.w), .d (.int r.spot), .d (.str r.st)]
abbrev pgO (p : Pg) : WObj := .lst [.d (.bl p.marked), .d (.bl p.elder), .d (drW p.dr)]
abbrev wkO (l : Lab → Nat) (k : Wk) : WObj := .lst [.d (.int k.limit), .d (.int k.begun), .box (l .vis), .d (.bl k.whole)]
abbrev visO (k : Wk) : WObj := .lst (k.vis.map fun i => .d (.int i))
def obj (l : Lab → Nat) (s : Stt) : Lab → Option WObj
  | .crs => some (crsO l s)
  | .wl => some (.lst (boxes l .wr s.ws.length))
  | .rl => some (.lst (boxes l .rd s.rs.length))
  | .rowl => some (.lst (boxes l .row s.rows.length))
  | .pgd => some (.dic (s.spots.map Sum.inl) (boxes l .pg s.pgs.length))
  | .wk => s.walk.map (wkO l)
  | .vis => s.walk.map visO
  | .wr i => (s.ws[i]?).map wrO
  | .rd i => (s.rs[i]?).map rdO
  | .row i => (s.rows[i]?).map rwO
  | .pg i => (s.pgs[i]?).map pgO
theorem obj_has (l : Lab → Nat) (s : Stt) (a : Lab) : (obj l s a).isSome = has s a := by
  have q : ∀ {α β : Type} (xs : List α) (f : α → β) (i : Nat), ((xs[i]?).map f).isSome = decide (i < xs.length) := fun xs f i => by
    rw [Option.isSome_map]
    by_cases h : i < xs.length
    · rw [List.getElem?_eq_getElem h, decide_eq_true h]
      rfl
    · rw [List.getElem?_eq_none (Nat.le_of_not_lt h), decide_eq_false h]
      rfl
  cases a <;> first | rfl | exact q _ _ _ | exact Option.isSome_map
/-- the store stands in the world, by the places l -/
structure Rp (n0 : Nat) (W : WS) (l : Lab → Nat) (s : Stt) : Prop where
  at_ : ∀ a o, obj l s a = some o → W[l a]? = some o
  inj : ∀ a b, has s a = true → has s b = true → l a = l b → a = b
  lo : ∀ a, has s a = true → n0 ≤ l a
  ok : okS s
section
variable {n0 : Nat} {W W' W2 : WS} {l l' l2 : Lab → Nat} {s s' s2 : Stt}
theorem Rp.some_ (l : Lab → Nat) {a : Lab} (ha : has s a = true) : ∃ o, obj l s a = some o := by
  have q := obj_has l s a
  rw [ha] at q
  exact Option.isSome_iff_exists.mp q
theorem has_of {a : Lab} {o : WObj} (e : obj l s a = some o) : has s a = true := by
  rw [← obj_has l s a, e]
  rfl
theorem Rp.lt (h : Rp n0 W l s) {a : Lab} (ha : has s a = true) : l a < W.length := by
  obtain ⟨o, e⟩ := Rp.some_ l ha
  exact (List.getElem?_eq_some_iff.mp (h.at_ a o e)).1
theorem Rp.ne (h : Rp n0 W l s) {a b : Lab} (ha : has s a = true) (hb : has s b = true) (e : a ≠ b) : l a ≠ l b := fun q => e (h.inj a b ha hb q)
theorem Rp.base (h : Rp n0 W l s) : n0 ≤ W.length := Nat.le_of_lt (Nat.lt_of_le_of_lt (h.lo .crs rfl) (h.lt rfl))
theorem Rp.out (h : Rp n0 W l s) {j : Nat} {o : WObj} (hj : ∀ a, has s a = true → l a ≠ j) : Rp n0 (W.set j o) l s :=
  ⟨fun a o' e => by rw [List.getElem?_set_ne (hj a (has_of e)).symm]; exact h.at_ a o' e, h.inj, h.lo, h.ok⟩
theorem has_eq {a : Lab} (h : obj l' s' a = obj l s a) : has s' a = has s a := by rw [← obj_has l' s' a, ← obj_has l s a, h]
theorem Rp.set (h : Rp n0 W l s) {a : Lab} {o : WObj} (ha : has s a = true) (h1 : obj l s' a = some o) (h2 : ∀ b, b ≠ a → obj l s' b = obj l s b ∨ (stay b = false ∧ obj l s' b = none)) (ok : okS s') :
    Rp n0 (W.set (l a) o) l s' ∧ Up l s W l s' (W.set (l a) o) := by
  have old : ∀ b, has s' b = true → has s b = true := fun b hb => by
    by_cases e : b = a
    · rw [e]; exact ha
    · rcases h2 b e with q | ⟨_, q⟩
      · rw [← has_eq q]; exact hb
      · obtain ⟨o', e'⟩ := Rp.some_ l hb
        rw [q] at e'
        cases e'
  refine ⟨⟨fun b o' e => ?_, fun b b' hb hb' => h.inj b b' (old b hb) (old b' hb'), fun b hb => h.lo b (old b hb), ok⟩, by rw [List.length_set]; exact Nat.le_refl _, fun j hj hn => ?_, fun b hb => .inl ⟨old b hb, rfl⟩, fun b hs hb => ⟨?_, rfl⟩⟩
  · by_cases q : b = a
    · subst q
      rw [List.getElem?_set_self (h.lt ha)]
      rw [h1] at e
      exact e
    · have hb := old b (has_of e)
      rw [List.getElem?_set_ne (h.ne ha hb fun e => q e.symm)]
      rcases h2 b q with q2 | ⟨_, q2⟩
      · exact h.at_ b o' (q2 ▸ e)
      · rw [q2] at e
        cases e
  · exact List.getElem?_set_ne (hn a ha)
  · by_cases q : b = a
    · rw [q]; exact has_of h1
    · rcases h2 b q with q2 | ⟨q2, _⟩
      · rw [has_eq q2]; exact hb
      · rw [hs] at q2
        cases q2
theorem Rp.wr (h : Rp n0 W l s) {i : Nat} {w : Wr} (e : s.ws[i]? = some w) : W[l (.wr i)]? = some (wrO w) := h.at_ (.wr i) _ (by
  show (s.ws[i]?).map _ = _
  rw [e]
  rfl)
theorem Rp.rd (h : Rp n0 W l s) {i : Nat} {w : My.Rd} (e : s.rs[i]? = some w) : W[l (.rd i)]? = some (rdO w) := h.at_ (.rd i) _ (by
  show (s.rs[i]?).map _ = _
  rw [e]
  rfl)
theorem Rp.row (h : Rp n0 W l s) {i : Nat} {w : Rw} (e : s.rows[i]? = some w) : W[l (.row i)]? = some (rwO w) := h.at_ (.row i) _ (by
  show (s.rows[i]?).map _ = _
  rw [e]
  rfl)
theorem Rp.pg (h : Rp n0 W l s) {i : Nat} {w : Pg} (e : s.pgs[i]? = some w) : W[l (.pg i)]? = some (pgO w) := h.at_ (.pg i) _ (by
  show (s.pgs[i]?).map _ = _
  rw [e]
  rfl)
theorem Rp.wk (h : Rp n0 W l s) {w : Wk} (e : s.walk = some w) : W[l .wk]? = some (wkO l w) := h.at_ .wk _ (by
  show s.walk.map _ = _
  rw [e]
  rfl)
theorem Rp.vis (h : Rp n0 W l s) {w : Wk} (e : s.walk = some w) : W[l .vis]? = some (visO w) := h.at_ .vis _ (by
  show s.walk.map _ = _
  rw [e]
  rfl)
theorem Rp.setPg (h : Rp n0 W l s) {i : Nat} {g g' : Pg} (e : s.pgs[i]? = some g) (hd : ∀ d, g'.dr = some d → d < s.ws.length) :
    Rp n0 (W.set (l (.pg i)) (pgO g')) l { s with pgs := s.pgs.set i g' } ∧ Up l s W l { s with pgs := s.pgs.set i g' } (W.set (l (.pg i)) (pgO g')) := by
  refine h.set (a := .pg i) (decide_eq_true (len_of e)) ?_ (fun b hb => .inl ?_) ⟨h.ok.rw, fun p hp d e => ?_, by rw [List.length_set]; exact h.ok.sp, h.ok.nd, h.ok.sa, h.ok.vs, h.ok.z1, h.ok.z2, h.ok.z3, h.ok.z4⟩
  · show ((s.pgs.set i g')[i]?).map _ = _
    rw [List.getElem?_set_self (len_of e)]
    rfl
  · cases b with
    | pg j =>
      show ((s.pgs.set i g')[j]?).map _ = (s.pgs[j]?).map _
      rw [List.getElem?_set_ne fun q => hb (by rw [q])]
    | pgd =>
      show some (WObj.dic _ (boxes l .pg (s.pgs.set i g').length)) = _
      rw [List.length_set]
      rfl
    | _ => rfl
  · rcases List.mem_or_eq_of_mem_set hp with hp | hp
    · exact h.ok.dr p hp d e
    · subst hp
      exact hd d e
theorem Rp.setWr (h : Rp n0 W l s) {i : Nat} {g g' : Wr} (e : s.ws[i]? = some g) (hs : g'.st ≠ "running" → g'.sa.isSome = true) :
    Rp n0 (W.set (l (.wr i)) (wrO g')) l { s with ws := s.ws.set i g' } ∧ Up l s W l { s with ws := s.ws.set i g' } (W.set (l (.wr i)) (wrO g')) := by
  refine h.set (a := .wr i) (decide_eq_true (len_of e)) ?_ (fun b hb => .inl ?_) ⟨fun p hp => by rw [List.length_set]; exact h.ok.rw p hp, fun p hp d e => by rw [List.length_set]; exact h.ok.dr p hp d e, h.ok.sp, h.ok.nd, fun w hw => ?_, h.ok.vs, by rw [List.length_set]; exact h.ok.z1, h.ok.z2, h.ok.z3, h.ok.z4⟩
  · show ((s.ws.set i g')[i]?).map _ = _
    rw [List.getElem?_set_self (len_of e)]
    rfl
  · cases b with
    | wr j =>
      show ((s.ws.set i g')[j]?).map _ = (s.ws[j]?).map _
      rw [List.getElem?_set_ne fun q => hb (by rw [q])]
    | wl =>
      show some (WObj.lst (boxes l .wr (s.ws.set i g').length)) = _
      rw [List.length_set]
      rfl
    | _ => rfl
  · rcases List.mem_or_eq_of_mem_set hw with hw | hw
    · exact h.ok.sa w hw
    · subst hw
      exact hs
end
end Lw
end My

/-! xs[a:] = ys, things -/
namespace DLG
open PySem PySem.Spec PyProof.Rows L2
section
variable {prog : Program} {w : World} {A : Around} {E : Value → Shared → Prop} {s : Shared}
end
section
variable {X : Cx}
end
end DLG
namespace DL
open PySem L2 DLG
theorem HasVL.tk {K : PySem.W.Frag} {z : Av} {As : List (List Addr)} {H : Hp} : ∀ {vs : List V} {xs : List Sv} (n : Nat), HasVL K z As H vs xs → HasVL K z As H (vs.take n) (xs.take n)
  | _, _, 0, _ => by
    rw [List.take_zero, List.take_zero]
    exact .nil
  | _, _, n + 1, .nil => .nil
  | _, _, n + 1, .cons a b => .cons a (b.tk n)
end DL
namespace DLG
open PySem L2
section
variable {X : Cx}
end
end DLG
namespace DL
open PySem L2 DLG
end DL
namespace DL
open PySem L2 DLG
section
variable {K : PySem.W.Frag} {z : Av} {O : Nat → Option Addr} {As As2 : List (List Addr)} {σd : DS} {W W2 : WS} {σ : St} {H H2 : Hp}
end
end DL
namespace DL
open PySem L2 DLG
end DL
namespace DL
open PySem L2 DLG
end DL
namespace DL
open PySem L2 DLG
section
variable {X : Cx} {e r : Expr} {te tr : TE} {we : WB} {wr : WE} {pos : Pos}
end
end DL

/-! what the defs of a law's own store promise -/
namespace My
namespace Lw
open PySem L2 DL
end Lw
end My

/-! reading and writing the law's own store -/
namespace My
namespace Lw
open PySem L2 DL
section
variable {a0 a1 a2 a3 a4 a5 a6 a7 a8 a9 u : Sv}
end
section
variable {σ : DS} {W : WS}
end
end Lw
end My

/-! events told and read again (plain) -/
namespace My
namespace Lw
open PySem L2 DL TL
end Lw
end My

/-! what the laws draw: settings, loads, events -/
namespace My
namespace Lw
open PySem L2 DL
def okLt : Lt → Prop
  | .at_ i => 1 ≤ i ∧ i < 10000000000000000000
  | _ => True
structure okR (r : Ru) : Prop where
  b2 : 2 ≤ r.b
  bm : r.b ≤ 1000000000000000000
  f1 : 1 ≤ r.f
  fb : r.f < r.b
  s1 : ∀ t, r.s = some t → 1 ≤ t ∧ t < 10000000000000000000
  c : r.c ∈ (["all", "both", "now", "readers"] : List Str)
  m : r.m ∈ (["frozen", "never", "seen"] : List Str)
  mo : r.mo ∈ (["always", "whole"] : List Str)
  cu : r.cu ∈ (["horizon", "mark", "never"] : List Str)
  ma : okLt r.ma
  h : okLt r.h
theorem lt_pass {t : Lt} (h : okLt t) : passD t.d := by
  cases t with
  | al => exact .inl rfl
  | nv => exact .inr (.inl rfl)
  | at_ i => exact .inr (.inr ⟨i, rfl, h.1, h.2⟩)
theorem okR.good {r : Ru} (q : okR r) : r.kp.good := by
  have e1 : wordsK "counts" = (["all", "both", "now", "readers"] : List Str) := by kernel_rfl
  have e2 : wordsK "marks" = (["frozen", "never", "seen"] : List Str) := by kernel_rfl
  have e3 : wordsK "moves" = (["always", "whole"] : List Str) := by kernel_rfl
  have e4 : wordsK "cut" = (["horizon", "mark", "never"] : List Str) := by kernel_rfl
  have kc := DL.ok_word (n := "counts") (x := .str r.c) ⟨r.c, rfl, e1 ▸ q.c⟩ (by simp)
  have km := DL.ok_word (n := "marks") (x := .str r.m) ⟨r.m, rfl, e2 ▸ q.m⟩ (by simp)
  have kmo := DL.ok_word (n := "moves") (x := .str r.mo) ⟨r.mo, rfl, e3 ▸ q.mo⟩ (by simp)
  have kcu := DL.ok_word (n := "cut") (x := .str r.cu) ⟨r.cu, rfl, e4 ▸ q.cu⟩ (by simp)
  have kst := DL.ok_stop (x := optI r.s) (by
    cases hs : r.s with
    | none => exact .inl rfl
    | some t => exact .inr ⟨t, rfl, (q.s1 t hs).1, (q.s1 t hs).2⟩)
  have kma := DL.ok_pass (lt_pass q.ma) (.inl rfl)
  have khe := DL.ok_pass (lt_pass q.h) (.inr rfl)
  have kcl := DL.ok_bool (n := "clears") (b := r.cl) (.inl rfl)
  have kn := DL.ok_bool (n := "needs") (b := r.n) (.inr rfl)
  have h4 := q.bm
  exact good_mk r.kp rfl rfl q.f1 q.fb q.b2 (by omega) kst.2 kc.2 km.2 kcl.2 kmo.2 kcu.2 kn.2 kma.2 khe.2 kst.1 kc.1 km.1 kcl.1 kmo.1 kcu.1 kn.1 kma.1 khe.1
/-! histories -/
end Lw
end My

/-! try: body, except B: suite (no name), over data -/
namespace DL
open PySem L2
section
variable {X : Cx} {x : Str} {B : Addr} {body suite : List Stmt} {b₀ : Stmt} {np pos pos' : Pos} {tx : WX → TS} {wx : XW → WSt} {ts : Addr → Value → Option Addr → TS} {ws : Addr → Value → Option Addr → WSt}
end
end DL

/-! sorted(set(xs)) of texts -/
namespace DLG
open PySem PySem.Spec PyProof.Rows L2 PySem.Froz
def keyV : Value → Str
  | .str k _ => k
  | _ => ""
def keyT (e : Int × Value) : Str := keyV e.2
/-- the payload D holds the texts l, each once, and can be walked -/
structure TxS (P : Program) (w : World) (D : SD) (l : List Str) : Prop where
  ok : TxOk P w D l
  txt : ∀ e, e ∈ D.1.toList → ∃ u, e.2 = Value.str (keyT e) u
  keys : (D.1.toList.map keyT).Perm l
  ris : Ris D.2.2.place.toList
  led : w.params.followText "set-order" = true ∨ D.2.2.led = true
def SetX (P : Program) (w : World) (h : Heap) (a : Addr) (l : List Str) : Prop := ∃ D, h.get? a = some (sObj "set" D) ∧ TxS P w D l
section
variable {P : Program} {w : World} {A : Around} {E : Value → Shared → Prop} {s : Shared} {a : Addr} {l : List Str}
theorem SetX.at {h h' : Heap} (R : SetX P w h a l) (k : ∀ o, h.get? a = some o → h'.get? a = some o) : SetX P w h' a l := by
  obtain ⟨D, ho, r⟩ := R
  exact ⟨D, k _ ho, r⟩
end
section
variable {X : Cx}
end
end DLG
namespace DL
open PySem L2
section
variable {X : Cx} {x x2 : Str} {p p2 pos pos2 : Pos} {e : Expr} {t : TA} {wa : WAB}
end
end DL

/-! for a, b in ((x, thing), (y, thing)) -/
namespace DL
open PySem L2
abbrev TgtW := Sv → DS → WS → Option DS
section
variable {K : PySem.W.Frag} {z : Av} {As0 : List (List Addr)} {ow0 : Av} {H0 : Hp} {g : TG} {tgt : TgtW} {is : List Nat} {tb : TS} {wb : WSt}
end
section
variable {X : Cx} {K : PySem.W.Frag} {tg e : Expr} {te : TE} {we : WE} {pos : Pos} {body : List Stmt} {tb : TS} {wb : WSt}
end
end DL

/-! x, a, b, c = a value, [], [], [] -/
namespace DL
open PySem L2 DLG
section
variable {K : PySem.W.Frag}
end
end DL

/-! an own list lent to a call that makes an instance which, by its shape, cannot hold it -/
namespace DL
open PySem PySem.Spec PyProof.Rows L2
section
variable {K : PySem.W.Frag}
end
end DL

/-! an own list: xs[a:c] = [..] -/
namespace DLG
open PySem L2
section
variable {X : Cx}
end
end DLG
namespace DL
open PySem L2 DLG
end DL

/-! list(range(n)) -/
namespace DL
open PySem L2
section
variable {K : PySem.W.Frag}
end
section
variable {X : Cx} {n : Int} {p p2 pos pos2 : Pos} {a : Expr}
end
end DL

/-! a walk over a tuple within a comprehension; a text's slice -/
namespace DL
open PySem L2
end DL

/-! text.replace("..", str(i)) -/
namespace DLG
open PySem PySem.Spec PyProof.Rows L2 CwR
section
variable {X : Cx} {o e : Expr} {to te : TE} {y c : Str} {j k j2 : Nat} {c0 c2 apos pos p pos2 : Pos}
end
end DLG
namespace DL
open PySem L2
section
variable {X : Cx} {o e : Expr} {to te : TE} {wo we : WE} {y c x : Str} {j k j2 : Nat} {c0 c2 apos pos pos' p pos2 : Pos} {st : Stmt} {rest : List Stmt} {t u : TS} {wt wu : WSt}
end
end DL

/-! methods that may raise; own __len__; tuples of things that grow -/
namespace DLG
open PySem PySem.Spec PyProof.Rows L2
section
variable {X : Cx} {CX : CXT} {k : Nat} {f C : Addr} {fd : FuncData} {ps : List Str} {sp : Sp} {E : L2.St → XK} {m : Str} {p pos apos : Pos} {e o : Expr} {es : List Expr} {ta : TE} {t : TA}
end
/-! len of an own class with __len__ -/
section
variable {prog : Program} {w : World} {A : Around} {E : Value → Shared → Prop} {s : Shared} {K : PySem.W.Frag} {x C f : Addr} {ox : Obj} {od : Option Obj}
end
section
variable {X : Cx} {C g : Addr} {fd : FuncData} {ps : List Str} {sp : Sp} {n : Nat}
end
end DLG
namespace DL
open PySem L2
section
variable {X : Cx} {K : PySem.W.Frag} {x m : Str} {p pos apos : Pos} {e o : Expr} {es : List Expr} {te : TE} {we : WE} {t : TA} {wa : WA} {C fa : Addr} {fd : FuncData} {ps : List Str} {k : Nat} {to : TE} {wo : WE}
end
end DL

/-! len(set(texts)) of a list or a tuple -/
namespace DLG
open PySem PySem.Spec PyProof.Rows L2 PySem.Froz
section
variable {P : Program} {w : World} {A : Around} {E : Value → Shared → Prop} {s : Shared} {a : Addr} {l : List Str}
end
section
variable {X : Cx}
end
end DLG
namespace DL
open PySem L2
section
variable {X : Cx} {p p2 pos pos2 : Pos} {e : Expr} {t : TA} {wa : WAB}
end
end DL

/-! t.count(word), t a tuple of texts whose object is known -/
namespace DLG
open PySem L2 PyProof.Rows
section
variable {X : Cx}
end
end DLG
namespace DL
open PySem L2
section
variable {X : Cx} {pos apos : Pos} {e o : Expr} {te to : TE} {wo : WE} {wb : WB}
end
end DL

/-! defs that show things by repr: called where nothing is being shown -/
namespace DLG
open PySem PySem.Spec PyProof.Rows L2
section
variable {X : Cx} {k : Nat} {f : Addr} {fd : FuncData} {ps : List Str} {sp : Sp} {ds : List Value} {dvs : List V} {x : Str} {p pos : Pos} {e : Expr} {es : List Expr} {t : TA}
end
end DLG
namespace DL
open PySem L2 DLG
section
variable {X : Cx} {k : Nat} {f : Addr} {fd : FuncData} {ps : List Str} {wf : WFn} {ds : List Value} {dvs : List V} {dd : List Dv} {x : Str} {p pos : Pos} {e : Expr} {es : List Expr} {t : TA} {wa : WA}
end
section
variable {P : Program} {w : World} {K : PySem.W.Frag} {mg : Str → Option Value} {base : Heap}
end
end DL

/-! x, y, z = a tuple that holds things -/
namespace DL
open PySem L2
end DL

/-! data or a list thing in the same place; tuples of things: an item, a piece -/
namespace DL
open PySem PySem.Spec PyProof.Rows L2 DLG
section
variable {X : Cx} {x : Str} {p pos p1 p2 p3 : Pos} {e : Expr} {te : TE} {we : WE} {kk : Nat}
end
/-! for i, x in enumerate(xs), where the body may raise; xs data or a list thing -/
/-! *e, e data or a list thing -/
/-! an item, a piece of a tuple of things -/
theorem HasVL.dp {K : PySem.W.Frag} {z : Av} {As : List (List Addr)} {H : Hp} : ∀ {vs : List V} {xs : List Sv} (n : Nat), HasVL K z As H vs xs → HasVL K z As H (vs.drop n) (xs.drop n)
  | _, _, 0, h => h
  | _, _, n + 1, .nil => .nil
  | _, _, n + 1, .cons a b => b.dp n
/-! range(i, j, c) in a for -/
end DL

/-! match over texts that are written down -/
namespace DL
open PySem PySem.Spec PyProof.Rows L2 DLG
/-! the same over data, where a case may raise -/
/-! the same where nothing is raised -/
end DL
namespace DLG
open PySem PySem.Spec PyProof.Rows L2
section
variable {X : Cx} {o e : Expr} {to te : TE} {y z c : Str} {j k k2 : Nat} {c0 c1 c2 apos pos apos2 pos2 : Pos}
end
end DLG
namespace DL
open PySem PySem.Spec PyProof.Rows L2 DLG
end DL

/-! an own exception made by keywords -/
namespace PySem
namespace HandSPX
open Builtin Builtin.ObjectAttr
section
variable {M : Model} {A : Around} {E : Value → Shared → Prop} {h : Heap} {g : Array GenState} {d : Drawn} {t : Nat} {os : OsState}
variable {nm q : Str} {C N : Addr} {bs bm bmB : List Value} {hdct : Bool} {sn : List Str} {sub : List Value} {ab : Bool} {col : Option Bool} {dd : Option Addr} {k0 k1 k2 k3 k5 : Option Value} {B newId initId : String}
theorem check_newK (F : ExcBaseFacts B newId initId bmB) (hT : ∀ X : String, bm.contains (.type X) = bmB.contains (.type X)) {rest : List Value} {kw : List (Str × Value)} {Q : Unit → Shared → Prop}
    (hC : h.get? C = some (excClassObj nm q C N bs bm hdct sn sub ab col dd k0 k1 k2 k3 k5 newId)) (hq : Q () ⟨h, g, d, t, os⟩) : wpAny M A (checkBuiltinCall newId ⟨.ref C :: rest, kw⟩) Q E ⟨h, g, d, t, os⟩ := by
  have hcont : (Value.ref C :: bm).contains (.type B) = true := by rw [List.contains_cons, hT, F.hasB, Bool.or_true]
  have hstar := F.noStar
  simp only [checkBuiltinCall, F.newKind, F.newSplit, F.newRow]
  repeat (first | refine wpAny_loadPart_at hC ?_ | (refine wpAny_isSubtype_exc hC ?_; rw [hcont]) | refine wpAny_staticBase_exc hC ?_ | refine wpAny_madeBy_exc hC ?_ | simp only [bne_self_eq_false, Bool.false_eq_true, if_false] | wp_step)
  exact hq
end
section
variable {prog : Program} {w : World} {A : Around} {E : Value → Shared → Prop} {R : Result → Shared → Prop} {h : Heap} {g : Array GenState} {d : Drawn} {t : Nat} {os : OsState}
variable {nm q : Str} {C N : Addr} {bs bm bmB : List Value} {hdct : Bool} {sn : List Str} {sub : List Value} {ab : Bool} {col : Option Bool} {dd : Option Addr} {k0 k1 k2 k3 k5 : Option Value} {B newId initId : String}
theorem newK (F : ExcBaseFacts B newId initId bmB) (hT : ∀ X : String, bm.contains (.type X) = bmB.contains (.type X)) {rest : List Value} {kw : List (Str × Value)}
    (hC : h.get? C = some (excClassObj nm q C N bs bm hdct sn sub ab col dd k0 k1 k2 k3 k5 newId))
    (hq : R (.ok (.ret (.ref (h.objs.size + 1)))) ⟨(h.push { cls := .type "tuple", data := .seq rest.toArray }).push
      { cls := .ref C, data := .fields #[.ref h.objs.size, .none, .none, .none, .bool false, .none] }, g, d, t, os⟩) (hrest : rest.length ≤ sizeLine) :
    codeAny (model prog w) A (.builtin newId ⟨.ref C :: rest, kw⟩) R ⟨h, g, d, t, os⟩ := by
  have hends := F.ends
  have hcB : (Value.ref C :: bm).contains (.type B) = true := by rw [List.contains_cons, hT, F.hasB, Bool.or_true]
  have hcA : (Value.ref C :: bm).contains (.type "AttributeError") = false := by rw [List.contains_cons, hT, F.noAttr]; rfl
  have hcN : (Value.ref C :: bm).contains (.type "NameError") = false := by rw [List.contains_cons, hT, F.noName]; rfl
  refine codeAny_builtinAt F.entry ?_
  unfold Builtin.«BaseException.__new__»
  refine wpAt_bind ?_
  show wpAt _ _ _ (stack >>= _) _ _ _
  refine wpAt_bind (wpAt_stack fun p below => wpAt_of_wpAny ?_)
  wp_walk
  refine wpAt_of_wpAny ?_
  rw [F.owner]
  repeat (first | with_reducible refine wpAny_madeHere_exc F.canon hC ?_ | with_reducible refine wpAny_loadPart_at hC ?_ | (with_reducible refine wpAny_isSubtype_exc hC ?_; first | rw [hcB] | rw [hcA] | rw [hcN]) | wp_step)
  show R _ _
  rw [Heap.size_push]
  exact hq
theorem type_callK (F : ExcBaseFacts B newId initId bmB) (hT : ∀ X : String, bm.contains (.type X) = bmB.contains (.type X)) {rest : List Value} {kw : List (Str × Value)} {fI : Addr} {Q : Fin → Shared → Prop}
    (hC : h.get? C = some (excClassObj nm q C N bs bm hdct sn sub ab col dd k0 k1 k2 k3 k5 newId))
    (hi : W.Looks (model prog w) h (typeLookup (.ref C) "__init__") (some (.ref fI))) (hb : ∀ self, W.Looks (model prog w) h (bindSpecial (.ref fI) self) (.ref fI, [self])) (hrest : rest.length ≤ sizeLine)
    (hq : codeAny (model prog w) A (.call (.ref fI) ⟨.ref (h.objs.size + 1) :: rest, kw⟩)
      (fun r s' => match r with | .ok (.ret v) => v = .none ∧ Q (.done (.ret (.ref (h.objs.size + 1)))) s' | .ok _ => False | .error e => E e s')
      ⟨(h.push (W.kdv_tup rest)).push (excO C h.objs.size), g, d, t, os⟩) :
    wpAny (model prog w) A (Builtin.«type.__call__» ⟨.ref C :: rest, kw⟩) Q E ⟨h, g, d, t, os⟩ := by
  repeat (first | with_reducible refine wpAny_loadPart_at hC ?_ | with_reducible refine wpAny_madeBy_exc hC ?_ | wp_step)
  refine codeAny_call_builtin_code (Code.quiet_builtin _ F.quiet) (check_newK F hT hC ?_)
  refine newK F hT hC ?_ hrest
  show wpAny _ _ _ _ _ _
  have k : ∀ b o, h.get? b = some o → ((h.push (W.kdv_tup rest)).push (excO C h.objs.size)).get? b = some o := fun b o e => Heap.get?_push_of_some _ (Heap.get?_push_of_some _ e)
  have hC₁ := k _ _ hC
  have hget : ((h.push (W.kdv_tup rest)).push (excO C h.objs.size)).get? (h.objs.size + 1) = some (excO C h.objs.size) := by heap_get
  have hcC : (Value.ref C :: bm).contains (.ref C) = true := by simp
  have i1 := hi.keeps k
  have b1 := (hb (.ref (h.objs.size + 1))).keeps k
  unfold isInstance
  repeat (first | with_reducible refine wpAny_loadPart_at hget ?_ | (with_reducible refine wpAny_isSubtype_exc hC₁ ?_; rw [hcC]) | wp_step)
  show wpAny _ _ (typeLookup (.ref C) _) _ _ _
  refine i1.at ?_
  refine wpAny_holding (wpAny_bind (b1.at ?_))
  refine wpAny_bind (wpAny_call (codeAny_mono hq fun r s' z => ?_))
  rcases r with e | (v | _ | _ | _) <;> first | exact z | exact z.elim | skip
  obtain ⟨rfl, z⟩ := z
  first
    | exact wpAny_pure (wpAny_pure z)
    | (wp_walk; exact z)
theorem check_typeK {M : Model} {E : Value → Shared → Prop} {rest : List Value} {kw : List (Str × Value)} {Q : Unit → Shared → Prop} (hC : h.get? C = some (excClassObj nm q C N bs bm hdct sn sub ab col dd k0 k1 k2 k3 k5 newId))
    (hq : Q () ⟨h, g, d, t, os⟩) : wpAny M A (checkBuiltinCall "type.__call__" ⟨.ref C :: rest, kw⟩) Q E ⟨h, g, d, t, os⟩ := by
  have f3 := tc_sub
  have hT : (⟨h, g, d, t, os⟩ : Shared).TypeIs (.ref C) "type" := ⟨_, hC, rfl⟩
  simp only [checkBuiltinCall, tc_kind, tc_split]
  repeat (any_goals (first | assumption | with_reducible refine wpAny_loadPart_at hC ?_ | with_reducible refine wpAny_onRaise ?_ | with_reducible refine wpAny_map ?_ | wp_step))
theorem callK (F : ExcBaseFacts B newId initId bmB) (hT : ∀ X : String, bm.contains (.type X) = bmB.contains (.type X)) {rest : List Value} {kw : List (Str × Value)} {fI : Addr}
    (hC : h.get? C = some (excClassObj nm q C N bs bm hdct sn sub ab col dd k0 k1 k2 k3 k5 newId))
    (hi : W.Looks (model prog w) h (typeLookup (.ref C) "__init__") (some (.ref fI))) (hb : ∀ self, W.Looks (model prog w) h (bindSpecial (.ref fI) self) (.ref fI, [self])) (hrest : rest.length ≤ sizeLine)
    (hq : codeAny (model prog w) (A.under (.builtin "type.__call__" ⟨.ref C :: rest, kw⟩)) (.call (.ref fI) ⟨.ref (h.objs.size + 1) :: rest, kw⟩) (W.InitBack (h.objs.size + 1) R)
      ⟨(h.push (W.kdv_tup rest)).push (excO C h.objs.size), g, d, t, os⟩) :
    codeAny (model prog w) A (.call (.ref C) ⟨rest, kw⟩) R ⟨h, g, d, t, os⟩ := by
  have f1 := tc_lookup
  have f2 := tc_bind (.ref C)
  have hTy : (⟨h, g, d, t, os⟩ : Shared).TypeIs (.ref C) "type" := ⟨_, hC, rfl⟩
  refine codeAny_of_tree ?_
  show wpAny _ _ (callAny (.ref C) _) _ _ _
  repeat (any_goals (first | assumption | with_reducible refine wpAny_loadPart_at hC ?_ | wp_step))
  refine ⟨rfl, ?_⟩
  refine codeAny_call_builtin_at (Code.quiet_builtin _ (by decide +kernel)) entry_typeCall (check_typeK hC (type_callK F hT hC hi hb hrest ?_))
  refine codeAny_mono hq fun r s' z => ?_
  rcases r with e | (v | _ | _ | _) <;> exact z
end
end HandSPX
end PySem
namespace DLG
open PySem PySem.Spec PyProof.Rows L2
/-- an own exception made by keywords alone -/
def tMkK (C : Addr) (m : Nat) (sp : Sp) (gV : List V → List V → List V) (tk : TA) : L2.St → Hp → XK → Prop := fun σ H Q => tk σ H fun zs H1 => zs.length = m ∧ ∀ a, H1 a = none → sp (gV [.ref a] zs) (upd H1 a (exo a C none))
  (fun v H2 => v = .non ∧ ∃ (d : Addr) (fs : List (Str × V)), H2 a = some (exo a C (some d)) ∧ H2 d = some (exd d fs) ∧ H1 d = none ∧ Q (.ref C) (some d) (upd (del H2 a) d (.xd fs))) (fun _ _ _ => False)
theorem pmk_oexK {X : Cx} {CX : CXT} {x : Str} {C fI : Addr} {k : Nat} {fd : FuncData} {ps ks : List Str} {sp : Sp} {p pos : Pos} {kws : List Keyword} {tk : TA} {g : List Value → List Value → List Value} {gV : List V → List V → List V} (T : OexC X.K C) (iC : PySem.W.findIn X.K (.ref C) "__init__" = some (some (.ref fI))) (tI : PySem.W.typeIn X.K (.ref fI) = some (.type "function"))
    (F1 : FnOk X.prog X.w X.K X.mg X.base CX k fI fd ps sp) (hr : Room (k + 1) X.A) (hb : KBn X.K fd ps 1 ks g gV) (hx : Passes CX X (fun _ _ _ => False)) (hg : Gl X x) (hm : X.mg x = some (.ref C)) (hkw : PK X kws tk)
    (hall : (backToKw pos (keywordEach kws X.env)).all (·.1.isSome) = true := by rfl) (hks : (backToKw pos (keywordEach kws X.env)).filterMap (·.1) = ks := by rfl) (hdb : (x == ("__debug__" : Str)) = false := by decide)
    (hpl : ((backTo pos (starEach [] X.env)).any (·.1) || (backToKw pos (keywordEach kws X.env)).any (·.1.isNone)) = false := by rfl) :
    PMk X (.Call (.Name x p) [] kws pos) (tMkK C ks.length sp gV tk) := by
  intro pins s σ H Q I h
  obtain ⟨nm, q, N, bs, bm, sn, sub, ab, col, dd, k0, k1, k2, k3, k5, hC, hbm⟩ := T.cls
  refine wpAny_Call_Name_kw (ld_glob I hg hm ?_ hdb)
  refine PySem.W.callWith_KW0 (h₀ := X.base) I.ok.mod.kin T.kC hall ?_ hpl
  refine thn (hkw.run pos pins s σ H _ I h) fun ws s1 ⟨zs, H1, I1, rz, l2, q1⟩ => ⟨I1.kIn, ?_⟩
  rw [hks]
  show wpAny _ _ (call (.ref C) [] (ks.zip ws)) _ _ _
  obtain ⟨hp, gg, dr, tok, os⟩ := s1
  have hsz : hp.objs.size ≤ hp.objs.size + 1 := Nat.le_succ _
  have hn : H1 (hp.objs.size + 1) = none := I1.hok.fresh hsz
  have hq := q1 (hp.objs.size + 1) hn
  have kk : ∀ b o, hp.get? b = some o → ((hp.push (PySem.W.kdv_tup [])).push (PySem.HandSPX.excO C hp.objs.size)).get? b = some o := fun b o e => Heap.get?_push_of_some _ (Heap.get?_push_of_some _ e)
  have hget : ((hp.push (PySem.W.kdv_tup [])).push (PySem.HandSPX.excO C hp.objs.size)).get? (hp.objs.size + 1) = some (PySem.HandSPX.excO C hp.objs.size) := by heap_get
  have I2 : L2.Inv X pins σ (upd H1 (hp.objs.size + 1) (exo (hp.objs.size + 1) C none)) ⟨(hp.push (PySem.W.kdv_tup [])).push (PySem.HandSPX.excO C hp.objs.size), gg, dr, tok, os⟩ :=
    I1.laid (t' := tok) (a := hp.objs.size + 1) (o := exo (hp.objs.size + 1) C none) (h' := (hp.push (PySem.W.kdv_tup [])).push (PySem.HandSPX.excO C hp.objs.size)) kk hsz (exo_ok hget)
  have r1 : Vals [V.ref (hp.objs.size + 1)] [Value.ref (hp.objs.size + 1)] := .cons rfl .nil
  have r2 := hb.rel r1 rz
  refine wpAny_call (PySem.HandSPX.callK F.excBase_ValueError (fun Y => PySem.HandSPX.refsVE_contains Y bm hbm) (I1.kIn _ _ hC) (PySem.W.looks_findIn I1.kIn iC) (fun self => PySem.W.bind_fn I1.kIn self tI) (Nat.zero_le _)
    (codeAny_mono (F1.run _ X.stack _ _ ⟨[Value.ref (hp.objs.size + 1)], ks.zip ws⟩ (g [Value.ref (hp.objs.size + 1)] ws) _ _ (fun _ _ _ => False) (hr.make C [] (ks.zip ws)) (I2.env0.make C [] (ks.zip ws)) (hb.to _ [Value.ref (hp.objs.size + 1)] ws I2.kIn rfl (rz.length.symm.trans l2)) r2 hq) fun r s' hq' => ?_))
  cases r with
  | error er => exact hx pins σ _ _ er s' I2 hq'
  | ok fl =>
    cases fl with
    | ret u =>
      obtain ⟨v, H2, os2, bare2, un2, hok2, rv, ev, d, fs, ea, ed, hd1, q2⟩ := hq'
      subst ev
      obtain ⟨h2, g2, d2, t2, os'⟩ := s'
      exact ⟨rv, mk_end (raises_own T.exC T.tyC) I1 hsz kk un2 hok2 os2 bare2 ea ed hd1 q2⟩
    | next => exact False.elim hq'
    | brk => exact False.elim hq'
    | cont => exact False.elim hq'
end DLG

/-! exceptions that live for one expression -/
namespace DLG
open PySem PySem.Spec PyProof.Rows L2
end DLG
namespace DL
open PySem PySem.Spec PyProof.Rows L2 DLG
end DL

/-! lambdas: made in a table of code objects, called in the def that got them -/
namespace DL
open PySem PySem.Spec PyProof.Rows L2
/-- its names: the parameter, captured ones, globals -/
structure LamSc (sc scope : Scope) (N : List Str) (a : Option Str) : Prop where
  kind : scope.kind = .function
  co : scope.isCoroutine = false
  gen : scope.isGenerator = false
  cell : ∀ y ∈ scope.names, y.2 ≠ .cell
  own : ∀ y ∈ scope.names, y.2 = .local → a = some y.1
  out : ∀ x, a = some x → x ∉ N ∧ scope.names.lookup x = some .local
  free : ∀ y ∈ scope.names, y.2 = .free → sc.names.lookup y.1 = some .cell ∨ sc.names.lookup y.1 = some .free
section
variable {X : Cx} {pins : List (Addr × Obj)} {σ : L2.St} {H HZ : Hp} {s s1 : Shared} {sc scope : Scope} {a : Option Str}
theorem LamSc.has (L : LamSc X.env.scope scope X.N a) (ok : X.Ok) : ∀ y ∈ scope.names, y.2 = .free → ∃ c, X.env.cells.lookup y.1 = some c := by
  intro y hy e
  exact ok.has y.1 ((L.free y hy e).imp id id)
end
end DL
namespace DL
open PySem PySem.Spec PyProof.Rows L2
section
variable {X : Cx} {pins : List (Addr × Obj)} {σ : L2.St} {H : Hp} {s : Shared} {CXg : CXT} {Eg : XK} {Ng : List Str} {qg : Str} {sg : Scope} {g f c' : Addr} {cdg pm ctv : Value} {params : Arguments} {body : Expr} {scope : Scope} {k : Nat} {a : Option Str} {pn : List (Addr × Obj)} {xe : Value → Shared → Prop} {W : WX} {tb : XK → TE}
end
end DL
namespace DL
open PySem PySem.Spec PyProof.Rows L2
section
variable {K : PySem.W.Frag} {z ow : Av} {O : Nat → Option Addr} {As As0 : List (List Addr)} {σd : DS} {W W0 : WS} {σ : L2.St} {H H0 : Hp}
/-- a slot ahead of the others -/
def O1 (O : Nat → Option Addr) : Nat → Option Addr := fun i => match i with
  | 0 => none
  | i + 1 => O i
theorem owOf_O1 : owOf (O1 O) = owOf O := by
  funext a
  apply propext
  constructor
  · rintro ⟨i, h⟩
    cases i with
    | zero => cases h
    | succ i => exact ⟨i, h⟩
  · rintro ⟨i, h⟩
    exact ⟨i + 1, h⟩
theorem Rep.cons {v : V} {x : Sv} (r : Rep K z O As σd W σ H) (h : HasV K (zo z (owOf O)) As H v x) : Rep K z (O1 O) As (some (.v x) :: σd) W (some v :: σ) H := by
  refine ⟨by rw [owOf_O1]; exact r.wld, congrArg (· + 1) r.len, fun i d e => ?_, fun i a q => ?_, fun i j a q1 q2 => ?_, fun i a q => ?_⟩
  · cases i with
    | zero =>
      cases e
      exact ⟨v, rfl, rfl, by rw [owOf_O1]; exact h⟩
    | succ i =>
      obtain ⟨u, h1, h2⟩ := r.sl i d e
      refine ⟨u, h1, ?_⟩
      rw [owOf_O1]
      exact h2
  · cases i with
    | zero => cases q
    | succ i => exact r.out i a q
  · cases i with
    | zero => cases q1
    | succ i =>
      cases j with
      | zero => cases q2
      | succ j => exact congrArg (· + 1) (r.inj i j a q1 q2)
  · cases i with
    | zero => cases q
    | succ i => exact r.oo i a q
/-- no slot holds a thing of its own -/
def noOwn (σd : DS) : Bool := σd.all fun o => match o with
  | some s => !s.isOwn
  | none => true
theorem Rep.noO (r : Rep K z O As σd W σ H) (h : noOwn σd = true) (i : Nat) : O i = none := by
  cases q : O i with
  | none => rfl
  | some a =>
    obtain ⟨s, h1, h2⟩ := r.oo i a q
    have := List.all_eq_true.mp h _ (List.mem_of_getElem? h1)
    dsimp only at this
    rw [h2] at this
    cases this
end
end DL
namespace DL
open PySem PySem.Spec PyProof.Rows L2
/-! ### within the def that got the lambda: readings behind its entry (z0, As0, H0) -/
def TEXb (K : PySem.W.Frag) (z0 : Av) (As0 : List (List Addr)) (H0 : Hp) (t : WX → TE) (w : XW → WE) : Prop := ∀ {O : Nat → Option Addr} {As : List (List Addr)} {σd : DS} {W : WS} {σ : L2.St} {H : Hp} (ΦX : XW) (Wx : WX) (Φ : Sv → WS → Prop) (Q : VK),
  ExtS As0 No H0 As (owOf O) H → Rep K z0 O As σd W σ H → w ΦX σd W Φ → Nx K (zo z0 (owOf O)) As H Φ Q → ExOk K z0 As (owOf O) H ΦX Wx → t Wx σ H Q
def TSXb (K : PySem.W.Frag) (z0 : Av) (As0 : List (List Addr)) (H0 : Hp) (t : WX → TS) (w : XW → WSt) : Prop := ∀ {O : Nat → Option Addr} {As : List (List Addr)} {σd : DS} {W : WS} {σ : L2.St} {H : Hp} (ΦX : XW) (Wx : WX) (Dd : DEnds) (D : Ends),
  ExtS As0 No H0 As (owOf O) H → Rep K z0 O As σd W σ H → w ΦX Dd σd W → EndsOk K z0 As (owOf O) H Dd D → ExOk K z0 As (owOf O) H ΦX Wx → t Wx D σ H
structure PDXb (X : Cx) (z0 : Av) (As0 : List (List Addr)) (H0 : Hp) (e : Expr) (t : WX → TE) (w : XW → WE) : Prop where
  pe : ∀ Wx, Takes X Wx → PE X e (t Wx)
  ok : TEXb X.K z0 As0 H0 t w
structure PDSXb (X : Cx) (z0 : Av) (As0 : List (List Addr)) (H0 : Hp) (s : Stmt) (t : WX → TS) (w : XW → WSt) : Prop where
  ps : ∀ Wx, Takes X Wx → PS X s (t Wx)
  ok : TSXb X.K z0 As0 H0 t w
section
variable {X : Cx} {z0 : Av} {As0 : List (List Addr)} {H0 : Hp} {e : Expr} {st : Stmt} {rest : List Stmt} {tX uX : WX → TS} {wX vX : XW → WSt} {teX : WX → TE} {weX : XW → WE} {pos pos' : Pos}
theorem sb (h : PDSX X st tX wX) : PDSXb X z0 As0 H0 st tX wX := ⟨h.ps, fun ΦX Wx Dd D _ r g q x => h.ok ΦX Wx Dd D r g q x⟩
theorem eb (h : PDX X e teX weX) : PDXb X z0 As0 H0 e teX weX := ⟨h.pe, fun ΦX Wx Φ Q _ r g q x => h.ok ΦX Wx Φ Q r g q x⟩
end
/-! ### the call x(lambda: body) -/
section
variable {X : Cx}
end
/-! ### .. over data -/
section
variable {K : PySem.W.Frag} {z : Av} {O : Nat → Option Addr} {As : List (List Addr)} {σd : DS} {W : WS} {σ : L2.St} {H : Hp}
end
section
variable {X : Cx}
end
end DL

/-! the law as a whole, where defs make lambdas: their tables are things of the world from the first -/
namespace DLG
open PySem PySem.Spec PyProof.Rows L2
section
variable {P : Program} {w : World} {K : PySem.W.Frag} {mg mb : Str → Option Value}
end
end DLG
namespace DL
open PySem L2
section
variable {P : Program} {w : World} {K : PySem.W.Frag} {mg : Str → Option Value}
end
end DL
namespace DH
open PySem PySem.Spec PyProof.Rows L2
end DH

namespace DL
open PySem L2
/-! ### x, y = a value, an own list: names that inner code knows -/
section
variable {X : Cx}
end
end DL
namespace DL
open PySem L2
end DL
namespace DL
open PySem L2
section
variable {X : Cx} {c a b : Expr} {tt : TT} {wt : WT} {ta tb : WX → TE} {wa wb : XW → WE} {pos : Pos}
end
end DL

/-! C(k = v, ..), C.m(k = v) that may raise, isinstance(e, (A, B)) in a suite, text.replace("..." + e, "..") -/
namespace DL
open PySem PySem.Spec PyProof.Rows L2
section
variable {X : Cx} {CX : CXT} {k : Nat} {f C pa : Addr} {fd : FuncData} {ps ks : List Str} {sp : Sp} {E : L2.St → XK} {x m : Str} {p pos apos : Pos} {o : Expr} {kws : List Keyword} {to : TE} {tk : TA} {g : List Value → List Value → List Value} {gV : List V → List V → List V}
/-! ### C(k = v, ..) -/
/-! ### C.m(k = v, ..) -/
end
end DL
namespace DL
open PySem L2
section
variable {X : Cx} {K : PySem.W.Frag} {k m : Nat} {C fa pa : Addr} {fd : FuncData} {ps ks : List Str} {wf : WFn} {wfx : WFnX} {x mt : Str} {p pos apos : Pos} {o : Expr} {kws : List Keyword} {to : TE} {wo : WE} {tk : TA} {wk : WA} {ix : List Nat} {dvs : List V} {dd : List Dv}
end
/-! ### isinstance(e, (A, B)) in a suite -/
end DL
namespace DL
open PySem PySem.Spec PyProof.Rows L2
/-! ### text.replace("..." + e, "..") -/
section
variable {X : Cx} {o e : Expr} {to te : TE} {y z : Str} {j k : Nat} {c0 c1 bp apos pos : Pos}
end
end DL

/-! an expression that does not look at the own things -/
namespace DL
open PySem PySem.Spec PyProof.Rows L2
section
variable {K : PySem.W.Frag}
end
section
variable {P : Program} {w : World} {K : PySem.W.Frag} {mg : Str → Option Value} {base : Heap}
end
section
variable {X : Cx} {K : PySem.W.Frag} {o e : Expr} {to te : TE} {wo we : WB} {apos pos : Pos}
end
end DL

/-! exceptions as things of the world -/
namespace DLG
open PySem PySem.Spec PyProof.Rows L2
/-- C(..) as a value -/
def tMkV (t : L2.St → Hp → XK → Prop) : TE := fun σ H Q => t σ H fun cls d H1 => ∃ C, cls = .ref C ∧ ∀ a, H1 a = none → Q (.ref a) (upd H1 a (DL.XcO a C d))
theorem pe_mkV {X : Cx} {e : Expr} {t : L2.St → Hp → XK → Prop} (he : PMk X e t) : PE X e (tMkV t) := by
  refine ⟨fun pins s σ H Q I h => wpAny_mono (he pins s σ H _ I h) (fun u s1 hu => ?_) fun _ _ q => q⟩
  obtain ⟨a, oe, vs, sI, H', cls, d, rfl, J, k, hne, ha, hz, hd, h1, na, os, ag, r, C, ec, q⟩ := hu
  subst ec
  have new : ObjOk X.prog X.w (upd H' a (DL.XcO a C d)) s1.heap a (DL.XcO a C d) := ⟨⟨oe, ha, hz.1, hz.2, vs, hd⟩, ⟨oe, ha⟩, fun _ _ ⟨o, h, r⟩ k => ⟨o, k o h, r⟩⟩
  have J2 := J.laidN (t' := s1.toks) k hne na new
  have J3 : L2.Inv X pins σ (upd H' a (DL.XcO a C d)) s1 := ⟨J2.ok, os.trans J2.os, ag, J2.base, J2.loc, J2.cell, J2.free, J2.freeC, J2.pin, J2.hok, J2.len⟩
  exact ⟨.ref a, _, J3, rfl, q a na⟩
theorem xv_inst {X : Cx} {pins : List (Addr × Obj)} {σ : L2.St} {H : Hp} {s : Shared} {a C : Addr} {d : Option Addr} (I : L2.Inv X pins σ H s) (ha : H a = some (DL.XcO a C d)) (hd : DL.DictAt d H) : ∃ oe od, PySem.W.InstAt s.heap a oe C od := by
  obtain ⟨⟨oe, h1, h2, h3, vs, h4⟩, _⟩ := (show ObjOk X.prog X.w H s.heap a (DL.XcO a C d) from I.hok a _ ha)
  rcases hd with rfl | ⟨dd, fs, rfl, hdd⟩
  · refine ⟨oe, none, h1, h2, by unfold PySem.W.notCls; rw [h4] <;> rfl, ?_⟩
    rw [h3]
    trivial
  · have hx : ObjOk X.prog X.w H s.heap dd (.xd fs) := I.hok dd _ hdd
    obtain ⟨mA, hns, hr⟩ := hx
    obtain ⟨od, ho, hl⟩ := lookIn_ns hns
    exact ⟨oe, some od, h1, h2, by unfold PySem.W.notCls; rw [h4] <;> rfl, by rw [h3]; exact ho⟩
/-- e.f, e an exception -/
def tXvF (K : PySem.W.Frag) (n : Str) (t : TE) : TE := fun σ H Q => t σ H fun v H1 => ∃ (a C dd : Addr) (fs : List (Str × V)) (y : V), v = .ref a ∧ H1 a = some (DL.XcO a C (some dd)) ∧ H1 dd = some (.xd fs) ∧ XfC K C ∧ PySem.W.findIn K (.ref C) n = some none ∧ fs.lookup n = some y ∧ Q y H1
theorem pe_xvf {X : Cx} {e : Expr} {n : Str} {t : TE} {pos : Pos} (he : PE X e t) (hb : attributeBase e n X.env (eval e X.env) = eval e X.env := by rfl) : PE X (.Attribute e n pos) (tXvF X.K n t) := by
  refine ⟨fun pins s σ H Q I h => ?_⟩
  refine attr_of hb (thn (he.run pins s σ H _ I h) fun u s1 hu => ?_)
  obtain ⟨v, H', I1, r, a, C, dd, fs, y, rfl, ha, ea, T, hno, l, q⟩ := hu
  cases (show u = Value.ref a from r)
  obtain ⟨⟨oe, h1, h2, h3, vs, h4⟩, _⟩ := (show ObjOk X.prog X.w H' s1.heap a (DL.XcO a C (some dd)) from I1.hok a _ ha)
  have hx : ObjOk X.prog X.w H' s1.heap dd (.xd fs) := I1.hok dd _ ea
  obtain ⟨mA, hns, hr⟩ := hx
  obtain ⟨od, ho, hl⟩ := lookIn_ns hns
  obtain ⟨u, hu, ru⟩ := RelO.some_of (v := y) (o := mA n) (by rw [← l]; exact hr n)
  have J2 : PySem.W.InstAt s1.heap a oe C (some od) := ⟨h1, h2, by unfold PySem.W.notCls; rw [h4] <;> rfl, by rw [h3]; exact ho⟩
  exact HandSPX.exc_get I1.kIn J2 T.ga T.gg T.exC (PySem.W.findObj_own T.hdC hno rfl (by rw [hl, hu])) (handed_of ru) ⟨y, H', I1.tok _, ru, q⟩
/-- isinstance(e, C), e an exception -/
def rIsXV (K : PySem.W.Frag) : List V → Hp → VK → Prop := fun xs H Q => ∃ (a C : Addr) (d : Option Addr) (c : V) (cv : Value) (b : Bool), xs = [.ref a, c] ∧ H a = some (DL.XcO a C d) ∧ ExcC K C ∧ DL.DictAt d H ∧ ClsV c cv ∧ PySem.W.kitOne K (.ref C) cv = some b ∧ Q (.bl b) H
theorem call_isXV {X : Cx} : CallR X (.builtin "isinstance") (rIsXV X.K) := by
  intro pins s σ H xs us Q I r h
  obtain ⟨a, C, d, c, cv, b, rfl, ha, E, hd, k, hk, q⟩ := h
  obtain ⟨u1, u2, rfl, r1, r2⟩ := vals2 r
  cases (show u1 = Value.ref a from r1)
  have e2 := k.eq r2
  subst e2
  obtain ⟨oe, od, J⟩ := xv_inst I ha hd
  have hcl : (PySem.W.clsIn X.K C).isSome = true := by
    obtain ⟨cd, hc, _⟩ := PySem.W.any_some E.hd
    rw [hc]
    rfl
  exact PySem.W.kia_one (PySem.W.kitx_exc hcl E.hg E.hk E.hs E.ha E.hn E.ht E.hm) I.kIn J hk (fun z => nomatch z) fun tk => ⟨.bl b, H, I.kept (t' := tk) fun _ _ z => z, rfl, q⟩
end DLG
namespace DL
open PySem PySem.Spec PyProof.Rows L2 DLG
section
variable {K : PySem.W.Frag} {z : Av} {As : List (List Addr)} {W : WS} {H : Hp}
/-- a new exception joins the world -/
theorem xo_new {a C : Addr} {d : Option Addr} {ks : List Str} {vs : List V} {ds : List Sv} (wl : Wld K z As W H) (ha : H a = none) (hd : (d = none ∧ ks.zip vs = []) ∨ ∃ dd, d = some dd ∧ ¬ bad z As dd ∧ H dd = some (.xd (ks.zip vs))) (hv : HasVL K z As H vs ds) (hn : ks.length = ds.length) :
    Wld K z (As ++ [[a]]) (W ++ [.xo C ks ds]) (upd H a (XcO a C d)) ∧ HasV K z (As ++ [[a]]) (upd H a (XcO a C d)) (.ref a) (.box W.length) := by
  have nz : ¬ z a := fun f => wl.zok.trk a f ha
  have w2 := zk1 (o := XcO a C d) wl ha
  have mv : Mv (bad z As) H (bad (z1 z a) As) (upd H a (XcO a C d)) := fun b u hb n => by
    have ne := ne_of_none hb ha
    refine ⟨by rw [upd_ne ne]; exact hb, fun q => ?_⟩
    rcases q with q | q | q
    · exact n (.inl q)
    · exact n (.inr q)
    · exact ne q
  have hvl : ∀ {vs : List V} {xs : List Sv}, HasVL K z As H vs xs → HasVL K (z1 z a) As (upd H a (XcO a C d)) vs xs := fun {vs xs} h => by
    induction h with
    | nil => exact .nil
    | cons h t ih =>
      refine .cons ?_ ih
      cases h with
      | d h => exact .d (h.mv mv)
      | box h => exact .box h
  refine ⟨w2.toBoxO nz (by rw [upd_same]; exact fun x => by cases x) ⟨a, vs, rfl, ⟨d, upd_same, ?_⟩, (hvl hv).toBox, hn⟩, .box (l := []) ?_⟩
  · rcases hd with h | ⟨dd, e, n, h⟩
    · exact .inl h
    · have ne := ne_of_none h ha
      exact .inr ⟨dd, e, fun q => (mv dd _ h n).2 (bad_app.mp q), (mv dd _ h n).1⟩
  · rw [← wl.len]
    exact List.getElem?_concat_length ..
end
/-- C(..) as a thing, its fields data -/
abbrev wMkV (wm : WMk) : WE := fun σd W Φ => wm σd W fun C ks ds W1 => Φ (.box W1.length) (W1 ++ [.xo C ks (ds.map Sv.d)])
theorem d_mkV {X : Cx} {e : Expr} {t : TMk} {w : WMk} (he : PDM X e t w) : PD X e (tMkV t) (wMkV w) := by
  refine ⟨pe_mkV he.pm, ?_⟩
  intro z O As σd W σ H Φ Q r g q
  refine he.ok _ _ r g fun C d ks ds As1 W1 H1 e1 wl hx p => ?_
  refine ⟨C, rfl, fun a ha => ?_⟩
  have h0 : H a = none := up_none e1 ha
  have en : Ext As1 H1 As1 (upd H1 a (XcO a C d)) := Ext.new ha
  obtain ⟨vs, hd, hv, hn⟩ : ∃ vs : List V, ((d = none ∧ ks.zip vs = []) ∨ ∃ dd, d = some dd ∧ ¬ bad (zo z (owOf O)) As1 dd ∧ H1 dd = some (.xd (ks.zip vs))) ∧ HasL X.K (bad (zo z (owOf O)) As1) H1 vs ds ∧ ks.length = ds.length := by
    cases hx 0 with
    | exc0 => exact ⟨[], .inl ⟨rfl, rfl⟩, .nil, rfl⟩
    | exc n s hl e2 => exact ⟨_, .inr ⟨_, rfl, n, s⟩, hl, e2⟩
  obtain ⟨w3, hb⟩ := xo_new (C := C) wl ha hd (HasVL.ofL hv) (by rw [List.length_map]; exact hn)
  exact q (.ref a) _ (.box W1.length) (As1 ++ [[a]]) _ (Ext.toBox (e1.trans en) h0) w3 hb p
/-- e.f -/
abbrev wXvF (K : PySem.W.Frag) (n : Str) (we : WE) : WE := fun σd W Φ => we σd W fun x W1 => match x with
  | .box j => (match W1[j]? with
    | some (.xo C ks ds) => XfC K C ∧ PySem.W.findIn K (.ref C) n = some none ∧ ∃ y, (ks.zip ds).lookup n = some y ∧ Φ y W1
    | _ => False)
  | _ => False
theorem zip_findV {K : PySem.W.Frag} {z : Av} {As : List (List Addr)} {H : Hp} {n : Str} {y : Sv} : ∀ {ks : List Str} {vs : List V} {ds : List Sv}, HasVL K z As H vs ds → (ks.zip ds).lookup n = some y → ∃ u, (ks.zip vs).lookup n = some u ∧ HasV K z As H u y
  | [], _, _, _, e => by rw [List.zip_nil_left] at e; cases e
  | _ :: _, _, _, .nil, e => by rw [List.zip_nil_right] at e; cases e
  | k :: ks, _, _, .cons (v := v) (x := x) h t, e => by
    rw [List.zip_cons_cons, List.lookup_cons] at e ⊢
    by_cases q : n = k
    · subst q
      rw [beq_self_eq_true] at e ⊢
      cases e
      exact ⟨v, rfl, h⟩
    · rw [beq_eq_false_iff_ne.mpr q] at e ⊢
      exact zip_findV t e
theorem d_xvf {X : Cx} {e : Expr} {n : Str} {te : TE} {we : WE} {pos : Pos} (he : PD X e te we) (hb : attributeBase e n X.env (eval e X.env) = eval e X.env := by rfl) : PD X (.Attribute e n pos) (tXvF X.K n te) (wXvF X.K n we) := by
  refine ⟨pe_xvf he.pe hb, ?_⟩
  intro z O As σd W σ H Φ Q r g q
  refine he.ok _ _ r g fun v H1 x As1 W1 e1 wl hv p => ?_
  split at p
  · rename_i j
    split at p
    · rename_i C ks ds hw
      obtain ⟨T, hno, y, l, p⟩ := p
      cases hv with
      | box hj =>
        obtain ⟨a, vs, ea, ⟨d, ha, hd⟩, hvl, hn⟩ := wl.rep j _ _ hj hw
        obtain ⟨rfl, rfl⟩ := List.cons.inj ea
        obtain ⟨u, g1, g2⟩ := zip_findV hvl l
        rcases hd with ⟨_, h0⟩ | ⟨dd, rfl, _, hdd⟩
        · rw [h0] at g1
          cases g1
        · exact ⟨_, C, dd, _, u, rfl, ha, hdd, T, hno, g1, q u H1 y As1 W1 e1 wl g2 p⟩
    · exact p.elim
  · exact p.elim
/-- isinstance(e, C) -/
abbrev wIsXV (K : PySem.W.Frag) (cv : Value) (we : WE) : WE := fun σd W Φ => we σd W fun x W1 => match x with
  | .box j => (match W1[j]? with
    | some (.xo C _ _) => ExcC K C ∧ ∃ b, PySem.W.kitOne K (.ref C) cv = some b ∧ Φ (.d (.bl b)) W1
    | _ => False)
  | _ => False
theorem d_isXV {X : Cx} {e ec : Expr} {te : TE} {we : WE} {c : V} {cv : Value} {p pos : Pos} (hg : Gl X "isinstance") (hm : X.mg "isinstance" = none) (k : ClsV c cv) (he : PD X e te we) (hc : PE X ec (tC c))
    (hs : starEach [e, ec] X.env = (false, eval e X.env) :: starEach [ec] X.env := by rfl) (hs2 : starEach [ec] X.env = (false, eval ec X.env) :: starEach [] X.env := by rfl) (hpl : (backTo pos (starEach [ec] X.env)).any (·.1) = false := by rfl) :
    PD X (.Call (.Name "isinstance" p) [e, ec] [] pos) (tCB (rIsXV X.K) (tCons te (tCons (tC c) tNil))) (wIsXV X.K cv we) := by
  refine ⟨pe_callB call_isXV hg hm (by decide +kernel) (pa_cons he.pe (pa_cons hc pa_nil hs2) hs) (by decide) (by decide) hs hpl, ?_⟩
  intro z O As σd W σ H Φ Q r g q
  refine he.ok _ _ r g fun v H1 x As1 W1 e1 wl hv p => ?_
  split at p
  · rename_i j
    split at p
    · rename_i C ks ds hw
      obtain ⟨E, b, hk, p⟩ := p
      cases hv with
      | box hj =>
        obtain ⟨a, vs, ea, ⟨d, ha, hd⟩, hvl, hn⟩ := wl.rep j _ _ hj hw
        obtain ⟨rfl, rfl⟩ := List.cons.inj ea
        have hdA : DictAt d H1 := by
          rcases hd with ⟨h, _⟩ | ⟨dd, h, _, hdd⟩
          · exact .inl h
          · exact .inr ⟨dd, _, h, hdd⟩
        exact ⟨_, C, d, c, cv, b, rfl, ha, E, hdA, k, hk, q (.bl b) H1 _ As1 W1 e1 wl (.d (.bl b)) p⟩
    · exact p.elim
  · exact p.elim
/-- C(f = e), e any thing -/
theorem d_mkKV {X : Cx} {x : Str} {p pos : Pos} {C fI : Addr} {k : Nat} {fd : FuncData} {f y : Str} {kws : List Keyword} {tk : TA} {wa : WA} (T : OexC X.K C) (iC : PySem.W.findIn X.K (.ref C) "__init__" = some (some (.ref fI))) (tI : PySem.W.typeIn X.K (.ref fI) = some (.type "function"))
    (F1 : FnOk X.prog X.w X.K X.mg X.base CX0 k fI fd ["self", y] (SX.spS1 C f)) (hr : Room (k + 1) X.A) (hb : KBn X.K fd ["self", y] 1 [y] (fun a b => a ++ b) (fun a b => a ++ b)) (hg : Gl X x) (hm : X.mg x = some (.ref C)) (hk : PKD X kws tk wa)
    (hall : (backToKw pos (keywordEach kws X.env)).all (·.1.isSome) = true := by rfl) (hks : (backToKw pos (keywordEach kws X.env)).filterMap (·.1) = [y] := by rfl) (hdb : (x == ("__debug__" : Str)) = false := by decide)
    (hpl : ((backTo pos (starEach [] X.env)).any (·.1) || (backToKw pos (keywordEach kws X.env)).any (·.1.isNone)) = false := by rfl) :
    PD X (.Call (.Name x p) [] kws pos) (tMkV (tMkK C 1 (SX.spS1 C f) (fun a b => a ++ b) tk)) (fun σd W Φ => wa σd W fun xs W' => match xs with | [v] => Φ (.box W'.length) (W' ++ [.xo C [f] [v]]) | _ => False) := by
  refine ⟨pe_mkV (pmk_oexK T iC tI F1 hr hb pass0 hg hm hk.pk hall hks hdb hpl), ?_⟩
  intro z O As σd W σ H Φ Q r g q
  refine hk.ok _ _ r g fun vs H1 xs As1 W1 ex wl hv p => ?_
  split at p
  · rename_i dv
    cases hv with
    | cons hv hn =>
      rename_i v vs
      cases hn
      refine ⟨rfl, fun a ha => ⟨a, v, rfl, upd_same, fun dx hdx ne => ⟨rfl, dx, [(f, v)], upd_same, ?_, ?_, ?_⟩⟩⟩
      · rw [upd_ne ne, upd_same]
      · rw [upd_ne ne] at hdx
        exact hdx
      · have hd1 : H1 dx = none := by rw [upd_ne ne] at hdx; exact hdx
        have eH : upd (del (upd (upd (upd H1 a (exo a C none)) dx (exd dx [(f, v)])) a (exo a C (some dx))) a) dx (.xd [(f, v)]) = upd H1 dx (.xd [(f, v)]) := by
          funext b
          by_cases h1 : b = dx
          · rw [h1, upd_same, upd_same]
          · rw [upd_ne h1, upd_ne h1]
            by_cases h2 : b = a
            · rw [h2, del_same, ha]
            · rw [del_ne h2, upd_ne h2, upd_ne h1, upd_ne h2]
        rw [eH]
        refine ⟨C, rfl, fun a' ha' => ?_⟩
        have en : Ext As1 H1 As1 (upd H1 dx (.xd [(f, v)])) := Ext.new hd1
        have wl2 := wl.new (o := .xd [(f, v)]) hd1
        have h0 : H a' = none := up_none (ex.trans en) ha'
        obtain ⟨w3, hb⟩ := xo_new (C := C) (d := some dx) (ks := [f]) (vs := [v]) (ds := [dv]) wl2 ha' (.inr ⟨dx, rfl, wl.fresh hd1, upd_same⟩) (.cons (hv.ext en) .nil) rfl
        exact q (.ref a') _ (.box W1.length) (As1 ++ [[a']]) _ (Ext.toBox (ex.trans (en.trans (Ext.new ha'))) h0) w3 hb p
  · exact p.elim
/-- a != b, both lists that are things -/
abbrev wNeBB (wa wb : WE) : WE := fun σd W Φ => wa σd W fun x W1 => wb σd W1 fun y W2 => match x, y with
  | .box i, .box j => ∃ (xs ys : List Dv) (p q : PyData), W2[i]? = some (.lst (xs.map Sv.d)) ∧ W2[j]? = some (.lst (ys.map Sv.d)) ∧ pyD (.lst xs) = some p ∧ pyD (.lst ys) = some q ∧ SeqAt.shaped p = true ∧ SeqAt.shaped q = true ∧ Φ (.d (.bl (!PyData.eqv p q))) W2
  | _, _ => False
theorem teo_neBB {K : PySem.W.Frag} {ta tb : TE} {wa wb : WE} (ha : TEok K ta wa) (hb : TEok K tb wb) : TEok K (tOp (rNeD K) ta tb) (wNeBB wa wb) := by
  intro z O As σd W σ H Φ Q r g q
  refine ha _ _ r g fun v1 H1 x As1 W1 e1 wl1 hv1 p => ?_
  refine hb _ _ (r.ext e1 wl1) p fun v2 H2 y As2 W2 e2 wl2 hv2 p => ?_
  split at p
  · rename_i i j
    obtain ⟨xs, ys, pp, qq, w1, w2, d1, d2, s1, s2, p⟩ := p
    have has : ∀ {i : Nat} {a : Addr} {l : List Addr} {xs : List Dv}, As2[i]? = some (a :: l) → W2[i]? = some (.lst (xs.map Sv.d)) → Has K (fun b => bad (zo z (owOf O)) As2 b ∧ b ≠ a) H2 (.ref a) (.lst xs) := fun {i a l xs} h1 h2 => by
      obtain ⟨a', vs, e, h3, h4⟩ := wl2.rep i _ _ h1 h2
      obtain ⟨rfl, rfl⟩ := List.cons.inj e
      exact .lst (.inl ⟨fun q => q.2 rfl, .inl h3⟩) ((HasVL.toL h4).mv (Mv.weak fun b q => q.1))
    cases hv1 with
    | box h1 =>
      cases hv2 with
      | box h2 =>
        exact ⟨pp, qq, (has (e2.at_ _ _ h1) w1).dp d1, (has h2 w2).dp d2, s1, s2, q (.bl _) H2 _ As2 W2 (e1.trans e2) wl2 (.d (.bl _)) p⟩
  · exact p.elim
theorem t_neBB {X : Cx} {a b : Expr} {ta tb : TE} {wa wb : WE} {pos : Pos} (hu : X.A.units + 64 < cLine) (ha : PD X a ta wa) (hb : PD X b tb wb) (hm : behindInMarks .NotEq b = false) : PTD X (.Compare a [.NotEq] [b] pos) (tTest (tOp (rNeD X.K) ta tb)) (wB (wNeBB wa wb)) := ⟨pt_cmpR (op_neD hu) ha.pe hb.pe hm, tto_test (teo_neBB ha.ok hb.ok)⟩
end DL

namespace My
open PySem L2 DL TL
def top (i : Nat) : Stmt := PySem.Challenge.pw_frostmarks_k01_errors_and_what_they_keep.main.body.getD i (.Pass ⟨0, 0, 0, 0⟩)
abbrev s__law_deal : Stmt := (top 12)
abbrev s__law_draw : Stmt := (top 13)
abbrev s__law_pick : Stmt := (top 14)
abbrev s__law_thing : Stmt := (top 16)
abbrev s__law_error : Stmt := (top 17)
abbrev s__law_by_name : Stmt := (top 18)
abbrev s__law_sorts : Stmt := (top 19)
abbrev s_law : Stmt := (top 20)
abbrev s_InvalidKeeper : Stmt := (inClass (top 3) 0)
abbrev s_InvalidLoad : Stmt := (inClass (top 4) 0)
abbrev s_InvalidZone : Stmt := (inClass (top 5) 0)
abbrev s_InvalidText : Stmt := (inClass (top 6) 0)
abbrev s_InvalidEvent : Stmt := (inClass (top 7) 0)
abbrev s_Refused : Stmt := (inClass (top 10) 0)
abbrev s_InvalidRing : Stmt := (inClass (top 2) 0)
abbrev s_InvalidHarm : Stmt := (inClass (top 8) 0)
abbrev s_InvalidCommand : Stmt := (inClass (top 9) 0)
abbrev P : Program := PySem.Challenge.pw_frostmarks_k01_errors_and_what_they_keep
structure TT (K : PySem.W.Frag) (mg : Str → Option Value) where
  b_int : mg "int" = none
  b_bool : mg "bool" = none
  b_str : mg "str" = none
  b_isinstance : mg "isinstance" = none
  b_abs : mg "abs" = none
  b_max : mg "max" = none
  b_min : mg "min" = none
  b_len : mg "len" = none
  b_range : mg "range" = none
  b_list : mg "list" = none
  b_repr : mg "repr" = none
  b_tuple : mg "tuple" = none
  b_enumerate : mg "enumerate" = none
  b_ValueError : mg "ValueError" = none
  f__law_deal : Addr
  fd__law_deal : FuncData
  F__law_deal : Fun K "_law_deal" "_law_deal" s__law_deal f__law_deal fd__law_deal
  m__law_deal : mg "_law_deal" = some (.ref f__law_deal)
  f__law_draw : Addr
  fd__law_draw : FuncData
  F__law_draw : Fun K "_law_draw" "_law_draw" s__law_draw f__law_draw fd__law_draw
  m__law_draw : mg "_law_draw" = some (.ref f__law_draw)
  f__law_pick : Addr
  fd__law_pick : FuncData
  F__law_pick : Fun K "_law_pick" "_law_pick" s__law_pick f__law_pick fd__law_pick
  m__law_pick : mg "_law_pick" = some (.ref f__law_pick)
  f__law_thing : Addr
  fd__law_thing : FuncData
  F__law_thing : Fun K "_law_thing" "_law_thing" s__law_thing f__law_thing fd__law_thing
  m__law_thing : mg "_law_thing" = some (.ref f__law_thing)
  f__law_error : Addr
  fd__law_error : FuncData
  F__law_error : Fun K "_law_error" "_law_error" s__law_error f__law_error fd__law_error
  m__law_error : mg "_law_error" = some (.ref f__law_error)
  f__law_by_name : Addr
  fd__law_by_name : FuncData
  F__law_by_name : Fun K "_law_by_name" "_law_by_name" s__law_by_name f__law_by_name fd__law_by_name
  m__law_by_name : mg "_law_by_name" = some (.ref f__law_by_name)
  f__law_sorts : Addr
  fd__law_sorts : FuncData
  F__law_sorts : Fun K "_law_sorts" "_law_sorts" s__law_sorts f__law_sorts fd__law_sorts
  m__law_sorts : mg "_law_sorts" = some (.ref f__law_sorts)
  f_law : Addr
  fd_law : FuncData
  F_law : Fun K "law" "law" s_law f_law fd_law
  m_law : mg "law" = some (.ref f_law)
  c_FrostError : Addr
  m_FrostError : mg "FrostError" = some (.ref c_FrostError)
  c_InvalidKeeper : Addr
  m_InvalidKeeper : mg "InvalidKeeper" = some (.ref c_InvalidKeeper)
  ox_InvalidKeeper : OexC K c_InvalidKeeper
  xc_InvalidKeeper : ExcC K c_InvalidKeeper
  fi_InvalidKeeper : Addr
  fdi_InvalidKeeper : FuncData
  ii_InvalidKeeper : PySem.W.findIn K (.ref c_InvalidKeeper) "__init__" = some (some (.ref fi_InvalidKeeper))
  ti_InvalidKeeper : PySem.W.typeIn K (.ref fi_InvalidKeeper) = some (.type "function")
  xb_InvalidKeeper : Binds K fdi_InvalidKeeper ["self", "word"] []
  xi_InvalidKeeper : ∀ (w : World) (base : Heap), FnOk P w K mg base CX0 1 fi_InvalidKeeper fdi_InvalidKeeper ["self", "word"] (SX.spS1 c_InvalidKeeper "word")
  xm_InvalidKeeper : PySem.W.exmOne K (.ref c_InvalidKeeper) (.ref c_FrostError) = some true
  ki_InvalidKeeper_ValueError : PySem.W.kitOne K (.ref c_InvalidKeeper) (.type "ValueError") = some true
  xk_InvalidKeeper : KBn K fdi_InvalidKeeper ["self", "word"] 1 ["word"] (fun a b => a ++ b) (fun a b => a ++ b)
  xf_InvalidKeeper : XfC K c_InvalidKeeper
  nf_InvalidKeeper : PySem.W.findIn K (.ref c_InvalidKeeper) "word" = some none
  c_InvalidLoad : Addr
  m_InvalidLoad : mg "InvalidLoad" = some (.ref c_InvalidLoad)
  ox_InvalidLoad : OexC K c_InvalidLoad
  xc_InvalidLoad : ExcC K c_InvalidLoad
  fi_InvalidLoad : Addr
  fdi_InvalidLoad : FuncData
  ii_InvalidLoad : PySem.W.findIn K (.ref c_InvalidLoad) "__init__" = some (some (.ref fi_InvalidLoad))
  ti_InvalidLoad : PySem.W.typeIn K (.ref fi_InvalidLoad) = some (.type "function")
  xb_InvalidLoad : Binds K fdi_InvalidLoad ["self", "word"] []
  xi_InvalidLoad : ∀ (w : World) (base : Heap), FnOk P w K mg base CX0 1 fi_InvalidLoad fdi_InvalidLoad ["self", "word"] (SX.spS1 c_InvalidLoad "word")
  xm_InvalidLoad : PySem.W.exmOne K (.ref c_InvalidLoad) (.ref c_FrostError) = some true
  ki_InvalidLoad_ValueError : PySem.W.kitOne K (.ref c_InvalidLoad) (.type "ValueError") = some true
  xk_InvalidLoad : KBn K fdi_InvalidLoad ["self", "word"] 1 ["word"] (fun a b => a ++ b) (fun a b => a ++ b)
  xf_InvalidLoad : XfC K c_InvalidLoad
  nf_InvalidLoad : PySem.W.findIn K (.ref c_InvalidLoad) "word" = some none
  c_InvalidZone : Addr
  m_InvalidZone : mg "InvalidZone" = some (.ref c_InvalidZone)
  ox_InvalidZone : OexC K c_InvalidZone
  xc_InvalidZone : ExcC K c_InvalidZone
  fi_InvalidZone : Addr
  fdi_InvalidZone : FuncData
  ii_InvalidZone : PySem.W.findIn K (.ref c_InvalidZone) "__init__" = some (some (.ref fi_InvalidZone))
  ti_InvalidZone : PySem.W.typeIn K (.ref fi_InvalidZone) = some (.type "function")
  xb_InvalidZone : Binds K fdi_InvalidZone ["self", "word"] []
  xi_InvalidZone : ∀ (w : World) (base : Heap), FnOk P w K mg base CX0 1 fi_InvalidZone fdi_InvalidZone ["self", "word"] (SX.spS1 c_InvalidZone "word")
  xm_InvalidZone : PySem.W.exmOne K (.ref c_InvalidZone) (.ref c_FrostError) = some true
  ki_InvalidZone_ValueError : PySem.W.kitOne K (.ref c_InvalidZone) (.type "ValueError") = some true
  xk_InvalidZone : KBn K fdi_InvalidZone ["self", "word"] 1 ["word"] (fun a b => a ++ b) (fun a b => a ++ b)
  xf_InvalidZone : XfC K c_InvalidZone
  nf_InvalidZone : PySem.W.findIn K (.ref c_InvalidZone) "word" = some none
  c_InvalidText : Addr
  m_InvalidText : mg "InvalidText" = some (.ref c_InvalidText)
  ox_InvalidText : OexC K c_InvalidText
  xc_InvalidText : ExcC K c_InvalidText
  fi_InvalidText : Addr
  fdi_InvalidText : FuncData
  ii_InvalidText : PySem.W.findIn K (.ref c_InvalidText) "__init__" = some (some (.ref fi_InvalidText))
  ti_InvalidText : PySem.W.typeIn K (.ref fi_InvalidText) = some (.type "function")
  xb_InvalidText : Binds K fdi_InvalidText ["self", "at"] []
  xi_InvalidText : ∀ (w : World) (base : Heap), FnOk P w K mg base CX0 1 fi_InvalidText fdi_InvalidText ["self", "at"] (SX.spS1 c_InvalidText "at")
  xm_InvalidText : PySem.W.exmOne K (.ref c_InvalidText) (.ref c_FrostError) = some true
  ki_InvalidText_ValueError : PySem.W.kitOne K (.ref c_InvalidText) (.type "ValueError") = some true
  xk_InvalidText : KBn K fdi_InvalidText ["self", "at"] 1 ["at"] (fun a b => a ++ b) (fun a b => a ++ b)
  xf_InvalidText : XfC K c_InvalidText
  nf_InvalidText : PySem.W.findIn K (.ref c_InvalidText) "at" = some none
  c_InvalidEvent : Addr
  m_InvalidEvent : mg "InvalidEvent" = some (.ref c_InvalidEvent)
  ox_InvalidEvent : OexC K c_InvalidEvent
  xc_InvalidEvent : ExcC K c_InvalidEvent
  fi_InvalidEvent : Addr
  fdi_InvalidEvent : FuncData
  ii_InvalidEvent : PySem.W.findIn K (.ref c_InvalidEvent) "__init__" = some (some (.ref fi_InvalidEvent))
  ti_InvalidEvent : PySem.W.typeIn K (.ref fi_InvalidEvent) = some (.type "function")
  xb_InvalidEvent : Binds K fdi_InvalidEvent ["self", "at"] []
  xi_InvalidEvent : ∀ (w : World) (base : Heap), FnOk P w K mg base CX0 1 fi_InvalidEvent fdi_InvalidEvent ["self", "at"] (SX.spS1 c_InvalidEvent "at")
  xm_InvalidEvent : PySem.W.exmOne K (.ref c_InvalidEvent) (.ref c_FrostError) = some true
  ki_InvalidEvent_ValueError : PySem.W.kitOne K (.ref c_InvalidEvent) (.type "ValueError") = some true
  xk_InvalidEvent : KBn K fdi_InvalidEvent ["self", "at"] 1 ["at"] (fun a b => a ++ b) (fun a b => a ++ b)
  xf_InvalidEvent : XfC K c_InvalidEvent
  nf_InvalidEvent : PySem.W.findIn K (.ref c_InvalidEvent) "at" = some none
  c_Refused : Addr
  m_Refused : mg "Refused" = some (.ref c_Refused)
  ox_Refused : OexC K c_Refused
  xc_Refused : ExcC K c_Refused
  fi_Refused : Addr
  fdi_Refused : FuncData
  ii_Refused : PySem.W.findIn K (.ref c_Refused) "__init__" = some (some (.ref fi_Refused))
  ti_Refused : PySem.W.typeIn K (.ref fi_Refused) = some (.type "function")
  xb_Refused : Binds K fdi_Refused ["self", "at"] []
  xi_Refused : ∀ (w : World) (base : Heap), FnOk P w K mg base CX0 1 fi_Refused fdi_Refused ["self", "at"] (SX.spS1 c_Refused "at")
  xm_Refused : PySem.W.exmOne K (.ref c_Refused) (.ref c_FrostError) = some true
  ki_Refused_ValueError : PySem.W.kitOne K (.ref c_Refused) (.type "ValueError") = some true
  xk_Refused : KBn K fdi_Refused ["self", "at"] 1 ["at"] (fun a b => a ++ b) (fun a b => a ++ b)
  xf_Refused : XfC K c_Refused
  nf_Refused : PySem.W.findIn K (.ref c_Refused) "at" = some none
  c_InvalidRing : Addr
  m_InvalidRing : mg "InvalidRing" = some (.ref c_InvalidRing)
  ox_InvalidRing : OexC K c_InvalidRing
  xc_InvalidRing : ExcC K c_InvalidRing
  fi_InvalidRing : Addr
  fdi_InvalidRing : FuncData
  ii_InvalidRing : PySem.W.findIn K (.ref c_InvalidRing) "__init__" = some (some (.ref fi_InvalidRing))
  ti_InvalidRing : PySem.W.typeIn K (.ref fi_InvalidRing) = some (.type "function")
  xb_InvalidRing : Binds K fdi_InvalidRing ["self"] []
  xi_InvalidRing : ∀ (w : World) (base : Heap), FnOk P w K mg base CX0 1 fi_InvalidRing fdi_InvalidRing ["self"] (SX.spS0 c_InvalidRing)
  xm_InvalidRing : PySem.W.exmOne K (.ref c_InvalidRing) (.ref c_FrostError) = some true
  ki_InvalidRing_ValueError : PySem.W.kitOne K (.ref c_InvalidRing) (.type "ValueError") = some true
  c_InvalidHarm : Addr
  m_InvalidHarm : mg "InvalidHarm" = some (.ref c_InvalidHarm)
  ox_InvalidHarm : OexC K c_InvalidHarm
  xc_InvalidHarm : ExcC K c_InvalidHarm
  fi_InvalidHarm : Addr
  fdi_InvalidHarm : FuncData
  ii_InvalidHarm : PySem.W.findIn K (.ref c_InvalidHarm) "__init__" = some (some (.ref fi_InvalidHarm))
  ti_InvalidHarm : PySem.W.typeIn K (.ref fi_InvalidHarm) = some (.type "function")
  xb_InvalidHarm : Binds K fdi_InvalidHarm ["self"] []
  xi_InvalidHarm : ∀ (w : World) (base : Heap), FnOk P w K mg base CX0 1 fi_InvalidHarm fdi_InvalidHarm ["self"] (SX.spS0 c_InvalidHarm)
  xm_InvalidHarm : PySem.W.exmOne K (.ref c_InvalidHarm) (.ref c_FrostError) = some true
  ki_InvalidHarm_ValueError : PySem.W.kitOne K (.ref c_InvalidHarm) (.type "ValueError") = some true
  c_InvalidCommand : Addr
  m_InvalidCommand : mg "InvalidCommand" = some (.ref c_InvalidCommand)
  ox_InvalidCommand : OexC K c_InvalidCommand
  xc_InvalidCommand : ExcC K c_InvalidCommand
  fi_InvalidCommand : Addr
  fdi_InvalidCommand : FuncData
  ii_InvalidCommand : PySem.W.findIn K (.ref c_InvalidCommand) "__init__" = some (some (.ref fi_InvalidCommand))
  ti_InvalidCommand : PySem.W.typeIn K (.ref fi_InvalidCommand) = some (.type "function")
  xb_InvalidCommand : Binds K fdi_InvalidCommand ["self"] []
  xi_InvalidCommand : ∀ (w : World) (base : Heap), FnOk P w K mg base CX0 1 fi_InvalidCommand fdi_InvalidCommand ["self"] (SX.spS0 c_InvalidCommand)
  xm_InvalidCommand : PySem.W.exmOne K (.ref c_InvalidCommand) (.ref c_FrostError) = some true
  ki_InvalidCommand_ValueError : PySem.W.kitOne K (.ref c_InvalidCommand) (.type "ValueError") = some true
  kx_InvalidKeeper_InvalidKeeper : PySem.W.kitOne K (.ref c_InvalidKeeper) (.ref c_InvalidKeeper) = some true
  kx_InvalidKeeper_InvalidLoad : PySem.W.kitOne K (.ref c_InvalidKeeper) (.ref c_InvalidLoad) = some false
  kx_InvalidKeeper_InvalidZone : PySem.W.kitOne K (.ref c_InvalidKeeper) (.ref c_InvalidZone) = some false
  kx_InvalidKeeper_InvalidText : PySem.W.kitOne K (.ref c_InvalidKeeper) (.ref c_InvalidText) = some false
  kx_InvalidKeeper_InvalidEvent : PySem.W.kitOne K (.ref c_InvalidKeeper) (.ref c_InvalidEvent) = some false
  kx_InvalidKeeper_Refused : PySem.W.kitOne K (.ref c_InvalidKeeper) (.ref c_Refused) = some false
  kx_InvalidKeeper_InvalidRing : PySem.W.kitOne K (.ref c_InvalidKeeper) (.ref c_InvalidRing) = some false
  kx_InvalidKeeper_InvalidHarm : PySem.W.kitOne K (.ref c_InvalidKeeper) (.ref c_InvalidHarm) = some false
  kx_InvalidKeeper_InvalidCommand : PySem.W.kitOne K (.ref c_InvalidKeeper) (.ref c_InvalidCommand) = some false
  kx_InvalidLoad_InvalidKeeper : PySem.W.kitOne K (.ref c_InvalidLoad) (.ref c_InvalidKeeper) = some false
  kx_InvalidLoad_InvalidLoad : PySem.W.kitOne K (.ref c_InvalidLoad) (.ref c_InvalidLoad) = some true
  kx_InvalidLoad_InvalidZone : PySem.W.kitOne K (.ref c_InvalidLoad) (.ref c_InvalidZone) = some false
  kx_InvalidLoad_InvalidText : PySem.W.kitOne K (.ref c_InvalidLoad) (.ref c_InvalidText) = some false
  kx_InvalidLoad_InvalidEvent : PySem.W.kitOne K (.ref c_InvalidLoad) (.ref c_InvalidEvent) = some false
  kx_InvalidLoad_Refused : PySem.W.kitOne K (.ref c_InvalidLoad) (.ref c_Refused) = some false
  kx_InvalidLoad_InvalidRing : PySem.W.kitOne K (.ref c_InvalidLoad) (.ref c_InvalidRing) = some false
  kx_InvalidLoad_InvalidHarm : PySem.W.kitOne K (.ref c_InvalidLoad) (.ref c_InvalidHarm) = some false
  kx_InvalidLoad_InvalidCommand : PySem.W.kitOne K (.ref c_InvalidLoad) (.ref c_InvalidCommand) = some false
  kx_InvalidZone_InvalidKeeper : PySem.W.kitOne K (.ref c_InvalidZone) (.ref c_InvalidKeeper) = some false
  kx_InvalidZone_InvalidLoad : PySem.W.kitOne K (.ref c_InvalidZone) (.ref c_InvalidLoad) = some false
  kx_InvalidZone_InvalidZone : PySem.W.kitOne K (.ref c_InvalidZone) (.ref c_InvalidZone) = some true
  kx_InvalidZone_InvalidText : PySem.W.kitOne K (.ref c_InvalidZone) (.ref c_InvalidText) = some false
  kx_InvalidZone_InvalidEvent : PySem.W.kitOne K (.ref c_InvalidZone) (.ref c_InvalidEvent) = some false
  kx_InvalidZone_Refused : PySem.W.kitOne K (.ref c_InvalidZone) (.ref c_Refused) = some false
  kx_InvalidZone_InvalidRing : PySem.W.kitOne K (.ref c_InvalidZone) (.ref c_InvalidRing) = some false
  kx_InvalidZone_InvalidHarm : PySem.W.kitOne K (.ref c_InvalidZone) (.ref c_InvalidHarm) = some false
  kx_InvalidZone_InvalidCommand : PySem.W.kitOne K (.ref c_InvalidZone) (.ref c_InvalidCommand) = some false
  kx_InvalidText_InvalidKeeper : PySem.W.kitOne K (.ref c_InvalidText) (.ref c_InvalidKeeper) = some false
  kx_InvalidText_InvalidLoad : PySem.W.kitOne K (.ref c_InvalidText) (.ref c_InvalidLoad) = some false
  kx_InvalidText_InvalidZone : PySem.W.kitOne K (.ref c_InvalidText) (.ref c_InvalidZone) = some false
  kx_InvalidText_InvalidText : PySem.W.kitOne K (.ref c_InvalidText) (.ref c_InvalidText) = some true
  kx_InvalidText_InvalidEvent : PySem.W.kitOne K (.ref c_InvalidText) (.ref c_InvalidEvent) = some false
  kx_InvalidText_Refused : PySem.W.kitOne K (.ref c_InvalidText) (.ref c_Refused) = some false
  kx_InvalidText_InvalidRing : PySem.W.kitOne K (.ref c_InvalidText) (.ref c_InvalidRing) = some false
  kx_InvalidText_InvalidHarm : PySem.W.kitOne K (.ref c_InvalidText) (.ref c_InvalidHarm) = some false
  kx_InvalidText_InvalidCommand : PySem.W.kitOne K (.ref c_InvalidText) (.ref c_InvalidCommand) = some false
  kx_InvalidEvent_InvalidKeeper : PySem.W.kitOne K (.ref c_InvalidEvent) (.ref c_InvalidKeeper) = some false
  kx_InvalidEvent_InvalidLoad : PySem.W.kitOne K (.ref c_InvalidEvent) (.ref c_InvalidLoad) = some false
  kx_InvalidEvent_InvalidZone : PySem.W.kitOne K (.ref c_InvalidEvent) (.ref c_InvalidZone) = some false
  kx_InvalidEvent_InvalidText : PySem.W.kitOne K (.ref c_InvalidEvent) (.ref c_InvalidText) = some false
  kx_InvalidEvent_InvalidEvent : PySem.W.kitOne K (.ref c_InvalidEvent) (.ref c_InvalidEvent) = some true
  kx_InvalidEvent_Refused : PySem.W.kitOne K (.ref c_InvalidEvent) (.ref c_Refused) = some false
  kx_InvalidEvent_InvalidRing : PySem.W.kitOne K (.ref c_InvalidEvent) (.ref c_InvalidRing) = some false
  kx_InvalidEvent_InvalidHarm : PySem.W.kitOne K (.ref c_InvalidEvent) (.ref c_InvalidHarm) = some false
  kx_InvalidEvent_InvalidCommand : PySem.W.kitOne K (.ref c_InvalidEvent) (.ref c_InvalidCommand) = some false
  kx_Refused_InvalidKeeper : PySem.W.kitOne K (.ref c_Refused) (.ref c_InvalidKeeper) = some false
  kx_Refused_InvalidLoad : PySem.W.kitOne K (.ref c_Refused) (.ref c_InvalidLoad) = some false
  kx_Refused_InvalidZone : PySem.W.kitOne K (.ref c_Refused) (.ref c_InvalidZone) = some false
  kx_Refused_InvalidText : PySem.W.kitOne K (.ref c_Refused) (.ref c_InvalidText) = some false
  kx_Refused_InvalidEvent : PySem.W.kitOne K (.ref c_Refused) (.ref c_InvalidEvent) = some false
  kx_Refused_Refused : PySem.W.kitOne K (.ref c_Refused) (.ref c_Refused) = some true
  kx_Refused_InvalidRing : PySem.W.kitOne K (.ref c_Refused) (.ref c_InvalidRing) = some false
  kx_Refused_InvalidHarm : PySem.W.kitOne K (.ref c_Refused) (.ref c_InvalidHarm) = some false
  kx_Refused_InvalidCommand : PySem.W.kitOne K (.ref c_Refused) (.ref c_InvalidCommand) = some false
  kx_InvalidRing_InvalidKeeper : PySem.W.kitOne K (.ref c_InvalidRing) (.ref c_InvalidKeeper) = some false
  kx_InvalidRing_InvalidLoad : PySem.W.kitOne K (.ref c_InvalidRing) (.ref c_InvalidLoad) = some false
  kx_InvalidRing_InvalidZone : PySem.W.kitOne K (.ref c_InvalidRing) (.ref c_InvalidZone) = some false
  kx_InvalidRing_InvalidText : PySem.W.kitOne K (.ref c_InvalidRing) (.ref c_InvalidText) = some false
  kx_InvalidRing_InvalidEvent : PySem.W.kitOne K (.ref c_InvalidRing) (.ref c_InvalidEvent) = some false
  kx_InvalidRing_Refused : PySem.W.kitOne K (.ref c_InvalidRing) (.ref c_Refused) = some false
  kx_InvalidRing_InvalidRing : PySem.W.kitOne K (.ref c_InvalidRing) (.ref c_InvalidRing) = some true
  kx_InvalidRing_InvalidHarm : PySem.W.kitOne K (.ref c_InvalidRing) (.ref c_InvalidHarm) = some false
  kx_InvalidRing_InvalidCommand : PySem.W.kitOne K (.ref c_InvalidRing) (.ref c_InvalidCommand) = some false
  kx_InvalidHarm_InvalidKeeper : PySem.W.kitOne K (.ref c_InvalidHarm) (.ref c_InvalidKeeper) = some false
  kx_InvalidHarm_InvalidLoad : PySem.W.kitOne K (.ref c_InvalidHarm) (.ref c_InvalidLoad) = some false
  kx_InvalidHarm_InvalidZone : PySem.W.kitOne K (.ref c_InvalidHarm) (.ref c_InvalidZone) = some false
  kx_InvalidHarm_InvalidText : PySem.W.kitOne K (.ref c_InvalidHarm) (.ref c_InvalidText) = some false
  kx_InvalidHarm_InvalidEvent : PySem.W.kitOne K (.ref c_InvalidHarm) (.ref c_InvalidEvent) = some false
  kx_InvalidHarm_Refused : PySem.W.kitOne K (.ref c_InvalidHarm) (.ref c_Refused) = some false
  kx_InvalidHarm_InvalidRing : PySem.W.kitOne K (.ref c_InvalidHarm) (.ref c_InvalidRing) = some false
  kx_InvalidHarm_InvalidHarm : PySem.W.kitOne K (.ref c_InvalidHarm) (.ref c_InvalidHarm) = some true
  kx_InvalidHarm_InvalidCommand : PySem.W.kitOne K (.ref c_InvalidHarm) (.ref c_InvalidCommand) = some false
  kx_InvalidCommand_InvalidKeeper : PySem.W.kitOne K (.ref c_InvalidCommand) (.ref c_InvalidKeeper) = some false
  kx_InvalidCommand_InvalidLoad : PySem.W.kitOne K (.ref c_InvalidCommand) (.ref c_InvalidLoad) = some false
  kx_InvalidCommand_InvalidZone : PySem.W.kitOne K (.ref c_InvalidCommand) (.ref c_InvalidZone) = some false
  kx_InvalidCommand_InvalidText : PySem.W.kitOne K (.ref c_InvalidCommand) (.ref c_InvalidText) = some false
  kx_InvalidCommand_InvalidEvent : PySem.W.kitOne K (.ref c_InvalidCommand) (.ref c_InvalidEvent) = some false
  kx_InvalidCommand_Refused : PySem.W.kitOne K (.ref c_InvalidCommand) (.ref c_Refused) = some false
  kx_InvalidCommand_InvalidRing : PySem.W.kitOne K (.ref c_InvalidCommand) (.ref c_InvalidRing) = some false
  kx_InvalidCommand_InvalidHarm : PySem.W.kitOne K (.ref c_InvalidCommand) (.ref c_InvalidHarm) = some false
  kx_InvalidCommand_InvalidCommand : PySem.W.kitOne K (.ref c_InvalidCommand) (.ref c_InvalidCommand) = some true
  kx_InvalidKeeper_FrostError : PySem.W.kitOne K (.ref c_InvalidKeeper) (.ref c_FrostError) = some true
  kx_InvalidLoad_FrostError : PySem.W.kitOne K (.ref c_InvalidLoad) (.ref c_FrostError) = some true
  kx_InvalidZone_FrostError : PySem.W.kitOne K (.ref c_InvalidZone) (.ref c_FrostError) = some true
  kx_InvalidText_FrostError : PySem.W.kitOne K (.ref c_InvalidText) (.ref c_FrostError) = some true
  kx_InvalidEvent_FrostError : PySem.W.kitOne K (.ref c_InvalidEvent) (.ref c_FrostError) = some true
  kx_Refused_FrostError : PySem.W.kitOne K (.ref c_Refused) (.ref c_FrostError) = some true
  kx_InvalidRing_FrostError : PySem.W.kitOne K (.ref c_InvalidRing) (.ref c_FrostError) = some true
  kx_InvalidHarm_FrostError : PySem.W.kitOne K (.ref c_InvalidHarm) (.ref c_FrostError) = some true
  kx_InvalidCommand_FrostError : PySem.W.kitOne K (.ref c_InvalidCommand) (.ref c_FrostError) = some true
namespace TT
variable {K : PySem.W.Frag} {mg : Str → Option Value}
theorem B__law_deal (T : TT K mg) : Binds K T.fd__law_deal ["_law_script", "_law_base"] [] := T.F__law_deal.binds (ps := ["_law_script", "_law_base"]) fun _ _ _ _ _ _ us hl => match us, hl with | [_, _], _ => rfl
theorem B__law_draw (T : TT K mg) : Binds K T.fd__law_draw ["_law_deal_here", "_law_bound"] [] := T.F__law_draw.binds (ps := ["_law_deal_here", "_law_bound"]) fun _ _ _ _ _ _ us hl => match us, hl with | [_, _], _ => rfl
theorem B__law_pick (T : TT K mg) : Binds K T.fd__law_pick ["_law_deal_here", "_law_some"] [] := T.F__law_pick.binds (ps := ["_law_deal_here", "_law_some"]) fun _ _ _ _ _ _ us hl => match us, hl with | [_, _], _ => rfl
theorem B__law_thing (T : TT K mg) : Binds K T.fd__law_thing ["_law_deal_here", "_law_deep"] [] := T.F__law_thing.binds (ps := ["_law_deal_here", "_law_deep"]) fun _ _ _ _ _ _ us hl => match us, hl with | [_, _], _ => rfl
theorem B__law_error (T : TT K mg) : Binds K T.fd__law_error ["_law_spot", "_law_thing_here"] [] := T.F__law_error.binds (ps := ["_law_spot", "_law_thing_here"]) fun _ _ _ _ _ _ us hl => match us, hl with | [_, _], _ => rfl
theorem B__law_by_name (T : TT K mg) : Binds K T.fd__law_by_name ["_law_spot", "_law_thing_here"] [] := T.F__law_by_name.binds (ps := ["_law_spot", "_law_thing_here"]) fun _ _ _ _ _ _ us hl => match us, hl with | [_, _], _ => rfl
theorem B__law_sorts (T : TT K mg) : Binds K T.fd__law_sorts ["_law_e"] [] := T.F__law_sorts.binds (ps := ["_law_e"]) fun _ _ _ _ _ _ us hl => match us, hl with | [_], _ => rfl
theorem B_law (T : TT K mg) : Binds K T.fd_law ["_law_script"] [] := T.F_law.binds (ps := ["_law_script"]) fun _ _ _ _ _ _ us hl => match us, hl with | [_], _ => rfl
end TT
theorem sc__law_deal : FnScope ["_law_script", "_law_base", "_law_stirred", "_law_cells", "_law_cell"] ["_law_script", "_law_base"] (defScope s__law_deal) := ⟨rfl, rfl, rfl, by decide +kernel, rfl, by decide +kernel, by decide +kernel⟩
theorem sc__law_draw : FnScope ["_law_deal_here", "_law_bound", "_law_left"] ["_law_deal_here", "_law_bound"] (defScope s__law_draw) := ⟨rfl, rfl, rfl, by decide +kernel, rfl, by decide +kernel, by decide +kernel⟩
theorem sc__law_pick : FnScope ["_law_deal_here", "_law_some"] ["_law_deal_here", "_law_some"] (defScope s__law_pick) := ⟨rfl, rfl, rfl, by decide +kernel, rfl, by decide +kernel, by decide +kernel⟩
theorem sc__law_thing : FnScope ["_law_deal_here", "_law_deep", "_law_some", "_law_inner", "_law_turn"] ["_law_deal_here", "_law_deep"] (defScope s__law_thing) := ⟨rfl, rfl, rfl, by decide +kernel, rfl, by decide +kernel, by decide +kernel⟩
theorem sc__law_error : FnScope ["_law_spot", "_law_thing_here"] ["_law_spot", "_law_thing_here"] (defScope s__law_error) := ⟨rfl, rfl, rfl, by decide +kernel, rfl, by decide +kernel, by decide +kernel⟩
theorem sc__law_by_name : FnScope ["_law_spot", "_law_thing_here"] ["_law_spot", "_law_thing_here"] (defScope s__law_by_name) := ⟨rfl, rfl, rfl, by decide +kernel, rfl, by decide +kernel, by decide +kernel⟩
theorem sc__law_sorts : FnScope ["_law_e", "_law_found", "_law_spot", "_law_is_so"] ["_law_e"] (defScope s__law_sorts) := ⟨rfl, rfl, rfl, by decide +kernel, rfl, by decide +kernel, by decide +kernel⟩
theorem sc_law : FnScope ["_law_script", "_law_turn", "_law_deal_here", "_law_spot", "_law_e", "_law_thing_here", "_law_loose"] ["_law_script"] (defScope s_law) := ⟨rfl, rfl, rfl, by decide +kernel, rfl, by decide +kernel, by decide +kernel⟩
def errK (i : Nat) : List Str := if i < 3 then ["word"] else if i < 6 then ["at"] else []
def errV (i : Nat) (y : Sv) : List Sv := if i < 6 then [y] else []
def wfError (cs : List Addr) : WFn := fun xs W Φ => ∃ (i : Nat) (x : Dv) (C : Addr), xs = [.d (.int i), .d x] ∧ i < 9 ∧ cs[i]? = some C ∧ Φ (.box W.length) (W ++ [.xo C (errK i) (errV i (.d x))])
def wfByName (cs : List Addr) : WFn := fun xs W Φ => ∃ (i : Nat) (y : Sv) (C : Addr), xs = [.d (.int i), y] ∧ i < 6 ∧ cs[i]? = some C ∧ Φ (.box W.length) (W ++ [.xo C (errK i) (errV i y)])
def wfSorts (cs : List Addr) : WFn := fun xs W Φ => ∃ (j i : Nat) (C : Addr) (ks : List Str) (ds : List Sv), xs = [.box j] ∧ i < 9 ∧ cs[i]? = some C ∧ W[j]? = some (.xo C ks ds) ∧ Φ (.d (.lst [.int i])) W
/-! things of any kind, as plain data -/
def thW : Nat → Nat
  | 0 => 20
  | n + 1 => 3 * thW n + 3
theorem thW_ge : ∀ n, 20 ≤ thW n
  | 0 => Nat.le_refl _
  | n + 1 => by
    have := thW_ge n
    unfold thW
    omega
structure TPy (n : Nat) (p : PyData) : Prop where
  lay : p.canLay0 = true
  shw : p.showable = true
  lf : p.leavesShort 128 = true
  dp : p.depth ≤ n + 1
  wt : p.weight ≤ thW n
theorem tpy_base {n : Nat} {d : Dv} (h : d ∈ thgBase) : ∃ p, pyD d = some p ∧ TPy n p := by
  have w := thW_ge n
  simp only [thgBase, List.mem_cons, List.not_mem_nil, or_false] at h
  have go : ∀ p : PyData, p.canLay0 = true → p.showable = true → p.leavesShort 128 = true → p.depth ≤ 1 → p.weight ≤ 20 → TPy n p := fun p a b c d e => ⟨a, b, c, by omega, by omega⟩
  rcases h with rfl | rfl | rfl | rfl | rfl | rfl | rfl | rfl | rfl | rfl | rfl | rfl | rfl | rfl
  all_goals exact ⟨_, rfl, go _ (by decide +kernel) (by decide +kernel) (by decide +kernel) (by decide +kernel) (by decide +kernel)⟩
theorem tpy_list {n : Nat} : ∀ {xs : List Dv}, (∀ x, x ∈ xs → ∃ p, pyD x = some p ∧ TPy n p) → ∃ ps, pyDs xs = some ps ∧ PyData.canLayAll0 ps = true ∧ PyData.showableAll ps = true ∧ PyData.leavesShortAll 128 ps = true ∧ PyData.depthAll ps ≤ n + 1 ∧ PyData.weightAll ps ≤ xs.length * (thW n + 1)
  | [], _ => ⟨[], rfl, by simp only [PyData.canLayAll0], by simp only [PyData.showableAll], by simp only [PyData.leavesShortAll], by simp only [PyData.depthAll]; omega, by simp only [PyData.weightAll]; omega⟩
  | x :: xs, h => by
    obtain ⟨p, e, t⟩ := h x List.mem_cons_self
    obtain ⟨ps, e2, a, b, c, d, w⟩ := tpy_list (xs := xs) fun y hy => h y (List.mem_cons_of_mem _ hy)
    refine ⟨p :: ps, by unfold pyDs; rw [e, e2], ?_, ?_, ?_, ?_, ?_⟩
    · simp only [PyData.canLayAll0, t.lay, a, Bool.and_self]
    · simp only [PyData.showableAll, t.shw, b, Bool.and_self]
    · simp only [PyData.leavesShortAll, t.lf, c, Bool.and_self]
    · simp only [PyData.depthAll]
      have := t.dp
      omega
    · simp only [PyData.weightAll, List.length_cons, Nat.succ_mul]
      have := t.wt
      omega
theorem tpy {n : Nat} {d : Dv} (h : Thg n d) : ∃ p, pyD d = some p ∧ TPy n p := by
  induction h with
  | base h => exact tpy_base h
  | @lst n xs hl _ ih =>
    obtain ⟨ps, e, a, b, c, d, w⟩ := tpy_list ih
    have hw := Nat.mul_le_mul_right (thW n + 1) hl
    exact ⟨.list ps, by simp only [pyD, e, Option.map_some], by simp only [PyData.canLay0, a], by simp only [PyData.showable, b], by simp only [PyData.leavesShort, c], by simp only [PyData.depth]; omega, by simp only [PyData.weight]; unfold thW; omega⟩
  | @tup n xs hl _ ih =>
    obtain ⟨ps, e, a, b, c, d, w⟩ := tpy_list ih
    have hw := Nat.mul_le_mul_right (thW n + 1) hl
    exact ⟨.tuple ps, by simp only [pyD, e, Option.map_some], by simp only [PyData.canLay0, a], by simp only [PyData.showable, b], by simp only [PyData.leavesShort, c], by simp only [PyData.depth]; omega, by simp only [PyData.weight]; unfold thW; omega⟩
theorem thg_repr {d : Dv} (h : Thg 7 d) : ∃ p, pyD d = some p ∧ p.showable = true ∧ p.depth ≤ 100 ∧ p.shown.length ≤ sizeLine := by
  obtain ⟨p, e, t⟩ := tpy h
  refine ⟨p, e, t.shw, Nat.le_trans t.dp (by decide), ?_⟩
  have s := PyData.shown_le 128 (by decide) p t.lf
  have w := t.wt
  have e7 : thW 7 = 47019 := by decide
  rw [e7] at w
  rw [sizeLine_eq]
  omega
theorem thg_loose {d : Dv} (h : Thg 3 d) : ∃ p, pyD (.lst [d, .str "late"]) = some (.list [p, .str "late"]) ∧ SeqAt.shaped (.list [p, .str "late"]) = true := by
  obtain ⟨p, e, t⟩ := tpy h
  refine ⟨p, by simp only [pyD, pyDs, e, Option.map_some], ?_⟩
  unfold SeqAt.shaped
  have e1 : (PyData.str "late").canLay0 = true := by decide +kernel
  have d1 := t.dp
  simp only [PyData.canLay0, PyData.canLayAll0, t.lay, Bool.true_and, Bool.and_true, PyData.depth, PyData.depthAll] at e1 ⊢
  rw [e1, Bool.true_and]
  exact decide_eq_true (by omega)

section
variable {w : World} {K : PySem.W.Frag} {mg : Str → Option Value} {base : Heap}
theorem log_div {i n : Int} {m : Nat} (h : 0 ≤ i) (hn : 0 < n) (hl : i.natAbs.log2 ≤ m) : 0 ≤ i / n ∧ (i / n).natAbs.log2 ≤ m := by
  have h0 : 0 ≤ i / n := Int.ediv_nonneg h (by omega)
  have h1 : i / n ≤ i := Int.ediv_le_self _ h
  refine ⟨h0, ?_⟩
  have h2 : (i / n).natAbs ≤ i.natAbs := by omega
  by_cases z : (i / n).natAbs = 0
  · rw [z]; exact Nat.zero_le _
  · have : (i / n).natAbs.log2 ≤ i.natAbs.log2 := by
      rw [Nat.le_log2 (by omega)]
      exact Nat.le_trans (Nat.log2_self_le z) h2
    omega
theorem cellsOk_last {cs : List Int} {x : Int} (h : cellsOk (cs ++ [x])) : cellsOk cs ∧ 0 ≤ x ∧ x.natAbs.log2 ≤ 1048580 :=
  ⟨fun c m => h c (List.mem_append.mpr (.inl m)), h x (List.mem_append.mpr (.inr (List.mem_singleton.mpr rfl)))⟩
theorem cells_cases (cs : List Int) : cs = [] ∨ ∃ ds x, cs = ds ++ [x] := by
  cases e : cs.reverse with
  | nil => exact .inl (List.reverse_eq_nil_iff.mp e)
  | cons x r => exact .inr ⟨r.reverse, x, by rw [← List.reverse_reverse cs, e, List.reverse_cons]⟩
theorem ok__law_draw (T : TT K mg) : FnOk P w K mg base CX0 1 T.f__law_draw T.fd__law_draw ["_law_deal_here", "_law_bound"] (spD K wfDraw) := by
  refine T.F__law_draw.ok sc__law_draw (fun vs H Q E h => ?_) (fun cdv A outer s H vs Q E hr h => ?_)
  · obtain ⟨z, As, W, xs, Φ, wl, hv, h, _⟩ := h
    rw [hv.length]
    unfold wfDraw at h
    split at h
    · rfl
    · exact h.elim
  · obtain ⟨z, As, W, xs, Φ, wl, hv, h, q⟩ := h
    unfold wfDraw at h
    split at h
    · rename_i j n
      obtain ⟨hW, ⟨n0, n1⟩, hk⟩ := h
      obtain ⟨p, c, v2, rfl, hA, hv2, R⟩ : ∃ p c v2, vs = [.ref p, v2] ∧ As[j]? = some [p, c] ∧ v2 = V.int n ∧ dealR [p, c] H := by
        cases hv with
        | cons a b =>
          cases b with
          | cons b e =>
            cases e
            have b' := b.int
            cases a with
            | @box p l _ hA =>
              have R := wl.rep j _ _ hA hW
              obtain ⟨p', c, _, _, el, _⟩ := id R
              cases el
              exact ⟨p, c, _, rfl, hA, b', R⟩
      subst hv2
      obtain ⟨p', c', cs, sx, el, npc, hp, hc, hcs, hlen, s0, s1⟩ := R
      cases el
      have fin : ∀ (r : Int) (H' : Hp), 0 ≤ r → r < n → (∀ b o, H b = some o → b ≠ p → b ≠ c → H' b = some o) → dealR [p, c] H' → Q (.int r) H' := fun r H' r0 r1 k d => by
        have k' : ∀ b o, H b = some o → b ∉ [p, c] → H' b = some o := fun b o h m => k b o h (fun e => m (by rw [e]; exact List.mem_cons_self)) fun e => m (by rw [e]; exact List.mem_cons_of_mem _ List.mem_cons_self)
        have t : ∀ a, a ∈ [p, c] → H' a ≠ none := fun a m => by
          obtain ⟨p2, c2, cs2, sx2, el2, _, hp2, hc2, _⟩ := id d
          cases el2
          rcases List.mem_cons.mp m with m | m
          · rw [m, hp2]; exact fun x => by cases x
          · rw [List.mem_singleton.mp m, hc2]; exact fun x => by cases x
        have w2 : Wld K z As W H' := by
          have := wl.turnG (o := .obj dealK) hA k' t d
          rw [set_same hW] at this
          exact this
        exact q (.int r) H' (.d (.int r)) As W (Ext.turnG hA k' t) w2 (.d (.int r)) (hk r r0 r1)
      refine ⟨_, pss_cons (ps_while PassesOwn.never (PW.pt (pw_and (pt_cmpR (DLX.op_neNil hr.units) (pe_ix ix_list (pv 0) pe_int (fun _ _ => rfl)) (pe_lst pa_nil) (nomark _)) (pw_and1 (pt_cmpR op_eq (pe_ix ix_list (pe_ix ix_list (pv 0) pe_int (fun _ _ => rfl)) (pe_un un_neg pe_int) (fun _ _ => rfl)) pe_int (nomark _)))))
          (pss_one (ps_expr (pe_bm0 PySem.F.plainAttrs_list PySem.F.slot_list_pop PySem.F.type_list_pop mt_pop (pe_ix ix_list (pv 0) pe_int (fun _ _ => rfl))))))
        (pss_cons (ps_if (pt_cmpR (DLX.op_neNil hr.units) (pe_ix ix_list (pv 0) pe_int (fun _ _ => rfl)) (pe_lst pa_nil) (nomark _))
          (pss_cons (ps_set (i := 2) sc__law_draw.nd rfl (Or.inl rfl) (pe_bm0 PySem.F.plainAttrs_list PySem.F.slot_list_pop PySem.F.type_list_pop mt_pop (pe_ix ix_list (pv 0) pe_int (fun _ _ => rfl))))
          (pss_cons (ps_expr (pe_bm PySem.F.plainAttrs_list PySem.F.slot_list_append PySem.F.type_list_append mt_append (pe_ix ix_list (pv 0) pe_int (fun _ _ => rfl)) (pa_cons (pe_op op_fdivW (pv 2) (pv 1)) pa_nil)))
          (pss_one (ps_ret (pe_op op_mod (pe_callTy call_int1 (by rfl) T.b_int (by decide +kernel) (pa_cons (pv 2) pa_nil)) (pv 1))))))
          pss_nil)
        (pss_cons (ps_asg (pe_op op_mod (pe_callTy call_int1 (by rfl) T.b_int (by decide +kernel) (pa_cons (pe_op op_add (pe_op op_mul (pe_ix ix_list (pv 0) pe_int (fun _ _ => rfl)) pe_int) pe_int) pa_nil)) pe_int) (pg_sub (pv 0) pe_int set_list))
        (pss_one (ps_ret (pe_op op_mod (pe_callTy call_int1 (by rfl) T.b_int (by decide +kernel) (pa_cons (pe_op op_fdiv (pe_ix ix_list (pv 0) pe_int (fun _ _ => rfl)) pe_int) pa_nil)) (pv 1)))))), ?_⟩
      -- what holds at each turn of the while, and behind it
      let I : St → Hp → List Int → Prop := fun σ H' ds => σ = [some (.ref p), some (.int n), none] ∧ H' p = some (.lst [.ref c, .int sx]) ∧ H' c = some (.lst (ds.map V.int)) ∧ cellsOk ds ∧ ds.length ≤ 64 ∧ ∀ b o, H b = some o → b ≠ p → b ≠ c → H' b = some o
      have d0 : ∀ {H' : Hp}, H' p = some (.lst [.ref c, .int sx]) → SqL K H' p [.ref c, .int sx] := fun h => SqL.of h
      have at0 : atI [V.ref c, V.int sx] 0 = some (.ref c) := rfl
      have emp : ∀ ds : List Int, (ds.map V.int).isEmpty = ds.isEmpty := fun ds => by cases ds <;> rfl
      refine ⟨fun m σ H' => ∃ ds, I σ H' ds ∧ m = ds.length, ⟨cs.length, cs, ⟨rfl, hp, hc, hcs, hlen, fun b o h _ _ => h⟩, rfl⟩, fun m σ H' ⟨ds, ⟨hσ, g1, g2, g3, g4, g5⟩, hm⟩ => ?_⟩
      subst hσ hm
      -- deal[0] != []
      refine ⟨_, rfl, p, _, 0, _, rfl, rfl, d0 g1, at0, Nat.zero_le _, fun t ht => ?_⟩
      have tp : p ≠ t := ne_of_none g1 ht
      have tc : c ≠ t := ne_of_none g2 ht
      have u1 : (upd H' t (.lst [])) p = some (.lst [.ref c, .int sx]) := by rw [upd_ne tp]; exact g1
      have u2 : (upd H' t (.lst [])) c = some (.lst (ds.map V.int)) := by rw [upd_ne tc]; exact g2
      have u5 : ∀ b o, H b = some o → b ≠ p → b ≠ c → (upd H' t (.lst [])) b = some o := fun b o h n1 n2 => by rw [upd_ne (ne_of_none (g5 b o h n1 n2) ht)]; exact g5 b o h n1 n2
      refine ⟨c, t, _, rfl, rfl, SqL.of u2, SqL.of upd_same, _, rfl, ?_⟩
      rcases cells_cases ds with rfl | ⟨es, x, rfl⟩
      · -- none is left: the loop ends, then the second way
        refine iteF ?_
        refine ⟨_, rfl, p, _, 0, _, rfl, rfl, d0 u1, at0, Nat.zero_le _, fun t2 ht2 => ?_⟩
        have tp2 : p ≠ t2 := ne_of_none u1 ht2
        have tc2 : c ≠ t2 := ne_of_none u2 ht2
        have y1 : (upd (upd H' t (.lst [])) t2 (.lst [])) p = some (.lst [.ref c, .int sx]) := by rw [upd_ne tp2]; exact u1
        have y2 : (upd (upd H' t (.lst [])) t2 (.lst [])) c = some (.lst (([] : List Int).map V.int)) := by rw [upd_ne tc2]; exact u2
        have y5 : ∀ b o, H b = some o → b ≠ p → b ≠ c → (upd (upd H' t (.lst [])) t2 (.lst [])) b = some o := fun b o h n1 n2 => by rw [upd_ne (ne_of_none (u5 b o h n1 n2) ht2)]; exact u5 b o h n1 n2
        refine ⟨c, t2, _, rfl, rfl, SqL.of y2, SqL.of upd_same, _, rfl, ?_⟩
        refine iteF ?_
        have sb : 0 ≤ (sx * 48611 + 37) % 2147483647 ∧ (sx * 48611 + 37) % 2147483647 < 2147483647 := ⟨Int.emod_nonneg _ (by decide), Int.emod_lt_of_pos _ (by decide)⟩
        refine ⟨_, rfl, p, _, 1, _, rfl, rfl, d0 y1, rfl, _, _, rfl, rfl, .inr ⟨by decide, by decide⟩, _, _, rfl, rfl, .inl ⟨_, rfl, _, _, rfl, rfl, (show (0 : Int) < 2147483647 by decide), _, rfl, p, _, 1, 1, rfl, rfl, y1, rfl, ?_⟩⟩
        refine ⟨_, rfl, p, _, 1, _, rfl, rfl, SqL.of upd_same, rfl, _, _, rfl, rfl, ⟨by decide, by decide⟩, .inl ⟨_, rfl, _, rfl, _, _, rfl, rfl, n0, ?_⟩⟩
        refine fin _ _ (Int.emod_nonneg _ (by omega)) (Int.emod_lt_of_pos _ n0) (fun b o h n1 n2 => by rw [upd_ne n1]; exact y5 b o h n1 n2) ⟨p, c, [], _, rfl, npc, upd_same, by rw [upd_ne npc.symm]; exact y2, fun c m => (nomatch m), by decide, sb.1, sb.2⟩
      · -- the last one
        obtain ⟨ok1, x0, x1⟩ := cellsOk_last g3
        have ne : ((es ++ [x]).map V.int).isEmpty = false := by rw [emp]; simp
        rw [ne]
        refine iteT ?_
        have al : atI ((es ++ [x]).map V.int) (-1) = some (.int x) := by rw [List.map_append]; exact atI_last _ _
        refine ⟨_, rfl, p, _, 0, _, rfl, rfl, d0 u1, at0, 1, rfl, c, _, -1, _, rfl, rfl, SqL.of u2, al, rfl, _, rfl, ?_⟩
        have lastx : ((es ++ [x]).map V.int)[((es ++ [x]).map V.int).length - 1]? = some (V.int x) := by
          rw [List.map_append, List.length_append]
          simp
        have drop : ((es ++ [x]).map V.int).dropLast = es.map V.int := by rw [List.map_append]; simp
        refine ite_d (fun hx => ?_) (fun hx => ?_)
        · -- it is nought: away with it
          refine ⟨fun σ2 H2 => ∃ ds, I σ2 H2 ds ∧ ds.length < (es ++ [x]).length, fun σ2 H2 ⟨ds, h, l⟩ => ⟨ds.length, l, ds, h, rfl⟩, ?_⟩
          refine ⟨_, rfl, p, _, 0, _, rfl, rfl, d0 u1, at0, .inl ⟨rfl, _, SqL.of u2⟩, c, _, _, rfl, rfl, u2, lastx, ?_⟩
          rw [drop]
          exact ⟨es, ⟨rfl, by rw [upd_ne npc]; exact u1, upd_same, ok1, by rw [List.length_append] at g4; omega, fun b o h n1 n2 => by rw [upd_ne n2]; exact u5 b o h n1 n2⟩, by rw [List.length_append, List.length_singleton]; omega⟩
        · -- the first way: it is taken
          refine ⟨_, rfl, p, _, 0, _, rfl, rfl, d0 u1, at0, Nat.zero_le _, fun t2 ht2 => ?_⟩
          have tp2 : p ≠ t2 := ne_of_none u1 ht2
          have tc2 : c ≠ t2 := ne_of_none u2 ht2
          have y1 : (upd (upd H' t (.lst [])) t2 (.lst [])) p = some (.lst [.ref c, .int sx]) := by rw [upd_ne tp2]; exact u1
          have y2 : (upd (upd H' t (.lst [])) t2 (.lst [])) c = some (.lst ((es ++ [x]).map V.int)) := by rw [upd_ne tc2]; exact u2
          have y5 : ∀ b o, H b = some o → b ≠ p → b ≠ c → (upd (upd H' t (.lst [])) t2 (.lst [])) b = some o := fun b o h n1 n2 => by rw [upd_ne (ne_of_none (u5 b o h n1 n2) ht2)]; exact u5 b o h n1 n2
          refine ⟨c, t2, _, rfl, rfl, SqL.of y2, SqL.of upd_same, _, rfl, ?_⟩
          rw [ne]
          refine iteT ?_
          refine ⟨_, rfl, p, _, 0, _, rfl, rfl, d0 y1, at0, .inl ⟨rfl, _, SqL.of y2⟩, c, _, _, rfl, rfl, y2, lastx, ?_⟩
          rw [drop]
          have v1 : (upd (upd (upd H' t (.lst [])) t2 (.lst [])) c (.lst (es.map V.int))) p = some (.lst [.ref c, .int sx]) := by rw [upd_ne npc]; exact y1
          have dv := log_div (n := n) x0 n0 x1
          refine ⟨_, rfl, p, _, 0, _, rfl, rfl, d0 v1, at0, .inl ⟨rfl, _, SqL.of upd_same⟩, _, rfl, _, rfl, _, _, rfl, rfl, wide_div n0 (b := 200) (by omega) (by decide) (by decide), c, _, _, rfl, rfl, upd_same, ?_, ?_⟩
          · rw [List.length_map]
            rw [List.length_append] at g4
            exact Nat.lt_of_le_of_lt (show es.length ≤ 100 by omega) (by decide)
          refine ⟨_, rfl, .inl ⟨_, rfl, _, rfl, _, _, rfl, rfl, n0, ?_⟩⟩
          refine fin _ _ (Int.emod_nonneg _ (by omega)) (Int.emod_lt_of_pos _ n0) (fun b o h n1 n2 => by rw [upd_ne n2, upd_ne n2]; exact y5 b o h n1 n2)
            ⟨p, c, es ++ [x / n], sx, rfl, npc, by rw [upd_ne npc]; exact v1, by rw [List.map_append]; exact upd_same, fun k m => ?_, by rw [List.length_append] at g4 ⊢; exact g4, s0, s1⟩
          rcases List.mem_append.mp m with m | m
          · exact ok1 k m
          · rw [List.mem_singleton.mp m]
            exact dv
    · exact h.elim

theorem ok__law_deal (T : TT K mg) : FnOk P w K mg base CX0 1 T.f__law_deal T.fd__law_deal ["_law_script", "_law_base"] (spD K wfDeal) := by
  refine okD T.F__law_deal sc__law_deal (fun xs W Φ h => ?_) (fun cdv A outer s H E hr => ⟨_, _, (ss_cons (s_set (i := 2) sc__law_deal.nd rfl (by first | exact Or.inl rfl | exact Or.inr rfl) (d_op op_add o_add (bb d_int) (bb (d_op op_mul o_mul (bb d_int) (bv 1)))))
  (ss_cons (s_lcO (i := 3) rfl sc__law_deal.nd rfl rfl (sw_true rfl rfl rfl (by decide +kernel)) (i_L (d_fr (f_sl (bv 0) (o_some (bv 1)) (o_some (bb d_int))))) (blkOk_by (own := [("_law_cell", 4)]) (by rfl)) (fun _ _ _ _ _ => (g_name (i := 4) sc__law_deal.nd rfl (by first | exact Or.inl rfl | exact Or.inr rfl))) (fun _ _ _ _ _ => ts_nil) (fun _ _ _ _ _ => (d_callB call_abs cd_abs (by rfl) T.b_abs (by decide +kernel) (b_cons (bb (d_callTy call_int1 cd_int (by rfl) T.b_int (by decide +kernel) (b_cons (bv 4) b_nil))) b_nil))) (by decide))
  (ss_cons (s_for PassesOwn.never rfl (i_L (dv 3)) (g_name (i := 4) sc__law_deal.nd rfl (by first | exact Or.inl rfl | exact Or.inr rfl))
  (ss_one (s_set (i := 2) sc__law_deal.nd rfl (by first | exact Or.inl rfl | exact Or.inr rfl) (d_op op_mod o_mod (bb (d_callTy call_int1 cd_int (by rfl) T.b_int (by decide +kernel) (b_cons (bb (d_op op_add o_add (bb (d_op op_add o_add (bb (d_op op_mul o_mul (bv 2) (bb d_int))) (bb (d_op op_mod o_mod (bb (d_callTy call_int1 cd_int (by rfl) T.b_int (by decide +kernel) (b_cons (bv 4) b_nil))) (bb d_int))))) (bb d_int))) b_nil))) (bb d_int)))))
  (ss_one (s_ret (dd (f_turn (bb (d_fr (f_lc rfl sc__law_deal.nd (i_L (dv 3)) (blkOk_by (own := [("_law_cell", 4)]) (by rfl)) (fun _ _ _ _ _ => (g_name (i := 4) sc__law_deal.nd rfl (by first | exact Or.inl rfl | exact Or.inr rfl))) (fun _ _ _ _ _ => (ts_one (t_cmp op_ge o_ge (bv 4) (bb (d_op op_pow o_pow (bb d_int) (bb d_int))) (nomark _)))) (fun _ _ _ _ _ => (dv 4)) (by decide))))) (dv 2))))))), fun xs W Φ h => ?_⟩)
  · unfold wfDeal at h
    split at h
    · rfl
    · exact h.elim
  · unfold wfDeal at h
    split at h
    · rename_i xs b
      obtain ⟨⟨ns, rfl, hn, hb⟩, ⟨b0, b1⟩, h⟩ := h
      -- stirred
      refine ⟨.inl ⟨by decide, by decide⟩, ?_⟩
      -- cells
      have ecut : cutD (ns.map Dv.int) (some b) (some 56) = (((ns.drop (HT.sIx ns.length 0 (some b))).take (HT.sIx ns.length ns.length (some 56) - HT.sIx ns.length 0 (some b)))).map Dv.int := by
        unfold cutD
        rw [List.length_map, List.map_take, List.map_drop]
      generalize hms : ((ns.drop (HT.sIx ns.length 0 (some b))).take (HT.sIx ns.length ns.length (some 56) - HT.sIx ns.length 0 (some b))) = ms at ecut
      have ml : ms.length ≤ 63 := by
        rw [← hms]
        exact Nat.le_trans (by rw [List.length_take, List.length_drop]; omega) hn
      have mb : ∀ k, k ∈ ms → k.natAbs.log2 ≤ 1048580 := fun k hk => bits_log (hb k (List.mem_of_mem_drop (List.mem_of_mem_take (by rw [hms]; exact hk))))
      refine ⟨⟨rfl, ?_⟩, ?_⟩
      · show (cutD (ns.map Dv.int) (some b) (some 56)).length ≤ 1000000
        rw [ecut, List.length_map]
        omega
      show wLcL _ _ _ _ _ (cutD (ns.map Dv.int) (some b) (some 56)) _ _ _
      rw [ecut]
      let ab : Int → Int := fun i => if i < 0 then -i else i
      refine lcL_fm (fun _ => true) (fun d : Dv => match d with | .int i => .int (ab i) | d => d) (fun x hx => ?_) ?_
      · obtain ⟨k, hk, rfl⟩ := List.mem_map.mp hx
        exact ⟨_, rfl, fun _ _ q => q, fun _ _ _ q => q⟩
      have ef : ([] : List Dv) ++ ((ms.map Dv.int).filter (fun _ => true)).map (fun d : Dv => match d with | .int i => .int (ab i) | d => d) = (ms.map ab).map Dv.int := by
        rw [List.nil_append, List.filter_eq_self.mpr (fun _ _ => rfl), List.map_map, List.map_map]
        rfl
      rw [ef]
      have cok : cellsOk (ms.map ab) := fun c hc => by
        obtain ⟨k, hk, rfl⟩ := List.mem_map.mp hc
        have := mb k hk
        have e : (ab k).natAbs = k.natAbs := by show (if k < 0 then -k else k).natAbs = _; split <;> omega
        rw [e]
        exact ⟨by show 0 ≤ (if k < 0 then -k else k); split <;> omega, this⟩
      have cl : (ms.map ab).length ≤ 63 := by rw [List.length_map]; exact ml
      generalize ms.map ab = cs at cok cl
      -- the loop
      refine loop_by (fun xs σ W' => ∃ (ys : List Int) (sx : Int) (o : Option Sl), xs = (ys.map Dv.int).map Sv.d ∧ σ = [some (.v (.d (.lst (ns.map Dv.int)))), some (.v (.d (.int b))), some (.v (.d (.int sx))), some (.v (.d (.lst (cs.map Dv.int)))), o] ∧ (0 ≤ sx ∧ sx < 2147483647) ∧ notOwn o = true ∧ W' = W)
        ⟨cs, 49979693 + 29 * b, none, rfl, rfl, ⟨by omega, by omega⟩, rfl, rfl⟩ (fun σ W' ⟨ys, sx, o, _, hσ, hs, ho, hW⟩ => ?_) (fun x xs σ W' N ⟨ys, sx, o, hx, hσ, hs, ho, hW⟩ hN => ?_)
      · subst hσ hW
        -- return
        refine ⟨⟨by show (notOwn o && true) = true; rw [ho]; rfl, ?_⟩, ?_⟩
        · show (cs.map Dv.int).length ≤ 1000000
          rw [List.length_map]
          omega
        refine lcL_fm (fun d : Dv => match d with | .int i => decide ((1000000000000000000 : Int) ≤ i) | _ => false) (fun d => d) (fun x hx => ?_) ?_
        · obtain ⟨k, hk, rfl⟩ := List.mem_map.mp hx
          exact ⟨_, rfl, fun _ _ q => ⟨⟨by decide, by decide, by decide⟩, q⟩, fun _ _ _ q => q⟩
        have ef : ([] ++ ((cs.map Dv.int).filter (fun d : Dv => match d with | .int i => decide ((1000000000000000000 : Int) ≤ i) | _ => false)).map (fun d => d)).reverse = ((cs.filter (fun i => decide ((1000000000000000000 : Int) ≤ i))).reverse).map Dv.int := by
          rw [List.nil_append, List.map_id', List.filter_map, List.map_reverse]
          rfl
        refine ⟨_, _, ef, rfl, ⟨fun c hc => ?_, ?_, hs.1, hs.2⟩, h⟩
        · exact cok c (List.mem_filter.mp (List.mem_reverse.mp hc)).1
        · rw [List.length_reverse]
          exact Nat.le_trans (List.length_filter_le _ _) (by omega)
      · subst hσ hW
        cases ys with
        | nil => cases hx
        | cons y ys =>
          cases hx
          refine ⟨_, rfl, ⟨.inr ⟨by decide, by decide⟩, (show (0 : Int) < 2147483489 by decide), (show (0 : Int) < 2147483647 by decide), ?_⟩⟩
          exact hN _ _ ⟨ys, _, _, rfl, rfl, ⟨Int.emod_nonneg _ (by decide), Int.emod_lt_of_pos _ (by decide)⟩, rfl, rfl⟩
    · exact h.elim
theorem ok__law_pick (T : TT K mg) : FnOk P w K mg base CX0 2 T.f__law_pick T.fd__law_pick ["_law_deal_here", "_law_some"] (spD K wfPick) := by
  refine okD T.F__law_pick sc__law_pick (fun xs W Φ h => ?_) (fun cdv A outer s H E hr => ⟨_, _, (ss_one (s_ret (d_ix ix_list od_ixL (bv 1) (bb (d_call (ok__law_draw T) (by exact hr.mono (by decide)) (by rfl) T.m__law_draw T.F__law_draw.kp T.B__law_draw .nil Cn.nil (a_cons (dv 0) (a_cons (d_callB call_len cd_len (by rfl) T.b_len (by decide +kernel) (b_cons (bv 1) b_nil)) a_nil)))) (fun _ _ => rfl)))), fun xs W Φ h => ?_⟩)
  · unfold wfPick at h
    split at h
    · rfl
    · exact h.elim
  · unfold wfPick at h
    split at h
    · rename_i j ys
      obtain ⟨hW, ⟨hne, hl⟩, h⟩ := h
      have l0 : 0 < ys.length := List.length_pos_iff.mpr hne
      refine ⟨hW, ⟨by show (0 : Int) < (ys.length : Int); omega, by show (ys.length : Int) ≤ _; omega⟩, fun r r0 r1 => ?_⟩
      obtain ⟨x, e, m⟩ := atI_mem (xs := ys) r0 r1
      show (match L2.atI ys r with | some d => Φ (.d d) W | none => False)
      rw [e]
      exact h x m
    · exact h.elim

theorem thing_step (T : TT K mg) (n : Nat) (wfp : WFn) (ih : FnOk P w K mg base CX0 (n + 2) T.f__law_thing T.fd__law_thing ["_law_deal_here", "_law_deep"] (spD K wfp)) (hwf : n = 0 ∨ ∃ m, n = m + 1 ∧ wfp = wfThing m) :
    FnOk P w K mg base CX0 (n + 3) T.f__law_thing T.fd__law_thing ["_law_deal_here", "_law_deep"] (spD K (wfThing n)) := by
  refine okD T.F__law_thing sc__law_thing (fun xs W Φ h => ?_) (fun cdv A outer s H E hr => ⟨_, _, (ss_cons (s_set (i := 2) sc__law_thing.nd rfl (by first | exact Or.inl rfl | exact Or.inr rfl) (d_fr (f_lst (a_cons d_non (a_cons d_bl (a_cons d_bl (a_cons d_int (a_cons d_int (a_cons (d_op op_sub o_sub (bb d_int) (bb d_int)) (a_cons d_str (a_cons d_str (a_cons d_str (a_cons d_str (a_cons d_str (a_cons (d_tup a_nil) (a_cons (d_fr (f_lst a_nil)) (a_cons (d_tup (a_cons d_str (a_cons d_str (a_cons d_int a_nil)))) a_nil)))))))))))))))))
  (ss_cons (s_if (t_bo (p_and (t_cmp op_gt o_gt (bv 1) (bb d_int) (nomark _)) (p_and1 (t_cmp op_eq od_eq (bb (d_call (ok__law_draw T) (by exact hr.mono (by omega)) (by rfl) T.m__law_draw T.F__law_draw.kp T.B__law_draw .nil Cn.nil (a_cons (dv 0) (a_cons d_int a_nil)))) (bb d_int) (nomark _)))))
  (ss_cons (s_lcO (i := 3) rfl sc__law_thing.nd rfl rfl (sw_true rfl rfl rfl (by decide +kernel)) (i_R1 (by rfl) T.b_range (b_cons (bb (d_call (ok__law_draw T) (by exact hr.mono (by omega)) (by rfl) T.m__law_draw T.F__law_draw.kp T.B__law_draw .nil Cn.nil (a_cons (dv 0) (a_cons d_int a_nil)))) b_nil)) (blkOk_by (own := [("_law_turn", 4)]) (by rfl)) (fun _ _ _ _ _ => (g_name (i := 4) sc__law_thing.nd rfl (by first | exact Or.inl rfl | exact Or.inr rfl))) (fun _ _ _ _ _ => ts_nil) (fun _ _ _ _ _ => (d_callK (K := K) rfl ih (by exact hr.mono (by omega)) (by rfl) T.m__law_thing T.F__law_thing.kp T.B__law_thing .nil Cn.nil (a_cons (dv 0) (a_cons (d_op op_sub o_sub (bv 1) (bb d_int)) a_nil)))) (by decide))
  (ss_one (s_ret (d_if (t_cmp op_eq od_eq (bb (d_call (ok__law_draw T) (by exact hr.mono (by omega)) (by rfl) T.m__law_draw T.F__law_draw.kp T.B__law_draw .nil Cn.nil (a_cons (dv 0) (a_cons d_int a_nil)))) (bb d_int) (nomark _)) (dv 3) (d_tupOf (by rfl) T.b_tuple (bv 3))))))
  ss_nil)
  (ss_one (s_ret (d_call (ok__law_pick T) (by exact hr.mono (by omega)) (by rfl) T.m__law_pick T.F__law_pick.kp T.B__law_pick .nil Cn.nil (a_cons (dv 0) (a_cons (dv 2) a_nil))))))), fun xs W Φ h => ?_⟩)
  · obtain ⟨j, rfl, _⟩ := h
    rfl
  · obtain ⟨j, rfl, hW, h⟩ := h
    refine ⟨nle rfl, nle rfl, nle rfl, nle rfl, ?_⟩
    have last : ∀ Ψ : Sv → WS → Prop, (∀ d, d ∈ thgBase → Ψ (.d d) W) → wfPick [.box j, .d (.lst thgBase)] W Ψ := fun Ψ q => ⟨hW, ⟨List.cons_ne_nil _ _, nle rfl⟩, q⟩
    refine ite_d (fun q => ?_) (fun q => ?_)
    · rcases hwf with rfl | ⟨m, rfl, rfl⟩
      · exact absurd q (by decide)
      refine ⟨hW, ⟨by decide, by decide⟩, fun r r0 r1 => ?_⟩
      refine ite_d (fun q2 => ?_) (fun q2 => ?_)
      · refine ⟨hW, ⟨by decide, by decide⟩, fun c c0 c1 => ?_⟩
        refine ⟨?_, ⟨rfl, ?_⟩, ?_⟩
        · exact ⟨by omega, by omega⟩
        · show (rangeD 0 _).length ≤ 1000000
          unfold rangeD
          rw [List.length_map, List.length_range]
          omega
        refine lcL_any (Thg m) (fun x hx => ?_) fun ys hl hp => ?_
        · obtain ⟨k, _, rfl⟩ := List.mem_map.mp hx
          refine ⟨_, rfl, fun Ψ hΨ => ⟨j, ?_, hW, hΨ⟩⟩
          show [Sv.box j, Sv.d (.int (((m + 1 : Nat) : Int) - 1))] = _
          rw [show ((m + 1 : Nat) : Int) - 1 = m by omega]
        refine ⟨hW, ⟨by decide, by decide⟩, fun s s0 s1 => ?_⟩
        have hlen : ys.length ≤ 3 := by
          rw [hl]
          show (rangeD 0 _).length ≤ 3
          unfold rangeD
          rw [List.length_map, List.length_range]
          omega
        refine ite_d (fun q3 => ?_) (fun q3 => ?_)
        · exact h _ (.lst hlen hp)
        · exact h _ (.tup hlen hp)
      · exact last _ fun d hd => h d (.base hd)
    · exact last _ fun d hd => h d (.base hd)
theorem thing_at (T : TT K mg) : ∀ n : Nat, FnOk P w K mg base CX0 (n + 3) T.f__law_thing T.fd__law_thing ["_law_deal_here", "_law_deep"] (spD K (wfThing n))
  | 0 => thing_step T 0 _ fn_false (.inl rfl)
  | n + 1 => thing_step T (n + 1) _ (thing_at T n) (.inr ⟨n, rfl, rfl⟩)
theorem ok__law_thing (T : TT K mg) : FnOk P w K mg base CX0 10 T.f__law_thing T.fd__law_thing ["_law_deal_here", "_law_deep"] (spD K fun xs W Φ => ∃ i : Fin 8, wfThing i.val xs W Φ) :=
  fn_any fun i => (thing_at T i.val).mono (by have := i.isLt; omega)

abbrev csT (T : TT K mg) : List Addr := [T.c_InvalidKeeper, T.c_InvalidLoad, T.c_InvalidZone, T.c_InvalidText, T.c_InvalidEvent, T.c_Refused, T.c_InvalidRing, T.c_InvalidHarm, T.c_InvalidCommand]
theorem ok__law_error (T : TT K mg) : FnOk P w K mg base CX0 8 T.f__law_error T.fd__law_error ["_law_spot", "_law_thing_here"] (spD K (wfError (csT T))) := by
  refine okD T.F__law_error sc__law_error (fun xs W Φ h => ?_) (fun cdv A outer s H E hr => ⟨_, _, (ss_cons (s_if (t_cmp op_lt o_lt (bv 0) (bb d_int) (nomark _))
  (ss_cons (s_if (t_cmp op_eq od_eq (bv 0) (bb d_int) (nomark _))
  (ss_one (s_ret (d_mkV (m_1 T.ox_InvalidKeeper T.ii_InvalidKeeper T.ti_InvalidKeeper (T.xi_InvalidKeeper _ _) (by exact hr.mono (by decide)) T.xb_InvalidKeeper (by rfl) T.m_InvalidKeeper (dv 1)))))
  ss_nil)
  (ss_one (s_ret (d_if (t_cmp op_eq od_eq (bv 0) (bb d_int) (nomark _)) (d_mkV (m_1 T.ox_InvalidLoad T.ii_InvalidLoad T.ti_InvalidLoad (T.xi_InvalidLoad _ _) (by exact hr.mono (by decide)) T.xb_InvalidLoad (by rfl) T.m_InvalidLoad (dv 1))) (d_mkV (m_1 T.ox_InvalidZone T.ii_InvalidZone T.ti_InvalidZone (T.xi_InvalidZone _ _) (by exact hr.mono (by decide)) T.xb_InvalidZone (by rfl) T.m_InvalidZone (dv 1)))))))
  ss_nil)
  (ss_cons (s_if (t_cmp op_lt o_lt (bv 0) (bb d_int) (nomark _))
  (ss_cons (s_if (t_cmp op_eq od_eq (bv 0) (bb d_int) (nomark _))
  (ss_one (s_ret (d_mkV (m_1 T.ox_InvalidText T.ii_InvalidText T.ti_InvalidText (T.xi_InvalidText _ _) (by exact hr.mono (by decide)) T.xb_InvalidText (by rfl) T.m_InvalidText (dv 1)))))
  ss_nil)
  (ss_one (s_ret (d_if (t_cmp op_eq od_eq (bv 0) (bb d_int) (nomark _)) (d_mkV (m_1 T.ox_InvalidEvent T.ii_InvalidEvent T.ti_InvalidEvent (T.xi_InvalidEvent _ _) (by exact hr.mono (by decide)) T.xb_InvalidEvent (by rfl) T.m_InvalidEvent (dv 1))) (d_mkV (m_1 T.ox_Refused T.ii_Refused T.ti_Refused (T.xi_Refused _ _) (by exact hr.mono (by decide)) T.xb_Refused (by rfl) T.m_Refused (dv 1)))))))
  ss_nil)
  (ss_cons (s_if (t_cmp op_eq od_eq (bv 0) (bb d_int) (nomark _))
  (ss_one (s_ret (d_mkV (m_0 T.ox_InvalidRing T.ii_InvalidRing T.ti_InvalidRing (T.xi_InvalidRing _ _) (by exact hr.mono (by decide)) T.xb_InvalidRing (by rfl) T.m_InvalidRing))))
  ss_nil)
  (ss_one (s_ret (d_if (t_cmp op_eq od_eq (bv 0) (bb d_int) (nomark _)) (d_mkV (m_0 T.ox_InvalidHarm T.ii_InvalidHarm T.ti_InvalidHarm (T.xi_InvalidHarm _ _) (by exact hr.mono (by decide)) T.xb_InvalidHarm (by rfl) T.m_InvalidHarm)) (d_mkV (m_0 T.ox_InvalidCommand T.ii_InvalidCommand T.ti_InvalidCommand (T.xi_InvalidCommand _ _) (by exact hr.mono (by decide)) T.xb_InvalidCommand (by rfl) T.m_InvalidCommand)))))))), fun xs W Φ h => ?_⟩)
  · obtain ⟨i, x, C, rfl, _⟩ := h
    rfl
  · obtain ⟨i, x, C, rfl, hi, hC, h⟩ := h
    match i, hi, hC, h with
    | 0, _, hC, h => cases hC; exact h
    | 1, _, hC, h => cases hC; exact h
    | 2, _, hC, h => cases hC; exact h
    | 3, _, hC, h => cases hC; exact h
    | 4, _, hC, h => cases hC; exact h
    | 5, _, hC, h => cases hC; exact h
    | 6, _, hC, h => cases hC; exact h
    | 7, _, hC, h => cases hC; exact h
    | 8, _, hC, h => cases hC; exact h
theorem ok__law_by_name (T : TT K mg) : FnOk P w K mg base CX0 8 T.f__law_by_name T.fd__law_by_name ["_law_spot", "_law_thing_here"] (spD K (wfByName (csT T))) := by
  refine okD T.F__law_by_name sc__law_by_name (fun xs W Φ h => ?_) (fun cdv A outer s H E hr => ⟨_, _, (ss_cons (s_if (t_cmp op_lt o_lt (bv 0) (bb d_int) (nomark _))
  (ss_cons (s_if (t_cmp op_eq od_eq (bv 0) (bb d_int) (nomark _))
  (ss_one (s_ret (d_mkKV T.ox_InvalidKeeper T.ii_InvalidKeeper T.ti_InvalidKeeper (T.xi_InvalidKeeper _ _) (by exact hr.mono (by decide)) T.xk_InvalidKeeper (by rfl) T.m_InvalidKeeper (k_cons (dv 1) k_nil))))
  ss_nil)
  (ss_one (s_ret (d_if (t_cmp op_eq od_eq (bv 0) (bb d_int) (nomark _)) (d_mkKV T.ox_InvalidLoad T.ii_InvalidLoad T.ti_InvalidLoad (T.xi_InvalidLoad _ _) (by exact hr.mono (by decide)) T.xk_InvalidLoad (by rfl) T.m_InvalidLoad (k_cons (dv 1) k_nil)) (d_mkKV T.ox_InvalidZone T.ii_InvalidZone T.ti_InvalidZone (T.xi_InvalidZone _ _) (by exact hr.mono (by decide)) T.xk_InvalidZone (by rfl) T.m_InvalidZone (k_cons (dv 1) k_nil))))))
  ss_nil)
  (ss_cons (s_if (t_cmp op_eq od_eq (bv 0) (bb d_int) (nomark _))
  (ss_one (s_ret (d_mkKV T.ox_InvalidText T.ii_InvalidText T.ti_InvalidText (T.xi_InvalidText _ _) (by exact hr.mono (by decide)) T.xk_InvalidText (by rfl) T.m_InvalidText (k_cons (dv 1) k_nil))))
  ss_nil)
  (ss_one (s_ret (d_if (t_cmp op_eq od_eq (bv 0) (bb d_int) (nomark _)) (d_mkKV T.ox_InvalidEvent T.ii_InvalidEvent T.ti_InvalidEvent (T.xi_InvalidEvent _ _) (by exact hr.mono (by decide)) T.xk_InvalidEvent (by rfl) T.m_InvalidEvent (k_cons (dv 1) k_nil)) (d_mkKV T.ox_Refused T.ii_Refused T.ti_Refused (T.xi_Refused _ _) (by exact hr.mono (by decide)) T.xk_Refused (by rfl) T.m_Refused (k_cons (dv 1) k_nil))))))), fun xs W Φ h => ?_⟩)
  · obtain ⟨i, x, C, rfl, _⟩ := h
    rfl
  · obtain ⟨i, x, C, rfl, hi, hC, h⟩ := h
    match i, hi, hC, h with
    | 0, _, hC, h => cases hC; exact h
    | 1, _, hC, h => cases hC; exact h
    | 2, _, hC, h => cases hC; exact h
    | 3, _, hC, h => cases hC; exact h
    | 4, _, hC, h => cases hC; exact h
    | 5, _, hC, h => cases hC; exact h
theorem vbD {i : Nat} {σ : DS} {x : Dv} {W : WS} {Φ : Dv → WS → Prop} (h : slot σ i = some (.v (.d x))) (q : Φ x W) : wVarB i σ W Φ := by
  unfold wVarB
  rw [h]
  exact q
theorem ok__law_sorts (T : TT K mg) : FnOk P w K mg base CX0 4 T.f__law_sorts T.fd__law_sorts ["_law_e"] (spD K (wfSorts (csT T))) := by
  refine okD T.F__law_sorts sc__law_sorts (fun xs W Φ h => ?_) (fun cdv A outer s H E hr => ⟨_, _, (ss_cons (s_set (i := 1) sc__law_sorts.nd rfl (by first | exact Or.inl rfl | exact Or.inr rfl) (d_fr (f_lst (a_cons (d_isXV (by rfl) T.b_isinstance (.own _) (dv 0) (pe_glob (v := .ref _) (by rfl) T.m_InvalidKeeper rfl)) (a_cons (d_isXV (by rfl) T.b_isinstance (.own _) (dv 0) (pe_glob (v := .ref _) (by rfl) T.m_InvalidLoad rfl)) (a_cons (d_isXV (by rfl) T.b_isinstance (.own _) (dv 0) (pe_glob (v := .ref _) (by rfl) T.m_InvalidZone rfl)) a_nil))))))
  (ss_cons (s_set (i := 1) sc__law_sorts.nd rfl (by first | exact Or.inl rfl | exact Or.inr rfl) (d_fr (f_cat (bv 1) (bb (d_fr (f_lst (a_cons (d_isXV (by rfl) T.b_isinstance (.own _) (dv 0) (pe_glob (v := .ref _) (by rfl) T.m_InvalidText rfl)) (a_cons (d_isXV (by rfl) T.b_isinstance (.own _) (dv 0) (pe_glob (v := .ref _) (by rfl) T.m_InvalidEvent rfl)) a_nil))))))))
  (ss_cons (s_set (i := 1) sc__law_sorts.nd rfl (by first | exact Or.inl rfl | exact Or.inr rfl) (d_fr (f_cat (bv 1) (bb (d_fr (f_lst (a_cons (d_isXV (by rfl) T.b_isinstance (.own _) (dv 0) (pe_glob (v := .ref _) (by rfl) T.m_Refused rfl)) (a_cons (d_isXV (by rfl) T.b_isinstance (.own _) (dv 0) (pe_glob (v := .ref _) (by rfl) T.m_InvalidRing rfl)) a_nil))))))))
  (ss_cons (s_set (i := 1) sc__law_sorts.nd rfl (by first | exact Or.inl rfl | exact Or.inr rfl) (d_fr (f_cat (bv 1) (bb (d_fr (f_lst (a_cons (d_isXV (by rfl) T.b_isinstance (.own _) (dv 0) (pe_glob (v := .ref _) (by rfl) T.m_InvalidHarm rfl)) (a_cons (d_isXV (by rfl) T.b_isinstance (.own _) (dv 0) (pe_glob (v := .ref _) (by rfl) T.m_InvalidCommand rfl)) a_nil))))))))
  (ss_one (s_ret (d_fr (f_lc rfl sc__law_sorts.nd (i_E (by rfl) T.b_enumerate (a_cons (dv 1) a_nil)) (blkOk_by (own := [("_law_spot", 2), ("_law_is_so", 3)]) (by rfl)) (fun _ _ _ _ _ => (g_tupK (K := K) rfl [2, 3] (pg_tup rfl (pgs_cons (pg_name (i := 2) sc__law_sorts.nd rfl (by first | exact Or.inl rfl | exact Or.inr rfl)) (pgs_cons (pg_name (i := 3) sc__law_sorts.nd rfl (by first | exact Or.inl rfl | exact Or.inr rfl)) pgs_nil))))) (fun _ _ _ _ _ => (ts_one (t_val (dv 3)))) (fun _ _ _ _ _ => (dv 2)) (by decide))))))))), fun xs W Φ h => ?_⟩)
  · obtain ⟨j, i, C, ks, ds, rfl, _⟩ := h
    rfl
  · obtain ⟨j, i, C, ks, ds, rfl, hi, hC, hj, h⟩ := h
    have rd : ∀ {cv : Value} {b : Bool} {σ : DS} {Ψ : Sv → WS → Prop}, slot σ 0 = some (.v (.box j)) → ExcC K C → PySem.W.kitOne K (.ref C) cv = some b → Ψ (.d (.bl b)) W → wIsXV K cv (wVar 0) σ W Ψ := fun {cv b σ Ψ} hs hx hk q => by
      unfold wIsXV wVar
      rw [hs]
      dsimp only
      rw [hj]
      exact ⟨hx, b, hk, q⟩
    match i, hi, hC, h with
    | 0, _, hC, h =>
      cases hC
      try dsimp only [wSeq, wSet, wFr, wLst, wCons, wCat, wBof, rdD]
      refine rd rfl T.xc_InvalidKeeper T.kx_InvalidKeeper_InvalidKeeper ?_
      try dsimp only [wSeq, wSet, wFr, wLst, wCons, wCat, wBof, rdD]
      refine rd rfl T.xc_InvalidKeeper T.kx_InvalidKeeper_InvalidLoad ?_
      try dsimp only [wSeq, wSet, wFr, wLst, wCons, wCat, wBof, rdD]
      refine rd rfl T.xc_InvalidKeeper T.kx_InvalidKeeper_InvalidZone ?_
      refine ⟨nle rfl, ?_⟩
      refine vbD rfl ?_
      try dsimp only [wSeq, wSet, wFr, wLst, wCons, wCat, wBof, rdD]
      refine rd rfl T.xc_InvalidKeeper T.kx_InvalidKeeper_InvalidText ?_
      try dsimp only [wSeq, wSet, wFr, wLst, wCons, wCat, wBof, rdD]
      refine rd rfl T.xc_InvalidKeeper T.kx_InvalidKeeper_InvalidEvent ?_
      refine ⟨nle rfl, nle rfl, ?_⟩
      refine vbD rfl ?_
      try dsimp only [wSeq, wSet, wFr, wLst, wCons, wCat, wBof, rdD]
      refine rd rfl T.xc_InvalidKeeper T.kx_InvalidKeeper_Refused ?_
      try dsimp only [wSeq, wSet, wFr, wLst, wCons, wCat, wBof, rdD]
      refine rd rfl T.xc_InvalidKeeper T.kx_InvalidKeeper_InvalidRing ?_
      refine ⟨nle rfl, nle rfl, ?_⟩
      refine vbD rfl ?_
      try dsimp only [wSeq, wSet, wFr, wLst, wCons, wCat, wBof, rdD]
      refine rd rfl T.xc_InvalidKeeper T.kx_InvalidKeeper_InvalidHarm ?_
      try dsimp only [wSeq, wSet, wFr, wLst, wCons, wCat, wBof, rdD]
      refine rd rfl T.xc_InvalidKeeper T.kx_InvalidKeeper_InvalidCommand ?_
      refine ⟨nle rfl, nle rfl, ?_⟩
      exact ⟨⟨rfl, nle rfl⟩, h⟩
    | 1, _, hC, h =>
      cases hC
      try dsimp only [wSeq, wSet, wFr, wLst, wCons, wCat, wBof, rdD]
      refine rd rfl T.xc_InvalidLoad T.kx_InvalidLoad_InvalidKeeper ?_
      try dsimp only [wSeq, wSet, wFr, wLst, wCons, wCat, wBof, rdD]
      refine rd rfl T.xc_InvalidLoad T.kx_InvalidLoad_InvalidLoad ?_
      try dsimp only [wSeq, wSet, wFr, wLst, wCons, wCat, wBof, rdD]
      refine rd rfl T.xc_InvalidLoad T.kx_InvalidLoad_InvalidZone ?_
      refine ⟨nle rfl, ?_⟩
      refine vbD rfl ?_
      try dsimp only [wSeq, wSet, wFr, wLst, wCons, wCat, wBof, rdD]
      refine rd rfl T.xc_InvalidLoad T.kx_InvalidLoad_InvalidText ?_
      try dsimp only [wSeq, wSet, wFr, wLst, wCons, wCat, wBof, rdD]
      refine rd rfl T.xc_InvalidLoad T.kx_InvalidLoad_InvalidEvent ?_
      refine ⟨nle rfl, nle rfl, ?_⟩
      refine vbD rfl ?_
      try dsimp only [wSeq, wSet, wFr, wLst, wCons, wCat, wBof, rdD]
      refine rd rfl T.xc_InvalidLoad T.kx_InvalidLoad_Refused ?_
      try dsimp only [wSeq, wSet, wFr, wLst, wCons, wCat, wBof, rdD]
      refine rd rfl T.xc_InvalidLoad T.kx_InvalidLoad_InvalidRing ?_
      refine ⟨nle rfl, nle rfl, ?_⟩
      refine vbD rfl ?_
      try dsimp only [wSeq, wSet, wFr, wLst, wCons, wCat, wBof, rdD]
      refine rd rfl T.xc_InvalidLoad T.kx_InvalidLoad_InvalidHarm ?_
      try dsimp only [wSeq, wSet, wFr, wLst, wCons, wCat, wBof, rdD]
      refine rd rfl T.xc_InvalidLoad T.kx_InvalidLoad_InvalidCommand ?_
      refine ⟨nle rfl, nle rfl, ?_⟩
      exact ⟨⟨rfl, nle rfl⟩, h⟩
    | 2, _, hC, h =>
      cases hC
      try dsimp only [wSeq, wSet, wFr, wLst, wCons, wCat, wBof, rdD]
      refine rd rfl T.xc_InvalidZone T.kx_InvalidZone_InvalidKeeper ?_
      try dsimp only [wSeq, wSet, wFr, wLst, wCons, wCat, wBof, rdD]
      refine rd rfl T.xc_InvalidZone T.kx_InvalidZone_InvalidLoad ?_
      try dsimp only [wSeq, wSet, wFr, wLst, wCons, wCat, wBof, rdD]
      refine rd rfl T.xc_InvalidZone T.kx_InvalidZone_InvalidZone ?_
      refine ⟨nle rfl, ?_⟩
      refine vbD rfl ?_
      try dsimp only [wSeq, wSet, wFr, wLst, wCons, wCat, wBof, rdD]
      refine rd rfl T.xc_InvalidZone T.kx_InvalidZone_InvalidText ?_
      try dsimp only [wSeq, wSet, wFr, wLst, wCons, wCat, wBof, rdD]
      refine rd rfl T.xc_InvalidZone T.kx_InvalidZone_InvalidEvent ?_
      refine ⟨nle rfl, nle rfl, ?_⟩
      refine vbD rfl ?_
      try dsimp only [wSeq, wSet, wFr, wLst, wCons, wCat, wBof, rdD]
      refine rd rfl T.xc_InvalidZone T.kx_InvalidZone_Refused ?_
      try dsimp only [wSeq, wSet, wFr, wLst, wCons, wCat, wBof, rdD]
      refine rd rfl T.xc_InvalidZone T.kx_InvalidZone_InvalidRing ?_
      refine ⟨nle rfl, nle rfl, ?_⟩
      refine vbD rfl ?_
      try dsimp only [wSeq, wSet, wFr, wLst, wCons, wCat, wBof, rdD]
      refine rd rfl T.xc_InvalidZone T.kx_InvalidZone_InvalidHarm ?_
      try dsimp only [wSeq, wSet, wFr, wLst, wCons, wCat, wBof, rdD]
      refine rd rfl T.xc_InvalidZone T.kx_InvalidZone_InvalidCommand ?_
      refine ⟨nle rfl, nle rfl, ?_⟩
      exact ⟨⟨rfl, nle rfl⟩, h⟩
    | 3, _, hC, h =>
      cases hC
      try dsimp only [wSeq, wSet, wFr, wLst, wCons, wCat, wBof, rdD]
      refine rd rfl T.xc_InvalidText T.kx_InvalidText_InvalidKeeper ?_
      try dsimp only [wSeq, wSet, wFr, wLst, wCons, wCat, wBof, rdD]
      refine rd rfl T.xc_InvalidText T.kx_InvalidText_InvalidLoad ?_
      try dsimp only [wSeq, wSet, wFr, wLst, wCons, wCat, wBof, rdD]
      refine rd rfl T.xc_InvalidText T.kx_InvalidText_InvalidZone ?_
      refine ⟨nle rfl, ?_⟩
      refine vbD rfl ?_
      try dsimp only [wSeq, wSet, wFr, wLst, wCons, wCat, wBof, rdD]
      refine rd rfl T.xc_InvalidText T.kx_InvalidText_InvalidText ?_
      try dsimp only [wSeq, wSet, wFr, wLst, wCons, wCat, wBof, rdD]
      refine rd rfl T.xc_InvalidText T.kx_InvalidText_InvalidEvent ?_
      refine ⟨nle rfl, nle rfl, ?_⟩
      refine vbD rfl ?_
      try dsimp only [wSeq, wSet, wFr, wLst, wCons, wCat, wBof, rdD]
      refine rd rfl T.xc_InvalidText T.kx_InvalidText_Refused ?_
      try dsimp only [wSeq, wSet, wFr, wLst, wCons, wCat, wBof, rdD]
      refine rd rfl T.xc_InvalidText T.kx_InvalidText_InvalidRing ?_
      refine ⟨nle rfl, nle rfl, ?_⟩
      refine vbD rfl ?_
      try dsimp only [wSeq, wSet, wFr, wLst, wCons, wCat, wBof, rdD]
      refine rd rfl T.xc_InvalidText T.kx_InvalidText_InvalidHarm ?_
      try dsimp only [wSeq, wSet, wFr, wLst, wCons, wCat, wBof, rdD]
      refine rd rfl T.xc_InvalidText T.kx_InvalidText_InvalidCommand ?_
      refine ⟨nle rfl, nle rfl, ?_⟩
      exact ⟨⟨rfl, nle rfl⟩, h⟩
    | 4, _, hC, h =>
      cases hC
      try dsimp only [wSeq, wSet, wFr, wLst, wCons, wCat, wBof, rdD]
      refine rd rfl T.xc_InvalidEvent T.kx_InvalidEvent_InvalidKeeper ?_
      try dsimp only [wSeq, wSet, wFr, wLst, wCons, wCat, wBof, rdD]
      refine rd rfl T.xc_InvalidEvent T.kx_InvalidEvent_InvalidLoad ?_
      try dsimp only [wSeq, wSet, wFr, wLst, wCons, wCat, wBof, rdD]
      refine rd rfl T.xc_InvalidEvent T.kx_InvalidEvent_InvalidZone ?_
      refine ⟨nle rfl, ?_⟩
      refine vbD rfl ?_
      try dsimp only [wSeq, wSet, wFr, wLst, wCons, wCat, wBof, rdD]
      refine rd rfl T.xc_InvalidEvent T.kx_InvalidEvent_InvalidText ?_
      try dsimp only [wSeq, wSet, wFr, wLst, wCons, wCat, wBof, rdD]
      refine rd rfl T.xc_InvalidEvent T.kx_InvalidEvent_InvalidEvent ?_
      refine ⟨nle rfl, nle rfl, ?_⟩
      refine vbD rfl ?_
      try dsimp only [wSeq, wSet, wFr, wLst, wCons, wCat, wBof, rdD]
      refine rd rfl T.xc_InvalidEvent T.kx_InvalidEvent_Refused ?_
      try dsimp only [wSeq, wSet, wFr, wLst, wCons, wCat, wBof, rdD]
      refine rd rfl T.xc_InvalidEvent T.kx_InvalidEvent_InvalidRing ?_
      refine ⟨nle rfl, nle rfl, ?_⟩
      refine vbD rfl ?_
      try dsimp only [wSeq, wSet, wFr, wLst, wCons, wCat, wBof, rdD]
      refine rd rfl T.xc_InvalidEvent T.kx_InvalidEvent_InvalidHarm ?_
      try dsimp only [wSeq, wSet, wFr, wLst, wCons, wCat, wBof, rdD]
      refine rd rfl T.xc_InvalidEvent T.kx_InvalidEvent_InvalidCommand ?_
      refine ⟨nle rfl, nle rfl, ?_⟩
      exact ⟨⟨rfl, nle rfl⟩, h⟩
    | 5, _, hC, h =>
      cases hC
      try dsimp only [wSeq, wSet, wFr, wLst, wCons, wCat, wBof, rdD]
      refine rd rfl T.xc_Refused T.kx_Refused_InvalidKeeper ?_
      try dsimp only [wSeq, wSet, wFr, wLst, wCons, wCat, wBof, rdD]
      refine rd rfl T.xc_Refused T.kx_Refused_InvalidLoad ?_
      try dsimp only [wSeq, wSet, wFr, wLst, wCons, wCat, wBof, rdD]
      refine rd rfl T.xc_Refused T.kx_Refused_InvalidZone ?_
      refine ⟨nle rfl, ?_⟩
      refine vbD rfl ?_
      try dsimp only [wSeq, wSet, wFr, wLst, wCons, wCat, wBof, rdD]
      refine rd rfl T.xc_Refused T.kx_Refused_InvalidText ?_
      try dsimp only [wSeq, wSet, wFr, wLst, wCons, wCat, wBof, rdD]
      refine rd rfl T.xc_Refused T.kx_Refused_InvalidEvent ?_
      refine ⟨nle rfl, nle rfl, ?_⟩
      refine vbD rfl ?_
      try dsimp only [wSeq, wSet, wFr, wLst, wCons, wCat, wBof, rdD]
      refine rd rfl T.xc_Refused T.kx_Refused_Refused ?_
      try dsimp only [wSeq, wSet, wFr, wLst, wCons, wCat, wBof, rdD]
      refine rd rfl T.xc_Refused T.kx_Refused_InvalidRing ?_
      refine ⟨nle rfl, nle rfl, ?_⟩
      refine vbD rfl ?_
      try dsimp only [wSeq, wSet, wFr, wLst, wCons, wCat, wBof, rdD]
      refine rd rfl T.xc_Refused T.kx_Refused_InvalidHarm ?_
      try dsimp only [wSeq, wSet, wFr, wLst, wCons, wCat, wBof, rdD]
      refine rd rfl T.xc_Refused T.kx_Refused_InvalidCommand ?_
      refine ⟨nle rfl, nle rfl, ?_⟩
      exact ⟨⟨rfl, nle rfl⟩, h⟩
    | 6, _, hC, h =>
      cases hC
      try dsimp only [wSeq, wSet, wFr, wLst, wCons, wCat, wBof, rdD]
      refine rd rfl T.xc_InvalidRing T.kx_InvalidRing_InvalidKeeper ?_
      try dsimp only [wSeq, wSet, wFr, wLst, wCons, wCat, wBof, rdD]
      refine rd rfl T.xc_InvalidRing T.kx_InvalidRing_InvalidLoad ?_
      try dsimp only [wSeq, wSet, wFr, wLst, wCons, wCat, wBof, rdD]
      refine rd rfl T.xc_InvalidRing T.kx_InvalidRing_InvalidZone ?_
      refine ⟨nle rfl, ?_⟩
      refine vbD rfl ?_
      try dsimp only [wSeq, wSet, wFr, wLst, wCons, wCat, wBof, rdD]
      refine rd rfl T.xc_InvalidRing T.kx_InvalidRing_InvalidText ?_
      try dsimp only [wSeq, wSet, wFr, wLst, wCons, wCat, wBof, rdD]
      refine rd rfl T.xc_InvalidRing T.kx_InvalidRing_InvalidEvent ?_
      refine ⟨nle rfl, nle rfl, ?_⟩
      refine vbD rfl ?_
      try dsimp only [wSeq, wSet, wFr, wLst, wCons, wCat, wBof, rdD]
      refine rd rfl T.xc_InvalidRing T.kx_InvalidRing_Refused ?_
      try dsimp only [wSeq, wSet, wFr, wLst, wCons, wCat, wBof, rdD]
      refine rd rfl T.xc_InvalidRing T.kx_InvalidRing_InvalidRing ?_
      refine ⟨nle rfl, nle rfl, ?_⟩
      refine vbD rfl ?_
      try dsimp only [wSeq, wSet, wFr, wLst, wCons, wCat, wBof, rdD]
      refine rd rfl T.xc_InvalidRing T.kx_InvalidRing_InvalidHarm ?_
      try dsimp only [wSeq, wSet, wFr, wLst, wCons, wCat, wBof, rdD]
      refine rd rfl T.xc_InvalidRing T.kx_InvalidRing_InvalidCommand ?_
      refine ⟨nle rfl, nle rfl, ?_⟩
      exact ⟨⟨rfl, nle rfl⟩, h⟩
    | 7, _, hC, h =>
      cases hC
      try dsimp only [wSeq, wSet, wFr, wLst, wCons, wCat, wBof, rdD]
      refine rd rfl T.xc_InvalidHarm T.kx_InvalidHarm_InvalidKeeper ?_
      try dsimp only [wSeq, wSet, wFr, wLst, wCons, wCat, wBof, rdD]
      refine rd rfl T.xc_InvalidHarm T.kx_InvalidHarm_InvalidLoad ?_
      try dsimp only [wSeq, wSet, wFr, wLst, wCons, wCat, wBof, rdD]
      refine rd rfl T.xc_InvalidHarm T.kx_InvalidHarm_InvalidZone ?_
      refine ⟨nle rfl, ?_⟩
      refine vbD rfl ?_
      try dsimp only [wSeq, wSet, wFr, wLst, wCons, wCat, wBof, rdD]
      refine rd rfl T.xc_InvalidHarm T.kx_InvalidHarm_InvalidText ?_
      try dsimp only [wSeq, wSet, wFr, wLst, wCons, wCat, wBof, rdD]
      refine rd rfl T.xc_InvalidHarm T.kx_InvalidHarm_InvalidEvent ?_
      refine ⟨nle rfl, nle rfl, ?_⟩
      refine vbD rfl ?_
      try dsimp only [wSeq, wSet, wFr, wLst, wCons, wCat, wBof, rdD]
      refine rd rfl T.xc_InvalidHarm T.kx_InvalidHarm_Refused ?_
      try dsimp only [wSeq, wSet, wFr, wLst, wCons, wCat, wBof, rdD]
      refine rd rfl T.xc_InvalidHarm T.kx_InvalidHarm_InvalidRing ?_
      refine ⟨nle rfl, nle rfl, ?_⟩
      refine vbD rfl ?_
      try dsimp only [wSeq, wSet, wFr, wLst, wCons, wCat, wBof, rdD]
      refine rd rfl T.xc_InvalidHarm T.kx_InvalidHarm_InvalidHarm ?_
      try dsimp only [wSeq, wSet, wFr, wLst, wCons, wCat, wBof, rdD]
      refine rd rfl T.xc_InvalidHarm T.kx_InvalidHarm_InvalidCommand ?_
      refine ⟨nle rfl, nle rfl, ?_⟩
      exact ⟨⟨rfl, nle rfl⟩, h⟩
    | 8, _, hC, h =>
      cases hC
      try dsimp only [wSeq, wSet, wFr, wLst, wCons, wCat, wBof, rdD]
      refine rd rfl T.xc_InvalidCommand T.kx_InvalidCommand_InvalidKeeper ?_
      try dsimp only [wSeq, wSet, wFr, wLst, wCons, wCat, wBof, rdD]
      refine rd rfl T.xc_InvalidCommand T.kx_InvalidCommand_InvalidLoad ?_
      try dsimp only [wSeq, wSet, wFr, wLst, wCons, wCat, wBof, rdD]
      refine rd rfl T.xc_InvalidCommand T.kx_InvalidCommand_InvalidZone ?_
      refine ⟨nle rfl, ?_⟩
      refine vbD rfl ?_
      try dsimp only [wSeq, wSet, wFr, wLst, wCons, wCat, wBof, rdD]
      refine rd rfl T.xc_InvalidCommand T.kx_InvalidCommand_InvalidText ?_
      try dsimp only [wSeq, wSet, wFr, wLst, wCons, wCat, wBof, rdD]
      refine rd rfl T.xc_InvalidCommand T.kx_InvalidCommand_InvalidEvent ?_
      refine ⟨nle rfl, nle rfl, ?_⟩
      refine vbD rfl ?_
      try dsimp only [wSeq, wSet, wFr, wLst, wCons, wCat, wBof, rdD]
      refine rd rfl T.xc_InvalidCommand T.kx_InvalidCommand_Refused ?_
      try dsimp only [wSeq, wSet, wFr, wLst, wCons, wCat, wBof, rdD]
      refine rd rfl T.xc_InvalidCommand T.kx_InvalidCommand_InvalidRing ?_
      refine ⟨nle rfl, nle rfl, ?_⟩
      refine vbD rfl ?_
      try dsimp only [wSeq, wSet, wFr, wLst, wCons, wCat, wBof, rdD]
      refine rd rfl T.xc_InvalidCommand T.kx_InvalidCommand_InvalidHarm ?_
      try dsimp only [wSeq, wSet, wFr, wLst, wCons, wCat, wBof, rdD]
      refine rd rfl T.xc_InvalidCommand T.kx_InvalidCommand_InvalidCommand ?_
      refine ⟨nle rfl, nle rfl, ?_⟩
      exact ⟨⟨rfl, nle rfl⟩, h⟩
theorem eqD_self {f : Bool → Bool} {x : Dv} {p : PyData} {W : WS} {Φ : Sv → WS → Prop} (e : pyD x = some p) (h : SeqAt.shaped p = true) (k : Φ (.d (.bl (f true))) W) : rdEqD f x x W Φ := by
  refine ⟨p, p, e, e, h, h, ?_⟩
  have hc : p.canLay0 = true := by
    unfold SeqAt.shaped at h
    rw [Bool.and_eq_true] at h
    exact h.1
  rw [SeqAt.eqv_refl p hc]
  exact k

theorem facts (T : TT K mg) {n : Nat} {C : Addr} (hn : n < 9) (hC : (csT T)[n]? = some C) : ExcC K C ∧ PySem.W.kitOne K (.ref C) (.ref T.c_FrostError) = some true ∧ PySem.W.kitOne K (.ref C) (.type "ValueError") = some true := by
  match n, hn, hC with
  | 0, _, hC => cases hC; exact ⟨T.xc_InvalidKeeper, T.kx_InvalidKeeper_FrostError, T.ki_InvalidKeeper_ValueError⟩
  | 1, _, hC => cases hC; exact ⟨T.xc_InvalidLoad, T.kx_InvalidLoad_FrostError, T.ki_InvalidLoad_ValueError⟩
  | 2, _, hC => cases hC; exact ⟨T.xc_InvalidZone, T.kx_InvalidZone_FrostError, T.ki_InvalidZone_ValueError⟩
  | 3, _, hC => cases hC; exact ⟨T.xc_InvalidText, T.kx_InvalidText_FrostError, T.ki_InvalidText_ValueError⟩
  | 4, _, hC => cases hC; exact ⟨T.xc_InvalidEvent, T.kx_InvalidEvent_FrostError, T.ki_InvalidEvent_ValueError⟩
  | 5, _, hC => cases hC; exact ⟨T.xc_Refused, T.kx_Refused_FrostError, T.ki_Refused_ValueError⟩
  | 6, _, hC => cases hC; exact ⟨T.xc_InvalidRing, T.kx_InvalidRing_FrostError, T.ki_InvalidRing_ValueError⟩
  | 7, _, hC => cases hC; exact ⟨T.xc_InvalidHarm, T.kx_InvalidHarm_FrostError, T.ki_InvalidHarm_ValueError⟩
  | 8, _, hC => cases hC; exact ⟨T.xc_InvalidCommand, T.kx_InvalidCommand_FrostError, T.ki_InvalidCommand_ValueError⟩
theorem factsW (T : TT K mg) {n : Nat} {C : Addr} (hn : n < 3) (hC : (csT T)[n]? = some C) : XfC K C ∧ PySem.W.findIn K (.ref C) "word" = some none := by
  match n, hn, hC with
  | 0, _, hC => cases hC; exact ⟨T.xf_InvalidKeeper, T.nf_InvalidKeeper⟩
  | 1, _, hC => cases hC; exact ⟨T.xf_InvalidLoad, T.nf_InvalidLoad⟩
  | 2, _, hC => cases hC; exact ⟨T.xf_InvalidZone, T.nf_InvalidZone⟩
theorem factsA (T : TT K mg) {n : Nat} {C : Addr} (h3 : ¬ n < 3) (hn : n < 6) (hC : (csT T)[n]? = some C) : XfC K C ∧ PySem.W.findIn K (.ref C) "at" = some none := by
  match n, h3, hn, hC with
  | 0, h3, _, _ => exact absurd (by decide) h3
  | 1, h3, _, _ => exact absurd (by decide) h3
  | 2, h3, _, _ => exact absurd (by decide) h3
  | 3, _, _, hC => cases hC; exact ⟨T.xf_InvalidText, T.nf_InvalidText⟩
  | 4, _, _, hC => cases hC; exact ⟨T.xf_InvalidEvent, T.nf_InvalidEvent⟩
  | 5, _, _, hC => cases hC; exact ⟨T.xf_Refused, T.nf_Refused⟩
theorem isV {i j : Nat} {cv : Value} {b : Bool} {σ : DS} {W : WS} {Ψ : Sv → WS → Prop} {C : Addr} {ks : List Str} {ds : List Sv} (hs : slot σ i = some (.v (.box j))) (hj : W[j]? = some (.xo C ks ds)) (hx : ExcC K C) (hk : PySem.W.kitOne K (.ref C) cv = some b) (q : Ψ (.d (.bl b)) W) : wIsXV K cv (wVar i) σ W Ψ := by
  unfold wIsXV wVar
  rw [hs]
  dsimp only
  rw [hj]
  exact ⟨hx, b, hk, q⟩
theorem rdV (T : TT K mg) {t : WT} {j n : Nat} {C : Addr} {y : Sv} {W : WS} {σ : DS} {Ψ : Sv → WS → Prop} (ht : ∀ Ψ : Bool → WS → Prop, Ψ (decide ((n : Int) < 3)) W → t σ W Ψ) (hs : slot σ 4 = some (.v (.box j))) (hn : n < 6) (hC : (csT T)[n]? = some C) (hj : W[j]? = some (.xo C (errK n) (errV n y))) (q : Ψ y W) : wIf t (wXvF K "word" (wVar 4)) (wXvF K "at" (wVar 4)) σ W Ψ := by
  refine ht _ ?_
  by_cases h3 : n < 3
  · rw [decide_eq_true (show (n : Int) < 3 by omega)]
    refine iteT ?_
    unfold wXvF wVar
    rw [hs]
    dsimp only
    rw [hj]
    dsimp only
    obtain ⟨a, b⟩ := factsW T h3 hC
    refine ⟨a, b, y, ?_, q⟩
    unfold errK errV
    rw [if_pos h3, if_pos hn]
    rfl
  · rw [decide_eq_false (show ¬ (n : Int) < 3 by omega)]
    refine iteF ?_
    unfold wXvF wVar
    rw [hs]
    dsimp only
    rw [hj]
    dsimp only
    obtain ⟨a, b⟩ := factsA T h3 hn hC
    refine ⟨a, b, y, ?_, q⟩
    unfold errK errV
    rw [if_neg h3, if_pos hn, if_pos hn]
    rfl
theorem appV {i m : Nat} {σ : DS} {W : WS} {Dd : DEnds} {rest : WSt} {xs : List Sv} {v : Dv} (hs : slot σ i = some (.v (.box m))) (hm : W[m]? = some (.lst xs)) (hl : xs.length < 1000000) (q : rest Dd σ (W.set m (.lst (xs ++ [.d v])))) : wSeq (wAppV (wVar i) (wC v)) rest Dd σ W := by
  unfold wSeq wAppV wVar wC
  dsimp only
  rw [hs]
  dsimp only
  rw [hm]
  exact ⟨hl, q⟩
theorem ok_law (T : TT K mg) : LawAt P w K mg T.f_law := by
  refine okG T.F_law sc_law T.B_law (k := 13) ⟨rfl, by decide, by decide⟩ fun base cdv A outer s H E hr hG => ⟨_, _, (ss_cons (s_for PassesOwn.never rfl (i_R1 (by rfl) T.b_range (b_cons (bb (d_callB (call_max2 rfl) cd_max2 (by rfl) T.b_max (by decide +kernel) (b_cons (bb d_int) (b_cons (bb (d_callB (call_min2 rfl) cd_min2 (by rfl) T.b_min (by decide +kernel) (b_cons (bb d_int) (b_cons (bb (d_callB call_len cd_len (by rfl) T.b_len (by decide +kernel) (b_cons (bv 0) b_nil))) b_nil)))) b_nil)))) b_nil)) (g_name (i := 1) sc_law.nd rfl (by first | exact Or.inl rfl | exact Or.inr rfl))
  (ss_cons (s_set (i := 2) sc_law.nd rfl (by first | exact Or.inl rfl | exact Or.inr rfl) (d_call (ok__law_deal T) (by exact hr.mono (by decide)) (by rfl) T.m__law_deal T.F__law_deal.kp T.B__law_deal .nil Cn.nil (a_cons (dv 0) (a_cons (dv 1) a_nil))))
  (ss_one (s_for PassesOwn.never rfl (i_R1 (by rfl) T.b_range (b_cons (bb d_int) b_nil)) (g_name (i := 3) sc_law.nd rfl (by first | exact Or.inl rfl | exact Or.inr rfl))
  (ss_cons (s_par (i := 5) (j := 6) rfl sc_law.nd rfl rfl (by decide) rfl rfl (a_cons (d_call (ok__law_thing T) (by exact hr.mono (by decide)) (by rfl) T.m__law_thing T.F__law_thing.kp T.B__law_thing .nil Cn.nil (a_cons (dv 2) (a_cons d_int a_nil))) (a_cons (d_box (f_lst (a_cons (d_call (ok__law_thing T) (by exact hr.mono (by decide)) (by rfl) T.m__law_thing T.F__law_thing.kp T.B__law_thing .nil Cn.nil (a_cons (dv 2) (a_cons d_int a_nil))) a_nil))) a_nil)) (by rfl))
  (ss_cons (s_set (i := 4) sc_law.nd rfl (by first | exact Or.inl rfl | exact Or.inr rfl) (d_call (ok__law_error T) (by exact hr.mono (by decide)) (by rfl) T.m__law_error T.F__law_error.kp T.B__law_error .nil Cn.nil (a_cons (dv 3) (a_cons (dv 5) a_nil))))
  (ss_cons (s_if (t_bo (p_or (t_cmp (op_neD hr.units) od_neD (bb (d_call (ok__law_sorts T) (by exact hr.mono (by decide)) (by rfl) T.m__law_sorts T.F__law_sorts.kp T.B__law_sorts .nil Cn.nil (a_cons (dv 4) a_nil))) (bb (d_fr (f_lst (a_cons (dv 3) a_nil)))) (nomark _)) (p_or1 (t_not (t_val (d_isXV (by rfl) T.b_isinstance (.own _) (dv 4) (pe_glob (v := .ref _) (by rfl) T.m_FrostError rfl)))))))
  (ss_one (s_ret d_bl))
  ss_nil)
  (ss_cons (s_if (t_not (t_val (d_isXV (by rfl) T.b_isinstance (.ty _) (dv 4) (d_bltn (v := .ty "ValueError") (by rfl) T.b_ValueError (by decide +kernel) rfl).pe)))
  (ss_one (s_ret d_bl))
  ss_nil)
  (ss_one (s_if (t_cmp op_lt o_lt (bv 3) (bb d_int) (nomark _))
  (ss_cons (s_if (t_cmp op_ne od_ne (bb (d_repr hG hr (by rfl) T.b_repr (b_cons (bb (d_if (t_cmp op_lt o_lt (bv 3) (bb d_int) (nomark _)) (d_xvf (dv 4)) (d_xvf (dv 4)))) b_nil))) (bb (d_repr hG hr (by rfl) T.b_repr (b_cons (bv 5) b_nil))) (nomark _))
  (ss_one (s_ret d_bl))
  ss_nil)
  (ss_cons (s_set (i := 4) sc_law.nd rfl (by first | exact Or.inl rfl | exact Or.inr rfl) (d_call (ok__law_by_name T) (by exact hr.mono (by decide)) (by rfl) T.m__law_by_name T.F__law_by_name.kp T.B__law_by_name .nil Cn.nil (a_cons (dv 3) (a_cons (dv 6) a_nil))))
  (ss_cons (s_appV (dv 6) d_str)
  (ss_one (s_if (t_neBB hr.units (d_if (t_cmp op_lt o_lt (bv 3) (bb d_int) (nomark _)) (d_xvf (dv 4)) (d_xvf (dv 4))) (dv 6) (nomark _))
  (ss_one (s_ret d_bl))
  ss_nil)))))
  ss_nil))))))))))
  (ss_one (s_ret d_bl))), fun xs W Φ h => ?_⟩
  unfold wfLaw at h
  split at h
  · rename_i xs
    obtain ⟨⟨ns, rfl, hs⟩, rfl, h⟩ := h
    have hl : ns.length ≤ 63 := hs.1
    have hm := mx_mn hl (a := 2) (b := 4) (by decide) (by decide)
    refine ⟨by show _ ∧ _; rw [List.length_map]; exact rng_ok hm.1 (by omega), ?_⟩
    refine loop_rg (fun σ _ => ∃ o1 o2 o3 o4 o5 o6 : Option Sl, σ = [some (.v (.d (.lst (ns.map Dv.int)))), o1, o2, o3, o4, o5, o6]) ⟨none, none, none, none, none, none, rfl⟩ ?_ ?_
    · rintro σ W ⟨o1, o2, o3, o4, o5, o6, rfl⟩
      exact h _
    rintro k hk0 hk1 σ W D ⟨o1, o2, o3, o4, o5, o6, rfl⟩ hrt - hD -
    have hk : k ≤ 1000 := by
      rw [List.length_map] at hk1
      omega
    refine ⟨⟨ns, rfl, hs⟩, ⟨hk0, hk⟩, ?_⟩
    have hd : (W ++ [WObj.obj dealK])[W.length]? = some (.obj dealK) := at_last
    generalize W ++ [WObj.obj dealK] = W1 at hd
    generalize W.length = j at hd
    refine ⟨by decide, ?_⟩
    refine loop_rg (fun σ W' => W'[j]? = some (.obj dealK) ∧ ∃ o3 o4 o5 o6 : Option Sl, σ = [some (.v (.d (.lst (ns.map Dv.int)))), some (.v (.d (.int k))), some (.v (.box j)), o3, o4, o5, o6]) ⟨hd, _, _, _, _, rfl⟩ ?_ ?_
    · rintro σ W' ⟨hd, o3, o4, o5, o6, rfl⟩
      exact hD _ _ ⟨_, _, _, _, _, _, rfl⟩
    rintro i i0 i1 σ W' D2 ⟨hd, o3, o4, o5, o6, rfl⟩ hrt2 - hD2 -
    obtain ⟨n, rfl⟩ := Int.eq_ofNat_of_zero_le i0
    have hn : n < 9 := by omega
    refine ⟨⟨7, by decide⟩, j, rfl, hd, fun x hx => ?_⟩
    refine ⟨⟨3, by decide⟩, j, rfl, hd, fun y hy => ?_⟩
    obtain ⟨C, hC⟩ : ∃ C, (csT T)[n]? = some C := ⟨_, List.getElem?_eq_getElem (show n < 9 from hn)⟩
    obtain ⟨f1, f2, f3⟩ := facts T hn hC
    refine ⟨nle rfl, ?_⟩
    refine ⟨n, x, C, rfl, hn, hC, ?_⟩
    have hj : j < W'.length := (List.getElem?_eq_some_iff.mp hd).1
    have hm : (W' ++ [WObj.lst ([y].map Sv.d)])[W'.length]? = some (.lst ([y].map Sv.d)) := at_last
    have hd2 : (W' ++ [WObj.lst ([y].map Sv.d)])[j]? = some (.obj dealK) := by rw [List.getElem?_append_left hj]; exact hd
    have hmj : W'.length ≠ j := by omega
    generalize W' ++ [WObj.lst ([y].map Sv.d)] = W2 at hm hd2 ⊢
    generalize W'.length = m at hm hmj ⊢
    have hml : m < W2.length := (List.getElem?_eq_some_iff.mp hm).1
    have he : (W2 ++ [WObj.xo C (errK n) (errV n (.d x))])[W2.length]? = some (.xo C (errK n) (errV n (.d x))) := at_last
    refine nxp ?_
    refine sif_f (fun Ψ hΨ => ?_) ?_
    · refine ⟨W2.length, n, C, _, _, rfl, hn, hC, he, nle rfl, ?_⟩
      dsimp only [rdD]
      refine eqD_self (f := not) (x := .lst [.int n]) (p := .list [.int n]) rfl (by simp [SeqAt.shaped, PyData.canLay0, PyData.canLayAll0, PyData.depth, PyData.depthAll]) ?_
      refine iteF ?_
      dsimp only [wNot, DL.wB]
      refine isV rfl he f1 f2 ?_
      exact hΨ
    refine sif_f (fun Ψ hΨ => ?_) ?_
    · dsimp only [wNot, DL.wB]
      refine isV rfl he f1 f3 ?_
      exact hΨ
    show (if decide ((n : Int) < 6) = true then _ else _)
    refine ite_d (fun h6 => ?_) (fun h6 => ?_)
    rotate_left
    · exact hD2 _ _ ⟨by rw [List.getElem?_append_left (List.getElem?_eq_some_iff.mp hd2).1]; exact hd2, _, _, _, _, rfl⟩
    have h6' : n < 6 := by omega
    obtain ⟨p, e1, e2, e3, e4⟩ := thg_repr hx
    refine sif_f (fun Ψ hΨ => ?_) ?_
    · dsimp only [DL.wB, wOp, wBof, wCB, wConsB, rdD]
      refine rdV T (fun Ψ q => q) rfl h6' hC he ?_
      refine ⟨p, e1, e2, e3, e4, p, e1, e2, e3, e4, ?_⟩
      show Ψ (!decide (p.shown = p.shown)) _
      rw [decide_eq_true rfl]
      exact hΨ
    refine ⟨n, .box m, C, rfl, h6', hC, ?_⟩
    have hm3 : (W2 ++ [WObj.xo C (errK n) (errV n (.d x))])[m]? = some (.lst ([y].map Sv.d)) := by rw [List.getElem?_append_left hml]; exact hm
    have hd3 : (W2 ++ [WObj.xo C (errK n) (errV n (.d x))])[j]? = some (.obj dealK) := by rw [List.getElem?_append_left (List.getElem?_eq_some_iff.mp hd2).1]; exact hd2
    generalize W2 ++ [WObj.xo C (errK n) (errV n (.d x))] = W3 at hm3 hd3 ⊢
    have hml3 : m < W3.length := (List.getElem?_eq_some_iff.mp hm3).1
    have hm4 : (W3 ++ [WObj.xo C (errK n) (errV n (.box m))])[m]? = some (.lst ([y].map Sv.d)) := by rw [List.getElem?_append_left hml3]; exact hm3
    have hd4 : (W3 ++ [WObj.xo C (errK n) (errV n (.box m))])[j]? = some (.obj dealK) := by rw [List.getElem?_append_left (List.getElem?_eq_some_iff.mp hd3).1]; exact hd3
    have he4 : (W3 ++ [WObj.xo C (errK n) (errV n (.box m))])[W3.length]? = some (.xo C (errK n) (errV n (.box m))) := at_last
    generalize W3 ++ [WObj.xo C (errK n) (errV n (.box m))] = W4 at hm4 hd4 he4 ⊢
    generalize W3.length = q at hml3 he4 ⊢
    refine nxp ?_
    refine appV (xs := [y].map Sv.d) rfl hm4 (by rw [List.length_map, List.length_singleton]; decide) ?_
    have hml4 : m < W4.length := (List.getElem?_eq_some_iff.mp hm4).1
    have hm5 : (W4.set m (.lst ([y].map Sv.d ++ [.d (.str "late")])))[m]? = some (.lst ([y, .str "late"].map Sv.d)) := by
      rw [List.getElem?_set_self hml4]
      rfl
    have hd5 : (W4.set m (.lst ([y].map Sv.d ++ [.d (.str "late")])))[j]? = some (.obj dealK) := by
      rw [List.getElem?_set_ne hmj]
      exact hd4
    have he5 : (W4.set m (.lst ([y].map Sv.d ++ [.d (.str "late")])))[q]? = some (.xo C (errK n) (errV n (.box m))) := by
      rw [List.getElem?_set_ne (by omega)]
      exact he4
    generalize W4.set m (.lst ([y].map Sv.d ++ [.d (.str "late")])) = W5 at hm5 hd5 he5 ⊢
    refine lif_f (fun Ψ hΨ => ?_) (hD2 _ _ ⟨hd5, _, _, _, _, rfl⟩)
    obtain ⟨pp, l1, l2⟩ := thg_loose hy
    have hc : (PyData.list [pp, .str "late"]).canLay0 = true := by
      unfold SeqAt.shaped at l2
      rw [Bool.and_eq_true] at l2
      exact l2.1
    dsimp only [DL.wB, wNeBB]
    refine rdV T (fun Ψ q => q) rfl h6' hC he5 ?_
    refine ⟨[y, .str "late"], [y, .str "late"], _, _, hm5, hm5, l1, l1, l2, l2, ?_⟩
    rw [SeqAt.eqv_refl _ hc]
    exact hΨ
  · exact h.elim
end
theorem all_mk {w : World} {K : PySem.W.Frag} {h : Heap} {mg : Str → Option Value} {fa : Addr} (X : K.In h) (c : DH.Says MyH.FA MyH.DA MyH.TA w K) (G : h.Ns mainGlobals mg) (hfa : mg "law" = some (.ref fa)) : LawAt P w K mg fa := by
  have q := (PySem.W.mg_of X G (c.f 21 rfl)).symm.trans hfa
  cases q
  obtain ⟨fd__law_deal, F__law_deal⟩ := c.fn 0 rfl
  obtain ⟨fd__law_draw, F__law_draw⟩ := c.fn 1 rfl
  obtain ⟨fd__law_pick, F__law_pick⟩ := c.fn 2 rfl
  obtain ⟨fd__law_thing, F__law_thing⟩ := c.fn 3 rfl
  obtain ⟨fd__law_error, F__law_error⟩ := c.fn 4 rfl
  obtain ⟨fd__law_by_name, F__law_by_name⟩ := c.fn 5 rfl
  obtain ⟨fd__law_sorts, F__law_sorts⟩ := c.fn 6 rfl
  obtain ⟨fd_law, F_law⟩ := c.fn 7 rfl
  obtain ⟨_, _, _, _, _, _, _, _, _, _, _, _, _, _, lk_FrostError⟩ := DH.exB_ok (c.f 22 rfl)
  obtain ⟨oc_InvalidKeeper, od_InvalidKeeper, sl_InvalidKeeper, kV_InvalidKeeper, dc_InvalidKeeper, pm_InvalidKeeper, an_InvalidKeeper, ct_InvalidKeeper, lf_InvalidKeeper, cd_InvalidKeeper⟩ := c.ks 8 rfl
  obtain ⟨oc2_InvalidKeeper, od2_InvalidKeeper, vs_InvalidKeeper, sl2_InvalidKeeper, tf_InvalidKeeper, lc_InvalidKeeper, vx_InvalidKeeper⟩ := DH.fileB_ok (c.f 31 rfl)
  obtain ⟨oc3_InvalidKeeper, od3_InvalidKeeper, sl3_InvalidKeeper, ll_InvalidKeeper⟩ := DH.cellB_ok (c.f 32 rfl)
  obtain ⟨nm_InvalidKeeper, q_InvalidKeeper, N_InvalidKeeper, bs_InvalidKeeper, sn_InvalidKeeper, sub_InvalidKeeper, ab_InvalidKeeper, col_InvalidKeeper, dd_InvalidKeeper, k0_InvalidKeeper, k1_InvalidKeeper, k2_InvalidKeeper, k3_InvalidKeeper, k5_InvalidKeeper, lk_InvalidKeeper⟩ := DH.exB_ok (c.f 33 rfl)
  obtain ⟨oc_InvalidLoad, od_InvalidLoad, sl_InvalidLoad, kV_InvalidLoad, dc_InvalidLoad, pm_InvalidLoad, an_InvalidLoad, ct_InvalidLoad, lf_InvalidLoad, cd_InvalidLoad⟩ := c.ks 9 rfl
  obtain ⟨oc2_InvalidLoad, od2_InvalidLoad, vs_InvalidLoad, sl2_InvalidLoad, tf_InvalidLoad, lc_InvalidLoad, vx_InvalidLoad⟩ := DH.fileB_ok (c.f 54 rfl)
  obtain ⟨oc3_InvalidLoad, od3_InvalidLoad, sl3_InvalidLoad, ll_InvalidLoad⟩ := DH.cellB_ok (c.f 55 rfl)
  obtain ⟨nm_InvalidLoad, q_InvalidLoad, N_InvalidLoad, bs_InvalidLoad, sn_InvalidLoad, sub_InvalidLoad, ab_InvalidLoad, col_InvalidLoad, dd_InvalidLoad, k0_InvalidLoad, k1_InvalidLoad, k2_InvalidLoad, k3_InvalidLoad, k5_InvalidLoad, lk_InvalidLoad⟩ := DH.exB_ok (c.f 56 rfl)
  obtain ⟨oc_InvalidZone, od_InvalidZone, sl_InvalidZone, kV_InvalidZone, dc_InvalidZone, pm_InvalidZone, an_InvalidZone, ct_InvalidZone, lf_InvalidZone, cd_InvalidZone⟩ := c.ks 10 rfl
  obtain ⟨oc2_InvalidZone, od2_InvalidZone, vs_InvalidZone, sl2_InvalidZone, tf_InvalidZone, lc_InvalidZone, vx_InvalidZone⟩ := DH.fileB_ok (c.f 75 rfl)
  obtain ⟨oc3_InvalidZone, od3_InvalidZone, sl3_InvalidZone, ll_InvalidZone⟩ := DH.cellB_ok (c.f 76 rfl)
  obtain ⟨nm_InvalidZone, q_InvalidZone, N_InvalidZone, bs_InvalidZone, sn_InvalidZone, sub_InvalidZone, ab_InvalidZone, col_InvalidZone, dd_InvalidZone, k0_InvalidZone, k1_InvalidZone, k2_InvalidZone, k3_InvalidZone, k5_InvalidZone, lk_InvalidZone⟩ := DH.exB_ok (c.f 77 rfl)
  obtain ⟨oc_InvalidText, od_InvalidText, sl_InvalidText, kV_InvalidText, dc_InvalidText, pm_InvalidText, an_InvalidText, ct_InvalidText, lf_InvalidText, cd_InvalidText⟩ := c.ks 11 rfl
  obtain ⟨oc2_InvalidText, od2_InvalidText, vs_InvalidText, sl2_InvalidText, tf_InvalidText, lc_InvalidText, vx_InvalidText⟩ := DH.fileB_ok (c.f 96 rfl)
  obtain ⟨oc3_InvalidText, od3_InvalidText, sl3_InvalidText, ll_InvalidText⟩ := DH.cellB_ok (c.f 97 rfl)
  obtain ⟨nm_InvalidText, q_InvalidText, N_InvalidText, bs_InvalidText, sn_InvalidText, sub_InvalidText, ab_InvalidText, col_InvalidText, dd_InvalidText, k0_InvalidText, k1_InvalidText, k2_InvalidText, k3_InvalidText, k5_InvalidText, lk_InvalidText⟩ := DH.exB_ok (c.f 98 rfl)
  obtain ⟨oc_InvalidEvent, od_InvalidEvent, sl_InvalidEvent, kV_InvalidEvent, dc_InvalidEvent, pm_InvalidEvent, an_InvalidEvent, ct_InvalidEvent, lf_InvalidEvent, cd_InvalidEvent⟩ := c.ks 12 rfl
  obtain ⟨oc2_InvalidEvent, od2_InvalidEvent, vs_InvalidEvent, sl2_InvalidEvent, tf_InvalidEvent, lc_InvalidEvent, vx_InvalidEvent⟩ := DH.fileB_ok (c.f 117 rfl)
  obtain ⟨oc3_InvalidEvent, od3_InvalidEvent, sl3_InvalidEvent, ll_InvalidEvent⟩ := DH.cellB_ok (c.f 118 rfl)
  obtain ⟨nm_InvalidEvent, q_InvalidEvent, N_InvalidEvent, bs_InvalidEvent, sn_InvalidEvent, sub_InvalidEvent, ab_InvalidEvent, col_InvalidEvent, dd_InvalidEvent, k0_InvalidEvent, k1_InvalidEvent, k2_InvalidEvent, k3_InvalidEvent, k5_InvalidEvent, lk_InvalidEvent⟩ := DH.exB_ok (c.f 119 rfl)
  obtain ⟨oc_Refused, od_Refused, sl_Refused, kV_Refused, dc_Refused, pm_Refused, an_Refused, ct_Refused, lf_Refused, cd_Refused⟩ := c.ks 13 rfl
  obtain ⟨oc2_Refused, od2_Refused, vs_Refused, sl2_Refused, tf_Refused, lc_Refused, vx_Refused⟩ := DH.fileB_ok (c.f 138 rfl)
  obtain ⟨oc3_Refused, od3_Refused, sl3_Refused, ll_Refused⟩ := DH.cellB_ok (c.f 139 rfl)
  obtain ⟨nm_Refused, q_Refused, N_Refused, bs_Refused, sn_Refused, sub_Refused, ab_Refused, col_Refused, dd_Refused, k0_Refused, k1_Refused, k2_Refused, k3_Refused, k5_Refused, lk_Refused⟩ := DH.exB_ok (c.f 140 rfl)
  obtain ⟨oc_InvalidRing, od_InvalidRing, sl_InvalidRing, kV_InvalidRing, dc_InvalidRing, pm_InvalidRing, an_InvalidRing, ct_InvalidRing, lf_InvalidRing, cd_InvalidRing⟩ := c.ks 14 rfl
  obtain ⟨oc2_InvalidRing, od2_InvalidRing, vs_InvalidRing, sl2_InvalidRing, tf_InvalidRing, lc_InvalidRing, vx_InvalidRing⟩ := DH.fileB_ok (c.f 159 rfl)
  obtain ⟨oc3_InvalidRing, od3_InvalidRing, sl3_InvalidRing, ll_InvalidRing⟩ := DH.cellB_ok (c.f 160 rfl)
  obtain ⟨nm_InvalidRing, q_InvalidRing, N_InvalidRing, bs_InvalidRing, sn_InvalidRing, sub_InvalidRing, ab_InvalidRing, col_InvalidRing, dd_InvalidRing, k0_InvalidRing, k1_InvalidRing, k2_InvalidRing, k3_InvalidRing, k5_InvalidRing, lk_InvalidRing⟩ := DH.exB_ok (c.f 161 rfl)
  obtain ⟨oc_InvalidHarm, od_InvalidHarm, sl_InvalidHarm, kV_InvalidHarm, dc_InvalidHarm, pm_InvalidHarm, an_InvalidHarm, ct_InvalidHarm, lf_InvalidHarm, cd_InvalidHarm⟩ := c.ks 15 rfl
  obtain ⟨oc2_InvalidHarm, od2_InvalidHarm, vs_InvalidHarm, sl2_InvalidHarm, tf_InvalidHarm, lc_InvalidHarm, vx_InvalidHarm⟩ := DH.fileB_ok (c.f 179 rfl)
  obtain ⟨oc3_InvalidHarm, od3_InvalidHarm, sl3_InvalidHarm, ll_InvalidHarm⟩ := DH.cellB_ok (c.f 180 rfl)
  obtain ⟨nm_InvalidHarm, q_InvalidHarm, N_InvalidHarm, bs_InvalidHarm, sn_InvalidHarm, sub_InvalidHarm, ab_InvalidHarm, col_InvalidHarm, dd_InvalidHarm, k0_InvalidHarm, k1_InvalidHarm, k2_InvalidHarm, k3_InvalidHarm, k5_InvalidHarm, lk_InvalidHarm⟩ := DH.exB_ok (c.f 181 rfl)
  obtain ⟨oc_InvalidCommand, od_InvalidCommand, sl_InvalidCommand, kV_InvalidCommand, dc_InvalidCommand, pm_InvalidCommand, an_InvalidCommand, ct_InvalidCommand, lf_InvalidCommand, cd_InvalidCommand⟩ := c.ks 16 rfl
  obtain ⟨oc2_InvalidCommand, od2_InvalidCommand, vs_InvalidCommand, sl2_InvalidCommand, tf_InvalidCommand, lc_InvalidCommand, vx_InvalidCommand⟩ := DH.fileB_ok (c.f 199 rfl)
  obtain ⟨oc3_InvalidCommand, od3_InvalidCommand, sl3_InvalidCommand, ll_InvalidCommand⟩ := DH.cellB_ok (c.f 200 rfl)
  obtain ⟨nm_InvalidCommand, q_InvalidCommand, N_InvalidCommand, bs_InvalidCommand, sn_InvalidCommand, sub_InvalidCommand, ab_InvalidCommand, col_InvalidCommand, dd_InvalidCommand, k0_InvalidCommand, k1_InvalidCommand, k2_InvalidCommand, k3_InvalidCommand, k5_InvalidCommand, lk_InvalidCommand⟩ := DH.exB_ok (c.f 201 rfl)
  let T : TT K mg := {
    b_int := PySem.W.mg_none_of X G (c.f 0 rfl),
    b_bool := PySem.W.mg_none_of X G (c.f 1 rfl),
    b_str := PySem.W.mg_none_of X G (c.f 2 rfl),
    b_isinstance := PySem.W.mg_none_of X G (c.f 3 rfl),
    b_abs := PySem.W.mg_none_of X G (c.f 4 rfl),
    b_max := PySem.W.mg_none_of X G (c.f 5 rfl),
    b_min := PySem.W.mg_none_of X G (c.f 6 rfl),
    b_len := PySem.W.mg_none_of X G (c.f 7 rfl),
    b_range := PySem.W.mg_none_of X G (c.f 8 rfl),
    b_list := PySem.W.mg_none_of X G (c.f 9 rfl),
    b_repr := PySem.W.mg_none_of X G (c.f 10 rfl),
    b_tuple := PySem.W.mg_none_of X G (c.f 11 rfl),
    b_enumerate := PySem.W.mg_none_of X G (c.f 12 rfl),
    b_ValueError := PySem.W.mg_none_of X G (c.f 13 rfl),
    f__law_deal := (He.ga K "_law_deal"),
    fd__law_deal := fd__law_deal,
    F__law_deal := F__law_deal,
    m__law_deal := PySem.W.mg_of X G (c.f 14 rfl),
    f__law_draw := (He.ga K "_law_draw"),
    fd__law_draw := fd__law_draw,
    F__law_draw := F__law_draw,
    m__law_draw := PySem.W.mg_of X G (c.f 15 rfl),
    f__law_pick := (He.ga K "_law_pick"),
    fd__law_pick := fd__law_pick,
    F__law_pick := F__law_pick,
    m__law_pick := PySem.W.mg_of X G (c.f 16 rfl),
    f__law_thing := (He.ga K "_law_thing"),
    fd__law_thing := fd__law_thing,
    F__law_thing := F__law_thing,
    m__law_thing := PySem.W.mg_of X G (c.f 17 rfl),
    f__law_error := (He.ga K "_law_error"),
    fd__law_error := fd__law_error,
    F__law_error := F__law_error,
    m__law_error := PySem.W.mg_of X G (c.f 18 rfl),
    f__law_by_name := (He.ga K "_law_by_name"),
    fd__law_by_name := fd__law_by_name,
    F__law_by_name := F__law_by_name,
    m__law_by_name := PySem.W.mg_of X G (c.f 19 rfl),
    f__law_sorts := (He.ga K "_law_sorts"),
    fd__law_sorts := fd__law_sorts,
    F__law_sorts := F__law_sorts,
    m__law_sorts := PySem.W.mg_of X G (c.f 20 rfl),
    f_law := (He.ga K "law"),
    fd_law := fd_law,
    F_law := F_law,
    m_law := PySem.W.mg_of X G (c.f 21 rfl),
    c_FrostError := (He.ga K "FrostError"),
    m_FrostError := PySem.W.mg_of X G (c.f 29 rfl),
    c_InvalidKeeper := (He.ga K "InvalidKeeper"),
    m_InvalidKeeper := PySem.W.mg_of X G (c.f 30 rfl),
    ki_InvalidKeeper_ValueError := DL.kit_rt (c.f 49 rfl) (by decide +kernel),
    xk_InvalidKeeper := ⟨fun s us ws _ h1 h2 => .of_eq (match us, ws, h1, h2 with | [_], [_], _, _ => rfl), fun r1 r2 => r1.append r2⟩,
    xf_InvalidKeeper := ⟨(c.f 43 rfl), (c.f 44 rfl), (c.f 35 rfl), (c.f 45 rfl)⟩,
    nf_InvalidKeeper := (c.f 52 rfl),
    ox_InvalidKeeper := ⟨⟨nm_InvalidKeeper, q_InvalidKeeper, N_InvalidKeeper, bs_InvalidKeeper, _, sn_InvalidKeeper, sub_InvalidKeeper, ab_InvalidKeeper, col_InvalidKeeper, dd_InvalidKeeper, k0_InvalidKeeper, k1_InvalidKeeper, k2_InvalidKeeper, k3_InvalidKeeper, k5_InvalidKeeper, lk_InvalidKeeper, rfl⟩, (c.f 34 rfl), (c.f 35 rfl), (c.f 36 rfl), (c.f 37 rfl)⟩,
    xc_InvalidKeeper := ⟨(c.f 43 rfl), (c.f 44 rfl), (c.f 35 rfl), (c.f 45 rfl), (c.f 46 rfl), (c.f 27 rfl), (c.f 28 rfl), (c.f 47 rfl)⟩,
    fi_InvalidKeeper := (He.ma K (He.ga K "InvalidKeeper") "__init__"),
    fdi_InvalidKeeper := PySem.W.ksFn "__init__" "InvalidKeeper.__init__" (defArgs s_InvalidKeeper) (defBody s_InvalidKeeper) (defScope s_InvalidKeeper) .none kV_InvalidKeeper dc_InvalidKeeper pm_InvalidKeeper an_InvalidKeeper (.ref (DH.caA K (He.ma K (He.ga K "InvalidKeeper") "__init__"))) ct_InvalidKeeper (DH.ccA K (He.ma K (He.ga K "InvalidKeeper") "__init__")),
    ii_InvalidKeeper := (c.f 38 rfl),
    ti_InvalidKeeper := (c.f 39 rfl),
    xb_InvalidKeeper := .all fun us hl => match us, hl with | [_, _], _ => rfl,
    xi_InvalidKeeper := fun w base => SX.fn_s1 (F := ⟨"__init__", "InvalidKeeper.__init__", defArgs s_InvalidKeeper, defBody s_InvalidKeeper, defScope s_InvalidKeeper, [("__class__", (DH.ccA K (He.ma K (He.ga K "InvalidKeeper") "__init__")))], (DH.caA K (He.ma K (He.ga K "InvalidKeeper") "__init__"))⟩) (N := ["self", "word", "__class__"]) (x := "word") (fld := "word") ⟨⟨oc_InvalidKeeper, od_InvalidKeeper, sl_InvalidKeeper, lf_InvalidKeeper⟩, rfl, rfl, ⟨oc2_InvalidKeeper, od2_InvalidKeeper, vs_InvalidKeeper, sl2_InvalidKeeper, _, tf_InvalidKeeper, lc_InvalidKeeper, vx_InvalidKeeper, beq_self_eq_true _⟩, ⟨oc3_InvalidKeeper, od3_InvalidKeeper, sl3_InvalidKeeper, ll_InvalidKeeper⟩, (c.f 40 rfl), (c.f 41 rfl), PySem.W.mg_none_of X G (c.f 50 rfl), rfl, rfl, rfl, by decide +kernel, (c.f 51 rfl), SX.ini_of lk_InvalidKeeper lk_FrostError (c.f 23 rfl), (c.f 42 rfl)⟩ ⟨⟨nm_InvalidKeeper, q_InvalidKeeper, N_InvalidKeeper, bs_InvalidKeeper, _, sn_InvalidKeeper, sub_InvalidKeeper, ab_InvalidKeeper, col_InvalidKeeper, dd_InvalidKeeper, k0_InvalidKeeper, k1_InvalidKeeper, k2_InvalidKeeper, k3_InvalidKeeper, k5_InvalidKeeper, lk_InvalidKeeper, rfl⟩, (c.f 34 rfl), (c.f 35 rfl), (c.f 36 rfl), (c.f 37 rfl)⟩ (show NdefX.NScope ["self", "word", "__class__"] ["self", "word"] ["__class__"] (defScope s_InvalidKeeper) from NdefX.nscope_by (by decide +kernel)) cd_InvalidKeeper rfl (fun L => ⟨_, rfl⟩) rfl rfl rfl (c.f 52 rfl) (by decide +kernel) (by decide +kernel) (fun L => rfl),
    xm_InvalidKeeper := PySem.W.exm_ref (c.f 24 rfl) (c.f 25 rfl) (c.f 26 rfl) (c.f 48 rfl),
    c_InvalidLoad := (He.ga K "InvalidLoad"),
    m_InvalidLoad := PySem.W.mg_of X G (c.f 53 rfl),
    ki_InvalidLoad_ValueError := DL.kit_rt (c.f 72 rfl) (by decide +kernel),
    xk_InvalidLoad := ⟨fun s us ws _ h1 h2 => .of_eq (match us, ws, h1, h2 with | [_], [_], _, _ => rfl), fun r1 r2 => r1.append r2⟩,
    xf_InvalidLoad := ⟨(c.f 66 rfl), (c.f 67 rfl), (c.f 58 rfl), (c.f 68 rfl)⟩,
    nf_InvalidLoad := (c.f 73 rfl),
    ox_InvalidLoad := ⟨⟨nm_InvalidLoad, q_InvalidLoad, N_InvalidLoad, bs_InvalidLoad, _, sn_InvalidLoad, sub_InvalidLoad, ab_InvalidLoad, col_InvalidLoad, dd_InvalidLoad, k0_InvalidLoad, k1_InvalidLoad, k2_InvalidLoad, k3_InvalidLoad, k5_InvalidLoad, lk_InvalidLoad, rfl⟩, (c.f 57 rfl), (c.f 58 rfl), (c.f 59 rfl), (c.f 60 rfl)⟩,
    xc_InvalidLoad := ⟨(c.f 66 rfl), (c.f 67 rfl), (c.f 58 rfl), (c.f 68 rfl), (c.f 69 rfl), (c.f 27 rfl), (c.f 28 rfl), (c.f 70 rfl)⟩,
    fi_InvalidLoad := (He.ma K (He.ga K "InvalidLoad") "__init__"),
    fdi_InvalidLoad := PySem.W.ksFn "__init__" "InvalidLoad.__init__" (defArgs s_InvalidLoad) (defBody s_InvalidLoad) (defScope s_InvalidLoad) .none kV_InvalidLoad dc_InvalidLoad pm_InvalidLoad an_InvalidLoad (.ref (DH.caA K (He.ma K (He.ga K "InvalidLoad") "__init__"))) ct_InvalidLoad (DH.ccA K (He.ma K (He.ga K "InvalidLoad") "__init__")),
    ii_InvalidLoad := (c.f 61 rfl),
    ti_InvalidLoad := (c.f 62 rfl),
    xb_InvalidLoad := .all fun us hl => match us, hl with | [_, _], _ => rfl,
    xi_InvalidLoad := fun w base => SX.fn_s1 (F := ⟨"__init__", "InvalidLoad.__init__", defArgs s_InvalidLoad, defBody s_InvalidLoad, defScope s_InvalidLoad, [("__class__", (DH.ccA K (He.ma K (He.ga K "InvalidLoad") "__init__")))], (DH.caA K (He.ma K (He.ga K "InvalidLoad") "__init__"))⟩) (N := ["self", "word", "__class__"]) (x := "word") (fld := "word") ⟨⟨oc_InvalidLoad, od_InvalidLoad, sl_InvalidLoad, lf_InvalidLoad⟩, rfl, rfl, ⟨oc2_InvalidLoad, od2_InvalidLoad, vs_InvalidLoad, sl2_InvalidLoad, _, tf_InvalidLoad, lc_InvalidLoad, vx_InvalidLoad, beq_self_eq_true _⟩, ⟨oc3_InvalidLoad, od3_InvalidLoad, sl3_InvalidLoad, ll_InvalidLoad⟩, (c.f 63 rfl), (c.f 64 rfl), PySem.W.mg_none_of X G (c.f 50 rfl), rfl, rfl, rfl, by decide +kernel, (c.f 51 rfl), SX.ini_of lk_InvalidLoad lk_FrostError (c.f 23 rfl), (c.f 65 rfl)⟩ ⟨⟨nm_InvalidLoad, q_InvalidLoad, N_InvalidLoad, bs_InvalidLoad, _, sn_InvalidLoad, sub_InvalidLoad, ab_InvalidLoad, col_InvalidLoad, dd_InvalidLoad, k0_InvalidLoad, k1_InvalidLoad, k2_InvalidLoad, k3_InvalidLoad, k5_InvalidLoad, lk_InvalidLoad, rfl⟩, (c.f 57 rfl), (c.f 58 rfl), (c.f 59 rfl), (c.f 60 rfl)⟩ (show NdefX.NScope ["self", "word", "__class__"] ["self", "word"] ["__class__"] (defScope s_InvalidLoad) from NdefX.nscope_by (by decide +kernel)) cd_InvalidLoad rfl (fun L => ⟨_, rfl⟩) rfl rfl rfl (c.f 73 rfl) (by decide +kernel) (by decide +kernel) (fun L => rfl),
    xm_InvalidLoad := PySem.W.exm_ref (c.f 24 rfl) (c.f 25 rfl) (c.f 26 rfl) (c.f 71 rfl),
    c_InvalidZone := (He.ga K "InvalidZone"),
    m_InvalidZone := PySem.W.mg_of X G (c.f 74 rfl),
    ki_InvalidZone_ValueError := DL.kit_rt (c.f 93 rfl) (by decide +kernel),
    xk_InvalidZone := ⟨fun s us ws _ h1 h2 => .of_eq (match us, ws, h1, h2 with | [_], [_], _, _ => rfl), fun r1 r2 => r1.append r2⟩,
    xf_InvalidZone := ⟨(c.f 87 rfl), (c.f 88 rfl), (c.f 79 rfl), (c.f 89 rfl)⟩,
    nf_InvalidZone := (c.f 94 rfl),
    ox_InvalidZone := ⟨⟨nm_InvalidZone, q_InvalidZone, N_InvalidZone, bs_InvalidZone, _, sn_InvalidZone, sub_InvalidZone, ab_InvalidZone, col_InvalidZone, dd_InvalidZone, k0_InvalidZone, k1_InvalidZone, k2_InvalidZone, k3_InvalidZone, k5_InvalidZone, lk_InvalidZone, rfl⟩, (c.f 78 rfl), (c.f 79 rfl), (c.f 80 rfl), (c.f 81 rfl)⟩,
    xc_InvalidZone := ⟨(c.f 87 rfl), (c.f 88 rfl), (c.f 79 rfl), (c.f 89 rfl), (c.f 90 rfl), (c.f 27 rfl), (c.f 28 rfl), (c.f 91 rfl)⟩,
    fi_InvalidZone := (He.ma K (He.ga K "InvalidZone") "__init__"),
    fdi_InvalidZone := PySem.W.ksFn "__init__" "InvalidZone.__init__" (defArgs s_InvalidZone) (defBody s_InvalidZone) (defScope s_InvalidZone) .none kV_InvalidZone dc_InvalidZone pm_InvalidZone an_InvalidZone (.ref (DH.caA K (He.ma K (He.ga K "InvalidZone") "__init__"))) ct_InvalidZone (DH.ccA K (He.ma K (He.ga K "InvalidZone") "__init__")),
    ii_InvalidZone := (c.f 82 rfl),
    ti_InvalidZone := (c.f 83 rfl),
    xb_InvalidZone := .all fun us hl => match us, hl with | [_, _], _ => rfl,
    xi_InvalidZone := fun w base => SX.fn_s1 (F := ⟨"__init__", "InvalidZone.__init__", defArgs s_InvalidZone, defBody s_InvalidZone, defScope s_InvalidZone, [("__class__", (DH.ccA K (He.ma K (He.ga K "InvalidZone") "__init__")))], (DH.caA K (He.ma K (He.ga K "InvalidZone") "__init__"))⟩) (N := ["self", "word", "__class__"]) (x := "word") (fld := "word") ⟨⟨oc_InvalidZone, od_InvalidZone, sl_InvalidZone, lf_InvalidZone⟩, rfl, rfl, ⟨oc2_InvalidZone, od2_InvalidZone, vs_InvalidZone, sl2_InvalidZone, _, tf_InvalidZone, lc_InvalidZone, vx_InvalidZone, beq_self_eq_true _⟩, ⟨oc3_InvalidZone, od3_InvalidZone, sl3_InvalidZone, ll_InvalidZone⟩, (c.f 84 rfl), (c.f 85 rfl), PySem.W.mg_none_of X G (c.f 50 rfl), rfl, rfl, rfl, by decide +kernel, (c.f 51 rfl), SX.ini_of lk_InvalidZone lk_FrostError (c.f 23 rfl), (c.f 86 rfl)⟩ ⟨⟨nm_InvalidZone, q_InvalidZone, N_InvalidZone, bs_InvalidZone, _, sn_InvalidZone, sub_InvalidZone, ab_InvalidZone, col_InvalidZone, dd_InvalidZone, k0_InvalidZone, k1_InvalidZone, k2_InvalidZone, k3_InvalidZone, k5_InvalidZone, lk_InvalidZone, rfl⟩, (c.f 78 rfl), (c.f 79 rfl), (c.f 80 rfl), (c.f 81 rfl)⟩ (show NdefX.NScope ["self", "word", "__class__"] ["self", "word"] ["__class__"] (defScope s_InvalidZone) from NdefX.nscope_by (by decide +kernel)) cd_InvalidZone rfl (fun L => ⟨_, rfl⟩) rfl rfl rfl (c.f 94 rfl) (by decide +kernel) (by decide +kernel) (fun L => rfl),
    xm_InvalidZone := PySem.W.exm_ref (c.f 24 rfl) (c.f 25 rfl) (c.f 26 rfl) (c.f 92 rfl),
    c_InvalidText := (He.ga K "InvalidText"),
    m_InvalidText := PySem.W.mg_of X G (c.f 95 rfl),
    ki_InvalidText_ValueError := DL.kit_rt (c.f 114 rfl) (by decide +kernel),
    xk_InvalidText := ⟨fun s us ws _ h1 h2 => .of_eq (match us, ws, h1, h2 with | [_], [_], _, _ => rfl), fun r1 r2 => r1.append r2⟩,
    xf_InvalidText := ⟨(c.f 108 rfl), (c.f 109 rfl), (c.f 100 rfl), (c.f 110 rfl)⟩,
    nf_InvalidText := (c.f 115 rfl),
    ox_InvalidText := ⟨⟨nm_InvalidText, q_InvalidText, N_InvalidText, bs_InvalidText, _, sn_InvalidText, sub_InvalidText, ab_InvalidText, col_InvalidText, dd_InvalidText, k0_InvalidText, k1_InvalidText, k2_InvalidText, k3_InvalidText, k5_InvalidText, lk_InvalidText, rfl⟩, (c.f 99 rfl), (c.f 100 rfl), (c.f 101 rfl), (c.f 102 rfl)⟩,
    xc_InvalidText := ⟨(c.f 108 rfl), (c.f 109 rfl), (c.f 100 rfl), (c.f 110 rfl), (c.f 111 rfl), (c.f 27 rfl), (c.f 28 rfl), (c.f 112 rfl)⟩,
    fi_InvalidText := (He.ma K (He.ga K "InvalidText") "__init__"),
    fdi_InvalidText := PySem.W.ksFn "__init__" "InvalidText.__init__" (defArgs s_InvalidText) (defBody s_InvalidText) (defScope s_InvalidText) .none kV_InvalidText dc_InvalidText pm_InvalidText an_InvalidText (.ref (DH.caA K (He.ma K (He.ga K "InvalidText") "__init__"))) ct_InvalidText (DH.ccA K (He.ma K (He.ga K "InvalidText") "__init__")),
    ii_InvalidText := (c.f 103 rfl),
    ti_InvalidText := (c.f 104 rfl),
    xb_InvalidText := .all fun us hl => match us, hl with | [_, _], _ => rfl,
    xi_InvalidText := fun w base => SX.fn_s1 (F := ⟨"__init__", "InvalidText.__init__", defArgs s_InvalidText, defBody s_InvalidText, defScope s_InvalidText, [("__class__", (DH.ccA K (He.ma K (He.ga K "InvalidText") "__init__")))], (DH.caA K (He.ma K (He.ga K "InvalidText") "__init__"))⟩) (N := ["self", "at", "__class__"]) (x := "at") (fld := "at") ⟨⟨oc_InvalidText, od_InvalidText, sl_InvalidText, lf_InvalidText⟩, rfl, rfl, ⟨oc2_InvalidText, od2_InvalidText, vs_InvalidText, sl2_InvalidText, _, tf_InvalidText, lc_InvalidText, vx_InvalidText, beq_self_eq_true _⟩, ⟨oc3_InvalidText, od3_InvalidText, sl3_InvalidText, ll_InvalidText⟩, (c.f 105 rfl), (c.f 106 rfl), PySem.W.mg_none_of X G (c.f 50 rfl), rfl, rfl, rfl, by decide +kernel, (c.f 51 rfl), SX.ini_of lk_InvalidText lk_FrostError (c.f 23 rfl), (c.f 107 rfl)⟩ ⟨⟨nm_InvalidText, q_InvalidText, N_InvalidText, bs_InvalidText, _, sn_InvalidText, sub_InvalidText, ab_InvalidText, col_InvalidText, dd_InvalidText, k0_InvalidText, k1_InvalidText, k2_InvalidText, k3_InvalidText, k5_InvalidText, lk_InvalidText, rfl⟩, (c.f 99 rfl), (c.f 100 rfl), (c.f 101 rfl), (c.f 102 rfl)⟩ (show NdefX.NScope ["self", "at", "__class__"] ["self", "at"] ["__class__"] (defScope s_InvalidText) from NdefX.nscope_by (by decide +kernel)) cd_InvalidText rfl (fun L => ⟨_, rfl⟩) rfl rfl rfl (c.f 115 rfl) (by decide +kernel) (by decide +kernel) (fun L => rfl),
    xm_InvalidText := PySem.W.exm_ref (c.f 24 rfl) (c.f 25 rfl) (c.f 26 rfl) (c.f 113 rfl),
    c_InvalidEvent := (He.ga K "InvalidEvent"),
    m_InvalidEvent := PySem.W.mg_of X G (c.f 116 rfl),
    ki_InvalidEvent_ValueError := DL.kit_rt (c.f 135 rfl) (by decide +kernel),
    xk_InvalidEvent := ⟨fun s us ws _ h1 h2 => .of_eq (match us, ws, h1, h2 with | [_], [_], _, _ => rfl), fun r1 r2 => r1.append r2⟩,
    xf_InvalidEvent := ⟨(c.f 129 rfl), (c.f 130 rfl), (c.f 121 rfl), (c.f 131 rfl)⟩,
    nf_InvalidEvent := (c.f 136 rfl),
    ox_InvalidEvent := ⟨⟨nm_InvalidEvent, q_InvalidEvent, N_InvalidEvent, bs_InvalidEvent, _, sn_InvalidEvent, sub_InvalidEvent, ab_InvalidEvent, col_InvalidEvent, dd_InvalidEvent, k0_InvalidEvent, k1_InvalidEvent, k2_InvalidEvent, k3_InvalidEvent, k5_InvalidEvent, lk_InvalidEvent, rfl⟩, (c.f 120 rfl), (c.f 121 rfl), (c.f 122 rfl), (c.f 123 rfl)⟩,
    xc_InvalidEvent := ⟨(c.f 129 rfl), (c.f 130 rfl), (c.f 121 rfl), (c.f 131 rfl), (c.f 132 rfl), (c.f 27 rfl), (c.f 28 rfl), (c.f 133 rfl)⟩,
    fi_InvalidEvent := (He.ma K (He.ga K "InvalidEvent") "__init__"),
    fdi_InvalidEvent := PySem.W.ksFn "__init__" "InvalidEvent.__init__" (defArgs s_InvalidEvent) (defBody s_InvalidEvent) (defScope s_InvalidEvent) .none kV_InvalidEvent dc_InvalidEvent pm_InvalidEvent an_InvalidEvent (.ref (DH.caA K (He.ma K (He.ga K "InvalidEvent") "__init__"))) ct_InvalidEvent (DH.ccA K (He.ma K (He.ga K "InvalidEvent") "__init__")),
    ii_InvalidEvent := (c.f 124 rfl),
    ti_InvalidEvent := (c.f 125 rfl),
    xb_InvalidEvent := .all fun us hl => match us, hl with | [_, _], _ => rfl,
    xi_InvalidEvent := fun w base => SX.fn_s1 (F := ⟨"__init__", "InvalidEvent.__init__", defArgs s_InvalidEvent, defBody s_InvalidEvent, defScope s_InvalidEvent, [("__class__", (DH.ccA K (He.ma K (He.ga K "InvalidEvent") "__init__")))], (DH.caA K (He.ma K (He.ga K "InvalidEvent") "__init__"))⟩) (N := ["self", "at", "__class__"]) (x := "at") (fld := "at") ⟨⟨oc_InvalidEvent, od_InvalidEvent, sl_InvalidEvent, lf_InvalidEvent⟩, rfl, rfl, ⟨oc2_InvalidEvent, od2_InvalidEvent, vs_InvalidEvent, sl2_InvalidEvent, _, tf_InvalidEvent, lc_InvalidEvent, vx_InvalidEvent, beq_self_eq_true _⟩, ⟨oc3_InvalidEvent, od3_InvalidEvent, sl3_InvalidEvent, ll_InvalidEvent⟩, (c.f 126 rfl), (c.f 127 rfl), PySem.W.mg_none_of X G (c.f 50 rfl), rfl, rfl, rfl, by decide +kernel, (c.f 51 rfl), SX.ini_of lk_InvalidEvent lk_FrostError (c.f 23 rfl), (c.f 128 rfl)⟩ ⟨⟨nm_InvalidEvent, q_InvalidEvent, N_InvalidEvent, bs_InvalidEvent, _, sn_InvalidEvent, sub_InvalidEvent, ab_InvalidEvent, col_InvalidEvent, dd_InvalidEvent, k0_InvalidEvent, k1_InvalidEvent, k2_InvalidEvent, k3_InvalidEvent, k5_InvalidEvent, lk_InvalidEvent, rfl⟩, (c.f 120 rfl), (c.f 121 rfl), (c.f 122 rfl), (c.f 123 rfl)⟩ (show NdefX.NScope ["self", "at", "__class__"] ["self", "at"] ["__class__"] (defScope s_InvalidEvent) from NdefX.nscope_by (by decide +kernel)) cd_InvalidEvent rfl (fun L => ⟨_, rfl⟩) rfl rfl rfl (c.f 136 rfl) (by decide +kernel) (by decide +kernel) (fun L => rfl),
    xm_InvalidEvent := PySem.W.exm_ref (c.f 24 rfl) (c.f 25 rfl) (c.f 26 rfl) (c.f 134 rfl),
    c_Refused := (He.ga K "Refused"),
    m_Refused := PySem.W.mg_of X G (c.f 137 rfl),
    ki_Refused_ValueError := DL.kit_rt (c.f 156 rfl) (by decide +kernel),
    xk_Refused := ⟨fun s us ws _ h1 h2 => .of_eq (match us, ws, h1, h2 with | [_], [_], _, _ => rfl), fun r1 r2 => r1.append r2⟩,
    xf_Refused := ⟨(c.f 150 rfl), (c.f 151 rfl), (c.f 142 rfl), (c.f 152 rfl)⟩,
    nf_Refused := (c.f 157 rfl),
    ox_Refused := ⟨⟨nm_Refused, q_Refused, N_Refused, bs_Refused, _, sn_Refused, sub_Refused, ab_Refused, col_Refused, dd_Refused, k0_Refused, k1_Refused, k2_Refused, k3_Refused, k5_Refused, lk_Refused, rfl⟩, (c.f 141 rfl), (c.f 142 rfl), (c.f 143 rfl), (c.f 144 rfl)⟩,
    xc_Refused := ⟨(c.f 150 rfl), (c.f 151 rfl), (c.f 142 rfl), (c.f 152 rfl), (c.f 153 rfl), (c.f 27 rfl), (c.f 28 rfl), (c.f 154 rfl)⟩,
    fi_Refused := (He.ma K (He.ga K "Refused") "__init__"),
    fdi_Refused := PySem.W.ksFn "__init__" "Refused.__init__" (defArgs s_Refused) (defBody s_Refused) (defScope s_Refused) .none kV_Refused dc_Refused pm_Refused an_Refused (.ref (DH.caA K (He.ma K (He.ga K "Refused") "__init__"))) ct_Refused (DH.ccA K (He.ma K (He.ga K "Refused") "__init__")),
    ii_Refused := (c.f 145 rfl),
    ti_Refused := (c.f 146 rfl),
    xb_Refused := .all fun us hl => match us, hl with | [_, _], _ => rfl,
    xi_Refused := fun w base => SX.fn_s1 (F := ⟨"__init__", "Refused.__init__", defArgs s_Refused, defBody s_Refused, defScope s_Refused, [("__class__", (DH.ccA K (He.ma K (He.ga K "Refused") "__init__")))], (DH.caA K (He.ma K (He.ga K "Refused") "__init__"))⟩) (N := ["self", "at", "__class__"]) (x := "at") (fld := "at") ⟨⟨oc_Refused, od_Refused, sl_Refused, lf_Refused⟩, rfl, rfl, ⟨oc2_Refused, od2_Refused, vs_Refused, sl2_Refused, _, tf_Refused, lc_Refused, vx_Refused, beq_self_eq_true _⟩, ⟨oc3_Refused, od3_Refused, sl3_Refused, ll_Refused⟩, (c.f 147 rfl), (c.f 148 rfl), PySem.W.mg_none_of X G (c.f 50 rfl), rfl, rfl, rfl, by decide +kernel, (c.f 51 rfl), SX.ini_of lk_Refused lk_FrostError (c.f 23 rfl), (c.f 149 rfl)⟩ ⟨⟨nm_Refused, q_Refused, N_Refused, bs_Refused, _, sn_Refused, sub_Refused, ab_Refused, col_Refused, dd_Refused, k0_Refused, k1_Refused, k2_Refused, k3_Refused, k5_Refused, lk_Refused, rfl⟩, (c.f 141 rfl), (c.f 142 rfl), (c.f 143 rfl), (c.f 144 rfl)⟩ (show NdefX.NScope ["self", "at", "__class__"] ["self", "at"] ["__class__"] (defScope s_Refused) from NdefX.nscope_by (by decide +kernel)) cd_Refused rfl (fun L => ⟨_, rfl⟩) rfl rfl rfl (c.f 157 rfl) (by decide +kernel) (by decide +kernel) (fun L => rfl),
    xm_Refused := PySem.W.exm_ref (c.f 24 rfl) (c.f 25 rfl) (c.f 26 rfl) (c.f 155 rfl),
    c_InvalidRing := (He.ga K "InvalidRing"),
    m_InvalidRing := PySem.W.mg_of X G (c.f 158 rfl),
    ki_InvalidRing_ValueError := DL.kit_rt (c.f 177 rfl) (by decide +kernel),
    ox_InvalidRing := ⟨⟨nm_InvalidRing, q_InvalidRing, N_InvalidRing, bs_InvalidRing, _, sn_InvalidRing, sub_InvalidRing, ab_InvalidRing, col_InvalidRing, dd_InvalidRing, k0_InvalidRing, k1_InvalidRing, k2_InvalidRing, k3_InvalidRing, k5_InvalidRing, lk_InvalidRing, rfl⟩, (c.f 162 rfl), (c.f 163 rfl), (c.f 164 rfl), (c.f 165 rfl)⟩,
    xc_InvalidRing := ⟨(c.f 171 rfl), (c.f 172 rfl), (c.f 163 rfl), (c.f 173 rfl), (c.f 174 rfl), (c.f 27 rfl), (c.f 28 rfl), (c.f 175 rfl)⟩,
    fi_InvalidRing := (He.ma K (He.ga K "InvalidRing") "__init__"),
    fdi_InvalidRing := PySem.W.ksFn "__init__" "InvalidRing.__init__" (defArgs s_InvalidRing) (defBody s_InvalidRing) (defScope s_InvalidRing) .none kV_InvalidRing dc_InvalidRing pm_InvalidRing an_InvalidRing (.ref (DH.caA K (He.ma K (He.ga K "InvalidRing") "__init__"))) ct_InvalidRing (DH.ccA K (He.ma K (He.ga K "InvalidRing") "__init__")),
    ii_InvalidRing := (c.f 166 rfl),
    ti_InvalidRing := (c.f 167 rfl),
    xb_InvalidRing := .all fun us hl => match us, hl with | [_], _ => rfl,
    xi_InvalidRing := fun w base => SX.fn_s0 (F := ⟨"__init__", "InvalidRing.__init__", defArgs s_InvalidRing, defBody s_InvalidRing, defScope s_InvalidRing, [("__class__", (DH.ccA K (He.ma K (He.ga K "InvalidRing") "__init__")))], (DH.caA K (He.ma K (He.ga K "InvalidRing") "__init__"))⟩) (N := ["self", "__class__"]) ⟨⟨oc_InvalidRing, od_InvalidRing, sl_InvalidRing, lf_InvalidRing⟩, rfl, rfl, ⟨oc2_InvalidRing, od2_InvalidRing, vs_InvalidRing, sl2_InvalidRing, _, tf_InvalidRing, lc_InvalidRing, vx_InvalidRing, beq_self_eq_true _⟩, ⟨oc3_InvalidRing, od3_InvalidRing, sl3_InvalidRing, ll_InvalidRing⟩, (c.f 168 rfl), (c.f 169 rfl), PySem.W.mg_none_of X G (c.f 50 rfl), rfl, rfl, rfl, by decide +kernel, (c.f 51 rfl), SX.ini_of lk_InvalidRing lk_FrostError (c.f 23 rfl), (c.f 170 rfl)⟩ ⟨⟨nm_InvalidRing, q_InvalidRing, N_InvalidRing, bs_InvalidRing, _, sn_InvalidRing, sub_InvalidRing, ab_InvalidRing, col_InvalidRing, dd_InvalidRing, k0_InvalidRing, k1_InvalidRing, k2_InvalidRing, k3_InvalidRing, k5_InvalidRing, lk_InvalidRing, rfl⟩, (c.f 162 rfl), (c.f 163 rfl), (c.f 164 rfl), (c.f 165 rfl)⟩ (show NdefX.NScope ["self", "__class__"] ["self"] ["__class__"] (defScope s_InvalidRing) from NdefX.nscope_by (by decide +kernel)) cd_InvalidRing rfl (fun L => ⟨_, rfl⟩) rfl,
    xm_InvalidRing := PySem.W.exm_ref (c.f 24 rfl) (c.f 25 rfl) (c.f 26 rfl) (c.f 176 rfl),
    c_InvalidHarm := (He.ga K "InvalidHarm"),
    m_InvalidHarm := PySem.W.mg_of X G (c.f 178 rfl),
    ki_InvalidHarm_ValueError := DL.kit_rt (c.f 197 rfl) (by decide +kernel),
    ox_InvalidHarm := ⟨⟨nm_InvalidHarm, q_InvalidHarm, N_InvalidHarm, bs_InvalidHarm, _, sn_InvalidHarm, sub_InvalidHarm, ab_InvalidHarm, col_InvalidHarm, dd_InvalidHarm, k0_InvalidHarm, k1_InvalidHarm, k2_InvalidHarm, k3_InvalidHarm, k5_InvalidHarm, lk_InvalidHarm, rfl⟩, (c.f 182 rfl), (c.f 183 rfl), (c.f 184 rfl), (c.f 185 rfl)⟩,
    xc_InvalidHarm := ⟨(c.f 191 rfl), (c.f 192 rfl), (c.f 183 rfl), (c.f 193 rfl), (c.f 194 rfl), (c.f 27 rfl), (c.f 28 rfl), (c.f 195 rfl)⟩,
    fi_InvalidHarm := (He.ma K (He.ga K "InvalidHarm") "__init__"),
    fdi_InvalidHarm := PySem.W.ksFn "__init__" "InvalidHarm.__init__" (defArgs s_InvalidHarm) (defBody s_InvalidHarm) (defScope s_InvalidHarm) .none kV_InvalidHarm dc_InvalidHarm pm_InvalidHarm an_InvalidHarm (.ref (DH.caA K (He.ma K (He.ga K "InvalidHarm") "__init__"))) ct_InvalidHarm (DH.ccA K (He.ma K (He.ga K "InvalidHarm") "__init__")),
    ii_InvalidHarm := (c.f 186 rfl),
    ti_InvalidHarm := (c.f 187 rfl),
    xb_InvalidHarm := .all fun us hl => match us, hl with | [_], _ => rfl,
    xi_InvalidHarm := fun w base => SX.fn_s0 (F := ⟨"__init__", "InvalidHarm.__init__", defArgs s_InvalidHarm, defBody s_InvalidHarm, defScope s_InvalidHarm, [("__class__", (DH.ccA K (He.ma K (He.ga K "InvalidHarm") "__init__")))], (DH.caA K (He.ma K (He.ga K "InvalidHarm") "__init__"))⟩) (N := ["self", "__class__"]) ⟨⟨oc_InvalidHarm, od_InvalidHarm, sl_InvalidHarm, lf_InvalidHarm⟩, rfl, rfl, ⟨oc2_InvalidHarm, od2_InvalidHarm, vs_InvalidHarm, sl2_InvalidHarm, _, tf_InvalidHarm, lc_InvalidHarm, vx_InvalidHarm, beq_self_eq_true _⟩, ⟨oc3_InvalidHarm, od3_InvalidHarm, sl3_InvalidHarm, ll_InvalidHarm⟩, (c.f 188 rfl), (c.f 189 rfl), PySem.W.mg_none_of X G (c.f 50 rfl), rfl, rfl, rfl, by decide +kernel, (c.f 51 rfl), SX.ini_of lk_InvalidHarm lk_FrostError (c.f 23 rfl), (c.f 190 rfl)⟩ ⟨⟨nm_InvalidHarm, q_InvalidHarm, N_InvalidHarm, bs_InvalidHarm, _, sn_InvalidHarm, sub_InvalidHarm, ab_InvalidHarm, col_InvalidHarm, dd_InvalidHarm, k0_InvalidHarm, k1_InvalidHarm, k2_InvalidHarm, k3_InvalidHarm, k5_InvalidHarm, lk_InvalidHarm, rfl⟩, (c.f 182 rfl), (c.f 183 rfl), (c.f 184 rfl), (c.f 185 rfl)⟩ (show NdefX.NScope ["self", "__class__"] ["self"] ["__class__"] (defScope s_InvalidHarm) from NdefX.nscope_by (by decide +kernel)) cd_InvalidHarm rfl (fun L => ⟨_, rfl⟩) rfl,
    xm_InvalidHarm := PySem.W.exm_ref (c.f 24 rfl) (c.f 25 rfl) (c.f 26 rfl) (c.f 196 rfl),
    c_InvalidCommand := (He.ga K "InvalidCommand"),
    m_InvalidCommand := PySem.W.mg_of X G (c.f 198 rfl),
    ki_InvalidCommand_ValueError := DL.kit_rt (c.f 217 rfl) (by decide +kernel),
    ox_InvalidCommand := ⟨⟨nm_InvalidCommand, q_InvalidCommand, N_InvalidCommand, bs_InvalidCommand, _, sn_InvalidCommand, sub_InvalidCommand, ab_InvalidCommand, col_InvalidCommand, dd_InvalidCommand, k0_InvalidCommand, k1_InvalidCommand, k2_InvalidCommand, k3_InvalidCommand, k5_InvalidCommand, lk_InvalidCommand, rfl⟩, (c.f 202 rfl), (c.f 203 rfl), (c.f 204 rfl), (c.f 205 rfl)⟩,
    xc_InvalidCommand := ⟨(c.f 211 rfl), (c.f 212 rfl), (c.f 203 rfl), (c.f 213 rfl), (c.f 214 rfl), (c.f 27 rfl), (c.f 28 rfl), (c.f 215 rfl)⟩,
    fi_InvalidCommand := (He.ma K (He.ga K "InvalidCommand") "__init__"),
    fdi_InvalidCommand := PySem.W.ksFn "__init__" "InvalidCommand.__init__" (defArgs s_InvalidCommand) (defBody s_InvalidCommand) (defScope s_InvalidCommand) .none kV_InvalidCommand dc_InvalidCommand pm_InvalidCommand an_InvalidCommand (.ref (DH.caA K (He.ma K (He.ga K "InvalidCommand") "__init__"))) ct_InvalidCommand (DH.ccA K (He.ma K (He.ga K "InvalidCommand") "__init__")),
    ii_InvalidCommand := (c.f 206 rfl),
    ti_InvalidCommand := (c.f 207 rfl),
    xb_InvalidCommand := .all fun us hl => match us, hl with | [_], _ => rfl,
    xi_InvalidCommand := fun w base => SX.fn_s0 (F := ⟨"__init__", "InvalidCommand.__init__", defArgs s_InvalidCommand, defBody s_InvalidCommand, defScope s_InvalidCommand, [("__class__", (DH.ccA K (He.ma K (He.ga K "InvalidCommand") "__init__")))], (DH.caA K (He.ma K (He.ga K "InvalidCommand") "__init__"))⟩) (N := ["self", "__class__"]) ⟨⟨oc_InvalidCommand, od_InvalidCommand, sl_InvalidCommand, lf_InvalidCommand⟩, rfl, rfl, ⟨oc2_InvalidCommand, od2_InvalidCommand, vs_InvalidCommand, sl2_InvalidCommand, _, tf_InvalidCommand, lc_InvalidCommand, vx_InvalidCommand, beq_self_eq_true _⟩, ⟨oc3_InvalidCommand, od3_InvalidCommand, sl3_InvalidCommand, ll_InvalidCommand⟩, (c.f 208 rfl), (c.f 209 rfl), PySem.W.mg_none_of X G (c.f 50 rfl), rfl, rfl, rfl, by decide +kernel, (c.f 51 rfl), SX.ini_of lk_InvalidCommand lk_FrostError (c.f 23 rfl), (c.f 210 rfl)⟩ ⟨⟨nm_InvalidCommand, q_InvalidCommand, N_InvalidCommand, bs_InvalidCommand, _, sn_InvalidCommand, sub_InvalidCommand, ab_InvalidCommand, col_InvalidCommand, dd_InvalidCommand, k0_InvalidCommand, k1_InvalidCommand, k2_InvalidCommand, k3_InvalidCommand, k5_InvalidCommand, lk_InvalidCommand, rfl⟩, (c.f 202 rfl), (c.f 203 rfl), (c.f 204 rfl), (c.f 205 rfl)⟩ (show NdefX.NScope ["self", "__class__"] ["self"] ["__class__"] (defScope s_InvalidCommand) from NdefX.nscope_by (by decide +kernel)) cd_InvalidCommand rfl (fun L => ⟨_, rfl⟩) rfl,
    xm_InvalidCommand := PySem.W.exm_ref (c.f 24 rfl) (c.f 25 rfl) (c.f 26 rfl) (c.f 216 rfl),
    kx_InvalidKeeper_InvalidKeeper := DL.kit_self,
    kx_InvalidKeeper_InvalidLoad := DL.kit_rr (c.f 63 rfl) (c.f 59 rfl) (c.f 218 rfl) (c.f 219 rfl),
    kx_InvalidKeeper_InvalidZone := DL.kit_rr (c.f 84 rfl) (c.f 80 rfl) (c.f 220 rfl) (c.f 221 rfl),
    kx_InvalidKeeper_InvalidText := DL.kit_rr (c.f 105 rfl) (c.f 101 rfl) (c.f 222 rfl) (c.f 223 rfl),
    kx_InvalidKeeper_InvalidEvent := DL.kit_rr (c.f 126 rfl) (c.f 122 rfl) (c.f 224 rfl) (c.f 225 rfl),
    kx_InvalidKeeper_Refused := DL.kit_rr (c.f 147 rfl) (c.f 143 rfl) (c.f 226 rfl) (c.f 227 rfl),
    kx_InvalidKeeper_InvalidRing := DL.kit_rr (c.f 168 rfl) (c.f 164 rfl) (c.f 228 rfl) (c.f 229 rfl),
    kx_InvalidKeeper_InvalidHarm := DL.kit_rr (c.f 188 rfl) (c.f 184 rfl) (c.f 230 rfl) (c.f 231 rfl),
    kx_InvalidKeeper_InvalidCommand := DL.kit_rr (c.f 208 rfl) (c.f 204 rfl) (c.f 232 rfl) (c.f 233 rfl),
    kx_InvalidLoad_InvalidKeeper := DL.kit_rr (c.f 40 rfl) (c.f 36 rfl) (c.f 234 rfl) (c.f 235 rfl),
    kx_InvalidLoad_InvalidLoad := DL.kit_self,
    kx_InvalidLoad_InvalidZone := DL.kit_rr (c.f 84 rfl) (c.f 80 rfl) (c.f 236 rfl) (c.f 237 rfl),
    kx_InvalidLoad_InvalidText := DL.kit_rr (c.f 105 rfl) (c.f 101 rfl) (c.f 238 rfl) (c.f 239 rfl),
    kx_InvalidLoad_InvalidEvent := DL.kit_rr (c.f 126 rfl) (c.f 122 rfl) (c.f 240 rfl) (c.f 241 rfl),
    kx_InvalidLoad_Refused := DL.kit_rr (c.f 147 rfl) (c.f 143 rfl) (c.f 242 rfl) (c.f 243 rfl),
    kx_InvalidLoad_InvalidRing := DL.kit_rr (c.f 168 rfl) (c.f 164 rfl) (c.f 244 rfl) (c.f 245 rfl),
    kx_InvalidLoad_InvalidHarm := DL.kit_rr (c.f 188 rfl) (c.f 184 rfl) (c.f 246 rfl) (c.f 247 rfl),
    kx_InvalidLoad_InvalidCommand := DL.kit_rr (c.f 208 rfl) (c.f 204 rfl) (c.f 248 rfl) (c.f 249 rfl),
    kx_InvalidZone_InvalidKeeper := DL.kit_rr (c.f 40 rfl) (c.f 36 rfl) (c.f 250 rfl) (c.f 251 rfl),
    kx_InvalidZone_InvalidLoad := DL.kit_rr (c.f 63 rfl) (c.f 59 rfl) (c.f 252 rfl) (c.f 253 rfl),
    kx_InvalidZone_InvalidZone := DL.kit_self,
    kx_InvalidZone_InvalidText := DL.kit_rr (c.f 105 rfl) (c.f 101 rfl) (c.f 254 rfl) (c.f 255 rfl),
    kx_InvalidZone_InvalidEvent := DL.kit_rr (c.f 126 rfl) (c.f 122 rfl) (c.f 256 rfl) (c.f 257 rfl),
    kx_InvalidZone_Refused := DL.kit_rr (c.f 147 rfl) (c.f 143 rfl) (c.f 258 rfl) (c.f 259 rfl),
    kx_InvalidZone_InvalidRing := DL.kit_rr (c.f 168 rfl) (c.f 164 rfl) (c.f 260 rfl) (c.f 261 rfl),
    kx_InvalidZone_InvalidHarm := DL.kit_rr (c.f 188 rfl) (c.f 184 rfl) (c.f 262 rfl) (c.f 263 rfl),
    kx_InvalidZone_InvalidCommand := DL.kit_rr (c.f 208 rfl) (c.f 204 rfl) (c.f 264 rfl) (c.f 265 rfl),
    kx_InvalidText_InvalidKeeper := DL.kit_rr (c.f 40 rfl) (c.f 36 rfl) (c.f 266 rfl) (c.f 267 rfl),
    kx_InvalidText_InvalidLoad := DL.kit_rr (c.f 63 rfl) (c.f 59 rfl) (c.f 268 rfl) (c.f 269 rfl),
    kx_InvalidText_InvalidZone := DL.kit_rr (c.f 84 rfl) (c.f 80 rfl) (c.f 270 rfl) (c.f 271 rfl),
    kx_InvalidText_InvalidText := DL.kit_self,
    kx_InvalidText_InvalidEvent := DL.kit_rr (c.f 126 rfl) (c.f 122 rfl) (c.f 272 rfl) (c.f 273 rfl),
    kx_InvalidText_Refused := DL.kit_rr (c.f 147 rfl) (c.f 143 rfl) (c.f 274 rfl) (c.f 275 rfl),
    kx_InvalidText_InvalidRing := DL.kit_rr (c.f 168 rfl) (c.f 164 rfl) (c.f 276 rfl) (c.f 277 rfl),
    kx_InvalidText_InvalidHarm := DL.kit_rr (c.f 188 rfl) (c.f 184 rfl) (c.f 278 rfl) (c.f 279 rfl),
    kx_InvalidText_InvalidCommand := DL.kit_rr (c.f 208 rfl) (c.f 204 rfl) (c.f 280 rfl) (c.f 281 rfl),
    kx_InvalidEvent_InvalidKeeper := DL.kit_rr (c.f 40 rfl) (c.f 36 rfl) (c.f 282 rfl) (c.f 283 rfl),
    kx_InvalidEvent_InvalidLoad := DL.kit_rr (c.f 63 rfl) (c.f 59 rfl) (c.f 284 rfl) (c.f 285 rfl),
    kx_InvalidEvent_InvalidZone := DL.kit_rr (c.f 84 rfl) (c.f 80 rfl) (c.f 286 rfl) (c.f 287 rfl),
    kx_InvalidEvent_InvalidText := DL.kit_rr (c.f 105 rfl) (c.f 101 rfl) (c.f 288 rfl) (c.f 289 rfl),
    kx_InvalidEvent_InvalidEvent := DL.kit_self,
    kx_InvalidEvent_Refused := DL.kit_rr (c.f 147 rfl) (c.f 143 rfl) (c.f 290 rfl) (c.f 291 rfl),
    kx_InvalidEvent_InvalidRing := DL.kit_rr (c.f 168 rfl) (c.f 164 rfl) (c.f 292 rfl) (c.f 293 rfl),
    kx_InvalidEvent_InvalidHarm := DL.kit_rr (c.f 188 rfl) (c.f 184 rfl) (c.f 294 rfl) (c.f 295 rfl),
    kx_InvalidEvent_InvalidCommand := DL.kit_rr (c.f 208 rfl) (c.f 204 rfl) (c.f 296 rfl) (c.f 297 rfl),
    kx_Refused_InvalidKeeper := DL.kit_rr (c.f 40 rfl) (c.f 36 rfl) (c.f 298 rfl) (c.f 299 rfl),
    kx_Refused_InvalidLoad := DL.kit_rr (c.f 63 rfl) (c.f 59 rfl) (c.f 300 rfl) (c.f 301 rfl),
    kx_Refused_InvalidZone := DL.kit_rr (c.f 84 rfl) (c.f 80 rfl) (c.f 302 rfl) (c.f 303 rfl),
    kx_Refused_InvalidText := DL.kit_rr (c.f 105 rfl) (c.f 101 rfl) (c.f 304 rfl) (c.f 305 rfl),
    kx_Refused_InvalidEvent := DL.kit_rr (c.f 126 rfl) (c.f 122 rfl) (c.f 306 rfl) (c.f 307 rfl),
    kx_Refused_Refused := DL.kit_self,
    kx_Refused_InvalidRing := DL.kit_rr (c.f 168 rfl) (c.f 164 rfl) (c.f 308 rfl) (c.f 309 rfl),
    kx_Refused_InvalidHarm := DL.kit_rr (c.f 188 rfl) (c.f 184 rfl) (c.f 310 rfl) (c.f 311 rfl),
    kx_Refused_InvalidCommand := DL.kit_rr (c.f 208 rfl) (c.f 204 rfl) (c.f 312 rfl) (c.f 313 rfl),
    kx_InvalidRing_InvalidKeeper := DL.kit_rr (c.f 40 rfl) (c.f 36 rfl) (c.f 314 rfl) (c.f 315 rfl),
    kx_InvalidRing_InvalidLoad := DL.kit_rr (c.f 63 rfl) (c.f 59 rfl) (c.f 316 rfl) (c.f 317 rfl),
    kx_InvalidRing_InvalidZone := DL.kit_rr (c.f 84 rfl) (c.f 80 rfl) (c.f 318 rfl) (c.f 319 rfl),
    kx_InvalidRing_InvalidText := DL.kit_rr (c.f 105 rfl) (c.f 101 rfl) (c.f 320 rfl) (c.f 321 rfl),
    kx_InvalidRing_InvalidEvent := DL.kit_rr (c.f 126 rfl) (c.f 122 rfl) (c.f 322 rfl) (c.f 323 rfl),
    kx_InvalidRing_Refused := DL.kit_rr (c.f 147 rfl) (c.f 143 rfl) (c.f 324 rfl) (c.f 325 rfl),
    kx_InvalidRing_InvalidRing := DL.kit_self,
    kx_InvalidRing_InvalidHarm := DL.kit_rr (c.f 188 rfl) (c.f 184 rfl) (c.f 326 rfl) (c.f 327 rfl),
    kx_InvalidRing_InvalidCommand := DL.kit_rr (c.f 208 rfl) (c.f 204 rfl) (c.f 328 rfl) (c.f 329 rfl),
    kx_InvalidHarm_InvalidKeeper := DL.kit_rr (c.f 40 rfl) (c.f 36 rfl) (c.f 330 rfl) (c.f 331 rfl),
    kx_InvalidHarm_InvalidLoad := DL.kit_rr (c.f 63 rfl) (c.f 59 rfl) (c.f 332 rfl) (c.f 333 rfl),
    kx_InvalidHarm_InvalidZone := DL.kit_rr (c.f 84 rfl) (c.f 80 rfl) (c.f 334 rfl) (c.f 335 rfl),
    kx_InvalidHarm_InvalidText := DL.kit_rr (c.f 105 rfl) (c.f 101 rfl) (c.f 336 rfl) (c.f 337 rfl),
    kx_InvalidHarm_InvalidEvent := DL.kit_rr (c.f 126 rfl) (c.f 122 rfl) (c.f 338 rfl) (c.f 339 rfl),
    kx_InvalidHarm_Refused := DL.kit_rr (c.f 147 rfl) (c.f 143 rfl) (c.f 340 rfl) (c.f 341 rfl),
    kx_InvalidHarm_InvalidRing := DL.kit_rr (c.f 168 rfl) (c.f 164 rfl) (c.f 342 rfl) (c.f 343 rfl),
    kx_InvalidHarm_InvalidHarm := DL.kit_self,
    kx_InvalidHarm_InvalidCommand := DL.kit_rr (c.f 208 rfl) (c.f 204 rfl) (c.f 344 rfl) (c.f 345 rfl),
    kx_InvalidCommand_InvalidKeeper := DL.kit_rr (c.f 40 rfl) (c.f 36 rfl) (c.f 346 rfl) (c.f 347 rfl),
    kx_InvalidCommand_InvalidLoad := DL.kit_rr (c.f 63 rfl) (c.f 59 rfl) (c.f 348 rfl) (c.f 349 rfl),
    kx_InvalidCommand_InvalidZone := DL.kit_rr (c.f 84 rfl) (c.f 80 rfl) (c.f 350 rfl) (c.f 351 rfl),
    kx_InvalidCommand_InvalidText := DL.kit_rr (c.f 105 rfl) (c.f 101 rfl) (c.f 352 rfl) (c.f 353 rfl),
    kx_InvalidCommand_InvalidEvent := DL.kit_rr (c.f 126 rfl) (c.f 122 rfl) (c.f 354 rfl) (c.f 355 rfl),
    kx_InvalidCommand_Refused := DL.kit_rr (c.f 147 rfl) (c.f 143 rfl) (c.f 356 rfl) (c.f 357 rfl),
    kx_InvalidCommand_InvalidRing := DL.kit_rr (c.f 168 rfl) (c.f 164 rfl) (c.f 358 rfl) (c.f 359 rfl),
    kx_InvalidCommand_InvalidHarm := DL.kit_rr (c.f 188 rfl) (c.f 184 rfl) (c.f 360 rfl) (c.f 361 rfl),
    kx_InvalidCommand_InvalidCommand := DL.kit_self,
    kx_InvalidKeeper_FrostError := DL.kit_rr (c.f 362 rfl) (c.f 26 rfl) (c.f 363 rfl) (c.f 364 rfl),
    kx_InvalidLoad_FrostError := DL.kit_rr (c.f 362 rfl) (c.f 26 rfl) (c.f 365 rfl) (c.f 366 rfl),
    kx_InvalidZone_FrostError := DL.kit_rr (c.f 362 rfl) (c.f 26 rfl) (c.f 367 rfl) (c.f 368 rfl),
    kx_InvalidText_FrostError := DL.kit_rr (c.f 362 rfl) (c.f 26 rfl) (c.f 369 rfl) (c.f 370 rfl),
    kx_InvalidEvent_FrostError := DL.kit_rr (c.f 362 rfl) (c.f 26 rfl) (c.f 371 rfl) (c.f 372 rfl),
    kx_Refused_FrostError := DL.kit_rr (c.f 362 rfl) (c.f 26 rfl) (c.f 373 rfl) (c.f 374 rfl),
    kx_InvalidRing_FrostError := DL.kit_rr (c.f 362 rfl) (c.f 26 rfl) (c.f 375 rfl) (c.f 376 rfl),
    kx_InvalidHarm_FrostError := DL.kit_rr (c.f 362 rfl) (c.f 26 rfl) (c.f 377 rfl) (c.f 378 rfl),
    kx_InvalidCommand_FrostError := DL.kit_rr (c.f 362 rfl) (c.f 26 rfl) (c.f 379 rfl) (c.f 380 rfl) }
  exact ok_law T
end My
open PySem PySem.W PyProof.Rows
set_option maxRecDepth 100000 in
set_option maxHeartbeats 0 in
theorem PySem.Challenge.cw_frostmarks_k01_errors_and_what_they_keep_holds : PySem.Challenge.rw_frostmarks_k01_errors_and_what_they_keep.Holds := by
  w_on; o_law
  refine HandSHeadRun.head_any (r := MyH.RowL) (q := view MyH.RowL.prog [20]) (H := DH.hook MyH.LA MyH.FA MyH.DA MyH.TA) (ob := MyH.obL) (M := 40000) (loose := MyH.loose) (d := HandSHeadRun.topDef MyH.RowL.prog 20) (kwd := []) (fun s => DH.obsG_eq (HandSHeadRun.getT_eq s)) (by kernel_rfl) (fun s => by kernel_rfl) MyH.runL (by kernel_rfl) (by kernel_rfl) (by kernel_rfl) (by rfl) (by first | assumption | decide +kernel) (by decide +kernel) ⟨rfl, rfl, rfl, rfl, rfl, by decide +kernel⟩ ?hw ?hc
  case hw => w_witness2
  case hc =>
    refine DH.walkH (l := PySem.Challenge.rw_frostmarks_k01_errors_and_what_they_keep) rfl (by kernel_rfl) ?F
    intro w K mg fa h KX c G hmg
    exact My.all_mk KX c G ((congrArg mg (show ("law" : PySem.Str) = (HandSHeadRun.topDef MyH.RowL.prog 20).name by kernel_rfl)).trans hmg)
