import PyProof.Rows.All
import Wide.All
import OpenK.AllK
import Wide.FinOn
import HandS.ForMost
import HandS.Wide
import HandS.Property
import HandS.IsInst
import HandS.TupLe
import HandS.Style
import HandS.EndBits
import HandS.Conv
import HandS.Iter
import HandS.Zip
import HandS.TupAny
import HandS.TryOnly
import HandS.List
import HandS.ListItems
import HandS.Deep
import PyProof.ReprLen
import PyProof.NeKinds
import HandS.ExcInit
import HandS.Nested
import HandS.WordsExc
import HandS.ExcIs
import HandS.ExcField
import KE.KExcSuper
import KE.KSuper
import KE.KExcIs
import HandS.FStr
import HandS.MakeKwOnly
import HandS.MakeKw
import KE.KCallOwn
import HandS.Text
import HandS.Steps
import HandS.ClsMeth
import PyProof.StrLawsChain
import PyProof.Rows.StrSplitAre
import PyProof.Rows.StrSplitJoin
import KE.SortData
import HandS.Sort
import KE.KIndexOf
import HandS.DictComp
import HandS.WordsDict
import KE.GoesMore
import PyProof.StrLawsTight
import PyProof.StrLawsRepr
import KE.KIntText
import HandS.Star
import HandS.More
import HandS.RaiseMore
import KE.KParD
import KE.IntTextLaws
import KE.GoesEnum
import KE.KStateDown
import HandS.Head0
import HandS.Head1
import HandS.Head2
import HandS.HeadHook1
import HandS.HeadHook2
import HandS.HeadHook3
import HandS.SetFor
import HandS.SetTxt0
import HandS.ReplaceLit
import KE.KCallOwn
import KE.DataFind
import PyProof.RulesMatch
import HandS.Lambda
import HandS.ExcOwn
import HandS.HeadHook4
import HandS.EndTab
import PySem.Challenge.RW_frostmarks_k06_keepers_refused
set_option Elab.async false
set_option linter.all false
set_option maxRecDepth 100000
set_option maxHeartbeats 4000000
/-! A layer of my own over the hand layer: values as data (Dv), things that change as a list (WS); readings without addresses. -/
namespace DL
open PySem L2

/-- data: what never changes any more -/
inductive Dv where
  | non | bl (b : Bool) | int (i : Int) | str (x : Str) | raw (v : V)
  | lst (xs : List Dv) | tup (xs : List Dv)
  | ins (C : Addr) (ks : List Str) (ds : List Dv)
  | dic (ks : List Key) (ds : List Dv)
  | exc (a : Addr) (d : Option Addr) (C : Addr) (ks : List Str) (ds : List Dv)
  /-- a tuple whose object is known to have no dict -/
  | tpn (xs : List Dv)
/-- a value: data, or a thing that changes, by its place in the world -/
inductive Sv where
  | d (x : Dv) | box (j : Nat)
/-- a slot: a value, or a list, a dict that nobody else knows -/
inductive Sl where
  | v (x : Sv) | own (xs : List Dv) | ownD (ks : List Key) (ds : List Dv)

abbrev Av := Addr → Prop
/-- a list, a tuple of the written part -/
def LK (K : PySem.W.Frag) (a : Addr) (vs : List V) : Prop := ∀ H : Hp, SqL K H a vs
def TK (K : PySem.W.Frag) (a : Addr) (vs : List V) : Prop := ∀ H : Hp, SqT K H a vs
/-- N: addresses that data must not name -/
def Sq (K : PySem.W.Frag) (N : Av) (H : Hp) (a : Addr) (vs : List V) : Prop := (¬ N a ∧ Rd H a (.lst vs)) ∨ LK K a vs
def Tq (K : PySem.W.Frag) (N : Av) (H : Hp) (a : Addr) (vs : List V) : Prop := (¬ N a ∧ Rd H a (.tup vs)) ∨ TK K a vs

mutual
inductive Has (K : PySem.W.Frag) (N : Av) (H : Hp) : V → Dv → Prop
  | non : Has K N H .non .non
  | bl (b : Bool) : Has K N H (.bl b) (.bl b)
  | int (i : Int) : Has K N H (.int i) (.int i)
  | str (x : Str) : Has K N H (.str x) (.str x)
  | raw (v : V) : Has K N H v (.raw v)
  | lst {a : Addr} {vs : List V} {xs : List Dv} : Sq K N H a vs → HasL K N H vs xs → Has K N H (.ref a) (.lst xs)
  | tup {a : Addr} {vs : List V} {xs : List Dv} : Tq K N H a vs → HasL K N H vs xs → Has K N H (.ref a) (.tup xs)
  | ins {a C dx : Addr} {ks : List Str} {vs : List V} {ds : List Dv} : ¬ N a → H a = some (.ins C dx (ks.zip vs)) → HasL K N H vs ds → ks.length = ds.length → Has K N H (.ref a) (.ins C ks ds)
  | dic {a : Addr} {ks : List Key} {vs : List V} {ds : List Dv} : ¬ N a → Rd H a (.dK (ks.zip vs)) → HasL K N H vs ds → ks.length = ds.length → Has K N H (.ref a) (.dic ks ds)
  | tpn {a : Addr} {o : Obj} {vs : List V} {xs : List Dv} : ¬ N a → o.dict = none → H a = some (.frz o (.tup vs)) → HasL K N H vs xs → Has K N H (.ref a) (.tpn xs)
  | exc0 {a C : Addr} : Has K N H (.ref a) (.exc a none C [] [])
  | exc {a C dd : Addr} {ks : List Str} {vs : List V} {ds : List Dv} : ¬ N dd → H dd = some (.xd (ks.zip vs)) → HasL K N H vs ds → ks.length = ds.length → Has K N H (.ref a) (.exc a (some dd) C ks ds)
inductive HasL (K : PySem.W.Frag) (N : Av) (H : Hp) : List V → List Dv → Prop
  | nil : HasL K N H [] []
  | cons {v : V} {d : Dv} {vs : List V} {ds : List Dv} : Has K N H v d → HasL K N H vs ds → HasL K N H (v :: vs) (d :: ds)
end
/-- what stood and may be named stands and may be named -/
def Mv (N : Av) (H : Hp) (N' : Av) (H' : Hp) : Prop := ∀ b o, H b = some o → ¬ N b → H' b = some o ∧ ¬ N' b

section
variable {K : PySem.W.Frag} {N N' N2 : Av} {H H' H2 : Hp}
theorem Rd.mv {b : Addr} {u : HO} (e : Mv N H N' H') (n : ¬ N b) (h : Rd H b u) : ¬ N' b ∧ Rd H' b u := by
  rcases h with h | ⟨o, h⟩
  · exact ⟨(e b _ h n).2, .inl (e b _ h n).1⟩
  · exact ⟨(e b _ h n).2, .inr ⟨o, (e b _ h n).1⟩⟩
theorem Sq.mv {a : Addr} {vs : List V} (e : Mv N H N' H') (h : Sq K N H a vs) : Sq K N' H' a vs := by
  rcases h with ⟨n, h⟩ | h
  · exact .inl (Rd.mv e n h)
  · exact .inr h
theorem Tq.mv {a : Addr} {vs : List V} (e : Mv N H N' H') (h : Tq K N H a vs) : Tq K N' H' a vs := by
  rcases h with ⟨n, h⟩ | h
  · exact .inl (Rd.mv e n h)
  · exact .inr h
theorem Sq.l {a : Addr} {vs : List V} (h : Sq K N H a vs) : SqL K H a vs := by
  rcases h with ⟨_, h⟩ | h
  · exact .inl h
  · exact h H
theorem Tq.t {a : Addr} {vs : List V} (h : Tq K N H a vs) : SqT K H a vs := by
  rcases h with ⟨_, h⟩ | h
  · exact .inl h
  · exact h H
mutual
theorem Has.mv (e : Mv N H N' H') : ∀ {v : V} {d : Dv}, Has K N H v d → Has K N' H' v d
  | _, _, .non => .non
  | _, _, .bl b => .bl b
  | _, _, .int i => .int i
  | _, _, .str x => .str x
  | _, _, .raw v => .raw v
  | _, _, .lst s h => .lst (Sq.mv e s) (HasL.mv e h)
  | _, _, .tup s h => .tup (Tq.mv e s) (HasL.mv e h)
  | _, _, .ins n s h l => .ins (e _ _ s n).2 (e _ _ s n).1 (HasL.mv e h) l
  | _, _, .dic n s h l => .dic (Rd.mv e n s).1 (Rd.mv e n s).2 (HasL.mv e h) l
  | _, _, .tpn n d s h => .tpn (e _ _ s n).2 d (e _ _ s n).1 (HasL.mv e h)
  | _, _, .exc0 => .exc0
  | _, _, .exc n s h l => .exc (e _ _ s n).2 (e _ _ s n).1 (HasL.mv e h) l
theorem HasL.mv (e : Mv N H N' H') : ∀ {vs : List V} {ds : List Dv}, HasL K N H vs ds → HasL K N' H' vs ds
  | _, _, .nil => .nil
  | _, _, .cons h t => .cons (Has.mv e h) (HasL.mv e t)
end
theorem Mv.refl : Mv N H N H := fun _ _ h n => ⟨h, n⟩
theorem Mv.weak (h : ∀ a, N' a → N a) : Mv N H N' H := fun _ _ e n => ⟨e, fun q => n (h _ q)⟩
theorem HasL.length : ∀ {vs : List V} {ds : List Dv}, HasL K N H vs ds → vs.length = ds.length
  | _, _, .nil => rfl
  | _, _, .cons _ t => congrArg (· + 1) (HasL.length t)
theorem HasL.append : ∀ {vs us : List V} {ds es : List Dv}, HasL K N H vs ds → HasL K N H us es → HasL K N H (vs ++ us) (ds ++ es)
  | _, _, _, _, .nil, s => s
  | _, _, _, _, .cons h t, s => .cons h (HasL.append t s)
theorem HasL.get : ∀ {vs : List V} {ds : List Dv} {i : Nat} {d : Dv}, HasL K N H vs ds → ds[i]? = some d → ∃ v, vs[i]? = some v ∧ Has K N H v d
  | _, _, _, _, .nil, e => by simp at e
  | _, _, 0, _, .cons h _, e => by simp at e; subst e; exact ⟨_, rfl, h⟩
  | _, _, i + 1, _, .cons _ t, e => by
    obtain ⟨v, h1, h2⟩ := HasL.get (i := i) t (by simpa using e)
    exact ⟨v, by simpa using h1, h2⟩
theorem HasL.set : ∀ {vs : List V} {ds : List Dv} (i : Nat) {v : V} {d : Dv}, HasL K N H vs ds → Has K N H v d → HasL K N H (vs.set i v) (ds.set i d)
  | _, _, _, _, _, .nil, _ => .nil
  | _, _, 0, _, _, .cons _ t, h => .cons h t
  | _, _, i + 1, _, _, .cons g t, h => .cons g (HasL.set i t h)
theorem HasL.take : ∀ {vs : List V} {ds : List Dv} (i : Nat), HasL K N H vs ds → HasL K N H (vs.take i) (ds.take i)
  | _, _, 0, _ => .nil
  | _, _, _ + 1, .nil => .nil
  | _, _, i + 1, .cons g t => .cons g (HasL.take i t)
theorem HasL.drop : ∀ {vs : List V} {ds : List Dv} (i : Nat), HasL K N H vs ds → HasL K N H (vs.drop i) (ds.drop i)
  | _, _, 0, h => h
  | _, _, _ + 1, .nil => .nil
  | _, _, i + 1, .cons _ t => HasL.drop i t
end

/-! ### things that change -/
def fpOf (As : List (List Addr)) (a : Addr) : Prop := ∃ l, l ∈ As ∧ a ∈ l
def bad (z : Av) (As : List (List Addr)) (a : Addr) : Prop := fpOf As a ∨ z a
/-- H' is a later heap: only the world's own things (As) and the own ones (ow) have changed -/
structure ExtS (As : List (List Addr)) (ow : Av) (H : Hp) (As' : List (List Addr)) (ow' : Av) (H' : Hp) : Prop where
  keep : ∀ b o, H b = some o → ¬ fpOf As b → ¬ ow b → H' b = some o ∧ ¬ fpOf As' b ∧ ¬ ow' b
  at_ : ∀ (j : Nat) (l : List Addr), As[j]? = some l → As'[j]? = some l
  up : ∀ a, H a ≠ none → H' a ≠ none
abbrev No : Av := fun _ => False
abbrev Ext (As : List (List Addr)) (H : Hp) (As' : List (List Addr)) (H' : Hp) : Prop := ExtS As No H As' No H'
def zo (z ow : Av) : Av := fun a => z a ∨ ow a
inductive HasV (K : PySem.W.Frag) (z : Av) (As : List (List Addr)) (H : Hp) : V → Sv → Prop
  | d {v : V} {x : Dv} : Has K (bad z As) H v x → HasV K z As H v (.d x)
  | box {p : Addr} {l : List Addr} {j : Nat} : As[j]? = some (p :: l) → HasV K z As H (.ref p) (.box j)
inductive HasVL (K : PySem.W.Frag) (z : Av) (As : List (List Addr)) (H : Hp) : List V → List Sv → Prop
  | nil : HasVL K z As H [] []
  | cons {v : V} {x : Sv} {vs : List V} {xs : List Sv} : HasV K z As H v x → HasVL K z As H vs xs → HasVL K z As H (v :: vs) (x :: xs)

structure MutK where
  R : List Addr → Hp → Prop
  st : ∀ l H H', (∀ a, a ∈ l → H' a = H a) → R l H → R l H'
inductive WObj where
  | lst (xs : List Sv)
  | ins (C : Addr) (ks : List Str) (ds : List Sv)
  | dic (ks : List Key) (ds : List Sv)
  | obj (k : MutK)
  /-- a dict that is walked -/
  | lck (o : Obj) (vs : List V) (ks : List Key) (ds : List Sv)
  /-- a tuple that holds things -/
  | tupV (xs : List Sv)
  /-- the table at P of the code objects that a def has made, all of them of the name q -/
  | tab (P : Addr) (q : Str)
  | gone
abbrev DS := List (Option Sl)
abbrev WS := List WObj

section
variable {K : PySem.W.Frag} {z ow ow' ow2 : Av} {As As' As2 : List (List Addr)} {H H' H2 : Hp}
theorem ExtS.refl : ExtS As ow H As ow H := ⟨fun _ _ h n m => ⟨h, n, m⟩, fun _ _ h => h, fun _ h => h⟩
theorem ExtS.trans (e : ExtS As ow H As' ow' H') (f : ExtS As' ow' H' As2 ow2 H2) : ExtS As ow H As2 ow2 H2 :=
  ⟨fun b o h n m => let ⟨h1, n1, m1⟩ := e.keep b o h n m; f.keep b o h1 n1 m1, fun j l h => f.at_ j l (e.at_ j l h), fun a h => f.up a (e.up a h)⟩
/-- own things stand while only the world changes -/
theorem ExtS.own (e : Ext As H As' H') : ExtS As ow H As' ow H' := ⟨fun b o h n m => ⟨(e.keep b o h n fun q => q).1, (e.keep b o h n fun q => q).2.1, m⟩, e.at_, e.up⟩
theorem ExtS.mv (e : ExtS As ow H As' ow' H') : Mv (bad (zo z ow) As) H (bad (zo z ow') As') H' := fun b o h n => by
  obtain ⟨h1, n1, m1⟩ := e.keep b o h (fun f => n (.inl f)) fun f => n (.inr (.inr f))
  exact ⟨h1, fun q => by
    rcases q with q | q | q
    · exact n1 q
    · exact n (.inr (.inl q))
    · exact m1 q⟩
theorem Ext.mv (e : Ext As H As' H') : Mv (bad z As) H (bad z As') H' := fun b o h n => by
  obtain ⟨h1, n1, _⟩ := e.keep b o h (fun f => n (.inl f)) fun f => f
  exact ⟨h1, fun q => by
    rcases q with q | q
    · exact n1 q
    · exact n (.inr q)⟩
/-- foreign things: tracked, not the world's -/
structure Zok (z : Av) (As : List (List Addr)) (H : Hp) : Prop where
  trk : ∀ a, z a → H a ≠ none
  out : ∀ a, z a → ¬ fpOf As a
theorem Zok.ext (h : Zok z As H) (e : Ext As H As' H') : Zok z As' H' :=
  ⟨fun a q => e.up a (h.trk a q), fun a q => by
    cases r : H a with
    | none => exact absurd r (h.trk a q)
    | some o => exact (e.keep a o r (h.out a q) fun f => f).2.1⟩
theorem HasV.ext {v : V} {x : Sv} (e : Ext As H As' H') (h : HasV K z As H v x) : HasV K z As' H' v x := by
  cases h with
  | d h => exact .d (h.mv e.mv)
  | box h => exact .box (e.at_ _ _ h)
theorem HasVL.ext : ∀ {vs : List V} {xs : List Sv}, Ext As H As' H' → HasVL K z As H vs xs → HasVL K z As' H' vs xs
  | _, _, _, .nil => .nil
  | _, _, e, .cons h t => .cons (h.ext e) (t.ext e)
theorem HasVL.length : ∀ {vs : List V} {xs : List Sv}, HasVL K z As H vs xs → vs.length = xs.length
  | _, _, .nil => rfl
  | _, _, .cons _ t => congrArg (· + 1) (HasVL.length t)
theorem HasVL.get : ∀ {vs : List V} {ds : List Sv} {i : Nat} {d : Sv}, HasVL K z As H vs ds → ds[i]? = some d → ∃ v, vs[i]? = some v ∧ HasV K z As H v d
  | _, _, _, _, .nil, e => by simp at e
  | _, _, 0, _, .cons h _, e => by simp at e; subst e; exact ⟨_, rfl, h⟩
  | _, _, i + 1, _, .cons _ t, e => by
    obtain ⟨v, h1, h2⟩ := HasVL.get (i := i) t (by simpa using e)
    exact ⟨v, by simpa using h1, h2⟩
theorem HasVL.append : ∀ {vs us : List V} {ds es : List Sv}, HasVL K z As H vs ds → HasVL K z As H us es → HasVL K z As H (vs ++ us) (ds ++ es)
  | _, _, _, _, .nil, s => s
  | _, _, _, _, .cons h t, s => .cons h (HasVL.append t s)
end

/-- a code object of the name q -/
def CodO (c : Addr) (q : Str) : HO := .ext fun h => ∃ (oc : Obj) (vs : Array Value) (t : Tok), h.get? c = some oc ∧ oc.data = .fields vs ∧ vs[1]? = some (.str q t)
/-- a table of code objects that nothing else names -/
def TabOk (N : Av) (H : Hp) (P : Addr) (q : Str) : Prop := ∃ ps : Array Value, H P = some (.tbl ps) ∧ TriplesOk ps.toList ∧ ∀ (pos : Pos) (cv : Value), codeAmong pos ps.toList = some cv → ∃ c, cv = .ref c ∧ ¬ N c ∧ H c = some (CodO c q)
theorem TabOk.mv {N N' : Av} {H H' : Hp} {P : Addr} {q : Str} (e : Mv N H N' H') (s : H' P = H P) (h : TabOk N H P q) : TabOk N' H' P q := by
  obtain ⟨ps, h1, h2, h3⟩ := h
  refine ⟨ps, s.trans h1, h2, fun pos cv hc => ?_⟩
  obtain ⟨c, e1, e2, e3⟩ := h3 pos cv hc
  exact ⟨c, e1, (e c _ e3 e2).2, (e c _ e3 e2).1⟩
def WRep (K : PySem.W.Frag) (z : Av) (As : List (List Addr)) (H : Hp) (l : List Addr) : WObj → Prop
  | .lst xs => ∃ a vs, l = [a] ∧ H a = some (.lst vs) ∧ HasVL K z As H vs xs
  | .ins C ks ds => ∃ a dx vs, l = [a] ∧ H a = some (.ins C dx (ks.zip vs)) ∧ HasVL K z As H vs ds ∧ ks.length = ds.length
  | .dic ks ds => ∃ a vs, l = [a] ∧ H a = some (.dK (ks.zip vs)) ∧ HasVL K z As H vs ds ∧ ks.length = ds.length
  | .obj k => k.R l H
  | .lck o vs ks ds => ∃ a, l = [a] ∧ H a = some (.frz o (.dK (ks.zip vs))) ∧ HasVL K z As H vs ds ∧ ks.length = ds.length
  | .tupV xs => ∃ a vs, l = [a] ∧ H a = some (.tup vs) ∧ HasVL K z As H vs xs
  | .tab P q => l = [P] ∧ TabOk (bad z As) H P q
  | .gone => True
structure Wld (K : PySem.W.Frag) (z : Av) (As : List (List Addr)) (W : WS) (H : Hp) : Prop where
  len : As.length = W.length
  rep : ∀ (j : Nat) (l : List Addr) (o : WObj), As[j]? = some l → W[j]? = some o → WRep K z As H l o
  trk : ∀ a, fpOf As a → H a ≠ none
  dis : ∀ (i j : Nat) (l l' : List Addr) (a : Addr), As[i]? = some l → As[j]? = some l' → a ∈ l → a ∈ l' → i = j
  zok : Zok z As H

section
variable {K : PySem.W.Frag} {z z' ow ow' : Av} {As As' : List (List Addr)} {W W' : WS} {H H' : Hp}
theorem WRep.ext {l : List Addr} {o : WObj} (e : Ext As H As' H') (s : ∀ a, a ∈ l → H' a = H a) (h : WRep K z As H l o) : WRep K z As' H' l o := by
  cases o with
  | lst xs =>
    obtain ⟨a, vs, rfl, q, r⟩ := h
    exact ⟨a, vs, rfl, by rw [s a (List.Mem.head _)]; exact q, r.ext e⟩
  | ins C ks ds =>
    obtain ⟨a, dx, vs, rfl, q, r, n⟩ := h
    exact ⟨a, dx, vs, rfl, by rw [s a (List.Mem.head _)]; exact q, r.ext e, n⟩
  | dic ks ds =>
    obtain ⟨a, vs, rfl, q, r, n⟩ := h
    exact ⟨a, vs, rfl, by rw [s a (List.Mem.head _)]; exact q, r.ext e, n⟩
  | obj k => exact k.st l H H' s h
  | lck o_ vs_ ks ds =>
    obtain ⟨a, rfl, q, r, n⟩ := h
    exact ⟨a, rfl, by rw [s a (List.Mem.head _)]; exact q, r.ext e, n⟩
  | tupV xs =>
    obtain ⟨a, vs, rfl, q, r⟩ := h
    exact ⟨a, vs, rfl, by rw [s a (List.Mem.head _)]; exact q, r.ext e⟩
  | tab P q =>
    obtain ⟨rfl, h⟩ := h
    exact ⟨rfl, h.mv e.mv (s P (List.Mem.head _))⟩
  | gone => trivial
theorem HasVL.weak : ∀ {vs : List V} {xs : List Sv}, (∀ a, z' a → z a) → HasVL K z As H vs xs → HasVL K z' As H vs xs
  | _, _, _, .nil => .nil
  | _, _, w, .cons (.d h) t => .cons (.d (h.mv (Mv.weak fun a q => q.imp id (w a)))) (t.weak w)
  | _, _, w, .cons (.box h) t => .cons (.box h) (t.weak w)
theorem HasV.weak {v : V} {x : Sv} (w : ∀ a, z' a → z a) (h : HasV K z As H v x) : HasV K z' As H v x := by
  cases h with
  | d h => exact .d (h.mv (Mv.weak fun a q => q.imp id (w a)))
  | box h => exact .box h
theorem WRep.weak {l : List Addr} {o : WObj} (w : ∀ a, z' a → z a) (h : WRep K z As H l o) : WRep K z' As H l o := by
  cases o with
  | lst xs => obtain ⟨a, vs, e, q, r⟩ := h; exact ⟨a, vs, e, q, r.weak w⟩
  | ins C ks ds => obtain ⟨a, dx, vs, e, q, r, n⟩ := h; exact ⟨a, dx, vs, e, q, r.weak w, n⟩
  | dic ks ds => obtain ⟨a, vs, e, q, r, n⟩ := h; exact ⟨a, vs, e, q, r.weak w, n⟩
  | obj k => exact h
  | lck o_ vs_ ks ds => obtain ⟨a, e, q, r, n⟩ := h; exact ⟨a, e, q, r.weak w, n⟩
  | tupV xs => obtain ⟨a, vs, e, q, r⟩ := h; exact ⟨a, vs, e, q, r.weak w⟩
  | tab P q => exact ⟨h.1, h.2.mv (Mv.weak fun a q => q.imp id (w a)) rfl⟩
  | gone => trivial
theorem Wld.weak (w : ∀ a, z' a → z a) (h : Wld K z As W H) : Wld K z' As W H :=
  ⟨h.len, fun j l o a b => (h.rep j l o a b).weak w, h.trk, h.dis, ⟨fun a q => h.zok.trk a (w a q), fun a q => h.zok.out a (w a q)⟩⟩
/-- a new thing that never changes -/
theorem Ext.new {p : Addr} {o : HO} (h : H p = none) : ExtS As ow H As ow (upd H p o) :=
  ⟨fun b u e n m => ⟨by rw [upd_ne (ne_of_none e h)]; exact e, n, m⟩, fun _ _ q => q, fun a q => by
    unfold upd
    split
    · exact fun x => by cases x
    · exact q⟩
theorem Wld.new {p : Addr} {o : HO} (w : Wld K z As W H) (h : H p = none) : Wld K z As W (upd H p o) := by
  refine ⟨w.len, fun j l u h1 h2 => (w.rep j l u h1 h2).ext (Ext.new h) fun a q => upd_ne fun e => ?_, fun a f => (Ext.new (As := As) (ow := No) h).up a (w.trk a f), w.dis, w.zok.ext (Ext.new h)⟩
  subst e
  exact w.trk a ⟨l, List.mem_of_getElem? h1, q⟩ h
/-- a new thing that may change -/
theorem fp_app {l : List Addr} {a : Addr} : fpOf (As ++ [l]) a ↔ fpOf As a ∨ a ∈ l := by
  unfold fpOf
  constructor
  · rintro ⟨l', h, q⟩
    rcases List.mem_append.mp h with h | h
    · exact .inl ⟨l', h, q⟩
    · rw [List.mem_singleton] at h
      subst h
      exact .inr q
  · rintro (⟨l', h, q⟩ | q)
    · exact ⟨l', List.mem_append.mpr (.inl h), q⟩
    · exact ⟨l, List.mem_append.mpr (.inr (List.mem_singleton.mpr rfl)), q⟩
end

/-! ### slots -/
def Sl.isOwn : Sl → Bool
  | .v _ => false
  | _ => true
def owOf (O : Nat → Option Addr) : Av := fun a => ∃ i, O i = some a
def SRep (K : PySem.W.Frag) (z : Av) (As : List (List Addr)) (H : Hp) (o : Option Addr) (v : V) : Sl → Prop
  | .v x => o = none ∧ HasV K z As H v x
  | .own xs => ∃ a vs, o = some a ∧ v = .ref a ∧ H a = some (.lst vs) ∧ HasL K (bad z As) H vs xs
  | .ownD ks ds => ∃ a vs, o = some a ∧ v = .ref a ∧ H a = some (.dK (ks.zip vs)) ∧ HasL K (bad z As) H vs ds ∧ ks.length = ds.length
structure Rep (K : PySem.W.Frag) (z : Av) (O : Nat → Option Addr) (As : List (List Addr)) (σd : DS) (W : WS) (σ : St) (H : Hp) : Prop where
  wld : Wld K (zo z (owOf O)) As W H
  len : σ.length = σd.length
  sl : ∀ (i : Nat) (d : Sl), σd[i]? = some (some d) → ∃ v, σ[i]? = some (some v) ∧ SRep K (zo z (owOf O)) As H (O i) v d
  out : ∀ (i : Nat) (a : Addr), O i = some a → ¬ z a
  inj : ∀ (i j : Nat) (a : Addr), O i = some a → O j = some a → i = j
  oo : ∀ (i : Nat) (a : Addr), O i = some a → ∃ s, σd[i]? = some (some s) ∧ s.isOwn = true
section
variable {K : PySem.W.Frag} {z : Av} {O : Nat → Option Addr} {As As' : List (List Addr)} {σd : DS} {W W' : WS} {σ : St} {H H' : Hp}
theorem SRep.ext {o : Option Addr} {v : V} {x : Sl} (e : Ext As H As' H') (k : ∀ a, o = some a → H' a = H a) (h : SRep K z As H o v x) : SRep K z As' H' o v x := by
  cases x with
  | v x => exact ⟨h.1, h.2.ext e⟩
  | own xs =>
    obtain ⟨a, vs, ho, hv, q, r⟩ := h
    exact ⟨a, vs, ho, hv, by rw [k a ho]; exact q, r.mv e.mv⟩
  | ownD ks ds =>
    obtain ⟨a, vs, ho, hv, q, r, n⟩ := h
    exact ⟨a, vs, ho, hv, by rw [k a ho]; exact q, r.mv e.mv, n⟩
/-- an expression's end: the world may have changed, the slots stand -/
theorem Rep.ext (r : Rep K z O As σd W σ H) (e : Ext As H As' H') (w : Wld K (zo z (owOf O)) As' W' H') : Rep K z O As' σd W' σ H' := by
  refine ⟨w, r.len, fun i d h => ?_, r.out, r.inj, r.oo⟩
  obtain ⟨v, h1, h2⟩ := r.sl i d h
  refine ⟨v, h1, h2.ext e fun a ha => ?_⟩
  have q : zo z (owOf O) a := .inr ⟨i, ha⟩
  cases t : H a with
  | none => exact absurd t (r.wld.zok.trk a q)
  | some o => exact (e.keep a o t (r.wld.zok.out a q) fun f => f).1
end
end DL

namespace DL
open PySem L2

abbrev WE := DS → WS → (Sv → WS → Prop) → Prop
abbrev WB := DS → WS → (Dv → WS → Prop) → Prop
abbrev WF := DS → WS → (List Dv → WS → Prop) → Prop
abbrev WT := DS → WS → (Bool → WS → Prop) → Prop
abbrev WA := DS → WS → (List Sv → WS → Prop) → Prop
abbrev WAB := DS → WS → (List Dv → WS → Prop) → Prop
structure DEnds where
  nx : DS → WS → Prop
  rt : Sv → WS → Prop
  bk : DS → WS → Prop := fun _ _ => False
  ct : DS → WS → Prop := fun _ _ => False
abbrev WSt := DEnds → DS → WS → Prop

/-- what is behind an expression: later heap, later world, the value -/
def Nx (K : PySem.W.Frag) (z : Av) (As : List (List Addr)) (H : Hp) (Φ : Sv → WS → Prop) (Q : VK) : Prop :=
  ∀ v H' x As' W', Ext As H As' H' → Wld K z As' W' H' → HasV K z As' H' v x → Φ x W' → Q v H'
/-- read: data, or an own list, an own dict -/
def HasB (K : PySem.W.Frag) (z : Av) (As : List (List Addr)) (H : Hp) (v : V) (x : Dv) : Prop :=
  Has K (bad z As) H v x ∨ (∃ a vs xs, v = .ref a ∧ x = .lst xs ∧ z a ∧ H a = some (.lst vs) ∧ HasL K (bad z As) H vs xs) ∨
    ∃ a ks vs ds, v = .ref a ∧ x = .dic ks ds ∧ z a ∧ H a = some (.dK (ks.zip vs)) ∧ HasL K (bad z As) H vs ds ∧ ks.length = ds.length
inductive HasBL (K : PySem.W.Frag) (z : Av) (As : List (List Addr)) (H : Hp) : List V → List Dv → Prop
  | nil : HasBL K z As H [] []
  | cons {v : V} {x : Dv} {vs : List V} {xs : List Dv} : HasB K z As H v x → HasBL K z As H vs xs → HasBL K z As H (v :: vs) (x :: xs)
def z1 (z : Av) (p : Addr) : Av := fun a => z a ∨ a = p

def TEok (K : PySem.W.Frag) (t : TE) (w : WE) : Prop := ∀ {z : Av} {O : Nat → Option Addr} {As : List (List Addr)} {σd : DS} {W : WS} {σ : St} {H : Hp} (Φ : Sv → WS → Prop) (Q : VK), Rep K z O As σd W σ H → w σd W Φ → Nx K (zo z (owOf O)) As H Φ Q → t σ H Q
/-- a new list that nobody else knows -/
def TFok (K : PySem.W.Frag) (t : TE) (w : WF) : Prop := ∀ {z : Av} {O : Nat → Option Addr} {As : List (List Addr)} {σd : DS} {W : WS} {σ : St} {H : Hp} (Φ : List Dv → WS → Prop) (Q : VK), Rep K z O As σd W σ H → w σd W Φ →
  (∀ p H' vs xs As' W', H p = none → Ext As H As' H' → Wld K (z1 (zo z (owOf O)) p) As' W' H' → H' p = some (.lst vs) → HasL K (bad (z1 (zo z (owOf O)) p) As') H' vs xs → Φ xs W' → Q (.ref p) H') → t σ H Q
structure EndsOk (K : PySem.W.Frag) (z : Av) (As : List (List Addr)) (ow : Av) (H : Hp) (Dd : DEnds) (D : Ends) : Prop where
  nx : ∀ σd' W' O' As' σ' H', ExtS As ow H As' (owOf O') H' → Rep K z O' As' σd' W' σ' H' → Dd.nx σd' W' → D.nx σ' H'
  rt : ∀ v x W' ow' As' H', ExtS As ow H As' ow' H' → Wld K z As' W' H' → HasV K z As' H' v x → Dd.rt x W' → D.rt v H'
  bk : ∀ σd' W' O' As' σ' H', ExtS As ow H As' (owOf O') H' → Rep K z O' As' σd' W' σ' H' → Dd.bk σd' W' → D.bk σ' H'
  ct : ∀ σd' W' O' As' σ' H', ExtS As ow H As' (owOf O') H' → Rep K z O' As' σd' W' σ' H' → Dd.ct σd' W' → D.ct σ' H'
def TSok (K : PySem.W.Frag) (t : TS) (w : WSt) : Prop := ∀ {z : Av} {O : Nat → Option Addr} {As : List (List Addr)} {σd : DS} {W : WS} {σ : St} {H : Hp} (Dd : DEnds) (D : Ends), Rep K z O As σd W σ H → w Dd σd W → EndsOk K z As (owOf O) H Dd D → t D σ H

structure PD (X : Cx) (e : Expr) (t : TE) (w : WE) : Prop where
  pe : PE X e t
  ok : TEok X.K t w
structure PF (X : Cx) (e : Expr) (t : TE) (w : WF) : Prop where
  pe : PE X e t
  ok : TFok X.K t w
section
variable {K : PySem.W.Frag} {z : Av} {O : Nat → Option Addr} {As As' : List (List Addr)} {σd : DS} {W W' : WS} {σ : St} {H H' : Hp} {ow ow' : Av}
theorem EndsOk.ext {Dd : DEnds} {D : Ends} (h : EndsOk K z As ow H Dd D) (e : ExtS As ow H As' ow' H') : EndsOk K z As' ow' H' Dd D :=
  ⟨fun _ _ _ _ _ _ f => h.nx _ _ _ _ _ _ (e.trans f), fun _ _ _ _ _ _ f => h.rt _ _ _ _ _ _ (e.trans f), fun _ _ _ _ _ _ f => h.bk _ _ _ _ _ _ (e.trans f), fun _ _ _ _ _ _ f => h.ct _ _ _ _ _ _ (e.trans f)⟩
theorem HasB.ext {v : V} {x : Dv} (zk : Zok z As H) (e : Ext As H As' H') (h : HasB K z As H v x) : HasB K z As' H' v x := by
  rcases h with h | ⟨a, vs, xs, rfl, rfl, za, h, l⟩ | ⟨a, ks, vs, ds, rfl, rfl, za, h, l, n⟩
  · exact .inl (h.mv e.mv)
  · exact .inr (.inl ⟨a, vs, xs, rfl, rfl, za, (e.keep a _ h (zk.out a za) fun f => f).1, l.mv e.mv⟩)
  · exact .inr (.inr ⟨a, ks, vs, ds, rfl, rfl, za, (e.keep a _ h (zk.out a za) fun f => f).1, l.mv e.mv, n⟩)
theorem HasBL.ext : ∀ {vs : List V} {xs : List Dv}, Zok z As H → Ext As H As' H' → HasBL K z As H vs xs → HasBL K z As' H' vs xs
  | _, _, _, _, .nil => .nil
  | _, _, zk, e, .cons h t => .cons (h.ext zk e) (t.ext zk e)
theorem HasB.int {v : V} {i : Int} (h : HasB K z As H v (.int i)) : v = .int i := by
  rcases h with h | ⟨_, _, _, _, h, _⟩ | ⟨_, _, _, _, _, h, _⟩
  · cases h; rfl
  · cases h
  · cases h
theorem HasB.bl {v : V} {i : Bool} (h : HasB K z As H v (.bl i)) : v = .bl i := by
  rcases h with h | ⟨_, _, _, _, h, _⟩ | ⟨_, _, _, _, _, h, _⟩
  · cases h; rfl
  · cases h
  · cases h
theorem HasB.str {v : V} {i : Str} (h : HasB K z As H v (.str i)) : v = .str i := by
  rcases h with h | ⟨_, _, _, _, h, _⟩ | ⟨_, _, _, _, _, h, _⟩
  · cases h; rfl
  · cases h
  · cases h
theorem HasB.non {v : V} (h : HasB K z As H v .non) : v = .non := by
  rcases h with h | ⟨_, _, _, _, h, _⟩ | ⟨_, _, _, _, _, h, _⟩
  · cases h; rfl
  · cases h
  · cases h
theorem HasB.lst {v : V} {xs : List Dv} (h : HasB K z As H v (.lst xs)) : ∃ a vs, v = .ref a ∧ SqL K H a vs ∧ HasL K (bad z As) H vs xs := by
  rcases h with h | ⟨a, vs, xs, rfl, h, _, h2, h3⟩ | ⟨_, _, _, _, _, h, _⟩
  · cases h with
    | lst s l => exact ⟨_, _, rfl, s.l, l⟩
  · cases h
    exact ⟨a, vs, rfl, SqL.of h2, h3⟩
  · cases h
theorem HasB.tup {v : V} {xs : List Dv} (h : HasB K z As H v (.tup xs)) : ∃ a vs, v = .ref a ∧ SqT K H a vs ∧ HasL K (bad z As) H vs xs := by
  rcases h with h | ⟨_, _, _, _, h, _⟩ | ⟨_, _, _, _, _, h, _⟩
  · cases h with
    | tup s l => exact ⟨_, _, rfl, s.t, l⟩
  · cases h
  · cases h
theorem HasB.ins {v : V} {C : Addr} {ks : List Str} {ds : List Dv} (h : HasB K z As H v (.ins C ks ds)) : ∃ a dx vs, v = .ref a ∧ H a = some (.ins C dx (ks.zip vs)) ∧ HasL K (bad z As) H vs ds ∧ ks.length = ds.length := by
  rcases h with h | ⟨_, _, _, _, h, _⟩ | ⟨_, _, _, _, _, h, _⟩
  · cases h with
    | ins n s l e => exact ⟨_, _, _, rfl, s, l, e⟩
  · cases h
  · cases h
theorem HasB.dic {v : V} {ks : List Key} {ds : List Dv} (h : HasB K z As H v (.dic ks ds)) : ∃ a vs, v = .ref a ∧ Rd H a (.dK (ks.zip vs)) ∧ HasL K (bad z As) H vs ds ∧ ks.length = ds.length := by
  rcases h with h | ⟨_, _, _, _, h, _⟩ | ⟨a, ks, vs, ds, rfl, h, za, h2, h3, n⟩
  · cases h with
    | dic n s l e => exact ⟨_, _, rfl, s, l, e⟩
  · cases h
  · cases h
    exact ⟨a, vs, rfl, .inl h2, h3, n⟩
end

/-! ### slots, constants -/
def slot : DS → Nat → Option Sl
  | [], _ => none
  | x :: _, 0 => x
  | _ :: r, i + 1 => slot r i
theorem slot_at : ∀ {σd : DS} {i : Nat} {d : Sl}, slot σd i = some d → σd[i]? = some (some d)
  | [], _, _, h => by cases h
  | x :: _, 0, _, h => by
    have h' : x = some _ := h
    rw [h']
    rfl
  | _ :: r, i + 1, _, h => by
    rw [List.getElem?_cons_succ]
    exact slot_at h
abbrev wVar (i : Nat) : WE := fun σd W Φ => match slot σd i with
  | some (.v x) => Φ x W
  | _ => False
section
variable {K : PySem.W.Frag}
theorem teo_var {i : Nat} : TEok K (tVar i) (wVar i) := by
  intro z O As σd W σ H Φ Q r h q
  unfold wVar at h
  split at h
  · rename_i x e
    obtain ⟨v, h1, _, h2⟩ := r.sl i _ (slot_at e)
    exact ⟨v, h1, q v H x As W ExtS.refl r.wld h2 h⟩
  · exact h.elim
end
section
variable {X : Cx}
theorem dv (i : Nat) {x : Str} {pos : Pos} (hN : X.N[i]? = some x := by rfl) (hv : Vis X.env.scope x := by first | exact Or.inl rfl | exact Or.inr (Or.inl rfl) | exact Or.inr (Or.inr rfl)) (hd : (x == ("__debug__" : Str)) = false := by decide)
    (hcd : (x == ("__classdict__" : Str)) = false := by decide) : PD X (.Name x pos) (tVar i) (wVar i) := ⟨pe_var hN hv hd hcd, teo_var⟩
end

/-! ### operators -/
section
variable {K : PySem.W.Frag}
/-- is None, is not None -/
def isN : Dv → Bool := fun x => match x with
  | .non => true
  | _ => false
end
section
variable {X : Cx} {a b e : Expr} {ta tb te : TE} {wa wb : WB} {pos : Pos}
end

/-! ### tests -/
section
variable {K : PySem.W.Frag} {ta tb te : TE} {wa wb we : WE} {tt tu : TT} {wt wu : WT}
theorem HasV.bl {z : Av} {As : List (List Addr)} {H : Hp} {v : V} {b : Bool} (h : HasV K z As H v (.d (.bl b))) : v = .bl b := by
  cases h with
  | d h => cases h; rfl
theorem HasV.int {z : Av} {As : List (List Addr)} {H : Hp} {v : V} {b : Int} (h : HasV K z As H v (.d (.int b))) : v = .int b := by
  cases h with
  | d h => cases h; rfl
theorem HasV.str {z : Av} {As : List (List Addr)} {H : Hp} {v : V} {b : Str} (h : HasV K z As H v (.d (.str b))) : v = .str b := by
  cases h with
  | d h => cases h; rfl
end
section
variable {X : Cx} {a b c e : Expr} {ta tb te : TE} {wa wb we : WE} {tt tu : TT} {wt wu : WT} {pos : Pos} {rest : List Expr}
end

/-! ### arguments, displays -/
theorem line_of {n : Nat} (h : n ≤ 1000000) : n ≤ sizeLine := Nat.le_trans h (by decide)
section
variable {K : PySem.W.Frag} {ta : TE} {wa : WE} {tr : TA} {wr : WA}
end
section
variable {X : Cx} {e : Expr} {es : List Expr} {ta : TE} {wa : WE} {tr : TA} {wr : WA} {pos : Pos}
end
end DL

namespace DL
open PySem L2

/-! ### built-in functions -/
abbrev RDC := List Dv → WS → (Sv → WS → Prop) → Prop
abbrev RDF := List Dv → WS → (List Dv → WS → Prop) → Prop
theorem up_none {As As' : List (List Addr)} {H H' : Hp} {t : Addr} (e : Ext As H As' H') (h : H' t = none) : H t = none := by
  cases k : H t with
  | none => rfl
  | some o => exact absurd h (e.up t (by rw [k]; exact fun x => by cases x))
section
variable {K : PySem.W.Frag} {ta : TA} {wa : WAB}
theorem HasBL.one {z : Av} {As : List (List Addr)} {H : Hp} {vs : List V} {x : Dv} (h : HasBL K z As H vs [x]) : ∃ v, vs = [v] ∧ HasB K z As H v x := by
  cases h with
  | cons a b =>
    cases b
    exact ⟨_, rfl, a⟩
theorem HasBL.two {z : Av} {As : List (List Addr)} {H : Hp} {vs : List V} {x y : Dv} (h : HasBL K z As H vs [x, y]) : ∃ v u, vs = [v, u] ∧ HasB K z As H v x ∧ HasB K z As H u y := by
  cases h with
  | cons a b =>
    obtain ⟨u, e, b2⟩ := HasBL.one b
    subst e
    exact ⟨_, u, rfl, a, b2⟩
end
section
variable {X : Cx} {x : Str} {p pos : Pos} {e : Expr} {es : List Expr} {t : TA} {wa : WAB} {r : List V → Hp → VK → Prop} {rc : RDC} {rf : RDF}
end

/-! ### own defs: a promise told in data -/
abbrev WFn := List Sv → WS → (Sv → WS → Prop) → Prop
/-- what a constant is, as data -/
def Cn (K : PySem.W.Frag) (dvs : List V) (dd : List Dv) : Prop := ∀ N H, HasL K N H dvs dd
theorem Cn.nil {K : PySem.W.Frag} : Cn K [] [] := fun _ _ => .nil
section
variable {X : Cx} {x : Str} {p pos : Pos} {e : Expr} {es : List Expr} {t : TA} {wa : WA} {wf : WFn} {f : Addr} {fd : FuncData} {ps : List Str} {k : Nat} {ds : List Value} {dvs : List V} {dd : List Dv}
end

section
variable {P : Program} {w : World} {K : PySem.W.Frag} {mg : Str → Option Value} {base : Heap}
end

/-! ### statements -/
section
variable {K : PySem.W.Frag} {z : Av} {O : Nat → Option Addr} {As As' : List (List Addr)} {σd : DS} {W W' : WS} {σ : St} {H H' : Hp}
theorem SRep.weak {z z' : Av} {o : Option Addr} {v : V} {x : Sl} (w : ∀ a, z' a → z a) (h : SRep K z As H o v x) : SRep K z' As H o v x := by
  cases x with
  | v x => exact ⟨h.1, h.2.weak w⟩
  | own xs =>
    obtain ⟨a, vs, h1, h2, h3, h4⟩ := h
    exact ⟨a, vs, h1, h2, h3, h4.mv (Mv.weak fun a b => b.imp id (w a))⟩
  | ownD ks ds =>
    obtain ⟨a, vs, h1, h2, h3, h4, h5⟩ := h
    exact ⟨a, vs, h1, h2, h3, h4.mv (Mv.weak fun a b => b.imp id (w a)), h5⟩
end
section
variable {K : PySem.W.Frag} {te : TE} {we : WE} {t u : TS} {wt wu : WSt}
end
section
variable {X : Cx} {pos pos' : Pos} {e : Expr} {x : Str} {te : TE} {we : WE} {t u : TS} {wt wu : WSt} {st : Stmt} {rest : List Stmt}
end
end DL

namespace DL
open PySem L2

/-! ### attributes -/
section
variable {K : PySem.W.Frag}
theorem Wld.ins {z : Av} {As : List (List Addr)} {W : WS} {H : Hp} {v : V} {j : Nat} {C : Addr} {ks : List Str} {ds : List Sv} (w : Wld K z As W H) (h : HasV K z As H v (.box j)) (e : W[j]? = some (.ins C ks ds)) :
    ∃ a dx vs, v = .ref a ∧ As[j]? = some [a] ∧ H a = some (.ins C dx (ks.zip vs)) ∧ HasVL K z As H vs ds ∧ ks.length = ds.length := by
  cases h with
  | box h =>
    obtain ⟨a, dx, vs, e1, h1, h2, h3⟩ := w.rep j _ _ h e
    cases e1
    exact ⟨_, dx, vs, rfl, h, h1, h2, h3⟩
end
section
variable {K : PySem.W.Frag}
theorem HasVL.set : ∀ {z : Av} {As : List (List Addr)} {H : Hp} {vs : List V} {ds : List Sv} (i : Nat) {v : V} {d : Sv}, HasVL K z As H vs ds → HasV K z As H v d → HasVL K z As H (vs.set i v) (ds.set i d)
  | _, _, _, _, _, _, _, _, .nil, _ => .nil
  | _, _, _, _, _, 0, _, _, .cons _ t, h => .cons h t
  | _, _, _, _, _, i + 1, _, _, .cons g t, h => .cons g (HasVL.set i t h)
end

/-! ### properties, methods -/
section
variable {K : PySem.W.Frag}
end

/-! ### new instances -/
section
variable {K : PySem.W.Frag}
/-- the last thing is forgotten -/
theorem HasVL.cut {z : Av} {As As' : List (List Addr)} {H H' : Hp} {us : List V} : ∀ {vs : List V} {xs : List Sv}, (∀ (j : Nat) (l : List Addr), As[j]? = some l → As'[j]? = some l) → (∀ a, fpOf As a → fpOf As' a) → HasVL K z As H us xs → HasVL K z As' H' vs xs → HasVL K z As H' vs xs := by
  intro vs xs h1 h2 o n
  induction n generalizing us with
  | nil => exact .nil
  | cons a b ih =>
    cases o with
    | cons oa ob =>
      refine .cons ?_ (ih ob)
      cases a with
      | d a => exact .d (a.mv (Mv.weak fun x q => q.imp (h2 x) id))
      | box a =>
        cases oa with
        | box oa =>
          rw [h1 _ _ oa] at a
          cases a
          exact .box oa
theorem Wld.cut {z : Av} {As : List (List Addr)} {W : WS} {H H' : Hp} {l : List Addr} {o : WObj} (w : Wld K z As W H) (e : Ext As H (As ++ [l]) H') (w2 : Wld K z (As ++ [l]) (W ++ [o]) H') : Wld K z As W H' := by
  have f : ∀ a, fpOf As a → fpOf (As ++ [l]) a := fun a q => fp_app.mpr (.inl q)
  refine ⟨w.len, fun j l' u h1 h2 => ?_, fun a q => e.up a (w.trk a q), w.dis, ⟨fun a q => w2.zok.trk a q, fun a q x => w2.zok.out a q (f a x)⟩⟩
  have n := w2.rep j l' u (e.at_ j l' h1) (by rw [List.getElem?_append_left (List.getElem?_eq_some_iff.mp h2).1]; exact h2)
  have b := w.rep j l' u h1 h2
  cases u with
  | lst xs =>
    obtain ⟨a, vs, rfl, g1, g2⟩ := n
    obtain ⟨a', us, _, _, b2⟩ := b
    exact ⟨a, vs, rfl, g1, .cut e.at_ f b2 g2⟩
  | ins C ks ds =>
    obtain ⟨a, dx, vs, rfl, g1, g2, g3⟩ := n
    obtain ⟨a', _, us, _, _, b2, _⟩ := b
    exact ⟨a, dx, vs, rfl, g1, .cut e.at_ f b2 g2, g3⟩
  | dic ks ds =>
    obtain ⟨a, vs, rfl, g1, g2, g3⟩ := n
    obtain ⟨a', us, _, _, b2, _⟩ := b
    exact ⟨a, vs, rfl, g1, .cut e.at_ f b2 g2, g3⟩
  | obj k => exact n
  | lck o_ vs_ ks ds =>
    obtain ⟨a, rfl, g1, g2, g3⟩ := n
    obtain ⟨a', _, _, b2, _⟩ := b
    exact ⟨a, rfl, g1, .cut e.at_ f b2 g2, g3⟩
  | tupV xs =>
    obtain ⟨a, vs, rfl, g1, g2⟩ := n
    obtain ⟨a', us, _, _, b2⟩ := b
    exact ⟨a, vs, rfl, g1, .cut e.at_ f b2 g2⟩
  | tab P q => exact ⟨n.1, n.2.mv (Mv.weak fun a q => q.imp (f a) id) rfl⟩
  | gone => trivial
theorem Ext.cut {As : List (List Addr)} {H H' : Hp} {l : List Addr} (e : Ext As H (As ++ [l]) H') : Ext As H As H' :=
  ⟨fun b o h n m => ⟨(e.keep b o h n m).1, fun q => (e.keep b o h n m).2.1 (fp_app.mpr (.inl q)), fun f => f⟩, fun _ _ h => h, e.up⟩
end
section
variable {X : Cx} {x f m : Str} {p pos apos pos' : Pos} {e o value : Expr} {es : List Expr} {t : TA} {wa : WA} {wf : WFn} {C fa pa g : Addr} {fd : FuncData} {ps : List Str} {k : Nat} {ds : List Value} {dvs : List V} {dd : List Dv} {te to : TE} {we wo : WE}
end
end DL

namespace DL
open PySem L2

/-! ### targets, loops -/
abbrev Tgt := Sv → DS → Option DS
section
variable {K : PySem.W.Frag} {z : Av} {As0 : List (List Addr)} {ow0 : Av} {H0 : Hp} {g : TG} {tgt : Tgt} {is : List Nat} {tb : TS} {wb : WSt}
end
/-! ### what is walked -/
abbrev WI := DS → WS → (List Dv → WS → Prop) → Prop
section
variable {K : PySem.W.Frag}
variable {g : TG} {tgt : Tgt} {is : List Nat} {tb : TS} {wb : WSt}
end

/-! ### a, b = e1, e2; x += e -/
section
variable {K : PySem.W.Frag}
theorem HasV.sub {z z' : Av} {As : List (List Addr)} {H : Hp} {v : V} {x : Sv} (w : ∀ a, z' a → z a) (h : HasV K z As H v x) : HasV K z' As H v x := h.weak w
end
section
variable {X : Cx} {pos p : Pos} {x y : Str} {a b e tg iter c : Expr} {body : List Stmt} {ta : TA} {wa : WA} {te : TE} {we : WE} {g : TG} {tgt : Tgt} {is : List Nat} {tb : TS} {wb : WSt}
end
end DL

namespace DL
open PySem L2

/-! ### comprehensions -/
def wipeD (σ : DS) : List Nat → DS
  | [] => σ
  | v :: vs => (wipeD σ vs).set v none
def notOwn : Option Sl → Bool
  | some s => !s.isOwn
  | none => true
section
variable {K : PySem.W.Frag}
theorem wipe_at {α : Type} {σ : List (Option α)} {j : Nat} : ∀ {vs : List Nat}, (List.foldr (fun v (s : List (Option α)) => s.set v none) σ vs)[j]? = if j ∈ vs then (σ[j]?).map (fun _ => none) else σ[j]?
  | [] => by simp
  | v :: vs => by
    rw [List.foldr_cons, List.getElem?_set]
    have ih := wipe_at (σ := σ) (j := j) (vs := vs)
    have hl : (List.foldr (fun v (s : List (Option α)) => s.set v none) σ vs).length = σ.length := by
      clear ih
      induction vs with
      | nil => rfl
      | cons a b ih => rw [List.foldr_cons, List.length_set, ih]
    by_cases h : v = j
    · subst h
      rw [if_pos rfl, if_pos List.mem_cons_self, hl]
      by_cases l : v < σ.length
      · rw [if_pos l, List.getElem?_eq_getElem l]
        rfl
      · rw [if_neg l, List.getElem?_eq_none (Nat.le_of_not_lt l)]
        rfl
    · rw [if_neg h, ih]
      by_cases m : j ∈ vs
      · rw [if_pos m, if_pos (List.mem_cons_of_mem _ m)]
      · rw [if_neg m, if_neg fun q => (List.mem_cons.mp q).elim (fun e => h e.symm) m]
theorem wipe_fold (σ : St) : ∀ vs : List Nat, wipe σ vs = List.foldr (fun v (s : St) => s.set v none) σ vs
  | [] => rfl
  | v :: vs => by
    unfold wipe
    rw [wipe_fold σ vs]
    rfl
theorem wipeD_fold (σ : DS) : ∀ vs : List Nat, wipeD σ vs = List.foldr (fun v (s : DS) => s.set v none) σ vs
  | [] => rfl
  | v :: vs => by
    unfold wipeD
    rw [wipeD_fold σ vs]
    rfl
theorem wipe_get (σ : St) (vs : List Nat) (j : Nat) : (wipe σ vs)[j]? = if j ∈ vs then (σ[j]?).map (fun _ => none) else σ[j]? := by
  rw [wipe_fold]
  exact wipe_at
theorem wipeD_get (σ : DS) (vs : List Nat) (j : Nat) : (wipeD σ vs)[j]? = if j ∈ vs then (σ[j]?).map (fun _ => none) else σ[j]? := by
  rw [wipeD_fold]
  exact wipe_at
theorem slot_get : ∀ {σ : DS} {i : Nat} {s : Sl}, σ[i]? = some (some s) → slot σ i = some s
  | [], _, _, h => by simp at h
  | x :: r, 0, s, h => by
    have h' : some x = some (some s) := h
    exact Option.some.inj h'
  | x :: r, i + 1, s, h => slot_get (σ := r) (i := i) (by rw [← h, List.getElem?_cons_succ])
/-- the slots while a list is being made at D -/
theorem Rep.under {z : Av} {O : Nat → Option Addr} {As As' : List (List Addr)} {σd : DS} {W W' : WS} {σ : St} {H H' : Hp} {D : Addr} {vs : List Nat} (r : Rep K z O As σd W σ H) (hD : H D = none) (e : Ext As H As' H') (wl : Wld K (z1 (zo z (owOf O)) D) As' W' H') (hv : vs.all (fun i => notOwn (slot σd i)) = true) :
    Rep K (z1 z D) O As' (wipeD σd vs) W' (wipe σ vs) H' ∧ ∀ i, i ∈ vs → O i = none := by
  have on : ∀ i, i ∈ vs → O i = none := fun i m => by
    cases q : O i with
    | none => rfl
    | some a =>
      obtain ⟨s, h1, h2⟩ := r.oo i a q
      have := List.all_eq_true.mp hv i m
      rw [slot_get h1] at this
      have h3 : (!s.isOwn) = true := this
      rw [h2] at h3
      cases h3
  have sub : ∀ a, zo (z1 z D) (owOf O) a → z1 (zo z (owOf O)) D a := fun a q => by
    rcases q with (q | q) | q
    · exact .inl (.inl q)
    · exact .inr q
    · exact .inl (.inr q)
  have mv : Mv (bad (zo z (owOf O)) As) H (bad (zo (z1 z D) (owOf O)) As') H' := fun b o hb n => by
    obtain ⟨h1, h2, _⟩ := e.keep b o hb (fun f => n (.inl f)) fun f => f
    refine ⟨h1, fun q => ?_⟩
    rcases q with q | (q | q) | q
    · exact h2 q
    · exact n (.inr (.inl q))
    · subst q
      rw [hD] at hb
      cases hb
    · exact n (.inr (.inr q))
  refine ⟨⟨wl.weak sub, ?_, fun j d ej => ?_, fun j a q => ?_, r.inj, fun j a q => ?_⟩, on⟩
  · rw [wipe_length, r.len]
    clear hv on
    induction vs with
    | nil => rfl
    | cons a b ih => unfold wipeD; rw [List.length_set, ← ih]
  · rw [wipeD_get] at ej
    by_cases m : j ∈ vs
    · rw [if_pos m] at ej
      cases q : σd[j]? with
      | none => rw [q] at ej; cases ej
      | some x => rw [q] at ej; cases ej
    · rw [if_neg m] at ej
      obtain ⟨v', h1, h2⟩ := r.sl j d ej
      refine ⟨v', by rw [wipe_get, if_neg m]; exact h1, ?_⟩
      have st : ∀ a, O j = some a → H' a = H a := fun a ha => by
        have q : zo z (owOf O) a := .inr ⟨j, ha⟩
        cases t : H a with
        | none => exact absurd t (r.wld.zok.trk a q)
        | some o => exact (e.keep a o t (r.wld.zok.out a q) fun f => f).1
      cases d with
      | v x =>
        obtain ⟨g1, g2⟩ := h2
        refine ⟨g1, ?_⟩
        cases g2 with
        | d g2 => exact .d (g2.mv mv)
        | box g2 => exact .box (e.at_ _ _ g2)
      | own ys =>
        obtain ⟨a, us, g1, g2, g3, g4⟩ := h2
        exact ⟨a, us, g1, g2, by rw [st a g1]; exact g3, g4.mv mv⟩
      | ownD ks ds =>
        obtain ⟨a, us, g1, g2, g3, g4, g5⟩ := h2
        exact ⟨a, us, g1, g2, by rw [st a g1]; exact g3, g4.mv mv, g5⟩
  · exact fun z' => by
      rcases z' with z' | z'
      · exact r.out j a q z'
      · subst z'
        exact r.wld.zok.trk a (.inr ⟨j, q⟩) hD
  · obtain ⟨s, h1, h2⟩ := r.oo j a q
    have m : j ∉ vs := fun m => by rw [on j m] at q; cases q
    exact ⟨s, by rw [wipeD_get, if_neg m]; exact h1, h2⟩
end
end DL

namespace DLX
open PySem PySem.Spec PyProof.Rows PySem.W L2
section
variable {prog : Program} {w : World} {A : Around} {E : Value → Shared → Prop} {s : Shared} {K : Frag} {x C L f : Addr} {h₀ : Heap} {m : Str → Option Value} {ox : Obj} {od : Option Obj} {b tb : Value}
end
end DLX
namespace DL
open PySem L2
section
variable {X : Cx} {C g : Addr} {fd : FuncData} {ps : List Str} {sp : Sp} {n : Nat}
end
/-- what a class must tell: the type of its instances can be looked up -/
structure IsF (K : PySem.W.Frag) (C : Addr) : Prop where
  cl : Cls K C
  ha : PySem.W.findIn K (.ref C) "__class__" = some (some (.builtin "object.__class__"))
  hn : PySem.W.specialIn K (.builtin "object.__class__") "__get__" = some (some (.builtin "getset_descriptor.__get__"))
  tk : PySem.W.takesIn K (.builtin "object.__class__") = some true
  mo : PySem.W.mroIn K C (.type "object") = some true
theorem HasB.raw {K : PySem.W.Frag} {z : Av} {As : List (List Addr)} {H : Hp} {v c : V} (h : HasB K z As H v (.raw c)) : v = c := by
  rcases h with h | ⟨_, _, _, _, h, _⟩ | ⟨_, _, _, _, _, h, _⟩
  · cases h; rfl
  · cases h
  · cases h
section
variable {X : Cx} {a b e o : Expr} {ta tb te to : TE} {wa wb we : WE} {pos : Pos} {C g : Addr} {fd : FuncData} {ps : List Str} {wf : WFn} {n : Nat} {es : List Expr}
end

/-! ### own lists: append; slices -/
section
variable {K : PySem.W.Frag} {z : Av} {O : Nat → Option Addr} {As : List (List Addr)} {σd : DS} {W : WS} {σ : St} {H : Hp}
/-- an own list is data from here on -/
abbrev wFreeze (i : Nat) (w : WSt) : WSt := fun Dd σd W => match slot σd i with
  | some (.own xs) => w Dd (σd.set i (some (.v (.d (.lst xs))))) W
  | _ => False
end
end DL

namespace DLX
open PySem PySem.Spec PyProof.Rows L2
end DLX
namespace DL
open PySem L2
/-! ### a[lo:hi] of a list, a[::-1] -/
abbrev WO := DS → WS → (Option Int → WS → Prop) → Prop
def cutD (xs : List Dv) (lo hi : Option Int) : List Dv := (xs.drop (HT.sIx xs.length 0 lo)).take (HT.sIx xs.length xs.length hi - HT.sIx xs.length 0 lo)
section
variable {K : PySem.W.Frag} {te : TE} {we : WB}
end
section
variable {X : Cx} {e : Expr} {te : TE} {we : WB} {p2 pos : Pos} {lo hi : Option Expr} {tl th : TO} {wl wh : WO}
end
/-! ### comprehensions as rules -/
section
variable {X : Cx} {c : Expr} {tt : TT} {wt : WT}
variable {elt tg iter : Expr} {ifs : List Expr} {scope : Scope} {own : List (Str × Nat)} {pos spos py : Pos} {wi : TI} {w : WI} {g : TG} {tgt : Tgt} {is : List Nat} {te : TE} {we : WE} {y : Str}
end
/-! ### short words for operators -/
section
variable {X : Cx} {K : PySem.W.Frag}
end
end DL

namespace DLX
open PySem PySem.Spec PyProof.Rows L2
section
variable {X : Cx}
end
end DLX
namespace DL
open PySem L2
section
variable {K : PySem.W.Frag}
end
section
variable {X : Cx} {a b c e : Expr} {ta tb tc te : TE} {wa wb wc we : WB} {pos : Pos}
end

/-! ### two own lists -/
section
variable {K : PySem.W.Frag}
end
section
variable {K : PySem.W.Frag}
end
section
variable {X : Cx} {x y : Str} {a b e : Expr} {t1 t2 te : TE} {w1 w2 : WF} {we : WB} {pos pos2 : Pos}
end

/-! ### a law's drawing: two numbers' sources, told by what holds of them -/
def cellsOk (cs : List Int) : Prop := ∀ c, c ∈ cs → 0 ≤ c ∧ c.natAbs.log2 ≤ 1048580
def dealR (l : List Addr) (H : Hp) : Prop := ∃ (p c : Addr) (cs : List Int) (s : Int), l = [p, c] ∧ p ≠ c ∧ H p = some (.lst [.ref c, .int s]) ∧ H c = some (.lst (cs.map V.int)) ∧ cellsOk cs ∧ cs.length ≤ 64 ∧ 0 ≤ s ∧ s < 2147483647
def dealK : MutK := ⟨dealR, fun l H H' k h => by
  obtain ⟨p, c, cs, s, rfl, n, h1, h2, h3⟩ := h
  exact ⟨p, c, cs, s, rfl, n, by rw [k p List.mem_cons_self]; exact h1, by rw [k c (List.mem_cons_of_mem _ List.mem_cons_self)]; exact h2, h3⟩⟩
/-- a new deal out of a display -/
def wDeal (w1 : WF) (w2 : WE) : WE := fun σd W Φ => w1 σd W fun xs W1 => w2 σd W1 fun y W2 => ∃ cs s, xs = cs.map Dv.int ∧ y = .d (.int s) ∧ (cellsOk cs ∧ cs.length ≤ 64 ∧ 0 ≤ s ∧ s < 2147483647) ∧ Φ (.box W2.length) (W2 ++ [.obj dealK])
section
variable {K : PySem.W.Frag}
theorem HasL.ints {N : Av} {H : Hp} : ∀ {cs : List Int} {vs : List V}, HasL K N H vs (cs.map Dv.int) → vs = cs.map V.int
  | [], _, h => by cases h; rfl
  | c :: cs, _, h => by
    cases h with
    | cons a b =>
      cases a
      rw [List.map_cons, HasL.ints b]
theorem teo_deal {t1 t2 : TE} {w1 : WF} {w2 : WE} (h1 : TFok K t1 w1) (h2 : TEok K t2 w2) : TEok K (tLst (tCons t1 (tCons t2 tNil))) (wDeal w1 w2) := by
  intro z O As σd W σ H Φ Q r g q
  refine h1 _ _ r g fun c H1 vs xs As1 W1 hc e1 wl1 hl1 hx1 g1 => ?_
  have r1 := (r.under (vs := []) hc e1 wl1 rfl).1
  refine h2 _ _ r1 g1 fun v H2 y As2 W2 e2 wl2 hy g2 => ?_
  obtain ⟨cs, s, rfl, rfl, hok, g2⟩ := g2
  obtain rfl := hy.int
  obtain rfl := hx1.ints
  have zc : zo (z1 z c) (owOf O) c := .inl (.inr rfl)
  have hl2 : H2 c = some (.lst (cs.map V.int)) := (e2.keep c _ hl1 (r1.wld.zok.out c zc) fun f => f).1
  refine ⟨by show 2 ≤ sizeLine; decide, fun p hp => ?_⟩
  have npc : p ≠ c := fun e => by rw [e, hl2] at hp; cases hp
  have e12 := e1.trans e2
  have k0 : ∀ b o, H2 b = some o → upd H2 p (.lst [.ref c, .int s]) b = some o := fun b o h => by rw [upd_ne (ne_of_none h hp)]; exact h
  have sub : ∀ a, zo z (owOf O) a → zo (z1 z c) (owOf O) a := fun a q => by
    rcases q with q | q
    · exact .inl (.inl q)
    · exact .inr q
  -- the world with the two as one thing
  have ws := wl2.weak sub
  have h0 : H p = none := up_none e12 hp
  have ex : Ext As2 H2 (As2 ++ [[p, c]]) (upd H2 p (.lst [.ref c, .int s])) → True := fun _ => trivial
  have keepx : ∀ b o, H2 b = some o → b ≠ c → ¬ fpOf As2 b → upd H2 p (.lst [.ref c, .int s]) b = some o ∧ ¬ fpOf (As2 ++ [[p, c]]) b := fun b o h n1 n2 => by
    refine ⟨k0 b o h, fun f => ?_⟩
    rcases fp_app.mp f with f | f
    · exact n2 f
    · rcases List.mem_cons.mp f with f | f
      · rw [f, hp] at h
        cases h
      · exact n1 (List.mem_singleton.mp f)
  have hcz : ∀ a, zo z (owOf O) a → a ≠ c := fun a q e => by
    rw [e] at q
    exact r.wld.zok.trk c q hc
  have zcf : ¬ fpOf As2 c := wl2.zok.out c zc
  have up2 : ∀ a, H2 a ≠ none → upd H2 p (.lst [.ref c, .int s]) a ≠ none := fun a q => by
    unfold upd
    split
    · exact fun x => by cases x
    · exact q
  have mv : Mv (bad (zo (z1 z c) (owOf O)) As2) H2 (bad (zo z (owOf O)) (As2 ++ [[p, c]])) (upd H2 p (.lst [.ref c, .int s])) := fun b o h n => by
    have n1 : b ≠ c := fun e => n (.inr (by rw [e]; exact zc))
    obtain ⟨g1, g2⟩ := keepx b o h n1 fun f => n (.inl f)
    refine ⟨g1, fun q => ?_⟩
    rcases q with q | q
    · exact g2 q
    · exact n (.inr (sub b q))
  have at2 : ∀ (j : Nat) (l : List Addr), As2[j]? = some l → (As2 ++ [[p, c]])[j]? = some l := fun j l h => by
    rw [List.getElem?_append_left (List.getElem?_eq_some_iff.mp h).1]
    exact h
  have hv : ∀ {v : V} {x : Sv}, HasV K (zo (z1 z c) (owOf O)) As2 H2 v x → HasV K (zo z (owOf O)) (As2 ++ [[p, c]]) (upd H2 p (.lst [.ref c, .int s])) v x := fun q => by
    cases q with
    | d q => exact .d (q.mv mv)
    | box q => exact .box (at2 _ _ q)
  have hvl : ∀ {vs : List V} {xs : List Sv}, HasVL K (zo (z1 z c) (owOf O)) As2 H2 vs xs → HasVL K (zo z (owOf O)) (As2 ++ [[p, c]]) (upd H2 p (.lst [.ref c, .int s])) vs xs := by
    intro vs xs q
    induction q with
    | nil => exact .nil
    | cons a _ ih => exact .cons (hv a) ih
  have last : ∀ {i : Nat} {l : List Addr}, (As2 ++ [[p, c]])[i]? = some l → As2[i]? = some l ∨ (i = As2.length ∧ l = [p, c]) := by
    intro i l h
    by_cases hi : i < As2.length
    · rw [List.getElem?_append_left hi] at h
      exact .inl h
    · have q := (List.getElem?_eq_some_iff.mp h).1
      rw [List.length_append, List.length_singleton] at q
      have hi' : i = As2.length := by omega
      subst hi'
      rw [List.getElem?_concat_length] at h
      cases h
      exact .inr ⟨rfl, rfl⟩
  have out2 : ∀ a, a ∈ [p, c] → ¬ fpOf As2 a := fun a m f => by
    rcases List.mem_cons.mp m with m | m
    · subst m
      exact wl2.trk a f hp
    · rw [List.mem_singleton.mp m] at f
      exact zcf f
  have dl : dealR [p, c] (upd H2 p (.lst [.ref c, .int s])) := ⟨p, c, cs, s, rfl, npc, upd_same, by rw [upd_ne npc.symm]; exact hl2, hok⟩
  have w3 : Wld K (zo z (owOf O)) (As2 ++ [[p, c]]) (W2 ++ [.obj dealK]) (upd H2 p (.lst [.ref c, .int s])) := by
    refine ⟨by rw [List.length_append, List.length_append, wl2.len] <;> rfl, fun j l u a1 a2 => ?_, fun a f => ?_, fun i j l l' a a1 a2 m1 m2 => ?_, ⟨fun a q => up2 a (wl2.zok.trk a (sub a q)), fun a q f => ?_⟩⟩
    · rcases last a1 with b1 | ⟨b1, b2⟩
      · rw [List.getElem?_append_left (by rw [← wl2.len]; exact (List.getElem?_eq_some_iff.mp b1).1)] at a2
        have old := wl2.rep j l u b1 a2
        have ne : ∀ a, a ∈ l → upd H2 p (.lst [.ref c, .int s]) a = H2 a := fun a m => upd_ne fun e => by
          subst e
          exact wl2.trk a ⟨l, List.mem_of_getElem? b1, m⟩ hp
        cases u with
        | lst xs =>
          obtain ⟨a, vs, rfl, q, r⟩ := old
          exact ⟨a, vs, rfl, by rw [ne a (List.Mem.head _)]; exact q, hvl r⟩
        | ins C ks ds =>
          obtain ⟨a, dx, vs, rfl, q, r, n⟩ := old
          exact ⟨a, dx, vs, rfl, by rw [ne a (List.Mem.head _)]; exact q, hvl r, n⟩
        | dic ks ds =>
          obtain ⟨a, vs, rfl, q, r, n⟩ := old
          exact ⟨a, vs, rfl, by rw [ne a (List.Mem.head _)]; exact q, hvl r, n⟩
        | obj k => exact k.st l H2 _ ne old
        | lck o_ vs_ ks ds =>
          obtain ⟨a, rfl, q, r, n⟩ := old
          exact ⟨a, rfl, by rw [ne a (List.Mem.head _)]; exact q, hvl r, n⟩
        | tupV xs =>
          obtain ⟨a, vs, rfl, q, r⟩ := old
          exact ⟨a, vs, rfl, by rw [ne a (List.Mem.head _)]; exact q, hvl r⟩
        | tab P q =>
          obtain ⟨rfl, old⟩ := old
          exact ⟨rfl, old.mv mv (ne P (List.Mem.head _))⟩
        | gone => trivial
      · subst b1 b2
        rw [wl2.len, List.getElem?_concat_length] at a2
        cases a2
        exact dl
    · rcases fp_app.mp f with f | f
      · exact up2 a (wl2.trk a f)
      · rcases List.mem_cons.mp f with f | f
        · rw [f, upd_same]
          exact fun x => by cases x
        · rw [List.mem_singleton.mp f, upd_ne npc.symm, hl2]
          exact fun x => by cases x
    · rcases last a1 with b1 | ⟨b1, b1'⟩ <;> rcases last a2 with b2 | ⟨b2, b2'⟩
      · exact wl2.dis i j l l' a b1 b2 m1 m2
      · subst b2'
        exact (out2 a m2 ⟨l, List.mem_of_getElem? b1, m1⟩).elim
      · subst b1'
        exact (out2 a m1 ⟨l', List.mem_of_getElem? b2, m2⟩).elim
      · rw [b1, b2]
    · rcases fp_app.mp f with f | f
      · exact wl2.zok.out a (sub a q) f
      · rcases List.mem_cons.mp f with f | f
        · rw [f] at q
          exact r.wld.zok.trk p q h0
        · exact hcz a q (List.mem_singleton.mp f)
  have e3 : Ext As H (As2 ++ [[p, c]]) (upd H2 p (.lst [.ref c, .int s])) := by
    refine ⟨fun b o h n m => ?_, fun j l h => at2 j l (e12.at_ j l h), fun a q => up2 a (e12.up a q)⟩
    obtain ⟨g1, g2, _⟩ := e12.keep b o h n m
    obtain ⟨g3, g4⟩ := keepx b o g1 (fun e => by rw [e, hc] at h; cases h) g2
    exact ⟨g3, g4, fun f => f⟩
  refine q _ _ _ (As2 ++ [[p, c]]) _ e3 w3 (.box (l := [c]) ?_) g2
  rw [← wl2.len, List.getElem?_concat_length]
end
theorem d_deal {X : Cx} {e1 e2 : Expr} {t1 t2 : TE} {w1 : WF} {w2 : WE} {pos : Pos} (h1 : PF X e1 t1 w1) (h2 : PD X e2 t2 w2) (hpa : PA X [e1, e2] (tCons t1 (tCons t2 tNil))) : PD X (.List [e1, e2] pos) (tLst (tCons t1 (tCons t2 tNil))) (wDeal w1 w2) := ⟨pe_lst hpa, teo_deal h1.ok h2.ok⟩
end DL

namespace DLX
open PySem PySem.Spec PyProof.Rows L2
end DLX
namespace DL
open PySem L2
section
variable {X : Cx} {o e e2 o2 : Expr} {te : TE} {we : WE} {wb : WB} {pos cpos apos apos2 cpos2 : Pos}
theorem dd {a b : Expr} {t1 t2 : TE} {w1 : WF} {w2 : WE} (ha : PF X a t1 w1) (hb : PD X b t2 w2) (h1 : starEach [a, b] X.env = (false, eval a X.env) :: starEach [b] X.env := by rfl) (h2 : starEach [b] X.env = (false, eval b X.env) :: starEach [] X.env := by rfl) :
    PD X (.List [a, b] pos) (tLst (tCons t1 (tCons t2 tNil))) (wDeal w1 w2) := d_deal ha hb (pa_cons ha.pe (pa_cons hb.pe pa_nil h2) h1)
end
/-! ### what helps in the readings -/
section
variable {K : PySem.W.Frag}
end
section
variable {X : Cx} {st : Stmt}
end
section
variable {K : PySem.W.Frag} {z : Av} {As : List (List Addr)} {W : WS} {H H' : Hp}
end
end DL

namespace DL
open PySem L2
/-! what any value is -/
def isFromD (x : Dv) (l : Int) : Bool := match x with
  | .int i => decide (l ≤ i)
  | _ => false
def isiOk (K : PySem.W.Frag) : Dv → Prop
  | .raw _ => False
  | .exc _ _ _ _ _ => False
  | .ins C _ _ => IsF K C ∧ PySem.W.kitOne K (.ref C) (.type "int") = some false ∧ PySem.W.kitOne K (.ref C) (.type "bool") = some false ∧ PySem.W.kitOne K (.ref C) (.type "str") = some false ∧ PySem.W.kitOne K (.ref C) (.type "list") = some false ∧ PySem.W.kitOne K (.ref C) (.type "tuple") = some false
  | _ => True
end DL

namespace DL
open PySem L2
end DL

/-! the law's own call, where nothing is being shown by repr -/
namespace DLG
open PySem PySem.Spec PyProof.Rows L2
section
variable {P : Program} {w : World} {K : PySem.W.Frag} {mg mb : Str → Option Value}
end
end DLG

/-! repr of data -/
namespace DLG
open PySem L2
section
variable {X : Cx} {pins : List (Addr × Obj)} {σ : L2.St} {H : Hp} {s : Shared}
end
end DLG
namespace DL
open PySem L2
section
variable {K : PySem.W.Frag} {N : Av} {H : Hp}
end
end DL

/-! the law as a whole, where repr is called -/
namespace DL
open PySem L2
section
variable {P : Program} {w : World} {K : PySem.W.Frag} {mg : Str → Option Value}
end
end DL

/-! comparing data, in, slices of tuples, tuple(..), zip -/
namespace DLG
open PySem PySem.Spec PyProof.Rows L2
section
variable {X : Cx}
end
end DLG
namespace DL
open PySem L2
section
variable {K : PySem.W.Frag} {N : Av} {H : Hp}
/-! in -/
end
end DL

namespace DL
open PySem L2 RZ
section
variable {K : PySem.W.Frag}
theorem HasL.cut {N : Av} {H : Hp} {vs : List V} {ds : List Dv} (lo hi : Option Int) (h : HasL K N H vs ds) : HasL K N H (cutV vs lo hi) (cutD ds lo hi) := by
  have hd : ∀ (n : Nat) {vs : List V} {ds : List Dv}, HasL K N H vs ds → HasL K N H (vs.drop n) (ds.drop n) := fun n => by
    induction n with
    | zero => exact fun h => h
    | succ n ih =>
      intro vs ds h
      cases h with
      | nil => exact .nil
      | cons a b => exact ih b
  have ht : ∀ (n : Nat) {vs : List V} {ds : List Dv}, HasL K N H vs ds → HasL K N H (vs.take n) (ds.take n) := fun n => by
    induction n with
    | zero => exact fun h => .nil
    | succ n ih =>
      intro vs ds h
      cases h with
      | nil => exact .nil
      | cons a b => exact .cons a (ih b)
  unfold cutV cutD
  rw [h.length]
  exact ht _ (hd _ h)
end
section
variable {X : Cx} {e a b c : Expr} {lo hi : Option Expr} {te : TE} {we : WB} {tl th : TO} {wl wh : WO} {ta : TA} {p p2 pos pos2 : Pos}
end
end DL

namespace DL
open PySem L2
section
variable {K : PySem.W.Frag}
end
section
variable {X : Cx} {tg e : Expr} {te : TE} {we : WE} {g : TG} {tgt : Tgt} {is : List Nat} {pos : Pos}
end
/-! rules for use within comprehensions: the part of the text is named, not the place -/
section
variable {X : Cx} {K : PySem.W.Frag} {o e : Expr} {es : List Expr} {te to : TE} {we wo : WE} {t : TA} {wa : WA} {C fa : Addr} {m f x : Str} {fd : FuncData} {ps : List Str} {wf : WFn} {k : Nat} {dvs : List V} {ds : List Value} {dd : List Dv} {pos apos p : Pos}
end
end DL

/-! what repr shows of numbers is short -/
namespace DL
open PySem L2
theorem log_small {k : Int} (h0 : 0 ≤ k) (h : k < 100000000000000000000) : k.natAbs.log2 < 120 := by
  by_cases z : k.natAbs = 0
  · rw [z]; decide
  · apply (Nat.log2_lt z).mpr
    have e : (2 : Nat) ^ 120 = 1329227995784915872903807060280344576 := by decide
    rw [e]
    omega
end DL

/-! super().__init__('..') within the __init__ of an own exception over other own ones over ValueError -/
namespace SX
open PySem PySem.Spec PySem.W PyProof.Rows L2 NdefX

section
variable {prog : Program} {w : World} {A : Around} {E : Value → Shared → Prop} {h : Heap} {g : Array GenState} {d : Drawn} {t : Nat} {os : OsState}
end

section
variable {CX : CXT} {P : Program} {w : World} {K : PySem.W.Frag} {mg : Str → Option Value} {base : Heap} {N ps : List Str} {F : NF} {f : Addr} {A : Around} {outer : List Env} {s0 : Shared} {H0 : Hp} {E0 : XK}
end
end SX

/-! C() and C(e) of own exceptions whose __init__ says super().__init__('..') -/
namespace SX
open PySem PySem.Spec PySem.W PyProof.Rows L2 NdefX

section
variable {P : Program} {w : World} {K : PySem.W.Frag} {mg : Str → Option Value} {base : Heap} {N : List Str} {F : NF} {f : Addr}
end

section
variable {X : Cx} {x : Str} {p pos : Pos} {C fI : Addr} {k : Nat} {fd : FuncData}
end
end SX

/-! exceptions, over data -/
namespace DL
open PySem L2

/-- what is wanted where an exception of the class C with these fields comes out -/
abbrev XW := Addr → List Str → List Dv → DS → WS → Prop
abbrev XF := Addr → List Str → List Dv → WS → Prop
def ExF (K : PySem.W.Frag) (N : Av) (H : Hp) (d : Option Addr) (C : Addr) (ks : List Str) (ds : List Dv) : Prop := ∀ a, Has K N H (.ref a) (.exc a d C ks ds)
theorem ExF.mv {K : PySem.W.Frag} {N N' : Av} {H H' : Hp} {d : Option Addr} {C : Addr} {ks : List Str} {ds : List Dv} (e : Mv N H N' H') (h : ExF K N H d C ks ds) : ExF K N' H' d C ks ds := fun a => (h a).mv e
def ExOk (K : PySem.W.Frag) (z : Av) (As : List (List Addr)) (ow : Av) (H : Hp) (ΦX : XW) (Wx : WX) : Prop :=
  ∀ C d ks ds O' As' σd' W' σ' H', ExtS As ow H As' (owOf O') H' → Rep K z O' As' σd' W' σ' H' → ExF K (bad (zo z (owOf O')) As') H' d C ks ds → ΦX C ks ds σd' W' → Wx (.ref C) d σ' H'
theorem ExOk.ext {K : PySem.W.Frag} {z : Av} {As As' : List (List Addr)} {ow ow' : Av} {H H' : Hp} {ΦX : XW} {Wx : WX} (h : ExOk K z As ow H ΦX Wx) (e : ExtS As ow H As' ow' H') : ExOk K z As' ow' H' ΦX Wx :=
  fun _ _ _ _ _ _ _ _ _ _ f => h _ _ _ _ _ _ _ _ _ _ (e.trans f)
/-! ### judgements that may let an exception out -/
def TEX (K : PySem.W.Frag) (t : WX → TE) (w : XW → WE) : Prop := ∀ {z : Av} {O : Nat → Option Addr} {As : List (List Addr)} {σd : DS} {W : WS} {σ : L2.St} {H : Hp} (ΦX : XW) (Wx : WX) (Φ : Sv → WS → Prop) (Q : VK),
  Rep K z O As σd W σ H → w ΦX σd W Φ → Nx K (zo z (owOf O)) As H Φ Q → ExOk K z As (owOf O) H ΦX Wx → t Wx σ H Q
def TSX (K : PySem.W.Frag) (t : WX → TS) (w : XW → WSt) : Prop := ∀ {z : Av} {O : Nat → Option Addr} {As : List (List Addr)} {σd : DS} {W : WS} {σ : L2.St} {H : Hp} (ΦX : XW) (Wx : WX) (Dd : DEnds) (D : Ends),
  Rep K z O As σd W σ H → w ΦX Dd σd W → EndsOk K z As (owOf O) H Dd D → ExOk K z As (owOf O) H ΦX Wx → t Wx D σ H
/-! ### what lets nothing out -/
section
variable {K : PySem.W.Frag} {te : TE} {we : WE} {t : TS} {wt : WSt}
theorem TEX.of (h : TEok K te we) : TEX K (fun _ => te) (fun _ => we) := by
  intro z O As σd W σ H ΦX Wx Φ Q r g q x
  exact h Φ Q r g q
theorem TSX.of (h : TSok K t wt) : TSX K (fun _ => t) (fun _ => wt) := by
  intro z O As σd W σ H ΦX Wx Dd D r g q x
  exact h Dd D r g q
end
section
variable {X : Cx} {e a b : Expr} {es : List Expr} {st : Stmt} {rest : List Stmt} {te : TE} {we : WE} {t u : TS} {wt wu : WSt} {tX uX : WX → TS} {wX vX : XW → WSt} {teX : WX → TE} {weX : XW → WE} {tbX : WX → TE} {wbX : XW → WB} {pos pos' : Pos} {x : Str}
/-! ### sequences, if -/
/-! ### statements over expressions that may let one out -/
/-! ### raise -/
/-! ### isinstance(C(..), D), str(..), not .. -/
end
end DL

/-! defs that raise, what makes exceptions, over data -/
namespace DL
open PySem L2
/-! ### exceptions made -/
section
variable {X : Cx} {x : Str} {p pos : Pos} {C fI : Addr} {k : Nat} {fd : FuncData} {e : Expr} {te : TE} {we : WE} {wa : WA} {ta : TA}
end

/-! ### defs that raise -/
abbrev WFnX := List Sv → WS → (Sv → WS → Prop) → XF → Prop
section
variable {P : Program} {w : World} {K : PySem.W.Frag} {mg : Str → Option Value} {base : Heap}
end

/-! ### calls that may raise -/
section
variable {X : Cx} {CX : CXT} {k : Nat} {f C : Addr} {fd : FuncData} {ps : List Str} {sp : Sp} {E : L2.St → XK} {x m : Str} {p pos apos : Pos} {e o : Expr} {es : List Expr} {t : TA} {ds : List Value} {dvs : List V}
end
section
variable {X : Cx} {x f m : Str} {p pos apos pos' : Pos} {e o value : Expr} {es : List Expr} {t : TA} {wa : WA} {wf : WFnX} {C fa pa g : Addr} {fd : FuncData} {ps : List Str} {k : Nat} {ds : List Value} {dvs : List V} {dd : List Dv} {te to : TE} {we wo : WE}
end
end DL

/-! try: body, except B as n: suite, over data -/
namespace DL
open PySem L2
section
variable {K : PySem.W.Frag} {z : Av} {O : Nat → Option Addr} {As As' : List (List Addr)} {σd : DS} {W W' : WS} {σ : L2.St} {H H' : Hp}
end
section
variable {X : Cx} {x n : Str} {B : Addr} {i : Nat} {body suite : List Stmt} {b₀ : Stmt} {np pos pos' : Pos} {tx : WX → TS} {wx : XW → WSt} {ts : Addr → Value → Option Addr → TS} {ws : Addr → Value → Option Addr → WSt}
end

/-! ### in the suite: isinstance(e, C), e.f -/
def DictAt (d : Option Addr) (H : Hp) : Prop := d = none ∨ ∃ dd fs, d = some dd ∧ H dd = some (.xd fs)
theorem HasB.exc {K : PySem.W.Frag} {z : Av} {As : List (List Addr)} {H : Hp} {v : V} {a C : Addr} {d : Option Addr} {ks : List Str} {ds : List Dv} (h : HasB K z As H v (.exc a d C ks ds)) : v = .ref a ∧ DictAt d H ∧ ∀ dd, d = some dd → ∃ vs, H dd = some (.xd (ks.zip vs)) ∧ HasL K (bad z As) H vs ds := by
  rcases h with h | ⟨_, _, _, _, h, _⟩ | ⟨_, _, _, _, _, h, _⟩
  · cases h with
    | exc0 => exact ⟨rfl, .inl rfl, fun dd q => nomatch q⟩
    | exc n s l e => exact ⟨rfl, .inr ⟨_, _, rfl, s⟩, fun dd q => by cases q; exact ⟨_, s, l⟩⟩
  · cases h
  · cases h
section
variable {X : Cx} {a : Addr} {oe : Obj} {cls : Value} {d : Option Addr} {pn : List (Addr × Obj)} {e : Expr} {es : List Expr} {te : TE} {we : WE} {ta : TA} {wa : WAB} {p pos : Pos} {f : Str}
end
end DL

namespace DL
open PySem L2
/-! ### what may be promised -/
section
variable {P : Program} {w : World} {K : PySem.W.Frag} {mg : Str → Option Value} {base : Heap} {CX : CXT} {k : Nat} {f : Addr} {fd : FuncData} {ps : List Str}
end
/-! ### things of any kind -/
end DL
namespace SX
open PySem PySem.Spec PySem.W PyProof.Rows L2 NdefX
section
variable {K : PySem.W.Frag} {nm q nm2 q2 : Str} {C N F N2 : Addr} {bs bm bs2 : List Value} {hd hd2 : Bool} {sn sn2 : List Str} {sub sub2 : List Value} {ab ab2 : Bool} {col col2 : Option Bool} {dd dd2 : Option Addr} {k0 k1 k2 k3 k5 j0 j1 j2 j3 j5 : Option Value} {nid nid2 : String} {r : Option (Option Value)}
end
end SX

/-! rules for the bodies of try, the part of the text named -/
namespace DL
open PySem L2
section
variable {X : Cx} {K : PySem.W.Frag} {x f m : Str} {p pos apos pos' : Pos} {e o value : Expr} {es : List Expr} {t : TA} {wa : WA} {wf : WFnX} {C fa pa g : Addr} {fd : FuncData} {ps : List Str} {k : Nat} {ds : List Value} {dvs : List V} {dd : List Dv} {te to : TE} {we wo : WE} {ta : WX → TA} {waX : XW → WAB}
end
end DL

namespace DL
open PySem L2 PySem.Spec PyProof.Rows
/-! ### str(..) of an own class with __str__ -/
section
variable {X : Cx} {C g : Addr} {fd : FuncData} {ps : List Str} {sp : Sp} {n : Nat}
end
/-! ### f-strings -/
inductive PJD (X : Cx) : List Expr → List TE → List WE → Prop where
  | nil : PJD X [] [] []
  | cons {e : Expr} {t : TE} {w : WE} {es : List Expr} {ts : List TE} {ws : List WE} (h : PD X e t w) (r : PJD X es ts ws) : PJD X (e :: es) (t :: ts) (w :: ws)
def wJs : List WE → Str → DS → WS → (Str → WS → Prop) → Prop
  | [], acc, _, W, Φ => Φ acc W
  | w :: ws, acc, σd, W, Φ => w σd W fun x W1 => match x with
    | .d (.str y) => (acc ++ y).length ≤ 1000000 ∧ wJs ws (acc ++ y) σd W1 Φ
    | _ => False
section
variable {X : Cx} {e v1 v2 : Expr} {es rest : List Expr} {te : TE} {we : WE} {ts : List TE} {ws : List WE} {pos : Pos}
theorem PJD.run (h : PJD X es ts ws) : ∀ {z : Av} {O : Nat → Option Addr} {As : List (List Addr)} {σd : DS} {W : WS} {σ : L2.St} {H : Hp} (acc : Str) (Φ : Str → WS → Prop) (Q : Str → Hp → Prop), Rep X.K z O As σd W σ H → wJs ws acc σd W Φ →
    (∀ y H' As' W', Ext As H As' H' → Wld X.K (zo z (owOf O)) As' W' H' → Φ y W' → Q y H') → tJs ts acc σ H Q := by
  induction h with
  | nil =>
    intro z O As σd W σ H acc Φ Q r g q
    exact q acc H As W ExtS.refl r.wld g
  | cons h _ ih =>
    intro z O As σd W σ H acc Φ Q r g q
    refine h.ok _ _ r g fun v H1 x As1 W1 e wl hv p => ?_
    split at p
    · obtain rfl := hv.str
      exact ⟨_, rfl, line_of p.1, ih _ Φ Q (r.ext e wl) p.2 fun y H' As' W' e2 wl2 p2 => q y H' As' W' (e.trans e2) wl2 p2⟩
    · exact p.elim
end
/-! ### an own list: x[k] = e; with a further value -/
section
variable {X : Cx} {x y : Str} {a b e o k : Expr} {t1 t2 te ti : TE} {w1 : WF} {w2 we : WE} {wi : WB} {pos pos2 : Pos}
end
end DL

/-! C(k = v, ..), all parameters in their order -/
namespace DL
open PySem L2 PySem.Spec PyProof.Rows
section
variable {X : Cx} {e : Expr} {kws : List Keyword} {te : TE} {we : WE} {t : TA} {wr : WA} {nm : Option Str} {kpos : Pos}
end
end DL

namespace DL
open PySem L2
end DL
namespace DL
open PySem L2
section
variable {t : WT} {a rest : XW → WSt} {ΦX : XW} {Dd : DEnds} {σ : DS} {W : WS} {b : Bool}
end
end DL
namespace DL
open PySem L2
end DL
namespace DL
open PySem L2
section
variable {t : WT} {a rest : WSt} {Dd : DEnds} {σ : DS} {W : WS} {b : Bool}
end
end DL
namespace DL
open PySem L2
theorem frz {i : Nat} {w : WSt} {Dd : DEnds} {σ : DS} {W : WS} {xs : List Dv} (h : slot σ i = some (.own xs)) (q : w Dd (σ.set i (some (.v (.d (.lst xs))))) W) : wFreeze i w Dd σ W := by
  unfold wFreeze
  rw [h]
  exact q
end DL

/-! texts -/
namespace DL
open PySem L2 PySem.Spec PyProof.Rows
section
variable {K : PySem.W.Frag} {N : Av} {H : Hp}
end
/-! ### split, join -/
section
variable {X : Cx} {K : PySem.W.Frag} {o e : Expr} {to te : TE} {wo we : WB} {apos pos : Pos}
/-! ### all(list), int(text), str(text), text + text -/
/-! ### one sign in a text -/
/-! ### for sign in text -/
end
end DL

/-! x[0::2], x[1::2] of six; classes in names, class methods -/
namespace DLX
open PySem PySem.Spec PyProof.Rows L2
end DLX
namespace DL
open PySem L2
end DL

/-! a class in a name, called; a class method called -/
namespace DL
open PySem L2 PySem.Spec PyProof.Rows
section
variable {X : Cx} {CX : CXT} {k : Nat} {f C : Addr} {fd : FuncData} {ps : List Str} {sp : Sp} {E : L2.St → XK} {x m : Str} {p pos apos : Pos} {e o : Expr} {es : List Expr} {ta : TE} {t : TA} {ds : List Value} {dvs : List V}
end
section
variable {X : Cx} {K : PySem.W.Frag} {x m : Str} {p pos apos : Pos} {e o : Expr} {es : List Expr} {t : TA} {wa : WA} {wf : WFnX} {C fa pa : Addr} {fd : FuncData} {ps : List Str} {k : Nat} {ds : List Value} {dvs : List V} {dd : List Dv} {to : TE} {wo : WE}
end
end DL

namespace DL
open PySem L2
section
variable {X : Cx} {K : PySem.W.Frag} {a b c : Expr} {ta tb tc : TE} {wa wb wc : WB} {pos : Pos}
end
/-! ### texts of numbers -/
/-- a number's text, as it is written -/
def canonB (w : Str) : Bool := decide (1 ≤ w.length) && decide (w.length ≤ 19) && w.cps.toList.all (fun c => decide (c ∈ ("0123456789" : Str).cps.toList)) && (decide (w = "0") || decide (w.cps.toList[0]? ≠ some 48))
def valS (w : Str) : Int := ((PySem.NumText.digitsVal w.cps.toList : Nat) : Int)
def numD (w : Str) : Dv := if canonB w = true then .int (valS w) else .non
theorem fig_digit {c : Nat} : c ∈ ("0123456789" : Str).cps.toList ↔ 48 ≤ c ∧ c ≤ 57 := by
  have e : ("0123456789" : Str).cps.toList = [48, 49, 50, 51, 52, 53, 54, 55, 56, 57] := by decide +kernel
  rw [e]
  simp
  omega
theorem len_list (x : Str) : x.length = x.cps.toList.length := by
  unfold Str.length
  simp
structure Canon (w : Str) : Prop where
  one : 1 ≤ w.length
  top : w.length ≤ 19
  dig : PySem.NumText.AllDigits w.cps.toList
  fst : w = "0" ∨ w.cps.toList[0]? ≠ some 48
theorem canon_to {w : Str} (h : Canon w) : canonB w = true := by
  unfold canonB
  simp only [Bool.and_eq_true, decide_eq_true_eq, List.all_eq_true, Bool.or_eq_true]
  exact ⟨⟨⟨h.one, h.top⟩, fun c hc => fig_digit.mpr (h.dig c hc)⟩, h.fst⟩
theorem digits_len : ∀ (k n : Nat), n < 10 ^ (k + 1) → (Nat.toDigits 10 n).length ≤ k + 1
  | 0, n, h => by
    rw [Nat.toDigits_of_lt_base (by simpa using h)]
    exact Nat.le_refl _
  | k + 1, n, h => by
    by_cases h2 : n < 10
    · rw [Nat.toDigits_of_lt_base h2]
      show 1 ≤ _
      omega
    · have e : Nat.toDigits 10 (n / 10) ++ Nat.toDigits 10 (n % 10) = Nat.toDigits 10 (10 * (n / 10) + n % 10) := Nat.toDigits_append_toDigits (by decide) (by omega) (by omega)
      rw [Nat.div_add_mod] at e
      have ih := digits_len k (n / 10) (by
        rw [Nat.pow_succ] at h
        omega)
      rw [← e, List.length_append, Nat.toDigits_of_lt_base (b := 10) (n := n % 10) (by omega)]
      show _ + 1 ≤ _
      omega
theorem digits_fst : ∀ (k n : Nat), n < 10 ^ (k + 1) → n ≠ 0 → ((Nat.toDigits 10 n).map Char.toNat)[0]? ≠ some 48
  | 0, n, h, h0 => by
    have h : n < 10 := by simpa using h
    rw [Nat.toDigits_of_lt_base h]
    have key : ∀ d : Nat, d < 10 → (Nat.digitChar d).toNat = d + 48 := by decide
    show some (Nat.digitChar n).toNat ≠ some 48
    rw [key n h]
    intro e
    have := Option.some.inj e
    omega
  | k + 1, n, h, h0 => by
    by_cases h2 : n < 10
    · exact digits_fst 0 n (by simpa using h2) h0
    · have e : Nat.toDigits 10 (n / 10) ++ Nat.toDigits 10 (n % 10) = Nat.toDigits 10 (10 * (n / 10) + n % 10) := Nat.toDigits_append_toDigits (by decide) (by omega) (by omega)
      rw [Nat.div_add_mod] at e
      have ih := digits_fst k (n / 10) (by
        rw [Nat.pow_succ] at h
        omega) (by omega)
      have hl : 0 < (Nat.toDigits 10 (n / 10)).length := by
        have := PySem.W.KIN.signs_num (n / 10)
        apply Classical.byContradiction
        intro z
        have z2 : Nat.toDigits 10 (n / 10) = [] := List.length_eq_zero_iff.mp (by omega)
        have v := PySem.W.KIN.val_back (n / 10)
        rw [z2] at v
        have v : 0 = n / 10 := v
        omega
      rw [← e, List.map_append, List.getElem?_append_left (by rw [List.length_map]; exact hl)]
      exact ih
theorem canon_num {n : Nat} (h : n < 10 ^ 19) : Canon (toString ((n : Nat) : Int) : Str) ∧ valS (toString ((n : Nat) : Int) : Str) = (n : Int) := by
  have e := PySem.W.KIN.signs_num n
  have hv := PySem.W.KIN.val_back n
  have hd : PySem.NumText.AllDigits (Str.ofString (toString ((n : Nat) : Int))).cps.toList := by
    intro c hc
    rw [e] at hc
    obtain ⟨ch, hch, e2⟩ := List.mem_map.mp hc
    have r := Nat.isDigit_of_mem_toDigits (by decide) (by decide) hch
    rw [← e2]
    unfold Char.isDigit at r
    simp only [Bool.and_eq_true, decide_eq_true_eq] at r
    exact ⟨r.1, r.2⟩
  have hl : (Str.ofString (toString ((n : Nat) : Int))).length = (Nat.toDigits 10 n).length := by
    rw [len_list, e, List.length_map]
  refine ⟨⟨?_, ?_, hd, ?_⟩, ?_⟩
  · show 1 ≤ (Str.ofString (toString ((n : Nat) : Int))).length
    rw [hl]
    apply Classical.byContradiction
    intro z
    have z2 : Nat.toDigits 10 n = [] := List.length_eq_zero_iff.mp (by omega)
    by_cases h10 : n < 10
    · rw [Nat.toDigits_of_lt_base h10] at z2
      cases z2
    · rw [z2] at hv
      have hv : 0 = n := hv
      omega
  · show (Str.ofString (toString ((n : Nat) : Int))).length ≤ 19
    rw [hl]
    exact digits_len 18 n h
  · by_cases h0 : n = 0
    · subst h0
      left
      decide +kernel
    · right
      show (Str.ofString (toString ((n : Nat) : Int))).cps.toList[0]? ≠ some 48
      rw [e]
      exact digits_fst 18 n h h0
  · show ((PySem.NumText.digitsVal (Str.ofString (toString ((n : Nat) : Int))).cps.toList : Nat) : Int) = n
    rw [e, hv]
theorem canon_int {i : Int} (h0 : 0 ≤ i) (h : i < 10000000000000000000) : Canon (toString i : Str) ∧ valS (toString i : Str) = i := by
  obtain ⟨n, rfl⟩ := Int.eq_ofNat_of_zero_le h0
  exact canon_num (by
    have e : (10 : Nat) ^ 19 = 10000000000000000000 := by decide
    omega)
end DL

/-! texts of loads: cut at the blanks, put together -/
namespace DL
open PySem L2 TL
theorem tl_sp : tl (" " : Str) = [32] := by decide +kernel
/-- a text's bounds -/
structure TxtOk (n : Nat) (x : Str) : Prop where
  len : x.length ≤ n
  chr : ∀ c, c ∈ tl x → c < 256
theorem Canon.txt {w : Str} (h : Canon w) : TxtOk 19 w := ⟨h.top, fun c hc => by have := h.dig c hc; omega⟩
end DL

namespace DL
open PySem L2 TL
end DL

namespace DL
open PySem L2 TL
/-! ### a part of a list of strings -/
def wt (ps : List Str) : Nat := (ps.map (·.length)).sum + ps.length
end DL

/-! dicts: displays, own dicts, update, d[k], d.get(k, x) -/
namespace DL
open PySem L2
/-! ### keys and values apart -/
def hasK (ks : List Key) (k : Key) : Bool := ks.any fun x => decide (x = k)
def putDs {α : Type} (ks : List Key) (as : List α) (k : Key) (a : α) : List α := if hasK ks k = true then List.zipWith (fun k' x => if k' = k then a else x) ks as else as ++ [a]
def getA {α : Type} : List Key → List α → Key → Option α
  | k' :: ks, a :: as, k => if k' = k then some a else getA ks as k
  | _, _, _ => none
section
variable {α : Type}
end
section
variable {K : PySem.W.Frag} {N : Av} {H : Hp}
theorem HasL.zw {v : V} {d : Dv} {k : Key} (hv : Has K N H v d) : ∀ {ks : List Key} {vs : List V} {ds : List Dv}, HasL K N H vs ds → HasL K N H (List.zipWith (fun k' x => if k' = k then v else x) ks vs) (List.zipWith (fun k' x => if k' = k then d else x) ks ds)
  | [], _, _, _ => .nil
  | _ :: _, _, _, .nil => .nil
  | x :: r, _, _, .cons a t => by
    rw [List.zipWith_cons_cons, List.zipWith_cons_cons]
    refine .cons ?_ (HasL.zw hv t)
    by_cases e : x = k
    · rw [if_pos e, if_pos e]
      exact hv
    · rw [if_neg e, if_neg e]
      exact a
theorem HasL.put {ks : List Key} {vs : List V} {ds : List Dv} {k : Key} {v : V} {d : Dv} (h : HasL K N H vs ds) (hv : Has K N H v d) : HasL K N H (putDs ks vs k v) (putDs ks ds k d) := by
  unfold putDs
  by_cases m : hasK ks k = true
  · rw [if_pos m, if_pos m]
    exact h.zw hv
  · rw [if_neg m, if_neg m]
    exact h.append (.cons hv .nil)
end

/-! ### a new dict that nobody else knows -/
/-! ### displays -/
end DL

/-! own dicts -/
namespace DL
open PySem L2
section
variable {K : PySem.W.Frag} {z : Av} {O : Nat → Option Addr} {As As' : List (List Addr)} {σd : DS} {W W' : WS} {σ : St} {H H' : Hp}
end
end DL
namespace DLX
open PySem PySem.Spec PyProof.Rows L2
/-! ### d.update(e) -/
end DLX
namespace DL
open PySem L2
/-! ### d[k], d.get(k, x) -/
/-! ### dict(a list of pairs) -/
end DL

/-! *e in displays and calls; dicts and tuples of the module -/
namespace DL
open PySem L2
end DL

/-! C(**d) -/
namespace KwX
open PySem PySem.Spec PyProof.Rows L2
section
variable {prog : Program} {w : World} {A : Around} {E : Value → Shared → Prop} {s : Shared}
end
end KwX

/-! C(**d); defs with **more, called by name -/
namespace KwX
open PySem PySem.Spec PyProof.Rows L2
section
variable {X : Cx} {CX : CXT} {k : Nat} {f C : Addr} {fd : FuncData} {ps ks : List Str} {sp : Sp} {E : L2.St → XK} {x : Str} {p pos kp : Pos} {e : Expr} {te : TE}
end
end KwX
namespace DL
open PySem L2
end DL

/-! defs with **more, called by name -/
namespace KwX
open PySem PySem.Spec PyProof.Rows L2
section
variable {prog : Program} {w : World} {A : Around} {E : Value → Shared → Prop}
end
section
variable {CX : CXT} {P : Program} {w : World} {K : PySem.W.Frag} {mg : Str → Option Value} {base : Heap} {k : Nat} {f : Addr} {name qual : Str} {params : Arguments} {body : List Stmt} {scope : Scope} {dV kV doc pm cdv ct oc : Value} {an od : Option Addr}
  {osl : Array (Option Value)} {N : List Str} {p1 pd : Str} {sp : Sp} {oks : List Str → Prop}
end
end KwX

/-! o.m(k = e, ..), m a def with **more -/
namespace KwX
open PySem PySem.Spec PyProof.Rows L2
section
variable {X : Cx} {CX : CXT} {k : Nat} {f C : Addr} {ks : List Str} {sp : Sp} {E : L2.St → XK} {m : Str} {apos pos : Pos} {o : Expr} {kws : List Keyword} {ta : TE} {tk : TA} {oks : List Str → Prop}
end
end KwX
namespace DL
open PySem L2
end DL

/-! defs with defaults; calls by name that raise nothing -/
namespace DL
open PySem L2
section
variable {P : Program} {w : World} {K : PySem.W.Frag} {mg : Str → Option Value} {base : Heap}
end
end DL

namespace DL
open PySem L2
end DL

/-! keepers as data -/
namespace DL
open PySem L2 TL
abbrev KN : List Str := ["begin", "freeze", "stop", "counts", "marks", "clears", "moves", "cut", "needs", "marked", "held"]
abbrev KK : List Key := [.inr "begin", .inr "freeze", .inr "stop", .inr "counts", .inr "marks", .inr "clears", .inr "moves", .inr "cut", .inr "needs", .inr "marked", .inr "held"]
theorem kk_map : KN.map Sum.inr = KK := rfl
structure Kp where
  b : Dv
  f : Dv
  s : Dv
  c : Dv
  m : Dv
  cl : Dv
  mo : Dv
  cu : Dv
  n : Dv
  ma : Dv
  h : Dv
abbrev Kp.ds (k : Kp) : List Dv := [k.b, k.f, k.s, k.c, k.m, k.cl, k.mo, k.cu, k.n, k.ma, k.h]
def Kp.at (k : Kp) (n : Str) : Dv := (getA KK k.ds (.inr n)).getD .non
theorem get_some {α : Type} : ∀ {ks : List Key} {as : List α} {k : Key}, ks.length = as.length → k ∈ ks → ∃ a, getA ks as k = some a
  | [], _, _, _, h => by cases h
  | _ :: _, [], _, h, _ => by cases h
  | x :: r, a :: s, k, h, m => by
    unfold getA
    by_cases e : x = k
    · exact ⟨a, by rw [if_pos e]⟩
    · rw [if_neg e]
      rcases List.mem_cons.mp m with q | q
      · exact absurd q.symm e
      · exact get_some (Nat.succ.inj h) q
theorem at_mem (k : Kp) {n : Str} (h : n ∈ KN) : getA KK k.ds (.inr n) = some (k.at n) := by
  obtain ⟨a, e⟩ := get_some (ks := KK) (as := k.ds) (k := .inr n) rfl (by rw [← kk_map]; exact List.mem_map.mpr ⟨n, h, rfl⟩)
  unfold Kp.at
  rw [e]
  rfl
theorem at_b (k : Kp) : k.at "begin" = k.b := by kernel_rfl
theorem at_f (k : Kp) : k.at "freeze" = k.f := by kernel_rfl
/-- one setting otherwise -/
def Kp.put (k : Kp) (n : Str) (x : Dv) : Kp :=
  let q (o : Str) (d : Dv) : Dv := if (Sum.inr o : Key) = Sum.inr n then x else d
  ⟨q "begin" k.b, q "freeze" k.f, q "stop" k.s, q "counts" k.c, q "marks" k.m, q "clears" k.cl, q "moves" k.mo, q "cut" k.cu, q "needs" k.n, q "marked" k.ma, q "held" k.h⟩
theorem put_at (k : Kp) (x : Dv) {n m : Str} (hn : n ∈ KN) (hm : m ∈ KN) : (k.put n x).at m = if m = n then x else k.at m := by
  have go : ∀ {ks : List Key} {as : List Dv}, ks.length = as.length → (.inr m : Key) ∈ ks → getA ks (List.zipWith (fun k' d => if k' = (Sum.inr n : Key) then x else d) ks as) (.inr m) = (getA ks as (.inr m)).map fun d => if m = n then x else d := by
    intro ks
    induction ks with
    | nil => intro as _ h; cases h
    | cons k' r ih =>
      intro as hl h
      cases as with
      | nil => cases hl
      | cons a s =>
        rw [List.zipWith_cons_cons]
        unfold getA
        by_cases e : k' = (Sum.inr m : Key)
        · subst e
          rw [if_pos rfl, if_pos rfl]
          show some (if (Sum.inr m : Key) = Sum.inr n then x else a) = some (if m = n then x else a)
          by_cases q : m = n
          · subst q
            rw [if_pos rfl, if_pos rfl]
          · rw [if_neg q, if_neg fun z => q (Sum.inr.inj z)]
        · rw [if_neg e, if_neg e]
          rcases List.mem_cons.mp h with q | q
          · exact absurd q.symm e
          · exact ih (Nat.succ.inj hl) q
  have e := go (ks := KK) (as := k.ds) rfl (by rw [← kk_map]; exact List.mem_map.mpr ⟨m, hm, rfl⟩)
  rw [at_mem k hm] at e
  have e2 : getA KK (k.put n x).ds (.inr m) = some (if m = n then x else k.at m) := e
  rw [at_mem _ hm] at e2
  exact Option.some.inj e2
/-- the pairs that are told -/
abbrev Kp.pairs (k : Kp) : List Dv := [.tup [.str "begin", k.b], .tup [.str "freeze", k.f], .tup [.str "stop", k.s], .tup [.str "counts", k.c], .tup [.str "marks", k.m], .tup [.str "clears", k.cl], .tup [.str "moves", k.mo], .tup [.str "cut", k.cu], .tup [.str "needs", k.n], .tup [.str "marked", k.ma], .tup [.str "held", k.h]]
/-! ### what is right -/
def isBl : Dv → Bool
  | .bl _ => true
  | _ => false
def wordsK (n : Str) : List Str := if n = "counts" then ["all", "both", "now", "readers"] else if n = "marks" then ["frozen", "never", "seen"] else if n = "moves" then ["always", "whole"] else if n = "cut" then ["horizon", "mark", "never"] else if n = "marked" then ["always", "never"] else if n = "held" then ["always", "never"] else []
def oneOf (x : Dv) (ws : List Str) : Bool := match x with
  | .str s => decide (s ∈ ws)
  | _ => false
def okSet (n : Str) (x : Dv) : Bool := if n = "begin" then isFromD x 2 else if n = "stop" then isN x || isFromD x 1 else if n = "clears" ∨ n = "needs" then isBl x else if (n = "marked" ∨ n = "held") ∧ isFromD x 1 = true then true else oneOf x (wordsK n)
def ltD (x y : Dv) : Bool := match x, y with
  | .int i, .int j => decide (i < j)
  | _, _ => false
def Kp.okAt (k : Kp) (n : Str) : Bool := if n = "freeze" then isFromD k.f 1 && ltD k.f k.b else okSet n (k.at n)
def Kp.wrong (k : Kp) : Option Str := KN.find? fun n => !k.okAt n
def Kp.allOk (K : PySem.W.Frag) (k : Kp) : Prop := ∀ n, n ∈ KN → isiOk K (k.at n)
/-! ### texts -/
def wordD : Dv → Str
  | .non => "never"
  | .bl b => if b = true then "yes" else "no"
  | .int i => toString i
  | .str x => x
  | _ => Str.empty
def lineD (n : Str) (x : Dv) : Str := (n ++ " ") ++ wordD x
def Kp.lines (k : Kp) : List Str := [lineD "begin" k.b, lineD "freeze" k.f, lineD "stop" k.s, lineD "counts" k.c, lineD "marks" k.m, lineD "clears" k.cl, lineD "moves" k.mo, lineD "cut" k.cu, lineD "needs" k.n, lineD "marked" k.ma, lineD "held" k.h]
def Kp.txt (k : Kp) : Str := Txt.join "\n" k.lines
/-- a value with a short word -/
def shortD (x : Dv) : Prop := x = .non ∨ (∃ b, x = .bl b) ∨ (∃ i : Int, x = .int i ∧ i.natAbs.log2 < 120) ∨ ∃ s : Str, x = .str s ∧ s.length ≤ 1000
def Kp.short (k : Kp) : Prop := ∀ x, x ∈ k.ds → shortD x
end DL

namespace DL
open PySem L2
end DL

/-! good keepers -/
namespace DL
open PySem L2 TL
abbrev allW : List Str := ["all", "both", "now", "readers", "frozen", "never", "seen", "always", "whole", "horizon", "mark"]
def limD (x : Dv) : Prop := x = .non ∨ (∃ b, x = .bl b) ∨ (∃ i : Int, x = .int i ∧ 0 ≤ i ∧ i < 10000000000000000000) ∨ ∃ s : Str, x = .str s ∧ s ∈ allW
theorem lim_short {x : Dv} (h : limD x) : shortD x := by
  rcases h with h | h | ⟨i, rfl, h0, h1⟩ | ⟨s, rfl, hs⟩
  · exact .inl h
  · exact .inr (.inl h)
  · exact .inr (.inr (.inl ⟨i, rfl, log_small h0 (by omega)⟩))
  · refine .inr (.inr (.inr ⟨s, rfl, ?_⟩))
    simp only [List.mem_cons, List.not_mem_nil, or_false] at hs
    rcases hs with rfl | rfl | rfl | rfl | rfl | rfl | rfl | rfl | rfl | rfl | rfl <;> decide
theorem lim_ok {K : PySem.W.Frag} {x : Dv} (h : limD x) : isiOk K x := by
  rcases h with rfl | ⟨b, rfl⟩ | ⟨i, rfl, h0, h1⟩ | ⟨s, rfl, hs⟩ <;> trivial
theorem mem_at (k : Kp) : ∀ x, x ∈ k.ds ↔ ∃ n, n ∈ KN ∧ k.at n = x := by
  have go : ∀ (ks : List Str) (as : List Dv), ks.Nodup → ks.length = as.length → ∀ x, x ∈ as ↔ ∃ n, n ∈ ks ∧ getA (ks.map Sum.inr) as (.inr n) = some x := by
    intro ks
    induction ks with
    | nil =>
      intro as _ hl x
      cases as with
      | nil => simp
      | cons a s => cases hl
    | cons k' r ih =>
      intro as hn hl x
      cases as with
      | nil => cases hl
      | cons a s =>
        obtain ⟨n1, n2⟩ := List.nodup_cons.mp hn
        have ih := ih s n2 (Nat.succ.inj hl) x
        rw [List.mem_cons, ih]
        constructor
        · rintro (rfl | ⟨n, hm, e⟩)
          · exact ⟨k', List.mem_cons_self, by rw [List.map_cons]; unfold getA; rw [if_pos rfl]⟩
          · refine ⟨n, List.mem_cons_of_mem _ hm, ?_⟩
            rw [List.map_cons]
            unfold getA
            rw [if_neg fun q => n1 (by rw [Sum.inr.inj q]; exact hm)]
            exact e
        · rintro ⟨n, hm, e⟩
          rw [List.map_cons] at e
          unfold getA at e
          by_cases q : (Sum.inr k' : Key) = Sum.inr n
          · rw [if_pos q] at e
            exact .inl (Option.some.inj e).symm
          · rw [if_neg q] at e
            rcases List.mem_cons.mp hm with z | z
            · exact absurd (by rw [z]) q
            · exact .inr ⟨n, z, e⟩
  intro x
  rw [go KN k.ds (by decide +kernel) rfl x]
  constructor
  · rintro ⟨n, hm, e⟩
    refine ⟨n, hm, ?_⟩
    have q := at_mem k hm
    rw [kk_map] at e
    rw [e] at q
    exact (Option.some.inj q).symm
  · rintro ⟨n, hm, rfl⟩
    exact ⟨n, hm, at_mem k hm⟩
structure Kp.good (k : Kp) : Prop where
  lim : ∀ n, n ∈ KN → limD (k.at n)
  ok : ∀ n, n ∈ KN → n ≠ "freeze" → okSet n (k.at n) = true
  fr : ∃ b f : Int, k.b = .int b ∧ k.f = .int f ∧ 1 ≤ f ∧ f < b
theorem Kp.good.limds {k : Kp} (h : k.good) : ∀ x, x ∈ k.ds → limD x := fun x hx => by
  obtain ⟨n, hn, rfl⟩ := (mem_at k x).mp hx
  exact h.lim n hn
theorem Kp.good.short {k : Kp} (h : k.good) : k.short := fun x hx => lim_short (h.limds x hx)
theorem Kp.good.all {K : PySem.W.Frag} {k : Kp} (h : k.good) : k.allOk K := fun n hn => lim_ok (h.lim n hn)
theorem find_none {α : Type} {p : α → Bool} : ∀ {xs : List α}, (∀ x, x ∈ xs → p x = false) → xs.find? p = none
  | [], _ => rfl
  | x :: r, h => by
    rw [List.find?_cons, h x List.mem_cons_self]
    exact find_none fun y hy => h y (List.mem_cons_of_mem _ hy)
theorem Kp.good.wrong {k : Kp} (h : k.good) : k.wrong = none := by
  refine find_none fun n hn => ?_
  unfold Kp.okAt
  by_cases e : n = "freeze"
  · rw [if_pos e]
    obtain ⟨b, f, h1, h2, h3, h4⟩ := h.fr
    rw [h1, h2]
    show (!(decide (1 ≤ f) && decide (f < b))) = false
    rw [decide_eq_true h3, decide_eq_true h4]
    rfl
  · rw [if_neg e, h.ok n hn e]
    rfl
theorem Kp.good.put {k : Kp} (h : k.good) {n : Str} {x : Dv} (hn : n ∈ KN) (n1 : n ≠ "begin") (n2 : n ≠ "freeze") (hl : limD x) (ho : okSet n x = true) : (k.put n x).good := by
  refine ⟨fun m hm => ?_, fun m hm mf => ?_, ?_⟩
  · rw [put_at k x hn hm]
    by_cases q : m = n
    · rw [if_pos q]; exact hl
    · rw [if_neg q]; exact h.lim m hm
  · rw [put_at k x hn hm]
    by_cases q : m = n
    · rw [if_pos q, q]; exact ho
    · rw [if_neg q]; exact h.ok m hm mf
  · obtain ⟨b, f, h1, h2, h3⟩ := h.fr
    refine ⟨b, f, ?_, ?_, h3⟩
    · rw [← at_b, put_at k x hn (by decide +kernel), if_neg (fun q => n1 q.symm), at_b, h1]
    · rw [← at_f, put_at k x hn (by decide +kernel), if_neg (fun q => n2 q.symm), at_f, h2]
/-! ### by place -/
theorem at_s (k : Kp) : k.at "stop" = k.s := by kernel_rfl
theorem at_c (k : Kp) : k.at "counts" = k.c := by kernel_rfl
theorem at_m (k : Kp) : k.at "marks" = k.m := by kernel_rfl
theorem at_cl (k : Kp) : k.at "clears" = k.cl := by kernel_rfl
theorem at_mo (k : Kp) : k.at "moves" = k.mo := by kernel_rfl
theorem at_cu (k : Kp) : k.at "cut" = k.cu := by kernel_rfl
theorem at_n (k : Kp) : k.at "needs" = k.n := by kernel_rfl
theorem at_ma (k : Kp) : k.at "marked" = k.ma := by kernel_rfl
theorem at_h (k : Kp) : k.at "held" = k.h := by kernel_rfl
end DL

/-! loops whose ends are letters -/
namespace DL
open PySem L2
end DL

/-! enumerate over a tuple -/
namespace EnX
open PySem PySem.Spec PyProof.Rows L2
section
variable {prog : Program} {w : World} {A : Around} {E : Value → Shared → Prop} {s : Shared}
end
end EnX

/-! enumerate, loops in defs that raise, partition, `in` of a dict of the module -/
namespace DL
open PySem L2
/-! ### enumerate -/
section
variable {K : PySem.W.Frag}
end
/-! ### for, where the body may raise -/
/-! ### xs.append(e), where e may raise -/
/-! ### a.partition(b) -/
/-! ### x in d, d a dict of the module -/
structure KIn (K : PySem.W.Frag) (w : World) (a : Addr) (keys : List Str) : Prop where
  ex : ∃ es n, KDict K w a es n
  at_ : ∀ z, ∃ r : Option Value, PySem.W.nsIn K a z = some r ∧ r.isSome = decide (z ∈ keys)
theorem kIn_of {K : PySem.W.Frag} {w : World} {a : Addr} {es : Array DictEntry} {n : Nat} {keys : List Str} (h1 : K.lookup a = some ⟨.type "dict", none, .dict es n, #[]⟩) (h2 : PySem.W.KeysLit w.params es.toList) (h3 : (a == sysModules) = false) (h4 : ∃ ts : List Tok, ts.length = keys.length ∧ es.toList.map (·.key) = List.zipWith Value.str keys ts) : KIn K w a keys := by
  refine ⟨⟨es, n, h1, h2, h3⟩, fun z => ?_⟩
  obtain ⟨ts, hl, hm⟩ := h4
  unfold PySem.W.nsIn
  rw [h1]
  dsimp only
  generalize es.toList = l at hm
  have key : (l.find? (·.key.isStr z)).isSome = decide (z ∈ keys) ∧ l.any (·.refKey) = false := by
    clear h1 h2
    induction l generalizing keys ts with
    | nil =>
      have : keys = [] := by
        cases keys with
        | nil => rfl
        | cons k r =>
          cases ts with
          | nil => cases hl
          | cons t s => cases hm
      subst this
      exact ⟨by simp, rfl⟩
    | cons e r ih =>
      cases keys with
      | nil => cases hm
      | cons k ks =>
        cases ts with
        | nil => cases hl
        | cons t s =>
          rw [List.map_cons, List.zipWith_cons_cons] at hm
          injection hm with hm1 hm2
          obtain ⟨i1, i2⟩ := ih s (Nat.succ.inj hl) hm2
          have e1 : e.key.isStr z = (k == z) := by
            rw [hm1]
            rfl
          have e2 : e.refKey = false := by
            unfold DictEntry.refKey
            rw [hm1]
          refine ⟨?_, by rw [List.any_cons, e2, i2]; rfl⟩
          rw [List.find?_cons, e1]
          by_cases q : k = z
          · subst q
            simp
          · have q1 : (k == z) = false := beq_eq_false_iff_ne.mpr q
            have q2 : ¬ z = k := fun h => q h.symm
            rw [q1]
            simp only [i1, List.mem_cons, q2, false_or]
  obtain ⟨k1, k2⟩ := key
  cases h : l.find? (·.key.isStr z) with
  | some e =>
    rw [h] at k1
    exact ⟨some e.val, rfl, k1⟩
  | none =>
    rw [h] at k1
    refine ⟨none, ?_, k1⟩
    rw [k2]
    rfl
end DL

/-! lists that a def makes and hands out, and its caller changes -/
namespace DL
open PySem L2
section
variable {K : PySem.W.Frag} {z : Av} {As As' : List (List Addr)} {W W' : WS} {H H' : Hp} {p : Addr}
end
end DL

/-! texts of keepers, read -/
namespace DL
open PySem L2 TL
/-- what a line tells -/
def numNames : List Str := ["begin", "freeze", "stop", "marked", "held"]
def isI : Dv → Bool
  | .int _ => true
  | _ => false
def valIn (n line : Str) : Option Dv :=
  if (Txt.partition line " ").1 ≠ n ∨ (Txt.partition line " ").2.1 = "" then none
  else if n = "clears" ∨ n = "needs" then (if (Txt.partition line " ").2.2 = "yes" then some (.bl true) else if (Txt.partition line " ").2.2 = "no" then some (.bl false) else none)
  else if n = "stop" ∧ (Txt.partition line " ").2.2 = "never" then some .non
  else if isI (numD (Txt.partition line " ").2.2) = true ∧ n ∈ numNames then some (numD (Txt.partition line " ").2.2)
  else if (Txt.partition line " ").2.2 ∈ wordsK n then some (.str (Txt.partition line " ").2.2) else none
/-- the values of the lines, or the number of the first wrong one -/
def readL : Nat → List Str → List Str → List Dv → Nat ⊕ List Dv
  | i, [], [], acc => .inr acc
  | i, [], _ :: _, acc => .inl i
  | i, _ :: _, [], _ => .inl i
  | i, n :: ns, l :: ls, acc => match valIn n l with
    | none => .inl i
    | some d => readL (i + 1) ns ls (acc ++ [d])
theorem name_free {n : Str} (h : n ∈ KN) : 32 ∉ tl n ∧ 10 ∉ tl n := by
  simp only [List.mem_cons, List.not_mem_nil, or_false] at h
  rcases h with rfl | rfl | rfl | rfl | rfl | rfl | rfl | rfl | rfl | rfl | rfl <;> decide +kernel
theorem part_line {n : Str} (h : n ∈ KN) (x : Dv) : Txt.partition (lineD n x) " " = (n, (" " : Str), wordD x) := partition_app tl_sp (name_free h).1
theorem lim_free {x : Dv} (h : limD x) : 10 ∉ tl (wordD x) := by
  rcases h with rfl | ⟨b, rfl⟩ | ⟨i, rfl, h0, h1⟩ | ⟨s, rfl, hs⟩
  · decide +kernel
  · cases b <;> decide +kernel
  · intro m
    have := (canon_int h0 h1).1.dig 10 m
    omega
  · simp only [List.mem_cons, List.not_mem_nil, or_false] at hs
    rcases hs with rfl | rfl | rfl | rfl | rfl | rfl | rfl | rfl | rfl | rfl | rfl <;> decide +kernel
theorem line_free {n : Str} {x : Dv} (hn : n ∈ KN) (h : limD x) : 10 ∉ tl (lineD n x) := by
  unfold lineD
  rw [tl_append, tl_append, tl_sp]
  intro m
  rcases List.mem_append.mp m with m | m
  · rcases List.mem_append.mp m with m | m
    · exact (name_free hn).2 m
    · simp at m
  · exact lim_free h m
theorem num_small {i : Int} (h0 : 0 ≤ i) (h1 : i < 10000000000000000000) : numD (toString i) = .int i := by
  have c := canon_int h0 h1
  unfold numD
  rw [if_pos (canon_to c.1), c.2]
theorem never_no {i : Int} (h0 : 0 ≤ i) (h1 : i < 10000000000000000000) : (toString i : Str) ≠ "never" := fun e => by
  have c := canon_to (canon_int h0 h1).1
  rw [e] at c
  exact absurd c (by decide +kernel)
theorem sp_ne : (" " : Str) ≠ "" := by decide +kernel
theorem val_line {n : Str} {x : Dv} (hn : n ∈ KN) (hl : limD x) (ho : n = "freeze" ∧ (∃ f : Int, x = .int f) ∨ n ≠ "freeze" ∧ okSet n x = true) : valIn n (lineD n x) = some x := by
  unfold valIn
  rw [part_line hn]
  dsimp only
  rw [if_neg (fun q => q.elim (fun z => z rfl) sp_ne)]
  have isint : ∀ i : Int, x = .int i → n ∈ numNames → n ≠ "clears" ∧ n ≠ "needs" → (if n = "clears" ∨ n = "needs" then (if wordD x = "yes" then some (Dv.bl true) else if wordD x = "no" then some (.bl false) else none)
      else if n = "stop" ∧ wordD x = "never" then some .non else if isI (numD (wordD x)) = true ∧ n ∈ numNames then some (numD (wordD x)) else if wordD x ∈ wordsK n then some (.str (wordD x)) else none) = some x := by
    intro i hi hm hc
    subst hi
    obtain ⟨h0, h1⟩ : 0 ≤ i ∧ i < 10000000000000000000 := by
      rcases hl with h | ⟨b, h⟩ | ⟨j, h, a, b⟩ | ⟨s, h, _⟩
      · cases h
      · cases h
      · cases h; exact ⟨a, b⟩
      · cases h
    have e : numD (wordD (.int i)) = .int i := num_small h0 h1
    rw [if_neg (fun q => q.elim hc.1 hc.2), if_neg (fun q => never_no h0 h1 q.2), e, if_pos ⟨rfl, hm⟩]
  rcases ho with ⟨rfl, f, hf⟩ | ⟨nf, ho⟩
  · exact isint f hf (by decide +kernel) ⟨by decide +kernel, by decide +kernel⟩
  unfold okSet at ho
  by_cases e1 : n = "begin"
  · subst e1
    rw [if_pos rfl] at ho
    cases x with
    | int i => exact isint i rfl (by decide +kernel) ⟨by decide +kernel, by decide +kernel⟩
    | _ => cases ho
  rw [if_neg e1] at ho
  by_cases e2 : n = "stop"
  · subst e2
    rw [if_pos rfl] at ho
    cases x with
    | int i => exact isint i rfl (by decide +kernel) ⟨by decide +kernel, by decide +kernel⟩
    | non =>
      rw [if_neg (by decide +kernel), if_pos ⟨rfl, rfl⟩]
    | _ => cases ho
  rw [if_neg e2] at ho
  by_cases e3 : n = "clears" ∨ n = "needs"
  · rw [if_pos e3] at ho
    rw [if_pos e3]
    cases x with
    | bl b =>
      cases b with
      | true => exact if_pos (by decide +kernel)
      | false => exact (if_neg (by decide +kernel)).trans (if_pos (by decide +kernel))
    | _ => cases ho
  rw [if_neg e3] at ho
  have word : oneOf x (wordsK n) = true → (if n = "clears" ∨ n = "needs" then (if wordD x = "yes" then some (Dv.bl true) else if wordD x = "no" then some (.bl false) else none)
      else if n = "stop" ∧ wordD x = "never" then some .non else if isI (numD (wordD x)) = true ∧ n ∈ numNames then some (numD (wordD x)) else if wordD x ∈ wordsK n then some (.str (wordD x)) else none) = some x := by
    intro h
    cases x with
    | str s =>
      have hs : s ∈ wordsK n := of_decide_eq_true h
      have hno : numD s = .non := by
        rcases hl with h | ⟨b, h⟩ | ⟨j, h, a, b⟩ | ⟨s', h, hs'⟩
        · cases h
        · cases h
        · cases h
        · cases h
          simp only [List.mem_cons, List.not_mem_nil, or_false] at hs'
          unfold numD
          rcases hs' with rfl | rfl | rfl | rfl | rfl | rfl | rfl | rfl | rfl | rfl | rfl <;> exact if_neg (by decide +kernel)
      have hno' : isI (numD (wordD (.str s))) ≠ true := by
        show isI (numD s) ≠ true
        rw [hno]
        decide
      rw [if_neg e3, if_neg (fun q => e2 q.1), if_neg (fun q => hno' q.1)]
      exact if_pos hs
    | _ => cases h
  by_cases e4 : (n = "marked" ∨ n = "held") ∧ isFromD x 1 = true
  · cases x with
    | int i => exact isint i rfl (by rcases e4.1 with rfl | rfl <;> decide +kernel) ⟨fun z => e3 (.inl z), fun z => e3 (.inr z)⟩
    | _ => cases e4.2
  · rw [if_neg e4] at ho
    exact word ho
theorem Kp.good.line {k : Kp} (h : k.good) {n : Str} (hn : n ∈ KN) : valIn n (lineD n (k.at n)) = some (k.at n) := by
  refine val_line hn (h.lim n hn) ?_
  by_cases e : n = "freeze"
  · subst e
    obtain ⟨b, f, _, hf, _⟩ := h.fr
    exact .inl ⟨rfl, f, by rw [at_f]; exact hf⟩
  · exact .inr ⟨e, h.ok n hn e⟩
theorem Kp.good.read {k : Kp} (h : k.good) : readL 0 KN k.lines [] = .inr k.ds := by
  have e1 := h.line (n := "begin") (by decide +kernel)
  have e2 := h.line (n := "freeze") (by decide +kernel)
  have e3 := h.line (n := "stop") (by decide +kernel)
  have e4 := h.line (n := "counts") (by decide +kernel)
  have e5 := h.line (n := "marks") (by decide +kernel)
  have e6 := h.line (n := "clears") (by decide +kernel)
  have e7 := h.line (n := "moves") (by decide +kernel)
  have e8 := h.line (n := "cut") (by decide +kernel)
  have e9 := h.line (n := "needs") (by decide +kernel)
  have e10 := h.line (n := "marked") (by decide +kernel)
  have e11 := h.line (n := "held") (by decide +kernel)
  rw [at_b] at e1
  rw [at_f] at e2
  rw [at_s] at e3
  rw [at_c] at e4
  rw [at_m] at e5
  rw [at_cl] at e6
  rw [at_mo] at e7
  rw [at_cu] at e8
  rw [at_n] at e9
  rw [at_ma] at e10
  rw [at_h] at e11
  unfold Kp.lines
  simp only [readL, e1, e2, e3, e4, e5, e6, e7, e8, e9, e10, e11]
  rfl
theorem tl_nl : tl ("\n" : Str) = [10] := by decide +kernel
theorem lines_mem (k : Kp) : ∀ l, l ∈ k.lines → ∃ n, n ∈ KN ∧ l = lineD n (k.at n) := fun l hl => by
  unfold Kp.lines at hl
  simp only [List.mem_cons, List.not_mem_nil, or_false] at hl
  rcases hl with rfl | rfl | rfl | rfl | rfl | rfl | rfl | rfl | rfl | rfl | rfl
  · exact ⟨"begin", by decide +kernel, by rw [at_b]⟩
  · exact ⟨"freeze", by decide +kernel, by rw [at_f]⟩
  · exact ⟨"stop", by decide +kernel, by rw [at_s]⟩
  · exact ⟨"counts", by decide +kernel, by rw [at_c]⟩
  · exact ⟨"marks", by decide +kernel, by rw [at_m]⟩
  · exact ⟨"clears", by decide +kernel, by rw [at_cl]⟩
  · exact ⟨"moves", by decide +kernel, by rw [at_mo]⟩
  · exact ⟨"cut", by decide +kernel, by rw [at_cu]⟩
  · exact ⟨"needs", by decide +kernel, by rw [at_n]⟩
  · exact ⟨"marked", by decide +kernel, by rw [at_ma]⟩
  · exact ⟨"held", by decide +kernel, by rw [at_h]⟩
theorem Kp.good.split {k : Kp} (h : k.good) : Txt.split k.txt "\n" = k.lines := by
  unfold Kp.txt
  refine split_join tl_nl (by decide +kernel) (by unfold Kp.lines; exact List.cons_ne_nil _ _) fun l hl => ?_
  obtain ⟨n, hn, rfl⟩ := lines_mem k l hl
  exact line_free hn (h.lim n hn)
end DL

namespace DL
open PySem L2
/-! ### x, y = a value, an own list -/
end DL

/-! cls(*xs) -/
namespace DL
open PySem L2 PySem.Spec PyProof.Rows
end DL

/-! x is True, whatever x is -/
namespace DL
open PySem L2 PySem.Spec PyProof.Rows
end DL

/-! how long a keeper's text is -/
namespace DL
open PySem L2 TL
end DL

/-! lines cut at blanks, and at their first blank -/
namespace DL
open PySem L2 TL
/-! ### what was read is right but for freeze -/
end DL

namespace DL
open PySem L2 TL
/-! ### displays whose items may raise -/
section
variable {X : Cx} {e : Expr} {es : List Expr} {teX : WX → TE} {weX : XW → WE} {tr : WX → TA} {wr : XW → WA} {t : TA} {w : WA} {pos : Pos}
end
/-! ### pairs, compared -/
/-! ### signs of texts -/
theorem joinL_memg {c : Nat} {S : List Nat} : ∀ {ps : List (List Nat)}, c ∈ joinL S ps → c ∈ S ∨ ∃ p, p ∈ ps ∧ c ∈ p
  | [], h => by cases h
  | [q], h => .inr ⟨q, List.mem_singleton.mpr rfl, h⟩
  | q :: r :: rest, h => by
    have h : c ∈ q ++ (S ++ joinL S (r :: rest)) := h
    rcases List.mem_append.mp h with h | h
    · exact .inr ⟨q, List.mem_cons_self, h⟩
    · rcases List.mem_append.mp h with h | h
      · exact .inl h
      · rcases joinL_memg h with h | ⟨p, hp, hc⟩
        · exact .inl h
        · exact .inr ⟨p, List.mem_cons_of_mem _ hp, hc⟩
theorem lim_chr {x : Dv} (h : limD x) : ∀ c, c ∈ tl (wordD x) → c < 256 := by
  rcases h with rfl | ⟨b, rfl⟩ | ⟨i, rfl, h0, h1⟩ | ⟨s, rfl, hs⟩
  · exact by decide +kernel
  · cases b <;> exact by decide +kernel
  · exact (canon_int h0 h1).1.txt.chr
  · simp only [List.mem_cons, List.not_mem_nil, or_false] at hs
    rcases hs with rfl | rfl | rfl | rfl | rfl | rfl | rfl | rfl | rfl | rfl | rfl <;> exact by decide +kernel
theorem name_chr {n : Str} (h : n ∈ KN) : ∀ c, c ∈ tl n → c < 256 := by
  simp only [List.mem_cons, List.not_mem_nil, or_false] at h
  rcases h with rfl | rfl | rfl | rfl | rfl | rfl | rfl | rfl | rfl | rfl | rfl <;> exact by decide +kernel
theorem line_chr {n : Str} {x : Dv} (hn : n ∈ KN) (h : limD x) : ∀ c, c ∈ tl (lineD n x) → c < 256 := fun c hc => by
  unfold lineD at hc
  rw [tl_append, tl_append, tl_sp] at hc
  rcases List.mem_append.mp hc with m | m
  · rcases List.mem_append.mp m with m | m
    · exact name_chr hn c m
    · rw [List.mem_singleton.mp m]; decide
  · exact lim_chr h c m
theorem join_chr {s : Str} {ls : List Str} (hs : ∀ c, c ∈ tl s → c < 256) (hl : ∀ l, l ∈ ls → ∀ c, c ∈ tl l → c < 256) : ∀ c, c ∈ tl (Txt.join s ls) → c < 256 := fun c hc => by
  rw [join_eq, tl_join] at hc
  rcases joinL_memg hc with hc | ⟨p, hp, hc⟩
  · exact hs c hc
  · obtain ⟨q, hq, rfl⟩ := List.mem_map.mp hp
    exact hl q hq c hc
theorem Kp.good.chr {k : Kp} (h : k.good) : ∀ c, c ∈ tl k.txt → c < 256 := join_chr (by decide +kernel) fun l hl => by
  obtain ⟨n, hn, rfl⟩ := lines_mem k l hl
  exact line_chr hn (h.lim n hn)
end DL

/-! pieces of lists of texts -/
namespace DL
open PySem L2 TL
end DL

/-! the head by one kernel run, its facts read by a Hook -/
namespace DH
open PySem PySem.Spec PyProof.Rows L2
/-- a fact of the written part -/
structure Ft where
  p : PySem.W.Frag → Prop
  d : ∀ K, Decidable (p K)
abbrev ft (p : PySem.W.Frag → Prop) [d : ∀ K, Decidable (p K)] : Ft := ⟨p, d⟩
def Ft.ok (K : PySem.W.Frag) (f : Ft) : Bool := @decide (f.p K) (f.d K)
/-- a def: where it stands, its names, its statement, defaults, closure -/
structure Df where
  at_ : PySem.W.Frag → Addr
  name : Str
  qual : Str
  st : Stmt
  dfl : List He.Dv := []
  cl : List Str := []
abbrev FnX : Type := Option (Str × Str × Arguments × FuncBody × Scope × Addr × List Str × Addr)
def fnX (K : PySem.W.Frag) (a : Addr) : FnX := match K.lookup a with
  | some ⟨_, _, .func fd, _⟩ => some (fd.name, fd.qualname, fd.params, fd.body, fd.scope, fd.globals, fd.closure.map (·.1), fd.builtins)
  | _ => none
def Df.val (d : Df) : FnX := some (d.name, d.qual, defArgs d.st, .stmts (defBody d.st), defScope d.st, mainGlobals, d.cl, builtinsNs)
abbrev Df.dvs (K : PySem.W.Frag) (d : Df) : List V := d.dfl.map (He.Dv.v K)
def Df.ok (K : PySem.W.Frag) (d : Df) : Bool := PySem.W.keepIn K (.ref (d.at_ K)) && (match K.lookup (d.at_ K) with
  | some ⟨_, _, .func fd, _⟩ => PySem.W.codeIn K fd.code d.qual && He.dflB K fd.defaults (d.dvs K)
  | _ => false)
abbrev FnG (K : PySem.W.Frag) (d : Df) (oc : Value) (od : Option Addr) (osl : Array (Option Value)) (ccs : List (Str × Addr)) (dV kV doc pm : Value) (an : Option Addr) (cdv ct : Value) : Prop :=
  K.lookup (d.at_ K) = some ⟨oc, od, .func ⟨d.name, d.qual, defArgs d.st, .stmts (defBody d.st), defScope d.st, mainGlobals, ccs, dV, kV, doc, pm, an, cdv, ct, builtinsNs⟩, osl⟩ ∧ ccs.map (·.1) = d.cl ∧ PySem.W.codeIn K cdv d.qual = true ∧ DflV K dV (d.dvs K)
theorem Df.get {K : PySem.W.Frag} {d : Df} (e : fnX K (d.at_ K) = d.val) (c : d.ok K = true) : PySem.W.keepIn K (.ref (d.at_ K)) = true ∧ ∃ oc od osl ccs dV kV doc pm an cdv ct, FnG K d oc od osl ccs dV kV doc pm an cdv ct := by
  obtain ⟨kp, c2⟩ := He.ba c
  refine ⟨kp, ?_⟩
  unfold fnX at e
  unfold FnG
  generalize K.lookup (d.at_ K) = lk at e c2 ⊢
  cases lk with
  | none => cases c2
  | some o =>
    obtain ⟨oc, od, dt, osl⟩ := o
    cases dt with
    | func fd =>
      obtain ⟨n1, n2, n3, n4, n5, n6, n7, n8, n9, n10, n11, n12, n13, n14, n15⟩ := fd
      have e2 : (some (n1, n2, n3, n4, n5, n6, n7.map (·.1), n15) : FnX) = some (d.name, d.qual, defArgs d.st, .stmts (defBody d.st), defScope d.st, mainGlobals, d.cl, builtinsNs) := e
      simp only [Option.some.injEq, Prod.mk.injEq] at e2
      obtain ⟨h1, h2, h3, h4, h5, h6, h7, h8⟩ := e2
      have c3 : (PySem.W.codeIn K n13 d.qual && He.dflB K n8 (d.dvs K)) = true := c2
      obtain ⟨k1, k2⟩ := He.ba c3
      exact ⟨oc, od, osl, n7, n8, n9, n10, n11, n12, n13, n14, by rw [h1, h2, h3, h4, h5, h6, h8], h7, k1, He.dflB_ok k2⟩
    | _ => cases c2
theorem Df.funD {K : PySem.W.Frag} {d : Df} (e : fnX K (d.at_ K) = d.val) (c : d.ok K = true) (hc : d.cl = []) : ∃ fd, FunD K d.name d.qual (defArgs d.st) (defBody d.st) (defScope d.st) (d.dvs K) [] (d.at_ K) fd := by
  obtain ⟨kp, oc, od, osl, ccs, dV, kV, doc, pm, an, cdv, ct, g1, g2, g3, g4⟩ := Df.get e c
  rw [hc] at g2
  obtain rfl : ccs = [] := List.map_eq_nil_iff.mp g2
  exact ⟨_, ⟨oc, od, dV, kV, doc, pm, an, cdv, ct, osl, rfl, g1, g3, g4, .inl rfl⟩, kp⟩
/-- the code object's address, the class cell's -/
def caA (K : PySem.W.Frag) (f : Addr) : Addr := match K.lookup f with
  | some ⟨_, _, .func fd, _⟩ => (match fd.code with
    | .ref c => c
    | _ => 0)
  | _ => 0
def ccA (K : PySem.W.Frag) (f : Addr) : Addr := match K.lookup f with
  | some ⟨_, _, .func fd, _⟩ => (match fd.closure with
    | [(_, c)] => c
    | _ => 0)
  | _ => 0
/-- an exception's own __init__ -/
theorem Df.ks {K : PySem.W.Frag} {d : Df} (e : fnX K (d.at_ K) = d.val) (c : d.ok K = true) (hc : d.cl = ([("__class__" : Str)] : List Str)) (hd : d.dfl = []) : ∃ oc od osl kV doc pm an ct, K.lookup (d.at_ K) = some ⟨oc, od, .func (PySem.W.ksFn d.name d.qual (defArgs d.st) (defBody d.st) (defScope d.st) .none kV doc pm an (.ref (caA K (d.at_ K))) ct (ccA K (d.at_ K))), osl⟩ ∧ PySem.W.codeIn K (.ref (caA K (d.at_ K))) d.qual = true := by
  obtain ⟨kp, oc, od, osl, ccs, dV, kV, doc, pm, an, cdv, ct, g1, g2, g3, g4⟩ := Df.get e c
  rw [hc] at g2
  have dv : d.dvs K = [] := by
    unfold Df.dvs
    rw [hd]
    rfl
  rw [dv] at g4
  rcases g4 with ⟨_, rfl⟩ | ⟨q, _⟩
  · obtain ⟨⟨x, cc⟩, r, rfl, h1, h2⟩ := List.map_eq_cons_iff.mp g2
    obtain rfl := List.map_eq_nil_iff.mp h2
    obtain rfl : x = "__class__" := h1
    cases cdv with
    | ref ca =>
      have e1 : caA K (d.at_ K) = ca := by
        unfold caA
        rw [g1]
      have e2 : ccA K (d.at_ K) = cc := by
        unfold ccA
        rw [g1]
      rw [e1, e2]
      exact ⟨oc, od, osl, kV, doc, pm, an, ct, g1, g3⟩
    | _ => cases g3
  · exact absurd rfl q
def fileB (K : PySem.W.Frag) (ca : Addr) (file : Str) : Bool := match K.lookup ca with
  | some ⟨_, _, .fields vs, _⟩ => (match (vs[2]? : Option Value) with
    | some (Value.str f _) => decide (f = file)
    | _ => false)
  | _ => false
def cellB (K : PySem.W.Frag) (cc C : Addr) : Bool := match K.lookup cc with
  | some ⟨_, _, .cell (some (.ref D)), _⟩ => decide (D = C)
  | _ => false
/-- an exception's class: what stands behind it in its order -/
def exB (K : PySem.W.Frag) (C : Addr) (bm : List Value) : Bool := match K.lookup C with
  | some ⟨.type t, _, .cls cd, sl⟩ => decide (t = "type") && (decide (cd.mro = .ref C :: bm) && (cd.hasDict && (!cd.hasDel && (match sl.toList with
    | [_, _, _, _, some (.builtin n), _] => decide (n = "ValueError.__new__")
    | _ => false))))
  | _ => false
/-! constants -/
/-- the object that the name x of the table at a stands for -/
def vaA (K : PySem.W.Frag) (a : Addr) (x : Str) : Addr := match PySem.W.nsIn K a x with
  | some (some (.ref b)) => b
  | _ => 0
/-- a tuple of texts -/
def tupB (K : PySem.W.Frag) (a : Addr) (xs : List Str) : Bool := match K.lookup a with
  | some ⟨.type c, _, .seq its _, _⟩ => decide (c = "tuple") && (decide (its.size ≤ sizeLine) && He.relAll (xs.map V.str) its.toList)
  | _ => false
theorem keys_at {P : Params} : ∀ {l : List DictEntry} {ks : List Str}, l.map He.keyOf = He.keysIn P ks → ∃ ts : List Tok, ts.length = ks.length ∧ l.map (·.key) = List.zipWith Value.str ks ts
  | [], [], _ => ⟨[], rfl, rfl⟩
  | [], _ :: _, h => by cases h
  | _ :: _, [], h => by cases h
  | e :: r, k :: ks, h => by
    have h1 : He.keyOf e :: r.map He.keyOf = some (k, PyData.keyHash P k) :: He.keysIn P ks := h
    injection h1 with h2 h3
    obtain ⟨ts, e1, e2⟩ := keys_at h3
    unfold He.keyOf at h2
    split at h2
    · rename_i x t q
      obtain ⟨h5, h6⟩ := Prod.mk.inj (Option.some.inj h2)
      refine ⟨t :: ts, by rw [List.length_cons, List.length_cons, e1], ?_⟩
      rw [List.map_cons, e2, q, h5]
      rfl
    · cases h2
/-- a dict with text keys -/
theorem dic_kin {K : PySem.W.Frag} {w : World} {a : Addr} {ks : List Str} (h : He.dicW K a = some (He.keysIn w.params ks)) : ∃ es n, KDict K w a es n ∧ DL.KIn K w a ks := by
  have h0 := h
  obtain ⟨es, n, D⟩ := He.dicW_ok h
  obtain ⟨d1, d2, d3⟩ := id D
  unfold He.dicW at h0
  rw [d1] at h0
  have h0 : (match decide (("dict" : String) = "dict") && ((#[] : Array (Option Value)).isEmpty && !(a == sysModules)) with
    | true => some (es.toList.map He.keyOf)
    | false => none) = some (He.keysIn w.params ks) := h0
  rw [d3] at h0
  have h0 : some (es.toList.map He.keyOf) = some (He.keysIn w.params ks) := h0
  exact ⟨es, n, D, DL.kIn_of d1 d2 d3 (keys_at (Option.some.inj h0))⟩
/-! the Hook -/
abbrev Tab : Type := (PySem.W.Frag → Addr) × List Str
abbrev Al : Type := Bool × List FnX × List (Option (List (Option (Str × Int))))
def obsK (fa : List Ft) (da : List Df) (ta : List Tab) (K : PySem.W.Frag) : Al := ((fa.all fun f => f.ok K) && da.all fun d => d.ok K, da.map fun d => fnX K (d.at_ K), ta.map fun t => He.dicW K (t.1 K))
def valK (da : List Df) (ta : List Tab) (w : World) : Al := (true, da.map Df.val, ta.map fun t => some (He.keysIn w.params t.2))
def Says (fa : List Ft) (da : List Df) (ta : List Tab) (w : World) (K : PySem.W.Frag) : Prop := obsK fa da ta K = valK da ta w
section
variable {fa : List Ft} {da : List Df} {ta : List Tab} {w : World} {K : PySem.W.Frag}
theorem Says.f (c : Says fa da ta w K) (i : Nat) {f : Ft} (h : fa[i]? = some f) : f.p K := by
  have c1 := (He.ba (show ((fa.all fun f => f.ok K) && da.all fun d => d.ok K) = true from congrArg (fun z : Al => z.1) c)).1
  exact @of_decide_eq_true _ (f.d K) (List.all_eq_true.mp c1 f (List.mem_of_getElem? h))
theorem Says.d0 (c : Says fa da ta w K) (i : Nat) {d : Df} (h : da[i]? = some d) : fnX K (d.at_ K) = d.val ∧ d.ok K = true := by
  have c2 := (He.ba (show ((fa.all fun f => f.ok K) && da.all fun d => d.ok K) = true from congrArg (fun z : Al => z.1) c)).2
  have e : da.map (fun d => fnX K (d.at_ K)) = da.map Df.val := congrArg (fun z : Al => z.2.1) c
  have e2 : (da.map fun d => fnX K (d.at_ K))[i]? = (da.map Df.val)[i]? := by rw [e]
  rw [List.getElem?_map, List.getElem?_map, h] at e2
  exact ⟨Option.some.inj e2, List.all_eq_true.mp c2 d (List.mem_of_getElem? h)⟩
theorem Says.fd (c : Says fa da ta w K) (i : Nat) {d : Df} (h : da[i]? = some d) (hc : d.cl = [] := by rfl) : ∃ fd, FunD K d.name d.qual (defArgs d.st) (defBody d.st) (defScope d.st) (d.dvs K) [] (d.at_ K) fd := Df.funD (c.d0 i h).1 (c.d0 i h).2 hc
theorem Says.ks (c : Says fa da ta w K) (i : Nat) {d : Df} (h : da[i]? = some d) (hc : d.cl = ([("__class__" : Str)] : List Str) := by rfl) (hd : d.dfl = [] := by rfl) : ∃ oc od osl kV doc pm an ct, K.lookup (d.at_ K) = some ⟨oc, od, .func (PySem.W.ksFn d.name d.qual (defArgs d.st) (defBody d.st) (defScope d.st) .none kV doc pm an (.ref (caA K (d.at_ K))) ct (ccA K (d.at_ K))), osl⟩ ∧ PySem.W.codeIn K (.ref (caA K (d.at_ K))) d.qual = true := Df.ks (c.d0 i h).1 (c.d0 i h).2 hc hd
theorem Says.kp (c : Says fa da ta w K) (i : Nat) {d : Df} (h : da[i]? = some d) : PySem.W.keepIn K (.ref (d.at_ K)) = true := (He.ba (c.d0 i h).2).1
theorem Says.t (c : Says fa da ta w K) (i : Nat) {t : Tab} (h : ta[i]? = some t) : ∃ es n, KDict K w (t.1 K) es n ∧ DL.KIn K w (t.1 K) t.2 := by
  have e : ta.map (fun t => He.dicW K (t.1 K)) = ta.map fun t => some (He.keysIn w.params t.2) := congrArg (fun z : Al => z.2.2) c
  have e2 : (ta.map fun t => He.dicW K (t.1 K))[i]? = (ta.map fun t => some (He.keysIn w.params t.2))[i]? := by rw [e]
  rw [List.getElem?_map, List.getElem?_map, h] at e2
  exact dic_kin (Option.some.inj e2)
end
/-! the end -/
end DH

/-! the head's facts in several runs: each run less memory -/
namespace DH
open PySem PySem.Spec PyProof.Rows L2
end DH

/-! the head's facts, tables of code objects left out -/
namespace DH
open PySem PySem.Spec PyProof.Rows L2
abbrev AlT : Type := Al × Bool
/-- the part of the heap that is looked at, empty tables left out -/
abbrev frN (n : List Addr) (g : Addr → Option Obj) : PySem.W.Frag := He.frT g n
def obsT (n : List Addr) (fa : List Ft) (da : List Df) (ta : List Tab) (tf : List He.Defn) (g : Addr → Option Obj) : AlT := (obsK fa da ta (frN n g), He.tabsB g tf (frN n g))
structure SaysT (fa : List Ft) (da : List Df) (ta : List Tab) (tf : List He.Defn) (w : World) (h : Heap) (K : PySem.W.Frag) : Prop where
  s : Says fa da ta w K
  hd : ∀ p ∈ tf, PySem.W.codeHdIn K (He.cT K p).1 (He.cT K p).2 = true
  out : ∀ p ∈ tf, K.lookup (He.cT K p).2 = none
  empty : ∀ p ∈ tf, h.get? (He.cT K p).2 = some { cls := .none, data := .fields #[] }
theorem saysT_of {n : List Addr} {fa : List Ft} {da : List Df} {ta : List Tab} {tf : List He.Defn} {w : World} {h : Heap} (e : obsT n fa da ta tf h.get? = (valK da ta w, true)) : SaysT fa da ta tf w h (frN n h.get?) := by
  have e1 : obsK fa da ta (frN n h.get?) = valK da ta w := congrArg (fun z : AlT => z.1) e
  have e2 : He.tabsB h.get? tf (frN n h.get?) = true := congrArg (fun z : AlT => z.2) e
  have each : ∀ p ∈ tf, PySem.W.codeHdIn (frN n h.get?) (He.cT (frN n h.get?) p).1 (He.cT (frN n h.get?) p).2 = true ∧ ∃ o, h.get? (He.cT (frN n h.get?) p).2 = some o ∧ He.emptyTab o = true := by
    intro p hp
    obtain ⟨a, b⟩ := He.ba (List.all_eq_true.mp e2 p hp)
    refine ⟨a, ?_⟩
    cases q : h.get? (He.cT (frN n h.get?) p).2 with
    | none => rw [q] at b; cases b
    | some o => rw [q] at b; exact ⟨o, rfl, b⟩
  refine ⟨e1, fun p hp => (each p hp).1, fun p hp => ?_, fun p hp => ?_⟩
  · obtain ⟨_, o, q, z⟩ := each p hp
    exact He.frT_none q z
  · obtain ⟨_, o, q, z⟩ := each p hp
    rw [q, He.emptyTab_eq z]
def hookT (n : List Addr) (fa : List Ft) (da : List Df) (ta : List Tab) (tf : List He.Defn) : PySem.W.Hook where
  α := AlT
  obs := fun s => obsT n fa da ta tf s.heap.get?
  val := fun w => (valK da ta w, true)
  says := fun w h => ∃ K : PySem.W.Frag, K.In h ∧ SaysT fa da ta tf w h K
  of := fun _ _ e => ⟨_, He.frT_in, saysT_of e⟩
  keeps := fun _ _ _ ⟨K, hK, c⟩ k => ⟨K, PySem.W.Frag.In.keeps hK k, ⟨c.s, c.hd, c.out, fun p hp => k _ _ (c.empty p hp)⟩⟩
end DH


namespace MyH
open PySem L2 DL TL
def top (i : Nat) : Stmt := PySem.Challenge.pw_frostmarks_k06_keepers_refused.main.body.getD i (.Pass ⟨0, 0, 0, 0⟩)
abbrev s_is_integer : Stmt := (top 8)
abbrev s_is_from : Stmt := (top 9)
abbrev s_is_one_of : Stmt := (top 10)
abbrev s_is_setting : Stmt := (top 16)
abbrev s_first_wrong : Stmt := (top 17)
abbrev s_word_of : Stmt := (top 18)
abbrev s_Keeper___init__ : Stmt := (inClass (top 19) 0)
abbrev s_Keeper_settings : Stmt := (inClass (top 19) 2)
abbrev s_Keeper_but : Stmt := (inClass (top 19) 3)
abbrev s_Keeper___str__ : Stmt := (inClass (top 19) 6)
abbrev s_Keeper___eq__ : Stmt := (inClass (top 19) 5)
abbrev s__law_deal : Stmt := (top 22)
abbrev s__law_draw : Stmt := (top 23)
abbrev s__law_pick : Stmt := (top 24)
abbrev s__law_thing : Stmt := (top 26)
abbrev s__law_names : Stmt := (top 27)
abbrev s__law_words : Stmt := (top 28)
abbrev s__law_passing : Stmt := (top 29)
abbrev s__law_settings : Stmt := (top 30)
abbrev s__law_made : Stmt := (top 31)
abbrev s__law_kept : Stmt := (top 32)
abbrev s__law_but : Stmt := (top 33)
abbrev s__law_is_from : Stmt := (top 34)
abbrev s__law_is_fine : Stmt := (top 35)
abbrev s__law_first_wrong : Stmt := (top 36)
abbrev s__law_heard : Stmt := (top 37)
abbrev s_law : Stmt := (top 38)
abbrev s_InvalidKeeper : Stmt := (inClass (top 2) 0)
abbrev P : Program := PySem.Challenge.pw_frostmarks_k06_keepers_refused
def FA : List DH.Ft := ([DH.ft fun K => PySem.W.nsIn K mainGlobals "int" = some none, DH.ft fun K => PySem.W.nsIn K mainGlobals "bool" = some none, DH.ft fun K => PySem.W.nsIn K mainGlobals "str" = some none, DH.ft fun K => PySem.W.nsIn K mainGlobals "isinstance" = some none, DH.ft fun K => PySem.W.nsIn K mainGlobals "abs" = some none, DH.ft fun K => PySem.W.nsIn K mainGlobals "max" = some none, DH.ft fun K => PySem.W.nsIn K mainGlobals "min" = some none, DH.ft fun K => PySem.W.nsIn K mainGlobals "len" = some none, DH.ft fun K => PySem.W.nsIn K mainGlobals "range" = some none, DH.ft fun K => PySem.W.nsIn K mainGlobals "list" = some none, DH.ft fun K => PySem.W.nsIn K mainGlobals "repr" = some none, DH.ft fun K => PySem.W.nsIn K mainGlobals "dict" = some none, DH.ft fun K => PySem.W.nsIn K mainGlobals "tuple" = some none, DH.ft fun K => PySem.W.nsIn K mainGlobals "is_integer" = some (some (.ref (He.ga K "is_integer"))), DH.ft fun K => PySem.W.nsIn K mainGlobals "is_from" = some (some (.ref (He.ga K "is_from"))), DH.ft fun K => PySem.W.nsIn K mainGlobals "is_one_of" = some (some (.ref (He.ga K "is_one_of"))), DH.ft fun K => PySem.W.nsIn K mainGlobals "is_setting" = some (some (.ref (He.ga K "is_setting"))), DH.ft fun K => PySem.W.nsIn K mainGlobals "first_wrong" = some (some (.ref (He.ga K "first_wrong"))), DH.ft fun K => PySem.W.nsIn K mainGlobals "word_of" = some (some (.ref (He.ga K "word_of"))), DH.ft fun K => PySem.W.nsIn K mainGlobals "_law_deal" = some (some (.ref (He.ga K "_law_deal")))] : List DH.Ft) ++ ([DH.ft fun K => PySem.W.nsIn K mainGlobals "_law_draw" = some (some (.ref (He.ga K "_law_draw"))), DH.ft fun K => PySem.W.nsIn K mainGlobals "_law_pick" = some (some (.ref (He.ga K "_law_pick"))), DH.ft fun K => PySem.W.nsIn K mainGlobals "_law_thing" = some (some (.ref (He.ga K "_law_thing"))), DH.ft fun K => PySem.W.nsIn K mainGlobals "_law_names" = some (some (.ref (He.ga K "_law_names"))), DH.ft fun K => PySem.W.nsIn K mainGlobals "_law_words" = some (some (.ref (He.ga K "_law_words"))), DH.ft fun K => PySem.W.nsIn K mainGlobals "_law_passing" = some (some (.ref (He.ga K "_law_passing"))), DH.ft fun K => PySem.W.nsIn K mainGlobals "_law_settings" = some (some (.ref (He.ga K "_law_settings"))), DH.ft fun K => PySem.W.nsIn K mainGlobals "_law_made" = some (some (.ref (He.ga K "_law_made"))), DH.ft fun K => PySem.W.nsIn K mainGlobals "_law_kept" = some (some (.ref (He.ga K "_law_kept"))), DH.ft fun K => PySem.W.nsIn K mainGlobals "_law_but" = some (some (.ref (He.ga K "_law_but"))), DH.ft fun K => PySem.W.nsIn K mainGlobals "_law_is_from" = some (some (.ref (He.ga K "_law_is_from"))), DH.ft fun K => PySem.W.nsIn K mainGlobals "_law_is_fine" = some (some (.ref (He.ga K "_law_is_fine"))), DH.ft fun K => PySem.W.nsIn K mainGlobals "_law_first_wrong" = some (some (.ref (He.ga K "_law_first_wrong"))), DH.ft fun K => PySem.W.nsIn K mainGlobals "_law_heard" = some (some (.ref (He.ga K "_law_heard"))), DH.ft fun K => PySem.W.nsIn K mainGlobals "law" = some (some (.ref (He.ga K "law"))), DH.ft fun K => PySem.W.plainGet K (He.ga K "Keeper") Str.empty = true, DH.ft fun K => PySem.W.hasDictIn K (He.ga K "Keeper") = true, DH.ft fun K => PySem.W.plainOver K (He.ga K "Keeper") = true, DH.ft fun K => PySem.W.findIn K (.ref (He.ga K "Keeper")) "__setattr__" = some (some (.builtin "object.__setattr__")), DH.ft fun K => PySem.W.nsIn K mainGlobals "Keeper" = some (some (.ref (He.ga K "Keeper")))] : List DH.Ft) ++ ([DH.ft fun K => PySem.W.makesIn K (He.ga K "Keeper") = true, DH.ft fun K => PySem.W.findIn K (.ref (He.ga K "Keeper")) "__init__" = some (some (.ref (He.ma K (He.ga K "Keeper") "__init__"))), DH.ft fun K => PySem.W.isFn K (.ref (He.ma K (He.ga K "Keeper") "__init__")) = true, DH.ft fun K => PySem.W.keepIn K (.ref (He.ga K "Keeper")) = true, DH.ft fun K => PySem.W.findIn K (.ref (He.ga K "Keeper")) "begin" = some none, DH.ft fun K => PySem.W.findIn K (.ref (He.ga K "Keeper")) "freeze" = some none, DH.ft fun K => PySem.W.findIn K (.ref (He.ga K "Keeper")) "stop" = some none, DH.ft fun K => PySem.W.findIn K (.ref (He.ga K "Keeper")) "counts" = some none, DH.ft fun K => PySem.W.findIn K (.ref (He.ga K "Keeper")) "marks" = some none, DH.ft fun K => PySem.W.findIn K (.ref (He.ga K "Keeper")) "clears" = some none, DH.ft fun K => PySem.W.findIn K (.ref (He.ga K "Keeper")) "moves" = some none, DH.ft fun K => PySem.W.findIn K (.ref (He.ga K "Keeper")) "cut" = some none, DH.ft fun K => PySem.W.findIn K (.ref (He.ga K "Keeper")) "needs" = some none, DH.ft fun K => PySem.W.findIn K (.ref (He.ga K "Keeper")) "marked" = some none, DH.ft fun K => PySem.W.findIn K (.ref (He.ga K "Keeper")) "held" = some none, DH.ft fun K => PySem.W.findIn K (.ref (He.ga K "Keeper")) "settings" = some (some (.ref (He.ma K (He.ga K "Keeper") "settings"))), DH.ft fun K => PySem.W.isFn K (.ref (He.ma K (He.ga K "Keeper") "settings")) = true, DH.ft fun K => PySem.W.keepIn K (.ref (He.ma K (He.ga K "Keeper") "settings")) = true, DH.ft fun K => PySem.W.findIn K (.ref (He.ga K "Keeper")) "but" = some (some (.ref (He.ma K (He.ga K "Keeper") "but"))), DH.ft fun K => PySem.W.isFn K (.ref (He.ma K (He.ga K "Keeper") "but")) = true] : List DH.Ft) ++ ([DH.ft fun K => PySem.W.keepIn K (.ref (He.ma K (He.ga K "Keeper") "but")) = true, DH.ft fun K => PySem.W.findIn K (.ref (He.ga K "Keeper")) "__eq__" = some (some (.ref (He.ma K (He.ga K "Keeper") "__eq__"))), DH.ft fun K => PySem.W.isFn K (.ref (He.ma K (He.ga K "Keeper") "__eq__")) = true, DH.ft fun K => PySem.W.findIn K (.ref (He.ga K "Keeper")) "__ne__" = some (some (.builtin "object.__ne__")), DH.ft fun K => PySem.W.mroIn K (He.ga K "Keeper") (.type "object") = some true, DH.ft fun K => PySem.W.findIn K (.ref (He.ga K "Keeper")) "__str__" = some (some (.ref (He.ma K (He.ga K "Keeper") "__str__"))), DH.ft fun K => PySem.W.isFn K (.ref (He.ma K (He.ga K "Keeper") "__str__")) = true, DH.ft fun K => PySem.W.findIn K (.ref (He.ga K "Keeper")) "__class__" = some (some (.builtin "object.__class__")), DH.ft fun K => PySem.W.specialIn K (.builtin "object.__class__") "__get__" = some (some (.builtin "getset_descriptor.__get__")), DH.ft fun K => PySem.W.takesIn K (.builtin "object.__class__") = some true, DH.ft fun K => PySem.W.isClsIn K (He.ga K "Keeper") = true, DH.ft fun K => PySem.W.typeIn K (.ref (He.ga K "Keeper")) = some (.type "type"), DH.ft fun K => DH.exB K (He.ga K "FrostError") He.veBase = true, DH.ft fun K => PySem.W.findIn K (.ref (He.ga K "FrostError")) "__init__" = some (some (.builtin "ValueError.__init__")), DH.ft fun K => PySem.W.subIn K (.ref (He.ga K "FrostError")) (.type "BaseException") = some true, DH.ft fun K => PySem.W.hasDictIn K (He.ga K "FrostError") = true, DH.ft fun K => PySem.W.typeIn K (.ref (He.ga K "FrostError")) = some (.type "type"), DH.ft fun K => PySem.W.nsIn K mainGlobals "FrostError" = some (some (.ref (He.ga K "FrostError"))), DH.ft fun K => PySem.W.nsIn K mainGlobals "InvalidKeeper" = some (some (.ref (He.ga K "InvalidKeeper"))), DH.ft fun K => DH.fileB K (DH.caA K (He.ma K (He.ga K "InvalidKeeper") "__init__")) (P.main.file : Str) = true] : List DH.Ft) ++ ([DH.ft fun K => DH.cellB K (DH.ccA K (He.ma K (He.ga K "InvalidKeeper") "__init__")) (He.ga K "InvalidKeeper") = true, DH.ft fun K => DH.exB K (He.ga K "InvalidKeeper") (.ref (He.ga K "FrostError") :: He.veBase) = true, DH.ft fun K => PySem.W.findIn K (.ref (He.ga K "InvalidKeeper")) "__setattr__" = some (some (.builtin "object.__setattr__")), DH.ft fun K => PySem.W.subIn K (.ref (He.ga K "InvalidKeeper")) (.type "BaseException") = some true, DH.ft fun K => PySem.W.typeIn K (.ref (He.ga K "InvalidKeeper")) = some (.type "type"), DH.ft fun K => PySem.W.keepIn K (.ref (He.ga K "InvalidKeeper")) = true, DH.ft fun K => PySem.W.findIn K (.ref (He.ga K "InvalidKeeper")) "__init__" = some (some (.ref (He.ma K (He.ga K "InvalidKeeper") "__init__"))), DH.ft fun K => PySem.W.typeIn K (.ref (He.ma K (He.ga K "InvalidKeeper") "__init__")) = some (.type "function"), DH.ft fun K => PySem.W.isClsIn K (He.ga K "InvalidKeeper") = true, DH.ft fun K => PySem.W.mroIn K (He.ga K "InvalidKeeper") (.ref (He.ga K "InvalidKeeper")) = some true, DH.ft fun K => PySem.W.subIn K (.ref (He.ga K "InvalidKeeper")) (.type "ValueError") = some true, DH.ft fun K => PySem.W.findIn K (.ref (He.ga K "InvalidKeeper")) "__getattribute__" = some (some (.builtin "BaseException.__getattribute__")), DH.ft fun K => PySem.W.findIn K (.ref (He.ga K "InvalidKeeper")) "__getattr__" = some none, DH.ft fun K => PySem.W.hasDictIn K (He.ga K "InvalidKeeper") = true, DH.ft fun K => PySem.W.findIn K (.ref (He.ga K "InvalidKeeper")) "__class__" = some (some (.builtin "object.__class__")), DH.ft fun K => PySem.W.mroIn K (He.ga K "InvalidKeeper") (.type "object") = some true, DH.ft fun K => PySem.W.subIn K (.ref (He.ga K "InvalidKeeper")) (.ref (He.ga K "FrostError")) = some true, DH.ft fun K => PySem.W.nsIn K mainGlobals "super" = some none, DH.ft fun K => PySem.W.nsIn K cStatics "thirdparty.any" = some none, DH.ft fun K => PySem.W.findIn K (.ref (He.ga K "InvalidKeeper")) "word" = some none] : List DH.Ft) ++ ([DH.ft fun K => PySem.W.nsIn K mainGlobals "InvalidLoad" = some (some (.ref (He.ga K "InvalidLoad"))), DH.ft fun K => PySem.W.isClsIn K (He.ga K "InvalidLoad") = true, DH.ft fun K => PySem.W.typeIn K (.ref (He.ga K "InvalidLoad")) = some (.type "type"), DH.ft fun K => (Value.ref (He.ga K "InvalidKeeper") == Value.ref (He.ga K "InvalidLoad")) = false, DH.ft fun K => PySem.W.mroIn K (He.ga K "InvalidKeeper") (.ref (He.ga K "InvalidLoad")) = some false, DH.ft fun K => PySem.W.nsIn K mainGlobals "NAMES" = some (some (.ref (He.ga K "NAMES"))), DH.ft fun K => DH.tupB K (He.ga K "NAMES") (["begin", "freeze", "stop", "counts", "marks", "clears", "moves", "cut", "needs", "marked", "held"] : List Str) = true, DH.ft fun K => PySem.W.nsIn K (He.ga K "WORDS") "counts" = some (some (.ref (DH.vaA K (He.ga K "WORDS") "counts"))), DH.ft fun K => DH.tupB K (DH.vaA K (He.ga K "WORDS") "counts") (["all", "both", "now", "readers"] : List Str) = true, DH.ft fun K => PySem.W.nsIn K (He.ga K "WORDS") "marks" = some (some (.ref (DH.vaA K (He.ga K "WORDS") "marks"))), DH.ft fun K => DH.tupB K (DH.vaA K (He.ga K "WORDS") "marks") (["frozen", "never", "seen"] : List Str) = true, DH.ft fun K => PySem.W.nsIn K (He.ga K "WORDS") "moves" = some (some (.ref (DH.vaA K (He.ga K "WORDS") "moves"))), DH.ft fun K => DH.tupB K (DH.vaA K (He.ga K "WORDS") "moves") (["always", "whole"] : List Str) = true, DH.ft fun K => PySem.W.nsIn K (He.ga K "WORDS") "cut" = some (some (.ref (DH.vaA K (He.ga K "WORDS") "cut"))), DH.ft fun K => DH.tupB K (DH.vaA K (He.ga K "WORDS") "cut") (["horizon", "mark", "never"] : List Str) = true, DH.ft fun K => PySem.W.nsIn K (He.ga K "WORDS") "marked" = some (some (.ref (DH.vaA K (He.ga K "WORDS") "marked"))), DH.ft fun K => DH.tupB K (DH.vaA K (He.ga K "WORDS") "marked") (["always", "never"] : List Str) = true, DH.ft fun K => PySem.W.nsIn K (He.ga K "WORDS") "held" = some (some (.ref (DH.vaA K (He.ga K "WORDS") "held"))), DH.ft fun K => DH.tupB K (DH.vaA K (He.ga K "WORDS") "held") (["always", "never"] : List Str) = true, DH.ft fun K => PySem.W.nsIn K mainGlobals "WORDS" = some (some (.ref (He.ga K "WORDS")))] : List DH.Ft)
def DA : List DH.Df := ([⟨fun K => (He.ga K "is_integer"), "is_integer", "is_integer", s_is_integer, [], []⟩, ⟨fun K => (He.ga K "is_from"), "is_from", "is_from", s_is_from, [], []⟩, ⟨fun K => (He.ga K "is_one_of"), "is_one_of", "is_one_of", s_is_one_of, [], []⟩, ⟨fun K => (He.ga K "is_setting"), "is_setting", "is_setting", s_is_setting, [], []⟩, ⟨fun K => (He.ga K "first_wrong"), "first_wrong", "first_wrong", s_first_wrong, [], []⟩, ⟨fun K => (He.ga K "word_of"), "word_of", "word_of", s_word_of, [], []⟩, ⟨fun K => (He.ma K (He.ga K "Keeper") "__init__"), "__init__", "Keeper.__init__", s_Keeper___init__, [.non, .str "all", .str "frozen", .bl true, .str "whole", .str "mark", .bl false, .str "always", .str "never"], []⟩, ⟨fun K => (He.ma K (He.ga K "Keeper") "settings"), "settings", "Keeper.settings", s_Keeper_settings, [], []⟩, ⟨fun K => (He.ma K (He.ga K "Keeper") "but"), "but", "Keeper.but", s_Keeper_but, [], []⟩, ⟨fun K => (He.ma K (He.ga K "Keeper") "__str__"), "__str__", "Keeper.__str__", s_Keeper___str__, [], []⟩, ⟨fun K => (He.ma K (He.ga K "Keeper") "__eq__"), "__eq__", "Keeper.__eq__", s_Keeper___eq__, [], []⟩, ⟨fun K => (He.ga K "_law_deal"), "_law_deal", "_law_deal", s__law_deal, [], []⟩, ⟨fun K => (He.ga K "_law_draw"), "_law_draw", "_law_draw", s__law_draw, [], []⟩, ⟨fun K => (He.ga K "_law_pick"), "_law_pick", "_law_pick", s__law_pick, [], []⟩, ⟨fun K => (He.ga K "_law_thing"), "_law_thing", "_law_thing", s__law_thing, [], []⟩, ⟨fun K => (He.ga K "_law_names"), "_law_names", "_law_names", s__law_names, [], []⟩, ⟨fun K => (He.ga K "_law_words"), "_law_words", "_law_words", s__law_words, [], []⟩, ⟨fun K => (He.ga K "_law_passing"), "_law_passing", "_law_passing", s__law_passing, [], []⟩, ⟨fun K => (He.ga K "_law_settings"), "_law_settings", "_law_settings", s__law_settings, [], []⟩, ⟨fun K => (He.ga K "_law_made"), "_law_made", "_law_made", s__law_made, [], []⟩] : List DH.Df) ++ ([⟨fun K => (He.ga K "_law_kept"), "_law_kept", "_law_kept", s__law_kept, [], []⟩, ⟨fun K => (He.ga K "_law_but"), "_law_but", "_law_but", s__law_but, [], []⟩, ⟨fun K => (He.ga K "_law_is_from"), "_law_is_from", "_law_is_from", s__law_is_from, [], []⟩, ⟨fun K => (He.ga K "_law_is_fine"), "_law_is_fine", "_law_is_fine", s__law_is_fine, [], []⟩, ⟨fun K => (He.ga K "_law_first_wrong"), "_law_first_wrong", "_law_first_wrong", s__law_first_wrong, [], []⟩, ⟨fun K => (He.ga K "_law_heard"), "_law_heard", "_law_heard", s__law_heard, [], []⟩, ⟨fun K => (He.ga K "law"), "law", "law", s_law, [], []⟩, ⟨fun K => (He.ma K (He.ga K "InvalidKeeper") "__init__"), "__init__", "InvalidKeeper.__init__", s_InvalidKeeper, [], ["__class__"]⟩] : List DH.Df)
def TA : List DH.Tab := ([(fun K => (He.ga K "WORDS"), (["counts", "marks", "moves", "cut", "marked", "held"] : List Str))] : List DH.Tab)
end MyH
namespace MyH
open PySem PySem.W PySem.Calls PyProof.Rows
abbrev RowL : OpenRow := OpenLaw.row PySem.Challenge.rw_frostmarks_k06_keepers_refused
def LA : List Addr := mainGlobals :: (([24, 23, 207, 46, 67, 206, 45, 66, 96, 103, 110, 131, 138, 145, 160, 154, 177, 184, 203, 198, 222, 229, 236, 248, 255, 262, 269, 276, 283, 290, 297, 304, 311, 318, 325, 332, 42, 31, 2, 97] : List Addr) ++ ([104, 111, 132, 139, 146, 161, 178, 185, 204, 199, 223, 230, 237, 249, 256, 263, 270, 277, 284, 291, 298, 305, 312, 319, 326, 333, 43, 117, 118, 119, 120, 121, 122, 123, 124] : List Addr))
def loose : List PySem.Str := (["FrostError", "InvalidKeeper", "InvalidLoad", "InvalidText", "FIGURES", "DIGITS", "is_integer", "is_from", "is_one_of", "number_in", "NAMES", "WORDS", "ANSWERS", "is_setting", "first_wrong", "word_of", "Keeper", "value_in", "_law_deal", "_law_draw"] : List PySem.Str) ++ (["_law_pick", "_law_mixed", "_law_thing", "_law_names", "_law_words", "_law_passing", "_law_settings", "_law_made", "_law_kept", "_law_but", "_law_is_from", "_law_is_fine", "_law_first_wrong", "_law_heard"] : List PySem.Str)
def TF : List He.Defn := [("law", none)]
def obL (s : SharedT) : DH.AlT := DH.obsT LA FA DA TA TF (HandSHeadRun.getT s)
abbrev RunE (w : World) : Prop := HandSHeadRun.RunEq RowL (view RowL.prog [38]) (DH.hookT LA FA DA TA TF) obL 40000 loose w
theorem runF (w : World) : RunE (w.withFollow "special-get-raises" false) := fun os => by kernel_rfl
theorem runT (w : World) : RunE (w.withFollow "special-get-raises" true) := fun os => by kernel_rfl
theorem runL (w : World) : RunE w := byRow2 "special-get-raises" (P := RunE) runF runT w
end MyH

/-! A layer of my own over the hand layer: values as data (Dv), things that change as a list (WS); readings without addresses. -/
namespace DL
open PySem L2

section
variable {K : PySem.W.Frag} {N N' N2 : Av} {H H' H2 : Hp}
theorem HasL.get' : ∀ {vs : List V} {ds : List Dv} {i : Nat} {v : V}, HasL K N H vs ds → vs[i]? = some v → ∃ d, ds[i]? = some d ∧ Has K N H v d
  | _, _, _, _, .nil, e => by simp at e
  | _, _, 0, _, .cons h _, e => by simp at e; subst e; exact ⟨_, rfl, h⟩
  | _, _, i + 1, _, .cons _ t, e => by
    obtain ⟨v, h1, h2⟩ := HasL.get' (i := i) t (by simpa using e)
    exact ⟨v, by simpa using h1, h2⟩
theorem HasL.reverse : ∀ {vs : List V} {ds : List Dv}, HasL K N H vs ds → HasL K N H vs.reverse ds.reverse
  | _, _, .nil => .nil
  | _, _, .cons h t => by
    rw [List.reverse_cons, List.reverse_cons]
    exact (HasL.reverse t).append (.cons h .nil)
end

/-! ### things that change -/
section
variable {K : PySem.W.Frag} {z ow ow' ow2 : Av} {As As' As2 : List (List Addr)} {H H' H2 : Hp}
theorem HasVL.ofL : ∀ {vs : List V} {ds : List Dv}, HasL K (bad z As) H vs ds → HasVL K z As H vs (ds.map Sv.d)
  | _, _, .nil => .nil
  | _, _, .cons h t => .cons (.d h) (HasVL.ofL t)
theorem HasVL.toL : ∀ {ds : List Dv} {vs : List V}, HasVL K z As H vs (ds.map Sv.d) → HasL K (bad z As) H vs ds
  | [], _, h => by cases h; exact .nil
  | d :: ds, _, h => by
    cases h with
    | cons a b =>
      cases a with
      | d a => exact .cons a (HasVL.toL b)
end

section
variable {K : PySem.W.Frag} {z z' ow ow' : Av} {As As' : List (List Addr)} {W W' : WS} {H H' : Hp}
theorem Wld.fresh {p : Addr} (w : Wld K z As W H) (h : H p = none) : ¬ bad z As p := fun q => by
  rcases q with q | q
  · exact w.trk p q h
  · exact w.zok.trk p q h
/-- new footprints: all of l was free ahead, H' keeps what was -/
theorem Ext.grow {l : List Addr} (k : ∀ b o, H b = some o → H' b = some o) (f : ∀ a, a ∈ l → H a = none) : ExtS As ow H (As ++ [l]) ow H' :=
  ⟨fun b o e n m => ⟨k b o e, ⟨fun q => (fp_app.mp q).elim n fun q => absurd ((f b q).symm.trans e) (fun x => by cases x), m⟩⟩,
   fun j l' q => (List.getElem?_append_left (List.getElem?_eq_some_iff.mp q).1).trans q,
   fun a q => by
    cases r : H a with
    | none => exact absurd r q
    | some o => rw [k a o r]; exact fun x => by cases x⟩
theorem Wld.grow {l : List Addr} {o : WObj} (w : Wld K z As W H) (k : ∀ b o, H b = some o → H' b = some o) (f : ∀ a, a ∈ l → H a = none) (t : ∀ a, a ∈ l → H' a ≠ none) (r : WRep K z (As ++ [l]) H' l o) : Wld K z (As ++ [l]) (W ++ [o]) H' := by
  have e : Ext As H (As ++ [l]) H' := Ext.grow k f
  refine ⟨by rw [List.length_append, List.length_append, w.len] <;> rfl, fun j l' u h1 h2 => ?_, fun a q => ?_, fun i j l1 l2 a h1 h2 q1 q2 => ?_, w.zok.ext e⟩
  · by_cases hj : j < As.length
    · rw [List.getElem?_append_left hj] at h1
      rw [List.getElem?_append_left (by rw [← w.len]; exact hj)] at h2
      refine (w.rep j l' u h1 h2).ext e fun a q => ?_
      cases r : H a with
      | none => exact absurd r (w.trk a ⟨l', List.mem_of_getElem? h1, q⟩)
      | some u' => exact k a u' r
    · have hj' : j = As.length := by
        have q := (List.getElem?_eq_some_iff.mp h1).1
        rw [List.length_append, List.length_singleton] at q
        omega
      subst hj'
      rw [List.getElem?_concat_length] at h1
      rw [w.len, List.getElem?_concat_length] at h2
      cases h1
      cases h2
      exact r
  · rcases fp_app.mp q with q | q
    · exact e.up a (w.trk a q)
    · exact t a q
  · have side : ∀ {i : Nat} {l1 : List Addr}, (As ++ [l])[i]? = some l1 → As[i]? = some l1 ∨ (i = As.length ∧ l1 = l) := by
      intro i l1 h
      by_cases hi : i < As.length
      · rw [List.getElem?_append_left hi] at h
        exact .inl h
      · have q := (List.getElem?_eq_some_iff.mp h).1
        rw [List.length_append, List.length_singleton] at q
        have hi' : i = As.length := by omega
        subst hi'
        rw [List.getElem?_concat_length] at h
        cases h
        exact .inr ⟨rfl, rfl⟩
    rcases side h1 with g1 | ⟨e1, e1'⟩ <;> rcases side h2 with g2 | ⟨e2, e2'⟩
    · exact w.dis i j l1 l2 a g1 g2 q1 q2
    · subst e2'
      exact absurd (f a q2) (w.trk a ⟨l1, List.mem_of_getElem? g1, q1⟩)
    · subst e1'
      exact absurd (f a q1) (w.trk a ⟨l2, List.mem_of_getElem? g2, q2⟩)
    · rw [e1, e2]
/-- the thing at j is changed, nothing else -/
theorem Ext.turn {l : List Addr} {j : Nat} (hj : As[j]? = some l) (k : ∀ b, b ∉ l → H' b = H b) (t : ∀ a, a ∈ l → H' a ≠ none) : ExtS As ow H As ow H' :=
  ⟨fun b o e n m => ⟨by rw [k b fun q => n ⟨l, List.mem_of_getElem? hj, q⟩]; exact e, n, m⟩, fun _ _ q => q, fun a q => by
    by_cases m : a ∈ l
    · exact t a m
    · rw [k a m]; exact q⟩
theorem Wld.turn {l : List Addr} {j : Nat} {o : WObj} (w : Wld K z As W H) (hj : As[j]? = some l) (k : ∀ b, b ∉ l → H' b = H b) (t : ∀ a, a ∈ l → H' a ≠ none) (r : WRep K z As H' l o) : Wld K z As (W.set j o) H' := by
  have e : Ext As H As H' := Ext.turn hj k t
  refine ⟨by rw [List.length_set]; exact w.len, fun i l' u h1 h2 => ?_, fun a q => e.up a (w.trk a q), w.dis, w.zok.ext e⟩
  by_cases q : j = i
  · subst q
    rw [hj] at h1
    cases h1
    rw [List.getElem?_set] at h2
    simp only [if_true] at h2
    split at h2
    · cases h2
      exact r
    · cases h2
  · rw [List.getElem?_set_ne q] at h2
    exact (w.rep i l' u h1 h2).ext e fun a m => k a fun m' => q (w.dis j i l l' a hj h1 m' m)
end

/-! ### slots -/
section
variable {K : PySem.W.Frag} {z : Av} {O : Nat → Option Addr} {As As' : List (List Addr)} {σd : DS} {W W' : WS} {σ : St} {H H' : Hp}
end
end DL

namespace DL
open PySem L2

def TBok (K : PySem.W.Frag) (t : TE) (w : WB) : Prop := ∀ {z : Av} {O : Nat → Option Addr} {As : List (List Addr)} {σd : DS} {W : WS} {σ : St} {H : Hp} (Φ : Dv → WS → Prop) (Q : VK), Rep K z O As σd W σ H → w σd W Φ →
  (∀ v H' x As' W', Ext As H As' H' → Wld K (zo z (owOf O)) As' W' H' → HasB K (zo z (owOf O)) As' H' v x → Φ x W' → Q v H') → t σ H Q
def TTok (K : PySem.W.Frag) (t : TT) (w : WT) : Prop := ∀ {z : Av} {O : Nat → Option Addr} {As : List (List Addr)} {σd : DS} {W : WS} {σ : St} {H : Hp} (Φ : Bool → WS → Prop) (Q : Bool → Hp → Prop), Rep K z O As σd W σ H → w σd W Φ →
  (∀ b H' As' W', Ext As H As' H' → Wld K (zo z (owOf O)) As' W' H' → Φ b W' → Q b H') → t σ H Q
def TAok (K : PySem.W.Frag) (t : TA) (w : WA) : Prop := ∀ {z : Av} {O : Nat → Option Addr} {As : List (List Addr)} {σd : DS} {W : WS} {σ : St} {H : Hp} (Φ : List Sv → WS → Prop) (Q : List V → Hp → Prop), Rep K z O As σd W σ H → w σd W Φ →
  (∀ vs H' xs As' W', Ext As H As' H' → Wld K (zo z (owOf O)) As' W' H' → HasVL K (zo z (owOf O)) As' H' vs xs → Φ xs W' → Q vs H') → t σ H Q
def TABok (K : PySem.W.Frag) (t : TA) (w : WAB) : Prop := ∀ {z : Av} {O : Nat → Option Addr} {As : List (List Addr)} {σd : DS} {W : WS} {σ : St} {H : Hp} (Φ : List Dv → WS → Prop) (Q : List V → Hp → Prop), Rep K z O As σd W σ H → w σd W Φ →
  (∀ vs H' xs As' W', Ext As H As' H' → Wld K (zo z (owOf O)) As' W' H' → HasBL K (zo z (owOf O)) As' H' vs xs → Φ xs W' → Q vs H') → t σ H Q
structure PB (X : Cx) (e : Expr) (t : TE) (w : WB) : Prop where
  pe : PE X e t
  ok : TBok X.K t w
structure PTD (X : Cx) (e : Expr) (t : TT) (w : WT) : Prop where
  pt : PT X e t
  ok : TTok X.K t w
structure PWD (X : Cx) (e : Expr) (t : TT) (w : WT) : Prop where
  pw : L2.PW X e t
  ok : TTok X.K t w
structure PAD (X : Cx) (es : List Expr) (t : TA) (w : WA) : Prop where
  pa : PA X es t
  ok : TAok X.K t w
structure PAB (X : Cx) (es : List Expr) (t : TA) (w : WAB) : Prop where
  pa : PA X es t
  ok : TABok X.K t w
structure PDS (X : Cx) (s : Stmt) (t : TS) (w : WSt) : Prop where
  ps : PS X s t
  ok : TSok X.K t w
structure PDSs (X : Cx) (s : List Stmt) (t : TS) (w : WSt) : Prop where
  ps : PSs X s t
  ok : TSok X.K t w

section
variable {K : PySem.W.Frag} {z : Av} {O : Nat → Option Addr} {As As' : List (List Addr)} {σd : DS} {W W' : WS} {σ : St} {H H' : Hp} {ow ow' : Av}
end

/-! ### slots, constants -/
abbrev wVarB (i : Nat) : WB := fun σd W Φ => match slot σd i with
  | some (.v (.d x)) => Φ x W
  | some (.own xs) => Φ (.lst xs) W
  | some (.ownD ks ds) => Φ (.dic ks ds) W
  | _ => False
abbrev wC (x : Dv) : WE := fun _ W Φ => Φ (.d x) W
abbrev rdD : Sv → WS → (Dv → WS → Prop) → Prop := fun x W Φ => match x with
  | .d x => Φ x W
  | .box _ => False
abbrev wBof (w : WE) : WB := fun σd W Φ => w σd W fun x W' => rdD x W' Φ

section
variable {K : PySem.W.Frag}
theorem tbo_var {i : Nat} : TBok K (tVar i) (wVarB i) := by
  intro z O As σd W σ H Φ Q r h q
  unfold wVarB at h
  split at h
  · rename_i x e
    obtain ⟨v, h1, _, h2⟩ := r.sl i _ (slot_at e)
    cases h2 with
    | d h2 => exact ⟨v, h1, q v H x As W ExtS.refl r.wld (.inl h2) h⟩
  · rename_i xs e
    obtain ⟨v, h1, a, vs, ho, hv, g1, g2⟩ := r.sl i _ (slot_at e)
    exact ⟨v, h1, q v H _ As W ExtS.refl r.wld (.inr (.inl ⟨a, vs, xs, hv, rfl, .inr ⟨i, ho⟩, g1, g2⟩)) h⟩
  · rename_i ks ds e
    obtain ⟨v, h1, a, vs, ho, hv, g1, g2, g3⟩ := r.sl i _ (slot_at e)
    exact ⟨v, h1, q v H _ As W ExtS.refl r.wld (.inr (.inr ⟨a, ks, vs, ds, hv, rfl, .inr ⟨i, ho⟩, g1, g2, g3⟩)) h⟩
  · exact h.elim
theorem teo_c {v : V} {x : Dv} (h : ∀ N H, Has K N H v x) : TEok K (tC v) (wC x) := by
  intro z O As σd W σ H Φ Q r g q
  exact q v H _ As W ExtS.refl r.wld (.d (h _ _)) g
theorem tbo_of {t : TE} {w : WE} (h : TEok K t w) : TBok K t (wBof w) := by
  intro z O As σd W σ H Φ Q r g q
  refine h (fun x W' => rdD x W' Φ) Q r g fun v H' x As' W' e wl hv p => ?_
  cases x with
  | d x =>
    cases hv with
    | d hv => exact q v H' x As' W' e wl (.inl hv) p
  | box j => exact p.elim
end
section
variable {X : Cx}
theorem bv (i : Nat) {x : Str} {pos : Pos} (hN : X.N[i]? = some x := by rfl) (hv : Vis X.env.scope x := by first | exact Or.inl rfl | exact Or.inr (Or.inl rfl) | exact Or.inr (Or.inr rfl)) (hd : (x == ("__debug__" : Str)) = false := by decide)
    (hcd : (x == ("__classdict__" : Str)) = false := by decide) : PB X (.Name x pos) (tVar i) (wVarB i) := ⟨pe_var hN hv hd hcd, tbo_var⟩
theorem d_int {i : Int} {j : Nat} {pos : Pos} : PD X (.Constant (.int i) j pos) (tC (.int i)) (wC (.int i)) := ⟨pe_int, teo_c fun _ _ => .int i⟩
theorem d_bl {i : Bool} {j : Nat} {pos : Pos} : PD X (.Constant (.bool i) j pos) (tC (.bl i)) (wC (.bl i)) := ⟨pe_bl, teo_c fun _ _ => .bl i⟩
theorem d_str {i : Str} {j : Nat} {pos : Pos} : PD X (.Constant (.str i) j pos) (tC (.str i)) (wC (.str i)) := ⟨pe_str, teo_c fun _ _ => .str i⟩
theorem d_non {j : Nat} {pos : Pos} : PD X (.Constant .none j pos) (tC .non) (wC .non) := ⟨pe_non, teo_c fun _ _ => .non⟩
theorem bb {e : Expr} {t : TE} {w : WE} (h : PD X e t w) : PB X e t (wBof w) := ⟨h.pe, tbo_of h.ok⟩
end

/-! ### operators -/
abbrev RD2 := Dv → Dv → WS → (Sv → WS → Prop) → Prop
def OpD (K : PySem.W.Frag) (r : R2) (rd : RD2) : Prop := ∀ {z : Av} {As : List (List Addr)} {W : WS} {H : Hp} {x y : V} {dx dy : Dv} (Φ : Sv → WS → Prop) (Q : VK), Wld K z As W H → HasB K z As H x dx → HasB K z As H y dy → rd dx dy W Φ → Nx K z As H Φ Q → r x y H Q
abbrev wOp (rd : RD2) (wa wb : WB) : WE := fun σd W Φ => wa σd W fun x W1 => wb σd W1 fun y W2 => rd x y W2 Φ
theorem teo_op {K : PySem.W.Frag} {r : R2} {rd : RD2} {ta tb : TE} {wa wb : WB} (ho : OpD K r rd) (ha : TBok K ta wa) (hb : TBok K tb wb) : TEok K (tOp r ta tb) (wOp rd wa wb) := by
  intro z O As σd W σ H Φ Q r1 h q
  refine ha _ _ r1 h fun v H1 x As1 W1 e1 wl1 hx p1 => ?_
  refine hb _ _ (r1.ext e1 wl1) p1 fun u H2 y As2 W2 e2 wl2 hy p2 => ?_
  exact ho Φ Q wl2 (hx.ext wl1.zok e2) hy p2 fun v' H' x' As' W' e3 wl3 hv p3 => q v' H' x' As' W' ((e1.trans e2).trans e3) wl3 hv p3
/-- ints -/
abbrev rdI (C : Int → Int → Prop) (g : Int → Int → Dv) : RD2 := fun x y W Φ => match x, y with
  | .int i, .int j => C i j ∧ Φ (.d (g i j)) W
  | _, _ => False
abbrev rdI0 (g : Int → Int → Dv) : RD2 := fun x y W Φ => match x, y with
  | .int i, .int j => Φ (.d (g i j)) W
  | _, _ => False
section
variable {K : PySem.W.Frag}
theorem od_I {C : Int → Int → Prop} {g : Int → Int → V} {gd : Int → Int → Dv} (hg : ∀ i j N H, Has K N H (g i j) (gd i j)) : OpD K (rI C g) (rdI C gd) := by
  intro z As W H x y dx dy Φ Q w hx hy h q
  unfold rdI at h
  split at h
  · obtain ⟨hc, h⟩ := h
    exact ⟨_, _, hx.int, hy.int, hc, q _ H _ As W ExtS.refl w (.d (hg _ _ _ _)) h⟩
  · exact h.elim
theorem od_I0 {g : Int → Int → V} {gd : Int → Int → Dv} (hg : ∀ i j N H, Has K N H (g i j) (gd i j)) : OpD K (rI0 g) (rdI0 gd) := by
  intro z As W H x y dx dy Φ Q w hx hy h q
  unfold rdI0 at h
  split at h
  · exact ⟨_, _, hx.int, hy.int, q _ H _ As W ExtS.refl w (.d (hg _ _ _ _)) h⟩
  · exact h.elim
/-- ==, != of plain things -/
def eqS : Dv → Dv → Option Bool := fun x y => match x, y with
  | .int i, .int j => some (decide (i = j))
  | .bl i, .bl j => some (decide (i = j))
  | .str i, .str j => some (decide (i = j))
  | .non, .non => some true
  | .non, .int _ => some false | .int _, .non => some false | .non, .bl _ => some false | .bl _, .non => some false
  | .non, .str _ => some false | .str _, .non => some false | .int _, .str _ => some false | .str _, .int _ => some false
  | .bl _, .str _ => some false | .str _, .bl _ => some false
  | _, _ => none
abbrev rdEq (f : Bool → Bool) : RD2 := fun x y W Φ => match eqS x y with
  | some b => Φ (.d (.bl (f b))) W
  | none => False
theorem eqS_of {z : Av} {As : List (List Addr)} {H : Hp} {x y : V} {dx dy : Dv} {b : Bool} (hx : HasB K z As H x dx) (hy : HasB K z As H y dy) (h : eqS dx dy = some b) : scal x y = true ∧ decide (x = y) = b := by
  unfold eqS at h
  split at h
  all_goals first
    | (cases h; rw [hx.int, hy.int]; exact ⟨rfl, by simp⟩)
    | (cases h; rw [hx.bl, hy.bl]; exact ⟨rfl, by simp⟩)
    | (cases h; rw [hx.str, hy.str]; exact ⟨rfl, by simp⟩)
    | (cases h; rw [hx.non, hy.non]; exact ⟨rfl, by simp⟩)
    | (cases h; rw [hx.non, hy.int]; exact ⟨rfl, by simp⟩)
    | (cases h; rw [hx.int, hy.non]; exact ⟨rfl, by simp⟩)
    | (cases h; rw [hx.non, hy.bl]; exact ⟨rfl, by simp⟩)
    | (cases h; rw [hx.bl, hy.non]; exact ⟨rfl, by simp⟩)
    | (cases h; rw [hx.non, hy.str]; exact ⟨rfl, by simp⟩)
    | (cases h; rw [hx.str, hy.non]; exact ⟨rfl, by simp⟩)
    | (cases h; rw [hx.int, hy.str]; exact ⟨rfl, by simp⟩)
    | (cases h; rw [hx.str, hy.int]; exact ⟨rfl, by simp⟩)
    | (cases h; rw [hx.bl, hy.str]; exact ⟨rfl, by simp⟩)
    | (cases h; rw [hx.str, hy.bl]; exact ⟨rfl, by simp⟩)
    | cases h
theorem od_eq : OpD K rEq (rdEq id) := by
  intro z As W H x y dx dy Φ Q w hx hy h q
  unfold rdEq at h
  split at h
  · rename_i b e
    obtain ⟨s, d⟩ := eqS_of hx hy e
    exact ⟨s, by rw [d]; exact q _ H _ As W ExtS.refl w (.d (.bl _)) h⟩
  · exact h.elim
theorem od_ne : OpD K rNe (rdEq not) := by
  intro z As W H x y dx dy Φ Q w hx hy h q
  unfold rdEq at h
  split at h
  · rename_i b e
    obtain ⟨s, d⟩ := eqS_of hx hy e
    exact ⟨s, by rw [d]; exact q _ H _ As W ExtS.refl w (.d (.bl _)) h⟩
  · exact h.elim
abbrev rdIsN (f : Bool → Bool) : RD2 := fun x y W Φ => match y with
  | .non => (match x with
    | .raw _ => False
    | x => Φ (.d (.bl (f (isN x)))) W)
  | _ => False
theorem isN_of {N : Av} {H : Hp} {x : V} {dx : Dv} (hx : Has K N H x dx) (hr : ∀ v, dx ≠ .raw v) : decide (x = .non) = isN dx := by
  cases hx <;> first | rfl | exact absurd rfl (hr _)
theorem isN_ofB {z : Av} {As : List (List Addr)} {H : Hp} {x : V} {dx : Dv} (hx : HasB K z As H x dx) (hr : ∀ v, dx ≠ .raw v) : decide (x = .non) = isN dx := by
  rcases hx with h | ⟨_, _, _, rfl, rfl, _⟩ | ⟨_, _, _, _, rfl, rfl, _⟩
  · exact isN_of h hr
  · rfl
  · rfl
theorem od_isN : OpD K (fun x y H Q => y = .non ∧ Q (.bl (decide (x = .non))) H) (rdIsN id) := by
  intro z As W H x y dx dy Φ Q w hx hy h q
  unfold rdIsN at h
  split at h
  · split at h
    · exact h.elim
    · rename_i hr
      exact ⟨hy.non, by rw [isN_ofB hx hr]; exact q _ H _ As W ExtS.refl w (.d (.bl _)) h⟩
  · exact h.elim
theorem od_notN : OpD K (fun x y H Q => y = .non ∧ Q (.bl (!decide (x = .non))) H) (rdIsN not) := by
  intro z As W H x y dx dy Φ Q w hx hy h q
  unfold rdIsN at h
  split at h
  · split at h
    · exact h.elim
    · rename_i hr
      exact ⟨hy.non, by rw [isN_ofB hx hr]; exact q _ H _ As W ExtS.refl w (.d (.bl _)) h⟩
  · exact h.elim
/-- items -/
def rdIxL : RD2 := fun x y W Φ => match x, y with
  | .lst xs, .int i => (match L2.atI xs i with
    | some d => Φ (.d d) W
    | none => False)
  | _, _ => False
theorem HasL.atI {N : Av} {H : Hp} {vs : List V} {xs : List Dv} {i : Int} {d : Dv} (h : HasL K N H vs xs) (e : L2.atI xs i = some d) : ∃ v, L2.atI vs i = some v ∧ Has K N H v d := by
  unfold L2.atI at e ⊢
  rw [h.length]
  cases r : ixN xs.length i with
  | none => rw [r] at e; cases e
  | some j =>
    rw [r] at e
    exact h.get e
theorem od_ixL : OpD K (rIxL K) rdIxL := by
  intro z As W H x y dx dy Φ Q w hx hy h q
  unfold rdIxL at h
  split at h
  · split at h
    · rename_i d e
      obtain ⟨a, vs, rfl, s, l⟩ := hx.lst
      obtain ⟨v, e1, hv⟩ := l.atI e
      exact ⟨a, vs, _, v, rfl, hy.int, s, e1, q v H _ As W ExtS.refl w (.d hv) h⟩
    · exact h.elim
  · exact h.elim
end
section
variable {X : Cx} {a b e : Expr} {ta tb te : TE} {wa wb : WB} {pos : Pos}
theorem d_op {op : Operator} {r : R2} {rd : RD2} (ho : OpR X (binaryOp op) r) (hd : OpD X.K r rd) (ha : PB X a ta wa) (hb : PB X b tb wb) : PD X (.BinOp a op b pos) (tOp r ta tb) (wOp rd wa wb) := ⟨pe_op ho ha.pe hb.pe, teo_op hd ha.ok hb.ok⟩
theorem d_cmp {op : CmpOp} {r : R2} {rd : RD2} (ho : OpR X (compareOp op) r) (hd : OpD X.K r rd) (ha : PB X a ta wa) (hb : PB X b tb wb) (hm : behindInMarks op b = false) : PD X (.Compare a [op] [b] pos) (tOp r ta tb) (wOp rd wa wb) := ⟨pe_cmpR ho ha.pe hb.pe hm, teo_op hd ha.ok hb.ok⟩
theorem d_ix {r : R2} {rd : RD2} (ho : IxR X r) (hd : OpD X.K r rd) (ha : PB X a ta wa) (hb : PB X b tb wb) (hs : PlainIx b) : PD X (.Subscript a b pos) (tOp r ta tb) (wOp rd wa wb) := ⟨pe_ix ho ha.pe hb.pe hs, teo_op hd ha.ok hb.ok⟩
end

/-! ### tests -/
abbrev wB (w : WE) : WT := fun σd W Φ => w σd W fun x W' => match x with
  | .d (.bl b) => Φ b W'
  | _ => False
abbrev wAnd (a b : WT) : WT := fun σd W Φ => a σd W fun c W1 => if c = true then b σd W1 Φ else Φ false W1
abbrev wOr (a b : WT) : WT := fun σd W Φ => a σd W fun c W1 => if c = true then Φ true W1 else b σd W1 Φ
abbrev wNot (a : WT) : WT := fun σd W Φ => a σd W fun c W1 => Φ (!c) W1
abbrev wIf (t : WT) (a b : WE) : WE := fun σd W Φ => t σd W fun c W1 => if c = true then a σd W1 Φ else b σd W1 Φ
abbrev wAndV (a b : WE) : WE := fun σd W Φ => a σd W fun x W1 => match x with
  | .d (.bl c) => if c = true then b σd W1 Φ else Φ (.d (.bl false)) W1
  | _ => False
abbrev wOrV (a b : WE) : WE := fun σd W Φ => a σd W fun x W1 => match x with
  | .d (.bl c) => if c = true then Φ (.d (.bl true)) W1 else b σd W1 Φ
  | _ => False
abbrev wNotV (a : WE) : WE := fun σd W Φ => a σd W fun x W1 => match x with
  | .d (.bl c) => Φ (.d (.bl (!c))) W1
  | _ => False
section
variable {K : PySem.W.Frag} {ta tb te : TE} {wa wb we : WE} {tt tu : TT} {wt wu : WT}
theorem tto_B (h : TEok K te we) : TTok K (tB te) (wB we) := by
  intro z O As σd W σ H Φ Q r g q
  refine h _ _ r g fun v H' x As' W' e wl hv p => ?_
  split at p
  · exact ⟨_, hv.bl, q _ H' As' W' e wl p⟩
  · exact p.elim
theorem tto_test (h : TEok K te we) : TTok K (tTest te) (wB we) := tto_B h
theorem tto_and (h : TTok K tt wt) (h2 : TTok K tu wu) : TTok K (tAnd tt tu) (wAnd wt wu) := by
  intro z O As σd W σ H Φ Q r g q
  refine h _ _ r g fun b H1 As1 W1 e wl p => ?_
  cases b with
  | true =>
    rw [if_pos rfl] at p ⊢
    exact h2 _ _ (r.ext e wl) p fun b H' As' W' e2 wl2 p2 => q b H' As' W' (e.trans e2) wl2 p2
  | false =>
    rw [if_neg Bool.false_ne_true] at p ⊢
    exact q false H1 As1 W1 e wl p
theorem tto_or (h : TTok K tt wt) (h2 : TTok K tu wu) : TTok K (tOr tt tu) (wOr wt wu) := by
  intro z O As σd W σ H Φ Q r g q
  refine h _ _ r g fun b H1 As1 W1 e wl p => ?_
  cases b with
  | false =>
    rw [if_neg Bool.false_ne_true] at p ⊢
    exact h2 _ _ (r.ext e wl) p fun b H' As' W' e2 wl2 p2 => q b H' As' W' (e.trans e2) wl2 p2
  | true =>
    rw [if_pos rfl] at p ⊢
    exact q true H1 As1 W1 e wl p
theorem tto_not (h : TTok K tt wt) : TTok K (tNot tt) (wNot wt) := by
  intro z O As σd W σ H Φ Q r g q
  exact h _ _ r g fun b H1 As1 W1 e wl p => q (!b) H1 As1 W1 e wl p
theorem teo_if (h : TTok K tt wt) (ha : TEok K ta wa) (hb : TEok K tb wb) : TEok K (tIf tt ta tb) (wIf wt wa wb) := by
  intro z O As σd W σ H Φ Q r g q
  refine h _ _ r g fun b H1 As1 W1 e wl p => ?_
  cases b with
  | true =>
    rw [if_pos rfl] at p ⊢
    exact ha _ _ (r.ext e wl) p fun b H' x As' W' e2 wl2 p2 => q b H' x As' W' (e.trans e2) wl2 p2
  | false =>
    rw [if_neg Bool.false_ne_true] at p ⊢
    exact hb _ _ (r.ext e wl) p fun b H' x As' W' e2 wl2 p2 => q b H' x As' W' (e.trans e2) wl2 p2
theorem teo_andV (ha : TEok K ta wa) (hb : TEok K tb wb) : TEok K (tAndV ta tb) (wAndV wa wb) := by
  intro z O As σd W σ H Φ Q r g q
  refine ha _ _ r g fun v H1 x As1 W1 e wl hv p => ?_
  split at p
  · rename_i c
    refine ⟨c, hv.bl, ?_⟩
    cases c with
    | true =>
      rw [if_pos rfl] at p ⊢
      exact hb _ _ (r.ext e wl) p fun b H' x As' W' e2 wl2 p2 => q b H' x As' W' (e.trans e2) wl2 p2
    | false =>
      rw [if_neg Bool.false_ne_true] at p ⊢
      exact q _ H1 _ As1 W1 e wl (.d (.bl _)) p
  · exact p.elim
theorem teo_orV (ha : TEok K ta wa) (hb : TEok K tb wb) : TEok K (tOrV ta tb) (wOrV wa wb) := by
  intro z O As σd W σ H Φ Q r g q
  refine ha _ _ r g fun v H1 x As1 W1 e wl hv p => ?_
  split at p
  · rename_i c
    refine ⟨c, hv.bl, ?_⟩
    cases c with
    | false =>
      rw [if_neg Bool.false_ne_true] at p ⊢
      exact hb _ _ (r.ext e wl) p fun b H' x As' W' e2 wl2 p2 => q b H' x As' W' (e.trans e2) wl2 p2
    | true =>
      rw [if_pos rfl] at p ⊢
      exact q _ H1 _ As1 W1 e wl (.d (.bl _)) p
  · exact p.elim
theorem teo_notV (ha : TEok K ta wa) : TEok K (tNotV ta) (wNotV wa) := by
  intro z O As σd W σ H Φ Q r g q
  refine ha _ _ r g fun v H1 x As1 W1 e wl hv p => ?_
  split at p
  · rename_i c
    exact ⟨c, hv.bl, q _ H1 _ As1 W1 e wl (.d (.bl _)) p⟩
  · exact p.elim
end
section
variable {X : Cx} {a b c e : Expr} {ta tb te : TE} {wa wb we : WE} {tt tu : TT} {wt wu : WT} {pos : Pos} {rest : List Expr}
theorem t_cmp {op : CmpOp} {r : R2} {rd : RD2} {wa wb : WB} (ho : OpR X (compareOp op) r) (hd : OpD X.K r rd) (ha : PB X a ta wa) (hb : PB X b tb wb) (hm : behindInMarks op b = false) : PTD X (.Compare a [op] [b] pos) (tTest (tOp r ta tb)) (wB (wOp rd wa wb)) := ⟨pt_cmpR ho ha.pe hb.pe hm, tto_test (teo_op hd ha.ok hb.ok)⟩
theorem t_val (h : PD X e te we) (he : ∀ whole, isTrue e X.env whole = (do let v ← whole; standAt e.pos; holding [v] (truthy v)) := by intro _; rfl) : PTD X e (tB te) (wB we) := ⟨pt_val h.pe he, tto_B h.ok⟩
theorem t_not (h : PTD X e tt wt) : PTD X (.UnaryOp .Not e pos) (tNot tt) (wNot wt) := ⟨pt_not h.pt, tto_not h.ok⟩
theorem p_and1 (h : PTD X a tt wt) : PWD X (.BoolOp .And [a] pos) tt wt := ⟨pw_and1 h.pt, h.ok⟩
theorem p_or1 (h : PTD X a tt wt) : PWD X (.BoolOp .Or [a] pos) tt wt := ⟨pw_or1 h.pt, h.ok⟩
theorem p_and (h : PTD X a tt wt) (h2 : PWD X (.BoolOp .And (b :: rest) pos) tu wu) : PWD X (.BoolOp .And (a :: b :: rest) pos) (tAnd tt tu) (wAnd wt wu) := ⟨pw_and h.pt h2.pw, tto_and h.ok h2.ok⟩
theorem p_or (h : PTD X a tt wt) (h2 : PWD X (.BoolOp .Or (b :: rest) pos) tu wu) : PWD X (.BoolOp .Or (a :: b :: rest) pos) (tOr tt tu) (wOr wt wu) := ⟨pw_or h.pt h2.pw, tto_or h.ok h2.ok⟩
theorem t_bo (h : PWD X e tt wt) : PTD X e tt wt := ⟨h.pw.pt, h.ok⟩
theorem d_one {op : BoolOp} (h : PD X a ta wa) : PD X (.BoolOp op [a] pos) ta wa := ⟨pe_one h.pe, h.ok⟩
theorem d_and (ha : PD X a ta wa) (hb : PD X (.BoolOp .And (b :: rest) pos) tb wb) : PD X (.BoolOp .And (a :: b :: rest) pos) (tAndV ta tb) (wAndV wa wb) := ⟨pe_and ha.pe hb.pe, teo_andV ha.ok hb.ok⟩
theorem d_or (ha : PD X a ta wa) (hb : PD X (.BoolOp .Or (b :: rest) pos) tb wb) : PD X (.BoolOp .Or (a :: b :: rest) pos) (tOrV ta tb) (wOrV wa wb) := ⟨pe_or ha.pe hb.pe, teo_orV ha.ok hb.ok⟩
theorem d_not (ha : PD X a ta wa) : PD X (.UnaryOp .Not a pos) (tNotV ta) (wNotV wa) := ⟨pe_not ha.pe, teo_notV ha.ok⟩
theorem d_if (hc : PTD X c tt wt) (ha : PD X a ta wa) (hb : PD X b tb wb) : PD X (.IfExp c a b pos) (tIf tt ta tb) (wIf wt wa wb) := ⟨pe_ifExp hc.pt ha.pe hb.pe, teo_if hc.ok ha.ok hb.ok⟩
end

/-! ### arguments, displays -/
abbrev wNil : WA := fun _ W Φ => Φ [] W
abbrev wCons (wa : WE) (wr : WA) : WA := fun σd W Φ => wa σd W fun x W1 => wr σd W1 fun xs W2 => Φ (x :: xs) W2
abbrev wNilB : WAB := fun _ W Φ => Φ [] W
abbrev wConsB (wa : WB) (wr : WAB) : WAB := fun σd W Φ => wa σd W fun x W1 => wr σd W1 fun xs W2 => Φ (x :: xs) W2
/-- all of them data -/
def allD : List Sv → Option (List Dv)
  | [] => some []
  | .d x :: r => (allD r).map (x :: ·)
  | .box _ :: _ => none
theorem allD_eq : ∀ {xs : List Sv} {ds : List Dv}, allD xs = some ds → xs = ds.map Sv.d
  | [], _, h => by cases h; rfl
  | .d x :: r, _, h => by
    unfold allD at h
    cases q : allD r with
    | none => rw [q] at h; cases h
    | some ds =>
      rw [q] at h
      cases h
      rw [List.map_cons, ← allD_eq q]
  | .box _ :: _, _, h => by cases h
abbrev wTup (wa : WA) : WE := fun σd W Φ => wa σd W fun xs W1 => match allD xs with
  | some ds => ds.length ≤ 1000000 ∧ Φ (.d (.tup ds)) W1
  | none => False
abbrev wLst (wa : WA) : WF := fun σd W Φ => wa σd W fun xs W1 => match allD xs with
  | some ds => ds.length ≤ 1000000 ∧ Φ ds W1
  | none => False
/-- a new list as data -/
abbrev wFr (w : WF) : WE := fun σd W Φ => w σd W fun xs W1 => Φ (.d (.lst xs)) W1
section
variable {K : PySem.W.Frag} {ta : TE} {wa : WE} {tr : TA} {wr : WA}
theorem tao_nil : TAok K tNil wNil := fun Φ Q r h q => q [] _ [] _ _ ExtS.refl r.wld .nil h
theorem tao_cons (ha : TEok K ta wa) (hr : TAok K tr wr) : TAok K (tCons ta tr) (wCons wa wr) := by
  intro z O As σd W σ H Φ Q r g q
  refine ha _ _ r g fun v H1 x As1 W1 e wl hv p => ?_
  refine hr _ _ (r.ext e wl) p fun vs H2 xs As2 W2 e2 wl2 hvs p2 => ?_
  exact q _ H2 _ As2 W2 (e.trans e2) wl2 (.cons (hv.ext e2) hvs) p2
theorem tabo_nil : TABok K tNil wNilB := fun Φ Q r h q => q [] _ [] _ _ ExtS.refl r.wld .nil h
theorem tabo_cons {wa : WB} {wr : WAB} (ha : TBok K ta wa) (hr : TABok K tr wr) : TABok K (tCons ta tr) (wConsB wa wr) := by
  intro z O As σd W σ H Φ Q r g q
  refine ha _ _ r g fun v H1 x As1 W1 e wl hv p => ?_
  refine hr _ _ (r.ext e wl) p fun vs H2 xs As2 W2 e2 wl2 hvs p2 => ?_
  exact q _ H2 _ As2 W2 (e.trans e2) wl2 (.cons (hv.ext wl.zok e2) hvs) p2
theorem teo_tup (hr : TAok K tr wr) : TEok K (tTup tr) (wTup wr) := by
  intro z O As σd W σ H Φ Q r g q
  refine hr _ _ r g fun vs H1 xs As1 W1 e wl hvs p => ?_
  split at p
  · rename_i ds hd
    obtain rfl := allD_eq hd
    have hl := hvs.toL
    refine ⟨by rw [hl.length]; exact line_of p.1, fun t ht => ?_⟩
    exact q _ _ _ As1 W1 (e.trans (Ext.new ht)) (wl.new ht) (.d (.tup (.inl ⟨wl.fresh ht, .inl upd_same⟩) (hl.mv (Ext.mv (Ext.new ht))))) p.2
  · exact p.elim
theorem zk1 {z : Av} {As : List (List Addr)} {W : WS} {H : Hp} {p : Addr} {o : HO} (w : Wld K z As W H) (h : H p = none) : Wld K (z1 z p) As W (upd H p o) := by
  have e : Ext As H As (upd H p o) := Ext.new h
  have w' := w.new (o := o) h
  have mv : Mv (bad z As) H (bad (z1 z p) As) (upd H p o) := fun b u hb n => by
    refine ⟨(e.keep b u hb (fun f => n (.inl f)) fun f => f).1, fun q => ?_⟩
    rcases q with q | q | q
    · exact n (.inl q)
    · exact n (.inr q)
    · subst q
      rw [h] at hb
      cases hb
  have hv : ∀ {v : V} {x : Sv}, HasV K z As H v x → HasV K (z1 z p) As (upd H p o) v x := fun q => by
    cases q with
    | d q => exact .d (q.mv mv)
    | box q => exact .box q
  have hvl : ∀ {vs : List V} {xs : List Sv}, HasVL K z As H vs xs → HasVL K (z1 z p) As (upd H p o) vs xs := by
    intro vs xs q
    induction q with
    | nil => exact .nil
    | cons a _ ih => exact .cons (hv a) ih
  refine ⟨w'.len, fun j l u h1 h2 => ?_, w'.trk, w'.dis, ⟨fun a q => ?_, fun a q => ?_⟩⟩
  · have ne : ∀ a, a ∈ l → upd H p o a = H a := fun a m => upd_ne fun e' => by
      subst e'
      exact w.trk a ⟨l, List.mem_of_getElem? h1, m⟩ h
    have old := w.rep j l u h1 h2
    cases u with
    | lst xs =>
      obtain ⟨a, vs, rfl, q, r⟩ := old
      exact ⟨a, vs, rfl, by rw [ne a (List.Mem.head _)]; exact q, hvl r⟩
    | ins C ks ds =>
      obtain ⟨a, dx, vs, rfl, q, r, n⟩ := old
      exact ⟨a, dx, vs, rfl, by rw [ne a (List.Mem.head _)]; exact q, hvl r, n⟩
    | dic ks ds =>
      obtain ⟨a, vs, rfl, q, r, n⟩ := old
      exact ⟨a, vs, rfl, by rw [ne a (List.Mem.head _)]; exact q, hvl r, n⟩
    | obj k => exact k.st l H _ ne old
    | lck o_ vs_ ks ds =>
      obtain ⟨a, rfl, q, r, n⟩ := old
      exact ⟨a, rfl, by rw [ne a (List.Mem.head _)]; exact q, hvl r, n⟩
    | tupV xs =>
      obtain ⟨a, vs, rfl, q, r⟩ := old
      exact ⟨a, vs, rfl, by rw [ne a (List.Mem.head _)]; exact q, hvl r⟩
    | tab P q =>
      obtain ⟨rfl, old⟩ := old
      exact ⟨rfl, old.mv mv (ne P (List.Mem.head _))⟩
    | gone => trivial
  · rcases q with q | q
    · exact e.up a (w.zok.trk a q)
    · subst q
      rw [upd_same]
      exact fun x => by cases x
  · rcases q with q | q
    · exact w.zok.out a q
    · subst q
      exact fun f => w.trk a f h
theorem mv1 {z : Av} {As : List (List Addr)} {H : Hp} {p : Addr} {o : HO} (h : H p = none) : Mv (bad z As) H (bad (z1 z p) As) (upd H p o) := fun b u hb n => by
  refine ⟨by rw [upd_ne (ne_of_none hb h)]; exact hb, fun q => ?_⟩
  rcases q with q | q | q
  · exact n (.inl q)
  · exact n (.inr q)
  · subst q
    rw [h] at hb
    cases hb
theorem tfo_lst (hr : TAok K tr wr) : TFok K (tLst tr) (wLst wr) := by
  intro z O As σd W σ H Φ Q r g q
  refine hr _ _ r g fun vs H1 xs As1 W1 e wl hvs p => ?_
  split at p
  · rename_i ds hd
    obtain rfl := allD_eq hd
    have hl := hvs.toL
    refine ⟨by rw [hl.length]; exact line_of p.1, fun t ht => ?_⟩
    have h0 : H t = none := by
      cases k : H t with
      | none => rfl
      | some o => exact absurd ht (e.up t (by rw [k]; exact fun x => by cases x))
    exact q t _ vs ds As1 W1 h0 (e.trans (Ext.new ht)) (zk1 wl ht) upd_same (hl.mv (mv1 ht)) p.2
  · exact p.elim
/-- a new list as data -/
theorem teo_fr {t : TE} {w : WF} (h : TFok K t w) : TEok K t (wFr w) := by
  intro z O As σd W σ H Φ Q r g q
  refine h _ _ r g fun p H' vs xs As' W' hp e wl hl hx p2 => ?_
  have wk : ∀ a, zo z (owOf O) a → z1 (zo z (owOf O)) p a := fun a x => .inl x
  refine q (.ref p) H' _ As' W' e (wl.weak wk) (.d (.lst (.inl ⟨fun b => ?_, .inl hl⟩) (hx.mv (Mv.weak fun a b => b.imp id (wk a))))) p2
  rcases b with b | b
  · exact wl.zok.out p (.inr rfl) b
  · exact r.wld.zok.trk p b hp
end
section
variable {X : Cx} {e : Expr} {es : List Expr} {ta : TE} {wa : WE} {tr : TA} {wr : WA} {pos : Pos}
theorem a_nil : PAD X [] tNil wNil := ⟨pa_nil, tao_nil⟩
theorem a_cons (h : PD X e ta wa) (hr : PAD X es tr wr) (hs : starEach (e :: es) X.env = (false, eval e X.env) :: starEach es X.env := by rfl) : PAD X (e :: es) (tCons ta tr) (wCons wa wr) := ⟨pa_cons h.pe hr.pa hs, tao_cons h.ok hr.ok⟩
theorem b_nil : PAB X [] tNil wNilB := ⟨pa_nil, tabo_nil⟩
theorem b_cons {wa : WB} {wr : WAB} (h : PB X e ta wa) (hr : PAB X es tr wr) (hs : starEach (e :: es) X.env = (false, eval e X.env) :: starEach es X.env := by rfl) : PAB X (e :: es) (tCons ta tr) (wConsB wa wr) := ⟨pa_cons h.pe hr.pa hs, tabo_cons h.ok hr.ok⟩
theorem d_tup {x1 : _} (h : PAD X es tr wr) : PD X (.Tuple es x1 pos) (tTup tr) (wTup wr) := ⟨pe_tup h.pa, teo_tup h.ok⟩
theorem f_lst (h : PAD X es tr wr) : PF X (.List es pos) (tLst tr) (wLst wr) := ⟨pe_lst h.pa, tfo_lst h.ok⟩
theorem d_fr {t : TE} {w : WF} (h : PF X e t w) : PD X e t (wFr w) := ⟨h.pe, teo_fr h.ok⟩
end
end DL

namespace DL
open PySem L2

/-! ### built-in functions -/
def CallD (K : PySem.W.Frag) (r : List V → Hp → VK → Prop) (rc : RDC) : Prop := ∀ {z : Av} {As : List (List Addr)} {W : WS} {H : Hp} {vs : List V} {ds : List Dv} (Φ : Sv → WS → Prop) (Q : VK), Wld K z As W H → HasBL K z As H vs ds → rc ds W Φ → Nx K z As H Φ Q → r vs H Q
/-- a new list comes out -/
def CallF (K : PySem.W.Frag) (r : List V → Hp → VK → Prop) (rc : RDF) : Prop := ∀ {z : Av} {As : List (List Addr)} {W : WS} {H : Hp} {vs : List V} {ds : List Dv} (Φ : List Dv → WS → Prop) (Q : VK), Wld K z As W H → HasBL K z As H vs ds → rc ds W Φ →
  (∀ p H' vs xs As' W', H p = none → Ext As H As' H' → Wld K (z1 z p) As' W' H' → H' p = some (.lst vs) → HasL K (bad (z1 z p) As') H' vs xs → Φ xs W' → Q (.ref p) H') → r vs H Q
abbrev wCB (rc : RDC) (wa : WAB) : WE := fun σd W Φ => wa σd W fun ds W1 => rc ds W1 Φ
abbrev wCF (rc : RDF) (wa : WAB) : WF := fun σd W Φ => wa σd W fun ds W1 => rc ds W1 Φ
section
variable {K : PySem.W.Frag} {ta : TA} {wa : WAB}
theorem teo_cb {r : List V → Hp → VK → Prop} {rc : RDC} (hc : CallD K r rc) (ha : TABok K ta wa) : TEok K (tCB r ta) (wCB rc wa) := by
  intro z O As σd W σ H Φ Q r1 g q
  refine ha _ _ r1 g fun vs H1 ds As1 W1 e wl hv p => ?_
  exact hc Φ Q wl hv p fun v H' x As' W' e2 wl2 hv2 p2 => q v H' x As' W' (e.trans e2) wl2 hv2 p2
theorem tfo_cb {r : List V → Hp → VK → Prop} {rc : RDF} (hc : CallF K r rc) (ha : TABok K ta wa) : TFok K (tCB r ta) (wCF rc wa) := by
  intro z O As σd W σ H Φ Q r1 g q
  refine ha _ _ r1 g fun vs H1 ds As1 W1 e wl hv p => ?_
  exact hc Φ Q wl hv p fun p H' vs xs As' W' hp e2 wl2 h1 h2 p2 => q p H' vs xs As' W' (up_none e hp) (e.trans e2) wl2 h1 h2 p2
abbrev rcLen : RDC := fun ds W Φ => match ds with
  | [.lst xs] => Φ (.d (.int xs.length)) W
  | [.tup xs] => Φ (.d (.int xs.length)) W
  | [.str s] => s.length ≤ 1000000 ∧ Φ (.d (.int s.length)) W
  | _ => False
theorem cd_len : CallD K (fun xs H Q => ∃ x n, xs = [x] ∧ LenV K x H n ∧ Q (.int n) H) rcLen := by
  intro z As W H vs ds Φ Q wl hv h q
  unfold rcLen at h
  split at h
  · obtain ⟨v, rfl, h1⟩ := hv.one
    obtain ⟨a, us, rfl, s, l⟩ := h1.lst
    exact ⟨_, us.length, rfl, .inl ⟨us, s, rfl⟩, q _ H _ As W ExtS.refl wl (.d (by rw [l.length]; exact .int _)) h⟩
  · obtain ⟨v, rfl, h1⟩ := hv.one
    obtain ⟨a, us, rfl, s, l⟩ := h1.tup
    exact ⟨_, us.length, rfl, .inr ⟨us, s, rfl⟩, q _ H _ As W ExtS.refl wl (.d (by rw [l.length]; exact .int _)) h⟩
  · obtain ⟨v, rfl, h1⟩ := hv.one
    obtain rfl := h1.str
    exact ⟨_, _, rfl, ⟨line_of h.1, rfl⟩, q _ H _ As W ExtS.refl wl (.d (.int _)) h.2⟩
  · exact h.elim
abbrev rcInt : RDC := fun ds W Φ => match ds with
  | [.int i] => Φ (.d (.int i)) W
  | [.bl b] => Φ (.d (.int (if b then 1 else 0))) W
  | _ => False
theorem cd_int : CallD K (fun xs H Q => (∃ i, xs = [.int i] ∧ Q (.int i) H) ∨ ∃ k, xs = [.bl k] ∧ Q (.int (if k then 1 else 0)) H) rcInt := by
  intro z As W H vs ds Φ Q wl hv h q
  unfold rcInt at h
  split at h
  · obtain ⟨v, rfl, h1⟩ := hv.one
    obtain rfl := h1.int
    exact .inl ⟨_, rfl, q _ H _ As W ExtS.refl wl (.d (.int _)) h⟩
  · obtain ⟨v, rfl, h1⟩ := hv.one
    obtain rfl := h1.bl
    exact .inr ⟨_, rfl, q _ H _ As W ExtS.refl wl (.d (.int _)) h⟩
  · exact h.elim
abbrev rcAbs : RDC := fun ds W Φ => match ds with
  | [.int i] => Φ (.d (.int (if i < 0 then -i else i))) W
  | _ => False
theorem cd_abs : CallD K (fun xs H Q => ∃ i, xs = [.int i] ∧ Q (.int (if i < 0 then -i else i)) H) rcAbs := by
  intro z As W H vs ds Φ Q wl hv h q
  unfold rcAbs at h
  split at h
  · obtain ⟨v, rfl, h1⟩ := hv.one
    obtain rfl := h1.int
    exact ⟨_, rfl, q _ H _ As W ExtS.refl wl (.d (.int _)) h⟩
  · exact h.elim
abbrev rcI2 (g : Int → Int → Int) : RDC := fun ds W Φ => match ds with
  | [.int i, .int j] => Φ (.d (.int (g i j))) W
  | _ => False
def mx (i j : Int) : Int := if j > i then j else i
def mn (i j : Int) : Int := if j < i then j else i
theorem cd_max2 : CallD K (fun xs H Q => ∃ i j, xs = [.int i, .int j] ∧ Q (.int (if j > i then j else i)) H) (rcI2 mx) := by
  intro z As W H vs ds Φ Q wl hv h q
  unfold rcI2 at h
  split at h
  · obtain ⟨v, u, rfl, h1, h2⟩ := hv.two
    obtain rfl := h1.int
    obtain rfl := h2.int
    exact ⟨_, _, rfl, q _ H _ As W ExtS.refl wl (.d (.int _)) h⟩
  · exact h.elim
theorem cd_min2 : CallD K (fun xs H Q => ∃ i j, xs = [.int i, .int j] ∧ Q (.int (if j < i then j else i)) H) (rcI2 mn) := by
  intro z As W H vs ds Φ Q wl hv h q
  unfold rcI2 at h
  split at h
  · obtain ⟨v, u, rfl, h1, h2⟩ := hv.two
    obtain rfl := h1.int
    obtain rfl := h2.int
    exact ⟨_, _, rfl, q _ H _ As W ExtS.refl wl (.d (.int _)) h⟩
  · exact h.elim
/-- list(..) -/
def rcList : RDF := fun ds W Φ => match ds with
  | [.lst xs] => Φ xs W
  | [.tup xs] => Φ xs W
  | _ => False
theorem cf_list : CallF K (fun xs H Q => ∃ p ys, xs = [.ref p] ∧ (SqL K H p ys ∨ SqT K H p ys) ∧ ∀ l, H l = none → Q (.ref l) (upd H l (.lst ys))) rcList := by
  intro z As W H vs ds Φ Q wl hv h q
  unfold rcList at h
  split at h
  · obtain ⟨v, rfl, h1⟩ := hv.one
    obtain ⟨a, us, rfl, s, l⟩ := h1.lst
    exact ⟨a, us, rfl, .inl s, fun t ht => q t _ us _ As W ht (Ext.new ht) (zk1 wl ht) upd_same (l.mv (mv1 ht)) h⟩
  · obtain ⟨v, rfl, h1⟩ := hv.one
    obtain ⟨a, us, rfl, s, l⟩ := h1.tup
    exact ⟨a, us, rfl, .inr s, fun t ht => q t _ us _ As W ht (Ext.new ht) (zk1 wl ht) upd_same (l.mv (mv1 ht)) h⟩
  · exact h.elim
end
section
variable {X : Cx} {x : Str} {p pos : Pos} {e : Expr} {es : List Expr} {t : TA} {wa : WAB} {r : List V → Hp → VK → Prop} {rc : RDC} {rf : RDF}
theorem d_callB {id : String} (hc : CallR X (.builtin id) r) (hd : CallD X.K r rc) (hg : Gl X x) (hm : X.mg x = none) (hv : bootBuiltins x = some (.builtin id)) (ha : PAB X (e :: es) t wa) (hn : x ≠ "__name__" := by decide) (hdb : (x == ("__debug__" : Str)) = false := by decide)
    (he : starEach (e :: es) X.env = (false, eval e X.env) :: starEach es X.env := by rfl) (hpl : (backTo pos (starEach es X.env)).any (·.1) = false := by rfl) : PD X (.Call (.Name x p) (e :: es) [] pos) (tCB r t) (wCB rc wa) := ⟨pe_callB hc hg hm hv ha.pa hn hdb he hpl, teo_cb hd ha.ok⟩
theorem d_callTy {T : String} (hc : CallR X (.type T) r) (hd : CallD X.K r rc) (hg : Gl X x) (hm : X.mg x = none) (hv : bootBuiltins x = some (.type T)) (ha : PAB X (e :: es) t wa) (hn : x ≠ "__name__" := by decide) (hdb : (x == ("__debug__" : Str)) = false := by decide)
    (he : starEach (e :: es) X.env = (false, eval e X.env) :: starEach es X.env := by rfl) (hpl : (backTo pos (starEach es X.env)).any (·.1) = false := by rfl) : PD X (.Call (.Name x p) (e :: es) [] pos) (tCB r t) (wCB rc wa) := ⟨pe_callTy hc hg hm hv ha.pa hn hdb he hpl, teo_cb hd ha.ok⟩
theorem f_callTy {T : String} (hc : CallR X (.type T) r) (hd : CallF X.K r rf) (hg : Gl X x) (hm : X.mg x = none) (hv : bootBuiltins x = some (.type T)) (ha : PAB X (e :: es) t wa) (hn : x ≠ "__name__" := by decide) (hdb : (x == ("__debug__" : Str)) = false := by decide)
    (he : starEach (e :: es) X.env = (false, eval e X.env) :: starEach es X.env := by rfl) (hpl : (backTo pos (starEach es X.env)).any (·.1) = false := by rfl) : PF X (.Call (.Name x p) (e :: es) [] pos) (tCB r t) (wCF rf wa) := ⟨pe_callTy hc hg hm hv ha.pa hn hdb he hpl, tfo_cb hd ha.ok⟩
/-- a name of the module -/
theorem d_glob {u : Value} {v : V} {x' : Dv} (hg : Gl X x) (hm : X.mg x = some u) (r : RelV v u) (h : ∀ N H, Has X.K N H v x') (hdb : (x == ("__debug__" : Str)) = false := by decide) : PD X (.Name x pos) (tC v) (wC x') := ⟨pe_glob hg hm r hdb, teo_c h⟩
theorem d_bltn {u : Value} {v : V} (hg : Gl X x) (hm : X.mg x = none) (hv : bootBuiltins x = some u) (r : RelV v u) (hn : x ≠ "__name__" := by decide) (hdb : (x == ("__debug__" : Str)) = false := by decide) : PD X (.Name x pos) (tC v) (wC (.raw v)) := ⟨pe_bltn hg hm hv r hn hdb, teo_c fun _ _ => .raw v⟩
end

/-! ### own defs: a promise told in data -/
def spD (K : PySem.W.Frag) (wf : WFn) : Sp := fun vs H Q _ => ∃ (z : Av) (As : List (List Addr)) (W : WS) (xs : List Sv) (Φ : Sv → WS → Prop), Wld K z As W H ∧ HasVL K z As H vs xs ∧ wf xs W Φ ∧ Nx K z As H Φ Q
abbrev wCall (wf : WFn) (dd : List Dv) (wa : WA) : WE := fun σd W Φ => wa σd W fun xs W1 => wf (xs ++ dd.map Sv.d) W1 Φ
theorem teo_call {K : PySem.W.Frag} {wf : WFn} {dvs : List V} {dd : List Dv} {E : XK} {ta : TA} {wa : WA} (hd : Cn K dvs dd) (ha : TAok K ta wa) : TEok K (tCall (spD K wf) dvs E ta) (wCall wf dd wa) := by
  intro z O As σd W σ H Φ Q r g q
  refine ha _ _ r g fun vs H1 xs As1 W1 e wl hv p => ?_
  exact ⟨_, As1, W1, _, Φ, wl, hv.append (.ofL (hd _ _)), p, fun v H' x As' W' e2 wl2 hv2 p2 => q v H' x As' W' (e.trans e2) wl2 hv2 p2⟩
section
variable {X : Cx} {x : Str} {p pos : Pos} {e : Expr} {es : List Expr} {t : TA} {wa : WA} {wf : WFn} {f : Addr} {fd : FuncData} {ps : List Str} {k : Nat} {ds : List Value} {dvs : List V} {dd : List Dv}
theorem d_call (F : FnOk X.prog X.w X.K X.mg X.base CX0 k f fd ps (spD X.K wf)) (hr : Room k X.A) (hg : Gl X x) (hm : X.mg x = some (.ref f)) (hk : PySem.W.keepIn X.K (.ref f) = true) (hb : Binds X.K fd ps ds) (hd : Vals dvs ds) (hc : Cn X.K dvs dd)
    (ha : PAD X (e :: es) t wa) (hdb : (x == ("__debug__" : Str)) = false := by decide) (he : starEach (e :: es) X.env = (false, eval e X.env) :: starEach es X.env := by rfl) (hpl : (backTo pos (starEach es X.env)).any (·.1) = false := by rfl) :
    PD X (.Call (.Name x p) (e :: es) [] pos) (tCall (spD X.K wf) dvs E0 t) (wCall wf dd wa) := ⟨pe_call F hr hg hm hk hb hd pass0 ha.pa hdb he hpl, teo_call hc ha.ok⟩
theorem d_call0 (F : FnOk X.prog X.w X.K X.mg X.base CX0 k f fd ps (spD X.K wf)) (hr : Room k X.A) (hg : Gl X x) (hm : X.mg x = some (.ref f)) (hk : PySem.W.keepIn X.K (.ref f) = true) (hb : Binds X.K fd ps ds) (hd : Vals dvs ds) (hc : Cn X.K dvs dd)
    (hdb : (x == ("__debug__" : Str)) = false := by decide) : PD X (.Call (.Name x p) [] [] pos) (tCall (spD X.K wf) dvs E0 tNil) (wCall wf dd wNil) := ⟨pe_call0 F hr hg hm hk hb hd pass0 hdb, teo_call hc tao_nil⟩
end

def finD (Φ : Sv → WS → Prop) : DEnds := { nx := fun _ W => Φ (.d .non) W, rt := Φ }
def startD (N : List Str) (xs : List Sv) : DS := xs.map (fun x => some (.v x)) ++ List.replicate (N.length - xs.length) none
theorem rep_start {K : PySem.W.Frag} {z : Av} {As : List (List Addr)} {W : WS} {H : Hp} {N : List Str} {vs : List V} {xs : List Sv} (wl : Wld K z As W H) (hv : HasVL K z As H vs xs) : Rep K z (fun _ => none) As (startD N xs) W (L2.start N vs) H := by
  have zw : ∀ a, zo z (owOf fun _ => none) a → z a := fun a q => by
    rcases q with q | ⟨i, q⟩
    · exact q
    · cases q
  have hl := hv.length
  refine ⟨wl.weak zw, by unfold startD L2.start; simp [hl], fun i d e => ?_, fun i a q => (by cases q), fun i j a q => (by cases q), fun i a q => (by cases q)⟩
  unfold startD at e
  unfold L2.start
  by_cases hi : i < xs.length
  · rw [List.getElem?_append_left (by simpa using hi), List.getElem?_map] at e
    cases r : xs[i]? with
    | none => rw [r] at e; cases e
    | some x =>
      rw [r] at e
      cases e
      obtain ⟨v, h1, h2⟩ := hv.get r
      refine ⟨v, ?_, rfl, h2.weak zw⟩
      rw [List.getElem?_append_left (by simpa [hl] using hi), List.getElem?_map, h1]
      rfl
  · rw [List.getElem?_append_right (by simpa using Nat.le_of_not_lt hi), List.getElem?_replicate] at e
    split at e <;> cases e
section
variable {P : Program} {w : World} {K : PySem.W.Frag} {mg : Str → Option Value} {base : Heap}
theorem okD {x qual : Str} {st : Stmt} {f : Addr} {fd : FuncData} {N ps : List Str} {k : Nat} {wf : WFn} (F : Fun K x qual st f fd) (S : FnScope N ps (defScope st)) (hl : ∀ xs W Φ, wf xs W Φ → xs.length = ps.length)
    (body : ∀ (cdv : Value) (A : Around) (outer : List Env) (s : Shared) (H : Hp) (E : XK), Room k (A.deeper (PyProof.Rows.envOfC qual (defScope st) s.heap.objs.size f cdv)) →
      ∃ t wb, PDSs (cxOf CX0 P w K mg base N qual (defScope st) f cdv A outer s H E).nox (defBody st) t wb ∧ ∀ xs W Φ, wf xs W Φ → wb (finD Φ) (startD N xs) W) : FnOk P w K mg base CX0 (k + 1) f fd ps (spD K wf) := by
  refine F.ok S (fun vs H Q E h => ?_) (fun cdv A outer s H vs Q E hr h => ?_)
  · obtain ⟨z, As, W, xs, Φ, wl, hv, h, _⟩ := h
    rw [hv.length]
    exact hl _ _ _ h
  · obtain ⟨z, As, W, xs, Φ, wl, hv, h, q⟩ := h
    obtain ⟨t, wb, hp, hw⟩ := body cdv A outer s H E hr
    refine ⟨t, hp.ps, hp.ok _ _ (rep_start wl hv) (hw xs W Φ h) ?_⟩
    have ow : ∀ {As' : List (List Addr)} {ow' : Av} {H' : Hp}, ExtS As (owOf fun _ => none) H As' ow' H' → Ext As H As' H' := fun e =>
      ⟨fun b o h1 n1 _ => ⟨(e.keep b o h1 n1 fun ⟨i, q⟩ => by cases q).1, (e.keep b o h1 n1 fun ⟨i, q⟩ => by cases q).2.1, fun f => f⟩, e.at_, e.up⟩
    refine ⟨fun σd' W' O' As' σ' H' e r p => ?_, fun v x W' ow' As' H' e wl' hv' p => q v H' x As' W' (ow e) wl' hv' p, fun _ _ _ _ _ _ _ _ p => p.elim, fun _ _ _ _ _ _ _ _ p => p.elim⟩
    exact q .non H' (.d .non) As' W' (ow e) (r.wld.weak fun a q => .inl q) (.d .non) p
end

/-! ### statements -/
abbrev wSet (w : WE) (i : Nat) : WSt := fun Dd σd W => w σd W fun x W' => Dd.nx (σd.set i (some (.v x))) W'
abbrev wRet (w : WE) : WSt := fun Dd σd W => w σd W Dd.rt
abbrev wDrop (w : WE) : WSt := fun Dd σd W => w σd W fun _ W' => Dd.nx σd W'
def wSeq (a b : WSt) : WSt := fun Dd σd W => a { Dd with nx := b Dd } σd W
abbrev wNext : WSt := fun Dd σd W => Dd.nx σd W
def wIfS (t : WT) (a b : WSt) : WSt := fun Dd σd W => t σd W fun c W1 => if c = true then a Dd σd W1 else b Dd σd W1
def noO (O : Nat → Option Addr) (i : Nat) : Nat → Option Addr := fun j => if j = i then none else O j
section
variable {K : PySem.W.Frag} {z : Av} {O : Nat → Option Addr} {As As' : List (List Addr)} {σd : DS} {W W' : WS} {σ : St} {H H' : Hp}
theorem noO_sub {i : Nat} {a : Addr} (h : owOf (noO O i) a) : owOf O a := by
  obtain ⟨j, h⟩ := h
  unfold noO at h
  split at h
  · cases h
  · exact ⟨j, h⟩
theorem zo_sub {i : Nat} {a : Addr} (h : zo z (owOf (noO O i)) a) : zo z (owOf O) a := h.imp id noO_sub
theorem Rep.setV (r : Rep K z O As σd W σ H) (i : Nat) {v : V} {x : Sv} (h : HasV K (zo z (owOf O)) As H v x) : Rep K z (noO O i) As (σd.set i (some (.v x))) W (σ.set i (some v)) H := by
  refine ⟨r.wld.weak fun a => zo_sub, by rw [List.length_set, List.length_set]; exact r.len, fun j d e => ?_, fun j a q => ?_, fun j k a q1 q2 => ?_, fun j a q => ?_⟩
  · by_cases q : i = j
    · subst q
      rw [List.getElem?_set] at e ⊢
      simp only [if_true] at e ⊢
      by_cases l : i < σd.length
      · rw [if_pos l] at e
        rw [r.len, if_pos l]
        cases e
        exact ⟨v, rfl, by unfold noO; rw [if_pos rfl], h.weak fun a => zo_sub⟩
      · rw [if_neg l] at e
        cases e
    · rw [List.getElem?_set_ne q] at e ⊢
      obtain ⟨v', h1, h2⟩ := r.sl j d e
      refine ⟨v', h1, ?_⟩
      have : noO O i j = O j := by unfold noO; rw [if_neg (fun x => q x.symm)]
      rw [this]
      exact h2.weak fun a => zo_sub
  · unfold noO at q
    split at q
    · cases q
    · exact r.out j a q
  · unfold noO at q1 q2
    split at q1
    · cases q1
    · split at q2
      · cases q2
      · exact r.inj j k a q1 q2
  · unfold noO at q
    split at q
    · cases q
    · rename_i hj
      rw [List.getElem?_set_ne (fun x => hj x.symm)]
      exact r.oo j a q
theorem ext_noO {i : Nat} : ExtS As (owOf O) H As (owOf (noO O i)) H := ⟨fun b o h n m => ⟨h, n, fun q => m (noO_sub q)⟩, fun _ _ h => h, fun _ h => h⟩
/-- a new own list in slot i -/
def setO (O : Nat → Option Addr) (i : Nat) (p : Addr) : Nat → Option Addr := fun j => if j = i then some p else O j
theorem setO_sub {i : Nat} {p a : Addr} (h : owOf (setO O i p) a) : owOf (noO O i) a ∨ a = p := by
  obtain ⟨j, h⟩ := h
  unfold setO at h
  split at h
  · cases h
    exact .inr rfl
  · rename_i q
    exact .inl ⟨j, by unfold noO; rw [if_neg q]; exact h⟩
theorem Rep.setOwn (r : Rep K z O As σd W σ H) (i : Nat) {p : Addr} {vs : List V} {xs : List Dv} (hp : H p = none) (e : Ext As H As' H') (wl : Wld K (z1 (zo z (owOf O)) p) As' W' H') (hl : H' p = some (.lst vs)) (hx : HasL K (bad (z1 (zo z (owOf O)) p) As') H' vs xs) (hi : i < σd.length) :
    Rep K z (setO O i p) As' (σd.set i (some (.own xs))) W' (σ.set i (some (.ref p))) H' := by
  have sub : ∀ a, zo z (owOf (setO O i p)) a → z1 (zo z (owOf O)) p a := fun a q => by
    rcases q with q | q
    · exact .inl (.inl q)
    · rcases setO_sub q with q | q
      · exact .inl (.inr (noO_sub q))
      · exact .inr q
  have mv : Mv (bad (zo z (owOf O)) As) H (bad (z1 (zo z (owOf O)) p) As') H' := fun b o hb n => by
    obtain ⟨h1, h2, _⟩ := e.keep b o hb (fun f => n (.inl f)) fun f => f
    refine ⟨h1, fun q => ?_⟩
    rcases q with q | q | q
    · exact h2 q
    · exact n (.inr q)
    · subst q
      rw [hp] at hb
      cases hb
  refine ⟨wl.weak sub, by rw [List.length_set, List.length_set]; exact r.len, fun j d ej => ?_, fun j a q => ?_, fun j k a q1 q2 => ?_, fun j a q => ?_⟩
  · by_cases q : i = j
    · subst q
      rw [List.getElem?_set] at ej ⊢
      simp only [if_true] at ej ⊢
      by_cases l : i < σd.length
      · rw [if_pos l] at ej
        rw [r.len, if_pos l]
        cases ej
        exact ⟨_, rfl, p, vs, by unfold setO; rw [if_pos rfl], rfl, hl, hx.mv (Mv.weak fun a b => b.imp id (sub a))⟩
      · rw [if_neg l] at ej
        cases ej
    · rw [List.getElem?_set_ne q] at ej ⊢
      obtain ⟨v', h1, h2⟩ := r.sl j d ej
      refine ⟨v', h1, ?_⟩
      have ho : setO O i p j = O j := by unfold setO; rw [if_neg (fun x => q x.symm)]
      rw [ho]
      have st : ∀ a, O j = some a → H' a = H a := fun a ha => by
        have q : zo z (owOf O) a := .inr ⟨j, ha⟩
        cases t : H a with
        | none => exact absurd t (r.wld.zok.trk a q)
        | some o => exact (e.keep a o t (r.wld.zok.out a q) fun f => f).1
      cases d with
      | v x =>
        obtain ⟨g1, g2⟩ := h2
        refine ⟨g1, ?_⟩
        cases g2 with
        | d g2 => exact .d ((g2.mv mv).mv (Mv.weak fun a b => b.imp id (sub a)))
        | box g2 => exact .box (e.at_ _ _ g2)
      | own ys =>
        obtain ⟨a, us, g1, g2, g3, g4⟩ := h2
        exact ⟨a, us, g1, g2, by rw [st a g1]; exact g3, (g4.mv mv).mv (Mv.weak fun a b => b.imp id (sub a))⟩
      | ownD ks ds =>
        obtain ⟨a, us, g1, g2, g3, g4, g5⟩ := h2
        exact ⟨a, us, g1, g2, by rw [st a g1]; exact g3, (g4.mv mv).mv (Mv.weak fun a b => b.imp id (sub a)), g5⟩
  · unfold setO at q
    split at q
    · cases q
      exact fun q2 => r.wld.zok.trk _ (.inl q2) hp
    · exact r.out j a q
  · have old : ∀ m, O m = some p → False := fun m hm => r.wld.zok.trk p (.inr ⟨m, hm⟩) hp
    unfold setO at q1 q2
    split at q1
    · rename_i hj
      cases q1
      split at q2
      · rename_i hk
        rw [hj, hk]
      · exact (old k q2).elim
    · split at q2
      · cases q2
        exact (old j q1).elim
      · exact r.inj j k a q1 q2
  · unfold setO at q
    split at q
    · rename_i hj
      subst hj
      exact ⟨.own xs, by rw [List.getElem?_set_self hi], rfl⟩
    · rename_i hj
      rw [List.getElem?_set_ne (fun x => hj x.symm)]
      exact r.oo j a q
theorem ext_setO {i : Nat} {p : Addr} (hp : H p = none) (e : Ext As H As' H') : ExtS As (owOf O) H As' (owOf (setO O i p)) H' :=
  ⟨fun b o h n m => ⟨(e.keep b o h n fun f => f).1, (e.keep b o h n fun f => f).2.1, fun q => by
    rcases setO_sub q with q | q
    · exact m (noO_sub q)
    · subst q
      rw [hp] at h
      cases h⟩, e.at_, e.up⟩
end
section
variable {K : PySem.W.Frag} {te : TE} {we : WE} {t u : TS} {wt wu : WSt}
theorem tso_set {i : Nat} (h : TEok K te we) : TSok K (tAsg te (gName i)) (wSet we i) := by
  intro z O As σd W σ H Dd D r g q
  refine h _ _ r g fun v H' x As' W' e wl hv p => ?_
  exact q.nx _ W' (noO O i) As' _ H' (e.own.trans ext_noO) ((r.ext e wl).setV i hv) p
theorem tso_ret (h : TEok K te we) : TSok K (tRet te) (wRet we) := by
  intro z O As σd W σ H Dd D r g q
  refine h _ _ r g fun v H' x As' W' e wl hv p => ?_
  exact q.rt v x W' (owOf O) As' H' e.own (wl.weak fun a q => .inl q) (hv.weak fun a q => .inl q) p
theorem tso_seq (h : TSok K t wt) (h2 : TSok K u wu) : TSok K (tSeq t u) (wSeq wt wu) := by
  intro z O As σd W σ H Dd D r g q
  refine h (O := O) { Dd with nx := wu Dd } { D with nx := u D } r g ⟨fun σd' W' O' As' σ' H' e r' p => ?_, q.rt, q.bk, q.ct⟩
  exact h2 Dd D r' p (q.ext e)
theorem tso_next : TSok K tNext wNext := by
  intro z O As σd W σ H Dd D r g q
  exact q.nx _ W O As _ H ExtS.refl r g
theorem tso_if {tt : TT} {wc : WT} (hc : TTok K tt wc) (h : TSok K t wt) (h2 : TSok K u wu) : TSok K (tIfS tt t u) (wIfS wc wt wu) := by
  intro z O As σd W σ H Dd D r g q
  refine hc _ _ r g fun b H1 As1 W1 e wl p => ?_
  cases b with
  | true =>
    rw [if_pos rfl] at p ⊢
    exact h Dd D (r.ext e wl) p (q.ext e.own)
  | false =>
    rw [if_neg Bool.false_ne_true] at p ⊢
    exact h2 Dd D (r.ext e wl) p (q.ext e.own)
end
section
variable {X : Cx} {pos pos' : Pos} {e : Expr} {x : Str} {te : TE} {we : WE} {t u : TS} {wt wu : WSt} {st : Stmt} {rest : List Stmt}
theorem s_set {i : Nat} (hN : X.N.Nodup) (hi : X.N[i]? = some x) (hx : Loc X.env.scope x) (he : PD X e te we) (hs : swapsWith e (some (.Name x pos')) pos.line X.env = pure false := by rfl) (hf : X.fn x = true ∨ X.env.scope.names.lookup x = some .local := by first | exact .inl rfl | exact .inr rfl | assumption) :
    PDS X (.Assign [.Name x pos'] e pos) (tAsg te (gName i)) (wSet we i) := ⟨ps_set hN hi hx he.pe hs hf, tso_set he.ok⟩
theorem s_ret (he : PD X e te we) : PDS X (.Return (some e) pos) (tRet te) (wRet we) := ⟨ps_ret he.pe, tso_ret he.ok⟩
theorem ss_cons (h : PDS X st t wt) (h2 : PDSs X rest u wu) : PDSs X (st :: rest) (tSeq t u) (wSeq wt wu) := ⟨pss_cons h.ps h2.ps, tso_seq h.ok h2.ok⟩
theorem ss_one (h : PDS X st t wt) : PDSs X [st] t wt := ⟨pss_one h.ps, h.ok⟩
theorem ss_nil : PDSs X [] tNext wNext := ⟨pss_nil, tso_next⟩
theorem s_if {c : Expr} {a b : List Stmt} {tc : TT} {wc : WT} (hc : PTD X c tc wc) (ha : PDSs X a t wt) (hb : PDSs X b u wu) : PDS X (.If c a b pos) (tIfS tc t u) (wIfS wc wt wu) := ⟨ps_if hc.pt ha.ps hb.ps, tso_if hc.ok ha.ok hb.ok⟩
end
end DL

namespace DL
open PySem L2

/-! ### attributes -/
theorem zip_lookup {α : Type} {f : Str} : ∀ {ks : List Str} {vs : List α} {i : Nat} {v : α}, ks.Nodup → ks[i]? = some f → vs[i]? = some v → (ks.zip vs).lookup f = some v
  | [], _, _, _, _, h, _ => by simp at h
  | k :: ks, [], _, _, _, _, h => by simp at h
  | k :: ks, u :: vs, 0, v, _, h, g => by
    simp at h g
    subst h g
    simp [List.zip_cons_cons, List.lookup]
  | k :: ks, u :: vs, i + 1, v, n, h, g => by
    rw [List.getElem?_cons_succ] at h g
    rw [List.nodup_cons] at n
    have q : ¬ f = k := fun e => n.1 (e ▸ List.mem_of_getElem? h)
    rw [List.zip_cons_cons, List.lookup, beq_eq_false_iff_ne.mpr q]
    exact zip_lookup n.2 h g
theorem zip_lookup_no {α : Type} {f : Str} : ∀ {ks : List Str} {vs : List α}, f ∉ ks → (ks.zip vs).lookup f = none
  | [], _, _ => by simp
  | k :: ks, [], _ => by simp
  | k :: ks, u :: vs, n => by
    have q : ¬ f = k := fun e => n (e ▸ List.mem_cons_self)
    rw [List.zip_cons_cons, List.lookup, beq_eq_false_iff_ne.mpr q]
    exact zip_lookup_no fun h => n (List.mem_cons_of_mem _ h)
theorem putF_new {f : Str} {v : V} : ∀ {ks : List Str} {vs : List V}, ks.length = vs.length → f ∉ ks → putF f v (ks.zip vs) = (ks ++ [f]).zip (vs ++ [v])
  | [], [], _, _ => rfl
  | [], _ :: _, h, _ => by simp at h
  | _ :: _, [], h, _ => by simp at h
  | k :: ks, u :: vs, h, n => by
    have q : ¬ k = f := fun e => n (e ▸ List.mem_cons_self)
    show (if k = f then (k, v) :: ks.zip vs else (k, u) :: putF f v (ks.zip vs)) = (k, u) :: (ks ++ [f]).zip (vs ++ [v])
    rw [if_neg q, putF_new (by simpa using h) fun h => n (List.mem_cons_of_mem _ h)]
/-- the attribute f is the i-th of ks -/
structure FldOk (K : PySem.W.Frag) (C : Addr) (f : Str) (ks : List Str) (i : Nat) : Prop where
  c : Cls K C
  n : NoAttr K C f
  nd : ks.Nodup
  at_ : ks[i]? = some f
abbrev wFld (C : Addr) (ks0 : List Str) (i : Nat) (we : WE) : WE := fun σd W Φ => we σd W fun x W1 => match x with
  | .d (.ins C' ks ds) => C' = C ∧ ks = ks0 ∧ (match ds[i]? with
    | some d => Φ (.d d) W1
    | none => False)
  | .box j => (match W1[j]? with
    | some (.ins C' ks ds) => C' = C ∧ ks = ks0 ∧ (match ds[i]? with
      | some d => Φ d W1
      | none => False)
    | _ => False)
  | _ => False
section
variable {K : PySem.W.Frag}
theorem teo_fld {te : TE} {we : WE} {C : Addr} {f : Str} {ks : List Str} {i : Nat} (F : FldOk K C f ks i) (h : TEok K te we) : TEok K (tFld K te f) (wFld C ks i we) := by
  intro z O As σd W σ H Φ Q r g q
  refine h _ _ r g fun v H1 x As1 W1 e wl hv p => ?_
  split at p
  · obtain ⟨rfl, rfl, p⟩ := p
    cases hv with
    | d hv =>
      cases hv with
      | ins n s l k =>
        split at p
        · rename_i d ed
          obtain ⟨u, e1, hu⟩ := l.get ed
          exact ⟨_, _, _, _, u, rfl, s, F.c, F.n, zip_lookup F.nd F.at_ e1, q u H1 _ As1 W1 e wl (.d hu) p⟩
        · exact p.elim
  · split at p
    · rename_i j _ C' ks' ds' ew
      obtain ⟨rfl, rfl, p⟩ := p
      obtain ⟨a, dx, vs, rfl, _, h1, h2, _⟩ := wl.ins hv ew
      split at p
      · rename_i d ed
        obtain ⟨u, e1, hu⟩ := h2.get ed
        exact ⟨_, _, _, _, u, rfl, h1, F.c, F.n, zip_lookup F.nd F.at_ e1, q u H1 _ As1 W1 e wl hu p⟩
      · exact p.elim
    · exact p.elim
  · exact p.elim
end
/-- self.f = e: a new attribute; the i-th anew -/
def wFldN (C : Addr) (f : Str) (wo we : WE) : WSt := fun Dd σd W => we σd W fun y W1 => wo σd W1 fun x W2 => match x with
  | .box j => (match W2[j]? with
    | some (.ins C' ks ds) => C' = C ∧ f ∉ ks ∧ ks.length < 900 ∧ Dd.nx σd (W2.set j (.ins C (ks ++ [f]) (ds ++ [y])))
    | _ => False)
  | _ => False
section
variable {K : PySem.W.Frag}
theorem turn_ins {z : Av} {As : List (List Addr)} {W : WS} {H : Hp} {j : Nat} {a C dx : Addr} {ks : List Str} {vs : List V} {ds : List Sv} {u : HO} (w : Wld K z As W H) (ha : As[j]? = some [a]) (hh : H a = some u)
    (hl : HasVL K z As H vs ds) (hk : ks.length = ds.length) : Wld K z As (W.set j (.ins C ks ds)) (upd H a (.ins C dx (ks.zip vs))) ∧ Ext As H As (upd H a (.ins C dx (ks.zip vs))) := by
  have kp : ∀ b, b ∉ [a] → upd H a (.ins C dx (ks.zip vs)) b = H b := fun b n => upd_ne fun e => n (by rw [e]; exact List.mem_singleton.mpr rfl)
  have tr : ∀ b, b ∈ [a] → upd H a (.ins C dx (ks.zip vs)) b ≠ none := fun b m => by
    rw [List.mem_singleton] at m
    subst m
    rw [upd_same]
    exact fun x => by cases x
  have e : Ext As H As (upd H a (.ins C dx (ks.zip vs))) := Ext.turn ha kp tr
  exact ⟨w.turn ha kp tr ⟨a, dx, vs, rfl, upd_same, hl.ext e, hk⟩, e⟩
theorem tso_fldN {to te : TE} {wo we : WE} {C : Addr} {f : Str} (hc : Cls K C) (hn : NoAttr K C f) (ho : TEok K to wo) (h : TEok K te we) : TSok K (sFld K to te f) (wFldN C f wo we) := by
  intro z O As σd W σ H Dd D r g q
  refine h _ _ r g fun y H1 yd As1 W1 e wl hv p => ?_
  refine ho _ _ (r.ext e wl) p fun x H2 xd As2 W2 e2 wl2 hx p2 => ?_
  split at p2
  · split at p2
    · rename_i j _ C' ks ds ew
      obtain ⟨rfl, hf, hlen, p2⟩ := p2
      obtain ⟨a, dx, vs, rfl, ha, h1, h2, h3⟩ := wl2.ins hx ew
      have lv : ks.length = vs.length := h3.trans h2.length.symm
      refine ⟨a, _, dx, _, rfl, h1, hc, hn, Nat.lt_of_le_of_lt (by rw [List.length_zip]; exact Nat.min_le_left _ _) (Nat.lt_trans hlen (by decide)), ?_⟩
      rw [putF_new lv hf]
      obtain ⟨w3, e3⟩ := turn_ins (C := C') (dx := dx) (ks := ks ++ [f]) wl2 ha h1 (h2.append (.cons (hv.ext e2) .nil)) (by rw [List.length_append, List.length_append, h3] <;> rfl)
      exact q.nx σd _ O As2 σ _ ((e.own.trans e2.own).trans e3.own) (((r.ext e wl).ext e2 wl2).ext e3 w3) p2
    · exact p2.elim
  · exact p2.elim
end

/-! ### properties, methods -/
def isIns (C : Addr) (x : Sv) (W : WS) : Prop := match x with
  | .d (.ins C' _ _) => C' = C
  | .box j => (match W[j]? with
    | some (.ins C' _ _) => C' = C
    | _ => False)
  | _ => False
def noKey (m : Str) (x : Sv) (W : WS) : Prop := match x with
  | .d (.ins _ ks _) => m ∉ ks
  | .box j => (match W[j]? with
    | some (.ins _ ks _) => m ∉ ks
    | _ => False)
  | _ => False
abbrev wMeth (C : Addr) (m : Str) (wf : WFn) (dd : List Dv) (we : WE) (wa : WA) : WE := fun σd W Φ => we σd W fun x W1 => isIns C x W1 ∧ noKey m x W1 ∧ wa σd W1 fun xs W2 => wf (x :: (xs ++ dd.map Sv.d)) W2 Φ
section
variable {K : PySem.W.Frag}
theorem isIns_at {z : Av} {As : List (List Addr)} {W : WS} {H : Hp} {v : V} {x : Sv} {C : Addr} (w : Wld K z As W H) (h : HasV K z As H v x) (c : isIns C x W) : ∃ a dx fs, v = .ref a ∧ H a = some (.ins C dx fs) ∧ ∀ m, noKey m x W → fs.lookup m = none := by
  unfold isIns at c
  split at c
  · subst c
    cases h with
    | d h =>
      cases h with
      | ins n s l k => exact ⟨_, _, _, rfl, s, fun m hm => zip_lookup_no hm⟩
  · split at c
    · rename_i j _ C' ks ds ew
      subst c
      obtain ⟨a, dx, vs, rfl, _, h1, _⟩ := w.ins h ew
      refine ⟨a, dx, _, rfl, h1, fun m hm => zip_lookup_no ?_⟩
      unfold noKey at hm
      simp only [ew] at hm
      exact hm
    · exact c.elim
  · exact c.elim
theorem teo_meth {te : TE} {we : WE} {ta : TA} {wa : WA} {C : Addr} {m : Str} {wf : WFn} {E : XK} {dvs : List V} {dd : List Dv} (hd : Cn K dvs dd) (h : TEok K te we) (ha : TAok K ta wa) : TEok K (tMeth C m (spD K wf) dvs E te ta) (wMeth C m wf dd we wa) := by
  intro z O As σd W σ H Φ Q r g q
  refine h _ _ r g fun v H1 x As1 W1 e wl hv p => ?_
  obtain ⟨a, dx, fs, rfl, h1, h2⟩ := isIns_at wl hv p.1
  refine ⟨a, dx, fs, rfl, h1, h2 m p.2.1, ?_⟩
  refine ha _ _ (r.ext e wl) p.2.2 fun vs H2 xs As2 W2 e2 wl2 hvs p2 => ?_
  exact ⟨_, As2, W2, x :: (xs ++ dd.map Sv.d), Φ, wl2, .cons (hv.ext e2) (hvs.append (.ofL (hd _ _))), p2, fun v H' x As' W' e3 wl3 hv3 p3 => q v H' x As' W' ((e.trans e2).trans e3) wl3 hv3 p3⟩
end

/-! ### new instances -/
section
variable {K : PySem.W.Frag}
theorem make_start {z : Av} {As : List (List Addr)} {W : WS} {H : Hp} {C x dx : Addr} (w : Wld K z As W H) (hx : H x = none) (hd : H dx = none) (ne : dx ≠ x) :
    Wld K z (As ++ [[x]]) (W ++ [.ins C [] []]) (upd (upd H dx (.own x)) x (.ins C dx [])) ∧ Ext As H (As ++ [[x]]) (upd (upd H dx (.own x)) x (.ins C dx [])) := by
  have k : ∀ b o, H b = some o → upd (upd H dx (.own x)) x (.ins C dx []) b = some o := fun b o h => by
    rw [upd_ne (ne_of_none h hx), upd_ne (ne_of_none h hd)]
    exact h
  have f : ∀ a, a ∈ [x] → H a = none := fun a m => by
    rw [List.mem_singleton] at m
    rw [m]
    exact hx
  refine ⟨w.grow k f (fun a m => ?_) ⟨x, dx, [], rfl, upd_same, .nil, rfl⟩, Ext.grow k f⟩
  rw [List.mem_singleton] at m
  subst m
  rw [upd_same]
  exact fun x => by cases x
theorem as_of {As As' : List (List Addr)} {l : List Addr} (h : ∀ (j : Nat) (l' : List Addr), (As ++ [l])[j]? = some l' → As'[j]? = some l') (n : As'.length = As.length + 1) : As' = As ++ [l] := by
  apply List.ext_getElem?
  intro j
  by_cases q : j < (As ++ [l]).length
  · obtain ⟨x, hx⟩ : ∃ x, (As ++ [l])[j]? = some x := ⟨_, List.getElem?_eq_getElem q⟩
    rw [hx, h _ _ hx]
  · rw [List.getElem?_eq_none (Nat.le_of_not_lt q)]
    rw [List.length_append, List.length_singleton] at q
    exact List.getElem?_eq_none (by omega)
end
section
variable {X : Cx} {x f m : Str} {p pos apos pos' : Pos} {e o value : Expr} {es : List Expr} {t : TA} {wa : WA} {wf : WFn} {C fa pa g : Addr} {fd : FuncData} {ps : List Str} {k : Nat} {ds : List Value} {dvs : List V} {dd : List Dv} {te to : TE} {we wo : WE}
theorem d_fld {ks : List Str} (i : Nat) (F : FldOk X.K C f ks i) (he : PD X e te we) (hb : attributeBase e f X.env (eval e X.env) = eval e X.env) : PD X (.Attribute e f pos) (tFld X.K te f) (wFld C ks i we) := ⟨pe_fld he.pe hb, teo_fld F he.ok⟩
theorem s_fldN (hc : Cls X.K C) (hn : NoAttr X.K C f) (ho : PD X o to wo) (hv : PD X value te we) (hs : swapsWith value (some (.Attribute o f pos')) pos.line X.env = pure false) : PDS X (.Assign [.Attribute o f pos'] value pos) (sFld X.K to te f) (wFldN C f wo we) := ⟨ps_fld ho.pe hv.pe hs, tso_fldN hc hn ho.ok hv.ok⟩
abbrev MethEq (X : Cx) (o : Expr) (m : Str) (es : List Expr) (apos pos : Pos) (pl : Sem Bool) : Prop :=
  eval (.Call (.Attribute o m apos) es [] pos) X.env = (do let v ← eval o X.env; standAt apos.atName; let (g, h) ← holding [v] (getMethod v m pl); callWith pos g h (backTo pos (starEach es X.env)) (backToKw pos (keywordEach [] X.env)))
theorem d_meth0 {pl : Sem Bool} (he : PD X o to wo) (c : Cls X.K C) (hm : Meth X.K C m fa) (F : FnOk X.prog X.w X.K X.mg X.base CX0 k fa fd ps (spD X.K wf)) (hr : Room k X.A) (hb : Binds X.K fd ps ds) (hd : Vals dvs ds) (hc : Cn X.K dvs dd)
    (ht : MethEq X o m [] apos pos pl := by rfl) :
    PD X (.Call (.Attribute o m apos) [] [] pos) (tMeth C m (spD X.K wf) dvs E0 to tNil) (wMeth C m wf dd wo wNil) := ⟨pe_meth0 he.pe c hm F hr hb hd pass0 ht, teo_meth hc he.ok tao_nil⟩
end
end DL

namespace DL
open PySem L2

/-! ### targets, loops -/
/-- the target's names stand at the places is -/
def TGok (K : PySem.W.Frag) (g : TG) (tgt : Tgt) (is : List Nat) : Prop := ∀ {z : Av} {O : Nat → Option Addr} {As : List (List Addr)} {σd σd' : DS} {W : WS} {σ : St} {H : Hp} {v : V} {x : Sv} (Q : St → Hp → Prop), Rep K z O As σd W σ H → HasV K (zo z (owOf O)) As H v x → tgt x σd = some σd' →
  (∀ O' σ', (∀ j, O' j = if j ∈ is then none else O j) → σ'.length = σ.length → (∀ j, j ∉ is → σ'[j]? = σ[j]?) → Rep K z O' As σd' W σ' H → Q σ' H) → g v σ H Q
structure PGD (X : Cx) (e : Expr) (g : TG) (tgt : Tgt) (is : List Nat) : Prop where
  pg : PG X e g
  ok : TGok X.K g tgt is
def tgN (i : Nat) : Tgt := fun x σ => some (σ.set i (some (.v x)))
theorem tgo_name {K : PySem.W.Frag} {i : Nat} : TGok K (gName i) (tgN i) [i] := by
  intro z O As σd σd' W σ H v x Q r h e q
  cases e
  refine q (noO O i) _ (fun j => ?_) (List.length_set ..) (fun j hj => List.getElem?_set_ne fun e => hj (List.mem_singleton.mpr e.symm)) (r.setV i h)
  unfold noO
  simp only [List.mem_singleton]
def wLoop (tgt : Tgt) (wb : WSt) : List Sv → WSt
  | [], Dd, σ, W => Dd.nx σ W
  | x :: xs, Dd, σ, W => match tgt x σ with
    | some σ' => wb { Dd with nx := wLoop tgt wb xs Dd, ct := wLoop tgt wb xs Dd, bk := Dd.nx } σ' W
    | none => False
/-- between two turns -/
def Btw (K : PySem.W.Frag) (z : Av) (As0 : List (List Addr)) (ow0 : Av) (H0 : Hp) (w : DS → WS → Prop) (σ : St) (H : Hp) : Prop := ∃ O As σd W, ExtS As0 ow0 H0 As (owOf O) H ∧ Rep K z O As σd W σ H ∧ w σd W
section
variable {K : PySem.W.Frag} {z : Av} {As0 : List (List Addr)} {ow0 : Av} {H0 : Hp} {g : TG} {tgt : Tgt} {is : List Nat} {tb : TS} {wb : WSt}
theorem loop_turn (hg : TGok K g tgt is) (hb : TSok K tb wb) {Dd : DEnds} {D : Ends} (q : EndsOk K z As0 ow0 H0 Dd D) {x : Sv} {xs : List Sv} {v : V} {σ : St} {H : Hp} {O : Nat → Option Addr} {As : List (List Addr)} {σd : DS} {W : WS}
    (e : ExtS As0 ow0 H0 As (owOf O) H) (r : Rep K z O As σd W σ H) (hv : HasV K (zo z (owOf O)) As H v x) (p : wLoop tgt wb (x :: xs) Dd σd W) {N : St → Hp → Prop}
    (hN : ∀ σ' H', Btw K z As0 ow0 H0 (wLoop tgt wb xs Dd) σ' H' → N σ' H') : g v σ H fun σ2 H2 => tb { D with nx := N, ct := N, bk := D.nx } σ2 H2 := by
  unfold wLoop at p
  split at p
  · rename_i σ' et
    refine hg _ r hv et fun O' σ2 s _ _ r2 => ?_
    have e2 : ExtS As0 ow0 H0 As (owOf O') H := e.trans ⟨fun b o h n m => ⟨h, n, fun ⟨j, f⟩ => m ⟨j, by rw [s j] at f; split at f <;> first | cases f | exact f⟩⟩, fun _ _ h => h, fun _ h => h⟩
    refine hb _ { D with nx := N, ct := N, bk := D.nx } r2 p ⟨fun σd' W' O3 As3 σ3 H3 e3 r3 p3 => ?_, (q.ext e2).rt, (q.ext e2).nx, fun σd' W' O3 As3 σ3 H3 e3 r3 p3 => ?_⟩
    · exact hN σ3 H3 ⟨O3, As3, σd', W', e2.trans e3, r3, p3⟩
    · exact hN σ3 H3 ⟨O3, As3, σd', W', e2.trans e3, r3, p3⟩
  · exact p.elim
end
/-! ### what is walked -/
/-- J walks the items: stable while data stand -/
structure Wk (K : PySem.W.Frag) (N : Av) (H : Hp) (J : It) (items : List Dv) : Prop where
  go : ∀ N' H' i, Mv N H N' H' → i < items.length → J.go i H'
  stop : ∀ N' H', Mv N H N' H' → J.stop items.length H'
  yld : ∀ N' H' i x H2, Mv N H N' H' → i < items.length → J.yld i H' x H2 → ∃ d, items[i]? = some d ∧
    ((H2 = H' ∧ Has K N' H' x d) ∨ ∃ T ys ds, H' T = none ∧ H2 = upd H' T (.tup ys) ∧ x = .ref T ∧ d = .tup ds ∧ HasL K N' H' ys ds)
def TIok (K : PySem.W.Frag) (wi : TI) (w : WI) : Prop := ∀ {z : Av} {O : Nat → Option Addr} {As : List (List Addr)} {σd : DS} {W : WS} {σ : St} {H : Hp} (Φ : List Dv → WS → Prop) (R : It → Hp → Prop), Rep K z O As σd W σ H → w σd W Φ →
  (∀ J H' xs As' W', Ext As H As' H' → Wld K (zo z (owOf O)) As' W' H' → Wk K (bad (zo z (owOf O)) As') H' J xs → Φ xs W' → R J H') → wi σ H R
structure PID (X : Cx) (tg iter : Expr) (wi : TI) (w : WI) : Prop where
  pi : PI X tg iter wi
  ok : TIok X.K wi w
def rangeD (lo : Int) (n : Nat) : List Dv := (List.range n).map fun k => .int (lo + (k : Nat))
def wiR1 (wa : WAB) : WI := fun σd W Φ => wa σd W fun xs W1 => match xs with
  | [.int n] => (-4611686018427387904 ≤ n ∧ n < 4611686018427387904) ∧ Φ (rangeD 0 n.toNat) W1
  | _ => False
def wiL (we : WE) : WI := fun σd W Φ => we σd W fun x W1 => match x with
  | .d (.lst xs) => Φ xs W1
  | _ => False
def wiT (we : WE) : WI := fun σd W Φ => we σd W fun x W1 => match x with
  | .d (.tup xs) => Φ xs W1
  | _ => False
section
variable {K : PySem.W.Frag}
theorem wk_range {N : Av} {H : Hp} {lo : Int} {n : Nat} : Wk K N H (Itr lo n) (rangeD lo n) := by
  have hl : (rangeD lo n).length = n := by unfold rangeD; rw [List.length_map, List.length_range]
  refine ⟨fun N' H' i _ h => by rw [hl] at h; exact h, fun N' H' _ => by rw [hl]; exact Nat.le_refl n, fun N' H' i x H2 _ h y => ?_⟩
  rw [hl] at h
  obtain ⟨e, y⟩ := y
  refine ⟨.int (lo + (i : Nat)), ?_, .inl ⟨e, by rw [y]; exact .int _⟩⟩
  unfold rangeD
  rw [List.getElem?_map, List.getElem?_range h]
  rfl
theorem wk_list {N : Av} {H : Hp} {a : Addr} {vs : List V} {xs : List Dv} (s : Sq K N H a vs) (l : HasL K N H vs xs) : Wk K N H (Itl K a) xs := by
  refine ⟨fun N' H' i m h => ?_, fun N' H' m => ⟨vs, (s.mv m).l, by rw [l.length]; exact Nat.le_refl _⟩, fun N' H' i x H2 m h y => ?_⟩
  · have h' : i < vs.length := by rw [l.length]; exact h
    exact ⟨vs, vs[i], (s.mv m).l, List.getElem?_eq_getElem h'⟩
  · obtain ⟨e, y⟩ := y
    obtain ⟨d, h1, h2⟩ := (l.mv m).get' (y vs (s.mv m).l)
    exact ⟨d, h1, .inl ⟨e, h2⟩⟩
theorem wk_tup {N : Av} {H : Hp} {a : Addr} {vs : List V} {xs : List Dv} (s : Tq K N H a vs) (l : HasL K N H vs xs) : Wk K N H (Itt K a) xs := by
  refine ⟨fun N' H' i m h => ?_, fun N' H' m => ⟨vs, (s.mv m).t, by rw [l.length]; exact Nat.le_refl _⟩, fun N' H' i x H2 m h y => ?_⟩
  · have h' : i < vs.length := by rw [l.length]; exact h
    exact ⟨vs, vs[i], (s.mv m).t, List.getElem?_eq_getElem h'⟩
  · obtain ⟨e, y⟩ := y
    obtain ⟨d, h1, h2⟩ := (l.mv m).get' (y vs (s.mv m).t)
    exact ⟨d, h1, .inl ⟨e, h2⟩⟩
theorem tio_R1 {ta : TA} {wa : WAB} (ha : TABok K ta wa) : TIok K (iRng1 ta) (wiR1 wa) := by
  intro z O As σd W σ H Φ R r h q
  refine ha _ _ r h fun vs H1 xs As1 W1 e wl hv p => ?_
  split at p
  · rename_i n
    obtain ⟨v, rfl, h1⟩ := hv.one
    obtain rfl := h1.int
    exact ⟨n, rfl, by have := p.1.1; omega, by have := p.1.2; omega, q _ H1 _ As1 W1 e wl wk_range p.2⟩
  · exact p.elim
theorem tio_L {te : TE} {we : WE} (he : TEok K te we) : TIok K (iList K te) (wiL we) := by
  intro z O As σd W σ H Φ R r h q
  refine he _ _ r h fun v H1 x As1 W1 e wl hv p => ?_
  split at p
  · cases hv with
    | d hv =>
      cases hv with
      | @lst a vs _ s l => exact ⟨a, rfl, ⟨vs, s.l⟩, q _ H1 _ As1 W1 e wl (wk_list s l) p⟩
  · exact p.elim
theorem tio_T {te : TE} {we : WE} (he : TEok K te we) : TIok K (iTup K te) (wiT we) := by
  intro z O As σd W σ H Φ R r h q
  refine he _ _ r h fun v H1 x As1 W1 e wl hv p => ?_
  split at p
  · cases hv with
    | d hv =>
      cases hv with
      | @tup a vs _ s l => exact ⟨a, rfl, ⟨vs, s.t⟩, q _ H1 _ As1 W1 e wl (wk_tup s l) p⟩
  · exact p.elim
theorem map_drop {xs : List Dv} {i : Nat} {d : Dv} (h : xs[i]? = some d) : (xs.map Sv.d).drop i = Sv.d d :: (xs.map Sv.d).drop (i + 1) := by
  have hl : i < (xs.map Sv.d).length := by simpa using (List.getElem?_eq_some_iff.mp h).1
  rw [List.drop_eq_getElem_cons hl]
  simp [(List.getElem?_eq_some_iff.mp h).2]
def wFor (tgt : Tgt) (wi : WI) (wb : WSt) : WSt := fun Dd σd W => wi σd W fun xs W1 => wLoop tgt wb (xs.map Sv.d) Dd σd W1
theorem yld_ok {z : Av} {O : Nat → Option Addr} {As : List (List Addr)} {σd : DS} {W : WS} {σ : St} {H H2 : Hp} {x : V} {d : Dv} (r : Rep K z O As σd W σ H) (h : (H2 = H ∧ Has K (bad (zo z (owOf O)) As) H x d) ∨ ∃ T ys ds, H T = none ∧ H2 = upd H T (.tup ys) ∧ x = .ref T ∧ d = .tup ds ∧ HasL K (bad (zo z (owOf O)) As) H ys ds) :
    Rep K z O As σd W σ H2 ∧ Ext As H As H2 ∧ HasV K (zo z (owOf O)) As H2 x (.d d) := by
  rcases h with ⟨rfl, h⟩ | ⟨T, ys, ds, hT, rfl, rfl, rfl, h⟩
  · exact ⟨r, ExtS.refl, .d h⟩
  · have e : Ext As H As (upd H T (.tup ys)) := Ext.new hT
    exact ⟨r.ext e (r.wld.new hT), e, .d (.tup (.inl ⟨r.wld.fresh hT, .inl upd_same⟩) (h.mv e.mv))⟩
variable {g : TG} {tgt : Tgt} {is : List Nat} {tb : TS} {wb : WSt}
theorem tso_for {wi : TI} {w : WI} (hi : TIok K wi w) (hg : TGok K g tgt is) (hb : TSok K tb wb) : TSok K (tFor wi g tb) (wFor tgt w wb) := by
  intro z O As σd W σ H Dd D r h q
  refine hi _ _ r h fun J H1 xs As1 W1 e wl hw p => ?_
  have r1 := r.ext e wl
  have q1 := q.ext e.own
  refine ⟨fun i m σ' H' => m = xs.length - i ∧ i ≤ xs.length ∧ Btw K z As1 (owOf O) H1 (wLoop tgt wb ((xs.map Sv.d).drop i) Dd) σ' H', ⟨xs.length, by simp, Nat.zero_le _, O, As1, σd, W1, ExtS.refl, r1, p⟩, fun i m σ' H' ⟨hm, hle, O', As', σd', W', e', r', p'⟩ => ?_⟩
  subst hm
  have mv : Mv (bad (zo z (owOf O)) As1) H1 (bad (zo z (owOf O')) As') H' := e'.mv
  by_cases hlt : i < xs.length
  · refine .inr ⟨hw.go _ _ _ mv hlt, Btw K z As1 (owOf O) H1 (wLoop tgt wb ((xs.map Sv.d).drop (i + 1)) Dd), fun σ2 H2 b => ⟨_, by omega, rfl, hlt, b⟩, fun x H2 y => ?_⟩
    obtain ⟨d, ed, hd⟩ := hw.yld _ _ _ _ _ mv hlt y
    obtain ⟨r2, e2, hv⟩ := yld_ok r' hd
    rw [map_drop ed] at p'
    exact loop_turn hg hb q1 (e'.trans e2.own) r2 hv p' fun _ _ h => h
  · have he : i = xs.length := by omega
    subst he
    refine .inl ⟨hw.stop _ _ mv, ?_⟩
    rw [List.drop_eq_nil_of_le (by rw [List.length_map]; exact Nat.le_refl _)] at p'
    exact q1.nx _ W' O' As' _ H' e' r' p'
end

/-! ### a, b = e1, e2; x += e -/
section
variable {K : PySem.W.Frag}
end
section
variable {X : Cx} {pos p : Pos} {x y : Str} {a b e tg iter c : Expr} {body : List Stmt} {ta : TA} {wa : WA} {te : TE} {we : WE} {g : TG} {tgt : Tgt} {is : List Nat} {tb : TS} {wb : WSt}
theorem g_name {i : Nat} (hN : X.N.Nodup) (hi : X.N[i]? = some x) (hx : Loc X.env.scope x) (hf : X.fn x = true ∨ X.env.scope.names.lookup x = some .local := by first | exact .inl rfl | exact .inr rfl | assumption) : PGD X (.Name x pos) (gName i) (tgN i) [i] := ⟨pg_name hN hi hx hf, tgo_name⟩
theorem i_R1 {wa : WAB} (hg : Gl X "range") (hm : X.mg "range" = none) (ha : PAB X [a] ta wa) (hs : starEach [a] X.env = [(false, eval a X.env)] := by rfl) : PID X tg (.Call (.Name "range" p) [a] [] pos) (iRng1 ta) (wiR1 wa) := ⟨pi_range1 hg hm ha.pa hs, tio_R1 ha.ok⟩
theorem i_L (he : PD X e te we) : PID X tg e (iList X.K te) (wiL we) := ⟨pi_list he.pe, tio_L he.ok⟩
theorem i_T (he : PD X e te we) : PID X tg e (iTup X.K te) (wiT we) := ⟨pi_tup he.pe, tio_T he.ok⟩
theorem s_for {wi : TI} {w : WI} (hp : PassesOwn (model X.prog X.w) X.A X.env X.xe) (hc : X.calm = true) (hi : PID X tg iter wi w) (ht : PGD X tg g tgt is) (hb : PDSs X body tb wb) (hs : ∀ x, foldedSetIterable iter X.env x = pure x := by intro _; rfl) :
    PDS X (.For tg iter body [] pos) (tFor wi g tb) (wFor tgt w wb) := ⟨ps_for hp hc hi.pi ht.pg hb.ps hs, tso_for hi.ok ht.ok hb.ok⟩
end
end DL

namespace DL
open PySem L2

/-! ### comprehensions -/
def wLcL (tgt : Tgt) (wt : WT) (we : WE) (vs : List Nat) (σ : DS) : List Dv → List Dv → WS → (List Dv → WS → Prop) → Prop
  | [], acc, W, Φ => Φ acc W
  | x :: xs, acc, W, Φ => match tgt (.d x) (wipeD σ vs) with
    | some σ2 => wt σ2 W fun b W1 => if b = true then we σ2 W1 fun y W2 => (match y with
      | .d y => wLcL tgt wt we vs σ xs (acc ++ [y]) W2 Φ
      | .box _ => False) else wLcL tgt wt we vs σ xs acc W1 Φ
    | none => False
def wLc (wi : WI) (tgt : Tgt) (wt : WT) (we : WE) (vs : List Nat) : WF := fun σd W Φ => wi σd W fun xs W1 => (vs.all (fun i => notOwn (slot σd i)) = true ∧ xs.length ≤ 1000000) ∧ wLcL tgt wt we vs σd xs [] W1 Φ
def wYes : WT := fun _ W Φ => Φ true W
section
variable {K : PySem.W.Frag}
theorem tto_yes : TTok K tYes wYes := fun Φ Q r g q => q true _ _ _ ExtS.refl r.wld g
theorem wipe_back {σ σ2 : St} {vs is : List Nat} (hl : σ2.length = (wipe σ vs).length) (k : ∀ j, j ∉ is → σ2[j]? = (wipe σ vs)[j]?) (hs : ∀ i, i ∈ is → i ∈ vs) : wipe σ2 vs = wipe σ vs := by
  apply List.ext_getElem?
  intro j
  rw [wipe_get, wipe_get]
  rw [wipe_length] at hl
  by_cases m : j ∈ vs
  · rw [if_pos m, if_pos m]
    by_cases l : j < σ.length
    · rw [List.getElem?_eq_getElem l, List.getElem?_eq_getElem (by rw [hl]; exact l)]
      rfl
    · rw [List.getElem?_eq_none (Nat.le_of_not_lt l), List.getElem?_eq_none (by rw [hl]; exact Nat.le_of_not_lt l)]
  · rw [if_neg m, if_neg m, k j fun q => m (hs j q), wipe_get, if_neg m]
/-- the list at D grows: all else stands -/
theorem grow_at {z : Av} {As : List (List Addr)} {W : WS} {H : Hp} {D : Addr} {o : HO} (w : Wld K z As W H) (hz : z D) : Wld K z As W (upd H D o) ∧ Mv (bad z As) H (bad z As) (upd H D o) := by
  have up : ∀ a, H a ≠ none → upd H D o a ≠ none := fun a q => by
    unfold upd
    split
    · exact fun x => by cases x
    · exact q
  have mv : Mv (bad z As) H (bad z As) (upd H D o) := fun b u hb n => ⟨by rw [upd_ne (fun (e : b = D) => n (.inr (by rw [e]; exact hz)))]; exact hb, n⟩
  have hv : ∀ {v : V} {x : Sv}, HasV K z As H v x → HasV K z As (upd H D o) v x := fun q => by
    cases q with
    | d q => exact .d (q.mv mv)
    | box q => exact .box q
  have hvl : ∀ {vs : List V} {xs : List Sv}, HasVL K z As H vs xs → HasVL K z As (upd H D o) vs xs := by
    intro vs xs q
    induction q with
    | nil => exact .nil
    | cons a _ ih => exact .cons (hv a) ih
  refine ⟨⟨w.len, fun j l u h1 h2 => ?_, fun a q => up a (w.trk a q), w.dis, ⟨fun a q => up a (w.zok.trk a q), w.zok.out⟩⟩, mv⟩
  have ne : ∀ a, a ∈ l → upd H D o a = H a := fun a m => upd_ne fun e => by
    subst e
    exact w.zok.out a hz ⟨l, List.mem_of_getElem? h1, m⟩
  have old := w.rep j l u h1 h2
  cases u with
  | lst xs =>
    obtain ⟨a, vs, rfl, q, r⟩ := old
    exact ⟨a, vs, rfl, by rw [ne a (List.Mem.head _)]; exact q, hvl r⟩
  | ins C ks ds =>
    obtain ⟨a, dx, vs, rfl, q, r, n⟩ := old
    exact ⟨a, dx, vs, rfl, by rw [ne a (List.Mem.head _)]; exact q, hvl r, n⟩
  | dic ks ds =>
    obtain ⟨a, vs, rfl, q, r, n⟩ := old
    exact ⟨a, vs, rfl, by rw [ne a (List.Mem.head _)]; exact q, hvl r, n⟩
  | obj k => exact k.st l H _ ne old
  | lck o_ vs_ ks ds =>
    obtain ⟨a, rfl, q, r, n⟩ := old
    exact ⟨a, rfl, by rw [ne a (List.Mem.head _)]; exact q, hvl r, n⟩
  | tupV xs =>
    obtain ⟨a, vs, rfl, q, r⟩ := old
    exact ⟨a, vs, rfl, by rw [ne a (List.Mem.head _)]; exact q, hvl r⟩
  | tab P q =>
    obtain ⟨rfl, old⟩ := old
    exact ⟨rfl, old.mv mv (ne P (List.Mem.head _))⟩
  | gone => trivial
theorem ext_mut {As As' : List (List Addr)} {H H' : Hp} {D : Addr} {o : HO} (hD : H D = none) (e : Ext As H As' H') : Ext As H As' (upd H' D o) :=
  ⟨fun b u hb n m => ⟨by rw [upd_ne (ne_of_none hb hD)]; exact (e.keep b u hb n m).1, (e.keep b u hb n m).2⟩, e.at_, fun a q => by
    unfold upd
    split
    · exact fun x => by cases x
    · exact e.up a q⟩
theorem tfo_lc {wi : TI} {w : WI} {g : TG} {tgt : Tgt} {is : List Nat} {tt : TT} {wt : WT} {te : TE} {we : WE} {vs : List Nat} (hi : TIok K wi w) (hg : TGok K g tgt is) (ht : TTok K tt wt) (he : TEok K te we) (hs : ∀ i, i ∈ is → i ∈ vs) :
    TFok K (tLc wi g tt te vs) (wLc w tgt wt we vs) := by
  intro z O As σd W σ H Φ Q r h q
  refine hi _ _ r h fun J H1 xs As1 W1 e wl hw p => ?_
  obtain ⟨⟨hno, hlen⟩, p⟩ := p
  have r1 := r.ext e wl
  intro D hD
  have hD0 := up_none e hD
  -- at turn i
  let Tn : Nat → Hp → Prop := fun i H' => ∃ As' W' us acc, Ext As1 H1 As' H' ∧ Wld K (z1 (zo z (owOf O)) D) As' W' H' ∧ H' D = some (.lst us) ∧ HasL K (bad (z1 (zo z (owOf O)) D) As') H' us acc ∧ us.length ≤ i ∧ wLcL tgt wt we vs σd (xs.drop i) acc W' Φ
  have start : Tn 0 (upd H1 D (.lst [])) := ⟨As1, W1, [], [], Ext.new hD, zk1 wl hD, upd_same, .nil, Nat.le_refl _, p⟩
  refine ⟨fun i m H' => m = xs.length - i ∧ i ≤ xs.length ∧ Tn i H', ⟨xs.length, by simp, Nat.zero_le _, start⟩, fun i m H' ⟨hm, hle, As', W', us, acc, e', wl', hl, ha, hn, p'⟩ => ?_⟩
  subst hm
  have zD : zo (z1 z D) (owOf O) D := .inl (.inr rfl)
  have sub1 : ∀ a, zo (z1 z D) (owOf O) a → z1 (zo z (owOf O)) D a := fun a q => by
    rcases q with (q | q) | q
    · exact .inl (.inl q)
    · exact .inr q
    · exact .inl (.inr q)
  have sub2 : ∀ a, z1 (zo z (owOf O)) D a → zo (z1 z D) (owOf O) a := fun a q => by
    rcases q with (q | q) | q
    · exact .inl (.inl q)
    · exact .inr q
    · exact .inl (.inr q)
  have mv : Mv (bad (zo z (owOf O)) As1) H1 (bad (zo (z1 z D) (owOf O)) As') H' := fun b o hb n => by
    obtain ⟨h1, h2, _⟩ := e'.keep b o hb (fun f => n (.inl f)) fun f => f
    refine ⟨h1, fun q => ?_⟩
    rcases q with q | (q | q) | q
    · exact h2 q
    · exact n (.inr (.inl q))
    · subst q
      rw [hD] at hb
      cases hb
    · exact n (.inr (.inr q))
  by_cases hlt : i < xs.length
  · refine .inr ⟨hw.go _ _ _ mv hlt, Tn (i + 1), fun H2 t => ⟨_, by omega, rfl, hlt, t⟩, fun x H2 y => ?_⟩
    obtain ⟨d, ed, hd⟩ := hw.yld _ _ _ _ _ mv hlt y
    obtain ⟨r', on⟩ := r1.under hD e' wl' hno
    obtain ⟨r2, e2, hv⟩ := yld_ok r' hd
    have hdrop : xs.drop i = d :: xs.drop (i + 1) := by
      rw [List.drop_eq_getElem_cons hlt]
      rw [List.getElem?_eq_getElem hlt] at ed
      rw [Option.some.inj ed]
    rw [hdrop] at p'
    unfold wLcL at p'
    split at p'
    · rename_i σ2d et
      refine hg _ r2 hv et fun O' σ2 hO l2 k2 r3 => ⟨wipe_back l2 k2 hs, ?_⟩
      have eO : O' = O := funext fun j => by
        rw [hO j]
        split
        · rename_i hj
          exact (on j (hs j hj)).symm
        · rfl
      subst eO
      refine ht _ _ r3 p' fun b H3 As3 W3 e3 wl3 p3 => ?_
      have kD : ∀ {Ha Hb : Hp} {Aa Ab : List (List Addr)} {Wa : WS}, Wld K (zo (z1 z D) (owOf O')) Aa Wa Ha → Ext Aa Ha Ab Hb → Ha D = some (.lst us) → Hb D = some (.lst us) := fun w e h => (e.keep D _ h (w.zok.out D zD) fun f => f).1
      have l2' := kD r'.wld e2 hl
      have l3 := kD r2.wld e3 l2'
      have h3 : HasL K (bad (zo (z1 z D) (owOf O')) As3) H3 us acc := ((ha.mv (Mv.weak fun a b => b.imp id (sub1 a))).mv e2.mv).mv e3.mv
      have e13 := (e'.trans e2).trans e3
      cases b with
      | true =>
        rw [if_pos rfl] at p3 ⊢
        refine he _ _ (r3.ext e3 wl3) p3 fun v H4 y As4 W4 e4 wl4 hy p4 => ?_
        split at p4
        · rename_i yd
          have l4 := kD wl3 e4 l3
          have h4 := h3.mv e4.mv
          obtain ⟨w5, m5⟩ := grow_at (o := .lst (us ++ [v])) wl4 zD
          refine ⟨us, l4, Nat.lt_of_lt_of_le (Nat.lt_of_le_of_lt hn hlt) (line_of hlen), As4, W4, us ++ [v], acc ++ [yd], ext_mut hD (e13.trans e4), w5.weak sub2, upd_same, ?_, by rw [List.length_append, List.length_singleton]; omega, p4⟩
          cases hy with
          | d hy => exact (((h4.append (.cons hy .nil)).mv m5).mv (Mv.weak fun a b => b.imp id (sub2 a)))
        · exact p4.elim
      | false =>
        rw [if_neg Bool.false_ne_true] at p3 ⊢
        exact ⟨As3, W3, us, acc, e13, wl3.weak sub2, l3, h3.mv (Mv.weak fun a b => b.imp id (sub2 a)), Nat.le_succ_of_le hn, p3⟩
    · exact p'.elim
  · have hx : i = xs.length := by omega
    subst hx
    refine .inl ⟨hw.stop _ _ mv, ?_⟩
    rw [List.drop_eq_nil_of_le (Nat.le_refl _)] at p'
    exact q D H' us acc As' W' hD0 (e.trans e') wl' hl ha p'
end
end DL

namespace DLX
open PySem PySem.Spec PyProof.Rows PySem.W L2
section
variable {prog : Program} {w : World} {A : Around} {E : Value → Shared → Prop} {s : Shared} {K : Frag} {x C L f : Addr} {h₀ : Heap} {m : Str → Option Value} {ox : Obj} {od : Option Obj} {b tb : Value}
end
end DLX
namespace DL
open PySem L2
section
variable {X : Cx} {C g : Addr} {fd : FuncData} {ps : List Str} {sp : Sp} {n : Nat}
end
/-- the type of data -/
def tyD : Dv → Option Value
  | .non => some (.type "NoneType")
  | .bl _ => some (.type "bool")
  | .int _ => some (.type "int")
  | .str _ => some (.type "str")
  | .lst _ => some (.type "list")
  | .tup _ => some (.type "tuple")
  | .dic _ _ => some (.type "dict")
  | .ins C _ _ => some (.ref C)
  | .raw _ => none
  | .exc _ _ _ _ _ => none
  | .tpn _ => some (.type "tuple")
def insOk (K : PySem.W.Frag) : Dv → Prop
  | .ins C _ _ => IsF K C
  | _ => True
theorem tyx_of {K : PySem.W.Frag} {z : Av} {As : List (List Addr)} {H : Hp} {v : V} {d : Dv} {t : Value} (h : HasB K z As H v d) (e : tyD d = some t) (o : insOk K d) : TyX K H v t := by
  have lk : ∀ {a : Addr} {vs : List V}, LK K a vs → ∃ ob, K.lookup a = some ob ∧ ob.cls = .type "list" := fun l => by
    rcases l (fun _ => none) with (l | ⟨_, l⟩) | ⟨ob, _, _, l, c, _⟩
    · cases l
    · cases l
    · exact ⟨ob, l, c⟩
  have tk : ∀ {a : Addr} {vs : List V}, TK K a vs → ∃ ob, K.lookup a = some ob ∧ ob.cls = .type "tuple" := fun l => by
    rcases l (fun _ => none) with (l | ⟨_, l⟩) | ⟨ob, _, _, l, c, _⟩
    · cases l
    · cases l
    · exact ⟨ob, l, c⟩
  rcases h with h | ⟨a, vs, xs, rfl, rfl, _, h, _⟩ | ⟨a, ks, vs, ds, rfl, rfl, _, h, _⟩
  · cases h with
    | non => cases e; exact .base .non
    | bl b => cases e; exact .base (.bl b)
    | int b => cases e; exact .base (.int b)
    | str b => cases e; exact .base (.str b)
    | raw b => cases e
    | lst s l =>
      cases e
      rcases s with ⟨_, s | ⟨_, s⟩⟩ | s
      · exact .base (.lst s)
      · exact .base (.frz s)
      · obtain ⟨ob, h1, h2⟩ := lk s
        exact .kList h1 h2
    | tup s l =>
      cases e
      rcases s with ⟨_, s | ⟨_, s⟩⟩ | s
      · exact .base (.tup s)
      · exact .fTuple s
      · obtain ⟨ob, h1, h2⟩ := tk s
        exact .kTuple h1 h2
    | ins n s l k => cases e; exact .base (.ins s o.cl o.ha o.hn o.tk o.mo)
    | dic n s l k =>
      cases e
      rcases s with s | ⟨_, s⟩
      · exact .base (.dK s)
      · exact .fDict s
    | exc0 => cases e
    | exc n s l k => cases e
    | tpn n d s l => cases e; exact .fTuple s
  · cases e
    exact .base (.lst h)
  · cases e
    exact .base (.dK h)
/-- isinstance(x, c) -/
def rcIsi (K : PySem.W.Frag) : RDC := fun ds W Φ => match ds with
  | [x, .raw c] => ∃ t u b, tyD x = some t ∧ insOk K x ∧ ClsV c u ∧ PySem.W.kitOne K t u = some b ∧ Φ (.d (.bl b)) W
  | _ => False
theorem cd_isi {K : PySem.W.Frag} : CallD K (rIsi K) (rcIsi K) := by
  intro z As W H vs ds Φ Q wl hv h q
  unfold rcIsi at h
  split at h
  · obtain ⟨t, u, b, h1, h2, h3, h4, h5⟩ := h
    obtain ⟨v, c, rfl, g1, g2⟩ := hv.two
    obtain rfl := g2.raw
    exact ⟨v, _, t, u, b, rfl, h3, tyx_of g1 h1 h2, h4, q _ H _ As W ExtS.refl wl (.d (.bl _)) h5⟩
  · exact h.elim
section
variable {X : Cx} {a b e o : Expr} {ta tb te to : TE} {wa wb we : WE} {pos : Pos} {C g : Addr} {fd : FuncData} {ps : List Str} {wf : WFn} {n : Nat} {es : List Expr}
end

/-! ### own lists: append; slices -/
abbrev wApp (i : Nat) (we : WE) : WSt := fun Dd σd W => match slot σd i with
  | some (.own xs) => we σd W fun y W1 => (match y with
    | .d y => xs.length ≤ 1000000 ∧ Dd.nx (σd.set i (some (.own (xs ++ [y])))) W1
    | _ => False)
  | _ => False
section
variable {K : PySem.W.Frag} {z : Av} {O : Nat → Option Addr} {As : List (List Addr)} {σd : DS} {W : WS} {σ : St} {H : Hp}
/-- the own list in slot i changes -/
theorem Rep.turnOwn (r : Rep K z O As σd W σ H) {i : Nat} {a : Addr} {xs ys : List Dv} {us : List V} (hs : slot σd i = some (.own xs)) (ha : O i = some a) (hl : HasL K (bad (zo z (owOf O)) As) H us ys) :
    Rep K z O As (σd.set i (some (.own ys))) W σ (upd H a (.lst us)) ∧ ExtS As (owOf O) H As (owOf O) (upd H a (.lst us)) := by
  have za : zo z (owOf O) a := .inr ⟨i, ha⟩
  obtain ⟨w', mv⟩ := grow_at (o := .lst us) r.wld za
  have up : ∀ b, H b ≠ none → upd H a (.lst us) b ≠ none := fun b q => by
    unfold upd
    split
    · exact fun x => by cases x
    · exact q
  refine ⟨⟨w', by rw [List.length_set]; exact r.len, fun j d e => ?_, r.out, r.inj, fun j b q => ?_⟩, ⟨fun b o h n m => ⟨by rw [upd_ne (fun (e : b = a) => m (by rw [e]; exact ⟨i, ha⟩))]; exact h, n, m⟩, fun _ _ h => h, up⟩⟩
  · by_cases q : i = j
    · subst q
      have li : i < σd.length := (List.getElem?_eq_some_iff.mp (slot_at hs)).1
      rw [List.getElem?_set_self li] at e
      cases e
      obtain ⟨v, h1, b, vs, ho, hv, _⟩ := r.sl i _ (slot_at hs)
      rw [ha] at ho
      cases ho
      exact ⟨v, h1, a, us, ha, hv, upd_same, hl.mv mv⟩
    · rw [List.getElem?_set_ne q] at e
      obtain ⟨v, h1, h2⟩ := r.sl j d e
      refine ⟨v, h1, ?_⟩
      have st : ∀ b, O j = some b → upd H a (.lst us) b = H b := fun b hb => upd_ne fun e => q (r.inj i j a ha (e ▸ hb))
      cases d with
      | v x =>
        obtain ⟨g1, g2⟩ := h2
        refine ⟨g1, ?_⟩
        cases g2 with
        | d g2 => exact .d (g2.mv mv)
        | box g2 => exact .box g2
      | own zs =>
        obtain ⟨b, vs, g1, g2, g3, g4⟩ := h2
        exact ⟨b, vs, g1, g2, by rw [st b g1]; exact g3, g4.mv mv⟩
      | ownD ks ds =>
        obtain ⟨b, vs, g1, g2, g3, g4, g5⟩ := h2
        exact ⟨b, vs, g1, g2, by rw [st b g1]; exact g3, g4.mv mv, g5⟩
  · by_cases q2 : i = j
    · subst q2
      have li : i < σd.length := (List.getElem?_eq_some_iff.mp (slot_at hs)).1
      exact ⟨.own ys, List.getElem?_set_self li, rfl⟩
    · rw [List.getElem?_set_ne q2]
      exact r.oo j b q
theorem lt_line {n : Nat} (h : n ≤ 1000000) : n < sizeLine := Nat.lt_of_le_of_lt h (by decide)
theorem tso_app {i : Nat} {te : TE} {we : WE} (h : TEok K te we) : TSok K (tDrop (tBM K "list" rAppend (tVar i) (tCons te tNil))) (wApp i we) := by
  intro z O As σd W σ H Dd D r g q
  unfold wApp at g
  split at g
  · rename_i xs es
    obtain ⟨v, h1, a, vs, ho, rfl, h2, h3⟩ := r.sl i _ (slot_at es)
    refine ⟨_, h1, .inl ⟨rfl, vs, SqL.of h2⟩, h _ _ r g fun y H1 yd As1 W1 e wl hy p => ?_⟩
    split at p
    · rename_i yd
      have r1 := r.ext e wl
      obtain ⟨v', h1', a', vs', ho', hv', h2', h3'⟩ := r1.sl i _ (slot_at es)
      rw [ho] at ho'
      cases ho'
      have hy' : Has K (bad (zo z (owOf O)) As1) H1 y yd := by cases hy with | d hy => exact hy
      obtain ⟨r2, e2⟩ := r1.turnOwn es ho (h3'.append (.cons hy' .nil))
      refine ⟨a, vs', y, rfl, rfl, h2', ?_, q.nx _ W1 O As1 σ _ (e.own.trans e2) r2 p.2⟩
      rw [h3'.length]
      exact lt_line p.1
    · exact p.elim
  · exact g.elim
theorem tso_freeze {i : Nat} {t : TS} {w : WSt} (h : TSok K t w) : TSok K t (wFreeze i w) := by
  intro z O As σd W σ H Dd D r g q
  unfold wFreeze at g
  split at g
  · rename_i xs es
    obtain ⟨v, h1, a, vs, ho, rfl, h2, h3⟩ := r.sl i _ (slot_at es)
    have nb : ¬ bad (zo z (owOf (noO O i))) As a := fun b => by
      rcases b with b | b | ⟨j, b⟩
      · exact r.wld.zok.out a (.inr ⟨i, ho⟩) b
      · exact r.out i a ho b
      · unfold noO at b
        split at b
        · cases b
        · rename_i hj
          exact hj (r.inj j i a b ho)
    have hv : HasV K (zo z (owOf (noO O i))) As H (.ref a) (.d (.lst xs)) := .d (.lst (.inl ⟨nb, .inl h2⟩) (h3.mv (Mv.weak fun x q => q.imp id zo_sub)))
    have li : i < σd.length := (List.getElem?_eq_some_iff.mp (slot_at es)).1
    refine h Dd D (O := noO O i) ⟨r.wld.weak fun a => zo_sub, by rw [List.length_set]; exact r.len, fun j d e => ?_, fun j b q => ?_, fun j k b q1 q2 => ?_, fun j b q => ?_⟩ g (q.ext ext_noO)
    · by_cases q : i = j
      · subst q
        rw [List.getElem?_set_self li] at e
        cases e
        exact ⟨_, h1, by unfold noO; rw [if_pos rfl], hv⟩
      · rw [List.getElem?_set_ne q] at e
        obtain ⟨v', g1, g2⟩ := r.sl j d e
        refine ⟨v', g1, ?_⟩
        have : noO O i j = O j := by unfold noO; rw [if_neg (fun x => q x.symm)]
        rw [this]
        exact g2.weak fun a => zo_sub
    · unfold noO at q
      split at q
      · cases q
      · exact r.out j b q
    · unfold noO at q1 q2
      split at q1
      · cases q1
      · split at q2
        · cases q2
        · exact r.inj j k b q1 q2
    · unfold noO at q
      split at q
      · cases q
      · rename_i hj
        rw [List.getElem?_set_ne (fun x => hj x.symm)]
        exact r.oo j b q
  · exact g.elim
end
end DL

namespace DLX
open PySem PySem.Spec PyProof.Rows L2
/-- x[::st] where st comes to -1: the list turned about, new -/
def tTurn (K : PySem.W.Frag) (te : TE) : TE := fun σ H Q => te σ H fun x H1 => ∃ a xs, x = .ref a ∧ SqL K H1 a xs ∧ ∀ p, H1 p = none → Q (.ref p) (upd H1 p (.lst xs.reverse))
theorem pe_turn {X : Cx} {e st : Expr} {te : TE} {to : TO} {p3 pos : Pos} (he : PE X e te) (hst : PO X (some st) to) (hv : ∀ σ H, to σ H fun o H1 => o = some (-1) ∧ H1 = H) : PE X (.Subscript e (.Slice none none (some st) p3) pos) (tTurn X.K te) := by
  refine ⟨fun pins s σ H Q I h => ?_⟩
  refine Subscript_ ?_
  refine thn (he.run pins s σ H _ I h) fun v s1 hx => ?_
  obtain ⟨x, H1, I1, r1, a, xs, rfl, hq, q⟩ := hx
  obtain rfl : v = Value.ref a := r1
  refine wpAny_Slice ?_
  refine thn (po_none.run pins s1 σ H1 (fun o Ho => o = none ∧ Ho = H1) I1 ⟨rfl, rfl⟩) fun l s2 hl => ?_
  obtain ⟨o1, Ho1, J1, pl, rfl, rfl⟩ := hl
  refine thn (po_none.run pins s2 σ Ho1 (fun o Ho => o = none ∧ Ho = Ho1) J1 ⟨rfl, rfl⟩) fun u s3 hu => ?_
  obtain ⟨o2, Ho2, J2, pu, rfl, rfl⟩ := hu
  refine thn (hst.run pins s3 σ Ho2 (fun o Ho => o = some (-1) ∧ Ho = Ho2) J2 (hv σ Ho2)) fun t s4 ht => ?_
  obtain ⟨o3, Ho3, J3, pt, rfl, rfl⟩ := ht
  have J4 : Inv X pins σ Ho3 { s4 with heap := s4.heap.push { cls := .type "slice", data := .fields #[l, u, t] } } := J3.kept (t' := s4.toks) fun b ob q => Heap.get?_push_of_some _ q
  obtain ⟨its, r, hL, hz⟩ := J4.list hq
  have hn := r.length
  refine tail_any (ops := [.ref a, .ref s4.heap.objs.size]) hL.isList.typeIs PySem.slot_list_getitem.lookup ?_ (by with_unfolding_all rfl)
  refine wpAny_getItem_list_slice hL.isList (Heap.IsSliceOf.new _ l u t) pl pu pt (by decide) ?_ (by rw [List.size_toArray]; omega)
  rw [PySem.W.krv_pick]
  refine ⟨.ref _, _, J4.laid (t' := s4.toks) (o := .lst xs.reverse) (fun b ob q => Heap.get?_push_of_some _ q) (Nat.le_refl _) ?_, rfl, q _ (J4.hok.fresh (Nat.le_refl _))⟩
  exact ⟨by rw [List.length_reverse]; exact hz, _, 0, r.reverse, Heap.get?_push_size _ rfl⟩
end DLX
namespace DL
open PySem L2
/-! ### a[lo:hi] of a list, a[::-1] -/
def wOptN : DS → WS → (Option Int → WS → Prop) → Prop := fun _ W Φ => Φ none W
def wOptS (w : WB) : DS → WS → (Option Int → WS → Prop) → Prop := fun σd W Φ => w σd W fun x W1 => match x with
  | .int i => Φ (some i) W1
  | _ => False
def TOok (K : PySem.W.Frag) (t : TO) (w : WO) : Prop := ∀ {z : Av} {O : Nat → Option Addr} {As : List (List Addr)} {σd : DS} {W : WS} {σ : St} {H : Hp} (Φ : Option Int → WS → Prop) (Q : Option Int → Hp → Prop), Rep K z O As σd W σ H → w σd W Φ →
  (∀ o H' As' W', Ext As H As' H' → Wld K (zo z (owOf O)) As' W' H' → Φ o W' → Q o H') → t σ H Q
structure POD (X : Cx) (e : Option Expr) (t : TO) (w : WO) : Prop where
  po : PO X e t
  ok : TOok X.K t w
def wSlL (we : WB) (wl wh : WO) : WF := fun σd W Φ => we σd W fun x W1 => wl σd W1 fun l W2 => wh σd W2 fun h W3 => match x with
  | .lst xs => Φ (cutD xs l h) W3
  | _ => False
def wTurn (we : WB) : WF := fun σd W Φ => we σd W fun x W1 => match x with
  | .lst xs => Φ xs.reverse W1
  | _ => False
section
variable {K : PySem.W.Frag} {te : TE} {we : WB}
theorem too_none : TOok K tNoPart wOptN := fun Φ Q r g q => q none _ _ _ ExtS.refl r.wld g
theorem too_some (h : TBok K te we) : TOok K (tPart te) (wOptS we) := by
  intro z O As σd W σ H Φ Q r g q
  refine h _ _ r g fun v H1 x As1 W1 e wl hv p => ?_
  split at p
  · obtain rfl := hv.int
    exact ⟨_, rfl, q _ H1 As1 W1 e wl p⟩
  · exact p.elim
theorem tfo_sl {tl th : TO} {wl wh : WO} (h : TBok K te we) (hl : TOok K tl wl) (hh : TOok K th wh) : TFok K (tSl (rSlL K) te tl th) (wSlL we wl wh) := by
  intro z O As σd W σ H Φ Q r g q
  refine h _ _ r g fun v H1 x As1 W1 e1 w1 hv p1 => ?_
  refine hl _ _ (r.ext e1 w1) p1 fun l H2 As2 W2 e2 w2 p2 => ?_
  refine hh _ _ ((r.ext e1 w1).ext e2 w2) p2 fun k H3 As3 W3 e3 w3 p3 => ?_
  split at p3
  · rename_i xs
    obtain ⟨a, vs, rfl, s, hL⟩ := ((hv.ext w1.zok e2).ext w2.zok e3).lst
    refine ⟨a, vs, rfl, s, fun t ht => ?_⟩
    have e13 := (e1.trans e2).trans e3
    refine q t _ (cutV vs l k) (cutD xs l k) As3 W3 (up_none e13 ht) (e13.trans (Ext.new ht)) (zk1 w3 ht) upd_same ?_ p3
    unfold cutV cutD
    rw [hL.length]
    exact ((hL.drop _).take _).mv (mv1 ht)
  · exact p3.elim
theorem tfo_turn (h : TBok K te we) : TFok K (DLX.tTurn K te) (wTurn we) := by
  intro z O As σd W σ H Φ Q r g q
  refine h _ _ r g fun v H1 x As1 W1 e1 w1 hv p1 => ?_
  split at p1
  · obtain ⟨a, vs, rfl, s, hL⟩ := hv.lst
    exact ⟨a, vs, rfl, s, fun t ht => q t _ _ _ As1 W1 (up_none e1 ht) (e1.trans (Ext.new ht)) (zk1 w1 ht) upd_same (hL.reverse.mv (mv1 ht)) p1⟩
  · exact p1.elim
end
section
variable {X : Cx} {e : Expr} {te : TE} {we : WB} {p2 pos : Pos} {lo hi : Option Expr} {tl th : TO} {wl wh : WO}
theorem o_none : POD X none tNoPart wOptN := ⟨po_none, too_none⟩
theorem o_some (h : PB X e te we) : POD X (some e) (tPart te) (wOptS we) := ⟨po_some h.pe, too_some h.ok⟩
theorem f_sl (h : PB X e te we) (hl : POD X lo tl wl) (hh : POD X hi th wh) : PF X (.Subscript e (.Slice lo hi none p2) pos) (tSl (rSlL X.K) te tl th) (wSlL we wl wh) := ⟨pe_slice sl_list h.pe hl.po hh.po, tfo_sl h.ok hl.ok hh.ok⟩
/-- e[::0 - 1] -/
theorem f_turn {j1 j2 : Nat} {q1 q2 q3 : Pos} (h : PB X e te we) : PF X (.Subscript e (.Slice none none (some (.BinOp (.Constant (.int 0) j1 q1) .Sub (.Constant (.int 1) j2 q2) q3)) p2) pos) (DLX.tTurn X.K te) (wTurn we) :=
  ⟨DLX.pe_turn h.pe (po_some (pe_op op_sub pe_int pe_int)) (fun σ H => ⟨0, 1, rfl, rfl, _, rfl, rfl, rfl⟩), tfo_turn h.ok⟩
end
/-! ### comprehensions as rules -/
structure PTsD (X : Cx) (ifs : List Expr) (t : TT) (w : WT) : Prop where
  pt : PTs X ifs t
  ok : TTok X.K t w
section
variable {X : Cx} {c : Expr} {tt : TT} {wt : WT}
theorem ts_nil : PTsD X [] tYes wYes := ⟨pts_nil, tto_yes⟩
theorem ts_one (h : PTD X c tt wt) : PTsD X [c] tt wt := ⟨pts_one h.pt, h.ok⟩
variable {elt tg iter : Expr} {ifs : List Expr} {scope : Scope} {own : List (Str × Nat)} {pos spos py : Pos} {wi : TI} {w : WI} {g : TG} {tgt : Tgt} {is : List Nat} {te : TE} {we : WE} {y : Str}
theorem f_lc (hc : X.calm = true) (hN : X.N.Nodup) (hi : PID X tg iter wi w) (ok : BlkOk X.N X.env.scope scope own)
    (hg : ∀ (s : Shared) (H : Hp) (C : Addr) (cl : List (Str × Addr)) (fp : List Addr), PGD (X.blk s H scope (compEnvC scope cl C X.env) fp) tg g tgt is)
    (ht : ∀ (s : Shared) (H : Hp) (C : Addr) (cl : List (Str × Addr)) (fp : List Addr), PTsD (X.blk s H scope (compEnvC scope cl C X.env) fp) ifs tt wt)
    (he : ∀ (s : Shared) (H : Hp) (C : Addr) (cl : List (Str × Addr)) (fp : List Addr), PD (X.blk s H scope (compEnvC scope cl C X.env) fp) elt te we)
    (hsub : ∀ i, i ∈ is → i ∈ own.map (·.2)) (hs : ∀ x, foldedSetIterable iter X.env x = pure x := by intro _; rfl) :
    PF X (.ListComp elt [⟨tg, iter, ifs, 0⟩] scope pos) (tLc wi g tt te (own.map (·.2))) (wLc w tgt wt we (own.map (·.2))) :=
  ⟨pe_lc hc hN hi.pi ok (fun s H C cl fp => (hg s H C cl fp).pg) (fun s H C cl fp => (ht s H C cl fp).pt) (fun s H C cl fp => (he s H C cl fp).pe) hs,
   tfo_lc hi.ok (hg X.s_0 X.H_0 0 [] []).ok (ht X.s_0 X.H_0 0 [] []).ok (he X.s_0 X.H_0 0 [] []).ok hsub⟩
theorem s_lcO {i : Nat} (hc : X.calm = true) (hN : X.N.Nodup) (hy : X.N[i]? = some y) (hyl : X.env.scope.names.lookup y = some .local)
    (hsw : swapsWith (.ListComp elt [⟨tg, iter, ifs, 0⟩] scope pos) (some (.Name y py)) spos.line X.env = pure true) (hi : PID X tg iter wi w) (ok : BlkOk X.N X.env.scope scope own)
    (hg : ∀ (s : Shared) (H : Hp) (C : Addr) (cl : List (Str × Addr)) (fp : List Addr), PGD (X.blk s H scope (compEnvC scope cl C X.env) fp) tg g tgt is)
    (ht : ∀ (s : Shared) (H : Hp) (C : Addr) (cl : List (Str × Addr)) (fp : List Addr), PTsD (X.blk s H scope (compEnvC scope cl C X.env) fp) ifs tt wt)
    (he : ∀ (s : Shared) (H : Hp) (C : Addr) (cl : List (Str × Addr)) (fp : List Addr), PD (X.blk s H scope (compEnvC scope cl C X.env) fp) elt te we)
    (hsub : ∀ i, i ∈ is → i ∈ own.map (·.2)) (hs : ∀ x, foldedSetIterable iter X.env x = pure x := by intro _; rfl) :
    PDS X (.Assign [.Name y py] (.ListComp elt [⟨tg, iter, ifs, 0⟩] scope pos) spos) (tAsg (tLc wi g tt te (own.map (·.2))) (gName i)) (wSet (wFr (wLc w tgt wt we (own.map (·.2)))) i) :=
  ⟨ps_setLc hc hN hy hyl hsw hi.pi ok (fun s H C cl fp => (hg s H C cl fp).pg) (fun s H C cl fp => (ht s H C cl fp).pt) (fun s H C cl fp => (he s H C cl fp).pe) hs,
   tso_set (teo_fr (tfo_lc hi.ok (hg X.s_0 X.H_0 0 [] []).ok (ht X.s_0 X.H_0 0 [] []).ok (he X.s_0 X.H_0 0 [] []).ok hsub))⟩
end
/-! ### short words for operators -/
section
variable {X : Cx} {K : PySem.W.Frag}
theorem hi2 (f : Int → Int → Int) : ∀ i j N H, Has K N H ((fun i j => V.int (f i j)) i j) ((fun i j => Dv.int (f i j)) i j) := fun i j _ _ => .int _
theorem hb2 (f : Int → Int → Bool) : ∀ i j N H, Has K N H ((fun i j => V.bl (f i j)) i j) ((fun i j => Dv.bl (f i j)) i j) := fun i j _ _ => .bl _
theorem o_add : OpD K (rI0 fun i j => .int (i + j)) (rdI0 fun i j => .int (i + j)) := od_I0 (hi2 fun i j => i + j)
theorem o_sub : OpD K (rI0 fun i j => .int (i - j)) (rdI0 fun i j => .int (i - j)) := od_I0 (hi2 fun i j => i - j)
theorem o_mul : OpD K (rI CMul fun i j => .int (i * j)) (rdI CMul fun i j => .int (i * j)) := od_I (hi2 fun i j => i * j)
theorem o_mod : OpD K (rI (fun _ j => 0 < j) fun i j => .int (i % j)) (rdI (fun _ j => 0 < j) fun i j => .int (i % j)) := od_I (hi2 fun i j => i % j)
theorem o_pow : OpD K (rI CPow fun i j => .int (i ^ j.toNat)) (rdI CPow fun i j => .int (i ^ j.toNat)) := od_I (hi2 fun i j => i ^ j.toNat)
theorem o_lt : OpD K (rI0 fun i j => .bl (decide (i < j))) (rdI0 fun i j => .bl (decide (i < j))) := od_I0 (hb2 fun i j => decide (i < j))
theorem o_gt : OpD K (rI0 fun i j => .bl (decide (j < i))) (rdI0 fun i j => .bl (decide (j < i))) := od_I0 (hb2 fun i j => decide (j < i))
theorem o_ge : OpD K (rI0 fun i j => .bl (decide (j ≤ i))) (rdI0 fun i j => .bl (decide (j ≤ i))) := od_I0 (hb2 fun i j => decide (j ≤ i))
end
end DL

namespace DLX
open PySem PySem.Spec PyProof.Rows L2
section
variable {X : Cx}
/-- xs == [], xs != [] whatever the items are -/
theorem op_neNil (hu : X.A.units + 64 < cLine) : OpR X (compareOp .NotEq) (fun x y H Q => ∃ a b xs, x = .ref a ∧ y = .ref b ∧ SqL X.K H a xs ∧ SqL X.K H b [] ∧ Q (.bl (!xs.isEmpty)) H) := by
  intro pins s σ H x y v u Q I rx ry h
  obtain ⟨a, b, xs, rfl, rfl, ha, hb, q⟩ := h
  cases xs with
  | nil => exact op_neD hu pins s σ H (.ref a) (.ref b) v u Q I rx ry ⟨.list [], .list [], .lst ha .nil, .lst hb .nil, rfl, rfl, q⟩
  | cons x xs =>
    obtain rfl : v = Value.ref a := rx
    obtain rfl : u = Value.ref b := ry
    obtain ⟨its, r, hl, _⟩ := I.list ha
    obtain ⟨its2, r2, hl2, _⟩ := I.list hb
    have n1 := r.length
    have n2 := r2.length
    show wpAny (model X.prog X.w) X.A (richCompare .NotEq (.ref a) (.ref b)) (EP X pins σ Q) X.xe s
    refine SeqAt.RcNeAt.lists_lengths hl.isList hl2.isList ?_ (by omega) X.prog X.w _ _ ⟨.bl true, H, I, rfl, q⟩
    rw [List.size_toArray, List.size_toArray, ← n1, ← n2]
    simp
end
end DLX
namespace DL
open PySem L2
section
variable {K : PySem.W.Frag}
end
section
variable {X : Cx} {a b c e : Expr} {ta tb tc te : TE} {wa wb wc we : WB} {pos : Pos}
end

/-! ### two own lists -/
section
variable {K : PySem.W.Frag}
end
section
variable {K : PySem.W.Frag}
end
section
variable {X : Cx} {x y : Str} {a b e : Expr} {t1 t2 te : TE} {w1 w2 : WF} {we : WB} {pos pos2 : Pos}
theorem s_app (i : Nat) {te : TE} {we : WE} (hp : PS X (.Expr e pos) (tDrop (tBM X.K "list" rAppend (tVar i) (tCons te tNil)))) (h : TEok X.K te we) : PDS X (.Expr e pos) (tDrop (tBM X.K "list" rAppend (tVar i) (tCons te tNil))) (wApp i we) := ⟨hp, tso_app h⟩
end

/-! ### a law's drawing: two numbers' sources, told by what holds of them -/
/-- the draw: any number below the bound comes out -/
def wfDraw : WFn := fun xs W Φ => match xs with
  | [.box j, .d (.int n)] => W[j]? = some (.obj dealK) ∧ (0 < n ∧ n ≤ 1000000000000000000000000000000) ∧ ∀ r : Int, 0 ≤ r → r < n → Φ (.d (.int r)) W
  | _ => False
def scriptOk (ns : List Int) : Prop := ns.length ≤ 63 ∧ ∀ k, k ∈ ns → Builtin.Int.intBits k ≤ 1048576
def wfDeal : WFn := fun xs W Φ => match xs with
  | [.d (.lst xs), .d (.int b)] => (∃ ns, xs = ns.map Dv.int ∧ scriptOk ns) ∧ (0 ≤ b ∧ b ≤ 1000) ∧ Φ (.box W.length) (W ++ [.obj dealK])
  | _ => False
section
variable {K : PySem.W.Frag}
end
end DL

namespace DLX
open PySem PySem.Spec PyProof.Rows L2
def rCatA (K : PySem.W.Frag) : R2 := fun x y H Q => ∃ l b xs ys, x = .ref l ∧ y = .ref b ∧ SqL K H l xs ∧ SqL K H b ys ∧ xs.length + ys.length ≤ sizeLine ∧ ∀ p, H p = none → Q (.ref p) (upd H p (.lst (xs ++ ys)))
/-- xs + ys, lists wherever they stand -/
theorem op_catL {X : Cx} : OpR X (binaryOp .Add) (rCatA X.K) := by
  intro pins s σ H x y v u Q I rx ry h
  obtain ⟨l, b, xs, ys, rfl, rfl, hl, hb, hz, q⟩ := h
  obtain rfl : v = Value.ref l := rx
  obtain rfl : u = Value.ref b := ry
  obtain ⟨is, r1, p1, _⟩ := I.list hl
  obtain ⟨js, r2, p2, _⟩ := I.list hb
  have n1 := r1.length
  have n2 := r2.length
  obtain ⟨⟨c1, d1, t1, s1⟩, k1, g1, e1, f1, m1⟩ := p1
  obtain ⟨⟨c2, d2, t2, s2⟩, k2, g2, e2, f2, m2⟩ := p2
  simp only at e1 m1 e2 m2
  subst e1 m1 e2 m2
  have ea : is.toArray ++ js.toArray = (is ++ js).toArray := by simp
  refine concat_meets ⟨_, g1, rfl⟩ ⟨_, g2, rfl⟩ noFill_list_add seq_list_add PySem.F.slot_list_add PySem.F.entry_list_add (PySem.F.args_list_add_2 _ _) (list_addW l b is.toArray js.toArray k1 k2 d1 d2 s1 s2 ?_) ⟨g1, g2, ?_⟩
  · simp only [List.size_toArray]
    omega
  · rw [ea]
    exact ⟨.ref _, _, I.lnew (t' := s.toks) (r1.append r2) (by rw [List.length_append]; omega), rfl, q _ I.fresh⟩
end DLX
namespace DL
open PySem L2
abbrev Few (cpos : Pos) (es : List Expr) (env : Env) : Prop :=
  ((backTo cpos (starEach es env)).all (fun x => !x.1) && (backToKw cpos (keywordEach [] env)).all (fun x => x.1.isSome) && decide (es.length + ([] : List Keyword).length + (if ([] : List Keyword).isEmpty then 0 else 1) < 30)) = true
section
variable {X : Cx} {o e e2 o2 : Expr} {te : TE} {we : WE} {wb : WB} {pos cpos apos apos2 cpos2 : Pos}
theorem l_app {o e : Expr} {to te : TE} {apos cpos : Pos} (ho : PE X o to) (he : PE X e te) (h1 : attributeBase o "append" X.env (eval o X.env) = eval o X.env) (h2 : Few cpos [e] X.env) (h3 : (apos.endLine == cpos.line) = true) (h4 : starEach [e] X.env = (false, eval e X.env) :: starEach [] X.env) :
    PE X (.Call (.Attribute o "append" apos) [e] [] cpos) (tBM X.K "list" rAppend to (tCons te tNil)) :=
  pe_bm PySem.F.plainAttrs_list PySem.F.slot_list_append PySem.F.type_list_append mt_append ho (pa_cons he pa_nil h4) h1 h2 h3 h4 rfl
theorem sa (i : Nat) (ho : PE X o (tVar i)) (h : PD X e te we) (h1 : attributeBase o "append" X.env (eval o X.env) = eval o X.env := by rfl) (h2 : Few cpos [e] X.env := by rfl) (h3 : (apos.endLine == cpos.line) = true := by rfl) (h4 : starEach [e] X.env = (false, eval e X.env) :: starEach [] X.env := by rfl)
    (h5 : swapsWith (.Call (.Attribute o "append" apos) [e] [] cpos) none pos.line X.env = pure false := by rfl) : PDS X (.Expr (.Call (.Attribute o "append" apos) [e] [] cpos) pos) (tDrop (tBM X.K "list" rAppend (tVar i) (tCons te tNil))) (wApp i we) :=
  s_app i (ps_expr (l_app ho h.pe h1 h2 h3 h4) h5) h.ok
end
/-! ### what helps in the readings -/
theorem ite_d {c : Prop} [Decidable c] {A B : Prop} (h1 : c → A) (h2 : ¬ c → B) : if decide c = true then A else B := by
  by_cases h : c
  · rw [decide_eq_true h]
    exact h1 h
  · rw [decide_eq_false h]
    exact h2 h
/-- a loop by what holds at its turns; N: what the turn is to reach -/
theorem loop_by {tgt : Tgt} {wb : WSt} {Dd : DEnds} (I : List Sv → DS → WS → Prop) : ∀ {xs : List Sv} {σ : DS} {W : WS}, I xs σ W → (∀ σ W, I [] σ W → Dd.nx σ W) →
    (∀ x xs σ W (N : DS → WS → Prop), I (x :: xs) σ W → (∀ σ W, I xs σ W → N σ W) → ∃ σ', tgt x σ = some σ' ∧ wb { Dd with nx := N, ct := N, bk := Dd.nx } σ' W) → wLoop tgt wb xs Dd σ W
  | [], σ, W, h, h0, _ => h0 σ W h
  | x :: xs, σ, W, h, h0, hs => by
    obtain ⟨σ', e, q⟩ := hs x xs σ W (wLoop tgt wb xs Dd) h fun σ W i => loop_by I i h0 hs
    unfold wLoop
    rw [e]
    exact q
/-- xs + ys -/
def wCat (wa wb : WB) : WF := fun σd W Φ => wa σd W fun x W1 => wb σd W1 fun y W2 => match x, y with
  | .lst xs, .lst ys => xs.length + ys.length ≤ 1000000 ∧ Φ (xs ++ ys) W2
  | _, _ => False
section
variable {K : PySem.W.Frag}
theorem tfo_cat {ta tb : TE} {wa wb : WB} (ha : TBok K ta wa) (hb : TBok K tb wb) : TFok K (tOp (DLX.rCatA K) ta tb) (wCat wa wb) := by
  intro z O As σd W σ H Φ Q r g q
  refine ha _ _ r g fun v H1 x As1 W1 e1 w1 hx p1 => ?_
  refine hb _ _ (r.ext e1 w1) p1 fun u H2 y As2 W2 e2 w2 hy p2 => ?_
  split at p2
  · obtain ⟨a, vs, rfl, s1, l1⟩ := (hx.ext w1.zok e2).lst
    obtain ⟨b, us, rfl, s2, l2⟩ := hy.lst
    refine ⟨a, b, vs, us, rfl, rfl, s1, s2, by rw [l1.length, l2.length]; exact line_of p2.1, fun t ht => ?_⟩
    exact q t _ _ _ As2 W2 (up_none (e1.trans e2) ht) ((e1.trans e2).trans (Ext.new ht)) (zk1 w2 ht) upd_same ((l1.append l2).mv (mv1 ht)) p2.2
  · exact p2.elim
end
section
variable {X : Cx} {st : Stmt}
theorem f_cat {a b : Expr} {ta tb : TE} {wa wb : WB} {pos : Pos} (ha : PB X a ta wa) (hb : PB X b tb wb) : PF X (.BinOp a .Add b pos) (tOp (DLX.rCatA X.K) ta tb) (wCat wa wb) := ⟨pe_op DLX.op_catL ha.pe hb.pe, tfo_cat ha.ok hb.ok⟩
end
section
variable {K : PySem.W.Frag} {z : Av} {As : List (List Addr)} {W : WS} {H H' : Hp}
theorem Ext.turnG {l : List Addr} {j : Nat} (hj : As[j]? = some l) (k : ∀ b o, H b = some o → b ∉ l → H' b = some o) (t : ∀ a, a ∈ l → H' a ≠ none) : Ext As H As H' :=
  ⟨fun b o e n _ => ⟨k b o e fun q => n ⟨l, List.mem_of_getElem? hj, q⟩, n, fun f => f⟩, fun _ _ q => q, fun a q => by
    by_cases m : a ∈ l
    · exact t a m
    · cases r : H a with
      | none => exact absurd r q
      | some o => rw [k a o r m]; exact fun x => by cases x⟩
theorem set_same {α : Type} {xs : List α} {j : Nat} {x : α} (h : xs[j]? = some x) : xs.set j x = xs := by
  apply List.ext_getElem?
  intro i
  by_cases q : j = i
  · subst q
    rw [List.getElem?_set_self (List.getElem?_eq_some_iff.mp h).1, h]
  · rw [List.getElem?_set_ne q]
theorem Wld.turnG {l : List Addr} {j : Nat} {o : WObj} (w : Wld K z As W H) (hj : As[j]? = some l) (k : ∀ b o, H b = some o → b ∉ l → H' b = some o) (t : ∀ a, a ∈ l → H' a ≠ none) (r : WRep K z As H' l o) : Wld K z As (W.set j o) H' := by
  have e : Ext As H As H' := Ext.turnG hj k t
  refine ⟨by rw [List.length_set]; exact w.len, fun i l' u h1 h2 => ?_, fun a q => e.up a (w.trk a q), w.dis, w.zok.ext e⟩
  by_cases q : j = i
  · subst q
    rw [hj] at h1
    cases h1
    rw [List.getElem?_set] at h2
    simp only [if_true] at h2
    split at h2
    · cases h2
      exact r
    · cases h2
  · rw [List.getElem?_set_ne q] at h2
    refine (w.rep i l' u h1 h2).ext e fun a m => ?_
    cases r : H a with
    | none => exact absurd r (w.trk a ⟨l', List.mem_of_getElem? h1, m⟩)
    | some o => exact k a o r fun m' => q (w.dis j i l l' a hj h1 m' m)
end
theorem bits_log {k : Int} (h : Builtin.Int.intBits k ≤ 1048576) : k.natAbs.log2 ≤ 1048580 := by
  unfold Builtin.Int.intBits at h
  split at h <;> simp_all <;> omega
end DL

namespace DL
open PySem L2
/-- a comprehension whose test and element are known -/
theorem lcL_fm {tgt : Tgt} {wt : WT} {we : WE} {vs : List Nat} {σ : DS} (p : Dv → Bool) (f : Dv → Dv) : ∀ {xs acc : List Dv} {W : WS} {Φ : List Dv → WS → Prop},
    (∀ x, x ∈ xs → ∃ σ2, tgt (.d x) (wipeD σ vs) = some σ2 ∧ (∀ W (Ψ : Bool → WS → Prop), Ψ (p x) W → wt σ2 W Ψ) ∧ (p x = true → ∀ W (Ψ : Sv → WS → Prop), Ψ (.d (f x)) W → we σ2 W Ψ)) →
    Φ (acc ++ (xs.filter p).map f) W → wLcL tgt wt we vs σ xs acc W Φ
  | [], acc, W, Φ, _, h => by
    unfold wLcL
    simpa using h
  | x :: xs, acc, W, Φ, hx, h => by
    obtain ⟨σ2, e, ht, he⟩ := hx x List.mem_cons_self
    unfold wLcL
    rw [e]
    refine ht W _ ?_
    have ih := fun {acc : List Dv} {W : WS} => lcL_fm (W := W) (acc := acc) (Φ := Φ) p f (xs := xs) fun y hy => hx y (List.mem_cons_of_mem _ hy)
    cases hp : p x with
    | true =>
      rw [if_pos rfl]
      refine he hp W _ ?_
      show wLcL tgt wt we vs σ xs (acc ++ [f x]) W Φ
      refine ih ?_
      rw [List.filter_cons_of_pos hp] at h
      simpa using h
    | false =>
      rw [if_neg Bool.false_ne_true]
      refine ih ?_
      rw [List.filter_cons_of_neg (by rw [hp]; exact Bool.false_ne_true)] at h
      exact h
theorem fldN {C : Addr} {f : Str} {wo we : WE} {Dd : DEnds} {σ : DS} {W : WS} {y : Sv} {j : Nat} {ks : List Str} {ds : List Sv} (hy : ∀ Φ : Sv → WS → Prop, Φ y W → we σ W Φ) (ho : ∀ Φ : Sv → WS → Prop, Φ (.box j) W → wo σ W Φ)
    (hw : W[j]? = some (.ins C ks ds)) (hf : f ∉ ks) (hl : ks.length < 900) (h : Dd.nx σ (W.set j (.ins C (ks ++ [f]) (ds ++ [y])))) : wFldN C f wo we Dd σ W := by
  unfold wFldN
  refine hy _ (ho _ ?_)
  simp only [hw]
  exact ⟨trivial, hf, hl, h⟩
theorem set_last {α : Type} {xs : List α} {x y : α} : (xs ++ [x]).set xs.length y = xs ++ [y] := by
  induction xs with
  | nil => rfl
  | cons a b ih => simp only [List.cons_append, List.length_cons, List.set_cons_succ, ih]
theorem at_last {α : Type} {xs : List α} {x : α} : (xs ++ [x])[xs.length]? = some x := List.getElem?_concat_length ..
/-! what any value is -/
def isIntD : Dv → Bool
  | .int _ => true
  | _ => false
def wfIsInt (K : PySem.W.Frag) : WFn := fun xs W Φ => match xs with
  | [.d x] => isiOk K x ∧ Φ (.d (.bl (isIntD x))) W
  | _ => False
def wfIsFrom (K : PySem.W.Frag) : WFn := fun xs W Φ => match xs with
  | [.d x, .d (.int l)] => isiOk K x ∧ Φ (.d (.bl (isFromD x l))) W
  | _ => False
def wfPick : WFn := fun xs W Φ => match xs with
  | [.box j, .d (.lst ys)] => W[j]? = some (.obj dealK) ∧ (ys ≠ [] ∧ ys.length ≤ 1000000) ∧ ∀ x, x ∈ ys → Φ (.d x) W
  | _ => False
theorem atI_mem {α : Type} {xs : List α} {r : Int} (h0 : 0 ≤ r) (h : r < xs.length) : ∃ x, L2.atI xs r = some x ∧ x ∈ xs := by
  have hr : r.toNat < xs.length := by omega
  refine ⟨xs[r.toNat], ?_, List.getElem_mem hr⟩
  have e : (r.toNat : Int) = r := by omega
  have := L2.atI_nat (xs := xs) (j := r.toNat) (List.getElem?_eq_getElem hr)
  rw [e] at this
  exact this
end DL

namespace DL
open PySem L2
/-- a loop over numbers -/
theorem loop_r {i : Nat} {wb : WSt} {Dd : DEnds} {lo : Int} {n : Nat} (I : DS → WS → Prop) {σ : DS} {W : WS} (h : I σ W) (h0 : ∀ σ W, I σ W → Dd.nx σ W)
    (hs : ∀ (k : Int), lo ≤ k → k < lo + n → ∀ σ W (N : DS → WS → Prop), I σ W → (∀ σ W, I σ W → N σ W) → wb { Dd with nx := N, ct := N, bk := Dd.nx } (σ.set i (some (.v (.d (.int k))))) W) : wLoop (tgN i) wb ((rangeD lo n).map Sv.d) Dd σ W := by
  refine loop_by (fun xs σ W => I σ W ∧ ∀ x, x ∈ xs → ∃ k : Int, x = .d (.int k) ∧ lo ≤ k ∧ k < lo + n) ⟨h, fun x hx => ?_⟩ (fun σ W h => h0 σ W h.1) fun x xs σ W N ⟨h, hx⟩ hN => ?_
  · obtain ⟨d, hd, rfl⟩ := List.mem_map.mp hx
    obtain ⟨k, hk, rfl⟩ := List.mem_map.mp hd
    have := List.mem_range.mp hk
    exact ⟨_, rfl, by omega, by omega⟩
  · obtain ⟨k, rfl, h1, h2⟩ := hx x List.mem_cons_self
    exact ⟨_, rfl, hs k h1 h2 σ W N h fun σ W i => hN σ W ⟨i, fun y hy => hx y (List.mem_cons_of_mem _ hy)⟩⟩
/-- the last of a chain of two -/
theorem rng_ok {n : Int} (h0 : 0 ≤ n) (h : n ≤ 1000000000) : -4611686018427387904 ≤ n ∧ n < 4611686018427387904 := by omega
theorem mx_mn {l : Nat} (h : l ≤ 63) {a b : Int} (ha : 0 ≤ a ∧ a ≤ 1000) (hb : 0 ≤ b ∧ b ≤ 1000) : 0 ≤ mx a (mn b (l : Int)) ∧ mx a (mn b (l : Int)) ≤ 1000 := by
  unfold mx mn
  split <;> split <;> omega
theorem nxp {X : DS → WS → Prop} {rt : Sv → WS → Prop} {bk ct : DS → WS → Prop} {σ : DS} {W : WS} (h : X σ W) : DEnds.nx { nx := X, rt := rt, bk := bk, ct := ct } σ W := h
theorem sif_f {t : WT} {a b : WSt} {D : DEnds} {σ : DS} {W : WS} (h : ∀ Ψ : Bool → WS → Prop, Ψ false W → t σ W Ψ) (k : b D σ W) : wSeq (wIfS t a wNext) b D σ W := h _ k
theorem lif_f {t : WT} {a : WSt} {D : DEnds} {σ : DS} {W : WS} (h : ∀ Ψ : Bool → WS → Prop, Ψ false W → t σ W Ψ) (k : D.nx σ W) : wIfS t a wNext D σ W := h _ k
/-- what kinds of things are -/
theorem kit_pt {K : PySem.W.Frag} {T : String} {C : Addr} {b : Bool} (h1 : PySem.W.isClsIn K C = true) (h2 : PySem.W.typeIn K (.ref C) = some (.type "type")) (h : (PySem.fastBuiltinMro T).map (·.contains (Value.ref C)) = some b) : PySem.W.kitOne K (.type T) (.ref C) = some b := by
  unfold PySem.W.kitOne
  rw [if_neg (show ¬ (Value.type T == Value.ref C) = true from fun e => by cases beq_iff_eq.mp e)]
  show (if ((PySem.W.clsIn K C).isSome && PySem.W.typeIn K (.ref C) == some (.type "type")) = true then PySem.W.subIn K (.type T) (.ref C) else none) = some b
  rw [h2, show (PySem.W.clsIn K C).isSome = true from h1, if_pos (by simp)]
  exact h
theorem kit_rr {K : PySem.W.Frag} {C D : Addr} {b : Bool} (h1 : PySem.W.isClsIn K C = true) (h2 : PySem.W.typeIn K (.ref C) = some (.type "type")) (hn : (Value.ref D == Value.ref C) = false) (h : PySem.W.mroIn K D (.ref C) = some b) : PySem.W.kitOne K (.ref D) (.ref C) = some b := by
  unfold PySem.W.kitOne
  rw [hn, if_neg Bool.false_ne_true]
  show (if ((PySem.W.clsIn K C).isSome && PySem.W.typeIn K (.ref C) == some (.type "type")) = true then PySem.W.subIn K (.ref D) (.ref C) else none) = some b
  rw [h2, show (PySem.W.clsIn K C).isSome = true from h1, if_pos (by simp)]
  exact h
theorem kit_self {K : PySem.W.Frag} {C : Addr} : PySem.W.kitOne K (.ref C) (.ref C) = some true := by
  unfold PySem.W.kitOne
  rw [if_pos (by simp)]
theorem nle {a b : Nat} (h : Nat.ble a b = true) : a ≤ b := Nat.le_of_ble_eq_true h
end DL

/-! the law's own call, where nothing is being shown by repr -/
namespace DLG
open PySem PySem.Spec PyProof.Rows L2
section
variable {P : Program} {w : World} {K : PySem.W.Frag} {mg mb : Str → Option Value}
end
end DLG

/-! repr of data -/
namespace DLG
open PySem L2
mutual
/-- what v is, seen over the abstract heap -/
inductive RdP (K : PySem.W.Frag) (H : Hp) : V → PyData → Prop
  | non : RdP K H .non .none
  | bl (b : Bool) : RdP K H (.bl b) (.bool b)
  | int (i : Int) : RdP K H (.int i) (.int i)
  | str (x : Str) : RdP K H (.str x) (.str x)
  | lst {a : Addr} {vs : List V} {ps : List PyData} : SqL K H a vs → RdPs K H vs ps → RdP K H (.ref a) (.list ps)
  | tup {a : Addr} {vs : List V} {ps : List PyData} : SqT K H a vs → RdPs K H vs ps → RdP K H (.ref a) (.tuple ps)
inductive RdPs (K : PySem.W.Frag) (H : Hp) : List V → List PyData → Prop
  | nil : RdPs K H [] []
  | cons {v : V} {p : PyData} {vs : List V} {ps : List PyData} : RdP K H v p → RdPs K H vs ps → RdPs K H (v :: vs) (p :: ps)
end
section
variable {X : Cx} {pins : List (Addr × Obj)} {σ : L2.St} {H : Hp} {s : Shared}
mutual
theorem RdP.reads (I : Inv X pins σ H s) : ∀ {v : V} {p : PyData} {u : Value}, RdP X.K H v p → RelV v u → ∃ as, Reads s.heap u p as ∧ p.hasDict = false
  | _, _, u, .non, r => by
    obtain rfl : u = .none := r
    exact ⟨[], .none, by simp only [PyData.hasDict]⟩
  | _, _, u, .bl b, r => by
    obtain rfl : u = .bool b := r
    exact ⟨[], .bool b, by simp only [PyData.hasDict]⟩
  | _, _, u, .int i, r => by
    obtain ⟨t, rfl⟩ := r
    exact ⟨[], .int i t, by simp only [PyData.hasDict]⟩
  | _, _, u, .str x, r => by
    obtain ⟨t, rfl⟩ := r
    exact ⟨[], .str x t, by simp only [PyData.hasDict]⟩
  | _, _, u, .lst (a := a) hs hp, r => by
    obtain rfl : u = .ref a := r
    obtain ⟨its, rv, ⟨o, n, e, c, _, d⟩, _⟩ := I.list hs
    obtain ⟨as, h, nd⟩ := RdPs.reads I hp rv
    exact ⟨_, .list e c d (by simpa using h), by simp only [PyData.hasDict]; exact nd⟩
  | _, _, u, .tup (a := a) hs hp, r => by
    obtain rfl : u = .ref a := r
    obtain ⟨its, rv, ⟨o, e, c, n, d⟩, _⟩ := I.tuple hs
    obtain ⟨as, h, nd⟩ := RdPs.reads I hp rv
    exact ⟨_, .tuple e c d (by simpa using h), by simp only [PyData.hasDict]; exact nd⟩
theorem RdPs.reads (I : Inv X pins σ H s) : ∀ {vs : List V} {ps : List PyData} {us : List Value}, RdPs X.K H vs ps → Vals vs us → ∃ as, ReadsAll s.heap us ps as ∧ PyData.hasDictAll ps = false
  | _, _, _, .nil, .nil => ⟨[], .nil, by simp only [PyData.hasDictAll]⟩
  | _, _, _, .cons a b, .cons ra rb => by
    obtain ⟨as, h1, n1⟩ := RdP.reads I a ra
    obtain ⟨bs, h2, n2⟩ := RdPs.reads I b rb
    exact ⟨_, .cons h1 h2, by simp only [PyData.hasDictAll, n1, n2, Bool.or_self]⟩
end
/-- repr(x) -/
def rRepr (K : PySem.W.Frag) : List V → Hp → VK → Prop := fun xs H Q => ∃ x p, xs = [x] ∧ RdP K H x p ∧ p.showable = true ∧ p.depth ≤ 100 ∧ p.shown.length ≤ sizeLine ∧ Q (.str p.shown) H
theorem call_repr {k : Nat} (hg : X.A.guards = some []) (hr : Room k X.A) : CallR X (.builtin "repr") (rRepr X.K) := by
  intro pins s σ H xs us Q I r h
  obtain ⟨x, p, rfl, hp, sh, dp, sz, q⟩ := h
  obtain ⟨u, rfl, rv⟩ := vals1 r
  have un : X.A.units + (p.depth + 1) < cLine := by
    have := hr.un
    omega
  have big : ∀ (a : Addr), u = .ref a → wpAny (model X.prog X.w) X.A (call (.builtin "repr") [u]) (EP X pins σ Q) X.xe s := by
    rintro a rfl
    obtain ⟨as, rd, nd⟩ := hp.reads I rv
    refine repr_of_reads' rd sh (fun z => by rw [nd] at z; cases z) hg un (fun _ _ e => e) (fun h' u' tk kk => ?_) sz
    exact ⟨.str p.shown, H, I.kept (t' := tk) kk, ⟨u', rfl⟩, q⟩
  cases hp with
  | non =>
    obtain rfl : u = .none := rv
    refine PySem.P.repr_of_none ⟨.str _, H, I.tok _, ⟨_, rfl⟩, ?_⟩
    simpa only [PyData.shown] using q
  | bl b =>
    obtain rfl : u = .bool b := rv
    refine PySem.P.repr_of_bool ⟨.str _, H, I.tok _, ⟨_, rfl⟩, ?_⟩
    simpa only [PyData.shown] using q
  | int i =>
    obtain ⟨t, rfl⟩ := rv
    refine PySem.P.repr_of_int (by simpa [PyData.showable] using sh) ⟨.str _, H, I.tok _, ⟨_, rfl⟩, ?_⟩
    simpa only [PyData.shown] using q
  | str y =>
    obtain ⟨t, rfl⟩ := rv
    refine PySem.P.repr_of_str ⟨.str _, H, I.tok _, ⟨_, rfl⟩, ?_⟩ (by simpa only [PyData.shown] using sz)
    simpa only [PyData.shown] using q
  | lst hs hq => exact big _ rv
  | tup hs hq => exact big _ rv
end
end DLG
namespace DL
open PySem L2
mutual
/-- data as the model's own data -/
def pyD : Dv → Option PyData
  | .non => some .none
  | .bl b => some (.bool b)
  | .int i => some (.int i)
  | .str x => some (.str x)
  | .lst xs => (pyDs xs).map .list
  | .tup xs => (pyDs xs).map .tuple
  | _ => none
def pyDs : List Dv → Option (List PyData)
  | [] => some []
  | x :: xs => match pyD x, pyDs xs with
    | some p, some ps => some (p :: ps)
    | _, _ => none
end
section
variable {K : PySem.W.Frag} {N : Av} {H : Hp}
mutual
theorem Has.rdP : ∀ {v : V} {d : Dv} {p : PyData}, Has K N H v d → pyD d = some p → DLG.RdP K H v p
  | _, _, p, .non, e => by
    simp only [pyD, Option.some.injEq] at e
    subst e
    exact .non
  | _, _, p, .bl b, e => by
    simp only [pyD, Option.some.injEq] at e
    subst e
    exact .bl b
  | _, _, p, .int i, e => by
    simp only [pyD, Option.some.injEq] at e
    subst e
    exact .int i
  | _, _, p, .str x, e => by
    simp only [pyD, Option.some.injEq] at e
    subst e
    exact .str x
  | _, _, p, .raw v, e => by
    simp [pyD] at e
  | _, _, p, .lst hs hl, e => by
    simp only [pyD, Option.map_eq_some_iff] at e
    obtain ⟨ps, e, rfl⟩ := e
    exact .lst hs.l (HasL.rdP hl e)
  | _, _, p, .tup hs hl, e => by
    simp only [pyD, Option.map_eq_some_iff] at e
    obtain ⟨ps, e, rfl⟩ := e
    exact .tup hs.t (HasL.rdP hl e)
  | _, _, p, .ins _ _ _ _, e => by
    simp [pyD] at e
  | _, _, p, .dic _ _ _ _, e => by
    simp [pyD] at e
  | _, _, p, .tpn _ _ _ _, e => by
    simp [pyD] at e
  | _, _, p, .exc0, e => by
    simp [pyD] at e
  | _, _, p, .exc _ _ _ _, e => by
    simp [pyD] at e
theorem HasL.rdP : ∀ {vs : List V} {ds : List Dv} {ps : List PyData}, HasL K N H vs ds → pyDs ds = some ps → DLG.RdPs K H vs ps
  | _, _, ps, .nil, e => by
    simp only [pyDs, Option.some.injEq] at e
    subst e
    exact .nil
  | _, _, ps, .cons (d := d) (ds := ds) a b, e => by
    unfold pyDs at e
    split at e
    · rename_i p qs e1 e2
      cases e
      exact .cons (Has.rdP a e1) (HasL.rdP b e2)
    · cases e
end
def rcRepr : RDC := fun ds W Φ => match ds with
  | [d] => ∃ p, pyD d = some p ∧ p.showable = true ∧ p.depth ≤ 100 ∧ p.shown.length ≤ sizeLine ∧ Φ (.d (.str p.shown)) W
  | _ => False
theorem cd_repr : CallD K (DLG.rRepr K) rcRepr := by
  intro z As W H vs ds Φ Q wl hv h q
  unfold rcRepr at h
  split at h
  · rename_i d
    obtain ⟨p, e, sh, dp, sz, h⟩ := h
    obtain ⟨v, rfl, h1⟩ := hv.one
    refine ⟨v, p, rfl, ?_, sh, dp, sz, q _ H _ As W ExtS.refl wl (.d (.str _)) h⟩
    rcases h1 with h1 | ⟨a, us, xs, rfl, rfl, _, ha, hl⟩ | ⟨_, _, _, _, _, rfl, _⟩
    · exact h1.rdP e
    · simp only [pyD, Option.map_eq_some_iff] at e
      obtain ⟨ps, e, rfl⟩ := e
      exact .lst (.inl (.inl ha)) (hl.rdP e)
    · simp [pyD] at e
  · exact h.elim
end
end DL

/-! the law as a whole, where repr is called -/
namespace DL
open PySem L2
section
variable {P : Program} {w : World} {K : PySem.W.Frag} {mg : Str → Option Value}
end
end DL

/-! comparing data, in, slices of tuples, tuple(..), zip -/
namespace DLG
open PySem PySem.Spec PyProof.Rows L2
section
variable {X : Cx}
end
end DLG
namespace DL
open PySem L2
section
variable {K : PySem.W.Frag} {N : Av} {H : Hp}
mutual
theorem Has.dp : ∀ {v : V} {d : Dv} {p : PyData}, Has K N H v d → pyD d = some p → Dp K H v p
  | _, _, p, .non, e => by
    simp only [pyD, Option.some.injEq] at e
    subst e
    exact .non
  | _, _, p, .bl b, e => by
    simp only [pyD, Option.some.injEq] at e
    subst e
    exact .bl b
  | _, _, p, .int i, e => by
    simp only [pyD, Option.some.injEq] at e
    subst e
    exact .int i
  | _, _, p, .str x, e => by
    simp only [pyD, Option.some.injEq] at e
    subst e
    exact .str x
  | _, _, p, .raw v, e => by
    simp [pyD] at e
  | _, _, p, .lst hs hl, e => by
    simp only [pyD, Option.map_eq_some_iff] at e
    obtain ⟨ps, e, rfl⟩ := e
    exact .lst hs.l (HasL.dp hl e)
  | _, _, p, .tup hs hl, e => by
    simp only [pyD, Option.map_eq_some_iff] at e
    obtain ⟨ps, e, rfl⟩ := e
    exact .tup hs.t (HasL.dp hl e)
  | _, _, p, .ins _ _ _ _, e => by
    simp [pyD] at e
  | _, _, p, .dic _ _ _ _, e => by
    simp [pyD] at e
  | _, _, p, .tpn _ _ _ _, e => by
    simp [pyD] at e
  | _, _, p, .exc0, e => by
    simp [pyD] at e
  | _, _, p, .exc _ _ _ _, e => by
    simp [pyD] at e
theorem HasL.dp : ∀ {vs : List V} {ds : List Dv} {ps : List PyData}, HasL K N H vs ds → pyDs ds = some ps → DpAll K H vs ps
  | _, _, ps, .nil, e => by
    simp only [pyDs, Option.some.injEq] at e
    subst e
    exact .nil
  | _, _, ps, .cons (d := d) (ds := ds) a b, e => by
    unfold pyDs at e
    split at e
    · rename_i p qs e1 e2
      cases e
      exact .cons (Has.dp a e1) (HasL.dp b e2)
    · cases e
end
theorem HasB.dp {z : Av} {As : List (List Addr)} {v : V} {d : Dv} {p : PyData} (h : HasB K z As H v d) (e : pyD d = some p) : Dp K H v p := by
  rcases h with h1 | ⟨a, us, xs, rfl, rfl, _, ha, hl⟩ | ⟨_, _, _, _, _, rfl, _⟩
  · exact h1.dp e
  · simp only [pyD, Option.map_eq_some_iff] at e
    obtain ⟨ps, e, rfl⟩ := e
    exact .lst (.inl (.inl ha)) (hl.dp e)
  · simp [pyD] at e
/-! in -/
def flD : Dv → Bool
  | .non => true | .bl _ => true | .int _ => true | .str _ => true
  | _ => false
def eqD : Dv → Dv → Bool
  | .non, .non => true
  | .bl a, .bl b => a == b
  | .bl a, .int b => (if a then 1 else 0) == b
  | .int a, .bl b => a == (if b then 1 else 0)
  | .int a, .int b => a == b
  | .str a, .str b => a == b
  | _, _ => false
def inD (x : Dv) (xs : List Dv) : Bool := xs.any fun y => eqD y x
def toV : Dv → V
  | .bl b => .bl b | .int i => .int i | .str x => .str x
  | _ => .non
theorem Has.flat {v : V} {d : Dv} (h : Has K N H v d) (e : flD d = true) : v = toV d := by
  cases h <;> first | rfl | cases e
theorem HasL.flat : ∀ {vs : List V} {ds : List Dv}, HasL K N H vs ds → ds.all flD = true → vs = ds.map toV
  | _, _, .nil, _ => rfl
  | _, _, .cons (d := d) a b, e => by
    rw [List.all_cons, Bool.and_eq_true] at e
    rw [a.flat e.1, b.flat e.2, List.map_cons]
theorem toV_flat {d : Dv} (e : flD d = true) : flatV (toV d) = true := by
  cases d <;> first | rfl | cases e
theorem toV_eq {d e : Dv} (h1 : flD d = true) (h2 : flD e = true) : eqV (toV d) (toV e) = eqD d e := by
  cases d <;> first | (cases h1; done) | (cases e <;> first | rfl | (cases h2; done))
theorem toV_in {x : Dv} {xs : List Dv} (h1 : flD x = true) (h2 : xs.all flD = true) : inV (toV x) (xs.map toV) = inD x xs := by
  unfold inV inD
  induction xs with
  | nil => rfl
  | cons y ys ih =>
    rw [List.all_cons, Bool.and_eq_true] at h2
    rw [List.map_cons, List.any_cons, List.any_cons, ih h2.2, toV_eq h2.1 h1]
theorem toV_all {xs : List Dv} (h : xs.all flD = true) : (xs.map toV).all flatV = true := by
  rw [List.all_map]
  apply List.all_eq_true.mpr
  intro y hy
  exact toV_flat (List.all_eq_true.mp h y hy)
abbrev rdIn (neg : Bool) : RD2 := fun x y W Φ => match y with
  | .lst ys => flD x = true ∧ ys.all flD = true ∧ Φ (.d (.bl (if neg then !inD x ys else inD x ys))) W
  | .tup ys => flD x = true ∧ ys.all flD = true ∧ Φ (.d (.bl (if neg then !inD x ys else inD x ys))) W
  | _ => False
theorem HasB.flat {z : Av} {As : List (List Addr)} {v : V} {d : Dv} (h : HasB K z As H v d) (e : flD d = true) : v = toV d := by
  rcases h with h | ⟨_, _, _, _, rfl, _⟩ | ⟨_, _, _, _, _, rfl, _⟩
  · exact h.flat e
  · cases e
  · cases e
theorem od_in (neg : Bool) : OpD K (rIn K neg) (rdIn neg) := by
  intro z As W H x y dx dy Φ Q w hx hy h q
  unfold rdIn at h
  split at h
  · obtain ⟨f1, f2, h⟩ := h
    obtain ⟨a, vs, rfl, s, l⟩ := hy.lst
    refine ⟨a, vs, rfl, .inl s, ?_, ?_, ?_⟩
    · rw [hx.flat f1]; exact toV_flat f1
    · rw [l.flat f2]; exact toV_all f2
    · rw [hx.flat f1, l.flat f2, toV_in f1 f2]
      exact q _ H _ As W ExtS.refl w (.d (.bl _)) h
  · obtain ⟨f1, f2, h⟩ := h
    obtain ⟨a, vs, rfl, s, l⟩ := hy.tup
    refine ⟨a, vs, rfl, .inr s, ?_, ?_, ?_⟩
    · rw [hx.flat f1]; exact toV_flat f1
    · rw [l.flat f2]; exact toV_all f2
    · rw [hx.flat f1, l.flat f2, toV_in f1 f2]
      exact q _ H _ As W ExtS.refl w (.d (.bl _)) h
  · exact h.elim
end
end DL

namespace DL
open PySem L2 RZ
/-- tuple(x) -/
abbrev wTupOf (we : WB) : WE := fun σd W Φ => we σd W fun x W1 => match x with
  | .lst xs => Φ (.d (.tup xs)) W1
  | .tup xs => Φ (.d (.tup xs)) W1
  | _ => False
section
variable {K : PySem.W.Frag}
theorem HasB.tupH {z : Av} {As : List (List Addr)} {H : Hp} {v : V} {xs : List Dv} (h : HasB K z As H v (.tup xs)) : ∃ a vs, v = .ref a ∧ Tq K (bad z As) H a vs ∧ HasL K (bad z As) H vs xs := by
  rcases h with h | ⟨_, _, _, _, h, _⟩ | ⟨_, _, _, _, _, h, _⟩
  · cases h with
    | tup s l => exact ⟨_, _, rfl, s, l⟩
  · cases h
  · cases h
theorem teo_tupOf {te : TE} {we : WB} (h : TBok K te we) : TEok K (tThen te (kTup K)) (wTupOf we) := by
  intro z O As σd W σ H Φ Q r g q
  refine h _ _ r g fun v H1 x As1 W1 e1 w1 hv p => ?_
  split at p
  · obtain ⟨a, vs, rfl, s, l⟩ := hv.lst
    exact .inl ⟨a, vs, rfl, s, fun t ht => q _ _ _ As1 W1 (e1.trans (Ext.new ht)) (w1.new ht) (.d (.tup (.inl ⟨w1.fresh ht, .inl upd_same⟩) (l.mv (Ext.mv (Ext.new ht))))) p⟩
  · obtain ⟨a, vs, rfl, s, l⟩ := hv.tupH
    exact .inr ⟨a, vs, rfl, s.t, q _ _ _ As1 W1 e1 w1 (.d (.tup s l)) p⟩
  · exact p.elim
end
section
variable {X : Cx} {e a b c : Expr} {lo hi : Option Expr} {te : TE} {we : WB} {tl th : TO} {wl wh : WO} {ta : TA} {p p2 pos pos2 : Pos}
theorem d_tupOf (hg : Gl X "tuple") (hm : X.mg "tuple" = none) (ha : PB X a te we) (na : starEach [a] X.env = (false, eval a X.env) :: starEach [] X.env := by rfl) : PD X (.Call (.Name "tuple" p) [a] [] pos) (tThen te (kTup X.K)) (wTupOf we) := ⟨pe_tupleOf hg hm ha.pe na, teo_tupOf ha.ok⟩
theorem d_repr {k : Nat} {wa : WAB} (hg : X.A.guards = some []) (hr : Room k X.A) (hg' : Gl X "repr") (hm : X.mg "repr" = none) (ha : PAB X [a] ta wa) (he : starEach [a] X.env = (false, eval a X.env) :: starEach [] X.env := by rfl) (hpl : (backTo pos (starEach [] X.env)).any (·.1) = false := by rfl) :
    PD X (.Call (.Name "repr" p) [a] [] pos) (tCB (DLG.rRepr X.K) ta) (wCB rcRepr wa) := d_callB (DLG.call_repr hg hr) cd_repr hg' hm (by decide +kernel) ha (by decide) (by decide) he hpl
end
end DL

namespace DL
open PySem L2
section
variable {K : PySem.W.Frag}
end
section
variable {X : Cx} {tg e : Expr} {te : TE} {we : WE} {g : TG} {tgt : Tgt} {is : List Nat} {pos : Pos}
end
/-! rules for use within comprehensions: the part of the text is named, not the place -/
section
variable {X : Cx} {K : PySem.W.Frag} {o e : Expr} {es : List Expr} {te to : TE} {we wo : WE} {t : TA} {wa : WA} {C fa : Addr} {m f x : Str} {fd : FuncData} {ps : List Str} {wf : WFn} {k : Nat} {dvs : List V} {ds : List Value} {dd : List Dv} {pos apos p : Pos}
end
end DL

/-! what repr shows of numbers is short -/
namespace DL
open PySem L2
theorem int_short {k : Int} (h : k.natAbs.log2 < 120) : (PyData.shown (.int k)).length ≤ 128 := by
  simp only [PyData.shown]
  have := int_text_length_le (a := k) (k := 120) (by decide) h
  rw [ofString_length]
  omega
end DL

/-! super().__init__('..') within the __init__ of an own exception over other own ones over ValueError -/
namespace SX
open PySem PySem.Spec PySem.W PyProof.Rows L2 NdefX

section
variable {prog : Program} {w : World} {A : Around} {E : Value → Shared → Prop} {h : Heap} {g : Array GenState} {d : Drawn} {t : Nat} {os : OsState}
theorem mw_call {u e t0 C N : Addr} {nm q : Str} {bs bm : List Value} {hd : Bool} {sn : List Str} {sub : List Value} {ab : Bool} {col : Option Bool} {dd : Option Addr} {k0 k1 k2 k3 k5 : Option Value} {rest : List Value} {Q : Value → Shared → Prop}
    (hC : h.get? C = some (excClassObj nm q C N bs bm hd sn sub ab col dd k0 k1 k2 k3 k5 "ValueError.__new__")) (he : h.get? e = some (PySem.HandSPX.excO C t0)) (hu : h.get? u = some (kxs_mw "ValueError.__init__" e)) (hr : rest.length ≤ sizeLine)
    (hq : ∀ h' t1, (∀ b o, b ≠ e → h.get? b = some o → h'.get? b = some o) → h'.get? e = some (PySem.HandSPX.excO C t1) → Q .none ⟨h', g, d, t, os⟩) : wpAny (model prog w) A (call (.ref u) rest) Q E ⟨h, g, d, t, os⟩ := by
  refine wpAny_call (codeAny_of_tree ?_); show wpAny _ A.in1 (callAny (.ref u) ⟨rest, []⟩) _ _ _
  simp only [callAny]; refine wpAny_bind (wpAny_load hu ?_)
  simp only [kxs_mw]; refine KFB.if_so (by decide) ?_
  refine wpAny_bind (check_bound_init F.excBase_ValueError.toExcCallFacts hC he rfl ?_); refine wpAny_bind (wpAny_pure (wpAny_pure ?_))
  refine ⟨plainId_quiet F.excBase_ValueError.init.plain _, codeAny_builtin F.excBase_ValueError.initEntry ?_⟩
  exact exc_init_tree (cls := .ref C) (t0 := t0) (dv := none) (c2 := .none) (c3 := .none) (b4 := .bool false) he hr fun h' k1 k2 _ => hq h' _ k1 k2
end

/-- what the text and the written part say of such an __init__ -/
structure SupOk (P : Program) (K : PySem.W.Frag) (mg : Str → Option Value) (F : NF) (f C cc : Addr) (fd : FuncData) (slf : Str) : Prop where
  fn : ∃ oc od osl, K.lookup f = some ⟨oc, od, .func fd, osl⟩
  head : ((fd.params.posonlyargs ++ fd.params.args).head?.map (·.arg)) = some slf
  cl : F.cl = [(("__class__" : Str), cc)]
  code : ∃ oc od vs sl file tf, K.lookup F.c = some ⟨oc, od, .fields vs, sl⟩ ∧ vs[2]? = some (.str file tf) ∧ ((P.main.file : Str) == file) = true
  cell : ∃ oc od sl, K.lookup cc = some ⟨oc, od, .cell (some (.ref C)), sl⟩
  isC : PySem.W.isClsIn K C = true
  sub : PySem.W.mroIn K C (.ref C) = some true
  sup : mg "super" = none
  hks : F.scope.names.lookup ("super" : Str) = some .globalImplicit
  hkc : F.scope.names.lookup ("__class__" : Str) = some .free
  hka : F.scope.names.lookup slf = some .local
  top : (P.main.scope.names.lookup ("super" : Str)).isSome = false
  any : PySem.W.nsIn K cStatics "thirdparty.any" = some none
  ini : ks_superIn K C C "__init__" = some (some (.builtin "ValueError.__init__"))
  isV : PySem.W.subIn K (.ref C) (.type "ValueError") = some true

/-- how super().__init__('..') is evaluated: by rfl where the scope is known -/
def SupEv (F : NF) (f : Addr) (txt : Str) (j : Nat) (p0 p1 p2 p3 p4 : Pos) (L : Addr) : Prop :=
  ∃ pl : Sem Bool, eval (.Call (.Attribute (.Call (.Name "super" p0) [] [] p1) "__init__" p2) [.Constant (.str txt) j p3] [] p4) (envF F f L) = (do
    let ov ← attributeBase (.Call (.Name "super" p0) [] [] p1) "__init__" (envF F f L) (eval (.Call (.Name "super" p0) [] [] p1) (envF F f L))
    standAt p2.atName
    let (f', first) ← holding [ov] (getMethod ov "__init__" pl)
    callWith p4 f' first (backTo p4 (starEach [.Constant (.str txt) j p3] (envF F f L))) [])

section
variable {CX : CXT} {P : Program} {w : World} {K : PySem.W.Frag} {mg : Str → Option Value} {base : Heap} {N ps : List Str} {F : NF} {f : Addr} {A : Around} {outer : List Env} {s0 : Shared} {H0 : Hp} {E0 : XK}
theorem sup_step {C cc a : Addr} {fd : FuncData} {self : Str} {i : Nat} {txt : Str} {j : Nat} {p0 p1 p2 p3 p4 p5 : Pos} {body : List Stmt} {pins : List (Addr × Obj)} {σ : L2.St} {H : Hp} {s : Shared} {E : Value → Shared → Prop} {Q : Flow → Shared → Prop}
    (S : SupOk P K mg F f C cc fd self) (T : OexC K C) (hN : N[i]? = some self) (hs : σ[i]? = some (some (V.ref a))) (hk : F.scope.kind = .function)
    (I : Inv (ncx CX P w K mg base N F f A outer s0 H0 E0) pins σ H s) (ea : H a = some (exo a C none))
    (hev : SupEv F f txt j p0 p1 p2 p3 p4 s0.heap.objs.size)
    (hq : ∀ s', Inv (ncx CX P w K mg base N F f A outer s0 H0 E0) pins σ H s' → Q .next s') :
    _root_.PySem.wpAt (model P w) (A.deeper (envF F f s0.heap.objs.size)) (.func body (envF F f s0.heap.objs.size))
      (exec (.Expr (.Call (.Attribute (.Call (.Name "super" p0) [] [] p1) "__init__" p2) [.Constant (.str txt) j p3] [] p4) p5) (envF F f s0.heap.objs.size)) Q E s := by
  have X : K.In s.heap := I.kIn
  obtain ⟨oc, od, osl, hf⟩ := S.fn
  obtain ⟨ar, har, hself⟩ : ∃ ar, (fd.params.posonlyargs ++ fd.params.args).head? = some ar ∧ ar.arg = self := by
    have := S.head
    cases e : (fd.params.posonlyargs ++ fd.params.args).head? with
    | none => rw [e] at this; cases this
    | some ar => rw [e] at this; exact ⟨ar, rfl, Option.some.inj this⟩
  obtain ⟨ccl, cdd, vs, ccs, file, tf, hcode, hvs, hfile⟩ := S.code
  obtain ⟨cl, cld, csl, hcell⟩ := S.cell
  obtain ⟨cdD, hD⟩ : ∃ cd, clsIn K C = some cd := Option.isSome_iff_exists.mp S.isC
  obtain ⟨oD, hD1, hD2⟩ : ∃ oD, s.heap.get? C = some oD ∧ oD.data = .cls cdD := by
    unfold clsIn at hD
    split at hD
    · rename_i c d cd' sl ho
      cases hD
      exact ⟨_, X _ _ ho, rfl⟩
    · cases hD
  obtain ⟨t1, hoa⟩ := exo_at I.hok ea
  obtain ⟨m, hns, hlk⟩ := id I.loc
  obtain ⟨u, ru, hu⟩ := hlk i self (.ref a) hN hs (.inl S.hka)
  obtain rfl : u = Value.ref a := ru
  have hm : m self = some (.ref a) := by
    rcases hu with ⟨_, hu⟩ | ⟨hc, _⟩
    · exact hu
    · have e : F.scope.names.lookup self = some .local := S.hka
      have hc : F.scope.names.lookup self = some .cell ∨ F.scope.names.lookup self = some .free := hc
      rw [e] at hc
      rcases hc with hc | hc <;> cases hc
  obtain ⟨mb, hb1, hb2⟩ := I.mod.blt
  have hglob : s.heap.Ns (envF F f s0.heap.objs.size).globals mg := I.mod.glob.keeps I.bk
  have hbl : s.heap.Ns (envF F f s0.heap.objs.size).builtins mb := hb1.keeps I.bk
  obtain ⟨nm, q, N2, bs, bm, sn, sub, ab, col, dd, k0, k1, k2, k3, k5, hC, hbm⟩ := T.cls
  have hxC : a ≠ C := fun z => by
    have y := X _ _ hC
    rw [← z, hoa] at y
    have y2 := congrArg (fun o : Option Obj => o.map (·.data)) y
    cases y2
  refine ks_wpAt_Expr_any ?_ I.quiet (by rfl)
  obtain ⟨pl, hev⟩ := hev
  refine ks_wpAt_MethodCall (pl := pl) ?_ hev
  refine ks_wpAt_super_base (env := envF F f s0.heap.objs.size) S.hks S.hkc (by decide) rfl (X _ _ hf) rfl har rfl (X _ _ hcode) rfl hvs hfile S.top ?_
  refine ks_loadName_global hk S.hks (Calls.loadGlobal_builtin (env := envF F f s0.heap.objs.size) hglob S.sup hbl ((hb2 "super" (by decide)).trans (by rfl)) ⟨rfl, ?_⟩)
  refine wpAny_loadName_free hk S.hkc (by show List.lookup _ F.cl = _; rw [S.cl]; rfl) ⟨_, X _ _ hcell, rfl⟩ ?_
  rw [hself]
  refine wpAny_loadName_local hk S.hka hns hm ?_
  refine ks_wpAny_isType_cls hD1 hD2 ⟨rfl, ?_⟩
  obtain ⟨hp, g, dr, tk, os⟩ := s
  refine ks_wpAny_call_super hD1 hD2 hoa rfl (fun c e => nomatch e) (looks_mroIn X S.sub) (fun h1 e1 k1 => ?_)
  have X1 : K.In h1 := X.keeps k1
  have hin : Looks (model P w) h1 (isInstance (.ref a) (.type "ValueError")) true := by
    have L : Looks (model P w) h1 (typeOf (.ref a)) (.ref C) := fun A Q E s k q => wpAny_typeOf_ref (k _ _ (k1 _ _ hoa)) q
    exact L.andThen (looks_subIn X1 S.isV)
  have hini := S.ini
  unfold ks_superIn at hini
  rw [hD] at hini
  have hmro : Looks (model P w) h1 (mroOf (.ref C)) cdD.mro := fun A Q E s k q => wpAny_bind ((looks_clsIn X1 hD) A _ E s k (wpAny_pure q))
  refine kxs_getMethod (h := h1) kxs_ValueError e1 (looks_opaque X1 S.any) hmro rfl X1 hini hin hxC (by decide) ?_
  refine kxs_callWith (i := "ValueError.__init__") (x := a) (by rfl) (Calls.evalArgs_plain ?_)
  refine spliced_more (Calls.Constant_str (spliced_none ?_)) (by rfl)
  have hso : h1.get? hp.objs.size = some (ks_superObj C a C) := e1
  have kp : ∀ b o, hp.get? b = some o → (h1.push (kxs_mw "ValueError.__init__" a)).get? b = some o := fun b o e => Heap.get?_push_of_some _ (k1 b o e)
  have hu : (h1.push (kxs_mw "ValueError.__init__" a)).get? h1.objs.size = some (kxs_mw "ValueError.__init__" a) := Heap.get?_push_at rfl rfl
  refine ⟨hu, ?_⟩
  have hu' := kp _ _ hoa
  refine mw_call (X1.keeps (fun b o e => Heap.get?_push_of_some _ e) _ _ hC) hu' hu (by show 1 ≤ sizeLine; rw [sizeLine_eq]; omega) (fun h' t2 k2 e2 => ?_)
  refine hq _ ?_
  have J : Inv (ncx CX P w K mg base N F f A outer s0 H0 E0) pins σ H ⟨h1.push (kxs_mw "ValueError.__init__" a), g, dr, tk + 1 + 1, os⟩ := I.kept (t' := tk + 1 + 1) kp
  have J2 := J.write (t' := tk + 1 + 1) (x := a) (e := a) (o := exo a C none) (by rw [ea]; exact True.intro) (.inl rfl) k2 ⟨_, e2⟩ (exo_ok e2)
  have eu : upd H a (exo a C none) = H := by
    funext b
    by_cases hb : b = a
    · rw [hb, upd_same, ea]
    · rw [upd_ne hb]
  rw [eu] at J2
  exact J2
theorem fn_sup {k : Nat} {C cc : Addr} {dV kV doc pm ct : Value} {an : Option Addr} {slf : Str} {txt : Str} {j : Nat} {p0 p1 p2 p3 p4 p5 : Pos} {rest : List Stmt} {sp : Sp}
    (S : SupOk P K mg F f C cc (ksFn F.name F.qual F.params F.body F.scope dV kV doc pm an (.ref F.c) ct cc) slf) (T : OexC K C) (NS : NScope N ps ["__class__"] F.scope) (hcd : codeIn K (.ref F.c) F.qual = true)
    (hbd : F.body = .Expr (.Call (.Attribute (.Call (.Name "super" p0) [] [] p1) "__init__" p2) [.Constant (.str txt) j p3] [] p4) p5 :: rest) (hev : ∀ L, SupEv F f txt j p0 p1 p2 p3 p4 L) (h0 : N[0]? = some slf)
    (len : ∀ vs H Q E, sp vs H Q E → vs.length = ps.length)
    (hb : ∀ (A : Around) (outer : List Env) (s : Shared) (H : Hp) (vs : List V) (Q : VK) (E : XK), Room k (A.deeper (envF F f s.heap.objs.size)) → sp vs H Q E →
      ∃ a tl t, vs = V.ref a :: tl ∧ H a = some (exo a C none) ∧ PSs (ncx CX P w K mg base N F f A outer s H E) rest t ∧ t { nx := fun _ H' => Q .non H', rt := Q } (startF N vs [none]) H) :
    FnOk P w K mg base CX (k + 1) f (ksFn F.name F.qual F.params F.body F.scope dV kV doc pm an (.ref F.c) ct cc) ps sp := by
  refine ⟨len, fun A outer s H args us vs Q E hr e0 hbi r hsp => ?_⟩
  have hl := len _ _ _ _ hsp
  have KX : K.In s.heap := e0.mod.kin.keeps fun b o e => (e0.bs b o e).1
  have lim : s.heap.NoLimit := e0.mod.nolimit.keeps fun b o e => (e0.bs b o e).1
  obtain ⟨oc, od, osl, lk⟩ := S.fn
  obtain ⟨cl, cld, csl, hcell⟩ := S.cell
  have CA : CellsAt F.cl ["__class__"] [none] s.heap H := by
    have hk : ∀ y c, F.cl.lookup y = some c → c = cc ∧ y = ("__class__" : Str) := fun y c e => by
      rw [S.cl] at e
      simp only [List.lookup] at e
      split at e
      · rename_i q
        exact ⟨(Option.some.inj e).symm, beq_iff_eq.mp q⟩
      · cases e
    refine ⟨rfl, fun y c e => ?_, fun x y c e1 e2 => (hk x c e1).2.trans (hk y c e2).2.symm, fun i y e => ?_⟩
    · obtain ⟨rfl, _⟩ := hk y c e
      exact ⟨(e0.bs _ _ (e0.mod.kin _ _ hcell)).2, ⟨_, _, KX _ _ hcell, rfl⟩⟩
    · cases i with
      | zero =>
        have e : y = ("__class__" : Str) := (Option.some.inj e).symm
        subst e
        exact ⟨cc, by rw [S.cl]; rfl, fun v q => nomatch q⟩
      | succ i => exact nomatch e
  refine ks_codeAny_call_defAt hr.depth (KX _ _ lk) rfl lim (PySem.W.codeRec_of KX hcd) rfl hbi NS.nocell (fun ⟨n, v⟩ hy => NS.par n (List.of_mem_zip hy).1) (fun h₁ hns kp => ?_) NS.co NS.gen NS.kind
  have I : Inv (ncx CX P w K mg base N F f A outer s H E) [] (startF N vs [none]) H { s with heap := h₁, toks := s.toks + (ps.zip us).length } := inv_startN NS hr.hd e0 hl r CA hns kp
  obtain ⟨a, tl, t, ev, ea, ht, hq⟩ := hb A outer s H vs Q E (hr.deeper _) hsp
  have ee : callEnv (ksFn F.name F.qual F.params F.body F.scope dV kV doc pm an (.ref F.c) ct cc) s.heap.objs.size f = envF F f s.heap.objs.size := by
    unfold envF
    rw [S.cl]
    rfl
  rw [ee]
  show _root_.PySem.wpAt (model P w) (A.deeper (envF F f s.heap.objs.size)) (.func F.body (envF F f s.heap.objs.size)) (execs F.body (envF F f s.heap.objs.size)) _ _ _
  rw [hbd]
  refine ks_wpAt_execs_cons (sup_step (i := 0) S T h0 (by rw [ev]; rfl) NS.kind I ea (hev _) fun s' J => ?_)
  refine wpAt_of_wpAny (wpAny_mono (ht.run [] s' (startF N vs [none]) H _ J hq) (fun fl s' hs => ?_) fun e s' hs => hs)
  have fin : ∀ {σ' : L2.St} {H' : Hp} {v : V} {u : Value}, Inv (ncx CX P w K mg base N F f A outer s H E) [] σ' H' s' → L2.RelV v u → Q v H' → CE outer P w H s Q u s' :=
    fun {σ' H' v u} J rv q => ⟨v, H', J.os, J.bare, J.base, J.hok, rv, q⟩
  cases fl with
  | ret u =>
    obtain ⟨v, σ', H', J, rv, q⟩ := hs
    exact fin J rv q
  | next =>
    obtain ⟨σ', H', J, q⟩ := hs
    exact fin (v := V.non) (u := Value.none) J rfl q
  | brk => exact hs.elim fun _ z => z.elim fun _ z => z.2.elim
  | cont => exact hs.elim fun _ z => z.elim fun _ z => z.2.elim
end
end SX

/-! C() and C(e) of own exceptions whose __init__ says super().__init__('..') -/
namespace SX
open PySem PySem.Spec PySem.W PyProof.Rows L2 NdefX

/-- __init__(self, x): super().__init__('..'); self.f = x -/
def spS1 (C : Addr) (fld : Str) : Sp := fun vs H Q _ => ∃ a v, vs = [V.ref a, v] ∧ H a = some (exo a C none) ∧ ∀ dx, H dx = none → dx ≠ a → Q .non (upd (upd H dx (exd dx [(fld, v)])) a (exo a C (some dx)))
section
variable {P : Program} {w : World} {K : PySem.W.Frag} {mg : Str → Option Value} {base : Heap} {N : List Str} {F : NF} {f : Addr}
theorem fn_s1 {k : Nat} {C cc : Addr} {dV kV doc pm ct : Value} {an : Option Addr} {txt fld x : Str} {j : Nat} {p0 p1 p2 p3 p4 p5 p6 p7 p8 p9 : Pos}
    (S : SupOk P K mg F f C cc (ksFn F.name F.qual F.params F.body F.scope dV kV doc pm an (.ref F.c) ct cc) "self") (T : OexC K C) (NS : NScope N ["self", x] ["__class__"] F.scope) (hcd : codeIn K (.ref F.c) F.qual = true)
    (hbd : F.body = [.Expr (.Call (.Attribute (.Call (.Name "super" p0) [] [] p1) "__init__" p2) [.Constant (.str txt) j p3] [] p4) p5, .Assign [.Attribute (.Name "self" p6) fld p7] (.Name x p8) p9]) (hev : ∀ L, SupEv F f txt j p0 p1 p2 p3 p4 L) (h0 : N[0]? = some ("self" : Str)) (h1 : N[1]? = some x)
    (hx : F.scope.names.lookup x = some .local) (hno : PySem.W.findIn K (.ref C) fld = some none) (hd : (x == ("__debug__" : Str)) = false) (hcd2 : (x == ("__classdict__" : Str)) = false)
    (hs : ∀ L, swapsWith (.Name x p8) (some (.Attribute (.Name "self" p6) fld p7)) p9.line (envF F f L) = pure false) :
    FnOk P w K mg base CX0 (k + 1) f (ksFn F.name F.qual F.params F.body F.scope dV kV doc pm an (.ref F.c) ct cc) ["self", x] (spS1 C fld) := by
  refine fn_sup S T NS hcd hbd hev h0 (fun vs H Q E h => ?_) fun A outer s H vs Q E hr h => ?_
  · obtain ⟨a, v, rfl, _⟩ := h
    rfl
  · obtain ⟨a, v, rfl, ea, q⟩ := h
    have S1 : PE (ncx CX0 P w K mg base N F f A outer s H E) (.Name "self" p6) (tVar 0) := pe_var h0 (.inl S.hka) (by decide) (by decide)
    have S2 : PE (ncx CX0 P w K mg base N F f A outer s H E) (.Name x p8) (tVar 1) := pe_var h1 (.inl hx) hd hcd2
    exact ⟨a, [v], _, rfl, ea, pss_cons (ps_ost (f := fld) S1 S2 (hs _)) pss_nil, ⟨v, rfl, V.ref a, rfl, a, C, rfl, T, hno, .inl ⟨ea, fun dx n ne => q dx n ne⟩⟩⟩
end

section
variable {X : Cx} {x : Str} {p pos : Pos} {C fI : Addr} {k : Nat} {fd : FuncData}
end
end SX

/-! exceptions, over data -/
namespace DL
open PySem L2

/-! ### judgements that may let an exception out -/
structure PDX (X : Cx) (e : Expr) (t : WX → TE) (w : XW → WE) : Prop where
  pe : ∀ Wx, Takes X Wx → PE X e (t Wx)
  ok : TEX X.K t w
structure PDSX (X : Cx) (s : Stmt) (t : WX → TS) (w : XW → WSt) : Prop where
  ps : ∀ Wx, Takes X Wx → PS X s (t Wx)
  ok : TSX X.K t w
structure PDSsX (X : Cx) (s : List Stmt) (t : WX → TS) (w : XW → WSt) : Prop where
  ps : ∀ Wx, Takes X Wx → PSs X s (t Wx)
  ok : TSX X.K t w
/-- made exceptions -/
abbrev TMk := L2.St → Hp → XK → Prop
abbrev WMk := DS → WS → XF → Prop
structure PDM (X : Cx) (e : Expr) (t : TMk) (w : WMk) : Prop where
  pm : PMk X e t
  ok : ∀ {z : Av} {O : Nat → Option Addr} {As : List (List Addr)} {σd : DS} {W : WS} {σ : L2.St} {H : Hp} (Φ : XF) (Q : XK), Rep X.K z O As σd W σ H → w σd W Φ →
    (∀ C d ks ds As' W' H', Ext As H As' H' → Wld X.K (zo z (owOf O)) As' W' H' → ExF X.K (bad (zo z (owOf O)) As') H' d C ks ds → Φ C ks ds W' → Q (.ref C) d H') → t σ H Q

/-! ### what lets nothing out -/
section
variable {K : PySem.W.Frag} {te : TE} {we : WE} {t : TS} {wt : WSt}
end
section
variable {X : Cx} {e a b : Expr} {es : List Expr} {st : Stmt} {rest : List Stmt} {te : TE} {we : WE} {t u : TS} {wt wu : WSt} {tX uX : WX → TS} {wX vX : XW → WSt} {teX : WX → TE} {weX : XW → WE} {tbX : WX → TE} {wbX : XW → WB} {pos pos' : Pos} {x : Str}
theorem sX (h : PDS X st t wt) : PDSX X st (fun _ => t) (fun _ => wt) := ⟨fun _ _ => h.ps, TSX.of h.ok⟩
theorem ssX (h : PDSs X rest t wt) : PDSsX X rest (fun _ => t) (fun _ => wt) := ⟨fun _ _ => h.ps, TSX.of h.ok⟩
/-! ### sequences, if -/
abbrev tSeqX (t u : WX → TS) : WX → TS := fun Wx => tSeq (t Wx) (u Wx)
abbrev wSeqX (a b : XW → WSt) : XW → WSt := fun ΦX => wSeq (a ΦX) (b ΦX)
theorem ssX_cons (h : PDSX X st tX wX) (h2 : PDSsX X rest uX vX) : PDSsX X (st :: rest) (tSeqX tX uX) (wSeqX wX vX) := by
  refine ⟨fun Wx k => pss_cons (h.ps Wx k) (h2.ps Wx k), ?_⟩
  intro z O As σd W σ H ΦX Wx Dd D r g q x
  refine h.ok (O := O) ΦX Wx { Dd with nx := vX ΦX Dd } { D with nx := uX Wx D } r g ⟨fun σd' W' O' As' σ' H' e r' p => ?_, q.rt, q.bk, q.ct⟩ x
  exact h2.ok ΦX Wx Dd D r' p (q.ext e) (x.ext e)
theorem ssX_one (h : PDSX X st tX wX) : PDSsX X [st] tX wX := ⟨fun Wx k => pss_one (h.ps Wx k), h.ok⟩
theorem ssX_nil : PDSsX X [] (fun _ => tNext) (fun _ => wNext) := ssX ss_nil
abbrev tIfX (tc : TT) (t u : WX → TS) : WX → TS := fun Wx => tIfS tc (t Wx) (u Wx)
abbrev wIfX (wc : WT) (a b : XW → WSt) : XW → WSt := fun ΦX => wIfS wc (a ΦX) (b ΦX)
theorem sX_if {c : Expr} {sa sb : List Stmt} {tc : TT} {wc : WT} (hc : PTD X c tc wc) (ha : PDSsX X sa tX wX) (hb : PDSsX X sb uX vX) : PDSX X (.If c sa sb pos) (tIfX tc tX uX) (wIfX wc wX vX) := by
  refine ⟨fun Wx k => ps_if hc.pt (ha.ps Wx k) (hb.ps Wx k), ?_⟩
  intro z O As σd W σ H ΦX Wx Dd D r g q x
  refine hc.ok _ _ r g fun b H1 As1 W1 e wl p => ?_
  cases b with
  | true =>
    rw [if_pos rfl] at p ⊢
    exact ha.ok ΦX Wx Dd D (r.ext e wl) p (q.ext e.own) (x.ext e.own)
  | false =>
    rw [if_neg Bool.false_ne_true] at p ⊢
    exact hb.ok ΦX Wx Dd D (r.ext e wl) p (q.ext e.own) (x.ext e.own)
/-! ### statements over expressions that may let one out -/
theorem sX_ret (he : PDX X e teX weX) : PDSX X (.Return (some e) pos) (fun Wx => tRet (teX Wx)) (fun ΦX => wRet (weX ΦX)) := by
  refine ⟨fun Wx k => ps_ret (he.pe Wx k), ?_⟩
  intro z O As σd W σ H ΦX Wx Dd D r g q x
  refine he.ok ΦX Wx _ _ r g (fun v H' x As' W' e wl hv p => ?_) x
  exact q.rt v x W' (owOf O) As' H' e.own (wl.weak fun a q => .inl q) (hv.weak fun a q => .inl q) p
/-! ### raise -/
theorem sX_raise {tm : TMk} {wm : WMk} (hc : X.calm = true) (h : PDM X e tm wm) : PDSX X (.Raise (some e) none pos) (fun Wx _ σ H => tm σ H fun cls d H' => Wx cls d σ H') (fun ΦX _ σd W => wm σd W fun C ks ds W' => ΦX C ks ds σd W') := by
  refine ⟨fun Wx k => ps_raise hc k h.pm, ?_⟩
  intro z O As σd W σ H ΦX Wx Dd D r g q x
  exact h.ok _ _ r g fun C d ks ds As' W' H' e wl f p => x C d ks ds O As' σd W' σ H' e.own (r.ext e wl) f p
/-! ### isinstance(C(..), D), str(..), not .. -/
end
end DL

/-! defs that raise, what makes exceptions, over data -/
namespace DL
open PySem L2
/-! ### exceptions made -/
section
variable {X : Cx} {x : Str} {p pos : Pos} {C fI : Addr} {k : Nat} {fd : FuncData} {e : Expr} {te : TE} {we : WE} {wa : WA} {ta : TA}
/-- C(e), C keeping it as the field f -/
theorem m_1 {f y : Str} (T : OexC X.K C) (iC : PySem.W.findIn X.K (.ref C) "__init__" = some (some (.ref fI))) (tI : PySem.W.typeIn X.K (.ref fI) = some (.type "function"))
    (F1 : FnOk X.prog X.w X.K X.mg X.base CX0 k fI fd ["self", y] (SX.spS1 C f)) (hr : Room (k + 1) X.A) (hb : Binds X.K fd ["self", y] []) (hg : Gl X x) (hm : X.mg x = some (.ref C)) (he : PD X e te we) (hdb : (x == ("__debug__" : Str)) = false := by decide)
    (hst : starEach [e] X.env = (false, eval e X.env) :: starEach [] X.env := by rfl) :
    PDM X (.Call (.Name x p) [e] [] pos) (tMkO C (SX.spS1 C f) [] (tCons te tNil)) (fun σd W Φ => we σd W fun v W' => match v with | .d v => Φ C [f] [v] W' | .box _ => False) := by
  refine ⟨pmk_oex T iC tI F1 hr hb .nil pass0 hg hm (pa_cons he.pe pa_nil hst) hdb hst (by rfl), ?_⟩
  intro z O As σd W σ H Φ Q r g q
  refine he.ok _ _ r g fun v H1 dv As1 W1 ex wl hv p => ?_
  cases dv with
  | box j => exact p.elim
  | d dv =>
    cases hv with
    | d hv =>
      refine ⟨by show 1 ≤ 1000; decide, fun a ha => ⟨a, v, rfl, upd_same, fun dx hdx ne => ⟨rfl, dx, [(f, v)], upd_same, ?_, ?_, ?_⟩⟩⟩
      · rw [upd_ne ne, upd_same]
      · rw [upd_ne ne] at hdx
        exact hdx
      · have hd1 : H1 dx = none := by rw [upd_ne ne] at hdx; exact hdx
        have eH : upd (del (upd (upd (upd H1 a (exo a C none)) dx (exd dx [(f, v)])) a (exo a C (some dx))) a) dx (.xd [(f, v)]) = upd H1 dx (.xd [(f, v)]) := by
          funext b
          by_cases h1 : b = dx
          · rw [h1, upd_same, upd_same]
          · rw [upd_ne h1, upd_ne h1]
            by_cases h2 : b = a
            · rw [h2, del_same, ha]
            · rw [del_ne h2, upd_ne h2, upd_ne h1, upd_ne h2]
        rw [eH]
        have en : Ext As1 H1 As1 (upd H1 dx (.xd [(f, v)])) := Ext.new hd1
        refine q C (some dx) [f] [dv] As1 W1 _ (ex.trans en) (wl.new hd1) (fun _ => ?_) p
        exact .exc (vs := [v]) (wl.fresh hd1) upd_same (.cons (hv.mv (Ext.mv en)) .nil) rfl
end

/-! ### defs that raise -/
def NxX (K : PySem.W.Frag) (z : Av) (As : List (List Addr)) (H : Hp) (ΦX : XF) (E : XK) : Prop := ∀ C d ks ds As' W' H', Ext As H As' H' → Wld K z As' W' H' → ExF K (bad z As') H' d C ks ds → ΦX C ks ds W' → E (.ref C) d H'
def spX (K : PySem.W.Frag) (wf : WFnX) : Sp := fun vs H Q E => ∃ (z : Av) (As : List (List Addr)) (W : WS) (xs : List Sv) (Φ : Sv → WS → Prop) (ΦX : XF), Wld K z As W H ∧ HasVL K z As H vs xs ∧ wf xs W Φ ΦX ∧ Nx K z As H Φ Q ∧ NxX K z As H ΦX E
section
variable {P : Program} {w : World} {K : PySem.W.Frag} {mg : Str → Option Value} {base : Heap}
theorem okX {x qual : Str} {st : Stmt} {f : Addr} {fd : FuncData} {N ps : List Str} {k : Nat} {wf : WFnX} (F : Fun K x qual st f fd) (S : FnScope N ps (defScope st)) (hl : ∀ xs W Φ ΦX, wf xs W Φ ΦX → xs.length = ps.length)
    (body : ∀ (cdv : Value) (A : Around) (outer : List Env) (s : Shared) (H : Hp) (E : XK), Room k (A.deeper (PyProof.Rows.envOfC qual (defScope st) s.heap.objs.size f cdv)) →
      ∃ t wb, PDSsX (cxOf (L2.CX P w) P w K mg base N qual (defScope st) f cdv A outer s H E) (defBody st) t wb ∧ ∀ xs W Φ ΦX, wf xs W Φ ΦX → wb (fun C ks ds _ W => ΦX C ks ds W) (finD Φ) (startD N xs) W) : FnOk P w K mg base (L2.CX P w) (k + 1) f fd ps (spX K wf) := by
  refine F.okX S (fun vs H Q E h => ?_) (fun cdv A outer s H vs Q E hr h => ?_)
  · obtain ⟨z, As, W, xs, Φ, ΦX, wl, hv, h, _⟩ := h
    rw [hv.length]
    exact hl _ _ _ _ h
  · obtain ⟨z, As, W, xs, Φ, ΦX, wl, hv, h, q, qx⟩ := h
    obtain ⟨t, wb, hp, hw⟩ := body cdv A outer s H E hr
    have ow : ∀ {As' : List (List Addr)} {ow' : Av} {H' : Hp}, ExtS As (owOf fun _ => none) H As' ow' H' → Ext As H As' H' := fun e =>
      ⟨fun b o h1 n1 _ => ⟨(e.keep b o h1 n1 fun ⟨i, q⟩ => by cases q).1, (e.keep b o h1 n1 fun ⟨i, q⟩ => by cases q).2.1, fun f => f⟩, e.at_, e.up⟩
    refine ⟨t fun cls d _ H => E cls d H, hp.ps _ (takes_of rfl rfl rfl rfl), hp.ok _ _ _ _ (rep_start wl hv) (hw xs W Φ ΦX h) ?_ ?_⟩
    · refine ⟨fun σd' W' O' As' σ' H' e r p => ?_, fun v x W' ow' As' H' e wl' hv' p => q v H' x As' W' (ow e) wl' hv' p, fun _ _ _ _ _ _ _ _ p => p.elim, fun _ _ _ _ _ _ _ _ p => p.elim⟩
      exact q .non H' (.d .non) As' W' (ow e) (r.wld.weak fun a q => .inl q) (.d .non) p
    · intro C d ks ds O' As' σd' W' σ' H' e r f p
      exact qx C d ks ds As' W' H' (ow e) (r.wld.weak fun a q => .inl q) (f.mv (Mv.weak fun a q => q.imp id fun q => .inl q)) p
/-- where it raises nothing -/
theorem noX {k : Nat} {f : Addr} {fd : FuncData} {ps : List Str} {wf : WFn} {wfx : WFnX} (F : FnOk P w K mg base (L2.CX P w) k f fd ps (spX K wfx)) (h : ∀ xs W Φ, wf xs W Φ → wfx xs W Φ fun _ _ _ _ => False) : FnOk P w K mg base CX0 k f fd ps (spD K wf) := by
  refine ⟨fun vs H Q E q => ?_, fun A outer s H args us vs Q E hr e0 hb hv q => ?_⟩
  · obtain ⟨z, As, W, xs, Φ, wl, hv, p, n⟩ := q
    exact F.len vs H Q E0 ⟨z, As, W, xs, Φ, _, wl, hv, h _ _ _ p, n, fun _ _ _ _ _ _ _ _ _ _ z => z.elim⟩
  · obtain ⟨z, As, W, xs, Φ, wl, hx, p, n⟩ := q
    refine codeAny_mono (F.run A outer s H args us vs Q E0 hr e0 hb hv ⟨z, As, W, xs, Φ, _, wl, hx, h _ _ _ p, n, fun _ _ _ _ _ _ _ _ _ _ z => z.elim⟩) fun r s' hq => ?_
    cases r with
    | error e =>
      obtain ⟨_, _, _, _, _, _, _, _, _, _, _, _, z⟩ := hq
      exact z.elim
    | ok fl => cases fl <;> exact hq
end

/-! ### calls that may raise -/
section
variable {X : Cx} {CX : CXT} {k : Nat} {f C : Addr} {fd : FuncData} {ps : List Str} {sp : Sp} {E : L2.St → XK} {x m : Str} {p pos apos : Pos} {e o : Expr} {es : List Expr} {t : TA} {ds : List Value} {dvs : List V}
def tMakeS (C : Addr) (sp : Sp) (dvs : List V) (E : L2.St → XK) (t : TA) : TE := fun σ H Q => t σ H fun vs H1 => ∀ x dx, H1 x = none → H1 dx = none → dx ≠ x →
  sp (.ref x :: (vs ++ dvs)) (upd (upd H1 dx (.own x)) x (.ins C dx [])) (fun v H2 => v = .non ∧ Q (.ref x) H2) (E σ)
theorem run_makeS {pins : List (Addr × Obj)} {σ : L2.St} {H : Hp} {s : Shared} {Q : VK} {us : List Value} {vs : List V} (M : Mk X.K C f) (F : FnOk X.prog X.w X.K X.mg X.base CX k f fd ps sp) (hr : Room (k + 1) X.A) (hb : Binds X.K fd ps ds) (hd : Vals dvs ds)
    (hx : PassesAt CX X σ (E σ)) (I : Inv X pins σ H s) (r : Vals vs us)
    (h : ∀ x dx, H x = none → H dx = none → dx ≠ x → sp (.ref x :: (vs ++ dvs)) (upd (upd H dx (.own x)) x (.ins C dx [])) (fun v H2 => v = .non ∧ Q (.ref x) H2) (E σ)) :
    wpAny (model X.prog X.w) X.A (call (.ref C) us) (EP X pins σ Q) X.xe s := by
  have ne : s.heap.objs.size ≠ s.heap.objs.size + 1 := Nat.ne_of_lt (Nat.lt_succ_self _)
  have hq := h (s.heap.objs.size + 1) s.heap.objs.size (I.hok.fresh (Nat.le_succ _)) (I.hok.fresh (Nat.le_refl _)) ne
  have I2 := Inv.made (C := C) I
  have r2 : Vals (V.ref (s.heap.objs.size + 1) :: (vs ++ dvs)) (Value.ref (s.heap.objs.size + 1) :: (us ++ ds)) := .cons rfl (r.append hd)
  have hl : (Value.ref (s.heap.objs.size + 1) :: us ++ ds).length = ps.length := r2.length.symm.trans (F.len _ _ _ _ hq)
  have run := F.run _ X.stack _ _ ⟨Value.ref (s.heap.objs.size + 1) :: us, []⟩ (Value.ref (s.heap.objs.size + 1) :: (us ++ ds)) _ _ (E σ) (hr.make C us []) (I2.env0.make C us []) (hb _ (Value.ref (s.heap.objs.size + 1) :: us) I2.kIn hl) r2 hq
  apply wpAny_call
  apply make_map (f := f) I.kIn M.makes M.init (beq_iff_eq.mp M.fn)
  refine codeAny_mono run fun r s' res => ?_
  match r, res with
  | .error e, res => exact hx pins _ _ e s' I2 res
  | .ok (.ret u), res =>
    obtain ⟨v, H', I3, rv, ev, q3⟩ := I2.after res
    subst ev
    exact ⟨rv, V.ref (s.heap.objs.size + 1), H', I3, rfl, q3⟩
  | .ok .next, res => exact False.elim res
  | .ok .brk, res => exact False.elim res
  | .ok .cont, res => exact False.elim res
theorem pe_makeS (M : Mk X.K C f) (F : FnOk X.prog X.w X.K X.mg X.base CX k f fd ps sp) (hr : Room (k + 1) X.A) (hg : Gl X x) (hm : X.mg x = some (.ref C)) (hb : Binds X.K fd ps ds) (hd : Vals dvs ds) (hx : ∀ σ, PassesAt CX X σ (E σ))
    (ha : PA X (e :: es) t) (hdb : (x == ("__debug__" : Str)) = false := by decide) (he : starEach (e :: es) X.env = (false, eval e X.env) :: starEach es X.env := by rfl) (hpl : (backTo pos (starEach es X.env)).any (·.1) = false := by rfl) :
    PE X (.Call (.Name x p) (e :: es) [] pos) (tMakeS C sp dvs E t) := by
  refine ⟨fun pins s σ H Q I h => ?_⟩
  apply wpAny_Call_Name_kw
  apply ld_glob I hg hm _ hdb
  refine PySem.W.callWith_K (h₀ := X.base) I.ok.mod.kin M.kp (thn (ha.run pos pins s σ H _ I h) fun us s1 ⟨vs, H1, I1, r, q⟩ => ⟨I1.kIn, run_makeS M F hr hb hd (hx σ) I1 r q⟩) he hpl
end
section
variable {X : Cx} {x f m : Str} {p pos apos pos' : Pos} {e o value : Expr} {es : List Expr} {t : TA} {wa : WA} {wf : WFnX} {C fa pa g : Addr} {fd : FuncData} {ps : List Str} {k : Nat} {ds : List Value} {dvs : List V} {dd : List Dv} {te to : TE} {we wo : WE}
/-- C(..) of a class whose instances do not change; the instance that was not made is forgotten -/
abbrev wMakeX (C : Addr) (wf : WFnX) (dd : List Dv) (wa : WA) : XW → WE := fun ΦX σd W Φ => wa σd W fun xs W1 => wf (.box W1.length :: (xs ++ dd.map Sv.d)) (W1 ++ [.ins C [] []])
  (fun v W2 => v = .d .non ∧ ∃ ks ds, W2 = W1 ++ [.ins C ks (ds.map Sv.d)] ∧ Φ (.d (.ins C ks ds)) W1) (fun Ce ks ds W2 => (∃ o, W2 = W1 ++ [o]) ∧ ΦX Ce ks ds σd W1)
theorem tex_make {K : PySem.W.Frag} (hd : Cn K dvs dd) (ha : TAok K t wa) : TEX K (fun Wx => tMakeS C (spX K wf) dvs (fun σ cls d H => Wx cls d σ H) t) (wMakeX C wf dd wa) := by
  intro z O As σd W σ H ΦX Wx Φ Q r g q qx
  refine ha _ _ r g fun vs H1 xs As1 W1 e wl hvs p => ?_
  intro x dx hx hdx ne
  obtain ⟨w2, e2⟩ := make_start (C := C) wl hx hdx ne
  have ej : (As1 ++ [[x]])[W1.length]? = some [x] := by rw [← wl.len, List.getElem?_concat_length]
  refine ⟨_, As1 ++ [[x]], _, .box W1.length :: (xs ++ dd.map Sv.d), _, _, w2, .cons (.box ej) ((hvs.ext e2).append (.ofL (hd _ _))), p, fun v H' y As' W' e3 wl3 hv3 p3 => ?_, fun Ce d ks ds As' W' H' e3 wl3 f3 p3 => ?_⟩
  · obtain ⟨rfl, ks, ds, rfl, p3⟩ := p3
    refine ⟨by cases hv3 with | d hv3 => cases hv3; rfl, ?_⟩
    have eA : As' = As1 ++ [[x]] := as_of e3.at_ (by rw [wl3.len, List.length_append, wl.len] <;> rfl)
    subst eA
    have e13 := e2.trans e3
    refine q _ H' _ As1 W1 (e.trans (Ext.cut e13)) (wl.cut e13 wl3) (.d ?_) p3
    obtain ⟨a, dx', us, e1, g1, g2, g3⟩ := wl3.rep W1.length [x] _ ej (List.getElem?_concat_length ..)
    cases e1
    have g4 := g2.toL
    refine .ins (wl.fresh hx) g1 (g4.mv (Mv.weak fun b q => q.imp (fun f => fp_app.mpr (.inl f)) id)) (by rw [g3, List.length_map])
  · obtain ⟨⟨o, rfl⟩, p3⟩ := p3
    have eA : As' = As1 ++ [[x]] := as_of e3.at_ (by rw [wl3.len, List.length_append, wl.len] <;> rfl)
    subst eA
    have e13 := e2.trans e3
    have ee := e.trans (Ext.cut e13)
    exact qx Ce d ks ds O As1 σd W1 σ H' ee.own (r.ext ee (wl.cut e13 wl3)) (f3.mv (Mv.weak fun b q => q.imp (fun f => fp_app.mpr (.inl f)) id)) p3
theorem dX_make (M : Mk X.K C fa) (F : FnOk X.prog X.w X.K X.mg X.base (L2.CX X.prog X.w) k fa fd ps (spX X.K wf)) (hr : Room (k + 1) X.A) (hg : Gl X x) (hm : X.mg x = some (.ref C)) (hb : Binds X.K fd ps ds) (hd : Vals dvs ds) (hc : Cn X.K dvs dd)
    (ha : PAD X (e :: es) t wa) (hdb : (x == ("__debug__" : Str)) = false := by decide) (he : starEach (e :: es) X.env = (false, eval e X.env) :: starEach es X.env := by rfl) (hpl : (backTo pos (starEach es X.env)).any (·.1) = false := by rfl) :
    PDX X (.Call (.Name x p) (e :: es) [] pos) (fun Wx => tMakeS C (spX X.K wf) dvs (fun σ cls d H => Wx cls d σ H) t) (wMakeX C wf dd wa) := ⟨fun Wx tk => pe_makeS M F hr hg hm hb hd (fun σ => passAt tk σ) ha.pa hdb he hpl, tex_make hc ha.ok⟩
/-- f(..) of an own def that may raise -/
abbrev wCallX (wf : WFnX) (wa : WA) : XW → WE := fun ΦX σd W Φ => wa σd W fun xs W1 => wf xs W1 Φ (fun C ks ds W2 => ΦX C ks ds σd W2)
theorem tex_call {K : PySem.W.Frag} (ha : TAok K t wa) : TEX K (fun Wx => tCallS (spX K wf) (fun σ cls d H => Wx cls d σ H) t) (wCallX wf wa) := by
  intro z O As σd W σ H ΦX Wx Φ Q r g q qx
  refine ha _ _ r g fun vs H1 xs As1 W1 e wl hvs p => ?_
  exact ⟨_, As1, _, xs, Φ, _, wl, hvs, p, fun v H' x As' W' e2 wl2 hv2 p2 => q v H' x As' W' (e.trans e2) wl2 hv2 p2, fun C d ks ds As' W' H' e2 wl2 f2 p2 => qx C d ks ds O As' σd W' σ H' (e.trans e2).own (r.ext (e.trans e2) wl2) f2 p2⟩
theorem dX_call (F : FnOk X.prog X.w X.K X.mg X.base (L2.CX X.prog X.w) k fa fd ps (spX X.K wf)) (hr : Room k X.A) (hg : Gl X x) (hm : X.mg x = some (.ref fa)) (hk : PySem.W.keepIn X.K (.ref fa) = true) (hb : Binds X.K fd ps [])
    (ha : PAD X (e :: es) t wa) (hdb : (x == ("__debug__" : Str)) = false := by decide) (he : starEach (e :: es) X.env = (false, eval e X.env) :: starEach es X.env := by rfl) (hpl : (backTo pos (starEach es X.env)).any (·.1) = false := by rfl) :
    PDX X (.Call (.Name x p) (e :: es) [] pos) (fun Wx => tCallS (spX X.K wf) (fun σ cls d H => Wx cls d σ H) t) (wCallX wf wa) := ⟨fun Wx tk => pe_callS F hr hg hm hk hb (fun σ => passAt tk σ) ha.pa hdb he hpl, tex_call ha.ok⟩
end
end DL

/-! try: body, except B as n: suite, over data -/
namespace DL
open PySem L2
section
variable {K : PySem.W.Frag} {z : Av} {O : Nat → Option Addr} {As As' : List (List Addr)} {σd : DS} {W W' : WS} {σ : L2.St} {H H' : Hp}
/-- a name that is bound no more -/
theorem Rep.unset (r : Rep K z O As σd W σ H) (i : Nat) : Rep K z (noO O i) As (σd.set i none) W (σ.set i none) H := by
  refine ⟨r.wld.weak fun a => zo_sub, by rw [List.length_set, List.length_set]; exact r.len, fun j d e => ?_, fun j a q => ?_, fun j k a q1 q2 => ?_, fun j a q => ?_⟩
  · by_cases q : i = j
    · subst q
      rw [List.getElem?_set] at e
      simp only [if_true] at e
      split at e <;> cases e
    · rw [List.getElem?_set_ne q] at e ⊢
      obtain ⟨v', h1, h2⟩ := r.sl j d e
      refine ⟨v', h1, ?_⟩
      have ho : noO O i j = O j := if_neg fun x => q x.symm
      rw [ho]
      exact h2.weak fun a => zo_sub
  · unfold noO at q
    split at q
    · cases q
    · exact r.out j a q
  · unfold noO at q1 q2
    split at q1
    · cases q1
    · split at q2
      · cases q2
      · exact r.inj j k a q1 q2
  · unfold noO at q
    split at q
    · cases q
    · rename_i hj
      rw [List.getElem?_set_ne (fun x => hj x.symm)]
      exact r.oo j a q
end
abbrev unD (i : Nat) (Dd : DEnds) : DEnds := { nx := fun σ W => Dd.nx (σ.set i none) W, rt := Dd.rt, bk := fun σ W => Dd.bk (σ.set i none) W, ct := fun σ W => Dd.ct (σ.set i none) W }
/-- what the clause does: B the class, i the name's slot -/
def wTry (K : PySem.W.Frag) (B : Addr) (i : Nat) (wx : XW → WSt) (ws : Addr → Value → Option Addr → WSt) : WSt := fun Dd σd W =>
  wx (fun C ks ds σd' W' => PySem.W.exmOne K (.ref C) (.ref B) = some true ∧ ∀ a d, (d = none → ks = []) → ws a (.ref C) d (unD i Dd) (σd'.set i (some (.v (.d (.exc a d C ks ds))))) W') Dd σd W
section
variable {X : Cx} {x n : Str} {B : Addr} {i : Nat} {body suite : List Stmt} {b₀ : Stmt} {np pos pos' : Pos} {tx : WX → TS} {wx : XW → WSt} {ts : Addr → Value → Option Addr → TS} {ws : Addr → Value → Option Addr → WSt}
end

/-! ### in the suite: isinstance(e, C), e.f -/
def rIsX (K : PySem.W.Frag) (cls : Value) (d : Option Addr) (a : Addr) : List V → Hp → VK → Prop := fun xs H Q => ∃ (D : Addr) (c : V) (cv : Value) (b : Bool), xs = [.ref a, c] ∧ cls = .ref D ∧ ExcC K D ∧ DictAt d H ∧ ClsV c cv ∧ PySem.W.kitOne K (.ref D) cv = some b ∧ Q (.bl b) H
theorem call_isX {X : Cx} {a : Addr} {oe : Obj} {cls : Value} {d : Option Addr} {pn : List (Addr × Obj)} (hz : Zc cls d oe) (hf : ∃ vs, oe.data = .fields vs) : CallR (X.suite a ((a, oe) :: pn)) (.builtin "isinstance") (rIsX X.K cls d a) := by
  intro pins s σ H xs us Q I r h
  obtain ⟨D, c, cv, b, rfl, rfl, C, hd, hcv, e, q⟩ := h
  cases r with
  | cons rx rr =>
    cases rr with
    | cons rt rr =>
      cases rr
      cases rx
      obtain ⟨hget, _⟩ := I.pin (a, oe) (List.mem_append.mpr (.inl List.mem_cons_self))
      obtain ⟨vs, hv⟩ := hf
      have hcl : (PySem.W.clsIn X.K D).isSome = true := by
        obtain ⟨cd, hc, _⟩ := PySem.W.any_some C.hd
        rw [hc]
        rfl
      have J : ∃ od, PySem.W.InstAt s.heap a oe D od := by
        rcases hd with rfl | ⟨dd, fs, rfl, hdd⟩
        · refine ⟨none, hget, hz.1, by unfold PySem.W.notCls; rw [hv] <;> rfl, ?_⟩
          rw [hz.2]
          trivial
        · have hx : ObjOk X.prog X.w H s.heap dd (.xd fs) := I.hok dd _ hdd
          obtain ⟨mA, hns, hr⟩ := hx
          obtain ⟨od, ho, hl⟩ := lookIn_ns hns
          exact ⟨some od, hget, hz.1, by unfold PySem.W.notCls; rw [hv] <;> rfl, by rw [hz.2]; exact ho⟩
      obtain ⟨od, J⟩ := J
      have ec : (∃ n, cv = .type n ∧ c = .ty n) ∨ ∃ C, cv = .ref C ∧ c = .ref C := by
        cases hcv with
        | ty n => exact .inl ⟨n, rfl, rfl⟩
        | own C => exact .inr ⟨C, rfl, rfl⟩
      have eu : ∀ u, RelV c u → u = cv := fun u r => by
        rcases ec with ⟨n, rfl, rfl⟩ | ⟨n, rfl, rfl⟩ <;> exact r
      obtain rfl := eu _ rt
      exact PySem.W.kia_one (PySem.W.kitx_exc hcl C.hg C.hk C.hs C.ha C.hn C.ht C.hm) I.kIn J e (by rcases ec with ⟨n, rfl, _⟩ | ⟨n, rfl, _⟩ <;> exact fun z => nomatch z) fun tk => ⟨.bl b, H, I.kept (t' := tk) fun _ _ z => z, rfl, q⟩
abbrev rcIsX (K : PySem.W.Frag) (cls : Value) (d : Option Addr) (a : Addr) : RDC := fun ds W Φ => match ds with
  | [.exc a' d' D _ _, .raw c] => a' = a ∧ d' = d ∧ cls = .ref D ∧ ExcC K D ∧ ∃ cv b, ClsV c cv ∧ PySem.W.kitOne K (.ref D) cv = some b ∧ Φ (.d (.bl b)) W
  | _ => False
theorem cd_isX {K : PySem.W.Frag} {cls : Value} {d : Option Addr} {a : Addr} : CallD K (rIsX K cls d a) (rcIsX K cls d a) := by
  intro z As W H vs ds Φ Q wl hv h q
  unfold rcIsX at h
  split at h
  · obtain ⟨rfl, rfl, rfl, hC, cv, b, h1, h2, h3⟩ := h
    obtain ⟨v, u, rfl, hx, hy⟩ := hv.two
    obtain ⟨rfl, hd, _⟩ := hx.exc
    have hy := hy.raw
    exact ⟨_, _, cv, b, rfl, rfl, hC, hd, by rw [hy]; exact h1, h2, q _ H _ As W ExtS.refl wl (.d (.bl _)) h3⟩
  · exact h.elim
/-- e.f -/
def tXfs (K : PySem.W.Frag) (a : Addr) (cls : Value) (d : Option Addr) (f : Str) (te : TE) : TE := fun σ H Q => te σ H fun x H1 => ∃ C, XfC K C ∧ PySem.W.findIn K (.ref C) f = some none ∧ x = .ref a ∧ cls = .ref C ∧ ∃ dd fs v, d = some dd ∧ H1 dd = some (.xd fs) ∧ fs.lookup f = some v ∧ Q v H1
theorem pe_xfs {X : Cx} {a : Addr} {oe : Obj} {cls : Value} {d : Option Addr} {pn : List (Addr × Obj)} {e : Expr} {te : TE} {pos : Pos} {n : Str} (hz : Zc cls d oe) (hf : ∃ vs, oe.data = .fields vs) (he : PE (X.suite a ((a, oe) :: pn)) e te)
    (hb : attributeBase e n X.env (eval e X.env) = eval e X.env := by rfl) : PE (X.suite a ((a, oe) :: pn)) (.Attribute e n pos) (tXfs X.K a cls d n te) := by
  constructor
  intro pins s σ H Q I h
  apply attr_of hb
  refine thn (he.run pins s σ H _ I h) fun u s1 hh => ?_
  obtain ⟨x, H1, J, rx, C, T, hno, ex, ec, dd, fs, v, ed, ea, lk, q⟩ := hh
  cases ex
  have eu : u = Value.ref a := rx
  cases eu
  cases ec
  cases ed
  have pn1 := (J.pin (a, oe) (List.mem_append_left _ List.mem_cons_self)).1
  obtain ⟨vs, hd⟩ := hf
  obtain ⟨mA, hns, rel⟩ : ∃ mA, s1.heap.Ns1 dd mA ∧ ∀ g, RelO (fs.lookup g) (mA g) := by
    have o1 : ObjOk X.prog X.w H1 s1.heap dd (.xd fs) := J.hok dd _ ea
    exact o1
  obtain ⟨od, h1, h2⟩ := lookIn_ns hns
  have rn := rel n
  rw [lk] at rn
  obtain ⟨w, e1, e2⟩ := RelO.some_of rn
  have at_ : PySem.W.InstAt s1.heap a oe C (some od) := by
    refine ⟨pn1, hz.1, ?_, ?_⟩
    · unfold PySem.W.notCls
      rw [hd] <;> rfl
    · rw [hz.2]
      exact h1
  exact HandSPX.exc_get J.kIn at_ T.ga T.gg T.exC (PySem.W.findObj_own T.hdC hno rfl (by rw [h2, e1])) (handed_of e2) ⟨v, H1, J.tok _, e2, q⟩
theorem zip_find {K : PySem.W.Frag} {N : Av} {H : Hp} {f : Str} {y : Dv} : ∀ {ks : List Str} {vs : List V} {ds : List Dv}, HasL K N H vs ds → (ks.zip ds).lookup f = some y → ∃ v, (ks.zip vs).lookup f = some v ∧ Has K N H v y
  | [], _, _, _, h => by cases h
  | _ :: _, _, _, .nil, h => by cases h
  | k :: ks, _, _, .cons g t, h => by
    simp only [List.zip_cons_cons, List.lookup] at h ⊢
    split at h
    · cases h
      exact ⟨_, rfl, g⟩
    · exact zip_find t h
abbrev wXf (K : PySem.W.Frag) (a : Addr) (cls : Value) (d : Option Addr) (f : Str) (we : WE) : WE := fun σd W Φ => we σd W fun x W1 => match x with
  | .d (.exc a' d' C ks ds) => a' = a ∧ d' = d ∧ cls = .ref C ∧ d ≠ none ∧ XfC K C ∧ PySem.W.findIn K (.ref C) f = some none ∧ ∃ y, (ks.zip ds).lookup f = some y ∧ Φ (.d y) W1
  | _ => False
theorem teo_xf {K : PySem.W.Frag} {a : Addr} {cls : Value} {d : Option Addr} {f : Str} {te : TE} {we : WE} (h : TEok K te we) : TEok K (tXfs K a cls d f te) (wXf K a cls d f we) := by
  intro z O As σd W σ H Φ Q r g q
  refine h _ _ r g fun v H1 x As1 W1 e wl hv p => ?_
  split at p
  · obtain ⟨rfl, rfl, rfl, hd, h1, h2, y, h3, h4⟩ := p
    cases hv with
    | d hv =>
      cases hv with
      | exc0 => exact absurd rfl hd
      | exc n s l e2 =>
        obtain ⟨u, g1, g2⟩ := zip_find l h3
        exact ⟨_, h1, h2, rfl, rfl, _, _, u, rfl, s, g1, q u H1 _ As1 W1 e wl (.d g2) h4⟩
  · exact p.elim
section
variable {X : Cx} {a : Addr} {oe : Obj} {cls : Value} {d : Option Addr} {pn : List (Addr × Obj)} {e : Expr} {es : List Expr} {te : TE} {we : WE} {ta : TA} {wa : WAB} {p pos : Pos} {f : Str}
theorem d_isX (hz : Zc cls d oe) (hf : ∃ vs, oe.data = .fields vs) (hg : Gl X "isinstance") (hm : X.mg "isinstance" = none) (ha : PAB (X.suite a ((a, oe) :: pn)) (e :: es) ta wa)
    (he : starEach (e :: es) X.env = (false, eval e X.env) :: starEach es X.env := by rfl) (hpl : (backTo pos (starEach es X.env)).any (·.1) = false := by rfl) :
    PD (X.suite a ((a, oe) :: pn)) (.Call (.Name "isinstance" p) (e :: es) [] pos) (tCB (rIsX X.K cls d a) ta) (wCB (rcIsX X.K cls d a) wa) := d_callB (call_isX hz hf) cd_isX hg hm (by rfl) ha (by decide) (by decide) he hpl
theorem d_xf (hz : Zc cls d oe) (hf : ∃ vs, oe.data = .fields vs) (he : PD (X.suite a ((a, oe) :: pn)) e te we) (hb : attributeBase e f X.env (eval e X.env) = eval e X.env := by rfl) : PD (X.suite a ((a, oe) :: pn)) (.Attribute e f pos) (tXfs X.K a cls d f te) (wXf X.K a cls d f we) := ⟨pe_xfs hz hf he.pe hb, teo_xf he.ok⟩
end
end DL

namespace DL
open PySem L2
/-! ### what may be promised -/
section
variable {P : Program} {w : World} {K : PySem.W.Frag} {mg : Str → Option Value} {base : Heap} {CX : CXT} {k : Nat} {f : Addr} {fd : FuncData} {ps : List Str}
theorem fn_false : FnOk P w K mg base CX k f fd ps (spD K fun _ _ _ => False) := by
  refine ⟨fun vs H Q E h => ?_, fun A outer s H args us vs Q E hr he hb hv h => ?_⟩
  · obtain ⟨_, _, _, _, _, _, _, h, _⟩ := h
    exact h.elim
  · obtain ⟨_, _, _, _, _, _, _, h, _⟩ := h
    exact h.elim
/-- one promise of many -/
theorem fn_any {ι : Type} {wf : ι → WFn} (F : ∀ i, FnOk P w K mg base CX k f fd ps (spD K (wf i))) : FnOk P w K mg base CX k f fd ps (spD K fun xs W Φ => ∃ i, wf i xs W Φ) := by
  refine ⟨fun vs H Q E h => ?_, fun A outer s H args us vs Q E hr he hb hv h => ?_⟩
  · obtain ⟨z, As, W, xs, Φ, a, b, ⟨i, c⟩, d⟩ := h
    exact (F i).len vs H Q E ⟨z, As, W, xs, Φ, a, b, c, d⟩
  · obtain ⟨z, As, W, xs, Φ, a, b, ⟨i, c⟩, d⟩ := h
    exact (F i).run A outer s H args us vs Q E hr he hb hv ⟨z, As, W, xs, Φ, a, b, c, d⟩
end
theorem s_freeze {X : Cx} {st : Stmt} {t : TS} {w : WSt} (i : Nat) (h : PDS X st t w) : PDS X st t (wFreeze i w) := ⟨h.ps, tso_freeze h.ok⟩
theorem d_callK {X : Cx} {K : PySem.W.Frag} {x : Str} {p pos : Pos} {e : Expr} {es : List Expr} {t : TA} {wa : WA} {wf : WFn} {f : Addr} {fd : FuncData} {ps : List Str} {k : Nat} {ds : List Value} {dvs : List V} {dd : List Dv} (hK : X.K = K) (F : FnOk X.prog X.w X.K X.mg X.base CX0 k f fd ps (spD X.K wf)) (hr : Room k X.A) (hg : Gl X x) (hm : X.mg x = some (.ref f)) (hk : PySem.W.keepIn X.K (.ref f) = true) (hb : Binds X.K fd ps ds) (hd : Vals dvs ds) (hc : Cn X.K dvs dd)
    (ha : PAD X (e :: es) t wa) (hdb : (x == ("__debug__" : Str)) = false := by decide) (he : starEach (e :: es) X.env = (false, eval e X.env) :: starEach es X.env := by rfl) (hpl : (backTo pos (starEach es X.env)).any (·.1) = false := by rfl) :
    PD X (.Call (.Name x p) (e :: es) [] pos) (tCall (spD K wf) dvs E0 t) (wCall wf dd wa) := by
  subst hK
  exact d_call F hr hg hm hk hb hd hc ha hdb he hpl
/-- a comprehension whose elements are drawn -/
theorem lcL_any {tgt : Tgt} {we : WE} {vs : List Nat} {σ : DS} (Pd : Dv → Prop) {W : WS} : ∀ {xs acc : List Dv} {Φ : List Dv → WS → Prop},
    (∀ x, x ∈ xs → ∃ σ2, tgt (.d x) (wipeD σ vs) = some σ2 ∧ ∀ (Ψ : Sv → WS → Prop), (∀ y, Pd y → Ψ (.d y) W) → we σ2 W Ψ) →
    (∀ ys, ys.length = xs.length → (∀ y, y ∈ ys → Pd y) → Φ (acc ++ ys) W) → wLcL tgt wYes we vs σ xs acc W Φ
  | [], acc, Φ, _, h => by
    unfold wLcL
    have := h [] rfl (fun y hy => (List.not_mem_nil hy).elim)
    rw [List.append_nil] at this
    exact this
  | x :: xs, acc, Φ, hx, h => by
    obtain ⟨σ2, e, he⟩ := hx x List.mem_cons_self
    unfold wLcL
    rw [e]
    dsimp only [wYes]
    rw [if_pos rfl]
    refine he _ fun y hy => ?_
    refine lcL_any Pd (fun z hz => hx z (List.mem_cons_of_mem _ hz)) fun ys hl hp => ?_
    have := h (y :: ys) (by simp [hl]) (fun z hz => by
      rcases List.mem_cons.mp hz with rfl | hz
      · exact hy
      · exact hp z hz)
    rw [List.append_assoc]
    exact this
/-! ### things of any kind -/
def thgBase : List Dv := [.non, .bl true, .bl false, .int 0, .int 1, .int (0 - 2), .str "", .str "take", .str "never", .str "always", .str "all", .tup [], .lst [], .tup [.str "mark", .str "now", .int 1]]
inductive Thg : Nat → Dv → Prop
  | base {n : Nat} {d : Dv} : d ∈ thgBase → Thg n d
  | lst {n : Nat} {xs : List Dv} : xs.length ≤ 3 → (∀ x, x ∈ xs → Thg n x) → Thg (n + 1) (.lst xs)
  | tup {n : Nat} {xs : List Dv} : xs.length ≤ 3 → (∀ x, x ∈ xs → Thg n x) → Thg (n + 1) (.tup xs)
def wfThing (n : Nat) : WFn := fun xs W Φ => ∃ j, xs = [.box j, .d (.int n)] ∧ W[j]? = some (.obj dealK) ∧ ∀ d, Thg n d → Φ (.d d) W
end DL
namespace SX
open PySem PySem.Spec PySem.W PyProof.Rows L2 NdefX
section
variable {K : PySem.W.Frag} {nm q nm2 q2 : Str} {C N F N2 : Addr} {bs bm bs2 : List Value} {hd hd2 : Bool} {sn sn2 : List Str} {sub sub2 : List Value} {ab ab2 : Bool} {col col2 : Option Bool} {dd dd2 : Option Addr} {k0 k1 k2 k3 k5 j0 j1 j2 j3 j5 : Option Value} {nid nid2 : String} {r : Option (Option Value)}
theorem ini_of (h1 : K.lookup C = some (excClassObj nm q C N bs (.ref F :: bm) hd sn sub ab col dd k0 k1 k2 k3 k5 nid)) (h2 : K.lookup F = some (excClassObj nm2 q2 F N2 bs2 bm hd2 sn2 sub2 ab2 col2 dd2 j0 j1 j2 j3 j5 nid2)) (h3 : findIn K (.ref F) "__init__" = r) : ks_superIn K C C "__init__" = r := by
  have e1 : clsIn K C = some { name := nm, bases := bs, mro := .ref C :: .ref F :: bm, ns := N, qualname := q, hasDict := hd, slotNames := sn, subclasses := sub, abstract := ab, collection := col, hasDel := false } := by unfold clsIn; rw [h1] <;> rfl
  unfold ks_superIn
  rw [e1]
  unfold findIn at h3
  dsimp only at h3
  rw [h2] at h3
  show alongIn K "__init__" (List.drop 1 (List.dropWhile (fun x => x != Value.ref C) (.ref C :: .ref F :: bm))) = r
  have e2 : List.dropWhile (fun x => x != Value.ref C) (Value.ref C :: .ref F :: bm) = Value.ref C :: .ref F :: bm := by simp [List.dropWhile_cons]
  rw [e2]
  exact h3
end
end SX

/-! rules for the bodies of try, the part of the text named -/
namespace DL
open PySem L2
section
variable {X : Cx} {K : PySem.W.Frag} {x f m : Str} {p pos apos pos' : Pos} {e o value : Expr} {es : List Expr} {t : TA} {wa : WA} {wf : WFnX} {C fa pa g : Addr} {fd : FuncData} {ps : List Str} {k : Nat} {ds : List Value} {dvs : List V} {dd : List Dv} {te to : TE} {we wo : WE} {ta : WX → TA} {waX : XW → WAB}
theorem dX_makeK (hK : X.K = K) (M : Mk X.K C fa) (F : FnOk X.prog X.w X.K X.mg X.base (L2.CX X.prog X.w) k fa fd ps (spX X.K wf)) (hr : Room (k + 1) X.A) (hg : Gl X x) (hm : X.mg x = some (.ref C)) (hb : Binds X.K fd ps ds) (hd : Vals dvs ds) (hc : Cn X.K dvs dd)
    (ha : PAD X (e :: es) t wa) (hdb : (x == ("__debug__" : Str)) = false := by decide) (he : starEach (e :: es) X.env = (false, eval e X.env) :: starEach es X.env := by rfl) (hpl : (backTo pos (starEach es X.env)).any (·.1) = false := by rfl) :
    PDX X (.Call (.Name x p) (e :: es) [] pos) (fun Wx => tMakeS C (spX K wf) dvs (fun σ cls d H => Wx cls d σ H) t) (wMakeX C wf dd wa) := by
  subst hK
  exact dX_make M F hr hg hm hb hd hc ha hdb he hpl
theorem dX_callK (hK : X.K = K) (F : FnOk X.prog X.w X.K X.mg X.base (L2.CX X.prog X.w) k fa fd ps (spX X.K wf)) (hr : Room k X.A) (hg : Gl X x) (hm : X.mg x = some (.ref fa)) (hk : PySem.W.keepIn X.K (.ref fa) = true) (hb : Binds X.K fd ps [])
    (ha : PAD X (e :: es) t wa) (hdb : (x == ("__debug__" : Str)) = false := by decide) (he : starEach (e :: es) X.env = (false, eval e X.env) :: starEach es X.env := by rfl) (hpl : (backTo pos (starEach es X.env)).any (·.1) = false := by rfl) :
    PDX X (.Call (.Name x p) (e :: es) [] pos) (fun Wx => tCallS (spX K wf) (fun σ cls d H => Wx cls d σ H) t) (wCallX wf wa) := by
  subst hK
  exact dX_call F hr hg hm hk hb ha hdb he hpl
end
end DL

namespace DL
open PySem L2 PySem.Spec PyProof.Rows
/-! ### str(..) of an own class with __str__ -/
section
variable {X : Cx} {C g : Addr} {fd : FuncData} {ps : List Str} {sp : Sp} {n : Nat}
end
/-! ### f-strings -/
section
variable {X : Cx} {e v1 v2 : Expr} {es rest : List Expr} {te : TE} {we : WE} {ts : List TE} {ws : List WE} {pos : Pos}
end
/-! ### an own list: x[k] = e; with a further value -/
abbrev wSetO (i : Nat) (wi : WB) (we : WE) : WSt := fun Dd σd W => (∃ xs, slot σd i = some (.own xs)) ∧ we σd W fun y W1 => wi σd W1 fun k W2 => match slot σd i, y, k with
  | some (.own xs), .d y, .int k => 0 ≤ k ∧ k < xs.length ∧ Dd.nx (σd.set i (some (.own (xs.set k.toNat y)))) W2
  | _, _, _ => False
theorem tso_setO {K : PySem.W.Frag} {i : Nat} {ti te : TE} {wi : WB} {we : WE} (hi : TBok K ti wi) (h : TEok K te we) : TSok K (tAsg te (gSub (tVar i) ti rSetL)) (wSetO i wi we) := by
  intro z O As σd W σ H Dd D r g q
  obtain ⟨⟨xs, es⟩, g⟩ := g
  refine h _ _ r g fun v H1 y As1 W1 e1 wl1 hv p1 => ?_
  have r1 := r.ext e1 wl1
  obtain ⟨u, h1, a, vs, ho, rfl, h2, h3⟩ := r1.sl i _ (slot_at es)
  refine ⟨_, h1, hi _ _ r1 p1 fun w H2 k As2 W2 e2 wl2 hw p2 => ?_⟩
  split at p2
  · rename_i xs' y' k' es'
    rw [es] at es'
    cases es'
    have r2 := r1.ext e2 wl2
    obtain ⟨u', h1', a', vs', ho', hv', h2', h3'⟩ := r2.sl i _ (slot_at es)
    rw [ho] at ho'
    cases ho'
    have hk := hw.int
    have hy : Has K (bad (zo z (owOf O)) As2) H2 v y' := by
      have hv2 := hv.ext e2
      cases hv2 with
      | d hv2 => exact hv2
    obtain ⟨r3, e3⟩ := r2.turnOwn es ho (h3'.set k'.toNat hy)
    obtain ⟨k0, k1, p3⟩ := p2
    refine ⟨a, vs', k', k'.toNat, rfl, hk, h2', ?_, q.nx _ W2 O As2 σ _ ((e1.own.trans e2.own).trans e3) r3 p3⟩
    unfold ixN
    rw [if_pos k0, if_pos (by rw [h3'.length]; exact k1)]
  · exact p2.elim
abbrev SetEq (X : Cx) (o k : Expr) (p : Pos) : Prop := ∀ v, assign (.Subscript o k p) X.env v = (do let a ← holding [v] (eval o X.env); let b ← holding [v, a] (eval k X.env); standAt p; holding [v, a, b] (setItem a b v); release [v, a, b] [])
section
variable {X : Cx} {x y : Str} {a b e o k : Expr} {t1 t2 te ti : TE} {w1 : WF} {w2 we : WE} {wi : WB} {pos pos2 : Pos}
theorem s_setO (i : Nat) (ho : PE X o (tVar i)) (hi : PB X k ti wi) (he : PD X e te we) (hs : swapsWithSole [.Subscript o k pos2] e pos.line X.env = pure false := by rfl) (hw : swappedStores [.Subscript o k pos2] e X.env = pure none := by rfl)
    (h1 : (assignEach [.Subscript o k pos2] X.env).map (·.2) = [assign (.Subscript o k pos2) X.env] := by rfl)
    (ha : SetEq X o k pos2 := by intro _; rfl) : PDS X (.Assign [.Subscript o k pos2] e pos) (tAsg te (gSub (tVar i) ti rSetL)) (wSetO i wi we) := ⟨ps_asg he.pe (pg_sub ho hi.pe set_list ha) hs hw h1, tso_setO hi.ok he.ok⟩
end
end DL

/-! C(k = v, ..), all parameters in their order -/
namespace DL
open PySem L2 PySem.Spec PyProof.Rows
structure PKD (X : Cx) (kws : List Keyword) (t : TA) (w : WA) : Prop where
  pk : PK X kws t
  ok : TAok X.K t w
section
variable {X : Cx} {e : Expr} {kws : List Keyword} {te : TE} {we : WE} {t : TA} {wr : WA} {nm : Option Str} {kpos : Pos}
theorem k_nil : PKD X [] tNil wNil := ⟨pk_nil, tao_nil⟩
theorem k_cons (h : PD X e te we) (hr : PKD X kws t wr) : PKD X (⟨nm, e, kpos⟩ :: kws) (tCons te t) (wCons we wr) := ⟨pk_cons h.pe hr.pk, tao_cons h.ok hr.ok⟩
end
end DL

namespace DL
open PySem L2
/-- plain small things, for repr -/
structure Leaf (d : Dv) (p : PyData) : Prop where
  py : pyD d = some p
  sh : p.showable = true
  dp : p.depth = 0
  ls : p.leavesShort 128 = true
  wt : p.weight ≤ 121
theorem leaf_non : Leaf .non .none := ⟨by simp only [pyD], by decide +kernel, by decide +kernel, by decide +kernel, by decide +kernel⟩
theorem leaf_bl (b : Bool) : Leaf (.bl b) (.bool b) := by
  cases b <;> exact ⟨by simp only [pyD], by decide +kernel, by decide +kernel, by decide +kernel, by decide +kernel⟩
theorem leaf_int {k : Int} (h : k.natAbs.log2 < 120) : Leaf (.int k) (.int k) := by
  have hs := int_short h
  refine ⟨by simp only [pyD], ?_, by simp only [PyData.depth], ?_, ?_⟩
  · simp only [PyData.showable, decide_eq_true_eq]
    omega
  · simp only [PyData.leavesShort, decide_eq_true_eq]
    exact hs
  · have w : (if (k == 0) = true then 0 else k.natAbs.log2 + 1) ≤ 120 := by split <;> omega
    simp only [PyData.weight]
    omega
inductive Leaves : List Dv → List PyData → Prop
  | nil : Leaves [] []
  | cons {d : Dv} {p : PyData} {ds : List Dv} {ps : List PyData} : Leaf d p → Leaves ds ps → Leaves (d :: ds) (p :: ps)
theorem leaves_fine : ∀ {ds : List Dv} {ps : List PyData}, Leaves ds ps → pyDs ds = some ps ∧ PyData.showableAll ps = true ∧ PyData.depthAll ps = 0 ∧ PyData.leavesShortAll 128 ps = true ∧ PyData.weightAll ps ≤ 122 * ds.length
  | _, _, .nil => ⟨by simp only [pyDs], by simp only [PyData.showableAll], by simp only [PyData.depthAll], by simp only [PyData.leavesShortAll], by simp only [PyData.weightAll, List.length_nil]; omega⟩
  | _, _, .cons h t => by
    obtain ⟨a, b, c, d, e⟩ := leaves_fine t
    have := h.wt
    refine ⟨?_, ?_, ?_, ?_, ?_⟩
    · unfold pyDs
      rw [h.py, a]
    · simp only [PyData.showableAll, b, h.sh, Bool.and_true]
    · simp only [PyData.depthAll, c, h.dp, Nat.max_self]
    · simp only [PyData.leavesShortAll, d, h.ls, Bool.and_true]
    · simp only [PyData.weightAll, List.length_cons]
      omega
theorem repr_lst {ds : List Dv} {ps : List PyData} (h : Leaves ds ps) (hl : ds.length ≤ 1000) : ∃ p, pyD (.lst ds) = some p ∧ p.showable = true ∧ p.depth ≤ 100 ∧ p.shown.length ≤ sizeLine := by
  obtain ⟨a, b, c, d, e⟩ := leaves_fine h
  refine ⟨.list ps, ?_, ?_, ?_, ?_⟩
  · simp only [pyD, a, Option.map_some]
  · simp only [PyData.showable]
    exact b
  · simp only [PyData.depth, c]
    decide
  · have := PyData.shown_le 128 (by decide) (.list ps) (by simp only [PyData.leavesShort]; exact d)
    have w : (PyData.list ps).weight ≤ 122 * ds.length := by simp only [PyData.weight]; exact e
    rw [sizeLine_eq]
    omega
end DL
namespace DL
open PySem L2
section
variable {t : WT} {a rest : XW → WSt} {ΦX : XW} {Dd : DEnds} {σ : DS} {W : WS} {b : Bool}
theorem xif_t (hb : b = true) (ht : ∀ Ψ : Bool → WS → Prop, Ψ b W → t σ W Ψ) (h : a ΦX { Dd with nx := rest ΦX Dd } σ W) : wSeqX (wIfX t a (fun _ => wNext)) rest ΦX Dd σ W := by
  subst hb
  unfold wSeqX wSeq wIfX wIfS
  refine ht _ ?_
  rw [if_pos rfl]
  exact h
theorem xif_f (hb : b = false) (ht : ∀ Ψ : Bool → WS → Prop, Ψ b W → t σ W Ψ) (h : rest ΦX Dd σ W) : wSeqX (wIfX t a (fun _ => wNext)) rest ΦX Dd σ W := by
  subst hb
  unfold wSeqX wSeq wIfX wIfS
  refine ht _ ?_
  rw [if_neg Bool.false_ne_true]
  exact h
end
end DL
namespace DL
open PySem L2
theorem d_ixLK {X : Cx} {K : PySem.W.Frag} {a b : Expr} {ta tb : TE} {wa wb : WB} {pos : Pos} (hK : X.K = K) (ha : PB X a ta wa) (hb : PB X b tb wb) (hs : PlainIx b) : PD X (.Subscript a b pos) (tOp (rIxL K) ta tb) (wOp rdIxL wa wb) := by
  subst hK
  exact d_ix ix_list od_ixL ha hb hs
end DL
namespace DL
open PySem L2
section
variable {t : WT} {a rest : WSt} {Dd : DEnds} {σ : DS} {W : WS} {b : Bool}
theorem sif_bt (hb : b = true) (ht : ∀ Ψ : Bool → WS → Prop, Ψ b W → t σ W Ψ) (h : a { Dd with nx := rest Dd } σ W) : wSeq (wIfS t a wNext) rest Dd σ W := by
  subst hb
  unfold wSeq wIfS
  refine ht _ ?_
  rw [if_pos rfl]
  exact h
theorem sif_bf (hb : b = false) (ht : ∀ Ψ : Bool → WS → Prop, Ψ b W → t σ W Ψ) (h : rest Dd σ W) : wSeq (wIfS t a wNext) rest Dd σ W := by
  subst hb
  unfold wSeq wIfS
  refine ht _ ?_
  rw [if_neg Bool.false_ne_true]
  exact h
end
end DL
namespace DL
open PySem L2
end DL

/-! texts -/
namespace DL
open PySem L2 PySem.Spec PyProof.Rows
section
variable {K : PySem.W.Frag} {N : Av} {H : Hp}
end
/-! ### split, join -/
section
variable {X : Cx} {K : PySem.W.Frag} {o e : Expr} {to te : TE} {wo we : WB} {apos pos : Pos}
/-! ### all(list), int(text), str(text), text + text -/
/-! ### one sign in a text -/
/-! ### for sign in text -/
end
end DL

/-! x[0::2], x[1::2] of six; classes in names, class methods -/
namespace DLX
open PySem PySem.Spec PyProof.Rows L2
end DLX
namespace DL
open PySem L2
end DL

/-! a class in a name, called; a class method called -/
namespace DL
open PySem L2 PySem.Spec PyProof.Rows
section
variable {X : Cx} {CX : CXT} {k : Nat} {f C : Addr} {fd : FuncData} {ps : List Str} {sp : Sp} {E : L2.St → XK} {x m : Str} {p pos apos : Pos} {e o : Expr} {es : List Expr} {ta : TE} {t : TA} {ds : List Value} {dvs : List V}
end
section
variable {X : Cx} {K : PySem.W.Frag} {x m : Str} {p pos apos : Pos} {e o : Expr} {es : List Expr} {t : TA} {wa : WA} {wf : WFnX} {C fa pa : Addr} {fd : FuncData} {ps : List Str} {k : Nat} {ds : List Value} {dvs : List V} {dd : List Dv} {to : TE} {wo : WE}
end
end DL

namespace DL
open PySem L2
section
variable {X : Cx} {K : PySem.W.Frag} {a b c : Expr} {ta tb tc : TE} {wa wb wc : WB} {pos : Pos}
end
/-! ### texts of numbers -/
theorem snoc_cases {α : Type} (l : List α) : l = [] ∨ ∃ r x, l = r ++ [x] := by
  cases e : l.reverse with
  | nil => exact .inl (List.reverse_eq_nil_iff.mp e)
  | cons x r => exact .inr ⟨r.reverse, x, by rw [← List.reverse_reverse l, e, List.reverse_cons]⟩
theorem digitsVal_app (cs : List Nat) (c : Nat) : PySem.NumText.digitsVal (cs ++ [c]) = PySem.NumText.digitsVal cs * 10 + (c - 48) := by
  unfold PySem.NumText.digitsVal
  rw [List.foldl_append]
  rfl
theorem digitsVal_pos : ∀ (n : Nat) (cs : List Nat), cs.length = n → PySem.NumText.AllDigits cs → cs ≠ [] → cs[0]? ≠ some 48 → 0 < PySem.NumText.digitsVal cs := by
  intro n
  induction n with
  | zero => intro cs hl _ hne; exact absurd (List.length_eq_zero_iff.mp hl) hne
  | succ n ih =>
    intro cs hl hd hne h0
    rcases snoc_cases cs with rfl | ⟨r, x, rfl⟩
    · exact absurd rfl hne
    · rw [digitsVal_app]
      have hx := hd x (List.mem_append.mpr (.inr (List.mem_singleton.mpr rfl)))
      by_cases hr : r = []
      · subst hr
        have : x ≠ 48 := fun e => h0 (by rw [e]; rfl)
        omega
      · have h1 : r[0]? ≠ some 48 := fun e => h0 (by
          rw [List.getElem?_append_left (List.length_pos_iff.mpr hr)]
          exact e)
        have := ih r (by rw [List.length_append, List.length_singleton] at hl; omega) (fun c hc => hd c (List.mem_append.mpr (.inl hc))) hr h1
        omega
theorem digit_char {c : Nat} (h : 48 ≤ c ∧ c ≤ 57) : (Nat.digitChar (c - 48)).toNat = c := by
  have key : ∀ d : Nat, d < 10 → (Nat.digitChar d).toNat = d + 48 := by decide
  have := key (c - 48) (by omega)
  omega
theorem digits_back : ∀ (n : Nat) (cs : List Nat), cs.length = n → PySem.NumText.AllDigits cs → cs ≠ [] → (cs = [48] ∨ cs[0]? ≠ some 48) → (Nat.toDigits 10 (PySem.NumText.digitsVal cs)).map Char.toNat = cs := by
  intro n
  induction n with
  | zero => intro cs hl _ hne; exact absurd (List.length_eq_zero_iff.mp hl) hne
  | succ n ih =>
    intro cs hl hd hne h0
    rcases snoc_cases cs with rfl | ⟨r, x, rfl⟩
    · exact absurd rfl hne
    · have hx := hd x (List.mem_append.mpr (.inr (List.mem_singleton.mpr rfl)))
      by_cases hr : r = []
      · subst hr
        have e : PySem.NumText.digitsVal ([] ++ [x]) = x - 48 := by
          rw [digitsVal_app]
          show 0 * 10 + (x - 48) = _
          omega
        rw [e, Nat.toDigits_of_lt_base (by omega)]
        show [(Nat.digitChar (x - 48)).toNat] = [x]
        rw [digit_char hx]
      · have h1 : r[0]? ≠ some 48 := fun e => by
          rcases h0 with h0 | h0
          · have l1 := congrArg List.length h0
            rw [List.length_append] at l1
            have l2 := List.length_pos_iff.mpr hr
            change r.length + 1 = 1 at l1
            omega
          · exact h0 (by
              rw [List.getElem?_append_left (List.length_pos_iff.mpr hr)]
              exact e)
        have hdr : PySem.NumText.AllDigits r := fun c hc => hd c (List.mem_append.mpr (.inl hc))
        have hlr : r.length = n := by rw [List.length_append, List.length_singleton] at hl; omega
        have hp := digitsVal_pos n r hlr hdr hr h1
        have t := ih r hlr hdr hr (.inr h1)
        have t2 : Nat.toDigits 10 (PySem.NumText.digitsVal r) ++ Nat.toDigits 10 (x - 48) = Nat.toDigits 10 (10 * PySem.NumText.digitsVal r + (x - 48)) := Nat.toDigits_append_toDigits (by decide) hp (by omega)
        rw [digitsVal_app, show PySem.NumText.digitsVal r * 10 + (x - 48) = 10 * PySem.NumText.digitsVal r + (x - 48) by omega, ← t2, List.map_append, t, Nat.toDigits_of_lt_base (by omega)]
        show r ++ [(Nat.digitChar (x - 48)).toNat] = r ++ [x]
        rw [digit_char hx]
theorem str_eq {x y : Str} (h : x.cps.toList = y.cps.toList) : x = y := by
  obtain ⟨a⟩ := x
  obtain ⟨b⟩ := y
  have : a = b := Array.toList_inj.mp h
  rw [this]
theorem ne_of_len {w : Str} (h : 1 ≤ w.length) : w.cps.toList ≠ [] := fun e => by
  rw [len_list, e] at h
  exact absurd h (by decide)
theorem zero_list : ("0" : Str).cps.toList = [48] := by decide +kernel
theorem Canon.back {w : Str} (h : Canon w) : (toString (valS w) : Str) = w := by
  refine str_eq ?_
  show (Str.ofString (toString ((PySem.NumText.digitsVal w.cps.toList : Nat) : Int))).cps.toList = _
  rw [PySem.W.KIN.signs_num]
  refine digits_back _ _ rfl h.dig (ne_of_len h.one) ?_
  rcases h.fst with e | e
  · left
    rw [e]
    exact zero_list
  · exact .inr e
end DL

/-! texts of loads: cut at the blanks, put together -/
namespace DL
open PySem L2 TL
theorem TxtOk.mono {n m : Nat} {x : Str} (h : TxtOk n x) (l : n ≤ m) : TxtOk m x := ⟨Nat.le_trans h.len l, h.chr⟩
end DL

namespace DL
open PySem L2 TL
theorem numD_is (w : Str) : (canonB w = true ∧ numD w = .int (valS w)) ∨ (canonB w = false ∧ numD w = .non) := by
  unfold numD
  cases canonB w with
  | true => exact .inl ⟨rfl, rfl⟩
  | false => exact .inr ⟨rfl, rfl⟩
theorem in2 (d f : Str) : inD .non [numD d, numD f] = !(canonB d && canonB f) := by
  rcases numD_is d with ⟨e1, e2⟩ | ⟨e1, e2⟩ <;> rcases numD_is f with ⟨e3, e4⟩ | ⟨e3, e4⟩ <;> rw [e1, e2, e3, e4] <;> rfl
end DL

namespace DL
open PySem L2 TL
/-! ### a part of a list of strings -/
end DL

/-! dicts: displays, own dicts, update, d[k], d.get(k, x) -/
namespace DL
open PySem L2
/-! ### keys and values apart -/
def putKs (ks : List Key) (k : Key) : List Key := if hasK ks k = true then ks else ks ++ [k]
def mrgKs : List Key → List Key → List Key
  | ks, [] => ks
  | ks, k :: r => mrgKs (putKs ks k) r
def mrgDs {α : Type} : List Key → List α → List Key → List α → List α
  | ks, as, k :: r, a :: s => mrgDs (putKs ks k) (putDs ks as k a) r s
  | _, as, _, _ => as
section
variable {α : Type}
theorem zw_len {ks : List Key} {as : List α} (h : ks.length = as.length) (f : Key → α → α) : (List.zipWith f ks as).length = ks.length := by
  rw [List.length_zipWith, ← h, Nat.min_self]
theorem put_len {ks : List Key} {as : List α} (h : ks.length = as.length) (k : Key) (a : α) : (putKs ks k).length = (putDs ks as k a).length := by
  unfold putKs putDs
  by_cases m : hasK ks k = true
  · rw [if_pos m, if_pos m, zw_len h]
  · rw [if_neg m, if_neg m, List.length_append, List.length_append, h]
    rfl
theorem mrg_len : ∀ {ks2 : List Key} {as2 : List α} {ks : List Key} {as : List α}, ks.length = as.length → ks2.length = as2.length → (mrgKs ks ks2).length = (mrgDs ks as ks2 as2).length
  | [], [], _, _, h, _ => h
  | k :: r, a :: s, ks, as, h, h2 => by
    show (mrgKs (putKs ks k) r).length = (mrgDs (putKs ks k) (putDs ks as k a) r s).length
    exact mrg_len (put_len h k a) (Nat.succ.inj h2)
  | [], _ :: _, _, _, _, h2 => by cases h2
  | _ :: _, [], _, _, _, h2 => by cases h2
end
theorem put_zip {ks : List Key} {vs : List V} (h : ks.length = vs.length) (k : Key) (v : V) : putK (ks.zip vs) k v = (putKs ks k).zip (putDs ks vs k v) := by
  have ha : ∀ {ks : List Key} {vs : List V}, ks.length = vs.length → ((ks.zip vs).any fun kv => decide (kv.1 = k)) = hasK ks k := by
    intro ks
    induction ks with
    | nil => intro vs _; rfl
    | cons x r ih =>
      intro vs h
      cases vs with
      | nil => cases h
      | cons y s =>
        rw [List.zip_cons_cons, List.any_cons, ih (Nat.succ.inj h)]
        rfl
  have hz : ∀ {ks : List Key} {vs : List V}, ks.length = vs.length → (ks.zip vs).map (fun kv => if kv.1 = k then (kv.1, v) else kv) = ks.zip (List.zipWith (fun k' x => if k' = k then v else x) ks vs) := by
    intro ks
    induction ks with
    | nil => intro vs _; rfl
    | cons x r ih =>
      intro vs h
      cases vs with
      | nil => cases h
      | cons y s =>
        rw [List.zip_cons_cons, List.map_cons, ih (Nat.succ.inj h), List.zipWith_cons_cons, List.zip_cons_cons]
        by_cases e : x = k
        · simp [e]
        · simp [e]
  unfold putK putKs putDs
  rw [ha h]
  by_cases m : hasK ks k = true
  · rw [if_pos m, if_pos m, if_pos m, hz h]
  · rw [if_neg m, if_neg m, if_neg m, List.zip_append h]
    rfl
theorem mrg_zip : ∀ {ks2 : List Key} {vs2 : List V} {ks : List Key} {vs : List V}, ks.length = vs.length → ks2.length = vs2.length → mergeK (ks.zip vs) (ks2.zip vs2) = (mrgKs ks ks2).zip (mrgDs ks vs ks2 vs2)
  | [], [], _, _, _, _ => rfl
  | k :: r, v :: s, ks, vs, h, h2 => by
    show mergeK (putK (ks.zip vs) k v) (r.zip s) = _
    rw [put_zip h]
    exact mrg_zip (put_len h k v) (Nat.succ.inj h2)
  | [], _ :: _, _, _, _, h2 => by cases h2
  | _ :: _, [], _, _, _, h2 => by cases h2
theorem get_zip : ∀ {ks : List Key} {vs : List V} (k : Key), valV (ks.zip vs) k = getA ks vs k
  | [], vs, k => by cases vs <;> rfl
  | _ :: _, [], k => rfl
  | x :: r, y :: s, k => by
    rw [List.zip_cons_cons]
    unfold getA
    by_cases e : x = k
    · rw [if_pos e, valV_pos e]
    · rw [if_neg e, valV_neg e]
      exact get_zip k
section
variable {K : PySem.W.Frag} {N : Av} {H : Hp}
theorem HasL.mrg : ∀ {ks2 : List Key} {vs2 : List V} {ds2 : List Dv} {ks : List Key} {vs : List V} {ds : List Dv}, HasL K N H vs ds → HasL K N H vs2 ds2 → HasL K N H (mrgDs ks vs ks2 vs2) (mrgDs ks ds ks2 ds2)
  | [], _, _, _, _, _, h, _ => by
    unfold mrgDs
    exact h
  | _ :: _, _, _, _, _, _, h, .nil => h
  | k :: r, _, _, ks, vs, ds, h, .cons (v := v) (d := d) (vs := us) (ds := es) a t => by
    show HasL K N H (mrgDs (putKs ks k) (putDs ks vs k v) r us) (mrgDs (putKs ks k) (putDs ks ds k d) r es)
    exact HasL.mrg (h.put a) t
theorem HasL.getK : ∀ {ks : List Key} {vs : List V} {ds : List Dv} {k : Key} {d : Dv}, HasL K N H vs ds → getA ks ds k = some d → ∃ v, getA ks vs k = some v ∧ Has K N H v d
  | [], _, _, _, _, _, e => by cases e
  | _ :: _, _, _, _, _, .nil, e => by cases e
  | x :: r, _, _, k, _, .cons a t, e => by
    unfold getA at e ⊢
    by_cases q : x = k
    · rw [if_pos q] at e ⊢
      cases e
      exact ⟨_, rfl, a⟩
    · rw [if_neg q] at e ⊢
      exact HasL.getK t e
theorem HasL.getN : ∀ {ks : List Key} {vs : List V} {ds : List Dv} {k : Key}, HasL K N H vs ds → getA ks ds k = none → getA ks vs k = none
  | [], _, _, _, _, _ => rfl
  | _ :: _, _, _, _, .nil, _ => rfl
  | x :: r, _, _, k, .cons a t, e => by
    unfold getA at e ⊢
    by_cases q : x = k
    · rw [if_pos q] at e
      cases e
    · rw [if_neg q] at e ⊢
      exact HasL.getN t e
end

/-! ### a new dict that nobody else knows -/
abbrev WG := DS → WS → (List Key → List Dv → WS → Prop) → Prop
def TNok (K : PySem.W.Frag) (t : TE) (w : WG) : Prop := ∀ {z : Av} {O : Nat → Option Addr} {As : List (List Addr)} {σd : DS} {W : WS} {σ : St} {H : Hp} (Φ : List Key → List Dv → WS → Prop) (Q : VK), Rep K z O As σd W σ H → w σd W Φ →
  (∀ p H' vs ks ds As' W', H p = none → Ext As H As' H' → Wld K (z1 (zo z (owOf O)) p) As' W' H' → H' p = some (.dK (ks.zip vs)) → HasL K (bad (z1 (zo z (owOf O)) p) As') H' vs ds → ks.length = ds.length → Φ ks ds W' → Q (.ref p) H') → t σ H Q
structure PG (X : Cx) (e : Expr) (t : TE) (w : WG) : Prop where
  pe : PE X e t
  ok : TNok X.K t w
/-- as data -/
abbrev wFrG (w : WG) : WE := fun σd W Φ => w σd W fun ks ds W1 => Φ (.d (.dic ks ds)) W1
theorem teo_frG {K : PySem.W.Frag} {t : TE} {w : WG} (h : TNok K t w) : TEok K t (wFrG w) := by
  intro z O As σd W σ H Φ Q r g q
  refine h _ Q r g fun p H' vs ks ds As' W' hp e wl hl hx hn p2 => ?_
  have wl' : Wld K (zo z (owOf O)) As' W' H' := wl.weak fun a b => .inl b
  refine q (.ref p) H' _ As' W' e wl' (.d (.dic (fun b => ?_) (.inl hl) (hx.mv (Mv.weak fun a b => b.imp id .inl)) hn)) p2
  rcases b with b | b
  · exact wl.zok.out p (.inr rfl) b
  · exact r.wld.zok.trk p b hp
theorem d_frG {X : Cx} {e : Expr} {t : TE} {w : WG} (h : PG X e t w) : PD X e t (wFrG w) := ⟨h.pe, teo_frG h.ok⟩

/-! ### displays -/
structure PPD (X : Cx) (pos : Pos) (keys : List (Option Expr)) (values : List Expr) (trs : List (TE × TE)) (ks : List Key) (w : WA) : Prop where
  pps : PPs X pos keys values trs
  ok : ∀ {z : Av} {O : Nat → Option Addr} {As : List (List Addr)} {σd : DS} {W : WS} {σ : St} {H : Hp} (Φ : List Sv → WS → Prop) (Q : List (V × V) → Hp → Prop), Rep X.K z O As σd W σ H → w σd W Φ →
    (∀ vs H' xs As' W', Ext As H As' H' → Wld X.K (zo z (owOf O)) As' W' H' → HasVL X.K (zo z (owOf O)) As' H' vs xs → vs.length = ks.length → Φ xs W' → Q ((ks.map kV).zip vs) H') → tPairs trs σ H Q
theorem pp_nil {X : Cx} {pos : Pos} : PPD X pos [] [] [] [] wNil := ⟨pps_nil, fun Φ Q r g q => q [] _ [] _ _ ExtS.refl r.wld .nil rfl g⟩
theorem pp_cons {X : Cx} {pos : Pos} {e v : Expr} {k : Key} {es : List (Option Expr)} {vs : List Expr} {tv : TE} {wv : WE} {trs : List (TE × TE)} {ks : List Key} {w : WA} (hk : PE X e (tC (kV k))) (hv : PD X v tv wv) (h : PPD X pos es vs trs ks w) :
    PPD X pos (some e :: es) (v :: vs) ((tC (kV k), tv) :: trs) (k :: ks) (wCons wv w) := by
  refine ⟨pps_cons hk hv.pe h.pps, ?_⟩
  intro z O As σd W σ H Φ Q r g q
  show tv σ H fun y H2 => tPairs trs σ H2 fun ps H3 => Q ((kV k, y) :: ps) H3
  refine hv.ok _ _ r g fun u H1 x As1 W1 e1 wl1 hx p1 => ?_
  refine h.ok _ _ (r.ext e1 wl1) p1 fun us H2 xs As2 W2 e2 wl2 hxs hl p2 => ?_
  exact q (u :: us) H2 (x :: xs) As2 W2 (e1.trans e2) wl2 (.cons (hx.ext e2) hxs) (congrArg (· + 1) hl) p2
theorem k_str {X : Cx} {x : Str} {j : Nat} {pos : Pos} : PE X (.Constant (.str x) j pos) (tC (kV (.inr x))) := pe_str
theorem k_int {X : Cx} {i : Int} {j : Nat} {pos : Pos} : PE X (.Constant (.int i) j pos) (tC (kV (.inl i))) := pe_int
def wDisp (ks : List Key) (wa : WA) : WG := fun σd W Φ => wa σd W fun xs W1 => match allD xs with
  | some ds => (ds.length = ks.length ∧ ds.length ≤ 15) ∧ Φ (mrgKs [] ks) (mrgDs [] [] ks ds) W1
  | none => False
/-- H' over H with a change at p, which was free in H -/
theorem ext_at {As As' : List (List Addr)} {H H' : Hp} {p : Addr} {o u : HO} (hp : H p = none) (e : Ext As (upd H p o) As' H') : Ext As H As' (upd H' p u) := by
  have e1 : Ext As H As' H' := (Ext.new hp).trans e
  refine ⟨fun b x h n m => ?_, e1.at_, fun a q => ?_⟩
  · obtain ⟨h1, h2, h3⟩ := e1.keep b x h n m
    exact ⟨by rw [upd_ne (ne_of_none h hp)]; exact h1, h2, h3⟩
  · unfold upd
    split
    · exact fun x => by cases x
    · exact e1.up a q
theorem zip_kv : ∀ {ks : List Key} {vs : List V}, vs.length = ks.length → (ks.map kV).zip vs = (ks.zip vs).map (fun kv => (kV kv.1, kv.2))
  | [], _, _ => by simp
  | _ :: _, [], h => by cases h
  | k :: r, v :: s, h => by
    rw [List.map_cons, List.zip_cons_cons, List.zip_cons_cons, List.map_cons, ← zip_kv (Nat.succ.inj h)]
theorem g_disp {X : Cx} {pos : Pos} {keys : List (Option Expr)} {values : List Expr} {trs : List (TE × TE)} {ks : List Key} {wa : WA} (h : PPD X pos keys values trs ks wa) (hall : keys.all (·.isSome) = true := by rfl) (hl : keys.length = values.length := by rfl) (h0 : keys ≠ [] := by exact List.cons_ne_nil _ _)
    (h15 : keys.length ≤ 15 := by decide) : PG X (.Dict keys values pos) (tDisp trs) (wDisp ks wa) := by
  refine ⟨pe_disp h.pps hall hl h0 h15, ?_⟩
  intro z O As σd W σ H Φ Q r g q
  intro p hp
  have wl0 : Wld X.K (z1 (zo z (owOf O)) p) As W (upd H p (.dK [])) := zk1 r.wld hp
  have r1 := (r.under (vs := []) hp (Ext.new hp) wl0 rfl).1
  refine h.ok (σd := σd) (σ := σ) _ _ r1 g fun vs H2 xs As2 W2 e2 wl2 hxs hn p2 => ?_
  split at p2
  · rename_i ds hd
    obtain rfl := allD_eq hd
    obtain ⟨⟨l1, l2⟩, p2⟩ := p2
    have hv := hxs.toL
    have h2 : H2 p = some (.dK []) := (e2.keep p _ upd_same (fun f => r.wld.trk p f hp) fun f => f).1
    have sub : ∀ a, z1 (zo z (owOf O)) p a → zo (z1 z p) (owOf O) a := fun a q => by
      rcases q with (q | q) | q
      · exact .inl (.inl q)
      · exact .inr q
      · exact .inl (.inr q)
    obtain ⟨wl3, mv3⟩ := grow_at (D := p) (o := .dK (mergeK [] (ks.zip vs))) wl2 (.inl (.inr rfl))
    refine ⟨h2, ks.zip vs, ?_, ?_, ?_⟩
    · exact zip_kv hn
    · rw [List.length_zip, hn]
      have := hv.length
      omega
    · have em : mergeK [] (ks.zip vs) = (mrgKs [] ks).zip (mrgDs [] [] ks vs) := mrg_zip (ks := []) (vs := []) rfl hn.symm
      refine q p _ (mrgDs [] [] ks vs) _ _ As2 W2 hp (ext_at hp e2) (wl3.weak sub) (by rw [upd_same, em]) (HasL.mrg .nil ((hv.mv mv3).mv (Mv.weak fun a b => b.imp id (sub a)))) (mrg_len rfl (by omega)) p2
  · exact p2.elim
end DL

/-! own dicts -/
namespace DL
open PySem L2
section
variable {K : PySem.W.Frag} {z : Av} {O : Nat → Option Addr} {As As' : List (List Addr)} {σd : DS} {W W' : WS} {σ : St} {H H' : Hp}
theorem Rep.setOwnD (r : Rep K z O As σd W σ H) (i : Nat) {p : Addr} {ks : List Key} {vs : List V} {xs : List Dv} (hp : H p = none) (e : Ext As H As' H') (wl : Wld K (z1 (zo z (owOf O)) p) As' W' H') (hl : H' p = some (.dK (ks.zip vs))) (hx : HasL K (bad (z1 (zo z (owOf O)) p) As') H' vs xs) (hn : ks.length = xs.length) (hi : i < σd.length) :
    Rep K z (setO O i p) As' (σd.set i (some (.ownD ks xs))) W' (σ.set i (some (.ref p))) H' := by
  have sub : ∀ a, zo z (owOf (setO O i p)) a → z1 (zo z (owOf O)) p a := fun a q => by
    rcases q with q | q
    · exact .inl (.inl q)
    · rcases setO_sub q with q | q
      · exact .inl (.inr (noO_sub q))
      · exact .inr q
  have mv : Mv (bad (zo z (owOf O)) As) H (bad (z1 (zo z (owOf O)) p) As') H' := fun b o hb n => by
    obtain ⟨h1, h2, _⟩ := e.keep b o hb (fun f => n (.inl f)) fun f => f
    refine ⟨h1, fun q => ?_⟩
    rcases q with q | q | q
    · exact h2 q
    · exact n (.inr q)
    · subst q
      rw [hp] at hb
      cases hb
  refine ⟨wl.weak sub, by rw [List.length_set, List.length_set]; exact r.len, fun j d ej => ?_, fun j a q => ?_, fun j k a q1 q2 => ?_, fun j a q => ?_⟩
  · by_cases q : i = j
    · subst q
      rw [List.getElem?_set] at ej ⊢
      simp only [if_true] at ej ⊢
      by_cases l : i < σd.length
      · rw [if_pos l] at ej
        rw [r.len, if_pos l]
        cases ej
        exact ⟨_, rfl, p, vs, by unfold setO; rw [if_pos rfl], rfl, hl, hx.mv (Mv.weak fun a b => b.imp id (sub a)), hn⟩
      · rw [if_neg l] at ej
        cases ej
    · rw [List.getElem?_set_ne q] at ej ⊢
      obtain ⟨v', h1, h2⟩ := r.sl j d ej
      refine ⟨v', h1, ?_⟩
      have ho : setO O i p j = O j := by unfold setO; rw [if_neg (fun x => q x.symm)]
      rw [ho]
      have st : ∀ a, O j = some a → H' a = H a := fun a ha => by
        have q : zo z (owOf O) a := .inr ⟨j, ha⟩
        cases t : H a with
        | none => exact absurd t (r.wld.zok.trk a q)
        | some o => exact (e.keep a o t (r.wld.zok.out a q) fun f => f).1
      cases d with
      | v x =>
        obtain ⟨g1, g2⟩ := h2
        refine ⟨g1, ?_⟩
        cases g2 with
        | d g2 => exact .d ((g2.mv mv).mv (Mv.weak fun a b => b.imp id (sub a)))
        | box g2 => exact .box (e.at_ _ _ g2)
      | own ys =>
        obtain ⟨a, us, g1, g2, g3, g4⟩ := h2
        exact ⟨a, us, g1, g2, by rw [st a g1]; exact g3, (g4.mv mv).mv (Mv.weak fun a b => b.imp id (sub a))⟩
      | ownD ks ds =>
        obtain ⟨a, us, g1, g2, g3, g4, g5⟩ := h2
        exact ⟨a, us, g1, g2, by rw [st a g1]; exact g3, (g4.mv mv).mv (Mv.weak fun a b => b.imp id (sub a)), g5⟩
  · unfold setO at q
    split at q
    · cases q
      exact fun q2 => r.wld.zok.trk _ (.inl q2) hp
    · exact r.out j a q
  · have old : ∀ m, O m = some p → False := fun m hm => r.wld.zok.trk p (.inr ⟨m, hm⟩) hp
    unfold setO at q1 q2
    split at q1
    · rename_i hj
      cases q1
      split at q2
      · rename_i hk
        rw [hj, hk]
      · exact (old k q2).elim
    · split at q2
      · cases q2
        exact (old j q1).elim
      · exact r.inj j k a q1 q2
  · unfold setO at q
    split at q
    · rename_i hj
      subst hj
      exact ⟨.ownD ks xs, by rw [List.getElem?_set_self hi], rfl⟩
    · rename_i hj
      rw [List.getElem?_set_ne (fun x => hj x.symm)]
      exact r.oo j a q
theorem Rep.turnOwnD (r : Rep K z O As σd W σ H) {i : Nat} {a : Addr} {ks ks2 : List Key} {xs ys : List Dv} {us : List V} (hs : slot σd i = some (.ownD ks xs)) (ha : O i = some a) (hl : HasL K (bad (zo z (owOf O)) As) H us ys) (hn : ks2.length = ys.length) :
    Rep K z O As (σd.set i (some (.ownD ks2 ys))) W σ (upd H a (.dK (ks2.zip us))) ∧ ExtS As (owOf O) H As (owOf O) (upd H a (.dK (ks2.zip us))) := by
  have za : zo z (owOf O) a := .inr ⟨i, ha⟩
  obtain ⟨w', mv⟩ := grow_at (o := .dK (ks2.zip us)) r.wld za
  have up : ∀ b, H b ≠ none → upd H a (.dK (ks2.zip us)) b ≠ none := fun b q => by
    unfold upd
    split
    · exact fun x => by cases x
    · exact q
  refine ⟨⟨w', by rw [List.length_set]; exact r.len, fun j d e => ?_, r.out, r.inj, fun j b q => ?_⟩, ⟨fun b o h n m => ⟨by rw [upd_ne (fun (e : b = a) => m (by rw [e]; exact ⟨i, ha⟩))]; exact h, n, m⟩, fun _ _ h => h, up⟩⟩
  · by_cases q : i = j
    · subst q
      have li : i < σd.length := (List.getElem?_eq_some_iff.mp (slot_at hs)).1
      rw [List.getElem?_set_self li] at e
      cases e
      obtain ⟨v, h1, b, vs, ho, hv, _⟩ := r.sl i _ (slot_at hs)
      rw [ha] at ho
      cases ho
      exact ⟨v, h1, a, us, ha, hv, upd_same, hl.mv mv, hn⟩
    · rw [List.getElem?_set_ne q] at e
      obtain ⟨v, h1, h2⟩ := r.sl j d e
      refine ⟨v, h1, ?_⟩
      have st : ∀ b, O j = some b → upd H a (.dK (ks2.zip us)) b = H b := fun b hb => upd_ne fun e => q (r.inj i j a ha (e ▸ hb))
      cases d with
      | v x =>
        obtain ⟨g1, g2⟩ := h2
        refine ⟨g1, ?_⟩
        cases g2 with
        | d g2 => exact .d (g2.mv mv)
        | box g2 => exact .box g2
      | own zs =>
        obtain ⟨b, vs, g1, g2, g3, g4⟩ := h2
        exact ⟨b, vs, g1, g2, by rw [st b g1]; exact g3, g4.mv mv⟩
      | ownD ks ds =>
        obtain ⟨b, vs, g1, g2, g3, g4, g5⟩ := h2
        exact ⟨b, vs, g1, g2, by rw [st b g1]; exact g3, g4.mv mv, g5⟩
  · by_cases q2 : i = j
    · subst q2
      have li : i < σd.length := (List.getElem?_eq_some_iff.mp (slot_at hs)).1
      exact ⟨.ownD ks2 ys, List.getElem?_set_self li, rfl⟩
    · rw [List.getElem?_set_ne q2]
      exact r.oo j b q
end
abbrev wOwnG (w : WG) (i : Nat) : WSt := fun Dd σd W => i < σd.length ∧ w σd W fun ks xs W' => Dd.nx (σd.set i (some (.ownD ks xs))) W'
theorem tso_ownG {K : PySem.W.Frag} {i : Nat} {te : TE} {w : WG} (h : TNok K te w) : TSok K (tAsg te (gName i)) (wOwnG w i) := by
  intro z O As σd W σ H Dd D r g q
  refine h _ _ r g.2 fun p H' vs ks xs As' W' hp e wl hl hx hn p2 => ?_
  exact q.nx _ W' (setO O i p) As' _ H' (ext_setO hp e) (r.setOwnD i hp e wl hl hx hn g.1) p2
theorem s_ownG {X : Cx} {pos pos' : Pos} {e : Expr} {x : Str} {te : TE} {w : WG} {i : Nat} (hN : X.N.Nodup) (hi : X.N[i]? = some x) (hx : Loc X.env.scope x) (he : PG X e te w) (hs : swapsWith e (some (.Name x pos')) pos.line X.env = pure false := by rfl) (hf : X.fn x = true ∨ X.env.scope.names.lookup x = some .local := by first | exact .inl rfl | exact .inr rfl | assumption) :
    PDS X (.Assign [.Name x pos'] e pos) (tAsg te (gName i)) (wOwnG w i) := ⟨ps_set hN hi hx he.pe hs hf, tso_ownG he.ok⟩
/-- an own dict is data from here on -/
abbrev wFreezeD (i : Nat) (w : WSt) : WSt := fun Dd σd W => match slot σd i with
  | some (.ownD ks xs) => w Dd (σd.set i (some (.v (.d (.dic ks xs))))) W
  | _ => False
theorem tso_freezeD {i : Nat} {t : TS} {w : WSt} (h : TSok K t w) : TSok K t (wFreezeD i w) := by
  intro z O As σd W σ H Dd D r g q
  unfold wFreezeD at g
  split at g
  · rename_i ks xs es
    obtain ⟨v, h1, a, vs, ho, rfl, h2, h3, h4⟩ := r.sl i _ (slot_at es)
    have nb : ¬ bad (zo z (owOf (noO O i))) As a := fun b => by
      rcases b with b | b | ⟨j, b⟩
      · exact r.wld.zok.out a (.inr ⟨i, ho⟩) b
      · exact r.out i a ho b
      · unfold noO at b
        split at b
        · cases b
        · rename_i hj
          exact hj (r.inj j i a b ho)
    have hv : HasV K (zo z (owOf (noO O i))) As H (.ref a) (.d (.dic ks xs)) := .d (.dic nb (.inl h2) (h3.mv (Mv.weak fun x q => q.imp id zo_sub)) h4)
    have li : i < σd.length := (List.getElem?_eq_some_iff.mp (slot_at es)).1
    refine h Dd D (O := noO O i) ⟨r.wld.weak fun a => zo_sub, by rw [List.length_set]; exact r.len, fun j d e => ?_, fun j b q => ?_, fun j k b q1 q2 => ?_, fun j b q => ?_⟩ g (q.ext ext_noO)
    · by_cases q : i = j
      · subst q
        rw [List.getElem?_set_self li] at e
        cases e
        exact ⟨_, h1, by unfold noO; rw [if_pos rfl], hv⟩
      · rw [List.getElem?_set_ne q] at e
        obtain ⟨v', g1, g2⟩ := r.sl j d e
        refine ⟨v', g1, ?_⟩
        have : noO O i j = O j := by unfold noO; rw [if_neg (fun x => q x.symm)]
        rw [this]
        exact g2.weak fun a => zo_sub
    · unfold noO at q
      split at q
      · cases q
      · exact r.out j b q
    · unfold noO at q1 q2
      split at q1
      · cases q1
      · split at q2
        · cases q2
        · exact r.inj j k b q1 q2
    · unfold noO at q
      split at q
      · cases q
      · rename_i hj
        rw [List.getElem?_set_ne (fun x => hj x.symm)]
        exact r.oo j b q
  · exact g.elim

theorem s_freezeD {X : Cx} {st : Stmt} {t : TS} {w : WSt} (i : Nat) (h : PDS X st t w) : PDS X st t (wFreezeD i w) := ⟨h.ps, tso_freezeD h.ok⟩
theorem frzD {i : Nat} {w : WSt} {Dd : DEnds} {σ : DS} {W : WS} {ks : List Key} {xs : List Dv} (h : slot σ i = some (.ownD ks xs)) (q : w Dd (σ.set i (some (.v (.d (.dic ks xs))))) W) : wFreezeD i w Dd σ W := by
  unfold wFreezeD
  rw [h]
  exact q
end DL
namespace DLX
open PySem PySem.Spec PyProof.Rows L2
/-! ### d.update(e) -/
def tDUpd (td te : TE) : TE := fun σ H Q => td σ H fun x H1 => ∃ a, x = .ref a ∧ IsD H1 a ∧ te σ H1 fun y H2 => ∃ b kvs more, y = .ref b ∧ b ≠ a ∧ H2 a = some (.dK kvs) ∧ Rd H2 b (.dK more) ∧ kvs.length + more.length ≤ sizeLine ∧ Q .non (upd H2 a (.dK (mergeK kvs more)))
theorem pe_dupd {X : Cx} {o e : Expr} {apos cpos : Pos} {td te : TE} (ho : PE X o td) (he : PE X e te) (m : M1 X o "update" apos e cpos) : PE X (.Call (.Attribute o "update" apos) [e] [] cpos) (tDUpd td te) := by
  refine ⟨fun pins s σ H Q I h => ?_⟩
  refine wpAny_Call_method m.base m.few m.line PySem.F.plainAttrs_dict PySem.F.slot_dict_update PySem.F.type_dict_update (thn (ho.run pins s σ H _ I h) fun u s1 ⟨x, H1, I1, rx, a, ex, d, q1⟩ => ?_)
  subst ex
  obtain rfl : u = Value.ref a := rx
  obtain ⟨t1, t2, _⟩ := isD_at I1 d
  refine ⟨t1, t2, ?_⟩
  rw [m.trees]
  refine Calls.callWith_builtin rfl (Calls.evalArgs_plain (Calls.spliced_cons (thn (he.run pins s1 σ H1 _ I1 q1) fun iv s2 ⟨y, H2, I2, ry, b, kvs, more, ey, hne, h1, h2, hz, q2⟩ => Calls.spliced_nil ?_)))
  subst ey
  obtain rfl : iv = Value.ref b := ry
  obtain ⟨z1, d1, vs, r1, dd1⟩ := dk_of I2.hok h1
  obtain ⟨z2, d2, ws, r2, dd2⟩ := dk_rd I2.hok h2
  have hz' : (mergeK kvs more).length ≤ sizeLine := by
    have := length_mergeK more kvs
    omega
  refine call_meetsIn PySem.F.slot_dict_update dd1.typeIs PySem.F.entry_dict_update (PySem.F.args_dict_update_2 _ _) (meets_dict_update (mixKind X.prog X.w) a b (Ne.symm hne) d2)
    ⟨vs, ws, dd1, dd2, (by rw [← r1.length, ← r2.length]; exact hz), fun h' dd' _ hs => ?_⟩
  have he : ∃ q, h'.get? a = some q := let ⟨q, _, _, hq, _⟩ := dd'; ⟨q, hq⟩
  exact ⟨.non, upd H2 a (.dK (mergeK kvs more)), d_write I2 (by rw [h1]; exact True.intro) hs he (dk_new hz' d1 (r2.merge r1) dd'), rfl, q2⟩
end DLX
namespace DL
open PySem L2
abbrev wUpdG (i : Nat) (we : WE) : WSt := fun Dd σd W => match slot σd i with
  | some (.ownD ks xs) => we σd W fun y W1 => (match y with
    | .d (.dic ks2 ds2) => (xs.length ≤ 1000 ∧ ds2.length ≤ 1000) ∧ Dd.nx (σd.set i (some (.ownD (mrgKs ks ks2) (mrgDs ks xs ks2 ds2)))) W1
    | _ => False)
  | _ => False
theorem tso_updG {K : PySem.W.Frag} {i : Nat} {te : TE} {we : WE} (h : TEok K te we) : TSok K (tDrop (DLX.tDUpd (tVar i) te)) (wUpdG i we) := by
  intro z O As σd W σ H Dd D r g q
  unfold wUpdG at g
  split at g
  · rename_i ks xs es
    obtain ⟨v, h1, a, vs, ho, rfl, h2, h3, h4⟩ := r.sl i _ (slot_at es)
    refine ⟨_, h1, a, rfl, .inl ⟨_, .inl h2⟩, h _ _ r g fun y H1 yd As1 W1 e wl hy p => ?_⟩
    split at p
    · rename_i ks2 ds2
      have r1 := r.ext e wl
      obtain ⟨v', h1', a', vs', ho', hv', h2', h3', h4'⟩ := r1.sl i _ (slot_at es)
      rw [ho] at ho'
      cases ho'
      cases hy with
      | d hy =>
        cases hy with
        | dic nb rd hl hn =>
          rename_i b us
          obtain ⟨⟨l1, l2⟩, p⟩ := p
          have e1 : ks.length = vs'.length := by rw [h4', h3'.length]
          have e2 : ks2.length = us.length := by rw [hn, hl.length]
          have ab : b ≠ a := fun q => nb (by rw [q]; exact .inr (.inr ⟨i, ho⟩))
          obtain ⟨r2, ex2⟩ := r1.turnOwnD (ks2 := mrgKs ks ks2) (ys := mrgDs ks xs ks2 ds2) (us := mrgDs ks vs' ks2 us) es ho (HasL.mrg h3' hl) (mrg_len h4' hn)
          refine ⟨b, ks.zip vs', ks2.zip us, rfl, ab, h2', rd, ?_, ?_⟩
          · rw [List.length_zip, List.length_zip]
            have := h3'.length
            have := hl.length
            have : (2000 : Nat) ≤ sizeLine := by decide
            omega
          · rw [mrg_zip e1 e2]
            exact q.nx _ W1 O As1 σ _ (e.own.trans ex2) r2 p
    · exact p.elim
  · exact g.elim
theorem s_updG (i : Nat) {X : Cx} {o e : Expr} {te : TE} {we : WE} {apos cpos pos : Pos} (ho : PE X o (tVar i)) (h : PD X e te we) (m : M1 X o "update" apos e cpos) (hs : swapsWith (.Call (.Attribute o "update" apos) [e] [] cpos) none pos.line X.env = pure false := by rfl) :
    PDS X (.Expr (.Call (.Attribute o "update" apos) [e] [] cpos) pos) (tDrop (DLX.tDUpd (tVar i) te)) (wUpdG i we) := ⟨ps_expr (DLX.pe_dupd ho h.pe m) hs, tso_updG h.ok⟩
/-! ### d[k], d.get(k, x) -/
def keyD : Dv → Option Key
  | .int i => some (.inl i)
  | .str x => some (.inr x)
  | _ => none
theorem keyD_of {K : PySem.W.Frag} {z : Av} {As : List (List Addr)} {H : Hp} {v : V} {d : Dv} {k : Key} (h : HasB K z As H v d) (e : keyD d = some k) : v = kV k := by
  unfold keyD at e
  split at e
  · cases e
    exact h.int
  · cases e
    exact h.str
  · cases e
def rdGet : RD2 := fun x y W Φ => match x with
  | .dic ks ds => (match keyD y with
    | some k => (match getA ks ds k with
      | some d => Φ (.d d) W
      | none => False)
    | none => False)
  | _ => False
theorem teo_dget {K : PySem.W.Frag} {td ty : TE} {wd wy : WB} (hd : TBok K td wd) (hy : TBok K ty wy) : TEok K (tDGet td ty) (wOp rdGet wd wy) := by
  intro z O As σd W σ H Φ Q r g q
  refine hd _ _ r g fun v H1 x As1 W1 e1 wl1 hx p1 => ?_
  refine hy _ _ (r.ext e1 wl1) p1 fun u H2 y As2 W2 e2 wl2 hu p2 => ?_
  have hx2 := hx.ext wl1.zok e2
  unfold rdGet at p2
  split at p2
  · rename_i ks ds
    split at p2
    · rename_i k ek
      split at p2
      · rename_i d ed
        obtain ⟨a, vs, rfl, rd, hl, hn⟩ := hx2.dic
        obtain ⟨w, ew, hw⟩ := hl.getK ed
        exact ⟨a, w, rfl, .inl ⟨_, k, rd, keyD_of hu ek, by rw [get_zip, ew]⟩, q w H2 _ As2 W2 (e1.trans e2) wl2 (.d hw) p2⟩
      · exact p2.elim
    · exact p2.elim
  · exact p2.elim
theorem d_dget {X : Cx} {o i : Expr} {td ty : TE} {wd wy : WB} {pos : Pos} (hu : X.A.units + 1 < cLine) (ho : PB X o td wd) (hi : PB X i ty wy) (hs : NoSl i) : PD X (.Subscript o i pos) (tDGet td ty) (wOp rdGet wd wy) := ⟨pe_dget hu ho.pe hi.pe hs, teo_dget ho.ok hi.ok⟩
abbrev wGet2 (wd wy : WB) (wx : WE) : WE := fun σd W Φ => wd σd W fun x W1 => match x with
  | .dic ks ds => wy σd W1 fun y W2 => wx σd W2 fun z W3 => (match keyD y with
    | some k => (match getA ks ds k with
      | some d => Φ (.d d) W3
      | none => Φ z W3)
    | none => False)
  | _ => False
theorem teo_get2 {K : PySem.W.Frag} {td ty tx : TE} {wd wy : WB} {wx : WE} (hd : TBok K td wd) (hy : TBok K ty wy) (hx : TEok K tx wx) : TEok K (tDGet2 td ty tx) (wGet2 wd wy wx) := by
  intro z O As σd W σ H Φ Q r g q
  refine hd _ _ r g fun v H1 x As1 W1 e1 wl1 hx1 p1 => ?_
  split at p1
  · rename_i ks ds
    obtain ⟨a, vs, rfl, rd, hl, hn⟩ := hx1.dic
    refine ⟨a, rfl, .inl ⟨_, rd⟩, ?_⟩
    refine hy _ _ (r.ext e1 wl1) p1 fun u H2 y As2 W2 e2 wl2 hu p2 => ?_
    refine hx _ _ ((r.ext e1 wl1).ext e2 wl2) p2 fun u3 H3 d3 As3 W3 e3 wl3 hu3 p3 => ?_
    have hx2 := (hx1.ext wl1.zok e2).ext wl2.zok e3
    obtain ⟨a2, vs2, ea, rd2, hl2, hn2⟩ := hx2.dic
    cases ea
    split at p3
    · rename_i k ek
      have hk : u = kV k := keyD_of hu ek
      split at p3
      · rename_i d ed
        obtain ⟨w, ew, hw⟩ := hl2.getK ed
        exact ⟨some w, .inl ⟨_, k, rd2, hk, by rw [get_zip, ew]⟩, q w H3 _ As3 W3 ((e1.trans e2).trans e3) wl3 (.d hw) p3⟩
      · rename_i ed
        exact ⟨none, .inl ⟨_, k, rd2, hk, by rw [get_zip, hl2.getN ed]⟩, q u3 H3 _ As3 W3 ((e1.trans e2).trans e3) wl3 hu3 p3⟩
    · exact p3.elim
  · exact p1.elim
theorem d_get2 {X : Cx} {o e f : Expr} {td ty tx : TE} {wd wy : WB} {wx : WE} {apos cpos : Pos} (hu : X.A.units + 1 < cLine) (ho : PB X o td wd) (he : PB X e ty wy) (hf : PD X f tx wx) (m : M2 X o "get" apos e f cpos) : PD X (.Call (.Attribute o "get" apos) [e, f] [] cpos) (tDGet2 td ty tx) (wGet2 wd wy wx) := ⟨pe_dget2 hu ho.pe he.pe hf.pe m, teo_get2 ho.ok he.ok hf.ok⟩
/-! ### dict(a list of pairs) -/
def pairsD : List Dv → Option (List Key × List Dv)
  | [] => some ([], [])
  | .tup [k, d] :: r => (match keyD k, pairsD r with
    | some k, some (ks, ds) => some (k :: ks, d :: ds)
    | _, _ => none)
  | _ :: _ => none
theorem pairsD_of {K : PySem.W.Frag} {N : Av} {H : Hp} : ∀ {xs : List Dv} {vs : List V} {ks : List Key} {ds : List Dv}, HasL K N H vs xs → pairsD xs = some (ks, ds) → ∃ ps us, vs = ps.map V.ref ∧ Paired (fun p kv => SqT K H p [kV kv.1, kv.2]) ps (ks.zip us) ∧ HasL K N H us ds ∧ ks.length = us.length
  | [], _, _, _, .nil, e => by
    unfold pairsD at e
    cases e
    exact ⟨[], [], rfl, .nil, .nil, rfl⟩
  | x :: r, _, _, _, .cons (v := v) (vs := vs) hx ht, e => by
    unfold pairsD at e
    split at e
    · rename_i he
      cases he
    · rename_i k d r' he
      cases he
      split at e
      · rename_i k' ks' ds' ek er
        cases e
        obtain ⟨ps, us, rfl, h1, h2, h3⟩ := pairsD_of ht er
        cases hx with
        | tup s l =>
          cases l with
          | cons a l =>
            cases l with
            | cons b l =>
              cases l
              rename_i p v0 v1
              have ea : v0 = kV k' := by
                unfold keyD at ek
                split at ek
                · cases ek; cases a; rfl
                · cases ek; cases a; rfl
                · cases ek
              exact ⟨p :: ps, v1 :: us, rfl, .cons (by rw [← ea]; exact s.t) h1, .cons b h2, congrArg (· + 1) h3⟩
      · cases e
    · cases e
abbrev wDictP (wa : WAB) : WG := fun σd W Φ => wa σd W fun xs W1 => match xs with
  | [.lst ps] => (match pairsD ps with
    | some (ks, ds) => Φ (mrgKs [] ks) (mrgDs [] [] ks ds) W1
    | none => False)
  | _ => False
abbrev rDictP (K : PySem.W.Frag) : List V → Hp → VK → Prop := fun xs H Q => ∃ (a : Addr) (ps : List Addr) (kvs : List (Key × V)), xs = [.ref a] ∧ SqL K H a (ps.map V.ref) ∧ Paired (fun p kv => SqT K H p [kV kv.1, kv.2]) ps kvs ∧
    ∀ p, H p = none → Q (.ref p) (upd H p (.dK (mergeK [] kvs)))
theorem tno_dictP {K : PySem.W.Frag} {t : TA} {wa : WAB} (h : TABok K t wa) : TNok K (tCB (rDictP K) t) (wDictP wa) := by
  intro z O As σd W σ H Φ Q r g q
  refine h _ _ r g fun vs H1 xs As1 W1 e wl hv p => ?_
  split at p
  · rename_i ps0
    split at p
    · rename_i ks ds ep
      cases hv with
      | cons h1 hv =>
        cases hv
        obtain ⟨a, us, rfl, s, l⟩ := h1.lst
        obtain ⟨ps, ws, rfl, h2, h3, h4⟩ := pairsD_of l ep
        refine ⟨a, ps, ks.zip ws, rfl, s, h2, fun t ht => ?_⟩
        have h0 : H t = none := by
          cases k : H t with
          | none => rfl
          | some o => exact absurd ht (e.up t (by rw [k]; exact fun x => by cases x))
        have l1 : ks.length = ds.length := h4.trans h3.length
        exact q t _ (mrgDs [] [] ks ws) _ _ As1 W1 h0 (e.trans (Ext.new ht)) (zk1 wl ht) (by rw [upd_same]; exact congrArg (fun x => some (HO.dK x)) (mrg_zip (ks := []) (vs := []) rfl h4)) (HasL.mrg .nil (h3.mv (mv1 ht))) (mrg_len rfl l1) p
    · exact p.elim
  · exact p.elim
theorem g_dictP {X : Cx} {x : Str} {e : Expr} {t : TA} {wa : WAB} {p pos : Pos} (hc : X.calm = true) (hg : Gl X x) (hm : X.mg x = none) (hv : bootBuiltins x = some (.type "dict")) (ha : PAB X [e] t wa) (hn : x ≠ "__name__" := by decide) (hdb : (x == ("__debug__" : Str)) = false := by decide)
    (he : starEach [e] X.env = (false, eval e X.env) :: starEach [] X.env := by rfl) (hpl : (backTo pos (starEach [] X.env)).any (·.1) = false := by rfl) : PG X (.Call (.Name x p) [e] [] pos) (tCB (rDictP X.K) t) (wDictP wa) := ⟨pe_callTy (call_dictP hc) hg hm hv ha.pa hn hdb he hpl, tno_dictP ha.ok⟩
end DL

/-! *e in displays and calls; dicts and tuples of the module -/
namespace DL
open PySem L2
abbrev wStar (we : WB) (wr : WA) : WA := fun σd W Φ => we σd W fun x W1 => match x with
  | .lst xs => wr σd W1 fun ys W2 => Φ (xs.map Sv.d ++ ys) W2
  | .tup xs => wr σd W1 fun ys W2 => Φ (xs.map Sv.d ++ ys) W2
  | _ => False
theorem tao_star {K : PySem.W.Frag} {te : TE} {we : WB} {t : TA} {wr : WA} (he : TBok K te we) (hr : TAok K t wr) : TAok K (StX.tStar K te t) (wStar we wr) := by
  intro z O As σd W σ H Φ Q r g q
  refine he _ _ r g fun v H1 x As1 W1 e1 wl1 hx p => ?_
  split at p
  · obtain ⟨a, vs, rfl, s, l⟩ := hx.lst
    refine ⟨a, vs, rfl, .inr s, hr _ _ (r.ext e1 wl1) p fun us H2 ys As2 W2 e2 wl2 hys p2 => ?_⟩
    exact q _ H2 _ As2 W2 (e1.trans e2) wl2 ((HasVL.ofL (l.mv e2.mv)).append hys) p2
  · obtain ⟨a, vs, rfl, s, l⟩ := hx.tup
    refine ⟨a, vs, rfl, .inl s, hr _ _ (r.ext e1 wl1) p fun us H2 ys As2 W2 e2 wl2 hys p2 => ?_⟩
    exact q _ H2 _ As2 W2 (e1.trans e2) wl2 ((HasVL.ofL (l.mv e2.mv)).append hys) p2
  · exact p.elim
theorem a_star {X : Cx} {e : Expr} {es : List Expr} {p : Pos} {te : TE} {we : WB} {t : TA} {wr : WA} (he : PB X e te we) (hr : PAD X es t wr) (hs : starEach (.Starred e p :: es) X.env = (true, eval e X.env) :: starEach es X.env := by rfl) : PAD X (.Starred e p :: es) (StX.tStar X.K te t) (wStar we wr) :=
  ⟨StX.pa_star he.pe hr.pa hs, tao_star he.ok hr.ok⟩
/-- d[k], d a dict of the module -/
abbrev rdKD (a : Addr) (tab : Str → Option Dv) : RD2 := fun x y W Φ => match x, y with
  | .raw v, .str n => v = .ref a ∧ (match tab n with
    | some d => Φ (.d d) W
    | none => False)
  | _, _ => False
def KTab (K : PySem.W.Frag) (w : World) (a : Addr) (tab : Str → Option Dv) : Prop := ∀ n d, tab n = some d → ∃ v, KDct K w a n v ∧ ∀ N H, Has K N H v d
theorem HasB.raw' {K : PySem.W.Frag} {z : Av} {As : List (List Addr)} {H : Hp} {v u : V} (h : HasB K z As H v (.raw u)) : v = u := by
  rcases h with h | ⟨_, _, _, _, h, _⟩ | ⟨_, _, _, _, _, h, _⟩
  · cases h; rfl
  · cases h
  · cases h
theorem od_KD {K : PySem.W.Frag} {w : World} {a : Addr} {tab : Str → Option Dv} (ht : KTab K w a tab) : OpD K (rIxD K w) (rdKD a tab) := by
  intro z As W H x y dx dy Φ Q wl hx hy h q
  unfold rdKD at h
  split at h
  · obtain ⟨rfl, h⟩ := h
    split at h
    · rename_i d ed
      obtain ⟨v, kd, hv⟩ := ht _ _ ed
      exact ⟨a, _, v, hx.raw', hy.str, kd, q v H _ As W ExtS.refl wl (.d (hv _ _)) h⟩
    · exact h.elim
  · exact h.elim
theorem d_ixKD {X : Cx} {o i : Expr} {ta tb : TE} {wa wb : WB} {pos : Pos} {a : Addr} {tab : Str → Option Dv} (ht : KTab X.K X.w a tab) (ha : PB X o ta wa) (hb : PB X i tb wb) (hs : PlainIx i) : PD X (.Subscript o i pos) (tOp (rIxD X.K X.w) ta tb) (wOp (rdKD a tab) wa wb) := d_ix ix_kdict (od_KD ht) ha hb hs
/-- a tuple of texts, of the module -/
theorem has_strs {K : PySem.W.Frag} {N : Av} {H : Hp} : ∀ xs : List Str, HasL K N H (xs.map V.str) (xs.map Dv.str)
  | [] => .nil
  | x :: r => .cons (.str x) (has_strs r)
theorem has_tupK {K : PySem.W.Frag} {a : Addr} {o : Obj} {its : Array Value} {n : Nat} {xs : List Str} (h1 : K.lookup a = some o) (h2 : o.cls = .type "tuple") (h3 : o.data = .seq its n) (h4 : its.size ≤ sizeLine) (h5 : Vals (xs.map V.str) its.toList) :
    ∀ N H, Has K N H (.ref a) (.tup (xs.map Dv.str)) := fun N H => .tup (.inr fun H' => .inr ⟨o, its, n, h1, h2, h3, h4, h5⟩) (has_strs xs)
end DL

/-! C(**d) -/
namespace KwX
open PySem PySem.Spec PyProof.Rows L2
section
variable {prog : Program} {w : World} {A : Around} {E : Value → Shared → Prop} {s : Shared}
/-- a key that is not there is put at the end -/
theorem wp_put {d : Addr} {kvs : List (Key × Value)} {k : Key} {key v : Value} {Q : Unit → Shared → Prop} (hkey : (mixKind prog w).is k key = true) (hm : s.heap.DictOf (mixKind prog w) d kvs) (hk : k ∉ kvs.map (·.1))
    (hQ : ∀ h', h'.DictOf (mixKind prog w) d (kvs ++ [(k, v)]) → Heap.SameBut d s.heap h' → Q () { s with heap := h' }) (hsz : kvs.length ≤ sizeLine) :
    wpAny (model prog w) A (dictFind d key ((mixKind prog w).hash k) >>= fun r => if r.isSome = true then (rule "dict.merge.duplicate-key" >>= fun _ => newExc (.type "KeyError") [key] >>= fun x => (raiseNew x : Sem Unit) >>= fun _ => dictPut d ((mixKind prog w).hash k) key v) else dictPut d ((mixKind prog w).hash k) key v) Q E s := by
  obtain ⟨o, es, ep, ho, hc, hd, hks, hp, hn⟩ := hm
  have hes : es.size ≤ sizeLine := by
    have e1 := hp.length
    have e2 : es.toList.length = es.size := by simp
    omega
  have hidx : (es.findIdx? fun e => (mixKind prog w).is k e.key) = kvs.findIdx? fun kv => decide (kv.1 = k) := by
    rw [← hp.findIdx k]; obtain ⟨l⟩ := es; simp
  have hnone : (es.findIdx? fun e => (mixKind prog w).is k e.key) = none := by
    rw [hidx]
    cases e : kvs.findIdx? fun kv => decide (kv.1 = k) with
    | none => rfl
    | some i =>
      have q := any_of_findIdx_some e
      obtain ⟨p, hp, e⟩ := List.any_eq_true.mp q
      exact absurd (List.mem_map.mpr ⟨p, hp, of_decide_eq_true e⟩) hk
  refine wpAny_bind (wpAny_dictFind_of hkey ho hd hks ?_)
  rw [hnone]
  simp only [Option.isSome_none, Bool.false_eq_true, if_false]
  unfold dictPut
  refine wpAny_bind (wpAny_dictFind_of hkey ho hd hks ?_)
  rw [hnone]
  refine wpAny_updateDictKeys (hz := hes) ho hd (hQ _ ⟨_, _, ep + 1, Heap.get?_update_self _ ho (Obj.isFreed_of_dict (Obj.data_mapDictKeys hd _)),
      hc.mapDictKeys _, Obj.data_mapDictKeys hd _, hks.push hkey _, ?_, ?_⟩ (Heap.SameBut.update ..))
  · have := hp.append hkey ((mixKind prog w).hash k) v
    obtain ⟨l⟩ := es
    simpa using this
  · rw [List.map_append, List.nodup_append]
    refine ⟨hn, by simp, ?_⟩
    intro a ha b hb
    simp only [List.map_cons, List.map_nil, List.mem_singleton] at hb
    subst hb
    exact fun e => hk (e ▸ ha)
theorem wp_merge {d a : Addr} {more : List (Key × Value)} {Q : Unit → Shared → Prop} (hda : d ≠ a) (hS : (a == sysModules) = false) (hd : s.heap.DictOf (mixKind prog w) d []) (ha : s.heap.DictOf (mixKind prog w) a more) (hsz : more.length ≤ sizeLine)
    (hQ : ∀ h', h'.DictOf (mixKind prog w) d more → h'.DictOf (mixKind prog w) a more → Heap.SameBut d s.heap h' → Q () { s with heap := h' }) : wpAny (model prog w) A (mergeMapping d (.ref a) true) Q E s := by
  obtain ⟨od, esd, epd, hod, hcd, hdd, hkd, hpd, hnd⟩ := id hd
  obtain ⟨oo, eso, epo, hoo, hco, hdo', hko, hpo, hno⟩ := id ha
  unfold mergeMapping
  refine wpAny_bind (wpAny_isInstance ha.typeIs isSubtype_dict_dict ?_)
  simp only [if_true]
  refine wpAny_bind (wpAny_specialOf ha.typeIs F.slot_dict_iter.lookup ?_)
  refine wpAny_bind (wpAny_pure ?_)
  simp only [beq_self_eq_true]
  rw [if_neg (by rw [hS]; exact Bool.false_ne_true)]
  refine wpAny_bind (wpAny_dictEntries hod hdd ?_)
  have hlen : more.length = eso.size := by rw [← hpo.length]; simp
  have main : wpAny (model prog w) A (do
      let __do_lift ← dictEntries a
      let epoch ← dictEpoch a
      forIn (List.range __do_lift.size) PUnit.unit fun i (_ : PUnit) => (do
        let l' ← dictEntries a
        match l'[i]? with
          | some e => do
            holding [e.key, e.val] (dictFind d e.key e.hash >>= fun r => if r.isSome = true then (rule "dict.merge.duplicate-key" >>= fun _ => newExc (.type "KeyError") [e.key] >>= fun x => (raiseNew x : Sem Unit) >>= fun _ => dictPut d e.hash e.key e.val) else dictPut d e.hash e.key e.val)
            let ep' ← dictEpoch a
            if (ep' != epoch) = true then do
                (unsupported "dict.changed-during-merge" : Sem PUnit)
                pure (ForInStep.yield PUnit.unit)
              else pure (ForInStep.yield PUnit.unit)
          | _ => do
            (unsupported "dict.changed-during-merge" : Sem PUnit)
            pure (ForInStep.yield PUnit.unit) : Sem (ForInStep PUnit))
      pure ()) Q E s := by
    refine wpAny_bind (wpAny_dictEntries hoo hdo' ?_)
    refine wpAny_bind (wpAny_dictEpoch hoo hdo' ?_)
    refine wpAny_bind ?_
    rw [List.range_eq_range']
    refine wpAny_forIn_list _
      (fun rest _ s' => ∃ h' i, s' = { s with heap := h' } ∧ rest = List.range' i (eso.size - i) ∧ i ≤ eso.size ∧ h'.DictOf (mixKind prog w) d (more.take i) ∧ h'.get? a = some oo ∧ Heap.SameBut d s.heap h')
      _ ?_ ?_ _ _ ⟨s.heap, 0, rfl, by simp, Nat.zero_le _, by simpa using hd, hoo, Heap.SameBut.refl _ _⟩
    · rintro x rest b s' ⟨h', i, rfl, hr, hi, hd', hoo', hs'⟩
      have hlt : i < eso.size := by
        rcases Nat.lt_or_ge i eso.size with h | h
        · exact h
        · rw [Nat.sub_eq_zero_of_le h] at hr; simp at hr
      obtain ⟨rfl, hrest⟩ : x = i ∧ rest = List.range' (i + 1) (eso.size - (i + 1)) := by
        have e : eso.size - i = (eso.size - (i + 1)) + 1 := by omega
        rw [e, List.range'_succ] at hr
        injection hr with h1 h2
        exact ⟨h1, h2⟩
      refine wpAny_bind (wpAny_dictEntries hoo' hdo' ?_)
      rw [Array.getElem?_eq_getElem hlt]
      obtain ⟨kv, hkv⟩ : ∃ kv, more[x]? = some kv := ⟨more[x]'(by rw [hlen]; exact hlt), List.getElem?_eq_getElem _⟩
      obtain ⟨k, v⟩ := kv
      obtain ⟨hkey, hval⟩ := hpo.get? (e := eso[x]) (by simp [hlt]) hkv
      obtain ⟨k', hkey', hhash⟩ := hko eso[x] (Array.getElem_mem hlt)
      obtain rfl : k' = k := (mixKind prog w).inj _ _ _ hkey' hkey
      dsimp only
      rw [hhash, hval]
      have hnot : k' ∉ (more.take x).map (·.1) := fun m => by
        have e := List.take_append_drop x (more.map (·.1))
        have hx : (more.map (·.1))[x]? = some k' := by rw [List.getElem?_map, hkv]; rfl
        rw [List.map_take] at m
        have hn2 := hno
        rw [← e, List.nodup_append] at hn2
        have hlt2 : x < (more.map (·.1)).length := by rw [List.length_map, hlen]; exact hlt
        have md : k' ∈ (more.map (·.1)).drop x := by
          rw [List.mem_iff_getElem?]
          exact ⟨0, by rw [List.getElem?_drop]; exact hx⟩
        exact hn2.2.2 k' m k' md rfl
      have hmx : (more.take x).length ≤ sizeLine := by
        rw [List.length_take]
        omega
      refine wpAny_bind (wpAny_holding (wp_put (hsz := hmx) hkey hd' hnot fun h'' hd'' hs'' => ?_))
      have hoo'' : h''.get? a = some oo := (hs''.2 a (Ne.symm hda)).trans hoo'
      refine wpAny_bind (wpAny_dictEpoch hoo'' hdo' ?_)
      rw [if_neg (by simp)]
      refine wpAny_pure ⟨h'', x + 1, rfl, hrest, hlt, ?_, hoo'', hs'.trans hs''⟩
      rw [List.take_add_one, hkv]
      exact hd''
    · rintro b s' ⟨h', i, rfl, hr, hi, hd', hoo', hs'⟩
      have hin : i = eso.size := by
        rcases Nat.lt_or_ge i eso.size with h | h
        · have e : eso.size - i = (eso.size - (i + 1)) + 1 := by omega
          rw [e, List.range'_succ] at hr; exact nomatch hr
        · exact Nat.le_antisymm hi h
      refine wpAny_pure (hQ h' ?_ ⟨oo, eso, epo, hoo', hco, hdo', hko, hpo, hno⟩ hs')
      rw [hin, ← hlen, List.take_length] at hd'; exact hd'
  split
  · refine wpAny_bind (wpAny_dictEntries hoo hdo' ?_)
    refine wpAny_bind (wpAny_of_eq (a := PUnit.unit) ?_ main)
    rw [← Array.forIn_toList]
    refine forIn_yield_id _ fun e he c => ?_
    obtain ⟨k, hkey, _⟩ := hko e (Array.mem_toList_iff.mp he)
    rcases keyIs_shape hkey with ⟨i, t, rfl, e2⟩ | ⟨x, t, rfl, e2⟩ <;> rw [e2]
  · exact main
theorem wp_merged {f : Value} {x : Sem Value} {Q : Addr → Shared → Prop}
    (h : wpAny (model prog w) A x (fun v s1 => ∃ a more, v = .ref a ∧ s.heap.objs.size ≠ a ∧ (a == sysModules) = false ∧ s1.heap.DictOf (mixKind prog w) s.heap.objs.size [] ∧ s1.heap.DictOf (mixKind prog w) a more ∧ more.length ≤ sizeLine ∧
      ∀ h', h'.DictOf (mixKind prog w) s.heap.objs.size more → h'.DictOf (mixKind prog w) a more → Heap.SameBut s.heap.objs.size s1.heap h' → Q s.heap.objs.size { s1 with heap := h' }) E { s with heap := s.heap.push { cls := .type "dict", data := .dict #[] } }) :
    wpAny (model prog w) A (mergedKeywords f [(none, x)]) Q E s := by
  unfold mergedKeywords
  refine wpAny_bind (wpAny_alloc ?_)
  refine wpAny_bind (wpAny_holding ?_)
  dsimp only
  refine wpAny_bind ?_
  rw [List.forIn_cons]
  refine wpAny_bind ?_
  refine wpAny_bind (wpAny_pure ?_)
  refine wpAny_bind (wpAny_mono h (fun v s1 h1 => ?_) fun _ _ x => x)
  obtain ⟨a, more, ev, hda, hS, hd, ha, hz, hq⟩ := h1
  subst ev
  refine wpAny_bind (wpAny_onRaise (wpAny_holding (wpAny_tryCatch (wpAny_onRaise ?_))))
  refine wp_merge hda hS hd ha hz fun h' h1 h2 h3 => ?_
  refine wpAny_pure ?_
  dsimp only
  rw [List.forIn_nil]
  refine wpAny_pure ?_
  exact wpAny_pure (wpAny_pure (hq h' h1 h2 h3))
theorem wp_keywordsIn {f : Value} {d : Addr} {ks : List Str} {vs : List Value} {Q : List (Str × Value) → Shared → Prop} (hd : s.heap.DictOf (mixKind prog w) d ((ks.map Sum.inr).zip vs)) (hl : ks.length = vs.length) (h : Q (ks.zip vs) s) : wpAny (model prog w) A (keywordsIn f d) Q E s := by
  obtain ⟨o, es, ep, ho, hc, hdat, hk, hp, hn⟩ := hd
  unfold keywordsIn
  refine wpAny_bind (wpAny_dictEntries ho hdat ?_)
  refine wpAny_bind ?_
  rw [← Array.forIn_toList]
  have hlen : es.toList.length = ks.length := by
    have := hp.length
    rw [List.length_zip, List.length_map, ← hl, Nat.min_self] at this
    exact this
  refine wpAny_forIn_list _ (fun rest kw s' => s' = s ∧ ∃ i, rest = es.toList.drop i ∧ kw = (ks.zip vs).take i) _ ?_ ?_ _ _ ⟨rfl, 0, rfl, rfl⟩
  · rintro e rest kw s' ⟨rfl, i, hr, rfl⟩
    have hi : i < es.toList.length := by
      apply Classical.byContradiction
      intro z
      rw [List.drop_eq_nil_of_le (by omega)] at hr
      cases hr
    have he : es.toList[i]? = some e := by
      have := List.getElem?_drop (xs := es.toList) (i := i) (j := 0)
      rw [← hr] at this
      exact this.symm
    have hk1 : i < ks.length := by omega
    have hv1 : i < vs.length := by omega
    have hkv : ((ks.map Sum.inr).zip vs : List (Key × Value))[i]? = some (Sum.inr ks[i], vs[i]) := by
      rw [List.getElem?_zip_eq_some]
      exact ⟨by rw [List.getElem?_map, List.getElem?_eq_getElem hk1]; rfl, List.getElem?_eq_getElem hv1⟩
    obtain ⟨hkey, hval⟩ := hp.get? he hkv
    have hzip : (ks.zip vs)[i]? = some (ks[i], vs[i]) := by
      rw [List.getElem?_zip_eq_some]
      exact ⟨List.getElem?_eq_getElem hk1, List.getElem?_eq_getElem hv1⟩
    have hkey : keyIs (Sum.inr ks[i]) e.key = true := hkey
    rcases keyIs_shape hkey with ⟨j, t, e1, e2⟩ | ⟨x, t, e1, e2⟩
    · cases e1
    · cases e1
      rw [e2]
      refine wpAny_pure ⟨rfl, i + 1, ?_, ?_⟩
      · rw [← List.drop_drop, ← hr]
        rfl
      · rw [List.take_add_one, hzip, hval]
        rfl
  · rintro kw s' ⟨rfl, i, hr, rfl⟩
    have hi : es.toList.length ≤ i := by
      apply Classical.byContradiction
      intro z
      have := congrArg List.length hr
      rw [List.length_drop] at this
      simp only [List.length_nil] at this
      omega
    refine wpAny_pure ?_
    rw [List.take_of_length_le (by rw [List.length_zip]; omega)]
    exact h
theorem wp_evalKw {f : Value} {x : Sem Value} {Q : Args → Shared → Prop} {ks : List Str}
    (h : wpAny (model prog w) A (mergedKeywords f [(none, x)]) (fun d s1 => ∃ vs, s1.heap.DictOf (mixKind prog w) d ((ks.map Sum.inr).zip vs) ∧ ks.length = vs.length ∧ Q ⟨[], ks.zip vs⟩ s1) E s) :
    wpAny (model prog w) A (evalArgs f true [] [(none, x)]) Q E s := by
  unfold evalArgs
  show wpAny _ _ (spliced [] >>= _) Q E s
  refine wpAny_bind (Calls.spliced_nil ?_)
  refine wpAny_bind (wpAny_pure ?_)
  refine wpAny_holding ?_
  dsimp only
  rw [if_neg (by simp)]
  refine wpAny_bind (wpAny_mono h (fun d s1 h1 => ?_) fun _ _ x => x)
  obtain ⟨vs, hd, hl, hq⟩ := h1
  refine wpAny_bind (wpAny_pure ?_)
  refine wpAny_bind (wpAny_holding (wp_keywordsIn hd hl ?_))
  exact wpAny_pure hq
theorem callWith_kw {f : Value} {pos : Pos} {x : Sem Value} {Q : Value → Shared → Prop} {ks : List Str} {P : Heap → Prop}
    (hk : ∀ h, P h → ∃ k, (k = Keeper.frame ∨ k = Keeper.machine ∨ k = Keeper.boundFrame) ∧ PySem.W.Looks (model prog w) h (keeperOf f) k)
    (h : wpAny (model prog w) A (mergedKeywords f [(none, x)]) (fun d s1 => ∃ vs, s1.heap.DictOf (mixKind prog w) d ((ks.map Sum.inr).zip vs) ∧ ks.length = vs.length ∧ P s1.heap ∧ wpAny (model prog w) A (call f [] (ks.zip vs)) Q E s1) E s) :
    wpAny (model prog w) A (callWith pos f [] [] [(none, x)]) Q E s := by
  unfold callWith
  refine wpAny_bind (wpAny_holding (wp_evalKw (ks := ks) (wpAny_mono h (fun d s1 h1 => ?_) fun _ _ x => x)))
  obtain ⟨vs, h1, h2, h3, h4⟩ := h1
  refine ⟨vs, h1, h2, wpAny_bind (wpAny_standAt ?_)⟩
  obtain ⟨k, hk', L⟩ := hk _ h3
  simp only [List.any_nil, List.any_cons, Option.isNone_none, Bool.true_or, Bool.false_or, Bool.or_true]
  refine wpAny_bind (L.here ?_)
  have tail : ∀ {t : Sem Value}, wpAny (model prog w) A t Q E s1 → wpAny (model prog w) A (t >>= fun r => holding [r] point >>= fun _ => pure r) Q E s1 :=
    fun ht => wpAny_bind (wpAny_mono ht (fun r s₂ hr => wpAny_bind (wpAny_holding (wpAny_point (wpAny_pure hr)))) fun _ _ x => x)
  have marked (mk : Value) : wpAny (model prog w) A (callMarked mk f ([] ++ []) (ks.zip vs)) Q E s1 := by unfold callMarked; exact Calls.wpAny_keep h4
  rcases hk' with rfl | rfl | rfl <;> dsimp only <;> first | exact tail (marked _) | exact tail (wpAny_operating h4)
end
end KwX

/-! C(**d); defs with **more, called by name -/
namespace KwX
open PySem PySem.Spec PyProof.Rows L2
theorem kv_split : ∀ {ks : List Key} {zs : List V} {vs : List (Key × Value)}, KV (ks.zip zs) vs → ks.length = zs.length → ∃ ws : List Value, vs = ks.zip ws ∧ Vals zs ws
  | [], [], _, h, _ => by
    cases h
    exact ⟨[], rfl, .nil⟩
  | k :: r, z :: s, _, h, l => by
    rw [List.zip_cons_cons] at h
    cases h with
    | @cons a b as bs h t =>
      obtain ⟨ws, rfl, q⟩ := kv_split t (Nat.succ.inj l)
      obtain ⟨b1, b2⟩ := b
      obtain ⟨e, rv⟩ := h
      have e : k = b1 := e
      subst e
      exact ⟨b2 :: ws, rfl, .cons rv q⟩
  | [], _ :: _, _, _, l => by cases l
  | _ :: _, [], _, _, l => by cases l
section
variable {X : Cx} {CX : CXT} {k : Nat} {f C : Addr} {fd : FuncData} {ps ks : List Str} {sp : Sp} {E : L2.St → XK} {x : Str} {p pos kp : Pos} {e : Expr} {te : TE}
theorem run_makeKS {pins : List (Addr × Obj)} {σ : L2.St} {H : Hp} {s : Shared} {Q : VK} {ws : List Value} {zs : List V} (M : Mk X.K C f) (F : FnOk X.prog X.w X.K X.mg X.base CX k f fd ps sp) (hr : Room (k + 1) X.A) (hb : KBn X.K fd ps 1 ks (fun a b => a ++ b) (fun a b => a ++ b))
    (hx : PassesAt CX X σ (E σ)) (I : Inv X pins σ H s) (rz : Vals zs ws) (l2 : zs.length = ks.length)
    (h : ∀ x dx, H x = none → H dx = none → dx ≠ x → sp (.ref x :: zs) (upd (upd H dx (.own x)) x (.ins C dx [])) (fun v H2 => v = .non ∧ Q (.ref x) H2) (E σ)) :
    wpAny (model X.prog X.w) X.A (call (.ref C) [] (ks.zip ws)) (EP X pins σ Q) X.xe s := by
  have hq := h (s.heap.objs.size + 1) s.heap.objs.size (I.hok.fresh (Nat.le_succ _)) (I.hok.fresh (Nat.le_refl _)) (Nat.ne_of_lt (Nat.lt_succ_self _))
  have I2 := Inv.made (C := C) I
  have r2 : Vals (V.ref (s.heap.objs.size + 1) :: zs) ([Value.ref (s.heap.objs.size + 1)] ++ ws) := .cons rfl rz
  have run := F.run _ X.stack _ _ ⟨[Value.ref (s.heap.objs.size + 1)], ks.zip ws⟩ ([Value.ref (s.heap.objs.size + 1)] ++ ws) _ _ (E σ) (hr.make C [] (ks.zip ws)) (I2.env0.make C [] (ks.zip ws)) (hb.to _ [Value.ref (s.heap.objs.size + 1)] ws I2.kIn rfl (rz.length.symm.trans l2)) r2 hq
  apply wpAny_call
  apply make_map (f := f) I.kIn M.makes M.init (beq_iff_eq.mp M.fn)
  refine codeAny_mono run fun r s' res => ?_
  match r, res with
  | .error e, res => exact hx pins _ _ e s' I2 res
  | .ok (.ret u), res =>
    obtain ⟨v, H', I3, rv, ev, q3⟩ := I2.after res
    subst ev
    exact ⟨rv, V.ref (s.heap.objs.size + 1), H', I3, rfl, q3⟩
  | .ok .next, res => exact False.elim res
  | .ok .brk, res => exact False.elim res
  | .ok .cont, res => exact False.elim res
def tMakeW (C : Addr) (sp : Sp) (ks : List Str) (E : L2.St → XK) (te : TE) : TE := fun σ H Q => ∀ q, H q = none → te σ (upd H q (.dK [])) fun y H1 => ∃ b zs, y = .ref b ∧ b ≠ q ∧ H1 q = some (.dK []) ∧ Rd H1 b (.dK ((ks.map Sum.inr).zip zs)) ∧ zs.length = ks.length ∧
  ∀ x dx, upd H1 q (.dK ((ks.map Sum.inr).zip zs)) x = none → upd H1 q (.dK ((ks.map Sum.inr).zip zs)) dx = none → dx ≠ x →
    sp (.ref x :: zs) (upd (upd (upd H1 q (.dK ((ks.map Sum.inr).zip zs))) dx (.own x)) x (.ins C dx [])) (fun v H2 => v = .non ∧ Q (.ref x) H2) (E σ)
theorem pe_makeW (M : Mk X.K C f) (F : FnOk X.prog X.w X.K X.mg X.base CX k f fd ps sp) (hr : Room (k + 1) X.A) (hg : Gl X x) (hm : X.mg x = some (.ref C)) (hb : KBn X.K fd ps 1 ks (fun a b => a ++ b) (fun a b => a ++ b)) (hx : ∀ σ, PassesAt CX X σ (E σ)) (he : PE X e te)
    (hdb : (x == ("__debug__" : Str)) = false := by decide) : PE X (.Call (.Name x p) [] [⟨none, e, kp⟩] pos) (tMakeW C sp ks E te) := by
  refine ⟨fun pins s σ H Q I h => ?_⟩
  refine wpAny_Call_Name_kw (ld_glob I hg hm ?_ hdb)
  show wpAny _ _ (callWith pos (.ref C) [] [] [(none, do let v ← eval e X.env; standAt pos; pure v)]) _ _ _
  refine callWith_kw (ks := ks) (P := fun h => X.K.In h) (PySem.W.keeps_K M.kp) (wp_merged ?_)
  have hn := I.hok.fresh (Nat.le_refl s.heap.objs.size)
  have I1 := I.laid (a := s.heap.objs.size) (o := .dK []) (h' := s.heap.push { cls := .type "dict", data := .dict #[] }) (t' := s.toks) (fun _ _ q => Heap.get?_push_of_some _ q) (Nat.le_refl _) (dk_empty s.heap I.big)
  refine wpAny_bind (thn (he.run pins _ σ _ _ I1 (h _ hn)) fun v s2 ⟨y, H1, I2, ry, b, zs, ey, hne, h1, h2, hl, q2⟩ => wpAny_bind (wpAny_standAt (wpAny_pure ?_)))
  subst ey
  obtain rfl : v = Value.ref b := ry
  obtain ⟨z1, d1, vs0, r1, dd1⟩ := dk_of I2.hok h1
  cases r1
  obtain ⟨z2, d2, vs2, r2, dd2⟩ := dk_rd I2.hok h2
  have hl2 : (ks.map Sum.inr : List Key).length = zs.length := by rw [List.length_map, hl]
  obtain ⟨ws, rfl, rz⟩ := kv_split r2 hl2
  have hlw : ks.length = ws.length := by rw [← hl, rz.length]
  have hz : ((ks.map Sum.inr).zip ws : List (Key × Value)).length ≤ sizeLine := by rw [← r2.length]; exact z2
  refine ⟨b, (ks.map Sum.inr).zip ws, rfl, Ne.symm hne, d2, dd1, dd2, hz, fun h' dd' _ hs => ?_⟩
  have he' : ∃ q, h'.get? s.heap.objs.size = some q := let ⟨q, _, _, hq, _⟩ := dd'; ⟨q, hq⟩
  have I3 := d_write (t' := s2.toks) I2 (by rw [h1]; exact True.intro) hs he' (dk_new (H' := upd H1 s.heap.objs.size (.dK ((ks.map Sum.inr).zip zs))) z2 d1 r2 dd')
  exact ⟨ws, dd', hlw, I3.kIn, run_makeKS M F hr hb (hx σ) I3 rz hl q2⟩
end
end KwX
namespace DL
open PySem L2
/-- C(**d), d a dict with the class's words in their order -/
abbrev wMakeW (C : Addr) (wf : WFnX) (ks : List Str) (we : WE) : XW → WE := fun ΦX σd W Φ => we σd W fun y W1 => match y with
  | .d (.dic kk dd) => kk = ks.map Sum.inr ∧ wf (.box W1.length :: dd.map Sv.d) (W1 ++ [.ins C [] []])
      (fun v W2 => v = .d .non ∧ ∃ ks ds, W2 = W1 ++ [.ins C ks (ds.map Sv.d)] ∧ Φ (.d (.ins C ks ds)) W1) (fun Ce ks ds W2 => (∃ o, W2 = W1 ++ [o]) ∧ ΦX Ce ks ds σd W1)
  | _ => False
theorem tex_makeW {K : PySem.W.Frag} {C : Addr} {wf : WFnX} {ks : List Str} {te : TE} {we : WE} (h : TEok K te we) : TEX K (fun Wx => KwX.tMakeW C (spX K wf) ks (fun σ cls d H => Wx cls d σ H) te) (wMakeW C wf ks we) := by
  intro z O As σd W σ H ΦX Wx Φ Q r g q qx
  intro q0 hq0
  have wl0 : Wld K (z1 (zo z (owOf O)) q0) As W (upd H q0 (.dK [])) := zk1 r.wld hq0
  have r1 := (r.under (vs := []) hq0 (Ext.new hq0) wl0 rfl).1
  refine h (σd := σd) (σ := σ) _ _ r1 g fun v H1 y As1 W1 e1 wl1 hv p => ?_
  split at p
  · rename_i kk dd
    obtain ⟨rfl, p⟩ := p
    cases hv with
    | d hv =>
      cases hv with
      | dic nb rd hl hn =>
        rename_i b zs
        have h1 : H1 q0 = some (.dK []) := (e1.keep q0 _ upd_same (fun f => r.wld.trk q0 f hq0) fun f => f).1
        have sub : ∀ a, zo z (owOf O) a → zo (z1 z q0) (owOf O) a := fun a q => by
          rcases q with q | q
          · exact .inl (.inl q)
          · exact .inr q
        have bq : b ≠ q0 := fun e => nb (by rw [e]; exact .inr (.inl (.inr rfl)))
        obtain ⟨wl3, mv3⟩ := grow_at (D := q0) (o := .dK ((ks.map Sum.inr).zip zs)) wl1 (.inl (.inr rfl))
        have e : Ext As H As1 (upd H1 q0 (.dK ((ks.map Sum.inr).zip zs))) := ext_at hq0 e1
        have wl := wl3.weak sub
        have hl3 := (hl.mv mv3).mv (Mv.weak (N' := bad (zo z (owOf O)) As1) fun a b => b.imp id (sub a))
        have hvs : HasVL K (zo z (owOf O)) As1 (upd H1 q0 (.dK ((ks.map Sum.inr).zip zs))) zs (dd.map Sv.d) := .ofL hl3
        refine ⟨b, zs, rfl, bq, h1, rd, ?_, fun x dx hx hdx ne => ?_⟩
        · rw [hl.length, ← hn, List.length_map]
        · obtain ⟨w2, e2⟩ := make_start (C := C) wl hx hdx ne
          have ej : (As1 ++ [[x]])[W1.length]? = some [x] := by rw [← wl.len, List.getElem?_concat_length]
          refine ⟨_, As1 ++ [[x]], _, .box W1.length :: dd.map Sv.d, _, _, w2, .cons (.box ej) (hvs.ext e2), p, fun v H' y As' W' e3 wl3 hv3 p3 => ?_, fun Ce d ks ds As' W' H' e3 wl3 f3 p3 => ?_⟩
          · obtain ⟨rfl, ks, ds, rfl, p3⟩ := p3
            refine ⟨by cases hv3 with | d hv3 => cases hv3; rfl, ?_⟩
            have eA : As' = As1 ++ [[x]] := as_of e3.at_ (by rw [wl3.len, List.length_append, wl.len] <;> rfl)
            subst eA
            have e13 := e2.trans e3
            refine q _ H' _ As1 W1 (e.trans (Ext.cut e13)) (wl.cut e13 wl3) (.d ?_) p3
            obtain ⟨a, dx', us, e1, g1, g2, g3⟩ := wl3.rep W1.length [x] _ ej (List.getElem?_concat_length ..)
            cases e1
            have g4 := g2.toL
            refine .ins (wl.fresh hx) g1 (g4.mv (Mv.weak fun b q => q.imp (fun f => fp_app.mpr (.inl f)) id)) (by rw [g3, List.length_map])
          · obtain ⟨⟨o, rfl⟩, p3⟩ := p3
            have eA : As' = As1 ++ [[x]] := as_of e3.at_ (by rw [wl3.len, List.length_append, wl.len] <;> rfl)
            subst eA
            have e13 := e2.trans e3
            have ee := e.trans (Ext.cut e13)
            exact qx Ce d ks ds O As1 σd W1 σ H' ee.own (r.ext ee (wl.cut e13 wl3)) (f3.mv (Mv.weak fun b q => q.imp (fun f => fp_app.mpr (.inl f)) id)) p3
  · exact p.elim
theorem dX_makeW {X : Cx} {C fa : Addr} {fd : FuncData} {ps ks : List Str} {wf : WFnX} {k : Nat} {x : Str} {p pos kp : Pos} {e : Expr} {te : TE} {we : WE} (M : Mk X.K C fa) (F : FnOk X.prog X.w X.K X.mg X.base (L2.CX X.prog X.w) k fa fd ps (spX X.K wf)) (hr : Room (k + 1) X.A) (hg : Gl X x) (hm : X.mg x = some (.ref C))
    (hb : KBn X.K fd ps 1 ks (fun a b => a ++ b) (fun a b => a ++ b)) (he : PD X e te we) (hdb : (x == ("__debug__" : Str)) = false := by decide) :
    PDX X (.Call (.Name x p) [] [⟨none, e, kp⟩] pos) (fun Wx => KwX.tMakeW C (spX X.K wf) ks (fun σ cls d H => Wx cls d σ H) te) (wMakeW C wf ks we) := ⟨fun Wx tk => KwX.pe_makeW M F hr hg hm hb (fun σ => passAt tk σ) he.pe hdb, tex_makeW he.ok⟩
end DL

/-! defs with **more, called by name -/
namespace KwX
open PySem PySem.Spec PyProof.Rows L2
section
variable {prog : Program} {w : World} {A : Around} {E : Value → Shared → Prop}
theorem ns_raw {d : Addr} {s : Shared} {es : List DictEntry} {n : Nat} {k : Str} {v : Value} {Q : Unit → Shared → Prop} (D : s.heap.get? d = some (PySem.W.dictOf es n))
    (hs : ∀ e ∈ es, e.key.isStr k = false) (hr : ∀ e ∈ es, e.refKey = false)
    (h : ∀ h', h'.get? d = some (PySem.W.dictOf (es ++ [⟨PyData.keyHash w.params k, .str k s.toks, v⟩]) (n + 1)) → Heap.SameBut d s.heap h' → Q () { s with heap := h', toks := s.toks + 1 }) :
    wpAny (model prog w) A (nsSet d k v) Q E s := by
  have e1 : es.any (·.key.isStr k) = false := by
    cases q : es.any (·.key.isStr k) with
    | false => rfl
    | true => obtain ⟨e, he, z⟩ := List.any_eq_true.mp q; rw [hs e he] at z; cases z
  have e2 : es.any (·.refKey) = false := by
    cases q : es.any (·.refKey) with
    | false => rfl
    | true => obtain ⟨e, he, z⟩ := List.any_eq_true.mp q; rw [hr e he] at z; cases z
  have e : Obj.putName k (PyData.keyHash w.params k) (.str k s.toks) v (PySem.W.dictOf es n) = PySem.W.dictOf (es ++ [⟨PyData.keyHash w.params k, .str k s.toks, v⟩]) (n + 1) := by
    rw [PySem.W.putName_dict, PySem.W.putL_new hs]
    show PySem.W.dictOf _ (if es.any (·.key.isStr k) then n else n + 1) = _
    rw [e1, if_neg Bool.false_ne_true]
  have c : aRefKeyMayBeTheName k es.toArray = false := by
    rw [aRefKeyMayBeTheName_at, ← Array.any_toList, ← Array.any_toList]
    show (!es.any (·.key.isStr k) && es.any (·.refKey)) = false
    rw [e2, Bool.and_false]
  unfold nsSet
  refine wpAny_bind (wpAny_bind (wpAny_askSetting (wpAny_pure (wpAny_bind (wpAny_mkText (wpAny_bind (wpAny_loadPart D ?_)))))))
  dsimp only
  rw [c]
  refine wpAny_updatePart D (h _ ?_ (Heap.SameBut.update ..))
  rw [← e]
  exact Heap.get?_update_self _ D (by show (Obj.putName k (PyData.keyHash w.params k) (.str k s.toks) v (PySem.W.dictOf es n)).isFreed = false; rw [e]; rfl)
theorem fill_raw {d : Addr} {Q : PUnit → Shared → Prop} : ∀ (ex : List (Str × Value)) (s : Shared) (es : List DictEntry) (n : Nat), s.heap.get? d = some (PySem.W.dictOf es n) →
    (∀ e ∈ es, ∀ x ∈ ex, e.key.isStr x.1 = false) → (∀ e ∈ es, e.refKey = false) → (ex.map (·.1)).Nodup →
    (∀ h' tk, h'.get? d = some (PySem.W.dictOf (es ++ PySem.W.kwEs w.params s.toks ex) (n + ex.length)) → Heap.SameBut d s.heap h' → Q ⟨⟩ { s with heap := h', toks := tk }) →
    wpAny (model prog w) A (forIn ex PUnit.unit fun x _ => (nsSet d x.1 x.2 >>= fun _ => pure (ForInStep.yield PUnit.unit))) Q E s
  | [], s, es, n, D, _, _, _, h => by
    rw [List.forIn_nil]
    refine wpAny_pure (h s.heap s.toks ?_ (Heap.SameBut.refl _ _))
    show s.heap.get? d = some (PySem.W.dictOf (es ++ []) n)
    rw [List.append_nil]
    exact D
  | x :: r, s, es, n, D, hs, hr, hn, h => by
    obtain ⟨hn1, hn2⟩ := List.nodup_cons.mp (show (x.1 :: r.map (·.1)).Nodup from hn)
    rw [List.forIn_cons]
    refine wpAny_bind (wpAny_bind (ns_raw D (fun e he => hs e he x (.head _)) hr fun h' D' S' => wpAny_pure ?_))
    show wpAny (model prog w) A (forIn r PUnit.unit fun x _ => (nsSet d x.1 x.2 >>= fun _ => pure (ForInStep.yield PUnit.unit))) Q E { s with heap := h', toks := s.toks + 1 }
    refine fill_raw r { s with heap := h', toks := s.toks + 1 } _ _ D' (fun e he y hy => ?_) (fun e he => ?_) hn2 fun h'' tk D'' S'' => ?_
    · rcases List.mem_append.mp he with he | he
      · exact hs e he y (.tail _ hy)
      · obtain rfl := List.mem_singleton.mp he
        show (x.1 == y.1) = false
        exact beq_eq_false_iff_ne.mpr fun q => hn1 (by rw [q]; exact List.mem_map_of_mem hy)
    · rcases List.mem_append.mp he with he | he
      · exact hr e he
      · obtain rfl := List.mem_singleton.mp he
        rfl
    · have t2 : n + 1 + r.length = n + (r.length + 1) := by omega
      refine h h'' tk ?_ (S'.trans S'')
      rw [t2, List.append_assoc] at D''
      exact D''
theorem mix_pairs : ∀ (ks : List Str) (us : List Value) (t : Tok), Pairs (mixKind prog w) (PySem.W.kwEs w.params t (ks.zip us)) ((ks.map Sum.inr).zip us)
  | [], us, t => by cases us <;> exact Pairs.nil
  | _ :: _, [], t => Pairs.nil
  | k :: r, u :: s, t => Pairs.cons (keyIs_str k t) rfl (mix_pairs r s (t + 1))
theorem mix_dict {ks : List Str} {us : List Value} (t : Tok) (n : Nat) (hl : ks.length = us.length) (hn : ks.Nodup) : (PySem.W.dictOf (PySem.W.kwEs w.params t (ks.zip us)) n).IsDictOf (mixKind prog w) ((ks.map Sum.inr).zip us) := by
  refine ⟨(PySem.W.kwEs w.params t (ks.zip us)).toArray, n, ⟨rfl, rfl, rfl⟩, rfl, fun e he => ?_, mix_pairs ks us t, ?_⟩
  · obtain ⟨k, u, hk, hh⟩ := PySem.W.kwEs_key (ks.zip us) t e (List.mem_toArray.mp he)
    exact ⟨.inr k, by rw [hk]; exact keyIs_str k u, hh.trans rfl⟩
  · rw [List.map_fst_zip (by rw [List.length_map]; omega)]
    exact hn.map _ fun a b h q => h (Sum.inr.inj q)
end
def FnKW (P : Program) (w : World) (K : PySem.W.Frag) (mg : Str → Option Value) (base : Heap) (CX : CXT) (k : Nat) (f : Addr) (oks : List Str → Prop) (sp : Sp) : Prop :=
  ∀ (A : Around) (outer : List Env) (s : Shared) (H : Hp) (u0 : Value) (v0 : V) (ks : List Str) (us : List Value) (vs : List V) (Q : VK) (E : XK), Room k A → Env0 P w K mg base A outer s H → RelV v0 u0 → Vals vs us → ks.length = vs.length → oks ks →
    (∀ p, H p = none → sp [v0, .ref p] (upd H p (.dK ((ks.map Sum.inr).zip vs))) Q E) → codeAny (model P w) A (.call (.ref f) ⟨[u0], ks.zip us⟩) (CR CX outer P w H s Q E) s
theorem kv_zip : ∀ {ks : List Key} {vs : List V} {us : List Value}, Vals vs us → KV (ks.zip vs) (ks.zip us)
  | [], _, _, _ => by simp only [List.zip_nil_left]; exact .nil
  | _ :: _, [], _, h => by cases h; exact .nil
  | k :: r, _ :: _, _, .cons a t => .cons ⟨rfl, a⟩ (kv_zip t)
section
variable {CX : CXT} {P : Program} {w : World} {K : PySem.W.Frag} {mg : Str → Option Value} {base : Heap} {k : Nat} {f : Addr} {name qual : Str} {params : Arguments} {body : List Stmt} {scope : Scope} {dV kV doc pm cdv ct oc : Value} {an od : Option Addr}
  {osl : Array (Option Value)} {N : List Str} {p1 pd : Str} {sp : Sp} {oks : List Str → Prop}
theorem fn_kw (lk : K.lookup f = some ⟨oc, od, .func (PySem.W.fnOf name qual params body scope dV kV doc pm an cdv ct), osl⟩) (hcd : PySem.W.codeIn K cdv qual = true) (S : FnScope N [p1, pd] scope) (hCX : StX.CXUp CX)
    (hb : ∀ (ks : List Str) (us : List Value) (u0 : Value), oks ks → ks.length = us.length → bindArgs (PySem.W.fnOf name qual params body scope dV kV doc pm an cdv ct) ⟨[u0], ks.zip us⟩ =
      ((alloc ({ cls := .type "dict", data := .dict #[] } : Obj) : Sem Addr) >>= fun d => (forIn (ks.zip us) PUnit.unit fun x _ => (nsSet d x.1 x.2 >>= fun _ => pure (ForInStep.yield PUnit.unit))) >>= fun _ => pure [(p1, u0), (pd, Value.ref d)]))
    (hnd : ∀ ks, oks ks → ks.Nodup ∧ ks.length ≤ 1000)
    (hbody : ∀ (A : Around) (outer : List Env) (s : Shared) (H : Hp) (vs : List V) (Q : VK) (E : XK), Room k (A.deeper (envOfC qual scope s.heap.objs.size f cdv)) → sp vs H Q E →
      ∃ t, PSs (cxOf CX P w K mg base N qual scope f cdv A outer s H E) body t ∧ t { nx := fun _ H' => Q .non H', rt := Q } (start N vs) H) :
    FnKW P w K mg base CX (k + 1) f oks sp := by
  intro A outer s H u0 v0 ks us vs Q E hr e0 r0 rv hl hok hq
  obtain ⟨nd, hsz⟩ := hnd ks hok
  have hn : H s.heap.objs.size = Option.none := e0.hok.fresh (Nat.le_refl _)
  have hlu : ks.length = us.length := by rw [hl, rv.length]
  refine StX.run_bnd lk hcd S hr e0 (G := fun xs H2 => ∃ p, H p = Option.none ∧ xs = [v0, V.ref p] ∧ H2 = upd H p (.dK ((ks.map Sum.inr).zip vs))) (fun A' Ex Q' h => ?_) fun s2 H2 xs ⟨p, hp, ex, eH⟩ hr' => ?_
  · rw [hb ks us u0 hok hlu]
    refine wpAny_bind (wpAny_alloc ?_)
    have D0 : (s.heap.push ({ cls := .type "dict", data := .dict #[] } : Obj)).get? s.heap.objs.size = some (PySem.W.dictOf [] 0) := Heap.get?_push_size _ rfl
    refine wpAny_bind (fill_raw (ks.zip us) { s with heap := s.heap.push { cls := .type "dict", data := .dict #[] } } [] 0 D0 (fun _ he => nomatch he) (fun _ he => nomatch he) (by rw [List.map_fst_zip (by omega)]; exact nd) fun h' tk D' S' => wpAny_pure ?_)
    have dd : h'.DictOf (mixKind P w) s.heap.objs.size ((ks.map Sum.inr).zip us) := Heap.dictOf_iff.mpr ⟨_, D', by rw [List.nil_append]; exact mix_dict _ _ hlu nd⟩
    have keep : ∀ b o, s.heap.get? b = some o → h'.get? b = some o := fun b o q => (S'.2 b (Nat.ne_of_lt (Heap.lt_size q))).trans (Heap.get?_push_of_some _ q)
    have big := StX.env0_big e0
    have new : ObjOk P w (upd H s.heap.objs.size (.dK ((ks.map Sum.inr).zip vs))) h' s.heap.objs.size (.dK ((ks.map Sum.inr).zip vs)) := by
      refine ⟨?_, beq_eq_false_iff_ne.mpr (Nat.ne_of_gt big), _, kv_zip rv, dd⟩
      rw [List.length_zip, List.length_map]
      have : (1000 : Nat) ≤ sizeLine := by decide
      omega
    have e2 : Env0 P w K mg base A outer { s with heap := h', toks := tk } (upd H s.heap.objs.size (.dK ((ks.map Sum.inr).zip vs))) := by
      refine ⟨e0.frames, e0.mod, fun b x e => ⟨keep b x (e0.bs b x e).1, ?_⟩, ?_, Heap.FunFrames.of_keeps (fun b x e _ => ⟨x, keep b x e, rfl⟩) e0.funs, fun b hb => ?_, e0.hok.laid keep (Nat.le_refl _) new, e0.bare⟩
      · rw [upd_ne (Nat.ne_of_lt (Heap.lt_size (e0.bs b x e).1))]
        exact (e0.bs b x e).2
      · exact Nat.le_trans e0.bsz (Nat.le_of_lt (Heap.lt_size D'))
      · obtain ⟨_, x, hx, _⟩ := e0.funs.mem hb
        rw [upd_ne (Nat.ne_of_lt (Heap.lt_size hx))]
        exact e0.frf b hb
    have un : Un (frs outer) [] H (upd H s.heap.objs.size (.dK ((ks.map Sum.inr).zip vs))) s.heap h' := Un.laid keep (Nat.le_refl _) hn
    have z := h _ _ [v0, V.ref s.heap.objs.size] [u0, Value.ref s.heap.objs.size] e2 un rfl (fun e s' => hCX outer s H _ _ E e s' un keep rfl) (.cons r0 (.cons rfl .nil)) rfl ⟨_, hn, rfl, rfl⟩
    exact z
  · subst ex eH
    exact hbody A outer s2 _ _ Q E hr' (hq p hp)
end
end KwX

/-! o.m(k = e, ..), m a def with **more -/
namespace KwX
open PySem PySem.Spec PyProof.Rows L2
section
variable {X : Cx} {CX : CXT} {k : Nat} {f C : Addr} {ks : List Str} {sp : Sp} {E : L2.St → XK} {m : Str} {apos pos : Pos} {o : Expr} {kws : List Keyword} {ta : TE} {tk : TA} {oks : List Str → Prop}
def tMethKW (C : Addr) (m : Str) (sp : Sp) (ks : List Str) (E : L2.St → XK) (ta : TE) (tk : TA) : TE := fun σ H Q => ta σ H fun x H1 => ∃ a dx fs, x = .ref a ∧ H1 a = some (.ins C dx fs) ∧ fs.lookup m = none ∧
  tk σ H1 fun zs H2 => ks.length = zs.length ∧ ∀ p, H2 p = none → sp [x, .ref p] (upd H2 p (.dK ((ks.map Sum.inr).zip zs))) Q (E σ)
theorem pe_methKW {pl : Sem Bool} (he : PE X o ta) (c : Cls X.K C) (hm : Meth X.K C m f) (F : FnKW X.prog X.w X.K X.mg X.base CX k f oks sp) (hr : Room k X.A) (hok : oks ks) (hx : ∀ σ, PassesAt CX X σ (E σ)) (hkw : PK X kws tk)
    (hall : (backToKw pos (keywordEach kws X.env)).all (·.1.isSome) = true := by rfl) (hks : (backToKw pos (keywordEach kws X.env)).filterMap (·.1) = ks := by rfl)
    (hpl : ((backTo pos (starEach [] X.env)).any (·.1) || (backToKw pos (keywordEach kws X.env)).any (·.1.isNone)) = false := by rfl)
    (ht : eval (.Call (.Attribute o m apos) [] kws pos) X.env = (do
      let ov ← eval o X.env
      standAt apos.atName
      let (f, first) ← holding [ov] (getMethod ov m pl)
      callWith pos f first (backTo pos (starEach [] X.env)) (backToKw pos (keywordEach kws X.env))) := by rfl) :
    PE X (.Call (.Attribute o m apos) [] kws pos) (tMethKW C m sp ks E ta tk) := by
  refine ⟨fun pins s σ H Q I h => ?_⟩
  refine PySem.W.methodCall_KW (pl := pl) (thn (he.run pins s σ H _ I h) fun u s1 ⟨x, H1, I1, rx, a, dx, fs, ex, ea, l, q⟩ => ?_) ht
  subst ex
  obtain rfl : u = Value.ref a := rx
  refine getmeth_ok I1 ea c hm l ?_
  refine PySem.W.callWith_KW0 (first := [.ref a]) (h₀ := X.base) I.ok.mod.kin hm.kp hall ?_ hpl
  refine thn (hkw.run pos pins s1 σ H1 _ I1 q) fun ws s2 ⟨zs, H2, I2, rz, hl, q2⟩ => ⟨I2.kIn, ?_⟩
  rw [hks]
  refine wpAny_call (codeAny_mono (F X.A X.stack s2 H2 (.ref a) (.ref a) ks ws zs Q (E σ) hr I2.env0 rfl rz hl hok q2) fun r s' hq => ?_)
  match r, hq with
  | .error er, hq => exact hx σ _ H2 s2 er s' I2 hq
  | .ok (.ret u), hq => exact I2.after hq
  | .ok .next, hq => exact False.elim hq
  | .ok .brk, hq => exact False.elim hq
  | .ok .cont, hq => exact False.elim hq
end
end KwX
namespace DL
open PySem L2
abbrev wMethKW (C : Addr) (m : Str) (wf : WFnX) (ks : List Str) (wo : WE) (wk : WA) : XW → WE := fun ΦX σd W Φ => wo σd W fun x W1 => isIns C x W1 ∧ noKey m x W1 ∧ wk σd W1 fun xs W2 => match allD xs with
  | some ds => ks.length = ds.length ∧ wf [x, .d (.dic (ks.map Sum.inr) ds)] W2 Φ (fun Ce kk dd W3 => ΦX Ce kk dd σd W3)
  | none => False
theorem tex_methKW {K : PySem.W.Frag} {C : Addr} {m : Str} {wf : WFnX} {ks : List Str} {to : TE} {wo : WE} {tk : TA} {wk : WA} (ho : TEok K to wo) (hk : TAok K tk wk) : TEX K (fun Wx => KwX.tMethKW C m (spX K wf) ks (fun σ cls d H => Wx cls d σ H) to tk) (wMethKW C m wf ks wo wk) := by
  intro z O As σd W σ H ΦX Wx Φ Q r g q qx
  refine ho _ _ r g fun v H1 x As1 W1 e wl hv p => ?_
  obtain ⟨a, dx, fs, rfl, h1, h2⟩ := isIns_at wl hv p.1
  refine ⟨a, dx, fs, rfl, h1, h2 m p.2.1, ?_⟩
  refine hk _ _ (r.ext e wl) p.2.2 fun zs H2 xs As2 W2 e2 wl2 hvs p2 => ?_
  split at p2
  · rename_i ds hd
    obtain rfl := allD_eq hd
    obtain ⟨l, p2⟩ := p2
    have hl := hvs.toL
    refine ⟨l.trans hl.length.symm, fun t ht => ?_⟩
    have e3 : Ext As2 H2 As2 (upd H2 t (.dK ((ks.map Sum.inr).zip zs))) := Ext.new ht
    have ee := (e.trans e2).trans e3
    refine ⟨_, As2, W2, [x, .d (.dic (ks.map Sum.inr) ds)], Φ, _, wl2.new ht, .cons ((hv.ext e2).ext e3) (.cons (.d (.dic (wl2.fresh ht) (.inl upd_same) (hl.mv (Ext.mv e3)) (by rw [List.length_map, l]))) .nil), p2,
      fun v H' y As' W' e4 wl4 hv4 p4 => q v H' y As' W' (ee.trans e4) wl4 hv4 p4, fun Ce d kk dd As' W' H' e4 wl4 f4 p4 => ?_⟩
    exact qx Ce d kk dd O As' σd W' σ H' (ee.trans e4).own (r.ext (ee.trans e4) wl4) f4 p4
  · exact p2.elim
theorem dX_methKW {X : Cx} {k : Nat} {f C : Addr} {ks : List Str} {wf : WFnX} {m : Str} {apos pos : Pos} {o : Expr} {kws : List Keyword} {to : TE} {wo : WE} {tk : TA} {wk : WA} {oks : List Str → Prop} {pl : Sem Bool} (ho : PD X o to wo) (c : Cls X.K C) (hm : Meth X.K C m f)
    (F : KwX.FnKW X.prog X.w X.K X.mg X.base (L2.CX X.prog X.w) k f oks (spX X.K wf)) (hr : Room k X.A) (hok : oks ks) (hkw : PKD X kws tk wk)
    (hall : (backToKw pos (keywordEach kws X.env)).all (·.1.isSome) = true := by rfl) (hks : (backToKw pos (keywordEach kws X.env)).filterMap (·.1) = ks := by rfl)
    (hpl : ((backTo pos (starEach [] X.env)).any (·.1) || (backToKw pos (keywordEach kws X.env)).any (·.1.isNone)) = false := by rfl)
    (ht : eval (.Call (.Attribute o m apos) [] kws pos) X.env = (do
      let ov ← eval o X.env
      standAt apos.atName
      let (f, first) ← holding [ov] (getMethod ov m pl)
      callWith pos f first (backTo pos (starEach [] X.env)) (backToKw pos (keywordEach kws X.env))) := by rfl) :
    PDX X (.Call (.Attribute o m apos) [] kws pos) (fun Wx => KwX.tMethKW C m (spX X.K wf) ks (fun σ cls d H => Wx cls d σ H) to tk) (wMethKW C m wf ks wo wk) :=
  ⟨fun Wx tk' => KwX.pe_methKW ho.pe c hm F hr hok (fun σ => passAt tk' σ) hkw.pk hall hks hpl ht, tex_methKW ho.ok hkw.ok⟩
/-- a def f(self, **more) -/
theorem okKW {P : Program} {w : World} {K : PySem.W.Frag} {mg : Str → Option Value} {base : Heap} {x qual : Str} {st : Stmt} {f : Addr} {fd : FuncData} {N : List Str} {p1 pd : Str} {k : Nat} {wf : WFnX} {oks : List Str → Prop} (F : Fun K x qual st f fd) (S : FnScope N [p1, pd] (defScope st))
    (hb : ∀ (kV doc pm : Value) (an : Option Addr) (cdv ct : Value) (ks : List Str) (us : List Value) (u0 : Value), oks ks → ks.length = us.length → bindArgs (PySem.W.fnOf x qual (defArgs st) (defBody st) (defScope st) .none kV doc pm an cdv ct) ⟨[u0], ks.zip us⟩ =
      ((alloc ({ cls := .type "dict", data := .dict #[] } : Obj) : Sem Addr) >>= fun d => (forIn (ks.zip us) PUnit.unit fun x _ => (nsSet d x.1 x.2 >>= fun _ => pure (ForInStep.yield PUnit.unit))) >>= fun _ => pure [(p1, u0), (pd, Value.ref d)]))
    (hnd : ∀ ks, oks ks → ks.Nodup ∧ ks.length ≤ 1000)
    (body : ∀ (cdv : Value) (A : Around) (outer : List Env) (s : Shared) (H : Hp) (E : XK), Room k (A.deeper (PyProof.Rows.envOfC qual (defScope st) s.heap.objs.size f cdv)) →
      ∃ t wb, PDSsX (cxOf (L2.CX P w) P w K mg base N qual (defScope st) f cdv A outer s H E) (defBody st) t wb ∧ ∀ xs W Φ ΦX, wf xs W Φ ΦX → wb (fun C ks ds _ W => ΦX C ks ds W) (finD Φ) (startD N xs) W) :
    KwX.FnKW P w K mg base (L2.CX P w) (k + 1) f oks (spX K wf) := by
  obtain ⟨oc, od, kV, doc, pm, an, cdv, ct, osl, rfl, lk, hcd⟩ := F.ex
  refine KwX.fn_kw (N := N) lk hcd S StX.cxUp (hb kV doc pm an cdv ct) hnd fun A outer s H vs Q E hr h => ?_
  obtain ⟨z, As, W, xs, Φ, ΦX, wl, hv, h, q, qx⟩ := h
  obtain ⟨t, wb, hp, hw⟩ := body cdv A outer s H E hr
  have ow : ∀ {As' : List (List Addr)} {ow' : Av} {H' : Hp}, ExtS As (owOf fun _ => none) H As' ow' H' → Ext As H As' H' := fun e =>
    ⟨fun b o h1 n1 _ => ⟨(e.keep b o h1 n1 fun ⟨i, q⟩ => by cases q).1, (e.keep b o h1 n1 fun ⟨i, q⟩ => by cases q).2.1, fun f => f⟩, e.at_, e.up⟩
  refine ⟨t fun cls d _ H => E cls d H, hp.ps _ (takes_of rfl rfl rfl rfl), hp.ok _ _ _ _ (rep_start wl hv) (hw xs W Φ ΦX h) ?_ ?_⟩
  · refine ⟨fun σd' W' O' As' σ' H' e r p => ?_, fun v x W' ow' As' H' e wl' hv' p => q v H' x As' W' (ow e) wl' hv' p, fun _ _ _ _ _ _ _ _ p => p.elim, fun _ _ _ _ _ _ _ _ p => p.elim⟩
    exact q .non H' (.d .non) As' W' (ow e) (r.wld.weak fun a q => .inl q) (.d .non) p
  · intro C d ks ds O' As' σd' W' σ' H' e r f p
    exact qx C d ks ds As' W' H' (ow e) (r.wld.weak fun a q => .inl q) (f.mv (Mv.weak fun a q => q.imp id fun q => .inl q)) p
end DL

/-! defs with defaults; calls by name that raise nothing -/
namespace DL
open PySem L2
section
variable {P : Program} {w : World} {K : PySem.W.Frag} {mg : Str → Option Value} {base : Heap}
theorem okXD {x qual : Str} {params : Arguments} {bd : List Stmt} {scope : Scope} {dvs : List V} {kws : List (Str × V)} {f : Addr} {fd : FuncData} {N ps : List Str} {k : Nat} {wf : WFnX} (F : FunD K x qual params bd scope dvs kws f fd) (S : FnScope N ps scope) (hl : ∀ xs W Φ ΦX, wf xs W Φ ΦX → xs.length = ps.length)
    (body : ∀ (cdv : Value) (A : Around) (outer : List Env) (s : Shared) (H : Hp) (E : XK), Room k (A.deeper (PyProof.Rows.envOfC qual scope s.heap.objs.size f cdv)) →
      ∃ t wb, PDSsX (cxOf (L2.CX P w) P w K mg base N qual scope f cdv A outer s H E) bd t wb ∧ ∀ xs W Φ ΦX, wf xs W Φ ΦX → wb (fun C ks ds _ W => ΦX C ks ds W) (finD Φ) (startD N xs) W) : FnOk P w K mg base (L2.CX P w) (k + 1) f fd ps (spX K wf) := by
  refine F.ok S (fun vs H Q E h => ?_) (fun cdv A outer s H vs Q E hr h => ?_)
  · obtain ⟨z, As, W, xs, Φ, ΦX, wl, hv, h, _⟩ := h
    rw [hv.length]
    exact hl _ _ _ _ h
  · obtain ⟨z, As, W, xs, Φ, ΦX, wl, hv, h, q, qx⟩ := h
    obtain ⟨t, wb, hp, hw⟩ := body cdv A outer s H E hr
    have ow : ∀ {As' : List (List Addr)} {ow' : Av} {H' : Hp}, ExtS As (owOf fun _ => none) H As' ow' H' → Ext As H As' H' := fun e =>
      ⟨fun b o h1 n1 _ => ⟨(e.keep b o h1 n1 fun ⟨i, q⟩ => by cases q).1, (e.keep b o h1 n1 fun ⟨i, q⟩ => by cases q).2.1, fun f => f⟩, e.at_, e.up⟩
    refine ⟨t fun cls d _ H => E cls d H, hp.ps _ (takes_of rfl rfl rfl rfl), hp.ok _ _ _ _ (rep_start wl hv) (hw xs W Φ ΦX h) ?_ ?_⟩
    · refine ⟨fun σd' W' O' As' σ' H' e r p => ?_, fun v x W' ow' As' H' e wl' hv' p => q v H' x As' W' (ow e) wl' hv' p, fun _ _ _ _ _ _ _ _ p => p.elim, fun _ _ _ _ _ _ _ _ p => p.elim⟩
      exact q .non H' (.d .non) As' W' (ow e) (r.wld.weak fun a q => .inl q) (.d .non) p
    · intro C d ks ds O' As' σd' W' σ' H' e r f p
      exact qx C d ks ds As' W' H' (ow e) (r.wld.weak fun a q => .inl q) (f.mv (Mv.weak fun a q => q.imp id fun q => .inl q)) p
theorem binds_all {x qual : Str} {params : Arguments} {bd : List Stmt} {scope : Scope} {dvs : List V} {f : Addr} {fd : FuncData} {ps : List Str} (F : FunD K x qual params bd scope dvs [] f fd) (hd : dvs ≠ [])
    (h : ∀ (T : Addr) (kV doc pm : Value) (an : Option Addr) (cdv ct : Value) (us its : List Value), us.length = ps.length → its.length = dvs.length →
      ∃ k, bindArgs (PySem.W.fnOf x qual params bd scope (.ref T) kV doc pm an cdv ct) ⟨us, []⟩ = seqItems? (.ref T) >>= k ∧ k (some its.toArray) = pure (ps.zip us)) : Binds K fd ps [] := by
  obtain ⟨ds, hv, hb⟩ := F.binds1 (ps := ps) ps.length dvs.length hd (by rw [Nat.sub_self]; rfl) fun T kV doc pm an cdv ct us its l1 l2 => by
    obtain ⟨k, e1, e2⟩ := h T kV doc pm an cdv ct us its l1 l2
    exact ⟨k, e1, by rw [e2, List.drop_eq_nil_of_le (by omega), List.append_nil]⟩
  rw [List.drop_length] at hv
  cases hv
  exact hb
end
end DL

namespace DL
open PySem L2
theorem Rep.freezeD {K : PySem.W.Frag} {z : Av} {O : Nat → Option Addr} {As : List (List Addr)} {σd : DS} {W : WS} {σ : St} {H : Hp} {i : Nat} {ks : List Key} {xs : List Dv} (r : Rep K z O As σd W σ H) (es : slot σd i = some (.ownD ks xs)) : Rep K z (noO O i) As (σd.set i (some (.v (.d (.dic ks xs))))) W σ H := by
  obtain ⟨v, h1, a, vs, ho, rfl, h2, h3, h4⟩ := r.sl i _ (slot_at es)
  have nb : ¬ bad (zo z (owOf (noO O i))) As a := fun b => by
    rcases b with b | b | ⟨j, b⟩
    · exact r.wld.zok.out a (.inr ⟨i, ho⟩) b
    · exact r.out i a ho b
    · unfold noO at b
      split at b
      · cases b
      · rename_i hj
        exact hj (r.inj j i a b ho)
  have hv : HasV K (zo z (owOf (noO O i))) As H (.ref a) (.d (.dic ks xs)) := .d (.dic nb (.inl h2) (h3.mv (Mv.weak fun x q => q.imp id zo_sub)) h4)
  have li : i < σd.length := (List.getElem?_eq_some_iff.mp (slot_at es)).1
  refine ⟨r.wld.weak fun a => zo_sub, by rw [List.length_set]; exact r.len, fun j d e => ?_, fun j b q => ?_, fun j k b q1 q2 => ?_, fun j b q => ?_⟩
  · by_cases q : i = j
    · subst q
      rw [List.getElem?_set_self li] at e
      cases e
      exact ⟨_, h1, by unfold noO; rw [if_pos rfl], hv⟩
    · rw [List.getElem?_set_ne q] at e
      obtain ⟨v', g1, g2⟩ := r.sl j d e
      refine ⟨v', g1, ?_⟩
      have : noO O i j = O j := by unfold noO; rw [if_neg (fun x => q x.symm)]
      rw [this]
      exact g2.weak fun a => zo_sub
  · unfold noO at q
    split at q
    · cases q
    · exact r.out j b q
  · unfold noO at q1 q2
    split at q1
    · cases q1
    · split at q2
      · cases q2
      · exact r.inj j k b q1 q2
  · unfold noO at q
    split at q
    · cases q
    · rename_i hj
      rw [List.getElem?_set_ne (fun x => hj x.symm)]
      exact r.oo j b q

theorem sX_freezeD {X : Cx} {st : Stmt} {t : WX → TS} {w : XW → WSt} (i : Nat) (h : PDSX X st t w) : PDSX X st t (fun ΦX => wFreezeD i (w ΦX)) := by
  refine ⟨h.ps, ?_⟩
  intro z O As σd W σ H ΦX Wx Dd D r g q qx
  unfold wFreezeD at g
  split at g
  · rename_i ks xs es
    exact h.ok ΦX Wx Dd D (r.freezeD es) g (q.ext ext_noO) (qx.ext ext_noO)
  · exact g.elim
theorem u1 {n : Nat} (h : n + 64 < cLine) : n + 1 < cLine := by omega
end DL

/-! keepers as data -/
namespace DL
open PySem L2 TL
abbrev keepD (C : Addr) (k : Kp) : Dv := .ins C KN k.ds
theorem has_mem {ks : List Key} {k : Key} (h : k ∈ ks) : hasK ks k = true := List.any_eq_true.mpr ⟨k, h, decide_eq_true rfl⟩
theorem put_kk {n : Str} (h : n ∈ KN) : putKs KK (.inr n) = KK := by
  unfold putKs
  rw [if_pos (has_mem (by rw [← kk_map]; exact List.mem_map.mpr ⟨n, h, rfl⟩))]
theorem put_ds (k : Kp) {n : Str} (h : n ∈ KN) (x : Dv) : putDs KK k.ds (.inr n) x = (k.put n x).ds := by
  unfold putDs
  rw [if_pos (has_mem (by rw [← kk_map]; exact List.mem_map.mpr ⟨n, h, rfl⟩))]
  rfl
theorem kk_mrg0 : mrgKs [] KK = KK := by kernel_rfl
theorem ds_mrg0 (k : Kp) : mrgDs [] [] KK k.ds = k.ds := by kernel_rfl
abbrev KA : List Key := [.inr "begin", .inr "freeze", .inr "stop", .inr "counts", .inr "marks", .inr "clears"]
abbrev KB : List Key := [.inr "moves", .inr "cut", .inr "needs", .inr "marked", .inr "held"]
theorem kk_ab : mrgKs (mrgKs [] KA) (mrgKs [] KB) = KK := by kernel_rfl
theorem ds_ab (k : Kp) : mrgDs (mrgKs [] KA) (mrgDs [] [] KA [k.b, k.f, k.s, k.c, k.m, k.cl]) (mrgKs [] KB) (mrgDs [] [] KB [k.mo, k.cu, k.n, k.ma, k.h]) = k.ds := by kernel_rfl
theorem pairs_kp (k : Kp) : pairsD k.pairs = some (KK, k.ds) := rfl
/-! ### what is right -/
theorem in_strs (x : Str) : ∀ ws : List Str, inD (.str x) (ws.map Dv.str) = decide (x ∈ ws)
  | [] => by
    simp [inD]
  | w :: r => by
    have ih := in_strs x r
    unfold inD at ih ⊢
    rw [List.map_cons, List.any_cons, ih]
    have e : eqD (.str w) (.str x) = decide (w = x) := by rfl
    rw [e]
    by_cases q : w = x
    · subst q
      simp
    · have q2 : ¬ x = w := fun z => q z.symm
      simp [q, q2]
/-! ### texts -/
end DL

namespace DL
open PySem L2
end DL

/-! good keepers -/
namespace DL
open PySem L2 TL
theorem lim_leaf {x : Dv} (h : limD x) : ∃ p, Leaf x p := by
  rcases h with rfl | ⟨b, rfl⟩ | ⟨i, rfl, h0, h1⟩ | ⟨s, rfl, hs⟩
  · exact ⟨_, leaf_non⟩
  · exact ⟨_, leaf_bl b⟩
  · exact ⟨_, leaf_int (log_small h0 (by omega))⟩
  · refine ⟨.str s, ?_⟩
    simp only [List.mem_cons, List.not_mem_nil, or_false] at hs
    rcases hs with rfl | rfl | rfl | rfl | rfl | rfl | rfl | rfl | rfl | rfl | rfl <;> exact ⟨by simp only [pyD], by decide +kernel, by decide +kernel, by decide +kernel, by decide +kernel⟩
theorem leaves_all : ∀ {xs : List Dv}, (∀ x, x ∈ xs → limD x) → ∃ ps, Leaves xs ps
  | [], _ => ⟨[], .nil⟩
  | x :: r, h => by
    obtain ⟨p, hp⟩ := lim_leaf (h x List.mem_cons_self)
    obtain ⟨ps, hps⟩ := leaves_all (xs := r) fun y hy => h y (List.mem_cons_of_mem _ hy)
    exact ⟨p :: ps, .cons hp hps⟩
theorem Kp.good.leaves {k : Kp} (h : k.good) : ∃ p, pyD (.lst k.ds) = some p ∧ p.showable = true ∧ p.depth ≤ 100 ∧ p.shown.length ≤ sizeLine := by
  obtain ⟨ps, hp⟩ := leaves_all h.limds
  exact repr_lst hp (nle rfl)
/-! ### by place -/
def nameAt (i : Int) : Str := KN.getD i.toNat ""
theorem atI_kp (k : Kp) {i : Int} (h0 : 0 ≤ i) (h1 : i < 11) : L2.atI k.ds i = some (k.at (nameAt i)) ∧ nameAt i ∈ KN := by
  have : i = 0 ∨ i = 1 ∨ i = 2 ∨ i = 3 ∨ i = 4 ∨ i = 5 ∨ i = 6 ∨ i = 7 ∨ i = 8 ∨ i = 9 ∨ i = 10 := by omega
  rcases this with rfl | rfl | rfl | rfl | rfl | rfl | rfl | rfl | rfl | rfl | rfl <;> exact ⟨by kernel_rfl, by decide +kernel⟩
theorem cut_put (k : Kp) (x : Dv) {i : Int} (h0 : 0 ≤ i) (h1 : i < 11) : (cutD k.ds none (some i) ++ [x]) ++ cutD k.ds (some (i + 1)) none = (k.put (nameAt i) x).ds := by
  have : i = 0 ∨ i = 1 ∨ i = 2 ∨ i = 3 ∨ i = 4 ∨ i = 5 ∨ i = 6 ∨ i = 7 ∨ i = 8 ∨ i = 9 ∨ i = 10 := by omega
  rcases this with rfl | rfl | rfl | rfl | rfl | rfl | rfl | rfl | rfl | rfl | rfl <;> kernel_rfl
def wordsI (i : Int) : List Str := if i = 3 then ["all", "both", "now", "readers"] else if i = 4 then ["frozen", "never", "seen"] else if i = 6 then ["always", "whole"] else if i = 7 then ["horizon", "mark", "never"] else if i = 9 then ["always", "never"] else if i = 10 then ["always", "never"] else []
def passD (x : Dv) : Prop := x = .str "always" ∨ x = .str "never" ∨ ∃ i : Int, x = .int i ∧ 1 ≤ i ∧ i < 10000000000000000000
theorem good_mk (k : Kp) {b f : Int} (hb : k.b = .int b) (hf : k.f = .int f) (h1 : 1 ≤ f) (h2 : f < b) (h3 : 2 ≤ b) (h4 : b < 10000000000000000000) (ls : limD k.s) (lc : limD k.c) (lm : limD k.m) (lcl : limD k.cl) (lmo : limD k.mo) (lcu : limD k.cu) (ln : limD k.n) (lma : limD k.ma) (lh : limD k.h)
    (os : okSet "stop" k.s = true) (oc : okSet "counts" k.c = true) (om : okSet "marks" k.m = true) (ocl : okSet "clears" k.cl = true) (omo : okSet "moves" k.mo = true) (ocu : okSet "cut" k.cu = true) (on : okSet "needs" k.n = true) (oma : okSet "marked" k.ma = true) (oh : okSet "held" k.h = true) : k.good := by
  refine ⟨fun n hn => ?_, fun n hn nf => ?_, b, f, hb, hf, h1, h2⟩
  · simp only [List.mem_cons, List.not_mem_nil, or_false] at hn
    rcases hn with rfl | rfl | rfl | rfl | rfl | rfl | rfl | rfl | rfl | rfl | rfl
    · rw [at_b, hb]; exact .inr (.inr (.inl ⟨_, rfl, by omega, h4⟩))
    · rw [at_f, hf]; exact .inr (.inr (.inl ⟨_, rfl, by omega, by omega⟩))
    · rw [at_s]; exact ls
    · rw [at_c]; exact lc
    · rw [at_m]; exact lm
    · rw [at_cl]; exact lcl
    · rw [at_mo]; exact lmo
    · rw [at_cu]; exact lcu
    · rw [at_n]; exact ln
    · rw [at_ma]; exact lma
    · rw [at_h]; exact lh
  · simp only [List.mem_cons, List.not_mem_nil, or_false] at hn
    rcases hn with rfl | rfl | rfl | rfl | rfl | rfl | rfl | rfl | rfl | rfl | rfl
    · rw [at_b, hb]
      unfold okSet
      rw [if_pos rfl]
      exact decide_eq_true h3
    · exact absurd rfl nf
    · rw [at_s]; exact os
    · rw [at_c]; exact oc
    · rw [at_m]; exact om
    · rw [at_cl]; exact ocl
    · rw [at_mo]; exact omo
    · rw [at_cu]; exact ocu
    · rw [at_n]; exact on
    · rw [at_ma]; exact oma
    · rw [at_h]; exact oh
/-- words, passing times, bools are right -/
theorem ok_word {n : Str} {x : Dv} (h : ∃ s, x = .str s ∧ s ∈ wordsK n) (hn : n ∈ (["counts", "marks", "moves", "cut", "marked", "held"] : List Str)) : okSet n x = true ∧ limD x := by
  obtain ⟨s, rfl, hs⟩ := h
  have key : s ∈ allW ∧ n ≠ "begin" ∧ n ≠ "stop" ∧ ¬(n = "clears" ∨ n = "needs") := by
    simp only [List.mem_cons, List.not_mem_nil, or_false] at hn
    rcases hn with rfl | rfl | rfl | rfl | rfl | rfl
    · have e : wordsK "counts" = (["all", "both", "now", "readers"] : List Str) := by kernel_rfl
      rw [e] at hs
      refine ⟨?_, by decide +kernel, by decide +kernel, by decide +kernel⟩
      simp only [List.mem_cons, List.not_mem_nil, or_false] at hs ⊢
      rcases hs with rfl | rfl | rfl | rfl <;> simp
    · have e : wordsK "marks" = (["frozen", "never", "seen"] : List Str) := by kernel_rfl
      rw [e] at hs
      refine ⟨?_, by decide +kernel, by decide +kernel, by decide +kernel⟩
      simp only [List.mem_cons, List.not_mem_nil, or_false] at hs ⊢
      rcases hs with rfl | rfl | rfl <;> simp
    · have e : wordsK "moves" = (["always", "whole"] : List Str) := by kernel_rfl
      rw [e] at hs
      refine ⟨?_, by decide +kernel, by decide +kernel, by decide +kernel⟩
      simp only [List.mem_cons, List.not_mem_nil, or_false] at hs ⊢
      rcases hs with rfl | rfl <;> simp
    · have e : wordsK "cut" = (["horizon", "mark", "never"] : List Str) := by kernel_rfl
      rw [e] at hs
      refine ⟨?_, by decide +kernel, by decide +kernel, by decide +kernel⟩
      simp only [List.mem_cons, List.not_mem_nil, or_false] at hs ⊢
      rcases hs with rfl | rfl | rfl <;> simp
    · have e : wordsK "marked" = (["always", "never"] : List Str) := by kernel_rfl
      rw [e] at hs
      refine ⟨?_, by decide +kernel, by decide +kernel, by decide +kernel⟩
      simp only [List.mem_cons, List.not_mem_nil, or_false] at hs ⊢
      rcases hs with rfl | rfl <;> simp
    · have e : wordsK "held" = (["always", "never"] : List Str) := by kernel_rfl
      rw [e] at hs
      refine ⟨?_, by decide +kernel, by decide +kernel, by decide +kernel⟩
      simp only [List.mem_cons, List.not_mem_nil, or_false] at hs ⊢
      rcases hs with rfl | rfl <;> simp
  refine ⟨?_, .inr (.inr (.inr ⟨s, rfl, key.1⟩))⟩
  unfold okSet
  rw [if_neg key.2.1, if_neg key.2.2.1, if_neg key.2.2.2]
  split
  · rfl
  · exact decide_eq_true hs
theorem ok_pass {n : Str} {x : Dv} (h : passD x) (hn : n = "marked" ∨ n = "held") : okSet n x = true ∧ limD x := by
  have hm : n ∈ (["counts", "marks", "moves", "cut", "marked", "held"] : List Str) := by
    rcases hn with rfl | rfl <;> simp
  have e : wordsK n = (["always", "never"] : List Str) := by
    rcases hn with rfl | rfl <;> kernel_rfl
  rcases h with rfl | rfl | ⟨i, rfl, h0, h1⟩
  · exact ok_word ⟨_, rfl, by rw [e]; simp⟩ hm
  · exact ok_word ⟨_, rfl, by rw [e]; simp⟩ hm
  · refine ⟨?_, .inr (.inr (.inl ⟨i, rfl, by omega, h1⟩))⟩
    have k : n ≠ "begin" ∧ n ≠ "stop" ∧ ¬(n = "clears" ∨ n = "needs") := by
      rcases hn with rfl | rfl <;> exact ⟨by decide +kernel, by decide +kernel, by decide +kernel⟩
    unfold okSet
    rw [if_neg k.1, if_neg k.2.1, if_neg k.2.2, if_pos ⟨hn, decide_eq_true h0⟩]
theorem ok_bool {n : Str} {b : Bool} (hn : n = "clears" ∨ n = "needs") : okSet n (.bl b) = true ∧ limD (.bl b) := by
  refine ⟨?_, .inr (.inl ⟨b, rfl⟩)⟩
  have k : n ≠ "begin" ∧ n ≠ "stop" := by
    rcases hn with rfl | rfl <;> exact ⟨by decide +kernel, by decide +kernel⟩
  unfold okSet
  rw [if_neg k.1, if_neg k.2, if_pos hn]
  rfl
theorem ok_stop {x : Dv} (h : x = .non ∨ ∃ i : Int, x = .int i ∧ 1 ≤ i ∧ i < 10000000000000000000) : okSet "stop" x = true ∧ limD x := by
  have k : ("stop" : Str) ≠ "begin" := by decide +kernel
  unfold okSet
  rw [if_neg k, if_pos rfl]
  rcases h with rfl | ⟨i, rfl, h0, h1⟩
  · exact ⟨rfl, .inl rfl⟩
  · exact ⟨decide_eq_true h0, .inr (.inr (.inl ⟨i, rfl, by omega, h1⟩))⟩
theorem get_none {ks : List Key} {ds : List Dv} {k : Key} (h : k ∉ ks) : getA ks ds k = none := by
  induction ks generalizing ds with
  | nil => rfl
  | cons x r ih =>
    cases ds with
    | nil => rfl
    | cons a s =>
      unfold getA
      rw [if_neg fun e => h (by rw [e]; exact List.mem_cons_self)]
      exact ih fun m => h (List.mem_cons_of_mem _ m)
theorem ix_kp (k : Kp) {i : Int} {W : WS} {Φ : Sv → WS → Prop} (h0 : 0 ≤ i) (h1 : i < 11) (h : Φ (.d (k.at (nameAt i))) W) : rdIxL (.lst k.ds) (.int i) W Φ := by
  unfold rdIxL
  dsimp only
  rw [(atI_kp k h0 h1).1]
  exact h
theorem ix_b {k : Kp} {b : Int} {W : WS} {Φ : Sv → WS → Prop} (hb : k.b = .int b) (h : Φ (.d (.int b)) W) : rdIxL (.lst k.ds) (.int 0) W Φ := by
  refine ix_kp k (by decide) (by decide) ?_
  rw [show nameAt 0 = "begin" by kernel_rfl, at_b, hb]
  exact h
theorem cut_len (xs : List Dv) (lo hi : Option Int) : (cutD xs lo hi).length ≤ xs.length := by
  unfold cutD
  rw [List.length_take, List.length_drop]
  omega
end DL

/-! loops whose ends are letters -/
namespace DL
open PySem L2
theorem loop_g {tgt : Tgt} {wb : WSt} {Dd : DEnds} (I : List Sv → DS → WS → Prop) {xs : List Sv} {σ : DS} {W : WS} (h : I xs σ W) (h0 : ∀ σ W, I [] σ W → Dd.nx σ W)
    (hs : ∀ x xs σ W (D : DEnds), I (x :: xs) σ W → D.rt = Dd.rt → D.bk = Dd.nx → (∀ σ W, I xs σ W → D.nx σ W) → (∀ σ W, I xs σ W → D.ct σ W) → ∃ σ', tgt x σ = some σ' ∧ wb D σ' W) : wLoop tgt wb xs Dd σ W :=
  loop_by I h h0 fun x xs σ W N i hN => hs x xs σ W _ i rfl rfl hN hN
theorem loop_rg {i : Nat} {wb : WSt} {Dd : DEnds} {lo : Int} {n : Nat} (I : DS → WS → Prop) {σ : DS} {W : WS} (h : I σ W) (h0 : ∀ σ W, I σ W → Dd.nx σ W)
    (hs : ∀ (k : Int), lo ≤ k → k < lo + n → ∀ σ W (D : DEnds), I σ W → D.rt = Dd.rt → D.bk = Dd.nx → (∀ σ W, I σ W → D.nx σ W) → (∀ σ W, I σ W → D.ct σ W) → wb D (σ.set i (some (.v (.d (.int k))))) W) : wLoop (tgN i) wb ((rangeD lo n).map Sv.d) Dd σ W :=
  loop_r I h h0 fun k h1 h2 σ W N i hN => hs k h1 h2 σ W _ i rfl rfl hN hN
end DL

/-! enumerate over a tuple -/
namespace EnX
open PySem PySem.Spec PyProof.Rows L2
section
variable {prog : Program} {w : World} {A : Around} {E : Value → Shared → Prop} {s : Shared}
end
end EnX

/-! enumerate, loops in defs that raise, partition, `in` of a dict of the module -/
namespace DL
open PySem L2
/-! ### enumerate -/
section
variable {K : PySem.W.Frag}
end
/-! ### for, where the body may raise -/
/-! ### xs.append(e), where e may raise -/
/-! ### a.partition(b) -/
/-! ### x in d, d a dict of the module -/
end DL

/-! lists that a def makes and hands out, and its caller changes -/
namespace DL
open PySem L2
section
variable {K : PySem.W.Frag} {z : Av} {As As' : List (List Addr)} {W W' : WS} {H H' : Hp} {p : Addr}
end
end DL

/-! texts of keepers, read -/
namespace DL
open PySem L2 TL
end DL

namespace DL
open PySem L2
/-! ### x, y = a value, an own list -/
def wParEF (i j : Nat) (wa : WE) (wb : WF) : WSt := fun Dd σd W => (j < σd.length ∧ i ≠ j) ∧ wa σd W fun y W1 => wb σd W1 fun xs W2 => Dd.nx ((σd.set i (some (.v y))).set j (some (.own xs))) W2
end DL

/-! cls(*xs) -/
namespace DL
open PySem L2 PySem.Spec PyProof.Rows
end DL

/-! x is True, whatever x is -/
namespace DL
open PySem L2 PySem.Spec PyProof.Rows
def plainV : V → Bool
  | .non => true
  | .bl _ => true
  | .int _ => true
  | .str _ => true
  | .ref _ => true
  | _ => false
def rIsB (f : Bool → Bool) : R2 := fun x y H Q => ∃ b, y = .bl b ∧ plainV x = true ∧ Q (.bl (f (decide (x = .bl b)))) H
theorem op_isB {X : Cx} : OpR X (compareOp .Is) (rIsB id) := by
  intro pins s σ H x y v u Q I rx ry h
  obtain ⟨b, rfl, hp, q⟩ := h
  cases (show u = Value.bool b from ry)
  have fin : ∀ c : Bool, c = decide (x = .bl b) → wpAny (model X.prog X.w) X.A (pure (.bool c)) (EP X pins σ Q) X.xe s := fun c e => by
    refine wpAny_pure ⟨.bl c, H, I, rfl, ?_⟩
    rw [e]
    exact q
  cases x with
  | non => cases (show v = Value.none from rx); exact fin false (by simp)
  | bl c =>
    cases (show v = Value.bool c from rx)
    exact fin (Value.bool c == Value.bool b) (by
      by_cases e : c = b
      · subst e; simp
      · simp [e])
  | int i => obtain ⟨t, rfl⟩ := (show ∃ t, v = Value.int i t from rx); exact fin false (by simp)
  | str i => obtain ⟨t, rfl⟩ := (show ∃ t, v = Value.str i t from rx); exact fin false (by simp)
  | ref a => cases (show v = Value.ref a from rx); exact fin false (by simp)
  | _ => cases hp
def isBd (d : Dv) (b : Bool) : Bool := match d with
  | .bl a => decide (a = b)
  | _ => false
abbrev rdIsBA (f : Bool → Bool) : RD2 := fun x y W Φ => match x, y with
  | .raw _, _ => False
  | .bl a, .bl b => Φ (.d (.bl (f (decide (a = b))))) W
  | _, .bl _ => Φ (.d (.bl (f false))) W
  | _, _ => False
theorem has_plain {N : Av} {K : PySem.W.Frag} {H : Hp} {v : V} {d : Dv} (h : Has K N H v d) (hr : ∀ u, d ≠ .raw u) : plainV v = true := by
  cases h <;> first | rfl | exact absurd rfl (hr _)
theorem has_isB {N : Av} {K : PySem.W.Frag} {H : Hp} {v : V} {d : Dv} {b : Bool} (h : Has K N H v d) (hr : ∀ u, d ≠ .raw u) : decide (v = .bl b) = isBd d b := by
  cases h <;> first | exact absurd rfl (hr _) | simp [isBd]
theorem od_isBA {K : PySem.W.Frag} {f : Bool → Bool} : OpD K (rIsB f) (rdIsBA f) := by
  intro z As W H x y dx dy Φ Q w hx hy h q
  have key : ∀ b, dy = .bl b → (∀ u, dx ≠ .raw u) → Φ (.d (.bl (f (isBd dx b)))) W → rIsB f x y H Q := fun b e hr p => by
    subst e
    refine ⟨b, hy.bl, ?_, ?_⟩
    · rcases hx with hx | ⟨_, _, _, rfl, _⟩ | ⟨_, _, _, _, rfl, _⟩
      · exact has_plain hx hr
      · rfl
      · rfl
    · have e : decide (x = .bl b) = isBd dx b := by
        rcases hx with hx | ⟨_, _, _, rfl, rfl, _⟩ | ⟨_, _, _, _, rfl, rfl, _⟩
        · exact has_isB hx hr
        · simp [isBd]
        · simp [isBd]
      rw [e]
      exact q _ H _ As W ExtS.refl w (.d (.bl _)) p
  cases dx <;> cases dy <;> first | exact h.elim | exact key _ rfl (fun u => fun z => nomatch z) h
end DL

/-! how long a keeper's text is -/
namespace DL
open PySem L2 TL
theorem KN_at (i : Nat) (h : i < 11) : (KN[i]?) = some (nameAt (i : Int)) := by
  have : i = 0 ∨ i = 1 ∨ i = 2 ∨ i = 3 ∨ i = 4 ∨ i = 5 ∨ i = 6 ∨ i = 7 ∨ i = 8 ∨ i = 9 ∨ i = 10 := by omega
  rcases this with rfl | rfl | rfl | rfl | rfl | rfl | rfl | rfl | rfl | rfl | rfl <;> kernel_rfl
theorem atI_strs {ls : List Str} {i : Nat} {l : Str} (h : ls[i]? = some l) : L2.atI (ls.map Dv.str) (i : Int) = some (.str l) := by
  refine L2.atI_nat ?_
  rw [List.getElem?_map, h]
  rfl
end DL

/-! lines cut at blanks, and at their first blank -/
namespace DL
open PySem L2 TL
/-! ### what was read is right but for freeze -/
end DL

namespace DL
open PySem L2 TL
/-! ### displays whose items may raise -/
section
variable {X : Cx} {e : Expr} {es : List Expr} {teX : WX → TE} {weX : XW → WE} {tr : WX → TA} {wr : XW → WA} {t : TA} {w : WA} {pos : Pos}
end
/-! ### pairs, compared -/
theorem in_ints (i : Int) : ∀ ks : List Int, inD (.int i) (ks.map Dv.int) = decide (i ∈ ks)
  | [] => by simp [inD]
  | k :: r => by
    have ih := in_ints i r
    unfold inD at ih ⊢
    rw [List.map_cons, List.any_cons, ih]
    have e : eqD (.int k) (.int i) = decide (k = i) := by rfl
    rw [e]
    by_cases q : k = i
    · subst q
      simp
    · have q2 : ¬ i = k := fun z => q z.symm
      simp [q, q2]
/-! ### signs of texts -/
end DL

/-! pieces of lists of texts -/
namespace DL
open PySem L2 TL
theorem name_facts {i : Int} (h0 : 0 ≤ i) (h1 : i < 11) : ((i = 5 ∨ i = 8) ↔ (nameAt i = "clears" ∨ nameAt i = "needs")) ∧ (i = 2 ↔ nameAt i = "stop") ∧ (i ∈ ([0, 1, 2, 9, 10] : List Int) ↔ nameAt i ∈ numNames) ∧ wordsI i = wordsK (nameAt i) ∧ nameAt i ∈ KN := by
  have : i = 0 ∨ i = 1 ∨ i = 2 ∨ i = 3 ∨ i = 4 ∨ i = 5 ∨ i = 6 ∨ i = 7 ∨ i = 8 ∨ i = 9 ∨ i = 10 := by omega
  rcases this with rfl | rfl | rfl | rfl | rfl | rfl | rfl | rfl | rfl | rfl | rfl <;> exact ⟨by decide +kernel, by decide +kernel, by decide +kernel, by kernel_rfl, by decide +kernel⟩
end DL

/-! the head by one kernel run, its facts read by a Hook -/
namespace DH
open PySem PySem.Spec PyProof.Rows L2
theorem Df.fun_ {K : PySem.W.Frag} {d : Df} (e : fnX K (d.at_ K) = d.val) (c : d.ok K = true) (hc : d.cl = []) (hd : d.dfl = []) : ∃ fd, Fun K d.name d.qual d.st (d.at_ K) fd := by
  obtain ⟨kp, oc, od, osl, ccs, dV, kV, doc, pm, an, cdv, ct, g1, g2, g3, g4⟩ := Df.get e c
  rw [hc] at g2
  obtain rfl : ccs = [] := List.map_eq_nil_iff.mp g2
  have dv : d.dvs K = [] := by
    unfold Df.dvs
    rw [hd]
    rfl
  rw [dv] at g4
  rcases g4 with ⟨_, rfl⟩ | ⟨q, _⟩
  · exact ⟨_, fun_mk g1 g3 kp⟩
  · exact absurd rfl q
theorem fileB_ok {K : PySem.W.Frag} {ca : Addr} {file : Str} (h : fileB K ca file = true) : ∃ oc od vs sl tf, K.lookup ca = some ⟨oc, od, .fields vs, sl⟩ ∧ vs[2]? = some (.str file tf) := by
  unfold fileB at h
  split at h
  · rename_i oc od vs sl e
    split at h
    · rename_i f t e2
      rw [of_decide_eq_true h] at e2
      exact ⟨oc, od, vs, sl, t, e, e2⟩
    · cases h
  · cases h
theorem cellB_ok {K : PySem.W.Frag} {cc C : Addr} (h : cellB K cc C = true) : ∃ oc od sl, K.lookup cc = some ⟨oc, od, .cell (some (.ref C)), sl⟩ := by
  unfold cellB at h
  split at h
  · rename_i oc od D sl e
    rw [of_decide_eq_true h] at e
    exact ⟨oc, od, sl, e⟩
  · cases h
theorem exB_ok {K : PySem.W.Frag} {C : Addr} {bm : List Value} (h : exB K C bm = true) : ∃ nm q N bs sn sub ab col dd k0 k1 k2 k3 k5, K.lookup C = some (excClassObj nm q C N bs bm true sn sub ab col dd k0 k1 k2 k3 k5 "ValueError.__new__") := by
  unfold exB at h
  split at h
  · rename_i t dd cd sl e
    obtain ⟨h1, h⟩ := He.ba h
    obtain ⟨h2, h⟩ := He.ba h
    obtain ⟨h3, h⟩ := He.ba h
    obtain ⟨h4, h5⟩ := He.ba h
    split at h5
    · rename_i k0 k1 k2 k3 n k5 e2
      obtain ⟨nm, bs, mro, N, q, hdct, sn, sub, ab, col, hdel⟩ := cd
      have q1 : t = "type" := of_decide_eq_true h1
      have q2 : mro = .ref C :: bm := of_decide_eq_true h2
      have q3 : hdct = true := h3
      have q4 : hdel = false := by
        have : (!hdel) = true := h4
        cases hdel
        · rfl
        · cases this
      have q5 : n = "ValueError.__new__" := of_decide_eq_true h5
      have q6 : sl = #[k0, k1, k2, k3, some (.builtin n), k5] := by
        apply Array.ext'
        rw [e2]
      subst q1 q2 q3 q4 q5 q6
      exact ⟨nm, q, N, bs, sn, sub, ab, col, dd, k0, k1, k2, k3, k5, e⟩
    · cases h5
  · cases h
/-! constants -/
theorem tupB_ok {K : PySem.W.Frag} {a : Addr} {xs : List Str} (h : tupB K a xs = true) : ∀ N H, DL.Has K N H (.ref a) (.tup (xs.map DL.Dv.str)) := by
  unfold tupB at h
  split at h
  · rename_i c od its n sl e
    obtain ⟨h1, h⟩ := He.ba h
    obtain ⟨h2, h3⟩ := He.ba h
    exact DL.has_tupK e (congrArg Value.type (of_decide_eq_true h1)) rfl (of_decide_eq_true h2) (He.relAll_ok h3)
  · cases h
/-! the Hook -/
section
variable {fa : List Ft} {da : List Df} {ta : List Tab} {w : World} {K : PySem.W.Frag}
theorem Says.fn (c : Says fa da ta w K) (i : Nat) {d : Df} (h : da[i]? = some d) (hc : d.cl = [] := by rfl) (hd : d.dfl = [] := by rfl) : ∃ fd, Fun K d.name d.qual d.st (d.at_ K) fd := Df.fun_ (c.d0 i h).1 (c.d0 i h).2 hc hd
end
/-! the end -/
end DH

/-! the head's facts in several runs: each run less memory -/
namespace DH
open PySem PySem.Spec PyProof.Rows L2
end DH

/-! the head's facts, tables of code objects left out -/
namespace DH
open PySem PySem.Spec PyProof.Rows L2
theorem obsT_eq {n : List Addr} {fa : List Ft} {da : List Df} {ta : List Tab} {tf : List He.Defn} {g : Addr → Option Obj} {s : Shared} (h : ∀ a, g a = s.heap.get? a) : obsT n fa da ta tf g = (hookT n fa da ta tf).obs s := by
  have e : g = s.heap.get? := funext h
  rw [e] <;> rfl
end DH


/-! things that a def has made are data when it is left -/
namespace DL
open PySem L2
def reL (f : Sv → Option Dv) : List Sv → Option (List Dv)
  | [] => some []
  | x :: xs => match f x, reL f xs with
    | some d, some ds => some (d :: ds)
    | _, _ => none
/-- the thing at a place n or later, read as data -/
def reB (W : WS) (n : Nat) : Nat → Sv → Option Dv
  | _, .d x => some x
  | 0, .box _ => none
  | k + 1, .box i => if n ≤ i then (match W[i]? with
    | some (.lst xs) => (reL (reB W n k) xs).map Dv.lst
    | some (.ins C ks ds) => (reL (reB W n k) ds).map (Dv.ins C ks)
    | _ => none) else none
section
variable {K : PySem.W.Frag} {z : Av} {As As' : List (List Addr)} {W ws : WS} {H H' : Hp}
theorem reL_has {N : Av} {f : Sv → Option Dv} (hf : ∀ v x d, HasV K z As' H' v x → f x = some d → Has K N H' v d) : ∀ {vs : List V} {xs : List Sv} {ds : List Dv}, HasVL K z As' H' vs xs → reL f xs = some ds → HasL K N H' vs ds := by
  intro vs xs
  induction xs generalizing vs with
  | nil =>
    intro ds h e
    cases h
    cases e
    exact .nil
  | cons x xs ih =>
    intro ds h e
    cases h with
    | cons a b =>
      unfold reL at e
      cases h1 : f x with
      | none => rw [h1] at e; exact nomatch e
      | some d =>
        cases h2 : reL f xs with
        | none => rw [h1, h2] at e; exact nomatch e
        | some ds' =>
          rw [h1, h2] at e
          cases e
          exact .cons (hf _ _ _ a h1) (ih b h2)
theorem reL_len {f : Sv → Option Dv} : ∀ {xs : List Sv} {ds : List Dv}, reL f xs = some ds → xs.length = ds.length := by
  intro xs
  induction xs with
  | nil =>
    intro ds e
    cases e
    rfl
  | cons x xs ih =>
    intro ds e
    unfold reL at e
    cases h1 : f x with
    | none => rw [h1] at e; exact nomatch e
    | some d =>
      cases h2 : reL f xs with
      | none => rw [h1, h2] at e; exact nomatch e
      | some ds' =>
        rw [h1, h2] at e
        cases e
        exact congrArg (· + 1) (ih h2)
theorem fp_mono (e : ∀ (j : Nat) (l : List Addr), As[j]? = some l → As'[j]? = some l) {a : Addr} (h : fpOf As a) : fpOf As' a := by
  obtain ⟨l, hl, hm⟩ := h
  obtain ⟨i, hi⟩ := List.getElem?_of_mem hl
  exact ⟨l, List.mem_of_getElem? (e i l hi), hm⟩
theorem reB_has (wl : Wld K z As W H) (e : Ext As H As' H') (w2 : Wld K z As' (W ++ ws) H') : ∀ (k : Nat) (v : V) (x : Sv) (d : Dv), HasV K z As' H' v x → reB (W ++ ws) W.length k x = some d → Has K (bad z As) H' v d := by
  have wk : ∀ {v : V} {d : Dv}, Has K (bad z As') H' v d → Has K (bad z As) H' v d := fun h => h.mv (Mv.weak fun a q => q.imp (fp_mono e.at_) fun q => q)
  have nb : ∀ {i : Nat} {a : Addr}, W.length ≤ i → As'[i]? = some [a] → ¬ bad z As a := by
    intro i a hi h q
    rcases q with ⟨l, hl, hm⟩ | q
    · obtain ⟨j, hj⟩ := List.getElem?_of_mem hl
      have := w2.dis j i l [a] a (e.at_ _ _ hj) h hm (List.mem_singleton.mpr rfl)
      have := (List.getElem?_eq_some_iff.mp hj).1
      rw [wl.len] at this
      omega
    · exact w2.zok.out a q ⟨_, List.mem_of_getElem? h, List.mem_singleton.mpr rfl⟩
  intro k
  induction k with
  | zero =>
    intro v x d h r
    cases h with
    | d h => cases r; exact wk h
    | box h => exact nomatch r
  | succ k ih =>
    intro v x d h r
    cases h with
    | d h => cases r; exact wk h
    | @box p l i h =>
      unfold reB at r
      by_cases hi : W.length ≤ i
      rotate_left
      · rw [if_neg hi] at r
        exact nomatch r
      rw [if_pos hi] at r
      cases hw : (W ++ ws)[i]? with
      | none => rw [hw] at r; exact nomatch r
      | some o =>
        rw [hw] at r
        have rp := w2.rep i _ _ h hw
        cases o with
        | lst xs =>
          obtain ⟨a, vs, ea, ha, hv⟩ := rp
          obtain ⟨rfl, rfl⟩ := List.cons.inj ea
          dsimp only at r
          cases h2 : reL (reB (W ++ ws) W.length k) xs with
          | none => rw [h2] at r; exact nomatch r
          | some ds =>
            rw [h2] at r
            cases r
            exact .lst (.inl ⟨nb hi h, .inl ha⟩) (reL_has ih hv h2)
        | ins C ks ds =>
          obtain ⟨a, dx, vs, ea, ha, hv, hl⟩ := rp
          obtain ⟨rfl, rfl⟩ := List.cons.inj ea
          dsimp only at r
          cases h2 : reL (reB (W ++ ws) W.length k) ds with
          | none => rw [h2] at r; exact nomatch r
          | some ds' =>
            rw [h2] at r
            cases r
            exact .ins (nb hi h) ha (reL_has ih hv h2) (hl.trans (reL_len h2))
        | dic ks ds => exact nomatch r
        | obj k => exact nomatch r
        | lck o_ vs_ ks ds => exact nomatch r
        | tupV xs => exact nomatch r
        | tab P q => exact nomatch r
        | gone => exact nomatch r
theorem HasVL.back {us : List V} : ∀ {vs : List V} {xs : List Sv}, (∀ (j : Nat) (l : List Addr), As[j]? = some l → As'[j]? = some l) → HasVL K z As H us xs → HasVL K z As' H' vs xs → HasVL K z As H' vs xs := by
  intro vs xs h1 o n
  induction n generalizing us with
  | nil => exact .nil
  | cons a b ih =>
    cases o with
    | cons oa ob =>
      refine .cons ?_ (ih ob)
      cases a with
      | d a => exact .d (a.mv (Mv.weak fun x q => q.imp (fp_mono h1) fun q => q))
      | box a =>
        cases oa with
        | box oa =>
          rw [h1 _ _ oa] at a
          cases a
          exact .box oa
/-- the new things are left out of the world -/
theorem Wld.back (w : Wld K z As W H) (e : Ext As H As' H') (w2 : Wld K z As' (W ++ ws) H') : Wld K z As W H' := by
  refine ⟨w.len, fun j l u h1 h2 => ?_, fun a q => e.up a (w.trk a q), w.dis, ⟨fun a q => w2.zok.trk a q, fun a q x => w2.zok.out a q (fp_mono e.at_ x)⟩⟩
  have n := w2.rep j l u (e.at_ j l h1) (by rw [List.getElem?_append_left (List.getElem?_eq_some_iff.mp h2).1]; exact h2)
  have b := w.rep j l u h1 h2
  cases u with
  | lst xs =>
    obtain ⟨a, vs, rfl, g1, g2⟩ := n
    obtain ⟨a', us, _, _, b2⟩ := b
    exact ⟨a, vs, rfl, g1, .back e.at_ b2 g2⟩
  | ins C ks ds =>
    obtain ⟨a, dx, vs, rfl, g1, g2, g3⟩ := n
    obtain ⟨a', _, us, _, _, b2, _⟩ := b
    exact ⟨a, dx, vs, rfl, g1, .back e.at_ b2 g2, g3⟩
  | dic ks ds =>
    obtain ⟨a, vs, rfl, g1, g2, g3⟩ := n
    obtain ⟨a', us, _, _, b2, _⟩ := b
    exact ⟨a, vs, rfl, g1, .back e.at_ b2 g2, g3⟩
  | obj k => exact n
  | lck o_ vs_ ks ds =>
    obtain ⟨a, rfl, g1, g2, g3⟩ := n
    obtain ⟨a', _, _, b2, _⟩ := b
    exact ⟨a, rfl, g1, .back e.at_ b2 g2, g3⟩
  | tupV xs =>
    obtain ⟨a, vs, rfl, g1, g2⟩ := n
    obtain ⟨a', us, _, _, b2⟩ := b
    exact ⟨a, vs, rfl, g1, .back e.at_ b2 g2⟩
  | tab P q => exact ⟨n.1, n.2.mv (Mv.weak fun x q => q.imp (fp_mono e.at_) fun q => q) rfl⟩
  | gone => trivial
theorem Ext.back (e : Ext As H As' H') : Ext As H As H' :=
  ⟨fun b o h n m => ⟨(e.keep b o h n m).1, n, fun q => q⟩, fun _ _ h => h, e.up⟩
/-- what a def that hands out new things hands out -/
def fzD (W : WS) (Φ : Sv → WS → Prop) : Sv → WS → Prop := fun x W' => ∃ ws d, W' = W ++ ws ∧ reB W' W.length 9 x = some d ∧ Φ (.d d) W
theorem Nx.frz {Φ : Sv → WS → Prop} {Q : VK} (w : Wld K z As W H) (q : Nx K z As H Φ Q) : Nx K z As H (fzD W Φ) Q := by
  intro v H' x As' W' e w2 hv p
  obtain ⟨ws, d, rfl, r, p⟩ := p
  exact q v H' _ As W e.back (w.back e w2) (.d (reB_has w e w2 9 v x d hv r)) p
end
section
variable {P : Program} {w : World} {K : PySem.W.Frag} {mg : Str → Option Value} {base : Heap}
end
end DL

/-! lists whose items are things: made, read, written -/
namespace DL
open PySem L2
section
variable {K : PySem.W.Frag} {z : Av} {As As' : List (List Addr)} {W W' : WS} {H H' : Hp} {p : Addr}
theorem HasVL.atI {vs : List V} {xs : List Sv} {i : Int} {d : Sv} (h : HasVL K z As H vs xs) (e : L2.atI xs i = some d) : ∃ v, L2.atI vs i = some v ∧ HasV K z As H v d := by
  unfold L2.atI at e ⊢
  rw [h.length]
  cases r : ixN xs.length i with
  | none => rw [r] at e; cases e
  | some j =>
    rw [r] at e
    exact h.get e
end
/-! ### a comprehension whose items may be things: the list itself is one -/
section
variable {K : PySem.W.Frag}
end
/-! ### an item of a list that changes -/
section
variable {K : PySem.W.Frag}
end
section
variable {X : Cx} {a b e o k : Expr} {ta tb te to ti : TE} {wa we wo : WE} {wb wi : WB} {pos pos2 : Pos}
end
end DL

/-! rules: lists of things, [x] * n, tuple.index, texts in order -/
namespace DL
open PySem L2
section
variable {X : Cx} {tt : TT} {wt : WT}
variable {elt tg iter : Expr} {ifs : List Expr} {scope : Scope} {own : List (Str × Nat)} {pos spos py : Pos} {wi : TI} {w : WI} {g : TG} {tgt : Tgt} {is : List Nat} {te : TE} {we : WE} {y : Str}
end
/-! ### a new list, n times -/
section
variable {K : PySem.W.Frag}
end
section
variable {X : Cx} {a b : Expr} {ta tb : TE} {wa : WF} {wb : WB} {pos : Pos}
end
end DL

/-! sorted(xs) of data that are alike -/
namespace DLG
open PySem L2
def sortP {α : Type} (bs : List (α × PyData)) : List α := (bs.mergeSort (PySem.W.dataLe false Prod.snd)).map Prod.fst
section
variable {X : Cx} {pins : List (Addr × Obj)} {σ : L2.St} {H : Hp} {s : Shared}
theorem RdPs.len : ∀ {vs : List V} {ps : List PyData}, RdPs X.K H vs ps → vs.length = ps.length
  | _, _, .nil => rfl
  | _, _, .cons _ b => congrArg (· + 1) (RdPs.len b)
end
end DLG
namespace DL
open PySem L2
section
variable {K : PySem.W.Frag} {N : Av} {H : Hp}
theorem HasL.ofMem : ∀ S : List (V × Dv × PyData), (∀ t, t ∈ S → Has K N H t.1 t.2.1) → HasL K N H (S.map fun t => t.1) (S.map fun t => t.2.1)
  | [], _ => .nil
  | t :: r, h => .cons (h t List.mem_cons_self) (HasL.ofMem r fun x hx => h x (List.mem_cons_of_mem _ hx))
theorem HasL.zips : ∀ {vs : List V} {ds : List Dv} (ps : List PyData), HasL K N H vs ds → ∀ t, t ∈ vs.zip (ds.zip ps) → Has K N H t.1 t.2.1
  | _, _, _, .nil => fun t h => nomatch h
  | _, _, [], .cons _ _ => fun t h => nomatch h
  | _, _, p :: ps, .cons a b => fun t h => by
    rcases List.mem_cons.mp h with rfl | h
    · exact a
    · exact HasL.zips ps b t h
theorem zip_one : ∀ {vs : List V} {ds : List Dv} {ps : List PyData}, vs.length = ds.length → vs.zip ps = (vs.zip (ds.zip ps)).map fun t => (t.1, t.2.2)
  | [], _, _, _ => rfl
  | _ :: _, _ :: _, [], _ => rfl
  | v :: vs, d :: ds, p :: ps, h => by
    have h : vs.length + 1 = ds.length + 1 := h
    rw [List.zip_cons_cons, List.zip_cons_cons, List.zip_cons_cons, List.map_cons, ← zip_one (by omega)]
theorem zip_two : ∀ {vs : List V} {ds : List Dv} {ps : List PyData}, vs.length = ds.length → ds.zip ps = (vs.zip (ds.zip ps)).map fun t => t.2
  | [], [], _, _ => rfl
  | _ :: _, _ :: _, [], _ => rfl
  | v :: vs, d :: ds, p :: ps, h => by
    have h : vs.length + 1 = ds.length + 1 := h
    rw [List.zip_cons_cons, List.zip_cons_cons, List.map_cons, ← zip_two (by omega)]
theorem HasL.sorted {vs : List V} {ds : List Dv} (ps : List PyData) (h : HasL K N H vs ds) : HasL K N H (DLG.sortP (vs.zip ps)) (DLG.sortP (ds.zip ps)) := by
  have hl : vs.length = ds.length := h.length
  obtain ⟨T, h1, h2, h3⟩ : ∃ T : List (V × Dv × PyData), vs.zip ps = T.map (fun t => (t.1, t.2.2)) ∧ ds.zip ps = T.map (fun t => t.2) ∧ ∀ t, t ∈ T → Has K N H t.1 t.2.1 := ⟨_, zip_one hl, zip_two hl, h.zips ps⟩
  unfold DLG.sortP
  rw [h1, h2]
  rw [← List.map_mergeSort (r := PySem.W.dataLe false fun t : V × Dv × PyData => t.2.2) (f := fun t => (t.1, t.2.2)) (fun _ _ _ _ => rfl)]
  rw [← List.map_mergeSort (r := PySem.W.dataLe false fun t : V × Dv × PyData => t.2.2) (f := fun t => t.2) (fun _ _ _ _ => rfl)]
  rw [List.map_map, List.map_map]
  refine HasL.ofMem _ fun t ht => ?_
  exact h3 t ((List.mergeSort_perm _ _).mem_iff.mp ht)
end
section
variable {X : Cx} {x : Str} {p pos : Pos} {e : Expr} {es : List Expr} {t : TA} {wa : WAB} {r : List V → Hp → VK → Prop} {rf : RDF}
end
end DL

/-! tuples whose object is known: index -/
namespace DLG
open PySem L2
section
variable {X : Cx} {es : List Expr} {t : TA} {pos : Pos}
end
end DLG
namespace DL
open PySem L2
section
variable {K : PySem.W.Frag}
end
section
variable {X : Cx} {es : List Expr} {t : TA} {wa : WA} {pos apos : Pos} {e o : Expr} {te to : TE} {we : WE} {wo : WE} {wb : WB}
end
end DL

/-! lists or tuples walked, texts in order, isinstance of several classes -/
namespace DLG
open PySem L2
end DLG
namespace DL
open PySem L2
section
variable {K : PySem.W.Frag}
end
/-! ### texts in order -/
/-! ### isinstance(x, (list, tuple)) -/
section
variable {X : Cx} {x : Str} {p pos p1 p2 p3 : Pos} {e : Expr} {te : TE} {we : WB} {kk : Nat}
end
end DL

/-! dict comprehensions with texts as keys; len of a new dict -/
namespace DL
open PySem L2
section
variable {K : PySem.W.Frag}
end
section
variable {X : Cx} {tt : TT} {wt : WT}
variable {kx vx tg iter : Expr} {ifs : List Expr} {scope : Scope} {own : List (Str × Nat)} {pos spos py : Pos} {wi : TI} {w : WI} {g : TG} {tgt : Tgt} {is : List Nat} {tk tv : TE} {wk wv : WE} {y : Str}
end
/-! ### len of a new dict -/
end DL

/-! zip of a tuple and a list -/
namespace DLG
open PySem PySem.Spec PyProof.Rows L2
end DLG
namespace DL
open PySem L2
section
variable {K : PySem.W.Frag}
end
end DL

/-! a new list of new lists, as it stands in the world -/
namespace DL
open PySem L2
end DL

/-! calls by keywords in any order; enumerate over a list of things -/
namespace DLG
open PySem PySem.Spec PyProof.Rows L2
section
variable {X : Cx} {CX : CXT} {k : Nat} {f C : Addr} {fd : FuncData} {ps ks : List Str} {sp : Sp} {E : XK} {m : Str} {apos pos : Pos} {o : Expr} {kws : List Keyword} {ta : TE} {tk : TA} {g : List Value → List Value → List Value} {gV : List V → List V → List V}
end
end DLG
namespace DL
open PySem L2 PySem.Spec PyProof.Rows
/-! ### for i, x in enumerate(xs), xs a list of things -/
end DL

/-! readings: enumerate over a list of things; its list set -/
namespace DL
open PySem L2
section
variable {P : Program} {w : World} {K : PySem.W.Frag} {mg : Str → Option Value} {base : Heap}
end
end DL

/-! a field wherever it stands; dict comprehensions over unlike texts -/
namespace DL
open PySem L2
section
variable {K : PySem.W.Frag}
end
section
variable {X : Cx} {C : Addr} {f : Str} {pos : Pos} {e : Expr} {te : TE} {we : WE}
end
end DL

/-! zones: rows, what the methods compute, the draws (plain) -/
namespace My
open PySem L2 DL
def FAR : Int := 1000000000000000000000000000000000000000000000000000000000000
def sq (m : Nat) (rs : List (List Dv)) : Prop := rs.length = m ∧ ∀ r, r ∈ rs → r.length = m
theorem sq.at_ {m : Nat} {rs : List (List Dv)} (h : sq m rs) {i : Nat} (hi : i < m) : ∃ r, rs[i]? = some r ∧ rs.getD i [] = r ∧ r.length = m := by
  have hl : i < rs.length := by rw [h.1]; exact hi
  refine ⟨rs[i], List.getElem?_eq_getElem hl, ?_, h.2 _ (List.getElem_mem hl)⟩
  rw [List.getD_eq_getElem?_getD, List.getElem?_eq_getElem hl]
  rfl
theorem sq.set {m : Nat} {rs : List (List Dv)} (h : sq m rs) {i : Nat} {r : List Dv} (hr : r.length = m) : sq m (rs.set i r) := by
  refine ⟨by rw [List.length_set]; exact h.1, fun q hq => ?_⟩
  rcases List.mem_or_eq_of_mem_set hq with hq | rfl
  · exact h.2 q hq
  · exact hr
def sqI (m : Nat) (rs : List (List Int)) : Prop := rs.length = m ∧ ∀ r, r ∈ rs → r.length = m
def cellI (rs : List (List Int)) (i j : Nat) : Int := (rs.getD i []).getD j 0
def narR (rs : List (List Int)) (a s : Nat) (m : Int) : List (List Int) := rs.map fun row => if FAR ≤ row.getD a 0 then row else List.zipWith (fun known step => if step < FAR then mn known (row.getD a 0 + m + step) else known) row (rs.getD s [])
def nar (rs : List (List Int)) (a s : Nat) (m : Int) : Option (List (List Int)) := if cellI rs a s ≤ m then some rs else if m + cellI rs s a < 0 then none else some (narR rs a s m)
theorem sqI.row {m : Nat} {rs : List (List Int)} (h : sqI m rs) {i : Nat} (hi : i < m) : (rs.getD i []).length = m := by
  have hl : i < rs.length := by rw [h.1]; exact hi
  rw [List.getD_eq_getElem?_getD, List.getElem?_eq_getElem hl]
  exact h.2 _ (List.getElem_mem hl)
theorem sqI.nar {k : Nat} {rs q : List (List Int)} {a s : Nat} {m : Int} (h : sqI k rs) (hs : s < k) (e : My.nar rs a s m = some q) : sqI k q := by
  unfold My.nar at e
  split at e
  · cases e
    exact h
  · split at e
    · cases e
    · cases e
      unfold narR
      refine ⟨by rw [List.length_map]; exact h.1, fun r hr => ?_⟩
      obtain ⟨x, hx, rfl⟩ := List.mem_map.mp hr
      split
      · exact h.2 x hx
      · rw [List.length_zipWith, h.2 x hx, h.row hs, Nat.min_self]
def pinS (o : Option (List (List Int))) (t : Nat × Nat × Int) : Option (List (List Int)) := o.bind fun rs => nar rs t.1 t.2.1 t.2.2
def pin (o : Option (List (List Int))) (ts : List (Nat × Nat × Int)) : Option (List (List Int)) := ts.foldl pinS o
theorem pin_none : ∀ ts, pin none ts = none
  | [] => rfl
  | _ :: ts => pin_none ts
theorem sqI.set {m : Nat} {rs : List (List Int)} (h : sqI m rs) {i : Nat} {r : List Int} (hr : r.length = m) : sqI m (rs.set i r) := by
  refine ⟨by rw [List.length_set]; exact h.1, fun q hq => ?_⟩
  rcases List.mem_or_eq_of_mem_set hq with hq | rfl
  · exact h.2 q hq
  · exact hr
def limD (t : Str × Str × Int) : Dv := .tup [.str t.1, .str t.2.1, .int t.2.2]
/-- the words that the laws use: those drawn, and "b" -/
def six : List Str := ["mark", "row", "wait", "a", "log", "b", "c", "d", "e", "lie", "all", "x"]
structure wok (ws : List Str) : Prop where
  sub : ∀ w, w ∈ ws → w ∈ six
  nd : ws.Nodup
  lo : 1 ≤ ws.length
  hi : ws.length ≤ 5
def nws (ws : List Str) : List Str := "now" :: ws
def zok (ws : List Str) (o : Option (List (List Int))) : Prop := wok ws ∧ ∀ rs, o = some rs → sqI (ws.length + 1) rs
def limOk (ws : List Str) (t : Str × Str × Int) : Prop := t.1 ∈ nws ws ∧ t.2.1 ∈ nws ws ∧ t.1 ≠ t.2.1
def limsOk (ws : List Str) (ls : List (Str × Str × Int)) : Prop := ls.length ≤ 100 ∧ ∀ t, t ∈ ls → limOk ws t
def plT (ws : List Str) (t : Str × Str × Int) : Nat × Nat × Int := ((nws ws).idxOf t.1, (nws ws).idxOf t.2.1, t.2.2)
def stepI (f : List (List Int)) (k : Nat) : List (List Int) := (f.set k ((f.getD k []).set k 0)).set 0 (((f.set k ((f.getD k []).set k 0)).getD 0 []).set k 0)
def wideI (n : Nat) : List (List Int) := (List.range (n + 1)).foldl stepI (List.replicate (n + 1) (List.replicate (n + 1) FAR))
theorem step_sq {m : Nat} {f : List (List Int)} (h : sqI m f) {k : Nat} (hk : k < m) : sqI m (stepI f k) := by
  have s1 : sqI m (f.set k ((f.getD k []).set k 0)) := h.set (by rw [List.length_set]; exact h.row hk)
  unfold stepI
  exact s1.set (by rw [List.length_set]; exact s1.row (by omega))
theorem wide_sq (n : Nat) : sqI (n + 1) (wideI n) := by
  have key : ∀ (l : List Nat) (f : List (List Int)), (∀ k, k ∈ l → k < n + 1) → sqI (n + 1) f → sqI (n + 1) (l.foldl stepI f) := by
    intro l
    induction l with
    | nil => exact fun f _ h => h
    | cons k l ih => exact fun f hl h => ih _ (fun x hx => hl x (List.mem_cons_of_mem _ hx)) (step_sq h (hl k List.mem_cons_self))
  refine key _ _ (fun k hk => List.mem_range.mp hk) ⟨List.length_replicate, fun r hr => ?_⟩
  rw [List.eq_of_mem_replicate hr, List.length_replicate]
def initR (ws : List Str) (ls : List (Str × Str × Int)) : Option (List (List Int)) := pin (some (wideI ws.length)) (ls.map (plT ws))
theorem idx_lt {ws : List Str} {a : Str} (h : a ∈ nws ws) : (nws ws).idxOf a < ws.length + 1 := by
  have := List.idxOf_lt_length_of_mem h
  exact this
theorem zok.row {ws : List Str} {o : Option (List (List Int))} (h : zok ws o) : ws.length + 1 ≤ 10 := by
  have := h.1.hi
  omega

/-! the plain law: rows stay square, pins never grow them -/
def leR (k : Nat) (q rs : List (List Int)) : Prop := ∀ i j, i < k → j < k → cellI q i j ≤ cellI rs i j
theorem mn_le (a b : Int) : mn a b ≤ a := by
  unfold mn
  split <;> omega
theorem getD_mapR (f : List Int → List Int) (l : List (List Int)) {i : Nat} (h : i < l.length) : (l.map f).getD i [] = f (l.getD i []) := by
  rw [List.getD_eq_getElem?_getD, List.getD_eq_getElem?_getD, List.getElem?_map, List.getElem?_eq_getElem h]
  rfl
theorem getD_zipR (f : Int → Int → Int) {r q : List Int} {j : Nat} (h1 : j < r.length) (h2 : j < q.length) : (List.zipWith f r q).getD j 0 = f (r.getD j 0) (q.getD j 0) := by
  simp [List.getD_eq_getElem?_getD, List.getElem?_zipWith, List.getElem?_eq_getElem h1, List.getElem?_eq_getElem h2]
theorem nar_le {k : Nat} {rs q : List (List Int)} {a s : Nat} {m : Int} (h : sqI k rs) (hs : s < k) (e : nar rs a s m = some q) : leR k q rs := by
  unfold nar at e
  split at e
  · cases e
    exact fun _ _ _ _ => Int.le_refl _
  · split at e
    · cases e
    · cases e
      intro i j hi hj
      have hil : i < rs.length := by rw [h.1]; exact hi
      have hr := h.row hi
      have hq := h.row hs
      unfold cellI narR
      rw [getD_mapR _ _ hil]
      generalize rs.getD i [] = row at hr
      generalize rs.getD s [] = row2 at hq
      split
      · exact Int.le_refl _
      · rw [getD_zipR _ (by omega) (by omega)]
        split
        · exact mn_le _ _
        · exact Int.le_refl _
theorem pin_le {k : Nat} {w0 : List (List Int)} : ∀ {ts : List (Nat × Nat × Int)} {o : Option (List (List Int))}, (∀ t, t ∈ ts → t.1 < k ∧ t.2.1 < k) → (∀ rs, o = some rs → sqI k rs ∧ leR k rs w0) → ∀ rs, pin o ts = some rs → leR k rs w0
  | [], o, _, h => fun rs e => (h rs e).2
  | t :: ts, o, ht, h => by
    refine pin_le (ts := ts) (o := pinS o t) (fun u hu => ht u (List.mem_cons_of_mem _ hu)) fun rs e => ?_
    cases o with
    | none => cases e
    | some q =>
      obtain ⟨h1, h2⟩ := h q rfl
      have hs := (ht t List.mem_cons_self).2
      have h3 := nar_le h1 hs e
      exact ⟨h1.nar hs e, fun i j hi hj => Int.le_trans (h3 i j hi hj) (h2 i j hi hj)⟩
theorem pl_lt {ws : List Str} {ls : List (Str × Str × Int)} (h : limsOk ws ls) : ∀ t, t ∈ ls.map (plT ws) → t.1 < ws.length + 1 ∧ t.2.1 < ws.length + 1 := fun t ht => by
  obtain ⟨u, hu, rfl⟩ := List.mem_map.mp ht
  obtain ⟨h1, h2, _⟩ := h.2 u hu
  exact ⟨idx_lt h1, idx_lt h2⟩
end My

/-! zones: closed rows and their points (plain) -/
namespace My
open PySem L2 DL
theorem FAR_def : FAR = 1000000000000000000000000000000000000000000000000000000000000 := rfl
structure Clo (k : Nat) (B : Int) (rs : List (List Int)) : Prop where
  sq : sqI k rs
  dg : ∀ i, i < k → cellI rs i i = 0
  tr : ∀ i j l, i < k → j < k → l < k → cellI rs i j < FAR → cellI rs j l < FAR → cellI rs i l ≤ cellI rs i j + cellI rs j l
  bd : ∀ i j, i < k → j < k → cellI rs i j < FAR → -B ≤ cellI rs i j ∧ cellI rs i j ≤ B
  fr : ∀ i j, i < k → j < k → ¬ cellI rs i j < FAR → cellI rs i j = FAR
  z0 : ∀ j, j < k → cellI rs 0 j ≤ 0
def solR (k : Nat) (rs : List (List Int)) (p : Nat → Int) : Prop := ∀ i j, i < k → j < k → cellI rs i j < FAR → p i - p j ≤ cellI rs i j
theorem nar_cell {k : Nat} {rs : List (List Int)} {a s : Nat} {m : Int} (h : sqI k rs) (hs : s < k) {i j : Nat} (hi : i < k) (hj : j < k) :
    cellI (narR rs a s m) i j = if FAR ≤ cellI rs i a then cellI rs i j else if cellI rs s j < FAR then mn (cellI rs i j) (cellI rs i a + m + cellI rs s j) else cellI rs i j := by
  have hil : i < rs.length := by rw [h.1]; exact hi
  have hr := h.row hi
  have hq := h.row hs
  unfold cellI narR
  rw [getD_mapR _ _ hil]
  by_cases c : FAR ≤ (rs.getD i []).getD a 0
  · rw [if_pos c, if_pos c]
  · rw [if_neg c, if_neg c, getD_zipR _ (by omega) (by omega)]
theorem mn_cases (a b : Int) : (a ≤ b ∧ mn a b = a) ∨ (b < a ∧ mn a b = b) := by
  unfold mn
  split <;> omega
theorem Clo.nar {k : Nat} {B b : Int} {rs q : List (List Int)} {a s : Nat} {m : Int} (h : Clo k B rs) (ha : a < k) (hs : s < k) (hB : 0 ≤ B) (hm : -b ≤ m ∧ m ≤ b) (hF : 4 * (B + b) < FAR) (e : My.nar rs a s m = some q) :
    Clo k (2 * B + b) q ∧ ∀ p : Nat → Int, solR k q p ↔ solR k rs p ∧ p a - p s ≤ m := by
  have hb : 0 ≤ b := by omega
  unfold My.nar at e
  by_cases c1 : cellI rs a s ≤ m
  · rw [if_pos c1] at e
    cases e
    refine ⟨⟨h.sq, h.dg, h.tr, fun i j hi hj hf => ?_, h.fr, h.z0⟩, fun p => ⟨fun g => ⟨g, ?_⟩, fun g => g.1⟩⟩
    · have := h.bd i j hi hj hf
      omega
    · have := g a s ha hs (by omega)
      omega
  rw [if_neg c1] at e
  by_cases c2 : m + cellI rs s a < 0
  · rw [if_pos c2] at e
    cases e
  rw [if_neg c2] at e
  cases e
  have cel := fun i j (hi : i < k) (hj : j < k) => nar_cell (a := a) (m := m) h.sq hs hi hj
  have dga := h.dg a ha
  have dgs := h.dg s hs
  -- what a new entry is
  have new : ∀ i j, i < k → j < k → (cellI (narR rs a s m) i j = cellI rs i j ∧ (cellI rs i a < FAR → cellI rs s j < FAR → cellI rs i j ≤ cellI rs i a + m + cellI rs s j)) ∨
      (cellI rs i a < FAR ∧ cellI rs s j < FAR ∧ cellI (narR rs a s m) i j = cellI rs i a + m + cellI rs s j ∧ cellI rs i a + m + cellI rs s j < cellI rs i j) := by
    intro i j hi hj
    rw [cel i j hi hj]
    by_cases c3 : FAR ≤ cellI rs i a
    · rw [if_pos c3]
      exact .inl ⟨rfl, fun g => by omega⟩
    · rw [if_neg c3]
      by_cases c4 : cellI rs s j < FAR
      · rw [if_pos c4]
        rcases mn_cases (cellI rs i j) (cellI rs i a + m + cellI rs s j) with ⟨g1, g2⟩ | ⟨g1, g2⟩
        · exact .inl ⟨g2, fun _ _ => g1⟩
        · exact .inr ⟨by omega, c4, g2, g1⟩
      · rw [if_neg c4]
        exact .inl ⟨rfl, fun _ g => absurd g c4⟩
  have bd := h.bd
  refine ⟨⟨?_, ?_, ?_, ?_, ?_, ?_⟩, ?_⟩
  · exact h.sq.nar hs (m := m) (a := a) (by unfold My.nar; rw [if_neg c1, if_neg c2])
  · intro i hi
    have d := h.dg i hi
    rcases new i i hi hi with ⟨g, _⟩ | ⟨g1, g2, g3, g4⟩
    · rw [g, d]
    · have t := h.tr s i a hs hi ha g2 g1
      omega
  · intro i j l hi hj hl f1 f2
    -- the four ways
    have upper : ∀ x, cellI rs i a < FAR → cellI rs s l < FAR → cellI rs i a + m + cellI rs s l ≤ x → cellI (narR rs a s m) i l ≤ x := by
      intro x g1 g2 g3
      rcases new i l hi hl with ⟨e1, e2⟩ | ⟨e1, e2, e3, e4⟩
      · have := e2 g1 g2
        omega
      · omega
    have low : ∀ x, cellI rs i l ≤ x → cellI (narR rs a s m) i l ≤ x := by
      intro x g
      rcases new i l hi hl with ⟨e1, e2⟩ | ⟨e1, e2, e3, e4⟩
      · omega
      · omega
    rcases new i j hi hj with ⟨e1, e2⟩ | ⟨e1, e2, e3, e4⟩
    · rcases new j l hj hl with ⟨k1, k2⟩ | ⟨k1, k2, k3, k4⟩
      · rw [e1, k1]
        rw [e1] at f1
        rw [k1] at f2
        exact low _ (h.tr i j l hi hj hl f1 f2)
      · rw [e1] at f1
        have t := h.tr i j a hi hj ha f1 k1
        have b1 := bd i j hi hj f1
        have b2 := bd j a hj ha k1
        refine upper _ (by omega) k2 ?_
        omega
    · rcases new j l hj hl with ⟨k1, k2⟩ | ⟨k1, k2, k3, k4⟩
      · rw [k1] at f2
        have t := h.tr s j l hs hj hl e2 f2
        have b1 := bd s j hs hj e2
        have b2 := bd j l hj hl f2
        refine upper _ e1 (by omega) ?_
        omega
      · have t := h.tr s j a hs hj ha e2 k1
        have b1 := bd s j hs hj e2
        have b2 := bd j a hj ha k1
        refine upper _ e1 k2 ?_
        omega
  · intro i j hi hj f
    rcases new i j hi hj with ⟨e1, e2⟩ | ⟨e1, e2, e3, e4⟩
    · rw [e1] at f ⊢
      have := bd i j hi hj f
      omega
    · have b1 := bd i a hi ha e1
      have b2 := bd s j hs hj e2
      omega
  · intro i j hi hj f
    rcases new i j hi hj with ⟨e1, e2⟩ | ⟨e1, e2, e3, e4⟩
    · rw [e1] at f ⊢
      exact h.fr i j hi hj f
    · exfalso
      have b1 := bd i a hi ha e1
      have b2 := bd s j hs hj e2
      omega
  · intro j hj
    have k0 : 0 < k := by omega
    have z := h.z0 j hj
    rcases new 0 j k0 hj with ⟨e1, e2⟩ | ⟨e1, e2, e3, e4⟩
    · omega
    · omega
  · intro p
    refine ⟨fun g => ⟨fun i j hi hj f => ?_, ?_⟩, fun ⟨g1, g2⟩ i j hi hj f => ?_⟩
    · rcases new i j hi hj with ⟨e1, e2⟩ | ⟨e1, e2, e3, e4⟩
      · have := g i j hi hj (by omega)
        omega
      · have b1 := bd i a hi ha e1
        have b2 := bd s j hs hj e2
        have := g i j hi hj (by omega)
        omega
    · rcases new a s ha hs with ⟨e1, e2⟩ | ⟨e1, e2, e3, e4⟩
      · have := e2 (by omega) (by omega)
        omega
      · have := g a s ha hs (by omega)
        omega
    · rcases new i j hi hj with ⟨e1, e2⟩ | ⟨e1, e2, e3, e4⟩
      · rw [e1] at f ⊢
        exact g1 i j hi hj f
      · have t1 := g1 i a hi ha e1
        have t2 := g1 s j hs hj e2
        omega
theorem Clo.nar_no {k : Nat} {B b : Int} {rs : List (List Int)} {a s : Nat} {m : Int} (h : Clo k B rs) (ha : a < k) (hs : s < k) (hm : -b ≤ m ∧ m ≤ b) (hF : b < FAR) (e : My.nar rs a s m = none) (p : Nat → Int) (g : solR k rs p) : ¬ p a - p s ≤ m := by
  unfold My.nar at e
  by_cases c1 : cellI rs a s ≤ m
  · rw [if_pos c1] at e
    cases e
  rw [if_neg c1] at e
  by_cases c2 : m + cellI rs s a < 0
  · have := g s a hs ha (by omega)
    omega
  · rw [if_neg c2] at e
    cases e
/-! ### many limits -/
def keeps (ts : List (Nat × Nat × Int)) (p : Nat → Int) : Prop := ∀ t, t ∈ ts → p t.1 - p t.2.1 ≤ t.2.2
theorem one_pow2 : ∀ n : Nat, (1 : Int) ≤ 2 ^ n
  | 0 => by decide
  | n + 1 => by
    have := one_pow2 n
    rw [Int.pow_succ]
    omega
theorem pin_some {k : Nat} {b : Int} : ∀ {ts : List (Nat × Nat × Int)} {B : Int} {rs q : List (List Int)}, Clo k B rs → 0 ≤ B → (∀ t, t ∈ ts → (t.1 < k ∧ t.2.1 < k) ∧ -b ≤ t.2.2 ∧ t.2.2 ≤ b) → 4 * ((B + b) * 2 ^ ts.length) < FAR → pin (some rs) ts = some q →
    (∃ B', 0 ≤ B' ∧ B' + b ≤ (B + b) * 2 ^ ts.length ∧ Clo k B' q) ∧ ∀ p : Nat → Int, solR k q p ↔ solR k rs p ∧ keeps ts p
  | [], B, rs, q, h, hB, _, _, e => by
    cases e
    refine ⟨⟨B, hB, by simp, h⟩, fun p => ⟨fun g => ⟨g, fun t ht => nomatch ht⟩, fun g => g.1⟩⟩
  | t :: ts, B, rs, q, h, hB, ht, hF, e => by
    obtain ⟨⟨ha, hs⟩, hm⟩ := ht t List.mem_cons_self
    have hb : 0 ≤ b := by omega
    have p1 : (1 : Int) ≤ 2 ^ ts.length := one_pow2 _
    have e2 : (2 : Int) ^ (t :: ts).length = 2 * 2 ^ ts.length := by rw [List.length_cons, Int.pow_succ, Int.mul_comm]
    rw [e2] at hF
    have hF1 : 4 * (B + b) < FAR := by
      have : (B + b) * 1 ≤ (B + b) * (2 * 2 ^ ts.length) := Int.mul_le_mul_of_nonneg_left (by omega) (by omega)
      omega
    have e : pin (My.nar rs t.1 t.2.1 t.2.2) ts = some q := e
    cases en : My.nar rs t.1 t.2.1 t.2.2 with
    | none =>
      rw [en, pin_none] at e
      cases e
    | some r =>
      rw [en] at e
      obtain ⟨h1, h2⟩ := h.nar ha hs hB hm hF1 en
      have er : (2 * B + b + b) * 2 ^ ts.length = (B + b) * (2 * 2 ^ ts.length) := by
        rw [← Int.mul_assoc]
        congr 1
        omega
      obtain ⟨⟨B', b1, b2, b3⟩, h4⟩ := pin_some h1 (by omega) (fun u hu => ht u (List.mem_cons_of_mem _ hu)) (by rw [er]; exact hF) e
      refine ⟨⟨B', b1, by rw [e2, ← er]; exact b2, b3⟩, fun p => ?_⟩
      rw [h4, h2]
      refine ⟨fun ⟨⟨g1, g2⟩, g3⟩ => ⟨g1, fun u hu => ?_⟩, fun ⟨g1, g2⟩ => ⟨⟨g1, g2 t List.mem_cons_self⟩, fun u hu => g2 u (List.mem_cons_of_mem _ hu)⟩⟩
      rcases List.mem_cons.mp hu with rfl | hu
      · exact g2
      · exact g3 u hu
theorem pin_no {k : Nat} {b : Int} : ∀ {ts : List (Nat × Nat × Int)} {B : Int} {rs : List (List Int)}, Clo k B rs → 0 ≤ B → (∀ t, t ∈ ts → (t.1 < k ∧ t.2.1 < k) ∧ -b ≤ t.2.2 ∧ t.2.2 ≤ b) → 4 * ((B + b) * 2 ^ ts.length) < FAR → pin (some rs) ts = none →
    ∀ p : Nat → Int, solR k rs p → ¬ keeps ts p
  | [], B, rs, h, hB, _, _, e => by cases e
  | t :: ts, B, rs, h, hB, ht, hF, e => by
    intro p g hk
    obtain ⟨⟨ha, hs⟩, hm⟩ := ht t List.mem_cons_self
    have hb : 0 ≤ b := by omega
    have p1 : (1 : Int) ≤ 2 ^ ts.length := one_pow2 _
    have e2 : (2 : Int) ^ (t :: ts).length = 2 * 2 ^ ts.length := by rw [List.length_cons, Int.pow_succ, Int.mul_comm]
    rw [e2] at hF
    have hF1 : 4 * (B + b) < FAR := by
      have : (B + b) * 1 ≤ (B + b) * (2 * 2 ^ ts.length) := Int.mul_le_mul_of_nonneg_left (by omega) (by omega)
      omega
    have e : pin (My.nar rs t.1 t.2.1 t.2.2) ts = none := e
    cases en : My.nar rs t.1 t.2.1 t.2.2 with
    | none => exact h.nar_no ha hs hm (by omega) en p g (hk t List.mem_cons_self)
    | some r =>
      rw [en] at e
      obtain ⟨h1, h2⟩ := h.nar ha hs hB hm hF1 en
      have er : (2 * B + b + b) * 2 ^ ts.length = (B + b) * (2 * 2 ^ ts.length) := by
        rw [← Int.mul_assoc]
        congr 1
        omega
      exact pin_no h1 (by omega) (fun u hu => ht u (List.mem_cons_of_mem _ hu)) (by rw [er]; exact hF) e p ((h2 p).mpr ⟨g, hk t List.mem_cons_self⟩) fun u hu => hk u (List.mem_cons_of_mem _ hu)
/-! ### rows of no limits -/
theorem cell_set {k : Nat} {f : List (List Int)} (h : sqI k f) {a c i j : Nat} {v : Int} (ha : a < k) (hc : c < k) : cellI (f.set a ((f.getD a []).set c v)) i j = if i = a ∧ j = c then v else cellI f i j := by
  have hal : a < f.length := by rw [h.1]; exact ha
  have hr := h.row ha
  unfold cellI
  by_cases q : i = a
  · subst q
    have e : (f.set i ((f.getD i []).set c v)).getD i [] = (f.getD i []).set c v := by
      rw [List.getD_eq_getElem?_getD, List.getElem?_set_self hal]
      rfl
    rw [e]
    generalize f.getD i [] = r at *
    by_cases q2 : j = c
    · subst q2
      rw [if_pos ⟨rfl, rfl⟩, List.getD_eq_getElem?_getD, List.getElem?_set_self (by omega)]
      rfl
    · rw [if_neg (fun g => q2 g.2), List.getD_eq_getElem?_getD, List.getElem?_set_ne (fun g => q2 g.symm), List.getD_eq_getElem?_getD]
  · rw [if_neg (fun g => q g.1)]
    have e : (f.set a ((f.getD a []).set c v)).getD i [] = f.getD i [] := by
      rw [List.getD_eq_getElem?_getD, List.getElem?_set_ne (fun g => q g.symm), List.getD_eq_getElem?_getD]
    rw [e]
theorem step_cell {k : Nat} {f : List (List Int)} (h : sqI k f) {c i j : Nat} (hc : c < k) : cellI (stepI f c) i j = if (i = c ∨ i = 0) ∧ j = c then 0 else cellI f i j := by
  have s1 : sqI k (f.set c ((f.getD c []).set c 0)) := h.set (by rw [List.length_set]; exact h.row hc)
  unfold stepI
  rw [cell_set s1 (by omega) hc, cell_set h hc hc]
  by_cases q1 : i = 0 <;> by_cases q2 : j = c <;> by_cases q3 : i = c <;> simp [q1, q2, q3]
theorem wide_cell {n i j : Nat} (hi : i < n + 1) (hj : j < n + 1) : cellI (wideI n) i j = if i = j ∨ i = 0 then 0 else FAR := by
  have key : ∀ (l : List Nat) (f : List (List Int)), (∀ c, c ∈ l → c < n + 1) → sqI (n + 1) f → cellI (l.foldl stepI f) i j = if (i = j ∨ i = 0) ∧ j ∈ l then 0 else cellI f i j := by
    intro l
    induction l with
    | nil =>
      intro f _ _
      simp
    | cons c l ih =>
      intro f hl hf
      have hc := hl c List.mem_cons_self
      rw [List.foldl_cons, ih _ (fun x hx => hl x (List.mem_cons_of_mem _ hx)) (step_sq hf hc), step_cell hf hc]
      by_cases q1 : j = c
      · subst q1
        by_cases q2 : i = j ∨ i = 0
        · simp [q2]
        · simp [q2]
      · by_cases q2 : (i = j ∨ i = 0) ∧ j ∈ l
        · rw [if_pos q2, if_pos ⟨q2.1, List.mem_cons_of_mem _ q2.2⟩]
        · rw [if_neg q2, if_neg (fun g => q1 g.2), if_neg (fun g => q2 ⟨g.1, (List.mem_cons.mp g.2).resolve_left q1⟩)]
  unfold wideI
  have s0 : sqI (n + 1) (List.replicate (n + 1) (List.replicate (n + 1) FAR)) := ⟨List.length_replicate, fun r hr => by rw [List.eq_of_mem_replicate hr, List.length_replicate]⟩
  rw [key _ _ (fun c hc => List.mem_range.mp hc) s0]
  have e : cellI (List.replicate (n + 1) (List.replicate (n + 1) FAR)) i j = FAR := by
    have e0 : (List.replicate (n + 1) (List.replicate (n + 1) FAR)).getD i [] = List.replicate (n + 1) FAR := by
      rw [List.getD_eq_getElem?_getD, List.getElem?_replicate, if_pos hi]
      rfl
    unfold cellI
    rw [e0, List.getD_eq_getElem?_getD, List.getElem?_replicate, if_pos hj]
    rfl
  rw [e]
  by_cases q : i = j ∨ i = 0
  · rw [if_pos ⟨q, List.mem_range.mpr hj⟩, if_pos q]
  · rw [if_neg (fun g => q g.1), if_neg q]
theorem wide_clo (n : Nat) : Clo (n + 1) 0 (wideI n) := by
  have F := FAR_def
  refine ⟨wide_sq n, fun i hi => ?_, fun i j l hi hj hl f1 f2 => ?_, fun i j hi hj f => ?_, fun i j hi hj f => ?_, fun j hj => ?_⟩
  · rw [wide_cell hi hi, if_pos (.inl rfl)]
    <;> rfl
  · rw [wide_cell hi hj] at f1 ⊢
    rw [wide_cell hj hl] at f2 ⊢
    rw [wide_cell hi hl]
    by_cases q1 : i = j ∨ i = 0
    · rw [if_pos q1] at f1 ⊢
      by_cases q2 : j = l ∨ j = 0
      · rw [if_pos q2]
        rw [if_pos (by omega)]
        decide
      · rw [if_neg q2] at f2
        omega
    · rw [if_neg q1] at f1
      omega
  · rw [wide_cell hi hj] at f ⊢
    by_cases q1 : i = j ∨ i = 0
    · rw [if_pos q1]
      decide
    · rw [if_neg q1] at f
      omega
  · rw [wide_cell hi hj] at f ⊢
    by_cases q1 : i = j ∨ i = 0
    · rw [if_pos q1] at f
      omega
    · rw [if_neg q1]
  · rw [wide_cell (by omega) hj, if_pos (.inr rfl)]
    decide
theorem wide_sol {n : Nat} {p : Nat → Int} (h0 : p 0 = 0) : solR (n + 1) (wideI n) p ↔ ∀ j, j < n + 1 → 0 ≤ p j := by
  have F := FAR_def
  refine ⟨fun g j hj => ?_, fun g i j hi hj f => ?_⟩
  · have := g 0 j (by omega) hj (by rw [wide_cell (by omega) hj, if_pos (.inr rfl)]; omega)
    rw [wide_cell (by omega) hj, if_pos (.inr rfl), h0] at this
    omega
  · rw [wide_cell hi hj] at f ⊢
    by_cases q1 : i = j ∨ i = 0
    · rw [if_pos q1]
      rcases q1 with rfl | rfl
      · omega
      · have := g j hj
        omega
    · rw [if_neg q1] at f
      omega
/-! ### points that come to the limits -/
theorem Clo.fin0 {k : Nat} {B : Int} {rs : List (List Int)} (h : Clo k B rs) {j : Nat} (hj : j < k) : cellI rs 0 j < FAR := by
  have := h.z0 j hj
  have F := FAR_def
  omega
theorem Clo.least {k : Nat} {B : Int} {rs : List (List Int)} (h : Clo k B rs) : solR k rs fun l => -(cellI rs 0 l) := by
  intro i j hi hj f
  have t := h.tr 0 i j (by omega) hi hj (h.fin0 hi) f
  dsimp only
  omega
/-- the point that is farthest from j -/
theorem Clo.far {k : Nat} {B : Int} {rs : List (List Int)} (h : Clo k B rs) {j : Nat} (hj : j < k) (hf : ∀ l, l < k → cellI rs l j < FAR) : solR k rs fun l => cellI rs l j - cellI rs 0 j := by
  intro i l hi hl f
  have t := h.tr i l j hi hl hj f (hf l hl)
  dsimp only
  omega
/-- bounded rows with the same points are the same -/
theorem Clo.same {k : Nat} {B B' : Int} {rs qs : List (List Int)} (h : Clo k B rs) (h' : Clo k B' qs) (hf : ∀ i j, i < k → j < k → cellI rs i j < FAR) (hf' : ∀ i j, i < k → j < k → cellI qs i j < FAR) (e : ∀ p : Nat → Int, p 0 = 0 → (solR k rs p ↔ solR k qs p)) : rs = qs := by
  have le : ∀ {B B' : Int} {rs qs : List (List Int)}, Clo k B rs → Clo k B' qs → (∀ i j, i < k → j < k → cellI rs i j < FAR) → (∀ i j, i < k → j < k → cellI qs i j < FAR) → (∀ p : Nat → Int, p 0 = 0 → solR k rs p → solR k qs p) → ∀ i j, i < k → j < k → cellI rs i j ≤ cellI qs i j := by
    intro B B' rs qs h h' hf hf' e i j hi hj
    have g : (cellI rs i j - cellI rs 0 j) - (cellI rs j j - cellI rs 0 j) ≤ cellI qs i j := e (fun l => cellI rs l j - cellI rs 0 j) (by show cellI rs 0 j - cellI rs 0 j = 0; omega) (h.far hj fun l hl => hf l j hl hj) i j hi hj (hf' i j hi hj)
    have d := h.dg j hj
    omega
  refine List.ext_getElem (by rw [h.sq.1, h'.sq.1]) fun i h1 h2 => ?_
  have hi : i < k := by rw [← h.sq.1]; exact h1
  refine List.ext_getElem (by rw [h.sq.2 _ (List.getElem_mem h1), h'.sq.2 _ (List.getElem_mem h2)]) fun j h3 h4 => ?_
  have hj : j < k := by rw [← h.sq.2 _ (List.getElem_mem h1)]; exact h3
  have l1 := le h h' hf hf' (fun p p0 g => (e p p0).mp g) i j hi hj
  have l2 := le h' h hf' hf (fun p p0 g => (e p p0).mpr g) i j hi hj
  have c1 : cellI rs i j = rs[i][j] := by
    unfold cellI
    rw [List.getD_eq_getElem?_getD, List.getD_eq_getElem?_getD, List.getElem?_eq_getElem h1]
    show (rs[i][j]?).getD 0 = _
    rw [List.getElem?_eq_getElem h3]
    rfl
  have c2 : cellI qs i j = qs[i][j] := by
    unfold cellI
    rw [List.getD_eq_getElem?_getD, List.getD_eq_getElem?_getD, List.getElem?_eq_getElem h2]
    show (qs[i][j]?).getD 0 = _
    rw [List.getElem?_eq_getElem h4]
    rfl
  rw [← c1, ← c2]
  omega
end My

/-! tuple + tuple; a, b = a list; *e within a comprehension -/
namespace DL
open PySem L2
end DL

/-! zones: further defs (plain) -/
namespace My
open PySem L2 DL
end My

/-! zones: limits in their order (plain) -/
namespace My
open PySem L2 DL
end My

/-! zones: == of what they tell (plain) -/
namespace My
open PySem L2 DL
end My

/-! list(d.items()); x in xs, data of any depth -/
namespace DLG
open PySem PySem.Spec PyProof.Rows L2 LiI
end DLG
namespace DL
open PySem L2
def kD : Key → Dv
  | .inl i => .int i
  | .inr s => .str s
section
variable {K : PySem.W.Frag} {z : Av} {As : List (List Addr)} {W : WS} {H H' : Hp} {ow : Av}
theorem Ext.more (k : ∀ b o, H b = some o → H' b = some o) : ExtS As ow H As ow H' :=
  ⟨fun b u e n m => ⟨k b u e, n, m⟩, fun _ _ q => q, fun a q => by
    cases h : H a with
    | none => exact absurd h q
    | some o => rw [k a o h]; exact fun x => by cases x⟩
end
/-! ### x in xs -/
end DL

/-! zones: points by trial, drawn limits (plain) -/
namespace My
open PySem L2 DL
theorem now_no {ws : List Str} (h : wok ws) : ("now" : Str) ∉ ws := fun m => by
  have := h.sub _ m
  unfold six at this
  revert this
  decide +kernel
def ptsStep (top : Nat) (p : List Int) : List (List Int) := (List.range (top + 1)).map fun (v : Nat) => p ++ [Int.ofNat v]
def ptsN (top : Nat) : Nat → List (List Int)
  | 0 => [[]]
  | m + 1 => ((ptsN top m).map (ptsStep top)).flatten
def valP (ws : List Str) (pt : List Int) (w : Str) : Int := (0 :: pt).getD ((nws ws).idxOf w) 0
def keepB (ws : List Str) (pt : List Int) (t : Str × Str × Int) : Bool := decide (valP ws pt t.1 - valP ws pt t.2.1 ≤ t.2.2)
def keepsB (ws : List Str) (ls : List (Str × Str × Int)) (pt : List Int) : Bool := ls.all (keepB ws pt)
def smallL (ls : List (Str × Str × Int)) : Prop := ∀ t, t ∈ ls → -9 ≤ t.2.2 ∧ t.2.2 ≤ 9
theorem ptsN_len {top : Nat} : ∀ {m : Nat} {p : List Int}, p ∈ ptsN top m → p.length = m
  | 0, p, h => by
    rw [List.mem_singleton.mp h]
    rfl
  | m + 1, p, h => by
    obtain ⟨l, hl, hp⟩ := List.mem_flatten.mp h
    obtain ⟨q, hq, rfl⟩ := List.mem_map.mp hl
    obtain ⟨v, _, rfl⟩ := List.mem_map.mp hp
    rw [List.length_append, List.length_singleton, ptsN_len hq]
/-- which points are tried -/
theorem ptsN_mem {top : Nat} : ∀ {m : Nat} {p : List Int}, p ∈ ptsN top m ↔ p.length = m ∧ ∀ x, x ∈ p → 0 ≤ x ∧ x ≤ top
  | 0, p => by
    refine ⟨fun h => ?_, fun h => ?_⟩
    · rw [List.mem_singleton.mp h]
      exact ⟨rfl, fun x hx => nomatch hx⟩
    · rw [List.length_eq_zero_iff.mp h.1]
      exact List.mem_singleton.mpr rfl
  | m + 1, p => by
    refine ⟨fun h => ⟨ptsN_len h, ?_⟩, fun ⟨h1, h2⟩ => ?_⟩
    · obtain ⟨l, hl, hp⟩ := List.mem_flatten.mp h
      obtain ⟨q, hq, rfl⟩ := List.mem_map.mp hl
      obtain ⟨v, hv, rfl⟩ := List.mem_map.mp hp
      intro x hx
      rcases List.mem_append.mp hx with hx | hx
      · exact (ptsN_mem.mp hq).2 x hx
      · rw [List.mem_singleton.mp hx]
        have := List.mem_range.mp hv
        show 0 ≤ ((v : Nat) : Int) ∧ ((v : Nat) : Int) ≤ top
        omega
    · have hne : p ≠ [] := fun e => by
        rw [e] at h1
        cases h1
      have hp := List.dropLast_concat_getLast hne
      have hlast := h2 _ (List.getLast_mem hne)
      refine List.mem_flatten.mpr ⟨ptsStep top p.dropLast, List.mem_map.mpr ⟨p.dropLast, ptsN_mem.mpr ⟨by rw [List.length_dropLast, h1]; rfl, fun x hx => h2 x (List.dropLast_subset _ hx)⟩, rfl⟩, ?_⟩
      refine List.mem_map.mpr ⟨(p.getLast hne).toNat, List.mem_range.mpr (by omega), ?_⟩
      have e : Int.ofNat (p.getLast hne).toNat = p.getLast hne := by
        show (((p.getLast hne).toNat : Nat) : Int) = _
        omega
      rw [e]
      exact hp
/-! dicts -/
/-! specs -/
def insideL (ws : List Str) (ls : List (Str × Str × Int)) (top : Nat) : List (List Int) := (ptsN top ws.length).filter (keepsB ws ls)
end My

/-! zones: points and limits (plain) -/
namespace My
open PySem L2 DL
/-- a point as numbers by place, "now" first -/
def pf (p : List Int) : Nat → Int := fun i => (0 :: p).getD i 0
theorem pf0 (p : List Int) : pf p 0 = 0 := rfl
theorem keeps_b {ws : List Str} {ls : List (Str × Str × Int)} {p : List Int} : keepsB ws ls p = true ↔ keeps (ls.map (plT ws)) (pf p) := by
  unfold keepsB
  rw [List.all_eq_true]
  constructor
  · intro g t ht
    obtain ⟨u, hu, rfl⟩ := List.mem_map.mp ht
    exact of_decide_eq_true (g u hu)
  · intro g u hu
    exact decide_eq_true (g _ (List.mem_map.mpr ⟨u, hu, rfl⟩))
theorem pow2_le : ∀ {n m : Nat}, n ≤ m → (2 : Int) ^ n ≤ 2 ^ m := by
  intro n m h
  induction m with
  | zero =>
    have e : n = 0 := by omega
    subst e
    exact Int.le_refl _
  | succ m ih =>
    by_cases q : n ≤ m
    · have := ih q
      have p := one_pow2 m
      rw [Int.pow_succ]
      omega
    · have e : n = m + 1 := by omega
      subst e
      exact Int.le_refl _
theorem pl_ok {ws : List Str} {ls : List (Str × Str × Int)} (h : limsOk ws ls) (hs : smallL ls) : ∀ t, t ∈ ls.map (plT ws) → (t.1 < ws.length + 1 ∧ t.2.1 < ws.length + 1) ∧ -(9 : Int) ≤ t.2.2 ∧ t.2.2 ≤ 9 := fun t ht => by
  refine ⟨pl_lt h t ht, ?_⟩
  obtain ⟨u, hu, rfl⟩ := List.mem_map.mp ht
  exact hs u hu
theorem big20 {n : Nat} (h : n ≤ 40) : 4 * (((0 : Int) + 9) * 2 ^ n) < FAR := by
  have h1 := pow2_le (show n ≤ 40 by omega)
  have h2 : (2 : Int) ^ 40 = 1099511627776 := by decide
  rw [h2] at h1
  have F := FAR_def
  omega
/-- what the rows of limits tell -/
theorem init_sol {ws : List Str} {ls : List (Str × Str × Int)} {rs : List (List Int)} (h : limsOk ws ls) (hs : smallL ls) (hn : ls.length ≤ 40) (e : initR ws ls = some rs) :
    (∃ B, Clo (ws.length + 1) B rs) ∧ ∀ p : Nat → Int, p 0 = 0 → (solR (ws.length + 1) rs p ↔ (∀ j, j < ws.length + 1 → 0 ≤ p j) ∧ keeps (ls.map (plT ws)) p) := by
  obtain ⟨⟨B, _, _, h1⟩, h2⟩ := pin_some (b := 9) (wide_clo ws.length) (Int.le_refl _) (pl_ok h hs) (by rw [List.length_map]; exact big20 hn) e
  refine ⟨⟨B, h1⟩, fun p p0 => ?_⟩
  rw [h2 p, wide_sol p0]
theorem init_none {ws : List Str} {ls : List (Str × Str × Int)} (h : limsOk ws ls) (hs : smallL ls) (hn : ls.length ≤ 40) (e : initR ws ls = none) (p : Nat → Int) (p0 : p 0 = 0) (hp : ∀ j, j < ws.length + 1 → 0 ≤ p j) : ¬ keeps (ls.map (plT ws)) p :=
  pin_no (b := 9) (wide_clo ws.length) (Int.le_refl _) (pl_ok h hs) (by rw [List.length_map]; exact big20 hn) e p ((wide_sol p0).mpr hp)
/-- limits that tell an upper bound of each word -/
def boundL (ws : List Str) (ls : List (Str × Str × Int)) : Prop := ∀ w, w ∈ ws → (w, ("now" : Str), (5 : Int)) ∈ ls
theorem nar_m {k : Nat} {rs q : List (List Int)} {B : Int} {a s : Nat} {m : Int} (h : Clo k B rs) (ha : a < k) (hs : s < k) (e : nar rs a s m = some q) : cellI q a s ≤ m := by
  have F := FAR_def
  unfold nar at e
  split at e
  · cases e
    assumption
  · split at e
    · cases e
    · cases e
      have d1 := h.dg a ha
      have d2 := h.dg s hs
      rw [nar_cell h.sq hs ha hs, if_neg (by omega), if_pos (by omega)]
      rcases mn_cases (cellI rs a s) (cellI rs a a + m + cellI rs s s) with ⟨g1, g2⟩ | ⟨g1, g2⟩
      · omega
      · omega
theorem pin_m {k : Nat} {b : Int} : ∀ {ts : List (Nat × Nat × Int)} {B : Int} {rs q : List (List Int)}, Clo k B rs → 0 ≤ B → (∀ t, t ∈ ts → (t.1 < k ∧ t.2.1 < k) ∧ -b ≤ t.2.2 ∧ t.2.2 ≤ b) → 4 * ((B + b) * 2 ^ ts.length) < FAR → pin (some rs) ts = some q → ∀ t, t ∈ ts → cellI q t.1 t.2.1 ≤ t.2.2
  | [], _, _, _, _, _, _, _, _ => fun t ht => nomatch ht
  | t :: ts, B, rs, q, h, hB, ht, hF, e => by
    obtain ⟨⟨ha, hs⟩, hm⟩ := ht t List.mem_cons_self
    have hb : 0 ≤ b := by omega
    have p1 : (1 : Int) ≤ 2 ^ ts.length := one_pow2 _
    have e2 : (2 : Int) ^ (t :: ts).length = 2 * 2 ^ ts.length := by rw [List.length_cons, Int.pow_succ, Int.mul_comm]
    rw [e2] at hF
    have hF1 : 4 * (B + b) < FAR := by
      have : (B + b) * 1 ≤ (B + b) * (2 * 2 ^ ts.length) := Int.mul_le_mul_of_nonneg_left (by omega) (by omega)
      omega
    have e3 : pin (My.nar rs t.1 t.2.1 t.2.2) ts = some q := e
    cases en : My.nar rs t.1 t.2.1 t.2.2 with
    | none =>
      rw [en, pin_none] at e3
      cases e3
    | some r =>
      rw [en] at e3
      obtain ⟨h1, h2⟩ := h.nar ha hs hB hm hF1 en
      have er : (2 * B + b + b) * 2 ^ ts.length = (B + b) * (2 * 2 ^ ts.length) := by
        rw [← Int.mul_assoc]
        congr 1
        omega
      have ht' := fun u hu => ht u (List.mem_cons_of_mem _ hu)
      intro u hu
      rcases List.mem_cons.mp hu with rfl | hu
      · have l1 := nar_m h ha hs en
        have l2 := pin_le (w0 := r) (o := some r) (fun v hv => (ht' v hv).1) (fun rs' e' => by cases e'; exact ⟨h1.sq, fun _ _ _ _ => Int.le_refl _⟩) q e3 _ _ ha hs
        omega
      · exact pin_m h1 (by omega) ht' (by rw [er]; exact hF) e3 u hu
/-- all is bounded -/
theorem init_fin {ws : List Str} {ls : List (Str × Str × Int)} {rs : List (List Int)} (ok : wok ws) (h : limsOk ws ls) (hs : smallL ls) (hn : ls.length ≤ 40) (hb : boundL ws ls) (e : initR ws ls = some rs) : ∀ i j, i < ws.length + 1 → j < ws.length + 1 → cellI rs i j < FAR := by
  have F := FAR_def
  obtain ⟨⟨B, hc⟩, _⟩ := init_sol h hs hn e
  have m := pin_m (b := 9) (wide_clo ws.length) (Int.le_refl _) (pl_ok h hs) (by rw [List.length_map]; exact big20 hn) e
  have up : ∀ i, i < ws.length + 1 → cellI rs i 0 ≤ 5 := by
    intro i hi
    cases i with
    | zero =>
      have := hc.dg 0 hi
      omega
    | succ i =>
      have hiw : i < ws.length := by omega
      have nd : (nws ws).Nodup := List.nodup_cons.mpr ⟨now_no ok, ok.nd⟩
      have q := m _ (List.mem_map.mpr ⟨_, hb ws[i] (List.getElem_mem hiw), rfl⟩)
      have e1 : (nws ws).idxOf ws[i] = i + 1 := nd.idxOf_getElem (i + 1) (by show i + 1 < ws.length + 1; omega)
      have e0 : (nws ws).idxOf ("now" : Str) = 0 := List.idxOf_cons_self
      have q : cellI rs ((nws ws).idxOf ws[i]) ((nws ws).idxOf ("now" : Str)) ≤ 5 := q
      rw [e1, e0] at q
      exact q
  intro i j hi hj
  have t := hc.tr i 0 j hi (by omega) hj (by have := up i hi; omega) (hc.fin0 hj)
  have u := up i hi
  have z := hc.z0 j hj
  omega
end My

/-! zones: repr of what they tell (plain) -/
namespace My
open PySem L2 DL
theorem init_clo {ws : List Str} {ls : List (Str × Str × Int)} {rs : List (List Int)} (h : limsOk ws ls) (hs : smallL ls) (hn : ls.length ≤ 20) (e : initR ws ls = some rs) : ∃ B, B ≤ 10000000 ∧ Clo (ws.length + 1) B rs := by
  obtain ⟨⟨B, b0, b1, h1⟩, h2⟩ := pin_some (b := 9) (wide_clo ws.length) (Int.le_refl _) (pl_ok h hs) (by rw [List.length_map]; exact big20 (by omega)) e
  refine ⟨B, ?_, h1⟩
  rw [List.length_map] at b1
  have p := pow2_le hn
  have q : (2 : Int) ^ 20 = 1048576 := by decide
  rw [q] at p
  omega
end My

/-! zones: one within another, by points (plain) -/
namespace My
open PySem L2 DL
/-- the point of numbers by place, as a list -/
def ptL (n : Nat) (p : Nat → Int) : List Int := (List.range n).map fun i => p (i + 1)
theorem ptL_pf {n : Nat} {p : Nat → Int} (h0 : p 0 = 0) {i : Nat} (hi : i < n + 1) : pf (ptL n p) i = p i := by
  cases i with
  | zero => rw [pf0, h0]
  | succ i =>
    unfold pf ptL
    rw [List.getD_eq_getElem?_getD]
    show (((List.range n).map fun i => p (i + 1))[i]?).getD 0 = _
    rw [List.getElem?_map, List.getElem?_range (by omega)]
    rfl
theorem keeps_congr {ws : List Str} {ls : List (Str × Str × Int)} (h : limsOk ws ls) {p q : Nat → Int} (e : ∀ i, i < ws.length + 1 → p i = q i) (g : keeps (ls.map (plT ws)) p) : keeps (ls.map (plT ws)) q := fun t ht => by
  obtain ⟨a, b⟩ := pl_lt h t ht
  rw [← e _ a, ← e _ b]
  exact g t ht
theorem pf_pos {p : List Int} (h : ∀ x, x ∈ p → 0 ≤ x) {j : Nat} (hj : j < p.length + 1) : 0 ≤ pf p j := by
  cases j with
  | zero => exact Int.le_refl _
  | succ j =>
    have hjl : j < p.length := by omega
    have e : pf p (j + 1) = p[j] := by
      unfold pf
      rw [List.getD_eq_getElem?_getD]
      show (p[j]?).getD 0 = _
      rw [List.getElem?_eq_getElem hjl]
      rfl
    rw [e]
    exact h _ (List.getElem_mem hjl)
/-- the points of bounded limits -/
theorem inside_mem {ws : List Str} {ls : List (Str × Str × Int)} {p : List Int} : p ∈ insideL ws ls 5 ↔ (p.length = ws.length ∧ ∀ x, x ∈ p → 0 ≤ x ∧ x ≤ 5) ∧ keeps (ls.map (plT ws)) (pf p) := by
  unfold insideL
  rw [List.mem_filter, ptsN_mem, keeps_b]
  exact Iff.rfl
theorem bound_up {ws : List Str} {ls : List (Str × Str × Int)} (ok : wok ws) (hb : boundL ws ls) {p : Nat → Int} (p0 : p 0 = 0) (g : keeps (ls.map (plT ws)) p) {j : Nat} (hj : j < ws.length) : p (j + 1) ≤ 5 := by
  have q := g _ (List.mem_map.mpr ⟨_, hb ws[j] (List.getElem_mem hj), rfl⟩)
  have nd : (nws ws).Nodup := List.nodup_cons.mpr ⟨now_no ok, ok.nd⟩
  have e1 : (nws ws).idxOf ws[j] = j + 1 := nd.idxOf_getElem (j + 1) (by show j + 1 < ws.length + 1; omega)
  have e0 : (nws ws).idxOf ("now" : Str) = 0 := List.idxOf_cons_self
  have q : p ((nws ws).idxOf ws[j]) - p ((nws ws).idxOf ("now" : Str)) ≤ 5 := q
  rw [e1, e0, p0] at q
  omega
theorem ptL_in {ws : List Str} {ls : List (Str × Str × Int)} (ok : wok ws) (h : limsOk ws ls) (hb : boundL ws ls) {p : Nat → Int} (p0 : p 0 = 0) (pos : ∀ j, j < ws.length + 1 → 0 ≤ p j) (g : keeps (ls.map (plT ws)) p) : ptL ws.length p ∈ insideL ws ls 5 := by
  refine inside_mem.mpr ⟨⟨by unfold ptL; rw [List.length_map, List.length_range], fun x hx => ?_⟩, keeps_congr h (fun i hi => (ptL_pf p0 hi).symm) g⟩
  unfold ptL at hx
  obtain ⟨j, hj, rfl⟩ := List.mem_map.mp hx
  have hj := List.mem_range.mp hj
  exact ⟨pos _ (by omega), bound_up ok hb p0 g hj⟩
end My

/-! x in xs inside a comprehension -/
namespace DL
open PySem PySem.Spec PyProof.Rows L2
end DL

/-! zones: greatest differences and least coordinates, by points (plain) -/
namespace My
open PySem L2 DL
theorem inside_none {ws : List Str} {l : List (Str × Str × Int)} (h : limsOk ws l) (s : smallL l) (n : l.length ≤ 40) (e : initR ws l = none) : insideL ws l 5 = [] := by
  cases g : insideL ws l 5 with
  | nil => rfl
  | cons q t =>
    exfalso
    have hq : q ∈ insideL ws l 5 := by rw [g]; exact List.mem_cons_self
    obtain ⟨⟨hl, hbd⟩, kp⟩ := inside_mem.mp hq
    exact init_none h s n e _ (pf0 q) (fun j hj => pf_pos (fun x hx => (hbd x hx).1) (by rw [hl]; exact hj)) kp
theorem inside_far {ws : List Str} {l : List (Str × Str × Int)} {rs : List (List Int)} (ok : wok ws) (h : limsOk ws l) (s : smallL l) (n : l.length ≤ 40) (hb : boundL ws l) (e : initR ws l = some rs) {i j : Nat} (hi : i < ws.length + 1) (hj : j < ws.length + 1) : ∃ q, q ∈ insideL ws l 5 ∧ pf q i - pf q j = cellI rs i j := by
  obtain ⟨⟨B, hc⟩, hso⟩ := init_sol h s n e
  have z0 : (fun l => cellI rs l j - cellI rs 0 j) 0 = (0 : Int) := by
    show cellI rs 0 j - cellI rs 0 j = 0
    omega
  obtain ⟨pos, kp⟩ := (hso _ z0).mp (hc.far hj fun l hl => init_fin ok h s n hb e l j hl hj)
  refine ⟨_, ptL_in ok h hb z0 pos kp, ?_⟩
  rw [ptL_pf z0 hi, ptL_pf z0 hj]
  have d := hc.dg j hj
  omega
theorem inside_some {ws : List Str} {l : List (Str × Str × Int)} {rs : List (List Int)} (ok : wok ws) (h : limsOk ws l) (s : smallL l) (n : l.length ≤ 40) (hb : boundL ws l) (e : initR ws l = some rs) : insideL ws l 5 ≠ [] := by
  obtain ⟨q, hq, _⟩ := inside_far ok h s n hb e (i := 0) (j := 0) (by omega) (by omega)
  intro g
  rw [g] at hq
  cases hq
end My

/-! max(xs), min(xs) of a list of ints -/
namespace DL
open PySem PySem.Spec PyProof.Rows L2
section
variable {K : PySem.W.Frag}
end
end DL

/-! zones: the greatest difference of two ages, by points (plain) -/
namespace My
open PySem L2 DL
end My

/-! == of data inside a comprehension -/
namespace DL
open PySem PySem.Spec PyProof.Rows L2
end DL

/-! zones: cells of what the deeds make (plain) -/
namespace My
open PySem L2 DL
/-! ### cells of what the deeds make -/
end My

/-! zones: points of what the deeds make (plain) -/
namespace My
open PySem L2 DL
section
variable {k : Nat} {B : Int} {rs : List (List Int)}
end
end My

/-! zones: the deeds of bounded zones, by points tried (plain) -/
namespace My
open PySem L2 DL
theorem pf_at {p : List Int} {i : Nat} (h : i < p.length) : pf p (i + 1) = p[i] := by
  unfold pf
  rw [List.getD_eq_getElem?_getD]
  show (p[i]?).getD 0 = _
  rw [List.getElem?_eq_getElem h]
  rfl
theorem solR_congr {k : Nat} {rs : List (List Int)} {p q : Nat → Int} (e : ∀ i, i < k → p i = q i) (g : solR k rs p) : solR k rs q := fun i j hi hj f => by
  rw [← e i hi, ← e j hj]
  exact g i j hi hj f
theorem ptL_len (n : Nat) (p : Nat → Int) : (ptL n p).length = n := by
  unfold ptL
  rw [List.length_map, List.length_range]
/-- the bounded limits that the laws draw -/
structure bL (ws : List Str) (l : List (Str × Str × Int)) : Prop where
  ok : wok ws
  h : limsOk ws l
  s : smallL l
  n : l.length ≤ 20
  hb : boundL ws l
  two : 2 ≤ ws.length
section
variable {ws : List Str} {l : List (Str × Str × Int)}
theorem bL.sm (b : bL ws l) {rs : List (List Int)} (e : initR ws l = some rs) : ∃ B, 0 ≤ B ∧ B ≤ 10000000 ∧ Clo (ws.length + 1) B rs ∧ (∀ i j, i < ws.length + 1 → j < ws.length + 1 → cellI rs i j < FAR) ∧ ∀ p : Nat → Int, p 0 = 0 → (solR (ws.length + 1) rs p ↔ (∀ j, j < ws.length + 1 → 0 ≤ p j) ∧ keeps (l.map (plT ws)) p) := by
  have n := b.n
  obtain ⟨B, h1, h2⟩ := init_clo b.h b.s b.n e
  obtain ⟨_, h3⟩ := init_sol b.h b.s (by omega) e
  have F := FAR_def
  refine ⟨B, ?_, h1, h2, init_fin b.ok b.h b.s (by omega) b.hb e, h3⟩
  have d := h2.dg 0 (by omega)
  have := (h2.bd 0 0 (by omega) (by omega) (by omega)).2
  omega
theorem bL.nn (b : bL ws l) (e : initR ws l = none) : insideL ws l 5 = [] := by
  have n := b.n
  exact inside_none b.h b.s (by omega) e
/-- a point that is tried and in the zone -/
theorem bL.mem (b : bL ws l) {rs : List (List Int)} (e : initR ws l = some rs) {q : List Int} : q ∈ insideL ws l 5 ↔ q.length = ws.length ∧ solR (ws.length + 1) rs (pf q) := by
  obtain ⟨B, _, _, hc, hf, hs⟩ := b.sm e
  constructor
  · intro g
    obtain ⟨⟨g1, g2⟩, g3⟩ := inside_mem.mp g
    exact ⟨g1, (hs _ (pf0 q)).mpr ⟨fun j hj => pf_pos (fun x hx => (g2 x hx).1) (by rw [g1]; exact hj), g3⟩⟩
  · rintro ⟨g1, g2⟩
    obtain ⟨g3, g4⟩ := (hs _ (pf0 q)).mp g2
    refine inside_mem.mpr ⟨⟨g1, fun x hx => ?_⟩, g4⟩
    obtain ⟨j, hj, rfl⟩ := List.mem_iff_getElem.mp hx
    rw [← pf_at hj]
    exact ⟨g3 _ (by omega), bound_up b.ok b.hb (pf0 q) g4 (by omega)⟩
theorem bL.pt (b : bL ws l) {rs : List (List Int)} (e : initR ws l = some rs) {p : Nat → Int} (p0 : p 0 = 0) (g : solR (ws.length + 1) rs p) : ptL ws.length p ∈ insideL ws l 5 :=
  (b.mem e).mpr ⟨ptL_len _ _, solR_congr (fun i hi => (ptL_pf p0 hi).symm) g⟩
theorem bL.len (b : bL ws l) {q : List Int} (h : q ∈ insideL ws l 5) : q.length = ws.length ∧ ∀ x, x ∈ q → 0 ≤ x ∧ x ≤ 5 := (inside_mem.mp h).1
theorem bL.pos (b : bL ws l) {q : List Int} (h : q ∈ insideL ws l 5) {i : Nat} (hi : i < ws.length + 1) : 0 ≤ pf q i ∧ pf q i ≤ 5 := by
  obtain ⟨a, c⟩ := b.len h
  cases i with
  | zero => exact ⟨by rw [pf0]; decide, by rw [pf0]; decide⟩
  | succ i =>
    rw [pf_at (by omega)]
    exact c _ (List.getElem_mem _)
/-! ### the deeds, by points -/
end
end My

/-! zones: equal rows of deeds; limits without bounds (plain) -/
namespace My
open PySem L2 DL
section
variable {k : Nat} {B : Int} {rs : List (List Int)}
end
/-! ### limits of two words without bounds -/
section
variable {ws : List Str} {l : List (Str × Str × Int)}
structure fL (ws : List Str) (l : List (Str × Str × Int)) : Prop where
  ok : wok ws
  h : limsOk ws l
  s : smallL l
  n : l.length ≤ 20
theorem bL.fr (b : bL ws l) : fL ws l := ⟨b.ok, b.h, b.s, b.n⟩
theorem fL.sm (b : fL ws l) {rs : List (List Int)} (e : initR ws l = some rs) : ∃ B, 0 ≤ B ∧ B ≤ 10000000 ∧ Clo (ws.length + 1) B rs ∧ ∀ p : Nat → Int, p 0 = 0 → (solR (ws.length + 1) rs p ↔ (∀ j, j < ws.length + 1 → 0 ≤ p j) ∧ keeps (l.map (plT ws)) p) := by
  have n := b.n
  obtain ⟨B, h1, h2⟩ := init_clo b.h b.s b.n e
  obtain ⟨_, h3⟩ := init_sol b.h b.s (by omega) e
  have F := FAR_def
  refine ⟨B, ?_, h1, h2, h3⟩
  have d := h2.dg 0 (by omega)
  have := (h2.bd 0 0 (by omega) (by omega) (by omega)).2
  omega
theorem insideN_mem {top : Nat} {p : List Int} : p ∈ insideL ws l top ↔ (p.length = ws.length ∧ ∀ x, x ∈ p → 0 ≤ x ∧ x ≤ top) ∧ keeps (l.map (plT ws)) (pf p) := by
  unfold insideL
  rw [List.mem_filter, ptsN_mem, keeps_b]
theorem fL.nn (b : fL ws l) {top : Nat} (e : initR ws l = none) : insideL ws l top = [] := by
  have n := b.n
  cases g : insideL ws l top with
  | nil => rfl
  | cons q t =>
    exfalso
    have hq : q ∈ insideL ws l top := by rw [g]; exact List.mem_cons_self
    obtain ⟨⟨hl, hbd⟩, kp⟩ := insideN_mem.mp hq
    exact init_none b.h b.s (by omega) e _ (pf0 q) (fun j hj => pf_pos (fun x hx => (hbd x hx).1) (by rw [hl]; exact hj)) kp
end
end My

/-! zones: the greatest difference among the limits told (plain) -/
namespace My
open PySem L2 DL
end My

/-! xs.extend([..]) of an own list -/
namespace DL
open PySem PySem.Spec PyProof.Rows L2
section
variable {X : Cx} {o e : Expr} {te : TE} {wf : WF} {pos cpos apos : Pos}
end
end DL

/-! a law's walk, kept apart from its reading -/
namespace DL
open PySem PySem.Spec PyProof.Rows L2
structure WalkS (X : Cx) (s : List Stmt) where
  t : TS
  w : WSt
  h : PDSs X s t w
end DL

/-! zones: comprehensions over points that are dicts, or over limits (plain) -/
namespace My
open PySem L2 DL
def unI : Dv → Int
  | .int i => i
  | _ => 0
def unD : Dv → List Int
  | .dic _ (_ :: vs) => vs.map unI
  | _ => []
end My

/-! == [] inside a comprehension -/
namespace DL
open PySem PySem.Spec PyProof.Rows L2
end DL

namespace My
open PySem L2 DL
theorem bL.empty {ws : List Str} {l : List (Str × Str × Int)} (b : bL ws l) : (initR ws l).isNone = (insideL ws l 5).isEmpty := by
  have n := b.n
  cases e : initR ws l with
  | none => rw [b.nn e]; rfl
  | some rs =>
    cases g : insideL ws l 5 with
    | nil => exact absurd g (inside_some b.ok b.h b.s (by omega) b.hb e)
    | cons _ _ => rfl
end My

/-! zones of two words without bounds: points that are alike (plain) -/
namespace My
open PySem L2 DL
end My

namespace DL
open PySem PySem.Spec PyProof.Rows L2
end DL
/-! zones: has of lists, least points without bounds (plain) -/
namespace My
open PySem L2 DL
section
variable {ws : List Str} {l : List (Str × Str × Int)}
end
end My

/-! zones led further: rows and all their points (plain) -/
namespace My
open PySem L2 DL
/-- rows and all their points: each cell is come to by a point -/
structure Tight (n : Nat) (M : Int) (rs : List (List Int)) (L : List (List Int)) : Prop where
  sq : sqI (n + 1) rs
  fin : ∀ i j, i < n + 1 → j < n + 1 → cellI rs i j < FAR
  mem : ∀ q : List Int, q ∈ L ↔ q.length = n ∧ solR (n + 1) rs (pf q)
  att : ∀ i j, i < n + 1 → j < n + 1 → ∃ q, q ∈ L ∧ pf q i - pf q j = cellI rs i j
  bnd : ∀ q, q ∈ L → ∀ x, x ∈ q → 0 ≤ x ∧ x ≤ M
theorem pf_bnd {p : List Int} {M : Int} (M0 : 0 ≤ M) (hx : ∀ x, x ∈ p → 0 ≤ x ∧ x ≤ M) {s : Nat} (hs : s < p.length + 1) : 0 ≤ pf p s ∧ pf p s ≤ M := by
  cases s with
  | zero => exact ⟨by rw [pf0]; decide, by rw [pf0]; exact M0⟩
  | succ j =>
    rw [pf_at (by omega)]
    exact hx _ (List.getElem_mem _)
section
variable {n : Nat} {M : Int} {rs : List (List Int)} {L : List (List Int)}
theorem Tight.some_ (h : Tight n M rs L) : ∃ q, q ∈ L := by
  obtain ⟨q, hq, _⟩ := h.att 0 0 (by omega) (by omega)
  exact ⟨q, hq⟩
theorem Tight.pos (h : Tight n M rs L) (M0 : 0 ≤ M) {q : List Int} (hq : q ∈ L) {i : Nat} (hi : i < n + 1) : 0 ≤ pf q i ∧ pf q i ≤ M :=
  pf_bnd M0 (h.bnd q hq) (by rw [((h.mem q).mp hq).1]; exact hi)
theorem Tight.clo (h : Tight n M rs L) (M0 : 0 ≤ M) : Clo (n + 1) M rs := by
  have le : ∀ {q i j}, q ∈ L → i < n + 1 → j < n + 1 → pf q i - pf q j ≤ cellI rs i j := fun {q i j} hq hi hj => ((h.mem q).mp hq).2 i j hi hj (h.fin i j hi hj)
  refine ⟨h.sq, fun i hi => ?_, fun i j l hi hj hl _ _ => ?_, fun i j hi hj _ => ?_, fun i j hi hj f => absurd (h.fin i j hi hj) f, fun j hj => ?_⟩
  · obtain ⟨q, hq, e⟩ := h.att i i hi hi
    omega
  · obtain ⟨q, hq, e⟩ := h.att i l hi hl
    have a := le hq hi hj
    have b := le hq hj hl
    omega
  · obtain ⟨q, hq, e⟩ := h.att i j hi hj
    have a := h.pos M0 hq hi
    have b := h.pos M0 hq hj
    omega
  · obtain ⟨q, hq, e⟩ := h.att 0 j (by omega) hj
    have b := h.pos M0 hq hj
    rw [pf0] at e
    omega
end
/-- what rows and points have in common, rows or none -/
def okZ (n : Nat) (M : Int) (o : Option (List (List Int))) (L : List (List Int)) : Prop := (o = none ∧ L = []) ∨ ∃ rs, o = some rs ∧ Tight n M rs L
theorem okZ.map {n : Nat} {M M' : Int} {o : Option (List (List Int))} {L : List (List Int)} {f : List (List Int) → List (List Int)} {g : List (List Int) → List (List Int)} (h : okZ n M o L) (g0 : g [] = []) (hf : ∀ rs, Tight n M rs L → Tight n M' (f rs) (g L)) : okZ n M' (o.map f) (g L) := by
  rcases h with ⟨rfl, rfl⟩ | ⟨rs, rfl, h⟩
  · exact .inl ⟨rfl, g0⟩
  · exact .inr ⟨_, rfl, hf rs h⟩
theorem okZ.empty {n : Nat} {M : Int} {o : Option (List (List Int))} {L : List (List Int)} (h : okZ n M o L) : o.isNone = L.isEmpty := by
  rcases h with ⟨rfl, rfl⟩ | ⟨rs, rfl, h⟩
  · rfl
  · obtain ⟨q, hq⟩ := h.some_
    cases L with
    | nil => cases hq
    | cons _ _ => rfl
section
variable {ws : List Str} {l : List (Str × Str × Int)}
end
end My

/-! zones: what is told of points, in order (plain) -/
namespace My
open PySem L2 DL
theorem okZ.zok {ws : List Str} {M : Int} {o : Option (List (List Int))} {L : List (List Int)} (ok : wok ws) (h : okZ ws.length M o L) : zok ws o := by
  refine ⟨ok, fun rs e => ?_⟩
  rcases h with ⟨rfl, rfl⟩ | ⟨r, rfl, h⟩
  · cases e
  · cases e
    exact h.sq
theorem okZ.len {n : Nat} {M : Int} {o : Option (List (List Int))} {L : List (List Int)} (h : okZ n M o L) {q : List Int} (hq : q ∈ L) : q.length = n := by
  rcases h with ⟨rfl, rfl⟩ | ⟨r, rfl, h⟩
  · cases hq
  · exact ((h.mem q).mp hq).1
theorem okZ.bnd {n : Nat} {M : Int} {o : Option (List (List Int))} {L : List (List Int)} (h : okZ n M o L) {q : List Int} (hq : q ∈ L) : ∀ x, x ∈ q → 0 ≤ x ∧ x ≤ M := by
  rcases h with ⟨rfl, rfl⟩ | ⟨r, rfl, h⟩
  · cases hq
  · exact h.bnd q hq
end My

/-! zones: a point as a dict with a number put anew (plain) -/
namespace My
open PySem L2 DL
theorem put_zip {w : Str} {v : Int} : ∀ {ks : List Str} {vs : List Int}, ks.Nodup → ks.length = vs.length → List.zipWith (fun (k' : Key) (x : Dv) => if k' = Sum.inr w then Dv.int v else x) (ks.map Sum.inr) (vs.map Dv.int) = (vs.set (ks.idxOf w) v).map Dv.int
  | [], [], _, _ => rfl
  | [], _ :: _, _, h => by cases h
  | _ :: _, [], _, h => by cases h
  | k :: ks, x :: vs, nd, h => by
    obtain ⟨n1, n2⟩ := List.nodup_cons.mp nd
    have ih := put_zip (w := w) (v := v) n2 (Nat.succ.inj h)
    rw [List.map_cons, List.map_cons, List.zipWith_cons_cons]
    by_cases e : k = w
    · subst e
      rw [if_pos rfl, List.idxOf_cons_self]
      have i0 : ks.idxOf k = ks.length := List.idxOf_eq_length n1
      rw [ih, i0]
      have : vs.set ks.length v = vs := List.set_eq_of_length_le (by have := Nat.succ.inj h; omega)
      rw [this]
      rfl
    · rw [if_neg fun q => e (by cases q; rfl), ih, List.idxOf_cons, beq_eq_false_iff_ne.mpr e]
      rfl
/-! specs -/
end My

/-! dict(..), list + list inside a comprehension -/
namespace DL
open PySem PySem.Spec PyProof.Rows L2
end DL

/-! an own list lent to an expression whose value, by its shape, cannot hold it -/
namespace DL
open PySem PySem.Spec PyProof.Rows L2
inductive Kd where
  | non | bl | int | str | l | t
  deriving DecidableEq
def kd : Dv → Option Kd
  | .non => some .non
  | .bl _ => some .bl
  | .int _ => some .int
  | .str _ => some .str
  | .lst _ => some .l
  | .tup _ => some .t
  | .tpn _ => some .t
  | _ => none
section
variable {K : PySem.W.Frag} {N N' : Av} {H : Hp}
end
section
variable {X : Cx} {pins : List (Addr × Obj)} {σ : L2.St} {H : Hp} {s : Shared}
end
section
variable {K : PySem.W.Frag} {z : Av} {As : List (List Addr)} {W : WS} {H H' : Hp}
end
end DL

/-! str of a tuple; xs.clear() of an own list; an own list returned as a box by a def that changes its world -/
namespace DLG
open PySem L2
section
variable {X : Cx} {pins : List (Addr × Obj)} {σ : L2.St} {H : Hp} {s : Shared}
end
end DLG
namespace DL
open PySem L2
section
variable {K : PySem.W.Frag}
end
/-! clear -/
section
variable {X : Cx} {o : Expr} {pos cpos apos : Pos}
end
/-! an own list is returned as a box -/
/-! the caller makes it its own -/
section
variable {K : PySem.W.Frag} {z : Av} {As As' : List (List Addr)} {W W' : WS} {H H' : Hp} {p : Addr}
end
end DL

/-! zones made of lists that are changed afterwards (plain) -/
namespace My
open PySem L2 DL
/-! what a zone holds is no list of tuples, of texts -/
/-! texts in their order -/
def strLe (s t : Str) : Bool := PySem.W.dataLe false Prod.snd ((Dv.str s, PyData.str s) : Dv × PyData) (.str t, .str t)
/-! the text of a limit -/
theorem ok_word : ∀ a, a ∈ nws six → PyData.strOk (reprText a) = true := by decide +kernel
end My

/-! a test that reads an own list -/
namespace DL
open PySem PySem.Spec PyProof.Rows L2
section
variable {K : PySem.W.Frag}
end
end DL

/-! a zone made anew of the limits that it tells -/
namespace My
open PySem L2 DL
section
variable {ws : List Str} {l : List (Str × Str × Int)}
end
end My

/-! things with identity: o.f += e, lists of things (append, len, stars), tuples that hold things, is None -/
namespace DL
open PySem L2
section
variable {K : PySem.W.Frag}
end
/-! ### o.append(e), o a list of the world -/
section
variable {K : PySem.W.Frag}
end
/-! ### len of a list of the world -/
/-! ### *e, e a list of the world; displays that hold things -/
section
variable {K : PySem.W.Frag} {z : Av} {O : Nat → Option Addr} {As : List (List Addr)} {σd : DS} {W : WS} {σ : St} {H : Hp}
end
/-! ### x, y = a tuple that holds things -/
/-! ### e is None, e perhaps a thing -/
section
variable {K : PySem.W.Frag}
end
end DL

/-! dicts of the world -/
namespace DL
open PySem L2
section
variable {K : PySem.W.Frag} {z : Av} {As : List (List Addr)} {H : Hp}
theorem HasVL.zw {v : V} {d : Sv} {k : Key} (hv : HasV K z As H v d) : ∀ {ks : List Key} {vs : List V} {ds : List Sv}, HasVL K z As H vs ds → HasVL K z As H (List.zipWith (fun k' x => if k' = k then v else x) ks vs) (List.zipWith (fun k' x => if k' = k then d else x) ks ds)
  | [], _, _, _ => .nil
  | _ :: _, _, _, .nil => .nil
  | x :: r, _, _, .cons a t => by
    rw [List.zipWith_cons_cons, List.zipWith_cons_cons]
    refine .cons ?_ (HasVL.zw hv t)
    by_cases e : x = k
    · rw [if_pos e, if_pos e]
      exact hv
    · rw [if_neg e, if_neg e]
      exact a
theorem HasVL.put {ks : List Key} {vs : List V} {ds : List Sv} {k : Key} {v : V} {d : Sv} (h : HasVL K z As H vs ds) (hv : HasV K z As H v d) : HasVL K z As H (putDs ks vs k v) (putDs ks ds k d) := by
  unfold putDs
  by_cases m : hasK ks k = true
  · rw [if_pos m, if_pos m]
    exact h.zw hv
  · rw [if_neg m, if_neg m]
    exact h.append (.cons hv .nil)
theorem HasVL.getK : ∀ {ks : List Key} {vs : List V} {ds : List Sv} {k : Key} {d : Sv}, HasVL K z As H vs ds → getA ks ds k = some d → ∃ v, getA ks vs k = some v ∧ HasV K z As H v d
  | [], _, _, _, _, _, e => by cases e
  | _ :: _, _, _, _, _, .nil, e => by cases e
  | x :: r, _, _, k, _, .cons a t, e => by
    unfold getA at e ⊢
    by_cases q : x = k
    · rw [if_pos q] at e ⊢
      cases e
      exact ⟨_, rfl, a⟩
    · rw [if_neg q] at e ⊢
      exact HasVL.getK t e
theorem HasVL.getN : ∀ {ks : List Key} {vs : List V} {ds : List Sv} {k : Key}, HasVL K z As H vs ds → getA ks ds k = none → getA ks vs k = none
  | [], _, _, _, _, _ => rfl
  | _ :: _, _, _, _, .nil, _ => rfl
  | x :: r, _, _, k, .cons a t, e => by
    unfold getA at e ⊢
    by_cases q : x = k
    · rw [if_pos q] at e
      cases e
    · rw [if_neg q] at e ⊢
      exact HasVL.getN t e
theorem Wld.dicW {W : WS} {v : V} {j : Nat} {ks : List Key} {ds : List Sv} (w : Wld K z As W H) (h : HasV K z As H v (.box j)) (e : W[j]? = some (.dic ks ds)) :
    ∃ a vs, v = .ref a ∧ As[j]? = some [a] ∧ H a = some (.dK (ks.zip vs)) ∧ HasVL K z As H vs ds ∧ ks.length = ds.length := by
  cases h with
  | box h =>
    obtain ⟨a, vs, e1, h1, h2, h3⟩ := w.rep j _ _ h e
    cases e1
    exact ⟨_, vs, rfl, h, h1, h2, h3⟩
end
/-! {} -/
/-! d[k], k in d, d.get(k, x) -/
section
variable {K : PySem.W.Frag} {td ty : TE} {wo : WE} {wy : WB}
end
/-! d[k] = e -/
end DL

/-! walks over things of the world: their list, dict stands while it is walked -/
namespace DL
open PySem L2
abbrev WIG := DS → WS → (List Sv → (WS → Prop) → WS → Prop) → Prop
section
variable {K : PySem.W.Frag} {z : Av} {O : Nat → Option Addr} {As : List (List Addr)} {σd : DS} {W : WS} {σ : St} {H H2 : Hp} {x : V} {s : Sv}
end
/-! ### loops -/
section
variable {K : PySem.W.Frag} {z : Av} {As0 : List (List Addr)} {ow0 : Av} {H0 : Hp} {g : TG} {tgt : Tgt} {is : List Nat} {tb : TS} {wb : WSt}
end
/-! ### comprehensions -/
section
variable {K : PySem.W.Frag} {g : TG} {tgt : Tgt} {is : List Nat} {tt : TT} {wt : WT} {te : TE} {we : WE} {vs : List Nat}
end
/-! ### a list of the world is walked -/
end DL

/-! a dict of the world is locked while it is walked; new dicts as things -/
namespace DL
open PySem L2
section
variable {K : PySem.W.Frag} {z : Av} {As As' : List (List Addr)} {W W' : WS} {H H' : Hp} {p : Addr}
end
/-! ### locks -/
section
variable {K : PySem.W.Frag} {z : Av} {O : Nat → Option Addr} {As : List (List Addr)} {σd : DS} {W : WS} {σ : St} {H : Hp}
end
section
variable {K : PySem.W.Frag}
end
/-! ### what is walked -/
section
variable {K : PySem.W.Frag} {te : TE} {we : WE}
end
end DL

/-! == of things without an __eq__ of their own: the same thing or not -/
namespace DLG
open PySem PySem.Spec PyProof.Rows PySem.SeqAt L2
section
variable {M : Model} {prog : Program} {w : World} {A : Around} {E : Value → Shared → Prop} {s : Shared} {K : PySem.W.Frag} {x y C : Addr} {ox oy : Obj} {od od' : Option Obj}
end
end DLG
namespace DL
open PySem L2
end DL

/-! rules: things with identity, dicts of the world -/
namespace DL
open PySem L2
section
variable {X : Cx} {K : PySem.W.Frag} {o e i value : Expr} {es : List Expr} {f x y : Str} {pos pos' tpos cpos apos p : Pos} {to te td ty tx : TE} {wo we wx : WE} {wb wy : WB} {t : TA} {wa : WA} {C : Addr} {ks : List Str}
/-! is None -/
/-! the same thing -/
/-! dicts -/
end
/-! walks -/
section
variable {X : Cx} {K : PySem.W.Frag} {tg iter e : Expr} {te : TE} {we : WE} {apos cpos : Pos}
variable {body : List Stmt} {g : TG} {tgt : Tgt} {is : List Nat} {tb : TS} {wb : WSt} {pos : Pos} {wi : TI} {w : WIG}
variable {tt : TT} {wt : WT} {elt : Expr} {ifs : List Expr} {scope : Scope} {own : List (Str × Nat)}
end
/-! xs.extend(a list of the world) of an own list -/
section
variable {X : Cx} {o e : Expr} {te : TE} {we : WE} {pos cpos apos : Pos}
variable {tg iter : Expr} {wi : TI} {w : WIG} {g : TG} {tgt : Tgt} {is : List Nat} {tt : TT} {wt : WT} {elt : Expr} {ifs : List Expr} {scope : Scope} {own : List (Str × Nat)} {y : Str} {py spos : Pos}
end
/-! ### a dict comprehension over a thing of the world -/
section
variable {K : PySem.W.Frag} {tgt : Tgt} {wt : WT} {wk wv : WE} {vs : List Nat}
end
section
variable {X : Cx} {tt : TT} {wt : WT}
variable {kx vx tg iter : Expr} {ifs : List Expr} {scope : Scope} {own : List (Str × Nat)} {pos spos py : Pos} {wi : TI} {w : WIG} {g : TG} {tgt : Tgt} {is : List Nat} {tk tv : TE} {wk wv : WE} {y : Str}
end
end DL

/-! any; new things without arguments; plain stores -/
namespace DL
open PySem L2
section
variable {X : Cx} {x : Str} {p pos : Pos} {wf : WFn} {C fa : Addr} {fd : FuncData} {ps : List Str} {k : Nat} {ds : List Value} {dvs : List V} {dd : List Dv}
end
end DL
namespace My
open PySem L2 DL
/-! ### keepers, loads, events -/
inductive Lt where
  | al | nv | at_ (i : Int)
  deriving DecidableEq
def Lt.d : Lt → Dv
  | .al => .str "always"
  | .nv => .str "never"
  | .at_ i => .int i
def optI : Option Int → Dv
  | some i => .int i
  | none => .non
structure Ru where
  b : Int
  f : Int
  s : Option Int
  c : Str
  m : Str
  cl : Bool
  mo : Str
  cu : Str
  n : Bool
  ma : Lt
  h : Lt
def Ru.kp (r : Ru) : Kp := ⟨.int r.b, .int r.f, optI r.s, .str r.c, .str r.m, .bl r.cl, .str r.mo, .str r.cu, .bl r.n, r.ma.d, r.h.d⟩
structure Ld where
  hold : Option Int
  late : Int
  lasts : Int
def ldD (C : Addr) (l : Ld) : Dv := .ins C ["hold", "late", "lasts"] [optI l.hold, .int l.late, .int l.lasts]
structure Ev where
  word : Str
  nums : List Int
  held : Bool
/-! ### stores -/
structure Wr where
  num : Int
  st : Str
  sa : Option Int
structure Rd where
  own : Int
  held : Int
  opened : Int
  there : Bool
structure Rw where
  w : Nat
  spot : Int
  st : Str
structure Pg where
  marked : Bool
  elder : Bool
  dr : Option Nat
structure Wk where
  limit : Int
  begun : Int
  vis : List Int
  whole : Bool
structure Stt where
  ru : Ru
  ld : Ld
  old : Int
  now : Int
  mark : Int
  log : Int
  idle : Int
  ws : List Wr
  rs : List My.Rd
  rows : List Rw
  spots : List Int
  pgs : List Pg
  walk : Option Wk
  count : Int
/-- a new store -/
def Stt.new (r : Ru) (l : Ld) (half : Int) : Stt := ⟨r, l, half, 0, 0, 0, 0, [], [], [], [], [], none, 0⟩
def mn (a b : Int) : Int := if b < a then b else a
def mx (a b : Int) : Int := if a < b then b else a
def minI (a : Int) (l : List Int) : Int := l.foldl min a
def runB (w : Wr) : Bool := decide (w.st = "running")
def byW (c : Str) : Bool := decide (c ∈ (["all", "both"] : List Str))
def byO (c : Str) : Bool := decide (c ∈ (["both", "readers"] : List Str))
def Stt.holdW (s : Stt) : List Int := (s.ws.filter runB).map (·.num)
def Stt.holdR (s : Stt) : List Int := (s.rs.filter (·.there)).map (·.held)
def Stt.holdO (s : Stt) : List Int := (s.rs.filter (·.there)).map (·.own)
def Stt.hold (s : Stt) : List Int := (if byW s.ru.c = true then s.holdW else []) ++ ((if s.ru.c = "all" then s.holdR else []) ++ (if byO s.ru.c = true then s.holdO else []))
def Stt.least (s : Stt) : Int := minI s.now s.hold
def Stt.age (s : Stt) : Int := s.now - s.mark
def Stt.due (s : Stt) : Int := max (s.mark + s.ru.b) s.idle
def Stt.stopped (s : Stt) : Bool := match s.ru.s with
  | some t => decide (t ≤ s.age)
  | none => false
def Stt.isRun (s : Stt) (n : Int) : Bool := match s.ws[n.toNat]? with
  | some w => runB w
  | none => false
def leO (a : Int) : Option Int → Bool
  | some b => decide (a ≤ b)
  | none => true
def Stt.canTake (s : Stt) (many : Int) (runs : Bool) : Bool :=
  let held := s.hold ++ (if runs = true ∧ byW s.ru.c = true then [s.now] else [])
  let old := match held with
    | [] => 0
    | a :: l => s.now + many - minI a l
  decide (s.now + many - s.mark ≤ s.old) && (leO (s.now + many - s.mark) s.ru.s && (leO old s.ld.hold && (match s.walk with
    | none => decide (s.now + many - s.due ≤ s.ld.late)
    | some k => decide (s.now + many - k.begun ≤ s.ld.lasts))))
def Stt.canBegin (s : Stt) : Bool := s.walk.isNone && (decide (s.due ≤ s.now) && !(s.ru.n && s.stopped))
def Stt.pgAt (s : Stt) (p : Int) : Option Nat := s.spots.findIdx? fun q => decide (q = p)
def Stt.canDrop (s : Stt) (p : Int) : Bool := match s.pgAt p with
  | none => true
  | some i => (match s.pgs[i]? with
    | some g => g.elder && g.dr.isNone
    | none => false)
def Stt.isOpen (s : Stt) (n : Int) : Bool := match s.rs[n.toNat]? with
  | some r => r.there
  | none => false
def Stt.can (s : Stt) (e : Ev) : Bool :=
  let a := e.nums.getD 0 0
  let b := e.nums.getD 1 0
  if e.word = "take" then s.canTake a false else
  if e.word = "write" then s.canTake 1 true else
  if e.word ∈ (["put", "end", "break"] : List Str) then s.isRun a else
  if e.word = "drop" then s.isRun a && s.canDrop b else
  if e.word = "close" then s.isOpen a else
  if e.word = "begin" then s.canBegin else
  if e.word = "visit" then (match s.walk with
    | none => false
    | some k => !decide (a ∈ k.vis)) else
  decide (e.word = "open") || s.walk.isSome
/-- the page of a number, made if it is not there -/
def Stt.page (s : Stt) (p : Int) : Stt × Nat := match s.pgAt p with
  | some i => (s, i)
  | none => ({ s with spots := s.spots ++ [p], pgs := s.pgs ++ [⟨false, true, none⟩] }, s.pgs.length)
def Stt.setPg (s : Stt) (i : Nat) (f : Pg → Pg) : Stt := { s with pgs := s.pgs.modify i f }
def Stt.setWr (s : Stt) (i : Nat) (f : Wr → Wr) : Stt := { s with ws := s.ws.modify i f }
def Stt.changed (s : Stt) (p : Int) : Stt × Nat :=
  let q := s.page p
  (q.1.setPg q.2 fun g => { g with marked := g.marked && !s.ru.cl }, q.2)
def Stt.write (s : Stt) : Stt := { s with ws := s.ws ++ [⟨s.now, "running", none⟩], now := s.now + 1 }
def Stt.stopWr (s : Stt) (n : Nat) (st : Str) : Stt :=
  { s.setWr n (fun w => { w with st := st, sa := some s.count }) with
    pgs := s.pgs.map fun g => if st = "broken" ∧ g.dr = some n then { g with dr := none } else g }
def Stt.letIn (s : Stt) : Stt := { s with rs := s.rs ++ [⟨s.now, (match s.holdW with
  | [] => s.now
  | a :: l => minI a l), s.count, true⟩] }
def Stt.wronged (s : Stt) (w : Wr) : Bool := if s.old < s.now - w.num then false else s.rs.any fun r => r.there && (match w.sa with
  | some a => decide (r.opened < a)
  | none => false)
/-- what a pass does with a row -/
def Stt.treatRow (s : Stt) (lim : Int) (r : Rw) : Rw × List Str := match s.ws[r.w]? with
  | none => (r, [])
  | some w => if w.st = "ended" ∧ w.num + s.ru.f ≤ lim then ({ r with st := "frozen" }, if s.wronged w = true then ["sight"] else []) else
    if w.st = "broken" ∧ w.num < lim then ({ r with st := "gone" }, []) else (r, [])
def Stt.treatElder (s : Stt) (lim : Int) (g : Pg) : Pg × List Str := match g.dr with
  | none => (g, [])
  | some d => (match s.ws[d]? with
    | none => (g, [])
    | some w => if g.elder = false ∨ w.st ≠ "ended" ∨ lim ≤ w.num then (g, []) else ({ g with elder := false }, if s.wronged w = true then ["loss"] else []))
def Stt.doneB (s : Stt) (lim : Int) (r : Rw) : Bool := match s.ws[r.w]? with
  | some w => decide (w.st = "ended") && decide (w.num < lim)
  | none => false
def onB (p : Int) (r : Rw) : Bool := decide (r.spot = p) && decide (r.st = "kept")
def Stt.newMark (s : Stt) (lim : Int) (g : Pg) (p : Int) : Bool :=
  let left := s.rows.filter (onB p)
  decide (s.ru.m ≠ "never") && ((left.isEmpty || (decide (s.ru.m = "seen") && left.all (s.doneB lim))) && (!g.elder || g.dr.isNone))
def letsB : Lt → Int → Bool
  | .al, _ => true
  | .nv, _ => false
  | .at_ i, a => decide (a < i)
/-- the rows of a page are treated, one behind the other -/
def Stt.treatRows (s : Stt) (lim p : Int) : List Rw × List Str :=
  (s.rows.map fun r => if onB p r = true then (s.treatRow lim r).1 else r, (s.rows.filter (onB p)).flatMap fun r => (s.treatRow lim r).2)
def Stt.visit (s : Stt) (p : Int) (held : Bool) : Stt × List Str :=
  let q := s.page p
  match q.1.walk, q.1.pgs[q.2]? with
  | some k, some g =>
    let s1 : Stt := { q.1 with walk := some { k with vis := k.vis ++ [p] } }
    if g.marked = true ∧ letsB s.ru.ma s.age = true then (s1, []) else
    if held = true ∧ letsB s.ru.h s.age = true then ({ s1 with walk := some { k with vis := k.vis ++ [p], whole := false } }, []) else
    let t := s1.treatRows k.limit p
    let s2 : Stt := { s1 with rows := t.1 }
    let e := s2.treatElder k.limit g
    let s3 := s2.setPg q.2 fun _ => e.1
    (s3.setPg q.2 fun g => { g with marked := s3.newMark k.limit e.1 p }, t.2 ++ e.2)
  | _, _ => (q.1, [])
def Stt.visitAll (s : Stt) : List Int → Stt × List Str
  | [] => (s, [])
  | p :: ps => match s.walk with
    | none => (s, [])
    | some k => if p ∈ k.vis then s.visitAll ps else
      let q := s.visit p false
      let r := q.1.visitAll ps
      (r.1, q.2 ++ r.2)
def intLe (a b : Int) : Bool := PySem.W.dataLe false Prod.snd ((Dv.int a, PyData.int a) : Dv × PyData) (.int b, .int b)
def sortI (l : List Int) : List Int := l.mergeSort intLe
def Stt.finish (s : Stt) : Stt × List Str :=
  let q := s.visitAll (sortI s.spots)
  match q.1.walk with
  | none => q
  | some k =>
    let mark := if k.whole = true ∨ s.ru.mo = "always" then max q.1.mark (k.limit - s.ru.f) else q.1.mark
    ({ q.1 with mark := mark, log := (if s.ru.cu = "mark" then mark else if s.ru.cu = "horizon" then k.limit else q.1.log), walk := none, idle := q.1.now }, q.2)
def Stt.led (s : Stt) (e : Ev) : Stt × List Str :=
  let a := e.nums.getD 0 0
  let b := e.nums.getD 1 0
  if e.word = "take" then ({ s with now := s.now + a }, []) else
  if e.word = "write" then (s.write, []) else
  if e.word = "put" then (let q := s.changed b; ({ q.1 with rows := q.1.rows ++ [⟨a.toNat, b, "kept"⟩] }, [])) else
  if e.word = "drop" then (let q := s.changed b; (q.1.setPg q.2 fun g => { g with dr := some a.toNat }, [])) else
  if e.word ∈ (["end", "break"] : List Str) then (s.stopWr a.toNat (if e.word = "end" then "ended" else "broken"), []) else
  if e.word = "open" then (s.letIn, []) else
  if e.word = "close" then ({ s with rs := s.rs.modify a.toNat fun r => { r with there := false } }, []) else
  if e.word = "begin" then ({ s with walk := some ⟨s.least, s.now, [], true⟩ }, []) else
  if e.word = "visit" then s.visit a e.held else s.finish
/-! harms -/
def Stt.makers (s : Stt) : List Wr := (s.rows.filter fun (r : Rw) => decide (r.st = "kept")).filterMap fun (r : Rw) => s.ws[r.w]?
def Stt.droppers (s : Stt) : List Wr := (s.pgs.filter fun (g : Pg) => g.elder && g.dr.isSome).filterMap fun (g : Pg) => g.dr.bind fun d => s.ws[d]?
def Stt.halfOld (s : Stt) (l : List Wr) : Bool := l.any fun w => decide (w.st = "ended") && decide (s.old ≤ s.now - w.num)
def Stt.stuck (s : Stt) : Bool := if s.stopped = false then false else
  match s.ru.s with
  | none => false
  | some t => (match s.walk with
    | none => if s.now < s.due then true else if s.ru.n = false ∧ s.ru.f < t then false else true
    | some k => if s.ru.n = false ∧ s.ru.f < t then false else if k.whole = false ∧ s.ru.mo = "whole" then true else decide (t ≤ s.now - k.limit + s.ru.f))
def Stt.harmL (s : Stt) : List Str :=
  let both := s.makers ++ s.droppers
  (if s.halfOld s.makers = true then (["vanish"] : List Str) else []) ++ ((if s.halfOld s.droppers = true then (["return"] : List Str) else []) ++
  ((if (both.any fun w => decide (w.num < s.mark)) = true then (["lie"] : List Str) else []) ++ ((if (both.any fun w => decide (w.st ≠ "running") && decide (w.num < s.log)) = true then (["cut"] : List Str) else []) ++
  ((if s.stopped = true then (["stop"] : List Str) else []) ++ ((if s.old ≤ s.age then (["spent"] : List Str) else []) ++ (if s.stuck = true then (["stuck"] : List Str) else []))))))
def dedup : List Str → List Str
  | [] => []
  | x :: l => x :: (dedup l).filter fun y => !decide (y = x)
/-- an event happens: the store behind it, the harms in the order of the dict -/
def Stt.does (s : Stt) (e : Ev) : Stt × List Str :=
  let q := s.led e
  let s1 : Stt := { q.1 with count := q.1.count + 1 }
  (s1, dedup q.2 ++ s1.harmL)
end My

/-! how a store stands in the world -/
namespace My
open PySem L2 DL
structure Cs where
  course : Addr
  writer : Addr
  reader : Addr
  row : Addr
  page : Addr
  walk : Addr
  event : Addr
  played : Addr
  keeper : Addr
  load : Addr
inductive Lab where
  | crs | wl | rl | rowl | pgd | wk | vis
  | wr (i : Nat) | rd (i : Nat) | row (i : Nat) | pg (i : Nat)
  deriving DecidableEq
abbrev CF : List Str := ["rules", "promise", "old", "now", "mark", "log", "idle_since", "writers", "readers", "rows", "pages", "walk", "count"]
abbrev WF_ : List Str := ["number", "state", "stopped_at"]
abbrev RF_ : List Str := ["own", "held", "opened_at", "is_there"]
abbrev WoF : List Str := ["writer", "spot", "state"]
abbrev PF_ : List Str := ["is_marked", "has_elder", "dropper"]
abbrev WkF : List Str := ["limit", "begun", "visited", "is_whole"]
def boxes (l : Lab → Nat) (f : Nat → Lab) (n : Nat) : List Sv := (List.range n).map fun i => .box (l (f i))
def drV (l : Lab → Nat) : Option Nat → Sv
  | some i => .box (l (.wr i))
  | none => .d .non
def walkV (l : Lab → Nat) (s : Stt) : Sv := match s.walk with
  | some _ => .box (l .wk)
  | none => .d .non
abbrev crsO (c : Cs) (l : Lab → Nat) (s : Stt) : WObj := .ins c.course CF [.d (keepD c.keeper s.ru.kp), .d (ldD c.load s.ld), .d (.int s.old), .d (.int s.now), .d (.int s.mark), .d (.int s.log), .d (.int s.idle), .box (l .wl), .box (l .rl), .box (l .rowl), .box (l .pgd), walkV l s, .d (.int s.count)]
abbrev wrO (c : Cs) (w : Wr) : WObj := .ins c.writer WF_ [.d (.int w.num), .d (.str w.st), .d (optI w.sa)]
abbrev rdO (c : Cs) (r : My.Rd) : WObj := .ins c.reader RF_ [.d (.int r.own), .d (.int r.held), .d (.int r.opened), .d (.bl r.there)]
abbrev rwO (c : Cs) (l : Lab → Nat) (r : Rw) : WObj := .ins c.row WoF [.box (l (.wr r.w)), .d (.int r.spot), .d (.str r.st)]
abbrev pgO (c : Cs) (l : Lab → Nat) (p : Pg) : WObj := .ins c.page PF_ [.d (.bl p.marked), .d (.bl p.elder), drV l p.dr]
abbrev wkO (c : Cs) (l : Lab → Nat) (k : Wk) : WObj := .ins c.walk WkF [.d (.int k.limit), .d (.int k.begun), .box (l .vis), .d (.bl k.whole)]
abbrev visO (k : Wk) : WObj := .dic (k.vis.map Sum.inl) (k.vis.map fun _ => .d (.bl true))
def obj (c : Cs) (l : Lab → Nat) (s : Stt) : Lab → Option WObj
  | .crs => some (crsO c l s)
  | .wl => some (.lst (boxes l .wr s.ws.length))
  | .rl => some (.lst (boxes l .rd s.rs.length))
  | .rowl => some (.lst (boxes l .row s.rows.length))
  | .pgd => some (.dic (s.spots.map Sum.inl) (boxes l .pg s.pgs.length))
  | .wk => s.walk.map (wkO c l)
  | .vis => s.walk.map visO
  | .wr i => (s.ws[i]?).map (wrO c)
  | .rd i => (s.rs[i]?).map (rdO c)
  | .row i => (s.rows[i]?).map (rwO c l)
  | .pg i => (s.pgs[i]?).map (pgO c l)
/-- there is such a thing -/
def has (s : Stt) : Lab → Bool
  | .wk => s.walk.isSome
  | .vis => s.walk.isSome
  | .wr i => decide (i < s.ws.length)
  | .rd i => decide (i < s.rs.length)
  | .row i => decide (i < s.rows.length)
  | .pg i => decide (i < s.pgs.length)
  | _ => true
theorem obj_has (c : Cs) (l : Lab → Nat) (s : Stt) (a : Lab) : (obj c l s a).isSome = has s a := by
  have q : ∀ {α β : Type} (xs : List α) (f : α → β) (i : Nat), ((xs[i]?).map f).isSome = decide (i < xs.length) := fun xs f i => by
    rw [Option.isSome_map]
    by_cases h : i < xs.length
    · rw [List.getElem?_eq_getElem h, decide_eq_true h]
      rfl
    · rw [List.getElem?_eq_none (Nat.le_of_not_lt h), decide_eq_false h]
      rfl
  cases a <;> first | rfl | exact q _ _ _ | exact Option.isSome_map
structure okS (s : Stt) : Prop where
  rw : ∀ r, r ∈ s.rows → r.w < s.ws.length
  dr : ∀ p, p ∈ s.pgs → ∀ d, p.dr = some d → d < s.ws.length
  sp : s.spots.length = s.pgs.length
  nd : s.spots.Nodup
  sa : ∀ w, w ∈ s.ws → w.st ≠ "running" → w.sa.isSome = true
  vs : ∀ k, s.walk = some k → k.vis.Nodup ∧ ∀ v, v ∈ k.vis → v ∈ s.spots
  z1 : s.ws.length ≤ 900
  z2 : s.rs.length ≤ 900
  z3 : s.rows.length ≤ 900
  z4 : s.spots.length ≤ 900
/-- the store stands in the world, by the places l -/
structure Rp (c : Cs) (n0 : Nat) (W : WS) (l : Lab → Nat) (s : Stt) : Prop where
  at_ : ∀ a o, obj c l s a = some o → W[l a]? = some o
  inj : ∀ a b, has s a = true → has s b = true → l a = l b → a = b
  lo : ∀ a, has s a = true → n0 ≤ l a
  ok : okS s
/-- labels that stay -/
def stay : Lab → Bool
  | .wk => false
  | .vis => false
  | _ => true
/-- all else stands -/
structure Up (l : Lab → Nat) (s : Stt) (W : WS) (l' : Lab → Nat) (s' : Stt) (W' : WS) : Prop where
  len : W.length ≤ W'.length
  fr : ∀ j, j < W.length → (∀ a, has s a = true → l a ≠ j) → W'[j]? = W[j]?
  lb : ∀ a, has s' a = true → (has s a = true ∧ l' a = l a) ∨ W.length ≤ l' a
  mo : ∀ a, stay a = true → has s a = true → has s' a = true ∧ l' a = l a
section
variable {c : Cs} {n0 : Nat} {W W' W2 : WS} {l l' l2 : Lab → Nat} {s s' s2 : Stt}
theorem Up.trans (h : Up l s W l' s' W') (k : Up l' s' W' l2 s2 W2) : Up l s W l2 s2 W2 := by
  refine ⟨Nat.le_trans h.len k.len, fun j hj hn => ?_, fun a ha => ?_, fun a ha hb => ?_⟩
  · rw [k.fr j (Nat.lt_of_lt_of_le hj h.len) fun a ha e => ?_, h.fr j hj hn]
    rcases h.lb a ha with ⟨q1, q2⟩ | q
    · exact hn a q1 (q2.symm.trans e)
    · omega
  · rcases k.lb a ha with ⟨q1, q2⟩ | q
    · rcases h.lb a q1 with ⟨r1, r2⟩ | r
      · exact .inl ⟨r1, q2.trans r2⟩
      · exact .inr (by rw [q2]; exact r)
    · exact .inr (Nat.le_trans h.len q)
  · obtain ⟨h1, h2⟩ := h.mo a ha hb
    obtain ⟨k1, k2⟩ := k.mo a ha h1
    exact ⟨k1, k2.trans h2⟩
theorem Up.crs (h : Up l s W l' s' W') : l' .crs = l .crs := (h.mo .crs rfl rfl).2
theorem Rp.some_ (c : Cs) (l : Lab → Nat) {a : Lab} (ha : has s a = true) : ∃ o, obj c l s a = some o := by
  have q := obj_has c l s a
  rw [ha] at q
  exact Option.isSome_iff_exists.mp q
theorem has_of {a : Lab} {o : WObj} (e : obj c l s a = some o) : has s a = true := by
  rw [← obj_has c l s a, e]
  rfl
theorem Rp.lt (h : Rp c n0 W l s) {a : Lab} (ha : has s a = true) : l a < W.length := by
  obtain ⟨o, e⟩ := Rp.some_ c l ha
  exact (List.getElem?_eq_some_iff.mp (h.at_ a o e)).1
theorem Rp.ne (h : Rp c n0 W l s) {a b : Lab} (ha : has s a = true) (hb : has s b = true) (e : a ≠ b) : l a ≠ l b := fun q => e (h.inj a b ha hb q)
theorem Rp.base (h : Rp c n0 W l s) : n0 ≤ W.length := Nat.le_of_lt (Nat.lt_of_le_of_lt (h.lo .crs rfl) (h.lt rfl))
theorem Up.same : Up l s W l s W := ⟨Nat.le_refl _, fun _ _ _ => rfl, fun _ h => .inl ⟨h, rfl⟩, fun _ _ h => ⟨h, rfl⟩⟩
/-- a thing that is not the store's changes -/
theorem Rp.out (h : Rp c n0 W l s) {j : Nat} {o : WObj} (hj : ∀ a, has s a = true → l a ≠ j) : Rp c n0 (W.set j o) l s :=
  ⟨fun a o' e => by rw [List.getElem?_set_ne (hj a (has_of e)).symm]; exact h.at_ a o' e, h.inj, h.lo, h.ok⟩
theorem has_eq {a : Lab} (h : obj c l' s' a = obj c l s a) : has s' a = has s a := by rw [← obj_has c l' s' a, ← obj_has c l s a, h]
/-- one thing of the store changes; others stand or are forgotten -/
theorem Rp.set (h : Rp c n0 W l s) {a : Lab} {o : WObj} (ha : has s a = true) (h1 : obj c l s' a = some o) (h2 : ∀ b, b ≠ a → obj c l s' b = obj c l s b ∨ (stay b = false ∧ obj c l s' b = none)) (ok : okS s') :
    Rp c n0 (W.set (l a) o) l s' ∧ Up l s W l s' (W.set (l a) o) := by
  have old : ∀ b, has s' b = true → has s b = true := fun b hb => by
    by_cases e : b = a
    · rw [e]; exact ha
    · rcases h2 b e with q | ⟨_, q⟩
      · rw [← has_eq q]; exact hb
      · obtain ⟨o', e'⟩ := Rp.some_ c l hb
        rw [q] at e'
        cases e'
  refine ⟨⟨fun b o' e => ?_, fun b b' hb hb' => h.inj b b' (old b hb) (old b' hb'), fun b hb => h.lo b (old b hb), ok⟩, by rw [List.length_set]; exact Nat.le_refl _, fun j hj hn => ?_, fun b hb => .inl ⟨old b hb, rfl⟩, fun b hs hb => ⟨?_, rfl⟩⟩
  · by_cases q : b = a
    · subst q
      rw [List.getElem?_set_self (h.lt ha)]
      rw [h1] at e
      exact e
    · have hb := old b (has_of e)
      rw [List.getElem?_set_ne (h.ne ha hb fun e => q e.symm)]
      rcases h2 b q with q2 | ⟨_, q2⟩
      · exact h.at_ b o' (q2 ▸ e)
      · rw [q2] at e
        cases e
  · exact List.getElem?_set_ne (hn a ha)
  · by_cases q : b = a
    · rw [q]; exact has_of h1
    · rcases h2 b q with q2 | ⟨q2, _⟩
      · rw [has_eq q2]; exact hb
      · rw [hs] at q2
        cases q2
end
end My

/-! what the defs of stores promise -/
namespace My
open PySem L2 DL
/-- where a new store stands -/
def newL (n : Nat) : Lab → Nat
  | .crs => n
  | .wl => n + 1
  | .rl => n + 2
  | .rowl => n + 3
  | .pgd => n + 4
  | _ => 0
/-- how many numbers an event has -/
def sizeE (w : Str) : Option Nat := if w = "take" ∨ w = "end" ∨ w = "break" ∨ w = "close" ∨ w = "visit" then some 1 else if w = "put" ∨ w = "drop" then some 2 else if w = "write" ∨ w = "open" ∨ w = "begin" ∨ w = "finish" then some 0 else none
structure okE (e : Ev) : Prop where
  sz : sizeE e.word = some e.nums.length
  nn : ∀ n, n ∈ e.nums → 0 ≤ n
/-- room for one more of each -/
def room1 (s : Stt) : Prop := s.ws.length < 900 ∧ s.rs.length < 900 ∧ s.rows.length < 900 ∧ s.spots.length < 900
/-- the writers of kept rows, by their numbers -/
def Stt.mkI (s : Stt) : List Nat := (s.rows.filter fun (r : Rw) => decide (r.st = "kept")).map fun (r : Rw) => r.w
def Stt.drI (s : Stt) : List Nat := (s.pgs.filter fun (g : Pg) => g.elder && g.dr.isSome).filterMap fun (g : Pg) => g.dr
def wrB (l : Lab → Nat) (is : List Nat) : List Sv := is.map fun i => .box (l (.wr i))
/-! what is told of a store -/
def Stt.pgsOf (s : Stt) (f : Pg → Bool) : List Int := (sortI s.spots).filter fun p => match s.pgAt p with
  | some i => (match s.pgs[i]? with
    | some g => f g
    | none => false)
  | none => false
def Stt.told (s : Stt) : List Dv := [.int s.now, .int s.mark, .int s.log, .int s.least, (match s.walk with | some k => .int k.limit | none => .non), .tup (s.rows.map fun r => .str r.st), .tup ((s.pgsOf (·.marked)).map Dv.int), .tup ((s.pgsOf fun g => !g.elder).map Dv.int)]
/-! events of texts -/
end My

/-! reading what the walks of stores say -/
namespace My
open PySem L2 DL
section
variable {gd : WS → Prop} {tgt : Tgt} {wt : WT} {we : WE} {vs : List Nat} {σ : DS} {W : WS}
end
section
variable {c : Cs} {n0 : Nat} {W : WS} {l : Lab → Nat} {s : Stt}
theorem Rp.wr (h : Rp c n0 W l s) {i : Nat} {w : Wr} (e : s.ws[i]? = some w) : W[l (.wr i)]? = some (wrO c w) := h.at_ (.wr i) _ (by
  show (s.ws[i]?).map _ = _
  rw [e]
  rfl)
theorem Rp.rd (h : Rp c n0 W l s) {i : Nat} {w : My.Rd} (e : s.rs[i]? = some w) : W[l (.rd i)]? = some (rdO c w) := h.at_ (.rd i) _ (by
  show (s.rs[i]?).map _ = _
  rw [e]
  rfl)
theorem Rp.row (h : Rp c n0 W l s) {i : Nat} {w : Rw} (e : s.rows[i]? = some w) : W[l (.row i)]? = some (rwO c l w) := h.at_ (.row i) _ (by
  show (s.rows[i]?).map _ = _
  rw [e]
  rfl)
theorem Rp.pg (h : Rp c n0 W l s) {i : Nat} {w : Pg} (e : s.pgs[i]? = some w) : W[l (.pg i)]? = some (pgO c l w) := h.at_ (.pg i) _ (by
  show (s.pgs[i]?).map _ = _
  rw [e]
  rfl)
theorem Rp.wk (h : Rp c n0 W l s) {w : Wk} (e : s.walk = some w) : W[l .wk]? = some (wkO c l w) := h.at_ .wk _ (by
  show s.walk.map _ = _
  rw [e]
  rfl)
theorem Rp.vis (h : Rp c n0 W l s) {w : Wk} (e : s.walk = some w) : W[l .vis]? = some (visO w) := h.at_ .vis _ (by
  show s.walk.map _ = _
  rw [e]
  rfl)
end
section
variable {σ : DS} {W : WS} {vs : List Nat} {tgt : Tgt} {wt : WT} {we we0 : WE} {l : Lab → Nat}
end

section
variable {σ : DS} {W : WS} {vs : List Nat} {tgt : Tgt} {wt : WT} {we we0 wo : WE}
end
section
variable {c : Cs} {n0 : Nat} {W : WS} {l : Lab → Nat} {s : Stt} {p : Int}
end

theorem okE.one {e : Ev} (h : okE e) (q : sizeE e.word = some 1) : ∃ a, e.nums = [a] ∧ 0 ≤ a := by
  have k := h.sz
  rw [q, Option.some.injEq] at k
  match hn : e.nums with
  | [a] => exact ⟨a, rfl, h.nn a (by rw [hn]; exact List.mem_cons_self)⟩
  | [] => rw [hn] at k; cases k
  | _ :: _ :: _ => rw [hn] at k; simp at k
theorem okE.two {e : Ev} (h : okE e) (q : sizeE e.word = some 2) : ∃ a b, e.nums = [a, b] ∧ 0 ≤ a ∧ 0 ≤ b := by
  have k := h.sz
  rw [q, Option.some.injEq] at k
  match hn : e.nums with
  | [a, b] => exact ⟨a, b, rfl, h.nn a (by rw [hn]; exact List.mem_cons_self), h.nn b (by rw [hn]; exact List.mem_cons_of_mem _ List.mem_cons_self)⟩
  | [] => rw [hn] at k; cases k
  | [_] => rw [hn] at k; simp at k
  | _ :: _ :: _ :: _ => rw [hn] at k; simp at k
end My

/-! stores change -/
namespace My
open PySem L2 DL
section
variable {c : Cs} {n0 : Nat} {W W' : WS} {l l' : Lab → Nat} {s s' : Stt}
theorem len_of {α : Type} {xs : List α} {i : Nat} {x : α} (e : xs[i]? = some x) : i < xs.length := (List.getElem?_eq_some_iff.mp e).1
theorem Rp.setPg (h : Rp c n0 W l s) {i : Nat} {g g' : Pg} (e : s.pgs[i]? = some g) (hd : ∀ d, g'.dr = some d → d < s.ws.length) :
    Rp c n0 (W.set (l (.pg i)) (pgO c l g')) l { s with pgs := s.pgs.set i g' } ∧ Up l s W l { s with pgs := s.pgs.set i g' } (W.set (l (.pg i)) (pgO c l g')) := by
  refine h.set (a := .pg i) (decide_eq_true (len_of e)) ?_ (fun b hb => .inl ?_) ⟨h.ok.rw, fun p hp d e => ?_, by rw [List.length_set]; exact h.ok.sp, h.ok.nd, h.ok.sa, h.ok.vs, h.ok.z1, h.ok.z2, h.ok.z3, h.ok.z4⟩
  · show ((s.pgs.set i g')[i]?).map _ = _
    rw [List.getElem?_set_self (len_of e)]
    rfl
  · cases b with
    | pg j =>
      show ((s.pgs.set i g')[j]?).map _ = (s.pgs[j]?).map _
      rw [List.getElem?_set_ne fun q => hb (by rw [q])]
    | pgd =>
      show some (WObj.dic _ (boxes l .pg (s.pgs.set i g').length)) = _
      rw [List.length_set]
      rfl
    | _ => rfl
  · rcases List.mem_or_eq_of_mem_set hp with hp | hp
    · exact h.ok.dr p hp d e
    · subst hp
      exact hd d e
theorem Rp.setWr (h : Rp c n0 W l s) {i : Nat} {g g' : Wr} (e : s.ws[i]? = some g) (hs : g'.st ≠ "running" → g'.sa.isSome = true) :
    Rp c n0 (W.set (l (.wr i)) (wrO c g')) l { s with ws := s.ws.set i g' } ∧ Up l s W l { s with ws := s.ws.set i g' } (W.set (l (.wr i)) (wrO c g')) := by
  refine h.set (a := .wr i) (decide_eq_true (len_of e)) ?_ (fun b hb => .inl ?_) ⟨fun p hp => by rw [List.length_set]; exact h.ok.rw p hp, fun p hp d e => by rw [List.length_set]; exact h.ok.dr p hp d e, h.ok.sp, h.ok.nd, fun w hw => ?_, h.ok.vs, by rw [List.length_set]; exact h.ok.z1, h.ok.z2, h.ok.z3, h.ok.z4⟩
  · show ((s.ws.set i g')[i]?).map _ = _
    rw [List.getElem?_set_self (len_of e)]
    rfl
  · cases b with
    | wr j =>
      show ((s.ws.set i g')[j]?).map _ = (s.ws[j]?).map _
      rw [List.getElem?_set_ne fun q => hb (by rw [q])]
    | wl =>
      show some (WObj.lst (boxes l .wr (s.ws.set i g').length)) = _
      rw [List.length_set]
      rfl
    | _ => rfl
  · rcases List.mem_or_eq_of_mem_set hw with hw | hw
    · exact h.ok.sa w hw
    · subst hw
      exact hs
/-! new ones -/
theorem at_n {α : Type} (xs : List α) (x : α) : (xs ++ [x])[xs.length]? = some x := by
  rw [List.getElem?_append_right (Nat.le_refl _), Nat.sub_self]
  rfl
end
end My

/-! loops over things of the world -/
namespace DL
open PySem L2
end DL
namespace My
open PySem L2 DL
section
variable {c : Cs} {n0 : Nat} {W : WS} {l : Lab → Nat} {s : Stt}
end
end My
namespace My
open PySem L2 DL
section
variable {c : Cs} {n0 : Nat} {W W' : WS} {l : Lab → Nat} {s : Stt}
end
end My
namespace My
open PySem L2 DL
end My

/-! visits, events, the harms behind them -/
namespace My
open PySem L2 DL
section
variable {c : Cs} {n0 : Nat} {W : WS} {l : Lab → Nat} {s : Stt}
end
/-! the harms of an event -/
/-! a dict of harms -/
def dkey (L : List (Str × Bool)) : List Key := L.map fun q => Sum.inr q.1
def dval (L : List (Str × Bool)) : List Sv := L.map fun q => Sv.d (.bl q.2)
/-- the world while an event's harms are gathered -/
structure DoW (c : Cs) (n0 : Nat) (l0 : Lab → Nat) (s0 : Stt) (W0 W : WS) (l : Lab → Nat) (s : Stt) (h m1 m2 b : Nat) (L : List (Str × Bool)) : Prop where
  rp : Rp c n0 W l s
  up : Up l0 s0 W0 l s W
  hh : W[h]? = some (.dic (dkey L) (dval L))
  out : ∀ a, has s a = true → l a ≠ h
  ge : W0.length ≤ h
  k1 : W[m1]? = some (.lst (wrB l s.mkI))
  k2 : W[m2]? = some (.lst (wrB l s.drI))
  k3 : W[b]? = some (.lst (wrB l (s.mkI ++ s.drI)))
  n1 : m1 ≠ h
  n2 : m2 ≠ h
  n3 : b ≠ h
theorem Up.outS {l0 l : Lab → Nat} {s0 s : Stt} {W0 W : WS} (u : Up l0 s0 W0 l s W) {j : Nat} (hj : W0.length ≤ j) (o : WObj) : Up l0 s0 W0 l s (W.set j o) :=
  ⟨by rw [List.length_set]; exact u.len, fun i hi hn => by rw [List.getElem?_set_ne (by omega)]; exact u.fr i hi hn, u.lb, u.mo⟩
theorem DoW.put {c : Cs} {n0 : Nat} {l0 l : Lab → Nat} {s0 s : Stt} {W0 W : WS} {h m1 m2 b : Nat} {L : List (Str × Bool)} (d : DoW c n0 l0 s0 W0 W l s h m1 m2 b L) (L' : List (Str × Bool)) : DoW c n0 l0 s0 W0 (W.set h (.dic (dkey L') (dval L'))) l s h m1 m2 b L' :=
  ⟨d.rp.out d.out, d.up.outS d.ge _, List.getElem?_set_self (len_of d.hh), d.out, d.ge, by rw [List.getElem?_set_ne d.n1.symm]; exact d.k1, by rw [List.getElem?_set_ne d.n2.symm]; exact d.k2, by rw [List.getElem?_set_ne d.n3.symm]; exact d.k3, d.n1, d.n2, d.n3⟩
end My

/-! what is told of stores, events of texts -/
namespace My
open PySem L2 DL
/-! events of texts -/
end My

/-! for over enumerate of what may raise -/
namespace DL
open PySem L2
end DL

/-! histories -/
namespace My
open PySem L2 DL
/-- the harms behind an event, ascending -/
def Stt.harms (s : Stt) (e : Ev) : List Str := (s.does e).2.mergeSort strLe
def addH (at_ : Int) (f : List (Str × Int)) (h : Str) : List (Str × Int) := if h ∈ f.map (·.1) then f else f ++ [(h, at_)]
def Stt.run (s : Stt) (f : List (Str × Int)) : Nat → List Ev → (Stt × List (Str × Int)) ⊕ Nat
  | _, [] => .inl (s, f)
  | i, e :: es => if s.can e = true then Stt.run (s.does e).1 ((s.harms e).foldl (addH (i : Nat)) f) (i + 1) es else .inr i
/-- what is made stands behind what was there -/
structure Fr (W W' : WS) : Prop where
  len : W.length ≤ W'.length
  at_ : ∀ j, j < W.length → W'[j]? = W[j]?
theorem Fr.trans {W W' W2 : WS} (h : Fr W W') (k : Fr W' W2) : Fr W W2 := ⟨Nat.le_trans h.len k.len, fun j hj => (k.at_ j (Nat.lt_of_lt_of_le hj h.len)).trans (h.at_ j hj)⟩
/-- sizes -/
structure szS (s : Stt) (n : Nat) : Prop where
  a : s.ws.length ≤ n
  b : s.rs.length ≤ n
  c : s.rows.length ≤ n
  d : s.spots.length ≤ n
theorem szS.room {s : Stt} {n : Nat} (h : szS s n) (hn : n < 900) : room1 s := ⟨by have := h.a; omega, by have := h.b; omega, by have := h.c; omega, by have := h.d; omega⟩
end My

/-! C(e, .., k = v, ..), defaults between -/
namespace DLG
open PySem PySem.Spec PyProof.Rows L2
end DLG
namespace DL
open PySem L2 PySem.Spec PyProof.Rows
end DL

/-! histories that are computed -/
namespace My
open PySem L2 DL
/-! the same, computed -/
/-! what was met is in its order -/
end My

/-! the first harms -/
namespace My
open PySem L2 DL
/-- a new store stands -/
theorem Rp.new (c : Cs) (W : WS) (r : Ru) (ld : Ld) (half : Int) : Rp c W.length (W ++ [crsO c (newL W.length) (Stt.new r ld half), .lst [], .lst [], .lst [], .dic [] []]) (newL W.length) (Stt.new r ld half) := by
  have at_ : ∀ (k : Nat) (o : WObj), [crsO c (newL W.length) (Stt.new r ld half), .lst [], .lst [], .lst [], .dic [] []][k]? = some o → (W ++ [crsO c (newL W.length) (Stt.new r ld half), .lst [], .lst [], .lst [], .dic [] []])[W.length + k]? = some o := fun k o e => by
    rw [List.getElem?_append_right (Nat.le_add_right _ _), Nat.add_sub_cancel_left]
    exact e
  refine ⟨fun a o e => ?_, fun a b ha hb e => ?_, fun a ha => ?_, ⟨fun r h => absurd h List.not_mem_nil, fun p h => absurd h List.not_mem_nil, rfl, List.nodup_nil, fun w h => absurd h List.not_mem_nil, fun k e => (by cases e), Nat.zero_le _, Nat.zero_le _, Nat.zero_le _, Nat.zero_le _⟩⟩
  · cases a with
    | crs => cases e; exact at_ 0 _ rfl
    | wl => cases e; exact at_ 1 _ rfl
    | rl => cases e; exact at_ 2 _ rfl
    | rowl => cases e; exact at_ 3 _ rfl
    | pgd => cases e; exact at_ 4 _ rfl
    | _ => cases e
  · cases a <;> cases b <;> first | rfl | (cases ha; done) | (cases hb; done) | (exfalso; have e : W.length + _ = W.length + _ := e; omega) | (exfalso; have e : W.length = W.length + _ := e; omega) | (exfalso; have e : W.length + _ = W.length := e; omega)
  · cases a <;> first | exact Nat.le_add_right _ _ | exact Nat.le_refl _ | cases ha
end My

/-! rules for the laws' own stores -/
namespace DL
open PySem L2
section
variable {K : PySem.W.Frag} {z : Av} {As : List (List Addr)} {H H' : Hp}
theorem HasVL.mrg : ∀ {ks2 : List Key} {vs2 : List V} {ds2 : List Sv} {ks : List Key} {vs : List V} {ds : List Sv}, HasVL K z As H vs ds → HasVL K z As H vs2 ds2 → HasVL K z As H (mrgDs ks vs ks2 vs2) (mrgDs ks ds ks2 ds2)
  | [], _, _, _, _, _, h, _ => by
    unfold mrgDs
    exact h
  | _ :: _, _, _, _, _, _, h, .nil => h
  | k :: r, _, _, ks, vs, ds, h, .cons (v := v) (vs := us) a t => by
    rename_i d es
    show HasVL K z As H (mrgDs (putKs ks k) (putDs ks vs k v) r us) (mrgDs (putKs ks k) (putDs ks ds k d) r es)
    exact HasVL.mrg (h.put a) t
end
/-! {k: e, ..} as a thing of the world -/
/-! d.update(e) -/
/-! xs + ys, lists of the world -/
/-! xs == [], xs != [] of a list of the world -/
section
variable {X : Cx} {e r : Expr} {te tr : TE} {we : WE} {wr : WB} {pos : Pos}
end
/-! len inside a comprehension -/
end DL

namespace My
open PySem L2 DL
end My

/-! how a law's own store stands in the world: a dict, lists of lists (printed by gen/mklw.py) -/
namespace My
namespace Lw
open PySem L2 DL
abbrev SK : List Key := [.inr "next", .inr "edge", .inr "end", .inr "since", .inr "pass", .inr "count", .inr "writers", .inr "readers", .inr "rows", .inr "pages"]
/-- the law's own word for a writer's state (one for one) -/
def stW (s : Str) : Str := if s = "running" then "runs" else if s = "runs" then "running" else s
def drW : Option Nat → Dv
  | some i => .int i
  | none => .non
abbrev crsO (l : Lab → Nat) (s : Stt) : WObj := .dic SK [.d (.int s.now), .d (.int s.mark), .d (.int s.log), .d (.int s.idle), walkV l s, .d (.int s.count), .box (l .wl), .box (l .rl), .box (l .rowl), .box (l .pgd)]
abbrev wrO (w : Wr) : WObj := .lst [.d (.int w.num), .d (.str (stW w.st)), .d (optI w.sa)]
abbrev rdO (r : My.Rd) : WObj := .lst [.d (.int r.own), .d (.int r.held), .d (.int r.opened), .d (.bl r.there)]
abbrev rwO (r : Rw) : WObj := .lst [.d (.int r.w), .d (.int r.spot), .d (.str r.st)]
abbrev pgO (p : Pg) : WObj := .lst [.d (.bl p.marked), .d (.bl p.elder), .d (drW p.dr)]
abbrev wkO (l : Lab → Nat) (k : Wk) : WObj := .lst [.d (.int k.limit), .d (.int k.begun), .box (l .vis), .d (.bl k.whole)]
abbrev visO (k : Wk) : WObj := .lst (k.vis.map fun i => .d (.int i))
def obj (l : Lab → Nat) (s : Stt) : Lab → Option WObj
  | .crs => some (crsO l s)
  | .wl => some (.lst (boxes l .wr s.ws.length))
  | .rl => some (.lst (boxes l .rd s.rs.length))
  | .rowl => some (.lst (boxes l .row s.rows.length))
  | .pgd => some (.dic (s.spots.map Sum.inl) (boxes l .pg s.pgs.length))
  | .wk => s.walk.map (wkO l)
  | .vis => s.walk.map visO
  | .wr i => (s.ws[i]?).map wrO
  | .rd i => (s.rs[i]?).map rdO
  | .row i => (s.rows[i]?).map rwO
  | .pg i => (s.pgs[i]?).map pgO
theorem obj_has (l : Lab → Nat) (s : Stt) (a : Lab) : (obj l s a).isSome = has s a := by
  have q : ∀ {α β : Type} (xs : List α) (f : α → β) (i : Nat), ((xs[i]?).map f).isSome = decide (i < xs.length) := fun xs f i => by
    rw [Option.isSome_map]
    by_cases h : i < xs.length
    · rw [List.getElem?_eq_getElem h, decide_eq_true h]
      rfl
    · rw [List.getElem?_eq_none (Nat.le_of_not_lt h), decide_eq_false h]
      rfl
  cases a <;> first | rfl | exact q _ _ _ | exact Option.isSome_map
/-- the store stands in the world, by the places l -/
structure Rp (n0 : Nat) (W : WS) (l : Lab → Nat) (s : Stt) : Prop where
  at_ : ∀ a o, obj l s a = some o → W[l a]? = some o
  inj : ∀ a b, has s a = true → has s b = true → l a = l b → a = b
  lo : ∀ a, has s a = true → n0 ≤ l a
  ok : okS s
section
variable {n0 : Nat} {W W' W2 : WS} {l l' l2 : Lab → Nat} {s s' s2 : Stt}
theorem Rp.some_ (l : Lab → Nat) {a : Lab} (ha : has s a = true) : ∃ o, obj l s a = some o := by
  have q := obj_has l s a
  rw [ha] at q
  exact Option.isSome_iff_exists.mp q
theorem has_of {a : Lab} {o : WObj} (e : obj l s a = some o) : has s a = true := by
  rw [← obj_has l s a, e]
  rfl
theorem Rp.lt (h : Rp n0 W l s) {a : Lab} (ha : has s a = true) : l a < W.length := by
  obtain ⟨o, e⟩ := Rp.some_ l ha
  exact (List.getElem?_eq_some_iff.mp (h.at_ a o e)).1
theorem Rp.ne (h : Rp n0 W l s) {a b : Lab} (ha : has s a = true) (hb : has s b = true) (e : a ≠ b) : l a ≠ l b := fun q => e (h.inj a b ha hb q)
theorem Rp.base (h : Rp n0 W l s) : n0 ≤ W.length := Nat.le_of_lt (Nat.lt_of_le_of_lt (h.lo .crs rfl) (h.lt rfl))
theorem Rp.out (h : Rp n0 W l s) {j : Nat} {o : WObj} (hj : ∀ a, has s a = true → l a ≠ j) : Rp n0 (W.set j o) l s :=
  ⟨fun a o' e => by rw [List.getElem?_set_ne (hj a (has_of e)).symm]; exact h.at_ a o' e, h.inj, h.lo, h.ok⟩
theorem has_eq {a : Lab} (h : obj l' s' a = obj l s a) : has s' a = has s a := by rw [← obj_has l' s' a, ← obj_has l s a, h]
theorem Rp.set (h : Rp n0 W l s) {a : Lab} {o : WObj} (ha : has s a = true) (h1 : obj l s' a = some o) (h2 : ∀ b, b ≠ a → obj l s' b = obj l s b ∨ (stay b = false ∧ obj l s' b = none)) (ok : okS s') :
    Rp n0 (W.set (l a) o) l s' ∧ Up l s W l s' (W.set (l a) o) := by
  have old : ∀ b, has s' b = true → has s b = true := fun b hb => by
    by_cases e : b = a
    · rw [e]; exact ha
    · rcases h2 b e with q | ⟨_, q⟩
      · rw [← has_eq q]; exact hb
      · obtain ⟨o', e'⟩ := Rp.some_ l hb
        rw [q] at e'
        cases e'
  refine ⟨⟨fun b o' e => ?_, fun b b' hb hb' => h.inj b b' (old b hb) (old b' hb'), fun b hb => h.lo b (old b hb), ok⟩, by rw [List.length_set]; exact Nat.le_refl _, fun j hj hn => ?_, fun b hb => .inl ⟨old b hb, rfl⟩, fun b hs hb => ⟨?_, rfl⟩⟩
  · by_cases q : b = a
    · subst q
      rw [List.getElem?_set_self (h.lt ha)]
      rw [h1] at e
      exact e
    · have hb := old b (has_of e)
      rw [List.getElem?_set_ne (h.ne ha hb fun e => q e.symm)]
      rcases h2 b q with q2 | ⟨_, q2⟩
      · exact h.at_ b o' (q2 ▸ e)
      · rw [q2] at e
        cases e
  · exact List.getElem?_set_ne (hn a ha)
  · by_cases q : b = a
    · rw [q]; exact has_of h1
    · rcases h2 b q with q2 | ⟨q2, _⟩
      · rw [has_eq q2]; exact hb
      · rw [hs] at q2
        cases q2
theorem Rp.wr (h : Rp n0 W l s) {i : Nat} {w : Wr} (e : s.ws[i]? = some w) : W[l (.wr i)]? = some (wrO w) := h.at_ (.wr i) _ (by
  show (s.ws[i]?).map _ = _
  rw [e]
  rfl)
theorem Rp.rd (h : Rp n0 W l s) {i : Nat} {w : My.Rd} (e : s.rs[i]? = some w) : W[l (.rd i)]? = some (rdO w) := h.at_ (.rd i) _ (by
  show (s.rs[i]?).map _ = _
  rw [e]
  rfl)
theorem Rp.row (h : Rp n0 W l s) {i : Nat} {w : Rw} (e : s.rows[i]? = some w) : W[l (.row i)]? = some (rwO w) := h.at_ (.row i) _ (by
  show (s.rows[i]?).map _ = _
  rw [e]
  rfl)
theorem Rp.pg (h : Rp n0 W l s) {i : Nat} {w : Pg} (e : s.pgs[i]? = some w) : W[l (.pg i)]? = some (pgO w) := h.at_ (.pg i) _ (by
  show (s.pgs[i]?).map _ = _
  rw [e]
  rfl)
theorem Rp.wk (h : Rp n0 W l s) {w : Wk} (e : s.walk = some w) : W[l .wk]? = some (wkO l w) := h.at_ .wk _ (by
  show s.walk.map _ = _
  rw [e]
  rfl)
theorem Rp.vis (h : Rp n0 W l s) {w : Wk} (e : s.walk = some w) : W[l .vis]? = some (visO w) := h.at_ .vis _ (by
  show s.walk.map _ = _
  rw [e]
  rfl)
theorem Rp.setPg (h : Rp n0 W l s) {i : Nat} {g g' : Pg} (e : s.pgs[i]? = some g) (hd : ∀ d, g'.dr = some d → d < s.ws.length) :
    Rp n0 (W.set (l (.pg i)) (pgO g')) l { s with pgs := s.pgs.set i g' } ∧ Up l s W l { s with pgs := s.pgs.set i g' } (W.set (l (.pg i)) (pgO g')) := by
  refine h.set (a := .pg i) (decide_eq_true (len_of e)) ?_ (fun b hb => .inl ?_) ⟨h.ok.rw, fun p hp d e => ?_, by rw [List.length_set]; exact h.ok.sp, h.ok.nd, h.ok.sa, h.ok.vs, h.ok.z1, h.ok.z2, h.ok.z3, h.ok.z4⟩
  · show ((s.pgs.set i g')[i]?).map _ = _
    rw [List.getElem?_set_self (len_of e)]
    rfl
  · cases b with
    | pg j =>
      show ((s.pgs.set i g')[j]?).map _ = (s.pgs[j]?).map _
      rw [List.getElem?_set_ne fun q => hb (by rw [q])]
    | pgd =>
      show some (WObj.dic _ (boxes l .pg (s.pgs.set i g').length)) = _
      rw [List.length_set]
      rfl
    | _ => rfl
  · rcases List.mem_or_eq_of_mem_set hp with hp | hp
    · exact h.ok.dr p hp d e
    · subst hp
      exact hd d e
theorem Rp.setWr (h : Rp n0 W l s) {i : Nat} {g g' : Wr} (e : s.ws[i]? = some g) (hs : g'.st ≠ "running" → g'.sa.isSome = true) :
    Rp n0 (W.set (l (.wr i)) (wrO g')) l { s with ws := s.ws.set i g' } ∧ Up l s W l { s with ws := s.ws.set i g' } (W.set (l (.wr i)) (wrO g')) := by
  refine h.set (a := .wr i) (decide_eq_true (len_of e)) ?_ (fun b hb => .inl ?_) ⟨fun p hp => by rw [List.length_set]; exact h.ok.rw p hp, fun p hp d e => by rw [List.length_set]; exact h.ok.dr p hp d e, h.ok.sp, h.ok.nd, fun w hw => ?_, h.ok.vs, by rw [List.length_set]; exact h.ok.z1, h.ok.z2, h.ok.z3, h.ok.z4⟩
  · show ((s.ws.set i g')[i]?).map _ = _
    rw [List.getElem?_set_self (len_of e)]
    rfl
  · cases b with
    | wr j =>
      show ((s.ws.set i g')[j]?).map _ = (s.ws[j]?).map _
      rw [List.getElem?_set_ne fun q => hb (by rw [q])]
    | wl =>
      show some (WObj.lst (boxes l .wr (s.ws.set i g').length)) = _
      rw [List.length_set]
      rfl
    | _ => rfl
  · rcases List.mem_or_eq_of_mem_set hw with hw | hw
    · exact h.ok.sa w hw
    · subst hw
      exact hs
end
end Lw
end My

/-! xs[a:] = ys, things -/
namespace DLG
open PySem PySem.Spec PyProof.Rows L2
section
variable {prog : Program} {w : World} {A : Around} {E : Value → Shared → Prop} {s : Shared}
end
section
variable {X : Cx}
end
end DLG
namespace DL
open PySem L2 DLG
theorem HasVL.tk {K : PySem.W.Frag} {z : Av} {As : List (List Addr)} {H : Hp} : ∀ {vs : List V} {xs : List Sv} (n : Nat), HasVL K z As H vs xs → HasVL K z As H (vs.take n) (xs.take n)
  | _, _, 0, _ => by
    rw [List.take_zero, List.take_zero]
    exact .nil
  | _, _, n + 1, .nil => .nil
  | _, _, n + 1, .cons a b => .cons a (b.tk n)
end DL
namespace DLG
open PySem L2
section
variable {X : Cx}
end
end DLG
namespace DL
open PySem L2 DLG
end DL
namespace DL
open PySem L2 DLG
section
variable {K : PySem.W.Frag} {z : Av} {O : Nat → Option Addr} {As As2 : List (List Addr)} {σd : DS} {W W2 : WS} {σ : St} {H H2 : Hp}
end
end DL
namespace DL
open PySem L2 DLG
end DL
namespace DL
open PySem L2 DLG
end DL
namespace DL
open PySem L2 DLG
section
variable {X : Cx} {e r : Expr} {te tr : TE} {we : WB} {wr : WE} {pos : Pos}
end
end DL

/-! what the defs of a law's own store promise -/
namespace My
namespace Lw
open PySem L2 DL
structure okP (e : Ev) : Prop where
  ok : okE e
  hd : e.held = true → e.word = "visit"
/-- an event has happened -/
def Stt.hap (s : Stt) (e : Ev) : Stt := { (s.led e).1 with count := (s.led e).1.count + 1 }
end Lw
end My

/-! reading and writing the law's own store -/
namespace My
namespace Lw
open PySem L2 DL
section
variable {a0 a1 a2 a3 a4 a5 a6 a7 a8 a9 u : Sv}
end
section
variable {σ : DS} {W : WS}
end
end Lw
end My

/-! events told and read again (plain) -/
namespace My
namespace Lw
open PySem L2 DL TL
end Lw
end My

/-! what the laws draw: settings, loads, events -/
namespace My
namespace Lw
open PySem L2 DL
def okLt : Lt → Prop
  | .at_ i => 1 ≤ i ∧ i < 10000000000000000000
  | _ => True
structure okR (r : Ru) : Prop where
  b2 : 2 ≤ r.b
  bm : r.b ≤ 1000000000000000000
  f1 : 1 ≤ r.f
  fb : r.f < r.b
  s1 : ∀ t, r.s = some t → 1 ≤ t ∧ t < 10000000000000000000
  c : r.c ∈ (["all", "both", "now", "readers"] : List Str)
  m : r.m ∈ (["frozen", "never", "seen"] : List Str)
  mo : r.mo ∈ (["always", "whole"] : List Str)
  cu : r.cu ∈ (["horizon", "mark", "never"] : List Str)
  ma : okLt r.ma
  h : okLt r.h
theorem lt_pass {t : Lt} (h : okLt t) : passD t.d := by
  cases t with
  | al => exact .inl rfl
  | nv => exact .inr (.inl rfl)
  | at_ i => exact .inr (.inr ⟨i, rfl, h.1, h.2⟩)
theorem okR.good {r : Ru} (q : okR r) : r.kp.good := by
  have e1 : wordsK "counts" = (["all", "both", "now", "readers"] : List Str) := by kernel_rfl
  have e2 : wordsK "marks" = (["frozen", "never", "seen"] : List Str) := by kernel_rfl
  have e3 : wordsK "moves" = (["always", "whole"] : List Str) := by kernel_rfl
  have e4 : wordsK "cut" = (["horizon", "mark", "never"] : List Str) := by kernel_rfl
  have kc := DL.ok_word (n := "counts") (x := .str r.c) ⟨r.c, rfl, e1 ▸ q.c⟩ (by simp)
  have km := DL.ok_word (n := "marks") (x := .str r.m) ⟨r.m, rfl, e2 ▸ q.m⟩ (by simp)
  have kmo := DL.ok_word (n := "moves") (x := .str r.mo) ⟨r.mo, rfl, e3 ▸ q.mo⟩ (by simp)
  have kcu := DL.ok_word (n := "cut") (x := .str r.cu) ⟨r.cu, rfl, e4 ▸ q.cu⟩ (by simp)
  have kst := DL.ok_stop (x := optI r.s) (by
    cases hs : r.s with
    | none => exact .inl rfl
    | some t => exact .inr ⟨t, rfl, (q.s1 t hs).1, (q.s1 t hs).2⟩)
  have kma := DL.ok_pass (lt_pass q.ma) (.inl rfl)
  have khe := DL.ok_pass (lt_pass q.h) (.inr rfl)
  have kcl := DL.ok_bool (n := "clears") (b := r.cl) (.inl rfl)
  have kn := DL.ok_bool (n := "needs") (b := r.n) (.inr rfl)
  have h4 := q.bm
  exact good_mk r.kp rfl rfl q.f1 q.fb q.b2 (by omega) kst.2 kc.2 km.2 kcl.2 kmo.2 kcu.2 kn.2 kma.2 khe.2 kst.1 kc.1 km.1 kcl.1 kmo.1 kcu.1 kn.1 kma.1 khe.1
/-- the page that an event names -/
def pageOf (e : Ev) : Option Int := if e.word = "put" ∨ e.word = "drop" then e.nums[1]? else if e.word = "visit" then e.nums[0]? else none
structure small (e : Ev) : Prop where
  ok : okP e
  n : ∀ i, i ∈ e.nums → i < 1000
  t0 : ¬ (e.word = "take" ∧ e.nums = [0])
  p : ∀ i, pageOf e = some i → i < 3
/-! histories -/
def after (s : Stt) (es : List Ev) : Stt := es.foldl Stt.hap s
end Lw
end My

/-! try: body, except B: suite (no name), over data -/
namespace DL
open PySem L2
section
variable {X : Cx} {x : Str} {B : Addr} {body suite : List Stmt} {b₀ : Stmt} {np pos pos' : Pos} {tx : WX → TS} {wx : XW → WSt} {ts : Addr → Value → Option Addr → TS} {ws : Addr → Value → Option Addr → WSt}
end
end DL

/-! sorted(set(xs)) of texts -/
namespace DLG
open PySem PySem.Spec PyProof.Rows L2 PySem.Froz
def keyV : Value → Str
  | .str k _ => k
  | _ => ""
def keyT (e : Int × Value) : Str := keyV e.2
/-- the payload D holds the texts l, each once, and can be walked -/
structure TxS (P : Program) (w : World) (D : SD) (l : List Str) : Prop where
  ok : TxOk P w D l
  txt : ∀ e, e ∈ D.1.toList → ∃ u, e.2 = Value.str (keyT e) u
  keys : (D.1.toList.map keyT).Perm l
  ris : Ris D.2.2.place.toList
  led : w.params.followText "set-order" = true ∨ D.2.2.led = true
def SetX (P : Program) (w : World) (h : Heap) (a : Addr) (l : List Str) : Prop := ∃ D, h.get? a = some (sObj "set" D) ∧ TxS P w D l
section
variable {P : Program} {w : World} {A : Around} {E : Value → Shared → Prop} {s : Shared} {a : Addr} {l : List Str}
theorem SetX.at {h h' : Heap} (R : SetX P w h a l) (k : ∀ o, h.get? a = some o → h'.get? a = some o) : SetX P w h' a l := by
  obtain ⟨D, ho, r⟩ := R
  exact ⟨D, k _ ho, r⟩
end
section
variable {X : Cx}
end
end DLG
namespace DL
open PySem L2
section
variable {X : Cx} {x x2 : Str} {p p2 pos pos2 : Pos} {e : Expr} {t : TA} {wa : WAB}
end
end DL

/-! for a, b in ((x, thing), (y, thing)) -/
namespace DL
open PySem L2
abbrev TgtW := Sv → DS → WS → Option DS
section
variable {K : PySem.W.Frag} {z : Av} {As0 : List (List Addr)} {ow0 : Av} {H0 : Hp} {g : TG} {tgt : TgtW} {is : List Nat} {tb : TS} {wb : WSt}
end
section
variable {X : Cx} {K : PySem.W.Frag} {tg e : Expr} {te : TE} {we : WE} {pos : Pos} {body : List Stmt} {tb : TS} {wb : WSt}
end
end DL

/-! x, a, b, c = a value, [], [], [] -/
namespace DL
open PySem L2 DLG
section
variable {K : PySem.W.Frag}
end
end DL

/-! an own list lent to a call that makes an instance which, by its shape, cannot hold it -/
namespace DL
open PySem PySem.Spec PyProof.Rows L2
section
variable {K : PySem.W.Frag}
end
end DL

/-! an own list: xs[a:c] = [..] -/
namespace DLG
open PySem L2
section
variable {X : Cx}
end
end DLG
namespace DL
open PySem L2 DLG
end DL

/-! list(range(n)) -/
namespace DL
open PySem L2
section
variable {K : PySem.W.Frag}
end
section
variable {X : Cx} {n : Int} {p p2 pos pos2 : Pos} {a : Expr}
end
end DL

/-! a walk over a tuple within a comprehension; a text's slice -/
namespace DL
open PySem L2
end DL

/-! text.replace("..", str(i)) -/
namespace DLG
open PySem PySem.Spec PyProof.Rows L2 CwR
section
variable {X : Cx} {o e : Expr} {to te : TE} {y c : Str} {j k j2 : Nat} {c0 c2 apos pos p pos2 : Pos}
end
end DLG
namespace DL
open PySem L2
section
variable {X : Cx} {o e : Expr} {to te : TE} {wo we : WE} {y c x : Str} {j k j2 : Nat} {c0 c2 apos pos pos' p pos2 : Pos} {st : Stmt} {rest : List Stmt} {t u : TS} {wt wu : WSt}
end
end DL

/-! methods that may raise; own __len__; tuples of things that grow -/
namespace DLG
open PySem PySem.Spec PyProof.Rows L2
section
variable {X : Cx} {CX : CXT} {k : Nat} {f C : Addr} {fd : FuncData} {ps : List Str} {sp : Sp} {E : L2.St → XK} {m : Str} {p pos apos : Pos} {e o : Expr} {es : List Expr} {ta : TE} {t : TA}
end
/-! len of an own class with __len__ -/
section
variable {prog : Program} {w : World} {A : Around} {E : Value → Shared → Prop} {s : Shared} {K : PySem.W.Frag} {x C f : Addr} {ox : Obj} {od : Option Obj}
end
section
variable {X : Cx} {C g : Addr} {fd : FuncData} {ps : List Str} {sp : Sp} {n : Nat}
end
end DLG
namespace DL
open PySem L2
section
variable {X : Cx} {K : PySem.W.Frag} {x m : Str} {p pos apos : Pos} {e o : Expr} {es : List Expr} {te : TE} {we : WE} {t : TA} {wa : WA} {C fa : Addr} {fd : FuncData} {ps : List Str} {k : Nat} {to : TE} {wo : WE}
end
end DL

/-! len(set(texts)) of a list or a tuple -/
namespace DLG
open PySem PySem.Spec PyProof.Rows L2 PySem.Froz
section
variable {P : Program} {w : World} {A : Around} {E : Value → Shared → Prop} {s : Shared} {a : Addr} {l : List Str}
end
section
variable {X : Cx}
end
end DLG
namespace DL
open PySem L2
section
variable {X : Cx} {p p2 pos pos2 : Pos} {e : Expr} {t : TA} {wa : WAB}
end
end DL

/-! t.count(word), t a tuple of texts whose object is known -/
namespace DLG
open PySem L2 PyProof.Rows
section
variable {X : Cx}
end
end DLG
namespace DL
open PySem L2
section
variable {X : Cx} {pos apos : Pos} {e o : Expr} {te to : TE} {wo : WE} {wb : WB}
end
end DL

/-! defs that show things by repr: called where nothing is being shown -/
namespace DLG
open PySem PySem.Spec PyProof.Rows L2
section
variable {X : Cx} {k : Nat} {f : Addr} {fd : FuncData} {ps : List Str} {sp : Sp} {ds : List Value} {dvs : List V} {x : Str} {p pos : Pos} {e : Expr} {es : List Expr} {t : TA}
end
end DLG
namespace DL
open PySem L2 DLG
section
variable {X : Cx} {k : Nat} {f : Addr} {fd : FuncData} {ps : List Str} {wf : WFn} {ds : List Value} {dvs : List V} {dd : List Dv} {x : Str} {p pos : Pos} {e : Expr} {es : List Expr} {t : TA} {wa : WA}
end
section
variable {P : Program} {w : World} {K : PySem.W.Frag} {mg : Str → Option Value} {base : Heap}
end
end DL

/-! x, y, z = a tuple that holds things -/
namespace DL
open PySem L2
end DL

/-! data or a list thing in the same place; tuples of things: an item, a piece -/
namespace DL
open PySem PySem.Spec PyProof.Rows L2 DLG
section
variable {X : Cx} {x : Str} {p pos p1 p2 p3 : Pos} {e : Expr} {te : TE} {we : WE} {kk : Nat}
end
/-! for i, x in enumerate(xs), where the body may raise; xs data or a list thing -/
/-! *e, e data or a list thing -/
/-! an item, a piece of a tuple of things -/
theorem HasVL.dp {K : PySem.W.Frag} {z : Av} {As : List (List Addr)} {H : Hp} : ∀ {vs : List V} {xs : List Sv} (n : Nat), HasVL K z As H vs xs → HasVL K z As H (vs.drop n) (xs.drop n)
  | _, _, 0, h => h
  | _, _, n + 1, .nil => .nil
  | _, _, n + 1, .cons a b => b.dp n
/-! range(i, j, c) in a for -/
end DL

/-! match over texts that are written down -/
namespace DL
open PySem PySem.Spec PyProof.Rows L2 DLG
/-! the same over data, where a case may raise -/
/-! the same where nothing is raised -/
end DL
namespace DLG
open PySem PySem.Spec PyProof.Rows L2
section
variable {X : Cx} {o e : Expr} {to te : TE} {y z c : Str} {j k k2 : Nat} {c0 c1 c2 apos pos apos2 pos2 : Pos}
end
end DLG
namespace DL
open PySem PySem.Spec PyProof.Rows L2 DLG
end DL

/-! an own exception made by keywords -/
namespace PySem
namespace HandSPX
open Builtin Builtin.ObjectAttr
section
variable {M : Model} {A : Around} {E : Value → Shared → Prop} {h : Heap} {g : Array GenState} {d : Drawn} {t : Nat} {os : OsState}
variable {nm q : Str} {C N : Addr} {bs bm bmB : List Value} {hdct : Bool} {sn : List Str} {sub : List Value} {ab : Bool} {col : Option Bool} {dd : Option Addr} {k0 k1 k2 k3 k5 : Option Value} {B newId initId : String}
end
section
variable {prog : Program} {w : World} {A : Around} {E : Value → Shared → Prop} {R : Result → Shared → Prop} {h : Heap} {g : Array GenState} {d : Drawn} {t : Nat} {os : OsState}
variable {nm q : Str} {C N : Addr} {bs bm bmB : List Value} {hdct : Bool} {sn : List Str} {sub : List Value} {ab : Bool} {col : Option Bool} {dd : Option Addr} {k0 k1 k2 k3 k5 : Option Value} {B newId initId : String}
end
end HandSPX
end PySem
namespace DLG
open PySem PySem.Spec PyProof.Rows L2
end DLG

/-! exceptions that live for one expression -/
namespace DLG
open PySem PySem.Spec PyProof.Rows L2
end DLG
namespace DL
open PySem PySem.Spec PyProof.Rows L2 DLG
end DL

/-! lambdas: made in a table of code objects, called in the def that got them -/
namespace DL
open PySem PySem.Spec PyProof.Rows L2
/-- the heap behind the making of a lambda: its code object c is known, or new -/
def LamNew (H : Hp) (P : Addr) (q : Str) (ps : Array Value) (c : Addr) (H1 : Hp) : Prop :=
  (H1 = H ∧ ∃ p, codeAmong p ps.toList = some (.ref c)) ∨
  (H c = none ∧ ∃ ps' : Array Value, TriplesOk ps'.toList ∧ (∀ p cv, codeAmong p ps'.toList = some cv → codeAmong p ps.toList = some cv ∨ cv = .ref c) ∧ H1 = upd (upd H P (.tbl ps')) c (CodO c q))
/-- what the slots of a lambda's body are: its parameter, then the maker's -/
abbrev lamN (a : Option Str) (N : List Str) : List Str := match a with
  | none => N
  | some x => x :: N
abbrev lamS (v : Option V) (σ : L2.St) : L2.St := match v with
  | none => σ
  | some x => some x :: σ
/-- its names: the parameter, captured ones, globals -/
structure LamSc (sc scope : Scope) (N : List Str) (a : Option Str) : Prop where
  kind : scope.kind = .function
  co : scope.isCoroutine = false
  gen : scope.isGenerator = false
  cell : ∀ y ∈ scope.names, y.2 ≠ .cell
  own : ∀ y ∈ scope.names, y.2 = .local → a = some y.1
  out : ∀ x, a = some x → x ∉ N ∧ scope.names.lookup x = some .local
  free : ∀ y ∈ scope.names, y.2 = .free → sc.names.lookup y.1 = some .cell ∨ sc.names.lookup y.1 = some .free
def lamScB (sc scope : Scope) (N : List Str) (a : Option Str) : Bool :=
  decide (scope.kind = .function) && (!scope.isCoroutine && (!scope.isGenerator && ((scope.names.all fun y => !decide (y.2 = .cell) && ((!decide (y.2 = .local) || decide (a = some y.1)) && (!decide (y.2 = .free) || (decide (sc.names.lookup y.1 = some .cell) || decide (sc.names.lookup y.1 = some .free))))) &&
    (match a with
    | none => true
    | some x => !decide (x ∈ N) && decide (scope.names.lookup x = some .local)))))
theorem lamSc_by {sc scope : Scope} {N : List Str} {a : Option Str} (h : lamScB sc scope N a = true) : LamSc sc scope N a := by
  unfold lamScB at h
  simp only [Bool.and_eq_true, Bool.or_eq_true, Bool.not_eq_true', decide_eq_true_eq, decide_eq_false_iff_not, List.all_eq_true] at h
  obtain ⟨h1, h2, h3, h4, h5⟩ := h
  refine ⟨h1, h2, h3, fun y hy => (h4 y hy).1, fun y hy e => ?_, fun x e => ?_, fun y hy e => ?_⟩
  · rcases (h4 y hy).2.1 with z | z
    · exact (z e).elim
    · exact z
  · subst e
    simp only [Bool.and_eq_true, Bool.not_eq_true', decide_eq_true_eq, decide_eq_false_iff_not] at h5
    exact h5
  · rcases (h4 y hy).2.2 with z | z | z
    · exact (z e).elim
    · exact .inl z
    · exact .inr z
/-- the context of a lambda's body -/
def lmCx (X : Cx) (a : Option Str) (A : Around) (outer : List Env) (s : Shared) (H : Hp) (E : XK) (scope : Scope) (f c : Addr) : Cx :=
  { LamX.lamCx X A outer s H E scope f c with N := lamN a X.N }
section
variable {X : Cx} {pins : List (Addr × Obj)} {σ : L2.St} {H HZ : Hp} {s s1 : Shared} {sc scope : Scope} {a : Option Str}
theorem LamSc.has (L : LamSc X.env.scope scope X.N a) (ok : X.Ok) : ∀ y ∈ scope.names, y.2 = .free → ∃ c, X.env.cells.lookup y.1 = some c := by
  intro y hy e
  exact ok.has y.1 ((L.free y hy e).imp id id)
/-- a lambda is made: its code object is found in the table, or new -/
theorem lam_new {c P : Addr} {params : Arguments} {body : Expr} {pos : Pos} {E Q : Value → Shared → Prop} {q : Str} {ps : Array Value} (I : Inv X pins σ H s) (TB : LamX.TabB X.base X.mg c P) (hcode : X.env.code = .ref c) (hq : q = X.env.qual ++ "<lambda>")
    (hP : H P = some (.tbl ps)) (ht : TriplesOk ps.toList) (ha : ∀ (p : Pos) (cv : Value), codeAmong p ps.toList = some cv → ∃ c, cv = .ref c ∧ H c = some (CodO c q)) (hdef : defaultsOf params X.env = ([], [])) (hfree : ∀ y ∈ scope.names, y.2 = .free → ∃ c, X.env.cells.lookup y.1 = some c)
    (h : ∀ (f c' : Addr) (pm ctv : Value) (H1 : Hp) (s' : Shared), Inv X pins σ H1 s' → LamNew H P q ps c' H1 → s'.heap.get? f = some (PySem.W.kla_obj "<lambda>" (X.env.qual ++ "<lambda>") params body scope (cloFrom X.env.cells scope.names []) pm c' ctv) → H1 f = none → f ∉ frs X.stack → H1 c' = some (CodO c' q) → Q (.ref f) s') :
    wpAny (model X.prog X.w) X.A (eval (.Lambda params body scope pos) X.env) Q E s := by
  subst hq
  have hb : s.heap.BuiltinsAt X.mg P := TB.bm.keeps I.bk
  have hp : s.heap.get? P = some { cls := .none, data := .fields ps } := I.hok P _ hP
  have out : ∀ f, s.heap.objs.size ≤ f → f ∉ frs X.stack := by
    intro f hf m
    rcases List.mem_cons.mp (I.stkSub f m) with rfl | m
    · exact absurd I.lt (Nat.not_lt.mpr hf)
    · exact I.nofs hf m
  apply PySem.W.kla_eval hdef
  cases hc : codeAmong pos ps.toList with
  | some cv =>
    obtain ⟨c', rfl, kc⟩ := ha pos cv hc
    apply PySem.W.kla_makeFunctionHit (mg := X.mg) (c := c) (P := P) (ps := ps) (closure_ok hfree) I.ok.glob (I.mod.glob.keeps I.bk) hcode (TB.code.keeps I.bk) hp ht hc hb
    intro ctv h' tk up sz
    have J : Inv X pins σ H { s with heap := h'.push (PySem.W.kla_obj "<lambda>" (X.env.qual ++ "<lambda>") params body scope (cloFrom X.env.cells scope.names []) ((X.mg "__name__").getD .none) c' ctv), toks := tk } := by
      apply I.kept
      exact fun b o e => Heap.get?_push_of_some _ (up b o e)
    exact h _ c' _ ctv H _ J (.inl ⟨rfl, pos, hc⟩) (Heap.get?_push_size _ rfl) (I.hok.fresh sz) (out _ sz) kc
  | none =>
    apply PySem.W.kla_makeFunction (mg := X.mg) (c := c) (P := P) (ps := ps) (closure_ok hfree) I.ok.glob (I.mod.glob.keeps I.bk) hcode (TB.code.keeps I.bk) hp ht hc TB.gP hb
    intro c' ctv h' tk up ge lt rec_ tab_
    obtain ⟨c2, oc, vs, t, e2, g1, g2, g3⟩ := rec_
    cases e2
    have n0 : H c' = none := I.hok.fresh ge
    have sz : s.heap.objs.size ≤ h'.objs.size := Nat.le_of_lt (Nat.lt_of_le_of_lt ge lt)
    have J := LamX.inv_table (t' := tk) (more := #[rawInt pos.line, rawInt pos.col, .ref c']) (h' := h'.push (PySem.W.kla_obj "<lambda>" (X.env.qual ++ "<lambda>") params body scope (cloFrom X.env.cells scope.names []) ((X.mg "__name__").getD .none) c' ctv)) I hP (fun b o ne e => Heap.get?_push_of_some _ (up b o ne e)) (Heap.get?_push_of_some _ tab_) ge ⟨oc, vs, t, Heap.get?_push_of_some _ g1, g2, g3⟩
    have el : (ps ++ #[rawInt pos.line, rawInt pos.col, .ref c']).toList = ps.toList ++ [rawInt pos.line, rawInt pos.col, .ref c'] := by simp
    refine h _ c' _ ctv _ _ J (.inr ⟨n0, _, ?_, ?_, rfl⟩) (Heap.get?_push_size _ rfl) ?_ (out _ sz) upd_same
    · rw [el]
      exact PySem.TriplesOk_snoc _ _ _ _ ht
    · intro p cv e
      rw [el] at e
      exact LamX.among_app _ ht e
    · have k1 : h'.objs.size ≠ c' := (Nat.ne_of_lt lt).symm
      have k2 : h'.objs.size ≠ P := (Nat.ne_of_lt (Nat.lt_of_lt_of_le (Heap.lt_size hp) sz)).symm
      rw [upd_ne k1, upd_ne k2]
      exact I.hok.fresh sz
/-- a lambda's body is entered -/
theorem lam_enter {A : Around} {outer : List Env} {E : XK} {f c' : Addr} {h₁ : Heap} {tk : Nat} {v : Option V} {u : List Value} (I : Inv X pins σ H s) (L : LamSc X.env.scope scope X.N a) (e0 : Env0 X.prog X.w X.K X.mg X.base A outer s1 HZ) (hd : A.handled = none)
    (un : Un (frs X.stack) [] H HZ s.heap s1.heap) (hv : (a = none ∧ v = none ∧ u = []) ∨ ∃ x w w', a = some x ∧ v = some w ∧ u = [w'] ∧ RelV w w') (hns : h₁.Ns s1.heap.objs.size fun y => (a.toList.zip u).reverse.lookup y) (kp : ∀ b o, s1.heap.get? b = some o → h₁.get? b = some o) :
    Inv (lmCx X a A outer s1 HZ E scope f c') [] (lamS v σ) HZ { s1 with heap := h₁, toks := tk } := by
  have has := L.has I.ok
  have old : ∀ {y c}, (cloFrom X.env.cells scope.names []).lookup y = some c → X.env.cells.lookup y = some c := by
    intro y c e
    rcases cloFrom_mem (PySem.mem_of_lookup e) with m | ⟨m1, m2⟩
    · cases m
    · obtain ⟨c1, e1⟩ := has _ m1 rfl
      have e1 : X.env.cells.lookup y = some c1 := e1
      have : c = c1 := by rw [m2, e1] <;> rfl
      rw [this]
      exact e1
  have clo : ∀ {y}, scope.names.lookup y = some .free → ∃ c, (cloFrom X.env.cells scope.names []).lookup y = some c := by
    intro y e
    have m : (y, NameKind.free) ∈ scope.names := PySem.mem_of_lookup e
    exact mem_lookup (cloFrom_has (cells := X.env.cells) (acc := []) m)
  have cells : ∀ {c : Addr} {w : Option Value}, H c = none → s.heap.IsCell c w → h₁.IsCell c w := by
    rintro c w n ⟨o, ho, hd⟩
    obtain ⟨sl, e⟩ := un.any ho n (by simp)
    exact ⟨_, kp _ _ e, hd⟩
  have nil : ∀ b : Addr, b ∉ (lmCx X a A outer s1 HZ E scope f c').ex := fun b z => List.not_mem_nil (show b ∈ ([] : List Addr) from z)
  have below : ∀ (i : Nat) (y : Str) (w : V), X.N[i]? = some y → σ[i]? = some (some w) → Vis scope y → (∀ x, a = some x → x ≠ y) → ∃ u', RelV w u' ∧ Look (LamX.lamEnv X scope s1.heap.objs.size f c') h₁ (fun y => (a.toList.zip u).reverse.lookup y) y u' := by
    intro i y w e1 e2 e3 ne
    rcases e3 with k | k | k
    · exact absurd rfl (ne y (L.own _ (PySem.mem_of_lookup k) rfl))
    · exact absurd rfl (L.cell _ (PySem.mem_of_lookup k))
    · obtain ⟨m, hn, hl⟩ := I.loc
      have seen : Vis X.env.scope y := (L.free _ (PySem.mem_of_lookup k) rfl).elim (fun z => .inr (.inl z)) fun z => .inr (.inr z)
      obtain ⟨w', r, q⟩ := hl i y w e1 e2 seen
      obtain ⟨c2, h2⟩ := clo k
      refine ⟨w', r, .inr ⟨.inr k, c2, h2, ?_⟩⟩
      have c1 := old h2
      rcases q with ⟨k', _⟩ | ⟨_, c3, e', z⟩
      · have k' : X.env.scope.names.lookup y = some .local := k'
        rcases L.free _ (PySem.mem_of_lookup k) rfl with k2 | k2 <;> rw [show X.env.scope.names.lookup y = _ from k2] at k' <;> cases k'
      · rw [c1] at e'
        cases e'
        exact cells (I.freeC y _ c1) z
  refine ⟨⟨e0.mod, L.kind, rfl, rfl, Nat.le_refl _, fun y z c e1 e2 => I.ok.inj y z c (old e1) (old e2), fun y hy => ?_, fun y c z _ => ?_, fun _ => hd, Around.frames_deeper e0.frames, .inr ⟨rfl, rfl⟩, fun b z => absurd z (nil b), e0.bs, e0.bsz, fun b _ _ => nil b, fun b z => absurd z (nil b), e0.funs, e0.frf⟩,
    rfl, e0.bare, Un.kept kp, ⟨_, hns, fun i y w e1 e2 e3 => ?_⟩, fun y c e => ?_, e0.hok.fresh (Nat.le_refl _), fun y c e => ?_, fun q hq => absurd (show q ∈ ([] : List (Addr × Obj)) ++ [] from hq) (by simp), e0.hok.kept kp, ?_⟩
  · have hy : scope.names.lookup y = some .cell ∨ scope.names.lookup y = some .free := hy
    rcases hy with hy | hy
    · exact absurd rfl (L.cell _ (PySem.mem_of_lookup hy))
    · exact clo hy
  · have z : false = true := z
    cases z
  · have e3 : Vis scope y := e3
    rcases hv with ⟨rfl, rfl, rfl⟩ | ⟨x, w0, w', rfl, rfl, rfl, rw0⟩
    · exact below i y w e1 e2 e3 fun x z => by cases z
    · cases i with
      | zero =>
        have e1 : x = y := Option.some.inj e1
        have e2 : w0 = w := Option.some.inj (Option.some.inj e2)
        subst e1
        subst e2
        refine ⟨w', rw0, .inl ⟨(L.out x rfl).2, ?_⟩⟩
        show List.lookup x [(x, w')] = some w'
        simp [List.lookup]
      | succ i =>
        have e1 : X.N[i]? = some y := e1
        have e2 : σ[i]? = some (some w) := e2
        refine below i y w e1 e2 e3 fun x' z => ?_
        cases z
        intro z
        subst z
        exact (L.out x rfl).1 (List.mem_of_getElem? e1)
  · obtain ⟨w', z⟩ := I.cell y c (old e)
    exact ⟨w', cells (I.freeC y c (old e)) z⟩
  · obtain ⟨w, o, ho, hd⟩ := I.cell y c (old e)
    exact un.free c o ho (I.freeC y c (old e)) (by simp)
  · have hl : σ.length = X.N.length := I.len
    rcases hv with ⟨rfl, rfl, rfl⟩ | ⟨x, w0, w', rfl, rfl, rfl, rw0⟩
    · exact hl
    · show (some w0 :: σ).length = (x :: X.N).length
      rw [List.length_cons, List.length_cons, hl]
end
end DL
namespace DL
open PySem PySem.Spec PyProof.Rows L2
/-- the def that got a lambda, running: it was entered at s -/
abbrev gotCx (X : Cx) (CXg : CXT) (Ng : List Str) (qg : Str) (sg : Scope) (g : Addr) (cdg : Value) (s : Shared) (H : Hp) (Eg : XK) : Cx := cxOf CXg X.prog X.w X.K X.mg X.base Ng qg sg g cdg X.A X.stack s H Eg
section
variable {X : Cx} {pins : List (Addr × Obj)} {σ : L2.St} {H : Hp} {s : Shared} {CXg : CXT} {Eg : XK} {Ng : List Str} {qg : Str} {sg : Scope} {g f c' : Addr} {cdg pm ctv : Value} {params : Arguments} {body : Expr} {scope : Scope} {k : Nat} {a : Option Str} {pn : List (Addr × Obj)} {xe : Value → Shared → Prop} {W : WX} {tb : XK → TE}
/-- x(..) where x is the lambda -/
theorem run_lam {pinsZ : List (Addr × Obj)} {σZ : L2.St} {HZ : Hp} {s1 : Shared} {Q : VK} {vs : List V} {us : List Value} {v : Option V} (I : Inv X pins σ H s) (L : LamSc X.env.scope scope X.N a)
    (hf : s.heap.get? f = some (PySem.W.kla_obj "<lambda>" (X.env.qual ++ "<lambda>") params body scope (cloFrom X.env.cells scope.names []) pm c' ctv)) (hfn : H f = none) (hfr : f ∉ frs X.stack)
    (hbind : ∀ us : List Value, us.length = a.toList.length → bindArgs (PySem.W.kla_fn "<lambda>" (X.env.qual ++ "<lambda>") params body scope (cloFrom X.env.cells scope.names []) pm (.ref c') ctv) ⟨us, []⟩ = pure (a.toList.zip us))
    (tk : Takes ((gotCx X CXg Ng qg sg g cdg s H Eg).tr pn xe) W) (hr : Room (k + 1) (X.A.deeper (envOfC qg sg s.heap.objs.size g cdg)))
    (hbody : ∀ (A : Around) (outer : List Env) (s : Shared) (H : Hp) (E : XK), Room k (A.deeper (LamX.lamEnv X scope s.heap.objs.size f c')) → PE (lmCx X a A outer s H E scope f c') body (tb E))
    (IZ : Inv ((gotCx X CXg Ng qg sg g cdg s H Eg).tr pn xe) pinsZ σZ HZ s1) (rv : Vals vs us) (hv : (a = none ∧ v = none ∧ vs = []) ∨ ∃ x w, a = some x ∧ v = some w ∧ vs = [w])
    (hc : HZ c' = some (CodO c' (X.env.qual ++ "<lambda>"))) (h : tb (L2.WE W σZ) (lamS v σ) HZ Q) :
    wpAny (model X.prog X.w) (X.A.deeper (envOfC qg sg s.heap.objs.size g cdg)) (call (.ref f) us) (EP ((gotCx X CXg Ng qg sg g cdg s H Eg).tr pn xe) pinsZ σZ Q) xe s1 := by
  have of1 : s1.heap.get? f = some (PySem.W.kla_obj "<lambda>" (X.env.qual ++ "<lambda>") params body scope (cloFrom X.env.cells scope.names []) pm c' ctv) := IZ.base.keep f _ hf hfn hfr (fun z => nomatch (show f ∈ ([] : List Addr) from z))
  have un : Un (frs X.stack) [] H HZ s.heap s1.heap := IZ.base
  obtain ⟨⟨oc, vs0, t, hoc, hdc, hvc⟩, _, _⟩ := IZ.hok c' _ hc
  have ul : us.length = a.toList.length := by
    rw [← rv.length]
    rcases hv with ⟨rfl, _, rfl⟩ | ⟨x, w, rfl, _, rfl⟩ <;> rfl
  have hv2 : (a = none ∧ v = none ∧ us = []) ∨ ∃ x w w', a = some x ∧ v = some w ∧ us = [w'] ∧ RelV w w' := by
    rcases hv with ⟨e1, e2, rfl⟩ | ⟨x, w, e1, e2, rfl⟩
    · cases rv
      exact .inl ⟨e1, e2, rfl⟩
    · cases rv with
      | cons r0 r1 =>
        cases r1
        exact .inr ⟨x, w, _, e1, e2, rfl, r0⟩
  have run : codeAny (model X.prog X.w) (X.A.deeper (envOfC qg sg s.heap.objs.size g cdg)) (.call (.ref f) ⟨us, []⟩) (CR (L2.CX X.prog X.w) (envOfC qg sg s.heap.objs.size g cdg :: X.stack) X.prog X.w HZ s1 Q (L2.WE W σZ)) s1 := by
    apply PySem.W.kla_callFunE hr.depth of1 rfl L.co L.gen rfl ⟨c', oc, vs0, t, rfl, hoc, hdc, hvc⟩
    rw [hbind us ul]
    apply wpAny_pure
    refine wpAny_newFunctionEnv (fun y hy => L.cell y hy) (fun y hy => ?_) (fun h₁ hns hsb => ⟨IZ.nolimit.fresh _ hsb, ?_⟩) L.kind
    · rcases hv2 with ⟨rfl, _, rfl⟩ | ⟨x, w, w', rfl, _, rfl, _⟩
      · exact absurd hy (List.not_mem_nil)
      · rw [List.mem_singleton.mp hy]
        exact (L.out x rfl).2
    · have kp : ∀ b o, s1.heap.get? b = some o → h₁.get? b = some o := fun b o e => hsb.extBut b o (Nat.ne_of_lt (Heap.lt_size e)) (Heap.get?_push_of_some _ e)
      have J : Inv (lmCx X a (X.A.deeper (envOfC qg sg s.heap.objs.size g cdg)) (envOfC qg sg s.heap.objs.size g cdg :: X.stack) s1 HZ (L2.WE W σZ) scope f c') [] (lamS v σ) HZ { s1 with heap := h₁, toks := s1.toks + (a.toList.zip us).length } :=
        lam_enter I L IZ.env0 hr.hd un hv2 hns kp
      apply PySem.W.kla_codeExpr
      apply wpAny_mono ((hbody _ _ s1 HZ (L2.WE W σZ) (hr.deeper _)).run [] _ _ HZ Q J h)
      · rintro u s' ⟨w', H', J', rv', q⟩
        exact ⟨w', H', J'.os, J'.bare, J'.base, J'.hok, rv', q⟩
      · exact fun e s' q => q
  apply wpAny_call
  apply codeAny_mono run
  intro r s' q
  match r, q with
  | .error e, q => exact passAt tk σZ pinsZ HZ s1 e s' IZ q
  | .ok (.ret u), q => exact IZ.after q
  | .ok .next, q => exact False.elim q
  | .ok .brk, q => exact False.elim q
  | .ok .cont, q => exact False.elim q
/-- what x(..) reads: the arguments, then the lambda's body at the maker's slots -/
abbrev tAct0 (i : Nat) (f c' : Addr) (q : Str) (tl : XK → Option V → Hp → VK → Prop) : WX → TE := fun W σZ HZ Q => σZ[i]? = some (some (.ref f)) ∧ HZ c' = some (CodO c' q) ∧ tl (L2.WE W σZ) none HZ Q
theorem pe_act0 {i : Nat} {x : Str} {p1 p2 : Pos} (I : Inv X pins σ H s) (L : LamSc X.env.scope scope X.N none)
    (hf : s.heap.get? f = some (PySem.W.kla_obj "<lambda>" (X.env.qual ++ "<lambda>") params body scope (cloFrom X.env.cells scope.names []) pm c' ctv)) (hfn : H f = none) (hfr : f ∉ frs X.stack)
    (hbind : ∀ us : List Value, us.length = (none : Option Str).toList.length → bindArgs (PySem.W.kla_fn "<lambda>" (X.env.qual ++ "<lambda>") params body scope (cloFrom X.env.cells scope.names []) pm (.ref c') ctv) ⟨us, []⟩ = pure ((none : Option Str).toList.zip us))
    (tk : Takes ((gotCx X CXg Ng qg sg g cdg s H Eg).tr pn xe) W) (hr : Room (k + 1) (X.A.deeper (envOfC qg sg s.heap.objs.size g cdg)))
    (hbody : ∀ (A : Around) (outer : List Env) (s : Shared) (H : Hp) (E : XK), Room k (A.deeper (LamX.lamEnv X scope s.heap.objs.size f c')) → PE (lmCx X none A outer s H E scope f c') body (tb E))
    (hN : Ng[i]? = some x) (hv : Vis sg x) (hd : (x == ("__debug__" : Str)) = false := by decide) (hcd : (x == ("__classdict__" : Str)) = false := by decide) :
    PE ((gotCx X CXg Ng qg sg g cdg s H Eg).tr pn xe) (.Call (.Name x p1) [] [] p2) (tAct0 i f c' (X.env.qual ++ "<lambda>") (fun E v H' Q' => tb E (lamS v σ) H' Q') W) := by
  constructor
  rintro pinsZ sZ σZ HZ Q IZ ⟨h1, h2, h3⟩
  apply wpAny_Call_Name_kw
  apply thn ((pe_var (pos := p1) (i := i) hN hv hd hcd).run pinsZ sZ σZ HZ (fun v H1 => v = .ref f ∧ H1 = HZ) IZ ⟨.ref f, h1, rfl, rfl⟩)
  rintro u s1 ⟨v, H1, I1, r1, rfl, rfl⟩
  have eu : u = Value.ref f := r1
  subst eu
  have of1 : s1.heap.get? f = some (PySem.W.kla_obj "<lambda>" (X.env.qual ++ "<lambda>") params body scope (cloFrom X.env.cells scope.names []) pm c' ctv) := I1.base.keep f _ hf hfn hfr (fun z => nomatch (show f ∈ ([] : List Addr) from z))
  exact PySem.W.callWith_F0 ⟨_, _, _, _, of1⟩ (run_lam (v := none) I L hf hfn hfr hbind tk hr hbody I1 .nil (.inl ⟨rfl, rfl, rfl⟩) h2 h3)
end
end DL
namespace DL
open PySem PySem.Spec PyProof.Rows L2
/-- a lambda's body over data: the parameter, the world, what is wanted, what is wanted of exceptions -/
abbrev WLm := Option Sv → WS → (Sv → WS → Prop) → XF → Prop
abbrev TLm := XK → Option V → Hp → VK → Prop
inductive HasO (K : PySem.W.Frag) (z : Av) (As : List (List Addr)) (H : Hp) : Option V → Option Sv → Prop
  | none : HasO K z As H none none
  | some {v : V} {x : Sv} : HasV K z As H v x → HasO K z As H (some v) (some x)
/-- the reading tl keeps what wl tells, at every heap behind As0, H0 (the entry of the def that got the lambda) -/
def LamOk (K : PySem.W.Frag) (z0 : Av) (As0 : List (List Addr)) (H0 : Hp) (tl : TLm) (wl : WLm) : Prop :=
  ∀ (ow : Av) (As : List (List Addr)) (W : WS) (H : Hp) (v : Option V) (x : Option Sv) (Φ : Sv → WS → Prop) (ΦX : XF) (Q : VK) (E : XK), Ext As0 H0 As H → (∀ a, ow a → H0 a = none) → Wld K (zo z0 ow) As W H → HasO K (zo z0 ow) As H v x →
    wl x W Φ ΦX → Nx K (zo z0 ow) As H Φ Q → NxX K (zo z0 ow) As H ΦX E → tl E v H Q
section
variable {K : PySem.W.Frag} {z ow : Av} {O : Nat → Option Addr} {As As0 : List (List Addr)} {σd : DS} {W W0 : WS} {σ : L2.St} {H H0 : Hp}
theorem zo_swap {z a b : Av} : zo (zo z a) b = zo (zo z b) a := by
  funext x
  apply propext
  unfold zo
  constructor <;> intro h <;> rcases h with (h | h) | h
  · exact .inl (.inl h)
  · exact .inr h
  · exact .inl (.inr h)
  · exact .inl (.inl h)
  · exact .inr h
  · exact .inl (.inr h)
/-- the maker's slots stand while another def runs -/
theorem Rep.into (r : Rep K z O As0 σd W0 σ H0) (e : Ext As0 H0 As H) (hn : ∀ a, ow a → H0 a = none) (w : Wld K (zo (zo z (owOf O)) ow) As W H) : Rep K (zo z ow) O As σd W σ H := by
  have mv : Mv (bad (zo z (owOf O)) As0) H0 (bad (zo (zo z ow) (owOf O)) As) H := fun b o hb n => by
    obtain ⟨k1, k2⟩ := e.mv (z := zo z (owOf O)) b o hb n
    refine ⟨k1, fun q => ?_⟩
    rcases q with q | (q | q) | q
    · exact k2 (.inl q)
    · exact k2 (.inr (.inl q))
    · rw [hn b q] at hb
      cases hb
    · exact k2 (.inr (.inr q))
  have own : ∀ {i : Nat} {a : Addr}, O i = some a → H a = H0 a := fun {i a} q => by
    have q1 : zo z (owOf O) a := .inr ⟨i, q⟩
    cases t : H0 a with
    | none => exact absurd t (r.wld.zok.trk a q1)
    | some o => exact (e.keep a o t (r.wld.zok.out a q1) fun f => f).1
  refine ⟨by rw [zo_swap]; exact w, r.len, fun i d h => ?_, fun i a q => ?_, r.inj, r.oo⟩
  · obtain ⟨v, h1, h2⟩ := r.sl i d h
    refine ⟨v, h1, ?_⟩
    cases d with
    | v x =>
      refine ⟨h2.1, ?_⟩
      cases h2.2 with
      | d g => exact .d (g.mv mv)
      | box g => exact .box (e.at_ _ _ g)
    | own xs =>
      obtain ⟨a, vs, ho, hv, g1, g2⟩ := h2
      exact ⟨a, vs, ho, hv, by rw [own ho]; exact g1, g2.mv mv⟩
    | ownD ks ds =>
      obtain ⟨a, vs, ho, hv, g1, g2, g3⟩ := h2
      exact ⟨a, vs, ho, hv, by rw [own ho]; exact g1, g2.mv mv, g3⟩
  · rintro (k | k)
    · exact r.out i a q k
    · exact r.wld.zok.trk a (.inr ⟨i, q⟩) (hn a k)
/-- a slot ahead of the others -/
def O1 (O : Nat → Option Addr) : Nat → Option Addr := fun i => match i with
  | 0 => none
  | i + 1 => O i
theorem owOf_O1 : owOf (O1 O) = owOf O := by
  funext a
  apply propext
  constructor
  · rintro ⟨i, h⟩
    cases i with
    | zero => cases h
    | succ i => exact ⟨i, h⟩
  · rintro ⟨i, h⟩
    exact ⟨i + 1, h⟩
theorem Rep.cons {v : V} {x : Sv} (r : Rep K z O As σd W σ H) (h : HasV K (zo z (owOf O)) As H v x) : Rep K z (O1 O) As (some (.v x) :: σd) W (some v :: σ) H := by
  refine ⟨by rw [owOf_O1]; exact r.wld, congrArg (· + 1) r.len, fun i d e => ?_, fun i a q => ?_, fun i j a q1 q2 => ?_, fun i a q => ?_⟩
  · cases i with
    | zero =>
      cases e
      exact ⟨v, rfl, rfl, by rw [owOf_O1]; exact h⟩
    | succ i =>
      obtain ⟨u, h1, h2⟩ := r.sl i d e
      refine ⟨u, h1, ?_⟩
      rw [owOf_O1]
      exact h2
  · cases i with
    | zero => cases q
    | succ i => exact r.out i a q
  · cases i with
    | zero => cases q1
    | succ i =>
      cases j with
      | zero => cases q2
      | succ j => exact congrArg (· + 1) (r.inj i j a q1 q2)
  · cases i with
    | zero => cases q
    | succ i => exact r.oo i a q
abbrev lamD (x : Option Sv) (σd : DS) : DS := match x with
  | none => σd
  | some x => some (.v x) :: σd
/-- no slot holds a thing of its own -/
def noOwn (σd : DS) : Bool := σd.all fun o => match o with
  | some s => !s.isOwn
  | none => true
theorem Rep.noO (r : Rep K z O As σd W σ H) (h : noOwn σd = true) (i : Nat) : O i = none := by
  cases q : O i with
  | none => rfl
  | some a =>
    obtain ⟨s, h1, h2⟩ := r.oo i a q
    have := List.all_eq_true.mp h _ (List.mem_of_getElem? h1)
    dsimp only at this
    rw [h2] at this
    cases this
theorem ext_no {As' : List (List Addr)} {ow' : Av} {H' : Hp} (hO : ∀ i, O i = none) (e : ExtS As (owOf O) H As' ow' H') : Ext As H As' H' :=
  ⟨fun b o h n _ => ⟨(e.keep b o h n fun ⟨i, q⟩ => by rw [hO i] at q; cases q).1, (e.keep b o h n fun ⟨i, q⟩ => by rw [hO i] at q; cases q).2.1, fun f => f⟩, e.at_, e.up⟩
/-- the maker's promise about its lambda's body -/
theorem lam_ok {tb : WX → TE} {wb : XW → WE} (hb : TEX K tb wb) (hO : ∀ i, O i = none) (r : Rep K z O As0 σd W0 σ H0) :
    LamOk K (zo z (owOf O)) As0 H0 (fun E v H Q => tb (fun cls d _ H => E cls d H) (lamS v σ) H Q) (fun x W Φ ΦX => wb (fun C ks ds _ W => ΦX C ks ds W) (lamD x σd) W Φ) := by
  intro ow As W H v x Φ ΦX Q E e hn w hx h q qx
  have r1 := r.into e hn w
  have key : ∀ {O' : Nat → Option Addr} {σd' : DS} {σ' : L2.St}, owOf O' = owOf O → (∀ i, O' i = none) → Rep K (zo z ow) O' As σd' W σ' H → wb (fun C ks ds _ W => ΦX C ks ds W) σd' W Φ → tb (fun cls d _ H => E cls d H) σ' H Q := by
    intro O' σd' σ' eo hO' r2 h2
    have none_ : ∀ a, ¬ owOf O a := fun a ⟨i, q⟩ => by rw [hO i] at q; cases q
    refine hb (fun C ks ds _ W => ΦX C ks ds W) (fun cls d _ H => E cls d H) Φ Q r2 h2 ?_ ?_
    · intro v' H' x' As' W' e' w' hv' p'
      rw [eo, zo_swap] at w' hv'
      exact q v' H' x' As' W' e' w' hv' p'
    · intro C d ks ds O2 As' σd2 W' σ2 H' e' r' f' p'
      have sub : ∀ a, zo (zo z (owOf O)) ow a → zo (zo z ow) (owOf O2) a := fun a k => by
        rcases k with (k | k) | k
        · exact .inl (.inl k)
        · exact (none_ a k).elim
        · exact .inl (.inr k)
      exact qx C d ks ds As' W' H' (ext_no hO' e') (r'.wld.weak sub) (f'.mv (Mv.weak fun a k => k.imp id (sub a))) p'
  cases hx with
  | none => exact key rfl hO r1 h
  | some hx =>
    refine key owOf_O1 (fun i => ?_) (r1.cons ?_) h
    · cases i with
      | zero => rfl
      | succ i => exact hO i
    · rw [zo_swap]
      exact hx
end
end DL
namespace DL
open PySem PySem.Spec PyProof.Rows L2
/-! ### within the def that got the lambda: readings behind its entry (z0, As0, H0) -/
def TEXb (K : PySem.W.Frag) (z0 : Av) (As0 : List (List Addr)) (H0 : Hp) (t : WX → TE) (w : XW → WE) : Prop := ∀ {O : Nat → Option Addr} {As : List (List Addr)} {σd : DS} {W : WS} {σ : L2.St} {H : Hp} (ΦX : XW) (Wx : WX) (Φ : Sv → WS → Prop) (Q : VK),
  ExtS As0 No H0 As (owOf O) H → Rep K z0 O As σd W σ H → w ΦX σd W Φ → Nx K (zo z0 (owOf O)) As H Φ Q → ExOk K z0 As (owOf O) H ΦX Wx → t Wx σ H Q
def TSXb (K : PySem.W.Frag) (z0 : Av) (As0 : List (List Addr)) (H0 : Hp) (t : WX → TS) (w : XW → WSt) : Prop := ∀ {O : Nat → Option Addr} {As : List (List Addr)} {σd : DS} {W : WS} {σ : L2.St} {H : Hp} (ΦX : XW) (Wx : WX) (Dd : DEnds) (D : Ends),
  ExtS As0 No H0 As (owOf O) H → Rep K z0 O As σd W σ H → w ΦX Dd σd W → EndsOk K z0 As (owOf O) H Dd D → ExOk K z0 As (owOf O) H ΦX Wx → t Wx D σ H
structure PDXb (X : Cx) (z0 : Av) (As0 : List (List Addr)) (H0 : Hp) (e : Expr) (t : WX → TE) (w : XW → WE) : Prop where
  pe : ∀ Wx, Takes X Wx → PE X e (t Wx)
  ok : TEXb X.K z0 As0 H0 t w
structure PDSXb (X : Cx) (z0 : Av) (As0 : List (List Addr)) (H0 : Hp) (s : Stmt) (t : WX → TS) (w : XW → WSt) : Prop where
  ps : ∀ Wx, Takes X Wx → PS X s (t Wx)
  ok : TSXb X.K z0 As0 H0 t w
structure PDSsXb (X : Cx) (z0 : Av) (As0 : List (List Addr)) (H0 : Hp) (s : List Stmt) (t : WX → TS) (w : XW → WSt) : Prop where
  ps : ∀ Wx, Takes X Wx → PSs X s (t Wx)
  ok : TSXb X.K z0 As0 H0 t w
theorem ext_base {As0 As As' : List (List Addr)} {H0 H H' : Hp} {ow ow' : Av} (b : ExtS As0 No H0 As ow H) (e : ExtS As ow H As' ow' H') : ExtS As0 No H0 As' ow' H' :=
  ⟨fun x o h n m => let ⟨h1, n1, m1⟩ := b.keep x o h n m; e.keep x o h1 n1 m1, fun j l h => e.at_ j l (b.at_ j l h), fun a h => e.up a (b.up a h)⟩
theorem ext_own {As As' : List (List Addr)} {H H' : Hp} {ow' : Av} (e : ExtS As No H As' ow' H') : Ext As H As' H' := ⟨fun b o h n m => ⟨(e.keep b o h n m).1, (e.keep b o h n m).2.1, fun f => f⟩, e.at_, e.up⟩
section
variable {X : Cx} {z0 : Av} {As0 : List (List Addr)} {H0 : Hp} {e : Expr} {st : Stmt} {rest : List Stmt} {tX uX : WX → TS} {wX vX : XW → WSt} {teX : WX → TE} {weX : XW → WE} {pos pos' : Pos}
theorem sb (h : PDSX X st tX wX) : PDSXb X z0 As0 H0 st tX wX := ⟨h.ps, fun ΦX Wx Dd D _ r g q x => h.ok ΦX Wx Dd D r g q x⟩
theorem ssb_one (h : PDSXb X z0 As0 H0 st tX wX) : PDSsXb X z0 As0 H0 [st] tX wX := ⟨fun Wx k => pss_one (h.ps Wx k), h.ok⟩
theorem ssb_cons (h : PDSXb X z0 As0 H0 st tX wX) (h2 : PDSsXb X z0 As0 H0 rest uX vX) : PDSsXb X z0 As0 H0 (st :: rest) (tSeqX tX uX) (wSeqX wX vX) := by
  refine ⟨fun Wx k => pss_cons (h.ps Wx k) (h2.ps Wx k), ?_⟩
  intro O As σd W σ H ΦX Wx Dd D b r g q x
  refine h.ok (O := O) ΦX Wx { Dd with nx := vX ΦX Dd } { D with nx := uX Wx D } b r g ⟨fun σd' W' O' As' σ' H' e r' p => ?_, q.rt, q.bk, q.ct⟩ x
  exact h2.ok ΦX Wx Dd D (ext_base b e) r' p (q.ext e) (x.ext e)
theorem sb_expr (he : PDXb X z0 As0 H0 e teX weX) (hs : swapsWith e none pos.line X.env = pure false := by rfl) : PDSXb X z0 As0 H0 (.Expr e pos) (fun Wx => tDrop (teX Wx)) (fun ΦX => wDrop (weX ΦX)) := by
  refine ⟨fun Wx k => ps_expr (he.pe Wx k) hs, ?_⟩
  intro O As σd W σ H ΦX Wx Dd D b r g q x
  refine he.ok ΦX Wx _ _ b r g (fun v H' x As' W' e wl hv p => ?_) x
  exact q.nx _ W' O As' _ H' e.own (r.ext e wl) p
/-- try: body, except B as n: suite -/
theorem sb_try {x n : Str} {B : Addr} {i : Nat} {body suite : List Stmt} {b₀ : Stmt} {np : Pos} {ts : Addr → Value → Option Addr → TS} {ws : Addr → Value → Option Addr → WSt}
    (hs : X.stack = X.env :: X.outer) (hf : X.env.frame = some X.env.locals) (hN : X.N.Nodup) (hi : X.N[i]? = some n) (hln : X.env.kindOf n = some .local) (hg : Gl X x) (hm : X.mg x = some (.ref B)) (nx : Takes X (fun _ _ _ _ => False))
    (hb : ∀ pn xe, PDSsXb (X.tr pn xe) z0 As0 H0 body tX wX)
    (hsu : ∀ a oe cls d pn, Zc cls d oe → (∃ vs, oe.data = .fields vs) → PDSs (X.suite a ((a, oe) :: pn)) (b₀ :: suite) (ts a cls d) (ws a cls d)) (hdb : (x == ("__debug__" : Str)) = false := by decide) :
    PDSXb X z0 As0 H0 (.Try body [.ExceptHandler (some (.Name x np)) (some n) (b₀ :: suite) pos'] [] [] pos) (fun _ D σ H => tX (wAs X.K (.ref B) i ts (fun _ _ _ _ => False) D) D σ H) (fun _ => wTry X.K B i wX ws) := by
  refine ⟨fun _ _ => ps_try_as hs hf hN hi hln ⟨hg, hdb, .inl hm⟩ nx (fun W pn xe tk _ => (hb pn xe).ps W tk) (fun a oe cls d pn hz hv => (hsu a oe cls d pn hz hv).ps), ?_⟩
  intro O As σd W σ H ΦX Wx Dd D b r g q _
  refine (hb [] (fun _ _ => False)).ok _ _ Dd D b r g q ?_
  intro C d ks ds O' As' σd' W' σ' H' e r' f p
  obtain ⟨h1, h2⟩ := p
  refine ⟨true, h1, fun _ a ha => ?_, fun z => nomatch z⟩
  have okS : TSok X.K (ts a (.ref C) d) (ws a (.ref C) d) := (hsu a ⟨.ref C, d, .fields #[], #[]⟩ (.ref C) d [] ⟨rfl, rfl⟩ ⟨_, rfl⟩).ok
  refine okS (unD i Dd) _ (r'.setV i (.d (f a))) (h2 a d fun z => by subst z; cases f a; rfl) ?_
  have q2 := q.ext (e.trans (ext_noO (i := i)))
  refine ⟨fun σ2 W2 O2 As2 σ2' H2 e2 r2 p2 => ?_, fun v x W2 ow2 As2 H2 e2 w2 hv p2 => ?_, fun σ2 W2 O2 As2 σ2' H2 e2 r2 p2 => ?_, fun σ2 W2 O2 As2 σ2' H2 e2 r2 p2 => ?_⟩
  · exact q2.nx _ W2 _ As2 _ H2 (e2.trans ext_noO) (r2.unset i) p2
  · exact q2.rt v x W2 ow2 As2 H2 e2 w2 hv p2
  · exact q2.bk _ W2 _ As2 _ H2 (e2.trans ext_noO) (r2.unset i) p2
  · exact q2.ct _ W2 _ As2 _ H2 (e2.trans ext_noO) (r2.unset i) p2
/-- x(): the lambda that stands at the slot i -/
abbrev wAct0 (i : Nat) (f : Addr) (wl : WLm) : XW → WE := fun ΦX σd W Φ => slot σd i = some (.v (.d (.raw (.ref f)))) ∧ ∃ (Φ1 : Sv → WS → Prop) (ΦX1 : XF), wl none W Φ1 ΦX1 ∧ (∀ x W', Φ1 x W' → Φ x W') ∧ ∀ C ks ds W', ΦX1 C ks ds W' → ΦX C ks ds σd W'
theorem act_ow {K : PySem.W.Frag} {O : Nat → Option Addr} {As : List (List Addr)} {σd : DS} {W : WS} {σ : L2.St} {H : Hp} (b : ExtS As0 No H0 As (owOf O) H) (r : Rep K z0 O As σd W σ H) : ∀ a, owOf O a → H0 a = none := by
  intro a ha
  cases q : H0 a with
  | none => rfl
  | some o =>
    by_cases f : fpOf As0 a
    · obtain ⟨l, hl, hm⟩ := f
      obtain ⟨j, hj⟩ := List.getElem?_of_mem hl
      exact absurd ⟨l, List.mem_of_getElem? (b.at_ j l hj), hm⟩ (r.wld.zok.out a (.inr ha))
    · exact absurd ha (b.keep a o q f fun z => z).2.2
theorem act_ok {K : PySem.W.Frag} {i : Nat} {f c' : Addr} {q : Str} {tl : TLm} {wl : WLm} (hl : LamOk K z0 As0 H0 tl wl) (hc : H0 c' = some (CodO c' q)) (hn : ¬ fpOf As0 c') : TEXb K z0 As0 H0 (tAct0 i f c' q tl) (wAct0 i f wl) := by
  intro O As σd W σ H ΦX Wx Φ Q b r g q x
  obtain ⟨h1, Φ1, ΦX1, h2, i1, i2⟩ := g
  obtain ⟨v, e1, _, e2⟩ := r.sl i _ (slot_at h1)
  have ev : v = .ref f := by
    cases e2 with
    | d e2 => cases e2; rfl
  subst ev
  refine ⟨e1, (b.keep c' _ hc hn fun z => z).1, ?_⟩
  refine hl (owOf O) As W H none none Φ1 _ Q _ (ext_own b) (act_ow b r) r.wld .none h2 (fun v H' y As' W' e w' hv p => q v H' y As' W' e w' hv (i1 y W' p)) ?_
  intro C d ks ds As' W' H' e w' f' p
  exact x C d ks ds O As' σd W' σ H' e.own (r.ext e w') f' (i2 C ks ds W' p)
end
/-! ### the call x(lambda: body) -/
/-- the reading: the table, then what the def that got it makes of the body -/
def tLamC (P : Addr) (q : Str) (TT : Addr → Addr → TLm → Hp → VK → Prop) (tb : XK → L2.St → Hp → VK → Prop) : TE := fun σ H Q => ∃ ps : Array Value, H P = some (.tbl ps) ∧ TriplesOk ps.toList ∧ (∀ (p : Pos) (cv : Value), codeAmong p ps.toList = some cv → ∃ c, cv = .ref c ∧ H c = some (CodO c q)) ∧
  ∀ (f c' : Addr) (H1 : Hp), LamNew H P q ps c' H1 → H1 c' = some (CodO c' q) → TT f c' (fun E v H' Q' => tb E (lamS v σ) H' Q') H1 Q
/-- the lambda at the slot i, named a, called as a() in the context Z -/
def Act0 (Z : Cx) (i : Nat) (a : Str) (f c' : Addr) (q : Str) (tl : TLm) : Prop := ∀ (Wx : WX) (pn : List (Addr × Obj)) (xe : Value → Shared → Prop) (p1 p2 : Pos), Takes (Z.tr pn xe) Wx → PE (Z.tr pn xe) (.Call (.Name a p1) [] [] p2) (tAct0 i f c' q tl Wx)
/-- what the def that got it (its one parameter a) makes of it -/
def TGot (P : Program) (w : World) (K : PySem.W.Frag) (mg : Str → Option Value) (base : Heap) (A : Around) (stack : List Env) (Ng : List Str) (x : Str) (sg : Scope) (g : Addr) (cdg : Value) (bg : List Stmt) (a : Str) (q : Str) : Addr → Addr → TLm → Hp → VK → Prop :=
  fun f c' tl H Q => ∀ s : Shared, Act0 (cxOf C8.CX0 P w K mg base Ng x sg g cdg A stack s H C8.E0) 0 a f c' q tl → ∃ t, PSs (cxOf C8.CX0 P w K mg base Ng x sg g cdg A stack s H C8.E0).nox bg t ∧ t { nx := fun _ H' => Q .non H', rt := Q } (L2.start Ng [.ref f]) H
section
variable {X : Cx}
theorem pe_lamC {P : Addr} {x a : Str} {g c : Addr} {k : Nat} {pg : Arguments} {bg : List Stmt} {sg : Scope} {dV kV doc pm cdv ct oc : Value} {an od : Option Addr} {osl : Array (Option Value)} {Ng : List Str}
    {params : Arguments} {body : Expr} {scope : Scope} {tb : XK → TE} {p lpos pos : Pos} (hg : Gl X x) (hm : X.mg x = some (.ref g)) (hk : PySem.W.keepIn X.K (.ref g) = true)
    (lk : X.K.lookup g = some ⟨oc, od, .func (PySem.W.fnOf x x pg bg sg dV kV doc pm an cdv ct), osl⟩) (hcg : PySem.W.codeIn X.K cdv x = true) (hb : L2.Binds X.K (PySem.W.fnOf x x pg bg sg dV kV doc pm an cdv ct) [a] []) (Sg : FnScope Ng [a] sg) (hNg : Ng[0]? = some a) (hva : Vis sg a)
    (TB : LamX.TabB X.base X.mg c P) (hcode : X.env.code = .ref c) (hr : Room (k + 2) X.A) (L : LamSc X.env.scope scope X.N none) (hdef : defaultsOf params X.env = ([], []))
    (hbind : ∀ (q : Str) (cl : List (Str × Addr)) (pm cv ctv : Value) (us : List Value), us.length = 0 → bindArgs (PySem.W.kla_fn "<lambda>" q params body scope cl pm cv ctv) ⟨us, []⟩ = pure [])
    (hbody : ∀ (A : Around) (outer : List Env) (s : Shared) (H : Hp) (E : XK) (f c' : Addr), Room k (A.deeper (LamX.lamEnv X scope s.heap.objs.size f c')) → PE (lmCx X none A outer s H E scope f c') body (tb E))
    (hdb : (x == ("__debug__" : Str)) = false := by decide) (hd : (a == ("__debug__" : Str)) = false := by decide) (hcd : (a == ("__classdict__" : Str)) = false := by decide) :
    PE X (.Call (.Name x p) [.Lambda params body scope lpos] [] pos) (tLamC P (X.env.qual ++ "<lambda>") (TGot X.prog X.w X.K X.mg X.base X.A X.stack Ng x sg g cdv bg a (X.env.qual ++ "<lambda>")) tb) := by
  constructor
  rintro pins s σ H Q I ⟨ps, h1, h2, h3, h4⟩
  apply wpAny_Call_Name_kw
  apply ld_glob I hg hm _ hdb
  apply PySem.W.callWith_K (h₀ := X.base) I.ok.mod.kin hk _ (by rfl) (by rfl)
  show wpAny _ _ (spliced ((false, eval (.Lambda params body scope lpos) X.env) :: backTo pos (starEach [] X.env))) _ _ s
  apply Calls.spliced_cons
  apply lam_new I TB hcode rfl h1 h2 h3 hdef (L.has I.ok)
  intro f c' pm' ctv H1 s' I1 new hf hfn hfr hco
  apply Calls.spliced_nil
  refine ⟨I1.kIn, ?_⟩
  have run : codeAny (model X.prog X.w) X.A (.call (.ref g) ⟨[.ref f], []⟩) (CR C8.CX0 X.stack X.prog X.w H1 s' Q C8.E0) s' := by
    apply LamX.run_ofS (N := Ng) (ps := [a]) (us := [.ref f]) (vs := [.ref f]) lk hcg Sg hr I1.env0 (hb s' [.ref f] I1.kIn rfl) (.cons rfl .nil) rfl
    intro hr'
    obtain ⟨t', g1, g2⟩ := h4 f c' H1 new hco s' (fun Wx pn xe p1 p2 tk => pe_act0 (i := 0) I1 L hf hfn hfr (fun us e => hbind _ _ _ _ _ us e) tk hr' (fun A outer s H E hr2 => hbody A outer s H E f c' hr2) hNg hva hd hcd)
    exact ⟨t', g1.nox, g2⟩
  apply wpAny_call
  apply codeAny_mono run
  intro r s2 q
  match r, q with
  | .error e, q => exact (show False from q).elim
  | .ok (.ret u), q => exact I1.after q
  | .ok .next, q => exact False.elim q
  | .ok .brk, q => exact False.elim q
  | .ok .cont, q => exact False.elim q
end
/-! ### .. over data -/
section
variable {K : PySem.W.Frag} {z : Av} {O : Nat → Option Addr} {As : List (List Addr)} {σd : DS} {W : WS} {σ : L2.St} {H : Hp}
/-- the world stands while a lambda is made -/
theorem lam_world {P c' : Addr} {q : Str} {ps : Array Value} {j : Nat} {H1 : Hp} (r : Rep K z O As σd W σ H) (hj : As[j]? = some [P]) (hw : W[j]? = some (.tab P q)) (hP : H P = some (.tbl ps)) (hps : ∀ (p : Pos) (cv : Value), codeAmong p ps.toList = some cv → ∃ c, cv = .ref c ∧ ¬ bad (zo z (owOf O)) As c ∧ H c = some (CodO c q)) (n : LamNew H P q ps c' H1) :
    Ext As H As H1 ∧ Wld K (zo z (owOf O)) As W H1 ∧ ¬ bad (zo z (owOf O)) As c' := by
  rcases n with ⟨rfl, p, hc⟩ | ⟨n0, ps', t1, t2, rfl⟩
  · obtain ⟨c, e, h1, h2⟩ := hps p _ hc
    cases e
    exact ⟨ExtS.refl, r.wld, h1⟩
  · have nb : ¬ bad (zo z (owOf O)) As c' := r.wld.fresh n0
    have e1 : Ext As H As (upd H P (.tbl ps')) := Ext.turn hj (fun b m => upd_ne fun e => m (by rw [e]; exact List.mem_singleton.mpr rfl)) fun a m => by
      rw [List.mem_singleton.mp m, upd_same]
      exact fun x => by cases x
    have n1 : upd H P (.tbl ps') c' = none := by rw [upd_ne (ne_of_none hP n0).symm]; exact n0
    have e2 : Ext As (upd H P (.tbl ps')) As (upd (upd H P (.tbl ps')) c' (CodO c' q)) := Ext.new n1
    refine ⟨e1.trans e2, ?_, nb⟩
    -- the table's thing is turned, then the code object is new
    have e := e1.trans e2
    refine ⟨r.wld.len, fun i l u h1 h2 => ?_, fun a f => e.up a (r.wld.trk a f), r.wld.dis, r.wld.zok.ext e⟩
    by_cases q1 : j = i
    · subst q1
      rw [hj] at h1
      cases h1
      rw [hw] at h2
      cases h2
      refine ⟨rfl, ps', by rw [upd_ne (ne_of_none hP n0), upd_same], t1, fun p cv hc => ?_⟩
      rcases t2 p cv hc with z | z
      · obtain ⟨c, g1, g2, g3⟩ := hps p cv z
        exact ⟨c, g1, g2, (e.keep c _ g3 (fun f => g2 (.inl f)) fun f => f).1⟩
      · exact ⟨c', z, nb, upd_same⟩
    · refine (r.wld.rep i l u h1 h2).ext e fun a m => ?_
      have m1 : a ≠ P := fun z => q1 (r.wld.dis j i [P] l a hj h1 (by rw [z]; exact List.mem_singleton.mpr rfl) m)
      have m2 : a ≠ c' := fun z => by
        rw [z] at m
        exact r.wld.trk c' ⟨l, List.mem_of_getElem? h1, m⟩ n0
      rw [upd_ne m2, upd_ne m1]
/-- what the def that got it promises over data -/
def GotD (K : PySem.W.Frag) (q : Str) (TT : Addr → Addr → TLm → Hp → VK → Prop) (wfg : WLm → WS → (Sv → WS → Prop) → Prop) : Prop :=
  ∀ (f c' : Addr) (z0 : Av) (As0 : List (List Addr)) (H0 : Hp) (W : WS) (tl : TLm) (wl : WLm) (Φ : Sv → WS → Prop) (Q : VK), LamOk K z0 As0 H0 tl wl → Wld K z0 As0 W H0 → H0 c' = some (CodO c' q) → ¬ fpOf As0 c' → wfg wl W Φ → Nx K z0 As0 H0 Φ Q → TT f c' tl H0 Q
/-- x(lambda: body): j the table's place -/
abbrev wLamC (j : Nat) (P : Addr) (q : Str) (wfg : WLm → WS → (Sv → WS → Prop) → Prop) (wb : XW → WE) : WE := fun σd W Φ => W[j]? = some (.tab P q) ∧ noOwn σd = true ∧ wfg (fun x W Φ ΦX => wb (fun C ks ds _ W => ΦX C ks ds W) (lamD x σd) W Φ) W Φ
theorem teo_lamC {j : Nat} {P : Addr} {q : Str} {TT : Addr → Addr → TLm → Hp → VK → Prop} {wfg : WLm → WS → (Sv → WS → Prop) → Prop} {tb : WX → TE} {wb : XW → WE} (hG : GotD K q TT wfg) (hb : TEX K tb wb) : TEok K (tLamC P q TT (fun E => tb fun cls d _ H => E cls d H)) (wLamC j P q wfg wb) := by
  intro z O As σd W σ H Φ Q r g n
  obtain ⟨hw, hO, g⟩ := g
  obtain ⟨l, hj⟩ : ∃ l, As[j]? = some l := by
    have := (List.getElem?_eq_some_iff.mp hw).1
    rw [← r.wld.len] at this
    exact ⟨_, List.getElem?_eq_getElem this⟩
  obtain ⟨rfl, ps, h1, h2, h3⟩ := r.wld.rep j l _ hj hw
  refine ⟨ps, h1, h2, fun p cv hc => ?_, fun f c' H1 new hc => ?_⟩
  · obtain ⟨c, e1, e2, e3⟩ := h3 p cv hc
    exact ⟨c, e1, e3⟩
  · obtain ⟨e, w1, nb⟩ := lam_world r hj hw h1 h3 new
    exact hG f c' _ As H1 W _ _ Φ Q (lam_ok hb (r.noO hO) (r.ext e w1)) w1 hc (fun z => nb (.inl z)) g fun v H' x As' W' e' w' hv p => n v H' x As' W' (e.trans e') w' hv p
end
section
variable {X : Cx}
/-- x(lambda: body), x a def with the one parameter a -/
theorem d_lamC {K : PySem.W.Frag} {j : Nat} {P : Addr} {x a : Str} {st : Stmt} {g c : Addr} {fd : FuncData} {k : Nat} {Ng : List Str} {params : Arguments} {body : Expr} {scope : Scope} {p lpos pos : Pos} {wfg : WLm → WS → (Sv → WS → Prop) → Prop} {tb : WX → TE} {wb : XW → WE} (hK : X.K = K) (F : L2.Fun K x x st g fd) (hb : L2.Binds K fd [a] [])
    (hg : Gl X x) (hm : X.mg x = some (.ref g)) (Sg : FnScope Ng [a] (defScope st)) (hNg : Ng[0]? = some a) (hva : Vis (defScope st) a) (hG : GotD K (X.env.qual ++ "<lambda>") (TGot X.prog X.w X.K X.mg X.base X.A X.stack Ng x (defScope st) g fd.code (defBody st) a (X.env.qual ++ "<lambda>")) wfg)
    (TB : LamX.TabB X.base X.mg c P) (hcode : X.env.code = .ref c) (hr : Room (k + 2) X.A) (L : LamSc X.env.scope scope X.N none) (hdef : defaultsOf params X.env = ([], []))
    (hbind : ∀ (q : Str) (cl : List (Str × Addr)) (pm cv ctv : Value) (us : List Value), us.length = 0 → bindArgs (PySem.W.kla_fn "<lambda>" q params body scope cl pm cv ctv) ⟨us, []⟩ = pure [])
    (hbody : ∀ (A : Around) (outer : List Env) (s : Shared) (H : Hp) (E : XK) (f c' : Addr), Room k (A.deeper (LamX.lamEnv X scope s.heap.objs.size f c')) → PDX (lmCx X none A outer s H E scope f c') body tb wb)
    (hdb : (x == ("__debug__" : Str)) = false := by decide) (hd : (a == ("__debug__" : Str)) = false := by decide) (hcd : (a == ("__classdict__" : Str)) = false := by decide) :
    PD X (.Call (.Name x p) [.Lambda params body scope lpos] [] pos) (tLamC P (X.env.qual ++ "<lambda>") (TGot X.prog X.w X.K X.mg X.base X.A X.stack Ng x (defScope st) g fd.code (defBody st) a (X.env.qual ++ "<lambda>")) (fun E => tb fun cls d _ H => E cls d H)) (wLamC j P (X.env.qual ++ "<lambda>") wfg wb) := by
  subst hK
  have ok : TEX X.K tb wb := (hbody (X.A.deeper (LamX.lamEnv X scope (0 : Nat) 0 0)) [] ⟨X.base, #[], X.s_0.drawn, 0, X.s_0.os⟩ (fun _ => none) (fun _ _ _ => False) 0 0 ((hr.deeper _).deeper _)).ok
  obtain ⟨oc, od, kV, doc, pm, an, cdv, ct, osl, e, look, code⟩ := F.ex
  subst e
  refine ⟨pe_lamC hg hm F.kp look code hb Sg hNg hva TB hcode hr L hdef hbind (fun A outer s H E f c' h => (hbody A outer s H E f c' h).pe _ (takes_of rfl rfl rfl rfl)) hdb hd hcd, ?_⟩
  exact teo_lamC hG ok
end
end DL

/-! the law as a whole, where defs make lambdas: their tables are things of the world from the first -/
namespace DLG
open PySem PySem.Spec PyProof.Rows L2
section
variable {P : Program} {w : World} {K : PySem.W.Frag} {mg mb : Str → Option Value}
/-- the body of a def at one place of the stack, its code object known -/
theorem fn_atC {A : Around} {outer : List Env} {s : Shared} {H : Hp} {base : Heap} {k : Nat} {x qual : Str} {st : Stmt} {f : Addr} {fd : FuncData} {N ps : List Str} {args : Args} {us : List Value} {vs : List V} {Q : VK} {E : XK}
    (F : Fun K x qual st f fd) (S : FnScope N ps (defScope st)) (room : Room (k + 1) A) (e0 : Env0 P w K mg base A outer s H) (bd : BindsTo s fd args (ps.zip us)) (rv : Vals vs us) (hl : vs.length = ps.length)
    (body : ∃ t, PSs (cxOf CX0 P w K mg base N qual (defScope st) f fd.code A outer s H E).nox (defBody st) t ∧ t { nx := fun _ H' => Q .non H', rt := Q } (start N vs) H) :
    codeAny (model P w) A (.call (.ref f) args) (CR CX0 outer P w H s Q E) s := by
  obtain ⟨oc, od, kV, doc, pm, an, cdv, ct, osl, e, look, code⟩ := F.ex
  subst e
  obtain ⟨t, hb, ht⟩ := body
  have hb : PSs (cxOf CX0 P w K mg base N qual (defScope st) f cdv A outer s H E).nox (defBody st) t := hb
  have inK : K.In s.heap := e0.mod.kin.keeps fun b o q => (e0.bs b o q).1
  have nolim : s.heap.NoLimit := e0.mod.nolimit.keeps fun b o q => (e0.bs b o q).1
  have kinds : ∀ y, y ∈ ps.zip us → (defScope st).names.lookup y.1 = some .local ∨ ((defScope st).names.lookup y.1 = some .cell ∧ ((cellsFrom (s.heap.objs.size + 1) (defScope st).names []).lookup y.1).isSome = true) := by
    intro y hy
    have hm : y.1 ∈ ps := (List.of_mem_zip (a := y.1) (b := y.2) hy).1
    exact (S.par y.1 hm).imp id fun q => ⟨q, PySem.W.cellsFrom_some _ _ _ (Or.inl q)⟩
  apply codeAny_call_function room.depth (inK _ _ look) rfl S.co S.gen rfl (PySem.W.codeRec_of inK code)
  apply bd
  apply wpAny_newFunctionEnv_cells S.kind kinds
  intro env he s1 inn
  cases he
  constructor
  · exact nolim.keeps inn.toInCall.keep
  apply codeAny_func
  have J := inv_start (CX := CX0) (cd := cdv) (f := f) (qual := qual) (E := E) S room.hd e0 hl rv inn
  apply wpAny_mono (hb.nox.run [] s1 (start N vs) H _ J ht)
  · intro fl s' q
    have out : ∀ (v : V) (u : Value) (σ' : L2.St) (H' : Hp), Inv (cxOf CX0 P w K mg base N qual (defScope st) f cdv A outer s H E) [] σ' H' s' → RelV v u → Q v H' → CE outer P w H s Q u s' :=
      fun v u σ' H' I r q => ⟨v, H', I.os, I.bare, I.base, I.hok, r, q⟩
    cases fl
    case ret u => obtain ⟨v, σ', H', I, r, q⟩ := q; exact out v u σ' H' I r q
    case next => obtain ⟨σ', H', I, q⟩ := q; exact out .non .none σ' H' I rfl q
    case brk => obtain ⟨_, _, _, q⟩ := q; exact q.elim
    case cont => obtain ⟨_, _, _, q⟩ := q; exact q.elim
  · exact fun _ _ q => q
/-- the law's call out of the top; cs: code objects and their tables, empty yet -/
theorem head_atT {cs : List (Addr × Addr)} {fa a : Addr} {s₁ : Shared} {vs : List Value} {ns : List Int} (inK : K.In s₁.heap) (hn : s₁.heap.Ns mainGlobals mg) (hb : s₁.heap.Ns builtinsNs mb) (boot : ∀ x : Str, x ≠ "__name__" → mb x = bootBuiltins x)
    (nolim : s₁.heap.NoLimit) (gens : s₁.gens = #[]) (hT : ∀ p ∈ cs, s₁.heap.get? p.2 = some { cls := .none, data := .fields #[] }) (nT : ∀ p ∈ cs, K.lookup p.2 = none) (cT : ∀ p ∈ cs, PySem.W.codeHdIn K p.1 p.2 = true)
    (hbm : ∃ (bm : Addr) (ob : Obj), mg "__builtins__" = some (.ref bm) ∧ bm ≠ builtinsNs ∧ s₁.heap.get? bm = some ob ∧ ob.cls = .type "module" ∧ ob.dict = some builtinsNs ∧ ob.data = .plain)
    (at_ : s₁.heap.get? a = some { cls := .type "list", data := .seq vs.toArray }) (whole : IntsAre vs ns) (few : ns.length ≤ sizeLine)
    (run : ∀ (base : Heap) (H : Hp), K.In base → base.Ns mainGlobals mg → Env0 P w K mg base callerA [] s₁ H → (∀ p ∈ cs, LamX.TabB base mg p.1 p.2) → (∀ p ∈ cs, H p.2 = some (.tbl #[])) → SqL K H a (ns.map V.int) → codeAny (model P w) callerA (.call (.ref fa) ⟨[.ref a], []⟩) (CR CX0 [] P w H s₁ (fun v _ => v = .bl true) fun _ _ _ => False) s₁) :
    codeAny (model P w) callerA (.call (.ref fa) ⟨[.ref a], []⟩) (fun r s' => r = .ok (.ret (.bool true)) ∧ OldK s₁.heap s'.heap ∧ s'.os = s₁.os ∧ AllBare s'.gens) s₁ := by
  have isTab : ∀ b, b ∈ cs.map (·.2) → s₁.heap.get? b = some { cls := .none, data := .fields #[] } ∧ K.lookup b = none := by
    intro b hb
    obtain ⟨p, hp, rfl⟩ := List.mem_map.mp hb
    exact ⟨hT p hp, nT p hp⟩
  have inT : ∀ p, p ∈ cs → p.2 ∈ cs.map (·.2) := fun p hp => List.mem_map.mpr ⟨p, hp, rfl⟩
  have notA : a ∉ cs.map (·.2) := by
    intro z
    have q := (isTab a z).1
    rw [at_] at q
    have q2 : Data.seq vs.toArray _ = Data.fields #[] := congrArg Obj.data (Option.some.inj q)
    cases q2
  have go : ∀ H : Hp, (∀ b, H b ≠ none → (b ∈ cs.map (·.2) ∧ H b = some (.tbl #[])) ∨ (b = a ∧ K.lookup a = none ∧ ∃ o l, H b = some (.frz o (.lst l)))) → (∀ p ∈ cs, H p.2 = some (.tbl #[])) → HOk P w H s₁.heap → SqL K H a (ns.map V.int) →
      codeAny (model P w) callerA (.call (.ref fa) ⟨[.ref a], []⟩) (fun r s' => r = .ok (.ret (.bool true)) ∧ OldK s₁.heap s'.heap ∧ s'.os = s₁.os ∧ AllBare s'.gens) s₁ := by
    intro H only tabs hok sq
    -- what is no list and no empty table is the ground's
    have off : ∀ {b : Addr} {o : Obj}, s₁.heap.get? b = some o → (∀ vs n, o.data ≠ .seq vs n) → o.data ≠ .fields #[] → H b = none := by
      intro b o e n1 n2
      apply Classical.byContradiction
      intro z
      rcases only b z with ⟨m, _⟩ | ⟨rfl, _⟩
      · rw [(isTab b m).1] at e
        cases e
        exact n2 rfl
      · rw [at_] at e
        cases e
        exact n1 _ _ rfl
    have dict : ∀ {b : Addr} {o : Obj} {es : Array DictEntry} {ep : Nat}, s₁.heap.get? b = some o → o.data = .dict es ep → H b = none := by
      intro b o es ep e d
      apply off e
      · intro vs n z
        rw [d] at z
        cases z
      · intro z
        rw [d] at z
        cases z
    have bK : K.In (hidT s₁.heap H) := by
      intro b o q
      apply hidT_get (inK b o q)
      apply Classical.byContradiction
      intro z
      rcases only b z with ⟨m, _⟩ | ⟨rfl, y, _⟩
      · rw [(isTab b m).2] at q
        cases q
      · rw [y] at q
        cases q
    have bN : ∀ {c : Addr} {m : Str → Option Value}, s₁.heap.Ns c m → (hidT s₁.heap H).Ns c m := by
      rintro c m ⟨o, es, ep, q, d, r⟩
      exact ⟨o, es, ep, hidT_get q (dict q d), d, r⟩
    have bM : Mod K mg (hidT s₁.heap H) := by
      obtain ⟨mc, l1, l2⟩ := nolim
      exact ⟨bK, bN hn, ⟨mb, bN hb, boot⟩, ⟨mc, bN l1, l2⟩⟩
    have tb : ∀ p ∈ cs, LamX.TabB (hidT s₁.heap H) mg p.1 p.2 := by
      intro p hp
      refine ⟨PySem.W.codeHd_of_K bK (cT p hp), ?_, fun z => ?_⟩
      · obtain ⟨bm, ob, b1, b2, b3, b4, b5, b6⟩ := hbm
        refine ⟨bm, ob, b1, b2, fun q => ?_, fun q => ?_, hidT_get b3 (off b3 (fun vs n z => ?_) fun z => ?_), b4, b5, b6⟩
        · obtain ⟨o, es, ep, e, hd, _⟩ := hn
          rw [q, e] at b3
          cases b3
          rw [hd] at b6
          cases b6
        · rw [q, hT p hp] at b3
          cases b3
          cases b6
        · rw [b6] at z
          cases z
        · rw [b6] at z
          cases z
      · obtain ⟨o, es, ep, e, hd, _⟩ := hn
        rw [z, hT p hp] at e
        cases e
        cases hd
    have e0 : Env0 P w K mg (hidT s₁.heap H) callerA [] s₁ H := {
      frames := rfl, mod := bM, bs := fun _ _ q => of_hidT q, bsz := Nat.le_of_eq (hidT_size _ _), funs := trivial
      frf := fun b q => (List.not_mem_nil q).elim, hok := hok, bare := .of_eq gens }
    apply codeAny_mono (run _ H bK (bN hn) e0 tb tabs sq)
    intro r s' res
    match r, res with
    | .error e, res => exact False.elim res
    | .ok .next, res => exact False.elim res
    | .ok .brk, res => exact False.elim res
    | .ok .cont, res => exact False.elim res
    | .ok (.ret u), ⟨v, H', os, bare, un, hok', rv, q⟩ =>
      have q' : v = .bl true := q
      subst q'
      have eu : u = .bool true := rv
      subst eu
      have more : ∀ p ∈ cs, ∃ m : Array Value, s'.heap.get? p.2 = some { cls := .none, data := .fields m } := by
        intro p hp
        obtain ⟨m, z⟩ := un.tbls p.2 #[] (tabs p hp)
        exact ⟨_, hok' p.2 _ z⟩
      have kept : ∀ b o, b ∉ cs.map (·.2) → s₁.heap.get? b = some o → s'.heap.get? b = some o := by
        intro b o nb q
        by_cases z : H b = none
        · exact un.keep b o q z (fun y => (List.not_mem_nil y).elim) fun y => (List.not_mem_nil y).elim
        · rcases only b z with ⟨m, _⟩ | ⟨_, _, ob, l, y⟩
          · exact absurd m nb
          · have h1 := (hok b _ y).1
            have h2 := (hok' b _ (un.frzs b ob _ y)).1
            rw [q] at h1
            cases h1
            exact h2
      refine ⟨rfl, ⟨fun b o q => ?_, fun b o q => ?_⟩, os, bare⟩ <;> by_cases m : b ∈ cs.map (·.2)
      · obtain ⟨p, hp, rfl⟩ := List.mem_map.mp m
        obtain ⟨ar, har⟩ := more p hp
        rw [hT p hp] at q
        cases q
        exact .inr (.inl ⟨((PySem.W.codeHd_of_K inK (cT p hp)).tab (hT p hp)).isCodeTable, rfl, #[], ar, rfl, by rw [Array.empty_append]; exact har⟩)
      · exact .inl (kept b o m q)
      · obtain ⟨p, hp, rfl⟩ := List.mem_map.mp m
        obtain ⟨ar, har⟩ := more p hp
        exact ⟨_, har⟩
      · exact ⟨o, kept b o m q⟩
  have rv := vals_ints whole
  cases look : K.lookup a with
  | some o =>
    have q := inK a o look
    rw [at_] at q
    cases q
    apply go fun b => if b ∈ cs.map (·.2) then some (.tbl #[]) else none
    · intro b q
      by_cases z : b ∈ cs.map (·.2)
      · exact .inl ⟨z, if_pos z⟩
      · exact absurd (if_neg z) q
    · exact fun p hp => if_pos (inT p hp)
    · intro b u q
      by_cases z : b ∈ cs.map (·.2)
      · cases (if_pos z).symm.trans q
        exact (isTab b z).1
      · cases (if_neg z).symm.trans q
    · exact Or.inr ⟨_, vs.toArray, _, look, rfl, rfl, rfl, by rw [List.size_toArray, whole.length]; exact few, by simpa using rv⟩
  | none =>
    let o0 : Obj := { cls := .type "list", data := .seq vs.toArray }
    have ne : ∀ p, p ∈ cs → ¬ p.2 = a := fun p hp z => notA (by rw [← z]; exact inT p hp)
    have at1 : (fun b => if b = a then some (HO.frz o0 (.lst (ns.map V.int))) else if b ∈ cs.map (·.2) then some (.tbl #[]) else none : Hp) a = some (.frz o0 (.lst (ns.map V.int))) := if_pos rfl
    apply go fun b => if b = a then some (HO.frz o0 (.lst (ns.map V.int))) else if b ∈ cs.map (·.2) then some (.tbl #[]) else none
    · intro b q
      by_cases z : b = a
      · exact .inr ⟨z, look, o0, _, if_pos z⟩
      · by_cases z2 : b ∈ cs.map (·.2)
        · exact .inl ⟨z2, (if_neg z).trans (if_pos z2)⟩
        · exact absurd ((if_neg z).trans (if_neg z2)) q
    · exact fun p hp => (if_neg (ne p hp)).trans (if_pos (inT p hp))
    · intro b u q
      by_cases z : b = a
      · subst z
        have y := (if_pos rfl).symm.trans q
        cases y
        exact ⟨at_, by rw [List.length_map]; exact few, vs, _, rv, at_⟩
      · by_cases z2 : b ∈ cs.map (·.2)
        · cases ((if_neg z).trans (if_pos z2)).symm.trans q
          exact (isTab b z2).1
        · cases ((if_neg z).trans (if_neg z2)).symm.trans q
    · exact Or.inl (Or.inr ⟨o0, at1⟩)
end
end DLG
namespace DL
open PySem L2
/-- code object, table, name -/
abbrev LT : Type := Addr × Addr × Str
def tabsW (ts : List LT) : WS := ts.map fun t => .tab t.2.1 t.2.2
def wfLawT (ts : List LT) : WFn := fun xs W Φ => match xs with
  | [.d (.lst xs)] => (∃ ns, xs = ns.map Dv.int ∧ scriptOk ns) ∧ W = tabsW ts ∧ ∀ W', Φ (.d (.bl true)) W'
  | _ => False
theorem law_inT {K : PySem.W.Frag} {ts : List LT} {H : Hp} {a : Addr} {ns : List Int} (hl : ns.length ≤ 63) (hb : ∀ k, k ∈ ns → Builtin.Int.intBits k ≤ 1048576) (hT : ∀ t ∈ ts, H t.2.1 = some (.tbl #[])) (nd : (ts.map fun t => t.2.1).Nodup) (hS : SqL K H a (ns.map V.int)) : spD K (wfLawT ts) [.ref a] H (fun v _ => v = .bl true) fun _ _ _ => False := by
  have fp : ∀ {b}, fpOf (ts.map fun t => [t.2.1]) b → H b = some (.tbl #[]) := by
    rintro b ⟨l, hl, hm⟩
    obtain ⟨t, ht, rfl⟩ := List.mem_map.mp hl
    rw [List.mem_singleton.mp hm]
    exact hT t ht
  have at_ : ∀ {j : Nat} {l : List Addr}, (ts.map fun t => [t.2.1])[j]? = some l → ∃ t, ts[j]? = some t ∧ l = [t.2.1] := by
    intro j l h
    rw [List.getElem?_map] at h
    cases q : ts[j]? with
    | none => rw [q] at h; cases h
    | some t => rw [q] at h; cases h; exact ⟨t, rfl, rfl⟩
  have hs : Sq K (bad No (ts.map fun t => [t.2.1])) H a (ns.map V.int) := by
    rcases hS with h | h
    · refine .inl ⟨fun q => ?_, h⟩
      rcases q with q | q
      · have z := fp q
        rcases h with h | ⟨o, h⟩ <;> rw [h] at z <;> cases z
      · exact q
    · exact .inr fun H => .inr h
  have hi : ∀ ns : List Int, HasL K (bad No (ts.map fun t => [t.2.1])) H (ns.map V.int) (ns.map Dv.int) := fun ns => by
    induction ns with
    | nil => exact .nil
    | cons n ns ih => exact .cons (.int n) ih
  refine ⟨No, ts.map fun t => [t.2.1], tabsW ts, [.d (.lst (ns.map Dv.int))], fun x _ => x = .d (.bl true), ⟨by unfold tabsW; rw [List.length_map, List.length_map], fun j l o h1 h2 => ?_, fun a f => (by rw [fp f]; exact fun x => by cases x), fun i j l l' b h1 h2 m1 m2 => ?_, ⟨fun a q => q.elim, fun a q => q.elim⟩⟩, .cons (.d (.lst hs (hi ns))) .nil, ⟨⟨ns, rfl, hl, hb⟩, rfl, fun _ => rfl⟩, fun v H' x As' W' e wl hv p => ?_⟩
  · obtain ⟨t, ht, rfl⟩ := at_ h1
    unfold tabsW at h2
    rw [List.getElem?_map, ht] at h2
    cases h2
    exact ⟨rfl, #[], hT t (List.mem_of_getElem? ht), True.intro, fun pos cv hc => by
      have z : codeAmong pos [] = some cv := hc
      simp [codeAmong] at z⟩
  · obtain ⟨t, ht, rfl⟩ := at_ h1
    obtain ⟨t', ht', rfl⟩ := at_ h2
    have e : t.2.1 = t'.2.1 := (List.mem_singleton.mp m1).symm.trans (List.mem_singleton.mp m2)
    have g1 : (ts.map fun t => t.2.1)[i]? = some t.2.1 := by rw [List.getElem?_map, ht] <;> rfl
    have g2 : (ts.map fun t => t.2.1)[j]? = some t.2.1 := by rw [List.getElem?_map, ht', e] <;> rfl
    have hi := (List.getElem?_eq_some_iff.mp g1).1
    exact (List.getElem?_inj hi nd).mp (g1.trans g2.symm)
  · subst p
    exact hv.bl
section
variable {P : Program} {w : World} {K : PySem.W.Frag} {mg : Str → Option Value}
/-- the law's def keeps its promise, called out of the top -/
def LawAtT (P : Program) (w : World) (K : PySem.W.Frag) (mg : Str → Option Value) (ts : List LT) (f : Addr) : Prop := ∀ (base : Heap) (H : Hp) (s : Shared) (a : Addr) (ns : List Int), K.In base → base.Ns mainGlobals mg → Env0 P w K mg base callerA [] s H →
  (∀ t ∈ ts, LamX.TabB base mg t.1 t.2.1) → (∀ t ∈ ts, H t.2.1 = some (.tbl #[])) → ns.length ≤ 63 → (∀ k, k ∈ ns → Builtin.Int.intBits k ≤ 1048576) → SqL K H a (ns.map V.int) → codeAny (model P w) callerA (.call (.ref f) ⟨[.ref a], []⟩) (CR CX0 [] P w H s (fun v _ => v = .bl true) fun _ _ _ => False) s
theorem okGT {ts : List LT} {x qual : Str} {st : Stmt} {f : Addr} {fd : FuncData} {N : List Str} {k : Nat} (nd : (ts.map fun t => t.2.1).Nodup) (F : Fun K x qual st f fd) (S : FnScope N ["_law_script"] (defScope st)) (B : Binds K fd ["_law_script"] []) (hr : Room (k + 1) callerA)
    (body : ∀ (base : Heap) (A : Around) (outer : List Env) (s : Shared) (H : Hp) (E : XK), (∀ t ∈ ts, LamX.TabB base mg t.1 t.2.1) → Room k (A.deeper (PyProof.Rows.envOfC qual (defScope st) s.heap.objs.size f fd.code)) → A.guards = some [] →
      ∃ t wb, PDSs (cxOf CX0 P w K mg base N qual (defScope st) f fd.code A outer s H E).nox (defBody st) t wb ∧ ∀ xs W Φ, wfLawT ts xs W Φ → wb (finD Φ) (startD N xs) W) : LawAtT P w K mg ts f := by
  intro base H s a ns hK hN e0 hB hT hl hb hS
  have inK : K.In s.heap := e0.mod.kin.keeps fun b o q => (e0.bs b o q).1
  refine DLG.fn_atC (us := [.ref a]) (vs := [.ref a]) F S hr e0 (B s [.ref a] inK rfl) (.cons rfl .nil) rfl ?_
  obtain ⟨t, wb, hp, hw⟩ := body base callerA [] s H (fun _ _ _ => False) hB (hr.deeper _) rfl
  obtain ⟨z, As, W, xs, Φ, wl, hv, h, q⟩ := law_inT (K := K) (H := H) (a := a) hl hb hT nd hS
  refine ⟨t, hp.ps, hp.ok _ _ (rep_start wl hv) (hw xs W Φ h) ?_⟩
  have ow : ∀ {As' : List (List Addr)} {ow' : Av} {H' : Hp}, ExtS As (owOf fun _ => none) H As' ow' H' → Ext As H As' H' := fun e =>
    ⟨fun b o h1 n1 _ => ⟨(e.keep b o h1 n1 fun ⟨i, q⟩ => by cases q).1, (e.keep b o h1 n1 fun ⟨i, q⟩ => by cases q).2.1, fun f => f⟩, e.at_, e.up⟩
  refine ⟨fun σd' W' O' As' σ' H' e r p => ?_, fun v x W' ow' As' H' e wl' hv' p => q v H' x As' W' (ow e) wl' hv' p, fun _ _ _ _ _ _ _ _ p => p.elim, fun _ _ _ _ _ _ _ _ p => p.elim⟩
  exact q .non H' (.d .non) As' W' (ow e) (r.wld.weak fun a q => .inl q) (.d .non) p
/-- a def's code object -/
theorem code_at {x qual : Str} {st : Stmt} {f : Addr} {fd : FuncData} {p : He.Defn} (F : Fun K x qual st f fd) (hf : He.fAd K p = f) : fd.code = .ref (He.codeOf K p) := by
  obtain ⟨oc, od, kV, doc, pm, an, cdv, ct, osl, e, look, code⟩ := F.ex
  subst e
  obtain ⟨c, rfl⟩ := He.codeIn_ref code
  rw [He.codeOf_eq (by rw [hf]; exact look) rfl]
end
end DL
namespace DH
open PySem PySem.Spec PyProof.Rows L2
/-- the end -/
theorem walkHT {l : PySem.W.OpenLaw} {q : Program} {loose : List Str} {XP : (Str → Option Value) → Heap → Prop} {fa : List Ft} {da : List Df} {ta : List Tab} {tf : List He.Defn} {nm : He.Defn → Str} {n : List Addr} {d : DefRec} (hn : l.most = some 63) (hdf : d.params.defaults = [])
    (F : ∀ (w : World) (K : PySem.W.Frag) (mg : Str → Option Value) (f : Addr) (h : Heap), K.In h → Says fa da ta w K → h.Ns mainGlobals mg → mg d.name = some (.ref f) → DL.LawAtT l.prog w K mg (tf.map fun p => ((He.cT K p).1, (He.cT K p).2, nm p)) f) : PySem.W.WalkO q loose XP (hookT n fa da ta tf).says l.row.toRowW d [] (fun f vs => PySem.call f vs) := by
  apply Att.attach_callB hn hdf
  intro w s₀ s₁ mg mb fa o pm cd doc a vs ns G Y ho hd hcd hmg hobj hints hlen hbits hg
  obtain ⟨K, inK, c⟩ := Y
  have pull : ∀ {Pr : Addr × Addr → Prop}, (∀ p ∈ tf, Pr (He.cT K p)) → ∀ x ∈ tf.map (He.cT K), Pr x := fun h x hx => by
    obtain ⟨p, hp, rfl⟩ := List.mem_map.mp hx
    exact h p hp
  refine DLG.head_atT (cs := tf.map (He.cT K)) inK G.T.g G.T.b G.T.builtins G.T.nolimit hg (pull c.empty) (pull c.out) (pull c.hd) G.T.bmain hobj hints (Nat.le_trans hlen (by decide)) fun base H hK hN e0 hB hT hS => ?_
  refine F w K mg fa _ inK c.s G.T.g hmg base H s₁ a ns hK hN e0 (fun t ht => ?_) (fun t ht => ?_) hlen hbits hS
  · obtain ⟨p, hp, rfl⟩ := List.mem_map.mp ht
    exact hB _ (List.mem_map.mpr ⟨p, hp, rfl⟩)
  · obtain ⟨p, hp, rfl⟩ := List.mem_map.mp ht
    exact hT _ (List.mem_map.mpr ⟨p, hp, rfl⟩)
end DH

namespace DL
open PySem L2
/-! ### x, y = a value, an own list: names that inner code knows -/
theorem tso_asgEF {K : PySem.W.Frag} {i j : Nat} {t1 t2 : TE} {w1 : WE} {w2 : WF} (h1 : TEok K t1 w1) (h2 : TFok K t2 w2) : TSok K (tAsg (tTup (tCons t1 (tCons t2 tNil))) (gTup K 2 (gCons (gName i) (gCons (gName j) gNil)))) (wParEF i j w1 w2) := by
  intro z O As σd W σ H Dd D r g q
  obtain ⟨⟨lj, ne⟩, g⟩ := g
  refine h1 _ _ r g fun v H1 y As1 W1 e1 wl1 hv g1 => ?_
  have r1 := r.ext e1 wl1
  refine h2 _ _ r1 g1 fun p H2 vs xs As2 W2 hp e2 wl2 hl hx g2 => ?_
  refine ⟨line_of (by show 2 ≤ 1000000; decide), fun t ht => ?_⟩
  have en : Ext As2 H2 As2 (upd H2 t (.tup [v, .ref p])) := Ext.new ht
  have e3 := e2.trans en
  have wl3 := wl2.new (o := .tup [v, .ref p]) ht
  have hl3 : upd H2 t (.tup [v, .ref p]) p = some (.lst vs) := by rw [upd_ne (ne_of_none hl ht)]; exact hl
  have hx3 : HasL K (bad (z1 (zo z (owOf O)) p) As2) (upd H2 t (.tup [v, .ref p])) vs xs := hx.mv (Ext.mv en)
  have rA := r1.setOwn j hp e3 wl3 hl3 hx3 lj
  have mv : Mv (bad (zo z (owOf O)) As1) H1 (bad (z1 (zo z (owOf O)) p) As2) (upd H2 t (.tup [v, .ref p])) := fun b o hb n => by
    obtain ⟨g1, g2, _⟩ := e3.keep b o hb (fun f => n (.inl f)) fun f => f
    refine ⟨g1, fun q => ?_⟩
    rcases q with q | q | q
    · exact g2 q
    · exact n (.inr q)
    · subst q
      rw [hp] at hb
      cases hb
  have hv2 : HasV K (z1 (zo z (owOf O)) p) As2 (upd H2 t (.tup [v, .ref p])) v y := by
    cases hv with
    | d h => exact .d (h.mv mv)
    | box h => exact .box (e3.at_ _ _ h)
  have sub : ∀ a, zo z (owOf (setO O j p)) a → z1 (zo z (owOf O)) p a := fun a q => by
    rcases q with q | q
    · exact .inl (.inl q)
    · rcases setO_sub q with q | q
      · exact .inl (.inr (noO_sub q))
      · exact .inr q
  have rB := rA.setV i (hv2.weak sub)
  have rC : Rep K z (noO (setO O j p) i) As2 ((σd.set i (some (.v y))).set j (some (.own xs))) W2 ((σ.set i (some v)).set j (some (.ref p))) (upd H2 t (.tup [v, .ref p])) := by
    rw [List.set_comm _ _ ne, List.set_comm _ _ ne]
    exact rB
  refine ⟨t, _, rfl, SqT.of upd_same, rfl, v, [.ref p], rfl, .ref p, [], rfl, rfl, ?_⟩
  exact q.nx _ W2 _ As2 _ _ ((e1.own.trans (ext_setO hp e3)).trans ext_noO) rC g2
section
variable {X : Cx}
theorem s_asgEF {x y : Str} {a b : Expr} {t1 t2 : TE} {w1 : WE} {w2 : WF} {pos : Pos} (i j : Nat) {px py pt : Pos} {kt k2 pt2} (hg : L2.PG X (.Tuple [.Name x px, .Name y py] kt pt) (gTup X.K 2 (gCons (gName i) (gCons (gName j) gNil)))) (ha : PD X a t1 w1) (hb : PF X b t2 w2)
    (h1 : starEach [a, b] X.env = (false, eval a X.env) :: starEach [b] X.env := by rfl) (h2 : starEach [b] X.env = (false, eval b X.env) :: starEach [] X.env := by rfl)
    (hs : swapsWithSole [.Tuple [.Name x px, .Name y py] kt pt] (.Tuple [a, b] k2 pt2) pos.line X.env = pure false := by rfl) (hw : swappedStores [.Tuple [.Name x px, .Name y py] kt pt] (.Tuple [a, b] k2 pt2) X.env = pure none := by rfl)
    (h3 : (assignEach [.Tuple [.Name x px, .Name y py] kt pt] X.env).map (·.2) = [assign (.Tuple [.Name x px, .Name y py] kt pt) X.env] := by rfl) :
    PDS X (.Assign [.Tuple [.Name x px, .Name y py] kt pt] (.Tuple [a, b] k2 pt2) pos) (tAsg (tTup (tCons t1 (tCons t2 tNil))) (gTup X.K 2 (gCons (gName i) (gCons (gName j) gNil)))) (wParEF i j w1 w2) :=
  ⟨ps_asg (pe_tup (pa_cons ha.pe (pa_cons hb.pe pa_nil h2) h1)) hg hs hw h3, tso_asgEF ha.ok hb.ok⟩
/-- a class whose __init__ raises, defaults told together -/
theorem dX_makeKD {K : PySem.W.Frag} {x : Str} {p pos : Pos} {e : Expr} {es : List Expr} {t : TA} {wa : WA} {wf : WFnX} {C fa : Addr} {fd : FuncData} {ps : List Str} {k : Nat} {dvs : List V} {dd : List Dv} (hK : X.K = K) (M : Mk X.K C fa) (F : FnOk X.prog X.w X.K X.mg X.base (L2.CX X.prog X.w) k fa fd ps (spX X.K wf)) (hr : Room (k + 1) X.A) (hg : Gl X x) (hm : X.mg x = some (.ref C)) (hb : ∃ ds, Vals dvs ds ∧ Binds X.K fd ps ds) (hc : Cn X.K dvs dd)
    (ha : PAD X (e :: es) t wa) (hdb : (x == ("__debug__" : Str)) = false := by decide) (he : starEach (e :: es) X.env = (false, eval e X.env) :: starEach es X.env := by rfl) (hpl : (backTo pos (starEach es X.env)).any (·.1) = false := by rfl) :
    PDX X (.Call (.Name x p) (e :: es) [] pos) (fun Wx => tMakeS C (spX K wf) dvs (fun σ cls d H => Wx cls d σ H) t) (wMakeX C wf dd wa) := by
  obtain ⟨ds, h1, h2⟩ := hb
  exact dX_makeK hK M F hr hg hm h2 h1 hc ha hdb he hpl
end
end DL
namespace DL
open PySem L2
/-- the end of a def that got a lambda -/
theorem got_fin {P : Program} {w : World} {K : PySem.W.Frag} {mg : Str → Option Value} {base : Heap} {A : Around} {stack : List Env} {Ng : List Str} {x : Str} {sg : Scope} {g f : Addr} {cdg : Value} {bg : List Stmt} {z0 : Av} {As0 : List (List Addr)} {H0 : Hp} {W : WS} {s : Shared} {Φ : Sv → WS → Prop} {Q : VK} {t : WX → TS} {wb : XW → WSt}
    (hw : PDSsXb (cxOf C8.CX0 P w K mg base Ng x sg g cdg A stack s H0 C8.E0).nox z0 As0 H0 bg t wb) (wl : Wld K z0 As0 W H0) (n : Nx K z0 As0 H0 Φ Q) (h : wb (fun _ _ _ _ _ => False) (finD Φ) (startD Ng [.d (.raw (.ref f))]) W) :
    ∃ t, PSs (cxOf C8.CX0 P w K mg base Ng x sg g cdg A stack s H0 C8.E0).nox bg t ∧ t { nx := fun _ H' => Q .non H', rt := Q } (L2.start Ng [.ref f]) H0 := by
  have b0 : ExtS As0 No H0 As0 (owOf fun _ => none) H0 := ⟨fun b o h n _ => ⟨h, n, fun ⟨i, q⟩ => by cases q⟩, fun _ _ h => h, fun _ h => h⟩
  have ow : ∀ {As' : List (List Addr)} {ow' : Av} {H' : Hp}, ExtS As0 (owOf fun _ => none) H0 As' ow' H' → Ext As0 H0 As' H' := fun e =>
    ⟨fun b o h1 n1 _ => ⟨(e.keep b o h1 n1 fun ⟨i, q⟩ => by cases q).1, (e.keep b o h1 n1 fun ⟨i, q⟩ => by cases q).2.1, fun f => f⟩, e.at_, e.up⟩
  refine ⟨_, hw.ps (fun _ _ _ _ => False) LamX.takes0, hw.ok _ _ _ _ b0 (rep_start wl (.cons (.d (.raw _)) .nil)) h ?_ fun _ _ _ _ _ _ _ _ _ _ _ _ _ p => p.elim⟩
  refine ⟨fun σd' W' O' As' σ' H' e r p => ?_, fun v x W' ow' As' H' e wl' hv' p => n v H' x As' W' (ow e) wl' hv' p, fun _ _ _ _ _ _ _ _ p => p.elim, fun _ _ _ _ _ _ _ _ p => p.elim⟩
  exact n .non H' (.d .non) As' W' (ow e) (r.wld.weak fun a q => .inl q) (.d .non) p
end DL
namespace DL
open PySem L2
section
variable {X : Cx} {c a b : Expr} {tt : TT} {wt : WT} {ta tb : WX → TE} {wa wb : XW → WE} {pos : Pos}
/-- a if c else b, either may raise -/
theorem dX_if (hc : PTD X c tt wt) (ha : PDX X a ta wa) (hb : PDX X b tb wb) : PDX X (.IfExp c a b pos) (fun Wx => tIf tt (ta Wx) (tb Wx)) (fun ΦX => wIf wt (wa ΦX) (wb ΦX)) := by
  refine ⟨fun Wx k => pe_ifExp hc.pt (ha.pe Wx k) (hb.pe Wx k), ?_⟩
  intro z O As σd W σ H ΦX Wx Φ Q r g q x
  refine hc.ok _ _ r g fun b H1 As1 W1 e wl p => ?_
  cases b with
  | true =>
    rw [if_pos rfl] at p ⊢
    exact ha.ok ΦX Wx Φ Q (r.ext e wl) p (fun v H' x' As' W' e2 wl2 hv p2 => q v H' x' As' W' (e.trans e2) wl2 hv p2) (x.ext e.own)
  | false =>
    rw [if_neg Bool.false_ne_true] at p ⊢
    exact hb.ok ΦX Wx Φ Q (r.ext e wl) p (fun v H' x' As' W' e2 wl2 hv p2 => q v H' x' As' W' (e.trans e2) wl2 hv p2) (x.ext e.own)
end
end DL

namespace My
open PySem L2 DL TL
def top (i : Nat) : Stmt := PySem.Challenge.pw_frostmarks_k06_keepers_refused.main.body.getD i (.Pass ⟨0, 0, 0, 0⟩)
abbrev s_is_integer : Stmt := (top 8)
abbrev s_is_from : Stmt := (top 9)
abbrev s_is_one_of : Stmt := (top 10)
abbrev s_is_setting : Stmt := (top 16)
abbrev s_first_wrong : Stmt := (top 17)
abbrev s_word_of : Stmt := (top 18)
abbrev s_Keeper___init__ : Stmt := (inClass (top 19) 0)
abbrev s_Keeper_settings : Stmt := (inClass (top 19) 2)
abbrev s_Keeper_but : Stmt := (inClass (top 19) 3)
abbrev s_Keeper___str__ : Stmt := (inClass (top 19) 6)
abbrev s_Keeper___eq__ : Stmt := (inClass (top 19) 5)
abbrev s__law_deal : Stmt := (top 22)
abbrev s__law_draw : Stmt := (top 23)
abbrev s__law_pick : Stmt := (top 24)
abbrev s__law_thing : Stmt := (top 26)
abbrev s__law_names : Stmt := (top 27)
abbrev s__law_words : Stmt := (top 28)
abbrev s__law_passing : Stmt := (top 29)
abbrev s__law_settings : Stmt := (top 30)
abbrev s__law_made : Stmt := (top 31)
abbrev s__law_kept : Stmt := (top 32)
abbrev s__law_but : Stmt := (top 33)
abbrev s__law_is_from : Stmt := (top 34)
abbrev s__law_is_fine : Stmt := (top 35)
abbrev s__law_first_wrong : Stmt := (top 36)
abbrev s__law_heard : Stmt := (top 37)
abbrev s_law : Stmt := (top 38)
abbrev s_InvalidKeeper : Stmt := (inClass (top 2) 0)
def tab_WORDS : Str → Option Dv := fun n => if n = "counts" then some (.tup ((["all", "both", "now", "readers"] : List Str).map Dv.str)) else if n = "marks" then some (.tup ((["frozen", "never", "seen"] : List Str).map Dv.str)) else if n = "moves" then some (.tup ((["always", "whole"] : List Str).map Dv.str)) else if n = "cut" then some (.tup ((["horizon", "mark", "never"] : List Str).map Dv.str)) else if n = "marked" then some (.tup ((["always", "never"] : List Str).map Dv.str)) else if n = "held" then some (.tup ((["always", "never"] : List Str).map Dv.str)) else none
abbrev P : Program := PySem.Challenge.pw_frostmarks_k06_keepers_refused
structure TT (w : World) (K : PySem.W.Frag) (mg : Str → Option Value) where
  b_int : mg "int" = none
  b_bool : mg "bool" = none
  b_str : mg "str" = none
  b_isinstance : mg "isinstance" = none
  b_abs : mg "abs" = none
  b_max : mg "max" = none
  b_min : mg "min" = none
  b_len : mg "len" = none
  b_range : mg "range" = none
  b_list : mg "list" = none
  b_repr : mg "repr" = none
  b_dict : mg "dict" = none
  b_tuple : mg "tuple" = none
  f_is_integer : Addr
  fd_is_integer : FuncData
  F_is_integer : Fun K "is_integer" "is_integer" s_is_integer f_is_integer fd_is_integer
  m_is_integer : mg "is_integer" = some (.ref f_is_integer)
  f_is_from : Addr
  fd_is_from : FuncData
  F_is_from : Fun K "is_from" "is_from" s_is_from f_is_from fd_is_from
  m_is_from : mg "is_from" = some (.ref f_is_from)
  f_is_one_of : Addr
  fd_is_one_of : FuncData
  F_is_one_of : Fun K "is_one_of" "is_one_of" s_is_one_of f_is_one_of fd_is_one_of
  m_is_one_of : mg "is_one_of" = some (.ref f_is_one_of)
  f_is_setting : Addr
  fd_is_setting : FuncData
  F_is_setting : Fun K "is_setting" "is_setting" s_is_setting f_is_setting fd_is_setting
  m_is_setting : mg "is_setting" = some (.ref f_is_setting)
  f_first_wrong : Addr
  fd_first_wrong : FuncData
  F_first_wrong : Fun K "first_wrong" "first_wrong" s_first_wrong f_first_wrong fd_first_wrong
  m_first_wrong : mg "first_wrong" = some (.ref f_first_wrong)
  f_word_of : Addr
  fd_word_of : FuncData
  F_word_of : Fun K "word_of" "word_of" s_word_of f_word_of fd_word_of
  m_word_of : mg "word_of" = some (.ref f_word_of)
  f_Keeper___init__ : Addr
  fd_Keeper___init__ : FuncData
  F_Keeper___init__ : FunD K "__init__" "Keeper.__init__" (defArgs s_Keeper___init__) (defBody s_Keeper___init__) (defScope s_Keeper___init__) [.non, .str "all", .str "frozen", .bl true, .str "whole", .str "mark", .bl false, .str "always", .str "never"] [] f_Keeper___init__ fd_Keeper___init__
  f_Keeper_settings : Addr
  fd_Keeper_settings : FuncData
  F_Keeper_settings : Fun K "settings" "Keeper.settings" s_Keeper_settings f_Keeper_settings fd_Keeper_settings
  f_Keeper_but : Addr
  fd_Keeper_but : FuncData
  F_Keeper_but : Fun K "but" "Keeper.but" s_Keeper_but f_Keeper_but fd_Keeper_but
  f_Keeper___str__ : Addr
  fd_Keeper___str__ : FuncData
  F_Keeper___str__ : Fun K "__str__" "Keeper.__str__" s_Keeper___str__ f_Keeper___str__ fd_Keeper___str__
  f_Keeper___eq__ : Addr
  fd_Keeper___eq__ : FuncData
  F_Keeper___eq__ : Fun K "__eq__" "Keeper.__eq__" s_Keeper___eq__ f_Keeper___eq__ fd_Keeper___eq__
  f__law_deal : Addr
  fd__law_deal : FuncData
  F__law_deal : Fun K "_law_deal" "_law_deal" s__law_deal f__law_deal fd__law_deal
  m__law_deal : mg "_law_deal" = some (.ref f__law_deal)
  f__law_draw : Addr
  fd__law_draw : FuncData
  F__law_draw : Fun K "_law_draw" "_law_draw" s__law_draw f__law_draw fd__law_draw
  m__law_draw : mg "_law_draw" = some (.ref f__law_draw)
  f__law_pick : Addr
  fd__law_pick : FuncData
  F__law_pick : Fun K "_law_pick" "_law_pick" s__law_pick f__law_pick fd__law_pick
  m__law_pick : mg "_law_pick" = some (.ref f__law_pick)
  f__law_thing : Addr
  fd__law_thing : FuncData
  F__law_thing : Fun K "_law_thing" "_law_thing" s__law_thing f__law_thing fd__law_thing
  m__law_thing : mg "_law_thing" = some (.ref f__law_thing)
  f__law_names : Addr
  fd__law_names : FuncData
  F__law_names : Fun K "_law_names" "_law_names" s__law_names f__law_names fd__law_names
  m__law_names : mg "_law_names" = some (.ref f__law_names)
  f__law_words : Addr
  fd__law_words : FuncData
  F__law_words : Fun K "_law_words" "_law_words" s__law_words f__law_words fd__law_words
  m__law_words : mg "_law_words" = some (.ref f__law_words)
  f__law_passing : Addr
  fd__law_passing : FuncData
  F__law_passing : Fun K "_law_passing" "_law_passing" s__law_passing f__law_passing fd__law_passing
  m__law_passing : mg "_law_passing" = some (.ref f__law_passing)
  f__law_settings : Addr
  fd__law_settings : FuncData
  F__law_settings : Fun K "_law_settings" "_law_settings" s__law_settings f__law_settings fd__law_settings
  m__law_settings : mg "_law_settings" = some (.ref f__law_settings)
  f__law_made : Addr
  fd__law_made : FuncData
  F__law_made : Fun K "_law_made" "_law_made" s__law_made f__law_made fd__law_made
  m__law_made : mg "_law_made" = some (.ref f__law_made)
  f__law_kept : Addr
  fd__law_kept : FuncData
  F__law_kept : Fun K "_law_kept" "_law_kept" s__law_kept f__law_kept fd__law_kept
  m__law_kept : mg "_law_kept" = some (.ref f__law_kept)
  f__law_but : Addr
  fd__law_but : FuncData
  F__law_but : Fun K "_law_but" "_law_but" s__law_but f__law_but fd__law_but
  m__law_but : mg "_law_but" = some (.ref f__law_but)
  f__law_is_from : Addr
  fd__law_is_from : FuncData
  F__law_is_from : Fun K "_law_is_from" "_law_is_from" s__law_is_from f__law_is_from fd__law_is_from
  m__law_is_from : mg "_law_is_from" = some (.ref f__law_is_from)
  f__law_is_fine : Addr
  fd__law_is_fine : FuncData
  F__law_is_fine : Fun K "_law_is_fine" "_law_is_fine" s__law_is_fine f__law_is_fine fd__law_is_fine
  m__law_is_fine : mg "_law_is_fine" = some (.ref f__law_is_fine)
  f__law_first_wrong : Addr
  fd__law_first_wrong : FuncData
  F__law_first_wrong : Fun K "_law_first_wrong" "_law_first_wrong" s__law_first_wrong f__law_first_wrong fd__law_first_wrong
  m__law_first_wrong : mg "_law_first_wrong" = some (.ref f__law_first_wrong)
  f__law_heard : Addr
  fd__law_heard : FuncData
  F__law_heard : Fun K "_law_heard" "_law_heard" s__law_heard f__law_heard fd__law_heard
  m__law_heard : mg "_law_heard" = some (.ref f__law_heard)
  f_law : Addr
  fd_law : FuncData
  F_law : Fun K "law" "law" s_law f_law fd_law
  m_law : mg "law" = some (.ref f_law)
  c_Keeper : Addr
  m_Keeper : mg "Keeper" = some (.ref c_Keeper)
  cl_Keeper : Cls K c_Keeper
  mk_Keeper : Mk K c_Keeper f_Keeper___init__
  na_Keeper_begin : NoAttr K c_Keeper "begin"
  na_Keeper_freeze : NoAttr K c_Keeper "freeze"
  na_Keeper_stop : NoAttr K c_Keeper "stop"
  na_Keeper_counts : NoAttr K c_Keeper "counts"
  na_Keeper_marks : NoAttr K c_Keeper "marks"
  na_Keeper_clears : NoAttr K c_Keeper "clears"
  na_Keeper_moves : NoAttr K c_Keeper "moves"
  na_Keeper_cut : NoAttr K c_Keeper "cut"
  na_Keeper_needs : NoAttr K c_Keeper "needs"
  na_Keeper_marked : NoAttr K c_Keeper "marked"
  na_Keeper_held : NoAttr K c_Keeper "held"
  mt_Keeper_settings : Meth K c_Keeper "settings" f_Keeper_settings
  mt_Keeper_but : Meth K c_Keeper "but" f_Keeper_but
  eq_Keeper : PySem.W.findIn K (.ref c_Keeper) "__eq__" = some (some (.ref f_Keeper___eq__))
  fn_Keeper___eq__ : PySem.W.isFn K (.ref f_Keeper___eq__) = true
  ne_Keeper : PySem.W.findIn K (.ref c_Keeper) "__ne__" = some (some (.builtin "object.__ne__"))
  mo_Keeper : PySem.W.mroIn K c_Keeper (.type "object") = some true
  so_Keeper : PySem.W.findIn K (.ref c_Keeper) "__str__" = some (some (.ref f_Keeper___str__))
  fs_Keeper : PySem.W.isFn K (.ref f_Keeper___str__) = true
  is_Keeper : IsF K c_Keeper
  kit_Keeper_str : PySem.W.kitOne K (.type "str") (.ref c_Keeper) = some false
  a_NAMES : Addr
  m_NAMES : mg "NAMES" = some (.ref a_NAMES)
  h_NAMES : ∀ N H, Has K N H (.ref a_NAMES) (.tup ((["begin", "freeze", "stop", "counts", "marks", "clears", "moves", "cut", "needs", "marked", "held"] : List Str).map Dv.str))
  a_WORDS : Addr
  m_WORDS : mg "WORDS" = some (.ref a_WORDS)
  kt_WORDS : KTab K w a_WORDS tab_WORDS
  kin_WORDS : KIn K w a_WORDS (["counts", "marks", "moves", "cut", "marked", "held"] : List Str)
  c_FrostError : Addr
  m_FrostError : mg "FrostError" = some (.ref c_FrostError)
  c_InvalidKeeper : Addr
  m_InvalidKeeper : mg "InvalidKeeper" = some (.ref c_InvalidKeeper)
  ox_InvalidKeeper : OexC K c_InvalidKeeper
  xc_InvalidKeeper : ExcC K c_InvalidKeeper
  fi_InvalidKeeper : Addr
  fdi_InvalidKeeper : FuncData
  ii_InvalidKeeper : PySem.W.findIn K (.ref c_InvalidKeeper) "__init__" = some (some (.ref fi_InvalidKeeper))
  ti_InvalidKeeper : PySem.W.typeIn K (.ref fi_InvalidKeeper) = some (.type "function")
  xb_InvalidKeeper : Binds K fdi_InvalidKeeper ["self", "word"] []
  xi_InvalidKeeper : ∀ (w : World) (base : Heap), FnOk P w K mg base CX0 1 fi_InvalidKeeper fdi_InvalidKeeper ["self", "word"] (SX.spS1 c_InvalidKeeper "word")
  xm_InvalidKeeper : PySem.W.exmOne K (.ref c_InvalidKeeper) (.ref c_FrostError) = some true
  xf_InvalidKeeper : XfC K c_InvalidKeeper
  nf_InvalidKeeper : PySem.W.findIn K (.ref c_InvalidKeeper) "word" = some none
  c_InvalidLoad : Addr
  m_InvalidLoad : mg "InvalidLoad" = some (.ref c_InvalidLoad)
  kx_InvalidKeeper_InvalidKeeper : PySem.W.kitOne K (.ref c_InvalidKeeper) (.ref c_InvalidKeeper) = some true
  kx_InvalidKeeper_InvalidLoad : PySem.W.kitOne K (.ref c_InvalidKeeper) (.ref c_InvalidLoad) = some false
namespace TT
variable {w : World} {K : PySem.W.Frag} {mg : Str → Option Value}
theorem B_is_integer (T : TT w K mg) : Binds K T.fd_is_integer ["value"] [] := T.F_is_integer.binds (ps := ["value"]) fun _ _ _ _ _ _ us hl => match us, hl with | [_], _ => rfl
theorem B_is_from (T : TT w K mg) : Binds K T.fd_is_from ["value", "least"] [] := T.F_is_from.binds (ps := ["value", "least"]) fun _ _ _ _ _ _ us hl => match us, hl with | [_, _], _ => rfl
theorem B_is_one_of (T : TT w K mg) : Binds K T.fd_is_one_of ["value", "words"] [] := T.F_is_one_of.binds (ps := ["value", "words"]) fun _ _ _ _ _ _ us hl => match us, hl with | [_, _], _ => rfl
theorem B_is_setting (T : TT w K mg) : Binds K T.fd_is_setting ["name", "value"] [] := T.F_is_setting.binds (ps := ["name", "value"]) fun _ _ _ _ _ _ us hl => match us, hl with | [_, _], _ => rfl
theorem B_first_wrong (T : TT w K mg) : Binds K T.fd_first_wrong ["values"] [] := T.F_first_wrong.binds (ps := ["values"]) fun _ _ _ _ _ _ us hl => match us, hl with | [_], _ => rfl
theorem B_Keeper___init__ (T : TT w K mg) : Binds K T.fd_Keeper___init__ ["self", "begin", "freeze", "stop", "counts", "marks", "clears", "moves", "cut", "needs", "marked", "held"] [] := binds_all (ps := ["self", "begin", "freeze", "stop", "counts", "marks", "clears", "moves", "cut", "needs", "marked", "held"]) T.F_Keeper___init__ (List.cons_ne_nil _ _) fun _ _ _ _ _ _ _ us its l1 l2 => match us, its, l1, l2 with | [_, _, _, _, _, _, _, _, _, _, _, _], [_, _, _, _, _, _, _, _, _], _, _ => ⟨_, rfl, rfl⟩
theorem BD3_Keeper___init__ (T : TT w K mg) : ∃ ds, Vals [.str "all", .str "frozen", .bl true, .str "whole", .str "mark", .bl false, .str "always", .str "never"] ds ∧ Binds K T.fd_Keeper___init__ ["self", "begin", "freeze", "stop", "counts", "marks", "clears", "moves", "cut", "needs", "marked", "held"] ds := FunD.binds1 (ps := ["self", "begin", "freeze", "stop", "counts", "marks", "clears", "moves", "cut", "needs", "marked", "held"]) T.F_Keeper___init__ 4 1 (List.cons_ne_nil _ _) rfl fun _ _ _ _ _ _ _ us its l1 l2 => match us, its, l1, l2 with | [_, _, _, _], [_, _, _, _, _, _, _, _, _], _, _ => ⟨_, rfl, rfl⟩
theorem cn_Keeper___init___3 {K : PySem.W.Frag} : Cn K [.str "all", .str "frozen", .bl true, .str "whole", .str "mark", .bl false, .str "always", .str "never"] [.str "all", .str "frozen", .bl true, .str "whole", .str "mark", .bl false, .str "always", .str "never"] := fun _ _ => (.cons (.str _) (.cons (.str _) (.cons (.bl _) (.cons (.str _) (.cons (.str _) (.cons (.bl _) (.cons (.str _) (.cons (.str _) .nil))))))))
theorem KB_Keeper___init__ (T : TT w K mg) : KBn K T.fd_Keeper___init__ ["self", "begin", "freeze", "stop", "counts", "marks", "clears", "moves", "cut", "needs", "marked", "held"] 1 ["begin", "freeze", "stop", "counts", "marks", "clears", "moves", "cut", "needs", "marked", "held"] (fun a b => a ++ b) (fun a b => a ++ b) := let ⟨_, h⟩ := FunD.kbindsD (ps := ["self", "begin", "freeze", "stop", "counts", "marks", "clears", "moves", "cut", "needs", "marked", "held"]) T.F_Keeper___init__ 1 ["begin", "freeze", "stop", "counts", "marks", "clears", "moves", "cut", "needs", "marked", "held"] (fun us _ ws => us ++ ws) (List.cons_ne_nil _ _) (fun r1 _ r2 => r1.append r2) (fun _ _ _ _ _ _ _ us its ws l1 l2 l3 => match us, its, ws, l1, l2, l3 with | [_], [_, _, _, _, _, _, _, _, _], [_, _, _, _, _, _, _, _, _, _, _], _, _, _ => ⟨_, rfl, rfl⟩); h
theorem B_Keeper_settings (T : TT w K mg) : Binds K T.fd_Keeper_settings ["self"] [] := T.F_Keeper_settings.binds (ps := ["self"]) fun _ _ _ _ _ _ us hl => match us, hl with | [_], _ => rfl
theorem B__law_deal (T : TT w K mg) : Binds K T.fd__law_deal ["_law_script", "_law_base"] [] := T.F__law_deal.binds (ps := ["_law_script", "_law_base"]) fun _ _ _ _ _ _ us hl => match us, hl with | [_, _], _ => rfl
theorem B__law_draw (T : TT w K mg) : Binds K T.fd__law_draw ["_law_deal_here", "_law_bound"] [] := T.F__law_draw.binds (ps := ["_law_deal_here", "_law_bound"]) fun _ _ _ _ _ _ us hl => match us, hl with | [_, _], _ => rfl
theorem B__law_pick (T : TT w K mg) : Binds K T.fd__law_pick ["_law_deal_here", "_law_some"] [] := T.F__law_pick.binds (ps := ["_law_deal_here", "_law_some"]) fun _ _ _ _ _ _ us hl => match us, hl with | [_, _], _ => rfl
theorem B__law_thing (T : TT w K mg) : Binds K T.fd__law_thing ["_law_deal_here", "_law_deep"] [] := T.F__law_thing.binds (ps := ["_law_deal_here", "_law_deep"]) fun _ _ _ _ _ _ us hl => match us, hl with | [_, _], _ => rfl
theorem B__law_names (T : TT w K mg) : Binds K T.fd__law_names [] [] := T.F__law_names.binds (ps := []) fun _ _ _ _ _ _ us hl => match us, hl with | [], _ => rfl
theorem B__law_words (T : TT w K mg) : Binds K T.fd__law_words ["_law_spot"] [] := T.F__law_words.binds (ps := ["_law_spot"]) fun _ _ _ _ _ _ us hl => match us, hl with | [_], _ => rfl
theorem B__law_passing (T : TT w K mg) : Binds K T.fd__law_passing ["_law_deal_here", "_law_top"] [] := T.F__law_passing.binds (ps := ["_law_deal_here", "_law_top"]) fun _ _ _ _ _ _ us hl => match us, hl with | [_, _], _ => rfl
theorem B__law_settings (T : TT w K mg) : Binds K T.fd__law_settings ["_law_deal_here", "_law_tops"] [] := T.F__law_settings.binds (ps := ["_law_deal_here", "_law_tops"]) fun _ _ _ _ _ _ us hl => match us, hl with | [_, _], _ => rfl
theorem B__law_made (T : TT w K mg) : Binds K T.fd__law_made ["_law_v"] [] := T.F__law_made.binds (ps := ["_law_v"]) fun _ _ _ _ _ _ us hl => match us, hl with | [_], _ => rfl
theorem B__law_kept (T : TT w K mg) : Binds K T.fd__law_kept ["_law_made_here"] [] := T.F__law_kept.binds (ps := ["_law_made_here"]) fun _ _ _ _ _ _ us hl => match us, hl with | [_], _ => rfl
theorem B__law_but (T : TT w K mg) : Binds K T.fd__law_but ["_law_made_here", "_law_spot", "_law_thing_here"] [] := T.F__law_but.binds (ps := ["_law_made_here", "_law_spot", "_law_thing_here"]) fun _ _ _ _ _ _ us hl => match us, hl with | [_, _, _], _ => rfl
theorem B__law_is_from (T : TT w K mg) : Binds K T.fd__law_is_from ["_law_thing_here", "_law_least"] [] := T.F__law_is_from.binds (ps := ["_law_thing_here", "_law_least"]) fun _ _ _ _ _ _ us hl => match us, hl with | [_, _], _ => rfl
theorem B__law_is_fine (T : TT w K mg) : Binds K T.fd__law_is_fine ["_law_v", "_law_spot"] [] := T.F__law_is_fine.binds (ps := ["_law_v", "_law_spot"]) fun _ _ _ _ _ _ us hl => match us, hl with | [_, _], _ => rfl
theorem B__law_first_wrong (T : TT w K mg) : Binds K T.fd__law_first_wrong ["_law_v"] [] := T.F__law_first_wrong.binds (ps := ["_law_v"]) fun _ _ _ _ _ _ us hl => match us, hl with | [_], _ => rfl
theorem B__law_heard (T : TT w K mg) : Binds K T.fd__law_heard ["_law_work"] [] := T.F__law_heard.binds (ps := ["_law_work"]) fun _ _ _ _ _ _ us hl => match us, hl with | [_], _ => rfl
theorem B_law (T : TT w K mg) : Binds K T.fd_law ["_law_script"] [] := T.F_law.binds (ps := ["_law_script"]) fun _ _ _ _ _ _ us hl => match us, hl with | [_], _ => rfl
theorem fo_Keeper_begin (T : TT w K mg) : FldOk K T.c_Keeper "begin" ["begin", "freeze", "stop", "counts", "marks", "clears", "moves", "cut", "needs", "marked", "held"] 0 := ⟨T.cl_Keeper, T.na_Keeper_begin, by decide +kernel, rfl⟩
theorem fo_Keeper_freeze (T : TT w K mg) : FldOk K T.c_Keeper "freeze" ["begin", "freeze", "stop", "counts", "marks", "clears", "moves", "cut", "needs", "marked", "held"] 1 := ⟨T.cl_Keeper, T.na_Keeper_freeze, by decide +kernel, rfl⟩
theorem fo_Keeper_stop (T : TT w K mg) : FldOk K T.c_Keeper "stop" ["begin", "freeze", "stop", "counts", "marks", "clears", "moves", "cut", "needs", "marked", "held"] 2 := ⟨T.cl_Keeper, T.na_Keeper_stop, by decide +kernel, rfl⟩
theorem fo_Keeper_counts (T : TT w K mg) : FldOk K T.c_Keeper "counts" ["begin", "freeze", "stop", "counts", "marks", "clears", "moves", "cut", "needs", "marked", "held"] 3 := ⟨T.cl_Keeper, T.na_Keeper_counts, by decide +kernel, rfl⟩
theorem fo_Keeper_marks (T : TT w K mg) : FldOk K T.c_Keeper "marks" ["begin", "freeze", "stop", "counts", "marks", "clears", "moves", "cut", "needs", "marked", "held"] 4 := ⟨T.cl_Keeper, T.na_Keeper_marks, by decide +kernel, rfl⟩
theorem fo_Keeper_clears (T : TT w K mg) : FldOk K T.c_Keeper "clears" ["begin", "freeze", "stop", "counts", "marks", "clears", "moves", "cut", "needs", "marked", "held"] 5 := ⟨T.cl_Keeper, T.na_Keeper_clears, by decide +kernel, rfl⟩
theorem fo_Keeper_moves (T : TT w K mg) : FldOk K T.c_Keeper "moves" ["begin", "freeze", "stop", "counts", "marks", "clears", "moves", "cut", "needs", "marked", "held"] 6 := ⟨T.cl_Keeper, T.na_Keeper_moves, by decide +kernel, rfl⟩
theorem fo_Keeper_cut (T : TT w K mg) : FldOk K T.c_Keeper "cut" ["begin", "freeze", "stop", "counts", "marks", "clears", "moves", "cut", "needs", "marked", "held"] 7 := ⟨T.cl_Keeper, T.na_Keeper_cut, by decide +kernel, rfl⟩
theorem fo_Keeper_needs (T : TT w K mg) : FldOk K T.c_Keeper "needs" ["begin", "freeze", "stop", "counts", "marks", "clears", "moves", "cut", "needs", "marked", "held"] 8 := ⟨T.cl_Keeper, T.na_Keeper_needs, by decide +kernel, rfl⟩
theorem fo_Keeper_marked (T : TT w K mg) : FldOk K T.c_Keeper "marked" ["begin", "freeze", "stop", "counts", "marks", "clears", "moves", "cut", "needs", "marked", "held"] 9 := ⟨T.cl_Keeper, T.na_Keeper_marked, by decide +kernel, rfl⟩
theorem fo_Keeper_held (T : TT w K mg) : FldOk K T.c_Keeper "held" ["begin", "freeze", "stop", "counts", "marks", "clears", "moves", "cut", "needs", "marked", "held"] 10 := ⟨T.cl_Keeper, T.na_Keeper_held, by decide +kernel, rfl⟩
end TT
theorem sc_is_integer : FnScope ["value"] ["value"] (defScope s_is_integer) := ⟨rfl, rfl, rfl, by decide +kernel, rfl, by decide +kernel, by decide +kernel⟩
theorem sc_is_from : FnScope ["value", "least"] ["value", "least"] (defScope s_is_from) := ⟨rfl, rfl, rfl, by decide +kernel, rfl, by decide +kernel, by decide +kernel⟩
theorem sc_is_one_of : FnScope ["value", "words"] ["value", "words"] (defScope s_is_one_of) := ⟨rfl, rfl, rfl, by decide +kernel, rfl, by decide +kernel, by decide +kernel⟩
theorem sc_is_setting : FnScope ["name", "value"] ["name", "value"] (defScope s_is_setting) := ⟨rfl, rfl, rfl, by decide +kernel, rfl, by decide +kernel, by decide +kernel⟩
theorem sc_first_wrong : FnScope ["values", "name"] ["values"] (defScope s_first_wrong) := ⟨rfl, rfl, rfl, by decide +kernel, rfl, by decide +kernel, by decide +kernel⟩
theorem sc_Keeper___init__ : FnScope ["self", "begin", "freeze", "stop", "counts", "marks", "clears", "moves", "cut", "needs", "marked", "held", "values", "wrong"] ["self", "begin", "freeze", "stop", "counts", "marks", "clears", "moves", "cut", "needs", "marked", "held"] (defScope s_Keeper___init__) := ⟨rfl, rfl, rfl, by decide +kernel, rfl, by decide +kernel, by decide +kernel⟩
theorem sc_Keeper_settings : FnScope ["self", "first", "more"] ["self"] (defScope s_Keeper_settings) := ⟨rfl, rfl, rfl, by decide +kernel, rfl, by decide +kernel, by decide +kernel⟩
theorem sc_Keeper_but : FnScope ["self", "others", "values"] ["self", "others"] (defScope s_Keeper_but) := ⟨rfl, rfl, rfl, by decide +kernel, rfl, by decide +kernel, by decide +kernel⟩
theorem sc__law_deal : FnScope ["_law_script", "_law_base", "_law_stirred", "_law_cells", "_law_cell"] ["_law_script", "_law_base"] (defScope s__law_deal) := ⟨rfl, rfl, rfl, by decide +kernel, rfl, by decide +kernel, by decide +kernel⟩
theorem sc__law_draw : FnScope ["_law_deal_here", "_law_bound", "_law_left"] ["_law_deal_here", "_law_bound"] (defScope s__law_draw) := ⟨rfl, rfl, rfl, by decide +kernel, rfl, by decide +kernel, by decide +kernel⟩
theorem sc__law_pick : FnScope ["_law_deal_here", "_law_some"] ["_law_deal_here", "_law_some"] (defScope s__law_pick) := ⟨rfl, rfl, rfl, by decide +kernel, rfl, by decide +kernel, by decide +kernel⟩
theorem sc__law_thing : FnScope ["_law_deal_here", "_law_deep", "_law_some", "_law_inner", "_law_turn"] ["_law_deal_here", "_law_deep"] (defScope s__law_thing) := ⟨rfl, rfl, rfl, by decide +kernel, rfl, by decide +kernel, by decide +kernel⟩
theorem sc__law_names : FnScope ["_law_some"] [] (defScope s__law_names) := ⟨rfl, rfl, rfl, by decide +kernel, rfl, by decide +kernel, by decide +kernel⟩
theorem sc__law_words : FnScope ["_law_spot", "_law_some"] ["_law_spot"] (defScope s__law_words) := ⟨rfl, rfl, rfl, by decide +kernel, rfl, by decide +kernel, by decide +kernel⟩
theorem sc__law_passing : FnScope ["_law_deal_here", "_law_top"] ["_law_deal_here", "_law_top"] (defScope s__law_passing) := ⟨rfl, rfl, rfl, by decide +kernel, rfl, by decide +kernel, by decide +kernel⟩
theorem sc__law_settings : FnScope ["_law_deal_here", "_law_tops", "_law_top", "_law_found"] ["_law_deal_here", "_law_tops"] (defScope s__law_settings) := ⟨rfl, rfl, rfl, by decide +kernel, rfl, by decide +kernel, by decide +kernel⟩
theorem sc__law_made : FnScope ["_law_v"] ["_law_v"] (defScope s__law_made) := ⟨rfl, rfl, rfl, by decide +kernel, rfl, by decide +kernel, by decide +kernel⟩
theorem sc__law_kept : FnScope ["_law_made_here", "_law_found"] ["_law_made_here"] (defScope s__law_kept) := ⟨rfl, rfl, rfl, by decide +kernel, rfl, by decide +kernel, by decide +kernel⟩
theorem sc__law_but : FnScope ["_law_made_here", "_law_spot", "_law_thing_here"] ["_law_made_here", "_law_spot", "_law_thing_here"] (defScope s__law_but) := ⟨rfl, rfl, rfl, by decide +kernel, rfl, by decide +kernel, by decide +kernel⟩
theorem sc__law_is_from : FnScope ["_law_thing_here", "_law_least"] ["_law_thing_here", "_law_least"] (defScope s__law_is_from) := ⟨rfl, rfl, rfl, by decide +kernel, rfl, by decide +kernel, by decide +kernel⟩
theorem sc__law_is_fine : FnScope ["_law_v", "_law_spot", "_law_thing_here"] ["_law_v", "_law_spot"] (defScope s__law_is_fine) := ⟨rfl, rfl, rfl, by decide +kernel, rfl, by decide +kernel, by decide +kernel⟩
theorem sc__law_first_wrong : FnScope ["_law_v", "_law_spot"] ["_law_v"] (defScope s__law_first_wrong) := ⟨rfl, rfl, rfl, by decide +kernel, rfl, by decide +kernel, by decide +kernel⟩
theorem sc__law_heard : FnScope ["_law_work", "_law_found", "e", "_law_is_it"] ["_law_work"] (defScope s__law_heard) := ⟨rfl, rfl, rfl, by decide +kernel, rfl, by decide +kernel, by decide +kernel⟩
theorem sc_law : FnScope ["_law_script", "_law_turn", "_law_deal_here", "_law_again", "_law_v", "_law_spin", "_law_due", "_law_spot", "_law_led", "_law_made_here", "_law_bent", "_law_some"] ["_law_script"] (defScope s_law) := ⟨rfl, rfl, rfl, by decide +kernel, rfl, by decide +kernel, by decide +kernel⟩
def wfOneOfK (K : PySem.W.Frag) : WFn := fun xs W Φ => ∃ x ws, xs = [.d x, .d (.tup (ws.map Dv.str))] ∧ isiOk K x ∧ Φ (.d (.bl (oneOf x ws))) W
def wfSetting (K : PySem.W.Frag) : WFn := fun xs W Φ => ∃ n x, xs = [.d (.str n), .d x] ∧ (n ∈ KN ∧ n ≠ "freeze") ∧ isiOk K x ∧ Φ (.d (.bl (okSet n x))) W
def wrongD (k : Kp) : Dv := match k.wrong with | some n => .str n | none => .non
def wfFirst (K : PySem.W.Frag) : WFn := fun xs W Φ => ∃ k : Kp, xs = [.d (.dic KK k.ds)] ∧ k.allOk K ∧ Φ (.d (wrongD k)) W
def wfKeepX (K : PySem.W.Frag) (C E : Addr) : WFnX := fun xs W Φ ΦX => ∃ (W0 : WS) (k : Kp), xs = .box W0.length :: k.ds.map Sv.d ∧ W = W0 ++ [.ins C [] []] ∧ k.allOk K ∧
  (match k.wrong with | some n => ΦX E ["word"] [.str n] (W0 ++ [.ins C [] []]) | none => Φ (.d .non) (W0 ++ [.ins C KN (k.ds.map Sv.d)]))
def wfSettings (C : Addr) : WFn := fun xs W Φ => ∃ k, xs = [.d (keepD C k)] ∧ Φ (.d (.lst k.pairs)) W
def wfButX (K : PySem.W.Frag) (C E : Addr) : WFnX := fun xs W Φ ΦX => ∃ (k k2 : Kp) (ks' : List Key) (ds' : List Dv), xs = [.d (keepD C k), .d (.dic ks' ds')] ∧ (mrgKs KK ks' = KK ∧ mrgDs KK k.ds ks' ds' = k2.ds ∧ ds'.length ≤ 1000) ∧ k2.allOk K ∧
  (match k2.wrong with | some n => ΦX E ["word"] [.str n] W | none => Φ (.d (keepD C k2)) W)
abbrev OKS : List (List Str) := [] :: KN.map fun n => [n]
def oks (ks : List Str) : Prop := ks ∈ OKS
instance (ks : List Str) : Decidable (oks ks) := inferInstanceAs (Decidable (ks ∈ OKS))

section
variable {w : World} {K : PySem.W.Frag} {mg : Str → Option Value} {base : Heap}
theorem log_div {i n : Int} {m : Nat} (h : 0 ≤ i) (hn : 0 < n) (hl : i.natAbs.log2 ≤ m) : 0 ≤ i / n ∧ (i / n).natAbs.log2 ≤ m := by
  have h0 : 0 ≤ i / n := Int.ediv_nonneg h (by omega)
  have h1 : i / n ≤ i := Int.ediv_le_self _ h
  refine ⟨h0, ?_⟩
  have h2 : (i / n).natAbs ≤ i.natAbs := by omega
  by_cases z : (i / n).natAbs = 0
  · rw [z]; exact Nat.zero_le _
  · have : (i / n).natAbs.log2 ≤ i.natAbs.log2 := by
      rw [Nat.le_log2 (by omega)]
      exact Nat.le_trans (Nat.log2_self_le z) h2
    omega
theorem cellsOk_last {cs : List Int} {x : Int} (h : cellsOk (cs ++ [x])) : cellsOk cs ∧ 0 ≤ x ∧ x.natAbs.log2 ≤ 1048580 :=
  ⟨fun c m => h c (List.mem_append.mpr (.inl m)), h x (List.mem_append.mpr (.inr (List.mem_singleton.mpr rfl)))⟩
theorem cells_cases (cs : List Int) : cs = [] ∨ ∃ ds x, cs = ds ++ [x] := by
  cases e : cs.reverse with
  | nil => exact .inl (List.reverse_eq_nil_iff.mp e)
  | cons x r => exact .inr ⟨r.reverse, x, by rw [← List.reverse_reverse cs, e, List.reverse_cons]⟩
theorem ok__law_draw (T : TT w K mg) : FnOk P w K mg base CX0 1 T.f__law_draw T.fd__law_draw ["_law_deal_here", "_law_bound"] (spD K wfDraw) := by
  refine T.F__law_draw.ok sc__law_draw (fun vs H Q E h => ?_) (fun cdv A outer s H vs Q E hr h => ?_)
  · obtain ⟨z, As, W, xs, Φ, wl, hv, h, _⟩ := h
    rw [hv.length]
    unfold wfDraw at h
    split at h
    · rfl
    · exact h.elim
  · obtain ⟨z, As, W, xs, Φ, wl, hv, h, q⟩ := h
    unfold wfDraw at h
    split at h
    · rename_i j n
      obtain ⟨hW, ⟨n0, n1⟩, hk⟩ := h
      obtain ⟨p, c, v2, rfl, hA, hv2, R⟩ : ∃ p c v2, vs = [.ref p, v2] ∧ As[j]? = some [p, c] ∧ v2 = V.int n ∧ dealR [p, c] H := by
        cases hv with
        | cons a b =>
          cases b with
          | cons b e =>
            cases e
            have b' := b.int
            cases a with
            | @box p l _ hA =>
              have R := wl.rep j _ _ hA hW
              obtain ⟨p', c, _, _, el, _⟩ := id R
              cases el
              exact ⟨p, c, _, rfl, hA, b', R⟩
      subst hv2
      obtain ⟨p', c', cs, sx, el, npc, hp, hc, hcs, hlen, s0, s1⟩ := R
      cases el
      have fin : ∀ (r : Int) (H' : Hp), 0 ≤ r → r < n → (∀ b o, H b = some o → b ≠ p → b ≠ c → H' b = some o) → dealR [p, c] H' → Q (.int r) H' := fun r H' r0 r1 k d => by
        have k' : ∀ b o, H b = some o → b ∉ [p, c] → H' b = some o := fun b o h m => k b o h (fun e => m (by rw [e]; exact List.mem_cons_self)) fun e => m (by rw [e]; exact List.mem_cons_of_mem _ List.mem_cons_self)
        have t : ∀ a, a ∈ [p, c] → H' a ≠ none := fun a m => by
          obtain ⟨p2, c2, cs2, sx2, el2, _, hp2, hc2, _⟩ := id d
          cases el2
          rcases List.mem_cons.mp m with m | m
          · rw [m, hp2]; exact fun x => by cases x
          · rw [List.mem_singleton.mp m, hc2]; exact fun x => by cases x
        have w2 : Wld K z As W H' := by
          have := wl.turnG (o := .obj dealK) hA k' t d
          rw [set_same hW] at this
          exact this
        exact q (.int r) H' (.d (.int r)) As W (Ext.turnG hA k' t) w2 (.d (.int r)) (hk r r0 r1)
      refine ⟨_, pss_cons (ps_while PassesOwn.never (PW.pt (pw_and (pt_cmpR (DLX.op_neNil hr.units) (pe_ix ix_list (pv 0) pe_int (fun _ _ => rfl)) (pe_lst pa_nil) (nomark _)) (pw_and1 (pt_cmpR op_eq (pe_ix ix_list (pe_ix ix_list (pv 0) pe_int (fun _ _ => rfl)) (pe_un un_neg pe_int) (fun _ _ => rfl)) pe_int (nomark _)))))
          (pss_one (ps_expr (pe_bm0 PySem.F.plainAttrs_list PySem.F.slot_list_pop PySem.F.type_list_pop mt_pop (pe_ix ix_list (pv 0) pe_int (fun _ _ => rfl))))))
        (pss_cons (ps_if (pt_cmpR (DLX.op_neNil hr.units) (pe_ix ix_list (pv 0) pe_int (fun _ _ => rfl)) (pe_lst pa_nil) (nomark _))
          (pss_cons (ps_set (i := 2) sc__law_draw.nd rfl (Or.inl rfl) (pe_bm0 PySem.F.plainAttrs_list PySem.F.slot_list_pop PySem.F.type_list_pop mt_pop (pe_ix ix_list (pv 0) pe_int (fun _ _ => rfl))))
          (pss_cons (ps_expr (pe_bm PySem.F.plainAttrs_list PySem.F.slot_list_append PySem.F.type_list_append mt_append (pe_ix ix_list (pv 0) pe_int (fun _ _ => rfl)) (pa_cons (pe_op op_fdivW (pv 2) (pv 1)) pa_nil)))
          (pss_one (ps_ret (pe_op op_mod (pe_callTy call_int1 (by rfl) T.b_int (by decide +kernel) (pa_cons (pv 2) pa_nil)) (pv 1))))))
          pss_nil)
        (pss_cons (ps_asg (pe_op op_mod (pe_callTy call_int1 (by rfl) T.b_int (by decide +kernel) (pa_cons (pe_op op_add (pe_op op_mul (pe_ix ix_list (pv 0) pe_int (fun _ _ => rfl)) pe_int) pe_int) pa_nil)) pe_int) (pg_sub (pv 0) pe_int set_list))
        (pss_one (ps_ret (pe_op op_mod (pe_callTy call_int1 (by rfl) T.b_int (by decide +kernel) (pa_cons (pe_op op_fdiv (pe_ix ix_list (pv 0) pe_int (fun _ _ => rfl)) pe_int) pa_nil)) (pv 1)))))), ?_⟩
      -- what holds at each turn of the while, and behind it
      let I : St → Hp → List Int → Prop := fun σ H' ds => σ = [some (.ref p), some (.int n), none] ∧ H' p = some (.lst [.ref c, .int sx]) ∧ H' c = some (.lst (ds.map V.int)) ∧ cellsOk ds ∧ ds.length ≤ 64 ∧ ∀ b o, H b = some o → b ≠ p → b ≠ c → H' b = some o
      have d0 : ∀ {H' : Hp}, H' p = some (.lst [.ref c, .int sx]) → SqL K H' p [.ref c, .int sx] := fun h => SqL.of h
      have at0 : atI [V.ref c, V.int sx] 0 = some (.ref c) := rfl
      have emp : ∀ ds : List Int, (ds.map V.int).isEmpty = ds.isEmpty := fun ds => by cases ds <;> rfl
      refine ⟨fun m σ H' => ∃ ds, I σ H' ds ∧ m = ds.length, ⟨cs.length, cs, ⟨rfl, hp, hc, hcs, hlen, fun b o h _ _ => h⟩, rfl⟩, fun m σ H' ⟨ds, ⟨hσ, g1, g2, g3, g4, g5⟩, hm⟩ => ?_⟩
      subst hσ hm
      -- deal[0] != []
      refine ⟨_, rfl, p, _, 0, _, rfl, rfl, d0 g1, at0, Nat.zero_le _, fun t ht => ?_⟩
      have tp : p ≠ t := ne_of_none g1 ht
      have tc : c ≠ t := ne_of_none g2 ht
      have u1 : (upd H' t (.lst [])) p = some (.lst [.ref c, .int sx]) := by rw [upd_ne tp]; exact g1
      have u2 : (upd H' t (.lst [])) c = some (.lst (ds.map V.int)) := by rw [upd_ne tc]; exact g2
      have u5 : ∀ b o, H b = some o → b ≠ p → b ≠ c → (upd H' t (.lst [])) b = some o := fun b o h n1 n2 => by rw [upd_ne (ne_of_none (g5 b o h n1 n2) ht)]; exact g5 b o h n1 n2
      refine ⟨c, t, _, rfl, rfl, SqL.of u2, SqL.of upd_same, _, rfl, ?_⟩
      rcases cells_cases ds with rfl | ⟨es, x, rfl⟩
      · -- none is left: the loop ends, then the second way
        refine iteF ?_
        refine ⟨_, rfl, p, _, 0, _, rfl, rfl, d0 u1, at0, Nat.zero_le _, fun t2 ht2 => ?_⟩
        have tp2 : p ≠ t2 := ne_of_none u1 ht2
        have tc2 : c ≠ t2 := ne_of_none u2 ht2
        have y1 : (upd (upd H' t (.lst [])) t2 (.lst [])) p = some (.lst [.ref c, .int sx]) := by rw [upd_ne tp2]; exact u1
        have y2 : (upd (upd H' t (.lst [])) t2 (.lst [])) c = some (.lst (([] : List Int).map V.int)) := by rw [upd_ne tc2]; exact u2
        have y5 : ∀ b o, H b = some o → b ≠ p → b ≠ c → (upd (upd H' t (.lst [])) t2 (.lst [])) b = some o := fun b o h n1 n2 => by rw [upd_ne (ne_of_none (u5 b o h n1 n2) ht2)]; exact u5 b o h n1 n2
        refine ⟨c, t2, _, rfl, rfl, SqL.of y2, SqL.of upd_same, _, rfl, ?_⟩
        refine iteF ?_
        have sb : 0 ≤ (sx * 48611 + 37) % 2147483647 ∧ (sx * 48611 + 37) % 2147483647 < 2147483647 := ⟨Int.emod_nonneg _ (by decide), Int.emod_lt_of_pos _ (by decide)⟩
        refine ⟨_, rfl, p, _, 1, _, rfl, rfl, d0 y1, rfl, _, _, rfl, rfl, .inr ⟨by decide, by decide⟩, _, _, rfl, rfl, .inl ⟨_, rfl, _, _, rfl, rfl, (show (0 : Int) < 2147483647 by decide), _, rfl, p, _, 1, 1, rfl, rfl, y1, rfl, ?_⟩⟩
        refine ⟨_, rfl, p, _, 1, _, rfl, rfl, SqL.of upd_same, rfl, _, _, rfl, rfl, ⟨by decide, by decide⟩, .inl ⟨_, rfl, _, rfl, _, _, rfl, rfl, n0, ?_⟩⟩
        refine fin _ _ (Int.emod_nonneg _ (by omega)) (Int.emod_lt_of_pos _ n0) (fun b o h n1 n2 => by rw [upd_ne n1]; exact y5 b o h n1 n2) ⟨p, c, [], _, rfl, npc, upd_same, by rw [upd_ne npc.symm]; exact y2, fun c m => (nomatch m), by decide, sb.1, sb.2⟩
      · -- the last one
        obtain ⟨ok1, x0, x1⟩ := cellsOk_last g3
        have ne : ((es ++ [x]).map V.int).isEmpty = false := by rw [emp]; simp
        rw [ne]
        refine iteT ?_
        have al : atI ((es ++ [x]).map V.int) (-1) = some (.int x) := by rw [List.map_append]; exact atI_last _ _
        refine ⟨_, rfl, p, _, 0, _, rfl, rfl, d0 u1, at0, 1, rfl, c, _, -1, _, rfl, rfl, SqL.of u2, al, rfl, _, rfl, ?_⟩
        have lastx : ((es ++ [x]).map V.int)[((es ++ [x]).map V.int).length - 1]? = some (V.int x) := by
          rw [List.map_append, List.length_append]
          simp
        have drop : ((es ++ [x]).map V.int).dropLast = es.map V.int := by rw [List.map_append]; simp
        refine ite_d (fun hx => ?_) (fun hx => ?_)
        · -- it is nought: away with it
          refine ⟨fun σ2 H2 => ∃ ds, I σ2 H2 ds ∧ ds.length < (es ++ [x]).length, fun σ2 H2 ⟨ds, h, l⟩ => ⟨ds.length, l, ds, h, rfl⟩, ?_⟩
          refine ⟨_, rfl, p, _, 0, _, rfl, rfl, d0 u1, at0, .inl ⟨rfl, _, SqL.of u2⟩, c, _, _, rfl, rfl, u2, lastx, ?_⟩
          rw [drop]
          exact ⟨es, ⟨rfl, by rw [upd_ne npc]; exact u1, upd_same, ok1, by rw [List.length_append] at g4; omega, fun b o h n1 n2 => by rw [upd_ne n2]; exact u5 b o h n1 n2⟩, by rw [List.length_append, List.length_singleton]; omega⟩
        · -- the first way: it is taken
          refine ⟨_, rfl, p, _, 0, _, rfl, rfl, d0 u1, at0, Nat.zero_le _, fun t2 ht2 => ?_⟩
          have tp2 : p ≠ t2 := ne_of_none u1 ht2
          have tc2 : c ≠ t2 := ne_of_none u2 ht2
          have y1 : (upd (upd H' t (.lst [])) t2 (.lst [])) p = some (.lst [.ref c, .int sx]) := by rw [upd_ne tp2]; exact u1
          have y2 : (upd (upd H' t (.lst [])) t2 (.lst [])) c = some (.lst ((es ++ [x]).map V.int)) := by rw [upd_ne tc2]; exact u2
          have y5 : ∀ b o, H b = some o → b ≠ p → b ≠ c → (upd (upd H' t (.lst [])) t2 (.lst [])) b = some o := fun b o h n1 n2 => by rw [upd_ne (ne_of_none (u5 b o h n1 n2) ht2)]; exact u5 b o h n1 n2
          refine ⟨c, t2, _, rfl, rfl, SqL.of y2, SqL.of upd_same, _, rfl, ?_⟩
          rw [ne]
          refine iteT ?_
          refine ⟨_, rfl, p, _, 0, _, rfl, rfl, d0 y1, at0, .inl ⟨rfl, _, SqL.of y2⟩, c, _, _, rfl, rfl, y2, lastx, ?_⟩
          rw [drop]
          have v1 : (upd (upd (upd H' t (.lst [])) t2 (.lst [])) c (.lst (es.map V.int))) p = some (.lst [.ref c, .int sx]) := by rw [upd_ne npc]; exact y1
          have dv := log_div (n := n) x0 n0 x1
          refine ⟨_, rfl, p, _, 0, _, rfl, rfl, d0 v1, at0, .inl ⟨rfl, _, SqL.of upd_same⟩, _, rfl, _, rfl, _, _, rfl, rfl, wide_div n0 (b := 200) (by omega) (by decide) (by decide), c, _, _, rfl, rfl, upd_same, ?_, ?_⟩
          · rw [List.length_map]
            rw [List.length_append] at g4
            exact Nat.lt_of_le_of_lt (show es.length ≤ 100 by omega) (by decide)
          refine ⟨_, rfl, .inl ⟨_, rfl, _, rfl, _, _, rfl, rfl, n0, ?_⟩⟩
          refine fin _ _ (Int.emod_nonneg _ (by omega)) (Int.emod_lt_of_pos _ n0) (fun b o h n1 n2 => by rw [upd_ne n2, upd_ne n2]; exact y5 b o h n1 n2)
            ⟨p, c, es ++ [x / n], sx, rfl, npc, by rw [upd_ne npc]; exact v1, by rw [List.map_append]; exact upd_same, fun k m => ?_, by rw [List.length_append] at g4 ⊢; exact g4, s0, s1⟩
          rcases List.mem_append.mp m with m | m
          · exact ok1 k m
          · rw [List.mem_singleton.mp m]
            exact dv
    · exact h.elim

theorem ok__law_deal (T : TT w K mg) : FnOk P w K mg base CX0 1 T.f__law_deal T.fd__law_deal ["_law_script", "_law_base"] (spD K wfDeal) := by
  refine okD T.F__law_deal sc__law_deal (fun xs W Φ h => ?_) (fun cdv A outer s H E hr => ⟨_, _, (ss_cons (s_set (i := 2) sc__law_deal.nd rfl (by first | exact Or.inl rfl | exact Or.inr rfl) (d_op op_add o_add (bb d_int) (bb (d_op op_mul o_mul (bb d_int) (bv 1)))))
  (ss_cons (s_lcO (i := 3) rfl sc__law_deal.nd rfl rfl (sw_true rfl rfl rfl (by decide +kernel)) (i_L (d_fr (f_sl (bv 0) (o_some (bv 1)) (o_some (bb d_int))))) (blkOk_by (own := [("_law_cell", 4)]) (by rfl)) (fun _ _ _ _ _ => (g_name (i := 4) sc__law_deal.nd rfl (by first | exact Or.inl rfl | exact Or.inr rfl))) (fun _ _ _ _ _ => ts_nil) (fun _ _ _ _ _ => (d_callB call_abs cd_abs (by rfl) T.b_abs (by decide +kernel) (b_cons (bb (d_callTy call_int1 cd_int (by rfl) T.b_int (by decide +kernel) (b_cons (bv 4) b_nil))) b_nil))) (by decide))
  (ss_cons (s_for PassesOwn.never rfl (i_L (dv 3)) (g_name (i := 4) sc__law_deal.nd rfl (by first | exact Or.inl rfl | exact Or.inr rfl))
  (ss_one (s_set (i := 2) sc__law_deal.nd rfl (by first | exact Or.inl rfl | exact Or.inr rfl) (d_op op_mod o_mod (bb (d_callTy call_int1 cd_int (by rfl) T.b_int (by decide +kernel) (b_cons (bb (d_op op_add o_add (bb (d_op op_add o_add (bb (d_op op_mul o_mul (bv 2) (bb d_int))) (bb (d_op op_mod o_mod (bb (d_callTy call_int1 cd_int (by rfl) T.b_int (by decide +kernel) (b_cons (bv 4) b_nil))) (bb d_int))))) (bb d_int))) b_nil))) (bb d_int)))))
  (ss_one (s_ret (dd (f_turn (bb (d_fr (f_lc rfl sc__law_deal.nd (i_L (dv 3)) (blkOk_by (own := [("_law_cell", 4)]) (by rfl)) (fun _ _ _ _ _ => (g_name (i := 4) sc__law_deal.nd rfl (by first | exact Or.inl rfl | exact Or.inr rfl))) (fun _ _ _ _ _ => (ts_one (t_cmp op_ge o_ge (bv 4) (bb (d_op op_pow o_pow (bb d_int) (bb d_int))) (nomark _)))) (fun _ _ _ _ _ => (dv 4)) (by decide))))) (dv 2))))))), fun xs W Φ h => ?_⟩)
  · unfold wfDeal at h
    split at h
    · rfl
    · exact h.elim
  · unfold wfDeal at h
    split at h
    · rename_i xs b
      obtain ⟨⟨ns, rfl, hn, hb⟩, ⟨b0, b1⟩, h⟩ := h
      -- stirred
      refine ⟨.inl ⟨by decide, by decide⟩, ?_⟩
      -- cells
      have ecut : cutD (ns.map Dv.int) (some b) (some 56) = (((ns.drop (HT.sIx ns.length 0 (some b))).take (HT.sIx ns.length ns.length (some 56) - HT.sIx ns.length 0 (some b)))).map Dv.int := by
        unfold cutD
        rw [List.length_map, List.map_take, List.map_drop]
      generalize hms : ((ns.drop (HT.sIx ns.length 0 (some b))).take (HT.sIx ns.length ns.length (some 56) - HT.sIx ns.length 0 (some b))) = ms at ecut
      have ml : ms.length ≤ 63 := by
        rw [← hms]
        exact Nat.le_trans (by rw [List.length_take, List.length_drop]; omega) hn
      have mb : ∀ k, k ∈ ms → k.natAbs.log2 ≤ 1048580 := fun k hk => bits_log (hb k (List.mem_of_mem_drop (List.mem_of_mem_take (by rw [hms]; exact hk))))
      refine ⟨⟨rfl, ?_⟩, ?_⟩
      · show (cutD (ns.map Dv.int) (some b) (some 56)).length ≤ 1000000
        rw [ecut, List.length_map]
        omega
      show wLcL _ _ _ _ _ (cutD (ns.map Dv.int) (some b) (some 56)) _ _ _
      rw [ecut]
      let ab : Int → Int := fun i => if i < 0 then -i else i
      refine lcL_fm (fun _ => true) (fun d : Dv => match d with | .int i => .int (ab i) | d => d) (fun x hx => ?_) ?_
      · obtain ⟨k, hk, rfl⟩ := List.mem_map.mp hx
        exact ⟨_, rfl, fun _ _ q => q, fun _ _ _ q => q⟩
      have ef : ([] : List Dv) ++ ((ms.map Dv.int).filter (fun _ => true)).map (fun d : Dv => match d with | .int i => .int (ab i) | d => d) = (ms.map ab).map Dv.int := by
        rw [List.nil_append, List.filter_eq_self.mpr (fun _ _ => rfl), List.map_map, List.map_map]
        rfl
      rw [ef]
      have cok : cellsOk (ms.map ab) := fun c hc => by
        obtain ⟨k, hk, rfl⟩ := List.mem_map.mp hc
        have := mb k hk
        have e : (ab k).natAbs = k.natAbs := by show (if k < 0 then -k else k).natAbs = _; split <;> omega
        rw [e]
        exact ⟨by show 0 ≤ (if k < 0 then -k else k); split <;> omega, this⟩
      have cl : (ms.map ab).length ≤ 63 := by rw [List.length_map]; exact ml
      generalize ms.map ab = cs at cok cl
      -- the loop
      refine loop_by (fun xs σ W' => ∃ (ys : List Int) (sx : Int) (o : Option Sl), xs = (ys.map Dv.int).map Sv.d ∧ σ = [some (.v (.d (.lst (ns.map Dv.int)))), some (.v (.d (.int b))), some (.v (.d (.int sx))), some (.v (.d (.lst (cs.map Dv.int)))), o] ∧ (0 ≤ sx ∧ sx < 2147483647) ∧ notOwn o = true ∧ W' = W)
        ⟨cs, 49979693 + 29 * b, none, rfl, rfl, ⟨by omega, by omega⟩, rfl, rfl⟩ (fun σ W' ⟨ys, sx, o, _, hσ, hs, ho, hW⟩ => ?_) (fun x xs σ W' N ⟨ys, sx, o, hx, hσ, hs, ho, hW⟩ hN => ?_)
      · subst hσ hW
        -- return
        refine ⟨⟨by show (notOwn o && true) = true; rw [ho]; rfl, ?_⟩, ?_⟩
        · show (cs.map Dv.int).length ≤ 1000000
          rw [List.length_map]
          omega
        refine lcL_fm (fun d : Dv => match d with | .int i => decide ((1000000000000000000 : Int) ≤ i) | _ => false) (fun d => d) (fun x hx => ?_) ?_
        · obtain ⟨k, hk, rfl⟩ := List.mem_map.mp hx
          exact ⟨_, rfl, fun _ _ q => ⟨⟨by decide, by decide, by decide⟩, q⟩, fun _ _ _ q => q⟩
        have ef : ([] ++ ((cs.map Dv.int).filter (fun d : Dv => match d with | .int i => decide ((1000000000000000000 : Int) ≤ i) | _ => false)).map (fun d => d)).reverse = ((cs.filter (fun i => decide ((1000000000000000000 : Int) ≤ i))).reverse).map Dv.int := by
          rw [List.nil_append, List.map_id', List.filter_map, List.map_reverse]
          rfl
        refine ⟨_, _, ef, rfl, ⟨fun c hc => ?_, ?_, hs.1, hs.2⟩, h⟩
        · exact cok c (List.mem_filter.mp (List.mem_reverse.mp hc)).1
        · rw [List.length_reverse]
          exact Nat.le_trans (List.length_filter_le _ _) (by omega)
      · subst hσ hW
        cases ys with
        | nil => cases hx
        | cons y ys =>
          cases hx
          refine ⟨_, rfl, ⟨.inr ⟨by decide, by decide⟩, (show (0 : Int) < 2147483489 by decide), (show (0 : Int) < 2147483647 by decide), ?_⟩⟩
          exact hN _ _ ⟨ys, _, _, rfl, rfl, ⟨Int.emod_nonneg _ (by decide), Int.emod_lt_of_pos _ (by decide)⟩, rfl, rfl⟩
    · exact h.elim
theorem ok__law_pick (T : TT w K mg) : FnOk P w K mg base CX0 2 T.f__law_pick T.fd__law_pick ["_law_deal_here", "_law_some"] (spD K wfPick) := by
  refine okD T.F__law_pick sc__law_pick (fun xs W Φ h => ?_) (fun cdv A outer s H E hr => ⟨_, _, (ss_one (s_ret (d_ix ix_list od_ixL (bv 1) (bb (d_call (ok__law_draw T) (by exact hr.mono (by decide)) (by rfl) T.m__law_draw T.F__law_draw.kp T.B__law_draw .nil Cn.nil (a_cons (dv 0) (a_cons (d_callB call_len cd_len (by rfl) T.b_len (by decide +kernel) (b_cons (bv 1) b_nil)) a_nil)))) (fun _ _ => rfl)))), fun xs W Φ h => ?_⟩)
  · unfold wfPick at h
    split at h
    · rfl
    · exact h.elim
  · unfold wfPick at h
    split at h
    · rename_i j ys
      obtain ⟨hW, ⟨hne, hl⟩, h⟩ := h
      have l0 : 0 < ys.length := List.length_pos_iff.mpr hne
      refine ⟨hW, ⟨by show (0 : Int) < (ys.length : Int); omega, by show (ys.length : Int) ≤ _; omega⟩, fun r r0 r1 => ?_⟩
      obtain ⟨x, e, m⟩ := atI_mem (xs := ys) r0 r1
      show (match L2.atI ys r with | some d => Φ (.d d) W | none => False)
      rw [e]
      exact h x m
    · exact h.elim

theorem ok_is_integer (T : TT w K mg) : FnOk P w K mg base CX0 1 T.f_is_integer T.fd_is_integer ["value"] (spD K (wfIsInt K)) := by
  refine okD T.F_is_integer sc_is_integer (fun xs W Φ h => ?_) (fun cdv A outer s H E hr => ⟨_, _, (ss_one (s_ret (d_and (d_callB call_isi cd_isi (by rfl) T.b_isinstance (by decide +kernel) (b_cons (bv 0) (b_cons (bb (d_bltn (v := .ty "int") (by rfl) T.b_int (by decide +kernel) rfl)) b_nil))) (d_one (d_not (d_callB call_isi cd_isi (by rfl) T.b_isinstance (by decide +kernel) (b_cons (bv 0) (b_cons (bb (d_bltn (v := .ty "bool") (by rfl) T.b_bool (by decide +kernel) rfl)) b_nil)))))))), fun xs W Φ h => ?_⟩)
  · unfold wfIsInt at h
    split at h
    · rfl
    · exact h.elim
  · unfold wfIsInt at h
    split at h
    · rename_i x
      obtain ⟨ho, h⟩ := h
      cases x with
      | raw v => exact ho.elim
      | exc a d C ks ds => exact ho.elim
      | ins C ks ds => exact ⟨_, _, _, rfl, ho.1, .ty "int", ho.2.1, h⟩
      | bl b =>
        refine ⟨_, _, true, rfl, trivial, .ty "int", kit_ty (by decide +kernel), ?_⟩
        refine iteF (A := True) ?_
        exact ⟨_, _, true, rfl, trivial, .ty "bool", kit_ty (by decide +kernel), h⟩
      | int b =>
        refine ⟨_, _, true, rfl, trivial, .ty "int", kit_ty (by decide +kernel), ?_⟩
        refine iteF (A := True) ?_
        exact ⟨_, _, false, rfl, trivial, .ty "bool", kit_ty (by decide +kernel), h⟩
      | _ => exact ⟨_, _, false, rfl, trivial, .ty "int", kit_ty (by decide +kernel), h⟩
    · exact h.elim
theorem ok_is_from (T : TT w K mg) : FnOk P w K mg base CX0 2 T.f_is_from T.fd_is_from ["value", "least"] (spD K (wfIsFrom K)) := by
  refine okD T.F_is_from sc_is_from (fun xs W Φ h => ?_) (fun cdv A outer s H E hr => ⟨_, _, (ss_one (s_ret (d_and (d_call (ok_is_integer T) (by exact hr.mono (by decide)) (by rfl) T.m_is_integer T.F_is_integer.kp T.B_is_integer .nil Cn.nil (a_cons (dv 0) a_nil)) (d_one (d_cmp op_ge o_ge (bv 0) (bv 1) (nomark _)))))), fun xs W Φ h => ?_⟩)
  · unfold wfIsFrom at h
    split at h
    · rfl
    · exact h.elim
  · unfold wfIsFrom at h
    split at h
    · rename_i x l
      obtain ⟨ho, h⟩ := h
      refine ⟨ho, ?_⟩
      cases x <;> exact h
    · exact h.elim

theorem thing_step (T : TT w K mg) (n : Nat) (wfp : WFn) (ih : FnOk P w K mg base CX0 (n + 2) T.f__law_thing T.fd__law_thing ["_law_deal_here", "_law_deep"] (spD K wfp)) (hwf : n = 0 ∨ ∃ m, n = m + 1 ∧ wfp = wfThing m) :
    FnOk P w K mg base CX0 (n + 3) T.f__law_thing T.fd__law_thing ["_law_deal_here", "_law_deep"] (spD K (wfThing n)) := by
  refine okD T.F__law_thing sc__law_thing (fun xs W Φ h => ?_) (fun cdv A outer s H E hr => ⟨_, _, (ss_cons (s_set (i := 2) sc__law_thing.nd rfl (by first | exact Or.inl rfl | exact Or.inr rfl) (d_fr (f_lst (a_cons d_non (a_cons d_bl (a_cons d_bl (a_cons d_int (a_cons d_int (a_cons (d_op op_sub o_sub (bb d_int) (bb d_int)) (a_cons d_str (a_cons d_str (a_cons d_str (a_cons d_str (a_cons d_str (a_cons (d_tup a_nil) (a_cons (d_fr (f_lst a_nil)) (a_cons (d_tup (a_cons d_str (a_cons d_str (a_cons d_int a_nil)))) a_nil)))))))))))))))))
  (ss_cons (s_if (t_bo (p_and (t_cmp op_gt o_gt (bv 1) (bb d_int) (nomark _)) (p_and1 (t_cmp op_eq od_eq (bb (d_call (ok__law_draw T) (by exact hr.mono (by omega)) (by rfl) T.m__law_draw T.F__law_draw.kp T.B__law_draw .nil Cn.nil (a_cons (dv 0) (a_cons d_int a_nil)))) (bb d_int) (nomark _)))))
  (ss_cons (s_lcO (i := 3) rfl sc__law_thing.nd rfl rfl (sw_true rfl rfl rfl (by decide +kernel)) (i_R1 (by rfl) T.b_range (b_cons (bb (d_call (ok__law_draw T) (by exact hr.mono (by omega)) (by rfl) T.m__law_draw T.F__law_draw.kp T.B__law_draw .nil Cn.nil (a_cons (dv 0) (a_cons d_int a_nil)))) b_nil)) (blkOk_by (own := [("_law_turn", 4)]) (by rfl)) (fun _ _ _ _ _ => (g_name (i := 4) sc__law_thing.nd rfl (by first | exact Or.inl rfl | exact Or.inr rfl))) (fun _ _ _ _ _ => ts_nil) (fun _ _ _ _ _ => (d_callK (K := K) rfl ih (by exact hr.mono (by omega)) (by rfl) T.m__law_thing T.F__law_thing.kp T.B__law_thing .nil Cn.nil (a_cons (dv 0) (a_cons (d_op op_sub o_sub (bv 1) (bb d_int)) a_nil)))) (by decide))
  (ss_one (s_ret (d_if (t_cmp op_eq od_eq (bb (d_call (ok__law_draw T) (by exact hr.mono (by omega)) (by rfl) T.m__law_draw T.F__law_draw.kp T.B__law_draw .nil Cn.nil (a_cons (dv 0) (a_cons d_int a_nil)))) (bb d_int) (nomark _)) (dv 3) (d_tupOf (by rfl) T.b_tuple (bv 3))))))
  ss_nil)
  (ss_one (s_ret (d_call (ok__law_pick T) (by exact hr.mono (by omega)) (by rfl) T.m__law_pick T.F__law_pick.kp T.B__law_pick .nil Cn.nil (a_cons (dv 0) (a_cons (dv 2) a_nil))))))), fun xs W Φ h => ?_⟩)
  · obtain ⟨j, rfl, _⟩ := h
    rfl
  · obtain ⟨j, rfl, hW, h⟩ := h
    refine ⟨nle rfl, nle rfl, nle rfl, nle rfl, ?_⟩
    have last : ∀ Ψ : Sv → WS → Prop, (∀ d, d ∈ thgBase → Ψ (.d d) W) → wfPick [.box j, .d (.lst thgBase)] W Ψ := fun Ψ q => ⟨hW, ⟨List.cons_ne_nil _ _, nle rfl⟩, q⟩
    refine ite_d (fun q => ?_) (fun q => ?_)
    · rcases hwf with rfl | ⟨m, rfl, rfl⟩
      · exact absurd q (by decide)
      refine ⟨hW, ⟨by decide, by decide⟩, fun r r0 r1 => ?_⟩
      refine ite_d (fun q2 => ?_) (fun q2 => ?_)
      · refine ⟨hW, ⟨by decide, by decide⟩, fun c c0 c1 => ?_⟩
        refine ⟨?_, ⟨rfl, ?_⟩, ?_⟩
        · exact ⟨by omega, by omega⟩
        · show (rangeD 0 _).length ≤ 1000000
          unfold rangeD
          rw [List.length_map, List.length_range]
          omega
        refine lcL_any (Thg m) (fun x hx => ?_) fun ys hl hp => ?_
        · obtain ⟨k, _, rfl⟩ := List.mem_map.mp hx
          refine ⟨_, rfl, fun Ψ hΨ => ⟨j, ?_, hW, hΨ⟩⟩
          show [Sv.box j, Sv.d (.int (((m + 1 : Nat) : Int) - 1))] = _
          rw [show ((m + 1 : Nat) : Int) - 1 = m by omega]
        refine ⟨hW, ⟨by decide, by decide⟩, fun s s0 s1 => ?_⟩
        have hlen : ys.length ≤ 3 := by
          rw [hl]
          show (rangeD 0 _).length ≤ 3
          unfold rangeD
          rw [List.length_map, List.length_range]
          omega
        refine ite_d (fun q3 => ?_) (fun q3 => ?_)
        · exact h _ (.lst hlen hp)
        · exact h _ (.tup hlen hp)
      · exact last _ fun d hd => h d (.base hd)
    · exact last _ fun d hd => h d (.base hd)
theorem thing_at (T : TT w K mg) : ∀ n : Nat, FnOk P w K mg base CX0 (n + 3) T.f__law_thing T.fd__law_thing ["_law_deal_here", "_law_deep"] (spD K (wfThing n))
  | 0 => thing_step T 0 _ fn_false (.inl rfl)
  | n + 1 => thing_step T (n + 1) _ (thing_at T n) (.inr ⟨n, rfl, rfl⟩)
theorem ok__law_thing (T : TT w K mg) : FnOk P w K mg base CX0 10 T.f__law_thing T.fd__law_thing ["_law_deal_here", "_law_deep"] (spD K fun xs W Φ => ∃ i : Fin 8, wfThing i.val xs W Φ) :=
  fn_any fun i => (thing_at T i.val).mono (by have := i.isLt; omega)

theorem ok_is_one_of (T : TT w K mg) : FnOk P w K mg base CX0 1 T.f_is_one_of T.fd_is_one_of ["value", "words"] (spD K (wfOneOfK K)) := by
  refine okD T.F_is_one_of sc_is_one_of (fun xs W Φ h => ?_) (fun cdv A outer s H E hr => ⟨_, _, (ss_one (s_ret (d_and (d_callB call_isi cd_isi (by rfl) T.b_isinstance (by decide +kernel) (b_cons (bv 0) (b_cons (bb (d_bltn (v := .ty "str") (by rfl) T.b_str (by decide +kernel) rfl)) b_nil))) (d_one (d_cmp op_in_seq (od_in false) (bv 0) (bv 1) (by with_unfolding_all rfl)))))), fun xs W Φ h => ?_⟩)
  · obtain ⟨x, ws, rfl, _⟩ := h
    rfl
  · obtain ⟨x, ws, rfl, hx, h⟩ := h
    have all : ∀ ws : List Str, (ws.map Dv.str).all flD = true := fun ws => by
      rw [List.all_map]
      exact List.all_eq_true.mpr fun _ _ => rfl
    cases x with
    | raw v => exact hx.elim
    | exc a d C ks ds => exact hx.elim
    | ins C ks ds => exact ⟨_, _, _, rfl, hx.1, .ty "str", hx.2.2.2.1, h⟩
    | str s =>
      refine ⟨_, _, true, rfl, trivial, .ty "str", kit_ty (by decide +kernel), ?_⟩
      refine iteF (A := True) ?_
      refine ⟨rfl, all ws, ?_⟩
      have e := in_strs s ws
      show Φ (.d (.bl (inD (.str s) (ws.map Dv.str)))) W
      rw [e]
      exact h
    | _ => exact ⟨_, _, false, rfl, trivial, .ty "str", kit_ty (by decide +kernel), h⟩
theorem ok_is_setting (T : TT w K mg) : FnOk P w K mg base CX0 3 T.f_is_setting T.fd_is_setting ["name", "value"] (spD K (wfSetting K)) := by
  refine okD T.F_is_setting sc_is_setting (fun xs W Φ h => ?_) (fun cdv A outer s H E hr => ⟨_, _, (ss_cons (s_if (t_cmp op_eq od_eq (bv 0) (bb d_str) (nomark _))
  (ss_one (s_ret (d_call (ok_is_from T) (by exact hr.mono (by decide)) (by rfl) T.m_is_from T.F_is_from.kp T.B_is_from .nil Cn.nil (a_cons (dv 1) (a_cons d_int a_nil)))))
  ss_nil)
  (ss_cons (s_if (t_cmp op_eq od_eq (bv 0) (bb d_str) (nomark _))
  (ss_one (s_ret (d_or (d_cmp op_isN od_isN (bv 1) (bb d_non) (nomark _)) (d_one (d_call (ok_is_from T) (by exact hr.mono (by decide)) (by rfl) T.m_is_from T.F_is_from.kp T.B_is_from .nil Cn.nil (a_cons (dv 1) (a_cons d_int a_nil)))))))
  ss_nil)
  (ss_cons (s_if (t_cmp op_in_seq (od_in false) (bv 0) (bb (d_tup (a_cons d_str (a_cons d_str a_nil)))) (by with_unfolding_all rfl))
  (ss_one (s_ret (d_callB call_isi cd_isi (by rfl) T.b_isinstance (by decide +kernel) (b_cons (bv 1) (b_cons (bb (d_bltn (v := .ty "bool") (by rfl) T.b_bool (by decide +kernel) rfl)) b_nil)))))
  ss_nil)
  (ss_cons (s_if (t_bo (p_and (t_cmp op_in_seq (od_in false) (bv 0) (bb (d_tup (a_cons d_str (a_cons d_str a_nil)))) (by with_unfolding_all rfl)) (p_and1 (t_val (d_call (ok_is_from T) (by exact hr.mono (by decide)) (by rfl) T.m_is_from T.F_is_from.kp T.B_is_from .nil Cn.nil (a_cons (dv 1) (a_cons d_int a_nil)))))))
  (ss_one (s_ret d_bl))
  ss_nil)
  (ss_one (s_ret (d_call (ok_is_one_of T) (by exact hr.mono (by decide)) (by rfl) T.m_is_one_of T.F_is_one_of.kp T.B_is_one_of .nil Cn.nil (a_cons (dv 1) (a_cons (d_ixKD T.kt_WORDS (bb (d_glob (v := .ref _) (by rfl) T.m_WORDS rfl fun _ _ => .raw _)) (bv 0) (fun _ _ => rfl)) a_nil))))))))), fun xs W Φ h => ?_⟩)
  · obtain ⟨n, x, rfl, _⟩ := h
    rfl
  · obtain ⟨n, x, rfl, hn, hx, h⟩ := h
    obtain ⟨hn, hf⟩ := hn
    have in2 : ∀ a b : Str, inD (.str n) [.str a, .str b] = decide (n = a ∨ n = b) := fun a b => by
      have e := in_strs n [a, b]
      rw [show ([Dv.str a, .str b] : List Dv) = [a, b].map Dv.str from rfl, e]
      congr 1
      simp
    unfold okSet at h
    by_cases e1 : n = "begin"
    · rw [if_pos e1] at h
      exact sif_bt (b := decide (n = "begin")) (decide_eq_true e1) (fun Ψ q => q) ⟨hx, h⟩
    refine sif_bf (b := decide (n = "begin")) (decide_eq_false e1) (fun Ψ q => q) ?_
    rw [if_neg e1] at h
    by_cases e2 : n = "stop"
    · rw [if_pos e2] at h
      refine sif_bt (b := decide (n = "stop")) (decide_eq_true e2) (fun Ψ q => q) ?_
      cases x with
      | raw v => exact hx.elim
      | exc a d C ks ds => exact hx.elim
      | non => exact h
      | _ => exact ⟨hx, h⟩
    refine sif_bf (b := decide (n = "stop")) (decide_eq_false e2) (fun Ψ q => q) ?_
    rw [if_neg e2] at h
    have t3 : ∀ {a b : Str} {σ : DS} {Ψ : Bool → WS → Prop}, slot σ 0 = some (.v (.d (.str n))) → Ψ (decide (n = a ∨ n = b)) W → (wB (wOp (rdIn false) (wVarB 0) (wBof (wTup (wCons (wC (Dv.str a)) (wCons (wC (Dv.str b)) wNil)))))) σ W Ψ := fun {a b σ Ψ} hσ q => by
      unfold wB wOp wVarB
      rw [hσ]
      refine ⟨nle rfl, rfl, rfl, ?_⟩
      show Ψ (inD (.str n) [.str a, .str b]) W
      rw [in2]
      exact q
    by_cases e3 : n = "clears" ∨ n = "needs"
    · rw [if_pos e3] at h
      refine sif_bt (b := decide (n = "clears" ∨ n = "needs")) (decide_eq_true e3) (fun Ψ q => t3 rfl q) ?_
      cases x with
      | raw v => exact hx.elim
      | exc a d C ks ds => exact hx.elim
      | ins C ks ds => exact ⟨_, _, _, rfl, hx.1, .ty "bool", hx.2.2.1, h⟩
      | bl b => exact ⟨_, _, true, rfl, trivial, .ty "bool", kit_ty (by decide +kernel), h⟩
      | _ => exact ⟨_, _, false, rfl, trivial, .ty "bool", kit_ty (by decide +kernel), h⟩
    refine sif_bf (b := decide (n = "clears" ∨ n = "needs")) (decide_eq_false e3) (fun Ψ q => t3 rfl q) ?_
    rw [if_neg e3] at h
    have t4 : ∀ {Ψ : Bool → WS → Prop}, Ψ (decide (n = "marked" ∨ n = "held") && isFromD x 1) W → (wAnd (wB (wOp (rdIn false) (wVarB 0) (wBof (wTup (wCons (wC (Dv.str "marked")) (wCons (wC (Dv.str "held")) wNil))))))
              (wB (wCall (wfIsFrom K) [] (wCons (wVar 1) (wCons (wC (Dv.int 1)) wNil))))) (startD ["name", "value"] [Sv.d (Dv.str n), Sv.d x]) W Ψ := fun {Ψ} q => by
      refine t3 rfl ?_
      cases e : decide (n = "marked" ∨ n = "held") with
      | true =>
        rw [e] at q
        exact ⟨hx, q⟩
      | false =>
        rw [e] at q
        exact q
    by_cases e4 : (n = "marked" ∨ n = "held") ∧ isFromD x 1 = true
    · rw [if_pos e4] at h
      exact sif_bt (b := decide (n = "marked" ∨ n = "held") && isFromD x 1) (by rw [decide_eq_true e4.1, e4.2]; rfl) (fun Ψ q => t4 q) h
    refine sif_bf (b := decide (n = "marked" ∨ n = "held") && isFromD x 1) ?_ (fun Ψ q => t4 q) ?_
    · by_cases q1 : n = "marked" ∨ n = "held"
      · rw [Bool.eq_false_iff.mpr fun q2 => e4 ⟨q1, q2⟩, Bool.and_false]
      · rw [decide_eq_false q1, Bool.false_and]
    rw [if_neg e4] at h
    have tb : tab_WORDS n = some (.tup ((wordsK n).map Dv.str)) := by
      simp only [List.mem_cons, List.not_mem_nil, or_false] at hn
      rcases hn with rfl | rfl | rfl | rfl | rfl | rfl | rfl | rfl | rfl | rfl | rfl
      · exact absurd rfl e1
      · exact absurd rfl hf
      · exact absurd rfl e2
      · kernel_rfl
      · kernel_rfl
      · exact absurd (.inl rfl) e3
      · kernel_rfl
      · kernel_rfl
      · exact absurd (.inr rfl) e3
      · kernel_rfl
      · kernel_rfl
    refine ⟨rfl, ?_⟩
    rw [tb]
    exact ⟨x, wordsK n, rfl, hx, h⟩
theorem ok_first_wrong (T : TT w K mg) : FnOk P w K mg base CX0 4 T.f_first_wrong T.fd_first_wrong ["values"] (spD K (wfFirst K)) := by
  refine okD T.F_first_wrong sc_first_wrong (fun xs W Φ h => ?_) (fun cdv A outer s H E hr => ⟨_, _, (ss_cons (s_for PassesOwn.never rfl (i_T (d_glob (v := .ref _) (by rfl) T.m_NAMES rfl T.h_NAMES)) (g_name (i := 1) sc_first_wrong.nd rfl (by first | exact Or.inl rfl | exact Or.inr rfl))
  (ss_one (s_if (t_cmp op_eq od_eq (bv 1) (bb d_str) (nomark _))
  (ss_one (s_if (t_bo (p_or (t_not (t_val (d_call (ok_is_from T) (by exact hr.mono (by decide)) (by rfl) T.m_is_from T.F_is_from.kp T.B_is_from .nil Cn.nil (a_cons (d_dget (u1 hr.units) (bv 0) (bb d_str) (fun _ _ => rfl)) (a_cons d_int a_nil))))) (p_or1 (t_cmp op_ge o_ge (bb (d_dget (u1 hr.units) (bv 0) (bb d_str) (fun _ _ => rfl))) (bb (d_dget (u1 hr.units) (bv 0) (bb d_str) (fun _ _ => rfl))) (nomark _)))))
  (ss_one (s_ret d_str))
  ss_nil))
  (ss_one (s_if (t_not (t_val (d_call (ok_is_setting T) (by exact hr.mono (by decide)) (by rfl) T.m_is_setting T.F_is_setting.kp T.B_is_setting .nil Cn.nil (a_cons (dv 1) (a_cons (d_dget (u1 hr.units) (bv 0) (bv 1) (fun _ _ => rfl)) a_nil)))))
  (ss_one (s_ret (dv 1)))
  ss_nil)))))
  (ss_one (s_ret d_non))), fun xs W Φ h => ?_⟩)
  · obtain ⟨k, rfl, _⟩ := h
    rfl
  · obtain ⟨k, rfl, hk, h⟩ := h
    have ab : ("begin" : Str) ≠ "freeze" := by decide +kernel
    have mf : ("freeze" : Str) ∈ KN := by decide +kernel
    have mb : ("begin" : Str) ∈ KN := by decide +kernel
    have kf : isiOk K k.f := by
      have := hk "freeze" mf
      rw [at_f] at this
      exact this
    have g : ∀ {m : Str} {Φ : Sv → WS → Prop}, m ∈ KN → Φ (.d (k.at m)) W → rdGet (.dic KK k.ds) (.str m) W Φ := fun {m Φ} hm q => by
      show (match getA KK k.ds (.inr m) with | some d => Φ (.d d) W | none => False)
      rw [at_mem k hm]
      exact q
    refine loop_by (fun xs σ W2 => W2 = W ∧ ∃ (ns : List Str) (o : Option Sl), xs = ns.map (fun n => Sv.d (.str n)) ∧ (∀ n, n ∈ ns → n ∈ KN) ∧ (ns = KN ∨ k.okAt "begin" = true) ∧ ns.find? (fun n => !k.okAt n) = k.wrong ∧ σ = [some (.v (.d (.dic KK k.ds))), o])
      ⟨rfl, KN, none, rfl, fun _ h => h, .inl rfl, rfl, rfl⟩ ?_ ?_
    · rintro σ W2 ⟨rfl, ns, o, e, _, _, hw, rfl⟩
      have : ns = [] := by
        cases ns with
        | nil => rfl
        | cons a b => cases e
      subst this
      unfold wrongD at h
      rw [← hw] at h
      exact h
    rintro x xs σ W2 N ⟨rfl, ns, o, e, hns, hst, hw, rfl⟩ hN
    obtain ⟨n, r, rfl⟩ : ∃ n r, ns = n :: r := by
      cases ns with
      | nil => cases e
      | cons a b => exact ⟨a, b, rfl⟩
    cases e
    have hn := hns n List.mem_cons_self
    refine ⟨_, rfl, ?_⟩
    have next : k.okAt n = true → N [some (.v (.d (.dic KK k.ds))), some (.v (.d (.str n)))] W2 := fun ok => by
      refine hN _ _ ⟨rfl, r, _, rfl, fun m hm => hns m (List.mem_cons_of_mem _ hm), .inr ?_, ?_, rfl⟩
      · rcases hst with q | q
        · injection q with q1 q2
          rw [← q1]
          exact ok
        · exact q
      · rw [List.find?_cons, ok] at hw
        exact hw
    have bad : k.okAt n = false → Φ (.d (.str n)) W2 := fun no => by
      rw [List.find?_cons, no] at hw
      unfold wrongD at h
      rw [← hw] at h
      exact h
    by_cases e1 : n = "freeze"
    · have hbg : k.okAt "begin" = true := by
        rcases hst with q | q
        · injection q with q1 q2
          exact absurd (q1.symm.trans e1) ab
        · exact q
      have hbi : ∃ b : Int, k.b = .int b := by
        unfold Kp.okAt at hbg
        rw [if_neg ab] at hbg
        unfold okSet at hbg
        rw [if_pos rfl, at_b] at hbg
        cases hkb : k.b with
        | int b => exact ⟨b, rfl⟩
        | _ => rw [hkb] at hbg; cases hbg
      obtain ⟨b, hb⟩ := hbi
      have okf : k.okAt n = (isFromD k.f 1 && ltD k.f k.b) := by
        unfold Kp.okAt
        rw [if_pos e1]
      have tst : ∀ Ψ : Bool → WS → Prop, Ψ (!k.okAt n) W2 → (wOr (wNot (wB (wCall (wfIsFrom K) [] (wCons (wOp rdGet (wVarB 0) (wBof (wC (Dv.str "freeze")))) (wCons (wC (Dv.int 1)) wNil)))))
            (wB (wOp (rdI0 fun i j => Dv.bl (decide (j ≤ i))) (wBof (wOp rdGet (wVarB 0) (wBof (wC (Dv.str "freeze"))))) (wBof (wOp rdGet (wVarB 0) (wBof (wC (Dv.str "begin"))))))))
          [some (.v (.d (.dic KK k.ds))), some (.v (.d (.str n)))] W2 Ψ := fun Ψ q => by
        dsimp only [wOr, wNot, wB, wOp, wBof, wCall, wCons, wVarB, wVar, wC, rdD, slot]
        refine g mf ?_
        rw [at_f]
        refine ⟨kf, ?_⟩
        rw [okf] at q
        cases ef : isFromD k.f 1 with
        | false =>
          rw [ef] at q
          exact q
        | true =>
          rw [ef] at q
          refine iteF (A := True) ?_
          refine g mf ?_
          refine g mb ?_
          dsimp only
          rw [at_f, at_b]
          rw [hb] at q ⊢
          cases hkf : k.f with
          | int f =>
            rw [hkf] at q
            show Ψ (decide (b ≤ f)) W2
            have e : decide (b ≤ f) = !(true && ltD (.int f) (.int b)) := by
              show decide (b ≤ f) = !decide (f < b)
              by_cases z : f < b
              · rw [decide_eq_true z, decide_eq_false (by omega)]
                rfl
              · rw [decide_eq_false z, decide_eq_true (by omega)]
                rfl
            rw [e]
            exact q
          | _ => rw [hkf] at ef; cases ef
      unfold wIfS
      refine ite_d (fun _ => ?_) (fun z => absurd e1 z)
      refine tst _ ?_
      cases ok : k.okAt n with
      | true => exact next ok
      | false =>
        have := bad ok
        rw [e1] at this
        exact this
    · unfold wIfS
      refine ite_d (fun z => absurd z e1) (fun _ => ?_)
      have okn : k.okAt n = okSet n (k.at n) := by
        unfold Kp.okAt
        rw [if_neg e1]
      have tst : ∀ Ψ : Bool → WS → Prop, Ψ (!k.okAt n) W2 → (wNot (wB (wCall (wfSetting K) [] (wCons (wVar 1) (wCons (wOp rdGet (wVarB 0) (wVarB 1)) wNil))))) [some (.v (.d (.dic KK k.ds))), some (.v (.d (.str n)))] W2 Ψ := fun Ψ q => by
        dsimp only [wOr, wNot, wB, wOp, wBof, wCall, wCons, wVarB, wVar, wC, rdD, slot]
        refine g hn ?_
        refine ⟨n, k.at n, rfl, ⟨hn, e1⟩, hk n hn, ?_⟩
        rw [okn] at q
        exact q
      refine tst _ ?_
      cases ok : k.okAt n with
      | true => exact next ok
      | false => exact bad ok
theorem okx_Keeper___init__ (T : TT w K mg) : FnOk P w K mg base (L2.CX P w) 5 T.f_Keeper___init__ T.fd_Keeper___init__ ["self", "begin", "freeze", "stop", "counts", "marks", "clears", "moves", "cut", "needs", "marked", "held"] (spX K (wfKeepX K T.c_Keeper T.c_InvalidKeeper)) := by
  refine okXD T.F_Keeper___init__ sc_Keeper___init__ (fun xs W Φ ΦX h => ?_) (fun cdv A outer s H E hr => ⟨_, _, (ssX_cons (sX (s_ownG (i := 12) sc_Keeper___init__.nd rfl (by first | exact Or.inl rfl | exact Or.inr rfl) (g_disp (pp_cons (k := (Sum.inr "begin")) k_str (dv 1) (pp_cons (k := (Sum.inr "freeze")) k_str (dv 2) (pp_cons (k := (Sum.inr "stop")) k_str (dv 3) (pp_cons (k := (Sum.inr "counts")) k_str (dv 4) (pp_cons (k := (Sum.inr "marks")) k_str (dv 5) (pp_cons (k := (Sum.inr "clears")) k_str (dv 6) pp_nil)))))))))
  (ssX_cons (sX (s_updG 12 (pv 12) (d_frG (g_disp (pp_cons (k := (Sum.inr "moves")) k_str (dv 7) (pp_cons (k := (Sum.inr "cut")) k_str (dv 8) (pp_cons (k := (Sum.inr "needs")) k_str (dv 9) (pp_cons (k := (Sum.inr "marked")) k_str (dv 10) (pp_cons (k := (Sum.inr "held")) k_str (dv 11) pp_nil))))))) ⟨rfl, rfl, rfl, rfl⟩))
  (ssX_cons (sX (s_freezeD 12 (s_set (i := 13) sc_Keeper___init__.nd rfl (by first | exact Or.inl rfl | exact Or.inr rfl) (d_call (ok_first_wrong T) (by exact hr.mono (by decide)) (by rfl) T.m_first_wrong T.F_first_wrong.kp T.B_first_wrong .nil Cn.nil (a_cons (dv 12) a_nil)))))
  (ssX_cons (sX_if (t_cmp op_notN od_notN (bv 13) (bb d_non) (nomark _))
  (ssX_one (sX_raise rfl (m_1 T.ox_InvalidKeeper T.ii_InvalidKeeper T.ti_InvalidKeeper (T.xi_InvalidKeeper _ _) (by exact hr.mono (by decide)) T.xb_InvalidKeeper (by rfl) T.m_InvalidKeeper (dv 13))))
  ssX_nil)
  (ssX_cons (sX (s_fldN T.cl_Keeper T.na_Keeper_begin (dv 0) (dv 1) rfl))
  (ssX_cons (sX (s_fldN T.cl_Keeper T.na_Keeper_freeze (dv 0) (dv 2) rfl))
  (ssX_cons (sX (s_fldN T.cl_Keeper T.na_Keeper_stop (dv 0) (dv 3) rfl))
  (ssX_cons (sX (s_fldN T.cl_Keeper T.na_Keeper_counts (dv 0) (dv 4) rfl))
  (ssX_cons (sX (s_fldN T.cl_Keeper T.na_Keeper_marks (dv 0) (dv 5) rfl))
  (ssX_cons (sX (s_fldN T.cl_Keeper T.na_Keeper_clears (dv 0) (dv 6) rfl))
  (ssX_cons (sX (s_fldN T.cl_Keeper T.na_Keeper_moves (dv 0) (dv 7) rfl))
  (ssX_cons (sX (s_fldN T.cl_Keeper T.na_Keeper_cut (dv 0) (dv 8) rfl))
  (ssX_cons (sX (s_fldN T.cl_Keeper T.na_Keeper_needs (dv 0) (dv 9) rfl))
  (ssX_cons (sX (s_fldN T.cl_Keeper T.na_Keeper_marked (dv 0) (dv 10) rfl))
  (ssX_one (sX (s_fldN T.cl_Keeper T.na_Keeper_held (dv 0) (dv 11) rfl))))))))))))))))), fun xs W Φ ΦX h => ?_⟩)
  · obtain ⟨W0, k, rfl, _⟩ := h
    rfl
  · obtain ⟨W0, k, rfl, rfl, hk, h⟩ := h
    refine ⟨nle rfl, ⟨rfl, nle rfl⟩, ⟨rfl, nle rfl⟩, ⟨nle (by kernel_rfl), nle (by kernel_rfl)⟩, ?_⟩
    dsimp only
    rw [kk_ab, ds_ab]
    rw [show ∀ (a : XW → WSt) (b : XW → WSt) (x : XW) (d : DEnds) (s : DS) (u : WS), wSeqX a b x d s u = a x { d with nx := b x d } s u from fun _ _ _ _ _ _ => rfl]
    refine frzD (i := 12) (ks := KK) (xs := k.ds) ?_ ?_
    · rfl
    refine ⟨k, rfl, hk, ?_⟩
    dsimp only
    cases hw : k.wrong with
    | some n =>
      rw [hw] at h
      have e : wrongD k = .str n := by
        unfold wrongD
        rw [hw]
      rw [e]
      exact xif_t (b := true) rfl (fun Ψ q => q) h
    | none =>
      rw [hw] at h
      have e : wrongD k = .non := by
        unfold wrongD
        rw [hw]
      rw [e]
      refine xif_f (b := false) rfl (fun Ψ q => q) ?_
      dsimp only [wSeqX, wSeq]
      refine fldN (y := .d k.b) (j := W0.length) (ks := []) (ds := []) (fun Φ h => h) (fun Φ h => h) at_last (by decide +kernel) (by decide) ?_
      rw [set_last]
      dsimp only [wNext, wSeq, List.cons_append, List.nil_append]
      refine fldN (y := .d k.f) (j := W0.length) (ks := ["begin"]) (ds := [.d k.b]) (fun Φ h => h) (fun Φ h => h) at_last (by decide +kernel) (by decide) ?_
      rw [set_last]
      dsimp only [wNext, wSeq, List.cons_append, List.nil_append]
      refine fldN (y := .d k.s) (j := W0.length) (ks := ["begin", "freeze"]) (ds := [.d k.b, .d k.f]) (fun Φ h => h) (fun Φ h => h) at_last (by decide +kernel) (by decide) ?_
      rw [set_last]
      dsimp only [wNext, wSeq, List.cons_append, List.nil_append]
      refine fldN (y := .d k.c) (j := W0.length) (ks := ["begin", "freeze", "stop"]) (ds := [.d k.b, .d k.f, .d k.s]) (fun Φ h => h) (fun Φ h => h) at_last (by decide +kernel) (by decide) ?_
      rw [set_last]
      dsimp only [wNext, wSeq, List.cons_append, List.nil_append]
      refine fldN (y := .d k.m) (j := W0.length) (ks := ["begin", "freeze", "stop", "counts"]) (ds := [.d k.b, .d k.f, .d k.s, .d k.c]) (fun Φ h => h) (fun Φ h => h) at_last (by decide +kernel) (by decide) ?_
      rw [set_last]
      dsimp only [wNext, wSeq, List.cons_append, List.nil_append]
      refine fldN (y := .d k.cl) (j := W0.length) (ks := ["begin", "freeze", "stop", "counts", "marks"]) (ds := [.d k.b, .d k.f, .d k.s, .d k.c, .d k.m]) (fun Φ h => h) (fun Φ h => h) at_last (by decide +kernel) (by decide) ?_
      rw [set_last]
      dsimp only [wNext, wSeq, List.cons_append, List.nil_append]
      refine fldN (y := .d k.mo) (j := W0.length) (ks := ["begin", "freeze", "stop", "counts", "marks", "clears"]) (ds := [.d k.b, .d k.f, .d k.s, .d k.c, .d k.m, .d k.cl]) (fun Φ h => h) (fun Φ h => h) at_last (by decide +kernel) (by decide) ?_
      rw [set_last]
      dsimp only [wNext, wSeq, List.cons_append, List.nil_append]
      refine fldN (y := .d k.cu) (j := W0.length) (ks := ["begin", "freeze", "stop", "counts", "marks", "clears", "moves"]) (ds := [.d k.b, .d k.f, .d k.s, .d k.c, .d k.m, .d k.cl, .d k.mo]) (fun Φ h => h) (fun Φ h => h) at_last (by decide +kernel) (by decide) ?_
      rw [set_last]
      dsimp only [wNext, wSeq, List.cons_append, List.nil_append]
      refine fldN (y := .d k.n) (j := W0.length) (ks := ["begin", "freeze", "stop", "counts", "marks", "clears", "moves", "cut"]) (ds := [.d k.b, .d k.f, .d k.s, .d k.c, .d k.m, .d k.cl, .d k.mo, .d k.cu]) (fun Φ h => h) (fun Φ h => h) at_last (by decide +kernel) (by decide) ?_
      rw [set_last]
      dsimp only [wNext, wSeq, List.cons_append, List.nil_append]
      refine fldN (y := .d k.ma) (j := W0.length) (ks := ["begin", "freeze", "stop", "counts", "marks", "clears", "moves", "cut", "needs"]) (ds := [.d k.b, .d k.f, .d k.s, .d k.c, .d k.m, .d k.cl, .d k.mo, .d k.cu, .d k.n]) (fun Φ h => h) (fun Φ h => h) at_last (by decide +kernel) (by decide) ?_
      rw [set_last]
      dsimp only [wNext, wSeq, List.cons_append, List.nil_append]
      refine fldN (y := .d k.h) (j := W0.length) (ks := ["begin", "freeze", "stop", "counts", "marks", "clears", "moves", "cut", "needs", "marked"]) (ds := [.d k.b, .d k.f, .d k.s, .d k.c, .d k.m, .d k.cl, .d k.mo, .d k.cu, .d k.n, .d k.ma]) (fun Φ h => h) (fun Φ h => h) at_last (by decide +kernel) (by decide) ?_
      rw [set_last]
      exact h
theorem ok_Keeper_settings (T : TT w K mg) : FnOk P w K mg base CX0 1 T.f_Keeper_settings T.fd_Keeper_settings ["self"] (spD K (wfSettings T.c_Keeper)) := by
  refine okD T.F_Keeper_settings sc_Keeper_settings (fun xs W Φ h => ?_) (fun cdv A outer s H E hr => ⟨_, _, (ss_cons (s_set (i := 1) sc_Keeper_settings.nd rfl (by first | exact Or.inl rfl | exact Or.inr rfl) (d_fr (f_lst (a_cons (d_tup (a_cons d_str (a_cons (d_fld 0 T.fo_Keeper_begin (dv 0) rfl) a_nil))) (a_cons (d_tup (a_cons d_str (a_cons (d_fld 1 T.fo_Keeper_freeze (dv 0) rfl) a_nil))) (a_cons (d_tup (a_cons d_str (a_cons (d_fld 2 T.fo_Keeper_stop (dv 0) rfl) a_nil))) (a_cons (d_tup (a_cons d_str (a_cons (d_fld 3 T.fo_Keeper_counts (dv 0) rfl) a_nil))) a_nil)))))))
  (ss_cons (s_set (i := 2) sc_Keeper_settings.nd rfl (by first | exact Or.inl rfl | exact Or.inr rfl) (d_fr (f_lst (a_cons (d_tup (a_cons d_str (a_cons (d_fld 4 T.fo_Keeper_marks (dv 0) rfl) a_nil))) (a_cons (d_tup (a_cons d_str (a_cons (d_fld 5 T.fo_Keeper_clears (dv 0) rfl) a_nil))) (a_cons (d_tup (a_cons d_str (a_cons (d_fld 6 T.fo_Keeper_moves (dv 0) rfl) a_nil))) (a_cons (d_tup (a_cons d_str (a_cons (d_fld 7 T.fo_Keeper_cut (dv 0) rfl) a_nil))) a_nil)))))))
  (ss_one (s_ret (d_fr (f_lst (a_star (bv 1) (a_star (bv 2) (a_cons (d_tup (a_cons d_str (a_cons (d_fld 8 T.fo_Keeper_needs (dv 0) rfl) a_nil))) (a_cons (d_tup (a_cons d_str (a_cons (d_fld 9 T.fo_Keeper_marked (dv 0) rfl) a_nil))) (a_cons (d_tup (a_cons d_str (a_cons (d_fld 10 T.fo_Keeper_held (dv 0) rfl) a_nil))) a_nil))))))))))), fun xs W Φ h => ?_⟩)
  · obtain ⟨k, rfl, _⟩ := h
    rfl
  · obtain ⟨k, rfl, h⟩ := h
    refine ⟨rfl, rfl, nle rfl, rfl, rfl, nle rfl, rfl, rfl, nle rfl, rfl, rfl, nle rfl, nle rfl, ?_⟩
    refine ⟨rfl, rfl, nle rfl, rfl, rfl, nle rfl, rfl, rfl, nle rfl, rfl, rfl, nle rfl, nle rfl, ?_⟩
    refine ⟨rfl, rfl, nle rfl, rfl, rfl, nle rfl, rfl, rfl, nle rfl, nle rfl, ?_⟩
    exact h
theorem okx_Keeper_but (T : TT w K mg) : KwX.FnKW P w K mg base (L2.CX P w) 7 T.f_Keeper_but oks (spX K (wfButX K T.c_Keeper T.c_InvalidKeeper)) := by
  refine okKW T.F_Keeper_but sc_Keeper_but ?_ ?_ (fun cdv A outer s H E hr => ⟨_, _, (ssX_cons (sX (s_ownG (i := 2) sc_Keeper_but.nd rfl (by first | exact Or.inl rfl | exact Or.inr rfl) (g_dictP rfl (by rfl) T.b_dict (by decide +kernel) (b_cons (bb (d_meth0 (dv 0) T.cl_Keeper T.mt_Keeper_settings (ok_Keeper_settings T) (by exact hr.mono (by decide)) T.B_Keeper_settings .nil Cn.nil)) b_nil))))
  (ssX_cons (sX (s_updG 2 (pv 2) (dv 1) ⟨rfl, rfl, rfl, rfl⟩))
  (ssX_one (sX_freezeD 2 (sX_ret (dX_makeW T.mk_Keeper (okx_Keeper___init__ T) (by exact hr.mono (by decide)) (by rfl) T.m_Keeper T.KB_Keeper___init__ (dv 2))))))), fun xs W Φ ΦX h => ?_⟩)
  · intro kV doc pm an cdv ct ks us u0 hk hl
    have hk : ks ∈ OKS := hk
    simp only [List.mem_cons, List.map_cons, List.map_nil, List.not_mem_nil, or_false] at hk
    rcases hk with rfl | rfl | rfl | rfl | rfl | rfl | rfl | rfl | rfl | rfl | rfl | rfl
    · cases us with
      | nil => rfl
      | cons a b => cases hl
    all_goals
      match us, hl with
      | [u], _ => rfl
  · intro ks hk
    have hk : ks ∈ OKS := hk
    simp only [List.mem_cons, List.map_cons, List.map_nil, List.not_mem_nil, or_false] at hk
    rcases hk with rfl | rfl | rfl | rfl | rfl | rfl | rfl | rfl | rfl | rfl | rfl | rfl <;> exact ⟨by simp, nle rfl⟩
  · obtain ⟨k, k2, ks', ds', rfl, hm, hk, h⟩ := h
    obtain ⟨m1, m2, m3⟩ := hm
    refine ⟨nle rfl, rfl, (show ("settings" : Str) ∉ KN by decide +kernel), k, rfl, ?_⟩
    dsimp only [rdD, wNilB]
    rw [pairs_kp]
    dsimp only
    rw [kk_mrg0, ds_mrg0]
    refine ⟨⟨nle rfl, m3⟩, ?_⟩
    dsimp only
    rw [m1, m2]
    refine frzD (i := 2) (ks := KK) (xs := k2.ds) ?_ ?_
    · rfl
    refine ⟨rfl, W, k2, rfl, rfl, hk, ?_⟩
    cases hw : k2.wrong with
    | some n =>
      rw [hw] at h
      exact ⟨⟨_, rfl⟩, h⟩
    | none =>
      rw [hw] at h
      exact ⟨rfl, KN, k2.ds, rfl, h⟩
def wfWords : WFn := fun xs W Φ => ∃ i, xs = [.d (.int i)] ∧ Φ (.d (.lst ((wordsI i).map Dv.str))) W
def wfPassing : WFn := fun xs W Φ => ∃ j t, xs = [.box j, .d (.int t)] ∧ W[j]? = some (.obj dealK) ∧ (1 ≤ t ∧ t ≤ 1000000000000000000) ∧ ∀ x, passD x → Φ (.d x) W
def wfLawSet : WFn := fun xs W Φ => ∃ j ts, xs = [.box j, .d (.lst (ts.map Dv.int))] ∧ W[j]? = some (.obj dealK) ∧ (ts ≠ [] ∧ ts.length ≤ 1000 ∧ ∀ t, t ∈ ts → 2 ≤ t ∧ t ≤ 1000000000000000000) ∧ ∀ (k : Kp) (b : Int), k.good → k.b = .int b → 2 ≤ b ∧ b ≤ 1000000000000000000 → Φ (.d (.lst k.ds)) W
def wfLawMade (K : PySem.W.Frag) (C : Addr) : WFn := fun xs W Φ => ∃ k : Kp, xs = [.d (.lst k.ds)] ∧ k.allOk K ∧ k.wrong = none ∧ Φ (.d (keepD C k)) W
def wfKeptK (C : Addr) : WFn := fun xs W Φ => ∃ k : Kp, xs = [.d (keepD C k)] ∧ Φ (.d (.lst k.ds)) W
theorem ok__law_words (T : TT w K mg) : FnOk P w K mg base CX0 1 T.f__law_words T.fd__law_words ["_law_spot"] (spD K wfWords) := by
  refine okD T.F__law_words sc__law_words (fun xs W Φ h => ?_) (fun cdv A outer s H E hr => ⟨_, _, (ss_cons (s_ownG (i := 1) sc__law_words.nd rfl (by first | exact Or.inl rfl | exact Or.inr rfl) (g_disp (pp_cons (k := (Sum.inl 3)) k_int (d_fr (f_lst (a_cons d_str (a_cons d_str (a_cons d_str (a_cons d_str a_nil)))))) (pp_cons (k := (Sum.inl 4)) k_int (d_fr (f_lst (a_cons d_str (a_cons d_str (a_cons d_str a_nil))))) pp_nil))))
  (ss_cons (s_updG 1 (pv 1) (d_frG (g_disp (pp_cons (k := (Sum.inl 6)) k_int (d_fr (f_lst (a_cons d_str (a_cons d_str a_nil)))) (pp_cons (k := (Sum.inl 7)) k_int (d_fr (f_lst (a_cons d_str (a_cons d_str (a_cons d_str a_nil))))) pp_nil)))) ⟨rfl, rfl, rfl, rfl⟩)
  (ss_cons (s_updG 1 (pv 1) (d_frG (g_disp (pp_cons (k := (Sum.inl 9)) k_int (d_fr (f_lst (a_cons d_str (a_cons d_str a_nil)))) (pp_cons (k := (Sum.inl 10)) k_int (d_fr (f_lst (a_cons d_str (a_cons d_str a_nil)))) pp_nil)))) ⟨rfl, rfl, rfl, rfl⟩)
  (ss_one (s_ret (d_get2 (u1 hr.units) (bv 1) (bv 0) (d_fr (f_lst a_nil)) ⟨rfl, rfl, rfl, rfl⟩)))))), fun xs W Φ h => ?_⟩)
  · obtain ⟨i, rfl, _⟩ := h
    rfl
  · obtain ⟨i, rfl, h⟩ := h
    refine ⟨nle rfl, nle rfl, nle rfl, ⟨rfl, nle rfl⟩, ?_⟩
    refine ⟨nle rfl, nle rfl, ⟨rfl, nle rfl⟩, ⟨nle (by kernel_rfl), nle (by kernel_rfl)⟩, ?_⟩
    refine ⟨nle rfl, nle rfl, ⟨rfl, nle rfl⟩, ⟨nle (by kernel_rfl), nle (by kernel_rfl)⟩, ?_⟩
    refine ⟨nle rfl, ?_⟩
    by_cases e3 : i = 3
    · subst e3; exact h
    by_cases e4 : i = 4
    · subst e4; exact h
    by_cases e6 : i = 6
    · subst e6; exact h
    by_cases e7 : i = 7
    · subst e7; exact h
    by_cases e9 : i = 9
    · subst e9; exact h
    by_cases e10 : i = 10
    · subst e10; exact h
    unfold wordsI at h
    rw [if_neg e3, if_neg e4, if_neg e6, if_neg e7, if_neg e9, if_neg e10] at h
    show (match getA [.inl 3, .inl 4, .inl 6, .inl 7, .inl 9, .inl 10] _ (.inl i) with | some d => Φ (.d d) W | none => Φ (.d (.lst [])) W)
    rw [get_none (by simp [e3, e4, e6, e7, e9, e10])]
    exact h
theorem ok__law_passing (T : TT w K mg) : FnOk P w K mg base CX0 3 T.f__law_passing T.fd__law_passing ["_law_deal_here", "_law_top"] (spD K wfPassing) := by
  refine okD T.F__law_passing sc__law_passing (fun xs W Φ h => ?_) (fun cdv A outer s H E hr => ⟨_, _, (ss_one (s_ret (d_call (ok__law_pick T) (by exact hr.mono (by decide)) (by rfl) T.m__law_pick T.F__law_pick.kp T.B__law_pick .nil Cn.nil (a_cons (dv 0) (a_cons (d_fr (f_lst (a_cons d_str (a_cons d_str (a_cons d_int (a_cons d_int (a_cons (dv 1) (a_cons (d_op op_add o_add (bv 1) (bb d_int)) a_nil)))))))) a_nil))))), fun xs W Φ h => ?_⟩)
  · obtain ⟨j, t, rfl, _⟩ := h
    rfl
  · obtain ⟨j, t, rfl, hd, ht, h⟩ := h
    refine ⟨nle rfl, hd, ⟨List.cons_ne_nil _ _, nle rfl⟩, fun x hx => h x ?_⟩
    simp only [List.mem_cons, List.not_mem_nil, or_false] at hx
    rcases hx with rfl | rfl | rfl | rfl | rfl | rfl
    · exact .inl rfl
    · exact .inr (.inl rfl)
    · exact .inr (.inr ⟨_, rfl, by decide, by decide⟩)
    · exact .inr (.inr ⟨_, rfl, by decide, by decide⟩)
    · exact .inr (.inr ⟨_, rfl, by omega, by omega⟩)
    · exact .inr (.inr ⟨_, rfl, by omega, by omega⟩)
theorem ok__law_settings (T : TT w K mg) : FnOk P w K mg base CX0 4 T.f__law_settings T.fd__law_settings ["_law_deal_here", "_law_tops"] (spD K wfLawSet) := by
  refine okD T.F__law_settings sc__law_settings (fun xs W Φ h => ?_) (fun cdv A outer s H E hr => ⟨_, _, (ss_cons (s_set (i := 2) sc__law_settings.nd rfl (by first | exact Or.inl rfl | exact Or.inr rfl) (d_op op_add o_add (bb d_int) (bb (d_call (ok__law_draw T) (by exact hr.mono (by decide)) (by rfl) T.m__law_draw T.F__law_draw.kp T.B__law_draw .nil Cn.nil (a_cons (dv 0) (a_cons (d_op op_sub o_sub (bb (d_call (ok__law_pick T) (by exact hr.mono (by decide)) (by rfl) T.m__law_pick T.F__law_pick.kp T.B__law_pick .nil Cn.nil (a_cons (dv 0) (a_cons (dv 1) a_nil)))) (bb d_int)) a_nil))))))
  (ss_cons (s_set (i := 3) sc__law_settings.nd rfl (by first | exact Or.inl rfl | exact Or.inr rfl) (d_fr (f_lst (a_cons (dv 2) (a_cons (d_op op_add o_add (bb d_int) (bb (d_call (ok__law_draw T) (by exact hr.mono (by decide)) (by rfl) T.m__law_draw T.F__law_draw.kp T.B__law_draw .nil Cn.nil (a_cons (dv 0) (a_cons (d_op op_sub o_sub (bv 2) (bb d_int)) a_nil))))) (a_cons (d_call (ok__law_pick T) (by exact hr.mono (by decide)) (by rfl) T.m__law_pick T.F__law_pick.kp T.B__law_pick .nil Cn.nil (a_cons (dv 0) (a_cons (d_fr (f_lst (a_cons d_non (a_cons d_non (a_cons d_int (a_cons (dv 2) (a_cons (d_op op_add o_add (bv 2) (bb d_int)) (a_cons (d_op op_mul o_mul (bb d_int) (bv 2)) a_nil)))))))) a_nil))) a_nil))))))
  (ss_cons (s_set (i := 3) sc__law_settings.nd rfl (by first | exact Or.inl rfl | exact Or.inr rfl) (d_fr (f_cat (bv 3) (bb (d_fr (f_lst (a_cons (d_call (ok__law_pick T) (by exact hr.mono (by decide)) (by rfl) T.m__law_pick T.F__law_pick.kp T.B__law_pick .nil Cn.nil (a_cons (dv 0) (a_cons (d_call (ok__law_words T) (by exact hr.mono (by decide)) (by rfl) T.m__law_words T.F__law_words.kp T.B__law_words .nil Cn.nil (a_cons d_int a_nil)) a_nil))) (a_cons (d_call (ok__law_pick T) (by exact hr.mono (by decide)) (by rfl) T.m__law_pick T.F__law_pick.kp T.B__law_pick .nil Cn.nil (a_cons (dv 0) (a_cons (d_call (ok__law_words T) (by exact hr.mono (by decide)) (by rfl) T.m__law_words T.F__law_words.kp T.B__law_words .nil Cn.nil (a_cons d_int a_nil)) a_nil))) a_nil))))))))
  (ss_cons (s_set (i := 3) sc__law_settings.nd rfl (by first | exact Or.inl rfl | exact Or.inr rfl) (d_fr (f_cat (bv 3) (bb (d_fr (f_lst (a_cons (d_cmp op_gt o_gt (bb (d_call (ok__law_draw T) (by exact hr.mono (by decide)) (by rfl) T.m__law_draw T.F__law_draw.kp T.B__law_draw .nil Cn.nil (a_cons (dv 0) (a_cons d_int a_nil)))) (bb d_int) (nomark _)) (a_cons (d_call (ok__law_pick T) (by exact hr.mono (by decide)) (by rfl) T.m__law_pick T.F__law_pick.kp T.B__law_pick .nil Cn.nil (a_cons (dv 0) (a_cons (d_call (ok__law_words T) (by exact hr.mono (by decide)) (by rfl) T.m__law_words T.F__law_words.kp T.B__law_words .nil Cn.nil (a_cons d_int a_nil)) a_nil))) a_nil))))))))
  (ss_cons (s_set (i := 3) sc__law_settings.nd rfl (by first | exact Or.inl rfl | exact Or.inr rfl) (d_fr (f_cat (bv 3) (bb (d_fr (f_lst (a_cons (d_call (ok__law_pick T) (by exact hr.mono (by decide)) (by rfl) T.m__law_pick T.F__law_pick.kp T.B__law_pick .nil Cn.nil (a_cons (dv 0) (a_cons (d_call (ok__law_words T) (by exact hr.mono (by decide)) (by rfl) T.m__law_words T.F__law_words.kp T.B__law_words .nil Cn.nil (a_cons d_int a_nil)) a_nil))) (a_cons (d_cmp op_eq od_eq (bb (d_call (ok__law_draw T) (by exact hr.mono (by decide)) (by rfl) T.m__law_draw T.F__law_draw.kp T.B__law_draw .nil Cn.nil (a_cons (dv 0) (a_cons d_int a_nil)))) (bb d_int) (nomark _)) a_nil))))))))
  (ss_one (s_ret (d_fr (f_cat (bv 3) (bb (d_fr (f_lst (a_cons (d_call (ok__law_passing T) (by exact hr.mono (by decide)) (by rfl) T.m__law_passing T.F__law_passing.kp T.B__law_passing .nil Cn.nil (a_cons (dv 0) (a_cons (dv 2) a_nil))) (a_cons (d_call (ok__law_passing T) (by exact hr.mono (by decide)) (by rfl) T.m__law_passing T.F__law_passing.kp T.B__law_passing .nil Cn.nil (a_cons (dv 0) (a_cons (dv 2) a_nil))) a_nil)))))))))))))), fun xs W Φ h => ?_⟩)
  · obtain ⟨j, ts, rfl, _⟩ := h
    rfl
  · obtain ⟨j, ts, rfl, hd, ht, h⟩ := h
    have pk : ∀ {ys : List Str} {Ψ : Sv → WS → Prop}, ys ≠ [] → ys.length ≤ 1000 → (∀ s, s ∈ ys → Ψ (.d (.str s)) W) → wfPick [.box j, .d (.lst (ys.map Dv.str))] W Ψ := fun {ys Ψ} h1 h2 q => by
      refine ⟨hd, ⟨fun z => h1 (List.map_eq_nil_iff.mp z), by rw [List.length_map]; omega⟩, fun x hx => ?_⟩
      obtain ⟨s, hs, rfl⟩ := List.mem_map.mp hx
      exact q s hs
    refine ⟨hd, ⟨fun z => ht.1 (List.map_eq_nil_iff.mp z), by rw [List.length_map]; have := ht.2.1; omega⟩, fun x hx => ?_⟩
    obtain ⟨t, hm, rfl⟩ := List.mem_map.mp hx
    obtain ⟨t0, t1⟩ := ht.2.2 t hm
    refine ⟨hd, ⟨by omega, by omega⟩, fun r r0 r1 => ?_⟩
    have q0 : 2 ≤ 2 + r ∧ 2 + r ≤ 1000000000000000000 := ⟨by omega, by omega⟩
    refine ⟨hd, ⟨by omega, by omega⟩, fun f f0 f1 => ?_⟩
    refine ⟨.inl ⟨by decide, by decide⟩, nle rfl, hd, ⟨List.cons_ne_nil _ _, nle rfl⟩, fun st hst => ?_⟩
    have hst : st = .non ∨ ∃ i : Int, st = .int i ∧ 1 ≤ i ∧ i < 10000000000000000000 := by
      simp only [List.mem_cons, List.not_mem_nil, or_false] at hst
      rcases hst with rfl | rfl | rfl | rfl | rfl | rfl
      · exact .inl rfl
      · exact .inl rfl
      · exact .inr ⟨_, rfl, by decide, by decide⟩
      · exact .inr ⟨_, rfl, by omega, by omega⟩
      · exact .inr ⟨_, rfl, by omega, by omega⟩
      · exact .inr ⟨_, rfl, by omega, by omega⟩
    refine ⟨nle rfl, ?_⟩
    have hf : 1 ≤ 1 + f ∧ 1 + f < 2 + r := ⟨by omega, by omega⟩
    refine ⟨3, rfl, pk (by decide) (nle rfl) fun c hc => ?_⟩
    refine ⟨4, rfl, pk (by decide) (nle rfl) fun m hm => ?_⟩
    refine ⟨nle rfl, nle rfl, ?_⟩
    refine ⟨hd, ⟨by decide, by decide⟩, fun b1 _ _ => ?_⟩
    refine ⟨6, rfl, pk (by decide) (nle rfl) fun mo hmo => ?_⟩
    refine ⟨nle rfl, nle rfl, ?_⟩
    refine ⟨7, rfl, pk (by decide) (nle rfl) fun cu hcu => ?_⟩
    refine ⟨hd, ⟨by decide, by decide⟩, fun b2 _ _ => ?_⟩
    refine ⟨nle rfl, nle rfl, ?_⟩
    refine ⟨j, 2 + r, rfl, hd, ⟨by omega, by omega⟩, fun ma hma => ?_⟩
    refine ⟨j, 2 + r, rfl, hd, ⟨by omega, by omega⟩, fun he hhe => ?_⟩
    refine ⟨nle rfl, nle rfl, ?_⟩
    have w3 : wordsI 3 = wordsK "counts" := by kernel_rfl
    have w4 : wordsI 4 = wordsK "marks" := by kernel_rfl
    have w6 : wordsI 6 = wordsK "moves" := by kernel_rfl
    have w7 : wordsI 7 = wordsK "cut" := by kernel_rfl
    rw [w3] at hc
    rw [w4] at hm
    rw [w6] at hmo
    rw [w7] at hcu
    have kc := DL.ok_word (n := "counts") ⟨c, rfl, hc⟩ (by simp)
    have km := DL.ok_word (n := "marks") ⟨m, rfl, hm⟩ (by simp)
    have kmo := DL.ok_word (n := "moves") ⟨mo, rfl, hmo⟩ (by simp)
    have kcu := DL.ok_word (n := "cut") ⟨cu, rfl, hcu⟩ (by simp)
    have kst := ok_stop hst
    have kma := ok_pass hma (.inl rfl)
    have khe := ok_pass hhe (.inr rfl)
    have kcl := ok_bool (n := "clears") (b := decide (0 < b1)) (.inl rfl)
    have kn := ok_bool (n := "needs") (b := decide (b2 = 0)) (.inr rfl)
    exact h ⟨.int (2 + r), .int (1 + f), st, .str c, .str m, .bl (decide (0 < b1)), .str mo, .str cu, .bl (decide (b2 = 0)), ma, he⟩
      (2 + r) (good_mk _ rfl rfl hf.1 hf.2 q0.1 (by omega) kst.2 kc.2 km.2 kcl.2 kmo.2 kcu.2 kn.2 kma.2 khe.2 kst.1 kc.1 km.1 kcl.1 kmo.1 kcu.1 kn.1 kma.1 khe.1) rfl q0
theorem ok__law_kept (T : TT w K mg) : FnOk P w K mg base CX0 1 T.f__law_kept T.fd__law_kept ["_law_made_here"] (spD K (wfKeptK T.c_Keeper)) := by
  refine okD T.F__law_kept sc__law_kept (fun xs W Φ h => ?_) (fun cdv A outer s H E hr => ⟨_, _, (ss_cons (s_set (i := 1) sc__law_kept.nd rfl (by first | exact Or.inl rfl | exact Or.inr rfl) (d_fr (f_lst (a_cons (d_fld 0 T.fo_Keeper_begin (dv 0) rfl) (a_cons (d_fld 1 T.fo_Keeper_freeze (dv 0) rfl) (a_cons (d_fld 2 T.fo_Keeper_stop (dv 0) rfl) (a_cons (d_fld 3 T.fo_Keeper_counts (dv 0) rfl) (a_cons (d_fld 4 T.fo_Keeper_marks (dv 0) rfl) (a_cons (d_fld 5 T.fo_Keeper_clears (dv 0) rfl) a_nil)))))))))
  (ss_one (s_ret (d_fr (f_cat (bv 1) (bb (d_fr (f_lst (a_cons (d_fld 6 T.fo_Keeper_moves (dv 0) rfl) (a_cons (d_fld 7 T.fo_Keeper_cut (dv 0) rfl) (a_cons (d_fld 8 T.fo_Keeper_needs (dv 0) rfl) (a_cons (d_fld 9 T.fo_Keeper_marked (dv 0) rfl) (a_cons (d_fld 10 T.fo_Keeper_held (dv 0) rfl) a_nil))))))))))))), fun xs W Φ h => ?_⟩)
  · obtain ⟨k, rfl, _⟩ := h
    rfl
  · obtain ⟨k, rfl, h⟩ := h
    exact ⟨rfl, rfl, rfl, rfl, rfl, rfl, rfl, rfl, rfl, rfl, rfl, rfl, nle rfl, rfl, rfl, rfl, rfl, rfl, rfl, rfl, rfl, rfl, rfl, nle rfl, nle rfl, h⟩

def wfNames : WFn := fun xs W Φ => xs = [] ∧ Φ (.d (.lst (KN.map Dv.str))) W
def anyX (x : Dv) : Prop := x = .non ∨ (∃ b, x = .bl b) ∨ (∃ i, x = .int i) ∨ (∃ s, x = .str s) ∨ (∃ xs, x = .tup xs) ∨ ∃ xs, x = .lst xs
theorem any_ok {x : Dv} (h : anyX x) : isiOk K x := by
  rcases h with rfl | ⟨b, rfl⟩ | ⟨i, rfl⟩ | ⟨s, rfl⟩ | ⟨xs, rfl⟩ | ⟨xs, rfl⟩ <;> trivial
def wfIsFromL : WFn := fun xs W Φ => ∃ (x : Dv) (l : Int), xs = [.d x, .d (.int l)] ∧ anyX x ∧ Φ (.d (.bl (isFromD x l))) W
def wfFineL : WFn := fun xs W Φ => ∃ (k : Kp) (i : Int), xs = [.d (.lst k.ds), .d (.int i)] ∧ (0 ≤ i ∧ i < 11) ∧ (∀ n, n ∈ KN → anyX (k.at n)) ∧ (i = 1 → k.okAt "begin" = true) ∧ Φ (.d (.bl (k.okAt (nameAt i)))) W
def wfWrongL : WFn := fun xs W Φ => ∃ k : Kp, xs = [.d (.lst k.ds)] ∧ (∀ n, n ∈ KN → anyX (k.at n)) ∧ Φ (.d (wrongD k)) W
/-- a keeper's settings, or what is raised -/
def wfMadeX (K : PySem.W.Frag) (C E : Addr) : WFnX := fun xs W Φ ΦX => ∃ k : Kp, xs = [.d (.lst k.ds)] ∧ k.allOk K ∧ (match k.wrong with | some n => ΦX E ["word"] [.str n] W | none => Φ (.d (keepD C k)) W)
def wfLawButX (K : PySem.W.Frag) (C E : Addr) : WFnX := fun xs W Φ ΦX => ∃ (k : Kp) (i : Int) (x : Dv), xs = [.d (keepD C k), .d (.int i), .d x] ∧ (0 ≤ i ∧ i < 11) ∧ (k.put (nameAt i) x).allOk K ∧
  (match (k.put (nameAt i) x).wrong with | some n => ΦX E ["word"] [.str n] W | none => Φ (.d (keepD C (k.put (nameAt i) x))) W)
/-- what is heard of a work: nothing, or the word of an InvalidKeeper -/
def wfHeard (E : Addr) (wl : WLm) (W : WS) (Φ : Sv → WS → Prop) : Prop := wl none W (fun _ W' => Φ (.d .non) W') fun C ks ds W' => ∃ n, C = E ∧ ks = (["word"] : List Str) ∧ ds = [.str n] ∧ Φ (.d (.str n)) W'
theorem ok__law_names (T : TT w K mg) : FnOk P w K mg base CX0 1 T.f__law_names T.fd__law_names [] (spD K wfNames) := by
  refine okD T.F__law_names sc__law_names (fun xs W Φ h => ?_) (fun cdv A outer s H E hr => ⟨_, _, (ss_cons (s_set (i := 0) sc__law_names.nd rfl (by first | exact Or.inl rfl | exact Or.inr rfl) (d_fr (f_lst (a_cons d_str (a_cons d_str (a_cons d_str (a_cons d_str (a_cons d_str (a_cons d_str (a_cons d_str (a_cons d_str (a_cons d_str a_nil))))))))))))
  (ss_one (s_ret (d_fr (f_cat (bv 0) (bb (d_fr (f_lst (a_cons d_str (a_cons d_str a_nil)))))))))), fun xs W Φ h => ?_⟩)
  · rw [h.1]
    rfl
  · obtain ⟨rfl, h⟩ := h
    exact ⟨nle rfl, nle rfl, nle rfl, h⟩
theorem ok__law_is_from (T : TT w K mg) : FnOk P w K mg base CX0 1 T.f__law_is_from T.fd__law_is_from ["_law_thing_here", "_law_least"] (spD K wfIsFromL) := by
  refine okD T.F__law_is_from sc__law_is_from (fun xs W Φ h => ?_) (fun cdv A outer s H E hr => ⟨_, _, (ss_one (s_ret (d_and (d_callB call_isi cd_isi (by rfl) T.b_isinstance (by decide +kernel) (b_cons (bv 0) (b_cons (bb (d_bltn (v := .ty "int") (by rfl) T.b_int (by decide +kernel) rfl)) b_nil))) (d_and (d_not (d_callB call_isi cd_isi (by rfl) T.b_isinstance (by decide +kernel) (b_cons (bv 0) (b_cons (bb (d_bltn (v := .ty "bool") (by rfl) T.b_bool (by decide +kernel) rfl)) b_nil)))) (d_one (d_cmp op_ge o_ge (bv 0) (bv 1) (nomark _))))))), fun xs W Φ h => ?_⟩)
  · obtain ⟨x, l, rfl, _⟩ := h
    rfl
  · obtain ⟨x, l, rfl, h⟩ := h
    obtain ⟨hx, h⟩ := h
    rcases hx with rfl | ⟨b, rfl⟩ | ⟨i, rfl⟩ | ⟨s, rfl⟩ | ⟨xs, rfl⟩ | ⟨xs, rfl⟩
    · exact ⟨_, _, false, rfl, trivial, .ty "int", kit_ty (by decide +kernel), h⟩
    · refine ⟨_, _, true, rfl, trivial, .ty "int", kit_ty (by decide +kernel), ?_⟩
      refine iteF (A := True) ?_
      exact ⟨_, _, true, rfl, trivial, .ty "bool", kit_ty (by decide +kernel), h⟩
    · refine ⟨_, _, true, rfl, trivial, .ty "int", kit_ty (by decide +kernel), ?_⟩
      refine iteF (A := True) ?_
      refine ⟨_, _, false, rfl, trivial, .ty "bool", kit_ty (by decide +kernel), ?_⟩
      exact h
    · exact ⟨_, _, false, rfl, trivial, .ty "int", kit_ty (by decide +kernel), h⟩
    · exact ⟨_, _, false, rfl, trivial, .ty "int", kit_ty (by decide +kernel), h⟩
    · exact ⟨_, _, false, rfl, trivial, .ty "int", kit_ty (by decide +kernel), h⟩
theorem ok__law_is_fine (T : TT w K mg) : FnOk P w K mg base CX0 3 T.f__law_is_fine T.fd__law_is_fine ["_law_v", "_law_spot"] (spD K wfFineL) := by
  refine okD T.F__law_is_fine sc__law_is_fine (fun xs W Φ h => ?_) (fun cdv A outer s H E hr => ⟨_, _, (ss_cons (s_set (i := 2) sc__law_is_fine.nd rfl (by first | exact Or.inl rfl | exact Or.inr rfl) (d_ix ix_list od_ixL (bv 0) (bv 1) (fun _ _ => rfl)))
  (ss_cons (s_if (t_cmp op_eq od_eq (bv 1) (bb d_int) (nomark _))
  (ss_one (s_ret (d_call (ok__law_is_from T) (by exact hr.mono (by decide)) (by rfl) T.m__law_is_from T.F__law_is_from.kp T.B__law_is_from .nil Cn.nil (a_cons (dv 2) (a_cons d_int a_nil)))))
  ss_nil)
  (ss_cons (s_if (t_cmp op_eq od_eq (bv 1) (bb d_int) (nomark _))
  (ss_one (s_ret (d_and (d_call (ok__law_is_from T) (by exact hr.mono (by decide)) (by rfl) T.m__law_is_from T.F__law_is_from.kp T.B__law_is_from .nil Cn.nil (a_cons (dv 2) (a_cons d_int a_nil))) (d_one (d_cmp op_lt o_lt (bv 2) (bb (d_ix ix_list od_ixL (bv 0) (bb d_int) (fun _ _ => rfl))) (nomark _))))))
  ss_nil)
  (ss_cons (s_if (t_cmp op_eq od_eq (bv 1) (bb d_int) (nomark _))
  (ss_one (s_ret (d_or (d_cmp op_isN od_isN (bv 2) (bb d_non) (nomark _)) (d_one (d_call (ok__law_is_from T) (by exact hr.mono (by decide)) (by rfl) T.m__law_is_from T.F__law_is_from.kp T.B__law_is_from .nil Cn.nil (a_cons (dv 2) (a_cons d_int a_nil)))))))
  ss_nil)
  (ss_cons (s_if (t_cmp op_in_seq (od_in false) (bv 1) (bb (d_tup (a_cons d_int (a_cons d_int a_nil)))) (by with_unfolding_all rfl))
  (ss_one (s_ret (d_or (d_cmp op_isB od_isBA (bv 2) (bb d_bl) (nomark _)) (d_one (d_cmp op_isB od_isBA (bv 2) (bb d_bl) (nomark _))))))
  ss_nil)
  (ss_cons (s_if (t_bo (p_and (t_cmp op_gt o_gt (bv 1) (bb d_int) (nomark _)) (p_and1 (t_val (d_call (ok__law_is_from T) (by exact hr.mono (by decide)) (by rfl) T.m__law_is_from T.F__law_is_from.kp T.B__law_is_from .nil Cn.nil (a_cons (dv 2) (a_cons d_int a_nil)))))))
  (ss_one (s_ret d_bl))
  ss_nil)
  (ss_one (s_ret (d_and (d_callB call_isi cd_isi (by rfl) T.b_isinstance (by decide +kernel) (b_cons (bv 2) (b_cons (bb (d_bltn (v := .ty "str") (by rfl) T.b_str (by decide +kernel) rfl)) b_nil))) (d_one (d_cmp op_in_seq (od_in false) (bv 2) (bb (d_call (ok__law_words T) (by exact hr.mono (by decide)) (by rfl) T.m__law_words T.F__law_words.kp T.B__law_words .nil Cn.nil (a_cons (dv 1) a_nil))) (by with_unfolding_all rfl)))))))))))), fun xs W Φ h => ?_⟩)
  · obtain ⟨k, i, rfl, _⟩ := h
    rfl
  · obtain ⟨k, i, rfl, h⟩ := h
    obtain ⟨⟨h0, h1⟩, hl, hb, h⟩ := h
    obtain ⟨f1, f2, f3, f4, f5⟩ := name_facts h0 h1
    have hx := hl _ f5
    show (match L2.atI k.ds i with | some d => _ | none => False)
    rw [(atI_kp k h0 h1).1]
    refine nxp ?_
    dsimp only [List.set]
    have in2 : ∀ {Ψ : Bool → WS → Prop} {x : Dv}, Ψ (decide (i = 5 ∨ i = 8)) W → (wB (wOp (rdIn false) (wVarB 1) (wBof (wTup (wCons (wC (Dv.int 5)) (wCons (wC (Dv.int 8)) wNil)))))) [some (.v (.d (.lst k.ds))), some (.v (.d (.int i))), some (.v (.d x))] W Ψ := fun {Ψ x} q => by
      refine ⟨nle rfl, rfl, rfl, ?_⟩
      show Ψ (inD (.int i) (([5, 8] : List Int).map Dv.int)) W
      rw [in_ints, show decide (i ∈ ([5, 8] : List Int)) = decide (i = 5 ∨ i = 8) by congr 1; simp]
      exact q
    have fin : ∀ x : Dv, anyX x → Φ (.d (.bl (oneOf x (wordsI i)))) W → (wAndV
                  (wCB (rcIsi K) (wConsB (wVarB 2) (wConsB (wBof (wC (Dv.raw (V.ty "str")))) wNilB)))
                  (wOp (rdIn false) (wVarB 2) (wBof (wCall wfWords [] (wCons (wVar 1) wNil))))) [some (.v (.d (.lst k.ds))), some (.v (.d (.int i))), some (.v (.d x))] W Φ := fun x hx q => by
      have all : ∀ ws : List Str, (ws.map Dv.str).all flD = true := fun ws => by
        rw [List.all_map]
        exact List.all_eq_true.mpr fun _ _ => rfl
      rcases hx with rfl | ⟨b, rfl⟩ | ⟨j, rfl⟩ | ⟨s, rfl⟩ | ⟨xs, rfl⟩ | ⟨xs, rfl⟩
      · exact ⟨_, _, false, rfl, trivial, .ty "str", kit_ty (by decide +kernel), q⟩
      · exact ⟨_, _, false, rfl, trivial, .ty "str", kit_ty (by decide +kernel), q⟩
      · exact ⟨_, _, false, rfl, trivial, .ty "str", kit_ty (by decide +kernel), q⟩
      · refine ⟨_, _, true, rfl, trivial, .ty "str", kit_ty (by decide +kernel), ?_⟩
        refine iteF (A := True) ?_
        refine ⟨i, rfl, rfl, all _, ?_⟩
        show Φ (.d (.bl (inD (.str s) ((wordsI i).map Dv.str)))) W
        rw [in_strs]
        exact q
      · exact ⟨_, _, false, rfl, trivial, .ty "str", kit_ty (by decide +kernel), q⟩
      · exact ⟨_, _, false, rfl, trivial, .ty "str", kit_ty (by decide +kernel), q⟩
    by_cases c0 : i = 0
    · refine sif_bt (b := decide (i = 0)) (decide_eq_true c0) (fun Ψ q => q) ?_
      refine ⟨_, 2, rfl, hx, ?_⟩
      have e : k.okAt (DL.nameAt i) = isFromD (k.at (DL.nameAt i)) 2 := by
        rw [c0, show DL.nameAt 0 = "begin" by kernel_rfl]
        unfold Kp.okAt okSet
        rw [if_neg (by decide +kernel), if_pos rfl]
      rw [← e]
      exact h
    refine sif_bf (b := decide (i = 0)) (decide_eq_false c0) (fun Ψ q => q) ?_
    by_cases c1 : i = 1
    · refine sif_bt (b := decide (i = 1)) (decide_eq_true c1) (fun Ψ q => q) ?_
      refine ⟨_, 1, rfl, hx, ?_⟩
      have en : DL.nameAt i = "freeze" := by rw [c1]; kernel_rfl
      have hbb := hb c1
      unfold Kp.okAt at hbb
      rw [if_neg (by decide +kernel)] at hbb
      unfold okSet at hbb
      rw [if_pos rfl, at_b] at hbb
      have e : k.okAt (DL.nameAt i) = (isFromD k.f 1 && ltD k.f k.b) := by
        rw [en]
        unfold Kp.okAt
        rw [if_pos rfl]
      rw [e] at h
      rw [en, at_f]
      cases ef : isFromD k.f 1 with
      | false =>
        rw [ef] at h
        exact h
      | true =>
        rw [ef] at h
        refine iteT ?_
        have h : Φ (.d (.bl (ltD k.f k.b))) W := h
        show rdI0 (fun i j => Dv.bl (decide (i < j))) k.f k.b W Φ
        cases e1 : k.f with
        | int f =>
          cases e2 : k.b with
          | int b => rw [e1, e2] at h; exact h
          | _ => rw [e2] at hbb; cases hbb
        | _ => rw [e1] at ef; cases ef
    refine sif_bf (b := decide (i = 1)) (decide_eq_false c1) (fun Ψ q => q) ?_
    have nf : DL.nameAt i ≠ "freeze" := by
      have : i = 0 ∨ i = 1 ∨ i = 2 ∨ i = 3 ∨ i = 4 ∨ i = 5 ∨ i = 6 ∨ i = 7 ∨ i = 8 ∨ i = 9 ∨ i = 10 := by omega
      rcases this with rfl | rfl | rfl | rfl | rfl | rfl | rfl | rfl | rfl | rfl | rfl <;> first | exact absurd rfl c1 | decide +kernel
    have nb : DL.nameAt i ≠ "begin" := by
      have : i = 0 ∨ i = 1 ∨ i = 2 ∨ i = 3 ∨ i = 4 ∨ i = 5 ∨ i = 6 ∨ i = 7 ∨ i = 8 ∨ i = 9 ∨ i = 10 := by omega
      rcases this with rfl | rfl | rfl | rfl | rfl | rfl | rfl | rfl | rfl | rfl | rfl <;> first | exact absurd rfl c0 | decide +kernel
    have e : k.okAt (DL.nameAt i) = okSet (DL.nameAt i) (k.at (DL.nameAt i)) := by
      unfold Kp.okAt
      rw [if_neg nf]
    rw [e] at h
    unfold okSet at h
    rw [if_neg nb] at h
    generalize k.at (DL.nameAt i) = x at h hx ⊢
    by_cases c2 : i = 2
    · refine sif_bt (b := decide (i = 2)) (decide_eq_true c2) (fun Ψ q => q) ?_
      rw [if_pos (f2.mp c2)] at h
      cases hx2 : isN x with
      | true =>
        rcases hx with rfl | ⟨b, rfl⟩ | ⟨j, rfl⟩ | ⟨s, rfl⟩ | ⟨xs, rfl⟩ | ⟨xs, rfl⟩
        · exact h
        all_goals cases hx2
      | false =>
        rw [hx2] at h
        have hx3 := hx
        rcases hx with rfl | ⟨b, rfl⟩ | ⟨j, rfl⟩ | ⟨s, rfl⟩ | ⟨xs, rfl⟩ | ⟨xs, rfl⟩
        · cases hx2
        all_goals exact ⟨_, 1, rfl, hx3, h⟩
    refine sif_bf (b := decide (i = 2)) (decide_eq_false c2) (fun Ψ q => q) ?_
    rw [if_neg (fun z => c2 (f2.mpr z))] at h
    by_cases c5 : i = 5 ∨ i = 8
    · refine sif_bt (b := decide (i = 5 ∨ i = 8)) (decide_eq_true c5) (fun Ψ q => in2 q) ?_
      rw [if_pos (f1.mp c5)] at h
      rcases hx with rfl | ⟨b, rfl⟩ | ⟨j, rfl⟩ | ⟨s, rfl⟩ | ⟨xs, rfl⟩ | ⟨xs, rfl⟩
      · exact h
      · cases b <;> exact h
      all_goals exact h
    refine sif_bf (b := decide (i = 5 ∨ i = 8)) (decide_eq_false c5) (fun Ψ q => in2 q) ?_
    rw [if_neg (fun z => c5 (f1.mpr z))] at h
    have f9 : 8 < i ↔ (DL.nameAt i = "marked" ∨ DL.nameAt i = "held") := by
      have : i = 0 ∨ i = 1 ∨ i = 2 ∨ i = 3 ∨ i = 4 ∨ i = 5 ∨ i = 6 ∨ i = 7 ∨ i = 8 ∨ i = 9 ∨ i = 10 := by omega
      rcases this with rfl | rfl | rfl | rfl | rfl | rfl | rfl | rfl | rfl | rfl | rfl <;> decide +kernel
    have tst : ∀ {Ψ : Bool → WS → Prop}, Ψ (decide (8 < i) && isFromD x 1) W → (wAnd (wB (wOp (rdI0 fun i j => Dv.bl (decide (j < i))) (wVarB 1) (wBof (wC (Dv.int 8)))))
                  (wB (wCall wfIsFromL [] (wCons (wVar 2) (wCons (wC (Dv.int 1)) wNil))))) [some (.v (.d (.lst k.ds))), some (.v (.d (.int i))), some (.v (.d x))] W Ψ := fun {Ψ} q => by
      show (if decide (8 < i) = true then _ else Ψ false W)
      refine ite_d (fun z => ?_) (fun z => ?_)
      · rw [decide_eq_true z, Bool.true_and] at q
        exact ⟨_, 1, rfl, hx, q⟩
      · rw [decide_eq_false z, Bool.false_and] at q
        exact q
    by_cases c9 : (DL.nameAt i = "marked" ∨ DL.nameAt i = "held") ∧ isFromD x 1 = true
    · rw [if_pos c9] at h
      exact sif_bt (b := decide (8 < i) && isFromD x 1) (by rw [decide_eq_true (f9.mpr c9.1), c9.2]; rfl) (fun Ψ q => tst q) h
    · rw [if_neg c9] at h
      refine sif_bf (b := decide (8 < i) && isFromD x 1) ?_ (fun Ψ q => tst q) ?_
      · cases e8 : decide (8 < i) with
        | false => rfl
        | true =>
          cases e9 : isFromD x 1 with
          | false => rfl
          | true => exact absurd ⟨f9.mp (of_decide_eq_true e8), e9⟩ c9
      · rw [← f4] at h
        exact fin x hx h
theorem ok__law_first_wrong (T : TT w K mg) : FnOk P w K mg base CX0 4 T.f__law_first_wrong T.fd__law_first_wrong ["_law_v"] (spD K wfWrongL) := by
  refine okD T.F__law_first_wrong sc__law_first_wrong (fun xs W Φ h => ?_) (fun cdv A outer s H E hr => ⟨_, _, (ss_cons (s_for PassesOwn.never rfl (i_R1 (by rfl) T.b_range (b_cons (bb d_int) b_nil)) (g_name (i := 1) sc__law_first_wrong.nd rfl (by first | exact Or.inl rfl | exact Or.inr rfl))
  (ss_one (s_if (t_not (t_val (d_call (ok__law_is_fine T) (by exact hr.mono (by decide)) (by rfl) T.m__law_is_fine T.F__law_is_fine.kp T.B__law_is_fine .nil Cn.nil (a_cons (dv 0) (a_cons (dv 1) a_nil)))))
  (ss_one (s_ret (d_ix ix_list od_ixL (bb (d_call0 (ok__law_names T) (by exact hr.mono (by decide)) (by rfl) T.m__law_names T.F__law_names.kp T.B__law_names .nil Cn.nil)) (bv 1) (fun _ _ => rfl))))
  ss_nil)))
  (ss_one (s_ret d_non))), fun xs W Φ h => ?_⟩)
  · obtain ⟨k, rfl, _⟩ := h
    rfl
  · obtain ⟨k, rfl, h⟩ := h
    obtain ⟨hl, h⟩ := h
    refine ⟨by decide, ?_⟩
    have hx11 : ∀ m : Nat, m < 11 → ((rangeD 0 (Int.toNat 11)).map Sv.d).drop m = .d (.int (m : Nat)) :: ((rangeD 0 (Int.toNat 11)).map Sv.d).drop (m + 1) := fun m hm => by
      have : m = 0 ∨ m = 1 ∨ m = 2 ∨ m = 3 ∨ m = 4 ∨ m = 5 ∨ m = 6 ∨ m = 7 ∨ m = 8 ∨ m = 9 ∨ m = 10 := by omega
      rcases this with rfl | rfl | rfl | rfl | rfl | rfl | rfl | rfl | rfl | rfl | rfl <;> rfl
    refine loop_g (fun xs σ W2 => W2 = W ∧ ∃ (m : Nat) (o : Option Sl), xs = ((rangeD 0 (Int.toNat 11)).map Sv.d).drop m ∧ m ≤ 11 ∧ (1 ≤ m → k.okAt "begin" = true) ∧ (KN.drop m).find? (fun n => !k.okAt n) = k.wrong ∧ σ = [some (.v (.d (.lst k.ds))), o])
      ⟨rfl, 0, none, rfl, by omega, fun z => absurd z (by decide), rfl, rfl⟩ ?_ ?_
    · rintro σ W2 ⟨rfl, m, o, e, hm, _, hw, rfl⟩
      have hm11 : m = 11 := by
        rcases Nat.lt_or_ge m 11 with q | q
        · rw [hx11 m q] at e
          cases e
        · omega
      subst hm11
      have hw : none = k.wrong := hw
      unfold wrongD at h
      rw [← hw] at h
      exact h
    rintro x xs σ W2 D ⟨rfl, m, o, e, hm, hst, hw, rfl⟩ hrt - hD -
    have q : m < 11 := by
      rcases Nat.lt_or_ge m 11 with q | q
      · exact q
      · have : m = 11 := by omega
        subst this
        cases e
    rw [hx11 m q] at e
    cases e
    refine ⟨_, rfl, ?_⟩
    have en := KN_at m q
    obtain ⟨f1, f2, f3, f4, f5⟩ := name_facts (i := (m : Nat)) (by omega) (by omega)
    have ed : KN.drop m = DL.nameAt ((m : Nat) : Int) :: KN.drop (m + 1) := by
      have hl' : m < KN.length := q
      rw [List.drop_eq_getElem_cons hl']
      congr 1
      rw [List.getElem?_eq_getElem hl'] at en
      exact Option.some.inj en
    rw [ed, List.find?_cons] at hw
    cases ok : k.okAt (DL.nameAt ((m : Nat) : Int)) with
    | true =>
      rw [ok] at hw
      refine lif_f (fun Ψ hΨ => ?_) ?_
      · refine ⟨k, _, rfl, ⟨by omega, by omega⟩, hl, fun z => hst (by omega), ?_⟩
        rw [ok]
        exact hΨ
      · refine hD _ _ ⟨rfl, m + 1, _, rfl, by omega, fun _ => ?_, hw, rfl⟩
        by_cases z : m = 0
        · subst z
          rw [show DL.nameAt ((0 : Nat) : Int) = "begin" by kernel_rfl] at ok
          exact ok
        · exact hst (by omega)
    | false =>
      rw [ok] at hw
      refine ⟨k, _, rfl, ⟨by omega, by omega⟩, hl, fun z => hst (by omega), ?_⟩
      rw [ok]
      refine iteT (B := True) ?_
      refine ⟨rfl, ?_⟩
      show (match L2.atI (KN.map Dv.str) ((m : Nat) : Int) with | some d => _ | none => False)
      rw [atI_strs en]
      have hw : some (DL.nameAt ((m : Nat) : Int)) = k.wrong := hw
      unfold wrongD at h
      rw [← hw] at h
      show D.rt _ _
      rw [hrt]
      exact h
theorem okx__law_made (T : TT w K mg) : FnOk P w K mg base (L2.CX P w) 7 T.f__law_made T.fd__law_made ["_law_v"] (spX K (wfMadeX K T.c_Keeper T.c_InvalidKeeper)) := by
  refine okX T.F__law_made sc__law_made (fun xs W Φ ΦX h => ?_) (fun cdv A outer s H E hr => ⟨_, _, (ssX_one (sX_ret (dX_makeK (K := K) rfl T.mk_Keeper (okx_Keeper___init__ T) (by exact hr.mono (by decide)) (by rfl) T.m_Keeper T.B_Keeper___init__ .nil Cn.nil (a_cons (d_ix ix_list od_ixL (bv 0) (bb d_int) (fun _ _ => rfl)) (a_cons (d_ix ix_list od_ixL (bv 0) (bb d_int) (fun _ _ => rfl)) (a_cons (d_ix ix_list od_ixL (bv 0) (bb d_int) (fun _ _ => rfl)) (a_cons (d_ix ix_list od_ixL (bv 0) (bb d_int) (fun _ _ => rfl)) (a_cons (d_ix ix_list od_ixL (bv 0) (bb d_int) (fun _ _ => rfl)) (a_cons (d_ix ix_list od_ixL (bv 0) (bb d_int) (fun _ _ => rfl)) (a_cons (d_ix ix_list od_ixL (bv 0) (bb d_int) (fun _ _ => rfl)) (a_cons (d_ix ix_list od_ixL (bv 0) (bb d_int) (fun _ _ => rfl)) (a_cons (d_ix ix_list od_ixL (bv 0) (bb d_int) (fun _ _ => rfl)) (a_cons (d_ix ix_list od_ixL (bv 0) (bb d_int) (fun _ _ => rfl)) (a_cons (d_ix ix_list od_ixL (bv 0) (bb d_int) (fun _ _ => rfl)) a_nil)))))))))))))), fun xs W Φ ΦX h => ?_⟩)
  · obtain ⟨k, rfl, _⟩ := h
    rfl
  · obtain ⟨k, rfl, hk, h⟩ := h
    refine ⟨W, k, rfl, rfl, hk, ?_⟩
    cases hw : k.wrong with
    | some n =>
      rw [hw] at h
      exact ⟨⟨_, rfl⟩, h⟩
    | none =>
      rw [hw] at h
      exact ⟨rfl, KN, k.ds, rfl, h⟩
theorem okn__law_made (T : TT w K mg) : FnOk P w K mg base CX0 7 T.f__law_made T.fd__law_made ["_law_v"] (spD K (wfLawMade K T.c_Keeper)) := by
  refine noX (okx__law_made T) fun xs W Φ ⟨k, e1, ha, hw, q⟩ => ⟨k, e1, ha, ?_⟩
  rw [hw]
  exact q
theorem okx__law_but (T : TT w K mg) : FnOk P w K mg base (L2.CX P w) 8 T.f__law_but T.fd__law_but ["_law_made_here", "_law_spot", "_law_thing_here"] (spX K (wfLawButX K T.c_Keeper T.c_InvalidKeeper)) := by
  refine okX T.F__law_but sc__law_but (fun xs W Φ ΦX h => ?_) (fun cdv A outer s H E hr => ⟨_, _, (ssX_cons (sX_if (t_cmp op_lt o_lt (bv 1) (bb d_int) (nomark _))
  (ssX_cons (sX_if (t_cmp op_eq od_eq (bv 1) (bb d_int) (nomark _))
  (ssX_one (sX_ret (dX_methKW (ks := ["begin"]) (dv 0) T.cl_Keeper T.mt_Keeper_but (okx_Keeper_but T) (by exact hr.mono (by decide)) (by decide +kernel) (k_cons (dv 2) k_nil))))
  ssX_nil)
  (ssX_one (sX_ret (dX_if (t_cmp op_eq od_eq (bv 1) (bb d_int) (nomark _)) (dX_methKW (ks := ["freeze"]) (dv 0) T.cl_Keeper T.mt_Keeper_but (okx_Keeper_but T) (by exact hr.mono (by decide)) (by decide +kernel) (k_cons (dv 2) k_nil)) (dX_methKW (ks := ["stop"]) (dv 0) T.cl_Keeper T.mt_Keeper_but (okx_Keeper_but T) (by exact hr.mono (by decide)) (by decide +kernel) (k_cons (dv 2) k_nil))))))
  ssX_nil)
  (ssX_cons (sX_if (t_cmp op_lt o_lt (bv 1) (bb d_int) (nomark _))
  (ssX_cons (sX_if (t_cmp op_eq od_eq (bv 1) (bb d_int) (nomark _))
  (ssX_one (sX_ret (dX_methKW (ks := ["counts"]) (dv 0) T.cl_Keeper T.mt_Keeper_but (okx_Keeper_but T) (by exact hr.mono (by decide)) (by decide +kernel) (k_cons (dv 2) k_nil))))
  ssX_nil)
  (ssX_one (sX_ret (dX_if (t_cmp op_eq od_eq (bv 1) (bb d_int) (nomark _)) (dX_methKW (ks := ["marks"]) (dv 0) T.cl_Keeper T.mt_Keeper_but (okx_Keeper_but T) (by exact hr.mono (by decide)) (by decide +kernel) (k_cons (dv 2) k_nil)) (dX_methKW (ks := ["clears"]) (dv 0) T.cl_Keeper T.mt_Keeper_but (okx_Keeper_but T) (by exact hr.mono (by decide)) (by decide +kernel) (k_cons (dv 2) k_nil))))))
  ssX_nil)
  (ssX_cons (sX_if (t_cmp op_lt o_lt (bv 1) (bb d_int) (nomark _))
  (ssX_cons (sX_if (t_cmp op_eq od_eq (bv 1) (bb d_int) (nomark _))
  (ssX_one (sX_ret (dX_methKW (ks := ["moves"]) (dv 0) T.cl_Keeper T.mt_Keeper_but (okx_Keeper_but T) (by exact hr.mono (by decide)) (by decide +kernel) (k_cons (dv 2) k_nil))))
  ssX_nil)
  (ssX_one (sX_ret (dX_if (t_cmp op_eq od_eq (bv 1) (bb d_int) (nomark _)) (dX_methKW (ks := ["cut"]) (dv 0) T.cl_Keeper T.mt_Keeper_but (okx_Keeper_but T) (by exact hr.mono (by decide)) (by decide +kernel) (k_cons (dv 2) k_nil)) (dX_methKW (ks := ["needs"]) (dv 0) T.cl_Keeper T.mt_Keeper_but (okx_Keeper_but T) (by exact hr.mono (by decide)) (by decide +kernel) (k_cons (dv 2) k_nil))))))
  ssX_nil)
  (ssX_one (sX_ret (dX_if (t_cmp op_eq od_eq (bv 1) (bb d_int) (nomark _)) (dX_methKW (ks := ["marked"]) (dv 0) T.cl_Keeper T.mt_Keeper_but (okx_Keeper_but T) (by exact hr.mono (by decide)) (by decide +kernel) (k_cons (dv 2) k_nil)) (dX_methKW (ks := ["held"]) (dv 0) T.cl_Keeper T.mt_Keeper_but (okx_Keeper_but T) (by exact hr.mono (by decide)) (by decide +kernel) (k_cons (dv 2) k_nil)))))))), fun xs W Φ ΦX h => ?_⟩)
  · obtain ⟨k, i, x, rfl, _⟩ := h
    rfl
  · obtain ⟨k, i, x, rfl, hi, hk, h⟩ := h
    have bk : ("but" : Str) ∉ KN := by decide +kernel
    have go : ∀ n : Str, n ∈ KN → [n] ∈ OKS → nameAt i = n → (wMethKW T.c_Keeper "but" (wfButX K T.c_Keeper T.c_InvalidKeeper) [n] (wVar 0) (wCons (wVar 2) wNil) fun C ks ds _ W => ΦX C ks ds W) [some (.v (.d (keepD T.c_Keeper k))), some (.v (.d (.int i))), some (.v (.d x))] W Φ := fun n hn _ e => by
      subst e
      refine ⟨rfl, bk, rfl, ?_⟩
      exact ⟨k, k.put (nameAt i) x, _, _, rfl, ⟨put_kk hn, put_ds k hn x, nle rfl⟩, hk, h⟩
    have : i = 0 ∨ i = 1 ∨ i = 2 ∨ i = 3 ∨ i = 4 ∨ i = 5 ∨ i = 6 ∨ i = 7 ∨ i = 8 ∨ i = 9 ∨ i = 10 := by omega
    rcases this with rfl | rfl | rfl | rfl | rfl | rfl | rfl | rfl | rfl | rfl | rfl
    · exact go "begin" (by decide +kernel) (by decide +kernel) (by kernel_rfl)
    · exact go "freeze" (by decide +kernel) (by decide +kernel) (by kernel_rfl)
    · exact go "stop" (by decide +kernel) (by decide +kernel) (by kernel_rfl)
    · exact go "counts" (by decide +kernel) (by decide +kernel) (by kernel_rfl)
    · exact go "marks" (by decide +kernel) (by decide +kernel) (by kernel_rfl)
    · exact go "clears" (by decide +kernel) (by decide +kernel) (by kernel_rfl)
    · exact go "moves" (by decide +kernel) (by decide +kernel) (by kernel_rfl)
    · exact go "cut" (by decide +kernel) (by decide +kernel) (by kernel_rfl)
    · exact go "needs" (by decide +kernel) (by decide +kernel) (by kernel_rfl)
    · exact go "marked" (by decide +kernel) (by decide +kernel) (by kernel_rfl)
    · exact go "held" (by decide +kernel) (by decide +kernel) (by kernel_rfl)
theorem got__law_heard (T : TT w K mg) {A : Around} {stack : List Env} (q : Str) : GotD K q (TGot P w K mg base A stack ["_law_work", "_law_found", "e", "_law_is_it"] "_law_heard" (defScope s__law_heard) T.f__law_heard T.fd__law_heard.code (defBody s__law_heard) "_law_work" q) (wfHeard T.c_InvalidKeeper) := by
  intro f c' z0 As0 H0 W tl wl Φ Q hl w0 hc hn h n s act
  have hw : PDSsXb (cxOf C8.CX0 P w K mg base ["_law_work", "_law_found", "e", "_law_is_it"] "_law_heard" (defScope s__law_heard) T.f__law_heard T.fd__law_heard.code A stack s H0 C8.E0).nox z0 As0 H0 (defBody s__law_heard) _ _ := (ssb_cons (sb (sX (s_set (i := 1) sc__law_heard.nd rfl (by first | exact Or.inl rfl | exact Or.inr rfl) d_non)))
  (ssb_cons (sb_try (i := 2) rfl rfl sc__law_heard.nd rfl rfl (by rfl) T.m_FrostError takes0 (fun pn xe => ssb_one (sb_expr ⟨fun Wx tk => act Wx pn xe _ _ tk, act_ok hl hc hn⟩))
  (fun a oe cls d pn hz hf => (ss_cons (s_set (i := 3) sc__law_heard.nd rfl (by first | exact Or.inl rfl | exact Or.inr rfl) (d_and (d_isX hz hf (by rfl) T.b_isinstance (b_cons (bv 2) (b_cons (bb (d_glob (v := .ref _) rfl T.m_InvalidKeeper rfl fun _ _ => .raw _)) b_nil))) (d_one (d_not (d_isX hz hf (by rfl) T.b_isinstance (b_cons (bv 2) (b_cons (bb (d_glob (v := .ref _) rfl T.m_InvalidLoad rfl fun _ _ => .raw _)) b_nil)))))))
  (ss_one (s_set (i := 1) sc__law_heard.nd rfl (by first | exact Or.inl rfl | exact Or.inr rfl) (d_if (t_val (dv 3)) (d_xf hz hf (dv 2)) d_str))))))
  (ssb_one (sb (sX (s_ret (dv 1)))))))
  refine got_fin hw w0 n ?_
  clear hw act hl w0 n
  refine ⟨rfl, (fun _ W' => Φ (.d .non) W'), (fun C ks ds W' => ∃ n, C = T.c_InvalidKeeper ∧ ks = (["word"] : List Str) ∧ ds = [.str n] ∧ Φ (.d (.str n)) W'), h, fun x W' q => q, fun C ks ds W' q => ?_⟩
  obtain ⟨n, rfl, rfl, rfl, q⟩ := q
  refine ⟨T.xm_InvalidKeeper, fun a d hd => ?_⟩
  have hd : d ≠ none := fun z => by cases hd z
  refine ⟨rfl, rfl, rfl, T.xc_InvalidKeeper, _, true, .own _, T.kx_InvalidKeeper_InvalidKeeper, ?_⟩
  refine iteT ?_
  refine ⟨rfl, rfl, rfl, T.xc_InvalidKeeper, _, false, .own _, T.kx_InvalidKeeper_InvalidLoad, ?_⟩
  refine nxp ?_
  refine iteT ?_
  refine ⟨rfl, rfl, rfl, hd, T.xf_InvalidKeeper, T.nf_InvalidKeeper, .str n, rfl, ?_⟩
  exact q
abbrev lamC (K : PySem.W.Frag) : Addr := (He.cT K ("law", none)).1
abbrev lamP (K : PySem.W.Frag) : Addr := (He.cT K ("law", none)).2
abbrev lamQ : Str := ("law" ++ ".<locals>.") ++ "<lambda>"
abbrev lamT (K : PySem.W.Frag) : List LT := [(lamC K, lamP K, lamQ)]
noncomputable def walkL (T : TT w K mg) (A : Around) (outer : List Env) (s : Shared) (H : Hp) (E : XK) (hr : Room 13 (A.deeper (PyProof.Rows.envOfC "law" (defScope s_law) s.heap.objs.size T.f_law T.fd_law.code))) (hG : A.guards = some []) (hB : LamX.TabB base mg (lamC K) (lamP K)) (hcode : T.fd_law.code = .ref (lamC K)) : WalkS (cxOf CX0 P w K mg base ["_law_script", "_law_turn", "_law_deal_here", "_law_again", "_law_v", "_law_spin", "_law_due", "_law_spot", "_law_led", "_law_made_here", "_law_bent", "_law_some"] "law" (defScope s_law) T.f_law T.fd_law.code A outer s H E).nox (defBody s_law) := ⟨_, _, (ss_cons (s_for PassesOwn.never rfl (i_R1 (by rfl) T.b_range (b_cons (bb (d_callB (call_max2 rfl) cd_max2 (by rfl) T.b_max (by decide +kernel) (b_cons (bb d_int) (b_cons (bb (d_callB (call_min2 rfl) cd_min2 (by rfl) T.b_min (by decide +kernel) (b_cons (bb d_int) (b_cons (bb (d_callB call_len cd_len (by rfl) T.b_len (by decide +kernel) (b_cons (bv 0) b_nil))) b_nil)))) b_nil)))) b_nil)) (g_name (i := 1) sc_law.nd rfl (by first | exact Or.inl rfl | exact Or.inr rfl))
  (ss_cons (s_set (i := 2) sc_law.nd rfl (by first | exact Or.inl rfl | exact Or.inr rfl) (d_call (ok__law_deal T) (by exact hr.mono (by decide)) (by rfl) T.m__law_deal T.F__law_deal.kp T.B__law_deal .nil Cn.nil (a_cons (dv 0) (a_cons (dv 1) a_nil))))
  (ss_one (s_for PassesOwn.never rfl (i_R1 (by rfl) T.b_range (b_cons (bb d_int) b_nil)) (g_name (i := 3) sc_law.nd rfl (by first | exact Or.inl rfl | exact Or.inr rfl))
  (ss_cons (s_set (i := 4) sc_law.nd rfl (by first | exact Or.inl rfl | exact Or.inr rfl) (d_call (ok__law_settings T) (by exact hr.mono (by decide)) (by rfl) T.m__law_settings T.F__law_settings.kp T.B__law_settings .nil Cn.nil (a_cons (dv 2) (a_cons (d_fr (f_lst (a_cons d_int (a_cons d_int (a_cons d_int a_nil))))) a_nil))))
  (ss_cons (s_asgEF 9 10 (pg_tup rfl (pgs_cons (pg_name (i := 9) sc_law.nd rfl (by first | exact Or.inl rfl | exact Or.inr rfl)) (pgs_cons (pg_name (i := 10) sc_law.nd rfl (by first | exact Or.inl rfl | exact Or.inr rfl)) pgs_nil))) (d_call (okn__law_made T) (by exact hr.mono (by decide)) (by rfl) T.m__law_made T.F__law_made.kp T.B__law_made .nil Cn.nil (a_cons (dv 4) a_nil)) (f_callTy call_list_of cf_list (by rfl) T.b_list (by decide +kernel) (b_cons (bv 4) b_nil)))
  (ss_cons (s_for PassesOwn.never rfl (i_R1 (by rfl) T.b_range (b_cons (bb (d_op op_add o_add (bb d_int) (bb (d_call (ok__law_draw T) (by exact hr.mono (by decide)) (by rfl) T.m__law_draw T.F__law_draw.kp T.B__law_draw .nil Cn.nil (a_cons (dv 2) (a_cons d_int a_nil)))))) b_nil)) (g_name (i := 5) sc_law.nd rfl (by first | exact Or.inl rfl | exact Or.inr rfl))
  (ss_cons (s_set (i := 7) sc_law.nd rfl (by first | exact Or.inl rfl | exact Or.inr rfl) (d_call (ok__law_draw T) (by exact hr.mono (by decide)) (by rfl) T.m__law_draw T.F__law_draw.kp T.B__law_draw .nil Cn.nil (a_cons (dv 2) (a_cons d_int a_nil))))
  (ss_cons (s_set (i := 11) sc_law.nd rfl (by first | exact Or.inl rfl | exact Or.inr rfl) (d_fr (f_lst (a_cons d_int (a_cons d_int (a_cons d_bl (a_cons d_non (a_cons d_str (a_cons d_str (a_cons d_str (a_cons (d_ix ix_list od_ixL (bv 4) (bb d_int) (fun _ _ => rfl)) (a_cons (d_op op_add o_add (bb (d_ix ix_list od_ixL (bv 4) (bb d_int) (fun _ _ => rfl))) (bb d_int)) (a_cons d_str (a_cons d_str a_nil))))))))))))))
  (ss_one (s_setO 10 (pv 10) (bv 7) (d_call (ok__law_pick T) (by exact hr.mono (by decide)) (by rfl) T.m__law_pick T.F__law_pick.kp T.B__law_pick .nil Cn.nil (a_cons (dv 2) (a_cons (d_fr (f_cat (bv 11) (bb (d_fr (f_lst (a_cons (d_call (ok__law_thing T) (by exact hr.mono (by decide)) (by rfl) T.m__law_thing T.F__law_thing.kp T.B__law_thing .nil Cn.nil (a_cons (dv 2) (a_cons d_int a_nil))) a_nil)))))) a_nil))))))))
  (ss_cons (s_freeze 10 (s_set (i := 6) sc_law.nd rfl (by first | exact Or.inl rfl | exact Or.inr rfl) (d_call (ok__law_first_wrong T) (by exact hr.mono (by decide)) (by rfl) T.m__law_first_wrong T.F__law_first_wrong.kp T.B__law_first_wrong .nil Cn.nil (a_cons (dv 10) a_nil))))
  (ss_cons (s_if (t_cmp op_ne od_ne (bb (d_lamC (K := K) (j := 0) (k := 9) rfl T.F__law_heard T.B__law_heard (by rfl) T.m__law_heard sc__law_heard rfl (.inl rfl) (got__law_heard T _) hB hcode (by exact hr.mono (by decide)) (lamSc_by (by kernel_rfl)) rfl (fun _ _ _ _ _ us e => match us, e with | [], _ => rfl) (fun A outer s H E f c' hr => (dX_callK (K := K) rfl (okx__law_made T) (by exact hr.mono (by decide)) (by rfl) T.m__law_made T.F__law_made.kp T.B__law_made (a_cons (dv 10) a_nil))))) (bv 6) (nomark _))
  (ss_one (s_ret d_bl))
  ss_nil)
  (ss_cons (s_set (i := 7) sc_law.nd rfl (by first | exact Or.inl rfl | exact Or.inr rfl) (d_call (ok__law_draw T) (by exact hr.mono (by decide)) (by rfl) T.m__law_draw T.F__law_draw.kp T.B__law_draw .nil Cn.nil (a_cons (dv 2) (a_cons d_int a_nil))))
  (ss_cons (s_set (i := 8) sc_law.nd rfl (by first | exact Or.inl rfl | exact Or.inr rfl) (d_fr (f_cat (bb (d_fr (f_cat (bb (d_fr (f_sl (bv 4) o_none (o_some (bv 7))))) (bb (d_fr (f_lst (a_cons (d_ix ix_list od_ixL (bv 10) (bv 7) (fun _ _ => rfl)) a_nil))))))) (bb (d_fr (f_sl (bv 4) (o_some (bb (d_op op_add o_add (bv 7) (bb d_int)))) o_none))))))
  (ss_cons (s_if (t_cmp op_ne od_ne (bb (d_lamC (K := K) (j := 0) (k := 9) rfl T.F__law_heard T.B__law_heard (by rfl) T.m__law_heard sc__law_heard rfl (.inl rfl) (got__law_heard T _) hB hcode (by exact hr.mono (by decide)) (lamSc_by (by kernel_rfl)) rfl (fun _ _ _ _ _ us e => match us, e with | [], _ => rfl) (fun A outer s H E f c' hr => (dX_callK (K := K) rfl (okx__law_but T) (by exact hr.mono (by decide)) (by rfl) T.m__law_but T.F__law_but.kp T.B__law_but (a_cons (dv 9) (a_cons (dv 7) (a_cons (d_ixLK (K := K) rfl (bv 10) (bv 7) (fun _ _ => rfl)) a_nil))))))) (bb (d_call (ok__law_first_wrong T) (by exact hr.mono (by decide)) (by rfl) T.m__law_first_wrong T.F__law_first_wrong.kp T.B__law_first_wrong .nil Cn.nil (a_cons (dv 8) a_nil))) (nomark _))
  (ss_one (s_ret d_bl))
  ss_nil)
  (ss_one (s_if (t_cmp op_ne od_ne (bb (d_repr hG hr (by rfl) T.b_repr (b_cons (bb (d_call (ok__law_kept T) (by exact hr.mono (by decide)) (by rfl) T.m__law_kept T.F__law_kept.kp T.B__law_kept .nil Cn.nil (a_cons (dv 9) a_nil))) b_nil))) (bb (d_repr hG hr (by rfl) T.b_repr (b_cons (bv 4) b_nil))) (nomark _))
  (ss_one (s_ret d_bl))
  ss_nil))))))))))))))
  (ss_one (s_ret (d_cmp op_eq od_eq (bb (d_lamC (K := K) (j := 0) (k := 9) rfl T.F__law_heard T.B__law_heard (by rfl) T.m__law_heard sc__law_heard rfl (.inl rfl) (got__law_heard T _) hB hcode (by exact hr.mono (by decide)) (lamSc_by (by kernel_rfl)) rfl (fun _ _ _ _ _ us e => match us, e with | [], _ => rfl) (fun A outer s H E f c' hr => (dX_makeKD (K := K) rfl T.mk_Keeper (okx_Keeper___init__ T) (by exact hr.mono (by decide)) (by rfl) T.m_Keeper T.BD3_Keeper___init__ TT.cn_Keeper___init___3 (a_cons d_non (a_cons d_non (a_cons d_int a_nil))))))) (bb d_str) (nomark _)))))⟩
abbrev OV (o : Option Sv) : Option Sl := o.map Sl.v
theorem no_v (o : Option Sv) {r : DS} (h : noOwn r = true) : noOwn (OV o :: r) = true := by
  unfold noOwn at h ⊢
  rw [List.all_cons, h]
  cases o <;> rfl
theorem no_s (x : Sv) {r : DS} (h : noOwn r = true) : noOwn (some (.v x) :: r) = true := by
  unfold noOwn at h ⊢
  rw [List.all_cons, h]
  rfl
theorem no_nil : noOwn [] = true := rfl
theorem any_all {k : Kp} (h : ∀ x, x ∈ k.ds → anyX x) : k.allOk K := fun n hn => any_ok (h _ ((mem_at k _).mpr ⟨n, hn, rfl⟩))
theorem any_at {k : Kp} (h : ∀ x, x ∈ k.ds → anyX x) : ∀ n, n ∈ KN → anyX (k.at n) := fun n hn => h _ ((mem_at k _).mpr ⟨n, hn, rfl⟩)
theorem any_lim {x : Dv} (h : DL.limD x) : anyX x := by
  rcases h with rfl | ⟨b, rfl⟩ | ⟨i, rfl, _⟩ | ⟨s, rfl, _⟩
  · exact .inl rfl
  · exact .inr (.inl ⟨_, rfl⟩)
  · exact .inr (.inr (.inl ⟨_, rfl⟩))
  · exact .inr (.inr (.inr (.inl ⟨_, rfl⟩)))
theorem any_base {d : Dv} (h : d ∈ thgBase) : anyX d := by
  simp only [thgBase, List.mem_cons, List.not_mem_nil, or_false] at h
  rcases h with rfl | rfl | rfl | rfl | rfl | rfl | rfl | rfl | rfl | rfl | rfl | rfl | rfl | rfl <;> first | exact .inl rfl | exact .inr (.inl ⟨_, rfl⟩) | exact .inr (.inr (.inl ⟨_, rfl⟩)) | exact .inr (.inr (.inr (.inl ⟨_, rfl⟩))) | exact .inr (.inr (.inr (.inr (.inl ⟨_, rfl⟩)))) | exact .inr (.inr (.inr (.inr (.inr ⟨_, rfl⟩))))
theorem any_thg {n : Nat} {d : Dv} (h : Thg n d) : anyX d := by
  cases h with
  | base h => exact any_base h
  | lst _ _ => exact .inr (.inr (.inr (.inr (.inr ⟨_, rfl⟩))))
  | tup _ _ => exact .inr (.inr (.inr (.inr (.inl ⟨_, rfl⟩))))
theorem set_put (k : Kp) {i : Int} (h0 : 0 ≤ i) (h1 : i < 11) (x : Dv) : k.ds.set i.toNat x = (k.put (DL.nameAt i) x).ds := by
  have : i = 0 ∨ i = 1 ∨ i = 2 ∨ i = 3 ∨ i = 4 ∨ i = 5 ∨ i = 6 ∨ i = 7 ∨ i = 8 ∨ i = 9 ∨ i = 10 := by omega
  rcases this with rfl | rfl | rfl | rfl | rfl | rfl | rfl | rfl | rfl | rfl | rfl <;> kernel_rfl
theorem cut_put (k : Kp) {i : Int} (h0 : 0 ≤ i) (h1 : i < 11) (x : Dv) : (cutD k.ds none (some i) ++ [x]) ++ cutD k.ds (some (i + 1)) none = (k.put (DL.nameAt i) x).ds := by
  have : i = 0 ∨ i = 1 ∨ i = 2 ∨ i = 3 ∨ i = 4 ∨ i = 5 ∨ i = 6 ∨ i = 7 ∨ i = 8 ∨ i = 9 ∨ i = 10 := by omega
  rcases this with rfl | rfl | rfl | rfl | rfl | rfl | rfl | rfl | rfl | rfl | rfl <;> kernel_rfl
theorem put_any {k : Kp} (h : ∀ x, x ∈ k.ds → anyX x) {i : Int} (h0 : 0 ≤ i) (h1 : i < 11) {x : Dv} (hx : anyX x) : ∀ y, y ∈ (k.put (DL.nameAt i) x).ds → anyX y := by
  rw [← set_put k h0 h1 x]
  intro y hy
  rcases List.mem_or_eq_of_mem_set hy with q | rfl
  · exact h y q
  · exact hx
/-- a lambda that makes a keeper, heard -/
theorem heard_made {E C : Addr} {k : Kp} {W : WS} {Φ : Sv → WS → Prop} {wl : WLm} (hl : ∀ Φ ΦX, wfMadeX K C E [.d (.lst k.ds)] W Φ ΦX → wl none W Φ ΦX) (hk : k.allOk K) (h : Φ (.d (wrongD k)) W) : wfHeard E wl W Φ := by
  unfold wfHeard
  refine hl _ _ ⟨k, rfl, hk, ?_⟩
  unfold wrongD at h
  cases hw : k.wrong with
  | none => rw [hw] at h; exact h
  | some n => rw [hw] at h; exact ⟨n, rfl, rfl, rfl, h⟩
theorem heard_but {E C : Addr} {k : Kp} {i : Int} {x : Dv} {W : WS} {Φ : Sv → WS → Prop} {wl : WLm} (hl : ∀ Φ ΦX, wfLawButX K C E [.d (keepD C k), .d (.int i), .d x] W Φ ΦX → wl none W Φ ΦX) (hi : 0 ≤ i ∧ i < 11) (hk : (k.put (DL.nameAt i) x).allOk K) (h : Φ (.d (wrongD (k.put (DL.nameAt i) x))) W) : wfHeard E wl W Φ := by
  unfold wfHeard
  refine hl _ _ ⟨k, i, x, rfl, hi, hk, ?_⟩
  unfold wrongD at h
  cases hw : (k.put (DL.nameAt i) x).wrong with
  | none => rw [hw] at h; exact h
  | some n => rw [hw] at h; exact ⟨n, rfl, rfl, rfl, h⟩
theorem wrong_eq {k : Kp} {W : WS} {Φ : Bool → WS → Prop} (h : Φ false W) : rdEq not (wrongD k) (wrongD k) W fun x W' => match x with
  | .d (.bl b) => Φ b W'
  | _ => False := by
  unfold wrongD
  cases k.wrong with
  | none => exact h
  | some n =>
    show Φ (!decide (n = n)) W
    rw [decide_eq_true rfl]
    exact h
theorem frzS {i : Nat} {v rest : WSt} {Dd : DEnds} {σ : DS} {W : WS} {xs : List Dv} (h : slot σ i = some (.own xs)) (q : v { Dd with nx := rest Dd } (σ.set i (some (.v (.d (.lst xs))))) W) : wSeq (wFreeze i v) rest Dd σ W := frz h q
theorem ok_law (T : TT w K mg) (hc : T.fd_law.code = .ref (He.codeOf K ("law", none))) : LawAtT P w K mg (lamT K) T.f_law := by
  refine okGT (by simp) T.F_law sc_law T.B_law (k := 13) ⟨rfl, by decide, by decide⟩ fun base A outer s H E hB hr hG => ⟨_, _, (walkL T A outer s H E hr hG (hB _ List.mem_cons_self) hc).h, fun xs W Φ h => ?_⟩
  delta walkL
  dsimp only
  unfold wfLawT at h
  split at h
  · rename_i xs
    obtain ⟨⟨ns, rfl, hs⟩, rfl, h⟩ := h
    have hl : ns.length ≤ 63 := hs.1
    have hm := mx_mn hl (a := 2) (b := 4) (by decide) (by decide)
    have hW : (tabsW (lamT K))[0]? = some (.tab (lamP K) lamQ) := rfl
    generalize tabsW (lamT K) = W at hW
    refine ⟨by show _ ∧ _; rw [List.length_map]; exact rng_ok hm.1 (by omega), ?_⟩
    refine loop_rg (fun σ W => W[0]? = some (.tab (lamP K) lamQ) ∧ ∃ o1 o2 o3 o4 o5 o6 o7 o8 o9 o10 o11 : Option Sv, σ = [some (.v (.d (.lst (ns.map Dv.int)))), OV o1, OV o2, OV o3, OV o4, OV o5, OV o6, OV o7, OV o8, OV o9, OV o10, OV o11]) ⟨hW, none, none, none, none, none, none, none, none, none, none, none, rfl⟩ ?_ ?_
    · rintro σ W ⟨hW, o1, o2, o3, o4, o5, o6, o7, o8, o9, o10, o11, rfl⟩
      refine ⟨hW, no_s _ (no_v _ (no_v _ (no_v _ (no_v _ (no_v _ (no_v _ (no_v _ (no_v _ (no_v _ (no_v _ (no_v _ no_nil))))))))))), ?_⟩
      have hk : ∀ x, x ∈ (⟨.non, .non, .int 0, .str "all", .str "frozen", .bl true, .str "whole", .str "mark", .bl false, .str "always", .str "never"⟩ : Kp).ds → anyX x := fun x hx => by
        simp only [List.mem_cons, List.not_mem_nil, or_false] at hx
        rcases hx with rfl | rfl | rfl | rfl | rfl | rfl | rfl | rfl | rfl | rfl | rfl <;> first | exact .inl rfl | exact .inr (.inl ⟨_, rfl⟩) | exact .inr (.inr (.inl ⟨_, rfl⟩)) | exact .inr (.inr (.inr (.inl ⟨_, rfl⟩)))
      have hw : (⟨.non, .non, .int 0, .str "all", .str "frozen", .bl true, .str "whole", .str "mark", .bl false, .str "always", .str "never"⟩ : Kp).wrong = some "begin" := by kernel_rfl
      refine ⟨W, ⟨.non, .non, .int 0, .str "all", .str "frozen", .bl true, .str "whole", .str "mark", .bl false, .str "always", .str "never"⟩, rfl, rfl, any_all hk, ?_⟩
      rw [hw]
      refine ⟨⟨_, rfl⟩, "begin", rfl, rfl, rfl, ?_⟩
      show Φ (.d (.bl (decide (("begin" : Str) = "begin")))) W
      rw [decide_eq_true rfl]
      exact h _
    rintro k hk0 hk1 σ W D ⟨hW, o1, o2, o3, o4, o5, o6, o7, o8, o9, o10, o11, rfl⟩ hrt - hD -
    have hk : k ≤ 1000 := by
      rw [List.length_map] at hk1
      omega
    refine ⟨⟨ns, rfl, hs⟩, ⟨hk0, hk⟩, ?_⟩
    have hd : (W ++ [WObj.obj dealK])[W.length]? = some (.obj dealK) := at_last
    have hW : (W ++ [WObj.obj dealK])[0]? = some (.tab (lamP K) lamQ) := by rw [List.getElem?_append_left (List.getElem?_eq_some_iff.mp hW).1]; exact hW
    generalize W ++ [WObj.obj dealK] = W1 at hd hW
    generalize W.length = j at hd
    refine ⟨by decide, ?_⟩
    refine loop_rg (fun σ W' => W' = W1 ∧ ∃ o3 o4 o5 o6 o7 o8 o9 o10 o11 : Option Sv, σ = [some (.v (.d (.lst (ns.map Dv.int)))), some (.v (.d (.int k))), some (.v (.box j)), OV o3, OV o4, OV o5, OV o6, OV o7, OV o8, OV o9, OV o10, OV o11]) ⟨rfl, _, _, _, _, _, _, _, _, _, rfl⟩ ?_ ?_
    · rintro σ W' ⟨rfl, o3, o4, o5, o6, o7, o8, o9, o10, o11, rfl⟩
      exact hD _ _ ⟨hW, some (.d (.int k)), some (.box j), o3, o4, o5, o6, o7, o8, o9, o10, o11, rfl⟩
    rintro k2 _ _ σ W' D2 ⟨rfl, o3, o4, o5, o6, o7, o8, o9, o10, o11, rfl⟩ hrt2 - hD2 -
    refine ⟨nle rfl, j, [2, 5, 20], rfl, hd, ⟨by simp, nle rfl, ?_⟩, fun a b ha hab hbb => ?_⟩
    · intro t ht
      simp only [List.mem_cons, List.not_mem_nil, or_false] at ht
      rcases ht with rfl | rfl | rfl <;> exact ⟨by decide, by decide⟩
    have haX : ∀ x, x ∈ a.ds → anyX x := fun x hx => any_lim (ha.limds x hx)
    refine ⟨⟨by show 10 < 12; decide, by decide⟩, a, rfl, ha.all, ha.wrong, ?_⟩
    refine ⟨hd, ⟨by decide, by decide⟩, fun r r0 r1 => ?_⟩
    refine ⟨by show _ ∧ _; exact rng_ok (by omega) (by omega), ?_⟩
    refine loop_rg (fun σ W2 => W2 = W' ∧ ∃ (o5 o6 o7 o8 o11 : Option Sv) (kb : Kp), (∀ x, x ∈ kb.ds → anyX x) ∧ σ = [some (.v (.d (.lst (ns.map Dv.int)))), some (.v (.d (.int k))), some (.v (.box j)), some (.v (.d (.int k2))), some (.v (.d (.lst a.ds))), OV o5, OV o6, OV o7, OV o8, some (.v (.d (keepD T.c_Keeper a))), some (.own kb.ds), OV o11]) ⟨rfl, o5, o6, o7, o8, o11, a, haX, rfl⟩ ?_ ?_
    rotate_left
    · rintro k3 _ _ σ W2 D3 ⟨rfl, o5, o6, o7, o8, o11, kb, hkb, rfl⟩ hrt3 - hD3 -
      refine ⟨hd, ⟨by decide, by decide⟩, fun i i0 i1 => ?_⟩
      refine nxp ?_
      unfold wSeq
      show rdIxL (.lst a.ds) (.int 0) W2 _
      refine ix_b hab ?_
      show rdIxL (.lst a.ds) (.int 0) W2 _
      refine ix_b hab ?_
      refine ⟨nle rfl, ?_⟩
      refine nxp ?_
      refine ⟨⟨_, rfl⟩, ⟨7, by decide⟩, j, rfl, hd, fun th hth => ?_⟩
      refine ⟨nle rfl, nle rfl, hd, ⟨List.cons_ne_nil _ _, nle rfl⟩, fun x hx => ?_⟩
      have hxX : anyX x := by
        simp only [List.cons_append, List.nil_append, List.mem_cons, List.not_mem_nil, or_false] at hx
        rcases hx with rfl | rfl | rfl | rfl | rfl | rfl | rfl | rfl | rfl | rfl | rfl | rfl
        all_goals first | exact any_thg hth | exact .inl rfl | exact .inr (.inl ⟨_, rfl⟩) | exact .inr (.inr (.inl ⟨_, rfl⟩)) | exact .inr (.inr (.inr (.inl ⟨_, rfl⟩)))
      refine ⟨i0, i1, ?_⟩
      refine hD3 _ _ ⟨rfl, some (.d (.int k3)), o6, some (.d (.int i)), o8, some (.d (.lst [.int 0, .int 1, .bl true, .non, .str "never", .str "always", .str "yes", .int b, .int (b + 1), .str "all", .str "seen"])), kb.put (DL.nameAt i) x, put_any hkb i0 i1 hxX, ?_⟩
      rw [← set_put kb i0 i1 x]
      rfl
    rintro σ W2 ⟨rfl, o5, o6, o7, o8, o11, kb, hkb, rfl⟩
    refine nxp ?_
    refine frzS (i := 10) (xs := kb.ds) rfl ?_
    refine ⟨kb, rfl, any_at hkb, ?_⟩
    refine nxp ?_
    refine sif_f (fun Ψ hΨ => ?_) ?_
    · refine ⟨hW, no_s _ (no_s _ (no_s _ (no_s _ (no_s _ (no_v _ (no_s _ (no_v _ (no_v _ (no_s _ (no_s _ (no_v _ no_nil))))))))))), ?_⟩
      refine heard_made (k := kb) (fun Φ ΦX q => q) (any_all hkb) ?_
      exact wrong_eq hΨ
    refine ⟨hd, ⟨by decide, by decide⟩, fun i i0 i1 => ?_⟩
    refine nxp ?_
    have hat : L2.atI kb.ds i = some (kb.at (DL.nameAt i)) := (atI_kp kb i0 i1).1
    have hx : anyX (kb.at (DL.nameAt i)) := any_at hkb _ (atI_kp kb i0 i1).2
    show (match L2.atI kb.ds i with | some d => _ | none => False)
    rw [hat]
    generalize kb.at (DL.nameAt i) = x at hat hx
    have c1 := cut_len a.ds none (some i)
    have c2 := cut_len a.ds (some (i + 1)) none
    have c3 : a.ds.length = 11 := rfl
    refine ⟨nle rfl, ?_, ?_, ?_⟩
    · show (cutD a.ds none (some i)).length + 1 ≤ 1000000
      omega
    · show ((cutD a.ds none (some i)) ++ [x]).length + (cutD a.ds (some (i + 1)) none).length ≤ 1000000
      rw [List.length_append, List.length_singleton]
      omega
    have ec := cut_put a i0 i1 x
    rw [show cutD a.ds none (some i) ++ [x] ++ cutD a.ds (some (i + 1)) none = _ from ec]
    have hpX := put_any haX i0 i1 hx
    generalize hap : a.put (DL.nameAt i) x = ap at hpX
    refine nxp ?_
    refine sif_f (fun Ψ hΨ => ?_) ?_
    · refine ⟨hW, no_s _ (no_s _ (no_s _ (no_s _ (no_s _ (no_v _ (no_s _ (no_s _ (no_s _ (no_s _ (no_s _ (no_v _ no_nil))))))))))), ?_⟩
      refine heard_but (K := K) (C := T.c_Keeper) (k := a) (i := i) (x := x) (fun Φ ΦX q => ?_) ⟨i0, i1⟩ (by rw [hap]; exact any_all hpX) ?_
      · show (match L2.atI kb.ds i with | some d => _ | none => False)
        rw [hat]
        exact q
      · rw [hap]
        refine ⟨ap, rfl, any_at hpX, ?_⟩
        exact wrong_eq hΨ
    refine lif_f (fun Ψ hΨ => ?_) ?_
    · obtain ⟨p, e1, e2, e3, e4⟩ := ha.leaves
      refine ⟨a, rfl, p, e1, e2, e3, e4, p, e1, e2, e3, e4, ?_⟩
      show Ψ (!decide (p.shown = p.shown)) _
      rw [decide_eq_true rfl]
      exact hΨ
    exact hD2 _ _ ⟨rfl, some (.d (.int k2)), some (.d (.lst a.ds)), o5, some (.d (wrongD kb)), some (.d (.int i)), some (.d (.lst ap.ds)), some (.d (keepD T.c_Keeper a)), some (.d (.lst kb.ds)), o11, rfl⟩
  · exact h.elim

end
theorem all_mk {w : World} {K : PySem.W.Frag} {h : Heap} {mg : Str → Option Value} {fa : Addr} (X : K.In h) (c : DH.Says MyH.FA MyH.DA MyH.TA w K) (G : h.Ns mainGlobals mg) (hfa : mg "law" = some (.ref fa)) : LawAtT P w K mg (lamT K) fa := by
  have q := (PySem.W.mg_of X G (c.f 34 rfl)).symm.trans hfa
  cases q
  obtain ⟨fd_is_integer, F_is_integer⟩ := c.fn 0 rfl
  obtain ⟨fd_is_from, F_is_from⟩ := c.fn 1 rfl
  obtain ⟨fd_is_one_of, F_is_one_of⟩ := c.fn 2 rfl
  obtain ⟨fd_is_setting, F_is_setting⟩ := c.fn 3 rfl
  obtain ⟨fd_first_wrong, F_first_wrong⟩ := c.fn 4 rfl
  obtain ⟨fd_word_of, F_word_of⟩ := c.fn 5 rfl
  obtain ⟨fd_Keeper___init__, F_Keeper___init__⟩ := c.fd 6 rfl
  obtain ⟨fd_Keeper_settings, F_Keeper_settings⟩ := c.fn 7 rfl
  obtain ⟨fd_Keeper_but, F_Keeper_but⟩ := c.fn 8 rfl
  obtain ⟨fd_Keeper___str__, F_Keeper___str__⟩ := c.fn 9 rfl
  obtain ⟨fd_Keeper___eq__, F_Keeper___eq__⟩ := c.fn 10 rfl
  obtain ⟨fd__law_deal, F__law_deal⟩ := c.fn 11 rfl
  obtain ⟨fd__law_draw, F__law_draw⟩ := c.fn 12 rfl
  obtain ⟨fd__law_pick, F__law_pick⟩ := c.fn 13 rfl
  obtain ⟨fd__law_thing, F__law_thing⟩ := c.fn 14 rfl
  obtain ⟨fd__law_names, F__law_names⟩ := c.fn 15 rfl
  obtain ⟨fd__law_words, F__law_words⟩ := c.fn 16 rfl
  obtain ⟨fd__law_passing, F__law_passing⟩ := c.fn 17 rfl
  obtain ⟨fd__law_settings, F__law_settings⟩ := c.fn 18 rfl
  obtain ⟨fd__law_made, F__law_made⟩ := c.fn 19 rfl
  obtain ⟨fd__law_kept, F__law_kept⟩ := c.fn 20 rfl
  obtain ⟨fd__law_but, F__law_but⟩ := c.fn 21 rfl
  obtain ⟨fd__law_is_from, F__law_is_from⟩ := c.fn 22 rfl
  obtain ⟨fd__law_is_fine, F__law_is_fine⟩ := c.fn 23 rfl
  obtain ⟨fd__law_first_wrong, F__law_first_wrong⟩ := c.fn 24 rfl
  obtain ⟨fd__law_heard, F__law_heard⟩ := c.fn 25 rfl
  obtain ⟨fd_law, F_law⟩ := c.fn 26 rfl
  obtain ⟨_, _, _, _, _, _, _, _, _, _, _, _, _, _, lk_FrostError⟩ := DH.exB_ok (c.f 72 rfl)
  obtain ⟨oc_InvalidKeeper, od_InvalidKeeper, sl_InvalidKeeper, kV_InvalidKeeper, dc_InvalidKeeper, pm_InvalidKeeper, an_InvalidKeeper, ct_InvalidKeeper, lf_InvalidKeeper, cd_InvalidKeeper⟩ := c.ks 27 rfl
  obtain ⟨oc2_InvalidKeeper, od2_InvalidKeeper, vs_InvalidKeeper, sl2_InvalidKeeper, tf_InvalidKeeper, lc_InvalidKeeper, vx_InvalidKeeper⟩ := DH.fileB_ok (c.f 79 rfl)
  obtain ⟨oc3_InvalidKeeper, od3_InvalidKeeper, sl3_InvalidKeeper, ll_InvalidKeeper⟩ := DH.cellB_ok (c.f 80 rfl)
  obtain ⟨nm_InvalidKeeper, q_InvalidKeeper, N_InvalidKeeper, bs_InvalidKeeper, sn_InvalidKeeper, sub_InvalidKeeper, ab_InvalidKeeper, col_InvalidKeeper, dd_InvalidKeeper, k0_InvalidKeeper, k1_InvalidKeeper, k2_InvalidKeeper, k3_InvalidKeeper, k5_InvalidKeeper, lk_InvalidKeeper⟩ := DH.exB_ok (c.f 81 rfl)
  obtain ⟨es_WORDS, n_WORDS, ⟨lk_WORDS, kl_WORDS, low_WORDS⟩, kin_WORDS⟩ := c.t 0 rfl
  let T : TT w K mg := {
    b_int := PySem.W.mg_none_of X G (c.f 0 rfl),
    b_bool := PySem.W.mg_none_of X G (c.f 1 rfl),
    b_str := PySem.W.mg_none_of X G (c.f 2 rfl),
    b_isinstance := PySem.W.mg_none_of X G (c.f 3 rfl),
    b_abs := PySem.W.mg_none_of X G (c.f 4 rfl),
    b_max := PySem.W.mg_none_of X G (c.f 5 rfl),
    b_min := PySem.W.mg_none_of X G (c.f 6 rfl),
    b_len := PySem.W.mg_none_of X G (c.f 7 rfl),
    b_range := PySem.W.mg_none_of X G (c.f 8 rfl),
    b_list := PySem.W.mg_none_of X G (c.f 9 rfl),
    b_repr := PySem.W.mg_none_of X G (c.f 10 rfl),
    b_dict := PySem.W.mg_none_of X G (c.f 11 rfl),
    b_tuple := PySem.W.mg_none_of X G (c.f 12 rfl),
    f_is_integer := (He.ga K "is_integer"),
    fd_is_integer := fd_is_integer,
    F_is_integer := F_is_integer,
    m_is_integer := PySem.W.mg_of X G (c.f 13 rfl),
    f_is_from := (He.ga K "is_from"),
    fd_is_from := fd_is_from,
    F_is_from := F_is_from,
    m_is_from := PySem.W.mg_of X G (c.f 14 rfl),
    f_is_one_of := (He.ga K "is_one_of"),
    fd_is_one_of := fd_is_one_of,
    F_is_one_of := F_is_one_of,
    m_is_one_of := PySem.W.mg_of X G (c.f 15 rfl),
    f_is_setting := (He.ga K "is_setting"),
    fd_is_setting := fd_is_setting,
    F_is_setting := F_is_setting,
    m_is_setting := PySem.W.mg_of X G (c.f 16 rfl),
    f_first_wrong := (He.ga K "first_wrong"),
    fd_first_wrong := fd_first_wrong,
    F_first_wrong := F_first_wrong,
    m_first_wrong := PySem.W.mg_of X G (c.f 17 rfl),
    f_word_of := (He.ga K "word_of"),
    fd_word_of := fd_word_of,
    F_word_of := F_word_of,
    m_word_of := PySem.W.mg_of X G (c.f 18 rfl),
    f_Keeper___init__ := (He.ma K (He.ga K "Keeper") "__init__"),
    fd_Keeper___init__ := fd_Keeper___init__,
    F_Keeper___init__ := F_Keeper___init__,
    f_Keeper_settings := (He.ma K (He.ga K "Keeper") "settings"),
    fd_Keeper_settings := fd_Keeper_settings,
    F_Keeper_settings := F_Keeper_settings,
    f_Keeper_but := (He.ma K (He.ga K "Keeper") "but"),
    fd_Keeper_but := fd_Keeper_but,
    F_Keeper_but := F_Keeper_but,
    f_Keeper___str__ := (He.ma K (He.ga K "Keeper") "__str__"),
    fd_Keeper___str__ := fd_Keeper___str__,
    F_Keeper___str__ := F_Keeper___str__,
    f_Keeper___eq__ := (He.ma K (He.ga K "Keeper") "__eq__"),
    fd_Keeper___eq__ := fd_Keeper___eq__,
    F_Keeper___eq__ := F_Keeper___eq__,
    f__law_deal := (He.ga K "_law_deal"),
    fd__law_deal := fd__law_deal,
    F__law_deal := F__law_deal,
    m__law_deal := PySem.W.mg_of X G (c.f 19 rfl),
    f__law_draw := (He.ga K "_law_draw"),
    fd__law_draw := fd__law_draw,
    F__law_draw := F__law_draw,
    m__law_draw := PySem.W.mg_of X G (c.f 20 rfl),
    f__law_pick := (He.ga K "_law_pick"),
    fd__law_pick := fd__law_pick,
    F__law_pick := F__law_pick,
    m__law_pick := PySem.W.mg_of X G (c.f 21 rfl),
    f__law_thing := (He.ga K "_law_thing"),
    fd__law_thing := fd__law_thing,
    F__law_thing := F__law_thing,
    m__law_thing := PySem.W.mg_of X G (c.f 22 rfl),
    f__law_names := (He.ga K "_law_names"),
    fd__law_names := fd__law_names,
    F__law_names := F__law_names,
    m__law_names := PySem.W.mg_of X G (c.f 23 rfl),
    f__law_words := (He.ga K "_law_words"),
    fd__law_words := fd__law_words,
    F__law_words := F__law_words,
    m__law_words := PySem.W.mg_of X G (c.f 24 rfl),
    f__law_passing := (He.ga K "_law_passing"),
    fd__law_passing := fd__law_passing,
    F__law_passing := F__law_passing,
    m__law_passing := PySem.W.mg_of X G (c.f 25 rfl),
    f__law_settings := (He.ga K "_law_settings"),
    fd__law_settings := fd__law_settings,
    F__law_settings := F__law_settings,
    m__law_settings := PySem.W.mg_of X G (c.f 26 rfl),
    f__law_made := (He.ga K "_law_made"),
    fd__law_made := fd__law_made,
    F__law_made := F__law_made,
    m__law_made := PySem.W.mg_of X G (c.f 27 rfl),
    f__law_kept := (He.ga K "_law_kept"),
    fd__law_kept := fd__law_kept,
    F__law_kept := F__law_kept,
    m__law_kept := PySem.W.mg_of X G (c.f 28 rfl),
    f__law_but := (He.ga K "_law_but"),
    fd__law_but := fd__law_but,
    F__law_but := F__law_but,
    m__law_but := PySem.W.mg_of X G (c.f 29 rfl),
    f__law_is_from := (He.ga K "_law_is_from"),
    fd__law_is_from := fd__law_is_from,
    F__law_is_from := F__law_is_from,
    m__law_is_from := PySem.W.mg_of X G (c.f 30 rfl),
    f__law_is_fine := (He.ga K "_law_is_fine"),
    fd__law_is_fine := fd__law_is_fine,
    F__law_is_fine := F__law_is_fine,
    m__law_is_fine := PySem.W.mg_of X G (c.f 31 rfl),
    f__law_first_wrong := (He.ga K "_law_first_wrong"),
    fd__law_first_wrong := fd__law_first_wrong,
    F__law_first_wrong := F__law_first_wrong,
    m__law_first_wrong := PySem.W.mg_of X G (c.f 32 rfl),
    f__law_heard := (He.ga K "_law_heard"),
    fd__law_heard := fd__law_heard,
    F__law_heard := F__law_heard,
    m__law_heard := PySem.W.mg_of X G (c.f 33 rfl),
    f_law := (He.ga K "law"),
    fd_law := fd_law,
    F_law := F_law,
    m_law := PySem.W.mg_of X G (c.f 34 rfl),
    c_Keeper := (He.ga K "Keeper"),
    m_Keeper := PySem.W.mg_of X G (c.f 39 rfl),
    cl_Keeper := ⟨(c.f 35 rfl), (c.f 36 rfl), (c.f 37 rfl), (c.f 38 rfl)⟩,
    mk_Keeper := ⟨(c.f 40 rfl), (c.f 41 rfl), (c.f 42 rfl), (c.f 43 rfl)⟩,
    na_Keeper_begin := (c.f 44 rfl),
    na_Keeper_freeze := (c.f 45 rfl),
    na_Keeper_stop := (c.f 46 rfl),
    na_Keeper_counts := (c.f 47 rfl),
    na_Keeper_marks := (c.f 48 rfl),
    na_Keeper_clears := (c.f 49 rfl),
    na_Keeper_moves := (c.f 50 rfl),
    na_Keeper_cut := (c.f 51 rfl),
    na_Keeper_needs := (c.f 52 rfl),
    na_Keeper_marked := (c.f 53 rfl),
    na_Keeper_held := (c.f 54 rfl),
    mt_Keeper_settings := ⟨(c.f 55 rfl), (c.f 56 rfl), (c.f 57 rfl)⟩,
    mt_Keeper_but := ⟨(c.f 58 rfl), (c.f 59 rfl), (c.f 60 rfl)⟩,
    eq_Keeper := (c.f 61 rfl),
    fn_Keeper___eq__ := (c.f 62 rfl),
    ne_Keeper := (c.f 63 rfl),
    mo_Keeper := (c.f 64 rfl),
    so_Keeper := (c.f 65 rfl),
    fs_Keeper := (c.f 66 rfl),
    is_Keeper := ⟨⟨(c.f 35 rfl), (c.f 36 rfl), (c.f 37 rfl), (c.f 38 rfl)⟩, (c.f 67 rfl), (c.f 68 rfl), (c.f 69 rfl), (c.f 64 rfl)⟩,
    kit_Keeper_str := DL.kit_pt (c.f 70 rfl) (c.f 71 rfl) rfl,
    c_FrostError := (He.ga K "FrostError"),
    m_FrostError := PySem.W.mg_of X G (c.f 77 rfl),
    c_InvalidKeeper := (He.ga K "InvalidKeeper"),
    m_InvalidKeeper := PySem.W.mg_of X G (c.f 78 rfl),
    xf_InvalidKeeper := ⟨(c.f 91 rfl), (c.f 92 rfl), (c.f 83 rfl), (c.f 93 rfl)⟩,
    nf_InvalidKeeper := (c.f 99 rfl),
    ox_InvalidKeeper := ⟨⟨nm_InvalidKeeper, q_InvalidKeeper, N_InvalidKeeper, bs_InvalidKeeper, _, sn_InvalidKeeper, sub_InvalidKeeper, ab_InvalidKeeper, col_InvalidKeeper, dd_InvalidKeeper, k0_InvalidKeeper, k1_InvalidKeeper, k2_InvalidKeeper, k3_InvalidKeeper, k5_InvalidKeeper, lk_InvalidKeeper, rfl⟩, (c.f 82 rfl), (c.f 83 rfl), (c.f 84 rfl), (c.f 85 rfl)⟩,
    xc_InvalidKeeper := ⟨(c.f 91 rfl), (c.f 92 rfl), (c.f 83 rfl), (c.f 93 rfl), (c.f 94 rfl), (c.f 68 rfl), (c.f 69 rfl), (c.f 95 rfl)⟩,
    fi_InvalidKeeper := (He.ma K (He.ga K "InvalidKeeper") "__init__"),
    fdi_InvalidKeeper := PySem.W.ksFn "__init__" "InvalidKeeper.__init__" (defArgs s_InvalidKeeper) (defBody s_InvalidKeeper) (defScope s_InvalidKeeper) .none kV_InvalidKeeper dc_InvalidKeeper pm_InvalidKeeper an_InvalidKeeper (.ref (DH.caA K (He.ma K (He.ga K "InvalidKeeper") "__init__"))) ct_InvalidKeeper (DH.ccA K (He.ma K (He.ga K "InvalidKeeper") "__init__")),
    ii_InvalidKeeper := (c.f 86 rfl),
    ti_InvalidKeeper := (c.f 87 rfl),
    xb_InvalidKeeper := .all fun us hl => match us, hl with | [_, _], _ => rfl,
    xi_InvalidKeeper := fun w base => SX.fn_s1 (F := ⟨"__init__", "InvalidKeeper.__init__", defArgs s_InvalidKeeper, defBody s_InvalidKeeper, defScope s_InvalidKeeper, [("__class__", (DH.ccA K (He.ma K (He.ga K "InvalidKeeper") "__init__")))], (DH.caA K (He.ma K (He.ga K "InvalidKeeper") "__init__"))⟩) (N := ["self", "word", "__class__"]) (x := "word") (fld := "word") ⟨⟨oc_InvalidKeeper, od_InvalidKeeper, sl_InvalidKeeper, lf_InvalidKeeper⟩, rfl, rfl, ⟨oc2_InvalidKeeper, od2_InvalidKeeper, vs_InvalidKeeper, sl2_InvalidKeeper, _, tf_InvalidKeeper, lc_InvalidKeeper, vx_InvalidKeeper, beq_self_eq_true _⟩, ⟨oc3_InvalidKeeper, od3_InvalidKeeper, sl3_InvalidKeeper, ll_InvalidKeeper⟩, (c.f 88 rfl), (c.f 89 rfl), PySem.W.mg_none_of X G (c.f 97 rfl), rfl, rfl, rfl, by decide +kernel, (c.f 98 rfl), SX.ini_of lk_InvalidKeeper lk_FrostError (c.f 73 rfl), (c.f 90 rfl)⟩ ⟨⟨nm_InvalidKeeper, q_InvalidKeeper, N_InvalidKeeper, bs_InvalidKeeper, _, sn_InvalidKeeper, sub_InvalidKeeper, ab_InvalidKeeper, col_InvalidKeeper, dd_InvalidKeeper, k0_InvalidKeeper, k1_InvalidKeeper, k2_InvalidKeeper, k3_InvalidKeeper, k5_InvalidKeeper, lk_InvalidKeeper, rfl⟩, (c.f 82 rfl), (c.f 83 rfl), (c.f 84 rfl), (c.f 85 rfl)⟩ (show NdefX.NScope ["self", "word", "__class__"] ["self", "word"] ["__class__"] (defScope s_InvalidKeeper) from NdefX.nscope_by (by decide +kernel)) cd_InvalidKeeper rfl (fun L => ⟨_, rfl⟩) rfl rfl rfl (c.f 99 rfl) (by decide +kernel) (by decide +kernel) (fun L => rfl),
    xm_InvalidKeeper := PySem.W.exm_ref (c.f 74 rfl) (c.f 75 rfl) (c.f 76 rfl) (c.f 96 rfl),
    c_InvalidLoad := (He.ga K "InvalidLoad"),
    m_InvalidLoad := PySem.W.mg_of X G (c.f 100 rfl),
    kx_InvalidKeeper_InvalidKeeper := DL.kit_self,
    kx_InvalidKeeper_InvalidLoad := DL.kit_rr (c.f 101 rfl) (c.f 102 rfl) (c.f 103 rfl) (c.f 104 rfl),
    a_NAMES := (He.ga K "NAMES"),
    m_NAMES := PySem.W.mg_of X G (c.f 105 rfl),
    h_NAMES := DH.tupB_ok (xs := (["begin", "freeze", "stop", "counts", "marks", "clears", "moves", "cut", "needs", "marked", "held"] : List Str)) (c.f 106 rfl),
    a_WORDS := (He.ga K "WORDS"),
    m_WORDS := PySem.W.mg_of X G (c.f 119 rfl),
    kt_WORDS := (fun n d h => by
      unfold tab_WORDS at h
      by_cases q_counts : n = "counts"
      · rw [if_pos q_counts] at h; subst q_counts; cases h; exact ⟨.ref (DH.vaA K (He.ga K "WORDS") "counts"), ⟨_, _, _, lk_WORDS, kl_WORDS, (c.f 107 rfl), rfl⟩, DH.tupB_ok (xs := (["all", "both", "now", "readers"] : List Str)) (c.f 108 rfl)⟩
      rw [if_neg q_counts] at h
      by_cases q_marks : n = "marks"
      · rw [if_pos q_marks] at h; subst q_marks; cases h; exact ⟨.ref (DH.vaA K (He.ga K "WORDS") "marks"), ⟨_, _, _, lk_WORDS, kl_WORDS, (c.f 109 rfl), rfl⟩, DH.tupB_ok (xs := (["frozen", "never", "seen"] : List Str)) (c.f 110 rfl)⟩
      rw [if_neg q_marks] at h
      by_cases q_moves : n = "moves"
      · rw [if_pos q_moves] at h; subst q_moves; cases h; exact ⟨.ref (DH.vaA K (He.ga K "WORDS") "moves"), ⟨_, _, _, lk_WORDS, kl_WORDS, (c.f 111 rfl), rfl⟩, DH.tupB_ok (xs := (["always", "whole"] : List Str)) (c.f 112 rfl)⟩
      rw [if_neg q_moves] at h
      by_cases q_cut : n = "cut"
      · rw [if_pos q_cut] at h; subst q_cut; cases h; exact ⟨.ref (DH.vaA K (He.ga K "WORDS") "cut"), ⟨_, _, _, lk_WORDS, kl_WORDS, (c.f 113 rfl), rfl⟩, DH.tupB_ok (xs := (["horizon", "mark", "never"] : List Str)) (c.f 114 rfl)⟩
      rw [if_neg q_cut] at h
      by_cases q_marked : n = "marked"
      · rw [if_pos q_marked] at h; subst q_marked; cases h; exact ⟨.ref (DH.vaA K (He.ga K "WORDS") "marked"), ⟨_, _, _, lk_WORDS, kl_WORDS, (c.f 115 rfl), rfl⟩, DH.tupB_ok (xs := (["always", "never"] : List Str)) (c.f 116 rfl)⟩
      rw [if_neg q_marked] at h
      by_cases q_held : n = "held"
      · rw [if_pos q_held] at h; subst q_held; cases h; exact ⟨.ref (DH.vaA K (He.ga K "WORDS") "held"), ⟨_, _, _, lk_WORDS, kl_WORDS, (c.f 117 rfl), rfl⟩, DH.tupB_ok (xs := (["always", "never"] : List Str)) (c.f 118 rfl)⟩
      rw [if_neg q_held] at h
      cases h),
    kin_WORDS := kin_WORDS }
  exact ok_law T (DL.code_at (p := ("law", none)) T.F_law rfl)
end My
open PySem PySem.W PyProof.Rows
set_option maxRecDepth 100000 in
set_option maxHeartbeats 0 in
theorem PySem.Challenge.cw_frostmarks_k06_keepers_refused_holds : PySem.Challenge.rw_frostmarks_k06_keepers_refused.Holds := by
  w_on; o_law
  refine HandSHeadRun.head_any (r := MyH.RowL) (q := view MyH.RowL.prog [38]) (H := DH.hookT MyH.LA MyH.FA MyH.DA MyH.TA MyH.TF) (ob := MyH.obL) (M := 40000) (loose := MyH.loose) (d := HandSHeadRun.topDef MyH.RowL.prog 38) (kwd := []) (fun s => DH.obsT_eq (HandSHeadRun.getT_eq s)) (by kernel_rfl) (fun s => by kernel_rfl) MyH.runL (by kernel_rfl) (by kernel_rfl) (by kernel_rfl) (by rfl) (by first | assumption | decide +kernel) (by decide +kernel) ⟨rfl, rfl, rfl, rfl, rfl, by decide +kernel⟩ ?hw ?hc
  case hw => w_witness2
  case hc =>
    refine DH.walkHT (tf := MyH.TF) (nm := fun _ => My.lamQ) (l := PySem.Challenge.rw_frostmarks_k06_keepers_refused) rfl (by kernel_rfl) ?F
    intro w K mg fa h KX c G hmg
    exact My.all_mk KX c G ((congrArg mg (show ("law" : PySem.Str) = (HandSHeadRun.topDef MyH.RowL.prog 38).name by kernel_rfl)).trans hmg)
