import PyProof.Rows.All
import Wide.All
import OpenK.AllK
import Wide.FinOn
import HandS.ForMost
import HandS.ForExc
import HandS.Wide
import HandS.IsInst
import HandS.ExcIs
import HandS.CallSlots
import HandS.Lambda
import HandS.EndTab
import HandS.HeadHook4
import HandS.Flow
import HandS.Defaults
import HandS.MakeKw
import HandS.Head2
import HandS.HeadEnd
import HandS.HeadHook2
import HandS.Zip
import PyProof.CollectIter
import PyProof.WalksMore
import HandS.Small
import HandS.SetFor
import HandS.Strs
import HandS.FStr
import HandS.RaiseMore
import HandS.TupMul
import HandS.MakeKwOnly
import KE.KCallOwn
import HandS.HeadWalk
import KE.GoesEnum
import HandS.Conv
import HandS.Style
import HandS.ExcInit
import KE.KExcInit
import HandS.ExcField
import KE.KExcIs
import HandS.Text
import PyProof.Rows.ListMulArg
import HandS.DictComp
import HandS.SetKeys
import KE.KDictDisplayH
import HandS.SortRule
import KE.KAssignIn
import KE.KEqNest
import KE.DataFind
import HandS.Remove
import PyProof.NeKinds
import HandS.Deep
import PyProof.InstNe
import HandS.More
import HandS.HeadHook3
import HandS.SortKw
import KE.DatumOrd
import PyProof.DictUpdate
import HandS.TupAny
import HandS.DictEq
import PyProof.FactsLen
import HandS.Codes
import PySem.Challenge.RW_sharetags_k10_books_refused
set_option Elab.async false
set_option linter.all false
set_option maxRecDepth 100000
set_option maxHeartbeats 8000000
namespace G
open PySem L2
inductive D where
  | non | bl (b : Bool) | int (i : Int) | str (x : Str)
  | tup (l : List D) | lst (l : List D) | scr (l : List D) | dic (ks : List Key) (l : List D) | loc (n : Nat)
  | exc (c : Nat) (fs : List (Nat × D))
  | ins (c : Nat) (fs : List (Nat × D))
  | fa (a : Nat)
  | pin (v : V) (d : D)
inductive Cell where
  | dead | lst (l : List D) | dk (kvs : List (Key × D)) | fk (kvs : List (Key × D)) | ts (ks : List (List Int)) | fs (ks : List (List Int)) | obj (c : Nat) (fs : List (Nat × D)) | tbl (p : Str × Option Str) (q : Str)
def Cell.frz : Cell → Bool
  | .fk _ => true
  | .fs _ => true
  | _ => false
def hashL (k : List Int) : Int := reduceHash (Builtin.Tuple.tupleHashOf (k.map hashInt))
def TsP (a : Addr) (xs : List (List Int × Addr)) : Heap → Prop := fun h => ∃ o es ep, h.get? a = some o ∧ o.ExactDict ∧ o.data = .dict es ep ∧ es.toList = xs.map (fun x => ⟨hashL x.1, .ref x.2, .bool true⟩) ∧ (xs.map (·.1)).Nodup
def cnames : List String := ["TagError", "LostError", "ShareError", "NoRatio", "NoText", "NoName", "NoRate", "NoWeight", "NoNumber", "NoTime", "NoTags", "NoSize", "NoClient", "NoLeast", "NoRivals", "NoTruth", "NoDeeds", "NoLog", "NoStretch", "NoLess", "NoPlan", "NoLeasts", "NoWord", "NoRow", "NoOne", "NoAsk", "NoPlace", "Nought", "Stands", "TooMany", "TooMuch", "Full", "Past", "Client", "Bookings", "Seat", "Room", "Server", "Fleet", "Desk", "Tale", "Walk", "Chair", "Replay", "Served", "Glance", "Look"]
def fnames : List String := ["name", "least", "most", "weight", "row", "rate", "place", "taken", "time", "lines", "at", "begins", "begun", "bookings", "books", "by", "came", "chairs", "clocks", "coming", "due_time", "fates", "gate", "heft", "hefts", "held", "here", "kept", "leasts", "lifts", "limit", "line", "marks", "mosts", "number", "rates", "room", "rows", "seats", "ships", "sizes", "speed", "tales", "told", "turned", "until", "why", "size"]
def cname (c : Nat) : Str := Str.ofString (cnames.getD c "")
def fname (c : Nat) : Str := Str.ofString (fnames.getD c "")
abbrev Store := List Cell
abbrev En := List (Option D)
structure Wo where
  al : List Addr
  st : Store
  hp : Hp
  /-- what is being built and nobody sees -/
  hid : List Addr
def Zl (w : Wo) (a : Addr) : Prop := (∃ (n : Nat) (c : Cell), w.al[n]? = some a ∧ w.st[n]? = some c ∧ c ≠ Cell.dead) ∨ a ∈ w.hid
def StO (w : Wo) (a : Addr) (u : HO) : Prop := Rd w.hp a u ∧ ¬ Zl w a
def StP (w : Wo) (a : Addr) (u : HO) : Prop := w.hp a = some u ∧ ¬ Zl w a
def KtT (K : PySem.W.Frag) (a : Addr) (vs : List V) : Prop :=
  ∃ (o : Obj) (its : Array Value) (n : Nat), K.lookup a = some o ∧ o.cls = .type "tuple" ∧ o.data = .seq its n ∧ its.size ≤ sizeLine ∧ Vals vs its.toList
def KtL (K : PySem.W.Frag) (a : Addr) (vs : List V) : Prop :=
  ∃ (o : Obj) (its : Array Value) (n : Nat), K.lookup a = some o ∧ o.cls = .type "list" ∧ o.dict = none ∧ o.data = .seq its n ∧ its.size ≤ sizeLine ∧ Vals vs its.toList
def StT (K : PySem.W.Frag) (w : Wo) (a : Addr) (vs : List V) : Prop := StO w a (.tup vs) ∨ KtT K a vs
def StL (K : PySem.W.Frag) (w : Wo) (a : Addr) (vs : List V) : Prop := StO w a (.lst vs) ∨ KtL K a vs
theorem StT.sq {K : PySem.W.Frag} {w : Wo} {a : Addr} {vs : List V} (h : StT K w a vs) : SqT K w.hp a vs := by
  rcases h with h | h
  · exact .inl h.1
  · exact .inr h
theorem StL.sq {K : PySem.W.Frag} {w : Wo} {a : Addr} {vs : List V} (h : StL K w a vs) : SqL K w.hp a vs := by
  rcases h with h | h
  · exact .inl h.1
  · exact .inr h
def ExcO (a : Addr) (cls : Value) (dd : Option Addr) : HO := .ext fun h => ∃ o vs, h.get? a = some o ∧ o.cls = cls ∧ o.dict = dd ∧ o.data = .fields vs
def XfO (w : Wo) (dd : Option Addr) (gs : List (Str × V)) : Prop := (gs = [] ∧ dd = none) ∨ (gs ≠ [] ∧ ∃ x, dd = some x ∧ StP w x (.xd gs))
mutual
inductive RepD (K : PySem.W.Frag) (mg : Str → Option Value) (w : Wo) : D → V → Prop where
  | non : RepD K mg w .non .non
  | bl (b : Bool) : RepD K mg w (.bl b) (.bl b)
  | int (i : Int) : RepD K mg w (.int i) (.int i)
  | str (x : Str) : RepD K mg w (.str x) (.str x)
  | tup {l : List D} {a : Addr} {vs : List V} : StT K w a vs → RepL K mg w l vs → RepD K mg w (.tup l) (.ref a)
  | lst {l : List D} {a : Addr} {vs : List V} : StP w a (.lst vs) → RepL K mg w l vs → RepD K mg w (.lst l) (.ref a)
  | scr {l : List D} {a : Addr} {vs : List V} : StL K w a vs → RepL K mg w l vs → RepD K mg w (.scr l) (.ref a)
  | dic {ks : List Key} {l : List D} {a : Addr} {vs : List V} : StP w a (.dK (ks.zip vs)) → ks.length = vs.length → RepL K mg w l vs → RepD K mg w (.dic ks l) (.ref a)
  | loc {n : Nat} {a : Addr} : w.al[n]? = some a → RepD K mg w (.loc n) (.ref a)
  | ins {c : Nat} {C a dx : Addr} {fs : List (Nat × D)} {gs : List (Str × V)} : mg (cname c) = some (.ref C) → StP w a (.ins C dx gs) → RepF K mg w fs gs → RepD K mg w (.ins c fs) (.ref a)
  | exc {c : Nat} {C a : Addr} {dd : Option Addr} {fs : List (Nat × D)} {gs : List (Str × V)} : mg (cname c) = some (.ref C) → StP w a (ExcO a (.ref C) dd) → XfO w dd gs → RepF K mg w fs gs → RepD K mg w (.exc c fs) (.ref a)
  | fa (a : Addr) : RepD K mg w (.fa a) (.ref a)
  | pin {d : D} {v : V} : RepD K mg w d v → RepD K mg w (.pin v d) v
inductive RepL (K : PySem.W.Frag) (mg : Str → Option Value) (w : Wo) : List D → List V → Prop where
  | nil : RepL K mg w [] []
  | cons {d : D} {v : V} {l : List D} {vs : List V} : RepD K mg w d v → RepL K mg w l vs → RepL K mg w (d :: l) (v :: vs)
inductive RepF (K : PySem.W.Frag) (mg : Str → Option Value) (w : Wo) : List (Nat × D) → List (Str × V) → Prop where
  | nil : RepF K mg w [] []
  | cons {f : Nat} {d : D} {v : V} {l : List (Nat × D)} {vs : List (Str × V)} : RepD K mg w d v → RepF K mg w l vs → RepF K mg w ((f, d) :: l) ((fname f, v) :: vs)
end
structure Ex0 (w w' : Wo) : Prop where
  al : ∃ t, w'.al = w.al ++ t
  zz : ∀ a, Zl w' a → Zl w a ∨ w.hp a = none
  keep : ∀ a o, w.hp a = some o → ¬ Zl w a → w'.hp a = some o
  tr : ∀ a o, w.hp a = some o → ∃ o', w'.hp a = some o'
def Fz (w w' : Wo) : Prop := ∀ (n : Nat) (a : Addr) (c : Cell), w.al[n]? = some a → w.st[n]? = some c → c.frz = true → w'.st[n]? = some c ∧ w'.hp a = w.hp a
theorem Fz.trans {w w1 w2 : Wo} (x : ∃ t, w1.al = w.al ++ t) (a : Fz w w1) (b : Fz w1 w2) : Fz w w2 := fun n y c h1 h2 h3 => by
  obtain ⟨t, e⟩ := x
  obtain ⟨f1, f2⟩ := a n y c h1 h2 h3
  have h1' : w1.al[n]? = some y := by
    rw [e, List.getElem?_append_left (List.getElem?_eq_some_iff.mp h1).1]; exact h1
  obtain ⟨g1, g2⟩ := b n y c h1' f1 h3
  exact ⟨g1, g2.trans f2⟩
structure Ext (w w' : Wo) : Prop extends Ex0 w w' where
  hid : w'.hid = w.hid
  kh : ∀ a, a ∈ w.hid → w'.hp a = w.hp a
  fz : Fz w w'
theorem Ex0.trans {w w1 w2 : Wo} (a : Ex0 w w1) (b : Ex0 w1 w2) : Ex0 w w2 := by
  refine ⟨?_, fun x h => ?_, fun x o h z => ?_, fun x o h => ?_⟩
  · obtain ⟨t, e⟩ := a.al
    obtain ⟨u, f⟩ := b.al
    exact ⟨t ++ u, by rw [f, e, List.append_assoc]⟩
  · rcases b.zz x h with h | h
    · exact a.zz x h
    · refine .inr ?_
      cases e : w.hp x with
      | none => rfl
      | some o =>
        obtain ⟨o', f⟩ := a.tr x o e
        rw [f] at h; cases h
  · refine b.keep x o (a.keep x o h z) fun q => ?_
    rcases a.zz x q with q | q
    · exact z q
    · rw [h] at q; cases q
  · obtain ⟨o', f⟩ := a.tr x o h
    exact b.tr x o' f
theorem Ext.trans {w w1 w2 : Wo} (a : Ext w w1) (b : Ext w1 w2) : Ext w w2 :=
  ⟨a.toEx0.trans b.toEx0, b.hid.trans a.hid, fun x h => (b.kh x (by rw [a.hid]; exact h)).trans (a.kh x h), a.fz.trans a.al b.fz⟩
theorem Rd.some {H : Hp} {a : Addr} {u : HO} (h : Rd H a u) : ∃ o, H a = some o := by
  rcases h with h | ⟨o, h⟩
  · exact ⟨_, h⟩
  · exact ⟨_, h⟩
theorem StO.ext {w w' : Wo} {a : Addr} {u : HO} (h : StO w a u) (e : Ex0 w w') : StO w' a u := by
  obtain ⟨r, z⟩ := h
  obtain ⟨o, ho⟩ := Rd.some r
  refine ⟨?_, fun q => ?_⟩
  · rcases r with r | ⟨o', r⟩
    · exact .inl (e.keep _ _ r z)
    · exact .inr ⟨o', e.keep _ _ r z⟩
  · rcases e.zz a q with q | q
    · exact z q
    · rw [ho] at q; cases q
theorem StP.ext {w w' : Wo} {a : Addr} {u : HO} (h : StP w a u) (e : Ex0 w w') : StP w' a u := by
  obtain ⟨r, z⟩ := h
  refine ⟨e.keep _ _ r z, fun q => ?_⟩
  rcases e.zz a q with q | q
  · exact z q
  · rw [r] at q; cases q
theorem StT.ext {K : PySem.W.Frag} {w w' : Wo} {a : Addr} {vs : List V} (h : StT K w a vs) (e : Ex0 w w') : StT K w' a vs := h.imp (fun h => h.ext e) id
theorem StL.ext {K : PySem.W.Frag} {w w' : Wo} {a : Addr} {vs : List V} (h : StL K w a vs) (e : Ex0 w w') : StL K w' a vs := h.imp (fun h => h.ext e) id
theorem XfO.ext {w w' : Wo} {dd : Option Addr} {gs : List (Str × V)} (h : XfO w dd gs) (e : Ex0 w w') : XfO w' dd gs := h.imp id fun ⟨z, x, q, s⟩ => ⟨z, x, q, s.ext e⟩
theorem Ex0.get {w w' : Wo} (e : Ex0 w w') {n : Nat} {a : Addr} (h : w.al[n]? = some a) : w'.al[n]? = some a := by
  obtain ⟨t, f⟩ := e.al
  rw [f, List.getElem?_append_left (List.getElem?_eq_some_iff.mp h).1]
  exact h
variable {K : PySem.W.Frag} {mg : Str → Option Value} {w w' : Wo}
mutual
theorem RepD.ext {d : D} {v : V} : RepD K mg w d v → Ex0 w w' → RepD K mg w' d v
  | .non, _ => .non
  | .bl b, _ => .bl b
  | .int i, _ => .int i
  | .str x, _ => .str x
  | .tup h r, e => .tup (h.ext e) (RepL.ext r e)
  | .lst h r, e => .lst (h.ext e) (RepL.ext r e)
  | .scr h r, e => .scr (h.ext e) (RepL.ext r e)
  | .dic h z r, e => .dic (h.ext e) z (RepL.ext r e)
  | .loc h, e => .loc (e.get h)
  | .ins g h r, e => .ins g (h.ext e) (RepF.ext r e)
  | .exc g h x r, e => .exc g (h.ext e) (x.ext e) (RepF.ext r e)
  | .fa a, _ => .fa a
  | .pin h, e => .pin (RepD.ext h e)
theorem RepL.ext {l : List D} {vs : List V} : RepL K mg w l vs → Ex0 w w' → RepL K mg w' l vs
  | .nil, _ => .nil
  | .cons r t, e => .cons (RepD.ext r e) (RepL.ext t e)
theorem RepF.ext {l : List (Nat × D)} {vs : List (Str × V)} : RepF K mg w l vs → Ex0 w w' → RepF K mg w' l vs
  | .nil, _ => .nil
  | .cons r t, e => .cons (RepD.ext r e) (RepF.ext t e)
end
theorem RepL.length {l : List D} {vs : List V} : RepL K mg w l vs → l.length = vs.length
  | .nil => rfl
  | .cons _ t => by rw [List.length_cons, List.length_cons, RepL.length t]
theorem RepL.get {l : List D} {vs : List V} {i : Nat} {d : D} : RepL K mg w l vs → l[i]? = some d → ∃ v, vs[i]? = some v ∧ RepD K mg w d v
  | .nil, h => by simp at h
  | .cons r t, h => by
    cases i with
    | zero => simp at h; subst h; exact ⟨_, by simp, r⟩
    | succ i =>
      obtain ⟨v, e, q⟩ := RepL.get (i := i) t (by simpa using h)
      exact ⟨v, by simpa using e, q⟩
theorem RepL.set {l : List D} {vs : List V} {d : D} {v : V} (q : RepD K mg w d v) : ∀ (i : Nat), RepL K mg w l vs → RepL K mg w (l.set i d) (vs.set i v)
  | _, .nil => .nil
  | 0, .cons _ t => .cons q t
  | i + 1, .cons r t => .cons r (RepL.set q i t)
inductive RepK (κ : Type) (K : PySem.W.Frag) (mg : Str → Option Value) (w : Wo) : List (κ × D) → List (κ × V) → Prop where
  | nil : RepK κ K mg w [] []
  | cons {f : κ} {d : D} {v : V} {l : List (κ × D)} {vs : List (κ × V)} : RepD K mg w d v → RepK κ K mg w l vs → RepK κ K mg w ((f, d) :: l) ((f, v) :: vs)
theorem RepK.ext {κ : Type} {l : List (κ × D)} {vs : List (κ × V)} : RepK κ K mg w l vs → Ex0 w w' → RepK κ K mg w' l vs
  | .nil, _ => .nil
  | .cons r t, e => .cons (r.ext e) (RepK.ext t e)
def CellR (K : PySem.W.Frag) (mg : Str → Option Value) (w : Wo) (a : Addr) : Cell → Prop
  | .dead => True
  | .lst l => ∃ vs, w.hp a = some (.lst vs) ∧ RepL K mg w l vs
  | .dk kvs => ∃ us, w.hp a = some (.dK us) ∧ RepK Key K mg w kvs us
  | .fk kvs => ∃ o us, w.hp a = some (.frz o (.dK us)) ∧ RepK Key K mg w kvs us
  | .ts ks => (a == sysModules) = false ∧ ks.length ≤ sizeLine ∧ ∃ xs : List (List Int × Addr), xs.map (·.1) = ks ∧ w.hp a = some (.ext (TsP a xs)) ∧ ∀ x, x ∈ xs → StT K w x.2 (x.1.map V.int)
  | .fs ks => (a == sysModules) = false ∧ ks.length ≤ sizeLine ∧ ∃ (o : Obj) (xs : List (List Int × Addr)), xs.map (·.1) = ks ∧ w.hp a = some (.frz o (.ext (TsP a xs))) ∧ ∀ x, x ∈ xs → StT K w x.2 (x.1.map V.int)
  | .obj c fs => ∃ C dx gs, mg (cname c) = some (.ref C) ∧ w.hp a = some (.ins C dx gs) ∧ RepF K mg w fs gs
  | .tbl p q => a = (He.cT K p).2 ∧ ∃ ps : Array Value, w.hp a = some (.tbl ps) ∧ TriplesOk ps.toList ∧ ∀ (pos : Pos) (cv : Value), codeAmong pos ps.toList = some cv → ∃ c o, cv = .ref c ∧ w.hp c = some (.frz o (LamX.CodeO c q)) ∧ ¬ Zl w c
theorem CellR.ext {a : Addr} {c : Cell} (h : CellR K mg w a c) (e : Ex0 w w') (k : w'.hp a = w.hp a) : CellR K mg w' a c := by
  cases c with
  | dead => trivial
  | lst l => obtain ⟨vs, p, r⟩ := h; exact ⟨vs, k.trans p, r.ext e⟩
  | dk l => obtain ⟨vs, p, r⟩ := h; exact ⟨vs, k.trans p, r.ext e⟩
  | fk l => obtain ⟨o, vs, p, r⟩ := h; exact ⟨o, vs, k.trans p, r.ext e⟩
  | ts l => obtain ⟨h1, h2, xs, h3, h4, h5⟩ := h; exact ⟨h1, h2, xs, h3, k.trans h4, fun x hx => (h5 x hx).ext e⟩
  | fs l => obtain ⟨h1, h2, o, xs, h3, h4, h5⟩ := h; exact ⟨h1, h2, o, xs, h3, k.trans h4, fun x hx => (h5 x hx).ext e⟩
  | obj c l => obtain ⟨C, dx, gs, g, p, r⟩ := h; exact ⟨C, dx, gs, g, k.trans p, r.ext e⟩
  | tbl _ q =>
    obtain ⟨ea, ps, p, t, r⟩ := h
    refine ⟨ea, ps, k.trans p, t, fun pos cv hc => ?_⟩
    obtain ⟨c, o, e1, e2, e3⟩ := r pos cv hc
    refine ⟨c, o, e1, e.keep _ _ e2 e3, fun z => ?_⟩
    rcases e.zz c z with z | z
    · exact e3 z
    · rw [e2] at z; cases z
structure Rep (K : PySem.W.Frag) (mg : Str → Option Value) (w : Wo) : Prop where
  len : w.al.length = w.st.length
  nd : w.al.Nodup
  tr : ∀ a, a ∈ w.al → ∃ o, w.hp a = some o
  cell : ∀ (n : Nat) (a : Addr) (c : Cell), w.al[n]? = some a → w.st[n]? = some c → CellR K mg w a c
  hid : ∀ a, a ∈ w.hid → a ∉ w.al ∧ ∃ o, w.hp a = some o
structure RepE (K : PySem.W.Frag) (mg : Str → Option Value) (w : Wo) (e : En) (s : St) : Prop where
  len : e.length = s.length
  get : ∀ (i : Nat) (d : D), e[i]? = some (some d) → ∃ v, s[i]? = some (some v) ∧ RepD K mg w d v
theorem RepE.ext {e : En} {s : St} (h : RepE K mg w e s) (x : Ex0 w w') : RepE K mg w' e s :=
  ⟨h.len, fun i d g => let ⟨v, p, r⟩ := h.get i d g; ⟨v, p, r.ext x⟩⟩
theorem RepE.set {e : En} {s : St} {d : D} {v : V} (h : RepE K mg w e s) (i : Nat) (r : RepD K mg w d v) : RepE K mg w (e.set i (some d)) (s.set i (some v)) := by
  refine ⟨by rw [List.length_set, List.length_set]; exact h.len, fun j d' g => ?_⟩
  by_cases hj : j = i
  · subst hj
    by_cases hl : j < e.length
    · rw [List.getElem?_set_self hl] at g
      cases g
      exact ⟨v, by rw [List.getElem?_set_self (by rw [← h.len]; exact hl)], r⟩
    · rw [List.getElem?_eq_none (by simpa using hl)] at g; cases g
  · rw [List.getElem?_set_ne (Ne.symm hj)] at g ⊢
    exact h.get j d' g
inductive Res (β : Type) where
  | ok (b : β) (S : Store)
  | exc (e : D) (S : Store)
  | stuck
def Res.bind {β γ : Type} (r : Res β) (k : β → Store → Res γ) : Res γ := match r with
  | .ok b S => k b S
  | .exc e S => .exc e S
  | .stuck => .stuck
def RepX (K : PySem.W.Frag) (mg : Str → Option Value) (w : Wo) (e : D) (cls : Value) (dd : Option Addr) : Prop :=
  ∃ c C fs gs, e = .exc c fs ∧ mg (cname c) = some (.ref C) ∧ cls = .ref C ∧ XfO w dd gs ∧ RepF K mg w fs gs
theorem RepX.ext {e : D} {cls : Value} {dd : Option Addr} (h : RepX K mg w e cls dd) (x : Ex0 w w') : RepX K mg w' e cls dd := by
  obtain ⟨c, C, fs, gs, h1, h2, h3, h4, h5⟩ := h
  exact ⟨c, C, fs, gs, h1, h2, h3, h4.ext x, h5.ext x⟩
def Post {β γ : Type} (Rl : Wo → β → γ → Prop) (K : PySem.W.Frag) (mg : Str → Option Value) (w : Wo) (r : Res β) (Q : γ → Hp → Prop) (E : XK) : Prop := match r with
  | .ok b S => ∀ w' v, Ext w w' → Rep K mg w' → w'.st = S → Rl w' b v → Q v w'.hp
  | .exc e S => ∀ w' cls dd, Ext w w' → Rep K mg w' → w'.st = S → RepX K mg w' e cls dd → E cls dd w'.hp
  | .stuck => False
theorem Post.ext {β γ : Type} {Rl : Wo → β → γ → Prop} {r : Res β} {Q : γ → Hp → Prop} {E : XK} (h : Post Rl K mg w r Q E) (x : Ext w w') : Post Rl K mg w' r Q E := by
  cases r with
  | ok b S => exact fun w2 v e => h w2 v (x.trans e)
  | exc e S => exact fun w2 v d e => h w2 v d (x.trans e)
  | stuck => exact h
theorem Post.imp {β γ : Type} {Rl : Wo → β → γ → Prop} {r : Res β} {Q Q' : γ → Hp → Prop} {E : XK} (h : Post Rl K mg w r Q E) (i : ∀ v H, Q v H → Q' v H) : Post Rl K mg w r Q' E := by
  cases r with
  | ok b S => exact fun w2 v e R s r => i _ _ (h w2 v e R s r)
  | exc e S => exact h
  | stuck => exact h
def Mid {β γ δ ε : Type} (Rl : Wo → β → γ → Prop) (Rm : Wo → δ → ε → Prop) (K : PySem.W.Frag) (mg : Str → Option Value) (w : Wo) (k : β → Store → Res δ) (Q : ε → Hp → Prop) (E : XK) : γ → Hp → Prop := fun v H =>
  ∃ w1 b, w1.hp = H ∧ Ext w w1 ∧ Rep K mg w1 ∧ Rl w1 b v ∧ Post Rm K mg w1 (k b w1.st) Q E
theorem Post.bind {β γ δ ε : Type} {Rl : Wo → β → γ → Prop} {Rm : Wo → δ → ε → Prop} {r : Res β} {k : β → Store → Res δ} {Q : ε → Hp → Prop} {E : XK} (h : Post Rm K mg w (r.bind k) Q E) :
    Post Rl K mg w r (Mid Rl Rm K mg w k Q E) E := by
  cases r with
  | ok b S =>
    intro w1 v e R s q
    subst s
    exact ⟨w1, b, rfl, e, R, q, Post.ext (Rl := Rm) h e⟩
  | exc e S => exact h
  | stuck => exact h
end G
namespace G
open PySem L2
abbrev EM := En → Store → Res D
abbrev TM := En → Store → Res Bool
end G
namespace G
open PySem L2
section
variable {X : Cx} {W : WX} {a b c e o : Expr} {es : List Expr} {ma mb mc me : EM} {ta tb : TM} {pos : Pos}
variable {K : PySem.W.Frag} {mg : Str → Option Value} {w : Wo}
theorem RepL.at {l : List D} {vs : List V} {i : Int} {d : D} (h : RepL K mg w l vs) (e : atI l i = some d) : ∃ v, atI vs i = some v ∧ RepD K mg w d v := by
  unfold atI at e ⊢
  rw [← h.length]
  cases q : ixN l.length i with
  | none => rw [q] at e; cases e
  | some j =>
    rw [q] at e
    exact h.get e
def lenD (S : Store) : D → Option Nat
  | .str x => if x.length ≤ sizeLine then some x.length else none
  | .tup l => some l.length
  | .lst l => some l.length
  | .scr l => some l.length
  | .loc n => match S[n]? with
    | some (.lst l) => some l.length
    | _ => none
  | _ => none
theorem RepD.len {d : D} {v : V} {n : Nat} (R : Rep K mg w) (h : RepD K mg w d v) (e : lenD w.st d = some n) : LenV K v w.hp n := by
  cases h with
  | str x =>
    replace e : (if x.length ≤ sizeLine then some x.length else none) = some n := e
    split at e
    · cases e; exact ⟨by assumption, rfl⟩
    · cases e
  | tup s r => cases e; exact .inr ⟨_, s.sq, r.length⟩
  | lst s r => cases e; exact .inl ⟨_, SqL.of s.1, r.length⟩
  | scr s r => cases e; exact .inl ⟨_, s.sq, r.length⟩
  | @loc m a hn =>
    replace e : (match w.st[m]? with
      | some (.lst l) => some l.length
      | _ => none) = some n := e
    split at e
    · rename_i l hl
      cases e
      obtain ⟨vs, p, r⟩ := R.cell _ _ _ hn hl
      exact .inl ⟨vs, SqL.of p, r.length⟩
    · cases e
  | _ => cases e
def seqD (S : Store) : D → Option (List D)
  | .lst l => some l
  | .scr l => some l
  | .loc n => match S[n]? with
    | some (.lst l) => some l
    | _ => none
  | _ => none
theorem RepD.seq {d : D} {v : V} {l : List D} (R : Rep K mg w) (h : RepD K mg w d v) (e : seqD w.st d = some l) : ∃ a vs, v = .ref a ∧ SqL K w.hp a vs ∧ RepL K mg w l vs := by
  cases h with
  | lst s r => cases e; exact ⟨_, _, rfl, SqL.of s.1, r⟩
  | scr s r => cases e; exact ⟨_, _, rfl, s.sq, r⟩
  | @loc m a hn =>
    replace e : (match w.st[m]? with
      | some (.lst l) => some l
      | _ => none) = some l := e
    split at e
    · rename_i l hl
      cases e
      obtain ⟨vs, p, r⟩ := R.cell _ _ _ hn hl
      exact ⟨_, vs, rfl, SqL.of p, r⟩
    · cases e
  | _ => cases e
inductive Ty where
  | int | bool | str | tuple | list | dict
def Ty.nm : Ty → String
  | .int => "int" | .bool => "bool" | .str => "str" | .tuple => "tuple" | .list => "list" | .dict => "dict"
inductive Tn where
  | non | bool | int | str | tuple | list | dict
def Tn.nm : Tn → String
  | .non => "NoneType" | .bool => "bool" | .int => "int" | .str => "str" | .tuple => "tuple" | .list => "list" | .dict => "dict"
end
end G
namespace G
open PySem L2
inductive SRes where
  | nxt (e : En) (S : Store)
  | ret (d : D) (S : Store)
  | brk (e : En) (S : Store)
  | cnt (e : En) (S : Store)
  | exc (x : D) (e : En) (S : Store)
  | stuck
abbrev SM := En → Store → SRes
def PostS (X : Cx) (W : WX) (w : Wo) (r : SRes) (D : Ends) : Prop := match r with
  | .nxt e S => ∀ w' s', Ext w w' → Rep X.K X.mg w' → w'.st = S → RepE X.K X.mg w' e s' → D.nx s' w'.hp
  | .ret d S => ∀ w' v, Ext w w' → Rep X.K X.mg w' → w'.st = S → RepD X.K X.mg w' d v → D.rt v w'.hp
  | .brk e S => ∀ w' s', Ext w w' → Rep X.K X.mg w' → w'.st = S → RepE X.K X.mg w' e s' → D.bk s' w'.hp
  | .cnt e S => ∀ w' s', Ext w w' → Rep X.K X.mg w' → w'.st = S → RepE X.K X.mg w' e s' → D.ct s' w'.hp
  | .exc x e S => ∀ w' s' cls dd, Ext w w' → Rep X.K X.mg w' → w'.st = S → RepE X.K X.mg w' e s' → RepX X.K X.mg w' x cls dd → W cls dd s' w'.hp
  | .stuck => False
def tS (X : Cx) (W : WX) (m : SM) : TS := fun D s H => ∃ w e, w.hp = H ∧ Rep X.K X.mg w ∧ RepE X.K X.mg w e s ∧ PostS X W w (m e w.st) D
def sE {β : Type} (r : Res β) (e : En) (k : β → Store → SRes) : SRes := match r with
  | .ok b S => k b S
  | .exc x S => .exc x e S
  | .stuck => .stuck
def sS (r : SRes) (k : SM) : SRes := match r with
  | .nxt e S => k e S
  | r => r
section
variable {X : Cx} {W : WX} {a b c e o : Expr} {es : List Expr} {ma mb mc me : EM} {ta tb : TM} {pos : Pos} {st : Stmt} {rest : List Stmt} {m n : SM}
theorem PostS.ext {w w' : Wo} {r : SRes} {D : Ends} (h : PostS X W w r D) (x : Ext w w') : PostS X W w' r D := by
  cases r with
  | nxt e S => exact fun w2 s e => h w2 s (x.trans e)
  | ret e S => exact fun w2 s e => h w2 s (x.trans e)
  | brk e S => exact fun w2 s e => h w2 s (x.trans e)
  | cnt e S => exact fun w2 s e => h w2 s (x.trans e)
  | exc y e S => exact fun w2 s c d e => h w2 s c d (x.trans e)
  | stuck => exact h
def MidS {β γ : Type} (Rl : Wo → β → γ → Prop) (X : Cx) (W : WX) (w : Wo) (k : β → Store → SRes) (D : Ends) : γ → Hp → Prop := fun v H =>
  ∃ w1 b, w1.hp = H ∧ Ext w w1 ∧ Rep X.K X.mg w1 ∧ Rl w1 b v ∧ PostS X W w1 (k b w1.st) D
theorem PostS.of {β γ : Type} {Rl : Wo → β → γ → Prop} {w : Wo} {r : Res β} {en : En} {s : St} {k : β → Store → SRes} {D : Ends} (h : PostS X W w (sE r en k) D) (E : RepE X.K X.mg w en s) :
    Post Rl X.K X.mg w r (MidS Rl X W w k D) (fun cls dd H' => W cls dd s H') := by
  cases r with
  | ok b S =>
    intro w1 v x R st q
    subst st
    exact ⟨w1, b, rfl, x, R, q, PostS.ext h x⟩
  | exc y S => exact fun w1 cls dd x R st q => h w1 s cls dd x R st (E.ext x.toEx0) q
  | stuck => exact h
theorem PostS.s {w : Wo} {r : SRes} {n : SM} {D : Ends} (h : PostS X W w (sS r n) D) : PostS X W w r { D with nx := tS X W n D } := by
  cases r with
  | nxt e S =>
    intro w1 s x R st E
    subst st
    exact ⟨w1, e, rfl, R, E, PostS.ext h x⟩
  | ret e S => exact h
  | brk e S => exact h
  | cnt e S => exact h
  | exc y e S => exact h
  | stuck => exact h
end
end G
namespace G
open PySem L2
inductive Tg where
  | nm (i : Nat)
  | tp (is : List Nat)
def gNs : List Nat → TGs
  | [] => gNil
  | i :: r => gCons (gName i) (gNs r)
def Tg.r (K : PySem.W.Frag) : Tg → TG
  | .nm i => gName i
  | .tp is => gTup K is.length (gNs is)
def putAll : List Nat → List D → En → Option En
  | [], [], e => some e
  | i :: is, d :: ds, e => putAll is ds (e.set i (some d))
  | _, _, _ => none
def Tg.m : Tg → D → En → Option En
  | .nm i, d, e => some (e.set i (some d))
  | .tp is, .tup ds, e => putAll is ds e
  | _, _, _ => none
def Tg.ix : Tg → List Nat
  | .nm i => [i]
  | .tp is => is
section
variable {X : Cx} {W : WX} {a b c e o : Expr} {es : List Expr} {ma mb mc me : EM} {ta tb : TM} {pos : Pos}
variable {K : PySem.W.Frag} {mg : Str → Option Value} {w : Wo}
theorem gNs_ok : ∀ (is : List Nat) (ds : List D) (us : List V) (en en' : En) (s : St) (H : Hp) (Q : St → Hp → Prop), RepE K mg w en s → RepL K mg w ds us → putAll is ds en = some en' →
    (∀ s', RepE K mg w en' s' → s'.length = s.length → (∀ j, j ∉ is → s'[j]? = s[j]?) → Q s' H) → gNs is us s H Q
  | [], ds, us, en, en', s, H, Q, E, R, h, q => by
    cases ds with
    | nil =>
      cases h
      cases R
      exact ⟨rfl, q s E rfl fun _ _ => rfl⟩
    | cons _ _ => cases h
  | i :: is, ds, us, en, en', s, H, Q, E, R, h, q => by
    cases ds with
    | nil => cases h
    | cons d ds =>
      cases R with
      | cons r R =>
        refine ⟨_, _, rfl, ?_⟩
        refine gNs_ok is ds _ _ en' _ H Q (E.set i r) R h fun s' E' hl hj => q s' E' (by rw [hl, List.length_set]) fun j hn => ?_
        rw [hj j fun z => hn (List.mem_cons_of_mem _ z), List.getElem?_set_ne fun z : i = j => hn (by rw [z]; exact List.mem_cons_self)]
theorem Tg.ok (tg : Tg) {d : D} {v : V} {en en' : En} {s : St} {Q : St → Hp → Prop} (E : RepE K mg w en s) (R : RepD K mg w d v) (h : tg.m d en = some en')
    (q : ∀ s', RepE K mg w en' s' → s'.length = s.length → (∀ j, j ∉ tg.ix → s'[j]? = s[j]?) → Q s' w.hp) : tg.r K v s w.hp Q := by
  cases tg with
  | nm i =>
    cases h
    exact q _ (E.set i R) (by rw [List.length_set]) fun j hj => List.getElem?_set_ne fun z => hj (by rw [z]; exact List.mem_cons_self)
  | tp is =>
    cases R with
    | tup st rl =>
      have hl : ∀ (is : List Nat) (ds : List D) (en en' : En), putAll is ds en = some en' → is.length = ds.length := by
        intro is
        induction is with
        | nil => intro ds en en' h; cases ds with
          | nil => rfl
          | cons _ _ => cases h
        | cons i is ih => intro ds en en' h; cases ds with
          | nil => cases h
          | cons _ _ => exact congrArg Nat.succ (ih _ _ _ h)
      exact ⟨_, _, rfl, st.sq, by rw [← rl.length]; exact (hl _ _ _ _ h).symm, gNs_ok is _ _ en en' s w.hp Q E rl h q⟩
    | _ => cases h
end
end G
namespace G
open PySem L2 PySem.Spec
abbrev FM := List D → Store → Res D
def spM (K : PySem.W.Frag) (mg : Str → Option Value) (n : Nat) (f : FM) : Sp := fun vs H Q E => vs.length = n ∧ ∃ w ds, w.hp = H ∧ Rep K mg w ∧ RepL K mg w ds vs ∧ Post (RepD K mg) K mg w (f ds w.st) Q E
structure RoomG (k : Nat) (A : Around) : Prop where
  r : Room k A
  gd : A.guards = some []
structure Cg (X : Cx) (W : WX) (k : Nat) : Prop where
  calm : X.calm = true
  nd : X.N.Nodup
  tk : Takes X W
  po : PassesOwn (model X.prog X.w) X.A X.env X.xe
  rm : RoomG k X.A
  hs : X.stack = X.env :: X.outer
  hf : X.env.frame = some X.env.locals
  em : X.ex = []
section
variable {P : Program} {w0 : World} {K : PySem.W.Frag} {mg : Str → Option Value} {base : Heap}
structure FnG (P : Program) (w0 : World) (K : PySem.W.Frag) (mg : Str → Option Value) (base : Heap) (k : Nat) (f : Addr) (fd : FuncData) (ps : List Str) (sp : Sp) : Prop where
  len : ∀ vs H Q E, sp vs H Q E → vs.length = ps.length
  run : ∀ (A : Around) (outer : List Env) (s : Shared) (H : Hp) (args : Args) (us : List Value) (vs : List V) (Q : VK) (E : XK), RoomG k A → Env0 P w0 K mg base A outer s H → BindsTo s fd args (ps.zip us) → Vals vs us → sp vs H Q E →
    codeAny (model P w0) A (.call (.ref f) args) (CR (L2.CX P w0) outer P w0 H s Q E) s
structure Df (P : Program) (w0 : World) (K : PySem.W.Frag) (mg : Str → Option Value) (base : Heap) (x : Str) (ps : List Str) (k : Nat) (m : FM) : Prop where
  ex : ∃ f fd, mg x = some (.ref f) ∧ PySem.W.keepIn K (.ref f) = true ∧ Binds K fd ps [] ∧ FnG P w0 K mg base k f fd ps (spM K mg ps.length m)
end
end G
namespace G
open PySem L2 PySem.Spec
section
variable {X : Cx} {W : WX} {a b c e o : Expr} {es : List Expr} {ma mb mc me : EM} {ta tb : TM} {pos : Pos} {x : Str} {p : Pos} {j k : Nat}
theorem Cg.tr (c : Cg X W k) {pn : List (Addr × Obj)} {xe : Value → Shared → Prop} {W' : WX} (t : Takes (X.tr pn xe) W') (po : PassesOwn (model X.prog X.w) X.A X.env xe) : Cg (X.tr pn xe) W' k := ⟨c.calm, c.nd, t, po, c.rm, c.hs, c.hf, c.em⟩
end
end G
namespace G
open PySem L2 PySem.Spec
abbrev bmValueError : List Value := [.type "ValueError", .type "Exception", .type "BaseException", .type "object"]
end G
namespace G
open PySem L2 PySem.Spec PyProof.Rows
def refsX (o : Obj) : List Addr := (match o.dict with
  | some d => [d]
  | none => []) ++ match o.data with
  | .seq its _ => its.toList.flatMap He.refV
  | .dict es _ => es.toList.flatMap fun e => He.refV e.val
  | .func fd => He.refV fd.code ++ (He.refV fd.defaults ++ He.refV fd.kwdefaults)
  | .cls cd => [cd.ns]
  | _ => []
def lvX (g : Addr → Option Obj) : Nat → List Addr → List Addr
  | 0, as => as
  | n + 1, as => as ++ lvX g n (as.flatMap fun a => match g a with
    | some o => refsX o
    | none => [])
abbrev Fx : Type := PySem.W.Frag → Bool
def obsX (fx : List Fx) (fn : List He.DefD) (K : PySem.W.Frag) : He.AlD := ((fx.all fun f => f K) && fn.all fun d => d.ok K, fn.map fun d => He.fnW K d.at_)
def SaysX (fx : List Fx) (fn : List He.DefD) (K : PySem.W.Frag) : Prop := obsX fx fn K = He.valD fn
def oneFree (K : PySem.W.Frag) (x : Str) : Bool := He.eqO (PySem.W.nsIn K mainGlobals x) (some none)
def freesB (l : List Str) : Fx := fun K => l.all fun x => oneFree K x
def oneGlo (K : PySem.W.Frag) (x : Str) : Bool := He.eqO (PySem.W.nsIn K mainGlobals x) (some (some (.ref (He.ga K x))))
def glosB (l : List Str) : Fx := fun K => l.all fun x => oneGlo K x
section
variable {K : PySem.W.Frag} {h : Heap} {mg : Str → Option Value}
def tupX (x : Str) (vs : List V) : Fx := fun K => match K.lookup (He.ga K x) with
  | some ⟨.type c, _, .seq its _, _⟩ => decide (c = "tuple") && (decide (its.size ≤ sizeLine) && He.relAll vs its.toList)
  | _ => false
def xcoB (x : Str) (bm : List Value) (nw : String) : Fx := fun K => PySem.W.excIn K (He.ga K x) bm nw && (PySem.W.keepIn K (.ref (He.ga K x)) && (decide (PySem.W.subIn K (.ref (He.ga K x)) (.type "BaseException") = some true) && decide (PySem.W.typeIn K (.ref (He.ga K x)) = some (.type "type"))))
def exqB (K : PySem.W.Frag) (C : Addr) : Bool := He.eqO (PySem.W.findIn K (.ref C) "__getattribute__") (some (some (.builtin "BaseException.__getattribute__"))) && (He.eqO (PySem.W.findIn K (.ref C) "__getattr__") (some none) &&
  (decide (PySem.W.subIn K (.ref C) (.type "BaseException") = some true) && (PySem.W.hasDictIn K C && (He.eqO (PySem.W.findIn K (.ref C) "__class__") (some (some (.builtin "object.__class__"))) &&
  (He.eqO (PySem.W.specialIn K (.builtin "object.__class__") "__get__") (some (some (.builtin "getset_descriptor.__get__"))) && (decide (PySem.W.takesIn K (.builtin "object.__class__") = some true) && decide (PySem.W.mroIn K C (.type "object") = some true)))))))
def exsB (l : List Nat) : Fx := fun K => l.all fun n => oneGlo K (cname n) && exqB K (He.ga K (cname n))
def kitO (K : PySem.W.Frag) (D : Value) (p : Nat × Bool) : Bool := decide (PySem.W.kitOne K (.ref (He.ga K (cname p.1))) D = some p.2)
def kitB (D : PySem.W.Frag → Value) (l : List (Nat × Bool)) : Fx := fun K => l.all fun p => kitO K (D K) p
def exmO (K : PySem.W.Frag) (y : Str) (p : Nat × Bool) : Bool := decide (PySem.W.exmOne K (.ref (He.ga K (cname p.1))) (.ref (He.ga K y)) = some p.2)
def exmB (y : Str) (l : List (Nat × Bool)) : Fx := fun K => l.all fun p => exmO K y p
end
end G
namespace G
open PySem L2 PySem.Spec
end G
namespace G
open PySem L2 PySem.Spec
theorem fname_tab : ((List.range 48).all fun g => (List.range 48).all fun f => g == f || !(fname g == fname f)) = true := by decide +kernel
theorem fname_emp : ((List.range 48).all fun f => !((Str.ofString "") == fname f)) = true := by decide +kernel
theorem fname_big {g : Nat} (h : ¬ g < 48) : fname g = Str.ofString "" := by
  unfold fname
  rw [List.getD_eq_getElem?_getD, List.getElem?_eq_none (by show 48 ≤ g; omega)]
  rfl
theorem fname_ne {f g : Nat} (hf : f < 48) (h : g ≠ f) : fname g ≠ fname f := by
  intro e
  by_cases hg : g < 48
  · have := List.all_eq_true.mp (List.all_eq_true.mp fname_tab g (List.mem_range.mpr hg)) f (List.mem_range.mpr hf)
    rw [e] at this
    simp [h] at this
  · have := List.all_eq_true.mp fname_emp f (List.mem_range.mpr hf)
    rw [fname_big hg] at e
    rw [e] at this
    simp at this
section
variable {K : PySem.W.Frag} {mg : Str → Option Value} {w : Wo}
theorem RepF.get {fs : List (Nat × D)} {gs : List (Str × V)} {f : Nat} {d : D} (hf : f < 48) : RepF K mg w fs gs → fs.lookup f = some d → ∃ v, gs.lookup (fname f) = some v ∧ RepD K mg w d v
  | .nil, h => by cases h
  | @RepF.cons _ _ _ g d' v' l vs r t, h => by
    rw [List.lookup_cons] at h
    by_cases e : f = g
    · subst e
      simp only [beq_self_eq_true] at h
      cases h
      exact ⟨v', by rw [List.lookup_cons]; simp, r⟩
    · have hb : (f == g) = false := beq_eq_false_iff_ne.mpr e
      rw [hb] at h
      obtain ⟨v, h1, h2⟩ := RepF.get hf t h
      refine ⟨v, ?_, h2⟩
      have hc : (fname f == fname g) = false := beq_eq_false_iff_ne.mpr (Ne.symm (fname_ne hf (Ne.symm e)))
      rw [List.lookup_cons, hc]
      exact h1
def insD (S : Store) : D → Option (Nat × List (Nat × D))
  | .ins c fs => some (c, fs)
  | .loc n => match S[n]? with
    | some (.obj c fs) => some (c, fs)
    | _ => none
  | _ => none
end
end G
namespace G
open PySem L2 PySem.Spec
end G
namespace G
open PySem L2 PySem.Spec RZ
end G
namespace G
open PySem L2 PySem.Spec PyProof.Rows
def clsSt (st : Stmt) (j : Nat) : Stmt := match st with
  | .ClassDef _ _ _ body _ _ _ _ _ _ _ => body.getD j (.Pass ⟨0, 0, 0, 0⟩)
  | _ => .Pass ⟨0, 0, 0, 0⟩
def famC (n : Nat) : Nat := if n < 3 then n else if n < 24 then 0 else if n < 27 then 1 else 2
def subC (n c : Nat) : Bool := n == c || (famC n == c || 100 + famC n == c)
def clsqB (x : Str) : Fx := fun K => (He.Fa.cls x).ok K && (He.eqO (PySem.W.findIn K (.ref (He.ga K x)) "__class__") (some (some (.builtin "object.__class__"))) && (He.eqO (PySem.W.specialIn K (.builtin "object.__class__") "__get__") (some (some (.builtin "getset_descriptor.__get__"))) &&
  (decide (PySem.W.takesIn K (.builtin "object.__class__") = some true) && decide (PySem.W.mroIn K (He.ga K x) (.type "object") = some true))))
def allTn : List Tn := [.non, .bool, .int, .str, .tuple, .list, .dict]
section
variable {K : PySem.W.Frag} {h : Heap} {mg : Str → Option Value}
def ownsB (ns : List Nat) : Fx := fun K => ns.all fun n => oneGlo K (cname n) && clsqB (cname n) K
def noatB (f : Nat) (l : List Nat) : Fx := fun K => l.all fun n => (He.Fa.noat (cname n) (fname f)).ok K
def isoB (cn : Nat) (ns : List Nat) : Fx := fun K => (allTn.all fun t => decide (PySem.W.kitOne K (.type t.nm) (.ref (He.ga K (cname cn))) = some false)) && ns.all fun n => decide (PySem.W.kitOne K (.ref (He.ga K (cname n))) (.ref (He.ga K (cname cn))) = some (n == cn))
def mkB (x : Str) : Fx := fun K => (He.Fa.mkr x).ok K
def mtB (x m : Str) : Fx := fun K => (He.Fa.meth x m).ok K
end
end G
namespace G
open PySem L2 PySem.Spec PyProof.Rows
end G
namespace G
open PySem L2 PySem.Spec
def isCn (cn : Nat) (S : Store) (d : D) : Bool := match insD S d with
  | some (c, _) => c == cn
  | none => false
end G
namespace G
open PySem L2 PySem.Spec PyProof.Rows
def valD (kvs : List (Key × D)) (k : Key) : Option D := (kvs.find? fun kv => decide (kv.1 = k)).map (·.2)
section
variable {K : PySem.W.Frag} {mg : Str → Option Value} {w : Wo}
theorem RepK.val {k : Key} {d : D} {kvs : List (Key × D)} {us : List (Key × V)} : RepK Key K mg w kvs us → valD kvs k = some d → ∃ v, valV us k = some v ∧ RepD K mg w d v
  | .nil, h => by cases h
  | @RepK.cons _ _ _ _ f d' v' l vs r t, h => by
    by_cases e : f = k
    · have h1 : valD ((f, d') :: l) k = some d' := by simp [valD, List.find?_cons, e]
      rw [h1] at h
      cases h
      exact ⟨v', valV_pos e, r⟩
    · have h1 : valD ((f, d') :: l) k = valD l k := by simp [valD, List.find?_cons, e]
      rw [h1] at h
      obtain ⟨v, q1, q2⟩ := RepK.val t h
      exact ⟨v, by rw [valV_neg (by exact e)]; exact q1, q2⟩
end
end G
namespace G
open PySem L2 PySem.Spec PyProof.Rows
end G
namespace G
open PySem L2 PySem.Spec
end G
namespace G
open PySem L2 PySem.Spec PyProof.Rows
end G
namespace G
open PySem L2 PySem.Spec
end G
namespace G
open PySem L2 PySem.Spec
instance : Inhabited V := ⟨.non⟩
section
variable {X : Cx} {W : WX} {a b c e l : Expr} {es : List Expr} {ma mb mc me : EM} {pos : Pos} {x : Str} {p : Pos} {j k : Nat} {ps ks : List Str} {f : FM}
instance {n : Nat} : Inhabited { vs : List V // vs.length = n } := ⟨⟨List.replicate n .non, by simp⟩⟩
end
end G
namespace G
open PySem L2 PySem.Spec PyProof.Rows
end G
namespace G
open PySem L2 PySem.Spec PyProof.Rows
end G
namespace G
open PySem L2 PySem.Spec PyProof.Rows
end G
namespace G
open PySem L2 PySem.Spec PyProof.Rows
abbrev Mk2 : Type := He.Defn × Str
def al0 (K : PySem.W.Frag) (ts : List Mk2) : List Addr := ts.map fun t => (He.cT K t.1).2
def obsTG (n : Nat) (fx : List Fx) (fn : List He.DefD) (tf : List He.Defn) (g : Addr → Option Obj) : He.AlD × Bool := (obsX fx fn (He.frT g (lvX g n [mainGlobals] ++ [cStatics])), He.tabsB g tf (He.frT g (lvX g n [mainGlobals] ++ [cStatics])))
structure SaysT (fx : List Fx) (fn : List He.DefD) (tf : List He.Defn) (h : Heap) (K : PySem.W.Frag) : Prop where
  s : SaysX fx fn K
  hd : ∀ p ∈ tf, PySem.W.codeHdIn K (He.cT K p).1 (He.cT K p).2 = true
  out : ∀ p ∈ tf, K.lookup (He.cT K p).2 = none
  empty : ∀ p ∈ tf, h.get? (He.cT K p).2 = some { cls := .none, data := .fields #[] }
theorem saysT_of {n : Nat} {fx : List Fx} {fn : List He.DefD} {tf : List He.Defn} {h : Heap} (e : obsTG n fx fn tf h.get? = (He.valD fn, true)) : SaysT fx fn tf h (He.frT h.get? (lvX h.get? n [mainGlobals] ++ [cStatics])) := by
  have e1 : obsX fx fn (He.frT h.get? (lvX h.get? n [mainGlobals] ++ [cStatics])) = He.valD fn := congrArg Prod.fst e
  have e2 : He.tabsB h.get? tf (He.frT h.get? (lvX h.get? n [mainGlobals] ++ [cStatics])) = true := congrArg Prod.snd e
  have one : ∀ p ∈ tf, PySem.W.codeHdIn (He.frT h.get? (lvX h.get? n [mainGlobals] ++ [cStatics])) (He.cT (He.frT h.get? (lvX h.get? n [mainGlobals] ++ [cStatics])) p).1 (He.cT (He.frT h.get? (lvX h.get? n [mainGlobals] ++ [cStatics])) p).2 = true ∧ ∃ o, h.get? (He.cT (He.frT h.get? (lvX h.get? n [mainGlobals] ++ [cStatics])) p).2 = some o ∧ He.emptyTab o = true := by
    intro p hp
    obtain ⟨a1, a2⟩ := He.ba (List.all_eq_true.mp e2 p hp)
    refine ⟨a1, ?_⟩
    split at a2
    · rename_i o q
      exact ⟨o, q, a2⟩
    · cases a2
  refine ⟨e1, fun p hp => (one p hp).1, fun p hp => ?_, fun p hp => ?_⟩
  · obtain ⟨_, o, q, z⟩ := one p hp
    exact He.frT_none q z
  · obtain ⟨_, o, q, z⟩ := one p hp
    rw [q, He.emptyTab_eq z]
def hookT (n : Nat) (fx : List Fx) (fn : List He.DefD) (tf : List He.Defn) : PySem.W.Hook where
  α := He.AlD × Bool
  obs := fun s => obsTG n fx fn tf s.heap.get?
  val := fun _ => (He.valD fn, true)
  says := fun _ h => ∃ K : PySem.W.Frag, K.In h ∧ SaysT fx fn tf h K
  of := fun _ _ e => ⟨_, He.frT_in, saysT_of e⟩
  keeps := fun _ _ _ ⟨K, hK, c⟩ k => ⟨K, PySem.W.Frag.In.keeps hK k, ⟨c.s, c.hd, c.out, fun p hp => k _ _ (c.empty p hp)⟩⟩
def obTT (n : Nat) (fx : List Fx) (fn : List He.DefD) (tf : List He.Defn) (s : PySem.W.SharedT) : He.AlD × Bool := obsTG n fx fn tf (HandSHeadRun.getT s)
section
variable {K : PySem.W.Frag} {mg : Str → Option Value}
def ndB (ts : List Mk2) : Fx := fun K => decide (al0 K ts).Nodup
end
end G
namespace G
open PySem L2 PySem.Spec PyProof.Rows
end G
namespace G
open PySem L2 PySem.Spec
end G
namespace G
open PySem L2 PySem.Spec
end G
namespace G
open PySem L2 PySem.Spec PyProof.Rows
end G
namespace G
open PySem L2 PySem.Spec
end G
namespace G
open PySem L2 PySem.Spec
end G
namespace G
open PySem L2 PySem.Spec
end G
namespace G
open PySem L2 PySem.Spec PyProof.Rows
def tbAny : List (Nat → Option Bool) → Nat → Option Bool
  | [], _ => some false
  | t :: r, n => match t n, tbAny r n with
    | some a, some b => some (a || b)
    | _, _ => none
end G
namespace G
open PySem L2 PySem.Spec
section
variable {X : Cx} {W : WX} {a b c e o : Expr} {es : List Expr} {ma mb mc me : EM} {ta tb : TM} {pos : Pos} {x : Str} {p : Pos} {j k : Nat}
def KtOk (K : PySem.W.Frag) (mg : Str → Option Value) (tb : Nat → Option Bool) (u : Value) : Prop := ∀ cn C q, tb cn = some q → mg (cname cn) = some (.ref C) → ExcC K C ∧ PySem.W.kitOne K (.ref C) u = some q
inductive PCs (X : Cx) : List Expr → List V → List Value → Prop
  | nil : PCs X [] [] []
  | cons {T : Str} {p2 : Pos} {cv : V} {u : Value} {es : List Expr} {cs : List V} {us : List Value} (hT : PE X (.Name T p2) (tC cv)) (hcv : ClsV cv u) (hs : starEach (.Name T p2 :: es) X.env = (false, eval (.Name T p2) X.env) :: starEach es X.env) (r : PCs X es cs us) : PCs X (.Name T p2 :: es) (cv :: cs) (u :: us)
theorem PCs.cls {es : List Expr} {cs : List V} {us : List Value} (h : PCs X es cs us) : Paired ClsV cs us := by
  induction h with
  | nil => exact .nil
  | cons hT hcv hs r ih => exact .cons hcv ih
theorem PCs.len {es : List Expr} {cs : List V} {us : List Value} (h : PCs X es cs us) : cs.length = es.length := by
  induction h with
  | nil => rfl
  | cons hT hcv hs r ih => simp [ih]
inductive KtsOk (K : PySem.W.Frag) (mg : Str → Option Value) : List (Nat → Option Bool) → List Value → Prop
  | nil : KtsOk K mg [] []
  | cons {t : Nat → Option Bool} {c : Value} {ts : List (Nat → Option Bool)} {cs : List Value} (h : KtOk K mg t c) (r : KtsOk K mg ts cs) : KtsOk K mg (t :: ts) (c :: cs)
theorem KtsOk.exc {K : PySem.W.Frag} {mg : Str → Option Value} {t : Nat → Option Bool} {ts : List (Nat → Option Bool)} {cs : List Value} (h : KtsOk K mg (t :: ts) cs) {cn : Nat} {C : Addr} {q : Bool} (e : tbAny (t :: ts) cn = some q) (hC : mg (cname cn) = some (.ref C)) : ExcC K C := by
  cases h with
  | cons h r =>
    unfold tbAny at e
    split at e
    · rename_i b1 b2 e1 e2
      exact (h cn C b1 e1 hC).1
    · cases e
end
end G
namespace G
open PySem L2 PySem.Spec
section
variable {K : PySem.W.Frag}
def xoC (K : PySem.W.Frag) (C : Addr) (tl : List Value) (nw : String) (cd : ClassData) (sl : Array (Option Value)) : Bool := match cd.mro, sl.toList with
  | .ref C' :: bm, [_, _, _, _, some (.builtin n), _] => decide (C' = C) && (decide (n = nw) && (!cd.hasDel && (cd.hasDict && PySem.W.excTail tl bm)))
  | _, _ => false
def xoL (K : PySem.W.Frag) (C : Addr) (tl : List Value) (nw : String) : Bool := match K.lookup C with
  | some ⟨.type c, _, .cls cd, sl⟩ => decide (c = "type") && xoC K C tl nw cd sl
  | _ => false
def xoB (x : Str) (tl : List Value) (nw : String) : Fx := fun K => xoL K (He.ga K x) tl nw && (He.eqO (PySem.W.findIn K (.ref (He.ga K x)) "__setattr__") (some (some (.builtin "object.__setattr__"))) && (decide (PySem.W.subIn K (.ref (He.ga K x)) (.type "BaseException") = some true) && (decide (PySem.W.typeIn K (.ref (He.ga K x)) = some (.type "type")) && PySem.W.keepIn K (.ref (He.ga K x)))))
def iniB (x f : Str) : Fx := fun K => He.eqO (PySem.W.findIn K (.ref (He.ga K x)) "__init__") (some (some (.ref (He.fAd K (x, some "__init__"))))) && (decide (PySem.W.typeIn K (.ref (He.fAd K (x, some "__init__"))) = some (.type "function")) && He.eqO (PySem.W.findIn K (.ref (He.ga K x)) f) (some none))
def fcB (K : PySem.W.Frag) (C : Addr) (ini : String) : Bool := match PySem.W.findCls K (.ref C) (.type "type") "__init__" with
  | some (.val (.builtin n)) => decide (n = ini)
  | _ => false
def hdB (x : Str) (ini : String) : Fx := fun K => He.eqO (PySem.W.specialIn K (.ref (He.ga K x)) "__getattribute__") (some (some (.builtin "type.__getattribute__"))) && (PySem.W.readsIn K (He.ga K x) (.type "type") && (fcB K (He.ga K x) ini && PySem.W.handedIn (.builtin ini)))
def xcfB (f : Nat) (cs : List Nat) : Fx := fun K => cs.all fun n => oneGlo K (cname n) && (exqB K (He.ga K (cname n)) && He.eqO (PySem.W.findIn K (.ref (He.ga K (cname n))) (fname f)) (some none))
end
end G
namespace G
open PySem L2 PySem.Spec
end G
namespace G
open PySem L2
end G
namespace G
open PySem L2 PySem.Spec
end G
namespace G
open PySem L2 PySem.Spec
end G
namespace G
open PySem L2 PySem.Spec
end G
namespace G
open PySem L2 PySem.Spec PyProof.Rows
end G
namespace G
open PySem L2 PySem.Spec PyProof.Rows
end G
namespace G
open PySem L2 PySem.Spec
end G
namespace G
open PySem L2 PySem.Spec
end G
namespace G
open PySem L2 PySem.Spec
end G
namespace G
open PySem L2 PySem.Spec PyProof.Rows SrtO
def IsFst (h : Heap) (v : Value) (x : Int) : Prop := ∃ a o t r n, v = .ref a ∧ h.get? a = some o ∧ o.cls = .type "tuple" ∧ o.data = .seq #[.int x t, r] n
theorem IsFst.keeps {h h' : Heap} {v : Value} {x : Int} (p : IsFst h v x) (k : ∀ b o, h.get? b = some o → o.cls = .type "tuple" → h'.get? b = some o) : IsFst h' v x := by
  obtain ⟨a, o, t, r, n, e, ho, hc, hd⟩ := p
  exact ⟨a, o, t, r, n, e, k _ _ ho hc, hc, hd⟩
def fstV (h : Heap) (v : Value) : Int := match v with
  | .ref a => match h.get? a with
    | some o => match o.data with
      | .seq its _ => match its[0]? with
        | some (Value.int i _) => i
        | _ => 0
      | _ => 0
    | _ => 0
  | _ => 0
theorem IsFst.val {h : Heap} {v : Value} {x : Int} (p : IsFst h v x) : fstV h v = x := by
  obtain ⟨a, o, t, r, n, rfl, ho, _, hd⟩ := p
  unfold fstV
  simp only [ho, hd]
  rfl
end G
namespace G
open PySem L2 PySem.Spec
end G
namespace G
open PySem L2 PySem.Spec
section
variable {X : Cx} {W : WX} {a b c e o f : Expr} {es : List Expr} {ma mb mc me : EM} {pos apos cpos tpos : Pos} {x : Str}
theorem RepK.zip {K : PySem.W.Frag} {mg : Str → Option Value} {w : Wo} : ∀ {ks : List Key} {ds : List D} {us : List V}, RepL K mg w ds us → RepK Key K mg w (ks.zip ds) (ks.zip us)
  | [], _, _, _ => by simp only [List.zip_nil_left]; exact .nil
  | _ :: _, _, _, .nil => .nil
  | k :: ks, _, _, .cons r t => .cons r (RepK.zip t)
end
end G
namespace G
open PySem L2 PySem.Spec PyProof.Rows PySem.SeqAt
end G
namespace G
open PySem L2 PySem.Spec PyProof.Rows PySem.SeqAt PySem.W
end G
namespace G
open PySem L2 PySem.Spec PyProof.Rows
end G
namespace G
open PySem L2 PySem.Spec PyProof.Rows
end G
namespace G
open PySem L2 PySem.Spec PyProof.Rows PySem.SeqAt
end G
namespace G
open PySem L2 PySem.Spec
end G
namespace G
open PySem PySem.W
end G
namespace G
open PySem L2 PySem.Spec PyProof.Rows
end G
namespace G
open PySem PySem.W HandSHeadRun
end G
namespace G
open PySem L2 PySem.Spec PyProof.Rows
def neKB (x : Str) : Fx := fun K => decide (PySem.W.mroIn K (He.ga K x) (.type "object") = some true) && He.eqO (PySem.W.findIn K (.ref (He.ga K x)) "__ne__") (some (some (.builtin "object.__ne__")))
def eqOf (neg : Bool) (r : Res D) : Res D := r.bind fun y S1 => match y with
  | .bl b => .ok (.bl (if neg = true then !b else b)) S1
  | _ => .stuck
def eqO (neg : Bool) (cn : Nat) (f : FM) (gD : List D → List D → List D) (x y : D) (S : Store) : Res D := if isCn cn S x = true ∧ isCn cn S y = true then eqOf neg (f (gD [x, y] []) S) else .stuck
end G
namespace G
open PySem L2 PySem.Spec PyProof.Rows
end G
namespace G
open PySem L2 PySem.Spec PyProof.Rows
end G
namespace G
open PySem L2 PySem.Spec PyProof.Rows
inductive FsOk (P : Program) (w0 : World) (K : PySem.W.Frag) (mg : Str → Option Value) (base : Heap) (k : Nat) : List (Str × Str) → List (Str × Nat × FM) → Prop where
  | nil : FsOk P w0 K mg base k [] []
  | cons {z g : Str} {ps : List Str} {j : Nat} {f : FM} {ks : List (Str × Str)} {fs : List (Str × Nat × FM)} : Df P w0 K mg base g ps j f → j ≤ k → FsOk P w0 K mg base k ks fs → FsOk P w0 K mg base k ((z, g) :: ks) ((z, ps.length, f) :: fs)
theorem FsOk.get {P : Program} {w0 : World} {K : PySem.W.Frag} {mg : Str → Option Value} {base : Heap} {k : Nat} {ks : List (Str × Str)} {fs : List (Str × Nat × FM)} (h : FsOk P w0 K mg base k ks fs) {z : Str} {q : Nat × FM} (e : fs.lookup z = some q) :
    ∃ g ps j, ks.lookup z = some g ∧ j ≤ k ∧ ps.length = q.1 ∧ Df P w0 K mg base g ps j q.2 := by
  induction h with
  | nil => cases e
  | @cons z' g ps j f ks fs hF hj _ ih =>
    rw [List.lookup_cons] at e ⊢
    cases c : z == z' with
    | true =>
      rw [c] at e
      cases e
      exact ⟨g, ps, j, rfl, hj, rfl, hF⟩
    | false =>
      rw [c] at e
      exact ih e
end G
namespace G
open PySem L2 PySem.Spec PyProof.Rows
end G
namespace G
open PySem L2 PySem.Spec PyProof.Rows
end G
namespace G
open PySem L2 PySem.Spec PyProof.Rows RZ
end G
namespace G
open PySem L2 PySem.Spec
end G
namespace G
open PySem L2 PySem.Spec PyProof.Rows
end G
namespace G
open PySem L2 PySem.Spec PyProof.Rows
end G
namespace G
open PySem L2 PySem.Spec PyProof.Rows
end G
namespace G
open PySem L2 PySem.Spec PyProof.Rows
end G
namespace G
open PySem L2 PySem.Spec PyProof.Rows
open PySem.SeqAt
open AutoSeq1 (wpAny_loadPart')
end G
namespace G
open PySem L2 PySem.Spec PyProof.Rows
open PySem.W (InstAt)
end G
namespace G
open PySem L2 PySem.Spec
end G
namespace G
open PySem L2 PySem.Spec PyProof.Rows
end G
namespace Wk10
open PySem L2 G
noncomputable section
def topS (i : Nat) : Stmt := PySem.Challenge.pw_sharetags_k10_books_refused.main.body.getD i (.Pass ⟨0, 0, 0, 0⟩)
abbrev s_Bookings___eq__ : Stmt := clsSt (topS 34) 1
abbrev s_Bookings___len__ : Stmt := clsSt (topS 34) 2
abbrev s_is_whole : Stmt := topS 19
abbrev s_shared : Stmt := topS 20
abbrev s_is_ratio : Stmt := topS 21
abbrev s_is_time : Stmt := topS 28
abbrev s_check_moment : Stmt := topS 32
abbrev s_check_number : Stmt := topS 31
abbrev s_check_ratio : Stmt := topS 23
abbrev s_check_two : Stmt := topS 24
abbrev s_is_before : Stmt := topS 26
abbrev s_is_rate : Stmt := topS 29
abbrev s_Bookings_book : Stmt := clsSt (topS 34) 4
abbrev s_Bookings_spots : Stmt := clsSt (topS 34) 6
abbrev s_lowest : Stmt := topS 22
abbrev s_added : Stmt := topS 25
abbrev s_at_time : Stmt := topS 33
abbrev s_Bookings_sum_at : Stmt := clsSt (topS 34) 7
abbrev s_greater : Stmt := topS 27
abbrev s_Bookings_most_booked : Stmt := clsSt (topS 34) 8
abbrev s_Bookings_pieces : Stmt := clsSt (topS 34) 9
abbrev s_Bookings_rate_at : Stmt := clsSt (topS 34) 5
abbrev s__law_cell : Stmt := topS 36
abbrev s_Bookings___init__ : Stmt := clsSt (topS 34) 0
abbrev s__law_r : Stmt := topS 39
abbrev s__law_add : Stmt := topS 40
abbrev s__law_take : Stmt := topS 38
abbrev s__law_moment : Stmt := topS 42
abbrev s__law_rate : Stmt := topS 41
abbrev s__law_filled : Stmt := topS 45
abbrev s__law_pool : Stmt := topS 37
abbrev s__law_word : Stmt := topS 43
abbrev s__law_caught : Stmt := topS 44
abbrev s__law_refusals_right : Stmt := topS 46
abbrev s_law : Stmt := topS 47
abbrev mk__law_refusals_right : Mk2 := (("_law_refusals_right", none), "_law_refusals_right.<locals>.<lambda>")
abbrev tsL : List Mk2 := [mk__law_refusals_right]
abbrev s_NoRate___init__ : Stmt := clsSt (topS 8) 0
def d_Bookings___eq__ : He.DefD := ⟨("Bookings", some "__eq__"), "__eq__", "Bookings.__eq__", defArgs s_Bookings___eq__, defBody s_Bookings___eq__, defScope s_Bookings___eq__, [], []⟩
def d_Bookings___len__ : He.DefD := ⟨("Bookings", some "__len__"), "__len__", "Bookings.__len__", defArgs s_Bookings___len__, defBody s_Bookings___len__, defScope s_Bookings___len__, [], []⟩
def d_is_whole : He.DefD := ⟨("is_whole", none), "is_whole", "is_whole", defArgs s_is_whole, defBody s_is_whole, defScope s_is_whole, [], []⟩
def d_shared : He.DefD := ⟨("shared", none), "shared", "shared", defArgs s_shared, defBody s_shared, defScope s_shared, [], []⟩
def d_is_ratio : He.DefD := ⟨("is_ratio", none), "is_ratio", "is_ratio", defArgs s_is_ratio, defBody s_is_ratio, defScope s_is_ratio, [], []⟩
def d_is_time : He.DefD := ⟨("is_time", none), "is_time", "is_time", defArgs s_is_time, defBody s_is_time, defScope s_is_time, [], []⟩
def d_check_moment : He.DefD := ⟨("check_moment", none), "check_moment", "check_moment", defArgs s_check_moment, defBody s_check_moment, defScope s_check_moment, [], []⟩
def d_check_number : He.DefD := ⟨("check_number", none), "check_number", "check_number", defArgs s_check_number, defBody s_check_number, defScope s_check_number, [], []⟩
def d_check_ratio : He.DefD := ⟨("check_ratio", none), "check_ratio", "check_ratio", defArgs s_check_ratio, defBody s_check_ratio, defScope s_check_ratio, [], []⟩
def d_check_two : He.DefD := ⟨("check_two", none), "check_two", "check_two", defArgs s_check_two, defBody s_check_two, defScope s_check_two, [], []⟩
def d_is_before : He.DefD := ⟨("is_before", none), "is_before", "is_before", defArgs s_is_before, defBody s_is_before, defScope s_is_before, [], []⟩
def d_is_rate : He.DefD := ⟨("is_rate", none), "is_rate", "is_rate", defArgs s_is_rate, defBody s_is_rate, defScope s_is_rate, [], []⟩
def d_Bookings_book : He.DefD := ⟨("Bookings", some "book"), "book", "Bookings.book", defArgs s_Bookings_book, defBody s_Bookings_book, defScope s_Bookings_book, [], []⟩
def d_Bookings_spots : He.DefD := ⟨("Bookings", some "spots"), "spots", "Bookings.spots", defArgs s_Bookings_spots, defBody s_Bookings_spots, defScope s_Bookings_spots, [], []⟩
def d_lowest : He.DefD := ⟨("lowest", none), "lowest", "lowest", defArgs s_lowest, defBody s_lowest, defScope s_lowest, [], []⟩
def d_added : He.DefD := ⟨("added", none), "added", "added", defArgs s_added, defBody s_added, defScope s_added, [], []⟩
def d_at_time : He.DefD := ⟨("at_time", none), "at_time", "at_time", defArgs s_at_time, defBody s_at_time, defScope s_at_time, [], []⟩
def d_Bookings_sum_at : He.DefD := ⟨("Bookings", some "sum_at"), "sum_at", "Bookings.sum_at", defArgs s_Bookings_sum_at, defBody s_Bookings_sum_at, defScope s_Bookings_sum_at, [], []⟩
def d_greater : He.DefD := ⟨("greater", none), "greater", "greater", defArgs s_greater, defBody s_greater, defScope s_greater, [], []⟩
def d_Bookings_most_booked : He.DefD := ⟨("Bookings", some "most_booked"), "most_booked", "Bookings.most_booked", defArgs s_Bookings_most_booked, defBody s_Bookings_most_booked, defScope s_Bookings_most_booked, [.non], []⟩
def d_Bookings_pieces : He.DefD := ⟨("Bookings", some "pieces"), "pieces", "Bookings.pieces", defArgs s_Bookings_pieces, defBody s_Bookings_pieces, defScope s_Bookings_pieces, [], []⟩
def d_Bookings_rate_at : He.DefD := ⟨("Bookings", some "rate_at"), "rate_at", "Bookings.rate_at", defArgs s_Bookings_rate_at, defBody s_Bookings_rate_at, defScope s_Bookings_rate_at, [], []⟩
def d__law_cell : He.DefD := ⟨("_law_cell", none), "_law_cell", "_law_cell", defArgs s__law_cell, defBody s__law_cell, defScope s__law_cell, [], []⟩
def d_Bookings___init__ : He.DefD := ⟨("Bookings", some "__init__"), "__init__", "Bookings.__init__", defArgs s_Bookings___init__, defBody s_Bookings___init__, defScope s_Bookings___init__, [], []⟩
def d__law_r : He.DefD := ⟨("_law_r", none), "_law_r", "_law_r", defArgs s__law_r, defBody s__law_r, defScope s__law_r, [], []⟩
def d__law_add : He.DefD := ⟨("_law_add", none), "_law_add", "_law_add", defArgs s__law_add, defBody s__law_add, defScope s__law_add, [], []⟩
def d__law_take : He.DefD := ⟨("_law_take", none), "_law_take", "_law_take", defArgs s__law_take, defBody s__law_take, defScope s__law_take, [], []⟩
def d__law_moment : He.DefD := ⟨("_law_moment", none), "_law_moment", "_law_moment", defArgs s__law_moment, defBody s__law_moment, defScope s__law_moment, [], []⟩
def d__law_rate : He.DefD := ⟨("_law_rate", none), "_law_rate", "_law_rate", defArgs s__law_rate, defBody s__law_rate, defScope s__law_rate, [], []⟩
def d__law_filled : He.DefD := ⟨("_law_filled", none), "_law_filled", "_law_filled", defArgs s__law_filled, defBody s__law_filled, defScope s__law_filled, [], []⟩
def d__law_pool : He.DefD := ⟨("_law_pool", none), "_law_pool", "_law_pool", defArgs s__law_pool, defBody s__law_pool, defScope s__law_pool, [], []⟩
def d__law_word : He.DefD := ⟨("_law_word", none), "_law_word", "_law_word", defArgs s__law_word, defBody s__law_word, defScope s__law_word, [], []⟩
def d__law_caught : He.DefD := ⟨("_law_caught", none), "_law_caught", "_law_caught", defArgs s__law_caught, defBody s__law_caught, defScope s__law_caught, [], []⟩
def d__law_refusals_right : He.DefD := ⟨("_law_refusals_right", none), "_law_refusals_right", "_law_refusals_right", defArgs s__law_refusals_right, defBody s__law_refusals_right, defScope s__law_refusals_right, [], []⟩
def d_law : He.DefD := ⟨("law", none), "law", "law", defArgs s_law, defBody s_law, defScope s_law, [], []⟩
def d_NoRate___init__ : He.DefD := ⟨("NoRate", some "__init__"), "__init__", "NoRate.__init__", defArgs s_NoRate___init__, defBody s_NoRate___init__, defScope s_NoRate___init__, [], []⟩
def fnAll : List He.DefD := [d_Bookings___eq__, d_Bookings___len__, d_is_whole, d_shared, d_is_ratio, d_is_time, d_check_moment, d_check_number, d_check_ratio, d_check_two, d_is_before, d_is_rate, d_Bookings_book, d_Bookings_spots, d_lowest, d_added, d_at_time, d_Bookings_sum_at, d_greater, d_Bookings_most_booked, d_Bookings_pieces, d_Bookings_rate_at, d__law_cell, d_Bookings___init__, d__law_r, d__law_add, d__law_take, d__law_moment, d__law_rate, d__law_filled, d__law_pool, d__law_word, d__law_caught, d__law_refusals_right, d_law, d_NoRate___init__]
def fx_0 : Fx := freesB [("ArithmeticError" : Str), ("LookupError" : Str), ("ValueError" : Str), ("abs" : Str), ("all" : Str), ("bool" : Str), ("divmod" : Str), ("int" : Str), ("isinstance" : Str), ("len" : Str), ("max" : Str), ("min" : Str), ("range" : Str), ("repr" : Str), ("sorted" : Str), ("tuple" : Str)]
def fx_1 : Fx := glosB [("is_whole" : Str), ("shared" : Str), ("is_ratio" : Str), ("is_time" : Str), ("check_moment" : Str), ("check_number" : Str), ("check_ratio" : Str), ("check_two" : Str), ("is_before" : Str), ("is_rate" : Str), ("lowest" : Str), ("added" : Str), ("at_time" : Str), ("greater" : Str), ("_law_cell" : Str), ("_law_r" : Str), ("_law_add" : Str), ("_law_take" : Str), ("_law_moment" : Str), ("_law_rate" : Str)]
def fx_2 : Fx := glosB [("_law_filled" : Str), ("_law_pool" : Str), ("_law_word" : Str), ("_law_caught" : Str), ("_law_refusals_right" : Str), ("law" : Str), ("NONE" : Str), ("Bookings" : Str), ("LostError" : Str), ("NoLess" : Str), ("NoLog" : Str), ("NoNumber" : Str), ("NoOne" : Str), ("NoRate" : Str), ("NoRatio" : Str), ("NoRow" : Str), ("NoSize" : Str), ("NoStretch" : Str), ("NoText" : Str), ("NoTime" : Str)]
def fx_3 : Fx := glosB [("NoWord" : Str), ("ShareError" : Str), ("TagError" : Str)]
def fx_4 : Fx := tupX "NONE" [.int 0, .int 1]
def fx_5 : Fx := clsqB "Bookings"
def fx_6 : Fx := mtB "Bookings" "__eq__"
def fx_7 : Fx := clsqB "Bookings"
def fx_8 : Fx := mtB "Bookings" "__len__"
def fx_9 : Fx := clsqB "Bookings"
def fx_10 : Fx := mtB "Bookings" "book"
def fx_11 : Fx := clsqB "Bookings"
def fx_12 : Fx := mtB "Bookings" "spots"
def fx_13 : Fx := clsqB "Bookings"
def fx_14 : Fx := mtB "Bookings" "sum_at"
def fx_15 : Fx := clsqB "Bookings"
def fx_16 : Fx := mtB "Bookings" "most_booked"
def fx_17 : Fx := clsqB "Bookings"
def fx_18 : Fx := mtB "Bookings" "pieces"
def fx_19 : Fx := clsqB "Bookings"
def fx_20 : Fx := mtB "Bookings" "rate_at"
def fx_21 : Fx := mkB "Bookings"
def fx_22 : Fx := xoB "NoRate" bmValueError "ValueError.__new__"
def fx_23 : Fx := iniB "NoRate" "rate"
def fx_24 : Fx := hdB "TagError" "ValueError.__init__"
def fx_25 : Fx := xcfB 0 [24]
def fx_26 : Fx := xcfB 5 [6]
def fx_27 : Fx := xcfB 4 [4, 17]
def fx_28 : Fx := xcoB "NoNumber" bmValueError "ValueError.__new__"
def fx_29 : Fx := xcoB "NoRatio" bmValueError "ValueError.__new__"
def fx_30 : Fx := xcoB "NoTime" bmValueError "ValueError.__new__"
def fx_31 : Fx := exsB [3, 6, 8, 9]
def fx_32 : Fx := kitB (fun _ => .type "ArithmeticError") ([3, 6, 8, 9].map fun n => (n, subC n 102))
def fx_33 : Fx := kitB (fun _ => .type "LookupError") ([3, 6, 8, 9].map fun n => (n, subC n 101))
def fx_34 : Fx := kitB (fun K => .ref (He.ga K "NoLess")) ([3, 6, 8, 9].map fun n => (n, subC n 19))
def fx_35 : Fx := kitB (fun K => .ref (He.ga K "NoLog")) ([3, 6, 8, 9].map fun n => (n, subC n 17))
def fx_36 : Fx := kitB (fun K => .ref (He.ga K "NoNumber")) ([3, 6, 8, 9].map fun n => (n, subC n 8))
def fx_37 : Fx := kitB (fun K => .ref (He.ga K "NoOne")) ([3, 6, 8, 9].map fun n => (n, subC n 24))
def fx_38 : Fx := kitB (fun K => .ref (He.ga K "NoRate")) ([3, 6, 8, 9].map fun n => (n, subC n 6))
def fx_39 : Fx := kitB (fun K => .ref (He.ga K "NoRatio")) ([3, 6, 8, 9].map fun n => (n, subC n 3))
def fx_40 : Fx := kitB (fun K => .ref (He.ga K "NoRow")) ([3, 6, 8, 9].map fun n => (n, subC n 23))
def fx_41 : Fx := kitB (fun K => .ref (He.ga K "NoSize")) ([3, 6, 8, 9].map fun n => (n, subC n 11))
def fx_42 : Fx := kitB (fun K => .ref (He.ga K "NoStretch")) ([3, 6, 8, 9].map fun n => (n, subC n 18))
def fx_43 : Fx := kitB (fun K => .ref (He.ga K "NoText")) ([3, 6, 8, 9].map fun n => (n, subC n 4))
def fx_44 : Fx := kitB (fun K => .ref (He.ga K "NoTime")) ([3, 6, 8, 9].map fun n => (n, subC n 9))
def fx_45 : Fx := kitB (fun K => .ref (He.ga K "NoWord")) ([3, 6, 8, 9].map fun n => (n, subC n 22))
def fx_46 : Fx := kitB (fun K => .ref (He.ga K "ShareError")) ([3, 6, 8, 9].map fun n => (n, subC n 2))
def fx_47 : Fx := kitB (fun _ => .type "ValueError") ([3, 6, 8, 9].map fun n => (n, subC n 100))
def fx_48 : Fx := exmB "LostError" ([3, 6, 8, 9].map fun n => (n, subC n 1))
def fx_49 : Fx := exmB "ShareError" ([3, 6, 8, 9].map fun n => (n, subC n 2))
def fx_50 : Fx := exmB "TagError" ([3, 6, 8, 9].map fun n => (n, subC n 0))
def fx_51 : Fx := ownsB [34]
def fx_52 : Fx := freesB ([33, 35, 36, 37, 38, 39, 40, 41, 42, 43, 44, 45, 46].map cname)
def fx_53 : Fx := isoB 34 [34]
def fx_54 : Fx := noatB 9 ([34].filter (List.contains [34, 45]))
def fx_55 : Fx := neKB "Bookings"
def fx_56 : Fx := ndB tsL
def fxAll : List Fx := [fx_0, fx_1, fx_2, fx_3, fx_4, fx_5, fx_6, fx_7, fx_8, fx_9, fx_10, fx_11, fx_12, fx_13, fx_14, fx_15, fx_16, fx_17, fx_18, fx_19, fx_20, fx_21, fx_22, fx_23, fx_24, fx_25, fx_26, fx_27, fx_28, fx_29, fx_30, fx_31, fx_32, fx_33, fx_34, fx_35, fx_36, fx_37, fx_38, fx_39, fx_40, fx_41, fx_42, fx_43, fx_44, fx_45, fx_46, fx_47, fx_48, fx_49, fx_50, fx_51, fx_52, fx_53, fx_54, fx_55, fx_56]
abbrev R : PySem.W.OpenRow := PySem.W.OpenLaw.row PySem.Challenge.rw_sharetags_k10_books_refused
abbrev qv : Program := PySem.W.view R.prog [47]
def nm_0 : List Str := [("_wall" : Str), ("NONE" : Str), ("TagError" : Str), ("LostError" : Str), ("ShareError" : Str), ("NoRatio" : Str), ("NoText" : Str), ("NoRate" : Str), ("NoNumber" : Str), ("NoTime" : Str), ("NoSize" : Str), ("NoLog" : Str), ("NoStretch" : Str), ("NoLess" : Str), ("NoWord" : Str), ("NoRow" : Str), ("NoOne" : Str), ("is_whole" : Str), ("shared" : Str), ("is_ratio" : Str)]
def nm_1 : List Str := [("lowest" : Str), ("check_ratio" : Str), ("check_two" : Str), ("added" : Str), ("is_before" : Str), ("greater" : Str), ("is_time" : Str), ("is_rate" : Str), ("check_number" : Str), ("check_moment" : Str), ("at_time" : Str), ("Bookings" : Str), ("_law_cell" : Str), ("_law_pool" : Str), ("_law_take" : Str), ("_law_r" : Str), ("_law_add" : Str), ("_law_rate" : Str), ("_law_moment" : Str), ("_law_word" : Str)]
def nm_2 : List Str := [("_law_caught" : Str), ("_law_filled" : Str), ("_law_refusals_right" : Str)]
def nmAll : List Str := nm_0 ++ nm_1 ++ nm_2
end
end Wk10
namespace Wk10
open PySem L2 G PySem.W PySem.Calls PyProof.Rows
set_option maxRecDepth 100000 in
set_option maxHeartbeats 0 in
theorem run (w : World) : HandSHeadRun.RunEq R qv (hookT 5 fxAll fnAll (tsL.map (·.1))) (obTT 5 fxAll fnAll (tsL.map (·.1))) 100000 nmAll w := by
  intro os
  kernel_rfl
end Wk10
set_option Elab.async false
set_option linter.all false
set_option maxRecDepth 100000
set_option maxHeartbeats 8000000
namespace G
open PySem L2
theorem Fz.same {w w' : Wo} (h1 : w'.st = w.st) (h2 : w'.hp = w.hp) : Fz w w' := fun _ _ _ _ h _ => ⟨by rw [h1]; exact h, by rw [h2]⟩
theorem Ex0.refl (w : Wo) : Ex0 w w := ⟨⟨[], by simp⟩, fun _ h => .inl h, fun _ _ h _ => h, fun _ o h => ⟨o, h⟩⟩
theorem Ext.refl (w : Wo) : Ext w w := ⟨Ex0.refl w, rfl, fun _ _ => rfl, Fz.same rfl rfl⟩
variable {K : PySem.W.Frag} {mg : Str → Option Value} {w w' : Wo}
theorem RepL.getV {l : List D} {vs : List V} {i : Nat} {v : V} : RepL K mg w l vs → vs[i]? = some v → ∃ d, l[i]? = some d ∧ RepD K mg w d v
  | .nil, h => by simp at h
  | .cons r t, h => by
    cases i with
    | zero => simp at h; subst h; exact ⟨_, by simp, r⟩
    | succ i =>
      obtain ⟨v, e, q⟩ := RepL.getV (i := i) t (by simpa using h)
      exact ⟨v, by simpa using e, q⟩
theorem RepL.append {l m : List D} {vs us : List V} : RepL K mg w l vs → RepL K mg w m us → RepL K mg w (l ++ m) (vs ++ us)
  | .nil, h => h
  | .cons r t, h => .cons r (RepL.append t h)
theorem RepL.take {l : List D} {vs : List V} : ∀ (n : Nat), RepL K mg w l vs → RepL K mg w (l.take n) (vs.take n)
  | 0, _ => by simp only [List.take_zero]; exact .nil
  | _ + 1, .nil => .nil
  | n + 1, .cons r t => .cons r (RepL.take n t)
theorem RepL.drop {l : List D} {vs : List V} : ∀ (n : Nat), RepL K mg w l vs → RepL K mg w (l.drop n) (vs.drop n)
  | 0, h => h
  | _ + 1, .nil => .nil
  | n + 1, .cons _ t => RepL.drop n t
theorem nd_get {l : List Addr} (h : l.Nodup) {n m : Nat} {a : Addr} (e : l[n]? = some a) (f : l[m]? = some a) : n = m := by
  obtain ⟨h1, e1⟩ := List.getElem?_eq_some_iff.mp e
  obtain ⟨h2, e2⟩ := List.getElem?_eq_some_iff.mp f
  exact (List.getElem_inj h).mp (e1.trans e2.symm)
def Wo.put (w : Wo) (p : Addr) (o : HO) : Wo := { w with hp := upd w.hp p o }
theorem Rep.not_mem (R : Rep K mg w) {p : Addr} (hn : w.hp p = none) : p ∉ w.al := fun h => by
  obtain ⟨o, e⟩ := R.tr p h
  rw [hn] at e; cases e
theorem Rep.not_hid (R : Rep K mg w) {p : Addr} (hn : w.hp p = none) : p ∉ w.hid := fun h => by
  obtain ⟨_, o, e⟩ := R.hid p h
  rw [hn] at e; cases e
theorem put_ext (R : Rep K mg w) {p : Addr} {o : HO} (hn : w.hp p = none) : Ext w (w.put p o) := by
  refine ⟨⟨⟨[], by simp [Wo.put]⟩, fun a h => .inl h, fun a u h _ => ?_, fun a u h => ⟨u, ?_⟩⟩, rfl, fun a h => ?_, fun n a c h1 h2 _ => ⟨h2, ?_⟩⟩
  · show upd w.hp p o a = _
    rw [upd_ne (ne_of_none h hn)]; exact h
  · show upd w.hp p o a = _
    rw [upd_ne (ne_of_none h hn)]; exact h
  · show upd w.hp p o a = _
    exact upd_ne fun e => R.not_hid hn (e ▸ h)
  · show upd w.hp p o a = _
    exact upd_ne fun e => R.not_mem hn (e ▸ List.mem_of_getElem? h1)
theorem Rep.put (R : Rep K mg w) {p : Addr} {o : HO} (hn : w.hp p = none) : Rep K mg (w.put p o) := by
  have X := put_ext (o := o) R hn
  refine ⟨R.len, R.nd, fun a h => ?_, fun n a c h1 h2 => ?_, fun a h => ?_⟩
  · obtain ⟨u, e⟩ := R.tr a h
    exact X.tr a u e
  · have hm : a ∈ w.al := List.mem_of_getElem? h1
    refine (R.cell n a c h1 h2).ext X.toEx0 ?_
    show upd w.hp p o a = _
    exact upd_ne fun z => R.not_mem hn (z ▸ hm)
  · obtain ⟨h1, u, e⟩ := R.hid a h
    exact ⟨h1, X.tr a u e⟩
theorem put_st (R : Rep K mg w) {p : Addr} {o : HO} (hn : w.hp p = none) : StP (w.put p o) p o := by
  refine ⟨upd_same, fun z => ?_⟩
  rcases z with ⟨n, c, h1, _, _⟩ | z
  · exact R.not_mem hn (List.mem_of_getElem? h1)
  · exact R.not_hid hn z
theorem StP.o {w : Wo} {a : Addr} {u : HO} (h : StP w a u) : StO w a u := ⟨.inl h.1, h.2⟩
def Wo.new (w : Wo) (p : Addr) (o : HO) (c : Cell) : Wo := ⟨w.al ++ [p], w.st ++ [c], upd w.hp p o, w.hid⟩
theorem new_ext (R : Rep K mg w) {p : Addr} {o : HO} {c : Cell} (hn : w.hp p = none) : Ext w (w.new p o c) := by
  refine ⟨⟨⟨[p], rfl⟩, fun a h => ?_, fun a u h _ => ?_, fun a u h => ⟨u, ?_⟩⟩, rfl, fun a h => ?_, fun n a c' h1 h2 _ => ⟨?_, ?_⟩⟩
  · rcases h with h | h
    · obtain ⟨n, c', h1, h2, h3⟩ := h
      have h1 : (w.al ++ [p])[n]? = some a := h1
      have h2 : (w.st ++ [c])[n]? = some c' := h2
      by_cases hl : n < w.al.length
      · rw [List.getElem?_append_left hl] at h1
        rw [List.getElem?_append_left (by rw [← R.len]; exact hl)] at h2
        exact .inl (.inl ⟨n, c', h1, h2, h3⟩)
      · rw [List.getElem?_append_right (by omega)] at h1
        have e : n - w.al.length = 0 := by
          rcases List.getElem?_eq_some_iff.mp h1 with ⟨q, _⟩
          simp at q; omega
        rw [e] at h1
        simp at h1
        subst h1
        exact .inr hn
    · exact .inl (.inr h)
  · show upd w.hp p o a = _
    rw [upd_ne (ne_of_none h hn)]; exact h
  · show upd w.hp p o a = _
    rw [upd_ne (ne_of_none h hn)]; exact h
  · show upd w.hp p o a = _
    exact upd_ne fun e => R.not_hid hn (e ▸ h)
  · show (w.st ++ [c])[n]? = _
    rw [List.getElem?_append_left (List.getElem?_eq_some_iff.mp h2).1]; exact h2
  · show upd w.hp p o a = _
    exact upd_ne fun e => R.not_mem hn (e ▸ List.mem_of_getElem? h1)
theorem new_get (R : Rep K mg w) {p : Addr} {o : HO} {c : Cell} : (w.new p o c).al[w.st.length]? = some p := by
  show (w.al ++ [p])[w.st.length]? = _
  rw [← R.len]; simp
theorem Rep.new (R : Rep K mg w) {p : Addr} {o : HO} {c : Cell} (hn : w.hp p = none) (hc : CellR K mg (w.new p o c) p c) : Rep K mg (w.new p o c) := by
  have X := new_ext (o := o) (c := c) R hn
  refine ⟨?_, ?_, fun a h => ?_, fun n a c' h1 h2 => ?_, fun a h => ?_⟩
  · show (w.al ++ [p]).length = (w.st ++ [c]).length
    rw [List.length_append, List.length_append, R.len]; rfl
  · show (w.al ++ [p]).Nodup
    rw [List.nodup_append]
    refine ⟨R.nd, by simp, fun a ha b hb => ?_⟩
    simp at hb; subst hb
    exact fun z => R.not_mem hn (z ▸ ha)
  · have h : a ∈ w.al ++ [p] := h
    rcases List.mem_append.mp h with h | h
    · obtain ⟨u, e⟩ := R.tr a h
      exact X.tr a u e
    · simp at h; subst h
      exact ⟨o, upd_same⟩
  · have h1 : (w.al ++ [p])[n]? = some a := h1
    have h2 : (w.st ++ [c])[n]? = some c' := h2
    by_cases hl : n < w.al.length
    · rw [List.getElem?_append_left hl] at h1
      rw [List.getElem?_append_left (by rw [← R.len]; exact hl)] at h2
      refine (R.cell n a c' h1 h2).ext X.toEx0 ?_
      show upd w.hp p o a = _
      exact upd_ne fun z => R.not_mem hn (z ▸ List.mem_of_getElem? h1)
    · rw [List.getElem?_append_right (by omega)] at h1
      rw [List.getElem?_append_right (by rw [← R.len]; omega)] at h2
      have e : n - w.al.length = 0 := by
        rcases List.getElem?_eq_some_iff.mp h1 with ⟨q, _⟩
        simp at q; omega
      rw [← R.len, e] at h2
      rw [e] at h1
      simp at h1 h2
      subst h1; subst h2
      exact hc
  · obtain ⟨h1, u, e⟩ := R.hid a h
    refine ⟨fun z => ?_, X.tr a u e⟩
    rcases List.mem_append.mp (show a ∈ w.al ++ [p] from z) with z | z
    · exact h1 z
    · simp at z; subst z
      rw [hn] at e; cases e
def Wo.wr (w : Wo) (n : Nat) (a : Addr) (o : HO) (c : Cell) : Wo := ⟨w.al, w.st.set n c, upd w.hp a o, w.hid⟩
theorem wr_ex0 {n : Nat} {a : Addr} {o : HO} {c c0 : Cell} (h1 : w.al[n]? = some a) (h2 : w.st[n]? = some c0) (h3 : c0 ≠ .dead) : Ex0 w (w.wr n a o c) := by
  have za : Zl w a := .inl ⟨n, c0, h1, h2, h3⟩
  refine ⟨⟨[], by simp [Wo.wr]⟩, fun b h => ?_, fun b u h z => ?_, fun b u h => ?_⟩
  · rcases h with h | h
    · obtain ⟨m, c', g1, g2, g3⟩ := h
      have g2 : (w.st.set n c)[m]? = some c' := g2
      by_cases e : m = n
      · subst e
        have g1 : w.al[m]? = some b := g1
        rw [h1] at g1; cases g1
        exact .inl za
      · rw [List.getElem?_set_ne (Ne.symm e)] at g2
        exact .inl (.inl ⟨m, c', g1, g2, g3⟩)
    · exact .inl (.inr h)
  · show upd w.hp a o b = _
    rw [upd_ne fun e : b = a => z (by rw [e]; exact za)]; exact h
  · by_cases e : b = a
    · subst e; exact ⟨o, upd_same⟩
    · exact ⟨u, by show upd w.hp a o b = _; rw [upd_ne e]; exact h⟩
theorem wr_ext (R : Rep K mg w) {n : Nat} {a : Addr} {o : HO} {c c0 : Cell} (h1 : w.al[n]? = some a) (h2 : w.st[n]? = some c0) (h3 : c0 ≠ .dead) (hz : c0.frz = false := by rfl) : Ext w (w.wr n a o c) := by
  refine ⟨wr_ex0 h1 h2 h3, rfl, fun b h => ?_, fun m b c' g1 g2 g3 => ?_⟩
  · show upd w.hp a o b = _
    exact upd_ne fun e => (R.hid b h).1 (e ▸ List.mem_of_getElem? h1)
  · have e : m ≠ n := fun z => by
      subst z
      rw [h2] at g2; cases g2
      rw [hz] at g3; cases g3
    refine ⟨?_, ?_⟩
    · show (w.st.set n c)[m]? = _
      rw [List.getElem?_set_ne (Ne.symm e)]; exact g2
    · show upd w.hp a o b = _
      exact upd_ne fun z => e (nd_get R.nd g1 (z ▸ h1))
theorem Rep.wr (R : Rep K mg w) {n : Nat} {a : Addr} {o : HO} {c c0 : Cell} (h1 : w.al[n]? = some a) (h2 : w.st[n]? = some c0) (h3 : c0 ≠ .dead) (hc : CellR K mg (w.wr n a o c) a c) : Rep K mg (w.wr n a o c) := by
  have X := wr_ex0 (o := o) (c := c) h1 h2 h3
  refine ⟨?_, R.nd, fun b h => ?_, fun m b c' g1 g2 => ?_, fun b h => ?_⟩
  · show w.al.length = (w.st.set n c).length
    rw [List.length_set]; exact R.len
  · obtain ⟨u, e⟩ := R.tr b h
    exact X.tr b u e
  · have g2 : (w.st.set n c)[m]? = some c' := g2
    replace g1 : w.al[m]? = some b := g1
    by_cases e : m = n
    · subst e
      replace g1 := h1.symm.trans g1; cases g1
      rw [List.getElem?_set_self (List.getElem?_eq_some_iff.mp h2).1] at g2
      cases g2; exact hc
    · rw [List.getElem?_set_ne (Ne.symm e)] at g2
      refine (R.cell m b c' g1 g2).ext X ?_
      show upd w.hp a o b = _
      exact upd_ne fun z => e (nd_get R.nd g1 (z ▸ h1))
  · obtain ⟨h1, u, e⟩ := R.hid b h
    exact ⟨h1, X.tr b u e⟩
def Wo.cut (w : Wo) (n : Nat) : Wo := ⟨w.al.take n, w.st.take n, w.hp, w.hid⟩
theorem take_get {α : Type} {l : List α} {n m : Nat} {a : α} (h : (l.take n)[m]? = some a) : l[m]? = some a := by
  rw [List.getElem?_take] at h
  split at h
  · exact h
  · cases h
theorem cut_zz {n : Nat} {a : Addr} (h : Zl (w.cut n) a) : Zl w a := by
  rcases h with ⟨m, c, g1, g2, g3⟩ | h
  · exact .inl ⟨m, c, take_get g1, take_get g2, g3⟩
  · exact .inr h
theorem mem_take {α : Type} {l : List α} {n : Nat} {a : α} (h : a ∈ l.take n) : a ∈ l := List.mem_of_mem_take h
theorem RepE.gone {e : En} {s : St} (h : RepE K mg w e s) (i : Nat) : RepE K mg w (e.set i none) (s.set i none) := by
  refine ⟨by rw [List.length_set, List.length_set]; exact h.len, fun j d' g => ?_⟩
  by_cases hj : j = i
  · subst hj
    by_cases hl : j < e.length
    · rw [List.getElem?_set_self hl] at g; cases g
    · rw [List.getElem?_eq_none (by simpa using hl)] at g; cases g
  · rw [List.getElem?_set_ne (Ne.symm hj)] at g ⊢
    exact h.get j d' g
theorem Post.now {β γ : Type} {Rl : Wo → β → γ → Prop} {b : β} {v : γ} {Q : γ → Hp → Prop} {E : XK} (h : Post Rl K mg w (.ok b w.st) Q E) (R : Rep K mg w) (q : Rl w b v) : Q v w.hp := h w v (Ext.refl w) R rfl q
theorem Post.put {β γ : Type} {Rl : Wo → β → γ → Prop} {b : β} {v : γ} {Q : γ → Hp → Prop} {E : XK} {p : Addr} {o : HO} (h : Post Rl K mg w (.ok b w.st) Q E) (R : Rep K mg w) (hn : w.hp p = none) (q : Rl (w.put p o) b v) : Q v (upd w.hp p o) :=
  h (w.put p o) v (put_ext R hn) (R.put hn) rfl q
end G
namespace G
open PySem L2
abbrev AM := En → Store → Res (List D)
def RlB : Wo → Bool → Bool → Prop := fun _ b c => c = b
def tG {β γ : Type} (Rl : Wo → β → γ → Prop) (X : Cx) (W : WX) (m : En → Store → Res β) : St → Hp → (γ → Hp → Prop) → Prop := fun s H Q =>
  ∃ w e, w.hp = H ∧ Rep X.K X.mg w ∧ RepE X.K X.mg w e s ∧ Post Rl X.K X.mg w (m e w.st) Q (fun cls dd H' => W cls dd s H')
abbrev RE (X : Cx) (W : WX) (e : Expr) (m : EM) : Prop := PE X e (tG (RepD X.K X.mg) X W m)
abbrev RT (X : Cx) (W : WX) (e : Expr) (m : TM) : Prop := PT X e (tG RlB X W m)
abbrev RW (X : Cx) (W : WX) (e : Expr) (m : TM) : Prop := PW X e (tG RlB X W m)
abbrev RA (X : Cx) (W : WX) (es : List Expr) (m : AM) : Prop := PA X es (tG (RepL X.K X.mg) X W m)
section
variable {X : Cx} {W : WX} {a b c e : Expr} {es : List Expr} {ma mb mc me : EM} {ta tb : TM} {pos : Pos}
theorem pe_imp {t t' : TE} (h : PE X e t) (i : ∀ s H Q, t' s H Q → t s H Q) : PE X e t' := ⟨fun pins s σ H Q I q => h.run pins s σ H Q I (i _ _ _ q)⟩
theorem pt_imp {t t' : TT} (h : PT X e t) (i : ∀ s H Q, t' s H Q → t s H Q) : PT X e t' := ⟨fun pins s σ H Q I q => h.run pins s σ H Q I (i _ _ _ q)⟩
theorem pw_imp {t t' : TT} (h : PW X e t) (i : ∀ s H Q, t' s H Q → t s H Q) : PW X e t' := ⟨fun wh pins s σ H Q I q => h.run wh pins s σ H Q I (i _ _ _ q)⟩
theorem pa_imp {t t' : TA} (h : PA X es t) (i : ∀ s H Q, t' s H Q → t s H Q) : PA X es t' := ⟨fun ps pins s σ H Q I q => h.run ps pins s σ H Q I (i _ _ _ q)⟩
def lf {β : Type} (o : Option β) (S : Store) : Res β := match o with
  | some d => .ok d S
  | none => .stuck
def eC (d : D) : EM := fun _ S => .ok d S
def eVar (i : Nat) : EM := fun e S => match e[i]? with
  | some (some d) => .ok d S
  | _ => .stuck
theorem re_c {v : V} {d : D} (h : PE X e (tC v)) (q : ∀ w, RepD X.K X.mg w d v) : RE X W e (eC d) := pe_imp h fun s H Q ⟨w, en, hw, R, E, P⟩ => by
  subst hw
  exact Post.now P R (q w)
theorem re_int {i j pos} : RE X W (.Constant (.int i) j pos) (eC (.int i)) := re_c pe_int fun _ => .int i
theorem re_bl {b j pos} : RE X W (.Constant (.bool b) j pos) (eC (.bl b)) := re_c pe_bl fun _ => .bl b
theorem re_non {j pos} : RE X W (.Constant .none j pos) (eC .non) := re_c pe_non fun _ => .non
theorem re_str {x j pos} : RE X W (.Constant (.str x) j pos) (eC (.str x)) := re_c pe_str fun _ => .str x
theorem re_glob {x : Str} {v : V} {u : Value} {d : D} (hg : Gl X x) (hm : X.mg x = some u) (r : RelV v u) (q : ∀ w, RepD X.K X.mg w d v) (hd : (x == ("__debug__" : Str)) = false := by decide) : RE X W (.Name x pos) (eC d) := re_c (pe_glob hg hm r hd) q
theorem re_v {i : Nat} {x : Str} (h : PE X (.Name x pos) (tVar i)) : RE X W (.Name x pos) (eVar i) := pe_imp h fun s H Q ⟨w, en, hw, R, E, P⟩ => by
  subst hw
  unfold eVar at P
  split at P
  · rename_i d hd
    obtain ⟨v, hv, r⟩ := E.get i d hd
    exact ⟨v, hv, Post.now P R r⟩
  · exact False.elim P
theorem rv (i : Nat) {x : Str} (hN : X.N[i]? = some x := by rfl) (hv : Vis X.env.scope x := by first | exact Or.inl rfl | exact Or.inr (Or.inl rfl) | exact Or.inr (Or.inr rfl)) (hd : (x == ("__debug__" : Str)) = false := by decide)
    (hcd : (x == ("__classdict__" : Str)) = false := by decide) : RE X W (.Name x pos) (eVar i) := re_v (pe_var hN hv hd hcd)
def OpM (X : Cx) (f : D → D → Option D) : R2 := fun v u H Q => ∃ w x y E, w.hp = H ∧ Rep X.K X.mg w ∧ RepD X.K X.mg w x v ∧ RepD X.K X.mg w y u ∧ Post (RepD X.K X.mg) X.K X.mg w (lf (f x y) w.st) Q E
def eBin (f : D → D → Option D) (a b : EM) : EM := fun e S => (a e S).bind fun x S1 => (b e S1).bind fun y S2 => lf (f x y) S2
theorem t_bin {f : D → D → Option D} : ∀ s H Q, tG (RepD X.K X.mg) X W (eBin f ma mb) s H Q → tOp (OpM X f) (tG (RepD X.K X.mg) X W ma) (tG (RepD X.K X.mg) X W mb) s H Q := by
  rintro s H Q ⟨w, en, rfl, R, E, P⟩
  refine ⟨w, en, rfl, R, E, (Post.bind P).imp ?_⟩
  rintro v H1 ⟨w1, x, rfl, X1, R1, rx, P1⟩
  refine ⟨w1, en, rfl, R1, E.ext X1.toEx0, (Post.bind P1).imp ?_⟩
  rintro u H2 ⟨w2, y, rfl, X2, R2, ry, P2⟩
  exact ⟨w2, x, y, _, rfl, R2, rx.ext X2.toEx0, ry, P2⟩
theorem re_bin {op : Operator} {f : D → D → Option D} (ho : OpR X (binaryOp op) (OpM X f)) (ha : RE X W a ma) (hb : RE X W b mb) : RE X W (.BinOp a op b pos) (eBin f ma mb) := pe_imp (pe_op ho ha hb) t_bin
theorem re_cmp {op : CmpOp} {f : D → D → Option D} (ho : OpR X (compareOp op) (OpM X f)) (ha : RE X W a ma) (hb : RE X W b mb) (hm : behindInMarks op b = false) : RE X W (.Compare a [op] [b] pos) (eBin f ma mb) := pe_imp (pe_cmpR ho ha hb hm) t_bin
def tB (m : EM) : TM := fun e S => (m e S).bind fun x S1 => match x with
  | .bl b => .ok b S1
  | _ => .stuck
theorem rt_cmp {op : CmpOp} {f : D → D → Option D} (ho : OpR X (compareOp op) (OpM X f)) (ha : RE X W a ma) (hb : RE X W b mb) (hm : behindInMarks op b = false) : RT X W (.Compare a [op] [b] pos) (tB (eBin f ma mb)) := by
  refine pt_imp (pt_cmpR ho ha hb hm) ?_
  rintro s H Q ⟨w, en, rfl, R, E, P⟩
  refine t_bin s w.hp _ ⟨w, en, rfl, R, E, (Post.bind P).imp ?_⟩
  rintro v H1 ⟨w1, x, rfl, X1, R1, rx, P1⟩
  cases x with
  | bl b => cases rx; exact ⟨b, rfl, Post.now P1 R1 rfl⟩
  | _ => exact False.elim P1
def dAdd : D → D → Option D
  | .int i, .int j => some (.int (i + j))
  | .str x, .str y => if x.length + y.length ≤ sizeLine then some (.str (x ++ y)) else none
  | .lst l, .lst m => if l.length + m.length ≤ sizeLine then some (.lst (l ++ m)) else none
  | .tup (d :: l), .tup m => if (d :: l).length + m.length ≤ sizeLine then some (.tup (d :: l ++ m)) else none
  | _, _ => none
theorem om_add : OpR X (binaryOp .Add) (OpM X dAdd) := by
  intro pins s σ H x y v u Q I rx ry h
  obtain ⟨w, dx, dy, E, rfl, R, qx, qy, P⟩ := h
  unfold dAdd at P
  split at P
  · cases qx; cases qy
    exact op_add pins s σ w.hp _ _ v u Q I rx ry ⟨_, _, rfl, rfl, Post.now P R (.int _)⟩
  · split at P
    · rename_i hz
      cases qx; cases qy
      exact op_add_str pins s σ w.hp _ _ v u Q I rx ry ⟨_, _, rfl, rfl, hz, Post.now P R (.str _)⟩
    · exact False.elim P
  · split at P
    · rename_i hz
      cases qx with
      | lst s1 r1 =>
        cases qy with
        | lst s2 r2 =>
          refine op_cat pins s σ w.hp _ _ v u Q I rx ry ⟨_, _, _, _, rfl, rfl, s1.1, s2.1, by rw [← r1.length, ← r2.length]; exact hz, fun p hp => ?_⟩
          exact Post.put P R hp (.lst (put_st R hp) ((r1.append r2).ext (put_ext R hp).toEx0))
    · exact False.elim P
  · split at P
    · rename_i hz
      cases qx with
      | tup s1 r1 =>
        cases qy with
        | tup s2 r2 =>
          have r12 := r1.append r2
          cases r1 with
          | cons r1 r1' =>
            refine op_catT pins s σ w.hp _ _ v u Q I rx ry ⟨_, _, _, _, rfl, rfl, s1.sq, s2.sq, by simp, ?_, ?_⟩
            · have e1 := r1'.length
              have e2 := r2.length
              simp only [List.length_cons] at hz ⊢
              omega
            · first
                | refine ⟨fun hn => ?_, fun hn p hp => ?_⟩
                | refine ⟨fun hn p hp => ?_, fun hn => ?_⟩
              · subst hn
                cases r2
                rw [List.append_nil] at P
                exact Post.now P R (.tup s1 (.cons r1 r1'))
              · exact Post.put P R hp (.tup (.inl (put_st R hp).o) (r12.ext (put_ext R hp).toEx0))
    · exact False.elim P
  · exact False.elim P
def dSub : D → D → Option D
  | .int i, .int j => some (.int (i - j))
  | _, _ => none
theorem om_sub : OpR X (binaryOp .Sub) (OpM X dSub) := by
  intro pins s σ H x y v u Q I rx ry h
  obtain ⟨w, dx, dy, E, rfl, R, qx, qy, P⟩ := h
  unfold dSub at P
  split at P
  · cases qx; cases qy
    exact op_sub pins s σ w.hp _ _ v u Q I rx ry ⟨_, _, rfl, rfl, Post.now P R (.int _)⟩
  · exact False.elim P
def mulOk (i j : Int) : Bool := decide (i.natAbs < 2 ^ 64) || (decide (j.natAbs < 2 ^ 64) || decide (i.natAbs.log2 + j.natAbs.log2 < 1000000))
def dMul : D → D → Option D
  | .int i, .int j => if mulOk i j then some (.int (i * j)) else none
  | .lst l, .int k => if -(2 ^ 63) ≤ k ∧ k < 2 ^ 63 ∧ l.length * k.toNat ≤ sizeLine then some (.lst (List.replicate k.toNat l).flatten) else none
  | _, _ => none
theorem RepL.rep {w : Wo} {l : List D} {vs : List V} (h : RepL X.K X.mg w l vs) : ∀ n : Nat, RepL X.K X.mg w (List.replicate n l).flatten (List.replicate n vs).flatten
  | 0 => .nil
  | n + 1 => by
    rw [List.replicate_succ, List.replicate_succ, List.flatten_cons, List.flatten_cons]
    exact h.append (RepL.rep h n)
theorem om_mul : OpR X (binaryOp .Mult) (OpM X dMul) := by
  intro pins s σ H x y v u Q I rx ry h
  obtain ⟨w, dx, dy, E, rfl, R, qx, qy, P⟩ := h
  unfold dMul at P
  split at P
  · split at P
    · rename_i hm
      cases qx; cases qy
      unfold mulOk at hm
      rw [Bool.or_eq_true, Bool.or_eq_true] at hm
      rcases hm with hm | hm | hm
      · have hm := of_decide_eq_true hm
        exact op_mul pins s σ w.hp _ _ v u Q I rx ry ⟨_, _, rfl, rfl, .inl (by omega), Post.now P R (.int _)⟩
      · have hm := of_decide_eq_true hm
        exact op_mul pins s σ w.hp _ _ v u Q I rx ry ⟨_, _, rfl, rfl, .inr (by omega), Post.now P R (.int _)⟩
      · have hm := of_decide_eq_true hm
        exact op_mulW pins s σ w.hp _ _ v u Q I rx ry ⟨_, _, rfl, rfl, hm, Post.now P R (.int _)⟩
    · exact False.elim P
  · split at P
    · rename_i hm
      cases qx with
      | lst s1 r1 =>
        cases qy
        refine op_rep pins s σ w.hp _ _ v u Q I rx ry ⟨_, _, _, rfl, rfl, s1.1, hm.1, hm.2.1, by rw [← r1.length]; exact hm.2.2, fun p hp => ?_⟩
        exact Post.put P R hp (.lst (put_st R hp) ((RepL.rep r1 _).ext (put_ext R hp).toEx0))
    · exact False.elim P
  · exact False.elim P
def divOk (j : Int) : Bool := j != 0 && decide (j.natAbs.log2 < 9000)
def dDiv : D → D → Option D
  | .int i, .int j => if divOk j then some (.int (i.fdiv j)) else none
  | _, _ => none
theorem op_fdivX : OpR X (binaryOp .FloorDiv) (rI (fun _ j => j ≠ 0 ∧ j.natAbs.log2 < 9000) fun i j => .int (i.fdiv j)) :=
  opI fun i j _ _ _ _ _ hc q => PyProof.Rows.floordiv_int hc.1 q (.inl (PyProof.noPylong_of_log2 hc.2))
theorem om_div : OpR X (binaryOp .FloorDiv) (OpM X dDiv) := by
  intro pins s σ H x y v u Q I rx ry h
  obtain ⟨w, dx, dy, E, rfl, R, qx, qy, P⟩ := h
  unfold dDiv at P
  split at P
  · split at P
    · rename_i hm
      cases qx; cases qy
      unfold divOk at hm
      simp only [Bool.and_eq_true, bne_iff_ne, decide_eq_true_eq] at hm
      exact op_fdivX pins s σ w.hp _ _ v u Q I rx ry ⟨_, _, rfl, rfl, hm, Post.now P R (.int _)⟩
    · exact False.elim P
  · exact False.elim P
def dMod : D → D → Option D
  | .int i, .int j => if j = 0 then none else some (.int (i.fmod j))
  | _, _ => none
theorem om_mod : OpR X (binaryOp .Mod) (OpM X dMod) := by
  intro pins s σ H x y v u Q I rx ry h
  obtain ⟨w, dx, dy, E, rfl, R, qx, qy, P⟩ := h
  unfold dMod at P
  split at P
  · split at P
    · exact False.elim P
    · rename_i hm
      cases qx; cases qy
      exact op_modN pins s σ w.hp _ _ v u Q I rx ry ⟨_, _, rfl, rfl, hm, Post.now P R (.int _)⟩
  · exact False.elim P
def dPow : D → D → Option D
  | .int i, .int j => if 0 ≤ j ∧ j ≤ 1000000 ∧ i.natAbs < 2 ^ 64 then some (.int (i ^ j.toNat)) else none
  | _, _ => none
theorem om_pow : OpR X (binaryOp .Pow) (OpM X dPow) := by
  intro pins s σ H x y v u Q I rx ry h
  obtain ⟨w, dx, dy, E, rfl, R, qx, qy, P⟩ := h
  unfold dPow at P
  split at P
  · split at P
    · rename_i hm
      cases qx; cases qy
      exact op_pow pins s σ w.hp _ _ v u Q I rx ry ⟨_, _, rfl, rfl, hm, Post.now P R (.int _)⟩
    · exact False.elim P
  · exact False.elim P
mutual
def D.toP : D → Option PyData
  | .non => some .none
  | .bl b => some (.bool b)
  | .int i => some (.int i)
  | .str x => some (.str x)
  | .tup l => (toPs l).map .tuple
  | .lst l => (toPs l).map .list
  | .scr l => (toPs l).map .list
  | .dic _ _ => none
  | .loc _ => none
  | .exc _ _ => none
  | .ins _ _ => none
  | .fa _ => none
  | .pin _ _ => none
def toPs : List D → Option (List PyData)
  | [] => some []
  | d :: l => match d.toP, toPs l with
    | some p, some ps => some (p :: ps)
    | _, _ => none
end
mutual
theorem RepD.dp {K : PySem.W.Frag} {mg : Str → Option Value} {w : Wo} {d : D} {v : V} {p : PyData} : RepD K mg w d v → d.toP = some p → Dp K w.hp v p
  | .non, h => by cases h; exact .non
  | .bl b, h => by cases h; exact .bl b
  | .int i, h => by cases h; exact .int i
  | .str x, h => by cases h; exact .str x
  | .tup s r, h => by
    rw [D.toP] at h
    obtain ⟨ps, e, rfl⟩ := Option.map_eq_some_iff.mp h
    exact .tup s.sq (RepL.dp r e)
  | .lst s r, h => by
    rw [D.toP] at h
    obtain ⟨ps, e, rfl⟩ := Option.map_eq_some_iff.mp h
    exact .lst (SqL.of s.1) (RepL.dp r e)
  | .scr s r, h => by
    rw [D.toP] at h
    obtain ⟨ps, e, rfl⟩ := Option.map_eq_some_iff.mp h
    exact .lst s.sq (RepL.dp r e)
  | .dic _ _ _, h => by rw [D.toP] at h; cases h
  | .loc _, h => by rw [D.toP] at h; cases h
  | .ins _ _ _, h => by rw [D.toP] at h; cases h
  | .exc _ _ _ _, h => by rw [D.toP] at h; cases h
  | .fa _, h => by rw [D.toP] at h; cases h
  | .pin _, h => by rw [D.toP] at h; cases h
theorem RepL.dp {K : PySem.W.Frag} {mg : Str → Option Value} {w : Wo} {l : List D} {vs : List V} {ps : List PyData} : RepL K mg w l vs → toPs l = some ps → DpAll K w.hp vs ps
  | .nil, h => by rw [toPs] at h; cases h; exact .nil
  | .cons r t, h => by
    rw [toPs] at h
    split at h
    · rename_i p q e1 e2
      cases h
      exact .cons (RepD.dp r e1) (RepL.dp t e2)
    · cases h
end
def eqP (x y : D) : Option Bool := match x.toP, y.toP with
  | some p, some q => if SeqAt.shaped p && SeqAt.shaped q then some (PyData.eqv p q) else none
  | _, _ => none
def eqD : D → D → Option Bool
  | .str a, .str b => some (decide (a = b))
  | x, y => eqP x y
def dEq (x y : D) : Option D := (eqD x y).map .bl
def dNe (x y : D) : Option D := (eqD x y).map fun b => .bl (!b)
theorem dec_sv (a b : Str) : decide (V.str a = V.str b) = decide (a = b) := by
  by_cases h : a = b
  · subst h; simp
  · rw [decide_eq_false h, decide_eq_false fun z => h (by cases z; rfl)]
theorem eqD_cases {x y : D} {r : Option Bool} (h : eqD x y = r) : (∃ a b, x = .str a ∧ y = .str b ∧ r = some (decide (a = b))) ∨ r = eqP x y := by
  unfold eqD at h
  split at h
  · exact .inl ⟨_, _, rfl, rfl, h.symm⟩
  · exact .inr h.symm
theorem om_eq (hu : X.A.units + 64 < cLine) : OpR X (compareOp .Eq) (OpM X dEq) := by
  intro pins s σ H x y v u Q I rx ry h
  obtain ⟨w, dx, dy, E, rfl, R, qx, qy, P⟩ := h
  unfold dEq at P
  rcases eqD_cases (x := dx) (y := dy) rfl with ⟨a, b, rfl, rfl, e⟩ | e
  · rw [e] at P
    cases qx; cases qy
    exact op_eq pins s σ w.hp _ _ v u Q I rx ry ⟨rfl, by rw [dec_sv]; exact Post.now P R (.bl _)⟩
  · rw [e] at P
    unfold eqP at P
    split at P
    · rename_i p q e1 e2
      split at P
      · rename_i hs
        rw [Bool.and_eq_true] at hs
        exact op_eqD hu pins s σ w.hp _ _ v u Q I rx ry ⟨p, q, qx.dp e1, qy.dp e2, hs.1, hs.2, Post.now P R (.bl _)⟩
      · exact False.elim P
    · exact False.elim P
theorem om_ne (hu : X.A.units + 64 < cLine) : OpR X (compareOp .NotEq) (OpM X dNe) := by
  intro pins s σ H x y v u Q I rx ry h
  obtain ⟨w, dx, dy, E, rfl, R, qx, qy, P⟩ := h
  unfold dNe at P
  rcases eqD_cases (x := dx) (y := dy) rfl with ⟨a, b, rfl, rfl, e⟩ | e
  · rw [e] at P
    cases qx; cases qy
    exact op_ne pins s σ w.hp _ _ v u Q I rx ry ⟨rfl, by rw [dec_sv]; exact Post.now P R (.bl _)⟩
  · rw [e] at P
    unfold eqP at P
    split at P
    · rename_i p q e1 e2
      split at P
      · rename_i hs
        rw [Bool.and_eq_true] at hs
        exact op_neD hu pins s σ w.hp _ _ v u Q I rx ry ⟨p, q, qx.dp e1, qy.dp e2, hs.1, hs.2, Post.now P R (.bl _)⟩
      · exact False.elim P
    · exact False.elim P
def cmpI (f : Int → Int → Bool) : D → D → Option D
  | .int i, .int j => some (.bl (f i j))
  | _, _ => none
theorem om_cmpI {op : CmpOp} {f : Int → Int → Bool} (ho : OpR X (compareOp op) (rI0 fun i j => .bl (f i j))) : OpR X (compareOp op) (OpM X (cmpI f)) := by
  intro pins s σ H x y v u Q I rx ry h
  obtain ⟨w, dx, dy, E, rfl, R, qx, qy, P⟩ := h
  unfold cmpI at P
  split at P
  · cases qx; cases qy
    exact ho pins s σ w.hp _ _ v u Q I rx ry ⟨_, _, rfl, rfl, Post.now P R (.bl _)⟩
  · exact False.elim P
abbrev dLt : D → D → Option D := cmpI fun i j => decide (i < j)
abbrev dLe : D → D → Option D := cmpI fun i j => decide (i ≤ j)
abbrev dGt : D → D → Option D := cmpI fun i j => decide (j < i)
abbrev dGe : D → D → Option D := cmpI fun i j => decide (j ≤ i)
theorem om_lt : OpR X (compareOp .Lt) (OpM X dLt) := om_cmpI op_lt
theorem om_le : OpR X (compareOp .LtE) (OpM X dLe) := om_cmpI op_le
theorem om_gt : OpR X (compareOp .Gt) (OpM X dGt) := om_cmpI op_gt
theorem om_ge : OpR X (compareOp .GtE) (OpM X dGe) := om_cmpI op_ge
def isN : D → Bool
  | .non => true
  | .pin v _ => decide (v = .non)
  | _ => false
theorem RepD.isN {K : PySem.W.Frag} {mg : Str → Option Value} {w : Wo} {d : D} {v : V} (h : RepD K mg w d v) : decide (v = .non) = isN d := by
  cases h <;> simp [G.isN]
def dIs (x y : D) : Option D := if isN y then some (.bl (isN x)) else none
def dIsNot (x y : D) : Option D := if isN y then some (.bl (!isN x)) else none
theorem om_is : OpR X (compareOp .Is) (OpM X dIs) := by
  intro pins s σ H x y v u Q I rx ry h
  obtain ⟨w, dx, dy, E, rfl, R, qx, qy, P⟩ := h
  unfold dIs at P
  split at P
  · rename_i hy
    have ey := qy.isN
    rw [hy] at ey
    exact op_isN pins s σ w.hp _ _ v u Q I rx ry ⟨of_decide_eq_true ey, Post.now P R (by rw [qx.isN]; exact .bl _)⟩
  · exact False.elim P
theorem om_isnot : OpR X (compareOp .IsNot) (OpM X dIsNot) := by
  intro pins s σ H x y v u Q I rx ry h
  obtain ⟨w, dx, dy, E, rfl, R, qx, qy, P⟩ := h
  unfold dIsNot at P
  split at P
  · rename_i hy
    have ey := qy.isN
    rw [hy] at ey
    exact op_notN pins s σ w.hp _ _ v u Q I rx ry ⟨of_decide_eq_true ey, Post.now P R (by rw [qx.isN]; exact .bl _)⟩
  · exact False.elim P
def eChain (f g : D → D → Option D) (a b c : EM) : EM := fun e S => (a e S).bind fun x S1 => (b e S1).bind fun y S2 => (lf (f x y) S2).bind fun z S3 => match z with
  | .bl true => (c e S3).bind fun t S4 => lf (g y t) S4
  | .bl false => .ok (.bl false) S3
  | _ => .stuck
theorem t_chain {f g : D → D → Option D} : ∀ s H Q, tG (RepD X.K X.mg) X W (eChain f g ma mb mc) s H Q → tChain (OpM X f) (OpM X g) (tG (RepD X.K X.mg) X W ma) (tG (RepD X.K X.mg) X W mb) (tG (RepD X.K X.mg) X W mc) s H Q := by
  rintro s H Q ⟨w, en, rfl, R, E, P⟩
  refine ⟨w, en, rfl, R, E, (Post.bind P).imp ?_⟩
  rintro v H1 ⟨w1, x, rfl, X1, R1, rx, P1⟩
  refine ⟨w1, en, rfl, R1, E.ext X1.toEx0, (Post.bind P1).imp ?_⟩
  rintro u H2 ⟨w2, y, rfl, X2, R2, ry, P2⟩
  refine ⟨w2, x, y, _, rfl, R2, rx.ext X2.toEx0, ry, (Post.bind (Rl := RepD X.K X.mg) P2).imp ?_⟩
  rintro z H3 ⟨w3, d, rfl, X3, R3, rz, P3⟩
  cases d with
  | bl b =>
    cases rz
    cases b with
    | true =>
      refine ⟨true, rfl, ?_⟩
      rw [if_pos rfl]
      refine ⟨w3, en, rfl, R3, ((E.ext X1.toEx0).ext X2.toEx0).ext X3.toEx0, (Post.bind P3).imp ?_⟩
      rintro t H4 ⟨w4, d4, rfl, X4, R4, r4, P4⟩
      exact ⟨w4, y, d4, _, rfl, R4, (ry.ext X3.toEx0).ext X4.toEx0, r4, P4⟩
    | false =>
      refine ⟨false, rfl, ?_⟩
      rw [if_neg Bool.false_ne_true]
      exact Post.now P3 R3 (.bl false)
  | _ => exact False.elim P3
theorem re_chain {op op' : CmpOp} {f g : D → D → Option D} (ho : OpR X (compareOp op) (OpM X f)) (ho' : OpR X (compareOp op') (OpM X g)) (ha : RE X W a ma) (hb : RE X W b mb) (hc : RE X W c mc)
    (hm : lastMarks [op, op'] [b, c] = false := by with_unfolding_all rfl) : RE X W (.Compare a [op, op'] [b, c] pos) (eChain f g ma mb mc) := pe_imp (pe_chain ho ho' ha hb hc hm) t_chain
def truD (S : Store) : D → Option Bool
  | .non => some false
  | .bl b => some b
  | .int i => some (i != 0)
  | .str x => if x.length ≤ sizeLine then some ((x.length : Int) != 0) else none
  | .tup l => some (!l.isEmpty)
  | .lst l => some (!l.isEmpty)
  | .scr l => some (!l.isEmpty)
  | .dic _ l => some (!l.isEmpty)
  | .loc n => match S[n]? with
    | some (.lst l) => some (!l.isEmpty)
    | some (.dk l) => some (!l.isEmpty)
    | _ => none
  | _ => none
theorem RepL.emp {K : PySem.W.Frag} {mg : Str → Option Value} {w : Wo} {l : List D} {vs : List V} (h : RepL K mg w l vs) : (!vs.isEmpty) = !l.isEmpty := by cases h <;> rfl
theorem RepK.emp {κ : Type} {K : PySem.W.Frag} {mg : Str → Option Value} {w : Wo} {l : List (κ × D)} {vs : List (κ × V)} (h : RepK κ K mg w l vs) : (!vs.isEmpty) = !l.isEmpty := by cases h <;> rfl
theorem RepD.tru {w : Wo} {d : D} {v : V} {k : Bool} (R : Rep X.K X.mg w) (h : RepD X.K X.mg w d v) (e : truD w.st d = some k) : TruV X.K v w.hp k := by
  cases h with
  | non => cases e; rfl
  | bl b => cases e; rfl
  | int i => cases e; rfl
  | str x =>
    replace e : (if x.length ≤ sizeLine then some ((x.length : Int) != 0) else none) = some k := e
    split at e
    · cases e; exact ⟨by assumption, rfl⟩
    · cases e
  | tup s r => cases e; exact .inr (.inl ⟨_, s.sq, r.emp.symm⟩)
  | lst s r => cases e; exact .inl ⟨_, SqL.of s.1, r.emp.symm⟩
  | scr s r => cases e; exact .inl ⟨_, s.sq, r.emp.symm⟩
  | @dic ks l a vs s z r =>
    cases e
    refine .inr (.inr ⟨_, s.1, ?_⟩)
    rw [← r.emp]
    cases ks with
    | nil => cases vs with
      | nil => rfl
      | cons _ _ => cases z
    | cons _ _ => cases vs with
      | nil => cases z
      | cons _ _ => rfl
  | @loc n a hn =>
    replace e : (match w.st[n]? with
      | some (.lst l) => some (!l.isEmpty)
      | some (.dk l) => some (!l.isEmpty)
      | _ => none) = some k := e
    split at e
    · rename_i l hl
      cases e
      obtain ⟨vs, p, r⟩ := R.cell _ _ _ hn hl
      exact .inl ⟨vs, SqL.of p, r.emp.symm⟩
    · rename_i l hl
      cases e
      obtain ⟨vs, p, r⟩ := R.cell _ _ _ hn hl
      exact .inr (.inr ⟨vs, p, r.emp.symm⟩)
    · cases e
  | ins _ _ _ => cases e
  | exc _ _ _ _ => cases e
  | fa _ => cases e
  | pin _ => cases e
def tT (m : EM) : TM := fun e S => (m e S).bind fun x S1 => lf (truD S1 x) S1
theorem rt_e (ha : RE X W a ma) (he : ∀ whole, isTrue a X.env whole = (do let v ← whole; standAt a.pos; holding [v] (truthy v)) := by intro _; rfl) : RT X W a (tT ma) := by
  refine pt_imp (pt_truth ha he) ?_
  rintro s H Q ⟨w, en, rfl, R, E, P⟩
  refine ⟨w, en, rfl, R, E, (Post.bind P).imp ?_⟩
  rintro v H1 ⟨w1, x, rfl, X1, R1, rx, P1⟩
  dsimp only at P1
  cases h : truD w1.st x with
  | none => rw [h] at P1; exact False.elim P1
  | some k =>
    rw [h] at P1
    exact ⟨k, rx.tru R1 h, Post.now P1 R1 rfl⟩
def tNt (t : TM) : TM := fun e S => (t e S).bind fun b S1 => .ok (!b) S1
def tAn (t u : TM) : TM := fun e S => (t e S).bind fun b S1 => if b then u e S1 else .ok false S1
def tOr' (t u : TM) : TM := fun e S => (t e S).bind fun b S1 => if b then .ok true S1 else u e S1
theorem rt_not (ha : RT X W a ta) : RT X W (.UnaryOp .Not a pos) (tNt ta) := by
  refine pt_imp (pt_not ha) ?_
  rintro s H Q ⟨w, en, rfl, R, E, P⟩
  refine ⟨w, en, rfl, R, E, (Post.bind P).imp ?_⟩
  rintro v H1 ⟨w1, x, rfl, X1, R1, rx, P1⟩
  cases rx
  exact Post.now P1 R1 rfl
theorem rw_and1 (ha : RT X W a ta) : RW X W (.BoolOp .And [a] pos) ta := pw_and1 ha
theorem rw_or1 (ha : RT X W a ta) : RW X W (.BoolOp .Or [a] pos) ta := pw_or1 ha
theorem rw_and {rest : List Expr} (ha : RT X W a ta) (hb : RW X W (.BoolOp .And (b :: rest) pos) tb) : RW X W (.BoolOp .And (a :: b :: rest) pos) (tAn ta tb) := by
  refine pw_imp (pw_and ha hb) ?_
  rintro s H Q ⟨w, en, rfl, R, E, P⟩
  refine ⟨w, en, rfl, R, E, (Post.bind P).imp ?_⟩
  rintro v H1 ⟨w1, x, rfl, X1, R1, rx, P1⟩
  cases rx
  dsimp only at P1
  cases v with
  | true =>
    rw [if_pos rfl] at P1 ⊢
    exact ⟨w1, en, rfl, R1, E.ext X1.toEx0, P1⟩
  | false =>
    rw [if_neg Bool.false_ne_true] at P1 ⊢
    exact Post.now P1 R1 rfl
theorem rw_or {rest : List Expr} (ha : RT X W a ta) (hb : RW X W (.BoolOp .Or (b :: rest) pos) tb) : RW X W (.BoolOp .Or (a :: b :: rest) pos) (tOr' ta tb) := by
  refine pw_imp (pw_or ha hb) ?_
  rintro s H Q ⟨w, en, rfl, R, E, P⟩
  refine ⟨w, en, rfl, R, E, (Post.bind P).imp ?_⟩
  rintro v H1 ⟨w1, x, rfl, X1, R1, rx, P1⟩
  cases rx
  dsimp only at P1
  cases v with
  | true =>
    rw [if_pos rfl] at P1 ⊢
    exact Post.now P1 R1 rfl
  | false =>
    rw [if_neg Bool.false_ne_true] at P1 ⊢
    exact ⟨w1, en, rfl, R1, E.ext X1.toEx0, P1⟩
theorem rt_w (h : RW X W a ta) : RT X W a ta := h.pt
def eAn (a b : EM) : EM := fun e S => (a e S).bind fun x S1 => (lf (truD S1 x) S1).bind fun k S2 => if k then b e S2 else .ok x S2
def eOr (a b : EM) : EM := fun e S => (a e S).bind fun x S1 => (lf (truD S1 x) S1).bind fun k S2 => if k then .ok x S2 else b e S2
def eNt (a : EM) : EM := fun e S => (a e S).bind fun x S1 => (lf (truD S1 x) S1).bind fun k S2 => .ok (.bl (!k)) S2
theorem re_one {op} (h : RE X W a ma) : RE X W (.BoolOp op [a] pos) ma := pe_one h
theorem re_and {rest : List Expr} (ha : RE X W a ma) (hb : RE X W (.BoolOp .And (b :: rest) pos) mb) : RE X W (.BoolOp .And (a :: b :: rest) pos) (eAn ma mb) := by
  refine pe_imp (pe_andT ha hb) ?_
  rintro s H Q ⟨w, en, rfl, R, E, P⟩
  refine ⟨w, en, rfl, R, E, (Post.bind P).imp ?_⟩
  rintro v H1 ⟨w1, x, rfl, X1, R1, rx, P1⟩
  dsimp only at P1
  cases h : truD w1.st x with
  | none => rw [h] at P1; exact False.elim P1
  | some k =>
    rw [h] at P1
    refine ⟨k, rx.tru R1 h, ?_⟩
    replace P1 : Post (RepD X.K X.mg) X.K X.mg w1 (if k = true then mb en w1.st else .ok x w1.st) Q _ := P1
    cases k with
    | true =>
      rw [if_pos rfl] at P1 ⊢
      exact ⟨w1, en, rfl, R1, E.ext X1.toEx0, P1⟩
    | false =>
      rw [if_neg Bool.false_ne_true] at P1 ⊢
      exact Post.now P1 R1 rx
theorem re_not (ha : RE X W a ma) : RE X W (.UnaryOp .Not a pos) (eNt ma) := by
  refine pe_imp (pe_notT ha) ?_
  rintro s H Q ⟨w, en, rfl, R, E, P⟩
  refine ⟨w, en, rfl, R, E, (Post.bind P).imp ?_⟩
  rintro v H1 ⟨w1, x, rfl, X1, R1, rx, P1⟩
  dsimp only at P1
  cases h : truD w1.st x with
  | none => rw [h] at P1; exact False.elim P1
  | some k =>
    rw [h] at P1
    exact ⟨k, rx.tru R1 h, Post.now P1 R1 (.bl _)⟩
def eIf (t : TM) (a b : EM) : EM := fun e S => (t e S).bind fun k S1 => if k then a e S1 else b e S1
theorem re_if (hc : RT X W c ta) (ha : RE X W a ma) (hb : RE X W b mb) : RE X W (.IfExp c a b pos) (eIf ta ma mb) := by
  refine pe_imp (pe_ifExp hc ha hb) ?_
  rintro s H Q ⟨w, en, rfl, R, E, P⟩
  refine ⟨w, en, rfl, R, E, (Post.bind P).imp ?_⟩
  rintro v H1 ⟨w1, x, rfl, X1, R1, rx, P1⟩
  cases rx
  dsimp only at P1
  cases v with
  | true =>
    rw [if_pos rfl] at P1 ⊢
    exact ⟨w1, en, rfl, R1, E.ext X1.toEx0, P1⟩
  | false =>
    rw [if_neg Bool.false_ne_true] at P1 ⊢
    exact ⟨w1, en, rfl, R1, E.ext X1.toEx0, P1⟩
def eNeg (a : EM) : EM := fun e S => (a e S).bind fun x S1 => match x with
  | .int i => .ok (.int (-i)) S1
  | _ => .stuck
theorem re_neg (ha : RE X W a ma) : RE X W (.UnaryOp .USub a pos) (eNeg ma) := by
  refine pe_imp (pe_un un_neg ha) ?_
  rintro s H Q ⟨w, en, rfl, R, E, P⟩
  refine ⟨w, en, rfl, R, E, (Post.bind P).imp ?_⟩
  rintro v H1 ⟨w1, x, rfl, X1, R1, rx, P1⟩
  cases x with
  | int i => cases rx; exact ⟨i, rfl, Post.now P1 R1 (.int _)⟩
  | _ => exact False.elim P1
def aNil : AM := fun _ S => .ok [] S
def aCons (a : EM) (r : AM) : AM := fun e S => (a e S).bind fun x S1 => (r e S1).bind fun xs S2 => .ok (x :: xs) S2
theorem ra_nil : RA X W [] aNil := pa_imp pa_nil fun s H Q ⟨w, en, hw, R, E, P⟩ => by
  subst hw
  exact Post.now P R .nil
theorem ra_cons {mr : AM} (ha : RE X W e ma) (hr : RA X W es mr) (hs : starEach (e :: es) X.env = (false, eval e X.env) :: starEach es X.env := by rfl) : RA X W (e :: es) (aCons ma mr) := by
  refine pa_imp (pa_cons ha hr hs) ?_
  rintro s H Q ⟨w, en, rfl, R, E, P⟩
  refine ⟨w, en, rfl, R, E, (Post.bind P).imp ?_⟩
  rintro v H1 ⟨w1, x, rfl, X1, R1, rx, P1⟩
  refine ⟨w1, en, rfl, R1, E.ext X1.toEx0, (Post.bind P1).imp ?_⟩
  rintro vs H2 ⟨w2, y, rfl, X2, R2, ry, P2⟩
  exact Post.now P2 R2 (.cons (rx.ext X2.toEx0) ry)
def eTup (m : AM) : EM := fun e S => (m e S).bind fun xs S1 => if xs.length ≤ sizeLine then .ok (.tup xs) S1 else .stuck
def eLst (m : AM) : EM := fun e S => (m e S).bind fun xs S1 => if xs.length ≤ sizeLine then .ok (.lst xs) S1 else .stuck
def eNew (m : AM) : EM := fun e S => (m e S).bind fun xs S1 => if xs.length ≤ sizeLine then .ok (.loc S1.length) (S1 ++ [.lst xs]) else .stuck
theorem re_tup {m : AM} {x1} (h : RA X W es m) : RE X W (.Tuple es x1 pos) (eTup m) := by
  refine pe_imp (pe_tup h) ?_
  rintro s H Q ⟨w, en, rfl, R, E, P⟩
  refine ⟨w, en, rfl, R, E, (Post.bind P).imp ?_⟩
  rintro v H1 ⟨w1, x, rfl, X1, R1, rx, P1⟩
  dsimp only at P1
  split at P1
  · rename_i hz
    exact ⟨by rw [← rx.length]; exact hz, fun p hp => Post.put P1 R1 hp (.tup (.inl (put_st R1 hp).o) (rx.ext (put_ext R1 hp).toEx0))⟩
  · exact False.elim P1
theorem re_lst {m : AM} (h : RA X W es m) : RE X W (.List es pos) (eLst m) := by
  refine pe_imp (pe_lst h) ?_
  rintro s H Q ⟨w, en, rfl, R, E, P⟩
  refine ⟨w, en, rfl, R, E, (Post.bind P).imp ?_⟩
  rintro v H1 ⟨w1, x, rfl, X1, R1, rx, P1⟩
  dsimp only at P1
  split at P1
  · rename_i hz
    exact ⟨by rw [← rx.length]; exact hz, fun p hp => Post.put P1 R1 hp (.lst (put_st R1 hp) (rx.ext (put_ext R1 hp).toEx0))⟩
  · exact False.elim P1
theorem Post.new {β γ : Type} {Rl : Wo → β → γ → Prop} {K : PySem.W.Frag} {mg : Str → Option Value} {w : Wo} {b : β} {v : γ} {Q : γ → Hp → Prop} {E : XK} {p : Addr} {o : HO} {c : Cell} (h : Post Rl K mg w (.ok b (w.st ++ [c])) Q E) (R : Rep K mg w) (hn : w.hp p = none)
    (hc : CellR K mg (w.new p o c) p c) (q : Rl (w.new p o c) b v) : Q v (upd w.hp p o) :=
  h (w.new p o c) v (new_ext R hn) (R.new hn hc) rfl q
theorem re_new {m : AM} (h : RA X W es m) : RE X W (.List es pos) (eNew m) := by
  refine pe_imp (pe_lst h) ?_
  rintro s H Q ⟨w, en, rfl, R, E, P⟩
  refine ⟨w, en, rfl, R, E, (Post.bind P).imp ?_⟩
  rintro v H1 ⟨w1, x, rfl, X1, R1, rx, P1⟩
  dsimp only at P1
  split at P1
  · rename_i hz
    refine ⟨by rw [← rx.length]; exact hz, fun p hp => Post.new P1 R1 hp ⟨v, upd_same, rx.ext (new_ext R1 hp).toEx0⟩ (.loc (new_get R1))⟩
  · exact False.elim P1
theorem re_dic0 : RE X W (.Dict [] [] pos) (eC (.dic [] [])) := by
  refine pe_imp pe_dnewK ?_
  rintro s H Q ⟨w, en, rfl, R, E, P⟩
  intro p hp
  exact Post.put P R hp (.dic (vs := []) (put_st R hp) rfl .nil)
end
end G
namespace G
open PySem L2
section
variable {X : Cx} {W : WX} {a b c e o : Expr} {es : List Expr} {ma mb mc me : EM} {ta tb : TM} {pos : Pos}
variable {K : PySem.W.Frag} {mg : Str → Option Value} {w : Wo}
def ixD (S : Store) : D → D → Option D
  | .tup l, .int i => atI l i
  | .lst l, .int i => atI l i
  | .scr l, .int i => atI l i
  | .str x, .int i => if x.length ≤ sizeLine then (atI x.cps.toList i).map fun c => .str ⟨#[c]⟩ else none
  | .loc n, .int i => match S[n]? with
    | some (.lst l) => atI l i
    | _ => none
  | _, _ => none
def OpMS (X : Cx) (f : Store → D → D → Option D) : R2 := fun v u H Q => ∃ w x y E, w.hp = H ∧ Rep X.K X.mg w ∧ RepD X.K X.mg w x v ∧ RepD X.K X.mg w y u ∧ Post (RepD X.K X.mg) X.K X.mg w (lf (f w.st x y) w.st) Q E
def eBinS (f : Store → D → D → Option D) (a b : EM) : EM := fun e S => (a e S).bind fun x S1 => (b e S1).bind fun y S2 => lf (f S2 x y) S2
theorem t_binS {f : Store → D → D → Option D} : ∀ s H Q, tG (RepD X.K X.mg) X W (eBinS f ma mb) s H Q → tOp (OpMS X f) (tG (RepD X.K X.mg) X W ma) (tG (RepD X.K X.mg) X W mb) s H Q := by
  rintro s H Q ⟨w, en, rfl, R, E, P⟩
  refine ⟨w, en, rfl, R, E, (Post.bind P).imp ?_⟩
  rintro v H1 ⟨w1, x, rfl, X1, R1, rx, P1⟩
  refine ⟨w1, en, rfl, R1, E.ext X1.toEx0, (Post.bind P1).imp ?_⟩
  rintro u H2 ⟨w2, y, rfl, X2, R2, ry, P2⟩
  exact ⟨w2, x, y, _, rfl, R2, rx.ext X2.toEx0, ry, P2⟩
theorem om_ix : IxR X (OpMS X ixD) := by
  intro va sl pins s σ H x y v u Q I rx ry h hs
  obtain ⟨w, dx, dy, E, rfl, R, qx, qy, P⟩ := h
  unfold ixD at P
  split at P
  · rename_i l i
    cases qy
    cases qx with
    | tup st r =>
      cases q : atI l i with
      | none => rw [q] at P; exact False.elim P
      | some d =>
        rw [q] at P
        obtain ⟨z, e1, rz⟩ := r.at q
        exact ix_tup va sl pins s σ w.hp _ _ v u Q I rx ry ⟨_, _, _, _, rfl, rfl, st.sq, e1, Post.now P R rz⟩ hs
  · rename_i l i
    cases qy
    cases qx with
    | lst st r =>
      cases q : atI l i with
      | none => rw [q] at P; exact False.elim P
      | some d =>
        rw [q] at P
        obtain ⟨z, e1, rz⟩ := r.at q
        exact ix_list va sl pins s σ w.hp _ _ v u Q I rx ry ⟨_, _, _, _, rfl, rfl, SqL.of st.1, e1, Post.now P R rz⟩ hs
  · rename_i l i
    cases qy
    cases qx with
    | scr st r =>
      cases q : atI l i with
      | none => rw [q] at P; exact False.elim P
      | some d =>
        rw [q] at P
        obtain ⟨z, e1, rz⟩ := r.at q
        exact ix_list va sl pins s σ w.hp _ _ v u Q I rx ry ⟨_, _, _, _, rfl, rfl, st.sq, e1, Post.now P R rz⟩ hs
  · rename_i z i
    cases qy; cases qx
    split at P
    · rename_i hz
      cases q : atI z.cps.toList i with
      | none => rw [q] at P; exact False.elim P
      | some ch =>
        rw [q] at P
        exact ix_str va sl pins s σ w.hp _ _ v u Q I rx ry ⟨_, _, _, rfl, rfl, hz, q, Post.now P R (.str _)⟩ hs
    · exact False.elim P
  · rename_i n i
    cases qy
    cases qx with
    | loc hn =>
      split at P
      · rename_i l hl
        obtain ⟨vs, p, r⟩ := R.cell _ _ _ hn hl
        cases q : atI l i with
        | none => rw [q] at P; exact False.elim P
        | some d =>
          rw [q] at P
          obtain ⟨z, e1, rz⟩ := r.at q
          exact ix_list va sl pins s σ w.hp _ _ v u Q I rx ry ⟨_, _, _, _, rfl, rfl, SqL.of p, e1, Post.now P R rz⟩ hs
      · exact False.elim P
  · exact False.elim P
theorem re_ix (ha : RE X W a ma) (hb : RE X W b mb) (hs : PlainIx b := by intro _ _; rfl) : RE X W (.Subscript a b pos) (eBinS ixD ma mb) := pe_imp (pe_ix om_ix ha hb hs) t_binS
abbrev OM := En → Store → Res (Option Int)
def RlO : Wo → Option Int → Option Int → Prop := fun _ b c => c = b
abbrev RO (X : Cx) (W : WX) (e : Option Expr) (m : OM) : Prop := PO X e (tG RlO X W m)
def oNone : OM := fun _ S => .ok none S
def oSome (m : EM) : OM := fun e S => (m e S).bind fun x S1 => match x with
  | .int i => .ok (some i) S1
  | _ => .stuck
theorem ro_none : RO X W none oNone := ⟨fun pins s σ H Q I ⟨w, en, hw, R, E, P⟩ => po_none.run pins s σ H Q I (by subst hw; exact Post.now P R rfl)⟩
theorem ro_some (ha : RE X W a ma) : RO X W (some a) (oSome ma) := ⟨fun pins s σ H Q I hq => (po_some ha).run pins s σ H Q I (by
  obtain ⟨w, en, rfl, R, E, P⟩ := hq
  refine ⟨w, en, rfl, R, E, (Post.bind P).imp ?_⟩
  rintro v H1 ⟨w1, x, rfl, X1, R1, rx, P1⟩
  cases x with
  | int i => cases rx; exact ⟨i, rfl, Post.now P1 R1 rfl⟩
  | _ => exact False.elim P1)⟩
def cutL {α : Type} (l : List α) (lo hi : Option Int) : List α := (l.drop (HT.sIx l.length 0 lo)).take (HT.sIx l.length l.length hi - HT.sIx l.length 0 lo)
theorem RepL.cut {l : List D} {vs : List V} (h : RepL K mg w l vs) (lo hi : Option Int) : RepL K mg w (cutL l lo hi) (cutV vs lo hi) := by
  unfold cutL cutV
  rw [h.length]
  exact (h.drop _).take _
def slD (S : Store) : D → Option Int → Option Int → Option D
  | .lst l, lo, hi => some (.lst (cutL l lo hi))
  | .scr l, lo, hi => some (.lst (cutL l lo hi))
  | .tup l, lo, hi => if HT.sIx l.length 0 lo = 0 ∧ HT.sIx l.length l.length hi = l.length then none else some (.tup (cutL l lo hi))
  | .loc n, lo, hi => match S[n]? with
    | some (.lst l) => some (.lst (cutL l lo hi))
    | _ => none
  | .str x, lo, hi => if x.length ≤ sizeLine then some (.str (cutS x lo hi)) else none
  | _, _, _ => none
def SlM (X : Cx) : V → Option Int → Option Int → Hp → VK → Prop := fun v lo hi H Q => ∃ w x E, w.hp = H ∧ Rep X.K X.mg w ∧ RepD X.K X.mg w x v ∧ Post (RepD X.K X.mg) X.K X.mg w (lf (slD w.st x lo hi) w.st) Q E
theorem om_sl : SlR X (SlM X) := by
  intro pins s σ H x v vl vu lo hi sl Q I rx hs pl pu h
  obtain ⟨w, dx, E, rfl, R, qx, P⟩ := h
  unfold slD at P
  split at P
  · cases qx with
    | lst st r => exact sl_list pins s σ w.hp _ v vl vu _ _ sl Q I rx hs pl pu ⟨_, _, rfl, SqL.of st.1, fun p hp => Post.put P R hp (.lst (put_st R hp) ((r.cut _ _).ext (put_ext R hp).toEx0))⟩
  · cases qx with
    | scr st r => exact sl_list pins s σ w.hp _ v vl vu _ _ sl Q I rx hs pl pu ⟨_, _, rfl, st.sq, fun p hp => Post.put P R hp (.lst (put_st R hp) ((r.cut _ _).ext (put_ext R hp).toEx0))⟩
  · split at P
    · exact False.elim P
    · rename_i hn
      cases qx with
      | tup st r =>
        rw [r.length] at hn
        exact sl_tup pins s σ w.hp _ v vl vu _ _ sl Q I rx hs pl pu ⟨_, _, rfl, st.sq, hn, fun p hp => Post.put P R hp (.tup (.inl (put_st R hp).o) ((r.cut _ _).ext (put_ext R hp).toEx0))⟩
  · cases qx with
    | loc hn =>
      split at P
      · rename_i l hl
        obtain ⟨vs, p, r⟩ := R.cell _ _ _ hn hl
        exact sl_list pins s σ w.hp _ v vl vu _ _ sl Q I rx hs pl pu ⟨_, _, rfl, SqL.of p, fun p hp => Post.put P R hp (.lst (put_st R hp) ((r.cut _ _).ext (put_ext R hp).toEx0))⟩
      · exact False.elim P
  · split at P
    · rename_i hz
      cases qx
      exact sl_str pins s σ w.hp _ v vl vu _ _ sl Q I rx hs pl pu ⟨_, rfl, hz, Post.now P R (.str _)⟩
    · exact False.elim P
  · exact False.elim P
def eSl (a : EM) (lo hi : OM) : EM := fun e S => (a e S).bind fun x S1 => (lo e S1).bind fun l S2 => (hi e S2).bind fun h S3 => lf (slD S3 x l h) S3
theorem re_sl {lo hi : Option Expr} {ml mh : OM} {p2 : Pos} (ha : RE X W a ma) (hl : RO X W lo ml) (hh : RO X W hi mh) : RE X W (.Subscript a (.Slice lo hi none p2) pos) (eSl ma ml mh) := by
  refine pe_imp (pe_slice om_sl ha hl hh) ?_
  rintro s H Q ⟨w, en, rfl, R, E, P⟩
  refine ⟨w, en, rfl, R, E, (Post.bind P).imp ?_⟩
  rintro v H1 ⟨w1, x, rfl, X1, R1, rx, P1⟩
  refine ⟨w1, en, rfl, R1, E.ext X1.toEx0, (Post.bind P1).imp ?_⟩
  rintro l H2 ⟨w2, y, rfl, X2, R2, ry, P2⟩
  cases ry
  refine ⟨w2, en, rfl, R2, (E.ext X1.toEx0).ext X2.toEx0, (Post.bind P2).imp ?_⟩
  rintro h H3 ⟨w3, z, rfl, X3, R3, rz, P3⟩
  cases rz
  exact ⟨w3, x, _, rfl, R3, (rx.ext X2.toEx0).ext X3.toEx0, P3⟩
def CaM (X : Cx) (f : Store → List D → Option D) : List V → Hp → VK → Prop := fun vs H Q => ∃ w xs E, w.hp = H ∧ Rep X.K X.mg w ∧ RepL X.K X.mg w xs vs ∧ Post (RepD X.K X.mg) X.K X.mg w (lf (f w.st xs) w.st) Q E
def eCa (f : Store → List D → Option D) (m : AM) : EM := fun e S => (m e S).bind fun xs S1 => lf (f S1 xs) S1
theorem t_ca {f : Store → List D → Option D} {m : AM} : ∀ s H Q, tG (RepD X.K X.mg) X W (eCa f m) s H Q → tCB (CaM X f) (tG (RepL X.K X.mg) X W m) s H Q := by
  rintro s H Q ⟨w, en, rfl, R, E, P⟩
  refine ⟨w, en, rfl, R, E, (Post.bind P).imp ?_⟩
  rintro v H1 ⟨w1, x, rfl, X1, R1, rx, P1⟩
  exact ⟨w1, x, _, rfl, R1, rx, P1⟩
theorem re_b {x : Str} {p : Pos} {id : String} {f : Store → List D → Option D} {m : AM} (hc : CallR X (.builtin id) (CaM X f)) (hg : Gl X x) (hm : X.mg x = none) (hv : bootBuiltins x = some (.builtin id)) (ha : RA X W (e :: es) m) (hn : x ≠ "__name__" := by decide) (hdb : (x == ("__debug__" : Str)) = false := by decide)
    (he : starEach (e :: es) X.env = (false, eval e X.env) :: starEach es X.env := by rfl) (hpl : (backTo pos (starEach es X.env)).any (·.1) = false := by rfl) : RE X W (.Call (.Name x p) (e :: es) [] pos) (eCa f m) :=
  pe_imp (pe_callB hc hg hm hv ha hn hdb he hpl) t_ca
theorem re_ty {x : Str} {p : Pos} {T : String} {f : Store → List D → Option D} {m : AM} (hc : CallR X (.type T) (CaM X f)) (hg : Gl X x) (hm : X.mg x = none) (hv : bootBuiltins x = some (.type T)) (ha : RA X W (e :: es) m) (hn : x ≠ "__name__" := by decide) (hdb : (x == ("__debug__" : Str)) = false := by decide)
    (he : starEach (e :: es) X.env = (false, eval e X.env) :: starEach es X.env := by rfl) (hpl : (backTo pos (starEach es X.env)).any (·.1) = false := by rfl) : RE X W (.Call (.Name x p) (e :: es) [] pos) (eCa f m) :=
  pe_imp (pe_callTy hc hg hm hv ha hn hdb he hpl) t_ca
theorem RepL.nil_inv {vs : List V} (h : RepL K mg w [] vs) : vs = [] := by cases h; rfl
theorem RepL.cons_inv {d : D} {l : List D} {vs : List V} (h : RepL K mg w (d :: l) vs) : ∃ v us, vs = v :: us ∧ RepD K mg w d v ∧ RepL K mg w l us := by
  cases h with
  | cons r t => exact ⟨_, _, rfl, r, t⟩
theorem RepL.one_inv {d : D} {vs : List V} (h : RepL K mg w [d] vs) : ∃ v, vs = [v] ∧ RepD K mg w d v := by
  obtain ⟨v, us, rfl, r, t⟩ := h.cons_inv
  rw [t.nil_inv]
  exact ⟨v, rfl, r⟩
theorem RepL.two_inv {d d' : D} {vs : List V} (h : RepL K mg w [d, d'] vs) : ∃ v v', vs = [v, v'] ∧ RepD K mg w d v ∧ RepD K mg w d' v' := by
  obtain ⟨v, us, rfl, r, t⟩ := h.cons_inv
  obtain ⟨v', rfl, r'⟩ := t.one_inv
  exact ⟨v, v', rfl, r, r'⟩
def fAbs : Store → List D → Option D
  | _, [.int i] => some (.int (if i < 0 then -i else i))
  | _, _ => none
theorem cm_abs : CallR X (.builtin "abs") (CaM X fAbs) := by
  intro pins s σ H xs us Q I r h
  obtain ⟨w, ds, E, rfl, R, q, P⟩ := h
  unfold fAbs at P
  split at P
  · obtain ⟨v, rfl, rv⟩ := q.one_inv
    cases rv
    exact call_abs pins s σ w.hp _ us Q I r ⟨_, rfl, Post.now P R (.int _)⟩
  · exact False.elim P
def fMax : Store → List D → Option D
  | _, [.int i, .int j] => some (.int (if j > i then j else i))
  | _, _ => none
theorem cm_max (hc : X.calm = true) : CallR X (.builtin "max") (CaM X fMax) := by
  intro pins s σ H xs us Q I r h
  obtain ⟨w, ds, E, rfl, R, q, P⟩ := h
  unfold fMax at P
  split at P
  · obtain ⟨v, v', rfl, rv, rv'⟩ := q.two_inv
    cases rv; cases rv'
    exact call_max2 hc pins s σ w.hp _ us Q I r ⟨_, _, rfl, Post.now P R (.int _)⟩
  · exact False.elim P
def fMin : Store → List D → Option D
  | _, [.int i, .int j] => some (.int (if j < i then j else i))
  | _, _ => none
theorem cm_min (hc : X.calm = true) : CallR X (.builtin "min") (CaM X fMin) := by
  intro pins s σ H xs us Q I r h
  obtain ⟨w, ds, E, rfl, R, q, P⟩ := h
  unfold fMin at P
  split at P
  · obtain ⟨v, v', rfl, rv, rv'⟩ := q.two_inv
    cases rv; cases rv'
    exact call_min2 hc pins s σ w.hp _ us Q I r ⟨_, _, rfl, Post.now P R (.int _)⟩
  · exact False.elim P
def fLen : Store → List D → Option D
  | S, [d] => (lenD S d).map fun n => .int n
  | _, _ => none
theorem cm_len : CallR X (.builtin "len") (CaM X fLen) := by
  intro pins s σ H xs us Q I r h
  obtain ⟨w, ds, E, rfl, R, q, P⟩ := h
  unfold fLen at P
  split at P
  · rename_i d
    obtain ⟨v, rfl, rv⟩ := q.one_inv
    cases e : lenD w.st d with
    | none => rw [e] at P; exact False.elim P
    | some n =>
      rw [e] at P
      exact call_len pins s σ w.hp _ us Q I r ⟨_, n, rfl, rv.len R e, Post.now P R (.int _)⟩
  · exact False.elim P
def bools : List D → Option (List Bool)
  | [] => some []
  | .bl b :: l => (bools l).map (b :: ·)
  | _ :: _ => none
theorem RepL.bools {l : List D} {vs : List V} {bs : List Bool} (h : RepL K mg w l vs) (e : bools l = some bs) : vs = bs.map V.bl := by
  induction l generalizing vs bs with
  | nil => cases h; cases e; rfl
  | cons d l ih =>
    cases h with
    | cons r t =>
      cases d with
      | bl b =>
        cases r
        rw [G.bools] at e
        obtain ⟨cs, e1, rfl⟩ := Option.map_eq_some_iff.mp e
        rw [ih t e1]; rfl
      | _ => cases e
def fAll : Store → List D → Option D
  | S, [d] => ((seqD S d).bind bools).map fun bs => .bl (bs.all id)
  | _, _ => none
theorem cm_all (hc : X.calm = true) : CallR X (.builtin "all") (CaM X fAll) := by
  intro pins s σ H xs us Q I r h
  obtain ⟨w, ds, E, rfl, R, q, P⟩ := h
  unfold fAll at P
  split at P
  · rename_i d
    obtain ⟨v, rfl, rv⟩ := q.one_inv
    cases e : (seqD w.st d).bind bools with
    | none => rw [e] at P; exact False.elim P
    | some bs =>
      rw [e] at P
      obtain ⟨l, e1, e2⟩ := Option.bind_eq_some_iff.mp e
      obtain ⟨a, vs, rfl, hs, hl⟩ := rv.seq R e1
      exact cr_all hc pins s σ w.hp _ us Q I r ⟨a, bs, rfl, by rw [← hl.bools e2]; exact hs, Post.now P R (.bl _)⟩
  · exact False.elim P
def fTuple : Store → List D → Option D
  | _, [.tup l] => some (.tup l)
  | S, [d] => (seqD S d).map .tup
  | _, _ => none
theorem cm_tuple : CallR X (.type "tuple") (CaM X fTuple) := by
  intro pins s σ H xs us Q I r h
  obtain ⟨w, ds, E, rfl, R, q, P⟩ := h
  unfold fTuple at P
  split at P
  · obtain ⟨v, rfl, rv⟩ := q.one_inv
    cases rv with
    | tup st rl => exact call_tuple_of pins s σ w.hp _ us Q I r ⟨_, _, rfl, .inr ⟨st.sq, Post.now P R (.tup st rl)⟩⟩
  · rename_i d _
    obtain ⟨v, rfl, rv⟩ := q.one_inv
    cases e : seqD w.st d with
    | none => rw [e] at P; exact False.elim P
    | some l =>
      rw [e] at P
      obtain ⟨a, vs, rfl, hs, hl⟩ := rv.seq R e
      exact call_tuple_of pins s σ w.hp _ us Q I r ⟨_, _, rfl, .inl ⟨hs, fun p hp => Post.put P R hp (.tup (.inl (put_st R hp).o) (hl.ext (put_ext R hp).toEx0))⟩⟩
  · exact False.elim P
theorem bt_isinstance : bootBuiltins "isinstance" = some (.builtin "isinstance") := by decide +kernel
theorem bt_abs : bootBuiltins "abs" = some (.builtin "abs") := by decide +kernel
theorem bt_max : bootBuiltins "max" = some (.builtin "max") := by decide +kernel
theorem bt_min : bootBuiltins "min" = some (.builtin "min") := by decide +kernel
theorem bt_len : bootBuiltins "len" = some (.builtin "len") := by decide +kernel
theorem bt_divmod : bootBuiltins "divmod" = some (.builtin "divmod") := by decide +kernel
theorem bt_all : bootBuiltins "all" = some (.builtin "all") := by decide +kernel
theorem bt_int : bootBuiltins "int" = some (.type "int") := by decide +kernel
theorem bt_bool : bootBuiltins "bool" = some (.type "bool") := by decide +kernel
theorem bt_tuple : bootBuiltins "tuple" = some (.type "tuple") := by decide +kernel
theorem bt_ValueError : bootBuiltins "ValueError" = some (.type "ValueError") := by decide +kernel
theorem bt_LookupError : bootBuiltins "LookupError" = some (.type "LookupError") := by decide +kernel
theorem bt_ArithmeticError : bootBuiltins "ArithmeticError" = some (.type "ArithmeticError") := by decide +kernel
def Tn.is : Tn → Ty → Bool
  | .int, .int => true
  | .bool, .int => true
  | .bool, .bool => true
  | .str, .str => true
  | .tuple, .tuple => true
  | .list, .list => true
  | .dict, .dict => true
  | _, _ => false
theorem Tn.kit (t : Tn) (y : Ty) : L2.kitB t.nm y.nm = some (t.is y) := by
  cases t <;> cases y <;> decide +kernel
def tyC : Option Cell → Option Tn
  | some (.lst _) => some .list
  | some (.dk _) => some .dict
  | _ => none
def tyD (S : Store) : D → Option Tn
  | .non => some .non
  | .bl _ => some .bool
  | .int _ => some .int
  | .str _ => some .str
  | .tup _ => some .tuple
  | .lst _ => some .list
  | .scr _ => some .list
  | .dic _ _ => some .dict
  | .loc n => tyC S[n]?
  | .exc _ _ => none
  | .ins _ _ => none
  | .fa _ => none
  | .pin _ _ => none
def isTy (S : Store) (y : Ty) (d : D) : Option Bool := (tyD S d).map fun t => t.is y
theorem RepD.tyX {d : D} {v : V} {t : Tn} (R : Rep K mg w) (h : RepD K mg w d v) (e : tyD w.st d = some t) : TyX K w.hp v (.type t.nm) := by
  cases h with
  | non => cases e; exact .base .non
  | bl k => cases e; exact .base (.bl k)
  | int i => cases e; exact .base (.int i)
  | str x => cases e; exact .base (.str x)
  | tup s r =>
    cases e
    rcases s with ⟨s | ⟨o, s⟩, _⟩ | ⟨o, its, n, hk, hc, _⟩
    · exact .base (.tup s)
    · exact .fTuple s
    · exact .kTuple hk hc
  | lst s r => cases e; exact .base (.lst s.1)
  | scr s r =>
    cases e
    rcases s with ⟨s | ⟨o, s⟩, _⟩ | ⟨o, its, n, hk, hc, _⟩
    · exact .base (.lst s)
    · exact .base (.frz s)
    · exact .kList hk hc
  | dic s z r => cases e; exact .base (.dK s.1)
  | @loc m a hn =>
    replace e : tyC w.st[m]? = some t := e
    cases q : w.st[m]? with
    | none => rw [q] at e; cases e
    | some cl =>
      rw [q] at e
      cases cl with
      | lst l =>
        cases e
        obtain ⟨vs, p, r⟩ := R.cell _ _ _ hn q
        exact .base (.lst p)
      | dk l =>
        cases e
        obtain ⟨vs, p, r⟩ := R.cell _ _ _ hn q
        exact .base (.dK p)
      | _ => cases e
  | ins _ _ _ => cases e
  | exc _ _ _ _ => cases e
  | fa _ => cases e
  | pin _ => cases e
def eIsTy (y : Ty) (m : EM) : EM := fun e S => (m e S).bind fun x S1 => lf ((isTy S1 y x).map .bl) S1
theorem re_isTy {T : Str} {p p2 : Pos} (y : Ty) (hm : X.mg "isinstance" = none) (hT : X.mg T = none) (hv : bootBuiltins T = some (.type y.nm)) (ha : RE X W a ma) (hg : Gl X "isinstance" := by rfl) (hgT : Gl X T := by rfl) (hn : T ≠ "__name__" := by decide) (hdT : (T == ("__debug__" : Str)) = false := by decide)
    (he : starEach (a :: [.Name T p2]) X.env = (false, eval a X.env) :: starEach [.Name T p2] X.env := by rfl) (hpl : (backTo pos (starEach [.Name T p2] X.env)).any (·.1) = false := by rfl) (hs2 : starEach [.Name T p2] X.env = (false, eval (.Name T p2) X.env) :: starEach [] X.env := by rfl) :
    RE X W (.Call (.Name "isinstance" p) [a, .Name T p2] [] pos) (eIsTy y ma) := by
  refine pe_imp (pe_callB call_isi hg hm bt_isinstance (pa_cons ha (pa_cons (pe_bltn (v := .ty y.nm) hgT hT hv rfl hn hdT) pa_nil hs2) he) (by decide) (by decide) he hpl) ?_
  rintro s H Q ⟨w, en, rfl, R, E, P⟩
  refine ⟨w, en, rfl, R, E, (Post.bind P).imp ?_⟩
  rintro v H1 ⟨w1, d, rfl, X1, R1, rx, P1⟩
  dsimp only at P1
  unfold isTy at P1
  cases q : tyD w1.st d with
  | none => rw [q] at P1; exact False.elim P1
  | some t =>
    rw [q] at P1
    exact ⟨v, .ty y.nm, .type t.nm, .type y.nm, t.is y, rfl, .ty _, rx.tyX R1 q, kit_ty (t.kit y), Post.now P1 R1 (.bl _)⟩
end
end G
namespace G
open PySem L2
abbrev RS (X : Cx) (W : WX) (st : Stmt) (m : SM) : Prop := PS X st (tS X W m)
abbrev RSs (X : Cx) (W : WX) (st : List Stmt) (m : SM) : Prop := PSs X st (tS X W m)
section
variable {X : Cx} {W : WX} {a b c e o : Expr} {es : List Expr} {ma mb mc me : EM} {ta tb : TM} {pos : Pos} {st : Stmt} {rest : List Stmt} {m n : SM}
theorem ps_imp {t t' : TS} (h : PS X st t) (i : ∀ D s H, t' D s H → t D s H) : PS X st t' := ⟨fun pins s σ H D I q => h.run pins s σ H D I (i _ _ _ q)⟩
theorem pss_imp {t t' : TS} (h : PSs X rest t) (i : ∀ D s H, t' D s H → t D s H) : PSs X rest t' := ⟨fun pins s σ H D I q => h.run pins s σ H D I (i _ _ _ q)⟩
def sNop : SM := fun e S => .nxt e S
theorem rss_nil : RSs X W [] sNop := pss_imp pss_nil fun D s H ⟨w, en, hw, R, E, P⟩ => by
  subst hw
  exact P w s (Ext.refl w) R rfl E
def sSeq (m n : SM) : SM := fun e S => sS (m e S) n
theorem rss_cons (h1 : RS X W st m) (h2 : RSs X W rest n) : RSs X W (st :: rest) (sSeq m n) := by
  refine pss_imp (pss_cons h1 h2) ?_
  rintro D s H ⟨w, en, rfl, R, E, P⟩
  exact ⟨w, en, rfl, R, E, PostS.s P⟩
theorem rss_one (h1 : RS X W st m) : RSs X W [st] m := pss_one h1
def sBrk : SM := fun e S => .brk e S
def sCnt : SM := fun e S => .cnt e S
def sDrop (m : EM) : SM := fun e S => sE (m e S) e fun _ S1 => .nxt e S1
theorem rs_expr (he : RE X W e me) (hs : swapsWith e none pos.line X.env = pure false := by rfl) : RS X W (.Expr e pos) (sDrop me) := by
  refine ps_imp (ps_expr he hs) ?_
  rintro D s H ⟨w, en, rfl, R, E, P⟩
  refine ⟨w, en, rfl, R, E, (PostS.of P E).imp ?_⟩
  rintro v H1 ⟨w1, x, rfl, X1, R1, rx, P1⟩
  exact P1 w1 s (Ext.refl w1) R1 rfl (E.ext X1.toEx0)
def sRet (m : EM) : SM := fun e S => sE (m e S) e fun d S1 => .ret d S1
theorem rs_ret (he : RE X W e me) : RS X W (.Return (some e) pos) (sRet me) := by
  refine ps_imp (ps_ret he) ?_
  rintro D s H ⟨w, en, rfl, R, E, P⟩
  refine ⟨w, en, rfl, R, E, (PostS.of P E).imp ?_⟩
  rintro v H1 ⟨w1, x, rfl, X1, R1, rx, P1⟩
  exact P1 w1 v (Ext.refl w1) R1 rfl rx
def sRetN : SM := fun e S => .ret .non S
def sIf (t : TM) (m n : SM) : SM := fun e S => sE (t e S) e fun k S1 => if k then m e S1 else n e S1
theorem rs_if {p q : List Stmt} (hc : RT X W c ta) (ha : RSs X W p m) (hb : RSs X W q n) : RS X W (.If c p q pos) (sIf ta m n) := by
  refine ps_imp (ps_if hc ha hb) ?_
  rintro D s H ⟨w, en, rfl, R, E, P⟩
  refine ⟨w, en, rfl, R, E, (PostS.of P E).imp ?_⟩
  rintro v H1 ⟨w1, x, rfl, X1, R1, rx, P1⟩
  cases rx
  dsimp only at P1
  cases v with
  | true =>
    rw [if_pos rfl] at P1 ⊢
    exact ⟨w1, en, rfl, R1, E.ext X1.toEx0, P1⟩
  | false =>
    rw [if_neg Bool.false_ne_true] at P1 ⊢
    exact ⟨w1, en, rfl, R1, E.ext X1.toEx0, P1⟩
abbrev GM := D → En → Store → Res En
def tGt (X : Cx) (W : WX) (g : GM) : TG := fun v s H Q => ∃ w e d, w.hp = H ∧ Rep X.K X.mg w ∧ RepE X.K X.mg w e s ∧ RepD X.K X.mg w d v ∧ Post (RepE X.K X.mg) X.K X.mg w (g d e w.st) Q (fun cls dd H' => W cls dd s H')
abbrev RG (X : Cx) (W : WX) (tg : Expr) (g : GM) : Prop := PG X tg (tGt X W g)
theorem pg_imp {tg : Expr} {t t' : TG} (h : PG X tg t) (i : ∀ v s H Q, t' v s H Q → t v s H Q) : PG X tg t' := ⟨fun pins s σ H v u Q I r q => h.run pins s σ H v u Q I r (i _ _ _ _ q)⟩
def gN (i : Nat) : GM := fun d e S => .ok (e.set i (some d)) S
theorem rg_name {i : Nat} {x : Str} (hN : X.N.Nodup) (hi : X.N[i]? = some x) (hx : Loc X.env.scope x := by first | exact Or.inl rfl | exact Or.inr rfl) (hf : X.fn x = true ∨ X.env.scope.names.lookup x = some .local := by first | exact .inl rfl | exact .inr rfl | assumption) : RG X W (.Name x pos) (gN i) := by
  refine pg_imp (pg_name hN hi hx hf) ?_
  rintro v s H Q ⟨w, en, d, rfl, R, E, rd, P⟩
  exact Post.now P R (E.set i rd)
abbrev GMs := List D → En → Store → Res En
def tGts (X : Cx) (W : WX) (g : GMs) : TGs := fun vs s H Q => ∃ w e ds, w.hp = H ∧ Rep X.K X.mg w ∧ RepE X.K X.mg w e s ∧ RepL X.K X.mg w ds vs ∧ Post (RepE X.K X.mg) X.K X.mg w (g ds e w.st) Q (fun cls dd H' => W cls dd s H')
abbrev RGs (X : Cx) (W : WX) (ts : List Expr) (g : GMs) : Prop := PGs X ts (tGts X W g)
theorem pgs_imp {ts : List Expr} {t t' : TGs} (h : PGs X ts t) (i : ∀ v s H Q, t' v s H Q → t v s H Q) : PGs X ts t' := ⟨fun pins s σ H v u Q I r q => h.run pins s σ H v u Q I r (i _ _ _ _ q)⟩
def gsNil : GMs := fun ds e S => match ds with
  | [] => .ok e S
  | _ => .stuck
theorem rgs_nil : RGs X W [] gsNil := by
  refine pgs_imp pgs_nil ?_
  rintro v s H Q ⟨w, en, ds, rfl, R, E, rd, P⟩
  cases rd with
  | nil => exact ⟨rfl, Post.now P R E⟩
  | cons _ _ => exact False.elim P
def noX {β : Type} : Res β → Res β
  | .exc _ _ => .stuck
  | r => r
def gsCons' (g : GM) (r : GMs) : GMs := fun ds e S => match ds with
  | d :: ds => (noX (g d e S)).bind fun e1 S1 => noX (r ds e1 S1)
  | _ => .stuck
theorem Post.noX {β γ : Type} {Rl : Wo → β → γ → Prop} {K : PySem.W.Frag} {mg : Str → Option Value} {w : Wo} {r : Res β} {Q : γ → Hp → Prop} {E E' : XK} (h : Post Rl K mg w (G.noX r) Q E) : Post Rl K mg w r Q E' := by
  cases r with
  | ok _ _ => exact h
  | exc _ _ => exact False.elim h
  | stuck => exact h
theorem rgs_cons {tg : Expr} {ts : List Expr} {g : GM} {r : GMs} (h1 : RG X W tg g) (h2 : RGs X W ts r)
    (hs : (assignEach (tg :: ts) X.env).map (·.2) = assign tg X.env :: (assignEach ts X.env).map (·.2) := by rfl) : RGs X W (tg :: ts) (gsCons' g r) := by
  refine pgs_imp (pgs_cons h1 h2 hs) ?_
  rintro v s H Q ⟨w, en, ds, rfl, R, E, rd, P⟩
  cases rd with
  | nil => exact False.elim P
  | cons r1 r2 =>
    refine ⟨_, _, rfl, w, en, _, rfl, R, E, r1, Post.noX (E := fun cls dd H' => W cls dd s H') ((Post.bind P).imp ?_)⟩
    rintro s1 H1 ⟨w1, e1, rfl, X1, R1, E1, P1⟩
    exact ⟨w1, e1, _, rfl, R1, E1, r2.ext X1.toEx0, Post.noX P1⟩
def gTp (n : Nat) (r : GMs) : GM := fun d e S => match d with
  | .tup ds => if ds.length = n then r ds e S else .stuck
  | _ => .stuck
theorem rg_tup {ts : List Expr} {k n : Nat} {r : GMs} (hc : X.calm = true) (h : RGs X W ts r) (hn : (assignEach ts X.env).length = n := by rfl) (hst : (assignEach ts X.env).findIdx? (·.1) = none := by rfl) : RG X W (.Tuple ts k pos) (gTp n r) := by
  refine pg_imp (pg_tup hc h hn hst) ?_
  rintro v s H Q ⟨w, en, d, rfl, R, E, rd, P⟩
  unfold gTp at P
  split at P
  · split at P
    · rename_i hl
      cases rd with
      | tup st rl => exact ⟨_, _, rfl, st.sq, by rw [← rl.length]; exact hl, w, en, _, rfl, R, E, rl, P⟩
    · exact False.elim P
  · exact False.elim P
def setD (S : Store) (o i d : D) : Option Store := match o, i with
  | .loc n, .int k => match S[n]? with
    | some (.lst l) => (ixN l.length k).map fun j => S.set n (.lst (l.set j d))
    | _ => none
  | _, _ => none
def gSb (o i : EM) : GM := fun d e S => (noX (o e S)).bind fun x S1 => (noX (i e S1)).bind fun y S2 => match setD S2 x y d with
  | some S3 => .ok e S3
  | none => .stuck
theorem rg_sub (ho : RE X W o ma) (hi : RE X W b mb)
    (ha : ∀ v, assign (.Subscript o b pos) X.env v = (do
      let ov ← holding [v] (eval o X.env)
      let iv ← holding [v, ov] (eval b X.env)
      standAt pos
      holding [v, ov, iv] (setItem ov iv v)
      release [v, ov, iv] []) := by intro _; rfl) : RG X W (.Subscript o b pos) (gSb ma mb) := by
  refine pg_imp (pg_sub ho hi set_list ha) ?_
  rintro v s H Q ⟨w, en, d, rfl, R, E, rd, P⟩
  refine ⟨w, en, rfl, R, E, Post.noX (E := fun cls dd H' => W cls dd s H') ((Post.bind P).imp ?_)⟩
  rintro ov H1 ⟨w1, x, rfl, X1, R1, rx, P1⟩
  refine ⟨w1, en, rfl, R1, E.ext X1.toEx0, Post.noX (E := fun cls dd H' => W cls dd s H') ((Post.bind P1).imp ?_)⟩
  rintro iv H2 ⟨w2, y, rfl, X2, R2, ry, P2⟩
  have rx' := rx.ext X2.toEx0
  dsimp only at P2
  cases q : setD w2.st x y d with
  | none => rw [q] at P2; exact False.elim P2
  | some S3 =>
    rw [q] at P2
    unfold setD at q
    split at q
    · rename_i m k
      cases ry
      cases rx' with
      | @loc _ ad hn =>
        split at q
        · rename_i l hl
          obtain ⟨j, e1, rfl⟩ := Option.map_eq_some_iff.mp q
          obtain ⟨vs, p, r⟩ := R2.cell _ _ _ hn hl
          have rd' := (rd.ext X1.toEx0).ext X2.toEx0
          have Xw : Ext w2 (w2.wr m ad (.lst (vs.set j v)) (.lst (l.set j d))) := wr_ext R2 hn hl (by intro z; cases z)
          refine ⟨_, vs, k, j, rfl, rfl, p, by rw [← r.length]; exact e1, ?_⟩
          exact P2 (w2.wr m ad (.lst (vs.set j v)) (.lst (l.set j d))) s Xw (R2.wr hn hl (by intro z; cases z) ⟨_, upd_same, (r.set rd' j).ext Xw.toEx0⟩) rfl (((E.ext X1.toEx0).ext X2.toEx0).ext Xw.toEx0)
        · cases q
    · cases q
def sAsg (m : EM) (g : GM) : SM := fun e S => sE (m e S) e fun d S1 => sE (g d e S1) e fun e1 S2 => .nxt e1 S2
theorem rs_asg {tg : Expr} {g : GM} (he : RE X W e me) (hg : RG X W tg g) (hs : swapsWithSole [tg] e pos.line X.env = pure false := by rfl) (hw : swappedStores [tg] e X.env = pure none := by rfl)
    (h1 : (assignEach [tg] X.env).map (·.2) = [assign tg X.env] := by rfl) : RS X W (.Assign [tg] e pos) (sAsg me g) := by
  refine ps_imp (ps_asg he hg hs hw h1) ?_
  rintro D s H ⟨w, en, rfl, R, E, P⟩
  refine ⟨w, en, rfl, R, E, (PostS.of P E).imp ?_⟩
  rintro v H1 ⟨w1, x, rfl, X1, R1, rx, P1⟩
  refine ⟨w1, en, x, rfl, R1, E.ext X1.toEx0, rx, (PostS.of P1 (E.ext X1.toEx0)).imp ?_⟩
  rintro s1 H2 ⟨w2, e2, rfl, X2, R2, E2, P2⟩
  exact P2 w2 s1 (Ext.refl w2) R2 rfl E2
def sSet (i : Nat) (m : EM) : SM := fun e S => sE (m e S) e fun d S1 => .nxt (e.set i (some d)) S1
theorem rs_set {i : Nat} {x : Str} {pos' : Pos} (hN : X.N.Nodup) (hi : X.N[i]? = some x) (he : RE X W e me) (hx : Loc X.env.scope x := by first | exact Or.inl rfl | exact Or.inr rfl) (hs : swapsWith e (some (.Name x pos')) pos.line X.env = pure false := by rfl) (hf : X.fn x = true ∨ X.env.scope.names.lookup x = some .local := by first | exact .inl rfl | exact .inr rfl | assumption) :
    RS X W (.Assign [.Name x pos'] e pos) (sSet i me) := by
  refine ps_imp (ps_set hN hi hx he hs hf) ?_
  rintro D s H ⟨w, en, rfl, R, E, P⟩
  refine ⟨w, en, rfl, R, E, (PostS.of P E).imp ?_⟩
  rintro v H1 ⟨w1, x, rfl, X1, R1, rx, P1⟩
  exact P1 w1 _ (Ext.refl w1) R1 rfl ((E.ext X1.toEx0).set i rx)
def sPar (i j : Nat) (m : AM) : SM := fun e S => sE (m e S) e fun ds S1 => match ds with
  | [x, y] => .nxt ((e.set i (some x)).set j (some y)) S1
  | _ => .stuck
theorem rs_par {i j : Nat} {x y : Str} {m : AM} {px py pt : Pos} {kt k2 pt2} (hc : X.calm = true) (hN : X.N.Nodup) (hi : X.N[i]? = some x) (hj : X.N[j]? = some y) (hij : i ≠ j) (ha : RA X W [a, b] m)
    (hx : X.env.scope.names.lookup x = some .local := by rfl) (hy : X.env.scope.names.lookup y = some .local := by rfl)
    (hw : swappedStores [.Tuple [.Name x px, .Name y py] kt pt] (.Tuple [a, b] k2 pt2) X.env = pure (some [x, y]) := by rfl)
    (hs : swapsWithSole [.Tuple [.Name x px, .Name y py] kt pt] (.Tuple [a, b] k2 pt2) pos.line X.env = pure false := by rfl) :
    RS X W (.Assign [.Tuple [.Name x px, .Name y py] kt pt] (.Tuple [a, b] k2 pt2) pos) (sPar i j m) := by
  refine ps_imp (ps_par hc hN hi hj hij hx hy ha hw hs) ?_
  rintro D s H ⟨w, en, rfl, R, E, P⟩
  refine ⟨w, en, rfl, R, E, (PostS.of P E).imp ?_⟩
  rintro v H1 ⟨w1, ds, rfl, X1, R1, rx, P1⟩
  dsimp only at P1
  split at P1
  · obtain ⟨v, v', rfl, r1, r2⟩ := rx.two_inv
    exact ⟨v, v', rfl, P1 w1 _ (Ext.refl w1) R1 rfl (((E.ext X1.toEx0).set i r1).set j r2)⟩
  · exact False.elim P1
def wlR (t : TM) (m : SM) : Nat → SM
  | 0 => fun _ _ => .stuck
  | k + 1 => fun e S => sE (t e S) e fun b S1 => if b then (match m e S1 with
    | .nxt e2 S2 => wlR t m k e2 S2
    | .cnt e2 S2 => wlR t m k e2 S2
    | .brk e2 S2 => .nxt e2 S2
    | r => r) else .nxt e S1
theorem rs_while (k : Nat) {body : List Stmt} (hp : PassesOwn (model X.prog X.w) X.A X.env X.xe) (hc : RT X W c ta) (hb : RSs X W body m) : RS X W (.While c body [] pos) (wlR ta m k) := by
  refine ps_imp (ps_while hp hc hb) ?_
  rintro D s H ⟨w, en, rfl, R, E, P⟩
  refine ⟨fun j s H => ∃ w e, w.hp = H ∧ Rep X.K X.mg w ∧ RepE X.K X.mg w e s ∧ PostS X W w (wlR ta m j e w.st) D, ⟨k, w, en, rfl, R, E, P⟩, ?_⟩
  rintro j s H ⟨w, en, rfl, R, E, P⟩
  cases j with
  | zero => exact False.elim P
  | succ j =>
    refine ⟨w, en, rfl, R, E, (PostS.of P E).imp ?_⟩
    rintro v H1 ⟨w1, x, rfl, X1, R1, rx, P1⟩
    cases rx
    dsimp only at P1
    cases v with
    | false =>
      rw [if_neg Bool.false_ne_true] at P1 ⊢
      exact P1 w1 s (Ext.refl w1) R1 rfl (E.ext X1.toEx0)
    | true =>
      rw [if_pos rfl] at P1 ⊢
      refine ⟨fun s' H' => ∃ w e, w.hp = H' ∧ Rep X.K X.mg w ∧ RepE X.K X.mg w e s' ∧ PostS X W w (wlR ta m j e w.st) D, fun s' H' h => ⟨j, Nat.lt_succ_self j, h⟩, w1, en, rfl, R1, E.ext X1.toEx0, ?_⟩
      cases q : m en w1.st with
      | nxt e S =>
        rw [q] at P1
        exact fun w2 s2 x2 R2 st E2 => ⟨w2, e, rfl, R2, E2, by rw [st]; exact PostS.ext P1 x2⟩
      | cnt e S =>
        rw [q] at P1
        exact fun w2 s2 x2 R2 st E2 => ⟨w2, e, rfl, R2, E2, by rw [st]; exact PostS.ext P1 x2⟩
      | brk e S => rw [q] at P1; exact P1
      | ret e S => rw [q] at P1; exact P1
      | exc y e S => rw [q] at P1; exact P1
      | stuck => rw [q] at P1; exact P1
def ItsR (X : Cx) : Wo → List D → It → Prop := fun w ds J => ∀ w2, Ex0 w w2 → Fz w w2 → Rep X.K X.mg w2 →
  (∀ i, i < ds.length → J.go i w2.hp ∧ ∀ x H', J.yld i w2.hp x H' → ∃ w3 d, w3.hp = H' ∧ Ext w2 w3 ∧ Rep X.K X.mg w3 ∧ w3.st = w2.st ∧ w3.al = w2.al ∧ ds[i]? = some d ∧ RepD X.K X.mg w3 d x) ∧ J.stop ds.length w2.hp
abbrev RI (X : Cx) (W : WX) (tg it : Expr) (m : AM) : Prop := PI X tg it (tG (ItsR X) X W m)
theorem its_list {w : Wo} {ds : List D} {ad : Addr} {vs : List V} (st : ∀ w2, Ex0 w w2 → SqL X.K w2.hp ad vs) (r : RepL X.K X.mg w ds vs) : ItsR X w ds (Itl X.K ad) := by
  intro w2 x2 _ R2
  have s2 := st w2 x2
  refine ⟨fun i hi => ⟨⟨vs, vs[i]'(by rw [← r.length]; exact hi), s2, by simp⟩, fun x H' y => ?_⟩, ⟨vs, s2, by rw [r.length]; exact Nat.le_refl _⟩⟩
  obtain ⟨rfl, y⟩ := y
  obtain ⟨d, e1, rd⟩ := r.getV (y vs s2)
  exact ⟨w2, d, rfl, Ext.refl w2, R2, rfl, rfl, e1, rd.ext x2⟩
theorem its_tup {w : Wo} {ds : List D} {ad : Addr} {vs : List V} (st : ∀ w2, Ex0 w w2 → SqT X.K w2.hp ad vs) (r : RepL X.K X.mg w ds vs) : ItsR X w ds (Itt X.K ad) := by
  intro w2 x2 _ R2
  have s2 := st w2 x2
  refine ⟨fun i hi => ⟨⟨vs, vs[i]'(by rw [← r.length]; exact hi), s2, by simp⟩, fun x H' y => ?_⟩, ⟨vs, s2, by rw [r.length]; exact Nat.le_refl _⟩⟩
  obtain ⟨rfl, y⟩ := y
  obtain ⟨d, e1, rd⟩ := r.getV (y vs s2)
  exact ⟨w2, d, rfl, Ext.refl w2, R2, rfl, rfl, e1, rd.ext x2⟩
def iSeq (m : EM) : AM := fun e S => (m e S).bind fun d S1 => match d with
  | .tup l => .ok l S1
  | .lst l => .ok l S1
  | .scr l => .ok l S1
  | _ => .stuck
theorem ri_e {tg : Expr} (ha : RE X W a ma) : RI X W tg a (iSeq ma) := by
  refine ⟨fun pins s σ H R' I h => ?_⟩
  obtain ⟨w, en, rfl, R, E, P⟩ := h
  cases q : ma en w.st with
  | stuck => unfold iSeq at P; rw [q] at P; exact False.elim P
  | exc x S =>
    unfold iSeq at P; rw [q] at P
    exact (pi_list ha).run pins s σ w.hp R' I ⟨w, en, rfl, R, E, by rw [q]; exact P⟩
  | ok d S =>
    unfold iSeq at P; rw [q] at P
    cases d with
    | tup l =>
      refine (pi_tup ha).run pins s σ w.hp R' I ⟨w, en, rfl, R, E, ?_⟩
      rw [q]
      intro w1 v x1 R1 s1 r1
      cases r1 with
      | tup st rl => exact ⟨_, rfl, ⟨_, st.sq⟩, P w1 _ x1 R1 s1 (its_tup (fun w2 x2 => (st.ext x2).sq) rl)⟩
    | lst l =>
      refine (pi_list ha).run pins s σ w.hp R' I ⟨w, en, rfl, R, E, ?_⟩
      rw [q]
      intro w1 v x1 R1 s1 r1
      cases r1 with
      | lst st rl => exact ⟨_, rfl, ⟨_, SqL.of st.1⟩, P w1 _ x1 R1 s1 (its_list (fun w2 x2 => SqL.of (st.ext x2).1) rl)⟩
    | scr l =>
      refine (pi_list ha).run pins s σ w.hp R' I ⟨w, en, rfl, R, E, ?_⟩
      rw [q]
      intro w1 v x1 R1 s1 r1
      cases r1 with
      | scr st rl => exact ⟨_, rfl, ⟨_, st.sq⟩, P w1 _ x1 R1 s1 (its_list (fun w2 x2 => (st.ext x2).sq) rl)⟩
    | _ => exact False.elim P
def rangeD (lo : Int) (n : Nat) : List D := (List.range n).map fun k => .int (lo + (k : Nat))
theorem its_range {w : Wo} (lo : Int) (n : Nat) : ItsR X w (rangeD lo n) (Itr lo n) := by
  intro w2 x2 _ R2
  have hl : (rangeD lo n).length = n := by unfold rangeD; simp
  refine ⟨fun i hi => ⟨by rw [hl] at hi; exact hi, fun x H' y => ?_⟩, by rw [hl]; exact Nat.le_refl _⟩
  obtain ⟨rfl, rfl⟩ := y
  rw [hl] at hi
  exact ⟨w2, .int (lo + i), rfl, Ext.refl w2, R2, rfl, rfl, by unfold rangeD; simp [hi], .int _⟩
open Classical in
noncomputable def iRg1 (m : AM) : AM := fun e S => (m e S).bind fun ds S1 => match ds with
  | [.int j] => if -(2 ^ 62) ≤ j ∧ j < 2 ^ 62 then .ok (rangeD 0 j.toNat) S1 else .stuck
  | _ => .stuck
theorem ri_range1 {tg : Expr} {m : AM} {p : Pos} (hm : X.mg "range" = none) (ha : RA X W [a] m) (hg : Gl X "range" := by rfl) (hs : starEach [a] X.env = [(false, eval a X.env)] := by rfl) : RI X W tg (.Call (.Name "range" p) [a] [] pos) (iRg1 m) := by
  refine ⟨fun pins s σ H R' I h => (pi_range1 hg hm ha hs).run pins s σ H R' I ?_⟩
  obtain ⟨w, en, rfl, R, E, P⟩ := h
  refine ⟨w, en, rfl, R, E, (Post.bind P).imp ?_⟩
  rintro vs H1 ⟨w1, ds, rfl, X1, R1, rx, P1⟩
  dsimp only at P1
  split at P1
  · split at P1
    · rename_i hj
      obtain ⟨v, rfl, rv⟩ := rx.one_inv
      cases rv
      exact ⟨_, rfl, hj.1, hj.2, Post.now P1 R1 (its_range 0 _)⟩
    · exact False.elim P1
  · exact False.elim P1
open Classical in
noncomputable def iRg2 (m : AM) : AM := fun e S => (m e S).bind fun ds S1 => match ds with
  | [.int i, .int j] => if -(2 ^ 62) ≤ i ∧ i < 2 ^ 62 ∧ -(2 ^ 62) ≤ j ∧ j < 2 ^ 62 then .ok (rangeD i (j - i).toNat) S1 else .stuck
  | _ => .stuck
def fiR (g : GM) (m : SM) : List D → SM
  | [] => fun e S => .nxt e S
  | d :: ds => fun e S => sE (g d e S) e fun e1 S1 => match m e1 S1 with
    | .nxt e2 S2 => fiR g m ds e2 S2
    | .cnt e2 S2 => fiR g m ds e2 S2
    | .brk e2 S2 => .nxt e2 S2
    | r => r
def sFor (i : AM) (g : GM) (m : SM) : SM := fun e S => sE (i e S) e fun ds S1 => fiR g m ds e S1
theorem rs_for {tg it : Expr} {i : AM} {g : GM} {body : List Stmt} (hp : PassesOwn (model X.prog X.w) X.A X.env X.xe) (hc : X.calm = true) (hi : RI X W tg it i) (hg : RG X W tg g) (hb : RSs X W body m) (hs : ∀ x, foldedSetIterable it X.env x = pure x := by intro _; rfl) :
    RS X W (.For tg it body [] pos) (sFor i g m) := by
  refine ps_imp (ps_for hp hc hi hg hb hs) ?_
  rintro D s H ⟨w, en, rfl, R, E, P⟩
  refine ⟨w, en, rfl, R, E, (PostS.of P E).imp ?_⟩
  rintro J H1 ⟨w1, ds, rfl, X1, R1, its, P1⟩
  refine ⟨fun j k s H => k = ds.length - j ∧ j ≤ ds.length ∧ ∃ w e, w.hp = H ∧ Ext w1 w ∧ Rep X.K X.mg w ∧ RepE X.K X.mg w e s ∧ PostS X W w (fiR g m (ds.drop j) e w.st) D,
    ⟨ds.length, rfl, Nat.zero_le _, w1, en, rfl, Ext.refl w1, R1, E.ext X1.toEx0, P1⟩, ?_⟩
  rintro j k s H ⟨rfl, hj, w, en, rfl, x1, R, E, P⟩
  obtain ⟨go, stop⟩ := its w x1.toEx0 x1.fz R
  by_cases hlt : j < ds.length
  · obtain ⟨go1, yl⟩ := go j hlt
    refine .inr ⟨go1, fun s' H' => ∃ w e, w.hp = H' ∧ Ext w1 w ∧ Rep X.K X.mg w ∧ RepE X.K X.mg w e s' ∧ PostS X W w (fiR g m (ds.drop (j + 1)) e w.st) D, fun s' H' h => ⟨ds.length - (j + 1), by omega, rfl, hlt, h⟩, fun x H' y => ?_⟩
    obtain ⟨w3, d, rfl, x3, R3, st3, _, hd, rd⟩ := yl x H' y
    have e1 : ds.drop j = d :: ds.drop (j + 1) := by
      obtain ⟨hl, rfl⟩ := List.getElem?_eq_some_iff.mp hd
      exact List.drop_eq_getElem_cons hl
    rw [e1] at P
    have P' : PostS X W w3 (sE (g d en w3.st) en fun e1 S1 => match m e1 S1 with
      | .nxt e2 S2 => fiR g m (ds.drop (j + 1)) e2 S2
      | .cnt e2 S2 => fiR g m (ds.drop (j + 1)) e2 S2
      | .brk e2 S2 => .nxt e2 S2
      | r => r) D := by rw [st3]; exact PostS.ext P x3
    refine ⟨w3, en, d, rfl, R3, E.ext x3.toEx0, rd, (PostS.of P' (E.ext x3.toEx0)).imp ?_⟩
    rintro s4 H4 ⟨w4, e4, rfl, x4, R4, E4, P4⟩
    refine ⟨w4, e4, rfl, R4, E4, ?_⟩
    have x14 : Ext w1 w4 := (x1.trans x3).trans x4
    dsimp only at P4
    cases q : m e4 w4.st with
    | nxt e S => rw [q] at P4; exact fun w5 s5 x5 R5 st E5 => ⟨w5, e, rfl, x14.trans x5, R5, E5, by rw [st]; exact PostS.ext P4 x5⟩
    | cnt e S => rw [q] at P4; exact fun w5 s5 x5 R5 st E5 => ⟨w5, e, rfl, x14.trans x5, R5, E5, by rw [st]; exact PostS.ext P4 x5⟩
    | brk e S => rw [q] at P4; exact P4
    | ret e S => rw [q] at P4; exact P4
    | exc y e S => rw [q] at P4; exact P4
    | stuck => rw [q] at P4; exact P4
  · have e : j = ds.length := by omega
    subst e
    rw [List.drop_length] at P
    exact .inl ⟨stop, P w s (Ext.refl w) R rfl E⟩
end
end G
namespace G
open PySem L2
def wipeE (e : En) : List Nat → En
  | [] => e
  | v :: vs => (wipeE e vs).set v none
def W0 : WX := fun _ _ _ _ => False
section
variable {X : Cx} {W : WX} {a b c e o : Expr} {es : List Expr} {ma mb mc me : EM} {ta tb : TM} {pos : Pos}
variable {K : PySem.W.Frag} {mg : Str → Option Value} {w : Wo}
theorem RepE.wipe {en : En} {s : St} (h : RepE K mg w en s) : ∀ vs : List Nat, RepE K mg w (wipeE en vs) (L2.wipe s vs)
  | [] => h
  | v :: vs => (RepE.wipe h vs).gone v
theorem wipe_at (s : St) (j : Nat) : ∀ vs : List Nat, (L2.wipe s vs)[j]? = if j ∈ vs then (if j < s.length then some none else none) else s[j]?
  | [] => by simp [L2.wipe]
  | v :: vs => by
    have ih := wipe_at s j vs
    unfold L2.wipe
    by_cases hv : v = j
    · subst hv
      rw [if_pos List.mem_cons_self]
      by_cases hl : v < s.length
      · rw [if_pos hl, List.getElem?_set_self (by rw [wipe_length]; exact hl)]
      · rw [if_neg hl, List.getElem?_eq_none (by rw [List.length_set, wipe_length]; omega)]
    · rw [List.getElem?_set_ne hv, ih]
      have e : (j ∈ v :: vs) ↔ j ∈ vs := by
        rw [List.mem_cons]
        exact ⟨fun h => h.resolve_left (Ne.symm hv), .inr⟩
      simp only [e]
theorem wipe_eq {s t : St} {vs : List Nat} (hl : s.length = t.length) (h : ∀ j, j ∉ vs → s[j]? = t[j]?) : L2.wipe s vs = L2.wipe t vs := by
  refine List.ext_getElem? fun j => ?_
  rw [wipe_at, wipe_at, hl]
  by_cases hj : j ∈ vs
  · rw [if_pos hj, if_pos hj]
  · rw [if_neg hj, if_neg hj]; exact h j hj
def lcR (g : Tg) (t : TM) (m : EM) (e : En) : List D → List D → Store → Res (List D)
  | [], acc, S => .ok acc S
  | d :: ds, acc, S => match g.m d e with
    | some e1 => (noX (t e1 S)).bind fun b S2 => if b then (noX (m e1 S2)).bind fun y S3 => if acc.length < sizeLine then lcR g t m e ds (acc ++ [y]) S3 else .stuck else lcR g t m e ds acc S2
    | none => .stuck
def eLc (i : AM) (g : Tg) (t : TM) (m : EM) (vs : List Nat) : EM := fun e S => (i e S).bind fun ds S1 => (lcR g t m (wipeE e vs) ds [] S1).bind fun acc S2 => .ok (.lst acc) S2
def eLcN (i : AM) (g : Tg) (t : TM) (m : EM) (vs : List Nat) : EM := fun e S => (i e S).bind fun ds S1 => (lcR g t m (wipeE e vs) ds [] S1).bind fun acc S2 => .ok (.loc S2.length) (S2 ++ [.lst acc])
def Wo.hide (w : Wo) (p : Addr) (o : HO) : Wo := ⟨w.al, w.st, upd w.hp p o, p :: w.hid⟩
theorem hide_ex (R : Rep K mg w) {p : Addr} {o : HO} (hn : w.hp p = none) : Ex0 w (w.hide p o) := by
  refine ⟨⟨[], by simp [Wo.hide]⟩, fun a h => ?_, fun a u h _ => ?_, fun a u h => ⟨u, ?_⟩⟩
  · rcases h with h | h
    · exact .inl (.inl h)
    · rcases List.mem_cons.mp h with h | h
      · exact .inr (by rw [h]; exact hn)
      · exact .inl (.inr h)
  · show upd w.hp p o a = _
    rw [upd_ne (ne_of_none h hn)]; exact h
  · show upd w.hp p o a = _
    rw [upd_ne (ne_of_none h hn)]; exact h
theorem Rep.hide (R : Rep K mg w) {p : Addr} {o : HO} (hn : w.hp p = none) : Rep K mg (w.hide p o) := by
  have X := hide_ex (o := o) R hn
  refine ⟨R.len, R.nd, fun a h => ?_, fun n a c h1 h2 => ?_, fun a h => ?_⟩
  · obtain ⟨u, e⟩ := R.tr a h
    exact X.tr a u e
  · refine (R.cell n a c h1 h2).ext X ?_
    show upd w.hp p o a = _
    exact upd_ne fun z => R.not_mem hn (z ▸ List.mem_of_getElem? h1)
  · rcases List.mem_cons.mp h with h | h
    · subst h; exact ⟨R.not_mem hn, o, upd_same⟩
    · obtain ⟨h1, u, e⟩ := R.hid a h
      exact ⟨h1, X.tr a u e⟩
def Wo.gro (w : Wo) (p : Addr) (o : HO) : Wo := ⟨w.al, w.st, upd w.hp p o, w.hid⟩
theorem gro_ex {p : Addr} {o : HO} (hm : p ∈ w.hid) : Ex0 w (w.gro p o) := by
  refine ⟨⟨[], by simp [Wo.gro]⟩, fun a h => .inl h, fun a u h z => ?_, fun a u h => ?_⟩
  · show upd w.hp p o a = _
    rw [upd_ne fun e : a = p => z (.inr (e ▸ hm))]; exact h
  · by_cases e : a = p
    · subst e; exact ⟨o, upd_same⟩
    · exact ⟨u, by show upd w.hp p o a = _; rw [upd_ne e]; exact h⟩
theorem Rep.gro (R : Rep K mg w) {p : Addr} {o : HO} (hm : p ∈ w.hid) : Rep K mg (w.gro p o) := by
  have X := gro_ex (o := o) hm
  refine ⟨R.len, R.nd, fun a h => ?_, fun n a c h1 h2 => ?_, fun a h => ?_⟩
  · obtain ⟨u, e⟩ := R.tr a h
    exact X.tr a u e
  · refine (R.cell n a c h1 h2).ext X ?_
    show upd w.hp p o a = _
    exact upd_ne fun z => (R.hid p hm).1 (z ▸ List.mem_of_getElem? h1)
  · obtain ⟨h1, u, e⟩ := R.hid a h
    exact ⟨h1, X.tr a u e⟩
def Wo.shw (w : Wo) (hs : List Addr) : Wo := ⟨w.al, w.st, w.hp, hs⟩
theorem shw_ex {hs : List Addr} (hm : ∀ a, a ∈ hs → a ∈ w.hid) : Ex0 w (w.shw hs) :=
  ⟨⟨[], by simp [Wo.shw]⟩, fun a h => .inl (h.imp id (hm a)), fun a u h _ => h, fun a u h => ⟨u, h⟩⟩
theorem Rep.shw (R : Rep K mg w) {hs : List Addr} (hm : ∀ a, a ∈ hs → a ∈ w.hid) : Rep K mg (w.shw hs) :=
  ⟨R.len, R.nd, R.tr, fun n a c h1 h2 => (R.cell n a c h1 h2).ext (shw_ex hm) rfl, fun a h => R.hid a (hm a h)⟩
theorem hide_fz (R : Rep K mg w) {p : Addr} {o : HO} (hn : w.hp p = none) : Fz w (w.hide p o) := fun _ _ _ h1 h2 _ => ⟨h2, upd_ne fun e => R.not_mem hn (e ▸ List.mem_of_getElem? h1)⟩
theorem gro_fz (R : Rep K mg w) {p : Addr} {o : HO} (hm : p ∈ w.hid) : Fz w (w.gro p o) := fun _ _ _ h1 h2 _ => ⟨h2, upd_ne fun e => (R.hid p hm).1 (e ▸ List.mem_of_getElem? h1)⟩
structure Kp (w1 w : Wo) : Prop where
  kh : ∀ a, a ∈ w1.hid → w.hp a = w1.hp a
  fz : Fz w1 w
theorem t_lcCore {i : AM} {g : Tg} {t : TM} {m : EM} {vs : List Nat} {fin : List D → Store → Res D} (hg : ∀ j, j ∈ g.ix → j ∈ vs)
    (hfin : ∀ (w1 w : Wo) (p : Addr) (us : List V) (acc : List D) (Q : VK) (E : XK), Rep X.K X.mg w1 → w1.hp p = none → Rep X.K X.mg w → Ex0 w1 w → w.hid = p :: w1.hid → Kp w1 w → w.hp p = some (.lst us) → RepL X.K X.mg w acc us →
      Post (RepD X.K X.mg) X.K X.mg w1 (fin acc w.st) Q E → Q (.ref p) w.hp) :
    ∀ s H Q, tG (RepD X.K X.mg) X W (fun e S => (i e S).bind fun ds S1 => (lcR g t m (wipeE e vs) ds [] S1).bind fin) s H Q →
      tLc (tG (ItsR X) X W i) (g.r X.K) (tG RlB X W0 t) (tG (RepD X.K X.mg) X W0 m) vs s H Q := by
  rintro s H Q ⟨w, en, rfl, R, E, P⟩
  refine ⟨w, en, rfl, R, E, (Post.bind P).imp ?_⟩
  rintro J H1 ⟨w1, ds, rfl, X1, R1, its, P1⟩
  intro p hp
  dsimp only at P1
  have E1 := E.ext X1.toEx0
  refine ⟨fun j k H => k = ds.length - j ∧ j ≤ ds.length ∧ ∃ w acc us, w.hp = H ∧ Ex0 w1 w ∧ Rep X.K X.mg w ∧ w.hid = p :: w1.hid ∧ Kp w1 w ∧ w.hp p = some (.lst us) ∧ RepL X.K X.mg w acc us ∧
      Post (RepD X.K X.mg) X.K X.mg w1 ((lcR g t m (wipeE en vs) (ds.drop j) acc w.st).bind fin) Q (fun cls dd H' => W cls dd s H'),
    ⟨ds.length, rfl, Nat.zero_le _, w1.hide p (.lst []), [], [], rfl, hide_ex R1 hp, R1.hide hp, rfl, ⟨fun a ha => ?_, hide_fz R1 hp⟩, upd_same, .nil, P1⟩, ?_⟩
  · show upd w1.hp p _ a = _
    exact upd_ne fun z => R1.not_hid hp (z ▸ ha)
  rintro j k H ⟨rfl, hj, w, acc, us, rfl, x1, R, hh, hk, hu, ra, P⟩
  obtain ⟨go, stop⟩ := its w x1 hk.fz R
  by_cases hlt : j < ds.length
  · obtain ⟨go1, yl⟩ := go j hlt
    refine .inr ⟨go1, fun H' => ∃ w acc us, w.hp = H' ∧ Ex0 w1 w ∧ Rep X.K X.mg w ∧ w.hid = p :: w1.hid ∧ Kp w1 w ∧ w.hp p = some (.lst us) ∧ RepL X.K X.mg w acc us ∧
      Post (RepD X.K X.mg) X.K X.mg w1 ((lcR g t m (wipeE en vs) (ds.drop (j + 1)) acc w.st).bind fin) Q (fun cls dd H' => W cls dd s H'),
      fun H' h => ⟨ds.length - (j + 1), by omega, rfl, hlt, h⟩, fun x H' y => ?_⟩
    obtain ⟨w3, d, rfl, x3, R3, st3, _, hd, rd⟩ := yl x H' y
    have e1 : ds.drop j = d :: ds.drop (j + 1) := by
      obtain ⟨hl, rfl⟩ := List.getElem?_eq_some_iff.mp hd
      exact List.drop_eq_getElem_cons hl
    rw [e1, ← st3] at P
    unfold lcR at P
    have E3 : RepE X.K X.mg w3 (wipeE en vs) (L2.wipe s vs) := (E1.ext (x1.trans x3.toEx0)).wipe vs
    cases hm : g.m d (wipeE en vs) with
    | none => rw [hm] at P; exact False.elim P
    | some e4 =>
      rw [hm] at P
      dsimp only at P
      refine g.ok E3 rd hm fun s4 E4 hl4 hj4 => ⟨?_, ?_⟩
      · refine wipe_eq (by rw [hl4, wipe_length]) fun q hq => ?_
        rw [hj4 q fun z => hq (hg q z), wipe_at, if_neg hq]
      · have hh3 : w3.hid = p :: w1.hid := x3.hid.trans hh
        have hk3 : Kp w1 w3 := ⟨fun a ha => (x3.kh a (by rw [hh]; exact List.mem_cons_of_mem _ ha)).trans (hk.kh a ha), hk.fz.trans x1.al x3.fz⟩
        have hu3 : w3.hp p = some (.lst us) := (x3.kh p (by rw [hh]; exact List.mem_cons_self)).trans hu
        refine ⟨w3, e4, rfl, R3, E4, ?_⟩
        cases ht : t e4 w3.st with
        | exc _ _ => rw [ht] at P; exact False.elim P
        | stuck => rw [ht] at P; exact False.elim P
        | ok bb S5 =>
          rw [ht] at P
          intro w5 c5 x5 R5 st5 r5
          cases r5
          subst st5
          replace P : Post (RepD X.K X.mg) X.K X.mg w1 ((if bb = true then (noX (m e4 w5.st)).bind fun y S3 => if acc.length < sizeLine then lcR g t m (wipeE en vs) (ds.drop (j + 1)) (acc ++ [y]) S3 else .stuck else lcR g t m (wipeE en vs) (ds.drop (j + 1)) acc w5.st).bind fin) Q (fun cls dd H' => W cls dd s H') := P
          have hh5 : w5.hid = p :: w1.hid := x5.hid.trans hh3
          have hk5 : Kp w1 w5 := ⟨fun a ha => (x5.kh a (by rw [hh3]; exact List.mem_cons_of_mem _ ha)).trans (hk3.kh a ha), hk3.fz.trans (x1.trans x3.toEx0).al x5.fz⟩
          have hu5 : w5.hp p = some (.lst us) := (x5.kh p (by rw [hh3]; exact List.mem_cons_self)).trans hu3
          have ra5 := (ra.ext x3.toEx0).ext x5.toEx0
          have x15 : Ex0 w1 w5 := (x1.trans x3.toEx0).trans x5.toEx0
          cases bb with
          | false =>
            rw [if_neg Bool.false_ne_true] at P ⊢
            exact ⟨w5, acc, us, rfl, x15, R5, hh5, hk5, hu5, ra5, P⟩
          | true =>
            rw [if_pos rfl] at P ⊢
            refine ⟨w5, e4, rfl, R5, E4.ext x5.toEx0, ?_⟩
            cases hme : m e4 w5.st with
            | exc _ _ => rw [hme] at P; exact False.elim P
            | stuck => rw [hme] at P; exact False.elim P
            | ok y S6 =>
              rw [hme] at P
              intro w6 v6 x6 R6 st6 r6
              subst st6
              replace P : Post (RepD X.K X.mg) X.K X.mg w1 ((if acc.length < sizeLine then lcR g t m (wipeE en vs) (ds.drop (j + 1)) (acc ++ [y]) w6.st else .stuck).bind fin) Q (fun cls dd H' => W cls dd s H') := P
              by_cases hz : acc.length < sizeLine
              · rw [if_pos hz] at P
                have ra6 := ra5.ext x6.toEx0
                have hh6 : w6.hid = p :: w1.hid := x6.hid.trans hh5
                have hk6 : Kp w1 w6 := ⟨fun a ha => (x6.kh a (by rw [hh5]; exact List.mem_cons_of_mem _ ha)).trans (hk5.kh a ha), hk5.fz.trans x15.al x6.fz⟩
                have hu6 : w6.hp p = some (.lst us) := (x6.kh p (by rw [hh5]; exact List.mem_cons_self)).trans hu5
                have pm : p ∈ w6.hid := by rw [hh6]; exact List.mem_cons_self
                have xg := gro_ex (o := .lst (us ++ [v6])) pm
                refine ⟨us, hu6, by rw [← ra6.length]; exact hz, w6.gro p (.lst (us ++ [v6])), acc ++ [y], us ++ [v6], rfl, (x15.trans x6.toEx0).trans xg, R6.gro pm, hh6, ⟨fun a ha => ?_, hk6.fz.trans (x15.trans x6.toEx0).al (gro_fz R6 pm)⟩, upd_same, (ra6.append (.cons r6 .nil)).ext xg, P⟩
                refine Eq.trans (show upd w6.hp p _ a = w6.hp a from upd_ne fun z => ?_) (hk6.kh a ha)
                subst z
                obtain ⟨_, o, ho⟩ := R1.hid a ha
                rw [hp] at ho; cases ho
              · rw [if_neg hz] at P; exact False.elim P
  · have e : j = ds.length := by omega
    subst e
    rw [List.drop_length] at P
    exact .inl ⟨stop, hfin w1 w p us acc Q _ R1 hp R x1 hh hk hu ra P⟩
theorem fin_lst : ∀ (w1 w : Wo) (p : Addr) (us : List V) (acc : List D) (Q : VK) (E : XK), Rep X.K X.mg w1 → w1.hp p = none → Rep X.K X.mg w → Ex0 w1 w → w.hid = p :: w1.hid → Kp w1 w → w.hp p = some (.lst us) → RepL X.K X.mg w acc us →
      Post (RepD X.K X.mg) X.K X.mg w1 ((fun acc S => Res.ok (D.lst acc) S) acc w.st) Q E → Q (.ref p) w.hp := by
  intro w1 w p us acc Q E R1 hp R x1 hh hk hu ra P
  have sub : ∀ a, a ∈ w1.hid → a ∈ w.hid := fun a h => by rw [hh]; exact List.mem_cons_of_mem _ h
  have xs := shw_ex sub
  refine P (w.shw w1.hid) (.ref p) ⟨x1.trans xs, rfl, hk.kh, hk.fz.trans x1.al (Fz.same rfl rfl)⟩ (R.shw sub) rfl (.lst ⟨hu, fun z => ?_⟩ (ra.ext xs))
  rcases z with ⟨n, c, h1, _, _⟩ | z
  · exact (R.hid p (by rw [hh]; exact List.mem_cons_self)).1 (List.mem_of_getElem? h1)
  · exact R1.not_hid hp z
theorem t_lc {i : AM} {g : Tg} {t : TM} {m : EM} {vs : List Nat} (hg : ∀ j, j ∈ g.ix → j ∈ vs) : ∀ s H Q, tG (RepD X.K X.mg) X W (eLc i g t m vs) s H Q →
      tLc (tG (ItsR X) X W i) (g.r X.K) (tG RlB X W0 t) (tG (RepD X.K X.mg) X W0 m) vs s H Q := t_lcCore hg fin_lst
def tTrue : TM := fun _ S => .ok true S
theorem pts0 {X' : Cx} : PTs X' [] (tG RlB X' W0 tTrue) := ⟨fun pins s σ H Q I h => pts_nil.run pins s σ H Q I (by
  obtain ⟨w, en, rfl, R, E, P⟩ := h
  exact Post.now P R rfl)⟩
theorem re_lc {elt tg iter : Expr} {ifs : List Expr} {scope : Scope} {i : AM} {g : Tg} {t : TM} {m : EM} (own : List (Str × Nat)) (hc : X.calm = true) (hN : X.N.Nodup) (hi : RI X W tg iter i) (ok : BlkOk X.N X.env.scope scope own) (hgi : ∀ j, j ∈ g.ix → j ∈ own.map (·.2))
    (hg : ∀ (s : Shared) (H : Hp) (C : Addr) (cl : List (Str × Addr)) (fp : List Addr), PG (X.blk s H scope (compEnvC scope cl C X.env) fp) tg (g.r X.K)) (ht : ∀ (s : Shared) (H : Hp) (C : Addr) (cl : List (Str × Addr)) (fp : List Addr), PTs (X.blk s H scope (compEnvC scope cl C X.env) fp) ifs (tG RlB X W0 t))
    (he : ∀ (s : Shared) (H : Hp) (C : Addr) (cl : List (Str × Addr)) (fp : List Addr), RE (X.blk s H scope (compEnvC scope cl C X.env) fp) W0 elt m) (hs : ∀ x, foldedSetIterable iter X.env x = pure x := by intro _; rfl) :
    RE X W (.ListComp elt [⟨tg, iter, ifs, 0⟩] scope pos) (eLc i g t m (own.map (·.2))) :=
  pe_imp (pe_lc hc hN hi ok hg ht he hs) (t_lc hgi)
end
end G
namespace G
open PySem L2 PySem.Spec
def enOf (N : Nat) (ds : List D) : En := ds.map some ++ List.replicate (N - ds.length) none
def fnM (N : Nat) (m : SM) : FM := fun ds S => match m (enOf N ds) S with
  | .nxt _ S' => .ok .non S'
  | .ret d S' => .ok d S'
  | .exc x _ S' => .exc x S'
  | _ => .stuck
theorem RoomG.mono {j k : Nat} {A : Around} (h : RoomG k A) (l : j ≤ k) : RoomG j A := ⟨h.r.mono l, h.gd⟩
theorem RoomG.units {k : Nat} {A : Around} (h : RoomG k A) : A.units + 64 < cLine := h.r.units
theorem Cg.u {X : Cx} {W : WX} {k : Nat} (c : Cg X W k) : X.A.units + 64 < cLine := c.rm.units
structure Cb (X : Cx) (k : Nat) : Prop where
  calm : X.calm = true
  nd : X.N.Nodup
  rm : RoomG k X.A
  xe : X.xe = fun _ _ => False
theorem Cb.u {X : Cx} {k : Nat} (c : Cb X k) : X.A.units + 64 < cLine := c.rm.units
theorem Cg.blk {X : Cx} {W : WX} {k : Nat} (c : Cg X W k) {s : Shared} {H : Hp} {scope : Scope} {cenv : Env} {fp : List Addr} : Cb (X.blk s H scope cenv fp) k := ⟨c.calm, c.nd, c.rm, rfl⟩
section
variable {P : Program} {w0 : World} {K : PySem.W.Frag} {mg : Str → Option Value} {base : Heap}
theorem RepE.start {w : Wo} {ds : List D} {vs : List V} (h : RepL K mg w ds vs) (N : List Str) : RepE K mg w (enOf N.length ds) (start N vs) := by
  have hl := h.length
  refine ⟨by unfold enOf L2.start; simp [hl], fun i d e => ?_⟩
  unfold enOf at e
  unfold L2.start
  by_cases hi : i < ds.length
  · rw [List.getElem?_append_left (by simpa using hi), List.getElem?_map] at e
    cases q : ds[i]? with
    | none => rw [q] at e; cases e
    | some d' =>
      rw [q] at e
      cases e
      obtain ⟨v, hv, r⟩ := h.get q
      exact ⟨v, by rw [List.getElem?_append_left (by simpa [← hl] using hi), List.getElem?_map, hv]; rfl, r⟩
  · rw [List.getElem?_append_right (by simpa using hi), List.getElem?_replicate] at e
    split at e <;> cases e
theorem fng_of {x qual : Str} {params : Arguments} {body : List Stmt} {scope : Scope} {dvs : List V} {kws : List (Str × V)} {f : Addr} {fd : FuncData} {N ps : List Str} {k : Nat} {sp : Sp} (F : FunD K x qual params body scope dvs kws f fd) (S : FnScope N ps scope)
    (len : ∀ vs H Q E, sp vs H Q E → vs.length = ps.length)
    (hbody : ∀ (cdv : Value) (A : Around) (outer : List Env) (s : Shared) (H : Hp) (vs : List V) (Q : VK) (E : XK), RoomG k (A.deeper (PyProof.Rows.envOfC qual scope s.heap.objs.size f cdv)) → sp vs H Q E →
      ∃ t, PSs (cxOf (L2.CX P w0) P w0 K mg base N qual scope f cdv A outer s H E) body t ∧ t { nx := fun _ H' => Q .non H', rt := Q } (L2.start N vs) H) : FnG P w0 K mg base (k + 1) f fd ps sp := by
  obtain ⟨oc, od, dV, kV, doc, pm, an, cdv, ct, osl, rfl, lk, hcd, _, _⟩ := F.ex
  constructor
  · exact len
  intro A outer s H args us vs Q E rm env bnd rel hs
  have inn : K.In s.heap := env.mod.kin.keeps fun a o q => (env.bs a o q).1
  have nol : s.heap.NoLimit := env.mod.nolimit.keeps fun a o q => (env.bs a o q).1
  apply codeAny_call_function rm.r.depth (inn _ _ lk) rfl S.co S.gen rfl (PySem.W.codeRec_of inn hcd)
  apply bnd
  apply wpAny_newFunctionEnv_cells S.kind
  · rintro ⟨n, u⟩ hn
    exact (S.par n (List.of_mem_zip hn).1).imp id fun q => ⟨q, PySem.W.cellsFrom_some _ _ _ (.inl q)⟩
  rintro _ rfl s1 nw
  constructor
  · exact nol.keeps nw.toInCall.keep
  obtain ⟨t, ht, hq⟩ := hbody cdv A outer s H vs Q E ⟨rm.r.deeper _, rm.gd⟩ hs
  have hI := inv_start (CX := L2.CX P w0) (E := E) S rm.r.hd env (len _ _ _ _ hs) rel nw
  apply codeAny_func
  refine wpAny_mono (ht.run [] s1 _ H _ hI hq) ?_ fun _ _ z => z
  intro fl s' z
  cases fl with
  | next => obtain ⟨st, H', J, q⟩ := z; exact ⟨V.non, H', J.os, J.bare, J.base, J.hok, rfl, q⟩
  | ret u => obtain ⟨v, st, H', J, rv, q⟩ := z; exact ⟨v, H', J.os, J.bare, J.base, J.hok, rv, q⟩
  | brk => exact False.elim z.choose_spec.choose_spec.2
  | cont => exact False.elim z.choose_spec.choose_spec.2
theorem def_okD {x qual : Str} {st : Stmt} {f : Addr} {fd : FuncData} {N ps : List Str} {k : Nat} {m : SM} {dvs : List V} {kws : List (Str × V)} (F : FunD K x qual (defArgs st) (defBody st) (defScope st) dvs kws f fd) (S : FnScope N ps (defScope st))
    (hbody : ∀ (cdv : Value) (A : Around) (outer : List Env) (s : Shared) (H : Hp) (E : XK), Cg (cxOf (L2.CX P w0) P w0 K mg base N qual (defScope st) f cdv A outer s H E) (fun cls d _ H' => E cls d H') k →
      RSs (cxOf (L2.CX P w0) P w0 K mg base N qual (defScope st) f cdv A outer s H E) (fun cls d _ H' => E cls d H') (defBody st) m) :
    FnG P w0 K mg base (k + 1) f fd ps (spM K mg ps.length (fnM N.length m)) := by
  refine fng_of F S (fun vs H Q E h => h.1) (fun cdv A outer s H vs Q E hr h => ?_)
  refine ⟨_, hbody cdv A outer s H E ⟨rfl, S.nd, takes_of rfl rfl rfl rfl, passes_of rfl, hr, rfl, rfl, rfl⟩, ?_⟩
  obtain ⟨hl, w, ds, rfl, R, rl, P1⟩ := h
  refine ⟨w, enOf N.length ds, rfl, R, RepE.start rl N, ?_⟩
  unfold fnM at P1
  cases q : m (enOf N.length ds) w.st with
  | nxt e S => rw [q] at P1; exact fun w1 s1 x1 R1 st1 _ => P1 w1 .non x1 R1 st1 .non
  | ret d S => rw [q] at P1; exact P1
  | brk e S => rw [q] at P1; exact False.elim P1
  | cnt e S => rw [q] at P1; exact False.elim P1
  | exc y e S => rw [q] at P1; exact fun w1 s1 c1 d1 x1 R1 st1 _ rx => P1 w1 c1 d1 x1 R1 st1 rx
  | stuck => rw [q] at P1; exact P1
end
section
variable {X : Cx} {W : WX} {a b c e o : Expr} {es : List Expr} {ma mb mc me : EM} {ta tb : TM} {pos : Pos} {x : Str} {p : Pos} {j k : Nat} {ps ks : List Str} {f : FM}
def eCall (f : FM) (m : AM) : EM := fun e S => (m e S).bind fun ds S1 => f ds S1
def nA (n : Nat) (m : AM) : AM := fun e S => (m e S).bind fun ds S1 => if ds.length = n then .ok ds S1 else .stuck
theorem run_fg {E : St → XK} {f : Addr} {fd : FuncData} {sp : Sp} {pins : List (Addr × Obj)} {s : St} {H : Hp} {sh : Shared} {Q : VK} {args : Args} {zs : List Value} {ws : List V} (F : FnG X.prog X.w X.K X.mg X.base k f fd ps sp) (hr : RoomG k X.A) (hb : BindsTo sh fd args (ps.zip zs)) (hx : PassesAt (L2.CX X.prog X.w) X s (E s))
    (I : L2.Inv X pins s H sh) (r : Vals ws zs) (h : sp ws H Q (E s)) : codeAny (model X.prog X.w) X.A (.call (.ref f) args) (fun r s' => match r with | .ok (.ret u) => EP X pins s Q u s' | .error y => X.xe y s' | _ => False) sh := by
  refine codeAny_mono (F.run X.A X.stack sh H args zs ws Q (E s) hr I.env0 hb r h) ?_
  intro res s' q
  cases res with
  | error y => exact hx pins H sh y s' I q
  | ok fl =>
    cases fl with
    | ret u => exact I.after q
    | _ => exact False.elim q
theorem pe_callG {fa : Addr} {fd : FuncData} {sp : Sp} {E : St → XK} {t : TA} (F : FnG X.prog X.w X.K X.mg X.base k fa fd ps sp) (hr : RoomG k X.A) (hg : Gl X x) (hm : X.mg x = some (.ref fa)) (hk : PySem.W.keepIn X.K (.ref fa) = true) (hb : Binds X.K fd ps []) (hx : ∀ σ, PassesAt (L2.CX X.prog X.w) X σ (E σ))
    (ha : PA X (e :: es) t) (hdb : (x == ("__debug__" : Str)) = false) (he : starEach (e :: es) X.env = (false, eval e X.env) :: starEach es X.env) (hpl : (backTo pos (starEach es X.env)).any (·.1) = false) :
    PE X (.Call (.Name x p) (e :: es) [] pos) (tCallS sp E t) := by
  constructor
  intro pins s σ H Q I h
  apply wpAny_Call_Name_kw
  refine ld_glob I hg hm ?_ hdb
  refine PySem.W.callWith_K (h₀ := X.base) I.ok.mod.kin hk ?_ he hpl
  refine thn (ha.run pos pins s σ H _ I h) ?_
  rintro us s1 ⟨vs, H1, I1, r, q⟩
  have hl : us.length = ps.length := by rw [← r.length]; exact F.len _ _ _ _ q
  have b := hb s1 us I1.kIn (by simpa using hl)
  rw [List.append_nil] at b
  refine ⟨I1.kIn, wpAny_call (codeAny_mono (run_fg F hr b (hx σ) I1 r q) ?_)⟩
  intro res s' z
  cases res with
  | error y => exact z
  | ok fl =>
    cases fl with
    | ret u => exact z
    | _ => exact False.elim z
theorem re_call {m : AM} (c : Cg X W k) (hF : Df X.prog X.w X.K X.mg X.base x ps j f) (hj : j ≤ k) (ha : RA X W (e :: es) m) (hg : Gl X x := by rfl) (hdb : (x == ("__debug__" : Str)) = false := by decide) (he : starEach (e :: es) X.env = (false, eval e X.env) :: starEach es X.env := by rfl) (hpl : (backTo pos (starEach es X.env)).any (·.1) = false := by rfl) :
    RE X W (.Call (.Name x p) (e :: es) [] pos) (eCall f (nA ps.length m)) := by
  obtain ⟨fa, fd, h1, h2, h3, h4⟩ := hF.ex
  refine pe_imp (pe_callG h4 (c.rm.mono hj) hg h1 h2 h3 (fun s => passAt c.tk s) ha hdb he hpl) ?_
  rintro s H Q ⟨w, en, rfl, R, E, P⟩
  unfold eCall nA at P
  refine ⟨w, en, rfl, R, E, ?_⟩
  cases q : m en w.st with
  | stuck => rw [q] at P; exact P
  | exc y S => rw [q] at P; exact P
  | ok ds S =>
    rw [q] at P
    replace P : Post (RepD X.K X.mg) X.K X.mg w ((if ds.length = ps.length then .ok ds S else .stuck : Res (List D)).bind f) Q _ := P
    intro w1 vs x1 R1 st1 rl
    subst st1
    split at P
    · rename_i hl
      exact ⟨by rw [← rl.length]; exact hl, w1, ds, rfl, R1, rl, Post.ext P x1⟩
    · exact False.elim P
theorem takes_no {X' : Cx} (h : X'.xe = fun _ _ => False) : Takes X' W0 := fun _ _ z => by
  obtain ⟨_, _, _, _, _, _, _, _, _, _, _, _, _, _, _, _, q⟩ := z
  exact False.elim q
theorem re_callB {m : AM} (c : Cb X k) (hF : Df X.prog X.w X.K X.mg X.base x ps j f) (hj : j ≤ k) (ha : RA X W0 (e :: es) m) (hg : Gl X x := by rfl) (hdb : (x == ("__debug__" : Str)) = false := by decide) (he : starEach (e :: es) X.env = (false, eval e X.env) :: starEach es X.env := by rfl) (hpl : (backTo pos (starEach es X.env)).any (·.1) = false := by rfl) :
    RE X W0 (.Call (.Name x p) (e :: es) [] pos) (eCall f (nA ps.length m)) := by
  obtain ⟨fa, fd, h1, h2, h3, h4⟩ := hF.ex
  refine pe_imp (pe_callG h4 (c.rm.mono hj) hg h1 h2 h3 (fun s => passAt (takes_no c.xe) s) ha hdb he hpl) ?_
  rintro s H Q ⟨w, en, rfl, R, E, P⟩
  unfold eCall nA at P
  refine ⟨w, en, rfl, R, E, ?_⟩
  cases q : m en w.st with
  | stuck => rw [q] at P; exact P
  | exc y S => rw [q] at P; exact P
  | ok ds S =>
    rw [q] at P
    replace P : Post (RepD X.K X.mg) X.K X.mg w ((if ds.length = ps.length then .ok ds S else .stuck : Res (List D)).bind f) Q _ := P
    intro w1 vs x1 R1 st1 rl
    subst st1
    split at P
    · rename_i hl
      exact ⟨by rw [← rl.length]; exact hl, w1, ds, rfl, R1, rl, Post.ext P x1⟩
    · exact False.elim P
abbrev RK (X : Cx) (W : WX) (kws : List Keyword) (m : AM) : Prop := PK X kws (tG (RepL X.K X.mg) X W m)
theorem pk_imp {kws : List Keyword} {t t' : TA} (h : PK X kws t) (i : ∀ s H Q, t' s H Q → t s H Q) : PK X kws t' := ⟨fun ps pins s σ H Q I q => h.run ps pins s σ H Q I (i _ _ _ q)⟩
theorem rk_nil : RK X W [] aNil := pk_imp pk_nil fun s H Q ⟨w, en, hw, R, E, P⟩ => by
  subst hw
  exact Post.now P R .nil
theorem rk_cons {kws : List Keyword} {mr : AM} {nm : Option Str} {kpos : Pos} (ha : RE X W e ma) (hr : RK X W kws mr) : RK X W (⟨nm, e, kpos⟩ :: kws) (aCons ma mr) := by
  refine pk_imp (pk_cons ha hr) ?_
  rintro s H Q ⟨w, en, rfl, R, E, P⟩
  refine ⟨w, en, rfl, R, E, (Post.bind P).imp ?_⟩
  rintro v H1 ⟨w1, x, rfl, X1, R1, rx, P1⟩
  refine ⟨w1, en, rfl, R1, E.ext X1.toEx0, (Post.bind P1).imp ?_⟩
  rintro vs H2 ⟨w2, y, rfl, X2, R2, ry, P2⟩
  exact Post.now P2 R2 (.cons (rx.ext X2.toEx0) ry)
def eCallK (f : FM) (gD : List D → List D → List D) (n l : Nat) (m mk : AM) : EM := fun e S => (m e S).bind fun ds S1 => (mk e S1).bind fun zs S2 => if ds.length = n ∧ zs.length = l then f (gD ds zs) S2 else .stuck
theorem run_kw {E : St → XK} {f : Addr} {fd : FuncData} {sp : Sp} {n : Nat} {g : List Value → List Value → List Value} {gV : List V → List V → List V} {pins : List (Addr × Obj)} {s : St} {H : Hp} {sh : Shared} {Q : VK} {us ws : List Value} {vs zs : List V}
    (F : FnG X.prog X.w X.K X.mg X.base k f fd ps sp) (hr : RoomG k X.A) (hb : KBn X.K fd ps n ks g gV) (hx : PassesAt (L2.CX X.prog X.w) X s (E s)) (I : L2.Inv X pins s H sh) (r : Vals vs us) (rz : Vals zs ws) (h1 : vs.length = n) (h2 : zs.length = ks.length) (h : sp (gV vs zs) H Q (E s)) :
    wpAny (model X.prog X.w) X.A (call (.ref f) us (ks.zip ws)) (EP X pins s Q) X.xe sh := by
  obtain ⟨b1, b2⟩ := hb
  have h1' : us.length = n := by rw [← r.length]; exact h1
  have h2' : ws.length = ks.length := by rw [← rz.length]; exact h2
  refine wpAny_call (codeAny_mono (F.run X.A X.stack sh H ⟨us, ks.zip ws⟩ (g us ws) (gV vs zs) Q (E s) hr I.env0 (b1 sh us ws I.kIn h1' h2') (b2 r rz) h) fun r s' hq => ?_)
  cases r with
  | error y => exact hx pins H sh y s' I hq
  | ok fl =>
    cases fl with
    | ret u => exact I.after hq
    | next => exact False.elim hq
    | brk => exact False.elim hq
    | cont => exact False.elim hq
def eCallK0 (f : FM) (gD : List D → List D → List D) (l : Nat) (mk : AM) : EM := fun e S => (mk e S).bind fun zs S2 => if zs.length = l then f (gD [] zs) S2 else .stuck
def sRaise (c : Nat) : SM := fun e S => .exc (.exc c []) e S
theorem rs_raise {C : Addr} {bm : List Value} {B newId initId : String} {m : Str} {jj : Nat} {p2 pos2 : Pos} (cn : Nat) (hcn : cname cn = x) (c : Cg X W k) (F : ExcBaseFacts B newId initId bm) (q : PySem.W.excIn X.K C bm newId = true) (gC : X.mg x = some (.ref C)) (kC : PySem.W.keepIn X.K (.ref C) = true) (r : Raises X (.ref C)) (hg : Gl X x := by rfl)
    (hdb : (x == ("__debug__" : Str)) = false := by decide) : RS X W (.Raise (some (.Call (.Name x p) [.Constant (.str m) jj p2] [] pos)) none pos2) (sRaise cn) := by
  refine ps_imp (ps_raise c.calm c.tk (pmk_own F q gC kC r hg hdb)) ?_
  rintro D s H ⟨w, en, rfl, R, E, P⟩
  exact P w s (.ref C) none (Ext.refl w) R rfl E ⟨cn, C, [], [], rfl, by rw [hcn]; exact gC, rfl, .inl ⟨rfl, rfl⟩, .nil⟩
end
end G
namespace G
open PySem L2 PySem.Spec
section
variable {X : Cx} {pins : List (Addr × Obj)} {s : L2.St} {H : Hp} {sh : Shared}
theorem inv_track (I : L2.Inv X pins s H sh) {ad : Addr} {o : HO} (na : H ad = none) (h0 : X.s_0.heap.get? ad = none) (nL : ad ≠ X.env.locals) (nC : ∀ x c, X.env.cells.lookup x = some c → c ≠ ad)
    (nP : ∀ p, p ∈ X.pn ++ pins → p.1 ≠ ad) (new : ObjOk X.prog X.w (upd H ad o) sh.heap ad o) : L2.Inv X pins s (upd H ad o) sh := by
  have ne : ∀ (b : Addr) (u : HO), H b = some u → b ≠ ad := fun b u h => ne_of_none h na
  have bs := I.base
  refine ⟨I.ok, I.os, I.bare, ⟨bs.keep, bs.slot, fun b ob h1 h2 h3 => ?_, bs.there, fun b xs h => ?_, fun b ob u h => ?_, fun b q h => ?_⟩, I.loc, I.cell, ?_, fun x c h => ?_, fun p hp => ?_, fun b u h => ?_, I.len⟩
  · have hb : b ≠ ad := fun z => by rw [z, h0] at h1; cases h1
    rw [upd_ne hb]; exact bs.free b ob h1 h2 h3
  · have z := bs.tups b xs h
    rw [upd_ne (ne _ _ z)]; exact z
  · have z := bs.frzs b ob u h
    rw [upd_ne (ne _ _ z)]; exact z
  · obtain ⟨m, z⟩ := bs.tbls b q h
    exact ⟨m, by rw [upd_ne (ne _ _ z)]; exact z⟩
  · rw [upd_ne (Ne.symm nL)]; exact I.free
  · rw [upd_ne (nC x c h)]; exact I.freeC x c h
  · obtain ⟨z1, z2, z3⟩ := I.pin p hp
    exact ⟨z1, by rw [upd_ne (nP p hp)]; exact z2, z3⟩
  · by_cases hb : b = ad
    · subst hb
      rw [upd_same] at h; cases h; exact new
    · rw [upd_ne hb] at h
      exact (I.hok b u h).stay (fun _ _ _ q => q) (fun c q => by rw [upd_ne (ne _ _ q)]; exact q) fun c xs q => by rw [upd_ne (ne _ _ q)]; exact q
theorem inv_suite (I : L2.Inv X pins s H sh) (ad : Addr) : L2.Inv (X.suite ad (X.pn ++ pins)) [] s H sh :=
  ⟨I.ok.suite _ _, I.os, I.bare, I.base, I.loc, I.cell, I.free, I.freeC, fun p hp => I.pin p (by rw [List.append_nil] at hp; exact hp), I.hok, I.len⟩
theorem inv_out {ad : Addr} {pn' : List (Addr × Obj)} (ok : X.Ok) (I : L2.Inv (X.suite ad (X.pn ++ pins)) pn' s H sh) : L2.Inv X pins s H sh :=
  ⟨ok, I.os, I.bare, I.base, I.loc, I.cell, I.free, I.freeC, fun p hp => I.pin p (List.mem_append_left _ hp), I.hok, I.len⟩
end
section
variable {X : Cx} {W : WX} {a b c e o : Expr} {es : List Expr} {ma mb mc me : EM} {ta tb : TM} {pos : Pos} {x : Str} {p : Pos} {j k : Nat}
def sSu (i : Nat) : SRes → SRes
  | .nxt e S => .nxt (e.set i none) S
  | .brk e S => .brk (e.set i none) S
  | .cnt e S => .cnt (e.set i none) S
  | .ret d S => .ret d S
  | _ => .stuck
def sTry (i : Nat) (tb : Nat → Option Bool) (m n : SM) : SM := fun e S => match m e S with
  | .exc (.exc cn fs) e1 S1 => match tb cn with
    | some true => sSu i (n (e1.set i (some (.exc cn fs))) S1)
    | some false => .exc (.exc cn fs) e1 S1
    | none => .stuck
  | .exc _ _ _ => .stuck
  | r => r
def isC (tb : Nat → Option Bool) : D → Option Bool
  | .exc cn [] => tb cn
  | _ => none
def eIsC (tb : Nat → Option Bool) (m : EM) : EM := fun e S => (m e S).bind fun x S1 => lf ((isC tb x).map .bl) S1
def MtX (X : Cx) (f : Store → D → List D → Option D) : V → List V → Hp → VK → Prop := fun v vs H Q => ∃ w x xs E, w.hp = H ∧ Rep X.K X.mg w ∧ RepD X.K X.mg w x v ∧ RepL X.K X.mg w xs vs ∧ Post (RepD X.K X.mg) X.K X.mg w (lf (f w.st x xs) w.st) Q E
def eMt (f : Store → D → List D → Option D) (a : EM) (m : AM) : EM := fun e S => (a e S).bind fun x S1 => if (seqD S1 x).isSome then (m e S1).bind fun xs S2 => lf (f S2 x xs) S2 else .stuck
theorem re_lm {name : Str} {id : String} {f : Store → D → List D → Option D} {m : AM} {apos : Pos} (hm : MtR X id (MtX X f)) (slot : Slot "list" name id) (hty : typeOf (.builtin id) = pure (.type "method_descriptor")) (ho : RE X W o ma) (ha : RA X W (e :: es) m)
    (hbase : attributeBase o name X.env (eval o X.env) = eval o X.env := by rfl)
    (hfew : ((backTo pos (starEach (e :: es) X.env)).all (fun x => !x.1) && (backToKw pos (keywordEach [] X.env)).all (fun x => x.1.isSome) && decide ((e :: es).length + ([] : List Keyword).length + (if ([] : List Keyword).isEmpty then 0 else 1) < 30)) = true := by rfl)
    (hline : (apos.endLine == pos.line) = true := by rfl) (hs : starEach (e :: es) X.env = (false, eval e X.env) :: starEach es X.env := by rfl) (hpl : (backTo pos (starEach es X.env)).any (·.1) = false := by rfl) :
    RE X W (.Call (.Attribute o name apos) (e :: es) [] pos) (eMt f ma m) := by
  refine pe_imp (pe_bm PySem.F.plainAttrs_list slot hty hm ho ha hbase hfew hline hs hpl) ?_
  rintro s H Q ⟨w, en, rfl, R, E, P⟩
  refine ⟨w, en, rfl, R, E, (Post.bind P).imp ?_⟩
  rintro v H1 ⟨w1, d, rfl, X1, R1, rd, P1⟩
  dsimp only at P1
  cases q : seqD w1.st d with
  | none => rw [q] at P1; exact False.elim P1
  | some l =>
    rw [q] at P1
    replace P1 : Post (RepD X.K X.mg) X.K X.mg w1 ((m en w1.st).bind fun xs S2 => lf (f S2 d xs) S2) Q _ := P1
    obtain ⟨ad, vs, rfl, hs, hl⟩ := rd.seq R1 q
    refine ⟨.inl ⟨rfl, _, hs⟩, w1, en, rfl, R1, E.ext X1.toEx0, (Post.bind P1).imp ?_⟩
    rintro us H2 ⟨w2, xs, rfl, X2, R2, rl, P2⟩
    exact ⟨w2, d, xs, _, rfl, R2, rd.ext X2.toEx0, rl, P2⟩
def flatD : D → Option V
  | .non => some .non
  | .bl b => some (.bl b)
  | .int i => some (.int i)
  | .str x => some (.str x)
  | _ => none
theorem RepD.flat {K : PySem.W.Frag} {mg : Str → Option Value} {w : Wo} {d : D} {v u : V} (h : RepD K mg w d v) (e : flatD d = some u) : v = u ∧ flatV v = true := by
  cases h <;> first | (cases e; exact ⟨rfl, rfl⟩) | cases e
def flatL : List D → Option (List V)
  | [] => some []
  | d :: l => match flatD d, flatL l with
    | some v, some vs => some (v :: vs)
    | _, _ => none
theorem RepL.flat {K : PySem.W.Frag} {mg : Str → Option Value} {w : Wo} {l : List D} {vs us : List V} (h : RepL K mg w l vs) (e : flatL l = some us) : vs = us ∧ vs.all flatV = true := by
  induction l generalizing vs us with
  | nil => cases h; cases e; exact ⟨rfl, rfl⟩
  | cons d l ih =>
    cases h with
    | cons r t =>
      rw [flatL] at e
      split at e
      · rename_i v2 vs2 e1 e2
        cases e
        obtain ⟨q1, q2⟩ := r.flat e1
        obtain ⟨q3, q4⟩ := ih t e2
        exact ⟨by rw [q1, q3], by rw [List.all_cons, q2, q4]; rfl⟩
      · cases e
def rCnt (K : PySem.W.Frag) : V → List V → Hp → VK → Prop := fun x xs H Q => ∃ (ad : Addr) (ys : List V) (y : V), x = .ref ad ∧ xs = [y] ∧ SqL K H ad ys ∧ flatV y = true ∧ ys.all flatV = true ∧ Q (.int (ys.countP fun z => eqV z y : Nat)) H
theorem mt_cnt : MtR X "list.count" (rCnt X.K) := by
  intro pins s σ H x xs v us Q I rx rxs h
  obtain ⟨ad, ys, y, rfl, rfl, hs, fy, fys, q⟩ := h
  cases rx
  obtain ⟨u, rfl, ru⟩ := rxs.one
  obtain ⟨its, rv, ⟨⟨cls, dd, data, sl⟩, n, ho, hc, hdn, hd⟩, hlen⟩ := I.list hs
  dsimp only at hc hd
  subst hc hd
  refine call_meets PySem.F.slot_list_count ⟨_, ho, rfl⟩ PySem.F.entry_list_count (PySem.F.args_list_count_2 _ _)
    (SeqAt.list_countAt ad its.toArray n dd sl u (eqU y)) ⟨ho, fun u' hu' => mem_eqAt ru fy rv fys u' (by simpa using hu'), ?_⟩
  have ec : ∀ (ys : List V) (its : List Value), Vals ys its → ys.all flatV = true → its.countP (eqU y) = ys.countP fun z => eqV z y := by
    intro ys
    induction ys with
    | nil => intro its r _; cases r; rfl
    | cons z ys ih =>
      intro its r f
      cases r with
      | cons r t =>
        rw [List.all_cons, Bool.and_eq_true] at f
        rw [List.countP_cons, List.countP_cons, ih _ t f.2, eqU_of r f.1]
  refine ⟨.int (ys.countP fun z => eqV z y : Nat), H, I.tok _, ⟨s.toks, ?_⟩, q⟩
  show Value.int ((its.toArray.toList.countP (eqU y) : Nat) : Int) s.toks = _
  rw [← ec ys its rv fys]
def fCnt (S : Store) (x : D) (xs : List D) : Option D := match seqD S x, xs with
  | some l, [y] => match flatL l, flatD y with
    | some vs, some v => some (.int (vs.countP fun z => eqV z v : Nat))
    | _, _ => none
  | _, _ => none
theorem mm_count : MtR X "list.count" (MtX X fCnt) := by
  intro pins s σ H x xs v us Q I rx rxs h
  obtain ⟨w, d, ds, E, rfl, R, rd, rl, P⟩ := h
  unfold fCnt at P
  split at P
  · rename_i l y e1
    obtain ⟨u, rfl, ru⟩ := rl.one_inv
    obtain ⟨ad, vs, rfl, hs, hl⟩ := rd.seq R e1
    split at P
    · rename_i vs' v' e2 e3
      obtain ⟨q1, q2⟩ := hl.flat e2
      obtain ⟨q3, q4⟩ := ru.flat e3
      subst q1 q3
      exact mt_cnt pins s σ w.hp _ _ v us Q I rx rxs ⟨ad, vs, u, rfl, rfl, hs, q4, q2, Post.now P R (.int _)⟩
    · exact False.elim P
  · exact False.elim P
def fIdx (S : Store) (x : D) (xs : List D) : Option D := match seqD S x, xs with
  | some l, [y] => match flatL l, flatD y with
    | some vs, some v => (vs.findIdx? fun z => eqV z v).map fun j => .int (j : Nat)
    | _, _ => none
  | _, _ => none
theorem mm_index : MtR X "list.index" (MtX X fIdx) := by
  intro pins s σ H x xs v us Q I rx rxs h
  obtain ⟨w, d, ds, E, rfl, R, rd, rl, P⟩ := h
  unfold fIdx at P
  split at P
  · rename_i l y e1
    obtain ⟨u, rfl, ru⟩ := rl.one_inv
    obtain ⟨ad, vs, rfl, hs, hl⟩ := rd.seq R e1
    split at P
    · rename_i vs' v' e2 e3
      obtain ⟨q1, q2⟩ := hl.flat e2
      obtain ⟨q3, q4⟩ := ru.flat e3
      subst q1 q3
      cases e4 : vs.findIdx? fun z => eqV z u with
      | none => rw [e4] at P; exact False.elim P
      | some j =>
        rw [e4] at P
        obtain ⟨hj, h1, h2⟩ := List.findIdx?_eq_some_iff_getElem.mp e4
        refine mt_index pins s σ w.hp _ _ v us Q I rx rxs ⟨ad, vs, u, j, vs[j], rfl, rfl, hs, q4, q2, List.getElem?_eq_getElem hj, h1, fun m z hm hz => ?_, Post.now P R (.int _)⟩
        have hml : m < vs.length := by omega
        rw [List.getElem?_eq_getElem hml] at hz
        cases hz
        simpa using h2 m hm
    · exact False.elim P
  · exact False.elim P
end
end G
namespace G
open PySem L2 PySem.Spec
structure XcO (K : PySem.W.Frag) (C : Addr) (bm : List Value) (nw : String) : Prop where
  x : PySem.W.excIn K C bm nw = true
  k : PySem.W.keepIn K (.ref C) = true
  b : PySem.W.subIn K (.ref C) (.type "BaseException") = some true
  t : PySem.W.typeIn K (.ref C) = some (.type "type")
section
variable {P : Program} {w0 : World} {K : PySem.W.Frag} {mg : Str → Option Value} {base : Heap}
theorem ints_rep {w : Wo} : ∀ ns : List Int, RepL K mg w (ns.map D.int) (ns.map V.int)
  | [] => .nil
  | n :: ns => .cons (.int n) (ints_rep ns)
end
end G
namespace G
open PySem L2 PySem.Spec PyProof.Rows
section
variable {fx : List Fx} {fn : List He.DefD} {K : PySem.W.Frag}
theorem SaysX.fact (c : SaysX fx fn K) (i : Nat) {f : Fx} (h : fx[i]? = some f := by rfl) : f K = true := by
  have c1 := (He.ba (show ((fx.all fun f => f K) && fn.all fun d => d.ok K) = true from congrArg (fun z : He.AlD => z.1) c)).1
  exact List.all_eq_true.mp c1 f (List.mem_of_getElem? h)
theorem SaysX.def_ (c : SaysX fx fn K) (i : Nat) {d : He.DefD} (h : fn[i]? = some d := by rfl) : ∃ fd, FunD K d.name d.qual d.params d.body d.scope (d.dvs K) (d.kws K) (He.fAd K d.at_) fd := by
  have c2 := (He.ba (show ((fx.all fun f => f K) && fn.all fun d => d.ok K) = true from congrArg (fun z : He.AlD => z.1) c)).2
  have e : fn.map (fun d => He.fnW K d.at_) = fn.map He.DefD.val := congrArg (fun z : He.AlD => z.2) c
  have e2 : (fn.map fun d => He.fnW K d.at_)[i]? = (fn.map He.DefD.val)[i]? := by rw [e]
  rw [List.getElem?_map, List.getElem?_map, h] at e2
  exact He.DefD.funD (Option.some.inj e2) (List.all_eq_true.mp c2 d (List.mem_of_getElem? h))
end
section
variable {K : PySem.W.Frag} {h : Heap} {mg : Str → Option Value}
theorem free_at (X : K.In h) (Y : h.Ns mainGlobals mg) {l : List Str} (c : freesB l K = true) (i : Nat) {x : Str} (e : l[i]? = some x := by rfl) : mg x = none :=
  PySem.W.mg_none_of X Y (He.eqO_ok (List.all_eq_true.mp c x (List.mem_of_getElem? e)))
theorem glo_one (X : K.In h) (Y : h.Ns mainGlobals mg) {x : Str} (c : oneGlo K x = true) : mg x = some (.ref (He.ga K x)) := PySem.W.mg_of X Y (He.eqO_ok c)
theorem glo_at (X : K.In h) (Y : h.Ns mainGlobals mg) {l : List Str} (c : glosB l K = true) (i : Nat) {x : Str} (e : l[i]? = some x := by rfl) : mg x = some (.ref (He.ga K x)) :=
  glo_one X Y (List.all_eq_true.mp c x (List.mem_of_getElem? e))
theorem tupX_ok {x : Str} {vs : List V} (h : tupX x vs K = true) : KtT K (He.ga K x) vs := by
  unfold tupX at h
  cases q : K.lookup (He.ga K x) with
  | none =>
    rw [q] at h
    cases h
  | some o =>
    obtain ⟨oc, od, dt, osl⟩ := o
    rw [q] at h
    cases oc with
    | type c =>
      cases dt with
      | seq its n =>
        obtain ⟨h1, h2⟩ := He.ba (show (decide (c = "tuple") && (decide (its.size ≤ sizeLine) && He.relAll vs its.toList)) = true from h)
        obtain ⟨h3, h4⟩ := He.ba h2
        exact ⟨_, its, n, q, congrArg Value.type (of_decide_eq_true h1), rfl, of_decide_eq_true h3, He.relAll_ok h4⟩
      | _ => cases h
    | _ => cases dt <;> cases h
theorem xcoB_ok {x : Str} {bm : List Value} {nw : String} (h : xcoB x bm nw K = true) : XcO K (He.ga K x) bm nw := by
  obtain ⟨c1, c⟩ := He.ba h
  obtain ⟨c2, c⟩ := He.ba c
  obtain ⟨c3, c4⟩ := He.ba c
  exact ⟨c1, c2, of_decide_eq_true c3, of_decide_eq_true c4⟩
theorem exqB_ok {C : Addr} (h : exqB K C = true) : ExcC K C := by
  obtain ⟨c1, c⟩ := He.ba h
  obtain ⟨c2, c⟩ := He.ba c
  obtain ⟨c3, c⟩ := He.ba c
  obtain ⟨c4, c⟩ := He.ba c
  obtain ⟨c5, c⟩ := He.ba c
  obtain ⟨c6, c⟩ := He.ba c
  obtain ⟨c7, c8⟩ := He.ba c
  exact ⟨He.eqO_ok c1, He.eqO_ok c2, of_decide_eq_true c3, c4, He.eqO_ok c5, He.eqO_ok c6, of_decide_eq_true c7, of_decide_eq_true c8⟩
theorem own_at {D A : Addr} {p : Addr → Prop} {x : Str} (g : mg x = some (.ref A)) (h : p A) (e : mg x = some (.ref D)) : p D := by
  rw [g] at e
  cases e
  exact h
end
end G
namespace G
open PySem L2 PySem.Spec
section
variable {X : Cx} {W : WX} {k : Nat}
def showOk (p : PyData) : Bool := p.showable && (!p.hasDict && (decide (p.depth ≤ 40) && decide (p.shown.length ≤ sizeLine)))
def isSq : D → Bool
  | .tup _ => true
  | .lst _ => true
  | .scr _ => true
  | _ => false
def fRepr : Store → List D → Option D
  | _, [d] => match d.toP with
    | some p => if (isSq d && showOk p) = true then some (.str p.shown) else none
    | none => none
  | _, _ => none
theorem RepD.sq_ref {K : PySem.W.Frag} {mg : Str → Option Value} {w : Wo} {d : D} {v : V} (h : RepD K mg w d v) (e : isSq d = true) : ∃ a, v = .ref a := by
  cases h <;> first | exact ⟨_, rfl⟩ | cases e
theorem cm_repr (rm : RoomG k X.A) : CallR X (.builtin "repr") (CaM X fRepr) := by
  intro pins s σ H xs us Q I r h
  obtain ⟨w, ds, E, rfl, R, q, P⟩ := h
  unfold fRepr at P
  split at P
  · rename_i S d
    split at P
    · rename_i p e
      split at P
      · rename_i c
        rw [Bool.and_eq_true] at c
        obtain ⟨c0, c⟩ := c
        unfold showOk at c
        simp only [Bool.and_eq_true, decide_eq_true_eq, Bool.not_eq_true'] at c
        obtain ⟨c1, c2, c3, c4⟩ := c
        obtain ⟨v, rfl, rv⟩ := q.one_inv
        obtain ⟨a, rfl⟩ := rv.sq_ref c0
        obtain ⟨u, rfl, ru⟩ := vals1 r
        cases ru
        obtain ⟨as, rd⟩ := Dp.reads I p _ _ (rv.dp e) rfl
        have hu := rm.units
        exact PySem.repr_of_reads' rd c1 (PyData.noDict_hsm c2) rm.gd (by omega) (fun _ _ z => z) (fun h' t tk kp => ⟨.str _, w.hp, I.kept kp, ⟨_, rfl⟩, Post.now P R (.str _)⟩) c4
      · exact False.elim P
    · exact False.elim P
  · exact False.elim P
theorem bt_repr : bootBuiltins "repr" = some (.builtin "repr") := by decide +kernel
end
section
variable {K : PySem.W.Frag} {x qual : Str} {params : Arguments} {body : List Stmt} {scope : Scope} {kws : List (Str × V)} {f : Addr} {fd : FuncData} {ps : List Str}
theorem kb_none (F : FunD K x qual params body scope [] kws f fd) (n : Nat) (ks : List Str) (g : {α : Type} → List α → List α → List α) (hrel : ∀ {vs zs : List V} {us ws : List Value}, Vals vs us → Vals zs ws → Vals (g vs zs) (g us ws))
    (h : ∀ (kV doc pm : Value) (an : Option Addr) (cdv ct : Value) (us ws : List Value), us.length = n → ws.length = ks.length → bindArgs (PySem.W.fnOf x qual params body scope .none kV doc pm an cdv ct) ⟨us, ks.zip ws⟩ = pure (ps.zip (g us ws))) :
    KBn K fd ps n ks (fun us ws => g us ws) (fun vs zs => g vs zs) := by
  obtain ⟨oc, od, dV, kV, doc, pm, an, cdv, ct, osl, rfl, lk, hcd, hD, hK⟩ := F.ex
  rcases hD with ⟨_, rfl⟩ | ⟨hn, _⟩
  · exact ⟨fun s us ws X l1 l2 => .of_eq (h kV doc pm an cdv ct us ws l1 l2), fun r1 r2 => hrel r1 r2⟩
  · exact absurd rfl hn
end
end G
namespace G
open PySem L2 PySem.Spec
section
variable {X : Cx} {W : WX} {a b c e o : Expr} {es : List Expr} {ma mb mc me : EM} {ta tb : TM} {pos : Pos} {x : Str} {p : Pos} {j k : Nat} {ps ks : List Str} {f : FM} {st : Stmt}
def sStk : SM := fun _ _ => .stuck
end
section
variable {K : PySem.W.Frag} {mg : Str → Option Value} {w : Wo}
theorem RepF.flen {fs : List (Nat × D)} {gs : List (Str × V)} : RepF K mg w fs gs → fs.length = gs.length
  | .nil => rfl
  | .cons _ t => congrArg Nat.succ (RepF.flen t)
def putD (f : Nat) (d : D) : List (Nat × D) → List (Nat × D)
  | [] => [(f, d)]
  | (g, x) :: r => if g = f then (g, d) :: r else (g, x) :: putD f d r
theorem RepF.put {f : Nat} {d : D} {v : V} (hf : f < 48) (q : RepD K mg w d v) {fs : List (Nat × D)} {gs : List (Str × V)} : RepF K mg w fs gs → RepF K mg w (putD f d fs) (putF (fname f) v gs)
  | .nil => .cons q .nil
  | @RepF.cons _ _ _ g d' v' l vs r t => by
    unfold putD putF
    by_cases e : g = f
    · subst e
      rw [if_pos rfl, if_pos rfl]
      exact .cons q t
    · rw [if_neg e, if_neg (fname_ne hf e)]
      exact .cons r (RepF.put hf q t)
def noField (m : Str) : Bool := (List.range 48).all (fun f => !(m == fname f)) && !(m == Str.ofString "")
theorem noField_ne {m : Str} (h : noField m = true) (g : Nat) : (m == fname g) = false := by
  unfold noField at h
  rw [Bool.and_eq_true] at h
  by_cases hg : g < 48
  · simpa using List.all_eq_true.mp h.1 g (List.mem_range.mpr hg)
  · rw [fname_big hg]; simpa using h.2
theorem RepF.noF {m : Str} (h : noField m = true) {fs : List (Nat × D)} {gs : List (Str × V)} : RepF K mg w fs gs → gs.lookup m = none
  | .nil => rfl
  | .cons _ t => by
    rw [List.lookup_cons, noField_ne h]
    exact RepF.noF h t
theorem RepD.insV {d : D} {v : V} {c : Nat} {fs : List (Nat × D)} (R : Rep K mg w) (h : RepD K mg w d v) (e : insD w.st d = some (c, fs)) : ∃ a C dx gs, v = .ref a ∧ mg (cname c) = some (.ref C) ∧ w.hp a = some (.ins C dx gs) ∧ RepF K mg w fs gs := by
  cases h with
  | ins g s r => cases e; exact ⟨_, _, _, _, rfl, g, s.1, r⟩
  | @loc n a hn =>
    replace e : (match w.st[n]? with
      | some (.obj c fs) => some (c, fs)
      | _ => none) = some (c, fs) := e
    split at e
    · rename_i c' fs' hl
      cases e
      obtain ⟨C, dx, gs, g, p, r⟩ := R.cell _ _ _ hn hl
      exact ⟨a, C, dx, gs, rfl, g, p, r⟩
    · cases e
  | _ => cases e
def fldD (cs : List Nat) (f : Nat) (S : Store) (x : D) : Option D := match insD S x with
  | some (c, fs) => if cs.contains c then fs.lookup f else none
  | none => none
end
section
variable {X : Cx} {W : WX} {a b c e o : Expr} {es : List Expr} {ma mb mc me : EM} {ta tb : TM} {pos : Pos} {x : Str} {p : Pos} {j k : Nat} {ps ks : List Str}
def eFld (cs : List Nat) (f : Nat) (m : EM) : EM := fun e S => (m e S).bind fun x S1 => lf (fldD cs f S1 x) S1
def ClF (K : PySem.W.Frag) (mg : Str → Option Value) (cs : List Nat) (f : Nat) : Prop := ∀ c C, cs.contains c = true → mg (cname c) = some (.ref C) → Cls K C ∧ NoAttr K C (fname f)
theorem re_fld {cs : List Nat} (f : Nat) (hcl : ClF X.K X.mg cs f) (ha : RE X W a ma) (hf : f < 48 := by decide) (hx : fname f = x := by rfl) (hb : attributeBase a x X.env (eval a X.env) = eval a X.env := by rfl) : RE X W (.Attribute a x pos) (eFld cs f ma) := by
  refine pe_imp (pe_fld ha hb) ?_
  rintro s H Q ⟨w, en, rfl, R, E, P⟩
  refine ⟨w, en, rfl, R, E, (Post.bind P).imp ?_⟩
  rintro v H1 ⟨w1, d, rfl, X1, R1, rd, P1⟩
  dsimp only at P1
  unfold fldD at P1
  cases q : insD w1.st d with
  | none => rw [q] at P1; exact False.elim P1
  | some cf =>
    obtain ⟨c, fs⟩ := cf
    rw [q] at P1
    dsimp only at P1
    split at P1
    · rename_i hc
      obtain ⟨ad, C, dx, gs, rfl, g, hp, rf⟩ := rd.insV R1 q
      cases ql : fs.lookup f with
      | none => rw [ql] at P1; exact False.elim P1
      | some d' =>
        rw [ql] at P1
        obtain ⟨v', h1, h2⟩ := rf.get hf ql
        obtain ⟨k1, k2⟩ := hcl c C hc g
        rw [hx] at h1 k2
        exact ⟨ad, C, dx, gs, v', rfl, hp, k1, k2, h1, Post.now P1 R1 h2⟩
    · exact False.elim P1
def stF (cs : List Nat) (f : Nat) (S : Store) (x y : D) : Option Store := match x with
  | .loc n => match S[n]? with
    | some (.obj c fs) => if cs.contains c && decide (fs.length < 1000) then some (S.set n (.obj c (putD f y fs))) else none
    | _ => none
  | _ => none
def stR (o : Option Store) (e : En) : SRes := match o with
  | some S => .nxt e S
  | none => .stuck
def sFldM (cs : List Nat) (f : Nat) (o v : EM) : SM := fun e S => sE (v e S) e fun y S1 => sE (o e S1) e fun x S2 => stR (stF cs f S2 x y) e
theorem rs_fld {cs : List Nat} (f : Nat) {pos' : Pos} (hcl : ClF X.K X.mg cs f) (ho : RE X W a ma) (hv : RE X W b mb) (hf : f < 48 := by decide) (hx : fname f = x := by rfl) (hs : swapsWith b (some (.Attribute a x pos')) pos.line X.env = pure false := by rfl) :
    RS X W (.Assign [.Attribute a x pos'] b pos) (sFldM cs f ma mb) := by
  refine ps_imp (ps_fld ho hv hs) ?_
  rintro D0 s H ⟨w, en, rfl, R, E, P⟩
  refine ⟨w, en, rfl, R, E, (PostS.of P E).imp ?_⟩
  rintro y H1 ⟨w1, dy, rfl, X1, R1, ry, P1⟩
  refine ⟨w1, en, rfl, R1, E.ext X1.toEx0, (PostS.of P1 (E.ext X1.toEx0)).imp ?_⟩
  rintro v H2 ⟨w2, d, rfl, X2, R2, rd, P2⟩
  dsimp only at P2
  cases q : stF cs f w2.st d dy with
  | none => rw [q] at P2; exact False.elim P2
  | some S3 =>
    rw [q] at P2
    unfold stF at q
    split at q
    · rename_i m
      split at q
      · rename_i c fs hl
        split at q
        · rename_i hc
          rw [Bool.and_eq_true] at hc
          cases q
          cases rd with
          | @loc _ ad hn =>
            obtain ⟨C, dx, gs, g, hp, rf⟩ := R2.cell _ _ _ hn hl
            obtain ⟨k1, k2⟩ := hcl c C hc.1 g
            have ry' := ry.ext X2.toEx0
            have Xw : Ext w2 (w2.wr m ad (.ins C dx (putF x y gs)) (.obj c (putD f dy fs))) := wr_ext R2 hn hl (by intro z; cases z)
            rw [hx] at k2
            refine ⟨ad, C, dx, gs, rfl, hp, k1, k2, by rw [← rf.flen]; exact of_decide_eq_true hc.2, ?_⟩
            exact P2 (w2.wr m ad (.ins C dx (putF x y gs)) (.obj c (putD f dy fs))) s Xw (R2.wr hn hl (by intro z; cases z) ⟨C, dx, _, g, upd_same, by have z := RepF.put hf ry' rf; rw [hx] at z; exact z.ext Xw.toEx0⟩) rfl (((E.ext X1.toEx0).ext X2.toEx0).ext Xw.toEx0)
        · cases q
      · cases q
    · cases q
end
mutual
def D.lo (n : Nat) : D → Bool
  | .non => true
  | .bl _ => true
  | .int _ => true
  | .str _ => true
  | .tup l => loL n l
  | .lst l => loL n l
  | .scr l => loL n l
  | .dic _ l => loL n l
  | .loc m => decide (m < n)
  | .exc _ fs => loF n fs
  | .ins _ fs => loF n fs
  | .fa _ => true
  | .pin _ d => d.lo n
def loL (n : Nat) : List D → Bool
  | [] => true
  | d :: l => d.lo n && loL n l
def loF (n : Nat) : List (Nat × D) → Bool
  | [] => true
  | (_, d) :: l => d.lo n && loF n l
end
section
variable {K : PySem.W.Frag} {mg : Str → Option Value} {w : Wo}
theorem StP.cut {n : Nat} {a : Addr} {u : HO} (h : StP w a u) : StP (w.cut n) a u := ⟨h.1, fun z => h.2 (cut_zz z)⟩
theorem StO.cut {n : Nat} {a : Addr} {u : HO} (h : StO w a u) : StO (w.cut n) a u := ⟨h.1, fun z => h.2 (cut_zz z)⟩
mutual
theorem RepD.cut {n : Nat} {d : D} {v : V} : RepD K mg w d v → d.lo n = true → RepD K mg (w.cut n) d v
  | .non, _ => .non
  | .bl b, _ => .bl b
  | .int i, _ => .int i
  | .str x, _ => .str x
  | .tup h r, l => .tup (h.imp (fun h => h.cut) id) (RepL.cutR r (by rw [D.lo] at l; exact l))
  | .lst h r, l => .lst h.cut (RepL.cutR r (by rw [D.lo] at l; exact l))
  | .scr h r, l => .scr (h.imp (fun h => h.cut) id) (RepL.cutR r (by rw [D.lo] at l; exact l))
  | .dic h z r, l => .dic h.cut z (RepL.cutR r (by rw [D.lo] at l; exact l))
  | .loc h, l => .loc (by
      rw [D.lo] at l
      show (w.al.take n)[_]? = _
      rw [List.getElem?_take, if_pos (of_decide_eq_true l)]; exact h)
  | .ins g h r, l => .ins g h.cut (RepF.cutR r (by rw [D.lo] at l; exact l))
  | .exc g h x r, l => .exc g h.cut (x.imp id fun ⟨z, y, q, s⟩ => ⟨z, y, q, s.cut⟩) (RepF.cutR r (by rw [D.lo] at l; exact l))
  | .fa a, _ => .fa a
  | .pin h, l => .pin (RepD.cut h (by rw [D.lo] at l; exact l))
theorem RepL.cutR {n : Nat} {l : List D} {vs : List V} : RepL K mg w l vs → loL n l = true → RepL K mg (w.cut n) l vs
  | .nil, _ => .nil
  | .cons r t, h => by
    rw [loL, Bool.and_eq_true] at h
    exact .cons (RepD.cut r h.1) (RepL.cutR t h.2)
theorem RepF.cutR {n : Nat} {l : List (Nat × D)} {vs : List (Str × V)} : RepF K mg w l vs → loF n l = true → RepF K mg (w.cut n) l vs
  | .nil, _ => .nil
  | .cons r t, h => by
    rw [loF, Bool.and_eq_true] at h
    exact .cons (RepD.cut r h.1) (RepF.cutR t h.2)
end
mutual
theorem RepD.low {d : D} {v : V} : RepD K mg w d v → d.lo w.al.length = true
  | .non => by rw [D.lo]
  | .bl b => by rw [D.lo]
  | .int i => by rw [D.lo]
  | .str x => by rw [D.lo]
  | .tup h r => by rw [D.lo]; exact RepL.low r
  | .lst h r => by rw [D.lo]; exact RepL.low r
  | .scr h r => by rw [D.lo]; exact RepL.low r
  | .dic h z r => by rw [D.lo]; exact RepL.low r
  | .loc h => by rw [D.lo]; exact decide_eq_true (List.getElem?_eq_some_iff.mp h).1
  | .ins g h r => by rw [D.lo]; exact RepF.low r
  | .exc g h x r => by rw [D.lo]; exact RepF.low r
  | .fa a => by rw [D.lo]
  | .pin h => by rw [D.lo]; exact RepD.low h
theorem RepL.low {l : List D} {vs : List V} : RepL K mg w l vs → loL w.al.length l = true
  | .nil => by rw [loL]
  | .cons r t => by rw [loL, Bool.and_eq_true]; exact ⟨RepD.low r, RepL.low t⟩
theorem RepF.low {l : List (Nat × D)} {vs : List (Str × V)} : RepF K mg w l vs → loF w.al.length l = true
  | .nil => by rw [loF]
  | .cons r t => by rw [loF, Bool.and_eq_true]; exact ⟨RepD.low r, RepF.low t⟩
end
def loK {κ : Type} (n : Nat) : List (κ × D) → Bool
  | [] => true
  | (_, d) :: l => d.lo n && loK n l
theorem RepK.low {κ : Type} {l : List (κ × D)} {vs : List (κ × V)} : RepK κ K mg w l vs → loK w.al.length l = true
  | .nil => rfl
  | .cons r t => by rw [loK, Bool.and_eq_true]; exact ⟨r.low, RepK.low t⟩
theorem RepK.cutR {κ : Type} {n : Nat} {l : List (κ × D)} {vs : List (κ × V)} : RepK κ K mg w l vs → loK n l = true → RepK κ K mg (w.cut n) l vs
  | .nil, _ => .nil
  | .cons r t, h => by
    rw [loK, Bool.and_eq_true] at h
    exact .cons (r.cut h.1) (RepK.cutR t h.2)
theorem CellR.cut {w1 : Wo} {n : Nat} {a a' : Addr} {c : Cell} (h : CellR K mg w a c) (h0 : CellR K mg w1 a' c) (hn : w1.al.length = n) : CellR K mg (w.cut n) a c := by
  subst hn
  cases c with
  | dead => trivial
  | lst l => obtain ⟨vs, p, r⟩ := h; obtain ⟨_, _, r0⟩ := h0; exact ⟨vs, p, r.cutR r0.low⟩
  | dk l => obtain ⟨vs, p, r⟩ := h; obtain ⟨_, _, r0⟩ := h0; exact ⟨vs, p, r.cutR r0.low⟩
  | fk l => obtain ⟨o, vs, p, r⟩ := h; obtain ⟨_, _, _, r0⟩ := h0; exact ⟨o, vs, p, r.cutR r0.low⟩
  | ts l => obtain ⟨h1, h2, xs, h3, h4, h5⟩ := h; exact ⟨h1, h2, xs, h3, h4, fun x hx => (h5 x hx).imp (fun q => q.cut) id⟩
  | fs l => obtain ⟨h1, h2, o, xs, h3, h4, h5⟩ := h; exact ⟨h1, h2, o, xs, h3, h4, fun x hx => (h5 x hx).imp (fun q => q.cut) id⟩
  | obj c l => obtain ⟨C, dx, gs, g, p, r⟩ := h; obtain ⟨_, _, _, _, _, r0⟩ := h0; exact ⟨C, dx, gs, g, p, r.cutR r0.low⟩
  | tbl _ q =>
    obtain ⟨ea, ps, p, t, r⟩ := h
    refine ⟨ea, ps, p, t, fun pos cv hc => ?_⟩
    obtain ⟨c, o, e1, e2, e3⟩ := r pos cv hc
    exact ⟨c, o, e1, e2, fun z => e3 (cut_zz z)⟩
theorem Rep.cut {w1 : Wo} (R1 : Rep K mg w1) (X : Ext w1 w) (R : Rep K mg w) (hs : w.st.take w1.st.length = w1.st) : Rep K mg (w.cut w1.al.length) := by
  obtain ⟨t, e⟩ := X.al
  have el : w.al.take w1.al.length = w1.al := by rw [e]; simp
  have es : w.st.take w1.al.length = w1.st := by rw [R1.len]; exact hs
  refine ⟨?_, ?_, fun a h => ?_, fun m a c g1 g2 => ?_, fun a h => ?_⟩
  · show (w.al.take _).length = (w.st.take _).length
    rw [el, es]; exact R1.len
  · show (w.al.take _).Nodup
    rw [el]; exact R1.nd
  · have h : a ∈ w.al.take w1.al.length := h
    exact R.tr a (mem_take h)
  · have g1 : (w.al.take w1.al.length)[m]? = some a := g1
    have g2 : (w.st.take w1.al.length)[m]? = some c := g2
    have c0 := R1.cell m a c (by rw [← el]; exact g1) (by rw [← es]; exact g2)
    exact (R.cell m a c (take_get g1) (take_get g2)).cut c0 rfl
  · obtain ⟨h1, h2⟩ := R.hid a h
    exact ⟨fun z => h1 (mem_take z), h2⟩
end
end G
namespace G
open PySem L2 PySem.Spec
theorem RoomG.make {k : Nat} {A : Around} (h : RoomG (k + 1) A) (C : Addr) (us : List Value) (kw : List (Str × Value)) : RoomG k (A.under (.builtin "type.__call__" ⟨.ref C :: us, kw⟩)) := ⟨h.r.make C us kw, by
  have := h.gd
  first
    | exact this
    | simpa [Around.under] using this⟩
section
variable {X : Cx} {W : WX} {k n : Nat} {f C : Addr} {fd : FuncData} {ps ks : List Str} {sp : Sp} {E : St → XK} {g : List Value → List Value → List Value} {gV : List V → List V → List V}
theorem run_mkG {pins : List (Addr × Obj)} {σ : St} {H : Hp} {s : Shared} {Q : VK} {us ws : List Value} {vs zs : List V} (M : Mk X.K C f) (F : FnG X.prog X.w X.K X.mg X.base k f fd ps sp) (hr : RoomG (k + 1) X.A) (hb : KBn X.K fd ps (n + 1) ks g gV)
    (hx : PassesAt (L2.CX X.prog X.w) X σ (E σ)) (I : L2.Inv X pins σ H s) (r : Vals vs us) (rz : Vals zs ws) (l1 : vs.length = n) (l2 : zs.length = ks.length)
    (h : ∀ x dx, H x = none → H dx = none → dx ≠ x → sp (gV (.ref x :: vs) zs) (upd (upd H dx (.own x)) x (.ins C dx [])) (fun v H2 => v = .non ∧ Q (.ref x) H2) (E σ)) :
    wpAny (model X.prog X.w) X.A (call (.ref C) us (ks.zip ws)) (EP X pins σ Q) X.xe s := by
  have hq := h (s.heap.objs.size + 1) s.heap.objs.size (I.hok.fresh (Nat.le_succ _)) (I.hok.fresh (Nat.le_refl _)) (Nat.ne_of_lt (Nat.lt_succ_self _))
  have I2 := Inv.made (C := C) I
  have r1 : Vals (V.ref (s.heap.objs.size + 1) :: vs) (Value.ref (s.heap.objs.size + 1) :: us) := .cons rfl r
  have r2 := hb.rel r1 rz
  have e1 : (Value.ref (s.heap.objs.size + 1) :: us).length = n + 1 := r1.length.symm.trans (congrArg Nat.succ l1)
  have e2 : ws.length = ks.length := rz.length.symm.trans l2
  refine wpAny_call (make_map (f := f) I.kIn M.makes M.init (beq_iff_eq.mp M.fn) (codeAny_mono (F.run _ X.stack _ _ ⟨Value.ref (s.heap.objs.size + 1) :: us, ks.zip ws⟩ (g (Value.ref (s.heap.objs.size + 1) :: us) ws) _ _ (E σ) (hr.make C us (ks.zip ws))
    (I2.env0.make C us (ks.zip ws)) (hb.to _ (Value.ref (s.heap.objs.size + 1) :: us) ws I2.kIn e1 e2) r2 hq) fun r s' hq' => ?_))
  cases r with
  | error e => exact hx pins _ _ e s' I2 hq'
  | ok fl =>
    cases fl with
    | ret u =>
      obtain ⟨v, H', I3, rv, ev, q3⟩ := I2.after hq'
      subst ev
      exact ⟨rv, ⟨V.ref (s.heap.objs.size + 1), H', I3, rfl, q3⟩⟩
    | next => exact False.elim hq'
    | brk => exact False.elim hq'
    | cont => exact False.elim hq'
end
structure Dm (P : Program) (w0 : World) (K : PySem.W.Frag) (mg : Str → Option Value) (base : Heap) (cn : Nat) (ps : List Str) (k n : Nat) (ks : List Str) (gD : List D → List D → List D) (m : FM) : Prop where
  ex : ∃ C f fd g gV, mg (cname cn) = some (.ref C) ∧ Mk K C f ∧ KBn K fd ps (n + 1) ks g gV ∧ (∀ w ds vs es zs, RepL K mg w ds vs → RepL K mg w es zs → ds.length = n + 1 → es.length = ks.length → RepL K mg w (gD ds es) (gV vs zs) ∧ (gV vs zs).length = ps.length) ∧ FnG P w0 K mg base k f fd ps (spM K mg ps.length m)
def endM (n : Nat) : Res D → Res D
  | .ok .non S2 => .ok (.loc n) S2
  | .exc x S2 => .exc x S2
  | _ => .stuck
def mkM (cn : Nat) (f : FM) (gD : List D → List D → List D) (ds zs : List D) (S : Store) : Res D := endM S.length (f (gD (.loc S.length :: ds) zs) (S ++ [.obj cn []]))
section
variable {K : PySem.W.Frag} {mg : Str → Option Value}
def Wo.mk1 (w : Wo) (x dx C : Addr) (cn : Nat) : Wo := (w.put dx (.own x)).new x (.ins C dx []) (.obj cn [])
theorem mk1_none {w : Wo} {x dx : Addr} (hx : w.hp x = none) (ne : dx ≠ x) : (w.put dx (.own x)).hp x = none := by
  show upd w.hp dx _ x = _
  rw [upd_ne (Ne.symm ne)]; exact hx
theorem mk1_ext {w : Wo} (R : Rep K mg w) {x dx C : Addr} {cn : Nat} (hx : w.hp x = none) (hd : w.hp dx = none) (ne : dx ≠ x) : Ext w (w.mk1 x dx C cn) :=
  (put_ext R hd).trans (new_ext (R.put hd) (mk1_none hx ne))
theorem mk1_rep {w : Wo} (R : Rep K mg w) {x dx C : Addr} {cn : Nat} (hx : w.hp x = none) (hd : w.hp dx = none) (ne : dx ≠ x) (g : mg (cname cn) = some (.ref C)) : Rep K mg (w.mk1 x dx C cn) :=
  (R.put hd).new (mk1_none hx ne) ⟨C, dx, [], g, upd_same, .nil⟩
theorem mk1_get {w : Wo} (R : Rep K mg w) {x dx C : Addr} {cn : Nat} (hd : w.hp dx = none) : (w.mk1 x dx C cn).al[w.st.length]? = some x := new_get (R.put hd)
theorem post_mkM {w : Wo} (R : Rep K mg w) {x dx C : Addr} {cn : Nat} {r : Res D} {Q : VK} {E : XK} (hx : w.hp x = none) (hd : w.hp dx = none) (ne : dx ≠ x) (P : Post (RepD K mg) K mg w (endM w.st.length r) Q E) :
    Post (RepD K mg) K mg (w.mk1 x dx C cn) r (fun v H2 => v = .non ∧ Q (.ref x) H2) E := by
  have X1 := mk1_ext (C := C) (cn := cn) R hx hd ne
  cases r with
  | stuck => exact P
  | exc y S2 => exact fun w2 cls dd X2 R2 st2 rx => P w2 cls dd (X1.trans X2) R2 st2 rx
  | ok d S2 =>
    cases d with
    | non =>
      intro w2 v X2 R2 st2 rv
      cases rv
      exact ⟨rfl, P w2 (.ref x) (X1.trans X2) R2 st2 (.loc (X2.get (mk1_get R hd)))⟩
    | _ => exact False.elim P
end
section
variable {X : Cx} {W : WX} {a b c e o : Expr} {es : List Expr} {ma mb mc me : EM} {ta tb : TM} {pos : Pos} {x : Str} {p : Pos} {j k cn n : Nat} {ps ks : List Str} {f : FM} {gD : List D → List D → List D}
def eMk (mk' : List D → List D → Store → Res D) (n l : Nat) (m mk : AM) : EM := fun e S => (m e S).bind fun ds S1 => (mk e S1).bind fun zs S2 => if ds.length = n ∧ zs.length = l then mk' ds zs S2 else .stuck
def eMk0 (mk' : List D → List D → Store → Res D) : EM := fun _ S => mk' [] [] S
theorem re_mk0 {en1 : Nat → Store → Res D → Res D} (hen : ∀ {w : Wo} (R : Rep X.K X.mg w) {x dx C : Addr} {r : Res D} {Q : VK} {E : XK}, w.hp x = none → w.hp dx = none → dx ≠ x → Post (RepD X.K X.mg) X.K X.mg w (en1 cn w.st r) Q E →
      Post (RepD X.K X.mg) X.K X.mg (w.mk1 x dx C cn) r (fun v H2 => v = .non ∧ Q (.ref x) H2) E)
    (c : Cg X W k) (hF : Dm X.prog X.w X.K X.mg X.base cn ps j 0 [] gD f) (hj : j + 1 ≤ k) (hx : cname cn = x := by rfl) (hg : Gl X x := by rfl) (hdb : (x == ("__debug__" : Str)) = false := by decide) :
    RE X W (.Call (.Name x p) [] [] pos) (eMk0 (fun ds zs S => en1 cn S (f (gD (.loc S.length :: ds) zs) (S ++ [.obj cn []])))) := by
  obtain ⟨C, fa, fd, g, gV, h1, h2, h3, hR, h4⟩ := hF.ex
  subst hx
  refine ⟨fun pins s σ H Q I h => ?_⟩
  obtain ⟨w, en, rfl, R, E, P⟩ := h
  refine wpAny_Call_Name_kw (ld_glob I hg h1 ?_ hdb)
  refine PySem.W.callWith_K0 I.kIn h2.kp ?_
  refine run_mkG (E := WE W) (us := []) (ws := []) (vs := []) (zs := []) (ks := []) h2 h4 (c.rm.mono hj) h3 (passAt c.tk σ) I .nil .nil rfl rfl fun xx dx hx hd ne => ?_
  have X3 := mk1_ext (C := C) (cn := cn) R hx hd ne
  obtain ⟨q1, q2⟩ := hR (w.mk1 xx dx C cn) [.loc w.st.length] [.ref xx] [] [] (.cons (.loc (mk1_get R hd)) .nil) .nil rfl rfl
  exact ⟨q2, w.mk1 xx dx C cn, _, rfl, mk1_rep R hx hd ne h1, q1, hen R hx hd ne P⟩
theorem re_mkM0 (c : Cg X W k) (hF : Dm X.prog X.w X.K X.mg X.base cn ps j 0 [] gD f) (hj : j + 1 ≤ k) (hx : cname cn = x := by rfl) (hg : Gl X x := by rfl) (hdb : (x == ("__debug__" : Str)) = false := by decide) :
    RE X W (.Call (.Name x p) [] [] pos) (eMk0 (mkM cn f gD)) :=
  re_mk0 (en1 := fun _ S r => endM S.length r) (@fun _ R _ _ _ _ _ _ hx hd ne P => post_mkM R hx hd ne P) c hF hj hx hg hdb
end
end G
namespace G
open PySem L2 PySem.Spec RZ
section
variable {X : Cx} {W : WX} {a b c e o : Expr} {es : List Expr} {ma mb mc me : EM} {ta tb : TM} {pos : Pos} {x : Str} {p : Pos} {j k : Nat}
variable {K : PySem.W.Frag} {mg : Str → Option Value} {w : Wo}
def zipD (l m : List D) : List D := List.zipWith (fun x y => .tup [x, y]) l m
def zipR (ds : List D) (S : Store) : Res (List D) := match ds with
  | [.tup l, .tup m] => .ok (zipD l m) S
  | [.lst l, .lst m] => .ok (zipD l m) S
  | _ => .stuck
def iZip (m : AM) : AM := fun e S => (m e S).bind zipR
def signs (x : Str) : List D := x.cps.toList.map fun c => .str ⟨#[c]⟩
def strR (d : D) (S : Store) : Res (List D) := match d with
  | .str x => .ok (signs x) S
  | _ => .stuck
def iStrM (m : EM) : AM := fun e S => (m e S).bind strR
def appR (x : D) (xs : List D) (S : Store) : Res D := match x, xs with
  | .loc n, [y] => match S[n]? with
    | some (.lst l) => if l.length < sizeLine then .ok .non (S.set n (.lst (l ++ [y]))) else .stuck
    | _ => .stuck
  | _, _ => .stuck
def isLst (S : Store) (x : D) : Bool := (seqD S x).isSome
def eApp (a : EM) (m : AM) : EM := fun e S => (a e S).bind fun x S1 => if isLst S1 x then (m e S1).bind fun xs S2 => appR x xs S2 else .stuck
theorem re_app {m : AM} {apos : Pos} (ho : RE X W o ma) (ha : RA X W [e] m) (hbase : attributeBase o "append" X.env (eval o X.env) = eval o X.env := by rfl)
    (hfew : ((backTo pos (starEach [e] X.env)).all (fun x => !x.1) && (backToKw pos (keywordEach [] X.env)).all (fun x => x.1.isSome) && decide ([e].length + ([] : List Keyword).length + (if ([] : List Keyword).isEmpty then 0 else 1) < 30)) = true := by rfl)
    (hline : (apos.endLine == pos.line) = true := by rfl) (hs : starEach [e] X.env = (false, eval e X.env) :: starEach [] X.env := by rfl) (hpl : (backTo pos (starEach [] X.env)).any (·.1) = false := by rfl) :
    RE X W (.Call (.Attribute o "append" apos) [e] [] pos) (eApp ma m) := by
  refine pe_imp (pe_bm PySem.F.plainAttrs_list PySem.F.slot_list_append PySem.F.type_list_append mt_append ho ha hbase hfew hline hs hpl) ?_
  rintro s H Q ⟨w, en, rfl, R, E, P⟩
  refine ⟨w, en, rfl, R, E, (Post.bind P).imp ?_⟩
  rintro v H1 ⟨w1, d, rfl, X1, R1, rd, P1⟩
  dsimp only at P1
  split at P1
  · rename_i hq
    unfold isLst at hq
    cases q : seqD w1.st d with
    | none => rw [q] at hq; cases hq
    | some l =>
      obtain ⟨ad, vs, rfl, hs, hl⟩ := rd.seq R1 q
      refine ⟨.inl ⟨rfl, _, hs⟩, w1, en, rfl, R1, E.ext X1.toEx0, (Post.bind P1).imp ?_⟩
      rintro us H2 ⟨w2, xs, rfl, X2, R2, rl, P2⟩
      have rd2 := rd.ext X2.toEx0
      dsimp only at P2
      unfold appR at P2
      split at P2
      · rename_i n y
        split at P2
        · rename_i l2 hl2
          split at P2
          · rename_i hz
            obtain ⟨u, rfl, ru⟩ := rl.one_inv
            cases rd2 with
            | loc hn =>
              obtain ⟨vs2, p2, r2⟩ := R2.cell _ _ _ hn hl2
              have Xw : Ext w2 (w2.wr n ad (.lst (vs2 ++ [u])) (.lst (l2 ++ [y]))) := wr_ext R2 hn hl2 (by intro z; cases z)
              refine ⟨ad, vs2, u, rfl, rfl, p2, by rw [← r2.length]; exact hz, ?_⟩
              exact P2 (w2.wr n ad (.lst (vs2 ++ [u])) (.lst (l2 ++ [y]))) .non Xw (R2.wr hn hl2 (by intro z; cases z) ⟨_, upd_same, (r2.append (.cons ru .nil)).ext Xw.toEx0⟩) rfl .non
          · exact False.elim P2
        · exact False.elim P2
      · exact False.elim P2
  · exact False.elim P1
def rsv (S : Store) : D → D
  | .loc n => match S[n]? with
    | some (.lst l) => .lst l
    | _ => .loc n
  | d => d
def lstOf (S : Store) (d : D) : Option (List D) := match rsv S d with
  | .lst l => some l
  | _ => none
theorem RepD.lstV {d : D} {v : V} {l : List D} (R : Rep K mg w) (h : RepD K mg w d v) (e : rsv w.st d = .lst l) : ∃ a vs, v = .ref a ∧ w.hp a = some (.lst vs) ∧ RepL K mg w l vs := by
  cases h with
  | lst s r => cases e; exact ⟨_, _, rfl, s.1, r⟩
  | @loc n a hn =>
    replace e : (match w.st[n]? with
      | some (.lst l) => .lst l
      | _ => .loc n) = D.lst l := e
    split at e
    · rename_i l' hl
      cases e
      obtain ⟨vs, p, r⟩ := R.cell _ _ _ hn hl
      exact ⟨_, vs, rfl, p, r⟩
    · cases e
  | _ => cases e
def dAddS (S : Store) (x y : D) : Option D := match rsv S x, rsv S y with
  | .lst l, .lst m => if l.length + m.length ≤ sizeLine then some (.lst (l ++ m)) else none
  | _, _ => dAdd x y
theorem om_addS : OpR X (binaryOp .Add) (OpMS X dAddS) := by
  intro pins s σ H x y v u Q I rx ry h
  obtain ⟨w, dx, dy, E, rfl, R, qx, qy, P⟩ := h
  unfold dAddS at P
  split at P
  · rename_i l m e1 e2
    split at P
    · rename_i hz
      obtain ⟨a1, vs, rfl, p1, r1⟩ := qx.lstV R e1
      obtain ⟨a2, us, rfl, p2, r2⟩ := qy.lstV R e2
      refine op_cat pins s σ w.hp _ _ v u Q I rx ry ⟨_, _, _, _, rfl, rfl, p1, p2, by rw [← r1.length, ← r2.length]; exact hz, fun p hp => ?_⟩
      exact Post.put P R hp (.lst (put_st R hp) ((r1.append r2).ext (put_ext R hp).toEx0))
    · exact False.elim P
  · exact om_add pins s σ w.hp _ _ v u Q I rx ry ⟨w, dx, dy, E, rfl, R, qx, qy, P⟩
theorem re_binS {op : Operator} {f : Store → D → D → Option D} (ho : OpR X (binaryOp op) (OpMS X f)) (ha : RE X W a ma) (hb : RE X W b mb) : RE X W (.BinOp a op b pos) (eBinS f ma mb) := pe_imp (pe_op ho ha hb) t_binS
def fDivmodW : Store → List D → Option D
  | _, [.int i, .int j] => if 0 < j ∧ j.natAbs.log2 < 9000 then some (.tup [.int (i / j), .int (i % j)]) else none
  | _, _ => none
theorem call_divmodW : CallR X (.builtin "divmod") (fun xs H Q => ∃ i j, xs = [.int i, .int j] ∧ (0 < j ∧ j.natAbs.log2 < 9000) ∧ ∀ p, H p = none → Q (.ref p) (upd H p (.tup [.int (i / j), .int (i % j)]))) := by
  intro pins s σ H xs us Q I r h
  obtain ⟨i, j, rfl, ⟨h1, h2⟩, q⟩ := h
  obtain ⟨u, w', rfl, ⟨t, rfl⟩, ⟨t', rfl⟩⟩ := vals2 r
  refine PyProof.Rows.divmod_int (by omega) ?_ (.inl (PyProof.noPylong_of_log2 h2))
  rw [Int.fdiv_eq_ediv_of_nonneg i (by omega), Int.fmod_eq_emod_of_nonneg i (by omega)]
  have hn : H s.heap.objs.size = none := I.hok.fresh (Nat.le_refl _)
  refine ⟨.ref s.heap.objs.size, _, ?_, rfl, q _ hn⟩
  refine I.laid (fun b o e => Heap.get?_push_of_some _ e) (Nat.le_refl _) ⟨by simp only [List.length_cons, List.length_nil]; rw [sizeLine_eq]; decide, [.int (i / j) s.toks, .int (i % j) (s.toks + 1)], .cons ⟨_, rfl⟩ (.cons ⟨_, rfl⟩ .nil), ?_⟩
  exact ⟨_, Heap.get?_push_size s.heap rfl, rfl, 0, rfl⟩
theorem cm_divmodW : CallR X (.builtin "divmod") (CaM X fDivmodW) := by
  intro pins s σ H xs us Q I r h
  obtain ⟨w, ds, E, rfl, R, q, P⟩ := h
  unfold fDivmodW at P
  split at P
  · split at P
    · rename_i hj
      obtain ⟨v, v', rfl, rv, rv'⟩ := q.two_inv
      cases rv; cases rv'
      exact call_divmodW pins s σ w.hp _ us Q I r ⟨_, _, rfl, hj, fun p hp => Post.put P R hp (.tup (.inl (put_st R hp).o) (.cons (.int _) (.cons (.int _) .nil)))⟩
    · exact False.elim P
  · exact False.elim P
def inS (i z : Str) : Bool := match i.cps.toList with
  | [c] => decide (c ∈ z.cps.toList)
  | _ => !(Builtin.Str.occurrences z i 0 z.length 1).isEmpty
def dIn (neg : Bool) (S : Store) (x y : D) : Option D := match y with
  | .str z => match x with
    | .str i => some (.bl (if neg then !inS i z else inS i z))
    | _ => none
  | _ => none
theorem re_cmpS {op : CmpOp} {f : Store → D → D → Option D} (ho : OpR X (compareOp op) (OpMS X f)) (ha : RE X W a ma) (hb : RE X W b mb) (hm : behindInMarks op b = false := by rfl) : RE X W (.Compare a [op] [b] pos) (eBinS f ma mb) := pe_imp (pe_cmpR ho ha hb hm) t_binS
end
end G
namespace G
open PySem L2 PySem.Spec PyProof.Rows
section
variable {K : PySem.W.Frag} {h : Heap} {mg : Str → Option Value}
theorem frees_cn (X : K.In h) (Y : h.Ns mainGlobals mg) {as : List Nat} (c : freesB (as.map cname) K = true) {n : Nat} (m : n ∈ as) : mg (cname n) = none :=
  PySem.W.mg_none_of X Y (He.eqO_ok (List.all_eq_true.mp c (cname n) (List.mem_map.mpr ⟨n, m, rfl⟩)))
end
structure ClsQ (K : PySem.W.Frag) (C : Addr) : Prop where
  cl : Cls K C
  ha : PySem.W.findIn K (.ref C) "__class__" = some (some (.builtin "object.__class__"))
  hn : PySem.W.specialIn K (.builtin "object.__class__") "__get__" = some (some (.builtin "getset_descriptor.__get__"))
  ht : PySem.W.takesIn K (.builtin "object.__class__") = some true
  hm : PySem.W.mroIn K C (.type "object") = some true
theorem clsqB_ok {K : PySem.W.Frag} {x : Str} (h : clsqB x K = true) : ClsQ K (He.ga K x) := by
  obtain ⟨c1, c⟩ := He.ba h
  obtain ⟨c2, c⟩ := He.ba c
  obtain ⟨c3, c⟩ := He.ba c
  obtain ⟨c4, c5⟩ := He.ba c
  exact ⟨He.cls_ok c1, He.eqO_ok c2, He.eqO_ok c3, of_decide_eq_true c4, of_decide_eq_true c5⟩
def ownCs : List Nat := [33, 34, 35, 36, 37, 38, 39, 40, 41, 42, 43, 44, 45, 46]
theorem mem_allTn (t : Tn) : t ∈ allTn := by cases t <;> simp [allTn]
structure Iso (K : PySem.W.Frag) (mg : Str → Option Value) (cn : Nat) (C : Addr) : Prop where
  ty : ∀ t : Tn, PySem.W.kitOne K (.type t.nm) (.ref C) = some false
  own : ∀ c' C', ownCs.contains c' = true → mg (cname c') = some (.ref C') → ClsQ K C' ∧ PySem.W.kitOne K (.ref C') (.ref C) = some (c' == cn)
def isO (cn : Nat) (S : Store) (d : D) : Option Bool := match tyD S d with
  | some _ => some false
  | none => match insD S d with
    | some (c, _) => if ownCs.contains c then some (c == cn) else none
    | none => none
section
variable {X : Cx} {W : WX} {a b c e o : Expr} {es : List Expr} {ma mb mc me : EM} {ta tb : TM} {pos : Pos} {x : Str} {p : Pos} {j k : Nat}
def eIsO (cn : Nat) (m : EM) : EM := fun e S => (m e S).bind fun x S1 => lf ((isO cn S1 x).map .bl) S1
theorem re_isO {T : Str} {p2 : Pos} {cn : Nat} {C : Addr} (hm : X.mg "isinstance" = none) (ha : RE X W a ma) (hT : PE X (.Name T p2) (tC (.ref C))) (hi : Iso X.K X.mg cn C) (hg : Gl X "isinstance" := by rfl)
    (he : starEach (a :: [.Name T p2]) X.env = (false, eval a X.env) :: starEach [.Name T p2] X.env := by rfl) (hpl : (backTo pos (starEach [.Name T p2] X.env)).any (·.1) = false := by rfl) (hs2 : starEach [.Name T p2] X.env = (false, eval (.Name T p2) X.env) :: starEach [] X.env := by rfl) :
    RE X W (.Call (.Name "isinstance" p) [a, .Name T p2] [] pos) (eIsO cn ma) := by
  refine pe_imp (pe_callB call_isi hg hm bt_isinstance (pa_cons ha (pa_cons hT pa_nil hs2) he) (by decide) (by decide) he hpl) ?_
  rintro s H Q ⟨w, en, rfl, R, E, P⟩
  refine ⟨w, en, rfl, R, E, (Post.bind P).imp ?_⟩
  rintro v H1 ⟨w1, d, rfl, X1, R1, rx, P1⟩
  dsimp only at P1
  unfold isO at P1
  cases q : tyD w1.st d with
  | some t =>
    rw [q] at P1
    exact ⟨v, .ref C, .type t.nm, .ref C, false, rfl, .own _, rx.tyX R1 q, hi.ty t, Post.now P1 R1 (.bl _)⟩
  | none =>
    rw [q] at P1
    dsimp only at P1
    cases q2 : insD w1.st d with
    | none => rw [q2] at P1; exact False.elim P1
    | some cf =>
      obtain ⟨c', fs⟩ := cf
      rw [q2] at P1
      dsimp only at P1
      split at P1
      · rename_i hc
        obtain ⟨ad, C', dx, gs, rfl, g, hp, rf⟩ := rx.insV R1 q2
        obtain ⟨k1, k2⟩ := hi.own c' C' hc g
        exact ⟨.ref ad, .ref C, .ref C', .ref C, c' == cn, rfl, .own _, .base (.ins hp k1.cl k1.ha k1.hn k1.ht k1.hm), k2, Post.now P1 R1 (.bl _)⟩
      · exact False.elim P1
end
section
variable {K : PySem.W.Frag} {h : Heap} {mg : Str → Option Value}
def coversO (ns as : List Nat) : Bool := ownCs.all fun n => ns.contains n || as.contains n
theorem owns_at (X : K.In h) (Y : h.Ns mainGlobals mg) {ns as : List Nat} (co : ownsB ns K = true) (ca : freesB (as.map cname) K = true) (cv : coversO ns as = true) {c : Nat} {C : Addr} (hc : ownCs.contains c = true) (hg : mg (cname c) = some (.ref C)) :
    c ∈ ns ∧ C = He.ga K (cname c) ∧ ClsQ K C := by
  have hm := List.all_eq_true.mp cv c (by simpa using hc)
  rw [Bool.or_eq_true] at hm
  rcases hm with hm | hm
  · have m2 : c ∈ ns := by simpa using hm
    obtain ⟨g1, g2⟩ := He.ba (List.all_eq_true.mp co c m2)
    have g := glo_one X Y g1
    rw [g] at hg
    cases hg
    exact ⟨m2, rfl, clsqB_ok g2⟩
  · rw [frees_cn X Y ca (by simpa using hm)] at hg
    cases hg
theorem clf_at (X : K.In h) (Y : h.Ns mainGlobals mg) {ns as cs : List Nat} {f : Nat} (co : ownsB ns K = true) (ca : freesB (as.map cname) K = true) (cv : coversO ns as = true) (cf : noatB f (ns.filter cs.contains) K = true) (hs : cs.all ownCs.contains = true) : ClF K mg cs f := by
  intro c C hc hg
  obtain ⟨m, rfl, q⟩ := owns_at X Y co ca cv (List.all_eq_true.mp hs c (by simpa using hc)) hg
  exact ⟨q.cl, He.noat_ok (List.all_eq_true.mp cf c (List.mem_filter.mpr ⟨m, hc⟩))⟩
theorem iso_at (X : K.In h) (Y : h.Ns mainGlobals mg) {ns as : List Nat} {cn : Nat} (co : ownsB ns K = true) (ca : freesB (as.map cname) K = true) (cv : coversO ns as = true) (ci : isoB cn ns K = true) : Iso K mg cn (He.ga K (cname cn)) := by
  obtain ⟨c1, c2⟩ := He.ba ci
  refine ⟨fun t => of_decide_eq_true (List.all_eq_true.mp c1 t (mem_allTn t)), fun c' C' hc hg => ?_⟩
  obtain ⟨m, rfl, q⟩ := owns_at X Y co ca cv hc hg
  have z := List.all_eq_true.mp c2 c' m
  exact ⟨q, of_decide_eq_true z⟩
theorem mkB_ok {x : Str} (c : mkB x K = true) : Mk K (He.ga K x) (He.fAd K (x, some "__init__")) := He.mkr_ok c
theorem mtB_ok {x m : Str} (c : mtB x m K = true) : Meth K (He.ga K x) m (He.fAd K (x, some m)) := He.meth_ok c
end
end G
namespace G
open PySem L2 PySem.Spec PyProof.Rows
section
variable {X : Cx} {W : WX} {pos : Pos}
def starR (i : Nat) (r : GMs) (l : List D) (e : En) (S : Store) : Res En := if i ≤ l.length then r (l.take i ++ [.lst (l.drop i)]) e S else .stuck
def gStr (i : Nat) (r : GMs) : GM := fun d e S => match d with
  | .tup l => starR i r l e S
  | .lst l => starR i r l e S
  | .scr l => starR i r l e S
  | .loc n => match S[n]? with
    | some (.lst l) => starR i r l e S
    | _ => .stuck
  | _ => .stuck
end
end G
namespace G
open PySem L2 PySem.Spec
structure Dt (P : Program) (w0 : World) (K : PySem.W.Frag) (mg : Str → Option Value) (base : Heap) (cn : Nat) (x : Str) (ps : List Str) (k n : Nat) (ks : List Str) (gD : List D → List D → List D) (m : FM) : Prop where
  ex : ∃ C f fd g gV, mg (cname cn) = some (.ref C) ∧ Cls K C ∧ Meth K C x f ∧ KBn K fd ps (n + 1) ks g gV ∧ (∀ w ds vs es zs, RepL K mg w ds vs → RepL K mg w es zs → ds.length = n + 1 → es.length = ks.length → RepL K mg w (gD ds es) (gV vs zs) ∧ (gV vs zs).length = ps.length) ∧ FnG P w0 K mg base k f fd ps (spM K mg ps.length m)
section
variable {X : Cx} {W : WX} {a b c e o : Expr} {es : List Expr} {ma mb mc me : EM} {ta tb : TM} {pos apos : Pos} {x : Str} {p : Pos} {j k cn n : Nat} {ps ks : List Str} {f : FM} {gD : List D → List D → List D}
def eMeth (cn : Nat) (f : FM) (gD : List D → List D → List D) (n l : Nat) (mo : EM) (m mk : AM) : EM := fun e S => (mo e S).bind fun x S0 => if isCn cn S0 x = true then (m e S0).bind fun ds S1 => (mk e S1).bind fun zs S2 => if ds.length = n ∧ zs.length = l then f (gD (x :: ds) zs) S2 else .stuck else .stuck
theorem isCn_ins {K : PySem.W.Frag} {mg : Str → Option Value} {w : Wo} {d : D} {v : V} (R : Rep K mg w) (h : RepD K mg w d v) (e : isCn cn w.st d = true) : ∃ a C dx fs gs, v = .ref a ∧ mg (cname cn) = some (.ref C) ∧ w.hp a = some (.ins C dx gs) ∧ RepF K mg w fs gs := by
  unfold isCn at e
  split at e
  · rename_i c fs q
    have e := eq_of_beq e
    subst e
    obtain ⟨a, C, dx, gs, r⟩ := h.insV R q
    exact ⟨a, C, dx, fs, gs, r⟩
  · cases e
theorem re_meth {kws : List Keyword} {m mk : AM} {pl : Sem Bool} (c : Cg X W k) (ho : RE X W o ma) (hF : Dt X.prog X.w X.K X.mg X.base cn x ps j n ks gD f) (hj : j ≤ k) (ha : RA X W (e :: es) m) (hkw : RK X W kws mk) (hno : noField x = true := by decide +kernel)
    (hall : (backToKw pos (keywordEach kws X.env)).all (·.1.isSome) = true := by rfl) (hks : (backToKw pos (keywordEach kws X.env)).filterMap (·.1) = ks := by rfl)
    (he : starEach (e :: es) X.env = (false, eval e X.env) :: starEach es X.env := by rfl)
    (hpl : ((backTo pos (starEach (e :: es) X.env)).any (·.1) || (backToKw pos (keywordEach kws X.env)).any (·.1.isNone)) = false := by rfl)
    (ht : eval (.Call (.Attribute o x apos) (e :: es) kws pos) X.env = (do
      let ov ← eval o X.env
      standAt apos.atName
      let (f, first) ← holding [ov] (getMethod ov x pl)
      callWith pos f first (backTo pos (starEach (e :: es) X.env)) (backToKw pos (keywordEach kws X.env))) := by rfl) :
    RE X W (.Call (.Attribute o x apos) (e :: es) kws pos) (eMeth cn f gD n ks.length ma m mk) := by
  obtain ⟨C, fa, fd, g, gV, h1, hc, hm, h3, hR, h4⟩ := hF.ex
  refine ⟨fun pins s σ H Q I h => ?_⟩
  obtain ⟨w, en, rfl, R, E, P⟩ := h
  refine PySem.W.methodCall_KW (pl := pl) (thn (ho.run pins s σ w.hp _ I ⟨w, en, rfl, R, E, Post.bind P⟩) fun u s0 hu => ?_) ht
  obtain ⟨v, H0, I0, rv, w0, d, rfl, X0, R0, rd, P0⟩ := hu
  dsimp only at P0
  split at P0
  · rename_i hcn
    obtain ⟨ad, C', dx, fs, gs, rfl, h1', hp, rf⟩ := isCn_ins R0 rd hcn
    cases h1.symm.trans h1'
    obtain rfl : u = Value.ref ad := rv
    refine getmeth_ok I0 hp hc hm (rf.noF hno) ?_
    refine PySem.W.callWith_KW (first := [.ref ad]) (h₀ := X.base) I.ok.mod.kin hm.kp hall (thn (ha.run pos pins s0 σ w0.hp _ I0 ⟨w0, en, rfl, R0, E.ext X0.toEx0, Post.bind P0⟩) fun us s1 hu => ?_) hpl he
    obtain ⟨vs, H1, I1, r, w1, ds, rfl, X1, R1, rl, P1⟩ := hu
    refine thn (hkw.run pos pins s1 σ w1.hp _ I1 ⟨w1, en, rfl, R1, (E.ext X0.toEx0).ext X1.toEx0, Post.bind P1⟩) fun ws s2 hu => ?_
    obtain ⟨zs, H2, I2, rz, w2, es2, rfl, X2, R2, rl2, P2⟩ := hu
    refine ⟨I2.kIn, ?_⟩
    rw [hks]
    dsimp only at P2
    split at P2
    · rename_i hl
      obtain ⟨q1, q2⟩ := hR w2 (d :: ds) (.ref ad :: vs) es2 zs (.cons ((rd.ext X1.toEx0).ext X2.toEx0) (rl.ext X2.toEx0)) rl2 (by rw [List.length_cons, hl.1]) hl.2
      exact run_kw (E := WE W) (us := .ref ad :: us) h4 (c.rm.mono hj) h3 (passAt c.tk σ) I2 (vs := .ref ad :: vs) (.cons rfl r) rz (by rw [List.length_cons, ← rl.length, hl.1]) (by rw [← rl2.length]; exact hl.2) ⟨q2, w2, gD (d :: ds) es2, rfl, R2, q1, P2⟩
    · exact False.elim P2
  · exact False.elim P0
def eMethK (cn : Nat) (f : FM) (gD : List D → List D → List D) (l : Nat) (mo : EM) (mk : AM) : EM := fun e S => (mo e S).bind fun x S0 => if isCn cn S0 x = true then (mk e S0).bind fun zs S2 => if zs.length = l then f (gD [x] zs) S2 else .stuck else .stuck
def eMeth0 (cn : Nat) (f : FM) (gD : List D → List D → List D) (mo : EM) : EM := fun e S => (mo e S).bind fun x S0 => if isCn cn S0 x = true then f (gD [x] []) S0 else .stuck
end
end G
namespace G
open PySem L2 PySem.Spec PyProof.Rows
def keyD : D → Option Key
  | .int i => some (.inl i)
  | .str x => some (.inr x)
  | _ => none
def putKD (kvs : List (Key × D)) (k : Key) (v : D) : List (Key × D) :=
  if (kvs.any fun kv => decide (kv.1 = k)) = true then kvs.map (fun kv => if kv.1 = k then (kv.1, v) else kv) else kvs ++ [(k, v)]
def dropKD (kvs : List (Key × D)) (k : Key) : List (Key × D) := kvs.filter fun kv => decide (kv.1 ≠ k)
def dkD (S : Store) : D → Option (Nat × List (Key × D))
  | .loc n => match S[n]? with
    | some (.dk l) => some (n, l)
    | _ => none
  | _ => none
section
variable {K : PySem.W.Frag} {mg : Str → Option Value} {w : Wo}
theorem RepD.key {d : D} {v : V} {k : Key} (h : RepD K mg w d v) (e : keyD d = some k) : v = kV k := by
  cases h with
  | int i => cases e; rfl
  | str x => cases e; rfl
  | _ => cases e
theorem RepK.valN {k : Key} {kvs : List (Key × D)} {us : List (Key × V)} : RepK Key K mg w kvs us → valD kvs k = none → valV us k = none
  | .nil, h => rfl
  | @RepK.cons _ _ _ _ f d' v' l vs r t, h => by
    by_cases e : f = k
    · have h1 : valD ((f, d') :: l) k = some d' := by simp [valD, List.find?_cons, e]
      rw [h1] at h; cases h
    · have h1 : valD ((f, d') :: l) k = valD l k := by simp [valD, List.find?_cons, e]
      rw [h1] at h
      rw [valV_neg (by exact e)]
      exact RepK.valN t h
theorem RepK.klen {κ : Type} {kvs : List (κ × D)} {us : List (κ × V)} : RepK κ K mg w kvs us → kvs.length = us.length
  | .nil => rfl
  | .cons _ t => congrArg Nat.succ (RepK.klen t)
theorem RepK.any {k : Key} {kvs : List (Key × D)} {us : List (Key × V)} : RepK Key K mg w kvs us → (kvs.any fun kv => decide (kv.1 = k)) = (us.any fun kv => decide (kv.1 = k))
  | .nil => rfl
  | .cons _ t => by rw [List.any_cons, List.any_cons, RepK.any t]
theorem RepK.app {κ : Type} {kvs ls : List (κ × D)} {us zs : List (κ × V)} : RepK κ K mg w kvs us → RepK κ K mg w ls zs → RepK κ K mg w (kvs ++ ls) (us ++ zs)
  | .nil, h => h
  | .cons r t, h => .cons r (RepK.app t h)
theorem RepK.upd {k : Key} {d : D} {v : V} (q : RepD K mg w d v) {kvs : List (Key × D)} {us : List (Key × V)} : RepK Key K mg w kvs us → RepK Key K mg w (kvs.map fun kv => if kv.1 = k then (kv.1, d) else kv) (us.map fun kv => if kv.1 = k then (kv.1, v) else kv)
  | .nil => .nil
  | @RepK.cons _ _ _ _ f d' v' l vs r t => by
    rw [List.map_cons, List.map_cons]
    by_cases e : f = k
    · rw [if_pos (by exact e), if_pos (by exact e)]; exact .cons q (RepK.upd q t)
    · rw [if_neg (by exact e), if_neg (by exact e)]; exact .cons r (RepK.upd q t)
theorem RepK.put {k : Key} {d : D} {v : V} (q : RepD K mg w d v) {kvs : List (Key × D)} {us : List (Key × V)} (h : RepK Key K mg w kvs us) : RepK Key K mg w (putKD kvs k d) (putK us k v) := by
  unfold putKD putK
  rw [h.any]
  split
  · exact h.upd q
  · exact h.app (.cons q .nil)
theorem RepK.drop {k : Key} {kvs : List (Key × D)} {us : List (Key × V)} : RepK Key K mg w kvs us → RepK Key K mg w (dropKD kvs k) (dropK us k)
  | .nil => .nil
  | @RepK.cons _ _ _ _ f d' v' l vs r t => by
    unfold dropKD dropK
    rw [List.filter_cons, List.filter_cons]
    by_cases e : f = k
    · rw [if_neg (by simp [e]), if_neg (by simp [e])]; exact RepK.drop t
    · rw [if_pos (by simp [e]), if_pos (by simp [e])]; exact .cons r (RepK.drop t)
theorem dkD_loc {S : Store} {x : D} {n : Nat} {kvs : List (Key × D)} (e : dkD S x = some (n, kvs)) : x = .loc n ∧ S[n]? = some (.dk kvs) := by
  unfold dkD at e
  split at e
  · split at e
    · cases e; exact ⟨rfl, by assumption⟩
    · cases e
  · cases e
theorem RepD.dkV {d : D} {v : V} {n : Nat} {kvs : List (Key × D)} (R : Rep K mg w) (h : RepD K mg w d v) (e : dkD w.st d = some (n, kvs)) : ∃ a us, v = .ref a ∧ w.al[n]? = some a ∧ w.hp a = some (.dK us) ∧ RepK Key K mg w kvs us := by
  obtain ⟨rfl, hl⟩ := dkD_loc e
  cases h with
  | @loc _ a hn =>
    obtain ⟨us, p, r⟩ := R.cell _ _ _ hn hl
    exact ⟨a, us, rfl, hn, p, r⟩
end
section
variable {X : Cx} {W : WX} {a b c e o f : Expr} {es : List Expr} {ma mb mc me : EM} {ta tb : TM} {pos apos cpos : Pos}
def eNewD : EM := fun _ S => .ok (.loc S.length) (S ++ [.dk []])
theorem re_newD : RE X W (.Dict [] [] pos) eNewD := by
  refine pe_imp pe_dnewK ?_
  rintro s H Q ⟨w, en, rfl, R, E, P⟩
  intro p hp
  exact Post.new P R hp ⟨[], upd_same, .nil⟩ (.loc (new_get R))
def setE (S : Store) (o i d : D) : Option Store := match dkD S o with
  | some (n, kvs) => match keyD i with
    | some k => if kvs.length < sizeLine then some (S.set n (.dk (putKD kvs k d))) else none
    | none => none
  | none => setD S o i d
def gSbE (o i : EM) : GM := fun d e S => (noX (o e S)).bind fun x S1 => (noX (i e S1)).bind fun y S2 => match setE S2 x y d with
  | some S3 => .ok e S3
  | none => .stuck
theorem set_any (hu : X.A.units + 1 < cLine) : PSet X (fun o i v H Q => rSetL o i v H Q ∨ rSetD o i v H Q) := by
  intro pins s σ H o i v ov iv u Q I ro ri rv h
  rcases h with h | h
  · exact set_list pins s σ H o i v ov iv u Q I ro ri rv h
  · exact set_dict hu pins s σ H o i v ov iv u Q I ro ri rv h
theorem rg_subE (hu : X.A.units + 64 < cLine) (ho : RE X W o ma) (hi : RE X W b mb)
    (ha : ∀ v, assign (.Subscript o b pos) X.env v = (do
      let ov ← holding [v] (eval o X.env)
      let iv ← holding [v, ov] (eval b X.env)
      standAt pos
      holding [v, ov, iv] (setItem ov iv v)
      release [v, ov, iv] []) := by intro _; rfl) : RG X W (.Subscript o b pos) (gSbE ma mb) := by
  refine pg_imp (pg_sub ho hi (set_any (by omega)) ha) ?_
  rintro v s H Q ⟨w, en, d, rfl, R, E, rd, P⟩
  refine ⟨w, en, rfl, R, E, Post.noX (E := fun cls dd H' => W cls dd s H') ((Post.bind P).imp ?_)⟩
  rintro ov H1 ⟨w1, x, rfl, X1, R1, rx, P1⟩
  refine ⟨w1, en, rfl, R1, E.ext X1.toEx0, Post.noX (E := fun cls dd H' => W cls dd s H') ((Post.bind P1).imp ?_)⟩
  rintro iv H2 ⟨w2, y, rfl, X2, R2, ry, P2⟩
  have rx' := rx.ext X2.toEx0
  have rd' := (rd.ext X1.toEx0).ext X2.toEx0
  dsimp only at P2
  cases q : setE w2.st x y d with
  | none => rw [q] at P2; exact False.elim P2
  | some S3 =>
    rw [q] at P2
    unfold setE at q
    split at q
    · rename_i m kvs hd
      split at q
      · rename_i k hk
        split at q
        · rename_i hz
          cases q
          obtain ⟨ad, us, rfl, hn, hp, rk⟩ := rx'.dkV R2 hd
          have hl := (dkD_loc hd).2
          cases ry.key hk
          have Xw : Ext w2 (w2.wr m ad (.dK (putK us k v)) (.dk (putKD kvs k d))) := wr_ext R2 hn hl (by intro z; cases z)
          refine .inr ⟨ad, _, rfl, .inl ⟨us, k, hp, rfl, by rw [← rk.klen]; exact hz, rfl⟩, ?_⟩
          exact P2 (w2.wr m ad (.dK (putK us k v)) (.dk (putKD kvs k d))) s Xw (R2.wr hn hl (by intro z; cases z) ⟨_, upd_same, (rk.put rd').ext Xw.toEx0⟩) rfl (((E.ext X1.toEx0).ext X2.toEx0).ext Xw.toEx0)
        · cases q
      · cases q
    · refine .inl ?_
      unfold setD at q
      split at q
      · rename_i m k _
        cases ry
        cases rx' with
        | @loc _ ad hn =>
          split at q
          · rename_i l hl
            obtain ⟨j, e1, rfl⟩ := Option.map_eq_some_iff.mp q
            obtain ⟨vs, p, r⟩ := R2.cell _ _ _ hn hl
            have Xw : Ext w2 (w2.wr m ad (.lst (vs.set j v)) (.lst (l.set j d))) := wr_ext R2 hn hl (by intro z; cases z)
            refine ⟨_, vs, k, j, rfl, rfl, p, by rw [← r.length]; exact e1, ?_⟩
            exact P2 (w2.wr m ad (.lst (vs.set j v)) (.lst (l.set j d))) s Xw (R2.wr hn hl (by intro z; cases z) ⟨_, upd_same, (r.set rd' j).ext Xw.toEx0⟩) rfl (((E.ext X1.toEx0).ext X2.toEx0).ext Xw.toEx0)
          · cases q
      · cases q
def dgR (S : Store) (x y z : D) : Res D := match dkD S x, keyD y with
  | some (_, kvs), some k => .ok ((valD kvs k).getD z) S
  | _, _ => .stuck
def eDGet2 (mo my mx : EM) : EM := fun e S => (mo e S).bind fun x S1 => if (dkD S1 x).isSome = true then (my e S1).bind fun y S2 => (mx e S2).bind fun z S3 => dgR S3 x y z else .stuck
theorem re_dget2 (hu : X.A.units + 64 < cLine) (ho : RE X W o ma) (ha : RE X W a mb) (hb : RE X W b mc) (m : M2 X o "get" apos a b cpos := by exact ⟨rfl, rfl, rfl, rfl⟩) : RE X W (.Call (.Attribute o "get" apos) [a, b] [] cpos) (eDGet2 ma mb mc) := by
  refine pe_imp (pe_dget2 (by omega) ho ha hb m) ?_
  rintro s H Q ⟨w, en, rfl, R, E, P⟩
  refine ⟨w, en, rfl, R, E, (Post.bind P).imp ?_⟩
  rintro v H1 ⟨w1, x, rfl, X1, R1, rx, P1⟩
  dsimp only at P1
  split at P1
  · rename_i hd
    obtain ⟨⟨n, kvs⟩, hd⟩ := Option.isSome_iff_exists.mp hd
    obtain ⟨ad, us, rfl, hn, hp, rk⟩ := rx.dkV R1 hd
    refine ⟨ad, rfl, .inl ⟨us, .inl hp⟩, w1, en, rfl, R1, E.ext X1.toEx0, (Post.bind P1).imp ?_⟩
    rintro v2 H2 ⟨w2, y, rfl, X2, R2, ry, P2⟩
    refine ⟨w2, en, rfl, R2, (E.ext X1.toEx0).ext X2.toEx0, (Post.bind P2).imp ?_⟩
    rintro v3 H3 ⟨w3, z, rfl, X3, R3, rz, P3⟩
    dsimp only at P3
    unfold dgR at P3
    split at P3
    · rename_i n' kvs' k h1 h2
      obtain ⟨ad', us', e1, hn', hp', rk'⟩ := ((rx.ext X2.toEx0).ext X3.toEx0).dkV R3 h1
      cases e1
      cases (ry.ext X3.toEx0).key h2
      refine ⟨valV us' k, DGet.k hp', ?_⟩
      cases hv : valD kvs' k with
      | none => rw [hv] at P3; rw [rk'.valN hv]; exact Post.now P3 R3 rz
      | some d =>
        rw [hv] at P3
        obtain ⟨vv, q1, q2⟩ := rk'.val hv
        rw [q1]; exact Post.now P3 R3 q2
    · exact False.elim P3
  · exact False.elim P1
def eDGet1 (mo my : EM) : EM := fun e S => (mo e S).bind fun x S1 => if (dkD S1 x).isSome = true then (my e S1).bind fun y S2 => dgR S2 x y .non else .stuck
def dpR (S : Store) (x y : D) (z : Option D) : Res D := match dkD S x, keyD y with
  | some (n, kvs), some k => match valD kvs k, z with
    | some d, _ => .ok d (S.set n (.dk (dropKD kvs k)))
    | none, some z => .ok z S
    | none, none => .stuck
  | _, _ => .stuck
def eDPop2 (mo my mx : EM) : EM := fun e S => (mo e S).bind fun x S1 => if (dkD S1 x).isSome = true then (my e S1).bind fun y S2 => (mx e S2).bind fun z S3 => dpR S3 x y (some z) else .stuck
theorem re_dpop2 (ho : RE X W o ma) (ha : RE X W a mb) (hb : RE X W b mc) (m : M2 X o "pop" apos a b cpos := by exact ⟨rfl, rfl, rfl, rfl⟩) : RE X W (.Call (.Attribute o "pop" apos) [a, b] [] cpos) (eDPop2 ma mb mc) := by
  refine pe_imp (pe_dpop2 ho ha hb m) ?_
  rintro s H Q ⟨w, en, rfl, R, E, P⟩
  refine ⟨w, en, rfl, R, E, (Post.bind P).imp ?_⟩
  rintro v H1 ⟨w1, x, rfl, X1, R1, rx, P1⟩
  dsimp only at P1
  split at P1
  · rename_i hd
    obtain ⟨⟨n, kvs⟩, hd⟩ := Option.isSome_iff_exists.mp hd
    obtain ⟨ad, us, rfl, hn, hp, rk⟩ := rx.dkV R1 hd
    refine ⟨ad, rfl, .inl ⟨us, .inl hp⟩, w1, en, rfl, R1, E.ext X1.toEx0, (Post.bind P1).imp ?_⟩
    rintro v2 H2 ⟨w2, y, rfl, X2, R2, ry, P2⟩
    refine ⟨w2, en, rfl, R2, (E.ext X1.toEx0).ext X2.toEx0, (Post.bind P2).imp ?_⟩
    rintro v3 H3 ⟨w3, z, rfl, X3, R3, rz, P3⟩
    dsimp only at P3
    unfold dpR at P3
    split at P3
    · rename_i m' kvs' k h1 h2
      obtain ⟨ad', us', e1, hn', hp', rk'⟩ := ((rx.ext X2.toEx0).ext X3.toEx0).dkV R3 h1
      cases e1
      have hl := (dkD_loc h1).2
      cases (ry.ext X3.toEx0).key h2
      refine ⟨us', k, hp', rfl, fun v' hv' => ?_, fun hv' => ?_⟩
      · cases hv : valD kvs' k with
        | none => rw [rk'.valN hv] at hv'; cases hv'
        | some d =>
          rw [hv] at P3
          obtain ⟨vv, q1, q2⟩ := rk'.val hv
          rw [q1] at hv'; cases hv'
          have Xw : Ext w3 (w3.wr m' ad (.dK (dropK us' k)) (.dk (dropKD kvs' k))) := wr_ext R3 hn' hl (by intro z; cases z)
          exact P3 (w3.wr m' ad (.dK (dropK us' k)) (.dk (dropKD kvs' k))) _ Xw (R3.wr hn' hl (by intro z; cases z) ⟨_, upd_same, rk'.drop.ext Xw.toEx0⟩) rfl (q2.ext Xw.toEx0)
      · cases hv : valD kvs' k with
        | some d =>
          obtain ⟨vv, q1, q2⟩ := rk'.val hv
          rw [q1] at hv'; cases hv'
        | none => rw [hv] at P3; exact Post.now P3 R3 rz
    · exact False.elim P3
  · exact False.elim P1
def eDPop1 (mo my : EM) : EM := fun e S => (mo e S).bind fun x S1 => if (dkD S1 x).isSome = true then (my e S1).bind fun y S2 => dpR S2 x y none else .stuck
end
end G
namespace G
open PySem L2 PySem.Spec PyProof.Rows
def insI (i : Int) : List Int → List Int
  | [] => [i]
  | j :: l => if i < j then i :: j :: l else if i = j then j :: l else j :: insI i l
def srtI : List Int → List Int
  | [] => []
  | i :: l => insI i (srtI l)
def intL : List D → Option (List Int)
  | [] => some []
  | .int i :: l => (intL l).map (i :: ·)
  | _ :: _ => none
def lstD (S : Store) : D → Option (List D)
  | .lst l => some l
  | .scr l => some l
  | .loc n => match S[n]? with
    | some (.lst l) => some l
    | _ => none
  | _ => none
section
variable {X : Cx} {W : WX} {a : Expr} {ma : EM} {pos pos2 p p2 : Pos}
def ssD (S : Store) (x : D) : Option D := ((lstD S x).bind intL).bind fun ns => if ns.length < 64 then some (.lst ((srtI ns).map .int)) else none
def eSortSet (m : EM) : EM := fun e S => (m e S).bind fun x S1 => lf (ssD S1 x) S1
theorem bt_sorted : bootBuiltins "sorted" = some (.builtin "sorted") := by decide +kernel
end
end G
namespace G
open PySem L2 PySem.Spec
abbrev CM := En → Store → Res (List D × Option Nat)
def okC (p : List D × Option Nat) (S : Store) : Prop := match p.2 with
  | none => True
  | some n => S[n]? = some (.lst p.1)
open Classical in
noncomputable def fiC (ck : Store → Prop) (g : GM) (m : SM) : List D → SM
  | [] => fun e S => if ck S then .nxt e S else .stuck
  | d :: ds => fun e S => if ck S then sE (g d e S) e fun e1 S1 => match m e1 S1 with
    | .nxt e2 S2 => fiC ck g m ds e2 S2
    | .cnt e2 S2 => fiC ck g m ds e2 S2
    | .brk e2 S2 => .nxt e2 S2
    | r => r else .stuck
noncomputable def sForC (i : CM) (g : GM) (m : SM) : SM := fun e S => sE (i e S) e fun p S1 => fiC (okC p) g m p.1 e S1
open Classical in
noncomputable def lcC (ck : Store → Prop) (g : Tg) (t : TM) (m : EM) (e : En) : List D → List D → Store → Res (List D)
  | [], acc, S => if ck S then .ok acc S else .stuck
  | d :: ds, acc, S => if ck S then match g.m d e with
    | some e1 => (noX (t e1 S)).bind fun b S2 => if b then (noX (m e1 S2)).bind fun y S3 => if acc.length < sizeLine then lcC ck g t m e ds (acc ++ [y]) S3 else .stuck else lcC ck g t m e ds acc S2
    | none => .stuck else .stuck
noncomputable def eLcC (i : CM) (g : Tg) (t : TM) (m : EM) (vs : List Nat) : EM := fun e S => (i e S).bind fun p S1 => (lcC (okC p) g t m (wipeE e vs) p.1 [] S1).bind fun acc S2 => .ok (.lst acc) S2
noncomputable def eLcCN (i : CM) (g : Tg) (t : TM) (m : EM) (vs : List Nat) : EM := fun e S => (i e S).bind fun p S1 => (lcC (okC p) g t m (wipeE e vs) p.1 [] S1).bind fun acc S2 => .ok (.loc S2.length) (S2 ++ [.lst acc])
def iCel (m : EM) : CM := fun e S => (m e S).bind fun d S1 => match d with
  | .tup l => .ok (l, none) S1
  | .lst l => .ok (l, none) S1
  | .scr l => .ok (l, none) S1
  | .loc n => match S1[n]? with
    | some (.lst l) => .ok (l, some n) S1
    | _ => .stuck
  | _ => .stuck
section
variable {ck : Store → Prop} {g : GM} {m : SM} {d : D} {ds : List D} {e : En} {S : Store}
theorem fiC_no (h : ¬ ck S) : fiC ck g m ds e S = .stuck := by
  cases ds with
  | nil => unfold fiC; exact if_neg h
  | cons d ds => unfold fiC; exact if_neg h
theorem fiC_nil (h : ck S) : fiC ck g m [] e S = .nxt e S := by unfold fiC; exact if_pos h
theorem fiC_cons (h : ck S) : fiC ck g m (d :: ds) e S = sE (g d e S) e fun e1 S1 => match m e1 S1 with
    | .nxt e2 S2 => fiC ck g m ds e2 S2
    | .cnt e2 S2 => fiC ck g m ds e2 S2
    | .brk e2 S2 => .nxt e2 S2
    | r => r := by rw [fiC]; exact if_pos h
end
section
variable {ck : Store → Prop} {g : Tg} {t : TM} {m : EM} {d : D} {ds acc : List D} {e : En} {S : Store}
theorem lcC_no (h : ¬ ck S) : lcC ck g t m e ds acc S = .stuck := by
  cases ds with
  | nil => unfold lcC; exact if_neg h
  | cons d ds => unfold lcC; exact if_neg h
theorem lcC_nil (h : ck S) : lcC ck g t m e [] acc S = .ok acc S := by unfold lcC; exact if_pos h
theorem lcC_cons (h : ck S) : lcC ck g t m e (d :: ds) acc S = match g.m d e with
    | some e1 => (noX (t e1 S)).bind fun b S2 => if b then (noX (m e1 S2)).bind fun y S3 => if acc.length < sizeLine then lcC ck g t m e ds (acc ++ [y]) S3 else .stuck else lcC ck g t m e ds acc S2
    | none => .stuck := by rw [lcC]; exact if_pos h
end
section
variable {X : Cx} {W : WX} {a b c e o : Expr} {es : List Expr} {ma mb mc me : EM} {ta tb : TM} {pos : Pos} {m : SM}
def ItsC (X : Cx) : Wo → List D × Option Nat → It → Prop := fun w p J => ∀ w2, Ex0 w w2 → Fz w w2 → Rep X.K X.mg w2 → okC p w2.st →
  (∀ i, i < p.1.length → J.go i w2.hp ∧ ∀ x H', J.yld i w2.hp x H' → ∃ w3 d, w3.hp = H' ∧ Ext w2 w3 ∧ Rep X.K X.mg w3 ∧ w3.st = w2.st ∧ w3.al = w2.al ∧ p.1[i]? = some d ∧ RepD X.K X.mg w3 d x) ∧ J.stop p.1.length w2.hp
abbrev RIc (X : Cx) (W : WX) (tg it : Expr) (m : CM) : Prop := PI X tg it (tG (ItsC X) X W m)
theorem its_cel {w : Wo} {ds : List D} {n : Nat} {ad : Addr} (hn : w.al[n]? = some ad) : ItsC X w (ds, some n) (Itl X.K ad) := by
  intro w2 x2 _ R2 hl
  obtain ⟨vs, p, r⟩ := R2.cell _ _ _ (x2.get hn) hl
  have s2 : SqL X.K w2.hp ad vs := SqL.of p
  refine ⟨fun i hi => ⟨⟨vs, vs[i]'(by rw [← r.length]; exact hi), s2, by simp⟩, fun x H' y => ?_⟩, ⟨vs, s2, by rw [r.length]; exact Nat.le_refl _⟩⟩
  obtain ⟨rfl, y⟩ := y
  obtain ⟨d, e1, rd⟩ := r.getV (y vs s2)
  exact ⟨w2, d, rfl, Ext.refl w2, R2, rfl, rfl, e1, rd⟩
theorem its_no {w : Wo} {ds : List D} {J : It} (h : ItsR X w ds J) : ItsC X w (ds, none) J := fun w2 x2 z2 R2 _ => h w2 x2 z2 R2
theorem ri_cel {tg : Expr} (ha : RE X W a ma) : RIc X W tg a (iCel ma) := by
  refine ⟨fun pins s σ H R' I h => ?_⟩
  obtain ⟨w, en, rfl, R, E, P⟩ := h
  cases q : ma en w.st with
  | stuck => unfold iCel at P; rw [q] at P; exact False.elim P
  | exc x S =>
    unfold iCel at P; rw [q] at P
    exact (pi_list ha).run pins s σ w.hp R' I ⟨w, en, rfl, R, E, by rw [q]; exact P⟩
  | ok d S =>
    unfold iCel at P; rw [q] at P
    cases d with
    | tup l =>
      refine (pi_tup ha).run pins s σ w.hp R' I ⟨w, en, rfl, R, E, ?_⟩
      rw [q]
      intro w1 v x1 R1 s1 r1
      cases r1 with
      | tup st rl => exact ⟨_, rfl, ⟨_, st.sq⟩, P w1 _ x1 R1 s1 (its_no (its_tup (fun w2 x2 => (st.ext x2).sq) rl))⟩
    | lst l =>
      refine (pi_list ha).run pins s σ w.hp R' I ⟨w, en, rfl, R, E, ?_⟩
      rw [q]
      intro w1 v x1 R1 s1 r1
      cases r1 with
      | lst st rl => exact ⟨_, rfl, ⟨_, SqL.of st.1⟩, P w1 _ x1 R1 s1 (its_no (its_list (fun w2 x2 => SqL.of (st.ext x2).1) rl))⟩
    | scr l =>
      refine (pi_list ha).run pins s σ w.hp R' I ⟨w, en, rfl, R, E, ?_⟩
      rw [q]
      intro w1 v x1 R1 s1 r1
      cases r1 with
      | scr st rl => exact ⟨_, rfl, ⟨_, st.sq⟩, P w1 _ x1 R1 s1 (its_no (its_list (fun w2 x2 => (st.ext x2).sq) rl))⟩
    | loc n =>
      refine (pi_list ha).run pins s σ w.hp R' I ⟨w, en, rfl, R, E, ?_⟩
      rw [q]
      intro w1 v x1 R1 s1 r1
      subst s1
      cases r1 with
      | @loc _ ad hn =>
        replace P : Post (ItsC X) X.K X.mg w (match w1.st[n]? with
          | some (.lst l) => .ok (l, some n) w1.st
          | _ => .stuck) R' _ := P
        split at P
        · rename_i l hl
          obtain ⟨vs, p, r⟩ := R1.cell _ _ _ hn hl
          exact ⟨_, rfl, ⟨_, SqL.of p⟩, P w1 _ x1 R1 rfl (its_cel hn)⟩
        · exact False.elim P
    | _ => exact False.elim P
theorem rs_forC {tg it : Expr} {i : CM} {g : GM} {body : List Stmt} (hp : PassesOwn (model X.prog X.w) X.A X.env X.xe) (hc : X.calm = true) (hi : RIc X W tg it i) (hg : RG X W tg g) (hb : RSs X W body m) (hs : ∀ x, foldedSetIterable it X.env x = pure x := by intro _; rfl) :
    RS X W (.For tg it body [] pos) (sForC i g m) := by
  refine ps_imp (ps_for hp hc hi hg hb hs) ?_
  rintro D s H ⟨w, en, rfl, R, E, P⟩
  refine ⟨w, en, rfl, R, E, (PostS.of P E).imp ?_⟩
  rintro J H1 ⟨w1, ⟨ds, oc⟩, rfl, X1, R1, its, P1⟩
  refine ⟨fun j k s H => k = ds.length - j ∧ j ≤ ds.length ∧ ∃ w e, w.hp = H ∧ Ext w1 w ∧ Rep X.K X.mg w ∧ RepE X.K X.mg w e s ∧ PostS X W w (fiC (okC (ds, oc)) g m (ds.drop j) e w.st) D,
    ⟨ds.length, rfl, Nat.zero_le _, w1, en, rfl, Ext.refl w1, R1, E.ext X1.toEx0, P1⟩, ?_⟩
  rintro j k s H ⟨rfl, hj, w, en, rfl, x1, R, E, P⟩
  have hck : okC (ds, oc) w.st := by
    by_cases hn : okC (ds, oc) w.st
    · exact hn
    · rw [fiC_no hn] at P; exact False.elim P
  obtain ⟨go, stop⟩ := its w x1.toEx0 x1.fz R hck
  by_cases hlt : j < ds.length
  · obtain ⟨go1, yl⟩ := go j hlt
    refine .inr ⟨go1, fun s' H' => ∃ w e, w.hp = H' ∧ Ext w1 w ∧ Rep X.K X.mg w ∧ RepE X.K X.mg w e s' ∧ PostS X W w (fiC (okC (ds, oc)) g m (ds.drop (j + 1)) e w.st) D, fun s' H' h => ⟨ds.length - (j + 1), by omega, rfl, hlt, h⟩, fun x H' y => ?_⟩
    obtain ⟨w3, d, rfl, x3, R3, st3, _, hd, rd⟩ := yl x H' y
    have e1 : ds.drop j = d :: ds.drop (j + 1) := by
      obtain ⟨hl, rfl⟩ := List.getElem?_eq_some_iff.mp hd
      exact List.drop_eq_getElem_cons hl
    rw [e1, fiC_cons hck] at P
    have P' : PostS X W w3 (sE (g d en w3.st) en fun e1 S1 => match m e1 S1 with
      | .nxt e2 S2 => fiC (okC (ds, oc)) g m (ds.drop (j + 1)) e2 S2
      | .cnt e2 S2 => fiC (okC (ds, oc)) g m (ds.drop (j + 1)) e2 S2
      | .brk e2 S2 => .nxt e2 S2
      | r => r) D := by rw [st3]; exact PostS.ext P x3
    refine ⟨w3, en, d, rfl, R3, E.ext x3.toEx0, rd, (PostS.of P' (E.ext x3.toEx0)).imp ?_⟩
    rintro s4 H4 ⟨w4, e4, rfl, x4, R4, E4, P4⟩
    refine ⟨w4, e4, rfl, R4, E4, ?_⟩
    have x14 : Ext w1 w4 := (x1.trans x3).trans x4
    dsimp only at P4
    cases q : m e4 w4.st with
    | nxt e S => rw [q] at P4; exact fun w5 s5 x5 R5 st E5 => ⟨w5, e, rfl, x14.trans x5, R5, E5, by rw [st]; exact PostS.ext P4 x5⟩
    | cnt e S => rw [q] at P4; exact fun w5 s5 x5 R5 st E5 => ⟨w5, e, rfl, x14.trans x5, R5, E5, by rw [st]; exact PostS.ext P4 x5⟩
    | brk e S => rw [q] at P4; exact P4
    | ret e S => rw [q] at P4; exact P4
    | exc y e S => rw [q] at P4; exact P4
    | stuck => rw [q] at P4; exact P4
  · have e : j = ds.length := by omega
    subst e
    rw [List.drop_length, fiC_nil hck] at P
    exact .inl ⟨stop, P w s (Ext.refl w) R rfl E⟩
theorem t_lcC {i : CM} {g : Tg} {t : TM} {m : EM} {vs : List Nat} {fin : List D → Store → Res D} (hg : ∀ j, j ∈ g.ix → j ∈ vs)
    (hfin : ∀ (w1 w : Wo) (p : Addr) (us : List V) (acc : List D) (Q : VK) (E : XK), Rep X.K X.mg w1 → w1.hp p = none → Rep X.K X.mg w → Ex0 w1 w → w.hid = p :: w1.hid → Kp w1 w → w.hp p = some (.lst us) → RepL X.K X.mg w acc us →
      Post (RepD X.K X.mg) X.K X.mg w1 (fin acc w.st) Q E → Q (.ref p) w.hp) :
    ∀ s H Q, tG (RepD X.K X.mg) X W (fun e S => (i e S).bind fun p S1 => (lcC (okC p) g t m (wipeE e vs) p.1 [] S1).bind fin) s H Q →
      tLc (tG (ItsC X) X W i) (g.r X.K) (tG RlB X W0 t) (tG (RepD X.K X.mg) X W0 m) vs s H Q := by
  rintro s H Q ⟨w, en, rfl, R, E, P⟩
  refine ⟨w, en, rfl, R, E, (Post.bind P).imp ?_⟩
  rintro J H1 ⟨w1, ⟨ds, oc⟩, rfl, X1, R1, its, P1⟩
  intro p hp
  dsimp only at P1
  have E1 := E.ext X1.toEx0
  refine ⟨fun j k H => k = ds.length - j ∧ j ≤ ds.length ∧ ∃ w acc us, w.hp = H ∧ Ex0 w1 w ∧ Rep X.K X.mg w ∧ w.hid = p :: w1.hid ∧ Kp w1 w ∧ w.hp p = some (.lst us) ∧ RepL X.K X.mg w acc us ∧
      Post (RepD X.K X.mg) X.K X.mg w1 ((lcC (okC (ds, oc)) g t m (wipeE en vs) (ds.drop j) acc w.st).bind fin) Q (fun cls dd H' => W cls dd s H'),
    ⟨ds.length, rfl, Nat.zero_le _, w1.hide p (.lst []), [], [], rfl, hide_ex R1 hp, R1.hide hp, rfl, ⟨fun a ha => ?_, hide_fz R1 hp⟩, upd_same, .nil, P1⟩, ?_⟩
  · show upd w1.hp p _ a = _
    exact upd_ne fun z => R1.not_hid hp (z ▸ ha)
  rintro j k H ⟨rfl, hj, w, acc, us, rfl, x1, R, hh, hk, hu, ra, P⟩
  have hck : okC (ds, oc) w.st := by
    by_cases hn : okC (ds, oc) w.st
    · exact hn
    · rw [lcC_no hn] at P; exact False.elim P
  obtain ⟨go, stop⟩ := its w x1 hk.fz R hck
  by_cases hlt : j < ds.length
  · obtain ⟨go1, yl⟩ := go j hlt
    refine .inr ⟨go1, fun H' => ∃ w acc us, w.hp = H' ∧ Ex0 w1 w ∧ Rep X.K X.mg w ∧ w.hid = p :: w1.hid ∧ Kp w1 w ∧ w.hp p = some (.lst us) ∧ RepL X.K X.mg w acc us ∧
      Post (RepD X.K X.mg) X.K X.mg w1 ((lcC (okC (ds, oc)) g t m (wipeE en vs) (ds.drop (j + 1)) acc w.st).bind fin) Q (fun cls dd H' => W cls dd s H'),
      fun H' h => ⟨ds.length - (j + 1), by omega, rfl, hlt, h⟩, fun x H' y => ?_⟩
    obtain ⟨w3, d, rfl, x3, R3, st3, _, hd, rd⟩ := yl x H' y
    have e1 : ds.drop j = d :: ds.drop (j + 1) := by
      obtain ⟨hl, rfl⟩ := List.getElem?_eq_some_iff.mp hd
      exact List.drop_eq_getElem_cons hl
    rw [e1, lcC_cons hck, ← st3] at P
    have E3 : RepE X.K X.mg w3 (wipeE en vs) (L2.wipe s vs) := (E1.ext (x1.trans x3.toEx0)).wipe vs
    cases hm : g.m d (wipeE en vs) with
    | none => rw [hm] at P; exact False.elim P
    | some e4 =>
      rw [hm] at P
      dsimp only at P
      refine g.ok E3 rd hm fun s4 E4 hl4 hj4 => ⟨?_, ?_⟩
      · refine wipe_eq (by rw [hl4, wipe_length]) fun q hq => ?_
        rw [hj4 q fun z => hq (hg q z), wipe_at, if_neg hq]
      · have hh3 : w3.hid = p :: w1.hid := x3.hid.trans hh
        have hk3 : Kp w1 w3 := ⟨fun a ha => (x3.kh a (by rw [hh]; exact List.mem_cons_of_mem _ ha)).trans (hk.kh a ha), hk.fz.trans x1.al x3.fz⟩
        have hu3 : w3.hp p = some (.lst us) := (x3.kh p (by rw [hh]; exact List.mem_cons_self)).trans hu
        refine ⟨w3, e4, rfl, R3, E4, ?_⟩
        cases ht : t e4 w3.st with
        | exc _ _ => rw [ht] at P; exact False.elim P
        | stuck => rw [ht] at P; exact False.elim P
        | ok bb S5 =>
          rw [ht] at P
          intro w5 c5 x5 R5 st5 r5
          cases r5
          subst st5
          replace P : Post (RepD X.K X.mg) X.K X.mg w1 ((if bb = true then (noX (m e4 w5.st)).bind fun y S3 => if acc.length < sizeLine then lcC (okC (ds, oc)) g t m (wipeE en vs) (ds.drop (j + 1)) (acc ++ [y]) S3 else .stuck else lcC (okC (ds, oc)) g t m (wipeE en vs) (ds.drop (j + 1)) acc w5.st).bind fin) Q (fun cls dd H' => W cls dd s H') := P
          have hh5 : w5.hid = p :: w1.hid := x5.hid.trans hh3
          have hk5 : Kp w1 w5 := ⟨fun a ha => (x5.kh a (by rw [hh3]; exact List.mem_cons_of_mem _ ha)).trans (hk3.kh a ha), hk3.fz.trans (x1.trans x3.toEx0).al x5.fz⟩
          have hu5 : w5.hp p = some (.lst us) := (x5.kh p (by rw [hh3]; exact List.mem_cons_self)).trans hu3
          have ra5 := (ra.ext x3.toEx0).ext x5.toEx0
          have x15 : Ex0 w1 w5 := (x1.trans x3.toEx0).trans x5.toEx0
          cases bb with
          | false =>
            rw [if_neg Bool.false_ne_true] at P ⊢
            exact ⟨w5, acc, us, rfl, x15, R5, hh5, hk5, hu5, ra5, P⟩
          | true =>
            rw [if_pos rfl] at P ⊢
            refine ⟨w5, e4, rfl, R5, E4.ext x5.toEx0, ?_⟩
            cases hme : m e4 w5.st with
            | exc _ _ => rw [hme] at P; exact False.elim P
            | stuck => rw [hme] at P; exact False.elim P
            | ok y S6 =>
              rw [hme] at P
              intro w6 v6 x6 R6 st6 r6
              subst st6
              replace P : Post (RepD X.K X.mg) X.K X.mg w1 ((if acc.length < sizeLine then lcC (okC (ds, oc)) g t m (wipeE en vs) (ds.drop (j + 1)) (acc ++ [y]) w6.st else .stuck).bind fin) Q (fun cls dd H' => W cls dd s H') := P
              by_cases hz : acc.length < sizeLine
              · rw [if_pos hz] at P
                have ra6 := ra5.ext x6.toEx0
                have hh6 : w6.hid = p :: w1.hid := x6.hid.trans hh5
                have hk6 : Kp w1 w6 := ⟨fun a ha => (x6.kh a (by rw [hh5]; exact List.mem_cons_of_mem _ ha)).trans (hk5.kh a ha), hk5.fz.trans x15.al x6.fz⟩
                have hu6 : w6.hp p = some (.lst us) := (x6.kh p (by rw [hh5]; exact List.mem_cons_self)).trans hu5
                have pm : p ∈ w6.hid := by rw [hh6]; exact List.mem_cons_self
                have xg := gro_ex (o := .lst (us ++ [v6])) pm
                refine ⟨us, hu6, by rw [← ra6.length]; exact hz, w6.gro p (.lst (us ++ [v6])), acc ++ [y], us ++ [v6], rfl, (x15.trans x6.toEx0).trans xg, R6.gro pm, hh6, ⟨fun a ha => ?_, hk6.fz.trans (x15.trans x6.toEx0).al (gro_fz R6 pm)⟩, upd_same, (ra6.append (.cons r6 .nil)).ext xg, P⟩
                refine Eq.trans (show upd w6.hp p _ a = w6.hp a from upd_ne fun z => ?_) (hk6.kh a ha)
                subst z
                obtain ⟨_, o, ho⟩ := R1.hid a ha
                rw [hp] at ho; cases ho
              · rw [if_neg hz] at P; exact False.elim P
  · have e : j = ds.length := by omega
    subst e
    rw [List.drop_length, lcC_nil hck] at P
    exact .inl ⟨stop, hfin w1 w p us acc Q _ R1 hp R x1 hh hk hu ra P⟩
theorem fin_loc : ∀ (w1 w : Wo) (p : Addr) (us : List V) (acc : List D) (Q : VK) (E : XK), Rep X.K X.mg w1 → w1.hp p = none → Rep X.K X.mg w → Ex0 w1 w → w.hid = p :: w1.hid → Kp w1 w → w.hp p = some (.lst us) → RepL X.K X.mg w acc us →
      Post (RepD X.K X.mg) X.K X.mg w1 ((fun acc S => Res.ok (D.loc S.length) (S ++ [.lst acc])) acc w.st) Q E → Q (.ref p) w.hp := by
  intro w1 w p us acc Q E R1 hp R x1 hh hk hu ra P
  have hpa : p ∉ w.al := (R.hid p (by rw [hh]; exact List.mem_cons_self)).1
  have hph : p ∉ w1.hid := R1.not_hid hp
  have xn : Ex0 w ⟨w.al ++ [p], w.st ++ [.lst acc], w.hp, w1.hid⟩ := by
    refine ⟨⟨[p], rfl⟩, fun a h => ?_, fun a u h _ => h, fun a u h => ⟨u, h⟩⟩
    rcases h with ⟨n, c, h1, h2, h3⟩ | h
    · by_cases hl : n < w.al.length
      · rw [List.getElem?_append_left hl] at h1
        rw [List.getElem?_append_left (by rw [← R.len]; exact hl)] at h2
        exact .inl (.inl ⟨n, c, h1, h2, h3⟩)
      · have e : n = w.al.length := by
          have := (List.getElem?_eq_some_iff.mp h1).1
          simp at this; omega
        subst e
        simp at h1
        subst h1
        exact .inl (.inr (by rw [hh]; exact List.mem_cons_self))
    · exact .inl (.inr (by rw [hh]; exact List.mem_cons_of_mem _ h))
  have Rn : Rep X.K X.mg ⟨w.al ++ [p], w.st ++ [.lst acc], w.hp, w1.hid⟩ := by
    refine ⟨?_, ?_, fun a h => ?_, fun n a c h1 h2 => ?_, fun a h => ?_⟩
    · show (w.al ++ [p]).length = (w.st ++ [_]).length
      rw [List.length_append, List.length_append, R.len]; rfl
    · show (w.al ++ [p]).Nodup
      refine List.nodup_append.mpr ⟨R.nd, by simp, fun a ha b hb => ?_⟩
      rw [List.mem_singleton.mp hb]
      exact fun z => hpa (z ▸ ha)
    · rcases List.mem_append.mp h with h | h
      · exact R.tr a h
      · rw [List.mem_singleton.mp h]; exact ⟨_, hu⟩
    · by_cases hl : n < w.al.length
      · have h1 : (w.al ++ [p])[n]? = some a := h1
        have h2 : (w.st ++ [Cell.lst acc])[n]? = some c := h2
        rw [List.getElem?_append_left hl] at h1
        rw [List.getElem?_append_left (by rw [← R.len]; exact hl)] at h2
        exact (R.cell n a c h1 h2).ext xn rfl
      · have h1 : (w.al ++ [p])[n]? = some a := h1
        have h2 : (w.st ++ [Cell.lst acc])[n]? = some c := h2
        have e : n = w.al.length := by
          have := (List.getElem?_eq_some_iff.mp h1).1
          simp at this; omega
        subst e
        simp at h1
        subst h1
        rw [R.len] at h2
        simp at h2
        subst h2
        exact ⟨us, hu, ra.ext xn⟩
    · obtain ⟨q1, q2⟩ := R.hid a (by rw [hh]; exact List.mem_cons_of_mem _ h)
      refine ⟨fun z => ?_, q2⟩
      rcases List.mem_append.mp z with z | z
      · exact q1 z
      · rw [List.mem_singleton.mp z] at h; exact hph h
  refine P ⟨w.al ++ [p], w.st ++ [.lst acc], w.hp, w1.hid⟩ (.ref p) ⟨x1.trans xn, rfl, hk.kh, hk.fz.trans x1.al fun n a c h1 h2 _ => ⟨by show (w.st ++ [_])[n]? = _; rw [List.getElem?_append_left (List.getElem?_eq_some_iff.mp h2).1]; exact h2, rfl⟩⟩ Rn rfl (.loc ?_)
  show (w.al ++ [p])[w.st.length]? = some p
  rw [← R.len]; simp
theorem rs_setLcCN {i' : Nat} {y : Str} {py spos : Pos} {elt tg iter : Expr} {ifs : List Expr} {scope : Scope} {i : CM} {g : Tg} {t : TM} {m : EM} (own : List (Str × Nat)) (hc : X.calm = true) (hN : X.N.Nodup) (hy : X.N[i']? = some y)
    (hi : RIc X W tg iter i) (ok : BlkOk X.N X.env.scope scope own) (hgi : ∀ j, j ∈ g.ix → j ∈ own.map (·.2))
    (hg : ∀ (s : Shared) (H : Hp) (C : Addr) (cl : List (Str × Addr)) (fp : List Addr), PG (X.blk s H scope (compEnvC scope cl C X.env) fp) tg (g.r X.K)) (ht : ∀ (s : Shared) (H : Hp) (C : Addr) (cl : List (Str × Addr)) (fp : List Addr), PTs (X.blk s H scope (compEnvC scope cl C X.env) fp) ifs (tG RlB X W0 t))
    (he : ∀ (s : Shared) (H : Hp) (C : Addr) (cl : List (Str × Addr)) (fp : List Addr), RE (X.blk s H scope (compEnvC scope cl C X.env) fp) W0 elt m) (hs : ∀ x, foldedSetIterable iter X.env x = pure x := by intro _; rfl)
    (hyl : X.env.scope.names.lookup y = some .local := by rfl)
    (hsw : swapsWith (.ListComp elt [⟨tg, iter, ifs, 0⟩] scope pos) (some (.Name y py)) spos.line X.env = pure true := by exact sw_true rfl rfl rfl (by decide +kernel)) :
    RS X W (.Assign [.Name y py] (.ListComp elt [⟨tg, iter, ifs, 0⟩] scope pos) spos) (sSet i' (eLcCN i g t m (own.map (·.2)))) := by
  refine ps_imp (ps_setLc (te := tG (RepD X.K X.mg) X W0 m) hc hN hy hyl hsw hi ok hg ht he hs) ?_
  rintro D s H ⟨w, en, rfl, R, E, P⟩
  refine t_lcC hgi fin_loc s w.hp _ ⟨w, en, rfl, R, E, (PostS.of P E).imp ?_⟩
  rintro v H1 ⟨w1, x, rfl, X1, R1, rx, P1⟩
  exact P1 w1 _ (Ext.refl w1) R1 rfl ((E.ext X1.toEx0).set i' rx)
def addN (S : Store) (x y : D) : Res D := match rsv S x, rsv S y with
  | .lst l, .lst m => if l.length + m.length ≤ sizeLine then .ok (.loc S.length) (S ++ [.lst (l ++ m)]) else .stuck
  | _, _ => .stuck
def eAddN (a b : EM) : EM := fun e S => (a e S).bind fun x S1 => (b e S1).bind fun y S2 => addN S2 x y
end
end G
namespace G
open PySem L2 PySem.Spec PyProof.Rows
section
variable {X : Cx} {W : WX} {a b e o : Expr} {es : List Expr} {ma mb mc me : EM} {pos apos : Pos} {x : Str} {p : Pos} {j k cn n : Nat} {ps ks : List Str} {f : FM} {gD : List D → List D → List D}
def fmtD : D → Option D
  | .str y => if y.length ≤ sizeLine then some (.str y) else none
  | .int i => if i.natAbs.log2 < 1920 then some (.str (toString i)) else none
  | _ => none
def eFmt (m : EM) : EM := fun e S => (m e S).bind fun x S1 => lf (fmtD x) S1
def jsM : List EM → Str → EM
  | [], acc => fun _ S => .ok (.str acc) S
  | m :: ms, acc => fun e S => (m e S).bind fun x S1 => match x with
    | .str y => if (acc ++ y).length ≤ sizeLine then jsM ms (acc ++ y) e S1 else .stuck
    | _ => .stuck
def eJs (ms : List EM) : EM := jsM ms Str.empty
theorem RoomG.in1 {k : Nat} {A : Around} (h : RoomG (k + 1) A) : RoomG k A.in1 := ⟨h.r.in1, h.gd⟩
def strOf (r : Res D) : Res D := r.bind fun y S1 => match y with
  | .str t => .ok (.str t) S1
  | _ => .stuck
def eStrO (cn : Nat) (f : FM) (gD : List D → List D → List D) (m : EM) : EM := fun e S => (aCons m aNil e S).bind fun ds S0 => match ds with
  | [x] => if isCn cn S0 x = true then strOf (f (gD [x] []) S0) else .stuck
  | _ => .stuck
def dAddE (S : Store) (x y : D) : Option D := match x, y with
  | .tup [], .tup m => some (.tup m)
  | _, _ => dAddS S x y
end
def tbR (rs : List Nat) (c : Nat) : Nat → Option Bool := fun n => if rs.contains n = true then some (subC n c) else none
theorem tbR_cases {rs : List Nat} {c cn : Nat} {q : Bool} (e : tbR rs c cn = some q) : cn ∈ rs ∧ q = subC cn c := by
  unfold tbR at e
  split at e
  · rename_i h
    exact ⟨by simpa using h, (Option.some.inj e).symm⟩
  · cases e
section
variable {K : PySem.W.Frag} {h : Heap} {mg : Str → Option Value}
theorem kit_atR (X : K.In h) (Y : h.Ns mainGlobals mg) {ns : List Nat} {c : Nat} {D : PySem.W.Frag → Value} (c0 : exsB ns K = true) (ck : kitB D (ns.map fun n => (n, subC n c)) K = true) :
    ∀ (cn : Nat) (C : Addr) (q : Bool), tbR ns c cn = some q → mg (cname cn) = some (.ref C) → ExcC K C ∧ PySem.W.kitOne K (.ref C) (D K) = some q := fun cn C q h1 h2 => by
  obtain ⟨hl, rfl⟩ := tbR_cases h1
  obtain ⟨g1, g2⟩ := He.ba (List.all_eq_true.mp c0 cn hl)
  cases (glo_one X Y g1).symm.trans h2
  have z : kitO K (D K) (cn, subC cn c) = true := List.all_eq_true.mp ck (cn, subC cn c) (List.mem_map.mpr ⟨cn, hl, rfl⟩)
  exact ⟨exqB_ok g2, of_decide_eq_true z⟩
theorem exm_atR (X : K.In h) (Y : h.Ns mainGlobals mg) {ns : List Nat} {c : Nat} {y : Str} (c0 : exsB ns K = true) (ck : exmB y (ns.map fun n => (n, subC n c)) K = true) :
    ∀ (cn : Nat) (C : Addr) (q : Bool), tbR ns c cn = some q → mg (cname cn) = some (.ref C) → PySem.W.exmOne K (.ref C) (.ref (He.ga K y)) = some q := fun cn C q h1 h2 => by
  obtain ⟨hl, rfl⟩ := tbR_cases h1
  obtain ⟨g1, g2⟩ := He.ba (List.all_eq_true.mp c0 cn hl)
  cases (glo_one X Y g1).symm.trans h2
  have z : exmO K y (cn, subC cn c) = true := List.all_eq_true.mp ck (cn, subC cn c) (List.mem_map.mpr ⟨cn, hl, rfl⟩)
  exact of_decide_eq_true z
end
end G
namespace G
open PySem L2 PySem.Spec
def ph4 : List Str := [⟨#[0]⟩, ⟨#[1]⟩, ⟨#[2]⟩, ⟨#[3]⟩]
theorem ph_by {sc : Scope} (h : (ph4.all fun y => (sc.names.lookup y).isNone) = true) : ∀ y ∈ ph4, ¬ Vis sc y := by
  intro y hy hv
  have z := List.all_eq_true.mp h y hy
  have z : sc.names.lookup y = none := Option.isNone_iff_eq_none.mp z
  rcases hv with k | k | k <;> rw [z] at k <;> cases k
open Classical in
noncomputable def eCallV (i f nN : Nat) (cp : List (Option D)) (fk : FM) (m : AM) : EM := fun en S => if en[i]? = some (some (.fa f)) ∧ en.drop nN = cp then (m en S).bind fk else .stuck
structure Act (Z : Cx) (a : Str) (i f nN : Nat) (cp : List (Option D)) (fk : FM) (k : Nat) : Prop where
  one : ∀ {pn : List (Addr × Obj)} {xe : Value → Shared → Prop} {W : WX} {j : Nat}, Cg (Z.tr pn xe) W j → k ≤ j → ∀ {e : Expr} {m : AM} {p1 p2 : Pos}, RA (Z.tr pn xe) W [e] m → starEach [e] Z.env = (false, eval e Z.env) :: starEach [] Z.env →
    RE (Z.tr pn xe) W (.Call (.Name a p1) [e] [] p2) (eCallV i f nN cp fk m)
  zero : ∀ {pn : List (Addr × Obj)} {xe : Value → Shared → Prop} {W : WX} {j : Nat}, Cg (Z.tr pn xe) W j → k ≤ j → ∀ {p1 p2 : Pos}, RE (Z.tr pn xe) W (.Call (.Name a p1) [] [] p2) (eCallV i f nN cp fk aNil)
section
variable {X : Cx} {W : WX} {a b c e o : Expr} {es : List Expr} {ma mb mc me : EM} {pos : Pos} {x : Str} {p : Pos} {j k : Nat} {ps ks : List Str} {f : FM}
theorem slot_w {i fv : Nat} {nm : Str} {w : Wo} {en : En} {pins : List (Addr × Obj)} {s : Shared} {σ : L2.St} {Q : Value → Shared → Prop} (hN : X.N[i]? = some nm) (hv : Vis X.env.scope nm) (hd : (nm == ("__debug__" : Str)) = false) (hcd : (nm == ("__classdict__" : Str)) = false)
    (I : L2.Inv X pins σ w.hp s) (E : RepE X.K X.mg w en σ) (h : en[i]? = some (some (.fa fv))) (hq : ∀ s1, L2.Inv X pins σ w.hp s1 → Q (.ref fv) s1) : wpAny (model X.prog X.w) X.A (eval (.Name nm p) X.env) Q X.xe s := by
  obtain ⟨v, hs, rv⟩ := E.get i _ h
  cases rv
  refine thn ((pe_var (pos := p) (i := i) hN hv hd hcd).run pins s σ w.hp (fun v H1 => v = .ref fv ∧ H1 = w.hp) I ⟨.ref fv, hs, rfl, rfl⟩) ?_
  rintro u s1 ⟨v, H1, I1, r1, rfl, rfl⟩
  obtain rfl : u = Value.ref fv := r1
  exact hq s1 I1
end
def fnH (n : Nat) (cp : List (Option D)) (m : SM) : FM := fun ds S => match m (enOf n ds ++ cp) S with
  | .nxt _ S' => .ok .non S'
  | .ret d S' => .ok d S'
  | .exc x _ S' => .exc x S'
  | _ => .stuck
section
variable {P : Program} {w0 : World} {K : PySem.W.Frag} {mg : Str → Option Value} {base : Heap}
theorem inv_slots {X : Cx} {pins : List (Addr × Obj)} {σ σ' : List (Option V)} {H : Hp} {s : Shared} (I : L2.Inv X pins σ H s) (hl : σ'.length = σ.length) (h : ∀ (i : Nat) (v : V), σ'[i]? = some (some v) → σ[i]? = some (some v) ∨ ∀ y, X.N[i]? = some y → ¬ Vis X.env.scope y) : L2.Inv X pins σ' H s := by
  obtain ⟨m, hn, hloc⟩ := I.loc
  refine { I with loc := ⟨m, hn, fun i y v e1 e2 e3 => ?_⟩, len := hl.trans I.len }
  rcases h i v e2 with q | q
  · exact hloc i y v e1 q e3
  · exact absurd e3 (q y e1)
theorem RepE.join {w : Wo} {e1 e2 : En} {s1 s2 : L2.St} (h1 : RepE K mg w e1 s1) (h2 : RepE K mg w e2 s2) : RepE K mg w (e1 ++ e2) (s1 ++ s2) := by
  refine ⟨by rw [List.length_append, List.length_append, h1.len, h2.len], fun i d g => ?_⟩
  by_cases hi : i < e1.length
  · rw [List.getElem?_append_left hi] at g
    obtain ⟨v, q, r⟩ := h1.get i d g
    exact ⟨v, by rw [List.getElem?_append_left (by rw [← h1.len]; exact hi)]; exact q, r⟩
  · rw [List.getElem?_append_right (by omega)] at g
    obtain ⟨v, q, r⟩ := h2.get _ d g
    exact ⟨v, by rw [List.getElem?_append_right (by rw [← h1.len]; omega), ← h1.len]; exact q, r⟩
structure FnH (P : Program) (w0 : World) (K : PySem.W.Frag) (mg : Str → Option Value) (base : Heap) (k : Nat) (f : Addr) (fd : FuncData) (N : List Str) (qual : Str) (scope : Scope) (ps : List Str) (a : Str) (i : Nat) (m : Nat → List (Option D) → FM → FM) : Prop where
  run : ∀ (A : Around) (outer : List Env) (s : Shared) (H : Hp) (args : Args) (us : List Value) (vs : List V) (Q : VK) (E : XK) (fv : Nat) (cp : List (Option D)) (cv : List (Option V)) (fk : FM), RoomG (k + 1) A → Env0 P w0 K mg base A outer s H → BindsTo s fd args (ps.zip us) → Vals vs us → vs.length = ps.length → cp.length = 4 →
    (∀ cdv, Act (cxOf (L2.CX P w0) P w0 K mg base (N ++ ph4) qual scope f cdv A outer s H E) a i fv N.length cp fk k) →
    (∃ w ds, w.hp = H ∧ Rep K mg w ∧ RepL K mg w ds vs ∧ RepE K mg w cp cv ∧ Post (RepD K mg) K mg w (m fv cp fk ds w.st) Q E) → codeAny (model P w0) A (.call (.ref f) args) (CR (L2.CX P w0) outer P w0 H s Q E) s
theorem def_okH {x qual : Str} {st : Stmt} {f : Addr} {fd : FuncData} {N ps : List Str} {k i : Nat} {a : Str} {m : Nat → List (Option D) → FM → SM} {dvs : List V} {kws : List (Str × V)} (F : FunD K x qual (defArgs st) (defBody st) (defScope st) dvs kws f fd) (S : FnScope (N ++ ph4) ps (defScope st)) (hps : ps.length ≤ N.length) (hph : ∀ y ∈ ph4, ¬ Vis (defScope st) y)
    (hbody : ∀ (cdv : Value) (A : Around) (outer : List Env) (s : Shared) (H : Hp) (E : XK) (fv : Nat) (cp : List (Option D)) (fk : FM), Cg (cxOf (L2.CX P w0) P w0 K mg base (N ++ ph4) qual (defScope st) f cdv A outer s H E) (fun cls d _ H' => E cls d H') k →
      Act (cxOf (L2.CX P w0) P w0 K mg base (N ++ ph4) qual (defScope st) f cdv A outer s H E) a i fv N.length cp fk k →
      RSs (cxOf (L2.CX P w0) P w0 K mg base (N ++ ph4) qual (defScope st) f cdv A outer s H E) (fun cls d _ H' => E cls d H') (defBody st) (m fv cp fk)) :
    FnH P w0 K mg base k f fd N qual (defScope st) ps a i (fun fv cp fk => fnH N.length cp (m fv cp fk)) := by
  obtain ⟨oc, od, dV, kV, doc, pm, an, cdv, ct, osl, rfl, lk, hcd, _, _⟩ := F.ex
  constructor
  intro A outer s H args us vs Q E fv cp cv fk rm env bnd rel hlv hcl hact hs
  have inn : K.In s.heap := env.mod.kin.keeps fun a o q => (env.bs a o q).1
  have nol : s.heap.NoLimit := env.mod.nolimit.keeps fun a o q => (env.bs a o q).1
  apply codeAny_call_function rm.r.depth (inn _ _ lk) rfl S.co S.gen rfl (PySem.W.codeRec_of inn hcd)
  apply bnd
  apply wpAny_newFunctionEnv_cells S.kind
  · rintro ⟨n, u⟩ hn
    exact (S.par n (List.of_mem_zip hn).1).imp id fun q => ⟨q, PySem.W.cellsFrom_some _ _ _ (.inl q)⟩
  rintro _ rfl s1 nw
  constructor
  · exact nol.keeps nw.toInCall.keep
  have hI := inv_start (CX := L2.CX P w0) (E := E) S rm.r.hd env hlv rel nw
  obtain ⟨w, ds, rfl, R, rl, rc, P1⟩ := hs
  have hcv : cv.length = 4 := by rw [← rc.len]; exact hcl
  have hst : start (N ++ ph4) vs = start N vs ++ List.replicate 4 none := by
    unfold L2.start
    rw [List.append_assoc, List.replicate_append_replicate]
    congr 2
    rw [List.length_append]
    show N.length + 4 - vs.length = N.length - vs.length + 4
    omega
  have hln : (start N vs).length = N.length := by unfold L2.start; simp; omega
  have hI2 : L2.Inv (cxOf (L2.CX P w0) P w0 K mg base (N ++ ph4) qual (defScope st) f cdv A outer s w.hp E) [] (start N vs ++ cv) w.hp s1 := by
    refine inv_slots hI (by rw [hst]; simp [hcv]) fun i v g => ?_
    by_cases hi : i < N.length
    · left
      rw [hst, List.getElem?_append_left (by rw [hln]; exact hi)]
      rw [List.getElem?_append_left (by rw [hln]; exact hi)] at g
      exact g
    · right
      intro y hy
      have hy : (N ++ ph4)[i]? = some y := hy
      rw [List.getElem?_append_right (by omega)] at hy
      exact hph y (List.mem_of_getElem? hy)
  have c : Cg (cxOf (L2.CX P w0) P w0 K mg base (N ++ ph4) qual (defScope st) f cdv A outer s w.hp E) (fun cls d _ H' => E cls d H') k := ⟨rfl, S.nd, takes_of rfl rfl rfl rfl, passes_of rfl, ⟨rm.r.deeper _, rm.gd⟩, rfl, rfl, rfl⟩
  have ht := hbody cdv A outer s w.hp E fv cp fk c (hact cdv)
  apply codeAny_func
  refine wpAny_mono (ht.run [] s1 _ w.hp { nx := fun _ H' => Q .non H', rt := Q } hI2 ⟨w, enOf N.length ds ++ cp, rfl, R, (RepE.start rl N).join rc, ?_⟩) ?_ fun _ _ z => z
  · unfold fnH at P1
    cases q : m fv cp fk (enOf N.length ds ++ cp) w.st with
    | nxt e S => rw [q] at P1; exact fun w1 s1 x1 R1 st1 _ => P1 w1 .non x1 R1 st1 .non
    | ret d S => rw [q] at P1; exact P1
    | brk e S => rw [q] at P1; exact False.elim P1
    | cnt e S => rw [q] at P1; exact False.elim P1
    | exc y e S => rw [q] at P1; exact fun w1 s1 c1 d1 x1 R1 st1 _ rx => P1 w1 c1 d1 x1 R1 st1 rx
    | stuck => rw [q] at P1; exact P1
  · intro fl s' z
    cases fl with
    | next => obtain ⟨st, H', J, q⟩ := z; exact ⟨V.non, H', J.os, J.bare, J.base, J.hok, rfl, q⟩
    | ret u => obtain ⟨v, st, H', J, rv, q⟩ := z; exact ⟨v, H', J.os, J.bare, J.base, J.hok, rv, q⟩
    | brk => exact False.elim z.choose_spec.choose_spec.2
    | cont => exact False.elim z.choose_spec.choose_spec.2
end
end G
namespace G
open PySem L2 PySem.Spec
inductive RP (X : Cx) (W : WX) : List Expr → AM → Prop where
  | nil : RP X W [] aNil
  | cons {e : Expr} {ma : EM} {es : List Expr} {mr : AM} : RE X W e ma → RP X W es mr → RP X W (e :: es) (aCons ma mr)
noncomputable def uniR {α : Type} [Inhabited α] (F : α → Res D) : Res D := by
  classical exact if ∀ a b, F a = F b then F default else .stuck
theorem uniR_ok {α : Type} [Inhabited α] {F : α → Res D} {r : Res D} (h : ∀ a, F a = r) : uniR F = r := by
  unfold uniR
  rw [if_pos fun a b => (h a).trans (h b).symm]
  exact h _
def oj (o : Option (Option D)) : Option D := match o with
  | some (some d) => some d
  | _ => none
def cpOf (js : List Nat) (en : En) (vs : List V) : List (Option D) := ((js.zip vs).map fun q => (oj en[q.1]?).map (D.pin q.2)) ++ List.replicate (4 - js.length) none
section
variable {X : Cx} {W : WX} {a b c e l : Expr} {es : List Expr} {ma mb mc me : EM} {pos : Pos} {x : Str} {p : Pos} {j k : Nat} {ps ks : List Str} {f : FM}
theorem spl_run {m : AM} {l : Expr} {pins : List (Addr × Obj)} {σ : L2.St} (hp : RP X W es m) : ∀ {s : Shared} {w0 w : Wo} {en : En} {k : List D → Store → Res D} {QD : VK} {G : List Value → Shared → Prop}, L2.Inv X pins σ w.hp s → Rep X.K X.mg w → RepE X.K X.mg w en σ → Ext w0 w →
    Post (RepD X.K X.mg) X.K X.mg w ((m en w.st).bind k) QD (fun cls dd H' => W cls dd σ H') →
    (∀ (us : List Value) (vs : List V) (ds : List D) (s1 : Shared) (w1 : Wo), L2.Inv X pins σ w1.hp s1 → Rep X.K X.mg w1 → RepE X.K X.mg w1 en σ → Ext w0 w1 → Vals vs us → RepL X.K X.mg w1 ds vs → Post (RepD X.K X.mg) X.K X.mg w1 (k ds w1.st) QD (fun cls dd H' => W cls dd σ H') → wpAny (model X.prog X.w) X.A (eval l X.env) (fun v s2 => G (us ++ [v]) s2) X.xe s1) →
    wpAny (model X.prog X.w) X.A (spliced (es.map (fun e => (false, eval e X.env)) ++ [(false, eval l X.env)])) G X.xe s := by
  induction hp with
  | nil =>
    intro s w0 w en k QD G I R E X0 P h
    refine Calls.spliced_cons (thn (h [] [] [] s w I R E X0 .nil .nil P) fun v s2 q => Calls.spliced_nil q)
  | @cons e ma es mr he hr ih =>
    intro s w0 w en k QD G I R E X0 P h
    have P' : Post (RepD X.K X.mg) X.K X.mg w ((ma en w.st).bind fun y S1 => (mr en S1).bind fun ys S2 => k (y :: ys) S2) QD (fun cls dd H' => W cls dd σ H') := by
      have e1 : ((aCons ma mr en w.st).bind k) = (ma en w.st).bind fun y S1 => (mr en S1).bind fun ys S2 => k (y :: ys) S2 := by
        unfold aCons
        cases ma en w.st with
        | ok y S1 => show ((mr en S1).bind _).bind k = (mr en S1).bind _; cases mr en S1 <;> rfl
        | exc _ _ => rfl
        | stuck => rfl
      rw [e1] at P
      exact P
    refine Calls.spliced_cons (thn (he.run pins s σ w.hp _ I ⟨w, en, rfl, R, E, Post.bind P'⟩) ?_)
    rintro u s1 ⟨v, H1, I1, r1, w1, y, rfl, X1, R1, ry, P1⟩
    refine ih (G := fun us s2 => G (u :: us) s2) (w0 := w1) I1 R1 (E.ext X1.toEx0) (Ext.refl w1) P1 fun us vs ds s2 w2 I2 R2 E2 X2 rv rl P2 => ?_
    exact h (u :: us) (v :: vs) (y :: ds) s2 w2 I2 R2 E2 ((X0.trans X1).trans X2) (.cons r1 rv) (.cons (ry.ext X2.toEx0) rl) P2
structure LA (X : Cx) (l : Expr) (js : List Nat) (fkM : En → FM) (tb : Store → Bool) (kk : Nat) : Prop where
  run : ∀ (pins : List (Addr × Obj)) (s : Shared) (σ : L2.St) (w : Wo) (en : En), L2.Inv X pins σ w.hp s → Rep X.K X.mg w → RepE X.K X.mg w en σ → tb w.st = true →
    wpAny (model X.prog X.w) X.A (eval l X.env) (fun u s' => ∃ (fv : Nat) (vs : List V) (w' : Wo), u = .ref fv ∧ L2.Inv X pins σ w'.hp s' ∧ Ext w w' ∧ Rep X.K X.mg w' ∧ w'.st = w.st ∧ vs.length = js.length ∧ RepE X.K X.mg w' (cpOf js en vs) (vs.map some ++ List.replicate (4 - js.length) none) ∧
      ∀ (Ng : List Str) (qg : Str) (sg : Scope) (g : Addr) (cdg : Value) (Eg : XK) (a : Str) (i : Nat), Ng[i]? = some a → Vis sg a → (a == ("__debug__" : Str)) = false → (a == ("__classdict__" : Str)) = false →
        Act (cxOf (L2.CX X.prog X.w) X.prog X.w X.K X.mg X.base (Ng ++ ph4) qg sg g cdg X.A X.stack s' w'.hp Eg) a i fv Ng.length (cpOf js en vs) (fkM en) kk) X.xe s
noncomputable def eCallH (g : Nat → List (Option D) → FM → FM) (js : List Nat) (fkM : En → FM) (tb : Store → Bool) (n : Nat) (m : AM) : EM := fun en S => (m en S).bind fun ds S1 => if tb S1 = true ∧ ds.length = n then uniR (fun q : Nat × { vs : List V // vs.length = js.length } => g q.1 (cpOf js en q.2.1) (fkM en) (ds ++ [.fa q.1]) S1) else .stuck
theorem Act.mono {Z : Cx} {a : Str} {i fv nN k k' : Nat} {cp : List (Option D)} {fk : FM} (h : Act Z a i fv nN cp fk k) (l : k ≤ k') : Act Z a i fv nN cp fk k' :=
  ⟨fun c hj => h.one c (Nat.le_trans l hj), fun c hj => h.zero c (Nat.le_trans l hj)⟩
theorem Post.uni {α : Type} [Inhabited α] {K : PySem.W.Frag} {mg : Str → Option Value} {w : Wo} {F : α → Res D} {Q : VK} {E : XK} (h : Post (RepD K mg) K mg w (uniR F) Q E) (z : α) : Post (RepD K mg) K mg w (F z) Q E := by
  unfold uniR at h
  split at h
  · rename_i hu
    rw [hu z default]; exact h
  · exact False.elim h
structure Dh (P : Program) (w0 : World) (K : PySem.W.Frag) (mg : Str → Option Value) (base : Heap) (x : Str) (ps : List Str) (k : Nat) (m : Nat → List (Option D) → FM → FM) : Prop where
  ex : ∃ f fd N qual scope a i, mg x = some (.ref f) ∧ PySem.W.keepIn K (.ref f) = true ∧ Binds K fd ps [] ∧ N[i]? = some a ∧ Vis scope a ∧ (a == ("__debug__" : Str)) = false ∧ (a == ("__classdict__" : Str)) = false ∧ FnH P w0 K mg base k f fd N qual scope ps a i m
theorem cpOf_len {js : List Nat} {en : En} {vs : List V} (h : vs.length = js.length) (h4 : js.length ≤ 4) : (cpOf js en vs).length = 4 := by
  unfold cpOf
  rw [List.length_append, List.length_map, List.length_zip, List.length_replicate, h]; omega
theorem re_callH {rest : List Expr} {js : List Nat} {fkM : En → FM} {tb : Store → Bool} {kk n : Nat} {mp : AM} {m : Nat → List (Option D) → FM → FM} (c : Cg X W j) (hF : Dh X.prog X.w X.K X.mg X.base x ps k m) (hj : k + 1 ≤ j) (hp : RP X W es mp) (hl : LA X l js fkM tb kk) (hkk : kk ≤ k) (hps : ps.length = n + 1) (hcap : js.length ≤ 4) (hg : Gl X x := by rfl) (hdb : (x == ("__debug__" : Str)) = false := by decide)
    (hargs : backTo pos (starEach (e :: rest) X.env) = es.map (fun e => (false, eval e X.env)) ++ [(false, eval l X.env)] := by rfl) (he : starEach (e :: rest) X.env = (false, eval e X.env) :: starEach rest X.env := by rfl) (hpl : (backTo pos (starEach rest X.env)).any (·.1) = false := by rfl) :
    RE X W (.Call (.Name x p) (e :: rest) [] pos) (eCallH m js fkM tb n mp) := by
  obtain ⟨fa, fd, N, qual, scope, nm, i, h1, h2, h3, hN, hv, hd, hcd, h4⟩ := hF.ex
  refine ⟨fun pins s σ H Q I h => ?_⟩
  obtain ⟨w, en, rfl, R, E, P⟩ := h
  refine wpAny_Call_Name_kw (ld_glob I hg h1 ?_ hdb)
  refine PySem.W.callWith_K (h₀ := X.base) I.ok.mod.kin h2 ?_ he hpl
  rw [hargs]
  refine spl_run hp I R E (Ext.refl w) P fun us vs ds s1 w1 I1 R1 E1 X1 rv rl P1 => ?_
  (try dsimp only at P1)
  split at P1
  · rename_i hgd
    refine thn (hl.run pins s1 σ w1 en I1 R1 E1 hgd.1) ?_
    rintro u s2 ⟨fv, cvs, w2, rfl, I2, X2, R2, st2, hcl, rc, act⟩
    have P2 := (Post.uni P1 (fv, ⟨cvs, hcl⟩)).ext X2
    dsimp only at P2
    rw [← st2] at P2
    have hlen : (vs ++ [V.ref fv]).length = ps.length := by rw [List.length_append, ← rl.length, hgd.2, hps]; rfl
    have rv2 : Vals (vs ++ [V.ref fv]) (us ++ [Value.ref fv]) := rv.append (.cons rfl .nil)
    have b := h3 s2 (us ++ [Value.ref fv]) I2.kIn (by rw [List.append_nil, ← rv2.length]; exact hlen)
    rw [List.append_nil] at b
    refine ⟨I2.kIn, wpAny_call (codeAny_mono (h4.run X.A X.stack s2 w2.hp ⟨us ++ [Value.ref fv], []⟩ (us ++ [Value.ref fv]) (vs ++ [V.ref fv]) Q (WE W σ) fv (cpOf js en cvs) _ (fkM en) (c.rm.mono hj) I2.env0 b rv2 hlen (cpOf_len hcl hcap) (fun cdv => (act N qual scope fa cdv (WE W σ) nm i hN hv hd hcd).mono hkk)
      ⟨w2, ds ++ [.fa fv], rfl, R2, (rl.ext X2.toEx0).append (.cons (.fa fv) .nil), rc, P2⟩) ?_)⟩
    intro res s' z
    cases res with
    | error y => exact passAt c.tk σ pins w2.hp s2 y s' I2 z
    | ok fl =>
      cases fl with
      | ret u => exact I2.after z
      | _ => exact False.elim z
  · exact False.elim P1
end
end G
namespace G
open PySem L2 PySem.Spec PyProof.Rows
abbrev codeZ (c : Addr) (q : Str) (o : Obj) : HO := .frz o (LamX.CodeO c q)
section
variable {X : Cx} {pins : List (Addr × Obj)} {σ : L2.St} {H : Hp} {s : Shared}
theorem inv_grow {P c : Addr} {q : Str} {ps more : Array Value} {h' : Heap} {t' : Nat} {oc : Obj} {vs : Array Value} {t : Tok} (I : L2.Inv X pins σ H s) (hP : H P = some (.tbl ps)) (k : ∀ b o, b ≠ P → s.heap.get? b = some o → h'.get? b = some o)
    (hm : h'.get? P = some { cls := .none, data := .fields (ps ++ more) }) (hc : s.heap.objs.size ≤ c) (h1 : h'.get? c = some oc) (h2 : oc.data = .fields vs) (h3 : vs[1]? = some (.str q t)) :
    L2.Inv X pins σ (upd (upd H P (.tbl (ps ++ more))) c (codeZ c q oc)) { s with heap := h', toks := t' } := by
  have J := LamX.inv_table (q := q) (t' := t') I hP k hm hc ⟨oc, vs, t, h1, h2, h3⟩
  have nC : H c = none := I.hok.fresh hc
  have nPc : P ≠ c := ne_of_none hP nC
  have same : ∀ b, b ≠ c → upd (upd H P (.tbl (ps ++ more))) c (codeZ c q oc) b = upd (upd H P (.tbl (ps ++ more))) c (LamX.CodeO c q) b := fun b hb => by rw [upd_ne hb, upd_ne hb]
  have old : ∀ b u, H b = some u → b ≠ c := fun b u e => ne_of_none e nC
  refine { J with base := ?_, free := ?_, freeC := ?_, pin := ?_, hok := ?_ }
  · have B := J.base
    refine ⟨B.keep, B.slot, fun b o e n hx => ?_, B.there, fun b xs e => ?_, fun b o u e => ?_, fun b qs e => ?_⟩
    · have z := B.free b o e n hx
      by_cases hb : b = c
      · subst hb; rw [upd_same] at z; cases z
      · rw [same b hb]; exact z
    · have z := B.tups b xs e
      by_cases hb : b = c
      · subst hb; rw [upd_same] at z; unfold LamX.CodeO at z; cases z
      · rw [same b hb]; exact z
    · have z := B.frzs b o u e
      by_cases hb : b = c
      · subst hb; rw [upd_same] at z; unfold LamX.CodeO at z; cases z
      · rw [same b hb]; exact z
    · obtain ⟨mo, z⟩ := B.tbls b qs e
      by_cases hb : b = c
      · subst hb; rw [upd_same] at z; unfold LamX.CodeO at z; cases z
      · exact ⟨mo, by rw [same b hb]; exact z⟩
  · have z := J.free
    by_cases hb : X.env.locals = c
    · rw [hb, upd_same] at z; cases z
    · rw [same _ hb]; exact z
  · intro y b e
    have z := J.freeC y b e
    by_cases hb : b = c
    · subst hb; rw [upd_same] at z; cases z
    · rw [same b hb]; exact z
  · intro p hp
    obtain ⟨z1, z2, z3⟩ := J.pin p hp
    refine ⟨z1, ?_, z3⟩
    by_cases hb : p.1 = c
    · rw [hb, upd_same] at z2; cases z2
    · rw [same _ hb]; exact z2
  · intro b u e
    by_cases hb : b = c
    · subst hb
      rw [upd_same] at e
      cases e
      exact ⟨h1, ⟨oc, vs, t, h1, h2, h3⟩, ⟨oc, h1⟩, fun g1 g2 ⟨oc, vs, t, z1, z2, z3⟩ st => ⟨oc, vs, t, st _ z1, z2, z3⟩⟩
    · rw [same b hb] at e
      have z := J.hok b u e
      refine z.stay (fun d v _ q => q) (fun d q => ?_) fun d xs q => ?_
      · by_cases hd : d = c
        · subst hd; rw [upd_same] at q; unfold LamX.CodeO at q; cases q
        · rw [same d hd]; exact q
      · by_cases hd : d = c
        · subst hd; rw [upd_same] at q; unfold LamX.CodeO at q; cases q
        · rw [same d hd]; exact q
theorem lam_new {p : Str × Option Str} {q : Str} {params : Arguments} {body : Expr} {scope : Scope} {lpos : Pos} {w : Wo} {nT : Nat} {Q : Value → Shared → Prop} {E : Value → Shared → Prop} (I : L2.Inv X pins σ w.hp s) (R : Rep X.K X.mg w) (hT : w.st[nT]? = some (.tbl p q)) (hq : X.env.qual ++ "<lambda>" = q)
    (TB : LamX.TabB X.base X.mg (He.cT X.K p).1 (He.cT X.K p).2) (hcode : X.env.code = .ref (He.cT X.K p).1) (hdef : defaultsOf params X.env = ([], [])) (hfree : ∀ y ∈ scope.names, y.2 = .free → ∃ c, X.env.cells.lookup y.1 = some c)
    (h : ∀ (f c' : Addr) (oc : Obj) (pm ctv : Value) (w' : Wo) (s' : Shared), L2.Inv X pins σ w'.hp s' → Ext w w' → Rep X.K X.mg w' → w'.st = w.st → s'.heap.get? f = some (PySem.W.kla_obj "<lambda>" q params body scope (cloFrom X.env.cells scope.names []) pm c' ctv) → w'.hp f = none → f ∉ frs X.stack → w'.hp c' = some (codeZ c' q oc) → Q (.ref f) s') :
    wpAny (model X.prog X.w) X.A (eval (.Lambda params body scope lpos) X.env) Q E s := by
  subst hq
  obtain ⟨P, hal⟩ : ∃ P, w.al[nT]? = some P := by
    have hlt := (List.getElem?_eq_some_iff.mp hT).1
    rw [← R.len] at hlt
    exact ⟨_, List.getElem?_eq_getElem hlt⟩
  obtain ⟨eP, ps, hP, ht, ha⟩ := R.cell nT P _ hal hT
  have zP : Zl w P := .inl ⟨nT, _, hal, hT, by intro z; cases z⟩
  rw [← eP] at TB
  have out : ∀ f, s.heap.objs.size ≤ f → f ∉ frs X.stack := by
    intro f hf z
    rcases List.mem_cons.mp (I.stkSub _ z) with e | e
    · have h1 := I.lt
      rw [← e] at h1
      exact Nat.lt_irrefl _ (Nat.lt_of_lt_of_le h1 hf)
    · exact I.nofs hf e
  refine PySem.W.kla_eval hdef ?_
  cases hc : codeAmong lpos ps.toList with
  | none =>
    refine PySem.W.kla_makeFunction (mg := X.mg) (P := P) (ps := ps) (closure_ok hfree) I.ok.glob (I.mod.glob.keeps I.bk) hcode (TB.code.keeps I.bk) (I.hok P _ hP) ht hc TB.gP (TB.bm.keeps I.bk) ?_
    intro c' ctv h' tk hx hge hlt hrec htb
    obtain ⟨c2, oc, vs, t, e2, hoc, hd, hv⟩ := hrec
    cases e2
    have nC : w.hp c' = none := I.hok.fresh hge
    have nPc : P ≠ c' := ne_of_none hP nC
    have I1 := inv_grow (t' := tk) (more := #[rawInt lpos.line, rawInt lpos.col, .ref c']) (h' := h'.push (PySem.W.kla_obj "<lambda>" (X.env.qual ++ "<lambda>") params body scope (cloFrom X.env.cells scope.names []) ((X.mg "__name__").getD .none) c' ctv)) I hP (fun b o hb e => Heap.get?_push_of_some _ (hx b o hb e)) (Heap.get?_push_of_some _ htb) hge (Heap.get?_push_of_some _ hoc) hd hv
    have cIn : ∀ a, a ∈ w.al → a ≠ c' := fun a h z => by
      obtain ⟨o, e⟩ := R.tr a h
      rw [z, nC] at e; cases e
    have hidIn : ∀ a, a ∈ w.hid → a ≠ c' ∧ a ≠ P := fun a h => by
      obtain ⟨h1, o, e⟩ := R.hid a h
      exact ⟨(fun z => by rw [z, nC] at e; cases e), fun z => h1 (by rw [z]; exact List.mem_of_getElem? hal)⟩
    have X1 : Ext w { w with hp := upd (upd w.hp P (.tbl (ps ++ #[rawInt lpos.line, rawInt lpos.col, .ref c']))) c' (codeZ c' (X.env.qual ++ "<lambda>") oc) } := by
      refine ⟨⟨⟨[], by simp⟩, fun a h => .inl h, fun a o e z => ?_, fun a o e => ?_⟩, rfl, fun a h => ?_, fun n a cc g1 g2 g3 => ⟨g2, ?_⟩⟩
      · show upd (upd _ _ _) _ _ a = _
        rw [upd_ne (ne_of_none e nC), upd_ne (fun q => z (by rw [q]; exact zP))]; exact e
      · by_cases hb : a = P
        · exact ⟨.tbl (ps ++ #[rawInt lpos.line, rawInt lpos.col, .ref c']), by show upd (upd _ _ _) _ _ a = _; rw [hb, upd_ne nPc, upd_same]⟩
        · exact ⟨o, by show upd (upd _ _ _) _ _ a = _; rw [upd_ne (ne_of_none e nC), upd_ne hb]; exact e⟩
      · show upd (upd _ _ _) _ _ a = _
        rw [upd_ne (hidIn a h).1, upd_ne (hidIn a h).2]
      · show upd (upd _ _ _) _ _ a = _
        rw [upd_ne (cIn a (List.mem_of_getElem? g1)), upd_ne fun z => ?_]
        subst z
        cases nd_get R.nd g1 hal
        cases g2.symm.trans hT
        cases g3
    have nzC : ¬ Zl { w with hp := upd (upd w.hp P (.tbl (ps ++ #[rawInt lpos.line, rawInt lpos.col, .ref c']))) c' (codeZ c' (X.env.qual ++ "<lambda>") oc) } c' := by
      rintro (⟨n, cc, g1, _, _⟩ | g)
      · exact cIn c' (List.mem_of_getElem? g1) rfl
      · exact (hidIn c' g).1 rfl
    have R1 : Rep X.K X.mg { w with hp := upd (upd w.hp P (.tbl (ps ++ #[rawInt lpos.line, rawInt lpos.col, .ref c']))) c' (codeZ c' (X.env.qual ++ "<lambda>") oc) } := by
      refine ⟨R.len, R.nd, fun a h => ?_, fun n a cc g1 g2 => ?_, fun a h => ?_⟩
      · obtain ⟨o, e⟩ := R.tr a h
        exact X1.tr a o e
      · by_cases hb : a = P
        · subst hb
          cases nd_get R.nd g1 hal
          cases g2.symm.trans hT
          have eL : (ps ++ #[rawInt lpos.line, rawInt lpos.col, Value.ref c']).toList = ps.toList ++ [rawInt lpos.line, rawInt lpos.col, Value.ref c'] := by simp
          refine ⟨eP, _, by show upd (upd _ _ _) _ _ a = _; rw [upd_ne nPc, upd_same], by rw [eL]; exact PySem.TriplesOk_snoc _ _ _ _ ht, fun p' cv hcv => ?_⟩
          rw [eL] at hcv
          rcases LamX.among_app _ ht hcv with z | z
          · obtain ⟨c0, o0, e1, e2, e3⟩ := ha p' cv z
            exact ⟨c0, o0, e1, X1.keep _ _ e2 e3, e3⟩
          · exact ⟨c', oc, z, upd_same, nzC⟩
        · refine (R.cell n a cc g1 g2).ext X1.toEx0 ?_
          show upd (upd _ _ _) _ _ a = _
          rw [upd_ne (cIn a (List.mem_of_getElem? g1)), upd_ne hb]
      · obtain ⟨h1, o, e⟩ := R.hid a h
        exact ⟨h1, X1.tr a o e⟩
    have hsz : s.heap.objs.size ≤ h'.objs.size := Nat.le_trans hge (Nat.le_of_lt hlt)
    refine h h'.objs.size c' oc ((X.mg "__name__").getD .none) ctv _ _ I1 X1 R1 rfl (Heap.get?_push_size _ rfl) ?_ (out _ hsz) upd_same
    show upd (upd _ _ _) _ _ _ = none
    have n2 : h'.objs.size ≠ P := Nat.ne_of_gt (Nat.lt_of_lt_of_le (Heap.lt_size (show s.heap.get? P = some _ from I.hok P _ hP)) hsz)
    rw [upd_ne (Nat.ne_of_gt hlt), upd_ne n2]
    exact I.hok.fresh hsz
  | some cv =>
    obtain ⟨c', oc, rfl, hco, _⟩ := ha lpos cv hc
    refine PySem.W.kla_makeFunctionHit (mg := X.mg) (P := P) (ps := ps) (closure_ok hfree) I.ok.glob (I.mod.glob.keeps I.bk) hcode (TB.code.keeps I.bk) (I.hok P _ hP) ht hc (TB.bm.keeps I.bk) ?_
    intro ctv h' tk hx hsz
    exact h h'.objs.size c' oc ((X.mg "__name__").getD .none) ctv w _ (I.kept fun b o e => Heap.get?_push_of_some _ (hx b o e)) (Ext.refl w) R rfl (Heap.get?_push_size _ rfl) (I.hok.fresh hsz) (out _ hsz) hco
end
end G
namespace G
open PySem L2 PySem.Spec PyProof.Rows
structure LamP (sc scope : Scope) (prm : Option Str) (caps : List Str) : Prop where
  kind : scope.kind = .function
  co : scope.isCoroutine = false
  gen : scope.isGenerator = false
  cell : ∀ y ∈ scope.names, y.2 ≠ .cell
  loc : ∀ y ∈ scope.names, y.2 = .local → prm = some y.1
  par : ∀ x, prm = some x → scope.names.lookup x = some .local
  free : ∀ y ∈ scope.names, y.2 = .free → sc.names.lookup y.1 = some .cell ∨ sc.names.lookup y.1 = some .free
  cap : ∀ y ∈ caps, scope.names.lookup y = some .free
def lamPB (sc scope : Scope) (prm : Option Str) (caps : List Str) : Bool :=
  decide (scope.kind = .function) && (!scope.isCoroutine && (!scope.isGenerator && ((scope.names.all fun y => !decide (y.2 = .cell) && ((!decide (y.2 = .local) || decide (prm = some y.1)) && (!decide (y.2 = .free) || (decide (sc.names.lookup y.1 = some .cell) || decide (sc.names.lookup y.1 = some .free))))) &&
    ((match prm with | some x => decide (scope.names.lookup x = some .local) | none => true) && caps.all fun y => decide (scope.names.lookup y = some .free)))))
theorem lamP_by {sc scope : Scope} {prm : Option Str} {caps : List Str} (h : lamPB sc scope prm caps = true) : LamP sc scope prm caps := by
  unfold lamPB at h
  simp only [Bool.and_eq_true, decide_eq_true_eq, Bool.not_eq_true', List.all_eq_true, Bool.or_eq_true, decide_eq_false_iff_not] at h
  obtain ⟨h1, h2, h3, h4, h5, h6⟩ := h
  refine ⟨h1, h2, h3, fun y hy => (h4 y hy).1, fun y hy e => ?_, fun x e => ?_, fun y hy e => ?_, h6⟩
  · rcases (h4 y hy).2.1 with z | z
    · exact absurd e z
    · exact z
  · subst e
    exact of_decide_eq_true h5
  · rcases (h4 y hy).2.2 with z | z
    · exact absurd e z
    · exact z
def lamC (X : Cx) (A : Around) (outer : List Env) (s : Shared) (H : Hp) (E : XK) (scope : Scope) (f c' : Addr) (N' : List Str) : Cx := { LamX.lamCx X A outer s H E scope f c' with N := N' }
abbrev lamN (X : Cx) (prm : Option Str) (js : List Nat) : List Str := prm.toList ++ js.map fun j => X.N.getD j Str.empty
section
variable {X : Cx} {pins : List (Addr × Obj)} {σ : L2.St} {H HZ : Hp} {s s1 : Shared}
theorem lam_inv {A : Around} {outer : List Env} {E : XK} {scope : Scope} {f c' : Addr} {prm : Option Str} {js : List Nat} {h₁ : Heap} {tk : Nat} {us : List Value} {vs : List V}
    (I : L2.Inv X pins σ H s) (L : LamP X.env.scope scope prm (js.map fun j => X.N.getD j Str.empty)) (e0 : Env0 X.prog X.w X.K X.mg X.base A outer s1 HZ) (hd : A.handled = none) (un : Un (frs X.stack) [] H HZ s.heap s1.heap) (hj : ∀ j ∈ js, j < X.N.length) (r : Vals vs us) (hl : vs.length = prm.toList.length)
    (hns : h₁.Ns s1.heap.objs.size fun y => (prm.toList.zip us).reverse.lookup y) (kp : ∀ b o, s1.heap.get? b = some o → h₁.get? b = some o) :
    L2.Inv (lamC X A outer s1 HZ E scope f c' (lamN X prm js)) [] (vs.map some ++ js.map fun j => (σ[j]?).join) HZ { s1 with heap := h₁, toks := tk } := by
  have hcell : ∀ y ∈ scope.names, y.2 = .free → ∃ c, X.env.cells.lookup y.1 = some c := by
    intro y hy e
    rcases L.free y hy e with z | z
    · exact I.ok.has _ (.inl z)
    · exact I.ok.has _ (.inr z)
  have up : ∀ {y c}, (cloFrom X.env.cells scope.names []).lookup y = some c → X.env.cells.lookup y = some c := by
    intro y c e
    rcases cloFrom_mem (PySem.mem_of_lookup e) with z | ⟨z1, z2⟩
    · cases z
    · obtain ⟨c1, hc1⟩ := hcell _ z1 rfl
      have hc1 : X.env.cells.lookup y = some c1 := hc1
      rw [hc1] at z2
      have z3 : c = c1 := z2
      rw [z3]; exact hc1
  have down : ∀ {y}, scope.names.lookup y = some .free → ∃ c, (cloFrom X.env.cells scope.names []).lookup y = some c := by
    intro y e
    exact mem_lookup (cloFrom_has (cells := X.env.cells) (acc := []) (PySem.mem_of_lookup e))
  have stays : ∀ {c : Addr} {v : Option Value}, H c = none → s.heap.IsCell c v → h₁.IsCell c v := by
    rintro c v n ⟨o, ho, hd⟩
    obtain ⟨sl, q⟩ := un.any ho n (by simp)
    exact ⟨_, kp _ _ q, hd⟩
  have noex : ∀ b : Addr, b ∉ (lamC X A outer s1 HZ E scope f c' (lamN X prm js)).ex := fun b z => by cases (show b ∈ ([] : List Addr) from z)
  constructor
  · refine ⟨e0.mod, L.kind, rfl, rfl, Nat.le_refl _, ?_, ?_, ?_, fun _ => hd, Around.frames_deeper e0.frames, .inr ⟨rfl, rfl⟩, fun b z => absurd z (noex b), e0.bs, e0.bsz, fun b _ _ => noex b, fun b z => absurd z (noex b), e0.funs, e0.frf⟩
    · exact fun y z c g1 g2 => I.ok.inj y z c (up g1) (up g2)
    · intro y hy
      rcases hy with hy | hy
      · exact absurd rfl (L.cell _ (PySem.mem_of_lookup (show scope.names.lookup y = some .cell from hy)))
      · exact down hy
    · intro y c z
      cases (show false = true from z)
  · rfl
  · exact e0.bare
  · exact Un.kept kp
  · refine ⟨_, hns, fun i y v g1 g2 g3 => ?_⟩
    have g1 : (prm.toList ++ js.map fun j => X.N.getD j Str.empty)[i]? = some y := g1
    have g3 : Vis scope y := g3
    by_cases hi : i < prm.toList.length
    · cases prm with
      | none => exact absurd hi (by simp)
      | some x =>
        have hi0 : i = 0 := by simpa using hi
        subst hi0
        have ey : x = y := Option.some.inj g1
        subst ey
        obtain ⟨v0, rfl⟩ : ∃ v0, vs = [v0] := List.length_eq_one_iff.mp hl
        cases r with
        | cons r1 r2 =>
          cases r2
          have ev : v0 = v := Option.some.inj (Option.some.inj g2)
          subst ev
          exact ⟨_, r1, .inl ⟨L.par x rfl, List.lookup_cons_self⟩⟩
    · rw [List.getElem?_append_right (by omega), List.getElem?_map] at g1
      rw [List.getElem?_append_right (by rw [List.length_map, hl]; omega), List.length_map, hl, List.getElem?_map] at g2
      cases hjt : js[i - prm.toList.length]? with
      | none => rw [hjt] at g1; cases g1
      | some j =>
        rw [hjt] at g1 g2
        have hjl := hj j (List.mem_of_getElem? hjt)
        have ey : X.N.getD j Str.empty = y := by simpa using g1
        have hNj : X.N[j]? = some y := by rw [← ey, List.getD_eq_getElem?_getD, List.getElem?_eq_getElem hjl]; rfl
        have hσ : σ[j]? = some (some v) := by
          have z : (σ[j]?).join = some v := by simpa using g2
          cases q : σ[j]? with
          | none => rw [q] at z; cases z
          | some o => rw [q] at z; cases o with
            | none => cases z
            | some v' => cases z; rfl
        have hy : scope.names.lookup y = some .free := L.cap y (List.mem_map.mpr ⟨j, List.mem_of_getElem? hjt, ey⟩)
        obtain ⟨m, hn, hloc⟩ := I.loc
        have fr := L.free _ (PySem.mem_of_lookup hy) rfl
        obtain ⟨u, ru, q⟩ := hloc j y v hNj hσ (fr.elim (fun z => .inr (.inl z)) fun z => .inr (.inr z))
        obtain ⟨c2, h2⟩ := down hy
        refine ⟨u, ru, .inr ⟨.inr hy, c2, h2, ?_⟩⟩
        have h2' := up h2
        rcases q with ⟨z, _⟩ | ⟨_, c3, z, zc⟩
        · have z : X.env.scope.names.lookup y = some .local := z
          rcases fr with k2 | k2 <;> rw [show X.env.scope.names.lookup y = _ from k2] at z <;> cases z
        · rw [h2'] at z
          cases z
          exact stays (I.freeC y _ h2') zc
  · intro y c g
    obtain ⟨v, z⟩ := I.cell y c (up g)
    exact ⟨v, stays (I.freeC y c (up g)) z⟩
  · exact e0.hok.fresh (Nat.le_refl _)
  · intro y c g
    obtain ⟨v, o, ho, _⟩ := I.cell y c (up g)
    exact un.free c o ho (I.freeC y c (up g)) (by simp)
  · intro p hp
    cases (show p ∈ ([] : List (Addr × Obj)) ++ [] from hp)
  · exact e0.hok.kept kp
  · show (vs.map some ++ js.map fun j => (σ[j]?).join).length = (prm.toList ++ js.map fun j => X.N.getD j Str.empty).length
    simp [hl]
def lamF (js : List Nat) (np : Nat) (mb : EM) : En → FM := fun en ds S => if ds.length = np then mb (ds.map some ++ js.map fun j => oj en[j]?) S else .stuck
def capV (σ : L2.St) (js : List Nat) : List V := js.map fun j => ((σ[j]?).join).getD .non
theorem oj_some {o : Option (Option D)} {d : D} (h : oj o = some d) : o = some (some d) := by
  unfold oj at h
  split at h
  · rw [Option.some.inj h]
  · cases h
theorem capV_get {w : Wo} {en : En} {js : List Nat} {t j : Nat} {d : D} (E : RepE X.K X.mg w en σ) (hj : js[t]? = some j) (h : oj en[j]? = some d) : ∃ v, σ[j]? = some (some v) ∧ (capV σ js)[t]? = some v ∧ RepD X.K X.mg w d v := by
  obtain ⟨v, q, r⟩ := E.get j d (oj_some h)
  refine ⟨v, q, ?_, r⟩
  unfold capV
  rw [List.getElem?_map, hj]
  show some (((σ[j]?).join).getD .non) = some v
  rw [q]; rfl
theorem cp_get {en : En} {js : List Nat} {vs : List V} {t : Nat} {d' : D} (hl : vs.length = js.length) (h : (cpOf js en vs)[t]? = some (some d')) : ∃ j v d, js[t]? = some j ∧ vs[t]? = some v ∧ oj en[j]? = some d ∧ d' = .pin v d := by
  unfold cpOf at h
  by_cases ht : t < js.length
  · rw [List.getElem?_append_left (by simp [hl, ht]), List.getElem?_map] at h
    have e : (js.zip vs)[t]? = some (js[t], vs[t]) := by
      rw [List.getElem?_zip_eq_some]
      exact ⟨List.getElem?_eq_getElem ht, List.getElem?_eq_getElem (by omega)⟩
    rw [e] at h
    have h : (oj en[js[t]]?).map (D.pin vs[t]) = some d' := Option.some.inj h
    obtain ⟨d, h1, h2⟩ := Option.map_eq_some_iff.mp h
    exact ⟨_, _, d, List.getElem?_eq_getElem ht, List.getElem?_eq_getElem (by omega), h1, h2.symm⟩
  · rw [List.getElem?_append_right (by simp [hl]; omega), List.getElem?_replicate] at h
    split at h <;> cases h
theorem cp_at {en : En} {js : List Nat} {vs : List V} {t j : Nat} {v : V} {d : D} (hl : vs.length = js.length) (hj : js[t]? = some j) (hv : vs[t]? = some v) (h : oj en[j]? = some d) : (cpOf js en vs)[t]? = some (some (.pin v d)) := by
  have ht := (List.getElem?_eq_some_iff.mp hj).1
  unfold cpOf
  rw [List.getElem?_append_left (by simp [hl, ht]), List.getElem?_map, (List.getElem?_zip_eq_some.mpr ⟨hj, hv⟩ : (js.zip vs)[t]? = some (j, v))]
  show some ((oj en[j]?).map (D.pin v)) = _
  rw [h]; rfl
theorem cp_rep {w : Wo} {en : En} {js : List Nat} (E : RepE X.K X.mg w en σ) (h4 : js.length ≤ 4) : RepE X.K X.mg w (cpOf js en (capV σ js)) ((capV σ js).map some ++ List.replicate (4 - js.length) none) := by
  have hl : (capV σ js).length = js.length := by unfold capV; simp
  refine ⟨by rw [cpOf_len hl h4]; simp [hl]; omega, fun t d' h => ?_⟩
  obtain ⟨j, v, d, h1, h2, h3, rfl⟩ := cp_get hl h
  obtain ⟨v', q1, q2, r⟩ := capV_get E h1 h3
  cases q2.symm.trans h2
  refine ⟨v, ?_, .pin r⟩
  rw [List.getElem?_append_left (by rw [List.length_map]; exact (List.getElem?_eq_some_iff.mp h2).1), List.getElem?_map, h2]
  rfl
theorem lam_slots {w1 w : Wo} {en enZ : En} {σZ : L2.St} {js : List Nat} {nN : Nat} {ds : List D} {vs : List V} (E1 : RepE X.K X.mg w1 en σ) (EZ : RepE X.K X.mg w enZ σZ) (hz : enZ.drop nN = cpOf js en (capV σ js)) (rl : RepL X.K X.mg w ds vs) :
    RepE X.K X.mg w (ds.map some ++ js.map fun j => oj en[j]?) (vs.map some ++ js.map fun j => (σ[j]?).join) := by
  have hl : (capV σ js).length = js.length := by unfold capV; simp
  refine RepE.join ⟨by rw [List.length_map, List.length_map, rl.length], fun t d h => ?_⟩ ⟨by simp, fun t d h => ?_⟩
  · rw [List.getElem?_map] at h
    cases q : ds[t]? with
    | none => rw [q] at h; cases h
    | some d0 =>
      rw [q] at h
      cases h
      obtain ⟨v, e, r⟩ := rl.get q
      exact ⟨v, by rw [List.getElem?_map, e]; rfl, r⟩
  · rw [List.getElem?_map] at h
    cases hj : js[t]? with
    | none => rw [hj] at h; cases h
    | some j =>
      rw [hj] at h
      have ho : oj en[j]? = some d := Option.some.inj h
      obtain ⟨v, q1, q2, _⟩ := capV_get E1 hj ho
      have hc := cp_at hl hj q2 ho
      rw [← hz, List.getElem?_drop] at hc
      obtain ⟨v', _, rp⟩ := EZ.get _ _ hc
      cases rp with
      | pin r => exact ⟨v, by rw [List.getElem?_map, hj]; show some ((σ[j]?).join) = _; rw [q1]; rfl, r⟩
end
end G
namespace G
open PySem L2 PySem.Spec PyProof.Rows
section
variable {X : Cx} {pins : List (Addr × Obj)} {σ : L2.St} {s1 : Shared} {w1 : Wo} {params : Arguments} {body : Expr} {scope : Scope} {prm : Option Str} {js : List Nat} {mb : EM} {q : Str} {f c' : Addr} {oc : Obj} {pm ctv : Value} {en : En} {kb : Nat}
theorem lam_call {Ng : List Str} {qg : Str} {sg : Scope} {g : Addr} {cdg : Value} {Eg : XK} {pn : List (Addr × Obj)} {xe : Value → Shared → Prop} {W : WX} {j : Nat} {pinsZ : List (Addr × Obj)} {σZ : L2.St} {s3 : Shared} {w3 : Wo} {enZ : En} {us : List Value} {vs : List V} {ds : List D} {Q : VK} {nN : Nat}
    (I1 : L2.Inv X pins σ w1.hp s1) (E1 : RepE X.K X.mg w1 en σ) (L : LamP X.env.scope scope prm (js.map fun j => X.N.getD j Str.empty)) (hj : ∀ j ∈ js, j < X.N.length) (hnd : (lamN X prm js).Nodup) (hq : X.env.qual ++ "<lambda>" = q)
    (hf : s1.heap.get? f = some (PySem.W.kla_obj "<lambda>" q params body scope (cloFrom X.env.cells scope.names []) pm c' ctv)) (hfn : w1.hp f = none) (hfr : f ∉ frs X.stack) (hc : w1.hp c' = some (codeZ c' q oc))
    (hbind : ∀ (us : List Value), us.length = prm.toList.length → bindArgs (PySem.W.kla_fn "<lambda>" q params body scope (cloFrom X.env.cells scope.names []) pm (.ref c') ctv) ⟨us, []⟩ = pure (prm.toList.zip us))
    (hbody : ∀ (A : Around) (outer : List Env) (s : Shared) (H : Hp) (E : XK), Cg (lamC X A outer s H E scope f c' (lamN X prm js)) (fun cls d _ H' => E cls d H') kb → RE (lamC X A outer s H E scope f c' (lamN X prm js)) (fun cls d _ H' => E cls d H') body mb)
    (c : Cg ((cxOf (L2.CX X.prog X.w) X.prog X.w X.K X.mg X.base (Ng ++ ph4) qg sg g cdg X.A X.stack s1 w1.hp Eg).tr pn xe) W j) (hk : kb + 1 ≤ j) (I3 : L2.Inv ((cxOf (L2.CX X.prog X.w) X.prog X.w X.K X.mg X.base (Ng ++ ph4) qg sg g cdg X.A X.stack s1 w1.hp Eg).tr pn xe) pinsZ σZ w3.hp s3)
    (R3 : Rep X.K X.mg w3) (EZ : RepE X.K X.mg w3 enZ σZ) (hz : enZ.drop nN = cpOf js en (capV σ js)) (rv : Vals vs us) (rl : RepL X.K X.mg w3 ds vs) (hlen : ds.length = prm.toList.length)
    (P3 : Post (RepD X.K X.mg) X.K X.mg w3 (mb (ds.map some ++ js.map fun j => oj en[j]?) w3.st) Q (WE W σZ)) :
    wpAny (model X.prog X.w) ((cxOf (L2.CX X.prog X.w) X.prog X.w X.K X.mg X.base (Ng ++ ph4) qg sg g cdg X.A X.stack s1 w1.hp Eg).tr pn xe).A (call (.ref f) us) (EP ((cxOf (L2.CX X.prog X.w) X.prog X.w X.K X.mg X.base (Ng ++ ph4) qg sg g cdg X.A X.stack s1 w1.hp Eg).tr pn xe) pinsZ σZ Q) ((cxOf (L2.CX X.prog X.w) X.prog X.w X.K X.mg X.base (Ng ++ ph4) qg sg g cdg X.A X.stack s1 w1.hp Eg).tr pn xe).xe s3 := by
  subst hq
  have un : Un (frs X.stack) [] w1.hp w3.hp s1.heap s3.heap := I3.base
  have of3 := un.keep f _ hf hfn hfr (fun z => by cases z)
  obtain ⟨_, ⟨oc2, vs2, t2, e1, e2, e3⟩, _⟩ := I3.hok c' _ (un.frzs c' _ _ hc)
  have hlv : vs.length = prm.toList.length := by rw [← rl.length]; exact hlen
  have hlu : us.length = prm.toList.length := by rw [← rv.length]; exact hlv
  have rm := c.rm.mono hk
  have rc : codeAny (model X.prog X.w) (X.A.deeper (envOfC qg sg s1.heap.objs.size g cdg)) (.call (.ref f) ⟨us, []⟩) (CR (L2.CX X.prog X.w) (envOfC qg sg s1.heap.objs.size g cdg :: X.stack) X.prog X.w w3.hp s3 Q (WE W σZ)) s3 := by
    refine PySem.W.kla_callFunE rm.r.depth of3 rfl L.co L.gen rfl ⟨c', oc2, vs2, t2, rfl, e1, e2, e3⟩ ?_
    rw [hbind us hlu]
    refine wpAny_pure (wpAny_newFunctionEnv (fun y hy => L.cell y hy) ?_ ?_ L.kind)
    · rintro ⟨y, u⟩ hy
      have hm := (List.of_mem_zip hy).1
      exact L.par y (by simpa using hm)
    · intro h₁ hns hsb
      refine ⟨I3.nolimit.fresh _ hsb, ?_⟩
      show codeAny _ _ (.expr body (LamX.lamEnv X scope s3.heap.objs.size f c')) _ _
      have kp : ∀ b o, s3.heap.get? b = some o → h₁.get? b = some o := fun b o e => hsb.extBut b o (Nat.ne_of_lt (Heap.lt_size e)) (Heap.get?_push_of_some _ e)
      have J := lam_inv (A := X.A.deeper (envOfC qg sg s1.heap.objs.size g cdg)) (outer := envOfC qg sg s1.heap.objs.size g cdg :: X.stack) (E := WE W σZ) (f := f) (c' := c') (tk := s3.toks + (prm.toList.zip us).length) I1 L I3.env0 rm.r.hd un hj rv hlv hns kp
      have cg : Cg (lamC X (X.A.deeper (envOfC qg sg s1.heap.objs.size g cdg)) (envOfC qg sg s1.heap.objs.size g cdg :: X.stack) s3 w3.hp (WE W σZ) scope f c' (lamN X prm js)) (fun cls d _ H' => WE W σZ cls d H') kb := ⟨rfl, hnd, takes_of rfl rfl rfl rfl, passes_of rfl, ⟨rm.r.deeper _, rm.gd⟩, rfl, rfl, rfl⟩
      refine PySem.W.kla_codeExpr (wpAny_mono ((hbody _ _ s3 w3.hp (WE W σZ) cg).run [] _ _ w3.hp Q J ⟨w3, _, rfl, R3, lam_slots E1 EZ hz rl, P3⟩) ?_ fun e s' hq => hq)
      rintro v s' ⟨v', H', J', rv', q'⟩
      exact ⟨v', H', J'.os, J'.bare, J'.base, J'.hok, rv', q'⟩
  refine wpAny_call (codeAny_mono rc fun r s' hq => ?_)
  cases r with
  | error e => exact passAt c.tk σZ pinsZ w3.hp s3 e s' I3 hq
  | ok fl =>
    cases fl with
    | ret u => exact I3.after hq
    | next => exact False.elim hq
    | brk => exact False.elim hq
    | cont => exact False.elim hq
theorem act_lam {Ng : List Str} {qg : Str} {sg : Scope} {g : Addr} {cdg : Value} {Eg : XK} {a : Str} {i : Nat}
    (I1 : L2.Inv X pins σ w1.hp s1) (E1 : RepE X.K X.mg w1 en σ) (L : LamP X.env.scope scope prm (js.map fun j => X.N.getD j Str.empty)) (hj : ∀ j ∈ js, j < X.N.length) (hnd : (lamN X prm js).Nodup) (hq : X.env.qual ++ "<lambda>" = q)
    (hf : s1.heap.get? f = some (PySem.W.kla_obj "<lambda>" q params body scope (cloFrom X.env.cells scope.names []) pm c' ctv)) (hfn : w1.hp f = none) (hfr : f ∉ frs X.stack) (hc : w1.hp c' = some (codeZ c' q oc))
    (hbind : ∀ (us : List Value), us.length = prm.toList.length → bindArgs (PySem.W.kla_fn "<lambda>" q params body scope (cloFrom X.env.cells scope.names []) pm (.ref c') ctv) ⟨us, []⟩ = pure (prm.toList.zip us))
    (hbody : ∀ (A : Around) (outer : List Env) (s : Shared) (H : Hp) (E : XK), Cg (lamC X A outer s H E scope f c' (lamN X prm js)) (fun cls d _ H' => E cls d H') kb → RE (lamC X A outer s H E scope f c' (lamN X prm js)) (fun cls d _ H' => E cls d H') body mb)
    (hN : Ng[i]? = some a) (hv : Vis sg a) (hd : (a == ("__debug__" : Str)) = false) (hcd : (a == ("__classdict__" : Str)) = false) :
    Act (cxOf (L2.CX X.prog X.w) X.prog X.w X.K X.mg X.base (Ng ++ ph4) qg sg g cdg X.A X.stack s1 w1.hp Eg) a i f Ng.length (cpOf js en (capV σ js)) (lamF js prm.toList.length mb en) (kb + 1) := by
  have hN' : (Ng ++ ph4)[i]? = some a := by rw [List.getElem?_append_left (List.getElem?_eq_some_iff.mp hN).1]; exact hN
  constructor
  · intro pn xe W j c hk e m p1 p2 ha he
    refine ⟨fun pinsZ sZ σZ HZ Q IZ h => ?_⟩
    obtain ⟨w, enZ, rfl, R, E, P⟩ := h
    unfold eCallV at P
    split at P
    · rename_i hg
      refine wpAny_Call_Name_kw (slot_w (X := (cxOf (L2.CX X.prog X.w) X.prog X.w X.K X.mg X.base (Ng ++ ph4) qg sg g cdg X.A X.stack s1 w1.hp Eg).tr pn xe) hN' hv hd hcd IZ E hg.1 fun s2 I2 => ?_)
      have at_ : ∀ {σ' : L2.St} {H' : Hp} {s' : Shared} {pp : List (Addr × Obj)}, L2.Inv ((cxOf (L2.CX X.prog X.w) X.prog X.w X.K X.mg X.base (Ng ++ ph4) qg sg g cdg X.A X.stack s1 w1.hp Eg).tr pn xe) pp σ' H' s' → s'.heap.get? f = some (PySem.W.kla_obj "<lambda>" q params body scope (cloFrom X.env.cells scope.names []) pm c' ctv) := fun J =>
        (show Un (frs X.stack) [] w1.hp _ s1.heap _ from J.base).keep f _ hf hfn hfr (fun z => by cases z)
      refine PySem.W.callWith_F ⟨_, _, _, _, at_ I2⟩ (thn (ha.run p2 pinsZ s2 σZ w.hp _ I2 ⟨w, enZ, rfl, R, E, Post.bind P⟩) ?_) he (by rfl)
      rintro us s3 ⟨vs, H3, I3, rv, w3, ds, rfl, X3, R3, rl, P3⟩
      refine ⟨⟨_, _, _, _, at_ I3⟩, ?_⟩
      unfold lamF at P3
      split at P3
      · rename_i hlen
        exact lam_call I1 E1 L hj hnd hq hf hfn hfr hc hbind hbody c hk I3 R3 (E.ext X3.toEx0) hg.2 rv rl hlen P3
      · exact False.elim P3
    · exact False.elim P
  · intro pn xe W j c hk p1 p2
    refine ⟨fun pinsZ sZ σZ HZ Q IZ h => ?_⟩
    obtain ⟨w, enZ, rfl, R, E, P⟩ := h
    unfold eCallV at P
    split at P
    · rename_i hg
      refine wpAny_Call_Name_kw (slot_w (X := (cxOf (L2.CX X.prog X.w) X.prog X.w X.K X.mg X.base (Ng ++ ph4) qg sg g cdg X.A X.stack s1 w1.hp Eg).tr pn xe) hN' hv hd hcd IZ E hg.1 fun s2 I2 => ?_)
      have of2 := (show Un (frs X.stack) [] w1.hp _ s1.heap _ from I2.base).keep f _ hf hfn hfr (fun z => by cases z)
      refine PySem.W.callWith_F0 ⟨_, _, _, _, of2⟩ ?_
      replace P : Post (RepD X.K X.mg) X.K X.mg w (lamF js prm.toList.length mb en [] w.st) Q (WE W σZ) := P
      unfold lamF at P
      split at P
      · rename_i hlen
        exact lam_call (us := []) (vs := []) (ds := []) I1 E1 L hj hnd hq hf hfn hfr hc hbind hbody c hk I2 R E hg.2 .nil .nil hlen P
      · exact False.elim P
    · exact False.elim P
def tbS (nT : Nat) (p : Str × Option Str) (q : Str) : Store → Bool := fun S => match S[nT]? with
  | some (.tbl p' q') => decide (p' = p) && decide (q' = q)
  | _ => false
theorem tbS_at {nT : Nat} {p : Str × Option Str} {q : Str} {S : Store} (h : tbS nT p q S = true) : S[nT]? = some (.tbl p q) := by
  unfold tbS at h
  split at h
  · rename_i p' q' e
    rw [Bool.and_eq_true, decide_eq_true_eq, decide_eq_true_eq] at h
    rw [e, h.1, h.2]
  · cases h
theorem la_lam {nT : Nat} {p : Str × Option Str} {lpos : Pos} (L : LamP X.env.scope scope prm (js.map fun j => X.N.getD j Str.empty)) (hj : ∀ j ∈ js, j < X.N.length) (h4 : js.length ≤ 4) (hnd : (lamN X prm js).Nodup) (hq : X.env.qual ++ "<lambda>" = q)
    (TB : LamX.TabB X.base X.mg (He.cT X.K p).1 (He.cT X.K p).2) (hcode : X.env.code = .ref (He.cT X.K p).1) (hdef : defaultsOf params X.env = ([], []))
    (hbind : ∀ (cl : List (Str × Addr)) (pm cv ctv : Value) (us : List Value), us.length = prm.toList.length → bindArgs (PySem.W.kla_fn "<lambda>" q params body scope cl pm cv ctv) ⟨us, []⟩ = pure (prm.toList.zip us))
    (hbody : ∀ (A : Around) (outer : List Env) (s : Shared) (H : Hp) (E : XK) (f c' : Addr), Cg (lamC X A outer s H E scope f c' (lamN X prm js)) (fun cls d _ H' => E cls d H') kb → RE (lamC X A outer s H E scope f c' (lamN X prm js)) (fun cls d _ H' => E cls d H') body mb) :
    LA X (.Lambda params body scope lpos) js (lamF js prm.toList.length mb) (tbS nT p q) (kb + 1) := by
  refine ⟨fun pins s σ w en I R E ht => ?_⟩
  have hfree : ∀ y ∈ scope.names, y.2 = .free → ∃ c, X.env.cells.lookup y.1 = some c := by
    intro y hy e
    rcases L.free y hy e with z | z
    · exact I.ok.has _ (.inl z)
    · exact I.ok.has _ (.inr z)
  refine lam_new I R (tbS_at ht) hq TB hcode hdef hfree ?_
  intro f c' oc pm ctv w' s' I' X' R' st' hf hfn hfr hc
  refine ⟨f, capV σ js, w', rfl, I', X', R', st', by unfold capV; simp, cp_rep (E.ext X'.toEx0) h4, ?_⟩
  intro Ng qg sg g cdg Eg a i h5 h6 h7 h8
  exact act_lam I' (E.ext X'.toEx0) L hj hnd hq hf hfn hfr hc (hbind _ pm _ ctv) (fun A outer s H E' cg => hbody A outer s H E' f c' cg) h5 h6 h7 h8
end
end G
namespace G
open PySem L2 PySem.Spec PyProof.Rows
def st0 (ts : List Mk2) : Store := ts.map fun t => Cell.tbl t.1 t.2
def TBs (K : PySem.W.Frag) (mg : Str → Option Value) (base : Heap) (ts : List Mk2) : Prop := ∀ t ∈ ts, LamX.TabB base mg (He.cT K t.1).1 (He.cT K t.1).2
def spLawT (K : PySem.W.Frag) (ts : List Mk2) : Sp := fun vs H Q _ => ∃ (a : Addr) (ns : List Int), vs = [.ref a] ∧ SqL K H a (ns.map V.int) ∧ ns.length ≤ 63 ∧ (∀ b ∈ al0 K ts, H b = some (.tbl #[]) ∧ K.lookup b = none) ∧ ∀ H', Q (.bl true) H'
section
variable {P : Program} {w0 : World} {K : PySem.W.Frag} {mg : Str → Option Value} {base : Heap}
theorem law_okT {k : Nat} {f : Addr} {fd : FuncData} {x : Str} {m : Nat → FM} {ts : List Mk2} (hnd : (al0 K ts).Nodup) (F : ∀ N, FnG P w0 K mg base k f fd [x] (spM K mg 1 (m N)))
    (h : ∀ ns : List Int, ns.length ≤ 63 → ∃ N S, m N [.scr (ns.map .int)] (st0 ts) = .ok (.bl true) S) : FnG P w0 K mg base k f fd [x] (spLawT K ts) := by
  refine ⟨fun vs H Q E ⟨a, ns, e, _⟩ => by rw [e]; rfl, fun A outer s H args us vs Q E hr he hb hv hs => ?_⟩
  obtain ⟨a, ns, rfl, hq, hl, hT, hQ⟩ := hs
  obtain ⟨N, S, e⟩ := h ns hl
  have R0 : Rep K mg ⟨al0 K ts, st0 ts, H, []⟩ := by
    refine ⟨by unfold al0 st0; simp, hnd, fun b hb => ⟨_, (hT b hb).1⟩, fun n b c h1 h2 => ?_, (fun _ h => by cases h)⟩
    have h1 : (al0 K ts)[n]? = some b := h1
    have h2 : (st0 ts)[n]? = some c := h2
    unfold al0 at h1
    unfold st0 at h2
    rw [List.getElem?_map] at h1 h2
    cases q : ts[n]? with
    | none => rw [q] at h1; cases h1
    | some t =>
      rw [q] at h1 h2
      cases h1
      cases h2
      refine ⟨rfl, #[], (hT _ (List.mem_map.mpr ⟨t, List.mem_of_getElem? q, rfl⟩)).1, True.intro, fun pos cv hc => ?_⟩
      have z : codeAmong pos [] = some cv := hc
      simp [codeAmong] at z
  have hz : ¬ Zl ⟨al0 K ts, st0 ts, H, []⟩ a ∨ ∃ o its n, K.lookup a = some o ∧ o.cls = .type "list" ∧ o.dict = none ∧ o.data = .seq its n ∧ its.size ≤ sizeLine ∧ Vals (ns.map V.int) its.toList := by
    rcases hq with hq | hq
    · left
      rintro (⟨n, c, h1, _, _⟩ | z)
      · have hm : a ∈ al0 K ts := List.mem_of_getElem? h1
        have z := (hT a hm).1
        rcases hq with hq | ⟨o, hq⟩
        · rw [z] at hq; cases hq
        · rw [z] at hq; cases hq
      · cases z
    · obtain ⟨o, its, n, r⟩ := hq
      exact .inr ⟨o, its, n, r⟩
  refine (F N).run A outer s H args us _ Q E hr he hb hv ⟨rfl, ⟨al0 K ts, st0 ts, H, []⟩, [.scr (ns.map .int)], rfl, R0, .cons (.scr ?_ (ints_rep ns)) .nil, ?_⟩
  · rcases hz with hz | hz
    · rcases hq with hq | hq
      · exact .inl ⟨hq, hz⟩
      · exact .inr hq
    · exact .inr hz
  · rw [e]
    intro w' v _ _ _ r
    cases r
    exact hQ _
end
theorem obTT_eq (n : Nat) (fx : List Fx) (fn : List He.DefD) (tf : List He.Defn) (s : PySem.W.SharedT) : obTT n fx fn tf s = (hookT n fx fn tf).obs s.abs := by
  have e : HandSHeadRun.getT s = s.abs.heap.get? := funext (HandSHeadRun.getT_eq s)
  unfold obTT
  rw [e]
  rfl
section
variable {K : PySem.W.Frag} {mg : Str → Option Value}
theorem law_atT {P : Program} {w : World} {mb : Str → Option Value} {k : Nat} {fa a : Addr} {fd : FuncData} {x : Str} {t : Shared} {us : List Value} {ns : List Int} {H : Hp} {ts : List Mk2}
    (KX : K.In t.heap) (hns : t.heap.Ns mainGlobals mg) (hb : t.heap.Ns builtinsNs mb) (hbb : ∀ x : Str, x ≠ "__name__" → mb x = bootBuiltins x) (hlim : t.heap.NoLimit) (hg : t.gens = #[])
    (hbm : ∃ (bm : Addr) (ob : Obj), mg "__builtins__" = some (.ref bm) ∧ bm ≠ builtinsNs ∧ t.heap.get? bm = some ob ∧ ob.cls = .type "module" ∧ ob.dict = some builtinsNs ∧ ob.data = .plain)
    (hhd : ∀ q ∈ ts, PySem.W.codeHdIn K (He.cT K q.1).1 (He.cT K q.1).2 = true) (hout : ∀ b ∈ al0 K ts, K.lookup b = none) (hemp : ∀ b ∈ al0 K ts, t.heap.get? b = some { cls := .none, data := .fields #[] })
    (ha : t.heap.get? a = some { cls := .type "list", data := .seq us.toArray }) (hi : IntsAre us ns) (h63 : ns.length ≤ 63) (hr : Room k callerA)
    (F : ∀ base : Heap, K.In base → base.Ns mainGlobals mg → TBs K mg base ts → FnG P w K mg base k fa fd [x] (spLawT K ts)) (bind : ∀ (s : Shared) (u : Value), BindsTo s fd ⟨[u], []⟩ [(x, u)])
    (hH : ∀ b u, H b = some u → (b = a ∧ K.lookup a = none ∧ u = .frz { cls := .type "list", data := .seq us.toArray } (.lst (ns.map V.int))) ∨ (b ∈ al0 K ts ∧ u = .tbl #[])) (hHt : ∀ b ∈ al0 K ts, H b = some (.tbl #[])) (hS : SqL K H a (ns.map V.int)) :
    codeAny (model P w) callerA (.call (.ref fa) ⟨[.ref a], []⟩) (fun r s' => r = .ok (.ret (.bool true)) ∧ OldK t.heap s'.heap ∧ s'.os = t.os ∧ AllBare s'.gens) t := by
  have ok : HOk P w H t.heap := by
    intro b u z
    rcases hH b u z with ⟨rfl, _, rfl⟩ | ⟨hm, rfl⟩
    · exact ⟨ha, by rw [List.length_map]; exact Nat.le_trans h63 (by decide), us, _, vals_ints hi, ha⟩
    · exact hemp b hm
  have free : ∀ {b : Addr} {o : Obj}, t.heap.get? b = some o → (∀ its n, o.data ≠ .seq its n) → o.data ≠ .fields #[] → H b = none := by
    intro b o e d1 d2
    cases q : H b with
    | none => rfl
    | some u =>
      rcases hH b u q with ⟨rfl, _, _⟩ | ⟨hm, _⟩
      · rw [ha] at e
        cases e
        exact absurd rfl (d1 _ _)
      · rw [hemp b hm] at e
        cases e
        exact absurd rfl d2
  have keep : ∀ {b : Addr} {m : Str → Option Value}, t.heap.Ns b m → (hidT t.heap H).Ns b m := by
    rintro b m ⟨o, es, ep, e, d, r⟩
    exact ⟨o, es, ep, hidT_get e (free e (fun its n z => by rw [d] at z; cases z) fun z => by rw [d] at z; cases z), d, r⟩
  have kin : K.In (hidT t.heap H) := by
    intro b o e
    refine hidT_get (KX b o e) ?_
    cases q : H b with
    | none => rfl
    | some u =>
      rcases hH b u q with ⟨rfl, n, _⟩ | ⟨hm, _⟩
      · rw [n] at e; cases e
      · rw [hout b hm] at e; cases e
  have mem2 : ∀ q ∈ ts, (He.cT K q.1).2 ∈ al0 K ts := fun q hq => List.mem_map.mpr ⟨q, hq, rfl⟩
  have tbs : TBs K mg (hidT t.heap H) ts := by
    intro q hq
    have hP := hemp _ (mem2 q hq)
    refine ⟨PySem.W.codeHd_of_K kin (hhd q hq), ?_, fun z => ?_⟩
    · obtain ⟨bm, ob, b1, b2, b3, b4, b5, b6⟩ := hbm
      refine ⟨bm, ob, b1, b2, fun z => ?_, fun z => ?_, hidT_get b3 (free b3 (fun its n z => by rw [b6] at z; cases z) fun z => by rw [b6] at z; cases z), b4, b5, b6⟩
      · obtain ⟨o, es, ep, e, d, _⟩ := hns
        rw [z, e] at b3; cases b3
        rw [d] at b6; cases b6
      · rw [z, hP] at b3; cases b3; cases b6
    · obtain ⟨o, es, ep, e, d, _⟩ := hns
      rw [z, hP] at e; cases e; cases d
  obtain ⟨mc, l1, l2⟩ := hlim
  have md : Mod K mg (hidT t.heap H) := ⟨kin, keep hns, ⟨mb, keep hb, hbb⟩, ⟨mc, keep l1, l2⟩⟩
  have env : Env0 P w K mg (hidT t.heap H) callerA [] t H := ⟨rfl, md, fun b o e => of_hidT e, Nat.le_of_eq (hidT_size _ _), trivial, (fun b hb => by cases hb), ok, .of_eq hg⟩
  refine codeAny_mono ((F _ kin (keep hns) tbs).run callerA [] t H ⟨[.ref a], []⟩ [.ref a] [.ref a] (fun v _ => v = .bl true) (fun _ _ _ => False) ⟨hr, rfl⟩ env (bind t (.ref a)) (.cons rfl .nil) ⟨a, ns, rfl, hS, h63, fun b hm => ⟨hHt b hm, hout b hm⟩, fun _ => rfl⟩) ?_
  intro res s' z
  cases res with
  | error y =>
    obtain ⟨_, _, _, _, _, _, _, _, _, _, _, _, z⟩ := z
    exact False.elim z
  | ok fl =>
    cases fl with
    | ret u =>
      obtain ⟨v, H', hos, hbare, un, ok', rv, rfl⟩ := z
      cases rv
      have big : ∀ b ∈ al0 K ts, ∃ more : Array Value, s'.heap.get? b = some { cls := .none, data := .fields more } := by
        intro b hm
        obtain ⟨more, q⟩ := un.tbls b #[] (hHt b hm)
        exact ⟨_, ok' b _ q⟩
      have kept : ∀ b o, b ∉ al0 K ts → t.heap.get? b = some o → s'.heap.get? b = some o := by
        intro b o hm e
        cases q : H b with
        | none => exact un.keep b o e q (fun z => nomatch z) (by simp)
        | some u =>
          rcases hH b u q with ⟨_, _, rfl⟩ | ⟨h, _⟩
          · have c1 := (ok b _ q).1
            have c2 := (ok' b _ (un.frzs b _ _ q)).1
            rw [e] at c1
            cases c1
            exact c2
          · exact absurd h hm
      refine ⟨rfl, ⟨fun b o e => ?_, fun b o e => ?_⟩, hos, hbare⟩
      · by_cases hm : b ∈ al0 K ts
        · obtain ⟨q, hq, rfl⟩ := List.mem_map.mp hm
          obtain ⟨more, hmo⟩ := big _ hm
          rw [hemp _ hm] at e
          cases e
          exact .inr (.inl ⟨((PySem.W.codeHd_of_K KX (hhd q hq)).tab (hemp _ hm)).isCodeTable, rfl, #[], more, rfl, by rw [Array.empty_append]; exact hmo⟩)
        · exact .inl (kept b o hm e)
      · by_cases hm : b ∈ al0 K ts
        · obtain ⟨more, hmo⟩ := big b hm
          exact ⟨_, hmo⟩
        · exact ⟨o, kept b o hm e⟩
    | _ => exact False.elim z
theorem law_callT {P : Program} {w : World} {mb : Str → Option Value} {k : Nat} {fa a : Addr} {fd : FuncData} {x : Str} {t : Shared} {us : List Value} {ns : List Int} {ts : List Mk2}
    (KX : K.In t.heap) (hns : t.heap.Ns mainGlobals mg) (hb : t.heap.Ns builtinsNs mb) (hbb : ∀ x : Str, x ≠ "__name__" → mb x = bootBuiltins x) (hlim : t.heap.NoLimit) (hg : t.gens = #[])
    (hbm : ∃ (bm : Addr) (ob : Obj), mg "__builtins__" = some (.ref bm) ∧ bm ≠ builtinsNs ∧ t.heap.get? bm = some ob ∧ ob.cls = .type "module" ∧ ob.dict = some builtinsNs ∧ ob.data = .plain)
    (hhd : ∀ q ∈ ts, PySem.W.codeHdIn K (He.cT K q.1).1 (He.cT K q.1).2 = true) (hout : ∀ b ∈ al0 K ts, K.lookup b = none) (hemp : ∀ b ∈ al0 K ts, t.heap.get? b = some { cls := .none, data := .fields #[] })
    (ha : t.heap.get? a = some { cls := .type "list", data := .seq us.toArray }) (hi : IntsAre us ns) (h63 : ns.length ≤ 63) (hr : Room k callerA)
    (F : ∀ base : Heap, K.In base → base.Ns mainGlobals mg → TBs K mg base ts → FnG P w K mg base k fa fd [x] (spLawT K ts)) (bind : ∀ (s : Shared) (u : Value), BindsTo s fd ⟨[u], []⟩ [(x, u)]) :
    codeAny (model P w) callerA (.call (.ref fa) ⟨[.ref a], []⟩) (fun r s' => r = .ok (.ret (.bool true)) ∧ OldK t.heap s'.heap ∧ s'.os = t.os ∧ AllBare s'.gens) t := by
  have rv := vals_ints hi
  have aT : a ∉ al0 K ts := fun z => by
    have q := hemp a z
    rw [ha] at q
    cases q
  cases hk : K.lookup a with
  | some o =>
    have e := KX a o hk
    rw [ha] at e
    cases e
    refine law_atT (H := fun b => if b ∈ al0 K ts then some (.tbl #[]) else none) KX hns hb hbb hlim hg hbm hhd hout hemp ha hi h63 hr F bind (fun b u z => ?_) (fun b hm => if_pos hm) (.inr ⟨_, us.toArray, _, hk, rfl, rfl, rfl, ?_, by simpa using rv⟩)
    · split at z
      · cases z
        exact .inr ⟨by assumption, rfl⟩
      · cases z
    · rw [List.size_toArray, hi.length]
      exact Nat.le_trans h63 (by decide)
  | none =>
    refine law_atT (H := fun b => if b = a then some (.frz { cls := .type "list", data := .seq us.toArray } (.lst (ns.map V.int))) else if b ∈ al0 K ts then some (.tbl #[]) else none) KX hns hb hbb hlim hg hbm hhd hout hemp ha hi h63 hr F bind (fun b u z => ?_) (fun b hm => ?_) (.inl (.inr ⟨_, if_pos rfl⟩))
    · split at z
      · rename_i e
        cases z
        exact .inl ⟨e, hk, rfl⟩
      · split at z
        · cases z
          exact .inr ⟨by assumption, rfl⟩
        · cases z
    · show (if b = a then _ else _) = _
      rw [if_neg (fun z => aT (by rw [← z]; exact hm)), if_pos hm]
theorem walk_endT {l : PySem.W.OpenLaw} {k : Nat} {q : Program} {loose : List Str} {XP : (Str → Option Value) → Heap → Prop} {YP : World → Heap → Prop} {d : DefRec} {x : Str} {fx : List Fx} {fn : List He.DefD} {ts : List Mk2}
    (hn : l.most = some 63) (hdf : d.params.defaults = []) (hd : d.name = "law") (hr : Room k callerA) (hY : ∀ (w : World) (h : Heap), YP w h → ∃ K : PySem.W.Frag, K.In h ∧ SaysT fx fn (ts.map (·.1)) h K)
    (F : ∀ (w : World) (mg : Str → Option Value) (fa : Addr) (h : Heap) (K : PySem.W.Frag), K.In h → SaysX fx fn K → h.Ns mainGlobals mg → mg "law" = some (.ref fa) →
      ∃ fd : FuncData, (∀ (s : Shared) (v : Value), BindsTo s fd ⟨[v], []⟩ [(x, v)]) ∧ ∀ base : Heap, K.In base → base.Ns mainGlobals mg → TBs K mg base ts → FnG l.prog w K mg base k fa fd [x] (spLawT K ts)) :
    PySem.W.WalkO q loose XP YP l.row.toRowW d [] (fun f vs => PySem.call f vs) := by
  refine Att.attach_call hn hdf fun w s₀ s₁ mg mb fa o pm cd doc a vs ns G Y ho hd' hcd hmg hobj hints hlen hg => ?_
  obtain ⟨K, KX, c⟩ := hY w _ Y
  rw [hd] at hmg
  obtain ⟨fd, hb, hF⟩ := F w mg fa _ K KX c.s G.T.g hmg
  refine law_callT KX G.T.g G.T.b G.T.builtins G.T.nolimit hg G.T.bmain (fun q hq => c.hd _ (List.mem_map.mpr ⟨q, hq, rfl⟩)) (fun b hb => ?_) (fun b hb => ?_) hobj hints hlen hr hF hb
  · obtain ⟨q, hq, rfl⟩ := List.mem_map.mp hb
    exact c.out _ (List.mem_map.mpr ⟨q, hq, rfl⟩)
  · obtain ⟨q, hq, rfl⟩ := List.mem_map.mp hb
    exact c.empty _ (List.mem_map.mpr ⟨q, hq, rfl⟩)
theorem def_okL {P : Program} {w0 : World} {base : Heap} {x qual : Str} {st : Stmt} {fd : FuncData} {N ps : List Str} {k : Nat} {m : SM} {dvs : List V} {kws : List (Str × V)} {p : Str × Option Str} (F : FunD K x qual (defArgs st) (defBody st) (defScope st) dvs kws (He.fAd K p) fd) (S : FnScope N ps (defScope st))
    (hbody : ∀ (cdv : Value) (A : Around) (outer : List Env) (s : Shared) (H : Hp) (E : XK), cdv = .ref (He.cT K p).1 → Cg (cxOf (L2.CX P w0) P w0 K mg base N qual (defScope st) (He.fAd K p) cdv A outer s H E) (fun cls d _ H' => E cls d H') k →
      RSs (cxOf (L2.CX P w0) P w0 K mg base N qual (defScope st) (He.fAd K p) cdv A outer s H E) (fun cls d _ H' => E cls d H') (defBody st) m) :
    FnG P w0 K mg base (k + 1) (He.fAd K p) fd ps (spM K mg ps.length (fnM N.length m)) := by
  obtain ⟨oc, od, dV, kV, doc, pm, an, cdv, ct, osl, rfl, lk, hcd, _, _⟩ := F.ex
  obtain ⟨c, rfl⟩ := He.codeIn_ref hcd
  have hc : (He.cT K p).1 = c := He.codeOf_eq lk rfl
  constructor
  · exact fun vs H Q E h => h.1
  intro A outer s H args us vs Q E rm env bnd rel hs
  have inn : K.In s.heap := env.mod.kin.keeps fun a o q => (env.bs a o q).1
  have nol : s.heap.NoLimit := env.mod.nolimit.keeps fun a o q => (env.bs a o q).1
  apply codeAny_call_function rm.r.depth (inn _ _ lk) rfl S.co S.gen rfl (PySem.W.codeRec_of inn hcd)
  apply bnd
  apply wpAny_newFunctionEnv_cells S.kind
  · rintro ⟨n, u⟩ hn
    exact (S.par n (List.of_mem_zip hn).1).imp id fun q => ⟨q, PySem.W.cellsFrom_some _ _ _ (.inl q)⟩
  rintro _ rfl s1 nw
  constructor
  · exact nol.keeps nw.toInCall.keep
  have hI := inv_start (CX := L2.CX P w0) (E := E) S rm.r.hd env hs.1 rel nw
  have ht := hbody (.ref c) A outer s H E (by rw [hc]) ⟨rfl, S.nd, takes_of rfl rfl rfl rfl, passes_of rfl, ⟨rm.r.deeper _, rm.gd⟩, rfl, rfl, rfl⟩
  obtain ⟨_, w, ds, rfl, R, rl, P1⟩ := hs
  apply codeAny_func
  refine wpAny_mono (ht.run [] s1 _ w.hp { nx := fun _ H' => Q .non H', rt := Q } hI ⟨w, enOf N.length ds, rfl, R, RepE.start rl N, ?_⟩) ?_ fun _ _ z => z
  · unfold fnM at P1
    cases q : m (enOf N.length ds) w.st with
    | nxt e S => rw [q] at P1; exact fun w1 s1 x1 R1 st1 _ => P1 w1 .non x1 R1 st1 .non
    | ret d S => rw [q] at P1; exact P1
    | brk e S => rw [q] at P1; exact False.elim P1
    | cnt e S => rw [q] at P1; exact False.elim P1
    | exc y e S => rw [q] at P1; exact fun w1 s1 c1 d1 x1 R1 st1 _ rx => P1 w1 c1 d1 x1 R1 st1 rx
    | stuck => rw [q] at P1; exact P1
  · intro fl s' z
    cases fl with
    | next => obtain ⟨st, H', J, q⟩ := z; exact ⟨V.non, H', J.os, J.bare, J.base, J.hok, rfl, q⟩
    | ret u => obtain ⟨v, st, H', J, rv, q⟩ := z; exact ⟨v, H', J.os, J.bare, J.base, J.hok, rv, q⟩
    | brk => exact False.elim z.choose_spec.choose_spec.2
    | cont => exact False.elim z.choose_spec.choose_spec.2
end
end G
namespace G
open PySem L2 PySem.Spec PyProof.Rows
section
variable {X : Cx} {W : WX} {a b c e o : Expr} {ma : EM} {pos : Pos} {p : Pos}
def enumD (l : List D) : List D := l.zipIdx.map fun q => .tup [.int (q.2 : Nat), q.1]
def enR (ds : List D) (S : Store) : Res (List D) := match ds with
  | [.tup l] => .ok (enumD l) S
  | [.lst l] => .ok (enumD l) S
  | _ => .stuck
def iEnum (m : AM) : AM := fun e S => (m e S).bind enR
end
end G
namespace G
open PySem L2 PySem.Spec
section
variable {X : Cx} {W : WX} {a b c e o : Expr} {es : List Expr} {ma mb mc me : EM} {ta tb : TM} {pos apos : Pos} {x : Str} {p : Pos} {j k : Nat}
variable {K : PySem.W.Frag} {mg : Str → Option Value} {w : Wo}
def lrOk (i : Int) : Prop := i ≤ 16777216 ∧ -(2 ^ 62) ≤ i
open Classical in
noncomputable def lrR (d : D) (S : Store) : Res (List D) := match d with
  | .int i => if lrOk i then .ok (rangeD 0 i.toNat) S else .stuck
  | _ => .stuck
noncomputable def eLr (m : EM) : EM := fun e S => (m e S).bind fun d S1 => (lrR d S1).bind fun l S2 => .ok (.lst l) S2
noncomputable def eLrN (m : EM) : EM := fun e S => (m e S).bind fun d S1 => (lrR d S1).bind fun l S2 => .ok (.loc S2.length) (S2 ++ [.lst l])
def seqT (S : Store) (y : D) : Option (List D) := match y with
  | .tup l => some l
  | _ => seqD S y
def popR (x : D) (xs : List D) (S : Store) : Res D := match x, xs with
  | .loc n, [.int i] => match S[n]? with
    | some (.lst l) => match seqIndex? i l.length with
      | some k => match l[k]? with
        | some y => if -(2 ^ 63) ≤ i ∧ i < 2 ^ 63 then .ok y (S.set n (.lst (l.eraseIdx k))) else .stuck
        | none => .stuck
      | none => .stuck
    | _ => .stuck
  | _, _ => .stuck
def ePop (a : EM) (m : AM) : EM := fun e S => (a e S).bind fun x S1 => if isLst S1 x then (m e S1).bind fun xs S2 => popR x xs S2 else .stuck
theorem RepL.eraseIdx {l : List D} {vs : List V} (h : RepL K mg w l vs) : ∀ k, RepL K mg w (l.eraseIdx k) (vs.eraseIdx k) := by
  induction h using RepL.rec (motive_1 := fun _ _ _ => True) (motive_3 := fun _ _ _ => True) with
  | nil => exact fun k => .nil
  | cons r t _ ih =>
    intro k
    cases k with
    | zero => exact t
    | succ k => exact .cons r (ih k)
  | _ => trivial
def augR (i : Nat) (e : En) (x y : D) (S : Store) : SRes := match x with
  | .int m => match y with
    | .int n => .nxt (e.set i (some (.int (m + n)))) S
    | _ => .stuck
  | .loc n => match S[n]?, lstOf S y with
    | some (.lst l), some zs => if l.length + zs.length ≤ sizeLine then .nxt (e.set i (some (.loc n))) (S.set n (.lst (l ++ zs))) else .stuck
    | _, _ => .stuck
  | _ => .stuck
def sAug (i : Nat) (m : EM) : SM := fun e S => match e[i]? with
  | some (some x) => sE (m e S) e fun y S1 => augR i e x y S1
  | _ => .stuck
theorem RepD.dpS {d : D} {v : V} {p : PyData} (R : Rep K mg w) (h : RepD K mg w d v) (e : (rsv w.st d).toP = some p) : Dp K w.hp v p := by
  cases h with
  | @loc n a hn =>
    have e : ((match w.st[n]? with | some (.lst l) => D.lst l | _ => .loc n) : D).toP = some p := e
    split at e
    · rename_i l hl
      obtain ⟨vs, p1, r1⟩ := R.cell _ _ _ hn hl
      rw [D.toP] at e
      obtain ⟨ps, e1, rfl⟩ := Option.map_eq_some_iff.mp e
      exact .lst (SqL.of p1) (r1.dp e1)
    · rw [D.toP] at e; cases e
  | non => exact RepD.dp (mg := mg) .non e
  | bl b => exact RepD.dp (mg := mg) (.bl b) e
  | int i => exact RepD.dp (mg := mg) (.int i) e
  | str x => exact RepD.dp (mg := mg) (.str x) e
  | tup s r => exact RepD.dp (.tup s r) e
  | lst s r => exact RepD.dp (.lst s r) e
  | scr s r => exact RepD.dp (.scr s r) e
  | dic s z r => exact RepD.dp (.dic s z r) e
  | ins g s r => exact RepD.dp (.ins g s r) e
  | exc g s x r => exact RepD.dp (.exc g s x r) e
  | fa a => exact RepD.dp (mg := mg) (.fa a) e
  | pin r => exact RepD.dp (.pin r) e
def eqS (S : Store) (x y : D) : Option Bool := eqP (rsv S x) (rsv S y)
theorem eqS_pre {dx dy : D} {x y : V} {r : Bool} (R : Rep X.K X.mg w) (qx : RepD X.K X.mg w dx x) (qy : RepD X.K X.mg w dy y) (h : eqS w.st dx dy = some r) : ∃ p q, Dp X.K w.hp x p ∧ Dp X.K w.hp y q ∧ SeqAt.shaped p = true ∧ SeqAt.shaped q = true ∧ PyData.eqv p q = r := by
  unfold eqS eqP at h
  split at h
  · rename_i p q e1 e2
    split at h
    · rename_i hs
      rw [Bool.and_eq_true] at hs
      exact ⟨p, q, qx.dpS R e1, qy.dpS R e2, hs.1, hs.2, Option.some.inj h⟩
    · cases h
  · cases h
end
end G
namespace G
open PySem L2 PySem.Spec
section
variable {X : Cx} {W : WX} {l e1 e2 e3 : Expr} {m1 m2 m3 : EM} {pos : Pos} {x : Str} {p : Pos} {j k kk : Nat} {ps : List Str} {js : List Nat} {fkM : En → FM} {tb : Store → Bool} {m : Nat → List (Option D) → FM → FM}
theorem re_callH0 (c : Cg X W j) (hF : Dh X.prog X.w X.K X.mg X.base x ps k m) (hj : k + 1 ≤ j) (hl : LA X l js fkM tb kk) (hkk : kk ≤ k) (hps : ps.length = 1) (hcap : js.length ≤ 4) (hg : Gl X x := by rfl) (hdb : (x == ("__debug__" : Str)) = false := by decide)
    (hargs : backTo pos (starEach [l] X.env) = [(false, eval l X.env)] := by rfl) (he : starEach [l] X.env = (false, eval l X.env) :: starEach [] X.env := by rfl) :
    RE X W (.Call (.Name x p) [l] [] pos) (eCallH m js fkM tb 0 aNil) := re_callH c hF hj .nil hl hkk hps hcap hg hdb hargs he (by rfl)
end
end G
namespace G
open PySem L2 PySem.Spec PyProof.Rows
section
variable {X : Cx} {W : WX} {pos : Pos}
def gSq (n : Nat) (r : GMs) : GM := fun d e S => match d with
  | .tup ds => if ds.length = n then r ds e S else .stuck
  | .lst ds => if ds.length = n then r ds e S else .stuck
  | .loc j => match S[j]? with
    | some (.lst ds) => if ds.length = n then r ds e S else .stuck
    | _ => .stuck
  | _ => .stuck
end
end G
namespace G
open PySem L2 PySem.Spec
section
variable {X : Cx} {W : WX} {a b c e o : Expr} {es : List Expr} {ma mb mc me : EM} {ta tb : TM} {pos apos : Pos} {x : Str} {p : Pos} {j k : Nat}
variable {K : PySem.W.Frag} {mg : Str → Option Value} {w : Wo}
def eListN (m : EM) : EM := fun e S => (m e S).bind fun d S1 => (lf (seqT S1 d) S1).bind fun l S2 => .ok (.loc S2.length) (S2 ++ [.lst l])
def eRev (m : EM) : EM := fun e S => (m e S).bind fun d S1 => (lf (seqD S1 d) S1).bind fun l S2 => .ok (.lst l.reverse) S2
end
end G
namespace G
open PySem L2 PySem.Spec
structure Fam (B nw ini : String) (tl : List Value) : Prop where
  f : ExcBaseFacts B nw ini tl
  p : ∀ self : Value, refuseLoop self "__setattr__" tl = pure ()
  o : tl.contains (.type "object") = true
  e : tl.isEmpty = false
theorem fam_ValueError : Fam "ValueError" "ValueError.__new__" "ValueError.__init__" bmValueError := ⟨PySem.F.excBase_ValueError, PySem.F.store_ValueError.passes, by decide +kernel, rfl⟩
structure XoC (K : PySem.W.Frag) (C : Addr) (nw : String) (tl : List Value) : Prop where
  cls : ∃ nm q N bs bm sn sub ab col dd k0 k1 k2 k3 k5, K.lookup C = some (excClassObj nm q C N bs bm true sn sub ab col dd k0 k1 k2 k3 k5 nw) ∧ PySem.W.excTail tl bm = true
  sa : PySem.W.findIn K (.ref C) "__setattr__" = some (some (.builtin "object.__setattr__"))
  exC : PySem.W.subIn K (.ref C) (.type "BaseException") = some true
  tyC : PySem.W.typeIn K (.ref C) = some (.type "type")
  kC : PySem.W.keepIn K (.ref C) = true
section
open Builtin Builtin.ObjectAttr
variable {prog : Program} {w : World} {A : Around} {R : Result → Shared → Prop} {hp : Heap} {g : Array GenState} {d : Drawn} {t : Nat} {os : OsState} {tl : List Value}
theorem osa_first {K : W.Frag} {n : Str} {tk : Tok} {u : Value} {x C : Addr} {fv : Array Value} {cd : ClassData} (KX : K.In hp) (hx : hp.get? x = some { cls := .ref C, data := .fields fv }) (hcd : W.clsIn K C = some cd)
    (hm : W.excTail tl cd.mro = true) (hne : tl.isEmpty = false) (hto : tl.contains (.type "object") = true) (htp : ∀ self : Value, refuseLoop self "__setattr__" tl = pure ()) (hh : cd.hasDict = true) (hno : W.findIn K (.ref C) n = some none)
    (hq : ∀ h' tk' dx, (∀ b o, b ≠ x → hp.get? b = some o → h'.get? b = some o) → hp.objs.size ≤ dx → dx ≠ x → h'.get? x = some { cls := .ref C, dict := some dx, data := .fields fv } → h'.Ns1 dx (fun y => if y = n then some u else none) → R (.ok (.ret .none)) ⟨h', g, d, tk', os⟩) :
    codeAny (model prog w) A (.call (.builtin "object.__setattr__") ⟨[.ref x, .str n tk, u], []⟩) R ⟨hp, g, d, t, os⟩ := by
  have J : W.InstAt hp x { cls := .ref C, data := .fields fv } C none := ⟨hx, rfl, rfl, trivial⟩
  have G0 := F.store_object
  have ne : cd.mro.isEmpty = false := by
    cases q : cd.mro with
    | nil =>
      rw [q] at hm
      have : [] = tl := beq_iff_eq.mp hm
      rw [← this] at hne; cases hne
    | cons _ _ => rfl
  have hob : cd.mro.contains (.type "object") = true := (W.excTail_contains "object" _ hm).trans hto
  have hxs : x ≠ hp.objs.size := Nat.ne_of_lt (Heap.lt_size hx)
  have sb : W.Looks (model prog w) hp (isInstance (.ref x) (.type "object")) true := J.type.andThen (W.looks_mroIn KX (by unfold W.mroIn; rw [hcd, Option.bind_some, if_neg (by rw [ne]; decide), hob]))
  refine codeAny_call_builtin G0.slot.plain G0.entry (@W.check_slot (model prog w) _ _ ⟨hp, g, d, t, os⟩ "object.__setattr__" "object" "__setattr__" (.ref x) [.str n tk, u] [] _ G0.kind G0.split sb (G0.args (.ref x) (.str n tk) u) ?_)
  have lm : W.Looks (model prog w) hp (mroOf (.ref C)) cd.mro := (W.looks_clsIn KX hcd).andThen .now
  have l3 : W.Looks (model prog w) hp (storeTaker? none) none := .now
  have lc : W.Looks (model prog w) hp (classData C) cd := W.looks_clsIn KX hcd
  rw [W.osa_eq, refuse_eq]
  refine wpAny_bind (wpAny_bind (J.type.at (wpAny_bind (lm.at ?_))))
  rw [W.excTail_pass _ (htp _) _ hm]
  refine wpAny_pure (wpAny_bind (J.type.at (wpAny_bind ((W.looks_findIn KX hno).at (wpAny_bind (l3.at ?_))))))
  show wpAny _ _ (storeInOwnDict (.ref x) (.ref C) (.str n tk) n u false) _ _ _
  obtain ⟨c1, c2, c3, c4, c5, c6, c7, c8, c9, c10, c11⟩ := cd
  dsimp only at hh
  subst hh
  unfold storeInOwnDict ownDictForStores
  repeat (first | with_reducible refine HandSPX.store_in_new ?_ ?_ | with_reducible refine wpAny_loadPart_at hx ?_ | with_reducible refine lc.at ?_ | wp_step)
  · exact ⟨_, #[], _, (Heap.get?_update_ne _ _ _ _ hxs.symm).trans (Heap.get?_push_at rfl rfl), rfl, (fun e he => absurd he (by simp)), fun _ => rfl⟩
  · intro h' tk' hn' hs
    have hx1 : (hp.push { cls := .type "dict", data := .dict #[] }).get? x = some { cls := .ref C, data := .fields fv } := Heap.get?_push_of_some _ hx
    refine hq h' tk' hp.objs.size (fun b o hb ho => ?_) (Nat.le_refl _) hxs.symm ?_ hn'
    · exact (hs.2 b (Nat.ne_of_lt (Heap.lt_size ho))).trans ((Heap.get?_update_ne _ _ _ _ hb).trans (Heap.get?_push_of_some _ ho))
    · exact (hs.2 x hxs).trans (Heap.get?_update_self _ hx1 rfl)
end
section
variable {X : Cx} {pins : List (Addr × Obj)} {σ : L2.St} {H : Hp} {s : Shared} {a C : Addr} {f : Str} {y : V} {u : Value} {E : Value → Shared → Prop} {A : Around} {B nw ini : String} {tl : List Value}
theorem ost_first {Q : Unit → Shared → Prop} (T : XoC X.K C nw tl) (Y : Fam B nw ini tl) (I : L2.Inv X pins σ H s) (e : H a = some (exo a C none)) (hno : PySem.W.findIn X.K (.ref C) f = some none) (ry : RelV y u)
    (h : ∀ dx s', H dx = none → dx ≠ a → L2.Inv X pins σ (upd (upd H dx (exd dx [(f, y)])) a (exo a C (some dx))) s' → Q () s') : wpAny (model X.prog X.w) A (setAttr (.ref a) f u) Q E s := by
  obtain ⟨nm, q, N, bs, bm, sn, sub, ab, col, dd, k0, k1, k2, k3, k5, hC, hbm⟩ := T.cls
  have hcl : PySem.W.clsIn X.K C = some { name := nm, bases := bs, mro := .ref C :: bm, ns := N, qualname := q, hasDict := true, slotNames := sn, subclasses := sub, abstract := ab, collection := col, hasDel := false } := by unfold PySem.W.clsIn; rw [hC] <;> rfl
  obtain ⟨t1, ho⟩ := exo_at I.hok e
  obtain ⟨hp, g, d, t, os⟩ := s
  refine PySem.W.set_plain I.kIn (od := none) (ox := { cls := .ref C, dict := none, data := .fields #[.ref t1, .none, .none, .none, .bool false, .none] }) ⟨ho, rfl, rfl, trivial⟩ T.sa ?_
  refine osa_first I.kIn ho hcl (tl := tl) (show PySem.W.excTail tl (.ref C :: bm) = true from hbm) Y.e Y.o Y.p rfl hno (fun h' tk' dx k dn dne hx hn => ?_)
  have fd : H dx = none := I.hok.fresh dn
  have nd : ∀ {b : Addr} {o : Obj}, hp.get? b = some o → b ≠ dx := fun {b o} z => Nat.ne_of_lt (Nat.lt_of_lt_of_le (Heap.lt_size z) dn)
  have na : ∀ {b : Addr}, H b = none → b ≠ a := fun {b} n z => by rw [z, e] at n; cases n
  have U : Un X.fs [] H (upd (upd H dx (exd dx [(f, y)])) a (exo a C (some dx))) hp h' := {
    keep := fun b o z n _ _ => k b o (na n) z
    slot := fun b o z n _ _ => ⟨o.slots, k b o (na n) z⟩
    free := fun b o z n _ => by rw [upd_ne (na n), upd_ne (nd z)]; exact n
    there := fun b o z _ => by
      by_cases hb : b = a
      · subst hb; exact ⟨_, hx⟩
      · exact ⟨o, k b o hb z⟩
    tups := fun b xs z => by rw [upd_ne (at_ne e z exo_tup), upd_ne (ne_of_none z fd)]; exact z
    frzs := fun b o v z => by rw [upd_ne (at_ne e z exo_frz), upd_ne (ne_of_none z fd)]; exact z
    tbls := fun b ps z => ⟨#[], by rw [upd_ne (at_ne e z exo_tbl), upd_ne (ne_of_none z fd), z]; simp⟩ }
  refine h dx _ fd dne (I.un (t' := tk') U fun b o z => ?_)
  by_cases hb : b = a
  · subst hb
    rw [upd_same] at z; cases z
    exact exo_ok hx
  · rw [upd_ne hb] at z
    by_cases hd : b = dx
    · subst hd
      rw [upd_same] at z; cases z
      exact exd_ok hn (relO_put (fs := []) ry fun _ => True.intro)
    · rw [upd_ne hd] at z
      refine (I.hok b o z).stay (fun c v hc q => k c v ?_ q) (fun c hc => ?_) (fun c xs hc => ?_)
      · rcases hc with hc | hc
        · rw [hc]; exact hb
        · exact at_ne e hc exo_own
      · rw [upd_ne (at_ne e hc exo_own), upd_ne (ne_of_none hc fd)]; exact hc
      · rw [upd_ne (at_ne e hc exo_tup), upd_ne (ne_of_none hc fd)]; exact hc
theorem ini_first {us : List Value} {Q : Value → Shared → Prop} (T : XoC X.K C nw tl) (Y : Fam B nw ini tl) (I : L2.Inv X pins σ H s) (e : H a = some (exo a C none)) (hl : us.length ≤ sizeLine) (h : ∀ s', L2.Inv X pins σ H s' → Q .none s') :
    wpAny (model X.prog X.w) A (call (.builtin ini) (.ref a :: us)) Q E s := by
  obtain ⟨nm, q, N, bs, bm, sn, sub, ab, col, dd, k0, k1, k2, k3, k5, hC, hbm⟩ := T.cls
  obtain ⟨t1, ho⟩ := exo_at I.hok e
  obtain ⟨hp, g, d, t, os⟩ := s
  refine wpAny_call (PySem.HandSPX.init_base Y.f (fun z => PySem.W.excTail_contains z bm hbm) (I.kIn _ _ hC) ho hl fun h' t2 k hx => ?_)
  have J := I.write (t' := t) (x := a) (e := a) (o := exo a C none) (by rw [e]; exact True.intro) (.inl rfl) k ⟨_, hx⟩ (exo_ok hx)
  have eu : upd H a (exo a C none) = H := funext fun b => if hb : b = a then by rw [hb, upd_same, e] else by rw [upd_ne hb]
  exact h _ (eu ▸ J)
end
def tBi (K : PySem.W.Frag) (nw : String) (tl : List Value) (ta : TA) : TE := fun σ H Q => ta σ H fun vs H1 => ∃ (a C : Addr) (ws : List V), vs = .ref a :: ws ∧ ws.length ≤ 1000 ∧ XoC K C nw tl ∧ H1 a = some (exo a C none) ∧ Q .non H1
def tFs (K : PySem.W.Frag) (nw : String) (tl : List Value) (f : Str) (to te : TE) : TS := fun D σ H => te σ H fun y H1 => to σ H1 fun x H2 => ∃ a C : Addr, x = .ref a ∧ XoC K C nw tl ∧ PySem.W.findIn K (.ref C) f = some none ∧ H2 a = some (exo a C none) ∧
  ∀ dx, H2 dx = none → dx ≠ a → D.nx σ (upd (upd H2 dx (exd dx [(f, y)])) a (exo a C (some dx)))
structure HdC (K : PySem.W.Frag) (C : Addr) (ini : String) : Prop where
  ga : PySem.W.specialIn K (.ref C) "__getattribute__" = some (some (.builtin "type.__getattribute__"))
  rd : PySem.W.readsIn K C (.type "type") = true
  fi : PySem.W.findCls K (.ref C) (.type "type") "__init__" = some (.val (.builtin ini))
  hi : PySem.W.handedIn (.builtin ini) = true
section
variable {X : Cx} {o e : Expr} {es : List Expr} {to te : TE} {ta : TA} {f : Str} {p p' p1 p2 pos : Pos} {B nw ini : String} {tl : List Value} {x : Str} {Bc : Addr}
theorem pe_bini {pl : Sem Bool} (Y : Fam B nw ini tl) (hg : Gl X x) (hm : X.mg x = some (.ref Bc)) (hB : HdC X.K Bc ini) (ha : PA X (e :: es) ta) (hdb : (x == ("__debug__" : Str)) = false := by decide)
    (hc : eval (.Call (.Attribute (.Name x p1) "__init__" p2) (e :: es) [] pos) X.env = (do
      let ov ← eval (.Name x p1) X.env
      standAt p2.atName
      let (fv, first) ← holding [ov] (getMethod ov "__init__" pl)
      callWith pos fv first (backTo pos (starEach (e :: es) X.env)) (backToKw pos (keywordEach [] X.env))) := by rfl)
    (he : starEach (e :: es) X.env = (false, eval e X.env) :: starEach es X.env := by rfl) (hpl : (backTo pos (starEach es X.env)).any (·.1) = false := by rfl) :
    PE X (.Call (.Attribute (.Name x p1) "__init__" p2) (e :: es) [] pos) (tBi X.K nw tl ta) := by
  refine ⟨fun pins s σ H Q I h => ?_⟩
  refine PySem.W.methodCall_KW (ld_glob I hg hm ?_ hdb) hc
  refine PySem.W.method_cls I.kIn hB.ga (PySem.W.cls_value I.kIn hB.rd hB.fi hB.hi ?_)
  show wpAny _ _ (callWith pos (Value.builtin ini) [] (backTo pos (starEach (e :: es) X.env)) []) _ _ _
  refine PyProof.Rows.callWith_method1 (thn (ha.run pos pins _ σ H _ (I.tok _) h) fun us s1 hu => ?_) he hpl
  obtain ⟨vs, H1, I1, r1, a, C, ws, rfl, hl, T, ea, q⟩ := hu
  cases r1 with
  | @cons _ u0 _ ur ra rr =>
    obtain rfl : u0 = Value.ref a := ra
    exact ini_first T Y I1 ea (by rw [← Paired.length rr, sizeLine_eq]; omega) fun s' J => ⟨.non, H1, J, rfl, q⟩
theorem ps_fst (Y : Fam B nw ini tl) (ho : PE X o to) (he : PE X e te) (hs : swapsWith e (some (.Attribute o f p')) pos.line X.env = pure false := by rfl) : PS X (.Assign [.Attribute o f p'] e pos) (tFs X.K nw tl f to te) := by
  refine ⟨fun pins s σ H D I h => ?_⟩
  refine plainObj_wpAny_Assign_Attribute (thn (he.run pins s σ H _ I h) fun v s1 hv => ?_) hs
  obtain ⟨y, H1, I1, r1, q1⟩ := hv
  refine thn (ho.run pins s1 σ H1 _ I1 q1) fun u s2 hu => ?_
  obtain ⟨z, H2, I2, r2, a, C, rfl, T, hno, ea, q⟩ := hu
  obtain rfl : u = Value.ref a := r2
  exact ost_first T Y I2 ea hno r1 fun dx s' n ne J => ⟨σ, _, J, q dx n ne⟩
end
end G
namespace G
open PySem L2 PySem.Spec
def tIni (K : PySem.W.Frag) (nw : String) (tl : List Value) (f : Str) : TS := fun D σ H => ∃ (a C : Addr) (v : V), σ[0]? = some (some (.ref a)) ∧ σ[1]? = some (some v) ∧ XoC K C nw tl ∧ PySem.W.findIn K (.ref C) f = some none ∧ H a = some (exo a C none) ∧
  ∀ dx, H dx = none → dx ≠ a → D.nx σ (upd (upd H dx (exd dx [(f, v)])) a (exo a C (some dx)))
section
variable {X : Cx} {B nw ini : String} {tl : List Value} {b sf y f m : Str} {Bc : Addr} {p1 p2 p3 p4 p5 p6 p7 p8 p9 p10 : Pos} {j : Nat} {pl : Sem Bool}
theorem pss_ini (Y : Fam B nw ini tl) (hm : X.mg b = some (.ref Bc)) (hB : HdC X.K Bc ini) (h0 : PE X (.Name sf p3) (tVar 0)) (h0' : PE X (.Name sf p7) (tVar 0)) (h1 : PE X (.Name y p9) (tVar 1)) (hg : Gl X b := by rfl) (hdb : (b == ("__debug__" : Str)) = false := by decide)
    (hc : eval (.Call (.Attribute (.Name b p1) "__init__" p2) [.Name sf p3, .Constant (.str m) j p4] [] p5) X.env = (do
      let ov ← eval (.Name b p1) X.env
      standAt p2.atName
      let (fv, first) ← holding [ov] (getMethod ov "__init__" pl)
      callWith p5 fv first (backTo p5 (starEach [.Name sf p3, .Constant (.str m) j p4] X.env)) (backToKw p5 (keywordEach [] X.env))) := by rfl)
    (he : starEach [.Name sf p3, .Constant (.str m) j p4] X.env = (false, eval (.Name sf p3) X.env) :: starEach [.Constant (.str m) j p4] X.env := by rfl)
    (he2 : starEach [.Constant (.str m) j p4] X.env = (false, eval (.Constant (.str m) j p4) X.env) :: starEach [] X.env := by rfl)
    (hpl : (backTo p5 (starEach [.Constant (.str m) j p4] X.env)).any (·.1) = false := by rfl)
    (hs1 : swapsWith (.Call (.Attribute (.Name b p1) "__init__" p2) [.Name sf p3, .Constant (.str m) j p4] [] p5) none p6.line X.env = pure false := by rfl)
    (hs2 : swapsWith (.Name y p9) (some (.Attribute (.Name sf p7) f p8)) p10.line X.env = pure false := by rfl) :
    PSs X [.Expr (.Call (.Attribute (.Name b p1) "__init__" p2) [.Name sf p3, .Constant (.str m) j p4] [] p5) p6, .Assign [.Attribute (.Name sf p7) f p8] (.Name y p9) p10] (tIni X.K nw tl f) := by
  refine pss_imp (pss_cons (ps_expr (pe_bini Y hg hm hB (pa_cons h0 (pa_cons pe_str pa_nil he2) he) hdb hc he hpl) hs1) (pss_one (ps_fst Y h0' h1 hs2))) ?_
  rintro D s H ⟨a, C, v, e0, e1, T, hno, ea, q⟩
  exact ⟨.ref a, e0, a, C, _, rfl, (by simp), T, ea, v, e1, .ref a, e0, a, C, rfl, T, hno, ea, q⟩
end
def spIni (K : PySem.W.Frag) (nw : String) (tl : List Value) (f : Str) : Sp := fun vs H Q _ => ∃ (a C : Addr) (v : V), vs = [.ref a, v] ∧ XoC K C nw tl ∧ PySem.W.findIn K (.ref C) f = some none ∧ H a = some (exo a C none) ∧
  ∀ dx, H dx = none → dx ≠ a → Q .non (upd (upd H dx (exd dx [(f, v)])) a (exo a C (some dx)))
section
variable {P : Program} {w0 : World} {K : PySem.W.Frag} {mg : Str → Option Value} {base : Heap}
theorem ini_fn {x qual : Str} {st : Stmt} {fI : Addr} {fd : FuncData} {sf y f : Str} {nw : String} {tl : List Value} (F : FunD K x qual (defArgs st) (defBody st) (defScope st) [] [] fI fd) (S : FnScope [sf, y] [sf, y] (defScope st))
    (hb : ∀ (cdv : Value) (A : Around) (outer : List Env) (s : Shared) (H : Hp) (E : XK), PSs (cxOf (L2.CX P w0) P w0 K mg base [sf, y] qual (defScope st) fI cdv A outer s H E) (defBody st) (tIni K nw tl f)) :
    FnOk P w0 K mg base (L2.CX P w0) 1 fI fd [sf, y] (spIni K nw tl f) := by
  obtain ⟨oc, od, dV, kV, doc, pm, an, cdv, ct, osl, rfl, lk, hcd, _, _⟩ := F.ex
  refine fn_of lk hcd S (fun vs H Q E h => ?_) (fun A outer s H vs Q E hr h => ?_)
  · obtain ⟨a, C, v, rfl, _⟩ := h; rfl
  · obtain ⟨a, C, v, rfl, T, hno, ea, q⟩ := h
    exact ⟨_, hb cdv A outer s H E, a, C, v, rfl, rfl, T, hno, ea, q⟩
end
section
variable {X : Cx} {W : WX} {e : Expr} {me : EM} {ta : TA} {p pos pos2 : Pos} {B nw ini : String} {tl : List Value} {x : Str} {C fI : Addr} {fd : FuncData} {ps : List Str} {f : Str} {k : Nat}
theorem pmk_fld (T : XoC X.K C nw tl) (Y : Fam B nw ini tl) (iC : PySem.W.findIn X.K (.ref C) "__init__" = some (some (.ref fI))) (tI : PySem.W.typeIn X.K (.ref fI) = some (.type "function")) (F1 : FnOk X.prog X.w X.K X.mg X.base (L2.CX X.prog X.w) 1 fI fd ps (spIni X.K nw tl f))
    (hr : Room 2 X.A) (hb : Binds X.K fd ps []) (hno : PySem.W.findIn X.K (.ref C) f = some none) (hg : Gl X x) (hm : X.mg x = some (.ref C)) (ha : PA X [e] ta) (hdb : (x == ("__debug__" : Str)) = false := by decide) (he : starEach [e] X.env = (false, eval e X.env) :: starEach [] X.env := by rfl) (hpl : (backTo pos (starEach [] X.env)).any (·.1) = false := by rfl) :
    PMk X (.Call (.Name x p) [e] [] pos) (fun σ H Q => ta σ H fun vs H1 => ∃ v, vs = [v] ∧ ∀ d, H1 d = none → Q (.ref C) (some d) (upd H1 d (.xd [(f, v)]))) := by
  intro pins s σ H Q I h
  obtain ⟨nm, q, N, bs, bm, sn, sub, ab, col, dd, k0, k1, k2, k3, k5, hC, hbm⟩ := T.cls
  refine wpAny_Call_Name_kw (ld_glob I hg hm ?_ hdb)
  refine PySem.W.callWith_K (h₀ := X.base) I.ok.mod.kin T.kC (thn (ha.run pos pins s σ H _ I h) fun us s1 hu => ?_) he hpl
  obtain ⟨vs, H1, I1, r1, v, rfl, q1⟩ := hu
  refine ⟨I1.kIn, ?_⟩
  show wpAny _ _ (call (.ref C) us) _ _ _
  obtain ⟨hp, g, dr, tk, os⟩ := s1
  have hsz : hp.objs.size ≤ hp.objs.size + 1 := Nat.le_succ _
  have hn : H1 (hp.objs.size + 1) = none := I1.hok.fresh hsz
  have kk : ∀ b o, hp.get? b = some o → ((hp.push (PySem.W.kdv_tup us)).push (PySem.HandSPX.excO C hp.objs.size)).get? b = some o := fun b o z => Heap.get?_push_of_some _ (Heap.get?_push_of_some _ z)
  have hget : ((hp.push (PySem.W.kdv_tup us)).push (PySem.HandSPX.excO C hp.objs.size)).get? (hp.objs.size + 1) = some (PySem.HandSPX.excO C hp.objs.size) := by heap_get
  have I2 : L2.Inv X pins σ (upd H1 (hp.objs.size + 1) (exo (hp.objs.size + 1) C none)) ⟨(hp.push (PySem.W.kdv_tup us)).push (PySem.HandSPX.excO C hp.objs.size), g, dr, tk, os⟩ :=
    I1.laid (t' := tk) (a := hp.objs.size + 1) (o := exo (hp.objs.size + 1) C none) (h' := (hp.push (PySem.W.kdv_tup us)).push (PySem.HandSPX.excO C hp.objs.size)) kk hsz (exo_ok hget)
  have hq : spIni X.K nw tl f [.ref (hp.objs.size + 1), v] (upd H1 (hp.objs.size + 1) (exo (hp.objs.size + 1) C none))
      (fun z H2 => z = .non ∧ ∃ (d : Addr) (fs : List (Str × V)), H2 (hp.objs.size + 1) = some (exo (hp.objs.size + 1) C (some d)) ∧ H2 d = some (exd d fs) ∧ H1 d = none ∧ Q (.ref C) (some d) (upd (del H2 (hp.objs.size + 1)) d (.xd fs))) (fun _ _ _ => False) := by
    refine ⟨_, C, v, rfl, T, hno, upd_same, fun dx hd hne => ⟨rfl, dx, [(f, v)], upd_same, ?_, ?_, ?_⟩⟩
    · rw [upd_ne hne, upd_same]
    · rw [upd_ne hne] at hd; exact hd
    · have hd1 : H1 dx = none := by rw [upd_ne hne] at hd; exact hd
      have eu : upd (del (upd (upd (upd H1 (hp.objs.size + 1) (exo (hp.objs.size + 1) C none)) dx (exd dx [(f, v)])) (hp.objs.size + 1) (exo (hp.objs.size + 1) C (some dx))) (hp.objs.size + 1)) dx (.xd [(f, v)]) = upd H1 dx (.xd [(f, v)]) := by
        funext b
        by_cases h1 : b = dx
        · rw [h1, upd_same, upd_same]
        · rw [upd_ne h1, upd_ne h1]
          by_cases h2 : b = hp.objs.size + 1
          · rw [h2, del_same, hn]
          · rw [del_ne h2, upd_ne h2, upd_ne h1, upd_ne h2]
      rw [eu]
      exact q1 dx hd1
  have r2 : Vals (V.ref (hp.objs.size + 1) :: [v]) (Value.ref (hp.objs.size + 1) :: us) := .cons rfl r1
  have hl : (Value.ref (hp.objs.size + 1) :: us).length = ps.length := by rw [← r2.length]; exact F1.len _ _ _ _ hq
  have hus : us.length ≤ sizeLine := by rw [← Paired.length r1, sizeLine_eq]; simp
  have hbb := hb ⟨(hp.push (PySem.W.kdv_tup us)).push (PySem.HandSPX.excO C hp.objs.size), g, dr, tk, os⟩ (Value.ref (hp.objs.size + 1) :: us) I2.kIn (by simpa using hl)
  rw [List.append_nil] at hbb
  refine wpAny_call (PySem.HandSPX.call_own Y.f (fun z => PySem.W.excTail_contains z bm hbm) (I1.kIn _ _ hC) (PySem.W.looks_findIn I1.kIn iC) (fun self => PySem.W.bind_fn I1.kIn self tI) hus
    (codeAny_mono (F1.run _ X.stack _ _ ⟨Value.ref (hp.objs.size + 1) :: us, []⟩ (Value.ref (hp.objs.size + 1) :: us) _ _ (fun _ _ _ => False) (hr.make C us []) (I2.env0.make C us []) hbb r2 hq) fun r s' hq' => ?_))
  cases r with
  | error er =>
    obtain ⟨_, _, _, _, _, _, _, _, _, _, _, _, z⟩ := hq'
    exact False.elim z
  | ok fl =>
    cases fl with
    | ret u =>
      obtain ⟨z, H2, os2, bare2, un2, hok2, rv, rfl, d, fs, ea, ed, hd1, q2⟩ := hq'
      obtain ⟨h2, g2, d2, t2, os'⟩ := s'
      exact ⟨rv, mk_end (raises_own T.exC T.tyC) I1 hsz kk un2 hok2 os2 bare2 ea ed hd1 q2⟩
    | next => exact False.elim hq'
    | brk => exact False.elim hq'
    | cont => exact False.elim hq'
structure XfI (P : Program) (w0 : World) (K : PySem.W.Frag) (mg : Str → Option Value) (base : Heap) (x : Str) (ini : String) (nw : String) (tl : List Value) (f : Str) : Prop where
  ex : ∃ C fI fd sf y, mg x = some (.ref C) ∧ XoC K C nw tl ∧ PySem.W.findIn K (.ref C) "__init__" = some (some (.ref fI)) ∧ PySem.W.typeIn K (.ref fI) = some (.type "function") ∧ PySem.W.findIn K (.ref C) f = some none ∧ Binds K fd [sf, y] [] ∧ FnOk P w0 K mg base (L2.CX P w0) 1 fI fd [sf, y] (spIni K nw tl f)
def sRaiseF (cn f : Nat) (m : EM) : SM := fun e S => sE (m e S) e fun d S1 => .exc (.exc cn [(f, d)]) e S1
theorem rs_raiseF (cn fn : Nat) (c : Cg X W k) (Y : Fam B nw ini tl) (hF : XfI X.prog X.w X.K X.mg X.base x ini nw tl (fname fn)) (he : RE X W e me) (hk : 2 ≤ k := by decide) (hcn : cname cn = x := by rfl) (hg : Gl X x := by rfl) (hdb : (x == ("__debug__" : Str)) = false := by decide) (hst : starEach [e] X.env = (false, eval e X.env) :: starEach [] X.env := by rfl)
    (hpl : (backTo pos (starEach [] X.env)).any (·.1) = false := by rfl) : RS X W (.Raise (some (.Call (.Name x p) [e] [] pos)) none pos2) (sRaiseF cn fn me) := by
  obtain ⟨C, fI, fd, sf, y, hm, T, iC, tI, hno, hb, F1⟩ := hF.ex
  refine ps_imp (ps_raise c.calm c.tk (pmk_fld T Y iC tI F1 (c.rm.mono hk).r hb hno hg hm (ra_cons he ra_nil (hs := hst)) hdb hst hpl)) ?_
  rintro D s H ⟨w, en, rfl, R, E, P⟩
  refine ⟨w, en, rfl, R, E, ?_⟩
  unfold aCons aNil
  unfold sRaiseF at P
  cases q : me en w.st with
  | stuck => rw [q] at P; exact P
  | exc z S => rw [q] at P; exact fun w1 cls dd x1 R1 st1 rx => P w1 s cls dd x1 R1 st1 (E.ext x1.toEx0) rx
  | ok d S =>
    rw [q] at P
    intro w1 vs x1 R1 st1 rl
    obtain ⟨v, rfl, rv⟩ := rl.one_inv
    refine ⟨v, rfl, fun dx hd => ?_⟩
    have xp := put_ext (o := .xd [(fname fn, v)]) R1 hd
    exact P (w1.put dx (.xd [(fname fn, v)])) s (.ref C) (some dx) (x1.trans xp) (R1.put hd) st1 ((E.ext x1.toEx0).ext xp.toEx0) ⟨cn, C, [(fn, d)], [(fname fn, v)], rfl, by rw [hcn]; exact hm, rfl, .inr ⟨by simp, dx, rfl, put_st R1 hd⟩, .cons (rv.ext xp.toEx0) .nil⟩
end
end G
namespace G
open PySem L2 PySem.Spec PyProof.Rows
theorem fly_keeps {B h h' : Heap} {l : List Env} {e : Addr} {Z : Obj → Prop} (k : ∀ b o, h.get? b = some o → h'.get? b = some o) (fl : HandSPX.FlyingZ B l e Z h) : HandSPX.FlyingZ B l e Z h' := by
  obtain ⟨f1, f2, f3, oe, vs, T, oT, ts, g1, g2, g3, g4, g5, g6, g7, g8, g9⟩ := fl
  exact ⟨fun b o z => k b o (f1 b o z), f2, Heap.FunFrames.of_keeps (fun b o z _ => ⟨o, k b o z, rfl⟩) f3, oe, vs, T, oT, ts, k _ _ g1, g2, g3, g4, g5, g6, k _ _ g7, g8, g9⟩
def TestOk (X : Cx) (te : Expr) (cs : List Value) : Prop := ∀ (pn : List (Addr × Obj)) (σ : L2.St) (H : Hp) (sh : Shared) (ad : Addr) (cls : Value) (b : Bool) (Q : Value → Shared → Prop) (E : Value → Shared → Prop),
  L2.Inv (X.suite ad pn) [] σ H sh → PySem.W.Looks (model X.prog X.w) sh.heap (typeOf (.ref ad)) cls → PySem.W.exmAny X.K cls cs = some b →
  (∀ c h4, (∀ q o, sh.heap.get? q = some o → h4.get? q = some o) → PySem.W.Looks (model X.prog X.w) h4 (excMatches (.ref ad) c) b → Q c { sh with heap := h4 }) →
  wpAny (model X.prog X.w) (X.A.mark (some (.ref ad))) (eval te X.env) Q E sh
section
variable {X : Cx} {x x1 x2 x3 x4 : Str} {c c1 c2 c3 c4 : Value} {np p1 p2 p3 p4 pos : Pos} {k : Nat}
theorem name_ld {pn : List (Addr × Obj)} {σ : L2.St} {H : Hp} {sh : Shared} {ad : Addr} {Q : Value → Shared → Prop} {E : Value → Shared → Prop} (hc : Names X x c) (I : L2.Inv (X.suite ad pn) [] σ H sh) (q : Q c sh) : wpAny (model X.prog X.w) (X.A.mark (some (.ref ad))) (eval (.Name x np) X.env) Q E sh := by
  obtain ⟨hg, hdb, hm | ⟨hm, hv, hnn⟩⟩ := hc
  · exact ld_glob (X := X.suite ad pn) I hg hm q hdb
  · exact ld_blt (X := X.suite ad pn) I hg hm hv q hnn hdb
theorem test_three (h1 : Names X x1 c1) (h2 : Names X x2 c2) (h3 : Names X x3 c3) (e1 : starEach [.Name x1 p1, .Name x2 p2, .Name x3 p3] X.env = (false, eval (.Name x1 p1) X.env) :: starEach [.Name x2 p2, .Name x3 p3] X.env := by rfl)
    (e2 : starEach [.Name x2 p2, .Name x3 p3] X.env = (false, eval (.Name x2 p2) X.env) :: starEach [.Name x3 p3] X.env := by rfl) (e3 : starEach [.Name x3 p3] X.env = (false, eval (.Name x3 p3) X.env) :: starEach [] X.env := by rfl) :
    TestOk X (.Tuple [.Name x1 p1, .Name x2 p2, .Name x3 p3] k pos) [c1, c2, c3] := by
  intro pn σ H sh ad cls b Q E I LT hx h
  refine wpAny_Tuple_spliced ?_
  refine args_cons (name_ld h1 I ?_) e1
  refine args_cons (name_ld h2 I ?_) e2
  refine args_cons (name_ld h3 I ?_) e3
  refine args_nil ⟨by rw [sizeLine_eq]; simp, ?_⟩
  have kk : ∀ q o, sh.heap.get? q = some o → (sh.heap.push { cls := .type "tuple", data := .seq [c1, c2, c3].toArray }).get? q = some o := fun q o z => Heap.get?_push_of_some _ z
  exact h _ _ kk (PySem.W.exm_tup3 (I.kIn.keeps kk) (LT.keeps kk) (Heap.get?_push_size _ rfl) hx)
end
abbrev Hd := List Value × Option Nat × TS
inductive HdsG (X : Cx) : List ExceptHandler → List Hd → Prop
  | nil : HdsG X [] []
  | as {te : Expr} {cs : List Value} {n : Str} {i : Nat} {b0 : Stmt} {suite : List Stmt} {p : Pos} {ts : TS} {hs : List ExceptHandler} {l : List Hd} (ht : TestOk X te cs) (hi : X.N[i]? = some n) (hln : X.env.kindOf n = some .local)
      (hsu : ∀ (ad : Addr) (pn : List (Addr × Obj)), PSs (X.suite ad pn) (b0 :: suite) ts) (r : HdsG X hs l) : HdsG X (.ExceptHandler (some te) (some n) (b0 :: suite) p :: hs) ((cs, some i, ts) :: l)
  | bare {te : Expr} {cs : List Value} {b0 : Stmt} {suite : List Stmt} {p : Pos} {ts : TS} {hs : List ExceptHandler} {l : List Hd} (ht : TestOk X te cs)
      (hsu : ∀ (ad : Addr) (pn : List (Addr × Obj)), PSs (X.suite ad pn) (b0 :: suite) ts) (r : HdsG X hs l) : HdsG X (.ExceptHandler (some te) none (b0 :: suite) p :: hs) ((cs, none, ts) :: l)
def wHds (K : PySem.W.Frag) (Wo : WX) (D : Ends) : List Hd → WX
  | [] => Wo
  | (cs, some i, ts) :: r => fun cls d s H => ∃ b, PySem.W.exmAny K cls cs = some b ∧ (b = true → ∀ ad, H ad = none → ts ⟨fun s' H' => D.nx (s'.set i none) H', D.rt, fun s' H' => D.bk (s'.set i none) H', fun s' H' => D.ct (s'.set i none) H'⟩ (s.set i (some (.ref ad))) (upd H ad (ExcO ad cls d))) ∧ (b = false → wHds K Wo D r cls d s H)
  | (cs, none, ts) :: r => fun cls d s H => ∃ b, PySem.W.exmAny K cls cs = some b ∧ (b = true → ts D s H) ∧ (b = false → wHds K Wo D r cls d s H)
section
variable {X : Cx} {body : List Stmt} {h0 : ExceptHandler} {hds : List ExceptHandler} {l : List Hd} {pos : Pos} {tb : WX → TS} {Wt : WX}
theorem ps_tryG (hs : X.stack = X.env :: X.outer) (hf : X.env.frame = some X.env.locals) (hex : X.ex = []) (hN : X.N.Nodup) (tk : Takes X Wt)
    (hb : ∀ (W' : WX) (pn : List (Addr × Obj)) (xe : Value → Shared → Prop), Takes (X.tr pn xe) W' → PassesOwn (model X.prog X.w) X.A X.env xe → PSs (X.tr pn xe) body (tb W'))
    (hh : HdsG X (h0 :: hds) l) : PS X (.Try body (h0 :: hds) [] [] pos) (fun D s H => tb (wHds X.K Wt D l) D s H) := by
  refine ⟨fun pins sh s H D I h => ?_⟩
  have ok := I.ok
  have frames : X.A.frames = some (X.env :: X.outer) := ok.frames.trans (congrArg some hs)
  refine wpAny_Try_except ?_
  refine wpAny_mono ((hb (wHds X.K Wt D l) (X.pn ++ pins)
    (fun y s1 => wpAny (model X.prog X.w) X.A (noteFrame y X.env) (fun _ s2 => wpAny (model X.prog X.w) X.A (setFlight y none) (fun _ s3 =>
      wpAny (model X.prog X.w) X.A (handleBy y X.env (h0 :: hds)) (SP X pins D) X.xe s3) X.xe s2) X.xe s1)
    (fun u s' xx => ?_) PassesOwn.looking).run [] sh s H D (I.toTry _) h) (fun fl s1 hsp => ?_) (fun _ _ q => q)
  · obtain ⟨ad, B, sI, pins', s5, H5, cls, d, rfl, J5, nb, up, sky, na, os, ag, w⟩ := xx
    have J : L2.Inv X pins s5 H5 sI := J5.ofTry ok
    have sky1 : Sky B (X.env :: X.outer) ad (Zc cls d) X.env.locals s'.heap := hs ▸ sky
    show wpAny (model X.prog X.w) X.A (noteFrame (.ref ad) X.env) _ _ _
    refine Sky.land Zc.steady frames hf sky1 fun h3 fl3 up3 => ?_
    have go : ∀ (hds' : List ExceptHandler) (l' : List Hd), HdsG X hds' l' → ∀ h3, HandSPX.FlyingZ B (X.env :: X.outer) ad (Zc cls d) h3 → s'.heap.UpToSlots h3 → wHds X.K Wt D l' cls d s5 H5 →
        wpAny (model X.prog X.w) X.A (handleBy (.ref ad) X.env hds') (SP X pins D) X.xe { s' with heap := h3 } := by
      intro hds' l' hk
      induction hk with
      | nil =>
        intro h3 fl3 up3 w
        refine wpAny_handleBy_nil ?_
        obtain ⟨k1, k2, k3, oe, vs, T, oT, ts', he, hz, hd, h1, hr⟩ := id fl3
        unfold PySem.passOn
        refine wpAny_bind (wpAny_field he hd h1 ?_)
        rw [if_neg (show ¬ ((Value.ref T == Value.none) = true) from by simp)]
        have fin : wpAny (model X.prog X.w) X.A (setFlight (.ref ad) X.env.frame) (fun _ s4 => wpAny (model X.prog X.w) X.A (throw (.ref ad) : Sem Flow) (SP X pins D) X.xe s4) X.xe { s' with heap := h3 } := by
          rw [hf]
          refine HandSPX.setFlight_upZ fl3 fun h4 hh4 up4 => wpAny_throw (tk _ _ ?_)
          exact ⟨ad, B, sI, pins, s5, H5, cls, d, rfl, J, nb, (up.trans up3).trans up4, .inr (.inr (by rw [hs]; exact hh4)), na, os, ag, w⟩
        first
          | exact wpAny_bind (wpAny_pure (wpAny_bind fin))
          | exact wpAny_bind fin
      | @as te cs n i b0 suite p ts hs' l2 ht hi hln hsu r ih =>
        intro h3 fl3 up3 w
        obtain ⟨b, hb1, hyes, hno⟩ := w
        have J3 : L2.Inv X pins s5 H5 { s' with heap := h3 } := J.landed nb fl3.1 (up.trans up3) os ag
        obtain ⟨oe3, vs3, he3, hz3, hd3⟩ := fl3.there
        refine wpAny_handleBy_cons (codeAny_handlers_test ?_) (by intro q; cases q)
        refine ht (X.pn ++ pins) s5 H5 _ ad cls b _ _ (inv_suite J3 ad) (fun A Q E s k q => wpAny_typeOf_ref (k _ _ he3) (hz3.1 ▸ q)) hb1 fun c h4 k4 LM => LM.here ?_
        have fl4 := fly_keeps k4 fl3
        have up4 : s'.heap.UpToSlots h4 := up3.trans (Heap.UpToSlots.of_keeps k4)
        cases b with
        | true =>
          refine codeAny_handlers_suite_as (HandSPX.lands_againZ fl4 fun h5 fl5 up5 => ?_)
          have J5 : L2.Inv X pins s5 H5 { s' with heap := h5 } := J.landed nb fl5.1 ((up.trans up4).trans up5) os ag
          obtain ⟨oe5, vs5, he5, hz5, hd5⟩ := fl5.there
          have nfr : ad ∉ frs (X.env :: X.outer) := fun hm => by
            obtain ⟨_, o', e', hnf⟩ := fl5.2.2.1.mem hm
            rw [he5] at e'; cases e'
            exact hnf _ hd5
          have nL : ad ≠ X.env.locals := fun z => nfr (List.mem_filterMap.mpr ⟨X.env, List.mem_cons_self, by rw [hf, z]⟩)
          have noI : sI.heap.get? ad = none := by
            cases q : sI.heap.get? ad with
            | none => rfl
            | some o =>
              have z := nb ad o q (by rw [hs]; exact nfr)
              rw [fl5.2.1] at z; cases z
          have no0 : X.s_0.heap.get? ad = none := by
            cases q : X.s_0.heap.get? ad with
            | none => rfl
            | some o =>
              obtain ⟨o', z⟩ := J.base.there ad o q (by rw [hex]; simp)
              rw [noI] at z; cases z
          have noC : ∀ y c', X.env.cells.lookup y = some c' → c' ≠ ad := fun y c' e z => by
            obtain ⟨v, o, ho, _⟩ := J.cell y c' e
            rw [z, noI] at ho; cases ho
          have noP : ∀ q, q ∈ X.pn ++ pins → q.1 ≠ ad := fun q hq z => by
            have e := (J.pin q hq).1
            rw [z, noI] at e; cases e
          have J6 : L2.Inv X pins s5 (upd H5 ad (ExcO ad cls d)) { s' with heap := h5 } := inv_track J5 na no0 nL noC noP
            ⟨⟨oe5, vs5, he5, hz5.1, hz5.2, hd5⟩, ⟨oe5, he5⟩, fun h1 h2 ⟨o, v, e, r⟩ k => ⟨o, v, k o e, r⟩⟩
          refine store_ok (X := X.suite ad (X.pn ++ pins)) (v := .ref ad) (inv_suite J6 ad) hN hi (.inl hln) rfl (fun s6 S6 => ?_) (.inr hln)
          refine wpAny_mono ((hsu ad (X.pn ++ pins)).run [] s6 _ _ _ S6 (hyes rfl ad na)) (fun fl s7 hsp => ?_) (fun _ _ z => False.elim z)
          have fin : ∀ {t : L2.St} {H7 : Hp} {Q : Shared → Prop}, L2.Inv (X.suite ad (X.pn ++ pins)) [] t H7 s7 → (∀ s8, L2.Inv X pins (t.set i none) H7 s8 → Q s8) →
              wpAny (model X.prog X.w) X.A (do bindName X.env n .none; unbindBehindTheSuite X.env n p) (fun _ s8 => Q s8) X.xe s7 := fun {t H7 Q} S7 hq => gone_ok (inv_out ok S7) hN hi hln hq
          cases fl with
          | next => obtain ⟨t, H7, S7, q7⟩ := hsp; exact fin S7 fun s8 J8 => ⟨_, _, J8, q7⟩
          | brk => obtain ⟨t, H7, S7, q7⟩ := hsp; exact fin S7 fun s8 J8 => ⟨_, _, J8, q7⟩
          | cont => obtain ⟨t, H7, S7, q7⟩ := hsp; exact fin S7 fun s8 J8 => ⟨_, _, J8, q7⟩
          | ret u => obtain ⟨v7, t, H7, S7, r7, q7⟩ := hsp; exact fin S7 fun s8 J8 => ⟨_, _, _, J8, r7, q7⟩
        | false =>
          show wpAny _ X.A (handleBy (.ref ad) X.env hs') _ _ _
          exact ih h4 fl4 up4 (hno rfl)
      | @bare te cs b0 suite p ts hs' l2 ht hsu r ih =>
        intro h3 fl3 up3 w
        obtain ⟨b, hb1, hyes, hno⟩ := w
        have J3 : L2.Inv X pins s5 H5 { s' with heap := h3 } := J.landed nb fl3.1 (up.trans up3) os ag
        obtain ⟨oe3, vs3, he3, hz3, hd3⟩ := fl3.there
        refine wpAny_handleBy_cons (codeAny_handlers_test ?_) (by intro q; cases q)
        refine ht (X.pn ++ pins) s5 H5 _ ad cls b _ _ (inv_suite J3 ad) (fun A Q E s k q => wpAny_typeOf_ref (k _ _ he3) (hz3.1 ▸ q)) hb1 fun c h4 k4 LM => LM.here ?_
        have fl4 := fly_keeps k4 fl3
        have up4 : s'.heap.UpToSlots h4 := up3.trans (Heap.UpToSlots.of_keeps k4)
        cases b with
        | true =>
          refine codeAny_handlers_suite (HandSPX.lands_againZ fl4 fun h5 fl5 up5 => ?_)
          have J5 : L2.Inv X pins s5 H5 { s' with heap := h5 } := J.landed nb fl5.1 ((up.trans up4).trans up5) os ag
          refine wpAny_mono ((hsu ad (X.pn ++ pins)).run [] _ _ _ _ (inv_suite J5 ad) (hyes rfl)) (fun fl s7 hsp => ?_) (fun _ _ z => False.elim z)
          cases fl with
          | next => obtain ⟨t, H7, S7, q7⟩ := hsp; exact ⟨_, _, inv_out ok S7, q7⟩
          | brk => obtain ⟨t, H7, S7, q7⟩ := hsp; exact ⟨_, _, inv_out ok S7, q7⟩
          | cont => obtain ⟨t, H7, S7, q7⟩ := hsp; exact ⟨_, _, inv_out ok S7, q7⟩
          | ret u => obtain ⟨v7, t, H7, S7, r7, q7⟩ := hsp; exact ⟨_, _, _, inv_out ok S7, r7, q7⟩
        | false =>
          show wpAny _ X.A (handleBy (.ref ad) X.env hs') _ _ _
          exact ih h4 fl4 up4 (hno rfl)
    exact go _ _ hh h3 fl3 up3 w
  · cases fl with
    | next => obtain ⟨t, H1, J1, q⟩ := hsp; exact wpAny_execs_nil ⟨t, H1, J1.ofTry ok, q⟩
    | brk => obtain ⟨t, H1, J1, q⟩ := hsp; exact ⟨t, H1, J1.ofTry ok, q⟩
    | cont => obtain ⟨t, H1, J1, q⟩ := hsp; exact ⟨t, H1, J1.ofTry ok, q⟩
    | ret u => obtain ⟨v, t, H1, J1, r, q⟩ := hsp; exact ⟨v, t, H1, J1.ofTry ok, r, q⟩
end
def sSuO (oi : Option Nat) (r : SRes) : SRes := match oi with
  | some i => sSu i r
  | none => match r with
    | .exc _ _ _ => .stuck
    | r => r
abbrev HdM := List (Nat → Option Bool) × Option Nat × SM
def setO (e : En) (oi : Option Nat) (d : D) : En := match oi with
  | some i => e.set i (some d)
  | none => e
def hdR : List HdM → Nat → List (Nat × D) → SM
  | [], cn, fs, e, S => .exc (.exc cn fs) e S
  | (ts, oi, n) :: r, cn, fs, e, S => match tbAny ts cn with
    | some true => sSuO oi (n (setO e oi (.exc cn fs)) S)
    | some false => hdR r cn fs e S
    | none => .stuck
def sTryG (hs : List HdM) (m : SM) : SM := fun e S => match m e S with
  | .exc (.exc cn fs) e1 S1 => hdR hs cn fs e1 S1
  | .exc _ _ _ => .stuck
  | r => r
def TbOk (K : PySem.W.Frag) (mg : Str → Option Value) (t : Nat → Option Bool) (c : Value) : Prop := ∀ cn C q, t cn = some q → mg (cname cn) = some (.ref C) → PySem.W.exmOne K (.ref C) c = some q
inductive TbsOk (K : PySem.W.Frag) (mg : Str → Option Value) : List (Nat → Option Bool) → List Value → Prop
  | nil : TbsOk K mg [] []
  | cons {t : Nat → Option Bool} {c : Value} {ts : List (Nat → Option Bool)} {cs : List Value} (h : TbOk K mg t c) (r : TbsOk K mg ts cs) : TbsOk K mg (t :: ts) (c :: cs)
theorem TbsOk.any {K : PySem.W.Frag} {mg : Str → Option Value} {ts : List (Nat → Option Bool)} {cs : List Value} (h : TbsOk K mg ts cs) {cn : Nat} {C : Addr} {q : Bool} (e : tbAny ts cn = some q) (hC : mg (cname cn) = some (.ref C)) : PySem.W.exmAny K (.ref C) cs = some q := by
  induction h generalizing q with
  | nil => exact e
  | @cons t c ts cs h r ih =>
    unfold tbAny at e
    split at e
    · rename_i a b e1 e2
      cases e
      unfold PySem.W.exmAny
      rw [h cn C a e1 hC, ih e2]
    · cases e
inductive RHs (X : Cx) : List ExceptHandler → List HdM → Prop
  | nil : RHs X [] []
  | as {te : Expr} {cs : List Value} {ts : List (Nat → Option Bool)} {n : Str} {i : Nat} {b0 : Stmt} {suite : List Stmt} {p : Pos} {m : SM} {hs : List ExceptHandler} {l : List HdM} (ht : TestOk X te cs) (hts : TbsOk X.K X.mg ts cs) (hi : X.N[i]? = some n) (hln : X.env.kindOf n = some .local)
      (hsu : ∀ (ad : Addr) (pn : List (Addr × Obj)), RSs (X.suite ad pn) W0 (b0 :: suite) m) (r : RHs X hs l) : RHs X (.ExceptHandler (some te) (some n) (b0 :: suite) p :: hs) ((ts, some i, m) :: l)
  | bare {te : Expr} {cs : List Value} {ts : List (Nat → Option Bool)} {b0 : Stmt} {suite : List Stmt} {p : Pos} {m : SM} {hs : List ExceptHandler} {l : List HdM} (ht : TestOk X te cs) (hts : TbsOk X.K X.mg ts cs)
      (hsu : ∀ (ad : Addr) (pn : List (Addr × Obj)), RSs (X.suite ad pn) W0 (b0 :: suite) m) (r : RHs X hs l) : RHs X (.ExceptHandler (some te) none (b0 :: suite) p :: hs) ((ts, none, m) :: l)
section
variable {X : Cx} {W : WX} {body : List Stmt} {h0 : ExceptHandler} {hds : List ExceptHandler} {l : List HdM} {pos : Pos} {mt : SM} {k : Nat}
theorem RHs.clauses {hs : List ExceptHandler} {l : List HdM} (h : RHs X hs l) : ∃ l2 : List Hd, HdsG X hs l2 ∧ ∀ (D0 : Ends) (w1 : Wo) (e1 : En) (s1 : L2.St) (cn : Nat) (C : Addr) (fs : List (Nat × D)) (gs : List (Str × V)) (dd : Option Addr), Rep X.K X.mg w1 → RepE X.K X.mg w1 e1 s1 → X.mg (cname cn) = some (.ref C) → XfO w1 dd gs → RepF X.K X.mg w1 fs gs → PostS X W w1 (hdR l cn fs e1 w1.st) D0 → wHds X.K W D0 l2 (.ref C) dd s1 w1.hp := by
  induction h with
  | nil =>
    refine ⟨[], .nil, fun D w1 e1 s1 cn C fs gs dd R1 E1 hC hx rf P => ?_⟩
    exact P w1 s1 (.ref C) dd (Ext.refl w1) R1 rfl E1 ⟨cn, C, fs, gs, rfl, hC, rfl, hx, rf⟩
  | @as te cs ts n i b0 suite p m hs l ht hts hi hln hsu r ih =>
    obtain ⟨l2, g, ihw⟩ := ih
    refine ⟨(cs, some i, tS X W0 m) :: l2, .as ht hi hln hsu g, fun D w1 e1 s1 cn C fs gs dd R1 E1 hC hx rf P => ?_⟩
    rw [hdR] at P
    cases et : tbAny ts cn with
    | none => rw [et] at P; exact False.elim P
    | some q =>
      rw [et] at P
      refine ⟨q, hts.any et hC, ?_, ?_⟩
      · rintro rfl ad na
        have xp := put_ext (o := ExcO ad (.ref C) dd) R1 na
        refine ⟨w1.put ad (ExcO ad (.ref C) dd), e1.set i (some (.exc cn fs)), rfl, R1.put na, (E1.ext xp.toEx0).set i (.exc hC (put_st R1 na) (hx.ext xp.toEx0) (rf.ext xp.toEx0)), ?_⟩
        show PostS X W0 _ (m _ w1.st) _
        have P2 : PostS X W (w1.put ad (ExcO ad (.ref C) dd)) (sSu i (m (e1.set i (some (.exc cn fs))) w1.st)) D := PostS.ext P xp
        cases q2 : m (e1.set i (some (.exc cn fs))) w1.st with
        | nxt e S => rw [q2] at P2; exact fun w3 s3 x3 R3 st3 E3 => P2 w3 _ x3 R3 st3 (E3.gone i)
        | brk e S => rw [q2] at P2; exact fun w3 s3 x3 R3 st3 E3 => P2 w3 _ x3 R3 st3 (E3.gone i)
        | cnt e S => rw [q2] at P2; exact fun w3 s3 x3 R3 st3 E3 => P2 w3 _ x3 R3 st3 (E3.gone i)
        | ret e S => rw [q2] at P2; exact P2
        | exc y e S => rw [q2] at P2; exact False.elim P2
        | stuck => rw [q2] at P2; exact False.elim P2
      · rintro rfl
        exact ihw D w1 e1 s1 cn C fs gs dd R1 E1 hC hx rf P
  | @bare te cs ts b0 suite p m hs l ht hts hsu r ih =>
    obtain ⟨l2, g, ihw⟩ := ih
    refine ⟨(cs, none, tS X W0 m) :: l2, .bare ht hsu g, fun D w1 e1 s1 cn C fs gs dd R1 E1 hC hx rf P => ?_⟩
    rw [hdR] at P
    cases et : tbAny ts cn with
    | none => rw [et] at P; exact False.elim P
    | some q =>
      rw [et] at P
      refine ⟨q, hts.any et hC, ?_, ?_⟩
      · rintro rfl
        refine ⟨w1, e1, rfl, R1, E1, ?_⟩
        have P2 : PostS X W w1 (sSuO none (m e1 w1.st)) D := P
        show PostS X W0 _ (m e1 w1.st) _
        cases q2 : m e1 w1.st with
        | nxt e S => rw [q2] at P2; exact P2
        | brk e S => rw [q2] at P2; exact P2
        | cnt e S => rw [q2] at P2; exact P2
        | ret e S => rw [q2] at P2; exact P2
        | exc y e S => rw [q2] at P2; exact False.elim P2
        | stuck => rw [q2] at P2; exact False.elim P2
      · rintro rfl
        exact ihw D w1 e1 s1 cn C fs gs dd R1 E1 hC hx rf P
theorem rs_tryG (c : Cg X W k) (hb : ∀ (W' : WX) (pn : List (Addr × Obj)) (xe : Value → Shared → Prop), Cg (X.tr pn xe) W' k → RSs (X.tr pn xe) W' body mt) (hh : RHs X (h0 :: hds) l) : RS X W (.Try body (h0 :: hds) [] [] pos) (sTryG l mt) := by
  obtain ⟨l2, g, hw⟩ := RHs.clauses (W := W) hh
  refine ps_imp (ps_tryG (tb := fun W' => tS X W' mt) c.hs c.hf c.em c.nd c.tk (fun W' pn xe t po => hb W' pn xe (c.tr t po)) g) ?_
  rintro D s H ⟨w, en, rfl, R, E, P⟩
  refine ⟨w, en, rfl, R, E, ?_⟩
  unfold sTryG at P
  cases q : mt en w.st with
  | nxt e S => rw [q] at P; exact P
  | ret e S => rw [q] at P; exact P
  | brk e S => rw [q] at P; exact P
  | cnt e S => rw [q] at P; exact P
  | stuck => rw [q] at P; exact P
  | exc y e1 S1 =>
    rw [q] at P
    intro w1 s1 cls dd x1 R1 st1 E1 rx
    subst st1
    obtain ⟨cn, C, fs, gs, rfl, hC, rfl, hx, rf⟩ := rx
    exact hw D w1 e1 s1 cn C fs gs dd R1 E1 hC hx rf (PostS.ext P x1)
end
end G
namespace G
open PySem L2 PySem.Spec
section
variable {X : Cx} {pins : List (Addr × Obj)} {σ : L2.St} {H : Hp} {s : Shared}
theorem exc_inst {ad C : Addr} {dd : Option Addr} {gs : List (Str × V)} (I : L2.Inv X pins σ H s) (hH : H ad = some (ExcO ad (.ref C) dd)) (hx : (gs = [] ∧ dd = none) ∨ (gs ≠ [] ∧ ∃ x, dd = some x ∧ H x = some (.xd gs))) :
    ∃ o od, PySem.W.InstAt s.heap ad o C od ∧ ∀ n v, gs.lookup n = some v → ∃ u od', od = some od' ∧ RelV v u ∧ PySem.W.lookIn n od' = some (some u) := by
  obtain ⟨⟨o, vs, ho, hc1, hd1, hdt⟩, _⟩ := (show ObjOk X.prog X.w H s.heap ad (ExcO ad (.ref C) dd) from I.hok ad _ hH)
  obtain ⟨oc, od, oda, osl⟩ := o
  dsimp only at hc1 hd1 hdt
  subst hc1 hd1 hdt
  rcases hx with ⟨rfl, rfl⟩ | ⟨_, x, rfl, hd⟩
  · exact ⟨_, none, ⟨ho, rfl, rfl, trivial⟩, fun n v z => by cases z⟩
  · obtain ⟨mA, hns, hr⟩ := (show ObjOk X.prog X.w H s.heap x (.xd gs) from I.hok x _ hd)
    obtain ⟨od, hod, hl⟩ := lookIn_ns hns
    refine ⟨_, some od, ⟨ho, rfl, rfl, hod⟩, fun n v z => ?_⟩
    obtain ⟨u, hu, ru⟩ := RelO.some_of (v := v) (o := mA n) (by rw [← z]; exact hr n)
    exact ⟨u, od, rfl, ru, by rw [hl, hu]⟩
end
def rIsY (K : PySem.W.Frag) : List V → Hp → VK → Prop := fun xs H Q => ∃ (ad C : Addr) (dd : Option Addr) (gs : List (Str × V)) (cv : V) (u : Value) (bb : Bool), xs = [.ref ad, cv] ∧ ClsV cv u ∧ H ad = some (ExcO ad (.ref C) dd) ∧ ((gs = [] ∧ dd = none) ∨ (gs ≠ [] ∧ ∃ x, dd = some x ∧ H x = some (.xd gs))) ∧ ExcC K C ∧ PySem.W.kitOne K (.ref C) u = some bb ∧ Q (.bl bb) H
section
variable {X : Cx}
theorem clsSome {K : PySem.W.Frag} {C : Addr} (h : PySem.W.hasDictIn K C = true) : (PySem.W.clsIn K C).isSome = true := by
  obtain ⟨cd, hc, _⟩ := PySem.W.any_some h
  rw [hc]; rfl
theorem call_isY : CallR X (.builtin "isinstance") (rIsY X.K) := by
  intro pins s σ H xs us Q I r h
  obtain ⟨ad, C, dd, gs, cv, u, bb, rfl, k, hH, hx, hC, e, q⟩ := h
  obtain ⟨u1, u2, rfl, r1, r2⟩ := vals2 r
  cases (show u1 = Value.ref ad from r1)
  have e2 := k.eq r2
  subst e2
  obtain ⟨o, od, J, _⟩ := exc_inst I hH hx
  exact PySem.W.kia_one (PySem.W.kitx_exc (clsSome hC.hd) hC.hg hC.hk hC.hs hC.ha hC.hn hC.ht hC.hm) I.kIn J e (fun z => nomatch z) fun tk => ⟨.bl bb, H, I.kept (t' := tk) fun _ _ z => z, rfl, q⟩
end
theorem XfO.plain {w : Wo} {dd : Option Addr} {gs : List (Str × V)} (h : XfO w dd gs) : (gs = [] ∧ dd = none) ∨ (gs ≠ [] ∧ ∃ x, dd = some x ∧ w.hp x = some (.xd gs)) := h.imp id fun ⟨z, x, q, s⟩ => ⟨z, x, q, s.1⟩
section
variable {X : Cx} {W : WX} {a b c e o : Expr} {es : List Expr} {ma mb mc me : EM} {ta tb : TM} {pos : Pos} {x : Str} {p : Pos} {j k : Nat}
def isY (tb : Nat → Option Bool) : D → Option Bool
  | .exc cn _ => tb cn
  | _ => none
def eIsY (tb : Nat → Option Bool) (m : EM) : EM := fun e S => (m e S).bind fun x S1 => lf ((isY tb x).map .bl) S1
theorem re_isY {T : Str} {p2 : Pos} {cv : V} {u : Value} {tb : Nat → Option Bool} (hm : X.mg "isinstance" = none) (ha : RE X W a ma) (hT : PE X (.Name T p2) (tC cv)) (hcv : ClsV cv u) (htb : KtOk X.K X.mg tb u) (hg : Gl X "isinstance" := by rfl)
    (he : starEach (a :: [.Name T p2]) X.env = (false, eval a X.env) :: starEach [.Name T p2] X.env := by rfl) (hpl : (backTo pos (starEach [.Name T p2] X.env)).any (·.1) = false := by rfl) (hs2 : starEach [.Name T p2] X.env = (false, eval (.Name T p2) X.env) :: starEach [] X.env := by rfl) :
    RE X W (.Call (.Name "isinstance" p) [a, .Name T p2] [] pos) (eIsY tb ma) := by
  refine pe_imp (pe_callB call_isY hg hm bt_isinstance (pa_cons ha (pa_cons hT pa_nil hs2) he) (by decide) (by decide) he hpl) ?_
  rintro s H Q ⟨w, en, rfl, R, E, P⟩
  refine ⟨w, en, rfl, R, E, (Post.bind P).imp ?_⟩
  rintro v H1 ⟨w1, d, rfl, X1, R1, rx, P1⟩
  dsimp only at P1
  unfold isY at P1
  split at P1
  · rename_i cn fs
    cases rx with
    | @exc _ C ad dd _ gs hC st hx rf =>
      cases ht : tb cn with
      | none => rw [ht] at P1; exact False.elim P1
      | some q =>
        rw [ht] at P1
        obtain ⟨k1, k2⟩ := htb cn C q ht hC
        exact ⟨ad, C, dd, gs, cv, u, q, rfl, hcv, st.1, hx.plain, k1, k2, Post.now P1 R1 (.bl _)⟩
  · exact False.elim P1
theorem KtsOk.any {K : PySem.W.Frag} {mg : Str → Option Value} {ts : List (Nat → Option Bool)} {cs : List Value} (h : KtsOk K mg ts cs) {cn : Nat} {C : Addr} {q : Bool} (e : tbAny ts cn = some q) (hC : mg (cname cn) = some (.ref C)) : PySem.W.kitAny K (.ref C) cs = some q := by
  induction h generalizing q with
  | nil => exact e
  | @cons t c ts cs h r ih =>
    unfold tbAny at e
    split at e
    · rename_i b1 b2 e1 e2
      cases e
      unfold PySem.W.kitAny
      rw [(h cn C b1 e1 hC).2]
      cases b1 with
      | true => rfl
      | false => exact ih e2
    · cases e
def fldY (cs : List Nat) (f : Nat) : D → Option D
  | .exc cn fs => if cs.contains cn then fs.lookup f else none
  | _ => none
def eFldY (cs : List Nat) (f : Nat) (m : EM) : EM := fun e S => (m e S).bind fun x S1 => lf (fldY cs f x) S1
def XcF (K : PySem.W.Frag) (mg : Str → Option Value) (cs : List Nat) (f : Nat) : Prop := ∀ cn C, cs.contains cn = true → mg (cname cn) = some (.ref C) → ExcC K C ∧ PySem.W.findIn K (.ref C) (fname f) = some none
def tXg (K : PySem.W.Frag) (n : Str) (te : TE) : TE := fun σ H Q => te σ H fun x H1 => ∃ (ad C : Addr) (dd : Option Addr) (gs : List (Str × V)) (v : V), x = .ref ad ∧ H1 ad = some (ExcO ad (.ref C) dd) ∧ ((gs = [] ∧ dd = none) ∨ (gs ≠ [] ∧ ∃ x, dd = some x ∧ H1 x = some (.xd gs))) ∧ ExcC K C ∧ PySem.W.findIn K (.ref C) n = some none ∧ gs.lookup n = some v ∧ Q v H1
theorem pe_xg {e : Expr} {te : TE} {n : Str} (he : PE X e te) (hb : attributeBase e n X.env (eval e X.env) = eval e X.env := by rfl) : PE X (.Attribute e n pos) (tXg X.K n te) := by
  refine ⟨fun pins s σ H Q I h => ?_⟩
  refine attr_of hb (thn (he.run pins s σ H _ I h) fun u s1 hh => ?_)
  obtain ⟨z, H1, I1, rx, ad, C, dd, gs, v, rfl, hH, hx, hC, hno, hl, q⟩ := hh
  obtain rfl : u = Value.ref ad := rx
  obtain ⟨o, od, J, hf⟩ := exc_inst I1 hH hx
  obtain ⟨u, od', rfl, ru, hlk⟩ := hf n v hl
  exact HandSPX.exc_get I1.kIn J hC.hg hC.hk hC.hs (PySem.W.findObj_own hC.hd hno rfl hlk) (handed_of ru) ⟨v, H1, I1.tok _, ru, q⟩
theorem re_fldY {cs : List Nat} (f : Nat) (hcl : XcF X.K X.mg cs f) (ha : RE X W a ma) (hf : f < 48 := by decide) (hx : fname f = x := by rfl) (hb : attributeBase a x X.env (eval a X.env) = eval a X.env := by rfl) : RE X W (.Attribute a x pos) (eFldY cs f ma) := by
  refine pe_imp (pe_xg ha hb) ?_
  rintro s H Q ⟨w, en, rfl, R, E, P⟩
  refine ⟨w, en, rfl, R, E, (Post.bind P).imp ?_⟩
  rintro v H1 ⟨w1, d, rfl, X1, R1, rd, P1⟩
  dsimp only at P1
  unfold fldY at P1
  split at P1
  · rename_i cn fs
    split at P1
    · rename_i hc
      cases ql : fs.lookup f with
      | none => rw [ql] at P1; exact False.elim P1
      | some d' =>
        rw [ql] at P1
        cases rd with
        | @exc _ C ad dd _ gs hC st hx' rf =>
          obtain ⟨v', h1, h2⟩ := rf.get hf ql
          obtain ⟨k1, k2⟩ := hcl cn C hc hC
          rw [hx] at h1 k2
          exact ⟨ad, C, dd, gs, v', rfl, st.1, hx'.plain, k1, k2, h1, Post.now P1 R1 h2⟩
    · exact False.elim P1
  · exact False.elim P1
def fReprP (S : Store) (ds : List D) : Option D := match ds with
  | [.non] => some (.str "None")
  | [.bl b] => some (.str (if b then "True" else "False"))
  | [.int i] => if i.natAbs.log2 < 1920 then some (.str (toString i)) else none
  | [.str x] => if (reprText x).length ≤ sizeLine then some (.str (reprText x)) else none
  | _ => fRepr S ds
theorem cm_reprP (rm : RoomG k X.A) : CallR X (.builtin "repr") (CaM X fReprP) := by
  intro pins s σ H xs us Q I r h
  obtain ⟨w, ds, E, rfl, R, q, P⟩ := h
  unfold fReprP at P
  split at P
  · obtain ⟨v, rfl, rv⟩ := q.one_inv
    cases rv
    obtain ⟨u, rfl, ru⟩ := vals1 r
    cases ru
    exact PySem.P.repr_of_none ⟨.str _, w.hp, I.tok _, ⟨_, rfl⟩, Post.now P R (.str _)⟩
  · obtain ⟨v, rfl, rv⟩ := q.one_inv
    cases rv
    obtain ⟨u, rfl, ru⟩ := vals1 r
    cases ru
    exact PySem.P.repr_of_bool ⟨.str _, w.hp, I.tok _, ⟨_, rfl⟩, Post.now P R (.str _)⟩
  · obtain ⟨v, rfl, rv⟩ := q.one_inv
    cases rv
    split at P
    · rename_i hz
      obtain ⟨u, rfl, t, rfl⟩ := vals1 r
      exact PySem.P.repr_of_int hz ⟨.str _, w.hp, I.tok _, ⟨_, rfl⟩, Post.now P R (.str _)⟩
    · exact False.elim P
  · obtain ⟨v, rfl, rv⟩ := q.one_inv
    cases rv
    split at P
    · rename_i hz
      obtain ⟨u, rfl, t, rfl⟩ := vals1 r
      exact PySem.P.repr_of_str ⟨.str _, w.hp, I.tok _, ⟨_, rfl⟩, Post.now P R (.str _)⟩ hz
    · exact False.elim P
  · exact cm_repr rm pins s σ w.hp _ us Q I r ⟨w, ds, E, rfl, R, q, P⟩
end
end G
namespace G
open PySem L2 PySem.Spec
section
variable {K : PySem.W.Frag}
theorem xoL_ok {C : Addr} {tl : List Value} {nw : String} (h : xoL K C tl nw = true) : ∃ nm q N bs bm sn sub ab col dd k0 k1 k2 k3 k5, K.lookup C = some (excClassObj nm q C N bs bm true sn sub ab col dd k0 k1 k2 k3 k5 nw) ∧ PySem.W.excTail tl bm = true := by
  unfold xoL at h
  split at h
  · rename_i c dd cd sl ho
    obtain ⟨h1, h2⟩ := He.ba h
    have h1 := of_decide_eq_true h1
    subst h1
    unfold xoC at h2
    split at h2
    · rename_i C' bm k0 k1 k2 k3 n k5 hm hs
      obtain ⟨e1, h2⟩ := He.ba h2
      obtain ⟨e2, h2⟩ := He.ba h2
      obtain ⟨e3, h2⟩ := He.ba h2
      obtain ⟨e4, e5⟩ := He.ba h2
      have e1 := of_decide_eq_true e1
      have e2 := of_decide_eq_true e2
      obtain ⟨nm, bs, mro, N, qn, hd, sn, sub, ab, col, del⟩ := cd
      dsimp only at hm e3 e4
      obtain ⟨l⟩ := sl
      dsimp only at hs
      subst e1 e2 e4 hm hs
      have e3 : del = false := by simpa using e3
      subst e3
      exact ⟨nm, qn, N, bs, bm, sn, sub, ab, col, dd, k0, k1, k2, k3, k5, ho, e5⟩
    · cases h2
  · cases h
theorem xoB_ok {x : Str} {tl : List Value} {nw : String} (h : xoB x tl nw K = true) : XoC K (He.ga K x) nw tl := by
  obtain ⟨c1, c⟩ := He.ba h
  obtain ⟨c2, c⟩ := He.ba c
  obtain ⟨c3, c⟩ := He.ba c
  obtain ⟨c4, c5⟩ := He.ba c
  exact ⟨xoL_ok c1, He.eqO_ok c2, of_decide_eq_true c3, of_decide_eq_true c4, c5⟩
theorem iniB_ok {x f : Str} (h : iniB x f K = true) : PySem.W.findIn K (.ref (He.ga K x)) "__init__" = some (some (.ref (He.fAd K (x, some "__init__")))) ∧ PySem.W.typeIn K (.ref (He.fAd K (x, some "__init__"))) = some (.type "function") ∧ PySem.W.findIn K (.ref (He.ga K x)) f = some none := by
  obtain ⟨c1, c⟩ := He.ba h
  obtain ⟨c2, c3⟩ := He.ba c
  exact ⟨He.eqO_ok c1, of_decide_eq_true c2, He.eqO_ok c3⟩
theorem fcB_ok {C : Addr} {ini : String} (h : fcB K C ini = true) : PySem.W.findCls K (.ref C) (.type "type") "__init__" = some (.val (.builtin ini)) := by
  unfold fcB at h
  split at h
  · rename_i n e
    rw [e, of_decide_eq_true h]
  · cases h
theorem hdB_ok {x : Str} {ini : String} (h : hdB x ini K = true) : HdC K (He.ga K x) ini := by
  obtain ⟨c1, c⟩ := He.ba h
  obtain ⟨c2, c⟩ := He.ba c
  obtain ⟨c3, c4⟩ := He.ba c
  exact ⟨He.eqO_ok c1, c2, fcB_ok c3, c4⟩
theorem xcf_at {h : Heap} {mg : Str → Option Value} (X : K.In h) (Y : h.Ns mainGlobals mg) {f : Nat} {cs : List Nat} (c : xcfB f cs K = true) : XcF K mg cs f := by
  intro cn C hc hC
  have m : cn ∈ cs := by simpa using hc
  obtain ⟨g1, g2⟩ := He.ba (List.all_eq_true.mp c cn m)
  obtain ⟨g3, g4⟩ := He.ba g2
  have g := glo_one X Y g1
  rw [g] at hC
  cases hC
  exact ⟨exqB_ok g3, He.eqO_ok g4⟩
end
end G
namespace G
open PySem L2 PySem.Spec
def isTyO (S : Store) (y : Ty) (d : D) : Option Bool := match tyD S d with
  | some t => some (t.is y)
  | none => match insD S d with
    | some (c, _) => if ownCs.contains c then some false else none
    | none => none
section
variable {X : Cx} {W : WX} {a b c e o : Expr} {es : List Expr} {ma mb mc me : EM} {pos : Pos} {x : Str} {p : Pos} {j k : Nat}
def eIsTyO (y : Ty) (m : EM) : EM := fun e S => (m e S).bind fun x S1 => lf ((isTyO S1 y x).map .bl) S1
end
end G
namespace G
open PySem L2
variable {X : Cx} {W : WX} {a b c o e : Expr} {es : List Expr} {pos : Pos} {ma mb : EM}
def rangeN (lo : Int) (n : Nat) : List D := (List.range n).map fun k => .int (lo - (k : Nat))
open Classical in
noncomputable def iRgN (m : AM) : AM := fun e S => (m e S).bind fun ds S1 => match ds with
  | [.int i, .int j, .int (.negSucc 0)] => if -(2 ^ 62) ≤ i ∧ i < 2 ^ 62 ∧ -(2 ^ 62) ≤ j ∧ j < 2 ^ 62 then .ok (rangeN i (i - j).toNat) S1 else .stuck
  | _ => .stuck
def eTm (f : Store → D → List D → Option D) (a : EM) (m : AM) : EM := fun e S => (a e S).bind fun x S1 => match x with
  | .str z => (m e S1).bind fun xs S2 => lf (f S2 (.str z) xs) S2
  | _ => .stuck
def strsD : List D → Option (List Str)
  | [] => some []
  | .str x :: l => (strsD l).map (x :: ·)
  | _ => none
theorem RepL.strs {K : PySem.W.Frag} {mg : Str → Option Value} {w : Wo} {l : List D} {vs : List V} {ys : List Str} (h : RepL K mg w l vs) (e : strsD l = some ys) : vs = ys.map V.str := by
  induction l generalizing vs ys with
  | nil => cases h; cases e; rfl
  | cons d l ih =>
    cases h with
    | cons r t =>
      cases d with
      | str x =>
        obtain ⟨zs, e1, rfl⟩ := Option.map_eq_some_iff.mp e
        cases r
        rw [ih t e1]; rfl
      | _ => cases e
end G
namespace G
open PySem L2 PySem.Spec
section
variable {X : Cx} {W : WX} {k : Nat}
def fReprD (S : Store) (ds : List D) : Option D := match ds with
  | [.dic [] []] => some (.str "{}")
  | _ => fReprP S ds
theorem cm_reprD (rm : RoomG k X.A) : CallR X (.builtin "repr") (CaM X fReprD) := by
  intro pins s σ H xs us Q I r h
  obtain ⟨w, ds, E, rfl, R, q, P⟩ := h
  unfold fReprD at P
  split at P
  · obtain ⟨v, rfl, rv⟩ := q.one_inv
    cases rv with
    | dic st hz rl =>
      cases rl
      obtain ⟨u, rfl, ru⟩ := vals1 r
      cases ru
      obtain ⟨_, hy, vs, kv, o, es, ep, ho, hc, hd, _, hp, _⟩ := I.hok _ _ st.1
      cases kv
      have he : es.toList = [] := by
        generalize es.toList = l at hp
        cases hp; rfl
      have rd : Reads s.heap (.ref _) (.dict []) _ := Reads.dict ho hc.1 hd (by rw [he]; exact .nil) (by rw [he]; exact .nil)
      have hu := rm.units
      exact PySem.repr_of_reads' rd rfl (fun _ => by
        simp only [List.append_nil, List.mem_cons, List.not_mem_nil, or_false]
        intro z; rw [z] at hy; simp at hy) rm.gd (by
        have : (PyData.dict []).depth ≤ 2 := by decide
        omega) (fun _ _ z => z) (fun h' t tk kp => ⟨.str _, w.hp, I.kept kp, ⟨_, rfl⟩, Post.now P R (.str _)⟩) (by decide)
  · exact cm_reprP rm pins s σ w.hp _ us Q I r ⟨w, ds, E, rfl, R, q, P⟩
end
end G
namespace G
open PySem L2 PySem.Spec
end G
namespace G
open PySem L2 PySem.Spec
end G
namespace G
open PySem L2 PySem.Spec PyProof.Rows
def frzC : Cell → Option Cell
  | .dk kvs => some (.fk kvs)
  | .ts ks => some (.fs ks)
  | _ => none
def thw (n : Nat) (c : Cell) : SRes → SRes
  | .nxt e S => .nxt e (S.set n c)
  | .brk e S => .brk e (S.set n c)
  | .cnt e S => .cnt e (S.set n c)
  | .ret d S => .ret d (S.set n c)
  | _ => .stuck
def sLkA (n : Nat) (c : Cell) (o : Option Cell) (m : SM) : SM := fun e S => match o with
  | some c' => thw n c (m e (S.set n c'))
  | none => .stuck
def sLkB (n : Nat) (o : Option Cell) (m : SM) : SM := fun e S => match o with
  | some c => sLkA n c (frzC c) m e S
  | none => .stuck
def sLk (lo : En → Store → Option Nat) (m : SM) : SM := fun e S => match lo e S with
  | some n => sLkB n S[n]? m e S
  | none => .stuck
section
variable {K : PySem.W.Frag} {mg : Str → Option Value} {w : Wo}
theorem lock_w (R : Rep K mg w) {n : Nat} {a : Addr} {c c' : Cell} (hn : w.al[n]? = some a) (hc : w.st[n]? = some c) (hf : frzC c = some c') :
    ∃ u, w.hp a = some u ∧ Mut (some u) ∧ ∀ od, Rep K mg (w.wr n a (.frz od u) c') ∧ Ext w (w.wr n a (.frz od u) c') ∧
      ∀ w1, Ext (w.wr n a (.frz od u) c') w1 → Rep K mg w1 → w1.hp a = some (.frz od u) ∧ Ext w (w1.wr n a u c) ∧ Rep K mg (w1.wr n a u c) ∧ Ex0 w1 (w1.wr n a u c) := by
  have key : ∀ u : HO, w.hp a = some u → Mut (some u) → c ≠ .dead → c' ≠ .dead → c.frz = false → c'.frz = true → (∀ od, CellR K mg (w.wr n a (.frz od u) c') a c') → (∀ w2, Ex0 w w2 → w2.hp a = some u → CellR K mg w2 a c) →
      ∃ u, w.hp a = some u ∧ Mut (some u) ∧ ∀ od, Rep K mg (w.wr n a (.frz od u) c') ∧ Ext w (w.wr n a (.frz od u) c') ∧
      ∀ w1, Ext (w.wr n a (.frz od u) c') w1 → Rep K mg w1 → w1.hp a = some (.frz od u) ∧ Ext w (w1.wr n a u c) ∧ Rep K mg (w1.wr n a u c) ∧ Ex0 w1 (w1.wr n a u c) := by
    intro u hu mu d1 d2 z1 z2 hc1 hc2
    refine ⟨u, hu, mu, fun od => ?_⟩
    have X0 : Ext w (w.wr n a (.frz od u) c') := wr_ext R hn hc d1 z1
    refine ⟨R.wr hn hc d1 (hc1 od), X0, fun w1 X1 R1 => ?_⟩
    have hl : n < w.st.length := (List.getElem?_eq_some_iff.mp hc).1
    obtain ⟨g1, g2⟩ := X1.fz n a c' hn (by show (w.st.set n c')[n]? = _; exact List.getElem?_set_self hl) z2
    have g3 : w1.hp a = some (.frz od u) := g2.trans upd_same
    have g4 : w1.al[n]? = some a := X1.get hn
    have x2 : Ex0 w1 (w1.wr n a u c) := wr_ex0 g4 g1 d2
    have X01 := X0.trans X1
    have x02 : Ex0 w (w1.wr n a u c) := X01.toEx0.trans x2
    refine ⟨g3, ⟨x02, X01.hid, fun b hb => ?_, fun m b c0 h1 h2 h3 => ?_⟩, R1.wr g4 g1 d2 (hc2 _ x02 upd_same), x2⟩
    · refine Eq.trans (show upd w1.hp a u b = w1.hp b from upd_ne fun z => ?_) (X01.kh b hb)
      exact (R.hid b hb).1 (z ▸ List.mem_of_getElem? hn)
    · obtain ⟨f1, f2⟩ := X01.fz m b c0 h1 h2 h3
      have ne : m ≠ n := fun z => by
        subst z
        rw [hc] at h2; cases h2
        rw [z1] at h3; cases h3
      refine ⟨?_, ?_⟩
      · show (w1.st.set n c)[m]? = _
        rw [List.getElem?_set_ne (Ne.symm ne)]; exact f1
      · refine Eq.trans (show upd w1.hp a u b = w1.hp b from upd_ne fun z => ?_) f2
        exact ne (nd_get R.nd h1 (z ▸ hn))
  have hC := R.cell n a c hn hc
  unfold frzC at hf
  split at hf
  · cases hf
    obtain ⟨us, p, r⟩ := hC
    exact key _ p trivial (by intro z; cases z) (by intro z; cases z) rfl rfl (fun od => ⟨od, us, upd_same, r.ext (wr_ex0 hn hc (by intro z; cases z))⟩) (fun w2 x2 e => ⟨us, e, r.ext x2⟩)
  · cases hf
    obtain ⟨h1, h2, xs, h3, p, h5⟩ := hC
    exact key _ p trivial (by intro z; cases z) (by intro z; cases z) rfl rfl (fun od => ⟨h1, h2, od, xs, h3, upd_same, fun x hx => (h5 x hx).ext (wr_ex0 hn hc (by intro z; cases z))⟩) (fun w2 x2 e => ⟨h1, h2, xs, h3, e, fun x hx => (h5 x hx).ext x2⟩)
  · cases hf
end
section
variable {X : Cx} {W : WX} {a b c e o : Expr} {es : List Expr} {ma mb mc me : EM} {ta tb : TM} {pos : Pos} {m : SM} {st : Stmt}
theorem rs_lk {lo : En → Store → Option Nat} (h : RS X W st m) : RS X W st (sLk lo m) := by
  refine ps_imp (ps_lock h) ?_
  rintro D s H ⟨w, en, rfl, R, E, P⟩
  unfold sLk at P
  split at P
  · rename_i n hlo
    cases hc : w.st[n]? with
    | none => rw [hc] at P; exact False.elim P
    | some c =>
      rw [hc] at P
      unfold sLkB at P
      dsimp only at P
      cases hf : frzC c with
      | none => rw [hf] at P; exact False.elim P
      | some c' =>
        rw [hf] at P
        unfold sLkA at P
        dsimp only at P
        have hl : n < w.al.length := by rw [R.len]; exact (List.getElem?_eq_some_iff.mp hc).1
        have hn : w.al[n]? = some w.al[n] := List.getElem?_eq_getElem hl
        generalize w.al[n] = a at hn
        obtain ⟨u, hu, mu, hod⟩ := lock_w R hn hc hf
        refine ⟨a, u, hu, mu, fun od => ?_⟩
        obtain ⟨Rl, Xl, back⟩ := hod od
        refine ⟨w.wr n a (.frz od u) c', en, rfl, Rl, E.ext Xl.toEx0, ?_⟩
        show PostS X W (w.wr n a (.frz od u) c') (m en (w.st.set n c')) _
        cases hm : m en (w.st.set n c') with
        | nxt e1 S1 =>
          rw [hm] at P
          intro w1 s1 X1 R1 st1 E1
          obtain ⟨h1, X2, R2, x2⟩ := back w1 X1 R1
          exact ⟨h1, P (w1.wr n a u c) s1 X2 R2 (by show w1.st.set n c = S1.set n c; rw [st1]) (E1.ext x2)⟩
        | brk e1 S1 =>
          rw [hm] at P
          intro w1 s1 X1 R1 st1 E1
          obtain ⟨h1, X2, R2, x2⟩ := back w1 X1 R1
          exact ⟨h1, P (w1.wr n a u c) s1 X2 R2 (by show w1.st.set n c = S1.set n c; rw [st1]) (E1.ext x2)⟩
        | cnt e1 S1 =>
          rw [hm] at P
          intro w1 s1 X1 R1 st1 E1
          obtain ⟨h1, X2, R2, x2⟩ := back w1 X1 R1
          exact ⟨h1, P (w1.wr n a u c) s1 X2 R2 (by show w1.st.set n c = S1.set n c; rw [st1]) (E1.ext x2)⟩
        | ret d S1 =>
          rw [hm] at P
          intro w1 v X1 R1 st1 r1
          obtain ⟨h1, X2, R2, x2⟩ := back w1 X1 R1
          exact ⟨h1, P (w1.wr n a u c) v X2 R2 (by show w1.st.set n c = S1.set n c; rw [st1]) (r1.ext x2)⟩
        | exc x e1 S1 => rw [hm] at P; exact False.elim P
        | stuck => rw [hm] at P; exact False.elim P
  · exact False.elim P
end
end G
namespace G
open PySem L2 PySem.Spec PyProof.Rows
def keyOf : Key → D
  | .inl i => .int i
  | .inr x => .str x
def fkD (S : Store) : D → Option (List (Key × D))
  | .loc n => match S[n]? with
    | some (.fk l) => some l
    | _ => none
  | _ => none
def fsD (S : Store) : D → Option (List (List Int))
  | .loc n => match S[n]? with
    | some (.fs l) => some l
    | _ => none
  | _ => none
def iDv (m : EM) : AM := fun e S => (m e S).bind fun d S1 => match fkD S1 d with
  | some l => .ok (l.map fun kv => kv.2) S1
  | none => .stuck
def iDi (m : EM) : AM := fun e S => (m e S).bind fun d S1 => match fkD S1 d with
  | some l => .ok (l.map fun kv => .tup [keyOf kv.1, kv.2]) S1
  | none => .stuck
def iDk (m : EM) : AM := fun e S => (m e S).bind fun d S1 => match fkD S1 d with
  | some l => .ok (l.map fun kv => keyOf kv.1) S1
  | none => .stuck
def intsD (k : List Int) : D := .tup (k.map D.int)
def iTk (m : EM) : AM := fun e S => (m e S).bind fun d S1 => match fsD S1 d with
  | some l => .ok (l.map intsD) S1
  | none => .stuck
section
variable {K : PySem.W.Frag} {mg : Str → Option Value} {w : Wo}
theorem RepD.keyOf (k : Key) : RepD K mg w (G.keyOf k) (kV k) := by
  cases k with
  | inl i => exact .int i
  | inr x => exact .str x
theorem RepK.getV {κ : Type} {kvs : List (κ × D)} {us : List (κ × V)} {i : Nat} {k : κ} {v : V} : RepK κ K mg w kvs us → us[i]? = some (k, v) → ∃ d, kvs[i]? = some (k, d) ∧ RepD K mg w d v
  | .nil, h => by simp at h
  | .cons r t, h => by
    cases i with
    | zero => simp at h; obtain ⟨rfl, rfl⟩ := h; exact ⟨_, by simp, r⟩
    | succ i =>
      obtain ⟨d, e, q⟩ := RepK.getV (i := i) t (by simpa using h)
      exact ⟨d, by simpa using e, q⟩
theorem fkD_R {d : D} {v : V} {l : List (Key × D)} (R : Rep K mg w) (r : RepD K mg w d v) (e : fkD w.st d = some l) :
    ∃ n a o us, d = .loc n ∧ v = .ref a ∧ w.al[n]? = some a ∧ w.st[n]? = some (.fk l) ∧ w.hp a = some (.frz o (.dK us)) ∧ RepK Key K mg w l us := by
  unfold fkD at e
  split at e
  · rename_i n
    split at e
    · rename_i l' hc
      cases e
      cases r with
      | @loc _ a hn =>
        obtain ⟨o, us, p, rk⟩ := R.cell _ _ _ hn hc
        exact ⟨n, a, o, us, rfl, rfl, hn, hc, p, rk⟩
    · cases e
  · cases e
theorem fsD_R {d : D} {v : V} {l : List (List Int)} (R : Rep K mg w) (r : RepD K mg w d v) (e : fsD w.st d = some l) :
    ∃ (n : Nat) (a : Addr) (o : Obj) (xs : List (List Int × Addr)), d = .loc n ∧ v = .ref a ∧ w.al[n]? = some a ∧ w.st[n]? = some (.fs l) ∧ (a == sysModules) = false ∧ xs.map (·.1) = l ∧ w.hp a = some (.frz o (.ext (TsP a xs))) ∧ ∀ x, x ∈ xs → StT K w x.2 (x.1.map V.int) := by
  unfold fsD at e
  split at e
  · rename_i n
    split at e
    · rename_i l' hc
      cases e
      cases r with
      | @loc _ a hn =>
        obtain ⟨h1, h2, o, xs, h3, h4, h5⟩ := R.cell _ _ _ hn hc
        exact ⟨n, a, o, xs, rfl, rfl, hn, hc, h1, h3, h4, h5⟩
    · cases e
  · cases e
theorem repL_ints (k : List Int) : RepL K mg w (k.map D.int) (k.map V.int) := by
  induction k with
  | nil => exact .nil
  | cons i k ih => exact .cons (.int i) ih
end
def ItkE (d : Addr) (o : Obj) (xs : List (List Int × Addr)) : It :=
  ⟨fun i H => H d = some (.frz o (.ext (TsP d xs))) ∧ i < xs.length, fun i H x H' => H' = H ∧ ∃ (k : List Int) (q : Addr), xs[i]? = some (k, q) ∧ x = .ref q, fun i H => H d = some (.frz o (.ext (TsP d xs))) ∧ xs.length ≤ i⟩
theorem inv_frzE {X : Cx} {pins : List (Addr × Obj)} {σ : L2.St} {H : Hp} {s : Shared} {d : Addr} {o : Obj} {xs : List (List Int × Addr)} (I : Inv X pins σ H s) (h : H d = some (.frz o (.ext (TsP d xs)))) :
    s.heap.get? d = some o ∧ o.ExactDict ∧ ∃ (es : Array DictEntry) (ep : Nat), o.data = .dict es ep ∧ es.size = xs.length ∧ ∀ (i : Nat) (k : List Int) (q : Addr), xs[i]? = some (k, q) → ∃ en : DictEntry, es[i]? = some en ∧ en.key = .ref q := by
  obtain ⟨hd, ⟨o', es, ep, ho, hx, hdt, he, hnd⟩, _⟩ := I.hok d _ h
  rw [hd] at ho; cases ho
  refine ⟨hd, hx, es, ep, hdt, ?_, fun i k q e => ?_⟩
  · have := congrArg List.length he
    simpa using this
  · have e1 : es.toList[i]? = some ⟨hashL k, .ref q, .bool true⟩ := by rw [he, List.getElem?_map, e]; rfl
    exact ⟨_, by simpa using e1, rfl⟩
theorem turn_keysE {P : Program} {w : World} {K : PySem.W.Frag} {tg : Expr} {d : Addr} {o : Obj} {es : Array DictEntry} {ep : Nat} {xs : List (List Int × Addr)} (it : Addr) (hod : o.data = .dict es ep) : Turn P w K tg (ItkE d o xs) [it] it (fun i h => h.IsKeyIter it d i xs.length ep) where
  mem := by simp
  obj := fun i h st b hb => by
    have e : b = it := by simpa using hb
    subst e
    obtain ⟨oi, e, c, dd⟩ := st
    exact ⟨oi, e, fun v z => by rw [dd] at z; cases z⟩
  keep := fun i h h' st k => st.at fun oi e => k it (by simp) oi e
  item := by
    intro X hP hw hK hc i pins s σ H E I hf st hg
    subst hP hw hK
    obtain ⟨hd, hi⟩ := hg
    obtain ⟨f0, f1, f2, f3, f4, f5⟩ := hf it (by simp)
    obtain ⟨hgd, hx, es', ep', hdt, hsz, ent⟩ := inv_frzE I hd
    obtain ⟨rfl, rfl⟩ := dict_ep hod hdt
    obtain ⟨⟨k, q⟩, hkv⟩ : ∃ p, xs[i]? = some p := ⟨xs[i], List.getElem?_eq_getElem hi⟩
    obtain ⟨en, hen, hkey⟩ := ent i k q hkv
    refine next_key_item st hgd hdt hsz hen fun h' st' sb => ?_
    have I1 : Inv X pins σ H { s with heap := h' } := I.turned (t' := s.toks) (fun b ob hb e => (sb.2 b hb).trans e) f0 f1 f3 f4 f5
    obtain ⟨oi, e, c, dd⟩ := id st'
    exact ⟨en.key, rfl, go_of (s := { s with heap := h' }) e c dd (by decide) ⟨.ref q, H, I1, hkey, ⟨rfl, k, q, hkv, rfl⟩, st', fun b hb => (hf b hb).1⟩⟩
  done := by
    intro X hP hw hK hc i pins s σ H E I hf st hg
    subst hP hw hK
    obtain ⟨hd, hi⟩ := hg
    obtain ⟨f0, f1, f2, f3, f4, f5⟩ := hf it (by simp)
    obtain ⟨hgd, hx, es', ep', hdt, hsz, ent⟩ := inv_frzE I hd
    obtain ⟨rfl, rfl⟩ := dict_ep hod hdt
    exact next_key_end (I.ok.hd hc) st hgd hdt hsz hi fun h' eb => ⟨rfl, I.turned (t' := s.toks) (fun b ob hb e => eb b ob hb e) f0 f1 f3 f4 f5⟩
  self := fun A i s Q E st h => by
    refine wpAny_pyIter_slot st.typeIs F.slot_dict_keyiterator_iter (wpAny_call_entry F.slot_dict_keyiterator_iter st.typeIs F.entry_dict_keyiterator_iter ?_ (F.args_dict_keyiterator_iter_1 _))
    show wpAny _ _ (ret (.ref it)) _ _ s
    exact wpAny_pure ⟨_, rfl, "dict_keyiterator", _, st.typeIs, F.slot_dict_keyiterator_next.lookup, h⟩
section
variable {X : Cx} {W : WX} {a b c e o : Expr} {ma mb : EM} {tg : Expr} {td : TE} {apos cpos : Pos}
def iKeysE (td : TE) : TI := fun σ H R => td σ H fun x H1 => ∃ d o xs, x = .ref d ∧ (d == sysModules) = false ∧ H1 d = some (.frz o (.ext (TsP d xs))) ∧ R (ItkE d o xs) H1
theorem pi_keysE (he : PE X e td) : PI X tg e (iKeysE td) := by
  refine ⟨fun pins s σ H R I h => ?_⟩
  refine thn (he.run pins s σ H _ I h) fun u s1 ⟨x, H1, I1, rx, d, o, xs, ex, hs, hd, q⟩ => ?_
  subst ex
  obtain rfl : u = Value.ref d := rx
  obtain ⟨hgd, hx, es, ep, hdt, hsz, ent⟩ := inv_frzE I1 hd
  refine iter_keys hs hgd hx hdt (pi_one (tk := s1.toks) I1 _ (turn_keysE _ hdt) ⟨_, Heap.get?_push_size _ rfl, rfl, ?_⟩ q)
  rw [hsz] <;> rfl
theorem its_dv {w : Wo} {n : Nat} {a : Addr} {o : Obj} {l : List (Key × D)} {us : List (Key × V)} (hn : w.al[n]? = some a) (hc : w.st[n]? = some (.fk l)) (hp : w.hp a = some (.frz o (.dK us))) (rk : RepK Key X.K X.mg w l us) : ItsR X w (l.map fun kv => kv.2) (Itd a o us) := by
  intro w2 x2 z2 R2
  obtain ⟨_, h2⟩ := z2 n a _ hn hc rfl
  have hp2 : w2.hp a = some (.frz o (.dK us)) := h2.trans hp
  have el := rk.klen
  refine ⟨fun i hi => ⟨⟨hp2, by rw [List.length_map] at hi; omega⟩, fun x H' y => ?_⟩, ⟨hp2, by rw [List.length_map]; omega⟩⟩
  obtain ⟨rfl, k, hk⟩ := y
  obtain ⟨d, e1, rd⟩ := rk.getV hk
  exact ⟨w2, d, rfl, Ext.refl w2, R2, rfl, rfl, by rw [List.getElem?_map, e1]; rfl, rd.ext x2⟩
theorem its_di {w : Wo} {n : Nat} {a : Addr} {o : Obj} {l : List (Key × D)} {us : List (Key × V)} (hn : w.al[n]? = some a) (hc : w.st[n]? = some (.fk l)) (hp : w.hp a = some (.frz o (.dK us))) (rk : RepK Key X.K X.mg w l us) : ItsR X w (l.map fun kv => .tup [keyOf kv.1, kv.2]) (Iti a o us) := by
  intro w2 x2 z2 R2
  obtain ⟨_, h2⟩ := z2 n a _ hn hc rfl
  have hp2 : w2.hp a = some (.frz o (.dK us)) := h2.trans hp
  have el := rk.klen
  refine ⟨fun i hi => ⟨⟨hp2, by rw [List.length_map] at hi; omega⟩, fun x H' y => ?_⟩, ⟨hp2, by rw [List.length_map]; omega⟩⟩
  obtain ⟨T, k, v, hk, rfl, hT, rfl⟩ := y
  obtain ⟨d, e1, rd⟩ := rk.getV hk
  exact ⟨w2.put T (.tup [kV k, v]), .tup [keyOf k, d], rfl, put_ext R2 hT, R2.put hT, rfl, rfl, by rw [List.getElem?_map, e1]; rfl, .tup (.inl (put_st R2 hT).o) (.cons (RepD.keyOf k) (.cons ((rd.ext x2).ext (put_ext R2 hT).toEx0) .nil))⟩
theorem its_tk {w : Wo} {n : Nat} {a : Addr} {o : Obj} {l : List (List Int)} {xs : List (List Int × Addr)} (hn : w.al[n]? = some a) (hc : w.st[n]? = some (.fs l)) (hl : xs.map (·.1) = l) (hp : w.hp a = some (.frz o (.ext (TsP a xs)))) (hx : ∀ x, x ∈ xs → StT X.K w x.2 (x.1.map V.int)) : ItsR X w (l.map intsD) (ItkE a o xs) := by
  intro w2 x2 z2 R2
  obtain ⟨_, h2⟩ := z2 n a _ hn hc rfl
  have hp2 : w2.hp a = some (.frz o (.ext (TsP a xs))) := h2.trans hp
  subst hl
  refine ⟨fun i hi => ⟨⟨hp2, by simpa using hi⟩, fun x H' y => ?_⟩, ⟨hp2, by simp⟩⟩
  obtain ⟨rfl, k, q, hk, rfl⟩ := y
  have hm := hx _ (List.mem_of_getElem? hk)
  exact ⟨w2, intsD k, rfl, Ext.refl w2, R2, rfl, rfl, by rw [List.getElem?_map, List.getElem?_map, hk]; rfl, .tup (hm.ext x2) (repL_ints k)⟩
theorem ri_dv (ha : RE X W a ma) (hbase : attributeBase a "values" X.env (eval a X.env) = eval a X.env := by rfl) (hline : (apos.endLine == cpos.line) = true := by rfl) : RI X W tg (.Call (.Attribute a "values" apos) [] [] cpos) (iDv ma) := by
  refine ⟨fun pins s σ H R' I h => (pi_values ha hbase hline).run pins s σ H R' I ?_⟩
  obtain ⟨w, en, rfl, R, E, P⟩ := h
  refine ⟨w, en, rfl, R, E, (Post.bind P).imp ?_⟩
  rintro v H1 ⟨w1, d, rfl, X1, R1, rd, P1⟩
  dsimp only at P1
  split at P1
  · rename_i l hl
    obtain ⟨n, a, o, us, rfl, rfl, hn, hc, hp, rk⟩ := fkD_R R1 rd hl
    exact ⟨a, o, us, rfl, hp, P1 w1 _ (Ext.refl w1) R1 rfl (its_dv hn hc hp rk)⟩
  · exact False.elim P1
theorem ri_di {elts : List Expr} {kk : Nat} {tpos : Pos} (ha : RE X W a ma) (hbase : attributeBase a "items" X.env (eval a X.env) = eval a X.env := by rfl) (hline : (apos.endLine == cpos.line) = true := by rfl) : RI X W (.Tuple elts kk tpos) (.Call (.Attribute a "items" apos) [] [] cpos) (iDi ma) := by
  refine ⟨fun pins s σ H R' I h => (pi_items ha hbase hline).run pins s σ H R' I ?_⟩
  obtain ⟨w, en, rfl, R, E, P⟩ := h
  refine ⟨w, en, rfl, R, E, (Post.bind P).imp ?_⟩
  rintro v H1 ⟨w1, d, rfl, X1, R1, rd, P1⟩
  dsimp only at P1
  split at P1
  · rename_i l hl
    obtain ⟨n, a, o, us, rfl, rfl, hn, hc, hp, rk⟩ := fkD_R R1 rd hl
    exact ⟨a, o, us, rfl, hp, P1 w1 _ (Ext.refl w1) R1 rfl (its_di hn hc hp rk)⟩
  · exact False.elim P1
theorem ri_tk (ha : RE X W a ma) : RI X W tg a (iTk ma) := by
  refine ⟨fun pins s σ H R' I h => (pi_keysE ha).run pins s σ H R' I ?_⟩
  obtain ⟨w, en, rfl, R, E, P⟩ := h
  refine ⟨w, en, rfl, R, E, (Post.bind P).imp ?_⟩
  rintro v H1 ⟨w1, d, rfl, X1, R1, rd, P1⟩
  dsimp only at P1
  split at P1
  · rename_i l hl
    obtain ⟨n, a, o, xs, rfl, rfl, hn, hc, hs, h3, hp, hx⟩ := fsD_R R1 rd hl
    exact ⟨a, o, xs, rfl, hs, hp, P1 w1 _ (Ext.refl w1) R1 rfl (its_tk hn hc h3 hp hx)⟩
  · exact False.elim P1
end
end G
namespace G
open PySem L2 PySem.Spec
structure Fill (P : Program) (w : World) (K : PySem.W.Frag) (A : Around) (τ : Type) where
  O : Addr → τ → HO
  t0 : τ
  new : ∀ (H : Hp) (h : Heap), sysModules < h.objs.size → ObjOk P w H (h.push { cls := .type "dict", data := .dict #[] }) h.objs.size (O h.objs.size t0)
  put : τ → V → V → Hp → τ → Prop
  sto : ∀ (Y : Cx), Y.prog = P → Y.w = w → Y.K = K → Y.A = A → ∀ (pins : List (Addr × Obj)) (σ : L2.St) (H : Hp) (s : Shared) (D : Addr) (t t' : τ) (y z : V) (u r : Value) (Q : Unit → Shared → Prop) (E : Value → Shared → Prop),
    Inv Y pins σ H s → H D = some (O D t) → put t y z H t' → RelV y u → RelV z r → (∀ s', Inv Y pins σ (upd H D (O D t')) s' → Q () s') → wpAny (model Y.prog Y.w) Y.A (dictSet D u r) Q E s
section
variable {X : Cx} {τ : Type}
abbrev FillX (X : Cx) (τ : Type) := Fill X.prog X.w X.K X.A τ
def turnG (F : FillX X τ) (D : Addr) (tk tv : TE) (σ : L2.St) (Nx : Hp → Prop) (b : Bool) (H : Hp) : Prop :=
  if b = true then tk σ H fun y H4 => tv σ H4 fun z H5 => ∃ t t', F.put t y z H5 t' ∧ H5 D = some (F.O D t) ∧ Nx (upd H5 D (F.O D t')) else Nx H
def tDcG (F : FillX X τ) (wi : TI) (g : TG) (tt : TT) (tk tv : TE) (vs : List Nat) : TE := fun σ H Q => wi σ H fun J H1 => ∀ D, H1 D = none → (D == sysModules) = false →
  ∃ W : Nat → Nat → Hp → Prop, (∃ m, W 0 m (upd H1 D (F.O D F.t0))) ∧ ∀ i m H, W i m H → (J.stop i H ∧ Q (.ref D) H) ∨
    (J.go i H ∧ ∃ Nx : Hp → Prop, (∀ H', Nx H' → ∃ m', m' < m ∧ W (i + 1) m' H') ∧ ∀ x H', J.yld i H x H' → g x (wipe σ vs) H' fun σ2 H2 => wipe σ2 vs = wipe σ vs ∧ tt σ2 H2 fun b H3 => turnG F D tk tv σ2 Nx b H3)
theorem pe_dcG (F : FillX X τ) {kx vx tg iter : Expr} {ifs : List Expr} {scope : Scope} {own : List (Str × Nat)} {pos : Pos} {wi : TI} {g : TG} {tt : TT} {tk tv : TE} (hc : X.calm = true) (hN : X.N.Nodup) (hi : PI X tg iter wi) (ok : BlkOk X.N X.env.scope scope own)
    (hg : ∀ (s : Shared) (H : Hp) (C : Addr) (cl : List (Str × Addr)) (fp : List Addr), PG (X.blk s H scope (compEnvC scope cl C X.env) fp) tg g) (ht : ∀ (s : Shared) (H : Hp) (C : Addr) (cl : List (Str × Addr)) (fp : List Addr), PTs (X.blk s H scope (compEnvC scope cl C X.env) fp) ifs tt)
    (hk : ∀ (s : Shared) (H : Hp) (C : Addr) (cl : List (Str × Addr)) (fp : List Addr), PE (X.blk s H scope (compEnvC scope cl C X.env) fp) kx tk) (hv : ∀ (s : Shared) (H : Hp) (C : Addr) (cl : List (Str × Addr)) (fp : List Addr), PE (X.blk s H scope (compEnvC scope cl C X.env) fp) vx tv)
    (hs : ∀ x, foldedSetIterable iter X.env x = pure x := by intro _; rfl) : PE X (.DictComp kx vx [⟨tg, iter, ifs, 0⟩] scope pos) (tDcG F wi g tt tk tv (own.map (·.2))) := by
  refine ⟨fun pins s0 σ H Q I0 rd => ?_⟩
  rw [arm_eval_DictComp]
  have fr : ∀ y ∈ scope.names, y.2 = .free → ∃ c, X.env.cells.lookup y.1 = some c := fun y hy e => (ok.free y hy e).elim (fun k => I0.ok.has _ (.inl k)) fun k => I0.ok.has _ (.inr k)
  refine wpAny_comprehension_free rfl hs (closure_ok fr) ok.kind (fun y hy e => by rw [ok.uniq y hy, e]) (thn (hi.run pins s0 σ H _ I0 rd) fun xv s1 hx => thn hx fun itv s2 h2 => ?_)
  obtain ⟨it, fp, tn, J, H1, rfl, I2, T, st2, f2, q⟩ := h2
  refine wpAny_newObj_type (newEnv_comp ?_)
  have fresh : H1 s2.heap.objs.size = none := I2.hok.fresh (Nat.le_refl _)
  obtain ⟨W, ⟨m0, w0⟩, turn⟩ := q _ fresh (beq_eq_false_iff_ne.mpr (Ne.symm (Nat.ne_of_lt I2.big)))
  -- the dict is laid
  have keep3 : ∀ b o, s2.heap.get? b = some o → (s2.heap.push { cls := .type "dict", data := .dict #[] }).get? b = some o := fun b o e => Heap.get?_push_of_some _ e
  have I3 : Inv X pins σ (upd H1 s2.heap.objs.size (F.O s2.heap.objs.size F.t0)) { s2 with heap := s2.heap.push { cls := .type "dict", data := .dict #[] } } := I2.laid (t' := s2.toks) keep3 (Nat.le_refl _) (F.new _ _ I2.big)
  have low : ∀ b ∈ fp, b < s2.heap.objs.size := fun b hb => by
    obtain ⟨o, e, _⟩ := T.obj _ _ st2 b hb
    exact Heap.lt_size e
  generalize hD : s2.heap.objs.size = D at *
  generalize hs3 : ({ s2 with heap := s2.heap.push { cls := .type "dict", data := .dict #[] } } : Shared) = s3 at I3 ⊢
  have e3 : s3.heap = s2.heap.push { cls := .type "dict", data := .dict #[] } := by rw [← hs3]
  have z3 : s3.heap.objs.size = D + 1 := by rw [e3, Heap.size_push, hD]
  generalize hH3 : upd H1 D (F.O D F.t0) = H3 at I3 w0
  have f3 : ∀ b ∈ fp, FpOk X pins H3 b ∧ b < s3.heap.objs.size := fun b hb => by
    have := low b hb
    refine ⟨⟨?_, (f2 b hb).2⟩, by rw [z3]; exact Nat.lt_succ_of_lt this⟩
    rw [← hH3, upd_ne (Nat.ne_of_lt this)]
    exact (f2 b hb).1
  have st3 : tn 0 s3.heap := T.keep _ _ _ st2 fun b _ o e => by rw [e3]; exact keep3 b o e
  -- the block
  have I4 := block_start I3 ok hN f3
  have pg := hg s3 H3 s3.heap.objs.size (cellsFrom (s3.heap.objs.size + 1) scope.names (cloFrom X.env.cells scope.names [])) fp
  have pt := ht s3 H3 s3.heap.objs.size (cellsFrom (s3.heap.objs.size + 1) scope.names (cloFrom X.env.cells scope.names [])) fp
  have pk := hk s3 H3 s3.heap.objs.size (cellsFrom (s3.heap.objs.size + 1) scope.names (cloFrom X.env.cells scope.names [])) fp
  have pv := hv s3 H3 s3.heap.objs.size (cellsFrom (s3.heap.objs.size + 1) scope.names (cloFrom X.env.cells scope.names [])) fp
  show codeAny _ _ (.compStart (.DictComp kx vx [⟨tg, iter, ifs, 0⟩] scope pos) 0 (.ref it) (.ref D) (compEnvC scope (cellsFrom (s3.heap.objs.size + 1) scope.names (cloFrom X.env.cells scope.names [])) s3.heap.objs.size X.env)) (compPost (model X.prog X.w) X.A X.xe none (EP X pins σ Q) (.ref D) s3.heap.objs.size) { s3 with heap := pushCells (s3.heap.push { cls := .type "dict", data := .dict #[] }) scope.names }
  generalize hce : compEnvC scope (cellsFrom (s3.heap.objs.size + 1) scope.names (cloFrom X.env.cells scope.names [])) s3.heap.objs.size X.env = ce at I4 pg pt pk pv ⊢
  have cL : ce.locals = s3.heap.objs.size := by rw [← hce]; rfl
  generalize hs4 : ({ s3 with heap := pushCells (s3.heap.push { cls := .type "dict", data := .dict #[] }) scope.names } : Shared) = s4 at I4 ⊢
  have st4 : tn 0 s4.heap := T.keep _ _ _ st3 fun b _ o e => by rw [← hs4]; exact pushCells_keeps _ _ _ _ (Heap.get?_push_of_some _ e)
  let Y := X.blk s3 H3 scope ce fp
  have fpo : ∀ {σ' : L2.St} {H' : Hp} {s' : Shared}, Inv Y [] σ' H' s' → (∀ b ∈ fp, H' b = none) → ∀ b ∈ fp, FpOk Y [] H' b := fun I' hn b hb =>
    ⟨hn b hb, (I'.ok.exf b hb).1, I'.ok.exfs b hb, .inl hb, fun x c e => (I'.ok.exf b hb).2 x c e, fun p hp => absurd (show p ∈ ([] : List (Addr × Obj)) ++ [] from hp) (by simp)⟩
  let Inn : Nat → Shared → Prop := fun n s' => ∃ i H', Inv Y [] (wipe σ (own.map (·.2))) H' s' ∧ tn i s'.heap ∧ (∀ b ∈ fp, H' b = none) ∧ W i n H'
  have walk : codeAny (model X.prog X.w) X.A (.compLoop (.DictComp kx vx [⟨tg, iter, ifs, 0⟩] scope pos) 0 (.ref it) (.ref D) ce) (compPost (model X.prog X.w) X.A X.xe none (EP X pins σ Q) (.ref D) s3.heap.objs.size) s4 := by
    refine compLoop_anyD Inn ?_ m0 ⟨0, H3, I4, st4, fun b hb => (f3 b hb).1.1, w0⟩
    rintro n s5 ⟨i, H5, I5, st5, n5, w5⟩
    rcases turn i n H5 w5 with ⟨stop, last⟩ | ⟨go, Nx, down, step⟩
    · -- behind the last
      refine thnF (T.done Y rfl rfl rfl hc i [] s5 _ H5 (fun _ _ => False) I5 (fpo I5 n5) st5 stop) fun r s6 ⟨hr, I6⟩ => ?_
      subst hr
      have I7 : Inv X pins σ H5 s6 := I3.call' (ch := fp) I6.os I6.base I6.hok I6.bare fun b hb => ⟨(f3 b hb).1.2.2.2.1, (f3 b hb).1.2.1, (f3 b hb).1.2.2.2.2.1, (f3 b hb).1.2.2.2.2.2⟩
      have free : H5 ce.locals = none := I6.free
      obtain ⟨m, hm, _⟩ := I6.loc
      replace hm : s6.heap.Ns ce.locals m := hm
      rw [cL] at hm free
      obtain ⟨g0, g1, g2, g3, g4, g5⟩ := I3.fpOk (Nat.le_refl _) free
      exact ⟨m, hm, fun h'' sb => ⟨.ref D, H5, I7.turned (t' := s6.toks) (fun b o hb e => (sb.2 b hb).trans e) g0 g1 g3 g4 g5, rfl, last⟩⟩
    · -- one turn
      refine thnF (T.item Y rfl rfl rfl hc i [] s5 _ H5 (fun _ _ => False) I5 (fpo I5 n5) st5 go) fun r s6 ⟨u, hr, h6⟩ => ?_
      subst hr
      refine thnF h6 fun _ s7 ⟨x, H7, I7, r7, y7, st7, n7⟩ => ?_
      refine thnF (pg.run _ s7 _ H7 x u _ (I7.pinned (fpo I7 n7) (T.obj _ _ st7)) r7 (step x H7 y7)) fun _ s8 ⟨σ8, H8, I8, hw8, q8⟩ => ?_
      refine thnF (pt.run _ s8 σ8 H8 _ I8 q8) fun b s9 ⟨H9, I9, q9⟩ => ?_
      have next : ∀ {s' : Shared} {H' : Hp}, Inv Y ([] ++ pinsAt fp s7.heap) σ8 H' s' → Nx H' → ∃ m, m < n ∧ Inn m s' := fun {s' H'} I' nx => by
        obtain ⟨m', lt, w'⟩ := down H' nx
        have at7 : ∀ b ∈ fp, ∀ o, s7.heap.get? b = some o → s'.heap.get? b = some o ∧ H' b = none := fun b hb o e => by
          have := I'.pin (b, o) (List.mem_append_right _ (List.mem_append_right _ (mem_pinsAt hb e)))
          exact ⟨this.1, this.2.1⟩
        have len : (wipe σ (own.map (·.2))).length = σ8.length := by rw [← hw8, wipe_length]
        refine ⟨m', lt, i + 1, H', (I'.unpinned (pins := [])).weak len fun j v e => ?_, T.keep _ _ _ st7 fun b hb o e => (at7 b hb o e).1, fun b hb => ?_, w'⟩
        · rw [← hw8] at e
          exact (wipe_some e).1
        · obtain ⟨o, e, _⟩ := T.obj _ _ st7 b hb
          exact (at7 b hb o e).2
      cases b with
      | false => exact next I9 (by simpa [turnG] using q9)
      | true =>
        replace q9 : tk σ8 H9 fun y H4 => tv σ8 H4 fun z H5 => ∃ t t', F.put t y z H5 t' ∧ H5 D = some (F.O D t) ∧ Nx (upd H5 D (F.O D t')) := by simpa [turnG] using q9
        refine thnF (pk.run _ s9 σ8 H9 _ I9 q9) fun y s10 ⟨yk, H10, I10, r10, q10⟩ => ?_
        refine thnF (pv.run _ s10 σ8 H10 _ I10 q10) fun z s11 ⟨yv, H11, I11, r11, t, t', hp, hD11, nx⟩ => ?_
        exact F.sto Y rfl rfl rfl rfl _ _ _ _ _ _ _ _ _ _ _ _ _ I11 hD11 hp r10 r11 fun s12 I12 => next I12 nx
  exact codeAny_compStart_dict walk (T.self X.A 0 _ _ _ st4 walk)
end
end G
namespace G
open PySem L2 PySem.Spec
abbrev tkK (P : Program) (w : World) : HeapKind P w (List Int) := tupleKind (PySem.intKind P w)
def addK (ks : List (List Int)) (k : List Int) : List (List Int) := if k ∈ ks then ks else ks ++ [k]
def putT (xs : List (List Int × Addr)) (k : List Int) (q : Addr) : List (List Int × Addr) := if k ∈ xs.map (·.1) then xs else xs ++ [(k, q)]
def liT (xs : List (List Int × Addr)) : List (List Int × Addr × Value) := xs.map fun x => (x.1, x.2, .bool true)
theorem putT_fst (xs : List (List Int × Addr)) (k : List Int) (q : Addr) : (putT xs k q).map (·.1) = addK (xs.map (·.1)) k := by
  unfold putT addK
  split
  · rfl
  · rw [List.map_append]; rfl
theorem putT_mem {xs : List (List Int × Addr)} {k : List Int} {q : Addr} {x : List Int × Addr} (h : x ∈ putT xs k q) : x ∈ xs ∨ x = (k, q) := by
  unfold putT at h
  split at h
  · exact .inl h
  · rcases List.mem_append.mp h with h | h
    · exact .inl h
    · exact .inr (by simpa using h)
theorem putT_len (xs : List (List Int × Addr)) (k : List Int) (q : Addr) : (putT xs k q).length ≤ xs.length + 1 := by
  unfold putT; split <;> simp
theorem liT_fst (xs : List (List Int × Addr)) : (liT xs).map (·.1) = xs.map (·.1) := by unfold liT; rw [List.map_map]; rfl
theorem atKey_liT (xs : List (List Int × Addr)) (k : List Int) : (atKey (liT xs) k).isSome = decide (k ∈ xs.map (·.1)) := by
  induction xs with
  | nil => rfl
  | cons x xs ih =>
    unfold atKey at ih ⊢
    by_cases e : x.1 = k
    · simp [liT, List.find?_cons, e]
    · have e' : ¬ k = x.1 := fun z => e z.symm
      simp only [liT, List.map_cons, List.find?_cons, e, decide_false, List.mem_cons, e', false_or] at ih ⊢
      exact ih
theorem stored_liT (xs : List (List Int × Addr)) (k : List Int) (q : Addr) : storedH (liT xs) k q (.bool true) = liT (putT xs k q) := by
  unfold storedH putT
  rw [atKey_liT]
  by_cases h : k ∈ xs.map (·.1)
  · rw [decide_eq_true h, if_pos rfl, if_pos h]
    unfold liT
    rw [List.map_map]
    refine List.map_congr_left fun x _ => ?_
    show putAt k (.bool true) (x.1, x.2, .bool true) = _
    unfold putAt
    split <;> rfl
  · rw [decide_eq_false h, if_neg Bool.false_ne_true, if_neg h]
    unfold liT
    rw [List.map_append]; rfl
theorem entT {P : Program} {w : World} (xs : List (List Int × Addr)) : (liT xs).map (entryOfKey (tkK P w)) = xs.map (fun x => ⟨hashL x.1, .ref x.2, .bool true⟩) := by
  unfold liT
  rw [List.map_map]
  exact List.map_congr_left fun x _ => rfl
theorem tsP_of {P : Program} {w : World} {h : Heap} {a : Addr} {xs : List (List Int × Addr)} (x : TsP a xs h) (hk : ∀ y, y ∈ xs → (tkK P w).is h y.1 y.2) : h.DictOfH (tkK P w) a (liT xs) := by
  obtain ⟨o, es, ep, h1, h2, h3, h4, h5⟩ := x
  refine ⟨o, es, ep, h1, h2, h3, by rw [h4, entT], fun y hy => ?_, by rw [liT_fst]; exact h5⟩
  obtain ⟨z, hz, rfl⟩ := List.mem_map.mp hy
  exact hk z hz
theorem of_tsP {P : Program} {w : World} {h : Heap} {a : Addr} {xs : List (List Int × Addr)} (x : h.DictOfH (tkK P w) a (liT xs)) : TsP a xs h := by
  obtain ⟨o, es, ep, h1, h2, h3, h4, h5, h6⟩ := x
  exact ⟨o, es, ep, h1, h2, h3, by rw [h4, entT], by rw [← liT_fst]; exact h6⟩
theorem tsO_ok {P : Program} {w : World} {H : Hp} {h : Heap} {a : Addr} {xs : List (List Int × Addr)} (x : TsP a xs h) : ObjOk P w H h a (.ext (TsP a xs)) := by
  refine ⟨x, ?_, fun h1 h2 y k => ?_⟩
  · obtain ⟨o, es, ep, h1, _⟩ := x
    exact ⟨o, h1⟩
  · obtain ⟨o, es, ep, g1, g⟩ := y
    exact ⟨o, es, ep, k o g1, g⟩
theorem ts_new (h : Heap) : TsP h.objs.size [] (h.push { cls := .type "dict", data := .dict #[] }) := ⟨_, #[], 0, Heap.get?_push_size _ rfl, ⟨rfl, rfl, rfl⟩, rfl, rfl, List.nodup_nil⟩
theorem ints_are {P : Program} {w : World} : ∀ {k : List Int} {us : List Value}, Vals (k.map V.int) us → ItemsAre (PySem.intKind P w) k us
  | [], _, r => by rw [List.map_nil] at r; cases r; exact .nil
  | i :: k, _, r => by
    rw [List.map_cons] at r
    cases r with
    | cons h t =>
      obtain ⟨tk, rfl⟩ := h
      exact .cons (by show Value.isInt i (.int i tk) = true; simp [Value.isInt]) (ints_are t)
theorem tk_is {X : Cx} {pins : List (Addr × Obj)} {σ : L2.St} {H : Hp} {s : Shared} {q : Addr} {k : List Int} (I : Inv X pins σ H s) (h : SqT X.K H q (k.map V.int)) : (tkK X.prog X.w).is s.heap k q := by
  obtain ⟨its, r, ⟨o, ho, hc, n, hd⟩, _⟩ := I.tuple h
  exact ⟨o, its.toArray, n, ho, hc, hd, by simpa using ints_are r⟩
def FillTs (P : Program) (w : World) (K : PySem.W.Frag) (A : Around) (hu : A.units < cLine) : Fill P w K A (List (List Int × Addr)) where
  O := fun D xs => .ext (TsP D xs)
  t0 := []
  new := fun H h _ => tsO_ok (ts_new h)
  put := fun t y z H t' => ∃ k q, y = .ref q ∧ z = .bl true ∧ SqT K H q (k.map V.int) ∧ (∀ x, x ∈ t → SqT K H x.2 (x.1.map V.int)) ∧ t.length < sizeLine ∧ t' = putT t k q
  sto := by
    rintro Y rfl rfl rfl rfl pins σ H s D t t' y z u r Q E I hD ⟨k, q, rfl, rfl, hq, ht, hl, rfl⟩ ru rr h
    obtain rfl : u = Value.ref q := ru
    obtain rfl : r = Value.bool true := rr
    have z := (I.hok D _ hD).1
    have dd : s.heap.DictOfH (tkK Y.prog Y.w) D (liT t) := tsP_of z fun x hx => tk_is I (ht x hx)
    refine wpAny_dictSet_heap hu (tk_is I hq) dd (fun h' dd' hs => h _ ?_) (by unfold liT; rw [List.length_map]; exact Nat.le_of_lt hl)
    rw [stored_liT] at dd'
    have z' := of_tsP dd'
    have he : ∃ o, h'.get? D = some o := let ⟨o, _, _, ho, _⟩ := z'; ⟨o, ho⟩
    exact d_write I (by rw [hD]; exact True.intro) hs he (tsO_ok z')
def intsL : List D → Option (List Int)
  | [] => some []
  | .int i :: r => (intsL r).map (i :: ·)
  | _ => none
def intsK : D → Option (List Int)
  | .tup l => intsL l
  | _ => none
open Classical in
noncomputable def dcR (ck : Store → Prop) (g : Tg) (t : TM) (m : EM) (e : En) : List D → List (List Int) → Store → Res (List (List Int))
  | [], acc, S => if ck S then .ok acc S else .stuck
  | d :: ds, acc, S => if ck S then match g.m d e with
    | some e1 => (noX (t e1 S)).bind fun b S2 => if b then (noX (m e1 S2)).bind fun y S3 => match intsK y with
      | some k => if acc.length < sizeLine then dcR ck g t m e ds (addK acc k) S3 else .stuck
      | none => .stuck
      else dcR ck g t m e ds acc S2
    | none => .stuck else .stuck
def finT : List (List Int) → Store → Res D := fun acc S => .ok (.loc S.length) (S ++ [.ts acc])
noncomputable def eDcT (i : CM) (g : Tg) (t : TM) (m : EM) (vs : List Nat) : EM := fun e S => (i e S).bind fun p S1 => (dcR (okC p) g t m (wipeE e vs) p.1 [] S1).bind finT
section
variable {ck : Store → Prop} {g : Tg} {t : TM} {m : EM} {d : D} {ds : List D} {acc : List (List Int)} {e : En} {S : Store}
theorem dcR_no (h : ¬ ck S) : dcR ck g t m e ds acc S = .stuck := by
  cases ds with
  | nil => unfold dcR; exact if_neg h
  | cons d ds => unfold dcR; exact if_neg h
theorem dcR_nil (h : ck S) : dcR ck g t m e [] acc S = .ok acc S := by unfold dcR; exact if_pos h
theorem dcR_cons (h : ck S) : dcR ck g t m e (d :: ds) acc S = match g.m d e with
    | some e1 => (noX (t e1 S)).bind fun b S2 => if b then (noX (m e1 S2)).bind fun y S3 => match intsK y with
      | some k => if acc.length < sizeLine then dcR ck g t m e ds (addK acc k) S3 else .stuck
      | none => .stuck
      else dcR ck g t m e ds acc S2
    | none => .stuck := by rw [dcR]; exact if_pos h
end
section
variable {K : PySem.W.Frag} {mg : Str → Option Value} {w w1 : Wo}
theorem RepL.intsL {l : List D} {vs : List V} {k : List Int} : RepL K mg w l vs → intsL l = some k → vs = k.map V.int
  | .nil, e => by cases e; rfl
  | @RepL.cons _ _ _ d v l vs r t, e => by
    cases r with
    | int i =>
      obtain ⟨k', e', rfl⟩ := Option.map_eq_some_iff.mp (show (G.intsL l).map (i :: ·) = some k from e)
      rw [RepL.intsL t e']; rfl
    | _ => cases e
theorem RepD.intsK {d : D} {v : V} {k : List Int} (r : RepD K mg w d v) (e : intsK d = some k) : ∃ q, v = .ref q ∧ StT K w q (k.map V.int) := by
  cases r with
  | tup st rl =>
    cases rl.intsL e
    exact ⟨_, rfl, st⟩
  | _ => cases e
theorem shown (R1 : Rep K mg w1) {p : Addr} (hp : w1.hp p = none) (R : Rep K mg w) (x1 : Ex0 w1 w) (hh : w.hid = p :: w1.hid) (hk : Kp w1 w) {o : HO} (hu : w.hp p = some o) {c : Cell}
    (hc : ∀ w2, Ex0 w w2 → w2.hp = w.hp → CellR K mg w2 p c) : ∃ w2 : Wo, w2.hp = w.hp ∧ w2.st = w.st ++ [c] ∧ Ext w1 w2 ∧ Rep K mg w2 ∧ w2.al[w.st.length]? = some p := by
  have hpa : p ∉ w.al := (R.hid p (by rw [hh]; exact List.mem_cons_self)).1
  have hph : p ∉ w1.hid := R1.not_hid hp
  have xn : Ex0 w ⟨w.al ++ [p], w.st ++ [c], w.hp, w1.hid⟩ := by
    refine ⟨⟨[p], rfl⟩, fun a h => ?_, fun a u h _ => h, fun a u h => ⟨u, h⟩⟩
    rcases h with ⟨n, c', h1, h2, h3⟩ | h
    · by_cases hl : n < w.al.length
      · rw [List.getElem?_append_left hl] at h1
        rw [List.getElem?_append_left (by rw [← R.len]; exact hl)] at h2
        exact .inl (.inl ⟨n, c', h1, h2, h3⟩)
      · have e : n = w.al.length := by
          have := (List.getElem?_eq_some_iff.mp h1).1
          simp at this; omega
        subst e
        simp at h1
        subst h1
        exact .inl (.inr (by rw [hh]; exact List.mem_cons_self))
    · exact .inl (.inr (by rw [hh]; exact List.mem_cons_of_mem _ h))
  refine ⟨⟨w.al ++ [p], w.st ++ [c], w.hp, w1.hid⟩, rfl, rfl, ⟨x1.trans xn, rfl, hk.kh, hk.fz.trans x1.al fun n a c' h1 h2 _ => ⟨?_, rfl⟩⟩, ⟨?_, ?_, fun a h => ?_, fun n a c' h1 h2 => ?_, fun a h => ?_⟩, ?_⟩
  · show (w.st ++ [c])[n]? = _
    rw [List.getElem?_append_left (List.getElem?_eq_some_iff.mp h2).1]; exact h2
  · show (w.al ++ [p]).length = (w.st ++ [_]).length
    rw [List.length_append, List.length_append, R.len]; rfl
  · show (w.al ++ [p]).Nodup
    refine List.nodup_append.mpr ⟨R.nd, by simp, fun a ha b hb => ?_⟩
    rw [List.mem_singleton.mp hb]
    exact fun z => hpa (z ▸ ha)
  · rcases List.mem_append.mp h with h | h
    · exact R.tr a h
    · rw [List.mem_singleton.mp h]; exact ⟨_, hu⟩
  · by_cases hl : n < w.al.length
    · have h1 : (w.al ++ [p])[n]? = some a := h1
      have h2 : (w.st ++ [c])[n]? = some c' := h2
      rw [List.getElem?_append_left hl] at h1
      rw [List.getElem?_append_left (by rw [← R.len]; exact hl)] at h2
      exact (R.cell n a c' h1 h2).ext xn rfl
    · have h1 : (w.al ++ [p])[n]? = some a := h1
      have h2 : (w.st ++ [c])[n]? = some c' := h2
      have e : n = w.al.length := by
        have := (List.getElem?_eq_some_iff.mp h1).1
        simp at this; omega
      subst e
      simp at h1
      subst h1
      rw [R.len] at h2
      simp at h2
      subst h2
      exact hc _ xn rfl
  · obtain ⟨q1, q2⟩ := R.hid a (by rw [hh]; exact List.mem_cons_of_mem _ h)
    refine ⟨fun z => ?_, q2⟩
    rcases List.mem_append.mp z with z | z
    · exact q1 z
    · rw [List.mem_singleton.mp z] at h; exact hph h
  · show (w.al ++ [p])[w.st.length]? = some p
    rw [← R.len]; simp
end
section
variable {X : Cx} {W : WX} {a b c e o kx : Expr} {es : List Expr} {ma mb mc me mk : EM} {ta tb : TM} {pos : Pos} {m : SM}
theorem t_dcT (hu : X.A.units < cLine) {i : CM} {g : Tg} {t : TM} {m : EM} {vs : List Nat} (hg : ∀ j, j ∈ g.ix → j ∈ vs) :
    ∀ s H Q, tG (RepD X.K X.mg) X W (eDcT i g t m vs) s H Q →
      tDcG (FillTs X.prog X.w X.K X.A hu) (tG (ItsC X) X W i) (g.r X.K) (tG RlB X W0 t) (tG (RepD X.K X.mg) X W0 m) (tC (.bl true)) vs s H Q := by
  rintro s H Q ⟨w, en, rfl, R, E, P⟩
  refine ⟨w, en, rfl, R, E, (Post.bind P).imp ?_⟩
  rintro J H1 ⟨w1, ⟨ds, oc⟩, rfl, X1, R1, its, P1⟩
  intro p hp hps
  dsimp only at P1
  have E1 := E.ext X1.toEx0
  refine ⟨fun j k H => k = ds.length - j ∧ j ≤ ds.length ∧ ∃ (w : Wo) (acc : List (List Int)) (us : List (List Int × Addr)), w.hp = H ∧ Ex0 w1 w ∧ Rep X.K X.mg w ∧ w.hid = p :: w1.hid ∧ Kp w1 w ∧ w.hp p = some (.ext (TsP p us)) ∧ us.map (·.1) = acc ∧ acc.length ≤ sizeLine ∧ (∀ x, x ∈ us → StT X.K w x.2 (x.1.map V.int)) ∧
      Post (RepD X.K X.mg) X.K X.mg w1 ((dcR (okC (ds, oc)) g t m (wipeE en vs) (ds.drop j) acc w.st).bind finT) Q (fun cls dd H' => W cls dd s H'),
    ⟨ds.length, rfl, Nat.zero_le _, w1.hide p (.ext (TsP p [])), [], [], rfl, hide_ex R1 hp, R1.hide hp, rfl, ⟨fun a ha => ?_, hide_fz R1 hp⟩, upd_same, rfl, Nat.zero_le _, fun x hx => (by cases hx), P1⟩, ?_⟩
  · show upd w1.hp p _ a = _
    exact upd_ne fun z => R1.not_hid hp (z ▸ ha)
  rintro j k H ⟨rfl, hj, w, acc, us, rfl, x1, R, hh, hk, hu1, hacc, hz, hus, P⟩
  have hck : okC (ds, oc) w.st := by
    by_cases hn : okC (ds, oc) w.st
    · exact hn
    · rw [dcR_no hn] at P; exact False.elim P
  obtain ⟨go, stop⟩ := its w x1 hk.fz R hck
  by_cases hlt : j < ds.length
  · obtain ⟨go1, yl⟩ := go j hlt
    refine .inr ⟨go1, fun H' => ∃ (w : Wo) (acc : List (List Int)) (us : List (List Int × Addr)), w.hp = H' ∧ Ex0 w1 w ∧ Rep X.K X.mg w ∧ w.hid = p :: w1.hid ∧ Kp w1 w ∧ w.hp p = some (.ext (TsP p us)) ∧ us.map (·.1) = acc ∧ acc.length ≤ sizeLine ∧ (∀ x, x ∈ us → StT X.K w x.2 (x.1.map V.int)) ∧
      Post (RepD X.K X.mg) X.K X.mg w1 ((dcR (okC (ds, oc)) g t m (wipeE en vs) (ds.drop (j + 1)) acc w.st).bind finT) Q (fun cls dd H' => W cls dd s H'),
      fun H' h => ⟨ds.length - (j + 1), by omega, rfl, hlt, h⟩, fun x H' y => ?_⟩
    obtain ⟨w3, d, rfl, x3, R3, st3, _, hd, rd⟩ := yl x H' y
    have e1 : ds.drop j = d :: ds.drop (j + 1) := by
      obtain ⟨hl, rfl⟩ := List.getElem?_eq_some_iff.mp hd
      exact List.drop_eq_getElem_cons hl
    rw [e1, dcR_cons hck, ← st3] at P
    have E3 : RepE X.K X.mg w3 (wipeE en vs) (L2.wipe s vs) := (E1.ext (x1.trans x3.toEx0)).wipe vs
    cases hm : g.m d (wipeE en vs) with
    | none => rw [hm] at P; exact False.elim P
    | some e4 =>
      rw [hm] at P
      dsimp only at P
      refine g.ok E3 rd hm fun s4 E4 hl4 hj4 => ⟨?_, ?_⟩
      · refine wipe_eq (by rw [hl4, wipe_length]) fun q hq => ?_
        rw [hj4 q fun z => hq (hg q z), wipe_at, if_neg hq]
      · have hh3 : w3.hid = p :: w1.hid := x3.hid.trans hh
        have hk3 : Kp w1 w3 := ⟨fun a ha => (x3.kh a (by rw [hh]; exact List.mem_cons_of_mem _ ha)).trans (hk.kh a ha), hk.fz.trans x1.al x3.fz⟩
        have hu3 : w3.hp p = some (.ext (TsP p us)) := (x3.kh p (by rw [hh]; exact List.mem_cons_self)).trans hu1
        refine ⟨w3, e4, rfl, R3, E4, ?_⟩
        cases ht : t e4 w3.st with
        | exc _ _ => rw [ht] at P; exact False.elim P
        | stuck => rw [ht] at P; exact False.elim P
        | ok bb S5 =>
          rw [ht] at P
          intro w5 c5 x5 R5 st5 r5
          cases r5
          subst st5
          have hh5 : w5.hid = p :: w1.hid := x5.hid.trans hh3
          have x15 : Ex0 w1 w5 := (x1.trans x3.toEx0).trans x5.toEx0
          have hk5 : Kp w1 w5 := ⟨fun a ha => (x5.kh a (by rw [hh3]; exact List.mem_cons_of_mem _ ha)).trans (hk3.kh a ha), hk3.fz.trans (x1.trans x3.toEx0).al x5.fz⟩
          have hu5 : w5.hp p = some (.ext (TsP p us)) := (x5.kh p (by rw [hh3]; exact List.mem_cons_self)).trans hu3
          have hus5 : ∀ x, x ∈ us → StT X.K w5 x.2 (x.1.map V.int) := fun x hx => ((hus x hx).ext x3.toEx0).ext x5.toEx0
          cases bb with
          | false =>
            show turnG _ _ _ _ _ _ false _
            unfold turnG
            rw [if_neg Bool.false_ne_true]
            exact ⟨w5, acc, us, rfl, x15, R5, hh5, hk5, hu5, hacc, hz, hus5, P⟩
          | true =>
            show turnG _ _ _ _ _ _ true _
            unfold turnG
            rw [if_pos rfl]
            refine ⟨w5, e4, rfl, R5, E4.ext x5.toEx0, ?_⟩
            replace P : Post (RepD X.K X.mg) X.K X.mg w1 (((noX (m e4 w5.st)).bind fun y S3 => match intsK y with
              | some k => if acc.length < sizeLine then dcR (okC (ds, oc)) g t m (wipeE en vs) (ds.drop (j + 1)) (addK acc k) S3 else .stuck
              | none => .stuck).bind finT) Q (fun cls dd H' => W cls dd s H') := P
            cases hme : m e4 w5.st with
            | exc _ _ => rw [hme] at P; exact False.elim P
            | stuck => rw [hme] at P; exact False.elim P
            | ok y S6 =>
              rw [hme] at P
              intro w6 v6 x6 R6 st6 r6
              subst st6
              replace P : Post (RepD X.K X.mg) X.K X.mg w1 ((match intsK y with
                | some k => if acc.length < sizeLine then dcR (okC (ds, oc)) g t m (wipeE en vs) (ds.drop (j + 1)) (addK acc k) w6.st else .stuck
                | none => .stuck).bind finT) Q (fun cls dd H' => W cls dd s H') := P
              cases hky : intsK y with
              | none => rw [hky] at P; exact False.elim P
              | some k =>
                rw [hky] at P
                dsimp only at P
                by_cases hz2 : acc.length < sizeLine
                · rw [if_pos hz2] at P
                  obtain ⟨q, rfl, hq⟩ := r6.intsK hky
                  have hh6 : w6.hid = p :: w1.hid := x6.hid.trans hh5
                  have hk6 : Kp w1 w6 := ⟨fun a ha => (x6.kh a (by rw [hh5]; exact List.mem_cons_of_mem _ ha)).trans (hk5.kh a ha), hk5.fz.trans x15.al x6.fz⟩
                  have hu6 : w6.hp p = some (.ext (TsP p us)) := (x6.kh p (by rw [hh5]; exact List.mem_cons_self)).trans hu5
                  have hus6 : ∀ x, x ∈ us → StT X.K w6 x.2 (x.1.map V.int) := fun x hx => (hus5 x hx).ext x6.toEx0
                  have pm : p ∈ w6.hid := by rw [hh6]; exact List.mem_cons_self
                  have xg := gro_ex (o := .ext (TsP p (putT us k q))) pm
                  have hul : us.length < sizeLine := by
                    have := congrArg List.length hacc
                    rw [List.length_map] at this
                    omega
                  refine ⟨us, putT us k q, ⟨k, q, rfl, rfl, hq.sq, fun x hx => (hus6 x hx).sq, hul, rfl⟩, hu6, w6.gro p (.ext (TsP p (putT us k q))), addK acc k, putT us k q, rfl, (x15.trans x6.toEx0).trans xg, R6.gro pm, hh6,
                    ⟨fun a ha => ?_, hk6.fz.trans (x15.trans x6.toEx0).al (gro_fz R6 pm)⟩, upd_same, by rw [putT_fst, hacc], ?_, fun x hx => ?_, P⟩
                  · refine Eq.trans (show upd w6.hp p _ a = w6.hp a from upd_ne fun z => ?_) (hk6.kh a ha)
                    subst z
                    obtain ⟨_, o, ho⟩ := R1.hid a ha
                    rw [hp] at ho; cases ho
                  · have h1 := putT_len us k q
                    have h2 : (addK acc k).length = (putT us k q).length := by rw [← hacc, ← putT_fst, List.length_map]
                    omega
                  · rcases putT_mem hx with hx | rfl
                    · exact (hus6 x hx).ext xg
                    · exact hq.ext xg
                · rw [if_neg hz2] at P; exact False.elim P
  · have e : j = ds.length := by omega
    subst e
    rw [List.drop_length, dcR_nil hck] at P
    refine .inl ⟨stop, ?_⟩
    obtain ⟨w2, e1, e2, X2, R2, hal⟩ := shown (c := .ts acc) R1 hp R x1 hh hk hu1 fun w2 x2 e2 => ⟨hps, hz, us, hacc, by rw [e2]; exact hu1, fun x hx => (hus x hx).ext x2⟩
    rw [← e1]
    exact P w2 _ X2 R2 e2 (.loc hal)
theorem re_dcT {tg iter : Expr} {ifs : List Expr} {scope : Scope} {jb : Nat} {pb : Pos} {i : CM} {g : Tg} {t : TM} {m : EM} (own : List (Str × Nat)) (hu : X.A.units + 64 < cLine) (hc : X.calm = true) (hN : X.N.Nodup) (hi : RIc X W tg iter i) (ok : BlkOk X.N X.env.scope scope own) (hgi : ∀ j, j ∈ g.ix → j ∈ own.map (·.2))
    (hg : ∀ (s : Shared) (H : Hp) (C : Addr) (cl : List (Str × Addr)) (fp : List Addr), PG (X.blk s H scope (compEnvC scope cl C X.env) fp) tg (g.r X.K)) (ht : ∀ (s : Shared) (H : Hp) (C : Addr) (cl : List (Str × Addr)) (fp : List Addr), PTs (X.blk s H scope (compEnvC scope cl C X.env) fp) ifs (tG RlB X W0 t))
    (hk : ∀ (s : Shared) (H : Hp) (C : Addr) (cl : List (Str × Addr)) (fp : List Addr), RE (X.blk s H scope (compEnvC scope cl C X.env) fp) W0 kx m) (hs : ∀ x, foldedSetIterable iter X.env x = pure x := by intro _; rfl) :
    RE X W (.DictComp kx (.Constant (.bool true) jb pb) [⟨tg, iter, ifs, 0⟩] scope pos) (eDcT i g t m (own.map (·.2))) :=
  pe_imp (pe_dcG (FillTs X.prog X.w X.K X.A (Nat.lt_of_le_of_lt (Nat.le_add_right _ 64) hu)) hc hN hi ok hg ht hk (fun _ _ _ _ _ => pe_bl) hs) (t_dcT _ hgi)
end
end G
namespace G
open PySem L2 PySem.Spec
def unT (l m : List (List Int × Addr)) : List (List Int × Addr) := m.foldl (fun acc x => putT acc x.1 x.2) l
def unK (l m : List (List Int)) : List (List Int) := m.foldl addK l
theorem unT_fst (l m : List (List Int × Addr)) : (unT l m).map (·.1) = unK (l.map (·.1)) (m.map (·.1)) := by
  induction m generalizing l with
  | nil => rfl
  | cons x m ih =>
    show (unT (putT l x.1 x.2) m).map (·.1) = unK (addK (l.map (·.1)) x.1) (m.map (·.1))
    rw [ih, putT_fst]
theorem unT_mem {l m : List (List Int × Addr)} {x : List Int × Addr} (h : x ∈ unT l m) : x ∈ l ∨ x ∈ m := by
  induction m generalizing l with
  | nil => exact .inl h
  | cons y m ih =>
    rcases ih (l := putT l y.1 y.2) h with h | h
    · exact (putT_mem h).imp id fun e => by rw [e]; exact List.mem_cons_self
    · exact .inr (List.mem_cons_of_mem _ h)
theorem unT_len (l m : List (List Int × Addr)) : (unT l m).length ≤ l.length + m.length := by
  induction m generalizing l with
  | nil => exact Nat.le_refl _
  | cons y m ih =>
    have := ih (putT l y.1 y.2)
    have := putT_len l y.1 y.2
    show (unT (putT l y.1 y.2) m).length ≤ _
    rw [List.length_cons]; omega
theorem unT_all (l m : List (List Int × Addr)) : storedAllH (liT l) (liT m) = liT (unT l m) := by
  induction m generalizing l with
  | nil => rfl
  | cons y m ih =>
    show storedAllH (storedH (liT l) y.1 y.2 (.bool true)) (liT m) = _
    rw [stored_liT, ih]; rfl
section
variable {X : Cx} {W : WX} {a b c e o f kx : Expr} {ma mb mc mk : EM} {pos apos cpos pb : Pos} {jb : Nat} {td ty tk : TE}
def ts1Q (K : PySem.W.Frag) (p : Addr) (Q : VK) : List (V × V) → Hp → Prop := fun ps H2 => ∃ k q, ps = [(V.ref q, V.bl true)] ∧ SqT K H2 q (k.map V.int) ∧ H2 p = some (.ext (TsP p [])) ∧ Q (.ref p) (upd H2 p (.ext (TsP p [(k, q)])))
def tTs1 (K : PySem.W.Frag) (tk : TE) : TE := fun σ H Q => ∀ p, H p = none → (p == sysModules) = false → tk σ (upd H p (.ext (TsP p []))) fun x H2 => ts1Q K p Q [(x, .bl true)] H2
theorem pe_ts1 (hu : X.A.units + 64 < cLine) (hk : PE X kx tk) : PE X (.Dict [some kx] [.Constant (.bool true) jb pb] pos) (tTs1 X.K tk) := by
  refine ⟨fun pins s σ H Q I q => ?_⟩
  have nz : (s.heap.objs.size == sysModules) = false := beq_eq_false_iff_ne.mpr (Ne.symm (Nat.ne_of_lt I.big))
  have I1 : Inv X pins σ (upd H s.heap.objs.size (.ext (TsP s.heap.objs.size []))) { s with heap := s.heap.push { cls := .type "dict", data := .dict #[] } } :=
    I.laid (t' := s.toks) (fun _ _ z => Heap.get?_push_of_some _ z) (Nat.le_refl _) (tsO_ok (ts_new s.heap))
  have pp : PPs X pos [some kx] [.Constant (.bool true) jb pb] [(tk, tC (.bl true))] := pps_cons hk pe_bl pps_nil
  have ln : (pairTrees [some kx] [.Constant (.bool true) jb pb] X.env pos).length = 1 := pairTrees_length _ _ _ _ rfl rfl
  rw [arm_eval_Dict, zip_pairTrees _ _ _ _ rfl rfl, dictDisplay_pairs _ (by simp [pairTrees]) (by omega)]
  refine wpAny_bind (wpAny_standAt (wpAny_bind (wpAny_subDictH (knd := tkK X.prog X.w) (Nat.lt_of_le_of_lt (Nat.le_add_right _ 64) hu) (by omega)
    (thn (pp.run pins _ σ _ (ts1Q X.K s.heap.objs.size Q) I1 (q _ (I.hok.fresh (Nat.le_refl _)) nz)) fun vs s2 h2 => ?_))))
  obtain ⟨ps, H2, I2, rel, k, a, rfl, ha, hp, q2⟩ := h2
  cases rel with
  | cons r t =>
    cases t
    obtain ⟨r1, r2⟩ := r
    rename_i b
    obtain ⟨u, v⟩ := b
    obtain rfl : u = Value.ref a := r1
    obtain rfl : v = Value.bool true := r2
    have z := (I2.hok _ _ hp).1
    refine ⟨liT [(k, a)], ⟨rfl, rfl, tk_is I2 ha, trivial⟩, tsP_of z fun x hx => (by cases hx), fun h' tk' dd hs => ?_⟩
    have z' : TsP s.heap.objs.size [(k, a)] h' := of_tsP (P := X.prog) (w := X.w) dd
    have he : ∃ o, h'.get? s.heap.objs.size = some o := let ⟨o, _, _, ho, _⟩ := z'; ⟨o, ho⟩
    exact wpAny_pure ⟨.ref s.heap.objs.size, _, d_write I2 (by rw [hp]; exact True.intro) hs he (tsO_ok z'), rfl, q2⟩
def eTs1 (mk : EM) : EM := fun e S => (mk e S).bind fun d S1 => match intsK d with
  | some k => .ok (.loc S1.length) (S1 ++ [.ts [k]])
  | none => .stuck
theorem re_ts1 (hu : X.A.units + 64 < cLine) (hk : ∀ W, RE X W kx mk) (hst : ∀ e S d S', mk e S = .ok d S' → S' = S) (hx : ∀ e S d S', mk e S ≠ .exc d S') : RE X W (.Dict [some kx] [.Constant (.bool true) jb pb] pos) (eTs1 mk) := by
  refine pe_imp (pe_ts1 hu (hk W0)) ?_
  rintro s H Q ⟨w, en, rfl, R, E, P⟩
  intro p hp hps
  refine ⟨w.hide p (.ext (TsP p [])), en, rfl, R.hide hp, E.ext (hide_ex R hp), ?_⟩
  show Post _ _ _ _ (mk en w.st) _ _
  unfold eTs1 at P
  cases hm : mk en w.st with
  | exc x S => exact absurd hm (hx _ _ _ _)
  | stuck => rw [hm] at P; exact False.elim P
  | ok d S =>
    rw [hm] at P
    cases hst _ _ _ _ hm
    intro w2 v x2 R2 st2 rd
    replace P : Post (RepD X.K X.mg) X.K X.mg w (match intsK d with
      | some k => .ok (.loc w.st.length) (w.st ++ [.ts [k]])
      | none => .stuck) Q (fun cls dd H' => W cls dd s H') := P
    cases hky : intsK d with
    | none => rw [hky] at P; exact False.elim P
    | some k =>
      rw [hky] at P
      obtain ⟨q, rfl, hq⟩ := rd.intsK hky
      have hh : w2.hid = p :: w.hid := x2.hid
      have hup : w2.hp p = some (.ext (TsP p [])) := (x2.kh p (by show p ∈ p :: w.hid; exact List.mem_cons_self)).trans upd_same
      have pm : p ∈ w2.hid := by rw [hh]; exact List.mem_cons_self
      have xh := hide_ex (o := .ext (TsP p [])) R hp
      have xg := gro_ex (o := .ext (TsP p [(k, q)])) pm
      refine ⟨k, q, rfl, hq.sq, hup, ?_⟩
      have kp : Kp w (w2.gro p (.ext (TsP p [(k, q)]))) := by
        refine ⟨fun a ha => ?_, ((hide_fz R hp).trans xh.al x2.fz).trans (xh.trans x2.toEx0).al (gro_fz R2 pm)⟩
        have na : a ≠ p := fun z => by
          subst z
          obtain ⟨_, o, ho⟩ := R.hid a ha
          rw [hp] at ho; cases ho
        refine Eq.trans (show upd w2.hp p _ a = w2.hp a from upd_ne na) ((x2.kh a (List.mem_cons_of_mem _ ha)).trans ?_)
        exact upd_ne na
      obtain ⟨w3, e1, e2, X3, R3, hal⟩ := shown (c := .ts [k]) R hp (R2.gro pm) ((xh.trans x2.toEx0).trans xg) hh kp upd_same fun w3 x3 e3 => ⟨hps, by rw [sizeLine_eq]; simp, [(k, q)], rfl, by rw [e3]; exact upd_same, fun x hx => by
        rw [List.mem_singleton.mp hx]
        exact (hq.ext xg).ext x3⟩
      have st2' : w2.st = w.st := st2
      replace hal : w3.al[w2.st.length]? = some p := hal
      replace e2 : w3.st = w2.st ++ [.ts [k]] := e2
      rw [st2'] at hal e2
      have := P w3 (.ref p) X3 R3 e2 (.loc hal)
      rw [e1] at this
      exact this
theorem eVar_st {i : Nat} : ∀ e S d S', eVar i e S = .ok d S' → S' = S := by
  intro e S d S' h
  unfold eVar at h
  split at h
  · cases h; rfl
  · cases h
theorem eVar_nx {i : Nat} : ∀ e S d S', eVar i e S ≠ .exc d S' := by
  intro e S d S' h
  unfold eVar at h
  split at h <;> cases h
def tTsU (K : PySem.W.Frag) (td ty : TE) : TE := fun σ H Q => td σ H fun x H1 => ∃ a l0, x = .ref a ∧ H1 a = some (.ext (TsP a l0)) ∧ ty σ H1 fun y H2 => ∃ b l m, y = .ref b ∧ a ≠ b ∧ (b == sysModules) = false ∧ H2 a = some (.ext (TsP a l)) ∧ H2 b = some (.ext (TsP b m)) ∧ l ≠ [] ∧
  (∀ x, x ∈ l → SqT K H2 x.2 (x.1.map V.int)) ∧ (∀ x, x ∈ m → SqT K H2 x.2 (x.1.map V.int)) ∧ l.length + m.length ≤ sizeLine ∧ Q .non (upd H2 a (.ext (TsP a (unT l m))))
theorem pe_tsU (hu : X.A.units + 64 < cLine) (ho : PE X o td) (he : PE X e ty) (m : M1 X o "update" apos e cpos) : PE X (.Call (.Attribute o "update" apos) [e] [] cpos) (tTsU X.K td ty) := by
  refine ⟨fun pins s σ H Q I h => ?_⟩
  refine wpAny_Call_method m.base m.few m.line PySem.F.plainAttrs_dict PySem.F.slot_dict_update PySem.F.type_dict_update (thn (ho.run pins s σ H _ I h) fun u s1 ⟨x, H1, I1, rx, a, l0, ex, ha, q1⟩ => ?_)
  subst ex
  obtain rfl : u = Value.ref a := rx
  obtain ⟨ob, _, _, ho1, hx, _⟩ := (I1.hok _ _ ha).1
  refine ⟨⟨ob, ho1, hx.1⟩, fun b hb => by cases hb; exact ⟨ob, ho1, hx.2.1⟩, ?_⟩
  rw [m.trees]
  refine Calls.callWith_builtin rfl (Calls.evalArgs_plain (Calls.spliced_cons (thn (he.run pins s1 σ H1 _ I1 q1) fun iv s2 ⟨y, H2, I2, ry, b, l, mm, ey, hab, hb, ea, eb, hl, kl, km, hz, q2⟩ => Calls.spliced_nil ?_)))
  subst ey
  obtain rfl : iv = Value.ref b := ry
  have za := (I2.hok _ _ ea).1
  have zb := (I2.hok _ _ eb).1
  refine call_update_dictH (knd := tkK X.prog X.w) (tupleKind_room_in1 (by omega)) hab hb (tsP_of za fun x hx => tk_is I2 (kl x hx)) (tsP_of zb fun x hx => tk_is I2 (km x hx)) (.inl fun z => hl (by simpa [liT] using z)) (by unfold liT; rw [List.length_map, List.length_map]; exact hz) fun h' da db hs => ?_
  rw [unT_all] at da
  have z' := of_tsP da
  have hex : ∃ o, h'.get? a = some o := let ⟨o, _, _, ho, _⟩ := z'; ⟨o, ho⟩
  exact ⟨.non, _, d_write I2 (by rw [ea]; exact True.intro) hs hex (tsO_ok z'), rfl, q2⟩
def tsD (S : Store) : D → Option (Nat × List (List Int))
  | .loc n => match S[n]? with
    | some (.ts l) => some (n, l)
    | _ => none
  | _ => none
def uR (S : Store) (x y : D) : Res D := match tsD S x, tsD S y with
  | some (n, l), some (k, m) => if n ≠ k ∧ l ≠ [] ∧ l.length + m.length ≤ 1000 then .ok .non (S.set n (.ts (unK l m))) else .stuck
  | _, _ => .stuck
def eTsU (mo ma : EM) : EM := fun e S => (mo e S).bind fun x S1 => if (tsD S1 x).isSome = true then (ma e S1).bind fun y S2 => uR S2 x y else .stuck
theorem tsD_R {K : PySem.W.Frag} {mg : Str → Option Value} {w : Wo} {d : D} {v : V} {n : Nat} {l : List (List Int)} (R : Rep K mg w) (r : RepD K mg w d v) (e : tsD w.st d = some (n, l)) :
    ∃ (a : Addr) (xs : List (List Int × Addr)), d = .loc n ∧ v = .ref a ∧ w.al[n]? = some a ∧ w.st[n]? = some (.ts l) ∧ (a == sysModules) = false ∧ xs.map (·.1) = l ∧ w.hp a = some (.ext (TsP a xs)) ∧ ∀ x, x ∈ xs → StT K w x.2 (x.1.map V.int) := by
  unfold tsD at e
  split at e
  · rename_i n
    split at e
    · rename_i l' hc
      cases e
      cases r with
      | @loc _ a hn =>
        obtain ⟨h1, h2, xs, h3, h4, h5⟩ := R.cell _ _ _ hn hc
        exact ⟨a, xs, rfl, rfl, hn, hc, h1, h3, h4, h5⟩
    · cases e
  · cases e
theorem re_tsU (hu : X.A.units + 64 < cLine) (ho : RE X W o ma) (he : RE X W e mb) (m : M1 X o "update" apos e cpos := by exact ⟨rfl, rfl, rfl, rfl⟩) : RE X W (.Call (.Attribute o "update" apos) [e] [] cpos) (eTsU ma mb) := by
  refine pe_imp (pe_tsU hu ho he m) ?_
  rintro s H Q ⟨w, en, rfl, R, E, P⟩
  refine ⟨w, en, rfl, R, E, (Post.bind P).imp ?_⟩
  rintro v H1 ⟨w1, x, rfl, X1, R1, rx, P1⟩
  dsimp only at P1
  split at P1
  · rename_i hd
    obtain ⟨⟨n0, l0⟩, hd⟩ := Option.isSome_iff_exists.mp hd
    obtain ⟨a, xs0, rfl, rfl, hn, hc, hs, hl, hp, hx⟩ := tsD_R R1 rx hd
    refine ⟨a, xs0, rfl, hp, w1, en, rfl, R1, E.ext X1.toEx0, (Post.bind P1).imp ?_⟩
    rintro v2 H2 ⟨w2, y, rfl, X2, R2, ry, P2⟩
    dsimp only at P2
    unfold uR at P2
    split at P2
    · rename_i n l k m' h1 h2
      split at P2
      · rename_i hz
        obtain ⟨a', xs, e1, e2, hn', hc', hs', hl', hp', hx'⟩ := tsD_R R2 (rx.ext X2.toEx0) h1
        cases e2
        obtain ⟨b, ys, rfl, rfl, hnb, hcb, hsb, hlb, hpb, hxb⟩ := tsD_R R2 ry h2
        have hab : a ≠ b := fun z => by
          subst z
          exact hz.1 (nd_get R2.nd hn' hnb)
        have xl : xs.length = l.length := by rw [← hl', List.length_map]
        have yl : ys.length = m'.length := by rw [← hlb, List.length_map]
        have ul := unT_len xs ys
        have Xw : Ext w2 (w2.wr n a (.ext (TsP a (unT xs ys))) (.ts (unK l m'))) := wr_ext R2 hn' hc' (by intro z; cases z)
        refine ⟨b, xs, ys, rfl, hab, hsb, hp', hpb, fun z => hz.2.1 (by rw [← hl', z]; rfl), fun x hx => (hx' x hx).sq, fun x hx => (hxb x hx).sq, by rw [sizeLine_eq]; omega, ?_⟩
        exact P2 (w2.wr n a (.ext (TsP a (unT xs ys))) (.ts (unK l m'))) .non Xw (R2.wr hn' hc' (by intro z; cases z) ⟨hs, by rw [← hl', ← hlb, ← unT_fst, List.length_map, sizeLine_eq]; omega, unT xs ys, by rw [unT_fst, hl', hlb], upd_same, fun x hx => (unT_mem hx).elim (fun q => (hx' x q).ext Xw.toEx0) fun q => (hxb x q).ext Xw.toEx0⟩) rfl .non
      · exact False.elim P2
    · exact False.elim P2
  · exact False.elim P1
end
end G
namespace G
open PySem L2 PySem.Spec PyProof.Rows SrtO
abbrev ltF (k : Value → Int) : Value → Value → Bool := fun v u => decide (k v < k u)
theorem swo_ltF {α : Type} (k : α → Int) : Swo fun v u : α => decide (k v < k u) := by
  refine ⟨fun x y h => ?_, fun x y z h1 h2 => ?_⟩
  · have := of_decide_eq_true h
    exact decide_eq_false (by omega)
  · have a := of_decide_eq_false h1
    have b := of_decide_eq_false h2
    exact decide_eq_false (by omega)
section
variable {prog : Program} {w : World} {A : Around} {s : Shared} {E : Value → Shared → Prop}
theorem cmp_first {vs : List Value} {k : Value → Int} (hp : ∀ v ∈ vs, IsFst s.heap v (k v)) (hu : ∀ u ∈ vs, ∀ v ∈ vs, k u = k v → u = v) : Cmp prog w A s (tuples' true) (fun p => p.1 ∈ vs) (lt2 (ltF k)) := by
  intro p q hm hm'
  show wpAny (model prog w) A (keyLt' (tuples' true) p.1 q.1) (fun r s' => s' = s ∧ r = decide (k p.1 < k q.1)) (fun _ _ => False) s
  have h1 := hp _ hm
  have h2 := hp _ hm'
  have hpq := hu _ hm _ hm'
  generalize hx : k p.1 = x at h1 hpq ⊢
  generalize hy : k q.1 = y at h2 hpq ⊢
  obtain ⟨a, o, t, r, n, e, ho, hc, hd⟩ := h1
  obtain ⟨a', o', t', r', n', e', ho', hc', hd'⟩ := h2
  rw [e, e'] at hpq ⊢
  refine PySem.W.kat_lt ho hd ho' hd' ?_
  show PySem.W.KatLex prog w A true (decide (2 < 2)) _ [(.int x t, .int y t'), (r, r')] 0 s
  refine PySem.W.kat_cons (SeqAt.EqAt.int_int x t y t' prog w _ _ ?_)
  by_cases c : x = y
  · have ea := hpq c
    cases ea
    rw [ho] at ho'
    cases ho'
    rw [hd] at hd'
    cases hd'
    have eb : (x == x) = true := beq_self_eq_true x
    rw [eb]
    refine PySem.W.kat_yes (PySem.W.kat_cons (SeqAt.EqAt.same r prog w _ _ ?_))
    refine PySem.W.kat_yes (PySem.W.kat_nil ⟨rfl, ?_⟩)
    rw [decide_eq_false (Int.lt_irrefl x)]; rfl
  · have eb : (x == y) = false := beq_eq_false_iff_ne.mpr c
    rw [eb]
    exact PySem.W.kat_no (oneLt_int ⟨rfl, rfl⟩)
theorem kats_first {h : Heap} : ∀ {vs : List Value} {k : Value → Int}, (∀ v ∈ vs, IsFst h v (k v)) → ∃ fs : List Value, PySem.W.KatTups h vs fs ∧ fs.length = vs.length ∧ ∀ f ∈ fs, ∃ x t, f = Value.int x t
  | [], _, _ => ⟨[], PySem.W.KatTups.nil, rfl, fun _ hm => nomatch hm⟩
  | v :: vs, k, hp => by
    obtain ⟨fs, q1, q2, q3⟩ := kats_first (vs := vs) (k := k) fun u hm => hp u (List.mem_cons_of_mem _ hm)
    obtain ⟨a, o, t, r, n, rfl, ho, hc, hd⟩ := hp v List.mem_cons_self
    refine ⟨.int (k (.ref a)) t :: fs, PySem.W.KatTups.cons ho hc hd rfl q1, by simp [q2], fun f hm => ?_⟩
    rcases List.mem_cons.mp hm with rfl | hm
    · exact ⟨_, t, rfl⟩
    · exact q3 f hm
theorem able_first {a : Addr} {vs : List Value} {k : Value → Int} (h0 : 0 < vs.length) (hp : ∀ v ∈ vs, IsFst s.heap v (k v)) (hu : ∀ u ∈ vs, ∀ v ∈ vs, k u = k v → u = v) (ha : ∀ o, s.heap.get? a = some o → o.cls ≠ .type "tuple") : SortableO prog w A s a vs (ltF k) := by
  intro h' keep
  have hp' : ∀ v ∈ vs, IsFst h' v (k v) := fun v hm => (hp v hm).keeps fun b o e c => keep b o (fun z => by subst z; exact ha o e c) e
  obtain ⟨fs, h1, h2, h3⟩ := kats_first hp'
  refine ⟨tuples' true, fun Q E hq => ?_, cmp_first hp' hu⟩
  refine PySem.W.kat_kind (T := .type "int") h1 (by omega) (fun f hm => ?_) (by rfl) ?_
  · obtain ⟨x, t, rfl⟩ := h3 f hm
    exact PySem.W.Looks.now
  · have e : (Value.type "int" != Value.type "tuple") = true := by first | decide +kernel | rfl | decide
    rw [e]; exact hq
theorem sorted_first {l : Addr} {vs : List Value} {k : Value → Int} {Q : Value → Shared → Prop} (hl : s.heap.IsList l vs.toArray) (hz : vs.length ≤ sizeLine) (hp : ∀ v ∈ vs, IsFst s.heap v (k v)) (hu : ∀ u ∈ vs, ∀ v ∈ vs, k u = k v → u = v)
    (h : ∀ (h' : Heap) (d : Addr) (out : List Value), Srtd (ltF k) out → Stb (ltF k) out vs → (∀ b o, s.heap.get? b = some o → h'.get? b = some o) → s.heap.objs.size ≤ d → (∃ n, h'.get? d = some (seqObj "list" out.toArray n)) → Q (.ref d) { s with heap := h' }) :
    wpAny (model prog w) A (call (.builtin "sorted") [.ref l]) Q E s := by
  refine sorted_ord (swo_ltF k) hl hz (fun h2 h₁ a ha kk => ?_) fun out hs hb => h _ _ out hs hb (fun b o e => sortedAll_old e) (Nat.le_succ _) (sortedAll_at s.heap vs out.toArray)
  refine able_first (s := { s with heap := h₁ }) (by omega) (fun v hm => (hp v hm).keeps fun b o e _ => (kk b o e).2) hu fun o e c => ?_
  cases e.symm.trans ha
  exact absurd (Value.type.inj c) (by decide)
end
def fstK : D → Option Int
  | .tup [.int i, _] => some i
  | _ => none
def sortP (l : List D) : List D := l.mergeSort fun a b => decide ((fstK a).getD 0 ≤ (fstK b).getD 0)
open Classical in
noncomputable def fSortP : Store → List D → Option D
  | S, [d] => match seqD S d with
    | some l => if (∀ d, d ∈ l → (fstK d).isSome = true) ∧ (l.map fstK).Nodup then some (.lst (sortP l)) else none
    | none => none
  | _, _ => none
section
variable {X : Cx} {W : WX}
theorem fst_of {pins : List (Addr × Obj)} {σ : L2.St} {s : Shared} {w : Wo} {d : D} {v : V} {u : Value} (I : Inv X pins σ w.hp s) (r : RepD X.K X.mg w d v) (q : RelV v u) (h : (fstK d).isSome = true) : IsFst s.heap u ((fstK d).getD 0) := by
  unfold fstK at h ⊢
  split at h
  · rename_i i d2
    cases r with
    | tup st rl =>
      obtain ⟨v1, vs1, rfl, r1, rl1⟩ := rl.cons_inv
      cases r1
      obtain ⟨v2, vs2, rfl, r2, rl2⟩ := rl1.cons_inv
      cases rl2.nil_inv
      obtain ⟨its, rv, ⟨o, ho, hc, n, hd⟩, _⟩ := I.tuple st.sq
      obtain ⟨u1, u2, rfl, ⟨t, rfl⟩, _⟩ := vals2 rv
      cases (show u = _ from q)
      exact ⟨_, o, t, u2, n, rfl, ho, hc, hd⟩
  · cases h
inductive Rep3 (K : PySem.W.Frag) (mg : Str → Option Value) (w : Wo) : List (D × V × Value) → Prop where
  | nil : Rep3 K mg w []
  | cons {d : D} {v : V} {u : Value} {l : List (D × V × Value)} : RepD K mg w d v → RelV v u → Rep3 K mg w l → Rep3 K mg w ((d, v, u) :: l)
theorem rep3_of {K : PySem.W.Frag} {mg : Str → Option Value} {w : Wo} : ∀ {l : List D} {vs : List V} {us : List Value}, RepL K mg w l vs → Vals vs us → ∃ L, Rep3 K mg w L ∧ L.map (·.1) = l ∧ L.map (·.2.1) = vs ∧ L.map (·.2.2) = us
  | _, _, _, .nil, .nil => ⟨[], .nil, rfl, rfl, rfl⟩
  | _, _, _, .cons r t, .cons q s => by
    obtain ⟨L, h1, h2, h3, h4⟩ := rep3_of t s
    exact ⟨_, .cons r q h1, by simp [h2], by simp [h3], by simp [h4]⟩
theorem Rep3.mem {K : PySem.W.Frag} {mg : Str → Option Value} {w : Wo} {L : List (D × V × Value)} (h : Rep3 K mg w L) : ∀ x, x ∈ L → RepD K mg w x.1 x.2.1 ∧ RelV x.2.1 x.2.2 := by
  induction h with
  | nil => exact fun x h => nomatch h
  | cons r q t ih =>
    intro x hx
    rcases List.mem_cons.mp hx with rfl | hx
    · exact ⟨r, q⟩
    · exact ih x hx
theorem rep3_back {K : PySem.W.Frag} {mg : Str → Option Value} {w : Wo} : ∀ {L : List (D × V × Value)}, (∀ x, x ∈ L → RepD K mg w x.1 x.2.1 ∧ RelV x.2.1 x.2.2) → RepL K mg w (L.map (·.1)) (L.map (·.2.1)) ∧ Vals (L.map (·.2.1)) (L.map (·.2.2))
  | [], _ => ⟨.nil, .nil⟩
  | x :: L, h => by
    obtain ⟨h1, h2⟩ := rep3_back fun y hy => h y (List.mem_cons_of_mem _ hy)
    obtain ⟨r, q⟩ := h x List.mem_cons_self
    exact ⟨.cons r h1, .cons q h2⟩
theorem cm_sortP : CallR X (.builtin "sorted") (CaM X fSortP) := by
  intro pins s σ H xs us Q I r h
  obtain ⟨w, ds, E, rfl, R, q, P⟩ := h
  unfold fSortP at P
  split at P
  · rename_i S d
    obtain ⟨v, rfl, rv⟩ := q.one_inv
    cases e1 : seqD w.st d with
    | none => rw [e1] at P; exact False.elim P
    | some l =>
      rw [e1] at P
      dsimp only at P
      split at P
      · rename_i hz
        obtain ⟨hz1, hz2⟩ := hz
        obtain ⟨ad, vs, rfl, hs, hl⟩ := rv.seq R e1
        obtain ⟨u, rfl, ru⟩ := vals1 r
        obtain rfl : u = Value.ref ad := ru
        obtain ⟨its, rits, hli, hlen⟩ := I.list hs
        obtain ⟨L, hL, e2, e3, e4⟩ := rep3_of hl rits
        let key : D × V × Value → Int := fun x => (fstK x.1).getD 0
        let L' := L.mergeSort fun a b => decide (key a ≤ key b)
        have pm : L'.Perm L := List.mergeSort_perm _ _
        have fst : ∀ x, x ∈ L → IsFst s.heap x.2.2 (key x) := fun x hx => fst_of I (hL.mem x hx).1 (hL.mem x hx).2 (hz1 _ (by rw [← e2]; exact List.mem_map.mpr ⟨x, hx, rfl⟩))
        have srt : L'.Pairwise fun a b => key a ≤ key b := by
          refine (List.pairwise_mergeSort (le := fun a b => decide (key a ≤ key b)) (fun a b c h1 h2 => ?_) (fun a b => ?_) L).imp fun h => of_decide_eq_true h
          · exact decide_eq_true (Int.le_trans (of_decide_eq_true h1) (of_decide_eq_true h2))
          · rcases Int.le_total (key a) (key b) with h | h
            · simp [h]
            · simp [h]
        have inj : ∀ x, x ∈ L → ∀ y, y ∈ L → key x = key y → x = y := by
          have nd : (L.map fun x => fstK x.1).Nodup := by
            rw [← e2, List.map_map] at hz2
            exact hz2
          have hsome : ∀ x, x ∈ L → fstK x.1 = some (key x) := fun x hx => by
            have := hz1 x.1 (by rw [← e2]; exact List.mem_map.mpr ⟨x, hx, rfl⟩)
            obtain ⟨i, hi⟩ := Option.isSome_iff_exists.mp this
            show fstK x.1 = some ((fstK x.1).getD 0)
            rw [hi]; rfl
          intro x hx y hy e
          have e5 : fstK x.1 = fstK y.1 := by rw [hsome x hx, hsome y hy, e]
          obtain ⟨i, hi, rfl⟩ := List.getElem_of_mem hx
          obtain ⟨j, hj, rfl⟩ := List.getElem_of_mem hy
          have : i = j := by
            have := (List.getElem_inj (h₀ := by rw [List.length_map]; exact hi) (h₁ := by rw [List.length_map]; exact hj) nd).mp (by rw [List.getElem_map, List.getElem_map]; exact e5)
            exact this
          subst this; rfl
        have kv : ∀ x, x ∈ L → fstV s.heap x.2.2 = key x := fun x hx => (fst x hx).val
        refine sorted_first (k := fstV s.heap) hli.isList (by rw [← rits.length]; exact hlen) (fun v hv => ?_) (fun v hv u hu e => ?_) fun h' dd out h1 h2 kp hd hn => ?_
        · rw [← e4] at hv
          obtain ⟨x, hx, rfl⟩ := List.mem_map.mp hv
          rw [kv x hx]; exact fst x hx
        · rw [← e4] at hv hu
          obtain ⟨x, hx, rfl⟩ := List.mem_map.mp hv
          obtain ⟨y, hy, rfl⟩ := List.mem_map.mp hu
          rw [kv x hx, kv y hy] at e
          rw [inj x hx y hy e]
        · have eo : out = L'.map (·.2.2) := by
            refine List.Perm.eq_of_pairwise (le := fun a b => fstV s.heap a ≤ fstV s.heap b) (fun a b ha hb h3 h4 => ?_) (h1.imp fun h => Int.not_lt.mp (of_decide_eq_false h)) ?_ ?_
            · have ha' : a ∈ its := h2.perm.mem_iff.mp ha
              rw [← e4] at ha'
              obtain ⟨x, hx, rfl⟩ := List.mem_map.mp ha'
              obtain ⟨y, hy, rfl⟩ := List.mem_map.mp hb
              have hy' := pm.mem_iff.mp hy
              rw [kv x hx, kv y hy'] at h3 h4
              rw [inj x hx y hy' (Int.le_antisymm h3 h4)]
            · rw [List.pairwise_map]
              refine srt.imp_of_mem fun {a b} ha hb h => ?_
              rw [kv a (pm.mem_iff.mp ha), kv b (pm.mem_iff.mp hb)]; exact h
            · refine h2.perm.trans ?_
              rw [← e4]
              exact (pm.map _).symm
          obtain ⟨rl', rv'⟩ := rep3_back (L := L') fun x hx => hL.mem x (pm.mem_iff.mp hx)
          have eD : L'.map (·.1) = sortP l := by
            unfold sortP
            rw [← e2]
            exact List.map_mergeSort fun a _ b _ => rfl
          rw [eD] at rl'
          obtain ⟨n, hn⟩ := hn
          have hn0 : w.hp dd = none := I.hok.fresh hd
          have len : (L'.map (·.2.1)).length ≤ sizeLine := by
            rw [List.length_map, pm.length_eq, ← List.length_map (f := fun x : D × V × Value => x.2.1), e3]
            exact hlen
          exact ⟨.ref dd, upd w.hp dd (.lst (L'.map (·.2.1))), I.laid (t' := s.toks) kp hd ⟨len, out, n, by rw [eo]; exact rv', hn⟩, rfl, Post.put P R hn0 (.lst (put_st R hn0) (rl'.ext (put_ext R hn0).toEx0))⟩
      · exact False.elim P
  · exact False.elim P
end
end G
namespace G
open PySem L2 PySem.Spec
section
variable {X : Cx} {W : WX} {a b c e o f : Expr} {es : List Expr} {ma mb mc me : EM} {pos apos cpos tpos : Pos} {x : Str}
def gFl (cs : List Nat) (f : Nat) (o : EM) : GM := fun d e S => (noX (o e S)).bind fun x S1 => match stF cs f S1 x d with
  | some S2 => .ok e S2
  | none => .stuck
def sAsg2 (m : EM) (g1 g2 : GM) : SM := fun e S => sE (m e S) e fun d S1 => sE (g1 d e S1) e fun e1 S2 => sE (g2 d e1 S2) e1 fun e2 S3 => .nxt e2 S3
def sAsg3 (m : EM) (g1 g2 g3 : GM) : SM := fun e S => sE (m e S) e fun d S1 => sE (g1 d e S1) e fun e1 S2 => sE (g2 d e1 S2) e1 fun e2 S3 => sE (g3 d e2 S3) e2 fun e3 S4 => .nxt e3 S4
def augI (j : Int) (S : Store) (x y : D) (cs : List Nat) (f : Nat) : Option Store := match y with
  | .int i => stF cs f S x (.int (i + j))
  | _ => none
def sFldA (j : Int) (cs : List Nat) (f : Nat) (o : EM) : SM := fun e S => sE (o e S) e fun x S1 => match fldD cs f S1 x with
  | some y => stR (augI j S1 x y cs f) e
  | none => .stuck
def dsR (S : Store) (x y z : D) : Res D := match dkD S x, keyD y with
  | some (n, kvs), some k => match valD kvs k with
    | some d => if kvs.length < sizeLine then .ok d S else .stuck
    | none => if kvs.length < sizeLine then .ok z (S.set n (.dk (putKD kvs k z))) else .stuck
  | _, _ => .stuck
def eDSetd (mo my mx : EM) : EM := fun e S => (mo e S).bind fun x S1 => if (dkD S1 x).isSome = true then (my e S1).bind fun y S2 => (mx e S2).bind fun z S3 => dsR S3 x y z else .stuck
end
end G
namespace G
open PySem L2 PySem.Spec
section
variable {X : Cx} {W : WX} {a b c e o f : Expr} {es : List Expr} {ma mb mc me : EM} {pos apos cpos tpos : Pos} {x : Str}
def strK (xs : List Str) : List Key := xs.map .inr
def eDisp (xs : List Str) (m : AM) : EM := fun e S => (noX (m e S)).bind fun ds S1 => .ok (.loc S1.length) (S1 ++ [.dk ((strK xs).zip ds)])
end
end G
namespace G
open PySem L2 PySem.Spec PyProof.Rows PySem.SeqAt
end G
namespace G
open PySem L2 PySem.Spec PyProof.Rows PySem.SeqAt PySem.W
def hitD (S : Store) (kvs' : List (Key × D)) : List (Key × D) → Option Bool
  | [] => some true
  | (k, d) :: r => match valD kvs' k with
    | none => some false
    | some d' => match eqS S d d', hitD S kvs' r with
      | some e, some b => some (e && b)
      | _, _ => none
def eqRm (co : Option Nat) (S : Store) : D → D → Option Bool
  | .loc n, .loc m => if n = m then some true else match S[n]?, S[m]? with
    | some (.obj c _), some (.obj c' _) => if co = some c ∧ c' = c then some false else none
    | some (.dk a), some (.dk b) => (hitD S b a).map fun r => a.length == b.length && r
    | _, _ => none
  | _, _ => none
def rmI (co : Option Nat) (S : Store) (x : D) : List D → Option Nat
  | [] => none
  | d :: l => match eqRm co S d x with
    | some true => some 0
    | some false => (rmI co S x l).map (· + 1)
    | none => none
def rmR (co : Option Nat) (x : D) (xs : List D) (S : Store) : Res D := match x, xs with
  | .loc n, [y] => match S[n]? with
    | some (.lst l) => match rmI co S y l with
      | some j => .ok .non (S.set n (.lst (l.eraseIdx j)))
      | none => .stuck
    | _ => .stuck
  | _, _ => .stuck
def eRem (co : Option Nat) (a : EM) (m : AM) : EM := fun e S => (a e S).bind fun x S1 => if isLst S1 x then (m e S1).bind fun xs S2 => rmR co x xs S2 else .stuck
end G
namespace G
open PySem L2 PySem.Spec PyProof.Rows
def loE (m : EM) : En → Store → Option Nat := fun e S => match m e S with
  | .ok (.loc n) _ => some n
  | _ => none
end G
namespace G
open PySem L2 PySem.Spec PyProof.Rows
section
variable {X : Cx} {W : WX} {a b c e o : Expr} {es : List Expr} {ma mb mc me : EM} {ta tb : TM} {pos : Pos} {x : Str} {p : Pos} {j k : Nat} {ps ks : List Str} {f : FM}
def sPar3 (i j l : Nat) (m : AM) : SM := fun e S => sE (m e S) e fun ds S1 => match ds with
  | [x, y, z] => .nxt (((e.set i (some x)).set j (some y)).set l (some z)) S1
  | _ => .stuck
end
end G
namespace G
open PySem L2 PySem.Spec PyProof.Rows PySem.SeqAt
end G
namespace G
open PySem L2 PySem.Spec
end G
namespace G
open PySem PySem.W
end G
namespace G
open PySem L2 PySem.Spec PyProof.Rows
end G
namespace G
open PySem PySem.W HandSHeadRun
end G
namespace G
open PySem L2 PySem.Spec PyProof.Rows
structure NeK (K : PySem.W.Frag) (C : Addr) : Prop where
  m : PySem.W.mroIn K C (.type "object") = some true
  e : PySem.W.findIn K (.ref C) "__ne__" = some (some (.builtin "object.__ne__"))
theorem neKB_ok {K : PySem.W.Frag} {x : Str} (h : neKB x K = true) : NeK K (He.ga K x) := by
  obtain ⟨c1, c2⟩ := He.ba h
  exact ⟨of_decide_eq_true c1, He.eqO_ok c2⟩
section
variable {prog : Program} {wd : World} {A : Around} {E : Value → Shared → Prop} {s : Shared} {K : PySem.W.Frag} {x y C f : Addr} {ox oy : Obj} {od od' : Option Obj} {M : Model}
open Builtin
theorem ifBound_objNe {args : List Value} {Q : Option Value → Shared → Prop} (X : K.In s.heap) (I : PySem.W.InstAt s.heap x ox C od) (hs : PySem.W.findIn K (.ref C) "__ne__" = some (some (.builtin "object.__ne__")))
    (h : wpAny M A (call (.builtin "object.__ne__") (.ref x :: args)) (fun v => Q (some v)) E s) : wpAny M A (callSpecialIfBound? (.ref x) "__ne__" args) Q E s := by
  simp only [callSpecialIfBound?, bindSpecialIfBound?]
  refine wpAny_holding (wpAny_bind (wpAny_bind (wpAny_bind (I.type.here ((PySem.W.looks_findIn X hs).here ?_)))))
  refine wpAny_bind (wpAny_askSetting (wpAny_ite ?_))
  have fin : wpAny M A (call (.builtin "object.__ne__") ([.ref x] ++ args) >>= fun v => pure (some v)) Q E s := wpAny_bind (wpAny_mono h (fun v s' h' => wpAny_pure h') fun _ _ h' => h')
  split
  · exact wpAny_bind (wpAny_of_eq (F.cmp_object.ne.bind _) (wpAny_pure (by exact fin)))
  · exact wpAny_tryCatch (wpAny_bind (wpAny_of_eq (F.cmp_object.ne.bind _) (wpAny_pure (by exact fin))))
theorem objNe_own (hu : A.units < cLine) (X : K.In s.heap) (I : PySem.W.InstAt s.heap x ox C od) (hs : PySem.W.findIn K (.ref C) "__eq__" = some (some (.ref f))) (hf : PySem.W.isFn K (.ref f) = true) {Q : Fin → Shared → Prop}
    (hcall : wpAny (model prog wd) A (call (.ref f) [.ref x, .ref y]) (fun v s' => ∃ b, v = .bool b ∧ Q (.done (.ret (.bool (!b)))) s') E s) : wpAny (model prog wd) A (Builtin.«object.__ne__» ⟨[.ref x, .ref y], []⟩) Q E s := by
  unfold Builtin.«object.__ne__»
  repeat (first
    | with_reducible refine wpAny_cRoomFor hu ?_
    | (refine wpAny_bind (m := callSpecialIfBound? (.ref x) (Str.ofString "__eq__") [.ref y])
        (PySem.W.ifBound_K X I hs hf (wpAny_mono hcall (fun r s' hr => by
          obtain ⟨b, rfl, hq⟩ := hr
          repeat (first | exact hq | exact wpAny_pure hq | exact wpAny_truthy_bool hq | (refine wpAny_bind (m := truthy (.bool _)) (wpAny_truthy_bool ?_)) | wp_step)) fun _ _ e => e)))
    | wp_step)
theorem try_ne_own {name : Str} (hn : name = "__ne__") (hu : A.units + 1 < cLine) (X : K.In s.heap) (I : PySem.W.InstAt s.heap x ox C od) (c : NeK K C) (hs : PySem.W.findIn K (.ref C) "__eq__" = some (some (.ref f))) (hf : PySem.W.isFn K (.ref f) = true) {Q : Option Value → Shared → Prop}
    (hcall : wpAny (model prog wd) A.in1 (call (.ref f) [.ref x, .ref y]) (fun v s' => ∃ b, v = .bool b ∧ Q (some (.bool (!b))) s') E s) : wpAny (model prog wd) A (tryCompare (.ref x) name (.ref y)) Q E s := by
  subst hn
  unfold tryCompare
  refine wpAny_bind (ifBound_objNe X I c.e (wpAny_call (codeAny_call_builtin F.cmp_object.ne.plain F.cmpEntry_ne
    (PySem.W.check_slot F.cmpKind_ne F.cmpSplit_ne (I.type.andThen (PySem.W.looks_mroIn X c.m)) (F.cmpArgs_ne _ _)
      (objNe_own (A := A.in1) hu X I hs hf (wpAny_mono hcall (fun v s' hv => ?_) fun _ _ e => e))))))
  obtain ⟨b, rfl, hq⟩ := hv
  first | exact ⟨b, rfl, wpAny_pure hq⟩ | exact ⟨b, rfl, wpAny_pure (wpAny_pure hq)⟩ | exact ⟨b, rfl, hq⟩
theorem rc_ne_own (hu : A.units + 1 < cLine) (X : K.In s.heap) (I : PySem.W.InstAt s.heap x ox C od) (J : PySem.W.InstAt s.heap y oy C od') (c : NeK K C) (hs : PySem.W.findIn K (.ref C) "__eq__" = some (some (.ref f))) (hf : PySem.W.isFn K (.ref f) = true) {Q : Value → Shared → Prop}
    (hcall : wpAny (model prog wd) A.in1 (call (.ref f) [.ref x, .ref y]) (fun v s' => ∃ b, v = .bool b ∧ Q (.bool (!b)) s') E s) : wpAny (model prog wd) A (richCompare .NotEq (.ref x) (.ref y)) Q E s := by
  simp only [richCompare, cmpInfo_NotEq, oneThing_ref]
  refine wpAny_holding (wpAny_bind (wpAny_cRoomFor (by omega) ?_))
  refine wpAny_bind (I.type.here (wpAny_bind (J.type.here ?_)))
  split
  · rename_i q
    exact absurd q (by simp)
  · refine wpAny_bind (wpAny_pure ?_)
    simp only [Bool.false_eq_true, if_false, Bool.not_false, if_true]
    refine wpAny_bind (m := tryCompare (.ref x) _ (.ref y)) (try_ne_own rfl hu X I c hs hf (wpAny_mono hcall (fun v s' hv => ?_) fun _ _ e => e))
    obtain ⟨b, rfl, hq⟩ := hv
    first | exact ⟨b, rfl, wpAny_pure hq⟩ | exact ⟨b, rfl, wpAny_pure (wpAny_pure hq)⟩
end
def eEqO (neg : Bool) (cn : Nat) (f : FM) (gD : List D → List D → List D) (a b : EM) : EM := fun e S => (a e S).bind fun x S1 => (b e S1).bind fun y S2 => eqO neg cn f gD x y S2
def OpQ (X : Cx) (W : WX) (σ : L2.St) (m : D → D → Store → Res D) : R2 := fun v u H Q => ∃ w x y, w.hp = H ∧ Rep X.K X.mg w ∧ RepD X.K X.mg w x v ∧ RepD X.K X.mg w y u ∧ Post (RepD X.K X.mg) X.K X.mg w (m x y w.st) Q (fun cls dd H' => W cls dd σ H')
section
variable {X : Cx} {W : WX} {a b : Expr} {ma mb : EM} {pos : Pos} {j k cn : Nat} {ps : List Str} {f : FM} {gD : List D → List D → List D}
theorem t_opQ {m : D → D → Store → Res D} {σ : L2.St} {H : Hp} {Q : VK} (h : tG (RepD X.K X.mg) X W (fun e S => (ma e S).bind fun x S1 => (mb e S1).bind fun y S2 => m x y S2) σ H Q) : tOp (OpQ X W σ m) (tG (RepD X.K X.mg) X W ma) (tG (RepD X.K X.mg) X W mb) σ H Q := by
  obtain ⟨w, en, rfl, R, E, P⟩ := h
  refine ⟨w, en, rfl, R, E, (Post.bind P).imp ?_⟩
  rintro v H1 ⟨w1, x, rfl, X1, R1, rx, P1⟩
  refine ⟨w1, en, rfl, R1, E.ext X1.toEx0, (Post.bind P1).imp ?_⟩
  rintro u H2 ⟨w2, y, rfl, X2, R2, ry, P2⟩
  exact ⟨w2, x, y, rfl, R2, rx.ext X2.toEx0, ry, P2⟩
theorem run_in1 {E : L2.St → XK} {fa : Addr} {fd : FuncData} {sp : Sp} {n : Nat} {ks : List Str} {g : List Value → List Value → List Value} {gV : List V → List V → List V} {pins : List (Addr × Obj)} {s : L2.St} {H : Hp} {sh : Shared} {Q : VK} {us ws : List Value} {vs zs : List V}
    (F : FnG X.prog X.w X.K X.mg X.base k fa fd ps sp) (hr : RoomG (k + 1) X.A) (hb : KBn X.K fd ps n ks g gV) (hx : PassesAt (L2.CX X.prog X.w) X s (E s)) (I : L2.Inv X pins s H sh) (r : Vals vs us) (rz : Vals zs ws) (h1 : vs.length = n) (h2 : zs.length = ks.length) (h : sp (gV vs zs) H Q (E s)) :
    wpAny (model X.prog X.w) X.A.in1 (call (.ref fa) us (ks.zip ws)) (EP X pins s Q) X.xe sh := by
  obtain ⟨b1, b2⟩ := hb
  have h1' : us.length = n := by rw [← r.length]; exact h1
  have h2' : ws.length = ks.length := by rw [← rz.length]; exact h2
  refine wpAny_call (codeAny_mono (F.run X.A.in1 X.stack sh H ⟨us, ks.zip ws⟩ (g us ws) (gV vs zs) Q (E s) hr.in1 I.env0.in1 (b1 sh us ws I.kIn h1' h2') (b2 r rz) h) fun r s' hq => ?_)
  cases r with
  | error y => exact hx pins H sh y s' I hq
  | ok fl =>
    cases fl with
    | ret u => exact I.after hq
    | next => exact False.elim hq
    | brk => exact False.elim hq
    | cont => exact False.elim hq
theorem eqO_op (neg : Bool) (hr : RoomG (j + 1) X.A) (tk : Takes X W) (hF : Dt X.prog X.w X.K X.mg X.base cn "__eq__" ps j 1 [] gD f) (hne : neg = true → ∀ C, X.mg (cname cn) = some (.ref C) → NeK X.K C) {pins : List (Addr × Obj)} {σ : L2.St} {s : Shared} {H : Hp} {x y : V} {v u : Value} {Q : VK} (I : Inv X pins σ H s) (rx : RelV x v) (ry : RelV y u)
    (q : OpQ X W σ (fun x y S => eqO neg cn f gD x y S) x y H Q) : wpAny (model X.prog X.w) X.A (compareOp (if neg = true then .NotEq else .Eq) v u) (EP X pins σ Q) X.xe s := by
  obtain ⟨C, fa, fd, g, gV, h1, hc, hm, h3, hR, h4⟩ := hF.ex
  obtain ⟨w, dx, dy, rfl, R, qx, qy, P⟩ := q
  dsimp only at P
  unfold eqO at P
  split at P
  · rename_i hcn
    obtain ⟨ax, C1, d1, f1, g1, rfl, e1, hp1, _⟩ := isCn_ins R qx hcn.1
    obtain ⟨ay, C2, d2, f2, g2, rfl, e2, hp2, _⟩ := isCn_ins R qy hcn.2
    cases h1.symm.trans e1
    cases h1.symm.trans e2
    obtain rfl : v = Value.ref ax := rx
    obtain rfl : u = Value.ref ay := ry
    obtain ⟨mA, O, _⟩ := ins_get I.hok hp1
    obtain ⟨od, J, _⟩ := O.look
    obtain ⟨mB, O', _⟩ := ins_get I.hok hp2
    obtain ⟨od', J', _⟩ := O'.look
    obtain ⟨m, hFr⟩ := I.fr
    have hu := hr.units
    obtain ⟨q1, q2⟩ := hR w [dx, dy] [.ref ax, .ref ay] [] [] (.cons qx (.cons qy .nil)) .nil rfl rfl
    have body : Post (RepD X.K X.mg) X.K X.mg w (f (gD [dx, dy] []) w.st) (fun v H => ∃ b, v = .bl b ∧ Q (.bl (if neg = true then !b else b)) H) (fun cls dd H' => W cls dd σ H') := by
      unfold eqOf at P
      refine (Post.bind P).imp ?_
      rintro v H1 ⟨w2, z, rfl, X2, R2, rz, P2⟩
      cases z with
      | bl b => cases rz; exact ⟨b, rfl, Post.now P2 R2 (.bl _)⟩
      | _ => exact False.elim P2
    cases neg with
    | false =>
      show wpAny (model X.prog X.w) X.A (richCompare .Eq (.ref ax) (.ref ay)) (EP X pins σ Q) X.xe s
      refine PySem.W.cmp_K (op := .Eq) (tb := .ref C) (by omega) hFr I.ok.mod.kin J J'.type (by simp [PySem.W.notFirst]) hm.at_ hm.fn (wpAny_mono (run_kw (E := WE W) (us := [.ref ax, .ref ay]) (ws := []) (zs := []) (ks := []) h4 (hr.mono (by omega)) h3 (passAt tk σ) I (vs := [.ref ax, .ref ay]) (.cons rfl (.cons rfl .nil)) .nil rfl rfl ⟨q2, w, gD [dx, dy] [], rfl, R, q1, body⟩) (fun v s' hq => ?_) fun _ _ z => z)
      obtain ⟨z, H', I', rz, b, rfl, qz⟩ := hq
      cases rz
      exact ⟨.bl b, H', I', rfl, qz⟩
    | true =>
      show wpAny (model X.prog X.w) X.A (richCompare .NotEq (.ref ax) (.ref ay)) (EP X pins σ Q) X.xe s
      refine rc_ne_own (by omega) I.kIn J J' (hne rfl C h1) hm.at_ hm.fn (wpAny_mono (run_in1 (E := WE W) (us := [.ref ax, .ref ay]) (ws := []) (zs := []) (ks := []) h4 hr h3 (passAt tk σ) I (vs := [.ref ax, .ref ay]) (.cons rfl (.cons rfl .nil)) .nil rfl rfl ⟨q2, w, gD [dx, dy] [], rfl, R, q1, body⟩) (fun v s' hq => ?_) fun _ _ z => z)
      obtain ⟨z, H', I', rz, b, rfl, qz⟩ := hq
      cases rz
      exact ⟨b, rfl, .bl (!b), H', I', rfl, qz⟩
  · exact False.elim P
theorem rt_of_cmpO {neg : Bool} {op : CmpOp} (hop : op = if neg = true then .NotEq else .Eq) (hm : behindInMarks op b = false) (c : Cg X W k) (hF : Dt X.prog X.w X.K X.mg X.base cn "__eq__" ps j 1 [] gD f) (hj : j + 1 ≤ k) (hne : neg = true → ∀ C, X.mg (cname cn) = some (.ref C) → NeK X.K C) (ha : RE X W a ma) (hb : RE X W b mb) : RT X W (.Compare a [op] [b] pos) (tB (eEqO neg cn f gD ma mb)) := by
  refine ⟨fun pins s σ H Q I h => ?_⟩
  have h2 : tOp (OpQ X W σ (fun x y S => eqO neg cn f gD x y S)) (tG (RepD X.K X.mg) X W ma) (tG (RepD X.K X.mg) X W mb) σ H (fun x H' => ∃ k, x = .bl k ∧ Q k H') := by
    obtain ⟨w, en, rfl, R, E, P⟩ := h
    refine t_opQ ⟨w, en, rfl, R, E, (Post.bind P).imp ?_⟩
    rintro v H1 ⟨w1, x, rfl, X1, R1, rx, P1⟩
    cases x with
    | bl b => cases rx; exact ⟨b, rfl, Post.now P1 R1 rfl⟩
    | _ => exact False.elim P1
  refine wpAny_isTrue_Compare1 (thn (ha.run pins s σ H _ I h2) fun v s1 ⟨x, H1, I1, r1, q1⟩ => thn (hb.run pins s1 σ H1 _ I1 q1) fun u s2 ⟨y, H2, I2, r2, q2⟩ => ?_) hm
  rw [hop]
  refine thn (eqO_op neg (c.rm.mono hj) c.tk hF hne I2 r1 r2 q2) fun z s3 ⟨z', H3, I3, r3, k, e, q3⟩ => ?_
  subst e
  cases r3
  exact wpAny_truthy_bool ⟨H3, I3, q3⟩
theorem rt_eqO (c : Cg X W k) (hF : Dt X.prog X.w X.K X.mg X.base cn "__eq__" ps j 1 [] gD f) (hj : j + 1 ≤ k) (ha : RE X W a ma) (hb : RE X W b mb) : RT X W (.Compare a [.Eq] [b] pos) (tB (eEqO false cn f gD ma mb)) := rt_of_cmpO (neg := false) rfl (nomark b) c hF hj (fun z => (by cases z)) ha hb
theorem rt_neO (c : Cg X W k) (hF : Dt X.prog X.w X.K X.mg X.base cn "__eq__" ps j 1 [] gD f) (hj : j + 1 ≤ k) (hne : ∀ C, X.mg (cname cn) = some (.ref C) → NeK X.K C) (ha : RE X W a ma) (hb : RE X W b mb) : RT X W (.Compare a [.NotEq] [b] pos) (tB (eEqO true cn f gD ma mb)) := rt_of_cmpO (neg := true) rfl (nomark b) c hF hj (fun _ => hne) ha hb
end
end G
namespace G
open PySem L2 PySem.Spec PyProof.Rows
def insR (x : D) (xs : List D) (S : Store) : Res D := match x, xs with
  | .loc n, [.int i, y] => match S[n]? with
    | some (.lst l) => if l.length < sizeLine ∧ 0 ≤ i ∧ i < 2 ^ 62 then .ok .non (S.set n (.lst (l.take i.toNat ++ [y] ++ l.drop i.toNat))) else .stuck
    | _ => .stuck
  | _, _ => .stuck
def eIns (a : EM) (m : AM) : EM := fun e S => (a e S).bind fun x S1 => if isLst S1 x then (m e S1).bind fun xs S2 => insR x xs S2 else .stuck
end G
namespace G
open PySem L2 PySem.Spec PyProof.Rows
end G
namespace G
open PySem L2 PySem.Spec PyProof.Rows
def eTabIx (kvs : List (Str × D)) (mb : EM) : EM := fun e S => (mb e S).bind fun x S1 => match x with
  | .str z => lf (kvs.lookup z) S1
  | _ => .stuck
def eTabIn (neg : Bool) (kvs : List (Str × D)) (mb : EM) : EM := fun e S => (mb e S).bind fun x S1 => match x with
  | .str z => .ok (.bl (if neg = true then !(kvs.lookup z).isSome else (kvs.lookup z).isSome)) S1
  | _ => .stuck
def sTabCall (i : Nat) (fs : List (Str × Nat × FM)) (mb : EM) (mp : AM) : SM := fun e S => sE (mb e S) e fun x S1 => match x with
  | .str z => match fs.lookup z with
    | some q => if i < e.length then sE (mp e S1) (e.set i none) fun ds S2 => if ds.length = q.1 then sE (q.2 ds S2) (e.set i none) fun d S3 => .ret d S3 else .stuck else .stuck
    | none => .stuck
  | _ => .stuck
end G
namespace G
open PySem L2 PySem.Spec PyProof.Rows
inductive TV where
  | strs (l : List Str)
  | int (i : Int)
def TV.d : TV → D
  | .strs l => .tup (l.map .str)
  | .int i => .int i
end G
namespace G
open PySem L2 PySem.Spec PyProof.Rows
section
variable {X : Cx} {W : WX} {a b c e o : Expr} {es : List Expr} {ma mb mc me : EM} {pos : Pos}
def slN (S : Store) : D → Option Int → Option Int → Option (List D)
  | .lst l, lo, hi => some (cutL l lo hi)
  | .loc n, lo, hi => match S[n]? with
    | some (.lst l) => some (cutL l lo hi)
    | _ => none
  | _, _, _ => none
def slR (S : Store) (x : D) (lo hi : Option Int) : Res D := (lf (slN S x lo hi) S).bind fun l S2 => .ok (.loc S2.length) (S2 ++ [.lst l])
def eSlN (a : EM) (lo hi : OM) : EM := fun e S => (a e S).bind fun x S1 => (lo e S1).bind fun l S2 => (hi e S2).bind fun h S3 => slR S3 x l h
end
end G
namespace G
open PySem L2 PySem.Spec PyProof.Rows RZ
section
variable {X : Cx} {W : WX} {a b : Expr} {p pos : Pos} {w : Wo}
def zipRM (ds : List D) (S : Store) : Res (List D) := match ds with
  | [.tup l, .lst m] => .ok (zipD l m) S
  | _ => .stuck
def iZipM (m : AM) : AM := fun e S => (m e S).bind zipRM
end
end G
namespace G
open PySem L2 PySem.Spec
def eqX (neg : Bool) (cn : Nat) (f : FM) (gD : List D → List D → List D) (x y : D) (S : Store) : Res D := if isCn cn S x = true ∧ isCn cn S y = true then eqO neg cn f gD x y S else lf (if neg = true then dNe x y else dEq x y) S
def eEqX (neg : Bool) (cn : Nat) (f : FM) (gD : List D → List D → List D) (a b : EM) : EM := fun e S => (a e S).bind fun x S1 => (b e S1).bind fun y S2 => eqX neg cn f gD x y S2
end G
namespace G
open PySem L2 PySem.Spec PyProof.Rows
section
variable {P : Program} {w0 : World} {K : PySem.W.Frag} {mg : Str → Option Value} {base : Heap}
structure FnN (P : Program) (w0 : World) (K : PySem.W.Frag) (mg : Str → Option Value) (base : Heap) (k : Nat) (f : Addr) (fd : FuncData) (ps : List Str) (sp : Sp) : Prop where
  len : ∀ vs H Q E, sp vs H Q E → vs.length = ps.length
  run : ∀ (A : Around) (ad : Addr) (outer : List Env) (s : Shared) (H : Hp) (args : Args) (us : List Value) (vs : List V) (Q : VK) (E : XK), RoomG k A → Env0 P w0 K mg base A outer s H → BindsTo s fd args (ps.zip us) → Vals vs us → sp vs H Q E →
    codeAny (model P w0) (A.mark (some (.ref ad))) (.call (.ref f) args) (CR (L2.CX P w0) outer P w0 H s Q E) s
theorem fnn_of {x qual : Str} {params : Arguments} {body : List Stmt} {scope : Scope} {dvs : List V} {kws : List (Str × V)} {f : Addr} {fd : FuncData} {N ps : List Str} {k : Nat} {sp : Sp} (F : FunD K x qual params body scope dvs kws f fd) (S : FnScope N ps scope)
    (len : ∀ vs H Q E, sp vs H Q E → vs.length = ps.length)
    (hbody : ∀ (cdv : Value) (A : Around) (outer : List Env) (s : Shared) (H : Hp) (vs : List V) (Q : VK) (E : XK) (ad : Addr), RoomG k (A.deeper (PyProof.Rows.envOfC qual scope s.heap.objs.size f cdv)) → sp vs H Q E →
      ∃ t, PSs ((cxOf (L2.CX P w0) P w0 K mg base N qual scope f cdv A outer s H E).suite ad []) body t ∧ t { nx := fun _ H' => Q .non H', rt := Q } (L2.start N vs) H) : FnN P w0 K mg base (k + 1) f fd ps sp := by
  obtain ⟨oc, od, dV, kV, doc, pm, an, cdv, ct, osl, rfl, lk, hcd, _, _⟩ := F.ex
  constructor
  · exact len
  intro A ad outer s H args us vs Q E rm env bnd rel hs
  have inn : K.In s.heap := env.mod.kin.keeps fun a o q => (env.bs a o q).1
  have nol : s.heap.NoLimit := env.mod.nolimit.keeps fun a o q => (env.bs a o q).1
  apply codeAny_call_function (show (A.mark (some (.ref ad))).depth < recursionLimit from rm.r.depth) (inn _ _ lk) rfl S.co S.gen rfl (PySem.W.codeRec_of inn hcd)
  apply bnd
  apply wpAny_newFunctionEnv_cells S.kind
  · rintro ⟨n, u⟩ hn
    exact (S.par n (List.of_mem_zip hn).1).imp id fun q => ⟨q, PySem.W.cellsFrom_some _ _ _ (.inl q)⟩
  rintro _ rfl s1 nw
  constructor
  · exact nol.keeps nw.toInCall.keep
  obtain ⟨t, ht, hq⟩ := hbody cdv A outer s H vs Q E ad ⟨rm.r.deeper _, rm.gd⟩ hs
  have hI := inv_start (CX := L2.CX P w0) (E := E) S rm.r.hd env (len _ _ _ _ hs) rel nw
  have hI2 := inv_suite (pins := []) hI ad
  apply codeAny_func
  refine wpAny_mono (ht.run [] s1 _ H _ hI2 hq) ?_ fun _ _ z => False.elim z
  intro fl s' z
  cases fl with
  | next => obtain ⟨st, H', J, q⟩ := z; exact ⟨V.non, H', J.os, J.bare, J.base, J.hok, rfl, q⟩
  | ret u => obtain ⟨v, st, H', J, rv, q⟩ := z; exact ⟨v, H', J.os, J.bare, J.base, J.hok, rv, q⟩
  | brk => exact False.elim z.choose_spec.choose_spec.2
  | cont => exact False.elim z.choose_spec.choose_spec.2
def noF (f : FM) : FM := fun ds S => noX (f ds S)
theorem def_okN {x qual : Str} {st : Stmt} {f : Addr} {fd : FuncData} {N ps : List Str} {k : Nat} {m : SM} {dvs : List V} {kws : List (Str × V)} (F : FunD K x qual (defArgs st) (defBody st) (defScope st) dvs kws f fd) (S : FnScope N ps (defScope st))
    (hbody : ∀ (cdv : Value) (A : Around) (outer : List Env) (s : Shared) (H : Hp) (E : XK) (ad : Addr), Cg (cxOf (L2.CX P w0) P w0 K mg base N qual (defScope st) f cdv A outer s H E) (fun cls d _ H' => E cls d H') k →
      RSs ((cxOf (L2.CX P w0) P w0 K mg base N qual (defScope st) f cdv A outer s H E).suite ad []) W0 (defBody st) m) :
    FnN P w0 K mg base (k + 1) f fd ps (spM K mg ps.length (noF (fnM N.length m))) := by
  refine fnn_of F S (fun vs H Q E h => h.1) (fun cdv A outer s H vs Q E ad hr h => ?_)
  refine ⟨_, hbody cdv A outer s H E ad ⟨rfl, S.nd, takes_of rfl rfl rfl rfl, passes_of rfl, hr, rfl, rfl, rfl⟩, ?_⟩
  obtain ⟨hl, w, ds, rfl, R, rl, P1⟩ := h
  refine ⟨w, enOf N.length ds, rfl, R, RepE.start rl N, ?_⟩
  unfold noF fnM at P1
  cases q : m (enOf N.length ds) w.st with
  | nxt e S => rw [q] at P1; exact fun w1 s1 x1 R1 st1 _ => P1 w1 .non x1 R1 st1 .non
  | ret d S => rw [q] at P1; exact P1
  | brk e S => rw [q] at P1; exact False.elim P1
  | cnt e S => rw [q] at P1; exact False.elim P1
  | exc y e S => rw [q] at P1; exact False.elim P1
  | stuck => rw [q] at P1; exact False.elim P1
structure Dn0 (P : Program) (w0 : World) (K : PySem.W.Frag) (mg : Str → Option Value) (base : Heap) (x : Str) (ps : List Str) (k : Nat) (m : FM) : Prop where
  ex : ∃ f fd, mg x = some (.ref f) ∧ PySem.W.keepIn K (.ref f) = true ∧ Binds K fd ps [] ∧ FnN P w0 K mg base k f fd ps (spM K mg ps.length (noF m))
end
section
variable {X : Cx} {W : WX} {a b c e o : Expr} {es : List Expr} {pos : Pos} {x : Str} {p : Pos} {j k : Nat} {ps ks : List Str} {f : FM} {ad : Addr} {pn : List (Addr × Obj)}
theorem env0_mark {P : Program} {w0 : World} {K : PySem.W.Frag} {mg : Str → Option Value} {base : Heap} {A : Around} {h : Option Value} {outer : List Env} {s : Shared} {H : Hp} (e : Env0 P w0 K mg base (A.mark h) outer s H) : Env0 P w0 K mg base A outer s H :=
  ⟨e.frames, e.mod, e.bs, e.bsz, e.funs, e.frf, e.hok, e.bare⟩
theorem run_fn0 {E : L2.St → XK} {f : Addr} {fd : FuncData} {sp : Sp} {pins : List (Addr × Obj)} {s : L2.St} {H : Hp} {sh : Shared} {Q : VK} {args : Args} {zs : List Value} {ws : List V} (F : FnN X.prog X.w X.K X.mg X.base k f fd ps sp) (hr : RoomG k X.A) (hb : BindsTo sh fd args (ps.zip zs)) (hx : PassesAt (L2.CX X.prog X.w) (X.suite ad pn) s (E s))
    (I : L2.Inv (X.suite ad pn) pins s H sh) (r : Vals ws zs) (h : sp ws H Q (E s)) : codeAny (model X.prog X.w) (X.suite ad pn).A (.call (.ref f) args) (fun r s' => match r with | .ok (.ret u) => EP (X.suite ad pn) pins s Q u s' | .error y => (X.suite ad pn).xe y s' | _ => False) sh := by
  refine codeAny_mono (F.run X.A ad X.stack sh H args zs ws Q (E s) hr (env0_mark I.env0) hb r h) ?_
  intro res s' q
  cases res with
  | error y => exact hx pins H sh y s' I q
  | ok fl =>
    cases fl with
    | ret u => exact I.after q
    | _ => exact False.elim q
theorem pe_callN {fa : Addr} {fd : FuncData} {sp : Sp} {E : L2.St → XK} {t : TA} (F : FnN X.prog X.w X.K X.mg X.base k fa fd ps sp) (hr : RoomG k X.A) (hg : Gl (X.suite ad pn) x) (hm : X.mg x = some (.ref fa)) (hk : PySem.W.keepIn X.K (.ref fa) = true) (hb : Binds X.K fd ps []) (hx : ∀ σ, PassesAt (L2.CX X.prog X.w) (X.suite ad pn) σ (E σ))
    (ha : PA (X.suite ad pn) (e :: es) t) (hdb : (x == ("__debug__" : Str)) = false) (he : starEach (e :: es) X.env = (false, eval e X.env) :: starEach es X.env) (hpl : (backTo pos (starEach es X.env)).any (·.1) = false) :
    PE (X.suite ad pn) (.Call (.Name x p) (e :: es) [] pos) (tCallS sp E t) := by
  constructor
  intro pins s σ H Q I h
  apply wpAny_Call_Name_kw
  refine ld_glob (X := X.suite ad pn) I hg hm ?_ hdb
  refine PySem.W.callWith_K (h₀ := X.base) I.ok.mod.kin hk ?_ he hpl
  refine thn (ha.run pos pins s σ H _ I h) ?_
  rintro us s1 ⟨vs, H1, I1, r, q⟩
  refine ⟨I1.kIn, ?_⟩
  have hl : us.length = ps.length := by rw [← r.length]; exact F.len _ _ _ _ q
  have b := hb s1 us I1.kIn (by rw [List.append_nil]; exact hl)
  rw [List.append_nil] at b
  refine wpAny_call (codeAny_mono (run_fn0 (X := X) (ad := ad) (pn := pn) F hr b (hx σ) I1 r q) fun r s' z => ?_)
  cases r with
  | error y => exact z
  | ok fl =>
    cases fl with
    | ret u => exact z
    | next => exact False.elim z
    | brk => exact False.elim z
    | cont => exact False.elim z
def eCallN (f : FM) (m : AM) : EM := fun e S => (m e S).bind fun ds S1 => noF f ds S1
theorem re_callN {m : AM} (c : Cg X W k) (hF : Dn0 X.prog X.w X.K X.mg X.base x ps j f) (hj : j ≤ k) (ha : RA (X.suite ad pn) W0 (e :: es) m) (hg : Gl (X.suite ad pn) x := by rfl) (hdb : (x == ("__debug__" : Str)) = false := by decide) (he : starEach (e :: es) X.env = (false, eval e X.env) :: starEach es X.env := by rfl) (hpl : (backTo pos (starEach es X.env)).any (·.1) = false := by rfl) :
    RE (X.suite ad pn) W0 (.Call (.Name x p) (e :: es) [] pos) (eCallN f (nA ps.length m)) := by
  obtain ⟨fa, fd, h1, h2, h3, h4⟩ := hF.ex
  refine pe_imp (pe_callN h4 (c.rm.mono hj) hg h1 h2 h3 (fun s => passAt (takes_no rfl) s) ha hdb he hpl) ?_
  rintro s H Q ⟨w, en, rfl, R, E, P⟩
  unfold eCallN nA at P
  refine ⟨w, en, rfl, R, E, ?_⟩
  cases q : m en w.st with
  | stuck => rw [q] at P; exact P
  | exc y S => rw [q] at P; exact P
  | ok ds S =>
    rw [q] at P
    replace P : Post (RepD X.K X.mg) X.K X.mg w ((if ds.length = ps.length then .ok ds S else .stuck : Res (List D)).bind (noF f)) Q _ := P
    intro w1 vs x1 R1 st1 rl
    subst st1
    split at P
    · rename_i hl
      exact ⟨by rw [← rl.length]; exact hl, w1, ds, rfl, R1, rl, Post.ext P x1⟩
    · exact False.elim P
end
end G
namespace G
open PySem L2 PySem.Spec PyProof.Rows
def keyS (e : Int × Value) : Str := PyProof.Rows.strOf e.2
def GoodS (w : World) (e : Int × Value) : Prop := ∃ k tk, e.2 = Value.str k tk ∧ e.1 = hashStr w k
def SetS (w : World) (h : Heap) (a : Addr) (S : Str → Bool) (n : Nat) : Prop :=
  ∃ o es ep t, h.get? a = some o ∧ o.ExactSet ∧ o.data = .set es ep t ∧ (∀ e ∈ es.toList, GoodS w e) ∧ (es.toList.map keyS).Nodup ∧ (∀ k, S k = true ↔ k ∈ es.toList.map keyS) ∧
    es.size < scanBound ∧ t.fits es.size = true ∧ es.size = n ∧ Ris t.place.toList ∧ (w.params.followText "set-order" = true ∨ t.led = true)
section
variable {P : Program} {w : World} {h h' : Heap} {a : Addr} {S : Str → Bool} {n : Nat}
theorem SetS.at (R : SetS w h a S n) (k : ∀ o, h.get? a = some o → h'.get? a = some o) : SetS w h' a S n := by
  obtain ⟨o, es, ep, t, ho, r⟩ := R
  exact ⟨o, es, ep, t, k o ho, r⟩
theorem SetS.lt (R : SetS w h a S n) : a < h.objs.size := by
  obtain ⟨o, es, ep, t, ho, r⟩ := R
  exact Heap.lt_size ho
end
end G
namespace G
open PySem L2 PySem.Spec PyProof.Rows
end G
namespace G
open PySem L2 PySem.Spec PyProof.Rows
def mergeKD (kvs more : List (Key × D)) : List (Key × D) := more.foldl (fun acc kv => putKD acc kv.1 kv.2) kvs
section
variable {X : Cx} {W : WX} {o e : Expr} {td ty : TE} {ma mb : EM} {apos cpos : Pos}
def uK (S : Store) (x y : D) : Res D := match dkD S x, dkD S y with
  | some (n, l), some (k, m) => if n ≠ k ∧ l.length + m.length ≤ 1000 then .ok .non (S.set n (.dk (mergeKD l m))) else .stuck
  | _, _ => .stuck
def eDkU (mo ma : EM) : EM := fun e S => (mo e S).bind fun x S1 => if (dkD S1 x).isSome = true then (ma e S1).bind fun y S2 => uK S2 x y else .stuck
def eNx (m : EM) : EM := fun e S => noX (m e S)
end
end G
namespace G
open PySem L2 PySem.Spec PyProof.Rows
open PySem.SeqAt
open AutoSeq1 (wpAny_loadPart')
section
variable {X : Cx} {W : WX} {a b : Expr} {ma mb : EM} {pos : Pos}
def slDA (S : Store) (d : D) (lo hi : Option Int) : Option D := match d with
  | .tup l => some (.tup (cutL l lo hi))
  | d => slD S d lo hi
def eSlA (a : EM) (lo hi : OM) : EM := fun e S => (a e S).bind fun x S1 => (lo e S1).bind fun l S2 => (hi e S2).bind fun h S3 => lf (slDA S3 x l h) S3
end
end G
namespace G
open PySem L2 PySem.Spec PyProof.Rows
open PySem.W (InstAt)
section
variable {prog : Program} {w : World} {K : PySem.W.Frag} {M : Model} {A : Around} {E : Value → Shared → Prop} {s : Shared} {x C f : Addr} {ox : Obj} {od : Option Obj}
theorem klen_call {Q : Value → Shared → Prop} (X : K.In s.heap) (I : InstAt s.heap x ox C od) (hs : PySem.W.findIn K (.ref C) "__len__" = some (some (.ref f))) (hf : PySem.W.isFn K (.ref f) = true)
    (h : wpAny (model prog w) A.in1 (call (.ref f) [.ref x]) (fun r s' => ∃ n u, r = .int n u ∧ 0 ≤ n ∧ n < 2 ^ 63 ∧ Q (.int n s'.toks) { s' with toks := s'.toks + 1 }) E s) : wpAny (model prog w) A (call (.builtin "len") [.ref x]) Q E s := by
  refine Calls.call_function_entry kind_len plain_len entry_len (args_len1 _) ?_
  unfold Builtin.«len»
  refine wpAny_bind (m := oneArg "len" _) (wpAny_pure ?_)
  refine wpAny_bind (m := callSpecial? (.ref x) (Str.ofString "__len__")) (PySem.W.special_fn X I hs (beq_iff_eq.mp hf) (wpAny_mono h (fun r s' hr => ?_) fun _ _ y => y))
  obtain ⟨n, u, rfl, h0, h1, hq⟩ := hr
  refine wpAny_bind (wpAny_holding (wpAny_pure ?_))
  refine wpAny_bind (wpAny_letGo ?_)
  show wpAny _ _ (if n < 0 then _ else _) _ _ _
  rw [if_neg (by omega)]
  show wpAny _ _ (if n ≥ 2 ^ 63 then _ else _) _ _ _
  rw [if_neg (by omega)]
  exact wpAny_bind (wpAny_mkInt (wpAny_pure ⟨_, rfl, hq⟩))
end
section
variable {X : Cx} {W : WX} {a : Expr} {ma : EM} {pos p : Pos} {k j cn : Nat} {ps ks : List Str} {f : FM} {gD : List D → List D → List D}
def lenOf (r : Res D) : Res D := r.bind fun y S1 => match y with
  | .int i => if 0 ≤ i ∧ i < 2 ^ 63 then .ok (.int i) S1 else .stuck
  | _ => .stuck
def eLenO (cn : Nat) (f : FM) (gD : List D → List D → List D) (m : EM) : EM := fun e S => (aCons m aNil e S).bind fun ds S0 => match ds with
  | [x] => if isCn cn S0 x = true then lenOf (f (gD [x] []) S0) else .stuck
  | _ => .stuck
theorem re_lenO (c : Cg X W k) (hm0 : X.mg "len" = none) (ha : RE X W a ma) (hF : Dt X.prog X.w X.K X.mg X.base cn "__len__" ps j 0 [] gD f) (hj : j + 1 ≤ k) (hg : Gl X "len" := by rfl)
    (he : starEach [a] X.env = (false, eval a X.env) :: starEach [] X.env := by rfl) :
    RE X W (.Call (.Name "len" p) [a] [] pos) (eLenO cn f gD ma) := by
  obtain ⟨C, fa, fd, g, gV, h1, hc, hm, h3, hR, h4⟩ := hF.ex
  refine ⟨fun pins s σ H Q I h => ?_⟩
  obtain ⟨w, en, rfl, R, E, P⟩ := h
  refine wpAny_Call_Name_kw (ld_blt I hg hm0 (show bootBuiltins "len" = some (.builtin "len") by rfl) ?_ (by decide) (by decide))
  refine PyProof.Rows.callWith_builtin1 (thn ((ra_cons ha ra_nil (hs := he)).run pos pins s σ w.hp _ I ⟨w, en, rfl, R, E, Post.bind P⟩) fun us s1 hu => ?_) he (by rfl)
  obtain ⟨vs, H1, I1, r, w1, ds, rfl, X1, R1, rl, P1⟩ := hu
  dsimp only at P1
  split at P1
  · obtain ⟨v, rfl, rv⟩ := rl.one_inv
    split at P1
    · rename_i x hcn
      obtain ⟨ad, C', dx, fs, gs, rfl, h1', hp, rf⟩ := isCn_ins R1 rv hcn
      cases h1.symm.trans h1'
      obtain ⟨u, rfl, ru⟩ := vals1 r
      obtain rfl : u = Value.ref ad := ru
      obtain ⟨mA, O, _⟩ := ins_get I1.hok hp
      obtain ⟨od, J, _⟩ := O.look
      obtain ⟨q1, q2⟩ := hR w1 [x] [.ref ad] [] [] (.cons rv .nil) .nil rfl rfl
      refine klen_call I1.kIn J hm.at_ hm.fn (wpAny_mono (run_in1 (E := WE W) (us := [.ref ad]) (ws := []) (zs := []) (ks := []) h4 (c.rm.mono hj) h3 (passAt c.tk σ) I1 (vs := [.ref ad]) (.cons rfl .nil) .nil rfl rfl (Q := fun v H => ∃ i : Int, v = .int i ∧ (0 ≤ i ∧ i < 2 ^ 63) ∧ Q (.int i) H) ⟨q2, w1, gD [x] [], rfl, R1, q1, ?_⟩) (fun v s' hq => ?_) fun _ _ z => z)
      · unfold lenOf at P1
        refine (Post.bind P1).imp ?_
        rintro v H1 ⟨w2, y, rfl, X2, R2, ry, P2⟩
        cases y with
        | int i =>
          cases ry
          dsimp only at P2
          split at P2
          · rename_i hz
            exact ⟨_, rfl, hz, Post.now P2 R2 (.int _)⟩
          · exact False.elim P2
        | _ => exact False.elim P2
      · obtain ⟨v0, H', I3, rv0, i, rfl, hz, q3⟩ := hq
        obtain ⟨tk, rfl⟩ := rv0
        exact ⟨i, tk, rfl, hz.1, hz.2, .int i, H', I3.tok _, ⟨_, rfl⟩, q3⟩
    · exact False.elim P1
  · exact False.elim P1
def strOfT (r : Res D) : Res D := r.bind fun y S1 => match y with
  | .str t => .ok (.str t) S1
  | _ => .stuck
def eReprO (cn : Nat) (f : FM) (gD : List D → List D → List D) (m : EM) : EM := fun e S => (aCons m aNil e S).bind fun ds S0 => match ds with
  | [x] => if isCn cn S0 x = true then strOfT (f (gD [x] []) S0) else .stuck
  | _ => .stuck
end
end G
namespace G
open PySem L2 PySem.Spec
section
variable {X : Cx} {W : WX} {a : Expr} {ma : EM} {pos : Pos} {p : Pos}
def dkV (S : Store) (d : D) : Option (List (Key × D)) := (dkD S d).map (·.2)
def eDictN (m : EM) : EM := fun e S => (m e S).bind fun d S1 => (lf (dkV S1 d) S1).bind fun l S2 => .ok (.loc S2.length) (S2 ++ [.dk l])
end
end G
namespace G
open PySem L2 PySem.Spec PyProof.Rows
def eqKs (S : Store) (lb : List (Key × D)) : List (Key × D) → Option Bool
  | [] => some true
  | (k, v) :: r => match valD lb k with
    | none => some false
    | some y => match eqS S v y with
      | some e => (eqKs S lb r).map fun b => e && b
      | none => none
def dEqK (S : Store) (x y : D) : Option D := match dkV S x, dkV S y with
  | some la, some lb => if la.length = lb.length then (eqKs S lb la).map D.bl else some (.bl false)
  | _, _ => none
section
variable {X : Cx} {pins : List (Addr × Obj)} {σ : L2.St} {s : Shared}
theorem hits_of {w : Wo} (I : L2.Inv X pins σ w.hp s) (R : Rep X.K X.mg w) {lb : List (Key × D)} {ub : List (Key × V)} {kb : List (Key × Value)} (rb : RepK Key X.K X.mg w lb ub) (qb : KV ub kb) {A : Around} (hA : A.in1.units + 64 < cLine) :
    ∀ {la : List (Key × D)} {ua : List (Key × V)} {ka : List (Key × Value)} {r : Bool}, RepK Key X.K X.mg w la ua → KV ua ka → eqKs w.st lb la = some r → PySem.W.KeqHitsP X.prog X.w A.in1 s kb ka r
  | _, _, _, r, .nil, q, e => by
    unfold KV at q
    cases q
    cases e
    exact .nil
  | _, _, _, r, @RepK.cons _ _ _ _ f d v l us rd rl, q, e => by
    unfold KV at q
    cases q with
    | @cons p0 p1 ps qs h t =>
    obtain ⟨k1, v1⟩ := p1
    obtain ⟨h1, h2⟩ := h
    dsimp only at h1 h2
    subst h1
    unfold eqKs at e
    have qv := qb.val f
    cases hv : valD lb f with
    | none =>
      rw [hv] at e
      dsimp only at e
      cases e
      have n1 := RepK.valN rb hv
      rw [n1] at qv
      refine .miss ?_
      cases hk : valueAt kb f with
      | none => rfl
      | some z => rw [hk] at qv; exact False.elim qv
    | some y =>
      rw [hv] at e
      dsimp only at e
      obtain ⟨yv, n1, ry⟩ := RepK.val rb hv
      rw [n1] at qv
      cases hk : valueAt kb f with
      | none => rw [hk] at qv; exact False.elim qv
      | some z =>
        rw [hk] at qv
        have qv : L2.RelV yv z := qv
        cases he : eqS w.st d y with
        | none => rw [he] at e; cases e
        | some b1 =>
          rw [he] at e
          dsimp only at e
          obtain ⟨b2, e2, rfl⟩ := Option.map_eq_some_iff.mp e
          obtain ⟨p, q', d1, d2, s1, s2, rfl⟩ := eqS_pre R rd ry he
          obtain ⟨as, r1⟩ := Dp.reads I p v v1 d1 h2
          obtain ⟨bs, r2⟩ := Dp.reads I q' yv z d2 qv
          exact .hit hk (PySem.W.keq_at r1 r2 s1 s2 hA).eqP (hits_of I R rb qb hA rl t e2)
theorem om_eqK {k : Nat} (rm : RoomG k X.A) : OpR X (compareOp .Eq) (OpMS X dEqK) := by
  have hu := rm.units
  have hu2 : X.A.in1.units + 64 < cLine := by have := rm.r.un; show X.A.units + 1 + 64 < _; omega
  intro pins s σ H x y v u Q I rx ry h
  obtain ⟨w, dx, dy, E, rfl, R, qx, qy, P⟩ := h
  unfold dEqK at P
  split at P
  · rename_i la lb e1 e2
    unfold dkV at e1 e2
    obtain ⟨⟨n1, l1⟩, f1, rfl⟩ := Option.map_eq_some_iff.mp e1
    obtain ⟨⟨n2, l2⟩, f2, rfl⟩ := Option.map_eq_some_iff.mp e2
    obtain ⟨a, ua, rfl, _, ha, ra⟩ := qx.dkV R f1
    obtain ⟨b, ub, rfl, _, hb, rb⟩ := qy.dkV R f2
    cases (show v = Value.ref _ from rx)
    cases (show u = Value.ref _ from ry)
    obtain ⟨_, za, ka, qa, da⟩ := dk_of I.hok ha
    obtain ⟨_, zb, kb, qb, db⟩ := dk_of I.hok hb
    dsimp only at P
    have la : l1.length = ka.length := ra.klen.trans qa.length
    have lb : l2.length = kb.length := rb.klen.trans qb.length
    by_cases hl : l1.length = l2.length
    · rw [if_pos hl] at P
      cases he : eqKs w.st l2 l1 with
      | none => rw [he] at P; exact False.elim P
      | some r =>
        rw [he] at P
        refine PySem.W.rcP_dicts za zb da db (by omega) (fun _ => hits_of I R rb qb hu2 ra qa he) _ _ ⟨.bl r, w.hp, I, ?_, Post.now P R (.bl _)⟩
        have : (ka.length == kb.length) = true := by rw [← la, ← lb]; simpa using hl
        show Value.bool _ = Value.bool _
        rw [this]; rfl
    · rw [if_neg hl] at P
      refine PySem.W.rcP_dicts (r := false) za zb da db (by omega) (fun hh => absurd (la.trans (hh.trans lb.symm)) hl) _ _ ⟨.bl false, w.hp, I, ?_, Post.now P R (.bl _)⟩
      show Value.bool _ = Value.bool _
      rw [Bool.and_false]
  · exact False.elim P
end
section
open AutoSeq1 (wpAny_loadPart')
open PySem.SeqAt
theorem tuple_ne_declines_dict (l b : Addr) (items : Array Value) (n : Nat) (dd : Option Addr) (sl : Array (Option Value)) :
    Meets (Builtin.«tuple.__ne__» ⟨[.ref l, .ref b], []⟩) (fun _ R s => s.heap.get? l = some { cls := .type "tuple", dict := dd, data := .seq items n, slots := sl } ∧ (∃ o, s.heap.get? b = some o ∧ o.cls = .type "dict") ∧ R (.ok (.ret .notImplemented)) s) :=
  .of_wp fun prog w A R s h => by
    obtain ⟨hp, g, d, tk, os⟩ := s; obtain ⟨hl, ⟨⟨cls2, dd2, data2, sl2⟩, hb, hc⟩, h⟩ := h
    simp only at hc
    subst hc
    have f1 := F.sub_dict_tuple
    wp_walk using wpAny_loadPart' hl, wpAny_loadPart' hb
    exact ⟨_, rfl, h⟩
end
section
open PySem.SeqAt
variable {prog : Program} {w : World} {K : Type} [DecidableEq K] {knd : KeyKind prog w K} {A : Around} {E : Value → Shared → Prop} {s : Shared}
theorem dict_ne_declines {a b : Addr} {ka : List (K × Value)} {items : Array Value} {Q : Value → Shared → Prop} (da : s.heap.DictOf knd a ka) (hb : s.heap.IsTuple b items) (h : Q .notImplemented s) :
    wpAny (model prog w) A (call (.builtin "dict.__ne__") [.ref a, .ref b]) Q E s := by
  have tb : s.TypeIs (.ref b) "tuple" := by obtain ⟨o, ho, hc, _⟩ := hb; exact ⟨o, ho, hc⟩
  refine wpAny_call_entry PySem.F.slot_dict_ne da.typeIs PySem.F.entry_dict_ne ?_ (PySem.F.args_dict_ne_2 _ _)
  show wpAny _ _ (Builtin.Dict.dictSlotArgs "__ne__" ⟨[.ref a, .ref b], []⟩ >>= _) _ _ s
  refine wpAny_bind ?_
  unfold Builtin.Dict.dictSlotArgs
  refine wpAny_bind (wpAny_notOrdered_dict da.typeIs ?_)
  show wpAny _ _ (pure (Value.ref a, Value.ref b)) _ _ s
  refine wpAny_pure ?_
  refine wpAny_bind (wpAny_isInstance (T := "tuple") tb PySem.F.sub_tuple_dict ?_)
  simp only [Bool.not_false, if_true]
  refine wpAny_bind (wpAny_rule ?_)
  refine wpAny_pure ?_
  exact ⟨_, rfl, h⟩
theorem rcn_dict_tuple {a b : Addr} {ka : List (K × Value)} {items : Array Value} {Q : Value → Shared → Prop} (da : s.heap.DictOf knd a ka) (hb : s.heap.IsTuple b items) (hu : A.units < cLine) (h : Q (.bool true) s) :
    wpAny (model prog w) A (richCompare .NotEq (.ref a) (.ref b)) Q E s := by
  obtain ⟨⟨cls2, dd2, data2, sl2⟩, ho2, hc2, n2, hd2⟩ := id hb
  obtain ⟨o, es, ep, ho, hc, _⟩ := id da
  simp only at hc2 hd2
  subst hc2 hd2
  have hcl : o.cls = .type "dict" := hc.1
  have hne : a ≠ b := fun e => by
    subst e
    rw [ho] at ho2
    cases ho2
    exact absurd hcl (by simp)
  exact (rc_ne_decline_or (k := false) da.typeIs ⟨_, ho2, rfl⟩ (by decide) PySem.F.sub_tuple_dict PySem.F.slot_dict_ne PySem.F.slot_tuple_ne_refl
    (fun _ hq => dict_ne_declines da hb hq)
    (fun _ hq => call_meets PySem.F.slot_tuple_ne_refl ⟨_, ho2, rfl⟩ PySem.F.entry_tuple_ne (PySem.F.args_tuple_ne_2 _ _) (tuple_ne_declines_dict b a items n2 dd2 sl2) ⟨ho2, ⟨o, ho, hcl⟩, hq⟩)
    (fun _ hq => wpAny_isSame_ref_other hne ho ho2 (by rw [hcl]; simp) hq) (.inr hu) h)
end
section
variable {X : Cx}
def dNeW (x y : D) : Option D := match x, y with
  | .dic _ _, .tup _ => some (.bl true)
  | x, y => dNe x y
theorem om_neW (hu : X.A.units + 64 < cLine) : OpR X (compareOp .NotEq) (OpM X dNeW) := by
  intro pins s σ H x y v u Q I rx ry h
  obtain ⟨w, dx, dy, E, rfl, R, qx, qy, P⟩ := h
  unfold dNeW at P
  split at P
  · cases qx with
    | dic st hz r =>
      rename_i ks l m a vs
      cases qy with
      | tup st2 r2 =>
        cases (show v = Value.ref _ from rx)
        cases (show u = Value.ref _ from ry)
        obtain ⟨its, r1, p1, _⟩ := I.tuple st2.sq
        obtain ⟨_, _, ws, _, dd⟩ := dk_of I.hok st.1
        exact rcn_dict_tuple dd p1 (by omega) ⟨.bl true, w.hp, I, rfl, Post.now P R (.bl _)⟩
  · exact om_ne hu pins s σ w.hp x y v u Q I rx ry ⟨w, dx, dy, E, rfl, R, qx, qy, P⟩
end
section
variable {X : Cx}
def fLenD : Store → List D → Option D
  | S, [d] => (dkV S d).map fun l => .int l.length
  | _, _ => none
theorem cm_lenD : CallR X (.builtin "len") (CaM X fLenD) := by
  intro pins s σ H xs us Q I r h
  obtain ⟨w, ds, E, rfl, R, q, P⟩ := h
  unfold fLenD at P
  split at P
  · rename_i d
    obtain ⟨v, rfl, rv⟩ := q.one_inv
    cases e : dkV w.st d with
    | none => rw [e] at P; exact False.elim P
    | some l =>
      rw [e] at P
      unfold dkV at e
      obtain ⟨⟨n1, l1⟩, f1, rfl⟩ := Option.map_eq_some_iff.mp e
      obtain ⟨a, ua, rfl, _, ha, ra⟩ := rv.dkV R f1
      obtain ⟨u, rfl, ru⟩ := vals1 r
      cases (show u = Value.ref _ from ru)
      refine d_len I (.inl ha) fun t s' I' => ⟨.int ua.length, w.hp, I', ⟨t, rfl⟩, ?_⟩
      have := Post.now P R (.int _)
      rw [← ra.klen]
      exact this
  · exact False.elim P
end
end G
namespace G
open PySem
def Wr {β : Type} (r : Res β) (Q : β → Store → Prop) (X : D → Store → Prop) : Prop := match r with
  | .ok b S => Q b S
  | .exc e S => X e S
  | .stuck => False
structure KS where
  nx : En → Store → Prop
  rt : D → Store → Prop
  bk : En → Store → Prop
  ct : En → Store → Prop
  ex : D → En → Store → Prop
def Ws (r : SRes) (k : KS) : Prop := match r with
  | .nxt e S => k.nx e S
  | .ret d S => k.rt d S
  | .brk e S => k.bk e S
  | .cnt e S => k.ct e S
  | .exc x e S => k.ex x e S
  | .stuck => False
abbrev QP (β : Type) := β → Store → Prop
section
variable {β γ : Type} {Q : β → Store → Prop} {QD : D → Store → Prop} {QB : Bool → Store → Prop} {QL : List D → Store → Prop} {QO : Option Int → Store → Prop} {QE : En → Store → Prop} {X : D → Store → Prop} {k : KS} {e : En} {S S1 : Store} {a b c : EM} {t u : TM} {m n : SM} {am : AM} {x y d : D} {z : Bool} {xs ds : List D}
theorem wr_ok (z : β) : Wr (.ok z S) Q X = Q z S := rfl
theorem wr_exc (z : D) : Wr (.exc z S : Res β) Q X = X z S := rfl
theorem wr_stuck : Wr (.stuck : Res β) Q X = False := rfl
theorem wr_bind {r : Res γ} {f : γ → Store → Res β} : Wr (r.bind f) Q X = Wr r (fun b S => Wr (f b S) Q X) X := by cases r <;> rfl
theorem wr_guard {p : Prop} [Decidable p] {r : Res β} : Wr (if p then r else .stuck) Q X = (p ∧ Wr r Q X) := by
  by_cases h : p
  · rw [if_pos h]; simp [h]
  · rw [if_neg h]; simp [h, wr_stuck]
def nX : D → Store → Prop := fun _ _ => False
theorem wr_lf (z : β) : Wr (lf (some z) S) Q X = Q z S := rfl
theorem wr_eC : Wr (eC d e S) QD X = QD d S := rfl
def evQ (o : Option (Option D)) (S : Store) (Q : D → Store → Prop) : Prop := match o with
  | some (some d) => Q d S
  | _ => False
theorem evQ_some : evQ (some (some d)) S QD = QD d S := rfl
theorem wr_eVar (i : Nat) : Wr (eVar i e S) QD X = evQ e[i]? S QD := by
  unfold eVar evQ
  cases e[i]? with
  | none => rfl
  | some o => cases o <;> rfl
def cB2 (f : D → D → Option D) (x : D) (Q X : QP D) : QP D := fun y S => Wr (lf (f x y) S) Q X
def cB1 (f : D → D → Option D) (b : EM) (e : En) (Q X : QP D) : QP D := fun x S => Wr (b e S) (cB2 f x Q X) X
theorem cB2_s (f : D → D → Option D) : cB2 f x QD X y S = Wr (lf (f x y) S) QD X := rfl
theorem cB1_s (f : D → D → Option D) : cB1 f b e QD X x S = Wr (b e S) (cB2 f x QD X) X := rfl
theorem wr_eBin (f : D → D → Option D) : Wr (eBin f a b e S) QD X = Wr (a e S) (cB1 f b e QD X) X := by
  unfold eBin; simp only [wr_bind]; rfl
def cS2 (f : Store → D → D → Option D) (x : D) (Q X : QP D) : QP D := fun y S => Wr (lf (f S x y) S) Q X
def cS1 (f : Store → D → D → Option D) (b : EM) (e : En) (Q X : QP D) : QP D := fun x S => Wr (b e S) (cS2 f x Q X) X
theorem cS2_s (f : Store → D → D → Option D) : cS2 f x QD X y S = Wr (lf (f S x y) S) QD X := rfl
theorem cS1_s (f : Store → D → D → Option D) : cS1 f b e QD X x S = Wr (b e S) (cS2 f x QD X) X := rfl
theorem wr_eBinS (f : Store → D → D → Option D) : Wr (eBinS f a b e S) QD X = Wr (a e S) (cS1 f b e QD X) X := by
  unfold eBinS; simp only [wr_bind]; rfl
def asQ (Q : Bool → Store → Prop) : QP D := fun x S => match x with
  | .bl b => Q b S
  | _ => False
theorem asQ_bl : asQ QB (.bl z) S = QB z S := rfl
theorem wr_tB : Wr (tB a e S) QB X = Wr (a e S) (asQ QB) X := by
  unfold tB; rw [wr_bind]; congr; funext x S1; cases x <;> rfl
def truQ (Q : QP Bool) (X : QP D) : QP D := fun x S => Wr (lf (truD S x) S) Q X
theorem truQ_s : truQ QB X x S = Wr (lf (truD S x) S) QB X := rfl
theorem wr_tT : Wr (tT a e S) QB X = Wr (a e S) (truQ QB X) X := by unfold tT; rw [wr_bind]; rfl
def notQ (Q : QP Bool) : QP Bool := fun b S => Q (!b) S
theorem notQ_s : notQ QB z S = QB (!z) S := rfl
theorem wr_tNt : Wr (tNt t e S) QB X = Wr (t e S) (notQ QB) X := by unfold tNt; rw [wr_bind]; rfl
def anQ (u : TM) (e : En) (Q : QP Bool) (X : QP D) : QP Bool := fun b S => match b with
  | true => Wr (u e S) Q X
  | false => Q false S
theorem anQ_t : anQ u e QB X true S = Wr (u e S) QB X := rfl
theorem anQ_f : anQ u e QB X false S = QB false S := rfl
theorem wr_tAn : Wr (tAn t u e S) QB X = Wr (t e S) (anQ u e QB X) X := by
  unfold tAn; rw [wr_bind]; congr; funext b S1; cases b <;> rfl
def orQ (u : TM) (e : En) (Q : QP Bool) (X : QP D) : QP Bool := fun b S => match b with
  | true => Q true S
  | false => Wr (u e S) Q X
theorem orQ_t : orQ u e QB X true S = QB true S := rfl
theorem orQ_f : orQ u e QB X false S = Wr (u e S) QB X := rfl
theorem wr_tOr : Wr (tOr' t u e S) QB X = Wr (t e S) (orQ u e QB X) X := by
  unfold tOr'; rw [wr_bind]; congr; funext b S1; cases b <;> rfl
def eaB (b : EM) (e : En) (x : D) (Q X : QP D) : QP Bool := fun z S => match z with
  | true => Wr (b e S) Q X
  | false => Q x S
def eaQ (b : EM) (e : En) (Q X : QP D) : QP D := fun x S => Wr (lf (truD S x) S) (eaB b e x Q X) X
theorem eaB_t : eaB b e x QD X true S = Wr (b e S) QD X := rfl
theorem eaB_f : eaB b e x QD X false S = QD x S := rfl
theorem eaQ_s : eaQ b e QD X x S = Wr (lf (truD S x) S) (eaB b e x QD X) X := rfl
theorem wr_eAn : Wr (eAn a b e S) QD X = Wr (a e S) (eaQ b e QD X) X := by
  unfold eAn; rw [wr_bind]; congr; funext b S1; rw [wr_bind, eaQ_s]; congr; funext b S1; cases b <;> rfl
def eoB (b : EM) (e : En) (x : D) (Q X : QP D) : QP Bool := fun z S => match z with
  | true => Q x S
  | false => Wr (b e S) Q X
def eoQ (b : EM) (e : En) (Q X : QP D) : QP D := fun x S => Wr (lf (truD S x) S) (eoB b e x Q X) X
theorem eoB_t : eoB b e x QD X true S = QD x S := rfl
theorem eoB_f : eoB b e x QD X false S = Wr (b e S) QD X := rfl
theorem eoQ_s : eoQ b e QD X x S = Wr (lf (truD S x) S) (eoB b e x QD X) X := rfl
theorem wr_eOr : Wr (eOr a b e S) QD X = Wr (a e S) (eoQ b e QD X) X := by
  unfold eOr; rw [wr_bind]; congr; funext b S1; rw [wr_bind, eoQ_s]; congr; funext b S1; cases b <;> rfl
def enB (Q : QP D) : QP Bool := fun z S => Q (.bl (!z)) S
def enQ (Q X : QP D) : QP D := fun x S => Wr (lf (truD S x) S) (enB Q) X
theorem enB_s : enB QD z S = QD (.bl (!z)) S := rfl
theorem enQ_s : enQ QD X x S = Wr (lf (truD S x) S) (enB QD) X := rfl
theorem wr_eNt : Wr (eNt a e S) QD X = Wr (a e S) (enQ QD X) X := by
  unfold eNt; rw [wr_bind]; congr; funext b S1; rw [wr_bind]; rfl
def eiQ (a b : EM) (e : En) (Q X : QP D) : QP Bool := fun z S => match z with
  | true => Wr (a e S) Q X
  | false => Wr (b e S) Q X
theorem eiQ_t : eiQ a b e QD X true S = Wr (a e S) QD X := rfl
theorem eiQ_f : eiQ a b e QD X false S = Wr (b e S) QD X := rfl
theorem wr_eIf : Wr (eIf t a b e S) QD X = Wr (t e S) (eiQ a b e QD X) X := by
  unfold eIf; rw [wr_bind]; congr; funext b S1; cases b <;> rfl
def negQ (Q : QP D) : QP D := fun x S => match x with
  | .int i => Q (.int (-i)) S
  | _ => False
theorem negQ_int (i : Int) : negQ QD (.int i) S = QD (.int (-i)) S := rfl
theorem wr_eNeg : Wr (eNeg a e S) QD X = Wr (a e S) (negQ QD) X := by
  unfold eNeg; rw [wr_bind]; congr; funext x S1; cases x <;> rfl
theorem wr_aNil : Wr (aNil e S) QL X = QL [] S := rfl
def cC2 (x : D) (Q : QP (List D)) : QP (List D) := fun xs S => Q (x :: xs) S
def cC1 (am : AM) (e : En) (Q : QP (List D)) (X : QP D) : QP D := fun x S => Wr (am e S) (cC2 x Q) X
theorem cC2_s : cC2 x QL xs S = QL (x :: xs) S := rfl
theorem cC1_s : cC1 am e QL X x S = Wr (am e S) (cC2 x QL) X := rfl
theorem wr_aCons : Wr (aCons a am e S) QL X = Wr (a e S) (cC1 am e QL X) X := by
  unfold aCons; rw [wr_bind]; congr; funext x S1; rw [wr_bind]; rfl
def tupQ (Q : QP D) : QP (List D) := fun xs S => xs.length ≤ sizeLine ∧ Q (.tup xs) S
def lstQ (Q : QP D) : QP (List D) := fun xs S => xs.length ≤ sizeLine ∧ Q (.lst xs) S
def newQ (Q : QP D) : QP (List D) := fun xs S => xs.length ≤ sizeLine ∧ Q (.loc S.length) (S ++ [.lst xs])
theorem tupQ_s : tupQ QD xs S = (xs.length ≤ sizeLine ∧ QD (.tup xs) S) := rfl
theorem lstQ_s : lstQ QD xs S = (xs.length ≤ sizeLine ∧ QD (.lst xs) S) := rfl
theorem newQ_s : newQ QD xs S = (xs.length ≤ sizeLine ∧ QD (.loc S.length) (S ++ [.lst xs])) := rfl
theorem wr_eTup : Wr (eTup am e S) QD X = Wr (am e S) (tupQ QD) X := by
  unfold eTup; rw [wr_bind]; congr; funext xs S1; rw [wr_guard]; rfl
theorem wr_eLst : Wr (eLst am e S) QD X = Wr (am e S) (lstQ QD) X := by
  unfold eLst; rw [wr_bind]; congr; funext xs S1; rw [wr_guard]; rfl
theorem wr_eNew : Wr (eNew am e S) QD X = Wr (am e S) (newQ QD) X := by
  unfold eNew; rw [wr_bind]; congr; funext xs S1; rw [wr_guard]; rfl
def caQ (f : Store → List D → Option D) (Q X : QP D) : QP (List D) := fun xs S => Wr (lf (f S xs) S) Q X
theorem caQ_s (f : Store → List D → Option D) : caQ f QD X xs S = Wr (lf (f S xs) S) QD X := rfl
theorem wr_eCa (f : Store → List D → Option D) : Wr (eCa f am e S) QD X = Wr (am e S) (caQ f QD X) X := by unfold eCa; rw [wr_bind]; rfl
def clQ (f : FM) (Q X : QP D) : QP (List D) := fun xs S => Wr (f xs S) Q X
theorem clQ_s (f : FM) : clQ f QD X xs S = Wr (f xs S) QD X := rfl
theorem wr_eCall (f : FM) : Wr (eCall f am e S) QD X = Wr (am e S) (clQ f QD X) X := by unfold eCall; rw [wr_bind]; rfl
def nAQ (i : Nat) (Q : QP (List D)) : QP (List D) := fun xs S => xs.length = i ∧ Q xs S
theorem nAQ_s (i : Nat) : nAQ i QL xs S = (xs.length = i ∧ QL xs S) := rfl
theorem wr_nA (i : Nat) : Wr (nA i am e S) QL X = Wr (am e S) (nAQ i QL) X := by
  unfold nA; rw [wr_bind]; congr; funext xs S1; rw [wr_guard]; rfl
def tyQ (y : Ty) (Q X : QP D) : QP D := fun x S => Wr (lf ((isTy S y x).map .bl) S) Q X
theorem tyQ_s (y : Ty) : tyQ y QD X x S = Wr (lf ((isTy S y x).map .bl) S) QD X := rfl
theorem wr_eIsTy (y : Ty) : Wr (eIsTy y a e S) QD X = Wr (a e S) (tyQ y QD X) X := by unfold eIsTy; rw [wr_bind]; rfl
def icQ (tb : Nat → Option Bool) (Q X : QP D) : QP D := fun x S => Wr (lf ((isC tb x).map .bl) S) Q X
theorem icQ_s (tb : Nat → Option Bool) : icQ tb QD X x S = Wr (lf ((isC tb x).map .bl) S) QD X := rfl
theorem wr_eIsC (tb : Nat → Option Bool) : Wr (eIsC tb a e S) QD X = Wr (a e S) (icQ tb QD X) X := by unfold eIsC; rw [wr_bind]; rfl
def mt2 (f : Store → D → List D → Option D) (x : D) (Q X : QP D) : QP (List D) := fun xs S => Wr (lf (f S x xs) S) Q X
def mt1 (f : Store → D → List D → Option D) (am : AM) (e : En) (Q X : QP D) : QP D := fun x S => (seqD S x).isSome = true ∧ Wr (am e S) (mt2 f x Q X) X
theorem mt2_s (f : Store → D → List D → Option D) : mt2 f x QD X xs S = Wr (lf (f S x xs) S) QD X := rfl
theorem mt1_s (f : Store → D → List D → Option D) : mt1 f am e QD X x S = ((seqD S x).isSome = true ∧ Wr (am e S) (mt2 f x QD X) X) := rfl
theorem wr_eMt (f : Store → D → List D → Option D) : Wr (eMt f a am e S) QD X = Wr (a e S) (mt1 f am e QD X) X := by
  unfold eMt; rw [wr_bind]; congr; funext x S1; rw [wr_guard, wr_bind]; rfl
theorem wr_oNone : Wr (oNone e S) QO X = QO none S := rfl
def oQ (Q : Option Int → Store → Prop) : QP D := fun x S => match x with
  | .int i => Q (some i) S
  | _ => False
theorem oQ_int (i : Int) : oQ QO (.int i) S = QO (some i) S := rfl
theorem wr_oSome : Wr (oSome a e S) QO X = Wr (a e S) (oQ QO) X := by
  unfold oSome; rw [wr_bind]; congr; funext x S1; cases x <;> rfl
def sl3 (x : D) (i : Option Int) (Q X : QP D) : QP (Option Int) := fun j S => Wr (lf (slD S x i j) S) Q X
def sl2 (x : D) (h : OM) (e : En) (Q X : QP D) : QP (Option Int) := fun i S => Wr (h e S) (sl3 x i Q X) X
def sl1 (l h : OM) (e : En) (Q X : QP D) : QP D := fun x S => Wr (l e S) (sl2 x h e Q X) X
theorem sl3_s (i j : Option Int) : sl3 x i QD X j S = Wr (lf (slD S x i j) S) QD X := rfl
theorem sl2_s (h : OM) (i : Option Int) : sl2 x h e QD X i S = Wr (h e S) (sl3 x i QD X) X := rfl
theorem sl1_s (l h : OM) : sl1 l h e QD X x S = Wr (l e S) (sl2 x h e QD X) X := rfl
theorem wr_eSl (l h : OM) : Wr (eSl a l h e S) QD X = Wr (a e S) (sl1 l h e QD X) X := by
  unfold eSl; simp only [wr_bind]; rfl
def kk2 (f : FM) (g : List D → List D → List D) (i j : Nat) (ds : List D) (Q X : QP D) : QP (List D) := fun zs S => (ds.length = i ∧ zs.length = j) ∧ Wr (f (g ds zs) S) Q X
def kk1 (f : FM) (g : List D → List D → List D) (i j : Nat) (mk : AM) (e : En) (Q X : QP D) : QP (List D) := fun ds S => Wr (mk e S) (kk2 f g i j ds Q X) X
theorem kk2_s (f : FM) (g : List D → List D → List D) (i j : Nat) : kk2 f g i j ds QD X xs S = ((ds.length = i ∧ xs.length = j) ∧ Wr (f (g ds xs) S) QD X) := rfl
theorem kk1_s (f : FM) (g : List D → List D → List D) (i j : Nat) (mk : AM) : kk1 f g i j mk e QD X ds S = Wr (mk e S) (kk2 f g i j ds QD X) X := rfl
theorem wr_eCallK (f : FM) (g : List D → List D → List D) (i j : Nat) (mk : AM) : Wr (eCallK f g i j am mk e S) QD X = Wr (am e S) (kk1 f g i j mk e QD X) X := by
  unfold eCallK; rw [wr_bind]; congr; funext ds S1; rw [wr_bind, kk1_s]; congr; funext zs S2; rw [wr_guard]; rfl
def kk0 (f : FM) (g : List D → List D → List D) (j : Nat) (Q X : QP D) : QP (List D) := fun zs S => zs.length = j ∧ Wr (f (g [] zs) S) Q X
theorem kk0_s (f : FM) (g : List D → List D → List D) (j : Nat) : kk0 f g j QD X xs S = (xs.length = j ∧ Wr (f (g [] xs) S) QD X) := rfl
theorem wr_eCallK0 (f : FM) (g : List D → List D → List D) (j : Nat) (mk : AM) : Wr (eCallK0 f g j mk e S) QD X = Wr (mk e S) (kk0 f g j QD X) X := by
  unfold eCallK0; rw [wr_bind]; congr; funext zs S2; rw [wr_guard]; rfl
theorem wr_noX {r : Res β} : Wr (noX r) Q X = Wr r Q nX := by cases r <;> rfl
theorem wr_gN (i : Nat) : Wr (gN i d e S) QE X = QE (e.set i (some d)) S := rfl
def sb3 (e : En) (Q : QP En) (o : Option Store) : Prop := match o with
  | some S => Q e S
  | none => False
theorem sb3_s : sb3 e QE (some S) = QE e S := rfl
def sb2 (d x : D) (e : En) (Q : QP En) : QP D := fun y S => sb3 e Q (setD S x y d)
def sb1 (d : D) (i : EM) (e : En) (Q : QP En) : QP D := fun x S => Wr (i e S) (sb2 d x e Q) nX
theorem sb2_s : sb2 d x e QE y S = sb3 e QE (setD S x y d) := rfl
theorem sb1_s (i : EM) : sb1 d i e QE x S = Wr (i e S) (sb2 d x e QE) nX := rfl
theorem wr_gSb (o i : EM) : Wr (gSb o i d e S) QE X = Wr (o e S) (sb1 d i e QE) nX := by
  unfold gSb; rw [wr_bind, wr_noX]; congr; funext x S1; rw [wr_bind, wr_noX, sb1_s]; congr; funext y S2; rw [sb2_s]; cases h : setD S2 x y d <;> rfl
theorem wr_gsNil : Wr (gsNil [] e S) QE X = QE e S := rfl
def gs1 (r : GMs) (ds : List D) (Q : QP En) : QP En := fun e S => Wr (r ds e S) Q nX
theorem gs1_s (r : GMs) : gs1 r ds QE e S = Wr (r ds e S) QE nX := rfl
theorem wr_gsCons (g : GM) (r : GMs) (ds : List D) : Wr (gsCons' g r (d :: ds) e S) QE X = Wr (g d e S) (gs1 r ds QE) nX := by
  show Wr ((noX (g d e S)).bind fun e1 S1 => noX (r ds e1 S1)) QE X = _
  rw [wr_bind, wr_noX]; congr; funext x S1; rw [wr_noX]; rfl
theorem wr_gTp (i : Nat) (r : GMs) (ds : List D) : Wr (gTp i r (.tup ds) e S) QE X = (ds.length = i ∧ Wr (r ds e S) QE X) := by
  show Wr (if ds.length = i then r ds e S else .stuck) QE X = _
  rw [wr_guard]
def KS.sq (k : KS) (n : SM) : KS := ⟨fun e S => Ws (n e S) k, k.rt, k.bk, k.ct, k.ex⟩
def KS.xe (k : KS) (e : En) : QP D := fun x S => k.ex x e S
theorem xe_s : k.xe e x S = k.ex x e S := rfl
theorem sq_nx : (k.sq n).nx e S = Ws (n e S) k := rfl
theorem sq_rt : (k.sq n).rt = k.rt := rfl
theorem sq_bk : (k.sq n).bk = k.bk := rfl
theorem sq_ct : (k.sq n).ct = k.ct := rfl
theorem sq_ex : (k.sq n).ex = k.ex := rfl
theorem sq_xe : (k.sq n).xe e = k.xe e := rfl
theorem ws_nxt : Ws (.nxt e S) k = k.nx e S := rfl
theorem ws_sS {r : SRes} : Ws (sS r n) k = Ws r (k.sq n) := by cases r <;> rfl
theorem ws_sE {r : Res β} {f : β → Store → SRes} : Ws (sE r e f) k = Wr r (fun z S1 => Ws (f z S1) k) (k.xe e) := by cases r <;> rfl
theorem ws_sNop : Ws (sNop e S) k = k.nx e S := rfl
theorem ws_sSeq : Ws (sSeq m n e S) k = Ws (m e S) (k.sq n) := ws_sS
theorem ws_sBrk : Ws (sBrk e S) k = k.bk e S := rfl
theorem ws_sCnt : Ws (sCnt e S) k = k.ct e S := rfl
def dropQ (k : KS) (e : En) : QP D := fun _ S => k.nx e S
theorem dropQ_s : dropQ k e x S = k.nx e S := rfl
theorem ws_sDrop : Ws (sDrop a e S) k = Wr (a e S) (dropQ k e) (k.xe e) := ws_sE
theorem ws_sRet : Ws (sRet a e S) k = Wr (a e S) k.rt (k.xe e) := ws_sE
theorem ws_sRetN : Ws (sRetN e S) k = k.rt .non S := rfl
def ifQ (m n : SM) (e : En) (k : KS) : QP Bool := fun z S => match z with
  | true => Ws (m e S) k
  | false => Ws (n e S) k
theorem ifQ_t : ifQ m n e k true S = Ws (m e S) k := rfl
theorem ifQ_f : ifQ m n e k false S = Ws (n e S) k := rfl
theorem ws_sIf : Ws (sIf t m n e S) k = Wr (t e S) (ifQ m n e k) (k.xe e) := by
  unfold sIf; rw [ws_sE]; congr; funext z S1; cases z <;> rfl
def asg1 (g : GM) (e : En) (k : KS) : QP D := fun d S => Wr (g d e S) k.nx (k.xe e)
theorem asg1_s (g : GM) : asg1 g e k d S = Wr (g d e S) k.nx (k.xe e) := rfl
theorem ws_sAsg (g : GM) : Ws (sAsg a g e S) k = Wr (a e S) (asg1 g e k) (k.xe e) := by
  unfold sAsg; rw [ws_sE]; congr; funext z S1; rw [ws_sE]; rfl
def setQ (i : Nat) (e : En) (k : KS) : QP D := fun d S => k.nx (e.set i (some d)) S
theorem setQ_s (i : Nat) : setQ i e k d S = k.nx (e.set i (some d)) S := rfl
theorem ws_sSet (i : Nat) : Ws (sSet i a e S) k = Wr (a e S) (setQ i e k) (k.xe e) := by
  unfold sSet; rw [ws_sE]; rfl
def parQ (i j : Nat) (e : En) (k : KS) (ds : List D) (S : Store) : Prop := match ds with
  | [x, y] => k.nx ((e.set i (some x)).set j (some y)) S
  | _ => False
theorem parQ_s (i j : Nat) : parQ i j e k [x, y] S = k.nx ((e.set i (some x)).set j (some y)) S := rfl
theorem ws_sPar (i j : Nat) : Ws (sPar i j am e S) k = Wr (am e S) (parQ i j e k) (k.xe e) := by
  unfold sPar; rw [ws_sE]; congr; funext ds S1
  match ds with
  | [] => rfl
  | [_] => rfl
  | [_, _] => rfl
  | _ :: _ :: _ :: _ => rfl
theorem ws_sRaise (i : Nat) : Ws (sRaise i e S) k = k.ex (.exc i []) e S := rfl
def KS.fn (Q : D → Store → Prop) (X : D → Store → Prop) : KS := ⟨fun _ S => Q .non S, Q, fun _ _ => False, fun _ _ => False, fun x _ S => X x S⟩
theorem fn_nx : (KS.fn QD X).nx e S = QD .non S := rfl
theorem fn_rt : (KS.fn QD X).rt = QD := rfl
theorem fn_ex : (KS.fn QD X).ex x e S = X x S := rfl
theorem fn_xe : (KS.fn QD X).xe e = X := rfl
theorem wr_fnM (i : Nat) (ds : List D) : Wr (fnM i m ds S) QD X = Ws (m (ds.map some ++ List.replicate (i - ds.length) none) S) (KS.fn QD X) := by
  unfold fnM
  show _ = Ws (m (enOf i ds) S) _
  cases m (enOf i ds) S <;> rfl
def KS.su (k : KS) (i : Nat) : KS := ⟨fun e S => k.nx (e.set i none) S, k.rt, fun e S => k.bk (e.set i none) S, fun e S => k.ct (e.set i none) S, fun _ _ _ => False⟩
theorem su_nx (i : Nat) : (k.su i).nx e S = k.nx (e.set i none) S := rfl
theorem su_bk (i : Nat) : (k.su i).bk e S = k.bk (e.set i none) S := rfl
theorem su_ct (i : Nat) : (k.su i).ct e S = k.ct (e.set i none) S := rfl
theorem su_rt (i : Nat) : (k.su i).rt = k.rt := rfl
def trQ (k : KS) (i : Nat) (n : SM) (x : D) (e : En) (S : Store) (o : Option Bool) : Prop := match o with
  | some true => Ws (n (e.set i (some x)) S) (k.su i)
  | some false => k.ex x e S
  | none => False
theorem trQ_t (i : Nat) : trQ k i n x e S (some true) = Ws (n (e.set i (some x)) S) (k.su i) := rfl
theorem trQ_f (i : Nat) : trQ k i n x e S (some false) = k.ex x e S := rfl
def KS.tr (k : KS) (i : Nat) (tb : Nat → Option Bool) (n : SM) : KS := ⟨k.nx, k.rt, k.bk, k.ct, fun x e S => match x with
  | .exc cn _ => trQ k i n x e S (tb cn)
  | _ => False⟩
theorem tr_nx (i : Nat) (tb : Nat → Option Bool) : (k.tr i tb n).nx = k.nx := rfl
theorem tr_rt (i : Nat) (tb : Nat → Option Bool) : (k.tr i tb n).rt = k.rt := rfl
theorem tr_bk (i : Nat) (tb : Nat → Option Bool) : (k.tr i tb n).bk = k.bk := rfl
theorem tr_ct (i : Nat) (tb : Nat → Option Bool) : (k.tr i tb n).ct = k.ct := rfl
theorem tr_ex (i : Nat) (tb : Nat → Option Bool) (cn : Nat) (fs : List (Nat × D)) : (k.tr i tb n).ex (.exc cn fs) e S = trQ k i n (.exc cn fs) e S (tb cn) := rfl
theorem ws_sTry (i : Nat) (tb : Nat → Option Bool) : Ws (sTry i tb m n e S) k = Ws (m e S) (k.tr i tb n) := by
  unfold sTry
  cases m e S with
  | exc x e1 S1 =>
    cases x with
    | exc cn fs =>
      show Ws (match tb cn with
        | some true => sSu i (n (e1.set i (some (.exc cn fs))) S1)
        | some false => .exc (.exc cn fs) e1 S1
        | none => .stuck) k = trQ k i n (.exc cn fs) e1 S1 (tb cn)
      cases tb cn with
      | none => rfl
      | some z =>
        cases z with
        | true =>
          show Ws (sSu i (n (e1.set i (some (.exc cn fs))) S1)) k = Ws _ _
          cases n (e1.set i (some (.exc cn fs))) S1 <;> rfl
        | false => rfl
    | _ => rfl
  | _ => rfl
def forQ (g : GM) (m : SM) (e : En) (k : KS) : QP (List D) := fun ds S => Ws (fiR g m ds e S) k
theorem forQ_s (g : GM) : forQ g m e k ds S = Ws (fiR g m ds e S) k := rfl
theorem ws_sFor (i : AM) (g : GM) : Ws (sFor i g m e S) k = Wr (i e S) (forQ g m e k) (k.xe e) := ws_sE
def KS.lp (k : KS) (I : En → Store → Prop) : KS := ⟨I, k.rt, k.nx, I, k.ex⟩
theorem lp_nx (I : En → Store → Prop) : (k.lp I).nx = I := rfl
theorem lp_rt (I : En → Store → Prop) : (k.lp I).rt = k.rt := rfl
theorem lp_bk (I : En → Store → Prop) : (k.lp I).bk = k.nx := rfl
theorem lp_ct (I : En → Store → Prop) : (k.lp I).ct = I := rfl
theorem lp_ex (I : En → Store → Prop) : (k.lp I).ex = k.ex := rfl
theorem lp_xe (I : En → Store → Prop) : (k.lp I).xe e = k.xe e := rfl
theorem ws_fi_nil (g : GM) : Ws (fiR g m [] e S) k = k.nx e S := rfl
def turnQ (g : GM) (m : SM) (ds : List D) (k : KS) : QP En := fun e S => Ws (fiR g m ds e S) k
def bodyQ (m : SM) (k : KS) : QP En := fun e S => Ws (m e S) k
theorem bodyQ_s : bodyQ m k e S = Ws (m e S) k := rfl
theorem ws_fi_cons (g : GM) (ds : List D) : Ws (fiR g m (d :: ds) e S) k = Wr (g d e S) (bodyQ m (k.lp (turnQ g m ds k))) (k.xe e) := by
  rw [fiR]
  rw [ws_sE]
  congr; funext e1 S1
  rw [bodyQ_s]
  cases m e1 S1 <;> rfl
theorem for_w {g : GM} {ds : List D} (I : Nat → En → Store → Prop) (h0 : I 0 e S)
    (st : ∀ i d e S, ds[i]? = some d → I i e S → Wr (g d e S) (bodyQ m (k.lp (I (i + 1)))) (k.xe e))
    (fin : ∀ e S, I ds.length e S → k.nx e S) : Ws (fiR g m ds e S) k := by
  induction ds generalizing I e S with
  | nil => exact fin e S h0
  | cons d ds ih =>
    rw [ws_fi_cons]
    have h1 := st 0 d e S rfl h0
    have mono : ∀ (r : SRes), Ws r (k.lp (I 1)) → Ws r (k.lp (turnQ g m ds k)) := by
      intro r h
      have go : ∀ e S, I 1 e S → Ws (fiR g m ds e S) k := fun e S hI => ih (fun i => I (i + 1)) hI (fun i d e S hd => st (i + 1) d e S (by simpa using hd)) (fun e S => fin e S)
      cases r with
      | nxt e S => exact go e S h
      | cnt e S => exact go e S h
      | _ => exact h
    revert h1
    cases g d e S with
    | ok e1 S1 => exact fun h1 => mono _ h1
    | exc x S1 => exact id
    | stuck => exact id
theorem for_i {g : GM} {ds : List D} (I : En → Store → Prop) (h0 : I e S)
    (st : ∀ d e S, d ∈ ds → I e S → Wr (g d e S) (bodyQ m (k.lp I)) (k.xe e))
    (fin : ∀ e S, I e S → k.nx e S) : Ws (fiR g m ds e S) k :=
  for_w (fun _ => I) h0 (fun _ d e S hd => st d e S (List.mem_of_getElem? hd)) fin
def KS.mid (k : KS) (M : En → Store → Prop) : KS := ⟨M, k.rt, k.bk, k.ct, k.ex⟩
theorem mid_nx (M : En → Store → Prop) : (k.mid M).nx = M := rfl
theorem mid_rt (M : En → Store → Prop) : (k.mid M).rt = k.rt := rfl
theorem mid_bk (M : En → Store → Prop) : (k.mid M).bk = k.bk := rfl
theorem mid_ct (M : En → Store → Prop) : (k.mid M).ct = k.ct := rfl
theorem mid_ex (M : En → Store → Prop) : (k.mid M).ex = k.ex := rfl
theorem mid_xe (M : En → Store → Prop) : (k.mid M).xe e = k.xe e := rfl
def lc2 (Q : QP D) : QP (List D) := fun acc S => Q (.lst acc) S
def lc1 (g : Tg) (t : TM) (a : EM) (e : En) (Q X : QP D) : QP (List D) := fun ds S => Wr (lcR g t a e ds [] S) (lc2 Q) X
theorem lc2_s : lc2 QD xs S = QD (.lst xs) S := rfl
theorem lc1_s (g : Tg) : lc1 g t a e QD X ds S = Wr (lcR g t a e ds [] S) (lc2 QD) X := rfl
theorem wr_eLc (i : AM) (g : Tg) (vs : List Nat) : Wr (eLc i g t a vs e S) QD X = Wr (i e S) (lc1 g t a (wipeE e vs) QD X) X := by
  unfold eLc; rw [wr_bind]; congr; funext ds S1; rw [wr_bind]; rfl
def lcn2 (Q : QP D) : QP (List D) := fun acc S => Q (.loc S.length) (S ++ [.lst acc])
def lcn1 (g : Tg) (t : TM) (a : EM) (e : En) (Q X : QP D) : QP (List D) := fun ds S => Wr (lcR g t a e ds [] S) (lcn2 Q) X
theorem lcn2_s : lcn2 QD xs S = QD (.loc S.length) (S ++ [.lst xs]) := rfl
theorem lcn1_s (g : Tg) : lcn1 g t a e QD X ds S = Wr (lcR g t a e ds [] S) (lcn2 QD) X := rfl
theorem wr_eLcN (i : AM) (g : Tg) (vs : List Nat) : Wr (eLcN i g t a vs e S) QD X = Wr (i e S) (lcn1 g t a (wipeE e vs) QD X) X := by
  unfold eLcN; rw [wr_bind]; congr; funext ds S1; rw [wr_bind]; rfl
theorem wipe_nil : wipeE e [] = e := rfl
theorem wipe_cons (v : Nat) (vs : List Nat) : wipeE e (v :: vs) = (wipeE e vs).set v none := rfl
theorem wr_tTrue : Wr (tTrue e S) QB X = QB true S := rfl
theorem wr_lc_nil (g : Tg) (acc : List D) : Wr (lcR g t a e [] acc S) QL X = QL acc S := rfl
def tgQ (o : Option En) (f : En → Prop) : Prop := match o with
  | some e => f e
  | none => False
theorem tgQ_some (f : En → Prop) : tgQ (some e) f = f e := rfl
def ly (I : QP (List D)) (acc : List D) : QP D := fun y S => acc.length < sizeLine ∧ I (acc ++ [y]) S
theorem ly_s (I : QP (List D)) (acc : List D) : ly I acc y S = (acc.length < sizeLine ∧ I (acc ++ [y]) S) := rfl
def lt1 (a : EM) (e : En) (I : QP (List D)) (acc : List D) : QP Bool := fun b S => match b with
  | true => Wr (a e S) (ly I acc) nX
  | false => I acc S
theorem lt1_t (I : QP (List D)) (acc : List D) : lt1 a e I acc true S = Wr (a e S) (ly I acc) nX := rfl
theorem lt1_f (I : QP (List D)) (acc : List D) : lt1 a e I acc false S = I acc S := rfl
def lg (t : TM) (a : EM) (I : QP (List D)) (acc : List D) (S : Store) : En → Prop := fun e => Wr (t e S) (lt1 a e I acc) nX
theorem lg_s (I : QP (List D)) (acc : List D) : lg t a I acc S e = Wr (t e S) (lt1 a e I acc) nX := rfl
def lcI (g : Tg) (t : TM) (a : EM) (e : En) (ds : List D) (Q : QP (List D)) (X : QP D) : QP (List D) := fun acc S => Wr (lcR g t a e ds acc S) Q X
theorem wr_lc_cons (g : Tg) (acc ds : List D) : Wr (lcR g t a e (d :: ds) acc S) QL X = tgQ (g.m d e) (lg t a (lcI g t a e ds QL X) acc S) := by
  rw [lcR]
  unfold tgQ
  cases g.m d e with
  | none => rfl
  | some e1 =>
    dsimp only
    rw [wr_bind, wr_noX, lg_s]; congr; funext b S2
    cases b with
    | false => rfl
    | true =>
      show Wr ((noX (a e1 S2)).bind _) _ _ = Wr (a e1 S2) _ _
      rw [wr_bind, wr_noX]; congr; funext y S3; rw [wr_guard]; rfl
theorem lc_w {g : Tg} {ds acc : List D} (I : Nat → List D → Store → Prop) (h0 : I 0 acc S)
    (st : ∀ i d acc S, ds[i]? = some d → I i acc S → tgQ (g.m d e) (lg t a (I (i + 1)) acc S))
    (fin : ∀ acc S, I ds.length acc S → QL acc S) : Wr (lcR g t a e ds acc S) QL X := by
  induction ds generalizing I acc S with
  | nil => exact fin acc S h0
  | cons d ds ih =>
    rw [wr_lc_cons]
    have h1 := st 0 d acc S rfl h0
    have go : ∀ acc S, I 1 acc S → Wr (lcR g t a e ds acc S) QL X := fun acc S hI => ih (fun i => I (i + 1)) hI (fun i d acc S hd => st (i + 1) d acc S (by simpa using hd)) (fun acc S => fin acc S)
    revert h1
    cases g.m d e with
    | none => exact id
    | some e1 =>
      simp only [tgQ_some, lg_s]
      cases t e1 S with
      | exc x S1 => exact id
      | stuck => exact id
      | ok b S1 =>
        simp only [wr_ok]
        cases b with
        | false => exact fun h => go _ _ h
        | true =>
          simp only [lt1_t]
          cases a e1 S1 with
          | exc x S1 => exact id
          | stuck => exact id
          | ok y S2 => exact fun h => ⟨h.1, go _ _ h.2⟩
def eqQ (y : D) (S : Store) : QP D := fun d S' => d = y ∧ S' = S
theorem eqQ_s : eqQ y S d S1 = (d = y ∧ S1 = S) := rfl
theorem lc_map_w {g : Tg} {ds acc : List D} (f : D → D) (hl : acc.length + ds.length ≤ sizeLine)
    (st : ∀ d, d ∈ ds → tgQ (g.m d e) fun e1 => Wr (a e1 S) (eqQ (f d) S) nX)
    (fin : QL (acc ++ ds.map f) S) : Wr (lcR g tTrue a e ds acc S) QL X := by
  refine lc_w (fun i ac S' => S' = S ∧ ac = acc ++ (ds.take i).map f ∧ i ≤ ds.length) ⟨rfl, by simp, by omega⟩ ?_ ?_
  · rintro i d ac S' hd ⟨rfl, rfl, hi⟩
    have hil := (List.getElem?_eq_some_iff.mp hd).1
    have h := st d (List.mem_of_getElem? hd)
    revert h
    cases g.m d e with
    | none => exact id
    | some e1 =>
      simp only [tgQ_some, lg_s, wr_tTrue, lt1_t]
      cases a e1 S' with
      | exc x S1 => exact id
      | stuck => exact id
      | ok y S2 =>
        rintro ⟨rfl, rfl⟩
        refine ⟨?_, rfl, ?_, hil⟩
        · simp only [List.length_append, List.length_map, List.length_take]; omega
        · rw [List.take_add_one, hd]; simp
  · rintro ac S' ⟨rfl, rfl, _⟩
    rw [List.take_length]; exact fin
def seqQ (Q : List D → Store → Prop) : QP D := fun x S => match x with
  | .tup l => Q l S
  | .lst l => Q l S
  | .scr l => Q l S
  | _ => False
theorem seqQ_tup (l : List D) : seqQ QL (.tup l) S = QL l S := rfl
theorem seqQ_lst (l : List D) : seqQ QL (.lst l) S = QL l S := rfl
theorem seqQ_scr (l : List D) : seqQ QL (.scr l) S = QL l S := rfl
theorem wr_iSeq : Wr (iSeq a e S) QL X = Wr (a e S) (seqQ QL) X := by
  unfold iSeq; rw [wr_bind]; congr; funext x S1; cases x <;> rfl
def rgQ (Q : List D → Store → Prop) : QP (List D) := fun ds S => match ds with
  | [.int j] => (-(2 ^ 62) ≤ j ∧ j < 2 ^ 62) ∧ Q (rangeD 0 j.toNat) S
  | _ => False
theorem rgQ_int (j : Int) : rgQ QL [.int j] S = ((-(2 ^ 62) ≤ j ∧ j < 2 ^ 62) ∧ QL (rangeD 0 j.toNat) S) := rfl
theorem wr_iRg1 : Wr (iRg1 am e S) QL X = Wr (am e S) (rgQ QL) X := by
  unfold iRg1; rw [wr_bind]; congr; funext ds S1
  match ds with
  | [] => rfl
  | [.int j] => show Wr (if _ then _ else _) _ _ = _; rw [wr_guard]; rfl
  | [.non] | [.bl _] | [.str _] | [.tup _] | [.lst _] | [.scr _] | [.dic _ _] | [.loc _] | [.exc _ _] | [.ins _ _] | [.fa _] | [.pin _ _] => rfl
  | _ :: _ :: _ => unfold rgQ; split <;> simp_all [wr_stuck]
def rgQ2 (Q : List D → Store → Prop) : QP (List D) := fun ds S => match ds with
  | [.int i, .int j] => (-(2 ^ 62) ≤ i ∧ i < 2 ^ 62 ∧ -(2 ^ 62) ≤ j ∧ j < 2 ^ 62) ∧ Q (rangeD i (j - i).toNat) S
  | _ => False
theorem rgQ2_int (i j : Int) : rgQ2 QL [.int i, .int j] S = ((-(2 ^ 62) ≤ i ∧ i < 2 ^ 62 ∧ -(2 ^ 62) ≤ j ∧ j < 2 ^ 62) ∧ QL (rangeD i (j - i).toNat) S) := rfl
theorem wr_iRg2 : Wr (iRg2 am e S) QL X = Wr (am e S) (rgQ2 QL) X := by
  unfold iRg2; rw [wr_bind]; congr; funext ds S1
  by_cases h : ∃ i j, ds = [.int i, .int j]
  · obtain ⟨i, j, rfl⟩ := h
    show Wr (if _ then _ else _) _ _ = _
    rw [wr_guard]; rfl
  · unfold rgQ2
    split <;> (try split) <;> simp_all [wr_stuck]
theorem of_w {r : Res D} (h : Wr r QD nX) : ∃ d S, r = .ok d S ∧ QD d S := by
  cases r with
  | ok d S => exact ⟨d, S, rfl, h⟩
  | exc _ _ => exact False.elim h
  | stuck => exact False.elim h
theorem eq_of_w {r : Res D} (h : Wr r (eqQ d S) nX) : r = .ok d S := by
  obtain ⟨d', S', rfl, rfl, rfl⟩ := of_w h
  rfl
def exQ (y : D) (S : Store) : QP D := fun d S' => d = y ∧ S' = S
theorem exQ_s : exQ y S d S1 = (d = y ∧ S1 = S) := rfl
end
end G
namespace G
open PySem
def rD (q : Rat) : D := .tup [.int q.num, .int (q.den : Int)]
def Bt (q : Rat) (n : Nat) : Prop := q.num.natAbs < 2 ^ n ∧ q.den < 2 ^ n
theorem pow_le2 {a b : Nat} (h : a ≤ b) : (2 : Nat) ^ a ≤ 2 ^ b := Nat.pow_le_pow_right (by omega) h
theorem Bt.mono {q : Rat} {a b : Nat} (h : Bt q a) (l : a ≤ b) : Bt q b := ⟨Nat.lt_of_lt_of_le h.1 (pow_le2 l), Nat.lt_of_lt_of_le h.2 (pow_le2 l)⟩
theorem bt_div {t : Int} {b : Int} {n m : Nat} (h1 : t.natAbs < 2 ^ n) (h2 : b.natAbs < 2 ^ n) (hn : 0 < n) : Bt (Rat.divInt t b) n := by
  have h2' : 1 < 2 ^ n := Nat.one_lt_two_pow (by omega)
  constructor
  · rw [Rat.num_divInt]
    refine Nat.lt_of_le_of_lt (Int.natAbs_ediv_le_natAbs _ _) ?_
    rw [Int.natAbs_mul]
    have : b.sign.natAbs ≤ 1 := by rcases Int.lt_trichotomy b 0 with h | h | h <;> simp [Int.sign_eq_neg_one_of_neg, Int.sign_eq_one_of_pos, h]
    have := Nat.mul_le_mul_right t.natAbs this
    omega
  · rw [Rat.den_divInt]
    split
    · exact h2'
    · exact Nat.lt_of_le_of_lt (Nat.div_le_self _ _) h2
theorem natAbs_mul_lt {x y : Int} {a b : Nat} (hx : x.natAbs < 2 ^ a) (hy : y.natAbs < 2 ^ b) : (x * y).natAbs < 2 ^ (a + b) := by
  rw [Int.natAbs_mul, Nat.pow_add]
  exact Nat.mul_lt_mul'' hx hy
theorem natAbs_add_lt {x y : Int} {a : Nat} (hx : x.natAbs < 2 ^ a) (hy : y.natAbs < 2 ^ a) : (x + y).natAbs < 2 ^ (a + 1) := by
  have := Int.natAbs_add_le x y
  rw [Nat.pow_succ]; omega
theorem natAbs_sub_lt {x y : Int} {a : Nat} (hx : x.natAbs < 2 ^ a) (hy : y.natAbs < 2 ^ a) : (x - y).natAbs < 2 ^ (a + 1) := by
  have := Int.natAbs_sub_le x y
  rw [Nat.pow_succ]; omega
theorem add_div (p q : Rat) : p + q = Rat.divInt (p.num * q.den + q.num * p.den) ((p.den : Int) * (q.den : Int)) := by
  rw [← Int.natCast_mul, Rat.divInt_ofNat, Rat.add_def']
theorem sub_div (p q : Rat) : p - q = Rat.divInt (p.num * q.den - q.num * p.den) ((p.den : Int) * (q.den : Int)) := by
  rw [← Int.natCast_mul, Rat.divInt_ofNat, Rat.sub_def']
theorem Bt.add {p q : Rat} {a b : Nat} (h1 : Bt p a) (h2 : Bt q b) : Bt (p + q) (a + b + 1) := by
  rw [add_div]
  have e1 := natAbs_mul_lt (y := (q.den : Int)) h1.1 (by simpa using h2.2)
  have e2 := natAbs_mul_lt (y := (p.den : Int)) h2.1 (by simpa using h1.2)
  have e3 := natAbs_mul_lt (x := (p.den : Int)) (y := (q.den : Int)) (by simpa using h1.2) (by simpa using h2.2)
  rw [Nat.add_comm b a] at e2
  exact bt_div (m := 0) (natAbs_add_lt e1 e2) (Nat.lt_of_lt_of_le e3 (pow_le2 (by omega))) (by omega)
theorem Bt.sub {p q : Rat} {a b : Nat} (h1 : Bt p a) (h2 : Bt q b) : Bt (p - q) (a + b + 1) := by
  rw [sub_div]
  have e1 := natAbs_mul_lt (y := (q.den : Int)) h1.1 (by simpa using h2.2)
  have e2 := natAbs_mul_lt (y := (p.den : Int)) h2.1 (by simpa using h1.2)
  have e3 := natAbs_mul_lt (x := (p.den : Int)) (y := (q.den : Int)) (by simpa using h1.2) (by simpa using h2.2)
  rw [Nat.add_comm b a] at e2
  exact bt_div (m := 0) (natAbs_sub_lt e1 e2) (Nat.lt_of_lt_of_le e3 (pow_le2 (by omega))) (by omega)
theorem Bt.pos {p : Rat} {a : Nat} (h : Bt p a) : 0 < a := by
  rcases Nat.eq_zero_or_pos a with rfl | h0
  · have := h.2; have := p.den_pos; simp at *; omega
  · exact h0
theorem Bt.max {p q : Rat} {a b : Nat} (h1 : Bt p a) (h2 : Bt q b) : Bt (max p q) (Nat.max a b) := by
  rw [Rat.max_def]
  split
  · exact h2.mono (Nat.le_max_right _ _)
  · exact h1.mono (Nat.le_max_left _ _)
theorem Bt.int {i : Int} {n : Nat} (h : i.natAbs < 2 ^ n) (hn : 0 < n) : Bt (i : Rat) n := ⟨h, Nat.one_lt_two_pow (by omega)⟩
theorem bt_0 : Bt 0 1 := by constructor <;> decide
theorem bt_1 : Bt 1 1 := by constructor <;> decide
theorem isTy_rD (z : Ty) (q : Rat) (S : Store) : isTy S z (rD q) = some (Tn.is .tuple z) := rfl
theorem fLen_rD (q : Rat) (S : Store) : fLen S [rD q] = some (.int 2) := rfl
theorem ix_rD0 (q : Rat) (S : Store) : ixD S (rD q) (.int 0) = some (.int q.num) := rfl
theorem ix_rD1 (q : Rat) (S : Store) : ixD S (rD q) (.int 1) = some (.int q.den) := rfl
theorem rat_beq (p q : Rat) : (p.num == q.num && ((p.den : Int) == (q.den : Int) && true)) = decide (p = q) := by
  by_cases h : p = q
  · subst h; simp
  · rw [decide_eq_false h]
    by_cases h1 : p.num = q.num
    · have h2 : ¬ (p.den : Int) = (q.den : Int) := fun z => h (Rat.ext h1 (by omega))
      simp [h2]
    · simp [h1]
theorem eqD_rD (p q : Rat) : eqD (rD p) (rD q) = some (decide (p = q)) := by
  rw [← rat_beq]; rfl
theorem dEq_rD (p q : Rat) : dEq (rD p) (rD q) = some (.bl (decide (p = q))) := by unfold dEq; rw [eqD_rD]; rfl
theorem dNe_rD (p q : Rat) : dNe (rD p) (rD q) = some (.bl (!decide (p = q))) := by unfold dNe; rw [eqD_rD]; rfl
theorem wr_gTp_rD {QE : En → Store → Prop} {X : D → Store → Prop} {e : En} {S : Store} (q : Rat) (r : GMs) : Wr (gTp 2 r (rD q) e S) QE X = Wr (r [.int q.num, .int q.den] e S) QE X := by
  unfold rD; rw [wr_gTp]; simp
theorem seqQ_rD {QL : List D → Store → Prop} {S : Store} (q : Rat) : seqQ QL (rD q) S = QL [.int q.num, .int q.den] S := rfl
theorem dIs_rD (q : Rat) : dIs (rD q) .non = some (.bl false) := rfl
theorem dIsNot_rD (q : Rat) : dIsNot (rD q) .non = some (.bl true) := rfl
theorem lt_rat (p q : Rat) : decide (p.num * (q.den : Int) < q.num * (p.den : Int)) = decide (p < q) := by
  by_cases h : p < q
  · rw [decide_eq_true h, decide_eq_true ((Rat.lt_iff p q).mp h)]
  · rw [decide_eq_false h, decide_eq_false fun z => h ((Rat.lt_iff p q).mpr z)]
def gI (a b : Int) : Int := (Nat.gcd a.natAbs b.natAbs : Nat)
theorem gI_pos {a b : Int} (h : b ≠ 0) : 0 < gI a b := by
  have : 0 < Nat.gcd a.natAbs b.natAbs := Nat.gcd_pos_of_pos_right _ (by omega)
  unfold gI; omega
theorem gI_l (a b : Int) : gI a b ∣ a := by
  unfold gI
  exact Int.ofNat_dvd_left.mpr (Nat.gcd_dvd_left _ _)
theorem gI_r (a b : Int) : gI a b ∣ b := by
  unfold gI
  exact Int.ofNat_dvd_left.mpr (Nat.gcd_dvd_right _ _)
theorem gI_congr {a b c d : Int} (h1 : a.natAbs = c.natAbs) (h2 : b.natAbs = d.natAbs) : gI a b = gI c d := by unfold gI; rw [h1, h2]
theorem gI_abs (a b : Int) : gI (if a < 0 then -a else a) b = gI a b := gI_congr (by split <;> omega) rfl
theorem gI_le {a b : Int} (h : b ≠ 0) : (gI a b).natAbs ≤ b.natAbs := by
  have : Nat.gcd a.natAbs b.natAbs ≤ b.natAbs := Nat.gcd_le_right _ (by omega)
  unfold gI; omega
theorem gI_step {a b : Int} (ha : 0 ≤ a) (hb : 0 ≤ b) : gI b (a % b) = gI a b := by
  unfold gI
  have : (a % b).natAbs = a.natAbs % b.natAbs := by rw [Int.natAbs_emod_of_nonneg ha]
  rw [this, Nat.gcd_comm a.natAbs b.natAbs, Nat.gcd_rec b.natAbs a.natAbs, Nat.gcd_comm]
theorem gI_rat (q : Rat) : gI q.num q.den = 1 := by
  unfold gI
  have := q.reduced
  rw [Int.natAbs_natCast, this]; rfl
theorem fdiv_pos {x g : Int} (h : 0 < g) : x.fdiv g = x / g := Int.fdiv_eq_ediv_of_nonneg x (by omega)
theorem fdiv_neg_of {x g : Int} (h : 0 < g) (hd : g ∣ x) : x.fdiv (0 - g) = (0 - x) / g := by
  obtain ⟨k, rfl⟩ := hd
  rw [show (0 : Int) - g * k = g * (-k) by rw [Int.mul_neg]; omega, Int.mul_ediv_cancel_left _ (by omega)]
  rw [show g * k = (0 - g) * (-k) by rw [Int.mul_neg, Int.zero_sub, Int.neg_mul]; omega]
  exact Int.mul_fdiv_cancel_left _ (by omega)
theorem num_pos {t b : Int} (hb : 0 < b) : (Rat.divInt t b).num = t / gI t b := by
  rw [Rat.num_divInt, Int.sign_eq_one_of_pos hb, Int.one_mul]
  unfold gI Int.gcd
  rw [Nat.gcd_comm]
theorem den_pos' {t b : Int} (hb : 0 < b) : ((Rat.divInt t b).den : Int) = b / gI t b := by
  rw [Rat.den_divInt, if_neg (by omega)]
  unfold gI Int.gcd
  rw [Nat.gcd_comm, Int.natCast_ediv]
  congr 1
  omega
theorem lowest_rD {t b : Int} (hb : 0 < b) : D.tup [.int (t / gI t b), .int (b / gI t b)] = rD (Rat.divInt t b) := by
  unfold rD; rw [num_pos hb, den_pos' hb]
theorem neg_rD {t b : Int} (hb : b < 0) : D.tup [.int ((0 - t) / gI t b), .int ((0 - b) / gI t b)] = rD (Rat.divInt t b) := by
  have e : Rat.divInt t b = Rat.divInt (0 - t) (0 - b) := by
    rw [Int.zero_sub, Int.zero_sub, Rat.neg_divInt_neg]
  have g : gI t b = gI (0 - t) (0 - b) := gI_congr (by omega) (by omega)
  rw [e, g]
  exact lowest_rD (by omega)
end G
namespace G
open PySem
section
variable {β γ : Type} {e : En} {S S1 : Store} {a b c : EM} {t u : TM} {m n : SM} {am : AM} {x y d : D} {k : β → Store → Res γ}
@[simp] theorem bind_ok (z : β) : (Res.ok z S).bind k = k z S := rfl
@[simp] theorem bind_exc (z : D) : (Res.exc z S : Res β).bind k = .exc z S := rfl
@[simp] theorem bind_stuck : (Res.stuck : Res β).bind k = .stuck := rfl
@[simp] theorem lf_some_s (z : β) : lf (some z) S = .ok z S := rfl
@[simp] theorem lf_none_s : lf (none : Option β) S = .stuck := rfl
@[simp] theorem eC_s : eC d e S = .ok d S := rfl
def evR (o : Option (Option D)) (S : Store) : Res D := match o with
  | some (some d) => .ok d S
  | _ => .stuck
@[simp] theorem eVar_s (i : Nat) : eVar i e S = evR e[i]? S := rfl
@[simp] theorem evR_some : evR (some (some d)) S = .ok d S := rfl
@[simp] theorem eBin_s (f : D → D → Option D) : eBin f a b e S = (a e S).bind fun x S1 => (b e S1).bind fun y S2 => lf (f x y) S2 := rfl
@[simp] theorem eBinS_s (f : Store → D → D → Option D) : eBinS f a b e S = (a e S).bind fun x S1 => (b e S1).bind fun y S2 => lf (f S2 x y) S2 := rfl
def asB (x : D) (S : Store) : Res Bool := match x with
  | .bl b => .ok b S
  | _ => .stuck
@[simp] theorem asB_bl (z : Bool) : asB (.bl z) S = .ok z S := rfl
@[simp] theorem tB_s : tB a e S = (a e S).bind asB := rfl
@[simp] theorem tT_s : tT a e S = (a e S).bind fun x S1 => lf (truD S1 x) S1 := rfl
@[simp] theorem tNt_s : tNt t e S = (t e S).bind fun b S1 => .ok (!b) S1 := rfl
@[simp] theorem tAn_s : tAn t u e S = (t e S).bind fun b S1 => if b then u e S1 else .ok false S1 := rfl
@[simp] theorem tOr_s : tOr' t u e S = (t e S).bind fun b S1 => if b then .ok true S1 else u e S1 := rfl
@[simp] theorem eAn_s : eAn a b e S = (a e S).bind fun x S1 => (lf (truD S1 x) S1).bind fun k S2 => if k then b e S2 else .ok x S2 := rfl
@[simp] theorem eOr_s : eOr a b e S = (a e S).bind fun x S1 => (lf (truD S1 x) S1).bind fun k S2 => if k then .ok x S2 else b e S2 := rfl
@[simp] theorem eNt_s : eNt a e S = (a e S).bind fun x S1 => (lf (truD S1 x) S1).bind fun k S2 => .ok (.bl (!k)) S2 := rfl
@[simp] theorem eIf_s : eIf t a b e S = (t e S).bind fun k S1 => if k then a e S1 else b e S1 := rfl
def negR (x : D) (S : Store) : Res D := match x with
  | .int i => .ok (.int (-i)) S
  | _ => .stuck
@[simp] theorem negR_int (i : Int) : negR (.int i) S = .ok (.int (-i)) S := rfl
@[simp] theorem eNeg_s : eNeg a e S = (a e S).bind negR := rfl
@[simp] theorem aNil_s : aNil e S = .ok [] S := rfl
@[simp] theorem aCons_s : aCons a am e S = (a e S).bind fun x S1 => (am e S1).bind fun xs S2 => .ok (x :: xs) S2 := rfl
@[simp] theorem eTup_s : eTup am e S = (am e S).bind fun xs S1 => if xs.length ≤ sizeLine then .ok (.tup xs) S1 else .stuck := rfl
@[simp] theorem eLst_s : eLst am e S = (am e S).bind fun xs S1 => if xs.length ≤ sizeLine then .ok (.lst xs) S1 else .stuck := rfl
@[simp] theorem eNew_s : eNew am e S = (am e S).bind fun xs S1 => if xs.length ≤ sizeLine then .ok (.loc S1.length) (S1 ++ [.lst xs]) else .stuck := rfl
@[simp] theorem eCa_s (f : Store → List D → Option D) : eCa f am e S = (am e S).bind fun xs S1 => lf (f S1 xs) S1 := rfl
@[simp] theorem eCall_s (f : FM) : eCall f am e S = (am e S).bind f := rfl
@[simp] theorem nA_s (i : Nat) : nA i am e S = (am e S).bind fun ds S1 => if ds.length = i then .ok ds S1 else .stuck := rfl
@[simp] theorem eIsTy_s (z : Ty) : eIsTy z a e S = (a e S).bind fun x S1 => lf ((isTy S1 z x).map .bl) S1 := rfl
@[simp] theorem eIsC_s (tb : Nat → Option Bool) : eIsC tb a e S = (a e S).bind fun x S1 => lf ((isC tb x).map .bl) S1 := rfl
@[simp] theorem eMt_s (f : Store → D → List D → Option D) : eMt f a am e S = (a e S).bind fun x S1 => if (seqD S1 x).isSome then (am e S1).bind fun xs S2 => lf (f S2 x xs) S2 else .stuck := rfl
@[simp] theorem oNone_s : oNone e S = .ok none S := rfl
def oR (x : D) (S : Store) : Res (Option Int) := match x with
  | .int i => .ok (some i) S
  | _ => .stuck
@[simp] theorem oR_int (i : Int) : oR (.int i) S = .ok (some i) S := rfl
@[simp] theorem oSome_s : oSome a e S = (a e S).bind oR := rfl
@[simp] theorem eSl_s (l h : OM) : eSl a l h e S = (a e S).bind fun x S1 => (l e S1).bind fun i S2 => (h e S2).bind fun j S3 => lf (slD S3 x i j) S3 := rfl
@[simp] theorem eCallK_s (f : FM) (g : List D → List D → List D) (i j : Nat) (mk : AM) : eCallK f g i j am mk e S = (am e S).bind fun ds S1 => (mk e S1).bind fun zs S2 => if ds.length = i ∧ zs.length = j then f (g ds zs) S2 else .stuck := rfl
@[simp] theorem eCallK0_s (f : FM) (g : List D → List D → List D) (j : Nat) (mk : AM) : eCallK0 f g j mk e S = (mk e S).bind fun zs S2 => if zs.length = j then f (g [] zs) S2 else .stuck := rfl
@[simp] theorem sE_ok (z : β) (q : β → Store → SRes) : sE (.ok z S) e q = q z S := rfl
@[simp] theorem sE_exc (z : D) (q : β → Store → SRes) : sE (.exc z S) e q = .exc z e S := rfl
@[simp] theorem sE_stuck (q : β → Store → SRes) : sE .stuck e q = .stuck := rfl
@[simp] theorem sS_nxt : sS (.nxt e S) m = m e S := rfl
@[simp] theorem sS_ret : sS (.ret d S) m = .ret d S := rfl
@[simp] theorem sS_brk : sS (.brk e S) m = .brk e S := rfl
@[simp] theorem sS_cnt : sS (.cnt e S) m = .cnt e S := rfl
@[simp] theorem sS_exc : sS (.exc d e S) m = .exc d e S := rfl
@[simp] theorem sNop_s : sNop e S = .nxt e S := rfl
@[simp] theorem sSeq_s : sSeq m n e S = sS (m e S) n := rfl
@[simp] theorem sBrk_s : sBrk e S = .brk e S := rfl
@[simp] theorem sCnt_s : sCnt e S = .cnt e S := rfl
@[simp] theorem sDrop_s : sDrop a e S = sE (a e S) e fun _ S1 => .nxt e S1 := rfl
@[simp] theorem sRet_s : sRet a e S = sE (a e S) e fun d S1 => .ret d S1 := rfl
@[simp] theorem sRetN_s : sRetN e S = .ret .non S := rfl
@[simp] theorem sIf_s : sIf t m n e S = sE (t e S) e fun k S1 => if k then m e S1 else n e S1 := rfl
@[simp] theorem gN_s (i : Nat) : gN i d e S = .ok (e.set i (some d)) S := rfl
@[simp] theorem sAsg_s (g : GM) : sAsg a g e S = sE (a e S) e fun d S1 => sE (g d e S1) e fun e1 S2 => .nxt e1 S2 := rfl
@[simp] theorem sSet_s (i : Nat) : sSet i a e S = sE (a e S) e fun d S1 => .nxt (e.set i (some d)) S1 := rfl
def parR (i j : Nat) (e : En) (ds : List D) (S : Store) : SRes := match ds with
  | [x, y] => .nxt ((e.set i (some x)).set j (some y)) S
  | _ => .stuck
@[simp] theorem parR_s (i j : Nat) : parR i j e [x, y] S = .nxt ((e.set i (some x)).set j (some y)) S := rfl
@[simp] theorem sPar_s (i j : Nat) : sPar i j am e S = sE (am e S) e (parR i j e) := rfl
@[simp] theorem sRaise_s (i : Nat) : sRaise i e S = .exc (.exc i []) e S := rfl
def fnEnd : SRes → Res D
  | .nxt _ S' => .ok .non S'
  | .ret d S' => .ok d S'
  | .exc x _ S' => .exc x S'
  | _ => .stuck
@[simp] theorem fnEnd_nxt : fnEnd (.nxt e S) = .ok .non S := rfl
@[simp] theorem fnEnd_ret : fnEnd (.ret d S) = .ok d S := rfl
@[simp] theorem fnEnd_exc : fnEnd (.exc d e S) = .exc d S := rfl
theorem fnM_s (i : Nat) (ds : List D) : fnM i m ds S = fnEnd (m (enOf i ds) S) := by
  unfold fnM fnEnd
  cases m (enOf i ds) S <;> rfl
@[simp] theorem enOf_s (i : Nat) (ds : List D) : enOf i ds = ds.map some ++ List.replicate (i - ds.length) none := rfl
@[simp] theorem cmpI_s (f : Int → Int → Bool) (i j : Int) : cmpI f (.int i) (.int j) = some (.bl (f i j)) := rfl
@[simp] theorem dAdd_int (i j : Int) : dAdd (.int i) (.int j) = some (.int (i + j)) := rfl
@[simp] theorem dSub_int (i j : Int) : dSub (.int i) (.int j) = some (.int (i - j)) := rfl
theorem dMul_int {i j : Int} (h : mulOk i j = true) : dMul (.int i) (.int j) = some (.int (i * j)) := by
  show (if mulOk i j = true then some (D.int (i * j)) else none) = _
  rw [if_pos h]
theorem dDiv_int {i j : Int} (h : divOk j = true) : dDiv (.int i) (.int j) = some (.int (i.fdiv j)) := by
  show (if divOk j = true then some (D.int (i.fdiv j)) else none) = _
  rw [if_pos h]
theorem dMod_int {i j : Int} (h : j ≠ 0) : dMod (.int i) (.int j) = some (.int (i.fmod j)) := by
  show (if j = 0 then none else some (D.int (i.fmod j))) = _
  rw [if_neg h]
theorem dEq_int (i j : Int) : dEq (.int i) (.int j) = some (.bl (decide (i = j))) := rfl
theorem dNe_int (i j : Int) : dNe (.int i) (.int j) = some (.bl (!decide (i = j))) := rfl
theorem dEq_bl (i j : Bool) : dEq (.bl i) (.bl j) = some (.bl (decide (i = j))) := by cases i <;> cases j <;> rfl
theorem dNe_bl (i j : Bool) : dNe (.bl i) (.bl j) = some (.bl (!decide (i = j))) := by cases i <;> cases j <;> rfl
@[simp] theorem truD_bl (z : Bool) : truD S (.bl z) = some z := rfl
@[simp] theorem isTy_int (z : Ty) (i : Int) : isTy S z (.int i) = some (Tn.is .int z) := rfl
@[simp] theorem isTy_bl (z : Ty) (i : Bool) : isTy S z (.bl i) = some (Tn.is .bool z) := rfl
@[simp] theorem isTy_tup (z : Ty) (l : List D) : isTy S z (.tup l) = some (Tn.is .tuple z) := rfl
@[simp] theorem fLen_tup (l : List D) : fLen S [.tup l] = some (.int l.length) := rfl
@[simp] theorem fLen_scr (l : List D) : fLen S [.scr l] = some (.int l.length) := rfl
@[simp] theorem fLen_lst (l : List D) : fLen S [.lst l] = some (.int l.length) := rfl
@[simp] theorem fAbs_int (i : Int) : fAbs S [.int i] = some (.int (if i < 0 then -i else i)) := rfl
@[simp] theorem fMax_int (i j : Int) : fMax S [.int i, .int j] = some (.int (if j > i then j else i)) := rfl
@[simp] theorem fMin_int (i j : Int) : fMin S [.int i, .int j] = some (.int (if j < i then j else i)) := rfl
@[simp] theorem ixD_tup (l : List D) (i : Int) : ixD S (.tup l) (.int i) = L2.atI l i := rfl
@[simp] theorem ixD_lst (l : List D) (i : Int) : ixD S (.lst l) (.int i) = L2.atI l i := rfl
@[simp] theorem ixD_scr (l : List D) (i : Int) : ixD S (.scr l) (.int i) = L2.atI l i := rfl
theorem ixD_loc {j : Nat} {l : List D} (i : Int) (h : S[j]? = some (.lst l)) : ixD S (.loc j) (.int i) = L2.atI l i := by
  show (match S[j]? with
    | some (.lst l) => L2.atI l i
    | _ => none) = _
  rw [h]
end
theorem log2_lt {x n : Nat} (h : x < 2 ^ n) (hn : 0 < n) : x.log2 < n := PySem.Flt.log2_lt_of hn h
theorem mul_ok {i j : Int} {a b : Nat} (hi : i.natAbs < 2 ^ a) (hj : j.natAbs < 2 ^ b) (h0 : 0 < a) (h1 : 0 < b) (h : a + b ≤ 1000000) : mulOk i j = true := by
  have x := log2_lt hi h0
  have y := log2_lt hj h1
  unfold mulOk
  rw [Bool.or_eq_true, Bool.or_eq_true]
  exact .inr (.inr (decide_eq_true (by omega)))
theorem mul_l {i j : Int} (hi : i.natAbs < 2 ^ 64) : mulOk i j = true := by
  unfold mulOk
  rw [Bool.or_eq_true]
  exact .inl (decide_eq_true hi)
theorem mul_r {i j : Int} (hj : j.natAbs < 2 ^ 64) : mulOk i j = true := by
  unfold mulOk
  rw [Bool.or_eq_true, Bool.or_eq_true]
  exact .inr (.inl (decide_eq_true hj))
theorem div_ok {j : Int} {b : Nat} (hz : j ≠ 0) (hj : j.natAbs < 2 ^ b) (h1 : 0 < b) (h : b ≤ 9000) : divOk j = true := by
  have y := log2_lt hj h1
  unfold divOk
  rw [Bool.and_eq_true]
  exact ⟨by simpa using hz, decide_eq_true (by omega)⟩
@[simp] theorem noX_ok {β : Type} (z : β) (S : Store) : noX (.ok z S) = .ok z S := rfl
def setR (o : Option Store) (e : En) : Res En := match o with
  | some S3 => .ok e S3
  | none => .stuck
@[simp] theorem setR_some (S : Store) (e : En) : setR (some S) e = .ok e S := rfl
@[simp] theorem gSb_s (o i : EM) (d : D) (e : En) (S : Store) : gSb o i d e S = (noX (o e S)).bind fun x S1 => (noX (i e S1)).bind fun y S2 => setR (setD S2 x y d) e := by
  unfold gSb setR
  congr 1
theorem setD_loc {S : Store} {n j : Nat} {l : List D} {k : Int} (d : D) (h : S[n]? = some (.lst l)) (hj : L2.ixN l.length k = some j) : setD S (.loc n) (.int k) d = some (S.set n (.lst (l.set j d))) := by
  show (match S[n]? with
    | some (.lst l) => (L2.ixN l.length k).map fun j => S.set n (.lst (l.set j d))
    | _ => none) = _
  rw [h]
  show (L2.ixN l.length k).map _ = _
  rw [hj]
  rfl
@[simp] theorem gsNil_s (e : En) (S : Store) : gsNil [] e S = .ok e S := rfl
@[simp] theorem gsCons_s (g : GM) (r : GMs) (d : D) (ds : List D) (e : En) (S : Store) : gsCons' g r (d :: ds) e S = (noX (g d e S)).bind fun e1 S1 => noX (r ds e1 S1) := rfl
@[simp] theorem gTp_s (n : Nat) (r : GMs) (ds : List D) (e : En) (S : Store) : gTp n r (.tup ds) e S = if ds.length = n then r ds e S else .stuck := rfl
@[simp] theorem at3_0 {α : Type} (x y z : α) : L2.atI [x, y, z] (0 : Int) = some x := rfl
@[simp] theorem at3_1 {α : Type} (x y z : α) : L2.atI [x, y, z] (1 : Int) = some y := rfl
@[simp] theorem at3_2 {α : Type} (x y z : α) : L2.atI [x, y, z] (2 : Int) = some z := rfl
theorem cutL_map {α β : Type} (f : α → β) (l : List α) (lo hi : Option Int) : cutL (l.map f) lo hi = (cutL l lo hi).map f := by
  unfold cutL
  rw [List.length_map, List.map_take, List.map_drop]
end G
namespace G
open PySem
section
variable {Q X : QP D} {QB : QP Bool} {QL : QP (List D)} {k : KS} {e : En} {S S1 : Store} {a b c o : EM} {t u : TM} {m n : SM} {am mk : AM} {x y d : D} {z : Bool} {xs ds zs : List D}
def ch3 (g : D → D → Option D) (y : D) (c : EM) (e : En) (Q X : QP D) : QP D := fun z S => match z with
  | .bl true => Wr (c e S) (cB2 g y Q X) X
  | .bl false => Q (.bl false) S
  | _ => False
def ch2 (f g : D → D → Option D) (x : D) (c : EM) (e : En) (Q X : QP D) : QP D := fun y S => Wr (lf (f x y) S) (ch3 g y c e Q X) X
def ch1 (f g : D → D → Option D) (b c : EM) (e : En) (Q X : QP D) : QP D := fun x S => Wr (b e S) (ch2 f g x c e Q X) X
theorem ch3_t (g : D → D → Option D) : ch3 g y c e Q X (.bl true) S = Wr (c e S) (cB2 g y Q X) X := rfl
theorem ch3_f (g : D → D → Option D) : ch3 g y c e Q X (.bl false) S = Q (.bl false) S := rfl
theorem ch2_s (f g : D → D → Option D) : ch2 f g x c e Q X y S = Wr (lf (f x y) S) (ch3 g y c e Q X) X := rfl
theorem ch1_s (f g : D → D → Option D) : ch1 f g b c e Q X x S = Wr (b e S) (ch2 f g x c e Q X) X := rfl
theorem wr_eChain (f g : D → D → Option D) : Wr (eChain f g a b c e S) Q X = Wr (a e S) (ch1 f g b c e Q X) X := by
  unfold eChain; rw [wr_bind]; congr; funext x S1; rw [wr_bind, ch1_s]; congr; funext y S2; rw [wr_bind, ch2_s]; congr; funext z S3
  cases z with
  | bl w => cases w with
    | true => show Wr ((c e S3).bind _) Q X = Wr (c e S3) _ _; rw [wr_bind]; rfl
    | false => rfl
  | _ => rfl
def flQ (cs : List Nat) (f : Nat) (Q X : QP D) : QP D := fun x S => Wr (lf (fldD cs f S x) S) Q X
theorem flQ_s (cs : List Nat) (f : Nat) : flQ cs f Q X x S = Wr (lf (fldD cs f S x) S) Q X := rfl
theorem wr_eFld (cs : List Nat) (f : Nat) : Wr (eFld cs f a e S) Q X = Wr (a e S) (flQ cs f Q X) X := by unfold eFld; rw [wr_bind]; rfl
theorem fldD_ins (cs : List Nat) (f cn : Nat) (fs : List (Nat × D)) : fldD cs f S (.ins cn fs) = if cs.contains cn then fs.lookup f else none := rfl
theorem fldD_loc {cs : List Nat} {f cn i : Nat} {fs : List (Nat × D)} (h : S[i]? = some (.obj cn fs)) : fldD cs f S (.loc i) = if cs.contains cn then fs.lookup f else none := by
  unfold fldD insD; simp only [h]
def stQ (e : En) (k : KS) (o : Option Store) : Prop := match o with
  | some S => k.nx e S
  | none => False
theorem stQ_s : stQ e k (some S) = k.nx e S := rfl
def sf2 (cs : List Nat) (f : Nat) (y : D) (e : En) (k : KS) : QP D := fun x S => stQ e k (stF cs f S x y)
def sf1 (cs : List Nat) (f : Nat) (o : EM) (e : En) (k : KS) : QP D := fun y S => Wr (o e S) (sf2 cs f y e k) (k.xe e)
theorem sf2_s (cs : List Nat) (f : Nat) : sf2 cs f y e k x S = stQ e k (stF cs f S x y) := rfl
theorem sf1_s (cs : List Nat) (f : Nat) : sf1 cs f o e k y S = Wr (o e S) (sf2 cs f y e k) (k.xe e) := rfl
theorem ws_sFldM (cs : List Nat) (f : Nat) : Ws (sFldM cs f o a e S) k = Wr (a e S) (sf1 cs f o e k) (k.xe e) := by
  unfold sFldM; rw [ws_sE]; congr; funext y S1; rw [ws_sE, sf1_s]; congr; funext x S2
  rw [sf2_s]; cases stF cs f S2 x y <;> rfl
theorem stF_loc {cs : List Nat} {f cn i : Nat} {fs : List (Nat × D)} (h : S[i]? = some (.obj cn fs)) (hc : cs.contains cn = true) (hl : fs.length < 1000) : stF cs f S (.loc i) y = some (S.set i (.obj cn (putD f y fs))) := by
  unfold stF; simp only [h, hc, hl, decide_true, Bool.and_self, if_true]
def mkQ2 (mk' : List D → List D → Store → Res D) (n l : Nat) (ds : List D) (Q X : QP D) : QP (List D) := fun zs S => (ds.length = n ∧ zs.length = l) ∧ Wr (mk' ds zs S) Q X
def mkQ1 (mk' : List D → List D → Store → Res D) (n l : Nat) (mk : AM) (e : En) (Q X : QP D) : QP (List D) := fun ds S => Wr (mk e S) (mkQ2 mk' n l ds Q X) X
theorem mkQ2_s (mk' : List D → List D → Store → Res D) (n l : Nat) : mkQ2 mk' n l ds Q X zs S = ((ds.length = n ∧ zs.length = l) ∧ Wr (mk' ds zs S) Q X) := rfl
theorem mkQ1_s (mk' : List D → List D → Store → Res D) (n l : Nat) : mkQ1 mk' n l mk e Q X ds S = Wr (mk e S) (mkQ2 mk' n l ds Q X) X := rfl
theorem wr_eMk (mk' : List D → List D → Store → Res D) (n l : Nat) : Wr (eMk mk' n l am mk e S) Q X = Wr (am e S) (mkQ1 mk' n l mk e Q X) X := by
  unfold eMk; rw [wr_bind]; congr; funext ds S1; rw [wr_bind, mkQ1_s]; congr; funext zs S2; rw [wr_guard]; rfl
theorem wr_eMk0 (mk' : List D → List D → Store → Res D) : Wr (eMk0 mk' e S) Q X = Wr (mk' [] [] S) Q X := rfl
def ap2 (x : D) (Q X : QP D) : QP (List D) := fun xs S => Wr (appR x xs S) Q X
def ap1 (am : AM) (e : En) (Q X : QP D) : QP D := fun x S => isLst S x = true ∧ Wr (am e S) (ap2 x Q X) X
theorem ap2_s : ap2 x Q X xs S = Wr (appR x xs S) Q X := rfl
theorem ap1_s : ap1 am e Q X x S = (isLst S x = true ∧ Wr (am e S) (ap2 x Q X) X) := rfl
theorem wr_eApp : Wr (eApp a am e S) Q X = Wr (a e S) (ap1 am e Q X) X := by
  unfold eApp; rw [wr_bind]; congr; funext x S1; rw [wr_guard, wr_bind]; rfl
theorem isLst_loc {i : Nat} {l : List D} (h : S[i]? = some (.lst l)) : isLst S (.loc i) = true := by
  unfold isLst seqD; simp only [h, Option.isSome_some]
theorem appR_loc {i : Nat} {l : List D} (h : S[i]? = some (.lst l)) (hl : l.length < sizeLine) : appR (.loc i) [y] S = .ok .non (S.set i (.lst (l ++ [y]))) := by
  unfold appR; simp only [h, hl, if_true]
def zpQ (Q : QP (List D)) (X : QP D) : QP (List D) := fun ds S => Wr (zipR ds S) Q X
theorem zpQ_s : zpQ QL X ds S = Wr (zipR ds S) QL X := rfl
theorem wr_iZip : Wr (iZip am e S) QL X = Wr (am e S) (zpQ QL X) X := by unfold iZip; rw [wr_bind]; rfl
theorem zipR_tup (l m : List D) : zipR [.tup l, .tup m] S = .ok (zipD l m) S := rfl
theorem zipR_lst (l m : List D) : zipR [.lst l, .lst m] S = .ok (zipD l m) S := rfl
def srQ (Q : QP (List D)) (X : QP D) : QP D := fun d S => Wr (strR d S) Q X
theorem srQ_s : srQ QL X d S = Wr (strR d S) QL X := rfl
theorem wr_iStrM : Wr (iStrM a e S) QL X = Wr (a e S) (srQ QL X) X := by unfold iStrM; rw [wr_bind]; rfl
theorem strR_s (x : Str) : strR (.str x) S = .ok (signs x) S := rfl
def ioQ (cn : Nat) (Q X : QP D) : QP D := fun x S => Wr (lf ((isO cn S x).map .bl) S) Q X
theorem ioQ_s (cn : Nat) : ioQ cn Q X x S = Wr (lf ((isO cn S x).map .bl) S) Q X := rfl
theorem wr_eIsO (cn : Nat) : Wr (eIsO cn a e S) Q X = Wr (a e S) (ioQ cn Q X) X := by unfold eIsO; rw [wr_bind]; rfl
variable {QE : QP En}
theorem wr_gStr_tup (i : Nat) (r : GMs) (l : List D) : Wr (gStr i r (.tup l) e S) QE X = (i ≤ l.length ∧ Wr (r (l.take i ++ [.lst (l.drop i)]) e S) QE X) := by
  show Wr (if i ≤ l.length then _ else _) QE X = _
  rw [wr_guard]
theorem wr_gStr_lst (i : Nat) (r : GMs) (l : List D) : Wr (gStr i r (.lst l) e S) QE X = (i ≤ l.length ∧ Wr (r (l.take i ++ [.lst (l.drop i)]) e S) QE X) := by
  show Wr (if i ≤ l.length then _ else _) QE X = _
  rw [wr_guard]
theorem fTuple_lst (l : List D) : fTuple S [.lst l] = some (.tup l) := rfl
theorem fTuple_tup (l : List D) : fTuple S [.tup l] = some (.tup l) := rfl
theorem dAddS_int (i j : Int) : dAddS S (.int i) (.int j) = some (.int (i + j)) := rfl
end
end G
namespace C
open PySem G
local macro_rules | `(tactic| wp_walk using $ts,*) => `(tactic| try simp only [wr_ok, wr_exc, wr_lf, wr_eC, evQ_some, wr_eVar, cB2_s, cB1_s, wr_eBin, cS2_s, cS1_s, wr_eBinS, asQ_bl, wr_tB, truQ_s, wr_tT, notQ_s, wr_tNt, anQ_t, anQ_f, wr_tAn, orQ_t, orQ_f, wr_tOr, eaB_t, eaB_f, eaQ_s, wr_eAn, eoB_t, eoB_f, eoQ_s, wr_eOr, enB_s, enQ_s, wr_eNt, eiQ_t, eiQ_f, wr_eIf, negQ_int, wr_eNeg, wr_aNil, cC2_s, cC1_s, wr_aCons, tupQ_s, lstQ_s, newQ_s, wr_eTup, wr_eLst, wr_eNew, caQ_s, wr_eCa, clQ_s, wr_eCall, nAQ_s, wr_nA, tyQ_s, wr_eIsTy, icQ_s, wr_eIsC, mt2_s, mt1_s, wr_eMt, wr_oNone, oQ_int, wr_oSome, sl3_s, sl2_s, sl1_s, wr_eSl, kk2_s, kk1_s, wr_eCallK, kk0_s, wr_eCallK0, wr_gN, sb3_s, sb2_s, sb1_s, wr_gSb, wr_gsNil, gs1_s, wr_gsCons, wr_gTp, wr_gTp_rD, xe_s, sq_nx, sq_rt, sq_bk, sq_ct, sq_ex, sq_xe, ws_nxt, ws_sNop, ws_sSeq, ws_sBrk, ws_sCnt, dropQ_s, ws_sDrop, ws_sRet, ws_sRetN, ifQ_t, ifQ_f, ws_sIf, asg1_s, ws_sAsg, setQ_s, ws_sSet, parQ_s, ws_sPar, ws_sRaise, fn_nx, fn_rt, fn_ex, fn_xe, su_nx, su_bk, su_ct, su_rt, trQ_t, trQ_f, tr_nx, tr_rt, tr_bk, tr_ct, tr_ex, ws_sTry, forQ_s, ws_sFor, lp_nx, lp_rt, lp_bk, lp_ct, lp_ex, lp_xe, ws_fi_nil, bodyQ_s, mid_nx, mid_rt, mid_bk, mid_ct, mid_ex, mid_xe, lc2_s, lc1_s, wr_eLc, lcn2_s, lcn1_s, wr_eLcN, wipe_nil, wipe_cons, wr_tTrue, wr_lc_nil, tgQ_some, ly_s, lt1_t, lt1_f, lg_s, eqQ_s, exQ_s, seqQ_tup, seqQ_lst, seqQ_scr, seqQ_rD, wr_iSeq, rgQ_int, wr_iRg1, rgQ2_int, wr_iRg2, ch3_t, ch3_f, ch2_s, ch1_s, wr_eChain, flQ_s, wr_eFld, fldD_ins, stQ_s, sf2_s, sf1_s, ws_sFldM, mkQ2_s, mkQ1_s, wr_eMk, wr_eMk0, ap2_s, ap1_s, wr_eApp, zpQ_s, wr_iZip, zipR_tup, zipR_lst, srQ_s, wr_iStrM, strR_s, ioQ_s, wr_eIsO, dAddS_int, wr_gStr_tup, wr_gStr_lst, fTuple_lst, fTuple_tup, List.take_succ_cons, List.take_zero, List.drop_succ_cons, List.drop_zero, List.getElem?_cons_zero, List.getElem?_cons_succ, List.set_cons_zero, List.set_cons_succ, List.map_cons, List.map_nil, List.length_cons, List.length_nil, List.cons_append, List.nil_append, List.replicate_succ, List.replicate_zero, List.append_nil, true_and, and_true, and_self, if_true, ite_true, if_false, ite_false, Bool.false_eq_true, Bool.not_true, Bool.not_false, Bool.not_not, decide_true, decide_false, decide_eq_true_eq, not_false_eq_true, not_true_eq_false, reduceCtorEq, sizeLine_eq, Option.map_some, Option.some.injEq, Nat.reduceSub, Nat.reduceAdd, Nat.reduceLeDiff, Nat.reduceEqDiff, Nat.zero_add, Nat.reduceBEq, List.contains_cons, List.contains_nil, beq_self_eq_true, Bool.true_or, Bool.or_true, Bool.false_or, Bool.or_false, List.lookup_cons, List.lookup_nil, Int.reduceEq, Int.reduceNe, Int.reduceLT, Int.reduceLE, Int.reduceNeg, Int.reduceAdd, Int.reduceSub, Int.cast_ofNat_Int, ne_eq, cmpI_s, dGt, dGe, dLt, dLe, dAdd_int, dSub_int, dEq_int, dNe_int, dEq_bl, dNe_bl, truD_bl, isTy_int, isTy_bl, isTy_tup, fLen_tup, fLen_scr, fLen_lst, fAbs_int, fMax_int, fMin_int, ixD_tup, ixD_lst, ixD_scr, isTy_rD, fLen_rD, ix_rD0, ix_rD1, dEq_rD, dNe_rD, dIs_rD, dIsNot_rD, Tn.is, $[$ts:term],*])
noncomputable section
def b_is_whole (N : Nat) : SM := (sRet (eAn (eIsTy .int (eVar 0)) (eNt (eIsTy .bool (eVar 0)))))
def m_is_whole (N : Nat) : FM := fnM 1 (b_is_whole N)
def b_shared (N : Nat) : SM := (sSeq (wlR (tB (eBin dGt (eVar 1) (eC (.int 0)))) (sPar 0 1 (aCons (eVar 1) (aCons (eBin dMod (eVar 0) (eVar 1)) aNil))) N)
    (sRet (eVar 0)))
def m_shared (N : Nat) : FM := fnM 2 (b_shared N)
def b_is_ratio (N : Nat) : SM := (sSeq (sIf (tOr' (tNt (tT (eIsTy .tuple (eVar 0)))) (tOr' (tB (eBin dNe (eCa fLen (aCons (eVar 0) aNil)) (eC (.int 2)))) (tNt (tT (eCa fAll (aCons (eLc (iSeq (eVar 0)) (.nm 3) tTrue (eCall (m_is_whole N) (nA 1 (aCons (eVar 3) aNil))) [3]) aNil)))))) (sRet (eC (.bl false))) sNop)
    (sSeq (sAsg (eVar 0) (gTp 2 (gsCons' (gN 1) (gsCons' (gN 2) gsNil))))
    (sRet (eAn (eBin dGt (eVar 2) (eC (.int 0))) (eBin dEq (eCall (m_shared N) (nA 2 (aCons (eCa fAbs (aCons (eVar 1) aNil)) (aCons (eVar 2) aNil)))) (eC (.int 1)))))))
def m_is_ratio (N : Nat) : FM := fnM 4 (b_is_ratio N)
def b_check_ratio (N : Nat) : SM := (sIf (tNt (tT (eCall (m_is_ratio N) (nA 1 (aCons (eVar 0) aNil))))) (sRaise 3) sNop)
def m_check_ratio (N : Nat) : FM := fnM 1 (b_check_ratio N)
def b_check_two (N : Nat) : SM := (sSeq (sDrop (eCall (m_check_ratio N) (nA 1 (aCons (eVar 0) aNil))))
    (sDrop (eCall (m_check_ratio N) (nA 1 (aCons (eVar 1) aNil)))))
def m_check_two (N : Nat) : FM := fnM 2 (b_check_two N)
def b_lowest (N : Nat) : SM := (sSeq (sSet 2 (eCall (m_shared N) (nA 2 (aCons (eCa fAbs (aCons (eVar 0) aNil)) (aCons (eVar 1) aNil)))))
    (sRet (eTup (aCons (eBin dDiv (eVar 0) (eVar 2)) (aCons (eBin dDiv (eVar 1) (eVar 2)) aNil)))))
def m_lowest (N : Nat) : FM := fnM 3 (b_lowest N)
def b_added (N : Nat) : SM := (sSeq (sDrop (eCall (m_check_two N) (nA 2 (aCons (eVar 0) (aCons (eVar 1) aNil)))))
    (sSeq (sAsg (eTup (aCons (eVar 0) (aCons (eVar 1) aNil))) (gTp 2 (gsCons' (gTp 2 (gsCons' (gN 2) (gsCons' (gN 3) gsNil))) (gsCons' (gTp 2 (gsCons' (gN 4) (gsCons' (gN 5) gsNil))) gsNil))))
    (sRet (eCall (m_lowest N) (nA 2 (aCons (eBinS dAddS (eBin dMul (eVar 2) (eVar 5)) (eBin dMul (eVar 4) (eVar 3))) (aCons (eBin dMul (eVar 3) (eVar 5)) aNil)))))))
def m_added (N : Nat) : FM := fnM 6 (b_added N)
def b_is_before (N : Nat) : SM := (sSeq (sDrop (eCall (m_check_two N) (nA 2 (aCons (eVar 0) (aCons (eVar 1) aNil)))))
    (sRet (eBin dLt (eBin dMul (eBinS ixD (eVar 0) (eC (.int 0))) (eBinS ixD (eVar 1) (eC (.int 1)))) (eBin dMul (eBinS ixD (eVar 1) (eC (.int 0))) (eBinS ixD (eVar 0) (eC (.int 1)))))))
def m_is_before (N : Nat) : FM := fnM 2 (b_is_before N)
def b_greater (N : Nat) : SM := (sRet (eIf (tT (eCall (m_is_before N) (nA 2 (aCons (eVar 0) (aCons (eVar 1) aNil))))) (eVar 1) (eVar 0)))
def m_greater (N : Nat) : FM := fnM 2 (b_greater N)
def b_is_time (N : Nat) : SM := (sRet (eAn (eCall (m_is_ratio N) (nA 1 (aCons (eVar 0) aNil))) (eBin dGe (eBinS ixD (eVar 0) (eC (.int 0))) (eC (.int 0)))))
def m_is_time (N : Nat) : FM := fnM 1 (b_is_time N)
def b_check_time (N : Nat) : SM := (sIf (tNt (tT (eCall (m_is_time N) (nA 1 (aCons (eVar 0) aNil))))) (sRaise 9) sNop)
def m_check_time (N : Nat) : FM := fnM 1 (b_check_time N)
def b_is_rate (N : Nat) : SM := (sRet (eAn (eCall (m_is_ratio N) (nA 1 (aCons (eVar 0) aNil))) (eChain dLt dLe (eC (.int 0)) (eBinS ixD (eVar 0) (eC (.int 0))) (eBinS ixD (eVar 0) (eC (.int 1))))))
def m_is_rate (N : Nat) : FM := fnM 1 (b_is_rate N)
def b__law_cell (N : Nat) : SM := (sSeq (sIf (tB (eBin dLt (eVar 1) (eCa fLen (aCons (eVar 0) aNil)))) (sRet (eBinS ixD (eVar 0) (eVar 1))) sNop)
    (sSeq (sSet 2 (eBin dMod (eBin dMul (eC (.int 60013)) (eBinS dAddS (eBinS dAddS (eBin dMul (eVar 1) (eVar 1)) (eBin dMul (eC (.int 5)) (eVar 1))) (eC (.int 11)))) (eC (.int 2147483477))))
    (sSeq (sFor (iSeq (eSl (eVar 0) oNone (oSome (eC (.int 3))))) (gN 3) (sSet 2 (eBin dMod (eBinS dAddS (eBin dMul (eVar 2) (eC (.int 48017))) (eVar 3)) (eC (.int 2147483477)))))
    (sRet (eVar 2)))))
def m__law_cell (N : Nat) : FM := fnM 4 (b__law_cell N)
def b__law_pool (N : Nat) : SM := (sSeq (sSet 1 (eC (.int 0)))
    (sSeq (sIf (tOr' (tB (eBin dLt (eVar 0) (eC (.int 0)))) (tB (eBin dGe (eVar 0) (eBin dPow (eC (.int 10)) (eC (.int 18)))))) (sSet 1 (eCa fAbs (aCons (eVar 0) aNil))) sNop)
    (sRet (eNew (aCons (eBin dMod (eVar 0) (eC (.int 2147483477))) (aCons (eVar 1) (aCons (eC (.int 0)) aNil)))))))
def m__law_pool (N : Nat) : FM := fnM 2 (b__law_pool N)
def b__law_take (N : Nat) : SM := (sSeq (sAsg (eBinS dAddS (eBinS ixD (eVar 0) (eC (.int 2))) (eC (.int 1))) (gSb (eVar 0) (eC (.int 2))))
    (sSeq (sSet 2 (eBinS ixD (eVar 0) (eC (.int 0))))
    (sSeq (sAsg (eBin dMod (eBinS dAddS (eBin dMul (eVar 2) (eBinS dAddS (eBin dMod (eVar 2) (eC (.int 44017))) (eC (.int 30029)))) (eBin dMul (eC (.int 80021)) (eBinS ixD (eVar 0) (eC (.int 2))))) (eC (.int 2147483477))) (gSb (eVar 0) (eC (.int 0))))
    (sSeq (sIf (tB (eBin dGt (eBinS ixD (eVar 0) (eC (.int 1))) (eC (.int 0)))) (sSeq (sAsg (eCa fDivmodW (aCons (eBinS ixD (eVar 0) (eC (.int 1))) (aCons (eVar 1) aNil))) (gTp 2 (gsCons' (gSb (eVar 0) (eC (.int 1))) (gsCons' (gN 3) gsNil))))
    (sRet (eVar 3))) sNop)
    (sRet (eBin dMod (eBin dDiv (eBinS ixD (eVar 0) (eC (.int 0))) (eC (.int 64))) (eVar 1)))))))
def m__law_take (N : Nat) : FM := fnM 4 (b__law_take N)
def b__law_r (N : Nat) : SM := (sSeq (sPar 2 3 (aCons (eCa fAbs (aCons (eVar 0) aNil)) (aCons (eCa fAbs (aCons (eVar 1) aNil)) aNil)))
    (sSeq (wlR (tB (eBin dGt (eVar 3) (eC (.int 0)))) (sPar 2 3 (aCons (eVar 3) (aCons (eBin dMod (eVar 2) (eVar 3)) aNil))) N)
    (sSeq (sIf (tB (eBin dLt (eVar 1) (eC (.int 0)))) (sSet 2 (eBin dSub (eC (.int 0)) (eVar 2))) sNop)
    (sRet (eTup (aCons (eBin dDiv (eVar 0) (eVar 2)) (aCons (eBin dDiv (eVar 1) (eVar 2)) aNil)))))))
def m__law_r (N : Nat) : FM := fnM 4 (b__law_r N)
def b__law_add (N : Nat) : SM := (sRet (eCall (m__law_r N) (nA 2 (aCons (eBinS dAddS (eBin dMul (eBinS ixD (eVar 0) (eC (.int 0))) (eBinS ixD (eVar 1) (eC (.int 1)))) (eBin dMul (eBinS ixD (eVar 1) (eC (.int 0))) (eBinS ixD (eVar 0) (eC (.int 1))))) (aCons (eBin dMul (eBinS ixD (eVar 0) (eC (.int 1))) (eBinS ixD (eVar 1) (eC (.int 1)))) aNil)))))
def m__law_add (N : Nat) : FM := fnM 2 (b__law_add N)
theorem fDivmodW_s {i j : Int} (S : Store) (h0 : 0 < j) (h1 : j < 2 ^ 64) : fDivmodW S [.int i, .int j] = some (.tup [.int (i / j), .int (i % j)]) := by
  have h2 : j.natAbs.log2 < 9000 := Nat.lt_of_lt_of_le (log2_lt (n := 64) (by omega) (by omega)) (by omega)
  show (if 0 < j ∧ j.natAbs.log2 < 9000 then some (D.tup [.int (i / j), .int (i % j)]) else none) = _
  rw [if_pos ⟨h0, h2⟩]
def big (N : Nat) : Prop := 2 ^ 9000 ≤ N
theorem big_lt {N n : Nat} (hN : big N) {x : Nat} (h : x < 2 ^ n) (hn : n ≤ 9000) : x < N := Nat.lt_of_lt_of_le h (Nat.le_trans (pow_le2 hn) hN)
theorem loop (N : Nat) : ∀ (a b : Int) (S : Store), 0 ≤ a → 0 ≤ b → b.natAbs < N →
    wlR (tB (eBin dGt (eVar 1) (eC (.int 0)))) (sPar 0 1 (aCons (eVar 1) (aCons (eBin dMod (eVar 0) (eVar 1)) aNil))) N [some (.int a), some (.int b)] S = .nxt [some (.int (gI a b)), some (.int 0)] S := by
  induction N with
  | zero => intro a b S _ _ h; omega
  | succ N ih =>
    intro a b S ha hb h
    by_cases hz : b = 0
    · subst hz
      have e : gI a 0 = a := by unfold gI; simp; omega
      rw [e]; rfl
    · have hpos : 0 < b := by omega
      have h1 : wlR (tB (eBin dGt (eVar 1) (eC (.int 0)))) (sPar 0 1 (aCons (eVar 1) (aCons (eBin dMod (eVar 0) (eVar 1)) aNil))) (N + 1) [some (.int a), some (.int b)] S =
          wlR (tB (eBin dGt (eVar 1) (eC (.int 0)))) (sPar 0 1 (aCons (eVar 1) (aCons (eBin dMod (eVar 0) (eVar 1)) aNil))) N [some (.int b), some (.int (a.fmod b))] S := by
        simp [wlR, hpos, dMod_int hz]
      rw [h1]
      have e1 : a.fmod b = a % b := Int.fmod_eq_emod_of_nonneg a (by omega)
      have e2 : 0 ≤ a % b := Int.emod_nonneg a hz
      have e3 : a % b < b := Int.emod_lt_of_pos a hpos
      rw [e1, ih b (a % b) S hb e2 (by omega), gI_step ha hb]
theorem shared_ok (N : Nat) (a b : Int) (S : Store) (ha : 0 ≤ a) (hb : 0 ≤ b) (h : b.natAbs < N) : m_shared N [.int a, .int b] S = .ok (.int (gI a b)) S := by
  simp [m_shared, fnM_s, b_shared, loop N a b S ha hb h]
theorem lowest_ok {N : Nat} {t b : Int} {S : Store} {n : Nat} (hN : big N) (hb : 0 < b) (hs : b.natAbs < 2 ^ n) (hn : 0 < n) (h9 : n ≤ 9000) : m_lowest N [.int t, .int b] S = .ok (rD (Rat.divInt t b)) S := by
  have hg := gI_pos (a := t) (b := b) (by omega)
  have hl := gI_le (a := t) (b := b) (by omega)
  have hd : divOk (gI t b) = true := div_ok (b := n) (by omega) (by omega) hn h9
  have e := shared_ok N (if t < 0 then -t else t) b S (by split <;> omega) (by omega) (big_lt hN hs h9)
  rw [gI_abs] at e
  rw [← lowest_rD hb]
  simp [m_lowest, fnM_s, b_lowest, e, dDiv_int hd, fdiv_pos hg, sizeLine_eq]
theorem isr_pair (N : Nat) (a b : Int) (S : Store) (hs : b.natAbs < N) : m_is_ratio N [.tup [.int a, .int b]] S = .ok (.bl (decide (0 < b) && decide (gI a b = 1))) S := by
  have hc : eLc (iSeq (eVar 0)) (.nm 3) tTrue (eCall (m_is_whole N) (nA 1 (aCons (eVar 3) aNil))) [3] [some (.tup [.int a, .int b]), none, none, none] S = .ok (.lst [.bl true, .bl true]) S := rfl
  by_cases h : 0 < b
  · have e := shared_ok N (if a < 0 then -a else a) b S (by split <;> omega) (by omega) hs
    rw [gI_abs] at e
    simp [m_is_ratio, fnM_s, b_is_ratio, hc, h, e, fAll, seqD, bools, Tn.is, dEq_int, dNe_int]
  · simp [m_is_ratio, fnM_s, b_is_ratio, hc, h, fAll, seqD, bools, Tn.is, dEq_int, dNe_int]
theorem isr_ok {N : Nat} {q : Rat} {S : Store} {n : Nat} (hN : big N) (h : Bt q n) (h9 : n ≤ 9000) : m_is_ratio N [rD q] S = .ok (.bl true) S := by
  have hd := q.den_pos
  unfold rD
  rw [isr_pair N _ _ S (by rw [Int.natAbs_natCast]; exact big_lt hN h.2 h9), gI_rat, decide_eq_true (by omega)]
  rfl
theorem chk_ok {N : Nat} {q : Rat} {S : Store} {n : Nat} (hN : big N) (h : Bt q n) (h9 : n ≤ 9000) : m_check_ratio N [rD q] S = .ok .non S := by
  simp [m_check_ratio, fnM_s, b_check_ratio, isr_ok hN h h9]
theorem chk2_ok {N : Nat} {p q : Rat} {S : Store} {n m : Nat} (hN : big N) (h : Bt p n) (h9 : n ≤ 9000) (h' : Bt q m) (h9' : m ≤ 9000) : m_check_two N [rD p, rD q] S = .ok .non S := by
  simp [m_check_two, fnM_s, b_check_two, chk_ok hN h h9, chk_ok hN h' h9']
theorem Bt.mul_nd {p q : Rat} {a b : Nat} (h : Bt p a) (h' : Bt q b) (l : a + b ≤ 9000) : mulOk p.num q.den = true := mul_ok h.1 (by simpa using h'.2) h.pos h'.pos (by omega)
theorem Bt.mul_dd {p q : Rat} {a b : Nat} (h : Bt p a) (h' : Bt q b) (l : a + b ≤ 9000) : mulOk p.den q.den = true := mul_ok (by simpa using h.2) (by simpa using h'.2) h.pos h'.pos (by omega)
theorem den_mul_pos (p q : Rat) : (0 : Int) < (p.den : Int) * (q.den : Int) := Int.mul_pos (by have := p.den_pos; omega) (by have := q.den_pos; omega)
theorem den_mul_lt {p q : Rat} {a b : Nat} (h : Bt p a) (h' : Bt q b) : ((p.den : Int) * (q.den : Int)).natAbs < 2 ^ (a + b) := natAbs_mul_lt (by simpa using h.2) (by simpa using h'.2)
theorem added_ok {N : Nat} {p q : Rat} {S : Store} {n m : Nat} (hN : big N) (h : Bt p n) (h' : Bt q m) (l : n + m ≤ 9000) : m_added N [rD p, rD q] S = .ok (rD (p + q)) S := by
  have e := lowest_ok (N := N) (t := p.num * q.den + q.num * p.den) (S := S) hN (den_mul_pos p q) (den_mul_lt h h') (by have := h.pos; omega) l
  rw [← add_div] at e
  apply eq_of_w
  rw [m_added, wr_fnM, b_added]
  wp_walk using chk2_ok hN h (by omega) h' (by omega), dMul_int (Bt.mul_nd h h' l), dMul_int (Bt.mul_nd h' h (by omega)), dMul_int (Bt.mul_dd h h' l), e
theorem before_ok {N : Nat} {p q : Rat} {S : Store} {n m : Nat} (hN : big N) (h : Bt p n) (h' : Bt q m) (l : n + m ≤ 9000) : m_is_before N [rD p, rD q] S = .ok (.bl (decide (p < q))) S := by
  apply eq_of_w
  rw [m_is_before, wr_fnM, b_is_before]
  wp_walk using chk2_ok hN h (by omega) h' (by omega), dMul_int (Bt.mul_nd h h' l), dMul_int (Bt.mul_nd h' h (by omega)), dLt, lt_rat
theorem greater_ok {N : Nat} {p q : Rat} {S : Store} {n m : Nat} (hN : big N) (h : Bt p n) (h' : Bt q m) (l : n + m ≤ 9000) : m_greater N [rD p, rD q] S = .ok (rD (max p q)) S := by
  apply eq_of_w
  rw [m_greater, wr_fnM, b_greater]
  by_cases hl : p < q
  · have e : max p q = q := by rw [Rat.max_def]; grind
    wp_walk using before_ok hN h h' l, hl, e
  · have e : max p q = p := by rw [Rat.max_def]; grind
    wp_walk using before_ok hN h h' l, hl, e
theorem loop4 (N : Nat) (x y : Option D) : ∀ (a b : Int) (S : Store), 0 ≤ a → 0 ≤ b → b.natAbs < N →
    wlR (tB (eBin dGt (eVar 3) (eC (.int 0)))) (sPar 2 3 (aCons (eVar 3) (aCons (eBin dMod (eVar 2) (eVar 3)) aNil))) N [x, y, some (.int a), some (.int b)] S = .nxt [x, y, some (.int (gI a b)), some (.int 0)] S := by
  induction N with
  | zero => intro a b S _ _ h; omega
  | succ N ih =>
    intro a b S ha hb h
    by_cases hz : b = 0
    · subst hz
      have e : gI a 0 = a := by unfold gI; simp; omega
      rw [e]; rfl
    · have hpos : 0 < b := by omega
      have h1 : wlR (tB (eBin dGt (eVar 3) (eC (.int 0)))) (sPar 2 3 (aCons (eVar 3) (aCons (eBin dMod (eVar 2) (eVar 3)) aNil))) (N + 1) [x, y, some (.int a), some (.int b)] S =
          wlR (tB (eBin dGt (eVar 3) (eC (.int 0)))) (sPar 2 3 (aCons (eVar 3) (aCons (eBin dMod (eVar 2) (eVar 3)) aNil))) N [x, y, some (.int b), some (.int (a.fmod b))] S := by
        simp [wlR, hpos, dMod_int hz]
      rw [h1]
      have e1 : a.fmod b = a % b := Int.fmod_eq_emod_of_nonneg a (by omega)
      have e2 : 0 ≤ a % b := Int.emod_nonneg a hz
      have e3 : a % b < b := Int.emod_lt_of_pos a hpos
      rw [e1, ih b (a % b) S hb e2 (by omega), gI_step ha hb]
theorem r_ok {N : Nat} {t b : Int} {S : Store} {n : Nat} (hN : big N) (hb : b ≠ 0) (hs : b.natAbs < 2 ^ n) (hn : 0 < n) (h9 : n ≤ 9000) : m__law_r N [.int t, .int b] S = .ok (rD (Rat.divInt t b)) S := by
  have hg := gI_pos (a := t) (b := b) hb
  have hl := gI_le (a := t) (b := b) hb
  have hbN := big_lt hN hs h9
  have e := loop4 N (some (.int t)) (some (.int b)) (if t < 0 then -t else t) (if b < 0 then -b else b) S (by split <;> omega) (by split <;> omega) (by split <;> omega)
  rw [gI_congr (c := t) (d := b) (by split <;> omega) (by split <;> omega)] at e
  by_cases h : b < 0
  · have hd : divOk (0 - gI t b) = true := div_ok (b := n) (by omega) (by omega) hn h9
    have f1 := fdiv_neg_of hg (gI_l t b)
    have f2 := fdiv_neg_of hg (gI_r t b)
    rw [← neg_rD h, ← f1, ← f2]
    simp only [Int.zero_sub] at hd f1 f2
    simp only [if_pos h] at e
    simp [m__law_r, fnM_s, b__law_r, e, h, dDiv_int hd, f1, f2, sizeLine_eq]
  · have hd : divOk (gI t b) = true := div_ok (b := n) (by omega) (by omega) hn h9
    rw [← lowest_rD (by omega)]
    simp only [if_neg h] at e
    simp [m__law_r, fnM_s, b__law_r, e, h, dDiv_int hd, fdiv_pos hg, sizeLine_eq]
theorem ladd_ok {N : Nat} {p q : Rat} {S : Store} {n m : Nat} (hN : big N) (h : Bt p n) (h' : Bt q m) (l : n + m ≤ 9000) : m__law_add N [rD p, rD q] S = .ok (rD (p + q)) S := by
  have e := r_ok (N := N) (t := p.num * q.den + q.num * p.den) (S := S) hN (Int.ne_of_gt (den_mul_pos p q)) (den_mul_lt h h') (by have := h.pos; omega) l
  rw [← add_div] at e
  apply eq_of_w
  rw [m__law_add, wr_fnM, b__law_add]
  wp_walk using dMul_int (Bt.mul_nd h h' l), dMul_int (Bt.mul_nd h' h (by omega)), dMul_int (Bt.mul_dd h h' l), e
def Pool (S : Store) (n : Nat) : Prop := ∃ a b c : Int, S[n]? = some (.lst [.int a, .int b, .int c]) ∧ 0 ≤ a ∧ a < 2147483477 ∧ 0 ≤ b
def Fr (n : Nat) (S S' : Store) : Prop := S.length ≤ S'.length ∧ ∀ m, m < S.length → m ≠ n → S'[m]? = S[m]?
theorem Fr.refl (n : Nat) (S : Store) : Fr n S S := ⟨Nat.le_refl _, fun _ _ _ => rfl⟩
theorem Fr.trans {n : Nat} {S S1 S2 : Store} (a : Fr n S S1) (b : Fr n S1 S2) : Fr n S S2 := ⟨Nat.le_trans a.1 b.1, fun m h h' => (b.2 m (Nat.lt_of_lt_of_le h a.1) h').trans (a.2 m h h')⟩
theorem Fr.set {n : Nat} {S : Store} (c : Cell) : Fr n S (S.set n c) := ⟨by rw [List.length_set]; exact Nat.le_refl _, fun m _ h => List.getElem?_set_ne (Ne.symm h)⟩
theorem Fr.app {n : Nat} {S : Store} (c : List Cell) : Fr n S (S ++ c) := ⟨by rw [List.length_append]; omega, fun m h _ => List.getElem?_append_left h⟩
theorem Pool.app {S : Store} {n : Nat} (P : Pool S n) (c : List Cell) : Pool (S ++ c) n := by
  obtain ⟨x, y, z, h, r⟩ := P
  exact ⟨x, y, z, by rw [List.getElem?_append_left (List.getElem?_eq_some_iff.mp h).1]; exact h, r⟩
theorem Pool.lt {S : Store} {n : Nat} (P : Pool S n) : n < S.length := by
  obtain ⟨x, y, z, h, r⟩ := P
  exact (List.getElem?_eq_some_iff.mp h).1
theorem Pool.set {S : Store} {n i : Nat} (P : Pool S n) (c : Cell) (h : i ≠ n) : Pool (S.set i c) n := by
  obtain ⟨x, y, z, hs, r⟩ := P
  exact ⟨x, y, z, by rw [List.getElem?_set_ne h]; exact hs, r⟩
theorem Fr.get {n : Nat} {S S' : Store} {i : Nat} {c : Cell} (F : Fr n S S') (h : S[i]? = some c) (hn : i ≠ n) : S'[i]? = some c := by
  rw [F.2 i (List.getElem?_eq_some_iff.mp h).1 hn]; exact h
theorem take_w (N : Nat) {S : Store} {n : Nat} {many : Int} {Q : D → Store → Prop} {X : D → Store → Prop} (P : Pool S n) (hm : 0 < many) (hm2 : many < 2 ^ 64)
    (h : ∀ d S', 0 ≤ d → d < many → Pool S' n → Fr n S S' → Q (.int d) S') : Wr (m__law_take N [.loc n, .int many] S) Q X := by
  obtain ⟨a, b, c, hS, ha, ha2, hb⟩ := P
  have hn : n < S.length := (List.getElem?_eq_some_iff.mp hS).1
  have get : ∀ (S : Store) (X : Cell), n < S.length → (S.set n X)[n]? = some X := fun S X h => by rw [List.getElem?_set_self h]
  have m1 : ∀ z, mulOk a z = true := fun z => mul_l (by omega)
  have m2 : ∀ z, mulOk 80021 z = true := fun z => mul_l (by decide)
  obtain ⟨a', ea⟩ : ∃ a', a' = (a * (a.fmod 44017 + 30029) + 80021 * (c + 1)).fmod 2147483477 := ⟨_, rfl⟩
  have e' : a' = (a * (a.fmod 44017 + 30029) + 80021 * (c + 1)) % 2147483477 := by rw [ea]; exact Int.fmod_eq_emod_of_nonneg _ (by omega)
  have ha1 : 0 ≤ a' := by rw [e']; exact Int.emod_nonneg _ (by omega)
  have ha3 : a' < 2147483477 := by rw [e']; exact Int.emod_lt_of_pos _ (by omega)
  have i0 : ixD S (.loc n) (.int 2) = some (.int c) := ixD_loc _ hS
  have i1 : ∀ (S : Store) (x y z : D) (k : Int), n < S.length → ixD (S.set n (.lst [x, y, z])) (.loc n) (.int k) = L2.atI [x, y, z] k := fun S x y z k h => ixD_loc _ (get S _ h)
  have s0 : ∀ d, setD S (.loc n) (.int 2) d = some (S.set n (.lst [.int a, .int b, d])) := fun d => setD_loc (j := 2) d hS rfl
  have s1 : ∀ (x y z d : D), setD (S.set n (.lst [x, y, z])) (.loc n) (.int 0) d = some (S.set n (.lst [d, y, z])) := fun x y z d => by
    rw [setD_loc (j := 0) d (get S _ hn) rfl, List.set_set]; rfl
  have s2 : ∀ (x y z d : D), setD (S.set n (.lst [x, y, z])) (.loc n) (.int 1) d = some (S.set n (.lst [x, d, z])) := fun x y z d => by
    rw [setD_loc (j := 1) d (get S _ hn) rfl, List.set_set]; rfl
  rw [m__law_take, wr_fnM, b__law_take]
  by_cases hb0 : 0 < b
  · (try simp only [wr_ok, wr_exc, wr_lf, wr_eC, evQ_some, wr_eVar, cB2_s, cB1_s, wr_eBin, cS2_s, cS1_s, wr_eBinS, asQ_bl, wr_tB, truQ_s, wr_tT, notQ_s, wr_tNt, anQ_t, anQ_f, wr_tAn, orQ_t, orQ_f, wr_tOr, eaB_t, eaB_f, eaQ_s, wr_eAn, eoB_t, eoB_f, eoQ_s, wr_eOr, enB_s, enQ_s, wr_eNt, eiQ_t, eiQ_f, wr_eIf, negQ_int, wr_eNeg, wr_aNil, cC2_s, cC1_s, wr_aCons, tupQ_s, lstQ_s, newQ_s, wr_eTup, wr_eLst, wr_eNew, caQ_s, wr_eCa, clQ_s, wr_eCall, nAQ_s, wr_nA, tyQ_s, wr_eIsTy, icQ_s, wr_eIsC, mt2_s, mt1_s, wr_eMt, wr_oNone, oQ_int, wr_oSome, sl3_s, sl2_s, sl1_s, wr_eSl, kk2_s, kk1_s, wr_eCallK, kk0_s, wr_eCallK0, wr_gN, sb3_s, sb2_s, sb1_s, wr_gSb, wr_gsNil, gs1_s, wr_gsCons, wr_gTp, wr_gTp_rD, xe_s, sq_nx, sq_rt, sq_bk, sq_ct, sq_ex, sq_xe, ws_nxt, ws_sNop, ws_sSeq, ws_sBrk, ws_sCnt, dropQ_s, ws_sDrop, ws_sRet, ws_sRetN, ifQ_t, ifQ_f, ws_sIf, asg1_s, ws_sAsg, setQ_s, ws_sSet, parQ_s, ws_sPar, ws_sRaise, fn_nx, fn_rt, fn_ex, fn_xe, su_nx, su_bk, su_ct, su_rt, trQ_t, trQ_f, tr_nx, tr_rt, tr_bk, tr_ct, tr_ex, ws_sTry, forQ_s, ws_sFor, lp_nx, lp_rt, lp_bk, lp_ct, lp_ex, lp_xe, ws_fi_nil, bodyQ_s, mid_nx, mid_rt, mid_bk, mid_ct, mid_ex, mid_xe, lc2_s, lc1_s, wr_eLc, lcn2_s, lcn1_s, wr_eLcN, wipe_nil, wipe_cons, wr_tTrue, wr_lc_nil, tgQ_some, ly_s, lt1_t, lt1_f, lg_s, eqQ_s, exQ_s, seqQ_tup, seqQ_lst, seqQ_scr, seqQ_rD, wr_iSeq, rgQ_int, wr_iRg1, rgQ2_int, wr_iRg2, ch3_t, ch3_f, ch2_s, ch1_s, wr_eChain, flQ_s, wr_eFld, fldD_ins, stQ_s, sf2_s, sf1_s, ws_sFldM, mkQ2_s, mkQ1_s, wr_eMk, wr_eMk0, ap2_s, ap1_s, wr_eApp, zpQ_s, wr_iZip, zipR_tup, zipR_lst, srQ_s, wr_iStrM, strR_s, ioQ_s, wr_eIsO, dAddS_int, wr_gStr_tup, wr_gStr_lst, fTuple_lst, fTuple_tup, List.take_succ_cons, List.take_zero, List.drop_succ_cons, List.drop_zero, List.getElem?_cons_zero, List.getElem?_cons_succ, List.set_cons_zero, List.set_cons_succ, List.map_cons, List.map_nil, List.length_cons, List.length_nil, List.cons_append, List.nil_append, List.replicate_succ, List.replicate_zero, List.append_nil, true_and, and_true, and_self, if_true, ite_true, if_false, ite_false, Bool.false_eq_true, Bool.not_true, Bool.not_false, Bool.not_not, decide_true, decide_false, decide_eq_true_eq, not_false_eq_true, not_true_eq_false, reduceCtorEq, sizeLine_eq, Option.map_some, Option.some.injEq, Nat.reduceSub, Nat.reduceAdd, Nat.reduceLeDiff, Nat.reduceEqDiff, Nat.zero_add, Nat.reduceBEq, List.contains_cons, List.contains_nil, beq_self_eq_true, Bool.true_or, Bool.or_true, Bool.false_or, Bool.or_false, List.lookup_cons, List.lookup_nil, Int.reduceEq, Int.reduceNe, Int.reduceLT, Int.reduceLE, Int.reduceNeg, Int.reduceAdd, Int.reduceSub, Int.cast_ofNat_Int, ne_eq, cmpI_s, dGt, dGe, dLt, dLe, dAdd_int, dSub_int, dEq_int, dNe_int, dEq_bl, dNe_bl, truD_bl, isTy_int, isTy_bl, isTy_tup, fLen_tup, fLen_scr, fLen_lst, fAbs_int, fMax_int, fMin_int, ixD_tup, ixD_lst, ixD_scr, isTy_rD, fLen_rD, ix_rD0, ix_rD1, dEq_rD, dNe_rD, dIs_rD, dIsNot_rD, Tn.is, i0, s0, s1, s2, i1 _ _ _ _ _ hn, at3_0, at3_1, at3_2, dMul_int (m1 _), dMul_int (m2 _), dMod_int, dGt, ← ea, hb0, fDivmodW_s _ hm hm2, ne_eq])
    exact h _ _ (Int.emod_nonneg _ (by omega)) (Int.emod_lt_of_pos _ hm) ⟨a', b / many, c + 1, get S _ hn, ha1, ha3, Int.ediv_nonneg hb (by omega)⟩ (Fr.set _)
  · have d64 : divOk 64 = true := by decide
    have hz : ¬ many = 0 := by omega
    (try simp only [wr_ok, wr_exc, wr_lf, wr_eC, evQ_some, wr_eVar, cB2_s, cB1_s, wr_eBin, cS2_s, cS1_s, wr_eBinS, asQ_bl, wr_tB, truQ_s, wr_tT, notQ_s, wr_tNt, anQ_t, anQ_f, wr_tAn, orQ_t, orQ_f, wr_tOr, eaB_t, eaB_f, eaQ_s, wr_eAn, eoB_t, eoB_f, eoQ_s, wr_eOr, enB_s, enQ_s, wr_eNt, eiQ_t, eiQ_f, wr_eIf, negQ_int, wr_eNeg, wr_aNil, cC2_s, cC1_s, wr_aCons, tupQ_s, lstQ_s, newQ_s, wr_eTup, wr_eLst, wr_eNew, caQ_s, wr_eCa, clQ_s, wr_eCall, nAQ_s, wr_nA, tyQ_s, wr_eIsTy, icQ_s, wr_eIsC, mt2_s, mt1_s, wr_eMt, wr_oNone, oQ_int, wr_oSome, sl3_s, sl2_s, sl1_s, wr_eSl, kk2_s, kk1_s, wr_eCallK, kk0_s, wr_eCallK0, wr_gN, sb3_s, sb2_s, sb1_s, wr_gSb, wr_gsNil, gs1_s, wr_gsCons, wr_gTp, wr_gTp_rD, xe_s, sq_nx, sq_rt, sq_bk, sq_ct, sq_ex, sq_xe, ws_nxt, ws_sNop, ws_sSeq, ws_sBrk, ws_sCnt, dropQ_s, ws_sDrop, ws_sRet, ws_sRetN, ifQ_t, ifQ_f, ws_sIf, asg1_s, ws_sAsg, setQ_s, ws_sSet, parQ_s, ws_sPar, ws_sRaise, fn_nx, fn_rt, fn_ex, fn_xe, su_nx, su_bk, su_ct, su_rt, trQ_t, trQ_f, tr_nx, tr_rt, tr_bk, tr_ct, tr_ex, ws_sTry, forQ_s, ws_sFor, lp_nx, lp_rt, lp_bk, lp_ct, lp_ex, lp_xe, ws_fi_nil, bodyQ_s, mid_nx, mid_rt, mid_bk, mid_ct, mid_ex, mid_xe, lc2_s, lc1_s, wr_eLc, lcn2_s, lcn1_s, wr_eLcN, wipe_nil, wipe_cons, wr_tTrue, wr_lc_nil, tgQ_some, ly_s, lt1_t, lt1_f, lg_s, eqQ_s, exQ_s, seqQ_tup, seqQ_lst, seqQ_scr, seqQ_rD, wr_iSeq, rgQ_int, wr_iRg1, rgQ2_int, wr_iRg2, ch3_t, ch3_f, ch2_s, ch1_s, wr_eChain, flQ_s, wr_eFld, fldD_ins, stQ_s, sf2_s, sf1_s, ws_sFldM, mkQ2_s, mkQ1_s, wr_eMk, wr_eMk0, ap2_s, ap1_s, wr_eApp, zpQ_s, wr_iZip, zipR_tup, zipR_lst, srQ_s, wr_iStrM, strR_s, ioQ_s, wr_eIsO, dAddS_int, wr_gStr_tup, wr_gStr_lst, fTuple_lst, fTuple_tup, List.take_succ_cons, List.take_zero, List.drop_succ_cons, List.drop_zero, List.getElem?_cons_zero, List.getElem?_cons_succ, List.set_cons_zero, List.set_cons_succ, List.map_cons, List.map_nil, List.length_cons, List.length_nil, List.cons_append, List.nil_append, List.replicate_succ, List.replicate_zero, List.append_nil, true_and, and_true, and_self, if_true, ite_true, if_false, ite_false, Bool.false_eq_true, Bool.not_true, Bool.not_false, Bool.not_not, decide_true, decide_false, decide_eq_true_eq, not_false_eq_true, not_true_eq_false, reduceCtorEq, sizeLine_eq, Option.map_some, Option.some.injEq, Nat.reduceSub, Nat.reduceAdd, Nat.reduceLeDiff, Nat.reduceEqDiff, Nat.zero_add, Nat.reduceBEq, List.contains_cons, List.contains_nil, beq_self_eq_true, Bool.true_or, Bool.or_true, Bool.false_or, Bool.or_false, List.lookup_cons, List.lookup_nil, Int.reduceEq, Int.reduceNe, Int.reduceLT, Int.reduceLE, Int.reduceNeg, Int.reduceAdd, Int.reduceSub, Int.cast_ofNat_Int, ne_eq, cmpI_s, dGt, dGe, dLt, dLe, dAdd_int, dSub_int, dEq_int, dNe_int, dEq_bl, dNe_bl, truD_bl, isTy_int, isTy_bl, isTy_tup, fLen_tup, fLen_scr, fLen_lst, fAbs_int, fMax_int, fMin_int, ixD_tup, ixD_lst, ixD_scr, isTy_rD, fLen_rD, ix_rD0, ix_rD1, dEq_rD, dNe_rD, dIs_rD, dIsNot_rD, Tn.is, i0, s0, s1, s2, i1 _ _ _ _ _ hn, at3_0, at3_1, at3_2, dMul_int (m1 _), dMul_int (m2 _), dMod_int, dGt, ← ea, hb0, dDiv_int d64, hz, ne_eq])
    refine h _ _ ?_ ?_ ⟨a', b, c + 1, get S _ hn, ha1, ha3, hb⟩ (Fr.set _)
    · rw [Int.fmod_eq_emod_of_nonneg _ (by omega)]; exact Int.emod_nonneg _ (by omega)
    · rw [Int.fmod_eq_emod_of_nonneg _ (by omega)]; exact Int.emod_lt_of_pos _ hm
theorem pool_w (N : Nat) (x : Int) {S : Store} {Q : D → Store → Prop} {X : D → Store → Prop} (h : ∀ c, Pool (S ++ [c]) S.length → Q (.loc S.length) (S ++ [c])) : Wr (m__law_pool N [.int x] S) Q X := by
  have e1 : x.fmod 2147483477 = x % 2147483477 := Int.fmod_eq_emod_of_nonneg _ (by omega)
  have g : ∀ X : Cell, (S ++ [X])[S.length]? = some X := fun X => by simp
  have a1 : 0 ≤ x.fmod 2147483477 := by rw [e1]; exact Int.emod_nonneg _ (by omega)
  have a2 : x.fmod 2147483477 < 2147483477 := by rw [e1]; exact Int.emod_lt_of_pos _ (by omega)
  have ep : dPow (.int 10) (.int 18) = some (.int (10 ^ 18)) := rfl
  rw [m__law_pool, wr_fnM, b__law_pool]
  by_cases h1 : x < 0
  · wp_walk using dLt, h1, dMod_int, ne_eq
    exact h _ ⟨_, _, _, g _, a1, a2, by omega⟩
  · by_cases h2 : (10 ^ 18 : Int) ≤ x
    · wp_walk using dLt, dGe, ep, h1, h2, dMod_int, ne_eq
      exact h _ ⟨_, _, _, g _, a1, a2, by omega⟩
    · wp_walk using dLt, dGe, ep, h1, h2, dMod_int, ne_eq
      exact h _ ⟨_, _, _, g _, a1, a2, by omega⟩
theorem wr_at {l : List D} {i : Int} {S : Store} {Q : D → Store → Prop} {X : D → Store → Prop} (h0 : 0 ≤ i) (h1 : i < l.length) (h : ∀ d, d ∈ l → Q d S) : Wr (lf (L2.atI l i) S) Q X := by
  have hk : i.toNat < l.length := by omega
  have e : L2.atI l i = some l[i.toNat] := by
    unfold L2.atI L2.ixN
    rw [if_pos h0, if_pos h1]
    show l[i.toNat]? = _
    exact List.getElem?_eq_getElem hk
  rw [e]
  exact h _ (List.getElem_mem hk)
theorem range_mem {n : Nat} {d : D} (h : d ∈ rangeD 0 n) : ∃ k : Int, d = .int k ∧ 0 ≤ k ∧ k < n := by
  unfold rangeD at h
  rw [List.mem_map] at h
  obtain ⟨k, hk, rfl⟩ := h
  rw [List.mem_range] at hk
  exact ⟨0 + (k : Nat), rfl, by omega, by omega⟩
theorem range_get {n i : Nat} {d : D} (h : (rangeD 0 n)[i]? = some d) : d = .int i ∧ i < n := by
  unfold rangeD at h
  rw [List.getElem?_map] at h
  obtain ⟨k, hk, rfl⟩ := Option.map_eq_some_iff.mp h
  obtain ⟨h1, h2⟩ := List.getElem?_eq_some_iff.mp hk
  simp at h1 h2
  subst h2
  exact ⟨by simp, h1⟩
theorem range_len (n : Nat) : (rangeD 0 n).length = n := by unfold rangeD; simp
theorem atI_ints (ns : List Int) {k : Int} (h0 : 0 ≤ k) (h : k < ns.length) : ∃ x : Int, L2.atI (ns.map D.int) k = some (.int x) := by
  have hk : k.toNat < ns.length := by omega
  refine ⟨ns[k.toNat], ?_⟩
  unfold L2.atI L2.ixN
  rw [List.length_map, if_pos h0, if_pos h]
  show (ns.map D.int)[k.toNat]? = _
  rw [List.getElem?_map, List.getElem?_eq_getElem hk]
  rfl
theorem cell_w (N : Nat) (ns : List Int) (k : Int) {S : Store} {Q : D → Store → Prop} {X : D → Store → Prop} (h0 : 0 ≤ k) (h1 : k < 2 ^ 40) (h : ∀ x : Int, Q (.int x) S) : Wr (m__law_cell N [.scr (ns.map .int), .int k] S) Q X := by
  rw [m__law_cell, wr_fnM, b__law_cell]
  by_cases hk : k < ns.length
  · obtain ⟨x, e⟩ := atI_ints ns h0 hk
    wp_walk using List.length_map, hk, e
    exact h x
  · have es : slD S (.scr (ns.map D.int)) none (some 3) = some (.lst ((cutL ns none (some 3)).map D.int)) := by
      show some (D.lst (cutL (ns.map D.int) none (some 3))) = _
      rw [cutL_map]
    wp_walk using List.length_map, hk, dMul_int (mul_l (i := k) (j := k) (by omega)), dMul_int (mul_l (i := 5) (j := k) (by decide)), dMul_int (mul_l (i := 60013) (by decide)), dMod_int, es
    refine for_i (fun e S' => S' = S ∧ ∃ (z : Int) (o : Option D), e = [some (.scr (ns.map .int)), some (.int k), some (.int z), o]) ⟨rfl, _, none, rfl⟩ ?_ ?_
    · rintro d e S' hd ⟨rfl, z, o, rfl⟩
      obtain ⟨i, _, rfl⟩ := List.mem_map.mp hd
      wp_walk using dMul_int (mul_r (i := z) (j := 48017) (by decide)), dMod_int
      exact ⟨_, _, rfl⟩
    · rintro e S' ⟨rfl, z, o, rfl⟩
      wp_walk using wr_ok
      exact h z
theorem cells {l n : Int} (h0 : 0 ≤ l) (hn : 0 ≤ n) (hn2 : n ≤ 64) : ∃ j : Int, (if (if n < l then n else l) > 1 then (if n < l then n else l) else 1) = j ∧ 1 ≤ j ∧ j ≤ 64 := by
  refine ⟨_, rfl, ?_, ?_⟩
  · split <;> omega
  · split <;> (try split) <;> omega
theorem eqD_str (a b : Str) : eqD (.str a) (.str b) = some (decide (a = b)) := rfl
theorem dNe_str (a b : Str) : dNe (.str a) (.str b) = some (.bl (!decide (a = b))) := by unfold dNe; rw [eqD_str]; rfl
theorem time_ok {N : Nat} {q : Rat} {S : Store} {n : Nat} (hN : big N) (h : Bt q n) (h9 : n ≤ 9000) : m_is_time N [rD q] S = .ok (.bl (decide (0 ≤ q.num))) S := by
  apply eq_of_w
  rw [m_is_time, wr_fnM, b_is_time]
  wp_walk using isr_ok hN h h9
theorem ctime_ok {N : Nat} {q : Rat} {S : Store} {n : Nat} (hN : big N) (h : Bt q n) (h9 : n ≤ 9000) (h0 : 0 ≤ q) : m_check_time N [rD q] S = .ok .non S := by
  have e : 0 ≤ q.num := Rat.num_nonneg.mpr h0
  apply eq_of_w
  rw [m_check_time, wr_fnM, b_check_time]
  wp_walk using time_ok hN h h9, e
theorem rate_ok {N : Nat} {q : Rat} {S : Store} {n : Nat} (hN : big N) (h : Bt q n) (h9 : n ≤ 9000) : m_is_rate N [rD q] S = .ok (.bl (decide (0 < q ∧ q ≤ 1))) S := by
  have e1 : (0 < q.num) ↔ 0 < q := by
    rw [Rat.lt_iff]; simp
  have e2 : (q.num ≤ (q.den : Int)) ↔ q ≤ 1 := by
    rw [Rat.le_iff]; simp
  apply eq_of_w
  rw [m_is_rate, wr_fnM, b_is_rate]
  by_cases h1 : 0 < q.num
  · by_cases h2 : q.num ≤ (q.den : Int)
    · wp_walk using isr_ok hN h h9, h1, h2, e1.mp h1, e2.mp h2
    · have h2' : ¬ q ≤ 1 := fun z => h2 (e2.mpr z)
      wp_walk using isr_ok hN h h9, h1, h2, e1.mp h1, h2', and_false
  · have h1' : ¬ 0 < q := fun z => h1 (e1.mpr z)
    wp_walk using isr_ok hN h h9, h1, h1', false_and
end
end C
namespace C
open PySem G
local macro_rules | `(tactic| wp_walk using $ts,*) => `(tactic| try simp only [wr_ok, wr_exc, wr_lf, wr_eC, evQ_some, wr_eVar, cB2_s, cB1_s, wr_eBin, cS2_s, cS1_s, wr_eBinS, asQ_bl, wr_tB, truQ_s, wr_tT, notQ_s, wr_tNt, anQ_t, anQ_f, wr_tAn, orQ_t, orQ_f, wr_tOr, eaB_t, eaB_f, eaQ_s, wr_eAn, eoB_t, eoB_f, eoQ_s, wr_eOr, enB_s, enQ_s, wr_eNt, eiQ_t, eiQ_f, wr_eIf, negQ_int, wr_eNeg, wr_aNil, cC2_s, cC1_s, wr_aCons, tupQ_s, lstQ_s, newQ_s, wr_eTup, wr_eLst, wr_eNew, caQ_s, wr_eCa, clQ_s, wr_eCall, nAQ_s, wr_nA, tyQ_s, wr_eIsTy, icQ_s, wr_eIsC, mt2_s, mt1_s, wr_eMt, wr_oNone, oQ_int, wr_oSome, sl3_s, sl2_s, sl1_s, wr_eSl, kk2_s, kk1_s, wr_eCallK, kk0_s, wr_eCallK0, wr_gN, sb3_s, sb2_s, sb1_s, wr_gSb, wr_gsNil, gs1_s, wr_gsCons, wr_gTp, wr_gTp_rD, xe_s, sq_nx, sq_rt, sq_bk, sq_ct, sq_ex, sq_xe, ws_nxt, ws_sNop, ws_sSeq, ws_sBrk, ws_sCnt, dropQ_s, ws_sDrop, ws_sRet, ws_sRetN, ifQ_t, ifQ_f, ws_sIf, asg1_s, ws_sAsg, setQ_s, ws_sSet, parQ_s, ws_sPar, ws_sRaise, fn_nx, fn_rt, fn_ex, fn_xe, su_nx, su_bk, su_ct, su_rt, trQ_t, trQ_f, tr_nx, tr_rt, tr_bk, tr_ct, tr_ex, ws_sTry, forQ_s, ws_sFor, lp_nx, lp_rt, lp_bk, lp_ct, lp_ex, lp_xe, ws_fi_nil, bodyQ_s, mid_nx, mid_rt, mid_bk, mid_ct, mid_ex, mid_xe, lc2_s, lc1_s, wr_eLc, lcn2_s, lcn1_s, wr_eLcN, wipe_nil, wipe_cons, wr_tTrue, wr_lc_nil, tgQ_some, ly_s, lt1_t, lt1_f, lg_s, eqQ_s, exQ_s, seqQ_tup, seqQ_lst, seqQ_scr, seqQ_rD, wr_iSeq, rgQ_int, wr_iRg1, rgQ2_int, wr_iRg2, ch3_t, ch3_f, ch2_s, ch1_s, wr_eChain, flQ_s, wr_eFld, fldD_ins, stQ_s, sf2_s, sf1_s, ws_sFldM, mkQ2_s, mkQ1_s, wr_eMk, wr_eMk0, ap2_s, ap1_s, wr_eApp, zpQ_s, wr_iZip, zipR_tup, zipR_lst, srQ_s, wr_iStrM, strR_s, ioQ_s, wr_eIsO, dAddS_int, wr_gStr_tup, wr_gStr_lst, fTuple_lst, fTuple_tup, List.take_succ_cons, List.take_zero, List.drop_succ_cons, List.drop_zero, List.getElem?_cons_zero, List.getElem?_cons_succ, List.set_cons_zero, List.set_cons_succ, List.map_cons, List.map_nil, List.length_cons, List.length_nil, List.cons_append, List.nil_append, List.replicate_succ, List.replicate_zero, List.append_nil, true_and, and_true, and_self, if_true, ite_true, if_false, ite_false, Bool.false_eq_true, Bool.not_true, Bool.not_false, Bool.not_not, decide_true, decide_false, decide_eq_true_eq, not_false_eq_true, not_true_eq_false, reduceCtorEq, sizeLine_eq, Option.map_some, Option.some.injEq, Nat.reduceSub, Nat.reduceAdd, Nat.reduceLeDiff, Nat.reduceEqDiff, Nat.zero_add, Nat.reduceBEq, List.contains_cons, List.contains_nil, beq_self_eq_true, Bool.true_or, Bool.or_true, Bool.false_or, Bool.or_false, List.lookup_cons, List.lookup_nil, Int.reduceEq, Int.reduceNe, Int.reduceLT, Int.reduceLE, Int.reduceNeg, Int.reduceAdd, Int.reduceSub, Int.cast_ofNat_Int, ne_eq, cmpI_s, dGt, dGe, dLt, dLe, dAdd_int, dSub_int, dEq_int, dNe_int, dEq_bl, dNe_bl, truD_bl, isTy_int, isTy_bl, isTy_tup, fLen_tup, fLen_scr, fLen_lst, fAbs_int, fMax_int, fMin_int, ixD_tup, ixD_lst, ixD_scr, isTy_rD, fLen_rD, ix_rD0, ix_rD1, dEq_rD, dNe_rD, dIs_rD, dIsNot_rD, Tn.is, $[$ts:term],*])
noncomputable section
def b_is_name (N : Nat) : SM := (sSeq (sIf (tOr' (tNt (tT (eIsTy .str (eVar 0)))) (tNt (tB (eChain dLe dLe (eC (.int 1)) (eCa fLen (aCons (eVar 0) aNil)) (eC (.int 8)))))) (sRet (eC (.bl false))) sNop)
    (sRet (eCa fAll (aCons (eLc (iStrM (eVar 0)) (.nm 1) tTrue (eBinS (dIn false) (eVar 1) (eC (.str "abcdefghijklmnopqrstuvwxyz"))) [1]) aNil))))
def m_is_name (N : Nat) : FM := fnM 2 (b_is_name N)
def oD : Option Rat → D
  | none => .non
  | some q => rD q
def cD (nm : Str) (l : Rat) (o : Option Rat) (h : Int) : D := .ins 33 [(0, .str nm), (1, rD l), (2, oD o), (3, .int h)]
def tD (c g t : Rat) : D := .tup [rD c, rD g, rD t]
structure CliOk (l : Rat) (o : Option Rat) (h : Int) : Prop where
  l0 : 0 ≤ l
  l1 : l ≤ 1
  o1 : ∀ q, o = some q → 0 < q ∧ q ≤ 1 ∧ l ≤ q
  h1 : 1 ≤ h
  h9 : h ≤ 99
def rsd (tag b : Rat) (z : Int) (r : Rat) : Rat := max tag b + (z : Rat) / r
theorem max_le {n : Nat} : Nat.max n n = n := Nat.max_self n
def gateB (o : Option Rat) (g : Rat) (z : Int) (b : Rat) : Rat := match o with
  | none => g
  | some r => rsd g b z r
end
end C
namespace C
open PySem G
local macro_rules | `(tactic| wp_walk using $ts,*) => `(tactic| try simp only [wr_ok, wr_exc, wr_lf, wr_eC, evQ_some, wr_eVar, cB2_s, cB1_s, wr_eBin, cS2_s, cS1_s, wr_eBinS, asQ_bl, wr_tB, truQ_s, wr_tT, notQ_s, wr_tNt, anQ_t, anQ_f, wr_tAn, orQ_t, orQ_f, wr_tOr, eaB_t, eaB_f, eaQ_s, wr_eAn, eoB_t, eoB_f, eoQ_s, wr_eOr, enB_s, enQ_s, wr_eNt, eiQ_t, eiQ_f, wr_eIf, negQ_int, wr_eNeg, wr_aNil, cC2_s, cC1_s, wr_aCons, tupQ_s, lstQ_s, newQ_s, wr_eTup, wr_eLst, wr_eNew, caQ_s, wr_eCa, clQ_s, wr_eCall, nAQ_s, wr_nA, tyQ_s, wr_eIsTy, icQ_s, wr_eIsC, mt2_s, mt1_s, wr_eMt, wr_oNone, oQ_int, wr_oSome, sl3_s, sl2_s, sl1_s, wr_eSl, kk2_s, kk1_s, wr_eCallK, kk0_s, wr_eCallK0, wr_gN, sb3_s, sb2_s, sb1_s, wr_gSb, wr_gsNil, gs1_s, wr_gsCons, wr_gTp, wr_gTp_rD, xe_s, sq_nx, sq_rt, sq_bk, sq_ct, sq_ex, sq_xe, ws_nxt, ws_sNop, ws_sSeq, ws_sBrk, ws_sCnt, dropQ_s, ws_sDrop, ws_sRet, ws_sRetN, ifQ_t, ifQ_f, ws_sIf, asg1_s, ws_sAsg, setQ_s, ws_sSet, parQ_s, ws_sPar, ws_sRaise, fn_nx, fn_rt, fn_ex, fn_xe, su_nx, su_bk, su_ct, su_rt, trQ_t, trQ_f, tr_nx, tr_rt, tr_bk, tr_ct, tr_ex, ws_sTry, forQ_s, ws_sFor, lp_nx, lp_rt, lp_bk, lp_ct, lp_ex, lp_xe, ws_fi_nil, bodyQ_s, mid_nx, mid_rt, mid_bk, mid_ct, mid_ex, mid_xe, lc2_s, lc1_s, wr_eLc, lcn2_s, lcn1_s, wr_eLcN, wipe_nil, wipe_cons, wr_tTrue, wr_lc_nil, tgQ_some, ly_s, lt1_t, lt1_f, lg_s, eqQ_s, exQ_s, seqQ_tup, seqQ_lst, seqQ_scr, seqQ_rD, wr_iSeq, rgQ_int, wr_iRg1, rgQ2_int, wr_iRg2, ch3_t, ch3_f, ch2_s, ch1_s, wr_eChain, flQ_s, wr_eFld, fldD_ins, stQ_s, sf2_s, sf1_s, ws_sFldM, mkQ2_s, mkQ1_s, wr_eMk, wr_eMk0, ap2_s, ap1_s, wr_eApp, zpQ_s, wr_iZip, zipR_tup, zipR_lst, srQ_s, wr_iStrM, strR_s, ioQ_s, wr_eIsO, dAddS_int, wr_gStr_tup, wr_gStr_lst, fTuple_lst, fTuple_tup, List.take_succ_cons, List.take_zero, List.drop_succ_cons, List.drop_zero, List.getElem?_cons_zero, List.getElem?_cons_succ, List.set_cons_zero, List.set_cons_succ, List.map_cons, List.map_nil, List.length_cons, List.length_nil, List.cons_append, List.nil_append, List.replicate_succ, List.replicate_zero, List.append_nil, true_and, and_true, and_self, if_true, ite_true, if_false, ite_false, Bool.false_eq_true, Bool.not_true, Bool.not_false, Bool.not_not, decide_true, decide_false, decide_eq_true_eq, not_false_eq_true, not_true_eq_false, reduceCtorEq, sizeLine_eq, Option.map_some, Option.some.injEq, Nat.reduceSub, Nat.reduceAdd, Nat.reduceLeDiff, Nat.reduceEqDiff, Nat.zero_add, Nat.reduceBEq, List.contains_cons, List.contains_nil, beq_self_eq_true, Bool.true_or, Bool.or_true, Bool.false_or, Bool.or_false, List.lookup_cons, List.lookup_nil, Int.reduceEq, Int.reduceNe, Int.reduceLT, Int.reduceLE, Int.reduceNeg, Int.reduceAdd, Int.reduceSub, Int.cast_ofNat_Int, ne_eq, cmpI_s, dGt, dGe, dLt, dLe, dAdd_int, dSub_int, dEq_int, dNe_int, dEq_bl, dNe_bl, truD_bl, isTy_int, isTy_bl, isTy_tup, fLen_tup, fLen_scr, fLen_lst, fAbs_int, fMax_int, fMin_int, ixD_tup, ixD_lst, ixD_scr, isTy_rD, fLen_rD, ix_rD0, ix_rD1, dEq_rD, dNe_rD, dIs_rD, dIsNot_rD, Tn.is, $[$ts:term],*])
noncomputable section
theorem rat_unit {p b : Int} (h0 : 0 < p) (h1 : p ≤ b) : 0 < Rat.divInt p b ∧ Rat.divInt p b ≤ 1 := by
  have hb : (0 : Rat) < (b : Rat) := Rat.intCast_pos.mpr (by omega)
  have hp : (0 : Rat) < (p : Rat) := Rat.intCast_pos.mpr h0
  rw [Rat.divInt_eq_div]
  refine ⟨by rw [Rat.lt_div_iff hb, Rat.zero_mul]; exact hp, ?_⟩
  have : ¬ (1 : Rat) < (p : Rat) / (b : Rat) := by
    rw [Rat.lt_div_iff hb, Rat.one_mul, Rat.intCast_lt_intCast]; omega
  exact Rat.not_lt.mp this
def dueB (c : Rat) (z : Int) (l : Rat) : Rat := c + (z : Rat) / l
end
end C
namespace G
open PySem
section
variable {Q X : QP D} {QB : QP Bool} {QL : QP (List D)} {QE : QP En} {k : KS} {e : En} {S S1 : Store} {a b c o : EM} {t u : TM} {m n : SM} {am mk : AM} {x y d : D} {z : Bool} {xs ds zs : List D}
def me3 (f : FM) (gD : List D → List D → List D) (n l : Nat) (x : D) (ds : List D) (Q X : QP D) : QP (List D) := fun zs S => (ds.length = n ∧ zs.length = l) ∧ Wr (f (gD (x :: ds) zs) S) Q X
def me2 (f : FM) (gD : List D → List D → List D) (n l : Nat) (x : D) (mk : AM) (e : En) (Q X : QP D) : QP (List D) := fun ds S => Wr (mk e S) (me3 f gD n l x ds Q X) X
def me1 (cn : Nat) (f : FM) (gD : List D → List D → List D) (n l : Nat) (am mk : AM) (e : En) (Q X : QP D) : QP D := fun x S => isCn cn S x = true ∧ Wr (am e S) (me2 f gD n l x mk e Q X) X
theorem me3_s (f : FM) (gD : List D → List D → List D) (n l : Nat) : me3 f gD n l x ds Q X zs S = ((ds.length = n ∧ zs.length = l) ∧ Wr (f (gD (x :: ds) zs) S) Q X) := rfl
theorem me2_s (f : FM) (gD : List D → List D → List D) (n l : Nat) : me2 f gD n l x mk e Q X ds S = Wr (mk e S) (me3 f gD n l x ds Q X) X := rfl
theorem me1_s (cn : Nat) (f : FM) (gD : List D → List D → List D) (n l : Nat) : me1 cn f gD n l am mk e Q X x S = (isCn cn S x = true ∧ Wr (am e S) (me2 f gD n l x mk e Q X) X) := rfl
theorem wr_eMeth (cn : Nat) (f : FM) (gD : List D → List D → List D) (n l : Nat) : Wr (eMeth cn f gD n l o am mk e S) Q X = Wr (o e S) (me1 cn f gD n l am mk e Q X) X := by
  unfold eMeth; rw [wr_bind]; congr; funext x S1; rw [wr_guard, me1_s, wr_bind]; congr; funext ds S2; rw [wr_bind, me2_s]; congr; funext zs S3; rw [wr_guard]; rfl
def mk2 (f : FM) (gD : List D → List D → List D) (l : Nat) (x : D) (Q X : QP D) : QP (List D) := fun zs S => zs.length = l ∧ Wr (f (gD [x] zs) S) Q X
def mk1 (cn : Nat) (f : FM) (gD : List D → List D → List D) (l : Nat) (mk : AM) (e : En) (Q X : QP D) : QP D := fun x S => isCn cn S x = true ∧ Wr (mk e S) (mk2 f gD l x Q X) X
theorem mk2_s (f : FM) (gD : List D → List D → List D) (l : Nat) : mk2 f gD l x Q X zs S = (zs.length = l ∧ Wr (f (gD [x] zs) S) Q X) := rfl
theorem mk1_s (cn : Nat) (f : FM) (gD : List D → List D → List D) (l : Nat) : mk1 cn f gD l mk e Q X x S = (isCn cn S x = true ∧ Wr (mk e S) (mk2 f gD l x Q X) X) := rfl
theorem wr_eMethK (cn : Nat) (f : FM) (gD : List D → List D → List D) (l : Nat) : Wr (eMethK cn f gD l o mk e S) Q X = Wr (o e S) (mk1 cn f gD l mk e Q X) X := by
  unfold eMethK; rw [wr_bind]; congr; funext x S1; rw [wr_guard, mk1_s, wr_bind]; congr; funext zs S3; rw [wr_guard]; rfl
def m01 (cn : Nat) (f : FM) (gD : List D → List D → List D) (Q X : QP D) : QP D := fun x S => isCn cn S x = true ∧ Wr (f (gD [x] []) S) Q X
theorem m01_s (cn : Nat) (f : FM) (gD : List D → List D → List D) : m01 cn f gD Q X x S = (isCn cn S x = true ∧ Wr (f (gD [x] []) S) Q X) := rfl
theorem wr_eMeth0 (cn : Nat) (f : FM) (gD : List D → List D → List D) : Wr (eMeth0 cn f gD o e S) Q X = Wr (o e S) (m01 cn f gD Q X) X := by
  unfold eMeth0; rw [wr_bind]; congr; funext x S1; rw [wr_guard]; rfl
theorem isCn_loc {cn i : Nat} {fs : List (Nat × D)} (h : S[i]? = some (.obj cn fs)) : isCn cn S (.loc i) = true := by
  unfold isCn insD; simp only [h, beq_self_eq_true]
theorem wr_eNewD : Wr (eNewD e S) Q X = Q (.loc S.length) (S ++ [.dk []]) := rfl
theorem dkD_s {i : Nat} {l : List (L2.Key × D)} (h : S[i]? = some (.dk l)) : dkD S (.loc i) = some (i, l) := by unfold dkD; simp only [h]
def dg3 (x y : D) (Q X : QP D) : QP D := fun z S => Wr (dgR S x y z) Q X
def dg2 (c : EM) (e : En) (x : D) (Q X : QP D) : QP D := fun y S => Wr (c e S) (dg3 x y Q X) X
def dg1 (b c : EM) (e : En) (Q X : QP D) : QP D := fun x S => (dkD S x).isSome = true ∧ Wr (b e S) (dg2 c e x Q X) X
theorem dg3_s (z : D) : dg3 x y Q X z S = Wr (dgR S x y z) Q X := rfl
theorem dg2_s : dg2 c e x Q X y S = Wr (c e S) (dg3 x y Q X) X := rfl
theorem dg1_s : dg1 b c e Q X x S = ((dkD S x).isSome = true ∧ Wr (b e S) (dg2 c e x Q X) X) := rfl
theorem wr_eDGet2 : Wr (eDGet2 a b c e S) Q X = Wr (a e S) (dg1 b c e Q X) X := by
  unfold eDGet2; rw [wr_bind]; congr; funext x S1; rw [wr_guard, dg1_s, wr_bind]; congr; funext y S2; rw [wr_bind]; rfl
def dh2 (x : D) (Q X : QP D) : QP D := fun y S => Wr (dgR S x y .non) Q X
def dh1 (b : EM) (e : En) (Q X : QP D) : QP D := fun x S => (dkD S x).isSome = true ∧ Wr (b e S) (dh2 x Q X) X
theorem dh2_s : dh2 x Q X y S = Wr (dgR S x y .non) Q X := rfl
theorem dh1_s : dh1 b e Q X x S = ((dkD S x).isSome = true ∧ Wr (b e S) (dh2 x Q X) X) := rfl
theorem wr_eDGet1 : Wr (eDGet1 a b e S) Q X = Wr (a e S) (dh1 b e Q X) X := by
  unfold eDGet1; rw [wr_bind]; congr; funext x S1; rw [wr_guard, dh1_s, wr_bind]; rfl
theorem dgR_s {i : Nat} {l : List (L2.Key × D)} {q : L2.Key} {z : D} (h : S[i]? = some (.dk l)) (hk : keyD y = some q) : dgR S (.loc i) y z = .ok ((valD l q).getD z) S := by
  unfold dgR; simp only [dkD_s h, hk]
def dp3 (x y : D) (Q X : QP D) : QP D := fun z S => Wr (dpR S x y (some z)) Q X
def dp2 (c : EM) (e : En) (x : D) (Q X : QP D) : QP D := fun y S => Wr (c e S) (dp3 x y Q X) X
def dp1 (b c : EM) (e : En) (Q X : QP D) : QP D := fun x S => (dkD S x).isSome = true ∧ Wr (b e S) (dp2 c e x Q X) X
theorem dp3_s (z : D) : dp3 x y Q X z S = Wr (dpR S x y (some z)) Q X := rfl
theorem dp2_s : dp2 c e x Q X y S = Wr (c e S) (dp3 x y Q X) X := rfl
theorem dp1_s : dp1 b c e Q X x S = ((dkD S x).isSome = true ∧ Wr (b e S) (dp2 c e x Q X) X) := rfl
theorem wr_eDPop2 : Wr (eDPop2 a b c e S) Q X = Wr (a e S) (dp1 b c e Q X) X := by
  unfold eDPop2; rw [wr_bind]; congr; funext x S1; rw [wr_guard, dp1_s, wr_bind]; congr; funext y S2; rw [wr_bind]; rfl
def dq2 (x : D) (Q X : QP D) : QP D := fun y S => Wr (dpR S x y none) Q X
def dq1 (b : EM) (e : En) (Q X : QP D) : QP D := fun x S => (dkD S x).isSome = true ∧ Wr (b e S) (dq2 x Q X) X
theorem dq2_s : dq2 x Q X y S = Wr (dpR S x y none) Q X := rfl
theorem dq1_s : dq1 b e Q X x S = ((dkD S x).isSome = true ∧ Wr (b e S) (dq2 x Q X) X) := rfl
theorem wr_eDPop1 : Wr (eDPop1 a b e S) Q X = Wr (a e S) (dq1 b e Q X) X := by
  unfold eDPop1; rw [wr_bind]; congr; funext x S1; rw [wr_guard, dq1_s, wr_bind]; rfl
theorem dpR_some {i : Nat} {l : List (L2.Key × D)} {q : L2.Key} {v : D} {oz : Option D} (h : S[i]? = some (.dk l)) (hk : keyD y = some q) (hv : valD l q = some v) : dpR S (.loc i) y oz = .ok v (S.set i (.dk (dropKD l q))) := by
  unfold dpR; simp only [dkD_s h, hk, hv]
theorem dpR_none {i : Nat} {l : List (L2.Key × D)} {q : L2.Key} {v : D} (h : S[i]? = some (.dk l)) (hk : keyD y = some q) (hv : valD l q = none) : dpR S (.loc i) y (some v) = .ok v S := by
  unfold dpR; simp only [dkD_s h, hk, hv]
def se2 (d x : D) (e : En) (Q : QP En) : QP D := fun y S => sb3 e Q (setE S x y d)
def se1 (d : D) (i : EM) (e : En) (Q : QP En) : QP D := fun x S => Wr (i e S) (se2 d x e Q) nX
theorem se2_s : se2 d x e QE y S = sb3 e QE (setE S x y d) := rfl
theorem se1_s (i : EM) : se1 d i e QE x S = Wr (i e S) (se2 d x e QE) nX := rfl
theorem wr_gSbE (o i : EM) : Wr (gSbE o i d e S) QE X = Wr (o e S) (se1 d i e QE) nX := by
  unfold gSbE; rw [wr_bind, wr_noX]; congr; funext x S1; rw [wr_bind, wr_noX, se1_s]; congr; funext y S2; rw [se2_s]; cases h : setE S2 x y d <;> rfl
theorem setE_s {i : Nat} {l : List (L2.Key × D)} {q : L2.Key} (h : S[i]? = some (.dk l)) (hk : keyD y = some q) (hl : l.length < sizeLine) : setE S (.loc i) y d = some (S.set i (.dk (putKD l q d))) := by
  unfold setE; simp only [dkD_s h, hk, hl, if_true]
theorem keyD_int (i : Int) : keyD (.int i) = some (.inl i) := rfl
theorem keyD_str (s : Str) : keyD (.str s) = some (.inr s) := rfl
def ssQ (Q X : QP D) : QP D := fun x S => Wr (lf (ssD S x) S) Q X
theorem ssQ_s : ssQ Q X x S = Wr (lf (ssD S x) S) Q X := rfl
theorem wr_eSortSet : Wr (eSortSet a e S) Q X = Wr (a e S) (ssQ Q X) X := by unfold eSortSet; rw [wr_bind]; rfl
def an2 (x : D) (Q X : QP D) : QP D := fun y S => Wr (addN S x y) Q X
def an1 (b : EM) (e : En) (Q X : QP D) : QP D := fun x S => Wr (b e S) (an2 x Q X) X
theorem an2_s : an2 x Q X y S = Wr (addN S x y) Q X := rfl
theorem an1_s : an1 b e Q X x S = Wr (b e S) (an2 x Q X) X := rfl
theorem wr_eAddN : Wr (eAddN a b e S) Q X = Wr (a e S) (an1 b e Q X) X := by unfold eAddN; rw [wr_bind]; congr; funext x S1; rw [wr_bind]; rfl
abbrev QC := List D × Option Nat → Store → Prop
variable {QQ : QC}
def celQ (Q : QC) : QP D := fun x S => match x with
  | .tup l => Q (l, none) S
  | .lst l => Q (l, none) S
  | .scr l => Q (l, none) S
  | .loc n => match S[n]? with
    | some (.lst l) => Q (l, some n) S
    | _ => False
  | _ => False
theorem celQ_tup (l : List D) : celQ QQ (.tup l) S = QQ (l, none) S := rfl
theorem celQ_lst (l : List D) : celQ QQ (.lst l) S = QQ (l, none) S := rfl
theorem celQ_scr (l : List D) : celQ QQ (.scr l) S = QQ (l, none) S := rfl
theorem celQ_loc {i : Nat} {l : List D} (h : S[i]? = some (.lst l)) : celQ QQ (.loc i) S = QQ (l, some i) S := by unfold celQ; simp only [h]
theorem wr_iCel : Wr (iCel a e S) QQ X = Wr (a e S) (celQ QQ) X := by
  unfold iCel; rw [wr_bind]; congr; funext x S1
  cases x with
  | loc n =>
    show Wr (match S1[n]? with
      | some (.lst l) => .ok (l, some n) S1
      | _ => .stuck) _ _ = celQ QQ (.loc n) S1
    unfold celQ
    dsimp only
    cases S1[n]? with
    | none => rfl
    | some q => cases q <;> rfl
  | _ => rfl
def forcQ (g : GM) (m : SM) (e : En) (k : KS) : QC := fun p S => Ws (fiC (okC p) g m p.1 e S) k
theorem forcQ_s (g : GM) (p : List D × Option Nat) : forcQ g m e k p S = Ws (fiC (okC p) g m p.1 e S) k := rfl
theorem ws_sForC (i : CM) (g : GM) : Ws (sForC i g m e S) k = Wr (i e S) (forcQ g m e k) (k.xe e) := ws_sE
def turnC (ck : Store → Prop) (g : GM) (m : SM) (ds : List D) (k : KS) : QP En := fun e S => Ws (fiC ck g m ds e S) k
theorem ws_fiC_cons {ck : Store → Prop} (h : ck S) (g : GM) (ds : List D) : Ws (fiC ck g m (d :: ds) e S) k = Wr (g d e S) (bodyQ m (k.lp (turnC ck g m ds k))) (k.xe e) := by
  rw [fiC_cons h, ws_sE]
  congr; funext e1 S1
  rw [bodyQ_s]
  cases m e1 S1 <;> rfl
theorem forC_w {ck : Store → Prop} {g : GM} {ds : List D} (I : Nat → En → Store → Prop) (h0 : I 0 e S) (hc : ∀ i e S, I i e S → ck S)
    (st : ∀ i d e S, ds[i]? = some d → I i e S → Wr (g d e S) (bodyQ m (k.lp (I (i + 1)))) (k.xe e))
    (fin : ∀ e S, I ds.length e S → k.nx e S) : Ws (fiC ck g m ds e S) k := by
  induction ds generalizing I e S with
  | nil => rw [fiC_nil (hc _ _ _ h0)]; exact fin e S h0
  | cons d ds ih =>
    rw [ws_fiC_cons (hc _ _ _ h0)]
    have h1 := st 0 d e S rfl h0
    have mono : ∀ (r : SRes), Ws r (k.lp (I 1)) → Ws r (k.lp (turnC ck g m ds k)) := by
      intro r h
      have go : ∀ e S, I 1 e S → Ws (fiC ck g m ds e S) k := fun e S hI => ih (fun i => I (i + 1)) hI (fun i e S => hc (i + 1) e S) (fun i d e S hd => st (i + 1) d e S (by simpa using hd)) (fun e S => fin e S)
      cases r with
      | nxt e S => exact go e S h
      | cnt e S => exact go e S h
      | _ => exact h
    revert h1
    cases g d e S with
    | ok e1 S1 => exact fun h1 => mono _ h1
    | exc x S1 => exact id
    | stuck => exact id
def lcc1 (g : Tg) (t : TM) (a : EM) (e : En) (Q X : QP D) : QC := fun p S => Wr (lcC (okC p) g t a e p.1 [] S) (lc2 Q) X
theorem lcc1_s (g : Tg) (p : List D × Option Nat) : lcc1 g t a e Q X p S = Wr (lcC (okC p) g t a e p.1 [] S) (lc2 Q) X := rfl
theorem wr_eLcC (i : CM) (g : Tg) (vs : List Nat) : Wr (eLcC i g t a vs e S) Q X = Wr (i e S) (lcc1 g t a (wipeE e vs) Q X) X := by
  unfold eLcC; rw [wr_bind]; congr; funext p S1; rw [wr_bind]; rfl
def lcd1 (g : Tg) (t : TM) (a : EM) (e : En) (Q X : QP D) : QC := fun p S => Wr (lcC (okC p) g t a e p.1 [] S) (lcn2 Q) X
theorem lcd1_s (g : Tg) (p : List D × Option Nat) : lcd1 g t a e Q X p S = Wr (lcC (okC p) g t a e p.1 [] S) (lcn2 Q) X := rfl
theorem wr_eLcCN (i : CM) (g : Tg) (vs : List Nat) : Wr (eLcCN i g t a vs e S) Q X = Wr (i e S) (lcd1 g t a (wipeE e vs) Q X) X := by
  unfold eLcCN; rw [wr_bind]; congr; funext p S1; rw [wr_bind]; rfl
def lccI (ck : Store → Prop) (g : Tg) (t : TM) (a : EM) (e : En) (ds : List D) (Q : QP (List D)) (X : QP D) : QP (List D) := fun acc S => Wr (lcC ck g t a e ds acc S) Q X
theorem wr_lcC_cons {ck : Store → Prop} (h : ck S) (g : Tg) (acc ds : List D) : Wr (lcC ck g t a e (d :: ds) acc S) QL X = tgQ (g.m d e) (lg t a (lccI ck g t a e ds QL X) acc S) := by
  rw [lcC_cons h]
  unfold tgQ
  cases g.m d e with
  | none => rfl
  | some e1 =>
    dsimp only
    rw [wr_bind, wr_noX, lg_s]; congr; funext b S2
    cases b with
    | false => rfl
    | true =>
      show Wr ((noX (a e1 S2)).bind _) _ _ = Wr (a e1 S2) _ _
      rw [wr_bind, wr_noX]; congr; funext y S3; rw [wr_guard]; rfl
theorem lcC_w {ck : Store → Prop} {g : Tg} {ds acc : List D} (I : Nat → List D → Store → Prop) (h0 : I 0 acc S) (hc : ∀ i acc S, I i acc S → ck S)
    (st : ∀ i d acc S, ds[i]? = some d → I i acc S → tgQ (g.m d e) (lg t a (I (i + 1)) acc S))
    (fin : ∀ acc S, I ds.length acc S → QL acc S) : Wr (lcC ck g t a e ds acc S) QL X := by
  induction ds generalizing I acc S with
  | nil => rw [lcC_nil (hc _ _ _ h0)]; exact fin acc S h0
  | cons d ds ih =>
    rw [wr_lcC_cons (hc _ _ _ h0)]
    have h1 := st 0 d acc S rfl h0
    have go : ∀ acc S, I 1 acc S → Wr (lcC ck g t a e ds acc S) QL X := fun acc S hI => ih (fun i => I (i + 1)) hI (fun i acc S => hc (i + 1) acc S) (fun i d acc S hd => st (i + 1) d acc S (by simpa using hd)) (fun acc S => fin acc S)
    revert h1
    cases g.m d e with
    | none => exact id
    | some e1 =>
      simp only [tgQ_some, lg_s]
      cases t e1 S with
      | exc x S1 => exact id
      | stuck => exact id
      | ok b S1 =>
        simp only [wr_ok]
        cases b with
        | false => exact fun h => go _ _ h
        | true =>
          simp only [lt1_t]
          cases a e1 S1 with
          | exc x S1 => exact id
          | stuck => exact id
          | ok y S2 => exact fun h => ⟨h.1, go _ _ h.2⟩
end
end G
namespace C
open PySem G
local macro_rules | `(tactic| wp_walk using $ts,*) => `(tactic| try simp only [wr_ok, wr_exc, wr_lf, wr_eC, evQ_some, wr_eVar, cB2_s, cB1_s, wr_eBin, cS2_s, cS1_s, wr_eBinS, asQ_bl, wr_tB, truQ_s, wr_tT, notQ_s, wr_tNt, anQ_t, anQ_f, wr_tAn, orQ_t, orQ_f, wr_tOr, eaB_t, eaB_f, eaQ_s, wr_eAn, eoB_t, eoB_f, eoQ_s, wr_eOr, enB_s, enQ_s, wr_eNt, eiQ_t, eiQ_f, wr_eIf, negQ_int, wr_eNeg, wr_aNil, cC2_s, cC1_s, wr_aCons, tupQ_s, lstQ_s, newQ_s, wr_eTup, wr_eLst, wr_eNew, caQ_s, wr_eCa, clQ_s, wr_eCall, nAQ_s, wr_nA, tyQ_s, wr_eIsTy, icQ_s, wr_eIsC, mt2_s, mt1_s, wr_eMt, wr_oNone, oQ_int, wr_oSome, sl3_s, sl2_s, sl1_s, wr_eSl, kk2_s, kk1_s, wr_eCallK, kk0_s, wr_eCallK0, wr_gN, sb3_s, sb2_s, sb1_s, wr_gSb, wr_gsNil, gs1_s, wr_gsCons, wr_gTp, wr_gTp_rD, xe_s, sq_nx, sq_rt, sq_bk, sq_ct, sq_ex, sq_xe, ws_nxt, ws_sNop, ws_sSeq, ws_sBrk, ws_sCnt, dropQ_s, ws_sDrop, ws_sRet, ws_sRetN, ifQ_t, ifQ_f, ws_sIf, asg1_s, ws_sAsg, setQ_s, ws_sSet, parQ_s, ws_sPar, ws_sRaise, fn_nx, fn_rt, fn_ex, fn_xe, su_nx, su_bk, su_ct, su_rt, trQ_t, trQ_f, tr_nx, tr_rt, tr_bk, tr_ct, tr_ex, ws_sTry, forQ_s, ws_sFor, lp_nx, lp_rt, lp_bk, lp_ct, lp_ex, lp_xe, ws_fi_nil, bodyQ_s, mid_nx, mid_rt, mid_bk, mid_ct, mid_ex, mid_xe, lc2_s, lc1_s, wr_eLc, lcn2_s, lcn1_s, wr_eLcN, wipe_nil, wipe_cons, wr_tTrue, wr_lc_nil, tgQ_some, ly_s, lt1_t, lt1_f, lg_s, eqQ_s, exQ_s, seqQ_tup, seqQ_lst, seqQ_scr, seqQ_rD, wr_iSeq, rgQ_int, wr_iRg1, rgQ2_int, wr_iRg2, ch3_t, ch3_f, ch2_s, ch1_s, wr_eChain, flQ_s, wr_eFld, fldD_ins, stQ_s, sf2_s, sf1_s, ws_sFldM, mkQ2_s, mkQ1_s, wr_eMk, wr_eMk0, ap2_s, ap1_s, wr_eApp, zpQ_s, wr_iZip, zipR_tup, zipR_lst, srQ_s, wr_iStrM, strR_s, ioQ_s, wr_eIsO, dAddS_int, wr_gStr_tup, wr_gStr_lst, fTuple_lst, fTuple_tup, List.take_succ_cons, List.take_zero, List.drop_succ_cons, List.drop_zero, List.getElem?_cons_zero, List.getElem?_cons_succ, List.set_cons_zero, List.set_cons_succ, List.map_cons, List.map_nil, List.length_cons, List.length_nil, List.cons_append, List.nil_append, List.replicate_succ, List.replicate_zero, List.append_nil, true_and, and_true, and_self, if_true, ite_true, if_false, ite_false, Bool.false_eq_true, Bool.not_true, Bool.not_false, Bool.not_not, decide_true, decide_false, decide_eq_true_eq, not_false_eq_true, not_true_eq_false, reduceCtorEq, sizeLine_eq, Option.map_some, Option.some.injEq, Nat.reduceSub, Nat.reduceAdd, Nat.reduceLeDiff, Nat.reduceEqDiff, Nat.zero_add, Nat.reduceBEq, List.contains_cons, List.contains_nil, beq_self_eq_true, Bool.true_or, Bool.or_true, Bool.false_or, Bool.or_false, List.lookup_cons, List.lookup_nil, Int.reduceEq, Int.reduceNe, Int.reduceLT, Int.reduceLE, Int.reduceNeg, Int.reduceAdd, Int.reduceSub, Int.cast_ofNat_Int, ne_eq, cmpI_s, dGt, dGe, dLt, dLe, dAdd_int, dSub_int, dEq_int, dNe_int, dEq_bl, dNe_bl, truD_bl, isTy_int, isTy_bl, isTy_tup, fLen_tup, fLen_scr, fLen_lst, fAbs_int, fMax_int, fMin_int, ixD_tup, ixD_lst, ixD_scr, isTy_rD, fLen_rD, ix_rD0, ix_rD1, dEq_rD, dNe_rD, dIs_rD, dIsNot_rD, Tn.is, me3_s, me2_s, me1_s, wr_eMeth, mk2_s, mk1_s, wr_eMethK, m01_s, wr_eMeth0, wr_eNewD, dg3_s, dg2_s, dg1_s, wr_eDGet2, dh2_s, dh1_s, wr_eDGet1, dp3_s, dp2_s, dp1_s, wr_eDPop2, dq2_s, dq1_s, wr_eDPop1, se2_s, se1_s, wr_gSbE, ssQ_s, wr_eSortSet, an2_s, an1_s, wr_eAddN, celQ_tup, celQ_lst, celQ_scr, wr_iCel, forcQ_s, ws_sForC, lcc1_s, wr_eLcC, lcd1_s, wr_eLcCN, keyD_int, keyD_str, Option.isSome_some, $[$ts:term],*])
noncomputable section
def g_Bookings_rate_at_3_ : List D → List D → List D := fun ds es => [(ds.getD 0 .non), (ds.getD 1 .non), (ds.getD 2 .non)]
def g_Bookings___init___1_ : List D → List D → List D := fun ds es => [(ds.getD 0 .non)]
def g_Bookings_book_4_ : List D → List D → List D := fun ds es => [(ds.getD 0 .non), (ds.getD 1 .non), (ds.getD 2 .non), (ds.getD 3 .non)]
def b_Bookings___init__ (N : Nat) : SM := (sFldM [34, 45] 9 (eVar 0) eNewD)
def m_Bookings___init__ (N : Nat) : FM := fnM 1 (b_Bookings___init__ N)
def b_check_number (N : Nat) : SM := (sIf (tOr' (tNt (tT (eIsTy .int (eVar 0)))) (tOr' (tT (eIsTy .bool (eVar 0))) (tB (eBin dLt (eVar 0) (eC (.int 0)))))) (sRaise 8) sNop)
def m_check_number (N : Nat) : FM := fnM 1 (b_check_number N)
def b_Bookings_book (N : Nat) : SM := (sSeq (sDrop (eCall (m_check_number N) (nA 1 (aCons (eVar 1) aNil))))
    (sSeq (sDrop (eCall (C.m_check_time N) (nA 1 (aCons (eVar 2) aNil))))
    (sSeq (sIf (tOr' (tAn (tB (eBin dNe (eVar 3) (eC (.tup [.int 0, .int 1])))) (tNt (tT (eCall (C.m_is_rate N) (nA 1 (aCons (eVar 3) aNil)))))) (tNt (tT (eCall (C.m_is_time N) (nA 1 (aCons (eVar 3) aNil)))))) sStk sNop)
    (sSeq (sSet 4 (eLcCN (iCel (eDPop2 (eFld [34, 45] 9 (eVar 0)) (eVar 1) (eLst aNil))) (.nm 5) (tT (eCall (C.m_is_before N) (nA 2 (aCons (eBinS ixD (eVar 5) (eC (.int 0))) (aCons (eVar 2) aNil))))) (eVar 5) [5]))
    (sSeq (sIf (tB (eBin dNe (eIf (tT (eVar 4)) (eBinS ixD (eBinS ixD (eVar 4) (eNeg (eC (.int 1)))) (eC (.int 1))) (eC (.tup [.int 0, .int 1]))) (eVar 3))) (sDrop (eApp (eVar 4) (aCons (eTup (aCons (eVar 2) (aCons (eVar 3) aNil))) aNil))) sNop)
    (sIf (tT (eVar 4)) (sAsg (eVar 4) (gSbE (eFld [34, 45] 9 (eVar 0)) (eVar 1))) sNop))))))
def m_Bookings_book (N : Nat) : FM := fnM 6 (b_Bookings_book N)
def b_at_time (N : Nat) : SM := (sSeq (sSet 2 (eC (.tup [.int 0, .int 1])))
    (sSeq (sForC (iCel (eVar 0)) (gTp 2 (gsCons' (gN 3) (gsCons' (gN 4) gsNil))) (sIf (tNt (tT (eCall (C.m_is_before N) (nA 2 (aCons (eVar 1) (aCons (eVar 3) aNil)))))) (sSet 2 (eVar 4)) sNop))
    (sRet (eVar 2))))
def m_at_time (N : Nat) : FM := fnM 5 (b_at_time N)
def b_Bookings_rate_at (N : Nat) : SM := (sSeq (sDrop (eCall (m_check_number N) (nA 1 (aCons (eVar 1) aNil))))
    (sSeq (sDrop (eCall (C.m_check_time N) (nA 1 (aCons (eVar 2) aNil))))
    (sRet (eCall (m_at_time N) (nA 2 (aCons (eDGet2 (eFld [34, 45] 9 (eVar 0)) (eVar 1) (eLst aNil)) (aCons (eVar 2) aNil)))))))
def m_Bookings_rate_at (N : Nat) : FM := fnM 3 (b_Bookings_rate_at N)
def rowD (p : Rat × Rat) : D := .tup [rD p.1, rD p.2]
def atT (l : List (Rat × Rat)) (t : Rat) : Rat := l.foldl (fun f p => if t < p.1 then f else p.2) 0
def lastR (l : List (Rat × Rat)) : Rat := match l.getLast? with
  | some p => p.2
  | none => 0
def lowL (l : List (Rat × Rat)) (s : Rat) : List (Rat × Rat) := l.filter fun p => decide (p.1 < s)
def bookL (l : List (Rat × Rat)) (s r : Rat) : List (Rat × Rat) := if lastR (lowL l s) = r then lowL l s else lowL l s ++ [(s, r)]
theorem atT_snoc (l : List (Rat × Rat)) (p : Rat × Rat) (t : Rat) : atT (l ++ [p]) t = if t < p.1 then atT l t else p.2 := by
  unfold atT; rw [List.foldl_append]; rfl
theorem valD_drop (kvs : List (L2.Key × D)) (k q : L2.Key) : valD (dropKD kvs k) q = if q = k then none else valD kvs q := by
  unfold valD dropKD
  induction kvs with
  | nil => simp
  | cons p l ih =>
    rw [List.filter_cons]
    by_cases c : p.1 = k
    · rw [if_neg (by simp [c]), ih]
      by_cases d : q = k
      · rw [if_pos d, if_pos d]
      · rw [if_neg d, if_neg d, List.find?_cons, decide_eq_false (by rw [c]; exact fun z => d z.symm)]
    · rw [if_pos (by simp [c]), List.find?_cons, List.find?_cons]
      by_cases d : p.1 = q
      · simp only [d, decide_true]
        rw [if_neg (by rw [← d]; exact c)]
      · simp only [d, decide_false]
        exact ih
theorem valD_app (kvs : List (L2.Key × D)) (k q : L2.Key) (v : D) : valD (kvs ++ [(k, v)]) q = if (valD kvs q).isSome then valD kvs q else if q = k then some v else none := by
  unfold valD
  induction kvs with
  | nil => by_cases d : k = q <;> simp [List.find?_cons, d, eq_comm]
  | cons p l ih =>
    rw [List.cons_append, List.find?_cons, List.find?_cons]
    by_cases d : p.1 = q
    · simp [d]
    · simp only [d, decide_false]; exact ih
theorem valD_any (kvs : List (L2.Key × D)) (k : L2.Key) : (kvs.any fun kv => decide (kv.1 = k)) = (valD kvs k).isSome := by
  unfold valD
  induction kvs with
  | nil => rfl
  | cons p l ih =>
    rw [List.any_cons, List.find?_cons]
    by_cases d : p.1 = k
    · simp [d]
    · simp only [d, decide_false, Bool.false_or]; exact ih
theorem valD_put_new {kvs : List (L2.Key × D)} {k : L2.Key} (h : valD kvs k = none) (q : L2.Key) (v : D) : valD (putKD kvs k v) q = if q = k then some v else valD kvs q := by
  unfold putKD
  rw [valD_any, h]
  simp only [Option.isSome_none, Bool.false_eq_true, if_false]
  rw [valD_app]
  by_cases d : q = k
  · subst d; simp [h]
  · simp only [d, if_false]
    cases valD kvs q <;> simp
theorem drop_len (kvs : List (L2.Key × D)) (k : L2.Key) : (dropKD kvs k).length ≤ kvs.length := List.length_filter_le _ _
theorem put_len (kvs : List (L2.Key × D)) (k : L2.Key) (v : D) : (putKD kvs k v).length ≤ kvs.length + 1 := by
  unfold putKD; split <;> simp
structure Bk (S : Store) (n : Nat) (f : Int → List (Rat × Rat)) (c : Nat) : Prop where
  ex : ∃ n1 kvs, S[n]? = some (.obj 34 [(9, .loc n1)]) ∧ S[n1]? = some (.dk kvs) ∧ kvs.length ≤ c ∧ ∀ i : Int, (valD kvs (.inl i) = none ∧ f i = []) ∨ ∃ j, valD kvs (.inl i) = some (.loc j) ∧ S[j]? = some (.lst ((f i).map rowD))
  bt : ∀ i p, p ∈ f i → Bt p.1 64 ∧ Bt p.2 64
  len : ∀ i, (f i).length ≤ c
theorem rowD_pool {l : List (Rat × Rat)} {a b c : Int} (h : l.map rowD = [.int a, .int b, .int c]) : False := by
  cases l with
  | nil => simp at h
  | cons p l => simp [rowD] at h
theorem Bk.fr {S S' : Store} {n p c : Nat} {f : Int → List (Rat × Rat)} (h : Bk S n f c) (P : Pool S p) (F : Fr p S S') : Bk S' n f c := by
  obtain ⟨⟨n1, kvs, h1, h2, h3, h4⟩, h5, h6⟩ := h
  obtain ⟨x, y, z, hP, _⟩ := P
  have get : ∀ {i : Nat} {c : Cell}, S[i]? = some c → c ≠ .lst [.int x, .int y, .int z] → S'[i]? = some c := fun {i c} hi hc => by
    rw [F.2 i (List.getElem?_eq_some_iff.mp hi).1 fun e => hc (by rw [e, hP] at hi; exact (Option.some.inj hi).symm)]
    exact hi
  refine ⟨⟨n1, kvs, get h1 (by simp), get h2 (by simp), h3, fun i => (h4 i).imp id fun ⟨j, a, b⟩ => ⟨j, a, get b fun e => ?_⟩⟩, h5, h6⟩
  injection e with e
  exact rowD_pool e
theorem Bk.app {S : Store} {n c : Nat} {f : Int → List (Rat × Rat)} (h : Bk S n f c) (d : List Cell) : Bk (S ++ d) n f c := by
  obtain ⟨⟨n1, kvs, h1, h2, h3, h4⟩, h5, h6⟩ := h
  have get : ∀ {i : Nat} {c : Cell}, S[i]? = some c → (S ++ d)[i]? = some c := fun {i c} hi => by
    rw [List.getElem?_append_left (List.getElem?_eq_some_iff.mp hi).1]; exact hi
  exact ⟨⟨n1, kvs, get h1, get h2, h3, fun i => (h4 i).imp id fun ⟨j, a, b⟩ => ⟨j, a, get b⟩⟩, h5, h6⟩
theorem number_ok (N : Nat) {i : Int} (h : 0 ≤ i) (S : Store) : m_check_number N [.int i] S = .ok .non S := by
  apply eq_of_w
  rw [m_check_number, wr_fnM, b_check_number]
  have hn : ¬ i < 0 := by omega
  wp_walk using hn
theorem at_w {N : Nat} (hN : big N) {S : Store} {l : List (Rat × Rat)} {t : Rat} {m : Nat} (ht : Bt t m) (hm : m ≤ 8000) (hb : ∀ p, p ∈ l → Bt p.1 64 ∧ Bt p.2 64) {k : KS} {x0 x3 x4 : Option D} {ck : Store → Prop} (hc : ck S) (h : ∀ x3 x4, k.nx [x0, some (rD t), some (rD (atT l t)), x3, x4] S) :
    Ws (fiC ck (gTp 2 (gsCons' (gN 3) (gsCons' (gN 4) gsNil))) (sIf (tNt (tT (eCall (m_is_before N) (nA 2 (aCons (eVar 1) (aCons (eVar 3) aNil)))))) (sSet 2 (eVar 4)) sNop) (l.map rowD) [x0, some (rD t), some (rD 0), x3, x4] S) k := by
  refine forC_w (fun i e S' => S' = S ∧ i ≤ l.length ∧ ∃ x3 x4, e = [x0, some (rD t), some (rD (atT (l.take i) t)), x3, x4]) ⟨rfl, Nat.zero_le _, _, _, rfl⟩ (fun _ _ _ z => z.1 ▸ hc) ?_ ?_
  · rintro i d e S' hd ⟨rfl, hi, y3, y4, rfl⟩
    rw [List.getElem?_map] at hd
    obtain ⟨p, hp, rfl⟩ := Option.map_eq_some_iff.mp hd
    have hpm := List.mem_of_getElem? hp
    have hl : i < l.length := (List.getElem?_eq_some_iff.mp hp).1
    have et : atT (l.take (i + 1)) t = if t < p.1 then atT (l.take i) t else p.2 := by
      rw [List.take_add_one, hp]; exact atT_snoc _ _ _
    unfold rowD
    by_cases c : t < p.1
    · rw [if_pos c] at et
      wp_walk using before_ok (S := S') hN ht (hb p hpm).1 (by omega), c
      exact ⟨hl, _, _, by rw [et]⟩
    · rw [if_neg c] at et
      wp_walk using before_ok (S := S') hN ht (hb p hpm).1 (by omega), c
      exact ⟨hl, _, _, by rw [et]⟩
  · rintro e S' ⟨rfl, _, y3, y4, rfl⟩
    rw [List.length_map, List.take_length]
    exact h _ _
theorem rD_00 : D.tup [.int 0, .int 1] = rD 0 := rfl
theorem rate_at_ok {N : Nat} (hN : big N) {S : Store} {n c m : Nat} {f : Int → List (Rat × Rat)} {i : Int} {t : Rat} (B : Bk S n f c) (h0 : 0 ≤ i) (ht : Bt t m) (hm : m ≤ 8000) (t0 : 0 ≤ t) : m_Bookings_rate_at N [.loc n, .int i, rD t] S = .ok (rD (atT (f i) t)) S := by
  obtain ⟨⟨n1, kvs, h1, h2, h3, h4⟩, h5, h6⟩ := B
  apply eq_of_w
  rw [m_Bookings_rate_at, wr_fnM, b_Bookings_rate_at]
  have hf : fldD [34, 45] 9 S (.loc n) = some (.loc n1) := by rw [fldD_loc h1]; rfl
  wp_walk using number_ok N h0, ctime_ok (S := S) hN ht (by omega) t0, hf, dkD_s h2, dgR_s h2 (keyD_int _)
  rw [m_at_time, wr_fnM, b_at_time]
  rcases h4 i with ⟨e1, e2⟩ | ⟨j, e1, e2⟩
  · wp_walk using e1, Option.getD_none
    rw [rD_00, fiC_nil (by trivial), e2]
    wp_walk using wr_ok
    rfl
  · wp_walk using e1, Option.getD_some, celQ_loc e2
    rw [rD_00]
    refine at_w hN ht hm (h5 i) e2 fun x3 x4 => ?_
    wp_walk using wr_ok
theorem atI_last (l : List D) (d : D) : L2.atI (l ++ [d]) (-1) = some d := by
  unfold L2.atI L2.ixN
  have h1 : ¬ (0 : Int) ≤ -1 := by omega
  simp only [List.length_append, List.length_cons, List.length_nil]
  have e : ((-1 : Int) + ((l.length + 1 : Nat) : Int)).toNat = l.length := by omega
  rw [if_neg h1]
  first
    | rw [if_pos (by omega)]
    | skip
  simp only [e]
  simp
def bookTail : SM := (sSeq (sIf (tB (eBin dNe (eIf (tT (eVar 4)) (eBinS ixD (eBinS ixD (eVar 4) (eNeg (eC (.int 1)))) (eC (.int 1))) (eC (.tup [.int 0, .int 1]))) (eVar 3))) (sDrop (eApp (eVar 4) (aCons (eTup (aCons (eVar 2) (aCons (eVar 3) aNil))) aNil))) sNop)
    (sIf (tT (eVar 4)) (sAsg (eVar 4) (gSbE (eFld [34, 45] 9 (eVar 0)) (eVar 1))) sNop))
theorem low_mem {l : List (Rat × Rat)} {s : Rat} {p : Rat × Rat} (h : p ∈ lowL l s) : p ∈ l := (List.mem_filter.mp h).1
theorem low_len (l : List (Rat × Rat)) (s : Rat) : (lowL l s).length ≤ l.length := List.length_filter_le _ _
theorem book_mem {l : List (Rat × Rat)} {s r : Rat} {p : Rat × Rat} (h : p ∈ bookL l s r) : p ∈ l ∨ p = (s, r) := by
  unfold bookL at h
  split at h
  · exact .inl (low_mem h)
  · rcases List.mem_append.mp h with h | h
    · exact .inl (low_mem h)
    · exact .inr (by simpa using h)
theorem book_len (l : List (Rat × Rat)) (s r : Rat) : (bookL l s r).length ≤ l.length + 1 := by
  have := low_len l s
  unfold bookL
  split
  · omega
  · rw [List.length_append]; simp; omega
theorem truD_loc {S : Store} {i : Nat} {l : List D} (h : S[i]? = some (.lst l)) : truD S (.loc i) = some (!l.isEmpty) := by unfold truD; simp only [h]
theorem tail_w {S S1 : Store} {n c n1 : Nat} {f : Int → List (Rat × Rat)} {i : Int} {s r : Rat} {kvs kvs1 : List (L2.Key × D)} {Q X : QP D} {x5 : Option D} (hc : c ≤ 500) (hs : Bt s 64) (hr : Bt r 64) (hbt : ∀ i p, p ∈ f i → Bt p.1 64 ∧ Bt p.2 64) (hlen : ∀ i, (f i).length ≤ c)
    (h4 : ∀ i : Int, (valD kvs (.inl i) = none ∧ f i = []) ∨ ∃ j, valD kvs (.inl i) = some (.loc j) ∧ S[j]? = some (.lst ((f i).map rowD)))
    (g1 : S1[n]? = some (.obj 34 [(9, .loc n1)])) (g2 : S1[n1]? = some (.dk kvs1)) (g3 : kvs1.length ≤ c) (g4 : ∀ k : Int, valD kvs1 (.inl k) = if k = i then none else valD kvs (.inl k))
    (g5 : ∀ (j : Nat) (l : List D), S[j]? = some (Cell.lst l) → S1[j]? = some (Cell.lst l))
    (h : ∀ S', Bk S' n (fun k => if k = i then bookL (f i) s r else f k) (c + 1) → (∀ p, Pool S1 p → Pool S' p) → Q .non S') :
    Ws (bookTail [some (.loc n), some (.int i), some (rD s), some (rD r), some (.loc S1.length), x5] (S1 ++ [.lst ((lowL (f i) s).map rowD)])) (KS.fn Q X) := by
  have len1 : ∀ {j : Nat} {c : Cell}, S1[j]? = some c → j < S1.length := fun hj => (List.getElem?_eq_some_iff.mp hj).1
  have getA : ∀ (d : Cell) {j : Nat} {c : Cell}, S1[j]? = some c → (S1 ++ [d])[j]? = some c := fun d j c hj => by rw [List.getElem?_append_left (len1 hj)]; exact hj
  have last : ∀ d : Cell, (S1 ++ [d])[S1.length]? = some d := fun d => by simp
  have hbt' : ∀ k p, p ∈ (if k = i then bookL (f i) s r else f k) → Bt p.1 64 ∧ Bt p.2 64 := fun k p hp => by
    split at hp
    · rcases book_mem hp with hp | rfl
      · exact hbt _ _ hp
      · exact ⟨hs, hr⟩
    · exact hbt _ _ hp
  have hlen' : ∀ k, (if k = i then bookL (f i) s r else f k).length ≤ c + 1 := fun k => by
    split
    · have := book_len (f i) s r; have := hlen i; omega
    · have := hlen k; omega
  have poolA : ∀ d p, Pool S1 p → Pool (S1 ++ [d]) p := fun d p P => P.app [d]
  have store : ∀ S', S' = (S1 ++ [Cell.lst ((bookL (f i) s r).map rowD)]).set n1 (.dk (putKD kvs1 (.inl i) (.loc S1.length))) → Q .non S' := by
    rintro S' rfl
    have n1l := len1 g2
    have nn : n1 ≠ n := fun e => by rw [e, g1] at g2; cases g2
    refine h _ ⟨⟨n1, _, ?_, List.getElem?_set_self (by simp; omega), Nat.le_trans (put_len _ _ _) (by omega), fun k => ?_⟩, hbt', hlen'⟩ fun p P => ?_
    · rw [List.getElem?_set_ne nn]; exact getA _ g1
    · rw [valD_put_new (by rw [g4, if_pos rfl])]
      by_cases e : k = i
      · subst e
        refine .inr ⟨S1.length, by simp, ?_⟩
        rw [List.getElem?_set_ne (by omega), if_pos rfl]; exact last _
      · have e' : (Sum.inl k : L2.Key) ≠ .inl i := fun z => e (Sum.inl.inj z)
        simp only [e', if_false, e, g4]
        refine (h4 k).imp id fun ⟨j, a, b⟩ => ⟨j, a, ?_⟩
        have b1 := g5 _ _ b
        rw [List.getElem?_set_ne (fun z => by rw [z, b1] at g2; cases g2)]
        exact getA _ b1
    · have P' := poolA (.lst ((bookL (f i) s r).map rowD)) p P
      refine P'.set _ fun z => ?_
      obtain ⟨a, b, c', hP, _⟩ := P
      rw [← z, g2] at hP; cases hP
  have hf : ∀ d, fldD [34, 45] 9 (S1 ++ [d]) (.loc n) = some (.loc n1) := fun d => by rw [fldD_loc (getA d g1)]; rfl
  have hse : ∀ d, setE (S1 ++ [d]) (.loc n1) (.int i) (.loc S1.length) = some ((S1 ++ [d]).set n1 (.dk (putKD kvs1 (.inl i) (.loc S1.length)))) := fun d => setE_s (getA d g2) rfl (by rw [sizeLine_eq]; omega)
  have hll := low_len (f i) s
  have hle := hlen i
  have sz : ((lowL (f i) s).map rowD).length < sizeLine := by rw [sizeLine_eq, List.length_map]; omega
  unfold bookTail
  rcases List.eq_nil_or_concat (lowL (f i) s) with e | ⟨m, p, e⟩
  · have lr : lastR (lowL (f i) s) = 0 := by rw [e]; rfl
    rw [e] at sz
    have em : ([] : List (Rat × Rat)).map rowD = [] := rfl
    rw [em] at sz
    rw [e, em, rD_00]
    by_cases c0 : (0 : Rat) = r
    · have eb : bookL (f i) s r = [] := by unfold bookL; rw [lr, if_pos c0, e]
      wp_walk using truD_loc (last _), List.isEmpty_nil, c0
      refine h _ ⟨⟨n1, kvs1, getA _ g1, getA _ g2, by omega, fun k => ?_⟩, hbt', hlen'⟩ (poolA _)
      by_cases ek : k = i
      · subst ek
        exact .inl ⟨by rw [g4, if_pos rfl], by rw [if_pos rfl]; exact eb⟩
      · rw [g4, if_neg ek, if_neg ek]
        exact (h4 k).imp id fun ⟨j, a, b⟩ => ⟨j, a, getA _ (g5 _ _ b)⟩
    · have eb : bookL (f i) s r = [(s, r)] := by unfold bookL; rw [lr, if_neg c0, e]; rfl
      wp_walk using truD_loc (last _), List.isEmpty_nil, List.isEmpty_cons, c0, isLst_loc (last _), appR_loc (last _) sz, List.set_append_right, Nat.le_refl, Nat.sub_self, hf, hse
      refine store _ ?_
      rw [eb]; rfl
  · rw [List.concat_eq_append] at e
    have lr : lastR (lowL (f i) s) = p.2 := by rw [e]; unfold lastR; rw [List.getLast?_concat]
    rw [e] at sz
    have em : (m ++ [p]).map rowD = m.map rowD ++ [rowD p] := by rw [List.map_append]; rfl
    rw [em] at sz
    rw [e, em]
    have hix : ∀ S', S'[S1.length]? = some (.lst (m.map rowD ++ [rowD p])) → ixD S' (.loc S1.length) (.int (-1)) = some (rowD p) := fun S' hS => by
      rw [ixD_loc _ hS]
      exact atI_last _ _
    have hix2 : ∀ S', ixD S' (rowD p) (.int 1) = some (rD p.2) := fun _ => rfl
    have hne : ∀ (l : List D) (d : D), (l ++ [d]).isEmpty = false := fun l d => by cases l <;> rfl
    by_cases c0 : p.2 = r
    · have eb : bookL (f i) s r = m ++ [p] := by unfold bookL; rw [lr, if_pos c0, e]
      wp_walk using truD_loc (last _), hne, hix _ (last _), hix2, c0, hf, hse
      refine store _ ?_
      rw [eb, em]
    · have eb : bookL (f i) s r = (m ++ [p]) ++ [(s, r)] := by unfold bookL; rw [lr, if_neg c0, e]
      wp_walk using truD_loc (last _), hne, hix _ (last _), hix2, c0, isLst_loc (last _), appR_loc (last _) sz, List.set_append_right, Nat.le_refl, Nat.sub_self, hf, hse
      refine store _ ?_
      rw [eb, List.map_append, em]; rfl
theorem book_w {N : Nat} (hN : big N) {S : Store} {n c : Nat} {f : Int → List (Rat × Rat)} {i : Int} {s r : Rat} {Q X : QP D} (B : Bk S n f c) (hc : c ≤ 500) (h0 : 0 ≤ i) (hs : Bt s 64) (hr : Bt r 64) (s0 : 0 ≤ s) (r0 : 0 ≤ r) (r1 : r ≤ 1)
    (h : ∀ S', Bk S' n (fun k => if k = i then bookL (f i) s r else f k) (c + 1) → (∀ p, Pool S p → Pool S' p) → Q .non S') : Wr (m_Bookings_book N [.loc n, .int i, rD s, rD r] S) Q X := by
  obtain ⟨⟨n1, kvs, h1, h2, h3, h4⟩, h5, h6⟩ := B
  have hf : fldD [34, 45] 9 S (.loc n) = some (.loc n1) := by rw [fldD_loc h1]; rfl
  have rn : 0 ≤ r.num := Rat.num_nonneg.mpr r0
  have chk : ∀ {k : KS} {e : En}, e[3]? = some (some (rD r)) → k.nx e S → Ws (sIf (tOr' (tAn (tB (eBin dNe (eVar 3) (eC (.tup [.int 0, .int 1])))) (tNt (tT (eCall (m_is_rate N) (nA 1 (aCons (eVar 3) aNil)))))) (tNt (tT (eCall (m_is_time N) (nA 1 (aCons (eVar 3) aNil)))))) sStk sNop e S) k := by
    intro k e he hk
    rw [rD_00]
    by_cases z : r = 0
    · subst z
      wp_walk using he, time_ok (S := S) hN hr (by omega), rn
      exact hk
    · have e2 : 0 < r ∧ r ≤ 1 := ⟨by grind, r1⟩
      wp_walk using he, z, time_ok (S := S) hN hr (by omega), rn, rate_ok (S := S) hN hr (by omega), e2
      exact hk
  rw [m_Bookings_book, wr_fnM]
  show Ws (sSeq _ (sSeq _ (sSeq _ (sSeq _ bookTail))) _ _) _
  (try simp only [wr_ok, wr_exc, wr_lf, wr_eC, evQ_some, wr_eVar, cB2_s, cB1_s, wr_eBin, cS2_s, cS1_s, wr_eBinS, asQ_bl, wr_tB, truQ_s, wr_tT, notQ_s, wr_tNt, anQ_t, anQ_f, wr_tAn, orQ_t, orQ_f, wr_tOr, eaB_t, eaB_f, eaQ_s, wr_eAn, eoB_t, eoB_f, eoQ_s, wr_eOr, enB_s, enQ_s, wr_eNt, eiQ_t, eiQ_f, wr_eIf, negQ_int, wr_eNeg, wr_aNil, cC2_s, cC1_s, wr_aCons, tupQ_s, lstQ_s, newQ_s, wr_eTup, wr_eLst, wr_eNew, caQ_s, wr_eCa, clQ_s, wr_eCall, nAQ_s, wr_nA, tyQ_s, wr_eIsTy, icQ_s, wr_eIsC, mt2_s, mt1_s, wr_eMt, wr_oNone, oQ_int, wr_oSome, sl3_s, sl2_s, sl1_s, wr_eSl, kk2_s, kk1_s, wr_eCallK, kk0_s, wr_eCallK0, wr_gN, sb3_s, sb2_s, sb1_s, wr_gSb, wr_gsNil, gs1_s, wr_gsCons, wr_gTp, wr_gTp_rD, xe_s, sq_nx, sq_rt, sq_bk, sq_ct, sq_ex, sq_xe, ws_nxt, ws_sNop, ws_sSeq, ws_sBrk, ws_sCnt, dropQ_s, ws_sDrop, ws_sRet, ws_sRetN, ifQ_t, ifQ_f, asg1_s, ws_sAsg, setQ_s, ws_sSet, parQ_s, ws_sPar, ws_sRaise, fn_nx, fn_rt, fn_ex, fn_xe, su_nx, su_bk, su_ct, su_rt, trQ_t, trQ_f, tr_nx, tr_rt, tr_bk, tr_ct, tr_ex, ws_sTry, forQ_s, ws_sFor, lp_nx, lp_rt, lp_bk, lp_ct, lp_ex, lp_xe, ws_fi_nil, bodyQ_s, mid_nx, mid_rt, mid_bk, mid_ct, mid_ex, mid_xe, lc2_s, lc1_s, wr_eLc, lcn2_s, lcn1_s, wr_eLcN, wipe_nil, wipe_cons, wr_tTrue, wr_lc_nil, tgQ_some, ly_s, lt1_t, lt1_f, lg_s, eqQ_s, exQ_s, seqQ_tup, seqQ_lst, seqQ_scr, seqQ_rD, wr_iSeq, rgQ_int, wr_iRg1, rgQ2_int, wr_iRg2, ch3_t, ch3_f, ch2_s, ch1_s, wr_eChain, flQ_s, wr_eFld, fldD_ins, stQ_s, sf2_s, sf1_s, ws_sFldM, mkQ2_s, mkQ1_s, wr_eMk, wr_eMk0, ap2_s, ap1_s, wr_eApp, zpQ_s, wr_iZip, zipR_tup, zipR_lst, srQ_s, wr_iStrM, strR_s, ioQ_s, wr_eIsO, dAddS_int, wr_gStr_tup, wr_gStr_lst, fTuple_lst, fTuple_tup, List.take_succ_cons, List.take_zero, List.drop_succ_cons, List.drop_zero, List.getElem?_cons_zero, List.getElem?_cons_succ, List.set_cons_zero, List.set_cons_succ, List.map_cons, List.map_nil, List.length_cons, List.length_nil, List.cons_append, List.nil_append, List.replicate_succ, List.replicate_zero, List.append_nil, true_and, and_true, and_self, if_true, ite_true, if_false, ite_false, Bool.false_eq_true, Bool.not_true, Bool.not_false, Bool.not_not, decide_true, decide_false, decide_eq_true_eq, not_false_eq_true, not_true_eq_false, reduceCtorEq, sizeLine_eq, Option.map_some, Option.some.injEq, Nat.reduceSub, Nat.reduceAdd, Nat.reduceLeDiff, Nat.reduceEqDiff, Nat.zero_add, Nat.reduceBEq, List.contains_cons, List.contains_nil, beq_self_eq_true, Bool.true_or, Bool.or_true, Bool.false_or, Bool.or_false, List.lookup_cons, List.lookup_nil, Int.reduceEq, Int.reduceNe, Int.reduceLT, Int.reduceLE, Int.reduceNeg, Int.reduceAdd, Int.reduceSub, Int.cast_ofNat_Int, ne_eq, cmpI_s, dGt, dGe, dLt, dLe, dAdd_int, dSub_int, dEq_int, dNe_int, dEq_bl, dNe_bl, truD_bl, isTy_int, isTy_bl, isTy_tup, fLen_tup, fLen_scr, fLen_lst, fAbs_int, fMax_int, fMin_int, ixD_tup, ixD_lst, ixD_scr, isTy_rD, fLen_rD, ix_rD0, ix_rD1, dEq_rD, dNe_rD, dIs_rD, dIsNot_rD, Tn.is, me3_s, me2_s, me1_s, wr_eMeth, mk2_s, mk1_s, wr_eMethK, m01_s, wr_eMeth0, wr_eNewD, dg3_s, dg2_s, dg1_s, wr_eDGet2, dh2_s, dh1_s, wr_eDGet1, dp3_s, dp2_s, dp1_s, wr_eDPop2, dq2_s, dq1_s, wr_eDPop1, se2_s, se1_s, wr_gSbE, ssQ_s, wr_eSortSet, an2_s, an1_s, wr_eAddN, celQ_tup, celQ_lst, celQ_scr, wr_iCel, forcQ_s, ws_sForC, lcc1_s, wr_eLcC, lcd1_s, wr_eLcCN, keyD_int, keyD_str, Option.isSome_some, number_ok N h0, ctime_ok (S := S) hN hs (by omega) s0])
  refine chk rfl ?_
  wp_walk using hf, dkD_s h2
  rcases h4 i with ⟨e1, e2⟩ | ⟨j, e1, e2⟩
  · wp_walk using dpR_none h2 (keyD_int _) e1
    rw [lcC_nil (by trivial)]
    wp_walk using wr_ok
    have t := tail_w (S := S) (S1 := S) (n := n) (n1 := n1) (f := f) (i := i) (s := s) (r := r) (kvs := kvs) (kvs1 := kvs) (Q := Q) (X := X) (x5 := none) hc hs hr h5 h6 h4 h1 h2 h3 (fun k => by
      split
      · rename_i z; rw [z]; exact e1
      · rfl) (fun _ _ z => z) h
    rw [e2] at t
    exact t
  · have jn : n1 ≠ j := fun z => by rw [z, e2] at h2; cases h2
    have nn : n1 ≠ n := fun z => by rw [z, h1] at h2; cases h2
    have n1l := (List.getElem?_eq_some_iff.mp h2).1
    have e2' : (S.set n1 (.dk (dropKD kvs (.inl i))))[j]? = some (.lst ((f i).map rowD)) := by rw [List.getElem?_set_ne jn]; exact e2
    wp_walk using dpR_some h2 (keyD_int _) e1, celQ_loc e2'
    generalize hS1 : S.set n1 (.dk (dropKD kvs (.inl i))) = S1 at e2'
    have t := tail_w (S := S) (S1 := S1) (n := n) (n1 := n1) (f := f) (i := i) (s := s) (r := r) (kvs := kvs) (kvs1 := dropKD kvs (.inl i)) (Q := Q) (X := X) (x5 := none) hc hs hr h5 h6 h4 (by rw [← hS1, List.getElem?_set_ne nn]; exact h1) (by rw [← hS1]; exact List.getElem?_set_self n1l) (Nat.le_trans (drop_len _ _) h3) (fun k => by
      rw [valD_drop]
      by_cases z : k = i
      · subst z; simp
      · rw [if_neg fun q => z (Sum.inl.inj q), if_neg z]) (fun q l hq => by
      rw [← hS1, List.getElem?_set_ne fun z => by rw [z, hq] at h2; cases h2]; exact hq) (fun S' b p => h S' b fun q P => p q (by
      rw [← hS1]
      refine P.set _ fun z => ?_
      obtain ⟨x, y, w, hP, _⟩ := P
      rw [← z, h2] at hP; cases hP))
    refine lcC_w (fun q acc S' => S' = S1 ∧ q ≤ (f i).length ∧ acc = (lowL ((f i).take q) s).map rowD) ⟨rfl, Nat.zero_le _, rfl⟩ (fun _ _ _ z => by rw [z.1]; exact e2') ?_ ?_
    · rintro q d acc S' hd ⟨rfl, hq, rfl⟩
      rw [List.getElem?_map] at hd
      obtain ⟨p, hp, rfl⟩ := Option.map_eq_some_iff.mp hd
      have hpm := List.mem_of_getElem? hp
      have hl : q < (f i).length := (List.getElem?_eq_some_iff.mp hp).1
      have et : lowL ((f i).take (q + 1)) s = lowL ((f i).take q) s ++ (if p.1 < s then [p] else []) := by
        rw [List.take_add_one, hp]
        unfold lowL
        rw [List.filter_append]
        congr 1
        by_cases c : p.1 < s
        · simp [c]
        · simp [c]
      have hix : ∀ S', ixD S' (rowD p) (.int 0) = some (rD p.1) := fun _ => rfl
      have sz : ((lowL ((f i).take q) s).map rowD).length < sizeLine := by
        have a1 := low_len ((f i).take q) s
        have a2 : ((f i).take q).length ≤ (f i).length := by rw [List.length_take]; omega
        have a3 := h6 i
        rw [sizeLine_eq, List.length_map]; omega
      have tm : Tg.m (.nm 5) (rowD p) [some (.loc n), some (.int i), some (rD s), some (rD r), none, none] = some [some (.loc n), some (.int i), some (rD s), some (rD r), none, some (rowD p)] := rfl
      by_cases c : p.1 < s
      · rw [if_pos c] at et
        wp_walk using tm, hix, before_ok (S := S') hN (h5 i p hpm).1 hs (by omega), c
        exact ⟨sz, hl, by rw [et, List.map_append]; rfl⟩
      · rw [if_neg c, List.append_nil] at et
        wp_walk using tm, hix, before_ok (S := S') hN (h5 i p hpm).1 hs (by omega), c
        exact ⟨hl, by rw [et]⟩
    · rintro acc S' ⟨rfl, _, rfl⟩
      rw [List.length_map, List.take_length]
      wp_walk using wr_ok
      exact t
abbrev Rw := Int × Rat × Rat
def lawT (l : List Rw) (i : Int) (t : Rat) : Rat := l.foldl (fun f p => if p.1 = i ∧ ¬ t < p.2.1 then p.2.2 else f) 0
end
end C
namespace G
open PySem
section
variable {Q X : QP D} {e : En} {S S1 : Store} {a b c o : EM} {ms : List EM} {x y d : D}
def fmQ (Q X : QP D) : QP D := fun x S => Wr (lf (fmtD x) S) Q X
theorem fmQ_s : fmQ Q X x S = Wr (lf (fmtD x) S) Q X := rfl
theorem wr_eFmt : Wr (eFmt a e S) Q X = Wr (a e S) (fmQ Q X) X := by
  unfold eFmt; rw [wr_bind]; rfl
def jsQ (ms : List EM) (acc : Str) (e : En) (Q X : QP D) : QP D := fun x S => match x with
  | .str y => (acc ++ y).length ≤ sizeLine ∧ Wr (jsM ms (acc ++ y) e S) Q X
  | _ => False
theorem jsQ_str (acc y : Str) : jsQ ms acc e Q X (.str y) S = ((acc ++ y).length ≤ sizeLine ∧ Wr (jsM ms (acc ++ y) e S) Q X) := rfl
theorem wr_js_nil (acc : Str) : Wr (jsM [] acc e S) Q X = Q (.str acc) S := rfl
theorem wr_js_cons (acc : Str) : Wr (jsM (a :: ms) acc e S) Q X = Wr (a e S) (jsQ ms acc e Q X) X := by
  unfold jsM; rw [wr_bind]; congr; funext x S1
  cases x with
  | str y => show Wr (if _ then _ else _) _ _ = _; rw [wr_guard]; rfl
  | _ => rfl
theorem wr_eJs : Wr (eJs ms e S) Q X = Wr (jsM ms Str.empty e S) Q X := rfl
def s4Q (Q : QP D) : QP D := fun y S => match y with
  | .str t => Q (.str t) S
  | _ => False
theorem s4Q_str (t : Str) : s4Q Q (.str t) S = Q (.str t) S := rfl
theorem wr_strOf {r : Res D} : Wr (strOf r) Q X = Wr r (s4Q Q) X := by
  unfold strOf; rw [wr_bind]; congr; funext y S1; cases y <;> rfl
def soQ (cn : Nat) (f : FM) (gD : List D → List D → List D) (Q X : QP D) : QP D := fun x S => isCn cn S x = true ∧ Wr (f (gD [x] []) S) (s4Q Q) X
theorem soQ_s (cn : Nat) (f : FM) (gD : List D → List D → List D) : soQ cn f gD Q X x S = (isCn cn S x = true ∧ Wr (f (gD [x] []) S) (s4Q Q) X) := rfl
theorem wr_eStrO (cn : Nat) (f : FM) (gD : List D → List D → List D) : Wr (eStrO cn f gD a e S) Q X = Wr (a e S) (soQ cn f gD Q X) X := by
  unfold eStrO aCons aNil
  rw [wr_bind, wr_bind]
  congr; funext x S1
  show Wr (if isCn cn S1 x = true then strOf (f (gD [x] []) S1) else .stuck) Q X = _
  rw [wr_guard, wr_strOf]; rfl
theorem dAddE_0 (m : List D) : dAddE S (.tup []) (.tup m) = some (.tup m) := rfl
end
end G
namespace G
open PySem
section
variable {Q X : QP D} {QB : QP Bool} {QL : QP (List D)} {QE : QP En} {k : KS} {e : En} {S S1 : Store} {a b c o : EM} {t u : TM} {m n : SM} {am mk : AM} {x y d : D} {z : Bool} {xs ds zs : List D}
theorem wr_eCallV (i f nN : Nat) (cp : List (Option D)) (fk : FM) : Wr (eCallV i f nN cp fk am e S) Q X = ((e[i]? = some (some (.fa f)) ∧ e.drop nN = cp) ∧ Wr (am e S) (clQ fk Q X) X) := by
  unfold eCallV; split
  · rename_i h; simp only [h, wr_bind, and_self, true_and]; rfl
  · rename_i h; simp only [h, false_and]; rfl
theorem wr_fnH (i : Nat) (cp : List (Option D)) (ds : List D) : Wr (fnH i cp m ds S) Q X = Ws (m (ds.map some ++ List.replicate (i - ds.length) none ++ cp) S) (KS.fn Q X) := by
  unfold fnH
  show _ = Ws (m (enOf i ds ++ cp) S) _
  cases m (enOf i ds ++ cp) S <;> rfl
def chQ (g : Nat → List (Option D) → FM → FM) (js : List Nat) (fkM : En → FM) (tb : Store → Bool) (i : Nat) (e : En) (Q X : QP D) : QP (List D) := fun ds S => (tb S = true ∧ ds.length = i) ∧ Wr (uniR (fun q : Nat × { vs : List L2.V // vs.length = js.length } => g q.1 (cpOf js e q.2.1) (fkM e) (ds ++ [.fa q.1]) S)) Q X
theorem chQ_s (g : Nat → List (Option D) → FM → FM) (js : List Nat) (fkM : En → FM) (tb : Store → Bool) (i : Nat) : chQ g js fkM tb i e Q X ds S = ((tb S = true ∧ ds.length = i) ∧ Wr (uniR (fun q : Nat × { vs : List L2.V // vs.length = js.length } => g q.1 (cpOf js e q.2.1) (fkM e) (ds ++ [.fa q.1]) S)) Q X) := rfl
theorem wr_eCallH (g : Nat → List (Option D) → FM → FM) (js : List Nat) (fkM : En → FM) (tb : Store → Bool) (i : Nat) : Wr (eCallH g js fkM tb i am e S) Q X = Wr (am e S) (chQ g js fkM tb i e Q X) X := by
  unfold eCallH; rw [wr_bind]; congr; funext ds S1; rw [wr_guard]; rfl
theorem uni_w {α : Type} [Inhabited α] {F : α → Res D} (r : Res D) (h : ∀ q, F q = r) (hw : Wr r Q X) : Wr (uniR F) Q X := by rw [uniR_ok h]; exact hw
theorem wr_lamF (js : List Nat) (np : Nat) (e' : En) : Wr (lamF js np a e' ds S) Q X = (ds.length = np ∧ Wr (a (ds.map some ++ js.map fun j => oj e'[j]?) S) Q X) := by
  unfold lamF; rw [wr_guard]
theorem oj_s : oj (some (some d)) = some d := rfl
def enuQ (Q : QP (List D)) (X : QP D) : QP (List D) := fun ds S => Wr (enR ds S) Q X
theorem enuQ_s : enuQ QL X ds S = Wr (enR ds S) QL X := rfl
theorem wr_iEnum : Wr (iEnum am e S) QL X = Wr (am e S) (enuQ QL X) X := by unfold iEnum; rw [wr_bind]; rfl
theorem enR_tup (l : List D) : enR [.tup l] S = .ok (enumD l) S := rfl
theorem enR_lst (l : List D) : enR [.lst l] S = .ok (enumD l) S := rfl
def lrQ (Q : QP D) : QP D := fun d S => match d with
  | .int i => lrOk i ∧ Q (.lst (rangeD 0 i.toNat)) S
  | _ => False
theorem lrQ_int (i : Int) : lrQ Q (.int i) S = (lrOk i ∧ Q (.lst (rangeD 0 i.toNat)) S) := propext Iff.rfl
theorem wr_eLr : Wr (eLr a e S) Q X = Wr (a e S) (lrQ Q) X := by
  unfold eLr; rw [wr_bind]; congr; funext d S1; rw [wr_bind]
  cases d with
  | int i =>
    unfold lrR
    dsimp only
    split
    · rename_i h; rw [lrQ_int]; simp only [h, true_and]; rfl
    · rename_i h; rw [lrQ_int]; simp only [h, false_and]; rfl
  | _ => rfl
def lrnQ (Q : QP D) : QP D := fun d S => match d with
  | .int i => lrOk i ∧ Q (.loc S.length) (S ++ [.lst (rangeD 0 i.toNat)])
  | _ => False
theorem lrnQ_int (i : Int) : lrnQ Q (.int i) S = (lrOk i ∧ Q (.loc S.length) (S ++ [.lst (rangeD 0 i.toNat)])) := propext Iff.rfl
theorem wr_eLrN : Wr (eLrN a e S) Q X = Wr (a e S) (lrnQ Q) X := by
  unfold eLrN; rw [wr_bind]; congr; funext d S1; rw [wr_bind]
  cases d with
  | int i =>
    unfold lrR
    dsimp only
    split
    · rename_i h; rw [lrnQ_int]; simp only [h, true_and]; rfl
    · rename_i h; rw [lrnQ_int]; simp only [h, false_and]; rfl
  | _ => rfl
def agQ (i : Nat) (x : D) (e : En) (k : KS) : QP D := fun y S => Ws (augR i e x y S) k
theorem agQ_s (i : Nat) : agQ i x e k y S = Ws (augR i e x y S) k := rfl
def auP (o : Option (Option D)) (i : Nat) (a : EM) (e : En) (S : Store) (k : KS) : Prop := match o with
  | some (some x) => Wr (a e S) (agQ i x e k) (k.xe e)
  | _ => False
theorem auP_s (i : Nat) : auP (some (some x)) i a e S k = Wr (a e S) (agQ i x e k) (k.xe e) := rfl
theorem ws_sAug (i : Nat) : Ws (sAug i a e S) k = auP e[i]? i a e S k := by
  unfold sAug auP
  cases e[i]? with
  | none => rfl
  | some q => cases q with
    | none => rfl
    | some x => dsimp only; rw [ws_sE]; rfl
theorem augR_int (i : Nat) (p q : Int) : augR i e (.int p) (.int q) S = .nxt (e.set i (some (.int (p + q)))) S := rfl
def pp2 (x : D) (Q X : QP D) : QP (List D) := fun xs S => Wr (popR x xs S) Q X
def pp1 (am : AM) (e : En) (Q X : QP D) : QP D := fun x S => isLst S x = true ∧ Wr (am e S) (pp2 x Q X) X
theorem pp2_s : pp2 x Q X xs S = Wr (popR x xs S) Q X := rfl
theorem pp1_s : pp1 am e Q X x S = (isLst S x = true ∧ Wr (am e S) (pp2 x Q X) X) := rfl
theorem wr_ePop : Wr (ePop a am e S) Q X = Wr (a e S) (pp1 am e Q X) X := by
  unfold ePop; rw [wr_bind]; congr; funext x S1; rw [wr_guard, wr_bind]; rfl
def Cmp (d : D) : Prop := ∃ p, d.toP = some p ∧ p.canLay0 = true ∧ p.depth ≤ 60
theorem cmp_str {x : Str} (h : PyData.canLay0 (.str x) = true) : Cmp (.str x) := ⟨_, rfl, h, Nat.le_of_ble_eq_true rfl⟩
theorem toPs_ok : ∀ l : List D, (∀ d, d ∈ l → Cmp d) → ∃ ps, toPs l = some ps ∧ PyData.canLayAll0 ps = true ∧ PyData.depthAll ps ≤ 60 ∧ (ps = [] ↔ l = []) := by
  intro l
  induction l with
  | nil => exact fun _ => ⟨[], rfl, rfl, Nat.zero_le _, by simp⟩
  | cons d l ih =>
    intro h
    obtain ⟨p, h1, h2, h3⟩ := h d (by simp)
    obtain ⟨ps, g1, g2, g3, _⟩ := ih fun d hd => h d (by simp [hd])
    refine ⟨p :: ps, by unfold toPs; rw [h1, g1], by unfold PyData.canLayAll0; rw [h2, g2]; rfl, ?_, by simp⟩
    simp only [PyData.depthAll]; omega
mutual
theorem eqv_self : ∀ p : PyData, p.canLay0 = true → PyData.eqv p p = true
  | .none, _ => rfl
  | .bool b, _ => by simp [PyData.eqv]
  | .int i, _ => by simp [PyData.eqv]
  | .str x, _ => by simp [PyData.eqv]
  | .list xs, h => by rw [PyData.eqv]; exact eqvs_self xs (by simpa [PyData.canLay0] using h)
  | .tuple xs, h => by rw [PyData.eqv]; exact eqvs_self xs (by simpa [PyData.canLay0] using h)
  | .dict _, h => by simp [PyData.canLay0] at h
theorem eqvs_self : ∀ ps : List PyData, PyData.canLayAll0 ps = true → PyData.eqvAll ps ps = true
  | [], _ => rfl
  | p :: ps, h => by
    have k : p.canLay0 = true ∧ PyData.canLayAll0 ps = true := by simpa [PyData.canLayAll0] using h
    rw [PyData.eqvAll, eqv_self p k.1, eqvs_self ps k.2]; rfl
end
theorem eqP_same {l : List D} (h : ∀ d, d ∈ l → Cmp d) : eqP (.lst l) (.lst l) = some true := by
  obtain ⟨ps, h1, h2, h3, h4⟩ := toPs_ok l h
  have e1 : (D.lst l).toP = some (.list ps) := by unfold D.toP; rw [h1]; rfl
  have s0 : PyData.canLay0 (.list ps) = true := by simpa [PyData.canLay0] using h2
  have s1 : SeqAt.shaped (.list ps) = true := by
    unfold SeqAt.shaped
    rw [Bool.and_eq_true, decide_eq_true_eq]
    exact ⟨s0, by simp only [PyData.depth]; omega⟩
  unfold eqP
  rw [e1]
  dsimp only
  rw [s1]
  simp only [Bool.and_self, if_true]
  rw [eqv_self _ s0]
theorem wr_gSq_tup (i : Nat) (r : GMs) (l : List D) : Wr (gSq i r (.tup l) e S) QE X = (l.length = i ∧ Wr (r l e S) QE X) := by
  show Wr (if l.length = i then _ else _) QE X = _
  rw [wr_guard]
theorem wr_gSq_lst (i : Nat) (r : GMs) (l : List D) : Wr (gSq i r (.lst l) e S) QE X = (l.length = i ∧ Wr (r l e S) QE X) := by
  show Wr (if l.length = i then _ else _) QE X = _
  rw [wr_guard]
theorem tbS_of {i : Nat} {p : Str × Option Str} {q : Str} (h : S[i]? = some (.tbl p q)) : tbS i p q S = true := by
  unfold tbS; rw [h]; simp
end
end G
namespace G
open PySem
section
variable {Q : D → Store → Prop} {QE : En → Store → Prop} {X : D → Store → Prop} {k : KS} {e : En} {S S1 : Store} {a b c : EM} {x y d : D} {z : Bool} {xs ds : List D}
def lnP (Q : QP D) (S : Store) (o : Option (List D)) : Prop := match o with
  | some l => Q (.loc S.length) (S ++ [.lst l])
  | none => False
def lnQ (Q : QP D) : QP D := fun d S => lnP Q S (seqT S d)
theorem lnQ_lst (l : List D) : lnQ Q (.lst l) S = Q (.loc S.length) (S ++ [.lst l]) := rfl
theorem lnQ_tup (l : List D) : lnQ Q (.tup l) S = Q (.loc S.length) (S ++ [.lst l]) := rfl
theorem wr_eListN : Wr (eListN a e S) Q X = Wr (a e S) (lnQ Q) X := by
  unfold eListN
  rw [wr_bind]
  congr; funext d S1
  unfold lnQ
  rw [wr_bind]
  cases seqT S1 d <;> rfl
def rvP (Q : QP D) (S : Store) (o : Option (List D)) : Prop := match o with
  | some l => Q (.lst l.reverse) S
  | none => False
def rvQ (Q : QP D) : QP D := fun d S => rvP Q S (seqD S d)
theorem rvQ_lst (l : List D) : rvQ Q (.lst l) S = Q (.lst l.reverse) S := rfl
theorem wr_eRev : Wr (eRev a e S) Q X = Wr (a e S) (rvQ Q) X := by
  unfold eRev
  rw [wr_bind]
  congr; funext d S1
  unfold rvQ
  rw [wr_bind]
  cases seqD S1 d <;> rfl
def rfQ (cn f : Nat) (e : En) (k : KS) : QP D := fun d S => k.ex (.exc cn [(f, d)]) e S
theorem rfQ_s (cn f : Nat) : rfQ cn f e k d S = k.ex (.exc cn [(f, d)]) e S := rfl
theorem ws_sRaiseF (cn f : Nat) : Ws (sRaiseF cn f a e S) k = Wr (a e S) (rfQ cn f e k) (k.xe e) := by
  unfold sRaiseF; rw [ws_sE]; rfl
end
end G
namespace G
open PySem
section
variable {Q : D → Store → Prop} {QE : En → Store → Prop} {X : D → Store → Prop} {k : KS} {e : En} {S S1 : Store} {a b c : EM} {m n : SM} {x y d : D} {z : Bool} {xs ds : List D}
def KS.trG (k : KS) (hs : List HdM) : KS := ⟨k.nx, k.rt, k.bk, k.ct, fun x e S => match x with
  | .exc cn fs => Ws (hdR hs cn fs e S) k
  | _ => False⟩
theorem trG_nx (hs : List HdM) : (k.trG hs).nx = k.nx := rfl
theorem trG_rt (hs : List HdM) : (k.trG hs).rt = k.rt := rfl
theorem trG_bk (hs : List HdM) : (k.trG hs).bk = k.bk := rfl
theorem trG_ct (hs : List HdM) : (k.trG hs).ct = k.ct := rfl
theorem trG_ex (hs : List HdM) (cn : Nat) (fs : List (Nat × D)) : (k.trG hs).ex (.exc cn fs) e S = Ws (hdR hs cn fs e S) k := rfl
theorem ws_sTryG (hs : List HdM) : Ws (sTryG hs m e S) k = Ws (m e S) (k.trG hs) := by
  unfold sTryG
  cases m e S with
  | exc x e1 S1 => cases x <;> rfl
  | _ => rfl
theorem ws_hd_nil (cn : Nat) (fs : List (Nat × D)) : Ws (hdR [] cn fs e S) k = k.ex (.exc cn fs) e S := rfl
def hdP (o : Option Bool) (a b : Prop) : Prop := match o with
  | some true => a
  | some false => b
  | none => False
theorem hdP_t (a b : Prop) : hdP (some true) a b = a := rfl
theorem hdP_f (a b : Prop) : hdP (some false) a b = b := rfl
theorem ws_hd_cons (ts : List (Nat → Option Bool)) (oi : Option Nat) (r : List HdM) (cn : Nat) (fs : List (Nat × D)) : Ws (hdR ((ts, oi, n) :: r) cn fs e S) k = hdP (tbAny ts cn) (Ws (sSuO oi (n (setO e oi (.exc cn fs)) S)) k) (Ws (hdR r cn fs e S) k) := by
  rw [hdR]
  cases tbAny ts cn with
  | none => rfl
  | some b => cases b <;> rfl
theorem setO_some (i : Nat) : setO e (some i) d = e.set i (some d) := rfl
theorem setO_none : setO e none d = e := rfl
theorem ws_suS (i : Nat) {r : SRes} : Ws (sSuO (some i) r) k = Ws r (k.su i) := by cases r <;> rfl
def KS.suN (k : KS) : KS := ⟨k.nx, k.rt, k.bk, k.ct, fun _ _ _ => False⟩
theorem suN_nx : k.suN.nx = k.nx := rfl
theorem suN_rt : k.suN.rt = k.rt := rfl
theorem suN_bk : k.suN.bk = k.bk := rfl
theorem suN_ct : k.suN.ct = k.ct := rfl
theorem ws_suN {r : SRes} : Ws (sSuO none r) k = Ws r k.suN := by cases r <;> rfl
def iyQ (tb : Nat → Option Bool) (Q X : QP D) : QP D := fun x S => Wr (lf ((isY tb x).map .bl) S) Q X
theorem iyQ_s (tb : Nat → Option Bool) : iyQ tb Q X x S = Wr (lf ((isY tb x).map .bl) S) Q X := rfl
theorem wr_eIsY (tb : Nat → Option Bool) : Wr (eIsY tb a e S) Q X = Wr (a e S) (iyQ tb Q X) X := by unfold eIsY; rw [wr_bind]; rfl
theorem isY_exc (tb : Nat → Option Bool) (cn : Nat) (fs : List (Nat × D)) : isY tb (.exc cn fs) = tb cn := rfl
def fyQ (cs : List Nat) (f : Nat) (Q X : QP D) : QP D := fun x S => Wr (lf (fldY cs f x) S) Q X
theorem fyQ_s (cs : List Nat) (f : Nat) : fyQ cs f Q X x S = Wr (lf (fldY cs f x) S) Q X := rfl
theorem wr_eFldY (cs : List Nat) (f : Nat) : Wr (eFldY cs f a e S) Q X = Wr (a e S) (fyQ cs f Q X) X := by unfold eFldY; rw [wr_bind]; rfl
theorem fldY_exc (cs : List Nat) (f cn : Nat) (fs : List (Nat × D)) : fldY cs f (.exc cn fs) = if cs.contains cn then fs.lookup f else none := rfl
def toQ (y : Ty) (Q X : QP D) : QP D := fun x S => Wr (lf ((isTyO S y x).map .bl) S) Q X
theorem toQ_s (t : Ty) : toQ t Q X x S = Wr (lf ((isTyO S t x).map .bl) S) Q X := rfl
theorem wr_eIsTyO (t : Ty) : Wr (eIsTyO t a e S) Q X = Wr (a e S) (toQ t Q X) X := by unfold eIsTyO; rw [wr_bind]; rfl
theorem isTyO_tup (t : Ty) (l : List D) : isTyO S t (.tup l) = some (Tn.tuple.is t) := rfl
theorem isTyO_lst (t : Ty) (l : List D) : isTyO S t (.lst l) = some (Tn.list.is t) := rfl
theorem isTyO_int (t : Ty) (i : Int) : isTyO S t (.int i) = some (Tn.int.is t) := rfl
end
end G
namespace G
open PySem
section
variable {QD : D → Store → Prop} {QL : List D → Store → Prop} {X : D → Store → Prop} {e : En} {S S1 : Store} {a b c : EM} {am : AM} {x y d : D} {xs ds : List D}
def tm2 (f : Store → D → List D → Option D) (z : Str) (Q : QP D) (X : QP D) : QP (List D) := fun xs S => Wr (lf (f S (.str z) xs) S) Q X
theorem tm2_s (f : Store → D → List D → Option D) (z : Str) : tm2 f z QD X xs S = Wr (lf (f S (.str z) xs) S) QD X := rfl
def tm1 (f : Store → D → List D → Option D) (m : AM) (e : En) (Q X : QP D) : QP D := fun x S => match x with
  | .str z => Wr (m e S) (tm2 f z Q X) X
  | _ => False
theorem tm1_s (f : Store → D → List D → Option D) (z : Str) : tm1 f am e QD X (.str z) S = Wr (am e S) (tm2 f z QD X) X := rfl
theorem wr_eTm (f : Store → D → List D → Option D) : Wr (eTm f a am e S) QD X = Wr (a e S) (tm1 f am e QD X) X := by
  unfold eTm; rw [wr_bind]; congr; funext x S1
  cases x <;> first | rfl | (rw [wr_bind]; rfl) | (rw [wr_stuck]; rfl)
def rgQN (Q : List D → Store → Prop) : QP (List D) := fun ds S => match ds with
  | [.int i, .int j, .int (.negSucc 0)] => (-(2 ^ 62) ≤ i ∧ i < 2 ^ 62 ∧ -(2 ^ 62) ≤ j ∧ j < 2 ^ 62) ∧ Q (rangeN i (i - j).toNat) S
  | _ => False
theorem rgQN_int (i j : Int) : rgQN QL [.int i, .int j, .int (-1)] S = ((-(2 ^ 62) ≤ i ∧ i < 2 ^ 62 ∧ -(2 ^ 62) ≤ j ∧ j < 2 ^ 62) ∧ QL (rangeN i (i - j).toNat) S) := rfl
theorem wr_iRgN : Wr (iRgN am e S) QL X = Wr (am e S) (rgQN QL) X := by
  unfold iRgN; rw [wr_bind]; congr; funext ds S1
  by_cases h : ∃ i j, ds = [.int i, .int j, .int (-1)]
  · obtain ⟨i, j, rfl⟩ := h
    show Wr (if _ then _ else _) _ _ = _
    rw [wr_guard]; rfl
  · unfold rgQN
    split
    · exact absurd ⟨_, _, rfl⟩ h
    · rw [wr_stuck]
      try (split <;> first | exact absurd ⟨_, _, rfl⟩ h | rfl)
end
end G
namespace G
open PySem
section
variable {Q X : QP D} {QB : QP Bool} {QL : QP (List D)} {QE : QP En} {k : KS} {e : En} {S S1 S2 : Store} {a b c o : EM} {t u : TM} {m n : SM} {am mk : AM} {x y d : D} {z : Bool} {xs ds zs : List D} {g g1 g2 g3 : GM}
def gf1 (cs : List Nat) (f : Nat) (d : D) (e : En) (Q : QP En) : QP D := fun x S => sb3 e Q (stF cs f S x d)
theorem gf1_s (cs : List Nat) (f : Nat) : gf1 cs f d e QE x S = sb3 e QE (stF cs f S x d) := rfl
theorem wr_gFl (cs : List Nat) (f : Nat) : Wr (gFl cs f o d e S) QE X = Wr (o e S) (gf1 cs f d e QE) nX := by
  unfold gFl; rw [wr_bind, wr_noX]; congr; funext x S1; rw [gf1_s]; cases h : stF cs f S1 x d <;> rfl
def as3 (g3 : GM) (d : D) (k : KS) : QP En := fun e S => Wr (g3 d e S) k.nx (k.xe e)
def as2 (g2 g3 : GM) (d : D) (k : KS) : QP En := fun e S => Wr (g2 d e S) (as3 g3 d k) (k.xe e)
def as1 (g1 g2 g3 : GM) (e : En) (k : KS) : QP D := fun d S => Wr (g1 d e S) (as2 g2 g3 d k) (k.xe e)
theorem as3_s : as3 g3 d k e S = Wr (g3 d e S) k.nx (k.xe e) := rfl
theorem as2_s : as2 g2 g3 d k e S = Wr (g2 d e S) (as3 g3 d k) (k.xe e) := rfl
theorem as1_s : as1 g1 g2 g3 e k d S = Wr (g1 d e S) (as2 g2 g3 d k) (k.xe e) := rfl
theorem ws_sAsg3 : Ws (sAsg3 a g1 g2 g3 e S) k = Wr (a e S) (as1 g1 g2 g3 e k) (k.xe e) := by
  unfold sAsg3; rw [ws_sE]; congr; funext z S1; rw [ws_sE, as1_s]; congr; funext z S1; rw [ws_sE, as2_s]; congr; funext z S1; rw [ws_sE]; rfl
def at1 (g1 g2 : GM) (e : En) (k : KS) : QP D := fun d S => Wr (g1 d e S) (as3 g2 d k) (k.xe e)
theorem at1_s : at1 g1 g2 e k d S = Wr (g1 d e S) (as3 g2 d k) (k.xe e) := rfl
theorem ws_sAsg2 : Ws (sAsg2 a g1 g2 e S) k = Wr (a e S) (at1 g1 g2 e k) (k.xe e) := by
  unfold sAsg2; rw [ws_sE]; congr; funext z S1; rw [ws_sE, at1_s]; congr; funext z S1; rw [ws_sE]; rfl
def faQ (j : Int) (cs : List Nat) (f : Nat) (e : En) (k : KS) : QP D := fun x S => match fldD cs f S x with
  | some y => Ws (stR (augI j S x y cs f) e) k
  | none => False
theorem ws_sFldA (j : Int) (cs : List Nat) (f : Nat) : Ws (sFldA j cs f o e S) k = Wr (o e S) (faQ j cs f e k) (k.xe e) := by
  unfold sFldA; rw [ws_sE]; congr; funext x S1; unfold faQ; cases fldD cs f S1 x <;> rfl
def ds3 (x y : D) (Q X : QP D) : QP D := fun z S => Wr (dsR S x y z) Q X
def ds2 (c : EM) (e : En) (x : D) (Q X : QP D) : QP D := fun y S => Wr (c e S) (ds3 x y Q X) X
def ds1 (b c : EM) (e : En) (Q X : QP D) : QP D := fun x S => (dkD S x).isSome = true ∧ Wr (b e S) (ds2 c e x Q X) X
theorem ds3_s (z : D) : ds3 x y Q X z S = Wr (dsR S x y z) Q X := rfl
theorem ds2_s : ds2 c e x Q X y S = Wr (c e S) (ds3 x y Q X) X := rfl
theorem ds1_s : ds1 b c e Q X x S = ((dkD S x).isSome = true ∧ Wr (b e S) (ds2 c e x Q X) X) := rfl
theorem wr_eDSetd : Wr (eDSetd a b c e S) Q X = Wr (a e S) (ds1 b c e Q X) X := by
  unfold eDSetd; rw [wr_bind]; congr; funext x S1; rw [wr_guard, ds1_s, wr_bind]; congr; funext y S2; rw [wr_bind]; rfl
def dispQ (ks : List Str) (Q : QP D) : QP (List D) := fun ds S => Q (.loc S.length) (S ++ [.dk ((strK ks).zip ds)])
theorem dispQ_s (ks : List Str) : dispQ ks Q ds S = Q (.loc S.length) (S ++ [.dk ((strK ks).zip ds)]) := rfl
theorem wr_eDisp (ks : List Str) : Wr (eDisp ks am e S) Q X = Wr (am e S) (dispQ ks Q) nX := by
  unfold eDisp; rw [wr_bind, wr_noX]; rfl
def rm2 (co : Option Nat) (x : D) (Q X : QP D) : QP (List D) := fun xs S => Wr (rmR co x xs S) Q X
def rm1 (co : Option Nat) (am : AM) (e : En) (Q X : QP D) : QP D := fun x S => isLst S x = true ∧ Wr (am e S) (rm2 co x Q X) X
theorem rm2_s (co : Option Nat) : rm2 co x Q X xs S = Wr (rmR co x xs S) Q X := rfl
theorem rm1_s (co : Option Nat) : rm1 co am e Q X x S = (isLst S x = true ∧ Wr (am e S) (rm2 co x Q X) X) := rfl
theorem wr_eRem (co : Option Nat) : Wr (eRem co a am e S) Q X = Wr (a e S) (rm1 co am e Q X) X := by
  unfold eRem; rw [wr_bind]; congr; funext x S1; rw [wr_guard, rm1_s, wr_bind]; rfl
def parQ3 (i j l : Nat) (e : En) (k : KS) (ds : List D) (S : Store) : Prop := match ds with
  | [x, y, z] => k.nx (((e.set i (some x)).set j (some y)).set l (some z)) S
  | _ => False
theorem parQ3_s {w : D} (i j l : Nat) : parQ3 i j l e k [x, y, w] S = k.nx (((e.set i (some x)).set j (some y)).set l (some w)) S := rfl
theorem ws_sPar3 (i j l : Nat) : Ws (sPar3 i j l am e S) k = Wr (am e S) (parQ3 i j l e k) (k.xe e) := by
  unfold sPar3; rw [ws_sE]; congr; funext ds S1
  match ds with
  | [] => rfl
  | [_] => rfl
  | [_, _] => rfl
  | [_, _, _] => rfl
  | _ :: _ :: _ :: _ :: _ => rfl
def KS.th (k : KS) (n : Nat) (c : Cell) : KS := ⟨fun e S => k.nx e (S.set n c), fun d S => k.rt d (S.set n c), fun e S => k.bk e (S.set n c), fun e S => k.ct e (S.set n c), fun _ _ _ => False⟩
theorem th_nx (i : Nat) (c : Cell) : (k.th i c).nx e S = k.nx e (S.set i c) := rfl
theorem th_rt (i : Nat) (c : Cell) : (k.th i c).rt d S = k.rt d (S.set i c) := rfl
theorem th_xe (i : Nat) (c : Cell) : (k.th i c).xe e = nX := rfl
theorem ws_sLk {lo : En → Store → Option Nat} {i : Nat} {c c' : Cell} (h1 : lo e S = some i) (h2 : S[i]? = some c) (h3 : frzC c = some c') : Ws (sLk lo m e S) k = Ws (m e (S.set i c')) (k.th i c) := by
  unfold sLk sLkB sLkA; simp only [h1, h2, h3]
  cases m e (S.set i c') <;> rfl
theorem frz_dk (l : List (L2.Key × D)) : frzC (.dk l) = some (.fk l) := rfl
theorem frz_ts (l : List (List Int)) : frzC (.ts l) = some (.fs l) := rfl
def dvQ (Q : QP (List D)) : QP D := fun d S => match fkD S d with
  | some l => Q (l.map fun kv => kv.2) S
  | none => False
def diQ (Q : QP (List D)) : QP D := fun d S => match fkD S d with
  | some l => Q (l.map fun kv => .tup [keyOf kv.1, kv.2]) S
  | none => False
def dkQ (Q : QP (List D)) : QP D := fun d S => match fkD S d with
  | some l => Q (l.map fun kv => keyOf kv.1) S
  | none => False
def tkQ (Q : QP (List D)) : QP D := fun d S => match fsD S d with
  | some l => Q (l.map intsD) S
  | none => False
theorem wr_iDv : Wr (iDv a e S) QL X = Wr (a e S) (dvQ QL) X := by
  unfold iDv; rw [wr_bind]; congr; funext d S1; unfold dvQ; cases fkD S1 d <;> rfl
theorem wr_iDi : Wr (iDi a e S) QL X = Wr (a e S) (diQ QL) X := by
  unfold iDi; rw [wr_bind]; congr; funext d S1; unfold diQ; cases fkD S1 d <;> rfl
theorem wr_iDk : Wr (iDk a e S) QL X = Wr (a e S) (dkQ QL) X := by
  unfold iDk; rw [wr_bind]; congr; funext d S1; unfold dkQ; cases fkD S1 d <;> rfl
theorem wr_iTk : Wr (iTk a e S) QL X = Wr (a e S) (tkQ QL) X := by
  unfold iTk; rw [wr_bind]; congr; funext d S1; unfold tkQ; cases fsD S1 d <;> rfl
theorem fkD_s {i : Nat} {l : List (L2.Key × D)} (h : S[i]? = some (.fk l)) : fkD S (.loc i) = some l := by unfold fkD; simp only [h]
theorem fsD_s {i : Nat} {l : List (List Int)} (h : S[i]? = some (.fs l)) : fsD S (.loc i) = some l := by unfold fsD; simp only [h]
theorem dvQ_s {i : Nat} {l : List (L2.Key × D)} (h : S[i]? = some (.fk l)) : dvQ QL (.loc i) S = QL (l.map fun kv => kv.2) S := by unfold dvQ; simp only [fkD_s h]
theorem diQ_s {i : Nat} {l : List (L2.Key × D)} (h : S[i]? = some (.fk l)) : diQ QL (.loc i) S = QL (l.map fun kv => .tup [keyOf kv.1, kv.2]) S := by unfold diQ; simp only [fkD_s h]
theorem tkQ_s {i : Nat} {l : List (List Int)} (h : S[i]? = some (.fs l)) : tkQ QL (.loc i) S = QL (l.map intsD) S := by unfold tkQ; simp only [fsD_s h]
def t1Q (Q : QP D) : QP D := fun d S => match intsK d with
  | some k => Q (.loc S.length) (S ++ [.ts [k]])
  | none => False
theorem wr_eTs1 : Wr (eTs1 a e S) Q X = Wr (a e S) (t1Q Q) X := by
  unfold eTs1; rw [wr_bind]; congr; funext d S1; unfold t1Q; cases intsK d <;> rfl
theorem t1Q_s {l : List Int} (h : intsK d = some l) : t1Q Q d S = Q (.loc S.length) (S ++ [.ts [l]]) := by unfold t1Q; simp only [h]
def tu2 (x : D) (Q X : QP D) : QP D := fun y S => Wr (uR S x y) Q X
def tu1 (b : EM) (e : En) (Q X : QP D) : QP D := fun x S => (tsD S x).isSome = true ∧ Wr (b e S) (tu2 x Q X) X
theorem tu2_s : tu2 x Q X y S = Wr (uR S x y) Q X := rfl
theorem tu1_s : tu1 b e Q X x S = ((tsD S x).isSome = true ∧ Wr (b e S) (tu2 x Q X) X) := rfl
theorem wr_eTsU : Wr (eTsU a b e S) Q X = Wr (a e S) (tu1 b e Q X) X := by
  unfold eTsU; rw [wr_bind]; congr; funext x S1; rw [wr_guard, tu1_s, wr_bind]; rfl
theorem tsD_s {i : Nat} {l : List (List Int)} (h : S[i]? = some (.ts l)) : tsD S (.loc i) = some (i, l) := by unfold tsD; simp only [h]
theorem uR_s {i j : Nat} {l l' : List (List Int)} (h : S[i]? = some (.ts l)) (h' : S[j]? = some (.ts l')) (hn : i ≠ j) (hl : l ≠ []) (hz : l.length + l'.length ≤ 1000) : uR S (.loc i) (.loc j) = .ok .non (S.set i (.ts (unK l l'))) := by
  unfold uR; simp only [tsD_s h, tsD_s h']; rw [if_pos ⟨hn, hl, hz⟩]
def dcQ (Q : QP D) : QP (List (List Int)) := fun acc S => Q (.loc S.length) (S ++ [.ts acc])
def dct1 (g : Tg) (t : TM) (a : EM) (e : En) (Q X : QP D) : QC := fun p S => Wr (dcR (okC p) g t a e p.1 [] S) (dcQ Q) X
theorem dct1_s (g : Tg) (p : List D × Option Nat) : dct1 g t a e Q X p S = Wr (dcR (okC p) g t a e p.1 [] S) (dcQ Q) X := rfl
theorem dcQ_s (acc : List (List Int)) : dcQ Q acc S = Q (.loc S.length) (S ++ [.ts acc]) := rfl
theorem wr_eDcT (i : CM) (g : Tg) (vs : List Nat) : Wr (eDcT i g t a vs e S) Q X = Wr (i e S) (dct1 g t a (wipeE e vs) Q X) X := by
  unfold eDcT; rw [wr_bind]; congr; funext p S1; rw [wr_bind]; rfl
def dy (I : QP (List (List Int))) (acc : List (List Int)) : QP D := fun y S => match intsK y with
  | some l => acc.length < sizeLine ∧ I (addK acc l) S
  | none => False
theorem dy_s {I : QP (List (List Int))} {acc : List (List Int)} {l : List Int} (h : intsK y = some l) : dy I acc y S = (acc.length < sizeLine ∧ I (addK acc l) S) := by unfold dy; simp only [h]
def dt1 (a : EM) (e : En) (I : QP (List (List Int))) (acc : List (List Int)) : QP Bool := fun b S => match b with
  | true => Wr (a e S) (dy I acc) nX
  | false => I acc S
theorem dt1_t (I : QP (List (List Int))) (acc : List (List Int)) : dt1 a e I acc true S = Wr (a e S) (dy I acc) nX := rfl
theorem dt1_f (I : QP (List (List Int))) (acc : List (List Int)) : dt1 a e I acc false S = I acc S := rfl
def dgg (t : TM) (a : EM) (I : QP (List (List Int))) (acc : List (List Int)) (S : Store) : En → Prop := fun e => Wr (t e S) (dt1 a e I acc) nX
theorem dgg_s (I : QP (List (List Int))) (acc : List (List Int)) : dgg t a I acc S e = Wr (t e S) (dt1 a e I acc) nX := rfl
def dcI (ck : Store → Prop) (g : Tg) (t : TM) (a : EM) (e : En) (ds : List D) (Q : QP (List (List Int))) (X : QP D) : QP (List (List Int)) := fun acc S => Wr (dcR ck g t a e ds acc S) Q X
theorem wr_dc_cons {ck : Store → Prop} {QT : QP (List (List Int))} (h : ck S) (g : Tg) (acc : List (List Int)) (ds : List D) : Wr (dcR ck g t a e (d :: ds) acc S) QT X = tgQ (g.m d e) (dgg t a (dcI ck g t a e ds QT X) acc S) := by
  rw [dcR_cons h]
  unfold tgQ
  cases g.m d e with
  | none => rfl
  | some e1 =>
    dsimp only
    rw [wr_bind, wr_noX, dgg_s]; congr; funext b S2
    cases b with
    | false => rfl
    | true =>
      show Wr ((noX (a e1 S2)).bind _) _ _ = Wr (a e1 S2) _ _
      rw [wr_bind, wr_noX]; congr; funext y S3
      unfold dy
      cases intsK y with
      | none => rfl
      | some l => dsimp only; rw [wr_guard]; rfl
theorem dc_w {ck : Store → Prop} {QT : QP (List (List Int))} {g : Tg} {ds : List D} {acc : List (List Int)} (I : Nat → List (List Int) → Store → Prop) (h0 : I 0 acc S) (hc : ∀ i acc S, I i acc S → ck S)
    (st : ∀ i d acc S, ds[i]? = some d → I i acc S → tgQ (g.m d e) (dgg t a (I (i + 1)) acc S))
    (fin : ∀ acc S, I ds.length acc S → QT acc S) : Wr (dcR ck g t a e ds acc S) QT X := by
  induction ds generalizing I acc S with
  | nil => rw [dcR_nil (hc _ _ _ h0)]; exact fin acc S h0
  | cons d ds ih =>
    rw [wr_dc_cons (hc _ _ _ h0)]
    have h1 := st 0 d acc S rfl h0
    have go : ∀ acc S, I 1 acc S → Wr (dcR ck g t a e ds acc S) QT X := fun acc S hI => ih (fun i => I (i + 1)) hI (fun i acc S => hc (i + 1) acc S) (fun i d acc S hd => st (i + 1) d acc S (by simpa using hd)) (fun acc S => fin acc S)
    revert h1
    cases g.m d e with
    | none => exact id
    | some e1 =>
      simp only [tgQ_some, dgg_s]
      cases t e1 S with
      | exc x S1 => exact id
      | stuck => exact id
      | ok b S1 =>
        simp only [wr_ok]
        cases b with
        | false => exact fun h => go _ _ h
        | true =>
          simp only [dt1_t]
          cases a e1 S1 with
          | exc x S1 => exact id
          | stuck => exact id
          | ok y S2 =>
            simp only [wr_ok]
            unfold dy
            cases intsK y with
            | none => exact id
            | some l => exact fun h => ⟨h.1, go _ _ h.2⟩
theorem fSortP_s {l : List D} (h1 : ∀ d, d ∈ l → (fstK d).isSome = true) (h2 : (l.map fstK).Nodup) (hs : seqD S d = some l) : fSortP S [d] = some (.lst (sortP l)) := by
  unfold fSortP; simp only [hs]; rw [if_pos ⟨h1, h2⟩]
theorem loE_s {i : Nat} {S' : Store} (h : a e S = .ok (.loc i) S') : loE a e S = some i := by unfold loE; simp only [h]
theorem loE_var {i j : Nat} (h : e[i]? = some (some (.loc j))) : loE (eVar i) e S = some j := by unfold loE eVar; simp only [h]
end
end G
namespace G
open PySem
section
variable {QD : QP D} {X : QP D} {e : En} {S : Store} {a b : EM} {x y : D} {f : FM} {gD : List D → List D → List D}
def eqOb (neg : Bool) (Q : QP D) : QP D := fun y S1 => match y with
  | .bl b => Q (.bl (if neg = true then !b else b)) S1
  | _ => False
theorem eqOb_t (z : Bool) : eqOb true QD (.bl z) S = QD (.bl (!z)) S := rfl
theorem eqOb_f (z : Bool) : eqOb false QD (.bl z) S = QD (.bl z) S := rfl
def eqO2 (neg : Bool) (cn : Nat) (f : FM) (gD : List D → List D → List D) (x : D) (Q X : QP D) : QP D := fun y S => (isCn cn S x = true ∧ isCn cn S y = true) ∧ Wr (f (gD [x, y] []) S) (eqOb neg Q) X
theorem eqO2_s (neg : Bool) (cn : Nat) : eqO2 neg cn f gD x QD X y S = ((isCn cn S x = true ∧ isCn cn S y = true) ∧ Wr (f (gD [x, y] []) S) (eqOb neg QD) X) := rfl
def eqO1 (neg : Bool) (cn : Nat) (f : FM) (gD : List D → List D → List D) (b : EM) (e : En) (Q X : QP D) : QP D := fun x S => Wr (b e S) (eqO2 neg cn f gD x Q X) X
theorem eqO1_s (neg : Bool) (cn : Nat) : eqO1 neg cn f gD b e QD X x S = Wr (b e S) (eqO2 neg cn f gD x QD X) X := rfl
theorem wr_eEqO (neg : Bool) (cn : Nat) : Wr (eEqO neg cn f gD a b e S) QD X = Wr (a e S) (eqO1 neg cn f gD b e QD X) X := by
  unfold eEqO
  rw [wr_bind]
  congr; funext x S1
  rw [wr_bind, eqO1_s]
  congr; funext y S2
  rw [eqO2_s]
  unfold eqO
  rw [wr_guard]
  congr 1
  unfold eqOf
  rw [wr_bind]
  congr; funext z S3
  cases z <;> rfl
def in2 (x : D) (Q X : QP D) : QP (List D) := fun xs S => Wr (insR x xs S) Q X
def in1 (am : AM) (e : En) (Q X : QP D) : QP D := fun x S => isLst S x = true ∧ Wr (am e S) (in2 x Q X) X
theorem in2_s {xs : List D} : in2 x QD X xs S = Wr (insR x xs S) QD X := rfl
theorem in1_s {am : AM} : in1 am e QD X x S = (isLst S x = true ∧ Wr (am e S) (in2 x QD X) X) := rfl
theorem wr_eIns {am : AM} : Wr (eIns a am e S) QD X = Wr (a e S) (in1 am e QD X) X := by
  unfold eIns; rw [wr_bind]; congr; funext x S1; rw [wr_guard, in1_s, wr_bind]; rfl
end
end G
namespace G
open PySem
section
variable {QD : QP D} {X : QP D} {e : En} {S : Store} {a b : EM} {mp : AM} {k : KS}
def txQ (kvs : List (Str × D)) (Q X : QP D) : QP D := fun x S1 => match x with
  | .str z => Wr (lf (kvs.lookup z) S1) Q X
  | _ => False
theorem txQ_str (kvs : List (Str × D)) (z : Str) : txQ kvs QD X (.str z) S = Wr (lf (kvs.lookup z) S) QD X := rfl
theorem wr_eTabIx (kvs : List (Str × D)) : Wr (eTabIx kvs a e S) QD X = Wr (a e S) (txQ kvs QD X) X := by
  unfold eTabIx
  rw [wr_bind]
  congr; funext x S1
  cases x <;> rfl
def tiQ (neg : Bool) (kvs : List (Str × D)) (Q : QP D) : QP D := fun x S1 => match x with
  | .str z => Q (.bl (if neg = true then !(kvs.lookup z).isSome else (kvs.lookup z).isSome)) S1
  | _ => False
theorem tiQ_t (kvs : List (Str × D)) (z : Str) : tiQ true kvs QD (.str z) S = QD (.bl (!(kvs.lookup z).isSome)) S := rfl
theorem tiQ_f (kvs : List (Str × D)) (z : Str) : tiQ false kvs QD (.str z) S = QD (.bl (kvs.lookup z).isSome) S := rfl
theorem wr_eTabIn (neg : Bool) (kvs : List (Str × D)) : Wr (eTabIn neg kvs a e S) QD X = Wr (a e S) (tiQ neg kvs QD) X := by
  unfold eTabIn
  rw [wr_bind]
  congr; funext x S1
  cases x <;> rfl
def tc2 (i : Nat) (q : Nat × FM) (e : En) (k : KS) : QP (List D) := fun ds S2 => ds.length = q.1 ∧ Wr (q.2 ds S2) k.rt (k.xe (e.set i none))
theorem tc2_s (i n : Nat) (f : FM) (ds : List D) : tc2 i (n, f) e k ds S = (ds.length = n ∧ Wr (f ds S) k.rt (k.xe (e.set i none))) := rfl
def tc1 (i : Nat) (o : Option (Nat × FM)) (mp : AM) (e : En) (k : KS) (S1 : Store) : Prop := match o with
  | some q => i < e.length ∧ Wr (mp e S1) (tc2 i q e k) (k.xe (e.set i none))
  | none => False
theorem tc1_s (i : Nat) (q : Nat × FM) : tc1 i (some q) mp e k S = (i < e.length ∧ Wr (mp e S) (tc2 i q e k) (k.xe (e.set i none))) := rfl
def tcQ (i : Nat) (fs : List (Str × Nat × FM)) (mp : AM) (e : En) (k : KS) : QP D := fun x S1 => match x with
  | .str z => tc1 i (fs.lookup z) mp e k S1
  | _ => False
theorem tcQ_str (i : Nat) (fs : List (Str × Nat × FM)) (z : Str) : tcQ i fs mp e k (.str z) S = tc1 i (fs.lookup z) mp e k S := rfl
theorem ws_guard {p : Prop} [Decidable p] {r : SRes} : Ws (if p then r else .stuck) k = (p ∧ Ws r k) := by
  by_cases h : p
  · rw [if_pos h]; simp [h]
  · rw [if_neg h]; exact (eq_false fun z => h z.1).symm
theorem ws_sTabCall (i : Nat) (fs : List (Str × Nat × FM)) : Ws (sTabCall i fs b mp e S) k = Wr (b e S) (tcQ i fs mp e k) (k.xe e) := by
  unfold sTabCall
  rw [ws_sE]
  congr; funext x S1
  cases x with
  | str z =>
    rw [tcQ_str]
    dsimp only
    cases fs.lookup z with
    | none => rfl
    | some q =>
      rw [tc1_s]
      dsimp only
      rw [ws_guard, ws_sE]
      congr; funext ds S2
      rw [ws_guard, ws_sE]
      rfl
  | _ => rfl
def sn3 (x : D) (i : Option Int) (Q X : QP D) : QP (Option Int) := fun j S => Wr (slR S x i j) Q X
def sn2 (x : D) (h : OM) (e : En) (Q X : QP D) : QP (Option Int) := fun i S => Wr (h e S) (sn3 x i Q X) X
def sn1 (l h : OM) (e : En) (Q X : QP D) : QP D := fun x S => Wr (l e S) (sn2 x h e Q X) X
theorem sn3_s (x : D) (i j : Option Int) : sn3 x i QD X j S = Wr (slR S x i j) QD X := rfl
theorem sn2_s (x : D) (h : OM) (i : Option Int) : sn2 x h e QD X i S = Wr (h e S) (sn3 x i QD X) X := rfl
theorem sn1_s (x : D) (l h : OM) : sn1 l h e QD X x S = Wr (l e S) (sn2 x h e QD X) X := rfl
theorem wr_eSlN (l h : OM) : Wr (eSlN a l h e S) QD X = Wr (a e S) (sn1 l h e QD X) X := by
  unfold eSlN; simp only [wr_bind]; rfl
end
end G
namespace G
open PySem
section
variable {QD : QP D} {QL : QP (List D)} {X : QP D} {e : En} {S : Store} {a b : EM} {am : AM} {ds : List D} {x y : D} {f : FM} {gD : List D → List D → List D}
def zmQ (Q : QP (List D)) (X : QP D) : QP (List D) := fun ds S => Wr (zipRM ds S) Q X
theorem zmQ_s : zmQ QL X ds S = Wr (zipRM ds S) QL X := rfl
theorem wr_iZipM : Wr (iZipM am e S) QL X = Wr (am e S) (zmQ QL X) X := by unfold iZipM; rw [wr_bind]; rfl
theorem zipRM_s (l m : List D) : zipRM [.tup l, .lst m] S = .ok (zipD l m) S := rfl
def ex2 (neg : Bool) (cn : Nat) (f : FM) (gD : List D → List D → List D) (x : D) (Q X : QP D) : QP D := fun y S => Wr (eqX neg cn f gD x y S) Q X
theorem ex2_s (neg : Bool) (cn : Nat) : ex2 neg cn f gD x QD X y S = Wr (eqX neg cn f gD x y S) QD X := rfl
def ex1 (neg : Bool) (cn : Nat) (f : FM) (gD : List D → List D → List D) (b : EM) (e : En) (Q X : QP D) : QP D := fun x S => Wr (b e S) (ex2 neg cn f gD x Q X) X
theorem ex1_s (neg : Bool) (cn : Nat) : ex1 neg cn f gD b e QD X x S = Wr (b e S) (ex2 neg cn f gD x QD X) X := rfl
theorem wr_eEqX (neg : Bool) (cn : Nat) : Wr (eEqX neg cn f gD a b e S) QD X = Wr (a e S) (ex1 neg cn f gD b e QD X) X := by
  unfold eEqX
  rw [wr_bind]
  congr; funext x S1
  rw [wr_bind]; rfl
end
end G
namespace G
open PySem
section
variable {QD : QP D} {X Y : QP D} {e : En} {S S' : Store} {am : AM} {f : FM} {xs : List D} {d : D}
def cnQ (f : FM) (Q X : QP D) : QP (List D) := fun xs S => Wr (noF f xs S) Q X
theorem cnQ_s (f : FM) : cnQ f QD X xs S = Wr (noF f xs S) QD X := rfl
theorem wr_eCallN (f : FM) : Wr (eCallN f am e S) QD X = Wr (am e S) (cnQ f QD X) X := by unfold eCallN; rw [wr_bind]; rfl
end
end G
namespace G
open PySem
section
variable {QD : QP D} {X Y Q : QP D} {a b : EM} {e : En} {S S' : Store} {x y : D}
def ku2 (x : D) (Q X : QP D) : QP D := fun y S => Wr (uK S x y) Q X
def ku1 (b : EM) (e : En) (Q X : QP D) : QP D := fun x S => (dkD S x).isSome = true ∧ Wr (b e S) (ku2 x Q X) X
theorem ku2_s : ku2 x Q X y S = Wr (uK S x y) Q X := rfl
theorem ku1_s : ku1 b e Q X x S = ((dkD S x).isSome = true ∧ Wr (b e S) (ku2 x Q X) X) := rfl
theorem wr_eDkU : Wr (eDkU a b e S) Q X = Wr (a e S) (ku1 b e Q X) X := by
  unfold eDkU; rw [wr_bind]; congr; funext x S1; rw [wr_guard, ku1_s, wr_bind]; rfl
theorem wr_eNx : Wr (eNx a e S) Q X = Wr (a e S) Q nX := by unfold eNx; rw [wr_noX]
def sa3 (x : D) (l : Option Int) (Q X : QP D) : QP (Option Int) := fun h S => Wr (lf (slDA S x l h) S) Q X
def sa2 (x : D) (h : OM) (e : En) (Q X : QP D) : QP (Option Int) := fun i S => Wr (h e S) (sa3 x i Q X) X
def sa1 (l h : OM) (e : En) (Q X : QP D) : QP D := fun x S => Wr (l e S) (sa2 x h e Q X) X
theorem sa3_s (l : Option Int) (z : Option Int) : sa3 x l QD X z S = Wr (lf (slDA S x l z) S) QD X := rfl
theorem sa2_s (h : OM) (i : Option Int) : sa2 x h e QD X i S = Wr (h e S) (sa3 x i QD X) X := rfl
theorem sa1_s (l h : OM) : sa1 l h e QD X x S = Wr (l e S) (sa2 x h e QD X) X := rfl
theorem wr_eSlA (l h : OM) : Wr (eSlA a l h e S) QD X = Wr (a e S) (sa1 l h e QD X) X := by
  unfold eSlA; simp only [wr_bind]; rfl
end
end G
namespace G
open PySem
section
variable {X Q : QP D} {a : EM} {e : En} {S : Store} {x : D}
def s5Q (Q : QP D) : QP D := fun y S => match y with
  | .int i => (0 ≤ i ∧ i < 2 ^ 63) ∧ Q (.int i) S
  | _ => False
theorem s5Q_int (i : Int) : s5Q Q (.int i) S = ((0 ≤ i ∧ i < 2 ^ 63) ∧ Q (.int i) S) := rfl
theorem wr_lenOf {r : Res D} : Wr (lenOf r) Q X = Wr r (s5Q Q) X := by
  unfold lenOf; rw [wr_bind]; congr; funext y S1
  cases y with
  | int i => show Wr (if _ then _ else _) _ _ = _; rw [wr_guard]; rfl
  | _ => rfl
def lnoQ (cn : Nat) (f : FM) (gD : List D → List D → List D) (Q X : QP D) : QP D := fun x S => isCn cn S x = true ∧ Wr (f (gD [x] []) S) (s5Q Q) X
theorem lnoQ_s (cn : Nat) (f : FM) (gD : List D → List D → List D) : lnoQ cn f gD Q X x S = (isCn cn S x = true ∧ Wr (f (gD [x] []) S) (s5Q Q) X) := rfl
theorem wr_eLenO (cn : Nat) (f : FM) (gD : List D → List D → List D) : Wr (eLenO cn f gD a e S) Q X = Wr (a e S) (lnoQ cn f gD Q X) X := by
  unfold eLenO aCons aNil
  rw [wr_bind, wr_bind]
  congr; funext x S1
  show Wr (if isCn cn S1 x = true then lenOf (f (gD [x] []) S1) else .stuck) Q X = _
  rw [wr_guard, wr_lenOf]; rfl
theorem wr_strOfT {r : Res D} : Wr (strOfT r) Q X = Wr r (s4Q Q) X := by
  unfold strOfT; rw [wr_bind]; congr; funext y S1; cases y <;> rfl
theorem wr_eReprO (cn : Nat) (f : FM) (gD : List D → List D → List D) : Wr (eReprO cn f gD a e S) Q X = Wr (a e S) (soQ cn f gD Q X) X := by
  unfold eReprO aCons aNil
  rw [wr_bind, wr_bind]
  congr; funext x S1
  show Wr (if isCn cn S1 x = true then strOfT (f (gD [x] []) S1) else .stuck) Q X = _
  rw [wr_guard, wr_strOfT]; rfl
def dnP (Q : QP D) (S : Store) (o : Option (List (L2.Key × D))) : Prop := match o with
  | some l => Q (.loc S.length) (S ++ [.dk l])
  | none => False
def dnQ (Q : QP D) : QP D := fun d S => dnP Q S (dkV S d)
theorem dkV_s {n : Nat} {l : List (L2.Key × D)} (h : S[n]? = some (.dk l)) : dkV S (.loc n) = some l := by
  unfold dkV; rw [dkD_s h]; rfl
theorem wr_eDictN : Wr (eDictN a e S) Q X = Wr (a e S) (dnQ Q) X := by
  unfold eDictN
  rw [wr_bind]
  congr; funext d S1
  unfold dnQ
  rw [wr_bind]
  cases dkV S1 d <;> rfl
end
end G
namespace G
open PySem
abbrev HL := List (Nat × Cell)
def Sep (S : Store) (L : HL) : Prop := (∀ p, p ∈ L → S[p.1]? = some p.2) ∧ (L.map (·.1)).Nodup
section
variable {S : Store} {L L1 L2 L3 : HL} {n m : Nat} {c c' : Cell}
theorem Sep.get (h : Sep S L) (q : (n, c) ∈ L) : S[n]? = some c := h.1 _ q
theorem Sep.lt (h : Sep S L) (q : n ∈ L.map (·.1)) : n < S.length := by
  obtain ⟨p, hp, rfl⟩ := List.mem_map.mp q
  exact (List.getElem?_eq_some_iff.mp (h.1 p hp)).1
theorem Sep.nil : Sep S [] := ⟨fun _ h => (by cases h), by simp⟩
theorem Sep.perm (h : Sep S L) (p : L.Perm L1) : Sep S L1 := ⟨fun q hq => h.1 q (p.mem_iff.mpr hq), (p.map _).nodup_iff.mp h.2⟩
theorem Sep.sub (h : Sep S L) (p : L1.Sublist L) : Sep S L1 := ⟨fun q hq => h.1 q (p.subset hq), List.Nodup.sublist (p.map _) h.2⟩
theorem Sep.swap (h : Sep S (L1 ++ (L2 ++ L3))) : Sep S (L2 ++ (L1 ++ L3)) := h.perm (by
  rw [← List.append_assoc, ← List.append_assoc]
  exact (List.perm_append_comm).append_right _)
theorem Sep.left (h : Sep S (L1 ++ L2)) : Sep S L1 := h.sub (List.sublist_append_left _ _)
theorem Sep.hd (h : Sep S ((n, c) :: L2)) : S[n]? = some c := h.get (by simp)
theorem Sep.setM (h : Sep S (L1 ++ (n, c) :: L2)) (c' : Cell) : Sep (S.set n c') (L1 ++ (n, c') :: L2) := by
  have hl : n < S.length := h.lt (by simp)
  refine ⟨fun p hp => ?_, by have := h.2; simpa using this⟩
  have nd := h.2
  rw [List.map_append, List.map_cons] at nd
  have nd1 := List.nodup_append.mp nd
  have nd2 := List.nodup_cons.mp nd1.2.1
  rcases List.mem_append.mp hp with hp | hp
  · have e : p.1 ≠ n := fun z => nd1.2.2 p.1 (List.mem_map_of_mem hp) n (by simp) z
    rw [List.getElem?_set_ne (Ne.symm e)]
    exact h.1 p (List.mem_append_left _ hp)
  · rcases List.mem_cons.mp hp with rfl | hp
    · exact List.getElem?_set_self hl
    · have e : p.1 ≠ n := fun z => nd2.1 (by show n ∈ _; rw [← z]; exact List.mem_map_of_mem hp)
      rw [List.getElem?_set_ne (Ne.symm e)]
      exact h.1 p (List.mem_append_right _ (List.mem_cons_of_mem _ hp))
theorem Sep.set0 (h : Sep S ((n, c) :: L2)) (c' : Cell) : Sep (S.set n c') ((n, c') :: L2) := Sep.setM (L1 := []) h c'
theorem Sep.newM (h : Sep S (L1 ++ L2)) (c : Cell) : Sep (S ++ [c]) (L1 ++ (S.length, c) :: L2) := by
  have lt : ∀ i, i ∈ (L1 ++ L2).map (·.1) → i < S.length := fun i hi => h.lt hi
  refine ⟨fun p hp => ?_, ?_⟩
  · have old : p ∈ L1 ++ L2 → (S ++ [c])[p.1]? = some p.2 := fun q => by
      rw [List.getElem?_append_left (lt p.1 (List.mem_map_of_mem q))]; exact h.1 p q
    rcases List.mem_append.mp hp with hp | hp
    · exact old (List.mem_append_left _ hp)
    · rcases List.mem_cons.mp hp with rfl | hp
      · simp
      · exact old (List.mem_append_right _ hp)
  · have nd := h.2
    rw [List.map_append] at nd ⊢
    rw [List.map_cons]
    obtain ⟨n1, n2, n3⟩ := List.nodup_append.mp nd
    refine List.nodup_append.mpr ⟨n1, List.nodup_cons.mpr ⟨fun z => Nat.lt_irrefl _ (lt _ (by rw [List.map_append]; exact List.mem_append_right _ z)), n2⟩, fun a ha b hb e => ?_⟩
    rcases List.mem_cons.mp hb with rfl | hb
    · exact Nat.lt_irrefl _ (e ▸ lt a (by rw [List.map_append]; exact List.mem_append_left _ ha))
    · exact n3 a ha b hb e
theorem Sep.new0 (h : Sep S L) (c : Cell) : Sep (S ++ [c]) ((S.length, c) :: L) := Sep.newM (L1 := []) h c
theorem Sep.app (h : Sep S L) (cs : List Cell) : Sep (S ++ cs) L := ⟨fun p hp => by
  rw [List.getElem?_append_left (h.lt (List.mem_map_of_mem hp))]; exact h.1 p hp, h.2⟩
theorem Sep.cons (h : Sep S L) (hc : S[n]? = some c) (hn : n ∉ L.map (·.1)) : Sep S ((n, c) :: L) := ⟨fun p hp => by
  rcases List.mem_cons.mp hp with rfl | hp
  · exact hc
  · exact h.1 p hp, by rw [List.map_cons]; exact List.nodup_cons.mpr ⟨hn, h.2⟩⟩
theorem Sep.keep {S' : Store} (h : Sep S L) (k : ∀ p, p ∈ L → S'[p.1]? = S[p.1]?) : Sep S' L := ⟨fun p hp => by rw [k p hp]; exact h.1 p hp, h.2⟩
end
end G
local macro_rules | `(tactic| wp_walk using $ts,*) => (let es := ts.getElems; let k := (es[0]!).raw.getId; let all : Array Lean.Name := #[`G.wr_ok, `G.wr_exc, `G.wr_lf, `G.wr_eC, `G.evQ_some, `G.wr_eVar, `G.cB2_s, `G.cB1_s, `G.wr_eBin, `G.cS2_s, `G.cS1_s, `G.wr_eBinS, `G.asQ_bl, `G.wr_tB, `G.truQ_s, `G.wr_tT, `G.notQ_s, `G.wr_tNt, `G.anQ_t, `G.anQ_f, `G.wr_tAn, `G.orQ_t, `G.orQ_f, `G.wr_tOr, `G.eaB_t, `G.eaB_f, `G.eaQ_s, `G.wr_eAn, `G.eoB_t, `G.eoB_f, `G.eoQ_s, `G.wr_eOr, `G.enB_s, `G.enQ_s, `G.wr_eNt, `G.eiQ_t, `G.eiQ_f, `G.wr_eIf, `G.negQ_int, `G.wr_eNeg, `G.wr_aNil, `G.cC2_s, `G.cC1_s, `G.wr_aCons, `G.tupQ_s, `G.lstQ_s, `G.newQ_s, `G.wr_eTup, `G.wr_eLst, `G.wr_eNew, `G.caQ_s, `G.wr_eCa, `G.clQ_s, `G.wr_eCall, `G.nAQ_s, `G.wr_nA, `G.tyQ_s, `G.wr_eIsTy, `G.icQ_s, `G.wr_eIsC, `G.mt2_s, `G.mt1_s, `G.wr_eMt, `G.wr_oNone, `G.oQ_int, `G.wr_oSome, `G.sl3_s, `G.sl2_s, `G.sl1_s, `G.wr_eSl, `G.kk2_s, `G.kk1_s, `G.wr_eCallK, `G.kk0_s, `G.wr_eCallK0, `G.wr_gN, `G.sb3_s, `G.sb2_s, `G.sb1_s, `G.wr_gSb, `G.wr_gsNil, `G.gs1_s, `G.wr_gsCons, `G.wr_gTp, `G.wr_gTp_rD, `G.xe_s, `G.sq_nx, `G.sq_rt, `G.sq_bk, `G.sq_ct, `G.sq_ex, `G.sq_xe, `G.ws_nxt, `G.ws_sNop, `G.ws_sSeq, `G.ws_sBrk, `G.ws_sCnt, `G.dropQ_s, `G.ws_sDrop, `G.ws_sRet, `G.ws_sRetN, `G.ifQ_t, `G.ifQ_f, `G.ws_sIf, `G.asg1_s, `G.ws_sAsg, `G.setQ_s, `G.ws_sSet, `G.parQ_s, `G.ws_sPar, `G.ws_sRaise, `G.fn_nx, `G.fn_rt, `G.fn_ex, `G.fn_xe, `G.su_nx, `G.su_bk, `G.su_ct, `G.su_rt, `G.trQ_t, `G.trQ_f, `G.tr_nx, `G.tr_rt, `G.tr_bk, `G.tr_ct, `G.tr_ex, `G.ws_sTry, `G.forQ_s, `G.ws_sFor, `G.lp_nx, `G.lp_rt, `G.lp_bk, `G.lp_ct, `G.lp_ex, `G.lp_xe, `G.ws_fi_nil, `G.bodyQ_s, `G.mid_nx, `G.mid_rt, `G.mid_bk, `G.mid_ct, `G.mid_ex, `G.mid_xe, `G.lc2_s, `G.lc1_s, `G.wr_eLc, `G.lcn2_s, `G.lcn1_s, `G.wr_eLcN, `G.wipe_nil, `G.wipe_cons, `G.wr_tTrue, `G.wr_lc_nil, `G.tgQ_some, `G.ly_s, `G.lt1_t, `G.lt1_f, `G.lg_s, `G.eqQ_s, `G.exQ_s, `G.seqQ_tup, `G.seqQ_lst, `G.seqQ_scr, `G.seqQ_rD, `G.wr_iSeq, `G.rgQ_int, `G.wr_iRg1, `G.rgQ2_int, `G.wr_iRg2, `G.ch3_t, `G.ch3_f, `G.ch2_s, `G.ch1_s, `G.wr_eChain, `G.flQ_s, `G.wr_eFld, `G.fldD_ins, `G.stQ_s, `G.sf2_s, `G.sf1_s, `G.ws_sFldM, `G.mkQ2_s, `G.mkQ1_s, `G.wr_eMk, `G.wr_eMk0, `G.ap2_s, `G.ap1_s, `G.wr_eApp, `G.zpQ_s, `G.wr_iZip, `G.zipR_tup, `G.zipR_lst, `G.srQ_s, `G.wr_iStrM, `G.strR_s, `G.ioQ_s, `G.wr_eIsO, `G.dAddS_int, `G.wr_gStr_tup, `G.wr_gStr_lst, `G.fTuple_lst, `G.fTuple_tup, `List.take_succ_cons, `List.take_zero, `List.drop_succ_cons, `List.drop_zero, `List.getElem?_cons_zero, `List.getElem?_cons_succ, `List.set_cons_zero, `List.set_cons_succ, `List.map_cons, `List.map_nil, `List.length_cons, `List.length_nil, `List.cons_append, `List.nil_append, `List.replicate_succ, `List.replicate_zero, `List.append_nil, `true_and, `and_true, `and_self, `if_true, `ite_true, `if_false, `ite_false, `Bool.false_eq_true, `Bool.not_true, `Bool.not_false, `Bool.not_not, `decide_true, `decide_false, `decide_eq_true_eq, `not_false_eq_true, `not_true_eq_false, `reduceCtorEq, `PySem.sizeLine_eq, `Option.map_some, `Option.some.injEq, `Nat.reduceSub, `Nat.reduceAdd, `Nat.reduceLeDiff, `Nat.reduceEqDiff, `Nat.zero_add, `Nat.reduceBEq, `List.contains_cons, `List.contains_nil, `beq_self_eq_true, `Bool.true_or, `Bool.or_true, `Bool.false_or, `Bool.or_false, `List.lookup_cons, `List.lookup_nil, `Int.reduceEq, `Int.reduceNe, `Int.reduceLT, `Int.reduceLE, `Int.reduceNeg, `Int.reduceAdd, `Int.reduceSub, `Int.cast_ofNat_Int, `ne_eq, `G.cmpI_s, `G.dGt, `G.dGe, `G.dLt, `G.dLe, `G.dAdd_int, `G.dSub_int, `G.dEq_int, `G.dNe_int, `G.dEq_bl, `G.dNe_bl, `G.truD_bl, `G.isTy_int, `G.isTy_bl, `G.isTy_tup, `G.fLen_tup, `G.fLen_scr, `G.fLen_lst, `G.fAbs_int, `G.fMax_int, `G.fMin_int, `G.ixD_tup, `G.ixD_lst, `G.ixD_scr, `G.isTy_rD, `G.fLen_rD, `G.ix_rD0, `G.ix_rD1, `G.dEq_rD, `G.dNe_rD, `G.dIs_rD, `G.dIsNot_rD, `G.Tn.is, `G.me3_s, `G.me2_s, `G.me1_s, `G.wr_eMeth, `G.mk2_s, `G.mk1_s, `G.wr_eMethK, `G.m01_s, `G.wr_eMeth0, `G.wr_eNewD, `G.dg3_s, `G.dg2_s, `G.dg1_s, `G.wr_eDGet2, `G.dh2_s, `G.dh1_s, `G.wr_eDGet1, `G.dp3_s, `G.dp2_s, `G.dp1_s, `G.wr_eDPop2, `G.dq2_s, `G.dq1_s, `G.wr_eDPop1, `G.se2_s, `G.se1_s, `G.wr_gSbE, `G.ssQ_s, `G.wr_eSortSet, `G.an2_s, `G.an1_s, `G.wr_eAddN, `G.celQ_tup, `G.celQ_lst, `G.celQ_scr, `G.wr_iCel, `G.forcQ_s, `G.ws_sForC, `G.lcc1_s, `G.wr_eLcC, `G.lcd1_s, `G.wr_eLcCN, `G.keyD_int, `G.keyD_str, `Option.isSome_some, `G.fmQ_s, `G.wr_eFmt, `G.jsQ_str, `G.wr_js_nil, `G.wr_js_cons, `G.wr_eJs, `G.s4Q_str, `G.soQ_s, `G.wr_eStrO, `G.dAddE_0, `G.wr_eCallV, `G.chQ_s, `G.wr_eCallH, `G.wr_lamF, `G.oj_s, `G.enuQ_s, `G.wr_iEnum, `G.enR_tup, `G.enR_lst, `G.lrQ_int, `G.wr_eLr, `G.lrnQ_int, `G.wr_eLrN, `G.agQ_s, `G.auP_s, `G.ws_sAug, `G.augR_int, `G.pp2_s, `G.pp1_s, `G.wr_ePop, `G.wr_gSq_tup, `G.wr_gSq_lst, `G.lnQ_lst, `G.lnQ_tup, `G.wr_eListN, `G.rvQ_lst, `G.wr_eRev, `G.rfQ_s, `G.ws_sRaiseF, `G.trG_nx, `G.trG_rt, `G.trG_bk, `G.trG_ct, `G.trG_ex, `G.ws_sTryG, `G.ws_hd_nil, `G.hdP_t, `G.hdP_f, `G.ws_hd_cons, `G.setO_some, `G.setO_none, `G.ws_suS, `G.suN_nx, `G.suN_rt, `G.suN_bk, `G.suN_ct, `G.ws_suN, `G.iyQ_s, `G.wr_eIsY, `G.isY_exc, `G.fyQ_s, `G.wr_eFldY, `G.fldY_exc, `G.toQ_s, `G.wr_eIsTyO, `G.isTyO_tup, `G.isTyO_lst, `G.isTyO_int, `G.tm2_s, `G.tm1_s, `G.wr_eTm, `G.rgQN_int, `G.wr_iRgN, `G.gf1_s, `G.wr_gFl, `G.as3_s, `G.as2_s, `G.as1_s, `G.ws_sAsg3, `G.at1_s, `G.ws_sAsg2, `G.ws_sFldA, `G.ds3_s, `G.ds2_s, `G.ds1_s, `G.wr_eDSetd, `G.dispQ_s, `G.wr_eDisp, `G.rm2_s, `G.rm1_s, `G.wr_eRem, `G.parQ3_s, `G.ws_sPar3, `G.th_nx, `G.th_rt, `G.th_xe, `G.wr_iDv, `G.wr_iDi, `G.wr_iDk, `G.wr_iTk, `G.wr_eTs1, `G.tu2_s, `G.tu1_s, `G.wr_eTsU, `G.dct1_s, `G.dcQ_s, `G.wr_eDcT, `G.dt1_t, `G.dt1_f, `G.dgg_s]; let cut : Nat := if k == `zstop || k == `zust then 1 else if k == `zstf then 2 else if k == `zstq then 3 else 0; let sel := all.filter fun n => !((cut == 1 && n == `G.ws_sIf) || (cut == 2 && (n == `G.ws_sIf || n == `G.ws_sFor || n == `G.ws_sForC)) || (cut == 3 && n.getString!.startsWith "ws_")); let ids : Lean.TSyntaxArray `term := sel.map fun n => ⟨(Lean.mkIdent n).raw⟩; let r1 : Lean.TSyntaxArray `term := ids ++ es.extract 1 es.size; let r2 : Lean.TSyntaxArray `term := ids ++ es.extract 2 es.size; let r0 : Lean.TSyntaxArray `term := ids ++ es; if k == `zust || k == `zuse then `(tactic| (have hq0 := $(es[1]!); simp only [$[$r2:term],*] at hq0; exact hq0)) else if cut == 0 then `(tactic| try simp only [$[$r0:term],*]) else `(tactic| try simp only [$[$r1:term],*]))
namespace C
open PySem G
noncomputable section
def g_Bookings_spots_2_ : List D → List D → List D := fun ds es => [(ds.getD 0 .non), (ds.getD 1 .non)]
def g_Bookings_sum_at_3_ : List D → List D → List D := fun ds es => [(ds.getD 0 .non), (ds.getD 1 .non), (ds.getD 2 .non)]
def g_Bookings_most_booked_3_ : List D → List D → List D := fun ds es => [(ds.getD 0 .non), (ds.getD 1 .non), (ds.getD 2 .non)]
def b_Bookings_bookF (N : Nat) : SM := (sSeq (sDrop (eCall (C.m_check_number N) (nA 1 (aCons (eVar 1) aNil))))
    (sSeq (sDrop (eCall (C.m_check_time N) (nA 1 (aCons (eVar 2) aNil))))
    (sSeq (sIf (tOr' (tAn (tB (eBin dNe (eVar 3) (eC (.tup [.int 0, .int 1])))) (tNt (tT (eCall (C.m_is_rate N) (nA 1 (aCons (eVar 3) aNil)))))) (tNt (tT (eCall (C.m_is_time N) (nA 1 (aCons (eVar 3) aNil)))))) (sRaiseF 6 5 (eVar 3)) sNop)
    (sSeq (sSet 4 (eLcCN (iCel (eDPop2 (eFld [34, 45] 9 (eVar 0)) (eVar 1) (eLst aNil))) (.nm 5) (tT (eCall (C.m_is_before N) (nA 2 (aCons (eBinS ixD (eVar 5) (eC (.int 0))) (aCons (eVar 2) aNil))))) (eVar 5) [5]))
    (sSeq (sIf (tB (eBin dNe (eIf (tT (eVar 4)) (eBinS ixD (eBinS ixD (eVar 4) (eNeg (eC (.int 1)))) (eC (.int 1))) (eC (.tup [.int 0, .int 1]))) (eVar 3))) (sDrop (eApp (eVar 4) (aCons (eTup (aCons (eVar 2) (aCons (eVar 3) aNil))) aNil))) sNop)
    (sIf (tT (eVar 4)) (sAsg (eVar 4) (gSbE (eFld [34, 45] 9 (eVar 0)) (eVar 1))) sNop))))))
def m_Bookings_bookF (N : Nat) : FM := fnM 6 (b_Bookings_bookF N)
def b_Bookings_spots (N : Nat) : SM := (sSeq (sSet 2 (eTs1 (eVar 1)))
    (sSeq (sLk (loE (eFld [34, 45] 9 (eVar 0))) (sFor (iDv (eFld [34, 45] 9 (eVar 0))) (gN 3) (sDrop (eTsU (eVar 2) (eDcT (iCel (eVar 3)) (.nm 7) (tT (eCall (C.m_is_before N) (nA 2 (aCons (eVar 1) (aCons (eBinS ixD (eVar 7) (eC (.int 0))) aNil))))) (eBinS ixD (eVar 7) (eC (.int 0))) [7])))))
    (sSeq (sSet 4 (eNew aNil))
    (sSeq (sLk (loE (eVar 2)) (sFor (iTk (eVar 2)) (gN 5) (sSeq (sSet 6 (eCa fLen (aCons (eLc (iTk (eVar 2)) (.nm 8) (tT (eCall (C.m_is_before N) (nA 2 (aCons (eVar 8) (aCons (eVar 5) aNil))))) (eVar 8) [8]) aNil)))
    (sDrop (eApp (eVar 4) (aCons (eTup (aCons (eVar 6) (aCons (eVar 5) aNil))) aNil))))))
    (sRet (eLc (iSeq (eCa fSortP (aCons (eVar 4) aNil))) (.tp [6, 5]) tTrue (eVar 5) [6, 5]))))))
def m_Bookings_spots (N : Nat) : FM := fnM 9 (b_Bookings_spots N)
def b_Bookings_sum_at (N : Nat) : SM := (sSeq (sSet 3 (eC (.tup [.int 0, .int 1])))
    (sSeq (sLk (loE (eFld [34, 45] 9 (eVar 0))) (sFor (iDi (eFld [34, 45] 9 (eVar 0))) (gTp 2 (gsCons' (gN 4) (gsCons' (gN 5) gsNil))) (sIf (tB (eBin dNe (eVar 4) (eVar 2))) (sSet 3 (eCall (C.m_added N) (nA 2 (aCons (eVar 3) (aCons (eCall (C.m_at_time N) (nA 2 (aCons (eVar 5) (aCons (eVar 1) aNil)))) aNil))))) sNop)))
    (sRet (eVar 3))))
def m_Bookings_sum_at (N : Nat) : FM := fnM 6 (b_Bookings_sum_at N)
def b_Bookings_most_booked (N : Nat) : SM := (sSeq (sDrop (eCall (C.m_check_time N) (nA 1 (aCons (eVar 1) aNil))))
    (sSeq (sIf (tB (eBin dIsNot (eVar 2) (eC .non))) (sDrop (eCall (C.m_check_number N) (nA 1 (aCons (eVar 2) aNil)))) sNop)
    (sSeq (sSet 3 (eC (.tup [.int 0, .int 1])))
    (sSeq (sFor (iSeq (eMeth 34 (m_Bookings_spots N) g_Bookings_spots_2_ 1 0 (eVar 0) (aCons (eVar 1) aNil) aNil)) (gN 4) (sSet 3 (eCall (C.m_greater N) (nA 2 (aCons (eVar 3) (aCons (eMeth 34 (m_Bookings_sum_at N) g_Bookings_sum_at_3_ 2 0 (eVar 0) (aCons (eVar 4) (aCons (eVar 2) aNil)) aNil) aNil))))))
    (sRet (eVar 3))))))
def m_Bookings_most_booked (N : Nat) : FM := fnM 5 (b_Bookings_most_booked N)
abbrev Ls := List (Int × Nat × List (Rat × Rat))
def lnD (ls : Ls) : List (L2.Key × D) := ls.map fun x => (.inl x.1, .loc x.2.1)
def lnH (ls : Ls) : HL := ls.map fun x => (x.2.1, .lst (x.2.2.map rowD))
def bkH (n n1 : Nat) (ls : Ls) : HL := (n, .obj 34 [(9, .loc n1)]) :: (n1, .dk (lnD ls)) :: lnH ls
def lineOf (ls : Ls) (i : Int) : List (Rat × Rat) := match ls.find? fun x => decide (x.1 = i) with
  | some x => x.2.2
  | none => []
structure LsOk (ls : Ls) (c m : Nat) : Prop where
  nd : (ls.map (·.1)).Nodup
  len : ls.length ≤ c
  tot : (ls.map fun x => x.2.2.length).sum ≤ c
  each : ∀ x, x ∈ ls → 0 ≤ x.1 ∧ ∀ p, p ∈ x.2.2 → Bt p.1 m ∧ 0 ≤ p.1 ∧ Bt p.2 31 ∧ 0 ≤ p.2 ∧ p.2 ≤ 1
theorem LsOk.mono {ls : Ls} {c c' m m' : Nat} (h : LsOk ls c m) (hc : c ≤ c') (hm : m ≤ m') : LsOk ls c' m' :=
  ⟨h.nd, Nat.le_trans h.len hc, Nat.le_trans h.tot hc, fun x hx => ⟨(h.each x hx).1, fun p hp => ⟨((h.each x hx).2 p hp).1.mono hm, ((h.each x hx).2 p hp).2⟩⟩⟩
theorem sum_mem {l : List Nat} {k : Nat} (h : k ∈ l) : k ≤ l.sum := by
  induction l with
  | nil => cases h
  | cons a l ih =>
    rw [List.sum_cons]
    rcases List.mem_cons.mp h with rfl | h
    · omega
    · have := ih h; omega
theorem LsOk.line {ls : Ls} {c m : Nat} (h : LsOk ls c m) {x : Int × Nat × List (Rat × Rat)} (hx : x ∈ ls) : x.2.2.length ≤ c := Nat.le_trans (sum_mem (List.mem_map.mpr ⟨x, hx, rfl⟩)) h.tot
theorem sum_filt (ls : Ls) (i : Int) : ((ls.filter fun x => decide (x.1 ≠ i)).map fun x => x.2.2.length).sum + (lineOf ls i).length ≤ (ls.map fun x => x.2.2.length).sum := by
  unfold lineOf
  induction ls with
  | nil => exact Nat.le_refl _
  | cons x l ih =>
    rw [List.find?_cons, List.filter_cons, List.map_cons, List.sum_cons]
    by_cases c : x.1 = i
    · rw [decide_eq_true c, decide_eq_false (fun z => z c), if_neg (by simp)]
      have : ((l.filter fun x => decide (x.1 ≠ i)).map fun x => x.2.2.length).sum ≤ (l.map fun x => x.2.2.length).sum := Nat.le_trans (Nat.le_add_right _ _) ih
      show _ + x.2.2.length ≤ _
      omega
    · rw [decide_eq_false c, decide_eq_true c, if_pos rfl, List.map_cons, List.sum_cons]
      dsimp only
      omega
theorem lnD_len (ls : Ls) : (lnD ls).length = ls.length := List.length_map _
theorem valD_ln (ls : Ls) (i : Int) : valD (lnD ls) (.inl i) = (ls.find? fun x => decide (x.1 = i)).map fun x => .loc x.2.1 := by
  unfold valD lnD
  induction ls with
  | nil => rfl
  | cons x l ih =>
    rw [List.map_cons, List.find?_cons, List.find?_cons]
    by_cases c : x.1 = i
    · simp [c]
    · have c' : (Sum.inl x.1 : L2.Key) ≠ .inl i := fun z => c (Sum.inl.inj z)
      simp only [decide_eq_false c, decide_eq_false c']
      exact ih
theorem drop_ln (ls : Ls) (i : Int) : dropKD (lnD ls) (.inl i) = lnD (ls.filter fun x => decide (x.1 ≠ i)) := by
  unfold dropKD lnD
  rw [List.filter_map]
  congr 1
  apply List.filter_congr
  intro x _
  simp [Function.comp]
theorem put_ln {ls : Ls} {i : Int} (a : Nat) (l : List (Rat × Rat)) (h : ∀ x, x ∈ ls → x.1 ≠ i) : putKD (lnD ls) (.inl i) (.loc a) = lnD (ls ++ [(i, a, l)]) := by
  unfold putKD
  rw [if_neg]
  · unfold lnD; rw [List.map_append]; rfl
  · intro z
    obtain ⟨p, hp, e⟩ := List.any_eq_true.mp z
    unfold lnD at hp
    obtain ⟨x, hx, rfl⟩ := List.mem_map.mp hp
    exact h x hx (by simpa using e)
theorem find_mem {ls : Ls} {i : Int} {x : Int × Nat × List (Rat × Rat)} (h : (ls.find? fun x => decide (x.1 = i)) = some x) : x ∈ ls ∧ x.1 = i := ⟨List.mem_of_find?_eq_some h, by simpa using List.find?_some h⟩
theorem find_none {ls : Ls} {i : Int} (h : (ls.find? fun x => decide (x.1 = i)) = none) : ∀ x, x ∈ ls → x.1 ≠ i := fun x hx => by simpa using List.find?_eq_none.mp h x hx
theorem filt_none {ls : Ls} {i : Int} (h : ∀ x, x ∈ ls → x.1 ≠ i) : (ls.filter fun x => decide (x.1 ≠ i)) = ls := List.filter_eq_self.mpr fun x hx => by simpa using h x hx
def bookA (ls : Ls) (i : Int) (s r : Rat) (a : Nat) : Ls := (ls.filter fun x => decide (x.1 ≠ i)) ++ (if bookL (lineOf ls i) s r = [] then [] else [(i, a, bookL (lineOf ls i) s r)])
theorem lnH_mem {ls : Ls} {x : Int × Nat × List (Rat × Rat)} (h : x ∈ ls) : (x.2.1, Cell.lst (x.2.2.map rowD)) ∈ lnH ls := List.mem_map.mpr ⟨x, h, rfl⟩
theorem lineOf_ok {ls : Ls} {c m : Nat} (h : LsOk ls c m) (i : Int) : ∀ p, p ∈ lineOf ls i → Bt p.1 m ∧ 0 ≤ p.1 ∧ Bt p.2 31 ∧ 0 ≤ p.2 ∧ p.2 ≤ 1 := by
  unfold lineOf
  cases e : ls.find? fun x => decide (x.1 = i) with
  | none => exact fun p hp => by cases hp
  | some x => exact (h.each x (find_mem e).1).2
theorem bookA_ok {ls : Ls} {c m : Nat} (h : LsOk ls c m) {i : Int} (i0 : 0 ≤ i) {s r : Rat} (bs : Bt s m) (s0 : 0 ≤ s) (br : Bt r 31) (r0 : 0 ≤ r) (r1 : r ≤ 1) (a : Nat) : LsOk (bookA ls i s r a) (c + 1) m := by
  have hf : ∀ x, x ∈ (ls.filter fun x => decide (x.1 ≠ i)) → x ∈ ls ∧ x.1 ≠ i := fun x hx => by simpa using List.mem_filter.mp hx
  have hfl := List.length_filter_le (fun x : Int × Nat × List (Rat × Rat) => decide (x.1 ≠ i)) ls
  have hlo := lineOf_ok h i
  have hbl := book_len (lineOf ls i) s r
  have hbm : ∀ p, p ∈ bookL (lineOf ls i) s r → Bt p.1 m ∧ 0 ≤ p.1 ∧ Bt p.2 31 ∧ 0 ≤ p.2 ∧ p.2 ≤ 1 := fun p hp => by
    rcases book_mem hp with hp | rfl
    · exact hlo p hp
    · exact ⟨bs, s0, br, r0, r1⟩
  have hl := h.len
  refine ⟨?_, ?_, ?_, fun x hx => ?_⟩
  · unfold bookA
    have n1 : ((ls.filter fun x => decide (x.1 ≠ i)).map (·.1)).Nodup := List.Nodup.sublist (List.Sublist.map _ List.filter_sublist) h.nd
    split
    · rw [List.append_nil]; exact n1
    · rw [List.map_append]
      refine List.nodup_append.mpr ⟨n1, by simp, fun a ha b hb e => ?_⟩
      obtain ⟨x, hx, rfl⟩ := List.mem_map.mp ha
      simp at hb
      exact (hf x hx).2 (by rw [e, hb])
  · unfold bookA
    rw [List.length_append]
    split
    · rw [List.length_nil]; omega
    · show _ + 1 ≤ _; omega
  · have h1 := sum_filt ls i
    have h2 := h.tot
    unfold bookA
    rw [List.map_append, List.sum_append]
    split
    · show _ + 0 ≤ _; omega
    · show _ + ((bookL (lineOf ls i) s r).length + 0) ≤ _; omega
  · unfold bookA at hx
    rcases List.mem_append.mp hx with hx | hx
    · exact h.each x (hf x hx).1
    · split at hx
      · cases hx
      · rw [List.mem_singleton.mp hx]
        exact ⟨i0, hbm⟩
theorem lnH_filter {ls : Ls} {q : (Int × Nat × List (Rat × Rat)) → Bool} : (lnH (ls.filter q)).Sublist (lnH ls) := List.Sublist.map _ List.filter_sublist
theorem sub_sum {l m : List Nat} (h : l.Sublist m) : l.sum ≤ m.sum := by
  induction h with
  | slnil => exact Nat.le_refl _
  | cons a _ ih => rw [List.sum_cons]; omega
  | cons_cons a _ ih => rw [List.sum_cons, List.sum_cons]; omega
theorem at_w2 {N : Nat} (hN : big N) {S : Store} {l : List (Rat × Rat)} {t : Rat} {m mp : Nat} (ht : Bt t m) (hm : m + mp ≤ 9000) (hb : ∀ p, p ∈ l → Bt p.1 mp) {k : KS} {x0 x3 x4 : Option D} {ck : Store → Prop} (hc : ck S) (h : ∀ x3 x4, k.nx [x0, some (rD t), some (rD (atT l t)), x3, x4] S) :
    Ws (fiC ck (gTp 2 (gsCons' (gN 3) (gsCons' (gN 4) gsNil))) (sIf (tNt (tT (eCall (m_is_before N) (nA 2 (aCons (eVar 1) (aCons (eVar 3) aNil)))))) (sSet 2 (eVar 4)) sNop) (l.map rowD) [x0, some (rD t), some (rD 0), x3, x4] S) k := by
  refine forC_w (fun i e S' => S' = S ∧ i ≤ l.length ∧ ∃ x3 x4, e = [x0, some (rD t), some (rD (atT (l.take i) t)), x3, x4]) ⟨rfl, Nat.zero_le _, _, _, rfl⟩ (fun _ _ _ z => z.1 ▸ hc) ?_ ?_
  · rintro i d e S' hd ⟨rfl, hi, y3, y4, rfl⟩
    rw [List.getElem?_map] at hd
    obtain ⟨p, hp, rfl⟩ := Option.map_eq_some_iff.mp hd
    have hpm := List.mem_of_getElem? hp
    have hl : i < l.length := (List.getElem?_eq_some_iff.mp hp).1
    have et : atT (l.take (i + 1)) t = if t < p.1 then atT (l.take i) t else p.2 := by
      rw [List.take_add_one, hp]; exact atT_snoc _ _ _
    unfold rowD
    by_cases c : t < p.1
    · rw [if_pos c] at et
      wp_walk using before_ok (S := S') hN ht (hb p hpm) hm, c
      exact ⟨hl, _, _, by rw [et]⟩
    · rw [if_neg c] at et
      wp_walk using before_ok (S := S') hN ht (hb p hpm) hm, c
      exact ⟨hl, _, _, by rw [et]⟩
  · rintro e S' ⟨rfl, _, y3, y4, rfl⟩
    rw [List.length_map, List.take_length]
    exact h _ _
theorem at_time_ok {N : Nat} (hN : big N) {S : Store} {l : List (Rat × Rat)} {t : Rat} {m mp j : Nat} (ht : Bt t m) (hm : m + mp ≤ 9000) (hb : ∀ p, p ∈ l → Bt p.1 mp) (hj : S[j]? = some (.lst (l.map rowD))) : m_at_time N [.loc j, rD t] S = .ok (rD (atT l t)) S := by
  apply eq_of_w
  rw [m_at_time, wr_fnM, b_at_time]
  wp_walk using celQ_loc hj
  rw [rD_00]
  refine at_w2 hN ht hm hb hj fun x3 x4 => ?_
  wp_walk using G.wr_ok
def sumA (ls : Ls) (t : Rat) (but : Option Int) : Rat := ls.foldl (fun acc x => if but = some x.1 then acc else acc + atT x.2.2 t) 0
def iD : Option Int → D
  | some i => .int i
  | none => .non
theorem dNe_iD (i : Int) (o : Option Int) : dNe (.int i) (iD o) = some (.bl (!decide (o = some i))) := by
  cases o with
  | none => rfl
  | some j =>
    show dNe (.int i) (.int j) = _
    rw [dNe_int]
    by_cases e : i = j
    · subst e; simp
    · have e' : ¬ j = i := fun z => e z.symm
      simp [e, e']
theorem atT_ok {l : List (Rat × Rat)} {m : Nat} (h : ∀ p, p ∈ l → Bt p.1 m ∧ 0 ≤ p.1 ∧ Bt p.2 31 ∧ 0 ≤ p.2 ∧ p.2 ≤ 1) (t : Rat) : Bt (atT l t) 31 ∧ 0 ≤ atT l t ∧ atT l t ≤ 1 := by
  unfold atT
  have : ∀ (z : Rat), Bt z 31 ∧ 0 ≤ z ∧ z ≤ 1 → Bt (l.foldl (fun f p => if t < p.1 then f else p.2) z) 31 ∧ 0 ≤ l.foldl (fun f p => if t < p.1 then f else p.2) z ∧ l.foldl (fun f p => if t < p.1 then f else p.2) z ≤ 1 := by
    induction l with
    | nil => exact fun z hz => hz
    | cons p l ih =>
      intro z hz
      rw [List.foldl_cons]
      refine ih (fun q hq => h q (List.mem_cons_of_mem _ hq)) _ ?_
      split
      · exact hz
      · exact (h p List.mem_cons_self).2.2
  exact this 0 ⟨bt_0.mono (by omega), by decide, by decide⟩
theorem sumA_snoc (ls : Ls) (x : Int × Nat × List (Rat × Rat)) (t : Rat) (but : Option Int) : sumA (ls ++ [x]) t but = if but = some x.1 then sumA ls t but else sumA ls t but + atT x.2.2 t := by
  unfold sumA; rw [List.foldl_append]; rfl
theorem sumA_ok {ls : Ls} {c m : Nat} (h : LsOk ls c m) (t : Rat) (but : Option Int) : Bt (sumA ls t but) (32 * ls.length + 1) ∧ 0 ≤ sumA ls t but := by
  have hx := h.each
  clear h
  generalize hn : ls.length = n
  induction n generalizing ls with
  | zero =>
    have : ls = [] := List.length_eq_zero_iff.mp hn
    subst this
    exact ⟨bt_0, by show (0 : Rat) ≤ 0; decide⟩
  | succ n ih =>
    rcases List.eq_nil_or_concat ls with rfl | ⟨l, x, rfl⟩
    · simp at hn
    · rw [List.concat_eq_append] at hx hn ⊢
      have hl : l.length = n := by simp at hn; exact hn
      have i1 := ih (fun y hy => hx y (List.mem_append_left _ hy)) hl
      have i2 := atT_ok (hx x (by simp)).2 t
      rw [sumA_snoc]
      split
      · exact ⟨i1.1.mono (by omega), i1.2⟩
      · refine ⟨(Bt.add i1.1 i2.1).mono (by omega), by have := i1.2; have := i2.2.1; grind⟩
theorem sum_at_ok {N : Nat} (hN : big N) {S : Store} {n n1 c m mt : Nat} {ls : Ls} {t : Rat} {but : Option Int} (hs : Sep S (bkH n n1 ls)) (ok : LsOk ls c m) (hc : c ≤ 200) (ht : Bt t mt) (hm : mt + m ≤ 9000) :
    m_Bookings_sum_at N [.loc n, rD t, iD but] S = .ok (rD (sumA ls t but)) S := by
  have h1 : S[n]? = some (.obj 34 [(9, .loc n1)]) := hs.get (by unfold bkH; simp)
  have h2 : S[n1]? = some (.dk (lnD ls)) := hs.get (by unfold bkH; simp)
  have hf : fldD [34, 45] 9 S (.loc n) = some (.loc n1) := by rw [fldD_loc h1]; rfl
  have nn : n1 ≠ n := fun e => by rw [e, h1] at h2; cases h2
  have n1l := (List.getElem?_eq_some_iff.mp h2).1
  have back : (S.set n1 (.fk (lnD ls))).set n1 (.dk (lnD ls)) = S := by
    rw [List.set_set]
    exact List.ext_getElem? fun j => by
      by_cases e : j = n1
      · subst e; rw [List.getElem?_set_self n1l]; exact h2.symm
      · rw [List.getElem?_set_ne (Ne.symm e)]
  apply eq_of_w
  rw [m_Bookings_sum_at, wr_fnM, b_Bookings_sum_at]
  have hlo : loE (eFld [34, 45] 9 (eVar 0)) [some (.loc n), some (rD t), some (iD but), some (.tup [.int 0, .int 1]), none, none] S = some n1 := loE_s (S' := S) (by
    unfold eFld eVar; show (Res.ok (D.loc n) S).bind _ = _; show lf (fldD [34, 45] 9 S (.loc n)) S = _; rw [hf]; rfl)
  wp_walk using G.wr_ok
  rw [ws_sLk hlo h2 (frz_dk _)]
  generalize hS1 : S.set n1 (.fk (lnD ls)) = S1
  have g1 : S1[n1]? = some (.fk (lnD ls)) := by rw [← hS1]; exact List.getElem?_set_self n1l
  have g2 : S1[n]? = some (.obj 34 [(9, .loc n1)]) := by rw [← hS1, List.getElem?_set_ne nn]; exact h1
  have hf1 : fldD [34, 45] 9 S1 (.loc n) = some (.loc n1) := by rw [fldD_loc g2]; rfl
  have g3 : ∀ x, x ∈ ls → S1[x.2.1]? = some (.lst (x.2.2.map rowD)) := fun x hx => by
    have q : S[x.2.1]? = some (.lst (x.2.2.map rowD)) := hs.get (by unfold bkH; exact List.mem_cons_of_mem _ (List.mem_cons_of_mem _ (lnH_mem hx)))
    rw [← hS1, List.getElem?_set_ne (fun e => by rw [← e, h2] at q; cases q)]; exact q
  wp_walk using hf1, diQ_s g1
  rw [rD_00]
  refine for_w (fun j e S' => S' = S1 ∧ j ≤ ls.length ∧ ∃ x4 x5, e = [some (.loc n), some (rD t), some (iD but), some (rD (sumA (ls.take j) t but)), x4, x5]) ⟨rfl, Nat.zero_le _, _, _, rfl⟩ ?_ ?_
  · rintro j d e S' hd ⟨rfl, hj, x4, x5, rfl⟩
    unfold lnD at hd
    rw [List.getElem?_map, List.getElem?_map] at hd
    obtain ⟨kv, hkv, rfl⟩ := Option.map_eq_some_iff.mp hd
    obtain ⟨x, hx, rfl⟩ := Option.map_eq_some_iff.mp hkv
    have hxm := List.mem_of_getElem? hx
    have hl : j < ls.length := (List.getElem?_eq_some_iff.mp hx).1
    have et : sumA (ls.take (j + 1)) t but = if but = some x.1 then sumA (ls.take j) t but else sumA (ls.take j) t but + atT x.2.2 t := by
      rw [List.take_add_one, hx]; exact sumA_snoc _ _ _ _
    have ok' : LsOk (ls.take j) c m := ⟨List.Nodup.sublist (List.Sublist.map _ (List.take_sublist _ _)) ok.nd, by have := ok.len; rw [List.length_take]; omega, Nat.le_trans (sub_sum (List.Sublist.map _ (List.take_sublist _ _))) ok.tot, fun y hy => ok.each y (List.mem_of_mem_take hy)⟩
    have b1 := (sumA_ok ok' t but).1
    have b2 := (atT_ok (ok.each x hxm).2 t).1
    have hll : (ls.take j).length ≤ 200 := by have := ok'.len; omega
    show Wr (gTp 2 _ (.tup [.int x.1, .loc x.2.1]) _ _) _ _
    by_cases cb : but = some x.1
    · rw [if_pos cb] at et
      subst cb
      wp_walk using dNe_iD
      exact ⟨hl, _, _, by rw [et]⟩
    · rw [if_neg cb] at et
      wp_walk using dNe_iD, cb, at_time_ok hN ht hm (fun p hp => ((ok.each x hxm).2 p hp).1) (g3 x hxm), added_ok (S := S') hN b1 b2 (by omega)
      exact ⟨hl, _, _, by rw [et]⟩
  · rintro e S' ⟨rfl, _, x4, x5, rfl⟩
    rw [List.length_map, lnD_len, List.take_length]
    rw [th_nx, ← hS1, back]
    wp_walk using G.wr_ok
def rI (q : Rat) : List Int := [q.num, (q.den : Int)]
theorem rI_inj {p q : Rat} (h : rI p = rI q) : p = q := by
  unfold rI at h
  injection h with h1 h2
  injection h2 with h2 _
  exact Rat.ext h1 (by omega)
theorem intsK_rD (q : Rat) : intsK (rD q) = some (rI q) := rfl
def addQ (K : List Rat) (q : Rat) : List Rat := if q ∈ K then K else K ++ [q]
theorem rI_mem {K : List Rat} {q : Rat} : rI q ∈ K.map rI ↔ q ∈ K := ⟨fun h => by
  obtain ⟨p, hp, e⟩ := List.mem_map.mp h
  rw [← rI_inj e]; exact hp, fun h => List.mem_map_of_mem h⟩
theorem addK_rI (K : List Rat) (q : Rat) : addK (K.map rI) (rI q) = (addQ K q).map rI := by
  unfold addK addQ
  by_cases h : q ∈ K
  · rw [if_pos h, if_pos (rI_mem.mpr h)]
  · rw [if_neg h, if_neg fun z => h (rI_mem.mp z), List.map_append]; rfl
def unQ (K M : List Rat) : List Rat := M.foldl addQ K
theorem unK_rI (K M : List Rat) : unK (K.map rI) (M.map rI) = (unQ K M).map rI := by
  unfold unK unQ
  induction M generalizing K with
  | nil => rfl
  | cons q M ih =>
    rw [List.map_cons, List.foldl_cons, List.foldl_cons, addK_rI]
    exact ih _
theorem mem_addQ {K : List Rat} {q t : Rat} : t ∈ addQ K q ↔ t ∈ K ∨ t = q := by
  unfold addQ
  split
  · exact ⟨.inl, fun h => h.elim id fun e => by rw [e]; assumption⟩
  · rw [List.mem_append, List.mem_singleton]
theorem nd_addQ {K : List Rat} {q : Rat} (h : K.Nodup) : (addQ K q).Nodup := by
  unfold addQ
  split
  · exact h
  · rename_i hq
    exact List.nodup_append.mpr ⟨h, by simp, fun a ha b hb e => hq (by rw [← List.mem_singleton.mp hb, ← e]; exact ha)⟩
theorem len_addQ (K : List Rat) (q : Rat) : (addQ K q).length ≤ K.length + 1 := by
  unfold addQ
  split
  · omega
  · rw [List.length_append]; exact Nat.le_refl _
theorem unQ_cons (K : List Rat) (q : Rat) (M : List Rat) : unQ K (q :: M) = unQ (addQ K q) M := rfl
theorem mem_unQ {K M : List Rat} {t : Rat} : t ∈ unQ K M ↔ t ∈ K ∨ t ∈ M := by
  induction M generalizing K with
  | nil => exact ⟨.inl, fun h => h.elim id fun z => by cases z⟩
  | cons q M ih =>
    rw [unQ_cons, ih, mem_addQ, List.mem_cons, or_assoc]
theorem nd_unQ {K M : List Rat} (h : K.Nodup) : (unQ K M).Nodup := by
  induction M generalizing K with
  | nil => exact h
  | cons q M ih => rw [unQ_cons]; exact ih (nd_addQ h)
theorem len_unQ (K M : List Rat) : (unQ K M).length ≤ K.length + M.length := by
  induction M generalizing K with
  | nil => exact Nat.le_refl _
  | cons q M ih =>
    have := ih (K := addQ K q)
    have := len_addQ K q
    rw [unQ_cons, List.length_cons]; omega
def rkQ (K : List Rat) (t : Rat) : Nat := (K.filter fun u => decide (u < t)).length
theorem rkQ_lt {K : List Rat} {t u : Rat} (ht : t ∈ K) (h : t < u) : rkQ K t < rkQ K u := by
  unfold rkQ
  induction K with
  | nil => cases ht
  | cons v K ih =>
    have le : ∀ K : List Rat, (K.filter fun w => decide (w < t)).length ≤ (K.filter fun w => decide (w < u)).length := fun K => by
      induction K with
      | nil => exact Nat.le_refl _
      | cons w K ih =>
        rw [List.filter_cons, List.filter_cons]
        by_cases c : w < t
        · have c' : w < u := by grind
          rw [if_pos (by simpa using c), if_pos (by simpa using c')]
          simpa using ih
        · rw [if_neg (by simpa using c)]
          split
          · rw [List.length_cons]; omega
          · exact ih
    rw [List.filter_cons, List.filter_cons]
    rcases List.mem_cons.mp ht with rfl | ht
    · have a : ¬ t < t := by grind
      rw [if_neg (by simpa using a), if_pos (by simpa using h), List.length_cons]
      have := le K; omega
    · have := ih ht
      by_cases c : v < t
      · have c' : v < u := by grind
        rw [if_pos (by simpa using c), if_pos (by simpa using c')]
        simpa using this
      · rw [if_neg (by simpa using c)]
        split
        · rw [List.length_cons]; omega
        · exact this
theorem rkQ_inj {K : List Rat} {t u : Rat} (ht : t ∈ K) (hu : u ∈ K) (h : rkQ K t = rkQ K u) : t = u := by
  by_cases c : t < u
  · have := rkQ_lt ht c; omega
  · by_cases c' : u < t
    · have := rkQ_lt hu c'; omega
    · grind
def prD (K : List Rat) (t : Rat) : D := .tup [.int (rkQ K t), rD t]
def sortQ (K : List Rat) : List Rat := K.mergeSort fun a b => decide ((rkQ K a : Int) ≤ rkQ K b)
theorem sortQ_perm (K : List Rat) : (sortQ K).Perm K := List.mergeSort_perm _ _
theorem sortP_pr (K : List Rat) : sortP (K.map (prD K)) = (sortQ K).map (prD K) := by
  unfold sortP sortQ
  rw [List.map_mergeSort]
  intro a _ b _
  rfl
theorem sortQ_lt {K : List Rat} (nd : K.Nodup) : (sortQ K).Pairwise (· < ·) := by
  have h1 : (sortQ K).Pairwise fun a b => decide ((rkQ K a : Int) ≤ rkQ K b) = true := List.pairwise_mergeSort (fun a b c h1 h2 => by simp at h1 h2 ⊢; omega) (fun a b => by simp; omega) K
  have h2 : (sortQ K).Nodup := (sortQ_perm K).nodup_iff.mpr nd
  have hm : ∀ a, a ∈ sortQ K → a ∈ K := fun a ha => (sortQ_perm K).mem_iff.mp ha
  have h3 : (sortQ K).Pairwise (fun a b => a ∈ K ∧ b ∈ K ∧ a ≠ b ∧ decide ((rkQ K a : Int) ≤ rkQ K b) = true) := by
    have := List.Pairwise.and h2 h1
    refine List.Pairwise.imp_of_mem (fun {a b} ha hb h => ⟨hm a ha, hm b hb, h.1, h.2⟩) this
  refine h3.imp fun {a b} ⟨ha, hb, hab, h⟩ => ?_
  by_cases c : a < b
  · exact c
  · exfalso
    have c' : b < a := by grind
    have := rkQ_lt hb c'
    simp at h
    omega
structure Spots (ls : Ls) (s : Rat) (R : List Rat) : Prop where
  lt : R.Pairwise (· < ·)
  mem : ∀ t, t ∈ R ↔ t = s ∨ (s < t ∧ ∃ x, x ∈ ls ∧ ∃ p, p ∈ x.2.2 ∧ p.1 = t)
  len : R.length ≤ (ls.map fun x => x.2.2.length).sum + 1
def behL (l : List (Rat × Rat)) (s : Rat) : List Rat := ((l.filter fun p => decide (s < p.1)).map (·.1)).foldl addQ []
def knQ (ls : Ls) (s : Rat) : List Rat := ls.foldl (fun K x => unQ K (behL x.2.2 s)) [s]
theorem behL_mem {l : List (Rat × Rat)} {s t : Rat} : t ∈ behL l s ↔ s < t ∧ ∃ p, p ∈ l ∧ p.1 = t := by
  show t ∈ unQ [] _ ↔ _
  rw [mem_unQ, List.mem_map]
  constructor
  · rintro (h | ⟨p, hp, rfl⟩)
    · cases h
    · have := List.mem_filter.mp hp
      exact ⟨by simpa using this.2, p, this.1, rfl⟩
  · rintro ⟨h, p, hp, rfl⟩
    exact .inr ⟨p, List.mem_filter.mpr ⟨hp, by simpa using h⟩, rfl⟩
theorem behL_len (l : List (Rat × Rat)) (s : Rat) : (behL l s).length ≤ l.length := by
  have h1 := len_unQ [] ((l.filter fun p => decide (s < p.1)).map (·.1))
  have h2 := List.length_filter_le (fun p : Rat × Rat => decide (s < p.1)) l
  have h3 : (behL l s).length ≤ ([] : List Rat).length + ((l.filter fun p => decide (s < p.1)).map (·.1)).length := h1
  rw [List.length_map, List.length_nil] at h3
  omega
theorem behL_snoc (l : List (Rat × Rat)) (p : Rat × Rat) (s : Rat) : behL (l ++ [p]) s = if s < p.1 then addQ (behL l s) p.1 else behL l s := by
  unfold behL
  rw [List.filter_append, List.map_append, List.foldl_append]
  by_cases c : s < p.1
  · rw [if_pos c, List.filter_cons, if_pos (by simpa using c)]; rfl
  · rw [if_neg c, List.filter_cons, if_neg (by simpa using c)]; rfl
theorem knQ_snoc (ls : Ls) (x : Int × Nat × List (Rat × Rat)) (s : Rat) : knQ (ls ++ [x]) s = unQ (knQ ls s) (behL x.2.2 s) := by
  unfold knQ; rw [List.foldl_append]; rfl
theorem knQ_ok (ls : Ls) (s : Rat) : (knQ ls s).Nodup ∧ (∀ t, t ∈ knQ ls s ↔ t = s ∨ (s < t ∧ ∃ x, x ∈ ls ∧ ∃ p, p ∈ x.2.2 ∧ p.1 = t)) ∧ (knQ ls s).length ≤ (ls.map fun x => x.2.2.length).sum + 1 ∧ knQ ls s ≠ [] := by
  generalize hn : ls.length = n
  induction n generalizing ls with
  | zero =>
    have : ls = [] := List.length_eq_zero_iff.mp hn
    subst this
    exact ⟨by simp [knQ], fun t => by simp [knQ], by simp [knQ], by simp [knQ]⟩
  | succ n ih =>
    rcases List.eq_nil_or_concat ls with rfl | ⟨l, x, rfl⟩
    · simp at hn
    · rw [List.concat_eq_append] at hn ⊢
      have hl : l.length = n := by simp at hn; exact hn
      obtain ⟨i1, i2, i3, i4⟩ := ih l hl
      rw [knQ_snoc]
      refine ⟨nd_unQ i1, fun t => ?_, ?_, fun z => ?_⟩
      · rw [mem_unQ, i2, behL_mem]
        constructor
        · rintro ((h | ⟨h, y, hy, hp⟩) | ⟨h, hp⟩)
          · exact .inl h
          · exact .inr ⟨h, y, List.mem_append_left _ hy, hp⟩
          · exact .inr ⟨h, x, by simp, hp⟩
        · rintro (h | ⟨h, y, hy, hp⟩)
          · exact .inl (.inl h)
          · rcases List.mem_append.mp hy with hy | hy
            · exact .inl (.inr ⟨h, y, hy, hp⟩)
            · rw [List.mem_singleton.mp hy] at hp
              exact .inr ⟨h, hp⟩
      · have h1 := len_unQ (knQ l s) (behL x.2.2 s)
        have h2 := behL_len x.2.2 s
        rw [List.map_append, List.sum_append]
        show _ ≤ _ + (x.2.2.length + 0) + 1
        omega
      · cases hk : knQ l s with
        | nil => exact i4 hk
        | cons a K =>
          have : a ∈ unQ (knQ l s) (behL x.2.2 s) := mem_unQ.mpr (.inl (by rw [hk]; exact List.mem_cons_self))
          rw [z] at this; cases this
theorem spots_of (ls : Ls) (s : Rat) : Spots ls s (sortQ (knQ ls s)) := by
  obtain ⟨h1, h2, h3, _⟩ := knQ_ok ls s
  exact ⟨sortQ_lt h1, fun t => (sortQ_perm _).mem_iff.trans (h2 t), by rw [(sortQ_perm _).length_eq]; exact h3⟩
theorem rank_comp {N : Nat} (hN : big N) {S : Store} {K : List Rat} {t : Rat} {m : Nat} (hb : ∀ q, q ∈ K → Bt q m) (ht : Bt t m) (hm : m ≤ 4500) (hl : K.length ≤ 1000) {w : En} (w5 : w[5]? = some (some (rD t))) (w8 : 8 < w.length) {Q : QP (List D)} {X : QP D}
    (h : Q ((K.filter fun u => decide (u < t)).map rD) S) :
    Wr (lcR (.nm 8) (tT (eCall (m_is_before N) (nA 2 (aCons (eVar 8) (aCons (eVar 5) aNil))))) (eVar 8) w (K.map rD) [] S) Q X := by
  refine lc_w (fun j acc S' => S' = S ∧ j ≤ K.length ∧ acc = ((K.take j).filter fun u => decide (u < t)).map rD) ⟨rfl, Nat.zero_le _, rfl⟩ ?_ ?_
  · rintro j d acc S' hd ⟨rfl, hj, rfl⟩
    rw [List.getElem?_map] at hd
    obtain ⟨q, hq, rfl⟩ := Option.map_eq_some_iff.mp hd
    have hqm := List.mem_of_getElem? hq
    have hlt : j < K.length := (List.getElem?_eq_some_iff.mp hq).1
    have tm : Tg.m (.nm 8) (rD q) w = some (w.set 8 (some (rD q))) := rfl
    have v8 : (w.set 8 (some (rD q)))[8]? = some (some (rD q)) := List.getElem?_set_self w8
    have v5 : (w.set 8 (some (rD q)))[5]? = some (some (rD t)) := by rw [List.getElem?_set_ne (by omega)]; exact w5
    have et : ((K.take (j + 1)).filter fun u => decide (u < t)) = ((K.take j).filter fun u => decide (u < t)) ++ (if q < t then [q] else []) := by
      rw [List.take_add_one, hq, List.filter_append]
      congr 1
      by_cases c : q < t
      · simp [c]
      · simp [c]
    have sz : (((K.take j).filter fun u => decide (u < t)).map rD).length < sizeLine := by
      have a1 := List.length_filter_le (fun u : Rat => decide (u < t)) (K.take j)
      have a2 : (K.take j).length ≤ K.length := by rw [List.length_take]; omega
      rw [sizeLine_eq, List.length_map]; omega
    by_cases c : q < t
    · rw [if_pos c] at et
      wp_walk using tm, v8, v5, before_ok (S := S') hN (hb q hqm) ht (by omega), c
      exact ⟨sz, hlt, by rw [et, List.map_append]; rfl⟩
    · rw [if_neg c, List.append_nil] at et
      wp_walk using tm, v8, v5, before_ok (S := S') hN (hb q hqm) ht (by omega), c
      exact ⟨hlt, by rw [et]⟩
  · rintro acc S' ⟨rfl, _, rfl⟩
    rw [List.length_map, List.take_length]
    exact h
theorem beh_comp {N : Nat} (hN : big N) {S : Store} {ck : Store → Prop} {l : List (Rat × Rat)} {s : Rat} {m : Nat} (hk : ck S) (hb : ∀ p, p ∈ l → Bt p.1 m) (hs : Bt s m) (hm : m ≤ 4500) (hl : l.length ≤ 500) {w : En} (w1 : w[1]? = some (some (rD s))) (w7 : 7 < w.length) {Q : QP (List (List Int))} {X : QP D}
    (h : Q ((behL l s).map rI) S) :
    Wr (dcR ck (.nm 7) (tT (eCall (m_is_before N) (nA 2 (aCons (eVar 1) (aCons (eBinS ixD (eVar 7) (eC (.int 0))) aNil))))) (eBinS ixD (eVar 7) (eC (.int 0))) w (l.map rowD) [] S) Q X := by
  refine dc_w (fun j acc S' => S' = S ∧ j ≤ l.length ∧ acc = (behL (l.take j) s).map rI) ⟨rfl, Nat.zero_le _, rfl⟩ (fun _ _ _ z => by rw [z.1]; exact hk) ?_ ?_
  · rintro j d acc S' hd ⟨rfl, hj, rfl⟩
    rw [List.getElem?_map] at hd
    obtain ⟨p, hp, rfl⟩ := Option.map_eq_some_iff.mp hd
    have hpm := List.mem_of_getElem? hp
    have hlt : j < l.length := (List.getElem?_eq_some_iff.mp hp).1
    have tm : Tg.m (.nm 7) (rowD p) w = some (w.set 7 (some (rowD p))) := rfl
    have v7 : (w.set 7 (some (rowD p)))[7]? = some (some (rowD p)) := List.getElem?_set_self w7
    have v1 : (w.set 7 (some (rowD p)))[1]? = some (some (rD s)) := by rw [List.getElem?_set_ne (by omega)]; exact w1
    have hix : ∀ S', ixD S' (rowD p) (.int 0) = some (rD p.1) := fun _ => rfl
    have et : behL (l.take (j + 1)) s = if s < p.1 then addQ (behL (l.take j) s) p.1 else behL (l.take j) s := by
      rw [List.take_add_one, hp]; exact behL_snoc _ _ _
    have sz : ((behL (l.take j) s).map rI).length < sizeLine := by
      have a1 := behL_len (l.take j) s
      have a2 : (l.take j).length ≤ l.length := by rw [List.length_take]; omega
      rw [sizeLine_eq, List.length_map]; omega
    by_cases c : s < p.1
    · rw [if_pos c] at et
      wp_walk using tm, v7, v1, hix, before_ok (S := S') hN hs (hb p hpm) (by omega), c
      rw [dy_s (intsK_rD _), addK_rI]
      exact ⟨sz, rfl, hlt, by rw [et]⟩
    · rw [if_neg c] at et
      wp_walk using tm, v7, v1, hix, before_ok (S := S') hN hs (hb p hpm) (by omega), c
      exact ⟨hlt, by rw [et]⟩
  · rintro acc S' ⟨rfl, _, rfl⟩
    rw [List.length_map, List.take_length]
    exact h
theorem spots_w {N : Nat} (hN : big N) {S : Store} {n n1 c m : Nat} {ls : Ls} {s : Rat} {F : HL} {Q X : QP D} (hs : Sep S (bkH n n1 ls ++ F)) (ok : LsOk ls c m) (hc : c ≤ 200) (bs : Bt s m) (hm : m ≤ 4500)
    (h : ∀ S', Sep S' (bkH n n1 ls ++ F) → Q (.lst ((sortQ (knQ ls s)).map rD)) S') : Wr (m_Bookings_spots N [.loc n, rD s] S) Q X := by
  have hlenT : (ls.map fun x => x.2.2.length).sum ≤ 200 := Nat.le_trans ok.tot hc
  rw [m_Bookings_spots, wr_fnM, b_Bookings_spots]
  wp_walk using t1Q_s (intsK_rD s)
  have hs1 := hs.new0 (.ts [rI s])
  generalize S ++ [Cell.ts [rI s]] = S1 at hs1
  generalize hk0 : S.length = k0 at hs1
  have i1 : S1[n]? = some (.obj 34 [(9, .loc n1)]) := hs1.get (by simp [bkH])
  have i2 : S1[n1]? = some (.dk (lnD ls)) := hs1.get (by simp [bkH])
  have hf : fldD [34, 45] 9 S1 (.loc n) = some (.loc n1) := by rw [fldD_loc i1]; rfl
  have hlo : ∀ e : En, e[0]? = some (some (.loc n)) → loE (eFld [34, 45] 9 (eVar 0)) e S1 = some n1 := fun e he => loE_s (S' := S1) (by
    unfold eFld eVar; rw [he]; show lf (fldD [34, 45] 9 S1 (.loc n)) S1 = _; rw [hf]; rfl)
  rw [ws_sLk (hlo _ rfl) i2 (frz_dk _)]
  -- behind the freezing
  have hs2 : Sep (S1.set n1 (.fk (lnD ls))) ([(k0, .ts [rI s]), (n, .obj 34 [(9, .loc n1)])] ++ (n1, .fk (lnD ls)) :: (lnH ls ++ F)) := Sep.setM (L1 := [(k0, .ts [rI s]), (n, .obj 34 [(9, .loc n1)])]) (L2 := lnH ls ++ F) (c := .dk (lnD ls)) hs1 _
  generalize S1.set n1 (.fk (lnD ls)) = S2 at hs2
  clear hs1 i1 i2 hf hlo
  have j1 : S2[n]? = some (.obj 34 [(9, .loc n1)]) := hs2.get (by simp)
  have j2 : S2[n1]? = some (.fk (lnD ls)) := hs2.get (by simp)
  have hf2 : fldD [34, 45] 9 S2 (.loc n) = some (.loc n1) := by rw [fldD_loc j1]; rfl
  wp_walk using hf2, dvQ_s j2
  have fst2 : [rI s] = (knQ ([] : Ls) s).map rI := rfl
  rw [fst2] at hs2
  refine for_w (fun j e S' => j ≤ ls.length ∧ Sep S' ([(k0, .ts ((knQ (ls.take j) s).map rI)), (n, .obj 34 [(9, .loc n1)])] ++ (n1, .fk (lnD ls)) :: (lnH ls ++ F)) ∧ ∃ x3, e = [some (.loc n), some (rD s), some (.loc k0), x3, none, none, none, none, none]) ⟨Nat.zero_le _, hs2, _, rfl⟩ ?_ ?_
  · rintro j d e S' hd ⟨hj, hS, x3, rfl⟩
    rw [List.getElem?_map] at hd
    unfold lnD at hd
    rw [List.getElem?_map] at hd
    obtain ⟨kv, hkv, rfl⟩ := Option.map_eq_some_iff.mp hd
    obtain ⟨x, hx, rfl⟩ := Option.map_eq_some_iff.mp hkv
    have hxm := List.mem_of_getElem? hx
    have hlt : j < ls.length := (List.getElem?_eq_some_iff.mp hx).1
    have g1 : S'[k0]? = some (.ts ((knQ (ls.take j) s).map rI)) := hS.get (by simp)
    have g3 : S'[x.2.1]? = some (.lst (x.2.2.map rowD)) := hS.get (by simp [lnH_mem hxm])
    have ek : knQ (ls.take (j + 1)) s = unQ (knQ (ls.take j) s) (behL x.2.2 s) := by rw [List.take_add_one, hx]; exact knQ_snoc _ _ _
    obtain ⟨q1, q2, q3, q4⟩ := knQ_ok (ls.take j) s
    have q5 : ((ls.take j).map fun x => x.2.2.length).sum ≤ 200 := Nat.le_trans (sub_sum (List.Sublist.map _ (List.take_sublist _ _))) hlenT
    have q6 := behL_len x.2.2 s
    have q7 := ok.line hxm
    wp_walk using tsD_s g1, celQ_loc g3
    refine beh_comp hN g3 (fun p hp => ((ok.each x hxm).2 p hp).1) bs hm (by omega) (by rfl) (by simp) ?_
    wp_walk using G.wr_ok
    have hS2 := hS.new0 (.ts ((behL x.2.2 s).map rI))
    have r1 : (S' ++ [Cell.ts ((behL x.2.2 s).map rI)])[k0]? = some (.ts ((knQ (ls.take j) s).map rI)) := hS2.get (by simp)
    have r2 : (S' ++ [Cell.ts ((behL x.2.2 s).map rI)])[S'.length]? = some (.ts ((behL x.2.2 s).map rI)) := hS2.get (by simp)
    have rn : k0 ≠ S'.length := fun z => by have := (List.getElem?_eq_some_iff.mp g1).1; omega
    wp_walk using uR_s r1 r2 rn (by simpa using q4) (by rw [List.length_map, List.length_map]; omega)
    refine ⟨hlt, ?_, _, rfl⟩
    rw [unK_rI, ← ek]
    have := Sep.setM (L1 := [(S'.length, .ts ((behL x.2.2 s).map rI))]) (L2 := (n, .obj 34 [(9, .loc n1)]) :: (n1, .fk (lnD ls)) :: (lnH ls ++ F)) (c := .ts ((knQ (ls.take j) s).map rI)) hS2 (.ts ((knQ (ls.take (j + 1)) s).map rI))
    exact this.sub (List.sublist_cons_self _ _)
  · rintro e S3 ⟨_, hS, x3, rfl⟩
    rw [List.length_map, lnD_len, List.take_length] at hS
    rw [th_nx]
    have hs3 : Sep (S3.set n1 (.dk (lnD ls))) ([(k0, .ts ((knQ ls s).map rI)), (n, .obj 34 [(9, .loc n1)])] ++ (n1, .dk (lnD ls)) :: (lnH ls ++ F)) := Sep.setM (L1 := [(k0, .ts ((knQ ls s).map rI)), (n, .obj 34 [(9, .loc n1)])]) (L2 := lnH ls ++ F) (c := .fk (lnD ls)) hS _
    generalize S3.set n1 (.dk (lnD ls)) = S4 at hs3
    clear hS hs2 j1 j2 hf2
    obtain ⟨q1, q2, q3, q4⟩ := knQ_ok ls s
    have hkb : ∀ q, q ∈ knQ ls s → Bt q m := fun q hq => by
      rcases (q2 q).mp hq with rfl | ⟨_, x, hx, p, hp, rfl⟩
      · exact bs
      · exact ((ok.each x hx).2 p hp).1
    have hK : (knQ ls s).length ≤ 201 := by omega
    generalize knQ ls s = K at hs3 q1 q3 q4 hkb hK h ⊢
    wp_walk using G.wr_ok
    have hs5 := hs3.new0 (.lst [])
    generalize S4 ++ [Cell.lst []] = S5 at hs5
    generalize S4.length = k1 at hs5
    have u1 : S5[k0]? = some (.ts (K.map rI)) := hs5.get (by simp)
    have u2 : S5[k1]? = some (.lst []) := hs5.get (by simp)
    rw [ws_sLk (loE_var rfl) u1 (frz_ts _)]
    have hs6 : Sep (S5.set k0 (.fs (K.map rI))) ([(k1, .lst [])] ++ (k0, .fs (K.map rI)) :: (n, Cell.obj 34 [(9, D.loc n1)]) :: (n1, Cell.dk (lnD ls)) :: (lnH ls ++ F)) := Sep.setM (L1 := [(k1, .lst [])]) (c := .ts (K.map rI)) hs5 _
    generalize S5.set k0 (.fs (K.map rI)) = S6 at hs6
    have v1 : S6[k0]? = some (.fs (K.map rI)) := hs6.get (by simp)
    wp_walk using tkQ_s v1
    have e1 : (K.map rI).map intsD = K.map rD := by rw [List.map_map]; rfl
    rw [e1]
    refine for_w (fun j e S' => j ≤ K.length ∧ Sep S' ((k1, .lst ((K.take j).map (prD K))) :: (k0, .fs (K.map rI)) :: (n, Cell.obj 34 [(9, D.loc n1)]) :: (n1, Cell.dk (lnD ls)) :: (lnH ls ++ F)) ∧ ∃ x5 x6, e = [some (.loc n), some (rD s), some (.loc k0), x3, some (.loc k1), x5, x6, none, none]) ⟨Nat.zero_le _, hs6, _, _, rfl⟩ ?_ ?_
    · rintro j d e S' hd ⟨hj, hS, x5, x6, rfl⟩
      rw [List.getElem?_map] at hd
      obtain ⟨t, ht, rfl⟩ := Option.map_eq_some_iff.mp hd
      have htm := List.mem_of_getElem? ht
      have hlt : j < K.length := (List.getElem?_eq_some_iff.mp ht).1
      have w1 : S'[k0]? = some (.fs (K.map rI)) := hS.get (by simp)
      have w2 : S'[k1]? = some (.lst ((K.take j).map (prD K))) := hS.get (by simp)
      wp_walk using tkQ_s w1
      rw [e1]
      refine rank_comp hN hkb (hkb t htm) hm (by omega) (by rfl) (by simp) ?_
      have fl : fLen S' [.lst ((K.filter fun u => decide (u < t)).map rD)] = some (.int (rkQ K t)) := by
        rw [fLen_lst, List.length_map]; rfl
      wp_walk using fl, isLst_loc w2, appR_loc w2 (by rw [sizeLine_eq, List.length_map, List.length_take]; omega)
      refine ⟨hlt, ?_, _, _, rfl⟩
      have e2 : (K.take j).map (prD K) ++ [.tup [.int (rkQ K t), rD t]] = (K.take (j + 1)).map (prD K) := by
        rw [List.take_add_one, ht, List.map_append]; rfl
      rw [e2]
      exact hS.set0 _
    · rintro e S7 ⟨_, hS, x5, x6, rfl⟩
      rw [List.length_map, List.take_length] at hS
      rw [th_nx]
      have hs8 : Sep (S7.set k0 (.ts (K.map rI))) ([(k1, .lst (K.map (prD K)))] ++ (k0, .ts (K.map rI)) :: (n, Cell.obj 34 [(9, D.loc n1)]) :: (n1, Cell.dk (lnD ls)) :: (lnH ls ++ F)) := Sep.setM (L1 := [(k1, .lst (K.map (prD K)))]) (c := .fs (K.map rI)) hS _
      generalize S7.set k0 (.ts (K.map rI)) = S8 at hs8
      have y1 : S8[k1]? = some (.lst (K.map (prD K))) := hs8.get (by simp)
      have fs : fSortP S8 [.loc k1] = some (.lst ((sortQ K).map (prD K))) := by
        rw [← sortP_pr]
        refine fSortP_s (fun d hd => ?_) ?_ (by unfold seqD; simp only [y1])
        · obtain ⟨t, _, rfl⟩ := List.mem_map.mp hd; rfl
        · rw [List.map_map]
          rw [List.Nodup, List.pairwise_map]
          refine List.Pairwise.imp_of_mem (fun {t u} ht hu hne e => hne (rkQ_inj ht hu ?_)) q1
          have e : (some (rkQ K t : Int)) = some (rkQ K u : Int) := e
          have := Option.some.inj e
          omega
      wp_walk using fs
      have hl : ((sortQ K).map (prD K)).length ≤ sizeLine := by rw [List.length_map, (sortQ_perm K).length_eq, sizeLine_eq]; omega
      have fin : Q (.lst ((sortQ K).map rD)) S8 := h S8 (hs8.sub (by
        show List.Sublist _ ((k1, _) :: (k0, _) :: _)
        exact (List.sublist_cons_self _ _).trans (List.sublist_cons_self _ _)))
      refine lc_map_w (S := S8) (fun d => match d with
        | .tup [_, t] => t
        | d => d) (by simpa using hl) (fun d hd => ?_) ?_
      · obtain ⟨t, _, rfl⟩ := List.mem_map.mp hd
        have tm : Tg.m (.tp [6, 5]) (prD K t) [some (.loc n), some (rD s), some (.loc k0), x3, some (.loc k1), none, none, none, none] = some [some (.loc n), some (rD s), some (.loc k0), x3, some (.loc k1), some (rD t), some (.int (rkQ K t)), none, none] := rfl
        wp_walk using tm, eqQ_s
        rfl
      · rw [List.nil_append, List.map_map]
        wp_walk using G.wr_ok
        exact fin
def mostA (ls : Ls) (s : Rat) (but : Option Int) : Rat := (sortQ (knQ ls s)).foldl (fun f t => max f (sumA ls t but)) 0
structure IsMost (f : Rat → Rat) (s M : Rat) : Prop where
  nn : 0 ≤ M
  le : ∀ t, s ≤ t → f t ≤ M
  at_ : M = 0 ∨ ∃ t, s ≤ t ∧ f t = M
theorem IsMost.uniq {f : Rat → Rat} {s M M' : Rat} (h : IsMost f s M) (h' : IsMost f s M') : M = M' := by
  have a : M ≤ M' := by
    rcases h.at_ with e | ⟨t, ht, e⟩
    · rw [e]; exact h'.nn
    · rw [← e]; exact h'.le t ht
  have b : M' ≤ M := by
    rcases h'.at_ with e | ⟨t, ht, e⟩
    · rw [e]; exact h.nn
    · rw [← e]; exact h.le t ht
  grind
theorem foldmax (f : Rat → Rat) (R : List Rat) (z : Rat) : z ≤ R.foldl (fun g t => max g (f t)) z ∧ (∀ t, t ∈ R → f t ≤ R.foldl (fun g t => max g (f t)) z) ∧ (R.foldl (fun g t => max g (f t)) z = z ∨ ∃ t, t ∈ R ∧ f t = R.foldl (fun g t => max g (f t)) z) := by
  induction R generalizing z with
  | nil => exact ⟨(by show z ≤ z; grind), fun t ht => (by cases ht), .inl rfl⟩
  | cons u R ih =>
    obtain ⟨h1, h2, h3⟩ := ih (max z (f u))
    rw [List.foldl_cons]
    have m1 : z ≤ max z (f u) ∧ f u ≤ max z (f u) ∧ (max z (f u) = z ∨ max z (f u) = f u) := by
      rw [Rat.max_def]; split <;> grind
    refine ⟨by grind, fun t ht => ?_, ?_⟩
    · rcases List.mem_cons.mp ht with rfl | ht
      · grind
      · exact h2 t ht
    · rcases h3 with h3 | ⟨t, ht, e⟩
      · rcases m1.2.2 with e | e
        · exact .inl (h3.trans e)
        · exact .inr ⟨u, List.mem_cons_self, (h3.trans e).symm⟩
      · exact .inr ⟨t, List.mem_cons_of_mem _ ht, e⟩
theorem most_w {N : Nat} (hN : big N) {S : Store} {n n1 c m : Nat} {ls : Ls} {s : Rat} {but : Option Int} {F : HL} {Q X : QP D} (hs : Sep S (bkH n n1 ls ++ F)) (ok : LsOk ls c m) (hc : c ≤ 130) (bs : Bt s m) (hm : m ≤ 4500) (s0 : 0 ≤ s) (b0 : ∀ i, but = some i → 0 ≤ i)
    (h : ∀ S', Sep S' (bkH n n1 ls ++ F) → Q (rD (mostA ls s but)) S') : Wr (m_Bookings_most_booked N [.loc n, rD s, iD but] S) Q X := by
  have i1 : S[n]? = some (.obj 34 [(9, .loc n1)]) := hs.get (by simp [bkH])
  rw [m_Bookings_most_booked, wr_fnM, b_Bookings_most_booked]
  have chk : Ws (sIf (tB (eBin dIsNot (eVar 2) (eC .non))) (sDrop (eCall (m_check_number N) (nA 1 (aCons (eVar 2) aNil)))) sNop [some (.loc n), some (rD s), some (iD but), none, none] S) ((KS.fn Q X).sq (sSeq (sSet 3 (eC (.tup [.int 0, .int 1])))
    (sSeq (sFor (iSeq (eMeth 34 (m_Bookings_spots N) g_Bookings_spots_2_ 1 0 (eVar 0) (aCons (eVar 1) aNil) aNil)) (gN 4) (sSet 3 (eCall (C.m_greater N) (nA 2 (aCons (eVar 3) (aCons (eMeth 34 (m_Bookings_sum_at N) g_Bookings_sum_at_3_ 2 0 (eVar 0) (aCons (eVar 4) (aCons (eVar 2) aNil)) aNil) aNil))))))
    (sRet (eVar 3))))) := by
    have nx : Ws (sSeq (sSet 3 (eC (.tup [.int 0, .int 1])))
      (sSeq (sFor (iSeq (eMeth 34 (m_Bookings_spots N) g_Bookings_spots_2_ 1 0 (eVar 0) (aCons (eVar 1) aNil) aNil)) (gN 4) (sSet 3 (eCall (C.m_greater N) (nA 2 (aCons (eVar 3) (aCons (eMeth 34 (m_Bookings_sum_at N) g_Bookings_sum_at_3_ 2 0 (eVar 0) (aCons (eVar 4) (aCons (eVar 2) aNil)) aNil) aNil))))))
      (sRet (eVar 3))) [some (.loc n), some (rD s), some (iD but), none, none] S) (KS.fn Q X) := by
      wp_walk using isCn_loc i1
      show Wr (m_Bookings_spots N [.loc n, rD s] S) _ _
      refine spots_w hN hs ok (by omega) bs hm fun S1 hs1 => ?_
      have i2 : S1[n]? = some (.obj 34 [(9, .loc n1)]) := hs1.get (by simp [bkH])
      have hk := spots_of ls s
      have hkb : ∀ q, q ∈ sortQ (knQ ls s) → Bt q m := fun q hq => by
        rcases (hk.mem q).mp hq with rfl | ⟨_, x, hx, p, hp, rfl⟩
        · exact bs
        · exact ((ok.each x hx).2 p hp).1
      have hfin := h S1 hs1
      unfold mostA at hfin
      generalize sortQ (knQ ls s) = R at hkb hfin ⊢
      wp_walk using G.wr_ok
      rw [rD_00]
      refine for_w (fun j e S' => S' = S1 ∧ j ≤ R.length ∧ ∃ x4, e = [some (.loc n), some (rD s), some (iD but), some (rD ((R.take j).foldl (fun f t => max f (sumA ls t but)) 0)), x4]) ⟨rfl, Nat.zero_le _, _, rfl⟩ ?_ ?_
      · rintro j d e S' hd ⟨rfl, hj, x4, rfl⟩
        rw [List.getElem?_map] at hd
        obtain ⟨t, ht, rfl⟩ := Option.map_eq_some_iff.mp hd
        have htm := List.mem_of_getElem? ht
        have hlt : j < R.length := (List.getElem?_eq_some_iff.mp ht).1
        have et : (R.take (j + 1)).foldl (fun f t => max f (sumA ls t but)) 0 = max ((R.take j).foldl (fun f t => max f (sumA ls t but)) 0) (sumA ls t but) := by
          rw [List.take_add_one, ht, List.foldl_append]; rfl
        have hl := ok.len
        have b1 : Bt ((R.take j).foldl (fun f t => max f (sumA ls t but)) 0) (32 * c + 1) := by
          rcases (foldmax (fun t => sumA ls t but) (R.take j) 0).2.2 with e | ⟨t', _, e⟩
          · rw [e]; exact bt_0.mono (by omega)
          · rw [← e]; exact (sumA_ok ok t' but).1.mono (by omega)
        have b2 : Bt (sumA ls t but) (32 * c + 1) := (sumA_ok ok t but).1.mono (by omega)
        have es : m_Bookings_sum_at N (g_Bookings_sum_at_3_ [.loc n, rD t, iD but] []) S' = .ok (rD (sumA ls t but)) S' := sum_at_ok hN hs1.left ok (by omega) (hkb t htm) (by omega)
        wp_walk using isCn_loc i2, es, greater_ok (S := S') hN b1 b2 (by omega)
        exact ⟨hlt, _, by rw [et]⟩
      · rintro e S' ⟨rfl, _, x4, rfl⟩
        rw [List.length_map, List.take_length]
        wp_walk using G.wr_ok
        exact hfin
    cases but with
    | none =>
      have e1 : dIsNot (iD none) .non = some (.bl false) := rfl
      rw [ws_sIf]
      wp_walk using zstop, e1
      wp_walk using zuse, nx, G.wr_ok
    | some i =>
      have e1 : dIsNot (iD (some i)) .non = some (.bl true) := rfl
      have e2 : m_check_number N [iD (some i)] S = .ok .non S := number_ok N (b0 i rfl) S
      rw [ws_sIf]
      wp_walk using zstop, e1, e2
      wp_walk using zuse, nx, G.wr_ok
  wp_walk using zstop, ctime_ok (S := S) hN bs (by omega) s0
  exact chk
theorem bookL_eq (l : List (Rat × Rat)) (s r : Rat) : bookL l s r = if lastR (lowL l s) = r then lowL l s else lowL l s ++ [(s, r)] := rfl
theorem tail2_w {N : Nat} {S1 : Store} {n n1 a : Nat} {i : Int} {s r : Rat} {fl : Ls} {L : List (Rat × Rat)} {F : HL} {Q X : QP D} {x5 : Option D} (hs : Sep S1 ((a, .lst (L.map rowD)) :: (n, .obj 34 [(9, .loc n1)]) :: (n1, .dk (lnD fl)) :: (lnH fl ++ F))) (hfl : ∀ x, x ∈ fl → x.1 ≠ i) (hlen : fl.length ≤ 500) (hL : L.length ≤ 500)
    (h : ∀ S', Sep S' (bkH n n1 (fl ++ (if (if lastR L = r then L else L ++ [(s, r)]) = [] then [] else [(i, a, if lastR L = r then L else L ++ [(s, r)])])) ++ F) → Q .non S') :
    Ws (bookTail [some (.loc n), some (.int i), some (rD s), some (rD r), some (.loc a), x5] S1) (KS.fn Q X) := by
  have a1 : S1[a]? = some (.lst (L.map rowD)) := hs.get (by simp)
  have a2 : S1[n]? = some (.obj 34 [(9, .loc n1)]) := hs.get (by simp)
  have a3 : S1[n1]? = some (.dk (lnD fl)) := hs.get (by simp)
  have hf : fldD [34, 45] 9 S1 (.loc n) = some (.loc n1) := by rw [fldD_loc a2]; rfl
  -- what is stored where the line isn't empty
  have store : ∀ (S2 : Store) (L' : List (Rat × Rat)), L' ≠ [] → Sep S2 ((a, .lst (L'.map rowD)) :: (n, .obj 34 [(9, .loc n1)]) :: (n1, .dk (lnD fl)) :: (lnH fl ++ F)) → Sep (S2.set n1 (.dk (putKD (lnD fl) (.inl i) (.loc a)))) (bkH n n1 (fl ++ [(i, a, L')]) ++ F) := fun S2 L' h0 h2 => by
    rw [put_ln a L' hfl]
    have q := Sep.setM (L1 := [(a, .lst (L'.map rowD)), (n, .obj 34 [(9, .loc n1)])]) (L2 := lnH fl ++ F) (c := .dk (lnD fl)) h2 (.dk (lnD (fl ++ [(i, a, L')])))
    refine q.perm ?_
    unfold bkH lnH
    rw [List.map_append]
    show List.Perm ((a, .lst (L'.map rowD)) :: (n, .obj 34 [(9, .loc n1)]) :: (n1, .dk (lnD (fl ++ [(i, a, L')]))) :: (fl.map _ ++ F)) ((n, .obj 34 [(9, .loc n1)]) :: (n1, .dk (lnD (fl ++ [(i, a, L')]))) :: ((fl.map _ ++ [(a, .lst (L'.map rowD))]) ++ F))
    rw [List.append_assoc]
    exact (List.Perm.swap _ _ _).trans (List.Perm.cons _ ((List.Perm.swap _ _ _).trans (List.Perm.cons _ (List.perm_middle (l₁ := fl.map _) (l₂ := F)).symm)))
  have sz : (L.map rowD).length < sizeLine := by rw [sizeLine_eq, List.length_map]; omega
  have hse : ∀ (S2 : Store), S2[n1]? = some (.dk (lnD fl)) → setE S2 (.loc n1) (.int i) (.loc a) = some (S2.set n1 (.dk (putKD (lnD fl) (.inl i) (.loc a)))) := fun S2 h2 => setE_s h2 rfl (by rw [sizeLine_eq, lnD_len]; omega)
  have hs2 := hs.set0 (.lst ((L ++ [(s, r)]).map rowD))
  have b1 : (S1.set a (.lst ((L ++ [(s, r)]).map rowD)))[a]? = some (.lst ((L ++ [(s, r)]).map rowD)) := hs2.get (by simp)
  have b2 : (S1.set a (.lst ((L ++ [(s, r)]).map rowD)))[n]? = some (.obj 34 [(9, .loc n1)]) := hs2.get (by simp)
  have b3 : (S1.set a (.lst ((L ++ [(s, r)]).map rowD)))[n1]? = some (.dk (lnD fl)) := hs2.get (by simp)
  have hf2 : fldD [34, 45] 9 (S1.set a (.lst ((L ++ [(s, r)]).map rowD))) (.loc n) = some (.loc n1) := by rw [fldD_loc b2]; rfl
  have eapp : (L.map rowD) ++ [.tup [rD s, rD r]] = (L ++ [(s, r)]).map rowD := by rw [List.map_append]; rfl
  have hne : ∀ (l : List (Rat × Rat)), l ≠ [] → (l.map rowD).isEmpty = false := fun l hl => by
    cases l with
    | nil => exact absurd rfl hl
    | cons p l => rfl
  have ne2 : L ++ [(s, r)] ≠ [] := by simp
  have hix2 : ∀ S' p, ixD S' (rowD p) (.int 1) = some (rD p.2) := fun _ _ => rfl
  have added : lastR L ≠ r → Sep ((S1.set a (.lst ((L ++ [(s, r)]).map rowD))).set n1 (.dk (putKD (lnD fl) (.inl i) (.loc a)))) (bkH n n1 (fl ++ (if (if lastR L = r then L else L ++ [(s, r)]) = [] then [] else [(i, a, if lastR L = r then L else L ++ [(s, r)])])) ++ F) := fun c => by
    rw [if_neg c, if_neg ne2]
    exact store _ _ ne2 hs2
  unfold bookTail
  rcases List.eq_nil_or_concat L with e | ⟨m, p, e⟩
  · subst e
    have lr : lastR ([] : List (Rat × Rat)) = 0 := rfl
    rw [lr] at h added
    by_cases c0 : (0 : Rat) = r
    · rw [if_pos c0, if_pos rfl, List.append_nil] at h
      rw [rD_00]
      wp_walk using truD_loc a1, List.map_nil, List.isEmpty_nil, c0
      exact h S1 (hs.sub (List.sublist_cons_self _ _))
    · have c0' : (0 : Rat) ≠ r := c0
      have en : dNe (rD 0) (rD r) = some (.bl true) := by rw [dNe_rD, decide_eq_false c0]; rfl
      rw [List.map_nil, List.nil_append, List.nil_append] at eapp
      rw [List.map_nil] at a1 sz
      rw [List.nil_append] at b1 b2 b3 hf2 ne2
      have q := added c0'
      rw [List.nil_append] at q
      rw [List.map_cons, List.map_nil] at b1 b2 b3 hf2 q eapp
      rw [rD_00]
      wp_walk using truD_loc a1, List.isEmpty_nil, en, isLst_loc a1, appR_loc a1 sz
      rw [eapp]
      wp_walk using truD_loc b1, List.isEmpty_cons, hf2, hse _ b3
      exact h _ q
  · rw [List.concat_eq_append] at e
    have hix : ixD S1 (.loc a) (.int (-1)) = some (rowD p) := by
      rw [ixD_loc _ a1, e, List.map_append]
      exact atI_last _ _
    have lr : lastR L = p.2 := by rw [e]; unfold lastR; rw [List.getLast?_concat]
    have neL : L ≠ [] := by rw [e]; simp
    rw [rD_00]
    by_cases c0 : p.2 = r
    · have en : dNe (rD p.2) (rD r) = some (.bl false) := by rw [dNe_rD, decide_eq_true c0]; rfl
      rw [lr, if_pos c0, if_neg neL] at h
      wp_walk using truD_loc a1, hne _ neL, hix, hix2, en, hf, hse _ a3
      exact h _ (store _ _ neL hs)
    · have en : dNe (rD p.2) (rD r) = some (.bl true) := by rw [dNe_rD, decide_eq_false c0]; rfl
      have c0' : lastR L ≠ r := by rw [lr]; exact c0
      have q := added c0'
      wp_walk using truD_loc a1, hne _ neL, hix, hix2, en, isLst_loc a1, appR_loc a1 sz
      rw [eapp]
      wp_walk using truD_loc b1, hne _ ne2, hf2, hse _ b3
      exact h _ q
theorem bookF_w {N : Nat} (hN : big N) {S : Store} {n n1 c m : Nat} {ls : Ls} {i : Int} {s r : Rat} {F : HL} {Q X : QP D} (hs : Sep S (bkH n n1 ls ++ F)) (ok : LsOk ls c m) (hc : c ≤ 200) (hm : m ≤ 4500) (h0 : 0 ≤ i) (bs : Bt s m) (br : Bt r 31) (s0 : 0 ≤ s) (r0 : 0 ≤ r) (r1 : r ≤ 1)
    (h : ∀ S' a, Sep S' (bkH n n1 (bookA ls i s r a) ++ F) → Q .non S') : Wr (m_Bookings_bookF N [.loc n, .int i, rD s, rD r] S) Q X := by
  have h1 : S[n]? = some (.obj 34 [(9, .loc n1)]) := hs.get (by simp [bkH])
  have h2 : S[n1]? = some (.dk (lnD ls)) := hs.get (by simp [bkH])
  have hf : fldD [34, 45] 9 S (.loc n) = some (.loc n1) := by rw [fldD_loc h1]; rfl
  have rn : 0 ≤ r.num := Rat.num_nonneg.mpr r0
  have chk : ∀ {k : KS} {e : En}, e[3]? = some (some (rD r)) → k.nx e S → Ws (sIf (tOr' (tAn (tB (eBin dNe (eVar 3) (eC (.tup [.int 0, .int 1])))) (tNt (tT (eCall (m_is_rate N) (nA 1 (aCons (eVar 3) aNil)))))) (tNt (tT (eCall (m_is_time N) (nA 1 (aCons (eVar 3) aNil)))))) (sRaiseF 6 5 (eVar 3)) sNop e S) k := by
    intro k e he hk
    rw [rD_00]
    by_cases z : r = 0
    · subst z
      wp_walk using he, time_ok (S := S) hN br (by omega), rn
      exact hk
    · have e2 : 0 < r ∧ r ≤ 1 := ⟨by grind, r1⟩
      wp_walk using he, z, time_ok (S := S) hN br (by omega), rn, rate_ok (S := S) hN br (by omega), e2
      exact hk
  rw [m_Bookings_bookF, wr_fnM]
  show Ws (sSeq _ (sSeq _ (sSeq _ (sSeq _ bookTail))) _ _) _
  wp_walk using zstop, number_ok N h0, ctime_ok (S := S) hN bs (by omega) s0
  refine chk rfl ?_
  wp_walk using hf, dkD_s h2
  have hfl : ∀ x, x ∈ (ls.filter fun x => decide (x.1 ≠ i)) → x.1 ≠ i := fun x hx => by simpa using (List.mem_filter.mp hx).2
  have hlf : (ls.filter fun x => decide (x.1 ≠ i)).length ≤ 500 := by
    have := List.length_filter_le (fun x : Int × Nat × List (Rat × Rat) => decide (x.1 ≠ i)) ls
    have := ok.len
    omega
  cases ef : ls.find? fun x => decide (x.1 = i) with
  | none =>
    have ev : valD (lnD ls) (.inl i) = none := by rw [valD_ln, ef]; rfl
    have el : lineOf ls i = [] := by unfold lineOf; rw [ef]
    have efl := filt_none (find_none ef)
    wp_walk using dpR_none h2 (keyD_int _) ev
    rw [lcC_nil (by trivial)]
    wp_walk using G.wr_ok
    refine tail2_w (N := N) (n1 := n1) (L := []) (fl := ls.filter fun x => decide (x.1 ≠ i)) (F := F) (hs := ?_) hfl hlf (by simp) fun S' q => h S' S.length ?_
    · rw [efl]; exact hs.new0 _
    · unfold bookA
      rw [bookL_eq, el]; exact q
  | some x =>
    have ev : valD (lnD ls) (.inl i) = some (.loc x.2.1) := by rw [valD_ln, ef]; rfl
    have el : lineOf ls i = x.2.2 := by unfold lineOf; rw [ef]
    obtain ⟨hx, hxi⟩ := find_mem ef
    have hxl := ok.line hx
    have hxo := (ok.each x hx).2
    wp_walk using dpR_some h2 (keyD_int _) ev
    have hs1 : Sep (S.set n1 (.dk (dropKD (lnD ls) (.inl i)))) ((n, .obj 34 [(9, .loc n1)]) :: (n1, .dk (lnD (ls.filter fun x => decide (x.1 ≠ i)))) :: (lnH ls ++ F)) := by
      rw [drop_ln]
      exact Sep.setM (L1 := [(n, .obj 34 [(9, .loc n1)])]) (L2 := lnH ls ++ F) (c := .dk (lnD ls)) hs _
    generalize S.set n1 (.dk (dropKD (lnD ls) (.inl i))) = S1 at hs1
    have g3 : S1[x.2.1]? = some (.lst (x.2.2.map rowD)) := hs1.get (by simp [lnH_mem hx])
    wp_walk using celQ_loc g3
    refine lcC_w (fun q acc S' => S' = S1 ∧ q ≤ x.2.2.length ∧ acc = (lowL (x.2.2.take q) s).map rowD) ⟨rfl, Nat.zero_le _, rfl⟩ (fun _ _ _ z => by rw [z.1]; exact g3) ?_ ?_
    · rintro q d acc S' hd ⟨rfl, hq, rfl⟩
      rw [List.getElem?_map] at hd
      obtain ⟨p, hp, rfl⟩ := Option.map_eq_some_iff.mp hd
      have hpm := List.mem_of_getElem? hp
      have hl : q < x.2.2.length := (List.getElem?_eq_some_iff.mp hp).1
      have et : lowL (x.2.2.take (q + 1)) s = lowL (x.2.2.take q) s ++ (if p.1 < s then [p] else []) := by
        rw [List.take_add_one, hp]
        unfold lowL
        rw [List.filter_append]
        congr 1
        by_cases c : p.1 < s
        · simp [c]
        · simp [c]
      have hix : ∀ S', ixD S' (rowD p) (.int 0) = some (rD p.1) := fun _ => rfl
      have sz : ((lowL (x.2.2.take q) s).map rowD).length < sizeLine := by
        have a1 := low_len (x.2.2.take q) s
        have a2 : (x.2.2.take q).length ≤ x.2.2.length := by rw [List.length_take]; omega
        rw [sizeLine_eq, List.length_map]; omega
      have tm : Tg.m (.nm 5) (rowD p) [some (.loc n), some (.int i), some (rD s), some (rD r), none, none] = some [some (.loc n), some (.int i), some (rD s), some (rD r), none, some (rowD p)] := rfl
      by_cases c : p.1 < s
      · rw [if_pos c] at et
        wp_walk using tm, hix, before_ok (S := S') hN (hxo p hpm).1 bs (by omega), c
        exact ⟨sz, hl, by rw [et, List.map_append]; rfl⟩
      · rw [if_neg c, List.append_nil] at et
        wp_walk using tm, hix, before_ok (S := S') hN (hxo p hpm).1 bs (by omega), c
        exact ⟨hl, by rw [et]⟩
    · rintro acc S' ⟨rfl, _, rfl⟩
      rw [List.length_map, List.take_length]
      wp_walk using G.wr_ok
      have hll := low_len x.2.2 s
      refine tail2_w (N := N) (n1 := n1) (L := lowL x.2.2 s) (fl := ls.filter fun x => decide (x.1 ≠ i)) (F := F) (hs := ?_) hfl hlf (by omega) fun S'' q => h S'' S'.length ?_
      · refine (hs1.sub ?_).new0 _
        exact List.Sublist.cons₂ _ (List.Sublist.cons₂ _ (List.Sublist.append lnH_filter (List.Sublist.refl _)))
      · unfold bookA
        rw [bookL_eq, el]; exact q
end
end C
namespace C
open PySem G
noncomputable section
structure Rv where
  z : Int
  l : Rat
  o : Option Rat
  h : Int
  c : Rat
  g : Rat
  t : Rat
structure RvB (b : Nat) (r : Rv) : Prop where
  k : CliOk r.l r.o r.h
  z1 : 1 ≤ r.z
  z9 : r.z ≤ 999
  bl : Bt r.l 60
  bo : ∀ q, r.o = some q → Bt q 60
  bc : Bt r.c b
  bg : Bt r.g b
  bt : Bt r.t b
  c0 : 0 ≤ r.c
  g0 : 0 ≤ r.g
  t0 : 0 ≤ r.t
theorem RvB.mono {a b : Nat} {r : Rv} (h : RvB a r) (l : a ≤ b) : RvB b r := ⟨h.k, h.z1, h.z9, h.bl, h.bo, h.bc.mono l, h.bg.mono l, h.bt.mono l, h.c0, h.g0, h.t0⟩
def clk (now : Rat) (r : Rv) : Bool := !decide (r.l = 0) && !decide (now < r.c)
def gat (now : Rat) (r : Rv) : Bool := r.o.isNone || !decide (now < r.g)
def ixs (P : Rv → Bool) (l : List Rv) (n : Nat) : List Nat := (List.range n).filter fun j => (l[j]?).any P
theorem z01 : D.tup [.int 0, .int 1] = rD 0 := rfl
def dueR (r : Rv) : Rat := dueB r.c r.z r.l
def stp (key : Nat → Rat) (b q : Nat) : Nat := if key q < key b then q else b
def fstI (key : Nat → Rat) : List Nat → Nat
  | [] => 0
  | p :: ps => ps.foldl (stp key) p
def low (b x : Rat) : Rat := if x < b then x else b
def spotsV (rows : List Rv) : List Rat := rows.map (·.g) ++ (rows.filter fun r => !decide (r.l = 0)).map (·.c)
def nextD : List Rat → D
  | [] => .non
  | q :: qs => rD (qs.foldl low q)
inductive Pk where
  | least (i : Nat)
  | share (i : Nat)
  | nobody (d : D)
def Pk.d : Pk → D
  | .least i => .tup [.str "least", .int (i : Nat)]
  | .share i => .tup [.str "share", .int (i : Nat)]
  | .nobody d => .tup [.str "none", d]
def keyL (rows : List Rv) (i : Nat) : Rat := match rows[i]? with
  | some r => dueR r
  | none => 0
def keyT (pace : Rat) (rows : List Rv) (i : Nat) : Rat := match rows[i]? with
  | some r => max r.t pace
  | none => 0
def pickK (rows : List Rv) (now pace : Rat) : Pk :=
  if ixs (clk now) rows rows.length ≠ [] then .least (fstI (keyL rows) (ixs (clk now) rows rows.length))
  else if ixs (gat now) rows rows.length ≠ [] then .share (fstI (keyT pace rows) (ixs (gat now) rows rows.length))
  else .nobody (nextD (spotsV rows))
theorem bt_max {p q : Rat} {n : Nat} (h : Bt p n) (h' : Bt q n) : Bt (max p q) n := by
  have := h.max h'
  rwa [max_le] at this
end
end C
namespace C
open PySem G
noncomputable section
structure Se where
  num : Nat
  name : Str
  l : Rat
  o : Option Rat
  h : Int
  c : Rat
  g : Rat
  t : Rat
  line : List (Nat × Int)
structure Sv where
  r : Nat
  q : Nat
  z : Nat
  f : Nat
  w : Nat
  b : Nat
  b1 : Nat
  at_ : Rat
  till : Rat
  pace : Rat
  seats : List (Nat × Nat × Se)
  came : Nat
  sizes : List Int
  fates : List D
  rows : List D
  ls : Ls
def cliD (x : Se) : D := cD x.name x.l x.o x.h
def seatC (la : Nat) (x : Se) : Cell := .obj 35 [(34, .int x.num), (25, cliD x), (32, tD x.c x.g x.t), (31, .loc la)]
def seatH (p : Nat × Nat × Se) : HL := [(p.1, seatC p.2.1 p.2.2), (p.2.1, .lst (p.2.2.line.map fun q => .int q.1))]
def seatsH (l : List (Nat × Nat × Se)) : HL := l.flatMap seatH
def Sv.roomC (v : Sv) : Cell := .obj 36 [(10, rD v.at_), (45, rD v.till), (41, rD v.pace), (38, .loc v.q), (19, .int v.came), (40, .loc v.z), (21, .loc v.f), (37, .loc v.w), (13, .loc v.b)]
def Sv.H (v : Sv) : HL := (v.r, v.roomC) :: (v.q, .lst (v.seats.map fun p => .loc p.1)) :: (v.z, .lst (v.sizes.map .int)) :: (v.f, .lst v.fates) :: (v.w, .lst v.rows) :: (seatsH v.seats ++ bkH v.b v.b1 v.ls)
def NameOk (nm : Str) : Prop := ∀ (N : Nat) (S : Store), m_is_name N [.str nm] S = .ok (.bl true) S
structure SeOk (B : Nat) (x : Se) : Prop where
  k : CliOk x.l x.o x.h
  nm : NameOk x.name
  bl : Bt x.l 31
  bo : ∀ q, x.o = some q → Bt q 31
  bc : Bt x.c B
  bg : Bt x.g B
  bt : Bt x.t B
  c0 : 0 ≤ x.c
  g0 : 0 ≤ x.g
  t0 : 0 ≤ x.t
  line : ∀ q, q ∈ x.line → 1 ≤ q.2 ∧ q.2 ≤ 999
  len : x.line.length ≤ 40
theorem SeOk.mono {B B' : Nat} {x : Se} (h : SeOk B x) (l : B ≤ B') : SeOk B' x := ⟨h.k, h.nm, h.bl, h.bo, h.bc.mono l, h.bg.mono l, h.bt.mono l, h.c0, h.g0, h.t0, h.line, h.len⟩
structure SvOk (B c n : Nat) (v : Sv) : Prop where
  ba : Bt v.at_ B
  bu : Bt v.till B
  bp : Bt v.pace B
  a0 : 0 ≤ v.at_
  u0 : 0 ≤ v.till
  p0 : 0 ≤ v.pace
  seats : ∀ p, p ∈ v.seats → SeOk B p.2.2
  few : v.seats.length ≤ 12
  nums : (v.seats.map (·.2.2.num)).Nodup
  numl : ∀ p, p ∈ v.seats → p.2.2.num < v.came
  names : (v.seats.map (·.2.2.name)).Nodup
  sz : ∀ p, p ∈ v.seats → ∀ q, q ∈ p.2.2.line → v.sizes[q.1]? = some q.2
  fl : v.fates.length = v.sizes.length
  szn : v.sizes.length ≤ n
  rwn : v.rows.length ≤ n
  ls : LsOk v.ls c B
theorem SvOk.mono {B B' c c' n n' : Nat} {v : Sv} (h : SvOk B c n v) (l : B ≤ B') (lc : c ≤ c') (ln : n ≤ n') : SvOk B' c' n' v :=
  ⟨h.ba.mono l, h.bu.mono l, h.bp.mono l, h.a0, h.u0, h.p0, fun p hp => (h.seats p hp).mono l, h.few, h.nums, h.numl, h.names, h.sz, h.fl, Nat.le_trans h.szn ln, Nat.le_trans h.rwn ln, h.ls.mono lc l⟩
def updN (n : Nat) (f : Nat × Nat × Se → Nat × Nat × Se) (l : List (Nat × Nat × Se)) : List (Nat × Nat × Se) := l.map fun p => if p.2.2.num = n then f p else p
def askS (now : Rat) (k : Nat) (z : Int) (x : Se) : Se := { x with c := if x.line = [] then max x.c now else x.c, line := x.line ++ [(k, z)] }
def Sv.ask (v : Sv) (p : Nat × Nat × Se) (z : Int) : Sv := { v with
  seats := updN p.2.2.num (fun q => (q.1, q.2.1, askS v.at_ v.sizes.length z q.2.2)) v.seats
  sizes := v.sizes ++ [z]
  fates := v.fates ++ [.tup [.str "waits"]]
  rows := v.rows ++ [.tup [.str "ask", rD v.at_, .str p.2.2.name, .int z]] }
end
end C
namespace C
open PySem G
noncomputable section
structure MostOk (l : Rat) (o : Option Rat) (h : Int) : Prop where
  l0 : 0 ≤ l
  l1 : l ≤ 1
  o1 : ∀ q, o = some q → 0 < q ∧ q ≤ 1
  h1 : 1 ≤ h
  h9 : h ≤ 99
theorem CliOk.most {l : Rat} {o : Option Rat} {h : Int} (k : CliOk l o h) : MostOk l o h := ⟨k.l0, k.l1, fun q hq => ⟨(k.o1 q hq).1, (k.o1 q hq).2.1⟩, k.h1, k.h9⟩
def setS (l : Rat) (o : Option Rat) (h : Int) (x : Se) : Se := { x with l := l, o := o, h := h }
def Sv.put (v : Sv) (p : Nat × Nat × Se) (l : Rat) (o : Option Rat) (h : Int) : Sv := { v with seats := updN p.2.2.num (fun q => (q.1, q.2.1, setS l o h q.2.2)) v.seats }
def Sv.row (v : Sv) (d : D) : Sv := { v with rows := v.rows ++ [d] }
end
end C
namespace C
open PySem G
noncomputable section
def Sv.top (v : Sv) : HL := (v.r, v.roomC) :: (v.q, .lst (v.seats.map fun p => .loc p.1)) :: (v.z, .lst (v.sizes.map .int)) :: (v.f, .lst v.fates) :: (v.w, .lst v.rows) :: seatsH v.seats
theorem Sv.H_top (v : Sv) : v.H = v.top ++ bkH v.b v.b1 v.ls := rfl
theorem Sv.bk {S : Store} {v : Sv} {F : HL} (hs : Sep S (v.H ++ F)) : Sep S (bkH v.b v.b1 v.ls ++ (v.top ++ F)) := by
  rw [Sv.H_top, List.append_assoc] at hs
  exact hs.swap
def Sv.left (v : Sv) (s : Rat) (but : Option Int) : Rat := 1 - mostA v.ls s but
def leastS (clock : Rat) (l : Rat) (x : Se) : Se := { x with c := clock, l := l }
def Had (spare : Bool) (left rate had : Rat) : Prop := (had = rate ∧ ¬ left < rate) ∨ (had = left ∧ left < rate ∧ spare = true)
theorem Had.le {spare : Bool} {left rate had : Rat} (h : Had spare left rate had) : had ≤ rate := by
  rcases h with ⟨rfl, _⟩ | ⟨rfl, z, _⟩ <;> grind
end
end C
namespace C
open PySem G
noncomputable section
def dropF (now : Rat) (line : List (Nat × Int)) (f : List D) : List D := line.foldl (fun f q => f.set q.1 (.tup [.str "dropped", rD now])) f
def Sv.leave (v : Sv) (p : Nat × Nat × Se) (a : Nat) : Sv := { v with
  ls := bookA v.ls p.2.2.num (max p.2.2.c v.at_) 0 a
  seats := v.seats.filter fun q => decide (q.2.2.num ≠ p.2.2.num)
  fates := dropF v.at_ p.2.2.line v.fates
  rows := v.rows ++ [.tup [.str "leave", rD v.at_, .str p.2.2.name]] }
end
end C
namespace C
open PySem G
end C
namespace C
open PySem G
noncomputable section
def headZ (x : Se) : Int := match x.line with
  | q :: _ => q.2
  | [] => 0
def rvS (x : Se) : Rv := ⟨headZ x, x.l, x.o, x.h, x.c, x.g, x.t⟩
def wts (x : Se) : Bool := !x.line.isEmpty
def Sv.wait (v : Sv) : List (Nat × Nat × Se) := v.seats.filter fun p => wts p.2.2
def Sv.next (v : Sv) (when_ : Rat) : Pk := pickK (v.wait.map fun p => rvS p.2.2) when_ v.pace
end
end C
namespace C
open PySem G
noncomputable section
def beginS (lst : Bool) (when_ pace : Rat) (x : Se) : Se := match x.line with
  | [] => x
  | q :: r => { x with line := r, c := if lst then dueB x.c q.2 x.l else x.c, g := gateB x.o x.g q.2 when_, t := if lst then x.t else rsd x.t pace q.2 (x.h : Rat) }
def wordOf (lst : Bool) : Str := if lst then "least" else "share"
def Sv.begin (v : Sv) (p : Nat × Nat × Se) (lst : Bool) (when_ : Rat) (k : Nat) (z : Int) (a : Nat) : Sv := { v with
  till := when_ + (z : Rat)
  pace := if lst then v.pace else max p.2.2.t v.pace
  seats := updN p.2.2.num (fun q => (q.1, a, beginS lst when_ v.pace q.2.2)) v.seats
  fates := v.fates.set k (.tup [.str "begun", rD when_, rD (when_ + (z : Rat)), .str (wordOf lst)])
  rows := v.rows ++ [.tup [.str "serve", rD when_, .str p.2.2.name, .int z, .str (wordOf lst)]] }
def toldB (k : Nat) (nm : Str) (z : Int) (lst : Bool) (when_ : Rat) : D := .tup [.int k, .str nm, .int z, .str (wordOf lst), rD when_]
end
end C
namespace C
open PySem G
noncomputable section
structure Ab where
  till : Rat
  pace : Rat
  seats : List Se
  rows : List D
def Ab.wait (b : Ab) : List Se := b.seats.filter wts
def Ab.next (b : Ab) (when_ : Rat) : Pk := pickK (b.wait.map rvS) when_ b.pace
def updA (n : Nat) (f : Se → Se) (l : List Se) : List Se := l.map fun x => if x.num = n then f x else x
def Ab.begin (b : Ab) (x : Se) (lst : Bool) (when_ : Rat) (z : Int) : Ab where
  till := when_ + (z : Rat)
  pace := if lst then b.pace else max x.t b.pace
  seats := updA x.num (beginS lst when_ b.pace) b.seats
  rows := b.rows ++ [.tup [.str "serve", rD when_, .str x.name, .int z, .str (wordOf lst)]]
def nxtQ : List Rat → Option Rat
  | [] => none
  | q :: qs => some (qs.foldl low q)
inductive Ch where
  | serve (lst : Bool) (x : Se) (k : Nat) (z : Int)
  | wait (q : Rat)
  | none
def chOf (lst : Bool) : Option Se → Ch
  | some x => match x.line with
    | q :: _ => .serve lst x q.1 q.2
    | [] => .none
  | none => .none
def Ab.ch (b : Ab) (when_ : Rat) : Ch := match b.next when_ with
  | .least i => chOf true b.wait[i]?
  | .share i => chOf false b.wait[i]?
  | .nobody _ => match nxtQ (spotsV (b.wait.map rvS)) with
    | some q => .wait q
    | none => .none
def Ab.go (time : Rat) : Nat → Ab → Rat → Option (List D × Ab)
  | 0, _, _ => none
  | n + 1, b, when_ => if when_ < time then match b.ch when_ with
    | .serve lst x k z => (Ab.go time n (b.begin x lst when_ z) (when_ + (z : Rat))).map fun r => (toldB k x.name z lst when_ :: r.1, r.2)
    | .wait q => Ab.go time n b q
    | .none => some ([], b)
    else some ([], b)
def Ab.W (b : Ab) : Nat := (b.seats.map fun x => x.line.length).sum
def Ch.w : Ch → Nat
  | .wait _ => 1
  | _ => 0
end
end C
namespace C
open PySem G
noncomputable section
def Sv.abs (v : Sv) : Ab := ⟨v.till, v.pace, v.seats.map (·.2.2), v.rows⟩
def Sml (rs : Nat) (v : Sv) : Prop := ∀ p, p ∈ v.seats → Bt p.2.2.l rs ∧ ∀ q, p.2.2.o = some q → Bt q rs
theorem divz_nn {z : Int} {r : Rat} (hz : 1 ≤ z) (hr : 0 ≤ r) : 0 ≤ (z : Rat) / r := by
  rw [Rat.div_def]
  have h1 : (0 : Rat) ≤ (z : Rat) := by exact_mod_cast (by omega : (0 : Int) ≤ z)
  refine Rat.mul_nonneg h1 ?_
  by_cases c : r = 0
  · subst c; rw [Rat.inv_zero]; decide
  · have hp : 0 < r := by grind
    have := Rat.inv_pos.mpr hp
    grind
end
end C
namespace C
open PySem G
noncomputable section
structure SameSv (v v' : Sv) : Prop where
  r : v'.r = v.r
  q : v'.q = v.q
  z : v'.z = v.z
  f : v'.f = v.f
  w : v'.w = v.w
  b : v'.b = v.b
  b1 : v'.b1 = v.b1
  at_ : v'.at_ = v.at_
  came : v'.came = v.came
  sizes : v'.sizes = v.sizes
  ls : v'.ls = v.ls
theorem SameSv.refl (v : Sv) : SameSv v v := ⟨rfl, rfl, rfl, rfl, rfl, rfl, rfl, rfl, rfl, rfl, rfl⟩
theorem SameSv.trans {v v1 v2 : Sv} (a : SameSv v v1) (b : SameSv v1 v2) : SameSv v v2 := ⟨b.r.trans a.r, b.q.trans a.q, b.z.trans a.z, b.f.trans a.f, b.w.trans a.w, b.b.trans a.b, b.b1.trans a.b1, b.at_.trans a.at_, b.came.trans a.came, b.sizes.trans a.sizes, b.ls.trans a.ls⟩
end
end C
namespace C
open PySem G
noncomputable section
def Ab.run (b : Ab) (now time : Rat) : Option (List D × Ab) := Ab.go time (2 * b.W + 2) b (max now b.till)
end
end C
namespace C
open PySem G
end C
namespace C
open PySem G
noncomputable section
def Sv.new (n : Nat) : Sv := ⟨n, n + 1, n + 2, n + 3, n + 4, n + 5, n + 6, 0, 0, 0, [], 0, [], [], [], []⟩
theorem book_init (N : Nat) (T : Store) : mkM 34 (m_Bookings___init__ N) g_Bookings___init___1_ [] [] T = .ok (.loc T.length) (T ++ [.obj 34 [(9, .loc (T.length + 1))], .dk []]) := by
  have e : m_Bookings___init__ N [.loc T.length] (T ++ [.obj 34 []]) = .ok .non (T ++ [.obj 34 [(9, .loc (T.length + 1))], .dk []]) := by
    apply eq_of_w
    rw [m_Bookings___init__, wr_fnM, b_Bookings___init__]
    have hs : stF [34, 45] 9 ((T ++ [.obj 34 []]) ++ [.dk []]) (.loc T.length) (.loc (T ++ [Cell.obj 34 []]).length) = some (T ++ [.obj 34 [(9, .loc (T.length + 1))], .dk []]) := by
      rw [stF_loc (cn := 34) (fs := []) (by simp) rfl (by simp)]
      simp [List.set_append, putD]
    wp_walk using hs
  unfold mkM
  have eg : g_Bookings___init___1_ [.loc T.length] [] = [.loc T.length] := rfl
  rw [eg, e]; rfl
end
end C
namespace C
open PySem G
noncomputable section
structure Ow where
  d : Nat
  f : Nat
  w : Nat
  bk : Nat
  now : Rat
  till : Rat
  pace : Rat
  folk : List (Nat × Nat × Se)
  rows : List D
  came : Nat
  books : List (Int × Rat × Rat)
  asks : Option Nat
def Ow.K (o : Ow) : List (L2.Key × D) := [(.inr "now", rD o.now), (.inr "till", rD o.till), (.inr "pace", rD o.pace), (.inr "folk", .loc o.f), (.inr "rows", .loc o.w), (.inr "came", .int o.came), (.inr "books", .loc o.bk)] ++ (match o.asks with
  | some k => [(.inr "asks", .int k)]
  | none => [])
def seK (la : Nat) (x : Se) : List (L2.Key × D) := [(.inr "name", .str x.name), (.inr "id", .int x.num), (.inr "rate", rD x.l), (.inr "limit", oD x.o), (.inr "heft", .int x.h), (.inr "clock", rD x.c), (.inr "gate", rD x.g), (.inr "turn", rD x.t), (.inr "line", .loc la)]
def rowB (p : Int × Rat × Rat) : D := .tup [.int p.1, rD p.2.1, rD p.2.2]
def folkH (p : Nat × Nat × Se) : HL := [(p.1, .dk (seK p.2.1 p.2.2)), (p.2.1, .lst (p.2.2.line.map fun q => .tup [.int q.1, .int q.2]))]
def folksH (l : List (Nat × Nat × Se)) : HL := l.flatMap folkH
def Ow.H (o : Ow) : HL := (o.d, .dk o.K) :: (o.f, .lst (o.folk.map fun p => .loc p.1)) :: (o.w, .lst o.rows) :: (o.bk, .lst (o.books.map rowB)) :: folksH o.folk
structure OwOk (B c n : Nat) (o : Ow) : Prop where
  ba : Bt o.now B
  bu : Bt o.till B
  bp : Bt o.pace B
  a0 : 0 ≤ o.now
  u0 : 0 ≤ o.till
  p0 : 0 ≤ o.pace
  folk : ∀ p, p ∈ o.folk → SeOk B p.2.2
  few : o.folk.length ≤ 12
  nums : (o.folk.map (·.2.2.num)).Nodup
  names : (o.folk.map (·.2.2.name)).Nodup
  rwn : o.rows.length ≤ n
  bkn : o.books.length ≤ c
  bks : ∀ b, b ∈ o.books → 0 ≤ b.1 ∧ b.1 < o.came ∧ Bt b.2.1 B ∧ 0 ≤ b.2.1 ∧ Bt b.2.2 31 ∧ 0 ≤ b.2.2 ∧ b.2.2 ≤ 1
end
end C
namespace C
open PySem G
noncomputable section
def Ow.wait (o : Ow) : List (Nat × Nat × Se) := o.folk.filter fun p => wts p.2.2
def Ow.abs (o : Ow) : Ab := ⟨o.till, o.pace, o.folk.map (·.2.2), o.rows⟩
end
end C
namespace C
open PySem G
end C
namespace C
open PySem G
end C
namespace C
open PySem G
noncomputable section
def Ow.begin (o : Ow) (p : Nat × Nat × Se) (lst : Bool) (z : Int) : Ow := { o with
  till := o.now + (z : Rat)
  pace := if lst then o.pace else max p.2.2.t o.pace
  folk := updN p.2.2.num (fun q => (q.1, q.2.1, beginS lst o.now o.pace q.2.2)) o.folk
  rows := o.rows ++ [.tup [.str "serve", rD o.now, .str p.2.2.name, .int z, .str (wordOf lst)]] }
end
end C
namespace C
open PySem G
noncomputable section
structure SameO (o o' : Ow) : Prop where
  d : o'.d = o.d
  f : o'.f = o.f
  w : o'.w = o.w
  bk : o'.bk = o.bk
  came : o'.came = o.came
  books : o'.books = o.books
  asks : o'.asks = o.asks
theorem SameO.refl (o : Ow) : SameO o o := ⟨rfl, rfl, rfl, rfl, rfl, rfl, rfl⟩
theorem SameO.trans {o o1 o2 : Ow} (a : SameO o o1) (b : SameO o1 o2) : SameO o o2 := ⟨b.d.trans a.d, b.f.trans a.f, b.w.trans a.w, b.bk.trans a.bk, b.came.trans a.came, b.books.trans a.books, b.asks.trans a.asks⟩
theorem SameO.begin (o : Ow) (p : Nat × Nat × Se) (lst : Bool) (z : Int) : SameO o (o.begin p lst z) := ⟨rfl, rfl, rfl, rfl, rfl, rfl, rfl⟩
end
end C
namespace C
open PySem G
noncomputable section
theorem lineOf_book (ls : Ls) (i k : Int) (s r : Rat) (a : Nat) : lineOf (bookA ls i s r a) k = if k = i then bookL (lineOf ls i) s r else lineOf ls k := by
  generalize hB : bookL (lineOf ls i) s r = B
  unfold bookA
  rw [hB]
  by_cases c : k = i
  · subst c
    rw [if_pos rfl]
    have e : ((ls.filter fun x => decide (x.1 ≠ k)).find? fun x => decide (x.1 = k)) = none := List.find?_eq_none.mpr fun x hx => by
      have := (List.mem_filter.mp hx).2
      simpa using this
    unfold lineOf
    rw [List.find?_append, e, Option.none_or]
    by_cases b : B = []
    · rw [if_pos b, b]; rfl
    · rw [if_neg b]; simp
  · rw [if_neg c]
    unfold lineOf
    rw [List.find?_append]
    have e : ((ls.filter fun x => decide (x.1 ≠ i)).find? fun x => decide (x.1 = k)) = ls.find? fun x => decide (x.1 = k) := by
      clear hB
      induction ls with
      | nil => rfl
      | cons x l ih =>
        rw [List.filter_cons]
        by_cases d : x.1 = i
        · rw [if_neg (by simpa using d), ih, List.find?_cons, decide_eq_false (fun e => c (e.symm.trans d))]
        · rw [if_pos (by simpa using d), List.find?_cons, List.find?_cons, ih]
    rw [e]
    cases hf : ls.find? fun x => decide (x.1 = k) with
    | some x => rfl
    | none =>
      rw [Option.none_or]
      by_cases b : B = []
      · rw [if_pos b]; rfl
      · rw [if_neg b]
        have c' : ¬ i = k := fun e => c e.symm
        simp [c']
def RB (ls : Ls) (bs : List Rw) : Prop := ∀ i t, atT (lineOf ls i) t = lawT bs i t
def bookO (bs : List Rw) (i : Int) (s r : Rat) : List Rw := (bs.filter fun b => decide (b.1 ≠ i ∨ b.2.1 < s)) ++ [(i, s, r)]
theorem RB.nil : RB [] [] := fun _ _ => rfl
end
end C
namespace C
open PySem G
noncomputable section
def BkOk (B c : Nat) (bs : List Rw) : Prop := bs.length ≤ c ∧ ∀ b, b ∈ bs → Bt b.2.1 B ∧ 0 ≤ b.2.1 ∧ Bt b.2.2 31
theorem OwOk.bk {B c n : Nat} {o : Ow} (ok : OwOk B c n o) : BkOk B c o.books := ⟨ok.bkn, fun b hb => ⟨(ok.bks b hb).2.2.1, (ok.bks b hb).2.2.2.1, (ok.bks b hb).2.2.2.2.1⟩⟩
end
end C
namespace C
open PySem G
noncomputable section
def Ow.row (o : Ow) (d : D) : Ow := { o with rows := o.rows ++ [d] }
def Ow.nk (o : Ow) : Nat := o.asks.getD 0
def Ow.ask (o : Ow) (p : Nat × Nat × Se) (z : Int) : Ow := { o with
  folk := updN p.2.2.num (fun q => (q.1, q.2.1, askS o.now o.nk z q.2.2)) o.folk
  rows := o.rows ++ [.tup [.str "ask", rD o.now, .str p.2.2.name, .int z]]
  asks := some (o.nk + 1) }
end
end C
namespace C
open PySem G
noncomputable section
def Ow.put (o : Ow) (p : Nat × Nat × Se) (l : Rat) (m : Option Rat) (h : Int) : Ow := { o with folk := updN p.2.2.num (fun q => (q.1, q.2.1, setS l m h q.2.2)) o.folk }
def Ow.least (o : Ow) (p : Nat × Nat × Se) (r : Rat) (a : Nat) : Ow := { o with
  bk := a
  books := bookO o.books p.2.2.num (max p.2.2.c o.now) r
  folk := updN p.2.2.num (fun q => (q.1, q.2.1, leastS (max p.2.2.c o.now) r q.2.2)) o.folk
  rows := o.rows ++ [.tup [.str "least", rD o.now, .str p.2.2.name, rD r]] }
end
end C
namespace C
open PySem G
noncomputable section
def Ow.leave (o : Ow) (p : Nat × Nat × Se) (a : Nat) : Ow := { o with
  bk := a
  books := bookO o.books p.2.2.num (max p.2.2.c o.now) 0
  folk := o.folk.filter fun q => decide (q.2.2.num ≠ p.2.2.num)
  rows := o.rows ++ [.tup [.str "leave", rD o.now, .str p.2.2.name]] }
end
end C
namespace C
open PySem G
noncomputable section
def joinSe (o : Ow) (nm : Str) (l : Rat) (m : Option Rat) (h : Int) : Se := ⟨o.came, nm, l, m, h, o.now, o.now, o.pace, []⟩
def Ow.join (o : Ow) (nm : Str) (l : Rat) (m : Option Rat) (h : Int) (a a1 a2 : Nat) : Ow := { o with
  bk := a
  books := bookO o.books o.came o.now l
  folk := o.folk ++ [(a1, a2, joinSe o nm l m h)]
  came := o.came + 1
  rows := o.rows ++ [.tup [.str "join", rD o.now, .str nm, rD l, oD m, .int h]] }
def Ow.new (n : Nat) : Ow := ⟨n + 3, n, n + 1, n + 2, 0, 0, 0, [], [], 0, [], none⟩
end
end C
namespace C
open PySem G
noncomputable section
inductive Dd where
  | ask (nm : Str) (z : Int)
  | leave (nm : Str)
  | weight (nm : Str) (h : Int)
  | most (nm : Str) (m : Option Rat)
  | least (nm : Str) (r : Rat)
  | join (nm : Str) (l : Rat) (m : Option Rat) (h : Int)
  | go (t : Rat)
def NmOk (nm : Str) : Prop := NameOk nm ∧ (PyData.str nm).canLay0 = true
def Dd.ok (rs bt : Nat) : Dd → Prop
  | .ask nm z => NmOk nm ∧ 1 ≤ z ∧ z ≤ 999
  | .leave nm => NmOk nm
  | .weight nm h => NmOk nm ∧ 1 ≤ h ∧ h ≤ 99
  | .most nm m => NmOk nm ∧ ∀ q, m = some q → Bt q rs ∧ 0 < q ∧ q ≤ 1
  | .least nm r => NmOk nm ∧ Bt r rs ∧ 0 ≤ r ∧ r ≤ 1
  | .join nm l m h => NmOk nm ∧ Bt l rs ∧ 0 ≤ l ∧ l ≤ 1 ∧ (∀ q, m = some q → Bt q rs ∧ 0 < q ∧ q ≤ 1) ∧ 1 ≤ h ∧ h ≤ 99
  | .go t => Bt t bt ∧ 0 ≤ t
structure Al (v : Sv) (o : Ow) : Prop where
  ab : o.abs = v.abs
  now : o.now = v.at_
  came : o.came = v.came
  nk : o.nk = v.sizes.length
  rb : RB v.ls o.books
structure BO (B c : Nat) (o : Ow) : Prop where
  len : o.books.length ≤ c
  each : ∀ b, b ∈ o.books → 0 ≤ b.1 ∧ b.1 < o.came ∧ Bt b.2.1 B ∧ 0 ≤ b.2.1 ∧ Bt b.2.2 31 ∧ 0 ≤ b.2.2 ∧ b.2.2 ≤ 1
theorem BO.mono {B B' c c' : Nat} {o : Ow} (h : BO B c o) (l : B ≤ B') (lc : c ≤ c') : BO B' c' o := ⟨Nat.le_trans h.len lc, fun b hb => by
  obtain ⟨h1, h2, h3, h4⟩ := h.each b hb
  exact ⟨h1, h2, h3.mono l, h4⟩⟩
section
variable {v : Sv} {o : Ow} {B c c' n : Nat}
theorem Al.till (a : Al v o) : o.till = v.till := congrArg Ab.till a.ab
theorem Al.pace (a : Al v o) : o.pace = v.pace := congrArg Ab.pace a.ab
theorem Al.seats (a : Al v o) : o.folk.map (·.2.2) = v.seats.map (·.2.2) := congrArg Ab.seats a.ab
theorem Al.rows (a : Al v o) : o.rows = v.rows := congrArg Ab.rows a.ab
theorem Al.mem (a : Al v o) {p : Nat × Nat × Se} (hp : p ∈ o.folk) : ∃ q, q ∈ v.seats ∧ q.2.2 = p.2.2 := by
  have : p.2.2 ∈ v.seats.map (·.2.2) := by rw [← a.seats]; exact List.mem_map_of_mem hp
  obtain ⟨q, h1, h2⟩ := List.mem_map.mp this
  exact ⟨q, h1, h2⟩
theorem Al.len (a : Al v o) : o.folk.length = v.seats.length := by
  have := congrArg List.length a.seats
  rwa [List.length_map, List.length_map] at this
end
end
end C
namespace C
open PySem G
end C
namespace C
open PySem G
noncomputable section
def b__law_moment (N : Nat) : SM := (sRet (eCall (m__law_add N) (nA 2 (aCons (eVar 1) (aCons (eCall (m__law_r N) (nA 2 (aCons (eCall (m__law_take N) (nA 2 (aCons (eVar 0) (aCons (eC (.int 13)) aNil)))) (aCons (eBinS ixD (eLst (aCons (eC (.int 1)) (aCons (eC (.int 1)) (aCons (eC (.int 2)) (aCons (eC (.int 3)) (aCons (eC (.int 4)) aNil)))))) (eCall (m__law_take N) (nA 2 (aCons (eVar 0) (aCons (eC (.int 5)) aNil))))) aNil)))) aNil)))))
def m__law_moment (N : Nat) : FM := fnM 2 (b__law_moment N)
def b__law_rateS (N : Nat) : SM := (sSeq (sSet 1 (eBinS dAddS (eC (.int 1)) (eCall (m__law_take N) (nA 2 (aCons (eVar 0) (aCons (eC (.int 12)) aNil))))))
    (sRet (eCall (m__law_r N) (nA 2 (aCons (eBinS dAddS (eC (.int 1)) (eCall (m__law_take N) (nA 2 (aCons (eVar 0) (aCons (eCa fMin (aCons (eC (.int 6)) (aCons (eVar 1) aNil))) aNil))))) (aCons (eVar 1) aNil))))))
def m__law_rateS (N : Nat) : FM := fnM 2 (b__law_rateS N)
def D27 (q : Rat) : Prop := ∃ k : Int, q * 27720 = (k : Rat)
theorem D27.add {p q : Rat} (a : D27 p) (b : D27 q) : D27 (p + q) := by
  obtain ⟨k, hk⟩ := a
  obtain ⟨l, hl⟩ := b
  exact ⟨k + l, by push_cast; grind⟩
theorem D27.sub {p q : Rat} (a : D27 p) (b : D27 q) : D27 (p - q) := by
  obtain ⟨k, hk⟩ := a
  obtain ⟨l, hl⟩ := b
  exact ⟨k - l, by push_cast; grind⟩
theorem D27.div (a : Int) {b : Int} (b1 : 1 ≤ b) (b12 : b ≤ 12) : D27 (Rat.divInt a b) := by
  have hb : b = 1 ∨ b = 2 ∨ b = 3 ∨ b = 4 ∨ b = 5 ∨ b = 6 ∨ b = 7 ∨ b = 8 ∨ b = 9 ∨ b = 10 ∨ b = 11 ∨ b = 12 := by omega
  unfold D27
  rw [Rat.divInt_eq_div]
  rcases hb with rfl | rfl | rfl | rfl | rfl | rfl | rfl | rfl | rfl | rfl | rfl | rfl
  · exact ⟨a * 27720, by push_cast; grind⟩
  · exact ⟨a * 13860, by push_cast; grind⟩
  · exact ⟨a * 9240, by push_cast; grind⟩
  · exact ⟨a * 6930, by push_cast; grind⟩
  · exact ⟨a * 5544, by push_cast; grind⟩
  · exact ⟨a * 4620, by push_cast; grind⟩
  · exact ⟨a * 3960, by push_cast; grind⟩
  · exact ⟨a * 3465, by push_cast; grind⟩
  · exact ⟨a * 3080, by push_cast; grind⟩
  · exact ⟨a * 2772, by push_cast; grind⟩
  · exact ⟨a * 2520, by push_cast; grind⟩
  · exact ⟨a * 2310, by push_cast; grind⟩
theorem mul_den (q : Rat) : q * (q.den : Rat) = (q.num : Rat) := by
  have h := Rat.num_divInt_den q
  have hd : (q.den : Rat) ≠ 0 := by
    have := q.den_nz
    exact_mod_cast this
  have h2 : q = (q.num : Rat) / ((q.den : Int) : Rat) := by rw [← Rat.divInt_eq_div]; exact h.symm
  have e : ((q.den : Int) : Rat) = (q.den : Rat) := by norm_cast
  rw [e] at h2
  generalize hn : (q.num : Rat) = a at *
  generalize (q.den : Rat) = b at *
  rw [h2]
  rw [Rat.div_def, Rat.mul_assoc, Rat.inv_mul_cancel _ hd, Rat.mul_one]
theorem D27.bt {q : Rat} (h : D27 q) (q0 : 0 ≤ q) (q1 : q ≤ 1) : Bt q 15 := by
  obtain ⟨k, hk⟩ := h
  have e : q.num * 27720 = k * (q.den : Int) := by
    have h1 : (q.num : Rat) = q * (q.den : Rat) := (mul_den q).symm
    have : (((q.num * 27720 : Int)) : Rat) = ((k * (q.den : Int) : Int) : Rat) := by
      push_cast
      rw [h1, ← hk]
      grind
    exact_mod_cast this
  have d1 : (q.den : Int) ∣ q.num * 27720 := ⟨k, by rw [e]; exact Int.mul_comm _ _⟩
  have d2 : q.den ∣ q.num.natAbs * 27720 := by
    have := Int.natAbs_dvd_natAbs.mpr d1
    rw [Int.natAbs_mul] at this
    simpa using this
  have d3 : q.den ∣ 27720 := Nat.Coprime.dvd_of_dvd_mul_left q.reduced.symm d2
  have hd : q.den ≤ 27720 := Nat.le_of_dvd (by omega) d3
  have hn0 : 0 ≤ q.num := Rat.num_nonneg.mpr q0
  have hn1 : q.num ≤ (q.den : Int) := by
    have h1 : (q.num : Rat) = q * (q.den : Rat) := (mul_den q).symm
    have h2 : (0 : Rat) ≤ (q.den : Rat) := by exact_mod_cast Nat.zero_le _
    have h3 : q * (q.den : Rat) ≤ 1 * (q.den : Rat) := Rat.mul_le_mul_of_nonneg_right q1 h2
    rw [← h1, Rat.one_mul] at h3
    exact_mod_cast h3
  refine ⟨?_, ?_⟩
  · have : q.num.natAbs ≤ 27720 := by omega
    exact Nat.lt_of_le_of_lt this (by decide)
  · exact Nat.lt_of_le_of_lt hd (by decide)
theorem rateD_w {N : Nat} (hN : big N) {S : Store} {n : Nat} {Q X : QP D} (P : Pool S n) (h : ∀ q S', Bt q 5 → D27 q → 0 < q → q ≤ 1 → Pool S' n → Fr n S S' → Q (rD q) S') : Wr (m__law_rateS N [.loc n] S) Q X := by
  rw [m__law_rateS, wr_fnM, b__law_rateS]
  wp_walk using G.wr_ok
  refine take_w N P (by omega) (by omega) fun w S1 w0 w1 P1 F1 => ?_
  wp_walk using G.wr_ok
  refine take_w N P1 (by split <;> omega) (by split <;> omega) fun a S2 a0 a1 P2 F2 => ?_
  wp_walk using G.wr_ok
  rw [r_ok hN (n := 5) (by omega) (by omega) (by omega) (by omega)]
  have hu := rat_unit (p := 1 + a) (b := 1 + w) (by omega) (by split at a1 <;> omega)
  exact h _ _ (bt_div (m := 0) (by omega) (by omega) (by omega)) (D27.div _ (by omega) (by omega)) hu.1 hu.2 P2 (F1.trans F2)
theorem rateS_w {N : Nat} (hN : big N) {S : Store} {n : Nat} {Q X : QP D} (P : Pool S n) (h : ∀ q S', Bt q 5 → 0 < q → q ≤ 1 → Pool S' n → Fr n S S' → Q (rD q) S') : Wr (m__law_rateS N [.loc n] S) Q X := rateD_w hN P fun q S' b _ => h q S' b
theorem moment_w {N : Nat} (hN : big N) {S : Store} {n : Nat} {now : Rat} {B : Nat} {Q X : QP D} (P : Pool S n) (bn : Bt now B) (hB : B ≤ 4000) (n0 : 0 ≤ now) (h : ∀ q S', Bt q (B + 7) → now ≤ q → Pool S' n → Fr n S S' → Q (rD q) S') : Wr (m__law_moment N [.loc n, rD now] S) Q X := by
  rw [m__law_moment, wr_fnM, b__law_moment]
  wp_walk using G.wr_ok
  refine take_w N P (by omega) (by omega) fun a S1 a0 a1 P1 F1 => ?_
  wp_walk using G.wr_ok
  refine take_w N P1 (by omega) (by omega) fun b S2 b0 b1 P2 F2 => ?_
  wp_walk using G.wr_ok
  refine wr_at b0 (by simpa using b1) fun d hd => ?_
  obtain ⟨c, rfl, c1, c4⟩ : ∃ c : Int, d = .int c ∧ 1 ≤ c ∧ c ≤ 4 := by
    simp only [List.mem_cons, List.not_mem_nil, or_false] at hd
    rcases hd with rfl | rfl | rfl | rfl | rfl <;> exact ⟨_, rfl, by omega, by omega⟩
  have hq : 0 ≤ Rat.divInt a c := by
    rw [Rat.divInt_eq_div, Rat.div_def]
    refine Rat.mul_nonneg (by exact_mod_cast a0) ?_
    have := divz_nn (z := 1) (r := (c : Rat)) (by omega) (by exact_mod_cast (by omega : (0 : Int) ≤ c))
    rw [Rat.div_def] at this
    have e : ((1 : Int) : Rat) * (c : Rat)⁻¹ = (c : Rat)⁻¹ := by
      rw [show ((1 : Int) : Rat) = 1 from rfl, Rat.one_mul]
    rwa [e] at this
  have bq : Bt (Rat.divInt a c) 6 := bt_div (m := 0) (by omega) (by omega) (by omega)
  wp_walk using r_ok (S := S2) (t := a) (b := c) hN (n := 6) (by omega) (by omega) (by omega) (by omega), ladd_ok (S := S2) hN bn bq (by omega)
  exact h _ _ ((bn.add bq).mono (by omega)) (by grind) P2 (F1.trans F2)
end
end C
namespace C
open PySem G
noncomputable section
structure Nx (B c n W rs bt : Nat) (v1 : Sv) : Prop where
  ok : ∃ B' n', SvOk B' (c + 1) n' v1 ∧ B ≤ B' ∧ B' + 26 * v1.abs.W ≤ max B bt + 26 * W + 26 ∧ n' + v1.abs.W ≤ n + W + 2
  sm : Sml rs v1
end
end C
namespace C
open PySem G
noncomputable section
def RowOk (d : D) : Prop := ∃ (w : Str) (t : Rat) (rest : List D), d = .tup (.str w :: rD t :: rest) ∧ Cmp d ∧ (w = "join" → ∃ nm r', rest = .str nm :: r' ∧ NmOk nm)
structure Iv (v : Sv) : Prop where
  nms : ∀ p, p ∈ v.seats → NmOk p.2.2.name
  rows : ∀ d, d ∈ v.rows → RowOk d
end
end C
namespace C
open PySem G
end C
namespace C
open PySem G
end C
namespace C
open PySem G
end C
namespace C
open PySem G
noncomputable section
structure J (m : Nat) (v : Sv) (o : Ow) : Prop where
  al : Al v o
  iv : Iv v
  sm : Sml 5 v
  ex : ∃ B n, SvOk B m n v ∧ BO B m o ∧ 31 ≤ B ∧ B + 26 * v.abs.W ≤ 31 + 34 * m ∧ n + v.abs.W ≤ 2 * m
theorem J.mono {m m' : Nat} {v : Sv} {o : Ow} (j : J m v o) (h : m ≤ m') : J m' v o := by
  obtain ⟨B, n, k1, k2, k3, k4, k5⟩ := j.ex
  exact ⟨j.al, j.iv, j.sm, B, n, k1.mono (Nat.le_refl _) h (Nat.le_refl _), k2.mono (Nat.le_refl _) h, k3, by omega, by omega⟩
end
end C
namespace C
open PySem G
end C
namespace C
open PySem G
structure PS (S : Store) (n : Nat) (L : HL) : Prop where
  P : Pool S n
  s : Sep S L
  a : n ∉ L.map (·.1)
theorem PS.fr {S S' : Store} {n : Nat} {L : HL} (h : PS S n L) (P' : Pool S' n) (F : Fr n S S') : PS S' n L :=
  ⟨P', h.s.keep fun p hp => F.2 p.1 (h.s.lt (List.mem_map_of_mem hp)) fun e => h.a (e ▸ List.mem_map_of_mem hp), h.a⟩
theorem PS.ex {S : Store} {n : Nat} {L : HL} (h : PS S n L) : ∃ c, Sep S (L ++ [(n, c)]) ∧ ∀ S' L', Sep S' (L' ++ [(n, c)]) → PS S' n L' := by
  obtain ⟨x, y, z, hS, r⟩ := h.P
  refine ⟨_, (h.s.cons hS h.a).perm (List.perm_append_comm (l₁ := [_])), fun S' L' h' => ⟨⟨x, y, z, h'.get (by simp), r⟩, h'.left, fun z => ?_⟩⟩
  have nd := h'.2
  rw [List.map_append] at nd
  exact (List.nodup_append.mp nd).2.2 n z n (by simp) rfl
theorem PS.new {S : Store} {n : Nat} {L : HL} (h : PS S n L) (c : Cell) : PS (S ++ [c]) n ((S.length, c) :: L) := by
  obtain ⟨x, y, z, hS, r⟩ := h.P
  have hl := (List.getElem?_eq_some_iff.mp hS).1
  refine ⟨⟨x, y, z, by rw [List.getElem?_append_left hl]; exact hS, r⟩, h.s.new0 c, fun q => ?_⟩
  rw [List.map_cons] at q
  rcases List.mem_cons.mp q with q | q
  · omega
  · exact h.a q
theorem PS.set0 {S : Store} {n a : Nat} {c : Cell} {L : HL} (h : PS S n ((a, c) :: L)) (c' : Cell) : PS (S.set a c') n ((a, c') :: L) := by
  obtain ⟨x, y, z, hS, r⟩ := h.P
  refine ⟨⟨x, y, z, ?_, r⟩, h.s.set0 c', h.a⟩
  rw [List.getElem?_set_ne fun e => h.a (by rw [← e]; exact List.mem_cons_self)]
  exact hS
theorem PS.perm {S : Store} {n : Nat} {L L' : HL} (h : PS S n L) (p : L.Perm L') : PS S n L' := ⟨h.P, h.s.perm p, fun q => h.a ((p.map _).mem_iff.mpr q)⟩
theorem PS.sub {S : Store} {n : Nat} {L L' : HL} (h : PS S n L) (p : L'.Sublist L) : PS S n L' := ⟨h.P, h.s.sub p, fun q => h.a ((p.map _).subset q)⟩
theorem PS.ne {S : Store} {n a : Nat} {c : Cell} {L : HL} (h : PS S n L) (m : (a, c) ∈ L) : a ≠ n := fun e => h.a (e ▸ List.mem_map_of_mem (f := (·.1)) m)
theorem j0 (t a : Nat) : J 0 (Sv.new t) (Ow.new a) := by
  refine ⟨⟨rfl, rfl, rfl, rfl, RB.nil⟩, ⟨fun p hp => (by cases hp), fun d hd => (by cases hd)⟩, fun p hp => (by cases hp), 31, 0, ⟨bt_0.mono (by omega), bt_0.mono (by omega), bt_0.mono (by omega), by show (0 : Rat) ≤ 0; decide, by show (0 : Rat) ≤ 0; decide, by show (0 : Rat) ≤ 0; decide, fun p hp => (by cases hp), Nat.zero_le _, List.nodup_nil, fun p hp => (by cases hp), List.nodup_nil, fun p hp => (by cases hp), rfl, Nat.le_refl _, Nat.le_refl _, ⟨List.nodup_nil, Nat.le_refl _, Nat.le_refl _, fun x hx => (by cases hx)⟩⟩, ⟨Nat.le_refl _, fun b hb => (by cases hb)⟩, Nat.le_refl _, Nat.le_refl _, Nat.le_refl _⟩
end C
namespace C
open PySem G
noncomputable section
def g_Bookings_pieces_2_ : List D → List D → List D := fun ds es => [(ds.getD 0 .non), (ds.getD 1 .non)]
def b_Bookings_pieces (N : Nat) : SM := (sSeq (sDrop (eCall (m_check_time N) (nA 1 (aCons (eVar 1) aNil))))
    (sSeq (sSet 2 (eNew aNil))
    (sSeq (sFor (iSeq (eMeth 34 (m_Bookings_spots N) g_Bookings_spots_2_ 1 0 (eVar 0) (aCons (eVar 1) aNil) aNil)) (gN 3) (sSeq (sSet 4 (eMeth 34 (m_Bookings_sum_at N) g_Bookings_sum_at_3_ 2 0 (eVar 0) (aCons (eVar 3) (aCons (eC .non) aNil)) aNil))
    (sIf (tOr' (tNt (tT (eVar 2))) (tB (eBin dNe (eBinS ixD (eBinS ixD (eVar 2) (eNeg (eC (.int 1)))) (eC (.int 1))) (eVar 4)))) (sDrop (eApp (eVar 2) (aCons (eTup (aCons (eVar 3) (aCons (eVar 4) aNil))) aNil))) sNop)))
    (sRet (eCa fTuple (aCons (eVar 2) aNil))))))
def m_Bookings_pieces (N : Nat) : FM := fnM 5 (b_Bookings_pieces N)
def pcS (acc : List (Rat × Rat)) (t q : Rat) : List (Rat × Rat) := if acc.getLast?.map (·.2) = some q then acc else acc ++ [(t, q)]
def pcA (ls : Ls) (s : Rat) : List (Rat × Rat) := (sortQ (knQ ls s)).foldl (fun acc t => pcS acc t (sumA ls t none)) []
def pD (p : Rat × Rat) : D := .tup [rD p.1, rD p.2]
theorem dNe_rD (p q : Rat) : dNe (rD p) (rD q) = some (.bl (decide (p ≠ q))) := by
  have h1 : dEq (rD p) (rD q) = some (.bl (decide (p = q))) := dEq_rD p q
  unfold dEq at h1
  unfold dNe
  cases h : eqD (rD p) (rD q) with
  | none => rw [h] at h1; cases h1
  | some b =>
    rw [h] at h1
    have : b = decide (p = q) := by
      have := Option.some.inj h1
      injection this
    subst this
    show some (D.bl (!decide (p = q))) = _
    by_cases c : p = q <;> simp [c]
theorem atI_end (l : List D) (d : D) : L2.atI (l ++ [d]) (-1) = some d := by
  have e : L2.ixN (l.length + 1) (-1) = some l.length := by
    unfold L2.ixN
    simp
    try omega
  unfold L2.atI
  rw [List.length_append]
  show (L2.ixN (l.length + 1) (-1)).bind _ = _
  rw [e]
  simp
theorem pieces_w {N : Nat} (hN : big N) {S : Store} {n n1 c m : Nat} {ls : Ls} {s : Rat} {F : HL} {Q X : QP D} (hs : Sep S (bkH n n1 ls ++ F)) (ok : LsOk ls c m) (hc : c ≤ 130) (bs : Bt s m) (hm : m ≤ 4500) (s0 : 0 ≤ s)
    (h : ∀ S', Sep S' (bkH n n1 ls ++ F) → Q (.tup ((pcA ls s).map pD)) S') : Wr (m_Bookings_pieces N [.loc n, rD s] S) Q X := by
  have i1 : S[n]? = some (.obj 34 [(9, .loc n1)]) := hs.get (by simp [bkH])
  rw [m_Bookings_pieces, wr_fnM, b_Bookings_pieces]
  wp_walk using zstop, ctime_ok (S := S) hN bs (by omega) s0
  have hs0 := hs.new0 (.lst [])
  generalize hS0 : S ++ [Cell.lst []] = S0 at hs0 ⊢
  generalize hg : S.length = g at hs0 ⊢
  have i0 : S0[n]? = some (.obj 34 [(9, .loc n1)]) := hs0.get (by simp [bkH])
  have hs1 : Sep S0 (bkH n n1 ls ++ ((g, .lst []) :: F)) := hs0.perm (List.perm_middle (l₁ := bkH n n1 ls) (l₂ := F)).symm
  wp_walk using zstop, isCn_loc i0, g_Bookings_spots_2_, List.getD_cons_zero, List.getD_cons_succ
  refine spots_w hN hs1 ok (by omega) bs hm fun S1 hs2 => ?_
  have hk := spots_of ls s
  have hkb : ∀ q, q ∈ sortQ (knQ ls s) → Bt q m := fun q hq => by
    rcases (hk.mem q).mp hq with rfl | ⟨_, x, hx, p, hp, rfl⟩
    · exact bs
    · exact ((ok.each x hx).2 p hp).1
  have hlen : (sortQ (knQ ls s)).length ≤ 131 := by
    rw [(sortQ_perm _).length_eq]
    have h3 := (knQ_ok ls s).2.2.1
    have := ok.tot
    omega
  have hfin := h
  unfold pcA at hfin
  generalize sortQ (knQ ls s) = R at hkb hfin hlen ⊢
  wp_walk using G.wr_ok
  refine for_w (fun j e S' => j ≤ R.length ∧ ∃ (acc : List (Rat × Rat)) (x3 x4 : Option D), acc = (R.take j).foldl (fun acc t => pcS acc t (sumA ls t none)) [] ∧ acc.length ≤ j ∧ Sep S' (bkH n n1 ls ++ ((g, .lst (acc.map pD)) :: F)) ∧ e = [some (.loc n), some (rD s), some (.loc g), x3, x4]) ⟨Nat.zero_le _, [], _, _, rfl, Nat.le_refl _, hs2, rfl⟩ ?_ ?_
  · rintro j d e S2 hd ⟨hj, acc, x3, x4, ha, hal, hs3, rfl⟩
    rw [List.getElem?_map] at hd
    obtain ⟨t, ht, rfl⟩ := Option.map_eq_some_iff.mp hd
    have htm := List.mem_of_getElem? ht
    have hlt : j < R.length := (List.getElem?_eq_some_iff.mp ht).1
    have i2 : S2[n]? = some (.obj 34 [(9, .loc n1)]) := hs3.get (by simp [bkH])
    have g2 : S2[g]? = some (.lst (acc.map pD)) := hs3.get (by simp)
    have et : (R.take (j + 1)).foldl (fun acc t => pcS acc t (sumA ls t none)) [] = pcS acc t (sumA ls t none) := by
      rw [List.take_add_one, ht, List.foldl_append, ← ha]; rfl
    have es : m_Bookings_sum_at N (g_Bookings_sum_at_3_ [.loc n, rD t, .non] []) S2 = .ok (rD (sumA ls t none)) S2 := sum_at_ok (but := none) hN hs3.left ok (by omega) (hkb t htm) (by omega)
    have sz : (acc.map pD).length < sizeLine := by rw [List.length_map, sizeLine_eq]; omega
    have put : Sep (S2.set g (.lst (acc.map pD ++ [.tup [rD t, rD (sumA ls t none)]]))) (bkH n n1 ls ++ ((g, .lst ((acc ++ [(t, sumA ls t none)]).map pD)) :: F)) := by
      have := Sep.setM (L1 := bkH n n1 ls) hs3 (.lst (acc.map pD ++ [.tup [rD t, rD (sumA ls t none)]]))
      rw [List.map_append]; exact this
    generalize sumA ls t none = q at et es put
    have tr := truD_loc g2
    have done : (if acc.getLast?.map (·.2) = some q then acc else acc ++ [(t, q)]) = acc ++ [(t, q)] → ∃ (acc' : List (Rat × Rat)) (x3 x4 : Option D), acc' = (R.take (j + 1)).foldl (fun acc t => pcS acc t (sumA ls t none)) [] ∧ acc'.length ≤ j + 1 ∧ Sep (S2.set g (.lst (acc.map pD ++ [.tup [rD t, rD q]]))) (bkH n n1 ls ++ ((g, .lst (acc'.map pD)) :: F)) ∧ [some (.loc n), some (rD s), some (.loc g), some (rD t), some (rD q)] = [some (D.loc n), some (rD s), some (.loc g), x3, x4] := fun e => ⟨acc ++ [(t, q)], _, _, by rw [et]; exact e.symm, by rw [List.length_append]; show acc.length + 1 ≤ _; omega, put, rfl⟩
    rcases List.eq_nil_or_concat acc with hac | ⟨a0, p, hac⟩
    · have e1 : (acc.map pD).isEmpty = true := by rw [hac]; rfl
      rw [e1] at tr
      wp_walk using isCn_loc i2, es, tr, isLst_loc g2, appR_loc g2 sz
      exact ⟨by omega, done (by rw [hac]; rfl)⟩
    · have hac' : acc = a0 ++ [p] := by rw [hac]; simp
      have e1 : (acc.map pD).isEmpty = false := by rw [hac']; simp
      rw [e1] at tr
      have ix : ixD S2 (.loc g) (.int (-1)) = some (.tup [rD p.1, rD p.2]) := by
        rw [ixD_loc _ g2, hac', List.map_append]
        exact atI_end _ _
      have ix1 : ixD S2 (.tup [rD p.1, rD p.2]) (.int 1) = some (rD p.2) := rfl
      have gl : acc.getLast?.map (·.2) = some p.2 := by rw [hac']; simp
      have en := dNe_rD p.2 q
      by_cases c : p.2 = q
      · rw [decide_eq_false (fun z => z c)] at en
        wp_walk using isCn_loc i2, es, tr, isLst_loc g2, ix, ix1, en
        refine ⟨by omega, acc, _, _, ?_, by omega, hs3, rfl⟩
        rw [et]
        unfold pcS
        rw [if_pos (by rw [gl, c])]
      · rw [decide_eq_true c] at en
        wp_walk using isCn_loc i2, es, tr, isLst_loc g2, ix, ix1, en, appR_loc g2 sz
        refine ⟨by omega, done (if_neg fun z => ?_)⟩
        rw [gl] at z
        exact c (Option.some.inj z)
  · rintro e S2 ⟨hj, acc, x3, x4, ha, hal, hs3, rfl⟩
    rw [List.length_map, List.take_length] at ha
    have g2 : S2[g]? = some (.lst (acc.map pD)) := hs3.get (by simp)
    have ft : fTuple S2 [.loc g] = some (.tup (acc.map pD)) := by
      unfold fTuple seqD; simp only [g2]; rfl
    have fin := hfin S2 (hs3.sub (List.Sublist.append (List.Sublist.refl _) (List.sublist_cons_self _ _)))
    rw [← ha] at fin
    wp_walk using ft
    exact fin
end
end C
namespace Wk10
open PySem L2 G
noncomputable section
abbrev n_Bookings___eq__ : List Str := ["self", "other"]
abbrev p_Bookings___eq__ : List Str := ["self", "other"]
theorem sc_Bookings___eq__ : FnScope n_Bookings___eq__ p_Bookings___eq__ (defScope s_Bookings___eq__) := ⟨rfl, rfl, rfl, by decide +kernel, rfl, by decide +kernel, by decide +kernel⟩
abbrev n_Bookings___len__ : List Str := ["self"]
abbrev p_Bookings___len__ : List Str := ["self"]
theorem sc_Bookings___len__ : FnScope n_Bookings___len__ p_Bookings___len__ (defScope s_Bookings___len__) := ⟨rfl, rfl, rfl, by decide +kernel, rfl, by decide +kernel, by decide +kernel⟩
abbrev n_is_whole : List Str := ["thing"]
abbrev p_is_whole : List Str := ["thing"]
theorem sc_is_whole : FnScope n_is_whole p_is_whole (defScope s_is_whole) := ⟨rfl, rfl, rfl, by decide +kernel, rfl, by decide +kernel, by decide +kernel⟩
abbrev n_shared : List Str := ["one", "other"]
abbrev p_shared : List Str := ["one", "other"]
theorem sc_shared : FnScope n_shared p_shared (defScope s_shared) := ⟨rfl, rfl, rfl, by decide +kernel, rfl, by decide +kernel, by decide +kernel⟩
abbrev n_is_ratio : List Str := ["thing", "top", "bottom", "part"]
abbrev p_is_ratio : List Str := ["thing"]
theorem sc_is_ratio : FnScope n_is_ratio p_is_ratio (defScope s_is_ratio) := ⟨rfl, rfl, rfl, by decide +kernel, rfl, by decide +kernel, by decide +kernel⟩
abbrev n_is_time : List Str := ["thing"]
abbrev p_is_time : List Str := ["thing"]
theorem sc_is_time : FnScope n_is_time p_is_time (defScope s_is_time) := ⟨rfl, rfl, rfl, by decide +kernel, rfl, by decide +kernel, by decide +kernel⟩
abbrev n_check_moment : List Str := ["thing"]
abbrev p_check_moment : List Str := ["thing"]
theorem sc_check_moment : FnScope n_check_moment p_check_moment (defScope s_check_moment) := ⟨rfl, rfl, rfl, by decide +kernel, rfl, by decide +kernel, by decide +kernel⟩
abbrev n_check_number : List Str := ["thing"]
abbrev p_check_number : List Str := ["thing"]
theorem sc_check_number : FnScope n_check_number p_check_number (defScope s_check_number) := ⟨rfl, rfl, rfl, by decide +kernel, rfl, by decide +kernel, by decide +kernel⟩
abbrev n_check_ratio : List Str := ["thing"]
abbrev p_check_ratio : List Str := ["thing"]
theorem sc_check_ratio : FnScope n_check_ratio p_check_ratio (defScope s_check_ratio) := ⟨rfl, rfl, rfl, by decide +kernel, rfl, by decide +kernel, by decide +kernel⟩
abbrev n_check_two : List Str := ["one", "other"]
abbrev p_check_two : List Str := ["one", "other"]
theorem sc_check_two : FnScope n_check_two p_check_two (defScope s_check_two) := ⟨rfl, rfl, rfl, by decide +kernel, rfl, by decide +kernel, by decide +kernel⟩
abbrev n_is_before : List Str := ["one", "other"]
abbrev p_is_before : List Str := ["one", "other"]
theorem sc_is_before : FnScope n_is_before p_is_before (defScope s_is_before) := ⟨rfl, rfl, rfl, by decide +kernel, rfl, by decide +kernel, by decide +kernel⟩
abbrev n_is_rate : List Str := ["thing"]
abbrev p_is_rate : List Str := ["thing"]
theorem sc_is_rate : FnScope n_is_rate p_is_rate (defScope s_is_rate) := ⟨rfl, rfl, rfl, by decide +kernel, rfl, by decide +kernel, by decide +kernel⟩
abbrev n_Bookings_book : List Str := ["self", "number", "start", "rate", "line", "row"]
abbrev p_Bookings_book : List Str := ["self", "number", "start", "rate"]
theorem sc_Bookings_book : FnScope n_Bookings_book p_Bookings_book (defScope s_Bookings_book) := ⟨rfl, rfl, rfl, by decide +kernel, rfl, by decide +kernel, by decide +kernel⟩
abbrev n_Bookings_spots : List Str := ["self", "start", "known", "line", "found", "time", "place", "row", "other"]
abbrev p_Bookings_spots : List Str := ["self", "start"]
theorem sc_Bookings_spots : FnScope n_Bookings_spots p_Bookings_spots (defScope s_Bookings_spots) := ⟨rfl, rfl, rfl, by decide +kernel, rfl, by decide +kernel, by decide +kernel⟩
abbrev n_lowest : List Str := ["top", "bottom", "part"]
abbrev p_lowest : List Str := ["top", "bottom"]
theorem sc_lowest : FnScope n_lowest p_lowest (defScope s_lowest) := ⟨rfl, rfl, rfl, by decide +kernel, rfl, by decide +kernel, by decide +kernel⟩
abbrev n_added : List Str := ["one", "other", "top", "bottom", "more", "under"]
abbrev p_added : List Str := ["one", "other"]
theorem sc_added : FnScope n_added p_added (defScope s_added) := ⟨rfl, rfl, rfl, by decide +kernel, rfl, by decide +kernel, by decide +kernel⟩
abbrev n_at_time : List Str := ["line", "time", "found", "start", "rate"]
abbrev p_at_time : List Str := ["line", "time"]
theorem sc_at_time : FnScope n_at_time p_at_time (defScope s_at_time) := ⟨rfl, rfl, rfl, by decide +kernel, rfl, by decide +kernel, by decide +kernel⟩
abbrev n_Bookings_sum_at : List Str := ["self", "time", "but", "found", "number", "line"]
abbrev p_Bookings_sum_at : List Str := ["self", "time", "but"]
theorem sc_Bookings_sum_at : FnScope n_Bookings_sum_at p_Bookings_sum_at (defScope s_Bookings_sum_at) := ⟨rfl, rfl, rfl, by decide +kernel, rfl, by decide +kernel, by decide +kernel⟩
abbrev n_greater : List Str := ["one", "other"]
abbrev p_greater : List Str := ["one", "other"]
theorem sc_greater : FnScope n_greater p_greater (defScope s_greater) := ⟨rfl, rfl, rfl, by decide +kernel, rfl, by decide +kernel, by decide +kernel⟩
abbrev n_Bookings_most_booked : List Str := ["self", "start", "but", "found", "time"]
abbrev p_Bookings_most_booked : List Str := ["self", "start", "but"]
theorem sc_Bookings_most_booked : FnScope n_Bookings_most_booked p_Bookings_most_booked (defScope s_Bookings_most_booked) := ⟨rfl, rfl, rfl, by decide +kernel, rfl, by decide +kernel, by decide +kernel⟩
abbrev n_Bookings_pieces : List Str := ["self", "start", "found", "time", "total"]
abbrev p_Bookings_pieces : List Str := ["self", "start"]
theorem sc_Bookings_pieces : FnScope n_Bookings_pieces p_Bookings_pieces (defScope s_Bookings_pieces) := ⟨rfl, rfl, rfl, by decide +kernel, rfl, by decide +kernel, by decide +kernel⟩
abbrev n_Bookings_rate_at : List Str := ["self", "number", "time"]
abbrev p_Bookings_rate_at : List Str := ["self", "number", "time"]
theorem sc_Bookings_rate_at : FnScope n_Bookings_rate_at p_Bookings_rate_at (defScope s_Bookings_rate_at) := ⟨rfl, rfl, rfl, by decide +kernel, rfl, by decide +kernel, by decide +kernel⟩
abbrev n__law_cell : List Str := ["_law_script", "_law_k", "_law_state", "_law_cell_here"]
abbrev p__law_cell : List Str := ["_law_script", "_law_k"]
theorem sc__law_cell : FnScope n__law_cell p__law_cell (defScope s__law_cell) := ⟨rfl, rfl, rfl, by decide +kernel, rfl, by decide +kernel, by decide +kernel⟩
abbrev n_Bookings___init__ : List Str := ["self"]
abbrev p_Bookings___init__ : List Str := ["self"]
theorem sc_Bookings___init__ : FnScope n_Bookings___init__ p_Bookings___init__ (defScope s_Bookings___init__) := ⟨rfl, rfl, rfl, by decide +kernel, rfl, by decide +kernel, by decide +kernel⟩
abbrev n__law_r : List Str := ["_law_top", "_law_bottom", "_law_one", "_law_rest"]
abbrev p__law_r : List Str := ["_law_top", "_law_bottom"]
theorem sc__law_r : FnScope n__law_r p__law_r (defScope s__law_r) := ⟨rfl, rfl, rfl, by decide +kernel, rfl, by decide +kernel, by decide +kernel⟩
abbrev n__law_add : List Str := ["_law_one", "_law_other"]
abbrev p__law_add : List Str := ["_law_one", "_law_other"]
theorem sc__law_add : FnScope n__law_add p__law_add (defScope s__law_add) := ⟨rfl, rfl, rfl, by decide +kernel, rfl, by decide +kernel, by decide +kernel⟩
abbrev n__law_take : List Str := ["_law_pool_here", "_law_many", "_law_state", "_law_digit"]
abbrev p__law_take : List Str := ["_law_pool_here", "_law_many"]
theorem sc__law_take : FnScope n__law_take p__law_take (defScope s__law_take) := ⟨rfl, rfl, rfl, by decide +kernel, rfl, by decide +kernel, by decide +kernel⟩
abbrev n__law_moment : List Str := ["_law_pool_here", "_law_now"]
abbrev p__law_moment : List Str := ["_law_pool_here", "_law_now"]
theorem sc__law_moment : FnScope n__law_moment p__law_moment (defScope s__law_moment) := ⟨rfl, rfl, rfl, by decide +kernel, rfl, by decide +kernel, by decide +kernel⟩
abbrev n__law_rate : List Str := ["_law_pool_here", "_law_bottom"]
abbrev p__law_rate : List Str := ["_law_pool_here"]
theorem sc__law_rate : FnScope n__law_rate p__law_rate (defScope s__law_rate) := ⟨rfl, rfl, rfl, by decide +kernel, rfl, by decide +kernel, by decide +kernel⟩
abbrev n__law_filled : List Str := ["_law_pool_here", "_law_one_book", "_law_other_book", "_law_turn", "_law_number", "_law_start", "_law_rate_here"]
abbrev p__law_filled : List Str := ["_law_pool_here"]
theorem sc__law_filled : FnScope n__law_filled p__law_filled (defScope s__law_filled) := ⟨rfl, rfl, rfl, by decide +kernel, rfl, by decide +kernel, by decide +kernel⟩
abbrev n__law_pool : List Str := ["_law_cell_here", "_law_digits"]
abbrev p__law_pool : List Str := ["_law_cell_here"]
theorem sc__law_pool : FnScope n__law_pool p__law_pool (defScope s__law_pool) := ⟨rfl, rfl, rfl, by decide +kernel, rfl, by decide +kernel, by decide +kernel⟩
abbrev n__law_word : List Str := ["_law_e", "_law_some", "_law_bases", "_law_words"]
abbrev p__law_word : List Str := ["_law_e"]
theorem sc__law_word : FnScope n__law_word p__law_word (defScope s__law_word) := ⟨rfl, rfl, rfl, by decide +kernel, rfl, by decide +kernel, by decide +kernel⟩
abbrev n__law_caught : List Str := ["_law_deed", "_law_e", "_law_word_here"]
abbrev p__law_caught : List Str := ["_law_deed"]
theorem sc__law_caught : FnScope (n__law_caught ++ ph4) p__law_caught (defScope s__law_caught) := ⟨rfl, rfl, rfl, by decide +kernel, rfl, by decide +kernel, by decide +kernel⟩
abbrev n__law_refusals_right : List Str := ["_law_book", "_law_good", "_law_number", "_law_moment_here", "_law_rate_here", "_law_numbers", "_law_times", "_law_rates", "_law_low", "_law_odd", "_law_when", "_law_what", "_law_word_here", "_law_field"]
abbrev p__law_refusals_right : List Str := ["_law_book", "_law_good"]
theorem sc__law_refusals_right : FnScope n__law_refusals_right p__law_refusals_right (defScope s__law_refusals_right) := ⟨rfl, rfl, rfl, by decide +kernel, rfl, by decide +kernel, by decide +kernel⟩
abbrev n_law : List Str := ["_law_script", "_law_k", "_law_pool_here", "_law_book", "_law_again", "_law_good", "_law_rate_here"]
abbrev p_law : List Str := ["_law_script"]
theorem sc_law : FnScope n_law p_law (defScope s_law) := ⟨rfl, rfl, rfl, by decide +kernel, rfl, by decide +kernel, by decide +kernel⟩
def g_Bookings_most_booked_2_ : List D → List D → List D := fun ds es => [(ds.getD 0 .non), (ds.getD 1 .non), (.non)]
def g_Bookings_most_booked_2_but : List D → List D → List D := fun ds es => [(ds.getD 0 .non), (ds.getD 1 .non), (es.getD 0 .non)]
def g_Bookings___eq___2_ : List D → List D → List D := fun ds es => [(ds.getD 0 .non), (ds.getD 1 .non)]
def g_Bookings___len___1_ : List D → List D → List D := fun ds es => [(ds.getD 0 .non)]
abbrev rsL : List Nat := [3, 6, 8, 9]
theorem sc_NoRate___init__ : FnScope ["self", "rate"] ["self", "rate"] (defScope s_NoRate___init__) := ⟨rfl, rfl, rfl, by decide +kernel, rfl, by decide +kernel, by decide +kernel⟩
def b_Bookings___eq__ (N : Nat) : SM := (sRet (eAn (eIsO 34 (eVar 1)) (eBinS dEqK (eFld [34, 45] 9 (eVar 0)) (eFld [34, 45] 9 (eVar 1)))))
def m_Bookings___eq__ (N : Nat) : FM := fnM 2 (b_Bookings___eq__ N)
def b_Bookings___len__ (N : Nat) : SM := (sRet (eCa fLenD (aCons (eFld [34, 45] 9 (eVar 0)) aNil)))
def m_Bookings___len__ (N : Nat) : FM := fnM 1 (b_Bookings___len__ N)
def b_Bookings_book (N : Nat) : SM := (sSeq (sDrop (eCall (C.m_check_number N) (nA 1 (aCons (eVar 1) aNil))))
    (sSeq (sDrop (eCall (C.m_check_time N) (nA 1 (aCons (eVar 2) aNil))))
    (sSeq (sIf (tOr' (tAn (tB (eBin dNeW (eVar 3) (eC (.tup [.int 0, .int 1])))) (tNt (tT (eCall (C.m_is_rate N) (nA 1 (aCons (eVar 3) aNil)))))) (tNt (tT (eCall (C.m_is_time N) (nA 1 (aCons (eVar 3) aNil)))))) (sRaiseF 6 5 (eVar 3)) sNop)
    (sSeq (sSet 4 (eLcCN (iCel (eDPop2 (eFld [34, 45] 9 (eVar 0)) (eVar 1) (eLst aNil))) (.nm 5) (tT (eCall (C.m_is_before N) (nA 2 (aCons (eBinS ixD (eVar 5) (eC (.int 0))) (aCons (eVar 2) aNil))))) (eVar 5) [5]))
    (sSeq (sIf (tB (eBin dNe (eIf (tT (eVar 4)) (eBinS ixD (eBinS ixD (eVar 4) (eNeg (eC (.int 1)))) (eC (.int 1))) (eC (.tup [.int 0, .int 1]))) (eVar 3))) (sDrop (eApp (eVar 4) (aCons (eTup (aCons (eVar 2) (aCons (eVar 3) aNil))) aNil))) sNop)
    (sIf (tT (eVar 4)) (sAsg (eVar 4) (gSbE (eFld [34, 45] 9 (eVar 0)) (eVar 1))) sNop))))))
def m_Bookings_book (N : Nat) : FM := fnM 6 (b_Bookings_book N)
def b__law_filled (N : Nat) : SM := (sSeq (sPar 1 2 (aCons (eMk0 (mkM 34 (C.m_Bookings___init__ N) C.g_Bookings___init___1_)) (aCons (eMk0 (mkM 34 (C.m_Bookings___init__ N) C.g_Bookings___init___1_)) aNil)))
    (sSeq (sFor (iRg1 (aCons (eCall (C.m__law_take N) (nA 2 (aCons (eVar 0) (aCons (eC (.int 9)) aNil)))) aNil)) (gN 3) (sSeq (sPar 4 5 (aCons (eCall (C.m__law_take N) (nA 2 (aCons (eVar 0) (aCons (eC (.int 4)) aNil)))) (aCons (eCall (C.m__law_moment N) (nA 2 (aCons (eVar 0) (aCons (eTup (aCons (eC (.int 0)) (aCons (eC (.int 1)) aNil))) aNil)))) aNil)))
    (sSeq (sSet 6 (eBinS ixD (eLst (aCons (eTup (aCons (eC (.int 0)) (aCons (eC (.int 1)) aNil))) (aCons (eCall (C.m__law_rateS N) (nA 1 (aCons (eVar 0) aNil))) aNil))) (eCall (C.m__law_take N) (nA 2 (aCons (eVar 0) (aCons (eC (.int 2)) aNil))))))
    (sSeq (sDrop (eMeth 34 (m_Bookings_book N) C.g_Bookings_book_4_ 3 0 (eVar 1) (aCons (eVar 4) (aCons (eVar 5) (aCons (eVar 6) aNil))) aNil))
    (sDrop (eMeth 34 (m_Bookings_book N) C.g_Bookings_book_4_ 3 0 (eVar 2) (aCons (eVar 4) (aCons (eVar 5) (aCons (eVar 6) aNil))) aNil))))))
    (sRet (eTup (aCons (eVar 1) (aCons (eVar 2) aNil))))))
def m__law_filled (N : Nat) : FM := fnM 7 (b__law_filled N)
def b__law_word (N : Nat) : SM := (sSeq (sSet 1 (eLst (aCons (eIsY (tbR rsL 8) (eVar 0)) (aCons (eIsY (tbR rsL 9) (eVar 0)) (aCons (eIsY (tbR rsL 6) (eVar 0)) (aCons (eIsY (tbR rsL 17) (eVar 0)) aNil))))))
    (sSeq (sSet 1 (eBinS dAddS (eVar 1) (eLst (aCons (eIsY (tbR rsL 24) (eVar 0)) (aCons (eIsY (tbR rsL 23) (eVar 0)) (aCons (eIsY (tbR rsL 22) (eVar 0)) (aCons (eIsY (tbR rsL 19) (eVar 0)) aNil)))))))
    (sSeq (sSet 1 (eBinS dAddS (eVar 1) (eLst (aCons (eIsY (tbR rsL 18) (eVar 0)) (aCons (eIsY (tbR rsL 4) (eVar 0)) (aCons (eIsY (tbR rsL 3) (eVar 0)) (aCons (eIsY (tbR rsL 11) (eVar 0)) aNil)))))))
    (sSeq (sSet 2 (eLst (aCons (eIsY (tbR rsL 100) (eVar 0)) (aCons (eIsY (tbR rsL 101) (eVar 0)) (aCons (eIsY (tbR rsL 102) (eVar 0)) aNil)))))
    (sSeq (sIf (tOr' (tB (eBin dNe (eMt fCnt (eVar 1) (aCons (eC (.bl true)) aNil)) (eC (.int 1)))) (tOr' (tB (eBin dNe (eMt fCnt (eVar 2) (aCons (eC (.bl true)) aNil)) (eC (.int 1)))) (tT (eIsY (tbR rsL 2) (eVar 0))))) (sRet (eC (.str "other"))) sNop)
    (sSeq (sIf (tB (eBin dNe (eIsY (tbR rsL 101) (eVar 0)) (eIsY (tbR rsL 24) (eVar 0)))) (sRet (eC (.str "other"))) sNop)
    (sSeq (sSet 3 (eLst (aCons (eC (.str "number")) (aCons (eC (.str "time")) (aCons (eC (.str "rate")) (aCons (eC (.str "log")) (aCons (eC (.str "one")) (aCons (eC (.str "row")) (aCons (eC (.str "word")) (aCons (eC (.str "less")) (aCons (eC (.str "stretch")) (aCons (eC (.str "text")) (aCons (eC (.str "ratio")) (aCons (eC (.str "size")) aNil))))))))))))))
    (sRet (eBinS ixD (eVar 3) (eMt fIdx (eVar 1) (aCons (eC (.bl true)) aNil)))))))))))
def m__law_word (N : Nat) : FM := fnM 4 (b__law_word N)
def b__law_caught (fv : Nat) (cp : List (Option D)) (fk : FM) (N : Nat) : SM := (sSeq (sTryG [([tbR rsL 1, tbR rsL 2, tbR rsL 0], some 1, (sSeq (sSet 2 (eCallN (m__law_word N) (nA 1 (aCons (eVar 1) aNil))))
    (sSeq (sIf (tB (eBin dEq (eVar 2) (eC (.str "rate")))) (sRet (eTup (aCons (eVar 2) (aCons (eFldY [6] 5 (eVar 1)) aNil)))) sNop)
    (sSeq (sIf (tB (eBin dEq (eVar 2) (eC (.str "log")))) (sRet (eTup (aCons (eVar 2) (aCons (eFldY [4, 17] 4 (eVar 1)) aNil)))) sNop)
    (sRet (eTup (aCons (eVar 2) (aCons (eIf (tB (eBin dEq (eVar 2) (eC (.str "one")))) (eFldY [24] 0 (eVar 1)) (eC .non)) aNil))))))))] (sDrop (eCallV 0 fv 3 cp fk aNil)))
    (sRet (eTup (aCons (eC (.str "told")) (aCons (eC .non) aNil)))))
def m__law_caught (fv : Nat) (cp : List (Option D)) (fk : FM) (N : Nat) : FM := fnH 3 cp (b__law_caught fv cp fk N)
def b__law_refusals_right (N : Nat) : SM := (sSeq (sAsg (eVar 1) (gTp 3 (gsCons' (gN 2) (gsCons' (gN 3) (gsCons' (gN 4) gsNil)))))
    (sSeq (sSet 5 (eLst (aCons (eNeg (eC (.int 1))) (aCons (eC (.bl true)) (aCons (eC (.bl false)) (aCons (eC .non) (aCons (eC (.str "0")) (aCons (eC (.str "a")) (aCons (eTup (aCons (eC (.int 0)) aNil)) (aCons (eLst (aCons (eC (.int 0)) aNil)) (aCons (eC (.dic [] [])) aNil)))))))))))
    (sSeq (sSet 6 (eLst (aCons (eTup (aCons (eNeg (eC (.int 1))) (aCons (eC (.int 2)) aNil))) (aCons (eTup (aCons (eC (.int 2)) (aCons (eC (.int 4)) aNil))) (aCons (eTup (aCons (eC (.int 1)) (aCons (eC (.int 0)) aNil))) (aCons (eTup (aCons (eC (.int 0)) (aCons (eC (.int 2)) aNil))) (aCons (eC .non) (aCons (eC (.int 0)) (aCons (eC (.str "0")) (aCons (eLst (aCons (eC (.int 0)) (aCons (eC (.int 1)) aNil))) (aCons (eTup (aCons (eC (.int 0)) (aCons (eC (.bl true)) aNil))) (aCons (eTup (aCons (eC (.bl true)) (aCons (eC (.int 1)) aNil))) (aCons (eTup (aCons (eC (.int 0)) aNil)) (aCons (eTup (aCons (eC (.int 0)) (aCons (eC (.int 1)) (aCons (eC (.int 1)) aNil)))) (aCons (eTup (aCons (eLst (aCons (eC (.int 0)) aNil)) (aCons (eC (.int 1)) aNil))) (aCons (eC (.dic [] [])) aNil))))))))))))))))
    (sSeq (sSet 7 (eLst (aCons (eTup (aCons (eC (.int 3)) (aCons (eC (.int 2)) aNil))) (aCons (eTup (aCons (eNeg (eC (.int 1))) (aCons (eC (.int 2)) aNil))) (aCons (eTup (aCons (eC (.int 2)) (aCons (eC (.int 4)) aNil))) (aCons (eTup (aCons (eC (.int 1)) (aCons (eC (.int 0)) aNil))) (aCons (eC .non) (aCons (eC (.int 1)) (aCons (eC (.str "1")) (aCons (eLst (aCons (eC (.int 1)) (aCons (eC (.int 2)) aNil))) (aCons (eTup (aCons (eC (.bl true)) (aCons (eC (.int 1)) aNil))) (aCons (eTup (aCons (eC (.int 1)) (aCons (eC (.bl true)) aNil))) (aCons (eTup (aCons (eC (.bl false)) (aCons (eC (.int 1)) aNil))) (aCons (eTup (aCons (eC (.int 0)) aNil)) (aCons (eC (.dic [] [])) aNil)))))))))))))))
    (sSeq (sFor (iSeq (eLst (aCons (eC (.int 0)) (aCons (eC (.int 1)) aNil)))) (gN 8) (sIf (tOr' (tB (eBin dNe (eMeth 34 (C.m_Bookings_rate_at N) C.g_Bookings_rate_at_3_ 2 0 (eVar 0) (aCons (eVar 8) (aCons (eVar 3) aNil)) aNil) (eMeth 34 (C.m_Bookings_rate_at N) C.g_Bookings_rate_at_3_ 2 0 (eVar 0) (aCons (eVar 8) (aCons (eVar 3) aNil)) aNil))) (tB (eBin dIs (eMeth 34 (C.m_Bookings_most_booked N) C.g_Bookings_most_booked_3_ 2 0 (eVar 0) (aCons (eVar 3) (aCons (eVar 8) aNil)) aNil) (eC .non)))) (sRet (eC (.bl false))) sNop))
    (sSeq (sIf (tOr' (tB (eBin dNe (eMeth 34 (C.m_Bookings_most_booked N) g_Bookings_most_booked_2_ 1 0 (eVar 0) (aCons (eTup (aCons (eC (.int 1)) (aCons (eC (.int 1)) aNil))) aNil) aNil) (eMeth 34 (C.m_Bookings_most_booked N) C.g_Bookings_most_booked_3_ 2 0 (eVar 0) (aCons (eTup (aCons (eC (.int 1)) (aCons (eC (.int 1)) aNil))) (aCons (eC .non) aNil)) aNil))) (tB (eBin dEq (eMeth 34 (C.m_Bookings_pieces N) C.g_Bookings_pieces_2_ 1 0 (eVar 0) (aCons (eTup (aCons (eC (.int 1)) (aCons (eC (.int 1)) aNil))) aNil) aNil) (eTup aNil)))) (sRet (eC (.bl false))) sNop)
    (sSeq (sFor (iSeq (eVar 5)) (gN 9) (sSeq (sFor (iSeq (eLst (aCons (eTup (aCons (eVar 3) (aCons (eVar 4) aNil))) (aCons (eTup (aCons (eBinS ixD (eVar 6) (eC (.int 0))) (aCons (eBinS ixD (eVar 7) (eC (.int 0))) aNil))) (aCons (eTup (aCons (eVar 3) (aCons (eBinS ixD (eVar 7) (eC (.int 1))) aNil))) aNil))))) (gTp 2 (gsCons' (gN 10) (gsCons' (gN 11) gsNil))) (sIf (tB (eBin dNe (eCallH (fun fv cp fk => m__law_caught fv cp fk N) [0, 9, 10, 11] (lamF [0, 9, 10, 11] 0 (eMeth 34 (m_Bookings_book N) C.g_Bookings_book_4_ 3 0 (eVar 0) (aCons (eVar 1) (aCons (eVar 2) (aCons (eVar 3) aNil))) aNil)) (tbS 0 mk__law_refusals_right.1 mk__law_refusals_right.2) 0 aNil) (eTup (aCons (eC (.str "number")) (aCons (eC .non) aNil))))) (sRet (eC (.bl false))) sNop))
    (sSeq (sIf (tB (eBin dNe (eCallH (fun fv cp fk => m__law_caught fv cp fk N) [0, 6, 9] (lamF [0, 6, 9] 0 (eMeth 34 (C.m_Bookings_rate_at N) C.g_Bookings_rate_at_3_ 2 0 (eVar 0) (aCons (eVar 2) (aCons (eBinS ixD (eVar 1) (eC (.int 1))) aNil)) aNil)) (tbS 0 mk__law_refusals_right.1 mk__law_refusals_right.2) 0 aNil) (eTup (aCons (eC (.str "number")) (aCons (eC .non) aNil))))) (sRet (eC (.bl false))) sNop)
    (sIf (tAn (tB (eBin dIsNot (eVar 9) (eC .non))) (tB (eBin dNe (eCallH (fun fv cp fk => m__law_caught fv cp fk N) [0, 3, 9] (lamF [0, 3, 9] 0 (eMeth 34 (C.m_Bookings_most_booked N) C.g_Bookings_most_booked_3_ 2 0 (eVar 0) (aCons (eVar 1) (aCons (eVar 2) aNil)) aNil)) (tbS 0 mk__law_refusals_right.1 mk__law_refusals_right.2) 0 aNil) (eTup (aCons (eC (.str "number")) (aCons (eC .non) aNil)))))) (sRet (eC (.bl false))) sNop))))
    (sSeq (sFor (iSeq (eVar 6)) (gN 9) (sSeq (sIf (tB (eBin dNe (eCallH (fun fv cp fk => m__law_caught fv cp fk N) [0, 2, 7, 9] (lamF [0, 2, 7, 9] 0 (eMeth 34 (m_Bookings_book N) C.g_Bookings_book_4_ 3 0 (eVar 0) (aCons (eVar 1) (aCons (eVar 3) (aCons (eBinS ixD (eVar 2) (eC (.int 2))) aNil))) aNil)) (tbS 0 mk__law_refusals_right.1 mk__law_refusals_right.2) 0 aNil) (eTup (aCons (eC (.str "time")) (aCons (eC .non) aNil))))) (sRet (eC (.bl false))) sNop)
    (sSeq (sIf (tB (eBin dNe (eCallH (fun fv cp fk => m__law_caught fv cp fk N) [0, 2, 9] (lamF [0, 2, 9] 0 (eMeth 34 (C.m_Bookings_rate_at N) C.g_Bookings_rate_at_3_ 2 0 (eVar 0) (aCons (eVar 1) (aCons (eVar 2) aNil)) aNil)) (tbS 0 mk__law_refusals_right.1 mk__law_refusals_right.2) 0 aNil) (eTup (aCons (eC (.str "time")) (aCons (eC .non) aNil))))) (sRet (eC (.bl false))) sNop)
    (sSeq (sIf (tB (eBin dNe (eCallH (fun fv cp fk => m__law_caught fv cp fk N) [0, 9] (lamF [0, 9] 0 (eMeth 34 (C.m_Bookings_most_booked N) g_Bookings_most_booked_2_but 1 1 (eVar 0) (aCons (eVar 1) aNil) (aCons (eNeg (eC (.int 1))) aNil))) (tbS 0 mk__law_refusals_right.1 mk__law_refusals_right.2) 0 aNil) (eTup (aCons (eC (.str "time")) (aCons (eC .non) aNil))))) (sRet (eC (.bl false))) sNop)
    (sIf (tB (eBin dNe (eCallH (fun fv cp fk => m__law_caught fv cp fk N) [0, 9] (lamF [0, 9] 0 (eMeth 34 (C.m_Bookings_pieces N) C.g_Bookings_pieces_2_ 1 0 (eVar 0) (aCons (eVar 1) aNil) aNil)) (tbS 0 mk__law_refusals_right.1 mk__law_refusals_right.2) 0 aNil) (eTup (aCons (eC (.str "time")) (aCons (eC .non) aNil))))) (sRet (eC (.bl false))) sNop)))))
    (sSeq (sFor (iSeq (eVar 7)) (gN 9) (sSeq (sAsg (eCallH (fun fv cp fk => m__law_caught fv cp fk N) [0, 2, 3, 9] (lamF [0, 2, 3, 9] 0 (eMeth 34 (m_Bookings_book N) C.g_Bookings_book_4_ 3 0 (eVar 0) (aCons (eVar 1) (aCons (eVar 2) (aCons (eVar 3) aNil))) aNil)) (tbS 0 mk__law_refusals_right.1 mk__law_refusals_right.2) 0 aNil) (gTp 2 (gsCons' (gN 12) (gsCons' (gN 13) gsNil))))
    (sIf (tOr' (tB (eBin dNe (eVar 12) (eC (.str "rate")))) (tB (eBin dNe (eCa fReprD (aCons (eVar 13) aNil)) (eCa fReprD (aCons (eVar 9) aNil))))) (sRet (eC (.bl false))) sNop)))
    (sRet (eC (.bl true))))))))))))
def m__law_refusals_right (N : Nat) : FM := fnM 14 (b__law_refusals_right N)
def b_law (N : Nat) : SM := (sSeq (sFor (iRg1 (aCons (eCa fMax (aCons (eC (.int 1)) (aCons (eCa fMin (aCons (eC (.int 5)) (aCons (eCa fLen (aCons (eVar 0) aNil)) aNil))) aNil))) aNil)) (gN 1) (sSeq (sSet 2 (eCall (C.m__law_pool N) (nA 1 (aCons (eCall (C.m__law_cell N) (nA 2 (aCons (eVar 0) (aCons (eVar 1) aNil)))) aNil))))
    (sSeq (sAsg (eCall (m__law_filled N) (nA 1 (aCons (eVar 2) aNil))) (gTp 2 (gsCons' (gN 3) (gsCons' (gN 4) gsNil))))
    (sSeq (sSet 5 (eTup (aCons (eCall (C.m__law_take N) (nA 2 (aCons (eVar 2) (aCons (eC (.int 4)) aNil)))) (aCons (eCall (C.m__law_moment N) (nA 2 (aCons (eVar 2) (aCons (eTup (aCons (eC (.int 0)) (aCons (eC (.int 1)) aNil))) aNil)))) (aCons (eCall (C.m__law_rateS N) (nA 1 (aCons (eVar 2) aNil))) aNil)))))
    (sSeq (sIf (tOr' (tNt (tB (eEqO false 34 (m_Bookings___eq__ N) g_Bookings___eq___2_ (eVar 3) (eVar 4)))) (tOr' (tNt (tT (eCall (m__law_refusals_right N) (nA 2 (aCons (eVar 3) (aCons (eVar 5) aNil)))))) (tOr' (tNt (tB (eEqO false 34 (m_Bookings___eq__ N) g_Bookings___eq___2_ (eVar 3) (eVar 4)))) (tB (eEqO true 34 (m_Bookings___eq__ N) g_Bookings___eq___2_ (eVar 3) (eVar 4)))))) (sRet (eC (.bl false))) sNop)
    (sSeq (sIf (tOr' (tB (eBin dNe (eMeth 34 (C.m_Bookings_pieces N) C.g_Bookings_pieces_2_ 1 0 (eVar 3) (aCons (eTup (aCons (eC (.int 0)) (aCons (eC (.int 1)) aNil))) aNil) aNil) (eMeth 34 (C.m_Bookings_pieces N) C.g_Bookings_pieces_2_ 1 0 (eVar 4) (aCons (eTup (aCons (eC (.int 0)) (aCons (eC (.int 1)) aNil))) aNil) aNil))) (tB (eBin dNe (eLenO 34 (m_Bookings___len__ N) g_Bookings___len___1_ (eVar 3)) (eLenO 34 (m_Bookings___len__ N) g_Bookings___len___1_ (eVar 4))))) (sRet (eC (.bl false))) sNop)
    (sFor (iSeq (eLst (aCons (eTup (aCons (eC (.int 0)) (aCons (eC (.int 1)) aNil))) (aCons (eTup (aCons (eC (.int 1)) (aCons (eC (.int 1)) aNil))) (aCons (eBinS ixD (eVar 5) (eC (.int 2))) aNil))))) (gN 6) (sSeq (sDrop (eMeth 34 (m_Bookings_book N) C.g_Bookings_book_4_ 3 0 (eVar 3) (aCons (eC (.int 0)) (aCons (eTup (aCons (eC (.int 0)) (aCons (eC (.int 1)) aNil))) (aCons (eVar 6) aNil))) aNil))
    (sIf (tOr' (tB (eBin dNe (eMeth 34 (C.m_Bookings_rate_at N) C.g_Bookings_rate_at_3_ 2 0 (eVar 3) (aCons (eC (.int 0)) (aCons (eTup (aCons (eC (.int 0)) (aCons (eC (.int 1)) aNil))) aNil)) aNil) (eVar 6))) (tB (eBin dNe (eMeth 34 (C.m_Bookings_most_booked N) C.g_Bookings_most_booked_3_ 2 0 (eVar 3) (aCons (eTup (aCons (eC (.int 0)) (aCons (eC (.int 1)) aNil))) (aCons (eC .non) aNil)) aNil) (eMeth 34 (C.m_Bookings_most_booked N) g_Bookings_most_booked_2_ 1 0 (eVar 3) (aCons (eTup (aCons (eC (.int 0)) (aCons (eC (.int 1)) aNil))) aNil) aNil)))) (sRet (eC (.bl false))) sNop)))))))))
    (sRet (eC (.bl true))))
def m_law (N : Nat) : FM := fnM 7 (b_law N)
structure Txt (K : PySem.W.Frag) (mg : Str → Option Value) (base : Heap) : Prop where
  tb : TBs K mg base tsL
  fe__law_refusals_right : ∀ f, mg "_law_refusals_right" = some (.ref f) → f = He.fAd K mk__law_refusals_right.1
  b_ArithmeticError : mg "ArithmeticError" = none
  b_LookupError : mg "LookupError" = none
  b_ValueError : mg "ValueError" = none
  b_abs : mg "abs" = none
  b_all : mg "all" = none
  b_bool : mg "bool" = none
  b_divmod : mg "divmod" = none
  b_int : mg "int" = none
  b_isinstance : mg "isinstance" = none
  b_len : mg "len" = none
  b_max : mg "max" = none
  b_min : mg "min" = none
  b_range : mg "range" = none
  b_repr : mg "repr" = none
  b_sorted : mg "sorted" = none
  b_tuple : mg "tuple" = none
  f_Bookings___eq__ : ∃ C f fd, mg "Bookings" = some (.ref C) ∧ Cls K C ∧ Meth K C "__eq__" f ∧ FunD K "__eq__" "Bookings.__eq__" (defArgs s_Bookings___eq__) (defBody s_Bookings___eq__) (defScope s_Bookings___eq__) [] [] f fd
  f_Bookings___len__ : ∃ C f fd, mg "Bookings" = some (.ref C) ∧ Cls K C ∧ Meth K C "__len__" f ∧ FunD K "__len__" "Bookings.__len__" (defArgs s_Bookings___len__) (defBody s_Bookings___len__) (defScope s_Bookings___len__) [] [] f fd
  f_is_whole : ∃ f fd, mg "is_whole" = some (.ref f) ∧ FunD K "is_whole" "is_whole" (defArgs s_is_whole) (defBody s_is_whole) (defScope s_is_whole) [] [] f fd
  f_shared : ∃ f fd, mg "shared" = some (.ref f) ∧ FunD K "shared" "shared" (defArgs s_shared) (defBody s_shared) (defScope s_shared) [] [] f fd
  f_is_ratio : ∃ f fd, mg "is_ratio" = some (.ref f) ∧ FunD K "is_ratio" "is_ratio" (defArgs s_is_ratio) (defBody s_is_ratio) (defScope s_is_ratio) [] [] f fd
  f_is_time : ∃ f fd, mg "is_time" = some (.ref f) ∧ FunD K "is_time" "is_time" (defArgs s_is_time) (defBody s_is_time) (defScope s_is_time) [] [] f fd
  f_check_moment : ∃ f fd, mg "check_moment" = some (.ref f) ∧ FunD K "check_moment" "check_moment" (defArgs s_check_moment) (defBody s_check_moment) (defScope s_check_moment) [] [] f fd
  f_check_number : ∃ f fd, mg "check_number" = some (.ref f) ∧ FunD K "check_number" "check_number" (defArgs s_check_number) (defBody s_check_number) (defScope s_check_number) [] [] f fd
  f_check_ratio : ∃ f fd, mg "check_ratio" = some (.ref f) ∧ FunD K "check_ratio" "check_ratio" (defArgs s_check_ratio) (defBody s_check_ratio) (defScope s_check_ratio) [] [] f fd
  f_check_two : ∃ f fd, mg "check_two" = some (.ref f) ∧ FunD K "check_two" "check_two" (defArgs s_check_two) (defBody s_check_two) (defScope s_check_two) [] [] f fd
  f_is_before : ∃ f fd, mg "is_before" = some (.ref f) ∧ FunD K "is_before" "is_before" (defArgs s_is_before) (defBody s_is_before) (defScope s_is_before) [] [] f fd
  f_is_rate : ∃ f fd, mg "is_rate" = some (.ref f) ∧ FunD K "is_rate" "is_rate" (defArgs s_is_rate) (defBody s_is_rate) (defScope s_is_rate) [] [] f fd
  f_Bookings_book : ∃ C f fd, mg "Bookings" = some (.ref C) ∧ Cls K C ∧ Meth K C "book" f ∧ FunD K "book" "Bookings.book" (defArgs s_Bookings_book) (defBody s_Bookings_book) (defScope s_Bookings_book) [] [] f fd
  f_Bookings_spots : ∃ C f fd, mg "Bookings" = some (.ref C) ∧ Cls K C ∧ Meth K C "spots" f ∧ FunD K "spots" "Bookings.spots" (defArgs s_Bookings_spots) (defBody s_Bookings_spots) (defScope s_Bookings_spots) [] [] f fd
  f_lowest : ∃ f fd, mg "lowest" = some (.ref f) ∧ FunD K "lowest" "lowest" (defArgs s_lowest) (defBody s_lowest) (defScope s_lowest) [] [] f fd
  f_added : ∃ f fd, mg "added" = some (.ref f) ∧ FunD K "added" "added" (defArgs s_added) (defBody s_added) (defScope s_added) [] [] f fd
  f_at_time : ∃ f fd, mg "at_time" = some (.ref f) ∧ FunD K "at_time" "at_time" (defArgs s_at_time) (defBody s_at_time) (defScope s_at_time) [] [] f fd
  f_Bookings_sum_at : ∃ C f fd, mg "Bookings" = some (.ref C) ∧ Cls K C ∧ Meth K C "sum_at" f ∧ FunD K "sum_at" "Bookings.sum_at" (defArgs s_Bookings_sum_at) (defBody s_Bookings_sum_at) (defScope s_Bookings_sum_at) [] [] f fd
  f_greater : ∃ f fd, mg "greater" = some (.ref f) ∧ FunD K "greater" "greater" (defArgs s_greater) (defBody s_greater) (defScope s_greater) [] [] f fd
  f_Bookings_most_booked : ∃ C f fd, mg "Bookings" = some (.ref C) ∧ Cls K C ∧ Meth K C "most_booked" f ∧ FunD K "most_booked" "Bookings.most_booked" (defArgs s_Bookings_most_booked) (defBody s_Bookings_most_booked) (defScope s_Bookings_most_booked) [.non] [] f fd
  f_Bookings_pieces : ∃ C f fd, mg "Bookings" = some (.ref C) ∧ Cls K C ∧ Meth K C "pieces" f ∧ FunD K "pieces" "Bookings.pieces" (defArgs s_Bookings_pieces) (defBody s_Bookings_pieces) (defScope s_Bookings_pieces) [] [] f fd
  f_Bookings_rate_at : ∃ C f fd, mg "Bookings" = some (.ref C) ∧ Cls K C ∧ Meth K C "rate_at" f ∧ FunD K "rate_at" "Bookings.rate_at" (defArgs s_Bookings_rate_at) (defBody s_Bookings_rate_at) (defScope s_Bookings_rate_at) [] [] f fd
  f__law_cell : ∃ f fd, mg "_law_cell" = some (.ref f) ∧ FunD K "_law_cell" "_law_cell" (defArgs s__law_cell) (defBody s__law_cell) (defScope s__law_cell) [] [] f fd
  f_Bookings___init__ : ∃ C f fd, mg "Bookings" = some (.ref C) ∧ Mk K C f ∧ FunD K "__init__" "Bookings.__init__" (defArgs s_Bookings___init__) (defBody s_Bookings___init__) (defScope s_Bookings___init__) [] [] f fd
  f__law_r : ∃ f fd, mg "_law_r" = some (.ref f) ∧ FunD K "_law_r" "_law_r" (defArgs s__law_r) (defBody s__law_r) (defScope s__law_r) [] [] f fd
  f__law_add : ∃ f fd, mg "_law_add" = some (.ref f) ∧ FunD K "_law_add" "_law_add" (defArgs s__law_add) (defBody s__law_add) (defScope s__law_add) [] [] f fd
  f__law_take : ∃ f fd, mg "_law_take" = some (.ref f) ∧ FunD K "_law_take" "_law_take" (defArgs s__law_take) (defBody s__law_take) (defScope s__law_take) [] [] f fd
  f__law_moment : ∃ f fd, mg "_law_moment" = some (.ref f) ∧ FunD K "_law_moment" "_law_moment" (defArgs s__law_moment) (defBody s__law_moment) (defScope s__law_moment) [] [] f fd
  f__law_rate : ∃ f fd, mg "_law_rate" = some (.ref f) ∧ FunD K "_law_rate" "_law_rate" (defArgs s__law_rate) (defBody s__law_rate) (defScope s__law_rate) [] [] f fd
  f__law_filled : ∃ f fd, mg "_law_filled" = some (.ref f) ∧ FunD K "_law_filled" "_law_filled" (defArgs s__law_filled) (defBody s__law_filled) (defScope s__law_filled) [] [] f fd
  f__law_pool : ∃ f fd, mg "_law_pool" = some (.ref f) ∧ FunD K "_law_pool" "_law_pool" (defArgs s__law_pool) (defBody s__law_pool) (defScope s__law_pool) [] [] f fd
  f__law_word : ∃ f fd, mg "_law_word" = some (.ref f) ∧ FunD K "_law_word" "_law_word" (defArgs s__law_word) (defBody s__law_word) (defScope s__law_word) [] [] f fd
  f__law_caught : ∃ f fd, mg "_law_caught" = some (.ref f) ∧ FunD K "_law_caught" "_law_caught" (defArgs s__law_caught) (defBody s__law_caught) (defScope s__law_caught) [] [] f fd
  f__law_refusals_right : ∃ f fd, mg "_law_refusals_right" = some (.ref f) ∧ FunD K "_law_refusals_right" "_law_refusals_right" (defArgs s__law_refusals_right) (defBody s__law_refusals_right) (defScope s__law_refusals_right) [] [] f fd
  f_law : ∃ f fd, mg "law" = some (.ref f) ∧ FunD K "law" "law" (defArgs s_law) (defBody s_law) (defScope s_law) [] [] f fd
  c_NONE : ∃ a, mg "NONE" = some (.ref a) ∧ KtT K a [.int 0, .int 1]
  x_NoRatio : ∃ C, mg "NoRatio" = some (.ref C) ∧ XcO K C bmValueError "ValueError.__new__"
  x_NoNumber : ∃ C, mg "NoNumber" = some (.ref C) ∧ XcO K C bmValueError "ValueError.__new__"
  x_NoTime : ∃ C, mg "NoTime" = some (.ref C) ∧ XcO K C bmValueError "ValueError.__new__"
  y_NoRate : ∃ C fI fd Bc, mg "NoRate" = some (.ref C) ∧ XoC K C "ValueError.__new__" bmValueError ∧ PySem.W.findIn K (.ref C) "__init__" = some (some (.ref fI)) ∧ PySem.W.typeIn K (.ref fI) = some (.type "function") ∧ PySem.W.findIn K (.ref C) "rate" = some none ∧ mg "TagError" = some (.ref Bc) ∧ HdC K Bc "ValueError.__init__" ∧ FunD K "__init__" "NoRate.__init__" (defArgs s_NoRate___init__) (defBody s_NoRate___init__) (defScope s_NoRate___init__) [] [] fI fd
  z_name : XcF K mg [24] 0
  z_rate : XcF K mg [6] 5
  z_row : XcF K mg [4, 17] 4
  x_Bookings : ∃ C, mg "Bookings" = some (.ref C)
  x_LostError : ∃ C, mg "LostError" = some (.ref C)
  x_NoLess : ∃ C, mg "NoLess" = some (.ref C)
  x_NoLog : ∃ C, mg "NoLog" = some (.ref C)
  x_NoOne : ∃ C, mg "NoOne" = some (.ref C)
  x_NoRate : ∃ C, mg "NoRate" = some (.ref C)
  x_NoRow : ∃ C, mg "NoRow" = some (.ref C)
  x_NoSize : ∃ C, mg "NoSize" = some (.ref C)
  x_NoStretch : ∃ C, mg "NoStretch" = some (.ref C)
  x_NoText : ∃ C, mg "NoText" = some (.ref C)
  x_NoWord : ∃ C, mg "NoWord" = some (.ref C)
  x_ShareError : ∃ C, mg "ShareError" = some (.ref C)
  x_TagError : ∃ C, mg "TagError" = some (.ref C)
  tb_ArithmeticError : ∀ cn C q, tbR rsL 102 cn = some q → mg (cname cn) = some (.ref C) → ExcC K C ∧ PySem.W.kitOne K (.ref C) (.type "ArithmeticError") = some q
  tb_LookupError : ∀ cn C q, tbR rsL 101 cn = some q → mg (cname cn) = some (.ref C) → ExcC K C ∧ PySem.W.kitOne K (.ref C) (.type "LookupError") = some q
  tb_NoLess : ∀ D, mg "NoLess" = some (.ref D) → ∀ cn C q, tbR rsL 19 cn = some q → mg (cname cn) = some (.ref C) → ExcC K C ∧ PySem.W.kitOne K (.ref C) (.ref D) = some q
  tb_NoLog : ∀ D, mg "NoLog" = some (.ref D) → ∀ cn C q, tbR rsL 17 cn = some q → mg (cname cn) = some (.ref C) → ExcC K C ∧ PySem.W.kitOne K (.ref C) (.ref D) = some q
  tb_NoNumber : ∀ D, mg "NoNumber" = some (.ref D) → ∀ cn C q, tbR rsL 8 cn = some q → mg (cname cn) = some (.ref C) → ExcC K C ∧ PySem.W.kitOne K (.ref C) (.ref D) = some q
  tb_NoOne : ∀ D, mg "NoOne" = some (.ref D) → ∀ cn C q, tbR rsL 24 cn = some q → mg (cname cn) = some (.ref C) → ExcC K C ∧ PySem.W.kitOne K (.ref C) (.ref D) = some q
  tb_NoRate : ∀ D, mg "NoRate" = some (.ref D) → ∀ cn C q, tbR rsL 6 cn = some q → mg (cname cn) = some (.ref C) → ExcC K C ∧ PySem.W.kitOne K (.ref C) (.ref D) = some q
  tb_NoRatio : ∀ D, mg "NoRatio" = some (.ref D) → ∀ cn C q, tbR rsL 3 cn = some q → mg (cname cn) = some (.ref C) → ExcC K C ∧ PySem.W.kitOne K (.ref C) (.ref D) = some q
  tb_NoRow : ∀ D, mg "NoRow" = some (.ref D) → ∀ cn C q, tbR rsL 23 cn = some q → mg (cname cn) = some (.ref C) → ExcC K C ∧ PySem.W.kitOne K (.ref C) (.ref D) = some q
  tb_NoSize : ∀ D, mg "NoSize" = some (.ref D) → ∀ cn C q, tbR rsL 11 cn = some q → mg (cname cn) = some (.ref C) → ExcC K C ∧ PySem.W.kitOne K (.ref C) (.ref D) = some q
  tb_NoStretch : ∀ D, mg "NoStretch" = some (.ref D) → ∀ cn C q, tbR rsL 18 cn = some q → mg (cname cn) = some (.ref C) → ExcC K C ∧ PySem.W.kitOne K (.ref C) (.ref D) = some q
  tb_NoText : ∀ D, mg "NoText" = some (.ref D) → ∀ cn C q, tbR rsL 4 cn = some q → mg (cname cn) = some (.ref C) → ExcC K C ∧ PySem.W.kitOne K (.ref C) (.ref D) = some q
  tb_NoTime : ∀ D, mg "NoTime" = some (.ref D) → ∀ cn C q, tbR rsL 9 cn = some q → mg (cname cn) = some (.ref C) → ExcC K C ∧ PySem.W.kitOne K (.ref C) (.ref D) = some q
  tb_NoWord : ∀ D, mg "NoWord" = some (.ref D) → ∀ cn C q, tbR rsL 22 cn = some q → mg (cname cn) = some (.ref C) → ExcC K C ∧ PySem.W.kitOne K (.ref C) (.ref D) = some q
  tb_ShareError : ∀ D, mg "ShareError" = some (.ref D) → ∀ cn C q, tbR rsL 2 cn = some q → mg (cname cn) = some (.ref C) → ExcC K C ∧ PySem.W.kitOne K (.ref C) (.ref D) = some q
  tb_ValueError : ∀ cn C q, tbR rsL 100 cn = some q → mg (cname cn) = some (.ref C) → ExcC K C ∧ PySem.W.kitOne K (.ref C) (.type "ValueError") = some q
  tx_LostError : ∀ D, mg "LostError" = some (.ref D) → ∀ cn C q, tbR rsL 1 cn = some q → mg (cname cn) = some (.ref C) → PySem.W.exmOne K (.ref C) (.ref D) = some q
  tx_ShareError : ∀ D, mg "ShareError" = some (.ref D) → ∀ cn C q, tbR rsL 2 cn = some q → mg (cname cn) = some (.ref C) → PySem.W.exmOne K (.ref C) (.ref D) = some q
  tx_TagError : ∀ D, mg "TagError" = some (.ref D) → ∀ cn C q, tbR rsL 0 cn = some q → mg (cname cn) = some (.ref C) → PySem.W.exmOne K (.ref C) (.ref D) = some q
  io_Bookings : ∀ D, mg "Bookings" = some (.ref D) → Iso K mg 34 D
  ne_Bookings : ∀ C, mg (cname 34) = some (.ref C) → NeK K C
  a_lines : ClF K mg [34, 45] 9
section
variable {P : Program} {w : World} {K : PySem.W.Frag} {mg : Str → Option Value} {base : Heap}
theorem xi_NoRate (T : Txt K mg base) : XfI P w K mg base "NoRate" "ValueError.__init__" "ValueError.__new__" bmValueError (fname 5) := by
  obtain ⟨C, fI, fd, Bc, h1, h2, h3, h4, h5, h6, h7, F⟩ := T.y_NoRate
  refine ⟨C, fI, fd, "self", "rate", h1, h2, h3, h4, h5, F.bindsN (ps := ["self", "rate"]) fun _ _ _ _ _ _ us hl => match us, hl with | [_, _], _ => rfl, ini_fn F sc_NoRate___init__ fun cdv A outer s H E => ?_⟩
  exact pss_ini fam_ValueError h6 h7 (pe_var rfl (Or.inl rfl) (by decide) (by decide)) (pe_var rfl (Or.inl rfl) (by decide) (by decide)) (pe_var rfl (Or.inl rfl) (by decide) (by decide))
theorem fk_Bookings___eq__ (N : Nat) (T : Txt K mg base) {fa : Addr} {fd : FuncData} (F : FunD K "__eq__" "Bookings.__eq__" (defArgs s_Bookings___eq__) (defBody s_Bookings___eq__) (defScope s_Bookings___eq__) [] [] fa fd) : FnG P w K mg base (0 + 1) fa fd p_Bookings___eq__ (spM K mg p_Bookings___eq__.length (fnM n_Bookings___eq__.length (b_Bookings___eq__ N))) := by
  obtain ⟨C_Bookings, g_Bookings⟩ := T.x_Bookings
  apply def_okD F sc_Bookings___eq__
  intro cdv A outer s H E c
  exact (rss_one (rs_ret (re_and (re_isO T.b_isinstance (rv 1) (pe_glob (v := .ref C_Bookings) rfl g_Bookings rfl) (T.io_Bookings _ g_Bookings)) (re_one (re_cmpS (om_eqK c.rm) (re_fld 9 T.a_lines (rv 0)) (re_fld 9 T.a_lines (rv 1)))))))
theorem fm_Bookings___eq__ (N : Nat) (T : Txt K mg base) {fa : Addr} {fd : FuncData} (F : FunD K "__eq__" "Bookings.__eq__" (defArgs s_Bookings___eq__) (defBody s_Bookings___eq__) (defScope s_Bookings___eq__) [] [] fa fd) : FnG P w K mg base 1 fa fd p_Bookings___eq__ (spM K mg p_Bookings___eq__.length (m_Bookings___eq__ N)) := fk_Bookings___eq__ N T F
theorem dt_Bookings___eq___1_ (N : Nat) (T : Txt K mg base) : Dt P w K mg base 34 "__eq__" p_Bookings___eq__ 1 1 [] g_Bookings___eq___2_ (m_Bookings___eq__ N) := by
  obtain ⟨C, fa, fd, g1, hc, hm, F⟩ := T.f_Bookings___eq__
  have hb := kb_none (ps := p_Bookings___eq__) F 2 [] (fun vs zs => ((vs.drop 0).take 1 ++ (vs.drop 1).take 1)) (fun r1 r3 => (((r1.drop 0).take 1).append ((r1.drop 1).take 1))) fun _ _ _ _ _ _ us ws h1 h3 => match us, ws, h1, h3 with | [_, _], [], _, _ => rfl
  refine ⟨C, fa, fd, _, _, g1, hc, hm, hb, fun w ds vs es zs rd re h1 h2 => ?_, fm_Bookings___eq__ N T F⟩
  match ds, es, h1, h2 with
  | [d0, d1], [], _, _ =>
    obtain ⟨v0, vr0, rfl, q0, rd0⟩ := rd.cons_inv
    obtain ⟨v1, vr1, rfl, q1, rd1⟩ := rd0.cons_inv
    cases rd1.nil_inv
    cases re.nil_inv
    exact ⟨(.cons q0 (.cons q1 .nil)), rfl⟩
theorem fk_Bookings___len__ (N : Nat) (T : Txt K mg base) {fa : Addr} {fd : FuncData} (F : FunD K "__len__" "Bookings.__len__" (defArgs s_Bookings___len__) (defBody s_Bookings___len__) (defScope s_Bookings___len__) [] [] fa fd) : FnG P w K mg base (0 + 1) fa fd p_Bookings___len__ (spM K mg p_Bookings___len__.length (fnM n_Bookings___len__.length (b_Bookings___len__ N))) := by
  apply def_okD F sc_Bookings___len__
  intro cdv A outer s H E c
  exact (rss_one (rs_ret (re_b cm_lenD rfl T.b_len bt_len (ra_cons (re_fld 9 T.a_lines (rv 0)) ra_nil))))
theorem fm_Bookings___len__ (N : Nat) (T : Txt K mg base) {fa : Addr} {fd : FuncData} (F : FunD K "__len__" "Bookings.__len__" (defArgs s_Bookings___len__) (defBody s_Bookings___len__) (defScope s_Bookings___len__) [] [] fa fd) : FnG P w K mg base 1 fa fd p_Bookings___len__ (spM K mg p_Bookings___len__.length (m_Bookings___len__ N)) := fk_Bookings___len__ N T F
theorem dt_Bookings___len___0_ (N : Nat) (T : Txt K mg base) : Dt P w K mg base 34 "__len__" p_Bookings___len__ 1 0 [] g_Bookings___len___1_ (m_Bookings___len__ N) := by
  obtain ⟨C, fa, fd, g1, hc, hm, F⟩ := T.f_Bookings___len__
  have hb := kb_none (ps := p_Bookings___len__) F 1 [] (fun vs zs => (vs.drop 0).take 1) (fun r1 r3 => ((r1.drop 0).take 1)) fun _ _ _ _ _ _ us ws h1 h3 => match us, ws, h1, h3 with | [_], [], _, _ => rfl
  refine ⟨C, fa, fd, _, _, g1, hc, hm, hb, fun w ds vs es zs rd re h1 h2 => ?_, fm_Bookings___len__ N T F⟩
  match ds, es, h1, h2 with
  | [d0], [], _, _ =>
    obtain ⟨v0, vr0, rfl, q0, rd0⟩ := rd.cons_inv
    cases rd0.nil_inv
    cases re.nil_inv
    exact ⟨(.cons q0 .nil), rfl⟩
theorem fk_is_whole (N : Nat) (T : Txt K mg base) {fa : Addr} {fd : FuncData} (F : FunD K "is_whole" "is_whole" (defArgs s_is_whole) (defBody s_is_whole) (defScope s_is_whole) [] [] fa fd) : FnG P w K mg base (0 + 1) fa fd p_is_whole (spM K mg p_is_whole.length (fnM n_is_whole.length (C.b_is_whole N))) := by
  apply def_okD F sc_is_whole
  intro cdv A outer s H E c
  exact (rss_one (rs_ret (re_and (re_isTy .int T.b_isinstance T.b_int bt_int (rv 0)) (re_one (re_not (re_isTy .bool T.b_isinstance T.b_bool bt_bool (rv 0)))))))
theorem fm_is_whole (N : Nat) (T : Txt K mg base) {fa : Addr} {fd : FuncData} (F : FunD K "is_whole" "is_whole" (defArgs s_is_whole) (defBody s_is_whole) (defScope s_is_whole) [] [] fa fd) : FnG P w K mg base 1 fa fd p_is_whole (spM K mg p_is_whole.length (C.m_is_whole N)) := fk_is_whole N T F
theorem ok_is_whole (N : Nat) (T : Txt K mg base) : Df P w K mg base "is_whole" p_is_whole 1 (C.m_is_whole N) := by
  obtain ⟨fa, fd, g1, F⟩ := T.f_is_whole
  exact ⟨fa, fd, g1, F.kp, F.bindsN (ps := p_is_whole) fun _ _ _ _ _ _ us hl => match us, hl with | [_], _ => rfl, fm_is_whole N T F⟩
theorem fk_shared (N : Nat) (T : Txt K mg base) {fa : Addr} {fd : FuncData} (F : FunD K "shared" "shared" (defArgs s_shared) (defBody s_shared) (defScope s_shared) [] [] fa fd) : FnG P w K mg base (0 + 1) fa fd p_shared (spM K mg p_shared.length (fnM n_shared.length (C.b_shared N))) := by
  apply def_okD F sc_shared
  intro cdv A outer s H E c
  exact (rss_cons (rs_while N c.po (rt_cmp om_gt (rv 1) re_int (nomark _)) (rss_one (rs_par (i := 0) (j := 1) c.calm c.nd rfl rfl (by decide) (ra_cons (rv 1) (ra_cons (re_bin om_mod (rv 0) (rv 1)) ra_nil)))))
      (rss_one (rs_ret (rv 0))))
theorem fm_shared (N : Nat) (T : Txt K mg base) {fa : Addr} {fd : FuncData} (F : FunD K "shared" "shared" (defArgs s_shared) (defBody s_shared) (defScope s_shared) [] [] fa fd) : FnG P w K mg base 1 fa fd p_shared (spM K mg p_shared.length (C.m_shared N)) := fk_shared N T F
theorem ok_shared (N : Nat) (T : Txt K mg base) : Df P w K mg base "shared" p_shared 1 (C.m_shared N) := by
  obtain ⟨fa, fd, g1, F⟩ := T.f_shared
  exact ⟨fa, fd, g1, F.kp, F.bindsN (ps := p_shared) fun _ _ _ _ _ _ us hl => match us, hl with | [_, _], _ => rfl, fm_shared N T F⟩
theorem fk_is_ratio (N : Nat) (T : Txt K mg base) {fa : Addr} {fd : FuncData} (F : FunD K "is_ratio" "is_ratio" (defArgs s_is_ratio) (defBody s_is_ratio) (defScope s_is_ratio) [] [] fa fd) : FnG P w K mg base (1 + 1) fa fd p_is_ratio (spM K mg p_is_ratio.length (fnM n_is_ratio.length (C.b_is_ratio N))) := by
  apply def_okD F sc_is_ratio
  intro cdv A outer s H E c
  exact (rss_cons (rs_if (rt_w (rw_or (rt_not (rt_e (re_isTy .tuple T.b_isinstance T.b_tuple bt_tuple (rv 0)))) (rw_or (rt_cmp (om_ne c.u) (re_b cm_len rfl T.b_len bt_len (ra_cons (rv 0) ra_nil)) re_int (nomark _)) (rw_or1 (rt_not (rt_e (re_b (cm_all c.calm) rfl T.b_all bt_all (ra_cons (re_lc [("part", 3)] c.calm c.nd (ri_e (rv 0)) (blkOk_by (own := [("part", 3)]) (N := n_is_ratio) (sc := defScope s_is_ratio) (by decide +kernel)) (by decide) (fun _ _ _ _ _ => (pg_name (i := 3) c.nd rfl (by first | exact Or.inl rfl | exact Or.inr rfl))) (fun _ _ _ _ _ => pts0) (fun _ _ _ _ _ => (re_callB c.blk (ok_is_whole N T) (by decide) (ra_cons (rv 3) ra_nil)))) ra_nil)))))))) (rss_one (rs_ret re_bl)) rss_nil)
      (rss_cons (rs_asg (rv 0) (rg_tup c.calm (rgs_cons (rg_name (i := 1) c.nd rfl) (rgs_cons (rg_name (i := 2) c.nd rfl) rgs_nil))))
      (rss_one (rs_ret (re_and (re_cmp om_gt (rv 2) re_int (nomark _)) (re_one (re_cmp (om_eq c.u) (re_call c (ok_shared N T) (by decide) (ra_cons (re_b cm_abs rfl T.b_abs bt_abs (ra_cons (rv 1) ra_nil)) (ra_cons (rv 2) ra_nil))) re_int (nomark _))))))))
theorem fm_is_ratio (N : Nat) (T : Txt K mg base) {fa : Addr} {fd : FuncData} (F : FunD K "is_ratio" "is_ratio" (defArgs s_is_ratio) (defBody s_is_ratio) (defScope s_is_ratio) [] [] fa fd) : FnG P w K mg base 2 fa fd p_is_ratio (spM K mg p_is_ratio.length (C.m_is_ratio N)) := fk_is_ratio N T F
theorem ok_is_ratio (N : Nat) (T : Txt K mg base) : Df P w K mg base "is_ratio" p_is_ratio 2 (C.m_is_ratio N) := by
  obtain ⟨fa, fd, g1, F⟩ := T.f_is_ratio
  exact ⟨fa, fd, g1, F.kp, F.bindsN (ps := p_is_ratio) fun _ _ _ _ _ _ us hl => match us, hl with | [_], _ => rfl, fm_is_ratio N T F⟩
theorem fk_is_time (N : Nat) (T : Txt K mg base) {fa : Addr} {fd : FuncData} (F : FunD K "is_time" "is_time" (defArgs s_is_time) (defBody s_is_time) (defScope s_is_time) [] [] fa fd) : FnG P w K mg base (2 + 1) fa fd p_is_time (spM K mg p_is_time.length (fnM n_is_time.length (C.b_is_time N))) := by
  apply def_okD F sc_is_time
  intro cdv A outer s H E c
  exact (rss_one (rs_ret (re_and (re_call c (ok_is_ratio N T) (by decide) (ra_cons (rv 0) ra_nil)) (re_one (re_cmp om_ge (re_ix (rv 0) re_int) re_int (nomark _))))))
theorem fm_is_time (N : Nat) (T : Txt K mg base) {fa : Addr} {fd : FuncData} (F : FunD K "is_time" "is_time" (defArgs s_is_time) (defBody s_is_time) (defScope s_is_time) [] [] fa fd) : FnG P w K mg base 3 fa fd p_is_time (spM K mg p_is_time.length (C.m_is_time N)) := fk_is_time N T F
theorem ok_is_time (N : Nat) (T : Txt K mg base) : Df P w K mg base "is_time" p_is_time 3 (C.m_is_time N) := by
  obtain ⟨fa, fd, g1, F⟩ := T.f_is_time
  exact ⟨fa, fd, g1, F.kp, F.bindsN (ps := p_is_time) fun _ _ _ _ _ _ us hl => match us, hl with | [_], _ => rfl, fm_is_time N T F⟩
theorem fk_check_moment (N : Nat) (T : Txt K mg base) {fa : Addr} {fd : FuncData} (F : FunD K "check_moment" "check_moment" (defArgs s_check_moment) (defBody s_check_moment) (defScope s_check_moment) [] [] fa fd) : FnG P w K mg base (3 + 1) fa fd p_check_moment (spM K mg p_check_moment.length (fnM n_check_moment.length (C.b_check_time N))) := by
  obtain ⟨C_NoTime, g_NoTime, x_NoTime⟩ := T.x_NoTime
  apply def_okD F sc_check_moment
  intro cdv A outer s H E c
  exact (rss_one (rs_if (rt_not (rt_e (re_call c (ok_is_time N T) (by decide) (ra_cons (rv 0) ra_nil)))) (rss_one (rs_raise 9 rfl c PySem.F.excBase_ValueError x_NoTime.x g_NoTime x_NoTime.k (raises_own x_NoTime.b x_NoTime.t))) rss_nil))
theorem fm_check_moment (N : Nat) (T : Txt K mg base) {fa : Addr} {fd : FuncData} (F : FunD K "check_moment" "check_moment" (defArgs s_check_moment) (defBody s_check_moment) (defScope s_check_moment) [] [] fa fd) : FnG P w K mg base 4 fa fd p_check_moment (spM K mg p_check_moment.length (C.m_check_time N)) := fk_check_moment N T F
theorem ok_check_moment (N : Nat) (T : Txt K mg base) : Df P w K mg base "check_moment" p_check_moment 4 (C.m_check_time N) := by
  obtain ⟨fa, fd, g1, F⟩ := T.f_check_moment
  exact ⟨fa, fd, g1, F.kp, F.bindsN (ps := p_check_moment) fun _ _ _ _ _ _ us hl => match us, hl with | [_], _ => rfl, fm_check_moment N T F⟩
theorem fk_check_number (N : Nat) (T : Txt K mg base) {fa : Addr} {fd : FuncData} (F : FunD K "check_number" "check_number" (defArgs s_check_number) (defBody s_check_number) (defScope s_check_number) [] [] fa fd) : FnG P w K mg base (0 + 1) fa fd p_check_number (spM K mg p_check_number.length (fnM n_check_number.length (C.b_check_number N))) := by
  obtain ⟨C_NoNumber, g_NoNumber, x_NoNumber⟩ := T.x_NoNumber
  apply def_okD F sc_check_number
  intro cdv A outer s H E c
  exact (rss_one (rs_if (rt_w (rw_or (rt_not (rt_e (re_isTy .int T.b_isinstance T.b_int bt_int (rv 0)))) (rw_or (rt_e (re_isTy .bool T.b_isinstance T.b_bool bt_bool (rv 0))) (rw_or1 (rt_cmp om_lt (rv 0) re_int (nomark _)))))) (rss_one (rs_raise 8 rfl c PySem.F.excBase_ValueError x_NoNumber.x g_NoNumber x_NoNumber.k (raises_own x_NoNumber.b x_NoNumber.t))) rss_nil))
theorem fm_check_number (N : Nat) (T : Txt K mg base) {fa : Addr} {fd : FuncData} (F : FunD K "check_number" "check_number" (defArgs s_check_number) (defBody s_check_number) (defScope s_check_number) [] [] fa fd) : FnG P w K mg base 1 fa fd p_check_number (spM K mg p_check_number.length (C.m_check_number N)) := fk_check_number N T F
theorem ok_check_number (N : Nat) (T : Txt K mg base) : Df P w K mg base "check_number" p_check_number 1 (C.m_check_number N) := by
  obtain ⟨fa, fd, g1, F⟩ := T.f_check_number
  exact ⟨fa, fd, g1, F.kp, F.bindsN (ps := p_check_number) fun _ _ _ _ _ _ us hl => match us, hl with | [_], _ => rfl, fm_check_number N T F⟩
theorem fk_check_ratio (N : Nat) (T : Txt K mg base) {fa : Addr} {fd : FuncData} (F : FunD K "check_ratio" "check_ratio" (defArgs s_check_ratio) (defBody s_check_ratio) (defScope s_check_ratio) [] [] fa fd) : FnG P w K mg base (2 + 1) fa fd p_check_ratio (spM K mg p_check_ratio.length (fnM n_check_ratio.length (C.b_check_ratio N))) := by
  obtain ⟨C_NoRatio, g_NoRatio, x_NoRatio⟩ := T.x_NoRatio
  apply def_okD F sc_check_ratio
  intro cdv A outer s H E c
  exact (rss_one (rs_if (rt_not (rt_e (re_call c (ok_is_ratio N T) (by decide) (ra_cons (rv 0) ra_nil)))) (rss_one (rs_raise 3 rfl c PySem.F.excBase_ValueError x_NoRatio.x g_NoRatio x_NoRatio.k (raises_own x_NoRatio.b x_NoRatio.t))) rss_nil))
theorem fm_check_ratio (N : Nat) (T : Txt K mg base) {fa : Addr} {fd : FuncData} (F : FunD K "check_ratio" "check_ratio" (defArgs s_check_ratio) (defBody s_check_ratio) (defScope s_check_ratio) [] [] fa fd) : FnG P w K mg base 3 fa fd p_check_ratio (spM K mg p_check_ratio.length (C.m_check_ratio N)) := fk_check_ratio N T F
theorem ok_check_ratio (N : Nat) (T : Txt K mg base) : Df P w K mg base "check_ratio" p_check_ratio 3 (C.m_check_ratio N) := by
  obtain ⟨fa, fd, g1, F⟩ := T.f_check_ratio
  exact ⟨fa, fd, g1, F.kp, F.bindsN (ps := p_check_ratio) fun _ _ _ _ _ _ us hl => match us, hl with | [_], _ => rfl, fm_check_ratio N T F⟩
theorem fk_check_two (N : Nat) (T : Txt K mg base) {fa : Addr} {fd : FuncData} (F : FunD K "check_two" "check_two" (defArgs s_check_two) (defBody s_check_two) (defScope s_check_two) [] [] fa fd) : FnG P w K mg base (3 + 1) fa fd p_check_two (spM K mg p_check_two.length (fnM n_check_two.length (C.b_check_two N))) := by
  apply def_okD F sc_check_two
  intro cdv A outer s H E c
  exact (rss_cons (rs_expr (re_call c (ok_check_ratio N T) (by decide) (ra_cons (rv 0) ra_nil)))
      (rss_one (rs_expr (re_call c (ok_check_ratio N T) (by decide) (ra_cons (rv 1) ra_nil)))))
theorem fm_check_two (N : Nat) (T : Txt K mg base) {fa : Addr} {fd : FuncData} (F : FunD K "check_two" "check_two" (defArgs s_check_two) (defBody s_check_two) (defScope s_check_two) [] [] fa fd) : FnG P w K mg base 4 fa fd p_check_two (spM K mg p_check_two.length (C.m_check_two N)) := fk_check_two N T F
theorem ok_check_two (N : Nat) (T : Txt K mg base) : Df P w K mg base "check_two" p_check_two 4 (C.m_check_two N) := by
  obtain ⟨fa, fd, g1, F⟩ := T.f_check_two
  exact ⟨fa, fd, g1, F.kp, F.bindsN (ps := p_check_two) fun _ _ _ _ _ _ us hl => match us, hl with | [_, _], _ => rfl, fm_check_two N T F⟩
theorem fk_is_before (N : Nat) (T : Txt K mg base) {fa : Addr} {fd : FuncData} (F : FunD K "is_before" "is_before" (defArgs s_is_before) (defBody s_is_before) (defScope s_is_before) [] [] fa fd) : FnG P w K mg base (4 + 1) fa fd p_is_before (spM K mg p_is_before.length (fnM n_is_before.length (C.b_is_before N))) := by
  apply def_okD F sc_is_before
  intro cdv A outer s H E c
  exact (rss_cons (rs_expr (re_call c (ok_check_two N T) (by decide) (ra_cons (rv 0) (ra_cons (rv 1) ra_nil))))
      (rss_one (rs_ret (re_cmp om_lt (re_bin om_mul (re_ix (rv 0) re_int) (re_ix (rv 1) re_int)) (re_bin om_mul (re_ix (rv 1) re_int) (re_ix (rv 0) re_int)) (nomark _)))))
theorem fm_is_before (N : Nat) (T : Txt K mg base) {fa : Addr} {fd : FuncData} (F : FunD K "is_before" "is_before" (defArgs s_is_before) (defBody s_is_before) (defScope s_is_before) [] [] fa fd) : FnG P w K mg base 5 fa fd p_is_before (spM K mg p_is_before.length (C.m_is_before N)) := fk_is_before N T F
theorem ok_is_before (N : Nat) (T : Txt K mg base) : Df P w K mg base "is_before" p_is_before 5 (C.m_is_before N) := by
  obtain ⟨fa, fd, g1, F⟩ := T.f_is_before
  exact ⟨fa, fd, g1, F.kp, F.bindsN (ps := p_is_before) fun _ _ _ _ _ _ us hl => match us, hl with | [_, _], _ => rfl, fm_is_before N T F⟩
theorem fk_is_rate (N : Nat) (T : Txt K mg base) {fa : Addr} {fd : FuncData} (F : FunD K "is_rate" "is_rate" (defArgs s_is_rate) (defBody s_is_rate) (defScope s_is_rate) [] [] fa fd) : FnG P w K mg base (2 + 1) fa fd p_is_rate (spM K mg p_is_rate.length (fnM n_is_rate.length (C.b_is_rate N))) := by
  apply def_okD F sc_is_rate
  intro cdv A outer s H E c
  exact (rss_one (rs_ret (re_and (re_call c (ok_is_ratio N T) (by decide) (ra_cons (rv 0) ra_nil)) (re_one (re_chain om_lt om_le re_int (re_ix (rv 0) re_int) (re_ix (rv 0) re_int))))))
theorem fm_is_rate (N : Nat) (T : Txt K mg base) {fa : Addr} {fd : FuncData} (F : FunD K "is_rate" "is_rate" (defArgs s_is_rate) (defBody s_is_rate) (defScope s_is_rate) [] [] fa fd) : FnG P w K mg base 3 fa fd p_is_rate (spM K mg p_is_rate.length (C.m_is_rate N)) := fk_is_rate N T F
theorem ok_is_rate (N : Nat) (T : Txt K mg base) : Df P w K mg base "is_rate" p_is_rate 3 (C.m_is_rate N) := by
  obtain ⟨fa, fd, g1, F⟩ := T.f_is_rate
  exact ⟨fa, fd, g1, F.kp, F.bindsN (ps := p_is_rate) fun _ _ _ _ _ _ us hl => match us, hl with | [_], _ => rfl, fm_is_rate N T F⟩
theorem fk_Bookings_book (N : Nat) (T : Txt K mg base) {fa : Addr} {fd : FuncData} (F : FunD K "book" "Bookings.book" (defArgs s_Bookings_book) (defBody s_Bookings_book) (defScope s_Bookings_book) [] [] fa fd) : FnG P w K mg base (5 + 1) fa fd p_Bookings_book (spM K mg p_Bookings_book.length (fnM n_Bookings_book.length (b_Bookings_book N))) := by
  obtain ⟨k0_NONE, g_NONE, k_NONE⟩ := T.c_NONE
  apply def_okD F sc_Bookings_book
  intro cdv A outer s H E c
  exact (rss_cons (rs_expr (re_call c (ok_check_number N T) (by decide) (ra_cons (rv 1) ra_nil)))
      (rss_cons (rs_expr (re_call c (ok_check_moment N T) (by decide) (ra_cons (rv 2) ra_nil)))
      (rss_cons (rs_if (rt_w (rw_or (rt_w (rw_and (rt_cmp (om_neW c.u) (rv 3) (re_glob (v := .ref k0_NONE) rfl g_NONE rfl (fun _ => .tup (.inr k_NONE) (.cons (.int _) (.cons (.int _) .nil)))) (nomark _)) (rw_and1 (rt_not (rt_e (re_call c (ok_is_rate N T) (by decide) (ra_cons (rv 3) ra_nil))))))) (rw_or1 (rt_not (rt_e (re_call c (ok_is_time N T) (by decide) (ra_cons (rv 3) ra_nil))))))) (rss_one (rs_raiseF 6 5 c fam_ValueError (xi_NoRate T) (rv 3))) rss_nil)
      (rss_cons (rs_setLcCN (i' := 4) [("row", 5)] c.calm c.nd rfl (ri_cel (re_dpop2 (re_fld 9 T.a_lines (rv 0)) (rv 1) (re_lst ra_nil))) (blkOk_by (own := [("row", 5)]) (N := n_Bookings_book) (sc := defScope s_Bookings_book) (by decide +kernel)) (by decide) (fun _ _ _ _ _ => (pg_name (i := 5) c.nd rfl (by first | exact Or.inl rfl | exact Or.inr rfl))) (fun _ _ _ _ _ => pts_one (rt_e (re_callB c.blk (ok_is_before N T) (by decide) (ra_cons (re_ix (rv 5) re_int) (ra_cons (rv 2) ra_nil))))) (fun _ _ _ _ _ => (rv 5)))
      (rss_cons (rs_if (rt_cmp (om_ne c.u) (re_if (rt_e (rv 4)) (re_ix (re_ix (rv 4) (re_neg re_int)) re_int) (re_glob (v := .ref k0_NONE) rfl g_NONE rfl (fun _ => .tup (.inr k_NONE) (.cons (.int _) (.cons (.int _) .nil))))) (rv 3) (nomark _)) (rss_one (rs_expr (re_app (rv 4) (ra_cons (re_tup (ra_cons (rv 2) (ra_cons (rv 3) ra_nil))) ra_nil)))) rss_nil)
      (rss_one (rs_if (rt_e (rv 4)) (rss_one (rs_asg (rv 4) (rg_subE c.u (re_fld 9 T.a_lines (rv 0)) (rv 1)))) rss_nil)))))))
theorem fm_Bookings_book (N : Nat) (T : Txt K mg base) {fa : Addr} {fd : FuncData} (F : FunD K "book" "Bookings.book" (defArgs s_Bookings_book) (defBody s_Bookings_book) (defScope s_Bookings_book) [] [] fa fd) : FnG P w K mg base 6 fa fd p_Bookings_book (spM K mg p_Bookings_book.length (m_Bookings_book N)) := fk_Bookings_book N T F
theorem dt_Bookings_book_3_ (N : Nat) (T : Txt K mg base) : Dt P w K mg base 34 "book" p_Bookings_book 6 3 [] C.g_Bookings_book_4_ (m_Bookings_book N) := by
  obtain ⟨C, fa, fd, g1, hc, hm, F⟩ := T.f_Bookings_book
  have hb := kb_none (ps := p_Bookings_book) F 4 [] (fun vs zs => ((vs.drop 0).take 1 ++ ((vs.drop 1).take 1 ++ ((vs.drop 2).take 1 ++ (vs.drop 3).take 1)))) (fun r1 r3 => (((r1.drop 0).take 1).append (((r1.drop 1).take 1).append (((r1.drop 2).take 1).append ((r1.drop 3).take 1))))) fun _ _ _ _ _ _ us ws h1 h3 => match us, ws, h1, h3 with | [_, _, _, _], [], _, _ => rfl
  refine ⟨C, fa, fd, _, _, g1, hc, hm, hb, fun w ds vs es zs rd re h1 h2 => ?_, fm_Bookings_book N T F⟩
  match ds, es, h1, h2 with
  | [d0, d1, d2, d3], [], _, _ =>
    obtain ⟨v0, vr0, rfl, q0, rd0⟩ := rd.cons_inv
    obtain ⟨v1, vr1, rfl, q1, rd1⟩ := rd0.cons_inv
    obtain ⟨v2, vr2, rfl, q2, rd2⟩ := rd1.cons_inv
    obtain ⟨v3, vr3, rfl, q3, rd3⟩ := rd2.cons_inv
    cases rd3.nil_inv
    cases re.nil_inv
    exact ⟨(.cons q0 (.cons q1 (.cons q2 (.cons q3 .nil)))), rfl⟩
theorem fk_Bookings_spots (N : Nat) (T : Txt K mg base) {fa : Addr} {fd : FuncData} (F : FunD K "spots" "Bookings.spots" (defArgs s_Bookings_spots) (defBody s_Bookings_spots) (defScope s_Bookings_spots) [] [] fa fd) : FnG P w K mg base (5 + 1) fa fd p_Bookings_spots (spM K mg p_Bookings_spots.length (fnM n_Bookings_spots.length (C.b_Bookings_spots N))) := by
  apply def_okD F sc_Bookings_spots
  intro cdv A outer s H E c
  exact (rss_cons (rs_set (i := 2) c.nd rfl (re_ts1 c.u (fun _ => (rv 1)) eVar_st eVar_nx))
      (rss_cons (rs_lk (rs_for c.po c.calm (ri_dv (re_fld 9 T.a_lines (rv 0))) (rg_name (i := 3) c.nd rfl) (rss_one (rs_expr (re_tsU c.u (rv 2) (re_dcT [("row", 7)] c.u c.calm c.nd (ri_cel (rv 3)) (blkOk_by (own := [("row", 7)]) (N := n_Bookings_spots) (sc := defScope s_Bookings_spots) (by decide +kernel)) (by decide) (fun _ _ _ _ _ => (pg_name (i := 7) c.nd rfl (Or.inl rfl))) (fun _ _ _ _ _ => pts_one (rt_e (re_callB c.blk (ok_is_before N T) (by decide) (ra_cons (rv 1) (ra_cons (re_ix (rv 7) re_int) ra_nil))))) (fun _ _ _ _ _ => (re_ix (rv 7) re_int))))))))
      (rss_cons (rs_set (i := 4) c.nd rfl (re_new ra_nil))
      (rss_cons (rs_lk (rs_for c.po c.calm (ri_tk (rv 2)) (rg_name (i := 5) c.nd rfl) (rss_cons (rs_set (i := 6) c.nd rfl (re_b cm_len rfl T.b_len bt_len (ra_cons (re_lc [("other", 8)] c.calm c.nd (ri_tk (rv 2)) (blkOk_by (own := [("other", 8)]) (N := n_Bookings_spots) (sc := defScope s_Bookings_spots) (by decide +kernel)) (by decide) (fun _ _ _ _ _ => (pg_name (i := 8) c.nd rfl (by first | exact Or.inl rfl | exact Or.inr rfl))) (fun _ _ _ _ _ => pts_one (rt_e (re_callB c.blk (ok_is_before N T) (by decide) (ra_cons (rv 8) (ra_cons (rv 5) ra_nil))))) (fun _ _ _ _ _ => (rv 8))) ra_nil)))
      (rss_one (rs_expr (re_app (rv 4) (ra_cons (re_tup (ra_cons (rv 6) (ra_cons (rv 5) ra_nil))) ra_nil)))))))
      (rss_one (rs_ret (re_lc [("place", 6), ("time", 5)] c.calm c.nd (ri_e (re_b cm_sortP rfl T.b_sorted bt_sorted (ra_cons (rv 4) ra_nil))) (blkOk_by (own := [("place", 6), ("time", 5)]) (N := n_Bookings_spots) (sc := defScope s_Bookings_spots) (by decide +kernel)) (by decide) (fun _ _ _ _ _ => pg_tup c.calm (pgs_cons (pg_name (i := 6) c.nd rfl (by first | exact Or.inl rfl | exact Or.inr rfl)) (pgs_cons (pg_name (i := 5) c.nd rfl (by first | exact Or.inl rfl | exact Or.inr rfl)) pgs_nil))) (fun _ _ _ _ _ => pts0) (fun _ _ _ _ _ => (rv 5)))))))))
theorem fm_Bookings_spots (N : Nat) (T : Txt K mg base) {fa : Addr} {fd : FuncData} (F : FunD K "spots" "Bookings.spots" (defArgs s_Bookings_spots) (defBody s_Bookings_spots) (defScope s_Bookings_spots) [] [] fa fd) : FnG P w K mg base 6 fa fd p_Bookings_spots (spM K mg p_Bookings_spots.length (C.m_Bookings_spots N)) := fk_Bookings_spots N T F
theorem dt_Bookings_spots_1_ (N : Nat) (T : Txt K mg base) : Dt P w K mg base 34 "spots" p_Bookings_spots 6 1 [] C.g_Bookings_spots_2_ (C.m_Bookings_spots N) := by
  obtain ⟨C, fa, fd, g1, hc, hm, F⟩ := T.f_Bookings_spots
  have hb := kb_none (ps := p_Bookings_spots) F 2 [] (fun vs zs => ((vs.drop 0).take 1 ++ (vs.drop 1).take 1)) (fun r1 r3 => (((r1.drop 0).take 1).append ((r1.drop 1).take 1))) fun _ _ _ _ _ _ us ws h1 h3 => match us, ws, h1, h3 with | [_, _], [], _, _ => rfl
  refine ⟨C, fa, fd, _, _, g1, hc, hm, hb, fun w ds vs es zs rd re h1 h2 => ?_, fm_Bookings_spots N T F⟩
  match ds, es, h1, h2 with
  | [d0, d1], [], _, _ =>
    obtain ⟨v0, vr0, rfl, q0, rd0⟩ := rd.cons_inv
    obtain ⟨v1, vr1, rfl, q1, rd1⟩ := rd0.cons_inv
    cases rd1.nil_inv
    cases re.nil_inv
    exact ⟨(.cons q0 (.cons q1 .nil)), rfl⟩
theorem fk_lowest (N : Nat) (T : Txt K mg base) {fa : Addr} {fd : FuncData} (F : FunD K "lowest" "lowest" (defArgs s_lowest) (defBody s_lowest) (defScope s_lowest) [] [] fa fd) : FnG P w K mg base (1 + 1) fa fd p_lowest (spM K mg p_lowest.length (fnM n_lowest.length (C.b_lowest N))) := by
  apply def_okD F sc_lowest
  intro cdv A outer s H E c
  exact (rss_cons (rs_set (i := 2) c.nd rfl (re_call c (ok_shared N T) (by decide) (ra_cons (re_b cm_abs rfl T.b_abs bt_abs (ra_cons (rv 0) ra_nil)) (ra_cons (rv 1) ra_nil))))
      (rss_one (rs_ret (re_tup (ra_cons (re_bin om_div (rv 0) (rv 2)) (ra_cons (re_bin om_div (rv 1) (rv 2)) ra_nil))))))
theorem fm_lowest (N : Nat) (T : Txt K mg base) {fa : Addr} {fd : FuncData} (F : FunD K "lowest" "lowest" (defArgs s_lowest) (defBody s_lowest) (defScope s_lowest) [] [] fa fd) : FnG P w K mg base 2 fa fd p_lowest (spM K mg p_lowest.length (C.m_lowest N)) := fk_lowest N T F
theorem ok_lowest (N : Nat) (T : Txt K mg base) : Df P w K mg base "lowest" p_lowest 2 (C.m_lowest N) := by
  obtain ⟨fa, fd, g1, F⟩ := T.f_lowest
  exact ⟨fa, fd, g1, F.kp, F.bindsN (ps := p_lowest) fun _ _ _ _ _ _ us hl => match us, hl with | [_, _], _ => rfl, fm_lowest N T F⟩
theorem fk_added (N : Nat) (T : Txt K mg base) {fa : Addr} {fd : FuncData} (F : FunD K "added" "added" (defArgs s_added) (defBody s_added) (defScope s_added) [] [] fa fd) : FnG P w K mg base (4 + 1) fa fd p_added (spM K mg p_added.length (fnM n_added.length (C.b_added N))) := by
  apply def_okD F sc_added
  intro cdv A outer s H E c
  exact (rss_cons (rs_expr (re_call c (ok_check_two N T) (by decide) (ra_cons (rv 0) (ra_cons (rv 1) ra_nil))))
      (rss_cons (rs_asg (re_tup (ra_cons (rv 0) (ra_cons (rv 1) ra_nil))) (rg_tup c.calm (rgs_cons (rg_tup c.calm (rgs_cons (rg_name (i := 2) c.nd rfl) (rgs_cons (rg_name (i := 3) c.nd rfl) rgs_nil))) (rgs_cons (rg_tup c.calm (rgs_cons (rg_name (i := 4) c.nd rfl) (rgs_cons (rg_name (i := 5) c.nd rfl) rgs_nil))) rgs_nil))))
      (rss_one (rs_ret (re_call c (ok_lowest N T) (by decide) (ra_cons (re_binS om_addS (re_bin om_mul (rv 2) (rv 5)) (re_bin om_mul (rv 4) (rv 3))) (ra_cons (re_bin om_mul (rv 3) (rv 5)) ra_nil)))))))
theorem fm_added (N : Nat) (T : Txt K mg base) {fa : Addr} {fd : FuncData} (F : FunD K "added" "added" (defArgs s_added) (defBody s_added) (defScope s_added) [] [] fa fd) : FnG P w K mg base 5 fa fd p_added (spM K mg p_added.length (C.m_added N)) := fk_added N T F
theorem ok_added (N : Nat) (T : Txt K mg base) : Df P w K mg base "added" p_added 5 (C.m_added N) := by
  obtain ⟨fa, fd, g1, F⟩ := T.f_added
  exact ⟨fa, fd, g1, F.kp, F.bindsN (ps := p_added) fun _ _ _ _ _ _ us hl => match us, hl with | [_, _], _ => rfl, fm_added N T F⟩
theorem fk_at_time (N : Nat) (T : Txt K mg base) {fa : Addr} {fd : FuncData} (F : FunD K "at_time" "at_time" (defArgs s_at_time) (defBody s_at_time) (defScope s_at_time) [] [] fa fd) : FnG P w K mg base (5 + 1) fa fd p_at_time (spM K mg p_at_time.length (fnM n_at_time.length (C.b_at_time N))) := by
  obtain ⟨k0_NONE, g_NONE, k_NONE⟩ := T.c_NONE
  apply def_okD F sc_at_time
  intro cdv A outer s H E c
  exact (rss_cons (rs_set (i := 2) c.nd rfl (re_glob (v := .ref k0_NONE) rfl g_NONE rfl (fun _ => .tup (.inr k_NONE) (.cons (.int _) (.cons (.int _) .nil)))))
      (rss_cons (rs_forC c.po c.calm (ri_cel (rv 0)) (rg_tup c.calm (rgs_cons (rg_name (i := 3) c.nd rfl) (rgs_cons (rg_name (i := 4) c.nd rfl) rgs_nil))) (rss_one (rs_if (rt_not (rt_e (re_call c (ok_is_before N T) (by decide) (ra_cons (rv 1) (ra_cons (rv 3) ra_nil))))) (rss_one (rs_set (i := 2) c.nd rfl (rv 4))) rss_nil)))
      (rss_one (rs_ret (rv 2)))))
theorem fm_at_time (N : Nat) (T : Txt K mg base) {fa : Addr} {fd : FuncData} (F : FunD K "at_time" "at_time" (defArgs s_at_time) (defBody s_at_time) (defScope s_at_time) [] [] fa fd) : FnG P w K mg base 6 fa fd p_at_time (spM K mg p_at_time.length (C.m_at_time N)) := fk_at_time N T F
theorem ok_at_time (N : Nat) (T : Txt K mg base) : Df P w K mg base "at_time" p_at_time 6 (C.m_at_time N) := by
  obtain ⟨fa, fd, g1, F⟩ := T.f_at_time
  exact ⟨fa, fd, g1, F.kp, F.bindsN (ps := p_at_time) fun _ _ _ _ _ _ us hl => match us, hl with | [_, _], _ => rfl, fm_at_time N T F⟩
theorem fk_Bookings_sum_at (N : Nat) (T : Txt K mg base) {fa : Addr} {fd : FuncData} (F : FunD K "sum_at" "Bookings.sum_at" (defArgs s_Bookings_sum_at) (defBody s_Bookings_sum_at) (defScope s_Bookings_sum_at) [] [] fa fd) : FnG P w K mg base (6 + 1) fa fd p_Bookings_sum_at (spM K mg p_Bookings_sum_at.length (fnM n_Bookings_sum_at.length (C.b_Bookings_sum_at N))) := by
  obtain ⟨k0_NONE, g_NONE, k_NONE⟩ := T.c_NONE
  apply def_okD F sc_Bookings_sum_at
  intro cdv A outer s H E c
  exact (rss_cons (rs_set (i := 3) c.nd rfl (re_glob (v := .ref k0_NONE) rfl g_NONE rfl (fun _ => .tup (.inr k_NONE) (.cons (.int _) (.cons (.int _) .nil)))))
      (rss_cons (rs_lk (rs_for c.po c.calm (ri_di (re_fld 9 T.a_lines (rv 0))) (rg_tup c.calm (rgs_cons (rg_name (i := 4) c.nd rfl) (rgs_cons (rg_name (i := 5) c.nd rfl) rgs_nil))) (rss_one (rs_if (rt_cmp (om_ne c.u) (rv 4) (rv 2) (nomark _)) (rss_one (rs_set (i := 3) c.nd rfl (re_call c (ok_added N T) (by decide) (ra_cons (rv 3) (ra_cons (re_call c (ok_at_time N T) (by decide) (ra_cons (rv 5) (ra_cons (rv 1) ra_nil))) ra_nil))))) rss_nil))))
      (rss_one (rs_ret (rv 3)))))
theorem fm_Bookings_sum_at (N : Nat) (T : Txt K mg base) {fa : Addr} {fd : FuncData} (F : FunD K "sum_at" "Bookings.sum_at" (defArgs s_Bookings_sum_at) (defBody s_Bookings_sum_at) (defScope s_Bookings_sum_at) [] [] fa fd) : FnG P w K mg base 7 fa fd p_Bookings_sum_at (spM K mg p_Bookings_sum_at.length (C.m_Bookings_sum_at N)) := fk_Bookings_sum_at N T F
theorem dt_Bookings_sum_at_2_ (N : Nat) (T : Txt K mg base) : Dt P w K mg base 34 "sum_at" p_Bookings_sum_at 7 2 [] C.g_Bookings_sum_at_3_ (C.m_Bookings_sum_at N) := by
  obtain ⟨C, fa, fd, g1, hc, hm, F⟩ := T.f_Bookings_sum_at
  have hb := kb_none (ps := p_Bookings_sum_at) F 3 [] (fun vs zs => ((vs.drop 0).take 1 ++ ((vs.drop 1).take 1 ++ (vs.drop 2).take 1))) (fun r1 r3 => (((r1.drop 0).take 1).append (((r1.drop 1).take 1).append ((r1.drop 2).take 1)))) fun _ _ _ _ _ _ us ws h1 h3 => match us, ws, h1, h3 with | [_, _, _], [], _, _ => rfl
  refine ⟨C, fa, fd, _, _, g1, hc, hm, hb, fun w ds vs es zs rd re h1 h2 => ?_, fm_Bookings_sum_at N T F⟩
  match ds, es, h1, h2 with
  | [d0, d1, d2], [], _, _ =>
    obtain ⟨v0, vr0, rfl, q0, rd0⟩ := rd.cons_inv
    obtain ⟨v1, vr1, rfl, q1, rd1⟩ := rd0.cons_inv
    obtain ⟨v2, vr2, rfl, q2, rd2⟩ := rd1.cons_inv
    cases rd2.nil_inv
    cases re.nil_inv
    exact ⟨(.cons q0 (.cons q1 (.cons q2 .nil))), rfl⟩
theorem fk_greater (N : Nat) (T : Txt K mg base) {fa : Addr} {fd : FuncData} (F : FunD K "greater" "greater" (defArgs s_greater) (defBody s_greater) (defScope s_greater) [] [] fa fd) : FnG P w K mg base (5 + 1) fa fd p_greater (spM K mg p_greater.length (fnM n_greater.length (C.b_greater N))) := by
  apply def_okD F sc_greater
  intro cdv A outer s H E c
  exact (rss_one (rs_ret (re_if (rt_e (re_call c (ok_is_before N T) (by decide) (ra_cons (rv 0) (ra_cons (rv 1) ra_nil)))) (rv 1) (rv 0))))
theorem fm_greater (N : Nat) (T : Txt K mg base) {fa : Addr} {fd : FuncData} (F : FunD K "greater" "greater" (defArgs s_greater) (defBody s_greater) (defScope s_greater) [] [] fa fd) : FnG P w K mg base 6 fa fd p_greater (spM K mg p_greater.length (C.m_greater N)) := fk_greater N T F
theorem ok_greater (N : Nat) (T : Txt K mg base) : Df P w K mg base "greater" p_greater 6 (C.m_greater N) := by
  obtain ⟨fa, fd, g1, F⟩ := T.f_greater
  exact ⟨fa, fd, g1, F.kp, F.bindsN (ps := p_greater) fun _ _ _ _ _ _ us hl => match us, hl with | [_, _], _ => rfl, fm_greater N T F⟩
theorem fk_Bookings_most_booked (N : Nat) (T : Txt K mg base) {fa : Addr} {fd : FuncData} (F : FunD K "most_booked" "Bookings.most_booked" (defArgs s_Bookings_most_booked) (defBody s_Bookings_most_booked) (defScope s_Bookings_most_booked) [.non] [] fa fd) : FnG P w K mg base (7 + 1) fa fd p_Bookings_most_booked (spM K mg p_Bookings_most_booked.length (fnM n_Bookings_most_booked.length (C.b_Bookings_most_booked N))) := by
  obtain ⟨k0_NONE, g_NONE, k_NONE⟩ := T.c_NONE
  apply def_okD F sc_Bookings_most_booked
  intro cdv A outer s H E c
  exact (rss_cons (rs_expr (re_call c (ok_check_moment N T) (by decide) (ra_cons (rv 1) ra_nil)))
      (rss_cons (rs_if (rt_cmp om_isnot (rv 2) re_non (nomark _)) (rss_one (rs_expr (re_call c (ok_check_number N T) (by decide) (ra_cons (rv 2) ra_nil)))) rss_nil)
      (rss_cons (rs_set (i := 3) c.nd rfl (re_glob (v := .ref k0_NONE) rfl g_NONE rfl (fun _ => .tup (.inr k_NONE) (.cons (.int _) (.cons (.int _) .nil)))))
      (rss_cons (rs_for c.po c.calm (ri_e (re_meth c (rv 0) (dt_Bookings_spots_1_ N T) (by decide) (ra_cons (rv 1) ra_nil) rk_nil)) (rg_name (i := 4) c.nd rfl) (rss_one (rs_set (i := 3) c.nd rfl (re_call c (ok_greater N T) (by decide) (ra_cons (rv 3) (ra_cons (re_meth c (rv 0) (dt_Bookings_sum_at_2_ N T) (by decide) (ra_cons (rv 4) (ra_cons (rv 2) ra_nil)) rk_nil) ra_nil))))))
      (rss_one (rs_ret (rv 3)))))))
theorem fm_Bookings_most_booked (N : Nat) (T : Txt K mg base) {fa : Addr} {fd : FuncData} (F : FunD K "most_booked" "Bookings.most_booked" (defArgs s_Bookings_most_booked) (defBody s_Bookings_most_booked) (defScope s_Bookings_most_booked) [.non] [] fa fd) : FnG P w K mg base 8 fa fd p_Bookings_most_booked (spM K mg p_Bookings_most_booked.length (C.m_Bookings_most_booked N)) := fk_Bookings_most_booked N T F
theorem dt_Bookings_most_booked_1_ (N : Nat) (T : Txt K mg base) : Dt P w K mg base 34 "most_booked" p_Bookings_most_booked 8 1 [] g_Bookings_most_booked_2_ (C.m_Bookings_most_booked N) := by
  obtain ⟨C, fa, fd, g1, hc, hm, F⟩ := T.f_Bookings_most_booked
  obtain ⟨its, hb⟩ := F.kbindsD (ps := p_Bookings_most_booked) 2 [] (fun vs ds zs => ((vs.drop 0).take 1 ++ ((vs.drop 1).take 1 ++ (ds.drop 0).take 1))) (by simp) (fun r1 r2 r3 => (((r1.drop 0).take 1).append (((r1.drop 1).take 1).append ((r2.drop 0).take 1)))) fun _ _ _ _ _ _ _ us its ws h1 h2 h3 => match us, its, ws, h1, h2, h3 with | [_, _], [_], [], _, _, _ => ⟨_, rfl, rfl⟩
  refine ⟨C, fa, fd, _, _, g1, hc, hm, hb, fun w ds vs es zs rd re h1 h2 => ?_, fm_Bookings_most_booked N T F⟩
  match ds, es, h1, h2 with
  | [d0, d1], [], _, _ =>
    obtain ⟨v0, vr0, rfl, q0, rd0⟩ := rd.cons_inv
    obtain ⟨v1, vr1, rfl, q1, rd1⟩ := rd0.cons_inv
    cases rd1.nil_inv
    cases re.nil_inv
    exact ⟨(.cons q0 (.cons q1 (.cons .non .nil))), rfl⟩
theorem dt_Bookings_most_booked_1_but (N : Nat) (T : Txt K mg base) : Dt P w K mg base 34 "most_booked" p_Bookings_most_booked 8 1 ["but"] g_Bookings_most_booked_2_but (C.m_Bookings_most_booked N) := by
  obtain ⟨C, fa, fd, g1, hc, hm, F⟩ := T.f_Bookings_most_booked
  obtain ⟨its, hb⟩ := F.kbindsD (ps := p_Bookings_most_booked) 2 ["but"] (fun vs ds zs => ((vs.drop 0).take 1 ++ ((vs.drop 1).take 1 ++ (zs.drop 0).take 1))) (by simp) (fun r1 r2 r3 => (((r1.drop 0).take 1).append (((r1.drop 1).take 1).append ((r3.drop 0).take 1)))) fun _ _ _ _ _ _ _ us its ws h1 h2 h3 => match us, its, ws, h1, h2, h3 with | [_, _], [_], [_], _, _, _ => ⟨_, rfl, rfl⟩
  refine ⟨C, fa, fd, _, _, g1, hc, hm, hb, fun w ds vs es zs rd re h1 h2 => ?_, fm_Bookings_most_booked N T F⟩
  match ds, es, h1, h2 with
  | [d0, d1], [e0], _, _ =>
    obtain ⟨v0, vr0, rfl, q0, rd0⟩ := rd.cons_inv
    obtain ⟨v1, vr1, rfl, q1, rd1⟩ := rd0.cons_inv
    cases rd1.nil_inv
    obtain ⟨z0, zr0, rfl, p0, re0⟩ := re.cons_inv
    cases re0.nil_inv
    exact ⟨(.cons q0 (.cons q1 (.cons p0 .nil))), rfl⟩
theorem dt_Bookings_most_booked_2_ (N : Nat) (T : Txt K mg base) : Dt P w K mg base 34 "most_booked" p_Bookings_most_booked 8 2 [] C.g_Bookings_most_booked_3_ (C.m_Bookings_most_booked N) := by
  obtain ⟨C, fa, fd, g1, hc, hm, F⟩ := T.f_Bookings_most_booked
  obtain ⟨its, hb⟩ := F.kbindsD (ps := p_Bookings_most_booked) 3 [] (fun vs ds zs => ((vs.drop 0).take 1 ++ ((vs.drop 1).take 1 ++ (vs.drop 2).take 1))) (by simp) (fun r1 r2 r3 => (((r1.drop 0).take 1).append (((r1.drop 1).take 1).append ((r1.drop 2).take 1)))) fun _ _ _ _ _ _ _ us its ws h1 h2 h3 => match us, its, ws, h1, h2, h3 with | [_, _, _], [_], [], _, _, _ => ⟨_, rfl, rfl⟩
  refine ⟨C, fa, fd, _, _, g1, hc, hm, hb, fun w ds vs es zs rd re h1 h2 => ?_, fm_Bookings_most_booked N T F⟩
  match ds, es, h1, h2 with
  | [d0, d1, d2], [], _, _ =>
    obtain ⟨v0, vr0, rfl, q0, rd0⟩ := rd.cons_inv
    obtain ⟨v1, vr1, rfl, q1, rd1⟩ := rd0.cons_inv
    obtain ⟨v2, vr2, rfl, q2, rd2⟩ := rd1.cons_inv
    cases rd2.nil_inv
    cases re.nil_inv
    exact ⟨(.cons q0 (.cons q1 (.cons q2 .nil))), rfl⟩
theorem fk_Bookings_pieces (N : Nat) (T : Txt K mg base) {fa : Addr} {fd : FuncData} (F : FunD K "pieces" "Bookings.pieces" (defArgs s_Bookings_pieces) (defBody s_Bookings_pieces) (defScope s_Bookings_pieces) [] [] fa fd) : FnG P w K mg base (7 + 1) fa fd p_Bookings_pieces (spM K mg p_Bookings_pieces.length (fnM n_Bookings_pieces.length (C.b_Bookings_pieces N))) := by
  apply def_okD F sc_Bookings_pieces
  intro cdv A outer s H E c
  exact (rss_cons (rs_expr (re_call c (ok_check_moment N T) (by decide) (ra_cons (rv 1) ra_nil)))
      (rss_cons (rs_set (i := 2) c.nd rfl (re_new ra_nil))
      (rss_cons (rs_for c.po c.calm (ri_e (re_meth c (rv 0) (dt_Bookings_spots_1_ N T) (by decide) (ra_cons (rv 1) ra_nil) rk_nil)) (rg_name (i := 3) c.nd rfl) (rss_cons (rs_set (i := 4) c.nd rfl (re_meth c (rv 0) (dt_Bookings_sum_at_2_ N T) (by decide) (ra_cons (rv 3) (ra_cons re_non ra_nil)) rk_nil))
      (rss_one (rs_if (rt_w (rw_or (rt_not (rt_e (rv 2))) (rw_or1 (rt_cmp (om_ne c.u) (re_ix (re_ix (rv 2) (re_neg re_int)) re_int) (rv 4) (nomark _))))) (rss_one (rs_expr (re_app (rv 2) (ra_cons (re_tup (ra_cons (rv 3) (ra_cons (rv 4) ra_nil))) ra_nil)))) rss_nil))))
      (rss_one (rs_ret (re_ty cm_tuple rfl T.b_tuple bt_tuple (ra_cons (rv 2) ra_nil)))))))
theorem fm_Bookings_pieces (N : Nat) (T : Txt K mg base) {fa : Addr} {fd : FuncData} (F : FunD K "pieces" "Bookings.pieces" (defArgs s_Bookings_pieces) (defBody s_Bookings_pieces) (defScope s_Bookings_pieces) [] [] fa fd) : FnG P w K mg base 8 fa fd p_Bookings_pieces (spM K mg p_Bookings_pieces.length (C.m_Bookings_pieces N)) := fk_Bookings_pieces N T F
theorem dt_Bookings_pieces_1_ (N : Nat) (T : Txt K mg base) : Dt P w K mg base 34 "pieces" p_Bookings_pieces 8 1 [] C.g_Bookings_pieces_2_ (C.m_Bookings_pieces N) := by
  obtain ⟨C, fa, fd, g1, hc, hm, F⟩ := T.f_Bookings_pieces
  have hb := kb_none (ps := p_Bookings_pieces) F 2 [] (fun vs zs => ((vs.drop 0).take 1 ++ (vs.drop 1).take 1)) (fun r1 r3 => (((r1.drop 0).take 1).append ((r1.drop 1).take 1))) fun _ _ _ _ _ _ us ws h1 h3 => match us, ws, h1, h3 with | [_, _], [], _, _ => rfl
  refine ⟨C, fa, fd, _, _, g1, hc, hm, hb, fun w ds vs es zs rd re h1 h2 => ?_, fm_Bookings_pieces N T F⟩
  match ds, es, h1, h2 with
  | [d0, d1], [], _, _ =>
    obtain ⟨v0, vr0, rfl, q0, rd0⟩ := rd.cons_inv
    obtain ⟨v1, vr1, rfl, q1, rd1⟩ := rd0.cons_inv
    cases rd1.nil_inv
    cases re.nil_inv
    exact ⟨(.cons q0 (.cons q1 .nil)), rfl⟩
theorem fk_Bookings_rate_at (N : Nat) (T : Txt K mg base) {fa : Addr} {fd : FuncData} (F : FunD K "rate_at" "Bookings.rate_at" (defArgs s_Bookings_rate_at) (defBody s_Bookings_rate_at) (defScope s_Bookings_rate_at) [] [] fa fd) : FnG P w K mg base (6 + 1) fa fd p_Bookings_rate_at (spM K mg p_Bookings_rate_at.length (fnM n_Bookings_rate_at.length (C.b_Bookings_rate_at N))) := by
  apply def_okD F sc_Bookings_rate_at
  intro cdv A outer s H E c
  exact (rss_cons (rs_expr (re_call c (ok_check_number N T) (by decide) (ra_cons (rv 1) ra_nil)))
      (rss_cons (rs_expr (re_call c (ok_check_moment N T) (by decide) (ra_cons (rv 2) ra_nil)))
      (rss_one (rs_ret (re_call c (ok_at_time N T) (by decide) (ra_cons (re_dget2 c.u (re_fld 9 T.a_lines (rv 0)) (rv 1) (re_lst ra_nil)) (ra_cons (rv 2) ra_nil)))))))
theorem fm_Bookings_rate_at (N : Nat) (T : Txt K mg base) {fa : Addr} {fd : FuncData} (F : FunD K "rate_at" "Bookings.rate_at" (defArgs s_Bookings_rate_at) (defBody s_Bookings_rate_at) (defScope s_Bookings_rate_at) [] [] fa fd) : FnG P w K mg base 7 fa fd p_Bookings_rate_at (spM K mg p_Bookings_rate_at.length (C.m_Bookings_rate_at N)) := fk_Bookings_rate_at N T F
theorem dt_Bookings_rate_at_2_ (N : Nat) (T : Txt K mg base) : Dt P w K mg base 34 "rate_at" p_Bookings_rate_at 7 2 [] C.g_Bookings_rate_at_3_ (C.m_Bookings_rate_at N) := by
  obtain ⟨C, fa, fd, g1, hc, hm, F⟩ := T.f_Bookings_rate_at
  have hb := kb_none (ps := p_Bookings_rate_at) F 3 [] (fun vs zs => ((vs.drop 0).take 1 ++ ((vs.drop 1).take 1 ++ (vs.drop 2).take 1))) (fun r1 r3 => (((r1.drop 0).take 1).append (((r1.drop 1).take 1).append ((r1.drop 2).take 1)))) fun _ _ _ _ _ _ us ws h1 h3 => match us, ws, h1, h3 with | [_, _, _], [], _, _ => rfl
  refine ⟨C, fa, fd, _, _, g1, hc, hm, hb, fun w ds vs es zs rd re h1 h2 => ?_, fm_Bookings_rate_at N T F⟩
  match ds, es, h1, h2 with
  | [d0, d1, d2], [], _, _ =>
    obtain ⟨v0, vr0, rfl, q0, rd0⟩ := rd.cons_inv
    obtain ⟨v1, vr1, rfl, q1, rd1⟩ := rd0.cons_inv
    obtain ⟨v2, vr2, rfl, q2, rd2⟩ := rd1.cons_inv
    cases rd2.nil_inv
    cases re.nil_inv
    exact ⟨(.cons q0 (.cons q1 (.cons q2 .nil))), rfl⟩
theorem fk__law_cell (N : Nat) (T : Txt K mg base) {fa : Addr} {fd : FuncData} (F : FunD K "_law_cell" "_law_cell" (defArgs s__law_cell) (defBody s__law_cell) (defScope s__law_cell) [] [] fa fd) : FnG P w K mg base (0 + 1) fa fd p__law_cell (spM K mg p__law_cell.length (fnM n__law_cell.length (C.b__law_cell N))) := by
  apply def_okD F sc__law_cell
  intro cdv A outer s H E c
  exact (rss_cons (rs_if (rt_cmp om_lt (rv 1) (re_b cm_len rfl T.b_len bt_len (ra_cons (rv 0) ra_nil)) (nomark _)) (rss_one (rs_ret (re_ix (rv 0) (rv 1)))) rss_nil)
      (rss_cons (rs_set (i := 2) c.nd rfl (re_bin om_mod (re_bin om_mul re_int (re_binS om_addS (re_binS om_addS (re_bin om_mul (rv 1) (rv 1)) (re_bin om_mul re_int (rv 1))) re_int)) re_int))
      (rss_cons (rs_for c.po c.calm (ri_e (re_sl (rv 0) ro_none (ro_some re_int))) (rg_name (i := 3) c.nd rfl) (rss_one (rs_set (i := 2) c.nd rfl (re_bin om_mod (re_binS om_addS (re_bin om_mul (rv 2) re_int) (rv 3)) re_int))))
      (rss_one (rs_ret (rv 2))))))
theorem fm__law_cell (N : Nat) (T : Txt K mg base) {fa : Addr} {fd : FuncData} (F : FunD K "_law_cell" "_law_cell" (defArgs s__law_cell) (defBody s__law_cell) (defScope s__law_cell) [] [] fa fd) : FnG P w K mg base 1 fa fd p__law_cell (spM K mg p__law_cell.length (C.m__law_cell N)) := fk__law_cell N T F
theorem ok__law_cell (N : Nat) (T : Txt K mg base) : Df P w K mg base "_law_cell" p__law_cell 1 (C.m__law_cell N) := by
  obtain ⟨fa, fd, g1, F⟩ := T.f__law_cell
  exact ⟨fa, fd, g1, F.kp, F.bindsN (ps := p__law_cell) fun _ _ _ _ _ _ us hl => match us, hl with | [_, _], _ => rfl, fm__law_cell N T F⟩
theorem fk_Bookings___init__ (N : Nat) (T : Txt K mg base) {fa : Addr} {fd : FuncData} (F : FunD K "__init__" "Bookings.__init__" (defArgs s_Bookings___init__) (defBody s_Bookings___init__) (defScope s_Bookings___init__) [] [] fa fd) : FnG P w K mg base (0 + 1) fa fd p_Bookings___init__ (spM K mg p_Bookings___init__.length (fnM n_Bookings___init__.length (C.b_Bookings___init__ N))) := by
  apply def_okD F sc_Bookings___init__
  intro cdv A outer s H E c
  exact (rss_one (rs_fld 9 T.a_lines (rv 0) re_newD))
theorem fm_Bookings___init__ (N : Nat) (T : Txt K mg base) {fa : Addr} {fd : FuncData} (F : FunD K "__init__" "Bookings.__init__" (defArgs s_Bookings___init__) (defBody s_Bookings___init__) (defScope s_Bookings___init__) [] [] fa fd) : FnG P w K mg base 1 fa fd p_Bookings___init__ (spM K mg p_Bookings___init__.length (C.m_Bookings___init__ N)) := fk_Bookings___init__ N T F
theorem dm_Bookings___init___0_ (N : Nat) (T : Txt K mg base) : Dm P w K mg base 34 p_Bookings___init__ 1 0 [] C.g_Bookings___init___1_ (C.m_Bookings___init__ N) := by
  obtain ⟨C, fa, fd, g1, M, F⟩ := T.f_Bookings___init__
  have hb := kb_none (ps := p_Bookings___init__) F 1 [] (fun vs zs => (vs.drop 0).take 1) (fun r1 r3 => ((r1.drop 0).take 1)) fun _ _ _ _ _ _ us ws h1 h3 => match us, ws, h1, h3 with | [_], [], _, _ => rfl
  refine ⟨C, fa, fd, _, _, g1, M, hb, fun w ds vs es zs rd re h1 h2 => ?_, fm_Bookings___init__ N T F⟩
  match ds, es, h1, h2 with
  | [d0], [], _, _ =>
    obtain ⟨v0, vr0, rfl, q0, rd0⟩ := rd.cons_inv
    cases rd0.nil_inv
    cases re.nil_inv
    exact ⟨(.cons q0 .nil), rfl⟩
theorem fk__law_r (N : Nat) (T : Txt K mg base) {fa : Addr} {fd : FuncData} (F : FunD K "_law_r" "_law_r" (defArgs s__law_r) (defBody s__law_r) (defScope s__law_r) [] [] fa fd) : FnG P w K mg base (0 + 1) fa fd p__law_r (spM K mg p__law_r.length (fnM n__law_r.length (C.b__law_r N))) := by
  apply def_okD F sc__law_r
  intro cdv A outer s H E c
  exact (rss_cons (rs_par (i := 2) (j := 3) c.calm c.nd rfl rfl (by decide) (ra_cons (re_b cm_abs rfl T.b_abs bt_abs (ra_cons (rv 0) ra_nil)) (ra_cons (re_b cm_abs rfl T.b_abs bt_abs (ra_cons (rv 1) ra_nil)) ra_nil)))
      (rss_cons (rs_while N c.po (rt_cmp om_gt (rv 3) re_int (nomark _)) (rss_one (rs_par (i := 2) (j := 3) c.calm c.nd rfl rfl (by decide) (ra_cons (rv 3) (ra_cons (re_bin om_mod (rv 2) (rv 3)) ra_nil)))))
      (rss_cons (rs_if (rt_cmp om_lt (rv 1) re_int (nomark _)) (rss_one (rs_set (i := 2) c.nd rfl (re_bin om_sub re_int (rv 2)))) rss_nil)
      (rss_one (rs_ret (re_tup (ra_cons (re_bin om_div (rv 0) (rv 2)) (ra_cons (re_bin om_div (rv 1) (rv 2)) ra_nil))))))))
theorem fm__law_r (N : Nat) (T : Txt K mg base) {fa : Addr} {fd : FuncData} (F : FunD K "_law_r" "_law_r" (defArgs s__law_r) (defBody s__law_r) (defScope s__law_r) [] [] fa fd) : FnG P w K mg base 1 fa fd p__law_r (spM K mg p__law_r.length (C.m__law_r N)) := fk__law_r N T F
theorem ok__law_r (N : Nat) (T : Txt K mg base) : Df P w K mg base "_law_r" p__law_r 1 (C.m__law_r N) := by
  obtain ⟨fa, fd, g1, F⟩ := T.f__law_r
  exact ⟨fa, fd, g1, F.kp, F.bindsN (ps := p__law_r) fun _ _ _ _ _ _ us hl => match us, hl with | [_, _], _ => rfl, fm__law_r N T F⟩
theorem fk__law_add (N : Nat) (T : Txt K mg base) {fa : Addr} {fd : FuncData} (F : FunD K "_law_add" "_law_add" (defArgs s__law_add) (defBody s__law_add) (defScope s__law_add) [] [] fa fd) : FnG P w K mg base (1 + 1) fa fd p__law_add (spM K mg p__law_add.length (fnM n__law_add.length (C.b__law_add N))) := by
  apply def_okD F sc__law_add
  intro cdv A outer s H E c
  exact (rss_one (rs_ret (re_call c (ok__law_r N T) (by decide) (ra_cons (re_binS om_addS (re_bin om_mul (re_ix (rv 0) re_int) (re_ix (rv 1) re_int)) (re_bin om_mul (re_ix (rv 1) re_int) (re_ix (rv 0) re_int))) (ra_cons (re_bin om_mul (re_ix (rv 0) re_int) (re_ix (rv 1) re_int)) ra_nil)))))
theorem fm__law_add (N : Nat) (T : Txt K mg base) {fa : Addr} {fd : FuncData} (F : FunD K "_law_add" "_law_add" (defArgs s__law_add) (defBody s__law_add) (defScope s__law_add) [] [] fa fd) : FnG P w K mg base 2 fa fd p__law_add (spM K mg p__law_add.length (C.m__law_add N)) := fk__law_add N T F
theorem ok__law_add (N : Nat) (T : Txt K mg base) : Df P w K mg base "_law_add" p__law_add 2 (C.m__law_add N) := by
  obtain ⟨fa, fd, g1, F⟩ := T.f__law_add
  exact ⟨fa, fd, g1, F.kp, F.bindsN (ps := p__law_add) fun _ _ _ _ _ _ us hl => match us, hl with | [_, _], _ => rfl, fm__law_add N T F⟩
theorem fk__law_take (N : Nat) (T : Txt K mg base) {fa : Addr} {fd : FuncData} (F : FunD K "_law_take" "_law_take" (defArgs s__law_take) (defBody s__law_take) (defScope s__law_take) [] [] fa fd) : FnG P w K mg base (0 + 1) fa fd p__law_take (spM K mg p__law_take.length (fnM n__law_take.length (C.b__law_take N))) := by
  apply def_okD F sc__law_take
  intro cdv A outer s H E c
  exact (rss_cons (rs_asg (re_binS om_addS (re_ix (rv 0) re_int) re_int) (rg_sub (rv 0) re_int))
      (rss_cons (rs_set (i := 2) c.nd rfl (re_ix (rv 0) re_int))
      (rss_cons (rs_asg (re_bin om_mod (re_binS om_addS (re_bin om_mul (rv 2) (re_binS om_addS (re_bin om_mod (rv 2) re_int) re_int)) (re_bin om_mul re_int (re_ix (rv 0) re_int))) re_int) (rg_sub (rv 0) re_int))
      (rss_cons (rs_if (rt_cmp om_gt (re_ix (rv 0) re_int) re_int (nomark _)) (rss_cons (rs_asg (re_b cm_divmodW rfl T.b_divmod bt_divmod (ra_cons (re_ix (rv 0) re_int) (ra_cons (rv 1) ra_nil))) (rg_tup c.calm (rgs_cons (rg_sub (rv 0) re_int) (rgs_cons (rg_name (i := 3) c.nd rfl) rgs_nil))))
      (rss_one (rs_ret (rv 3)))) rss_nil)
      (rss_one (rs_ret (re_bin om_mod (re_bin om_div (re_ix (rv 0) re_int) re_int) (rv 1))))))))
theorem fm__law_take (N : Nat) (T : Txt K mg base) {fa : Addr} {fd : FuncData} (F : FunD K "_law_take" "_law_take" (defArgs s__law_take) (defBody s__law_take) (defScope s__law_take) [] [] fa fd) : FnG P w K mg base 1 fa fd p__law_take (spM K mg p__law_take.length (C.m__law_take N)) := fk__law_take N T F
theorem ok__law_take (N : Nat) (T : Txt K mg base) : Df P w K mg base "_law_take" p__law_take 1 (C.m__law_take N) := by
  obtain ⟨fa, fd, g1, F⟩ := T.f__law_take
  exact ⟨fa, fd, g1, F.kp, F.bindsN (ps := p__law_take) fun _ _ _ _ _ _ us hl => match us, hl with | [_, _], _ => rfl, fm__law_take N T F⟩
theorem fk__law_moment (N : Nat) (T : Txt K mg base) {fa : Addr} {fd : FuncData} (F : FunD K "_law_moment" "_law_moment" (defArgs s__law_moment) (defBody s__law_moment) (defScope s__law_moment) [] [] fa fd) : FnG P w K mg base (2 + 1) fa fd p__law_moment (spM K mg p__law_moment.length (fnM n__law_moment.length (C.b__law_moment N))) := by
  apply def_okD F sc__law_moment
  intro cdv A outer s H E c
  exact (rss_one (rs_ret (re_call c (ok__law_add N T) (by decide) (ra_cons (rv 1) (ra_cons (re_call c (ok__law_r N T) (by decide) (ra_cons (re_call c (ok__law_take N T) (by decide) (ra_cons (rv 0) (ra_cons re_int ra_nil))) (ra_cons (re_ix (re_lst (ra_cons re_int (ra_cons re_int (ra_cons re_int (ra_cons re_int (ra_cons re_int ra_nil)))))) (re_call c (ok__law_take N T) (by decide) (ra_cons (rv 0) (ra_cons re_int ra_nil)))) ra_nil))) ra_nil)))))
theorem fm__law_moment (N : Nat) (T : Txt K mg base) {fa : Addr} {fd : FuncData} (F : FunD K "_law_moment" "_law_moment" (defArgs s__law_moment) (defBody s__law_moment) (defScope s__law_moment) [] [] fa fd) : FnG P w K mg base 3 fa fd p__law_moment (spM K mg p__law_moment.length (C.m__law_moment N)) := fk__law_moment N T F
theorem ok__law_moment (N : Nat) (T : Txt K mg base) : Df P w K mg base "_law_moment" p__law_moment 3 (C.m__law_moment N) := by
  obtain ⟨fa, fd, g1, F⟩ := T.f__law_moment
  exact ⟨fa, fd, g1, F.kp, F.bindsN (ps := p__law_moment) fun _ _ _ _ _ _ us hl => match us, hl with | [_, _], _ => rfl, fm__law_moment N T F⟩
theorem fk__law_rate (N : Nat) (T : Txt K mg base) {fa : Addr} {fd : FuncData} (F : FunD K "_law_rate" "_law_rate" (defArgs s__law_rate) (defBody s__law_rate) (defScope s__law_rate) [] [] fa fd) : FnG P w K mg base (1 + 1) fa fd p__law_rate (spM K mg p__law_rate.length (fnM n__law_rate.length (C.b__law_rateS N))) := by
  apply def_okD F sc__law_rate
  intro cdv A outer s H E c
  exact (rss_cons (rs_set (i := 1) c.nd rfl (re_binS om_addS re_int (re_call c (ok__law_take N T) (by decide) (ra_cons (rv 0) (ra_cons re_int ra_nil)))))
      (rss_one (rs_ret (re_call c (ok__law_r N T) (by decide) (ra_cons (re_binS om_addS re_int (re_call c (ok__law_take N T) (by decide) (ra_cons (rv 0) (ra_cons (re_b (cm_min c.calm) rfl T.b_min bt_min (ra_cons re_int (ra_cons (rv 1) ra_nil))) ra_nil)))) (ra_cons (rv 1) ra_nil))))))
theorem fm__law_rate (N : Nat) (T : Txt K mg base) {fa : Addr} {fd : FuncData} (F : FunD K "_law_rate" "_law_rate" (defArgs s__law_rate) (defBody s__law_rate) (defScope s__law_rate) [] [] fa fd) : FnG P w K mg base 2 fa fd p__law_rate (spM K mg p__law_rate.length (C.m__law_rateS N)) := fk__law_rate N T F
theorem ok__law_rate (N : Nat) (T : Txt K mg base) : Df P w K mg base "_law_rate" p__law_rate 2 (C.m__law_rateS N) := by
  obtain ⟨fa, fd, g1, F⟩ := T.f__law_rate
  exact ⟨fa, fd, g1, F.kp, F.bindsN (ps := p__law_rate) fun _ _ _ _ _ _ us hl => match us, hl with | [_], _ => rfl, fm__law_rate N T F⟩
theorem fk__law_filled (N : Nat) (T : Txt K mg base) {fa : Addr} {fd : FuncData} (F : FunD K "_law_filled" "_law_filled" (defArgs s__law_filled) (defBody s__law_filled) (defScope s__law_filled) [] [] fa fd) : FnG P w K mg base (6 + 1) fa fd p__law_filled (spM K mg p__law_filled.length (fnM n__law_filled.length (b__law_filled N))) := by
  apply def_okD F sc__law_filled
  intro cdv A outer s H E c
  exact (rss_cons (rs_par (i := 1) (j := 2) c.calm c.nd rfl rfl (by decide) (ra_cons (re_mkM0 c (dm_Bookings___init___0_ N T) (by decide)) (ra_cons (re_mkM0 c (dm_Bookings___init___0_ N T) (by decide)) ra_nil)))
      (rss_cons (rs_for c.po c.calm (ri_range1 T.b_range (ra_cons (re_call c (ok__law_take N T) (by decide) (ra_cons (rv 0) (ra_cons re_int ra_nil))) ra_nil)) (rg_name (i := 3) c.nd rfl) (rss_cons (rs_par (i := 4) (j := 5) c.calm c.nd rfl rfl (by decide) (ra_cons (re_call c (ok__law_take N T) (by decide) (ra_cons (rv 0) (ra_cons re_int ra_nil))) (ra_cons (re_call c (ok__law_moment N T) (by decide) (ra_cons (rv 0) (ra_cons (re_tup (ra_cons re_int (ra_cons re_int ra_nil))) ra_nil))) ra_nil)))
      (rss_cons (rs_set (i := 6) c.nd rfl (re_ix (re_lst (ra_cons (re_tup (ra_cons re_int (ra_cons re_int ra_nil))) (ra_cons (re_call c (ok__law_rate N T) (by decide) (ra_cons (rv 0) ra_nil)) ra_nil))) (re_call c (ok__law_take N T) (by decide) (ra_cons (rv 0) (ra_cons re_int ra_nil)))))
      (rss_cons (rs_expr (re_meth c (rv 1) (dt_Bookings_book_3_ N T) (by decide) (ra_cons (rv 4) (ra_cons (rv 5) (ra_cons (rv 6) ra_nil))) rk_nil))
      (rss_one (rs_expr (re_meth c (rv 2) (dt_Bookings_book_3_ N T) (by decide) (ra_cons (rv 4) (ra_cons (rv 5) (ra_cons (rv 6) ra_nil))) rk_nil)))))))
      (rss_one (rs_ret (re_tup (ra_cons (rv 1) (ra_cons (rv 2) ra_nil)))))))
theorem fm__law_filled (N : Nat) (T : Txt K mg base) {fa : Addr} {fd : FuncData} (F : FunD K "_law_filled" "_law_filled" (defArgs s__law_filled) (defBody s__law_filled) (defScope s__law_filled) [] [] fa fd) : FnG P w K mg base 7 fa fd p__law_filled (spM K mg p__law_filled.length (m__law_filled N)) := fk__law_filled N T F
theorem ok__law_filled (N : Nat) (T : Txt K mg base) : Df P w K mg base "_law_filled" p__law_filled 7 (m__law_filled N) := by
  obtain ⟨fa, fd, g1, F⟩ := T.f__law_filled
  exact ⟨fa, fd, g1, F.kp, F.bindsN (ps := p__law_filled) fun _ _ _ _ _ _ us hl => match us, hl with | [_], _ => rfl, fm__law_filled N T F⟩
theorem fk__law_pool (N : Nat) (T : Txt K mg base) {fa : Addr} {fd : FuncData} (F : FunD K "_law_pool" "_law_pool" (defArgs s__law_pool) (defBody s__law_pool) (defScope s__law_pool) [] [] fa fd) : FnG P w K mg base (0 + 1) fa fd p__law_pool (spM K mg p__law_pool.length (fnM n__law_pool.length (C.b__law_pool N))) := by
  apply def_okD F sc__law_pool
  intro cdv A outer s H E c
  exact (rss_cons (rs_set (i := 1) c.nd rfl re_int)
      (rss_cons (rs_if (rt_w (rw_or (rt_cmp om_lt (rv 0) re_int (nomark _)) (rw_or1 (rt_cmp om_ge (rv 0) (re_bin om_pow re_int re_int) (nomark _))))) (rss_one (rs_set (i := 1) c.nd rfl (re_b cm_abs rfl T.b_abs bt_abs (ra_cons (rv 0) ra_nil)))) rss_nil)
      (rss_one (rs_ret (re_new (ra_cons (re_bin om_mod (rv 0) re_int) (ra_cons (rv 1) (ra_cons re_int ra_nil))))))))
theorem fm__law_pool (N : Nat) (T : Txt K mg base) {fa : Addr} {fd : FuncData} (F : FunD K "_law_pool" "_law_pool" (defArgs s__law_pool) (defBody s__law_pool) (defScope s__law_pool) [] [] fa fd) : FnG P w K mg base 1 fa fd p__law_pool (spM K mg p__law_pool.length (C.m__law_pool N)) := fk__law_pool N T F
theorem ok__law_pool (N : Nat) (T : Txt K mg base) : Df P w K mg base "_law_pool" p__law_pool 1 (C.m__law_pool N) := by
  obtain ⟨fa, fd, g1, F⟩ := T.f__law_pool
  exact ⟨fa, fd, g1, F.kp, F.bindsN (ps := p__law_pool) fun _ _ _ _ _ _ us hl => match us, hl with | [_], _ => rfl, fm__law_pool N T F⟩
theorem okN__law_word (N : Nat) (T : Txt K mg base) : Dn0 P w K mg base "_law_word" p__law_word 1 (m__law_word N) := by
  obtain ⟨fa, fd, g1, F⟩ := T.f__law_word
  refine ⟨fa, fd, g1, F.kp, F.bindsN (ps := p__law_word) fun _ _ _ _ _ _ us hl => match us, hl with | [_], _ => rfl, ?_⟩
  obtain ⟨C_NoLess, g_NoLess⟩ := T.x_NoLess
  obtain ⟨C_NoLog, g_NoLog⟩ := T.x_NoLog
  obtain ⟨C_NoNumber, g_NoNumber, x_NoNumber⟩ := T.x_NoNumber
  obtain ⟨C_NoOne, g_NoOne⟩ := T.x_NoOne
  obtain ⟨C_NoRate, g_NoRate⟩ := T.x_NoRate
  obtain ⟨C_NoRatio, g_NoRatio, x_NoRatio⟩ := T.x_NoRatio
  obtain ⟨C_NoRow, g_NoRow⟩ := T.x_NoRow
  obtain ⟨C_NoSize, g_NoSize⟩ := T.x_NoSize
  obtain ⟨C_NoStretch, g_NoStretch⟩ := T.x_NoStretch
  obtain ⟨C_NoText, g_NoText⟩ := T.x_NoText
  obtain ⟨C_NoTime, g_NoTime, x_NoTime⟩ := T.x_NoTime
  obtain ⟨C_NoWord, g_NoWord⟩ := T.x_NoWord
  obtain ⟨C_ShareError, g_ShareError⟩ := T.x_ShareError
  apply def_okN (k := 0) F sc__law_word
  intro cdv A outer s H E ad c
  exact (rss_cons (rs_set (i := 1) c.nd rfl (re_lst (ra_cons (re_isY T.b_isinstance (rv 0) (pe_glob (v := .ref C_NoNumber) rfl g_NoNumber rfl) (.own _) (T.tb_NoNumber _ g_NoNumber)) (ra_cons (re_isY T.b_isinstance (rv 0) (pe_glob (v := .ref C_NoTime) rfl g_NoTime rfl) (.own _) (T.tb_NoTime _ g_NoTime)) (ra_cons (re_isY T.b_isinstance (rv 0) (pe_glob (v := .ref C_NoRate) rfl g_NoRate rfl) (.own _) (T.tb_NoRate _ g_NoRate)) (ra_cons (re_isY T.b_isinstance (rv 0) (pe_glob (v := .ref C_NoLog) rfl g_NoLog rfl) (.own _) (T.tb_NoLog _ g_NoLog)) ra_nil))))))
      (rss_cons (rs_set (i := 1) c.nd rfl (re_binS om_addS (rv 1) (re_lst (ra_cons (re_isY T.b_isinstance (rv 0) (pe_glob (v := .ref C_NoOne) rfl g_NoOne rfl) (.own _) (T.tb_NoOne _ g_NoOne)) (ra_cons (re_isY T.b_isinstance (rv 0) (pe_glob (v := .ref C_NoRow) rfl g_NoRow rfl) (.own _) (T.tb_NoRow _ g_NoRow)) (ra_cons (re_isY T.b_isinstance (rv 0) (pe_glob (v := .ref C_NoWord) rfl g_NoWord rfl) (.own _) (T.tb_NoWord _ g_NoWord)) (ra_cons (re_isY T.b_isinstance (rv 0) (pe_glob (v := .ref C_NoLess) rfl g_NoLess rfl) (.own _) (T.tb_NoLess _ g_NoLess)) ra_nil)))))))
      (rss_cons (rs_set (i := 1) c.nd rfl (re_binS om_addS (rv 1) (re_lst (ra_cons (re_isY T.b_isinstance (rv 0) (pe_glob (v := .ref C_NoStretch) rfl g_NoStretch rfl) (.own _) (T.tb_NoStretch _ g_NoStretch)) (ra_cons (re_isY T.b_isinstance (rv 0) (pe_glob (v := .ref C_NoText) rfl g_NoText rfl) (.own _) (T.tb_NoText _ g_NoText)) (ra_cons (re_isY T.b_isinstance (rv 0) (pe_glob (v := .ref C_NoRatio) rfl g_NoRatio rfl) (.own _) (T.tb_NoRatio _ g_NoRatio)) (ra_cons (re_isY T.b_isinstance (rv 0) (pe_glob (v := .ref C_NoSize) rfl g_NoSize rfl) (.own _) (T.tb_NoSize _ g_NoSize)) ra_nil)))))))
      (rss_cons (rs_set (i := 2) c.nd rfl (re_lst (ra_cons (re_isY T.b_isinstance (rv 0) (pe_bltn (v := .ty "ValueError") rfl T.b_ValueError bt_ValueError rfl) (.ty _) (T.tb_ValueError)) (ra_cons (re_isY T.b_isinstance (rv 0) (pe_bltn (v := .ty "LookupError") rfl T.b_LookupError bt_LookupError rfl) (.ty _) (T.tb_LookupError)) (ra_cons (re_isY T.b_isinstance (rv 0) (pe_bltn (v := .ty "ArithmeticError") rfl T.b_ArithmeticError bt_ArithmeticError rfl) (.ty _) (T.tb_ArithmeticError)) ra_nil)))))
      (rss_cons (rs_if (rt_w (rw_or (rt_cmp (om_ne c.u) (re_lm mm_count PySem.F.slot_list_count PySem.F.type_list_count (rv 1) (ra_cons re_bl ra_nil)) re_int (nomark _)) (rw_or (rt_cmp (om_ne c.u) (re_lm mm_count PySem.F.slot_list_count PySem.F.type_list_count (rv 2) (ra_cons re_bl ra_nil)) re_int (nomark _)) (rw_or1 (rt_e (re_isY T.b_isinstance (rv 0) (pe_glob (v := .ref C_ShareError) rfl g_ShareError rfl) (.own _) (T.tb_ShareError _ g_ShareError))))))) (rss_one (rs_ret re_str)) rss_nil)
      (rss_cons (rs_if (rt_cmp (om_ne c.u) (re_isY T.b_isinstance (rv 0) (pe_bltn (v := .ty "LookupError") rfl T.b_LookupError bt_LookupError rfl) (.ty _) (T.tb_LookupError)) (re_isY T.b_isinstance (rv 0) (pe_glob (v := .ref C_NoOne) rfl g_NoOne rfl) (.own _) (T.tb_NoOne _ g_NoOne)) (nomark _)) (rss_one (rs_ret re_str)) rss_nil)
      (rss_cons (rs_set (i := 3) c.nd rfl (re_lst (ra_cons re_str (ra_cons re_str (ra_cons re_str (ra_cons re_str (ra_cons re_str (ra_cons re_str (ra_cons re_str (ra_cons re_str (ra_cons re_str (ra_cons re_str (ra_cons re_str (ra_cons re_str ra_nil))))))))))))))
      (rss_one (rs_ret (re_ix (rv 3) (re_lm mm_index PySem.F.slot_list_index PySem.F.type_list_index (rv 1) (ra_cons re_bl ra_nil))))))))))))
theorem fk__law_caught (N : Nat) (T : Txt K mg base) {fa : Addr} {fd : FuncData} (F : FunD K "_law_caught" "_law_caught" (defArgs s__law_caught) (defBody s__law_caught) (defScope s__law_caught) [] [] fa fd) : FnH P w K mg base 9 fa fd n__law_caught "_law_caught" (defScope s__law_caught) p__law_caught "_law_deed" 0 (fun fv cp fk => m__law_caught fv cp fk N) := by
  obtain ⟨C_LostError, g_LostError⟩ := T.x_LostError
  obtain ⟨C_ShareError, g_ShareError⟩ := T.x_ShareError
  obtain ⟨C_TagError, g_TagError⟩ := T.x_TagError
  refine def_okH (m := fun fv cp fk => b__law_caught fv cp fk N) F sc__law_caught (by decide) (ph_by (by decide +kernel)) ?_
  intro cdv A outer s H E fv cp fk c act
  exact (rss_cons (rs_tryG c (fun _ _ _ c => (rss_one (rs_expr (act.zero c (Nat.le_refl _))))) (.as (test_three ⟨rfl, by decide, .inl g_LostError⟩ ⟨rfl, by decide, .inl g_ShareError⟩ ⟨rfl, by decide, .inl g_TagError⟩) (.cons (T.tx_LostError _ g_LostError) (.cons (T.tx_ShareError _ g_ShareError) (.cons (T.tx_TagError _ g_TagError) .nil))) rfl rfl (fun _ _ => (rss_cons (rs_set (i := 2) c.nd rfl (re_callN c (okN__law_word N T) (by decide) (ra_cons (rv 1) ra_nil)))
      (rss_cons (rs_if (rt_cmp (om_eq c.u) (rv 2) re_str (nomark _)) (rss_one (rs_ret (re_tup (ra_cons (rv 2) (ra_cons (re_fldY 5 T.z_rate (rv 1)) ra_nil))))) rss_nil)
      (rss_cons (rs_if (rt_cmp (om_eq c.u) (rv 2) re_str (nomark _)) (rss_one (rs_ret (re_tup (ra_cons (rv 2) (ra_cons (re_fldY 4 T.z_row (rv 1)) ra_nil))))) rss_nil)
      (rss_one (rs_ret (re_tup (ra_cons (rv 2) (ra_cons (re_if (rt_cmp (om_eq c.u) (rv 2) re_str (nomark _)) (re_fldY 0 T.z_name (rv 1)) re_non) ra_nil))))))))) .nil))
      (rss_one (rs_ret (re_tup (ra_cons re_str (ra_cons re_non ra_nil))))))
theorem oh__law_caught (N : Nat) (T : Txt K mg base) : Dh P w K mg base "_law_caught" p__law_caught 9 (fun fv cp fk => m__law_caught fv cp fk N) := by
  obtain ⟨fa, fd, g1, F⟩ := T.f__law_caught
  exact ⟨fa, fd, n__law_caught, _, _, "_law_deed", 0, g1, F.kp, F.bindsN (ps := p__law_caught) fun _ _ _ _ _ _ us hl => match us, hl with | [_], _ => rfl, rfl, Or.inl rfl, by decide, by decide, fk__law_caught N T F⟩
theorem fk__law_refusals_right (N : Nat) (T : Txt K mg base) {fa : Addr} {fd : FuncData} (F : FunD K "_law_refusals_right" "_law_refusals_right" (defArgs s__law_refusals_right) (defBody s__law_refusals_right) (defScope s__law_refusals_right) [] [] fa fd) (he : fa = He.fAd K mk__law_refusals_right.1) : FnG P w K mg base (10 + 1) fa fd p__law_refusals_right (spM K mg p__law_refusals_right.length (fnM n__law_refusals_right.length (b__law_refusals_right N))) := by
  subst he
  apply def_okL (p := mk__law_refusals_right.1) F sc__law_refusals_right
  intro cdv A outer s H E hc c
  exact (rss_cons (rs_asg (rv 1) (rg_tup c.calm (rgs_cons (rg_name (i := 2) c.nd rfl) (rgs_cons (rg_name (i := 3) c.nd rfl) (rgs_cons (rg_name (i := 4) c.nd rfl) rgs_nil)))))
      (rss_cons (rs_set (i := 5) c.nd rfl (re_lst (ra_cons (re_neg re_int) (ra_cons re_bl (ra_cons re_bl (ra_cons re_non (ra_cons re_str (ra_cons re_str (ra_cons (re_tup (ra_cons re_int ra_nil)) (ra_cons (re_lst (ra_cons re_int ra_nil)) (ra_cons re_dic0 ra_nil)))))))))))
      (rss_cons (rs_set (i := 6) c.nd rfl (re_lst (ra_cons (re_tup (ra_cons (re_neg re_int) (ra_cons re_int ra_nil))) (ra_cons (re_tup (ra_cons re_int (ra_cons re_int ra_nil))) (ra_cons (re_tup (ra_cons re_int (ra_cons re_int ra_nil))) (ra_cons (re_tup (ra_cons re_int (ra_cons re_int ra_nil))) (ra_cons re_non (ra_cons re_int (ra_cons re_str (ra_cons (re_lst (ra_cons re_int (ra_cons re_int ra_nil))) (ra_cons (re_tup (ra_cons re_int (ra_cons re_bl ra_nil))) (ra_cons (re_tup (ra_cons re_bl (ra_cons re_int ra_nil))) (ra_cons (re_tup (ra_cons re_int ra_nil)) (ra_cons (re_tup (ra_cons re_int (ra_cons re_int (ra_cons re_int ra_nil)))) (ra_cons (re_tup (ra_cons (re_lst (ra_cons re_int ra_nil)) (ra_cons re_int ra_nil))) (ra_cons re_dic0 ra_nil))))))))))))))))
      (rss_cons (rs_set (i := 7) c.nd rfl (re_lst (ra_cons (re_tup (ra_cons re_int (ra_cons re_int ra_nil))) (ra_cons (re_tup (ra_cons (re_neg re_int) (ra_cons re_int ra_nil))) (ra_cons (re_tup (ra_cons re_int (ra_cons re_int ra_nil))) (ra_cons (re_tup (ra_cons re_int (ra_cons re_int ra_nil))) (ra_cons re_non (ra_cons re_int (ra_cons re_str (ra_cons (re_lst (ra_cons re_int (ra_cons re_int ra_nil))) (ra_cons (re_tup (ra_cons re_bl (ra_cons re_int ra_nil))) (ra_cons (re_tup (ra_cons re_int (ra_cons re_bl ra_nil))) (ra_cons (re_tup (ra_cons re_bl (ra_cons re_int ra_nil))) (ra_cons (re_tup (ra_cons re_int ra_nil)) (ra_cons re_dic0 ra_nil)))))))))))))))
      (rss_cons (rs_for c.po c.calm (ri_e (re_lst (ra_cons re_int (ra_cons re_int ra_nil)))) (rg_name (i := 8) c.nd rfl) (rss_one (rs_if (rt_w (rw_or (rt_cmp (om_ne c.u) (re_meth c (rv 0) (dt_Bookings_rate_at_2_ N T) (by decide) (ra_cons (rv 8) (ra_cons (rv 3) ra_nil)) rk_nil) (re_meth c (rv 0) (dt_Bookings_rate_at_2_ N T) (by decide) (ra_cons (rv 8) (ra_cons (rv 3) ra_nil)) rk_nil) (nomark _)) (rw_or1 (rt_cmp om_is (re_meth c (rv 0) (dt_Bookings_most_booked_2_ N T) (by decide) (ra_cons (rv 3) (ra_cons (rv 8) ra_nil)) rk_nil) re_non (nomark _))))) (rss_one (rs_ret re_bl)) rss_nil)))
      (rss_cons (rs_if (rt_w (rw_or (rt_cmp (om_ne c.u) (re_meth c (rv 0) (dt_Bookings_most_booked_1_ N T) (by decide) (ra_cons (re_tup (ra_cons re_int (ra_cons re_int ra_nil))) ra_nil) rk_nil) (re_meth c (rv 0) (dt_Bookings_most_booked_2_ N T) (by decide) (ra_cons (re_tup (ra_cons re_int (ra_cons re_int ra_nil))) (ra_cons re_non ra_nil)) rk_nil) (nomark _)) (rw_or1 (rt_cmp (om_eq c.u) (re_meth c (rv 0) (dt_Bookings_pieces_1_ N T) (by decide) (ra_cons (re_tup (ra_cons re_int (ra_cons re_int ra_nil))) ra_nil) rk_nil) (re_tup ra_nil) (nomark _))))) (rss_one (rs_ret re_bl)) rss_nil)
      (rss_cons (rs_for c.po c.calm (ri_e (rv 5)) (rg_name (i := 9) c.nd rfl) (rss_cons (rs_for c.po c.calm (ri_e (re_lst (ra_cons (re_tup (ra_cons (rv 3) (ra_cons (rv 4) ra_nil))) (ra_cons (re_tup (ra_cons (re_ix (rv 6) re_int) (ra_cons (re_ix (rv 7) re_int) ra_nil))) (ra_cons (re_tup (ra_cons (rv 3) (ra_cons (re_ix (rv 7) re_int) ra_nil))) ra_nil))))) (rg_tup c.calm (rgs_cons (rg_name (i := 10) c.nd rfl) (rgs_cons (rg_name (i := 11) c.nd rfl) rgs_nil))) (rss_one (rs_if (rt_cmp (om_ne c.u) (re_callH0 c (oh__law_caught N T) (by decide)  (la_lam (prm := none) (js := [0, 9, 10, 11]) (nT := 0) (p := mk__law_refusals_right.1) (q := mk__law_refusals_right.2) (kb := 6) (lamP_by (sc := defScope s__law_refusals_right) (caps := ["_law_book", "_law_odd", "_law_when", "_law_what"]) (by decide +kernel)) (show ∀ j ∈ ([0, 9, 10, 11] : List Nat), j < 14 by decide) (by decide) (show (["_law_book", "_law_odd", "_law_when", "_law_what"] : List Str).Nodup by decide +kernel) rfl (T.tb mk__law_refusals_right (by simp [tsL])) hc rfl (fun _ _ _ _ us h => match us, h with | [], _ => rfl) (fun _ _ _ _ _ _ _ c => (re_meth c (rv 0) (dt_Bookings_book_3_ N T) (by decide) (ra_cons (rv 1) (ra_cons (rv 2) (ra_cons (rv 3) ra_nil))) rk_nil))) (by decide) rfl (by decide)) (re_tup (ra_cons re_str (ra_cons re_non ra_nil))) (nomark _)) (rss_one (rs_ret re_bl)) rss_nil)))
      (rss_cons (rs_if (rt_cmp (om_ne c.u) (re_callH0 c (oh__law_caught N T) (by decide)  (la_lam (prm := none) (js := [0, 6, 9]) (nT := 0) (p := mk__law_refusals_right.1) (q := mk__law_refusals_right.2) (kb := 7) (lamP_by (sc := defScope s__law_refusals_right) (caps := ["_law_book", "_law_times", "_law_odd"]) (by decide +kernel)) (show ∀ j ∈ ([0, 6, 9] : List Nat), j < 14 by decide) (by decide) (show (["_law_book", "_law_times", "_law_odd"] : List Str).Nodup by decide +kernel) rfl (T.tb mk__law_refusals_right (by simp [tsL])) hc rfl (fun _ _ _ _ us h => match us, h with | [], _ => rfl) (fun _ _ _ _ _ _ _ c => (re_meth c (rv 0) (dt_Bookings_rate_at_2_ N T) (by decide) (ra_cons (rv 2) (ra_cons (re_ix (rv 1) re_int) ra_nil)) rk_nil))) (by decide) rfl (by decide)) (re_tup (ra_cons re_str (ra_cons re_non ra_nil))) (nomark _)) (rss_one (rs_ret re_bl)) rss_nil)
      (rss_one (rs_if (rt_w (rw_and (rt_cmp om_isnot (rv 9) re_non (nomark _)) (rw_and1 (rt_cmp (om_ne c.u) (re_callH0 c (oh__law_caught N T) (by decide)  (la_lam (prm := none) (js := [0, 3, 9]) (nT := 0) (p := mk__law_refusals_right.1) (q := mk__law_refusals_right.2) (kb := 8) (lamP_by (sc := defScope s__law_refusals_right) (caps := ["_law_book", "_law_moment_here", "_law_odd"]) (by decide +kernel)) (show ∀ j ∈ ([0, 3, 9] : List Nat), j < 14 by decide) (by decide) (show (["_law_book", "_law_moment_here", "_law_odd"] : List Str).Nodup by decide +kernel) rfl (T.tb mk__law_refusals_right (by simp [tsL])) hc rfl (fun _ _ _ _ us h => match us, h with | [], _ => rfl) (fun _ _ _ _ _ _ _ c => (re_meth c (rv 0) (dt_Bookings_most_booked_2_ N T) (by decide) (ra_cons (rv 1) (ra_cons (rv 2) ra_nil)) rk_nil))) (by decide) rfl (by decide)) (re_tup (ra_cons re_str (ra_cons re_non ra_nil))) (nomark _))))) (rss_one (rs_ret re_bl)) rss_nil)))))
      (rss_cons (rs_for c.po c.calm (ri_e (rv 6)) (rg_name (i := 9) c.nd rfl) (rss_cons (rs_if (rt_cmp (om_ne c.u) (re_callH0 c (oh__law_caught N T) (by decide)  (la_lam (prm := none) (js := [0, 2, 7, 9]) (nT := 0) (p := mk__law_refusals_right.1) (q := mk__law_refusals_right.2) (kb := 6) (lamP_by (sc := defScope s__law_refusals_right) (caps := ["_law_book", "_law_number", "_law_rates", "_law_odd"]) (by decide +kernel)) (show ∀ j ∈ ([0, 2, 7, 9] : List Nat), j < 14 by decide) (by decide) (show (["_law_book", "_law_number", "_law_rates", "_law_odd"] : List Str).Nodup by decide +kernel) rfl (T.tb mk__law_refusals_right (by simp [tsL])) hc rfl (fun _ _ _ _ us h => match us, h with | [], _ => rfl) (fun _ _ _ _ _ _ _ c => (re_meth c (rv 0) (dt_Bookings_book_3_ N T) (by decide) (ra_cons (rv 1) (ra_cons (rv 3) (ra_cons (re_ix (rv 2) re_int) ra_nil))) rk_nil))) (by decide) rfl (by decide)) (re_tup (ra_cons re_str (ra_cons re_non ra_nil))) (nomark _)) (rss_one (rs_ret re_bl)) rss_nil)
      (rss_cons (rs_if (rt_cmp (om_ne c.u) (re_callH0 c (oh__law_caught N T) (by decide)  (la_lam (prm := none) (js := [0, 2, 9]) (nT := 0) (p := mk__law_refusals_right.1) (q := mk__law_refusals_right.2) (kb := 7) (lamP_by (sc := defScope s__law_refusals_right) (caps := ["_law_book", "_law_number", "_law_odd"]) (by decide +kernel)) (show ∀ j ∈ ([0, 2, 9] : List Nat), j < 14 by decide) (by decide) (show (["_law_book", "_law_number", "_law_odd"] : List Str).Nodup by decide +kernel) rfl (T.tb mk__law_refusals_right (by simp [tsL])) hc rfl (fun _ _ _ _ us h => match us, h with | [], _ => rfl) (fun _ _ _ _ _ _ _ c => (re_meth c (rv 0) (dt_Bookings_rate_at_2_ N T) (by decide) (ra_cons (rv 1) (ra_cons (rv 2) ra_nil)) rk_nil))) (by decide) rfl (by decide)) (re_tup (ra_cons re_str (ra_cons re_non ra_nil))) (nomark _)) (rss_one (rs_ret re_bl)) rss_nil)
      (rss_cons (rs_if (rt_cmp (om_ne c.u) (re_callH0 c (oh__law_caught N T) (by decide)  (la_lam (prm := none) (js := [0, 9]) (nT := 0) (p := mk__law_refusals_right.1) (q := mk__law_refusals_right.2) (kb := 8) (lamP_by (sc := defScope s__law_refusals_right) (caps := ["_law_book", "_law_odd"]) (by decide +kernel)) (show ∀ j ∈ ([0, 9] : List Nat), j < 14 by decide) (by decide) (show (["_law_book", "_law_odd"] : List Str).Nodup by decide +kernel) rfl (T.tb mk__law_refusals_right (by simp [tsL])) hc rfl (fun _ _ _ _ us h => match us, h with | [], _ => rfl) (fun _ _ _ _ _ _ _ c => (re_meth c (rv 0) (dt_Bookings_most_booked_1_but N T) (by decide) (ra_cons (rv 1) ra_nil) (rk_cons (re_neg re_int) rk_nil)))) (by decide) rfl (by decide)) (re_tup (ra_cons re_str (ra_cons re_non ra_nil))) (nomark _)) (rss_one (rs_ret re_bl)) rss_nil)
      (rss_one (rs_if (rt_cmp (om_ne c.u) (re_callH0 c (oh__law_caught N T) (by decide)  (la_lam (prm := none) (js := [0, 9]) (nT := 0) (p := mk__law_refusals_right.1) (q := mk__law_refusals_right.2) (kb := 8) (lamP_by (sc := defScope s__law_refusals_right) (caps := ["_law_book", "_law_odd"]) (by decide +kernel)) (show ∀ j ∈ ([0, 9] : List Nat), j < 14 by decide) (by decide) (show (["_law_book", "_law_odd"] : List Str).Nodup by decide +kernel) rfl (T.tb mk__law_refusals_right (by simp [tsL])) hc rfl (fun _ _ _ _ us h => match us, h with | [], _ => rfl) (fun _ _ _ _ _ _ _ c => (re_meth c (rv 0) (dt_Bookings_pieces_1_ N T) (by decide) (ra_cons (rv 1) ra_nil) rk_nil))) (by decide) rfl (by decide)) (re_tup (ra_cons re_str (ra_cons re_non ra_nil))) (nomark _)) (rss_one (rs_ret re_bl)) rss_nil))))))
      (rss_cons (rs_for c.po c.calm (ri_e (rv 7)) (rg_name (i := 9) c.nd rfl) (rss_cons (rs_asg (re_callH0 c (oh__law_caught N T) (by decide)  (la_lam (prm := none) (js := [0, 2, 3, 9]) (nT := 0) (p := mk__law_refusals_right.1) (q := mk__law_refusals_right.2) (kb := 6) (lamP_by (sc := defScope s__law_refusals_right) (caps := ["_law_book", "_law_number", "_law_moment_here", "_law_odd"]) (by decide +kernel)) (show ∀ j ∈ ([0, 2, 3, 9] : List Nat), j < 14 by decide) (by decide) (show (["_law_book", "_law_number", "_law_moment_here", "_law_odd"] : List Str).Nodup by decide +kernel) rfl (T.tb mk__law_refusals_right (by simp [tsL])) hc rfl (fun _ _ _ _ us h => match us, h with | [], _ => rfl) (fun _ _ _ _ _ _ _ c => (re_meth c (rv 0) (dt_Bookings_book_3_ N T) (by decide) (ra_cons (rv 1) (ra_cons (rv 2) (ra_cons (rv 3) ra_nil))) rk_nil))) (by decide) rfl (by decide)) (rg_tup c.calm (rgs_cons (rg_name (i := 12) c.nd rfl) (rgs_cons (rg_name (i := 13) c.nd rfl) rgs_nil))))
      (rss_one (rs_if (rt_w (rw_or (rt_cmp (om_ne c.u) (rv 12) re_str (nomark _)) (rw_or1 (rt_cmp (om_ne c.u) (re_b (cm_reprD c.rm) rfl T.b_repr bt_repr (ra_cons (rv 13) ra_nil)) (re_b (cm_reprD c.rm) rfl T.b_repr bt_repr (ra_cons (rv 9) ra_nil)) (nomark _))))) (rss_one (rs_ret re_bl)) rss_nil))))
      (rss_one (rs_ret re_bl)))))))))))
theorem fm__law_refusals_right (N : Nat) (T : Txt K mg base) {fa : Addr} {fd : FuncData} (F : FunD K "_law_refusals_right" "_law_refusals_right" (defArgs s__law_refusals_right) (defBody s__law_refusals_right) (defScope s__law_refusals_right) [] [] fa fd) (he : fa = He.fAd K mk__law_refusals_right.1) : FnG P w K mg base 11 fa fd p__law_refusals_right (spM K mg p__law_refusals_right.length (m__law_refusals_right N)) := fk__law_refusals_right N T F he
theorem ok__law_refusals_right (N : Nat) (T : Txt K mg base) : Df P w K mg base "_law_refusals_right" p__law_refusals_right 11 (m__law_refusals_right N) := by
  obtain ⟨fa, fd, g1, F⟩ := T.f__law_refusals_right
  exact ⟨fa, fd, g1, F.kp, F.bindsN (ps := p__law_refusals_right) fun _ _ _ _ _ _ us hl => match us, hl with | [_, _], _ => rfl, fm__law_refusals_right N T F (T.fe__law_refusals_right _ g1)⟩
theorem fk_law (N : Nat) (T : Txt K mg base) {fa : Addr} {fd : FuncData} (F : FunD K "law" "law" (defArgs s_law) (defBody s_law) (defScope s_law) [] [] fa fd) : FnG P w K mg base (11 + 1) fa fd p_law (spM K mg p_law.length (fnM n_law.length (b_law N))) := by
  apply def_okD F sc_law
  intro cdv A outer s H E c
  exact (rss_cons (rs_for c.po c.calm (ri_range1 T.b_range (ra_cons (re_b (cm_max c.calm) rfl T.b_max bt_max (ra_cons re_int (ra_cons (re_b (cm_min c.calm) rfl T.b_min bt_min (ra_cons re_int (ra_cons (re_b cm_len rfl T.b_len bt_len (ra_cons (rv 0) ra_nil)) ra_nil))) ra_nil))) ra_nil)) (rg_name (i := 1) c.nd rfl) (rss_cons (rs_set (i := 2) c.nd rfl (re_call c (ok__law_pool N T) (by decide) (ra_cons (re_call c (ok__law_cell N T) (by decide) (ra_cons (rv 0) (ra_cons (rv 1) ra_nil))) ra_nil)))
      (rss_cons (rs_asg (re_call c (ok__law_filled N T) (by decide) (ra_cons (rv 2) ra_nil)) (rg_tup c.calm (rgs_cons (rg_name (i := 3) c.nd rfl) (rgs_cons (rg_name (i := 4) c.nd rfl) rgs_nil))))
      (rss_cons (rs_set (i := 5) c.nd rfl (re_tup (ra_cons (re_call c (ok__law_take N T) (by decide) (ra_cons (rv 2) (ra_cons re_int ra_nil))) (ra_cons (re_call c (ok__law_moment N T) (by decide) (ra_cons (rv 2) (ra_cons (re_tup (ra_cons re_int (ra_cons re_int ra_nil))) ra_nil))) (ra_cons (re_call c (ok__law_rate N T) (by decide) (ra_cons (rv 2) ra_nil)) ra_nil)))))
      (rss_cons (rs_if (rt_w (rw_or (rt_not (rt_eqO c (dt_Bookings___eq___1_ N T) (by decide) (rv 3) (rv 4))) (rw_or (rt_not (rt_e (re_call c (ok__law_refusals_right N T) (by decide) (ra_cons (rv 3) (ra_cons (rv 5) ra_nil))))) (rw_or (rt_not (rt_eqO c (dt_Bookings___eq___1_ N T) (by decide) (rv 3) (rv 4))) (rw_or1 (rt_neO c (dt_Bookings___eq___1_ N T) (by decide) T.ne_Bookings (rv 3) (rv 4))))))) (rss_one (rs_ret re_bl)) rss_nil)
      (rss_cons (rs_if (rt_w (rw_or (rt_cmp (om_ne c.u) (re_meth c (rv 3) (dt_Bookings_pieces_1_ N T) (by decide) (ra_cons (re_tup (ra_cons re_int (ra_cons re_int ra_nil))) ra_nil) rk_nil) (re_meth c (rv 4) (dt_Bookings_pieces_1_ N T) (by decide) (ra_cons (re_tup (ra_cons re_int (ra_cons re_int ra_nil))) ra_nil) rk_nil) (nomark _)) (rw_or1 (rt_cmp (om_ne c.u) (re_lenO c T.b_len (rv 3) (dt_Bookings___len___0_ N T) (by decide)) (re_lenO c T.b_len (rv 4) (dt_Bookings___len___0_ N T) (by decide)) (nomark _))))) (rss_one (rs_ret re_bl)) rss_nil)
      (rss_one (rs_for c.po c.calm (ri_e (re_lst (ra_cons (re_tup (ra_cons re_int (ra_cons re_int ra_nil))) (ra_cons (re_tup (ra_cons re_int (ra_cons re_int ra_nil))) (ra_cons (re_ix (rv 5) re_int) ra_nil))))) (rg_name (i := 6) c.nd rfl) (rss_cons (rs_expr (re_meth c (rv 3) (dt_Bookings_book_3_ N T) (by decide) (ra_cons re_int (ra_cons (re_tup (ra_cons re_int (ra_cons re_int ra_nil))) (ra_cons (rv 6) ra_nil))) rk_nil))
      (rss_one (rs_if (rt_w (rw_or (rt_cmp (om_ne c.u) (re_meth c (rv 3) (dt_Bookings_rate_at_2_ N T) (by decide) (ra_cons re_int (ra_cons (re_tup (ra_cons re_int (ra_cons re_int ra_nil))) ra_nil)) rk_nil) (rv 6) (nomark _)) (rw_or1 (rt_cmp (om_ne c.u) (re_meth c (rv 3) (dt_Bookings_most_booked_2_ N T) (by decide) (ra_cons (re_tup (ra_cons re_int (ra_cons re_int ra_nil))) (ra_cons re_non ra_nil)) rk_nil) (re_meth c (rv 3) (dt_Bookings_most_booked_1_ N T) (by decide) (ra_cons (re_tup (ra_cons re_int (ra_cons re_int ra_nil))) ra_nil) rk_nil) (nomark _))))) (rss_one (rs_ret re_bl)) rss_nil)))))))))))
      (rss_one (rs_ret re_bl)))
theorem fm_law (N : Nat) (T : Txt K mg base) {fa : Addr} {fd : FuncData} (F : FunD K "law" "law" (defArgs s_law) (defBody s_law) (defScope s_law) [] [] fa fd) : FnG P w K mg base 12 fa fd p_law (spM K mg p_law.length (m_law N)) := fk_law N T F
end
theorem txt_mk {K : PySem.W.Frag} {h base : Heap} {mg : Str → Option Value} (X : K.In h) (Y : h.Ns mainGlobals mg) (c : SaysX fxAll fnAll K) (B : TBs K mg base tsL) : Txt K mg base where
  tb := B
  b_ArithmeticError := free_at X Y (c.fact 0 (f := fx_0)) 0
  b_LookupError := free_at X Y (c.fact 0 (f := fx_0)) 1
  b_ValueError := free_at X Y (c.fact 0 (f := fx_0)) 2
  b_abs := free_at X Y (c.fact 0 (f := fx_0)) 3
  b_all := free_at X Y (c.fact 0 (f := fx_0)) 4
  b_bool := free_at X Y (c.fact 0 (f := fx_0)) 5
  b_divmod := free_at X Y (c.fact 0 (f := fx_0)) 6
  b_int := free_at X Y (c.fact 0 (f := fx_0)) 7
  b_isinstance := free_at X Y (c.fact 0 (f := fx_0)) 8
  b_len := free_at X Y (c.fact 0 (f := fx_0)) 9
  b_max := free_at X Y (c.fact 0 (f := fx_0)) 10
  b_min := free_at X Y (c.fact 0 (f := fx_0)) 11
  b_range := free_at X Y (c.fact 0 (f := fx_0)) 12
  b_repr := free_at X Y (c.fact 0 (f := fx_0)) 13
  b_sorted := free_at X Y (c.fact 0 (f := fx_0)) 14
  b_tuple := free_at X Y (c.fact 0 (f := fx_0)) 15
  c_NONE := ⟨_, (glo_at X Y (c.fact 2 (f := fx_2)) 6), tupX_ok (c.fact 4 (f := fx_4))⟩
  f_Bookings___eq__ := (c.def_ 0 (d := d_Bookings___eq__)).elim fun fd F => ⟨_, _, fd, (glo_at X Y (c.fact 2 (f := fx_2)) 7), (clsqB_ok (c.fact 5 (f := fx_5))).cl, mtB_ok (c.fact 6 (f := fx_6)), F⟩
  f_Bookings___len__ := (c.def_ 1 (d := d_Bookings___len__)).elim fun fd F => ⟨_, _, fd, (glo_at X Y (c.fact 2 (f := fx_2)) 7), (clsqB_ok (c.fact 7 (f := fx_7))).cl, mtB_ok (c.fact 8 (f := fx_8)), F⟩
  f_is_whole := (c.def_ 2 (d := d_is_whole)).elim fun fd F => ⟨_, fd, (glo_at X Y (c.fact 1 (f := fx_1)) 0), F⟩
  f_shared := (c.def_ 3 (d := d_shared)).elim fun fd F => ⟨_, fd, (glo_at X Y (c.fact 1 (f := fx_1)) 1), F⟩
  f_is_ratio := (c.def_ 4 (d := d_is_ratio)).elim fun fd F => ⟨_, fd, (glo_at X Y (c.fact 1 (f := fx_1)) 2), F⟩
  f_is_time := (c.def_ 5 (d := d_is_time)).elim fun fd F => ⟨_, fd, (glo_at X Y (c.fact 1 (f := fx_1)) 3), F⟩
  f_check_moment := (c.def_ 6 (d := d_check_moment)).elim fun fd F => ⟨_, fd, (glo_at X Y (c.fact 1 (f := fx_1)) 4), F⟩
  f_check_number := (c.def_ 7 (d := d_check_number)).elim fun fd F => ⟨_, fd, (glo_at X Y (c.fact 1 (f := fx_1)) 5), F⟩
  f_check_ratio := (c.def_ 8 (d := d_check_ratio)).elim fun fd F => ⟨_, fd, (glo_at X Y (c.fact 1 (f := fx_1)) 6), F⟩
  f_check_two := (c.def_ 9 (d := d_check_two)).elim fun fd F => ⟨_, fd, (glo_at X Y (c.fact 1 (f := fx_1)) 7), F⟩
  f_is_before := (c.def_ 10 (d := d_is_before)).elim fun fd F => ⟨_, fd, (glo_at X Y (c.fact 1 (f := fx_1)) 8), F⟩
  f_is_rate := (c.def_ 11 (d := d_is_rate)).elim fun fd F => ⟨_, fd, (glo_at X Y (c.fact 1 (f := fx_1)) 9), F⟩
  f_Bookings_book := (c.def_ 12 (d := d_Bookings_book)).elim fun fd F => ⟨_, _, fd, (glo_at X Y (c.fact 2 (f := fx_2)) 7), (clsqB_ok (c.fact 9 (f := fx_9))).cl, mtB_ok (c.fact 10 (f := fx_10)), F⟩
  f_Bookings_spots := (c.def_ 13 (d := d_Bookings_spots)).elim fun fd F => ⟨_, _, fd, (glo_at X Y (c.fact 2 (f := fx_2)) 7), (clsqB_ok (c.fact 11 (f := fx_11))).cl, mtB_ok (c.fact 12 (f := fx_12)), F⟩
  f_lowest := (c.def_ 14 (d := d_lowest)).elim fun fd F => ⟨_, fd, (glo_at X Y (c.fact 1 (f := fx_1)) 10), F⟩
  f_added := (c.def_ 15 (d := d_added)).elim fun fd F => ⟨_, fd, (glo_at X Y (c.fact 1 (f := fx_1)) 11), F⟩
  f_at_time := (c.def_ 16 (d := d_at_time)).elim fun fd F => ⟨_, fd, (glo_at X Y (c.fact 1 (f := fx_1)) 12), F⟩
  f_Bookings_sum_at := (c.def_ 17 (d := d_Bookings_sum_at)).elim fun fd F => ⟨_, _, fd, (glo_at X Y (c.fact 2 (f := fx_2)) 7), (clsqB_ok (c.fact 13 (f := fx_13))).cl, mtB_ok (c.fact 14 (f := fx_14)), F⟩
  f_greater := (c.def_ 18 (d := d_greater)).elim fun fd F => ⟨_, fd, (glo_at X Y (c.fact 1 (f := fx_1)) 13), F⟩
  f_Bookings_most_booked := (c.def_ 19 (d := d_Bookings_most_booked)).elim fun fd F => ⟨_, _, fd, (glo_at X Y (c.fact 2 (f := fx_2)) 7), (clsqB_ok (c.fact 15 (f := fx_15))).cl, mtB_ok (c.fact 16 (f := fx_16)), F⟩
  f_Bookings_pieces := (c.def_ 20 (d := d_Bookings_pieces)).elim fun fd F => ⟨_, _, fd, (glo_at X Y (c.fact 2 (f := fx_2)) 7), (clsqB_ok (c.fact 17 (f := fx_17))).cl, mtB_ok (c.fact 18 (f := fx_18)), F⟩
  f_Bookings_rate_at := (c.def_ 21 (d := d_Bookings_rate_at)).elim fun fd F => ⟨_, _, fd, (glo_at X Y (c.fact 2 (f := fx_2)) 7), (clsqB_ok (c.fact 19 (f := fx_19))).cl, mtB_ok (c.fact 20 (f := fx_20)), F⟩
  f__law_cell := (c.def_ 22 (d := d__law_cell)).elim fun fd F => ⟨_, fd, (glo_at X Y (c.fact 1 (f := fx_1)) 14), F⟩
  f_Bookings___init__ := (c.def_ 23 (d := d_Bookings___init__)).elim fun fd F => ⟨_, _, fd, (glo_at X Y (c.fact 2 (f := fx_2)) 7), mkB_ok (c.fact 21 (f := fx_21)), F⟩
  f__law_r := (c.def_ 24 (d := d__law_r)).elim fun fd F => ⟨_, fd, (glo_at X Y (c.fact 1 (f := fx_1)) 15), F⟩
  f__law_add := (c.def_ 25 (d := d__law_add)).elim fun fd F => ⟨_, fd, (glo_at X Y (c.fact 1 (f := fx_1)) 16), F⟩
  f__law_take := (c.def_ 26 (d := d__law_take)).elim fun fd F => ⟨_, fd, (glo_at X Y (c.fact 1 (f := fx_1)) 17), F⟩
  f__law_moment := (c.def_ 27 (d := d__law_moment)).elim fun fd F => ⟨_, fd, (glo_at X Y (c.fact 1 (f := fx_1)) 18), F⟩
  f__law_rate := (c.def_ 28 (d := d__law_rate)).elim fun fd F => ⟨_, fd, (glo_at X Y (c.fact 1 (f := fx_1)) 19), F⟩
  f__law_filled := (c.def_ 29 (d := d__law_filled)).elim fun fd F => ⟨_, fd, (glo_at X Y (c.fact 2 (f := fx_2)) 0), F⟩
  f__law_pool := (c.def_ 30 (d := d__law_pool)).elim fun fd F => ⟨_, fd, (glo_at X Y (c.fact 2 (f := fx_2)) 1), F⟩
  f__law_word := (c.def_ 31 (d := d__law_word)).elim fun fd F => ⟨_, fd, (glo_at X Y (c.fact 2 (f := fx_2)) 2), F⟩
  f__law_caught := (c.def_ 32 (d := d__law_caught)).elim fun fd F => ⟨_, fd, (glo_at X Y (c.fact 2 (f := fx_2)) 3), F⟩
  f__law_refusals_right := (c.def_ 33 (d := d__law_refusals_right)).elim fun fd F => ⟨_, fd, (glo_at X Y (c.fact 2 (f := fx_2)) 4), F⟩
  f_law := (c.def_ 34 (d := d_law)).elim fun fd F => ⟨_, fd, (glo_at X Y (c.fact 2 (f := fx_2)) 5), F⟩
  y_NoRate := (c.def_ 35 (d := d_NoRate___init__)).elim fun fd F => ⟨_, _, fd, _, (glo_at X Y (c.fact 2 (f := fx_2)) 13), xoB_ok (c.fact 22 (f := fx_22)), (iniB_ok (c.fact 23 (f := fx_23))).1, (iniB_ok (c.fact 23 (f := fx_23))).2.1, (iniB_ok (c.fact 23 (f := fx_23))).2.2, (glo_at X Y (c.fact 3 (f := fx_3)) 2), hdB_ok (c.fact 24 (f := fx_24)), F⟩
  z_name := xcf_at X Y (cs := [24]) (f := 0) (c.fact 25 (f := fx_25))
  z_rate := xcf_at X Y (cs := [6]) (f := 5) (c.fact 26 (f := fx_26))
  z_row := xcf_at X Y (cs := [4, 17]) (f := 4) (c.fact 27 (f := fx_27))
  x_Bookings := ⟨_, (glo_at X Y (c.fact 2 (f := fx_2)) 7)⟩
  x_LostError := ⟨_, (glo_at X Y (c.fact 2 (f := fx_2)) 8)⟩
  x_NoLess := ⟨_, (glo_at X Y (c.fact 2 (f := fx_2)) 9)⟩
  x_NoLog := ⟨_, (glo_at X Y (c.fact 2 (f := fx_2)) 10)⟩
  x_NoNumber := ⟨_, (glo_at X Y (c.fact 2 (f := fx_2)) 11), xcoB_ok (c.fact 28 (f := fx_28))⟩
  x_NoOne := ⟨_, (glo_at X Y (c.fact 2 (f := fx_2)) 12)⟩
  x_NoRate := ⟨_, (glo_at X Y (c.fact 2 (f := fx_2)) 13)⟩
  x_NoRatio := ⟨_, (glo_at X Y (c.fact 2 (f := fx_2)) 14), xcoB_ok (c.fact 29 (f := fx_29))⟩
  x_NoRow := ⟨_, (glo_at X Y (c.fact 2 (f := fx_2)) 15)⟩
  x_NoSize := ⟨_, (glo_at X Y (c.fact 2 (f := fx_2)) 16)⟩
  x_NoStretch := ⟨_, (glo_at X Y (c.fact 2 (f := fx_2)) 17)⟩
  x_NoText := ⟨_, (glo_at X Y (c.fact 2 (f := fx_2)) 18)⟩
  x_NoTime := ⟨_, (glo_at X Y (c.fact 2 (f := fx_2)) 19), xcoB_ok (c.fact 30 (f := fx_30))⟩
  x_NoWord := ⟨_, (glo_at X Y (c.fact 3 (f := fx_3)) 0)⟩
  x_ShareError := ⟨_, (glo_at X Y (c.fact 3 (f := fx_3)) 1)⟩
  x_TagError := ⟨_, (glo_at X Y (c.fact 3 (f := fx_3)) 2)⟩
  tb_ArithmeticError := kit_atR X Y (ns := [3, 6, 8, 9]) (D := fun _ => .type "ArithmeticError") (c.fact 31 (f := fx_31)) (c.fact 32 (f := fx_32))
  tb_LookupError := kit_atR X Y (ns := [3, 6, 8, 9]) (D := fun _ => .type "LookupError") (c.fact 31 (f := fx_31)) (c.fact 33 (f := fx_33))
  tb_NoLess := fun D hD => own_at (p := fun D => ∀ cn C q, tbR rsL 19 cn = some q → mg (cname cn) = some (.ref C) → ExcC K C ∧ PySem.W.kitOne K (.ref C) (.ref D) = some q) (glo_at X Y (c.fact 2 (f := fx_2)) 9) (kit_atR X Y (ns := [3, 6, 8, 9]) (D := fun K => .ref (He.ga K "NoLess")) (c.fact 31 (f := fx_31)) (c.fact 34 (f := fx_34))) hD
  tb_NoLog := fun D hD => own_at (p := fun D => ∀ cn C q, tbR rsL 17 cn = some q → mg (cname cn) = some (.ref C) → ExcC K C ∧ PySem.W.kitOne K (.ref C) (.ref D) = some q) (glo_at X Y (c.fact 2 (f := fx_2)) 10) (kit_atR X Y (ns := [3, 6, 8, 9]) (D := fun K => .ref (He.ga K "NoLog")) (c.fact 31 (f := fx_31)) (c.fact 35 (f := fx_35))) hD
  tb_NoNumber := fun D hD => own_at (p := fun D => ∀ cn C q, tbR rsL 8 cn = some q → mg (cname cn) = some (.ref C) → ExcC K C ∧ PySem.W.kitOne K (.ref C) (.ref D) = some q) (glo_at X Y (c.fact 2 (f := fx_2)) 11) (kit_atR X Y (ns := [3, 6, 8, 9]) (D := fun K => .ref (He.ga K "NoNumber")) (c.fact 31 (f := fx_31)) (c.fact 36 (f := fx_36))) hD
  tb_NoOne := fun D hD => own_at (p := fun D => ∀ cn C q, tbR rsL 24 cn = some q → mg (cname cn) = some (.ref C) → ExcC K C ∧ PySem.W.kitOne K (.ref C) (.ref D) = some q) (glo_at X Y (c.fact 2 (f := fx_2)) 12) (kit_atR X Y (ns := [3, 6, 8, 9]) (D := fun K => .ref (He.ga K "NoOne")) (c.fact 31 (f := fx_31)) (c.fact 37 (f := fx_37))) hD
  tb_NoRate := fun D hD => own_at (p := fun D => ∀ cn C q, tbR rsL 6 cn = some q → mg (cname cn) = some (.ref C) → ExcC K C ∧ PySem.W.kitOne K (.ref C) (.ref D) = some q) (glo_at X Y (c.fact 2 (f := fx_2)) 13) (kit_atR X Y (ns := [3, 6, 8, 9]) (D := fun K => .ref (He.ga K "NoRate")) (c.fact 31 (f := fx_31)) (c.fact 38 (f := fx_38))) hD
  tb_NoRatio := fun D hD => own_at (p := fun D => ∀ cn C q, tbR rsL 3 cn = some q → mg (cname cn) = some (.ref C) → ExcC K C ∧ PySem.W.kitOne K (.ref C) (.ref D) = some q) (glo_at X Y (c.fact 2 (f := fx_2)) 14) (kit_atR X Y (ns := [3, 6, 8, 9]) (D := fun K => .ref (He.ga K "NoRatio")) (c.fact 31 (f := fx_31)) (c.fact 39 (f := fx_39))) hD
  tb_NoRow := fun D hD => own_at (p := fun D => ∀ cn C q, tbR rsL 23 cn = some q → mg (cname cn) = some (.ref C) → ExcC K C ∧ PySem.W.kitOne K (.ref C) (.ref D) = some q) (glo_at X Y (c.fact 2 (f := fx_2)) 15) (kit_atR X Y (ns := [3, 6, 8, 9]) (D := fun K => .ref (He.ga K "NoRow")) (c.fact 31 (f := fx_31)) (c.fact 40 (f := fx_40))) hD
  tb_NoSize := fun D hD => own_at (p := fun D => ∀ cn C q, tbR rsL 11 cn = some q → mg (cname cn) = some (.ref C) → ExcC K C ∧ PySem.W.kitOne K (.ref C) (.ref D) = some q) (glo_at X Y (c.fact 2 (f := fx_2)) 16) (kit_atR X Y (ns := [3, 6, 8, 9]) (D := fun K => .ref (He.ga K "NoSize")) (c.fact 31 (f := fx_31)) (c.fact 41 (f := fx_41))) hD
  tb_NoStretch := fun D hD => own_at (p := fun D => ∀ cn C q, tbR rsL 18 cn = some q → mg (cname cn) = some (.ref C) → ExcC K C ∧ PySem.W.kitOne K (.ref C) (.ref D) = some q) (glo_at X Y (c.fact 2 (f := fx_2)) 17) (kit_atR X Y (ns := [3, 6, 8, 9]) (D := fun K => .ref (He.ga K "NoStretch")) (c.fact 31 (f := fx_31)) (c.fact 42 (f := fx_42))) hD
  tb_NoText := fun D hD => own_at (p := fun D => ∀ cn C q, tbR rsL 4 cn = some q → mg (cname cn) = some (.ref C) → ExcC K C ∧ PySem.W.kitOne K (.ref C) (.ref D) = some q) (glo_at X Y (c.fact 2 (f := fx_2)) 18) (kit_atR X Y (ns := [3, 6, 8, 9]) (D := fun K => .ref (He.ga K "NoText")) (c.fact 31 (f := fx_31)) (c.fact 43 (f := fx_43))) hD
  tb_NoTime := fun D hD => own_at (p := fun D => ∀ cn C q, tbR rsL 9 cn = some q → mg (cname cn) = some (.ref C) → ExcC K C ∧ PySem.W.kitOne K (.ref C) (.ref D) = some q) (glo_at X Y (c.fact 2 (f := fx_2)) 19) (kit_atR X Y (ns := [3, 6, 8, 9]) (D := fun K => .ref (He.ga K "NoTime")) (c.fact 31 (f := fx_31)) (c.fact 44 (f := fx_44))) hD
  tb_NoWord := fun D hD => own_at (p := fun D => ∀ cn C q, tbR rsL 22 cn = some q → mg (cname cn) = some (.ref C) → ExcC K C ∧ PySem.W.kitOne K (.ref C) (.ref D) = some q) (glo_at X Y (c.fact 3 (f := fx_3)) 0) (kit_atR X Y (ns := [3, 6, 8, 9]) (D := fun K => .ref (He.ga K "NoWord")) (c.fact 31 (f := fx_31)) (c.fact 45 (f := fx_45))) hD
  tb_ShareError := fun D hD => own_at (p := fun D => ∀ cn C q, tbR rsL 2 cn = some q → mg (cname cn) = some (.ref C) → ExcC K C ∧ PySem.W.kitOne K (.ref C) (.ref D) = some q) (glo_at X Y (c.fact 3 (f := fx_3)) 1) (kit_atR X Y (ns := [3, 6, 8, 9]) (D := fun K => .ref (He.ga K "ShareError")) (c.fact 31 (f := fx_31)) (c.fact 46 (f := fx_46))) hD
  tb_ValueError := kit_atR X Y (ns := [3, 6, 8, 9]) (D := fun _ => .type "ValueError") (c.fact 31 (f := fx_31)) (c.fact 47 (f := fx_47))
  tx_LostError := fun D hD => own_at (p := fun D => ∀ cn C q, tbR rsL 1 cn = some q → mg (cname cn) = some (.ref C) → PySem.W.exmOne K (.ref C) (.ref D) = some q) (glo_at X Y (c.fact 2 (f := fx_2)) 8) (exm_atR X Y (ns := [3, 6, 8, 9]) (c.fact 31 (f := fx_31)) (c.fact 48 (f := fx_48))) hD
  tx_ShareError := fun D hD => own_at (p := fun D => ∀ cn C q, tbR rsL 2 cn = some q → mg (cname cn) = some (.ref C) → PySem.W.exmOne K (.ref C) (.ref D) = some q) (glo_at X Y (c.fact 3 (f := fx_3)) 1) (exm_atR X Y (ns := [3, 6, 8, 9]) (c.fact 31 (f := fx_31)) (c.fact 49 (f := fx_49))) hD
  tx_TagError := fun D hD => own_at (p := fun D => ∀ cn C q, tbR rsL 0 cn = some q → mg (cname cn) = some (.ref C) → PySem.W.exmOne K (.ref C) (.ref D) = some q) (glo_at X Y (c.fact 3 (f := fx_3)) 2) (exm_atR X Y (ns := [3, 6, 8, 9]) (c.fact 31 (f := fx_31)) (c.fact 50 (f := fx_50))) hD
  io_Bookings := fun D hD => own_at (p := fun D => Iso K mg 34 D) (glo_at X Y (c.fact 2 (f := fx_2)) 7) (iso_at X Y (ns := [34]) (as := [33, 35, 36, 37, 38, 39, 40, 41, 42, 43, 44, 45, 46]) (cn := 34) (c.fact 51 (f := fx_51)) (c.fact 52 (f := fx_52)) (by decide +kernel) (c.fact 53 (f := fx_53))) hD
  a_lines := clf_at X Y (ns := [34]) (as := [33, 35, 36, 37, 38, 39, 40, 41, 42, 43, 44, 45, 46]) (cs := [34, 45]) (f := 9) (c.fact 51 (f := fx_51)) (c.fact 52 (f := fx_52)) (by decide +kernel) (c.fact 54 (f := fx_54)) (by decide +kernel)
  ne_Bookings := fun D hD => own_at (p := NeK K) (glo_at X Y (c.fact 2 (f := fx_2)) 7) (neKB_ok (c.fact 55 (f := fx_55))) hD
  fe__law_refusals_right := fun f hf => by cases (glo_at X Y (c.fact 2 (f := fx_2)) 4).symm.trans hf; rfl
theorem all_mk {l : PySem.W.OpenLaw} {w : World} {K : PySem.W.Frag} {mg : Str → Option Value} {fa : Addr} {h : Heap} (plain : ∀ ns : List Int, ns.length ≤ 63 → ∃ N S, m_law N [.scr (ns.map .int)] (st0 tsL) = .ok (.bl true) S) (hfa : mg "law" = some (.ref fa)) (X : K.In h) (Y : h.Ns mainGlobals mg) (c : SaysX fxAll fnAll K) :
    ∃ fd : FuncData, (∀ (s : Shared) (v : Value), BindsTo s fd ⟨[v], []⟩ [("_law_script", v)]) ∧ ∀ base : Heap, K.In base → base.Ns mainGlobals mg → TBs K mg base tsL → FnG l.prog w K mg base 12 fa fd ["_law_script"] (spLawT K tsL) := by
  obtain ⟨fd, F⟩ := c.def_ 34 (d := d_law)
  cases hfa.symm.trans (glo_at X Y (c.fact 2 (f := fx_2)) 5)
  refine ⟨fd, ?_, fun base _ _ B => law_okT (of_decide_eq_true (c.fact 56 (f := fx_56))) (fun N => fm_law N (txt_mk X Y c B) F) plain⟩
  obtain ⟨oc, od, dV, kV, doc, pm, an, cdv, ct, osl, rfl, lk, hcd, hdv, _⟩ := F.ex
  rcases hdv with ⟨_, rfl⟩ | ⟨hn, _⟩
  · exact fun s v => .of_eq rfl
  · exact absurd rfl hn
end
end Wk10
local macro_rules | `(tactic| wp_walk using $ts,*) => (let es := ts.getElems; let k := (es[0]!).raw.getId; let all : Array Lean.Name := #[`G.wr_ok, `G.wr_exc, `G.wr_lf, `G.wr_eC, `G.evQ_some, `G.wr_eVar, `G.cB2_s, `G.cB1_s, `G.wr_eBin, `G.cS2_s, `G.cS1_s, `G.wr_eBinS, `G.asQ_bl, `G.wr_tB, `G.truQ_s, `G.wr_tT, `G.notQ_s, `G.wr_tNt, `G.anQ_t, `G.anQ_f, `G.wr_tAn, `G.orQ_t, `G.orQ_f, `G.wr_tOr, `G.eaB_t, `G.eaB_f, `G.eaQ_s, `G.wr_eAn, `G.eoB_t, `G.eoB_f, `G.eoQ_s, `G.wr_eOr, `G.enB_s, `G.enQ_s, `G.wr_eNt, `G.eiQ_t, `G.eiQ_f, `G.wr_eIf, `G.negQ_int, `G.wr_eNeg, `G.wr_aNil, `G.cC2_s, `G.cC1_s, `G.wr_aCons, `G.tupQ_s, `G.lstQ_s, `G.newQ_s, `G.wr_eTup, `G.wr_eLst, `G.wr_eNew, `G.caQ_s, `G.wr_eCa, `G.clQ_s, `G.wr_eCall, `G.nAQ_s, `G.wr_nA, `G.tyQ_s, `G.wr_eIsTy, `G.icQ_s, `G.wr_eIsC, `G.mt2_s, `G.mt1_s, `G.wr_eMt, `G.wr_oNone, `G.oQ_int, `G.wr_oSome, `G.sl3_s, `G.sl2_s, `G.sl1_s, `G.wr_eSl, `G.kk2_s, `G.kk1_s, `G.wr_eCallK, `G.kk0_s, `G.wr_eCallK0, `G.wr_gN, `G.sb3_s, `G.sb2_s, `G.sb1_s, `G.wr_gSb, `G.wr_gsNil, `G.gs1_s, `G.wr_gsCons, `G.wr_gTp, `G.wr_gTp_rD, `G.xe_s, `G.sq_nx, `G.sq_rt, `G.sq_bk, `G.sq_ct, `G.sq_ex, `G.sq_xe, `G.ws_nxt, `G.ws_sNop, `G.ws_sSeq, `G.ws_sBrk, `G.ws_sCnt, `G.dropQ_s, `G.ws_sDrop, `G.ws_sRet, `G.ws_sRetN, `G.ifQ_t, `G.ifQ_f, `G.ws_sIf, `G.asg1_s, `G.ws_sAsg, `G.setQ_s, `G.ws_sSet, `G.parQ_s, `G.ws_sPar, `G.ws_sRaise, `G.fn_nx, `G.fn_rt, `G.fn_ex, `G.fn_xe, `G.su_nx, `G.su_bk, `G.su_ct, `G.su_rt, `G.trQ_t, `G.trQ_f, `G.tr_nx, `G.tr_rt, `G.tr_bk, `G.tr_ct, `G.tr_ex, `G.ws_sTry, `G.forQ_s, `G.ws_sFor, `G.lp_nx, `G.lp_rt, `G.lp_bk, `G.lp_ct, `G.lp_ex, `G.lp_xe, `G.ws_fi_nil, `G.bodyQ_s, `G.mid_nx, `G.mid_rt, `G.mid_bk, `G.mid_ct, `G.mid_ex, `G.mid_xe, `G.lc2_s, `G.lc1_s, `G.wr_eLc, `G.lcn2_s, `G.lcn1_s, `G.wr_eLcN, `G.wipe_nil, `G.wipe_cons, `G.wr_tTrue, `G.wr_lc_nil, `G.tgQ_some, `G.ly_s, `G.lt1_t, `G.lt1_f, `G.lg_s, `G.eqQ_s, `G.exQ_s, `G.seqQ_tup, `G.seqQ_lst, `G.seqQ_scr, `G.seqQ_rD, `G.wr_iSeq, `G.rgQ_int, `G.wr_iRg1, `G.rgQ2_int, `G.wr_iRg2, `G.ch3_t, `G.ch3_f, `G.ch2_s, `G.ch1_s, `G.wr_eChain, `G.flQ_s, `G.wr_eFld, `G.fldD_ins, `G.stQ_s, `G.sf2_s, `G.sf1_s, `G.ws_sFldM, `G.mkQ2_s, `G.mkQ1_s, `G.wr_eMk, `G.wr_eMk0, `G.ap2_s, `G.ap1_s, `G.wr_eApp, `G.zpQ_s, `G.wr_iZip, `G.zipR_tup, `G.zipR_lst, `G.srQ_s, `G.wr_iStrM, `G.strR_s, `G.ioQ_s, `G.wr_eIsO, `G.dAddS_int, `G.wr_gStr_tup, `G.wr_gStr_lst, `G.fTuple_lst, `G.fTuple_tup, `List.take_succ_cons, `List.take_zero, `List.drop_succ_cons, `List.drop_zero, `List.getElem?_cons_zero, `List.getElem?_cons_succ, `List.set_cons_zero, `List.set_cons_succ, `List.map_cons, `List.map_nil, `List.length_cons, `List.length_nil, `List.cons_append, `List.nil_append, `List.replicate_succ, `List.replicate_zero, `List.append_nil, `true_and, `and_true, `and_self, `if_true, `ite_true, `if_false, `ite_false, `Bool.false_eq_true, `Bool.not_true, `Bool.not_false, `Bool.not_not, `decide_true, `decide_false, `decide_eq_true_eq, `not_false_eq_true, `not_true_eq_false, `reduceCtorEq, `PySem.sizeLine_eq, `Option.map_some, `Option.some.injEq, `Nat.reduceSub, `Nat.reduceAdd, `Nat.reduceLeDiff, `Nat.reduceEqDiff, `Nat.zero_add, `Nat.reduceBEq, `List.contains_cons, `List.contains_nil, `beq_self_eq_true, `Bool.true_or, `Bool.or_true, `Bool.false_or, `Bool.or_false, `List.lookup_cons, `List.lookup_nil, `Int.reduceEq, `Int.reduceNe, `Int.reduceLT, `Int.reduceLE, `Int.reduceNeg, `Int.reduceAdd, `Int.reduceSub, `Int.cast_ofNat_Int, `ne_eq, `G.cmpI_s, `G.dGt, `G.dGe, `G.dLt, `G.dLe, `G.dAdd_int, `G.dSub_int, `G.dEq_int, `G.dNe_int, `G.dEq_bl, `G.dNe_bl, `G.truD_bl, `G.isTy_int, `G.isTy_bl, `G.isTy_tup, `G.fLen_tup, `G.fLen_scr, `G.fLen_lst, `G.fAbs_int, `G.fMax_int, `G.fMin_int, `G.ixD_tup, `G.ixD_lst, `G.ixD_scr, `G.isTy_rD, `G.fLen_rD, `G.ix_rD0, `G.ix_rD1, `G.dEq_rD, `G.dNe_rD, `G.dIs_rD, `G.dIsNot_rD, `G.Tn.is, `G.me3_s, `G.me2_s, `G.me1_s, `G.wr_eMeth, `G.mk2_s, `G.mk1_s, `G.wr_eMethK, `G.m01_s, `G.wr_eMeth0, `G.wr_eNewD, `G.dg3_s, `G.dg2_s, `G.dg1_s, `G.wr_eDGet2, `G.dh2_s, `G.dh1_s, `G.wr_eDGet1, `G.dp3_s, `G.dp2_s, `G.dp1_s, `G.wr_eDPop2, `G.dq2_s, `G.dq1_s, `G.wr_eDPop1, `G.se2_s, `G.se1_s, `G.wr_gSbE, `G.ssQ_s, `G.wr_eSortSet, `G.an2_s, `G.an1_s, `G.wr_eAddN, `G.celQ_tup, `G.celQ_lst, `G.celQ_scr, `G.wr_iCel, `G.forcQ_s, `G.ws_sForC, `G.lcc1_s, `G.wr_eLcC, `G.lcd1_s, `G.wr_eLcCN, `G.keyD_int, `G.keyD_str, `Option.isSome_some, `G.fmQ_s, `G.wr_eFmt, `G.jsQ_str, `G.wr_js_nil, `G.wr_js_cons, `G.wr_eJs, `G.s4Q_str, `G.soQ_s, `G.wr_eStrO, `G.dAddE_0, `G.wr_eCallV, `G.chQ_s, `G.wr_eCallH, `G.wr_lamF, `G.oj_s, `G.enuQ_s, `G.wr_iEnum, `G.enR_tup, `G.enR_lst, `G.lrQ_int, `G.wr_eLr, `G.lrnQ_int, `G.wr_eLrN, `G.agQ_s, `G.auP_s, `G.ws_sAug, `G.augR_int, `G.pp2_s, `G.pp1_s, `G.wr_ePop, `G.wr_gSq_tup, `G.wr_gSq_lst, `G.lnQ_lst, `G.lnQ_tup, `G.wr_eListN, `G.rvQ_lst, `G.wr_eRev, `G.rfQ_s, `G.ws_sRaiseF, `G.trG_nx, `G.trG_rt, `G.trG_bk, `G.trG_ct, `G.trG_ex, `G.ws_sTryG, `G.ws_hd_nil, `G.hdP_t, `G.hdP_f, `G.ws_hd_cons, `G.setO_some, `G.setO_none, `G.ws_suS, `G.suN_nx, `G.suN_rt, `G.suN_bk, `G.suN_ct, `G.ws_suN, `G.iyQ_s, `G.wr_eIsY, `G.isY_exc, `G.fyQ_s, `G.wr_eFldY, `G.fldY_exc, `G.toQ_s, `G.wr_eIsTyO, `G.isTyO_tup, `G.isTyO_lst, `G.isTyO_int, `G.tm2_s, `G.tm1_s, `G.wr_eTm, `G.rgQN_int, `G.wr_iRgN, `G.gf1_s, `G.wr_gFl, `G.as3_s, `G.as2_s, `G.as1_s, `G.ws_sAsg3, `G.at1_s, `G.ws_sAsg2, `G.ws_sFldA, `G.ds3_s, `G.ds2_s, `G.ds1_s, `G.wr_eDSetd, `G.dispQ_s, `G.wr_eDisp, `G.rm2_s, `G.rm1_s, `G.wr_eRem, `G.parQ3_s, `G.ws_sPar3, `G.th_nx, `G.th_rt, `G.th_xe, `G.wr_iDv, `G.wr_iDi, `G.wr_iDk, `G.wr_iTk, `G.wr_eTs1, `G.tu2_s, `G.tu1_s, `G.wr_eTsU, `G.dct1_s, `G.dcQ_s, `G.wr_eDcT, `G.dt1_t, `G.dt1_f, `G.dgg_s, `G.eqOb_t, `G.eqOb_f, `G.eqO2_s, `G.eqO1_s, `G.wr_eEqO, `G.in2_s, `G.in1_s, `G.wr_eIns, `G.wr_eTabIx, `G.txQ_str, `G.wr_eTabIn, `G.tiQ_t, `G.tiQ_f, `G.ws_sTabCall, `G.tcQ_str, `G.tc1_s, `G.tc2_s, `G.sn3_s, `G.sn2_s, `G.sn1_s, `G.wr_eSlN, `G.zmQ_s, `G.wr_iZipM, `G.zipRM_s, `G.ex2_s, `G.ex1_s, `G.wr_eEqX, `G.cnQ_s, `G.wr_eCallN, `G.ku2_s, `G.ku1_s, `G.wr_eDkU, `G.wr_eNx, `G.sa3_s, `G.sa2_s, `G.sa1_s, `G.wr_eSlA]; let cut : Nat := if k == `zstop || k == `zust then 1 else if k == `zstf then 2 else if k == `zstq then 3 else 0; let sel := all.filter fun n => !((cut == 1 && n == `G.ws_sIf) || (cut == 2 && (n == `G.ws_sIf || n == `G.ws_sFor || n == `G.ws_sForC)) || (cut == 3 && n.getString!.startsWith "ws_")); let ids : Lean.TSyntaxArray `term := sel.map fun n => ⟨(Lean.mkIdent n).raw⟩; let r1 : Lean.TSyntaxArray `term := ids ++ es.extract 1 es.size; let r2 : Lean.TSyntaxArray `term := ids ++ es.extract 2 es.size; let r0 : Lean.TSyntaxArray `term := ids ++ es; if k == `zust || k == `zuse then `(tactic| (have hq0 := $(es[1]!); simp only [$[$r2:term],*] at hq0; exact hq0)) else if cut == 0 then `(tactic| try simp only [$[$r0:term],*]) else `(tactic| try simp only [$[$r1:term],*]))
namespace Wk10
open PySem G C
def shT : D → Option Tn
  | .non => some .non
  | .bl _ => some .bool
  | .int _ => some .int
  | .str _ => some .str
  | .tup _ => some .tuple
  | .lst _ => some .list
  | .dic _ _ => some .dict
  | _ => none
def ratB : D → Bool
  | .tup [.int a, .int b] => decide (0 < b) && decide (gI a b = 1)
  | _ => false
theorem ratB_len {l : List D} (h : l.length ≠ 2) : ratB (.tup l) = false := by
  unfold ratB
  split
  · rename_i a b e
    cases e
    exact absurd rfl h
  · rfl
structure Th (d : D) : Prop where
  sh : (shT d).isSome = true
  pr : ∀ x y, d = .tup [x, y] → (shT x).isSome = true ∧ (shT y).isSome = true
  bt : ∀ a b, d = .tup [.int a, .int b] → a.natAbs < 2 ^ 250 ∧ b.natAbs < 2 ^ 250
theorem b49 : 2 ^ 250 < 2 ^ 9000 := Nat.pow_lt_pow_right (by omega) (by omega)
theorem rat_th {N : Nat} (hN : big N) {d : D} (h : Th d) (S : Store) : C.m_is_ratio N [d] S = .ok (.bl (ratB d)) S := by
  have hs := h.sh
  match d, h with
  | .non, _ => rfl
  | .bl _, _ => rfl
  | .int _, _ => rfl
  | .str _, _ => rfl
  | .lst _, _ => rfl
  | .dic _ _, _ => rfl
  | .tup [], _ => rfl
  | .tup [x], _ => rw [ratB_len (l := [x]) (by simp)]; rfl
  | .tup (x :: y :: z :: l), _ =>
    have e : dNe (.int ((l.length + 1 + 1 + 1 : Nat) : Int)) (.int 2) = some (.bl true) := by
      rw [dNe_int, decide_eq_false (by omega)]; rfl
    have ty : isTy S .tuple (.tup (x :: y :: z :: l)) = some true := rfl
    apply eq_of_w
    rw [m_is_ratio, wr_fnM, b_is_ratio]
    wp_walk using e, ty, List.length_cons
    rw [ratB_len (by simp)]
  | .tup [x, y], h =>
    obtain ⟨hx, hy⟩ := h.pr x y rfl
    cases x with
    | int a =>
      cases y with
      | int b => exact isr_pair N a b S (Nat.lt_of_lt_of_le (h.bt a b rfl).2 (Nat.le_trans (Nat.le_of_lt b49) hN))
      | non => rfl
      | bl _ => rfl
      | str _ => rfl
      | tup _ => rfl
      | lst _ => rfl
      | dic _ _ => rfl
      | _ => cases hy
    | non => cases y <;> first | rfl | (cases hy)
    | bl _ => cases y <;> first | rfl | (cases hy)
    | str _ => cases y <;> first | rfl | (cases hy)
    | tup _ => cases y <;> first | rfl | (cases hy)
    | lst _ => cases y <;> first | rfl | (cases hy)
    | dic _ _ => cases y <;> first | rfl | (cases hy)
    | _ => cases hx
  | .scr _, _ => cases hs
  | .loc _, _ => cases hs
  | .exc _ _, _ => cases hs
  | .ins _ _, _ => cases hs
  | .fa _, _ => cases hs
  | .pin _ _, _ => cases hs
abbrev numsO : List D := [.int (-1), .bl true, .bl false, .non, .str "0", .str "a", .tup [.int 0], .lst [.int 0], .dic [] []]
theorem num_bad {d : D} (hd : d ∈ numsO) (N : Nat) (S : Store) : C.m_check_number N [d] S = .exc (.exc 8 []) S := by
  simp only [numsO, List.mem_cons, List.not_mem_nil, or_false] at hd
  rcases hd with rfl | rfl | rfl | rfl | rfl | rfl | rfl | rfl | rfl <;> rfl
abbrev timesO : List D := [.tup [.int (-1), .int 2], .tup [.int 2, .int 4], .tup [.int 1, .int 0], .tup [.int 0, .int 2], .non, .int 0, .str "0", .lst [.int 0, .int 1], .tup [.int 0, .bl true], .tup [.bl true, .int 1], .tup [.int 0], .tup [.int 0, .int 1, .int 1], .tup [.lst [.int 0], .int 1], .dic [] []]
abbrev ratesO : List D := [.tup [.int 3, .int 2], .tup [.int (-1), .int 2], .tup [.int 2, .int 4], .tup [.int 1, .int 0], .non, .int 1, .str "1", .lst [.int 1, .int 2], .tup [.bl true, .int 1], .tup [.int 1, .bl true], .tup [.bl false, .int 1], .tup [.int 0], .dic [] []]
theorem th_odd {d : D} (hd : d ∈ timesO ++ ratesO) : Th d := by
  simp only [timesO, ratesO, List.cons_append, List.nil_append, List.mem_cons, List.not_mem_nil, or_false] at hd
  rcases hd with rfl | rfl | rfl | rfl | rfl | rfl | rfl | rfl | rfl | rfl | rfl | rfl | rfl | rfl | rfl | rfl | rfl | rfl | rfl | rfl | rfl | rfl | rfl | rfl | rfl | rfl | rfl
  all_goals
    refine ⟨rfl, ?_, ?_⟩
    · intro x y e
      first
        | cases e
        | (injection e with e; first | cases e | skip)
      all_goals exact ⟨rfl, rfl⟩
    · intro a b e
      first
        | cases e
        | (injection e with e; first | cases e | skip)
      all_goals (constructor <;> decide +kernel)
theorem time_bad {d : D} (hd : d ∈ timesO) {N : Nat} (hN : big N) (S : Store) : m_is_time N [d] S = .ok (.bl false) S := by
  have th := th_odd (List.mem_append_left ratesO hd)
  have e := rat_th hN th S
  by_cases z : d = .tup [.int (-1), .int 2]
  · subst z
    have z1 : D.tup [.int (-1), .int 2] = rD (Rat.divInt (-1) 2) := rfl
    have b1 : Bt (Rat.divInt (-1) 2) 2 := by constructor <;> decide
    rw [z1, time_ok hN b1 (by omega)]
    rfl
  · have f : ratB d = false := by
      simp only [timesO, List.mem_cons, List.not_mem_nil, or_false] at hd
      rcases hd with rfl | rfl | rfl | rfl | rfl | rfl | rfl | rfl | rfl | rfl | rfl | rfl | rfl | rfl
      · exact absurd rfl z
      all_goals decide +kernel
    rw [f] at e
    apply eq_of_w
    rw [m_is_time, wr_fnM, b_is_time]
    wp_walk using e
end Wk10
namespace Wk10
open PySem G C
theorem exc_of_w {S : Store} {x : D} {r : Res D} (h : Wr r (fun _ _ => False) (fun e S' => e = x ∧ S' = S)) : r = .exc x S := by
  cases r with
  | ok d S' => exact False.elim h
  | exc e S' => obtain ⟨rfl, rfl⟩ := (show e = x ∧ S' = S from h); rfl
  | stuck => exact False.elim h
theorem rate_bad {d : D} (hd : d ∈ ratesO) {N : Nat} (hN : big N) (S : Store) : m_is_rate N [d] S = .ok (.bl false) S := by
  have th := th_odd (List.mem_append_right timesO hd)
  have e := rat_th hN th S
  simp only [ratesO, List.mem_cons, List.not_mem_nil, or_false] at hd
  by_cases f : ratB d = false
  · rw [f] at e
    apply eq_of_w
    rw [m_is_rate, wr_fnM, b_is_rate]
    wp_walk using e
  · rcases hd with rfl | rfl | rfl | rfl | rfl | rfl | rfl | rfl | rfl | rfl | rfl | rfl | rfl
    · have z1 : D.tup [.int 3, .int 2] = rD (Rat.divInt 3 2) := rfl
      have b1 : Bt (Rat.divInt 3 2) 2 := by constructor <;> decide
      rw [z1, rate_ok hN b1 (by omega)]
      rfl
    · have z1 : D.tup [.int (-1), .int 2] = rD (Rat.divInt (-1) 2) := rfl
      have b1 : Bt (Rat.divInt (-1) 2) 2 := by constructor <;> decide
      rw [z1, rate_ok hN b1 (by omega)]
      rfl
    all_goals exact absurd (by decide +kernel) f
theorem false1 {N : Nat} (hN : big N) (S : Store) : m_is_time N [.tup [.bl false, .int 1]] S = .ok (.bl false) S := by
  have e := rat_th hN (th_odd (List.mem_append_right timesO (show D.tup [.bl false, .int 1] ∈ ratesO by simp [ratesO]))) S
  have f : ratB (.tup [.bl false, .int 1]) = false := by decide +kernel
  rw [f] at e
  apply eq_of_w
  rw [m_is_time, wr_fnM, b_is_time]
  wp_walk using e
theorem ne_str : dNeW (.str "1") (.tup [.int 0, .int 1]) = some (.bl true) := by
  have e : eqP (.str "1") (.tup [.int 0, .int 1]) = some false := by
    unfold eqP
    rw [show D.toP (.str "1") = some (.str "1") from rfl, show D.toP (.tup [.int 0, .int 1]) = some (.tuple [.int 0, .int 1]) from rfl]
    dsimp only
    rw [if_pos (by decide +kernel)]
    rfl
  have e2 : eqD (.str "1") (.tup [.int 0, .int 1]) = eqP (.str "1") (.tup [.int 0, .int 1]) := rfl
  have e3 : dNeW (.str "1") (.tup [.int 0, .int 1]) = dNe (.str "1") (.tup [.int 0, .int 1]) := rfl
  rw [e3]
  unfold dNe
  rw [e2, e]; rfl
theorem ne_odd {d : D} (hd : d ∈ ratesO) : dNeW d (.tup [.int 0, .int 1]) = some (.bl true) ∨ d = .tup [.bl false, .int 1] ∧ dNeW d (.tup [.int 0, .int 1]) = some (.bl false) := by
  simp only [ratesO, List.mem_cons, List.not_mem_nil, or_false] at hd
  rcases hd with rfl | rfl | rfl | rfl | rfl | rfl | rfl | rfl | rfl | rfl | rfl | rfl | rfl
  all_goals first
    | exact .inl (by decide +kernel)
    | exact .inl rfl
    | exact .inr ⟨rfl, rfl⟩
    | exact .inl ne_str
theorem book_num {d : D} (hd : d ∈ numsO) (N : Nat) (b w x : D) (S : Store) : m_Bookings_book N [b, d, w, x] S = .exc (.exc 8 []) S := by
  apply exc_of_w
  rw [m_Bookings_book, wr_fnM, b_Bookings_book]
  wp_walk using num_bad hd N S
theorem book_time {d : D} (hd : d ∈ timesO) {N : Nat} (hN : big N) {i : Int} (h0 : 0 ≤ i) (b x : D) (S : Store) : m_Bookings_book N [b, .int i, d, x] S = .exc (.exc 9 []) S := by
  have e : m_check_time N [d] S = .exc (.exc 9 []) S := by
    apply exc_of_w
    rw [m_check_time, wr_fnM, b_check_time]
    wp_walk using time_bad hd hN S
  apply exc_of_w
  rw [m_Bookings_book, wr_fnM, b_Bookings_book]
  wp_walk using number_ok N h0, e
theorem book_rate {d : D} (hd : d ∈ ratesO) {N : Nat} (hN : big N) {i : Int} (h0 : 0 ≤ i) {t : Rat} {m : Nat} (bt : Bt t m) (hm : m ≤ 4000) (t0 : 0 ≤ t) (b : D) (S : Store) : m_Bookings_book N [b, .int i, rD t, d] S = .exc (.exc 6 [(5, d)]) S := by
  apply exc_of_w
  rw [m_Bookings_book, wr_fnM, b_Bookings_book]
  rcases ne_odd hd with e | ⟨rfl, e⟩
  · wp_walk using number_ok N h0, ctime_ok (S := S) hN bt (by omega) t0, e, rate_bad hd hN S
  · wp_walk using number_ok N h0, ctime_ok (S := S) hN bt (by omega) t0, e, false1 hN S
theorem at_num {d : D} (hd : d ∈ numsO) (N : Nat) (b w : D) (S : Store) : C.m_Bookings_rate_at N [b, d, w] S = .exc (.exc 8 []) S := by
  apply exc_of_w
  rw [m_Bookings_rate_at, wr_fnM, b_Bookings_rate_at]
  wp_walk using num_bad hd N S
theorem ctime_bad {d : D} (hd : d ∈ timesO) {N : Nat} (hN : big N) (S : Store) : m_check_time N [d] S = .exc (.exc 9 []) S := by
  apply exc_of_w
  rw [m_check_time, wr_fnM, b_check_time]
  wp_walk using time_bad hd hN S
theorem at_time {d : D} (hd : d ∈ timesO) {N : Nat} (hN : big N) {i : Int} (h0 : 0 ≤ i) (b : D) (S : Store) : C.m_Bookings_rate_at N [b, .int i, d] S = .exc (.exc 9 []) S := by
  apply exc_of_w
  rw [m_Bookings_rate_at, wr_fnM, b_Bookings_rate_at]
  wp_walk using number_ok N h0, ctime_bad hd hN S
theorem most_num {d : D} (hd : d ∈ numsO) (hn : d ≠ .non) {N : Nat} (hN : big N) {t : Rat} {m : Nat} (bt : Bt t m) (hm : m ≤ 4000) (t0 : 0 ≤ t) (b : D) (S : Store) : C.m_Bookings_most_booked N [b, rD t, d] S = .exc (.exc 8 []) S := by
  have e : dIsNot d .non = some (.bl true) := by
    simp only [numsO, List.mem_cons, List.not_mem_nil, or_false] at hd
    rcases hd with rfl | rfl | rfl | rfl | rfl | rfl | rfl | rfl | rfl
    all_goals first | rfl | exact absurd rfl hn
  apply exc_of_w
  rw [m_Bookings_most_booked, wr_fnM, b_Bookings_most_booked]
  wp_walk using ctime_ok (S := S) hN bt (by omega) t0, e, num_bad hd N S
theorem most_time {d : D} (hd : d ∈ timesO) {N : Nat} (hN : big N) (b x : D) (S : Store) : C.m_Bookings_most_booked N [b, d, x] S = .exc (.exc 9 []) S := by
  apply exc_of_w
  rw [m_Bookings_most_booked, wr_fnM, b_Bookings_most_booked]
  wp_walk using ctime_bad hd hN S
theorem pieces_time {d : D} (hd : d ∈ timesO) {N : Nat} (hN : big N) (b : D) (S : Store) : C.m_Bookings_pieces N [b, d] S = .exc (.exc 9 []) S := by
  apply exc_of_w
  rw [m_Bookings_pieces, wr_fnM, b_Bookings_pieces]
  wp_walk using ctime_bad hd hN S
theorem word8 (N : Nat) (S : Store) : m__law_word N [.exc 8 []] S = .ok (.str "number") S := rfl
theorem word9 (N : Nat) (S : Store) : m__law_word N [.exc 9 []] S = .ok (.str "time") S := rfl
theorem word6 (N : Nat) (x : D) (S : Store) : m__law_word N [.exc 6 [(5, x)]] S = .ok (.str "rate") S := rfl
theorem noF_of {f : FM} {ds : List D} {S : Store} {d : D} (h : f ds S = .ok d S) : noF f ds S = .ok d S := by unfold noF; rw [h]; rfl
theorem sn_r : dEq (.str "number") (.str "rate") = some (.bl false) := rfl
theorem sn_l : dEq (.str "number") (.str "log") = some (.bl false) := rfl
theorem sn_o : dEq (.str "number") (.str "one") = some (.bl false) := rfl
theorem st_r : dEq (.str "time") (.str "rate") = some (.bl false) := rfl
theorem st_l : dEq (.str "time") (.str "log") = some (.bl false) := rfl
theorem st_o : dEq (.str "time") (.str "one") = some (.bl false) := rfl
theorem sr_r : dEq (.str "rate") (.str "rate") = some (.bl true) := rfl
theorem caught8 {N fv : Nat} {cp : List (Option D)} {fk : FM} {S : Store} (h : fk [] S = .exc (.exc 8 []) S) : m__law_caught fv cp fk N [.fa fv] S = .ok (.tup [.str "number", .non]) S := by
  have t : tbAny [tbR rsL 1, tbR rsL 2, tbR rsL 0] 8 = some true := by decide
  apply eq_of_w
  rw [m__law_caught, wr_fnH, b__law_caught]
  wp_walk using h, t, noF_of (word8 N S), sn_r, sn_l, sn_o
theorem caught9 {N fv : Nat} {cp : List (Option D)} {fk : FM} {S : Store} (h : fk [] S = .exc (.exc 9 []) S) : m__law_caught fv cp fk N [.fa fv] S = .ok (.tup [.str "time", .non]) S := by
  have t : tbAny [tbR rsL 1, tbR rsL 2, tbR rsL 0] 9 = some true := by decide
  apply eq_of_w
  rw [m__law_caught, wr_fnH, b__law_caught]
  wp_walk using h, t, noF_of (word9 N S), st_r, st_l, st_o
theorem caught6 {N fv : Nat} {cp : List (Option D)} {fk : FM} {S : Store} {x : D} (h : fk [] S = .exc (.exc 6 [(5, x)]) S) : m__law_caught fv cp fk N [.fa fv] S = .ok (.tup [.str "rate", x]) S := by
  have t : tbAny [tbR rsL 1, tbR rsL 2, tbR rsL 0] 6 = some true := by decide
  have ff : fldY [6] 5 (.exc 6 [(5, x)]) = some x := rfl
  apply eq_of_w
  rw [m__law_caught, wr_fnH, b__law_caught]
  wp_walk using h, t, noF_of (word6 N x S), sr_r, ff
end Wk10
namespace Wk10
open PySem G C
theorem bk_of {S : Store} {n n1 c m : Nat} {ls : Ls} {F : HL} (hs : Sep S (bkH n n1 ls ++ F)) (ok : LsOk ls c m) (hm : m ≤ 64) : Bk S n (lineOf ls) (c + ls.length) := by
  refine ⟨⟨n1, lnD ls, hs.get (by simp [bkH]), hs.get (by simp [bkH]), by rw [lnD_len]; omega, fun i => ?_⟩, fun i p hp => ?_, fun i => ?_⟩
  · rw [valD_ln]
    unfold lineOf
    cases e : ls.find? fun x => decide (x.1 = i) with
    | none => exact .inl ⟨rfl, rfl⟩
    | some x =>
      refine .inr ⟨x.2.1, rfl, ?_⟩
      have := lnH_mem (find_mem e).1
      exact hs.get (by simp only [bkH, List.cons_append, List.mem_cons, List.mem_append]; exact .inr (.inr (.inl this)))
  · obtain ⟨h1, _, h2, _⟩ := lineOf_ok ok i p hp
    exact ⟨h1.mono hm, h2.mono (by omega)⟩
  · have := sum_filt ls i
    have := ok.tot
    omega
theorem cmp_rows : ∀ (l : List (Rat × Rat)) (d : D), d ∈ l.map pD → Cmp d := by
  intro l d hd
  obtain ⟨p, _, rfl⟩ := List.mem_map.mp hd
  exact ⟨_, rfl, rfl, Nat.le_of_ble_eq_true rfl⟩
theorem tup_nil {l : List D} (h : ∀ d, d ∈ l → Cmp d) (hl : l ≠ []) : dEq (.tup l) (.tup []) = some (.bl false) := by
  obtain ⟨ps, h1, h2, h3, h4⟩ := toPs_ok l h
  have e1 : (D.tup l).toP = some (.tuple ps) := by unfold D.toP; rw [h1]; rfl
  have e2 : (D.tup []).toP = some (.tuple []) := rfl
  have s1 : SeqAt.shaped (.tuple ps) = true := by
    unfold SeqAt.shaped
    rw [Bool.and_eq_true, decide_eq_true_eq]
    exact ⟨by simpa [PyData.canLay0] using h2, by simp only [PyData.depth]; omega⟩
  have s2 : SeqAt.shaped (.tuple []) = true := by decide
  have e : eqP (.tup l) (.tup []) = some false := by
    unfold eqP
    rw [e1, e2]
    dsimp only
    rw [s1, s2]
    simp only [Bool.and_self, if_true, PyData.eqv]
    cases ps with
    | nil => exact absurd (h4.mp rfl) hl
    | cons p ps => rfl
  show (eqP _ _).map _ = _
  rw [e]; rfl
theorem tup_same {l : List D} (h : ∀ d, d ∈ l → Cmp d) : dNe (.tup l) (.tup l) = some (.bl false) := by
  obtain ⟨ps, h1, h2, h3, h4⟩ := toPs_ok l h
  have e1 : (D.tup l).toP = some (.tuple ps) := by unfold D.toP; rw [h1]; rfl
  have s0 : PyData.canLay0 (.tuple ps) = true := by simpa [PyData.canLay0] using h2
  have s1 : SeqAt.shaped (.tuple ps) = true := by
    unfold SeqAt.shaped
    rw [Bool.and_eq_true, decide_eq_true_eq]
    exact ⟨s0, by simp only [PyData.depth]; omega⟩
  have e : eqP (.tup l) (.tup l) = some true := by
    unfold eqP
    rw [e1]
    dsimp only
    rw [s1]
    simp only [Bool.and_self, if_true]
    rw [eqv_self _ s0]
  show (eqP _ _).map _ = _
  rw [e]; rfl
theorem pcS_ne (acc : List (Rat × Rat)) (t q : Rat) : pcS acc t q ≠ [] := by
  unfold pcS
  split
  · rename_i h
    intro z; subst z; cases h
  · simp
theorem pcA_ne (ls : Ls) (s : Rat) : pcA ls s ≠ [] := by
  have h := (knQ_ok ls s).2.2.2
  have hp := sortQ_perm (knQ ls s)
  have hn : sortQ (knQ ls s) ≠ [] := fun z => by rw [z] at hp; exact h hp.nil_eq.symm
  unfold pcA
  obtain ⟨l, q, e⟩ : ∃ l q, sortQ (knQ ls s) = l ++ [q] := ⟨_, _, (List.dropLast_concat_getLast hn).symm⟩
  rw [e, List.foldl_append]
  exact pcS_ne _ _ _
theorem isCn_bk {S : Store} {n n1 : Nat} {ls : Ls} {F : HL} (hs : Sep S (bkH n n1 ls ++ F)) : isCn 34 S (.loc n) = true := by
  have h1 : S[n]? = some (.obj 34 [(9, .loc n1)]) := hs.get (by simp [bkH])
  unfold isCn insD
  simp only [h1]
  rfl
theorem repr_odd {d : D} (hd : d ∈ ratesO) : ∃ tx : Str, ∀ S, fReprD S [d] = some (.str tx) := by
  simp only [ratesO, List.mem_cons, List.not_mem_nil, or_false] at hd
  rcases hd with rfl | rfl | rfl | rfl | rfl | rfl | rfl | rfl | rfl | rfl | rfl | rfl | rfl
  all_goals first
    | exact ⟨_, fun _ => rfl⟩
    | (refine ⟨reprText "1", fun S => ?_⟩
       show (if (reprText "1").length ≤ sizeLine then some (D.str (reprText "1")) else none) = _
       rw [if_pos (by decide +kernel)])
theorem part1_w {N : Nat} (hN : big N) {S : Store} {n n1 : Nat} {ls : Ls} {F : HL} {Q X : QP D} {i : Int} {t r : Rat} (hs : Sep S (bkH n n1 ls ++ F)) (ok : LsOk ls 40 31) (i0 : 0 ≤ i) (bt : Bt t 31) (t0 : 0 ≤ t) (tb : ∀ S', Sep S' (bkH n n1 ls ++ F) → tbS 0 mk__law_refusals_right.1 mk__law_refusals_right.2 S' = true)
    (h : ∀ S', Sep S' (bkH n n1 ls ++ F) → Q (.bl true) S') : Wr (m__law_refusals_right N [.loc n, .tup [.int i, rD t, rD r]] S) Q X := by
  have lh := ok.len
  have nr : ∀ p q : Rat, dNe (rD p) (rD q) = some (.bl (decide (p ≠ q))) := fun p q => C.dNe_rD p q
  rw [m__law_refusals_right, wr_fnM, b__law_refusals_right]
  wp_walk using G.wr_ok
  refine for_i (fun e S' => Sep S' (bkH n n1 ls ++ F) ∧ ∃ x8, e = [some (.loc n), some (.tup [.int i, rD t, rD r]), some (.int i), some (rD t), some (rD r), some (.lst numsO), some (.lst timesO), some (.lst ratesO), x8, none, none, none, none, none]) ⟨hs, _, rfl⟩ ?_ ?_
  · rintro d e S1 hd ⟨hs1, x8, rfl⟩
    obtain ⟨z, rfl, z0⟩ : ∃ z : Int, d = .int z ∧ 0 ≤ z := by
      simp only [List.mem_cons, List.not_mem_nil, or_false] at hd
      rcases hd with rfl | rfl
      · exact ⟨0, rfl, by omega⟩
      · exact ⟨1, rfl, by omega⟩
    have ra := fun (z : Int) (z0 : 0 ≤ z) => rate_at_ok (t := t) hN (bk_of hs1 ok (by omega)) z0 bt (by omega) t0
    have ra1 := ra z z0
    have c1 : isCn 34 S1 (.loc n) = true := isCn_bk hs1
    wp_walk using c1, g_Bookings_rate_at_3_, List.getD_cons_zero, List.getD_cons_succ, ra1, nr, ne_eq, not_true_eq_false, decide_false, g_Bookings_most_booked_3_
    refine most_w (but := some z) hN hs1 ok (by omega) bt (by omega) t0 (fun i e => by cases e; exact z0) fun S2 hs2 => ?_
    have e1 : ∀ q : Rat, dIs (rD q) .non = some (.bl false) := fun _ => rfl
    wp_walk using e1
    exact ⟨hs2, _, rfl⟩
  · rintro e S1 ⟨hs1, x8, rfl⟩
    have z11 : D.tup [.int 1, .int 1] = rD 1 := rfl
    have iDn : iD none = .non := rfl
    have c1 : isCn 34 S1 (.loc n) = true := isCn_bk hs1
    wp_walk using c1, g_Bookings_most_booked_2_, g_Bookings_most_booked_3_, List.getD_cons_zero, List.getD_cons_succ, z11
    refine most_w (but := none) hN hs1 ok (by omega) (bt_1.mono (by omega)) (by omega) (by decide) (fun i e => by cases e) fun S2 hs2 => ?_
    have c2 : isCn 34 S2 (.loc n) = true := isCn_bk hs2
    wp_walk using c2, List.getD_cons_zero, List.getD_cons_succ, z11, g_Bookings_most_booked_3_
    refine most_w (but := none) hN hs2 ok (by omega) (bt_1.mono (by omega)) (by omega) (by decide) (fun i e => by cases e) fun S3 hs3 => ?_
    have c3 : isCn 34 S3 (.loc n) = true := isCn_bk hs3
    wp_walk using c3, nr, ne_eq, not_true_eq_false, decide_false, z11, g_Bookings_pieces_2_, List.getD_cons_zero, List.getD_cons_succ
    refine pieces_w hN hs3 ok (by omega) (bt_1.mono (by omega)) (by omega) (by decide) fun S4 hs4 => ?_
    have pn : dEq (.tup ((pcA ls 1).map pD)) (.tup []) = some (.bl false) := tup_nil (cmp_rows _) (by simpa using pcA_ne ls 1)
    have tb4 := tb S4 hs4
    have c4 : isCn 34 S4 (.loc n) = true := isCn_bk hs4
    have i60 : ∀ S, ixD S (.lst timesO) (.int 0) = some (.tup [.int (-1), .int 2]) := fun _ => rfl
    have i61 : ∀ S, ixD S (.lst timesO) (.int 1) = some (.tup [.int 2, .int 4]) := fun _ => rfl
    have i70 : ∀ S, ixD S (.lst ratesO) (.int 0) = some (.tup [.int 3, .int 2]) := fun _ => rfl
    have i71 : ∀ S, ixD S (.lst ratesO) (.int 1) = some (.tup [.int (-1), .int 2]) := fun _ => rfl
    have i72 : ∀ S, ixD S (.lst ratesO) (.int 2) = some (.tup [.int 2, .int 4]) := fun _ => rfl
    have en : dNe (.tup [.str "number", .non]) (.tup [.str "number", .non]) = some (.bl false) := tup_same fun d hd => by
      simp only [List.mem_cons, List.not_mem_nil, or_false] at hd
      rcases hd with rfl | rfl
      · exact cmp_str (by decide +kernel)
      · exact ⟨_, rfl, rfl, Nat.le_of_ble_eq_true rfl⟩
    have et : dNe (.tup [.str "time", .non]) (.tup [.str "time", .non]) = some (.bl false) := tup_same fun d hd => by
      simp only [List.mem_cons, List.not_mem_nil, or_false] at hd
      rcases hd with rfl | rfl
      · exact cmp_str (by decide +kernel)
      · exact ⟨_, rfl, rfl, Nat.le_of_ble_eq_true rfl⟩
    wp_walk using pn
    refine for_i (fun e S' => S' = S4 ∧ ∃ x8 x9 x10 x11, e = [some (.loc n), some (.tup [.int i, rD t, rD r]), some (.int i), some (rD t), some (rD r), some (.lst numsO), some (.lst timesO), some (.lst ratesO), x8, x9, x10, x11, none, none]) ⟨rfl, _, _, _, _, rfl⟩ ?_ ?_
    · rintro d e S' hdn ⟨rfl, x8, x9, x10, x11, rfl⟩
      replace hdn : d ∈ numsO := hdn
      wp_walk using i60, i70, i71
      refine for_i (fun e S'' => S'' = S' ∧ ∃ x8 x10 x11, e = [some (.loc n), some (.tup [.int i, rD t, rD r]), some (.int i), some (rD t), some (rD r), some (.lst numsO), some (.lst timesO), some (.lst ratesO), x8, some d, x10, x11, none, none]) ⟨rfl, _, _, _, rfl⟩ ?_ ?_
      · rintro d2 e S'' hd2 ⟨rfl, x8, x10, x11, rfl⟩
        obtain ⟨u, v, rfl⟩ : ∃ u v : D, d2 = .tup [u, v] := by
          simp only [List.mem_cons, List.not_mem_nil, or_false] at hd2
          rcases hd2 with rfl | rfl | rfl <;> exact ⟨_, _, rfl⟩
        wp_walk using tb4
        refine uni_w _ (fun q => caught8 ?_) ?_
        · apply exc_of_w
          rw [wr_lamF]
          wp_walk using c4, g_Bookings_book_4_, List.getD_cons_zero, List.getD_cons_succ, book_num hdn N _ _ _ _
        · wp_walk using en
          exact ⟨_, _, _, rfl⟩
      · rintro e S'' ⟨rfl, x8, x10, x11, rfl⟩
        wp_walk using tb4
        refine uni_w _ (fun q => caught8 ?_) ?_
        · apply exc_of_w
          rw [wr_lamF]
          wp_walk using c4, i61, g_Bookings_rate_at_3_, List.getD_cons_zero, List.getD_cons_succ, at_num hdn N _ _ _
        · wp_walk using en
          by_cases dn : d = .non
          · subst dn
            have e0 : dIsNot .non .non = some (.bl false) := rfl
            wp_walk using e0
            exact ⟨_, _, _, _, rfl⟩
          · have e1 : dIsNot d .non = some (.bl true) := by
              simp only [numsO, List.mem_cons, List.not_mem_nil, or_false] at hdn
              rcases hdn with rfl | rfl | rfl | rfl | rfl | rfl | rfl | rfl | rfl
              all_goals first | rfl | exact absurd rfl dn
            wp_walk using e1, tb4
            refine uni_w _ (fun q => caught8 ?_) ?_
            · apply exc_of_w
              rw [wr_lamF]
              wp_walk using c4, g_Bookings_most_booked_3_, List.getD_cons_zero, List.getD_cons_succ, most_num hdn dn hN bt (by omega) t0 _ _
            · wp_walk using en
              exact ⟨_, _, _, _, rfl⟩
    · rintro e S' ⟨rfl, x8, x9, x10, x11, rfl⟩
      wp_walk using G.wr_ok
      refine for_i (fun e S'' => S'' = S' ∧ ∃ x8 x9 x10 x11, e = [some (.loc n), some (.tup [.int i, rD t, rD r]), some (.int i), some (rD t), some (rD r), some (.lst numsO), some (.lst timesO), some (.lst ratesO), x8, x9, x10, x11, none, none]) ⟨rfl, _, _, _, _, rfl⟩ ?_ ?_
      · clear x8 x9 x10 x11
        rintro d e S'' hdt ⟨rfl, x8, x9, x10, x11, rfl⟩
        replace hdt : d ∈ timesO := hdt
        wp_walk using tb4
        refine uni_w _ (fun q => caught9 ?_) ?_
        · apply exc_of_w
          rw [wr_lamF]
          wp_walk using c4, i72, g_Bookings_book_4_, List.getD_cons_zero, List.getD_cons_succ, book_time hdt hN i0 _ _ _
        wp_walk using et, tb4
        refine uni_w _ (fun q => caught9 ?_) ?_
        · apply exc_of_w
          rw [wr_lamF]
          wp_walk using c4, g_Bookings_rate_at_3_, List.getD_cons_zero, List.getD_cons_succ, at_time hdt hN i0 _ _
        wp_walk using et, tb4
        refine uni_w _ (fun q => caught9 ?_) ?_
        · apply exc_of_w
          rw [wr_lamF]
          wp_walk using c4, g_Bookings_most_booked_2_but, List.getD_cons_zero, List.getD_cons_succ, most_time hdt hN _ _ _
        wp_walk using et, tb4
        refine uni_w _ (fun q => caught9 ?_) ?_
        · apply exc_of_w
          rw [wr_lamF]
          wp_walk using c4, g_Bookings_pieces_2_, List.getD_cons_zero, List.getD_cons_succ, pieces_time hdt hN _ _
        wp_walk using et
        exact ⟨_, _, _, _, rfl⟩
      · clear x8 x9 x10 x11
        rintro e S'' ⟨rfl, x8, x9, x10, x11, rfl⟩
        wp_walk using G.wr_ok
        refine for_i (fun e S' => S' = S'' ∧ ∃ x8 x9 x10 x11 x12 x13, e = [some (.loc n), some (.tup [.int i, rD t, rD r]), some (.int i), some (rD t), some (rD r), some (.lst numsO), some (.lst timesO), some (.lst ratesO), x8, x9, x10, x11, x12, x13]) ⟨rfl, _, _, _, _, _, _, rfl⟩ ?_ ?_
        · clear x8 x9 x10 x11
          rintro d e S' hdr ⟨rfl, x8, x9, x10, x11, x12, x13, rfl⟩
          replace hdr : d ∈ ratesO := hdr
          obtain ⟨tx, hx⟩ := repr_odd hdr
          have er : dNe (.str "rate") (.str "rate") = some (.bl false) := rfl
          have es : dNe (.str tx) (.str tx) = some (.bl false) := by rw [dNe_str]; simp
          wp_walk using tb4
          refine uni_w _ (fun q => caught6 (x := d) ?_) ?_
          · apply exc_of_w
            rw [wr_lamF]
            wp_walk using c4, g_Bookings_book_4_, List.getD_cons_zero, List.getD_cons_succ, book_rate hdr hN i0 bt (by omega) t0 _ _
          · wp_walk using er, hx, es
            exact ⟨_, _, _, _, _, _, rfl⟩
        · clear x8 x9 x10 x11
          rintro e S' ⟨rfl, x8, x9, x10, x11, x12, x13, rfl⟩
          wp_walk using G.wr_ok
          exact h _ hs4
end Wk10
namespace Wk10
open PySem G C
theorem seq_right {a b b' : SM} {e : En} {S : Store} (h : ∀ e' S', a e S = .nxt e' S' → b e' S' = b' e' S') : sSeq a b e S = sSeq a b' e S := by
  unfold sSeq
  cases q : a e S with
  | nxt e' S' => exact h e' S' q
  | _ => rfl
theorem seq_left {a a' b : SM} {e : En} {S : Store} (h : a e S = a' e S) : sSeq a b e S = sSeq a' b e S := by
  unfold sSeq; rw [h]
theorem drop_env {m : EM} {e e' : En} {S S' : Store} (h : sDrop m e S = .nxt e' S') : e' = e := by
  unfold sDrop at h
  cases q : m e S with
  | ok d S1 => rw [q] at h; cases h; rfl
  | exc x S1 => rw [q] at h; cases h
  | stuck => rw [q] at h; cases h
theorem if_same {t t' : TM} {a b : SM} {e : En} {S : Store} (h : t e S = t' e S) : sIf t a b e S = sIf t' a b e S := by
  unfold sIf; rw [h]
theorem book_eq (N : Nat) (b i s : D) (r : Rat) (S : Store) : m_Bookings_book N [b, i, s, rD r] S = C.m_Bookings_bookF N [b, i, s, rD r] S := by
  have e : b_Bookings_book N [some b, some i, some s, some (rD r), none, none] S = C.b_Bookings_bookF N [some b, some i, some s, some (rD r), none, none] S := by
    unfold b_Bookings_book C.b_Bookings_bookF
    refine seq_right fun e1 S1 h1 => ?_
    obtain rfl := drop_env h1
    refine seq_right fun e2 S2 h2 => ?_
    obtain rfl := drop_env h2
    refine seq_left (if_same ?_)
    rfl
  show fnM 6 (b_Bookings_book N) _ S = fnM 6 (C.b_Bookings_bookF N) _ S
  unfold fnM
  rw [show enOf 6 [b, i, s, rD r] = [some b, some i, some s, some (rD r), none, none] from rfl, e]
theorem book_w {N : Nat} (hN : big N) {S : Store} {n n1 c m : Nat} {ls : Ls} {i : Int} {s r : Rat} {F : HL} {Q X : QP D} (hs : Sep S (bkH n n1 ls ++ F)) (ok : LsOk ls c m) (hc : c ≤ 200) (hm : m ≤ 4500) (h0 : 0 ≤ i) (bs : Bt s m) (br : Bt r 31) (s0 : 0 ≤ s) (r0 : 0 ≤ r) (r1 : r ≤ 1)
    (h : ∀ S' a, Sep S' (bkH n n1 (bookA ls i s r a) ++ F) → Q .non S') : Wr (m_Bookings_book N [.loc n, .int i, rD s, rD r] S) Q X := by
  rw [book_eq]
  exact bookF_w hN hs ok hc hm h0 bs br s0 r0 r1 h
theorem book_init (N : Nat) (T : Store) : mkM 34 (m_Bookings___init__ N) g_Bookings___init___1_ [] [] T = .ok (.loc T.length) (T ++ [.obj 34 [(9, .loc (T.length + 1))], .dk []]) := by
  have e : m_Bookings___init__ N [.loc T.length] (T ++ [.obj 34 []]) = .ok .non (T ++ [.obj 34 [(9, .loc (T.length + 1))], .dk []]) := by
    apply eq_of_w
    rw [m_Bookings___init__, wr_fnM, b_Bookings___init__]
    have hs : stF [34, 45] 9 ((T ++ [.obj 34 []]) ++ [.dk []]) (.loc T.length) (.loc (T ++ [Cell.obj 34 []]).length) = some (T ++ [.obj 34 [(9, .loc (T.length + 1))], .dk []]) := by
      rw [stF_loc (cn := 34) (fs := []) (by simp) rfl (by simp)]
      simp [List.set_append, putD]
    wp_walk using hs
  unfold mkM
  have eg : g_Bookings___init___1_ [.loc T.length] [] = [.loc T.length] := rfl
  rw [eg, e]; rfl
theorem binit_w (N : Nat) {S : Store} {Q X : QP D} (h : Q (.loc S.length) (S ++ [.obj 34 [(9, .loc (S.length + 1))], .dk []])) : Wr (mkM 34 (m_Bookings___init__ N) g_Bookings___init___1_ [] [] S) Q X := by
  rw [book_init]; exact h
def shp (ls : Ls) : List (Int × List (Rat × Rat)) := ls.map fun x => (x.1, x.2.2)
theorem shp_line {ls ls' : Ls} (h : shp ls = shp ls') (i : Int) : lineOf ls i = lineOf ls' i := by
  have g : ∀ l : Ls, lineOf l i = match (shp l).find? (fun y => decide (y.1 = i)) with
      | some y => y.2
      | none => [] := by
    intro l
    induction l with
    | nil => rfl
    | cons x l ih =>
      unfold lineOf shp at ih ⊢
      rw [List.map_cons]
      by_cases c : x.1 = i
      · rw [List.find?_cons_of_pos (by simpa using c), List.find?_cons_of_pos (by simpa using c)]
      · rw [List.find?_cons_of_neg (by simpa using c), List.find?_cons_of_neg (by simpa using c)]
        exact ih
  rw [g, g, h]
theorem shp_book {ls ls' : Ls} (h : shp ls = shp ls') (i : Int) (s r : Rat) (a a' : Nat) : shp (bookA ls i s r a) = shp (bookA ls' i s r a') := by
  have f : ∀ l : Ls, shp (l.filter fun x => decide (x.1 ≠ i)) = (shp l).filter fun y => decide (y.1 ≠ i) := fun l => by
    unfold shp; rw [List.filter_map]; rfl
  unfold bookA
  rw [shp_line h i]
  show List.map _ (_ ++ _) = List.map _ (_ ++ _)
  rw [List.map_append, List.map_append]
  have e := f ls
  have e' := f ls'
  unfold shp at e e' h
  rw [e, e', h]
  congr 1
  split <;> rfl
theorem cmp_rowD : ∀ (l : List (Rat × Rat)) (d : D), d ∈ l.map rowD → Cmp d := by
  intro l d hd
  obtain ⟨p, _, rfl⟩ := List.mem_map.mp hd
  exact ⟨_, rfl, rfl, Nat.le_of_ble_eq_true rfl⟩
theorem line_mem {ls : Ls} (nd : (ls.map (·.1)).Nodup) {x : Int × Nat × List (Rat × Rat)} (hx : x ∈ ls) : (ls.find? fun y => decide (y.1 = x.1)) = some x := by
  induction ls with
  | nil => cases hx
  | cons y l ih =>
    rw [List.map_cons, List.nodup_cons] at nd
    rcases List.mem_cons.mp hx with rfl | hx
    · rw [List.find?_cons_of_pos (by simp)]
    · have ne : ¬ y.1 = x.1 := fun e => nd.1 (e ▸ List.mem_map_of_mem (f := (·.1)) hx)
      rw [List.find?_cons_of_neg (by simpa using ne)]
      exact ih nd.2 hx
theorem eqks_ok {S : Store} {n n1 n' n1' : Nat} {ls ls' : Ls} {F : HL} {c m : Nat} (hs : Sep S (bkH n n1 ls ++ (bkH n' n1' ls' ++ F))) (ok : LsOk ls c m) (ok' : LsOk ls' c m) (h : shp ls = shp ls') :
    ∀ l : Ls, (∀ x, x ∈ l → x ∈ ls) → eqKs S (lnD ls') (lnD l) = some true
  | [], _ => rfl
  | x :: l, hl => by
    have ih := eqks_ok hs ok ok' h l fun y hy => hl y (List.mem_cons_of_mem _ hy)
    have hx := hl x (List.mem_cons_self ..)
    obtain ⟨y, hy, e1, e2⟩ : ∃ y, y ∈ ls' ∧ y.1 = x.1 ∧ y.2.2 = x.2.2 := by
      have : (x.1, x.2.2) ∈ shp ls' := h ▸ List.mem_map.mpr ⟨x, hx, rfl⟩
      obtain ⟨y, hy, e⟩ := List.mem_map.mp this
      simp only [Prod.mk.injEq] at e
      exact ⟨y, hy, e.1, e.2⟩
    have v : valD (lnD ls') (.inl x.1) = some (.loc y.2.1) := by
      rw [valD_ln, ← e1, line_mem ok'.nd hy]; rfl
    have g1 : S[x.2.1]? = some (.lst (x.2.2.map rowD)) := hs.get (by
      have := lnH_mem hx
      simp only [bkH, List.cons_append, List.mem_cons, List.mem_append]
      exact .inr (.inr (.inl this)))
    have g2 : S[y.2.1]? = some (.lst (x.2.2.map rowD)) := by
      rw [← e2]
      exact hs.get (by
        have := lnH_mem hy
        simp only [bkH, List.cons_append, List.mem_cons, List.mem_append]
        exact .inr (.inr (.inr (.inr (.inr (.inl this))))))
    have q : eqS S (.loc x.2.1) (.loc y.2.1) = some true := by
      unfold eqS rsv
      simp only [g1, g2]
      exact eqP_same (cmp_rowD _)
    show eqKs S (lnD ls') ((.inl x.1, .loc x.2.1) :: lnD l) = some true
    unfold eqKs
    rw [v]
    dsimp only
    rw [q]
    dsimp only
    rw [ih]; rfl
theorem same_ok {N : Nat} {S : Store} {n n1 n' n1' : Nat} {ls ls' : Ls} {F : HL} {c m : Nat} (hs : Sep S (bkH n n1 ls ++ (bkH n' n1' ls' ++ F))) (ok : LsOk ls c m) (ok' : LsOk ls' c m) (h : shp ls = shp ls') : m_Bookings___eq__ N [.loc n, .loc n'] S = .ok (.bl true) S := by
  have h1 : S[n]? = some (.obj 34 [(9, .loc n1)]) := hs.get (by simp [bkH])
  have h2 : S[n1]? = some (.dk (lnD ls)) := hs.get (by simp [bkH])
  have h3 : S[n']? = some (.obj 34 [(9, .loc n1')]) := hs.get (by simp [bkH])
  have h4 : S[n1']? = some (.dk (lnD ls')) := hs.get (by simp [bkH])
  have f1 : fldD [34, 45] 9 S (.loc n) = some (.loc n1) := by rw [fldD_loc h1]; rfl
  have f2 : fldD [34, 45] 9 S (.loc n') = some (.loc n1') := by rw [fldD_loc h3]; rfl
  have hl : (lnD ls).length = (lnD ls').length := by
    rw [lnD_len, lnD_len]
    have := congrArg List.length h
    unfold shp at this
    simpa using this
  have e : dEqK S (.loc n1) (.loc n1') = some (.bl true) := by
    unfold dEqK
    rw [dkV_s h2, dkV_s h4]
    dsimp only
    rw [if_pos hl, eqks_ok hs ok ok' h ls fun _ h => h]; rfl
  have io : isO 34 S (.loc n') = some true := by
    have ty : tyD S (.loc n') = none := by unfold tyD; simp only [h3]; rfl
    unfold isO insD
    rw [ty]
    simp only [h3]
    rfl
  apply eq_of_w
  rw [m_Bookings___eq__, wr_fnM, b_Bookings___eq__]
  wp_walk using io, f1, f2, e
theorem len_ok {N : Nat} {S : Store} {n n1 : Nat} {ls : Ls} {F : HL} (hs : Sep S (bkH n n1 ls ++ F)) (hl : ls.length ≤ 1000) : m_Bookings___len__ N [.loc n] S = .ok (.int ls.length) S := by
  have h1 : S[n]? = some (.obj 34 [(9, .loc n1)]) := hs.get (by simp [bkH])
  have h2 : S[n1]? = some (.dk (lnD ls)) := hs.get (by simp [bkH])
  have f1 : fldD [34, 45] 9 S (.loc n) = some (.loc n1) := by rw [fldD_loc h1]; rfl
  apply eq_of_w
  rw [m_Bookings___len__, wr_fnM, b_Bookings___len__]
  have e : fLenD S [.loc n1] = some (.int ls.length) := by
    show (dkV S (.loc n1)).map _ = _
    rw [dkV_s h2, Option.map_some, lnD_len]
  wp_walk using f1, e
end Wk10
local macro_rules | `(tactic| wp_walk using $ts,*) => (let es := ts.getElems; let k := (es[0]!).raw.getId; let all : Array Lean.Name := #[`G.wr_ok, `G.wr_exc, `G.wr_lf, `G.wr_eC, `G.evQ_some, `G.wr_eVar, `G.cB2_s, `G.cB1_s, `G.wr_eBin, `G.cS2_s, `G.cS1_s, `G.wr_eBinS, `G.asQ_bl, `G.wr_tB, `G.truQ_s, `G.wr_tT, `G.notQ_s, `G.wr_tNt, `G.anQ_t, `G.anQ_f, `G.wr_tAn, `G.orQ_t, `G.orQ_f, `G.wr_tOr, `G.eaB_t, `G.eaB_f, `G.eaQ_s, `G.wr_eAn, `G.eoB_t, `G.eoB_f, `G.eoQ_s, `G.wr_eOr, `G.enB_s, `G.enQ_s, `G.wr_eNt, `G.eiQ_t, `G.eiQ_f, `G.wr_eIf, `G.negQ_int, `G.wr_eNeg, `G.wr_aNil, `G.cC2_s, `G.cC1_s, `G.wr_aCons, `G.tupQ_s, `G.lstQ_s, `G.newQ_s, `G.wr_eTup, `G.wr_eLst, `G.wr_eNew, `G.caQ_s, `G.wr_eCa, `G.clQ_s, `G.wr_eCall, `G.nAQ_s, `G.wr_nA, `G.tyQ_s, `G.wr_eIsTy, `G.icQ_s, `G.wr_eIsC, `G.mt2_s, `G.mt1_s, `G.wr_eMt, `G.wr_oNone, `G.oQ_int, `G.wr_oSome, `G.sl3_s, `G.sl2_s, `G.sl1_s, `G.wr_eSl, `G.kk2_s, `G.kk1_s, `G.wr_eCallK, `G.kk0_s, `G.wr_eCallK0, `G.wr_gN, `G.sb3_s, `G.sb2_s, `G.sb1_s, `G.wr_gSb, `G.wr_gsNil, `G.gs1_s, `G.wr_gsCons, `G.wr_gTp, `G.wr_gTp_rD, `G.xe_s, `G.sq_nx, `G.sq_rt, `G.sq_bk, `G.sq_ct, `G.sq_ex, `G.sq_xe, `G.ws_nxt, `G.ws_sNop, `G.ws_sSeq, `G.ws_sBrk, `G.ws_sCnt, `G.dropQ_s, `G.ws_sDrop, `G.ws_sRet, `G.ws_sRetN, `G.ifQ_t, `G.ifQ_f, `G.ws_sIf, `G.asg1_s, `G.ws_sAsg, `G.setQ_s, `G.ws_sSet, `G.parQ_s, `G.ws_sPar, `G.ws_sRaise, `G.fn_nx, `G.fn_rt, `G.fn_ex, `G.fn_xe, `G.su_nx, `G.su_bk, `G.su_ct, `G.su_rt, `G.trQ_t, `G.trQ_f, `G.tr_nx, `G.tr_rt, `G.tr_bk, `G.tr_ct, `G.tr_ex, `G.ws_sTry, `G.forQ_s, `G.ws_sFor, `G.lp_nx, `G.lp_rt, `G.lp_bk, `G.lp_ct, `G.lp_ex, `G.lp_xe, `G.ws_fi_nil, `G.bodyQ_s, `G.mid_nx, `G.mid_rt, `G.mid_bk, `G.mid_ct, `G.mid_ex, `G.mid_xe, `G.lc2_s, `G.lc1_s, `G.wr_eLc, `G.lcn2_s, `G.lcn1_s, `G.wr_eLcN, `G.wipe_nil, `G.wipe_cons, `G.wr_tTrue, `G.wr_lc_nil, `G.tgQ_some, `G.ly_s, `G.lt1_t, `G.lt1_f, `G.lg_s, `G.eqQ_s, `G.exQ_s, `G.seqQ_tup, `G.seqQ_lst, `G.seqQ_scr, `G.seqQ_rD, `G.wr_iSeq, `G.rgQ_int, `G.wr_iRg1, `G.rgQ2_int, `G.wr_iRg2, `G.ch3_t, `G.ch3_f, `G.ch2_s, `G.ch1_s, `G.wr_eChain, `G.flQ_s, `G.wr_eFld, `G.fldD_ins, `G.stQ_s, `G.sf2_s, `G.sf1_s, `G.ws_sFldM, `G.mkQ2_s, `G.mkQ1_s, `G.wr_eMk, `G.wr_eMk0, `G.ap2_s, `G.ap1_s, `G.wr_eApp, `G.zpQ_s, `G.wr_iZip, `G.zipR_tup, `G.zipR_lst, `G.srQ_s, `G.wr_iStrM, `G.strR_s, `G.ioQ_s, `G.wr_eIsO, `G.dAddS_int, `G.wr_gStr_tup, `G.wr_gStr_lst, `G.fTuple_lst, `G.fTuple_tup, `List.take_succ_cons, `List.take_zero, `List.drop_succ_cons, `List.drop_zero, `List.getElem?_cons_zero, `List.getElem?_cons_succ, `List.set_cons_zero, `List.set_cons_succ, `List.map_cons, `List.map_nil, `List.length_cons, `List.length_nil, `List.cons_append, `List.nil_append, `List.replicate_succ, `List.replicate_zero, `List.append_nil, `true_and, `and_true, `and_self, `if_true, `ite_true, `if_false, `ite_false, `Bool.false_eq_true, `Bool.not_true, `Bool.not_false, `Bool.not_not, `decide_true, `decide_false, `decide_eq_true_eq, `not_false_eq_true, `not_true_eq_false, `reduceCtorEq, `PySem.sizeLine_eq, `Option.map_some, `Option.some.injEq, `Nat.reduceSub, `Nat.reduceAdd, `Nat.reduceLeDiff, `Nat.reduceEqDiff, `Nat.zero_add, `Nat.reduceBEq, `List.contains_cons, `List.contains_nil, `beq_self_eq_true, `Bool.true_or, `Bool.or_true, `Bool.false_or, `Bool.or_false, `List.lookup_cons, `List.lookup_nil, `Int.reduceEq, `Int.reduceNe, `Int.reduceLT, `Int.reduceLE, `Int.reduceNeg, `Int.reduceAdd, `Int.reduceSub, `Int.cast_ofNat_Int, `ne_eq, `G.cmpI_s, `G.dGt, `G.dGe, `G.dLt, `G.dLe, `G.dAdd_int, `G.dSub_int, `G.dEq_int, `G.dNe_int, `G.dEq_bl, `G.dNe_bl, `G.truD_bl, `G.isTy_int, `G.isTy_bl, `G.isTy_tup, `G.fLen_tup, `G.fLen_scr, `G.fLen_lst, `G.fAbs_int, `G.fMax_int, `G.fMin_int, `G.ixD_tup, `G.ixD_lst, `G.ixD_scr, `G.isTy_rD, `G.fLen_rD, `G.ix_rD0, `G.ix_rD1, `G.dEq_rD, `G.dNe_rD, `G.dIs_rD, `G.dIsNot_rD, `G.Tn.is, `G.me3_s, `G.me2_s, `G.me1_s, `G.wr_eMeth, `G.mk2_s, `G.mk1_s, `G.wr_eMethK, `G.m01_s, `G.wr_eMeth0, `G.wr_eNewD, `G.dg3_s, `G.dg2_s, `G.dg1_s, `G.wr_eDGet2, `G.dh2_s, `G.dh1_s, `G.wr_eDGet1, `G.dp3_s, `G.dp2_s, `G.dp1_s, `G.wr_eDPop2, `G.dq2_s, `G.dq1_s, `G.wr_eDPop1, `G.se2_s, `G.se1_s, `G.wr_gSbE, `G.ssQ_s, `G.wr_eSortSet, `G.an2_s, `G.an1_s, `G.wr_eAddN, `G.celQ_tup, `G.celQ_lst, `G.celQ_scr, `G.wr_iCel, `G.forcQ_s, `G.ws_sForC, `G.lcc1_s, `G.wr_eLcC, `G.lcd1_s, `G.wr_eLcCN, `G.keyD_int, `G.keyD_str, `Option.isSome_some, `G.fmQ_s, `G.wr_eFmt, `G.jsQ_str, `G.wr_js_nil, `G.wr_js_cons, `G.wr_eJs, `G.s4Q_str, `G.soQ_s, `G.wr_eStrO, `G.dAddE_0, `G.wr_eCallV, `G.chQ_s, `G.wr_eCallH, `G.wr_lamF, `G.oj_s, `G.enuQ_s, `G.wr_iEnum, `G.enR_tup, `G.enR_lst, `G.lrQ_int, `G.wr_eLr, `G.lrnQ_int, `G.wr_eLrN, `G.agQ_s, `G.auP_s, `G.ws_sAug, `G.augR_int, `G.pp2_s, `G.pp1_s, `G.wr_ePop, `G.wr_gSq_tup, `G.wr_gSq_lst, `G.lnQ_lst, `G.lnQ_tup, `G.wr_eListN, `G.rvQ_lst, `G.wr_eRev, `G.rfQ_s, `G.ws_sRaiseF, `G.trG_nx, `G.trG_rt, `G.trG_bk, `G.trG_ct, `G.trG_ex, `G.ws_sTryG, `G.ws_hd_nil, `G.hdP_t, `G.hdP_f, `G.ws_hd_cons, `G.setO_some, `G.setO_none, `G.ws_suS, `G.suN_nx, `G.suN_rt, `G.suN_bk, `G.suN_ct, `G.ws_suN, `G.iyQ_s, `G.wr_eIsY, `G.isY_exc, `G.fyQ_s, `G.wr_eFldY, `G.fldY_exc, `G.toQ_s, `G.wr_eIsTyO, `G.isTyO_tup, `G.isTyO_lst, `G.isTyO_int, `G.tm2_s, `G.tm1_s, `G.wr_eTm, `G.rgQN_int, `G.wr_iRgN, `G.gf1_s, `G.wr_gFl, `G.as3_s, `G.as2_s, `G.as1_s, `G.ws_sAsg3, `G.at1_s, `G.ws_sAsg2, `G.ws_sFldA, `G.ds3_s, `G.ds2_s, `G.ds1_s, `G.wr_eDSetd, `G.dispQ_s, `G.wr_eDisp, `G.rm2_s, `G.rm1_s, `G.wr_eRem, `G.parQ3_s, `G.ws_sPar3, `G.th_nx, `G.th_rt, `G.th_xe, `G.wr_iDv, `G.wr_iDi, `G.wr_iDk, `G.wr_iTk, `G.wr_eTs1, `G.tu2_s, `G.tu1_s, `G.wr_eTsU, `G.dct1_s, `G.dcQ_s, `G.wr_eDcT, `G.dt1_t, `G.dt1_f, `G.dgg_s, `G.eqOb_t, `G.eqOb_f, `G.eqO2_s, `G.eqO1_s, `G.wr_eEqO, `G.in2_s, `G.in1_s, `G.wr_eIns, `G.wr_eTabIx, `G.txQ_str, `G.wr_eTabIn, `G.tiQ_t, `G.tiQ_f, `G.ws_sTabCall, `G.tcQ_str, `G.tc1_s, `G.tc2_s, `G.sn3_s, `G.sn2_s, `G.sn1_s, `G.wr_eSlN, `G.zmQ_s, `G.wr_iZipM, `G.zipRM_s, `G.ex2_s, `G.ex1_s, `G.wr_eEqX, `G.cnQ_s, `G.wr_eCallN, `G.ku2_s, `G.ku1_s, `G.wr_eDkU, `G.wr_eNx, `G.sa3_s, `G.sa2_s, `G.sa1_s, `G.wr_eSlA, `G.s5Q_int, `G.lnoQ_s, `G.wr_eLenO, `G.wr_eReprO, `G.wr_eDictN]; let cut : Nat := if k == `zstop || k == `zust then 1 else if k == `zstf then 2 else if k == `zstq then 3 else 0; let sel := all.filter fun n => !((cut == 1 && n == `G.ws_sIf) || (cut == 2 && (n == `G.ws_sIf || n == `G.ws_sFor || n == `G.ws_sForC)) || (cut == 3 && n.getString!.startsWith "ws_")); let ids : Lean.TSyntaxArray `term := sel.map fun n => ⟨(Lean.mkIdent n).raw⟩; let r1 : Lean.TSyntaxArray `term := ids ++ es.extract 1 es.size; let r2 : Lean.TSyntaxArray `term := ids ++ es.extract 2 es.size; let r0 : Lean.TSyntaxArray `term := ids ++ es; if k == `zust || k == `zuse then `(tactic| (have hq0 := $(es[1]!); simp only [$[$r2:term],*] at hq0; exact hq0)) else if cut == 0 then `(tactic| try simp only [$[$r0:term],*]) else `(tactic| try simp only [$[$r1:term],*]))
namespace Wk10
open PySem G C
def T0 : HL := [(0, .tbl mk__law_refusals_right.1 mk__law_refusals_right.2)]
theorem bookP_w {N : Nat} (hN : big N) {S : Store} {p n n1 c : Nat} {ls : Ls} {i : Int} {s r : Rat} {R : HL} {Q X : QP D} (P : PS S p (bkH n n1 ls ++ R)) (ok : LsOk ls c 31) (hc : c ≤ 100) (h0 : 0 ≤ i) (bs : Bt s 31) (br : Bt r 31) (s0 : 0 ≤ s) (r0 : 0 ≤ r) (r1 : r ≤ 1)
    (h : ∀ S' a, PS S' p (bkH n n1 (bookA ls i s r a) ++ R) → LsOk (bookA ls i s r a) (c + 1) 31 → Q .non S') : Wr (m_Bookings_book N [.loc n, .int i, rD s, rD r] S) Q X := by
  obtain ⟨cl, u1, u2⟩ := P.ex
  rw [List.append_assoc] at u1
  refine book_w hN u1 ok (by omega) (by omega) h0 bs br s0 r0 r1 fun S' a hs => h S' a (u2 _ _ ?_) (bookA_ok ok h0 bs s0 br r0 r1 a)
  rw [List.append_assoc]
  exact hs
theorem ps_swap {S : Store} {p : Nat} {A B R : HL} (P : PS S p (A ++ (B ++ R))) : PS S p (B ++ (A ++ R)) := P.perm (by
  rw [← List.append_assoc, ← List.append_assoc]
  exact List.Perm.append_right _ List.perm_append_comm)
theorem ps_book {S : Store} {p : Nat} {R : HL} (P : PS S p R) : PS (S ++ [.obj 34 [(9, .loc (S.length + 1))], .dk []]) p (bkH S.length (S.length + 1) [] ++ R) := by
  have h := (P.new (.obj 34 [(9, .loc (S.length + 1))])).new (.dk [])
  have e : (S ++ [Cell.obj 34 [(9, .loc (S.length + 1))]] ++ [Cell.dk []]) = S ++ [.obj 34 [(9, .loc (S.length + 1))], .dk []] := by simp
  have e2 : (S ++ [Cell.obj 34 [(9, .loc (S.length + 1))]]).length = S.length + 1 := by simp
  rw [e, e2] at h
  exact h.perm (List.Perm.swap _ _ _)
theorem ls_nil : LsOk ([] : Ls) 0 31 := ⟨by simp, by simp, by simp, fun x hx => by cases hx⟩
theorem z01 : D.tup [.int 0, .int 1] = rD 0 := rfl
theorem z11 : D.tup [.int 1, .int 1] = rD 1 := rfl
theorem filled_w {N : Nat} (hN : big N) {S : Store} {p : Nat} {R : HL} {Q X : QP D} (P : PS S p R)
    (h : ∀ S' n n1 n' n1' ls ls', PS S' p (bkH n n1 ls ++ (bkH n' n1' ls' ++ R)) → LsOk ls 9 31 → LsOk ls' 9 31 → shp ls = shp ls' → Q (.tup [.loc n, .loc n']) S') : Wr (m__law_filled N [.loc p] S) Q X := by
  rw [m__law_filled, wr_fnM, b__law_filled]
  wp_walk using zstf, G.wr_ok
  refine binit_w N ?_
  have P1 := ps_book P
  generalize S ++ [Cell.obj 34 [(9, .loc (S.length + 1))], .dk []] = S1 at P1 ⊢
  generalize S.length + 1 = n1 at P1 ⊢
  generalize S.length = n at P1 ⊢
  wp_walk using zstf, G.wr_ok
  refine binit_w N ?_
  have P2 := ps_swap (ps_book P1)
  generalize S1 ++ [Cell.obj 34 [(9, .loc (S1.length + 1))], .dk []] = S2 at P2 ⊢
  generalize S1.length + 1 = n1' at P2 ⊢
  generalize S1.length = n' at P2 ⊢
  wp_walk using G.wr_ok
  refine take_w N P2.P (by omega) (by omega) fun z S3 z0 z1 Q3 F3 => ?_
  have P3 := P2.fr Q3 F3
  wp_walk using G.wr_ok
  refine ⟨by omega, ?_⟩
  refine for_w (fun j e S' => j ≤ z.toNat ∧ (∃ ls ls', PS S' p (bkH n n1 ls ++ (bkH n' n1' ls' ++ R)) ∧ LsOk ls j 31 ∧ LsOk ls' j 31 ∧ shp ls = shp ls') ∧ ∃ x3 x4 x5 x6, e = [some (.loc p), some (.loc n), some (.loc n'), x3, x4, x5, x6]) ⟨Nat.zero_le _, ⟨[], [], P3, ls_nil, ls_nil, rfl⟩, _, _, _, _, rfl⟩ ?_ ?_
  · rintro j d e S4 hd ⟨hj, ⟨ls, ls', P4, ok, ok', hsh⟩, x3, x4, x5, x6, rfl⟩
    obtain ⟨rfl, hlt⟩ := range_get hd
    wp_walk using G.wr_ok
    refine take_w N P4.P (by omega) (by omega) fun i S5 i0 i1 Q5 F5 => ?_
    have P5 := P4.fr Q5 F5
    wp_walk using z01
    refine moment_w hN P5.P (B := 1) (bt_0.mono (by omega)) (by omega) (by decide) fun t S6 bt t0 Q6 F6 => ?_
    have P6 := P5.fr Q6 F6
    wp_walk using G.wr_ok
    refine rateS_w hN P6.P fun q S7 bq q0 q1 Q7 F7 => ?_
    have P7 := P6.fr Q7 F7
    wp_walk using G.wr_ok
    refine take_w N P7.P (by omega) (by omega) fun w S8 w0 w1 Q8 F8 => ?_
    have P8 := P7.fr Q8 F8
    wp_walk using G.wr_ok
    refine wr_at w0 (by simpa using w1) fun d hd => ?_
    obtain ⟨r, rfl, br, r0, r1⟩ : ∃ r : Rat, d = rD r ∧ Bt r 31 ∧ 0 ≤ r ∧ r ≤ 1 := by
      simp only [List.mem_cons, List.not_mem_nil, or_false] at hd
      rcases hd with rfl | rfl
      · exact ⟨0, rfl, bt_0.mono (by omega), by decide, by decide⟩
      · exact ⟨q, rfl, bq.mono (by omega), by grind, q1⟩
    clear hd
    have c8 : isCn 34 S8 (.loc n) = true := isCn_bk (F := bkH n' n1' ls' ++ R) P8.s
    wp_walk using c8, g_Bookings_book_4_, List.getD_cons_zero, List.getD_cons_succ
    refine bookP_w hN P8 ok (by omega) i0 (bt.mono (by omega)) br t0 r0 r1 fun S9 a P9 ok9 => ?_
    have P9' := ps_swap P9
    have c9 : isCn 34 S9 (.loc n') = true := isCn_bk (F := bkH n n1 (bookA ls i t r a) ++ R) P9'.s
    wp_walk using c9, g_Bookings_book_4_, List.getD_cons_zero, List.getD_cons_succ
    refine bookP_w hN P9' ok' (by omega) i0 (bt.mono (by omega)) br t0 r0 r1 fun S10 a' P10 ok10 => ?_
    wp_walk using G.wr_ok
    exact ⟨by omega, ⟨_, _, ps_swap P10, ok9, ok10, shp_book hsh i t r a a'⟩, _, _, _, _, rfl⟩
  · rintro e S4 ⟨hj, ⟨ls, ls', P4, ok, ok', hsh⟩, x3, x4, x5, x6, rfl⟩
    rw [range_len] at ok ok'
    wp_walk using G.wr_ok
    exact h _ _ _ _ _ _ _ P4 (ok.mono (by omega) (by omega)) (ok'.mono (by omega) (by omega)) hsh
end Wk10
namespace Wk10
open PySem G C
theorem lineOf_book (ls : Ls) (i k : Int) (s r : Rat) (a : Nat) : lineOf (bookA ls i s r a) k = if k = i then bookL (lineOf ls i) s r else lineOf ls k := by
  generalize hB : bookL (lineOf ls i) s r = B
  unfold bookA
  rw [hB]
  by_cases c : k = i
  · subst c
    rw [if_pos rfl]
    have e : ((ls.filter fun x => decide (x.1 ≠ k)).find? fun x => decide (x.1 = k)) = none := List.find?_eq_none.mpr fun x hx => by
      have := (List.mem_filter.mp hx).2
      simpa using this
    unfold lineOf
    rw [List.find?_append, e, Option.none_or]
    by_cases b : B = []
    · rw [if_pos b, b]; rfl
    · rw [if_neg b]; simp
  · rw [if_neg c]
    unfold lineOf
    rw [List.find?_append]
    have e : ((ls.filter fun x => decide (x.1 ≠ i)).find? fun x => decide (x.1 = k)) = ls.find? fun x => decide (x.1 = k) := by
      clear hB
      induction ls with
      | nil => rfl
      | cons x l ih =>
        rw [List.filter_cons]
        by_cases d : x.1 = i
        · rw [if_neg (by simpa using d), ih, List.find?_cons, decide_eq_false (fun e => c (e.symm.trans d))]
        · rw [if_pos (by simpa using d), List.find?_cons, List.find?_cons, ih]
    rw [e]
    cases hf : ls.find? fun x => decide (x.1 = k) with
    | some x => rfl
    | none =>
      rw [Option.none_or]
      by_cases b : B = []
      · rw [if_pos b]; rfl
      · rw [if_neg b]
        have c' : ¬ i = k := fun e => c e.symm
        simp [c']
theorem sum_shp (ls : Ls) (t : Rat) (but : Option Int) : sumA ls t but = (shp ls).foldl (fun acc y => if but = some y.1 then acc else acc + atT y.2 t) 0 := by
  unfold sumA shp; rw [List.foldl_map]
theorem kn_shp (ls : Ls) (s : Rat) : knQ ls s = (shp ls).foldl (fun K y => unQ K (behL y.2 s)) [s] := by
  unfold knQ shp; rw [List.foldl_map]
theorem pc_shp {ls ls' : Ls} (h : shp ls = shp ls') (s : Rat) : pcA ls s = pcA ls' s := by
  unfold pcA
  have e : (fun (acc : List (Rat × Rat)) t => pcS acc t (sumA ls t none)) = fun acc t => pcS acc t (sumA ls' t none) := by
    funext acc t; rw [sum_shp, sum_shp, h]
  rw [kn_shp, kn_shp, h, e]
theorem at_now {ls : Ls} {c m : Nat} (ok : LsOk ls c m) (r : Rat) (a : Nat) : atT (lineOf (bookA ls 0 0 r a) 0) 0 = r := by
  have hl : lowL (lineOf ls 0) 0 = [] := by
    unfold lowL
    rw [List.filter_eq_nil_iff]
    intro p hp
    have := (lineOf_ok ok 0 p hp).2.1
    simpa using Rat.not_lt.mpr this
  rw [lineOf_book, if_pos rfl]
  unfold bookL
  rw [hl]
  by_cases c : lastR [] = r
  · rw [if_pos c]; exact c
  · rw [if_neg c]
    show (if (0 : Rat) < 0 then (0 : Rat) else r) = r
    rw [if_neg (by decide)]
theorem sep_swap {S : Store} {A B R : HL} (h : Sep S (A ++ (B ++ R))) : Sep S (B ++ (A ++ R)) := h.perm (by
  rw [← List.append_assoc, ← List.append_assoc]
  exact List.Perm.append_right _ List.perm_append_comm)
theorem three_w {N : Nat} (hN : big N) {S : Store} {p n n1 : Nat} {ls : Ls} {R : HL} {k : KS} {r : Rat} {x0 x1 x2 x4 x5 x6 : Option D} (P : PS S p (bkH n n1 ls ++ R)) (ok : LsOk ls 9 31) (br : Bt r 31) (r0 : 0 ≤ r) (r1 : r ≤ 1)
    (h : ∀ S' x6 ls', PS S' p (bkH n n1 ls' ++ R) → k.nx [x0, x1, x2, some (.loc n), x4, x5, x6] S') :
    Ws (fiR (gN 6) (sSeq (sDrop (eMeth 34 (m_Bookings_book N) C.g_Bookings_book_4_ 3 0 (eVar 3) (aCons (eC (.int 0)) (aCons (eTup (aCons (eC (.int 0)) (aCons (eC (.int 1)) aNil))) (aCons (eVar 6) aNil))) aNil))
      (sIf (tOr' (tB (eBin dNe (eMeth 34 (C.m_Bookings_rate_at N) C.g_Bookings_rate_at_3_ 2 0 (eVar 3) (aCons (eC (.int 0)) (aCons (eTup (aCons (eC (.int 0)) (aCons (eC (.int 1)) aNil))) aNil)) aNil) (eVar 6))) (tB (eBin dNe (eMeth 34 (C.m_Bookings_most_booked N) C.g_Bookings_most_booked_3_ 2 0 (eVar 3) (aCons (eTup (aCons (eC (.int 0)) (aCons (eC (.int 1)) aNil))) (aCons (eC .non) aNil)) aNil) (eMeth 34 (C.m_Bookings_most_booked N) g_Bookings_most_booked_2_ 1 0 (eVar 3) (aCons (eTup (aCons (eC (.int 0)) (aCons (eC (.int 1)) aNil))) aNil) aNil)))) (sRet (eC (.bl false))) sNop)) [rD 0, rD 1, rD r] [x0, x1, x2, some (.loc n), x4, x5, x6] S) k := by
  have nr : ∀ p q : Rat, dNe (rD p) (rD q) = some (.bl (decide (p ≠ q))) := fun p q => C.dNe_rD p q
  refine for_w (fun j e S' => j ≤ 3 ∧ (∃ ls', PS S' p (bkH n n1 ls' ++ R) ∧ LsOk ls' (9 + j) 31) ∧ ∃ x6, e = [x0, x1, x2, some (.loc n), x4, x5, x6]) ⟨by omega, ⟨ls, P, ok⟩, _, rfl⟩ ?_ ?_
  · rintro j d e S1 hd ⟨hj, ⟨l1, P1, ok1⟩, x6, rfl⟩
    have hlt : j < 3 := (List.getElem?_eq_some_iff.mp hd).1
    obtain ⟨q, rfl, bq, q0, q1⟩ : ∃ q : Rat, d = rD q ∧ Bt q 31 ∧ 0 ≤ q ∧ q ≤ 1 := by
      have hm := List.mem_of_getElem? hd
      simp only [List.mem_cons, List.not_mem_nil, or_false] at hm
      rcases hm with rfl | rfl | rfl
      · exact ⟨0, rfl, bt_0.mono (by omega), by decide, by decide⟩
      · exact ⟨1, rfl, bt_1.mono (by omega), by decide, by decide⟩
      · exact ⟨r, rfl, br, r0, r1⟩
    have c1 : isCn 34 S1 (.loc n) = true := isCn_bk (F := R) P1.s
    wp_walk using c1, z01, g_Bookings_book_4_, List.getD_cons_zero, List.getD_cons_succ
    refine bookP_w hN P1 ok1 (by omega) (by omega) (bt_0.mono (by omega)) bq (by decide) q0 q1 fun S2 a P2 ok2 => ?_
    have e2 := at_now ok1 q a
    have c2 : isCn 34 S2 (.loc n) = true := isCn_bk (F := R) P2.s
    have ra := rate_at_ok (t := 0) hN (bk_of P2.s ok2 (by omega)) (show (0 : Int) ≤ 0 by omega) (bt_0 : Bt 0 1) (by omega) (by decide)
    rw [e2] at ra
    wp_walk using c2, z01, g_Bookings_rate_at_3_, List.getD_cons_zero, List.getD_cons_succ, ra, nr, ne_eq, not_true_eq_false, decide_false, g_Bookings_most_booked_3_
    obtain ⟨cl, u1, u2⟩ := P2.ex
    rw [List.append_assoc] at u1
    refine most_w (but := none) hN u1 ok2 (by omega) (bt_0.mono (by omega)) (by omega) (by decide) (fun i e => by cases e) fun S3 hs3 => ?_
    have c3 : isCn 34 S3 (.loc n) = true := isCn_bk hs3
    wp_walk using c3, z01, g_Bookings_most_booked_2_, List.getD_cons_zero, List.getD_cons_succ
    refine most_w (but := none) hN hs3 ok2 (by omega) (bt_0.mono (by omega)) (by omega) (by decide) (fun i e => by cases e) fun S4 hs4 => ?_
    wp_walk using nr, ne_eq, not_true_eq_false, decide_false
    refine ⟨by omega, ⟨_, u2 _ _ ?_, ok2.mono (by omega) (by omega)⟩, _, rfl⟩
    rw [List.append_assoc]
    exact hs4
  · rintro e S1 ⟨hj, ⟨l1, P1, ok1⟩, x6, rfl⟩
    wp_walk using G.wr_ok
    exact h _ _ _ P1
theorem plain : ∀ ns : List Int, ns.length ≤ 63 → ∃ N S, m_law N [.scr (ns.map .int)] (st0 tsL) = .ok (.bl true) S := by
  intro ns hl
  refine ⟨2 ^ 9000, ?_⟩
  have hN : big (2 ^ 9000) := Nat.le_refl _
  generalize 2 ^ 9000 = N at hN ⊢
  have T0' : (st0 tsL)[0]? = some (.tbl mk__law_refusals_right.1 mk__law_refusals_right.2) := rfl
  generalize st0 tsL = S0 at T0'
  suffices h : Wr (m_law N [.scr (ns.map .int)] S0) (fun d _ => d = .bl true) nX by
    obtain ⟨d, S, e, rfl⟩ := of_w h
    exact ⟨S, e⟩
  rw [m_law, wr_fnM, b_law]
  wp_walk using List.length_map
  obtain ⟨j, hj, j0, j1⟩ : ∃ j : Int, (if (if (ns.length : Int) < 5 then (ns.length : Int) else 5) > 1 then (if (ns.length : Int) < 5 then (ns.length : Int) else 5) else 1) = j ∧ 0 ≤ j ∧ j ≤ 64 := ⟨_, rfl, by split <;> omega, by split <;> (try split) <;> omega⟩
  rw [hj]
  refine ⟨by omega, ?_⟩
  have nr : ∀ p q : Rat, dNe (rD p) (rD q) = some (.bl (decide (p ≠ q))) := fun p q => C.dNe_rD p q
  refine for_i (fun e S' => S'[0]? = some (.tbl mk__law_refusals_right.1 mk__law_refusals_right.2) ∧ ∃ x1 x2 x3 x4 x5 x6, e = [some (.scr (ns.map .int)), x1, x2, x3, x4, x5, x6]) ⟨T0', _, _, _, _, _, _, rfl⟩ ?_ (fun e S' _ => rfl)
  rintro d e S hd ⟨hT, x1, x2, x3, x4, x5, x6, rfl⟩
  obtain ⟨k, rfl, k0, k1⟩ := range_mem hd
  wp_walk using G.wr_ok
  refine cell_w N ns k k0 (by omega) fun x => ?_
  wp_walk using G.wr_ok
  refine pool_w N x fun c P => ?_
  have hl0 := (List.getElem?_eq_some_iff.mp hT).1
  have P0 : PS (S ++ [c]) S.length T0 := by
    refine ⟨P, ⟨fun q hq => ?_, by simp [T0]⟩, ?_⟩
    · simp only [T0, List.mem_cons, List.not_mem_nil, or_false] at hq
      subst hq
      rw [List.getElem?_append_left hl0]
      exact hT
    · intro z
      have : S.length = 0 := by simpa [T0] using z
      omega
  clear P hl0 hT
  generalize S ++ [c] = S1 at P0 ⊢
  generalize S.length = p at P0 ⊢
  wp_walk using G.wr_ok
  refine filled_w hN P0 fun S2 n n1 n' n1' ls ls' P2 ok ok' hsh => ?_
  wp_walk using G.wr_ok
  refine take_w N P2.P (by omega) (by omega) fun i S3 i0 i1 Q3 F3 => ?_
  have P3 := P2.fr Q3 F3
  wp_walk using z01
  refine moment_w hN P3.P (B := 1) (bt_0.mono (by omega)) (by omega) (by decide) fun t S4 bt t0 Q4 F4 => ?_
  have P4 := P3.fr Q4 F4
  wp_walk using G.wr_ok
  refine rateS_w hN P4.P fun r S5 br r0 r1 Q5 F5 => ?_
  have P5 := P4.fr Q5 F5
  clear P2 P3 P4 P0 F3 F4 F5 Q3 Q4 Q5
  obtain ⟨cl, u1, u2⟩ := P5.ex
  rw [List.append_assoc, List.append_assoc] at u1
  have cA : ∀ {S}, Sep S (bkH n n1 ls ++ (bkH n' n1' ls' ++ (T0 ++ [(p, cl)]))) → isCn 34 S (.loc n) = true := fun h => isCn_bk h
  have cB : ∀ {S}, Sep S (bkH n n1 ls ++ (bkH n' n1' ls' ++ (T0 ++ [(p, cl)]))) → isCn 34 S (.loc n') = true := fun h => isCn_bk (F := bkH n n1 ls ++ (T0 ++ [(p, cl)])) (sep_swap h)
  have a1 := cA u1
  have b1 := cB u1
  wp_walk using a1, b1, g_Bookings___eq___2_, List.getD_cons_zero, List.getD_cons_succ, same_ok (N := N) u1 ok ok' hsh
  refine part1_w hN u1 (ok.mono (by omega) (by omega)) i0 (bt.mono (by omega)) (by grind) (fun S' hs' => tbS_of (hs'.get (by simp [T0]))) fun S6 u6 => ?_
  have a6 := cA u6
  have b6 := cB u6
  wp_walk using a6, b6, g_Bookings___eq___2_, List.getD_cons_zero, List.getD_cons_succ, same_ok (N := N) u6 ok ok' hsh
  have gp : ∀ a b : D, g_Bookings_pieces_2_ [a, b] [] = [a, b] := fun _ _ => rfl
  wp_walk using gp, z01
  refine pieces_w hN u6 ok (by omega) (bt_0.mono (by omega)) (by omega) (by decide) fun S7 u7 => ?_
  have a7 := cB u7
  wp_walk using a7, gp, z01
  refine pieces_w hN (sep_swap u7) ok' (by omega) (bt_0.mono (by omega)) (by omega) (by decide) fun S8 u8' => ?_
  have u8 := sep_swap u8'
  rw [← pc_shp hsh]
  have a8 := cA u8
  have b8 := cB u8
  have l1 := ok.len
  have l2 := ok'.len
  have hll : ls'.length = ls.length := by
    have := congrArg List.length hsh
    unfold shp at this
    simpa using this.symm
  have gl : ∀ a : D, g_Bookings___len___1_ [a] [] = [a] := fun _ => rfl
  have e1 := len_ok (N := N) u8 (by omega)
  have e2 := len_ok (N := N) u8' (by omega)
  rw [hll] at e2
  have ni : dNe (.int ls.length) (.int ls.length) = some (.bl false) := by rw [dNe_int]; simp
  wp_walk using tup_same (cmp_rows _), lnoQ_s, a8, b8, gl, e1, e2, s5Q_int, ni
  refine ⟨by omega, by omega, ?_⟩
  have a2 : L2.atI [D.int i, rD t, rD r] 2 = some (rD r) := rfl
  wp_walk using a2, z01, z11
  have P8 := u2 S8 (bkH n n1 ls ++ (bkH n' n1' ls' ++ T0)) (by rw [List.append_assoc, List.append_assoc]; exact u8)
  refine three_w hN P8 ok (br.mono (by omega)) (by grind) r1 fun S9 y6 l9 P9 => ?_
  wp_walk using G.wr_ok
  exact ⟨P9.s.get (by simp [T0]), _, _, _, _, _, _, rfl⟩
end Wk10
open PySem PySem.W PySem.Calls PyProof.Rows
set_option maxRecDepth 100000 in
set_option maxHeartbeats 0 in
theorem PySem.Challenge.cw_sharetags_k10_books_refused_holds : PySem.Challenge.rw_sharetags_k10_books_refused.Holds := by
  w_on; o_law
  refine HandSHeadRun.head_any (r := OpenLaw.row PySem.Challenge.rw_sharetags_k10_books_refused) (q := Wk10.qv) (H := G.hookT 5 Wk10.fxAll Wk10.fnAll (Wk10.tsL.map (·.1))) (ob := G.obTT 5 Wk10.fxAll Wk10.fnAll (Wk10.tsL.map (·.1))) (M := 100000) (loose := Wk10.nmAll) (d := HandSHeadRun.topDef (OpenLaw.row PySem.Challenge.rw_sharetags_k10_books_refused).prog 47) (kwd := []) (G.obTT_eq 5 _ _ _)
    (by kernel_rfl) (fun s => by kernel_rfl) ?hr (by kernel_rfl) (by kernel_rfl) (by kernel_rfl) (by rfl) (by first | assumption | decide +kernel) (by decide +kernel) ⟨rfl, rfl, rfl, rfl, rfl, by decide +kernel⟩ ?hw ?hc
  case hr => exact Wk10.run
  case hw => w_witness2
  case hc =>
    refine G.walk_endT (l := PySem.Challenge.rw_sharetags_k10_books_refused) (k := 12) (x := "_law_script") (ts := Wk10.tsL) rfl (by kernel_rfl) (by kernel_rfl) ⟨rfl, by decide, by decide⟩ (fun w h Y => Y) ?F
    intro w mg fa h K KX c Y hmg
    exact Wk10.all_mk Wk10.plain hmg KX Y c
