import PyProof.Rows.All
import Wide.All
import OpenK.AllK
import Wide.FinOn
import HandS.ForMost
import HandS.ForExc
import HandS.Wide
import HandS.IsInst
import HandS.ExcIs
import HandS.CallSlots
import HandS.Lambda
import HandS.EndTab
import HandS.HeadHook4
import HandS.Flow
import HandS.Defaults
import HandS.MakeKw
import HandS.Head2
import HandS.HeadEnd
import HandS.HeadHook2
import HandS.Zip
import PyProof.CollectIter
import PyProof.WalksMore
import HandS.Small
import HandS.SetFor
import HandS.Strs
import HandS.FStr
import HandS.RaiseMore
import HandS.TupMul
import HandS.MakeKwOnly
import KE.KCallOwn
import HandS.HeadWalk
import KE.GoesEnum
import HandS.Conv
import HandS.Style
import HandS.ExcInit
import KE.KExcInit
import HandS.ExcField
import KE.KExcIs
import HandS.Text
import PyProof.Rows.ListMulArg
import HandS.DictComp
import HandS.SetKeys
import KE.KDictDisplayH
import HandS.SortRule
import KE.KAssignIn
import KE.KEqNest
import KE.DataFind
import HandS.Remove
import PyProof.NeKinds
import HandS.Deep
import PyProof.InstNe
import HandS.More
import HandS.HeadHook3
import HandS.SortKw
import KE.DatumOrd
import PyProof.DictUpdate
import HandS.TupAny
import HandS.DictEq
import PyProof.FactsLen
import PyProof.ReprNest
import HandS.Codes
import PySem.Challenge.RW_sharetags_k14_who_is_picked
set_option Elab.async false
set_option linter.all false
set_option maxRecDepth 100000
set_option maxHeartbeats 8000000
namespace G
open PySem L2
inductive D where
  | non | bl (b : Bool) | int (i : Int) | str (x : Str)
  | tup (l : List D) | lst (l : List D) | scr (l : List D) | dic (ks : List Key) (l : List D) | loc (n : Nat)
  | exc (c : Nat) (fs : List (Nat × D))
  | ins (c : Nat) (fs : List (Nat × D))
  | fa (a : Nat)
  | pin (v : V) (d : D)
inductive Cell where
  | dead | lst (l : List D) | dk (kvs : List (Key × D)) | fk (kvs : List (Key × D)) | ts (ks : List (List Int)) | fs (ks : List (List Int)) | obj (c : Nat) (fs : List (Nat × D)) | tbl (p : Str × Option Str) (q : Str)
def Cell.frz : Cell → Bool
  | .fk _ => true
  | .fs _ => true
  | _ => false
def hashL (k : List Int) : Int := reduceHash (Builtin.Tuple.tupleHashOf (k.map hashInt))
def TsP (a : Addr) (xs : List (List Int × Addr)) : Heap → Prop := fun h => ∃ o es ep, h.get? a = some o ∧ o.ExactDict ∧ o.data = .dict es ep ∧ es.toList = xs.map (fun x => ⟨hashL x.1, .ref x.2, .bool true⟩) ∧ (xs.map (·.1)).Nodup
def cnames : List String := ["TagError", "LostError", "ShareError", "NoRatio", "NoText", "NoName", "NoRate", "NoWeight", "NoNumber", "NoTime", "NoTags", "NoSize", "NoClient", "NoLeast", "NoRivals", "NoTruth", "NoDeeds", "NoLog", "NoStretch", "NoLess", "NoPlan", "NoLeasts", "NoWord", "NoRow", "NoOne", "NoAsk", "NoPlace", "Nought", "Stands", "TooMany", "TooMuch", "Full", "Past", "Client", "Bookings", "Seat", "Room", "Server", "Fleet", "Desk", "Tale", "Walk", "Chair", "Replay", "Served", "Glance", "Look"]
def fnames : List String := ["name", "least", "most", "weight", "row", "rate", "place", "taken", "time", "lines", "at", "begins", "begun", "bookings", "books", "by", "came", "chairs", "clocks", "coming", "due_time", "fates", "gate", "heft", "hefts", "held", "here", "kept", "leasts", "lifts", "limit", "line", "marks", "mosts", "number", "rates", "room", "rows", "seats", "ships", "sizes", "speed", "tales", "told", "turned", "until", "why", "size"]
def cname (c : Nat) : Str := Str.ofString (cnames.getD c "")
def fname (c : Nat) : Str := Str.ofString (fnames.getD c "")
abbrev Store := List Cell
abbrev En := List (Option D)
structure Wo where
  al : List Addr
  st : Store
  hp : Hp
  /-- what is being built and nobody sees -/
  hid : List Addr
def Zl (w : Wo) (a : Addr) : Prop := (∃ (n : Nat) (c : Cell), w.al[n]? = some a ∧ w.st[n]? = some c ∧ c ≠ Cell.dead) ∨ a ∈ w.hid
def StO (w : Wo) (a : Addr) (u : HO) : Prop := Rd w.hp a u ∧ ¬ Zl w a
def StP (w : Wo) (a : Addr) (u : HO) : Prop := w.hp a = some u ∧ ¬ Zl w a
def KtT (K : PySem.W.Frag) (a : Addr) (vs : List V) : Prop :=
  ∃ (o : Obj) (its : Array Value) (n : Nat), K.lookup a = some o ∧ o.cls = .type "tuple" ∧ o.data = .seq its n ∧ its.size ≤ sizeLine ∧ Vals vs its.toList
def KtL (K : PySem.W.Frag) (a : Addr) (vs : List V) : Prop :=
  ∃ (o : Obj) (its : Array Value) (n : Nat), K.lookup a = some o ∧ o.cls = .type "list" ∧ o.dict = none ∧ o.data = .seq its n ∧ its.size ≤ sizeLine ∧ Vals vs its.toList
def StT (K : PySem.W.Frag) (w : Wo) (a : Addr) (vs : List V) : Prop := StO w a (.tup vs) ∨ KtT K a vs
def StL (K : PySem.W.Frag) (w : Wo) (a : Addr) (vs : List V) : Prop := StO w a (.lst vs) ∨ KtL K a vs
theorem StT.sq {K : PySem.W.Frag} {w : Wo} {a : Addr} {vs : List V} (h : StT K w a vs) : SqT K w.hp a vs := by
  rcases h with h | h
  · exact .inl h.1
  · exact .inr h
theorem StL.sq {K : PySem.W.Frag} {w : Wo} {a : Addr} {vs : List V} (h : StL K w a vs) : SqL K w.hp a vs := by
  rcases h with h | h
  · exact .inl h.1
  · exact .inr h
def ExcO (a : Addr) (cls : Value) (dd : Option Addr) : HO := .ext fun h => ∃ o vs, h.get? a = some o ∧ o.cls = cls ∧ o.dict = dd ∧ o.data = .fields vs
def XfO (w : Wo) (dd : Option Addr) (gs : List (Str × V)) : Prop := (gs = [] ∧ dd = none) ∨ (gs ≠ [] ∧ ∃ x, dd = some x ∧ StP w x (.xd gs))
mutual
inductive RepD (K : PySem.W.Frag) (mg : Str → Option Value) (w : Wo) : D → V → Prop where
  | non : RepD K mg w .non .non
  | bl (b : Bool) : RepD K mg w (.bl b) (.bl b)
  | int (i : Int) : RepD K mg w (.int i) (.int i)
  | str (x : Str) : RepD K mg w (.str x) (.str x)
  | tup {l : List D} {a : Addr} {vs : List V} : StT K w a vs → RepL K mg w l vs → RepD K mg w (.tup l) (.ref a)
  | lst {l : List D} {a : Addr} {vs : List V} : StP w a (.lst vs) → RepL K mg w l vs → RepD K mg w (.lst l) (.ref a)
  | scr {l : List D} {a : Addr} {vs : List V} : StL K w a vs → RepL K mg w l vs → RepD K mg w (.scr l) (.ref a)
  | dic {ks : List Key} {l : List D} {a : Addr} {vs : List V} : StP w a (.dK (ks.zip vs)) → ks.length = vs.length → RepL K mg w l vs → RepD K mg w (.dic ks l) (.ref a)
  | loc {n : Nat} {a : Addr} : w.al[n]? = some a → RepD K mg w (.loc n) (.ref a)
  | ins {c : Nat} {C a dx : Addr} {fs : List (Nat × D)} {gs : List (Str × V)} : mg (cname c) = some (.ref C) → StP w a (.ins C dx gs) → RepF K mg w fs gs → RepD K mg w (.ins c fs) (.ref a)
  | exc {c : Nat} {C a : Addr} {dd : Option Addr} {fs : List (Nat × D)} {gs : List (Str × V)} : mg (cname c) = some (.ref C) → StP w a (ExcO a (.ref C) dd) → XfO w dd gs → RepF K mg w fs gs → RepD K mg w (.exc c fs) (.ref a)
  | fa (a : Addr) : RepD K mg w (.fa a) (.ref a)
  | pin {d : D} {v : V} : RepD K mg w d v → RepD K mg w (.pin v d) v
inductive RepL (K : PySem.W.Frag) (mg : Str → Option Value) (w : Wo) : List D → List V → Prop where
  | nil : RepL K mg w [] []
  | cons {d : D} {v : V} {l : List D} {vs : List V} : RepD K mg w d v → RepL K mg w l vs → RepL K mg w (d :: l) (v :: vs)
inductive RepF (K : PySem.W.Frag) (mg : Str → Option Value) (w : Wo) : List (Nat × D) → List (Str × V) → Prop where
  | nil : RepF K mg w [] []
  | cons {f : Nat} {d : D} {v : V} {l : List (Nat × D)} {vs : List (Str × V)} : RepD K mg w d v → RepF K mg w l vs → RepF K mg w ((f, d) :: l) ((fname f, v) :: vs)
end
structure Ex0 (w w' : Wo) : Prop where
  al : ∃ t, w'.al = w.al ++ t
  zz : ∀ a, Zl w' a → Zl w a ∨ w.hp a = none
  keep : ∀ a o, w.hp a = some o → ¬ Zl w a → w'.hp a = some o
  tr : ∀ a o, w.hp a = some o → ∃ o', w'.hp a = some o'
def Fz (w w' : Wo) : Prop := ∀ (n : Nat) (a : Addr) (c : Cell), w.al[n]? = some a → w.st[n]? = some c → c.frz = true → w'.st[n]? = some c ∧ w'.hp a = w.hp a
theorem Fz.trans {w w1 w2 : Wo} (x : ∃ t, w1.al = w.al ++ t) (a : Fz w w1) (b : Fz w1 w2) : Fz w w2 := fun n y c h1 h2 h3 => by
  obtain ⟨t, e⟩ := x
  obtain ⟨f1, f2⟩ := a n y c h1 h2 h3
  have h1' : w1.al[n]? = some y := by
    rw [e, List.getElem?_append_left (List.getElem?_eq_some_iff.mp h1).1]; exact h1
  obtain ⟨g1, g2⟩ := b n y c h1' f1 h3
  exact ⟨g1, g2.trans f2⟩
structure Ext (w w' : Wo) : Prop extends Ex0 w w' where
  hid : w'.hid = w.hid
  kh : ∀ a, a ∈ w.hid → w'.hp a = w.hp a
  fz : Fz w w'
theorem Ex0.trans {w w1 w2 : Wo} (a : Ex0 w w1) (b : Ex0 w1 w2) : Ex0 w w2 := by
  refine ⟨?_, fun x h => ?_, fun x o h z => ?_, fun x o h => ?_⟩
  · obtain ⟨t, e⟩ := a.al
    obtain ⟨u, f⟩ := b.al
    exact ⟨t ++ u, by rw [f, e, List.append_assoc]⟩
  · rcases b.zz x h with h | h
    · exact a.zz x h
    · refine .inr ?_
      cases e : w.hp x with
      | none => rfl
      | some o =>
        obtain ⟨o', f⟩ := a.tr x o e
        rw [f] at h; cases h
  · refine b.keep x o (a.keep x o h z) fun q => ?_
    rcases a.zz x q with q | q
    · exact z q
    · rw [h] at q; cases q
  · obtain ⟨o', f⟩ := a.tr x o h
    exact b.tr x o' f
theorem Ext.trans {w w1 w2 : Wo} (a : Ext w w1) (b : Ext w1 w2) : Ext w w2 :=
  ⟨a.toEx0.trans b.toEx0, b.hid.trans a.hid, fun x h => (b.kh x (by rw [a.hid]; exact h)).trans (a.kh x h), a.fz.trans a.al b.fz⟩
theorem Rd.some {H : Hp} {a : Addr} {u : HO} (h : Rd H a u) : ∃ o, H a = some o := by
  rcases h with h | ⟨o, h⟩
  · exact ⟨_, h⟩
  · exact ⟨_, h⟩
theorem StO.ext {w w' : Wo} {a : Addr} {u : HO} (h : StO w a u) (e : Ex0 w w') : StO w' a u := by
  obtain ⟨r, z⟩ := h
  obtain ⟨o, ho⟩ := Rd.some r
  refine ⟨?_, fun q => ?_⟩
  · rcases r with r | ⟨o', r⟩
    · exact .inl (e.keep _ _ r z)
    · exact .inr ⟨o', e.keep _ _ r z⟩
  · rcases e.zz a q with q | q
    · exact z q
    · rw [ho] at q; cases q
theorem StP.ext {w w' : Wo} {a : Addr} {u : HO} (h : StP w a u) (e : Ex0 w w') : StP w' a u := by
  obtain ⟨r, z⟩ := h
  refine ⟨e.keep _ _ r z, fun q => ?_⟩
  rcases e.zz a q with q | q
  · exact z q
  · rw [r] at q; cases q
theorem StT.ext {K : PySem.W.Frag} {w w' : Wo} {a : Addr} {vs : List V} (h : StT K w a vs) (e : Ex0 w w') : StT K w' a vs := h.imp (fun h => h.ext e) id
theorem StL.ext {K : PySem.W.Frag} {w w' : Wo} {a : Addr} {vs : List V} (h : StL K w a vs) (e : Ex0 w w') : StL K w' a vs := h.imp (fun h => h.ext e) id
theorem XfO.ext {w w' : Wo} {dd : Option Addr} {gs : List (Str × V)} (h : XfO w dd gs) (e : Ex0 w w') : XfO w' dd gs := h.imp id fun ⟨z, x, q, s⟩ => ⟨z, x, q, s.ext e⟩
theorem Ex0.get {w w' : Wo} (e : Ex0 w w') {n : Nat} {a : Addr} (h : w.al[n]? = some a) : w'.al[n]? = some a := by
  obtain ⟨t, f⟩ := e.al
  rw [f, List.getElem?_append_left (List.getElem?_eq_some_iff.mp h).1]
  exact h
variable {K : PySem.W.Frag} {mg : Str → Option Value} {w w' : Wo}
mutual
theorem RepD.ext {d : D} {v : V} : RepD K mg w d v → Ex0 w w' → RepD K mg w' d v
  | .non, _ => .non
  | .bl b, _ => .bl b
  | .int i, _ => .int i
  | .str x, _ => .str x
  | .tup h r, e => .tup (h.ext e) (RepL.ext r e)
  | .lst h r, e => .lst (h.ext e) (RepL.ext r e)
  | .scr h r, e => .scr (h.ext e) (RepL.ext r e)
  | .dic h z r, e => .dic (h.ext e) z (RepL.ext r e)
  | .loc h, e => .loc (e.get h)
  | .ins g h r, e => .ins g (h.ext e) (RepF.ext r e)
  | .exc g h x r, e => .exc g (h.ext e) (x.ext e) (RepF.ext r e)
  | .fa a, _ => .fa a
  | .pin h, e => .pin (RepD.ext h e)
theorem RepL.ext {l : List D} {vs : List V} : RepL K mg w l vs → Ex0 w w' → RepL K mg w' l vs
  | .nil, _ => .nil
  | .cons r t, e => .cons (RepD.ext r e) (RepL.ext t e)
theorem RepF.ext {l : List (Nat × D)} {vs : List (Str × V)} : RepF K mg w l vs → Ex0 w w' → RepF K mg w' l vs
  | .nil, _ => .nil
  | .cons r t, e => .cons (RepD.ext r e) (RepF.ext t e)
end
theorem RepL.length {l : List D} {vs : List V} : RepL K mg w l vs → l.length = vs.length
  | .nil => rfl
  | .cons _ t => by rw [List.length_cons, List.length_cons, RepL.length t]
theorem RepL.get {l : List D} {vs : List V} {i : Nat} {d : D} : RepL K mg w l vs → l[i]? = some d → ∃ v, vs[i]? = some v ∧ RepD K mg w d v
  | .nil, h => by simp at h
  | .cons r t, h => by
    cases i with
    | zero => simp at h; subst h; exact ⟨_, by simp, r⟩
    | succ i =>
      obtain ⟨v, e, q⟩ := RepL.get (i := i) t (by simpa using h)
      exact ⟨v, by simpa using e, q⟩
theorem RepL.set {l : List D} {vs : List V} {d : D} {v : V} (q : RepD K mg w d v) : ∀ (i : Nat), RepL K mg w l vs → RepL K mg w (l.set i d) (vs.set i v)
  | _, .nil => .nil
  | 0, .cons _ t => .cons q t
  | i + 1, .cons r t => .cons r (RepL.set q i t)
inductive RepK (κ : Type) (K : PySem.W.Frag) (mg : Str → Option Value) (w : Wo) : List (κ × D) → List (κ × V) → Prop where
  | nil : RepK κ K mg w [] []
  | cons {f : κ} {d : D} {v : V} {l : List (κ × D)} {vs : List (κ × V)} : RepD K mg w d v → RepK κ K mg w l vs → RepK κ K mg w ((f, d) :: l) ((f, v) :: vs)
theorem RepK.ext {κ : Type} {l : List (κ × D)} {vs : List (κ × V)} : RepK κ K mg w l vs → Ex0 w w' → RepK κ K mg w' l vs
  | .nil, _ => .nil
  | .cons r t, e => .cons (r.ext e) (RepK.ext t e)
def CellR (K : PySem.W.Frag) (mg : Str → Option Value) (w : Wo) (a : Addr) : Cell → Prop
  | .dead => True
  | .lst l => ∃ vs, w.hp a = some (.lst vs) ∧ RepL K mg w l vs
  | .dk kvs => ∃ us, w.hp a = some (.dK us) ∧ RepK Key K mg w kvs us
  | .fk kvs => ∃ o us, w.hp a = some (.frz o (.dK us)) ∧ RepK Key K mg w kvs us
  | .ts ks => (a == sysModules) = false ∧ ks.length ≤ sizeLine ∧ ∃ xs : List (List Int × Addr), xs.map (·.1) = ks ∧ w.hp a = some (.ext (TsP a xs)) ∧ ∀ x, x ∈ xs → StT K w x.2 (x.1.map V.int)
  | .fs ks => (a == sysModules) = false ∧ ks.length ≤ sizeLine ∧ ∃ (o : Obj) (xs : List (List Int × Addr)), xs.map (·.1) = ks ∧ w.hp a = some (.frz o (.ext (TsP a xs))) ∧ ∀ x, x ∈ xs → StT K w x.2 (x.1.map V.int)
  | .obj c fs => ∃ C dx gs, mg (cname c) = some (.ref C) ∧ w.hp a = some (.ins C dx gs) ∧ RepF K mg w fs gs
  | .tbl p q => a = (He.cT K p).2 ∧ ∃ ps : Array Value, w.hp a = some (.tbl ps) ∧ TriplesOk ps.toList ∧ ∀ (pos : Pos) (cv : Value), codeAmong pos ps.toList = some cv → ∃ c o, cv = .ref c ∧ w.hp c = some (.frz o (LamX.CodeO c q)) ∧ ¬ Zl w c
theorem CellR.ext {a : Addr} {c : Cell} (h : CellR K mg w a c) (e : Ex0 w w') (k : w'.hp a = w.hp a) : CellR K mg w' a c := by
  cases c with
  | dead => trivial
  | lst l => obtain ⟨vs, p, r⟩ := h; exact ⟨vs, k.trans p, r.ext e⟩
  | dk l => obtain ⟨vs, p, r⟩ := h; exact ⟨vs, k.trans p, r.ext e⟩
  | fk l => obtain ⟨o, vs, p, r⟩ := h; exact ⟨o, vs, k.trans p, r.ext e⟩
  | ts l => obtain ⟨h1, h2, xs, h3, h4, h5⟩ := h; exact ⟨h1, h2, xs, h3, k.trans h4, fun x hx => (h5 x hx).ext e⟩
  | fs l => obtain ⟨h1, h2, o, xs, h3, h4, h5⟩ := h; exact ⟨h1, h2, o, xs, h3, k.trans h4, fun x hx => (h5 x hx).ext e⟩
  | obj c l => obtain ⟨C, dx, gs, g, p, r⟩ := h; exact ⟨C, dx, gs, g, k.trans p, r.ext e⟩
  | tbl _ q =>
    obtain ⟨ea, ps, p, t, r⟩ := h
    refine ⟨ea, ps, k.trans p, t, fun pos cv hc => ?_⟩
    obtain ⟨c, o, e1, e2, e3⟩ := r pos cv hc
    refine ⟨c, o, e1, e.keep _ _ e2 e3, fun z => ?_⟩
    rcases e.zz c z with z | z
    · exact e3 z
    · rw [e2] at z; cases z
structure Rep (K : PySem.W.Frag) (mg : Str → Option Value) (w : Wo) : Prop where
  len : w.al.length = w.st.length
  nd : w.al.Nodup
  tr : ∀ a, a ∈ w.al → ∃ o, w.hp a = some o
  cell : ∀ (n : Nat) (a : Addr) (c : Cell), w.al[n]? = some a → w.st[n]? = some c → CellR K mg w a c
  hid : ∀ a, a ∈ w.hid → a ∉ w.al ∧ ∃ o, w.hp a = some o
structure RepE (K : PySem.W.Frag) (mg : Str → Option Value) (w : Wo) (e : En) (s : St) : Prop where
  len : e.length = s.length
  get : ∀ (i : Nat) (d : D), e[i]? = some (some d) → ∃ v, s[i]? = some (some v) ∧ RepD K mg w d v
theorem RepE.ext {e : En} {s : St} (h : RepE K mg w e s) (x : Ex0 w w') : RepE K mg w' e s :=
  ⟨h.len, fun i d g => let ⟨v, p, r⟩ := h.get i d g; ⟨v, p, r.ext x⟩⟩
theorem RepE.set {e : En} {s : St} {d : D} {v : V} (h : RepE K mg w e s) (i : Nat) (r : RepD K mg w d v) : RepE K mg w (e.set i (some d)) (s.set i (some v)) := by
  refine ⟨by rw [List.length_set, List.length_set]; exact h.len, fun j d' g => ?_⟩
  by_cases hj : j = i
  · subst hj
    by_cases hl : j < e.length
    · rw [List.getElem?_set_self hl] at g
      cases g
      exact ⟨v, by rw [List.getElem?_set_self (by rw [← h.len]; exact hl)], r⟩
    · rw [List.getElem?_eq_none (by simpa using hl)] at g; cases g
  · rw [List.getElem?_set_ne (Ne.symm hj)] at g ⊢
    exact h.get j d' g
inductive Res (β : Type) where
  | ok (b : β) (S : Store)
  | exc (e : D) (S : Store)
  | stuck
def Res.bind {β γ : Type} (r : Res β) (k : β → Store → Res γ) : Res γ := match r with
  | .ok b S => k b S
  | .exc e S => .exc e S
  | .stuck => .stuck
def RepX (K : PySem.W.Frag) (mg : Str → Option Value) (w : Wo) (e : D) (cls : Value) (dd : Option Addr) : Prop :=
  ∃ c C fs gs, e = .exc c fs ∧ mg (cname c) = some (.ref C) ∧ cls = .ref C ∧ XfO w dd gs ∧ RepF K mg w fs gs
theorem RepX.ext {e : D} {cls : Value} {dd : Option Addr} (h : RepX K mg w e cls dd) (x : Ex0 w w') : RepX K mg w' e cls dd := by
  obtain ⟨c, C, fs, gs, h1, h2, h3, h4, h5⟩ := h
  exact ⟨c, C, fs, gs, h1, h2, h3, h4.ext x, h5.ext x⟩
def Post {β γ : Type} (Rl : Wo → β → γ → Prop) (K : PySem.W.Frag) (mg : Str → Option Value) (w : Wo) (r : Res β) (Q : γ → Hp → Prop) (E : XK) : Prop := match r with
  | .ok b S => ∀ w' v, Ext w w' → Rep K mg w' → w'.st = S → Rl w' b v → Q v w'.hp
  | .exc e S => ∀ w' cls dd, Ext w w' → Rep K mg w' → w'.st = S → RepX K mg w' e cls dd → E cls dd w'.hp
  | .stuck => False
theorem Post.ext {β γ : Type} {Rl : Wo → β → γ → Prop} {r : Res β} {Q : γ → Hp → Prop} {E : XK} (h : Post Rl K mg w r Q E) (x : Ext w w') : Post Rl K mg w' r Q E := by
  cases r with
  | ok b S => exact fun w2 v e => h w2 v (x.trans e)
  | exc e S => exact fun w2 v d e => h w2 v d (x.trans e)
  | stuck => exact h
theorem Post.imp {β γ : Type} {Rl : Wo → β → γ → Prop} {r : Res β} {Q Q' : γ → Hp → Prop} {E : XK} (h : Post Rl K mg w r Q E) (i : ∀ v H, Q v H → Q' v H) : Post Rl K mg w r Q' E := by
  cases r with
  | ok b S => exact fun w2 v e R s r => i _ _ (h w2 v e R s r)
  | exc e S => exact h
  | stuck => exact h
def Mid {β γ δ ε : Type} (Rl : Wo → β → γ → Prop) (Rm : Wo → δ → ε → Prop) (K : PySem.W.Frag) (mg : Str → Option Value) (w : Wo) (k : β → Store → Res δ) (Q : ε → Hp → Prop) (E : XK) : γ → Hp → Prop := fun v H =>
  ∃ w1 b, w1.hp = H ∧ Ext w w1 ∧ Rep K mg w1 ∧ Rl w1 b v ∧ Post Rm K mg w1 (k b w1.st) Q E
theorem Post.bind {β γ δ ε : Type} {Rl : Wo → β → γ → Prop} {Rm : Wo → δ → ε → Prop} {r : Res β} {k : β → Store → Res δ} {Q : ε → Hp → Prop} {E : XK} (h : Post Rm K mg w (r.bind k) Q E) :
    Post Rl K mg w r (Mid Rl Rm K mg w k Q E) E := by
  cases r with
  | ok b S =>
    intro w1 v e R s q
    subst s
    exact ⟨w1, b, rfl, e, R, q, Post.ext (Rl := Rm) h e⟩
  | exc e S => exact h
  | stuck => exact h
end G
namespace G
open PySem L2
abbrev EM := En → Store → Res D
abbrev TM := En → Store → Res Bool
end G
namespace G
open PySem L2
section
variable {X : Cx} {W : WX} {a b c e o : Expr} {es : List Expr} {ma mb mc me : EM} {ta tb : TM} {pos : Pos}
variable {K : PySem.W.Frag} {mg : Str → Option Value} {w : Wo}
theorem RepL.at {l : List D} {vs : List V} {i : Int} {d : D} (h : RepL K mg w l vs) (e : atI l i = some d) : ∃ v, atI vs i = some v ∧ RepD K mg w d v := by
  unfold atI at e ⊢
  rw [← h.length]
  cases q : ixN l.length i with
  | none => rw [q] at e; cases e
  | some j =>
    rw [q] at e
    exact h.get e
def lenD (S : Store) : D → Option Nat
  | .str x => if x.length ≤ sizeLine then some x.length else none
  | .tup l => some l.length
  | .lst l => some l.length
  | .scr l => some l.length
  | .loc n => match S[n]? with
    | some (.lst l) => some l.length
    | _ => none
  | _ => none
theorem RepD.len {d : D} {v : V} {n : Nat} (R : Rep K mg w) (h : RepD K mg w d v) (e : lenD w.st d = some n) : LenV K v w.hp n := by
  cases h with
  | str x =>
    replace e : (if x.length ≤ sizeLine then some x.length else none) = some n := e
    split at e
    · cases e; exact ⟨by assumption, rfl⟩
    · cases e
  | tup s r => cases e; exact .inr ⟨_, s.sq, r.length⟩
  | lst s r => cases e; exact .inl ⟨_, SqL.of s.1, r.length⟩
  | scr s r => cases e; exact .inl ⟨_, s.sq, r.length⟩
  | @loc m a hn =>
    replace e : (match w.st[m]? with
      | some (.lst l) => some l.length
      | _ => none) = some n := e
    split at e
    · rename_i l hl
      cases e
      obtain ⟨vs, p, r⟩ := R.cell _ _ _ hn hl
      exact .inl ⟨vs, SqL.of p, r.length⟩
    · cases e
  | _ => cases e
def seqD (S : Store) : D → Option (List D)
  | .lst l => some l
  | .scr l => some l
  | .loc n => match S[n]? with
    | some (.lst l) => some l
    | _ => none
  | _ => none
theorem RepD.seq {d : D} {v : V} {l : List D} (R : Rep K mg w) (h : RepD K mg w d v) (e : seqD w.st d = some l) : ∃ a vs, v = .ref a ∧ SqL K w.hp a vs ∧ RepL K mg w l vs := by
  cases h with
  | lst s r => cases e; exact ⟨_, _, rfl, SqL.of s.1, r⟩
  | scr s r => cases e; exact ⟨_, _, rfl, s.sq, r⟩
  | @loc m a hn =>
    replace e : (match w.st[m]? with
      | some (.lst l) => some l
      | _ => none) = some l := e
    split at e
    · rename_i l hl
      cases e
      obtain ⟨vs, p, r⟩ := R.cell _ _ _ hn hl
      exact ⟨_, vs, rfl, SqL.of p, r⟩
    · cases e
  | _ => cases e
inductive Ty where
  | int | bool | str | tuple | list | dict
def Ty.nm : Ty → String
  | .int => "int" | .bool => "bool" | .str => "str" | .tuple => "tuple" | .list => "list" | .dict => "dict"
inductive Tn where
  | non | bool | int | str | tuple | list | dict
def Tn.nm : Tn → String
  | .non => "NoneType" | .bool => "bool" | .int => "int" | .str => "str" | .tuple => "tuple" | .list => "list" | .dict => "dict"
end
end G
namespace G
open PySem L2
inductive SRes where
  | nxt (e : En) (S : Store)
  | ret (d : D) (S : Store)
  | brk (e : En) (S : Store)
  | cnt (e : En) (S : Store)
  | exc (x : D) (e : En) (S : Store)
  | stuck
abbrev SM := En → Store → SRes
def PostS (X : Cx) (W : WX) (w : Wo) (r : SRes) (D : Ends) : Prop := match r with
  | .nxt e S => ∀ w' s', Ext w w' → Rep X.K X.mg w' → w'.st = S → RepE X.K X.mg w' e s' → D.nx s' w'.hp
  | .ret d S => ∀ w' v, Ext w w' → Rep X.K X.mg w' → w'.st = S → RepD X.K X.mg w' d v → D.rt v w'.hp
  | .brk e S => ∀ w' s', Ext w w' → Rep X.K X.mg w' → w'.st = S → RepE X.K X.mg w' e s' → D.bk s' w'.hp
  | .cnt e S => ∀ w' s', Ext w w' → Rep X.K X.mg w' → w'.st = S → RepE X.K X.mg w' e s' → D.ct s' w'.hp
  | .exc x e S => ∀ w' s' cls dd, Ext w w' → Rep X.K X.mg w' → w'.st = S → RepE X.K X.mg w' e s' → RepX X.K X.mg w' x cls dd → W cls dd s' w'.hp
  | .stuck => False
def tS (X : Cx) (W : WX) (m : SM) : TS := fun D s H => ∃ w e, w.hp = H ∧ Rep X.K X.mg w ∧ RepE X.K X.mg w e s ∧ PostS X W w (m e w.st) D
def sE {β : Type} (r : Res β) (e : En) (k : β → Store → SRes) : SRes := match r with
  | .ok b S => k b S
  | .exc x S => .exc x e S
  | .stuck => .stuck
def sS (r : SRes) (k : SM) : SRes := match r with
  | .nxt e S => k e S
  | r => r
section
variable {X : Cx} {W : WX} {a b c e o : Expr} {es : List Expr} {ma mb mc me : EM} {ta tb : TM} {pos : Pos} {st : Stmt} {rest : List Stmt} {m n : SM}
theorem PostS.ext {w w' : Wo} {r : SRes} {D : Ends} (h : PostS X W w r D) (x : Ext w w') : PostS X W w' r D := by
  cases r with
  | nxt e S => exact fun w2 s e => h w2 s (x.trans e)
  | ret e S => exact fun w2 s e => h w2 s (x.trans e)
  | brk e S => exact fun w2 s e => h w2 s (x.trans e)
  | cnt e S => exact fun w2 s e => h w2 s (x.trans e)
  | exc y e S => exact fun w2 s c d e => h w2 s c d (x.trans e)
  | stuck => exact h
def MidS {β γ : Type} (Rl : Wo → β → γ → Prop) (X : Cx) (W : WX) (w : Wo) (k : β → Store → SRes) (D : Ends) : γ → Hp → Prop := fun v H =>
  ∃ w1 b, w1.hp = H ∧ Ext w w1 ∧ Rep X.K X.mg w1 ∧ Rl w1 b v ∧ PostS X W w1 (k b w1.st) D
theorem PostS.of {β γ : Type} {Rl : Wo → β → γ → Prop} {w : Wo} {r : Res β} {en : En} {s : St} {k : β → Store → SRes} {D : Ends} (h : PostS X W w (sE r en k) D) (E : RepE X.K X.mg w en s) :
    Post Rl X.K X.mg w r (MidS Rl X W w k D) (fun cls dd H' => W cls dd s H') := by
  cases r with
  | ok b S =>
    intro w1 v x R st q
    subst st
    exact ⟨w1, b, rfl, x, R, q, PostS.ext h x⟩
  | exc y S => exact fun w1 cls dd x R st q => h w1 s cls dd x R st (E.ext x.toEx0) q
  | stuck => exact h
theorem PostS.s {w : Wo} {r : SRes} {n : SM} {D : Ends} (h : PostS X W w (sS r n) D) : PostS X W w r { D with nx := tS X W n D } := by
  cases r with
  | nxt e S =>
    intro w1 s x R st E
    subst st
    exact ⟨w1, e, rfl, R, E, PostS.ext h x⟩
  | ret e S => exact h
  | brk e S => exact h
  | cnt e S => exact h
  | exc y e S => exact h
  | stuck => exact h
end
end G
namespace G
open PySem L2
inductive Tg where
  | nm (i : Nat)
  | tp (is : List Nat)
def gNs : List Nat → TGs
  | [] => gNil
  | i :: r => gCons (gName i) (gNs r)
def Tg.r (K : PySem.W.Frag) : Tg → TG
  | .nm i => gName i
  | .tp is => gTup K is.length (gNs is)
def putAll : List Nat → List D → En → Option En
  | [], [], e => some e
  | i :: is, d :: ds, e => putAll is ds (e.set i (some d))
  | _, _, _ => none
def Tg.m : Tg → D → En → Option En
  | .nm i, d, e => some (e.set i (some d))
  | .tp is, .tup ds, e => putAll is ds e
  | _, _, _ => none
def Tg.ix : Tg → List Nat
  | .nm i => [i]
  | .tp is => is
section
variable {X : Cx} {W : WX} {a b c e o : Expr} {es : List Expr} {ma mb mc me : EM} {ta tb : TM} {pos : Pos}
variable {K : PySem.W.Frag} {mg : Str → Option Value} {w : Wo}
theorem gNs_ok : ∀ (is : List Nat) (ds : List D) (us : List V) (en en' : En) (s : St) (H : Hp) (Q : St → Hp → Prop), RepE K mg w en s → RepL K mg w ds us → putAll is ds en = some en' →
    (∀ s', RepE K mg w en' s' → s'.length = s.length → (∀ j, j ∉ is → s'[j]? = s[j]?) → Q s' H) → gNs is us s H Q
  | [], ds, us, en, en', s, H, Q, E, R, h, q => by
    cases ds with
    | nil =>
      cases h
      cases R
      exact ⟨rfl, q s E rfl fun _ _ => rfl⟩
    | cons _ _ => cases h
  | i :: is, ds, us, en, en', s, H, Q, E, R, h, q => by
    cases ds with
    | nil => cases h
    | cons d ds =>
      cases R with
      | cons r R =>
        refine ⟨_, _, rfl, ?_⟩
        refine gNs_ok is ds _ _ en' _ H Q (E.set i r) R h fun s' E' hl hj => q s' E' (by rw [hl, List.length_set]) fun j hn => ?_
        rw [hj j fun z => hn (List.mem_cons_of_mem _ z), List.getElem?_set_ne fun z : i = j => hn (by rw [z]; exact List.mem_cons_self)]
theorem Tg.ok (tg : Tg) {d : D} {v : V} {en en' : En} {s : St} {Q : St → Hp → Prop} (E : RepE K mg w en s) (R : RepD K mg w d v) (h : tg.m d en = some en')
    (q : ∀ s', RepE K mg w en' s' → s'.length = s.length → (∀ j, j ∉ tg.ix → s'[j]? = s[j]?) → Q s' w.hp) : tg.r K v s w.hp Q := by
  cases tg with
  | nm i =>
    cases h
    exact q _ (E.set i R) (by rw [List.length_set]) fun j hj => List.getElem?_set_ne fun z => hj (by rw [z]; exact List.mem_cons_self)
  | tp is =>
    cases R with
    | tup st rl =>
      have hl : ∀ (is : List Nat) (ds : List D) (en en' : En), putAll is ds en = some en' → is.length = ds.length := by
        intro is
        induction is with
        | nil => intro ds en en' h; cases ds with
          | nil => rfl
          | cons _ _ => cases h
        | cons i is ih => intro ds en en' h; cases ds with
          | nil => cases h
          | cons _ _ => exact congrArg Nat.succ (ih _ _ _ h)
      exact ⟨_, _, rfl, st.sq, by rw [← rl.length]; exact (hl _ _ _ _ h).symm, gNs_ok is _ _ en en' s w.hp Q E rl h q⟩
    | _ => cases h
end
end G
namespace G
open PySem L2 PySem.Spec
abbrev FM := List D → Store → Res D
def spM (K : PySem.W.Frag) (mg : Str → Option Value) (n : Nat) (f : FM) : Sp := fun vs H Q E => vs.length = n ∧ ∃ w ds, w.hp = H ∧ Rep K mg w ∧ RepL K mg w ds vs ∧ Post (RepD K mg) K mg w (f ds w.st) Q E
structure RoomG (k : Nat) (A : Around) : Prop where
  r : Room k A
  gd : 10 ≤ k → A.guards = some []
structure Cg (X : Cx) (W : WX) (k : Nat) : Prop where
  calm : X.calm = true
  nd : X.N.Nodup
  tk : Takes X W
  po : PassesOwn (model X.prog X.w) X.A X.env X.xe
  rm : RoomG k X.A
  hs : X.stack = X.env :: X.outer
  hf : X.env.frame = some X.env.locals
  em : X.ex = []
section
variable {P : Program} {w0 : World} {K : PySem.W.Frag} {mg : Str → Option Value} {base : Heap}
structure FnG (P : Program) (w0 : World) (K : PySem.W.Frag) (mg : Str → Option Value) (base : Heap) (k : Nat) (f : Addr) (fd : FuncData) (ps : List Str) (sp : Sp) : Prop where
  len : ∀ vs H Q E, sp vs H Q E → vs.length = ps.length
  run : ∀ (A : Around) (outer : List Env) (s : Shared) (H : Hp) (args : Args) (us : List Value) (vs : List V) (Q : VK) (E : XK), RoomG k A → Env0 P w0 K mg base A outer s H → BindsTo s fd args (ps.zip us) → Vals vs us → sp vs H Q E →
    codeAny (model P w0) A (.call (.ref f) args) (CR (L2.CX P w0) outer P w0 H s Q E) s
structure Df (P : Program) (w0 : World) (K : PySem.W.Frag) (mg : Str → Option Value) (base : Heap) (x : Str) (ps : List Str) (k : Nat) (m : FM) : Prop where
  ex : ∃ f fd, mg x = some (.ref f) ∧ PySem.W.keepIn K (.ref f) = true ∧ Binds K fd ps [] ∧ FnG P w0 K mg base k f fd ps (spM K mg ps.length m)
end
end G
namespace G
open PySem L2 PySem.Spec
section
variable {X : Cx} {W : WX} {a b c e o : Expr} {es : List Expr} {ma mb mc me : EM} {ta tb : TM} {pos : Pos} {x : Str} {p : Pos} {j k : Nat}
theorem Cg.tr (c : Cg X W k) {pn : List (Addr × Obj)} {xe : Value → Shared → Prop} {W' : WX} (t : Takes (X.tr pn xe) W') (po : PassesOwn (model X.prog X.w) X.A X.env xe) : Cg (X.tr pn xe) W' k := ⟨c.calm, c.nd, t, po, c.rm, c.hs, c.hf, c.em⟩
end
end G
namespace G
open PySem L2 PySem.Spec
abbrev bmValueError : List Value := [.type "ValueError", .type "Exception", .type "BaseException", .type "object"]
abbrev bmArithmeticError : List Value := [.type "ArithmeticError", .type "Exception", .type "BaseException", .type "object"]
end G
namespace G
open PySem L2 PySem.Spec PyProof.Rows
def refsX (o : Obj) : List Addr := (match o.dict with
  | some d => [d]
  | none => []) ++ match o.data with
  | .seq its _ => its.toList.flatMap He.refV
  | .dict es _ => es.toList.flatMap fun e => He.refV e.val
  | .func fd => He.refV fd.code ++ (He.refV fd.defaults ++ He.refV fd.kwdefaults)
  | .cls cd => [cd.ns]
  | _ => []
def lvX (g : Addr → Option Obj) : Nat → List Addr → List Addr
  | 0, as => as
  | n + 1, as => as ++ lvX g n (as.flatMap fun a => match g a with
    | some o => refsX o
    | none => [])
abbrev Fx : Type := PySem.W.Frag → Bool
def obsX (fx : List Fx) (fn : List He.DefD) (K : PySem.W.Frag) : He.AlD := ((fx.all fun f => f K) && fn.all fun d => d.ok K, fn.map fun d => He.fnW K d.at_)
def SaysX (fx : List Fx) (fn : List He.DefD) (K : PySem.W.Frag) : Prop := obsX fx fn K = He.valD fn
def oneFree (K : PySem.W.Frag) (x : Str) : Bool := He.eqO (PySem.W.nsIn K mainGlobals x) (some none)
def freesB (l : List Str) : Fx := fun K => l.all fun x => oneFree K x
def oneGlo (K : PySem.W.Frag) (x : Str) : Bool := He.eqO (PySem.W.nsIn K mainGlobals x) (some (some (.ref (He.ga K x))))
def glosB (l : List Str) : Fx := fun K => l.all fun x => oneGlo K x
def intB (x : Str) (i : Int) : Fx := fun K => match PySem.W.nsIn K mainGlobals x with
  | some (some (.int j _)) => decide (j = i)
  | _ => false
def strB (x z : Str) : Fx := fun K => match PySem.W.nsIn K mainGlobals x with
  | some (some (.str y _)) => decide (y = z)
  | _ => false
section
variable {K : PySem.W.Frag} {h : Heap} {mg : Str → Option Value}
def tupX (x : Str) (vs : List V) : Fx := fun K => match K.lookup (He.ga K x) with
  | some ⟨.type c, _, .seq its _, _⟩ => decide (c = "tuple") && (decide (its.size ≤ sizeLine) && He.relAll vs its.toList)
  | _ => false
def xcoB (x : Str) (bm : List Value) (nw : String) : Fx := fun K => PySem.W.excIn K (He.ga K x) bm nw && (PySem.W.keepIn K (.ref (He.ga K x)) && (decide (PySem.W.subIn K (.ref (He.ga K x)) (.type "BaseException") = some true) && decide (PySem.W.typeIn K (.ref (He.ga K x)) = some (.type "type"))))
end
end G
namespace G
open PySem L2 PySem.Spec
end G
namespace G
open PySem L2 PySem.Spec
theorem fname_tab : ((List.range 48).all fun g => (List.range 48).all fun f => g == f || !(fname g == fname f)) = true := by decide +kernel
theorem fname_emp : ((List.range 48).all fun f => !((Str.ofString "") == fname f)) = true := by decide +kernel
theorem fname_big {g : Nat} (h : ¬ g < 48) : fname g = Str.ofString "" := by
  unfold fname
  rw [List.getD_eq_getElem?_getD, List.getElem?_eq_none (by show 48 ≤ g; omega)]
  rfl
theorem fname_ne {f g : Nat} (hf : f < 48) (h : g ≠ f) : fname g ≠ fname f := by
  intro e
  by_cases hg : g < 48
  · have := List.all_eq_true.mp (List.all_eq_true.mp fname_tab g (List.mem_range.mpr hg)) f (List.mem_range.mpr hf)
    rw [e] at this
    simp [h] at this
  · have := List.all_eq_true.mp fname_emp f (List.mem_range.mpr hf)
    rw [fname_big hg] at e
    rw [e] at this
    simp at this
section
variable {K : PySem.W.Frag} {mg : Str → Option Value} {w : Wo}
theorem RepF.get {fs : List (Nat × D)} {gs : List (Str × V)} {f : Nat} {d : D} (hf : f < 48) : RepF K mg w fs gs → fs.lookup f = some d → ∃ v, gs.lookup (fname f) = some v ∧ RepD K mg w d v
  | .nil, h => by cases h
  | @RepF.cons _ _ _ g d' v' l vs r t, h => by
    rw [List.lookup_cons] at h
    by_cases e : f = g
    · subst e
      simp only [beq_self_eq_true] at h
      cases h
      exact ⟨v', by rw [List.lookup_cons]; simp, r⟩
    · have hb : (f == g) = false := beq_eq_false_iff_ne.mpr e
      rw [hb] at h
      obtain ⟨v, h1, h2⟩ := RepF.get hf t h
      refine ⟨v, ?_, h2⟩
      have hc : (fname f == fname g) = false := beq_eq_false_iff_ne.mpr (Ne.symm (fname_ne hf (Ne.symm e)))
      rw [List.lookup_cons, hc]
      exact h1
def insD (S : Store) : D → Option (Nat × List (Nat × D))
  | .ins c fs => some (c, fs)
  | .loc n => match S[n]? with
    | some (.obj c fs) => some (c, fs)
    | _ => none
  | _ => none
end
end G
namespace G
open PySem L2 PySem.Spec
end G
namespace G
open PySem L2 PySem.Spec RZ
end G
namespace G
open PySem L2 PySem.Spec PyProof.Rows
def clsSt (st : Stmt) (j : Nat) : Stmt := match st with
  | .ClassDef _ _ _ body _ _ _ _ _ _ _ => body.getD j (.Pass ⟨0, 0, 0, 0⟩)
  | _ => .Pass ⟨0, 0, 0, 0⟩
def clsqB (x : Str) : Fx := fun K => (He.Fa.cls x).ok K && (He.eqO (PySem.W.findIn K (.ref (He.ga K x)) "__class__") (some (some (.builtin "object.__class__"))) && (He.eqO (PySem.W.specialIn K (.builtin "object.__class__") "__get__") (some (some (.builtin "getset_descriptor.__get__"))) &&
  (decide (PySem.W.takesIn K (.builtin "object.__class__") = some true) && decide (PySem.W.mroIn K (He.ga K x) (.type "object") = some true))))
def allTn : List Tn := [.non, .bool, .int, .str, .tuple, .list, .dict]
section
variable {K : PySem.W.Frag} {h : Heap} {mg : Str → Option Value}
def ownsB (ns : List Nat) : Fx := fun K => ns.all fun n => oneGlo K (cname n) && clsqB (cname n) K
def noatB (f : Nat) (l : List Nat) : Fx := fun K => l.all fun n => (He.Fa.noat (cname n) (fname f)).ok K
def isoB (cn : Nat) (ns : List Nat) : Fx := fun K => (allTn.all fun t => decide (PySem.W.kitOne K (.type t.nm) (.ref (He.ga K (cname cn))) = some false)) && ns.all fun n => decide (PySem.W.kitOne K (.ref (He.ga K (cname n))) (.ref (He.ga K (cname cn))) = some (n == cn))
def mkB (x : Str) : Fx := fun K => (He.Fa.mkr x).ok K
def mtB (x m : Str) : Fx := fun K => (He.Fa.meth x m).ok K
end
end G
namespace G
open PySem L2 PySem.Spec PyProof.Rows
end G
namespace G
open PySem L2 PySem.Spec
def isCn (cn : Nat) (S : Store) (d : D) : Bool := match insD S d with
  | some (c, _) => c == cn
  | none => false
end G
namespace G
open PySem L2 PySem.Spec PyProof.Rows
def valD (kvs : List (Key × D)) (k : Key) : Option D := (kvs.find? fun kv => decide (kv.1 = k)).map (·.2)
section
variable {K : PySem.W.Frag} {mg : Str → Option Value} {w : Wo}
theorem RepK.val {k : Key} {d : D} {kvs : List (Key × D)} {us : List (Key × V)} : RepK Key K mg w kvs us → valD kvs k = some d → ∃ v, valV us k = some v ∧ RepD K mg w d v
  | .nil, h => by cases h
  | @RepK.cons _ _ _ _ f d' v' l vs r t, h => by
    by_cases e : f = k
    · have h1 : valD ((f, d') :: l) k = some d' := by simp [valD, List.find?_cons, e]
      rw [h1] at h
      cases h
      exact ⟨v', valV_pos e, r⟩
    · have h1 : valD ((f, d') :: l) k = valD l k := by simp [valD, List.find?_cons, e]
      rw [h1] at h
      obtain ⟨v, q1, q2⟩ := RepK.val t h
      exact ⟨v, by rw [valV_neg (by exact e)]; exact q1, q2⟩
end
end G
namespace G
open PySem L2 PySem.Spec PyProof.Rows
end G
namespace G
open PySem L2 PySem.Spec
end G
namespace G
open PySem L2 PySem.Spec PyProof.Rows
end G
namespace G
open PySem L2 PySem.Spec
end G
namespace G
open PySem L2 PySem.Spec
instance : Inhabited V := ⟨.non⟩
section
variable {X : Cx} {W : WX} {a b c e l : Expr} {es : List Expr} {ma mb mc me : EM} {pos : Pos} {x : Str} {p : Pos} {j k : Nat} {ps ks : List Str} {f : FM}
instance {n : Nat} : Inhabited { vs : List V // vs.length = n } := ⟨⟨List.replicate n .non, by simp⟩⟩
end
end G
namespace G
open PySem L2 PySem.Spec PyProof.Rows
end G
namespace G
open PySem L2 PySem.Spec PyProof.Rows
end G
namespace G
open PySem L2 PySem.Spec PyProof.Rows
end G
namespace G
open PySem L2 PySem.Spec PyProof.Rows
abbrev Mk2 : Type := He.Defn × Str
def al0 (K : PySem.W.Frag) (ts : List Mk2) : List Addr := ts.map fun t => (He.cT K t.1).2
def obsTG (n : Nat) (fx : List Fx) (fn : List He.DefD) (tf : List He.Defn) (g : Addr → Option Obj) : He.AlD × Bool := (obsX fx fn (He.frT g (lvX g n [mainGlobals] ++ [cStatics])), He.tabsB g tf (He.frT g (lvX g n [mainGlobals] ++ [cStatics])))
structure SaysT (fx : List Fx) (fn : List He.DefD) (tf : List He.Defn) (h : Heap) (K : PySem.W.Frag) : Prop where
  s : SaysX fx fn K
  hd : ∀ p ∈ tf, PySem.W.codeHdIn K (He.cT K p).1 (He.cT K p).2 = true
  out : ∀ p ∈ tf, K.lookup (He.cT K p).2 = none
  empty : ∀ p ∈ tf, h.get? (He.cT K p).2 = some { cls := .none, data := .fields #[] }
theorem saysT_of {n : Nat} {fx : List Fx} {fn : List He.DefD} {tf : List He.Defn} {h : Heap} (e : obsTG n fx fn tf h.get? = (He.valD fn, true)) : SaysT fx fn tf h (He.frT h.get? (lvX h.get? n [mainGlobals] ++ [cStatics])) := by
  have e1 : obsX fx fn (He.frT h.get? (lvX h.get? n [mainGlobals] ++ [cStatics])) = He.valD fn := congrArg Prod.fst e
  have e2 : He.tabsB h.get? tf (He.frT h.get? (lvX h.get? n [mainGlobals] ++ [cStatics])) = true := congrArg Prod.snd e
  have one : ∀ p ∈ tf, PySem.W.codeHdIn (He.frT h.get? (lvX h.get? n [mainGlobals] ++ [cStatics])) (He.cT (He.frT h.get? (lvX h.get? n [mainGlobals] ++ [cStatics])) p).1 (He.cT (He.frT h.get? (lvX h.get? n [mainGlobals] ++ [cStatics])) p).2 = true ∧ ∃ o, h.get? (He.cT (He.frT h.get? (lvX h.get? n [mainGlobals] ++ [cStatics])) p).2 = some o ∧ He.emptyTab o = true := by
    intro p hp
    obtain ⟨a1, a2⟩ := He.ba (List.all_eq_true.mp e2 p hp)
    refine ⟨a1, ?_⟩
    split at a2
    · rename_i o q
      exact ⟨o, q, a2⟩
    · cases a2
  refine ⟨e1, fun p hp => (one p hp).1, fun p hp => ?_, fun p hp => ?_⟩
  · obtain ⟨_, o, q, z⟩ := one p hp
    exact He.frT_none q z
  · obtain ⟨_, o, q, z⟩ := one p hp
    rw [q, He.emptyTab_eq z]
def hookT (n : Nat) (fx : List Fx) (fn : List He.DefD) (tf : List He.Defn) : PySem.W.Hook where
  α := He.AlD × Bool
  obs := fun s => obsTG n fx fn tf s.heap.get?
  val := fun _ => (He.valD fn, true)
  says := fun _ h => ∃ K : PySem.W.Frag, K.In h ∧ SaysT fx fn tf h K
  of := fun _ _ e => ⟨_, He.frT_in, saysT_of e⟩
  keeps := fun _ _ _ ⟨K, hK, c⟩ k => ⟨K, PySem.W.Frag.In.keeps hK k, ⟨c.s, c.hd, c.out, fun p hp => k _ _ (c.empty p hp)⟩⟩
def obTT (n : Nat) (fx : List Fx) (fn : List He.DefD) (tf : List He.Defn) (s : PySem.W.SharedT) : He.AlD × Bool := obsTG n fx fn tf (HandSHeadRun.getT s)
section
variable {K : PySem.W.Frag} {mg : Str → Option Value}
def ndB (ts : List Mk2) : Fx := fun K => decide (al0 K ts).Nodup
end
end G
namespace G
open PySem L2 PySem.Spec PyProof.Rows
end G
namespace G
open PySem L2 PySem.Spec
end G
namespace G
open PySem L2 PySem.Spec
end G
namespace G
open PySem L2 PySem.Spec PyProof.Rows
end G
namespace G
open PySem L2 PySem.Spec
end G
namespace G
open PySem L2 PySem.Spec
end G
namespace G
open PySem L2 PySem.Spec
end G
namespace G
open PySem L2 PySem.Spec PyProof.Rows
def tbAny : List (Nat → Option Bool) → Nat → Option Bool
  | [], _ => some false
  | t :: r, n => match t n, tbAny r n with
    | some a, some b => some (a || b)
    | _, _ => none
end G
namespace G
open PySem L2 PySem.Spec
section
variable {X : Cx} {W : WX} {a b c e o : Expr} {es : List Expr} {ma mb mc me : EM} {ta tb : TM} {pos : Pos} {x : Str} {p : Pos} {j k : Nat}
def KtOk (K : PySem.W.Frag) (mg : Str → Option Value) (tb : Nat → Option Bool) (u : Value) : Prop := ∀ cn C q, tb cn = some q → mg (cname cn) = some (.ref C) → ExcC K C ∧ PySem.W.kitOne K (.ref C) u = some q
inductive PCs (X : Cx) : List Expr → List V → List Value → Prop
  | nil : PCs X [] [] []
  | cons {T : Str} {p2 : Pos} {cv : V} {u : Value} {es : List Expr} {cs : List V} {us : List Value} (hT : PE X (.Name T p2) (tC cv)) (hcv : ClsV cv u) (hs : starEach (.Name T p2 :: es) X.env = (false, eval (.Name T p2) X.env) :: starEach es X.env) (r : PCs X es cs us) : PCs X (.Name T p2 :: es) (cv :: cs) (u :: us)
theorem PCs.cls {es : List Expr} {cs : List V} {us : List Value} (h : PCs X es cs us) : Paired ClsV cs us := by
  induction h with
  | nil => exact .nil
  | cons hT hcv hs r ih => exact .cons hcv ih
theorem PCs.len {es : List Expr} {cs : List V} {us : List Value} (h : PCs X es cs us) : cs.length = es.length := by
  induction h with
  | nil => rfl
  | cons hT hcv hs r ih => simp [ih]
inductive KtsOk (K : PySem.W.Frag) (mg : Str → Option Value) : List (Nat → Option Bool) → List Value → Prop
  | nil : KtsOk K mg [] []
  | cons {t : Nat → Option Bool} {c : Value} {ts : List (Nat → Option Bool)} {cs : List Value} (h : KtOk K mg t c) (r : KtsOk K mg ts cs) : KtsOk K mg (t :: ts) (c :: cs)
theorem KtsOk.exc {K : PySem.W.Frag} {mg : Str → Option Value} {t : Nat → Option Bool} {ts : List (Nat → Option Bool)} {cs : List Value} (h : KtsOk K mg (t :: ts) cs) {cn : Nat} {C : Addr} {q : Bool} (e : tbAny (t :: ts) cn = some q) (hC : mg (cname cn) = some (.ref C)) : ExcC K C := by
  cases h with
  | cons h r =>
    unfold tbAny at e
    split at e
    · rename_i b1 b2 e1 e2
      exact (h cn C b1 e1 hC).1
    · cases e
end
end G
namespace G
open PySem L2 PySem.Spec
section
variable {K : PySem.W.Frag}
def xoC (K : PySem.W.Frag) (C : Addr) (tl : List Value) (nw : String) (cd : ClassData) (sl : Array (Option Value)) : Bool := match cd.mro, sl.toList with
  | .ref C' :: bm, [_, _, _, _, some (.builtin n), _] => decide (C' = C) && (decide (n = nw) && (!cd.hasDel && (cd.hasDict && PySem.W.excTail tl bm)))
  | _, _ => false
def xoL (K : PySem.W.Frag) (C : Addr) (tl : List Value) (nw : String) : Bool := match K.lookup C with
  | some ⟨.type c, _, .cls cd, sl⟩ => decide (c = "type") && xoC K C tl nw cd sl
  | _ => false
def xoB (x : Str) (tl : List Value) (nw : String) : Fx := fun K => xoL K (He.ga K x) tl nw && (He.eqO (PySem.W.findIn K (.ref (He.ga K x)) "__setattr__") (some (some (.builtin "object.__setattr__"))) && (decide (PySem.W.subIn K (.ref (He.ga K x)) (.type "BaseException") = some true) && (decide (PySem.W.typeIn K (.ref (He.ga K x)) = some (.type "type")) && PySem.W.keepIn K (.ref (He.ga K x)))))
def iniB (x f : Str) : Fx := fun K => He.eqO (PySem.W.findIn K (.ref (He.ga K x)) "__init__") (some (some (.ref (He.fAd K (x, some "__init__"))))) && (decide (PySem.W.typeIn K (.ref (He.fAd K (x, some "__init__"))) = some (.type "function")) && He.eqO (PySem.W.findIn K (.ref (He.ga K x)) f) (some none))
def fcB (K : PySem.W.Frag) (C : Addr) (ini : String) : Bool := match PySem.W.findCls K (.ref C) (.type "type") "__init__" with
  | some (.val (.builtin n)) => decide (n = ini)
  | _ => false
def hdB (x : Str) (ini : String) : Fx := fun K => He.eqO (PySem.W.specialIn K (.ref (He.ga K x)) "__getattribute__") (some (some (.builtin "type.__getattribute__"))) && (PySem.W.readsIn K (He.ga K x) (.type "type") && (fcB K (He.ga K x) ini && PySem.W.handedIn (.builtin ini)))
end
end G
namespace G
open PySem L2 PySem.Spec
end G
namespace G
open PySem L2
end G
namespace G
open PySem L2 PySem.Spec
end G
namespace G
open PySem L2 PySem.Spec
end G
namespace G
open PySem L2 PySem.Spec
end G
namespace G
open PySem L2 PySem.Spec PyProof.Rows
end G
namespace G
open PySem L2 PySem.Spec PyProof.Rows
end G
namespace G
open PySem L2 PySem.Spec
end G
namespace G
open PySem L2 PySem.Spec
end G
namespace G
open PySem L2 PySem.Spec
end G
namespace G
open PySem L2 PySem.Spec PyProof.Rows SrtO
def IsFst (h : Heap) (v : Value) (x : Int) : Prop := ∃ a o t r n, v = .ref a ∧ h.get? a = some o ∧ o.cls = .type "tuple" ∧ o.data = .seq #[.int x t, r] n
theorem IsFst.keeps {h h' : Heap} {v : Value} {x : Int} (p : IsFst h v x) (k : ∀ b o, h.get? b = some o → o.cls = .type "tuple" → h'.get? b = some o) : IsFst h' v x := by
  obtain ⟨a, o, t, r, n, e, ho, hc, hd⟩ := p
  exact ⟨a, o, t, r, n, e, k _ _ ho hc, hc, hd⟩
def fstV (h : Heap) (v : Value) : Int := match v with
  | .ref a => match h.get? a with
    | some o => match o.data with
      | .seq its _ => match its[0]? with
        | some (Value.int i _) => i
        | _ => 0
      | _ => 0
    | _ => 0
  | _ => 0
theorem IsFst.val {h : Heap} {v : Value} {x : Int} (p : IsFst h v x) : fstV h v = x := by
  obtain ⟨a, o, t, r, n, rfl, ho, _, hd⟩ := p
  unfold fstV
  simp only [ho, hd]
  rfl
end G
namespace G
open PySem L2 PySem.Spec
end G
namespace G
open PySem L2 PySem.Spec
section
variable {X : Cx} {W : WX} {a b c e o f : Expr} {es : List Expr} {ma mb mc me : EM} {pos apos cpos tpos : Pos} {x : Str}
theorem RepK.zip {K : PySem.W.Frag} {mg : Str → Option Value} {w : Wo} : ∀ {ks : List Key} {ds : List D} {us : List V}, RepL K mg w ds us → RepK Key K mg w (ks.zip ds) (ks.zip us)
  | [], _, _, _ => by simp only [List.zip_nil_left]; exact .nil
  | _ :: _, _, _, .nil => .nil
  | k :: ks, _, _, .cons r t => .cons r (RepK.zip t)
end
end G
namespace G
open PySem L2 PySem.Spec PyProof.Rows PySem.SeqAt
end G
namespace G
open PySem L2 PySem.Spec PyProof.Rows PySem.SeqAt PySem.W
end G
namespace G
open PySem L2 PySem.Spec PyProof.Rows
end G
namespace G
open PySem L2 PySem.Spec PyProof.Rows
end G
namespace G
open PySem L2 PySem.Spec PyProof.Rows PySem.SeqAt
end G
namespace G
open PySem L2 PySem.Spec
end G
namespace G
open PySem PySem.W
end G
namespace G
open PySem L2 PySem.Spec PyProof.Rows
end G
namespace G
open PySem PySem.W HandSHeadRun
end G
namespace G
open PySem L2 PySem.Spec PyProof.Rows
def eqOf (neg : Bool) (r : Res D) : Res D := r.bind fun y S1 => match y with
  | .bl b => .ok (.bl (if neg = true then !b else b)) S1
  | _ => .stuck
def eqO (neg : Bool) (cn : Nat) (f : FM) (gD : List D → List D → List D) (x y : D) (S : Store) : Res D := if isCn cn S x = true ∧ isCn cn S y = true then eqOf neg (f (gD [x, y] []) S) else .stuck
end G
namespace G
open PySem L2 PySem.Spec PyProof.Rows
end G
namespace G
open PySem L2 PySem.Spec PyProof.Rows
end G
namespace G
open PySem L2 PySem.Spec PyProof.Rows
inductive FsOk (P : Program) (w0 : World) (K : PySem.W.Frag) (mg : Str → Option Value) (base : Heap) (k : Nat) : List (Str × Str) → List (Str × Nat × FM) → Prop where
  | nil : FsOk P w0 K mg base k [] []
  | cons {z g : Str} {ps : List Str} {j : Nat} {f : FM} {ks : List (Str × Str)} {fs : List (Str × Nat × FM)} : Df P w0 K mg base g ps j f → j ≤ k → FsOk P w0 K mg base k ks fs → FsOk P w0 K mg base k ((z, g) :: ks) ((z, ps.length, f) :: fs)
theorem FsOk.get {P : Program} {w0 : World} {K : PySem.W.Frag} {mg : Str → Option Value} {base : Heap} {k : Nat} {ks : List (Str × Str)} {fs : List (Str × Nat × FM)} (h : FsOk P w0 K mg base k ks fs) {z : Str} {q : Nat × FM} (e : fs.lookup z = some q) :
    ∃ g ps j, ks.lookup z = some g ∧ j ≤ k ∧ ps.length = q.1 ∧ Df P w0 K mg base g ps j q.2 := by
  induction h with
  | nil => cases e
  | @cons z' g ps j f ks fs hF hj _ ih =>
    rw [List.lookup_cons] at e ⊢
    cases c : z == z' with
    | true =>
      rw [c] at e
      cases e
      exact ⟨g, ps, j, rfl, hj, rfl, hF⟩
    | false =>
      rw [c] at e
      exact ih e
end G
namespace G
open PySem L2 PySem.Spec PyProof.Rows
end G
namespace G
open PySem L2 PySem.Spec PyProof.Rows
end G
namespace G
open PySem L2 PySem.Spec PyProof.Rows RZ
end G
namespace G
open PySem L2 PySem.Spec
end G
namespace G
open PySem L2 PySem.Spec PyProof.Rows
end G
namespace G
open PySem L2 PySem.Spec PyProof.Rows
end G
namespace G
open PySem L2 PySem.Spec PyProof.Rows
end G
namespace G
open PySem L2 PySem.Spec PyProof.Rows
end G
namespace G
open PySem L2 PySem.Spec PyProof.Rows
open PySem.SeqAt
open AutoSeq1 (wpAny_loadPart')
end G
namespace G
open PySem L2 PySem.Spec PyProof.Rows
open PySem.W (InstAt)
end G
namespace G
open PySem L2 PySem.Spec
end G
namespace G
open PySem L2 PySem.Spec PyProof.Rows
open PySem.W (InstAt)
end G
namespace Wk14
open PySem L2 G
noncomputable section
def topS (i : Nat) : Stmt := PySem.Challenge.pw_sharetags_k14_who_is_picked.main.body.getD i (.Pass ⟨0, 0, 0, 0⟩)
abbrev s__law_r : Stmt := topS 62
abbrev s__law_add : Stmt := topS 63
abbrev s__law_cell : Stmt := topS 59
abbrev s__law_far : Stmt := topS 77
abbrev s__law_later : Stmt := topS 76
abbrev s__law_pool : Stmt := topS 60
abbrev s_is_whole_ratios : Stmt := topS 12
abbrev s_shared : Stmt := topS 14
abbrev s_is_ratio : Stmt := topS 15
abbrev s_check_ratio : Stmt := topS 18
abbrev s_show_ratio : Stmt := topS 24
abbrev s_rate_text : Stmt := topS 36
abbrev s_Client___str__ : Stmt := clsSt (topS 37) 2
abbrev s_Client___repr__ : Stmt := clsSt (topS 37) 3
abbrev s__law_by : Stmt := topS 65
abbrev s__law_less : Stmt := topS 66
abbrev s__law_can : Stmt := topS 73
abbrev s__law_first : Stmt := topS 72
abbrev s__law_top : Stmt := topS 67
abbrev s__law_choice_of : Stmt := topS 74
abbrev s_check_two : Stmt := topS 19
abbrev s_is_before : Stmt := topS 22
abbrev s_is_none : Stmt := topS 34
abbrev s_is_rate : Stmt := topS 27
abbrev s_is_least : Stmt := topS 33
abbrev s_is_name : Stmt := topS 32
abbrev s_is_weight : Stmt := topS 35
abbrev s_Client___init__ : Stmt := clsSt (topS 37) 0
abbrev s__law_told_rivals : Stmt := topS 71
abbrev s_is_time : Stmt := topS 25
abbrev s_are_tags : Stmt := topS 40
abbrev s_is_whole_picks : Stmt := topS 46
abbrev s_is_rival : Stmt := topS 48
abbrev s_check_rivals : Stmt := topS 49
abbrev s_check_time : Stmt := topS 26
abbrev s_check_pick : Stmt := topS 56
abbrev s_by_clock : Stmt := topS 50
abbrev s_by_gate : Stmt := topS 51
abbrev s_first_of : Stmt := topS 52
abbrev s_greater : Stmt := topS 23
abbrev s_next_moment : Stmt := topS 54
abbrev s_lowest : Stmt := topS 16
abbrev s_added : Stmt := topS 20
abbrev s_ratio : Stmt := topS 17
abbrev s_parted : Stmt := topS 21
abbrev s_due_of : Stmt := topS 41
abbrev s_rival_due : Stmt := topS 53
abbrev s_picked_of : Stmt := topS 55
abbrev s_picked : Stmt := topS 57
abbrev s__law_right : Stmt := topS 75
abbrev s__law_sub : Stmt := topS 64
abbrev s__law_take : Stmt := topS 61
abbrev s__law_near : Stmt := topS 69
abbrev s__law_rate : Stmt := topS 68
abbrev s__law_rivals : Stmt := topS 70
abbrev s_law : Stmt := topS 78
abbrev mk__law_choice_of : Mk2 := (("_law_choice_of", none), "_law_choice_of.<locals>.<lambda>")
abbrev mk_picked_of : Mk2 := (("picked_of", none), "picked_of.<locals>.<lambda>")
abbrev tsL : List Mk2 := [mk__law_choice_of, mk_picked_of]
abbrev s_NoRate___init__ : Stmt := clsSt (topS 6) 0
abbrev s_NoRivals___init__ : Stmt := clsSt (topS 9) 0
def d__law_r : He.DefD := ⟨("_law_r", none), "_law_r", "_law_r", defArgs s__law_r, defBody s__law_r, defScope s__law_r, [], []⟩
def d__law_add : He.DefD := ⟨("_law_add", none), "_law_add", "_law_add", defArgs s__law_add, defBody s__law_add, defScope s__law_add, [], []⟩
def d__law_cell : He.DefD := ⟨("_law_cell", none), "_law_cell", "_law_cell", defArgs s__law_cell, defBody s__law_cell, defScope s__law_cell, [], []⟩
def d__law_far : He.DefD := ⟨("_law_far", none), "_law_far", "_law_far", defArgs s__law_far, defBody s__law_far, defScope s__law_far, [], []⟩
def d__law_later : He.DefD := ⟨("_law_later", none), "_law_later", "_law_later", defArgs s__law_later, defBody s__law_later, defScope s__law_later, [], []⟩
def d__law_pool : He.DefD := ⟨("_law_pool", none), "_law_pool", "_law_pool", defArgs s__law_pool, defBody s__law_pool, defScope s__law_pool, [], []⟩
def d_is_whole_ratios : He.DefD := ⟨("is_whole_ratios", none), "is_whole", "is_whole", defArgs s_is_whole_ratios, defBody s_is_whole_ratios, defScope s_is_whole_ratios, [], []⟩
def d_shared : He.DefD := ⟨("shared", none), "shared", "shared", defArgs s_shared, defBody s_shared, defScope s_shared, [], []⟩
def d_is_ratio : He.DefD := ⟨("is_ratio", none), "is_ratio", "is_ratio", defArgs s_is_ratio, defBody s_is_ratio, defScope s_is_ratio, [], []⟩
def d_check_ratio : He.DefD := ⟨("check_ratio", none), "check_ratio", "check_ratio", defArgs s_check_ratio, defBody s_check_ratio, defScope s_check_ratio, [], []⟩
def d_show_ratio : He.DefD := ⟨("show_ratio", none), "show_ratio", "show_ratio", defArgs s_show_ratio, defBody s_show_ratio, defScope s_show_ratio, [], []⟩
def d_rate_text : He.DefD := ⟨("rate_text", none), "rate_text", "rate_text", defArgs s_rate_text, defBody s_rate_text, defScope s_rate_text, [], []⟩
def d_Client___str__ : He.DefD := ⟨("Client", some "__str__"), "__str__", "Client.__str__", defArgs s_Client___str__, defBody s_Client___str__, defScope s_Client___str__, [], []⟩
def d_Client___repr__ : He.DefD := ⟨("Client", some "__repr__"), "__repr__", "Client.__repr__", defArgs s_Client___repr__, defBody s_Client___repr__, defScope s_Client___repr__, [], []⟩
def d__law_by : He.DefD := ⟨("_law_by", none), "_law_by", "_law_by", defArgs s__law_by, defBody s__law_by, defScope s__law_by, [], []⟩
def d__law_less : He.DefD := ⟨("_law_less", none), "_law_less", "_law_less", defArgs s__law_less, defBody s__law_less, defScope s__law_less, [], []⟩
def d__law_can : He.DefD := ⟨("_law_can", none), "_law_can", "_law_can", defArgs s__law_can, defBody s__law_can, defScope s__law_can, [], []⟩
def d__law_first : He.DefD := ⟨("_law_first", none), "_law_first", "_law_first", defArgs s__law_first, defBody s__law_first, defScope s__law_first, [], []⟩
def d__law_top : He.DefD := ⟨("_law_top", none), "_law_top", "_law_top", defArgs s__law_top, defBody s__law_top, defScope s__law_top, [], []⟩
def d__law_choice_of : He.DefD := ⟨("_law_choice_of", none), "_law_choice_of", "_law_choice_of", defArgs s__law_choice_of, defBody s__law_choice_of, defScope s__law_choice_of, [], []⟩
def d_check_two : He.DefD := ⟨("check_two", none), "check_two", "check_two", defArgs s_check_two, defBody s_check_two, defScope s_check_two, [], []⟩
def d_is_before : He.DefD := ⟨("is_before", none), "is_before", "is_before", defArgs s_is_before, defBody s_is_before, defScope s_is_before, [], []⟩
def d_is_none : He.DefD := ⟨("is_none", none), "is_none", "is_none", defArgs s_is_none, defBody s_is_none, defScope s_is_none, [], []⟩
def d_is_rate : He.DefD := ⟨("is_rate", none), "is_rate", "is_rate", defArgs s_is_rate, defBody s_is_rate, defScope s_is_rate, [], []⟩
def d_is_least : He.DefD := ⟨("is_least", none), "is_least", "is_least", defArgs s_is_least, defBody s_is_least, defScope s_is_least, [], []⟩
def d_is_name : He.DefD := ⟨("is_name", none), "is_name", "is_name", defArgs s_is_name, defBody s_is_name, defScope s_is_name, [], []⟩
def d_is_weight : He.DefD := ⟨("is_weight", none), "is_weight", "is_weight", defArgs s_is_weight, defBody s_is_weight, defScope s_is_weight, [], []⟩
def d_Client___init__ : He.DefD := ⟨("Client", some "__init__"), "__init__", "Client.__init__", defArgs s_Client___init__, defBody s_Client___init__, defScope s_Client___init__, [], [("least", .glo "NONE"), ("most", .non), ("weight", .int 1)]⟩
def d__law_told_rivals : He.DefD := ⟨("_law_told_rivals", none), "_law_told_rivals", "_law_told_rivals", defArgs s__law_told_rivals, defBody s__law_told_rivals, defScope s__law_told_rivals, [], []⟩
def d_is_time : He.DefD := ⟨("is_time", none), "is_time", "is_time", defArgs s_is_time, defBody s_is_time, defScope s_is_time, [], []⟩
def d_are_tags : He.DefD := ⟨("are_tags", none), "are_tags", "are_tags", defArgs s_are_tags, defBody s_are_tags, defScope s_are_tags, [], []⟩
def d_is_whole_picks : He.DefD := ⟨("is_whole_picks", none), "is_whole", "is_whole", defArgs s_is_whole_picks, defBody s_is_whole_picks, defScope s_is_whole_picks, [], []⟩
def d_is_rival : He.DefD := ⟨("is_rival", none), "is_rival", "is_rival", defArgs s_is_rival, defBody s_is_rival, defScope s_is_rival, [], []⟩
def d_check_rivals : He.DefD := ⟨("check_rivals", none), "check_rivals", "check_rivals", defArgs s_check_rivals, defBody s_check_rivals, defScope s_check_rivals, [], []⟩
def d_check_time : He.DefD := ⟨("check_time", none), "check_time", "check_time", defArgs s_check_time, defBody s_check_time, defScope s_check_time, [], []⟩
def d_check_pick : He.DefD := ⟨("check_pick", none), "check_pick", "check_pick", defArgs s_check_pick, defBody s_check_pick, defScope s_check_pick, [], []⟩
def d_by_clock : He.DefD := ⟨("by_clock", none), "by_clock", "by_clock", defArgs s_by_clock, defBody s_by_clock, defScope s_by_clock, [], []⟩
def d_by_gate : He.DefD := ⟨("by_gate", none), "by_gate", "by_gate", defArgs s_by_gate, defBody s_by_gate, defScope s_by_gate, [], []⟩
def d_first_of : He.DefD := ⟨("first_of", none), "first_of", "first_of", defArgs s_first_of, defBody s_first_of, defScope s_first_of, [], []⟩
def d_greater : He.DefD := ⟨("greater", none), "greater", "greater", defArgs s_greater, defBody s_greater, defScope s_greater, [], []⟩
def d_next_moment : He.DefD := ⟨("next_moment", none), "next_moment", "next_moment", defArgs s_next_moment, defBody s_next_moment, defScope s_next_moment, [], []⟩
def d_lowest : He.DefD := ⟨("lowest", none), "lowest", "lowest", defArgs s_lowest, defBody s_lowest, defScope s_lowest, [], []⟩
def d_added : He.DefD := ⟨("added", none), "added", "added", defArgs s_added, defBody s_added, defScope s_added, [], []⟩
def d_ratio : He.DefD := ⟨("ratio", none), "ratio", "ratio", defArgs s_ratio, defBody s_ratio, defScope s_ratio, [.int 1], []⟩
def d_parted : He.DefD := ⟨("parted", none), "parted", "parted", defArgs s_parted, defBody s_parted, defScope s_parted, [], []⟩
def d_due_of : He.DefD := ⟨("due_of", none), "due_of", "due_of", defArgs s_due_of, defBody s_due_of, defScope s_due_of, [], []⟩
def d_rival_due : He.DefD := ⟨("rival_due", none), "rival_due", "rival_due", defArgs s_rival_due, defBody s_rival_due, defScope s_rival_due, [], []⟩
def d_picked_of : He.DefD := ⟨("picked_of", none), "picked_of", "picked_of", defArgs s_picked_of, defBody s_picked_of, defScope s_picked_of, [], []⟩
def d_picked : He.DefD := ⟨("picked", none), "picked", "picked", defArgs s_picked, defBody s_picked, defScope s_picked, [], []⟩
def d__law_right : He.DefD := ⟨("_law_right", none), "_law_right", "_law_right", defArgs s__law_right, defBody s__law_right, defScope s__law_right, [], []⟩
def d__law_sub : He.DefD := ⟨("_law_sub", none), "_law_sub", "_law_sub", defArgs s__law_sub, defBody s__law_sub, defScope s__law_sub, [], []⟩
def d__law_take : He.DefD := ⟨("_law_take", none), "_law_take", "_law_take", defArgs s__law_take, defBody s__law_take, defScope s__law_take, [], []⟩
def d__law_near : He.DefD := ⟨("_law_near", none), "_law_near", "_law_near", defArgs s__law_near, defBody s__law_near, defScope s__law_near, [], []⟩
def d__law_rate : He.DefD := ⟨("_law_rate", none), "_law_rate", "_law_rate", defArgs s__law_rate, defBody s__law_rate, defScope s__law_rate, [], []⟩
def d__law_rivals : He.DefD := ⟨("_law_rivals", none), "_law_rivals", "_law_rivals", defArgs s__law_rivals, defBody s__law_rivals, defScope s__law_rivals, [], []⟩
def d_law : He.DefD := ⟨("law", none), "law", "law", defArgs s_law, defBody s_law, defScope s_law, [], []⟩
def d_NoRate___init__ : He.DefD := ⟨("NoRate", some "__init__"), "__init__", "NoRate.__init__", defArgs s_NoRate___init__, defBody s_NoRate___init__, defScope s_NoRate___init__, [], []⟩
def d_NoRivals___init__ : He.DefD := ⟨("NoRivals", some "__init__"), "__init__", "NoRivals.__init__", defArgs s_NoRivals___init__, defBody s_NoRivals___init__, defScope s_NoRivals___init__, [], []⟩
def fnAll : List He.DefD := [d__law_r, d__law_add, d__law_cell, d__law_far, d__law_later, d__law_pool, d_is_whole_ratios, d_shared, d_is_ratio, d_check_ratio, d_show_ratio, d_rate_text, d_Client___str__, d_Client___repr__, d__law_by, d__law_less, d__law_can, d__law_first, d__law_top, d__law_choice_of, d_check_two, d_is_before, d_is_none, d_is_rate, d_is_least, d_is_name, d_is_weight, d_Client___init__, d__law_told_rivals, d_is_time, d_are_tags, d_is_whole_picks, d_is_rival, d_check_rivals, d_check_time, d_check_pick, d_by_clock, d_by_gate, d_first_of, d_greater, d_next_moment, d_lowest, d_added, d_ratio, d_parted, d_due_of, d_rival_due, d_picked_of, d_picked, d__law_right, d__law_sub, d__law_take, d__law_near, d__law_rate, d__law_rivals, d_law, d_NoRate___init__, d_NoRivals___init__]
def fx_0 : Fx := freesB [("abs" : Str), ("all" : Str), ("bool" : Str), ("divmod" : Str), ("enumerate" : Str), ("int" : Str), ("isinstance" : Str), ("len" : Str), ("list" : Str), ("max" : Str), ("min" : Str), ("range" : Str), ("repr" : Str), ("str" : Str), ("tuple" : Str)]
def fx_1 : Fx := glosB [("_law_r" : Str), ("_law_add" : Str), ("_law_cell" : Str), ("_law_far" : Str), ("_law_later" : Str), ("_law_pool" : Str), ("is_whole_ratios" : Str), ("shared" : Str), ("is_ratio" : Str), ("check_ratio" : Str), ("show_ratio" : Str), ("rate_text" : Str), ("_law_by" : Str), ("_law_less" : Str), ("_law_can" : Str), ("_law_first" : Str), ("_law_top" : Str), ("_law_choice_of" : Str), ("check_two" : Str), ("is_before" : Str)]
def fx_2 : Fx := glosB [("is_none" : Str), ("is_rate" : Str), ("is_least" : Str), ("is_name" : Str), ("is_weight" : Str), ("_law_told_rivals" : Str), ("is_time" : Str), ("are_tags" : Str), ("is_whole_picks" : Str), ("is_rival" : Str), ("check_rivals" : Str), ("check_time" : Str), ("check_pick" : Str), ("by_clock" : Str), ("by_gate" : Str), ("first_of" : Str), ("greater" : Str), ("next_moment" : Str), ("lowest" : Str), ("added" : Str)]
def fx_3 : Fx := glosB [("ratio" : Str), ("parted" : Str), ("due_of" : Str), ("rival_due" : Str), ("picked_of" : Str), ("picked" : Str), ("_law_right" : Str), ("_law_sub" : Str), ("_law_take" : Str), ("_law_near" : Str), ("_law_rate" : Str), ("_law_rivals" : Str), ("law" : Str), ("NONE" : Str), ("Client" : Str), ("NoName" : Str), ("NoRate" : Str), ("NoRatio" : Str), ("NoRivals" : Str), ("NoTime" : Str)]
def fx_4 : Fx := glosB [("NoWeight" : Str), ("Nought" : Str), ("TagError" : Str)]
def fx_5 : Fx := strB "LEAST" "least"
def fx_6 : Fx := strB "LETTERS" "abcdefghijklmnopqrstuvwxyz"
def fx_7 : Fx := intB "MOST_LETTERS" 8
def fx_8 : Fx := intB "MOST_SIZE" 999
def fx_9 : Fx := intB "MOST_WEIGHT" 99
def fx_10 : Fx := strB "NOBODY" "none"
def fx_11 : Fx := tupX "NONE" [.int 0, .int 1]
def fx_12 : Fx := strB "SHARE" "share"
def fx_13 : Fx := clsqB "Client"
def fx_14 : Fx := mtB "Client" "__str__"
def fx_15 : Fx := clsqB "Client"
def fx_16 : Fx := mtB "Client" "__repr__"
def fx_17 : Fx := mkB "Client"
def fx_18 : Fx := xoB "NoRate" bmValueError "ValueError.__new__"
def fx_19 : Fx := iniB "NoRate" "rate"
def fx_20 : Fx := hdB "TagError" "ValueError.__init__"
def fx_21 : Fx := xoB "NoRivals" bmValueError "ValueError.__new__"
def fx_22 : Fx := iniB "NoRivals" "place"
def fx_23 : Fx := hdB "TagError" "ValueError.__init__"
def fx_24 : Fx := xcoB "NoName" bmValueError "ValueError.__new__"
def fx_25 : Fx := xcoB "NoRatio" bmValueError "ValueError.__new__"
def fx_26 : Fx := xcoB "NoTime" bmValueError "ValueError.__new__"
def fx_27 : Fx := xcoB "NoWeight" bmValueError "ValueError.__new__"
def fx_28 : Fx := xcoB "Nought" bmArithmeticError "ArithmeticError.__new__"
def fx_29 : Fx := ownsB [33]
def fx_30 : Fx := freesB ([34, 35, 36, 37, 38, 39, 40, 41, 42, 43, 44, 45, 46].map cname)
def fx_31 : Fx := isoB 33 [33]
def fx_32 : Fx := noatB 1 ([33].filter (List.contains [33, 42]))
def fx_33 : Fx := noatB 2 ([33].filter (List.contains [33, 42]))
def fx_34 : Fx := noatB 0 ([33].filter (List.contains [33, 42, 44, 46]))
def fx_35 : Fx := noatB 3 ([33].filter (List.contains [33, 42, 44]))
def fx_36 : Fx := ndB tsL
def fxAll : List Fx := [fx_0, fx_1, fx_2, fx_3, fx_4, fx_5, fx_6, fx_7, fx_8, fx_9, fx_10, fx_11, fx_12, fx_13, fx_14, fx_15, fx_16, fx_17, fx_18, fx_19, fx_20, fx_21, fx_22, fx_23, fx_24, fx_25, fx_26, fx_27, fx_28, fx_29, fx_30, fx_31, fx_32, fx_33, fx_34, fx_35, fx_36]
abbrev R : PySem.W.OpenRow := PySem.W.OpenLaw.row PySem.Challenge.rw_sharetags_k14_who_is_picked
abbrev qv : Program := PySem.W.view R.prog [78]
def nm_0 : List Str := [("NONE" : Str), ("TagError" : Str), ("ShareError" : Str), ("NoRatio" : Str), ("NoName" : Str), ("NoRate" : Str), ("NoWeight" : Str), ("NoTime" : Str), ("NoRivals" : Str), ("Nought" : Str), ("is_whole" : Str), ("is_whole_ratios" : Str), ("shared" : Str), ("is_ratio" : Str), ("lowest" : Str), ("ratio" : Str), ("check_ratio" : Str), ("check_two" : Str), ("added" : Str), ("parted" : Str)]
def nm_1 : List Str := [("is_before" : Str), ("greater" : Str), ("show_ratio" : Str), ("is_time" : Str), ("check_time" : Str), ("is_rate" : Str), ("LETTERS" : Str), ("MOST_LETTERS" : Str), ("MOST_WEIGHT" : Str), ("is_name" : Str), ("is_least" : Str), ("is_none" : Str), ("is_weight" : Str), ("rate_text" : Str), ("Client" : Str), ("MOST_SIZE" : Str), ("are_tags" : Str), ("due_of" : Str), ("LEAST" : Str), ("SHARE" : Str)]
def nm_2 : List Str := [("NOBODY" : Str), ("is_whole_picks" : Str), ("is_rival" : Str), ("check_rivals" : Str), ("by_clock" : Str), ("by_gate" : Str), ("first_of" : Str), ("rival_due" : Str), ("next_moment" : Str), ("picked_of" : Str), ("check_pick" : Str), ("picked" : Str), ("_law_cell" : Str), ("_law_pool" : Str), ("_law_take" : Str), ("_law_r" : Str), ("_law_add" : Str), ("_law_sub" : Str), ("_law_by" : Str), ("_law_less" : Str)]
def nm_3 : List Str := [("_law_top" : Str), ("_law_rate" : Str), ("_law_near" : Str), ("_law_rivals" : Str), ("_law_told_rivals" : Str), ("_law_first" : Str), ("_law_can" : Str), ("_law_choice_of" : Str), ("_law_right" : Str), ("_law_later" : Str), ("_law_far" : Str)]
def nmAll : List Str := nm_0 ++ nm_1 ++ nm_2 ++ nm_3
end
end Wk14
namespace Wk14
open PySem L2 G PySem.W PySem.Calls PyProof.Rows
set_option maxRecDepth 100000 in
set_option maxHeartbeats 0 in
theorem run (w : World) : HandSHeadRun.RunEq R qv (hookT 5 fxAll fnAll (tsL.map (·.1))) (obTT 5 fxAll fnAll (tsL.map (·.1))) 100000 nmAll w := by
  intro os
  kernel_rfl
end Wk14
set_option Elab.async false
set_option linter.all false
set_option maxRecDepth 100000
set_option maxHeartbeats 8000000
namespace G
open PySem L2
theorem Fz.same {w w' : Wo} (h1 : w'.st = w.st) (h2 : w'.hp = w.hp) : Fz w w' := fun _ _ _ _ h _ => ⟨by rw [h1]; exact h, by rw [h2]⟩
theorem Ex0.refl (w : Wo) : Ex0 w w := ⟨⟨[], by simp⟩, fun _ h => .inl h, fun _ _ h _ => h, fun _ o h => ⟨o, h⟩⟩
theorem Ext.refl (w : Wo) : Ext w w := ⟨Ex0.refl w, rfl, fun _ _ => rfl, Fz.same rfl rfl⟩
variable {K : PySem.W.Frag} {mg : Str → Option Value} {w w' : Wo}
theorem RepL.getV {l : List D} {vs : List V} {i : Nat} {v : V} : RepL K mg w l vs → vs[i]? = some v → ∃ d, l[i]? = some d ∧ RepD K mg w d v
  | .nil, h => by simp at h
  | .cons r t, h => by
    cases i with
    | zero => simp at h; subst h; exact ⟨_, by simp, r⟩
    | succ i =>
      obtain ⟨v, e, q⟩ := RepL.getV (i := i) t (by simpa using h)
      exact ⟨v, by simpa using e, q⟩
theorem RepL.append {l m : List D} {vs us : List V} : RepL K mg w l vs → RepL K mg w m us → RepL K mg w (l ++ m) (vs ++ us)
  | .nil, h => h
  | .cons r t, h => .cons r (RepL.append t h)
theorem RepL.take {l : List D} {vs : List V} : ∀ (n : Nat), RepL K mg w l vs → RepL K mg w (l.take n) (vs.take n)
  | 0, _ => by simp only [List.take_zero]; exact .nil
  | _ + 1, .nil => .nil
  | n + 1, .cons r t => .cons r (RepL.take n t)
theorem RepL.drop {l : List D} {vs : List V} : ∀ (n : Nat), RepL K mg w l vs → RepL K mg w (l.drop n) (vs.drop n)
  | 0, h => h
  | _ + 1, .nil => .nil
  | n + 1, .cons _ t => RepL.drop n t
theorem RepL.rev {l : List D} {vs : List V} (h : RepL K mg w l vs) : RepL K mg w l.reverse vs.reverse := by
  induction l generalizing vs with
  | nil => cases h; exact .nil
  | cons d l ih =>
    cases h with
    | cons r t =>
      rw [List.reverse_cons, List.reverse_cons]
      exact (ih t).append (.cons r .nil)
theorem nd_get {l : List Addr} (h : l.Nodup) {n m : Nat} {a : Addr} (e : l[n]? = some a) (f : l[m]? = some a) : n = m := by
  obtain ⟨h1, e1⟩ := List.getElem?_eq_some_iff.mp e
  obtain ⟨h2, e2⟩ := List.getElem?_eq_some_iff.mp f
  exact (List.getElem_inj h).mp (e1.trans e2.symm)
def Wo.put (w : Wo) (p : Addr) (o : HO) : Wo := { w with hp := upd w.hp p o }
theorem Rep.not_mem (R : Rep K mg w) {p : Addr} (hn : w.hp p = none) : p ∉ w.al := fun h => by
  obtain ⟨o, e⟩ := R.tr p h
  rw [hn] at e; cases e
theorem Rep.not_hid (R : Rep K mg w) {p : Addr} (hn : w.hp p = none) : p ∉ w.hid := fun h => by
  obtain ⟨_, o, e⟩ := R.hid p h
  rw [hn] at e; cases e
theorem put_ext (R : Rep K mg w) {p : Addr} {o : HO} (hn : w.hp p = none) : Ext w (w.put p o) := by
  refine ⟨⟨⟨[], by simp [Wo.put]⟩, fun a h => .inl h, fun a u h _ => ?_, fun a u h => ⟨u, ?_⟩⟩, rfl, fun a h => ?_, fun n a c h1 h2 _ => ⟨h2, ?_⟩⟩
  · show upd w.hp p o a = _
    rw [upd_ne (ne_of_none h hn)]; exact h
  · show upd w.hp p o a = _
    rw [upd_ne (ne_of_none h hn)]; exact h
  · show upd w.hp p o a = _
    exact upd_ne fun e => R.not_hid hn (e ▸ h)
  · show upd w.hp p o a = _
    exact upd_ne fun e => R.not_mem hn (e ▸ List.mem_of_getElem? h1)
theorem Rep.put (R : Rep K mg w) {p : Addr} {o : HO} (hn : w.hp p = none) : Rep K mg (w.put p o) := by
  have X := put_ext (o := o) R hn
  refine ⟨R.len, R.nd, fun a h => ?_, fun n a c h1 h2 => ?_, fun a h => ?_⟩
  · obtain ⟨u, e⟩ := R.tr a h
    exact X.tr a u e
  · have hm : a ∈ w.al := List.mem_of_getElem? h1
    refine (R.cell n a c h1 h2).ext X.toEx0 ?_
    show upd w.hp p o a = _
    exact upd_ne fun z => R.not_mem hn (z ▸ hm)
  · obtain ⟨h1, u, e⟩ := R.hid a h
    exact ⟨h1, X.tr a u e⟩
theorem put_st (R : Rep K mg w) {p : Addr} {o : HO} (hn : w.hp p = none) : StP (w.put p o) p o := by
  refine ⟨upd_same, fun z => ?_⟩
  rcases z with ⟨n, c, h1, _, _⟩ | z
  · exact R.not_mem hn (List.mem_of_getElem? h1)
  · exact R.not_hid hn z
theorem StP.o {w : Wo} {a : Addr} {u : HO} (h : StP w a u) : StO w a u := ⟨.inl h.1, h.2⟩
def Wo.new (w : Wo) (p : Addr) (o : HO) (c : Cell) : Wo := ⟨w.al ++ [p], w.st ++ [c], upd w.hp p o, w.hid⟩
theorem new_ext (R : Rep K mg w) {p : Addr} {o : HO} {c : Cell} (hn : w.hp p = none) : Ext w (w.new p o c) := by
  refine ⟨⟨⟨[p], rfl⟩, fun a h => ?_, fun a u h _ => ?_, fun a u h => ⟨u, ?_⟩⟩, rfl, fun a h => ?_, fun n a c' h1 h2 _ => ⟨?_, ?_⟩⟩
  · rcases h with h | h
    · obtain ⟨n, c', h1, h2, h3⟩ := h
      have h1 : (w.al ++ [p])[n]? = some a := h1
      have h2 : (w.st ++ [c])[n]? = some c' := h2
      by_cases hl : n < w.al.length
      · rw [List.getElem?_append_left hl] at h1
        rw [List.getElem?_append_left (by rw [← R.len]; exact hl)] at h2
        exact .inl (.inl ⟨n, c', h1, h2, h3⟩)
      · rw [List.getElem?_append_right (by omega)] at h1
        have e : n - w.al.length = 0 := by
          rcases List.getElem?_eq_some_iff.mp h1 with ⟨q, _⟩
          simp at q; omega
        rw [e] at h1
        simp at h1
        subst h1
        exact .inr hn
    · exact .inl (.inr h)
  · show upd w.hp p o a = _
    rw [upd_ne (ne_of_none h hn)]; exact h
  · show upd w.hp p o a = _
    rw [upd_ne (ne_of_none h hn)]; exact h
  · show upd w.hp p o a = _
    exact upd_ne fun e => R.not_hid hn (e ▸ h)
  · show (w.st ++ [c])[n]? = _
    rw [List.getElem?_append_left (List.getElem?_eq_some_iff.mp h2).1]; exact h2
  · show upd w.hp p o a = _
    exact upd_ne fun e => R.not_mem hn (e ▸ List.mem_of_getElem? h1)
theorem new_get (R : Rep K mg w) {p : Addr} {o : HO} {c : Cell} : (w.new p o c).al[w.st.length]? = some p := by
  show (w.al ++ [p])[w.st.length]? = _
  rw [← R.len]; simp
theorem Rep.new (R : Rep K mg w) {p : Addr} {o : HO} {c : Cell} (hn : w.hp p = none) (hc : CellR K mg (w.new p o c) p c) : Rep K mg (w.new p o c) := by
  have X := new_ext (o := o) (c := c) R hn
  refine ⟨?_, ?_, fun a h => ?_, fun n a c' h1 h2 => ?_, fun a h => ?_⟩
  · show (w.al ++ [p]).length = (w.st ++ [c]).length
    rw [List.length_append, List.length_append, R.len]; rfl
  · show (w.al ++ [p]).Nodup
    rw [List.nodup_append]
    refine ⟨R.nd, by simp, fun a ha b hb => ?_⟩
    simp at hb; subst hb
    exact fun z => R.not_mem hn (z ▸ ha)
  · have h : a ∈ w.al ++ [p] := h
    rcases List.mem_append.mp h with h | h
    · obtain ⟨u, e⟩ := R.tr a h
      exact X.tr a u e
    · simp at h; subst h
      exact ⟨o, upd_same⟩
  · have h1 : (w.al ++ [p])[n]? = some a := h1
    have h2 : (w.st ++ [c])[n]? = some c' := h2
    by_cases hl : n < w.al.length
    · rw [List.getElem?_append_left hl] at h1
      rw [List.getElem?_append_left (by rw [← R.len]; exact hl)] at h2
      refine (R.cell n a c' h1 h2).ext X.toEx0 ?_
      show upd w.hp p o a = _
      exact upd_ne fun z => R.not_mem hn (z ▸ List.mem_of_getElem? h1)
    · rw [List.getElem?_append_right (by omega)] at h1
      rw [List.getElem?_append_right (by rw [← R.len]; omega)] at h2
      have e : n - w.al.length = 0 := by
        rcases List.getElem?_eq_some_iff.mp h1 with ⟨q, _⟩
        simp at q; omega
      rw [← R.len, e] at h2
      rw [e] at h1
      simp at h1 h2
      subst h1; subst h2
      exact hc
  · obtain ⟨h1, u, e⟩ := R.hid a h
    refine ⟨fun z => ?_, X.tr a u e⟩
    rcases List.mem_append.mp (show a ∈ w.al ++ [p] from z) with z | z
    · exact h1 z
    · simp at z; subst z
      rw [hn] at e; cases e
def Wo.wr (w : Wo) (n : Nat) (a : Addr) (o : HO) (c : Cell) : Wo := ⟨w.al, w.st.set n c, upd w.hp a o, w.hid⟩
theorem wr_ex0 {n : Nat} {a : Addr} {o : HO} {c c0 : Cell} (h1 : w.al[n]? = some a) (h2 : w.st[n]? = some c0) (h3 : c0 ≠ .dead) : Ex0 w (w.wr n a o c) := by
  have za : Zl w a := .inl ⟨n, c0, h1, h2, h3⟩
  refine ⟨⟨[], by simp [Wo.wr]⟩, fun b h => ?_, fun b u h z => ?_, fun b u h => ?_⟩
  · rcases h with h | h
    · obtain ⟨m, c', g1, g2, g3⟩ := h
      have g2 : (w.st.set n c)[m]? = some c' := g2
      by_cases e : m = n
      · subst e
        have g1 : w.al[m]? = some b := g1
        rw [h1] at g1; cases g1
        exact .inl za
      · rw [List.getElem?_set_ne (Ne.symm e)] at g2
        exact .inl (.inl ⟨m, c', g1, g2, g3⟩)
    · exact .inl (.inr h)
  · show upd w.hp a o b = _
    rw [upd_ne fun e : b = a => z (by rw [e]; exact za)]; exact h
  · by_cases e : b = a
    · subst e; exact ⟨o, upd_same⟩
    · exact ⟨u, by show upd w.hp a o b = _; rw [upd_ne e]; exact h⟩
theorem wr_ext (R : Rep K mg w) {n : Nat} {a : Addr} {o : HO} {c c0 : Cell} (h1 : w.al[n]? = some a) (h2 : w.st[n]? = some c0) (h3 : c0 ≠ .dead) (hz : c0.frz = false := by rfl) : Ext w (w.wr n a o c) := by
  refine ⟨wr_ex0 h1 h2 h3, rfl, fun b h => ?_, fun m b c' g1 g2 g3 => ?_⟩
  · show upd w.hp a o b = _
    exact upd_ne fun e => (R.hid b h).1 (e ▸ List.mem_of_getElem? h1)
  · have e : m ≠ n := fun z => by
      subst z
      rw [h2] at g2; cases g2
      rw [hz] at g3; cases g3
    refine ⟨?_, ?_⟩
    · show (w.st.set n c)[m]? = _
      rw [List.getElem?_set_ne (Ne.symm e)]; exact g2
    · show upd w.hp a o b = _
      exact upd_ne fun z => e (nd_get R.nd g1 (z ▸ h1))
theorem Rep.wr (R : Rep K mg w) {n : Nat} {a : Addr} {o : HO} {c c0 : Cell} (h1 : w.al[n]? = some a) (h2 : w.st[n]? = some c0) (h3 : c0 ≠ .dead) (hc : CellR K mg (w.wr n a o c) a c) : Rep K mg (w.wr n a o c) := by
  have X := wr_ex0 (o := o) (c := c) h1 h2 h3
  refine ⟨?_, R.nd, fun b h => ?_, fun m b c' g1 g2 => ?_, fun b h => ?_⟩
  · show w.al.length = (w.st.set n c).length
    rw [List.length_set]; exact R.len
  · obtain ⟨u, e⟩ := R.tr b h
    exact X.tr b u e
  · have g2 : (w.st.set n c)[m]? = some c' := g2
    replace g1 : w.al[m]? = some b := g1
    by_cases e : m = n
    · subst e
      replace g1 := h1.symm.trans g1; cases g1
      rw [List.getElem?_set_self (List.getElem?_eq_some_iff.mp h2).1] at g2
      cases g2; exact hc
    · rw [List.getElem?_set_ne (Ne.symm e)] at g2
      refine (R.cell m b c' g1 g2).ext X ?_
      show upd w.hp a o b = _
      exact upd_ne fun z => e (nd_get R.nd g1 (z ▸ h1))
  · obtain ⟨h1, u, e⟩ := R.hid b h
    exact ⟨h1, X.tr b u e⟩
def Wo.kill (w : Wo) (n : Nat) : Wo := ⟨w.al, w.st.set n .dead, w.hp, w.hid⟩
theorem kill_ext (R : Rep K mg w) (n : Nat) (hz : ∀ c, w.st[n]? = some c → c.frz = false) : Ext w (w.kill n) := by
  refine ⟨⟨⟨[], by simp [Wo.kill]⟩, fun b h => ?_, fun b u h _ => h, fun b u h => ⟨u, h⟩⟩, rfl, fun _ _ => rfl, fun m b c' _ g2 g3 => ⟨?_, rfl⟩⟩
  case refine_2 =>
    have e : n ≠ m := fun z => by
      subst z
      rw [hz _ g2] at g3; cases g3
    show (w.st.set n .dead)[m]? = _
    rw [List.getElem?_set_ne e]; exact g2
  rcases h with h | h
  · obtain ⟨m, c', g1, g2, g3⟩ := h
    have g2 : (w.st.set n .dead)[m]? = some c' := g2
    by_cases e : n = m
    · subst e
      rw [List.getElem?_set] at g2
      split at g2
      · split at g2
        · cases g2; exact absurd rfl g3
        · cases g2
      · exact .inl (.inl ⟨n, c', g1, g2, g3⟩)
    · rw [List.getElem?_set_ne e] at g2
      exact .inl (.inl ⟨m, c', g1, g2, g3⟩)
  · exact .inl (.inr h)
theorem Rep.kill (R : Rep K mg w) (n : Nat) (hz : ∀ c, w.st[n]? = some c → c.frz = false) : Rep K mg (w.kill n) := by
  have X := kill_ext R n hz
  refine ⟨?_, R.nd, R.tr, fun m b c' g1 g2 => ?_, R.hid⟩
  · show w.al.length = (w.st.set n .dead).length
    rw [List.length_set]; exact R.len
  · have g2 : (w.st.set n .dead)[m]? = some c' := g2
    by_cases e : n = m
    · subst e
      rw [List.getElem?_set] at g2
      split at g2
      · split at g2
        · cases g2; trivial
        · cases g2
      · exact (R.cell n b c' g1 g2).ext X.toEx0 rfl
    · rw [List.getElem?_set_ne e] at g2
      exact (R.cell m b c' g1 g2).ext X.toEx0 rfl
theorem kill_st (R : Rep K mg w) {n : Nat} {a : Addr} {u : HO} (h1 : w.al[n]? = some a) (h2 : w.hp a = some u) : StP (w.kill n) a u := by
  refine ⟨h2, fun z => ?_⟩
  rcases z with ⟨m, c, g1, g2, g3⟩ | z
  · have g2 : (w.st.set n .dead)[m]? = some c := g2
    replace g1 : w.al[m]? = some a := g1
    have e := nd_get R.nd g1 h1
    subst e
    rw [List.getElem?_set] at g2
    split at g2
    · split at g2
      · cases g2; exact g3 rfl
      · cases g2
    · rename_i q; exact q rfl
  · exact (R.hid a z).1 (List.mem_of_getElem? h1)
def Wo.cut (w : Wo) (n : Nat) : Wo := ⟨w.al.take n, w.st.take n, w.hp, w.hid⟩
theorem take_get {α : Type} {l : List α} {n m : Nat} {a : α} (h : (l.take n)[m]? = some a) : l[m]? = some a := by
  rw [List.getElem?_take] at h
  split at h
  · exact h
  · cases h
theorem cut_zz {n : Nat} {a : Addr} (h : Zl (w.cut n) a) : Zl w a := by
  rcases h with ⟨m, c, g1, g2, g3⟩ | h
  · exact .inl ⟨m, c, take_get g1, take_get g2, g3⟩
  · exact .inr h
theorem cut_ext {w0 : Wo} (X : Ext w0 w) : Ext w0 (w.cut w0.al.length) := by
  obtain ⟨t, e⟩ := X.al
  refine ⟨⟨⟨[], ?_⟩, fun a h => X.zz a (cut_zz h), X.keep, X.tr⟩, X.hid, X.kh, fun n a c h1 h2 h3 => ⟨?_, (X.fz n a c h1 h2 h3).2⟩⟩
  · show w.al.take w0.al.length = _
    rw [e]; simp
  · show (w.st.take w0.al.length)[n]? = _
    rw [List.getElem?_take, if_pos (List.getElem?_eq_some_iff.mp h1).1]
    exact (X.fz n a c h1 h2 h3).1
theorem mem_take {α : Type} {l : List α} {n : Nat} {a : α} (h : a ∈ l.take n) : a ∈ l := List.mem_of_mem_take h
theorem RepE.gone {e : En} {s : St} (h : RepE K mg w e s) (i : Nat) : RepE K mg w (e.set i none) (s.set i none) := by
  refine ⟨by rw [List.length_set, List.length_set]; exact h.len, fun j d' g => ?_⟩
  by_cases hj : j = i
  · subst hj
    by_cases hl : j < e.length
    · rw [List.getElem?_set_self hl] at g; cases g
    · rw [List.getElem?_eq_none (by simpa using hl)] at g; cases g
  · rw [List.getElem?_set_ne (Ne.symm hj)] at g ⊢
    exact h.get j d' g
theorem Post.now {β γ : Type} {Rl : Wo → β → γ → Prop} {b : β} {v : γ} {Q : γ → Hp → Prop} {E : XK} (h : Post Rl K mg w (.ok b w.st) Q E) (R : Rep K mg w) (q : Rl w b v) : Q v w.hp := h w v (Ext.refl w) R rfl q
theorem Post.put {β γ : Type} {Rl : Wo → β → γ → Prop} {b : β} {v : γ} {Q : γ → Hp → Prop} {E : XK} {p : Addr} {o : HO} (h : Post Rl K mg w (.ok b w.st) Q E) (R : Rep K mg w) (hn : w.hp p = none) (q : Rl (w.put p o) b v) : Q v (upd w.hp p o) :=
  h (w.put p o) v (put_ext R hn) (R.put hn) rfl q
end G
namespace G
open PySem L2
abbrev AM := En → Store → Res (List D)
def RlB : Wo → Bool → Bool → Prop := fun _ b c => c = b
def tG {β γ : Type} (Rl : Wo → β → γ → Prop) (X : Cx) (W : WX) (m : En → Store → Res β) : St → Hp → (γ → Hp → Prop) → Prop := fun s H Q =>
  ∃ w e, w.hp = H ∧ Rep X.K X.mg w ∧ RepE X.K X.mg w e s ∧ Post Rl X.K X.mg w (m e w.st) Q (fun cls dd H' => W cls dd s H')
abbrev RE (X : Cx) (W : WX) (e : Expr) (m : EM) : Prop := PE X e (tG (RepD X.K X.mg) X W m)
abbrev RT (X : Cx) (W : WX) (e : Expr) (m : TM) : Prop := PT X e (tG RlB X W m)
abbrev RW (X : Cx) (W : WX) (e : Expr) (m : TM) : Prop := PW X e (tG RlB X W m)
abbrev RA (X : Cx) (W : WX) (es : List Expr) (m : AM) : Prop := PA X es (tG (RepL X.K X.mg) X W m)
section
variable {X : Cx} {W : WX} {a b c e : Expr} {es : List Expr} {ma mb mc me : EM} {ta tb : TM} {pos : Pos}
theorem pe_imp {t t' : TE} (h : PE X e t) (i : ∀ s H Q, t' s H Q → t s H Q) : PE X e t' := ⟨fun pins s σ H Q I q => h.run pins s σ H Q I (i _ _ _ q)⟩
theorem pt_imp {t t' : TT} (h : PT X e t) (i : ∀ s H Q, t' s H Q → t s H Q) : PT X e t' := ⟨fun pins s σ H Q I q => h.run pins s σ H Q I (i _ _ _ q)⟩
theorem pw_imp {t t' : TT} (h : PW X e t) (i : ∀ s H Q, t' s H Q → t s H Q) : PW X e t' := ⟨fun wh pins s σ H Q I q => h.run wh pins s σ H Q I (i _ _ _ q)⟩
theorem pa_imp {t t' : TA} (h : PA X es t) (i : ∀ s H Q, t' s H Q → t s H Q) : PA X es t' := ⟨fun ps pins s σ H Q I q => h.run ps pins s σ H Q I (i _ _ _ q)⟩
def lf {β : Type} (o : Option β) (S : Store) : Res β := match o with
  | some d => .ok d S
  | none => .stuck
def eC (d : D) : EM := fun _ S => .ok d S
def eVar (i : Nat) : EM := fun e S => match e[i]? with
  | some (some d) => .ok d S
  | _ => .stuck
theorem re_c {v : V} {d : D} (h : PE X e (tC v)) (q : ∀ w, RepD X.K X.mg w d v) : RE X W e (eC d) := pe_imp h fun s H Q ⟨w, en, hw, R, E, P⟩ => by
  subst hw
  exact Post.now P R (q w)
theorem re_int {i j pos} : RE X W (.Constant (.int i) j pos) (eC (.int i)) := re_c pe_int fun _ => .int i
theorem re_bl {b j pos} : RE X W (.Constant (.bool b) j pos) (eC (.bl b)) := re_c pe_bl fun _ => .bl b
theorem re_non {j pos} : RE X W (.Constant .none j pos) (eC .non) := re_c pe_non fun _ => .non
theorem re_str {x j pos} : RE X W (.Constant (.str x) j pos) (eC (.str x)) := re_c pe_str fun _ => .str x
theorem re_glob {x : Str} {v : V} {u : Value} {d : D} (hg : Gl X x) (hm : X.mg x = some u) (r : RelV v u) (q : ∀ w, RepD X.K X.mg w d v) (hd : (x == ("__debug__" : Str)) = false := by decide) : RE X W (.Name x pos) (eC d) := re_c (pe_glob hg hm r hd) q
theorem re_v {i : Nat} {x : Str} (h : PE X (.Name x pos) (tVar i)) : RE X W (.Name x pos) (eVar i) := pe_imp h fun s H Q ⟨w, en, hw, R, E, P⟩ => by
  subst hw
  unfold eVar at P
  split at P
  · rename_i d hd
    obtain ⟨v, hv, r⟩ := E.get i d hd
    exact ⟨v, hv, Post.now P R r⟩
  · exact False.elim P
theorem rv (i : Nat) {x : Str} (hN : X.N[i]? = some x := by rfl) (hv : Vis X.env.scope x := by first | exact Or.inl rfl | exact Or.inr (Or.inl rfl) | exact Or.inr (Or.inr rfl)) (hd : (x == ("__debug__" : Str)) = false := by decide)
    (hcd : (x == ("__classdict__" : Str)) = false := by decide) : RE X W (.Name x pos) (eVar i) := re_v (pe_var hN hv hd hcd)
def OpM (X : Cx) (f : D → D → Option D) : R2 := fun v u H Q => ∃ w x y E, w.hp = H ∧ Rep X.K X.mg w ∧ RepD X.K X.mg w x v ∧ RepD X.K X.mg w y u ∧ Post (RepD X.K X.mg) X.K X.mg w (lf (f x y) w.st) Q E
def eBin (f : D → D → Option D) (a b : EM) : EM := fun e S => (a e S).bind fun x S1 => (b e S1).bind fun y S2 => lf (f x y) S2
theorem t_bin {f : D → D → Option D} : ∀ s H Q, tG (RepD X.K X.mg) X W (eBin f ma mb) s H Q → tOp (OpM X f) (tG (RepD X.K X.mg) X W ma) (tG (RepD X.K X.mg) X W mb) s H Q := by
  rintro s H Q ⟨w, en, rfl, R, E, P⟩
  refine ⟨w, en, rfl, R, E, (Post.bind P).imp ?_⟩
  rintro v H1 ⟨w1, x, rfl, X1, R1, rx, P1⟩
  refine ⟨w1, en, rfl, R1, E.ext X1.toEx0, (Post.bind P1).imp ?_⟩
  rintro u H2 ⟨w2, y, rfl, X2, R2, ry, P2⟩
  exact ⟨w2, x, y, _, rfl, R2, rx.ext X2.toEx0, ry, P2⟩
theorem re_bin {op : Operator} {f : D → D → Option D} (ho : OpR X (binaryOp op) (OpM X f)) (ha : RE X W a ma) (hb : RE X W b mb) : RE X W (.BinOp a op b pos) (eBin f ma mb) := pe_imp (pe_op ho ha hb) t_bin
theorem re_cmp {op : CmpOp} {f : D → D → Option D} (ho : OpR X (compareOp op) (OpM X f)) (ha : RE X W a ma) (hb : RE X W b mb) (hm : behindInMarks op b = false) : RE X W (.Compare a [op] [b] pos) (eBin f ma mb) := pe_imp (pe_cmpR ho ha hb hm) t_bin
def tB (m : EM) : TM := fun e S => (m e S).bind fun x S1 => match x with
  | .bl b => .ok b S1
  | _ => .stuck
theorem rt_cmp {op : CmpOp} {f : D → D → Option D} (ho : OpR X (compareOp op) (OpM X f)) (ha : RE X W a ma) (hb : RE X W b mb) (hm : behindInMarks op b = false) : RT X W (.Compare a [op] [b] pos) (tB (eBin f ma mb)) := by
  refine pt_imp (pt_cmpR ho ha hb hm) ?_
  rintro s H Q ⟨w, en, rfl, R, E, P⟩
  refine t_bin s w.hp _ ⟨w, en, rfl, R, E, (Post.bind P).imp ?_⟩
  rintro v H1 ⟨w1, x, rfl, X1, R1, rx, P1⟩
  cases x with
  | bl b => cases rx; exact ⟨b, rfl, Post.now P1 R1 rfl⟩
  | _ => exact False.elim P1
def dAdd : D → D → Option D
  | .int i, .int j => some (.int (i + j))
  | .str x, .str y => if x.length + y.length ≤ sizeLine then some (.str (x ++ y)) else none
  | .lst l, .lst m => if l.length + m.length ≤ sizeLine then some (.lst (l ++ m)) else none
  | .tup (d :: l), .tup m => if (d :: l).length + m.length ≤ sizeLine then some (.tup (d :: l ++ m)) else none
  | _, _ => none
theorem om_add : OpR X (binaryOp .Add) (OpM X dAdd) := by
  intro pins s σ H x y v u Q I rx ry h
  obtain ⟨w, dx, dy, E, rfl, R, qx, qy, P⟩ := h
  unfold dAdd at P
  split at P
  · cases qx; cases qy
    exact op_add pins s σ w.hp _ _ v u Q I rx ry ⟨_, _, rfl, rfl, Post.now P R (.int _)⟩
  · split at P
    · rename_i hz
      cases qx; cases qy
      exact op_add_str pins s σ w.hp _ _ v u Q I rx ry ⟨_, _, rfl, rfl, hz, Post.now P R (.str _)⟩
    · exact False.elim P
  · split at P
    · rename_i hz
      cases qx with
      | lst s1 r1 =>
        cases qy with
        | lst s2 r2 =>
          refine op_cat pins s σ w.hp _ _ v u Q I rx ry ⟨_, _, _, _, rfl, rfl, s1.1, s2.1, by rw [← r1.length, ← r2.length]; exact hz, fun p hp => ?_⟩
          exact Post.put P R hp (.lst (put_st R hp) ((r1.append r2).ext (put_ext R hp).toEx0))
    · exact False.elim P
  · split at P
    · rename_i hz
      cases qx with
      | tup s1 r1 =>
        cases qy with
        | tup s2 r2 =>
          have r12 := r1.append r2
          cases r1 with
          | cons r1 r1' =>
            refine op_catT pins s σ w.hp _ _ v u Q I rx ry ⟨_, _, _, _, rfl, rfl, s1.sq, s2.sq, by simp, ?_, ?_⟩
            · have e1 := r1'.length
              have e2 := r2.length
              simp only [List.length_cons] at hz ⊢
              omega
            · first
                | refine ⟨fun hn => ?_, fun hn p hp => ?_⟩
                | refine ⟨fun hn p hp => ?_, fun hn => ?_⟩
              · subst hn
                cases r2
                rw [List.append_nil] at P
                exact Post.now P R (.tup s1 (.cons r1 r1'))
              · exact Post.put P R hp (.tup (.inl (put_st R hp).o) (r12.ext (put_ext R hp).toEx0))
    · exact False.elim P
  · exact False.elim P
def dSub : D → D → Option D
  | .int i, .int j => some (.int (i - j))
  | _, _ => none
theorem om_sub : OpR X (binaryOp .Sub) (OpM X dSub) := by
  intro pins s σ H x y v u Q I rx ry h
  obtain ⟨w, dx, dy, E, rfl, R, qx, qy, P⟩ := h
  unfold dSub at P
  split at P
  · cases qx; cases qy
    exact op_sub pins s σ w.hp _ _ v u Q I rx ry ⟨_, _, rfl, rfl, Post.now P R (.int _)⟩
  · exact False.elim P
def mulOk (i j : Int) : Bool := decide (i.natAbs < 2 ^ 64) || (decide (j.natAbs < 2 ^ 64) || decide (i.natAbs.log2 + j.natAbs.log2 < 1000000))
def dMul : D → D → Option D
  | .int i, .int j => if mulOk i j then some (.int (i * j)) else none
  | .lst l, .int k => if -(2 ^ 63) ≤ k ∧ k < 2 ^ 63 ∧ l.length * k.toNat ≤ sizeLine then some (.lst (List.replicate k.toNat l).flatten) else none
  | _, _ => none
theorem RepL.rep {w : Wo} {l : List D} {vs : List V} (h : RepL X.K X.mg w l vs) : ∀ n : Nat, RepL X.K X.mg w (List.replicate n l).flatten (List.replicate n vs).flatten
  | 0 => .nil
  | n + 1 => by
    rw [List.replicate_succ, List.replicate_succ, List.flatten_cons, List.flatten_cons]
    exact h.append (RepL.rep h n)
theorem om_mul : OpR X (binaryOp .Mult) (OpM X dMul) := by
  intro pins s σ H x y v u Q I rx ry h
  obtain ⟨w, dx, dy, E, rfl, R, qx, qy, P⟩ := h
  unfold dMul at P
  split at P
  · split at P
    · rename_i hm
      cases qx; cases qy
      unfold mulOk at hm
      rw [Bool.or_eq_true, Bool.or_eq_true] at hm
      rcases hm with hm | hm | hm
      · have hm := of_decide_eq_true hm
        exact op_mul pins s σ w.hp _ _ v u Q I rx ry ⟨_, _, rfl, rfl, .inl (by omega), Post.now P R (.int _)⟩
      · have hm := of_decide_eq_true hm
        exact op_mul pins s σ w.hp _ _ v u Q I rx ry ⟨_, _, rfl, rfl, .inr (by omega), Post.now P R (.int _)⟩
      · have hm := of_decide_eq_true hm
        exact op_mulW pins s σ w.hp _ _ v u Q I rx ry ⟨_, _, rfl, rfl, hm, Post.now P R (.int _)⟩
    · exact False.elim P
  · split at P
    · rename_i hm
      cases qx with
      | lst s1 r1 =>
        cases qy
        refine op_rep pins s σ w.hp _ _ v u Q I rx ry ⟨_, _, _, rfl, rfl, s1.1, hm.1, hm.2.1, by rw [← r1.length]; exact hm.2.2, fun p hp => ?_⟩
        exact Post.put P R hp (.lst (put_st R hp) ((RepL.rep r1 _).ext (put_ext R hp).toEx0))
    · exact False.elim P
  · exact False.elim P
def divOk (j : Int) : Bool := j != 0 && decide (j.natAbs.log2 < 9000)
def dDiv : D → D → Option D
  | .int i, .int j => if divOk j then some (.int (i.fdiv j)) else none
  | _, _ => none
theorem op_fdivX : OpR X (binaryOp .FloorDiv) (rI (fun _ j => j ≠ 0 ∧ j.natAbs.log2 < 9000) fun i j => .int (i.fdiv j)) :=
  opI fun i j _ _ _ _ _ hc q => PyProof.Rows.floordiv_int hc.1 q (.inl (PyProof.noPylong_of_log2 hc.2))
theorem om_div : OpR X (binaryOp .FloorDiv) (OpM X dDiv) := by
  intro pins s σ H x y v u Q I rx ry h
  obtain ⟨w, dx, dy, E, rfl, R, qx, qy, P⟩ := h
  unfold dDiv at P
  split at P
  · split at P
    · rename_i hm
      cases qx; cases qy
      unfold divOk at hm
      simp only [Bool.and_eq_true, bne_iff_ne, decide_eq_true_eq] at hm
      exact op_fdivX pins s σ w.hp _ _ v u Q I rx ry ⟨_, _, rfl, rfl, hm, Post.now P R (.int _)⟩
    · exact False.elim P
  · exact False.elim P
def dMod : D → D → Option D
  | .int i, .int j => if j = 0 then none else some (.int (i.fmod j))
  | _, _ => none
theorem om_mod : OpR X (binaryOp .Mod) (OpM X dMod) := by
  intro pins s σ H x y v u Q I rx ry h
  obtain ⟨w, dx, dy, E, rfl, R, qx, qy, P⟩ := h
  unfold dMod at P
  split at P
  · split at P
    · exact False.elim P
    · rename_i hm
      cases qx; cases qy
      exact op_modN pins s σ w.hp _ _ v u Q I rx ry ⟨_, _, rfl, rfl, hm, Post.now P R (.int _)⟩
  · exact False.elim P
def dPow : D → D → Option D
  | .int i, .int j => if 0 ≤ j ∧ j ≤ 1000000 ∧ i.natAbs < 2 ^ 64 then some (.int (i ^ j.toNat)) else none
  | _, _ => none
theorem om_pow : OpR X (binaryOp .Pow) (OpM X dPow) := by
  intro pins s σ H x y v u Q I rx ry h
  obtain ⟨w, dx, dy, E, rfl, R, qx, qy, P⟩ := h
  unfold dPow at P
  split at P
  · split at P
    · rename_i hm
      cases qx; cases qy
      exact op_pow pins s σ w.hp _ _ v u Q I rx ry ⟨_, _, rfl, rfl, hm, Post.now P R (.int _)⟩
    · exact False.elim P
  · exact False.elim P
mutual
def D.toP : D → Option PyData
  | .non => some .none
  | .bl b => some (.bool b)
  | .int i => some (.int i)
  | .str x => some (.str x)
  | .tup l => (toPs l).map .tuple
  | .lst l => (toPs l).map .list
  | .scr l => (toPs l).map .list
  | .dic _ _ => none
  | .loc _ => none
  | .exc _ _ => none
  | .ins _ _ => none
  | .fa _ => none
  | .pin _ _ => none
def toPs : List D → Option (List PyData)
  | [] => some []
  | d :: l => match d.toP, toPs l with
    | some p, some ps => some (p :: ps)
    | _, _ => none
end
mutual
theorem RepD.dp {K : PySem.W.Frag} {mg : Str → Option Value} {w : Wo} {d : D} {v : V} {p : PyData} : RepD K mg w d v → d.toP = some p → Dp K w.hp v p
  | .non, h => by cases h; exact .non
  | .bl b, h => by cases h; exact .bl b
  | .int i, h => by cases h; exact .int i
  | .str x, h => by cases h; exact .str x
  | .tup s r, h => by
    rw [D.toP] at h
    obtain ⟨ps, e, rfl⟩ := Option.map_eq_some_iff.mp h
    exact .tup s.sq (RepL.dp r e)
  | .lst s r, h => by
    rw [D.toP] at h
    obtain ⟨ps, e, rfl⟩ := Option.map_eq_some_iff.mp h
    exact .lst (SqL.of s.1) (RepL.dp r e)
  | .scr s r, h => by
    rw [D.toP] at h
    obtain ⟨ps, e, rfl⟩ := Option.map_eq_some_iff.mp h
    exact .lst s.sq (RepL.dp r e)
  | .dic _ _ _, h => by rw [D.toP] at h; cases h
  | .loc _, h => by rw [D.toP] at h; cases h
  | .ins _ _ _, h => by rw [D.toP] at h; cases h
  | .exc _ _ _ _, h => by rw [D.toP] at h; cases h
  | .fa _, h => by rw [D.toP] at h; cases h
  | .pin _, h => by rw [D.toP] at h; cases h
theorem RepL.dp {K : PySem.W.Frag} {mg : Str → Option Value} {w : Wo} {l : List D} {vs : List V} {ps : List PyData} : RepL K mg w l vs → toPs l = some ps → DpAll K w.hp vs ps
  | .nil, h => by rw [toPs] at h; cases h; exact .nil
  | .cons r t, h => by
    rw [toPs] at h
    split at h
    · rename_i p q e1 e2
      cases h
      exact .cons (RepD.dp r e1) (RepL.dp t e2)
    · cases h
end
def eqP (x y : D) : Option Bool := match x.toP, y.toP with
  | some p, some q => if SeqAt.shaped p && SeqAt.shaped q then some (PyData.eqv p q) else none
  | _, _ => none
def eqD : D → D → Option Bool
  | .str a, .str b => some (decide (a = b))
  | x, y => eqP x y
def dEq (x y : D) : Option D := (eqD x y).map .bl
def dNe (x y : D) : Option D := (eqD x y).map fun b => .bl (!b)
theorem dec_sv (a b : Str) : decide (V.str a = V.str b) = decide (a = b) := by
  by_cases h : a = b
  · subst h; simp
  · rw [decide_eq_false h, decide_eq_false fun z => h (by cases z; rfl)]
theorem eqD_cases {x y : D} {r : Option Bool} (h : eqD x y = r) : (∃ a b, x = .str a ∧ y = .str b ∧ r = some (decide (a = b))) ∨ r = eqP x y := by
  unfold eqD at h
  split at h
  · exact .inl ⟨_, _, rfl, rfl, h.symm⟩
  · exact .inr h.symm
theorem om_eq (hu : X.A.units + 64 < cLine) : OpR X (compareOp .Eq) (OpM X dEq) := by
  intro pins s σ H x y v u Q I rx ry h
  obtain ⟨w, dx, dy, E, rfl, R, qx, qy, P⟩ := h
  unfold dEq at P
  rcases eqD_cases (x := dx) (y := dy) rfl with ⟨a, b, rfl, rfl, e⟩ | e
  · rw [e] at P
    cases qx; cases qy
    exact op_eq pins s σ w.hp _ _ v u Q I rx ry ⟨rfl, by rw [dec_sv]; exact Post.now P R (.bl _)⟩
  · rw [e] at P
    unfold eqP at P
    split at P
    · rename_i p q e1 e2
      split at P
      · rename_i hs
        rw [Bool.and_eq_true] at hs
        exact op_eqD hu pins s σ w.hp _ _ v u Q I rx ry ⟨p, q, qx.dp e1, qy.dp e2, hs.1, hs.2, Post.now P R (.bl _)⟩
      · exact False.elim P
    · exact False.elim P
theorem om_ne (hu : X.A.units + 64 < cLine) : OpR X (compareOp .NotEq) (OpM X dNe) := by
  intro pins s σ H x y v u Q I rx ry h
  obtain ⟨w, dx, dy, E, rfl, R, qx, qy, P⟩ := h
  unfold dNe at P
  rcases eqD_cases (x := dx) (y := dy) rfl with ⟨a, b, rfl, rfl, e⟩ | e
  · rw [e] at P
    cases qx; cases qy
    exact op_ne pins s σ w.hp _ _ v u Q I rx ry ⟨rfl, by rw [dec_sv]; exact Post.now P R (.bl _)⟩
  · rw [e] at P
    unfold eqP at P
    split at P
    · rename_i p q e1 e2
      split at P
      · rename_i hs
        rw [Bool.and_eq_true] at hs
        exact op_neD hu pins s σ w.hp _ _ v u Q I rx ry ⟨p, q, qx.dp e1, qy.dp e2, hs.1, hs.2, Post.now P R (.bl _)⟩
      · exact False.elim P
    · exact False.elim P
def cmpI (f : Int → Int → Bool) : D → D → Option D
  | .int i, .int j => some (.bl (f i j))
  | _, _ => none
theorem om_cmpI {op : CmpOp} {f : Int → Int → Bool} (ho : OpR X (compareOp op) (rI0 fun i j => .bl (f i j))) : OpR X (compareOp op) (OpM X (cmpI f)) := by
  intro pins s σ H x y v u Q I rx ry h
  obtain ⟨w, dx, dy, E, rfl, R, qx, qy, P⟩ := h
  unfold cmpI at P
  split at P
  · cases qx; cases qy
    exact ho pins s σ w.hp _ _ v u Q I rx ry ⟨_, _, rfl, rfl, Post.now P R (.bl _)⟩
  · exact False.elim P
abbrev dLt : D → D → Option D := cmpI fun i j => decide (i < j)
abbrev dLe : D → D → Option D := cmpI fun i j => decide (i ≤ j)
abbrev dGt : D → D → Option D := cmpI fun i j => decide (j < i)
abbrev dGe : D → D → Option D := cmpI fun i j => decide (j ≤ i)
theorem om_lt : OpR X (compareOp .Lt) (OpM X dLt) := om_cmpI op_lt
theorem om_le : OpR X (compareOp .LtE) (OpM X dLe) := om_cmpI op_le
theorem om_gt : OpR X (compareOp .Gt) (OpM X dGt) := om_cmpI op_gt
theorem om_ge : OpR X (compareOp .GtE) (OpM X dGe) := om_cmpI op_ge
def isN : D → Bool
  | .non => true
  | .pin v _ => decide (v = .non)
  | _ => false
theorem RepD.isN {K : PySem.W.Frag} {mg : Str → Option Value} {w : Wo} {d : D} {v : V} (h : RepD K mg w d v) : decide (v = .non) = isN d := by
  cases h <;> simp [G.isN]
def dIs (x y : D) : Option D := if isN y then some (.bl (isN x)) else none
def dIsNot (x y : D) : Option D := if isN y then some (.bl (!isN x)) else none
theorem om_is : OpR X (compareOp .Is) (OpM X dIs) := by
  intro pins s σ H x y v u Q I rx ry h
  obtain ⟨w, dx, dy, E, rfl, R, qx, qy, P⟩ := h
  unfold dIs at P
  split at P
  · rename_i hy
    have ey := qy.isN
    rw [hy] at ey
    exact op_isN pins s σ w.hp _ _ v u Q I rx ry ⟨of_decide_eq_true ey, Post.now P R (by rw [qx.isN]; exact .bl _)⟩
  · exact False.elim P
theorem om_isnot : OpR X (compareOp .IsNot) (OpM X dIsNot) := by
  intro pins s σ H x y v u Q I rx ry h
  obtain ⟨w, dx, dy, E, rfl, R, qx, qy, P⟩ := h
  unfold dIsNot at P
  split at P
  · rename_i hy
    have ey := qy.isN
    rw [hy] at ey
    exact op_notN pins s σ w.hp _ _ v u Q I rx ry ⟨of_decide_eq_true ey, Post.now P R (by rw [qx.isN]; exact .bl _)⟩
  · exact False.elim P
def eChain (f g : D → D → Option D) (a b c : EM) : EM := fun e S => (a e S).bind fun x S1 => (b e S1).bind fun y S2 => (lf (f x y) S2).bind fun z S3 => match z with
  | .bl true => (c e S3).bind fun t S4 => lf (g y t) S4
  | .bl false => .ok (.bl false) S3
  | _ => .stuck
theorem t_chain {f g : D → D → Option D} : ∀ s H Q, tG (RepD X.K X.mg) X W (eChain f g ma mb mc) s H Q → tChain (OpM X f) (OpM X g) (tG (RepD X.K X.mg) X W ma) (tG (RepD X.K X.mg) X W mb) (tG (RepD X.K X.mg) X W mc) s H Q := by
  rintro s H Q ⟨w, en, rfl, R, E, P⟩
  refine ⟨w, en, rfl, R, E, (Post.bind P).imp ?_⟩
  rintro v H1 ⟨w1, x, rfl, X1, R1, rx, P1⟩
  refine ⟨w1, en, rfl, R1, E.ext X1.toEx0, (Post.bind P1).imp ?_⟩
  rintro u H2 ⟨w2, y, rfl, X2, R2, ry, P2⟩
  refine ⟨w2, x, y, _, rfl, R2, rx.ext X2.toEx0, ry, (Post.bind (Rl := RepD X.K X.mg) P2).imp ?_⟩
  rintro z H3 ⟨w3, d, rfl, X3, R3, rz, P3⟩
  cases d with
  | bl b =>
    cases rz
    cases b with
    | true =>
      refine ⟨true, rfl, ?_⟩
      rw [if_pos rfl]
      refine ⟨w3, en, rfl, R3, ((E.ext X1.toEx0).ext X2.toEx0).ext X3.toEx0, (Post.bind P3).imp ?_⟩
      rintro t H4 ⟨w4, d4, rfl, X4, R4, r4, P4⟩
      exact ⟨w4, y, d4, _, rfl, R4, (ry.ext X3.toEx0).ext X4.toEx0, r4, P4⟩
    | false =>
      refine ⟨false, rfl, ?_⟩
      rw [if_neg Bool.false_ne_true]
      exact Post.now P3 R3 (.bl false)
  | _ => exact False.elim P3
theorem re_chain {op op' : CmpOp} {f g : D → D → Option D} (ho : OpR X (compareOp op) (OpM X f)) (ho' : OpR X (compareOp op') (OpM X g)) (ha : RE X W a ma) (hb : RE X W b mb) (hc : RE X W c mc)
    (hm : lastMarks [op, op'] [b, c] = false := by with_unfolding_all rfl) : RE X W (.Compare a [op, op'] [b, c] pos) (eChain f g ma mb mc) := pe_imp (pe_chain ho ho' ha hb hc hm) t_chain
theorem rt_chain {op op' : CmpOp} {f g : D → D → Option D} (ho : OpR X (compareOp op) (OpM X f)) (ho' : OpR X (compareOp op') (OpM X g)) (ha : RE X W a ma) (hb : RE X W b mb) (hc : RE X W c mc)
    (hm : lastMarks [op, op'] [b, c] = false := by with_unfolding_all rfl) : RT X W (.Compare a [op, op'] [b, c] pos) (tB (eChain f g ma mb mc)) := by
  refine pt_imp (pt_chain ho ho' ha hb hc hm) ?_
  rintro s H Q ⟨w, en, rfl, R, E, P⟩
  refine t_chain s w.hp _ ⟨w, en, rfl, R, E, (Post.bind P).imp ?_⟩
  rintro v H1 ⟨w1, x, rfl, X1, R1, rx, P1⟩
  cases x with
  | bl b => cases rx; exact ⟨b, rfl, Post.now P1 R1 rfl⟩
  | _ => exact False.elim P1
def truD (S : Store) : D → Option Bool
  | .non => some false
  | .bl b => some b
  | .int i => some (i != 0)
  | .str x => if x.length ≤ sizeLine then some ((x.length : Int) != 0) else none
  | .tup l => some (!l.isEmpty)
  | .lst l => some (!l.isEmpty)
  | .scr l => some (!l.isEmpty)
  | .dic _ l => some (!l.isEmpty)
  | .loc n => match S[n]? with
    | some (.lst l) => some (!l.isEmpty)
    | some (.dk l) => some (!l.isEmpty)
    | _ => none
  | _ => none
theorem RepL.emp {K : PySem.W.Frag} {mg : Str → Option Value} {w : Wo} {l : List D} {vs : List V} (h : RepL K mg w l vs) : (!vs.isEmpty) = !l.isEmpty := by cases h <;> rfl
theorem RepK.emp {κ : Type} {K : PySem.W.Frag} {mg : Str → Option Value} {w : Wo} {l : List (κ × D)} {vs : List (κ × V)} (h : RepK κ K mg w l vs) : (!vs.isEmpty) = !l.isEmpty := by cases h <;> rfl
theorem RepD.tru {w : Wo} {d : D} {v : V} {k : Bool} (R : Rep X.K X.mg w) (h : RepD X.K X.mg w d v) (e : truD w.st d = some k) : TruV X.K v w.hp k := by
  cases h with
  | non => cases e; rfl
  | bl b => cases e; rfl
  | int i => cases e; rfl
  | str x =>
    replace e : (if x.length ≤ sizeLine then some ((x.length : Int) != 0) else none) = some k := e
    split at e
    · cases e; exact ⟨by assumption, rfl⟩
    · cases e
  | tup s r => cases e; exact .inr (.inl ⟨_, s.sq, r.emp.symm⟩)
  | lst s r => cases e; exact .inl ⟨_, SqL.of s.1, r.emp.symm⟩
  | scr s r => cases e; exact .inl ⟨_, s.sq, r.emp.symm⟩
  | @dic ks l a vs s z r =>
    cases e
    refine .inr (.inr ⟨_, s.1, ?_⟩)
    rw [← r.emp]
    cases ks with
    | nil => cases vs with
      | nil => rfl
      | cons _ _ => cases z
    | cons _ _ => cases vs with
      | nil => cases z
      | cons _ _ => rfl
  | @loc n a hn =>
    replace e : (match w.st[n]? with
      | some (.lst l) => some (!l.isEmpty)
      | some (.dk l) => some (!l.isEmpty)
      | _ => none) = some k := e
    split at e
    · rename_i l hl
      cases e
      obtain ⟨vs, p, r⟩ := R.cell _ _ _ hn hl
      exact .inl ⟨vs, SqL.of p, r.emp.symm⟩
    · rename_i l hl
      cases e
      obtain ⟨vs, p, r⟩ := R.cell _ _ _ hn hl
      exact .inr (.inr ⟨vs, p, r.emp.symm⟩)
    · cases e
  | ins _ _ _ => cases e
  | exc _ _ _ _ => cases e
  | fa _ => cases e
  | pin _ => cases e
def tT (m : EM) : TM := fun e S => (m e S).bind fun x S1 => lf (truD S1 x) S1
theorem rt_e (ha : RE X W a ma) (he : ∀ whole, isTrue a X.env whole = (do let v ← whole; standAt a.pos; holding [v] (truthy v)) := by intro _; rfl) : RT X W a (tT ma) := by
  refine pt_imp (pt_truth ha he) ?_
  rintro s H Q ⟨w, en, rfl, R, E, P⟩
  refine ⟨w, en, rfl, R, E, (Post.bind P).imp ?_⟩
  rintro v H1 ⟨w1, x, rfl, X1, R1, rx, P1⟩
  dsimp only at P1
  cases h : truD w1.st x with
  | none => rw [h] at P1; exact False.elim P1
  | some k =>
    rw [h] at P1
    exact ⟨k, rx.tru R1 h, Post.now P1 R1 rfl⟩
def tNt (t : TM) : TM := fun e S => (t e S).bind fun b S1 => .ok (!b) S1
def tAn (t u : TM) : TM := fun e S => (t e S).bind fun b S1 => if b then u e S1 else .ok false S1
def tOr' (t u : TM) : TM := fun e S => (t e S).bind fun b S1 => if b then .ok true S1 else u e S1
theorem rt_not (ha : RT X W a ta) : RT X W (.UnaryOp .Not a pos) (tNt ta) := by
  refine pt_imp (pt_not ha) ?_
  rintro s H Q ⟨w, en, rfl, R, E, P⟩
  refine ⟨w, en, rfl, R, E, (Post.bind P).imp ?_⟩
  rintro v H1 ⟨w1, x, rfl, X1, R1, rx, P1⟩
  cases rx
  exact Post.now P1 R1 rfl
theorem rw_and1 (ha : RT X W a ta) : RW X W (.BoolOp .And [a] pos) ta := pw_and1 ha
theorem rw_or1 (ha : RT X W a ta) : RW X W (.BoolOp .Or [a] pos) ta := pw_or1 ha
theorem rw_and {rest : List Expr} (ha : RT X W a ta) (hb : RW X W (.BoolOp .And (b :: rest) pos) tb) : RW X W (.BoolOp .And (a :: b :: rest) pos) (tAn ta tb) := by
  refine pw_imp (pw_and ha hb) ?_
  rintro s H Q ⟨w, en, rfl, R, E, P⟩
  refine ⟨w, en, rfl, R, E, (Post.bind P).imp ?_⟩
  rintro v H1 ⟨w1, x, rfl, X1, R1, rx, P1⟩
  cases rx
  dsimp only at P1
  cases v with
  | true =>
    rw [if_pos rfl] at P1 ⊢
    exact ⟨w1, en, rfl, R1, E.ext X1.toEx0, P1⟩
  | false =>
    rw [if_neg Bool.false_ne_true] at P1 ⊢
    exact Post.now P1 R1 rfl
theorem rw_or {rest : List Expr} (ha : RT X W a ta) (hb : RW X W (.BoolOp .Or (b :: rest) pos) tb) : RW X W (.BoolOp .Or (a :: b :: rest) pos) (tOr' ta tb) := by
  refine pw_imp (pw_or ha hb) ?_
  rintro s H Q ⟨w, en, rfl, R, E, P⟩
  refine ⟨w, en, rfl, R, E, (Post.bind P).imp ?_⟩
  rintro v H1 ⟨w1, x, rfl, X1, R1, rx, P1⟩
  cases rx
  dsimp only at P1
  cases v with
  | true =>
    rw [if_pos rfl] at P1 ⊢
    exact Post.now P1 R1 rfl
  | false =>
    rw [if_neg Bool.false_ne_true] at P1 ⊢
    exact ⟨w1, en, rfl, R1, E.ext X1.toEx0, P1⟩
theorem rt_w (h : RW X W a ta) : RT X W a ta := h.pt
def eAn (a b : EM) : EM := fun e S => (a e S).bind fun x S1 => (lf (truD S1 x) S1).bind fun k S2 => if k then b e S2 else .ok x S2
def eOr (a b : EM) : EM := fun e S => (a e S).bind fun x S1 => (lf (truD S1 x) S1).bind fun k S2 => if k then .ok x S2 else b e S2
def eNt (a : EM) : EM := fun e S => (a e S).bind fun x S1 => (lf (truD S1 x) S1).bind fun k S2 => .ok (.bl (!k)) S2
theorem re_one {op} (h : RE X W a ma) : RE X W (.BoolOp op [a] pos) ma := pe_one h
theorem re_and {rest : List Expr} (ha : RE X W a ma) (hb : RE X W (.BoolOp .And (b :: rest) pos) mb) : RE X W (.BoolOp .And (a :: b :: rest) pos) (eAn ma mb) := by
  refine pe_imp (pe_andT ha hb) ?_
  rintro s H Q ⟨w, en, rfl, R, E, P⟩
  refine ⟨w, en, rfl, R, E, (Post.bind P).imp ?_⟩
  rintro v H1 ⟨w1, x, rfl, X1, R1, rx, P1⟩
  dsimp only at P1
  cases h : truD w1.st x with
  | none => rw [h] at P1; exact False.elim P1
  | some k =>
    rw [h] at P1
    refine ⟨k, rx.tru R1 h, ?_⟩
    replace P1 : Post (RepD X.K X.mg) X.K X.mg w1 (if k = true then mb en w1.st else .ok x w1.st) Q _ := P1
    cases k with
    | true =>
      rw [if_pos rfl] at P1 ⊢
      exact ⟨w1, en, rfl, R1, E.ext X1.toEx0, P1⟩
    | false =>
      rw [if_neg Bool.false_ne_true] at P1 ⊢
      exact Post.now P1 R1 rx
theorem re_or {rest : List Expr} (ha : RE X W a ma) (hb : RE X W (.BoolOp .Or (b :: rest) pos) mb) : RE X W (.BoolOp .Or (a :: b :: rest) pos) (eOr ma mb) := by
  refine pe_imp (pe_orT ha hb) ?_
  rintro s H Q ⟨w, en, rfl, R, E, P⟩
  refine ⟨w, en, rfl, R, E, (Post.bind P).imp ?_⟩
  rintro v H1 ⟨w1, x, rfl, X1, R1, rx, P1⟩
  dsimp only at P1
  cases h : truD w1.st x with
  | none => rw [h] at P1; exact False.elim P1
  | some k =>
    rw [h] at P1
    refine ⟨k, rx.tru R1 h, ?_⟩
    replace P1 : Post (RepD X.K X.mg) X.K X.mg w1 (if k = true then .ok x w1.st else mb en w1.st) Q _ := P1
    cases k with
    | true =>
      rw [if_pos rfl] at P1 ⊢
      exact Post.now P1 R1 rx
    | false =>
      rw [if_neg Bool.false_ne_true] at P1 ⊢
      exact ⟨w1, en, rfl, R1, E.ext X1.toEx0, P1⟩
theorem re_not (ha : RE X W a ma) : RE X W (.UnaryOp .Not a pos) (eNt ma) := by
  refine pe_imp (pe_notT ha) ?_
  rintro s H Q ⟨w, en, rfl, R, E, P⟩
  refine ⟨w, en, rfl, R, E, (Post.bind P).imp ?_⟩
  rintro v H1 ⟨w1, x, rfl, X1, R1, rx, P1⟩
  dsimp only at P1
  cases h : truD w1.st x with
  | none => rw [h] at P1; exact False.elim P1
  | some k =>
    rw [h] at P1
    exact ⟨k, rx.tru R1 h, Post.now P1 R1 (.bl _)⟩
def eIf (t : TM) (a b : EM) : EM := fun e S => (t e S).bind fun k S1 => if k then a e S1 else b e S1
theorem re_if (hc : RT X W c ta) (ha : RE X W a ma) (hb : RE X W b mb) : RE X W (.IfExp c a b pos) (eIf ta ma mb) := by
  refine pe_imp (pe_ifExp hc ha hb) ?_
  rintro s H Q ⟨w, en, rfl, R, E, P⟩
  refine ⟨w, en, rfl, R, E, (Post.bind P).imp ?_⟩
  rintro v H1 ⟨w1, x, rfl, X1, R1, rx, P1⟩
  cases rx
  dsimp only at P1
  cases v with
  | true =>
    rw [if_pos rfl] at P1 ⊢
    exact ⟨w1, en, rfl, R1, E.ext X1.toEx0, P1⟩
  | false =>
    rw [if_neg Bool.false_ne_true] at P1 ⊢
    exact ⟨w1, en, rfl, R1, E.ext X1.toEx0, P1⟩
def eNeg (a : EM) : EM := fun e S => (a e S).bind fun x S1 => match x with
  | .int i => .ok (.int (-i)) S1
  | _ => .stuck
def aNil : AM := fun _ S => .ok [] S
def aCons (a : EM) (r : AM) : AM := fun e S => (a e S).bind fun x S1 => (r e S1).bind fun xs S2 => .ok (x :: xs) S2
theorem ra_nil : RA X W [] aNil := pa_imp pa_nil fun s H Q ⟨w, en, hw, R, E, P⟩ => by
  subst hw
  exact Post.now P R .nil
theorem ra_cons {mr : AM} (ha : RE X W e ma) (hr : RA X W es mr) (hs : starEach (e :: es) X.env = (false, eval e X.env) :: starEach es X.env := by rfl) : RA X W (e :: es) (aCons ma mr) := by
  refine pa_imp (pa_cons ha hr hs) ?_
  rintro s H Q ⟨w, en, rfl, R, E, P⟩
  refine ⟨w, en, rfl, R, E, (Post.bind P).imp ?_⟩
  rintro v H1 ⟨w1, x, rfl, X1, R1, rx, P1⟩
  refine ⟨w1, en, rfl, R1, E.ext X1.toEx0, (Post.bind P1).imp ?_⟩
  rintro vs H2 ⟨w2, y, rfl, X2, R2, ry, P2⟩
  exact Post.now P2 R2 (.cons (rx.ext X2.toEx0) ry)
def eTup (m : AM) : EM := fun e S => (m e S).bind fun xs S1 => if xs.length ≤ sizeLine then .ok (.tup xs) S1 else .stuck
def eLst (m : AM) : EM := fun e S => (m e S).bind fun xs S1 => if xs.length ≤ sizeLine then .ok (.lst xs) S1 else .stuck
def eNew (m : AM) : EM := fun e S => (m e S).bind fun xs S1 => if xs.length ≤ sizeLine then .ok (.loc S1.length) (S1 ++ [.lst xs]) else .stuck
theorem re_tup {m : AM} {x1} (h : RA X W es m) : RE X W (.Tuple es x1 pos) (eTup m) := by
  refine pe_imp (pe_tup h) ?_
  rintro s H Q ⟨w, en, rfl, R, E, P⟩
  refine ⟨w, en, rfl, R, E, (Post.bind P).imp ?_⟩
  rintro v H1 ⟨w1, x, rfl, X1, R1, rx, P1⟩
  dsimp only at P1
  split at P1
  · rename_i hz
    exact ⟨by rw [← rx.length]; exact hz, fun p hp => Post.put P1 R1 hp (.tup (.inl (put_st R1 hp).o) (rx.ext (put_ext R1 hp).toEx0))⟩
  · exact False.elim P1
theorem re_lst {m : AM} (h : RA X W es m) : RE X W (.List es pos) (eLst m) := by
  refine pe_imp (pe_lst h) ?_
  rintro s H Q ⟨w, en, rfl, R, E, P⟩
  refine ⟨w, en, rfl, R, E, (Post.bind P).imp ?_⟩
  rintro v H1 ⟨w1, x, rfl, X1, R1, rx, P1⟩
  dsimp only at P1
  split at P1
  · rename_i hz
    exact ⟨by rw [← rx.length]; exact hz, fun p hp => Post.put P1 R1 hp (.lst (put_st R1 hp) (rx.ext (put_ext R1 hp).toEx0))⟩
  · exact False.elim P1
theorem Post.new {β γ : Type} {Rl : Wo → β → γ → Prop} {K : PySem.W.Frag} {mg : Str → Option Value} {w : Wo} {b : β} {v : γ} {Q : γ → Hp → Prop} {E : XK} {p : Addr} {o : HO} {c : Cell} (h : Post Rl K mg w (.ok b (w.st ++ [c])) Q E) (R : Rep K mg w) (hn : w.hp p = none)
    (hc : CellR K mg (w.new p o c) p c) (q : Rl (w.new p o c) b v) : Q v (upd w.hp p o) :=
  h (w.new p o c) v (new_ext R hn) (R.new hn hc) rfl q
theorem re_new {m : AM} (h : RA X W es m) : RE X W (.List es pos) (eNew m) := by
  refine pe_imp (pe_lst h) ?_
  rintro s H Q ⟨w, en, rfl, R, E, P⟩
  refine ⟨w, en, rfl, R, E, (Post.bind P).imp ?_⟩
  rintro v H1 ⟨w1, x, rfl, X1, R1, rx, P1⟩
  dsimp only at P1
  split at P1
  · rename_i hz
    refine ⟨by rw [← rx.length]; exact hz, fun p hp => Post.new P1 R1 hp ⟨v, upd_same, rx.ext (new_ext R1 hp).toEx0⟩ (.loc (new_get R1))⟩
  · exact False.elim P1
end
end G
namespace G
open PySem L2
section
variable {X : Cx} {W : WX} {a b c e o : Expr} {es : List Expr} {ma mb mc me : EM} {ta tb : TM} {pos : Pos}
variable {K : PySem.W.Frag} {mg : Str → Option Value} {w : Wo}
def ixD (S : Store) : D → D → Option D
  | .tup l, .int i => atI l i
  | .lst l, .int i => atI l i
  | .scr l, .int i => atI l i
  | .str x, .int i => if x.length ≤ sizeLine then (atI x.cps.toList i).map fun c => .str ⟨#[c]⟩ else none
  | .loc n, .int i => match S[n]? with
    | some (.lst l) => atI l i
    | _ => none
  | _, _ => none
def OpMS (X : Cx) (f : Store → D → D → Option D) : R2 := fun v u H Q => ∃ w x y E, w.hp = H ∧ Rep X.K X.mg w ∧ RepD X.K X.mg w x v ∧ RepD X.K X.mg w y u ∧ Post (RepD X.K X.mg) X.K X.mg w (lf (f w.st x y) w.st) Q E
def eBinS (f : Store → D → D → Option D) (a b : EM) : EM := fun e S => (a e S).bind fun x S1 => (b e S1).bind fun y S2 => lf (f S2 x y) S2
theorem t_binS {f : Store → D → D → Option D} : ∀ s H Q, tG (RepD X.K X.mg) X W (eBinS f ma mb) s H Q → tOp (OpMS X f) (tG (RepD X.K X.mg) X W ma) (tG (RepD X.K X.mg) X W mb) s H Q := by
  rintro s H Q ⟨w, en, rfl, R, E, P⟩
  refine ⟨w, en, rfl, R, E, (Post.bind P).imp ?_⟩
  rintro v H1 ⟨w1, x, rfl, X1, R1, rx, P1⟩
  refine ⟨w1, en, rfl, R1, E.ext X1.toEx0, (Post.bind P1).imp ?_⟩
  rintro u H2 ⟨w2, y, rfl, X2, R2, ry, P2⟩
  exact ⟨w2, x, y, _, rfl, R2, rx.ext X2.toEx0, ry, P2⟩
theorem om_ix : IxR X (OpMS X ixD) := by
  intro va sl pins s σ H x y v u Q I rx ry h hs
  obtain ⟨w, dx, dy, E, rfl, R, qx, qy, P⟩ := h
  unfold ixD at P
  split at P
  · rename_i l i
    cases qy
    cases qx with
    | tup st r =>
      cases q : atI l i with
      | none => rw [q] at P; exact False.elim P
      | some d =>
        rw [q] at P
        obtain ⟨z, e1, rz⟩ := r.at q
        exact ix_tup va sl pins s σ w.hp _ _ v u Q I rx ry ⟨_, _, _, _, rfl, rfl, st.sq, e1, Post.now P R rz⟩ hs
  · rename_i l i
    cases qy
    cases qx with
    | lst st r =>
      cases q : atI l i with
      | none => rw [q] at P; exact False.elim P
      | some d =>
        rw [q] at P
        obtain ⟨z, e1, rz⟩ := r.at q
        exact ix_list va sl pins s σ w.hp _ _ v u Q I rx ry ⟨_, _, _, _, rfl, rfl, SqL.of st.1, e1, Post.now P R rz⟩ hs
  · rename_i l i
    cases qy
    cases qx with
    | scr st r =>
      cases q : atI l i with
      | none => rw [q] at P; exact False.elim P
      | some d =>
        rw [q] at P
        obtain ⟨z, e1, rz⟩ := r.at q
        exact ix_list va sl pins s σ w.hp _ _ v u Q I rx ry ⟨_, _, _, _, rfl, rfl, st.sq, e1, Post.now P R rz⟩ hs
  · rename_i z i
    cases qy; cases qx
    split at P
    · rename_i hz
      cases q : atI z.cps.toList i with
      | none => rw [q] at P; exact False.elim P
      | some ch =>
        rw [q] at P
        exact ix_str va sl pins s σ w.hp _ _ v u Q I rx ry ⟨_, _, _, rfl, rfl, hz, q, Post.now P R (.str _)⟩ hs
    · exact False.elim P
  · rename_i n i
    cases qy
    cases qx with
    | loc hn =>
      split at P
      · rename_i l hl
        obtain ⟨vs, p, r⟩ := R.cell _ _ _ hn hl
        cases q : atI l i with
        | none => rw [q] at P; exact False.elim P
        | some d =>
          rw [q] at P
          obtain ⟨z, e1, rz⟩ := r.at q
          exact ix_list va sl pins s σ w.hp _ _ v u Q I rx ry ⟨_, _, _, _, rfl, rfl, SqL.of p, e1, Post.now P R rz⟩ hs
      · exact False.elim P
  · exact False.elim P
theorem re_ix (ha : RE X W a ma) (hb : RE X W b mb) (hs : PlainIx b := by intro _ _; rfl) : RE X W (.Subscript a b pos) (eBinS ixD ma mb) := pe_imp (pe_ix om_ix ha hb hs) t_binS
abbrev OM := En → Store → Res (Option Int)
def RlO : Wo → Option Int → Option Int → Prop := fun _ b c => c = b
abbrev RO (X : Cx) (W : WX) (e : Option Expr) (m : OM) : Prop := PO X e (tG RlO X W m)
def oNone : OM := fun _ S => .ok none S
def oSome (m : EM) : OM := fun e S => (m e S).bind fun x S1 => match x with
  | .int i => .ok (some i) S1
  | _ => .stuck
theorem ro_none : RO X W none oNone := ⟨fun pins s σ H Q I ⟨w, en, hw, R, E, P⟩ => po_none.run pins s σ H Q I (by subst hw; exact Post.now P R rfl)⟩
theorem ro_some (ha : RE X W a ma) : RO X W (some a) (oSome ma) := ⟨fun pins s σ H Q I hq => (po_some ha).run pins s σ H Q I (by
  obtain ⟨w, en, rfl, R, E, P⟩ := hq
  refine ⟨w, en, rfl, R, E, (Post.bind P).imp ?_⟩
  rintro v H1 ⟨w1, x, rfl, X1, R1, rx, P1⟩
  cases x with
  | int i => cases rx; exact ⟨i, rfl, Post.now P1 R1 rfl⟩
  | _ => exact False.elim P1)⟩
def cutL {α : Type} (l : List α) (lo hi : Option Int) : List α := (l.drop (HT.sIx l.length 0 lo)).take (HT.sIx l.length l.length hi - HT.sIx l.length 0 lo)
theorem RepL.cut {l : List D} {vs : List V} (h : RepL K mg w l vs) (lo hi : Option Int) : RepL K mg w (cutL l lo hi) (cutV vs lo hi) := by
  unfold cutL cutV
  rw [h.length]
  exact (h.drop _).take _
def slD (S : Store) : D → Option Int → Option Int → Option D
  | .lst l, lo, hi => some (.lst (cutL l lo hi))
  | .scr l, lo, hi => some (.lst (cutL l lo hi))
  | .tup l, lo, hi => if HT.sIx l.length 0 lo = 0 ∧ HT.sIx l.length l.length hi = l.length then none else some (.tup (cutL l lo hi))
  | .loc n, lo, hi => match S[n]? with
    | some (.lst l) => some (.lst (cutL l lo hi))
    | _ => none
  | .str x, lo, hi => if x.length ≤ sizeLine then some (.str (cutS x lo hi)) else none
  | _, _, _ => none
def SlM (X : Cx) : V → Option Int → Option Int → Hp → VK → Prop := fun v lo hi H Q => ∃ w x E, w.hp = H ∧ Rep X.K X.mg w ∧ RepD X.K X.mg w x v ∧ Post (RepD X.K X.mg) X.K X.mg w (lf (slD w.st x lo hi) w.st) Q E
theorem om_sl : SlR X (SlM X) := by
  intro pins s σ H x v vl vu lo hi sl Q I rx hs pl pu h
  obtain ⟨w, dx, E, rfl, R, qx, P⟩ := h
  unfold slD at P
  split at P
  · cases qx with
    | lst st r => exact sl_list pins s σ w.hp _ v vl vu _ _ sl Q I rx hs pl pu ⟨_, _, rfl, SqL.of st.1, fun p hp => Post.put P R hp (.lst (put_st R hp) ((r.cut _ _).ext (put_ext R hp).toEx0))⟩
  · cases qx with
    | scr st r => exact sl_list pins s σ w.hp _ v vl vu _ _ sl Q I rx hs pl pu ⟨_, _, rfl, st.sq, fun p hp => Post.put P R hp (.lst (put_st R hp) ((r.cut _ _).ext (put_ext R hp).toEx0))⟩
  · split at P
    · exact False.elim P
    · rename_i hn
      cases qx with
      | tup st r =>
        rw [r.length] at hn
        exact sl_tup pins s σ w.hp _ v vl vu _ _ sl Q I rx hs pl pu ⟨_, _, rfl, st.sq, hn, fun p hp => Post.put P R hp (.tup (.inl (put_st R hp).o) ((r.cut _ _).ext (put_ext R hp).toEx0))⟩
  · cases qx with
    | loc hn =>
      split at P
      · rename_i l hl
        obtain ⟨vs, p, r⟩ := R.cell _ _ _ hn hl
        exact sl_list pins s σ w.hp _ v vl vu _ _ sl Q I rx hs pl pu ⟨_, _, rfl, SqL.of p, fun p hp => Post.put P R hp (.lst (put_st R hp) ((r.cut _ _).ext (put_ext R hp).toEx0))⟩
      · exact False.elim P
  · split at P
    · rename_i hz
      cases qx
      exact sl_str pins s σ w.hp _ v vl vu _ _ sl Q I rx hs pl pu ⟨_, rfl, hz, Post.now P R (.str _)⟩
    · exact False.elim P
  · exact False.elim P
def eSl (a : EM) (lo hi : OM) : EM := fun e S => (a e S).bind fun x S1 => (lo e S1).bind fun l S2 => (hi e S2).bind fun h S3 => lf (slD S3 x l h) S3
theorem re_sl {lo hi : Option Expr} {ml mh : OM} {p2 : Pos} (ha : RE X W a ma) (hl : RO X W lo ml) (hh : RO X W hi mh) : RE X W (.Subscript a (.Slice lo hi none p2) pos) (eSl ma ml mh) := by
  refine pe_imp (pe_slice om_sl ha hl hh) ?_
  rintro s H Q ⟨w, en, rfl, R, E, P⟩
  refine ⟨w, en, rfl, R, E, (Post.bind P).imp ?_⟩
  rintro v H1 ⟨w1, x, rfl, X1, R1, rx, P1⟩
  refine ⟨w1, en, rfl, R1, E.ext X1.toEx0, (Post.bind P1).imp ?_⟩
  rintro l H2 ⟨w2, y, rfl, X2, R2, ry, P2⟩
  cases ry
  refine ⟨w2, en, rfl, R2, (E.ext X1.toEx0).ext X2.toEx0, (Post.bind P2).imp ?_⟩
  rintro h H3 ⟨w3, z, rfl, X3, R3, rz, P3⟩
  cases rz
  exact ⟨w3, x, _, rfl, R3, (rx.ext X2.toEx0).ext X3.toEx0, P3⟩
def CaM (X : Cx) (f : Store → List D → Option D) : List V → Hp → VK → Prop := fun vs H Q => ∃ w xs E, w.hp = H ∧ Rep X.K X.mg w ∧ RepL X.K X.mg w xs vs ∧ Post (RepD X.K X.mg) X.K X.mg w (lf (f w.st xs) w.st) Q E
def eCa (f : Store → List D → Option D) (m : AM) : EM := fun e S => (m e S).bind fun xs S1 => lf (f S1 xs) S1
theorem t_ca {f : Store → List D → Option D} {m : AM} : ∀ s H Q, tG (RepD X.K X.mg) X W (eCa f m) s H Q → tCB (CaM X f) (tG (RepL X.K X.mg) X W m) s H Q := by
  rintro s H Q ⟨w, en, rfl, R, E, P⟩
  refine ⟨w, en, rfl, R, E, (Post.bind P).imp ?_⟩
  rintro v H1 ⟨w1, x, rfl, X1, R1, rx, P1⟩
  exact ⟨w1, x, _, rfl, R1, rx, P1⟩
theorem re_b {x : Str} {p : Pos} {id : String} {f : Store → List D → Option D} {m : AM} (hc : CallR X (.builtin id) (CaM X f)) (hg : Gl X x) (hm : X.mg x = none) (hv : bootBuiltins x = some (.builtin id)) (ha : RA X W (e :: es) m) (hn : x ≠ "__name__" := by decide) (hdb : (x == ("__debug__" : Str)) = false := by decide)
    (he : starEach (e :: es) X.env = (false, eval e X.env) :: starEach es X.env := by rfl) (hpl : (backTo pos (starEach es X.env)).any (·.1) = false := by rfl) : RE X W (.Call (.Name x p) (e :: es) [] pos) (eCa f m) :=
  pe_imp (pe_callB hc hg hm hv ha hn hdb he hpl) t_ca
theorem re_ty {x : Str} {p : Pos} {T : String} {f : Store → List D → Option D} {m : AM} (hc : CallR X (.type T) (CaM X f)) (hg : Gl X x) (hm : X.mg x = none) (hv : bootBuiltins x = some (.type T)) (ha : RA X W (e :: es) m) (hn : x ≠ "__name__" := by decide) (hdb : (x == ("__debug__" : Str)) = false := by decide)
    (he : starEach (e :: es) X.env = (false, eval e X.env) :: starEach es X.env := by rfl) (hpl : (backTo pos (starEach es X.env)).any (·.1) = false := by rfl) : RE X W (.Call (.Name x p) (e :: es) [] pos) (eCa f m) :=
  pe_imp (pe_callTy hc hg hm hv ha hn hdb he hpl) t_ca
theorem RepL.nil_inv {vs : List V} (h : RepL K mg w [] vs) : vs = [] := by cases h; rfl
theorem RepL.cons_inv {d : D} {l : List D} {vs : List V} (h : RepL K mg w (d :: l) vs) : ∃ v us, vs = v :: us ∧ RepD K mg w d v ∧ RepL K mg w l us := by
  cases h with
  | cons r t => exact ⟨_, _, rfl, r, t⟩
theorem RepL.one_inv {d : D} {vs : List V} (h : RepL K mg w [d] vs) : ∃ v, vs = [v] ∧ RepD K mg w d v := by
  obtain ⟨v, us, rfl, r, t⟩ := h.cons_inv
  rw [t.nil_inv]
  exact ⟨v, rfl, r⟩
theorem RepL.two_inv {d d' : D} {vs : List V} (h : RepL K mg w [d, d'] vs) : ∃ v v', vs = [v, v'] ∧ RepD K mg w d v ∧ RepD K mg w d' v' := by
  obtain ⟨v, us, rfl, r, t⟩ := h.cons_inv
  obtain ⟨v', rfl, r'⟩ := t.one_inv
  exact ⟨v, v', rfl, r, r'⟩
def fAbs : Store → List D → Option D
  | _, [.int i] => some (.int (if i < 0 then -i else i))
  | _, _ => none
theorem cm_abs : CallR X (.builtin "abs") (CaM X fAbs) := by
  intro pins s σ H xs us Q I r h
  obtain ⟨w, ds, E, rfl, R, q, P⟩ := h
  unfold fAbs at P
  split at P
  · obtain ⟨v, rfl, rv⟩ := q.one_inv
    cases rv
    exact call_abs pins s σ w.hp _ us Q I r ⟨_, rfl, Post.now P R (.int _)⟩
  · exact False.elim P
def fMax : Store → List D → Option D
  | _, [.int i, .int j] => some (.int (if j > i then j else i))
  | _, _ => none
theorem cm_max (hc : X.calm = true) : CallR X (.builtin "max") (CaM X fMax) := by
  intro pins s σ H xs us Q I r h
  obtain ⟨w, ds, E, rfl, R, q, P⟩ := h
  unfold fMax at P
  split at P
  · obtain ⟨v, v', rfl, rv, rv'⟩ := q.two_inv
    cases rv; cases rv'
    exact call_max2 hc pins s σ w.hp _ us Q I r ⟨_, _, rfl, Post.now P R (.int _)⟩
  · exact False.elim P
def fMin : Store → List D → Option D
  | _, [.int i, .int j] => some (.int (if j < i then j else i))
  | _, _ => none
theorem cm_min (hc : X.calm = true) : CallR X (.builtin "min") (CaM X fMin) := by
  intro pins s σ H xs us Q I r h
  obtain ⟨w, ds, E, rfl, R, q, P⟩ := h
  unfold fMin at P
  split at P
  · obtain ⟨v, v', rfl, rv, rv'⟩ := q.two_inv
    cases rv; cases rv'
    exact call_min2 hc pins s σ w.hp _ us Q I r ⟨_, _, rfl, Post.now P R (.int _)⟩
  · exact False.elim P
def fLen : Store → List D → Option D
  | S, [d] => (lenD S d).map fun n => .int n
  | _, _ => none
theorem cm_len : CallR X (.builtin "len") (CaM X fLen) := by
  intro pins s σ H xs us Q I r h
  obtain ⟨w, ds, E, rfl, R, q, P⟩ := h
  unfold fLen at P
  split at P
  · rename_i d
    obtain ⟨v, rfl, rv⟩ := q.one_inv
    cases e : lenD w.st d with
    | none => rw [e] at P; exact False.elim P
    | some n =>
      rw [e] at P
      exact call_len pins s σ w.hp _ us Q I r ⟨_, n, rfl, rv.len R e, Post.now P R (.int _)⟩
  · exact False.elim P
def bools : List D → Option (List Bool)
  | [] => some []
  | .bl b :: l => (bools l).map (b :: ·)
  | _ :: _ => none
theorem RepL.bools {l : List D} {vs : List V} {bs : List Bool} (h : RepL K mg w l vs) (e : bools l = some bs) : vs = bs.map V.bl := by
  induction l generalizing vs bs with
  | nil => cases h; cases e; rfl
  | cons d l ih =>
    cases h with
    | cons r t =>
      cases d with
      | bl b =>
        cases r
        rw [G.bools] at e
        obtain ⟨cs, e1, rfl⟩ := Option.map_eq_some_iff.mp e
        rw [ih t e1]; rfl
      | _ => cases e
def fAll : Store → List D → Option D
  | S, [d] => ((seqD S d).bind bools).map fun bs => .bl (bs.all id)
  | _, _ => none
theorem cm_all (hc : X.calm = true) : CallR X (.builtin "all") (CaM X fAll) := by
  intro pins s σ H xs us Q I r h
  obtain ⟨w, ds, E, rfl, R, q, P⟩ := h
  unfold fAll at P
  split at P
  · rename_i d
    obtain ⟨v, rfl, rv⟩ := q.one_inv
    cases e : (seqD w.st d).bind bools with
    | none => rw [e] at P; exact False.elim P
    | some bs =>
      rw [e] at P
      obtain ⟨l, e1, e2⟩ := Option.bind_eq_some_iff.mp e
      obtain ⟨a, vs, rfl, hs, hl⟩ := rv.seq R e1
      exact cr_all hc pins s σ w.hp _ us Q I r ⟨a, bs, rfl, by rw [← hl.bools e2]; exact hs, Post.now P R (.bl _)⟩
  · exact False.elim P
def fTuple : Store → List D → Option D
  | _, [.tup l] => some (.tup l)
  | S, [d] => (seqD S d).map .tup
  | _, _ => none
theorem cm_tuple : CallR X (.type "tuple") (CaM X fTuple) := by
  intro pins s σ H xs us Q I r h
  obtain ⟨w, ds, E, rfl, R, q, P⟩ := h
  unfold fTuple at P
  split at P
  · obtain ⟨v, rfl, rv⟩ := q.one_inv
    cases rv with
    | tup st rl => exact call_tuple_of pins s σ w.hp _ us Q I r ⟨_, _, rfl, .inr ⟨st.sq, Post.now P R (.tup st rl)⟩⟩
  · rename_i d _
    obtain ⟨v, rfl, rv⟩ := q.one_inv
    cases e : seqD w.st d with
    | none => rw [e] at P; exact False.elim P
    | some l =>
      rw [e] at P
      obtain ⟨a, vs, rfl, hs, hl⟩ := rv.seq R e
      exact call_tuple_of pins s σ w.hp _ us Q I r ⟨_, _, rfl, .inl ⟨hs, fun p hp => Post.put P R hp (.tup (.inl (put_st R hp).o) (hl.ext (put_ext R hp).toEx0))⟩⟩
  · exact False.elim P
theorem bt_isinstance : bootBuiltins "isinstance" = some (.builtin "isinstance") := by decide +kernel
theorem bt_abs : bootBuiltins "abs" = some (.builtin "abs") := by decide +kernel
theorem bt_max : bootBuiltins "max" = some (.builtin "max") := by decide +kernel
theorem bt_min : bootBuiltins "min" = some (.builtin "min") := by decide +kernel
theorem bt_len : bootBuiltins "len" = some (.builtin "len") := by decide +kernel
theorem bt_divmod : bootBuiltins "divmod" = some (.builtin "divmod") := by decide +kernel
theorem bt_all : bootBuiltins "all" = some (.builtin "all") := by decide +kernel
theorem bt_int : bootBuiltins "int" = some (.type "int") := by decide +kernel
theorem bt_bool : bootBuiltins "bool" = some (.type "bool") := by decide +kernel
theorem bt_str : bootBuiltins "str" = some (.type "str") := by decide +kernel
theorem bt_tuple : bootBuiltins "tuple" = some (.type "tuple") := by decide +kernel
def Tn.is : Tn → Ty → Bool
  | .int, .int => true
  | .bool, .int => true
  | .bool, .bool => true
  | .str, .str => true
  | .tuple, .tuple => true
  | .list, .list => true
  | .dict, .dict => true
  | _, _ => false
theorem Tn.kit (t : Tn) (y : Ty) : L2.kitB t.nm y.nm = some (t.is y) := by
  cases t <;> cases y <;> decide +kernel
def tyC : Option Cell → Option Tn
  | some (.lst _) => some .list
  | some (.dk _) => some .dict
  | _ => none
def tyD (S : Store) : D → Option Tn
  | .non => some .non
  | .bl _ => some .bool
  | .int _ => some .int
  | .str _ => some .str
  | .tup _ => some .tuple
  | .lst _ => some .list
  | .scr _ => some .list
  | .dic _ _ => some .dict
  | .loc n => tyC S[n]?
  | .exc _ _ => none
  | .ins _ _ => none
  | .fa _ => none
  | .pin _ _ => none
def isTy (S : Store) (y : Ty) (d : D) : Option Bool := (tyD S d).map fun t => t.is y
theorem RepD.tyX {d : D} {v : V} {t : Tn} (R : Rep K mg w) (h : RepD K mg w d v) (e : tyD w.st d = some t) : TyX K w.hp v (.type t.nm) := by
  cases h with
  | non => cases e; exact .base .non
  | bl k => cases e; exact .base (.bl k)
  | int i => cases e; exact .base (.int i)
  | str x => cases e; exact .base (.str x)
  | tup s r =>
    cases e
    rcases s with ⟨s | ⟨o, s⟩, _⟩ | ⟨o, its, n, hk, hc, _⟩
    · exact .base (.tup s)
    · exact .fTuple s
    · exact .kTuple hk hc
  | lst s r => cases e; exact .base (.lst s.1)
  | scr s r =>
    cases e
    rcases s with ⟨s | ⟨o, s⟩, _⟩ | ⟨o, its, n, hk, hc, _⟩
    · exact .base (.lst s)
    · exact .base (.frz s)
    · exact .kList hk hc
  | dic s z r => cases e; exact .base (.dK s.1)
  | @loc m a hn =>
    replace e : tyC w.st[m]? = some t := e
    cases q : w.st[m]? with
    | none => rw [q] at e; cases e
    | some cl =>
      rw [q] at e
      cases cl with
      | lst l =>
        cases e
        obtain ⟨vs, p, r⟩ := R.cell _ _ _ hn q
        exact .base (.lst p)
      | dk l =>
        cases e
        obtain ⟨vs, p, r⟩ := R.cell _ _ _ hn q
        exact .base (.dK p)
      | _ => cases e
  | ins _ _ _ => cases e
  | exc _ _ _ _ => cases e
  | fa _ => cases e
  | pin _ => cases e
def eIsTy (y : Ty) (m : EM) : EM := fun e S => (m e S).bind fun x S1 => lf ((isTy S1 y x).map .bl) S1
theorem re_isTy {T : Str} {p p2 : Pos} (y : Ty) (hm : X.mg "isinstance" = none) (hT : X.mg T = none) (hv : bootBuiltins T = some (.type y.nm)) (ha : RE X W a ma) (hg : Gl X "isinstance" := by rfl) (hgT : Gl X T := by rfl) (hn : T ≠ "__name__" := by decide) (hdT : (T == ("__debug__" : Str)) = false := by decide)
    (he : starEach (a :: [.Name T p2]) X.env = (false, eval a X.env) :: starEach [.Name T p2] X.env := by rfl) (hpl : (backTo pos (starEach [.Name T p2] X.env)).any (·.1) = false := by rfl) (hs2 : starEach [.Name T p2] X.env = (false, eval (.Name T p2) X.env) :: starEach [] X.env := by rfl) :
    RE X W (.Call (.Name "isinstance" p) [a, .Name T p2] [] pos) (eIsTy y ma) := by
  refine pe_imp (pe_callB call_isi hg hm bt_isinstance (pa_cons ha (pa_cons (pe_bltn (v := .ty y.nm) hgT hT hv rfl hn hdT) pa_nil hs2) he) (by decide) (by decide) he hpl) ?_
  rintro s H Q ⟨w, en, rfl, R, E, P⟩
  refine ⟨w, en, rfl, R, E, (Post.bind P).imp ?_⟩
  rintro v H1 ⟨w1, d, rfl, X1, R1, rx, P1⟩
  dsimp only at P1
  unfold isTy at P1
  cases q : tyD w1.st d with
  | none => rw [q] at P1; exact False.elim P1
  | some t =>
    rw [q] at P1
    exact ⟨v, .ty y.nm, .type t.nm, .type y.nm, t.is y, rfl, .ty _, rx.tyX R1 q, kit_ty (t.kit y), Post.now P1 R1 (.bl _)⟩
end
end G
namespace G
open PySem L2
abbrev RS (X : Cx) (W : WX) (st : Stmt) (m : SM) : Prop := PS X st (tS X W m)
abbrev RSs (X : Cx) (W : WX) (st : List Stmt) (m : SM) : Prop := PSs X st (tS X W m)
section
variable {X : Cx} {W : WX} {a b c e o : Expr} {es : List Expr} {ma mb mc me : EM} {ta tb : TM} {pos : Pos} {st : Stmt} {rest : List Stmt} {m n : SM}
theorem ps_imp {t t' : TS} (h : PS X st t) (i : ∀ D s H, t' D s H → t D s H) : PS X st t' := ⟨fun pins s σ H D I q => h.run pins s σ H D I (i _ _ _ q)⟩
theorem pss_imp {t t' : TS} (h : PSs X rest t) (i : ∀ D s H, t' D s H → t D s H) : PSs X rest t' := ⟨fun pins s σ H D I q => h.run pins s σ H D I (i _ _ _ q)⟩
def sNop : SM := fun e S => .nxt e S
theorem rss_nil : RSs X W [] sNop := pss_imp pss_nil fun D s H ⟨w, en, hw, R, E, P⟩ => by
  subst hw
  exact P w s (Ext.refl w) R rfl E
def sSeq (m n : SM) : SM := fun e S => sS (m e S) n
theorem rss_cons (h1 : RS X W st m) (h2 : RSs X W rest n) : RSs X W (st :: rest) (sSeq m n) := by
  refine pss_imp (pss_cons h1 h2) ?_
  rintro D s H ⟨w, en, rfl, R, E, P⟩
  exact ⟨w, en, rfl, R, E, PostS.s P⟩
theorem rss_one (h1 : RS X W st m) : RSs X W [st] m := pss_one h1
def sBrk : SM := fun e S => .brk e S
def sCnt : SM := fun e S => .cnt e S
def sDrop (m : EM) : SM := fun e S => sE (m e S) e fun _ S1 => .nxt e S1
theorem rs_expr (he : RE X W e me) (hs : swapsWith e none pos.line X.env = pure false := by rfl) : RS X W (.Expr e pos) (sDrop me) := by
  refine ps_imp (ps_expr he hs) ?_
  rintro D s H ⟨w, en, rfl, R, E, P⟩
  refine ⟨w, en, rfl, R, E, (PostS.of P E).imp ?_⟩
  rintro v H1 ⟨w1, x, rfl, X1, R1, rx, P1⟩
  exact P1 w1 s (Ext.refl w1) R1 rfl (E.ext X1.toEx0)
def sRet (m : EM) : SM := fun e S => sE (m e S) e fun d S1 => .ret d S1
theorem rs_ret (he : RE X W e me) : RS X W (.Return (some e) pos) (sRet me) := by
  refine ps_imp (ps_ret he) ?_
  rintro D s H ⟨w, en, rfl, R, E, P⟩
  refine ⟨w, en, rfl, R, E, (PostS.of P E).imp ?_⟩
  rintro v H1 ⟨w1, x, rfl, X1, R1, rx, P1⟩
  exact P1 w1 v (Ext.refl w1) R1 rfl rx
def sRetN : SM := fun e S => .ret .non S
def sIf (t : TM) (m n : SM) : SM := fun e S => sE (t e S) e fun k S1 => if k then m e S1 else n e S1
theorem rs_if {p q : List Stmt} (hc : RT X W c ta) (ha : RSs X W p m) (hb : RSs X W q n) : RS X W (.If c p q pos) (sIf ta m n) := by
  refine ps_imp (ps_if hc ha hb) ?_
  rintro D s H ⟨w, en, rfl, R, E, P⟩
  refine ⟨w, en, rfl, R, E, (PostS.of P E).imp ?_⟩
  rintro v H1 ⟨w1, x, rfl, X1, R1, rx, P1⟩
  cases rx
  dsimp only at P1
  cases v with
  | true =>
    rw [if_pos rfl] at P1 ⊢
    exact ⟨w1, en, rfl, R1, E.ext X1.toEx0, P1⟩
  | false =>
    rw [if_neg Bool.false_ne_true] at P1 ⊢
    exact ⟨w1, en, rfl, R1, E.ext X1.toEx0, P1⟩
abbrev GM := D → En → Store → Res En
def tGt (X : Cx) (W : WX) (g : GM) : TG := fun v s H Q => ∃ w e d, w.hp = H ∧ Rep X.K X.mg w ∧ RepE X.K X.mg w e s ∧ RepD X.K X.mg w d v ∧ Post (RepE X.K X.mg) X.K X.mg w (g d e w.st) Q (fun cls dd H' => W cls dd s H')
abbrev RG (X : Cx) (W : WX) (tg : Expr) (g : GM) : Prop := PG X tg (tGt X W g)
theorem pg_imp {tg : Expr} {t t' : TG} (h : PG X tg t) (i : ∀ v s H Q, t' v s H Q → t v s H Q) : PG X tg t' := ⟨fun pins s σ H v u Q I r q => h.run pins s σ H v u Q I r (i _ _ _ _ q)⟩
def gN (i : Nat) : GM := fun d e S => .ok (e.set i (some d)) S
theorem rg_name {i : Nat} {x : Str} (hN : X.N.Nodup) (hi : X.N[i]? = some x) (hx : Loc X.env.scope x := by first | exact Or.inl rfl | exact Or.inr rfl) (hf : X.fn x = true ∨ X.env.scope.names.lookup x = some .local := by first | exact .inl rfl | exact .inr rfl | assumption) : RG X W (.Name x pos) (gN i) := by
  refine pg_imp (pg_name hN hi hx hf) ?_
  rintro v s H Q ⟨w, en, d, rfl, R, E, rd, P⟩
  exact Post.now P R (E.set i rd)
abbrev GMs := List D → En → Store → Res En
def tGts (X : Cx) (W : WX) (g : GMs) : TGs := fun vs s H Q => ∃ w e ds, w.hp = H ∧ Rep X.K X.mg w ∧ RepE X.K X.mg w e s ∧ RepL X.K X.mg w ds vs ∧ Post (RepE X.K X.mg) X.K X.mg w (g ds e w.st) Q (fun cls dd H' => W cls dd s H')
abbrev RGs (X : Cx) (W : WX) (ts : List Expr) (g : GMs) : Prop := PGs X ts (tGts X W g)
theorem pgs_imp {ts : List Expr} {t t' : TGs} (h : PGs X ts t) (i : ∀ v s H Q, t' v s H Q → t v s H Q) : PGs X ts t' := ⟨fun pins s σ H v u Q I r q => h.run pins s σ H v u Q I r (i _ _ _ _ q)⟩
def gsNil : GMs := fun ds e S => match ds with
  | [] => .ok e S
  | _ => .stuck
theorem rgs_nil : RGs X W [] gsNil := by
  refine pgs_imp pgs_nil ?_
  rintro v s H Q ⟨w, en, ds, rfl, R, E, rd, P⟩
  cases rd with
  | nil => exact ⟨rfl, Post.now P R E⟩
  | cons _ _ => exact False.elim P
def noX {β : Type} : Res β → Res β
  | .exc _ _ => .stuck
  | r => r
def gsCons' (g : GM) (r : GMs) : GMs := fun ds e S => match ds with
  | d :: ds => (noX (g d e S)).bind fun e1 S1 => noX (r ds e1 S1)
  | _ => .stuck
theorem Post.noX {β γ : Type} {Rl : Wo → β → γ → Prop} {K : PySem.W.Frag} {mg : Str → Option Value} {w : Wo} {r : Res β} {Q : γ → Hp → Prop} {E E' : XK} (h : Post Rl K mg w (G.noX r) Q E) : Post Rl K mg w r Q E' := by
  cases r with
  | ok _ _ => exact h
  | exc _ _ => exact False.elim h
  | stuck => exact h
theorem rgs_cons {tg : Expr} {ts : List Expr} {g : GM} {r : GMs} (h1 : RG X W tg g) (h2 : RGs X W ts r)
    (hs : (assignEach (tg :: ts) X.env).map (·.2) = assign tg X.env :: (assignEach ts X.env).map (·.2) := by rfl) : RGs X W (tg :: ts) (gsCons' g r) := by
  refine pgs_imp (pgs_cons h1 h2 hs) ?_
  rintro v s H Q ⟨w, en, ds, rfl, R, E, rd, P⟩
  cases rd with
  | nil => exact False.elim P
  | cons r1 r2 =>
    refine ⟨_, _, rfl, w, en, _, rfl, R, E, r1, Post.noX (E := fun cls dd H' => W cls dd s H') ((Post.bind P).imp ?_)⟩
    rintro s1 H1 ⟨w1, e1, rfl, X1, R1, E1, P1⟩
    exact ⟨w1, e1, _, rfl, R1, E1, r2.ext X1.toEx0, Post.noX P1⟩
def gTp (n : Nat) (r : GMs) : GM := fun d e S => match d with
  | .tup ds => if ds.length = n then r ds e S else .stuck
  | _ => .stuck
theorem rg_tup {ts : List Expr} {k n : Nat} {r : GMs} (hc : X.calm = true) (h : RGs X W ts r) (hn : (assignEach ts X.env).length = n := by rfl) (hst : (assignEach ts X.env).findIdx? (·.1) = none := by rfl) : RG X W (.Tuple ts k pos) (gTp n r) := by
  refine pg_imp (pg_tup hc h hn hst) ?_
  rintro v s H Q ⟨w, en, d, rfl, R, E, rd, P⟩
  unfold gTp at P
  split at P
  · split at P
    · rename_i hl
      cases rd with
      | tup st rl => exact ⟨_, _, rfl, st.sq, by rw [← rl.length]; exact hl, w, en, _, rfl, R, E, rl, P⟩
    · exact False.elim P
  · exact False.elim P
def setD (S : Store) (o i d : D) : Option Store := match o, i with
  | .loc n, .int k => match S[n]? with
    | some (.lst l) => (ixN l.length k).map fun j => S.set n (.lst (l.set j d))
    | _ => none
  | _, _ => none
def gSb (o i : EM) : GM := fun d e S => (noX (o e S)).bind fun x S1 => (noX (i e S1)).bind fun y S2 => match setD S2 x y d with
  | some S3 => .ok e S3
  | none => .stuck
theorem rg_sub (ho : RE X W o ma) (hi : RE X W b mb)
    (ha : ∀ v, assign (.Subscript o b pos) X.env v = (do
      let ov ← holding [v] (eval o X.env)
      let iv ← holding [v, ov] (eval b X.env)
      standAt pos
      holding [v, ov, iv] (setItem ov iv v)
      release [v, ov, iv] []) := by intro _; rfl) : RG X W (.Subscript o b pos) (gSb ma mb) := by
  refine pg_imp (pg_sub ho hi set_list ha) ?_
  rintro v s H Q ⟨w, en, d, rfl, R, E, rd, P⟩
  refine ⟨w, en, rfl, R, E, Post.noX (E := fun cls dd H' => W cls dd s H') ((Post.bind P).imp ?_)⟩
  rintro ov H1 ⟨w1, x, rfl, X1, R1, rx, P1⟩
  refine ⟨w1, en, rfl, R1, E.ext X1.toEx0, Post.noX (E := fun cls dd H' => W cls dd s H') ((Post.bind P1).imp ?_)⟩
  rintro iv H2 ⟨w2, y, rfl, X2, R2, ry, P2⟩
  have rx' := rx.ext X2.toEx0
  dsimp only at P2
  cases q : setD w2.st x y d with
  | none => rw [q] at P2; exact False.elim P2
  | some S3 =>
    rw [q] at P2
    unfold setD at q
    split at q
    · rename_i m k
      cases ry
      cases rx' with
      | @loc _ ad hn =>
        split at q
        · rename_i l hl
          obtain ⟨j, e1, rfl⟩ := Option.map_eq_some_iff.mp q
          obtain ⟨vs, p, r⟩ := R2.cell _ _ _ hn hl
          have rd' := (rd.ext X1.toEx0).ext X2.toEx0
          have Xw : Ext w2 (w2.wr m ad (.lst (vs.set j v)) (.lst (l.set j d))) := wr_ext R2 hn hl (by intro z; cases z)
          refine ⟨_, vs, k, j, rfl, rfl, p, by rw [← r.length]; exact e1, ?_⟩
          exact P2 (w2.wr m ad (.lst (vs.set j v)) (.lst (l.set j d))) s Xw (R2.wr hn hl (by intro z; cases z) ⟨_, upd_same, (r.set rd' j).ext Xw.toEx0⟩) rfl (((E.ext X1.toEx0).ext X2.toEx0).ext Xw.toEx0)
        · cases q
    · cases q
def sAsg (m : EM) (g : GM) : SM := fun e S => sE (m e S) e fun d S1 => sE (g d e S1) e fun e1 S2 => .nxt e1 S2
theorem rs_asg {tg : Expr} {g : GM} (he : RE X W e me) (hg : RG X W tg g) (hs : swapsWithSole [tg] e pos.line X.env = pure false := by rfl) (hw : swappedStores [tg] e X.env = pure none := by rfl)
    (h1 : (assignEach [tg] X.env).map (·.2) = [assign tg X.env] := by rfl) : RS X W (.Assign [tg] e pos) (sAsg me g) := by
  refine ps_imp (ps_asg he hg hs hw h1) ?_
  rintro D s H ⟨w, en, rfl, R, E, P⟩
  refine ⟨w, en, rfl, R, E, (PostS.of P E).imp ?_⟩
  rintro v H1 ⟨w1, x, rfl, X1, R1, rx, P1⟩
  refine ⟨w1, en, x, rfl, R1, E.ext X1.toEx0, rx, (PostS.of P1 (E.ext X1.toEx0)).imp ?_⟩
  rintro s1 H2 ⟨w2, e2, rfl, X2, R2, E2, P2⟩
  exact P2 w2 s1 (Ext.refl w2) R2 rfl E2
def sSet (i : Nat) (m : EM) : SM := fun e S => sE (m e S) e fun d S1 => .nxt (e.set i (some d)) S1
theorem rs_set {i : Nat} {x : Str} {pos' : Pos} (hN : X.N.Nodup) (hi : X.N[i]? = some x) (he : RE X W e me) (hx : Loc X.env.scope x := by first | exact Or.inl rfl | exact Or.inr rfl) (hs : swapsWith e (some (.Name x pos')) pos.line X.env = pure false := by rfl) (hf : X.fn x = true ∨ X.env.scope.names.lookup x = some .local := by first | exact .inl rfl | exact .inr rfl | assumption) :
    RS X W (.Assign [.Name x pos'] e pos) (sSet i me) := by
  refine ps_imp (ps_set hN hi hx he hs hf) ?_
  rintro D s H ⟨w, en, rfl, R, E, P⟩
  refine ⟨w, en, rfl, R, E, (PostS.of P E).imp ?_⟩
  rintro v H1 ⟨w1, x, rfl, X1, R1, rx, P1⟩
  exact P1 w1 _ (Ext.refl w1) R1 rfl ((E.ext X1.toEx0).set i rx)
def sPar (i j : Nat) (m : AM) : SM := fun e S => sE (m e S) e fun ds S1 => match ds with
  | [x, y] => .nxt ((e.set i (some x)).set j (some y)) S1
  | _ => .stuck
theorem rs_par {i j : Nat} {x y : Str} {m : AM} {px py pt : Pos} {kt k2 pt2} (hc : X.calm = true) (hN : X.N.Nodup) (hi : X.N[i]? = some x) (hj : X.N[j]? = some y) (hij : i ≠ j) (ha : RA X W [a, b] m)
    (hx : X.env.scope.names.lookup x = some .local := by rfl) (hy : X.env.scope.names.lookup y = some .local := by rfl)
    (hw : swappedStores [.Tuple [.Name x px, .Name y py] kt pt] (.Tuple [a, b] k2 pt2) X.env = pure (some [x, y]) := by rfl)
    (hs : swapsWithSole [.Tuple [.Name x px, .Name y py] kt pt] (.Tuple [a, b] k2 pt2) pos.line X.env = pure false := by rfl) :
    RS X W (.Assign [.Tuple [.Name x px, .Name y py] kt pt] (.Tuple [a, b] k2 pt2) pos) (sPar i j m) := by
  refine ps_imp (ps_par hc hN hi hj hij hx hy ha hw hs) ?_
  rintro D s H ⟨w, en, rfl, R, E, P⟩
  refine ⟨w, en, rfl, R, E, (PostS.of P E).imp ?_⟩
  rintro v H1 ⟨w1, ds, rfl, X1, R1, rx, P1⟩
  dsimp only at P1
  split at P1
  · obtain ⟨v, v', rfl, r1, r2⟩ := rx.two_inv
    exact ⟨v, v', rfl, P1 w1 _ (Ext.refl w1) R1 rfl (((E.ext X1.toEx0).set i r1).set j r2)⟩
  · exact False.elim P1
def wlR (t : TM) (m : SM) : Nat → SM
  | 0 => fun _ _ => .stuck
  | k + 1 => fun e S => sE (t e S) e fun b S1 => if b then (match m e S1 with
    | .nxt e2 S2 => wlR t m k e2 S2
    | .cnt e2 S2 => wlR t m k e2 S2
    | .brk e2 S2 => .nxt e2 S2
    | r => r) else .nxt e S1
theorem rs_while (k : Nat) {body : List Stmt} (hp : PassesOwn (model X.prog X.w) X.A X.env X.xe) (hc : RT X W c ta) (hb : RSs X W body m) : RS X W (.While c body [] pos) (wlR ta m k) := by
  refine ps_imp (ps_while hp hc hb) ?_
  rintro D s H ⟨w, en, rfl, R, E, P⟩
  refine ⟨fun j s H => ∃ w e, w.hp = H ∧ Rep X.K X.mg w ∧ RepE X.K X.mg w e s ∧ PostS X W w (wlR ta m j e w.st) D, ⟨k, w, en, rfl, R, E, P⟩, ?_⟩
  rintro j s H ⟨w, en, rfl, R, E, P⟩
  cases j with
  | zero => exact False.elim P
  | succ j =>
    refine ⟨w, en, rfl, R, E, (PostS.of P E).imp ?_⟩
    rintro v H1 ⟨w1, x, rfl, X1, R1, rx, P1⟩
    cases rx
    dsimp only at P1
    cases v with
    | false =>
      rw [if_neg Bool.false_ne_true] at P1 ⊢
      exact P1 w1 s (Ext.refl w1) R1 rfl (E.ext X1.toEx0)
    | true =>
      rw [if_pos rfl] at P1 ⊢
      refine ⟨fun s' H' => ∃ w e, w.hp = H' ∧ Rep X.K X.mg w ∧ RepE X.K X.mg w e s' ∧ PostS X W w (wlR ta m j e w.st) D, fun s' H' h => ⟨j, Nat.lt_succ_self j, h⟩, w1, en, rfl, R1, E.ext X1.toEx0, ?_⟩
      cases q : m en w1.st with
      | nxt e S =>
        rw [q] at P1
        exact fun w2 s2 x2 R2 st E2 => ⟨w2, e, rfl, R2, E2, by rw [st]; exact PostS.ext P1 x2⟩
      | cnt e S =>
        rw [q] at P1
        exact fun w2 s2 x2 R2 st E2 => ⟨w2, e, rfl, R2, E2, by rw [st]; exact PostS.ext P1 x2⟩
      | brk e S => rw [q] at P1; exact P1
      | ret e S => rw [q] at P1; exact P1
      | exc y e S => rw [q] at P1; exact P1
      | stuck => rw [q] at P1; exact P1
def ItsR (X : Cx) : Wo → List D → It → Prop := fun w ds J => ∀ w2, Ex0 w w2 → Fz w w2 → Rep X.K X.mg w2 →
  (∀ i, i < ds.length → J.go i w2.hp ∧ ∀ x H', J.yld i w2.hp x H' → ∃ w3 d, w3.hp = H' ∧ Ext w2 w3 ∧ Rep X.K X.mg w3 ∧ w3.st = w2.st ∧ w3.al = w2.al ∧ ds[i]? = some d ∧ RepD X.K X.mg w3 d x) ∧ J.stop ds.length w2.hp
abbrev RI (X : Cx) (W : WX) (tg it : Expr) (m : AM) : Prop := PI X tg it (tG (ItsR X) X W m)
theorem its_list {w : Wo} {ds : List D} {ad : Addr} {vs : List V} (st : ∀ w2, Ex0 w w2 → SqL X.K w2.hp ad vs) (r : RepL X.K X.mg w ds vs) : ItsR X w ds (Itl X.K ad) := by
  intro w2 x2 _ R2
  have s2 := st w2 x2
  refine ⟨fun i hi => ⟨⟨vs, vs[i]'(by rw [← r.length]; exact hi), s2, by simp⟩, fun x H' y => ?_⟩, ⟨vs, s2, by rw [r.length]; exact Nat.le_refl _⟩⟩
  obtain ⟨rfl, y⟩ := y
  obtain ⟨d, e1, rd⟩ := r.getV (y vs s2)
  exact ⟨w2, d, rfl, Ext.refl w2, R2, rfl, rfl, e1, rd.ext x2⟩
theorem its_tup {w : Wo} {ds : List D} {ad : Addr} {vs : List V} (st : ∀ w2, Ex0 w w2 → SqT X.K w2.hp ad vs) (r : RepL X.K X.mg w ds vs) : ItsR X w ds (Itt X.K ad) := by
  intro w2 x2 _ R2
  have s2 := st w2 x2
  refine ⟨fun i hi => ⟨⟨vs, vs[i]'(by rw [← r.length]; exact hi), s2, by simp⟩, fun x H' y => ?_⟩, ⟨vs, s2, by rw [r.length]; exact Nat.le_refl _⟩⟩
  obtain ⟨rfl, y⟩ := y
  obtain ⟨d, e1, rd⟩ := r.getV (y vs s2)
  exact ⟨w2, d, rfl, Ext.refl w2, R2, rfl, rfl, e1, rd.ext x2⟩
def iSeq (m : EM) : AM := fun e S => (m e S).bind fun d S1 => match d with
  | .tup l => .ok l S1
  | .lst l => .ok l S1
  | .scr l => .ok l S1
  | _ => .stuck
theorem ri_e {tg : Expr} (ha : RE X W a ma) : RI X W tg a (iSeq ma) := by
  refine ⟨fun pins s σ H R' I h => ?_⟩
  obtain ⟨w, en, rfl, R, E, P⟩ := h
  cases q : ma en w.st with
  | stuck => unfold iSeq at P; rw [q] at P; exact False.elim P
  | exc x S =>
    unfold iSeq at P; rw [q] at P
    exact (pi_list ha).run pins s σ w.hp R' I ⟨w, en, rfl, R, E, by rw [q]; exact P⟩
  | ok d S =>
    unfold iSeq at P; rw [q] at P
    cases d with
    | tup l =>
      refine (pi_tup ha).run pins s σ w.hp R' I ⟨w, en, rfl, R, E, ?_⟩
      rw [q]
      intro w1 v x1 R1 s1 r1
      cases r1 with
      | tup st rl => exact ⟨_, rfl, ⟨_, st.sq⟩, P w1 _ x1 R1 s1 (its_tup (fun w2 x2 => (st.ext x2).sq) rl)⟩
    | lst l =>
      refine (pi_list ha).run pins s σ w.hp R' I ⟨w, en, rfl, R, E, ?_⟩
      rw [q]
      intro w1 v x1 R1 s1 r1
      cases r1 with
      | lst st rl => exact ⟨_, rfl, ⟨_, SqL.of st.1⟩, P w1 _ x1 R1 s1 (its_list (fun w2 x2 => SqL.of (st.ext x2).1) rl)⟩
    | scr l =>
      refine (pi_list ha).run pins s σ w.hp R' I ⟨w, en, rfl, R, E, ?_⟩
      rw [q]
      intro w1 v x1 R1 s1 r1
      cases r1 with
      | scr st rl => exact ⟨_, rfl, ⟨_, st.sq⟩, P w1 _ x1 R1 s1 (its_list (fun w2 x2 => (st.ext x2).sq) rl)⟩
    | _ => exact False.elim P
def rangeD (lo : Int) (n : Nat) : List D := (List.range n).map fun k => .int (lo + (k : Nat))
theorem its_range {w : Wo} (lo : Int) (n : Nat) : ItsR X w (rangeD lo n) (Itr lo n) := by
  intro w2 x2 _ R2
  have hl : (rangeD lo n).length = n := by unfold rangeD; simp
  refine ⟨fun i hi => ⟨by rw [hl] at hi; exact hi, fun x H' y => ?_⟩, by rw [hl]; exact Nat.le_refl _⟩
  obtain ⟨rfl, rfl⟩ := y
  rw [hl] at hi
  exact ⟨w2, .int (lo + i), rfl, Ext.refl w2, R2, rfl, rfl, by unfold rangeD; simp [hi], .int _⟩
open Classical in
noncomputable def iRg1 (m : AM) : AM := fun e S => (m e S).bind fun ds S1 => match ds with
  | [.int j] => if -(2 ^ 62) ≤ j ∧ j < 2 ^ 62 then .ok (rangeD 0 j.toNat) S1 else .stuck
  | _ => .stuck
theorem ri_range1 {tg : Expr} {m : AM} {p : Pos} (hm : X.mg "range" = none) (ha : RA X W [a] m) (hg : Gl X "range" := by rfl) (hs : starEach [a] X.env = [(false, eval a X.env)] := by rfl) : RI X W tg (.Call (.Name "range" p) [a] [] pos) (iRg1 m) := by
  refine ⟨fun pins s σ H R' I h => (pi_range1 hg hm ha hs).run pins s σ H R' I ?_⟩
  obtain ⟨w, en, rfl, R, E, P⟩ := h
  refine ⟨w, en, rfl, R, E, (Post.bind P).imp ?_⟩
  rintro vs H1 ⟨w1, ds, rfl, X1, R1, rx, P1⟩
  dsimp only at P1
  split at P1
  · split at P1
    · rename_i hj
      obtain ⟨v, rfl, rv⟩ := rx.one_inv
      cases rv
      exact ⟨_, rfl, hj.1, hj.2, Post.now P1 R1 (its_range 0 _)⟩
    · exact False.elim P1
  · exact False.elim P1
open Classical in
noncomputable def iRg2 (m : AM) : AM := fun e S => (m e S).bind fun ds S1 => match ds with
  | [.int i, .int j] => if -(2 ^ 62) ≤ i ∧ i < 2 ^ 62 ∧ -(2 ^ 62) ≤ j ∧ j < 2 ^ 62 then .ok (rangeD i (j - i).toNat) S1 else .stuck
  | _ => .stuck
def fiR (g : GM) (m : SM) : List D → SM
  | [] => fun e S => .nxt e S
  | d :: ds => fun e S => sE (g d e S) e fun e1 S1 => match m e1 S1 with
    | .nxt e2 S2 => fiR g m ds e2 S2
    | .cnt e2 S2 => fiR g m ds e2 S2
    | .brk e2 S2 => .nxt e2 S2
    | r => r
def sFor (i : AM) (g : GM) (m : SM) : SM := fun e S => sE (i e S) e fun ds S1 => fiR g m ds e S1
theorem rs_for {tg it : Expr} {i : AM} {g : GM} {body : List Stmt} (hp : PassesOwn (model X.prog X.w) X.A X.env X.xe) (hc : X.calm = true) (hi : RI X W tg it i) (hg : RG X W tg g) (hb : RSs X W body m) (hs : ∀ x, foldedSetIterable it X.env x = pure x := by intro _; rfl) :
    RS X W (.For tg it body [] pos) (sFor i g m) := by
  refine ps_imp (ps_for hp hc hi hg hb hs) ?_
  rintro D s H ⟨w, en, rfl, R, E, P⟩
  refine ⟨w, en, rfl, R, E, (PostS.of P E).imp ?_⟩
  rintro J H1 ⟨w1, ds, rfl, X1, R1, its, P1⟩
  refine ⟨fun j k s H => k = ds.length - j ∧ j ≤ ds.length ∧ ∃ w e, w.hp = H ∧ Ext w1 w ∧ Rep X.K X.mg w ∧ RepE X.K X.mg w e s ∧ PostS X W w (fiR g m (ds.drop j) e w.st) D,
    ⟨ds.length, rfl, Nat.zero_le _, w1, en, rfl, Ext.refl w1, R1, E.ext X1.toEx0, P1⟩, ?_⟩
  rintro j k s H ⟨rfl, hj, w, en, rfl, x1, R, E, P⟩
  obtain ⟨go, stop⟩ := its w x1.toEx0 x1.fz R
  by_cases hlt : j < ds.length
  · obtain ⟨go1, yl⟩ := go j hlt
    refine .inr ⟨go1, fun s' H' => ∃ w e, w.hp = H' ∧ Ext w1 w ∧ Rep X.K X.mg w ∧ RepE X.K X.mg w e s' ∧ PostS X W w (fiR g m (ds.drop (j + 1)) e w.st) D, fun s' H' h => ⟨ds.length - (j + 1), by omega, rfl, hlt, h⟩, fun x H' y => ?_⟩
    obtain ⟨w3, d, rfl, x3, R3, st3, _, hd, rd⟩ := yl x H' y
    have e1 : ds.drop j = d :: ds.drop (j + 1) := by
      obtain ⟨hl, rfl⟩ := List.getElem?_eq_some_iff.mp hd
      exact List.drop_eq_getElem_cons hl
    rw [e1] at P
    have P' : PostS X W w3 (sE (g d en w3.st) en fun e1 S1 => match m e1 S1 with
      | .nxt e2 S2 => fiR g m (ds.drop (j + 1)) e2 S2
      | .cnt e2 S2 => fiR g m (ds.drop (j + 1)) e2 S2
      | .brk e2 S2 => .nxt e2 S2
      | r => r) D := by rw [st3]; exact PostS.ext P x3
    refine ⟨w3, en, d, rfl, R3, E.ext x3.toEx0, rd, (PostS.of P' (E.ext x3.toEx0)).imp ?_⟩
    rintro s4 H4 ⟨w4, e4, rfl, x4, R4, E4, P4⟩
    refine ⟨w4, e4, rfl, R4, E4, ?_⟩
    have x14 : Ext w1 w4 := (x1.trans x3).trans x4
    dsimp only at P4
    cases q : m e4 w4.st with
    | nxt e S => rw [q] at P4; exact fun w5 s5 x5 R5 st E5 => ⟨w5, e, rfl, x14.trans x5, R5, E5, by rw [st]; exact PostS.ext P4 x5⟩
    | cnt e S => rw [q] at P4; exact fun w5 s5 x5 R5 st E5 => ⟨w5, e, rfl, x14.trans x5, R5, E5, by rw [st]; exact PostS.ext P4 x5⟩
    | brk e S => rw [q] at P4; exact P4
    | ret e S => rw [q] at P4; exact P4
    | exc y e S => rw [q] at P4; exact P4
    | stuck => rw [q] at P4; exact P4
  · have e : j = ds.length := by omega
    subst e
    rw [List.drop_length] at P
    exact .inl ⟨stop, P w s (Ext.refl w) R rfl E⟩
end
end G
namespace G
open PySem L2
def wipeE (e : En) : List Nat → En
  | [] => e
  | v :: vs => (wipeE e vs).set v none
def W0 : WX := fun _ _ _ _ => False
section
variable {X : Cx} {W : WX} {a b c e o : Expr} {es : List Expr} {ma mb mc me : EM} {ta tb : TM} {pos : Pos}
variable {K : PySem.W.Frag} {mg : Str → Option Value} {w : Wo}
theorem RepE.wipe {en : En} {s : St} (h : RepE K mg w en s) : ∀ vs : List Nat, RepE K mg w (wipeE en vs) (L2.wipe s vs)
  | [] => h
  | v :: vs => (RepE.wipe h vs).gone v
theorem wipe_at (s : St) (j : Nat) : ∀ vs : List Nat, (L2.wipe s vs)[j]? = if j ∈ vs then (if j < s.length then some none else none) else s[j]?
  | [] => by simp [L2.wipe]
  | v :: vs => by
    have ih := wipe_at s j vs
    unfold L2.wipe
    by_cases hv : v = j
    · subst hv
      rw [if_pos List.mem_cons_self]
      by_cases hl : v < s.length
      · rw [if_pos hl, List.getElem?_set_self (by rw [wipe_length]; exact hl)]
      · rw [if_neg hl, List.getElem?_eq_none (by rw [List.length_set, wipe_length]; omega)]
    · rw [List.getElem?_set_ne hv, ih]
      have e : (j ∈ v :: vs) ↔ j ∈ vs := by
        rw [List.mem_cons]
        exact ⟨fun h => h.resolve_left (Ne.symm hv), .inr⟩
      simp only [e]
theorem wipe_eq {s t : St} {vs : List Nat} (hl : s.length = t.length) (h : ∀ j, j ∉ vs → s[j]? = t[j]?) : L2.wipe s vs = L2.wipe t vs := by
  refine List.ext_getElem? fun j => ?_
  rw [wipe_at, wipe_at, hl]
  by_cases hj : j ∈ vs
  · rw [if_pos hj, if_pos hj]
  · rw [if_neg hj, if_neg hj]; exact h j hj
def lcR (g : Tg) (t : TM) (m : EM) (e : En) : List D → List D → Store → Res (List D)
  | [], acc, S => .ok acc S
  | d :: ds, acc, S => match g.m d e with
    | some e1 => (noX (t e1 S)).bind fun b S2 => if b then (noX (m e1 S2)).bind fun y S3 => if acc.length < sizeLine then lcR g t m e ds (acc ++ [y]) S3 else .stuck else lcR g t m e ds acc S2
    | none => .stuck
def eLc (i : AM) (g : Tg) (t : TM) (m : EM) (vs : List Nat) : EM := fun e S => (i e S).bind fun ds S1 => (lcR g t m (wipeE e vs) ds [] S1).bind fun acc S2 => .ok (.lst acc) S2
def eLcN (i : AM) (g : Tg) (t : TM) (m : EM) (vs : List Nat) : EM := fun e S => (i e S).bind fun ds S1 => (lcR g t m (wipeE e vs) ds [] S1).bind fun acc S2 => .ok (.loc S2.length) (S2 ++ [.lst acc])
def Wo.hide (w : Wo) (p : Addr) (o : HO) : Wo := ⟨w.al, w.st, upd w.hp p o, p :: w.hid⟩
theorem hide_ex (R : Rep K mg w) {p : Addr} {o : HO} (hn : w.hp p = none) : Ex0 w (w.hide p o) := by
  refine ⟨⟨[], by simp [Wo.hide]⟩, fun a h => ?_, fun a u h _ => ?_, fun a u h => ⟨u, ?_⟩⟩
  · rcases h with h | h
    · exact .inl (.inl h)
    · rcases List.mem_cons.mp h with h | h
      · exact .inr (by rw [h]; exact hn)
      · exact .inl (.inr h)
  · show upd w.hp p o a = _
    rw [upd_ne (ne_of_none h hn)]; exact h
  · show upd w.hp p o a = _
    rw [upd_ne (ne_of_none h hn)]; exact h
theorem Rep.hide (R : Rep K mg w) {p : Addr} {o : HO} (hn : w.hp p = none) : Rep K mg (w.hide p o) := by
  have X := hide_ex (o := o) R hn
  refine ⟨R.len, R.nd, fun a h => ?_, fun n a c h1 h2 => ?_, fun a h => ?_⟩
  · obtain ⟨u, e⟩ := R.tr a h
    exact X.tr a u e
  · refine (R.cell n a c h1 h2).ext X ?_
    show upd w.hp p o a = _
    exact upd_ne fun z => R.not_mem hn (z ▸ List.mem_of_getElem? h1)
  · rcases List.mem_cons.mp h with h | h
    · subst h; exact ⟨R.not_mem hn, o, upd_same⟩
    · obtain ⟨h1, u, e⟩ := R.hid a h
      exact ⟨h1, X.tr a u e⟩
def Wo.gro (w : Wo) (p : Addr) (o : HO) : Wo := ⟨w.al, w.st, upd w.hp p o, w.hid⟩
theorem gro_ex {p : Addr} {o : HO} (hm : p ∈ w.hid) : Ex0 w (w.gro p o) := by
  refine ⟨⟨[], by simp [Wo.gro]⟩, fun a h => .inl h, fun a u h z => ?_, fun a u h => ?_⟩
  · show upd w.hp p o a = _
    rw [upd_ne fun e : a = p => z (.inr (e ▸ hm))]; exact h
  · by_cases e : a = p
    · subst e; exact ⟨o, upd_same⟩
    · exact ⟨u, by show upd w.hp p o a = _; rw [upd_ne e]; exact h⟩
theorem Rep.gro (R : Rep K mg w) {p : Addr} {o : HO} (hm : p ∈ w.hid) : Rep K mg (w.gro p o) := by
  have X := gro_ex (o := o) hm
  refine ⟨R.len, R.nd, fun a h => ?_, fun n a c h1 h2 => ?_, fun a h => ?_⟩
  · obtain ⟨u, e⟩ := R.tr a h
    exact X.tr a u e
  · refine (R.cell n a c h1 h2).ext X ?_
    show upd w.hp p o a = _
    exact upd_ne fun z => (R.hid p hm).1 (z ▸ List.mem_of_getElem? h1)
  · obtain ⟨h1, u, e⟩ := R.hid a h
    exact ⟨h1, X.tr a u e⟩
def Wo.shw (w : Wo) (hs : List Addr) : Wo := ⟨w.al, w.st, w.hp, hs⟩
theorem shw_ex {hs : List Addr} (hm : ∀ a, a ∈ hs → a ∈ w.hid) : Ex0 w (w.shw hs) :=
  ⟨⟨[], by simp [Wo.shw]⟩, fun a h => .inl (h.imp id (hm a)), fun a u h _ => h, fun a u h => ⟨u, h⟩⟩
theorem Rep.shw (R : Rep K mg w) {hs : List Addr} (hm : ∀ a, a ∈ hs → a ∈ w.hid) : Rep K mg (w.shw hs) :=
  ⟨R.len, R.nd, R.tr, fun n a c h1 h2 => (R.cell n a c h1 h2).ext (shw_ex hm) rfl, fun a h => R.hid a (hm a h)⟩
theorem hide_fz (R : Rep K mg w) {p : Addr} {o : HO} (hn : w.hp p = none) : Fz w (w.hide p o) := fun _ _ _ h1 h2 _ => ⟨h2, upd_ne fun e => R.not_mem hn (e ▸ List.mem_of_getElem? h1)⟩
theorem gro_fz (R : Rep K mg w) {p : Addr} {o : HO} (hm : p ∈ w.hid) : Fz w (w.gro p o) := fun _ _ _ h1 h2 _ => ⟨h2, upd_ne fun e => (R.hid p hm).1 (e ▸ List.mem_of_getElem? h1)⟩
structure Kp (w1 w : Wo) : Prop where
  kh : ∀ a, a ∈ w1.hid → w.hp a = w1.hp a
  fz : Fz w1 w
theorem t_lcCore {i : AM} {g : Tg} {t : TM} {m : EM} {vs : List Nat} {fin : List D → Store → Res D} (hg : ∀ j, j ∈ g.ix → j ∈ vs)
    (hfin : ∀ (w1 w : Wo) (p : Addr) (us : List V) (acc : List D) (Q : VK) (E : XK), Rep X.K X.mg w1 → w1.hp p = none → Rep X.K X.mg w → Ex0 w1 w → w.hid = p :: w1.hid → Kp w1 w → w.hp p = some (.lst us) → RepL X.K X.mg w acc us →
      Post (RepD X.K X.mg) X.K X.mg w1 (fin acc w.st) Q E → Q (.ref p) w.hp) :
    ∀ s H Q, tG (RepD X.K X.mg) X W (fun e S => (i e S).bind fun ds S1 => (lcR g t m (wipeE e vs) ds [] S1).bind fin) s H Q →
      tLc (tG (ItsR X) X W i) (g.r X.K) (tG RlB X W0 t) (tG (RepD X.K X.mg) X W0 m) vs s H Q := by
  rintro s H Q ⟨w, en, rfl, R, E, P⟩
  refine ⟨w, en, rfl, R, E, (Post.bind P).imp ?_⟩
  rintro J H1 ⟨w1, ds, rfl, X1, R1, its, P1⟩
  intro p hp
  dsimp only at P1
  have E1 := E.ext X1.toEx0
  refine ⟨fun j k H => k = ds.length - j ∧ j ≤ ds.length ∧ ∃ w acc us, w.hp = H ∧ Ex0 w1 w ∧ Rep X.K X.mg w ∧ w.hid = p :: w1.hid ∧ Kp w1 w ∧ w.hp p = some (.lst us) ∧ RepL X.K X.mg w acc us ∧
      Post (RepD X.K X.mg) X.K X.mg w1 ((lcR g t m (wipeE en vs) (ds.drop j) acc w.st).bind fin) Q (fun cls dd H' => W cls dd s H'),
    ⟨ds.length, rfl, Nat.zero_le _, w1.hide p (.lst []), [], [], rfl, hide_ex R1 hp, R1.hide hp, rfl, ⟨fun a ha => ?_, hide_fz R1 hp⟩, upd_same, .nil, P1⟩, ?_⟩
  · show upd w1.hp p _ a = _
    exact upd_ne fun z => R1.not_hid hp (z ▸ ha)
  rintro j k H ⟨rfl, hj, w, acc, us, rfl, x1, R, hh, hk, hu, ra, P⟩
  obtain ⟨go, stop⟩ := its w x1 hk.fz R
  by_cases hlt : j < ds.length
  · obtain ⟨go1, yl⟩ := go j hlt
    refine .inr ⟨go1, fun H' => ∃ w acc us, w.hp = H' ∧ Ex0 w1 w ∧ Rep X.K X.mg w ∧ w.hid = p :: w1.hid ∧ Kp w1 w ∧ w.hp p = some (.lst us) ∧ RepL X.K X.mg w acc us ∧
      Post (RepD X.K X.mg) X.K X.mg w1 ((lcR g t m (wipeE en vs) (ds.drop (j + 1)) acc w.st).bind fin) Q (fun cls dd H' => W cls dd s H'),
      fun H' h => ⟨ds.length - (j + 1), by omega, rfl, hlt, h⟩, fun x H' y => ?_⟩
    obtain ⟨w3, d, rfl, x3, R3, st3, _, hd, rd⟩ := yl x H' y
    have e1 : ds.drop j = d :: ds.drop (j + 1) := by
      obtain ⟨hl, rfl⟩ := List.getElem?_eq_some_iff.mp hd
      exact List.drop_eq_getElem_cons hl
    rw [e1, ← st3] at P
    unfold lcR at P
    have E3 : RepE X.K X.mg w3 (wipeE en vs) (L2.wipe s vs) := (E1.ext (x1.trans x3.toEx0)).wipe vs
    cases hm : g.m d (wipeE en vs) with
    | none => rw [hm] at P; exact False.elim P
    | some e4 =>
      rw [hm] at P
      dsimp only at P
      refine g.ok E3 rd hm fun s4 E4 hl4 hj4 => ⟨?_, ?_⟩
      · refine wipe_eq (by rw [hl4, wipe_length]) fun q hq => ?_
        rw [hj4 q fun z => hq (hg q z), wipe_at, if_neg hq]
      · have hh3 : w3.hid = p :: w1.hid := x3.hid.trans hh
        have hk3 : Kp w1 w3 := ⟨fun a ha => (x3.kh a (by rw [hh]; exact List.mem_cons_of_mem _ ha)).trans (hk.kh a ha), hk.fz.trans x1.al x3.fz⟩
        have hu3 : w3.hp p = some (.lst us) := (x3.kh p (by rw [hh]; exact List.mem_cons_self)).trans hu
        refine ⟨w3, e4, rfl, R3, E4, ?_⟩
        cases ht : t e4 w3.st with
        | exc _ _ => rw [ht] at P; exact False.elim P
        | stuck => rw [ht] at P; exact False.elim P
        | ok bb S5 =>
          rw [ht] at P
          intro w5 c5 x5 R5 st5 r5
          cases r5
          subst st5
          replace P : Post (RepD X.K X.mg) X.K X.mg w1 ((if bb = true then (noX (m e4 w5.st)).bind fun y S3 => if acc.length < sizeLine then lcR g t m (wipeE en vs) (ds.drop (j + 1)) (acc ++ [y]) S3 else .stuck else lcR g t m (wipeE en vs) (ds.drop (j + 1)) acc w5.st).bind fin) Q (fun cls dd H' => W cls dd s H') := P
          have hh5 : w5.hid = p :: w1.hid := x5.hid.trans hh3
          have hk5 : Kp w1 w5 := ⟨fun a ha => (x5.kh a (by rw [hh3]; exact List.mem_cons_of_mem _ ha)).trans (hk3.kh a ha), hk3.fz.trans (x1.trans x3.toEx0).al x5.fz⟩
          have hu5 : w5.hp p = some (.lst us) := (x5.kh p (by rw [hh3]; exact List.mem_cons_self)).trans hu3
          have ra5 := (ra.ext x3.toEx0).ext x5.toEx0
          have x15 : Ex0 w1 w5 := (x1.trans x3.toEx0).trans x5.toEx0
          cases bb with
          | false =>
            rw [if_neg Bool.false_ne_true] at P ⊢
            exact ⟨w5, acc, us, rfl, x15, R5, hh5, hk5, hu5, ra5, P⟩
          | true =>
            rw [if_pos rfl] at P ⊢
            refine ⟨w5, e4, rfl, R5, E4.ext x5.toEx0, ?_⟩
            cases hme : m e4 w5.st with
            | exc _ _ => rw [hme] at P; exact False.elim P
            | stuck => rw [hme] at P; exact False.elim P
            | ok y S6 =>
              rw [hme] at P
              intro w6 v6 x6 R6 st6 r6
              subst st6
              replace P : Post (RepD X.K X.mg) X.K X.mg w1 ((if acc.length < sizeLine then lcR g t m (wipeE en vs) (ds.drop (j + 1)) (acc ++ [y]) w6.st else .stuck).bind fin) Q (fun cls dd H' => W cls dd s H') := P
              by_cases hz : acc.length < sizeLine
              · rw [if_pos hz] at P
                have ra6 := ra5.ext x6.toEx0
                have hh6 : w6.hid = p :: w1.hid := x6.hid.trans hh5
                have hk6 : Kp w1 w6 := ⟨fun a ha => (x6.kh a (by rw [hh5]; exact List.mem_cons_of_mem _ ha)).trans (hk5.kh a ha), hk5.fz.trans x15.al x6.fz⟩
                have hu6 : w6.hp p = some (.lst us) := (x6.kh p (by rw [hh5]; exact List.mem_cons_self)).trans hu5
                have pm : p ∈ w6.hid := by rw [hh6]; exact List.mem_cons_self
                have xg := gro_ex (o := .lst (us ++ [v6])) pm
                refine ⟨us, hu6, by rw [← ra6.length]; exact hz, w6.gro p (.lst (us ++ [v6])), acc ++ [y], us ++ [v6], rfl, (x15.trans x6.toEx0).trans xg, R6.gro pm, hh6, ⟨fun a ha => ?_, hk6.fz.trans (x15.trans x6.toEx0).al (gro_fz R6 pm)⟩, upd_same, (ra6.append (.cons r6 .nil)).ext xg, P⟩
                refine Eq.trans (show upd w6.hp p _ a = w6.hp a from upd_ne fun z => ?_) (hk6.kh a ha)
                subst z
                obtain ⟨_, o, ho⟩ := R1.hid a ha
                rw [hp] at ho; cases ho
              · rw [if_neg hz] at P; exact False.elim P
  · have e : j = ds.length := by omega
    subst e
    rw [List.drop_length] at P
    exact .inl ⟨stop, hfin w1 w p us acc Q _ R1 hp R x1 hh hk hu ra P⟩
theorem fin_lst : ∀ (w1 w : Wo) (p : Addr) (us : List V) (acc : List D) (Q : VK) (E : XK), Rep X.K X.mg w1 → w1.hp p = none → Rep X.K X.mg w → Ex0 w1 w → w.hid = p :: w1.hid → Kp w1 w → w.hp p = some (.lst us) → RepL X.K X.mg w acc us →
      Post (RepD X.K X.mg) X.K X.mg w1 ((fun acc S => Res.ok (D.lst acc) S) acc w.st) Q E → Q (.ref p) w.hp := by
  intro w1 w p us acc Q E R1 hp R x1 hh hk hu ra P
  have sub : ∀ a, a ∈ w1.hid → a ∈ w.hid := fun a h => by rw [hh]; exact List.mem_cons_of_mem _ h
  have xs := shw_ex sub
  refine P (w.shw w1.hid) (.ref p) ⟨x1.trans xs, rfl, hk.kh, hk.fz.trans x1.al (Fz.same rfl rfl)⟩ (R.shw sub) rfl (.lst ⟨hu, fun z => ?_⟩ (ra.ext xs))
  rcases z with ⟨n, c, h1, _, _⟩ | z
  · exact (R.hid p (by rw [hh]; exact List.mem_cons_self)).1 (List.mem_of_getElem? h1)
  · exact R1.not_hid hp z
theorem t_lc {i : AM} {g : Tg} {t : TM} {m : EM} {vs : List Nat} (hg : ∀ j, j ∈ g.ix → j ∈ vs) : ∀ s H Q, tG (RepD X.K X.mg) X W (eLc i g t m vs) s H Q →
      tLc (tG (ItsR X) X W i) (g.r X.K) (tG RlB X W0 t) (tG (RepD X.K X.mg) X W0 m) vs s H Q := t_lcCore hg fin_lst
def tTrue : TM := fun _ S => .ok true S
theorem pts0 {X' : Cx} : PTs X' [] (tG RlB X' W0 tTrue) := ⟨fun pins s σ H Q I h => pts_nil.run pins s σ H Q I (by
  obtain ⟨w, en, rfl, R, E, P⟩ := h
  exact Post.now P R rfl)⟩
theorem re_lc {elt tg iter : Expr} {ifs : List Expr} {scope : Scope} {i : AM} {g : Tg} {t : TM} {m : EM} (own : List (Str × Nat)) (hc : X.calm = true) (hN : X.N.Nodup) (hi : RI X W tg iter i) (ok : BlkOk X.N X.env.scope scope own) (hgi : ∀ j, j ∈ g.ix → j ∈ own.map (·.2))
    (hg : ∀ (s : Shared) (H : Hp) (C : Addr) (cl : List (Str × Addr)) (fp : List Addr), PG (X.blk s H scope (compEnvC scope cl C X.env) fp) tg (g.r X.K)) (ht : ∀ (s : Shared) (H : Hp) (C : Addr) (cl : List (Str × Addr)) (fp : List Addr), PTs (X.blk s H scope (compEnvC scope cl C X.env) fp) ifs (tG RlB X W0 t))
    (he : ∀ (s : Shared) (H : Hp) (C : Addr) (cl : List (Str × Addr)) (fp : List Addr), RE (X.blk s H scope (compEnvC scope cl C X.env) fp) W0 elt m) (hs : ∀ x, foldedSetIterable iter X.env x = pure x := by intro _; rfl) :
    RE X W (.ListComp elt [⟨tg, iter, ifs, 0⟩] scope pos) (eLc i g t m (own.map (·.2))) :=
  pe_imp (pe_lc hc hN hi ok hg ht he hs) (t_lc hgi)
theorem rs_setLc {i' : Nat} {y : Str} {py spos : Pos} {elt tg iter : Expr} {ifs : List Expr} {scope : Scope} {i : AM} {g : Tg} {t : TM} {m : EM} (own : List (Str × Nat)) (hc : X.calm = true) (hN : X.N.Nodup) (hy : X.N[i']? = some y)
    (hi : RI X W tg iter i) (ok : BlkOk X.N X.env.scope scope own) (hgi : ∀ j, j ∈ g.ix → j ∈ own.map (·.2))
    (hg : ∀ (s : Shared) (H : Hp) (C : Addr) (cl : List (Str × Addr)) (fp : List Addr), PG (X.blk s H scope (compEnvC scope cl C X.env) fp) tg (g.r X.K)) (ht : ∀ (s : Shared) (H : Hp) (C : Addr) (cl : List (Str × Addr)) (fp : List Addr), PTs (X.blk s H scope (compEnvC scope cl C X.env) fp) ifs (tG RlB X W0 t))
    (he : ∀ (s : Shared) (H : Hp) (C : Addr) (cl : List (Str × Addr)) (fp : List Addr), RE (X.blk s H scope (compEnvC scope cl C X.env) fp) W0 elt m) (hs : ∀ x, foldedSetIterable iter X.env x = pure x := by intro _; rfl)
    (hyl : X.env.scope.names.lookup y = some .local := by rfl)
    (hsw : swapsWith (.ListComp elt [⟨tg, iter, ifs, 0⟩] scope pos) (some (.Name y py)) spos.line X.env = pure true := by exact sw_true rfl rfl rfl (by decide +kernel)) :
    RS X W (.Assign [.Name y py] (.ListComp elt [⟨tg, iter, ifs, 0⟩] scope pos) spos) (sSet i' (eLc i g t m (own.map (·.2)))) := by
  refine ps_imp (ps_setLc (te := tG (RepD X.K X.mg) X W0 m) hc hN hy hyl hsw hi ok hg ht he hs) ?_
  rintro D s H ⟨w, en, rfl, R, E, P⟩
  refine t_lc hgi s w.hp _ ⟨w, en, rfl, R, E, (PostS.of P E).imp ?_⟩
  rintro v H1 ⟨w1, x, rfl, X1, R1, rx, P1⟩
  exact P1 w1 _ (Ext.refl w1) R1 rfl ((E.ext X1.toEx0).set i' rx)
end
end G
namespace G
open PySem L2 PySem.Spec
def enOf (N : Nat) (ds : List D) : En := ds.map some ++ List.replicate (N - ds.length) none
def fnM (N : Nat) (m : SM) : FM := fun ds S => match m (enOf N ds) S with
  | .nxt _ S' => .ok .non S'
  | .ret d S' => .ok d S'
  | .exc x _ S' => .exc x S'
  | _ => .stuck
theorem RoomG.mono {j k : Nat} {A : Around} (h : RoomG k A) (l : j ≤ k) : RoomG j A := ⟨h.r.mono l, fun q => h.gd (Nat.le_trans q l)⟩
theorem RoomG.units {k : Nat} {A : Around} (h : RoomG k A) : A.units + 64 < cLine := h.r.units
theorem Cg.u {X : Cx} {W : WX} {k : Nat} (c : Cg X W k) : X.A.units + 64 < cLine := c.rm.units
structure Cb (X : Cx) (k : Nat) : Prop where
  calm : X.calm = true
  nd : X.N.Nodup
  rm : RoomG k X.A
  xe : X.xe = fun _ _ => False
theorem Cb.u {X : Cx} {k : Nat} (c : Cb X k) : X.A.units + 64 < cLine := c.rm.units
theorem Cg.blk {X : Cx} {W : WX} {k : Nat} (c : Cg X W k) {s : Shared} {H : Hp} {scope : Scope} {cenv : Env} {fp : List Addr} : Cb (X.blk s H scope cenv fp) k := ⟨c.calm, c.nd, c.rm, rfl⟩
section
variable {P : Program} {w0 : World} {K : PySem.W.Frag} {mg : Str → Option Value} {base : Heap}
theorem RepE.start {w : Wo} {ds : List D} {vs : List V} (h : RepL K mg w ds vs) (N : List Str) : RepE K mg w (enOf N.length ds) (start N vs) := by
  have hl := h.length
  refine ⟨by unfold enOf L2.start; simp [hl], fun i d e => ?_⟩
  unfold enOf at e
  unfold L2.start
  by_cases hi : i < ds.length
  · rw [List.getElem?_append_left (by simpa using hi), List.getElem?_map] at e
    cases q : ds[i]? with
    | none => rw [q] at e; cases e
    | some d' =>
      rw [q] at e
      cases e
      obtain ⟨v, hv, r⟩ := h.get q
      exact ⟨v, by rw [List.getElem?_append_left (by simpa [← hl] using hi), List.getElem?_map, hv]; rfl, r⟩
  · rw [List.getElem?_append_right (by simpa using hi), List.getElem?_replicate] at e
    split at e <;> cases e
theorem fng_of {x qual : Str} {params : Arguments} {body : List Stmt} {scope : Scope} {dvs : List V} {kws : List (Str × V)} {f : Addr} {fd : FuncData} {N ps : List Str} {k : Nat} {sp : Sp} (F : FunD K x qual params body scope dvs kws f fd) (S : FnScope N ps scope)
    (len : ∀ vs H Q E, sp vs H Q E → vs.length = ps.length)
    (hbody : ∀ (cdv : Value) (A : Around) (outer : List Env) (s : Shared) (H : Hp) (vs : List V) (Q : VK) (E : XK), RoomG k (A.deeper (PyProof.Rows.envOfC qual scope s.heap.objs.size f cdv)) → sp vs H Q E →
      ∃ t, PSs (cxOf (L2.CX P w0) P w0 K mg base N qual scope f cdv A outer s H E) body t ∧ t { nx := fun _ H' => Q .non H', rt := Q } (L2.start N vs) H) : FnG P w0 K mg base (k + 1) f fd ps sp := by
  obtain ⟨oc, od, dV, kV, doc, pm, an, cdv, ct, osl, rfl, lk, hcd, _, _⟩ := F.ex
  constructor
  · exact len
  intro A outer s H args us vs Q E rm env bnd rel hs
  have inn : K.In s.heap := env.mod.kin.keeps fun a o q => (env.bs a o q).1
  have nol : s.heap.NoLimit := env.mod.nolimit.keeps fun a o q => (env.bs a o q).1
  apply codeAny_call_function rm.r.depth (inn _ _ lk) rfl S.co S.gen rfl (PySem.W.codeRec_of inn hcd)
  apply bnd
  apply wpAny_newFunctionEnv_cells S.kind
  · rintro ⟨n, u⟩ hn
    exact (S.par n (List.of_mem_zip hn).1).imp id fun q => ⟨q, PySem.W.cellsFrom_some _ _ _ (.inl q)⟩
  rintro _ rfl s1 nw
  constructor
  · exact nol.keeps nw.toInCall.keep
  obtain ⟨t, ht, hq⟩ := hbody cdv A outer s H vs Q E ⟨rm.r.deeper _, fun q => rm.gd (Nat.le_succ_of_le q)⟩ hs
  have hI := inv_start (CX := L2.CX P w0) (E := E) S rm.r.hd env (len _ _ _ _ hs) rel nw
  apply codeAny_func
  refine wpAny_mono (ht.run [] s1 _ H _ hI hq) ?_ fun _ _ z => z
  intro fl s' z
  cases fl with
  | next => obtain ⟨st, H', J, q⟩ := z; exact ⟨V.non, H', J.os, J.bare, J.base, J.hok, rfl, q⟩
  | ret u => obtain ⟨v, st, H', J, rv, q⟩ := z; exact ⟨v, H', J.os, J.bare, J.base, J.hok, rv, q⟩
  | brk => exact False.elim z.choose_spec.choose_spec.2
  | cont => exact False.elim z.choose_spec.choose_spec.2
theorem def_okD {x qual : Str} {st : Stmt} {f : Addr} {fd : FuncData} {N ps : List Str} {k : Nat} {m : SM} {dvs : List V} {kws : List (Str × V)} (F : FunD K x qual (defArgs st) (defBody st) (defScope st) dvs kws f fd) (S : FnScope N ps (defScope st))
    (hbody : ∀ (cdv : Value) (A : Around) (outer : List Env) (s : Shared) (H : Hp) (E : XK), Cg (cxOf (L2.CX P w0) P w0 K mg base N qual (defScope st) f cdv A outer s H E) (fun cls d _ H' => E cls d H') k →
      RSs (cxOf (L2.CX P w0) P w0 K mg base N qual (defScope st) f cdv A outer s H E) (fun cls d _ H' => E cls d H') (defBody st) m) :
    FnG P w0 K mg base (k + 1) f fd ps (spM K mg ps.length (fnM N.length m)) := by
  refine fng_of F S (fun vs H Q E h => h.1) (fun cdv A outer s H vs Q E hr h => ?_)
  refine ⟨_, hbody cdv A outer s H E ⟨rfl, S.nd, takes_of rfl rfl rfl rfl, passes_of rfl, hr, rfl, rfl, rfl⟩, ?_⟩
  obtain ⟨hl, w, ds, rfl, R, rl, P1⟩ := h
  refine ⟨w, enOf N.length ds, rfl, R, RepE.start rl N, ?_⟩
  unfold fnM at P1
  cases q : m (enOf N.length ds) w.st with
  | nxt e S => rw [q] at P1; exact fun w1 s1 x1 R1 st1 _ => P1 w1 .non x1 R1 st1 .non
  | ret d S => rw [q] at P1; exact P1
  | brk e S => rw [q] at P1; exact False.elim P1
  | cnt e S => rw [q] at P1; exact False.elim P1
  | exc y e S => rw [q] at P1; exact fun w1 s1 c1 d1 x1 R1 st1 _ rx => P1 w1 c1 d1 x1 R1 st1 rx
  | stuck => rw [q] at P1; exact P1
structure Dk (P : Program) (w0 : World) (K : PySem.W.Frag) (mg : Str → Option Value) (base : Heap) (x : Str) (ps : List Str) (k n : Nat) (ks : List Str) (gD : List D → List D → List D) (m : FM) : Prop where
  ex : ∃ f fd g gV, mg x = some (.ref f) ∧ PySem.W.keepIn K (.ref f) = true ∧ KBn K fd ps n ks g gV ∧ (∀ w ds vs es zs, RepL K mg w ds vs → RepL K mg w es zs → ds.length = n → es.length = ks.length → RepL K mg w (gD ds es) (gV vs zs) ∧ (gV vs zs).length = ps.length) ∧ FnG P w0 K mg base k f fd ps (spM K mg ps.length m)
end
section
variable {X : Cx} {W : WX} {a b c e o : Expr} {es : List Expr} {ma mb mc me : EM} {ta tb : TM} {pos : Pos} {x : Str} {p : Pos} {j k : Nat} {ps ks : List Str} {f : FM}
def eCall (f : FM) (m : AM) : EM := fun e S => (m e S).bind fun ds S1 => f ds S1
def nA (n : Nat) (m : AM) : AM := fun e S => (m e S).bind fun ds S1 => if ds.length = n then .ok ds S1 else .stuck
theorem run_fg {E : St → XK} {f : Addr} {fd : FuncData} {sp : Sp} {pins : List (Addr × Obj)} {s : St} {H : Hp} {sh : Shared} {Q : VK} {args : Args} {zs : List Value} {ws : List V} (F : FnG X.prog X.w X.K X.mg X.base k f fd ps sp) (hr : RoomG k X.A) (hb : BindsTo sh fd args (ps.zip zs)) (hx : PassesAt (L2.CX X.prog X.w) X s (E s))
    (I : L2.Inv X pins s H sh) (r : Vals ws zs) (h : sp ws H Q (E s)) : codeAny (model X.prog X.w) X.A (.call (.ref f) args) (fun r s' => match r with | .ok (.ret u) => EP X pins s Q u s' | .error y => X.xe y s' | _ => False) sh := by
  refine codeAny_mono (F.run X.A X.stack sh H args zs ws Q (E s) hr I.env0 hb r h) ?_
  intro res s' q
  cases res with
  | error y => exact hx pins H sh y s' I q
  | ok fl =>
    cases fl with
    | ret u => exact I.after q
    | _ => exact False.elim q
theorem pe_callG {fa : Addr} {fd : FuncData} {sp : Sp} {E : St → XK} {t : TA} (F : FnG X.prog X.w X.K X.mg X.base k fa fd ps sp) (hr : RoomG k X.A) (hg : Gl X x) (hm : X.mg x = some (.ref fa)) (hk : PySem.W.keepIn X.K (.ref fa) = true) (hb : Binds X.K fd ps []) (hx : ∀ σ, PassesAt (L2.CX X.prog X.w) X σ (E σ))
    (ha : PA X (e :: es) t) (hdb : (x == ("__debug__" : Str)) = false) (he : starEach (e :: es) X.env = (false, eval e X.env) :: starEach es X.env) (hpl : (backTo pos (starEach es X.env)).any (·.1) = false) :
    PE X (.Call (.Name x p) (e :: es) [] pos) (tCallS sp E t) := by
  constructor
  intro pins s σ H Q I h
  apply wpAny_Call_Name_kw
  refine ld_glob I hg hm ?_ hdb
  refine PySem.W.callWith_K (h₀ := X.base) I.ok.mod.kin hk ?_ he hpl
  refine thn (ha.run pos pins s σ H _ I h) ?_
  rintro us s1 ⟨vs, H1, I1, r, q⟩
  have hl : us.length = ps.length := by rw [← r.length]; exact F.len _ _ _ _ q
  have b := hb s1 us I1.kIn (by simpa using hl)
  rw [List.append_nil] at b
  refine ⟨I1.kIn, wpAny_call (codeAny_mono (run_fg F hr b (hx σ) I1 r q) ?_)⟩
  intro res s' z
  cases res with
  | error y => exact z
  | ok fl =>
    cases fl with
    | ret u => exact z
    | _ => exact False.elim z
theorem re_call {m : AM} (c : Cg X W k) (hF : Df X.prog X.w X.K X.mg X.base x ps j f) (hj : j ≤ k) (ha : RA X W (e :: es) m) (hg : Gl X x := by rfl) (hdb : (x == ("__debug__" : Str)) = false := by decide) (he : starEach (e :: es) X.env = (false, eval e X.env) :: starEach es X.env := by rfl) (hpl : (backTo pos (starEach es X.env)).any (·.1) = false := by rfl) :
    RE X W (.Call (.Name x p) (e :: es) [] pos) (eCall f (nA ps.length m)) := by
  obtain ⟨fa, fd, h1, h2, h3, h4⟩ := hF.ex
  refine pe_imp (pe_callG h4 (c.rm.mono hj) hg h1 h2 h3 (fun s => passAt c.tk s) ha hdb he hpl) ?_
  rintro s H Q ⟨w, en, rfl, R, E, P⟩
  unfold eCall nA at P
  refine ⟨w, en, rfl, R, E, ?_⟩
  cases q : m en w.st with
  | stuck => rw [q] at P; exact P
  | exc y S => rw [q] at P; exact P
  | ok ds S =>
    rw [q] at P
    replace P : Post (RepD X.K X.mg) X.K X.mg w ((if ds.length = ps.length then .ok ds S else .stuck : Res (List D)).bind f) Q _ := P
    intro w1 vs x1 R1 st1 rl
    subst st1
    split at P
    · rename_i hl
      exact ⟨by rw [← rl.length]; exact hl, w1, ds, rfl, R1, rl, Post.ext P x1⟩
    · exact False.elim P
theorem takes_no {X' : Cx} (h : X'.xe = fun _ _ => False) : Takes X' W0 := fun _ _ z => by
  obtain ⟨_, _, _, _, _, _, _, _, _, _, _, _, _, _, _, _, q⟩ := z
  exact False.elim q
theorem re_callB {m : AM} (c : Cb X k) (hF : Df X.prog X.w X.K X.mg X.base x ps j f) (hj : j ≤ k) (ha : RA X W0 (e :: es) m) (hg : Gl X x := by rfl) (hdb : (x == ("__debug__" : Str)) = false := by decide) (he : starEach (e :: es) X.env = (false, eval e X.env) :: starEach es X.env := by rfl) (hpl : (backTo pos (starEach es X.env)).any (·.1) = false := by rfl) :
    RE X W0 (.Call (.Name x p) (e :: es) [] pos) (eCall f (nA ps.length m)) := by
  obtain ⟨fa, fd, h1, h2, h3, h4⟩ := hF.ex
  refine pe_imp (pe_callG h4 (c.rm.mono hj) hg h1 h2 h3 (fun s => passAt (takes_no c.xe) s) ha hdb he hpl) ?_
  rintro s H Q ⟨w, en, rfl, R, E, P⟩
  unfold eCall nA at P
  refine ⟨w, en, rfl, R, E, ?_⟩
  cases q : m en w.st with
  | stuck => rw [q] at P; exact P
  | exc y S => rw [q] at P; exact P
  | ok ds S =>
    rw [q] at P
    replace P : Post (RepD X.K X.mg) X.K X.mg w ((if ds.length = ps.length then .ok ds S else .stuck : Res (List D)).bind f) Q _ := P
    intro w1 vs x1 R1 st1 rl
    subst st1
    split at P
    · rename_i hl
      exact ⟨by rw [← rl.length]; exact hl, w1, ds, rfl, R1, rl, Post.ext P x1⟩
    · exact False.elim P
abbrev RK (X : Cx) (W : WX) (kws : List Keyword) (m : AM) : Prop := PK X kws (tG (RepL X.K X.mg) X W m)
theorem pk_imp {kws : List Keyword} {t t' : TA} (h : PK X kws t) (i : ∀ s H Q, t' s H Q → t s H Q) : PK X kws t' := ⟨fun ps pins s σ H Q I q => h.run ps pins s σ H Q I (i _ _ _ q)⟩
theorem rk_nil : RK X W [] aNil := pk_imp pk_nil fun s H Q ⟨w, en, hw, R, E, P⟩ => by
  subst hw
  exact Post.now P R .nil
theorem rk_cons {kws : List Keyword} {mr : AM} {nm : Option Str} {kpos : Pos} (ha : RE X W e ma) (hr : RK X W kws mr) : RK X W (⟨nm, e, kpos⟩ :: kws) (aCons ma mr) := by
  refine pk_imp (pk_cons ha hr) ?_
  rintro s H Q ⟨w, en, rfl, R, E, P⟩
  refine ⟨w, en, rfl, R, E, (Post.bind P).imp ?_⟩
  rintro v H1 ⟨w1, x, rfl, X1, R1, rx, P1⟩
  refine ⟨w1, en, rfl, R1, E.ext X1.toEx0, (Post.bind P1).imp ?_⟩
  rintro vs H2 ⟨w2, y, rfl, X2, R2, ry, P2⟩
  exact Post.now P2 R2 (.cons (rx.ext X2.toEx0) ry)
def eCallK (f : FM) (gD : List D → List D → List D) (n l : Nat) (m mk : AM) : EM := fun e S => (m e S).bind fun ds S1 => (mk e S1).bind fun zs S2 => if ds.length = n ∧ zs.length = l then f (gD ds zs) S2 else .stuck
theorem run_kw {E : St → XK} {f : Addr} {fd : FuncData} {sp : Sp} {n : Nat} {g : List Value → List Value → List Value} {gV : List V → List V → List V} {pins : List (Addr × Obj)} {s : St} {H : Hp} {sh : Shared} {Q : VK} {us ws : List Value} {vs zs : List V}
    (F : FnG X.prog X.w X.K X.mg X.base k f fd ps sp) (hr : RoomG k X.A) (hb : KBn X.K fd ps n ks g gV) (hx : PassesAt (L2.CX X.prog X.w) X s (E s)) (I : L2.Inv X pins s H sh) (r : Vals vs us) (rz : Vals zs ws) (h1 : vs.length = n) (h2 : zs.length = ks.length) (h : sp (gV vs zs) H Q (E s)) :
    wpAny (model X.prog X.w) X.A (call (.ref f) us (ks.zip ws)) (EP X pins s Q) X.xe sh := by
  obtain ⟨b1, b2⟩ := hb
  have h1' : us.length = n := by rw [← r.length]; exact h1
  have h2' : ws.length = ks.length := by rw [← rz.length]; exact h2
  refine wpAny_call (codeAny_mono (F.run X.A X.stack sh H ⟨us, ks.zip ws⟩ (g us ws) (gV vs zs) Q (E s) hr I.env0 (b1 sh us ws I.kIn h1' h2') (b2 r rz) h) fun r s' hq => ?_)
  cases r with
  | error y => exact hx pins H sh y s' I hq
  | ok fl =>
    cases fl with
    | ret u => exact I.after hq
    | next => exact False.elim hq
    | brk => exact False.elim hq
    | cont => exact False.elim hq
theorem re_callK {kws : List Keyword} {m mk : AM} {n : Nat} {gD : List D → List D → List D} (c : Cg X W k) (hF : Dk X.prog X.w X.K X.mg X.base x ps j n ks gD f) (hj : j ≤ k) (ha : RA X W (e :: es) m) (hkw : RK X W kws mk) (hg : Gl X x := by rfl)
    (hall : (backToKw pos (keywordEach kws X.env)).all (·.1.isSome) = true := by rfl) (hks : (backToKw pos (keywordEach kws X.env)).filterMap (·.1) = ks := by rfl)
    (hdb : (x == ("__debug__" : Str)) = false := by decide) (he : starEach (e :: es) X.env = (false, eval e X.env) :: starEach es X.env := by rfl)
    (hpl : ((backTo pos (starEach (e :: es) X.env)).any (·.1) || (backToKw pos (keywordEach kws X.env)).any (·.1.isNone)) = false := by rfl) :
    RE X W (.Call (.Name x p) (e :: es) kws pos) (eCallK f gD n ks.length m mk) := by
  obtain ⟨fa, fd, g, gV, h1, h2, h3, hR, h4⟩ := hF.ex
  refine ⟨fun pins s σ H Q I h => ?_⟩
  obtain ⟨w, en, rfl, R, E, P⟩ := h
  refine wpAny_Call_Name_kw (ld_glob I hg h1 ?_ hdb)
  refine PySem.W.callWith_KW (h₀ := X.base) I.ok.mod.kin h2 hall (thn (ha.run pos pins s σ w.hp _ I ⟨w, en, rfl, R, E, Post.bind P⟩) fun us s1 hu => ?_) hpl he
  obtain ⟨vs, H1, I1, r, w1, ds, rfl, X1, R1, rl, P1⟩ := hu
  refine thn (hkw.run pos pins s1 σ w1.hp _ I1 ⟨w1, en, rfl, R1, E.ext X1.toEx0, Post.bind P1⟩) fun ws s2 hu => ?_
  obtain ⟨zs, H2, I2, rz, w2, es2, rfl, X2, R2, rl2, P2⟩ := hu
  refine ⟨I2.kIn, ?_⟩
  rw [hks]
  dsimp only at P2
  split at P2
  · rename_i hl
    obtain ⟨q1, q2⟩ := hR w2 ds vs es2 zs (rl.ext X2.toEx0) rl2 hl.1 hl.2
    exact run_kw (E := WE W) h4 (c.rm.mono hj) h3 (passAt c.tk σ) I2 r rz (by rw [← rl.length]; exact hl.1) (by rw [← rl2.length]; exact hl.2) ⟨q2, w2, gD ds es2, rfl, R2, q1, P2⟩
  · exact False.elim P2
def eCallK0 (f : FM) (gD : List D → List D → List D) (l : Nat) (mk : AM) : EM := fun e S => (mk e S).bind fun zs S2 => if zs.length = l then f (gD [] zs) S2 else .stuck
theorem re_callK0 {kws : List Keyword} {mk : AM} {gD : List D → List D → List D} (c : Cg X W k) (hF : Dk X.prog X.w X.K X.mg X.base x ps j 0 ks gD f) (hj : j ≤ k) (hkw : RK X W kws mk) (hg : Gl X x := by rfl)
    (hall : (backToKw pos (keywordEach kws X.env)).all (·.1.isSome) = true := by rfl) (hks : (backToKw pos (keywordEach kws X.env)).filterMap (·.1) = ks := by rfl)
    (hdb : (x == ("__debug__" : Str)) = false := by decide)
    (hpl : ((backTo pos (starEach [] X.env)).any (·.1) || (backToKw pos (keywordEach kws X.env)).any (·.1.isNone)) = false := by rfl) :
    RE X W (.Call (.Name x p) [] kws pos) (eCallK0 f gD ks.length mk) := by
  obtain ⟨fa, fd, g, gV, h1, h2, h3, hR, h4⟩ := hF.ex
  refine ⟨fun pins s σ H Q I h => ?_⟩
  obtain ⟨w, en, rfl, R, E, P⟩ := h
  refine wpAny_Call_Name_kw (ld_glob I hg h1 ?_ hdb)
  refine PySem.W.callWith_KW0 (h₀ := X.base) I.ok.mod.kin h2 hall (thn (hkw.run pos pins s σ w.hp _ I ⟨w, en, rfl, R, E, Post.bind P⟩) fun ws s2 hu => ?_) hpl
  obtain ⟨zs, H2, I2, rz, w2, es2, rfl, X2, R2, rl2, P2⟩ := hu
  refine ⟨I2.kIn, ?_⟩
  rw [hks]
  dsimp only at P2
  split at P2
  · rename_i hl
    obtain ⟨q1, q2⟩ := hR w2 [] [] es2 zs .nil rl2 rfl hl
    exact run_kw (E := WE W) (us := []) h4 (c.rm.mono hj) h3 (passAt c.tk σ) I2 .nil rz rfl (by rw [← rl2.length]; exact hl) ⟨q2, w2, gD [] es2, rfl, R2, q1, P2⟩
  · exact False.elim P2
def sRaise (c : Nat) : SM := fun e S => .exc (.exc c []) e S
theorem rs_raise {C : Addr} {bm : List Value} {B newId initId : String} {m : Str} {jj : Nat} {p2 pos2 : Pos} (cn : Nat) (hcn : cname cn = x) (c : Cg X W k) (F : ExcBaseFacts B newId initId bm) (q : PySem.W.excIn X.K C bm newId = true) (gC : X.mg x = some (.ref C)) (kC : PySem.W.keepIn X.K (.ref C) = true) (r : Raises X (.ref C)) (hg : Gl X x := by rfl)
    (hdb : (x == ("__debug__" : Str)) = false := by decide) : RS X W (.Raise (some (.Call (.Name x p) [.Constant (.str m) jj p2] [] pos)) none pos2) (sRaise cn) := by
  refine ps_imp (ps_raise c.calm c.tk (pmk_own F q gC kC r hg hdb)) ?_
  rintro D s H ⟨w, en, rfl, R, E, P⟩
  exact P w s (.ref C) none (Ext.refl w) R rfl E ⟨cn, C, [], [], rfl, by rw [hcn]; exact gC, rfl, .inl ⟨rfl, rfl⟩, .nil⟩
end
end G
namespace G
open PySem L2 PySem.Spec
section
variable {X : Cx} {W : WX} {a b c e o : Expr} {es : List Expr} {ma mb mc me : EM} {ta tb : TM} {pos : Pos} {x : Str} {p : Pos} {j k : Nat}
def sSu (i : Nat) : SRes → SRes
  | .nxt e S => .nxt (e.set i none) S
  | .brk e S => .brk (e.set i none) S
  | .cnt e S => .cnt (e.set i none) S
  | .ret d S => .ret d S
  | _ => .stuck
def sTry (i : Nat) (tb : Nat → Option Bool) (m n : SM) : SM := fun e S => match m e S with
  | .exc (.exc cn fs) e1 S1 => match tb cn with
    | some true => sSu i (n (e1.set i (some (.exc cn fs))) S1)
    | some false => .exc (.exc cn fs) e1 S1
    | none => .stuck
  | .exc _ _ _ => .stuck
  | r => r
def isC (tb : Nat → Option Bool) : D → Option Bool
  | .exc cn [] => tb cn
  | _ => none
def eIsC (tb : Nat → Option Bool) (m : EM) : EM := fun e S => (m e S).bind fun x S1 => lf ((isC tb x).map .bl) S1
def eMt (f : Store → D → List D → Option D) (a : EM) (m : AM) : EM := fun e S => (a e S).bind fun x S1 => if (seqD S1 x).isSome then (m e S1).bind fun xs S2 => lf (f S2 x xs) S2 else .stuck
end
end G
namespace G
open PySem L2 PySem.Spec
structure XcO (K : PySem.W.Frag) (C : Addr) (bm : List Value) (nw : String) : Prop where
  x : PySem.W.excIn K C bm nw = true
  k : PySem.W.keepIn K (.ref C) = true
  b : PySem.W.subIn K (.ref C) (.type "BaseException") = some true
  t : PySem.W.typeIn K (.ref C) = some (.type "type")
section
variable {P : Program} {w0 : World} {K : PySem.W.Frag} {mg : Str → Option Value} {base : Heap}
theorem ints_rep {w : Wo} : ∀ ns : List Int, RepL K mg w (ns.map D.int) (ns.map V.int)
  | [] => .nil
  | n :: ns => .cons (.int n) (ints_rep ns)
end
end G
namespace G
open PySem L2 PySem.Spec PyProof.Rows
section
variable {fx : List Fx} {fn : List He.DefD} {K : PySem.W.Frag}
theorem SaysX.fact (c : SaysX fx fn K) (i : Nat) {f : Fx} (h : fx[i]? = some f := by rfl) : f K = true := by
  have c1 := (He.ba (show ((fx.all fun f => f K) && fn.all fun d => d.ok K) = true from congrArg (fun z : He.AlD => z.1) c)).1
  exact List.all_eq_true.mp c1 f (List.mem_of_getElem? h)
theorem SaysX.def_ (c : SaysX fx fn K) (i : Nat) {d : He.DefD} (h : fn[i]? = some d := by rfl) : ∃ fd, FunD K d.name d.qual d.params d.body d.scope (d.dvs K) (d.kws K) (He.fAd K d.at_) fd := by
  have c2 := (He.ba (show ((fx.all fun f => f K) && fn.all fun d => d.ok K) = true from congrArg (fun z : He.AlD => z.1) c)).2
  have e : fn.map (fun d => He.fnW K d.at_) = fn.map He.DefD.val := congrArg (fun z : He.AlD => z.2) c
  have e2 : (fn.map fun d => He.fnW K d.at_)[i]? = (fn.map He.DefD.val)[i]? := by rw [e]
  rw [List.getElem?_map, List.getElem?_map, h] at e2
  exact He.DefD.funD (Option.some.inj e2) (List.all_eq_true.mp c2 d (List.mem_of_getElem? h))
end
section
variable {K : PySem.W.Frag} {h : Heap} {mg : Str → Option Value}
theorem free_at (X : K.In h) (Y : h.Ns mainGlobals mg) {l : List Str} (c : freesB l K = true) (i : Nat) {x : Str} (e : l[i]? = some x := by rfl) : mg x = none :=
  PySem.W.mg_none_of X Y (He.eqO_ok (List.all_eq_true.mp c x (List.mem_of_getElem? e)))
theorem glo_one (X : K.In h) (Y : h.Ns mainGlobals mg) {x : Str} (c : oneGlo K x = true) : mg x = some (.ref (He.ga K x)) := PySem.W.mg_of X Y (He.eqO_ok c)
theorem glo_at (X : K.In h) (Y : h.Ns mainGlobals mg) {l : List Str} (c : glosB l K = true) (i : Nat) {x : Str} (e : l[i]? = some x := by rfl) : mg x = some (.ref (He.ga K x)) :=
  glo_one X Y (List.all_eq_true.mp c x (List.mem_of_getElem? e))
theorem int_at (X : K.In h) (Y : h.Ns mainGlobals mg) {x : Str} {i : Int} (c : intB x i K = true) : ∃ t, mg x = some (.int i t) := He.int_ok X Y (show (He.Fa.int x i).ok K = true from c)
theorem str_at (X : K.In h) (Y : h.Ns mainGlobals mg) {x z : Str} (c : strB x z K = true) : ∃ t, mg x = some (.str z t) := He.str_ok X Y (show (He.Fa.str x z).ok K = true from c)
theorem tupX_ok {x : Str} {vs : List V} (h : tupX x vs K = true) : KtT K (He.ga K x) vs := by
  unfold tupX at h
  cases q : K.lookup (He.ga K x) with
  | none =>
    rw [q] at h
    cases h
  | some o =>
    obtain ⟨oc, od, dt, osl⟩ := o
    rw [q] at h
    cases oc with
    | type c =>
      cases dt with
      | seq its n =>
        obtain ⟨h1, h2⟩ := He.ba (show (decide (c = "tuple") && (decide (its.size ≤ sizeLine) && He.relAll vs its.toList)) = true from h)
        obtain ⟨h3, h4⟩ := He.ba h2
        exact ⟨_, its, n, q, congrArg Value.type (of_decide_eq_true h1), rfl, of_decide_eq_true h3, He.relAll_ok h4⟩
      | _ => cases h
    | _ => cases dt <;> cases h
theorem xcoB_ok {x : Str} {bm : List Value} {nw : String} (h : xcoB x bm nw K = true) : XcO K (He.ga K x) bm nw := by
  obtain ⟨c1, c⟩ := He.ba h
  obtain ⟨c2, c⟩ := He.ba c
  obtain ⟨c3, c4⟩ := He.ba c
  exact ⟨c1, c2, of_decide_eq_true c3, of_decide_eq_true c4⟩
def kitO (K : PySem.W.Frag) (D : Value) (p : Nat × Bool) : Bool := decide (PySem.W.kitOne K (.ref (He.ga K (cname p.1))) D = some p.2)
def kitB (D : PySem.W.Frag → Value) (l : List (Nat × Bool)) : Fx := fun K => l.all fun p => kitO K (D K) p
theorem own_at {D A : Addr} {p : Addr → Prop} {x : Str} (g : mg x = some (.ref A)) (h : p A) (e : mg x = some (.ref D)) : p D := by
  rw [g] at e
  cases e
  exact h
end
end G
namespace G
open PySem L2 PySem.Spec
section
variable {K : PySem.W.Frag} {x qual : Str} {params : Arguments} {body : List Stmt} {scope : Scope} {kws : List (Str × V)} {f : Addr} {fd : FuncData} {ps : List Str}
theorem kb_none (F : FunD K x qual params body scope [] kws f fd) (n : Nat) (ks : List Str) (g : {α : Type} → List α → List α → List α) (hrel : ∀ {vs zs : List V} {us ws : List Value}, Vals vs us → Vals zs ws → Vals (g vs zs) (g us ws))
    (h : ∀ (kV doc pm : Value) (an : Option Addr) (cdv ct : Value) (us ws : List Value), us.length = n → ws.length = ks.length → bindArgs (PySem.W.fnOf x qual params body scope .none kV doc pm an cdv ct) ⟨us, ks.zip ws⟩ = pure (ps.zip (g us ws))) :
    KBn K fd ps n ks (fun us ws => g us ws) (fun vs zs => g vs zs) := by
  obtain ⟨oc, od, dV, kV, doc, pm, an, cdv, ct, osl, rfl, lk, hcd, hD, hK⟩ := F.ex
  rcases hD with ⟨_, rfl⟩ | ⟨hn, _⟩
  · exact ⟨fun s us ws X l1 l2 => .of_eq (h kV doc pm an cdv ct us ws l1 l2), fun r1 r2 => hrel r1 r2⟩
  · exact absurd rfl hn
end
end G
namespace G
open PySem L2 PySem.Spec
section
variable {X : Cx} {W : WX} {a b c e o : Expr} {es : List Expr} {ma mb mc me : EM} {ta tb : TM} {pos : Pos} {x : Str} {p : Pos} {j k : Nat} {ps ks : List Str} {f : FM} {st : Stmt}
def sStk : SM := fun _ _ => .stuck
end
section
variable {K : PySem.W.Frag} {mg : Str → Option Value} {w : Wo}
theorem RepF.flen {fs : List (Nat × D)} {gs : List (Str × V)} : RepF K mg w fs gs → fs.length = gs.length
  | .nil => rfl
  | .cons _ t => congrArg Nat.succ (RepF.flen t)
def putD (f : Nat) (d : D) : List (Nat × D) → List (Nat × D)
  | [] => [(f, d)]
  | (g, x) :: r => if g = f then (g, d) :: r else (g, x) :: putD f d r
theorem RepF.put {f : Nat} {d : D} {v : V} (hf : f < 48) (q : RepD K mg w d v) {fs : List (Nat × D)} {gs : List (Str × V)} : RepF K mg w fs gs → RepF K mg w (putD f d fs) (putF (fname f) v gs)
  | .nil => .cons q .nil
  | @RepF.cons _ _ _ g d' v' l vs r t => by
    unfold putD putF
    by_cases e : g = f
    · subst e
      rw [if_pos rfl, if_pos rfl]
      exact .cons q t
    · rw [if_neg e, if_neg (fname_ne hf e)]
      exact .cons r (RepF.put hf q t)
theorem RepD.insV {d : D} {v : V} {c : Nat} {fs : List (Nat × D)} (R : Rep K mg w) (h : RepD K mg w d v) (e : insD w.st d = some (c, fs)) : ∃ a C dx gs, v = .ref a ∧ mg (cname c) = some (.ref C) ∧ w.hp a = some (.ins C dx gs) ∧ RepF K mg w fs gs := by
  cases h with
  | ins g s r => cases e; exact ⟨_, _, _, _, rfl, g, s.1, r⟩
  | @loc n a hn =>
    replace e : (match w.st[n]? with
      | some (.obj c fs) => some (c, fs)
      | _ => none) = some (c, fs) := e
    split at e
    · rename_i c' fs' hl
      cases e
      obtain ⟨C, dx, gs, g, p, r⟩ := R.cell _ _ _ hn hl
      exact ⟨a, C, dx, gs, rfl, g, p, r⟩
    · cases e
  | _ => cases e
def fldD (cs : List Nat) (f : Nat) (S : Store) (x : D) : Option D := match insD S x with
  | some (c, fs) => if cs.contains c then fs.lookup f else none
  | none => none
end
section
variable {X : Cx} {W : WX} {a b c e o : Expr} {es : List Expr} {ma mb mc me : EM} {ta tb : TM} {pos : Pos} {x : Str} {p : Pos} {j k : Nat} {ps ks : List Str}
def eFld (cs : List Nat) (f : Nat) (m : EM) : EM := fun e S => (m e S).bind fun x S1 => lf (fldD cs f S1 x) S1
def ClF (K : PySem.W.Frag) (mg : Str → Option Value) (cs : List Nat) (f : Nat) : Prop := ∀ c C, cs.contains c = true → mg (cname c) = some (.ref C) → Cls K C ∧ NoAttr K C (fname f)
theorem re_fld {cs : List Nat} (f : Nat) (hcl : ClF X.K X.mg cs f) (ha : RE X W a ma) (hf : f < 48 := by decide) (hx : fname f = x := by rfl) (hb : attributeBase a x X.env (eval a X.env) = eval a X.env := by rfl) : RE X W (.Attribute a x pos) (eFld cs f ma) := by
  refine pe_imp (pe_fld ha hb) ?_
  rintro s H Q ⟨w, en, rfl, R, E, P⟩
  refine ⟨w, en, rfl, R, E, (Post.bind P).imp ?_⟩
  rintro v H1 ⟨w1, d, rfl, X1, R1, rd, P1⟩
  dsimp only at P1
  unfold fldD at P1
  cases q : insD w1.st d with
  | none => rw [q] at P1; exact False.elim P1
  | some cf =>
    obtain ⟨c, fs⟩ := cf
    rw [q] at P1
    dsimp only at P1
    split at P1
    · rename_i hc
      obtain ⟨ad, C, dx, gs, rfl, g, hp, rf⟩ := rd.insV R1 q
      cases ql : fs.lookup f with
      | none => rw [ql] at P1; exact False.elim P1
      | some d' =>
        rw [ql] at P1
        obtain ⟨v', h1, h2⟩ := rf.get hf ql
        obtain ⟨k1, k2⟩ := hcl c C hc g
        rw [hx] at h1 k2
        exact ⟨ad, C, dx, gs, v', rfl, hp, k1, k2, h1, Post.now P1 R1 h2⟩
    · exact False.elim P1
def stF (cs : List Nat) (f : Nat) (S : Store) (x y : D) : Option Store := match x with
  | .loc n => match S[n]? with
    | some (.obj c fs) => if cs.contains c && decide (fs.length < 1000) then some (S.set n (.obj c (putD f y fs))) else none
    | _ => none
  | _ => none
def stR (o : Option Store) (e : En) : SRes := match o with
  | some S => .nxt e S
  | none => .stuck
def sFldM (cs : List Nat) (f : Nat) (o v : EM) : SM := fun e S => sE (v e S) e fun y S1 => sE (o e S1) e fun x S2 => stR (stF cs f S2 x y) e
theorem rs_fld {cs : List Nat} (f : Nat) {pos' : Pos} (hcl : ClF X.K X.mg cs f) (ho : RE X W a ma) (hv : RE X W b mb) (hf : f < 48 := by decide) (hx : fname f = x := by rfl) (hs : swapsWith b (some (.Attribute a x pos')) pos.line X.env = pure false := by rfl) :
    RS X W (.Assign [.Attribute a x pos'] b pos) (sFldM cs f ma mb) := by
  refine ps_imp (ps_fld ho hv hs) ?_
  rintro D0 s H ⟨w, en, rfl, R, E, P⟩
  refine ⟨w, en, rfl, R, E, (PostS.of P E).imp ?_⟩
  rintro y H1 ⟨w1, dy, rfl, X1, R1, ry, P1⟩
  refine ⟨w1, en, rfl, R1, E.ext X1.toEx0, (PostS.of P1 (E.ext X1.toEx0)).imp ?_⟩
  rintro v H2 ⟨w2, d, rfl, X2, R2, rd, P2⟩
  dsimp only at P2
  cases q : stF cs f w2.st d dy with
  | none => rw [q] at P2; exact False.elim P2
  | some S3 =>
    rw [q] at P2
    unfold stF at q
    split at q
    · rename_i m
      split at q
      · rename_i c fs hl
        split at q
        · rename_i hc
          rw [Bool.and_eq_true] at hc
          cases q
          cases rd with
          | @loc _ ad hn =>
            obtain ⟨C, dx, gs, g, hp, rf⟩ := R2.cell _ _ _ hn hl
            obtain ⟨k1, k2⟩ := hcl c C hc.1 g
            have ry' := ry.ext X2.toEx0
            have Xw : Ext w2 (w2.wr m ad (.ins C dx (putF x y gs)) (.obj c (putD f dy fs))) := wr_ext R2 hn hl (by intro z; cases z)
            rw [hx] at k2
            refine ⟨ad, C, dx, gs, rfl, hp, k1, k2, by rw [← rf.flen]; exact of_decide_eq_true hc.2, ?_⟩
            exact P2 (w2.wr m ad (.ins C dx (putF x y gs)) (.obj c (putD f dy fs))) s Xw (R2.wr hn hl (by intro z; cases z) ⟨C, dx, _, g, upd_same, by have z := RepF.put hf ry' rf; rw [hx] at z; exact z.ext Xw.toEx0⟩) rfl (((E.ext X1.toEx0).ext X2.toEx0).ext Xw.toEx0)
        · cases q
      · cases q
    · cases q
end
mutual
def D.lo (n : Nat) : D → Bool
  | .non => true
  | .bl _ => true
  | .int _ => true
  | .str _ => true
  | .tup l => loL n l
  | .lst l => loL n l
  | .scr l => loL n l
  | .dic _ l => loL n l
  | .loc m => decide (m < n)
  | .exc _ fs => loF n fs
  | .ins _ fs => loF n fs
  | .fa _ => true
  | .pin _ d => d.lo n
def loL (n : Nat) : List D → Bool
  | [] => true
  | d :: l => d.lo n && loL n l
def loF (n : Nat) : List (Nat × D) → Bool
  | [] => true
  | (_, d) :: l => d.lo n && loF n l
end
section
variable {K : PySem.W.Frag} {mg : Str → Option Value} {w : Wo}
theorem StP.cut {n : Nat} {a : Addr} {u : HO} (h : StP w a u) : StP (w.cut n) a u := ⟨h.1, fun z => h.2 (cut_zz z)⟩
theorem StO.cut {n : Nat} {a : Addr} {u : HO} (h : StO w a u) : StO (w.cut n) a u := ⟨h.1, fun z => h.2 (cut_zz z)⟩
mutual
theorem RepD.cut {n : Nat} {d : D} {v : V} : RepD K mg w d v → d.lo n = true → RepD K mg (w.cut n) d v
  | .non, _ => .non
  | .bl b, _ => .bl b
  | .int i, _ => .int i
  | .str x, _ => .str x
  | .tup h r, l => .tup (h.imp (fun h => h.cut) id) (RepL.cutR r (by rw [D.lo] at l; exact l))
  | .lst h r, l => .lst h.cut (RepL.cutR r (by rw [D.lo] at l; exact l))
  | .scr h r, l => .scr (h.imp (fun h => h.cut) id) (RepL.cutR r (by rw [D.lo] at l; exact l))
  | .dic h z r, l => .dic h.cut z (RepL.cutR r (by rw [D.lo] at l; exact l))
  | .loc h, l => .loc (by
      rw [D.lo] at l
      show (w.al.take n)[_]? = _
      rw [List.getElem?_take, if_pos (of_decide_eq_true l)]; exact h)
  | .ins g h r, l => .ins g h.cut (RepF.cutR r (by rw [D.lo] at l; exact l))
  | .exc g h x r, l => .exc g h.cut (x.imp id fun ⟨z, y, q, s⟩ => ⟨z, y, q, s.cut⟩) (RepF.cutR r (by rw [D.lo] at l; exact l))
  | .fa a, _ => .fa a
  | .pin h, l => .pin (RepD.cut h (by rw [D.lo] at l; exact l))
theorem RepL.cutR {n : Nat} {l : List D} {vs : List V} : RepL K mg w l vs → loL n l = true → RepL K mg (w.cut n) l vs
  | .nil, _ => .nil
  | .cons r t, h => by
    rw [loL, Bool.and_eq_true] at h
    exact .cons (RepD.cut r h.1) (RepL.cutR t h.2)
theorem RepF.cutR {n : Nat} {l : List (Nat × D)} {vs : List (Str × V)} : RepF K mg w l vs → loF n l = true → RepF K mg (w.cut n) l vs
  | .nil, _ => .nil
  | .cons r t, h => by
    rw [loF, Bool.and_eq_true] at h
    exact .cons (RepD.cut r h.1) (RepF.cutR t h.2)
end
mutual
theorem RepD.low {d : D} {v : V} : RepD K mg w d v → d.lo w.al.length = true
  | .non => by rw [D.lo]
  | .bl b => by rw [D.lo]
  | .int i => by rw [D.lo]
  | .str x => by rw [D.lo]
  | .tup h r => by rw [D.lo]; exact RepL.low r
  | .lst h r => by rw [D.lo]; exact RepL.low r
  | .scr h r => by rw [D.lo]; exact RepL.low r
  | .dic h z r => by rw [D.lo]; exact RepL.low r
  | .loc h => by rw [D.lo]; exact decide_eq_true (List.getElem?_eq_some_iff.mp h).1
  | .ins g h r => by rw [D.lo]; exact RepF.low r
  | .exc g h x r => by rw [D.lo]; exact RepF.low r
  | .fa a => by rw [D.lo]
  | .pin h => by rw [D.lo]; exact RepD.low h
theorem RepL.low {l : List D} {vs : List V} : RepL K mg w l vs → loL w.al.length l = true
  | .nil => by rw [loL]
  | .cons r t => by rw [loL, Bool.and_eq_true]; exact ⟨RepD.low r, RepL.low t⟩
theorem RepF.low {l : List (Nat × D)} {vs : List (Str × V)} : RepF K mg w l vs → loF w.al.length l = true
  | .nil => by rw [loF]
  | .cons r t => by rw [loF, Bool.and_eq_true]; exact ⟨RepD.low r, RepF.low t⟩
end
def loK {κ : Type} (n : Nat) : List (κ × D) → Bool
  | [] => true
  | (_, d) :: l => d.lo n && loK n l
theorem RepK.low {κ : Type} {l : List (κ × D)} {vs : List (κ × V)} : RepK κ K mg w l vs → loK w.al.length l = true
  | .nil => rfl
  | .cons r t => by rw [loK, Bool.and_eq_true]; exact ⟨r.low, RepK.low t⟩
theorem RepK.cutR {κ : Type} {n : Nat} {l : List (κ × D)} {vs : List (κ × V)} : RepK κ K mg w l vs → loK n l = true → RepK κ K mg (w.cut n) l vs
  | .nil, _ => .nil
  | .cons r t, h => by
    rw [loK, Bool.and_eq_true] at h
    exact .cons (r.cut h.1) (RepK.cutR t h.2)
theorem CellR.cut {w1 : Wo} {n : Nat} {a a' : Addr} {c : Cell} (h : CellR K mg w a c) (h0 : CellR K mg w1 a' c) (hn : w1.al.length = n) : CellR K mg (w.cut n) a c := by
  subst hn
  cases c with
  | dead => trivial
  | lst l => obtain ⟨vs, p, r⟩ := h; obtain ⟨_, _, r0⟩ := h0; exact ⟨vs, p, r.cutR r0.low⟩
  | dk l => obtain ⟨vs, p, r⟩ := h; obtain ⟨_, _, r0⟩ := h0; exact ⟨vs, p, r.cutR r0.low⟩
  | fk l => obtain ⟨o, vs, p, r⟩ := h; obtain ⟨_, _, _, r0⟩ := h0; exact ⟨o, vs, p, r.cutR r0.low⟩
  | ts l => obtain ⟨h1, h2, xs, h3, h4, h5⟩ := h; exact ⟨h1, h2, xs, h3, h4, fun x hx => (h5 x hx).imp (fun q => q.cut) id⟩
  | fs l => obtain ⟨h1, h2, o, xs, h3, h4, h5⟩ := h; exact ⟨h1, h2, o, xs, h3, h4, fun x hx => (h5 x hx).imp (fun q => q.cut) id⟩
  | obj c l => obtain ⟨C, dx, gs, g, p, r⟩ := h; obtain ⟨_, _, _, _, _, r0⟩ := h0; exact ⟨C, dx, gs, g, p, r.cutR r0.low⟩
  | tbl _ q =>
    obtain ⟨ea, ps, p, t, r⟩ := h
    refine ⟨ea, ps, p, t, fun pos cv hc => ?_⟩
    obtain ⟨c, o, e1, e2, e3⟩ := r pos cv hc
    exact ⟨c, o, e1, e2, fun z => e3 (cut_zz z)⟩
theorem Rep.cut {w1 : Wo} (R1 : Rep K mg w1) (X : Ext w1 w) (R : Rep K mg w) (hs : w.st.take w1.st.length = w1.st) : Rep K mg (w.cut w1.al.length) := by
  obtain ⟨t, e⟩ := X.al
  have el : w.al.take w1.al.length = w1.al := by rw [e]; simp
  have es : w.st.take w1.al.length = w1.st := by rw [R1.len]; exact hs
  refine ⟨?_, ?_, fun a h => ?_, fun m a c g1 g2 => ?_, fun a h => ?_⟩
  · show (w.al.take _).length = (w.st.take _).length
    rw [el, es]; exact R1.len
  · show (w.al.take _).Nodup
    rw [el]; exact R1.nd
  · have h : a ∈ w.al.take w1.al.length := h
    exact R.tr a (mem_take h)
  · have g1 : (w.al.take w1.al.length)[m]? = some a := g1
    have g2 : (w.st.take w1.al.length)[m]? = some c := g2
    have c0 := R1.cell m a c (by rw [← el]; exact g1) (by rw [← es]; exact g2)
    exact (R.cell m a c (take_get g1) (take_get g2)).cut c0 rfl
  · obtain ⟨h1, h2⟩ := R.hid a h
    exact ⟨fun z => h1 (mem_take z), h2⟩
end
end G
namespace G
open PySem L2 PySem.Spec
theorem RoomG.make {k : Nat} {A : Around} (h : RoomG (k + 1) A) (C : Addr) (us : List Value) (kw : List (Str × Value)) : RoomG k (A.under (.builtin "type.__call__" ⟨.ref C :: us, kw⟩)) := ⟨h.r.make C us kw, fun q => by
  have := h.gd (Nat.le_succ_of_le q)
  first
    | exact this
    | simpa [Around.under] using this⟩
section
variable {X : Cx} {W : WX} {k n : Nat} {f C : Addr} {fd : FuncData} {ps ks : List Str} {sp : Sp} {E : St → XK} {g : List Value → List Value → List Value} {gV : List V → List V → List V}
theorem run_mkG {pins : List (Addr × Obj)} {σ : St} {H : Hp} {s : Shared} {Q : VK} {us ws : List Value} {vs zs : List V} (M : Mk X.K C f) (F : FnG X.prog X.w X.K X.mg X.base k f fd ps sp) (hr : RoomG (k + 1) X.A) (hb : KBn X.K fd ps (n + 1) ks g gV)
    (hx : PassesAt (L2.CX X.prog X.w) X σ (E σ)) (I : L2.Inv X pins σ H s) (r : Vals vs us) (rz : Vals zs ws) (l1 : vs.length = n) (l2 : zs.length = ks.length)
    (h : ∀ x dx, H x = none → H dx = none → dx ≠ x → sp (gV (.ref x :: vs) zs) (upd (upd H dx (.own x)) x (.ins C dx [])) (fun v H2 => v = .non ∧ Q (.ref x) H2) (E σ)) :
    wpAny (model X.prog X.w) X.A (call (.ref C) us (ks.zip ws)) (EP X pins σ Q) X.xe s := by
  have hq := h (s.heap.objs.size + 1) s.heap.objs.size (I.hok.fresh (Nat.le_succ _)) (I.hok.fresh (Nat.le_refl _)) (Nat.ne_of_lt (Nat.lt_succ_self _))
  have I2 := Inv.made (C := C) I
  have r1 : Vals (V.ref (s.heap.objs.size + 1) :: vs) (Value.ref (s.heap.objs.size + 1) :: us) := .cons rfl r
  have r2 := hb.rel r1 rz
  have e1 : (Value.ref (s.heap.objs.size + 1) :: us).length = n + 1 := r1.length.symm.trans (congrArg Nat.succ l1)
  have e2 : ws.length = ks.length := rz.length.symm.trans l2
  refine wpAny_call (make_map (f := f) I.kIn M.makes M.init (beq_iff_eq.mp M.fn) (codeAny_mono (F.run _ X.stack _ _ ⟨Value.ref (s.heap.objs.size + 1) :: us, ks.zip ws⟩ (g (Value.ref (s.heap.objs.size + 1) :: us) ws) _ _ (E σ) (hr.make C us (ks.zip ws))
    (I2.env0.make C us (ks.zip ws)) (hb.to _ (Value.ref (s.heap.objs.size + 1) :: us) ws I2.kIn e1 e2) r2 hq) fun r s' hq' => ?_))
  cases r with
  | error e => exact hx pins _ _ e s' I2 hq'
  | ok fl =>
    cases fl with
    | ret u =>
      obtain ⟨v, H', I3, rv, ev, q3⟩ := I2.after hq'
      subst ev
      exact ⟨rv, ⟨V.ref (s.heap.objs.size + 1), H', I3, rfl, q3⟩⟩
    | next => exact False.elim hq'
    | brk => exact False.elim hq'
    | cont => exact False.elim hq'
end
structure Dm (P : Program) (w0 : World) (K : PySem.W.Frag) (mg : Str → Option Value) (base : Heap) (cn : Nat) (ps : List Str) (k n : Nat) (ks : List Str) (gD : List D → List D → List D) (m : FM) : Prop where
  ex : ∃ C f fd g gV, mg (cname cn) = some (.ref C) ∧ Mk K C f ∧ KBn K fd ps (n + 1) ks g gV ∧ (∀ w ds vs es zs, RepL K mg w ds vs → RepL K mg w es zs → ds.length = n + 1 → es.length = ks.length → RepL K mg w (gD ds es) (gV vs zs) ∧ (gV vs zs).length = ps.length) ∧ FnG P w0 K mg base k f fd ps (spM K mg ps.length m)
open Classical in
noncomputable def endI (cn : Nat) (S : Store) : Res D → Res D
  | .ok .non S2 => match S2.drop S.length with
    | [.obj c fs] => if c = cn ∧ S2.take S.length = S ∧ loF S.length fs = true then .ok (.ins cn fs) S else .stuck
    | _ => .stuck
  | .exc x S2 => if S2.take S.length = S ∧ x.lo S.length = true then .exc x S else .stuck
  | _ => .stuck
noncomputable def mkI (cn : Nat) (f : FM) (gD : List D → List D → List D) (ds zs : List D) (S : Store) : Res D := endI cn S (f (gD (.loc S.length :: ds) zs) (S ++ [.obj cn []]))
section
variable {K : PySem.W.Frag} {mg : Str → Option Value}
def Wo.mk1 (w : Wo) (x dx C : Addr) (cn : Nat) : Wo := (w.put dx (.own x)).new x (.ins C dx []) (.obj cn [])
theorem mk1_none {w : Wo} {x dx : Addr} (hx : w.hp x = none) (ne : dx ≠ x) : (w.put dx (.own x)).hp x = none := by
  show upd w.hp dx _ x = _
  rw [upd_ne (Ne.symm ne)]; exact hx
theorem mk1_ext {w : Wo} (R : Rep K mg w) {x dx C : Addr} {cn : Nat} (hx : w.hp x = none) (hd : w.hp dx = none) (ne : dx ≠ x) : Ext w (w.mk1 x dx C cn) :=
  (put_ext R hd).trans (new_ext (R.put hd) (mk1_none hx ne))
theorem mk1_rep {w : Wo} (R : Rep K mg w) {x dx C : Addr} {cn : Nat} (hx : w.hp x = none) (hd : w.hp dx = none) (ne : dx ≠ x) (g : mg (cname cn) = some (.ref C)) : Rep K mg (w.mk1 x dx C cn) :=
  (R.put hd).new (mk1_none hx ne) ⟨C, dx, [], g, upd_same, .nil⟩
theorem mk1_get {w : Wo} (R : Rep K mg w) {x dx C : Addr} {cn : Nat} (hd : w.hp dx = none) : (w.mk1 x dx C cn).al[w.st.length]? = some x := new_get (R.put hd)
theorem drop_one {α : Type} {l : List α} {n : Nat} {c : α} (h : l.drop n = [c]) : l[n]? = some c ∧ l.length = n + 1 := by
  have e : l[n]? = (l.drop n)[0]? := by rw [List.getElem?_drop]; rfl
  refine ⟨by rw [e, h]; rfl, ?_⟩
  have := congrArg List.length h
  rw [List.length_drop] at this
  simp at this
  omega
theorem post_mkI {w : Wo} (R : Rep K mg w) {x dx C : Addr} {cn : Nat} {r : Res D} {Q : VK} {E : XK} (hx : w.hp x = none) (hd : w.hp dx = none) (ne : dx ≠ x) (P : Post (RepD K mg) K mg w (endI cn w.st r) Q E) :
    Post (RepD K mg) K mg (w.mk1 x dx C cn) r (fun v H2 => v = .non ∧ Q (.ref x) H2) E := by
  have X1 := mk1_ext (C := C) (cn := cn) R hx hd ne
  cases r with
  | stuck => exact P
  | exc y S2 =>
    unfold endI at P
    dsimp only at P
    split at P
    · rename_i hc
      obtain ⟨h1, h2⟩ := hc
      intro w2 cls dd X2 R2 st2 rx
      subst st2
      have X12 := X1.trans X2
      have e : w.al.length = w.st.length := R.len
      refine P (w2.cut w.al.length) cls dd (cut_ext X12) (Rep.cut R X12 R2 h1) ?_ ?_
      · show w2.st.take w.al.length = w.st
        rw [e]; exact h1
      · obtain ⟨c, C', fs, gs, rfl, k1, k2, k3, k4⟩ := rx
        rw [D.lo] at h2
        rw [e]
        exact ⟨c, C', fs, gs, rfl, k1, k2, k3.imp id fun ⟨z, y, q, s⟩ => ⟨z, y, q, s.cut⟩, k4.cutR h2⟩
    · exact False.elim P
  | ok d S2 =>
    cases d with
    | non =>
      unfold endI at P
      dsimp only at P
      split at P
      · rename_i c fs hdr
        split at P
        · rename_i hc
          obtain ⟨h0, h1, h2⟩ := hc
          subst h0
          intro w2 v X2 R2 st2 rv
          cases rv
          subst st2
          refine ⟨rfl, ?_⟩
          have X12 := X1.trans X2
          have e : w.al.length = w.st.length := R.len
          obtain ⟨g1, g2⟩ := drop_one hdr
          have hal := X2.get (mk1_get (C := C) (cn := c) R hd (x := x))
          have gz : ∀ c, w2.st[w.st.length]? = some c → c.frz = false := fun c h => by
            rw [g1] at h; cases h; rfl
          have Xk := kill_ext R2 w.st.length gz
          have Rk := R2.kill w.st.length gz
          have X3 := X12.trans Xk
          have hs : (w2.kill w.st.length).st.take w.st.length = w.st := by
            show (w2.st.set w.st.length .dead).take w.st.length = _
            rw [List.take_set_of_le (Nat.le_refl _)]; exact h1
          obtain ⟨C', dx', gs, k1, k2, k3⟩ := R2.cell _ _ _ hal g1
          refine P ((w2.kill w.st.length).cut w.al.length) (.ref x) (cut_ext X3) (Rep.cut R X3 Rk hs) ?_ ?_
          · show (w2.kill w.st.length).st.take w.al.length = w.st
            rw [e]; exact hs
          · rw [e]
            exact .ins k1 (kill_st R2 hal k2).cut ((k3.ext Xk.toEx0).cutR h2)
        · exact False.elim P
      · exact False.elim P
    | _ => exact False.elim P
end
section
variable {X : Cx} {W : WX} {a b c e o : Expr} {es : List Expr} {ma mb mc me : EM} {ta tb : TM} {pos : Pos} {x : Str} {p : Pos} {j k cn n : Nat} {ps ks : List Str} {f : FM} {gD : List D → List D → List D}
def eMk (mk' : List D → List D → Store → Res D) (n l : Nat) (m mk : AM) : EM := fun e S => (m e S).bind fun ds S1 => (mk e S1).bind fun zs S2 => if ds.length = n ∧ zs.length = l then mk' ds zs S2 else .stuck
theorem re_mkCore {kws : List Keyword} {m mk : AM} {en1 : Nat → Store → Res D → Res D} (hen : ∀ {w : Wo} (R : Rep X.K X.mg w) {x dx C : Addr} {r : Res D} {Q : VK} {E : XK}, w.hp x = none → w.hp dx = none → dx ≠ x → Post (RepD X.K X.mg) X.K X.mg w (en1 cn w.st r) Q E →
      Post (RepD X.K X.mg) X.K X.mg (w.mk1 x dx C cn) r (fun v H2 => v = .non ∧ Q (.ref x) H2) E)
    (c : Cg X W k) (hF : Dm X.prog X.w X.K X.mg X.base cn ps j n ks gD f) (hj : j + 1 ≤ k) (ha : RA X W (e :: es) m) (hkw : RK X W kws mk) (hx : cname cn = x := by rfl) (hg : Gl X x := by rfl)
    (hall : (backToKw pos (keywordEach kws X.env)).all (·.1.isSome) = true := by rfl) (hks : (backToKw pos (keywordEach kws X.env)).filterMap (·.1) = ks := by rfl)
    (hdb : (x == ("__debug__" : Str)) = false := by decide) (he : starEach (e :: es) X.env = (false, eval e X.env) :: starEach es X.env := by rfl)
    (hpl : ((backTo pos (starEach (e :: es) X.env)).any (·.1) || (backToKw pos (keywordEach kws X.env)).any (·.1.isNone)) = false := by rfl) :
    RE X W (.Call (.Name x p) (e :: es) kws pos) (eMk (fun ds zs S => en1 cn S (f (gD (.loc S.length :: ds) zs) (S ++ [.obj cn []]))) n ks.length m mk) := by
  obtain ⟨C, fa, fd, g, gV, h1, h2, h3, hR, h4⟩ := hF.ex
  subst hx
  refine ⟨fun pins s σ H Q I h => ?_⟩
  obtain ⟨w, en, rfl, R, E, P⟩ := h
  refine wpAny_Call_Name_kw (ld_glob I hg h1 ?_ hdb)
  refine PySem.W.callWith_KW (h₀ := X.base) I.ok.mod.kin h2.kp hall (thn (ha.run pos pins s σ w.hp _ I ⟨w, en, rfl, R, E, Post.bind P⟩) fun us s1 hu => ?_) hpl he
  obtain ⟨vs, H1, I1, r, w1, ds, rfl, X1, R1, rl, P1⟩ := hu
  refine thn (hkw.run pos pins s1 σ w1.hp _ I1 ⟨w1, en, rfl, R1, E.ext X1.toEx0, Post.bind P1⟩) fun ws s2 hu => ?_
  obtain ⟨zs, H2, I2, rz, w2, es2, rfl, X2, R2, rl2, P2⟩ := hu
  refine ⟨I2.kIn, ?_⟩
  rw [hks]
  dsimp only at P2
  split at P2
  · rename_i hl
    refine run_mkG (E := WE W) h2 h4 (c.rm.mono hj) h3 (passAt c.tk σ) I2 r rz (by rw [← rl.length]; exact hl.1) (by rw [← rl2.length]; exact hl.2) fun xx dx hx hd ne => ?_
    have X3 := mk1_ext (C := C) (cn := cn) R2 hx hd ne
    obtain ⟨q1, q2⟩ := hR (w2.mk1 xx dx C cn) (.loc w2.st.length :: ds) (.ref xx :: vs) es2 zs (.cons (.loc (mk1_get R2 hd)) ((rl.ext X2.toEx0).ext X3.toEx0)) (rl2.ext X3.toEx0) (by rw [List.length_cons, hl.1]) hl.2
    exact ⟨q2, w2.mk1 xx dx C cn, _, rfl, mk1_rep R2 hx hd ne h1, q1, hen R2 hx hd ne P2⟩
  · exact False.elim P2
theorem re_mkI {kws : List Keyword} {m mk : AM} (c : Cg X W k) (hF : Dm X.prog X.w X.K X.mg X.base cn ps j n ks gD f) (hj : j + 1 ≤ k) (ha : RA X W (e :: es) m) (hkw : RK X W kws mk) (hx : cname cn = x := by rfl) (hg : Gl X x := by rfl)
    (hall : (backToKw pos (keywordEach kws X.env)).all (·.1.isSome) = true := by rfl) (hks : (backToKw pos (keywordEach kws X.env)).filterMap (·.1) = ks := by rfl)
    (hdb : (x == ("__debug__" : Str)) = false := by decide) (he : starEach (e :: es) X.env = (false, eval e X.env) :: starEach es X.env := by rfl)
    (hpl : ((backTo pos (starEach (e :: es) X.env)).any (·.1) || (backToKw pos (keywordEach kws X.env)).any (·.1.isNone)) = false := by rfl) :
    RE X W (.Call (.Name x p) (e :: es) kws pos) (eMk (mkI cn f gD) n ks.length m mk) :=
  re_mkCore (en1 := endI) (@fun _ R _ _ _ _ _ _ hx hd ne P => post_mkI R hx hd ne P) c hF hj ha hkw hx hg hall hks hdb he hpl
def eMk0 (mk' : List D → List D → Store → Res D) : EM := fun _ S => mk' [] [] S
end
end G
namespace G
open PySem L2 PySem.Spec RZ
section
variable {X : Cx} {W : WX} {a b c e o : Expr} {es : List Expr} {ma mb mc me : EM} {ta tb : TM} {pos : Pos} {x : Str} {p : Pos} {j k : Nat}
variable {K : PySem.W.Frag} {mg : Str → Option Value} {w : Wo}
def zipD (l m : List D) : List D := List.zipWith (fun x y => .tup [x, y]) l m
def zipR (ds : List D) (S : Store) : Res (List D) := match ds with
  | [.tup l, .tup m] => .ok (zipD l m) S
  | [.lst l, .lst m] => .ok (zipD l m) S
  | _ => .stuck
def iZip (m : AM) : AM := fun e S => (m e S).bind zipR
def signs (x : Str) : List D := x.cps.toList.map fun c => .str ⟨#[c]⟩
def strR (d : D) (S : Store) : Res (List D) := match d with
  | .str x => .ok (signs x) S
  | _ => .stuck
def iStrM (m : EM) : AM := fun e S => (m e S).bind strR
theorem its_str (x : Str) : ItsR X w (signs x) (Its x) := by
  intro w2 x2 _ R2
  have hl : (signs x).length = x.cps.size := by unfold signs; simp
  refine ⟨fun i hi => ⟨?_, fun v H' y => ?_⟩, ?_⟩
  · rw [hl] at hi; exact hi
  · obtain ⟨rfl, c, hc, rfl⟩ := y
    refine ⟨w2, .str ⟨#[c]⟩, rfl, Ext.refl w2, R2, rfl, rfl, ?_, .str _⟩
    unfold signs
    rw [List.getElem?_map, Array.getElem?_toList, hc]; rfl
  · show x.cps.size ≤ (signs x).length
    rw [hl]; exact Nat.le_refl _
theorem ri_str {tg : Expr} (ha : RE X W a ma) : RI X W tg a (iStrM ma) := by
  refine ⟨fun pins s σ H R' I h => (pi_str ha).run pins s σ H R' I ?_⟩
  obtain ⟨w, en, rfl, R, E, P⟩ := h
  refine ⟨w, en, rfl, R, E, (Post.bind P).imp ?_⟩
  rintro v H1 ⟨w1, d, rfl, X1, R1, rx, P1⟩
  unfold strR at P1
  split at P1
  · cases rx; exact ⟨_, rfl, Post.now P1 R1 (its_str _)⟩
  · exact False.elim P1
def appR (x : D) (xs : List D) (S : Store) : Res D := match x, xs with
  | .loc n, [y] => match S[n]? with
    | some (.lst l) => if l.length < sizeLine then .ok .non (S.set n (.lst (l ++ [y]))) else .stuck
    | _ => .stuck
  | _, _ => .stuck
def isLst (S : Store) (x : D) : Bool := (seqD S x).isSome
def eApp (a : EM) (m : AM) : EM := fun e S => (a e S).bind fun x S1 => if isLst S1 x then (m e S1).bind fun xs S2 => appR x xs S2 else .stuck
theorem re_app {m : AM} {apos : Pos} (ho : RE X W o ma) (ha : RA X W [e] m) (hbase : attributeBase o "append" X.env (eval o X.env) = eval o X.env := by rfl)
    (hfew : ((backTo pos (starEach [e] X.env)).all (fun x => !x.1) && (backToKw pos (keywordEach [] X.env)).all (fun x => x.1.isSome) && decide ([e].length + ([] : List Keyword).length + (if ([] : List Keyword).isEmpty then 0 else 1) < 30)) = true := by rfl)
    (hline : (apos.endLine == pos.line) = true := by rfl) (hs : starEach [e] X.env = (false, eval e X.env) :: starEach [] X.env := by rfl) (hpl : (backTo pos (starEach [] X.env)).any (·.1) = false := by rfl) :
    RE X W (.Call (.Attribute o "append" apos) [e] [] pos) (eApp ma m) := by
  refine pe_imp (pe_bm PySem.F.plainAttrs_list PySem.F.slot_list_append PySem.F.type_list_append mt_append ho ha hbase hfew hline hs hpl) ?_
  rintro s H Q ⟨w, en, rfl, R, E, P⟩
  refine ⟨w, en, rfl, R, E, (Post.bind P).imp ?_⟩
  rintro v H1 ⟨w1, d, rfl, X1, R1, rd, P1⟩
  dsimp only at P1
  split at P1
  · rename_i hq
    unfold isLst at hq
    cases q : seqD w1.st d with
    | none => rw [q] at hq; cases hq
    | some l =>
      obtain ⟨ad, vs, rfl, hs, hl⟩ := rd.seq R1 q
      refine ⟨.inl ⟨rfl, _, hs⟩, w1, en, rfl, R1, E.ext X1.toEx0, (Post.bind P1).imp ?_⟩
      rintro us H2 ⟨w2, xs, rfl, X2, R2, rl, P2⟩
      have rd2 := rd.ext X2.toEx0
      dsimp only at P2
      unfold appR at P2
      split at P2
      · rename_i n y
        split at P2
        · rename_i l2 hl2
          split at P2
          · rename_i hz
            obtain ⟨u, rfl, ru⟩ := rl.one_inv
            cases rd2 with
            | loc hn =>
              obtain ⟨vs2, p2, r2⟩ := R2.cell _ _ _ hn hl2
              have Xw : Ext w2 (w2.wr n ad (.lst (vs2 ++ [u])) (.lst (l2 ++ [y]))) := wr_ext R2 hn hl2 (by intro z; cases z)
              refine ⟨ad, vs2, u, rfl, rfl, p2, by rw [← r2.length]; exact hz, ?_⟩
              exact P2 (w2.wr n ad (.lst (vs2 ++ [u])) (.lst (l2 ++ [y]))) .non Xw (R2.wr hn hl2 (by intro z; cases z) ⟨_, upd_same, (r2.append (.cons ru .nil)).ext Xw.toEx0⟩) rfl .non
          · exact False.elim P2
        · exact False.elim P2
      · exact False.elim P2
  · exact False.elim P1
def rsv (S : Store) : D → D
  | .loc n => match S[n]? with
    | some (.lst l) => .lst l
    | _ => .loc n
  | d => d
def lstOf (S : Store) (d : D) : Option (List D) := match rsv S d with
  | .lst l => some l
  | _ => none
theorem RepD.lstV {d : D} {v : V} {l : List D} (R : Rep K mg w) (h : RepD K mg w d v) (e : rsv w.st d = .lst l) : ∃ a vs, v = .ref a ∧ w.hp a = some (.lst vs) ∧ RepL K mg w l vs := by
  cases h with
  | lst s r => cases e; exact ⟨_, _, rfl, s.1, r⟩
  | @loc n a hn =>
    replace e : (match w.st[n]? with
      | some (.lst l) => .lst l
      | _ => .loc n) = D.lst l := e
    split at e
    · rename_i l' hl
      cases e
      obtain ⟨vs, p, r⟩ := R.cell _ _ _ hn hl
      exact ⟨_, vs, rfl, p, r⟩
    · cases e
  | _ => cases e
def dAddS (S : Store) (x y : D) : Option D := match rsv S x, rsv S y with
  | .lst l, .lst m => if l.length + m.length ≤ sizeLine then some (.lst (l ++ m)) else none
  | _, _ => dAdd x y
theorem om_addS : OpR X (binaryOp .Add) (OpMS X dAddS) := by
  intro pins s σ H x y v u Q I rx ry h
  obtain ⟨w, dx, dy, E, rfl, R, qx, qy, P⟩ := h
  unfold dAddS at P
  split at P
  · rename_i l m e1 e2
    split at P
    · rename_i hz
      obtain ⟨a1, vs, rfl, p1, r1⟩ := qx.lstV R e1
      obtain ⟨a2, us, rfl, p2, r2⟩ := qy.lstV R e2
      refine op_cat pins s σ w.hp _ _ v u Q I rx ry ⟨_, _, _, _, rfl, rfl, p1, p2, by rw [← r1.length, ← r2.length]; exact hz, fun p hp => ?_⟩
      exact Post.put P R hp (.lst (put_st R hp) ((r1.append r2).ext (put_ext R hp).toEx0))
    · exact False.elim P
  · exact om_add pins s σ w.hp _ _ v u Q I rx ry ⟨w, dx, dy, E, rfl, R, qx, qy, P⟩
theorem re_binS {op : Operator} {f : Store → D → D → Option D} (ho : OpR X (binaryOp op) (OpMS X f)) (ha : RE X W a ma) (hb : RE X W b mb) : RE X W (.BinOp a op b pos) (eBinS f ma mb) := pe_imp (pe_op ho ha hb) t_binS
def fDivmodW : Store → List D → Option D
  | _, [.int i, .int j] => if 0 < j ∧ j.natAbs.log2 < 9000 then some (.tup [.int (i / j), .int (i % j)]) else none
  | _, _ => none
theorem call_divmodW : CallR X (.builtin "divmod") (fun xs H Q => ∃ i j, xs = [.int i, .int j] ∧ (0 < j ∧ j.natAbs.log2 < 9000) ∧ ∀ p, H p = none → Q (.ref p) (upd H p (.tup [.int (i / j), .int (i % j)]))) := by
  intro pins s σ H xs us Q I r h
  obtain ⟨i, j, rfl, ⟨h1, h2⟩, q⟩ := h
  obtain ⟨u, w', rfl, ⟨t, rfl⟩, ⟨t', rfl⟩⟩ := vals2 r
  refine PyProof.Rows.divmod_int (by omega) ?_ (.inl (PyProof.noPylong_of_log2 h2))
  rw [Int.fdiv_eq_ediv_of_nonneg i (by omega), Int.fmod_eq_emod_of_nonneg i (by omega)]
  have hn : H s.heap.objs.size = none := I.hok.fresh (Nat.le_refl _)
  refine ⟨.ref s.heap.objs.size, _, ?_, rfl, q _ hn⟩
  refine I.laid (fun b o e => Heap.get?_push_of_some _ e) (Nat.le_refl _) ⟨by simp only [List.length_cons, List.length_nil]; rw [sizeLine_eq]; decide, [.int (i / j) s.toks, .int (i % j) (s.toks + 1)], .cons ⟨_, rfl⟩ (.cons ⟨_, rfl⟩ .nil), ?_⟩
  exact ⟨_, Heap.get?_push_size s.heap rfl, rfl, 0, rfl⟩
theorem cm_divmodW : CallR X (.builtin "divmod") (CaM X fDivmodW) := by
  intro pins s σ H xs us Q I r h
  obtain ⟨w, ds, E, rfl, R, q, P⟩ := h
  unfold fDivmodW at P
  split at P
  · split at P
    · rename_i hj
      obtain ⟨v, v', rfl, rv, rv'⟩ := q.two_inv
      cases rv; cases rv'
      exact call_divmodW pins s σ w.hp _ us Q I r ⟨_, _, rfl, hj, fun p hp => Post.put P R hp (.tup (.inl (put_st R hp).o) (.cons (.int _) (.cons (.int _) .nil)))⟩
    · exact False.elim P
  · exact False.elim P
def inS (i z : Str) : Bool := match i.cps.toList with
  | [c] => decide (c ∈ z.cps.toList)
  | _ => !(Builtin.Str.occurrences z i 0 z.length 1).isEmpty
theorem one_sign {i : Str} {c : Nat} (h : i.cps.toList = [c]) : i = ⟨#[c]⟩ := by
  obtain ⟨cps⟩ := i
  congr 1
  apply Array.ext'
  exact h
def dIn (neg : Bool) (S : Store) (x y : D) : Option D := match y with
  | .str z => match x with
    | .str i => some (.bl (if neg then !inS i z else inS i z))
    | _ => none
  | _ => none
theorem om_in : OpR X (compareOp .In) (OpMS X (dIn false)) := by
  intro pins s σ H x y v u Q I rx ry h
  obtain ⟨w, dx, dy, E, rfl, R, qx, qy, P⟩ := h
  unfold dIn at P
  split at P
  · split at P
    · rename_i z i
      cases qx; cases qy
      rw [if_neg Bool.false_ne_true] at P
      unfold inS at P
      split at P
      · rename_i ch hc
        have e := one_sign hc
        subst e
        exact op_in_sign pins s σ w.hp _ _ v u Q I rx ry ⟨_, _, rfl, rfl, Post.now P R (.bl _)⟩
      · exact op_in_str pins s σ w.hp _ _ v u Q I rx ry ⟨_, _, rfl, rfl, Post.now P R (.bl _)⟩
    · exact False.elim P
  · exact False.elim P
theorem re_cmpS {op : CmpOp} {f : Store → D → D → Option D} (ho : OpR X (compareOp op) (OpMS X f)) (ha : RE X W a ma) (hb : RE X W b mb) (hm : behindInMarks op b = false := by rfl) : RE X W (.Compare a [op] [b] pos) (eBinS f ma mb) := pe_imp (pe_cmpR ho ha hb hm) t_binS
theorem rt_cmpS {op : CmpOp} {f : Store → D → D → Option D} (ho : OpR X (compareOp op) (OpMS X f)) (ha : RE X W a ma) (hb : RE X W b mb) (hm : behindInMarks op b = false := by rfl) : RT X W (.Compare a [op] [b] pos) (tB (eBinS f ma mb)) := by
  refine pt_imp (pt_cmpR ho ha hb hm) ?_
  rintro s H Q ⟨w, en, rfl, R, E, P⟩
  refine t_binS s w.hp _ ⟨w, en, rfl, R, E, (Post.bind P).imp ?_⟩
  rintro v H1 ⟨w1, x, rfl, X1, R1, rx, P1⟩
  cases x with
  | bl b => cases rx; exact ⟨b, rfl, Post.now P1 R1 rfl⟩
  | _ => exact False.elim P1
end
end G
namespace G
open PySem L2 PySem.Spec PyProof.Rows
section
variable {K : PySem.W.Frag} {h : Heap} {mg : Str → Option Value}
theorem frees_cn (X : K.In h) (Y : h.Ns mainGlobals mg) {as : List Nat} (c : freesB (as.map cname) K = true) {n : Nat} (m : n ∈ as) : mg (cname n) = none :=
  PySem.W.mg_none_of X Y (He.eqO_ok (List.all_eq_true.mp c (cname n) (List.mem_map.mpr ⟨n, m, rfl⟩)))
end
structure ClsQ (K : PySem.W.Frag) (C : Addr) : Prop where
  cl : Cls K C
  ha : PySem.W.findIn K (.ref C) "__class__" = some (some (.builtin "object.__class__"))
  hn : PySem.W.specialIn K (.builtin "object.__class__") "__get__" = some (some (.builtin "getset_descriptor.__get__"))
  ht : PySem.W.takesIn K (.builtin "object.__class__") = some true
  hm : PySem.W.mroIn K C (.type "object") = some true
theorem clsqB_ok {K : PySem.W.Frag} {x : Str} (h : clsqB x K = true) : ClsQ K (He.ga K x) := by
  obtain ⟨c1, c⟩ := He.ba h
  obtain ⟨c2, c⟩ := He.ba c
  obtain ⟨c3, c⟩ := He.ba c
  obtain ⟨c4, c5⟩ := He.ba c
  exact ⟨He.cls_ok c1, He.eqO_ok c2, He.eqO_ok c3, of_decide_eq_true c4, of_decide_eq_true c5⟩
def ownCs : List Nat := [33, 34, 35, 36, 37, 38, 39, 40, 41, 42, 43, 44, 45, 46]
theorem mem_allTn (t : Tn) : t ∈ allTn := by cases t <;> simp [allTn]
structure Iso (K : PySem.W.Frag) (mg : Str → Option Value) (cn : Nat) (C : Addr) : Prop where
  ty : ∀ t : Tn, PySem.W.kitOne K (.type t.nm) (.ref C) = some false
  own : ∀ c' C', ownCs.contains c' = true → mg (cname c') = some (.ref C') → ClsQ K C' ∧ PySem.W.kitOne K (.ref C') (.ref C) = some (c' == cn)
def isO (cn : Nat) (S : Store) (d : D) : Option Bool := match tyD S d with
  | some _ => some false
  | none => match insD S d with
    | some (c, _) => if ownCs.contains c then some (c == cn) else none
    | none => none
section
variable {X : Cx} {W : WX} {a b c e o : Expr} {es : List Expr} {ma mb mc me : EM} {ta tb : TM} {pos : Pos} {x : Str} {p : Pos} {j k : Nat}
def eIsO (cn : Nat) (m : EM) : EM := fun e S => (m e S).bind fun x S1 => lf ((isO cn S1 x).map .bl) S1
theorem re_isO {T : Str} {p2 : Pos} {cn : Nat} {C : Addr} (hm : X.mg "isinstance" = none) (ha : RE X W a ma) (hT : PE X (.Name T p2) (tC (.ref C))) (hi : Iso X.K X.mg cn C) (hg : Gl X "isinstance" := by rfl)
    (he : starEach (a :: [.Name T p2]) X.env = (false, eval a X.env) :: starEach [.Name T p2] X.env := by rfl) (hpl : (backTo pos (starEach [.Name T p2] X.env)).any (·.1) = false := by rfl) (hs2 : starEach [.Name T p2] X.env = (false, eval (.Name T p2) X.env) :: starEach [] X.env := by rfl) :
    RE X W (.Call (.Name "isinstance" p) [a, .Name T p2] [] pos) (eIsO cn ma) := by
  refine pe_imp (pe_callB call_isi hg hm bt_isinstance (pa_cons ha (pa_cons hT pa_nil hs2) he) (by decide) (by decide) he hpl) ?_
  rintro s H Q ⟨w, en, rfl, R, E, P⟩
  refine ⟨w, en, rfl, R, E, (Post.bind P).imp ?_⟩
  rintro v H1 ⟨w1, d, rfl, X1, R1, rx, P1⟩
  dsimp only at P1
  unfold isO at P1
  cases q : tyD w1.st d with
  | some t =>
    rw [q] at P1
    exact ⟨v, .ref C, .type t.nm, .ref C, false, rfl, .own _, rx.tyX R1 q, hi.ty t, Post.now P1 R1 (.bl _)⟩
  | none =>
    rw [q] at P1
    dsimp only at P1
    cases q2 : insD w1.st d with
    | none => rw [q2] at P1; exact False.elim P1
    | some cf =>
      obtain ⟨c', fs⟩ := cf
      rw [q2] at P1
      dsimp only at P1
      split at P1
      · rename_i hc
        obtain ⟨ad, C', dx, gs, rfl, g, hp, rf⟩ := rx.insV R1 q2
        obtain ⟨k1, k2⟩ := hi.own c' C' hc g
        exact ⟨.ref ad, .ref C, .ref C', .ref C, c' == cn, rfl, .own _, .base (.ins hp k1.cl k1.ha k1.hn k1.ht k1.hm), k2, Post.now P1 R1 (.bl _)⟩
      · exact False.elim P1
end
section
variable {K : PySem.W.Frag} {h : Heap} {mg : Str → Option Value}
def coversO (ns as : List Nat) : Bool := ownCs.all fun n => ns.contains n || as.contains n
theorem owns_at (X : K.In h) (Y : h.Ns mainGlobals mg) {ns as : List Nat} (co : ownsB ns K = true) (ca : freesB (as.map cname) K = true) (cv : coversO ns as = true) {c : Nat} {C : Addr} (hc : ownCs.contains c = true) (hg : mg (cname c) = some (.ref C)) :
    c ∈ ns ∧ C = He.ga K (cname c) ∧ ClsQ K C := by
  have hm := List.all_eq_true.mp cv c (by simpa using hc)
  rw [Bool.or_eq_true] at hm
  rcases hm with hm | hm
  · have m2 : c ∈ ns := by simpa using hm
    obtain ⟨g1, g2⟩ := He.ba (List.all_eq_true.mp co c m2)
    have g := glo_one X Y g1
    rw [g] at hg
    cases hg
    exact ⟨m2, rfl, clsqB_ok g2⟩
  · rw [frees_cn X Y ca (by simpa using hm)] at hg
    cases hg
theorem clf_at (X : K.In h) (Y : h.Ns mainGlobals mg) {ns as cs : List Nat} {f : Nat} (co : ownsB ns K = true) (ca : freesB (as.map cname) K = true) (cv : coversO ns as = true) (cf : noatB f (ns.filter cs.contains) K = true) (hs : cs.all ownCs.contains = true) : ClF K mg cs f := by
  intro c C hc hg
  obtain ⟨m, rfl, q⟩ := owns_at X Y co ca cv (List.all_eq_true.mp hs c (by simpa using hc)) hg
  exact ⟨q.cl, He.noat_ok (List.all_eq_true.mp cf c (List.mem_filter.mpr ⟨m, hc⟩))⟩
theorem iso_at (X : K.In h) (Y : h.Ns mainGlobals mg) {ns as : List Nat} {cn : Nat} (co : ownsB ns K = true) (ca : freesB (as.map cname) K = true) (cv : coversO ns as = true) (ci : isoB cn ns K = true) : Iso K mg cn (He.ga K (cname cn)) := by
  obtain ⟨c1, c2⟩ := He.ba ci
  refine ⟨fun t => of_decide_eq_true (List.all_eq_true.mp c1 t (mem_allTn t)), fun c' C' hc hg => ?_⟩
  obtain ⟨m, rfl, q⟩ := owns_at X Y co ca cv hc hg
  have z := List.all_eq_true.mp c2 c' m
  exact ⟨q, of_decide_eq_true z⟩
theorem mkB_ok {x : Str} (c : mkB x K = true) : Mk K (He.ga K x) (He.fAd K (x, some "__init__")) := He.mkr_ok c
theorem mtB_ok {x m : Str} (c : mtB x m K = true) : Meth K (He.ga K x) m (He.fAd K (x, some m)) := He.meth_ok c
end
end G
namespace G
open PySem L2 PySem.Spec PyProof.Rows
section
variable {prog : Program} {w : World} {A : Around} {E : Value → Shared → Prop} {s : Shared}
theorem walks_tupFrom (hh : A.handled = none) {I t : Addr} (hne : t ≠ I) (items : Array Value) (i : Nat) (hi : i ≤ items.size) :
    WalksS prog w A I [I, t] [I] (fun a b => a = b) (items.size - i) (fun j v => items[i + j]? = some v) (fun j s => s.heap.IsTupleIter I t (i + j) ∧ s.heap.IsTuple t items) where
  sub := fun b hb => by simp at hb; simp [hb]
  grefl := fun _ => rfl
  gtrans := fun _ _ _ h1 h2 => h1.trans h2
  frame := fun j s h' tk st _ hk => ⟨st.1.at fun o e => hk I (by simp) o e, st.2.at fun o e => hk t (by simp) o e⟩
  item := fun j s Q E hj st hQ => by
    have hlt : i + j < items.size := by omega
    refine wpAny_pyNext_tuple_item st.1 st.2 (x := items[i + j]) (by simp [hlt]) fun h' hit' hs' => ?_
    exact hQ _ _ (by simp [hlt]) ⟨by rw [← Nat.add_assoc]; exact hit', st.2.extBut hs'.extBut hne⟩ ⟨fun b o hb e => hs'.extBut b o (fun h => hb (by simp [h])) e, rfl, rfl, rfl, Nat.le_refl _⟩
  done := fun s Q E st hQ => by
    refine wpAny_pyNext_tuple_end hh st.1 st.2 (by simp; omega) fun h' he' => hQ _ ⟨fun b o hb e => he' b o (fun h => hb (by simp [h])) e, rfl, rfl, rfl, Nat.le_refl _⟩
  self := fun _ _ _ _ st hQ => wpAny_pyIter_tupleiter st.1 hQ
theorem walks_lstFrom (hh : A.handled = none) {I t : Addr} (hne : t ≠ I) (items : Array Value) (i : Nat) (hi : i ≤ items.size) :
    WalksS prog w A I [I, t] [I] (fun a b => a = b) (items.size - i) (fun j v => items[i + j]? = some v) (fun j s => s.heap.IsListIter I t (i + j) ∧ s.heap.IsList t items) where
  sub := fun b hb => by simp at hb; simp [hb]
  grefl := fun _ => rfl
  gtrans := fun _ _ _ h1 h2 => h1.trans h2
  frame := fun j s h' tk st _ hk => ⟨st.1.at fun o e => hk I (by simp) o e, st.2.at fun o e => hk t (by simp) o e⟩
  item := fun j s Q E hj st hQ => by
    have hlt : i + j < items.size := by omega
    refine wpAny_pyNext_list_item st.1 st.2 (x := items[i + j]) (by simp [hlt]) fun h' hit' hs' => ?_
    exact hQ _ _ (by simp [hlt]) ⟨by rw [← Nat.add_assoc]; exact hit', st.2.extBut hs'.extBut hne⟩ ⟨fun b o hb e => hs'.extBut b o (fun h => hb (by simp [h])) e, rfl, rfl, rfl, Nat.le_refl _⟩
  done := fun s Q E st hQ => by
    refine wpAny_pyNext_list_end hh st.1 st.2 (by simp; omega) fun h' he' => hQ _ ⟨fun b o hb e => he' b o (fun h => hb (by simp [h])) e, rfl, rfl, rfl, Nat.le_refl _⟩
  self := fun _ _ _ _ st hQ => wpAny_pyIter_listiter st.1 hQ
theorem items_all {P : Nat → Value → Prop} {acc : Array Value} {n : Nat} {xs : List Value} (h : ItemsOf P acc n) (hx : xs.length = n) (hp : ∀ j v, P j v → xs[j]? = some v) : acc.toList = xs := by
  obtain ⟨h1, h2⟩ := h
  apply List.ext_getElem?
  intro j
  by_cases hj : j < acc.size
  · have e : acc[j]? = some acc[j] := by simp [hj]
    rw [Array.getElem?_toList, e]
    exact (hp j _ (h2 j _ e)).symm
  · rw [List.getElem?_eq_none (by simpa using hj), List.getElem?_eq_none (by omega)]
theorem drop_get {items : Array Value} {i j : Nat} {v : Value} (h : items[i + j]? = some v) : (items.toList.drop i)[j]? = some v := by
  rw [List.getElem?_drop, Array.getElem?_toList]; exact h
def StarQ (s : Shared) (items : Array Value) (i : Nat) (Q : List Value → Shared → Prop) : Prop := ∀ (h' : Heap) (tk : Nat), (∀ b o, s.heap.get? b = some o → h'.get? b = some o) →
  Q (items.toList.take i ++ [.ref h'.objs.size]) { s with heap := h'.push { cls := .type "list", data := .seq (items.toList.drop i).toArray }, toks := tk }
theorem star_tail {it : Addr} {items : Array Value} {i : Nat} {Q : List Value → Shared → Prop} {s1 : Shared} {St : Nat → Shared → Prop} {t : Addr} {T : String} (hTm : T = "str_ascii_iterator" ∨ T = "str_iterator" ∨ T = "list_iterator" ∨ T = "tuple_iterator")
    (W : WalksS prog w A.in1 it [it, t] [it] (fun a b => a = b) (items.size - i) (fun j v => items[i + j]? = some v) St) (hT : ∀ i s, St i s → s.TypeIs (.ref it) T) (hst : St 0 s1) (hi : i ≤ items.size) (hz : items.size ≤ sizeLine) (hit : s.heap.objs.size = it) (hlt : it < s1.heap.objs.size) (ht : t < s1.heap.objs.size)
    (k1 : ∀ b o, s.heap.get? b = some o → s1.heap.get? b = some o) (e1 : s1 = { s with heap := s1.heap }) (hQ : StarQ s items i Q) :
    wpAny (model prog w) A (do
      let rest ← holding (items.toList.take i) (collect (.ref it))
      let after := i + 1 - 1 - i
      if rest.length < after then
        rule "unpack.star.too-few"
        raiseError "ValueError" s!"not enough values to unpack (expected at least {i + 1 - 1}, got {i + rest.length})"
      let mid := rest.length - after
      return items.toList.take i ++ [← newList (rest.take mid)] ++ rest.drop mid) Q E s1 := by
  refine wpAny_bind (wpAny_holding (wpAny_collect_iter hTm W hT hst (fun b hb => ?_) (by simp) (fun s2 acc hm ha => ?_) (by omega)))
  · simp at hb
    rcases hb with rfl | rfl
    · exact hlt
    · exact ht
  · have e : acc.toList = items.toList.drop i := items_all ha (by simp) fun j v => drop_get
    rw [e]
    dsimp only
    rw [if_neg (by omega)]
    have e2 : (items.toList.drop i).length - (i + 1 - 1 - i) = (items.toList.drop i).length := by omega
    rw [e2, List.take_length, List.drop_length]
    have hs2 : s2 = { s with heap := s2.heap, toks := s2.toks } := by
      obtain ⟨_, g, d, o, _⟩ := hm
      obtain ⟨h2, g2, d2, t2, o2⟩ := s2
      rw [e1] at g d o
      dsimp only at g d o ⊢
      subst g d o
      rfl
    have kk : ∀ b o, s.heap.get? b = some o → s2.heap.get? b = some o := fun b o hb => hm.heap b o (by
      simp only [List.mem_cons, List.not_mem_nil, or_false]
      intro z
      exact Nat.ne_of_lt (hit ▸ Heap.lt_size hb) z) (k1 b o hb)
    rw [hs2]
    unfold newList
    refine wpAny_bind (wpAny_newObj_type ?_ (by show (items.toList.drop i).toArray.size ≤ sizeLine; rw [List.size_toArray, List.length_drop]; simp only [Array.length_toList]; omega))
    rw [List.append_nil]
    exact wpAny_pure (hQ s2.heap s2.toks kk)
theorem star_tup {t : Addr} {items : Array Value} {i : Nat} {Q : List Value → Shared → Prop} (hh : A.handled = none) (ht : s.heap.IsTuple t items) (hi : i ≤ items.size) (hz : items.size ≤ sizeLine) (hQ : StarQ s items i Q) : wpAny (model prog w) A (unpackItems (.ref t) (i + 1) (some i)) Q E s := by
  have hlt : t < s.heap.objs.size := by obtain ⟨o, ho, _⟩ := ht; exact Heap.lt_size ho
  have hne : t ≠ s.heap.objs.size := Nat.ne_of_lt hlt
  unfold unpackItems
  refine wpAny_bind ?_
  unfold notIterableAtAll
  refine wpAny_bind (wpAny_specialOf ht.typeIs F.slot_tuple_iter.lookup ?_)
  refine wpAny_pure ?_
  simp only [Bool.false_eq_true, if_false]
  refine wpAny_bind (wpAny_holding (wpAny_pyIter_tuple ht ?_))
  refine wpAny_bind (wpAny_holding (wpAny_draw_tuple hne i 0 _ _ ⟨_, Heap.get?_push_size _ rfl, rfl, rfl⟩ (ht.push _) (by omega) fun h1 hit1 hs1 => ?_))
  rw [List.drop_zero, if_neg (by simp; omega)]
  have ht1 : h1.IsTuple t items := (ht.push _).extBut hs1.extBut hne
  have hl1 : s.heap.objs.size < h1.objs.size := by
    rw [hs1.1]
    simp [Heap.push]
  refine star_tail (s := s) (t := t) (T := "tuple_iterator") (St := fun j s' => s'.heap.IsTupleIter s.heap.objs.size t (i + j) ∧ s'.heap.IsTuple t items) (by simp) (walks_tupFrom (A := A.in1) hh hne items i hi) (fun j s hs => ?_) ⟨?_, ht1⟩ hi hz rfl hl1 (Nat.lt_trans hlt hl1) (fun b o hb => ?_) rfl hQ
  · obtain ⟨o, e, c, d⟩ := hs.1
    exact ⟨o, e, c⟩
  · simpa using hit1
  · exact hs1.extBut b o (Nat.ne_of_lt (Heap.lt_size hb)) (Heap.get?_push_of_some _ hb)
theorem draw_lst {it t : Addr} {items : Array Value} (hne : t ≠ it) : ∀ (n i : Nat) (s : Shared) (Q : List Value → Shared → Prop), s.heap.IsListIter it t i → s.heap.IsList t items → i + n ≤ items.size →
    (∀ h', h'.IsListIter it t (i + n) → Heap.SameBut it s.heap h' → Q ((items.toList.drop i).take n) { s with heap := h' }) → wpAny (model prog w) A (draw (.ref it) n) Q E s
  | 0, i, s, Q, hit, _, _, hQ => by
    show wpAny _ _ (pure []) Q E s
    exact wpAny_pure (by simpa using hQ s.heap hit (Heap.SameBut.refl ..))
  | n + 1, i, s, Q, hit, ht, hle, hQ => by
    have hlt : i < items.size := by omega
    show wpAny _ _ (pyNext (.ref it) >>= _) Q E s
    refine wpAny_bind (wpAny_pyNext_list_item hit ht (x := items[i]) (by simp [hlt]) fun h₁ hit₁ hs₁ => ?_)
    refine wpAny_bind (wpAny_holding (draw_lst hne n (i + 1) _ _ hit₁ (ht.extBut hs₁.extBut hne) (by omega) fun h₂ hit₂ hs₂ => wpAny_pure ?_))
    have hd : items.toList.drop i = items[i] :: items.toList.drop (i + 1) := by simp [List.drop_eq_getElem_cons, hlt]
    have := hQ h₂ (by rw [show i + (n + 1) = i + 1 + n by omega]; exact hit₂) (hs₁.trans hs₂)
    rw [hd, List.take_succ_cons] at this
    exact this
theorem star_lst {t : Addr} {items : Array Value} {i : Nat} {Q : List Value → Shared → Prop} (hh : A.handled = none) (ht : s.heap.IsList t items) (hi : i ≤ items.size) (hz : items.size ≤ sizeLine) (hQ : StarQ s items i Q) : wpAny (model prog w) A (unpackItems (.ref t) (i + 1) (some i)) Q E s := by
  have hlt : t < s.heap.objs.size := by obtain ⟨o, ho, _⟩ := ht; exact Heap.lt_size ho
  have hne : t ≠ s.heap.objs.size := Nat.ne_of_lt hlt
  unfold unpackItems
  refine wpAny_bind ?_
  unfold notIterableAtAll
  refine wpAny_bind (wpAny_specialOf ht.typeIs F.slot_list_iter.lookup ?_)
  refine wpAny_pure ?_
  simp only [Bool.false_eq_true, if_false]
  refine wpAny_bind (wpAny_holding (wpAny_pyIter_list ht ?_))
  refine wpAny_bind (wpAny_holding (draw_lst hne i 0 _ _ ⟨_, Heap.get?_push_size _ rfl, rfl, rfl⟩ (ht.push _) (by omega) fun h1 hit1 hs1 => ?_))
  rw [List.drop_zero, if_neg (by simp; omega)]
  have ht1 : h1.IsList t items := (ht.push _).extBut hs1.extBut hne
  have hl1 : s.heap.objs.size < h1.objs.size := by
    rw [hs1.1]
    simp [Heap.push]
  refine star_tail (s := s) (t := t) (T := "list_iterator") (St := fun j s' => s'.heap.IsListIter s.heap.objs.size t (i + j) ∧ s'.heap.IsList t items) (by simp) (walks_lstFrom (A := A.in1) hh hne items i hi) (fun j s hs => ?_) ⟨?_, ht1⟩ hi hz rfl hl1 (Nat.lt_trans hlt hl1) (fun b o hb => ?_) rfl hQ
  · obtain ⟨o, e, c, d⟩ := hs.1
    exact ⟨o, e, c⟩
  · simpa using hit1
  · exact hs1.extBut b o (Nat.ne_of_lt (Heap.lt_size hb)) (Heap.get?_push_of_some _ hb)
end
section
variable {X : Cx} {W : WX} {pos : Pos}
theorem pgs_star {e : Expr} {es : List Expr} {t : TG} {u : TGs} {p : Pos} (h1 : PG X e t) (h2 : PGs X es u) : PGs X (.Starred e p :: es) (gCons t u) := by
  refine ⟨fun pins s σ H vs us Q I r h => ?_⟩
  obtain ⟨v, vr, e1, h⟩ := h
  subst e1
  cases r with
  | cons r rr =>
    have hs : (assignEach (.Starred e p :: es) X.env).map (·.2) = assign e X.env :: (assignEach es X.env).map (·.2) := by
      simp only [assignEach, List.map_cons]
    rw [hs]
    refine assignInOrder_cons (thn (h1.run pins s σ H _ _ _ I r h) fun _ s1 ⟨σ1, H1, I1, q1⟩ => ?_)
    exact h2.run pins s1 σ1 H1 _ _ Q I1 rr q1
def gStar (K : PySem.W.Frag) (i : Nat) (t : TGs) : TG := fun v σ H Q => ∃ a xs, v = .ref a ∧ (SqT K H a xs ∨ SqL K H a xs) ∧ i ≤ xs.length ∧ ∀ p, H p = none → t (xs.take i ++ [.ref p]) σ (upd H p (.lst (xs.drop i))) Q
theorem vals_take {vs : List V} {us : List Value} (h : Vals vs us) : ∀ n, Vals (vs.take n) (us.take n) := by
  induction h with
  | nil => intro n; simp; exact .nil
  | cons r t ih =>
    intro n
    cases n with
    | zero => exact .nil
    | succ n => exact .cons r (ih n)
theorem vals_drop {vs : List V} {us : List Value} (h : Vals vs us) : ∀ n, Vals (vs.drop n) (us.drop n) := by
  induction h with
  | nil => intro n; simp; exact .nil
  | cons r t ih =>
    intro n
    cases n with
    | zero => exact .cons r t
    | succ n => exact ih n
theorem vals_app {vs ws : List V} {us zs : List Value} (h : Vals vs us) (h' : Vals ws zs) : Vals (vs ++ ws) (us ++ zs) := by
  induction h with
  | nil => exact h'
  | cons r t ih => exact .cons r ih
theorem pg_star {es : List Expr} {k : Nat} {t : TGs} {i : Nat} (hc : X.calm = true) (h : PGs X es t)
    (hn : (assignEach es X.env).length = i + 1 := by rfl) (hst : (assignEach es X.env).findIdx? (·.1) = some i := by rfl) : PG X (.Tuple es k pos) (gStar X.K i t) := by
  refine ⟨fun pins s σ H v u Q I r hw => ?_⟩
  obtain ⟨a, xs, e1, hq, hl, hw⟩ := hw
  subst e1
  cases r
  rw [assign_Tuple]
  refine wpAny_bind (wpAny_standAt ?_)
  unfold unpack
  rw [hn, hst]
  have fin : ∀ (its : List Value), Vals xs its → its.length ≤ sizeLine → StarQ s its.toArray i (fun ws s' => wpAny (model X.prog X.w) X.A (assignInOrder ((assignEach es X.env).map (·.2)) ws) (fun _ s' => ∃ σ' H', L2.Inv X pins σ' H' s' ∧ Q σ' H') X.xe s') := by
    intro its rv hz h' tk kk
    have I1 : L2.Inv X pins σ H { s with heap := h', toks := tk } := I.kept kk
    have hnew : H h'.objs.size = none := I1.hok.fresh (Nat.le_refl _)
    have rd := vals_drop rv i
    have I2 : L2.Inv X pins σ (upd H h'.objs.size (.lst (xs.drop i))) { s with heap := h'.push { cls := .type "list", data := .seq (its.drop i).toArray }, toks := tk } :=
      I1.laid (t' := tk) (fun b o e => Heap.get?_push_of_some _ e) (Nat.le_refl _) ⟨by rw [List.length_drop, rv.length]; omega, its.drop i, 0, rd, Heap.get?_push_size _ rfl⟩
    exact h.run pins _ σ _ _ _ Q I2 (vals_app (vals_take rv i) (.cons (show L2.RelV (V.ref h'.objs.size) (Value.ref h'.objs.size) from rfl) .nil)) (hw _ hnew)
  rcases hq with hq | hq
  · obtain ⟨its, rv, ht, hz⟩ := I.tuple hq
    exact wpAny_bind (wpAny_holding (star_tup (I.ok.hd hc) (show s.heap.IsTuple a its.toArray from ht) (by simpa [← rv.length] using hl) (by simpa [← rv.length] using hz) (fin its rv (by simpa [← rv.length] using hz))))
  · obtain ⟨its, rv, ht, hz⟩ := I.list hq
    exact wpAny_bind (wpAny_holding (star_lst (I.ok.hd hc) ht.isList (by simpa [← rv.length] using hl) (by simpa [← rv.length] using hz) (fin its rv (by simpa [← rv.length] using hz))))
def starR (i : Nat) (r : GMs) (l : List D) (e : En) (S : Store) : Res En := if i ≤ l.length then r (l.take i ++ [.lst (l.drop i)]) e S else .stuck
def gStr (i : Nat) (r : GMs) : GM := fun d e S => match d with
  | .tup l => starR i r l e S
  | .lst l => starR i r l e S
  | .scr l => starR i r l e S
  | .loc n => match S[n]? with
    | some (.lst l) => starR i r l e S
    | _ => .stuck
  | _ => .stuck
theorem rgs_star {tg : Expr} {ts : List Expr} {g : GM} {r : GMs} {p : Pos} (h1 : RG X W tg g) (h2 : RGs X W ts r) : RGs X W (.Starred tg p :: ts) (gsCons' g r) := by
  refine pgs_imp (pgs_star h1 h2) ?_
  rintro v s H Q ⟨w, en, ds, rfl, R, E, rd, P⟩
  cases rd with
  | nil => exact False.elim P
  | cons r1 r2 =>
    refine ⟨_, _, rfl, w, en, _, rfl, R, E, r1, Post.noX (E := fun cls dd H' => W cls dd s H') ((Post.bind P).imp ?_)⟩
    rintro s1 H1 ⟨w1, e1, rfl, X1, R1, E1, P1⟩
    exact ⟨w1, e1, _, rfl, R1, E1, r2.ext X1.toEx0, Post.noX P1⟩
theorem star_post {w : Wo} {l : List D} {vs : List V} {en : En} {s : L2.St} {i : Nat} {r : GMs} {Q : L2.St → Hp → Prop} (R : Rep X.K X.mg w) (E : RepE X.K X.mg w en s) (rl : RepL X.K X.mg w l vs) (P : Post (RepE X.K X.mg) X.K X.mg w (starR i r l en w.st) Q (fun cls dd H' => W cls dd s H')) :
    i ≤ vs.length ∧ ∀ p, w.hp p = none → tGts X W r (vs.take i ++ [.ref p]) s (upd w.hp p (.lst (vs.drop i))) Q := by
  unfold starR at P
  split at P
  · rename_i hi
    refine ⟨by rw [← rl.length]; exact hi, fun p hp => ?_⟩
    have xp := put_ext (o := .lst (vs.drop i)) R hp
    exact ⟨w.put p (.lst (vs.drop i)), en, l.take i ++ [.lst (l.drop i)], rfl, R.put hp, E.ext xp.toEx0, ((rl.take i).ext xp.toEx0).append (.cons (.lst (put_st R hp) ((rl.drop i).ext xp.toEx0)) .nil), P.ext xp⟩
  · exact False.elim P
theorem rg_star {ts : List Expr} {k i : Nat} {r : GMs} (hc : X.calm = true) (h : RGs X W ts r) (hn : (assignEach ts X.env).length = i + 1 := by rfl) (hst : (assignEach ts X.env).findIdx? (·.1) = some i := by rfl) : RG X W (.Tuple ts k pos) (gStr i r) := by
  refine pg_imp (pg_star hc h hn hst) ?_
  rintro v s H Q ⟨w, en, d, rfl, R, E, rd, P⟩
  unfold gStr at P
  split at P
  · cases rd with
    | tup st rl =>
      obtain ⟨h1, h2⟩ := star_post R E rl P
      exact ⟨_, _, rfl, .inl st.sq, h1, h2⟩
  · cases rd with
    | lst st rl =>
      obtain ⟨h1, h2⟩ := star_post R E rl P
      exact ⟨_, _, rfl, .inr (SqL.of st.1), h1, h2⟩
  · cases rd with
    | scr st rl =>
      obtain ⟨h1, h2⟩ := star_post R E rl P
      exact ⟨_, _, rfl, .inr st.sq, h1, h2⟩
  · split at P
    · rename_i n l hl
      cases rd with
      | loc hn =>
        obtain ⟨vs, p, rl⟩ := R.cell _ _ _ hn hl
        obtain ⟨h1, h2⟩ := star_post R E rl P
        exact ⟨_, _, rfl, .inr (SqL.of p), h1, h2⟩
    · exact False.elim P
  · exact False.elim P
end
end G
namespace G
open PySem L2 PySem.Spec
structure Dt (P : Program) (w0 : World) (K : PySem.W.Frag) (mg : Str → Option Value) (base : Heap) (cn : Nat) (x : Str) (ps : List Str) (k n : Nat) (ks : List Str) (gD : List D → List D → List D) (m : FM) : Prop where
  ex : ∃ C f fd g gV, mg (cname cn) = some (.ref C) ∧ Cls K C ∧ Meth K C x f ∧ KBn K fd ps (n + 1) ks g gV ∧ (∀ w ds vs es zs, RepL K mg w ds vs → RepL K mg w es zs → ds.length = n + 1 → es.length = ks.length → RepL K mg w (gD ds es) (gV vs zs) ∧ (gV vs zs).length = ps.length) ∧ FnG P w0 K mg base k f fd ps (spM K mg ps.length m)
section
variable {X : Cx} {W : WX} {a b c e o : Expr} {es : List Expr} {ma mb mc me : EM} {ta tb : TM} {pos apos : Pos} {x : Str} {p : Pos} {j k cn n : Nat} {ps ks : List Str} {f : FM} {gD : List D → List D → List D}
def eMeth (cn : Nat) (f : FM) (gD : List D → List D → List D) (n l : Nat) (mo : EM) (m mk : AM) : EM := fun e S => (mo e S).bind fun x S0 => if isCn cn S0 x = true then (m e S0).bind fun ds S1 => (mk e S1).bind fun zs S2 => if ds.length = n ∧ zs.length = l then f (gD (x :: ds) zs) S2 else .stuck else .stuck
theorem isCn_ins {K : PySem.W.Frag} {mg : Str → Option Value} {w : Wo} {d : D} {v : V} (R : Rep K mg w) (h : RepD K mg w d v) (e : isCn cn w.st d = true) : ∃ a C dx fs gs, v = .ref a ∧ mg (cname cn) = some (.ref C) ∧ w.hp a = some (.ins C dx gs) ∧ RepF K mg w fs gs := by
  unfold isCn at e
  split at e
  · rename_i c fs q
    have e := eq_of_beq e
    subst e
    obtain ⟨a, C, dx, gs, r⟩ := h.insV R q
    exact ⟨a, C, dx, fs, gs, r⟩
  · cases e
def eMethK (cn : Nat) (f : FM) (gD : List D → List D → List D) (l : Nat) (mo : EM) (mk : AM) : EM := fun e S => (mo e S).bind fun x S0 => if isCn cn S0 x = true then (mk e S0).bind fun zs S2 => if zs.length = l then f (gD [x] zs) S2 else .stuck else .stuck
def eMeth0 (cn : Nat) (f : FM) (gD : List D → List D → List D) (mo : EM) : EM := fun e S => (mo e S).bind fun x S0 => if isCn cn S0 x = true then f (gD [x] []) S0 else .stuck
end
end G
namespace G
open PySem L2 PySem.Spec PyProof.Rows
def keyD : D → Option Key
  | .int i => some (.inl i)
  | .str x => some (.inr x)
  | _ => none
def putKD (kvs : List (Key × D)) (k : Key) (v : D) : List (Key × D) :=
  if (kvs.any fun kv => decide (kv.1 = k)) = true then kvs.map (fun kv => if kv.1 = k then (kv.1, v) else kv) else kvs ++ [(k, v)]
def dropKD (kvs : List (Key × D)) (k : Key) : List (Key × D) := kvs.filter fun kv => decide (kv.1 ≠ k)
def dkD (S : Store) : D → Option (Nat × List (Key × D))
  | .loc n => match S[n]? with
    | some (.dk l) => some (n, l)
    | _ => none
  | _ => none
section
variable {K : PySem.W.Frag} {mg : Str → Option Value} {w : Wo}
theorem RepK.any {k : Key} {kvs : List (Key × D)} {us : List (Key × V)} : RepK Key K mg w kvs us → (kvs.any fun kv => decide (kv.1 = k)) = (us.any fun kv => decide (kv.1 = k))
  | .nil => rfl
  | .cons _ t => by rw [List.any_cons, List.any_cons, RepK.any t]
theorem RepK.app {κ : Type} {kvs ls : List (κ × D)} {us zs : List (κ × V)} : RepK κ K mg w kvs us → RepK κ K mg w ls zs → RepK κ K mg w (kvs ++ ls) (us ++ zs)
  | .nil, h => h
  | .cons r t, h => .cons r (RepK.app t h)
theorem RepK.upd {k : Key} {d : D} {v : V} (q : RepD K mg w d v) {kvs : List (Key × D)} {us : List (Key × V)} : RepK Key K mg w kvs us → RepK Key K mg w (kvs.map fun kv => if kv.1 = k then (kv.1, d) else kv) (us.map fun kv => if kv.1 = k then (kv.1, v) else kv)
  | .nil => .nil
  | @RepK.cons _ _ _ _ f d' v' l vs r t => by
    rw [List.map_cons, List.map_cons]
    by_cases e : f = k
    · rw [if_pos (by exact e), if_pos (by exact e)]; exact .cons q (RepK.upd q t)
    · rw [if_neg (by exact e), if_neg (by exact e)]; exact .cons r (RepK.upd q t)
theorem RepK.put {k : Key} {d : D} {v : V} (q : RepD K mg w d v) {kvs : List (Key × D)} {us : List (Key × V)} (h : RepK Key K mg w kvs us) : RepK Key K mg w (putKD kvs k d) (putK us k v) := by
  unfold putKD putK
  rw [h.any]
  split
  · exact h.upd q
  · exact h.app (.cons q .nil)
theorem RepK.drop {k : Key} {kvs : List (Key × D)} {us : List (Key × V)} : RepK Key K mg w kvs us → RepK Key K mg w (dropKD kvs k) (dropK us k)
  | .nil => .nil
  | @RepK.cons _ _ _ _ f d' v' l vs r t => by
    unfold dropKD dropK
    rw [List.filter_cons, List.filter_cons]
    by_cases e : f = k
    · rw [if_neg (by simp [e]), if_neg (by simp [e])]; exact RepK.drop t
    · rw [if_pos (by simp [e]), if_pos (by simp [e])]; exact .cons r (RepK.drop t)
end
section
variable {X : Cx} {W : WX} {a b c e o f : Expr} {es : List Expr} {ma mb mc me : EM} {ta tb : TM} {pos apos cpos : Pos}
def eNewD : EM := fun _ S => .ok (.loc S.length) (S ++ [.dk []])
def setE (S : Store) (o i d : D) : Option Store := match dkD S o with
  | some (n, kvs) => match keyD i with
    | some k => if kvs.length < sizeLine then some (S.set n (.dk (putKD kvs k d))) else none
    | none => none
  | none => setD S o i d
def gSbE (o i : EM) : GM := fun d e S => (noX (o e S)).bind fun x S1 => (noX (i e S1)).bind fun y S2 => match setE S2 x y d with
  | some S3 => .ok e S3
  | none => .stuck
def dgR (S : Store) (x y z : D) : Res D := match dkD S x, keyD y with
  | some (_, kvs), some k => .ok ((valD kvs k).getD z) S
  | _, _ => .stuck
def eDGet2 (mo my mx : EM) : EM := fun e S => (mo e S).bind fun x S1 => if (dkD S1 x).isSome = true then (my e S1).bind fun y S2 => (mx e S2).bind fun z S3 => dgR S3 x y z else .stuck
def eDGet1 (mo my : EM) : EM := fun e S => (mo e S).bind fun x S1 => if (dkD S1 x).isSome = true then (my e S1).bind fun y S2 => dgR S2 x y .non else .stuck
def dpR (S : Store) (x y : D) (z : Option D) : Res D := match dkD S x, keyD y with
  | some (n, kvs), some k => match valD kvs k, z with
    | some d, _ => .ok d (S.set n (.dk (dropKD kvs k)))
    | none, some z => .ok z S
    | none, none => .stuck
  | _, _ => .stuck
def eDPop2 (mo my mx : EM) : EM := fun e S => (mo e S).bind fun x S1 => if (dkD S1 x).isSome = true then (my e S1).bind fun y S2 => (mx e S2).bind fun z S3 => dpR S3 x y (some z) else .stuck
def eDPop1 (mo my : EM) : EM := fun e S => (mo e S).bind fun x S1 => if (dkD S1 x).isSome = true then (my e S1).bind fun y S2 => dpR S2 x y none else .stuck
end
end G
namespace G
open PySem L2 PySem.Spec PyProof.Rows
def insI (i : Int) : List Int → List Int
  | [] => [i]
  | j :: l => if i < j then i :: j :: l else if i = j then j :: l else j :: insI i l
def srtI : List Int → List Int
  | [] => []
  | i :: l => insI i (srtI l)
def intL : List D → Option (List Int)
  | [] => some []
  | .int i :: l => (intL l).map (i :: ·)
  | _ :: _ => none
def lstD (S : Store) : D → Option (List D)
  | .lst l => some l
  | .scr l => some l
  | .loc n => match S[n]? with
    | some (.lst l) => some l
    | _ => none
  | _ => none
section
variable {X : Cx} {W : WX} {a : Expr} {ma : EM} {pos pos2 p p2 : Pos}
def ssD (S : Store) (x : D) : Option D := ((lstD S x).bind intL).bind fun ns => if ns.length < 64 then some (.lst ((srtI ns).map .int)) else none
def eSortSet (m : EM) : EM := fun e S => (m e S).bind fun x S1 => lf (ssD S1 x) S1
end
end G
namespace G
open PySem L2 PySem.Spec
abbrev CM := En → Store → Res (List D × Option Nat)
def okC (p : List D × Option Nat) (S : Store) : Prop := match p.2 with
  | none => True
  | some n => S[n]? = some (.lst p.1)
open Classical in
noncomputable def fiC (ck : Store → Prop) (g : GM) (m : SM) : List D → SM
  | [] => fun e S => if ck S then .nxt e S else .stuck
  | d :: ds => fun e S => if ck S then sE (g d e S) e fun e1 S1 => match m e1 S1 with
    | .nxt e2 S2 => fiC ck g m ds e2 S2
    | .cnt e2 S2 => fiC ck g m ds e2 S2
    | .brk e2 S2 => .nxt e2 S2
    | r => r else .stuck
noncomputable def sForC (i : CM) (g : GM) (m : SM) : SM := fun e S => sE (i e S) e fun p S1 => fiC (okC p) g m p.1 e S1
open Classical in
noncomputable def lcC (ck : Store → Prop) (g : Tg) (t : TM) (m : EM) (e : En) : List D → List D → Store → Res (List D)
  | [], acc, S => if ck S then .ok acc S else .stuck
  | d :: ds, acc, S => if ck S then match g.m d e with
    | some e1 => (noX (t e1 S)).bind fun b S2 => if b then (noX (m e1 S2)).bind fun y S3 => if acc.length < sizeLine then lcC ck g t m e ds (acc ++ [y]) S3 else .stuck else lcC ck g t m e ds acc S2
    | none => .stuck else .stuck
noncomputable def eLcC (i : CM) (g : Tg) (t : TM) (m : EM) (vs : List Nat) : EM := fun e S => (i e S).bind fun p S1 => (lcC (okC p) g t m (wipeE e vs) p.1 [] S1).bind fun acc S2 => .ok (.lst acc) S2
noncomputable def eLcCN (i : CM) (g : Tg) (t : TM) (m : EM) (vs : List Nat) : EM := fun e S => (i e S).bind fun p S1 => (lcC (okC p) g t m (wipeE e vs) p.1 [] S1).bind fun acc S2 => .ok (.loc S2.length) (S2 ++ [.lst acc])
def iCel (m : EM) : CM := fun e S => (m e S).bind fun d S1 => match d with
  | .tup l => .ok (l, none) S1
  | .lst l => .ok (l, none) S1
  | .scr l => .ok (l, none) S1
  | .loc n => match S1[n]? with
    | some (.lst l) => .ok (l, some n) S1
    | _ => .stuck
  | _ => .stuck
section
variable {ck : Store → Prop} {g : GM} {m : SM} {d : D} {ds : List D} {e : En} {S : Store}
theorem fiC_no (h : ¬ ck S) : fiC ck g m ds e S = .stuck := by
  cases ds with
  | nil => unfold fiC; exact if_neg h
  | cons d ds => unfold fiC; exact if_neg h
theorem fiC_nil (h : ck S) : fiC ck g m [] e S = .nxt e S := by unfold fiC; exact if_pos h
theorem fiC_cons (h : ck S) : fiC ck g m (d :: ds) e S = sE (g d e S) e fun e1 S1 => match m e1 S1 with
    | .nxt e2 S2 => fiC ck g m ds e2 S2
    | .cnt e2 S2 => fiC ck g m ds e2 S2
    | .brk e2 S2 => .nxt e2 S2
    | r => r := by rw [fiC]; exact if_pos h
end
section
variable {ck : Store → Prop} {g : Tg} {t : TM} {m : EM} {d : D} {ds acc : List D} {e : En} {S : Store}
theorem lcC_no (h : ¬ ck S) : lcC ck g t m e ds acc S = .stuck := by
  cases ds with
  | nil => unfold lcC; exact if_neg h
  | cons d ds => unfold lcC; exact if_neg h
theorem lcC_nil (h : ck S) : lcC ck g t m e [] acc S = .ok acc S := by unfold lcC; exact if_pos h
theorem lcC_cons (h : ck S) : lcC ck g t m e (d :: ds) acc S = match g.m d e with
    | some e1 => (noX (t e1 S)).bind fun b S2 => if b then (noX (m e1 S2)).bind fun y S3 => if acc.length < sizeLine then lcC ck g t m e ds (acc ++ [y]) S3 else .stuck else lcC ck g t m e ds acc S2
    | none => .stuck := by rw [lcC]; exact if_pos h
end
section
variable {X : Cx} {W : WX} {a b c e o : Expr} {es : List Expr} {ma mb mc me : EM} {ta tb : TM} {pos : Pos} {m : SM}
def ItsC (X : Cx) : Wo → List D × Option Nat → It → Prop := fun w p J => ∀ w2, Ex0 w w2 → Fz w w2 → Rep X.K X.mg w2 → okC p w2.st →
  (∀ i, i < p.1.length → J.go i w2.hp ∧ ∀ x H', J.yld i w2.hp x H' → ∃ w3 d, w3.hp = H' ∧ Ext w2 w3 ∧ Rep X.K X.mg w3 ∧ w3.st = w2.st ∧ w3.al = w2.al ∧ p.1[i]? = some d ∧ RepD X.K X.mg w3 d x) ∧ J.stop p.1.length w2.hp
abbrev RIc (X : Cx) (W : WX) (tg it : Expr) (m : CM) : Prop := PI X tg it (tG (ItsC X) X W m)
theorem its_cel {w : Wo} {ds : List D} {n : Nat} {ad : Addr} (hn : w.al[n]? = some ad) : ItsC X w (ds, some n) (Itl X.K ad) := by
  intro w2 x2 _ R2 hl
  obtain ⟨vs, p, r⟩ := R2.cell _ _ _ (x2.get hn) hl
  have s2 : SqL X.K w2.hp ad vs := SqL.of p
  refine ⟨fun i hi => ⟨⟨vs, vs[i]'(by rw [← r.length]; exact hi), s2, by simp⟩, fun x H' y => ?_⟩, ⟨vs, s2, by rw [r.length]; exact Nat.le_refl _⟩⟩
  obtain ⟨rfl, y⟩ := y
  obtain ⟨d, e1, rd⟩ := r.getV (y vs s2)
  exact ⟨w2, d, rfl, Ext.refl w2, R2, rfl, rfl, e1, rd⟩
theorem its_no {w : Wo} {ds : List D} {J : It} (h : ItsR X w ds J) : ItsC X w (ds, none) J := fun w2 x2 z2 R2 _ => h w2 x2 z2 R2
theorem ri_cel {tg : Expr} (ha : RE X W a ma) : RIc X W tg a (iCel ma) := by
  refine ⟨fun pins s σ H R' I h => ?_⟩
  obtain ⟨w, en, rfl, R, E, P⟩ := h
  cases q : ma en w.st with
  | stuck => unfold iCel at P; rw [q] at P; exact False.elim P
  | exc x S =>
    unfold iCel at P; rw [q] at P
    exact (pi_list ha).run pins s σ w.hp R' I ⟨w, en, rfl, R, E, by rw [q]; exact P⟩
  | ok d S =>
    unfold iCel at P; rw [q] at P
    cases d with
    | tup l =>
      refine (pi_tup ha).run pins s σ w.hp R' I ⟨w, en, rfl, R, E, ?_⟩
      rw [q]
      intro w1 v x1 R1 s1 r1
      cases r1 with
      | tup st rl => exact ⟨_, rfl, ⟨_, st.sq⟩, P w1 _ x1 R1 s1 (its_no (its_tup (fun w2 x2 => (st.ext x2).sq) rl))⟩
    | lst l =>
      refine (pi_list ha).run pins s σ w.hp R' I ⟨w, en, rfl, R, E, ?_⟩
      rw [q]
      intro w1 v x1 R1 s1 r1
      cases r1 with
      | lst st rl => exact ⟨_, rfl, ⟨_, SqL.of st.1⟩, P w1 _ x1 R1 s1 (its_no (its_list (fun w2 x2 => SqL.of (st.ext x2).1) rl))⟩
    | scr l =>
      refine (pi_list ha).run pins s σ w.hp R' I ⟨w, en, rfl, R, E, ?_⟩
      rw [q]
      intro w1 v x1 R1 s1 r1
      cases r1 with
      | scr st rl => exact ⟨_, rfl, ⟨_, st.sq⟩, P w1 _ x1 R1 s1 (its_no (its_list (fun w2 x2 => (st.ext x2).sq) rl))⟩
    | loc n =>
      refine (pi_list ha).run pins s σ w.hp R' I ⟨w, en, rfl, R, E, ?_⟩
      rw [q]
      intro w1 v x1 R1 s1 r1
      subst s1
      cases r1 with
      | @loc _ ad hn =>
        replace P : Post (ItsC X) X.K X.mg w (match w1.st[n]? with
          | some (.lst l) => .ok (l, some n) w1.st
          | _ => .stuck) R' _ := P
        split at P
        · rename_i l hl
          obtain ⟨vs, p, r⟩ := R1.cell _ _ _ hn hl
          exact ⟨_, rfl, ⟨_, SqL.of p⟩, P w1 _ x1 R1 rfl (its_cel hn)⟩
        · exact False.elim P
    | _ => exact False.elim P
theorem rs_forC {tg it : Expr} {i : CM} {g : GM} {body : List Stmt} (hp : PassesOwn (model X.prog X.w) X.A X.env X.xe) (hc : X.calm = true) (hi : RIc X W tg it i) (hg : RG X W tg g) (hb : RSs X W body m) (hs : ∀ x, foldedSetIterable it X.env x = pure x := by intro _; rfl) :
    RS X W (.For tg it body [] pos) (sForC i g m) := by
  refine ps_imp (ps_for hp hc hi hg hb hs) ?_
  rintro D s H ⟨w, en, rfl, R, E, P⟩
  refine ⟨w, en, rfl, R, E, (PostS.of P E).imp ?_⟩
  rintro J H1 ⟨w1, ⟨ds, oc⟩, rfl, X1, R1, its, P1⟩
  refine ⟨fun j k s H => k = ds.length - j ∧ j ≤ ds.length ∧ ∃ w e, w.hp = H ∧ Ext w1 w ∧ Rep X.K X.mg w ∧ RepE X.K X.mg w e s ∧ PostS X W w (fiC (okC (ds, oc)) g m (ds.drop j) e w.st) D,
    ⟨ds.length, rfl, Nat.zero_le _, w1, en, rfl, Ext.refl w1, R1, E.ext X1.toEx0, P1⟩, ?_⟩
  rintro j k s H ⟨rfl, hj, w, en, rfl, x1, R, E, P⟩
  have hck : okC (ds, oc) w.st := by
    by_cases hn : okC (ds, oc) w.st
    · exact hn
    · rw [fiC_no hn] at P; exact False.elim P
  obtain ⟨go, stop⟩ := its w x1.toEx0 x1.fz R hck
  by_cases hlt : j < ds.length
  · obtain ⟨go1, yl⟩ := go j hlt
    refine .inr ⟨go1, fun s' H' => ∃ w e, w.hp = H' ∧ Ext w1 w ∧ Rep X.K X.mg w ∧ RepE X.K X.mg w e s' ∧ PostS X W w (fiC (okC (ds, oc)) g m (ds.drop (j + 1)) e w.st) D, fun s' H' h => ⟨ds.length - (j + 1), by omega, rfl, hlt, h⟩, fun x H' y => ?_⟩
    obtain ⟨w3, d, rfl, x3, R3, st3, _, hd, rd⟩ := yl x H' y
    have e1 : ds.drop j = d :: ds.drop (j + 1) := by
      obtain ⟨hl, rfl⟩ := List.getElem?_eq_some_iff.mp hd
      exact List.drop_eq_getElem_cons hl
    rw [e1, fiC_cons hck] at P
    have P' : PostS X W w3 (sE (g d en w3.st) en fun e1 S1 => match m e1 S1 with
      | .nxt e2 S2 => fiC (okC (ds, oc)) g m (ds.drop (j + 1)) e2 S2
      | .cnt e2 S2 => fiC (okC (ds, oc)) g m (ds.drop (j + 1)) e2 S2
      | .brk e2 S2 => .nxt e2 S2
      | r => r) D := by rw [st3]; exact PostS.ext P x3
    refine ⟨w3, en, d, rfl, R3, E.ext x3.toEx0, rd, (PostS.of P' (E.ext x3.toEx0)).imp ?_⟩
    rintro s4 H4 ⟨w4, e4, rfl, x4, R4, E4, P4⟩
    refine ⟨w4, e4, rfl, R4, E4, ?_⟩
    have x14 : Ext w1 w4 := (x1.trans x3).trans x4
    dsimp only at P4
    cases q : m e4 w4.st with
    | nxt e S => rw [q] at P4; exact fun w5 s5 x5 R5 st E5 => ⟨w5, e, rfl, x14.trans x5, R5, E5, by rw [st]; exact PostS.ext P4 x5⟩
    | cnt e S => rw [q] at P4; exact fun w5 s5 x5 R5 st E5 => ⟨w5, e, rfl, x14.trans x5, R5, E5, by rw [st]; exact PostS.ext P4 x5⟩
    | brk e S => rw [q] at P4; exact P4
    | ret e S => rw [q] at P4; exact P4
    | exc y e S => rw [q] at P4; exact P4
    | stuck => rw [q] at P4; exact P4
  · have e : j = ds.length := by omega
    subst e
    rw [List.drop_length, fiC_nil hck] at P
    exact .inl ⟨stop, P w s (Ext.refl w) R rfl E⟩
theorem t_lcC {i : CM} {g : Tg} {t : TM} {m : EM} {vs : List Nat} {fin : List D → Store → Res D} (hg : ∀ j, j ∈ g.ix → j ∈ vs)
    (hfin : ∀ (w1 w : Wo) (p : Addr) (us : List V) (acc : List D) (Q : VK) (E : XK), Rep X.K X.mg w1 → w1.hp p = none → Rep X.K X.mg w → Ex0 w1 w → w.hid = p :: w1.hid → Kp w1 w → w.hp p = some (.lst us) → RepL X.K X.mg w acc us →
      Post (RepD X.K X.mg) X.K X.mg w1 (fin acc w.st) Q E → Q (.ref p) w.hp) :
    ∀ s H Q, tG (RepD X.K X.mg) X W (fun e S => (i e S).bind fun p S1 => (lcC (okC p) g t m (wipeE e vs) p.1 [] S1).bind fin) s H Q →
      tLc (tG (ItsC X) X W i) (g.r X.K) (tG RlB X W0 t) (tG (RepD X.K X.mg) X W0 m) vs s H Q := by
  rintro s H Q ⟨w, en, rfl, R, E, P⟩
  refine ⟨w, en, rfl, R, E, (Post.bind P).imp ?_⟩
  rintro J H1 ⟨w1, ⟨ds, oc⟩, rfl, X1, R1, its, P1⟩
  intro p hp
  dsimp only at P1
  have E1 := E.ext X1.toEx0
  refine ⟨fun j k H => k = ds.length - j ∧ j ≤ ds.length ∧ ∃ w acc us, w.hp = H ∧ Ex0 w1 w ∧ Rep X.K X.mg w ∧ w.hid = p :: w1.hid ∧ Kp w1 w ∧ w.hp p = some (.lst us) ∧ RepL X.K X.mg w acc us ∧
      Post (RepD X.K X.mg) X.K X.mg w1 ((lcC (okC (ds, oc)) g t m (wipeE en vs) (ds.drop j) acc w.st).bind fin) Q (fun cls dd H' => W cls dd s H'),
    ⟨ds.length, rfl, Nat.zero_le _, w1.hide p (.lst []), [], [], rfl, hide_ex R1 hp, R1.hide hp, rfl, ⟨fun a ha => ?_, hide_fz R1 hp⟩, upd_same, .nil, P1⟩, ?_⟩
  · show upd w1.hp p _ a = _
    exact upd_ne fun z => R1.not_hid hp (z ▸ ha)
  rintro j k H ⟨rfl, hj, w, acc, us, rfl, x1, R, hh, hk, hu, ra, P⟩
  have hck : okC (ds, oc) w.st := by
    by_cases hn : okC (ds, oc) w.st
    · exact hn
    · rw [lcC_no hn] at P; exact False.elim P
  obtain ⟨go, stop⟩ := its w x1 hk.fz R hck
  by_cases hlt : j < ds.length
  · obtain ⟨go1, yl⟩ := go j hlt
    refine .inr ⟨go1, fun H' => ∃ w acc us, w.hp = H' ∧ Ex0 w1 w ∧ Rep X.K X.mg w ∧ w.hid = p :: w1.hid ∧ Kp w1 w ∧ w.hp p = some (.lst us) ∧ RepL X.K X.mg w acc us ∧
      Post (RepD X.K X.mg) X.K X.mg w1 ((lcC (okC (ds, oc)) g t m (wipeE en vs) (ds.drop (j + 1)) acc w.st).bind fin) Q (fun cls dd H' => W cls dd s H'),
      fun H' h => ⟨ds.length - (j + 1), by omega, rfl, hlt, h⟩, fun x H' y => ?_⟩
    obtain ⟨w3, d, rfl, x3, R3, st3, _, hd, rd⟩ := yl x H' y
    have e1 : ds.drop j = d :: ds.drop (j + 1) := by
      obtain ⟨hl, rfl⟩ := List.getElem?_eq_some_iff.mp hd
      exact List.drop_eq_getElem_cons hl
    rw [e1, lcC_cons hck, ← st3] at P
    have E3 : RepE X.K X.mg w3 (wipeE en vs) (L2.wipe s vs) := (E1.ext (x1.trans x3.toEx0)).wipe vs
    cases hm : g.m d (wipeE en vs) with
    | none => rw [hm] at P; exact False.elim P
    | some e4 =>
      rw [hm] at P
      dsimp only at P
      refine g.ok E3 rd hm fun s4 E4 hl4 hj4 => ⟨?_, ?_⟩
      · refine wipe_eq (by rw [hl4, wipe_length]) fun q hq => ?_
        rw [hj4 q fun z => hq (hg q z), wipe_at, if_neg hq]
      · have hh3 : w3.hid = p :: w1.hid := x3.hid.trans hh
        have hk3 : Kp w1 w3 := ⟨fun a ha => (x3.kh a (by rw [hh]; exact List.mem_cons_of_mem _ ha)).trans (hk.kh a ha), hk.fz.trans x1.al x3.fz⟩
        have hu3 : w3.hp p = some (.lst us) := (x3.kh p (by rw [hh]; exact List.mem_cons_self)).trans hu
        refine ⟨w3, e4, rfl, R3, E4, ?_⟩
        cases ht : t e4 w3.st with
        | exc _ _ => rw [ht] at P; exact False.elim P
        | stuck => rw [ht] at P; exact False.elim P
        | ok bb S5 =>
          rw [ht] at P
          intro w5 c5 x5 R5 st5 r5
          cases r5
          subst st5
          replace P : Post (RepD X.K X.mg) X.K X.mg w1 ((if bb = true then (noX (m e4 w5.st)).bind fun y S3 => if acc.length < sizeLine then lcC (okC (ds, oc)) g t m (wipeE en vs) (ds.drop (j + 1)) (acc ++ [y]) S3 else .stuck else lcC (okC (ds, oc)) g t m (wipeE en vs) (ds.drop (j + 1)) acc w5.st).bind fin) Q (fun cls dd H' => W cls dd s H') := P
          have hh5 : w5.hid = p :: w1.hid := x5.hid.trans hh3
          have hk5 : Kp w1 w5 := ⟨fun a ha => (x5.kh a (by rw [hh3]; exact List.mem_cons_of_mem _ ha)).trans (hk3.kh a ha), hk3.fz.trans (x1.trans x3.toEx0).al x5.fz⟩
          have hu5 : w5.hp p = some (.lst us) := (x5.kh p (by rw [hh3]; exact List.mem_cons_self)).trans hu3
          have ra5 := (ra.ext x3.toEx0).ext x5.toEx0
          have x15 : Ex0 w1 w5 := (x1.trans x3.toEx0).trans x5.toEx0
          cases bb with
          | false =>
            rw [if_neg Bool.false_ne_true] at P ⊢
            exact ⟨w5, acc, us, rfl, x15, R5, hh5, hk5, hu5, ra5, P⟩
          | true =>
            rw [if_pos rfl] at P ⊢
            refine ⟨w5, e4, rfl, R5, E4.ext x5.toEx0, ?_⟩
            cases hme : m e4 w5.st with
            | exc _ _ => rw [hme] at P; exact False.elim P
            | stuck => rw [hme] at P; exact False.elim P
            | ok y S6 =>
              rw [hme] at P
              intro w6 v6 x6 R6 st6 r6
              subst st6
              replace P : Post (RepD X.K X.mg) X.K X.mg w1 ((if acc.length < sizeLine then lcC (okC (ds, oc)) g t m (wipeE en vs) (ds.drop (j + 1)) (acc ++ [y]) w6.st else .stuck).bind fin) Q (fun cls dd H' => W cls dd s H') := P
              by_cases hz : acc.length < sizeLine
              · rw [if_pos hz] at P
                have ra6 := ra5.ext x6.toEx0
                have hh6 : w6.hid = p :: w1.hid := x6.hid.trans hh5
                have hk6 : Kp w1 w6 := ⟨fun a ha => (x6.kh a (by rw [hh5]; exact List.mem_cons_of_mem _ ha)).trans (hk5.kh a ha), hk5.fz.trans x15.al x6.fz⟩
                have hu6 : w6.hp p = some (.lst us) := (x6.kh p (by rw [hh5]; exact List.mem_cons_self)).trans hu5
                have pm : p ∈ w6.hid := by rw [hh6]; exact List.mem_cons_self
                have xg := gro_ex (o := .lst (us ++ [v6])) pm
                refine ⟨us, hu6, by rw [← ra6.length]; exact hz, w6.gro p (.lst (us ++ [v6])), acc ++ [y], us ++ [v6], rfl, (x15.trans x6.toEx0).trans xg, R6.gro pm, hh6, ⟨fun a ha => ?_, hk6.fz.trans (x15.trans x6.toEx0).al (gro_fz R6 pm)⟩, upd_same, (ra6.append (.cons r6 .nil)).ext xg, P⟩
                refine Eq.trans (show upd w6.hp p _ a = w6.hp a from upd_ne fun z => ?_) (hk6.kh a ha)
                subst z
                obtain ⟨_, o, ho⟩ := R1.hid a ha
                rw [hp] at ho; cases ho
              · rw [if_neg hz] at P; exact False.elim P
  · have e : j = ds.length := by omega
    subst e
    rw [List.drop_length, lcC_nil hck] at P
    exact .inl ⟨stop, hfin w1 w p us acc Q _ R1 hp R x1 hh hk hu ra P⟩
theorem fin_loc : ∀ (w1 w : Wo) (p : Addr) (us : List V) (acc : List D) (Q : VK) (E : XK), Rep X.K X.mg w1 → w1.hp p = none → Rep X.K X.mg w → Ex0 w1 w → w.hid = p :: w1.hid → Kp w1 w → w.hp p = some (.lst us) → RepL X.K X.mg w acc us →
      Post (RepD X.K X.mg) X.K X.mg w1 ((fun acc S => Res.ok (D.loc S.length) (S ++ [.lst acc])) acc w.st) Q E → Q (.ref p) w.hp := by
  intro w1 w p us acc Q E R1 hp R x1 hh hk hu ra P
  have hpa : p ∉ w.al := (R.hid p (by rw [hh]; exact List.mem_cons_self)).1
  have hph : p ∉ w1.hid := R1.not_hid hp
  have xn : Ex0 w ⟨w.al ++ [p], w.st ++ [.lst acc], w.hp, w1.hid⟩ := by
    refine ⟨⟨[p], rfl⟩, fun a h => ?_, fun a u h _ => h, fun a u h => ⟨u, h⟩⟩
    rcases h with ⟨n, c, h1, h2, h3⟩ | h
    · by_cases hl : n < w.al.length
      · rw [List.getElem?_append_left hl] at h1
        rw [List.getElem?_append_left (by rw [← R.len]; exact hl)] at h2
        exact .inl (.inl ⟨n, c, h1, h2, h3⟩)
      · have e : n = w.al.length := by
          have := (List.getElem?_eq_some_iff.mp h1).1
          simp at this; omega
        subst e
        simp at h1
        subst h1
        exact .inl (.inr (by rw [hh]; exact List.mem_cons_self))
    · exact .inl (.inr (by rw [hh]; exact List.mem_cons_of_mem _ h))
  have Rn : Rep X.K X.mg ⟨w.al ++ [p], w.st ++ [.lst acc], w.hp, w1.hid⟩ := by
    refine ⟨?_, ?_, fun a h => ?_, fun n a c h1 h2 => ?_, fun a h => ?_⟩
    · show (w.al ++ [p]).length = (w.st ++ [_]).length
      rw [List.length_append, List.length_append, R.len]; rfl
    · show (w.al ++ [p]).Nodup
      refine List.nodup_append.mpr ⟨R.nd, by simp, fun a ha b hb => ?_⟩
      rw [List.mem_singleton.mp hb]
      exact fun z => hpa (z ▸ ha)
    · rcases List.mem_append.mp h with h | h
      · exact R.tr a h
      · rw [List.mem_singleton.mp h]; exact ⟨_, hu⟩
    · by_cases hl : n < w.al.length
      · have h1 : (w.al ++ [p])[n]? = some a := h1
        have h2 : (w.st ++ [Cell.lst acc])[n]? = some c := h2
        rw [List.getElem?_append_left hl] at h1
        rw [List.getElem?_append_left (by rw [← R.len]; exact hl)] at h2
        exact (R.cell n a c h1 h2).ext xn rfl
      · have h1 : (w.al ++ [p])[n]? = some a := h1
        have h2 : (w.st ++ [Cell.lst acc])[n]? = some c := h2
        have e : n = w.al.length := by
          have := (List.getElem?_eq_some_iff.mp h1).1
          simp at this; omega
        subst e
        simp at h1
        subst h1
        rw [R.len] at h2
        simp at h2
        subst h2
        exact ⟨us, hu, ra.ext xn⟩
    · obtain ⟨q1, q2⟩ := R.hid a (by rw [hh]; exact List.mem_cons_of_mem _ h)
      refine ⟨fun z => ?_, q2⟩
      rcases List.mem_append.mp z with z | z
      · exact q1 z
      · rw [List.mem_singleton.mp z] at h; exact hph h
  refine P ⟨w.al ++ [p], w.st ++ [.lst acc], w.hp, w1.hid⟩ (.ref p) ⟨x1.trans xn, rfl, hk.kh, hk.fz.trans x1.al fun n a c h1 h2 _ => ⟨by show (w.st ++ [_])[n]? = _; rw [List.getElem?_append_left (List.getElem?_eq_some_iff.mp h2).1]; exact h2, rfl⟩⟩ Rn rfl (.loc ?_)
  show (w.al ++ [p])[w.st.length]? = some p
  rw [← R.len]; simp
theorem rs_setLcN {i' : Nat} {y : Str} {py spos : Pos} {elt tg iter : Expr} {ifs : List Expr} {scope : Scope} {i : AM} {g : Tg} {t : TM} {m : EM} (own : List (Str × Nat)) (hc : X.calm = true) (hN : X.N.Nodup) (hy : X.N[i']? = some y)
    (hi : RI X W tg iter i) (ok : BlkOk X.N X.env.scope scope own) (hgi : ∀ j, j ∈ g.ix → j ∈ own.map (·.2))
    (hg : ∀ (s : Shared) (H : Hp) (C : Addr) (cl : List (Str × Addr)) (fp : List Addr), PG (X.blk s H scope (compEnvC scope cl C X.env) fp) tg (g.r X.K)) (ht : ∀ (s : Shared) (H : Hp) (C : Addr) (cl : List (Str × Addr)) (fp : List Addr), PTs (X.blk s H scope (compEnvC scope cl C X.env) fp) ifs (tG RlB X W0 t))
    (he : ∀ (s : Shared) (H : Hp) (C : Addr) (cl : List (Str × Addr)) (fp : List Addr), RE (X.blk s H scope (compEnvC scope cl C X.env) fp) W0 elt m) (hs : ∀ x, foldedSetIterable iter X.env x = pure x := by intro _; rfl)
    (hyl : X.env.scope.names.lookup y = some .local := by rfl)
    (hsw : swapsWith (.ListComp elt [⟨tg, iter, ifs, 0⟩] scope pos) (some (.Name y py)) spos.line X.env = pure true := by exact sw_true rfl rfl rfl (by decide +kernel)) :
    RS X W (.Assign [.Name y py] (.ListComp elt [⟨tg, iter, ifs, 0⟩] scope pos) spos) (sSet i' (eLcN i g t m (own.map (·.2)))) := by
  refine ps_imp (ps_setLc (te := tG (RepD X.K X.mg) X W0 m) hc hN hy hyl hsw hi ok hg ht he hs) ?_
  rintro D s H ⟨w, en, rfl, R, E, P⟩
  refine t_lcCore hgi fin_loc s w.hp _ ⟨w, en, rfl, R, E, (PostS.of P E).imp ?_⟩
  rintro v H1 ⟨w1, x, rfl, X1, R1, rx, P1⟩
  exact P1 w1 _ (Ext.refl w1) R1 rfl ((E.ext X1.toEx0).set i' rx)
theorem re_lcC {elt tg iter : Expr} {ifs : List Expr} {scope : Scope} {i : CM} {g : Tg} {t : TM} {m : EM} (own : List (Str × Nat)) (hc : X.calm = true) (hN : X.N.Nodup) (hi : RIc X W tg iter i) (ok : BlkOk X.N X.env.scope scope own) (hgi : ∀ j, j ∈ g.ix → j ∈ own.map (·.2))
    (hg : ∀ (s : Shared) (H : Hp) (C : Addr) (cl : List (Str × Addr)) (fp : List Addr), PG (X.blk s H scope (compEnvC scope cl C X.env) fp) tg (g.r X.K)) (ht : ∀ (s : Shared) (H : Hp) (C : Addr) (cl : List (Str × Addr)) (fp : List Addr), PTs (X.blk s H scope (compEnvC scope cl C X.env) fp) ifs (tG RlB X W0 t))
    (he : ∀ (s : Shared) (H : Hp) (C : Addr) (cl : List (Str × Addr)) (fp : List Addr), RE (X.blk s H scope (compEnvC scope cl C X.env) fp) W0 elt m) (hs : ∀ x, foldedSetIterable iter X.env x = pure x := by intro _; rfl) :
    RE X W (.ListComp elt [⟨tg, iter, ifs, 0⟩] scope pos) (eLcC i g t m (own.map (·.2))) :=
  pe_imp (pe_lc hc hN hi ok hg ht he hs) (t_lcC hgi fin_lst)
def addN (S : Store) (x y : D) : Res D := match rsv S x, rsv S y with
  | .lst l, .lst m => if l.length + m.length ≤ sizeLine then .ok (.loc S.length) (S ++ [.lst (l ++ m)]) else .stuck
  | _, _ => .stuck
def eAddN (a b : EM) : EM := fun e S => (a e S).bind fun x S1 => (b e S1).bind fun y S2 => addN S2 x y
end
end G
namespace G
open PySem L2 PySem.Spec PyProof.Rows
section
variable {X : Cx} {W : WX} {a b e o : Expr} {es : List Expr} {ma mb mc me : EM} {pos apos : Pos} {x : Str} {p : Pos} {j k cn n : Nat} {ps ks : List Str} {f : FM} {gD : List D → List D → List D}
def fmtD : D → Option D
  | .str y => if y.length ≤ sizeLine then some (.str y) else none
  | .int i => if i.natAbs.log2 < 1920 then some (.str (toString i)) else none
  | _ => none
def eFmt (m : EM) : EM := fun e S => (m e S).bind fun x S1 => lf (fmtD x) S1
theorem re_fmt (ha : RE X W a ma) : RE X W (.FormattedValue a (-1) none pos) (eFmt ma) := by
  refine pe_imp (pe_fmt ha) ?_
  rintro s H Q ⟨w, en, rfl, R, E, P⟩
  refine ⟨w, en, rfl, R, E, (Post.bind P).imp ?_⟩
  rintro v H1 ⟨w1, x, rfl, X1, R1, rx, P1⟩
  dsimp only at P1
  unfold fmtD at P1
  split at P1
  · cases rx
    split at P1
    · rename_i hz
      exact .inl ⟨_, rfl, hz, Post.now P1 R1 (.str _)⟩
    · exact False.elim P1
  · cases rx
    split at P1
    · rename_i hz
      exact .inr ⟨_, rfl, hz, Post.now P1 R1 (.str _)⟩
    · exact False.elim P1
  · exact False.elim P1
def jsM : List EM → Str → EM
  | [], acc => fun _ S => .ok (.str acc) S
  | m :: ms, acc => fun e S => (m e S).bind fun x S1 => match x with
    | .str y => if (acc ++ y).length ≤ sizeLine then jsM ms (acc ++ y) e S1 else .stuck
    | _ => .stuck
def eJs (ms : List EM) : EM := jsM ms Str.empty
inductive RJ (X : Cx) (W : WX) : List Expr → List EM → Prop where
  | nil : RJ X W [] []
  | cons {e : Expr} {m : EM} {es : List Expr} {ms : List EM} : RE X W e m → RJ X W es ms → RJ X W (e :: es) (m :: ms)
theorem RJ.pj {es : List Expr} {ms : List EM} (h : RJ X W es ms) : PJ X es (ms.map fun m => tG (RepD X.K X.mg) X W m) := by
  induction h with
  | nil => exact .nil
  | cons r _ ih => exact .cons r ih
theorem t_js : ∀ (ms : List EM) (acc : Str) (s : L2.St) (H : Hp) (Q : VK), tG (RepD X.K X.mg) X W (jsM ms acc) s H Q → tJs (ms.map fun m => tG (RepD X.K X.mg) X W m) acc s H fun out H1 => Q (.str out) H1
  | [], acc, s, H, Q, h => by
    obtain ⟨w, en, rfl, R, E, P⟩ := h
    exact Post.now P R (.str _)
  | m :: ms, acc, s, H, Q, h => by
    obtain ⟨w, en, rfl, R, E, P⟩ := h
    refine ⟨w, en, rfl, R, E, (Post.bind P).imp ?_⟩
    rintro v H1 ⟨w1, x, rfl, X1, R1, rx, P1⟩
    dsimp only at P1
    split at P1
    · cases rx
      split at P1
      · rename_i hz
        exact ⟨_, rfl, hz, t_js ms _ s w1.hp Q ⟨w1, en, rfl, R1, E.ext X1.toEx0, P1⟩⟩
      · exact False.elim P1
    · exact False.elim P1
theorem re_js {v1 v2 : Expr} {rest : List Expr} {ms : List EM} (h : RJ X W (v1 :: v2 :: rest) ms) : RE X W (.JoinedStr (v1 :: v2 :: rest) pos) (eJs ms) :=
  pe_imp (pe_joined h.pj) fun s H Q q => t_js ms Str.empty s H Q q
def fStr : Store → List D → Option D
  | _, [.int i] => if i.natAbs.log2 < 1920 then some (.str (toString i)) else none
  | _, [.str a] => some (.str a)
  | _, _ => none
theorem cm_str : CallR X (.type "str") (CaM X fStr) := by
  intro pins s σ H xs us Q I r h
  obtain ⟨w, ds, E, rfl, R, q, P⟩ := h
  unfold fStr at P
  split at P
  · obtain ⟨v, rfl, rv⟩ := q.one_inv
    cases rv
    split at P
    · rename_i hz
      exact call_str_int pins s σ w.hp _ us Q I r ⟨_, rfl, hz, Post.now P R (.str _)⟩
    · exact False.elim P
  · obtain ⟨v, rfl, rv⟩ := q.one_inv
    cases rv
    exact SkE.call_str_str pins s σ w.hp _ us Q I r ⟨_, rfl, Post.now P R (.str _)⟩
  · exact False.elim P
theorem RoomG.in1 {k : Nat} {A : Around} (h : RoomG (k + 1) A) : RoomG k A.in1 := ⟨h.r.in1, fun q => h.gd (Nat.le_succ_of_le q)⟩
theorem run_in2 {E : L2.St → XK} {fa : Addr} {fd : FuncData} {sp : Sp} {n : Nat} {g : List Value → List Value → List Value} {gV : List V → List V → List V} {pins : List (Addr × Obj)} {s : L2.St} {H : Hp} {sh : Shared} {Q : VK} {us ws : List Value} {vs zs : List V}
    (F : FnG X.prog X.w X.K X.mg X.base k fa fd ps sp) (hr : RoomG (k + 2) X.A) (hb : KBn X.K fd ps n ks g gV) (hx : PassesAt (L2.CX X.prog X.w) X s (E s)) (I : L2.Inv X pins s H sh) (r : Vals vs us) (rz : Vals zs ws) (h1 : vs.length = n) (h2 : zs.length = ks.length) (h : sp (gV vs zs) H Q (E s)) :
    wpAny (model X.prog X.w) X.A.in1.in1 (call (.ref fa) us (ks.zip ws)) (EP X pins s Q) X.xe sh := by
  obtain ⟨b1, b2⟩ := hb
  have h1' : us.length = n := by rw [← r.length]; exact h1
  have h2' : ws.length = ks.length := by rw [← rz.length]; exact h2
  refine wpAny_call (codeAny_mono (F.run X.A.in1.in1 X.stack sh H ⟨us, ks.zip ws⟩ (g us ws) (gV vs zs) Q (E s) hr.in1.in1 I.env0.in1.in1 (b1 sh us ws I.kIn h1' h2') (b2 r rz) h) fun r s' hq => ?_)
  cases r with
  | error y => exact hx pins H sh y s' I hq
  | ok fl =>
    cases fl with
    | ret u => exact I.after hq
    | next => exact False.elim hq
    | brk => exact False.elim hq
    | cont => exact False.elim hq
def strOf (r : Res D) : Res D := r.bind fun y S1 => match y with
  | .str t => .ok (.str t) S1
  | _ => .stuck
def eStrO (cn : Nat) (f : FM) (gD : List D → List D → List D) (m : EM) : EM := fun e S => (aCons m aNil e S).bind fun ds S0 => match ds with
  | [x] => if isCn cn S0 x = true then strOf (f (gD [x] []) S0) else .stuck
  | _ => .stuck
theorem re_strO (c : Cg X W k) (hm0 : X.mg "str" = none) (ha : RE X W a ma) (hF : Dt X.prog X.w X.K X.mg X.base cn "__str__" ps j 0 [] gD f) (hj : j + 2 ≤ k) (hg : Gl X "str" := by rfl)
    (he : starEach [a] X.env = (false, eval a X.env) :: starEach [] X.env := by rfl) :
    RE X W (.Call (.Name "str" p) [a] [] pos) (eStrO cn f gD ma) := by
  obtain ⟨C, fa, fd, g, gV, h1, hc, hm, h3, hR, h4⟩ := hF.ex
  refine ⟨fun pins s σ H Q I h => ?_⟩
  obtain ⟨w, en, rfl, R, E, P⟩ := h
  refine wpAny_Call_Name_kw (ld_blt I hg hm0 (show bootBuiltins "str" = some (.type "str") by rfl) ?_ (by decide) (by decide))
  refine PyProof.Rows.callWith_type1 (thn ((ra_cons ha ra_nil (hs := he)).run pos pins s σ w.hp _ I ⟨w, en, rfl, R, E, Post.bind P⟩) fun us s1 hu => ?_) he (by rfl)
  obtain ⟨vs, H1, I1, r, w1, ds, rfl, X1, R1, rl, P1⟩ := hu
  dsimp only at P1
  split at P1
  · obtain ⟨v, rfl, rv⟩ := rl.one_inv
    split at P1
    · rename_i x hcn
      obtain ⟨ad, C', dx, fs, gs, rfl, h1', hp, rf⟩ := isCn_ins R1 rv hcn
      cases h1.symm.trans h1'
      obtain ⟨u, rfl, ru⟩ := vals1 r
      obtain rfl : u = Value.ref ad := ru
      obtain ⟨mA, O, _⟩ := ins_get I1.hok hp
      obtain ⟨od, J, _⟩ := O.look
      obtain ⟨q1, q2⟩ := hR w1 [x] [.ref ad] [] [] (.cons rv .nil) .nil rfl rfl
      refine PySem.W.kso_call ?_ I1.kIn J hm.at_ hm.fn (wpAny_mono (run_in2 (E := WE W) (us := [.ref ad]) (ws := []) (zs := []) (ks := []) h4 (c.rm.mono hj) h3 (passAt c.tk σ) I1 (vs := [.ref ad]) (.cons rfl .nil) .nil rfl rfl (Q := fun v H => ∃ t, v = .str t ∧ Q v H) ⟨q2, w1, gD [x] [], rfl, R1, q1, ?_⟩) (fun v s' hq => ?_) fun _ _ z => z)
      · have := c.rm.units
        show X.A.units + 1 + 1 < cLine
        omega
      · unfold strOf at P1
        refine (Post.bind P1).imp ?_
        rintro v H1 ⟨w2, y, rfl, X2, R2, ry, P2⟩
        cases y with
        | str t => cases ry; exact ⟨_, rfl, Post.now P2 R2 (.str _)⟩
        | _ => exact False.elim P2
      · obtain ⟨v0, H', I3, rv0, t, rfl, q3⟩ := hq
        obtain ⟨tk, rfl⟩ := rv0
        exact ⟨.str t, H', I3, ⟨tk, rfl⟩, q3⟩
    · exact False.elim P1
  · exact False.elim P1
def dAddE (S : Store) (x y : D) : Option D := match x, y with
  | .tup [], .tup m => some (.tup m)
  | _, _ => dAddS S x y
end
end G
namespace G
open PySem L2 PySem.Spec
def ph4 : List Str := [⟨#[0]⟩, ⟨#[1]⟩, ⟨#[2]⟩, ⟨#[3]⟩]
theorem ph_by {sc : Scope} (h : (ph4.all fun y => (sc.names.lookup y).isNone) = true) : ∀ y ∈ ph4, ¬ Vis sc y := by
  intro y hy hv
  have z := List.all_eq_true.mp h y hy
  have z : sc.names.lookup y = none := Option.isNone_iff_eq_none.mp z
  rcases hv with k | k | k <;> rw [z] at k <;> cases k
open Classical in
noncomputable def eCallV (i f nN : Nat) (cp : List (Option D)) (fk : FM) (m : AM) : EM := fun en S => if en[i]? = some (some (.fa f)) ∧ en.drop nN = cp then (m en S).bind fk else .stuck
structure Act (Z : Cx) (a : Str) (i f nN : Nat) (cp : List (Option D)) (fk : FM) (k : Nat) : Prop where
  one : ∀ {pn : List (Addr × Obj)} {xe : Value → Shared → Prop} {W : WX} {j : Nat}, Cg (Z.tr pn xe) W j → k ≤ j → ∀ {e : Expr} {m : AM} {p1 p2 : Pos}, RA (Z.tr pn xe) W [e] m → starEach [e] Z.env = (false, eval e Z.env) :: starEach [] Z.env →
    RE (Z.tr pn xe) W (.Call (.Name a p1) [e] [] p2) (eCallV i f nN cp fk m)
  zero : ∀ {pn : List (Addr × Obj)} {xe : Value → Shared → Prop} {W : WX} {j : Nat}, Cg (Z.tr pn xe) W j → k ≤ j → ∀ {p1 p2 : Pos}, RE (Z.tr pn xe) W (.Call (.Name a p1) [] [] p2) (eCallV i f nN cp fk aNil)
section
variable {X : Cx} {W : WX} {a b c e o : Expr} {es : List Expr} {ma mb mc me : EM} {pos : Pos} {x : Str} {p : Pos} {j k : Nat} {ps ks : List Str} {f : FM}
theorem slot_w {i fv : Nat} {nm : Str} {w : Wo} {en : En} {pins : List (Addr × Obj)} {s : Shared} {σ : L2.St} {Q : Value → Shared → Prop} (hN : X.N[i]? = some nm) (hv : Vis X.env.scope nm) (hd : (nm == ("__debug__" : Str)) = false) (hcd : (nm == ("__classdict__" : Str)) = false)
    (I : L2.Inv X pins σ w.hp s) (E : RepE X.K X.mg w en σ) (h : en[i]? = some (some (.fa fv))) (hq : ∀ s1, L2.Inv X pins σ w.hp s1 → Q (.ref fv) s1) : wpAny (model X.prog X.w) X.A (eval (.Name nm p) X.env) Q X.xe s := by
  obtain ⟨v, hs, rv⟩ := E.get i _ h
  cases rv
  refine thn ((pe_var (pos := p) (i := i) hN hv hd hcd).run pins s σ w.hp (fun v H1 => v = .ref fv ∧ H1 = w.hp) I ⟨.ref fv, hs, rfl, rfl⟩) ?_
  rintro u s1 ⟨v, H1, I1, r1, rfl, rfl⟩
  obtain rfl : u = Value.ref fv := r1
  exact hq s1 I1
theorem act_glob {Z : Cx} {i nN fv : Nat} {nm : Str} {cp : List (Option D)} (hN : Z.N[i]? = some nm) (hv : Vis Z.env.scope nm) (hd : (nm == ("__debug__" : Str)) = false) (hcd : (nm == ("__classdict__" : Str)) = false) (hF : Df Z.prog Z.w Z.K Z.mg Z.base x ps j f) (hm : Z.mg x = some (.ref fv)) (hp : ps.length = 1) : Act Z nm i fv nN cp (fun ds S => if ds.length = 1 then f ds S else .stuck) j := by
  obtain ⟨fa, fd, h1, h2, h3, h4⟩ := hF.ex
  cases h1.symm.trans hm
  constructor
  · intro pn xe W j' c hj e m p1 p2 ha he
    refine ⟨fun pins s σ H Q I h => ?_⟩
    obtain ⟨w, en, rfl, R, E, P⟩ := h
    unfold eCallV at P
    split at P
    · rename_i hg
      refine wpAny_Call_Name_kw (slot_w (X := Z.tr pn xe) hN hv hd hcd I E hg.1 fun s1 I1 => ?_)
      refine PySem.W.callWith_K (h₀ := Z.base) I1.ok.mod.kin h2 ?_ he (by rfl)
      refine thn (ha.run p2 pins s1 σ w.hp _ I1 ⟨w, en, rfl, R, E, Post.bind P⟩) ?_
      rintro us s2 ⟨vs, H2, I2, r, w2, ds, rfl, X2, R2, rl, P2⟩
      dsimp only at P2
      split at P2
      · rename_i hl
        have hl2 : vs.length = ps.length := by rw [← rl.length, hl, hp]
        have b := h3 s2 us I2.kIn (by rw [List.append_nil, ← r.length]; exact hl2)
        rw [List.append_nil] at b
        refine ⟨I2.kIn, wpAny_call (codeAny_mono (run_fg (X := Z.tr pn xe) (E := WE W) h4 (c.rm.mono hj) b (passAt c.tk σ) I2 r ⟨hl2, w2, ds, rfl, R2, rl, P2⟩) ?_)⟩
        intro res s' z
        cases res with
        | error y => exact z
        | ok fl =>
          cases fl with
          | ret u => exact z
          | _ => exact False.elim z
      · exact False.elim P2
    · exact False.elim P
  · intro pn xe W j' c hj p1 p2
    refine ⟨fun pins s σ H Q I h => ?_⟩
    obtain ⟨w, en, rfl, R, E, P⟩ := h
    unfold eCallV at P
    split at P
    · exact False.elim P
    · exact False.elim P
end
def fnH (n : Nat) (cp : List (Option D)) (m : SM) : FM := fun ds S => match m (enOf n ds ++ cp) S with
  | .nxt _ S' => .ok .non S'
  | .ret d S' => .ok d S'
  | .exc x _ S' => .exc x S'
  | _ => .stuck
section
variable {P : Program} {w0 : World} {K : PySem.W.Frag} {mg : Str → Option Value} {base : Heap}
theorem inv_slots {X : Cx} {pins : List (Addr × Obj)} {σ σ' : List (Option V)} {H : Hp} {s : Shared} (I : L2.Inv X pins σ H s) (hl : σ'.length = σ.length) (h : ∀ (i : Nat) (v : V), σ'[i]? = some (some v) → σ[i]? = some (some v) ∨ ∀ y, X.N[i]? = some y → ¬ Vis X.env.scope y) : L2.Inv X pins σ' H s := by
  obtain ⟨m, hn, hloc⟩ := I.loc
  refine { I with loc := ⟨m, hn, fun i y v e1 e2 e3 => ?_⟩, len := hl.trans I.len }
  rcases h i v e2 with q | q
  · exact hloc i y v e1 q e3
  · exact absurd e3 (q y e1)
theorem RepE.join {w : Wo} {e1 e2 : En} {s1 s2 : L2.St} (h1 : RepE K mg w e1 s1) (h2 : RepE K mg w e2 s2) : RepE K mg w (e1 ++ e2) (s1 ++ s2) := by
  refine ⟨by rw [List.length_append, List.length_append, h1.len, h2.len], fun i d g => ?_⟩
  by_cases hi : i < e1.length
  · rw [List.getElem?_append_left hi] at g
    obtain ⟨v, q, r⟩ := h1.get i d g
    exact ⟨v, by rw [List.getElem?_append_left (by rw [← h1.len]; exact hi)]; exact q, r⟩
  · rw [List.getElem?_append_right (by omega)] at g
    obtain ⟨v, q, r⟩ := h2.get _ d g
    exact ⟨v, by rw [List.getElem?_append_right (by rw [← h1.len]; omega), ← h1.len]; exact q, r⟩
structure FnH (P : Program) (w0 : World) (K : PySem.W.Frag) (mg : Str → Option Value) (base : Heap) (k : Nat) (f : Addr) (fd : FuncData) (N : List Str) (qual : Str) (scope : Scope) (ps : List Str) (a : Str) (i : Nat) (m : Nat → List (Option D) → FM → FM) : Prop where
  run : ∀ (A : Around) (outer : List Env) (s : Shared) (H : Hp) (args : Args) (us : List Value) (vs : List V) (Q : VK) (E : XK) (fv : Nat) (cp : List (Option D)) (cv : List (Option V)) (fk : FM), RoomG (k + 1) A → Env0 P w0 K mg base A outer s H → BindsTo s fd args (ps.zip us) → Vals vs us → vs.length = ps.length → cp.length = 4 →
    (∀ cdv, Act (cxOf (L2.CX P w0) P w0 K mg base (N ++ ph4) qual scope f cdv A outer s H E) a i fv N.length cp fk k) →
    (∃ w ds, w.hp = H ∧ Rep K mg w ∧ RepL K mg w ds vs ∧ RepE K mg w cp cv ∧ Post (RepD K mg) K mg w (m fv cp fk ds w.st) Q E) → codeAny (model P w0) A (.call (.ref f) args) (CR (L2.CX P w0) outer P w0 H s Q E) s
theorem def_okH {x qual : Str} {st : Stmt} {f : Addr} {fd : FuncData} {N ps : List Str} {k i : Nat} {a : Str} {m : Nat → List (Option D) → FM → SM} {dvs : List V} {kws : List (Str × V)} (F : FunD K x qual (defArgs st) (defBody st) (defScope st) dvs kws f fd) (S : FnScope (N ++ ph4) ps (defScope st)) (hps : ps.length ≤ N.length) (hph : ∀ y ∈ ph4, ¬ Vis (defScope st) y)
    (hbody : ∀ (cdv : Value) (A : Around) (outer : List Env) (s : Shared) (H : Hp) (E : XK) (fv : Nat) (cp : List (Option D)) (fk : FM), Cg (cxOf (L2.CX P w0) P w0 K mg base (N ++ ph4) qual (defScope st) f cdv A outer s H E) (fun cls d _ H' => E cls d H') k →
      Act (cxOf (L2.CX P w0) P w0 K mg base (N ++ ph4) qual (defScope st) f cdv A outer s H E) a i fv N.length cp fk k →
      RSs (cxOf (L2.CX P w0) P w0 K mg base (N ++ ph4) qual (defScope st) f cdv A outer s H E) (fun cls d _ H' => E cls d H') (defBody st) (m fv cp fk)) :
    FnH P w0 K mg base k f fd N qual (defScope st) ps a i (fun fv cp fk => fnH N.length cp (m fv cp fk)) := by
  obtain ⟨oc, od, dV, kV, doc, pm, an, cdv, ct, osl, rfl, lk, hcd, _, _⟩ := F.ex
  constructor
  intro A outer s H args us vs Q E fv cp cv fk rm env bnd rel hlv hcl hact hs
  have inn : K.In s.heap := env.mod.kin.keeps fun a o q => (env.bs a o q).1
  have nol : s.heap.NoLimit := env.mod.nolimit.keeps fun a o q => (env.bs a o q).1
  apply codeAny_call_function rm.r.depth (inn _ _ lk) rfl S.co S.gen rfl (PySem.W.codeRec_of inn hcd)
  apply bnd
  apply wpAny_newFunctionEnv_cells S.kind
  · rintro ⟨n, u⟩ hn
    exact (S.par n (List.of_mem_zip hn).1).imp id fun q => ⟨q, PySem.W.cellsFrom_some _ _ _ (.inl q)⟩
  rintro _ rfl s1 nw
  constructor
  · exact nol.keeps nw.toInCall.keep
  have hI := inv_start (CX := L2.CX P w0) (E := E) S rm.r.hd env hlv rel nw
  obtain ⟨w, ds, rfl, R, rl, rc, P1⟩ := hs
  have hcv : cv.length = 4 := by rw [← rc.len]; exact hcl
  have hst : start (N ++ ph4) vs = start N vs ++ List.replicate 4 none := by
    unfold L2.start
    rw [List.append_assoc, List.replicate_append_replicate]
    congr 2
    rw [List.length_append]
    show N.length + 4 - vs.length = N.length - vs.length + 4
    omega
  have hln : (start N vs).length = N.length := by unfold L2.start; simp; omega
  have hI2 : L2.Inv (cxOf (L2.CX P w0) P w0 K mg base (N ++ ph4) qual (defScope st) f cdv A outer s w.hp E) [] (start N vs ++ cv) w.hp s1 := by
    refine inv_slots hI (by rw [hst]; simp [hcv]) fun i v g => ?_
    by_cases hi : i < N.length
    · left
      rw [hst, List.getElem?_append_left (by rw [hln]; exact hi)]
      rw [List.getElem?_append_left (by rw [hln]; exact hi)] at g
      exact g
    · right
      intro y hy
      have hy : (N ++ ph4)[i]? = some y := hy
      rw [List.getElem?_append_right (by omega)] at hy
      exact hph y (List.mem_of_getElem? hy)
  have c : Cg (cxOf (L2.CX P w0) P w0 K mg base (N ++ ph4) qual (defScope st) f cdv A outer s w.hp E) (fun cls d _ H' => E cls d H') k := ⟨rfl, S.nd, takes_of rfl rfl rfl rfl, passes_of rfl, ⟨rm.r.deeper _, fun q => rm.gd (Nat.le_succ_of_le q)⟩, rfl, rfl, rfl⟩
  have ht := hbody cdv A outer s w.hp E fv cp fk c (hact cdv)
  apply codeAny_func
  refine wpAny_mono (ht.run [] s1 _ w.hp { nx := fun _ H' => Q .non H', rt := Q } hI2 ⟨w, enOf N.length ds ++ cp, rfl, R, (RepE.start rl N).join rc, ?_⟩) ?_ fun _ _ z => z
  · unfold fnH at P1
    cases q : m fv cp fk (enOf N.length ds ++ cp) w.st with
    | nxt e S => rw [q] at P1; exact fun w1 s1 x1 R1 st1 _ => P1 w1 .non x1 R1 st1 .non
    | ret d S => rw [q] at P1; exact P1
    | brk e S => rw [q] at P1; exact False.elim P1
    | cnt e S => rw [q] at P1; exact False.elim P1
    | exc y e S => rw [q] at P1; exact fun w1 s1 c1 d1 x1 R1 st1 _ rx => P1 w1 c1 d1 x1 R1 st1 rx
    | stuck => rw [q] at P1; exact P1
  · intro fl s' z
    cases fl with
    | next => obtain ⟨st, H', J, q⟩ := z; exact ⟨V.non, H', J.os, J.bare, J.base, J.hok, rfl, q⟩
    | ret u => obtain ⟨v, st, H', J, rv, q⟩ := z; exact ⟨v, H', J.os, J.bare, J.base, J.hok, rv, q⟩
    | brk => exact False.elim z.choose_spec.choose_spec.2
    | cont => exact False.elim z.choose_spec.choose_spec.2
end
end G
namespace G
open PySem L2 PySem.Spec
inductive RP (X : Cx) (W : WX) : List Expr → AM → Prop where
  | nil : RP X W [] aNil
  | cons {e : Expr} {ma : EM} {es : List Expr} {mr : AM} : RE X W e ma → RP X W es mr → RP X W (e :: es) (aCons ma mr)
noncomputable def uniR {α : Type} [Inhabited α] (F : α → Res D) : Res D := by
  classical exact if ∀ a b, F a = F b then F default else .stuck
theorem uniR_ok {α : Type} [Inhabited α] {F : α → Res D} {r : Res D} (h : ∀ a, F a = r) : uniR F = r := by
  unfold uniR
  rw [if_pos fun a b => (h a).trans (h b).symm]
  exact h _
def oj (o : Option (Option D)) : Option D := match o with
  | some (some d) => some d
  | _ => none
def cpOf (js : List Nat) (en : En) (vs : List V) : List (Option D) := ((js.zip vs).map fun q => (oj en[q.1]?).map (D.pin q.2)) ++ List.replicate (4 - js.length) none
section
variable {X : Cx} {W : WX} {a b c e l : Expr} {es : List Expr} {ma mb mc me : EM} {pos : Pos} {x : Str} {p : Pos} {j k : Nat} {ps ks : List Str} {f : FM}
theorem spl_run {m : AM} {l : Expr} {pins : List (Addr × Obj)} {σ : L2.St} (hp : RP X W es m) : ∀ {s : Shared} {w0 w : Wo} {en : En} {k : List D → Store → Res D} {QD : VK} {G : List Value → Shared → Prop}, L2.Inv X pins σ w.hp s → Rep X.K X.mg w → RepE X.K X.mg w en σ → Ext w0 w →
    Post (RepD X.K X.mg) X.K X.mg w ((m en w.st).bind k) QD (fun cls dd H' => W cls dd σ H') →
    (∀ (us : List Value) (vs : List V) (ds : List D) (s1 : Shared) (w1 : Wo), L2.Inv X pins σ w1.hp s1 → Rep X.K X.mg w1 → RepE X.K X.mg w1 en σ → Ext w0 w1 → Vals vs us → RepL X.K X.mg w1 ds vs → Post (RepD X.K X.mg) X.K X.mg w1 (k ds w1.st) QD (fun cls dd H' => W cls dd σ H') → wpAny (model X.prog X.w) X.A (eval l X.env) (fun v s2 => G (us ++ [v]) s2) X.xe s1) →
    wpAny (model X.prog X.w) X.A (spliced (es.map (fun e => (false, eval e X.env)) ++ [(false, eval l X.env)])) G X.xe s := by
  induction hp with
  | nil =>
    intro s w0 w en k QD G I R E X0 P h
    refine Calls.spliced_cons (thn (h [] [] [] s w I R E X0 .nil .nil P) fun v s2 q => Calls.spliced_nil q)
  | @cons e ma es mr he hr ih =>
    intro s w0 w en k QD G I R E X0 P h
    have P' : Post (RepD X.K X.mg) X.K X.mg w ((ma en w.st).bind fun y S1 => (mr en S1).bind fun ys S2 => k (y :: ys) S2) QD (fun cls dd H' => W cls dd σ H') := by
      have e1 : ((aCons ma mr en w.st).bind k) = (ma en w.st).bind fun y S1 => (mr en S1).bind fun ys S2 => k (y :: ys) S2 := by
        unfold aCons
        cases ma en w.st with
        | ok y S1 => show ((mr en S1).bind _).bind k = (mr en S1).bind _; cases mr en S1 <;> rfl
        | exc _ _ => rfl
        | stuck => rfl
      rw [e1] at P
      exact P
    refine Calls.spliced_cons (thn (he.run pins s σ w.hp _ I ⟨w, en, rfl, R, E, Post.bind P'⟩) ?_)
    rintro u s1 ⟨v, H1, I1, r1, w1, y, rfl, X1, R1, ry, P1⟩
    refine ih (G := fun us s2 => G (u :: us) s2) (w0 := w1) I1 R1 (E.ext X1.toEx0) (Ext.refl w1) P1 fun us vs ds s2 w2 I2 R2 E2 X2 rv rl P2 => ?_
    exact h (u :: us) (v :: vs) (y :: ds) s2 w2 I2 R2 E2 ((X0.trans X1).trans X2) (.cons r1 rv) (.cons (ry.ext X2.toEx0) rl) P2
structure LA (X : Cx) (l : Expr) (js : List Nat) (fkM : En → FM) (tb : Store → Bool) (kk : Nat) : Prop where
  run : ∀ (pins : List (Addr × Obj)) (s : Shared) (σ : L2.St) (w : Wo) (en : En), L2.Inv X pins σ w.hp s → Rep X.K X.mg w → RepE X.K X.mg w en σ → tb w.st = true →
    wpAny (model X.prog X.w) X.A (eval l X.env) (fun u s' => ∃ (fv : Nat) (vs : List V) (w' : Wo), u = .ref fv ∧ L2.Inv X pins σ w'.hp s' ∧ Ext w w' ∧ Rep X.K X.mg w' ∧ w'.st = w.st ∧ vs.length = js.length ∧ RepE X.K X.mg w' (cpOf js en vs) (vs.map some ++ List.replicate (4 - js.length) none) ∧
      ∀ (Ng : List Str) (qg : Str) (sg : Scope) (g : Addr) (cdg : Value) (Eg : XK) (a : Str) (i : Nat), Ng[i]? = some a → Vis sg a → (a == ("__debug__" : Str)) = false → (a == ("__classdict__" : Str)) = false →
        Act (cxOf (L2.CX X.prog X.w) X.prog X.w X.K X.mg X.base (Ng ++ ph4) qg sg g cdg X.A X.stack s' w'.hp Eg) a i fv Ng.length (cpOf js en vs) (fkM en) kk) X.xe s
theorem la_glob (hF : Df X.prog X.w X.K X.mg X.base x ps j f) (hg : Gl X x) (hp : ps.length = 1) (hdb : (x == ("__debug__" : Str)) = false := by decide) : LA X (.Name x p) [] (fun _ ds S => if ds.length = 1 then f ds S else .stuck) (fun _ => true) j := by
  obtain ⟨fa, fd, h1, h2, h3, h4⟩ := id hF.ex
  refine ⟨fun pins s σ w en I R E _ => ld_glob I hg h1 ?_ hdb⟩
  refine ⟨fa, [], w, rfl, I, Ext.refl w, R, rfl, rfl, ⟨rfl, fun i d q => ?_⟩, fun Ng qg sg g cdg Eg a i h5 h6 h7 h8 => ?_⟩
  · have q : (List.replicate 4 (none : Option D))[i]? = some (some d) := q
    rw [List.getElem?_replicate] at q
    split at q <;> cases q
  · exact act_glob (Z := cxOf (L2.CX X.prog X.w) X.prog X.w X.K X.mg X.base (Ng ++ ph4) qg sg g cdg X.A X.stack s w.hp Eg) (by show (Ng ++ ph4)[i]? = some a; rw [List.getElem?_append_left (List.getElem?_eq_some_iff.mp h5).1]; exact h5) h6 h7 h8 hF h1 hp
noncomputable def eCallH (g : Nat → List (Option D) → FM → FM) (js : List Nat) (fkM : En → FM) (tb : Store → Bool) (n : Nat) (m : AM) : EM := fun en S => (m en S).bind fun ds S1 => if tb S1 = true ∧ ds.length = n then uniR (fun q : Nat × { vs : List V // vs.length = js.length } => g q.1 (cpOf js en q.2.1) (fkM en) (ds ++ [.fa q.1]) S1) else .stuck
theorem Act.mono {Z : Cx} {a : Str} {i fv nN k k' : Nat} {cp : List (Option D)} {fk : FM} (h : Act Z a i fv nN cp fk k) (l : k ≤ k') : Act Z a i fv nN cp fk k' :=
  ⟨fun c hj => h.one c (Nat.le_trans l hj), fun c hj => h.zero c (Nat.le_trans l hj)⟩
theorem Post.uni {α : Type} [Inhabited α] {K : PySem.W.Frag} {mg : Str → Option Value} {w : Wo} {F : α → Res D} {Q : VK} {E : XK} (h : Post (RepD K mg) K mg w (uniR F) Q E) (z : α) : Post (RepD K mg) K mg w (F z) Q E := by
  unfold uniR at h
  split at h
  · rename_i hu
    rw [hu z default]; exact h
  · exact False.elim h
structure Dh (P : Program) (w0 : World) (K : PySem.W.Frag) (mg : Str → Option Value) (base : Heap) (x : Str) (ps : List Str) (k : Nat) (m : Nat → List (Option D) → FM → FM) : Prop where
  ex : ∃ f fd N qual scope a i, mg x = some (.ref f) ∧ PySem.W.keepIn K (.ref f) = true ∧ Binds K fd ps [] ∧ N[i]? = some a ∧ Vis scope a ∧ (a == ("__debug__" : Str)) = false ∧ (a == ("__classdict__" : Str)) = false ∧ FnH P w0 K mg base k f fd N qual scope ps a i m
theorem cpOf_len {js : List Nat} {en : En} {vs : List V} (h : vs.length = js.length) (h4 : js.length ≤ 4) : (cpOf js en vs).length = 4 := by
  unfold cpOf
  rw [List.length_append, List.length_map, List.length_zip, List.length_replicate, h]; omega
theorem re_callH {rest : List Expr} {js : List Nat} {fkM : En → FM} {tb : Store → Bool} {kk n : Nat} {mp : AM} {m : Nat → List (Option D) → FM → FM} (c : Cg X W j) (hF : Dh X.prog X.w X.K X.mg X.base x ps k m) (hj : k + 1 ≤ j) (hp : RP X W es mp) (hl : LA X l js fkM tb kk) (hkk : kk ≤ k) (hps : ps.length = n + 1) (hcap : js.length ≤ 4) (hg : Gl X x := by rfl) (hdb : (x == ("__debug__" : Str)) = false := by decide)
    (hargs : backTo pos (starEach (e :: rest) X.env) = es.map (fun e => (false, eval e X.env)) ++ [(false, eval l X.env)] := by rfl) (he : starEach (e :: rest) X.env = (false, eval e X.env) :: starEach rest X.env := by rfl) (hpl : (backTo pos (starEach rest X.env)).any (·.1) = false := by rfl) :
    RE X W (.Call (.Name x p) (e :: rest) [] pos) (eCallH m js fkM tb n mp) := by
  obtain ⟨fa, fd, N, qual, scope, nm, i, h1, h2, h3, hN, hv, hd, hcd, h4⟩ := hF.ex
  refine ⟨fun pins s σ H Q I h => ?_⟩
  obtain ⟨w, en, rfl, R, E, P⟩ := h
  refine wpAny_Call_Name_kw (ld_glob I hg h1 ?_ hdb)
  refine PySem.W.callWith_K (h₀ := X.base) I.ok.mod.kin h2 ?_ he hpl
  rw [hargs]
  refine spl_run hp I R E (Ext.refl w) P fun us vs ds s1 w1 I1 R1 E1 X1 rv rl P1 => ?_
  (try dsimp only at P1)
  split at P1
  · rename_i hgd
    refine thn (hl.run pins s1 σ w1 en I1 R1 E1 hgd.1) ?_
    rintro u s2 ⟨fv, cvs, w2, rfl, I2, X2, R2, st2, hcl, rc, act⟩
    have P2 := (Post.uni P1 (fv, ⟨cvs, hcl⟩)).ext X2
    dsimp only at P2
    rw [← st2] at P2
    have hlen : (vs ++ [V.ref fv]).length = ps.length := by rw [List.length_append, ← rl.length, hgd.2, hps]; rfl
    have rv2 : Vals (vs ++ [V.ref fv]) (us ++ [Value.ref fv]) := rv.append (.cons rfl .nil)
    have b := h3 s2 (us ++ [Value.ref fv]) I2.kIn (by rw [List.append_nil, ← rv2.length]; exact hlen)
    rw [List.append_nil] at b
    refine ⟨I2.kIn, wpAny_call (codeAny_mono (h4.run X.A X.stack s2 w2.hp ⟨us ++ [Value.ref fv], []⟩ (us ++ [Value.ref fv]) (vs ++ [V.ref fv]) Q (WE W σ) fv (cpOf js en cvs) _ (fkM en) (c.rm.mono hj) I2.env0 b rv2 hlen (cpOf_len hcl hcap) (fun cdv => (act N qual scope fa cdv (WE W σ) nm i hN hv hd hcd).mono hkk)
      ⟨w2, ds ++ [.fa fv], rfl, R2, (rl.ext X2.toEx0).append (.cons (.fa fv) .nil), rc, P2⟩) ?_)⟩
    intro res s' z
    cases res with
    | error y => exact passAt c.tk σ pins w2.hp s2 y s' I2 z
    | ok fl =>
      cases fl with
      | ret u => exact I2.after z
      | _ => exact False.elim z
  · exact False.elim P1
end
end G
namespace G
open PySem L2 PySem.Spec PyProof.Rows
abbrev codeZ (c : Addr) (q : Str) (o : Obj) : HO := .frz o (LamX.CodeO c q)
section
variable {X : Cx} {pins : List (Addr × Obj)} {σ : L2.St} {H : Hp} {s : Shared}
theorem inv_grow {P c : Addr} {q : Str} {ps more : Array Value} {h' : Heap} {t' : Nat} {oc : Obj} {vs : Array Value} {t : Tok} (I : L2.Inv X pins σ H s) (hP : H P = some (.tbl ps)) (k : ∀ b o, b ≠ P → s.heap.get? b = some o → h'.get? b = some o)
    (hm : h'.get? P = some { cls := .none, data := .fields (ps ++ more) }) (hc : s.heap.objs.size ≤ c) (h1 : h'.get? c = some oc) (h2 : oc.data = .fields vs) (h3 : vs[1]? = some (.str q t)) :
    L2.Inv X pins σ (upd (upd H P (.tbl (ps ++ more))) c (codeZ c q oc)) { s with heap := h', toks := t' } := by
  have J := LamX.inv_table (q := q) (t' := t') I hP k hm hc ⟨oc, vs, t, h1, h2, h3⟩
  have nC : H c = none := I.hok.fresh hc
  have nPc : P ≠ c := ne_of_none hP nC
  have same : ∀ b, b ≠ c → upd (upd H P (.tbl (ps ++ more))) c (codeZ c q oc) b = upd (upd H P (.tbl (ps ++ more))) c (LamX.CodeO c q) b := fun b hb => by rw [upd_ne hb, upd_ne hb]
  have old : ∀ b u, H b = some u → b ≠ c := fun b u e => ne_of_none e nC
  refine { J with base := ?_, free := ?_, freeC := ?_, pin := ?_, hok := ?_ }
  · have B := J.base
    refine ⟨B.keep, B.slot, fun b o e n hx => ?_, B.there, fun b xs e => ?_, fun b o u e => ?_, fun b qs e => ?_⟩
    · have z := B.free b o e n hx
      by_cases hb : b = c
      · subst hb; rw [upd_same] at z; cases z
      · rw [same b hb]; exact z
    · have z := B.tups b xs e
      by_cases hb : b = c
      · subst hb; rw [upd_same] at z; unfold LamX.CodeO at z; cases z
      · rw [same b hb]; exact z
    · have z := B.frzs b o u e
      by_cases hb : b = c
      · subst hb; rw [upd_same] at z; unfold LamX.CodeO at z; cases z
      · rw [same b hb]; exact z
    · obtain ⟨mo, z⟩ := B.tbls b qs e
      by_cases hb : b = c
      · subst hb; rw [upd_same] at z; unfold LamX.CodeO at z; cases z
      · exact ⟨mo, by rw [same b hb]; exact z⟩
  · have z := J.free
    by_cases hb : X.env.locals = c
    · rw [hb, upd_same] at z; cases z
    · rw [same _ hb]; exact z
  · intro y b e
    have z := J.freeC y b e
    by_cases hb : b = c
    · subst hb; rw [upd_same] at z; cases z
    · rw [same b hb]; exact z
  · intro p hp
    obtain ⟨z1, z2, z3⟩ := J.pin p hp
    refine ⟨z1, ?_, z3⟩
    by_cases hb : p.1 = c
    · rw [hb, upd_same] at z2; cases z2
    · rw [same _ hb]; exact z2
  · intro b u e
    by_cases hb : b = c
    · subst hb
      rw [upd_same] at e
      cases e
      exact ⟨h1, ⟨oc, vs, t, h1, h2, h3⟩, ⟨oc, h1⟩, fun g1 g2 ⟨oc, vs, t, z1, z2, z3⟩ st => ⟨oc, vs, t, st _ z1, z2, z3⟩⟩
    · rw [same b hb] at e
      have z := J.hok b u e
      refine z.stay (fun d v _ q => q) (fun d q => ?_) fun d xs q => ?_
      · by_cases hd : d = c
        · subst hd; rw [upd_same] at q; unfold LamX.CodeO at q; cases q
        · rw [same d hd]; exact q
      · by_cases hd : d = c
        · subst hd; rw [upd_same] at q; unfold LamX.CodeO at q; cases q
        · rw [same d hd]; exact q
theorem lam_new {p : Str × Option Str} {q : Str} {params : Arguments} {body : Expr} {scope : Scope} {lpos : Pos} {w : Wo} {nT : Nat} {Q : Value → Shared → Prop} {E : Value → Shared → Prop} (I : L2.Inv X pins σ w.hp s) (R : Rep X.K X.mg w) (hT : w.st[nT]? = some (.tbl p q)) (hq : X.env.qual ++ "<lambda>" = q)
    (TB : LamX.TabB X.base X.mg (He.cT X.K p).1 (He.cT X.K p).2) (hcode : X.env.code = .ref (He.cT X.K p).1) (hdef : defaultsOf params X.env = ([], [])) (hfree : ∀ y ∈ scope.names, y.2 = .free → ∃ c, X.env.cells.lookup y.1 = some c)
    (h : ∀ (f c' : Addr) (oc : Obj) (pm ctv : Value) (w' : Wo) (s' : Shared), L2.Inv X pins σ w'.hp s' → Ext w w' → Rep X.K X.mg w' → w'.st = w.st → s'.heap.get? f = some (PySem.W.kla_obj "<lambda>" q params body scope (cloFrom X.env.cells scope.names []) pm c' ctv) → w'.hp f = none → f ∉ frs X.stack → w'.hp c' = some (codeZ c' q oc) → Q (.ref f) s') :
    wpAny (model X.prog X.w) X.A (eval (.Lambda params body scope lpos) X.env) Q E s := by
  subst hq
  obtain ⟨P, hal⟩ : ∃ P, w.al[nT]? = some P := by
    have hlt := (List.getElem?_eq_some_iff.mp hT).1
    rw [← R.len] at hlt
    exact ⟨_, List.getElem?_eq_getElem hlt⟩
  obtain ⟨eP, ps, hP, ht, ha⟩ := R.cell nT P _ hal hT
  have zP : Zl w P := .inl ⟨nT, _, hal, hT, by intro z; cases z⟩
  rw [← eP] at TB
  have out : ∀ f, s.heap.objs.size ≤ f → f ∉ frs X.stack := by
    intro f hf z
    rcases List.mem_cons.mp (I.stkSub _ z) with e | e
    · have h1 := I.lt
      rw [← e] at h1
      exact Nat.lt_irrefl _ (Nat.lt_of_lt_of_le h1 hf)
    · exact I.nofs hf e
  refine PySem.W.kla_eval hdef ?_
  cases hc : codeAmong lpos ps.toList with
  | none =>
    refine PySem.W.kla_makeFunction (mg := X.mg) (P := P) (ps := ps) (closure_ok hfree) I.ok.glob (I.mod.glob.keeps I.bk) hcode (TB.code.keeps I.bk) (I.hok P _ hP) ht hc TB.gP (TB.bm.keeps I.bk) ?_
    intro c' ctv h' tk hx hge hlt hrec htb
    obtain ⟨c2, oc, vs, t, e2, hoc, hd, hv⟩ := hrec
    cases e2
    have nC : w.hp c' = none := I.hok.fresh hge
    have nPc : P ≠ c' := ne_of_none hP nC
    have I1 := inv_grow (t' := tk) (more := #[rawInt lpos.line, rawInt lpos.col, .ref c']) (h' := h'.push (PySem.W.kla_obj "<lambda>" (X.env.qual ++ "<lambda>") params body scope (cloFrom X.env.cells scope.names []) ((X.mg "__name__").getD .none) c' ctv)) I hP (fun b o hb e => Heap.get?_push_of_some _ (hx b o hb e)) (Heap.get?_push_of_some _ htb) hge (Heap.get?_push_of_some _ hoc) hd hv
    have cIn : ∀ a, a ∈ w.al → a ≠ c' := fun a h z => by
      obtain ⟨o, e⟩ := R.tr a h
      rw [z, nC] at e; cases e
    have hidIn : ∀ a, a ∈ w.hid → a ≠ c' ∧ a ≠ P := fun a h => by
      obtain ⟨h1, o, e⟩ := R.hid a h
      exact ⟨(fun z => by rw [z, nC] at e; cases e), fun z => h1 (by rw [z]; exact List.mem_of_getElem? hal)⟩
    have X1 : Ext w { w with hp := upd (upd w.hp P (.tbl (ps ++ #[rawInt lpos.line, rawInt lpos.col, .ref c']))) c' (codeZ c' (X.env.qual ++ "<lambda>") oc) } := by
      refine ⟨⟨⟨[], by simp⟩, fun a h => .inl h, fun a o e z => ?_, fun a o e => ?_⟩, rfl, fun a h => ?_, fun n a cc g1 g2 g3 => ⟨g2, ?_⟩⟩
      · show upd (upd _ _ _) _ _ a = _
        rw [upd_ne (ne_of_none e nC), upd_ne (fun q => z (by rw [q]; exact zP))]; exact e
      · by_cases hb : a = P
        · exact ⟨.tbl (ps ++ #[rawInt lpos.line, rawInt lpos.col, .ref c']), by show upd (upd _ _ _) _ _ a = _; rw [hb, upd_ne nPc, upd_same]⟩
        · exact ⟨o, by show upd (upd _ _ _) _ _ a = _; rw [upd_ne (ne_of_none e nC), upd_ne hb]; exact e⟩
      · show upd (upd _ _ _) _ _ a = _
        rw [upd_ne (hidIn a h).1, upd_ne (hidIn a h).2]
      · show upd (upd _ _ _) _ _ a = _
        rw [upd_ne (cIn a (List.mem_of_getElem? g1)), upd_ne fun z => ?_]
        subst z
        cases nd_get R.nd g1 hal
        cases g2.symm.trans hT
        cases g3
    have nzC : ¬ Zl { w with hp := upd (upd w.hp P (.tbl (ps ++ #[rawInt lpos.line, rawInt lpos.col, .ref c']))) c' (codeZ c' (X.env.qual ++ "<lambda>") oc) } c' := by
      rintro (⟨n, cc, g1, _, _⟩ | g)
      · exact cIn c' (List.mem_of_getElem? g1) rfl
      · exact (hidIn c' g).1 rfl
    have R1 : Rep X.K X.mg { w with hp := upd (upd w.hp P (.tbl (ps ++ #[rawInt lpos.line, rawInt lpos.col, .ref c']))) c' (codeZ c' (X.env.qual ++ "<lambda>") oc) } := by
      refine ⟨R.len, R.nd, fun a h => ?_, fun n a cc g1 g2 => ?_, fun a h => ?_⟩
      · obtain ⟨o, e⟩ := R.tr a h
        exact X1.tr a o e
      · by_cases hb : a = P
        · subst hb
          cases nd_get R.nd g1 hal
          cases g2.symm.trans hT
          have eL : (ps ++ #[rawInt lpos.line, rawInt lpos.col, Value.ref c']).toList = ps.toList ++ [rawInt lpos.line, rawInt lpos.col, Value.ref c'] := by simp
          refine ⟨eP, _, by show upd (upd _ _ _) _ _ a = _; rw [upd_ne nPc, upd_same], by rw [eL]; exact PySem.TriplesOk_snoc _ _ _ _ ht, fun p' cv hcv => ?_⟩
          rw [eL] at hcv
          rcases LamX.among_app _ ht hcv with z | z
          · obtain ⟨c0, o0, e1, e2, e3⟩ := ha p' cv z
            exact ⟨c0, o0, e1, X1.keep _ _ e2 e3, e3⟩
          · exact ⟨c', oc, z, upd_same, nzC⟩
        · refine (R.cell n a cc g1 g2).ext X1.toEx0 ?_
          show upd (upd _ _ _) _ _ a = _
          rw [upd_ne (cIn a (List.mem_of_getElem? g1)), upd_ne hb]
      · obtain ⟨h1, o, e⟩ := R.hid a h
        exact ⟨h1, X1.tr a o e⟩
    have hsz : s.heap.objs.size ≤ h'.objs.size := Nat.le_trans hge (Nat.le_of_lt hlt)
    refine h h'.objs.size c' oc ((X.mg "__name__").getD .none) ctv _ _ I1 X1 R1 rfl (Heap.get?_push_size _ rfl) ?_ (out _ hsz) upd_same
    show upd (upd _ _ _) _ _ _ = none
    have n2 : h'.objs.size ≠ P := Nat.ne_of_gt (Nat.lt_of_lt_of_le (Heap.lt_size (show s.heap.get? P = some _ from I.hok P _ hP)) hsz)
    rw [upd_ne (Nat.ne_of_gt hlt), upd_ne n2]
    exact I.hok.fresh hsz
  | some cv =>
    obtain ⟨c', oc, rfl, hco, _⟩ := ha lpos cv hc
    refine PySem.W.kla_makeFunctionHit (mg := X.mg) (P := P) (ps := ps) (closure_ok hfree) I.ok.glob (I.mod.glob.keeps I.bk) hcode (TB.code.keeps I.bk) (I.hok P _ hP) ht hc (TB.bm.keeps I.bk) ?_
    intro ctv h' tk hx hsz
    exact h h'.objs.size c' oc ((X.mg "__name__").getD .none) ctv w _ (I.kept fun b o e => Heap.get?_push_of_some _ (hx b o e)) (Ext.refl w) R rfl (Heap.get?_push_size _ rfl) (I.hok.fresh hsz) (out _ hsz) hco
end
end G
namespace G
open PySem L2 PySem.Spec PyProof.Rows
structure LamP (sc scope : Scope) (prm : Option Str) (caps : List Str) : Prop where
  kind : scope.kind = .function
  co : scope.isCoroutine = false
  gen : scope.isGenerator = false
  cell : ∀ y ∈ scope.names, y.2 ≠ .cell
  loc : ∀ y ∈ scope.names, y.2 = .local → prm = some y.1
  par : ∀ x, prm = some x → scope.names.lookup x = some .local
  free : ∀ y ∈ scope.names, y.2 = .free → sc.names.lookup y.1 = some .cell ∨ sc.names.lookup y.1 = some .free
  cap : ∀ y ∈ caps, scope.names.lookup y = some .free
def lamPB (sc scope : Scope) (prm : Option Str) (caps : List Str) : Bool :=
  decide (scope.kind = .function) && (!scope.isCoroutine && (!scope.isGenerator && ((scope.names.all fun y => !decide (y.2 = .cell) && ((!decide (y.2 = .local) || decide (prm = some y.1)) && (!decide (y.2 = .free) || (decide (sc.names.lookup y.1 = some .cell) || decide (sc.names.lookup y.1 = some .free))))) &&
    ((match prm with | some x => decide (scope.names.lookup x = some .local) | none => true) && caps.all fun y => decide (scope.names.lookup y = some .free)))))
theorem lamP_by {sc scope : Scope} {prm : Option Str} {caps : List Str} (h : lamPB sc scope prm caps = true) : LamP sc scope prm caps := by
  unfold lamPB at h
  simp only [Bool.and_eq_true, decide_eq_true_eq, Bool.not_eq_true', List.all_eq_true, Bool.or_eq_true, decide_eq_false_iff_not] at h
  obtain ⟨h1, h2, h3, h4, h5, h6⟩ := h
  refine ⟨h1, h2, h3, fun y hy => (h4 y hy).1, fun y hy e => ?_, fun x e => ?_, fun y hy e => ?_, h6⟩
  · rcases (h4 y hy).2.1 with z | z
    · exact absurd e z
    · exact z
  · subst e
    exact of_decide_eq_true h5
  · rcases (h4 y hy).2.2 with z | z
    · exact absurd e z
    · exact z
def lamC (X : Cx) (A : Around) (outer : List Env) (s : Shared) (H : Hp) (E : XK) (scope : Scope) (f c' : Addr) (N' : List Str) : Cx := { LamX.lamCx X A outer s H E scope f c' with N := N' }
abbrev lamN (X : Cx) (prm : Option Str) (js : List Nat) : List Str := prm.toList ++ js.map fun j => X.N.getD j Str.empty
section
variable {X : Cx} {pins : List (Addr × Obj)} {σ : L2.St} {H HZ : Hp} {s s1 : Shared}
theorem lam_inv {A : Around} {outer : List Env} {E : XK} {scope : Scope} {f c' : Addr} {prm : Option Str} {js : List Nat} {h₁ : Heap} {tk : Nat} {us : List Value} {vs : List V}
    (I : L2.Inv X pins σ H s) (L : LamP X.env.scope scope prm (js.map fun j => X.N.getD j Str.empty)) (e0 : Env0 X.prog X.w X.K X.mg X.base A outer s1 HZ) (hd : A.handled = none) (un : Un (frs X.stack) [] H HZ s.heap s1.heap) (hj : ∀ j ∈ js, j < X.N.length) (r : Vals vs us) (hl : vs.length = prm.toList.length)
    (hns : h₁.Ns s1.heap.objs.size fun y => (prm.toList.zip us).reverse.lookup y) (kp : ∀ b o, s1.heap.get? b = some o → h₁.get? b = some o) :
    L2.Inv (lamC X A outer s1 HZ E scope f c' (lamN X prm js)) [] (vs.map some ++ js.map fun j => (σ[j]?).join) HZ { s1 with heap := h₁, toks := tk } := by
  have hcell : ∀ y ∈ scope.names, y.2 = .free → ∃ c, X.env.cells.lookup y.1 = some c := by
    intro y hy e
    rcases L.free y hy e with z | z
    · exact I.ok.has _ (.inl z)
    · exact I.ok.has _ (.inr z)
  have up : ∀ {y c}, (cloFrom X.env.cells scope.names []).lookup y = some c → X.env.cells.lookup y = some c := by
    intro y c e
    rcases cloFrom_mem (PySem.mem_of_lookup e) with z | ⟨z1, z2⟩
    · cases z
    · obtain ⟨c1, hc1⟩ := hcell _ z1 rfl
      have hc1 : X.env.cells.lookup y = some c1 := hc1
      rw [hc1] at z2
      have z3 : c = c1 := z2
      rw [z3]; exact hc1
  have down : ∀ {y}, scope.names.lookup y = some .free → ∃ c, (cloFrom X.env.cells scope.names []).lookup y = some c := by
    intro y e
    exact mem_lookup (cloFrom_has (cells := X.env.cells) (acc := []) (PySem.mem_of_lookup e))
  have stays : ∀ {c : Addr} {v : Option Value}, H c = none → s.heap.IsCell c v → h₁.IsCell c v := by
    rintro c v n ⟨o, ho, hd⟩
    obtain ⟨sl, q⟩ := un.any ho n (by simp)
    exact ⟨_, kp _ _ q, hd⟩
  have noex : ∀ b : Addr, b ∉ (lamC X A outer s1 HZ E scope f c' (lamN X prm js)).ex := fun b z => by cases (show b ∈ ([] : List Addr) from z)
  constructor
  · refine ⟨e0.mod, L.kind, rfl, rfl, Nat.le_refl _, ?_, ?_, ?_, fun _ => hd, Around.frames_deeper e0.frames, .inr ⟨rfl, rfl⟩, fun b z => absurd z (noex b), e0.bs, e0.bsz, fun b _ _ => noex b, fun b z => absurd z (noex b), e0.funs, e0.frf⟩
    · exact fun y z c g1 g2 => I.ok.inj y z c (up g1) (up g2)
    · intro y hy
      rcases hy with hy | hy
      · exact absurd rfl (L.cell _ (PySem.mem_of_lookup (show scope.names.lookup y = some .cell from hy)))
      · exact down hy
    · intro y c z
      cases (show false = true from z)
  · rfl
  · exact e0.bare
  · exact Un.kept kp
  · refine ⟨_, hns, fun i y v g1 g2 g3 => ?_⟩
    have g1 : (prm.toList ++ js.map fun j => X.N.getD j Str.empty)[i]? = some y := g1
    have g3 : Vis scope y := g3
    by_cases hi : i < prm.toList.length
    · cases prm with
      | none => exact absurd hi (by simp)
      | some x =>
        have hi0 : i = 0 := by simpa using hi
        subst hi0
        have ey : x = y := Option.some.inj g1
        subst ey
        obtain ⟨v0, rfl⟩ : ∃ v0, vs = [v0] := List.length_eq_one_iff.mp hl
        cases r with
        | cons r1 r2 =>
          cases r2
          have ev : v0 = v := Option.some.inj (Option.some.inj g2)
          subst ev
          exact ⟨_, r1, .inl ⟨L.par x rfl, List.lookup_cons_self⟩⟩
    · rw [List.getElem?_append_right (by omega), List.getElem?_map] at g1
      rw [List.getElem?_append_right (by rw [List.length_map, hl]; omega), List.length_map, hl, List.getElem?_map] at g2
      cases hjt : js[i - prm.toList.length]? with
      | none => rw [hjt] at g1; cases g1
      | some j =>
        rw [hjt] at g1 g2
        have hjl := hj j (List.mem_of_getElem? hjt)
        have ey : X.N.getD j Str.empty = y := by simpa using g1
        have hNj : X.N[j]? = some y := by rw [← ey, List.getD_eq_getElem?_getD, List.getElem?_eq_getElem hjl]; rfl
        have hσ : σ[j]? = some (some v) := by
          have z : (σ[j]?).join = some v := by simpa using g2
          cases q : σ[j]? with
          | none => rw [q] at z; cases z
          | some o => rw [q] at z; cases o with
            | none => cases z
            | some v' => cases z; rfl
        have hy : scope.names.lookup y = some .free := L.cap y (List.mem_map.mpr ⟨j, List.mem_of_getElem? hjt, ey⟩)
        obtain ⟨m, hn, hloc⟩ := I.loc
        have fr := L.free _ (PySem.mem_of_lookup hy) rfl
        obtain ⟨u, ru, q⟩ := hloc j y v hNj hσ (fr.elim (fun z => .inr (.inl z)) fun z => .inr (.inr z))
        obtain ⟨c2, h2⟩ := down hy
        refine ⟨u, ru, .inr ⟨.inr hy, c2, h2, ?_⟩⟩
        have h2' := up h2
        rcases q with ⟨z, _⟩ | ⟨_, c3, z, zc⟩
        · have z : X.env.scope.names.lookup y = some .local := z
          rcases fr with k2 | k2 <;> rw [show X.env.scope.names.lookup y = _ from k2] at z <;> cases z
        · rw [h2'] at z
          cases z
          exact stays (I.freeC y _ h2') zc
  · intro y c g
    obtain ⟨v, z⟩ := I.cell y c (up g)
    exact ⟨v, stays (I.freeC y c (up g)) z⟩
  · exact e0.hok.fresh (Nat.le_refl _)
  · intro y c g
    obtain ⟨v, o, ho, _⟩ := I.cell y c (up g)
    exact un.free c o ho (I.freeC y c (up g)) (by simp)
  · intro p hp
    cases (show p ∈ ([] : List (Addr × Obj)) ++ [] from hp)
  · exact e0.hok.kept kp
  · show (vs.map some ++ js.map fun j => (σ[j]?).join).length = (prm.toList ++ js.map fun j => X.N.getD j Str.empty).length
    simp [hl]
def lamF (js : List Nat) (np : Nat) (mb : EM) : En → FM := fun en ds S => if ds.length = np then mb (ds.map some ++ js.map fun j => oj en[j]?) S else .stuck
def capV (σ : L2.St) (js : List Nat) : List V := js.map fun j => ((σ[j]?).join).getD .non
theorem oj_some {o : Option (Option D)} {d : D} (h : oj o = some d) : o = some (some d) := by
  unfold oj at h
  split at h
  · rw [Option.some.inj h]
  · cases h
theorem capV_get {w : Wo} {en : En} {js : List Nat} {t j : Nat} {d : D} (E : RepE X.K X.mg w en σ) (hj : js[t]? = some j) (h : oj en[j]? = some d) : ∃ v, σ[j]? = some (some v) ∧ (capV σ js)[t]? = some v ∧ RepD X.K X.mg w d v := by
  obtain ⟨v, q, r⟩ := E.get j d (oj_some h)
  refine ⟨v, q, ?_, r⟩
  unfold capV
  rw [List.getElem?_map, hj]
  show some (((σ[j]?).join).getD .non) = some v
  rw [q]; rfl
theorem cp_get {en : En} {js : List Nat} {vs : List V} {t : Nat} {d' : D} (hl : vs.length = js.length) (h : (cpOf js en vs)[t]? = some (some d')) : ∃ j v d, js[t]? = some j ∧ vs[t]? = some v ∧ oj en[j]? = some d ∧ d' = .pin v d := by
  unfold cpOf at h
  by_cases ht : t < js.length
  · rw [List.getElem?_append_left (by simp [hl, ht]), List.getElem?_map] at h
    have e : (js.zip vs)[t]? = some (js[t], vs[t]) := by
      rw [List.getElem?_zip_eq_some]
      exact ⟨List.getElem?_eq_getElem ht, List.getElem?_eq_getElem (by omega)⟩
    rw [e] at h
    have h : (oj en[js[t]]?).map (D.pin vs[t]) = some d' := Option.some.inj h
    obtain ⟨d, h1, h2⟩ := Option.map_eq_some_iff.mp h
    exact ⟨_, _, d, List.getElem?_eq_getElem ht, List.getElem?_eq_getElem (by omega), h1, h2.symm⟩
  · rw [List.getElem?_append_right (by simp [hl]; omega), List.getElem?_replicate] at h
    split at h <;> cases h
theorem cp_at {en : En} {js : List Nat} {vs : List V} {t j : Nat} {v : V} {d : D} (hl : vs.length = js.length) (hj : js[t]? = some j) (hv : vs[t]? = some v) (h : oj en[j]? = some d) : (cpOf js en vs)[t]? = some (some (.pin v d)) := by
  have ht := (List.getElem?_eq_some_iff.mp hj).1
  unfold cpOf
  rw [List.getElem?_append_left (by simp [hl, ht]), List.getElem?_map, (List.getElem?_zip_eq_some.mpr ⟨hj, hv⟩ : (js.zip vs)[t]? = some (j, v))]
  show some ((oj en[j]?).map (D.pin v)) = _
  rw [h]; rfl
theorem cp_rep {w : Wo} {en : En} {js : List Nat} (E : RepE X.K X.mg w en σ) (h4 : js.length ≤ 4) : RepE X.K X.mg w (cpOf js en (capV σ js)) ((capV σ js).map some ++ List.replicate (4 - js.length) none) := by
  have hl : (capV σ js).length = js.length := by unfold capV; simp
  refine ⟨by rw [cpOf_len hl h4]; simp [hl]; omega, fun t d' h => ?_⟩
  obtain ⟨j, v, d, h1, h2, h3, rfl⟩ := cp_get hl h
  obtain ⟨v', q1, q2, r⟩ := capV_get E h1 h3
  cases q2.symm.trans h2
  refine ⟨v, ?_, .pin r⟩
  rw [List.getElem?_append_left (by rw [List.length_map]; exact (List.getElem?_eq_some_iff.mp h2).1), List.getElem?_map, h2]
  rfl
theorem lam_slots {w1 w : Wo} {en enZ : En} {σZ : L2.St} {js : List Nat} {nN : Nat} {ds : List D} {vs : List V} (E1 : RepE X.K X.mg w1 en σ) (EZ : RepE X.K X.mg w enZ σZ) (hz : enZ.drop nN = cpOf js en (capV σ js)) (rl : RepL X.K X.mg w ds vs) :
    RepE X.K X.mg w (ds.map some ++ js.map fun j => oj en[j]?) (vs.map some ++ js.map fun j => (σ[j]?).join) := by
  have hl : (capV σ js).length = js.length := by unfold capV; simp
  refine RepE.join ⟨by rw [List.length_map, List.length_map, rl.length], fun t d h => ?_⟩ ⟨by simp, fun t d h => ?_⟩
  · rw [List.getElem?_map] at h
    cases q : ds[t]? with
    | none => rw [q] at h; cases h
    | some d0 =>
      rw [q] at h
      cases h
      obtain ⟨v, e, r⟩ := rl.get q
      exact ⟨v, by rw [List.getElem?_map, e]; rfl, r⟩
  · rw [List.getElem?_map] at h
    cases hj : js[t]? with
    | none => rw [hj] at h; cases h
    | some j =>
      rw [hj] at h
      have ho : oj en[j]? = some d := Option.some.inj h
      obtain ⟨v, q1, q2, _⟩ := capV_get E1 hj ho
      have hc := cp_at hl hj q2 ho
      rw [← hz, List.getElem?_drop] at hc
      obtain ⟨v', _, rp⟩ := EZ.get _ _ hc
      cases rp with
      | pin r => exact ⟨v, by rw [List.getElem?_map, hj]; show some ((σ[j]?).join) = _; rw [q1]; rfl, r⟩
end
end G
namespace G
open PySem L2 PySem.Spec PyProof.Rows
section
variable {X : Cx} {pins : List (Addr × Obj)} {σ : L2.St} {s1 : Shared} {w1 : Wo} {params : Arguments} {body : Expr} {scope : Scope} {prm : Option Str} {js : List Nat} {mb : EM} {q : Str} {f c' : Addr} {oc : Obj} {pm ctv : Value} {en : En} {kb : Nat}
theorem lam_call {Ng : List Str} {qg : Str} {sg : Scope} {g : Addr} {cdg : Value} {Eg : XK} {pn : List (Addr × Obj)} {xe : Value → Shared → Prop} {W : WX} {j : Nat} {pinsZ : List (Addr × Obj)} {σZ : L2.St} {s3 : Shared} {w3 : Wo} {enZ : En} {us : List Value} {vs : List V} {ds : List D} {Q : VK} {nN : Nat}
    (I1 : L2.Inv X pins σ w1.hp s1) (E1 : RepE X.K X.mg w1 en σ) (L : LamP X.env.scope scope prm (js.map fun j => X.N.getD j Str.empty)) (hj : ∀ j ∈ js, j < X.N.length) (hnd : (lamN X prm js).Nodup) (hq : X.env.qual ++ "<lambda>" = q)
    (hf : s1.heap.get? f = some (PySem.W.kla_obj "<lambda>" q params body scope (cloFrom X.env.cells scope.names []) pm c' ctv)) (hfn : w1.hp f = none) (hfr : f ∉ frs X.stack) (hc : w1.hp c' = some (codeZ c' q oc))
    (hbind : ∀ (us : List Value), us.length = prm.toList.length → bindArgs (PySem.W.kla_fn "<lambda>" q params body scope (cloFrom X.env.cells scope.names []) pm (.ref c') ctv) ⟨us, []⟩ = pure (prm.toList.zip us))
    (hbody : ∀ (A : Around) (outer : List Env) (s : Shared) (H : Hp) (E : XK), Cg (lamC X A outer s H E scope f c' (lamN X prm js)) (fun cls d _ H' => E cls d H') kb → RE (lamC X A outer s H E scope f c' (lamN X prm js)) (fun cls d _ H' => E cls d H') body mb)
    (c : Cg ((cxOf (L2.CX X.prog X.w) X.prog X.w X.K X.mg X.base (Ng ++ ph4) qg sg g cdg X.A X.stack s1 w1.hp Eg).tr pn xe) W j) (hk : kb + 1 ≤ j) (I3 : L2.Inv ((cxOf (L2.CX X.prog X.w) X.prog X.w X.K X.mg X.base (Ng ++ ph4) qg sg g cdg X.A X.stack s1 w1.hp Eg).tr pn xe) pinsZ σZ w3.hp s3)
    (R3 : Rep X.K X.mg w3) (EZ : RepE X.K X.mg w3 enZ σZ) (hz : enZ.drop nN = cpOf js en (capV σ js)) (rv : Vals vs us) (rl : RepL X.K X.mg w3 ds vs) (hlen : ds.length = prm.toList.length)
    (P3 : Post (RepD X.K X.mg) X.K X.mg w3 (mb (ds.map some ++ js.map fun j => oj en[j]?) w3.st) Q (WE W σZ)) :
    wpAny (model X.prog X.w) ((cxOf (L2.CX X.prog X.w) X.prog X.w X.K X.mg X.base (Ng ++ ph4) qg sg g cdg X.A X.stack s1 w1.hp Eg).tr pn xe).A (call (.ref f) us) (EP ((cxOf (L2.CX X.prog X.w) X.prog X.w X.K X.mg X.base (Ng ++ ph4) qg sg g cdg X.A X.stack s1 w1.hp Eg).tr pn xe) pinsZ σZ Q) ((cxOf (L2.CX X.prog X.w) X.prog X.w X.K X.mg X.base (Ng ++ ph4) qg sg g cdg X.A X.stack s1 w1.hp Eg).tr pn xe).xe s3 := by
  subst hq
  have un : Un (frs X.stack) [] w1.hp w3.hp s1.heap s3.heap := I3.base
  have of3 := un.keep f _ hf hfn hfr (fun z => by cases z)
  obtain ⟨_, ⟨oc2, vs2, t2, e1, e2, e3⟩, _⟩ := I3.hok c' _ (un.frzs c' _ _ hc)
  have hlv : vs.length = prm.toList.length := by rw [← rl.length]; exact hlen
  have hlu : us.length = prm.toList.length := by rw [← rv.length]; exact hlv
  have rm := c.rm.mono hk
  have rc : codeAny (model X.prog X.w) (X.A.deeper (envOfC qg sg s1.heap.objs.size g cdg)) (.call (.ref f) ⟨us, []⟩) (CR (L2.CX X.prog X.w) (envOfC qg sg s1.heap.objs.size g cdg :: X.stack) X.prog X.w w3.hp s3 Q (WE W σZ)) s3 := by
    refine PySem.W.kla_callFunE rm.r.depth of3 rfl L.co L.gen rfl ⟨c', oc2, vs2, t2, rfl, e1, e2, e3⟩ ?_
    rw [hbind us hlu]
    refine wpAny_pure (wpAny_newFunctionEnv (fun y hy => L.cell y hy) ?_ ?_ L.kind)
    · rintro ⟨y, u⟩ hy
      have hm := (List.of_mem_zip hy).1
      exact L.par y (by simpa using hm)
    · intro h₁ hns hsb
      refine ⟨I3.nolimit.fresh _ hsb, ?_⟩
      show codeAny _ _ (.expr body (LamX.lamEnv X scope s3.heap.objs.size f c')) _ _
      have kp : ∀ b o, s3.heap.get? b = some o → h₁.get? b = some o := fun b o e => hsb.extBut b o (Nat.ne_of_lt (Heap.lt_size e)) (Heap.get?_push_of_some _ e)
      have J := lam_inv (A := X.A.deeper (envOfC qg sg s1.heap.objs.size g cdg)) (outer := envOfC qg sg s1.heap.objs.size g cdg :: X.stack) (E := WE W σZ) (f := f) (c' := c') (tk := s3.toks + (prm.toList.zip us).length) I1 L I3.env0 rm.r.hd un hj rv hlv hns kp
      have cg : Cg (lamC X (X.A.deeper (envOfC qg sg s1.heap.objs.size g cdg)) (envOfC qg sg s1.heap.objs.size g cdg :: X.stack) s3 w3.hp (WE W σZ) scope f c' (lamN X prm js)) (fun cls d _ H' => WE W σZ cls d H') kb := ⟨rfl, hnd, takes_of rfl rfl rfl rfl, passes_of rfl, ⟨rm.r.deeper _, fun q => rm.gd (Nat.le_succ_of_le q)⟩, rfl, rfl, rfl⟩
      refine PySem.W.kla_codeExpr (wpAny_mono ((hbody _ _ s3 w3.hp (WE W σZ) cg).run [] _ _ w3.hp Q J ⟨w3, _, rfl, R3, lam_slots E1 EZ hz rl, P3⟩) ?_ fun e s' hq => hq)
      rintro v s' ⟨v', H', J', rv', q'⟩
      exact ⟨v', H', J'.os, J'.bare, J'.base, J'.hok, rv', q'⟩
  refine wpAny_call (codeAny_mono rc fun r s' hq => ?_)
  cases r with
  | error e => exact passAt c.tk σZ pinsZ w3.hp s3 e s' I3 hq
  | ok fl =>
    cases fl with
    | ret u => exact I3.after hq
    | next => exact False.elim hq
    | brk => exact False.elim hq
    | cont => exact False.elim hq
theorem act_lam {Ng : List Str} {qg : Str} {sg : Scope} {g : Addr} {cdg : Value} {Eg : XK} {a : Str} {i : Nat}
    (I1 : L2.Inv X pins σ w1.hp s1) (E1 : RepE X.K X.mg w1 en σ) (L : LamP X.env.scope scope prm (js.map fun j => X.N.getD j Str.empty)) (hj : ∀ j ∈ js, j < X.N.length) (hnd : (lamN X prm js).Nodup) (hq : X.env.qual ++ "<lambda>" = q)
    (hf : s1.heap.get? f = some (PySem.W.kla_obj "<lambda>" q params body scope (cloFrom X.env.cells scope.names []) pm c' ctv)) (hfn : w1.hp f = none) (hfr : f ∉ frs X.stack) (hc : w1.hp c' = some (codeZ c' q oc))
    (hbind : ∀ (us : List Value), us.length = prm.toList.length → bindArgs (PySem.W.kla_fn "<lambda>" q params body scope (cloFrom X.env.cells scope.names []) pm (.ref c') ctv) ⟨us, []⟩ = pure (prm.toList.zip us))
    (hbody : ∀ (A : Around) (outer : List Env) (s : Shared) (H : Hp) (E : XK), Cg (lamC X A outer s H E scope f c' (lamN X prm js)) (fun cls d _ H' => E cls d H') kb → RE (lamC X A outer s H E scope f c' (lamN X prm js)) (fun cls d _ H' => E cls d H') body mb)
    (hN : Ng[i]? = some a) (hv : Vis sg a) (hd : (a == ("__debug__" : Str)) = false) (hcd : (a == ("__classdict__" : Str)) = false) :
    Act (cxOf (L2.CX X.prog X.w) X.prog X.w X.K X.mg X.base (Ng ++ ph4) qg sg g cdg X.A X.stack s1 w1.hp Eg) a i f Ng.length (cpOf js en (capV σ js)) (lamF js prm.toList.length mb en) (kb + 1) := by
  have hN' : (Ng ++ ph4)[i]? = some a := by rw [List.getElem?_append_left (List.getElem?_eq_some_iff.mp hN).1]; exact hN
  constructor
  · intro pn xe W j c hk e m p1 p2 ha he
    refine ⟨fun pinsZ sZ σZ HZ Q IZ h => ?_⟩
    obtain ⟨w, enZ, rfl, R, E, P⟩ := h
    unfold eCallV at P
    split at P
    · rename_i hg
      refine wpAny_Call_Name_kw (slot_w (X := (cxOf (L2.CX X.prog X.w) X.prog X.w X.K X.mg X.base (Ng ++ ph4) qg sg g cdg X.A X.stack s1 w1.hp Eg).tr pn xe) hN' hv hd hcd IZ E hg.1 fun s2 I2 => ?_)
      have at_ : ∀ {σ' : L2.St} {H' : Hp} {s' : Shared} {pp : List (Addr × Obj)}, L2.Inv ((cxOf (L2.CX X.prog X.w) X.prog X.w X.K X.mg X.base (Ng ++ ph4) qg sg g cdg X.A X.stack s1 w1.hp Eg).tr pn xe) pp σ' H' s' → s'.heap.get? f = some (PySem.W.kla_obj "<lambda>" q params body scope (cloFrom X.env.cells scope.names []) pm c' ctv) := fun J =>
        (show Un (frs X.stack) [] w1.hp _ s1.heap _ from J.base).keep f _ hf hfn hfr (fun z => by cases z)
      refine PySem.W.callWith_F ⟨_, _, _, _, at_ I2⟩ (thn (ha.run p2 pinsZ s2 σZ w.hp _ I2 ⟨w, enZ, rfl, R, E, Post.bind P⟩) ?_) he (by rfl)
      rintro us s3 ⟨vs, H3, I3, rv, w3, ds, rfl, X3, R3, rl, P3⟩
      refine ⟨⟨_, _, _, _, at_ I3⟩, ?_⟩
      unfold lamF at P3
      split at P3
      · rename_i hlen
        exact lam_call I1 E1 L hj hnd hq hf hfn hfr hc hbind hbody c hk I3 R3 (E.ext X3.toEx0) hg.2 rv rl hlen P3
      · exact False.elim P3
    · exact False.elim P
  · intro pn xe W j c hk p1 p2
    refine ⟨fun pinsZ sZ σZ HZ Q IZ h => ?_⟩
    obtain ⟨w, enZ, rfl, R, E, P⟩ := h
    unfold eCallV at P
    split at P
    · rename_i hg
      refine wpAny_Call_Name_kw (slot_w (X := (cxOf (L2.CX X.prog X.w) X.prog X.w X.K X.mg X.base (Ng ++ ph4) qg sg g cdg X.A X.stack s1 w1.hp Eg).tr pn xe) hN' hv hd hcd IZ E hg.1 fun s2 I2 => ?_)
      have of2 := (show Un (frs X.stack) [] w1.hp _ s1.heap _ from I2.base).keep f _ hf hfn hfr (fun z => by cases z)
      refine PySem.W.callWith_F0 ⟨_, _, _, _, of2⟩ ?_
      replace P : Post (RepD X.K X.mg) X.K X.mg w (lamF js prm.toList.length mb en [] w.st) Q (WE W σZ) := P
      unfold lamF at P
      split at P
      · rename_i hlen
        exact lam_call (us := []) (vs := []) (ds := []) I1 E1 L hj hnd hq hf hfn hfr hc hbind hbody c hk I2 R E hg.2 .nil .nil hlen P
      · exact False.elim P
    · exact False.elim P
def tbS (nT : Nat) (p : Str × Option Str) (q : Str) : Store → Bool := fun S => match S[nT]? with
  | some (.tbl p' q') => decide (p' = p) && decide (q' = q)
  | _ => false
theorem tbS_at {nT : Nat} {p : Str × Option Str} {q : Str} {S : Store} (h : tbS nT p q S = true) : S[nT]? = some (.tbl p q) := by
  unfold tbS at h
  split at h
  · rename_i p' q' e
    rw [Bool.and_eq_true, decide_eq_true_eq, decide_eq_true_eq] at h
    rw [e, h.1, h.2]
  · cases h
theorem la_lam {nT : Nat} {p : Str × Option Str} {lpos : Pos} (L : LamP X.env.scope scope prm (js.map fun j => X.N.getD j Str.empty)) (hj : ∀ j ∈ js, j < X.N.length) (h4 : js.length ≤ 4) (hnd : (lamN X prm js).Nodup) (hq : X.env.qual ++ "<lambda>" = q)
    (TB : LamX.TabB X.base X.mg (He.cT X.K p).1 (He.cT X.K p).2) (hcode : X.env.code = .ref (He.cT X.K p).1) (hdef : defaultsOf params X.env = ([], []))
    (hbind : ∀ (cl : List (Str × Addr)) (pm cv ctv : Value) (us : List Value), us.length = prm.toList.length → bindArgs (PySem.W.kla_fn "<lambda>" q params body scope cl pm cv ctv) ⟨us, []⟩ = pure (prm.toList.zip us))
    (hbody : ∀ (A : Around) (outer : List Env) (s : Shared) (H : Hp) (E : XK) (f c' : Addr), Cg (lamC X A outer s H E scope f c' (lamN X prm js)) (fun cls d _ H' => E cls d H') kb → RE (lamC X A outer s H E scope f c' (lamN X prm js)) (fun cls d _ H' => E cls d H') body mb) :
    LA X (.Lambda params body scope lpos) js (lamF js prm.toList.length mb) (tbS nT p q) (kb + 1) := by
  refine ⟨fun pins s σ w en I R E ht => ?_⟩
  have hfree : ∀ y ∈ scope.names, y.2 = .free → ∃ c, X.env.cells.lookup y.1 = some c := by
    intro y hy e
    rcases L.free y hy e with z | z
    · exact I.ok.has _ (.inl z)
    · exact I.ok.has _ (.inr z)
  refine lam_new I R (tbS_at ht) hq TB hcode hdef hfree ?_
  intro f c' oc pm ctv w' s' I' X' R' st' hf hfn hfr hc
  refine ⟨f, capV σ js, w', rfl, I', X', R', st', by unfold capV; simp, cp_rep (E.ext X'.toEx0) h4, ?_⟩
  intro Ng qg sg g cdg Eg a i h5 h6 h7 h8
  exact act_lam I' (E.ext X'.toEx0) L hj hnd hq hf hfn hfr hc (hbind _ pm _ ctv) (fun A outer s H E' cg => hbody A outer s H E' f c' cg) h5 h6 h7 h8
end
end G
namespace G
open PySem L2 PySem.Spec PyProof.Rows
def st0 (ts : List Mk2) : Store := ts.map fun t => Cell.tbl t.1 t.2
def TBs (K : PySem.W.Frag) (mg : Str → Option Value) (base : Heap) (ts : List Mk2) : Prop := ∀ t ∈ ts, LamX.TabB base mg (He.cT K t.1).1 (He.cT K t.1).2
def spLawT (K : PySem.W.Frag) (ts : List Mk2) : Sp := fun vs H Q _ => ∃ (a : Addr) (ns : List Int), vs = [.ref a] ∧ SqL K H a (ns.map V.int) ∧ ns.length ≤ 63 ∧ (∀ b ∈ al0 K ts, H b = some (.tbl #[]) ∧ K.lookup b = none) ∧ ∀ H', Q (.bl true) H'
section
variable {P : Program} {w0 : World} {K : PySem.W.Frag} {mg : Str → Option Value} {base : Heap}
theorem law_okT {k : Nat} {f : Addr} {fd : FuncData} {x : Str} {m : Nat → FM} {ts : List Mk2} (hnd : (al0 K ts).Nodup) (F : ∀ N, FnG P w0 K mg base k f fd [x] (spM K mg 1 (m N)))
    (h : ∀ ns : List Int, ns.length ≤ 63 → ∃ N S, m N [.scr (ns.map .int)] (st0 ts) = .ok (.bl true) S) : FnG P w0 K mg base k f fd [x] (spLawT K ts) := by
  refine ⟨fun vs H Q E ⟨a, ns, e, _⟩ => by rw [e]; rfl, fun A outer s H args us vs Q E hr he hb hv hs => ?_⟩
  obtain ⟨a, ns, rfl, hq, hl, hT, hQ⟩ := hs
  obtain ⟨N, S, e⟩ := h ns hl
  have R0 : Rep K mg ⟨al0 K ts, st0 ts, H, []⟩ := by
    refine ⟨by unfold al0 st0; simp, hnd, fun b hb => ⟨_, (hT b hb).1⟩, fun n b c h1 h2 => ?_, (fun _ h => by cases h)⟩
    have h1 : (al0 K ts)[n]? = some b := h1
    have h2 : (st0 ts)[n]? = some c := h2
    unfold al0 at h1
    unfold st0 at h2
    rw [List.getElem?_map] at h1 h2
    cases q : ts[n]? with
    | none => rw [q] at h1; cases h1
    | some t =>
      rw [q] at h1 h2
      cases h1
      cases h2
      refine ⟨rfl, #[], (hT _ (List.mem_map.mpr ⟨t, List.mem_of_getElem? q, rfl⟩)).1, True.intro, fun pos cv hc => ?_⟩
      have z : codeAmong pos [] = some cv := hc
      simp [codeAmong] at z
  have hz : ¬ Zl ⟨al0 K ts, st0 ts, H, []⟩ a ∨ ∃ o its n, K.lookup a = some o ∧ o.cls = .type "list" ∧ o.dict = none ∧ o.data = .seq its n ∧ its.size ≤ sizeLine ∧ Vals (ns.map V.int) its.toList := by
    rcases hq with hq | hq
    · left
      rintro (⟨n, c, h1, _, _⟩ | z)
      · have hm : a ∈ al0 K ts := List.mem_of_getElem? h1
        have z := (hT a hm).1
        rcases hq with hq | ⟨o, hq⟩
        · rw [z] at hq; cases hq
        · rw [z] at hq; cases hq
      · cases z
    · obtain ⟨o, its, n, r⟩ := hq
      exact .inr ⟨o, its, n, r⟩
  refine (F N).run A outer s H args us _ Q E hr he hb hv ⟨rfl, ⟨al0 K ts, st0 ts, H, []⟩, [.scr (ns.map .int)], rfl, R0, .cons (.scr ?_ (ints_rep ns)) .nil, ?_⟩
  · rcases hz with hz | hz
    · rcases hq with hq | hq
      · exact .inl ⟨hq, hz⟩
      · exact .inr hq
    · exact .inr hz
  · rw [e]
    intro w' v _ _ _ r
    cases r
    exact hQ _
end
theorem obTT_eq (n : Nat) (fx : List Fx) (fn : List He.DefD) (tf : List He.Defn) (s : PySem.W.SharedT) : obTT n fx fn tf s = (hookT n fx fn tf).obs s.abs := by
  have e : HandSHeadRun.getT s = s.abs.heap.get? := funext (HandSHeadRun.getT_eq s)
  unfold obTT
  rw [e]
  rfl
section
variable {K : PySem.W.Frag} {mg : Str → Option Value}
theorem law_atT {P : Program} {w : World} {mb : Str → Option Value} {k : Nat} {fa a : Addr} {fd : FuncData} {x : Str} {t : Shared} {us : List Value} {ns : List Int} {H : Hp} {ts : List Mk2}
    (KX : K.In t.heap) (hns : t.heap.Ns mainGlobals mg) (hb : t.heap.Ns builtinsNs mb) (hbb : ∀ x : Str, x ≠ "__name__" → mb x = bootBuiltins x) (hlim : t.heap.NoLimit) (hg : t.gens = #[])
    (hbm : ∃ (bm : Addr) (ob : Obj), mg "__builtins__" = some (.ref bm) ∧ bm ≠ builtinsNs ∧ t.heap.get? bm = some ob ∧ ob.cls = .type "module" ∧ ob.dict = some builtinsNs ∧ ob.data = .plain)
    (hhd : ∀ q ∈ ts, PySem.W.codeHdIn K (He.cT K q.1).1 (He.cT K q.1).2 = true) (hout : ∀ b ∈ al0 K ts, K.lookup b = none) (hemp : ∀ b ∈ al0 K ts, t.heap.get? b = some { cls := .none, data := .fields #[] })
    (ha : t.heap.get? a = some { cls := .type "list", data := .seq us.toArray }) (hi : IntsAre us ns) (h63 : ns.length ≤ 63) (hr : Room k callerA)
    (F : ∀ base : Heap, K.In base → base.Ns mainGlobals mg → TBs K mg base ts → FnG P w K mg base k fa fd [x] (spLawT K ts)) (bind : ∀ (s : Shared) (u : Value), BindsTo s fd ⟨[u], []⟩ [(x, u)])
    (hH : ∀ b u, H b = some u → (b = a ∧ K.lookup a = none ∧ u = .frz { cls := .type "list", data := .seq us.toArray } (.lst (ns.map V.int))) ∨ (b ∈ al0 K ts ∧ u = .tbl #[])) (hHt : ∀ b ∈ al0 K ts, H b = some (.tbl #[])) (hS : SqL K H a (ns.map V.int)) :
    codeAny (model P w) callerA (.call (.ref fa) ⟨[.ref a], []⟩) (fun r s' => r = .ok (.ret (.bool true)) ∧ OldK t.heap s'.heap ∧ s'.os = t.os ∧ AllBare s'.gens) t := by
  have ok : HOk P w H t.heap := by
    intro b u z
    rcases hH b u z with ⟨rfl, _, rfl⟩ | ⟨hm, rfl⟩
    · exact ⟨ha, by rw [List.length_map]; exact Nat.le_trans h63 (by decide), us, _, vals_ints hi, ha⟩
    · exact hemp b hm
  have free : ∀ {b : Addr} {o : Obj}, t.heap.get? b = some o → (∀ its n, o.data ≠ .seq its n) → o.data ≠ .fields #[] → H b = none := by
    intro b o e d1 d2
    cases q : H b with
    | none => rfl
    | some u =>
      rcases hH b u q with ⟨rfl, _, _⟩ | ⟨hm, _⟩
      · rw [ha] at e
        cases e
        exact absurd rfl (d1 _ _)
      · rw [hemp b hm] at e
        cases e
        exact absurd rfl d2
  have keep : ∀ {b : Addr} {m : Str → Option Value}, t.heap.Ns b m → (hidT t.heap H).Ns b m := by
    rintro b m ⟨o, es, ep, e, d, r⟩
    exact ⟨o, es, ep, hidT_get e (free e (fun its n z => by rw [d] at z; cases z) fun z => by rw [d] at z; cases z), d, r⟩
  have kin : K.In (hidT t.heap H) := by
    intro b o e
    refine hidT_get (KX b o e) ?_
    cases q : H b with
    | none => rfl
    | some u =>
      rcases hH b u q with ⟨rfl, n, _⟩ | ⟨hm, _⟩
      · rw [n] at e; cases e
      · rw [hout b hm] at e; cases e
  have mem2 : ∀ q ∈ ts, (He.cT K q.1).2 ∈ al0 K ts := fun q hq => List.mem_map.mpr ⟨q, hq, rfl⟩
  have tbs : TBs K mg (hidT t.heap H) ts := by
    intro q hq
    have hP := hemp _ (mem2 q hq)
    refine ⟨PySem.W.codeHd_of_K kin (hhd q hq), ?_, fun z => ?_⟩
    · obtain ⟨bm, ob, b1, b2, b3, b4, b5, b6⟩ := hbm
      refine ⟨bm, ob, b1, b2, fun z => ?_, fun z => ?_, hidT_get b3 (free b3 (fun its n z => by rw [b6] at z; cases z) fun z => by rw [b6] at z; cases z), b4, b5, b6⟩
      · obtain ⟨o, es, ep, e, d, _⟩ := hns
        rw [z, e] at b3; cases b3
        rw [d] at b6; cases b6
      · rw [z, hP] at b3; cases b3; cases b6
    · obtain ⟨o, es, ep, e, d, _⟩ := hns
      rw [z, hP] at e; cases e; cases d
  obtain ⟨mc, l1, l2⟩ := hlim
  have md : Mod K mg (hidT t.heap H) := ⟨kin, keep hns, ⟨mb, keep hb, hbb⟩, ⟨mc, keep l1, l2⟩⟩
  have env : Env0 P w K mg (hidT t.heap H) callerA [] t H := ⟨rfl, md, fun b o e => of_hidT e, Nat.le_of_eq (hidT_size _ _), trivial, (fun b hb => by cases hb), ok, .of_eq hg⟩
  refine codeAny_mono ((F _ kin (keep hns) tbs).run callerA [] t H ⟨[.ref a], []⟩ [.ref a] [.ref a] (fun v _ => v = .bl true) (fun _ _ _ => False) ⟨hr, fun _ => rfl⟩ env (bind t (.ref a)) (.cons rfl .nil) ⟨a, ns, rfl, hS, h63, fun b hm => ⟨hHt b hm, hout b hm⟩, fun _ => rfl⟩) ?_
  intro res s' z
  cases res with
  | error y =>
    obtain ⟨_, _, _, _, _, _, _, _, _, _, _, _, z⟩ := z
    exact False.elim z
  | ok fl =>
    cases fl with
    | ret u =>
      obtain ⟨v, H', hos, hbare, un, ok', rv, rfl⟩ := z
      cases rv
      have big : ∀ b ∈ al0 K ts, ∃ more : Array Value, s'.heap.get? b = some { cls := .none, data := .fields more } := by
        intro b hm
        obtain ⟨more, q⟩ := un.tbls b #[] (hHt b hm)
        exact ⟨_, ok' b _ q⟩
      have kept : ∀ b o, b ∉ al0 K ts → t.heap.get? b = some o → s'.heap.get? b = some o := by
        intro b o hm e
        cases q : H b with
        | none => exact un.keep b o e q (fun z => nomatch z) (by simp)
        | some u =>
          rcases hH b u q with ⟨_, _, rfl⟩ | ⟨h, _⟩
          · have c1 := (ok b _ q).1
            have c2 := (ok' b _ (un.frzs b _ _ q)).1
            rw [e] at c1
            cases c1
            exact c2
          · exact absurd h hm
      refine ⟨rfl, ⟨fun b o e => ?_, fun b o e => ?_⟩, hos, hbare⟩
      · by_cases hm : b ∈ al0 K ts
        · obtain ⟨q, hq, rfl⟩ := List.mem_map.mp hm
          obtain ⟨more, hmo⟩ := big _ hm
          rw [hemp _ hm] at e
          cases e
          exact .inr (.inl ⟨((PySem.W.codeHd_of_K KX (hhd q hq)).tab (hemp _ hm)).isCodeTable, rfl, #[], more, rfl, by rw [Array.empty_append]; exact hmo⟩)
        · exact .inl (kept b o hm e)
      · by_cases hm : b ∈ al0 K ts
        · obtain ⟨more, hmo⟩ := big b hm
          exact ⟨_, hmo⟩
        · exact ⟨o, kept b o hm e⟩
    | _ => exact False.elim z
theorem law_callT {P : Program} {w : World} {mb : Str → Option Value} {k : Nat} {fa a : Addr} {fd : FuncData} {x : Str} {t : Shared} {us : List Value} {ns : List Int} {ts : List Mk2}
    (KX : K.In t.heap) (hns : t.heap.Ns mainGlobals mg) (hb : t.heap.Ns builtinsNs mb) (hbb : ∀ x : Str, x ≠ "__name__" → mb x = bootBuiltins x) (hlim : t.heap.NoLimit) (hg : t.gens = #[])
    (hbm : ∃ (bm : Addr) (ob : Obj), mg "__builtins__" = some (.ref bm) ∧ bm ≠ builtinsNs ∧ t.heap.get? bm = some ob ∧ ob.cls = .type "module" ∧ ob.dict = some builtinsNs ∧ ob.data = .plain)
    (hhd : ∀ q ∈ ts, PySem.W.codeHdIn K (He.cT K q.1).1 (He.cT K q.1).2 = true) (hout : ∀ b ∈ al0 K ts, K.lookup b = none) (hemp : ∀ b ∈ al0 K ts, t.heap.get? b = some { cls := .none, data := .fields #[] })
    (ha : t.heap.get? a = some { cls := .type "list", data := .seq us.toArray }) (hi : IntsAre us ns) (h63 : ns.length ≤ 63) (hr : Room k callerA)
    (F : ∀ base : Heap, K.In base → base.Ns mainGlobals mg → TBs K mg base ts → FnG P w K mg base k fa fd [x] (spLawT K ts)) (bind : ∀ (s : Shared) (u : Value), BindsTo s fd ⟨[u], []⟩ [(x, u)]) :
    codeAny (model P w) callerA (.call (.ref fa) ⟨[.ref a], []⟩) (fun r s' => r = .ok (.ret (.bool true)) ∧ OldK t.heap s'.heap ∧ s'.os = t.os ∧ AllBare s'.gens) t := by
  have rv := vals_ints hi
  have aT : a ∉ al0 K ts := fun z => by
    have q := hemp a z
    rw [ha] at q
    cases q
  cases hk : K.lookup a with
  | some o =>
    have e := KX a o hk
    rw [ha] at e
    cases e
    refine law_atT (H := fun b => if b ∈ al0 K ts then some (.tbl #[]) else none) KX hns hb hbb hlim hg hbm hhd hout hemp ha hi h63 hr F bind (fun b u z => ?_) (fun b hm => if_pos hm) (.inr ⟨_, us.toArray, _, hk, rfl, rfl, rfl, ?_, by simpa using rv⟩)
    · split at z
      · cases z
        exact .inr ⟨by assumption, rfl⟩
      · cases z
    · rw [List.size_toArray, hi.length]
      exact Nat.le_trans h63 (by decide)
  | none =>
    refine law_atT (H := fun b => if b = a then some (.frz { cls := .type "list", data := .seq us.toArray } (.lst (ns.map V.int))) else if b ∈ al0 K ts then some (.tbl #[]) else none) KX hns hb hbb hlim hg hbm hhd hout hemp ha hi h63 hr F bind (fun b u z => ?_) (fun b hm => ?_) (.inl (.inr ⟨_, if_pos rfl⟩))
    · split at z
      · rename_i e
        cases z
        exact .inl ⟨e, hk, rfl⟩
      · split at z
        · cases z
          exact .inr ⟨by assumption, rfl⟩
        · cases z
    · show (if b = a then _ else _) = _
      rw [if_neg (fun z => aT (by rw [← z]; exact hm)), if_pos hm]
theorem walk_endT {l : PySem.W.OpenLaw} {k : Nat} {q : Program} {loose : List Str} {XP : (Str → Option Value) → Heap → Prop} {YP : World → Heap → Prop} {d : DefRec} {x : Str} {fx : List Fx} {fn : List He.DefD} {ts : List Mk2}
    (hn : l.most = some 63) (hdf : d.params.defaults = []) (hd : d.name = "law") (hr : Room k callerA) (hY : ∀ (w : World) (h : Heap), YP w h → ∃ K : PySem.W.Frag, K.In h ∧ SaysT fx fn (ts.map (·.1)) h K)
    (F : ∀ (w : World) (mg : Str → Option Value) (fa : Addr) (h : Heap) (K : PySem.W.Frag), K.In h → SaysX fx fn K → h.Ns mainGlobals mg → mg "law" = some (.ref fa) →
      ∃ fd : FuncData, (∀ (s : Shared) (v : Value), BindsTo s fd ⟨[v], []⟩ [(x, v)]) ∧ ∀ base : Heap, K.In base → base.Ns mainGlobals mg → TBs K mg base ts → FnG l.prog w K mg base k fa fd [x] (spLawT K ts)) :
    PySem.W.WalkO q loose XP YP l.row.toRowW d [] (fun f vs => PySem.call f vs) := by
  refine Att.attach_call hn hdf fun w s₀ s₁ mg mb fa o pm cd doc a vs ns G Y ho hd' hcd hmg hobj hints hlen hg => ?_
  obtain ⟨K, KX, c⟩ := hY w _ Y
  rw [hd] at hmg
  obtain ⟨fd, hb, hF⟩ := F w mg fa _ K KX c.s G.T.g hmg
  refine law_callT KX G.T.g G.T.b G.T.builtins G.T.nolimit hg G.T.bmain (fun q hq => c.hd _ (List.mem_map.mpr ⟨q, hq, rfl⟩)) (fun b hb => ?_) (fun b hb => ?_) hobj hints hlen hr hF hb
  · obtain ⟨q, hq, rfl⟩ := List.mem_map.mp hb
    exact c.out _ (List.mem_map.mpr ⟨q, hq, rfl⟩)
  · obtain ⟨q, hq, rfl⟩ := List.mem_map.mp hb
    exact c.empty _ (List.mem_map.mpr ⟨q, hq, rfl⟩)
theorem def_okL {P : Program} {w0 : World} {base : Heap} {x qual : Str} {st : Stmt} {fd : FuncData} {N ps : List Str} {k : Nat} {m : SM} {dvs : List V} {kws : List (Str × V)} {p : Str × Option Str} (F : FunD K x qual (defArgs st) (defBody st) (defScope st) dvs kws (He.fAd K p) fd) (S : FnScope N ps (defScope st))
    (hbody : ∀ (cdv : Value) (A : Around) (outer : List Env) (s : Shared) (H : Hp) (E : XK), cdv = .ref (He.cT K p).1 → Cg (cxOf (L2.CX P w0) P w0 K mg base N qual (defScope st) (He.fAd K p) cdv A outer s H E) (fun cls d _ H' => E cls d H') k →
      RSs (cxOf (L2.CX P w0) P w0 K mg base N qual (defScope st) (He.fAd K p) cdv A outer s H E) (fun cls d _ H' => E cls d H') (defBody st) m) :
    FnG P w0 K mg base (k + 1) (He.fAd K p) fd ps (spM K mg ps.length (fnM N.length m)) := by
  obtain ⟨oc, od, dV, kV, doc, pm, an, cdv, ct, osl, rfl, lk, hcd, _, _⟩ := F.ex
  obtain ⟨c, rfl⟩ := He.codeIn_ref hcd
  have hc : (He.cT K p).1 = c := He.codeOf_eq lk rfl
  constructor
  · exact fun vs H Q E h => h.1
  intro A outer s H args us vs Q E rm env bnd rel hs
  have inn : K.In s.heap := env.mod.kin.keeps fun a o q => (env.bs a o q).1
  have nol : s.heap.NoLimit := env.mod.nolimit.keeps fun a o q => (env.bs a o q).1
  apply codeAny_call_function rm.r.depth (inn _ _ lk) rfl S.co S.gen rfl (PySem.W.codeRec_of inn hcd)
  apply bnd
  apply wpAny_newFunctionEnv_cells S.kind
  · rintro ⟨n, u⟩ hn
    exact (S.par n (List.of_mem_zip hn).1).imp id fun q => ⟨q, PySem.W.cellsFrom_some _ _ _ (.inl q)⟩
  rintro _ rfl s1 nw
  constructor
  · exact nol.keeps nw.toInCall.keep
  have hI := inv_start (CX := L2.CX P w0) (E := E) S rm.r.hd env hs.1 rel nw
  have ht := hbody (.ref c) A outer s H E (by rw [hc]) ⟨rfl, S.nd, takes_of rfl rfl rfl rfl, passes_of rfl, ⟨rm.r.deeper _, fun q => rm.gd (Nat.le_succ_of_le q)⟩, rfl, rfl, rfl⟩
  obtain ⟨_, w, ds, rfl, R, rl, P1⟩ := hs
  apply codeAny_func
  refine wpAny_mono (ht.run [] s1 _ w.hp { nx := fun _ H' => Q .non H', rt := Q } hI ⟨w, enOf N.length ds, rfl, R, RepE.start rl N, ?_⟩) ?_ fun _ _ z => z
  · unfold fnM at P1
    cases q : m (enOf N.length ds) w.st with
    | nxt e S => rw [q] at P1; exact fun w1 s1 x1 R1 st1 _ => P1 w1 .non x1 R1 st1 .non
    | ret d S => rw [q] at P1; exact P1
    | brk e S => rw [q] at P1; exact False.elim P1
    | cnt e S => rw [q] at P1; exact False.elim P1
    | exc y e S => rw [q] at P1; exact fun w1 s1 c1 d1 x1 R1 st1 _ rx => P1 w1 c1 d1 x1 R1 st1 rx
    | stuck => rw [q] at P1; exact P1
  · intro fl s' z
    cases fl with
    | next => obtain ⟨st, H', J, q⟩ := z; exact ⟨V.non, H', J.os, J.bare, J.base, J.hok, rfl, q⟩
    | ret u => obtain ⟨v, st, H', J, rv, q⟩ := z; exact ⟨v, H', J.os, J.bare, J.base, J.hok, rv, q⟩
    | brk => exact False.elim z.choose_spec.choose_spec.2
    | cont => exact False.elim z.choose_spec.choose_spec.2
end
end G
namespace G
open PySem L2 PySem.Spec PyProof.Rows
theorem meets_enumT (l : Addr) (items : Array Value) (n : Nat) (dct : Option Addr) (sl : Array (Option Value)) :
    Meets (Builtin.«enumerate.__new__» ⟨[.type "enumerate", .ref l], []⟩) (fun _ R s => s.heap.get? l = some { cls := .type "tuple", dict := dct, data := .seq items n, slots := sl } ∧
      R (.ok (.ret (.ref (s.heap.push { cls := .type "tuple_iterator", data := .fields #[.ref l, .int 0 0] }).objs.size)))
        { s with heap := (s.heap.push { cls := .type "tuple_iterator", data := .fields #[.ref l, .int 0 0] }).push { cls := .type "enumerate", data := .fields #[.none, .bool false, .ref s.heap.objs.size, rawInt 0, .none, .none] } }) := by
  refine .of_wp fun prog w A R s h => ?_
  obtain ⟨hp, g, d, tk, os⟩ := s
  obtain ⟨hl, h⟩ := h
  have hsub := sub_enumerate
  have hL : Heap.IsTuple (Shared.heap ⟨hp, g, d, tk, os⟩) l items := ⟨_, hl, rfl, n, rfl⟩
  have q1 : ∀ {A' : Around} {E : Value → Shared → Prop} {Q : Value → Shared → Prop}, Q (.ref hp.objs.size) ⟨hp.push { cls := .type "tuple_iterator", data := .fields #[.ref l, .int 0 0] }, g, d, tk, os⟩ → wpAny (model prog w) A' (pyIter (.ref l)) Q E ⟨hp, g, d, tk, os⟩ :=
    fun q => (begins_tuple l items).iter prog w _ _ ⟨hp, g, d, tk, os⟩ _ hL q
  wp_walk using AutoSeq1.wpAny_loadPart' hl, q1
  refine wpAny_stack_any fun st => wpAny_pure ?_
  split
  · rename_i c _ _ _ _ _
    cases (c == Value.type "enumerate") <;> (wp_walk using AutoSeq1.wpAny_loadPart' hl, q1; exact ⟨_, rfl, h⟩)
  · wp_walk using AutoSeq1.wpAny_loadPart' hl, q1
    exact ⟨_, rfl, h⟩
theorem call_enumT {prog : Program} {w : World} {A : Around} {E : Value → Shared → Prop} {s : Shared} {l : Addr} {items : Array Value} {Q : Value → Shared → Prop} (hL : s.heap.IsTuple l items)
    (h : ∀ h', IsEnum h' (s.heap.objs.size + 1) s.heap.objs.size 0 .none → h'.IsTupleIter s.heap.objs.size l 0 → (∀ b o, s.heap.get? b = some o → h'.get? b = some o) → Q (.ref (s.heap.objs.size + 1)) { s with heap := h' }) :
    wpAny (model prog w) A (call (.type "enumerate") [.ref l]) Q E s := by
  obtain ⟨⟨c, dct, dt, sl⟩, hl, hc, n, hd⟩ := hL
  have hc : c = .type "tuple" := hc
  have hd : dt = .seq items n := hd
  subst hc hd
  have hz : (s.heap.push { cls := .type "tuple_iterator", data := .fields #[.ref l, .int 0 0] }).objs.size = s.heap.objs.size + 1 := Heap.size_push ..
  refine callType_new F.called_enumerate (by decide) (F.typeCall_enumerate_1 _) (F.newCall_enumerate_1 _) (fun obj => F.args_object_init_2 obj _) F.entry_enumerate_new (meets_enumT l items n dct sl) ⟨hl, ?_⟩
  show _ ∧ _
  rw [hz]
  have he : IsEnum ((s.heap.push { cls := .type "tuple_iterator", data := .fields #[.ref l, .int 0 0] }).push { cls := .type "enumerate", data := .fields #[.none, .bool false, .ref s.heap.objs.size, rawInt 0, .none, .none] }) (s.heap.objs.size + 1) s.heap.objs.size 0 .none := by
    have z := Heap.get?_push_size (s.heap.push { cls := .type "tuple_iterator", data := .fields #[.ref l, .int 0 0] }) (o := { cls := .type "enumerate", data := .fields #[.none, .bool false, .ref s.heap.objs.size, rawInt 0, .none, .none] }) rfl
    rw [hz] at z
    exact z
  exact ⟨⟨_, he, rfl⟩, h _ he ⟨_, Heap.get?_push_of_some _ (Heap.get?_push_size _ rfl), rfl, rfl⟩ fun b o z => Heap.get?_push_of_some _ (Heap.get?_push_of_some _ z)⟩
def IteT (K : PySem.W.Frag) (a : Addr) : It where
  go := fun i H => ∃ (xs : List V) (x : V), SqT K H a xs ∧ xs[i]? = some x
  yld := fun i H v H' => ∃ T x, v = .ref T ∧ H T = none ∧ H' = upd H T (.tup [.int (i : Nat), x]) ∧ ∀ xs, SqT K H a xs → xs[i]? = some x
  stop := fun i H => ∃ xs : List V, SqT K H a xs ∧ xs.length = i
theorem turn_enumT {P : Program} {w : World} {K : PySem.W.Frag} {elts : List Expr} {kk : Nat} {tpos : Pos} (a e it : Addr) (items : Array Value) (hae : a ≠ e) (hai : a ≠ it) :
    Turn P w K (.Tuple elts kk tpos) (IteT K a) [e, it] e (fun i h => (∃ old, IsEnum h e it ((i : Nat) : Int) old) ∧ h.IsTupleIter it a i ∧ e ≠ it) where
  mem := by simp
  obj := by
    rintro i h ⟨⟨old, he⟩, ⟨o, ho, hc, hd⟩, _⟩ b hb
    have hb : b = e ∨ b = it := by simpa using hb
    rcases hb with rfl | rfl
    · exact ⟨_, he, fun v q => nomatch q⟩
    · exact ⟨o, ho, fun v q => by rw [hd] at q; cases q⟩
  keep := by
    rintro i h h' ⟨⟨old, he⟩, hi, hne⟩ k
    exact ⟨⟨old, k e (by simp) _ he⟩, hi.at fun o q => k it (by simp) o q, hne⟩
  item := by
    intro X hP hw hK hc i pins s σ H E I hf st hg
    subst hP hw hK
    obtain ⟨⟨old, he⟩, hit, hne⟩ := st
    obtain ⟨xs, x, hq, hx⟩ := hg
    obtain ⟨its, rv, p, hz⟩ := I.tuple hq
    obtain ⟨u, hu, ru⟩ := rv.get hx
    have hel : e < s.heap.objs.size := Heap.lt_size he
    have hil : it < s.heap.objs.size := by obtain ⟨_, q, _⟩ := hit; exact Heap.lt_size q
    have hlt : i < its.toArray.size := by
      have := (List.getElem?_eq_some_iff.mp hu).1
      simpa using this
    refine wpAny_pyNext_enum_itemC (c := (i : Int)) (Draws.tuple (A := X.A.in1) (I.ok.hd hc) it a hai its.toArray) he ⟨hit, p⟩ hlt hne (by simp [hne, Ne.symm hae]) ?_
    intro x' h' tk hx' ho hst' hT hsz hk
    have ex : x' = u := by
      have z : its.toArray[i]? = some u := by simpa using hu
      rw [z] at hx'
      exact (Option.some.inj hx').symm
    subst ex
    refine ⟨_, rfl, wpAny_letOwnedTupleGo_enum (s := { s with heap := h', toks := tk + 1 }) ho fun h'' he' sb => ?_⟩
    have hT2 : h''.get? s.heap.objs.size = some { cls := .type "tuple", data := .seq #[.int i tk, x'] } := (sb.2 _ (Nat.ne_of_gt hel)).trans hT
    have new : ObjOk X.prog X.w (upd H s.heap.objs.size (.tup [.int (i : Nat), x])) h'' s.heap.objs.size (.tup [.int (i : Nat), x]) := ⟨by show 2 ≤ sizeLine; decide, [.int i tk, x'], .cons ⟨_, rfl⟩ (.cons ru .nil), ⟨_, hT2, rfl, _, rfl⟩⟩
    have I1 := I.turnedNew (t' := tk + 1) (h' := h'') (ch := [e, it]) (fun b ob hb q => (sb.2 b (fun z => hb (by simp [z]))).trans (hk b ob (fun z => hb (by simp [z])) (fun z => hb (by simp [z])) q)) hf (Nat.le_refl _) new
    refine ⟨.ref s.heap.objs.size, _, I1, rfl, ⟨_, x, rfl, I.hok.fresh (Nat.le_refl _), rfl, fun ys hy => by rw [I.tuple_inj hy hq]; exact hx⟩, ⟨⟨x', ?_⟩, hst'.1.at fun o q => (sb.2 it (Ne.symm hne)).trans q, hne⟩, fun b hb => ?_⟩
    · have e1 : ((i + 1 : Nat) : Int) = (i : Int) + 1 := by omega
      rw [e1]; exact he'
    · have hb2 : b < s.heap.objs.size := by
        have hb : b = e ∨ b = it := by simpa using hb
        rcases hb with rfl | rfl
        · exact hel
        · exact hil
      rw [upd_ne (Nat.ne_of_lt hb2)]
      exact (hf b hb).1
  done := by
    intro X hP hw hK hc i pins s σ H E I hf st hg
    subst hP hw hK
    obtain ⟨⟨old, he⟩, hit, hne⟩ := st
    obtain ⟨xs, hq, hx⟩ := hg
    obtain ⟨its, rv, p, hz⟩ := I.tuple hq
    obtain ⟨f0, f1, f2, f3, f4, f5⟩ := hf it (by simp)
    have hn : its.toArray.size = i := by rw [List.size_toArray, ← rv.length]; exact hx
    subst hn
    exact wpAny_pyNext_enum_endD (Draws.tuple (A := X.A.in1) (I.ok.hd hc) it a hai its.toArray) he ⟨hit, p⟩ fun h' eb => ⟨rfl, I.turned (t' := s.toks) (fun b o hb q => eb b o hb q) f0 f1 f3 f4 f5⟩
  self := by
    rintro A i s Q E ⟨⟨_, he⟩, _⟩ h
    exact wpAny_pyIter_enum he h
section
variable {X : Cx} {W : WX} {a b c e o : Expr} {ma : EM} {pos : Pos} {p : Pos}
def iEnA (K : PySem.W.Frag) (ta : TA) : TI := fun σ H R => ta σ H fun vs H1 => ∃ a xs, vs = [.ref a] ∧ ((SqL K H1 a xs ∧ R (Ite K a) H1) ∨ (SqT K H1 a xs ∧ R (IteT K a) H1))
theorem pi_enumA {ta : TA} {tpos : Pos} {elts : List Expr} {kk : Nat} (hg : Gl X "enumerate") (hm : X.mg "enumerate" = none) (ha : PA X [e] ta) (hs : starEach [e] X.env = (false, eval e X.env) :: starEach [] X.env := by rfl) :
    PI X (.Tuple elts kk tpos) (.Call (.Name "enumerate" p) [e] [] pos) (iEnA X.K ta) := by
  refine ⟨fun pins s σ H R I h => ?_⟩
  refine Call_ (ld_blt I hg hm boot_enumerate (PyProof.Rows.callWith_type1 (thn (ha.run pos pins s σ H _ I h) fun us s1 hu => ?_) hs rfl))
  obtain ⟨vs, H1, I1, r1, a, xs, rfl, q⟩ := hu
  obtain ⟨u, rfl, ru⟩ := vals1 r1
  obtain rfl : u = Value.ref a := ru
  have out : ∀ b, b = s1.heap.objs.size + 1 ∨ b = s1.heap.objs.size → s1.heap.objs.size ≤ b := by
    rintro b (rfl | rfl)
    · exact Nat.le_succ _
    · exact Nat.le_refl _
  rcases q with ⟨hq, q⟩ | ⟨hq, q⟩
  · obtain ⟨its, rv, p', hz⟩ := I1.list hq
    refine call_enumerate_list p'.isList fun h' he hit hsz hk => wpAny_pyIter_enum he ?_
    refine ⟨s1.heap.objs.size + 1, [s1.heap.objs.size + 1, s1.heap.objs.size], _, _, H1, rfl, I1.kept (t' := s1.toks) hk, turn_enum a (s1.heap.objs.size + 1) s1.heap.objs.size, ⟨⟨.none, he⟩, hit, Nat.succ_ne_self _⟩, fun b hb => ?_, q⟩
    have hle := out b (by simpa using hb)
    exact I1.fpOk hle (I1.hok.fresh hle)
  · obtain ⟨its, rv, p', hz⟩ := I1.tuple hq
    have hlt : a < s1.heap.objs.size := by obtain ⟨_, z, _⟩ := p'; exact Heap.lt_size z
    refine call_enumT p' fun h' he hit hk => wpAny_pyIter_enum he ?_
    refine ⟨s1.heap.objs.size + 1, [s1.heap.objs.size + 1, s1.heap.objs.size], _, _, H1, rfl, I1.kept (t' := s1.toks) hk, turn_enumT a (s1.heap.objs.size + 1) s1.heap.objs.size its.toArray (Nat.ne_of_lt (Nat.lt_succ_of_lt hlt)) (Nat.ne_of_lt hlt), ⟨⟨.none, he⟩, hit, Nat.succ_ne_self _⟩, fun b hb => ?_, q⟩
    have hle := out b (by simpa using hb)
    exact I1.fpOk hle (I1.hok.fresh hle)
def enumD (l : List D) : List D := l.zipIdx.map fun q => .tup [.int (q.2 : Nat), q.1]
theorem enumD_get {l : List D} {i : Nat} {d : D} (h : l[i]? = some d) : (enumD l)[i]? = some (.tup [.int (i : Nat), d]) := by
  unfold enumD
  rw [List.getElem?_map, List.getElem?_zipIdx, h]
  simp
theorem enumD_len (l : List D) : (enumD l).length = l.length := by unfold enumD; simp
theorem its_enumT {w : Wo} {l : List D} {a : Addr} {vs : List V} (s1 : ∀ w2, Ex0 w w2 → SqT X.K w2.hp a vs) (r1 : RepL X.K X.mg w l vs) : ItsR X w (enumD l) (IteT X.K a) := by
  intro w2 x2 _ R2
  have q1 := s1 w2 x2
  have e1 := r1.length
  refine ⟨fun i hi => ⟨?_, fun x H' y => ?_⟩, ⟨vs, q1, by rw [enumD_len]; omega⟩⟩
  · rw [enumD_len] at hi
    exact ⟨vs, vs[i]'(by omega), q1, by simp⟩
  · obtain ⟨T, x1, rfl, hT, rfl, g1⟩ := y
    obtain ⟨d1, k1, rd1⟩ := r1.getV (g1 vs q1)
    have xp := put_ext (o := .tup [.int (i : Nat), x1]) R2 hT
    exact ⟨w2.put T (.tup [.int (i : Nat), x1]), .tup [.int (i : Nat), d1], rfl, xp, R2.put hT, rfl, rfl, enumD_get k1, .tup (.inl (put_st R2 hT).o) (.cons (.int _) (.cons ((rd1.ext x2).ext xp.toEx0) .nil))⟩
theorem its_enumL {w : Wo} {l : List D} {a : Addr} {vs : List V} (s1 : ∀ w2, Ex0 w w2 → SqL X.K w2.hp a vs) (r1 : RepL X.K X.mg w l vs) : ItsR X w (enumD l) (Ite X.K a) := by
  intro w2 x2 _ R2
  have q1 := s1 w2 x2
  have e1 := r1.length
  refine ⟨fun i hi => ⟨?_, fun x H' y => ?_⟩, ⟨vs, q1, by rw [enumD_len]; omega⟩⟩
  · rw [enumD_len] at hi
    exact ⟨vs, vs[i]'(by omega), q1, by simp⟩
  · obtain ⟨T, x1, rfl, hT, rfl, g1⟩ := y
    obtain ⟨d1, k1, rd1⟩ := r1.getV (g1 vs q1)
    have xp := put_ext (o := .tup [.int (i : Nat), x1]) R2 hT
    exact ⟨w2.put T (.tup [.int (i : Nat), x1]), .tup [.int (i : Nat), d1], rfl, xp, R2.put hT, rfl, rfl, enumD_get k1, .tup (.inl (put_st R2 hT).o) (.cons (.int _) (.cons ((rd1.ext x2).ext xp.toEx0) .nil))⟩
def enR (ds : List D) (S : Store) : Res (List D) := match ds with
  | [.tup l] => .ok (enumD l) S
  | [.lst l] => .ok (enumD l) S
  | _ => .stuck
def iEnum (m : AM) : AM := fun e S => (m e S).bind enR
theorem ri_enum {m : AM} {elts : List Expr} {kk : Nat} {tpos : Pos} (hm : X.mg "enumerate" = none) (ha : RA X W [a] m) (hg : Gl X "enumerate" := by rfl) (hs : starEach [a] X.env = (false, eval a X.env) :: starEach [] X.env := by rfl) :
    RI X W (.Tuple elts kk tpos) (.Call (.Name "enumerate" p) [a] [] pos) (iEnum m) := by
  refine ⟨fun pins s σ H R' I h => (pi_enumA hg hm ha hs).run pins s σ H R' I ?_⟩
  obtain ⟨w, en, rfl, R, E, P⟩ := h
  refine ⟨w, en, rfl, R, E, (Post.bind P).imp ?_⟩
  rintro vs H1 ⟨w1, ds, rfl, X1, R1, rx, P1⟩
  unfold enR at P1
  split at P1
  · obtain ⟨v, rfl, rv⟩ := rx.one_inv
    cases rv with
    | tup s1 r1 => exact ⟨_, _, rfl, .inr ⟨s1.sq, Post.now P1 R1 (its_enumT (fun w2 x2 => (s1.ext x2).sq) r1)⟩⟩
  · obtain ⟨v, rfl, rv⟩ := rx.one_inv
    cases rv with
    | lst s1 r1 => exact ⟨_, _, rfl, .inl ⟨SqL.of s1.1, Post.now P1 R1 (its_enumL (fun w2 x2 => SqL.of (s1.ext x2).1) r1)⟩⟩
  · exact False.elim P1
end
end G
namespace G
open PySem L2 PySem.Spec
section
variable {X : Cx} {W : WX} {a b c e o : Expr} {es : List Expr} {ma mb mc me : EM} {ta tb : TM} {pos apos : Pos} {x : Str} {p : Pos} {j k : Nat}
variable {K : PySem.W.Frag} {mg : Str → Option Value} {w : Wo}
def lrOk (i : Int) : Prop := i ≤ 16777216 ∧ -(2 ^ 62) ≤ i
open Classical in
noncomputable def lrR (d : D) (S : Store) : Res (List D) := match d with
  | .int i => if lrOk i then .ok (rangeD 0 i.toNat) S else .stuck
  | _ => .stuck
noncomputable def eLr (m : EM) : EM := fun e S => (m e S).bind fun d S1 => (lrR d S1).bind fun l S2 => .ok (.lst l) S2
noncomputable def eLrN (m : EM) : EM := fun e S => (m e S).bind fun d S1 => (lrR d S1).bind fun l S2 => .ok (.loc S2.length) (S2 ++ [.lst l])
theorem rgV_rep {w : Wo} (n : Int) : RepL K mg w (rangeD 0 n.toNat) (rgV 0 n) := by
  unfold rangeD rgV
  rw [Int.sub_zero]
  induction (List.range n.toNat) with
  | nil => exact .nil
  | cons i l ih => exact .cons (.int _) ih
theorem re_lr {p2 pos2 : Pos} (hc : X.calm = true) (hm : X.mg "list" = none) (hm2 : X.mg "range" = none) (ha : RE X W a ma) (hg : Gl X "list" := by rfl) (hg2 : Gl X "range" := by rfl)
    (na : starEach [a] X.env = (false, eval a X.env) :: starEach [] X.env := by rfl) (nb : starEach [.Call (.Name "range" p2) [a] [] pos2] X.env = (false, eval (.Call (.Name "range" p2) [a] [] pos2) X.env) :: starEach [] X.env := by rfl) :
    RE X W (.Call (.Name "list" p) [.Call (.Name "range" p2) [a] [] pos2] [] pos) (eLr ma) := by
  refine pe_imp (pe_listRg hc hg hm (prg_1 hg2 hm2 ha na) nb) ?_
  rintro s H Q ⟨w, en, rfl, R, E, P⟩
  refine ⟨w, en, rfl, R, E, (Post.bind P).imp ?_⟩
  rintro v H1 ⟨w1, d, rfl, X1, R1, rd, P1⟩
  dsimp only at P1
  unfold lrR at P1
  split at P1
  · rename_i i
    cases rd
    split at P1
    · rename_i hi
      obtain ⟨hi1, hi2⟩ := hi
      refine ⟨i, rfl, ⟨by omega, by omega, by omega, by omega, by omega⟩, fun q hq => ?_⟩
      exact Post.put P1 R1 hq (.lst (put_st R1 hq) (rgV_rep i))
    · exact False.elim P1
  · exact False.elim P1
def seqT (S : Store) (y : D) : Option (List D) := match y with
  | .tup l => some l
  | _ => seqD S y
def popR (x : D) (xs : List D) (S : Store) : Res D := match x, xs with
  | .loc n, [.int i] => match S[n]? with
    | some (.lst l) => match seqIndex? i l.length with
      | some k => match l[k]? with
        | some y => if -(2 ^ 63) ≤ i ∧ i < 2 ^ 63 then .ok y (S.set n (.lst (l.eraseIdx k))) else .stuck
        | none => .stuck
      | none => .stuck
    | _ => .stuck
  | _, _ => .stuck
def ePop (a : EM) (m : AM) : EM := fun e S => (a e S).bind fun x S1 => if isLst S1 x then (m e S1).bind fun xs S2 => popR x xs S2 else .stuck
theorem RepL.eraseIdx {l : List D} {vs : List V} (h : RepL K mg w l vs) : ∀ k, RepL K mg w (l.eraseIdx k) (vs.eraseIdx k) := by
  induction h using RepL.rec (motive_1 := fun _ _ _ => True) (motive_3 := fun _ _ _ => True) with
  | nil => exact fun k => .nil
  | cons r t _ ih =>
    intro k
    cases k with
    | zero => exact t
    | succ k => exact .cons r (ih k)
  | _ => trivial
def augR (i : Nat) (e : En) (x y : D) (S : Store) : SRes := match x with
  | .int m => match y with
    | .int n => .nxt (e.set i (some (.int (m + n)))) S
    | _ => .stuck
  | .loc n => match S[n]?, lstOf S y with
    | some (.lst l), some zs => if l.length + zs.length ≤ sizeLine then .nxt (e.set i (some (.loc n))) (S.set n (.lst (l ++ zs))) else .stuck
    | _, _ => .stuck
  | _ => .stuck
def sAug (i : Nat) (m : EM) : SM := fun e S => match e[i]? with
  | some (some x) => sE (m e S) e fun y S1 => augR i e x y S1
  | _ => .stuck
theorem rs_aug {i : Nat} {x : Str} {pos' : Pos} (hN : X.N.Nodup) (hi : X.N[i]? = some x) (he : RE X W e me) (hx : Loc X.env.scope x := by first | exact Or.inl rfl | exact Or.inr rfl) (hf : X.fn x = true ∨ X.env.scope.names.lookup x = some .local := by first | exact .inl rfl | exact .inr rfl | assumption) :
    RS X W (.AugAssign (.Name x pos') .Add e pos) (sAug i me) := by
  have op : PIp X .Add (fun x y H Q => (∃ m n, x = .int m ∧ y = .int n ∧ Q (.int (m + n)) H) ∨ rExt2 x y H Q) := by
    intro pins s σ H x y v u Q I rx ry h
    rcases h with ⟨m, n, rfl, rfl, q⟩ | h
    · exact iop_add pins s σ H _ _ v u Q I rx ry ⟨m, n, rfl, rfl, q⟩
    · exact iop_ext pins s σ H _ _ v u Q I rx ry h
  refine ps_imp (ps_aug hN hi hx he op hf) ?_
  rintro D s H ⟨w, en, rfl, R, E, P⟩
  unfold sAug at P
  split at P
  · rename_i dx hdx
    obtain ⟨vx, hs, rx⟩ := E.get i dx hdx
    refine ⟨vx, hs, w, en, rfl, R, E, (PostS.of P E).imp ?_⟩
    rintro v H1 ⟨w1, y, rfl, X1, R1, ry, P1⟩
    have rx1 := rx.ext X1.toEx0
    have E1 := E.ext X1.toEx0
    dsimp only at P1
    unfold augR at P1
    split at P1
    · split at P1
      · cases rx1; cases ry
        exact .inl ⟨_, _, rfl, rfl, P1 w1 _ (Ext.refl w1) R1 rfl (E1.set i (.int _))⟩
      · exact False.elim P1
    · rename_i n
      split at P1
      · rename_i l zs hl hz
        split at P1
        · rename_i hlen
          cases rx1 with
          | @loc _ a hn =>
            obtain ⟨vs, p1, r1⟩ := R1.cell _ _ _ hn hl
            have ez : rsv w1.st y = .lst zs := by
              unfold lstOf at hz
              split at hz
              · rename_i l' e'
                cases hz
                exact e'
              · cases hz
            obtain ⟨b, us, rfl, p2, r2⟩ := ry.lstV R1 ez
            have Xw : Ext w1 (w1.wr n a (.lst (vs ++ us)) (.lst (l ++ zs))) := wr_ext R1 hn hl (by intro z; cases z)
            refine .inr ⟨a, b, vs, us, rfl, rfl, p1, p2, by rw [← r1.length, ← r2.length]; exact hlen, ?_⟩
            exact P1 (w1.wr n a (.lst (vs ++ us)) (.lst (l ++ zs))) _ Xw (R1.wr hn hl (by intro z; cases z) ⟨_, upd_same, (r1.append r2).ext Xw.toEx0⟩) rfl ((E1.ext Xw.toEx0).set i (.loc (Xw.get hn)))
        · exact False.elim P1
      · exact False.elim P1
    · exact False.elim P1
  · exact False.elim P
theorem RepD.dpS {d : D} {v : V} {p : PyData} (R : Rep K mg w) (h : RepD K mg w d v) (e : (rsv w.st d).toP = some p) : Dp K w.hp v p := by
  cases h with
  | @loc n a hn =>
    have e : ((match w.st[n]? with | some (.lst l) => D.lst l | _ => .loc n) : D).toP = some p := e
    split at e
    · rename_i l hl
      obtain ⟨vs, p1, r1⟩ := R.cell _ _ _ hn hl
      rw [D.toP] at e
      obtain ⟨ps, e1, rfl⟩ := Option.map_eq_some_iff.mp e
      exact .lst (SqL.of p1) (r1.dp e1)
    · rw [D.toP] at e; cases e
  | non => exact RepD.dp (mg := mg) .non e
  | bl b => exact RepD.dp (mg := mg) (.bl b) e
  | int i => exact RepD.dp (mg := mg) (.int i) e
  | str x => exact RepD.dp (mg := mg) (.str x) e
  | tup s r => exact RepD.dp (.tup s r) e
  | lst s r => exact RepD.dp (.lst s r) e
  | scr s r => exact RepD.dp (.scr s r) e
  | dic s z r => exact RepD.dp (.dic s z r) e
  | ins g s r => exact RepD.dp (.ins g s r) e
  | exc g s x r => exact RepD.dp (.exc g s x r) e
  | fa a => exact RepD.dp (mg := mg) (.fa a) e
  | pin r => exact RepD.dp (.pin r) e
def eqS (S : Store) (x y : D) : Option Bool := eqP (rsv S x) (rsv S y)
theorem eqS_pre {dx dy : D} {x y : V} {r : Bool} (R : Rep X.K X.mg w) (qx : RepD X.K X.mg w dx x) (qy : RepD X.K X.mg w dy y) (h : eqS w.st dx dy = some r) : ∃ p q, Dp X.K w.hp x p ∧ Dp X.K w.hp y q ∧ SeqAt.shaped p = true ∧ SeqAt.shaped q = true ∧ PyData.eqv p q = r := by
  unfold eqS eqP at h
  split at h
  · rename_i p q e1 e2
    split at h
    · rename_i hs
      rw [Bool.and_eq_true] at hs
      exact ⟨p, q, qx.dpS R e1, qy.dpS R e2, hs.1, hs.2, Option.some.inj h⟩
    · cases h
  · cases h
def dEqS (S : Store) (x y : D) : Option D := (eqS S x y).map .bl
theorem om_eqS (hu : X.A.units + 64 < cLine) : OpR X (compareOp .Eq) (OpMS X dEqS) := by
  intro pins s σ H x y v u Q I rx ry h
  obtain ⟨w, dx, dy, E, rfl, R, qx, qy, P⟩ := h
  unfold dEqS at P
  cases e : eqS w.st dx dy with
  | none => rw [e] at P; exact False.elim P
  | some r =>
    rw [e] at P
    obtain ⟨p, q, h1, h2, h3, h4, rfl⟩ := eqS_pre R qx qy e
    exact op_eqD hu pins s σ w.hp _ _ v u Q I rx ry ⟨p, q, h1, h2, h3, h4, Post.now P R (.bl _)⟩
end
end G
namespace G
open PySem L2 PySem.Spec
section
variable {X : Cx} {W : WX} {l e1 e2 e3 : Expr} {m1 m2 m3 : EM} {pos : Pos} {x : Str} {p : Pos} {j k kk : Nat} {ps : List Str} {js : List Nat} {fkM : En → FM} {tb : Store → Bool} {m : Nat → List (Option D) → FM → FM}
theorem re_callH2 (c : Cg X W j) (hF : Dh X.prog X.w X.K X.mg X.base x ps k m) (hj : k + 1 ≤ j) (h1 : RE X W e1 m1) (h2 : RE X W e2 m2) (hl : LA X l js fkM tb kk) (hkk : kk ≤ k) (hps : ps.length = 3) (hcap : js.length ≤ 4) (hg : Gl X x := by rfl) (hdb : (x == ("__debug__" : Str)) = false := by decide)
    (hargs : backTo pos (starEach [e1, e2, l] X.env) = [(false, eval e1 X.env), (false, eval e2 X.env), (false, eval l X.env)] := by rfl) (he : starEach [e1, e2, l] X.env = (false, eval e1 X.env) :: starEach [e2, l] X.env := by rfl) (hpl : (backTo pos (starEach [e2, l] X.env)).any (·.1) = false := by rfl) :
    RE X W (.Call (.Name x p) [e1, e2, l] [] pos) (eCallH m js fkM tb 2 (aCons m1 (aCons m2 aNil))) := re_callH c hF hj (.cons h1 (.cons h2 .nil)) hl hkk hps hcap hg hdb hargs he hpl
end
end G
namespace G
open PySem L2 PySem.Spec PyProof.Rows
section
variable {prog : Program} {w : World} {A : Around} {E : Value → Shared → Prop} {s : Shared}
theorem parts_lst {t : Addr} {items : Array Value} {Q : List Value → Shared → Prop} (hh : A.handled = none) (ht : s.heap.IsList t items)
    (hQ : ∀ h', Heap.ExtBut s.heap.objs.size s.heap h' → Q items.toList { s with heap := h' }) : wpAny (model prog w) A (unpackItems (.ref t) items.size none) Q E s := by
  have hlt : t ≠ s.heap.objs.size := by obtain ⟨o, ho, _⟩ := ht; exact Nat.ne_of_lt (Heap.lt_size ho)
  unfold unpackItems
  refine wpAny_bind ?_
  unfold notIterableAtAll
  refine wpAny_bind (wpAny_specialOf ht.typeIs F.slot_list_iter.lookup ?_)
  refine wpAny_pure ?_
  simp only [Bool.false_eq_true, if_false]
  refine wpAny_bind (wpAny_holding (wpAny_pyIter_list ht ?_))
  refine wpAny_bind (wpAny_holding (draw_lst hlt items.size 0 _ _ ⟨_, Heap.get?_push_size _ rfl, rfl, rfl⟩ (ht.push _) (by omega) fun h1 it1 s1 => ?_))
  have hall : List.take items.size (List.drop 0 items.toList) = items.toList := by
    rw [List.drop_zero]; exact List.take_of_length_le (by simp)
  rw [hall, if_neg (by simp)]
  have ht1 : h1.IsList t items := (ht.push _).extBut s1.extBut hlt
  refine wpAny_bind (wpAny_holding (wpAny_pyNext_list_end hh it1 ht1 (by simp) fun h2 e2 => ?_))
  simp only [Option.isSome_none, Bool.false_eq_true, if_false]
  exact wpAny_pure (hQ h2 fun b o hb e => e2 b o hb (s1.extBut b o hb (Heap.get?_push_of_some _ e)))
end
section
variable {X : Cx} {W : WX} {pos : Pos}
def gLst (K : PySem.W.Frag) (n : Nat) (t : TGs) : TG := fun v σ H Q => ∃ a xs, v = .ref a ∧ SqL K H a xs ∧ xs.length = n ∧ t xs σ H Q
theorem pg_lst {es : List Expr} {k : Nat} {t : TGs} {n : Nat} (hc : X.calm = true) (h : PGs X es t)
    (hn : (assignEach es X.env).length = n := by rfl) (hst : (assignEach es X.env).findIdx? (·.1) = none := by rfl) : PG X (.Tuple es k pos) (gLst X.K n t) := by
  refine ⟨fun pins s σ H v u Q I r hw => ?_⟩
  obtain ⟨a, xs, e1, hq, hl, hw⟩ := hw
  subst e1
  cases r
  obtain ⟨its, rv, ht, hz⟩ := I.list hq
  rw [assign_Tuple]
  refine wpAny_bind (wpAny_standAt ?_)
  unfold unpack
  have e2 : (assignEach es X.env).length = its.toArray.size := by simp [hn, ← hl, rv.length]
  rw [e2, hst]
  refine wpAny_bind (wpAny_holding (parts_lst (I.ok.hd hc) ht.isList fun h' hx => ?_))
  have I1 : L2.Inv X pins σ H { s with heap := h' } := I.kept (t' := s.toks) fun b o e => hx b o (Nat.ne_of_lt (Heap.lt_size e)) e
  exact h.run pins _ σ H xs _ Q I1 (by simpa using rv) hw
def gSq (n : Nat) (r : GMs) : GM := fun d e S => match d with
  | .tup ds => if ds.length = n then r ds e S else .stuck
  | .lst ds => if ds.length = n then r ds e S else .stuck
  | .loc j => match S[j]? with
    | some (.lst ds) => if ds.length = n then r ds e S else .stuck
    | _ => .stuck
  | _ => .stuck
theorem pg_two {tg : Expr} {t1 t2 : TG} (h1 : PG X tg t1) (h2 : PG X tg t2) : PG X tg (fun v σ H Q => t1 v σ H Q ∨ t2 v σ H Q) :=
  ⟨fun pins s σ H v u Q I r q => q.elim (fun q => h1.run pins s σ H v u Q I r q) (fun q => h2.run pins s σ H v u Q I r q)⟩
theorem rg_seq {ts : List Expr} {k n : Nat} {r : GMs} (hc : X.calm = true) (h : RGs X W ts r) (hn : (assignEach ts X.env).length = n := by rfl) (hst : (assignEach ts X.env).findIdx? (·.1) = none := by rfl) : RG X W (.Tuple ts k pos) (gSq n r) := by
  refine pg_imp (pg_two (pg_tup hc h hn hst) (pg_lst hc h hn hst)) ?_
  rintro v s H Q ⟨w, en, d, rfl, R, E, rd, P⟩
  unfold gSq at P
  split at P
  · split at P
    · rename_i hl
      cases rd with
      | tup st rl => exact .inl ⟨_, _, rfl, st.sq, by rw [← rl.length]; exact hl, w, en, _, rfl, R, E, rl, P⟩
    · exact False.elim P
  · split at P
    · rename_i hl
      obtain ⟨a, vs, rfl, q, rl⟩ := rd.seq R rfl
      exact .inr ⟨a, vs, rfl, q, by rw [← rl.length]; exact hl, w, en, _, rfl, R, E, rl, P⟩
    · exact False.elim P
  · rename_i j
    split at P
    · rename_i ds e
      split at P
      · rename_i hl
        obtain ⟨a, vs, rfl, q, rl⟩ := rd.seq R (l := ds) (by unfold seqD; simp only [e])
        exact .inr ⟨a, vs, rfl, q, by rw [← rl.length]; exact hl, w, en, _, rfl, R, E, rl, P⟩
      · exact False.elim P
    · exact False.elim P
  · exact False.elim P
end
end G
namespace G
open PySem L2 PySem.Spec
section
variable {X : Cx} {W : WX} {a b c e o : Expr} {es : List Expr} {ma mb mc me : EM} {ta tb : TM} {pos apos : Pos} {x : Str} {p : Pos} {j k : Nat}
variable {K : PySem.W.Frag} {mg : Str → Option Value} {w : Wo}
def eListN (m : EM) : EM := fun e S => (m e S).bind fun d S1 => (lf (seqT S1 d) S1).bind fun l S2 => .ok (.loc S2.length) (S2 ++ [.lst l])
def eRev (m : EM) : EM := fun e S => (m e S).bind fun d S1 => (lf (seqD S1 d) S1).bind fun l S2 => .ok (.lst l.reverse) S2
end
end G
namespace G
open PySem L2 PySem.Spec
structure Fam (B nw ini : String) (tl : List Value) : Prop where
  f : ExcBaseFacts B nw ini tl
  p : ∀ self : Value, refuseLoop self "__setattr__" tl = pure ()
  o : tl.contains (.type "object") = true
  e : tl.isEmpty = false
theorem fam_ValueError : Fam "ValueError" "ValueError.__new__" "ValueError.__init__" bmValueError := ⟨PySem.F.excBase_ValueError, PySem.F.store_ValueError.passes, by decide +kernel, rfl⟩
structure XoC (K : PySem.W.Frag) (C : Addr) (nw : String) (tl : List Value) : Prop where
  cls : ∃ nm q N bs bm sn sub ab col dd k0 k1 k2 k3 k5, K.lookup C = some (excClassObj nm q C N bs bm true sn sub ab col dd k0 k1 k2 k3 k5 nw) ∧ PySem.W.excTail tl bm = true
  sa : PySem.W.findIn K (.ref C) "__setattr__" = some (some (.builtin "object.__setattr__"))
  exC : PySem.W.subIn K (.ref C) (.type "BaseException") = some true
  tyC : PySem.W.typeIn K (.ref C) = some (.type "type")
  kC : PySem.W.keepIn K (.ref C) = true
section
open Builtin Builtin.ObjectAttr
variable {prog : Program} {w : World} {A : Around} {R : Result → Shared → Prop} {hp : Heap} {g : Array GenState} {d : Drawn} {t : Nat} {os : OsState} {tl : List Value}
theorem osa_first {K : W.Frag} {n : Str} {tk : Tok} {u : Value} {x C : Addr} {fv : Array Value} {cd : ClassData} (KX : K.In hp) (hx : hp.get? x = some { cls := .ref C, data := .fields fv }) (hcd : W.clsIn K C = some cd)
    (hm : W.excTail tl cd.mro = true) (hne : tl.isEmpty = false) (hto : tl.contains (.type "object") = true) (htp : ∀ self : Value, refuseLoop self "__setattr__" tl = pure ()) (hh : cd.hasDict = true) (hno : W.findIn K (.ref C) n = some none)
    (hq : ∀ h' tk' dx, (∀ b o, b ≠ x → hp.get? b = some o → h'.get? b = some o) → hp.objs.size ≤ dx → dx ≠ x → h'.get? x = some { cls := .ref C, dict := some dx, data := .fields fv } → h'.Ns1 dx (fun y => if y = n then some u else none) → R (.ok (.ret .none)) ⟨h', g, d, tk', os⟩) :
    codeAny (model prog w) A (.call (.builtin "object.__setattr__") ⟨[.ref x, .str n tk, u], []⟩) R ⟨hp, g, d, t, os⟩ := by
  have J : W.InstAt hp x { cls := .ref C, data := .fields fv } C none := ⟨hx, rfl, rfl, trivial⟩
  have G0 := F.store_object
  have ne : cd.mro.isEmpty = false := by
    cases q : cd.mro with
    | nil =>
      rw [q] at hm
      have : [] = tl := beq_iff_eq.mp hm
      rw [← this] at hne; cases hne
    | cons _ _ => rfl
  have hob : cd.mro.contains (.type "object") = true := (W.excTail_contains "object" _ hm).trans hto
  have hxs : x ≠ hp.objs.size := Nat.ne_of_lt (Heap.lt_size hx)
  have sb : W.Looks (model prog w) hp (isInstance (.ref x) (.type "object")) true := J.type.andThen (W.looks_mroIn KX (by unfold W.mroIn; rw [hcd, Option.bind_some, if_neg (by rw [ne]; decide), hob]))
  refine codeAny_call_builtin G0.slot.plain G0.entry (@W.check_slot (model prog w) _ _ ⟨hp, g, d, t, os⟩ "object.__setattr__" "object" "__setattr__" (.ref x) [.str n tk, u] [] _ G0.kind G0.split sb (G0.args (.ref x) (.str n tk) u) ?_)
  have lm : W.Looks (model prog w) hp (mroOf (.ref C)) cd.mro := (W.looks_clsIn KX hcd).andThen .now
  have l3 : W.Looks (model prog w) hp (storeTaker? none) none := .now
  have lc : W.Looks (model prog w) hp (classData C) cd := W.looks_clsIn KX hcd
  rw [W.osa_eq, refuse_eq]
  refine wpAny_bind (wpAny_bind (J.type.at (wpAny_bind (lm.at ?_))))
  rw [W.excTail_pass _ (htp _) _ hm]
  refine wpAny_pure (wpAny_bind (J.type.at (wpAny_bind ((W.looks_findIn KX hno).at (wpAny_bind (l3.at ?_))))))
  show wpAny _ _ (storeInOwnDict (.ref x) (.ref C) (.str n tk) n u false) _ _ _
  obtain ⟨c1, c2, c3, c4, c5, c6, c7, c8, c9, c10, c11⟩ := cd
  dsimp only at hh
  subst hh
  unfold storeInOwnDict ownDictForStores
  repeat (first | with_reducible refine HandSPX.store_in_new ?_ ?_ | with_reducible refine wpAny_loadPart_at hx ?_ | with_reducible refine lc.at ?_ | wp_step)
  · exact ⟨_, #[], _, (Heap.get?_update_ne _ _ _ _ hxs.symm).trans (Heap.get?_push_at rfl rfl), rfl, (fun e he => absurd he (by simp)), fun _ => rfl⟩
  · intro h' tk' hn' hs
    have hx1 : (hp.push { cls := .type "dict", data := .dict #[] }).get? x = some { cls := .ref C, data := .fields fv } := Heap.get?_push_of_some _ hx
    refine hq h' tk' hp.objs.size (fun b o hb ho => ?_) (Nat.le_refl _) hxs.symm ?_ hn'
    · exact (hs.2 b (Nat.ne_of_lt (Heap.lt_size ho))).trans ((Heap.get?_update_ne _ _ _ _ hb).trans (Heap.get?_push_of_some _ ho))
    · exact (hs.2 x hxs).trans (Heap.get?_update_self _ hx1 rfl)
end
section
variable {X : Cx} {pins : List (Addr × Obj)} {σ : L2.St} {H : Hp} {s : Shared} {a C : Addr} {f : Str} {y : V} {u : Value} {E : Value → Shared → Prop} {A : Around} {B nw ini : String} {tl : List Value}
theorem ost_first {Q : Unit → Shared → Prop} (T : XoC X.K C nw tl) (Y : Fam B nw ini tl) (I : L2.Inv X pins σ H s) (e : H a = some (exo a C none)) (hno : PySem.W.findIn X.K (.ref C) f = some none) (ry : RelV y u)
    (h : ∀ dx s', H dx = none → dx ≠ a → L2.Inv X pins σ (upd (upd H dx (exd dx [(f, y)])) a (exo a C (some dx))) s' → Q () s') : wpAny (model X.prog X.w) A (setAttr (.ref a) f u) Q E s := by
  obtain ⟨nm, q, N, bs, bm, sn, sub, ab, col, dd, k0, k1, k2, k3, k5, hC, hbm⟩ := T.cls
  have hcl : PySem.W.clsIn X.K C = some { name := nm, bases := bs, mro := .ref C :: bm, ns := N, qualname := q, hasDict := true, slotNames := sn, subclasses := sub, abstract := ab, collection := col, hasDel := false } := by unfold PySem.W.clsIn; rw [hC] <;> rfl
  obtain ⟨t1, ho⟩ := exo_at I.hok e
  obtain ⟨hp, g, d, t, os⟩ := s
  refine PySem.W.set_plain I.kIn (od := none) (ox := { cls := .ref C, dict := none, data := .fields #[.ref t1, .none, .none, .none, .bool false, .none] }) ⟨ho, rfl, rfl, trivial⟩ T.sa ?_
  refine osa_first I.kIn ho hcl (tl := tl) (show PySem.W.excTail tl (.ref C :: bm) = true from hbm) Y.e Y.o Y.p rfl hno (fun h' tk' dx k dn dne hx hn => ?_)
  have fd : H dx = none := I.hok.fresh dn
  have nd : ∀ {b : Addr} {o : Obj}, hp.get? b = some o → b ≠ dx := fun {b o} z => Nat.ne_of_lt (Nat.lt_of_lt_of_le (Heap.lt_size z) dn)
  have na : ∀ {b : Addr}, H b = none → b ≠ a := fun {b} n z => by rw [z, e] at n; cases n
  have U : Un X.fs [] H (upd (upd H dx (exd dx [(f, y)])) a (exo a C (some dx))) hp h' := {
    keep := fun b o z n _ _ => k b o (na n) z
    slot := fun b o z n _ _ => ⟨o.slots, k b o (na n) z⟩
    free := fun b o z n _ => by rw [upd_ne (na n), upd_ne (nd z)]; exact n
    there := fun b o z _ => by
      by_cases hb : b = a
      · subst hb; exact ⟨_, hx⟩
      · exact ⟨o, k b o hb z⟩
    tups := fun b xs z => by rw [upd_ne (at_ne e z exo_tup), upd_ne (ne_of_none z fd)]; exact z
    frzs := fun b o v z => by rw [upd_ne (at_ne e z exo_frz), upd_ne (ne_of_none z fd)]; exact z
    tbls := fun b ps z => ⟨#[], by rw [upd_ne (at_ne e z exo_tbl), upd_ne (ne_of_none z fd), z]; simp⟩ }
  refine h dx _ fd dne (I.un (t' := tk') U fun b o z => ?_)
  by_cases hb : b = a
  · subst hb
    rw [upd_same] at z; cases z
    exact exo_ok hx
  · rw [upd_ne hb] at z
    by_cases hd : b = dx
    · subst hd
      rw [upd_same] at z; cases z
      exact exd_ok hn (relO_put (fs := []) ry fun _ => True.intro)
    · rw [upd_ne hd] at z
      refine (I.hok b o z).stay (fun c v hc q => k c v ?_ q) (fun c hc => ?_) (fun c xs hc => ?_)
      · rcases hc with hc | hc
        · rw [hc]; exact hb
        · exact at_ne e hc exo_own
      · rw [upd_ne (at_ne e hc exo_own), upd_ne (ne_of_none hc fd)]; exact hc
      · rw [upd_ne (at_ne e hc exo_tup), upd_ne (ne_of_none hc fd)]; exact hc
theorem ini_first {us : List Value} {Q : Value → Shared → Prop} (T : XoC X.K C nw tl) (Y : Fam B nw ini tl) (I : L2.Inv X pins σ H s) (e : H a = some (exo a C none)) (hl : us.length ≤ sizeLine) (h : ∀ s', L2.Inv X pins σ H s' → Q .none s') :
    wpAny (model X.prog X.w) A (call (.builtin ini) (.ref a :: us)) Q E s := by
  obtain ⟨nm, q, N, bs, bm, sn, sub, ab, col, dd, k0, k1, k2, k3, k5, hC, hbm⟩ := T.cls
  obtain ⟨t1, ho⟩ := exo_at I.hok e
  obtain ⟨hp, g, d, t, os⟩ := s
  refine wpAny_call (PySem.HandSPX.init_base Y.f (fun z => PySem.W.excTail_contains z bm hbm) (I.kIn _ _ hC) ho hl fun h' t2 k hx => ?_)
  have J := I.write (t' := t) (x := a) (e := a) (o := exo a C none) (by rw [e]; exact True.intro) (.inl rfl) k ⟨_, hx⟩ (exo_ok hx)
  have eu : upd H a (exo a C none) = H := funext fun b => if hb : b = a then by rw [hb, upd_same, e] else by rw [upd_ne hb]
  exact h _ (eu ▸ J)
end
def tBi (K : PySem.W.Frag) (nw : String) (tl : List Value) (ta : TA) : TE := fun σ H Q => ta σ H fun vs H1 => ∃ (a C : Addr) (ws : List V), vs = .ref a :: ws ∧ ws.length ≤ 1000 ∧ XoC K C nw tl ∧ H1 a = some (exo a C none) ∧ Q .non H1
def tFs (K : PySem.W.Frag) (nw : String) (tl : List Value) (f : Str) (to te : TE) : TS := fun D σ H => te σ H fun y H1 => to σ H1 fun x H2 => ∃ a C : Addr, x = .ref a ∧ XoC K C nw tl ∧ PySem.W.findIn K (.ref C) f = some none ∧ H2 a = some (exo a C none) ∧
  ∀ dx, H2 dx = none → dx ≠ a → D.nx σ (upd (upd H2 dx (exd dx [(f, y)])) a (exo a C (some dx)))
structure HdC (K : PySem.W.Frag) (C : Addr) (ini : String) : Prop where
  ga : PySem.W.specialIn K (.ref C) "__getattribute__" = some (some (.builtin "type.__getattribute__"))
  rd : PySem.W.readsIn K C (.type "type") = true
  fi : PySem.W.findCls K (.ref C) (.type "type") "__init__" = some (.val (.builtin ini))
  hi : PySem.W.handedIn (.builtin ini) = true
section
variable {X : Cx} {o e : Expr} {es : List Expr} {to te : TE} {ta : TA} {f : Str} {p p' p1 p2 pos : Pos} {B nw ini : String} {tl : List Value} {x : Str} {Bc : Addr}
theorem pe_bini {pl : Sem Bool} (Y : Fam B nw ini tl) (hg : Gl X x) (hm : X.mg x = some (.ref Bc)) (hB : HdC X.K Bc ini) (ha : PA X (e :: es) ta) (hdb : (x == ("__debug__" : Str)) = false := by decide)
    (hc : eval (.Call (.Attribute (.Name x p1) "__init__" p2) (e :: es) [] pos) X.env = (do
      let ov ← eval (.Name x p1) X.env
      standAt p2.atName
      let (fv, first) ← holding [ov] (getMethod ov "__init__" pl)
      callWith pos fv first (backTo pos (starEach (e :: es) X.env)) (backToKw pos (keywordEach [] X.env))) := by rfl)
    (he : starEach (e :: es) X.env = (false, eval e X.env) :: starEach es X.env := by rfl) (hpl : (backTo pos (starEach es X.env)).any (·.1) = false := by rfl) :
    PE X (.Call (.Attribute (.Name x p1) "__init__" p2) (e :: es) [] pos) (tBi X.K nw tl ta) := by
  refine ⟨fun pins s σ H Q I h => ?_⟩
  refine PySem.W.methodCall_KW (ld_glob I hg hm ?_ hdb) hc
  refine PySem.W.method_cls I.kIn hB.ga (PySem.W.cls_value I.kIn hB.rd hB.fi hB.hi ?_)
  show wpAny _ _ (callWith pos (Value.builtin ini) [] (backTo pos (starEach (e :: es) X.env)) []) _ _ _
  refine PyProof.Rows.callWith_method1 (thn (ha.run pos pins _ σ H _ (I.tok _) h) fun us s1 hu => ?_) he hpl
  obtain ⟨vs, H1, I1, r1, a, C, ws, rfl, hl, T, ea, q⟩ := hu
  cases r1 with
  | @cons _ u0 _ ur ra rr =>
    obtain rfl : u0 = Value.ref a := ra
    exact ini_first T Y I1 ea (by rw [← Paired.length rr, sizeLine_eq]; omega) fun s' J => ⟨.non, H1, J, rfl, q⟩
theorem ps_fst (Y : Fam B nw ini tl) (ho : PE X o to) (he : PE X e te) (hs : swapsWith e (some (.Attribute o f p')) pos.line X.env = pure false := by rfl) : PS X (.Assign [.Attribute o f p'] e pos) (tFs X.K nw tl f to te) := by
  refine ⟨fun pins s σ H D I h => ?_⟩
  refine plainObj_wpAny_Assign_Attribute (thn (he.run pins s σ H _ I h) fun v s1 hv => ?_) hs
  obtain ⟨y, H1, I1, r1, q1⟩ := hv
  refine thn (ho.run pins s1 σ H1 _ I1 q1) fun u s2 hu => ?_
  obtain ⟨z, H2, I2, r2, a, C, rfl, T, hno, ea, q⟩ := hu
  obtain rfl : u = Value.ref a := r2
  exact ost_first T Y I2 ea hno r1 fun dx s' n ne J => ⟨σ, _, J, q dx n ne⟩
end
end G
namespace G
open PySem L2 PySem.Spec
def tIni (K : PySem.W.Frag) (nw : String) (tl : List Value) (f : Str) : TS := fun D σ H => ∃ (a C : Addr) (v : V), σ[0]? = some (some (.ref a)) ∧ σ[1]? = some (some v) ∧ XoC K C nw tl ∧ PySem.W.findIn K (.ref C) f = some none ∧ H a = some (exo a C none) ∧
  ∀ dx, H dx = none → dx ≠ a → D.nx σ (upd (upd H dx (exd dx [(f, v)])) a (exo a C (some dx)))
section
variable {X : Cx} {B nw ini : String} {tl : List Value} {b sf y f m : Str} {Bc : Addr} {p1 p2 p3 p4 p5 p6 p7 p8 p9 p10 : Pos} {j : Nat} {pl : Sem Bool}
theorem pss_ini (Y : Fam B nw ini tl) (hm : X.mg b = some (.ref Bc)) (hB : HdC X.K Bc ini) (h0 : PE X (.Name sf p3) (tVar 0)) (h0' : PE X (.Name sf p7) (tVar 0)) (h1 : PE X (.Name y p9) (tVar 1)) (hg : Gl X b := by rfl) (hdb : (b == ("__debug__" : Str)) = false := by decide)
    (hc : eval (.Call (.Attribute (.Name b p1) "__init__" p2) [.Name sf p3, .Constant (.str m) j p4] [] p5) X.env = (do
      let ov ← eval (.Name b p1) X.env
      standAt p2.atName
      let (fv, first) ← holding [ov] (getMethod ov "__init__" pl)
      callWith p5 fv first (backTo p5 (starEach [.Name sf p3, .Constant (.str m) j p4] X.env)) (backToKw p5 (keywordEach [] X.env))) := by rfl)
    (he : starEach [.Name sf p3, .Constant (.str m) j p4] X.env = (false, eval (.Name sf p3) X.env) :: starEach [.Constant (.str m) j p4] X.env := by rfl)
    (he2 : starEach [.Constant (.str m) j p4] X.env = (false, eval (.Constant (.str m) j p4) X.env) :: starEach [] X.env := by rfl)
    (hpl : (backTo p5 (starEach [.Constant (.str m) j p4] X.env)).any (·.1) = false := by rfl)
    (hs1 : swapsWith (.Call (.Attribute (.Name b p1) "__init__" p2) [.Name sf p3, .Constant (.str m) j p4] [] p5) none p6.line X.env = pure false := by rfl)
    (hs2 : swapsWith (.Name y p9) (some (.Attribute (.Name sf p7) f p8)) p10.line X.env = pure false := by rfl) :
    PSs X [.Expr (.Call (.Attribute (.Name b p1) "__init__" p2) [.Name sf p3, .Constant (.str m) j p4] [] p5) p6, .Assign [.Attribute (.Name sf p7) f p8] (.Name y p9) p10] (tIni X.K nw tl f) := by
  refine pss_imp (pss_cons (ps_expr (pe_bini Y hg hm hB (pa_cons h0 (pa_cons pe_str pa_nil he2) he) hdb hc he hpl) hs1) (pss_one (ps_fst Y h0' h1 hs2))) ?_
  rintro D s H ⟨a, C, v, e0, e1, T, hno, ea, q⟩
  exact ⟨.ref a, e0, a, C, _, rfl, (by simp), T, ea, v, e1, .ref a, e0, a, C, rfl, T, hno, ea, q⟩
end
def spIni (K : PySem.W.Frag) (nw : String) (tl : List Value) (f : Str) : Sp := fun vs H Q _ => ∃ (a C : Addr) (v : V), vs = [.ref a, v] ∧ XoC K C nw tl ∧ PySem.W.findIn K (.ref C) f = some none ∧ H a = some (exo a C none) ∧
  ∀ dx, H dx = none → dx ≠ a → Q .non (upd (upd H dx (exd dx [(f, v)])) a (exo a C (some dx)))
section
variable {P : Program} {w0 : World} {K : PySem.W.Frag} {mg : Str → Option Value} {base : Heap}
theorem ini_fn {x qual : Str} {st : Stmt} {fI : Addr} {fd : FuncData} {sf y f : Str} {nw : String} {tl : List Value} (F : FunD K x qual (defArgs st) (defBody st) (defScope st) [] [] fI fd) (S : FnScope [sf, y] [sf, y] (defScope st))
    (hb : ∀ (cdv : Value) (A : Around) (outer : List Env) (s : Shared) (H : Hp) (E : XK), PSs (cxOf (L2.CX P w0) P w0 K mg base [sf, y] qual (defScope st) fI cdv A outer s H E) (defBody st) (tIni K nw tl f)) :
    FnOk P w0 K mg base (L2.CX P w0) 1 fI fd [sf, y] (spIni K nw tl f) := by
  obtain ⟨oc, od, dV, kV, doc, pm, an, cdv, ct, osl, rfl, lk, hcd, _, _⟩ := F.ex
  refine fn_of lk hcd S (fun vs H Q E h => ?_) (fun A outer s H vs Q E hr h => ?_)
  · obtain ⟨a, C, v, rfl, _⟩ := h; rfl
  · obtain ⟨a, C, v, rfl, T, hno, ea, q⟩ := h
    exact ⟨_, hb cdv A outer s H E, a, C, v, rfl, rfl, T, hno, ea, q⟩
end
section
variable {X : Cx} {W : WX} {e : Expr} {me : EM} {ta : TA} {p pos pos2 : Pos} {B nw ini : String} {tl : List Value} {x : Str} {C fI : Addr} {fd : FuncData} {ps : List Str} {f : Str} {k : Nat}
theorem pmk_fld (T : XoC X.K C nw tl) (Y : Fam B nw ini tl) (iC : PySem.W.findIn X.K (.ref C) "__init__" = some (some (.ref fI))) (tI : PySem.W.typeIn X.K (.ref fI) = some (.type "function")) (F1 : FnOk X.prog X.w X.K X.mg X.base (L2.CX X.prog X.w) 1 fI fd ps (spIni X.K nw tl f))
    (hr : Room 2 X.A) (hb : Binds X.K fd ps []) (hno : PySem.W.findIn X.K (.ref C) f = some none) (hg : Gl X x) (hm : X.mg x = some (.ref C)) (ha : PA X [e] ta) (hdb : (x == ("__debug__" : Str)) = false := by decide) (he : starEach [e] X.env = (false, eval e X.env) :: starEach [] X.env := by rfl) (hpl : (backTo pos (starEach [] X.env)).any (·.1) = false := by rfl) :
    PMk X (.Call (.Name x p) [e] [] pos) (fun σ H Q => ta σ H fun vs H1 => ∃ v, vs = [v] ∧ ∀ d, H1 d = none → Q (.ref C) (some d) (upd H1 d (.xd [(f, v)]))) := by
  intro pins s σ H Q I h
  obtain ⟨nm, q, N, bs, bm, sn, sub, ab, col, dd, k0, k1, k2, k3, k5, hC, hbm⟩ := T.cls
  refine wpAny_Call_Name_kw (ld_glob I hg hm ?_ hdb)
  refine PySem.W.callWith_K (h₀ := X.base) I.ok.mod.kin T.kC (thn (ha.run pos pins s σ H _ I h) fun us s1 hu => ?_) he hpl
  obtain ⟨vs, H1, I1, r1, v, rfl, q1⟩ := hu
  refine ⟨I1.kIn, ?_⟩
  show wpAny _ _ (call (.ref C) us) _ _ _
  obtain ⟨hp, g, dr, tk, os⟩ := s1
  have hsz : hp.objs.size ≤ hp.objs.size + 1 := Nat.le_succ _
  have hn : H1 (hp.objs.size + 1) = none := I1.hok.fresh hsz
  have kk : ∀ b o, hp.get? b = some o → ((hp.push (PySem.W.kdv_tup us)).push (PySem.HandSPX.excO C hp.objs.size)).get? b = some o := fun b o z => Heap.get?_push_of_some _ (Heap.get?_push_of_some _ z)
  have hget : ((hp.push (PySem.W.kdv_tup us)).push (PySem.HandSPX.excO C hp.objs.size)).get? (hp.objs.size + 1) = some (PySem.HandSPX.excO C hp.objs.size) := by heap_get
  have I2 : L2.Inv X pins σ (upd H1 (hp.objs.size + 1) (exo (hp.objs.size + 1) C none)) ⟨(hp.push (PySem.W.kdv_tup us)).push (PySem.HandSPX.excO C hp.objs.size), g, dr, tk, os⟩ :=
    I1.laid (t' := tk) (a := hp.objs.size + 1) (o := exo (hp.objs.size + 1) C none) (h' := (hp.push (PySem.W.kdv_tup us)).push (PySem.HandSPX.excO C hp.objs.size)) kk hsz (exo_ok hget)
  have hq : spIni X.K nw tl f [.ref (hp.objs.size + 1), v] (upd H1 (hp.objs.size + 1) (exo (hp.objs.size + 1) C none))
      (fun z H2 => z = .non ∧ ∃ (d : Addr) (fs : List (Str × V)), H2 (hp.objs.size + 1) = some (exo (hp.objs.size + 1) C (some d)) ∧ H2 d = some (exd d fs) ∧ H1 d = none ∧ Q (.ref C) (some d) (upd (del H2 (hp.objs.size + 1)) d (.xd fs))) (fun _ _ _ => False) := by
    refine ⟨_, C, v, rfl, T, hno, upd_same, fun dx hd hne => ⟨rfl, dx, [(f, v)], upd_same, ?_, ?_, ?_⟩⟩
    · rw [upd_ne hne, upd_same]
    · rw [upd_ne hne] at hd; exact hd
    · have hd1 : H1 dx = none := by rw [upd_ne hne] at hd; exact hd
      have eu : upd (del (upd (upd (upd H1 (hp.objs.size + 1) (exo (hp.objs.size + 1) C none)) dx (exd dx [(f, v)])) (hp.objs.size + 1) (exo (hp.objs.size + 1) C (some dx))) (hp.objs.size + 1)) dx (.xd [(f, v)]) = upd H1 dx (.xd [(f, v)]) := by
        funext b
        by_cases h1 : b = dx
        · rw [h1, upd_same, upd_same]
        · rw [upd_ne h1, upd_ne h1]
          by_cases h2 : b = hp.objs.size + 1
          · rw [h2, del_same, hn]
          · rw [del_ne h2, upd_ne h2, upd_ne h1, upd_ne h2]
      rw [eu]
      exact q1 dx hd1
  have r2 : Vals (V.ref (hp.objs.size + 1) :: [v]) (Value.ref (hp.objs.size + 1) :: us) := .cons rfl r1
  have hl : (Value.ref (hp.objs.size + 1) :: us).length = ps.length := by rw [← r2.length]; exact F1.len _ _ _ _ hq
  have hus : us.length ≤ sizeLine := by rw [← Paired.length r1, sizeLine_eq]; simp
  have hbb := hb ⟨(hp.push (PySem.W.kdv_tup us)).push (PySem.HandSPX.excO C hp.objs.size), g, dr, tk, os⟩ (Value.ref (hp.objs.size + 1) :: us) I2.kIn (by simpa using hl)
  rw [List.append_nil] at hbb
  refine wpAny_call (PySem.HandSPX.call_own Y.f (fun z => PySem.W.excTail_contains z bm hbm) (I1.kIn _ _ hC) (PySem.W.looks_findIn I1.kIn iC) (fun self => PySem.W.bind_fn I1.kIn self tI) hus
    (codeAny_mono (F1.run _ X.stack _ _ ⟨Value.ref (hp.objs.size + 1) :: us, []⟩ (Value.ref (hp.objs.size + 1) :: us) _ _ (fun _ _ _ => False) (hr.make C us []) (I2.env0.make C us []) hbb r2 hq) fun r s' hq' => ?_))
  cases r with
  | error er =>
    obtain ⟨_, _, _, _, _, _, _, _, _, _, _, _, z⟩ := hq'
    exact False.elim z
  | ok fl =>
    cases fl with
    | ret u =>
      obtain ⟨z, H2, os2, bare2, un2, hok2, rv, rfl, d, fs, ea, ed, hd1, q2⟩ := hq'
      obtain ⟨h2, g2, d2, t2, os'⟩ := s'
      exact ⟨rv, mk_end (raises_own T.exC T.tyC) I1 hsz kk un2 hok2 os2 bare2 ea ed hd1 q2⟩
    | next => exact False.elim hq'
    | brk => exact False.elim hq'
    | cont => exact False.elim hq'
structure XfI (P : Program) (w0 : World) (K : PySem.W.Frag) (mg : Str → Option Value) (base : Heap) (x : Str) (ini : String) (nw : String) (tl : List Value) (f : Str) : Prop where
  ex : ∃ C fI fd sf y, mg x = some (.ref C) ∧ XoC K C nw tl ∧ PySem.W.findIn K (.ref C) "__init__" = some (some (.ref fI)) ∧ PySem.W.typeIn K (.ref fI) = some (.type "function") ∧ PySem.W.findIn K (.ref C) f = some none ∧ Binds K fd [sf, y] [] ∧ FnOk P w0 K mg base (L2.CX P w0) 1 fI fd [sf, y] (spIni K nw tl f)
def sRaiseF (cn f : Nat) (m : EM) : SM := fun e S => sE (m e S) e fun d S1 => .exc (.exc cn [(f, d)]) e S1
theorem rs_raiseF (cn fn : Nat) (c : Cg X W k) (Y : Fam B nw ini tl) (hF : XfI X.prog X.w X.K X.mg X.base x ini nw tl (fname fn)) (he : RE X W e me) (hk : 2 ≤ k := by decide) (hcn : cname cn = x := by rfl) (hg : Gl X x := by rfl) (hdb : (x == ("__debug__" : Str)) = false := by decide) (hst : starEach [e] X.env = (false, eval e X.env) :: starEach [] X.env := by rfl)
    (hpl : (backTo pos (starEach [] X.env)).any (·.1) = false := by rfl) : RS X W (.Raise (some (.Call (.Name x p) [e] [] pos)) none pos2) (sRaiseF cn fn me) := by
  obtain ⟨C, fI, fd, sf, y, hm, T, iC, tI, hno, hb, F1⟩ := hF.ex
  refine ps_imp (ps_raise c.calm c.tk (pmk_fld T Y iC tI F1 (c.rm.mono hk).r hb hno hg hm (ra_cons he ra_nil (hs := hst)) hdb hst hpl)) ?_
  rintro D s H ⟨w, en, rfl, R, E, P⟩
  refine ⟨w, en, rfl, R, E, ?_⟩
  unfold aCons aNil
  unfold sRaiseF at P
  cases q : me en w.st with
  | stuck => rw [q] at P; exact P
  | exc z S => rw [q] at P; exact fun w1 cls dd x1 R1 st1 rx => P w1 s cls dd x1 R1 st1 (E.ext x1.toEx0) rx
  | ok d S =>
    rw [q] at P
    intro w1 vs x1 R1 st1 rl
    obtain ⟨v, rfl, rv⟩ := rl.one_inv
    refine ⟨v, rfl, fun dx hd => ?_⟩
    have xp := put_ext (o := .xd [(fname fn, v)]) R1 hd
    exact P (w1.put dx (.xd [(fname fn, v)])) s (.ref C) (some dx) (x1.trans xp) (R1.put hd) st1 ((E.ext x1.toEx0).ext xp.toEx0) ⟨cn, C, [(fn, d)], [(fname fn, v)], rfl, by rw [hcn]; exact hm, rfl, .inr ⟨by simp, dx, rfl, put_st R1 hd⟩, .cons (rv.ext xp.toEx0) .nil⟩
end
end G
namespace G
open PySem L2 PySem.Spec PyProof.Rows
def sSuO (oi : Option Nat) (r : SRes) : SRes := match oi with
  | some i => sSu i r
  | none => match r with
    | .exc _ _ _ => .stuck
    | r => r
abbrev HdM := List (Nat → Option Bool) × Option Nat × SM
def setO (e : En) (oi : Option Nat) (d : D) : En := match oi with
  | some i => e.set i (some d)
  | none => e
def hdR : List HdM → Nat → List (Nat × D) → SM
  | [], cn, fs, e, S => .exc (.exc cn fs) e S
  | (ts, oi, n) :: r, cn, fs, e, S => match tbAny ts cn with
    | some true => sSuO oi (n (setO e oi (.exc cn fs)) S)
    | some false => hdR r cn fs e S
    | none => .stuck
def sTryG (hs : List HdM) (m : SM) : SM := fun e S => match m e S with
  | .exc (.exc cn fs) e1 S1 => hdR hs cn fs e1 S1
  | .exc _ _ _ => .stuck
  | r => r
def TbOk (K : PySem.W.Frag) (mg : Str → Option Value) (t : Nat → Option Bool) (c : Value) : Prop := ∀ cn C q, t cn = some q → mg (cname cn) = some (.ref C) → PySem.W.exmOne K (.ref C) c = some q
inductive TbsOk (K : PySem.W.Frag) (mg : Str → Option Value) : List (Nat → Option Bool) → List Value → Prop
  | nil : TbsOk K mg [] []
  | cons {t : Nat → Option Bool} {c : Value} {ts : List (Nat → Option Bool)} {cs : List Value} (h : TbOk K mg t c) (r : TbsOk K mg ts cs) : TbsOk K mg (t :: ts) (c :: cs)
theorem TbsOk.any {K : PySem.W.Frag} {mg : Str → Option Value} {ts : List (Nat → Option Bool)} {cs : List Value} (h : TbsOk K mg ts cs) {cn : Nat} {C : Addr} {q : Bool} (e : tbAny ts cn = some q) (hC : mg (cname cn) = some (.ref C)) : PySem.W.exmAny K (.ref C) cs = some q := by
  induction h generalizing q with
  | nil => exact e
  | @cons t c ts cs h r ih =>
    unfold tbAny at e
    split at e
    · rename_i a b e1 e2
      cases e
      unfold PySem.W.exmAny
      rw [h cn C a e1 hC, ih e2]
    · cases e
end G
namespace G
open PySem L2 PySem.Spec
theorem XfO.plain {w : Wo} {dd : Option Addr} {gs : List (Str × V)} (h : XfO w dd gs) : (gs = [] ∧ dd = none) ∨ (gs ≠ [] ∧ ∃ x, dd = some x ∧ w.hp x = some (.xd gs)) := h.imp id fun ⟨z, x, q, s⟩ => ⟨z, x, q, s.1⟩
section
variable {X : Cx} {W : WX} {a b c e o : Expr} {es : List Expr} {ma mb mc me : EM} {ta tb : TM} {pos : Pos} {x : Str} {p : Pos} {j k : Nat}
def isY (tb : Nat → Option Bool) : D → Option Bool
  | .exc cn _ => tb cn
  | _ => none
def eIsY (tb : Nat → Option Bool) (m : EM) : EM := fun e S => (m e S).bind fun x S1 => lf ((isY tb x).map .bl) S1
theorem KtsOk.any {K : PySem.W.Frag} {mg : Str → Option Value} {ts : List (Nat → Option Bool)} {cs : List Value} (h : KtsOk K mg ts cs) {cn : Nat} {C : Addr} {q : Bool} (e : tbAny ts cn = some q) (hC : mg (cname cn) = some (.ref C)) : PySem.W.kitAny K (.ref C) cs = some q := by
  induction h generalizing q with
  | nil => exact e
  | @cons t c ts cs h r ih =>
    unfold tbAny at e
    split at e
    · rename_i b1 b2 e1 e2
      cases e
      unfold PySem.W.kitAny
      rw [(h cn C b1 e1 hC).2]
      cases b1 with
      | true => rfl
      | false => exact ih e2
    · cases e
def fldY (cs : List Nat) (f : Nat) : D → Option D
  | .exc cn fs => if cs.contains cn then fs.lookup f else none
  | _ => none
def eFldY (cs : List Nat) (f : Nat) (m : EM) : EM := fun e S => (m e S).bind fun x S1 => lf (fldY cs f x) S1
end
end G
namespace G
open PySem L2 PySem.Spec
section
variable {K : PySem.W.Frag}
theorem xoL_ok {C : Addr} {tl : List Value} {nw : String} (h : xoL K C tl nw = true) : ∃ nm q N bs bm sn sub ab col dd k0 k1 k2 k3 k5, K.lookup C = some (excClassObj nm q C N bs bm true sn sub ab col dd k0 k1 k2 k3 k5 nw) ∧ PySem.W.excTail tl bm = true := by
  unfold xoL at h
  split at h
  · rename_i c dd cd sl ho
    obtain ⟨h1, h2⟩ := He.ba h
    have h1 := of_decide_eq_true h1
    subst h1
    unfold xoC at h2
    split at h2
    · rename_i C' bm k0 k1 k2 k3 n k5 hm hs
      obtain ⟨e1, h2⟩ := He.ba h2
      obtain ⟨e2, h2⟩ := He.ba h2
      obtain ⟨e3, h2⟩ := He.ba h2
      obtain ⟨e4, e5⟩ := He.ba h2
      have e1 := of_decide_eq_true e1
      have e2 := of_decide_eq_true e2
      obtain ⟨nm, bs, mro, N, qn, hd, sn, sub, ab, col, del⟩ := cd
      dsimp only at hm e3 e4
      obtain ⟨l⟩ := sl
      dsimp only at hs
      subst e1 e2 e4 hm hs
      have e3 : del = false := by simpa using e3
      subst e3
      exact ⟨nm, qn, N, bs, bm, sn, sub, ab, col, dd, k0, k1, k2, k3, k5, ho, e5⟩
    · cases h2
  · cases h
theorem xoB_ok {x : Str} {tl : List Value} {nw : String} (h : xoB x tl nw K = true) : XoC K (He.ga K x) nw tl := by
  obtain ⟨c1, c⟩ := He.ba h
  obtain ⟨c2, c⟩ := He.ba c
  obtain ⟨c3, c⟩ := He.ba c
  obtain ⟨c4, c5⟩ := He.ba c
  exact ⟨xoL_ok c1, He.eqO_ok c2, of_decide_eq_true c3, of_decide_eq_true c4, c5⟩
theorem iniB_ok {x f : Str} (h : iniB x f K = true) : PySem.W.findIn K (.ref (He.ga K x)) "__init__" = some (some (.ref (He.fAd K (x, some "__init__")))) ∧ PySem.W.typeIn K (.ref (He.fAd K (x, some "__init__"))) = some (.type "function") ∧ PySem.W.findIn K (.ref (He.ga K x)) f = some none := by
  obtain ⟨c1, c⟩ := He.ba h
  obtain ⟨c2, c3⟩ := He.ba c
  exact ⟨He.eqO_ok c1, of_decide_eq_true c2, He.eqO_ok c3⟩
theorem fcB_ok {C : Addr} {ini : String} (h : fcB K C ini = true) : PySem.W.findCls K (.ref C) (.type "type") "__init__" = some (.val (.builtin ini)) := by
  unfold fcB at h
  split at h
  · rename_i n e
    rw [e, of_decide_eq_true h]
  · cases h
theorem hdB_ok {x : Str} {ini : String} (h : hdB x ini K = true) : HdC K (He.ga K x) ini := by
  obtain ⟨c1, c⟩ := He.ba h
  obtain ⟨c2, c⟩ := He.ba c
  obtain ⟨c3, c4⟩ := He.ba c
  exact ⟨He.eqO_ok c1, c2, fcB_ok c3, c4⟩
end
end G
namespace G
open PySem L2 PySem.Spec
def isTyO (S : Store) (y : Ty) (d : D) : Option Bool := match tyD S d with
  | some t => some (t.is y)
  | none => match insD S d with
    | some (c, _) => if ownCs.contains c then some false else none
    | none => none
section
variable {X : Cx} {W : WX} {a b c e o : Expr} {es : List Expr} {ma mb mc me : EM} {pos : Pos} {x : Str} {p : Pos} {j k : Nat}
def eIsTyO (y : Ty) (m : EM) : EM := fun e S => (m e S).bind fun x S1 => lf ((isTyO S1 y x).map .bl) S1
end
end G
namespace G
open PySem L2
variable {X : Cx} {W : WX} {a b c o e : Expr} {es : List Expr} {pos : Pos} {ma mb : EM}
def rangeN (lo : Int) (n : Nat) : List D := (List.range n).map fun k => .int (lo - (k : Nat))
open Classical in
noncomputable def iRgN (m : AM) : AM := fun e S => (m e S).bind fun ds S1 => match ds with
  | [.int i, .int j, .int (.negSucc 0)] => if -(2 ^ 62) ≤ i ∧ i < 2 ^ 62 ∧ -(2 ^ 62) ≤ j ∧ j < 2 ^ 62 then .ok (rangeN i (i - j).toNat) S1 else .stuck
  | _ => .stuck
def eTm (f : Store → D → List D → Option D) (a : EM) (m : AM) : EM := fun e S => (a e S).bind fun x S1 => match x with
  | .str z => (m e S1).bind fun xs S2 => lf (f S2 (.str z) xs) S2
  | _ => .stuck
def strsD : List D → Option (List Str)
  | [] => some []
  | .str x :: l => (strsD l).map (x :: ·)
  | _ => none
theorem RepL.strs {K : PySem.W.Frag} {mg : Str → Option Value} {w : Wo} {l : List D} {vs : List V} {ys : List Str} (h : RepL K mg w l vs) (e : strsD l = some ys) : vs = ys.map V.str := by
  induction l generalizing vs ys with
  | nil => cases h; cases e; rfl
  | cons d l ih =>
    cases h with
    | cons r t =>
      cases d with
      | str x =>
        obtain ⟨zs, e1, rfl⟩ := Option.map_eq_some_iff.mp e
        cases r
        rw [ih t e1]; rfl
      | _ => cases e
end G
namespace G
open PySem L2 PySem.Spec
end G
namespace G
open PySem L2 PySem.Spec
end G
namespace G
open PySem L2 PySem.Spec
end G
namespace G
open PySem L2 PySem.Spec PyProof.Rows
end G
namespace G
open PySem L2 PySem.Spec PyProof.Rows
section
variable {K : PySem.W.Frag} {mg : Str → Option Value} {w : Wo}
theorem RepK.getV {κ : Type} {kvs : List (κ × D)} {us : List (κ × V)} {i : Nat} {k : κ} {v : V} : RepK κ K mg w kvs us → us[i]? = some (k, v) → ∃ d, kvs[i]? = some (k, d) ∧ RepD K mg w d v
  | .nil, h => by simp at h
  | .cons r t, h => by
    cases i with
    | zero => simp at h; obtain ⟨rfl, rfl⟩ := h; exact ⟨_, by simp, r⟩
    | succ i =>
      obtain ⟨d, e, q⟩ := RepK.getV (i := i) t (by simpa using h)
      exact ⟨d, by simpa using e, q⟩
end
end G
namespace G
open PySem L2 PySem.Spec
end G
namespace G
open PySem L2 PySem.Spec
def addK (ks : List (List Int)) (k : List Int) : List (List Int) := if k ∈ ks then ks else ks ++ [k]
def intsL : List D → Option (List Int)
  | [] => some []
  | .int i :: r => (intsL r).map (i :: ·)
  | _ => none
def intsK : D → Option (List Int)
  | .tup l => intsL l
  | _ => none
end G
namespace G
open PySem L2 PySem.Spec
end G
namespace G
open PySem L2 PySem.Spec PyProof.Rows SrtO
end G
namespace G
open PySem L2 PySem.Spec
end G
namespace G
open PySem L2 PySem.Spec
end G
namespace G
open PySem L2 PySem.Spec PyProof.Rows PySem.SeqAt
end G
namespace G
open PySem L2 PySem.Spec PyProof.Rows PySem.SeqAt PySem.W
end G
namespace G
open PySem L2 PySem.Spec PyProof.Rows
end G
namespace G
open PySem L2 PySem.Spec PyProof.Rows
end G
namespace G
open PySem L2 PySem.Spec PyProof.Rows PySem.SeqAt
end G
namespace G
open PySem L2 PySem.Spec
end G
namespace G
open PySem PySem.W
end G
namespace G
open PySem L2 PySem.Spec PyProof.Rows
end G
namespace G
open PySem PySem.W HandSHeadRun
end G
namespace G
open PySem L2 PySem.Spec PyProof.Rows
end G
namespace G
open PySem L2 PySem.Spec PyProof.Rows
def insR (x : D) (xs : List D) (S : Store) : Res D := match x, xs with
  | .loc n, [.int i, y] => match S[n]? with
    | some (.lst l) => if l.length < sizeLine ∧ 0 ≤ i ∧ i < 2 ^ 62 then .ok .non (S.set n (.lst (l.take i.toNat ++ [y] ++ l.drop i.toNat))) else .stuck
    | _ => .stuck
  | _, _ => .stuck
end G
namespace G
open PySem L2 PySem.Spec PyProof.Rows
end G
namespace G
open PySem L2 PySem.Spec PyProof.Rows
end G
namespace G
open PySem L2 PySem.Spec PyProof.Rows
inductive TV where
  | strs (l : List Str)
  | int (i : Int)
def TV.d : TV → D
  | .strs l => .tup (l.map .str)
  | .int i => .int i
end G
namespace G
open PySem L2 PySem.Spec PyProof.Rows
end G
namespace G
open PySem L2 PySem.Spec PyProof.Rows RZ
end G
namespace G
open PySem L2 PySem.Spec
end G
namespace G
open PySem L2 PySem.Spec PyProof.Rows
end G
namespace G
open PySem L2 PySem.Spec PyProof.Rows
def keyS (e : Int × Value) : Str := PyProof.Rows.strOf e.2
def GoodS (w : World) (e : Int × Value) : Prop := ∃ k tk, e.2 = Value.str k tk ∧ e.1 = hashStr w k
def SetS (w : World) (h : Heap) (a : Addr) (S : Str → Bool) (n : Nat) : Prop :=
  ∃ o es ep t, h.get? a = some o ∧ o.ExactSet ∧ o.data = .set es ep t ∧ (∀ e ∈ es.toList, GoodS w e) ∧ (es.toList.map keyS).Nodup ∧ (∀ k, S k = true ↔ k ∈ es.toList.map keyS) ∧
    es.size < scanBound ∧ t.fits es.size = true ∧ es.size = n ∧ Ris t.place.toList ∧ (w.params.followText "set-order" = true ∨ t.led = true)
section
variable {P : Program} {w : World} {h h' : Heap} {a : Addr} {S : Str → Bool} {n : Nat}
theorem SetS.at (R : SetS w h a S n) (k : ∀ o, h.get? a = some o → h'.get? a = some o) : SetS w h' a S n := by
  obtain ⟨o, es, ep, t, ho, r⟩ := R
  exact ⟨o, es, ep, t, k o ho, r⟩
theorem SetS.lt (R : SetS w h a S n) : a < h.objs.size := by
  obtain ⟨o, es, ep, t, ho, r⟩ := R
  exact Heap.lt_size ho
end
end G
namespace G
open PySem L2 PySem.Spec PyProof.Rows
end G
namespace G
open PySem L2 PySem.Spec PyProof.Rows
end G
namespace G
open PySem L2 PySem.Spec PyProof.Rows
open PySem.SeqAt
open AutoSeq1 (wpAny_loadPart')
end G
namespace G
open PySem L2 PySem.Spec PyProof.Rows
open PySem.W (InstAt)
end G
namespace G
open PySem L2 PySem.Spec
end G
namespace G
open PySem L2 PySem.Spec PyProof.Rows
open PySem.W (InstAt)
def rpL (r : Nat → D → Store → Res Str) : Nat → List D → Store → Res (List Str)
  | _, [], S => .ok [] S
  | n, x :: l, S => (r (n + 1) x S).bind fun t S1 => (rpL r (n + (t.length + 2)) l S1).bind fun ts S2 => .ok (t :: ts) S2
def rpO (cn : Nat) (f : FM) (gD : List D → List D → List D) (x : D) (S : Store) : Res Str :=
  if isCn cn S x = true then (f (gD [x] []) S).bind fun y S1 => match y with
    | .str t => .ok t S1
    | _ => .stuck
  else .stuck
def rpE (ts : List Str) (S : Store) : Res Str := if (tupleText ts).length ≤ sizeLine then .ok (tupleText ts) S else .stuck
def rpT (cn : Nat) (f : FM) (gD : List D → List D → List D) : Nat → Nat → D → Store → Res Str
  | 0, _, _, _ => .stuck
  | d + 1, b, x, S => if b ≤ sizeLine then (match x with
    | .int i => if i.natAbs.log2 < 1920 ∧ b + (toString i : Str).length ≤ sizeLine then .ok (toString i) S else .stuck
    | .tup l => (rpL (rpT cn f gD d) b l S).bind rpE
    | x => rpO cn f gD x S) else .stuck
def rsh (cn : Nat) : Nat → D → Store → Bool
  | 0, _, _ => false
  | d + 1, x, S => match x with
    | .int _ => true
    | .tup l => l.all fun y => rsh cn d y S
    | x => isCn cn S x
def ChR (K : PySem.W.Frag) (w : Wo) (u v : V) : Prop := ∃ a vs, v = .ref a ∧ StT K w a vs ∧ u ∈ vs
theorem acc_irr {α : Type} {r : α → α → Prop} {x : α} (h : Acc r x) : ¬ Relation.TransGen r x x := by
  induction h with
  | intro x _ ih =>
    intro t
    obtain ⟨y, h1, h2⟩ : ∃ y, r y x ∧ (x = y ∨ Relation.TransGen r x y) := by
      cases t with
      | single h => exact ⟨x, h, .inl rfl⟩
      | tail h1 h2 => exact ⟨_, h2, .inr h1⟩
    rcases h2 with rfl | h2
    · exact ih _ h1 (.single h1)
    · exact ih y h1 ((Relation.TransGen.single h1).trans h2)
def GdOk (R : V → V → Prop) (g : List Code) (v : V) : Prop := ∀ id z rest kw, Code.builtin id ⟨z :: rest, kw⟩ ∈ g → ∃ a, z = .ref a ∧ Relation.TransGen R v (.ref a)
theorem GdOk.clear {R : V → V → Prop} {g : List Code} {a : Addr} (h : GdOk R g (.ref a)) (hA : Acc R (.ref a)) : Clear g a := fun id z rest kw hm e => by
  obtain ⟨b, rfl, t⟩ := h id z rest kw hm
  cases e
  exact acc_irr hA t
theorem GdOk.down {R : V → V → Prop} {g : List Code} {a : Addr} {u : V} (h : GdOk R g (.ref a)) (hr : R u (.ref a)) {id : String} {rest : List Value} : GdOk R (.builtin id ⟨.ref a :: rest, []⟩ :: g) u := fun id' z rest' kw hm => by
  rcases List.mem_cons.mp hm with e | hm
  · cases e
    exact ⟨a, rfl, .single hr⟩
  · obtain ⟨b, rfl, t⟩ := h _ _ _ _ hm
    exact ⟨b, rfl, (Relation.TransGen.single hr).trans t⟩
structure RpA (X : Cx) (j d : Nat) (g : List Code) (A : Around) : Prop where
  hd : A.handled = none
  dp : A.depth + d + 3 * j + 5 < recursionLimit
  un : A.units + d + 16 * j + 200 < cLine
  g : A.guards = some g
  f : A.frames = some X.stack
theorem RpA.down {X : Cx} {j d : Nat} {g : List Code} {A : Around} (h : RpA X j (d + 1) g A) {a : Addr} {id : String} {rest : List Value} (hid : id = "tuple.__repr__" ∨ id = "tuple.__repr__.under") : RpA X j d (.builtin id ⟨.ref a :: rest, []⟩ :: g) (A.under (.builtin id ⟨.ref a :: rest, []⟩)) := by
  have hg : (Code.builtin id ⟨.ref a :: rest, []⟩).isGuard = true := by
    rcases hid with rfl | rfl
    · exact isGuard_tuple_repr _
    · exact isGuard_tuple_repr_under _
  have hu : (A.under (.builtin id ⟨.ref a :: rest, []⟩)).units = A.units + 1 := by
    rcases hid with rfl | rfl
    · exact units_under_tuple_repr _ _
    · exact units_under_tuple_repr_under _ _
  have hd : (A.under (.builtin id ⟨.ref a :: rest, []⟩)).depth = A.depth + 1 := by
    rcases hid with rfl | rfl
    all_goals first | rfl | simp [Around.under, Code.weight, Code.isCreation, Code.isGuard, Code.isCaller, Code.frames, Code.isFrame, guardIds]
  refine ⟨h.hd, ?_, ?_, guards_under_guard hg h.g, ?_⟩
  · have := h.dp
    rw [hd]; omega
  · have := h.un
    rw [hu]; omega
  · rcases hid with rfl | rfl
    all_goals first | exact h.f | (simpa [Around.under, Code.envs, Code.isFrame, pushEnvs] using h.f)
section
variable {prog : Program} {wd : World} {K : PySem.W.Frag} {A : Around} {E : Value → Shared → Prop} {s : Shared} {x C f : Addr} {ox : Obj} {od : Option Obj}
theorem krepr_under {b : Nat} {Q : Str → Shared → Prop} (hu : A.units < cLine) (hb : b ≤ sizeLine) (X : K.In s.heap) (I : InstAt s.heap x ox C od) (hs : PySem.W.findIn K (.ref C) "__repr__" = some (some (.ref f))) (hf : PySem.W.isFn K (.ref f) = true)
    (h : wpAny (model prog wd) A (call (.ref f) [.ref x]) (fun r s' => ∃ m tk, r = .str m tk ∧ Q m s') E s) : wpAny (model prog wd) A (pyReprUnder b (.ref x)) Q E s := by
  refine wpAny_pyReprUnder_ref hb ?_
  unfold pyReprObjUnder pyReprObjBy
  refine wpAny_bind (wpAny_cRoomFor hu ?_)
  refine wpAny_bind (wpAny_bind (I.type.here ((PySem.W.looks_findIn X hs).here ?_)))
  show wpAny _ _ (if (some (Value.ref f)).isNone = true then _ else _) _ _ _
  rw [if_neg (by simp)]
  have fin : ∀ (Q' : Option Value → Shared → Prop), (∀ m tk s', Q m s' → Q' (some (.str m tk)) s') → wpAny (model prog wd) A (callSpecialIfBoundBy? (fun g first => match reprUnder? g, first with
    | some twin, [self] => call twin [self, rawInt b]
    | _, _ => call g (first ++ [])) (.ref x) "__repr__") Q' E s := by
    intro Q' hq
    simp only [callSpecialIfBoundBy?, bindSpecialIfBound?]
    refine wpAny_holding (wpAny_bind (wpAny_bind (wpAny_bind (I.type.here ((PySem.W.looks_findIn X hs).here ?_)))))
    refine wpAny_bind (wpAny_askSetting (wpAny_ite ?_))
    have fin : wpAny (model prog wd) A (call (.ref f) [.ref x] >>= fun v => pure (some v)) Q' E s := wpAny_bind (wpAny_mono h (fun v s' h' => by
      obtain ⟨m, tk, rfl, q⟩ := h'
      exact wpAny_pure (hq m tk s' q)) fun _ _ h' => h')
    split
    · exact wpAny_bind ((PySem.W.bind_fn X _ (beq_iff_eq.mp hf)).here (wpAny_pure (by exact fin)))
    · exact wpAny_tryCatch (wpAny_bind ((PySem.W.bind_fn X _ (beq_iff_eq.mp hf)).here (wpAny_pure (by exact fin))))
  refine wpAny_bind (fin _ fun m tk s' q => ?_)
  refine wpAny_bind (wpAny_isInstance (typeIs_str _ _ _) isSubtype_str_str ?_)
  first
    | exact wpAny_pure ⟨_, _, rfl, q⟩
    | (rw [if_pos rfl]; exact wpAny_pure ⟨_, _, rfl, q⟩)
    | (simp only [if_true]; exact wpAny_pure ⟨_, _, rfl, q⟩)
end
section
variable {X : Cx} {W : WX} {k : Nat} {cn : Nat} {f : FM} {gD : List D → List D → List D} {ps : List Str} {j : Nat} {pins : List (Addr × Obj)} {σ : L2.St}
theorem acc_of {s : Shared} {w : Wo} (I : L2.Inv X pins σ w.hp s) (R : Rep X.K X.mg w) : ∀ d x v, RepD X.K X.mg w x v → rsh cn d x w.st = true → Acc (ChR X.K w) v
  | 0, x, v, _, h => by cases h
  | d + 1, x, v, rd, h => by
    unfold rsh at h
    split at h
    · cases rd
      exact ⟨_, fun u ⟨a, vs, e, _⟩ => by cases e⟩
    · rename_i l
      cases rd with
      | tup st rl =>
        refine ⟨_, fun u ⟨a, vs', e, st', hu⟩ => ?_⟩
        cases e
        obtain rfl := I.tuple_inj st.sq st'.sq
        obtain ⟨i, hi⟩ := List.getElem?_of_mem hu
        obtain ⟨y, hy, ry⟩ := rl.getV hi
        exact acc_of I R d y u ry (List.all_eq_true.mp h y (List.mem_of_getElem? hy))
    · obtain ⟨ad, C', dx, fs, gs, rfl, h1', hp, rf⟩ := isCn_ins R rd h
      refine ⟨_, fun u ⟨a, vs', e, st', hu⟩ => ?_⟩
      cases e
      obtain ⟨mA, O, _⟩ := ins_get I.hok hp
      obtain ⟨od, J, _⟩ := O.look
      obtain ⟨its, _, ⟨o, ho, hc, _⟩, _⟩ := I.tuple st'.sq
      have h1 := J.at_
      rw [ho] at h1
      cases h1
      have h2 := J.cls
      rw [hc] at h2
      cases h2
def SEq {α : Type} (_ : Wo) (a b : α) : Prop := a = b
theorem rpl_run {A : Around} {g : List Code} {w0 : Wo} {Rc : V → V → Prop} {r : Nat → D → Store → Res Str}
    (el : ∀ b x v u w s (Q : Str → Hp → Prop), RepD X.K X.mg w0 x v → RelV v u → Ext w0 w → Rep X.K X.mg w → L2.Inv X pins σ w.hp s → Acc Rc v → GdOk Rc g v → Post SEq X.K X.mg w (r b x w.st) Q (WE W σ) →
      wpAny (model X.prog X.w) A (pyReprUnder b u) (fun t s' => ∃ H', L2.Inv X pins σ H' s' ∧ Q t H') X.xe s) :
    ∀ (l : List D) (vs : List V) (us : List Value) (n : Nat) (acc : Array Str) (w : Wo) (s : Shared) (Q : List Str → Hp → Prop), RepL X.K X.mg w0 l vs → Vals vs us → Ext w0 w → Rep X.K X.mg w → L2.Inv X pins σ w.hp s →
      (∀ v, v ∈ vs → Acc Rc v ∧ GdOk Rc g v) → Post SEq X.K X.mg w (rpL r n l w.st) Q (WE W σ) →
      wpAny (model X.prog X.w) A (forIn us (⟨acc, n⟩ : (Array Str × Nat)) tupBody) (fun y s' => ∃ ts H', y.1 = acc ++ ts.toArray ∧ ts.length = l.length ∧ L2.Inv X pins σ H' s' ∧ Q ts H') X.xe s := by
  intro l
  induction l with
  | nil =>
    intro vs us n acc w s Q rl rv x R I ha P
    cases rl
    cases rv
    simp only [List.forIn_nil]
    exact wpAny_pure ⟨[], _, by simp, rfl, I, Post.now P R rfl⟩
  | cons y l ih =>
    intro vs us n acc w s Q rl rv x R I ha P
    cases rl with
    | cons rd rl =>
      cases rv with
      | cons ru rv =>
        rw [List.forIn_cons]
        unfold rpL at P
        obtain ⟨a1, a2⟩ := ha _ (List.mem_cons_self ..)
        refine wpAny_bind (wpAny_bind (wpAny_mono (el _ _ _ _ _ _ _ rd ru x R I a1 a2 (Post.bind P)) (fun t s1 ht => ?_) fun _ _ z => z))
        obtain ⟨H1, I1, w1, t', rfl, x1, R1, rfl, P1⟩ := ht
        refine wpAny_pure ?_
        refine wpAny_mono (ih _ _ _ _ w1 s1 _ rl rv (x.trans x1) R1 I1 (fun v hv => ha v (List.mem_cons_of_mem _ hv)) (Post.bind (Rl := SEq) P1)) (fun y s2 hy => ?_) fun _ _ z => z
        obtain ⟨ts, H2, e, el, I2, w2, ts', rfl, x2, R2, rfl, P2⟩ := hy
        refine ⟨t' :: ts', _, ?_, by simp [el], I2, Post.now P2 R2 rfl⟩
        rw [e]
        simp
theorem rpt_own {A : Around} {g : List Code} {w0 : Wo} {r : Nat → D → Store → Res Str} {id : String} {rest : List Value} {a : Addr} {vs : List V} {l : List D} {w : Wo} {s : Shared} {b : Nat} {R : Result → Shared → Prop} {Q : Str → Hp → Prop}
    (hid : id = "tuple.__repr__" ∨ id = "tuple.__repr__.under")
    (el : ∀ b x v u w s (Q : Str → Hp → Prop), RepD X.K X.mg w0 x v → RelV v u → Ext w0 w → Rep X.K X.mg w → L2.Inv X pins σ w.hp s → Acc (ChR X.K w0) v → GdOk (ChR X.K w0) (.builtin id ⟨.ref a :: rest, []⟩ :: g) v → Post SEq X.K X.mg w (r b x w.st) Q (WE W σ) →
      wpAny (model X.prog X.w) (A.under (.builtin id ⟨.ref a :: rest, []⟩)) (pyReprUnder b u) (fun t s' => ∃ H', L2.Inv X pins σ H' s' ∧ Q t H') X.xe s)
    (hg : A.guards = some g) (st : StT X.K w0 a vs) (rl : RepL X.K X.mg w0 l vs) (x : Ext w0 w) (Rp : Rep X.K X.mg w) (I : L2.Inv X pins σ w.hp s) (hA : Acc (ChR X.K w0) (.ref a)) (hG : GdOk (ChR X.K w0) g (.ref a))
    (P : Post SEq X.K X.mg w ((rpL r b l w.st).bind rpE) Q (WE W σ))
    (hR : ∀ t tk H' s', L2.Inv X pins σ H' s' → Q t H' → R (.ok (.ret (.str t tk))) s') (hE : ∀ e s', X.xe e s' → R (.error e) s') :
    wpOwn (model X.prog X.w) A (.builtin id ⟨.ref a :: rest, []⟩) (Builtin.tupleReprAt b ⟨[.ref a], []⟩) (fun fin s' => match fin with | .done f => R (.ok f) s' | .again c' => c'.quiet = true ∧ codeAny (model X.prog X.w) A c' R s') (fun e s' => R (.error e) s') s := by
  have hca : Clear g a := hG.clear hA
  rw [tuple_repr_tree, tupleReprUnderWay_eq]
  refine wpOwn_bind (wpOwn_stackTailAny hg (tupGuardF_off _) (tupGuardF_pos _) ?_)
  have hn : (g.any fun c => tupGuardF (.ref a) (c, default)) = false := by
    rw [List.any_eq_false]
    intro c hcm
    rw [tupGuardF_of_clear hca c hcm]
    exact Bool.false_ne_true
  rw [hn]
  refine wpOwn_of_wpAny ?_
  show wpAny _ _ (tupleReprRest b (.ref a)) _ _ s
  obtain ⟨its, rv, ⟨o, ho, hc, n, hd⟩, hz⟩ := I.tuple (st.ext x.toEx0).sq
  unfold tupleReprRest Builtin.Tuple.tupleItemsOf
  refine wpAny_bind (wpAny_bind (wpAny_seqItems ho hd (wpAny_pure ?_)))
  rw [← Array.forIn_toList]
  refine wpAny_bind (wpAny_mono (rpl_run el l vs its _ _ w s _ rl rv x Rp I (fun v hv => ⟨hA.inv ⟨a, vs, rfl, st, hv⟩, hG.down ⟨a, vs, rfl, st, hv⟩⟩) (Post.bind P)) (fun y s1 hy => ?_) hE)
  obtain ⟨ts, H1, e, e0, I1, w1, ts', rfl, x1, R1, rfl, P1⟩ := hy
  unfold rpE at P1
  split at P1
  · rename_i hsz
    have hlen : ts'.length = its.length := e0.trans (rl.length.trans rv.length)
    have e1 : y.1.toList = ts' := by rw [e]; simp
    refine wpAny_bind (wpAny_mkStr (wpAny_pure ?_) ?_)
    · have := hR (tupleText ts') s1.toks _ { s1 with toks := s1.toks + 1 } (I1.tok _) (Post.now P1 R1 rfl)
      rw [e1]
      simpa [tupleText, hlen] using this
    · rw [e1]
      simpa [tupleText, hlen] using hsz
  · exact False.elim P1
theorem rp_run (tk : Takes X W) (hF : Dt X.prog X.w X.K X.mg X.base cn "__repr__" ps j 0 [] gD f) (hj : j < 10) {w0 : Wo} :
    ∀ (d b : Nat) (x : D) (v : V) (u : Value) (A : Around) (g : List Code) (w : Wo) (s : Shared) (Q : Str → Hp → Prop), RpA X j d g A → RepD X.K X.mg w0 x v → RelV v u → Ext w0 w → Rep X.K X.mg w → L2.Inv X pins σ w.hp s → Acc (ChR X.K w0) v → GdOk (ChR X.K w0) g v →
      Post SEq X.K X.mg w (rpT cn f gD d b x w.st) Q (WE W σ) → wpAny (model X.prog X.w) A (pyReprUnder b u) (fun t s' => ∃ H', L2.Inv X pins σ H' s' ∧ Q t H') X.xe s := by
  intro d
  induction d with
  | zero => intro b x v u A g w s Q _ _ _ _ _ _ _ _ P; exact False.elim P
  | succ d ih =>
    intro b x v u A g w s Q hA rd ru xx R I ha hG P
    unfold rpT at P
    split at P
    · rename_i hb
      split at P
      · rename_i i
        split at P
        · rename_i hi
          cases rd
          obtain ⟨t, rfl⟩ := ru
          exact ReprIs.int t hi.1 b hi.2 A _ s _ fun tk => ⟨_, I.kept fun _ _ z => z, Post.now P R rfl⟩
        · exact False.elim P
      · rename_i l
        cases rd with
        | @tup _ a vs st rl =>
          obtain rfl : u = Value.ref a := ru
          obtain ⟨its, rv, ⟨o, ho, hc, n, hd⟩, hz⟩ := I.tuple (st.ext xx.toEx0).sq
          refine wpAny_pyReprUnder_ref hb (wpAny_pyReprObjUnder_twin (twin := "tuple.__repr__.under") ⟨o, ho, hc⟩ F.slot_tuple_repr rfl (by have := hA.un; omega) ?_)
          refine call_twin_own (F.quiet_tuple_repr_under _) F.entry_tuple_repr_under F.check_tuple_repr_under ⟨o, ho, hc⟩ F.slot_tuple_repr (F.args_tuple_repr_1 _) ?_
          refine rpt_own (r := rpT cn f gD d) (l := l) (.inr rfl) (fun b x v u w s Q h1 h2 h3 h4 h5 h6 h7 h8 => ih b x v u _ _ w s Q (hA.down (.inr rfl)) h1 h2 h3 h4 h5 h6 h7 h8) hA.g st rl xx R I ha hG P ?_ ?_
          · intro t tk H' s' I' q
            exact ⟨⟨_, _, rfl⟩, _, _, rfl, _, I', q⟩
          · intro e s' h
            exact h
      · unfold rpO at P
        split at P
        · rename_i hcn
          obtain ⟨C, fa, fd, gg, gV, h1, hc, hm, h3, hR, h4⟩ := hF.ex
          have rd' := rd.ext xx.toEx0
          obtain ⟨ad, C', dx, fs, gs, rfl, h1', hp, rf⟩ := isCn_ins R rd' hcn
          cases h1.symm.trans h1'
          obtain rfl : u = Value.ref ad := ru
          obtain ⟨mA, O, _⟩ := ins_get I.hok hp
          obtain ⟨od, J, _⟩ := O.look
          obtain ⟨q1, q2⟩ := hR w [x] [.ref ad] [] [] (.cons rd' .nil) .nil rfl rfl
          obtain ⟨b1, b2⟩ := h3
          have r0 : Vals [V.ref ad] [Value.ref ad] := .cons rfl .nil
          refine krepr_under (by have := hA.un; omega) hb I.kIn J hm.at_ hm.fn (wpAny_call (codeAny_mono (h4.run A X.stack s w.hp ⟨[.ref ad], []⟩ (gg [.ref ad] []) (gV [.ref ad] []) (fun v H => ∃ t, v = .str t ∧ Q t H) (WE W σ) ⟨⟨hA.hd, by have := hA.dp; omega, by have := hA.un; omega⟩, fun q => absurd q (by omega)⟩ { I.env0 with frames := hA.f } (b1 s [.ref ad] [] I.kIn rfl rfl) (b2 r0 .nil) ?_) fun r s' hq => ?_))
          · refine ⟨q2, w, gD [x] [], rfl, R, q1, (Post.bind (Rl := RepD X.K X.mg) P).imp ?_⟩
            rintro v H1 ⟨w2, y, rfl, X2, R2, ry, P2⟩
            cases y with
            | str t => cases ry; exact ⟨_, rfl, Post.now P2 R2 rfl⟩
            | _ => exact False.elim P2
          · cases r with
            | error y => exact passAt tk σ pins w.hp s y s' I hq
            | ok fl =>
              cases fl with
              | ret u =>
                obtain ⟨v0, H', I3, rv0, t, rfl, q3⟩ := I.after hq
                obtain ⟨tk, rfl⟩ := rv0
                exact ⟨t, tk, rfl, H', I3, q3⟩
              | next => exact False.elim hq
              | brk => exact False.elim hq
              | cont => exact False.elim hq
        · exact False.elim P
    · exact False.elim P
end
section
variable {X : Cx} {W : WX} {a : Expr} {ma : EM} {pos p : Pos} {k j cn : Nat} {ps ks : List Str} {f : FM} {gD : List D → List D → List D}
def eReprT (cn : Nat) (f : FM) (gD : List D → List D → List D) (m : EM) : EM := fun e S => (aCons m aNil e S).bind fun ds S0 => match ds with
  | [.tup l] => if rsh cn 6 (.tup l) S0 = true then ((rpL (rpT cn f gD 6) 0 l S0).bind rpE).bind fun t S1 => .ok (.str t) S1 else .stuck
  | _ => .stuck
theorem re_reprT (c : Cg X W k) (hm0 : X.mg "repr" = none) (ha : RE X W a ma) (hF : Dt X.prog X.w X.K X.mg X.base cn "__repr__" ps j 0 [] gD f) (hj : j + 3 ≤ k) (h10 : 10 ≤ k := by decide) (hj9 : j < 10 := by decide) (hg : Gl X "repr" := by rfl)
    (he : starEach [a] X.env = (false, eval a X.env) :: starEach [] X.env := by rfl) :
    RE X W (.Call (.Name "repr" p) [a] [] pos) (eReprT cn f gD ma) := by
  refine ⟨fun pins s σ H Q I h => ?_⟩
  obtain ⟨w, en, rfl, R, E, P⟩ := h
  refine wpAny_Call_Name_kw (ld_blt I hg hm0 (show bootBuiltins "repr" = some (.builtin "repr") by rfl) ?_ (by decide) (by decide))
  refine PyProof.Rows.callWith_builtin1 (thn ((ra_cons ha ra_nil (hs := he)).run pos pins s σ w.hp _ I ⟨w, en, rfl, R, E, Post.bind P⟩) fun us s1 hu => ?_) he (by rfl)
  obtain ⟨vs, H1, I1, r, w1, ds, rfl, X1, R1, rl, P1⟩ := hu
  dsimp only at P1
  split at P1
  · obtain ⟨v, rfl, rv⟩ := rl.one_inv
    rename_i l
    split at P1
    · rename_i hsh
      have hAcc := acc_of I1 R1 6 _ _ rv hsh
      cases rv with
      | @tup _ ad vs' st rl' =>
        obtain ⟨u, rfl, ru⟩ := vals1 r
        obtain rfl : u = Value.ref ad := ru
        obtain ⟨its, rv, ⟨o, ho, hc, n, hd⟩, hz⟩ := I1.tuple st.sq
        have rA : RpA X j 7 [] X.A.in1 := ⟨c.rm.r.hd, by have := (c.rm.mono hj).r.dp; show X.A.depth + 7 + 3 * j + 5 < _; omega, by have := (c.rm.mono hj).r.un; show X.A.units + 1 + 7 + 16 * j + 200 < _; omega, c.rm.gd h10, I1.env0.frames⟩
        refine call_repr_slot (by have := c.rm.units; omega) ⟨o, ho, hc⟩ F.slot_tuple_repr ?_
        refine wpAny_call (codeAny_call_builtin_own (Code.quiet_builtin _ (by decide +kernel)) F.entry_tuple_repr (F.slot_tuple_repr.check _ _ _ _ _ _ _ _ ⟨o, ho, hc⟩ (F.args_tuple_repr_1 _) ?_))
        refine rpt_own (R := callEnd (fun r s' => ∃ x t, r = .str x t ∧ EP X pins σ Q r s') X.xe) (W := W) (σ := σ) (pins := pins) (r := rpT cn f gD 6) (l := l) (w := w1) (Q := fun t H => Q (.str t) H) (.inl rfl) (fun b x v u w s Q h1 h2 h3 h4 h5 h6 h7 h8 => rp_run c.tk hF hj9 6 b x v u _ _ w s Q (rA.down (.inl rfl)) h1 h2 h3 h4 h5 h6 h7 h8) rA.g st rl' (Ext.refl _) R1 I1 hAcc (fun _ _ _ _ hm => by cases hm) ((Post.bind (Rl := SEq) P1).imp ?_) ?_ ?_
        · rintro t H2 ⟨w2, t', rfl, x2, R2, rfl, P2⟩
          exact Post.now P2 R2 (.str _)
        · intro t tk H' s' I' q
          exact ⟨t, tk, rfl, .str t, H', I', ⟨tk, rfl⟩, q⟩
        · intro e s' h
          exact h
    · exact False.elim P1
  · exact False.elim P1
def eRevN (m : EM) : EM := fun e S => (m e S).bind fun d S1 => (lf (seqD S1 d) S1).bind fun l S2 => .ok (.loc S2.length) (S2 ++ [.lst l.reverse])
theorem re_revN {k : Nat} {p1 p2 p3 : Pos} (ha : RE X W a ma) : RE X W (.Subscript a (.Slice none none (some (.UnaryOp .USub (.Constant (.int 1) k p1) p2)) p3) pos) (eRevN ma) := by
  refine pe_imp (pe_revL ha) ?_
  rintro s H Q ⟨w, en, rfl, R, E, P⟩
  refine ⟨w, en, rfl, R, E, (Post.bind P).imp ?_⟩
  rintro v H1 ⟨w1, d, rfl, X1, R1, rd, P1⟩
  dsimp only at P1
  cases e1 : seqD w1.st d with
  | none => rw [e1] at P1; exact False.elim P1
  | some l =>
    rw [e1] at P1
    obtain ⟨ad, vs, rfl, hs, hl⟩ := rd.seq R1 e1
    refine ⟨ad, vs, rfl, hs, fun q hq => ?_⟩
    have X2 := new_ext (o := .lst vs.reverse) (c := .lst l.reverse) R1 hq
    exact P1 (w1.new q (.lst vs.reverse) (.lst l.reverse)) _ X2 (R1.new hq ⟨_, upd_same, hl.rev.ext X2.toEx0⟩) rfl (.loc (new_get R1))
end
end G
namespace G
open PySem
def Wr {β : Type} (r : Res β) (Q : β → Store → Prop) (X : D → Store → Prop) : Prop := match r with
  | .ok b S => Q b S
  | .exc e S => X e S
  | .stuck => False
structure KS where
  nx : En → Store → Prop
  rt : D → Store → Prop
  bk : En → Store → Prop
  ct : En → Store → Prop
  ex : D → En → Store → Prop
def Ws (r : SRes) (k : KS) : Prop := match r with
  | .nxt e S => k.nx e S
  | .ret d S => k.rt d S
  | .brk e S => k.bk e S
  | .cnt e S => k.ct e S
  | .exc x e S => k.ex x e S
  | .stuck => False
abbrev QP (β : Type) := β → Store → Prop
section
variable {β γ : Type} {Q : β → Store → Prop} {QD : D → Store → Prop} {QB : Bool → Store → Prop} {QL : List D → Store → Prop} {QO : Option Int → Store → Prop} {QE : En → Store → Prop} {X : D → Store → Prop} {k : KS} {e : En} {S S1 : Store} {a b c : EM} {t u : TM} {m n : SM} {am : AM} {x y d : D} {z : Bool} {xs ds : List D}
theorem wr_ok (z : β) : Wr (.ok z S) Q X = Q z S := rfl
theorem wr_exc (z : D) : Wr (.exc z S : Res β) Q X = X z S := rfl
theorem wr_stuck : Wr (.stuck : Res β) Q X = False := rfl
theorem wr_bind {r : Res γ} {f : γ → Store → Res β} : Wr (r.bind f) Q X = Wr r (fun b S => Wr (f b S) Q X) X := by cases r <;> rfl
theorem wr_guard {p : Prop} [Decidable p] {r : Res β} : Wr (if p then r else .stuck) Q X = (p ∧ Wr r Q X) := by
  by_cases h : p
  · rw [if_pos h]; simp [h]
  · rw [if_neg h]; simp [h, wr_stuck]
def nX : D → Store → Prop := fun _ _ => False
theorem wr_lf (z : β) : Wr (lf (some z) S) Q X = Q z S := rfl
theorem wr_eC : Wr (eC d e S) QD X = QD d S := rfl
def evQ (o : Option (Option D)) (S : Store) (Q : D → Store → Prop) : Prop := match o with
  | some (some d) => Q d S
  | _ => False
theorem evQ_some : evQ (some (some d)) S QD = QD d S := rfl
theorem wr_eVar (i : Nat) : Wr (eVar i e S) QD X = evQ e[i]? S QD := by
  unfold eVar evQ
  cases e[i]? with
  | none => rfl
  | some o => cases o <;> rfl
def cB2 (f : D → D → Option D) (x : D) (Q X : QP D) : QP D := fun y S => Wr (lf (f x y) S) Q X
def cB1 (f : D → D → Option D) (b : EM) (e : En) (Q X : QP D) : QP D := fun x S => Wr (b e S) (cB2 f x Q X) X
theorem cB2_s (f : D → D → Option D) : cB2 f x QD X y S = Wr (lf (f x y) S) QD X := rfl
theorem cB1_s (f : D → D → Option D) : cB1 f b e QD X x S = Wr (b e S) (cB2 f x QD X) X := rfl
theorem wr_eBin (f : D → D → Option D) : Wr (eBin f a b e S) QD X = Wr (a e S) (cB1 f b e QD X) X := by
  unfold eBin; simp only [wr_bind]; rfl
def cS2 (f : Store → D → D → Option D) (x : D) (Q X : QP D) : QP D := fun y S => Wr (lf (f S x y) S) Q X
def cS1 (f : Store → D → D → Option D) (b : EM) (e : En) (Q X : QP D) : QP D := fun x S => Wr (b e S) (cS2 f x Q X) X
theorem cS2_s (f : Store → D → D → Option D) : cS2 f x QD X y S = Wr (lf (f S x y) S) QD X := rfl
theorem cS1_s (f : Store → D → D → Option D) : cS1 f b e QD X x S = Wr (b e S) (cS2 f x QD X) X := rfl
theorem wr_eBinS (f : Store → D → D → Option D) : Wr (eBinS f a b e S) QD X = Wr (a e S) (cS1 f b e QD X) X := by
  unfold eBinS; simp only [wr_bind]; rfl
def asQ (Q : Bool → Store → Prop) : QP D := fun x S => match x with
  | .bl b => Q b S
  | _ => False
theorem asQ_bl : asQ QB (.bl z) S = QB z S := rfl
theorem wr_tB : Wr (tB a e S) QB X = Wr (a e S) (asQ QB) X := by
  unfold tB; rw [wr_bind]; congr; funext x S1; cases x <;> rfl
def truQ (Q : QP Bool) (X : QP D) : QP D := fun x S => Wr (lf (truD S x) S) Q X
theorem truQ_s : truQ QB X x S = Wr (lf (truD S x) S) QB X := rfl
theorem wr_tT : Wr (tT a e S) QB X = Wr (a e S) (truQ QB X) X := by unfold tT; rw [wr_bind]; rfl
def notQ (Q : QP Bool) : QP Bool := fun b S => Q (!b) S
theorem notQ_s : notQ QB z S = QB (!z) S := rfl
theorem wr_tNt : Wr (tNt t e S) QB X = Wr (t e S) (notQ QB) X := by unfold tNt; rw [wr_bind]; rfl
def anQ (u : TM) (e : En) (Q : QP Bool) (X : QP D) : QP Bool := fun b S => match b with
  | true => Wr (u e S) Q X
  | false => Q false S
theorem anQ_t : anQ u e QB X true S = Wr (u e S) QB X := rfl
theorem anQ_f : anQ u e QB X false S = QB false S := rfl
theorem wr_tAn : Wr (tAn t u e S) QB X = Wr (t e S) (anQ u e QB X) X := by
  unfold tAn; rw [wr_bind]; congr; funext b S1; cases b <;> rfl
def orQ (u : TM) (e : En) (Q : QP Bool) (X : QP D) : QP Bool := fun b S => match b with
  | true => Q true S
  | false => Wr (u e S) Q X
theorem orQ_t : orQ u e QB X true S = QB true S := rfl
theorem orQ_f : orQ u e QB X false S = Wr (u e S) QB X := rfl
theorem wr_tOr : Wr (tOr' t u e S) QB X = Wr (t e S) (orQ u e QB X) X := by
  unfold tOr'; rw [wr_bind]; congr; funext b S1; cases b <;> rfl
def eaB (b : EM) (e : En) (x : D) (Q X : QP D) : QP Bool := fun z S => match z with
  | true => Wr (b e S) Q X
  | false => Q x S
def eaQ (b : EM) (e : En) (Q X : QP D) : QP D := fun x S => Wr (lf (truD S x) S) (eaB b e x Q X) X
theorem eaB_t : eaB b e x QD X true S = Wr (b e S) QD X := rfl
theorem eaB_f : eaB b e x QD X false S = QD x S := rfl
theorem eaQ_s : eaQ b e QD X x S = Wr (lf (truD S x) S) (eaB b e x QD X) X := rfl
theorem wr_eAn : Wr (eAn a b e S) QD X = Wr (a e S) (eaQ b e QD X) X := by
  unfold eAn; rw [wr_bind]; congr; funext b S1; rw [wr_bind, eaQ_s]; congr; funext b S1; cases b <;> rfl
def eoB (b : EM) (e : En) (x : D) (Q X : QP D) : QP Bool := fun z S => match z with
  | true => Q x S
  | false => Wr (b e S) Q X
def eoQ (b : EM) (e : En) (Q X : QP D) : QP D := fun x S => Wr (lf (truD S x) S) (eoB b e x Q X) X
theorem eoB_t : eoB b e x QD X true S = QD x S := rfl
theorem eoB_f : eoB b e x QD X false S = Wr (b e S) QD X := rfl
theorem eoQ_s : eoQ b e QD X x S = Wr (lf (truD S x) S) (eoB b e x QD X) X := rfl
theorem wr_eOr : Wr (eOr a b e S) QD X = Wr (a e S) (eoQ b e QD X) X := by
  unfold eOr; rw [wr_bind]; congr; funext b S1; rw [wr_bind, eoQ_s]; congr; funext b S1; cases b <;> rfl
def enB (Q : QP D) : QP Bool := fun z S => Q (.bl (!z)) S
def enQ (Q X : QP D) : QP D := fun x S => Wr (lf (truD S x) S) (enB Q) X
theorem enB_s : enB QD z S = QD (.bl (!z)) S := rfl
theorem enQ_s : enQ QD X x S = Wr (lf (truD S x) S) (enB QD) X := rfl
theorem wr_eNt : Wr (eNt a e S) QD X = Wr (a e S) (enQ QD X) X := by
  unfold eNt; rw [wr_bind]; congr; funext b S1; rw [wr_bind]; rfl
def eiQ (a b : EM) (e : En) (Q X : QP D) : QP Bool := fun z S => match z with
  | true => Wr (a e S) Q X
  | false => Wr (b e S) Q X
theorem eiQ_t : eiQ a b e QD X true S = Wr (a e S) QD X := rfl
theorem eiQ_f : eiQ a b e QD X false S = Wr (b e S) QD X := rfl
theorem wr_eIf : Wr (eIf t a b e S) QD X = Wr (t e S) (eiQ a b e QD X) X := by
  unfold eIf; rw [wr_bind]; congr; funext b S1; cases b <;> rfl
def negQ (Q : QP D) : QP D := fun x S => match x with
  | .int i => Q (.int (-i)) S
  | _ => False
theorem negQ_int (i : Int) : negQ QD (.int i) S = QD (.int (-i)) S := rfl
theorem wr_eNeg : Wr (eNeg a e S) QD X = Wr (a e S) (negQ QD) X := by
  unfold eNeg; rw [wr_bind]; congr; funext x S1; cases x <;> rfl
theorem wr_aNil : Wr (aNil e S) QL X = QL [] S := rfl
def cC2 (x : D) (Q : QP (List D)) : QP (List D) := fun xs S => Q (x :: xs) S
def cC1 (am : AM) (e : En) (Q : QP (List D)) (X : QP D) : QP D := fun x S => Wr (am e S) (cC2 x Q) X
theorem cC2_s : cC2 x QL xs S = QL (x :: xs) S := rfl
theorem cC1_s : cC1 am e QL X x S = Wr (am e S) (cC2 x QL) X := rfl
theorem wr_aCons : Wr (aCons a am e S) QL X = Wr (a e S) (cC1 am e QL X) X := by
  unfold aCons; rw [wr_bind]; congr; funext x S1; rw [wr_bind]; rfl
def tupQ (Q : QP D) : QP (List D) := fun xs S => xs.length ≤ sizeLine ∧ Q (.tup xs) S
def lstQ (Q : QP D) : QP (List D) := fun xs S => xs.length ≤ sizeLine ∧ Q (.lst xs) S
def newQ (Q : QP D) : QP (List D) := fun xs S => xs.length ≤ sizeLine ∧ Q (.loc S.length) (S ++ [.lst xs])
theorem tupQ_s : tupQ QD xs S = (xs.length ≤ sizeLine ∧ QD (.tup xs) S) := rfl
theorem lstQ_s : lstQ QD xs S = (xs.length ≤ sizeLine ∧ QD (.lst xs) S) := rfl
theorem newQ_s : newQ QD xs S = (xs.length ≤ sizeLine ∧ QD (.loc S.length) (S ++ [.lst xs])) := rfl
theorem wr_eTup : Wr (eTup am e S) QD X = Wr (am e S) (tupQ QD) X := by
  unfold eTup; rw [wr_bind]; congr; funext xs S1; rw [wr_guard]; rfl
theorem wr_eLst : Wr (eLst am e S) QD X = Wr (am e S) (lstQ QD) X := by
  unfold eLst; rw [wr_bind]; congr; funext xs S1; rw [wr_guard]; rfl
theorem wr_eNew : Wr (eNew am e S) QD X = Wr (am e S) (newQ QD) X := by
  unfold eNew; rw [wr_bind]; congr; funext xs S1; rw [wr_guard]; rfl
def caQ (f : Store → List D → Option D) (Q X : QP D) : QP (List D) := fun xs S => Wr (lf (f S xs) S) Q X
theorem caQ_s (f : Store → List D → Option D) : caQ f QD X xs S = Wr (lf (f S xs) S) QD X := rfl
theorem wr_eCa (f : Store → List D → Option D) : Wr (eCa f am e S) QD X = Wr (am e S) (caQ f QD X) X := by unfold eCa; rw [wr_bind]; rfl
def clQ (f : FM) (Q X : QP D) : QP (List D) := fun xs S => Wr (f xs S) Q X
theorem clQ_s (f : FM) : clQ f QD X xs S = Wr (f xs S) QD X := rfl
theorem wr_eCall (f : FM) : Wr (eCall f am e S) QD X = Wr (am e S) (clQ f QD X) X := by unfold eCall; rw [wr_bind]; rfl
def nAQ (i : Nat) (Q : QP (List D)) : QP (List D) := fun xs S => xs.length = i ∧ Q xs S
theorem nAQ_s (i : Nat) : nAQ i QL xs S = (xs.length = i ∧ QL xs S) := rfl
theorem wr_nA (i : Nat) : Wr (nA i am e S) QL X = Wr (am e S) (nAQ i QL) X := by
  unfold nA; rw [wr_bind]; congr; funext xs S1; rw [wr_guard]; rfl
def tyQ (y : Ty) (Q X : QP D) : QP D := fun x S => Wr (lf ((isTy S y x).map .bl) S) Q X
theorem tyQ_s (y : Ty) : tyQ y QD X x S = Wr (lf ((isTy S y x).map .bl) S) QD X := rfl
theorem wr_eIsTy (y : Ty) : Wr (eIsTy y a e S) QD X = Wr (a e S) (tyQ y QD X) X := by unfold eIsTy; rw [wr_bind]; rfl
def icQ (tb : Nat → Option Bool) (Q X : QP D) : QP D := fun x S => Wr (lf ((isC tb x).map .bl) S) Q X
theorem icQ_s (tb : Nat → Option Bool) : icQ tb QD X x S = Wr (lf ((isC tb x).map .bl) S) QD X := rfl
theorem wr_eIsC (tb : Nat → Option Bool) : Wr (eIsC tb a e S) QD X = Wr (a e S) (icQ tb QD X) X := by unfold eIsC; rw [wr_bind]; rfl
def mt2 (f : Store → D → List D → Option D) (x : D) (Q X : QP D) : QP (List D) := fun xs S => Wr (lf (f S x xs) S) Q X
def mt1 (f : Store → D → List D → Option D) (am : AM) (e : En) (Q X : QP D) : QP D := fun x S => (seqD S x).isSome = true ∧ Wr (am e S) (mt2 f x Q X) X
theorem mt2_s (f : Store → D → List D → Option D) : mt2 f x QD X xs S = Wr (lf (f S x xs) S) QD X := rfl
theorem mt1_s (f : Store → D → List D → Option D) : mt1 f am e QD X x S = ((seqD S x).isSome = true ∧ Wr (am e S) (mt2 f x QD X) X) := rfl
theorem wr_eMt (f : Store → D → List D → Option D) : Wr (eMt f a am e S) QD X = Wr (a e S) (mt1 f am e QD X) X := by
  unfold eMt; rw [wr_bind]; congr; funext x S1; rw [wr_guard, wr_bind]; rfl
theorem wr_oNone : Wr (oNone e S) QO X = QO none S := rfl
def oQ (Q : Option Int → Store → Prop) : QP D := fun x S => match x with
  | .int i => Q (some i) S
  | _ => False
theorem oQ_int (i : Int) : oQ QO (.int i) S = QO (some i) S := rfl
theorem wr_oSome : Wr (oSome a e S) QO X = Wr (a e S) (oQ QO) X := by
  unfold oSome; rw [wr_bind]; congr; funext x S1; cases x <;> rfl
def sl3 (x : D) (i : Option Int) (Q X : QP D) : QP (Option Int) := fun j S => Wr (lf (slD S x i j) S) Q X
def sl2 (x : D) (h : OM) (e : En) (Q X : QP D) : QP (Option Int) := fun i S => Wr (h e S) (sl3 x i Q X) X
def sl1 (l h : OM) (e : En) (Q X : QP D) : QP D := fun x S => Wr (l e S) (sl2 x h e Q X) X
theorem sl3_s (i j : Option Int) : sl3 x i QD X j S = Wr (lf (slD S x i j) S) QD X := rfl
theorem sl2_s (h : OM) (i : Option Int) : sl2 x h e QD X i S = Wr (h e S) (sl3 x i QD X) X := rfl
theorem sl1_s (l h : OM) : sl1 l h e QD X x S = Wr (l e S) (sl2 x h e QD X) X := rfl
theorem wr_eSl (l h : OM) : Wr (eSl a l h e S) QD X = Wr (a e S) (sl1 l h e QD X) X := by
  unfold eSl; simp only [wr_bind]; rfl
def kk2 (f : FM) (g : List D → List D → List D) (i j : Nat) (ds : List D) (Q X : QP D) : QP (List D) := fun zs S => (ds.length = i ∧ zs.length = j) ∧ Wr (f (g ds zs) S) Q X
def kk1 (f : FM) (g : List D → List D → List D) (i j : Nat) (mk : AM) (e : En) (Q X : QP D) : QP (List D) := fun ds S => Wr (mk e S) (kk2 f g i j ds Q X) X
theorem kk2_s (f : FM) (g : List D → List D → List D) (i j : Nat) : kk2 f g i j ds QD X xs S = ((ds.length = i ∧ xs.length = j) ∧ Wr (f (g ds xs) S) QD X) := rfl
theorem kk1_s (f : FM) (g : List D → List D → List D) (i j : Nat) (mk : AM) : kk1 f g i j mk e QD X ds S = Wr (mk e S) (kk2 f g i j ds QD X) X := rfl
theorem wr_eCallK (f : FM) (g : List D → List D → List D) (i j : Nat) (mk : AM) : Wr (eCallK f g i j am mk e S) QD X = Wr (am e S) (kk1 f g i j mk e QD X) X := by
  unfold eCallK; rw [wr_bind]; congr; funext ds S1; rw [wr_bind, kk1_s]; congr; funext zs S2; rw [wr_guard]; rfl
def kk0 (f : FM) (g : List D → List D → List D) (j : Nat) (Q X : QP D) : QP (List D) := fun zs S => zs.length = j ∧ Wr (f (g [] zs) S) Q X
theorem kk0_s (f : FM) (g : List D → List D → List D) (j : Nat) : kk0 f g j QD X xs S = (xs.length = j ∧ Wr (f (g [] xs) S) QD X) := rfl
theorem wr_eCallK0 (f : FM) (g : List D → List D → List D) (j : Nat) (mk : AM) : Wr (eCallK0 f g j mk e S) QD X = Wr (mk e S) (kk0 f g j QD X) X := by
  unfold eCallK0; rw [wr_bind]; congr; funext zs S2; rw [wr_guard]; rfl
theorem wr_noX {r : Res β} : Wr (noX r) Q X = Wr r Q nX := by cases r <;> rfl
theorem wr_gN (i : Nat) : Wr (gN i d e S) QE X = QE (e.set i (some d)) S := rfl
def sb3 (e : En) (Q : QP En) (o : Option Store) : Prop := match o with
  | some S => Q e S
  | none => False
theorem sb3_s : sb3 e QE (some S) = QE e S := rfl
def sb2 (d x : D) (e : En) (Q : QP En) : QP D := fun y S => sb3 e Q (setD S x y d)
def sb1 (d : D) (i : EM) (e : En) (Q : QP En) : QP D := fun x S => Wr (i e S) (sb2 d x e Q) nX
theorem sb2_s : sb2 d x e QE y S = sb3 e QE (setD S x y d) := rfl
theorem sb1_s (i : EM) : sb1 d i e QE x S = Wr (i e S) (sb2 d x e QE) nX := rfl
theorem wr_gSb (o i : EM) : Wr (gSb o i d e S) QE X = Wr (o e S) (sb1 d i e QE) nX := by
  unfold gSb; rw [wr_bind, wr_noX]; congr; funext x S1; rw [wr_bind, wr_noX, sb1_s]; congr; funext y S2; rw [sb2_s]; cases h : setD S2 x y d <;> rfl
theorem wr_gsNil : Wr (gsNil [] e S) QE X = QE e S := rfl
def gs1 (r : GMs) (ds : List D) (Q : QP En) : QP En := fun e S => Wr (r ds e S) Q nX
theorem gs1_s (r : GMs) : gs1 r ds QE e S = Wr (r ds e S) QE nX := rfl
theorem wr_gsCons (g : GM) (r : GMs) (ds : List D) : Wr (gsCons' g r (d :: ds) e S) QE X = Wr (g d e S) (gs1 r ds QE) nX := by
  show Wr ((noX (g d e S)).bind fun e1 S1 => noX (r ds e1 S1)) QE X = _
  rw [wr_bind, wr_noX]; congr; funext x S1; rw [wr_noX]; rfl
theorem wr_gTp (i : Nat) (r : GMs) (ds : List D) : Wr (gTp i r (.tup ds) e S) QE X = (ds.length = i ∧ Wr (r ds e S) QE X) := by
  show Wr (if ds.length = i then r ds e S else .stuck) QE X = _
  rw [wr_guard]
def KS.sq (k : KS) (n : SM) : KS := ⟨fun e S => Ws (n e S) k, k.rt, k.bk, k.ct, k.ex⟩
def KS.xe (k : KS) (e : En) : QP D := fun x S => k.ex x e S
theorem xe_s : k.xe e x S = k.ex x e S := rfl
theorem sq_nx : (k.sq n).nx e S = Ws (n e S) k := rfl
theorem sq_rt : (k.sq n).rt = k.rt := rfl
theorem sq_bk : (k.sq n).bk = k.bk := rfl
theorem sq_ct : (k.sq n).ct = k.ct := rfl
theorem sq_ex : (k.sq n).ex = k.ex := rfl
theorem sq_xe : (k.sq n).xe e = k.xe e := rfl
theorem ws_nxt : Ws (.nxt e S) k = k.nx e S := rfl
theorem ws_sS {r : SRes} : Ws (sS r n) k = Ws r (k.sq n) := by cases r <;> rfl
theorem ws_sE {r : Res β} {f : β → Store → SRes} : Ws (sE r e f) k = Wr r (fun z S1 => Ws (f z S1) k) (k.xe e) := by cases r <;> rfl
theorem ws_sNop : Ws (sNop e S) k = k.nx e S := rfl
theorem ws_sSeq : Ws (sSeq m n e S) k = Ws (m e S) (k.sq n) := ws_sS
theorem ws_sBrk : Ws (sBrk e S) k = k.bk e S := rfl
theorem ws_sCnt : Ws (sCnt e S) k = k.ct e S := rfl
def dropQ (k : KS) (e : En) : QP D := fun _ S => k.nx e S
theorem dropQ_s : dropQ k e x S = k.nx e S := rfl
theorem ws_sDrop : Ws (sDrop a e S) k = Wr (a e S) (dropQ k e) (k.xe e) := ws_sE
theorem ws_sRet : Ws (sRet a e S) k = Wr (a e S) k.rt (k.xe e) := ws_sE
theorem ws_sRetN : Ws (sRetN e S) k = k.rt .non S := rfl
def ifQ (m n : SM) (e : En) (k : KS) : QP Bool := fun z S => match z with
  | true => Ws (m e S) k
  | false => Ws (n e S) k
theorem ifQ_t : ifQ m n e k true S = Ws (m e S) k := rfl
theorem ifQ_f : ifQ m n e k false S = Ws (n e S) k := rfl
theorem ws_sIf : Ws (sIf t m n e S) k = Wr (t e S) (ifQ m n e k) (k.xe e) := by
  unfold sIf; rw [ws_sE]; congr; funext z S1; cases z <;> rfl
def asg1 (g : GM) (e : En) (k : KS) : QP D := fun d S => Wr (g d e S) k.nx (k.xe e)
theorem asg1_s (g : GM) : asg1 g e k d S = Wr (g d e S) k.nx (k.xe e) := rfl
theorem ws_sAsg (g : GM) : Ws (sAsg a g e S) k = Wr (a e S) (asg1 g e k) (k.xe e) := by
  unfold sAsg; rw [ws_sE]; congr; funext z S1; rw [ws_sE]; rfl
def setQ (i : Nat) (e : En) (k : KS) : QP D := fun d S => k.nx (e.set i (some d)) S
theorem setQ_s (i : Nat) : setQ i e k d S = k.nx (e.set i (some d)) S := rfl
theorem ws_sSet (i : Nat) : Ws (sSet i a e S) k = Wr (a e S) (setQ i e k) (k.xe e) := by
  unfold sSet; rw [ws_sE]; rfl
def parQ (i j : Nat) (e : En) (k : KS) (ds : List D) (S : Store) : Prop := match ds with
  | [x, y] => k.nx ((e.set i (some x)).set j (some y)) S
  | _ => False
theorem parQ_s (i j : Nat) : parQ i j e k [x, y] S = k.nx ((e.set i (some x)).set j (some y)) S := rfl
theorem ws_sPar (i j : Nat) : Ws (sPar i j am e S) k = Wr (am e S) (parQ i j e k) (k.xe e) := by
  unfold sPar; rw [ws_sE]; congr; funext ds S1
  match ds with
  | [] => rfl
  | [_] => rfl
  | [_, _] => rfl
  | _ :: _ :: _ :: _ => rfl
theorem ws_sRaise (i : Nat) : Ws (sRaise i e S) k = k.ex (.exc i []) e S := rfl
def KS.fn (Q : D → Store → Prop) (X : D → Store → Prop) : KS := ⟨fun _ S => Q .non S, Q, fun _ _ => False, fun _ _ => False, fun x _ S => X x S⟩
theorem fn_nx : (KS.fn QD X).nx e S = QD .non S := rfl
theorem fn_rt : (KS.fn QD X).rt = QD := rfl
theorem fn_ex : (KS.fn QD X).ex x e S = X x S := rfl
theorem fn_xe : (KS.fn QD X).xe e = X := rfl
theorem wr_fnM (i : Nat) (ds : List D) : Wr (fnM i m ds S) QD X = Ws (m (ds.map some ++ List.replicate (i - ds.length) none) S) (KS.fn QD X) := by
  unfold fnM
  show _ = Ws (m (enOf i ds) S) _
  cases m (enOf i ds) S <;> rfl
def KS.su (k : KS) (i : Nat) : KS := ⟨fun e S => k.nx (e.set i none) S, k.rt, fun e S => k.bk (e.set i none) S, fun e S => k.ct (e.set i none) S, fun _ _ _ => False⟩
theorem su_nx (i : Nat) : (k.su i).nx e S = k.nx (e.set i none) S := rfl
theorem su_bk (i : Nat) : (k.su i).bk e S = k.bk (e.set i none) S := rfl
theorem su_ct (i : Nat) : (k.su i).ct e S = k.ct (e.set i none) S := rfl
theorem su_rt (i : Nat) : (k.su i).rt = k.rt := rfl
def trQ (k : KS) (i : Nat) (n : SM) (x : D) (e : En) (S : Store) (o : Option Bool) : Prop := match o with
  | some true => Ws (n (e.set i (some x)) S) (k.su i)
  | some false => k.ex x e S
  | none => False
theorem trQ_t (i : Nat) : trQ k i n x e S (some true) = Ws (n (e.set i (some x)) S) (k.su i) := rfl
theorem trQ_f (i : Nat) : trQ k i n x e S (some false) = k.ex x e S := rfl
def KS.tr (k : KS) (i : Nat) (tb : Nat → Option Bool) (n : SM) : KS := ⟨k.nx, k.rt, k.bk, k.ct, fun x e S => match x with
  | .exc cn _ => trQ k i n x e S (tb cn)
  | _ => False⟩
theorem tr_nx (i : Nat) (tb : Nat → Option Bool) : (k.tr i tb n).nx = k.nx := rfl
theorem tr_rt (i : Nat) (tb : Nat → Option Bool) : (k.tr i tb n).rt = k.rt := rfl
theorem tr_bk (i : Nat) (tb : Nat → Option Bool) : (k.tr i tb n).bk = k.bk := rfl
theorem tr_ct (i : Nat) (tb : Nat → Option Bool) : (k.tr i tb n).ct = k.ct := rfl
theorem tr_ex (i : Nat) (tb : Nat → Option Bool) (cn : Nat) (fs : List (Nat × D)) : (k.tr i tb n).ex (.exc cn fs) e S = trQ k i n (.exc cn fs) e S (tb cn) := rfl
theorem ws_sTry (i : Nat) (tb : Nat → Option Bool) : Ws (sTry i tb m n e S) k = Ws (m e S) (k.tr i tb n) := by
  unfold sTry
  cases m e S with
  | exc x e1 S1 =>
    cases x with
    | exc cn fs =>
      show Ws (match tb cn with
        | some true => sSu i (n (e1.set i (some (.exc cn fs))) S1)
        | some false => .exc (.exc cn fs) e1 S1
        | none => .stuck) k = trQ k i n (.exc cn fs) e1 S1 (tb cn)
      cases tb cn with
      | none => rfl
      | some z =>
        cases z with
        | true =>
          show Ws (sSu i (n (e1.set i (some (.exc cn fs))) S1)) k = Ws _ _
          cases n (e1.set i (some (.exc cn fs))) S1 <;> rfl
        | false => rfl
    | _ => rfl
  | _ => rfl
def forQ (g : GM) (m : SM) (e : En) (k : KS) : QP (List D) := fun ds S => Ws (fiR g m ds e S) k
theorem forQ_s (g : GM) : forQ g m e k ds S = Ws (fiR g m ds e S) k := rfl
theorem ws_sFor (i : AM) (g : GM) : Ws (sFor i g m e S) k = Wr (i e S) (forQ g m e k) (k.xe e) := ws_sE
def KS.lp (k : KS) (I : En → Store → Prop) : KS := ⟨I, k.rt, k.nx, I, k.ex⟩
theorem lp_nx (I : En → Store → Prop) : (k.lp I).nx = I := rfl
theorem lp_rt (I : En → Store → Prop) : (k.lp I).rt = k.rt := rfl
theorem lp_bk (I : En → Store → Prop) : (k.lp I).bk = k.nx := rfl
theorem lp_ct (I : En → Store → Prop) : (k.lp I).ct = I := rfl
theorem lp_ex (I : En → Store → Prop) : (k.lp I).ex = k.ex := rfl
theorem lp_xe (I : En → Store → Prop) : (k.lp I).xe e = k.xe e := rfl
theorem ws_fi_nil (g : GM) : Ws (fiR g m [] e S) k = k.nx e S := rfl
def turnQ (g : GM) (m : SM) (ds : List D) (k : KS) : QP En := fun e S => Ws (fiR g m ds e S) k
def bodyQ (m : SM) (k : KS) : QP En := fun e S => Ws (m e S) k
theorem bodyQ_s : bodyQ m k e S = Ws (m e S) k := rfl
theorem ws_fi_cons (g : GM) (ds : List D) : Ws (fiR g m (d :: ds) e S) k = Wr (g d e S) (bodyQ m (k.lp (turnQ g m ds k))) (k.xe e) := by
  rw [fiR]
  rw [ws_sE]
  congr; funext e1 S1
  rw [bodyQ_s]
  cases m e1 S1 <;> rfl
theorem for_w {g : GM} {ds : List D} (I : Nat → En → Store → Prop) (h0 : I 0 e S)
    (st : ∀ i d e S, ds[i]? = some d → I i e S → Wr (g d e S) (bodyQ m (k.lp (I (i + 1)))) (k.xe e))
    (fin : ∀ e S, I ds.length e S → k.nx e S) : Ws (fiR g m ds e S) k := by
  induction ds generalizing I e S with
  | nil => exact fin e S h0
  | cons d ds ih =>
    rw [ws_fi_cons]
    have h1 := st 0 d e S rfl h0
    have mono : ∀ (r : SRes), Ws r (k.lp (I 1)) → Ws r (k.lp (turnQ g m ds k)) := by
      intro r h
      have go : ∀ e S, I 1 e S → Ws (fiR g m ds e S) k := fun e S hI => ih (fun i => I (i + 1)) hI (fun i d e S hd => st (i + 1) d e S (by simpa using hd)) (fun e S => fin e S)
      cases r with
      | nxt e S => exact go e S h
      | cnt e S => exact go e S h
      | _ => exact h
    revert h1
    cases g d e S with
    | ok e1 S1 => exact fun h1 => mono _ h1
    | exc x S1 => exact id
    | stuck => exact id
theorem for_i {g : GM} {ds : List D} (I : En → Store → Prop) (h0 : I e S)
    (st : ∀ d e S, d ∈ ds → I e S → Wr (g d e S) (bodyQ m (k.lp I)) (k.xe e))
    (fin : ∀ e S, I e S → k.nx e S) : Ws (fiR g m ds e S) k :=
  for_w (fun _ => I) h0 (fun _ d e S hd => st d e S (List.mem_of_getElem? hd)) fin
def KS.mid (k : KS) (M : En → Store → Prop) : KS := ⟨M, k.rt, k.bk, k.ct, k.ex⟩
theorem mid_nx (M : En → Store → Prop) : (k.mid M).nx = M := rfl
theorem mid_rt (M : En → Store → Prop) : (k.mid M).rt = k.rt := rfl
theorem mid_bk (M : En → Store → Prop) : (k.mid M).bk = k.bk := rfl
theorem mid_ct (M : En → Store → Prop) : (k.mid M).ct = k.ct := rfl
theorem mid_ex (M : En → Store → Prop) : (k.mid M).ex = k.ex := rfl
theorem mid_xe (M : En → Store → Prop) : (k.mid M).xe e = k.xe e := rfl
theorem ws_cut {r : SRes} (M : En → Store → Prop) (h1 : Ws r (k.mid M)) (h2 : ∀ e S, M e S → k.nx e S) : Ws r k := by
  cases r with
  | nxt e S => exact h2 e S h1
  | _ => exact h1
def lc2 (Q : QP D) : QP (List D) := fun acc S => Q (.lst acc) S
def lc1 (g : Tg) (t : TM) (a : EM) (e : En) (Q X : QP D) : QP (List D) := fun ds S => Wr (lcR g t a e ds [] S) (lc2 Q) X
theorem lc2_s : lc2 QD xs S = QD (.lst xs) S := rfl
theorem lc1_s (g : Tg) : lc1 g t a e QD X ds S = Wr (lcR g t a e ds [] S) (lc2 QD) X := rfl
theorem wr_eLc (i : AM) (g : Tg) (vs : List Nat) : Wr (eLc i g t a vs e S) QD X = Wr (i e S) (lc1 g t a (wipeE e vs) QD X) X := by
  unfold eLc; rw [wr_bind]; congr; funext ds S1; rw [wr_bind]; rfl
def lcn2 (Q : QP D) : QP (List D) := fun acc S => Q (.loc S.length) (S ++ [.lst acc])
def lcn1 (g : Tg) (t : TM) (a : EM) (e : En) (Q X : QP D) : QP (List D) := fun ds S => Wr (lcR g t a e ds [] S) (lcn2 Q) X
theorem lcn2_s : lcn2 QD xs S = QD (.loc S.length) (S ++ [.lst xs]) := rfl
theorem lcn1_s (g : Tg) : lcn1 g t a e QD X ds S = Wr (lcR g t a e ds [] S) (lcn2 QD) X := rfl
theorem wr_eLcN (i : AM) (g : Tg) (vs : List Nat) : Wr (eLcN i g t a vs e S) QD X = Wr (i e S) (lcn1 g t a (wipeE e vs) QD X) X := by
  unfold eLcN; rw [wr_bind]; congr; funext ds S1; rw [wr_bind]; rfl
theorem wipe_nil : wipeE e [] = e := rfl
theorem wipe_cons (v : Nat) (vs : List Nat) : wipeE e (v :: vs) = (wipeE e vs).set v none := rfl
theorem wr_tTrue : Wr (tTrue e S) QB X = QB true S := rfl
theorem wr_lc_nil (g : Tg) (acc : List D) : Wr (lcR g t a e [] acc S) QL X = QL acc S := rfl
def tgQ (o : Option En) (f : En → Prop) : Prop := match o with
  | some e => f e
  | none => False
theorem tgQ_some (f : En → Prop) : tgQ (some e) f = f e := rfl
def ly (I : QP (List D)) (acc : List D) : QP D := fun y S => acc.length < sizeLine ∧ I (acc ++ [y]) S
theorem ly_s (I : QP (List D)) (acc : List D) : ly I acc y S = (acc.length < sizeLine ∧ I (acc ++ [y]) S) := rfl
def lt1 (a : EM) (e : En) (I : QP (List D)) (acc : List D) : QP Bool := fun b S => match b with
  | true => Wr (a e S) (ly I acc) nX
  | false => I acc S
theorem lt1_t (I : QP (List D)) (acc : List D) : lt1 a e I acc true S = Wr (a e S) (ly I acc) nX := rfl
theorem lt1_f (I : QP (List D)) (acc : List D) : lt1 a e I acc false S = I acc S := rfl
def lg (t : TM) (a : EM) (I : QP (List D)) (acc : List D) (S : Store) : En → Prop := fun e => Wr (t e S) (lt1 a e I acc) nX
theorem lg_s (I : QP (List D)) (acc : List D) : lg t a I acc S e = Wr (t e S) (lt1 a e I acc) nX := rfl
def lcI (g : Tg) (t : TM) (a : EM) (e : En) (ds : List D) (Q : QP (List D)) (X : QP D) : QP (List D) := fun acc S => Wr (lcR g t a e ds acc S) Q X
theorem lcI_s (g : Tg) (acc : List D) : lcI g t a e ds QL X acc S = Wr (lcR g t a e ds acc S) QL X := rfl
theorem wr_lc_cons (g : Tg) (acc ds : List D) : Wr (lcR g t a e (d :: ds) acc S) QL X = tgQ (g.m d e) (lg t a (lcI g t a e ds QL X) acc S) := by
  rw [lcR]
  unfold tgQ
  cases g.m d e with
  | none => rfl
  | some e1 =>
    dsimp only
    rw [wr_bind, wr_noX, lg_s]; congr; funext b S2
    cases b with
    | false => rfl
    | true =>
      show Wr ((noX (a e1 S2)).bind _) _ _ = Wr (a e1 S2) _ _
      rw [wr_bind, wr_noX]; congr; funext y S3; rw [wr_guard]; rfl
theorem lc_w {g : Tg} {ds acc : List D} (I : Nat → List D → Store → Prop) (h0 : I 0 acc S)
    (st : ∀ i d acc S, ds[i]? = some d → I i acc S → tgQ (g.m d e) (lg t a (I (i + 1)) acc S))
    (fin : ∀ acc S, I ds.length acc S → QL acc S) : Wr (lcR g t a e ds acc S) QL X := by
  induction ds generalizing I acc S with
  | nil => exact fin acc S h0
  | cons d ds ih =>
    rw [wr_lc_cons]
    have h1 := st 0 d acc S rfl h0
    have go : ∀ acc S, I 1 acc S → Wr (lcR g t a e ds acc S) QL X := fun acc S hI => ih (fun i => I (i + 1)) hI (fun i d acc S hd => st (i + 1) d acc S (by simpa using hd)) (fun acc S => fin acc S)
    revert h1
    cases g.m d e with
    | none => exact id
    | some e1 =>
      simp only [tgQ_some, lg_s]
      cases t e1 S with
      | exc x S1 => exact id
      | stuck => exact id
      | ok b S1 =>
        simp only [wr_ok]
        cases b with
        | false => exact fun h => go _ _ h
        | true =>
          simp only [lt1_t]
          cases a e1 S1 with
          | exc x S1 => exact id
          | stuck => exact id
          | ok y S2 => exact fun h => ⟨h.1, go _ _ h.2⟩
def eqQ (y : D) (S : Store) : QP D := fun d S' => d = y ∧ S' = S
theorem eqQ_s : eqQ y S d S1 = (d = y ∧ S1 = S) := rfl
def seqQ (Q : List D → Store → Prop) : QP D := fun x S => match x with
  | .tup l => Q l S
  | .lst l => Q l S
  | .scr l => Q l S
  | _ => False
theorem seqQ_tup (l : List D) : seqQ QL (.tup l) S = QL l S := rfl
theorem seqQ_lst (l : List D) : seqQ QL (.lst l) S = QL l S := rfl
theorem seqQ_scr (l : List D) : seqQ QL (.scr l) S = QL l S := rfl
theorem wr_iSeq : Wr (iSeq a e S) QL X = Wr (a e S) (seqQ QL) X := by
  unfold iSeq; rw [wr_bind]; congr; funext x S1; cases x <;> rfl
def rgQ (Q : List D → Store → Prop) : QP (List D) := fun ds S => match ds with
  | [.int j] => (-(2 ^ 62) ≤ j ∧ j < 2 ^ 62) ∧ Q (rangeD 0 j.toNat) S
  | _ => False
theorem rgQ_int (j : Int) : rgQ QL [.int j] S = ((-(2 ^ 62) ≤ j ∧ j < 2 ^ 62) ∧ QL (rangeD 0 j.toNat) S) := rfl
theorem wr_iRg1 : Wr (iRg1 am e S) QL X = Wr (am e S) (rgQ QL) X := by
  unfold iRg1; rw [wr_bind]; congr; funext ds S1
  match ds with
  | [] => rfl
  | [.int j] => show Wr (if _ then _ else _) _ _ = _; rw [wr_guard]; rfl
  | [.non] | [.bl _] | [.str _] | [.tup _] | [.lst _] | [.scr _] | [.dic _ _] | [.loc _] | [.exc _ _] | [.ins _ _] | [.fa _] | [.pin _ _] => rfl
  | _ :: _ :: _ => unfold rgQ; split <;> simp_all [wr_stuck]
def rgQ2 (Q : List D → Store → Prop) : QP (List D) := fun ds S => match ds with
  | [.int i, .int j] => (-(2 ^ 62) ≤ i ∧ i < 2 ^ 62 ∧ -(2 ^ 62) ≤ j ∧ j < 2 ^ 62) ∧ Q (rangeD i (j - i).toNat) S
  | _ => False
theorem rgQ2_int (i j : Int) : rgQ2 QL [.int i, .int j] S = ((-(2 ^ 62) ≤ i ∧ i < 2 ^ 62 ∧ -(2 ^ 62) ≤ j ∧ j < 2 ^ 62) ∧ QL (rangeD i (j - i).toNat) S) := rfl
theorem wr_iRg2 : Wr (iRg2 am e S) QL X = Wr (am e S) (rgQ2 QL) X := by
  unfold iRg2; rw [wr_bind]; congr; funext ds S1
  by_cases h : ∃ i j, ds = [.int i, .int j]
  · obtain ⟨i, j, rfl⟩ := h
    show Wr (if _ then _ else _) _ _ = _
    rw [wr_guard]; rfl
  · unfold rgQ2
    split <;> (try split) <;> simp_all [wr_stuck]
theorem of_w {r : Res D} (h : Wr r QD nX) : ∃ d S, r = .ok d S ∧ QD d S := by
  cases r with
  | ok d S => exact ⟨d, S, rfl, h⟩
  | exc _ _ => exact False.elim h
  | stuck => exact False.elim h
theorem eq_of_w {r : Res D} (h : Wr r (eqQ d S) nX) : r = .ok d S := by
  obtain ⟨d', S', rfl, rfl, rfl⟩ := of_w h
  rfl
def exQ (y : D) (S : Store) : QP D := fun d S' => d = y ∧ S' = S
theorem exQ_s : exQ y S d S1 = (d = y ∧ S1 = S) := rfl
end
end G
namespace G
open PySem
def rD (q : Rat) : D := .tup [.int q.num, .int (q.den : Int)]
def Bt (q : Rat) (n : Nat) : Prop := q.num.natAbs < 2 ^ n ∧ q.den < 2 ^ n
theorem pow_le2 {a b : Nat} (h : a ≤ b) : (2 : Nat) ^ a ≤ 2 ^ b := Nat.pow_le_pow_right (by omega) h
theorem Bt.mono {q : Rat} {a b : Nat} (h : Bt q a) (l : a ≤ b) : Bt q b := ⟨Nat.lt_of_lt_of_le h.1 (pow_le2 l), Nat.lt_of_lt_of_le h.2 (pow_le2 l)⟩
theorem bt_div {t : Int} {b : Int} {n m : Nat} (h1 : t.natAbs < 2 ^ n) (h2 : b.natAbs < 2 ^ n) (hn : 0 < n) : Bt (Rat.divInt t b) n := by
  have h2' : 1 < 2 ^ n := Nat.one_lt_two_pow (by omega)
  constructor
  · rw [Rat.num_divInt]
    refine Nat.lt_of_le_of_lt (Int.natAbs_ediv_le_natAbs _ _) ?_
    rw [Int.natAbs_mul]
    have : b.sign.natAbs ≤ 1 := by rcases Int.lt_trichotomy b 0 with h | h | h <;> simp [Int.sign_eq_neg_one_of_neg, Int.sign_eq_one_of_pos, h]
    have := Nat.mul_le_mul_right t.natAbs this
    omega
  · rw [Rat.den_divInt]
    split
    · exact h2'
    · exact Nat.lt_of_le_of_lt (Nat.div_le_self _ _) h2
theorem natAbs_mul_lt {x y : Int} {a b : Nat} (hx : x.natAbs < 2 ^ a) (hy : y.natAbs < 2 ^ b) : (x * y).natAbs < 2 ^ (a + b) := by
  rw [Int.natAbs_mul, Nat.pow_add]
  exact Nat.mul_lt_mul'' hx hy
theorem natAbs_add_lt {x y : Int} {a : Nat} (hx : x.natAbs < 2 ^ a) (hy : y.natAbs < 2 ^ a) : (x + y).natAbs < 2 ^ (a + 1) := by
  have := Int.natAbs_add_le x y
  rw [Nat.pow_succ]; omega
theorem natAbs_sub_lt {x y : Int} {a : Nat} (hx : x.natAbs < 2 ^ a) (hy : y.natAbs < 2 ^ a) : (x - y).natAbs < 2 ^ (a + 1) := by
  have := Int.natAbs_sub_le x y
  rw [Nat.pow_succ]; omega
theorem add_div (p q : Rat) : p + q = Rat.divInt (p.num * q.den + q.num * p.den) ((p.den : Int) * (q.den : Int)) := by
  rw [← Int.natCast_mul, Rat.divInt_ofNat, Rat.add_def']
theorem sub_div (p q : Rat) : p - q = Rat.divInt (p.num * q.den - q.num * p.den) ((p.den : Int) * (q.den : Int)) := by
  rw [← Int.natCast_mul, Rat.divInt_ofNat, Rat.sub_def']
theorem div_div (p q : Rat) : p / q = Rat.divInt (p.num * q.den) ((p.den : Int) * q.num) := by
  rw [Rat.div_def, Rat.inv_def, ← Rat.num_divInt_den p, Rat.divInt_mul_divInt, Rat.num_divInt_den]
theorem Bt.add {p q : Rat} {a b : Nat} (h1 : Bt p a) (h2 : Bt q b) : Bt (p + q) (a + b + 1) := by
  rw [add_div]
  have e1 := natAbs_mul_lt (y := (q.den : Int)) h1.1 (by simpa using h2.2)
  have e2 := natAbs_mul_lt (y := (p.den : Int)) h2.1 (by simpa using h1.2)
  have e3 := natAbs_mul_lt (x := (p.den : Int)) (y := (q.den : Int)) (by simpa using h1.2) (by simpa using h2.2)
  rw [Nat.add_comm b a] at e2
  exact bt_div (m := 0) (natAbs_add_lt e1 e2) (Nat.lt_of_lt_of_le e3 (pow_le2 (by omega))) (by omega)
theorem Bt.sub {p q : Rat} {a b : Nat} (h1 : Bt p a) (h2 : Bt q b) : Bt (p - q) (a + b + 1) := by
  rw [sub_div]
  have e1 := natAbs_mul_lt (y := (q.den : Int)) h1.1 (by simpa using h2.2)
  have e2 := natAbs_mul_lt (y := (p.den : Int)) h2.1 (by simpa using h1.2)
  have e3 := natAbs_mul_lt (x := (p.den : Int)) (y := (q.den : Int)) (by simpa using h1.2) (by simpa using h2.2)
  rw [Nat.add_comm b a] at e2
  exact bt_div (m := 0) (natAbs_sub_lt e1 e2) (Nat.lt_of_lt_of_le e3 (pow_le2 (by omega))) (by omega)
theorem Bt.pos {p : Rat} {a : Nat} (h : Bt p a) : 0 < a := by
  rcases Nat.eq_zero_or_pos a with rfl | h0
  · have := h.2; have := p.den_pos; simp at *; omega
  · exact h0
theorem Bt.div {p q : Rat} {a b : Nat} (h1 : Bt p a) (h2 : Bt q b) : Bt (p / q) (a + b) := by
  rw [div_div]
  have := h1.pos
  exact bt_div (m := 0) (natAbs_mul_lt h1.1 (by simpa using h2.2)) (natAbs_mul_lt (by simpa using h1.2) h2.1) (by omega)
theorem Bt.max {p q : Rat} {a b : Nat} (h1 : Bt p a) (h2 : Bt q b) : Bt (max p q) (Nat.max a b) := by
  rw [Rat.max_def]
  split
  · exact h2.mono (Nat.le_max_right _ _)
  · exact h1.mono (Nat.le_max_left _ _)
theorem Bt.int {i : Int} {n : Nat} (h : i.natAbs < 2 ^ n) (hn : 0 < n) : Bt (i : Rat) n := ⟨h, Nat.one_lt_two_pow (by omega)⟩
theorem bt_0 : Bt 0 1 := by constructor <;> decide
theorem bt_1 : Bt 1 1 := by constructor <;> decide
theorem isTy_rD (z : Ty) (q : Rat) (S : Store) : isTy S z (rD q) = some (Tn.is .tuple z) := rfl
theorem fLen_rD (q : Rat) (S : Store) : fLen S [rD q] = some (.int 2) := rfl
theorem ix_rD0 (q : Rat) (S : Store) : ixD S (rD q) (.int 0) = some (.int q.num) := rfl
theorem ix_rD1 (q : Rat) (S : Store) : ixD S (rD q) (.int 1) = some (.int q.den) := rfl
theorem rat_beq (p q : Rat) : (p.num == q.num && ((p.den : Int) == (q.den : Int) && true)) = decide (p = q) := by
  by_cases h : p = q
  · subst h; simp
  · rw [decide_eq_false h]
    by_cases h1 : p.num = q.num
    · have h2 : ¬ (p.den : Int) = (q.den : Int) := fun z => h (Rat.ext h1 (by omega))
      simp [h2]
    · simp [h1]
theorem eqD_rD (p q : Rat) : eqD (rD p) (rD q) = some (decide (p = q)) := by
  rw [← rat_beq]; rfl
theorem dEq_rD (p q : Rat) : dEq (rD p) (rD q) = some (.bl (decide (p = q))) := by unfold dEq; rw [eqD_rD]; rfl
theorem dNe_rD (p q : Rat) : dNe (rD p) (rD q) = some (.bl (!decide (p = q))) := by unfold dNe; rw [eqD_rD]; rfl
theorem wr_gTp_rD {QE : En → Store → Prop} {X : D → Store → Prop} {e : En} {S : Store} (q : Rat) (r : GMs) : Wr (gTp 2 r (rD q) e S) QE X = Wr (r [.int q.num, .int q.den] e S) QE X := by
  unfold rD; rw [wr_gTp]; simp
theorem seqQ_rD {QL : List D → Store → Prop} {S : Store} (q : Rat) : seqQ QL (rD q) S = QL [.int q.num, .int q.den] S := rfl
theorem dIs_rD (q : Rat) : dIs (rD q) .non = some (.bl false) := rfl
theorem dIsNot_rD (q : Rat) : dIsNot (rD q) .non = some (.bl true) := rfl
theorem lt_rat (p q : Rat) : decide (p.num * (q.den : Int) < q.num * (p.den : Int)) = decide (p < q) := by
  by_cases h : p < q
  · rw [decide_eq_true h, decide_eq_true ((Rat.lt_iff p q).mp h)]
  · rw [decide_eq_false h, decide_eq_false fun z => h ((Rat.lt_iff p q).mpr z)]
def gI (a b : Int) : Int := (Nat.gcd a.natAbs b.natAbs : Nat)
theorem gI_pos {a b : Int} (h : b ≠ 0) : 0 < gI a b := by
  have : 0 < Nat.gcd a.natAbs b.natAbs := Nat.gcd_pos_of_pos_right _ (by omega)
  unfold gI; omega
theorem gI_l (a b : Int) : gI a b ∣ a := by
  unfold gI
  exact Int.ofNat_dvd_left.mpr (Nat.gcd_dvd_left _ _)
theorem gI_r (a b : Int) : gI a b ∣ b := by
  unfold gI
  exact Int.ofNat_dvd_left.mpr (Nat.gcd_dvd_right _ _)
theorem gI_congr {a b c d : Int} (h1 : a.natAbs = c.natAbs) (h2 : b.natAbs = d.natAbs) : gI a b = gI c d := by unfold gI; rw [h1, h2]
theorem gI_abs (a b : Int) : gI (if a < 0 then -a else a) b = gI a b := gI_congr (by split <;> omega) rfl
theorem gI_le {a b : Int} (h : b ≠ 0) : (gI a b).natAbs ≤ b.natAbs := by
  have : Nat.gcd a.natAbs b.natAbs ≤ b.natAbs := Nat.gcd_le_right _ (by omega)
  unfold gI; omega
theorem gI_step {a b : Int} (ha : 0 ≤ a) (hb : 0 ≤ b) : gI b (a % b) = gI a b := by
  unfold gI
  have : (a % b).natAbs = a.natAbs % b.natAbs := by rw [Int.natAbs_emod_of_nonneg ha]
  rw [this, Nat.gcd_comm a.natAbs b.natAbs, Nat.gcd_rec b.natAbs a.natAbs, Nat.gcd_comm]
theorem gI_rat (q : Rat) : gI q.num q.den = 1 := by
  unfold gI
  have := q.reduced
  rw [Int.natAbs_natCast, this]; rfl
theorem fdiv_pos {x g : Int} (h : 0 < g) : x.fdiv g = x / g := Int.fdiv_eq_ediv_of_nonneg x (by omega)
theorem fdiv_neg_of {x g : Int} (h : 0 < g) (hd : g ∣ x) : x.fdiv (0 - g) = (0 - x) / g := by
  obtain ⟨k, rfl⟩ := hd
  rw [show (0 : Int) - g * k = g * (-k) by rw [Int.mul_neg]; omega, Int.mul_ediv_cancel_left _ (by omega)]
  rw [show g * k = (0 - g) * (-k) by rw [Int.mul_neg, Int.zero_sub, Int.neg_mul]; omega]
  exact Int.mul_fdiv_cancel_left _ (by omega)
theorem num_pos {t b : Int} (hb : 0 < b) : (Rat.divInt t b).num = t / gI t b := by
  rw [Rat.num_divInt, Int.sign_eq_one_of_pos hb, Int.one_mul]
  unfold gI Int.gcd
  rw [Nat.gcd_comm]
theorem den_pos' {t b : Int} (hb : 0 < b) : ((Rat.divInt t b).den : Int) = b / gI t b := by
  rw [Rat.den_divInt, if_neg (by omega)]
  unfold gI Int.gcd
  rw [Nat.gcd_comm, Int.natCast_ediv]
  congr 1
  omega
theorem lowest_rD {t b : Int} (hb : 0 < b) : D.tup [.int (t / gI t b), .int (b / gI t b)] = rD (Rat.divInt t b) := by
  unfold rD; rw [num_pos hb, den_pos' hb]
theorem neg_rD {t b : Int} (hb : b < 0) : D.tup [.int ((0 - t) / gI t b), .int ((0 - b) / gI t b)] = rD (Rat.divInt t b) := by
  have e : Rat.divInt t b = Rat.divInt (0 - t) (0 - b) := by
    rw [Int.zero_sub, Int.zero_sub, Rat.neg_divInt_neg]
  have g : gI t b = gI (0 - t) (0 - b) := gI_congr (by omega) (by omega)
  rw [e, g]
  exact lowest_rD (by omega)
end G
namespace G
open PySem
section
variable {β γ : Type} {e : En} {S S1 : Store} {a b c : EM} {t u : TM} {m n : SM} {am : AM} {x y d : D} {k : β → Store → Res γ}
@[simp] theorem bind_ok (z : β) : (Res.ok z S).bind k = k z S := rfl
@[simp] theorem bind_exc (z : D) : (Res.exc z S : Res β).bind k = .exc z S := rfl
@[simp] theorem bind_stuck : (Res.stuck : Res β).bind k = .stuck := rfl
@[simp] theorem lf_some_s (z : β) : lf (some z) S = .ok z S := rfl
@[simp] theorem lf_none_s : lf (none : Option β) S = .stuck := rfl
@[simp] theorem eC_s : eC d e S = .ok d S := rfl
def evR (o : Option (Option D)) (S : Store) : Res D := match o with
  | some (some d) => .ok d S
  | _ => .stuck
@[simp] theorem eVar_s (i : Nat) : eVar i e S = evR e[i]? S := rfl
@[simp] theorem evR_some : evR (some (some d)) S = .ok d S := rfl
@[simp] theorem eBin_s (f : D → D → Option D) : eBin f a b e S = (a e S).bind fun x S1 => (b e S1).bind fun y S2 => lf (f x y) S2 := rfl
@[simp] theorem eBinS_s (f : Store → D → D → Option D) : eBinS f a b e S = (a e S).bind fun x S1 => (b e S1).bind fun y S2 => lf (f S2 x y) S2 := rfl
def asB (x : D) (S : Store) : Res Bool := match x with
  | .bl b => .ok b S
  | _ => .stuck
@[simp] theorem asB_bl (z : Bool) : asB (.bl z) S = .ok z S := rfl
@[simp] theorem tB_s : tB a e S = (a e S).bind asB := rfl
@[simp] theorem tT_s : tT a e S = (a e S).bind fun x S1 => lf (truD S1 x) S1 := rfl
@[simp] theorem tNt_s : tNt t e S = (t e S).bind fun b S1 => .ok (!b) S1 := rfl
@[simp] theorem tAn_s : tAn t u e S = (t e S).bind fun b S1 => if b then u e S1 else .ok false S1 := rfl
@[simp] theorem tOr_s : tOr' t u e S = (t e S).bind fun b S1 => if b then .ok true S1 else u e S1 := rfl
@[simp] theorem eAn_s : eAn a b e S = (a e S).bind fun x S1 => (lf (truD S1 x) S1).bind fun k S2 => if k then b e S2 else .ok x S2 := rfl
@[simp] theorem eOr_s : eOr a b e S = (a e S).bind fun x S1 => (lf (truD S1 x) S1).bind fun k S2 => if k then .ok x S2 else b e S2 := rfl
@[simp] theorem eNt_s : eNt a e S = (a e S).bind fun x S1 => (lf (truD S1 x) S1).bind fun k S2 => .ok (.bl (!k)) S2 := rfl
@[simp] theorem eIf_s : eIf t a b e S = (t e S).bind fun k S1 => if k then a e S1 else b e S1 := rfl
def negR (x : D) (S : Store) : Res D := match x with
  | .int i => .ok (.int (-i)) S
  | _ => .stuck
@[simp] theorem negR_int (i : Int) : negR (.int i) S = .ok (.int (-i)) S := rfl
@[simp] theorem eNeg_s : eNeg a e S = (a e S).bind negR := rfl
@[simp] theorem aNil_s : aNil e S = .ok [] S := rfl
@[simp] theorem aCons_s : aCons a am e S = (a e S).bind fun x S1 => (am e S1).bind fun xs S2 => .ok (x :: xs) S2 := rfl
@[simp] theorem eTup_s : eTup am e S = (am e S).bind fun xs S1 => if xs.length ≤ sizeLine then .ok (.tup xs) S1 else .stuck := rfl
@[simp] theorem eLst_s : eLst am e S = (am e S).bind fun xs S1 => if xs.length ≤ sizeLine then .ok (.lst xs) S1 else .stuck := rfl
@[simp] theorem eNew_s : eNew am e S = (am e S).bind fun xs S1 => if xs.length ≤ sizeLine then .ok (.loc S1.length) (S1 ++ [.lst xs]) else .stuck := rfl
@[simp] theorem eCa_s (f : Store → List D → Option D) : eCa f am e S = (am e S).bind fun xs S1 => lf (f S1 xs) S1 := rfl
@[simp] theorem eCall_s (f : FM) : eCall f am e S = (am e S).bind f := rfl
@[simp] theorem nA_s (i : Nat) : nA i am e S = (am e S).bind fun ds S1 => if ds.length = i then .ok ds S1 else .stuck := rfl
@[simp] theorem eIsTy_s (z : Ty) : eIsTy z a e S = (a e S).bind fun x S1 => lf ((isTy S1 z x).map .bl) S1 := rfl
@[simp] theorem eIsC_s (tb : Nat → Option Bool) : eIsC tb a e S = (a e S).bind fun x S1 => lf ((isC tb x).map .bl) S1 := rfl
@[simp] theorem eMt_s (f : Store → D → List D → Option D) : eMt f a am e S = (a e S).bind fun x S1 => if (seqD S1 x).isSome then (am e S1).bind fun xs S2 => lf (f S2 x xs) S2 else .stuck := rfl
@[simp] theorem oNone_s : oNone e S = .ok none S := rfl
def oR (x : D) (S : Store) : Res (Option Int) := match x with
  | .int i => .ok (some i) S
  | _ => .stuck
@[simp] theorem oR_int (i : Int) : oR (.int i) S = .ok (some i) S := rfl
@[simp] theorem oSome_s : oSome a e S = (a e S).bind oR := rfl
@[simp] theorem eSl_s (l h : OM) : eSl a l h e S = (a e S).bind fun x S1 => (l e S1).bind fun i S2 => (h e S2).bind fun j S3 => lf (slD S3 x i j) S3 := rfl
@[simp] theorem eCallK_s (f : FM) (g : List D → List D → List D) (i j : Nat) (mk : AM) : eCallK f g i j am mk e S = (am e S).bind fun ds S1 => (mk e S1).bind fun zs S2 => if ds.length = i ∧ zs.length = j then f (g ds zs) S2 else .stuck := rfl
@[simp] theorem eCallK0_s (f : FM) (g : List D → List D → List D) (j : Nat) (mk : AM) : eCallK0 f g j mk e S = (mk e S).bind fun zs S2 => if zs.length = j then f (g [] zs) S2 else .stuck := rfl
@[simp] theorem sE_ok (z : β) (q : β → Store → SRes) : sE (.ok z S) e q = q z S := rfl
@[simp] theorem sE_exc (z : D) (q : β → Store → SRes) : sE (.exc z S) e q = .exc z e S := rfl
@[simp] theorem sE_stuck (q : β → Store → SRes) : sE .stuck e q = .stuck := rfl
@[simp] theorem sS_nxt : sS (.nxt e S) m = m e S := rfl
@[simp] theorem sS_ret : sS (.ret d S) m = .ret d S := rfl
@[simp] theorem sS_brk : sS (.brk e S) m = .brk e S := rfl
@[simp] theorem sS_cnt : sS (.cnt e S) m = .cnt e S := rfl
@[simp] theorem sS_exc : sS (.exc d e S) m = .exc d e S := rfl
@[simp] theorem sNop_s : sNop e S = .nxt e S := rfl
@[simp] theorem sSeq_s : sSeq m n e S = sS (m e S) n := rfl
@[simp] theorem sBrk_s : sBrk e S = .brk e S := rfl
@[simp] theorem sCnt_s : sCnt e S = .cnt e S := rfl
@[simp] theorem sDrop_s : sDrop a e S = sE (a e S) e fun _ S1 => .nxt e S1 := rfl
@[simp] theorem sRet_s : sRet a e S = sE (a e S) e fun d S1 => .ret d S1 := rfl
@[simp] theorem sRetN_s : sRetN e S = .ret .non S := rfl
@[simp] theorem sIf_s : sIf t m n e S = sE (t e S) e fun k S1 => if k then m e S1 else n e S1 := rfl
@[simp] theorem gN_s (i : Nat) : gN i d e S = .ok (e.set i (some d)) S := rfl
@[simp] theorem sAsg_s (g : GM) : sAsg a g e S = sE (a e S) e fun d S1 => sE (g d e S1) e fun e1 S2 => .nxt e1 S2 := rfl
@[simp] theorem sSet_s (i : Nat) : sSet i a e S = sE (a e S) e fun d S1 => .nxt (e.set i (some d)) S1 := rfl
def parR (i j : Nat) (e : En) (ds : List D) (S : Store) : SRes := match ds with
  | [x, y] => .nxt ((e.set i (some x)).set j (some y)) S
  | _ => .stuck
@[simp] theorem parR_s (i j : Nat) : parR i j e [x, y] S = .nxt ((e.set i (some x)).set j (some y)) S := rfl
@[simp] theorem sPar_s (i j : Nat) : sPar i j am e S = sE (am e S) e (parR i j e) := rfl
@[simp] theorem sRaise_s (i : Nat) : sRaise i e S = .exc (.exc i []) e S := rfl
def fnEnd : SRes → Res D
  | .nxt _ S' => .ok .non S'
  | .ret d S' => .ok d S'
  | .exc x _ S' => .exc x S'
  | _ => .stuck
@[simp] theorem fnEnd_nxt : fnEnd (.nxt e S) = .ok .non S := rfl
@[simp] theorem fnEnd_ret : fnEnd (.ret d S) = .ok d S := rfl
@[simp] theorem fnEnd_exc : fnEnd (.exc d e S) = .exc d S := rfl
theorem fnM_s (i : Nat) (ds : List D) : fnM i m ds S = fnEnd (m (enOf i ds) S) := by
  unfold fnM fnEnd
  cases m (enOf i ds) S <;> rfl
@[simp] theorem enOf_s (i : Nat) (ds : List D) : enOf i ds = ds.map some ++ List.replicate (i - ds.length) none := rfl
@[simp] theorem cmpI_s (f : Int → Int → Bool) (i j : Int) : cmpI f (.int i) (.int j) = some (.bl (f i j)) := rfl
@[simp] theorem dAdd_int (i j : Int) : dAdd (.int i) (.int j) = some (.int (i + j)) := rfl
@[simp] theorem dSub_int (i j : Int) : dSub (.int i) (.int j) = some (.int (i - j)) := rfl
theorem dMul_int {i j : Int} (h : mulOk i j = true) : dMul (.int i) (.int j) = some (.int (i * j)) := by
  show (if mulOk i j = true then some (D.int (i * j)) else none) = _
  rw [if_pos h]
theorem dDiv_int {i j : Int} (h : divOk j = true) : dDiv (.int i) (.int j) = some (.int (i.fdiv j)) := by
  show (if divOk j = true then some (D.int (i.fdiv j)) else none) = _
  rw [if_pos h]
theorem dMod_int {i j : Int} (h : j ≠ 0) : dMod (.int i) (.int j) = some (.int (i.fmod j)) := by
  show (if j = 0 then none else some (D.int (i.fmod j))) = _
  rw [if_neg h]
theorem dEq_int (i j : Int) : dEq (.int i) (.int j) = some (.bl (decide (i = j))) := rfl
theorem dNe_int (i j : Int) : dNe (.int i) (.int j) = some (.bl (!decide (i = j))) := rfl
theorem dEq_bl (i j : Bool) : dEq (.bl i) (.bl j) = some (.bl (decide (i = j))) := by cases i <;> cases j <;> rfl
theorem dNe_bl (i j : Bool) : dNe (.bl i) (.bl j) = some (.bl (!decide (i = j))) := by cases i <;> cases j <;> rfl
@[simp] theorem truD_bl (z : Bool) : truD S (.bl z) = some z := rfl
@[simp] theorem isTy_int (z : Ty) (i : Int) : isTy S z (.int i) = some (Tn.is .int z) := rfl
@[simp] theorem isTy_bl (z : Ty) (i : Bool) : isTy S z (.bl i) = some (Tn.is .bool z) := rfl
@[simp] theorem isTy_tup (z : Ty) (l : List D) : isTy S z (.tup l) = some (Tn.is .tuple z) := rfl
@[simp] theorem fLen_tup (l : List D) : fLen S [.tup l] = some (.int l.length) := rfl
@[simp] theorem fLen_scr (l : List D) : fLen S [.scr l] = some (.int l.length) := rfl
@[simp] theorem fLen_lst (l : List D) : fLen S [.lst l] = some (.int l.length) := rfl
@[simp] theorem fAbs_int (i : Int) : fAbs S [.int i] = some (.int (if i < 0 then -i else i)) := rfl
@[simp] theorem fMax_int (i j : Int) : fMax S [.int i, .int j] = some (.int (if j > i then j else i)) := rfl
@[simp] theorem fMin_int (i j : Int) : fMin S [.int i, .int j] = some (.int (if j < i then j else i)) := rfl
@[simp] theorem ixD_tup (l : List D) (i : Int) : ixD S (.tup l) (.int i) = L2.atI l i := rfl
@[simp] theorem ixD_lst (l : List D) (i : Int) : ixD S (.lst l) (.int i) = L2.atI l i := rfl
@[simp] theorem ixD_scr (l : List D) (i : Int) : ixD S (.scr l) (.int i) = L2.atI l i := rfl
theorem ixD_loc {j : Nat} {l : List D} (i : Int) (h : S[j]? = some (.lst l)) : ixD S (.loc j) (.int i) = L2.atI l i := by
  show (match S[j]? with
    | some (.lst l) => L2.atI l i
    | _ => none) = _
  rw [h]
end
theorem log2_lt {x n : Nat} (h : x < 2 ^ n) (hn : 0 < n) : x.log2 < n := PySem.Flt.log2_lt_of hn h
theorem mul_ok {i j : Int} {a b : Nat} (hi : i.natAbs < 2 ^ a) (hj : j.natAbs < 2 ^ b) (h0 : 0 < a) (h1 : 0 < b) (h : a + b ≤ 1000000) : mulOk i j = true := by
  have x := log2_lt hi h0
  have y := log2_lt hj h1
  unfold mulOk
  rw [Bool.or_eq_true, Bool.or_eq_true]
  exact .inr (.inr (decide_eq_true (by omega)))
theorem mul_l {i j : Int} (hi : i.natAbs < 2 ^ 64) : mulOk i j = true := by
  unfold mulOk
  rw [Bool.or_eq_true]
  exact .inl (decide_eq_true hi)
theorem mul_r {i j : Int} (hj : j.natAbs < 2 ^ 64) : mulOk i j = true := by
  unfold mulOk
  rw [Bool.or_eq_true, Bool.or_eq_true]
  exact .inr (.inl (decide_eq_true hj))
theorem div_ok {j : Int} {b : Nat} (hz : j ≠ 0) (hj : j.natAbs < 2 ^ b) (h1 : 0 < b) (h : b ≤ 9000) : divOk j = true := by
  have y := log2_lt hj h1
  unfold divOk
  rw [Bool.and_eq_true]
  exact ⟨by simpa using hz, decide_eq_true (by omega)⟩
@[simp] theorem noX_ok {β : Type} (z : β) (S : Store) : noX (.ok z S) = .ok z S := rfl
def setR (o : Option Store) (e : En) : Res En := match o with
  | some S3 => .ok e S3
  | none => .stuck
@[simp] theorem setR_some (S : Store) (e : En) : setR (some S) e = .ok e S := rfl
@[simp] theorem gSb_s (o i : EM) (d : D) (e : En) (S : Store) : gSb o i d e S = (noX (o e S)).bind fun x S1 => (noX (i e S1)).bind fun y S2 => setR (setD S2 x y d) e := by
  unfold gSb setR
  congr 1
theorem setD_loc {S : Store} {n j : Nat} {l : List D} {k : Int} (d : D) (h : S[n]? = some (.lst l)) (hj : L2.ixN l.length k = some j) : setD S (.loc n) (.int k) d = some (S.set n (.lst (l.set j d))) := by
  show (match S[n]? with
    | some (.lst l) => (L2.ixN l.length k).map fun j => S.set n (.lst (l.set j d))
    | _ => none) = _
  rw [h]
  show (L2.ixN l.length k).map _ = _
  rw [hj]
  rfl
@[simp] theorem gsNil_s (e : En) (S : Store) : gsNil [] e S = .ok e S := rfl
@[simp] theorem gsCons_s (g : GM) (r : GMs) (d : D) (ds : List D) (e : En) (S : Store) : gsCons' g r (d :: ds) e S = (noX (g d e S)).bind fun e1 S1 => noX (r ds e1 S1) := rfl
@[simp] theorem gTp_s (n : Nat) (r : GMs) (ds : List D) (e : En) (S : Store) : gTp n r (.tup ds) e S = if ds.length = n then r ds e S else .stuck := rfl
@[simp] theorem at3_0 {α : Type} (x y z : α) : L2.atI [x, y, z] (0 : Int) = some x := rfl
@[simp] theorem at3_1 {α : Type} (x y z : α) : L2.atI [x, y, z] (1 : Int) = some y := rfl
@[simp] theorem at3_2 {α : Type} (x y z : α) : L2.atI [x, y, z] (2 : Int) = some z := rfl
theorem cutL_map {α β : Type} (f : α → β) (l : List α) (lo hi : Option Int) : cutL (l.map f) lo hi = (cutL l lo hi).map f := by
  unfold cutL
  rw [List.length_map, List.map_take, List.map_drop]
end G
namespace G
open PySem
section
variable {Q X : QP D} {QB : QP Bool} {QL : QP (List D)} {k : KS} {e : En} {S S1 : Store} {a b c o : EM} {t u : TM} {m n : SM} {am mk : AM} {x y d : D} {z : Bool} {xs ds zs : List D}
def ch3 (g : D → D → Option D) (y : D) (c : EM) (e : En) (Q X : QP D) : QP D := fun z S => match z with
  | .bl true => Wr (c e S) (cB2 g y Q X) X
  | .bl false => Q (.bl false) S
  | _ => False
def ch2 (f g : D → D → Option D) (x : D) (c : EM) (e : En) (Q X : QP D) : QP D := fun y S => Wr (lf (f x y) S) (ch3 g y c e Q X) X
def ch1 (f g : D → D → Option D) (b c : EM) (e : En) (Q X : QP D) : QP D := fun x S => Wr (b e S) (ch2 f g x c e Q X) X
theorem ch3_t (g : D → D → Option D) : ch3 g y c e Q X (.bl true) S = Wr (c e S) (cB2 g y Q X) X := rfl
theorem ch3_f (g : D → D → Option D) : ch3 g y c e Q X (.bl false) S = Q (.bl false) S := rfl
theorem ch2_s (f g : D → D → Option D) : ch2 f g x c e Q X y S = Wr (lf (f x y) S) (ch3 g y c e Q X) X := rfl
theorem ch1_s (f g : D → D → Option D) : ch1 f g b c e Q X x S = Wr (b e S) (ch2 f g x c e Q X) X := rfl
theorem wr_eChain (f g : D → D → Option D) : Wr (eChain f g a b c e S) Q X = Wr (a e S) (ch1 f g b c e Q X) X := by
  unfold eChain; rw [wr_bind]; congr; funext x S1; rw [wr_bind, ch1_s]; congr; funext y S2; rw [wr_bind, ch2_s]; congr; funext z S3
  cases z with
  | bl w => cases w with
    | true => show Wr ((c e S3).bind _) Q X = Wr (c e S3) _ _; rw [wr_bind]; rfl
    | false => rfl
  | _ => rfl
def flQ (cs : List Nat) (f : Nat) (Q X : QP D) : QP D := fun x S => Wr (lf (fldD cs f S x) S) Q X
theorem flQ_s (cs : List Nat) (f : Nat) : flQ cs f Q X x S = Wr (lf (fldD cs f S x) S) Q X := rfl
theorem wr_eFld (cs : List Nat) (f : Nat) : Wr (eFld cs f a e S) Q X = Wr (a e S) (flQ cs f Q X) X := by unfold eFld; rw [wr_bind]; rfl
theorem fldD_ins (cs : List Nat) (f cn : Nat) (fs : List (Nat × D)) : fldD cs f S (.ins cn fs) = if cs.contains cn then fs.lookup f else none := rfl
def stQ (e : En) (k : KS) (o : Option Store) : Prop := match o with
  | some S => k.nx e S
  | none => False
theorem stQ_s : stQ e k (some S) = k.nx e S := rfl
def sf2 (cs : List Nat) (f : Nat) (y : D) (e : En) (k : KS) : QP D := fun x S => stQ e k (stF cs f S x y)
def sf1 (cs : List Nat) (f : Nat) (o : EM) (e : En) (k : KS) : QP D := fun y S => Wr (o e S) (sf2 cs f y e k) (k.xe e)
theorem sf2_s (cs : List Nat) (f : Nat) : sf2 cs f y e k x S = stQ e k (stF cs f S x y) := rfl
theorem sf1_s (cs : List Nat) (f : Nat) : sf1 cs f o e k y S = Wr (o e S) (sf2 cs f y e k) (k.xe e) := rfl
theorem ws_sFldM (cs : List Nat) (f : Nat) : Ws (sFldM cs f o a e S) k = Wr (a e S) (sf1 cs f o e k) (k.xe e) := by
  unfold sFldM; rw [ws_sE]; congr; funext y S1; rw [ws_sE, sf1_s]; congr; funext x S2
  rw [sf2_s]; cases stF cs f S2 x y <;> rfl
theorem stF_loc {cs : List Nat} {f cn i : Nat} {fs : List (Nat × D)} (h : S[i]? = some (.obj cn fs)) (hc : cs.contains cn = true) (hl : fs.length < 1000) : stF cs f S (.loc i) y = some (S.set i (.obj cn (putD f y fs))) := by
  unfold stF; simp only [h, hc, hl, decide_true, Bool.and_self, if_true]
theorem stF_last {cs : List Nat} {f cn : Nat} {fs : List (Nat × D)} (hc : cs.contains cn = true) (hl : fs.length < 1000) : stF cs f (S ++ [.obj cn fs]) (.loc S.length) y = some (S ++ [.obj cn (putD f y fs)]) := by
  rw [stF_loc (by simp) hc hl]
  congr 1
  rw [List.set_append_right _ _ (Nat.le_refl _)]
  simp
def mkQ2 (mk' : List D → List D → Store → Res D) (n l : Nat) (ds : List D) (Q X : QP D) : QP (List D) := fun zs S => (ds.length = n ∧ zs.length = l) ∧ Wr (mk' ds zs S) Q X
def mkQ1 (mk' : List D → List D → Store → Res D) (n l : Nat) (mk : AM) (e : En) (Q X : QP D) : QP (List D) := fun ds S => Wr (mk e S) (mkQ2 mk' n l ds Q X) X
theorem mkQ2_s (mk' : List D → List D → Store → Res D) (n l : Nat) : mkQ2 mk' n l ds Q X zs S = ((ds.length = n ∧ zs.length = l) ∧ Wr (mk' ds zs S) Q X) := rfl
theorem mkQ1_s (mk' : List D → List D → Store → Res D) (n l : Nat) : mkQ1 mk' n l mk e Q X ds S = Wr (mk e S) (mkQ2 mk' n l ds Q X) X := rfl
theorem wr_eMk (mk' : List D → List D → Store → Res D) (n l : Nat) : Wr (eMk mk' n l am mk e S) Q X = Wr (am e S) (mkQ1 mk' n l mk e Q X) X := by
  unfold eMk; rw [wr_bind]; congr; funext ds S1; rw [wr_bind, mkQ1_s]; congr; funext zs S2; rw [wr_guard]; rfl
theorem wr_eMk0 (mk' : List D → List D → Store → Res D) : Wr (eMk0 mk' e S) Q X = Wr (mk' [] [] S) Q X := rfl
theorem mkI_ok {cn : Nat} {f : FM} {gD : List D → List D → List D} {fs : List (Nat × D)} (h : f (gD (.loc S.length :: ds) zs) (S ++ [.obj cn []]) = .ok .non (S ++ [.obj cn fs])) (hl : loF S.length fs = true) : mkI cn f gD ds zs S = .ok (.ins cn fs) S := by
  unfold mkI endI
  rw [h]
  simp only [List.drop_left, List.take_left, hl, true_and, and_self, if_true]
def ap2 (x : D) (Q X : QP D) : QP (List D) := fun xs S => Wr (appR x xs S) Q X
def ap1 (am : AM) (e : En) (Q X : QP D) : QP D := fun x S => isLst S x = true ∧ Wr (am e S) (ap2 x Q X) X
theorem ap2_s : ap2 x Q X xs S = Wr (appR x xs S) Q X := rfl
theorem ap1_s : ap1 am e Q X x S = (isLst S x = true ∧ Wr (am e S) (ap2 x Q X) X) := rfl
theorem wr_eApp : Wr (eApp a am e S) Q X = Wr (a e S) (ap1 am e Q X) X := by
  unfold eApp; rw [wr_bind]; congr; funext x S1; rw [wr_guard, wr_bind]; rfl
theorem isLst_loc {i : Nat} {l : List D} (h : S[i]? = some (.lst l)) : isLst S (.loc i) = true := by
  unfold isLst seqD; simp only [h, Option.isSome_some]
theorem appR_loc {i : Nat} {l : List D} (h : S[i]? = some (.lst l)) (hl : l.length < sizeLine) : appR (.loc i) [y] S = .ok .non (S.set i (.lst (l ++ [y]))) := by
  unfold appR; simp only [h, hl, if_true]
def zpQ (Q : QP (List D)) (X : QP D) : QP (List D) := fun ds S => Wr (zipR ds S) Q X
theorem zpQ_s : zpQ QL X ds S = Wr (zipR ds S) QL X := rfl
theorem wr_iZip : Wr (iZip am e S) QL X = Wr (am e S) (zpQ QL X) X := by unfold iZip; rw [wr_bind]; rfl
theorem zipR_tup (l m : List D) : zipR [.tup l, .tup m] S = .ok (zipD l m) S := rfl
theorem zipR_lst (l m : List D) : zipR [.lst l, .lst m] S = .ok (zipD l m) S := rfl
def srQ (Q : QP (List D)) (X : QP D) : QP D := fun d S => Wr (strR d S) Q X
theorem srQ_s : srQ QL X d S = Wr (strR d S) QL X := rfl
theorem wr_iStrM : Wr (iStrM a e S) QL X = Wr (a e S) (srQ QL X) X := by unfold iStrM; rw [wr_bind]; rfl
theorem strR_s (x : Str) : strR (.str x) S = .ok (signs x) S := rfl
def ioQ (cn : Nat) (Q X : QP D) : QP D := fun x S => Wr (lf ((isO cn S x).map .bl) S) Q X
theorem ioQ_s (cn : Nat) : ioQ cn Q X x S = Wr (lf ((isO cn S x).map .bl) S) Q X := rfl
theorem wr_eIsO (cn : Nat) : Wr (eIsO cn a e S) Q X = Wr (a e S) (ioQ cn Q X) X := by unfold eIsO; rw [wr_bind]; rfl
variable {QE : QP En}
theorem wr_gStr_tup (i : Nat) (r : GMs) (l : List D) : Wr (gStr i r (.tup l) e S) QE X = (i ≤ l.length ∧ Wr (r (l.take i ++ [.lst (l.drop i)]) e S) QE X) := by
  show Wr (if i ≤ l.length then _ else _) QE X = _
  rw [wr_guard]
theorem wr_gStr_lst (i : Nat) (r : GMs) (l : List D) : Wr (gStr i r (.lst l) e S) QE X = (i ≤ l.length ∧ Wr (r (l.take i ++ [.lst (l.drop i)]) e S) QE X) := by
  show Wr (if i ≤ l.length then _ else _) QE X = _
  rw [wr_guard]
theorem fTuple_lst (l : List D) : fTuple S [.lst l] = some (.tup l) := rfl
theorem fTuple_tup (l : List D) : fTuple S [.tup l] = some (.tup l) := rfl
theorem dAddS_int (i j : Int) : dAddS S (.int i) (.int j) = some (.int (i + j)) := rfl
end
end G
namespace C
open PySem G
local macro_rules | `(tactic| wp_walk using $ts,*) => `(tactic| try simp only [wr_ok, wr_exc, wr_lf, wr_eC, evQ_some, wr_eVar, cB2_s, cB1_s, wr_eBin, cS2_s, cS1_s, wr_eBinS, asQ_bl, wr_tB, truQ_s, wr_tT, notQ_s, wr_tNt, anQ_t, anQ_f, wr_tAn, orQ_t, orQ_f, wr_tOr, eaB_t, eaB_f, eaQ_s, wr_eAn, eoB_t, eoB_f, eoQ_s, wr_eOr, enB_s, enQ_s, wr_eNt, eiQ_t, eiQ_f, wr_eIf, negQ_int, wr_eNeg, wr_aNil, cC2_s, cC1_s, wr_aCons, tupQ_s, lstQ_s, newQ_s, wr_eTup, wr_eLst, wr_eNew, caQ_s, wr_eCa, clQ_s, wr_eCall, nAQ_s, wr_nA, tyQ_s, wr_eIsTy, icQ_s, wr_eIsC, mt2_s, mt1_s, wr_eMt, wr_oNone, oQ_int, wr_oSome, sl3_s, sl2_s, sl1_s, wr_eSl, kk2_s, kk1_s, wr_eCallK, kk0_s, wr_eCallK0, wr_gN, sb3_s, sb2_s, sb1_s, wr_gSb, wr_gsNil, gs1_s, wr_gsCons, wr_gTp, wr_gTp_rD, xe_s, sq_nx, sq_rt, sq_bk, sq_ct, sq_ex, sq_xe, ws_nxt, ws_sNop, ws_sSeq, ws_sBrk, ws_sCnt, dropQ_s, ws_sDrop, ws_sRet, ws_sRetN, ifQ_t, ifQ_f, ws_sIf, asg1_s, ws_sAsg, setQ_s, ws_sSet, parQ_s, ws_sPar, ws_sRaise, fn_nx, fn_rt, fn_ex, fn_xe, su_nx, su_bk, su_ct, su_rt, trQ_t, trQ_f, tr_nx, tr_rt, tr_bk, tr_ct, tr_ex, ws_sTry, forQ_s, ws_sFor, lp_nx, lp_rt, lp_bk, lp_ct, lp_ex, lp_xe, ws_fi_nil, bodyQ_s, mid_nx, mid_rt, mid_bk, mid_ct, mid_ex, mid_xe, lc2_s, lc1_s, wr_eLc, lcn2_s, lcn1_s, wr_eLcN, wipe_nil, wipe_cons, wr_tTrue, wr_lc_nil, tgQ_some, ly_s, lt1_t, lt1_f, lg_s, eqQ_s, exQ_s, seqQ_tup, seqQ_lst, seqQ_scr, seqQ_rD, wr_iSeq, rgQ_int, wr_iRg1, rgQ2_int, wr_iRg2, ch3_t, ch3_f, ch2_s, ch1_s, wr_eChain, flQ_s, wr_eFld, fldD_ins, stQ_s, sf2_s, sf1_s, ws_sFldM, mkQ2_s, mkQ1_s, wr_eMk, wr_eMk0, ap2_s, ap1_s, wr_eApp, zpQ_s, wr_iZip, zipR_tup, zipR_lst, srQ_s, wr_iStrM, strR_s, ioQ_s, wr_eIsO, dAddS_int, wr_gStr_tup, wr_gStr_lst, fTuple_lst, fTuple_tup, List.take_succ_cons, List.take_zero, List.drop_succ_cons, List.drop_zero, List.getElem?_cons_zero, List.getElem?_cons_succ, List.set_cons_zero, List.set_cons_succ, List.map_cons, List.map_nil, List.length_cons, List.length_nil, List.cons_append, List.nil_append, List.replicate_succ, List.replicate_zero, List.append_nil, true_and, and_true, and_self, if_true, ite_true, if_false, ite_false, Bool.false_eq_true, Bool.not_true, Bool.not_false, Bool.not_not, decide_true, decide_false, decide_eq_true_eq, not_false_eq_true, not_true_eq_false, reduceCtorEq, sizeLine_eq, Option.map_some, Option.some.injEq, Nat.reduceSub, Nat.reduceAdd, Nat.reduceLeDiff, Nat.reduceEqDiff, Nat.zero_add, Nat.reduceBEq, List.contains_cons, List.contains_nil, beq_self_eq_true, Bool.true_or, Bool.or_true, Bool.false_or, Bool.or_false, List.lookup_cons, List.lookup_nil, Int.reduceEq, Int.reduceNe, Int.reduceLT, Int.reduceLE, Int.reduceNeg, Int.reduceAdd, Int.reduceSub, Int.cast_ofNat_Int, ne_eq, cmpI_s, dGt, dGe, dLt, dLe, dAdd_int, dSub_int, dEq_int, dNe_int, dEq_bl, dNe_bl, truD_bl, isTy_int, isTy_bl, isTy_tup, fLen_tup, fLen_scr, fLen_lst, fAbs_int, fMax_int, fMin_int, ixD_tup, ixD_lst, ixD_scr, isTy_rD, fLen_rD, ix_rD0, ix_rD1, dEq_rD, dNe_rD, dIs_rD, dIsNot_rD, Tn.is, $[$ts:term],*])
noncomputable section
def b_is_whole (N : Nat) : SM := (sRet (eAn (eIsTy .int (eVar 0)) (eNt (eIsTy .bool (eVar 0)))))
def m_is_whole (N : Nat) : FM := fnM 1 (b_is_whole N)
def b_shared (N : Nat) : SM := (sSeq (wlR (tB (eBin dGt (eVar 1) (eC (.int 0)))) (sPar 0 1 (aCons (eVar 1) (aCons (eBin dMod (eVar 0) (eVar 1)) aNil))) N)
    (sRet (eVar 0)))
def m_shared (N : Nat) : FM := fnM 2 (b_shared N)
def b_is_ratio (N : Nat) : SM := (sSeq (sIf (tOr' (tNt (tT (eIsTy .tuple (eVar 0)))) (tOr' (tB (eBin dNe (eCa fLen (aCons (eVar 0) aNil)) (eC (.int 2)))) (tNt (tT (eCa fAll (aCons (eLc (iSeq (eVar 0)) (.nm 3) tTrue (eCall (m_is_whole N) (nA 1 (aCons (eVar 3) aNil))) [3]) aNil)))))) (sRet (eC (.bl false))) sNop)
    (sSeq (sAsg (eVar 0) (gTp 2 (gsCons' (gN 1) (gsCons' (gN 2) gsNil))))
    (sRet (eAn (eBin dGt (eVar 2) (eC (.int 0))) (eBin dEq (eCall (m_shared N) (nA 2 (aCons (eCa fAbs (aCons (eVar 1) aNil)) (aCons (eVar 2) aNil)))) (eC (.int 1)))))))
def m_is_ratio (N : Nat) : FM := fnM 4 (b_is_ratio N)
def b_check_ratio (N : Nat) : SM := (sIf (tNt (tT (eCall (m_is_ratio N) (nA 1 (aCons (eVar 0) aNil))))) (sRaise 3) sNop)
def m_check_ratio (N : Nat) : FM := fnM 1 (b_check_ratio N)
def b_check_two (N : Nat) : SM := (sSeq (sDrop (eCall (m_check_ratio N) (nA 1 (aCons (eVar 0) aNil))))
    (sDrop (eCall (m_check_ratio N) (nA 1 (aCons (eVar 1) aNil)))))
def m_check_two (N : Nat) : FM := fnM 2 (b_check_two N)
def b_lowest (N : Nat) : SM := (sSeq (sSet 2 (eCall (m_shared N) (nA 2 (aCons (eCa fAbs (aCons (eVar 0) aNil)) (aCons (eVar 1) aNil)))))
    (sRet (eTup (aCons (eBin dDiv (eVar 0) (eVar 2)) (aCons (eBin dDiv (eVar 1) (eVar 2)) aNil)))))
def m_lowest (N : Nat) : FM := fnM 3 (b_lowest N)
def b_ratio (N : Nat) : SM := (sSeq (sIf (tOr' (tNt (tT (eCall (m_is_whole N) (nA 1 (aCons (eVar 0) aNil))))) (tOr' (tNt (tT (eCall (m_is_whole N) (nA 1 (aCons (eVar 1) aNil))))) (tB (eBin dEq (eVar 1) (eC (.int 0)))))) (sRaise 3) sNop)
    (sSeq (sIf (tB (eBin dLt (eVar 1) (eC (.int 0)))) (sRet (eCall (m_lowest N) (nA 2 (aCons (eBin dSub (eC (.int 0)) (eVar 0)) (aCons (eBin dSub (eC (.int 0)) (eVar 1)) aNil))))) sNop)
    (sRet (eCall (m_lowest N) (nA 2 (aCons (eVar 0) (aCons (eVar 1) aNil)))))))
def m_ratio (N : Nat) : FM := fnM 2 (b_ratio N)
def b_added (N : Nat) : SM := (sSeq (sDrop (eCall (m_check_two N) (nA 2 (aCons (eVar 0) (aCons (eVar 1) aNil)))))
    (sSeq (sAsg (eTup (aCons (eVar 0) (aCons (eVar 1) aNil))) (gTp 2 (gsCons' (gTp 2 (gsCons' (gN 2) (gsCons' (gN 3) gsNil))) (gsCons' (gTp 2 (gsCons' (gN 4) (gsCons' (gN 5) gsNil))) gsNil))))
    (sRet (eCall (m_lowest N) (nA 2 (aCons (eBinS dAddS (eBin dMul (eVar 2) (eVar 5)) (eBin dMul (eVar 4) (eVar 3))) (aCons (eBin dMul (eVar 3) (eVar 5)) aNil)))))))
def m_added (N : Nat) : FM := fnM 6 (b_added N)
def b_parted (N : Nat) : SM := (sSeq (sDrop (eCall (m_check_two N) (nA 2 (aCons (eVar 0) (aCons (eVar 1) aNil)))))
    (sSeq (sIf (tB (eBin dEq (eBinS ixD (eVar 1) (eC (.int 0))) (eC (.int 0)))) (sRaise 27) sNop)
    (sRet (eCall (m_ratio N) (nA 2 (aCons (eBin dMul (eBinS ixD (eVar 0) (eC (.int 0))) (eBinS ixD (eVar 1) (eC (.int 1)))) (aCons (eBin dMul (eBinS ixD (eVar 0) (eC (.int 1))) (eBinS ixD (eVar 1) (eC (.int 0)))) aNil)))))))
def m_parted (N : Nat) : FM := fnM 2 (b_parted N)
def b_is_before (N : Nat) : SM := (sSeq (sDrop (eCall (m_check_two N) (nA 2 (aCons (eVar 0) (aCons (eVar 1) aNil)))))
    (sRet (eBin dLt (eBin dMul (eBinS ixD (eVar 0) (eC (.int 0))) (eBinS ixD (eVar 1) (eC (.int 1)))) (eBin dMul (eBinS ixD (eVar 1) (eC (.int 0))) (eBinS ixD (eVar 0) (eC (.int 1)))))))
def m_is_before (N : Nat) : FM := fnM 2 (b_is_before N)
def b_greater (N : Nat) : SM := (sRet (eIf (tT (eCall (m_is_before N) (nA 2 (aCons (eVar 0) (aCons (eVar 1) aNil))))) (eVar 1) (eVar 0)))
def m_greater (N : Nat) : FM := fnM 2 (b_greater N)
def b_is_time (N : Nat) : SM := (sRet (eAn (eCall (m_is_ratio N) (nA 1 (aCons (eVar 0) aNil))) (eBin dGe (eBinS ixD (eVar 0) (eC (.int 0))) (eC (.int 0)))))
def m_is_time (N : Nat) : FM := fnM 1 (b_is_time N)
def b_check_time (N : Nat) : SM := (sIf (tNt (tT (eCall (m_is_time N) (nA 1 (aCons (eVar 0) aNil))))) (sRaise 9) sNop)
def m_check_time (N : Nat) : FM := fnM 1 (b_check_time N)
def b_is_rate (N : Nat) : SM := (sRet (eAn (eCall (m_is_ratio N) (nA 1 (aCons (eVar 0) aNil))) (eChain dLt dLe (eC (.int 0)) (eBinS ixD (eVar 0) (eC (.int 0))) (eBinS ixD (eVar 0) (eC (.int 1))))))
def m_is_rate (N : Nat) : FM := fnM 1 (b_is_rate N)
def b__law_cell (N : Nat) : SM := (sSeq (sIf (tB (eBin dLt (eVar 1) (eCa fLen (aCons (eVar 0) aNil)))) (sRet (eBinS ixD (eVar 0) (eVar 1))) sNop)
    (sSeq (sSet 2 (eBin dMod (eBin dMul (eC (.int 60013)) (eBinS dAddS (eBinS dAddS (eBin dMul (eVar 1) (eVar 1)) (eBin dMul (eC (.int 5)) (eVar 1))) (eC (.int 11)))) (eC (.int 2147483477))))
    (sSeq (sFor (iSeq (eSl (eVar 0) oNone (oSome (eC (.int 3))))) (gN 3) (sSet 2 (eBin dMod (eBinS dAddS (eBin dMul (eVar 2) (eC (.int 48017))) (eVar 3)) (eC (.int 2147483477)))))
    (sRet (eVar 2)))))
def m__law_cell (N : Nat) : FM := fnM 4 (b__law_cell N)
def b__law_pool (N : Nat) : SM := (sSeq (sSet 1 (eC (.int 0)))
    (sSeq (sIf (tOr' (tB (eBin dLt (eVar 0) (eC (.int 0)))) (tB (eBin dGe (eVar 0) (eBin dPow (eC (.int 10)) (eC (.int 18)))))) (sSet 1 (eCa fAbs (aCons (eVar 0) aNil))) sNop)
    (sRet (eNew (aCons (eBin dMod (eVar 0) (eC (.int 2147483477))) (aCons (eVar 1) (aCons (eC (.int 0)) aNil)))))))
def m__law_pool (N : Nat) : FM := fnM 2 (b__law_pool N)
def b__law_take (N : Nat) : SM := (sSeq (sAsg (eBinS dAddS (eBinS ixD (eVar 0) (eC (.int 2))) (eC (.int 1))) (gSb (eVar 0) (eC (.int 2))))
    (sSeq (sSet 2 (eBinS ixD (eVar 0) (eC (.int 0))))
    (sSeq (sAsg (eBin dMod (eBinS dAddS (eBin dMul (eVar 2) (eBinS dAddS (eBin dMod (eVar 2) (eC (.int 44017))) (eC (.int 30029)))) (eBin dMul (eC (.int 80021)) (eBinS ixD (eVar 0) (eC (.int 2))))) (eC (.int 2147483477))) (gSb (eVar 0) (eC (.int 0))))
    (sSeq (sIf (tB (eBin dGt (eBinS ixD (eVar 0) (eC (.int 1))) (eC (.int 0)))) (sSeq (sAsg (eCa fDivmodW (aCons (eBinS ixD (eVar 0) (eC (.int 1))) (aCons (eVar 1) aNil))) (gTp 2 (gsCons' (gSb (eVar 0) (eC (.int 1))) (gsCons' (gN 3) gsNil))))
    (sRet (eVar 3))) sNop)
    (sRet (eBin dMod (eBin dDiv (eBinS ixD (eVar 0) (eC (.int 0))) (eC (.int 64))) (eVar 1)))))))
def m__law_take (N : Nat) : FM := fnM 4 (b__law_take N)
def b__law_r (N : Nat) : SM := (sSeq (sPar 2 3 (aCons (eCa fAbs (aCons (eVar 0) aNil)) (aCons (eCa fAbs (aCons (eVar 1) aNil)) aNil)))
    (sSeq (wlR (tB (eBin dGt (eVar 3) (eC (.int 0)))) (sPar 2 3 (aCons (eVar 3) (aCons (eBin dMod (eVar 2) (eVar 3)) aNil))) N)
    (sSeq (sIf (tB (eBin dLt (eVar 1) (eC (.int 0)))) (sSet 2 (eBin dSub (eC (.int 0)) (eVar 2))) sNop)
    (sRet (eTup (aCons (eBin dDiv (eVar 0) (eVar 2)) (aCons (eBin dDiv (eVar 1) (eVar 2)) aNil)))))))
def m__law_r (N : Nat) : FM := fnM 4 (b__law_r N)
def b__law_add (N : Nat) : SM := (sRet (eCall (m__law_r N) (nA 2 (aCons (eBinS dAddS (eBin dMul (eBinS ixD (eVar 0) (eC (.int 0))) (eBinS ixD (eVar 1) (eC (.int 1)))) (eBin dMul (eBinS ixD (eVar 1) (eC (.int 0))) (eBinS ixD (eVar 0) (eC (.int 1))))) (aCons (eBin dMul (eBinS ixD (eVar 0) (eC (.int 1))) (eBinS ixD (eVar 1) (eC (.int 1)))) aNil)))))
def m__law_add (N : Nat) : FM := fnM 2 (b__law_add N)
def b__law_sub (N : Nat) : SM := (sRet (eCall (m__law_r N) (nA 2 (aCons (eBin dSub (eBin dMul (eBinS ixD (eVar 0) (eC (.int 0))) (eBinS ixD (eVar 1) (eC (.int 1)))) (eBin dMul (eBinS ixD (eVar 1) (eC (.int 0))) (eBinS ixD (eVar 0) (eC (.int 1))))) (aCons (eBin dMul (eBinS ixD (eVar 0) (eC (.int 1))) (eBinS ixD (eVar 1) (eC (.int 1)))) aNil)))))
def m__law_sub (N : Nat) : FM := fnM 2 (b__law_sub N)
def b__law_by (N : Nat) : SM := (sRet (eCall (m__law_r N) (nA 2 (aCons (eBin dMul (eBinS ixD (eVar 0) (eC (.int 0))) (eBinS ixD (eVar 1) (eC (.int 1)))) (aCons (eBin dMul (eBinS ixD (eVar 0) (eC (.int 1))) (eBinS ixD (eVar 1) (eC (.int 0)))) aNil)))))
def m__law_by (N : Nat) : FM := fnM 2 (b__law_by N)
def b__law_less (N : Nat) : SM := (sRet (eBin dLt (eBin dMul (eBinS ixD (eVar 0) (eC (.int 0))) (eBinS ixD (eVar 1) (eC (.int 1)))) (eBin dMul (eBinS ixD (eVar 1) (eC (.int 0))) (eBinS ixD (eVar 0) (eC (.int 1))))))
def m__law_less (N : Nat) : FM := fnM 2 (b__law_less N)
def b__law_top (N : Nat) : SM := (sRet (eIf (tT (eCall (m__law_less N) (nA 2 (aCons (eVar 0) (aCons (eVar 1) aNil))))) (eVar 1) (eVar 0)))
def m__law_top (N : Nat) : FM := fnM 2 (b__law_top N)
theorem fDivmodW_s {i j : Int} (S : Store) (h0 : 0 < j) (h1 : j < 2 ^ 64) : fDivmodW S [.int i, .int j] = some (.tup [.int (i / j), .int (i % j)]) := by
  have h2 : j.natAbs.log2 < 9000 := Nat.lt_of_lt_of_le (log2_lt (n := 64) (by omega) (by omega)) (by omega)
  show (if 0 < j ∧ j.natAbs.log2 < 9000 then some (D.tup [.int (i / j), .int (i % j)]) else none) = _
  rw [if_pos ⟨h0, h2⟩]
def big (N : Nat) : Prop := 2 ^ 9000 ≤ N
theorem big_lt {N n : Nat} (hN : big N) {x : Nat} (h : x < 2 ^ n) (hn : n ≤ 9000) : x < N := Nat.lt_of_lt_of_le h (Nat.le_trans (pow_le2 hn) hN)
theorem is_whole_int (N : Nat) (i : Int) (S : Store) : m_is_whole N [.int i] S = .ok (.bl true) S := rfl
theorem loop (N : Nat) : ∀ (a b : Int) (S : Store), 0 ≤ a → 0 ≤ b → b.natAbs < N →
    wlR (tB (eBin dGt (eVar 1) (eC (.int 0)))) (sPar 0 1 (aCons (eVar 1) (aCons (eBin dMod (eVar 0) (eVar 1)) aNil))) N [some (.int a), some (.int b)] S = .nxt [some (.int (gI a b)), some (.int 0)] S := by
  induction N with
  | zero => intro a b S _ _ h; omega
  | succ N ih =>
    intro a b S ha hb h
    by_cases hz : b = 0
    · subst hz
      have e : gI a 0 = a := by unfold gI; simp; omega
      rw [e]; rfl
    · have hpos : 0 < b := by omega
      have h1 : wlR (tB (eBin dGt (eVar 1) (eC (.int 0)))) (sPar 0 1 (aCons (eVar 1) (aCons (eBin dMod (eVar 0) (eVar 1)) aNil))) (N + 1) [some (.int a), some (.int b)] S =
          wlR (tB (eBin dGt (eVar 1) (eC (.int 0)))) (sPar 0 1 (aCons (eVar 1) (aCons (eBin dMod (eVar 0) (eVar 1)) aNil))) N [some (.int b), some (.int (a.fmod b))] S := by
        simp [wlR, hpos, dMod_int hz]
      rw [h1]
      have e1 : a.fmod b = a % b := Int.fmod_eq_emod_of_nonneg a (by omega)
      have e2 : 0 ≤ a % b := Int.emod_nonneg a hz
      have e3 : a % b < b := Int.emod_lt_of_pos a hpos
      rw [e1, ih b (a % b) S hb e2 (by omega), gI_step ha hb]
theorem shared_ok (N : Nat) (a b : Int) (S : Store) (ha : 0 ≤ a) (hb : 0 ≤ b) (h : b.natAbs < N) : m_shared N [.int a, .int b] S = .ok (.int (gI a b)) S := by
  simp [m_shared, fnM_s, b_shared, loop N a b S ha hb h]
theorem lowest_ok {N : Nat} {t b : Int} {S : Store} {n : Nat} (hN : big N) (hb : 0 < b) (hs : b.natAbs < 2 ^ n) (hn : 0 < n) (h9 : n ≤ 9000) : m_lowest N [.int t, .int b] S = .ok (rD (Rat.divInt t b)) S := by
  have hg := gI_pos (a := t) (b := b) (by omega)
  have hl := gI_le (a := t) (b := b) (by omega)
  have hd : divOk (gI t b) = true := div_ok (b := n) (by omega) (by omega) hn h9
  have e := shared_ok N (if t < 0 then -t else t) b S (by split <;> omega) (by omega) (big_lt hN hs h9)
  rw [gI_abs] at e
  rw [← lowest_rD hb]
  simp [m_lowest, fnM_s, b_lowest, e, dDiv_int hd, fdiv_pos hg, sizeLine_eq]
theorem ratio_ok {N : Nat} {t b : Int} {S : Store} {n : Nat} (hN : big N) (hb : b ≠ 0) (hs : b.natAbs < 2 ^ n) (hn : 0 < n) (h9 : n ≤ 9000) : m_ratio N [.int t, .int b] S = .ok (rD (Rat.divInt t b)) S := by
  by_cases h : b < 0
  · have e := lowest_ok (N := N) (t := -t) (b := -b) (S := S) hN (by omega) (by omega) hn h9
    rw [Rat.neg_divInt_neg] at e
    simp [m_ratio, fnM_s, b_ratio, is_whole_int, hb, h, e, dEq_int]
  · have e := lowest_ok (N := N) (t := t) (b := b) (S := S) hN (by omega) hs hn h9
    simp [m_ratio, fnM_s, b_ratio, is_whole_int, hb, h, e, dEq_int]
theorem isr_pair (N : Nat) (a b : Int) (S : Store) (hs : b.natAbs < N) : m_is_ratio N [.tup [.int a, .int b]] S = .ok (.bl (decide (0 < b) && decide (gI a b = 1))) S := by
  have hc : eLc (iSeq (eVar 0)) (.nm 3) tTrue (eCall (m_is_whole N) (nA 1 (aCons (eVar 3) aNil))) [3] [some (.tup [.int a, .int b]), none, none, none] S = .ok (.lst [.bl true, .bl true]) S := rfl
  by_cases h : 0 < b
  · have e := shared_ok N (if a < 0 then -a else a) b S (by split <;> omega) (by omega) hs
    rw [gI_abs] at e
    simp [m_is_ratio, fnM_s, b_is_ratio, hc, h, e, fAll, seqD, bools, Tn.is, dEq_int, dNe_int]
  · simp [m_is_ratio, fnM_s, b_is_ratio, hc, h, fAll, seqD, bools, Tn.is, dEq_int, dNe_int]
theorem isr_ok {N : Nat} {q : Rat} {S : Store} {n : Nat} (hN : big N) (h : Bt q n) (h9 : n ≤ 9000) : m_is_ratio N [rD q] S = .ok (.bl true) S := by
  have hd := q.den_pos
  unfold rD
  rw [isr_pair N _ _ S (by rw [Int.natAbs_natCast]; exact big_lt hN h.2 h9), gI_rat, decide_eq_true (by omega)]
  rfl
theorem chk_ok {N : Nat} {q : Rat} {S : Store} {n : Nat} (hN : big N) (h : Bt q n) (h9 : n ≤ 9000) : m_check_ratio N [rD q] S = .ok .non S := by
  simp [m_check_ratio, fnM_s, b_check_ratio, isr_ok hN h h9]
theorem chk2_ok {N : Nat} {p q : Rat} {S : Store} {n m : Nat} (hN : big N) (h : Bt p n) (h9 : n ≤ 9000) (h' : Bt q m) (h9' : m ≤ 9000) : m_check_two N [rD p, rD q] S = .ok .non S := by
  simp [m_check_two, fnM_s, b_check_two, chk_ok hN h h9, chk_ok hN h' h9']
theorem Bt.mul_nd {p q : Rat} {a b : Nat} (h : Bt p a) (h' : Bt q b) (l : a + b ≤ 9000) : mulOk p.num q.den = true := mul_ok h.1 (by simpa using h'.2) h.pos h'.pos (by omega)
theorem Bt.mul_dn {p q : Rat} {a b : Nat} (h : Bt p a) (h' : Bt q b) (l : a + b ≤ 9000) : mulOk p.den q.num = true := mul_ok (by simpa using h.2) h'.1 h.pos h'.pos (by omega)
theorem Bt.mul_dd {p q : Rat} {a b : Nat} (h : Bt p a) (h' : Bt q b) (l : a + b ≤ 9000) : mulOk p.den q.den = true := mul_ok (by simpa using h.2) (by simpa using h'.2) h.pos h'.pos (by omega)
theorem den_mul_pos (p q : Rat) : (0 : Int) < (p.den : Int) * (q.den : Int) := Int.mul_pos (by have := p.den_pos; omega) (by have := q.den_pos; omega)
theorem den_mul_lt {p q : Rat} {a b : Nat} (h : Bt p a) (h' : Bt q b) : ((p.den : Int) * (q.den : Int)).natAbs < 2 ^ (a + b) := natAbs_mul_lt (by simpa using h.2) (by simpa using h'.2)
theorem added_ok {N : Nat} {p q : Rat} {S : Store} {n m : Nat} (hN : big N) (h : Bt p n) (h' : Bt q m) (l : n + m ≤ 9000) : m_added N [rD p, rD q] S = .ok (rD (p + q)) S := by
  have e := lowest_ok (N := N) (t := p.num * q.den + q.num * p.den) (S := S) hN (den_mul_pos p q) (den_mul_lt h h') (by have := h.pos; omega) l
  rw [← add_div] at e
  apply eq_of_w
  rw [m_added, wr_fnM, b_added]
  wp_walk using chk2_ok hN h (by omega) h' (by omega), dMul_int (Bt.mul_nd h h' l), dMul_int (Bt.mul_nd h' h (by omega)), dMul_int (Bt.mul_dd h h' l), e
theorem parted_ok {N : Nat} {p q : Rat} {S : Store} {n m : Nat} (hN : big N) (h : Bt p n) (h' : Bt q m) (hq : q ≠ 0) (l : n + m ≤ 9000) : m_parted N [rD p, rD q] S = .ok (rD (p / q)) S := by
  have hz : ¬ q.num = 0 := fun z => hq (Rat.num_eq_zero.mp z)
  have hd : (p.den : Int) * q.num ≠ 0 := Int.mul_ne_zero (by have := p.den_pos; omega) hz
  have e := ratio_ok (N := N) (t := p.num * q.den) (S := S) hN hd (natAbs_mul_lt (by simpa using h.2) h'.1) (by have := h.pos; omega) l
  rw [← div_div] at e
  apply eq_of_w
  rw [m_parted, wr_fnM, b_parted]
  wp_walk using chk2_ok hN h (by omega) h' (by omega), dMul_int (Bt.mul_nd h h' l), dMul_int (Bt.mul_dn h h' l), e, hz
theorem before_ok {N : Nat} {p q : Rat} {S : Store} {n m : Nat} (hN : big N) (h : Bt p n) (h' : Bt q m) (l : n + m ≤ 9000) : m_is_before N [rD p, rD q] S = .ok (.bl (decide (p < q))) S := by
  apply eq_of_w
  rw [m_is_before, wr_fnM, b_is_before]
  wp_walk using chk2_ok hN h (by omega) h' (by omega), dMul_int (Bt.mul_nd h h' l), dMul_int (Bt.mul_nd h' h (by omega)), dLt, lt_rat
theorem greater_ok {N : Nat} {p q : Rat} {S : Store} {n m : Nat} (hN : big N) (h : Bt p n) (h' : Bt q m) (l : n + m ≤ 9000) : m_greater N [rD p, rD q] S = .ok (rD (max p q)) S := by
  apply eq_of_w
  rw [m_greater, wr_fnM, b_greater]
  by_cases hl : p < q
  · have e : max p q = q := by rw [Rat.max_def]; grind
    wp_walk using before_ok hN h h' l, hl, e
  · have e : max p q = p := by rw [Rat.max_def]; grind
    wp_walk using before_ok hN h h' l, hl, e
theorem loop4 (N : Nat) (x y : Option D) : ∀ (a b : Int) (S : Store), 0 ≤ a → 0 ≤ b → b.natAbs < N →
    wlR (tB (eBin dGt (eVar 3) (eC (.int 0)))) (sPar 2 3 (aCons (eVar 3) (aCons (eBin dMod (eVar 2) (eVar 3)) aNil))) N [x, y, some (.int a), some (.int b)] S = .nxt [x, y, some (.int (gI a b)), some (.int 0)] S := by
  induction N with
  | zero => intro a b S _ _ h; omega
  | succ N ih =>
    intro a b S ha hb h
    by_cases hz : b = 0
    · subst hz
      have e : gI a 0 = a := by unfold gI; simp; omega
      rw [e]; rfl
    · have hpos : 0 < b := by omega
      have h1 : wlR (tB (eBin dGt (eVar 3) (eC (.int 0)))) (sPar 2 3 (aCons (eVar 3) (aCons (eBin dMod (eVar 2) (eVar 3)) aNil))) (N + 1) [x, y, some (.int a), some (.int b)] S =
          wlR (tB (eBin dGt (eVar 3) (eC (.int 0)))) (sPar 2 3 (aCons (eVar 3) (aCons (eBin dMod (eVar 2) (eVar 3)) aNil))) N [x, y, some (.int b), some (.int (a.fmod b))] S := by
        simp [wlR, hpos, dMod_int hz]
      rw [h1]
      have e1 : a.fmod b = a % b := Int.fmod_eq_emod_of_nonneg a (by omega)
      have e2 : 0 ≤ a % b := Int.emod_nonneg a hz
      have e3 : a % b < b := Int.emod_lt_of_pos a hpos
      rw [e1, ih b (a % b) S hb e2 (by omega), gI_step ha hb]
theorem r_ok {N : Nat} {t b : Int} {S : Store} {n : Nat} (hN : big N) (hb : b ≠ 0) (hs : b.natAbs < 2 ^ n) (hn : 0 < n) (h9 : n ≤ 9000) : m__law_r N [.int t, .int b] S = .ok (rD (Rat.divInt t b)) S := by
  have hg := gI_pos (a := t) (b := b) hb
  have hl := gI_le (a := t) (b := b) hb
  have hbN := big_lt hN hs h9
  have e := loop4 N (some (.int t)) (some (.int b)) (if t < 0 then -t else t) (if b < 0 then -b else b) S (by split <;> omega) (by split <;> omega) (by split <;> omega)
  rw [gI_congr (c := t) (d := b) (by split <;> omega) (by split <;> omega)] at e
  by_cases h : b < 0
  · have hd : divOk (0 - gI t b) = true := div_ok (b := n) (by omega) (by omega) hn h9
    have f1 := fdiv_neg_of hg (gI_l t b)
    have f2 := fdiv_neg_of hg (gI_r t b)
    rw [← neg_rD h, ← f1, ← f2]
    simp only [Int.zero_sub] at hd f1 f2
    simp only [if_pos h] at e
    simp [m__law_r, fnM_s, b__law_r, e, h, dDiv_int hd, f1, f2, sizeLine_eq]
  · have hd : divOk (gI t b) = true := div_ok (b := n) (by omega) (by omega) hn h9
    rw [← lowest_rD (by omega)]
    simp only [if_neg h] at e
    simp [m__law_r, fnM_s, b__law_r, e, h, dDiv_int hd, fdiv_pos hg, sizeLine_eq]
theorem ladd_ok {N : Nat} {p q : Rat} {S : Store} {n m : Nat} (hN : big N) (h : Bt p n) (h' : Bt q m) (l : n + m ≤ 9000) : m__law_add N [rD p, rD q] S = .ok (rD (p + q)) S := by
  have e := r_ok (N := N) (t := p.num * q.den + q.num * p.den) (S := S) hN (Int.ne_of_gt (den_mul_pos p q)) (den_mul_lt h h') (by have := h.pos; omega) l
  rw [← add_div] at e
  apply eq_of_w
  rw [m__law_add, wr_fnM, b__law_add]
  wp_walk using dMul_int (Bt.mul_nd h h' l), dMul_int (Bt.mul_nd h' h (by omega)), dMul_int (Bt.mul_dd h h' l), e
theorem lsub_ok {N : Nat} {p q : Rat} {S : Store} {n m : Nat} (hN : big N) (h : Bt p n) (h' : Bt q m) (l : n + m ≤ 9000) : m__law_sub N [rD p, rD q] S = .ok (rD (p - q)) S := by
  have e := r_ok (N := N) (t := p.num * q.den - q.num * p.den) (S := S) hN (Int.ne_of_gt (den_mul_pos p q)) (den_mul_lt h h') (by have := h.pos; omega) l
  rw [← sub_div] at e
  apply eq_of_w
  rw [m__law_sub, wr_fnM, b__law_sub]
  wp_walk using dMul_int (Bt.mul_nd h h' l), dMul_int (Bt.mul_nd h' h (by omega)), dMul_int (Bt.mul_dd h h' l), e
theorem lby_ok {N : Nat} {p q : Rat} {S : Store} {n m : Nat} (hN : big N) (h : Bt p n) (h' : Bt q m) (hq : q ≠ 0) (l : n + m ≤ 9000) : m__law_by N [rD p, rD q] S = .ok (rD (p / q)) S := by
  have hz : ¬ q.num = 0 := fun z => hq (Rat.num_eq_zero.mp z)
  have hd : (p.den : Int) * q.num ≠ 0 := Int.mul_ne_zero (by have := p.den_pos; omega) hz
  have e := r_ok (N := N) (t := p.num * q.den) (S := S) hN hd (natAbs_mul_lt (by simpa using h.2) h'.1) (by have := h.pos; omega) l
  rw [← div_div] at e
  apply eq_of_w
  rw [m__law_by, wr_fnM, b__law_by]
  wp_walk using dMul_int (Bt.mul_nd h h' l), dMul_int (Bt.mul_dn h h' l), e
theorem lless_ok {N : Nat} {p q : Rat} {S : Store} {n m : Nat} (h : Bt p n) (h' : Bt q m) (l : n + m ≤ 9000) : m__law_less N [rD p, rD q] S = .ok (.bl (decide (p < q))) S := by
  apply eq_of_w
  rw [m__law_less, wr_fnM, b__law_less]
  wp_walk using dMul_int (Bt.mul_nd h h' l), dMul_int (Bt.mul_nd h' h (by omega)), dLt, lt_rat
def Pool (S : Store) (n : Nat) : Prop := ∃ a b c : Int, S[n]? = some (.lst [.int a, .int b, .int c]) ∧ 0 ≤ a ∧ a < 2147483477 ∧ 0 ≤ b
def Fr (n : Nat) (S S' : Store) : Prop := S.length ≤ S'.length ∧ ∀ m, m < S.length → m ≠ n → S'[m]? = S[m]?
theorem Fr.refl (n : Nat) (S : Store) : Fr n S S := ⟨Nat.le_refl _, fun _ _ _ => rfl⟩
theorem Fr.trans {n : Nat} {S S1 S2 : Store} (a : Fr n S S1) (b : Fr n S1 S2) : Fr n S S2 := ⟨Nat.le_trans a.1 b.1, fun m h h' => (b.2 m (Nat.lt_of_lt_of_le h a.1) h').trans (a.2 m h h')⟩
theorem Fr.set {n : Nat} {S : Store} (c : Cell) : Fr n S (S.set n c) := ⟨by rw [List.length_set]; exact Nat.le_refl _, fun m _ h => List.getElem?_set_ne (Ne.symm h)⟩
theorem Fr.app {n : Nat} {S : Store} (c : List Cell) : Fr n S (S ++ c) := ⟨by rw [List.length_append]; omega, fun m h _ => List.getElem?_append_left h⟩
theorem Pool.app {S : Store} {n : Nat} (P : Pool S n) (c : List Cell) : Pool (S ++ c) n := by
  obtain ⟨x, y, z, h, r⟩ := P
  exact ⟨x, y, z, by rw [List.getElem?_append_left (List.getElem?_eq_some_iff.mp h).1]; exact h, r⟩
theorem Pool.lt {S : Store} {n : Nat} (P : Pool S n) : n < S.length := by
  obtain ⟨x, y, z, h, r⟩ := P
  exact (List.getElem?_eq_some_iff.mp h).1
theorem Pool.set {S : Store} {n i : Nat} (P : Pool S n) (c : Cell) (h : i ≠ n) : Pool (S.set i c) n := by
  obtain ⟨x, y, z, hs, r⟩ := P
  exact ⟨x, y, z, by rw [List.getElem?_set_ne h]; exact hs, r⟩
theorem Fr.get {n : Nat} {S S' : Store} {i : Nat} {c : Cell} (F : Fr n S S') (h : S[i]? = some c) (hn : i ≠ n) : S'[i]? = some c := by
  rw [F.2 i (List.getElem?_eq_some_iff.mp h).1 hn]; exact h
theorem take_w (N : Nat) {S : Store} {n : Nat} {many : Int} {Q : D → Store → Prop} {X : D → Store → Prop} (P : Pool S n) (hm : 0 < many) (hm2 : many < 2 ^ 64)
    (h : ∀ d S', 0 ≤ d → d < many → Pool S' n → Fr n S S' → Q (.int d) S') : Wr (m__law_take N [.loc n, .int many] S) Q X := by
  obtain ⟨a, b, c, hS, ha, ha2, hb⟩ := P
  have hn : n < S.length := (List.getElem?_eq_some_iff.mp hS).1
  have get : ∀ (S : Store) (X : Cell), n < S.length → (S.set n X)[n]? = some X := fun S X h => by rw [List.getElem?_set_self h]
  have m1 : ∀ z, mulOk a z = true := fun z => mul_l (by omega)
  have m2 : ∀ z, mulOk 80021 z = true := fun z => mul_l (by decide)
  obtain ⟨a', ea⟩ : ∃ a', a' = (a * (a.fmod 44017 + 30029) + 80021 * (c + 1)).fmod 2147483477 := ⟨_, rfl⟩
  have e' : a' = (a * (a.fmod 44017 + 30029) + 80021 * (c + 1)) % 2147483477 := by rw [ea]; exact Int.fmod_eq_emod_of_nonneg _ (by omega)
  have ha1 : 0 ≤ a' := by rw [e']; exact Int.emod_nonneg _ (by omega)
  have ha3 : a' < 2147483477 := by rw [e']; exact Int.emod_lt_of_pos _ (by omega)
  have i0 : ixD S (.loc n) (.int 2) = some (.int c) := ixD_loc _ hS
  have i1 : ∀ (S : Store) (x y z : D) (k : Int), n < S.length → ixD (S.set n (.lst [x, y, z])) (.loc n) (.int k) = L2.atI [x, y, z] k := fun S x y z k h => ixD_loc _ (get S _ h)
  have s0 : ∀ d, setD S (.loc n) (.int 2) d = some (S.set n (.lst [.int a, .int b, d])) := fun d => setD_loc (j := 2) d hS rfl
  have s1 : ∀ (x y z d : D), setD (S.set n (.lst [x, y, z])) (.loc n) (.int 0) d = some (S.set n (.lst [d, y, z])) := fun x y z d => by
    rw [setD_loc (j := 0) d (get S _ hn) rfl, List.set_set]; rfl
  have s2 : ∀ (x y z d : D), setD (S.set n (.lst [x, y, z])) (.loc n) (.int 1) d = some (S.set n (.lst [x, d, z])) := fun x y z d => by
    rw [setD_loc (j := 1) d (get S _ hn) rfl, List.set_set]; rfl
  rw [m__law_take, wr_fnM, b__law_take]
  by_cases hb0 : 0 < b
  · (try simp only [wr_ok, wr_exc, wr_lf, wr_eC, evQ_some, wr_eVar, cB2_s, cB1_s, wr_eBin, cS2_s, cS1_s, wr_eBinS, asQ_bl, wr_tB, truQ_s, wr_tT, notQ_s, wr_tNt, anQ_t, anQ_f, wr_tAn, orQ_t, orQ_f, wr_tOr, eaB_t, eaB_f, eaQ_s, wr_eAn, eoB_t, eoB_f, eoQ_s, wr_eOr, enB_s, enQ_s, wr_eNt, eiQ_t, eiQ_f, wr_eIf, negQ_int, wr_eNeg, wr_aNil, cC2_s, cC1_s, wr_aCons, tupQ_s, lstQ_s, newQ_s, wr_eTup, wr_eLst, wr_eNew, caQ_s, wr_eCa, clQ_s, wr_eCall, nAQ_s, wr_nA, tyQ_s, wr_eIsTy, icQ_s, wr_eIsC, mt2_s, mt1_s, wr_eMt, wr_oNone, oQ_int, wr_oSome, sl3_s, sl2_s, sl1_s, wr_eSl, kk2_s, kk1_s, wr_eCallK, kk0_s, wr_eCallK0, wr_gN, sb3_s, sb2_s, sb1_s, wr_gSb, wr_gsNil, gs1_s, wr_gsCons, wr_gTp, wr_gTp_rD, xe_s, sq_nx, sq_rt, sq_bk, sq_ct, sq_ex, sq_xe, ws_nxt, ws_sNop, ws_sSeq, ws_sBrk, ws_sCnt, dropQ_s, ws_sDrop, ws_sRet, ws_sRetN, ifQ_t, ifQ_f, ws_sIf, asg1_s, ws_sAsg, setQ_s, ws_sSet, parQ_s, ws_sPar, ws_sRaise, fn_nx, fn_rt, fn_ex, fn_xe, su_nx, su_bk, su_ct, su_rt, trQ_t, trQ_f, tr_nx, tr_rt, tr_bk, tr_ct, tr_ex, ws_sTry, forQ_s, ws_sFor, lp_nx, lp_rt, lp_bk, lp_ct, lp_ex, lp_xe, ws_fi_nil, bodyQ_s, mid_nx, mid_rt, mid_bk, mid_ct, mid_ex, mid_xe, lc2_s, lc1_s, wr_eLc, lcn2_s, lcn1_s, wr_eLcN, wipe_nil, wipe_cons, wr_tTrue, wr_lc_nil, tgQ_some, ly_s, lt1_t, lt1_f, lg_s, eqQ_s, exQ_s, seqQ_tup, seqQ_lst, seqQ_scr, seqQ_rD, wr_iSeq, rgQ_int, wr_iRg1, rgQ2_int, wr_iRg2, ch3_t, ch3_f, ch2_s, ch1_s, wr_eChain, flQ_s, wr_eFld, fldD_ins, stQ_s, sf2_s, sf1_s, ws_sFldM, mkQ2_s, mkQ1_s, wr_eMk, wr_eMk0, ap2_s, ap1_s, wr_eApp, zpQ_s, wr_iZip, zipR_tup, zipR_lst, srQ_s, wr_iStrM, strR_s, ioQ_s, wr_eIsO, dAddS_int, wr_gStr_tup, wr_gStr_lst, fTuple_lst, fTuple_tup, List.take_succ_cons, List.take_zero, List.drop_succ_cons, List.drop_zero, List.getElem?_cons_zero, List.getElem?_cons_succ, List.set_cons_zero, List.set_cons_succ, List.map_cons, List.map_nil, List.length_cons, List.length_nil, List.cons_append, List.nil_append, List.replicate_succ, List.replicate_zero, List.append_nil, true_and, and_true, and_self, if_true, ite_true, if_false, ite_false, Bool.false_eq_true, Bool.not_true, Bool.not_false, Bool.not_not, decide_true, decide_false, decide_eq_true_eq, not_false_eq_true, not_true_eq_false, reduceCtorEq, sizeLine_eq, Option.map_some, Option.some.injEq, Nat.reduceSub, Nat.reduceAdd, Nat.reduceLeDiff, Nat.reduceEqDiff, Nat.zero_add, Nat.reduceBEq, List.contains_cons, List.contains_nil, beq_self_eq_true, Bool.true_or, Bool.or_true, Bool.false_or, Bool.or_false, List.lookup_cons, List.lookup_nil, Int.reduceEq, Int.reduceNe, Int.reduceLT, Int.reduceLE, Int.reduceNeg, Int.reduceAdd, Int.reduceSub, Int.cast_ofNat_Int, ne_eq, cmpI_s, dGt, dGe, dLt, dLe, dAdd_int, dSub_int, dEq_int, dNe_int, dEq_bl, dNe_bl, truD_bl, isTy_int, isTy_bl, isTy_tup, fLen_tup, fLen_scr, fLen_lst, fAbs_int, fMax_int, fMin_int, ixD_tup, ixD_lst, ixD_scr, isTy_rD, fLen_rD, ix_rD0, ix_rD1, dEq_rD, dNe_rD, dIs_rD, dIsNot_rD, Tn.is, i0, s0, s1, s2, i1 _ _ _ _ _ hn, at3_0, at3_1, at3_2, dMul_int (m1 _), dMul_int (m2 _), dMod_int, dGt, ← ea, hb0, fDivmodW_s _ hm hm2, ne_eq])
    exact h _ _ (Int.emod_nonneg _ (by omega)) (Int.emod_lt_of_pos _ hm) ⟨a', b / many, c + 1, get S _ hn, ha1, ha3, Int.ediv_nonneg hb (by omega)⟩ (Fr.set _)
  · have d64 : divOk 64 = true := by decide
    have hz : ¬ many = 0 := by omega
    (try simp only [wr_ok, wr_exc, wr_lf, wr_eC, evQ_some, wr_eVar, cB2_s, cB1_s, wr_eBin, cS2_s, cS1_s, wr_eBinS, asQ_bl, wr_tB, truQ_s, wr_tT, notQ_s, wr_tNt, anQ_t, anQ_f, wr_tAn, orQ_t, orQ_f, wr_tOr, eaB_t, eaB_f, eaQ_s, wr_eAn, eoB_t, eoB_f, eoQ_s, wr_eOr, enB_s, enQ_s, wr_eNt, eiQ_t, eiQ_f, wr_eIf, negQ_int, wr_eNeg, wr_aNil, cC2_s, cC1_s, wr_aCons, tupQ_s, lstQ_s, newQ_s, wr_eTup, wr_eLst, wr_eNew, caQ_s, wr_eCa, clQ_s, wr_eCall, nAQ_s, wr_nA, tyQ_s, wr_eIsTy, icQ_s, wr_eIsC, mt2_s, mt1_s, wr_eMt, wr_oNone, oQ_int, wr_oSome, sl3_s, sl2_s, sl1_s, wr_eSl, kk2_s, kk1_s, wr_eCallK, kk0_s, wr_eCallK0, wr_gN, sb3_s, sb2_s, sb1_s, wr_gSb, wr_gsNil, gs1_s, wr_gsCons, wr_gTp, wr_gTp_rD, xe_s, sq_nx, sq_rt, sq_bk, sq_ct, sq_ex, sq_xe, ws_nxt, ws_sNop, ws_sSeq, ws_sBrk, ws_sCnt, dropQ_s, ws_sDrop, ws_sRet, ws_sRetN, ifQ_t, ifQ_f, ws_sIf, asg1_s, ws_sAsg, setQ_s, ws_sSet, parQ_s, ws_sPar, ws_sRaise, fn_nx, fn_rt, fn_ex, fn_xe, su_nx, su_bk, su_ct, su_rt, trQ_t, trQ_f, tr_nx, tr_rt, tr_bk, tr_ct, tr_ex, ws_sTry, forQ_s, ws_sFor, lp_nx, lp_rt, lp_bk, lp_ct, lp_ex, lp_xe, ws_fi_nil, bodyQ_s, mid_nx, mid_rt, mid_bk, mid_ct, mid_ex, mid_xe, lc2_s, lc1_s, wr_eLc, lcn2_s, lcn1_s, wr_eLcN, wipe_nil, wipe_cons, wr_tTrue, wr_lc_nil, tgQ_some, ly_s, lt1_t, lt1_f, lg_s, eqQ_s, exQ_s, seqQ_tup, seqQ_lst, seqQ_scr, seqQ_rD, wr_iSeq, rgQ_int, wr_iRg1, rgQ2_int, wr_iRg2, ch3_t, ch3_f, ch2_s, ch1_s, wr_eChain, flQ_s, wr_eFld, fldD_ins, stQ_s, sf2_s, sf1_s, ws_sFldM, mkQ2_s, mkQ1_s, wr_eMk, wr_eMk0, ap2_s, ap1_s, wr_eApp, zpQ_s, wr_iZip, zipR_tup, zipR_lst, srQ_s, wr_iStrM, strR_s, ioQ_s, wr_eIsO, dAddS_int, wr_gStr_tup, wr_gStr_lst, fTuple_lst, fTuple_tup, List.take_succ_cons, List.take_zero, List.drop_succ_cons, List.drop_zero, List.getElem?_cons_zero, List.getElem?_cons_succ, List.set_cons_zero, List.set_cons_succ, List.map_cons, List.map_nil, List.length_cons, List.length_nil, List.cons_append, List.nil_append, List.replicate_succ, List.replicate_zero, List.append_nil, true_and, and_true, and_self, if_true, ite_true, if_false, ite_false, Bool.false_eq_true, Bool.not_true, Bool.not_false, Bool.not_not, decide_true, decide_false, decide_eq_true_eq, not_false_eq_true, not_true_eq_false, reduceCtorEq, sizeLine_eq, Option.map_some, Option.some.injEq, Nat.reduceSub, Nat.reduceAdd, Nat.reduceLeDiff, Nat.reduceEqDiff, Nat.zero_add, Nat.reduceBEq, List.contains_cons, List.contains_nil, beq_self_eq_true, Bool.true_or, Bool.or_true, Bool.false_or, Bool.or_false, List.lookup_cons, List.lookup_nil, Int.reduceEq, Int.reduceNe, Int.reduceLT, Int.reduceLE, Int.reduceNeg, Int.reduceAdd, Int.reduceSub, Int.cast_ofNat_Int, ne_eq, cmpI_s, dGt, dGe, dLt, dLe, dAdd_int, dSub_int, dEq_int, dNe_int, dEq_bl, dNe_bl, truD_bl, isTy_int, isTy_bl, isTy_tup, fLen_tup, fLen_scr, fLen_lst, fAbs_int, fMax_int, fMin_int, ixD_tup, ixD_lst, ixD_scr, isTy_rD, fLen_rD, ix_rD0, ix_rD1, dEq_rD, dNe_rD, dIs_rD, dIsNot_rD, Tn.is, i0, s0, s1, s2, i1 _ _ _ _ _ hn, at3_0, at3_1, at3_2, dMul_int (m1 _), dMul_int (m2 _), dMod_int, dGt, ← ea, hb0, dDiv_int d64, hz, ne_eq])
    refine h _ _ ?_ ?_ ⟨a', b, c + 1, get S _ hn, ha1, ha3, hb⟩ (Fr.set _)
    · rw [Int.fmod_eq_emod_of_nonneg _ (by omega)]; exact Int.emod_nonneg _ (by omega)
    · rw [Int.fmod_eq_emod_of_nonneg _ (by omega)]; exact Int.emod_lt_of_pos _ hm
theorem pool_w (N : Nat) (x : Int) {S : Store} {Q : D → Store → Prop} {X : D → Store → Prop} (h : ∀ c, Pool (S ++ [c]) S.length → Q (.loc S.length) (S ++ [c])) : Wr (m__law_pool N [.int x] S) Q X := by
  have e1 : x.fmod 2147483477 = x % 2147483477 := Int.fmod_eq_emod_of_nonneg _ (by omega)
  have g : ∀ X : Cell, (S ++ [X])[S.length]? = some X := fun X => by simp
  have a1 : 0 ≤ x.fmod 2147483477 := by rw [e1]; exact Int.emod_nonneg _ (by omega)
  have a2 : x.fmod 2147483477 < 2147483477 := by rw [e1]; exact Int.emod_lt_of_pos _ (by omega)
  have ep : dPow (.int 10) (.int 18) = some (.int (10 ^ 18)) := rfl
  rw [m__law_pool, wr_fnM, b__law_pool]
  by_cases h1 : x < 0
  · wp_walk using dLt, h1, dMod_int, ne_eq
    exact h _ ⟨_, _, _, g _, a1, a2, by omega⟩
  · by_cases h2 : (10 ^ 18 : Int) ≤ x
    · wp_walk using dLt, dGe, ep, h1, h2, dMod_int, ne_eq
      exact h _ ⟨_, _, _, g _, a1, a2, by omega⟩
    · wp_walk using dLt, dGe, ep, h1, h2, dMod_int, ne_eq
      exact h _ ⟨_, _, _, g _, a1, a2, by omega⟩
theorem wr_at {l : List D} {i : Int} {S : Store} {Q : D → Store → Prop} {X : D → Store → Prop} (h0 : 0 ≤ i) (h1 : i < l.length) (h : ∀ d, d ∈ l → Q d S) : Wr (lf (L2.atI l i) S) Q X := by
  have hk : i.toNat < l.length := by omega
  have e : L2.atI l i = some l[i.toNat] := by
    unfold L2.atI L2.ixN
    rw [if_pos h0, if_pos h1]
    show l[i.toNat]? = _
    exact List.getElem?_eq_getElem hk
  rw [e]
  exact h _ (List.getElem_mem hk)
theorem range_mem {n : Nat} {d : D} (h : d ∈ rangeD 0 n) : ∃ k : Int, d = .int k ∧ 0 ≤ k ∧ k < n := by
  unfold rangeD at h
  rw [List.mem_map] at h
  obtain ⟨k, hk, rfl⟩ := h
  rw [List.mem_range] at hk
  exact ⟨0 + (k : Nat), rfl, by omega, by omega⟩
theorem range_get {n i : Nat} {d : D} (h : (rangeD 0 n)[i]? = some d) : d = .int i ∧ i < n := by
  unfold rangeD at h
  rw [List.getElem?_map] at h
  obtain ⟨k, hk, rfl⟩ := Option.map_eq_some_iff.mp h
  obtain ⟨h1, h2⟩ := List.getElem?_eq_some_iff.mp hk
  simp at h1 h2
  subst h2
  exact ⟨by simp, h1⟩
theorem range_len (n : Nat) : (rangeD 0 n).length = n := by unfold rangeD; simp
theorem atI_ints (ns : List Int) {k : Int} (h0 : 0 ≤ k) (h : k < ns.length) : ∃ x : Int, L2.atI (ns.map D.int) k = some (.int x) := by
  have hk : k.toNat < ns.length := by omega
  refine ⟨ns[k.toNat], ?_⟩
  unfold L2.atI L2.ixN
  rw [List.length_map, if_pos h0, if_pos h]
  show (ns.map D.int)[k.toNat]? = _
  rw [List.getElem?_map, List.getElem?_eq_getElem hk]
  rfl
theorem cell_w (N : Nat) (ns : List Int) (k : Int) {S : Store} {Q : D → Store → Prop} {X : D → Store → Prop} (h0 : 0 ≤ k) (h1 : k < 2 ^ 40) (h : ∀ x : Int, Q (.int x) S) : Wr (m__law_cell N [.scr (ns.map .int), .int k] S) Q X := by
  rw [m__law_cell, wr_fnM, b__law_cell]
  by_cases hk : k < ns.length
  · obtain ⟨x, e⟩ := atI_ints ns h0 hk
    wp_walk using List.length_map, hk, e
    exact h x
  · have es : slD S (.scr (ns.map D.int)) none (some 3) = some (.lst ((cutL ns none (some 3)).map D.int)) := by
      show some (D.lst (cutL (ns.map D.int) none (some 3))) = _
      rw [cutL_map]
    wp_walk using List.length_map, hk, dMul_int (mul_l (i := k) (j := k) (by omega)), dMul_int (mul_l (i := 5) (j := k) (by decide)), dMul_int (mul_l (i := 60013) (by decide)), dMod_int, es
    refine for_i (fun e S' => S' = S ∧ ∃ (z : Int) (o : Option D), e = [some (.scr (ns.map .int)), some (.int k), some (.int z), o]) ⟨rfl, _, none, rfl⟩ ?_ ?_
    · rintro d e S' hd ⟨rfl, z, o, rfl⟩
      obtain ⟨i, _, rfl⟩ := List.mem_map.mp hd
      wp_walk using dMul_int (mul_r (i := z) (j := 48017) (by decide)), dMod_int
      exact ⟨_, _, rfl⟩
    · rintro e S' ⟨rfl, z, o, rfl⟩
      wp_walk using wr_ok
      exact h z
theorem cells {l n : Int} (h0 : 0 ≤ l) (hn : 0 ≤ n) (hn2 : n ≤ 64) : ∃ j : Int, (if (if n < l then n else l) > 1 then (if n < l then n else l) else 1) = j ∧ 1 ≤ j ∧ j ≤ 64 := by
  refine ⟨_, rfl, ?_, ?_⟩
  · split <;> omega
  · split <;> (try split) <;> omega
theorem eqD_str (a b : Str) : eqD (.str a) (.str b) = some (decide (a = b)) := rfl
theorem dEq_str (a b : Str) : dEq (.str a) (.str b) = some (.bl (decide (a = b))) := by unfold dEq; rw [eqD_str]; rfl
theorem time_ok {N : Nat} {q : Rat} {S : Store} {n : Nat} (hN : big N) (h : Bt q n) (h9 : n ≤ 9000) : m_is_time N [rD q] S = .ok (.bl (decide (0 ≤ q.num))) S := by
  apply eq_of_w
  rw [m_is_time, wr_fnM, b_is_time]
  wp_walk using isr_ok hN h h9
theorem ctime_ok {N : Nat} {q : Rat} {S : Store} {n : Nat} (hN : big N) (h : Bt q n) (h9 : n ≤ 9000) (h0 : 0 ≤ q) : m_check_time N [rD q] S = .ok .non S := by
  have e : 0 ≤ q.num := Rat.num_nonneg.mpr h0
  apply eq_of_w
  rw [m_check_time, wr_fnM, b_check_time]
  wp_walk using time_ok hN h h9, e
theorem rate_ok {N : Nat} {q : Rat} {S : Store} {n : Nat} (hN : big N) (h : Bt q n) (h9 : n ≤ 9000) : m_is_rate N [rD q] S = .ok (.bl (decide (0 < q ∧ q ≤ 1))) S := by
  have e1 : (0 < q.num) ↔ 0 < q := by
    rw [Rat.lt_iff]; simp
  have e2 : (q.num ≤ (q.den : Int)) ↔ q ≤ 1 := by
    rw [Rat.le_iff]; simp
  apply eq_of_w
  rw [m_is_rate, wr_fnM, b_is_rate]
  by_cases h1 : 0 < q.num
  · by_cases h2 : q.num ≤ (q.den : Int)
    · wp_walk using isr_ok hN h h9, h1, h2, e1.mp h1, e2.mp h2
    · have h2' : ¬ q ≤ 1 := fun z => h2 (e2.mpr z)
      wp_walk using isr_ok hN h h9, h1, h2, e1.mp h1, h2', and_false
  · have h1' : ¬ 0 < q := fun z => h1 (e1.mpr z)
    wp_walk using isr_ok hN h h9, h1, h1', false_and
theorem ltop_ok {N : Nat} {p q : Rat} {S : Store} {n m : Nat} (h : Bt p n) (h' : Bt q m) (l : n + m ≤ 9000) : m__law_top N [rD p, rD q] S = .ok (rD (max p q)) S := by
  apply eq_of_w
  rw [m__law_top, wr_fnM, b__law_top]
  by_cases hl : p < q
  · have e : max p q = q := by rw [Rat.max_def]; grind
    wp_walk using lless_ok h h' l, hl, e
  · have e : max p q = p := by rw [Rat.max_def]; grind
    wp_walk using lless_ok h h' l, hl, e
end
end C
namespace C
open PySem G
local macro_rules | `(tactic| wp_walk using $ts,*) => `(tactic| try simp only [wr_ok, wr_exc, wr_lf, wr_eC, evQ_some, wr_eVar, cB2_s, cB1_s, wr_eBin, cS2_s, cS1_s, wr_eBinS, asQ_bl, wr_tB, truQ_s, wr_tT, notQ_s, wr_tNt, anQ_t, anQ_f, wr_tAn, orQ_t, orQ_f, wr_tOr, eaB_t, eaB_f, eaQ_s, wr_eAn, eoB_t, eoB_f, eoQ_s, wr_eOr, enB_s, enQ_s, wr_eNt, eiQ_t, eiQ_f, wr_eIf, negQ_int, wr_eNeg, wr_aNil, cC2_s, cC1_s, wr_aCons, tupQ_s, lstQ_s, newQ_s, wr_eTup, wr_eLst, wr_eNew, caQ_s, wr_eCa, clQ_s, wr_eCall, nAQ_s, wr_nA, tyQ_s, wr_eIsTy, icQ_s, wr_eIsC, mt2_s, mt1_s, wr_eMt, wr_oNone, oQ_int, wr_oSome, sl3_s, sl2_s, sl1_s, wr_eSl, kk2_s, kk1_s, wr_eCallK, kk0_s, wr_eCallK0, wr_gN, sb3_s, sb2_s, sb1_s, wr_gSb, wr_gsNil, gs1_s, wr_gsCons, wr_gTp, wr_gTp_rD, xe_s, sq_nx, sq_rt, sq_bk, sq_ct, sq_ex, sq_xe, ws_nxt, ws_sNop, ws_sSeq, ws_sBrk, ws_sCnt, dropQ_s, ws_sDrop, ws_sRet, ws_sRetN, ifQ_t, ifQ_f, ws_sIf, asg1_s, ws_sAsg, setQ_s, ws_sSet, parQ_s, ws_sPar, ws_sRaise, fn_nx, fn_rt, fn_ex, fn_xe, su_nx, su_bk, su_ct, su_rt, trQ_t, trQ_f, tr_nx, tr_rt, tr_bk, tr_ct, tr_ex, ws_sTry, forQ_s, ws_sFor, lp_nx, lp_rt, lp_bk, lp_ct, lp_ex, lp_xe, ws_fi_nil, bodyQ_s, mid_nx, mid_rt, mid_bk, mid_ct, mid_ex, mid_xe, lc2_s, lc1_s, wr_eLc, lcn2_s, lcn1_s, wr_eLcN, wipe_nil, wipe_cons, wr_tTrue, wr_lc_nil, tgQ_some, ly_s, lt1_t, lt1_f, lg_s, eqQ_s, exQ_s, seqQ_tup, seqQ_lst, seqQ_scr, seqQ_rD, wr_iSeq, rgQ_int, wr_iRg1, rgQ2_int, wr_iRg2, ch3_t, ch3_f, ch2_s, ch1_s, wr_eChain, flQ_s, wr_eFld, fldD_ins, stQ_s, sf2_s, sf1_s, ws_sFldM, mkQ2_s, mkQ1_s, wr_eMk, wr_eMk0, ap2_s, ap1_s, wr_eApp, zpQ_s, wr_iZip, zipR_tup, zipR_lst, srQ_s, wr_iStrM, strR_s, ioQ_s, wr_eIsO, dAddS_int, wr_gStr_tup, wr_gStr_lst, fTuple_lst, fTuple_tup, List.take_succ_cons, List.take_zero, List.drop_succ_cons, List.drop_zero, List.getElem?_cons_zero, List.getElem?_cons_succ, List.set_cons_zero, List.set_cons_succ, List.map_cons, List.map_nil, List.length_cons, List.length_nil, List.cons_append, List.nil_append, List.replicate_succ, List.replicate_zero, List.append_nil, true_and, and_true, and_self, if_true, ite_true, if_false, ite_false, Bool.false_eq_true, Bool.not_true, Bool.not_false, Bool.not_not, decide_true, decide_false, decide_eq_true_eq, not_false_eq_true, not_true_eq_false, reduceCtorEq, sizeLine_eq, Option.map_some, Option.some.injEq, Nat.reduceSub, Nat.reduceAdd, Nat.reduceLeDiff, Nat.reduceEqDiff, Nat.zero_add, Nat.reduceBEq, List.contains_cons, List.contains_nil, beq_self_eq_true, Bool.true_or, Bool.or_true, Bool.false_or, Bool.or_false, List.lookup_cons, List.lookup_nil, Int.reduceEq, Int.reduceNe, Int.reduceLT, Int.reduceLE, Int.reduceNeg, Int.reduceAdd, Int.reduceSub, Int.cast_ofNat_Int, ne_eq, cmpI_s, dGt, dGe, dLt, dLe, dAdd_int, dSub_int, dEq_int, dNe_int, dEq_bl, dNe_bl, truD_bl, isTy_int, isTy_bl, isTy_tup, fLen_tup, fLen_scr, fLen_lst, fAbs_int, fMax_int, fMin_int, ixD_tup, ixD_lst, ixD_scr, isTy_rD, fLen_rD, ix_rD0, ix_rD1, dEq_rD, dNe_rD, dIs_rD, dIsNot_rD, Tn.is, $[$ts:term],*])
noncomputable section
def g_ratio_1_ : List D → List D → List D := fun ds es => [(ds.getD 0 .non), ((.int 1))]
def g_Client___init___2_least_most_weight : List D → List D → List D := fun ds es => [(ds.getD 0 .non), (ds.getD 1 .non), (es.getD 0 .non), (es.getD 1 .non), (es.getD 2 .non)]
def b_is_none (N : Nat) : SM := (sRet (eAn (eCa fAll (aCons (eLc (iSeq (eVar 0)) (.nm 1) tTrue (eCall (m_is_whole N) (nA 1 (aCons (eVar 1) aNil))) [1]) aNil)) (eBin dEq (eVar 0) (eC (.tup [.int 0, .int 1])))))
def m_is_none (N : Nat) : FM := fnM 2 (b_is_none N)
def b_is_least (N : Nat) : SM := (sRet (eOr (eCall (m_is_rate N) (nA 1 (aCons (eVar 0) aNil))) (eAn (eIsTy .tuple (eVar 0)) (eAn (eBin dEq (eCa fLen (aCons (eVar 0) aNil)) (eC (.int 2))) (eCall (m_is_none N) (nA 1 (aCons (eVar 0) aNil)))))))
def m_is_least (N : Nat) : FM := fnM 1 (b_is_least N)
def b_is_name (N : Nat) : SM := (sSeq (sIf (tOr' (tNt (tT (eIsTy .str (eVar 0)))) (tNt (tB (eChain dLe dLe (eC (.int 1)) (eCa fLen (aCons (eVar 0) aNil)) (eC (.int 8)))))) (sRet (eC (.bl false))) sNop)
    (sRet (eCa fAll (aCons (eLc (iStrM (eVar 0)) (.nm 1) tTrue (eBinS (dIn false) (eVar 1) (eC (.str "abcdefghijklmnopqrstuvwxyz"))) [1]) aNil))))
def m_is_name (N : Nat) : FM := fnM 2 (b_is_name N)
def b_is_weight (N : Nat) : SM := (sRet (eAn (eCall (m_is_whole N) (nA 1 (aCons (eVar 0) aNil))) (eChain dLe dLe (eC (.int 1)) (eVar 0) (eC (.int 99)))))
def m_is_weight (N : Nat) : FM := fnM 1 (b_is_weight N)
def b_Client___init__ (N : Nat) : SM := (sSeq (sIf (tNt (tT (eCall (m_is_name N) (nA 1 (aCons (eVar 1) aNil))))) (sRaise 5) sNop)
    (sSeq (sIf (tNt (tT (eCall (m_is_least N) (nA 1 (aCons (eVar 2) aNil))))) sStk sNop)
    (sSeq (sIf (tAn (tB (eBin dIsNot (eVar 3) (eC .non))) (tOr' (tNt (tT (eCall (m_is_rate N) (nA 1 (aCons (eVar 3) aNil))))) (tT (eCall (m_is_before N) (nA 2 (aCons (eVar 3) (aCons (eVar 2) aNil))))))) sStk sNop)
    (sSeq (sIf (tNt (tT (eCall (m_is_weight N) (nA 1 (aCons (eVar 4) aNil))))) (sRaise 7) sNop)
    (sSeq (sFldM [33, 42, 44, 46] 0 (eVar 0) (eVar 1))
    (sSeq (sFldM [33, 42] 1 (eVar 0) (eVar 2))
    (sSeq (sFldM [33, 42] 2 (eVar 0) (eVar 3))
    (sFldM [33, 42, 44] 3 (eVar 0) (eVar 4)))))))))
def m_Client___init__ (N : Nat) : FM := fnM 5 (b_Client___init__ N)
def b_are_tags (N : Nat) : SM := (sRet (eAn (eIsTy .tuple (eVar 0)) (eAn (eBin dEq (eCa fLen (aCons (eVar 0) aNil)) (eC (.int 3))) (eCa fAll (aCons (eLc (iSeq (eVar 0)) (.nm 1) tTrue (eCall (m_is_time N) (nA 1 (aCons (eVar 1) aNil))) [1]) aNil)))))
def m_are_tags (N : Nat) : FM := fnM 2 (b_are_tags N)
def oD : Option Rat → D
  | none => .non
  | some q => rD q
def cD (nm : Str) (l : Rat) (o : Option Rat) (h : Int) : D := .ins 33 [(0, .str nm), (1, rD l), (2, oD o), (3, .int h)]
def tD (c g t : Rat) : D := .tup [rD c, rD g, rD t]
theorem oD_none : oD none = .non := rfl
theorem oD_some (q : Rat) : oD (some q) = rD q := rfl
theorem tD_fold (a b c : Rat) : D.tup [rD a, rD b, rD c] = tD a b c := rfl
theorem ix_tD0 (a b c : Rat) (S : Store) : ixD S (tD a b c) (.int 0) = some (rD a) := rfl
theorem ix_tD1 (a b c : Rat) (S : Store) : ixD S (tD a b c) (.int 1) = some (rD b) := rfl
theorem ix_tD2 (a b c : Rat) (S : Store) : ixD S (tD a b c) (.int 2) = some (rD c) := rfl
theorem lo_rD (n : Nat) (q : Rat) : (rD q).lo n = true := by
  unfold rD; simp only [D.lo, loL, Bool.and_self]
theorem lo_oD (n : Nat) (o : Option Rat) : (oD o).lo n = true := by
  cases o with
  | none => simp only [oD, D.lo]
  | some q => exact lo_rD n q
structure CliOk (l : Rat) (o : Option Rat) (h : Int) : Prop where
  l0 : 0 ≤ l
  l1 : l ≤ 1
  o1 : ∀ q, o = some q → 0 < q ∧ q ≤ 1 ∧ l ≤ q
  h1 : 1 ≤ h
  h9 : h ≤ 99
theorem none_ok (N : Nat) (S : Store) : m_is_none N [rD 0] S = .ok (.bl true) S := rfl
theorem least_ok {N : Nat} {q : Rat} {S : Store} {n : Nat} (hN : big N) (h : Bt q n) (h9 : n ≤ 9000) (h0 : 0 ≤ q) (h1 : q ≤ 1) : m_is_least N [rD q] S = .ok (.bl true) S := by
  by_cases hq : q = 0
  · subst hq
    have e : ¬ ((0 : Rat) < 0 ∧ (0 : Rat) ≤ 1) := fun z => absurd z.1 (by decide)
    apply eq_of_w
    rw [m_is_least, wr_fnM, b_is_least]
    wp_walk using rate_ok hN h h9, e, none_ok
  · have e : 0 < q ∧ q ≤ 1 := ⟨Rat.lt_of_le_of_ne h0 (Ne.symm hq), h1⟩
    apply eq_of_w
    rw [m_is_least, wr_fnM, b_is_least]
    wp_walk using rate_ok hN h h9, e
theorem weight_ok {N : Nat} {h : Int} {S : Store} (h1 : 1 ≤ h) (h9 : h ≤ 99) : m_is_weight N [.int h] S = .ok (.bl true) S := by
  apply eq_of_w
  rw [m_is_weight, wr_fnM, b_is_weight]
  wp_walk using is_whole_int, h1, h9
theorem isO_c (nm : Str) (l : Rat) (o : Option Rat) (h : Int) (S : Store) : isO 33 S (cD nm l o h) = some true := rfl
theorem f1_c (nm : Str) (l : Rat) (o : Option Rat) (h : Int) (S : Store) : fldD [33, 42] 1 S (cD nm l o h) = some (rD l) := rfl
theorem f2_c (nm : Str) (l : Rat) (o : Option Rat) (h : Int) (S : Store) : fldD [33, 42] 2 S (cD nm l o h) = some (oD o) := rfl
theorem ratio1_ok {N : Nat} {z : Int} {S : Store} (hN : big N) : m_ratio N [.int z, .int 1] S = .ok (rD (z : Rat)) S := by
  have e := ratio_ok (N := N) (t := z) (b := 1) (n := 1) (S := S) hN (by decide) (by decide) (by decide) (by decide)
  have e2 : Rat.divInt z 1 = (z : Rat) := by rw [Rat.divInt_eq_div]; simp; grind
  rw [e, e2]
theorem bt_size {z : Int} (h1 : 1 ≤ z) (h9 : z ≤ 999) : Bt (z : Rat) 10 := Bt.int (by omega) (by omega)
theorem max_le {n : Nat} : Nat.max n n = n := Nat.max_self n
end
end C
namespace C
open PySem G
local macro_rules | `(tactic| wp_walk using $ts,*) => `(tactic| try simp only [wr_ok, wr_exc, wr_lf, wr_eC, evQ_some, wr_eVar, cB2_s, cB1_s, wr_eBin, cS2_s, cS1_s, wr_eBinS, asQ_bl, wr_tB, truQ_s, wr_tT, notQ_s, wr_tNt, anQ_t, anQ_f, wr_tAn, orQ_t, orQ_f, wr_tOr, eaB_t, eaB_f, eaQ_s, wr_eAn, eoB_t, eoB_f, eoQ_s, wr_eOr, enB_s, enQ_s, wr_eNt, eiQ_t, eiQ_f, wr_eIf, negQ_int, wr_eNeg, wr_aNil, cC2_s, cC1_s, wr_aCons, tupQ_s, lstQ_s, newQ_s, wr_eTup, wr_eLst, wr_eNew, caQ_s, wr_eCa, clQ_s, wr_eCall, nAQ_s, wr_nA, tyQ_s, wr_eIsTy, icQ_s, wr_eIsC, mt2_s, mt1_s, wr_eMt, wr_oNone, oQ_int, wr_oSome, sl3_s, sl2_s, sl1_s, wr_eSl, kk2_s, kk1_s, wr_eCallK, kk0_s, wr_eCallK0, wr_gN, sb3_s, sb2_s, sb1_s, wr_gSb, wr_gsNil, gs1_s, wr_gsCons, wr_gTp, wr_gTp_rD, xe_s, sq_nx, sq_rt, sq_bk, sq_ct, sq_ex, sq_xe, ws_nxt, ws_sNop, ws_sSeq, ws_sBrk, ws_sCnt, dropQ_s, ws_sDrop, ws_sRet, ws_sRetN, ifQ_t, ifQ_f, ws_sIf, asg1_s, ws_sAsg, setQ_s, ws_sSet, parQ_s, ws_sPar, ws_sRaise, fn_nx, fn_rt, fn_ex, fn_xe, su_nx, su_bk, su_ct, su_rt, trQ_t, trQ_f, tr_nx, tr_rt, tr_bk, tr_ct, tr_ex, ws_sTry, forQ_s, ws_sFor, lp_nx, lp_rt, lp_bk, lp_ct, lp_ex, lp_xe, ws_fi_nil, bodyQ_s, mid_nx, mid_rt, mid_bk, mid_ct, mid_ex, mid_xe, lc2_s, lc1_s, wr_eLc, lcn2_s, lcn1_s, wr_eLcN, wipe_nil, wipe_cons, wr_tTrue, wr_lc_nil, tgQ_some, ly_s, lt1_t, lt1_f, lg_s, eqQ_s, exQ_s, seqQ_tup, seqQ_lst, seqQ_scr, seqQ_rD, wr_iSeq, rgQ_int, wr_iRg1, rgQ2_int, wr_iRg2, ch3_t, ch3_f, ch2_s, ch1_s, wr_eChain, flQ_s, wr_eFld, fldD_ins, stQ_s, sf2_s, sf1_s, ws_sFldM, mkQ2_s, mkQ1_s, wr_eMk, wr_eMk0, ap2_s, ap1_s, wr_eApp, zpQ_s, wr_iZip, zipR_tup, zipR_lst, srQ_s, wr_iStrM, strR_s, ioQ_s, wr_eIsO, dAddS_int, wr_gStr_tup, wr_gStr_lst, fTuple_lst, fTuple_tup, List.take_succ_cons, List.take_zero, List.drop_succ_cons, List.drop_zero, List.getElem?_cons_zero, List.getElem?_cons_succ, List.set_cons_zero, List.set_cons_succ, List.map_cons, List.map_nil, List.length_cons, List.length_nil, List.cons_append, List.nil_append, List.replicate_succ, List.replicate_zero, List.append_nil, true_and, and_true, and_self, if_true, ite_true, if_false, ite_false, Bool.false_eq_true, Bool.not_true, Bool.not_false, Bool.not_not, decide_true, decide_false, decide_eq_true_eq, not_false_eq_true, not_true_eq_false, reduceCtorEq, sizeLine_eq, Option.map_some, Option.some.injEq, Nat.reduceSub, Nat.reduceAdd, Nat.reduceLeDiff, Nat.reduceEqDiff, Nat.zero_add, Nat.reduceBEq, List.contains_cons, List.contains_nil, beq_self_eq_true, Bool.true_or, Bool.or_true, Bool.false_or, Bool.or_false, List.lookup_cons, List.lookup_nil, Int.reduceEq, Int.reduceNe, Int.reduceLT, Int.reduceLE, Int.reduceNeg, Int.reduceAdd, Int.reduceSub, Int.cast_ofNat_Int, ne_eq, cmpI_s, dGt, dGe, dLt, dLe, dAdd_int, dSub_int, dEq_int, dNe_int, dEq_bl, dNe_bl, truD_bl, isTy_int, isTy_bl, isTy_tup, fLen_tup, fLen_scr, fLen_lst, fAbs_int, fMax_int, fMin_int, ixD_tup, ixD_lst, ixD_scr, isTy_rD, fLen_rD, ix_rD0, ix_rD1, dEq_rD, dNe_rD, dIs_rD, dIsNot_rD, Tn.is, $[$ts:term],*])
noncomputable section
def b_due_of (N : Nat) : SM := (sRet (eCall (m_added N) (nA 2 (aCons (eBinS ixD (eVar 0) (eC (.int 0))) (aCons (eCall (m_parted N) (nA 2 (aCons (eCallK (m_ratio N) g_ratio_1_ 1 0 (aCons (eVar 1) aNil) aNil) (aCons (eFld [33, 42] 1 (eVar 2)) aNil)))) aNil)))))
def m_due_of (N : Nat) : FM := fnM 3 (b_due_of N)
def b__law_rate (N : Nat) : SM := (sSeq (sSet 1 (eBinS dAddS (eC (.int 1)) (eCall (m__law_take N) (nA 2 (aCons (eVar 0) (aCons (eBinS ixD (eLst (aCons (eC (.int 12)) (aCons (eC (.int 12)) (aCons (eBin dPow (eC (.int 10)) (eC (.int 6))) aNil)))) (eCall (m__law_take N) (nA 2 (aCons (eVar 0) (aCons (eC (.int 3)) aNil))))) aNil))))))
    (sRet (eCall (m__law_r N) (nA 2 (aCons (eBinS dAddS (eC (.int 1)) (eCall (m__law_take N) (nA 2 (aCons (eVar 0) (aCons (eVar 1) aNil))))) (aCons (eVar 1) aNil))))))
def m__law_rate (N : Nat) : FM := fnM 2 (b__law_rate N)
theorem rat_unit {p b : Int} (h0 : 0 < p) (h1 : p ≤ b) : 0 < Rat.divInt p b ∧ Rat.divInt p b ≤ 1 := by
  have hb : (0 : Rat) < (b : Rat) := Rat.intCast_pos.mpr (by omega)
  have hp : (0 : Rat) < (p : Rat) := Rat.intCast_pos.mpr h0
  rw [Rat.divInt_eq_div]
  refine ⟨by rw [Rat.lt_div_iff hb, Rat.zero_mul]; exact hp, ?_⟩
  have : ¬ (1 : Rat) < (p : Rat) / (b : Rat) := by
    rw [Rat.lt_div_iff hb, Rat.one_mul, Rat.intCast_lt_intCast]; omega
  exact Rat.not_lt.mp this
theorem rat_nn {p b : Int} (h0 : 0 ≤ p) (h1 : 0 < b) : 0 ≤ Rat.divInt p b := Rat.divInt_nonneg h0 (by omega)
def dueB (c : Rat) (z : Int) (l : Rat) : Rat := c + (z : Rat) / l
theorem due_of_ok {N : Nat} {nm : Str} {l : Rat} {o : Option Rat} {h : Int} {c g t : Rat} {z : Int} {S : Store} {n : Nat} (hN : big N) (bc : Bt c n) (bl : Bt l n) (hl : l ≠ 0) (h1 : 1 ≤ z) (h9 : z ≤ 999) (hn : n ≤ 4000) : m_due_of N [tD c g t, .int z, cD nm l o h] S = .ok (rD (dueB c z l)) S := by
  have e2 := ratio1_ok (N := N) (z := z) (S := S) hN
  have e3 := parted_ok (S := S) hN (bt_size h1 h9) bl hl (by omega)
  have e4 := added_ok (S := S) hN bc ((bt_size h1 h9).div bl) (by omega)
  apply eq_of_w
  rw [m_due_of, wr_fnM, b_due_of]
  wp_walk using ix_tD0, f1_c, g_ratio_1_, List.getD_cons_zero, e2, e3, e4, dueB
end
end C
namespace G
open PySem
section
variable {Q X : QP D} {QB : QP Bool} {QL : QP (List D)} {QE : QP En} {k : KS} {e : En} {S S1 : Store} {a b c o : EM} {t u : TM} {m n : SM} {am mk : AM} {x y d : D} {z : Bool} {xs ds zs : List D}
def me3 (f : FM) (gD : List D → List D → List D) (n l : Nat) (x : D) (ds : List D) (Q X : QP D) : QP (List D) := fun zs S => (ds.length = n ∧ zs.length = l) ∧ Wr (f (gD (x :: ds) zs) S) Q X
def me2 (f : FM) (gD : List D → List D → List D) (n l : Nat) (x : D) (mk : AM) (e : En) (Q X : QP D) : QP (List D) := fun ds S => Wr (mk e S) (me3 f gD n l x ds Q X) X
def me1 (cn : Nat) (f : FM) (gD : List D → List D → List D) (n l : Nat) (am mk : AM) (e : En) (Q X : QP D) : QP D := fun x S => isCn cn S x = true ∧ Wr (am e S) (me2 f gD n l x mk e Q X) X
theorem me3_s (f : FM) (gD : List D → List D → List D) (n l : Nat) : me3 f gD n l x ds Q X zs S = ((ds.length = n ∧ zs.length = l) ∧ Wr (f (gD (x :: ds) zs) S) Q X) := rfl
theorem me2_s (f : FM) (gD : List D → List D → List D) (n l : Nat) : me2 f gD n l x mk e Q X ds S = Wr (mk e S) (me3 f gD n l x ds Q X) X := rfl
theorem me1_s (cn : Nat) (f : FM) (gD : List D → List D → List D) (n l : Nat) : me1 cn f gD n l am mk e Q X x S = (isCn cn S x = true ∧ Wr (am e S) (me2 f gD n l x mk e Q X) X) := rfl
theorem wr_eMeth (cn : Nat) (f : FM) (gD : List D → List D → List D) (n l : Nat) : Wr (eMeth cn f gD n l o am mk e S) Q X = Wr (o e S) (me1 cn f gD n l am mk e Q X) X := by
  unfold eMeth; rw [wr_bind]; congr; funext x S1; rw [wr_guard, me1_s, wr_bind]; congr; funext ds S2; rw [wr_bind, me2_s]; congr; funext zs S3; rw [wr_guard]; rfl
def mk2 (f : FM) (gD : List D → List D → List D) (l : Nat) (x : D) (Q X : QP D) : QP (List D) := fun zs S => zs.length = l ∧ Wr (f (gD [x] zs) S) Q X
def mk1 (cn : Nat) (f : FM) (gD : List D → List D → List D) (l : Nat) (mk : AM) (e : En) (Q X : QP D) : QP D := fun x S => isCn cn S x = true ∧ Wr (mk e S) (mk2 f gD l x Q X) X
theorem mk2_s (f : FM) (gD : List D → List D → List D) (l : Nat) : mk2 f gD l x Q X zs S = (zs.length = l ∧ Wr (f (gD [x] zs) S) Q X) := rfl
theorem mk1_s (cn : Nat) (f : FM) (gD : List D → List D → List D) (l : Nat) : mk1 cn f gD l mk e Q X x S = (isCn cn S x = true ∧ Wr (mk e S) (mk2 f gD l x Q X) X) := rfl
theorem wr_eMethK (cn : Nat) (f : FM) (gD : List D → List D → List D) (l : Nat) : Wr (eMethK cn f gD l o mk e S) Q X = Wr (o e S) (mk1 cn f gD l mk e Q X) X := by
  unfold eMethK; rw [wr_bind]; congr; funext x S1; rw [wr_guard, mk1_s, wr_bind]; congr; funext zs S3; rw [wr_guard]; rfl
def m01 (cn : Nat) (f : FM) (gD : List D → List D → List D) (Q X : QP D) : QP D := fun x S => isCn cn S x = true ∧ Wr (f (gD [x] []) S) Q X
theorem m01_s (cn : Nat) (f : FM) (gD : List D → List D → List D) : m01 cn f gD Q X x S = (isCn cn S x = true ∧ Wr (f (gD [x] []) S) Q X) := rfl
theorem wr_eMeth0 (cn : Nat) (f : FM) (gD : List D → List D → List D) : Wr (eMeth0 cn f gD o e S) Q X = Wr (o e S) (m01 cn f gD Q X) X := by
  unfold eMeth0; rw [wr_bind]; congr; funext x S1; rw [wr_guard]; rfl
theorem wr_eNewD : Wr (eNewD e S) Q X = Q (.loc S.length) (S ++ [.dk []]) := rfl
def dg3 (x y : D) (Q X : QP D) : QP D := fun z S => Wr (dgR S x y z) Q X
def dg2 (c : EM) (e : En) (x : D) (Q X : QP D) : QP D := fun y S => Wr (c e S) (dg3 x y Q X) X
def dg1 (b c : EM) (e : En) (Q X : QP D) : QP D := fun x S => (dkD S x).isSome = true ∧ Wr (b e S) (dg2 c e x Q X) X
theorem dg3_s (z : D) : dg3 x y Q X z S = Wr (dgR S x y z) Q X := rfl
theorem dg2_s : dg2 c e x Q X y S = Wr (c e S) (dg3 x y Q X) X := rfl
theorem dg1_s : dg1 b c e Q X x S = ((dkD S x).isSome = true ∧ Wr (b e S) (dg2 c e x Q X) X) := rfl
theorem wr_eDGet2 : Wr (eDGet2 a b c e S) Q X = Wr (a e S) (dg1 b c e Q X) X := by
  unfold eDGet2; rw [wr_bind]; congr; funext x S1; rw [wr_guard, dg1_s, wr_bind]; congr; funext y S2; rw [wr_bind]; rfl
def dh2 (x : D) (Q X : QP D) : QP D := fun y S => Wr (dgR S x y .non) Q X
def dh1 (b : EM) (e : En) (Q X : QP D) : QP D := fun x S => (dkD S x).isSome = true ∧ Wr (b e S) (dh2 x Q X) X
theorem dh2_s : dh2 x Q X y S = Wr (dgR S x y .non) Q X := rfl
theorem dh1_s : dh1 b e Q X x S = ((dkD S x).isSome = true ∧ Wr (b e S) (dh2 x Q X) X) := rfl
theorem wr_eDGet1 : Wr (eDGet1 a b e S) Q X = Wr (a e S) (dh1 b e Q X) X := by
  unfold eDGet1; rw [wr_bind]; congr; funext x S1; rw [wr_guard, dh1_s, wr_bind]; rfl
def dp3 (x y : D) (Q X : QP D) : QP D := fun z S => Wr (dpR S x y (some z)) Q X
def dp2 (c : EM) (e : En) (x : D) (Q X : QP D) : QP D := fun y S => Wr (c e S) (dp3 x y Q X) X
def dp1 (b c : EM) (e : En) (Q X : QP D) : QP D := fun x S => (dkD S x).isSome = true ∧ Wr (b e S) (dp2 c e x Q X) X
theorem dp3_s (z : D) : dp3 x y Q X z S = Wr (dpR S x y (some z)) Q X := rfl
theorem dp2_s : dp2 c e x Q X y S = Wr (c e S) (dp3 x y Q X) X := rfl
theorem dp1_s : dp1 b c e Q X x S = ((dkD S x).isSome = true ∧ Wr (b e S) (dp2 c e x Q X) X) := rfl
theorem wr_eDPop2 : Wr (eDPop2 a b c e S) Q X = Wr (a e S) (dp1 b c e Q X) X := by
  unfold eDPop2; rw [wr_bind]; congr; funext x S1; rw [wr_guard, dp1_s, wr_bind]; congr; funext y S2; rw [wr_bind]; rfl
def dq2 (x : D) (Q X : QP D) : QP D := fun y S => Wr (dpR S x y none) Q X
def dq1 (b : EM) (e : En) (Q X : QP D) : QP D := fun x S => (dkD S x).isSome = true ∧ Wr (b e S) (dq2 x Q X) X
theorem dq2_s : dq2 x Q X y S = Wr (dpR S x y none) Q X := rfl
theorem dq1_s : dq1 b e Q X x S = ((dkD S x).isSome = true ∧ Wr (b e S) (dq2 x Q X) X) := rfl
theorem wr_eDPop1 : Wr (eDPop1 a b e S) Q X = Wr (a e S) (dq1 b e Q X) X := by
  unfold eDPop1; rw [wr_bind]; congr; funext x S1; rw [wr_guard, dq1_s, wr_bind]; rfl
def se2 (d x : D) (e : En) (Q : QP En) : QP D := fun y S => sb3 e Q (setE S x y d)
def se1 (d : D) (i : EM) (e : En) (Q : QP En) : QP D := fun x S => Wr (i e S) (se2 d x e Q) nX
theorem se2_s : se2 d x e QE y S = sb3 e QE (setE S x y d) := rfl
theorem se1_s (i : EM) : se1 d i e QE x S = Wr (i e S) (se2 d x e QE) nX := rfl
theorem wr_gSbE (o i : EM) : Wr (gSbE o i d e S) QE X = Wr (o e S) (se1 d i e QE) nX := by
  unfold gSbE; rw [wr_bind, wr_noX]; congr; funext x S1; rw [wr_bind, wr_noX, se1_s]; congr; funext y S2; rw [se2_s]; cases h : setE S2 x y d <;> rfl
theorem keyD_int (i : Int) : keyD (.int i) = some (.inl i) := rfl
theorem keyD_str (s : Str) : keyD (.str s) = some (.inr s) := rfl
def ssQ (Q X : QP D) : QP D := fun x S => Wr (lf (ssD S x) S) Q X
theorem ssQ_s : ssQ Q X x S = Wr (lf (ssD S x) S) Q X := rfl
theorem wr_eSortSet : Wr (eSortSet a e S) Q X = Wr (a e S) (ssQ Q X) X := by unfold eSortSet; rw [wr_bind]; rfl
def an2 (x : D) (Q X : QP D) : QP D := fun y S => Wr (addN S x y) Q X
def an1 (b : EM) (e : En) (Q X : QP D) : QP D := fun x S => Wr (b e S) (an2 x Q X) X
theorem an2_s : an2 x Q X y S = Wr (addN S x y) Q X := rfl
theorem an1_s : an1 b e Q X x S = Wr (b e S) (an2 x Q X) X := rfl
theorem wr_eAddN : Wr (eAddN a b e S) Q X = Wr (a e S) (an1 b e Q X) X := by unfold eAddN; rw [wr_bind]; congr; funext x S1; rw [wr_bind]; rfl
abbrev QC := List D × Option Nat → Store → Prop
variable {QQ : QC}
def celQ (Q : QC) : QP D := fun x S => match x with
  | .tup l => Q (l, none) S
  | .lst l => Q (l, none) S
  | .scr l => Q (l, none) S
  | .loc n => match S[n]? with
    | some (.lst l) => Q (l, some n) S
    | _ => False
  | _ => False
theorem celQ_tup (l : List D) : celQ QQ (.tup l) S = QQ (l, none) S := rfl
theorem celQ_lst (l : List D) : celQ QQ (.lst l) S = QQ (l, none) S := rfl
theorem celQ_scr (l : List D) : celQ QQ (.scr l) S = QQ (l, none) S := rfl
theorem celQ_loc {i : Nat} {l : List D} (h : S[i]? = some (.lst l)) : celQ QQ (.loc i) S = QQ (l, some i) S := by unfold celQ; simp only [h]
theorem wr_iCel : Wr (iCel a e S) QQ X = Wr (a e S) (celQ QQ) X := by
  unfold iCel; rw [wr_bind]; congr; funext x S1
  cases x with
  | loc n =>
    show Wr (match S1[n]? with
      | some (.lst l) => .ok (l, some n) S1
      | _ => .stuck) _ _ = celQ QQ (.loc n) S1
    unfold celQ
    dsimp only
    cases S1[n]? with
    | none => rfl
    | some q => cases q <;> rfl
  | _ => rfl
def forcQ (g : GM) (m : SM) (e : En) (k : KS) : QC := fun p S => Ws (fiC (okC p) g m p.1 e S) k
theorem forcQ_s (g : GM) (p : List D × Option Nat) : forcQ g m e k p S = Ws (fiC (okC p) g m p.1 e S) k := rfl
theorem ws_sForC (i : CM) (g : GM) : Ws (sForC i g m e S) k = Wr (i e S) (forcQ g m e k) (k.xe e) := ws_sE
def turnC (ck : Store → Prop) (g : GM) (m : SM) (ds : List D) (k : KS) : QP En := fun e S => Ws (fiC ck g m ds e S) k
theorem ws_fiC_cons {ck : Store → Prop} (h : ck S) (g : GM) (ds : List D) : Ws (fiC ck g m (d :: ds) e S) k = Wr (g d e S) (bodyQ m (k.lp (turnC ck g m ds k))) (k.xe e) := by
  rw [fiC_cons h, ws_sE]
  congr; funext e1 S1
  rw [bodyQ_s]
  cases m e1 S1 <;> rfl
theorem forC_w {ck : Store → Prop} {g : GM} {ds : List D} (I : Nat → En → Store → Prop) (h0 : I 0 e S) (hc : ∀ i e S, I i e S → ck S)
    (st : ∀ i d e S, ds[i]? = some d → I i e S → Wr (g d e S) (bodyQ m (k.lp (I (i + 1)))) (k.xe e))
    (fin : ∀ e S, I ds.length e S → k.nx e S) : Ws (fiC ck g m ds e S) k := by
  induction ds generalizing I e S with
  | nil => rw [fiC_nil (hc _ _ _ h0)]; exact fin e S h0
  | cons d ds ih =>
    rw [ws_fiC_cons (hc _ _ _ h0)]
    have h1 := st 0 d e S rfl h0
    have mono : ∀ (r : SRes), Ws r (k.lp (I 1)) → Ws r (k.lp (turnC ck g m ds k)) := by
      intro r h
      have go : ∀ e S, I 1 e S → Ws (fiC ck g m ds e S) k := fun e S hI => ih (fun i => I (i + 1)) hI (fun i e S => hc (i + 1) e S) (fun i d e S hd => st (i + 1) d e S (by simpa using hd)) (fun e S => fin e S)
      cases r with
      | nxt e S => exact go e S h
      | cnt e S => exact go e S h
      | _ => exact h
    revert h1
    cases g d e S with
    | ok e1 S1 => exact fun h1 => mono _ h1
    | exc x S1 => exact id
    | stuck => exact id
def lcc1 (g : Tg) (t : TM) (a : EM) (e : En) (Q X : QP D) : QC := fun p S => Wr (lcC (okC p) g t a e p.1 [] S) (lc2 Q) X
theorem lcc1_s (g : Tg) (p : List D × Option Nat) : lcc1 g t a e Q X p S = Wr (lcC (okC p) g t a e p.1 [] S) (lc2 Q) X := rfl
theorem wr_eLcC (i : CM) (g : Tg) (vs : List Nat) : Wr (eLcC i g t a vs e S) Q X = Wr (i e S) (lcc1 g t a (wipeE e vs) Q X) X := by
  unfold eLcC; rw [wr_bind]; congr; funext p S1; rw [wr_bind]; rfl
def lcd1 (g : Tg) (t : TM) (a : EM) (e : En) (Q X : QP D) : QC := fun p S => Wr (lcC (okC p) g t a e p.1 [] S) (lcn2 Q) X
theorem lcd1_s (g : Tg) (p : List D × Option Nat) : lcd1 g t a e Q X p S = Wr (lcC (okC p) g t a e p.1 [] S) (lcn2 Q) X := rfl
theorem wr_eLcCN (i : CM) (g : Tg) (vs : List Nat) : Wr (eLcCN i g t a vs e S) Q X = Wr (i e S) (lcd1 g t a (wipeE e vs) Q X) X := by
  unfold eLcCN; rw [wr_bind]; congr; funext p S1; rw [wr_bind]; rfl
def lccI (ck : Store → Prop) (g : Tg) (t : TM) (a : EM) (e : En) (ds : List D) (Q : QP (List D)) (X : QP D) : QP (List D) := fun acc S => Wr (lcC ck g t a e ds acc S) Q X
theorem wr_lcC_cons {ck : Store → Prop} (h : ck S) (g : Tg) (acc ds : List D) : Wr (lcC ck g t a e (d :: ds) acc S) QL X = tgQ (g.m d e) (lg t a (lccI ck g t a e ds QL X) acc S) := by
  rw [lcC_cons h]
  unfold tgQ
  cases g.m d e with
  | none => rfl
  | some e1 =>
    dsimp only
    rw [wr_bind, wr_noX, lg_s]; congr; funext b S2
    cases b with
    | false => rfl
    | true =>
      show Wr ((noX (a e1 S2)).bind _) _ _ = Wr (a e1 S2) _ _
      rw [wr_bind, wr_noX]; congr; funext y S3; rw [wr_guard]; rfl
theorem lcC_w {ck : Store → Prop} {g : Tg} {ds acc : List D} (I : Nat → List D → Store → Prop) (h0 : I 0 acc S) (hc : ∀ i acc S, I i acc S → ck S)
    (st : ∀ i d acc S, ds[i]? = some d → I i acc S → tgQ (g.m d e) (lg t a (I (i + 1)) acc S))
    (fin : ∀ acc S, I ds.length acc S → QL acc S) : Wr (lcC ck g t a e ds acc S) QL X := by
  induction ds generalizing I acc S with
  | nil => rw [lcC_nil (hc _ _ _ h0)]; exact fin acc S h0
  | cons d ds ih =>
    rw [wr_lcC_cons (hc _ _ _ h0)]
    have h1 := st 0 d acc S rfl h0
    have go : ∀ acc S, I 1 acc S → Wr (lcC ck g t a e ds acc S) QL X := fun acc S hI => ih (fun i => I (i + 1)) hI (fun i acc S => hc (i + 1) acc S) (fun i d acc S hd => st (i + 1) d acc S (by simpa using hd)) (fun acc S => fin acc S)
    revert h1
    cases g.m d e with
    | none => exact id
    | some e1 =>
      simp only [tgQ_some, lg_s]
      cases t e1 S with
      | exc x S1 => exact id
      | stuck => exact id
      | ok b S1 =>
        simp only [wr_ok]
        cases b with
        | false => exact fun h => go _ _ h
        | true =>
          simp only [lt1_t]
          cases a e1 S1 with
          | exc x S1 => exact id
          | stuck => exact id
          | ok y S2 => exact fun h => ⟨h.1, go _ _ h.2⟩
end
end G
namespace C
open PySem G
local macro_rules | `(tactic| wp_walk using $ts,*) => `(tactic| try simp only [wr_ok, wr_exc, wr_lf, wr_eC, evQ_some, wr_eVar, cB2_s, cB1_s, wr_eBin, cS2_s, cS1_s, wr_eBinS, asQ_bl, wr_tB, truQ_s, wr_tT, notQ_s, wr_tNt, anQ_t, anQ_f, wr_tAn, orQ_t, orQ_f, wr_tOr, eaB_t, eaB_f, eaQ_s, wr_eAn, eoB_t, eoB_f, eoQ_s, wr_eOr, enB_s, enQ_s, wr_eNt, eiQ_t, eiQ_f, wr_eIf, negQ_int, wr_eNeg, wr_aNil, cC2_s, cC1_s, wr_aCons, tupQ_s, lstQ_s, newQ_s, wr_eTup, wr_eLst, wr_eNew, caQ_s, wr_eCa, clQ_s, wr_eCall, nAQ_s, wr_nA, tyQ_s, wr_eIsTy, icQ_s, wr_eIsC, mt2_s, mt1_s, wr_eMt, wr_oNone, oQ_int, wr_oSome, sl3_s, sl2_s, sl1_s, wr_eSl, kk2_s, kk1_s, wr_eCallK, kk0_s, wr_eCallK0, wr_gN, sb3_s, sb2_s, sb1_s, wr_gSb, wr_gsNil, gs1_s, wr_gsCons, wr_gTp, wr_gTp_rD, xe_s, sq_nx, sq_rt, sq_bk, sq_ct, sq_ex, sq_xe, ws_nxt, ws_sNop, ws_sSeq, ws_sBrk, ws_sCnt, dropQ_s, ws_sDrop, ws_sRet, ws_sRetN, ifQ_t, ifQ_f, ws_sIf, asg1_s, ws_sAsg, setQ_s, ws_sSet, parQ_s, ws_sPar, ws_sRaise, fn_nx, fn_rt, fn_ex, fn_xe, su_nx, su_bk, su_ct, su_rt, trQ_t, trQ_f, tr_nx, tr_rt, tr_bk, tr_ct, tr_ex, ws_sTry, forQ_s, ws_sFor, lp_nx, lp_rt, lp_bk, lp_ct, lp_ex, lp_xe, ws_fi_nil, bodyQ_s, mid_nx, mid_rt, mid_bk, mid_ct, mid_ex, mid_xe, lc2_s, lc1_s, wr_eLc, lcn2_s, lcn1_s, wr_eLcN, wipe_nil, wipe_cons, wr_tTrue, wr_lc_nil, tgQ_some, ly_s, lt1_t, lt1_f, lg_s, eqQ_s, exQ_s, seqQ_tup, seqQ_lst, seqQ_scr, seqQ_rD, wr_iSeq, rgQ_int, wr_iRg1, rgQ2_int, wr_iRg2, ch3_t, ch3_f, ch2_s, ch1_s, wr_eChain, flQ_s, wr_eFld, fldD_ins, stQ_s, sf2_s, sf1_s, ws_sFldM, mkQ2_s, mkQ1_s, wr_eMk, wr_eMk0, ap2_s, ap1_s, wr_eApp, zpQ_s, wr_iZip, zipR_tup, zipR_lst, srQ_s, wr_iStrM, strR_s, ioQ_s, wr_eIsO, dAddS_int, wr_gStr_tup, wr_gStr_lst, fTuple_lst, fTuple_tup, List.take_succ_cons, List.take_zero, List.drop_succ_cons, List.drop_zero, List.getElem?_cons_zero, List.getElem?_cons_succ, List.set_cons_zero, List.set_cons_succ, List.map_cons, List.map_nil, List.length_cons, List.length_nil, List.cons_append, List.nil_append, List.replicate_succ, List.replicate_zero, List.append_nil, true_and, and_true, and_self, if_true, ite_true, if_false, ite_false, Bool.false_eq_true, Bool.not_true, Bool.not_false, Bool.not_not, decide_true, decide_false, decide_eq_true_eq, not_false_eq_true, not_true_eq_false, reduceCtorEq, sizeLine_eq, Option.map_some, Option.some.injEq, Nat.reduceSub, Nat.reduceAdd, Nat.reduceLeDiff, Nat.reduceEqDiff, Nat.zero_add, Nat.reduceBEq, List.contains_cons, List.contains_nil, beq_self_eq_true, Bool.true_or, Bool.or_true, Bool.false_or, Bool.or_false, List.lookup_cons, List.lookup_nil, Int.reduceEq, Int.reduceNe, Int.reduceLT, Int.reduceLE, Int.reduceNeg, Int.reduceAdd, Int.reduceSub, Int.cast_ofNat_Int, ne_eq, cmpI_s, dGt, dGe, dLt, dLe, dAdd_int, dSub_int, dEq_int, dNe_int, dEq_bl, dNe_bl, truD_bl, isTy_int, isTy_bl, isTy_tup, fLen_tup, fLen_scr, fLen_lst, fAbs_int, fMax_int, fMin_int, ixD_tup, ixD_lst, ixD_scr, isTy_rD, fLen_rD, ix_rD0, ix_rD1, dEq_rD, dNe_rD, dIs_rD, dIsNot_rD, Tn.is, me3_s, me2_s, me1_s, wr_eMeth, mk2_s, mk1_s, wr_eMethK, m01_s, wr_eMeth0, wr_eNewD, dg3_s, dg2_s, dg1_s, wr_eDGet2, dh2_s, dh1_s, wr_eDGet1, dp3_s, dp2_s, dp1_s, wr_eDPop2, dq2_s, dq1_s, wr_eDPop1, se2_s, se1_s, wr_gSbE, ssQ_s, wr_eSortSet, an2_s, an1_s, wr_eAddN, celQ_tup, celQ_lst, celQ_scr, wr_iCel, forcQ_s, ws_sForC, lcc1_s, wr_eLcC, lcd1_s, wr_eLcCN, keyD_int, keyD_str, Option.isSome_some, $[$ts:term],*])
noncomputable section
def rowD (p : Rat × Rat) : D := .tup [rD p.1, rD p.2]
def lowL (l : List (Rat × Rat)) (s : Rat) : List (Rat × Rat) := l.filter fun p => decide (p.1 < s)
structure Bk (S : Store) (n : Nat) (f : Int → List (Rat × Rat)) (c : Nat) : Prop where
  ex : ∃ n1 kvs, S[n]? = some (.obj 34 [(9, .loc n1)]) ∧ S[n1]? = some (.dk kvs) ∧ kvs.length ≤ c ∧ ∀ i : Int, (valD kvs (.inl i) = none ∧ f i = []) ∨ ∃ j, valD kvs (.inl i) = some (.loc j) ∧ S[j]? = some (.lst ((f i).map rowD))
  bt : ∀ i p, p ∈ f i → Bt p.1 64 ∧ Bt p.2 64
  len : ∀ i, (f i).length ≤ c
theorem rowD_pool {l : List (Rat × Rat)} {a b c : Int} (h : l.map rowD = [.int a, .int b, .int c]) : False := by
  cases l with
  | nil => simp at h
  | cons p l => simp [rowD] at h
theorem Bk.fr {S S' : Store} {n p c : Nat} {f : Int → List (Rat × Rat)} (h : Bk S n f c) (P : Pool S p) (F : Fr p S S') : Bk S' n f c := by
  obtain ⟨⟨n1, kvs, h1, h2, h3, h4⟩, h5, h6⟩ := h
  obtain ⟨x, y, z, hP, _⟩ := P
  have get : ∀ {i : Nat} {c : Cell}, S[i]? = some c → c ≠ .lst [.int x, .int y, .int z] → S'[i]? = some c := fun {i c} hi hc => by
    rw [F.2 i (List.getElem?_eq_some_iff.mp hi).1 fun e => hc (by rw [e, hP] at hi; exact (Option.some.inj hi).symm)]
    exact hi
  refine ⟨⟨n1, kvs, get h1 (by simp), get h2 (by simp), h3, fun i => (h4 i).imp id fun ⟨j, a, b⟩ => ⟨j, a, get b fun e => ?_⟩⟩, h5, h6⟩
  injection e with e
  exact rowD_pool e
theorem Bk.app {S : Store} {n c : Nat} {f : Int → List (Rat × Rat)} (h : Bk S n f c) (d : List Cell) : Bk (S ++ d) n f c := by
  obtain ⟨⟨n1, kvs, h1, h2, h3, h4⟩, h5, h6⟩ := h
  have get : ∀ {i : Nat} {c : Cell}, S[i]? = some c → (S ++ d)[i]? = some c := fun {i c} hi => by
    rw [List.getElem?_append_left (List.getElem?_eq_some_iff.mp hi).1]; exact hi
  exact ⟨⟨n1, kvs, get h1, get h2, h3, fun i => (h4 i).imp id fun ⟨j, a, b⟩ => ⟨j, a, get b⟩⟩, h5, h6⟩
theorem low_mem {l : List (Rat × Rat)} {s : Rat} {p : Rat × Rat} (h : p ∈ lowL l s) : p ∈ l := (List.mem_filter.mp h).1
abbrev Rw := Int × Rat × Rat
def RwOk (p : Rw) : Prop := 0 ≤ p.1 ∧ Bt p.2.1 31 ∧ 0 ≤ p.2.1 ∧ Bt p.2.2 31 ∧ 0 ≤ p.2.2 ∧ p.2.2 ≤ 1
end
end C
namespace G
open PySem
section
variable {Q X : QP D} {e : En} {S S1 : Store} {a b c o : EM} {ms : List EM} {x y d : D}
def fmQ (Q X : QP D) : QP D := fun x S => Wr (lf (fmtD x) S) Q X
theorem fmQ_s : fmQ Q X x S = Wr (lf (fmtD x) S) Q X := rfl
theorem wr_eFmt : Wr (eFmt a e S) Q X = Wr (a e S) (fmQ Q X) X := by
  unfold eFmt; rw [wr_bind]; rfl
def jsQ (ms : List EM) (acc : Str) (e : En) (Q X : QP D) : QP D := fun x S => match x with
  | .str y => (acc ++ y).length ≤ sizeLine ∧ Wr (jsM ms (acc ++ y) e S) Q X
  | _ => False
theorem jsQ_str (acc y : Str) : jsQ ms acc e Q X (.str y) S = ((acc ++ y).length ≤ sizeLine ∧ Wr (jsM ms (acc ++ y) e S) Q X) := rfl
theorem wr_js_nil (acc : Str) : Wr (jsM [] acc e S) Q X = Q (.str acc) S := rfl
theorem wr_js_cons (acc : Str) : Wr (jsM (a :: ms) acc e S) Q X = Wr (a e S) (jsQ ms acc e Q X) X := by
  unfold jsM; rw [wr_bind]; congr; funext x S1
  cases x with
  | str y => show Wr (if _ then _ else _) _ _ = _; rw [wr_guard]; rfl
  | _ => rfl
theorem wr_eJs : Wr (eJs ms e S) Q X = Wr (jsM ms Str.empty e S) Q X := rfl
def s4Q (Q : QP D) : QP D := fun y S => match y with
  | .str t => Q (.str t) S
  | _ => False
theorem s4Q_str (t : Str) : s4Q Q (.str t) S = Q (.str t) S := rfl
theorem wr_strOf {r : Res D} : Wr (strOf r) Q X = Wr r (s4Q Q) X := by
  unfold strOf; rw [wr_bind]; congr; funext y S1; cases y <;> rfl
def soQ (cn : Nat) (f : FM) (gD : List D → List D → List D) (Q X : QP D) : QP D := fun x S => isCn cn S x = true ∧ Wr (f (gD [x] []) S) (s4Q Q) X
theorem soQ_s (cn : Nat) (f : FM) (gD : List D → List D → List D) : soQ cn f gD Q X x S = (isCn cn S x = true ∧ Wr (f (gD [x] []) S) (s4Q Q) X) := rfl
theorem wr_eStrO (cn : Nat) (f : FM) (gD : List D → List D → List D) : Wr (eStrO cn f gD a e S) Q X = Wr (a e S) (soQ cn f gD Q X) X := by
  unfold eStrO aCons aNil
  rw [wr_bind, wr_bind]
  congr; funext x S1
  show Wr (if isCn cn S1 x = true then strOf (f (gD [x] []) S1) else .stuck) Q X = _
  rw [wr_guard, wr_strOf]; rfl
theorem dAddE_0 (m : List D) : dAddE S (.tup []) (.tup m) = some (.tup m) := rfl
end
end G
namespace G
open PySem
section
variable {Q X : QP D} {QB : QP Bool} {QL : QP (List D)} {QE : QP En} {k : KS} {e : En} {S S1 : Store} {a b c o : EM} {t u : TM} {m n : SM} {am mk : AM} {x y d : D} {z : Bool} {xs ds zs : List D}
theorem wr_eCallV (i f nN : Nat) (cp : List (Option D)) (fk : FM) : Wr (eCallV i f nN cp fk am e S) Q X = ((e[i]? = some (some (.fa f)) ∧ e.drop nN = cp) ∧ Wr (am e S) (clQ fk Q X) X) := by
  unfold eCallV; split
  · rename_i h; simp only [h, wr_bind, and_self, true_and]; rfl
  · rename_i h; simp only [h, false_and]; rfl
theorem wr_fnH (i : Nat) (cp : List (Option D)) (ds : List D) : Wr (fnH i cp m ds S) Q X = Ws (m (ds.map some ++ List.replicate (i - ds.length) none ++ cp) S) (KS.fn Q X) := by
  unfold fnH
  show _ = Ws (m (enOf i ds ++ cp) S) _
  cases m (enOf i ds ++ cp) S <;> rfl
def chQ (g : Nat → List (Option D) → FM → FM) (js : List Nat) (fkM : En → FM) (tb : Store → Bool) (i : Nat) (e : En) (Q X : QP D) : QP (List D) := fun ds S => (tb S = true ∧ ds.length = i) ∧ Wr (uniR (fun q : Nat × { vs : List L2.V // vs.length = js.length } => g q.1 (cpOf js e q.2.1) (fkM e) (ds ++ [.fa q.1]) S)) Q X
theorem chQ_s (g : Nat → List (Option D) → FM → FM) (js : List Nat) (fkM : En → FM) (tb : Store → Bool) (i : Nat) : chQ g js fkM tb i e Q X ds S = ((tb S = true ∧ ds.length = i) ∧ Wr (uniR (fun q : Nat × { vs : List L2.V // vs.length = js.length } => g q.1 (cpOf js e q.2.1) (fkM e) (ds ++ [.fa q.1]) S)) Q X) := rfl
theorem wr_eCallH (g : Nat → List (Option D) → FM → FM) (js : List Nat) (fkM : En → FM) (tb : Store → Bool) (i : Nat) : Wr (eCallH g js fkM tb i am e S) Q X = Wr (am e S) (chQ g js fkM tb i e Q X) X := by
  unfold eCallH; rw [wr_bind]; congr; funext ds S1; rw [wr_guard]; rfl
theorem uni_w {α : Type} [Inhabited α] {F : α → Res D} (r : Res D) (h : ∀ q, F q = r) (hw : Wr r Q X) : Wr (uniR F) Q X := by rw [uniR_ok h]; exact hw
theorem wr_lamF (js : List Nat) (np : Nat) (e' : En) : Wr (lamF js np a e' ds S) Q X = (ds.length = np ∧ Wr (a (ds.map some ++ js.map fun j => oj e'[j]?) S) Q X) := by
  unfold lamF; rw [wr_guard]
theorem oj_s : oj (some (some d)) = some d := rfl
def enuQ (Q : QP (List D)) (X : QP D) : QP (List D) := fun ds S => Wr (enR ds S) Q X
theorem enuQ_s : enuQ QL X ds S = Wr (enR ds S) QL X := rfl
theorem wr_iEnum : Wr (iEnum am e S) QL X = Wr (am e S) (enuQ QL X) X := by unfold iEnum; rw [wr_bind]; rfl
theorem enR_tup (l : List D) : enR [.tup l] S = .ok (enumD l) S := rfl
theorem enR_lst (l : List D) : enR [.lst l] S = .ok (enumD l) S := rfl
theorem lrOk_of {i : Int} (h0 : 0 ≤ i) (h : i ≤ 1000000) : lrOk i := ⟨by omega, by omega⟩
def lrQ (Q : QP D) : QP D := fun d S => match d with
  | .int i => lrOk i ∧ Q (.lst (rangeD 0 i.toNat)) S
  | _ => False
theorem lrQ_int (i : Int) : lrQ Q (.int i) S = (lrOk i ∧ Q (.lst (rangeD 0 i.toNat)) S) := propext Iff.rfl
theorem wr_eLr : Wr (eLr a e S) Q X = Wr (a e S) (lrQ Q) X := by
  unfold eLr; rw [wr_bind]; congr; funext d S1; rw [wr_bind]
  cases d with
  | int i =>
    unfold lrR
    dsimp only
    split
    · rename_i h; rw [lrQ_int]; simp only [h, true_and]; rfl
    · rename_i h; rw [lrQ_int]; simp only [h, false_and]; rfl
  | _ => rfl
def lrnQ (Q : QP D) : QP D := fun d S => match d with
  | .int i => lrOk i ∧ Q (.loc S.length) (S ++ [.lst (rangeD 0 i.toNat)])
  | _ => False
theorem lrnQ_int (i : Int) : lrnQ Q (.int i) S = (lrOk i ∧ Q (.loc S.length) (S ++ [.lst (rangeD 0 i.toNat)])) := propext Iff.rfl
theorem wr_eLrN : Wr (eLrN a e S) Q X = Wr (a e S) (lrnQ Q) X := by
  unfold eLrN; rw [wr_bind]; congr; funext d S1; rw [wr_bind]
  cases d with
  | int i =>
    unfold lrR
    dsimp only
    split
    · rename_i h; rw [lrnQ_int]; simp only [h, true_and]; rfl
    · rename_i h; rw [lrnQ_int]; simp only [h, false_and]; rfl
  | _ => rfl
def agQ (i : Nat) (x : D) (e : En) (k : KS) : QP D := fun y S => Ws (augR i e x y S) k
theorem agQ_s (i : Nat) : agQ i x e k y S = Ws (augR i e x y S) k := rfl
def auP (o : Option (Option D)) (i : Nat) (a : EM) (e : En) (S : Store) (k : KS) : Prop := match o with
  | some (some x) => Wr (a e S) (agQ i x e k) (k.xe e)
  | _ => False
theorem auP_s (i : Nat) : auP (some (some x)) i a e S k = Wr (a e S) (agQ i x e k) (k.xe e) := rfl
theorem ws_sAug (i : Nat) : Ws (sAug i a e S) k = auP e[i]? i a e S k := by
  unfold sAug auP
  cases e[i]? with
  | none => rfl
  | some q => cases q with
    | none => rfl
    | some x => dsimp only; rw [ws_sE]; rfl
theorem augR_int (i : Nat) (p q : Int) : augR i e (.int p) (.int q) S = .nxt (e.set i (some (.int (p + q)))) S := rfl
theorem augR_loc (i : Nat) {j : Nat} {l m : List D} (h : S[j]? = some (.lst l)) (hl : l.length + m.length ≤ sizeLine) : augR i e (.loc j) (.lst m) S = .nxt (e.set i (some (.loc j))) (S.set j (.lst (l ++ m))) := by
  show (match S[j]?, lstOf S (.lst m) with
    | some (.lst l), some zs => if l.length + zs.length ≤ sizeLine then _ else _
    | _, _ => _) = _
  have : lstOf S (.lst m) = some m := rfl
  rw [h, this]
  dsimp only
  rw [if_pos hl]
def pp2 (x : D) (Q X : QP D) : QP (List D) := fun xs S => Wr (popR x xs S) Q X
def pp1 (am : AM) (e : En) (Q X : QP D) : QP D := fun x S => isLst S x = true ∧ Wr (am e S) (pp2 x Q X) X
theorem pp2_s : pp2 x Q X xs S = Wr (popR x xs S) Q X := rfl
theorem pp1_s : pp1 am e Q X x S = (isLst S x = true ∧ Wr (am e S) (pp2 x Q X) X) := rfl
theorem wr_ePop : Wr (ePop a am e S) Q X = Wr (a e S) (pp1 am e Q X) X := by
  unfold ePop; rw [wr_bind]; congr; funext x S1; rw [wr_guard, wr_bind]; rfl
def Cmp (d : D) : Prop := ∃ p, d.toP = some p ∧ p.canLay0 = true ∧ p.depth ≤ 60
theorem cmp_int (i : Int) : Cmp (.int i) := ⟨_, rfl, rfl, Nat.le_of_ble_eq_true rfl⟩
theorem cmp_str {x : Str} (h : PyData.canLay0 (.str x) = true) : Cmp (.str x) := ⟨_, rfl, h, Nat.le_of_ble_eq_true rfl⟩
theorem cmp_rD (q : Rat) : Cmp (rD q) := ⟨_, rfl, rfl, Nat.le_of_ble_eq_true rfl⟩
theorem toPs_ok : ∀ l : List D, (∀ d, d ∈ l → Cmp d) → ∃ ps, toPs l = some ps ∧ PyData.canLayAll0 ps = true ∧ PyData.depthAll ps ≤ 60 ∧ (ps = [] ↔ l = []) := by
  intro l
  induction l with
  | nil => exact fun _ => ⟨[], rfl, rfl, Nat.zero_le _, by simp⟩
  | cons d l ih =>
    intro h
    obtain ⟨p, h1, h2, h3⟩ := h d (by simp)
    obtain ⟨ps, g1, g2, g3, _⟩ := ih fun d hd => h d (by simp [hd])
    refine ⟨p :: ps, by unfold toPs; rw [h1, g1], by unfold PyData.canLayAll0; rw [h2, g2]; rfl, ?_, by simp⟩
    simp only [PyData.depthAll]; omega
theorem eqP_nil {l : List D} (h : ∀ d, d ∈ l → Cmp d) : eqP (.lst l) (.lst []) = some (decide (l = [])) := by
  obtain ⟨ps, h1, h2, h3, h4⟩ := toPs_ok l h
  have e1 : (D.lst l).toP = some (.list ps) := by unfold D.toP; rw [h1]; rfl
  have e2 : (D.lst []).toP = some (.list []) := rfl
  have s1 : SeqAt.shaped (.list ps) = true := by
    unfold SeqAt.shaped
    rw [Bool.and_eq_true, decide_eq_true_eq]
    exact ⟨by simpa [PyData.canLay0] using h2, by simp only [PyData.depth]; omega⟩
  have s2 : SeqAt.shaped (.list []) = true := by decide
  unfold eqP
  rw [e1, e2]
  dsimp only
  rw [s1, s2]
  simp only [Bool.and_self, if_true, PyData.eqv]
  cases ps with
  | nil => rw [h4.mp rfl]; rfl
  | cons p ps => rw [decide_eq_false fun z => by simpa using h4.mpr z]; rfl
mutual
theorem eqv_self : ∀ p : PyData, p.canLay0 = true → PyData.eqv p p = true
  | .none, _ => rfl
  | .bool b, _ => by simp [PyData.eqv]
  | .int i, _ => by simp [PyData.eqv]
  | .str x, _ => by simp [PyData.eqv]
  | .list xs, h => by rw [PyData.eqv]; exact eqvs_self xs (by simpa [PyData.canLay0] using h)
  | .tuple xs, h => by rw [PyData.eqv]; exact eqvs_self xs (by simpa [PyData.canLay0] using h)
  | .dict _, h => by simp [PyData.canLay0] at h
theorem eqvs_self : ∀ ps : List PyData, PyData.canLayAll0 ps = true → PyData.eqvAll ps ps = true
  | [], _ => rfl
  | p :: ps, h => by
    have k : p.canLay0 = true ∧ PyData.canLayAll0 ps = true := by simpa [PyData.canLayAll0] using h
    rw [PyData.eqvAll, eqv_self p k.1, eqvs_self ps k.2]; rfl
end
theorem dNe_nil {l : List D} (h : ∀ d, d ∈ l → Cmp d) : dNe (.lst l) (.lst []) = some (.bl (!decide (l = []))) := by
  show (eqP _ _).map _ = _
  rw [eqP_nil h]; rfl
theorem dEqS_nil {j : Nat} {l : List D} (hj : S[j]? = some (.lst l)) (h : ∀ d, d ∈ l → Cmp d) : dEqS S (.loc j) (.lst []) = some (.bl (decide (l = []))) := by
  unfold dEqS eqS rsv
  simp only [hj]
  rw [eqP_nil h]; rfl
def iL (ps : List Nat) : List D := ps.map fun i : Nat => D.int (i : Int)
theorem cmp_iL (ps : List Nat) : ∀ d, d ∈ iL ps → Cmp d := by
  intro d hd
  obtain ⟨i, _, rfl⟩ := List.mem_map.mp hd
  exact cmp_int _
theorem enum_at {l : List D} {i : Nat} (h : (enumD l)[i]? = some d) : ∃ x, l[i]? = some x ∧ d = .tup [.int (i : Nat), x] := by
  have hl := (List.getElem?_eq_some_iff.mp h).1
  rw [enumD_len] at hl
  refine ⟨l[i], List.getElem?_eq_getElem hl, ?_⟩
  have := enumD_get (List.getElem?_eq_getElem hl)
  rw [this] at h
  exact (Option.some.inj h).symm
theorem wr_gSq_tup (i : Nat) (r : GMs) (l : List D) : Wr (gSq i r (.tup l) e S) QE X = (l.length = i ∧ Wr (r l e S) QE X) := by
  show Wr (if l.length = i then _ else _) QE X = _
  rw [wr_guard]
theorem wr_gSq_lst (i : Nat) (r : GMs) (l : List D) : Wr (gSq i r (.lst l) e S) QE X = (l.length = i ∧ Wr (r l e S) QE X) := by
  show Wr (if l.length = i then _ else _) QE X = _
  rw [wr_guard]
theorem wr_gStr_loc (i : Nat) (r : GMs) {j : Nat} {l : List D} (h : S[j]? = some (.lst l)) : Wr (gStr i r (.loc j) e S) QE X = (i ≤ l.length ∧ Wr (r (l.take i ++ [.lst (l.drop i)]) e S) QE X) := by
  unfold gStr; simp only [h]
  unfold starR
  rw [wr_guard]
theorem tbS_of {i : Nat} {p : Str × Option Str} {q : Str} (h : S[i]? = some (.tbl p q)) : tbS i p q S = true := by
  unfold tbS; rw [h]; simp
end
end G
namespace G
open PySem
section
variable {Q : D → Store → Prop} {QE : En → Store → Prop} {X : D → Store → Prop} {k : KS} {e : En} {S S1 : Store} {a b c : EM} {x y d : D} {z : Bool} {xs ds : List D}
def lnP (Q : QP D) (S : Store) (o : Option (List D)) : Prop := match o with
  | some l => Q (.loc S.length) (S ++ [.lst l])
  | none => False
def lnQ (Q : QP D) : QP D := fun d S => lnP Q S (seqT S d)
theorem lnQ_lst (l : List D) : lnQ Q (.lst l) S = Q (.loc S.length) (S ++ [.lst l]) := rfl
theorem lnQ_tup (l : List D) : lnQ Q (.tup l) S = Q (.loc S.length) (S ++ [.lst l]) := rfl
theorem wr_eListN : Wr (eListN a e S) Q X = Wr (a e S) (lnQ Q) X := by
  unfold eListN
  rw [wr_bind]
  congr; funext d S1
  unfold lnQ
  rw [wr_bind]
  cases seqT S1 d <;> rfl
def rvP (Q : QP D) (S : Store) (o : Option (List D)) : Prop := match o with
  | some l => Q (.lst l.reverse) S
  | none => False
def rvQ (Q : QP D) : QP D := fun d S => rvP Q S (seqD S d)
theorem rvQ_lst (l : List D) : rvQ Q (.lst l) S = Q (.lst l.reverse) S := rfl
theorem wr_eRev : Wr (eRev a e S) Q X = Wr (a e S) (rvQ Q) X := by
  unfold eRev
  rw [wr_bind]
  congr; funext d S1
  unfold rvQ
  rw [wr_bind]
  cases seqD S1 d <;> rfl
def rfQ (cn f : Nat) (e : En) (k : KS) : QP D := fun d S => k.ex (.exc cn [(f, d)]) e S
theorem rfQ_s (cn f : Nat) : rfQ cn f e k d S = k.ex (.exc cn [(f, d)]) e S := rfl
theorem ws_sRaiseF (cn f : Nat) : Ws (sRaiseF cn f a e S) k = Wr (a e S) (rfQ cn f e k) (k.xe e) := by
  unfold sRaiseF; rw [ws_sE]; rfl
end
end G
namespace G
open PySem
section
variable {Q : D → Store → Prop} {QE : En → Store → Prop} {X : D → Store → Prop} {k : KS} {e : En} {S S1 : Store} {a b c : EM} {m n : SM} {x y d : D} {z : Bool} {xs ds : List D}
def KS.trG (k : KS) (hs : List HdM) : KS := ⟨k.nx, k.rt, k.bk, k.ct, fun x e S => match x with
  | .exc cn fs => Ws (hdR hs cn fs e S) k
  | _ => False⟩
theorem trG_nx (hs : List HdM) : (k.trG hs).nx = k.nx := rfl
theorem trG_rt (hs : List HdM) : (k.trG hs).rt = k.rt := rfl
theorem trG_bk (hs : List HdM) : (k.trG hs).bk = k.bk := rfl
theorem trG_ct (hs : List HdM) : (k.trG hs).ct = k.ct := rfl
theorem trG_ex (hs : List HdM) (cn : Nat) (fs : List (Nat × D)) : (k.trG hs).ex (.exc cn fs) e S = Ws (hdR hs cn fs e S) k := rfl
theorem ws_sTryG (hs : List HdM) : Ws (sTryG hs m e S) k = Ws (m e S) (k.trG hs) := by
  unfold sTryG
  cases m e S with
  | exc x e1 S1 => cases x <;> rfl
  | _ => rfl
theorem ws_hd_nil (cn : Nat) (fs : List (Nat × D)) : Ws (hdR [] cn fs e S) k = k.ex (.exc cn fs) e S := rfl
def hdP (o : Option Bool) (a b : Prop) : Prop := match o with
  | some true => a
  | some false => b
  | none => False
theorem hdP_t (a b : Prop) : hdP (some true) a b = a := rfl
theorem hdP_f (a b : Prop) : hdP (some false) a b = b := rfl
theorem ws_hd_cons (ts : List (Nat → Option Bool)) (oi : Option Nat) (r : List HdM) (cn : Nat) (fs : List (Nat × D)) : Ws (hdR ((ts, oi, n) :: r) cn fs e S) k = hdP (tbAny ts cn) (Ws (sSuO oi (n (setO e oi (.exc cn fs)) S)) k) (Ws (hdR r cn fs e S) k) := by
  rw [hdR]
  cases tbAny ts cn with
  | none => rfl
  | some b => cases b <;> rfl
theorem setO_some (i : Nat) : setO e (some i) d = e.set i (some d) := rfl
theorem setO_none : setO e none d = e := rfl
theorem ws_suS (i : Nat) {r : SRes} : Ws (sSuO (some i) r) k = Ws r (k.su i) := by cases r <;> rfl
def KS.suN (k : KS) : KS := ⟨k.nx, k.rt, k.bk, k.ct, fun _ _ _ => False⟩
theorem suN_nx : k.suN.nx = k.nx := rfl
theorem suN_rt : k.suN.rt = k.rt := rfl
theorem suN_bk : k.suN.bk = k.bk := rfl
theorem suN_ct : k.suN.ct = k.ct := rfl
theorem ws_suN {r : SRes} : Ws (sSuO none r) k = Ws r k.suN := by cases r <;> rfl
def iyQ (tb : Nat → Option Bool) (Q X : QP D) : QP D := fun x S => Wr (lf ((isY tb x).map .bl) S) Q X
theorem iyQ_s (tb : Nat → Option Bool) : iyQ tb Q X x S = Wr (lf ((isY tb x).map .bl) S) Q X := rfl
theorem wr_eIsY (tb : Nat → Option Bool) : Wr (eIsY tb a e S) Q X = Wr (a e S) (iyQ tb Q X) X := by unfold eIsY; rw [wr_bind]; rfl
theorem isY_exc (tb : Nat → Option Bool) (cn : Nat) (fs : List (Nat × D)) : isY tb (.exc cn fs) = tb cn := rfl
def fyQ (cs : List Nat) (f : Nat) (Q X : QP D) : QP D := fun x S => Wr (lf (fldY cs f x) S) Q X
theorem fyQ_s (cs : List Nat) (f : Nat) : fyQ cs f Q X x S = Wr (lf (fldY cs f x) S) Q X := rfl
theorem wr_eFldY (cs : List Nat) (f : Nat) : Wr (eFldY cs f a e S) Q X = Wr (a e S) (fyQ cs f Q X) X := by unfold eFldY; rw [wr_bind]; rfl
theorem fldY_exc (cs : List Nat) (f cn : Nat) (fs : List (Nat × D)) : fldY cs f (.exc cn fs) = if cs.contains cn then fs.lookup f else none := rfl
def toQ (y : Ty) (Q X : QP D) : QP D := fun x S => Wr (lf ((isTyO S y x).map .bl) S) Q X
theorem toQ_s (t : Ty) : toQ t Q X x S = Wr (lf ((isTyO S t x).map .bl) S) Q X := rfl
theorem wr_eIsTyO (t : Ty) : Wr (eIsTyO t a e S) Q X = Wr (a e S) (toQ t Q X) X := by unfold eIsTyO; rw [wr_bind]; rfl
theorem isTyO_tup (t : Ty) (l : List D) : isTyO S t (.tup l) = some (Tn.tuple.is t) := rfl
theorem isTyO_lst (t : Ty) (l : List D) : isTyO S t (.lst l) = some (Tn.list.is t) := rfl
theorem isTyO_int (t : Ty) (i : Int) : isTyO S t (.int i) = some (Tn.int.is t) := rfl
end
end G
namespace G
open PySem
section
variable {QD : D → Store → Prop} {QL : List D → Store → Prop} {X : D → Store → Prop} {e : En} {S S1 : Store} {a b c : EM} {am : AM} {x y d : D} {xs ds : List D}
def tm2 (f : Store → D → List D → Option D) (z : Str) (Q : QP D) (X : QP D) : QP (List D) := fun xs S => Wr (lf (f S (.str z) xs) S) Q X
theorem tm2_s (f : Store → D → List D → Option D) (z : Str) : tm2 f z QD X xs S = Wr (lf (f S (.str z) xs) S) QD X := rfl
def tm1 (f : Store → D → List D → Option D) (m : AM) (e : En) (Q X : QP D) : QP D := fun x S => match x with
  | .str z => Wr (m e S) (tm2 f z Q X) X
  | _ => False
theorem tm1_s (f : Store → D → List D → Option D) (z : Str) : tm1 f am e QD X (.str z) S = Wr (am e S) (tm2 f z QD X) X := rfl
theorem wr_eTm (f : Store → D → List D → Option D) : Wr (eTm f a am e S) QD X = Wr (a e S) (tm1 f am e QD X) X := by
  unfold eTm; rw [wr_bind]; congr; funext x S1
  cases x <;> first | rfl | (rw [wr_bind]; rfl) | (rw [wr_stuck]; rfl)
def rgQN (Q : List D → Store → Prop) : QP (List D) := fun ds S => match ds with
  | [.int i, .int j, .int (.negSucc 0)] => (-(2 ^ 62) ≤ i ∧ i < 2 ^ 62 ∧ -(2 ^ 62) ≤ j ∧ j < 2 ^ 62) ∧ Q (rangeN i (i - j).toNat) S
  | _ => False
theorem rgQN_int (i j : Int) : rgQN QL [.int i, .int j, .int (-1)] S = ((-(2 ^ 62) ≤ i ∧ i < 2 ^ 62 ∧ -(2 ^ 62) ≤ j ∧ j < 2 ^ 62) ∧ QL (rangeN i (i - j).toNat) S) := rfl
theorem wr_iRgN : Wr (iRgN am e S) QL X = Wr (am e S) (rgQN QL) X := by
  unfold iRgN; rw [wr_bind]; congr; funext ds S1
  by_cases h : ∃ i j, ds = [.int i, .int j, .int (-1)]
  · obtain ⟨i, j, rfl⟩ := h
    show Wr (if _ then _ else _) _ _ = _
    rw [wr_guard]; rfl
  · unfold rgQN
    split
    · exact absurd ⟨_, _, rfl⟩ h
    · rw [wr_stuck]
      try (split <;> first | exact absurd ⟨_, _, rfl⟩ h | rfl)
end
end G
namespace G
open PySem
section
variable {Q X : QP D} {QB : QP Bool} {QL : QP (List D)} {QE : QP En} {k : KS} {e : En} {S S1 S2 : Store} {a b c o : EM} {t u : TM} {m n : SM} {am mk : AM} {x y d : D} {z : Bool} {xs ds zs : List D} {g g1 g2 g3 : GM}
def dy (I : QP (List (List Int))) (acc : List (List Int)) : QP D := fun y S => match intsK y with
  | some l => acc.length < sizeLine ∧ I (addK acc l) S
  | none => False
end
end G
namespace G
open PySem
section
variable {QD : QP D} {X : QP D} {e : En} {S : Store} {a b : EM} {x y : D} {f : FM} {gD : List D → List D → List D}
def in2 (x : D) (Q X : QP D) : QP (List D) := fun xs S => Wr (insR x xs S) Q X
def in1 (am : AM) (e : En) (Q X : QP D) : QP D := fun x S => isLst S x = true ∧ Wr (am e S) (in2 x Q X) X
end
end G
namespace G
open PySem
end G
namespace G
open PySem
end G
namespace G
open PySem
end G
namespace G
open PySem
end G
namespace G
open PySem
end G
namespace G
open PySem
abbrev HL := List (Nat × Cell)
def Sep (S : Store) (L : HL) : Prop := (∀ p, p ∈ L → S[p.1]? = some p.2) ∧ (L.map (·.1)).Nodup
section
variable {S : Store} {L L1 L2 L3 : HL} {n m : Nat} {c c' : Cell}
theorem Sep.get (h : Sep S L) (q : (n, c) ∈ L) : S[n]? = some c := h.1 _ q
theorem Sep.lt (h : Sep S L) (q : n ∈ L.map (·.1)) : n < S.length := by
  obtain ⟨p, hp, rfl⟩ := List.mem_map.mp q
  exact (List.getElem?_eq_some_iff.mp (h.1 p hp)).1
theorem Sep.nil : Sep S [] := ⟨fun _ h => (by cases h), by simp⟩
theorem Sep.sub (h : Sep S L) (p : L1.Sublist L) : Sep S L1 := ⟨fun q hq => h.1 q (p.subset hq), List.Nodup.sublist (p.map _) h.2⟩
theorem Sep.hd (h : Sep S ((n, c) :: L2)) : S[n]? = some c := h.get (by simp)
theorem Sep.app (h : Sep S L) (cs : List Cell) : Sep (S ++ cs) L := ⟨fun p hp => by
  rw [List.getElem?_append_left (h.lt (List.mem_map_of_mem hp))]; exact h.1 p hp, h.2⟩
theorem Sep.cons (h : Sep S L) (hc : S[n]? = some c) (hn : n ∉ L.map (·.1)) : Sep S ((n, c) :: L) := ⟨fun p hp => by
  rcases List.mem_cons.mp hp with rfl | hp
  · exact hc
  · exact h.1 p hp, by rw [List.map_cons]; exact List.nodup_cons.mpr ⟨hn, h.2⟩⟩
theorem Sep.keep {S' : Store} (h : Sep S L) (k : ∀ p, p ∈ L → S'[p.1]? = S[p.1]?) : Sep S' L := ⟨fun p hp => by rw [k p hp]; exact h.1 p hp, h.2⟩
end
end G
namespace Wk14
open PySem L2 G
noncomputable section
abbrev n__law_r : List Str := ["_law_top_here", "_law_bottom", "_law_one", "_law_rest"]
abbrev p__law_r : List Str := ["_law_top_here", "_law_bottom"]
theorem sc__law_r : FnScope n__law_r p__law_r (defScope s__law_r) := ⟨rfl, rfl, rfl, by decide +kernel, rfl, by decide +kernel, by decide +kernel⟩
abbrev n__law_add : List Str := ["_law_one", "_law_other"]
abbrev p__law_add : List Str := ["_law_one", "_law_other"]
theorem sc__law_add : FnScope n__law_add p__law_add (defScope s__law_add) := ⟨rfl, rfl, rfl, by decide +kernel, rfl, by decide +kernel, by decide +kernel⟩
abbrev n__law_cell : List Str := ["_law_script", "_law_k", "_law_state", "_law_cell_here"]
abbrev p__law_cell : List Str := ["_law_script", "_law_k"]
theorem sc__law_cell : FnScope n__law_cell p__law_cell (defScope s__law_cell) := ⟨rfl, rfl, rfl, by decide +kernel, rfl, by decide +kernel, by decide +kernel⟩
abbrev n__law_far : List Str := ["_law_rows", "_law_some", "_law_far_here", "_law_size", "_law_low", "_law_high", "_law_heft", "_law_tags", "_law_tag"]
abbrev p__law_far : List Str := ["_law_rows"]
theorem sc__law_far : FnScope n__law_far p__law_far (defScope s__law_far) := ⟨rfl, rfl, rfl, by decide +kernel, rfl, by decide +kernel, by decide +kernel⟩
abbrev n__law_later : List Str := ["_law_rows", "_law_when", "_law_some", "_law_size", "_law_low", "_law_high", "_law_heft", "_law_tags", "_law_later_here"]
abbrev p__law_later : List Str := ["_law_rows", "_law_when"]
theorem sc__law_later : FnScope n__law_later p__law_later (defScope s__law_later) := ⟨rfl, rfl, rfl, by decide +kernel, rfl, by decide +kernel, by decide +kernel⟩
abbrev n__law_pool : List Str := ["_law_cell_here", "_law_digits"]
abbrev p__law_pool : List Str := ["_law_cell_here"]
theorem sc__law_pool : FnScope n__law_pool p__law_pool (defScope s__law_pool) := ⟨rfl, rfl, rfl, by decide +kernel, rfl, by decide +kernel, by decide +kernel⟩
abbrev n_is_whole_ratios : List Str := ["thing"]
abbrev p_is_whole_ratios : List Str := ["thing"]
theorem sc_is_whole_ratios : FnScope n_is_whole_ratios p_is_whole_ratios (defScope s_is_whole_ratios) := ⟨rfl, rfl, rfl, by decide +kernel, rfl, by decide +kernel, by decide +kernel⟩
abbrev n_shared : List Str := ["one", "other"]
abbrev p_shared : List Str := ["one", "other"]
theorem sc_shared : FnScope n_shared p_shared (defScope s_shared) := ⟨rfl, rfl, rfl, by decide +kernel, rfl, by decide +kernel, by decide +kernel⟩
abbrev n_is_ratio : List Str := ["thing", "top", "bottom", "part"]
abbrev p_is_ratio : List Str := ["thing"]
theorem sc_is_ratio : FnScope n_is_ratio p_is_ratio (defScope s_is_ratio) := ⟨rfl, rfl, rfl, by decide +kernel, rfl, by decide +kernel, by decide +kernel⟩
abbrev n_check_ratio : List Str := ["thing"]
abbrev p_check_ratio : List Str := ["thing"]
theorem sc_check_ratio : FnScope n_check_ratio p_check_ratio (defScope s_check_ratio) := ⟨rfl, rfl, rfl, by decide +kernel, rfl, by decide +kernel, by decide +kernel⟩
abbrev n_show_ratio : List Str := ["one", "top", "bottom"]
abbrev p_show_ratio : List Str := ["one"]
theorem sc_show_ratio : FnScope n_show_ratio p_show_ratio (defScope s_show_ratio) := ⟨rfl, rfl, rfl, by decide +kernel, rfl, by decide +kernel, by decide +kernel⟩
abbrev n_rate_text : List Str := ["rate"]
abbrev p_rate_text : List Str := ["rate"]
theorem sc_rate_text : FnScope n_rate_text p_rate_text (defScope s_rate_text) := ⟨rfl, rfl, rfl, by decide +kernel, rfl, by decide +kernel, by decide +kernel⟩
abbrev n_Client___str__ : List Str := ["self"]
abbrev p_Client___str__ : List Str := ["self"]
theorem sc_Client___str__ : FnScope n_Client___str__ p_Client___str__ (defScope s_Client___str__) := ⟨rfl, rfl, rfl, by decide +kernel, rfl, by decide +kernel, by decide +kernel⟩
abbrev n_Client___repr__ : List Str := ["self"]
abbrev p_Client___repr__ : List Str := ["self"]
theorem sc_Client___repr__ : FnScope n_Client___repr__ p_Client___repr__ (defScope s_Client___repr__) := ⟨rfl, rfl, rfl, by decide +kernel, rfl, by decide +kernel, by decide +kernel⟩
abbrev n__law_by : List Str := ["_law_one", "_law_other"]
abbrev p__law_by : List Str := ["_law_one", "_law_other"]
theorem sc__law_by : FnScope n__law_by p__law_by (defScope s__law_by) := ⟨rfl, rfl, rfl, by decide +kernel, rfl, by decide +kernel, by decide +kernel⟩
abbrev n__law_less : List Str := ["_law_one", "_law_other"]
abbrev p__law_less : List Str := ["_law_one", "_law_other"]
theorem sc__law_less : FnScope n__law_less p__law_less (defScope s__law_less) := ⟨rfl, rfl, rfl, by decide +kernel, rfl, by decide +kernel, by decide +kernel⟩
abbrev n__law_can : List Str := ["_law_rows", "_law_when", "_law_low", "_law_k"]
abbrev p__law_can : List Str := ["_law_rows", "_law_when"]
theorem sc__law_can : FnScope n__law_can p__law_can (defScope s__law_can) := ⟨rfl, rfl, rfl, by decide +kernel, rfl, by decide +kernel, by decide +kernel⟩
abbrev n__law_first : List Str := ["_law_rows", "_law_places", "_law_deed", "_law_best", "_law_place"]
abbrev p__law_first : List Str := ["_law_rows", "_law_places", "_law_deed"]
theorem sc__law_first : FnScope (n__law_first ++ ph4) p__law_first (defScope s__law_first) := ⟨rfl, rfl, rfl, by decide +kernel, rfl, by decide +kernel, by decide +kernel⟩
abbrev n__law_top : List Str := ["_law_one", "_law_other"]
abbrev p__law_top : List Str := ["_law_one", "_law_other"]
theorem sc__law_top : FnScope n__law_top p__law_top (defScope s__law_top) := ⟨rfl, rfl, rfl, by decide +kernel, rfl, by decide +kernel, by decide +kernel⟩
abbrev n__law_choice_of : List Str := ["_law_rows", "_law_when", "_law_speed", "_law_low", "_law_free_ones", "_law_spots", "_law_row"]
abbrev p__law_choice_of : List Str := ["_law_rows", "_law_when", "_law_speed"]
theorem sc__law_choice_of : FnScope n__law_choice_of p__law_choice_of (defScope s__law_choice_of) := ⟨rfl, rfl, rfl, by decide +kernel, rfl, by decide +kernel, by decide +kernel⟩
abbrev n_check_two : List Str := ["one", "other"]
abbrev p_check_two : List Str := ["one", "other"]
theorem sc_check_two : FnScope n_check_two p_check_two (defScope s_check_two) := ⟨rfl, rfl, rfl, by decide +kernel, rfl, by decide +kernel, by decide +kernel⟩
abbrev n_is_before : List Str := ["one", "other"]
abbrev p_is_before : List Str := ["one", "other"]
theorem sc_is_before : FnScope n_is_before p_is_before (defScope s_is_before) := ⟨rfl, rfl, rfl, by decide +kernel, rfl, by decide +kernel, by decide +kernel⟩
abbrev n_is_none : List Str := ["pair", "part"]
abbrev p_is_none : List Str := ["pair"]
theorem sc_is_none : FnScope n_is_none p_is_none (defScope s_is_none) := ⟨rfl, rfl, rfl, by decide +kernel, rfl, by decide +kernel, by decide +kernel⟩
abbrev n_is_rate : List Str := ["thing"]
abbrev p_is_rate : List Str := ["thing"]
theorem sc_is_rate : FnScope n_is_rate p_is_rate (defScope s_is_rate) := ⟨rfl, rfl, rfl, by decide +kernel, rfl, by decide +kernel, by decide +kernel⟩
abbrev n_is_least : List Str := ["thing"]
abbrev p_is_least : List Str := ["thing"]
theorem sc_is_least : FnScope n_is_least p_is_least (defScope s_is_least) := ⟨rfl, rfl, rfl, by decide +kernel, rfl, by decide +kernel, by decide +kernel⟩
abbrev n_is_name : List Str := ["thing", "sign"]
abbrev p_is_name : List Str := ["thing"]
theorem sc_is_name : FnScope n_is_name p_is_name (defScope s_is_name) := ⟨rfl, rfl, rfl, by decide +kernel, rfl, by decide +kernel, by decide +kernel⟩
abbrev n_is_weight : List Str := ["thing"]
abbrev p_is_weight : List Str := ["thing"]
theorem sc_is_weight : FnScope n_is_weight p_is_weight (defScope s_is_weight) := ⟨rfl, rfl, rfl, by decide +kernel, rfl, by decide +kernel, by decide +kernel⟩
abbrev n_Client___init__ : List Str := ["self", "name", "least", "most", "weight"]
abbrev p_Client___init__ : List Str := ["self", "name", "least", "most", "weight"]
theorem sc_Client___init__ : FnScope n_Client___init__ p_Client___init__ (defScope s_Client___init__) := ⟨rfl, rfl, rfl, by decide +kernel, rfl, by decide +kernel, by decide +kernel⟩
abbrev n__law_told_rivals : List Str := ["_law_rows", "_law_some", "_law_k", "_law_size", "_law_low", "_law_high", "_law_heft", "_law_tags"]
abbrev p__law_told_rivals : List Str := ["_law_rows"]
theorem sc__law_told_rivals : FnScope n__law_told_rivals p__law_told_rivals (defScope s__law_told_rivals) := ⟨rfl, rfl, rfl, by decide +kernel, rfl, by decide +kernel, by decide +kernel⟩
abbrev n_is_time : List Str := ["thing"]
abbrev p_is_time : List Str := ["thing"]
theorem sc_is_time : FnScope n_is_time p_is_time (defScope s_is_time) := ⟨rfl, rfl, rfl, by decide +kernel, rfl, by decide +kernel, by decide +kernel⟩
abbrev n_are_tags : List Str := ["thing", "one"]
abbrev p_are_tags : List Str := ["thing"]
theorem sc_are_tags : FnScope n_are_tags p_are_tags (defScope s_are_tags) := ⟨rfl, rfl, rfl, by decide +kernel, rfl, by decide +kernel, by decide +kernel⟩
abbrev n_is_whole_picks : List Str := ["thing", "low", "high"]
abbrev p_is_whole_picks : List Str := ["thing", "low", "high"]
theorem sc_is_whole_picks : FnScope n_is_whole_picks p_is_whole_picks (defScope s_is_whole_picks) := ⟨rfl, rfl, rfl, by decide +kernel, rfl, by decide +kernel, by decide +kernel⟩
abbrev n_is_rival : List Str := ["thing", "size", "client", "tags"]
abbrev p_is_rival : List Str := ["thing"]
theorem sc_is_rival : FnScope n_is_rival p_is_rival (defScope s_is_rival) := ⟨rfl, rfl, rfl, by decide +kernel, rfl, by decide +kernel, by decide +kernel⟩
abbrev n_check_rivals : List Str := ["thing", "place", "rival"]
abbrev p_check_rivals : List Str := ["thing"]
theorem sc_check_rivals : FnScope n_check_rivals p_check_rivals (defScope s_check_rivals) := ⟨rfl, rfl, rfl, by decide +kernel, rfl, by decide +kernel, by decide +kernel⟩
abbrev n_check_time : List Str := ["thing"]
abbrev p_check_time : List Str := ["thing"]
theorem sc_check_time : FnScope n_check_time p_check_time (defScope s_check_time) := ⟨rfl, rfl, rfl, by decide +kernel, rfl, by decide +kernel, by decide +kernel⟩
abbrev n_check_pick : List Str := ["rivals", "now", "pace"]
abbrev p_check_pick : List Str := ["rivals", "now", "pace"]
theorem sc_check_pick : FnScope n_check_pick p_check_pick (defScope s_check_pick) := ⟨rfl, rfl, rfl, by decide +kernel, rfl, by decide +kernel, by decide +kernel⟩
abbrev n_by_clock : List Str := ["rival", "now", "size", "client", "tags"]
abbrev p_by_clock : List Str := ["rival", "now"]
theorem sc_by_clock : FnScope n_by_clock p_by_clock (defScope s_by_clock) := ⟨rfl, rfl, rfl, by decide +kernel, rfl, by decide +kernel, by decide +kernel⟩
abbrev n_by_gate : List Str := ["rival", "now", "size", "client", "tags"]
abbrev p_by_gate : List Str := ["rival", "now"]
theorem sc_by_gate : FnScope n_by_gate p_by_gate (defScope s_by_gate) := ⟨rfl, rfl, rfl, by decide +kernel, rfl, by decide +kernel, by decide +kernel⟩
abbrev n_first_of : List Str := ["rivals", "places", "key", "best", "others", "place"]
abbrev p_first_of : List Str := ["rivals", "places", "key"]
theorem sc_first_of : FnScope (n_first_of ++ ph4) p_first_of (defScope s_first_of) := ⟨rfl, rfl, rfl, by decide +kernel, rfl, by decide +kernel, by decide +kernel⟩
abbrev n_greater : List Str := ["one", "other"]
abbrev p_greater : List Str := ["one", "other"]
theorem sc_greater : FnScope n_greater p_greater (defScope s_greater) := ⟨rfl, rfl, rfl, by decide +kernel, rfl, by decide +kernel, by decide +kernel⟩
abbrev n_next_moment : List Str := ["rivals", "spots", "found", "others", "spot", "size", "client", "tags"]
abbrev p_next_moment : List Str := ["rivals"]
theorem sc_next_moment : FnScope n_next_moment p_next_moment (defScope s_next_moment) := ⟨rfl, rfl, rfl, by decide +kernel, rfl, by decide +kernel, by decide +kernel⟩
abbrev n_lowest : List Str := ["top", "bottom", "part"]
abbrev p_lowest : List Str := ["top", "bottom"]
theorem sc_lowest : FnScope n_lowest p_lowest (defScope s_lowest) := ⟨rfl, rfl, rfl, by decide +kernel, rfl, by decide +kernel, by decide +kernel⟩
abbrev n_added : List Str := ["one", "other", "top", "bottom", "more", "under"]
abbrev p_added : List Str := ["one", "other"]
theorem sc_added : FnScope n_added p_added (defScope s_added) := ⟨rfl, rfl, rfl, by decide +kernel, rfl, by decide +kernel, by decide +kernel⟩
abbrev n_ratio : List Str := ["top", "bottom"]
abbrev p_ratio : List Str := ["top", "bottom"]
theorem sc_ratio : FnScope n_ratio p_ratio (defScope s_ratio) := ⟨rfl, rfl, rfl, by decide +kernel, rfl, by decide +kernel, by decide +kernel⟩
abbrev n_parted : List Str := ["one", "other"]
abbrev p_parted : List Str := ["one", "other"]
theorem sc_parted : FnScope n_parted p_parted (defScope s_parted) := ⟨rfl, rfl, rfl, by decide +kernel, rfl, by decide +kernel, by decide +kernel⟩
abbrev n_due_of : List Str := ["tags", "size", "client"]
abbrev p_due_of : List Str := ["tags", "size", "client"]
theorem sc_due_of : FnScope n_due_of p_due_of (defScope s_due_of) := ⟨rfl, rfl, rfl, by decide +kernel, rfl, by decide +kernel, by decide +kernel⟩
abbrev n_rival_due : List Str := ["rival", "size", "client", "tags"]
abbrev p_rival_due : List Str := ["rival"]
theorem sc_rival_due : FnScope n_rival_due p_rival_due (defScope s_rival_due) := ⟨rfl, rfl, rfl, by decide +kernel, rfl, by decide +kernel, by decide +kernel⟩
abbrev n_picked_of : List Str := ["rivals", "now", "pace", "places", "place", "rival"]
abbrev p_picked_of : List Str := ["rivals", "now", "pace"]
theorem sc_picked_of : FnScope n_picked_of p_picked_of (defScope s_picked_of) := ⟨rfl, rfl, rfl, by decide +kernel, rfl, by decide +kernel, by decide +kernel⟩
abbrev n_picked : List Str := ["rivals", "now", "pace"]
abbrev p_picked : List Str := ["rivals", "now", "pace"]
theorem sc_picked : FnScope n_picked p_picked (defScope s_picked) := ⟨rfl, rfl, rfl, by decide +kernel, rfl, by decide +kernel, by decide +kernel⟩
abbrev n__law_right : List Str := ["_law_rows", "_law_when", "_law_speed", "_law_told_ones", "_law_shown", "_law_due", "_law_came"]
abbrev p__law_right : List Str := ["_law_rows", "_law_when", "_law_speed"]
theorem sc__law_right : FnScope n__law_right p__law_right (defScope s__law_right) := ⟨rfl, rfl, rfl, by decide +kernel, rfl, by decide +kernel, by decide +kernel⟩
abbrev n__law_sub : List Str := ["_law_one", "_law_other"]
abbrev p__law_sub : List Str := ["_law_one", "_law_other"]
theorem sc__law_sub : FnScope n__law_sub p__law_sub (defScope s__law_sub) := ⟨rfl, rfl, rfl, by decide +kernel, rfl, by decide +kernel, by decide +kernel⟩
abbrev n__law_take : List Str := ["_law_pool_here", "_law_many", "_law_state", "_law_digit"]
abbrev p__law_take : List Str := ["_law_pool_here", "_law_many"]
theorem sc__law_take : FnScope n__law_take p__law_take (defScope s__law_take) := ⟨rfl, rfl, rfl, by decide +kernel, rfl, by decide +kernel, by decide +kernel⟩
abbrev n__law_near : List Str := ["_law_pool_here", "_law_spot", "_law_step", "_law_way"]
abbrev p__law_near : List Str := ["_law_pool_here", "_law_spot"]
theorem sc__law_near : FnScope n__law_near p__law_near (defScope s__law_near) := ⟨rfl, rfl, rfl, by decide +kernel, rfl, by decide +kernel, by decide +kernel⟩
abbrev n__law_rate : List Str := ["_law_pool_here", "_law_bottom"]
abbrev p__law_rate : List Str := ["_law_pool_here"]
theorem sc__law_rate : FnScope n__law_rate p__law_rate (defScope s__law_rate) := ⟨rfl, rfl, rfl, by decide +kernel, rfl, by decide +kernel, by decide +kernel⟩
abbrev n__law_rivals : List Str := ["_law_pool_here", "_law_when", "_law_speed", "_law_rows", "_law_turn", "_law_low", "_law_high", "_law_tags"]
abbrev p__law_rivals : List Str := ["_law_pool_here", "_law_when", "_law_speed"]
theorem sc__law_rivals : FnScope n__law_rivals p__law_rivals (defScope s__law_rivals) := ⟨rfl, rfl, rfl, by decide +kernel, rfl, by decide +kernel, by decide +kernel⟩
abbrev n_law : List Str := ["_law_script", "_law_k", "_law_pool_here", "_law_when", "_law_speed", "_law_turn", "_law_rows"]
abbrev p_law : List Str := ["_law_script"]
theorem sc_law : FnScope n_law p_law (defScope s_law) := ⟨rfl, rfl, rfl, by decide +kernel, rfl, by decide +kernel, by decide +kernel⟩
def g_Client___str___1_ : List D → List D → List D := fun ds es => [(ds.getD 0 .non)]
def g_Client___repr___1_ : List D → List D → List D := fun ds es => [(ds.getD 0 .non)]
def g_picked_0_pace_now_rivals : List D → List D → List D := fun ds es => [(es.getD 2 .non), (es.getD 1 .non), (es.getD 0 .non)]
theorem sc_NoRate___init__ : FnScope ["self", "rate"] ["self", "rate"] (defScope s_NoRate___init__) := ⟨rfl, rfl, rfl, by decide +kernel, rfl, by decide +kernel, by decide +kernel⟩
theorem sc_NoRivals___init__ : FnScope ["self", "place"] ["self", "place"] (defScope s_NoRivals___init__) := ⟨rfl, rfl, rfl, by decide +kernel, rfl, by decide +kernel, by decide +kernel⟩
def b__law_far (N : Nat) : SM := (sSeq (sAsg (eTup (aCons (eNew aNil) (aCons (eTup (aCons (eBin dPow (eC (.int 10)) (eC (.int 30))) (aCons (eC (.int 1)) aNil))) aNil))) (gSq 2 (gsCons' (gN 1) (gsCons' (gN 2) gsNil))))
    (sSeq (sForC (iCel (eVar 0)) (gSq 5 (gsCons' (gN 3) (gsCons' (gN 4) (gsCons' (gN 5) (gsCons' (gN 6) (gsCons' (gN 7) gsNil)))))) (sDrop (eApp (eVar 1) (aCons (eLst (aCons (eVar 3) (aCons (eVar 4) (aCons (eVar 5) (aCons (eVar 6) (aCons (eCa fTuple (aCons (eLc (iSeq (eVar 7)) (.nm 8) tTrue (eCall (C.m__law_add N) (nA 2 (aCons (eVar 8) (aCons (eVar 2) aNil)))) [8]) aNil)) aNil)))))) aNil))))
    (sRet (eVar 1))))
def m__law_far (N : Nat) : FM := fnM 9 (b__law_far N)
def b__law_later (N : Nat) : SM := (sSeq (sSet 2 (eNew aNil))
    (sSeq (sForC (iCel (eVar 0)) (gSq 5 (gsCons' (gN 3) (gsCons' (gN 4) (gsCons' (gN 5) (gsCons' (gN 6) (gsCons' (gN 7) gsNil)))))) (sSeq (sSet 8 (eTup (aCons (eCall (C.m__law_add N) (nA 2 (aCons (eBinS ixD (eVar 7) (eC (.int 0))) (aCons (eCall (C.m__law_add N) (nA 2 (aCons (eVar 1) (aCons (eTup (aCons (eC (.int 1)) (aCons (eC (.int 3)) aNil))) aNil)))) aNil)))) (aCons (eCall (C.m__law_add N) (nA 2 (aCons (eBinS ixD (eVar 7) (eC (.int 1))) (aCons (eCall (C.m__law_add N) (nA 2 (aCons (eVar 1) (aCons (eTup (aCons (eC (.int 1)) (aCons (eC (.int 2)) aNil))) aNil)))) aNil)))) (aCons (eBinS ixD (eVar 7) (eC (.int 2))) aNil)))))
    (sDrop (eApp (eVar 2) (aCons (eLst (aCons (eVar 3) (aCons (eVar 4) (aCons (eIf (tB (eBin dIs (eVar 5) (eC .non))) (eTup (aCons (eC (.int 1)) (aCons (eC (.int 1)) aNil))) (eVar 5)) (aCons (eVar 6) (aCons (eVar 8) aNil)))))) aNil)))))
    (sRet (eVar 2))))
def m__law_later (N : Nat) : FM := fnM 9 (b__law_later N)
def b_show_ratio (N : Nat) : SM := (sSeq (sDrop (eCall (C.m_check_ratio N) (nA 1 (aCons (eVar 0) aNil))))
    (sSeq (sAsg (eVar 0) (gTp 2 (gsCons' (gN 1) (gsCons' (gN 2) gsNil))))
    (sSeq (sIf (tB (eBin dEq (eVar 2) (eC (.int 1)))) (sRet (eCa fStr (aCons (eVar 1) aNil))) sNop)
    (sRet (eJs [(eFmt (eVar 1)), (eC (.str "/")), (eFmt (eVar 2))])))))
def m_show_ratio (N : Nat) : FM := fnM 3 (b_show_ratio N)
def b_rate_text (N : Nat) : SM := (sSeq (sIf (tOr' (tB (eBin dIs (eVar 0) (eC .non))) (tB (eBin dEq (eVar 0) (eC (.tup [.int 0, .int 1]))))) (sRet (eC (.str "-"))) sNop)
    (sRet (eCall (m_show_ratio N) (nA 1 (aCons (eVar 0) aNil)))))
def m_rate_text (N : Nat) : FM := fnM 1 (b_rate_text N)
def b_Client___str__ (N : Nat) : SM := (sRet (eJs [(eFmt (eFld [33, 42, 44, 46] 0 (eVar 0))), (eC (.str " least ")), (eFmt (eCall (m_rate_text N) (nA 1 (aCons (eFld [33, 42] 1 (eVar 0)) aNil)))), (eC (.str " most ")), (eFmt (eCall (m_rate_text N) (nA 1 (aCons (eFld [33, 42] 2 (eVar 0)) aNil)))), (eC (.str " weight ")), (eFmt (eFld [33, 42, 44] 3 (eVar 0)))]))
def m_Client___str__ (N : Nat) : FM := fnM 1 (b_Client___str__ N)
def b_Client___repr__ (N : Nat) : SM := (sRet (eJs [(eC (.str "Client(")), (eFmt (eStrO 33 (m_Client___str__ N) g_Client___str___1_ (eVar 0))), (eC (.str ")"))]))
def m_Client___repr__ (N : Nat) : FM := fnM 1 (b_Client___repr__ N)
def b__law_can (N : Nat) : SM := (sSeq (sSet 2 (eLc (iRg1 (aCons (eCa fLen (aCons (eVar 0) aNil)) aNil)) (.nm 3) (tAn (tB (eBin dNe (eBinS ixD (eBinS ixD (eVar 0) (eVar 3)) (eC (.int 1))) (eTup (aCons (eC (.int 0)) (aCons (eC (.int 1)) aNil))))) (tNt (tT (eCall (C.m__law_less N) (nA 2 (aCons (eVar 1) (aCons (eBinS ixD (eBinS ixD (eBinS ixD (eVar 0) (eVar 3)) (eC (.int 4))) (eC (.int 0))) aNil))))))) (eVar 3) [3]))
    (sRet (eLst (aCons (eVar 2) (aCons (eLc (iRg1 (aCons (eCa fLen (aCons (eVar 0) aNil)) aNil)) (.nm 3) (tOr' (tB (eBin dIs (eBinS ixD (eBinS ixD (eVar 0) (eVar 3)) (eC (.int 2))) (eC .non))) (tNt (tT (eCall (C.m__law_less N) (nA 2 (aCons (eVar 1) (aCons (eBinS ixD (eBinS ixD (eBinS ixD (eVar 0) (eVar 3)) (eC (.int 4))) (eC (.int 1))) aNil))))))) (eVar 3) [3]) aNil)))))
def m__law_can (N : Nat) : FM := fnM 4 (b__law_can N)
def b__law_first (fv : Nat) (cp : List (Option D)) (fk : FM) (N : Nat) : SM := (sSeq (sSet 3 (eBinS ixD (eVar 1) (eC (.int 0))))
    (sSeq (sFor (iSeq (eVar 1)) (gN 4) (sIf (tT (eCall (C.m__law_less N) (nA 2 (aCons (eCallV 2 fv 5 cp fk (aCons (eBinS ixD (eVar 0) (eVar 4)) aNil)) (aCons (eCallV 2 fv 5 cp fk (aCons (eBinS ixD (eVar 0) (eVar 3)) aNil)) aNil))))) (sSet 3 (eVar 4)) sNop))
    (sRet (eVar 3))))
def m__law_first (fv : Nat) (cp : List (Option D)) (fk : FM) (N : Nat) : FM := fnH 5 cp (b__law_first fv cp fk N)
def b__law_choice_of (N : Nat) : SM := (sSeq (sAsg (eCall (m__law_can N) (nA 2 (aCons (eVar 0) (aCons (eVar 1) aNil)))) (gSq 2 (gsCons' (gN 3) (gsCons' (gN 4) gsNil))))
    (sSeq (sIf (tB (eBin dNe (eVar 3) (eLst aNil))) (sRet (eTup (aCons (eC (.str "least")) (aCons (eCallH (fun fv cp fk => m__law_first fv cp fk N) [] (lamF [] 1 (eCall (C.m__law_add N) (nA 2 (aCons (eBinS ixD (eBinS ixD (eVar 0) (eC (.int 4))) (eC (.int 0))) (aCons (eCall (C.m__law_by N) (nA 2 (aCons (eTup (aCons (eBinS ixD (eVar 0) (eC (.int 0))) (aCons (eC (.int 1)) aNil))) (aCons (eBinS ixD (eVar 0) (eC (.int 1))) aNil)))) aNil))))) (tbS 0 mk__law_choice_of.1 mk__law_choice_of.2) 2 (aCons (eVar 0) (aCons (eVar 3) aNil))) aNil)))) sNop)
    (sSeq (sIf (tB (eBin dNe (eVar 4) (eLst aNil))) (sRet (eTup (aCons (eC (.str "share")) (aCons (eCallH (fun fv cp fk => m__law_first fv cp fk N) [2] (lamF [2] 1 (eCall (C.m__law_top N) (nA 2 (aCons (eBinS ixD (eBinS ixD (eVar 0) (eC (.int 4))) (eC (.int 2))) (aCons (eVar 1) aNil))))) (tbS 0 mk__law_choice_of.1 mk__law_choice_of.2) 2 (aCons (eVar 0) (aCons (eVar 4) aNil))) aNil)))) sNop)
    (sSeq (sSet 5 (eBinS dAddS (eLcC (iCel (eVar 0)) (.nm 6) tTrue (eBinS ixD (eBinS ixD (eVar 6) (eC (.int 4))) (eC (.int 1))) [6]) (eLcC (iCel (eVar 0)) (.nm 6) (tB (eBin dNe (eBinS ixD (eVar 6) (eC (.int 1))) (eTup (aCons (eC (.int 0)) (aCons (eC (.int 1)) aNil))))) (eBinS ixD (eBinS ixD (eVar 6) (eC (.int 4))) (eC (.int 0))) [6])))
    (sRet (eTup (aCons (eC (.str "none")) (aCons (eIf (tB (eBin dNe (eVar 5) (eLst aNil))) (eBinS ixD (eVar 5) (eCallH (fun fv cp fk => m__law_first fv cp fk N) [] (lamF [] 1 (eVar 0)) (tbS 0 mk__law_choice_of.1 mk__law_choice_of.2) 2 (aCons (eVar 5) (aCons (eLr (eCa fLen (aCons (eVar 5) aNil))) aNil)))) (eC .non)) aNil))))))))
def m__law_choice_of (N : Nat) : FM := fnM 7 (b__law_choice_of N)
def b_Client___init__ (N : Nat) : SM := (sSeq (sIf (tNt (tT (eCall (C.m_is_name N) (nA 1 (aCons (eVar 1) aNil))))) (sRaise 5) sNop)
    (sSeq (sIf (tNt (tT (eCall (C.m_is_least N) (nA 1 (aCons (eVar 2) aNil))))) (sRaiseF 6 5 (eVar 2)) sNop)
    (sSeq (sIf (tAn (tB (eBin dIsNot (eVar 3) (eC .non))) (tOr' (tNt (tT (eCall (C.m_is_rate N) (nA 1 (aCons (eVar 3) aNil))))) (tT (eCall (C.m_is_before N) (nA 2 (aCons (eVar 3) (aCons (eVar 2) aNil))))))) (sRaiseF 6 5 (eVar 3)) sNop)
    (sSeq (sIf (tNt (tT (eCall (C.m_is_weight N) (nA 1 (aCons (eVar 4) aNil))))) (sRaise 7) sNop)
    (sSeq (sFldM [33, 42, 44, 46] 0 (eVar 0) (eVar 1))
    (sSeq (sFldM [33, 42] 1 (eVar 0) (eVar 2))
    (sSeq (sFldM [33, 42] 2 (eVar 0) (eVar 3))
    (sFldM [33, 42, 44] 3 (eVar 0) (eVar 4)))))))))
def m_Client___init__ (N : Nat) : FM := fnM 5 (b_Client___init__ N)
def b__law_told_rivals (N : Nat) : SM := (sSeq (sSet 1 (eNew aNil))
    (sSeq (sFor (iRg1 (aCons (eCa fLen (aCons (eVar 0) aNil)) aNil)) (gN 2) (sSeq (sAsg (eBinS ixD (eVar 0) (eVar 2)) (gSq 5 (gsCons' (gN 3) (gsCons' (gN 4) (gsCons' (gN 5) (gsCons' (gN 6) (gsCons' (gN 7) gsNil)))))))
    (sDrop (eApp (eVar 1) (aCons (eTup (aCons (eVar 3) (aCons (eMk (mkI 33 (m_Client___init__ N) C.g_Client___init___2_least_most_weight) 1 3 (aCons (eBinS ixD (eC (.str "abcdefghijklm")) (eVar 2)) aNil) (aCons (eVar 4) (aCons (eVar 5) (aCons (eVar 6) aNil)))) (aCons (eVar 7) aNil)))) aNil)))))
    (sRet (eCa fTuple (aCons (eVar 1) aNil)))))
def m__law_told_rivals (N : Nat) : FM := fnM 8 (b__law_told_rivals N)
def b_is_whole_picks (N : Nat) : SM := (sRet (eAn (eIsTy .int (eVar 0)) (eAn (eNt (eIsTy .bool (eVar 0))) (eChain dLe dLe (eVar 1) (eVar 0) (eVar 2)))))
def m_is_whole_picks (N : Nat) : FM := fnM 3 (b_is_whole_picks N)
def b_is_rival (N : Nat) : SM := (sSeq (sIf (tOr' (tNt (tT (eIsTy .tuple (eVar 0)))) (tB (eBin dNe (eCa fLen (aCons (eVar 0) aNil)) (eC (.int 3))))) (sRet (eC (.bl false))) sNop)
    (sSeq (sAsg (eVar 0) (gTp 3 (gsCons' (gN 1) (gsCons' (gN 2) (gsCons' (gN 3) gsNil)))))
    (sRet (eAn (eCall (m_is_whole_picks N) (nA 3 (aCons (eVar 1) (aCons (eC (.int 1)) (aCons (eC (.int 999)) aNil))))) (eAn (eIsO 33 (eVar 2)) (eCall (C.m_are_tags N) (nA 1 (aCons (eVar 3) aNil))))))))
def m_is_rival (N : Nat) : FM := fnM 4 (b_is_rival N)
def b_check_rivals (N : Nat) : SM := (sSeq (sIf (tNt (tT (eIsTy .tuple (eVar 0)))) (sRaiseF 14 6 (eC .non)) sNop)
    (sFor (iEnum (aCons (eVar 0) aNil)) (gTp 2 (gsCons' (gN 1) (gsCons' (gN 2) gsNil))) (sIf (tNt (tT (eCall (m_is_rival N) (nA 1 (aCons (eVar 2) aNil))))) (sRaiseF 14 6 (eVar 1)) sNop)))
def m_check_rivals (N : Nat) : FM := fnM 3 (b_check_rivals N)
def b_check_pick (N : Nat) : SM := (sSeq (sDrop (eCall (m_check_rivals N) (nA 1 (aCons (eVar 0) aNil))))
    (sSeq (sDrop (eCall (C.m_check_time N) (nA 1 (aCons (eVar 1) aNil))))
    (sDrop (eCall (C.m_check_time N) (nA 1 (aCons (eVar 2) aNil))))))
def m_check_pick (N : Nat) : FM := fnM 3 (b_check_pick N)
def b_by_clock (N : Nat) : SM := (sSeq (sAsg (eVar 0) (gTp 3 (gsCons' (gN 2) (gsCons' (gN 3) (gsCons' (gN 4) gsNil)))))
    (sRet (eAn (eBin dNe (eFld [33, 42] 1 (eVar 3)) (eC (.tup [.int 0, .int 1]))) (eNt (eCall (C.m_is_before N) (nA 2 (aCons (eVar 1) (aCons (eBinS ixD (eVar 4) (eC (.int 0))) aNil))))))))
def m_by_clock (N : Nat) : FM := fnM 5 (b_by_clock N)
def b_by_gate (N : Nat) : SM := (sSeq (sAsg (eVar 0) (gTp 3 (gsCons' (gN 2) (gsCons' (gN 3) (gsCons' (gN 4) gsNil)))))
    (sRet (eOr (eBin dIs (eFld [33, 42] 2 (eVar 3)) (eC .non)) (eNt (eCall (C.m_is_before N) (nA 2 (aCons (eVar 1) (aCons (eBinS ixD (eVar 4) (eC (.int 1))) aNil))))))))
def m_by_gate (N : Nat) : FM := fnM 5 (b_by_gate N)
def b_first_of (fv : Nat) (cp : List (Option D)) (fk : FM) (N : Nat) : SM := (sSeq (sAsg (eVar 1) (gStr 1 (gsCons' (gN 3) (gsCons' (gN 4) gsNil))))
    (sSeq (sFor (iSeq (eVar 4)) (gN 5) (sIf (tT (eCall (C.m_is_before N) (nA 2 (aCons (eCallV 2 fv 6 cp fk (aCons (eBinS ixD (eVar 0) (eVar 5)) aNil)) (aCons (eCallV 2 fv 6 cp fk (aCons (eBinS ixD (eVar 0) (eVar 3)) aNil)) aNil))))) (sSet 3 (eVar 5)) sNop))
    (sRet (eVar 3))))
def m_first_of (fv : Nat) (cp : List (Option D)) (fk : FM) (N : Nat) : FM := fnH 6 cp (b_first_of fv cp fk N)
def b_next_moment (N : Nat) : SM := (sSeq (sSet 1 (eLcN (iSeq (eVar 0)) (.tp [5, 6, 7]) tTrue (eBinS ixD (eVar 7) (eC (.int 1))) [5, 6, 7]))
    (sSeq (sAug 1 (eLc (iSeq (eVar 0)) (.tp [5, 6, 7]) (tB (eBin dNe (eFld [33, 42] 1 (eVar 6)) (eC (.tup [.int 0, .int 1])))) (eBinS ixD (eVar 7) (eC (.int 0))) [5, 6, 7]))
    (sSeq (sIf (tB (eBinS dEqS (eVar 1) (eLst aNil))) (sRet (eC .non)) sNop)
    (sSeq (sAsg (eVar 1) (gStr 1 (gsCons' (gN 2) (gsCons' (gN 3) gsNil))))
    (sSeq (sFor (iSeq (eVar 3)) (gN 4) (sIf (tT (eCall (C.m_is_before N) (nA 2 (aCons (eVar 4) (aCons (eVar 2) aNil))))) (sSet 2 (eVar 4)) sNop))
    (sRet (eVar 2)))))))
def m_next_moment (N : Nat) : FM := fnM 8 (b_next_moment N)
def b_rival_due (N : Nat) : SM := (sSeq (sAsg (eVar 0) (gTp 3 (gsCons' (gN 1) (gsCons' (gN 2) (gsCons' (gN 3) gsNil)))))
    (sRet (eCall (C.m_due_of N) (nA 3 (aCons (eVar 3) (aCons (eVar 1) (aCons (eVar 2) aNil)))))))
def m_rival_due (N : Nat) : FM := fnM 4 (b_rival_due N)
def b_picked_of (N : Nat) : SM := (sSeq (sSet 3 (eLc (iEnum (aCons (eVar 0) aNil)) (.tp [4, 5]) (tT (eCall (m_by_clock N) (nA 2 (aCons (eVar 5) (aCons (eVar 1) aNil))))) (eVar 4) [4, 5]))
    (sSeq (sIf (tB (eBin dNe (eVar 3) (eLst aNil))) (sRet (eTup (aCons (eC (.str "least")) (aCons (eCallH (fun fv cp fk => m_first_of fv cp fk N) [] (fun _ ds S => if ds.length = 1 then m_rival_due N ds S else .stuck) (fun _ => true) 2 (aCons (eVar 0) (aCons (eVar 3) aNil))) aNil)))) sNop)
    (sSeq (sSet 3 (eLc (iEnum (aCons (eVar 0) aNil)) (.tp [4, 5]) (tT (eCall (m_by_gate N) (nA 2 (aCons (eVar 5) (aCons (eVar 1) aNil))))) (eVar 4) [4, 5]))
    (sSeq (sIf (tB (eBin dNe (eVar 3) (eLst aNil))) (sRet (eTup (aCons (eC (.str "share")) (aCons (eCallH (fun fv cp fk => m_first_of fv cp fk N) [2] (lamF [2] 1 (eCall (C.m_greater N) (nA 2 (aCons (eBinS ixD (eBinS ixD (eVar 0) (eC (.int 2))) (eC (.int 2))) (aCons (eVar 1) aNil))))) (tbS 1 mk_picked_of.1 mk_picked_of.2) 2 (aCons (eVar 0) (aCons (eVar 3) aNil))) aNil)))) sNop)
    (sRet (eTup (aCons (eC (.str "none")) (aCons (eCall (m_next_moment N) (nA 1 (aCons (eVar 0) aNil))) aNil))))))))
def m_picked_of (N : Nat) : FM := fnM 6 (b_picked_of N)
def b_picked (N : Nat) : SM := (sSeq (sDrop (eCall (m_check_pick N) (nA 3 (aCons (eVar 0) (aCons (eVar 1) (aCons (eVar 2) aNil))))))
    (sRet (eCall (m_picked_of N) (nA 3 (aCons (eVar 0) (aCons (eVar 1) (aCons (eVar 2) aNil)))))))
def m_picked (N : Nat) : FM := fnM 3 (b_picked N)
def b__law_right (N : Nat) : SM := (sSeq (sSet 3 (eCall (m__law_told_rivals N) (nA 1 (aCons (eVar 0) aNil))))
    (sSeq (sPar 4 5 (aCons (eReprT 33 (m_Client___repr__ N) g_Client___repr___1_ (eVar 3)) (aCons (eCall (m__law_choice_of N) (nA 3 (aCons (eVar 0) (aCons (eVar 1) (aCons (eVar 2) aNil))))) aNil)))
    (sSeq (sFor (iSeq (eLst (aCons (eCall (m_picked N) (nA 3 (aCons (eVar 3) (aCons (eVar 1) (aCons (eVar 2) aNil))))) (aCons (eCallK0 (m_picked N) g_picked_0_pace_now_rivals 3 (aCons (eVar 2) (aCons (eVar 1) (aCons (eVar 3) aNil)))) aNil)))) (gN 6) (sIf (tOr' (tNt (tT (eIsTy .tuple (eVar 6)))) (tOr' (tB (eBin dNe (eVar 6) (eVar 5))) (tT (eIsTy .bool (eBinS ixD (eVar 6) (eC (.int 1))))))) (sRet (eC (.bl false))) sNop))
    (sRet (eBin dEq (eReprT 33 (m_Client___repr__ N) g_Client___repr___1_ (eVar 3)) (eVar 4))))))
def m__law_right (N : Nat) : FM := fnM 7 (b__law_right N)
def b__law_near (N : Nat) : SM := (sSeq (sSet 2 (eCall (C.m__law_r N) (nA 2 (aCons (eCall (C.m__law_take N) (nA 2 (aCons (eVar 0) (aCons (eC (.int 5)) aNil)))) (aCons (eBinS dAddS (eC (.int 1)) (eCall (C.m__law_take N) (nA 2 (aCons (eVar 0) (aCons (eC (.int 3)) aNil))))) aNil)))))
    (sSeq (sSet 3 (eCall (C.m__law_take N) (nA 2 (aCons (eVar 0) (aCons (eC (.int 4)) aNil)))))
    (sSeq (sIf (tB (eBin dEq (eVar 3) (eC (.int 0)))) (sRet (eVar 1)) sNop)
    (sRet (eIf (tB (eBin dEq (eVar 3) (eC (.int 1)))) (eCall (C.m__law_add N) (nA 2 (aCons (eVar 1) (aCons (eVar 2) aNil)))) (eCall (C.m__law_top N) (nA 2 (aCons (eTup (aCons (eC (.int 0)) (aCons (eC (.int 1)) aNil))) (aCons (eCall (C.m__law_sub N) (nA 2 (aCons (eVar 1) (aCons (eVar 2) aNil)))) aNil)))))))))
def m__law_near (N : Nat) : FM := fnM 4 (b__law_near N)
def b__law_rate (N : Nat) : SM := (sSeq (sSet 1 (eBinS dAddS (eC (.int 1)) (eCall (C.m__law_take N) (nA 2 (aCons (eVar 0) (aCons (eC (.int 12)) aNil))))))
    (sRet (eCall (C.m__law_r N) (nA 2 (aCons (eBinS dAddS (eC (.int 1)) (eCall (C.m__law_take N) (nA 2 (aCons (eVar 0) (aCons (eCa fMin (aCons (eC (.int 6)) (aCons (eVar 1) aNil))) aNil))))) (aCons (eVar 1) aNil))))))
def m__law_rate (N : Nat) : FM := fnM 2 (b__law_rate N)
def b__law_rivals (N : Nat) : SM := (sSeq (sSet 3 (eNew aNil))
    (sSeq (sFor (iRg1 (aCons (eCall (C.m__law_take N) (nA 2 (aCons (eVar 0) (aCons (eBinS ixD (eLst (aCons (eC (.int 4)) (aCons (eC (.int 7)) (aCons (eC (.int 13)) aNil)))) (eCall (C.m__law_take N) (nA 2 (aCons (eVar 0) (aCons (eC (.int 3)) aNil))))) aNil)))) aNil)) (gN 4) (sSeq (sSet 5 (eBinS ixD (eLst (aCons (eTup (aCons (eC (.int 0)) (aCons (eC (.int 1)) aNil))) (aCons (eCall (m__law_rate N) (nA 1 (aCons (eVar 0) aNil))) (aCons (eTup (aCons (eC (.int 1)) (aCons (eC (.int 2)) aNil))) aNil)))) (eCall (C.m__law_take N) (nA 2 (aCons (eVar 0) (aCons (eC (.int 3)) aNil))))))
    (sSeq (sSet 6 (eBinS ixD (eLst (aCons (eC .non) (aCons (eTup (aCons (eC (.int 1)) (aCons (eC (.int 1)) aNil))) (aCons (eVar 5) (aCons (eCall (m__law_rate N) (nA 1 (aCons (eVar 0) aNil))) aNil))))) (eCall (C.m__law_take N) (nA 2 (aCons (eVar 0) (aCons (eC (.int 4)) aNil))))))
    (sSeq (sIf (tAn (tB (eBin dIsNot (eVar 6) (eC .non))) (tOr' (tB (eBin dEq (eVar 6) (eTup (aCons (eC (.int 0)) (aCons (eC (.int 1)) aNil))))) (tT (eCall (C.m__law_less N) (nA 2 (aCons (eVar 6) (aCons (eVar 5) aNil))))))) (sSet 6 (eC .non)) sNop)
    (sSeq (sSet 7 (eTup (aCons (eCall (m__law_near N) (nA 2 (aCons (eVar 0) (aCons (eVar 1) aNil)))) (aCons (eCall (m__law_near N) (nA 2 (aCons (eVar 0) (aCons (eVar 1) aNil)))) (aCons (eCall (m__law_near N) (nA 2 (aCons (eVar 0) (aCons (eVar 2) aNil)))) aNil)))))
    (sDrop (eApp (eVar 3) (aCons (eLst (aCons (eBinS ixD (eLst (aCons (eC (.int 1)) (aCons (eC (.int 2)) (aCons (eBinS dAddS (eC (.int 1)) (eCall (C.m__law_take N) (nA 2 (aCons (eVar 0) (aCons (eC (.int 9)) aNil))))) (aCons (eC (.int 999)) aNil))))) (eCall (C.m__law_take N) (nA 2 (aCons (eVar 0) (aCons (eC (.int 4)) aNil))))) (aCons (eVar 5) (aCons (eVar 6) (aCons (eBinS dAddS (eC (.int 1)) (eCall (C.m__law_take N) (nA 2 (aCons (eVar 0) (aCons (eC (.int 9)) aNil))))) (aCons (eVar 7) aNil)))))) aNil))))))))
    (sRet (eVar 3))))
def m__law_rivals (N : Nat) : FM := fnM 8 (b__law_rivals N)
def b_law (N : Nat) : SM := (sSeq (sFor (iRg1 (aCons (eCa fMax (aCons (eC (.int 1)) (aCons (eCa fMin (aCons (eCa fLen (aCons (eVar 0) aNil)) (aCons (eC (.int 6)) aNil))) aNil))) aNil)) (gN 1) (sSeq (sSet 2 (eCall (C.m__law_pool N) (nA 1 (aCons (eCall (C.m__law_cell N) (nA 2 (aCons (eVar 0) (aCons (eVar 1) aNil)))) aNil))))
    (sSeq (sSet 3 (eCall (C.m__law_r N) (nA 2 (aCons (eCall (C.m__law_take N) (nA 2 (aCons (eVar 2) (aCons (eC (.int 60)) aNil)))) (aCons (eBinS dAddS (eC (.int 1)) (eCall (C.m__law_take N) (nA 2 (aCons (eVar 2) (aCons (eC (.int 4)) aNil))))) aNil)))))
    (sSeq (sSet 4 (eCall (C.m__law_r N) (nA 2 (aCons (eCall (C.m__law_take N) (nA 2 (aCons (eVar 2) (aCons (eC (.int 40)) aNil)))) (aCons (eBinS dAddS (eC (.int 1)) (eCall (C.m__law_take N) (nA 2 (aCons (eVar 2) (aCons (eC (.int 6)) aNil))))) aNil)))))
    (sFor (iRg1 (aCons (eC (.int 4)) aNil)) (gN 5) (sSeq (sSet 6 (eCall (m__law_rivals N) (nA 3 (aCons (eVar 2) (aCons (eVar 3) (aCons (eVar 4) aNil))))))
    (sSeq (sIf (tOr' (tNt (tT (eCall (m__law_right N) (nA 3 (aCons (eVar 6) (aCons (eVar 3) (aCons (eVar 4) aNil))))))) (tNt (tT (eCall (m__law_right N) (nA 3 (aCons (eCall (m__law_later N) (nA 2 (aCons (eVar 6) (aCons (eVar 3) aNil)))) (aCons (eVar 3) (aCons (eVar 4) aNil)))))))) (sRet (eC (.bl false))) sNop)
    (sSeq (sIf (tNt (tT (eCall (m__law_right N) (nA 3 (aCons (eCall (m__law_far N) (nA 1 (aCons (eVar 6) aNil))) (aCons (eCall (C.m__law_add N) (nA 2 (aCons (eVar 3) (aCons (eTup (aCons (eBin dPow (eC (.int 10)) (eC (.int 30))) (aCons (eC (.int 1)) aNil))) aNil)))) (aCons (eCall (C.m__law_add N) (nA 2 (aCons (eVar 4) (aCons (eTup (aCons (eBin dPow (eC (.int 10)) (eC (.int 30))) (aCons (eC (.int 1)) aNil))) aNil)))) aNil))))))) (sRet (eC (.bl false))) sNop)
    (sIf (tOr' (tNt (tT (eCall (m__law_right N) (nA 3 (aCons (eRevN (eVar 6)) (aCons (eVar 3) (aCons (eVar 4) aNil))))))) (tNt (tT (eCall (m__law_right N) (nA 3 (aCons (eVar 6) (aCons (eTup (aCons (eC (.int 0)) (aCons (eC (.int 1)) aNil))) (aCons (eVar 4) aNil)))))))) (sRet (eC (.bl false))) sNop)))))))))
    (sRet (eC (.bl true))))
def m_law (N : Nat) : FM := fnM 7 (b_law N)
structure Txt (K : PySem.W.Frag) (mg : Str → Option Value) (base : Heap) : Prop where
  tb : TBs K mg base tsL
  fe__law_choice_of : ∀ f, mg "_law_choice_of" = some (.ref f) → f = He.fAd K mk__law_choice_of.1
  fe_picked_of : ∀ f, mg "picked_of" = some (.ref f) → f = He.fAd K mk_picked_of.1
  b_abs : mg "abs" = none
  b_all : mg "all" = none
  b_bool : mg "bool" = none
  b_divmod : mg "divmod" = none
  b_enumerate : mg "enumerate" = none
  b_int : mg "int" = none
  b_isinstance : mg "isinstance" = none
  b_len : mg "len" = none
  b_list : mg "list" = none
  b_max : mg "max" = none
  b_min : mg "min" = none
  b_range : mg "range" = none
  b_repr : mg "repr" = none
  b_str : mg "str" = none
  b_tuple : mg "tuple" = none
  f__law_r : ∃ f fd, mg "_law_r" = some (.ref f) ∧ FunD K "_law_r" "_law_r" (defArgs s__law_r) (defBody s__law_r) (defScope s__law_r) [] [] f fd
  f__law_add : ∃ f fd, mg "_law_add" = some (.ref f) ∧ FunD K "_law_add" "_law_add" (defArgs s__law_add) (defBody s__law_add) (defScope s__law_add) [] [] f fd
  f__law_cell : ∃ f fd, mg "_law_cell" = some (.ref f) ∧ FunD K "_law_cell" "_law_cell" (defArgs s__law_cell) (defBody s__law_cell) (defScope s__law_cell) [] [] f fd
  f__law_far : ∃ f fd, mg "_law_far" = some (.ref f) ∧ FunD K "_law_far" "_law_far" (defArgs s__law_far) (defBody s__law_far) (defScope s__law_far) [] [] f fd
  f__law_later : ∃ f fd, mg "_law_later" = some (.ref f) ∧ FunD K "_law_later" "_law_later" (defArgs s__law_later) (defBody s__law_later) (defScope s__law_later) [] [] f fd
  f__law_pool : ∃ f fd, mg "_law_pool" = some (.ref f) ∧ FunD K "_law_pool" "_law_pool" (defArgs s__law_pool) (defBody s__law_pool) (defScope s__law_pool) [] [] f fd
  f_is_whole_ratios : ∃ f fd, mg "is_whole_ratios" = some (.ref f) ∧ FunD K "is_whole" "is_whole" (defArgs s_is_whole_ratios) (defBody s_is_whole_ratios) (defScope s_is_whole_ratios) [] [] f fd
  f_shared : ∃ f fd, mg "shared" = some (.ref f) ∧ FunD K "shared" "shared" (defArgs s_shared) (defBody s_shared) (defScope s_shared) [] [] f fd
  f_is_ratio : ∃ f fd, mg "is_ratio" = some (.ref f) ∧ FunD K "is_ratio" "is_ratio" (defArgs s_is_ratio) (defBody s_is_ratio) (defScope s_is_ratio) [] [] f fd
  f_check_ratio : ∃ f fd, mg "check_ratio" = some (.ref f) ∧ FunD K "check_ratio" "check_ratio" (defArgs s_check_ratio) (defBody s_check_ratio) (defScope s_check_ratio) [] [] f fd
  f_show_ratio : ∃ f fd, mg "show_ratio" = some (.ref f) ∧ FunD K "show_ratio" "show_ratio" (defArgs s_show_ratio) (defBody s_show_ratio) (defScope s_show_ratio) [] [] f fd
  f_rate_text : ∃ f fd, mg "rate_text" = some (.ref f) ∧ FunD K "rate_text" "rate_text" (defArgs s_rate_text) (defBody s_rate_text) (defScope s_rate_text) [] [] f fd
  f_Client___str__ : ∃ C f fd, mg "Client" = some (.ref C) ∧ Cls K C ∧ Meth K C "__str__" f ∧ FunD K "__str__" "Client.__str__" (defArgs s_Client___str__) (defBody s_Client___str__) (defScope s_Client___str__) [] [] f fd
  f_Client___repr__ : ∃ C f fd, mg "Client" = some (.ref C) ∧ Cls K C ∧ Meth K C "__repr__" f ∧ FunD K "__repr__" "Client.__repr__" (defArgs s_Client___repr__) (defBody s_Client___repr__) (defScope s_Client___repr__) [] [] f fd
  f__law_by : ∃ f fd, mg "_law_by" = some (.ref f) ∧ FunD K "_law_by" "_law_by" (defArgs s__law_by) (defBody s__law_by) (defScope s__law_by) [] [] f fd
  f__law_less : ∃ f fd, mg "_law_less" = some (.ref f) ∧ FunD K "_law_less" "_law_less" (defArgs s__law_less) (defBody s__law_less) (defScope s__law_less) [] [] f fd
  f__law_can : ∃ f fd, mg "_law_can" = some (.ref f) ∧ FunD K "_law_can" "_law_can" (defArgs s__law_can) (defBody s__law_can) (defScope s__law_can) [] [] f fd
  f__law_first : ∃ f fd, mg "_law_first" = some (.ref f) ∧ FunD K "_law_first" "_law_first" (defArgs s__law_first) (defBody s__law_first) (defScope s__law_first) [] [] f fd
  f__law_top : ∃ f fd, mg "_law_top" = some (.ref f) ∧ FunD K "_law_top" "_law_top" (defArgs s__law_top) (defBody s__law_top) (defScope s__law_top) [] [] f fd
  f__law_choice_of : ∃ f fd, mg "_law_choice_of" = some (.ref f) ∧ FunD K "_law_choice_of" "_law_choice_of" (defArgs s__law_choice_of) (defBody s__law_choice_of) (defScope s__law_choice_of) [] [] f fd
  f_check_two : ∃ f fd, mg "check_two" = some (.ref f) ∧ FunD K "check_two" "check_two" (defArgs s_check_two) (defBody s_check_two) (defScope s_check_two) [] [] f fd
  f_is_before : ∃ f fd, mg "is_before" = some (.ref f) ∧ FunD K "is_before" "is_before" (defArgs s_is_before) (defBody s_is_before) (defScope s_is_before) [] [] f fd
  f_is_none : ∃ f fd, mg "is_none" = some (.ref f) ∧ FunD K "is_none" "is_none" (defArgs s_is_none) (defBody s_is_none) (defScope s_is_none) [] [] f fd
  f_is_rate : ∃ f fd, mg "is_rate" = some (.ref f) ∧ FunD K "is_rate" "is_rate" (defArgs s_is_rate) (defBody s_is_rate) (defScope s_is_rate) [] [] f fd
  f_is_least : ∃ f fd, mg "is_least" = some (.ref f) ∧ FunD K "is_least" "is_least" (defArgs s_is_least) (defBody s_is_least) (defScope s_is_least) [] [] f fd
  f_is_name : ∃ f fd, mg "is_name" = some (.ref f) ∧ FunD K "is_name" "is_name" (defArgs s_is_name) (defBody s_is_name) (defScope s_is_name) [] [] f fd
  f_is_weight : ∃ f fd, mg "is_weight" = some (.ref f) ∧ FunD K "is_weight" "is_weight" (defArgs s_is_weight) (defBody s_is_weight) (defScope s_is_weight) [] [] f fd
  f_Client___init__ : ∃ C f fd k0_NONE, mg "Client" = some (.ref C) ∧ Mk K C f ∧ mg "NONE" = some (.ref k0_NONE) ∧ KtT K k0_NONE [.int 0, .int 1] ∧ FunD K "__init__" "Client.__init__" (defArgs s_Client___init__) (defBody s_Client___init__) (defScope s_Client___init__) [] [("least", .ref k0_NONE), ("most", .non), ("weight", (.int 1))] f fd
  f__law_told_rivals : ∃ f fd, mg "_law_told_rivals" = some (.ref f) ∧ FunD K "_law_told_rivals" "_law_told_rivals" (defArgs s__law_told_rivals) (defBody s__law_told_rivals) (defScope s__law_told_rivals) [] [] f fd
  f_is_time : ∃ f fd, mg "is_time" = some (.ref f) ∧ FunD K "is_time" "is_time" (defArgs s_is_time) (defBody s_is_time) (defScope s_is_time) [] [] f fd
  f_are_tags : ∃ f fd, mg "are_tags" = some (.ref f) ∧ FunD K "are_tags" "are_tags" (defArgs s_are_tags) (defBody s_are_tags) (defScope s_are_tags) [] [] f fd
  f_is_whole_picks : ∃ f fd, mg "is_whole_picks" = some (.ref f) ∧ FunD K "is_whole" "is_whole" (defArgs s_is_whole_picks) (defBody s_is_whole_picks) (defScope s_is_whole_picks) [] [] f fd
  f_is_rival : ∃ f fd, mg "is_rival" = some (.ref f) ∧ FunD K "is_rival" "is_rival" (defArgs s_is_rival) (defBody s_is_rival) (defScope s_is_rival) [] [] f fd
  f_check_rivals : ∃ f fd, mg "check_rivals" = some (.ref f) ∧ FunD K "check_rivals" "check_rivals" (defArgs s_check_rivals) (defBody s_check_rivals) (defScope s_check_rivals) [] [] f fd
  f_check_time : ∃ f fd, mg "check_time" = some (.ref f) ∧ FunD K "check_time" "check_time" (defArgs s_check_time) (defBody s_check_time) (defScope s_check_time) [] [] f fd
  f_check_pick : ∃ f fd, mg "check_pick" = some (.ref f) ∧ FunD K "check_pick" "check_pick" (defArgs s_check_pick) (defBody s_check_pick) (defScope s_check_pick) [] [] f fd
  f_by_clock : ∃ f fd, mg "by_clock" = some (.ref f) ∧ FunD K "by_clock" "by_clock" (defArgs s_by_clock) (defBody s_by_clock) (defScope s_by_clock) [] [] f fd
  f_by_gate : ∃ f fd, mg "by_gate" = some (.ref f) ∧ FunD K "by_gate" "by_gate" (defArgs s_by_gate) (defBody s_by_gate) (defScope s_by_gate) [] [] f fd
  f_first_of : ∃ f fd, mg "first_of" = some (.ref f) ∧ FunD K "first_of" "first_of" (defArgs s_first_of) (defBody s_first_of) (defScope s_first_of) [] [] f fd
  f_greater : ∃ f fd, mg "greater" = some (.ref f) ∧ FunD K "greater" "greater" (defArgs s_greater) (defBody s_greater) (defScope s_greater) [] [] f fd
  f_next_moment : ∃ f fd, mg "next_moment" = some (.ref f) ∧ FunD K "next_moment" "next_moment" (defArgs s_next_moment) (defBody s_next_moment) (defScope s_next_moment) [] [] f fd
  f_lowest : ∃ f fd, mg "lowest" = some (.ref f) ∧ FunD K "lowest" "lowest" (defArgs s_lowest) (defBody s_lowest) (defScope s_lowest) [] [] f fd
  f_added : ∃ f fd, mg "added" = some (.ref f) ∧ FunD K "added" "added" (defArgs s_added) (defBody s_added) (defScope s_added) [] [] f fd
  f_ratio : ∃ f fd, mg "ratio" = some (.ref f) ∧ FunD K "ratio" "ratio" (defArgs s_ratio) (defBody s_ratio) (defScope s_ratio) [(.int 1)] [] f fd
  f_parted : ∃ f fd, mg "parted" = some (.ref f) ∧ FunD K "parted" "parted" (defArgs s_parted) (defBody s_parted) (defScope s_parted) [] [] f fd
  f_due_of : ∃ f fd, mg "due_of" = some (.ref f) ∧ FunD K "due_of" "due_of" (defArgs s_due_of) (defBody s_due_of) (defScope s_due_of) [] [] f fd
  f_rival_due : ∃ f fd, mg "rival_due" = some (.ref f) ∧ FunD K "rival_due" "rival_due" (defArgs s_rival_due) (defBody s_rival_due) (defScope s_rival_due) [] [] f fd
  f_picked_of : ∃ f fd, mg "picked_of" = some (.ref f) ∧ FunD K "picked_of" "picked_of" (defArgs s_picked_of) (defBody s_picked_of) (defScope s_picked_of) [] [] f fd
  f_picked : ∃ f fd, mg "picked" = some (.ref f) ∧ FunD K "picked" "picked" (defArgs s_picked) (defBody s_picked) (defScope s_picked) [] [] f fd
  f__law_right : ∃ f fd, mg "_law_right" = some (.ref f) ∧ FunD K "_law_right" "_law_right" (defArgs s__law_right) (defBody s__law_right) (defScope s__law_right) [] [] f fd
  f__law_sub : ∃ f fd, mg "_law_sub" = some (.ref f) ∧ FunD K "_law_sub" "_law_sub" (defArgs s__law_sub) (defBody s__law_sub) (defScope s__law_sub) [] [] f fd
  f__law_take : ∃ f fd, mg "_law_take" = some (.ref f) ∧ FunD K "_law_take" "_law_take" (defArgs s__law_take) (defBody s__law_take) (defScope s__law_take) [] [] f fd
  f__law_near : ∃ f fd, mg "_law_near" = some (.ref f) ∧ FunD K "_law_near" "_law_near" (defArgs s__law_near) (defBody s__law_near) (defScope s__law_near) [] [] f fd
  f__law_rate : ∃ f fd, mg "_law_rate" = some (.ref f) ∧ FunD K "_law_rate" "_law_rate" (defArgs s__law_rate) (defBody s__law_rate) (defScope s__law_rate) [] [] f fd
  f__law_rivals : ∃ f fd, mg "_law_rivals" = some (.ref f) ∧ FunD K "_law_rivals" "_law_rivals" (defArgs s__law_rivals) (defBody s__law_rivals) (defScope s__law_rivals) [] [] f fd
  f_law : ∃ f fd, mg "law" = some (.ref f) ∧ FunD K "law" "law" (defArgs s_law) (defBody s_law) (defScope s_law) [] [] f fd
  c_LEAST : ∃ t, mg "LEAST" = some (.str "least" t)
  c_LETTERS : ∃ t, mg "LETTERS" = some (.str "abcdefghijklmnopqrstuvwxyz" t)
  c_MOST_LETTERS : ∃ t, mg "MOST_LETTERS" = some (.int 8 t)
  c_MOST_SIZE : ∃ t, mg "MOST_SIZE" = some (.int 999 t)
  c_MOST_WEIGHT : ∃ t, mg "MOST_WEIGHT" = some (.int 99 t)
  c_NOBODY : ∃ t, mg "NOBODY" = some (.str "none" t)
  c_NONE : ∃ a, mg "NONE" = some (.ref a) ∧ KtT K a [.int 0, .int 1]
  c_SHARE : ∃ t, mg "SHARE" = some (.str "share" t)
  x_NoRatio : ∃ C, mg "NoRatio" = some (.ref C) ∧ XcO K C bmValueError "ValueError.__new__"
  x_NoName : ∃ C, mg "NoName" = some (.ref C) ∧ XcO K C bmValueError "ValueError.__new__"
  x_NoWeight : ∃ C, mg "NoWeight" = some (.ref C) ∧ XcO K C bmValueError "ValueError.__new__"
  x_NoTime : ∃ C, mg "NoTime" = some (.ref C) ∧ XcO K C bmValueError "ValueError.__new__"
  x_Nought : ∃ C, mg "Nought" = some (.ref C) ∧ XcO K C bmArithmeticError "ArithmeticError.__new__"
  y_NoRate : ∃ C fI fd Bc, mg "NoRate" = some (.ref C) ∧ XoC K C "ValueError.__new__" bmValueError ∧ PySem.W.findIn K (.ref C) "__init__" = some (some (.ref fI)) ∧ PySem.W.typeIn K (.ref fI) = some (.type "function") ∧ PySem.W.findIn K (.ref C) "rate" = some none ∧ mg "TagError" = some (.ref Bc) ∧ HdC K Bc "ValueError.__init__" ∧ FunD K "__init__" "NoRate.__init__" (defArgs s_NoRate___init__) (defBody s_NoRate___init__) (defScope s_NoRate___init__) [] [] fI fd
  y_NoRivals : ∃ C fI fd Bc, mg "NoRivals" = some (.ref C) ∧ XoC K C "ValueError.__new__" bmValueError ∧ PySem.W.findIn K (.ref C) "__init__" = some (some (.ref fI)) ∧ PySem.W.typeIn K (.ref fI) = some (.type "function") ∧ PySem.W.findIn K (.ref C) "place" = some none ∧ mg "TagError" = some (.ref Bc) ∧ HdC K Bc "ValueError.__init__" ∧ FunD K "__init__" "NoRivals.__init__" (defArgs s_NoRivals___init__) (defBody s_NoRivals___init__) (defScope s_NoRivals___init__) [] [] fI fd
  x_Client : ∃ C, mg "Client" = some (.ref C)
  io_Client : ∀ D, mg "Client" = some (.ref D) → Iso K mg 33 D
  a_least : ClF K mg [33, 42] 1
  a_most : ClF K mg [33, 42] 2
  a_name : ClF K mg [33, 42, 44, 46] 0
  a_weight : ClF K mg [33, 42, 44] 3
section
variable {P : Program} {w : World} {K : PySem.W.Frag} {mg : Str → Option Value} {base : Heap}
theorem xi_NoRate (T : Txt K mg base) : XfI P w K mg base "NoRate" "ValueError.__init__" "ValueError.__new__" bmValueError (fname 5) := by
  obtain ⟨C, fI, fd, Bc, h1, h2, h3, h4, h5, h6, h7, F⟩ := T.y_NoRate
  refine ⟨C, fI, fd, "self", "rate", h1, h2, h3, h4, h5, F.bindsN (ps := ["self", "rate"]) fun _ _ _ _ _ _ us hl => match us, hl with | [_, _], _ => rfl, ini_fn F sc_NoRate___init__ fun cdv A outer s H E => ?_⟩
  exact pss_ini fam_ValueError h6 h7 (pe_var rfl (Or.inl rfl) (by decide) (by decide)) (pe_var rfl (Or.inl rfl) (by decide) (by decide)) (pe_var rfl (Or.inl rfl) (by decide) (by decide))
theorem xi_NoRivals (T : Txt K mg base) : XfI P w K mg base "NoRivals" "ValueError.__init__" "ValueError.__new__" bmValueError (fname 6) := by
  obtain ⟨C, fI, fd, Bc, h1, h2, h3, h4, h5, h6, h7, F⟩ := T.y_NoRivals
  refine ⟨C, fI, fd, "self", "place", h1, h2, h3, h4, h5, F.bindsN (ps := ["self", "place"]) fun _ _ _ _ _ _ us hl => match us, hl with | [_, _], _ => rfl, ini_fn F sc_NoRivals___init__ fun cdv A outer s H E => ?_⟩
  exact pss_ini fam_ValueError h6 h7 (pe_var rfl (Or.inl rfl) (by decide) (by decide)) (pe_var rfl (Or.inl rfl) (by decide) (by decide)) (pe_var rfl (Or.inl rfl) (by decide) (by decide))
theorem fk__law_r (N : Nat) (T : Txt K mg base) {fa : Addr} {fd : FuncData} (F : FunD K "_law_r" "_law_r" (defArgs s__law_r) (defBody s__law_r) (defScope s__law_r) [] [] fa fd) : FnG P w K mg base (0 + 1) fa fd p__law_r (spM K mg p__law_r.length (fnM n__law_r.length (C.b__law_r N))) := by
  apply def_okD F sc__law_r
  intro cdv A outer s H E c
  exact (rss_cons (rs_par (i := 2) (j := 3) c.calm c.nd rfl rfl (by decide) (ra_cons (re_b cm_abs rfl T.b_abs bt_abs (ra_cons (rv 0) ra_nil)) (ra_cons (re_b cm_abs rfl T.b_abs bt_abs (ra_cons (rv 1) ra_nil)) ra_nil)))
      (rss_cons (rs_while N c.po (rt_cmp om_gt (rv 3) re_int (nomark _)) (rss_one (rs_par (i := 2) (j := 3) c.calm c.nd rfl rfl (by decide) (ra_cons (rv 3) (ra_cons (re_bin om_mod (rv 2) (rv 3)) ra_nil)))))
      (rss_cons (rs_if (rt_cmp om_lt (rv 1) re_int (nomark _)) (rss_one (rs_set (i := 2) c.nd rfl (re_bin om_sub re_int (rv 2)))) rss_nil)
      (rss_one (rs_ret (re_tup (ra_cons (re_bin om_div (rv 0) (rv 2)) (ra_cons (re_bin om_div (rv 1) (rv 2)) ra_nil))))))))
theorem fm__law_r (N : Nat) (T : Txt K mg base) {fa : Addr} {fd : FuncData} (F : FunD K "_law_r" "_law_r" (defArgs s__law_r) (defBody s__law_r) (defScope s__law_r) [] [] fa fd) : FnG P w K mg base 1 fa fd p__law_r (spM K mg p__law_r.length (C.m__law_r N)) := fk__law_r N T F
theorem ok__law_r (N : Nat) (T : Txt K mg base) : Df P w K mg base "_law_r" p__law_r 1 (C.m__law_r N) := by
  obtain ⟨fa, fd, g1, F⟩ := T.f__law_r
  exact ⟨fa, fd, g1, F.kp, F.bindsN (ps := p__law_r) fun _ _ _ _ _ _ us hl => match us, hl with | [_, _], _ => rfl, fm__law_r N T F⟩
theorem fk__law_add (N : Nat) (T : Txt K mg base) {fa : Addr} {fd : FuncData} (F : FunD K "_law_add" "_law_add" (defArgs s__law_add) (defBody s__law_add) (defScope s__law_add) [] [] fa fd) : FnG P w K mg base (1 + 1) fa fd p__law_add (spM K mg p__law_add.length (fnM n__law_add.length (C.b__law_add N))) := by
  apply def_okD F sc__law_add
  intro cdv A outer s H E c
  exact (rss_one (rs_ret (re_call c (ok__law_r N T) (by decide) (ra_cons (re_binS om_addS (re_bin om_mul (re_ix (rv 0) re_int) (re_ix (rv 1) re_int)) (re_bin om_mul (re_ix (rv 1) re_int) (re_ix (rv 0) re_int))) (ra_cons (re_bin om_mul (re_ix (rv 0) re_int) (re_ix (rv 1) re_int)) ra_nil)))))
theorem fm__law_add (N : Nat) (T : Txt K mg base) {fa : Addr} {fd : FuncData} (F : FunD K "_law_add" "_law_add" (defArgs s__law_add) (defBody s__law_add) (defScope s__law_add) [] [] fa fd) : FnG P w K mg base 2 fa fd p__law_add (spM K mg p__law_add.length (C.m__law_add N)) := fk__law_add N T F
theorem ok__law_add (N : Nat) (T : Txt K mg base) : Df P w K mg base "_law_add" p__law_add 2 (C.m__law_add N) := by
  obtain ⟨fa, fd, g1, F⟩ := T.f__law_add
  exact ⟨fa, fd, g1, F.kp, F.bindsN (ps := p__law_add) fun _ _ _ _ _ _ us hl => match us, hl with | [_, _], _ => rfl, fm__law_add N T F⟩
theorem fk__law_cell (N : Nat) (T : Txt K mg base) {fa : Addr} {fd : FuncData} (F : FunD K "_law_cell" "_law_cell" (defArgs s__law_cell) (defBody s__law_cell) (defScope s__law_cell) [] [] fa fd) : FnG P w K mg base (0 + 1) fa fd p__law_cell (spM K mg p__law_cell.length (fnM n__law_cell.length (C.b__law_cell N))) := by
  apply def_okD F sc__law_cell
  intro cdv A outer s H E c
  exact (rss_cons (rs_if (rt_cmp om_lt (rv 1) (re_b cm_len rfl T.b_len bt_len (ra_cons (rv 0) ra_nil)) (nomark _)) (rss_one (rs_ret (re_ix (rv 0) (rv 1)))) rss_nil)
      (rss_cons (rs_set (i := 2) c.nd rfl (re_bin om_mod (re_bin om_mul re_int (re_binS om_addS (re_binS om_addS (re_bin om_mul (rv 1) (rv 1)) (re_bin om_mul re_int (rv 1))) re_int)) re_int))
      (rss_cons (rs_for c.po c.calm (ri_e (re_sl (rv 0) ro_none (ro_some re_int))) (rg_name (i := 3) c.nd rfl) (rss_one (rs_set (i := 2) c.nd rfl (re_bin om_mod (re_binS om_addS (re_bin om_mul (rv 2) re_int) (rv 3)) re_int))))
      (rss_one (rs_ret (rv 2))))))
theorem fm__law_cell (N : Nat) (T : Txt K mg base) {fa : Addr} {fd : FuncData} (F : FunD K "_law_cell" "_law_cell" (defArgs s__law_cell) (defBody s__law_cell) (defScope s__law_cell) [] [] fa fd) : FnG P w K mg base 1 fa fd p__law_cell (spM K mg p__law_cell.length (C.m__law_cell N)) := fk__law_cell N T F
theorem ok__law_cell (N : Nat) (T : Txt K mg base) : Df P w K mg base "_law_cell" p__law_cell 1 (C.m__law_cell N) := by
  obtain ⟨fa, fd, g1, F⟩ := T.f__law_cell
  exact ⟨fa, fd, g1, F.kp, F.bindsN (ps := p__law_cell) fun _ _ _ _ _ _ us hl => match us, hl with | [_, _], _ => rfl, fm__law_cell N T F⟩
theorem fk__law_far (N : Nat) (T : Txt K mg base) {fa : Addr} {fd : FuncData} (F : FunD K "_law_far" "_law_far" (defArgs s__law_far) (defBody s__law_far) (defScope s__law_far) [] [] fa fd) : FnG P w K mg base (2 + 1) fa fd p__law_far (spM K mg p__law_far.length (fnM n__law_far.length (b__law_far N))) := by
  apply def_okD F sc__law_far
  intro cdv A outer s H E c
  exact (rss_cons (rs_asg (re_tup (ra_cons (re_new ra_nil) (ra_cons (re_tup (ra_cons (re_bin om_pow re_int re_int) (ra_cons re_int ra_nil))) ra_nil))) (rg_seq c.calm (rgs_cons (rg_name (i := 1) c.nd rfl) (rgs_cons (rg_name (i := 2) c.nd rfl) rgs_nil))))
      (rss_cons (rs_forC c.po c.calm (ri_cel (rv 0)) (rg_seq c.calm (rgs_cons (rg_name (i := 3) c.nd rfl) (rgs_cons (rg_name (i := 4) c.nd rfl) (rgs_cons (rg_name (i := 5) c.nd rfl) (rgs_cons (rg_name (i := 6) c.nd rfl) (rgs_cons (rg_name (i := 7) c.nd rfl) rgs_nil)))))) (rss_one (rs_expr (re_app (rv 1) (ra_cons (re_lst (ra_cons (rv 3) (ra_cons (rv 4) (ra_cons (rv 5) (ra_cons (rv 6) (ra_cons (re_ty cm_tuple rfl T.b_tuple bt_tuple (ra_cons (re_lc [("_law_tag", 8)] c.calm c.nd (ri_e (rv 7)) (blkOk_by (own := [("_law_tag", 8)]) (N := n__law_far) (sc := defScope s__law_far) (by decide +kernel)) (by decide) (fun _ _ _ _ _ => (pg_name (i := 8) c.nd rfl (by first | exact Or.inl rfl | exact Or.inr rfl))) (fun _ _ _ _ _ => pts0) (fun _ _ _ _ _ => (re_callB c.blk (ok__law_add N T) (by decide) (ra_cons (rv 8) (ra_cons (rv 2) ra_nil))))) ra_nil)) ra_nil)))))) ra_nil)))))
      (rss_one (rs_ret (rv 1)))))
theorem fm__law_far (N : Nat) (T : Txt K mg base) {fa : Addr} {fd : FuncData} (F : FunD K "_law_far" "_law_far" (defArgs s__law_far) (defBody s__law_far) (defScope s__law_far) [] [] fa fd) : FnG P w K mg base 3 fa fd p__law_far (spM K mg p__law_far.length (m__law_far N)) := fk__law_far N T F
theorem ok__law_far (N : Nat) (T : Txt K mg base) : Df P w K mg base "_law_far" p__law_far 3 (m__law_far N) := by
  obtain ⟨fa, fd, g1, F⟩ := T.f__law_far
  exact ⟨fa, fd, g1, F.kp, F.bindsN (ps := p__law_far) fun _ _ _ _ _ _ us hl => match us, hl with | [_], _ => rfl, fm__law_far N T F⟩
theorem fk__law_later (N : Nat) (T : Txt K mg base) {fa : Addr} {fd : FuncData} (F : FunD K "_law_later" "_law_later" (defArgs s__law_later) (defBody s__law_later) (defScope s__law_later) [] [] fa fd) : FnG P w K mg base (2 + 1) fa fd p__law_later (spM K mg p__law_later.length (fnM n__law_later.length (b__law_later N))) := by
  apply def_okD F sc__law_later
  intro cdv A outer s H E c
  exact (rss_cons (rs_set (i := 2) c.nd rfl (re_new ra_nil))
      (rss_cons (rs_forC c.po c.calm (ri_cel (rv 0)) (rg_seq c.calm (rgs_cons (rg_name (i := 3) c.nd rfl) (rgs_cons (rg_name (i := 4) c.nd rfl) (rgs_cons (rg_name (i := 5) c.nd rfl) (rgs_cons (rg_name (i := 6) c.nd rfl) (rgs_cons (rg_name (i := 7) c.nd rfl) rgs_nil)))))) (rss_cons (rs_set (i := 8) c.nd rfl (re_tup (ra_cons (re_call c (ok__law_add N T) (by decide) (ra_cons (re_ix (rv 7) re_int) (ra_cons (re_call c (ok__law_add N T) (by decide) (ra_cons (rv 1) (ra_cons (re_tup (ra_cons re_int (ra_cons re_int ra_nil))) ra_nil))) ra_nil))) (ra_cons (re_call c (ok__law_add N T) (by decide) (ra_cons (re_ix (rv 7) re_int) (ra_cons (re_call c (ok__law_add N T) (by decide) (ra_cons (rv 1) (ra_cons (re_tup (ra_cons re_int (ra_cons re_int ra_nil))) ra_nil))) ra_nil))) (ra_cons (re_ix (rv 7) re_int) ra_nil)))))
      (rss_one (rs_expr (re_app (rv 2) (ra_cons (re_lst (ra_cons (rv 3) (ra_cons (rv 4) (ra_cons (re_if (rt_cmp om_is (rv 5) re_non (nomark _)) (re_tup (ra_cons re_int (ra_cons re_int ra_nil))) (rv 5)) (ra_cons (rv 6) (ra_cons (rv 8) ra_nil)))))) ra_nil))))))
      (rss_one (rs_ret (rv 2)))))
theorem fm__law_later (N : Nat) (T : Txt K mg base) {fa : Addr} {fd : FuncData} (F : FunD K "_law_later" "_law_later" (defArgs s__law_later) (defBody s__law_later) (defScope s__law_later) [] [] fa fd) : FnG P w K mg base 3 fa fd p__law_later (spM K mg p__law_later.length (m__law_later N)) := fk__law_later N T F
theorem ok__law_later (N : Nat) (T : Txt K mg base) : Df P w K mg base "_law_later" p__law_later 3 (m__law_later N) := by
  obtain ⟨fa, fd, g1, F⟩ := T.f__law_later
  exact ⟨fa, fd, g1, F.kp, F.bindsN (ps := p__law_later) fun _ _ _ _ _ _ us hl => match us, hl with | [_, _], _ => rfl, fm__law_later N T F⟩
theorem fk__law_pool (N : Nat) (T : Txt K mg base) {fa : Addr} {fd : FuncData} (F : FunD K "_law_pool" "_law_pool" (defArgs s__law_pool) (defBody s__law_pool) (defScope s__law_pool) [] [] fa fd) : FnG P w K mg base (0 + 1) fa fd p__law_pool (spM K mg p__law_pool.length (fnM n__law_pool.length (C.b__law_pool N))) := by
  apply def_okD F sc__law_pool
  intro cdv A outer s H E c
  exact (rss_cons (rs_set (i := 1) c.nd rfl re_int)
      (rss_cons (rs_if (rt_w (rw_or (rt_cmp om_lt (rv 0) re_int (nomark _)) (rw_or1 (rt_cmp om_ge (rv 0) (re_bin om_pow re_int re_int) (nomark _))))) (rss_one (rs_set (i := 1) c.nd rfl (re_b cm_abs rfl T.b_abs bt_abs (ra_cons (rv 0) ra_nil)))) rss_nil)
      (rss_one (rs_ret (re_new (ra_cons (re_bin om_mod (rv 0) re_int) (ra_cons (rv 1) (ra_cons re_int ra_nil))))))))
theorem fm__law_pool (N : Nat) (T : Txt K mg base) {fa : Addr} {fd : FuncData} (F : FunD K "_law_pool" "_law_pool" (defArgs s__law_pool) (defBody s__law_pool) (defScope s__law_pool) [] [] fa fd) : FnG P w K mg base 1 fa fd p__law_pool (spM K mg p__law_pool.length (C.m__law_pool N)) := fk__law_pool N T F
theorem ok__law_pool (N : Nat) (T : Txt K mg base) : Df P w K mg base "_law_pool" p__law_pool 1 (C.m__law_pool N) := by
  obtain ⟨fa, fd, g1, F⟩ := T.f__law_pool
  exact ⟨fa, fd, g1, F.kp, F.bindsN (ps := p__law_pool) fun _ _ _ _ _ _ us hl => match us, hl with | [_], _ => rfl, fm__law_pool N T F⟩
theorem fk_is_whole_ratios (N : Nat) (T : Txt K mg base) {fa : Addr} {fd : FuncData} (F : FunD K "is_whole" "is_whole" (defArgs s_is_whole_ratios) (defBody s_is_whole_ratios) (defScope s_is_whole_ratios) [] [] fa fd) : FnG P w K mg base (0 + 1) fa fd p_is_whole_ratios (spM K mg p_is_whole_ratios.length (fnM n_is_whole_ratios.length (C.b_is_whole N))) := by
  apply def_okD F sc_is_whole_ratios
  intro cdv A outer s H E c
  exact (rss_one (rs_ret (re_and (re_isTy .int T.b_isinstance T.b_int bt_int (rv 0)) (re_one (re_not (re_isTy .bool T.b_isinstance T.b_bool bt_bool (rv 0)))))))
theorem fm_is_whole_ratios (N : Nat) (T : Txt K mg base) {fa : Addr} {fd : FuncData} (F : FunD K "is_whole" "is_whole" (defArgs s_is_whole_ratios) (defBody s_is_whole_ratios) (defScope s_is_whole_ratios) [] [] fa fd) : FnG P w K mg base 1 fa fd p_is_whole_ratios (spM K mg p_is_whole_ratios.length (C.m_is_whole N)) := fk_is_whole_ratios N T F
theorem ok_is_whole_ratios (N : Nat) (T : Txt K mg base) : Df P w K mg base "is_whole_ratios" p_is_whole_ratios 1 (C.m_is_whole N) := by
  obtain ⟨fa, fd, g1, F⟩ := T.f_is_whole_ratios
  exact ⟨fa, fd, g1, F.kp, F.bindsN (ps := p_is_whole_ratios) fun _ _ _ _ _ _ us hl => match us, hl with | [_], _ => rfl, fm_is_whole_ratios N T F⟩
theorem fk_shared (N : Nat) (T : Txt K mg base) {fa : Addr} {fd : FuncData} (F : FunD K "shared" "shared" (defArgs s_shared) (defBody s_shared) (defScope s_shared) [] [] fa fd) : FnG P w K mg base (0 + 1) fa fd p_shared (spM K mg p_shared.length (fnM n_shared.length (C.b_shared N))) := by
  apply def_okD F sc_shared
  intro cdv A outer s H E c
  exact (rss_cons (rs_while N c.po (rt_cmp om_gt (rv 1) re_int (nomark _)) (rss_one (rs_par (i := 0) (j := 1) c.calm c.nd rfl rfl (by decide) (ra_cons (rv 1) (ra_cons (re_bin om_mod (rv 0) (rv 1)) ra_nil)))))
      (rss_one (rs_ret (rv 0))))
theorem fm_shared (N : Nat) (T : Txt K mg base) {fa : Addr} {fd : FuncData} (F : FunD K "shared" "shared" (defArgs s_shared) (defBody s_shared) (defScope s_shared) [] [] fa fd) : FnG P w K mg base 1 fa fd p_shared (spM K mg p_shared.length (C.m_shared N)) := fk_shared N T F
theorem ok_shared (N : Nat) (T : Txt K mg base) : Df P w K mg base "shared" p_shared 1 (C.m_shared N) := by
  obtain ⟨fa, fd, g1, F⟩ := T.f_shared
  exact ⟨fa, fd, g1, F.kp, F.bindsN (ps := p_shared) fun _ _ _ _ _ _ us hl => match us, hl with | [_, _], _ => rfl, fm_shared N T F⟩
theorem fk_is_ratio (N : Nat) (T : Txt K mg base) {fa : Addr} {fd : FuncData} (F : FunD K "is_ratio" "is_ratio" (defArgs s_is_ratio) (defBody s_is_ratio) (defScope s_is_ratio) [] [] fa fd) : FnG P w K mg base (1 + 1) fa fd p_is_ratio (spM K mg p_is_ratio.length (fnM n_is_ratio.length (C.b_is_ratio N))) := by
  apply def_okD F sc_is_ratio
  intro cdv A outer s H E c
  exact (rss_cons (rs_if (rt_w (rw_or (rt_not (rt_e (re_isTy .tuple T.b_isinstance T.b_tuple bt_tuple (rv 0)))) (rw_or (rt_cmp (om_ne c.u) (re_b cm_len rfl T.b_len bt_len (ra_cons (rv 0) ra_nil)) re_int (nomark _)) (rw_or1 (rt_not (rt_e (re_b (cm_all c.calm) rfl T.b_all bt_all (ra_cons (re_lc [("part", 3)] c.calm c.nd (ri_e (rv 0)) (blkOk_by (own := [("part", 3)]) (N := n_is_ratio) (sc := defScope s_is_ratio) (by decide +kernel)) (by decide) (fun _ _ _ _ _ => (pg_name (i := 3) c.nd rfl (by first | exact Or.inl rfl | exact Or.inr rfl))) (fun _ _ _ _ _ => pts0) (fun _ _ _ _ _ => (re_callB c.blk (ok_is_whole_ratios N T) (by decide) (ra_cons (rv 3) ra_nil)))) ra_nil)))))))) (rss_one (rs_ret re_bl)) rss_nil)
      (rss_cons (rs_asg (rv 0) (rg_tup c.calm (rgs_cons (rg_name (i := 1) c.nd rfl) (rgs_cons (rg_name (i := 2) c.nd rfl) rgs_nil))))
      (rss_one (rs_ret (re_and (re_cmp om_gt (rv 2) re_int (nomark _)) (re_one (re_cmp (om_eq c.u) (re_call c (ok_shared N T) (by decide) (ra_cons (re_b cm_abs rfl T.b_abs bt_abs (ra_cons (rv 1) ra_nil)) (ra_cons (rv 2) ra_nil))) re_int (nomark _))))))))
theorem fm_is_ratio (N : Nat) (T : Txt K mg base) {fa : Addr} {fd : FuncData} (F : FunD K "is_ratio" "is_ratio" (defArgs s_is_ratio) (defBody s_is_ratio) (defScope s_is_ratio) [] [] fa fd) : FnG P w K mg base 2 fa fd p_is_ratio (spM K mg p_is_ratio.length (C.m_is_ratio N)) := fk_is_ratio N T F
theorem ok_is_ratio (N : Nat) (T : Txt K mg base) : Df P w K mg base "is_ratio" p_is_ratio 2 (C.m_is_ratio N) := by
  obtain ⟨fa, fd, g1, F⟩ := T.f_is_ratio
  exact ⟨fa, fd, g1, F.kp, F.bindsN (ps := p_is_ratio) fun _ _ _ _ _ _ us hl => match us, hl with | [_], _ => rfl, fm_is_ratio N T F⟩
theorem fk_check_ratio (N : Nat) (T : Txt K mg base) {fa : Addr} {fd : FuncData} (F : FunD K "check_ratio" "check_ratio" (defArgs s_check_ratio) (defBody s_check_ratio) (defScope s_check_ratio) [] [] fa fd) : FnG P w K mg base (2 + 1) fa fd p_check_ratio (spM K mg p_check_ratio.length (fnM n_check_ratio.length (C.b_check_ratio N))) := by
  obtain ⟨C_NoRatio, g_NoRatio, x_NoRatio⟩ := T.x_NoRatio
  apply def_okD F sc_check_ratio
  intro cdv A outer s H E c
  exact (rss_one (rs_if (rt_not (rt_e (re_call c (ok_is_ratio N T) (by decide) (ra_cons (rv 0) ra_nil)))) (rss_one (rs_raise 3 rfl c PySem.F.excBase_ValueError x_NoRatio.x g_NoRatio x_NoRatio.k (raises_own x_NoRatio.b x_NoRatio.t))) rss_nil))
theorem fm_check_ratio (N : Nat) (T : Txt K mg base) {fa : Addr} {fd : FuncData} (F : FunD K "check_ratio" "check_ratio" (defArgs s_check_ratio) (defBody s_check_ratio) (defScope s_check_ratio) [] [] fa fd) : FnG P w K mg base 3 fa fd p_check_ratio (spM K mg p_check_ratio.length (C.m_check_ratio N)) := fk_check_ratio N T F
theorem ok_check_ratio (N : Nat) (T : Txt K mg base) : Df P w K mg base "check_ratio" p_check_ratio 3 (C.m_check_ratio N) := by
  obtain ⟨fa, fd, g1, F⟩ := T.f_check_ratio
  exact ⟨fa, fd, g1, F.kp, F.bindsN (ps := p_check_ratio) fun _ _ _ _ _ _ us hl => match us, hl with | [_], _ => rfl, fm_check_ratio N T F⟩
theorem fk_show_ratio (N : Nat) (T : Txt K mg base) {fa : Addr} {fd : FuncData} (F : FunD K "show_ratio" "show_ratio" (defArgs s_show_ratio) (defBody s_show_ratio) (defScope s_show_ratio) [] [] fa fd) : FnG P w K mg base (3 + 1) fa fd p_show_ratio (spM K mg p_show_ratio.length (fnM n_show_ratio.length (b_show_ratio N))) := by
  apply def_okD F sc_show_ratio
  intro cdv A outer s H E c
  exact (rss_cons (rs_expr (re_call c (ok_check_ratio N T) (by decide) (ra_cons (rv 0) ra_nil)))
      (rss_cons (rs_asg (rv 0) (rg_tup c.calm (rgs_cons (rg_name (i := 1) c.nd rfl) (rgs_cons (rg_name (i := 2) c.nd rfl) rgs_nil))))
      (rss_cons (rs_if (rt_cmp (om_eq c.u) (rv 2) re_int (nomark _)) (rss_one (rs_ret (re_ty cm_str rfl T.b_str bt_str (ra_cons (rv 1) ra_nil)))) rss_nil)
      (rss_one (rs_ret (re_js (.cons (re_fmt (rv 1)) (.cons re_str (.cons (re_fmt (rv 2)) .nil)))))))))
theorem fm_show_ratio (N : Nat) (T : Txt K mg base) {fa : Addr} {fd : FuncData} (F : FunD K "show_ratio" "show_ratio" (defArgs s_show_ratio) (defBody s_show_ratio) (defScope s_show_ratio) [] [] fa fd) : FnG P w K mg base 4 fa fd p_show_ratio (spM K mg p_show_ratio.length (m_show_ratio N)) := fk_show_ratio N T F
theorem ok_show_ratio (N : Nat) (T : Txt K mg base) : Df P w K mg base "show_ratio" p_show_ratio 4 (m_show_ratio N) := by
  obtain ⟨fa, fd, g1, F⟩ := T.f_show_ratio
  exact ⟨fa, fd, g1, F.kp, F.bindsN (ps := p_show_ratio) fun _ _ _ _ _ _ us hl => match us, hl with | [_], _ => rfl, fm_show_ratio N T F⟩
theorem fk_rate_text (N : Nat) (T : Txt K mg base) {fa : Addr} {fd : FuncData} (F : FunD K "rate_text" "rate_text" (defArgs s_rate_text) (defBody s_rate_text) (defScope s_rate_text) [] [] fa fd) : FnG P w K mg base (4 + 1) fa fd p_rate_text (spM K mg p_rate_text.length (fnM n_rate_text.length (b_rate_text N))) := by
  obtain ⟨k0_NONE, g_NONE, k_NONE⟩ := T.c_NONE
  apply def_okD F sc_rate_text
  intro cdv A outer s H E c
  exact (rss_cons (rs_if (rt_w (rw_or (rt_cmp om_is (rv 0) re_non (nomark _)) (rw_or1 (rt_cmp (om_eq c.u) (rv 0) (re_glob (v := .ref k0_NONE) rfl g_NONE rfl (fun _ => .tup (.inr k_NONE) (.cons (.int _) (.cons (.int _) .nil)))) (nomark _))))) (rss_one (rs_ret re_str)) rss_nil)
      (rss_one (rs_ret (re_call c (ok_show_ratio N T) (by decide) (ra_cons (rv 0) ra_nil)))))
theorem fm_rate_text (N : Nat) (T : Txt K mg base) {fa : Addr} {fd : FuncData} (F : FunD K "rate_text" "rate_text" (defArgs s_rate_text) (defBody s_rate_text) (defScope s_rate_text) [] [] fa fd) : FnG P w K mg base 5 fa fd p_rate_text (spM K mg p_rate_text.length (m_rate_text N)) := fk_rate_text N T F
theorem ok_rate_text (N : Nat) (T : Txt K mg base) : Df P w K mg base "rate_text" p_rate_text 5 (m_rate_text N) := by
  obtain ⟨fa, fd, g1, F⟩ := T.f_rate_text
  exact ⟨fa, fd, g1, F.kp, F.bindsN (ps := p_rate_text) fun _ _ _ _ _ _ us hl => match us, hl with | [_], _ => rfl, fm_rate_text N T F⟩
theorem fk_Client___str__ (N : Nat) (T : Txt K mg base) {fa : Addr} {fd : FuncData} (F : FunD K "__str__" "Client.__str__" (defArgs s_Client___str__) (defBody s_Client___str__) (defScope s_Client___str__) [] [] fa fd) : FnG P w K mg base (5 + 1) fa fd p_Client___str__ (spM K mg p_Client___str__.length (fnM n_Client___str__.length (b_Client___str__ N))) := by
  apply def_okD F sc_Client___str__
  intro cdv A outer s H E c
  exact (rss_one (rs_ret (re_js (.cons (re_fmt (re_fld 0 T.a_name (rv 0))) (.cons re_str (.cons (re_fmt (re_call c (ok_rate_text N T) (by decide) (ra_cons (re_fld 1 T.a_least (rv 0)) ra_nil))) (.cons re_str (.cons (re_fmt (re_call c (ok_rate_text N T) (by decide) (ra_cons (re_fld 2 T.a_most (rv 0)) ra_nil))) (.cons re_str (.cons (re_fmt (re_fld 3 T.a_weight (rv 0))) .nil))))))))))
theorem fm_Client___str__ (N : Nat) (T : Txt K mg base) {fa : Addr} {fd : FuncData} (F : FunD K "__str__" "Client.__str__" (defArgs s_Client___str__) (defBody s_Client___str__) (defScope s_Client___str__) [] [] fa fd) : FnG P w K mg base 6 fa fd p_Client___str__ (spM K mg p_Client___str__.length (m_Client___str__ N)) := fk_Client___str__ N T F
theorem dt_Client___str___0_ (N : Nat) (T : Txt K mg base) : Dt P w K mg base 33 "__str__" p_Client___str__ 6 0 [] g_Client___str___1_ (m_Client___str__ N) := by
  obtain ⟨C, fa, fd, g1, hc, hm, F⟩ := T.f_Client___str__
  have hb := kb_none (ps := p_Client___str__) F 1 [] (fun vs zs => (vs.drop 0).take 1) (fun r1 r3 => ((r1.drop 0).take 1)) fun _ _ _ _ _ _ us ws h1 h3 => match us, ws, h1, h3 with | [_], [], _, _ => rfl
  refine ⟨C, fa, fd, _, _, g1, hc, hm, hb, fun w ds vs es zs rd re h1 h2 => ?_, fm_Client___str__ N T F⟩
  match ds, es, h1, h2 with
  | [d0], [], _, _ =>
    obtain ⟨v0, vr0, rfl, q0, rd0⟩ := rd.cons_inv
    cases rd0.nil_inv
    cases re.nil_inv
    exact ⟨(.cons q0 .nil), rfl⟩
theorem fk_Client___repr__ (N : Nat) (T : Txt K mg base) {fa : Addr} {fd : FuncData} (F : FunD K "__repr__" "Client.__repr__" (defArgs s_Client___repr__) (defBody s_Client___repr__) (defScope s_Client___repr__) [] [] fa fd) : FnG P w K mg base (8 + 1) fa fd p_Client___repr__ (spM K mg p_Client___repr__.length (fnM n_Client___repr__.length (b_Client___repr__ N))) := by
  apply def_okD F sc_Client___repr__
  intro cdv A outer s H E c
  exact (rss_one (rs_ret (re_js (.cons re_str (.cons (re_fmt (re_strO c T.b_str (rv 0) (dt_Client___str___0_ N T) (by decide))) (.cons re_str .nil))))))
theorem fm_Client___repr__ (N : Nat) (T : Txt K mg base) {fa : Addr} {fd : FuncData} (F : FunD K "__repr__" "Client.__repr__" (defArgs s_Client___repr__) (defBody s_Client___repr__) (defScope s_Client___repr__) [] [] fa fd) : FnG P w K mg base 9 fa fd p_Client___repr__ (spM K mg p_Client___repr__.length (m_Client___repr__ N)) := fk_Client___repr__ N T F
theorem dt_Client___repr___0_ (N : Nat) (T : Txt K mg base) : Dt P w K mg base 33 "__repr__" p_Client___repr__ 9 0 [] g_Client___repr___1_ (m_Client___repr__ N) := by
  obtain ⟨C, fa, fd, g1, hc, hm, F⟩ := T.f_Client___repr__
  have hb := kb_none (ps := p_Client___repr__) F 1 [] (fun vs zs => (vs.drop 0).take 1) (fun r1 r3 => ((r1.drop 0).take 1)) fun _ _ _ _ _ _ us ws h1 h3 => match us, ws, h1, h3 with | [_], [], _, _ => rfl
  refine ⟨C, fa, fd, _, _, g1, hc, hm, hb, fun w ds vs es zs rd re h1 h2 => ?_, fm_Client___repr__ N T F⟩
  match ds, es, h1, h2 with
  | [d0], [], _, _ =>
    obtain ⟨v0, vr0, rfl, q0, rd0⟩ := rd.cons_inv
    cases rd0.nil_inv
    cases re.nil_inv
    exact ⟨(.cons q0 .nil), rfl⟩
theorem fk__law_by (N : Nat) (T : Txt K mg base) {fa : Addr} {fd : FuncData} (F : FunD K "_law_by" "_law_by" (defArgs s__law_by) (defBody s__law_by) (defScope s__law_by) [] [] fa fd) : FnG P w K mg base (1 + 1) fa fd p__law_by (spM K mg p__law_by.length (fnM n__law_by.length (C.b__law_by N))) := by
  apply def_okD F sc__law_by
  intro cdv A outer s H E c
  exact (rss_one (rs_ret (re_call c (ok__law_r N T) (by decide) (ra_cons (re_bin om_mul (re_ix (rv 0) re_int) (re_ix (rv 1) re_int)) (ra_cons (re_bin om_mul (re_ix (rv 0) re_int) (re_ix (rv 1) re_int)) ra_nil)))))
theorem fm__law_by (N : Nat) (T : Txt K mg base) {fa : Addr} {fd : FuncData} (F : FunD K "_law_by" "_law_by" (defArgs s__law_by) (defBody s__law_by) (defScope s__law_by) [] [] fa fd) : FnG P w K mg base 2 fa fd p__law_by (spM K mg p__law_by.length (C.m__law_by N)) := fk__law_by N T F
theorem ok__law_by (N : Nat) (T : Txt K mg base) : Df P w K mg base "_law_by" p__law_by 2 (C.m__law_by N) := by
  obtain ⟨fa, fd, g1, F⟩ := T.f__law_by
  exact ⟨fa, fd, g1, F.kp, F.bindsN (ps := p__law_by) fun _ _ _ _ _ _ us hl => match us, hl with | [_, _], _ => rfl, fm__law_by N T F⟩
theorem fk__law_less (N : Nat) (T : Txt K mg base) {fa : Addr} {fd : FuncData} (F : FunD K "_law_less" "_law_less" (defArgs s__law_less) (defBody s__law_less) (defScope s__law_less) [] [] fa fd) : FnG P w K mg base (0 + 1) fa fd p__law_less (spM K mg p__law_less.length (fnM n__law_less.length (C.b__law_less N))) := by
  apply def_okD F sc__law_less
  intro cdv A outer s H E c
  exact (rss_one (rs_ret (re_cmp om_lt (re_bin om_mul (re_ix (rv 0) re_int) (re_ix (rv 1) re_int)) (re_bin om_mul (re_ix (rv 1) re_int) (re_ix (rv 0) re_int)) (nomark _))))
theorem fm__law_less (N : Nat) (T : Txt K mg base) {fa : Addr} {fd : FuncData} (F : FunD K "_law_less" "_law_less" (defArgs s__law_less) (defBody s__law_less) (defScope s__law_less) [] [] fa fd) : FnG P w K mg base 1 fa fd p__law_less (spM K mg p__law_less.length (C.m__law_less N)) := fk__law_less N T F
theorem ok__law_less (N : Nat) (T : Txt K mg base) : Df P w K mg base "_law_less" p__law_less 1 (C.m__law_less N) := by
  obtain ⟨fa, fd, g1, F⟩ := T.f__law_less
  exact ⟨fa, fd, g1, F.kp, F.bindsN (ps := p__law_less) fun _ _ _ _ _ _ us hl => match us, hl with | [_, _], _ => rfl, fm__law_less N T F⟩
theorem fk__law_can (N : Nat) (T : Txt K mg base) {fa : Addr} {fd : FuncData} (F : FunD K "_law_can" "_law_can" (defArgs s__law_can) (defBody s__law_can) (defScope s__law_can) [] [] fa fd) : FnG P w K mg base (1 + 1) fa fd p__law_can (spM K mg p__law_can.length (fnM n__law_can.length (b__law_can N))) := by
  apply def_okD F sc__law_can
  intro cdv A outer s H E c
  exact (rss_cons (rs_setLc (i' := 2) [("_law_k", 3)] c.calm c.nd rfl (ri_range1 T.b_range (ra_cons (re_b cm_len rfl T.b_len bt_len (ra_cons (rv 0) ra_nil)) ra_nil)) (blkOk_by (own := [("_law_k", 3)]) (N := n__law_can) (sc := defScope s__law_can) (by decide +kernel)) (by decide) (fun _ _ _ _ _ => (pg_name (i := 3) c.nd rfl (by first | exact Or.inl rfl | exact Or.inr rfl))) (fun _ _ _ _ _ => pts_one (rt_w (rw_and (rt_cmp (om_ne c.u) (re_ix (re_ix (rv 0) (rv 3)) re_int) (re_tup (ra_cons re_int (ra_cons re_int ra_nil))) (nomark _)) (rw_and1 (rt_not (rt_e (re_callB c.blk (ok__law_less N T) (by decide) (ra_cons (rv 1) (ra_cons (re_ix (re_ix (re_ix (rv 0) (rv 3)) re_int) re_int) ra_nil))))))))) (fun _ _ _ _ _ => (rv 3)))
      (rss_one (rs_ret (re_lst (ra_cons (rv 2) (ra_cons (re_lc [("_law_k", 3)] c.calm c.nd (ri_range1 T.b_range (ra_cons (re_b cm_len rfl T.b_len bt_len (ra_cons (rv 0) ra_nil)) ra_nil)) (blkOk_by (own := [("_law_k", 3)]) (N := n__law_can) (sc := defScope s__law_can) (by decide +kernel)) (by decide) (fun _ _ _ _ _ => (pg_name (i := 3) c.nd rfl (by first | exact Or.inl rfl | exact Or.inr rfl))) (fun _ _ _ _ _ => pts_one (rt_w (rw_or (rt_cmp om_is (re_ix (re_ix (rv 0) (rv 3)) re_int) re_non (nomark _)) (rw_or1 (rt_not (rt_e (re_callB c.blk (ok__law_less N T) (by decide) (ra_cons (rv 1) (ra_cons (re_ix (re_ix (re_ix (rv 0) (rv 3)) re_int) re_int) ra_nil))))))))) (fun _ _ _ _ _ => (rv 3))) ra_nil))))))
theorem fm__law_can (N : Nat) (T : Txt K mg base) {fa : Addr} {fd : FuncData} (F : FunD K "_law_can" "_law_can" (defArgs s__law_can) (defBody s__law_can) (defScope s__law_can) [] [] fa fd) : FnG P w K mg base 2 fa fd p__law_can (spM K mg p__law_can.length (m__law_can N)) := fk__law_can N T F
theorem ok__law_can (N : Nat) (T : Txt K mg base) : Df P w K mg base "_law_can" p__law_can 2 (m__law_can N) := by
  obtain ⟨fa, fd, g1, F⟩ := T.f__law_can
  exact ⟨fa, fd, g1, F.kp, F.bindsN (ps := p__law_can) fun _ _ _ _ _ _ us hl => match us, hl with | [_, _], _ => rfl, fm__law_can N T F⟩
theorem fk__law_first (N : Nat) (T : Txt K mg base) {fa : Addr} {fd : FuncData} (F : FunD K "_law_first" "_law_first" (defArgs s__law_first) (defBody s__law_first) (defScope s__law_first) [] [] fa fd) : FnH P w K mg base 3 fa fd n__law_first "_law_first" (defScope s__law_first) p__law_first "_law_deed" 2 (fun fv cp fk => m__law_first fv cp fk N) := by
  refine def_okH (m := fun fv cp fk => b__law_first fv cp fk N) F sc__law_first (by decide) (ph_by (by decide +kernel)) ?_
  intro cdv A outer s H E fv cp fk c act
  exact (rss_cons (rs_set (i := 3) c.nd rfl (re_ix (rv 1) re_int))
      (rss_cons (rs_for c.po c.calm (ri_e (rv 1)) (rg_name (i := 4) c.nd rfl) (rss_one (rs_if (rt_e (re_call c (ok__law_less N T) (by decide) (ra_cons (act.one c (Nat.le_refl _) (ra_cons (re_ix (rv 0) (rv 4)) ra_nil) rfl) (ra_cons (act.one c (Nat.le_refl _) (ra_cons (re_ix (rv 0) (rv 3)) ra_nil) rfl) ra_nil)))) (rss_one (rs_set (i := 3) c.nd rfl (rv 4))) rss_nil)))
      (rss_one (rs_ret (rv 3)))))
theorem oh__law_first (N : Nat) (T : Txt K mg base) : Dh P w K mg base "_law_first" p__law_first 3 (fun fv cp fk => m__law_first fv cp fk N) := by
  obtain ⟨fa, fd, g1, F⟩ := T.f__law_first
  exact ⟨fa, fd, n__law_first, _, _, "_law_deed", 2, g1, F.kp, F.bindsN (ps := p__law_first) fun _ _ _ _ _ _ us hl => match us, hl with | [_, _, _], _ => rfl, rfl, Or.inl rfl, by decide, by decide, fk__law_first N T F⟩
theorem fk__law_top (N : Nat) (T : Txt K mg base) {fa : Addr} {fd : FuncData} (F : FunD K "_law_top" "_law_top" (defArgs s__law_top) (defBody s__law_top) (defScope s__law_top) [] [] fa fd) : FnG P w K mg base (1 + 1) fa fd p__law_top (spM K mg p__law_top.length (fnM n__law_top.length (C.b__law_top N))) := by
  apply def_okD F sc__law_top
  intro cdv A outer s H E c
  exact (rss_one (rs_ret (re_if (rt_e (re_call c (ok__law_less N T) (by decide) (ra_cons (rv 0) (ra_cons (rv 1) ra_nil)))) (rv 1) (rv 0))))
theorem fm__law_top (N : Nat) (T : Txt K mg base) {fa : Addr} {fd : FuncData} (F : FunD K "_law_top" "_law_top" (defArgs s__law_top) (defBody s__law_top) (defScope s__law_top) [] [] fa fd) : FnG P w K mg base 2 fa fd p__law_top (spM K mg p__law_top.length (C.m__law_top N)) := fk__law_top N T F
theorem ok__law_top (N : Nat) (T : Txt K mg base) : Df P w K mg base "_law_top" p__law_top 2 (C.m__law_top N) := by
  obtain ⟨fa, fd, g1, F⟩ := T.f__law_top
  exact ⟨fa, fd, g1, F.kp, F.bindsN (ps := p__law_top) fun _ _ _ _ _ _ us hl => match us, hl with | [_, _], _ => rfl, fm__law_top N T F⟩
theorem fk__law_choice_of (N : Nat) (T : Txt K mg base) {fa : Addr} {fd : FuncData} (F : FunD K "_law_choice_of" "_law_choice_of" (defArgs s__law_choice_of) (defBody s__law_choice_of) (defScope s__law_choice_of) [] [] fa fd) (he : fa = He.fAd K mk__law_choice_of.1) : FnG P w K mg base (4 + 1) fa fd p__law_choice_of (spM K mg p__law_choice_of.length (fnM n__law_choice_of.length (b__law_choice_of N))) := by
  subst he
  apply def_okL (p := mk__law_choice_of.1) F sc__law_choice_of
  intro cdv A outer s H E hc c
  exact (rss_cons (rs_asg (re_call c (ok__law_can N T) (by decide) (ra_cons (rv 0) (ra_cons (rv 1) ra_nil))) (rg_seq c.calm (rgs_cons (rg_name (i := 3) c.nd rfl) (rgs_cons (rg_name (i := 4) c.nd rfl) rgs_nil))))
      (rss_cons (rs_if (rt_cmp (om_ne c.u) (rv 3) (re_lst ra_nil) (nomark _)) (rss_one (rs_ret (re_tup (ra_cons re_str (ra_cons (re_callH2 c (oh__law_first N T) (by decide) (rv 0) (rv 3) (la_lam (prm := some "_law_row") (js := []) (nT := 0) (p := mk__law_choice_of.1) (q := mk__law_choice_of.2) (kb := 2) (lamP_by (sc := defScope s__law_choice_of) (caps := []) (by decide +kernel)) (show ∀ j ∈ ([] : List Nat), j < 7 by decide) (by decide) (show (["_law_row"] : List Str).Nodup by decide +kernel) rfl (T.tb mk__law_choice_of (by simp [tsL])) hc rfl (fun _ _ _ _ us h => match us, h with | [_], _ => rfl) (fun _ _ _ _ _ _ _ c => (re_call c (ok__law_add N T) (by decide) (ra_cons (re_ix (re_ix (rv 0) re_int) re_int) (ra_cons (re_call c (ok__law_by N T) (by decide) (ra_cons (re_tup (ra_cons (re_ix (rv 0) re_int) (ra_cons re_int ra_nil))) (ra_cons (re_ix (rv 0) re_int) ra_nil))) ra_nil))))) (by decide) rfl (by decide)) ra_nil))))) rss_nil)
      (rss_cons (rs_if (rt_cmp (om_ne c.u) (rv 4) (re_lst ra_nil) (nomark _)) (rss_one (rs_ret (re_tup (ra_cons re_str (ra_cons (re_callH2 c (oh__law_first N T) (by decide) (rv 0) (rv 4) (la_lam (prm := some "_law_row") (js := [2]) (nT := 0) (p := mk__law_choice_of.1) (q := mk__law_choice_of.2) (kb := 2) (lamP_by (sc := defScope s__law_choice_of) (caps := ["_law_speed"]) (by decide +kernel)) (show ∀ j ∈ ([2] : List Nat), j < 7 by decide) (by decide) (show (["_law_row", "_law_speed"] : List Str).Nodup by decide +kernel) rfl (T.tb mk__law_choice_of (by simp [tsL])) hc rfl (fun _ _ _ _ us h => match us, h with | [_], _ => rfl) (fun _ _ _ _ _ _ _ c => (re_call c (ok__law_top N T) (by decide) (ra_cons (re_ix (re_ix (rv 0) re_int) re_int) (ra_cons (rv 1) ra_nil))))) (by decide) rfl (by decide)) ra_nil))))) rss_nil)
      (rss_cons (rs_set (i := 5) c.nd rfl (re_binS om_addS (re_lcC [("_law_row", 6)] c.calm c.nd (ri_cel (rv 0)) (blkOk_by (own := [("_law_row", 6)]) (N := n__law_choice_of) (sc := defScope s__law_choice_of) (by decide +kernel)) (by decide) (fun _ _ _ _ _ => (pg_name (i := 6) c.nd rfl (by first | exact Or.inl rfl | exact Or.inr rfl))) (fun _ _ _ _ _ => pts0) (fun _ _ _ _ _ => (re_ix (re_ix (rv 6) re_int) re_int))) (re_lcC [("_law_row", 6)] c.calm c.nd (ri_cel (rv 0)) (blkOk_by (own := [("_law_row", 6)]) (N := n__law_choice_of) (sc := defScope s__law_choice_of) (by decide +kernel)) (by decide) (fun _ _ _ _ _ => (pg_name (i := 6) c.nd rfl (by first | exact Or.inl rfl | exact Or.inr rfl))) (fun _ _ _ _ _ => pts_one (rt_cmp (om_ne c.u) (re_ix (rv 6) re_int) (re_tup (ra_cons re_int (ra_cons re_int ra_nil))) (nomark _))) (fun _ _ _ _ _ => (re_ix (re_ix (rv 6) re_int) re_int)))))
      (rss_one (rs_ret (re_tup (ra_cons re_str (ra_cons (re_if (rt_cmp (om_ne c.u) (rv 5) (re_lst ra_nil) (nomark _)) (re_ix (rv 5) (re_callH2 c (oh__law_first N T) (by decide) (rv 5) (re_lr c.calm T.b_list T.b_range (re_b cm_len rfl T.b_len bt_len (ra_cons (rv 5) ra_nil))) (la_lam (prm := some "_law_spot") (js := []) (nT := 0) (p := mk__law_choice_of.1) (q := mk__law_choice_of.2) (kb := 0) (lamP_by (sc := defScope s__law_choice_of) (caps := []) (by decide +kernel)) (show ∀ j ∈ ([] : List Nat), j < 7 by decide) (by decide) (show (["_law_spot"] : List Str).Nodup by decide +kernel) rfl (T.tb mk__law_choice_of (by simp [tsL])) hc rfl (fun _ _ _ _ us h => match us, h with | [_], _ => rfl) (fun _ _ _ _ _ _ _ c => (rv 0))) (by decide) rfl (by decide))) re_non) ra_nil)))))))))
theorem fm__law_choice_of (N : Nat) (T : Txt K mg base) {fa : Addr} {fd : FuncData} (F : FunD K "_law_choice_of" "_law_choice_of" (defArgs s__law_choice_of) (defBody s__law_choice_of) (defScope s__law_choice_of) [] [] fa fd) (he : fa = He.fAd K mk__law_choice_of.1) : FnG P w K mg base 5 fa fd p__law_choice_of (spM K mg p__law_choice_of.length (m__law_choice_of N)) := fk__law_choice_of N T F he
theorem ok__law_choice_of (N : Nat) (T : Txt K mg base) : Df P w K mg base "_law_choice_of" p__law_choice_of 5 (m__law_choice_of N) := by
  obtain ⟨fa, fd, g1, F⟩ := T.f__law_choice_of
  exact ⟨fa, fd, g1, F.kp, F.bindsN (ps := p__law_choice_of) fun _ _ _ _ _ _ us hl => match us, hl with | [_, _, _], _ => rfl, fm__law_choice_of N T F (T.fe__law_choice_of _ g1)⟩
theorem fk_check_two (N : Nat) (T : Txt K mg base) {fa : Addr} {fd : FuncData} (F : FunD K "check_two" "check_two" (defArgs s_check_two) (defBody s_check_two) (defScope s_check_two) [] [] fa fd) : FnG P w K mg base (3 + 1) fa fd p_check_two (spM K mg p_check_two.length (fnM n_check_two.length (C.b_check_two N))) := by
  apply def_okD F sc_check_two
  intro cdv A outer s H E c
  exact (rss_cons (rs_expr (re_call c (ok_check_ratio N T) (by decide) (ra_cons (rv 0) ra_nil)))
      (rss_one (rs_expr (re_call c (ok_check_ratio N T) (by decide) (ra_cons (rv 1) ra_nil)))))
theorem fm_check_two (N : Nat) (T : Txt K mg base) {fa : Addr} {fd : FuncData} (F : FunD K "check_two" "check_two" (defArgs s_check_two) (defBody s_check_two) (defScope s_check_two) [] [] fa fd) : FnG P w K mg base 4 fa fd p_check_two (spM K mg p_check_two.length (C.m_check_two N)) := fk_check_two N T F
theorem ok_check_two (N : Nat) (T : Txt K mg base) : Df P w K mg base "check_two" p_check_two 4 (C.m_check_two N) := by
  obtain ⟨fa, fd, g1, F⟩ := T.f_check_two
  exact ⟨fa, fd, g1, F.kp, F.bindsN (ps := p_check_two) fun _ _ _ _ _ _ us hl => match us, hl with | [_, _], _ => rfl, fm_check_two N T F⟩
theorem fk_is_before (N : Nat) (T : Txt K mg base) {fa : Addr} {fd : FuncData} (F : FunD K "is_before" "is_before" (defArgs s_is_before) (defBody s_is_before) (defScope s_is_before) [] [] fa fd) : FnG P w K mg base (4 + 1) fa fd p_is_before (spM K mg p_is_before.length (fnM n_is_before.length (C.b_is_before N))) := by
  apply def_okD F sc_is_before
  intro cdv A outer s H E c
  exact (rss_cons (rs_expr (re_call c (ok_check_two N T) (by decide) (ra_cons (rv 0) (ra_cons (rv 1) ra_nil))))
      (rss_one (rs_ret (re_cmp om_lt (re_bin om_mul (re_ix (rv 0) re_int) (re_ix (rv 1) re_int)) (re_bin om_mul (re_ix (rv 1) re_int) (re_ix (rv 0) re_int)) (nomark _)))))
theorem fm_is_before (N : Nat) (T : Txt K mg base) {fa : Addr} {fd : FuncData} (F : FunD K "is_before" "is_before" (defArgs s_is_before) (defBody s_is_before) (defScope s_is_before) [] [] fa fd) : FnG P w K mg base 5 fa fd p_is_before (spM K mg p_is_before.length (C.m_is_before N)) := fk_is_before N T F
theorem ok_is_before (N : Nat) (T : Txt K mg base) : Df P w K mg base "is_before" p_is_before 5 (C.m_is_before N) := by
  obtain ⟨fa, fd, g1, F⟩ := T.f_is_before
  exact ⟨fa, fd, g1, F.kp, F.bindsN (ps := p_is_before) fun _ _ _ _ _ _ us hl => match us, hl with | [_, _], _ => rfl, fm_is_before N T F⟩
theorem fk_is_none (N : Nat) (T : Txt K mg base) {fa : Addr} {fd : FuncData} (F : FunD K "is_none" "is_none" (defArgs s_is_none) (defBody s_is_none) (defScope s_is_none) [] [] fa fd) : FnG P w K mg base (1 + 1) fa fd p_is_none (spM K mg p_is_none.length (fnM n_is_none.length (C.b_is_none N))) := by
  obtain ⟨k0_NONE, g_NONE, k_NONE⟩ := T.c_NONE
  apply def_okD F sc_is_none
  intro cdv A outer s H E c
  exact (rss_one (rs_ret (re_and (re_b (cm_all c.calm) rfl T.b_all bt_all (ra_cons (re_lc [("part", 1)] c.calm c.nd (ri_e (rv 0)) (blkOk_by (own := [("part", 1)]) (N := n_is_none) (sc := defScope s_is_none) (by decide +kernel)) (by decide) (fun _ _ _ _ _ => (pg_name (i := 1) c.nd rfl (by first | exact Or.inl rfl | exact Or.inr rfl))) (fun _ _ _ _ _ => pts0) (fun _ _ _ _ _ => (re_callB c.blk (ok_is_whole_ratios N T) (by decide) (ra_cons (rv 1) ra_nil)))) ra_nil)) (re_one (re_cmp (om_eq c.u) (rv 0) (re_glob (v := .ref k0_NONE) rfl g_NONE rfl (fun _ => .tup (.inr k_NONE) (.cons (.int _) (.cons (.int _) .nil)))) (nomark _))))))
theorem fm_is_none (N : Nat) (T : Txt K mg base) {fa : Addr} {fd : FuncData} (F : FunD K "is_none" "is_none" (defArgs s_is_none) (defBody s_is_none) (defScope s_is_none) [] [] fa fd) : FnG P w K mg base 2 fa fd p_is_none (spM K mg p_is_none.length (C.m_is_none N)) := fk_is_none N T F
theorem ok_is_none (N : Nat) (T : Txt K mg base) : Df P w K mg base "is_none" p_is_none 2 (C.m_is_none N) := by
  obtain ⟨fa, fd, g1, F⟩ := T.f_is_none
  exact ⟨fa, fd, g1, F.kp, F.bindsN (ps := p_is_none) fun _ _ _ _ _ _ us hl => match us, hl with | [_], _ => rfl, fm_is_none N T F⟩
theorem fk_is_rate (N : Nat) (T : Txt K mg base) {fa : Addr} {fd : FuncData} (F : FunD K "is_rate" "is_rate" (defArgs s_is_rate) (defBody s_is_rate) (defScope s_is_rate) [] [] fa fd) : FnG P w K mg base (2 + 1) fa fd p_is_rate (spM K mg p_is_rate.length (fnM n_is_rate.length (C.b_is_rate N))) := by
  apply def_okD F sc_is_rate
  intro cdv A outer s H E c
  exact (rss_one (rs_ret (re_and (re_call c (ok_is_ratio N T) (by decide) (ra_cons (rv 0) ra_nil)) (re_one (re_chain om_lt om_le re_int (re_ix (rv 0) re_int) (re_ix (rv 0) re_int))))))
theorem fm_is_rate (N : Nat) (T : Txt K mg base) {fa : Addr} {fd : FuncData} (F : FunD K "is_rate" "is_rate" (defArgs s_is_rate) (defBody s_is_rate) (defScope s_is_rate) [] [] fa fd) : FnG P w K mg base 3 fa fd p_is_rate (spM K mg p_is_rate.length (C.m_is_rate N)) := fk_is_rate N T F
theorem ok_is_rate (N : Nat) (T : Txt K mg base) : Df P w K mg base "is_rate" p_is_rate 3 (C.m_is_rate N) := by
  obtain ⟨fa, fd, g1, F⟩ := T.f_is_rate
  exact ⟨fa, fd, g1, F.kp, F.bindsN (ps := p_is_rate) fun _ _ _ _ _ _ us hl => match us, hl with | [_], _ => rfl, fm_is_rate N T F⟩
theorem fk_is_least (N : Nat) (T : Txt K mg base) {fa : Addr} {fd : FuncData} (F : FunD K "is_least" "is_least" (defArgs s_is_least) (defBody s_is_least) (defScope s_is_least) [] [] fa fd) : FnG P w K mg base (3 + 1) fa fd p_is_least (spM K mg p_is_least.length (fnM n_is_least.length (C.b_is_least N))) := by
  apply def_okD F sc_is_least
  intro cdv A outer s H E c
  exact (rss_one (rs_ret (re_or (re_call c (ok_is_rate N T) (by decide) (ra_cons (rv 0) ra_nil)) (re_one (re_and (re_isTy .tuple T.b_isinstance T.b_tuple bt_tuple (rv 0)) (re_and (re_cmp (om_eq c.u) (re_b cm_len rfl T.b_len bt_len (ra_cons (rv 0) ra_nil)) re_int (nomark _)) (re_one (re_call c (ok_is_none N T) (by decide) (ra_cons (rv 0) ra_nil)))))))))
theorem fm_is_least (N : Nat) (T : Txt K mg base) {fa : Addr} {fd : FuncData} (F : FunD K "is_least" "is_least" (defArgs s_is_least) (defBody s_is_least) (defScope s_is_least) [] [] fa fd) : FnG P w K mg base 4 fa fd p_is_least (spM K mg p_is_least.length (C.m_is_least N)) := fk_is_least N T F
theorem ok_is_least (N : Nat) (T : Txt K mg base) : Df P w K mg base "is_least" p_is_least 4 (C.m_is_least N) := by
  obtain ⟨fa, fd, g1, F⟩ := T.f_is_least
  exact ⟨fa, fd, g1, F.kp, F.bindsN (ps := p_is_least) fun _ _ _ _ _ _ us hl => match us, hl with | [_], _ => rfl, fm_is_least N T F⟩
theorem fk_is_name (N : Nat) (T : Txt K mg base) {fa : Addr} {fd : FuncData} (F : FunD K "is_name" "is_name" (defArgs s_is_name) (defBody s_is_name) (defScope s_is_name) [] [] fa fd) : FnG P w K mg base (0 + 1) fa fd p_is_name (spM K mg p_is_name.length (fnM n_is_name.length (C.b_is_name N))) := by
  obtain ⟨k0_LETTERS, g_LETTERS⟩ := T.c_LETTERS
  obtain ⟨k0_MOST_LETTERS, g_MOST_LETTERS⟩ := T.c_MOST_LETTERS
  apply def_okD F sc_is_name
  intro cdv A outer s H E c
  exact (rss_cons (rs_if (rt_w (rw_or (rt_not (rt_e (re_isTy .str T.b_isinstance T.b_str bt_str (rv 0)))) (rw_or1 (rt_not (rt_chain om_le om_le re_int (re_b cm_len rfl T.b_len bt_len (ra_cons (rv 0) ra_nil)) (re_glob (v := .int 8) rfl g_MOST_LETTERS ⟨_, rfl⟩ (fun _ => .int _))))))) (rss_one (rs_ret re_bl)) rss_nil)
      (rss_one (rs_ret (re_b (cm_all c.calm) rfl T.b_all bt_all (ra_cons (re_lc [("sign", 1)] c.calm c.nd (ri_str (rv 0)) (blkOk_by (own := [("sign", 1)]) (N := n_is_name) (sc := defScope s_is_name) (by decide +kernel)) (by decide) (fun _ _ _ _ _ => (pg_name (i := 1) c.nd rfl (by first | exact Or.inl rfl | exact Or.inr rfl))) (fun _ _ _ _ _ => pts0) (fun _ _ _ _ _ => (re_cmpS om_in (rv 1) (re_glob (v := .str "abcdefghijklmnopqrstuvwxyz") rfl g_LETTERS ⟨_, rfl⟩ (fun _ => .str _))))) ra_nil)))))
theorem fm_is_name (N : Nat) (T : Txt K mg base) {fa : Addr} {fd : FuncData} (F : FunD K "is_name" "is_name" (defArgs s_is_name) (defBody s_is_name) (defScope s_is_name) [] [] fa fd) : FnG P w K mg base 1 fa fd p_is_name (spM K mg p_is_name.length (C.m_is_name N)) := fk_is_name N T F
theorem ok_is_name (N : Nat) (T : Txt K mg base) : Df P w K mg base "is_name" p_is_name 1 (C.m_is_name N) := by
  obtain ⟨fa, fd, g1, F⟩ := T.f_is_name
  exact ⟨fa, fd, g1, F.kp, F.bindsN (ps := p_is_name) fun _ _ _ _ _ _ us hl => match us, hl with | [_], _ => rfl, fm_is_name N T F⟩
theorem fk_is_weight (N : Nat) (T : Txt K mg base) {fa : Addr} {fd : FuncData} (F : FunD K "is_weight" "is_weight" (defArgs s_is_weight) (defBody s_is_weight) (defScope s_is_weight) [] [] fa fd) : FnG P w K mg base (1 + 1) fa fd p_is_weight (spM K mg p_is_weight.length (fnM n_is_weight.length (C.b_is_weight N))) := by
  obtain ⟨k0_MOST_WEIGHT, g_MOST_WEIGHT⟩ := T.c_MOST_WEIGHT
  apply def_okD F sc_is_weight
  intro cdv A outer s H E c
  exact (rss_one (rs_ret (re_and (re_call c (ok_is_whole_ratios N T) (by decide) (ra_cons (rv 0) ra_nil)) (re_one (re_chain om_le om_le re_int (rv 0) (re_glob (v := .int 99) rfl g_MOST_WEIGHT ⟨_, rfl⟩ (fun _ => .int _)))))))
theorem fm_is_weight (N : Nat) (T : Txt K mg base) {fa : Addr} {fd : FuncData} (F : FunD K "is_weight" "is_weight" (defArgs s_is_weight) (defBody s_is_weight) (defScope s_is_weight) [] [] fa fd) : FnG P w K mg base 2 fa fd p_is_weight (spM K mg p_is_weight.length (C.m_is_weight N)) := fk_is_weight N T F
theorem ok_is_weight (N : Nat) (T : Txt K mg base) : Df P w K mg base "is_weight" p_is_weight 2 (C.m_is_weight N) := by
  obtain ⟨fa, fd, g1, F⟩ := T.f_is_weight
  exact ⟨fa, fd, g1, F.kp, F.bindsN (ps := p_is_weight) fun _ _ _ _ _ _ us hl => match us, hl with | [_], _ => rfl, fm_is_weight N T F⟩
theorem fk_Client___init__ (N : Nat) (T : Txt K mg base) {k0_NONE : Addr} {fa : Addr} {fd : FuncData} (F : FunD K "__init__" "Client.__init__" (defArgs s_Client___init__) (defBody s_Client___init__) (defScope s_Client___init__) [] [("least", .ref k0_NONE), ("most", .non), ("weight", (.int 1))] fa fd) : FnG P w K mg base (5 + 1) fa fd p_Client___init__ (spM K mg p_Client___init__.length (fnM n_Client___init__.length (b_Client___init__ N))) := by
  obtain ⟨C_NoName, g_NoName, x_NoName⟩ := T.x_NoName
  obtain ⟨C_NoWeight, g_NoWeight, x_NoWeight⟩ := T.x_NoWeight
  apply def_okD F sc_Client___init__
  intro cdv A outer s H E c
  exact (rss_cons (rs_if (rt_not (rt_e (re_call c (ok_is_name N T) (by decide) (ra_cons (rv 1) ra_nil)))) (rss_one (rs_raise 5 rfl c PySem.F.excBase_ValueError x_NoName.x g_NoName x_NoName.k (raises_own x_NoName.b x_NoName.t))) rss_nil)
      (rss_cons (rs_if (rt_not (rt_e (re_call c (ok_is_least N T) (by decide) (ra_cons (rv 2) ra_nil)))) (rss_one (rs_raiseF 6 5 c fam_ValueError (xi_NoRate T) (rv 2))) rss_nil)
      (rss_cons (rs_if (rt_w (rw_and (rt_cmp om_isnot (rv 3) re_non (nomark _)) (rw_and1 (rt_w (rw_or (rt_not (rt_e (re_call c (ok_is_rate N T) (by decide) (ra_cons (rv 3) ra_nil)))) (rw_or1 (rt_e (re_call c (ok_is_before N T) (by decide) (ra_cons (rv 3) (ra_cons (rv 2) ra_nil)))))))))) (rss_one (rs_raiseF 6 5 c fam_ValueError (xi_NoRate T) (rv 3))) rss_nil)
      (rss_cons (rs_if (rt_not (rt_e (re_call c (ok_is_weight N T) (by decide) (ra_cons (rv 4) ra_nil)))) (rss_one (rs_raise 7 rfl c PySem.F.excBase_ValueError x_NoWeight.x g_NoWeight x_NoWeight.k (raises_own x_NoWeight.b x_NoWeight.t))) rss_nil)
      (rss_cons (rs_fld 0 T.a_name (rv 0) (rv 1))
      (rss_cons (rs_fld 1 T.a_least (rv 0) (rv 2))
      (rss_cons (rs_fld 2 T.a_most (rv 0) (rv 3))
      (rss_one (rs_fld 3 T.a_weight (rv 0) (rv 4))))))))))
theorem fm_Client___init__ (N : Nat) (T : Txt K mg base) {k0_NONE : Addr} {fa : Addr} {fd : FuncData} (F : FunD K "__init__" "Client.__init__" (defArgs s_Client___init__) (defBody s_Client___init__) (defScope s_Client___init__) [] [("least", .ref k0_NONE), ("most", .non), ("weight", (.int 1))] fa fd) : FnG P w K mg base 6 fa fd p_Client___init__ (spM K mg p_Client___init__.length (m_Client___init__ N)) := fk_Client___init__ N T F
theorem dm_Client___init___1_least_most_weight (N : Nat) (T : Txt K mg base) : Dm P w K mg base 33 p_Client___init__ 6 1 ["least", "most", "weight"] C.g_Client___init___2_least_most_weight (m_Client___init__ N) := by
  obtain ⟨C, fa, fd, k0_NONE, g1, M, gk_NONE, kk_NONE, F⟩ := T.f_Client___init__
  have hb := kb_none (ps := p_Client___init__) F 2 ["least", "most", "weight"] (fun vs zs => ((vs.drop 0).take 1 ++ ((vs.drop 1).take 1 ++ ((zs.drop 0).take 1 ++ ((zs.drop 1).take 1 ++ (zs.drop 2).take 1))))) (fun r1 r3 => (((r1.drop 0).take 1).append (((r1.drop 1).take 1).append (((r3.drop 0).take 1).append (((r3.drop 1).take 1).append ((r3.drop 2).take 1)))))) fun _ _ _ _ _ _ us ws h1 h3 => match us, ws, h1, h3 with | [_, _], [_, _, _], _, _ => rfl
  refine ⟨C, fa, fd, _, _, g1, M, hb, fun w ds vs es zs rd re h1 h2 => ?_, fm_Client___init__ N T F⟩
  match ds, es, h1, h2 with
  | [d0, d1], [e0, e1, e2], _, _ =>
    obtain ⟨v0, vr0, rfl, q0, rd0⟩ := rd.cons_inv
    obtain ⟨v1, vr1, rfl, q1, rd1⟩ := rd0.cons_inv
    cases rd1.nil_inv
    obtain ⟨z0, zr0, rfl, p0, re0⟩ := re.cons_inv
    obtain ⟨z1, zr1, rfl, p1, re1⟩ := re0.cons_inv
    obtain ⟨z2, zr2, rfl, p2, re2⟩ := re1.cons_inv
    cases re2.nil_inv
    exact ⟨(.cons q0 (.cons q1 (.cons p0 (.cons p1 (.cons p2 .nil))))), rfl⟩
theorem fk__law_told_rivals (N : Nat) (T : Txt K mg base) {fa : Addr} {fd : FuncData} (F : FunD K "_law_told_rivals" "_law_told_rivals" (defArgs s__law_told_rivals) (defBody s__law_told_rivals) (defScope s__law_told_rivals) [] [] fa fd) : FnG P w K mg base (7 + 1) fa fd p__law_told_rivals (spM K mg p__law_told_rivals.length (fnM n__law_told_rivals.length (b__law_told_rivals N))) := by
  apply def_okD F sc__law_told_rivals
  intro cdv A outer s H E c
  exact (rss_cons (rs_set (i := 1) c.nd rfl (re_new ra_nil))
      (rss_cons (rs_for c.po c.calm (ri_range1 T.b_range (ra_cons (re_b cm_len rfl T.b_len bt_len (ra_cons (rv 0) ra_nil)) ra_nil)) (rg_name (i := 2) c.nd rfl) (rss_cons (rs_asg (re_ix (rv 0) (rv 2)) (rg_seq c.calm (rgs_cons (rg_name (i := 3) c.nd rfl) (rgs_cons (rg_name (i := 4) c.nd rfl) (rgs_cons (rg_name (i := 5) c.nd rfl) (rgs_cons (rg_name (i := 6) c.nd rfl) (rgs_cons (rg_name (i := 7) c.nd rfl) rgs_nil)))))))
      (rss_one (rs_expr (re_app (rv 1) (ra_cons (re_tup (ra_cons (rv 3) (ra_cons (re_mkI c (dm_Client___init___1_least_most_weight N T) (by decide) (ra_cons (re_ix re_str (rv 2)) ra_nil) (rk_cons (rv 4) (rk_cons (rv 5) (rk_cons (rv 6) rk_nil)))) (ra_cons (rv 7) ra_nil)))) ra_nil))))))
      (rss_one (rs_ret (re_ty cm_tuple rfl T.b_tuple bt_tuple (ra_cons (rv 1) ra_nil))))))
theorem fm__law_told_rivals (N : Nat) (T : Txt K mg base) {fa : Addr} {fd : FuncData} (F : FunD K "_law_told_rivals" "_law_told_rivals" (defArgs s__law_told_rivals) (defBody s__law_told_rivals) (defScope s__law_told_rivals) [] [] fa fd) : FnG P w K mg base 8 fa fd p__law_told_rivals (spM K mg p__law_told_rivals.length (m__law_told_rivals N)) := fk__law_told_rivals N T F
theorem ok__law_told_rivals (N : Nat) (T : Txt K mg base) : Df P w K mg base "_law_told_rivals" p__law_told_rivals 8 (m__law_told_rivals N) := by
  obtain ⟨fa, fd, g1, F⟩ := T.f__law_told_rivals
  exact ⟨fa, fd, g1, F.kp, F.bindsN (ps := p__law_told_rivals) fun _ _ _ _ _ _ us hl => match us, hl with | [_], _ => rfl, fm__law_told_rivals N T F⟩
theorem fk_is_time (N : Nat) (T : Txt K mg base) {fa : Addr} {fd : FuncData} (F : FunD K "is_time" "is_time" (defArgs s_is_time) (defBody s_is_time) (defScope s_is_time) [] [] fa fd) : FnG P w K mg base (2 + 1) fa fd p_is_time (spM K mg p_is_time.length (fnM n_is_time.length (C.b_is_time N))) := by
  apply def_okD F sc_is_time
  intro cdv A outer s H E c
  exact (rss_one (rs_ret (re_and (re_call c (ok_is_ratio N T) (by decide) (ra_cons (rv 0) ra_nil)) (re_one (re_cmp om_ge (re_ix (rv 0) re_int) re_int (nomark _))))))
theorem fm_is_time (N : Nat) (T : Txt K mg base) {fa : Addr} {fd : FuncData} (F : FunD K "is_time" "is_time" (defArgs s_is_time) (defBody s_is_time) (defScope s_is_time) [] [] fa fd) : FnG P w K mg base 3 fa fd p_is_time (spM K mg p_is_time.length (C.m_is_time N)) := fk_is_time N T F
theorem ok_is_time (N : Nat) (T : Txt K mg base) : Df P w K mg base "is_time" p_is_time 3 (C.m_is_time N) := by
  obtain ⟨fa, fd, g1, F⟩ := T.f_is_time
  exact ⟨fa, fd, g1, F.kp, F.bindsN (ps := p_is_time) fun _ _ _ _ _ _ us hl => match us, hl with | [_], _ => rfl, fm_is_time N T F⟩
theorem fk_are_tags (N : Nat) (T : Txt K mg base) {fa : Addr} {fd : FuncData} (F : FunD K "are_tags" "are_tags" (defArgs s_are_tags) (defBody s_are_tags) (defScope s_are_tags) [] [] fa fd) : FnG P w K mg base (3 + 1) fa fd p_are_tags (spM K mg p_are_tags.length (fnM n_are_tags.length (C.b_are_tags N))) := by
  apply def_okD F sc_are_tags
  intro cdv A outer s H E c
  exact (rss_one (rs_ret (re_and (re_isTy .tuple T.b_isinstance T.b_tuple bt_tuple (rv 0)) (re_and (re_cmp (om_eq c.u) (re_b cm_len rfl T.b_len bt_len (ra_cons (rv 0) ra_nil)) re_int (nomark _)) (re_one (re_b (cm_all c.calm) rfl T.b_all bt_all (ra_cons (re_lc [("one", 1)] c.calm c.nd (ri_e (rv 0)) (blkOk_by (own := [("one", 1)]) (N := n_are_tags) (sc := defScope s_are_tags) (by decide +kernel)) (by decide) (fun _ _ _ _ _ => (pg_name (i := 1) c.nd rfl (by first | exact Or.inl rfl | exact Or.inr rfl))) (fun _ _ _ _ _ => pts0) (fun _ _ _ _ _ => (re_callB c.blk (ok_is_time N T) (by decide) (ra_cons (rv 1) ra_nil)))) ra_nil)))))))
theorem fm_are_tags (N : Nat) (T : Txt K mg base) {fa : Addr} {fd : FuncData} (F : FunD K "are_tags" "are_tags" (defArgs s_are_tags) (defBody s_are_tags) (defScope s_are_tags) [] [] fa fd) : FnG P w K mg base 4 fa fd p_are_tags (spM K mg p_are_tags.length (C.m_are_tags N)) := fk_are_tags N T F
theorem ok_are_tags (N : Nat) (T : Txt K mg base) : Df P w K mg base "are_tags" p_are_tags 4 (C.m_are_tags N) := by
  obtain ⟨fa, fd, g1, F⟩ := T.f_are_tags
  exact ⟨fa, fd, g1, F.kp, F.bindsN (ps := p_are_tags) fun _ _ _ _ _ _ us hl => match us, hl with | [_], _ => rfl, fm_are_tags N T F⟩
theorem fk_is_whole_picks (N : Nat) (T : Txt K mg base) {fa : Addr} {fd : FuncData} (F : FunD K "is_whole" "is_whole" (defArgs s_is_whole_picks) (defBody s_is_whole_picks) (defScope s_is_whole_picks) [] [] fa fd) : FnG P w K mg base (0 + 1) fa fd p_is_whole_picks (spM K mg p_is_whole_picks.length (fnM n_is_whole_picks.length (b_is_whole_picks N))) := by
  apply def_okD F sc_is_whole_picks
  intro cdv A outer s H E c
  exact (rss_one (rs_ret (re_and (re_isTy .int T.b_isinstance T.b_int bt_int (rv 0)) (re_and (re_not (re_isTy .bool T.b_isinstance T.b_bool bt_bool (rv 0))) (re_one (re_chain om_le om_le (rv 1) (rv 0) (rv 2)))))))
theorem fm_is_whole_picks (N : Nat) (T : Txt K mg base) {fa : Addr} {fd : FuncData} (F : FunD K "is_whole" "is_whole" (defArgs s_is_whole_picks) (defBody s_is_whole_picks) (defScope s_is_whole_picks) [] [] fa fd) : FnG P w K mg base 1 fa fd p_is_whole_picks (spM K mg p_is_whole_picks.length (m_is_whole_picks N)) := fk_is_whole_picks N T F
theorem ok_is_whole_picks (N : Nat) (T : Txt K mg base) : Df P w K mg base "is_whole_picks" p_is_whole_picks 1 (m_is_whole_picks N) := by
  obtain ⟨fa, fd, g1, F⟩ := T.f_is_whole_picks
  exact ⟨fa, fd, g1, F.kp, F.bindsN (ps := p_is_whole_picks) fun _ _ _ _ _ _ us hl => match us, hl with | [_, _, _], _ => rfl, fm_is_whole_picks N T F⟩
theorem fk_is_rival (N : Nat) (T : Txt K mg base) {fa : Addr} {fd : FuncData} (F : FunD K "is_rival" "is_rival" (defArgs s_is_rival) (defBody s_is_rival) (defScope s_is_rival) [] [] fa fd) : FnG P w K mg base (4 + 1) fa fd p_is_rival (spM K mg p_is_rival.length (fnM n_is_rival.length (b_is_rival N))) := by
  obtain ⟨k0_MOST_SIZE, g_MOST_SIZE⟩ := T.c_MOST_SIZE
  obtain ⟨C_Client, g_Client⟩ := T.x_Client
  apply def_okD F sc_is_rival
  intro cdv A outer s H E c
  exact (rss_cons (rs_if (rt_w (rw_or (rt_not (rt_e (re_isTy .tuple T.b_isinstance T.b_tuple bt_tuple (rv 0)))) (rw_or1 (rt_cmp (om_ne c.u) (re_b cm_len rfl T.b_len bt_len (ra_cons (rv 0) ra_nil)) re_int (nomark _))))) (rss_one (rs_ret re_bl)) rss_nil)
      (rss_cons (rs_asg (rv 0) (rg_tup c.calm (rgs_cons (rg_name (i := 1) c.nd rfl) (rgs_cons (rg_name (i := 2) c.nd rfl) (rgs_cons (rg_name (i := 3) c.nd rfl) rgs_nil)))))
      (rss_one (rs_ret (re_and (re_call c (ok_is_whole_picks N T) (by decide) (ra_cons (rv 1) (ra_cons re_int (ra_cons (re_glob (v := .int 999) rfl g_MOST_SIZE ⟨_, rfl⟩ (fun _ => .int _)) ra_nil)))) (re_and (re_isO T.b_isinstance (rv 2) (pe_glob (v := .ref C_Client) rfl g_Client rfl) (T.io_Client _ g_Client)) (re_one (re_call c (ok_are_tags N T) (by decide) (ra_cons (rv 3) ra_nil)))))))))
theorem fm_is_rival (N : Nat) (T : Txt K mg base) {fa : Addr} {fd : FuncData} (F : FunD K "is_rival" "is_rival" (defArgs s_is_rival) (defBody s_is_rival) (defScope s_is_rival) [] [] fa fd) : FnG P w K mg base 5 fa fd p_is_rival (spM K mg p_is_rival.length (m_is_rival N)) := fk_is_rival N T F
theorem ok_is_rival (N : Nat) (T : Txt K mg base) : Df P w K mg base "is_rival" p_is_rival 5 (m_is_rival N) := by
  obtain ⟨fa, fd, g1, F⟩ := T.f_is_rival
  exact ⟨fa, fd, g1, F.kp, F.bindsN (ps := p_is_rival) fun _ _ _ _ _ _ us hl => match us, hl with | [_], _ => rfl, fm_is_rival N T F⟩
theorem fk_check_rivals (N : Nat) (T : Txt K mg base) {fa : Addr} {fd : FuncData} (F : FunD K "check_rivals" "check_rivals" (defArgs s_check_rivals) (defBody s_check_rivals) (defScope s_check_rivals) [] [] fa fd) : FnG P w K mg base (5 + 1) fa fd p_check_rivals (spM K mg p_check_rivals.length (fnM n_check_rivals.length (b_check_rivals N))) := by
  apply def_okD F sc_check_rivals
  intro cdv A outer s H E c
  exact (rss_cons (rs_if (rt_not (rt_e (re_isTy .tuple T.b_isinstance T.b_tuple bt_tuple (rv 0)))) (rss_one (rs_raiseF 14 6 c fam_ValueError (xi_NoRivals T) re_non)) rss_nil)
      (rss_one (rs_for c.po c.calm (ri_enum T.b_enumerate (ra_cons (rv 0) ra_nil)) (rg_tup c.calm (rgs_cons (rg_name (i := 1) c.nd rfl) (rgs_cons (rg_name (i := 2) c.nd rfl) rgs_nil))) (rss_one (rs_if (rt_not (rt_e (re_call c (ok_is_rival N T) (by decide) (ra_cons (rv 2) ra_nil)))) (rss_one (rs_raiseF 14 6 c fam_ValueError (xi_NoRivals T) (rv 1))) rss_nil)))))
theorem fm_check_rivals (N : Nat) (T : Txt K mg base) {fa : Addr} {fd : FuncData} (F : FunD K "check_rivals" "check_rivals" (defArgs s_check_rivals) (defBody s_check_rivals) (defScope s_check_rivals) [] [] fa fd) : FnG P w K mg base 6 fa fd p_check_rivals (spM K mg p_check_rivals.length (m_check_rivals N)) := fk_check_rivals N T F
theorem ok_check_rivals (N : Nat) (T : Txt K mg base) : Df P w K mg base "check_rivals" p_check_rivals 6 (m_check_rivals N) := by
  obtain ⟨fa, fd, g1, F⟩ := T.f_check_rivals
  exact ⟨fa, fd, g1, F.kp, F.bindsN (ps := p_check_rivals) fun _ _ _ _ _ _ us hl => match us, hl with | [_], _ => rfl, fm_check_rivals N T F⟩
theorem fk_check_time (N : Nat) (T : Txt K mg base) {fa : Addr} {fd : FuncData} (F : FunD K "check_time" "check_time" (defArgs s_check_time) (defBody s_check_time) (defScope s_check_time) [] [] fa fd) : FnG P w K mg base (3 + 1) fa fd p_check_time (spM K mg p_check_time.length (fnM n_check_time.length (C.b_check_time N))) := by
  obtain ⟨C_NoTime, g_NoTime, x_NoTime⟩ := T.x_NoTime
  apply def_okD F sc_check_time
  intro cdv A outer s H E c
  exact (rss_one (rs_if (rt_not (rt_e (re_call c (ok_is_time N T) (by decide) (ra_cons (rv 0) ra_nil)))) (rss_one (rs_raise 9 rfl c PySem.F.excBase_ValueError x_NoTime.x g_NoTime x_NoTime.k (raises_own x_NoTime.b x_NoTime.t))) rss_nil))
theorem fm_check_time (N : Nat) (T : Txt K mg base) {fa : Addr} {fd : FuncData} (F : FunD K "check_time" "check_time" (defArgs s_check_time) (defBody s_check_time) (defScope s_check_time) [] [] fa fd) : FnG P w K mg base 4 fa fd p_check_time (spM K mg p_check_time.length (C.m_check_time N)) := fk_check_time N T F
theorem ok_check_time (N : Nat) (T : Txt K mg base) : Df P w K mg base "check_time" p_check_time 4 (C.m_check_time N) := by
  obtain ⟨fa, fd, g1, F⟩ := T.f_check_time
  exact ⟨fa, fd, g1, F.kp, F.bindsN (ps := p_check_time) fun _ _ _ _ _ _ us hl => match us, hl with | [_], _ => rfl, fm_check_time N T F⟩
theorem fk_check_pick (N : Nat) (T : Txt K mg base) {fa : Addr} {fd : FuncData} (F : FunD K "check_pick" "check_pick" (defArgs s_check_pick) (defBody s_check_pick) (defScope s_check_pick) [] [] fa fd) : FnG P w K mg base (6 + 1) fa fd p_check_pick (spM K mg p_check_pick.length (fnM n_check_pick.length (b_check_pick N))) := by
  apply def_okD F sc_check_pick
  intro cdv A outer s H E c
  exact (rss_cons (rs_expr (re_call c (ok_check_rivals N T) (by decide) (ra_cons (rv 0) ra_nil)))
      (rss_cons (rs_expr (re_call c (ok_check_time N T) (by decide) (ra_cons (rv 1) ra_nil)))
      (rss_one (rs_expr (re_call c (ok_check_time N T) (by decide) (ra_cons (rv 2) ra_nil))))))
theorem fm_check_pick (N : Nat) (T : Txt K mg base) {fa : Addr} {fd : FuncData} (F : FunD K "check_pick" "check_pick" (defArgs s_check_pick) (defBody s_check_pick) (defScope s_check_pick) [] [] fa fd) : FnG P w K mg base 7 fa fd p_check_pick (spM K mg p_check_pick.length (m_check_pick N)) := fk_check_pick N T F
theorem ok_check_pick (N : Nat) (T : Txt K mg base) : Df P w K mg base "check_pick" p_check_pick 7 (m_check_pick N) := by
  obtain ⟨fa, fd, g1, F⟩ := T.f_check_pick
  exact ⟨fa, fd, g1, F.kp, F.bindsN (ps := p_check_pick) fun _ _ _ _ _ _ us hl => match us, hl with | [_, _, _], _ => rfl, fm_check_pick N T F⟩
theorem fk_by_clock (N : Nat) (T : Txt K mg base) {fa : Addr} {fd : FuncData} (F : FunD K "by_clock" "by_clock" (defArgs s_by_clock) (defBody s_by_clock) (defScope s_by_clock) [] [] fa fd) : FnG P w K mg base (5 + 1) fa fd p_by_clock (spM K mg p_by_clock.length (fnM n_by_clock.length (b_by_clock N))) := by
  obtain ⟨k0_NONE, g_NONE, k_NONE⟩ := T.c_NONE
  apply def_okD F sc_by_clock
  intro cdv A outer s H E c
  exact (rss_cons (rs_asg (rv 0) (rg_tup c.calm (rgs_cons (rg_name (i := 2) c.nd rfl) (rgs_cons (rg_name (i := 3) c.nd rfl) (rgs_cons (rg_name (i := 4) c.nd rfl) rgs_nil)))))
      (rss_one (rs_ret (re_and (re_cmp (om_ne c.u) (re_fld 1 T.a_least (rv 3)) (re_glob (v := .ref k0_NONE) rfl g_NONE rfl (fun _ => .tup (.inr k_NONE) (.cons (.int _) (.cons (.int _) .nil)))) (nomark _)) (re_one (re_not (re_call c (ok_is_before N T) (by decide) (ra_cons (rv 1) (ra_cons (re_ix (rv 4) re_int) ra_nil)))))))))
theorem fm_by_clock (N : Nat) (T : Txt K mg base) {fa : Addr} {fd : FuncData} (F : FunD K "by_clock" "by_clock" (defArgs s_by_clock) (defBody s_by_clock) (defScope s_by_clock) [] [] fa fd) : FnG P w K mg base 6 fa fd p_by_clock (spM K mg p_by_clock.length (m_by_clock N)) := fk_by_clock N T F
theorem ok_by_clock (N : Nat) (T : Txt K mg base) : Df P w K mg base "by_clock" p_by_clock 6 (m_by_clock N) := by
  obtain ⟨fa, fd, g1, F⟩ := T.f_by_clock
  exact ⟨fa, fd, g1, F.kp, F.bindsN (ps := p_by_clock) fun _ _ _ _ _ _ us hl => match us, hl with | [_, _], _ => rfl, fm_by_clock N T F⟩
theorem fk_by_gate (N : Nat) (T : Txt K mg base) {fa : Addr} {fd : FuncData} (F : FunD K "by_gate" "by_gate" (defArgs s_by_gate) (defBody s_by_gate) (defScope s_by_gate) [] [] fa fd) : FnG P w K mg base (5 + 1) fa fd p_by_gate (spM K mg p_by_gate.length (fnM n_by_gate.length (b_by_gate N))) := by
  apply def_okD F sc_by_gate
  intro cdv A outer s H E c
  exact (rss_cons (rs_asg (rv 0) (rg_tup c.calm (rgs_cons (rg_name (i := 2) c.nd rfl) (rgs_cons (rg_name (i := 3) c.nd rfl) (rgs_cons (rg_name (i := 4) c.nd rfl) rgs_nil)))))
      (rss_one (rs_ret (re_or (re_cmp om_is (re_fld 2 T.a_most (rv 3)) re_non (nomark _)) (re_one (re_not (re_call c (ok_is_before N T) (by decide) (ra_cons (rv 1) (ra_cons (re_ix (rv 4) re_int) ra_nil)))))))))
theorem fm_by_gate (N : Nat) (T : Txt K mg base) {fa : Addr} {fd : FuncData} (F : FunD K "by_gate" "by_gate" (defArgs s_by_gate) (defBody s_by_gate) (defScope s_by_gate) [] [] fa fd) : FnG P w K mg base 6 fa fd p_by_gate (spM K mg p_by_gate.length (m_by_gate N)) := fk_by_gate N T F
theorem ok_by_gate (N : Nat) (T : Txt K mg base) : Df P w K mg base "by_gate" p_by_gate 6 (m_by_gate N) := by
  obtain ⟨fa, fd, g1, F⟩ := T.f_by_gate
  exact ⟨fa, fd, g1, F.kp, F.bindsN (ps := p_by_gate) fun _ _ _ _ _ _ us hl => match us, hl with | [_, _], _ => rfl, fm_by_gate N T F⟩
theorem fk_first_of (N : Nat) (T : Txt K mg base) {fa : Addr} {fd : FuncData} (F : FunD K "first_of" "first_of" (defArgs s_first_of) (defBody s_first_of) (defScope s_first_of) [] [] fa fd) : FnH P w K mg base 7 fa fd n_first_of "first_of" (defScope s_first_of) p_first_of "key" 2 (fun fv cp fk => m_first_of fv cp fk N) := by
  refine def_okH (m := fun fv cp fk => b_first_of fv cp fk N) F sc_first_of (by decide) (ph_by (by decide +kernel)) ?_
  intro cdv A outer s H E fv cp fk c act
  exact (rss_cons (rs_asg (rv 1) (rg_star (i := 1) c.calm (rgs_cons (rg_name (i := 3) c.nd rfl) (rgs_star (rg_name (i := 4) c.nd rfl) rgs_nil))))
      (rss_cons (rs_for c.po c.calm (ri_e (rv 4)) (rg_name (i := 5) c.nd rfl) (rss_one (rs_if (rt_e (re_call c (ok_is_before N T) (by decide) (ra_cons (act.one c (Nat.le_refl _) (ra_cons (re_ix (rv 0) (rv 5)) ra_nil) rfl) (ra_cons (act.one c (Nat.le_refl _) (ra_cons (re_ix (rv 0) (rv 3)) ra_nil) rfl) ra_nil)))) (rss_one (rs_set (i := 3) c.nd rfl (rv 5))) rss_nil)))
      (rss_one (rs_ret (rv 3)))))
theorem oh_first_of (N : Nat) (T : Txt K mg base) : Dh P w K mg base "first_of" p_first_of 7 (fun fv cp fk => m_first_of fv cp fk N) := by
  obtain ⟨fa, fd, g1, F⟩ := T.f_first_of
  exact ⟨fa, fd, n_first_of, _, _, "key", 2, g1, F.kp, F.bindsN (ps := p_first_of) fun _ _ _ _ _ _ us hl => match us, hl with | [_, _, _], _ => rfl, rfl, Or.inl rfl, by decide, by decide, fk_first_of N T F⟩
theorem fk_greater (N : Nat) (T : Txt K mg base) {fa : Addr} {fd : FuncData} (F : FunD K "greater" "greater" (defArgs s_greater) (defBody s_greater) (defScope s_greater) [] [] fa fd) : FnG P w K mg base (5 + 1) fa fd p_greater (spM K mg p_greater.length (fnM n_greater.length (C.b_greater N))) := by
  apply def_okD F sc_greater
  intro cdv A outer s H E c
  exact (rss_one (rs_ret (re_if (rt_e (re_call c (ok_is_before N T) (by decide) (ra_cons (rv 0) (ra_cons (rv 1) ra_nil)))) (rv 1) (rv 0))))
theorem fm_greater (N : Nat) (T : Txt K mg base) {fa : Addr} {fd : FuncData} (F : FunD K "greater" "greater" (defArgs s_greater) (defBody s_greater) (defScope s_greater) [] [] fa fd) : FnG P w K mg base 6 fa fd p_greater (spM K mg p_greater.length (C.m_greater N)) := fk_greater N T F
theorem ok_greater (N : Nat) (T : Txt K mg base) : Df P w K mg base "greater" p_greater 6 (C.m_greater N) := by
  obtain ⟨fa, fd, g1, F⟩ := T.f_greater
  exact ⟨fa, fd, g1, F.kp, F.bindsN (ps := p_greater) fun _ _ _ _ _ _ us hl => match us, hl with | [_, _], _ => rfl, fm_greater N T F⟩
theorem fk_next_moment (N : Nat) (T : Txt K mg base) {fa : Addr} {fd : FuncData} (F : FunD K "next_moment" "next_moment" (defArgs s_next_moment) (defBody s_next_moment) (defScope s_next_moment) [] [] fa fd) : FnG P w K mg base (5 + 1) fa fd p_next_moment (spM K mg p_next_moment.length (fnM n_next_moment.length (b_next_moment N))) := by
  obtain ⟨k0_NONE, g_NONE, k_NONE⟩ := T.c_NONE
  apply def_okD F sc_next_moment
  intro cdv A outer s H E c
  exact (rss_cons (rs_setLcN (i' := 1) [("size", 5), ("client", 6), ("tags", 7)] c.calm c.nd rfl (ri_e (rv 0)) (blkOk_by (own := [("size", 5), ("client", 6), ("tags", 7)]) (N := n_next_moment) (sc := defScope s_next_moment) (by decide +kernel)) (by decide) (fun _ _ _ _ _ => pg_tup c.calm (pgs_cons (pg_name (i := 5) c.nd rfl (by first | exact Or.inl rfl | exact Or.inr rfl)) (pgs_cons (pg_name (i := 6) c.nd rfl (by first | exact Or.inl rfl | exact Or.inr rfl)) (pgs_cons (pg_name (i := 7) c.nd rfl (by first | exact Or.inl rfl | exact Or.inr rfl)) pgs_nil)))) (fun _ _ _ _ _ => pts0) (fun _ _ _ _ _ => (re_ix (rv 7) re_int)))
      (rss_cons (rs_aug (i := 1) c.nd rfl (re_lc [("size", 5), ("client", 6), ("tags", 7)] c.calm c.nd (ri_e (rv 0)) (blkOk_by (own := [("size", 5), ("client", 6), ("tags", 7)]) (N := n_next_moment) (sc := defScope s_next_moment) (by decide +kernel)) (by decide) (fun _ _ _ _ _ => pg_tup c.calm (pgs_cons (pg_name (i := 5) c.nd rfl (by first | exact Or.inl rfl | exact Or.inr rfl)) (pgs_cons (pg_name (i := 6) c.nd rfl (by first | exact Or.inl rfl | exact Or.inr rfl)) (pgs_cons (pg_name (i := 7) c.nd rfl (by first | exact Or.inl rfl | exact Or.inr rfl)) pgs_nil)))) (fun _ _ _ _ _ => pts_one (rt_cmp (om_ne c.u) (re_fld 1 T.a_least (rv 6)) (re_glob (v := .ref k0_NONE) rfl g_NONE rfl (fun _ => .tup (.inr k_NONE) (.cons (.int _) (.cons (.int _) .nil)))) (nomark _))) (fun _ _ _ _ _ => (re_ix (rv 7) re_int))))
      (rss_cons (rs_if (rt_cmpS (om_eqS c.u) (rv 1) (re_lst ra_nil)) (rss_one (rs_ret re_non)) rss_nil)
      (rss_cons (rs_asg (rv 1) (rg_star (i := 1) c.calm (rgs_cons (rg_name (i := 2) c.nd rfl) (rgs_star (rg_name (i := 3) c.nd rfl) rgs_nil))))
      (rss_cons (rs_for c.po c.calm (ri_e (rv 3)) (rg_name (i := 4) c.nd rfl) (rss_one (rs_if (rt_e (re_call c (ok_is_before N T) (by decide) (ra_cons (rv 4) (ra_cons (rv 2) ra_nil)))) (rss_one (rs_set (i := 2) c.nd rfl (rv 4))) rss_nil)))
      (rss_one (rs_ret (rv 2))))))))
theorem fm_next_moment (N : Nat) (T : Txt K mg base) {fa : Addr} {fd : FuncData} (F : FunD K "next_moment" "next_moment" (defArgs s_next_moment) (defBody s_next_moment) (defScope s_next_moment) [] [] fa fd) : FnG P w K mg base 6 fa fd p_next_moment (spM K mg p_next_moment.length (m_next_moment N)) := fk_next_moment N T F
theorem ok_next_moment (N : Nat) (T : Txt K mg base) : Df P w K mg base "next_moment" p_next_moment 6 (m_next_moment N) := by
  obtain ⟨fa, fd, g1, F⟩ := T.f_next_moment
  exact ⟨fa, fd, g1, F.kp, F.bindsN (ps := p_next_moment) fun _ _ _ _ _ _ us hl => match us, hl with | [_], _ => rfl, fm_next_moment N T F⟩
theorem fk_lowest (N : Nat) (T : Txt K mg base) {fa : Addr} {fd : FuncData} (F : FunD K "lowest" "lowest" (defArgs s_lowest) (defBody s_lowest) (defScope s_lowest) [] [] fa fd) : FnG P w K mg base (1 + 1) fa fd p_lowest (spM K mg p_lowest.length (fnM n_lowest.length (C.b_lowest N))) := by
  apply def_okD F sc_lowest
  intro cdv A outer s H E c
  exact (rss_cons (rs_set (i := 2) c.nd rfl (re_call c (ok_shared N T) (by decide) (ra_cons (re_b cm_abs rfl T.b_abs bt_abs (ra_cons (rv 0) ra_nil)) (ra_cons (rv 1) ra_nil))))
      (rss_one (rs_ret (re_tup (ra_cons (re_bin om_div (rv 0) (rv 2)) (ra_cons (re_bin om_div (rv 1) (rv 2)) ra_nil))))))
theorem fm_lowest (N : Nat) (T : Txt K mg base) {fa : Addr} {fd : FuncData} (F : FunD K "lowest" "lowest" (defArgs s_lowest) (defBody s_lowest) (defScope s_lowest) [] [] fa fd) : FnG P w K mg base 2 fa fd p_lowest (spM K mg p_lowest.length (C.m_lowest N)) := fk_lowest N T F
theorem ok_lowest (N : Nat) (T : Txt K mg base) : Df P w K mg base "lowest" p_lowest 2 (C.m_lowest N) := by
  obtain ⟨fa, fd, g1, F⟩ := T.f_lowest
  exact ⟨fa, fd, g1, F.kp, F.bindsN (ps := p_lowest) fun _ _ _ _ _ _ us hl => match us, hl with | [_, _], _ => rfl, fm_lowest N T F⟩
theorem fk_added (N : Nat) (T : Txt K mg base) {fa : Addr} {fd : FuncData} (F : FunD K "added" "added" (defArgs s_added) (defBody s_added) (defScope s_added) [] [] fa fd) : FnG P w K mg base (4 + 1) fa fd p_added (spM K mg p_added.length (fnM n_added.length (C.b_added N))) := by
  apply def_okD F sc_added
  intro cdv A outer s H E c
  exact (rss_cons (rs_expr (re_call c (ok_check_two N T) (by decide) (ra_cons (rv 0) (ra_cons (rv 1) ra_nil))))
      (rss_cons (rs_asg (re_tup (ra_cons (rv 0) (ra_cons (rv 1) ra_nil))) (rg_tup c.calm (rgs_cons (rg_tup c.calm (rgs_cons (rg_name (i := 2) c.nd rfl) (rgs_cons (rg_name (i := 3) c.nd rfl) rgs_nil))) (rgs_cons (rg_tup c.calm (rgs_cons (rg_name (i := 4) c.nd rfl) (rgs_cons (rg_name (i := 5) c.nd rfl) rgs_nil))) rgs_nil))))
      (rss_one (rs_ret (re_call c (ok_lowest N T) (by decide) (ra_cons (re_binS om_addS (re_bin om_mul (rv 2) (rv 5)) (re_bin om_mul (rv 4) (rv 3))) (ra_cons (re_bin om_mul (rv 3) (rv 5)) ra_nil)))))))
theorem fm_added (N : Nat) (T : Txt K mg base) {fa : Addr} {fd : FuncData} (F : FunD K "added" "added" (defArgs s_added) (defBody s_added) (defScope s_added) [] [] fa fd) : FnG P w K mg base 5 fa fd p_added (spM K mg p_added.length (C.m_added N)) := fk_added N T F
theorem ok_added (N : Nat) (T : Txt K mg base) : Df P w K mg base "added" p_added 5 (C.m_added N) := by
  obtain ⟨fa, fd, g1, F⟩ := T.f_added
  exact ⟨fa, fd, g1, F.kp, F.bindsN (ps := p_added) fun _ _ _ _ _ _ us hl => match us, hl with | [_, _], _ => rfl, fm_added N T F⟩
theorem fk_ratio (N : Nat) (T : Txt K mg base) {fa : Addr} {fd : FuncData} (F : FunD K "ratio" "ratio" (defArgs s_ratio) (defBody s_ratio) (defScope s_ratio) [(.int 1)] [] fa fd) : FnG P w K mg base (2 + 1) fa fd p_ratio (spM K mg p_ratio.length (fnM n_ratio.length (C.b_ratio N))) := by
  obtain ⟨C_NoRatio, g_NoRatio, x_NoRatio⟩ := T.x_NoRatio
  apply def_okD F sc_ratio
  intro cdv A outer s H E c
  exact (rss_cons (rs_if (rt_w (rw_or (rt_not (rt_e (re_call c (ok_is_whole_ratios N T) (by decide) (ra_cons (rv 0) ra_nil)))) (rw_or (rt_not (rt_e (re_call c (ok_is_whole_ratios N T) (by decide) (ra_cons (rv 1) ra_nil)))) (rw_or1 (rt_cmp (om_eq c.u) (rv 1) re_int (nomark _)))))) (rss_one (rs_raise 3 rfl c PySem.F.excBase_ValueError x_NoRatio.x g_NoRatio x_NoRatio.k (raises_own x_NoRatio.b x_NoRatio.t))) rss_nil)
      (rss_cons (rs_if (rt_cmp om_lt (rv 1) re_int (nomark _)) (rss_one (rs_ret (re_call c (ok_lowest N T) (by decide) (ra_cons (re_bin om_sub re_int (rv 0)) (ra_cons (re_bin om_sub re_int (rv 1)) ra_nil))))) rss_nil)
      (rss_one (rs_ret (re_call c (ok_lowest N T) (by decide) (ra_cons (rv 0) (ra_cons (rv 1) ra_nil)))))))
theorem fm_ratio (N : Nat) (T : Txt K mg base) {fa : Addr} {fd : FuncData} (F : FunD K "ratio" "ratio" (defArgs s_ratio) (defBody s_ratio) (defScope s_ratio) [(.int 1)] [] fa fd) : FnG P w K mg base 3 fa fd p_ratio (spM K mg p_ratio.length (C.m_ratio N)) := fk_ratio N T F
theorem ok_ratio (N : Nat) (T : Txt K mg base) : Df P w K mg base "ratio" p_ratio 3 (C.m_ratio N) := by
  obtain ⟨fa, fd, g1, F⟩ := T.f_ratio
  obtain ⟨ds, hd, hb⟩ := F.binds1 (ps := p_ratio) 2 1 (by simp) (by decide) fun _ _ _ _ _ _ _ us its h1 h2 => match us, its, h1, h2 with | [_, _], [_], _, _ => ⟨_, rfl, rfl⟩
  have e : ds = [] := by cases hd; rfl
  subst e
  exact ⟨fa, fd, g1, F.kp, hb, fm_ratio N T F⟩
theorem dk_ratio_1_ (N : Nat) (T : Txt K mg base) : Dk P w K mg base "ratio" p_ratio 3 1 [] C.g_ratio_1_ (C.m_ratio N) := by
  obtain ⟨fa, fd, g1, F⟩ := T.f_ratio
  obtain ⟨its, hb⟩ := F.kbindsD (ps := p_ratio) 1 [] (fun vs ds zs => ((vs.drop 0).take 1 ++ (ds.drop 0).take 1)) (by simp) (fun r1 r2 r3 => (((r1.drop 0).take 1).append ((r2.drop 0).take 1))) fun _ _ _ _ _ _ _ us its ws h1 h2 h3 => match us, its, ws, h1, h2, h3 with | [_], [_], [], _, _, _ => ⟨_, rfl, rfl⟩
  refine ⟨fa, fd, _, _, g1, F.kp, hb, fun w ds vs es zs rd re h1 h2 => ?_, fm_ratio N T F⟩
  match ds, es, h1, h2 with
  | [d0], [], _, _ =>
    obtain ⟨v0, vr0, rfl, q0, rd0⟩ := rd.cons_inv
    cases rd0.nil_inv
    cases re.nil_inv
    exact ⟨(.cons q0 (.cons (.int _) .nil)), rfl⟩
theorem fk_parted (N : Nat) (T : Txt K mg base) {fa : Addr} {fd : FuncData} (F : FunD K "parted" "parted" (defArgs s_parted) (defBody s_parted) (defScope s_parted) [] [] fa fd) : FnG P w K mg base (4 + 1) fa fd p_parted (spM K mg p_parted.length (fnM n_parted.length (C.b_parted N))) := by
  obtain ⟨C_Nought, g_Nought, x_Nought⟩ := T.x_Nought
  apply def_okD F sc_parted
  intro cdv A outer s H E c
  exact (rss_cons (rs_expr (re_call c (ok_check_two N T) (by decide) (ra_cons (rv 0) (ra_cons (rv 1) ra_nil))))
      (rss_cons (rs_if (rt_cmp (om_eq c.u) (re_ix (rv 1) re_int) re_int (nomark _)) (rss_one (rs_raise 27 rfl c PySem.F.excBase_ArithmeticError x_Nought.x g_Nought x_Nought.k (raises_own x_Nought.b x_Nought.t))) rss_nil)
      (rss_one (rs_ret (re_call c (ok_ratio N T) (by decide) (ra_cons (re_bin om_mul (re_ix (rv 0) re_int) (re_ix (rv 1) re_int)) (ra_cons (re_bin om_mul (re_ix (rv 0) re_int) (re_ix (rv 1) re_int)) ra_nil)))))))
theorem fm_parted (N : Nat) (T : Txt K mg base) {fa : Addr} {fd : FuncData} (F : FunD K "parted" "parted" (defArgs s_parted) (defBody s_parted) (defScope s_parted) [] [] fa fd) : FnG P w K mg base 5 fa fd p_parted (spM K mg p_parted.length (C.m_parted N)) := fk_parted N T F
theorem ok_parted (N : Nat) (T : Txt K mg base) : Df P w K mg base "parted" p_parted 5 (C.m_parted N) := by
  obtain ⟨fa, fd, g1, F⟩ := T.f_parted
  exact ⟨fa, fd, g1, F.kp, F.bindsN (ps := p_parted) fun _ _ _ _ _ _ us hl => match us, hl with | [_, _], _ => rfl, fm_parted N T F⟩
theorem fk_due_of (N : Nat) (T : Txt K mg base) {fa : Addr} {fd : FuncData} (F : FunD K "due_of" "due_of" (defArgs s_due_of) (defBody s_due_of) (defScope s_due_of) [] [] fa fd) : FnG P w K mg base (5 + 1) fa fd p_due_of (spM K mg p_due_of.length (fnM n_due_of.length (C.b_due_of N))) := by
  apply def_okD F sc_due_of
  intro cdv A outer s H E c
  exact (rss_one (rs_ret (re_call c (ok_added N T) (by decide) (ra_cons (re_ix (rv 0) re_int) (ra_cons (re_call c (ok_parted N T) (by decide) (ra_cons (re_callK c (dk_ratio_1_ N T) (by decide) (ra_cons (rv 1) ra_nil) rk_nil) (ra_cons (re_fld 1 T.a_least (rv 2)) ra_nil))) ra_nil)))))
theorem fm_due_of (N : Nat) (T : Txt K mg base) {fa : Addr} {fd : FuncData} (F : FunD K "due_of" "due_of" (defArgs s_due_of) (defBody s_due_of) (defScope s_due_of) [] [] fa fd) : FnG P w K mg base 6 fa fd p_due_of (spM K mg p_due_of.length (C.m_due_of N)) := fk_due_of N T F
theorem ok_due_of (N : Nat) (T : Txt K mg base) : Df P w K mg base "due_of" p_due_of 6 (C.m_due_of N) := by
  obtain ⟨fa, fd, g1, F⟩ := T.f_due_of
  exact ⟨fa, fd, g1, F.kp, F.bindsN (ps := p_due_of) fun _ _ _ _ _ _ us hl => match us, hl with | [_, _, _], _ => rfl, fm_due_of N T F⟩
theorem fk_rival_due (N : Nat) (T : Txt K mg base) {fa : Addr} {fd : FuncData} (F : FunD K "rival_due" "rival_due" (defArgs s_rival_due) (defBody s_rival_due) (defScope s_rival_due) [] [] fa fd) : FnG P w K mg base (6 + 1) fa fd p_rival_due (spM K mg p_rival_due.length (fnM n_rival_due.length (b_rival_due N))) := by
  apply def_okD F sc_rival_due
  intro cdv A outer s H E c
  exact (rss_cons (rs_asg (rv 0) (rg_tup c.calm (rgs_cons (rg_name (i := 1) c.nd rfl) (rgs_cons (rg_name (i := 2) c.nd rfl) (rgs_cons (rg_name (i := 3) c.nd rfl) rgs_nil)))))
      (rss_one (rs_ret (re_call c (ok_due_of N T) (by decide) (ra_cons (rv 3) (ra_cons (rv 1) (ra_cons (rv 2) ra_nil)))))))
theorem fm_rival_due (N : Nat) (T : Txt K mg base) {fa : Addr} {fd : FuncData} (F : FunD K "rival_due" "rival_due" (defArgs s_rival_due) (defBody s_rival_due) (defScope s_rival_due) [] [] fa fd) : FnG P w K mg base 7 fa fd p_rival_due (spM K mg p_rival_due.length (m_rival_due N)) := fk_rival_due N T F
theorem ok_rival_due (N : Nat) (T : Txt K mg base) : Df P w K mg base "rival_due" p_rival_due 7 (m_rival_due N) := by
  obtain ⟨fa, fd, g1, F⟩ := T.f_rival_due
  exact ⟨fa, fd, g1, F.kp, F.bindsN (ps := p_rival_due) fun _ _ _ _ _ _ us hl => match us, hl with | [_], _ => rfl, fm_rival_due N T F⟩
theorem fk_picked_of (N : Nat) (T : Txt K mg base) {fa : Addr} {fd : FuncData} (F : FunD K "picked_of" "picked_of" (defArgs s_picked_of) (defBody s_picked_of) (defScope s_picked_of) [] [] fa fd) (he : fa = He.fAd K mk_picked_of.1) : FnG P w K mg base (8 + 1) fa fd p_picked_of (spM K mg p_picked_of.length (fnM n_picked_of.length (b_picked_of N))) := by
  obtain ⟨k0_LEAST, g_LEAST⟩ := T.c_LEAST
  obtain ⟨k0_NOBODY, g_NOBODY⟩ := T.c_NOBODY
  obtain ⟨k0_SHARE, g_SHARE⟩ := T.c_SHARE
  subst he
  apply def_okL (p := mk_picked_of.1) F sc_picked_of
  intro cdv A outer s H E hc c
  exact (rss_cons (rs_setLc (i' := 3) [("place", 4), ("rival", 5)] c.calm c.nd rfl (ri_enum T.b_enumerate (ra_cons (rv 0) ra_nil)) (blkOk_by (own := [("place", 4), ("rival", 5)]) (N := n_picked_of) (sc := defScope s_picked_of) (by decide +kernel)) (by decide) (fun _ _ _ _ _ => pg_tup c.calm (pgs_cons (pg_name (i := 4) c.nd rfl (by first | exact Or.inl rfl | exact Or.inr rfl)) (pgs_cons (pg_name (i := 5) c.nd rfl (by first | exact Or.inl rfl | exact Or.inr rfl)) pgs_nil))) (fun _ _ _ _ _ => pts_one (rt_e (re_callB c.blk (ok_by_clock N T) (by decide) (ra_cons (rv 5) (ra_cons (rv 1) ra_nil))))) (fun _ _ _ _ _ => (rv 4)))
      (rss_cons (rs_if (rt_cmp (om_ne c.u) (rv 3) (re_lst ra_nil) (nomark _)) (rss_one (rs_ret (re_tup (ra_cons (re_glob (v := .str "least") rfl g_LEAST ⟨_, rfl⟩ (fun _ => .str _)) (ra_cons (re_callH2 c (oh_first_of N T) (by decide) (rv 0) (rv 3) (la_glob (ok_rival_due N T) rfl rfl) (by decide) rfl (by decide)) ra_nil))))) rss_nil)
      (rss_cons (rs_setLc (i' := 3) [("place", 4), ("rival", 5)] c.calm c.nd rfl (ri_enum T.b_enumerate (ra_cons (rv 0) ra_nil)) (blkOk_by (own := [("place", 4), ("rival", 5)]) (N := n_picked_of) (sc := defScope s_picked_of) (by decide +kernel)) (by decide) (fun _ _ _ _ _ => pg_tup c.calm (pgs_cons (pg_name (i := 4) c.nd rfl (by first | exact Or.inl rfl | exact Or.inr rfl)) (pgs_cons (pg_name (i := 5) c.nd rfl (by first | exact Or.inl rfl | exact Or.inr rfl)) pgs_nil))) (fun _ _ _ _ _ => pts_one (rt_e (re_callB c.blk (ok_by_gate N T) (by decide) (ra_cons (rv 5) (ra_cons (rv 1) ra_nil))))) (fun _ _ _ _ _ => (rv 4)))
      (rss_cons (rs_if (rt_cmp (om_ne c.u) (rv 3) (re_lst ra_nil) (nomark _)) (rss_one (rs_ret (re_tup (ra_cons (re_glob (v := .str "share") rfl g_SHARE ⟨_, rfl⟩ (fun _ => .str _)) (ra_cons (re_callH2 c (oh_first_of N T) (by decide) (rv 0) (rv 3) (la_lam (prm := some "rival") (js := [2]) (nT := 1) (p := mk_picked_of.1) (q := mk_picked_of.2) (kb := 6) (lamP_by (sc := defScope s_picked_of) (caps := ["pace"]) (by decide +kernel)) (show ∀ j ∈ ([2] : List Nat), j < 6 by decide) (by decide) (show (["rival", "pace"] : List Str).Nodup by decide +kernel) rfl (T.tb mk_picked_of (by simp [tsL])) hc rfl (fun _ _ _ _ us h => match us, h with | [_], _ => rfl) (fun _ _ _ _ _ _ _ c => (re_call c (ok_greater N T) (by decide) (ra_cons (re_ix (re_ix (rv 0) re_int) re_int) (ra_cons (rv 1) ra_nil))))) (by decide) rfl (by decide)) ra_nil))))) rss_nil)
      (rss_one (rs_ret (re_tup (ra_cons (re_glob (v := .str "none") rfl g_NOBODY ⟨_, rfl⟩ (fun _ => .str _)) (ra_cons (re_call c (ok_next_moment N T) (by decide) (ra_cons (rv 0) ra_nil)) ra_nil)))))))))
theorem fm_picked_of (N : Nat) (T : Txt K mg base) {fa : Addr} {fd : FuncData} (F : FunD K "picked_of" "picked_of" (defArgs s_picked_of) (defBody s_picked_of) (defScope s_picked_of) [] [] fa fd) (he : fa = He.fAd K mk_picked_of.1) : FnG P w K mg base 9 fa fd p_picked_of (spM K mg p_picked_of.length (m_picked_of N)) := fk_picked_of N T F he
theorem ok_picked_of (N : Nat) (T : Txt K mg base) : Df P w K mg base "picked_of" p_picked_of 9 (m_picked_of N) := by
  obtain ⟨fa, fd, g1, F⟩ := T.f_picked_of
  exact ⟨fa, fd, g1, F.kp, F.bindsN (ps := p_picked_of) fun _ _ _ _ _ _ us hl => match us, hl with | [_, _, _], _ => rfl, fm_picked_of N T F (T.fe_picked_of _ g1)⟩
theorem fk_picked (N : Nat) (T : Txt K mg base) {fa : Addr} {fd : FuncData} (F : FunD K "picked" "picked" (defArgs s_picked) (defBody s_picked) (defScope s_picked) [] [] fa fd) : FnG P w K mg base (9 + 1) fa fd p_picked (spM K mg p_picked.length (fnM n_picked.length (b_picked N))) := by
  apply def_okD F sc_picked
  intro cdv A outer s H E c
  exact (rss_cons (rs_expr (re_call c (ok_check_pick N T) (by decide) (ra_cons (rv 0) (ra_cons (rv 1) (ra_cons (rv 2) ra_nil)))))
      (rss_one (rs_ret (re_call c (ok_picked_of N T) (by decide) (ra_cons (rv 0) (ra_cons (rv 1) (ra_cons (rv 2) ra_nil)))))))
theorem fm_picked (N : Nat) (T : Txt K mg base) {fa : Addr} {fd : FuncData} (F : FunD K "picked" "picked" (defArgs s_picked) (defBody s_picked) (defScope s_picked) [] [] fa fd) : FnG P w K mg base 10 fa fd p_picked (spM K mg p_picked.length (m_picked N)) := fk_picked N T F
theorem ok_picked (N : Nat) (T : Txt K mg base) : Df P w K mg base "picked" p_picked 10 (m_picked N) := by
  obtain ⟨fa, fd, g1, F⟩ := T.f_picked
  exact ⟨fa, fd, g1, F.kp, F.bindsN (ps := p_picked) fun _ _ _ _ _ _ us hl => match us, hl with | [_, _, _], _ => rfl, fm_picked N T F⟩
theorem dk_picked_0_pace_now_rivals (N : Nat) (T : Txt K mg base) : Dk P w K mg base "picked" p_picked 10 0 ["pace", "now", "rivals"] g_picked_0_pace_now_rivals (m_picked N) := by
  obtain ⟨fa, fd, g1, F⟩ := T.f_picked
  have hb := kb_none (ps := p_picked) F 0 ["pace", "now", "rivals"] (fun vs zs => ((zs.drop 2).take 1 ++ ((zs.drop 1).take 1 ++ (zs.drop 0).take 1))) (fun r1 r3 => (((r3.drop 2).take 1).append (((r3.drop 1).take 1).append ((r3.drop 0).take 1)))) fun _ _ _ _ _ _ us ws h1 h3 => match us, ws, h1, h3 with | [], [_, _, _], _, _ => rfl
  refine ⟨fa, fd, _, _, g1, F.kp, hb, fun w ds vs es zs rd re h1 h2 => ?_, fm_picked N T F⟩
  match ds, es, h1, h2 with
  | [], [e0, e1, e2], _, _ =>
    cases rd.nil_inv
    obtain ⟨z0, zr0, rfl, p0, re0⟩ := re.cons_inv
    obtain ⟨z1, zr1, rfl, p1, re1⟩ := re0.cons_inv
    obtain ⟨z2, zr2, rfl, p2, re2⟩ := re1.cons_inv
    cases re2.nil_inv
    exact ⟨(.cons p2 (.cons p1 (.cons p0 .nil))), rfl⟩
theorem fk__law_right (N : Nat) (T : Txt K mg base) {fa : Addr} {fd : FuncData} (F : FunD K "_law_right" "_law_right" (defArgs s__law_right) (defBody s__law_right) (defScope s__law_right) [] [] fa fd) : FnG P w K mg base (12 + 1) fa fd p__law_right (spM K mg p__law_right.length (fnM n__law_right.length (b__law_right N))) := by
  apply def_okD F sc__law_right
  intro cdv A outer s H E c
  exact (rss_cons (rs_set (i := 3) c.nd rfl (re_call c (ok__law_told_rivals N T) (by decide) (ra_cons (rv 0) ra_nil)))
      (rss_cons (rs_par (i := 4) (j := 5) c.calm c.nd rfl rfl (by decide) (ra_cons (re_reprT c T.b_repr (rv 3) (dt_Client___repr___0_ N T) (by decide)) (ra_cons (re_call c (ok__law_choice_of N T) (by decide) (ra_cons (rv 0) (ra_cons (rv 1) (ra_cons (rv 2) ra_nil)))) ra_nil)))
      (rss_cons (rs_for c.po c.calm (ri_e (re_lst (ra_cons (re_call c (ok_picked N T) (by decide) (ra_cons (rv 3) (ra_cons (rv 1) (ra_cons (rv 2) ra_nil)))) (ra_cons (re_callK0 c (dk_picked_0_pace_now_rivals N T) (by decide) (rk_cons (rv 2) (rk_cons (rv 1) (rk_cons (rv 3) rk_nil)))) ra_nil)))) (rg_name (i := 6) c.nd rfl) (rss_one (rs_if (rt_w (rw_or (rt_not (rt_e (re_isTy .tuple T.b_isinstance T.b_tuple bt_tuple (rv 6)))) (rw_or (rt_cmp (om_ne c.u) (rv 6) (rv 5) (nomark _)) (rw_or1 (rt_e (re_isTy .bool T.b_isinstance T.b_bool bt_bool (re_ix (rv 6) re_int))))))) (rss_one (rs_ret re_bl)) rss_nil)))
      (rss_one (rs_ret (re_cmp (om_eq c.u) (re_reprT c T.b_repr (rv 3) (dt_Client___repr___0_ N T) (by decide)) (rv 4) (nomark _)))))))
theorem fm__law_right (N : Nat) (T : Txt K mg base) {fa : Addr} {fd : FuncData} (F : FunD K "_law_right" "_law_right" (defArgs s__law_right) (defBody s__law_right) (defScope s__law_right) [] [] fa fd) : FnG P w K mg base 13 fa fd p__law_right (spM K mg p__law_right.length (m__law_right N)) := fk__law_right N T F
theorem ok__law_right (N : Nat) (T : Txt K mg base) : Df P w K mg base "_law_right" p__law_right 13 (m__law_right N) := by
  obtain ⟨fa, fd, g1, F⟩ := T.f__law_right
  exact ⟨fa, fd, g1, F.kp, F.bindsN (ps := p__law_right) fun _ _ _ _ _ _ us hl => match us, hl with | [_, _, _], _ => rfl, fm__law_right N T F⟩
theorem fk__law_sub (N : Nat) (T : Txt K mg base) {fa : Addr} {fd : FuncData} (F : FunD K "_law_sub" "_law_sub" (defArgs s__law_sub) (defBody s__law_sub) (defScope s__law_sub) [] [] fa fd) : FnG P w K mg base (1 + 1) fa fd p__law_sub (spM K mg p__law_sub.length (fnM n__law_sub.length (C.b__law_sub N))) := by
  apply def_okD F sc__law_sub
  intro cdv A outer s H E c
  exact (rss_one (rs_ret (re_call c (ok__law_r N T) (by decide) (ra_cons (re_bin om_sub (re_bin om_mul (re_ix (rv 0) re_int) (re_ix (rv 1) re_int)) (re_bin om_mul (re_ix (rv 1) re_int) (re_ix (rv 0) re_int))) (ra_cons (re_bin om_mul (re_ix (rv 0) re_int) (re_ix (rv 1) re_int)) ra_nil)))))
theorem fm__law_sub (N : Nat) (T : Txt K mg base) {fa : Addr} {fd : FuncData} (F : FunD K "_law_sub" "_law_sub" (defArgs s__law_sub) (defBody s__law_sub) (defScope s__law_sub) [] [] fa fd) : FnG P w K mg base 2 fa fd p__law_sub (spM K mg p__law_sub.length (C.m__law_sub N)) := fk__law_sub N T F
theorem ok__law_sub (N : Nat) (T : Txt K mg base) : Df P w K mg base "_law_sub" p__law_sub 2 (C.m__law_sub N) := by
  obtain ⟨fa, fd, g1, F⟩ := T.f__law_sub
  exact ⟨fa, fd, g1, F.kp, F.bindsN (ps := p__law_sub) fun _ _ _ _ _ _ us hl => match us, hl with | [_, _], _ => rfl, fm__law_sub N T F⟩
theorem fk__law_take (N : Nat) (T : Txt K mg base) {fa : Addr} {fd : FuncData} (F : FunD K "_law_take" "_law_take" (defArgs s__law_take) (defBody s__law_take) (defScope s__law_take) [] [] fa fd) : FnG P w K mg base (0 + 1) fa fd p__law_take (spM K mg p__law_take.length (fnM n__law_take.length (C.b__law_take N))) := by
  apply def_okD F sc__law_take
  intro cdv A outer s H E c
  exact (rss_cons (rs_asg (re_binS om_addS (re_ix (rv 0) re_int) re_int) (rg_sub (rv 0) re_int))
      (rss_cons (rs_set (i := 2) c.nd rfl (re_ix (rv 0) re_int))
      (rss_cons (rs_asg (re_bin om_mod (re_binS om_addS (re_bin om_mul (rv 2) (re_binS om_addS (re_bin om_mod (rv 2) re_int) re_int)) (re_bin om_mul re_int (re_ix (rv 0) re_int))) re_int) (rg_sub (rv 0) re_int))
      (rss_cons (rs_if (rt_cmp om_gt (re_ix (rv 0) re_int) re_int (nomark _)) (rss_cons (rs_asg (re_b cm_divmodW rfl T.b_divmod bt_divmod (ra_cons (re_ix (rv 0) re_int) (ra_cons (rv 1) ra_nil))) (rg_tup c.calm (rgs_cons (rg_sub (rv 0) re_int) (rgs_cons (rg_name (i := 3) c.nd rfl) rgs_nil))))
      (rss_one (rs_ret (rv 3)))) rss_nil)
      (rss_one (rs_ret (re_bin om_mod (re_bin om_div (re_ix (rv 0) re_int) re_int) (rv 1))))))))
theorem fm__law_take (N : Nat) (T : Txt K mg base) {fa : Addr} {fd : FuncData} (F : FunD K "_law_take" "_law_take" (defArgs s__law_take) (defBody s__law_take) (defScope s__law_take) [] [] fa fd) : FnG P w K mg base 1 fa fd p__law_take (spM K mg p__law_take.length (C.m__law_take N)) := fk__law_take N T F
theorem ok__law_take (N : Nat) (T : Txt K mg base) : Df P w K mg base "_law_take" p__law_take 1 (C.m__law_take N) := by
  obtain ⟨fa, fd, g1, F⟩ := T.f__law_take
  exact ⟨fa, fd, g1, F.kp, F.bindsN (ps := p__law_take) fun _ _ _ _ _ _ us hl => match us, hl with | [_, _], _ => rfl, fm__law_take N T F⟩
theorem fk__law_near (N : Nat) (T : Txt K mg base) {fa : Addr} {fd : FuncData} (F : FunD K "_law_near" "_law_near" (defArgs s__law_near) (defBody s__law_near) (defScope s__law_near) [] [] fa fd) : FnG P w K mg base (2 + 1) fa fd p__law_near (spM K mg p__law_near.length (fnM n__law_near.length (b__law_near N))) := by
  apply def_okD F sc__law_near
  intro cdv A outer s H E c
  exact (rss_cons (rs_set (i := 2) c.nd rfl (re_call c (ok__law_r N T) (by decide) (ra_cons (re_call c (ok__law_take N T) (by decide) (ra_cons (rv 0) (ra_cons re_int ra_nil))) (ra_cons (re_binS om_addS re_int (re_call c (ok__law_take N T) (by decide) (ra_cons (rv 0) (ra_cons re_int ra_nil)))) ra_nil))))
      (rss_cons (rs_set (i := 3) c.nd rfl (re_call c (ok__law_take N T) (by decide) (ra_cons (rv 0) (ra_cons re_int ra_nil))))
      (rss_cons (rs_if (rt_cmp (om_eq c.u) (rv 3) re_int (nomark _)) (rss_one (rs_ret (rv 1))) rss_nil)
      (rss_one (rs_ret (re_if (rt_cmp (om_eq c.u) (rv 3) re_int (nomark _)) (re_call c (ok__law_add N T) (by decide) (ra_cons (rv 1) (ra_cons (rv 2) ra_nil))) (re_call c (ok__law_top N T) (by decide) (ra_cons (re_tup (ra_cons re_int (ra_cons re_int ra_nil))) (ra_cons (re_call c (ok__law_sub N T) (by decide) (ra_cons (rv 1) (ra_cons (rv 2) ra_nil))) ra_nil)))))))))
theorem fm__law_near (N : Nat) (T : Txt K mg base) {fa : Addr} {fd : FuncData} (F : FunD K "_law_near" "_law_near" (defArgs s__law_near) (defBody s__law_near) (defScope s__law_near) [] [] fa fd) : FnG P w K mg base 3 fa fd p__law_near (spM K mg p__law_near.length (m__law_near N)) := fk__law_near N T F
theorem ok__law_near (N : Nat) (T : Txt K mg base) : Df P w K mg base "_law_near" p__law_near 3 (m__law_near N) := by
  obtain ⟨fa, fd, g1, F⟩ := T.f__law_near
  exact ⟨fa, fd, g1, F.kp, F.bindsN (ps := p__law_near) fun _ _ _ _ _ _ us hl => match us, hl with | [_, _], _ => rfl, fm__law_near N T F⟩
theorem fk__law_rate (N : Nat) (T : Txt K mg base) {fa : Addr} {fd : FuncData} (F : FunD K "_law_rate" "_law_rate" (defArgs s__law_rate) (defBody s__law_rate) (defScope s__law_rate) [] [] fa fd) : FnG P w K mg base (1 + 1) fa fd p__law_rate (spM K mg p__law_rate.length (fnM n__law_rate.length (b__law_rate N))) := by
  apply def_okD F sc__law_rate
  intro cdv A outer s H E c
  exact (rss_cons (rs_set (i := 1) c.nd rfl (re_binS om_addS re_int (re_call c (ok__law_take N T) (by decide) (ra_cons (rv 0) (ra_cons re_int ra_nil)))))
      (rss_one (rs_ret (re_call c (ok__law_r N T) (by decide) (ra_cons (re_binS om_addS re_int (re_call c (ok__law_take N T) (by decide) (ra_cons (rv 0) (ra_cons (re_b (cm_min c.calm) rfl T.b_min bt_min (ra_cons re_int (ra_cons (rv 1) ra_nil))) ra_nil)))) (ra_cons (rv 1) ra_nil))))))
theorem fm__law_rate (N : Nat) (T : Txt K mg base) {fa : Addr} {fd : FuncData} (F : FunD K "_law_rate" "_law_rate" (defArgs s__law_rate) (defBody s__law_rate) (defScope s__law_rate) [] [] fa fd) : FnG P w K mg base 2 fa fd p__law_rate (spM K mg p__law_rate.length (m__law_rate N)) := fk__law_rate N T F
theorem ok__law_rate (N : Nat) (T : Txt K mg base) : Df P w K mg base "_law_rate" p__law_rate 2 (m__law_rate N) := by
  obtain ⟨fa, fd, g1, F⟩ := T.f__law_rate
  exact ⟨fa, fd, g1, F.kp, F.bindsN (ps := p__law_rate) fun _ _ _ _ _ _ us hl => match us, hl with | [_], _ => rfl, fm__law_rate N T F⟩
theorem fk__law_rivals (N : Nat) (T : Txt K mg base) {fa : Addr} {fd : FuncData} (F : FunD K "_law_rivals" "_law_rivals" (defArgs s__law_rivals) (defBody s__law_rivals) (defScope s__law_rivals) [] [] fa fd) : FnG P w K mg base (3 + 1) fa fd p__law_rivals (spM K mg p__law_rivals.length (fnM n__law_rivals.length (b__law_rivals N))) := by
  apply def_okD F sc__law_rivals
  intro cdv A outer s H E c
  exact (rss_cons (rs_set (i := 3) c.nd rfl (re_new ra_nil))
      (rss_cons (rs_for c.po c.calm (ri_range1 T.b_range (ra_cons (re_call c (ok__law_take N T) (by decide) (ra_cons (rv 0) (ra_cons (re_ix (re_lst (ra_cons re_int (ra_cons re_int (ra_cons re_int ra_nil)))) (re_call c (ok__law_take N T) (by decide) (ra_cons (rv 0) (ra_cons re_int ra_nil)))) ra_nil))) ra_nil)) (rg_name (i := 4) c.nd rfl) (rss_cons (rs_set (i := 5) c.nd rfl (re_ix (re_lst (ra_cons (re_tup (ra_cons re_int (ra_cons re_int ra_nil))) (ra_cons (re_call c (ok__law_rate N T) (by decide) (ra_cons (rv 0) ra_nil)) (ra_cons (re_tup (ra_cons re_int (ra_cons re_int ra_nil))) ra_nil)))) (re_call c (ok__law_take N T) (by decide) (ra_cons (rv 0) (ra_cons re_int ra_nil)))))
      (rss_cons (rs_set (i := 6) c.nd rfl (re_ix (re_lst (ra_cons re_non (ra_cons (re_tup (ra_cons re_int (ra_cons re_int ra_nil))) (ra_cons (rv 5) (ra_cons (re_call c (ok__law_rate N T) (by decide) (ra_cons (rv 0) ra_nil)) ra_nil))))) (re_call c (ok__law_take N T) (by decide) (ra_cons (rv 0) (ra_cons re_int ra_nil)))))
      (rss_cons (rs_if (rt_w (rw_and (rt_cmp om_isnot (rv 6) re_non (nomark _)) (rw_and1 (rt_w (rw_or (rt_cmp (om_eq c.u) (rv 6) (re_tup (ra_cons re_int (ra_cons re_int ra_nil))) (nomark _)) (rw_or1 (rt_e (re_call c (ok__law_less N T) (by decide) (ra_cons (rv 6) (ra_cons (rv 5) ra_nil)))))))))) (rss_one (rs_set (i := 6) c.nd rfl re_non)) rss_nil)
      (rss_cons (rs_set (i := 7) c.nd rfl (re_tup (ra_cons (re_call c (ok__law_near N T) (by decide) (ra_cons (rv 0) (ra_cons (rv 1) ra_nil))) (ra_cons (re_call c (ok__law_near N T) (by decide) (ra_cons (rv 0) (ra_cons (rv 1) ra_nil))) (ra_cons (re_call c (ok__law_near N T) (by decide) (ra_cons (rv 0) (ra_cons (rv 2) ra_nil))) ra_nil)))))
      (rss_one (rs_expr (re_app (rv 3) (ra_cons (re_lst (ra_cons (re_ix (re_lst (ra_cons re_int (ra_cons re_int (ra_cons (re_binS om_addS re_int (re_call c (ok__law_take N T) (by decide) (ra_cons (rv 0) (ra_cons re_int ra_nil)))) (ra_cons re_int ra_nil))))) (re_call c (ok__law_take N T) (by decide) (ra_cons (rv 0) (ra_cons re_int ra_nil)))) (ra_cons (rv 5) (ra_cons (rv 6) (ra_cons (re_binS om_addS re_int (re_call c (ok__law_take N T) (by decide) (ra_cons (rv 0) (ra_cons re_int ra_nil)))) (ra_cons (rv 7) ra_nil)))))) ra_nil)))))))))
      (rss_one (rs_ret (rv 3)))))
theorem fm__law_rivals (N : Nat) (T : Txt K mg base) {fa : Addr} {fd : FuncData} (F : FunD K "_law_rivals" "_law_rivals" (defArgs s__law_rivals) (defBody s__law_rivals) (defScope s__law_rivals) [] [] fa fd) : FnG P w K mg base 4 fa fd p__law_rivals (spM K mg p__law_rivals.length (m__law_rivals N)) := fk__law_rivals N T F
theorem ok__law_rivals (N : Nat) (T : Txt K mg base) : Df P w K mg base "_law_rivals" p__law_rivals 4 (m__law_rivals N) := by
  obtain ⟨fa, fd, g1, F⟩ := T.f__law_rivals
  exact ⟨fa, fd, g1, F.kp, F.bindsN (ps := p__law_rivals) fun _ _ _ _ _ _ us hl => match us, hl with | [_, _, _], _ => rfl, fm__law_rivals N T F⟩
theorem fk_law (N : Nat) (T : Txt K mg base) {fa : Addr} {fd : FuncData} (F : FunD K "law" "law" (defArgs s_law) (defBody s_law) (defScope s_law) [] [] fa fd) : FnG P w K mg base (13 + 1) fa fd p_law (spM K mg p_law.length (fnM n_law.length (b_law N))) := by
  apply def_okD F sc_law
  intro cdv A outer s H E c
  exact (rss_cons (rs_for c.po c.calm (ri_range1 T.b_range (ra_cons (re_b (cm_max c.calm) rfl T.b_max bt_max (ra_cons re_int (ra_cons (re_b (cm_min c.calm) rfl T.b_min bt_min (ra_cons (re_b cm_len rfl T.b_len bt_len (ra_cons (rv 0) ra_nil)) (ra_cons re_int ra_nil))) ra_nil))) ra_nil)) (rg_name (i := 1) c.nd rfl) (rss_cons (rs_set (i := 2) c.nd rfl (re_call c (ok__law_pool N T) (by decide) (ra_cons (re_call c (ok__law_cell N T) (by decide) (ra_cons (rv 0) (ra_cons (rv 1) ra_nil))) ra_nil)))
      (rss_cons (rs_set (i := 3) c.nd rfl (re_call c (ok__law_r N T) (by decide) (ra_cons (re_call c (ok__law_take N T) (by decide) (ra_cons (rv 2) (ra_cons re_int ra_nil))) (ra_cons (re_binS om_addS re_int (re_call c (ok__law_take N T) (by decide) (ra_cons (rv 2) (ra_cons re_int ra_nil)))) ra_nil))))
      (rss_cons (rs_set (i := 4) c.nd rfl (re_call c (ok__law_r N T) (by decide) (ra_cons (re_call c (ok__law_take N T) (by decide) (ra_cons (rv 2) (ra_cons re_int ra_nil))) (ra_cons (re_binS om_addS re_int (re_call c (ok__law_take N T) (by decide) (ra_cons (rv 2) (ra_cons re_int ra_nil)))) ra_nil))))
      (rss_one (rs_for c.po c.calm (ri_range1 T.b_range (ra_cons re_int ra_nil)) (rg_name (i := 5) c.nd rfl) (rss_cons (rs_set (i := 6) c.nd rfl (re_call c (ok__law_rivals N T) (by decide) (ra_cons (rv 2) (ra_cons (rv 3) (ra_cons (rv 4) ra_nil)))))
      (rss_cons (rs_if (rt_w (rw_or (rt_not (rt_e (re_call c (ok__law_right N T) (by decide) (ra_cons (rv 6) (ra_cons (rv 3) (ra_cons (rv 4) ra_nil)))))) (rw_or1 (rt_not (rt_e (re_call c (ok__law_right N T) (by decide) (ra_cons (re_call c (ok__law_later N T) (by decide) (ra_cons (rv 6) (ra_cons (rv 3) ra_nil))) (ra_cons (rv 3) (ra_cons (rv 4) ra_nil))))))))) (rss_one (rs_ret re_bl)) rss_nil)
      (rss_cons (rs_if (rt_not (rt_e (re_call c (ok__law_right N T) (by decide) (ra_cons (re_call c (ok__law_far N T) (by decide) (ra_cons (rv 6) ra_nil)) (ra_cons (re_call c (ok__law_add N T) (by decide) (ra_cons (rv 3) (ra_cons (re_tup (ra_cons (re_bin om_pow re_int re_int) (ra_cons re_int ra_nil))) ra_nil))) (ra_cons (re_call c (ok__law_add N T) (by decide) (ra_cons (rv 4) (ra_cons (re_tup (ra_cons (re_bin om_pow re_int re_int) (ra_cons re_int ra_nil))) ra_nil))) ra_nil)))))) (rss_one (rs_ret re_bl)) rss_nil)
      (rss_one (rs_if (rt_w (rw_or (rt_not (rt_e (re_call c (ok__law_right N T) (by decide) (ra_cons (re_revN (rv 6)) (ra_cons (rv 3) (ra_cons (rv 4) ra_nil)))))) (rw_or1 (rt_not (rt_e (re_call c (ok__law_right N T) (by decide) (ra_cons (rv 6) (ra_cons (re_tup (ra_cons re_int (ra_cons re_int ra_nil))) (ra_cons (rv 4) ra_nil))))))))) (rss_one (rs_ret re_bl)) rss_nil)))))))))))
      (rss_one (rs_ret re_bl)))
theorem fm_law (N : Nat) (T : Txt K mg base) {fa : Addr} {fd : FuncData} (F : FunD K "law" "law" (defArgs s_law) (defBody s_law) (defScope s_law) [] [] fa fd) : FnG P w K mg base 14 fa fd p_law (spM K mg p_law.length (m_law N)) := fk_law N T F
end
theorem txt_mk {K : PySem.W.Frag} {h base : Heap} {mg : Str → Option Value} (X : K.In h) (Y : h.Ns mainGlobals mg) (c : SaysX fxAll fnAll K) (B : TBs K mg base tsL) : Txt K mg base where
  tb := B
  b_abs := free_at X Y (c.fact 0 (f := fx_0)) 0
  b_all := free_at X Y (c.fact 0 (f := fx_0)) 1
  b_bool := free_at X Y (c.fact 0 (f := fx_0)) 2
  b_divmod := free_at X Y (c.fact 0 (f := fx_0)) 3
  b_enumerate := free_at X Y (c.fact 0 (f := fx_0)) 4
  b_int := free_at X Y (c.fact 0 (f := fx_0)) 5
  b_isinstance := free_at X Y (c.fact 0 (f := fx_0)) 6
  b_len := free_at X Y (c.fact 0 (f := fx_0)) 7
  b_list := free_at X Y (c.fact 0 (f := fx_0)) 8
  b_max := free_at X Y (c.fact 0 (f := fx_0)) 9
  b_min := free_at X Y (c.fact 0 (f := fx_0)) 10
  b_range := free_at X Y (c.fact 0 (f := fx_0)) 11
  b_repr := free_at X Y (c.fact 0 (f := fx_0)) 12
  b_str := free_at X Y (c.fact 0 (f := fx_0)) 13
  b_tuple := free_at X Y (c.fact 0 (f := fx_0)) 14
  c_LEAST := str_at X Y (c.fact 5 (f := fx_5))
  c_LETTERS := str_at X Y (c.fact 6 (f := fx_6))
  c_MOST_LETTERS := int_at X Y (c.fact 7 (f := fx_7))
  c_MOST_SIZE := int_at X Y (c.fact 8 (f := fx_8))
  c_MOST_WEIGHT := int_at X Y (c.fact 9 (f := fx_9))
  c_NOBODY := str_at X Y (c.fact 10 (f := fx_10))
  c_NONE := ⟨_, (glo_at X Y (c.fact 3 (f := fx_3)) 13), tupX_ok (c.fact 11 (f := fx_11))⟩
  c_SHARE := str_at X Y (c.fact 12 (f := fx_12))
  f__law_r := (c.def_ 0 (d := d__law_r)).elim fun fd F => ⟨_, fd, (glo_at X Y (c.fact 1 (f := fx_1)) 0), F⟩
  f__law_add := (c.def_ 1 (d := d__law_add)).elim fun fd F => ⟨_, fd, (glo_at X Y (c.fact 1 (f := fx_1)) 1), F⟩
  f__law_cell := (c.def_ 2 (d := d__law_cell)).elim fun fd F => ⟨_, fd, (glo_at X Y (c.fact 1 (f := fx_1)) 2), F⟩
  f__law_far := (c.def_ 3 (d := d__law_far)).elim fun fd F => ⟨_, fd, (glo_at X Y (c.fact 1 (f := fx_1)) 3), F⟩
  f__law_later := (c.def_ 4 (d := d__law_later)).elim fun fd F => ⟨_, fd, (glo_at X Y (c.fact 1 (f := fx_1)) 4), F⟩
  f__law_pool := (c.def_ 5 (d := d__law_pool)).elim fun fd F => ⟨_, fd, (glo_at X Y (c.fact 1 (f := fx_1)) 5), F⟩
  f_is_whole_ratios := (c.def_ 6 (d := d_is_whole_ratios)).elim fun fd F => ⟨_, fd, (glo_at X Y (c.fact 1 (f := fx_1)) 6), F⟩
  f_shared := (c.def_ 7 (d := d_shared)).elim fun fd F => ⟨_, fd, (glo_at X Y (c.fact 1 (f := fx_1)) 7), F⟩
  f_is_ratio := (c.def_ 8 (d := d_is_ratio)).elim fun fd F => ⟨_, fd, (glo_at X Y (c.fact 1 (f := fx_1)) 8), F⟩
  f_check_ratio := (c.def_ 9 (d := d_check_ratio)).elim fun fd F => ⟨_, fd, (glo_at X Y (c.fact 1 (f := fx_1)) 9), F⟩
  f_show_ratio := (c.def_ 10 (d := d_show_ratio)).elim fun fd F => ⟨_, fd, (glo_at X Y (c.fact 1 (f := fx_1)) 10), F⟩
  f_rate_text := (c.def_ 11 (d := d_rate_text)).elim fun fd F => ⟨_, fd, (glo_at X Y (c.fact 1 (f := fx_1)) 11), F⟩
  f_Client___str__ := (c.def_ 12 (d := d_Client___str__)).elim fun fd F => ⟨_, _, fd, (glo_at X Y (c.fact 3 (f := fx_3)) 14), (clsqB_ok (c.fact 13 (f := fx_13))).cl, mtB_ok (c.fact 14 (f := fx_14)), F⟩
  f_Client___repr__ := (c.def_ 13 (d := d_Client___repr__)).elim fun fd F => ⟨_, _, fd, (glo_at X Y (c.fact 3 (f := fx_3)) 14), (clsqB_ok (c.fact 15 (f := fx_15))).cl, mtB_ok (c.fact 16 (f := fx_16)), F⟩
  f__law_by := (c.def_ 14 (d := d__law_by)).elim fun fd F => ⟨_, fd, (glo_at X Y (c.fact 1 (f := fx_1)) 12), F⟩
  f__law_less := (c.def_ 15 (d := d__law_less)).elim fun fd F => ⟨_, fd, (glo_at X Y (c.fact 1 (f := fx_1)) 13), F⟩
  f__law_can := (c.def_ 16 (d := d__law_can)).elim fun fd F => ⟨_, fd, (glo_at X Y (c.fact 1 (f := fx_1)) 14), F⟩
  f__law_first := (c.def_ 17 (d := d__law_first)).elim fun fd F => ⟨_, fd, (glo_at X Y (c.fact 1 (f := fx_1)) 15), F⟩
  f__law_top := (c.def_ 18 (d := d__law_top)).elim fun fd F => ⟨_, fd, (glo_at X Y (c.fact 1 (f := fx_1)) 16), F⟩
  f__law_choice_of := (c.def_ 19 (d := d__law_choice_of)).elim fun fd F => ⟨_, fd, (glo_at X Y (c.fact 1 (f := fx_1)) 17), F⟩
  f_check_two := (c.def_ 20 (d := d_check_two)).elim fun fd F => ⟨_, fd, (glo_at X Y (c.fact 1 (f := fx_1)) 18), F⟩
  f_is_before := (c.def_ 21 (d := d_is_before)).elim fun fd F => ⟨_, fd, (glo_at X Y (c.fact 1 (f := fx_1)) 19), F⟩
  f_is_none := (c.def_ 22 (d := d_is_none)).elim fun fd F => ⟨_, fd, (glo_at X Y (c.fact 2 (f := fx_2)) 0), F⟩
  f_is_rate := (c.def_ 23 (d := d_is_rate)).elim fun fd F => ⟨_, fd, (glo_at X Y (c.fact 2 (f := fx_2)) 1), F⟩
  f_is_least := (c.def_ 24 (d := d_is_least)).elim fun fd F => ⟨_, fd, (glo_at X Y (c.fact 2 (f := fx_2)) 2), F⟩
  f_is_name := (c.def_ 25 (d := d_is_name)).elim fun fd F => ⟨_, fd, (glo_at X Y (c.fact 2 (f := fx_2)) 3), F⟩
  f_is_weight := (c.def_ 26 (d := d_is_weight)).elim fun fd F => ⟨_, fd, (glo_at X Y (c.fact 2 (f := fx_2)) 4), F⟩
  f_Client___init__ := (c.def_ 27 (d := d_Client___init__)).elim fun fd F => ⟨_, _, fd, _, (glo_at X Y (c.fact 3 (f := fx_3)) 14), mkB_ok (c.fact 17 (f := fx_17)), (glo_at X Y (c.fact 3 (f := fx_3)) 13), tupX_ok (c.fact 11 (f := fx_11)), F⟩
  f__law_told_rivals := (c.def_ 28 (d := d__law_told_rivals)).elim fun fd F => ⟨_, fd, (glo_at X Y (c.fact 2 (f := fx_2)) 5), F⟩
  f_is_time := (c.def_ 29 (d := d_is_time)).elim fun fd F => ⟨_, fd, (glo_at X Y (c.fact 2 (f := fx_2)) 6), F⟩
  f_are_tags := (c.def_ 30 (d := d_are_tags)).elim fun fd F => ⟨_, fd, (glo_at X Y (c.fact 2 (f := fx_2)) 7), F⟩
  f_is_whole_picks := (c.def_ 31 (d := d_is_whole_picks)).elim fun fd F => ⟨_, fd, (glo_at X Y (c.fact 2 (f := fx_2)) 8), F⟩
  f_is_rival := (c.def_ 32 (d := d_is_rival)).elim fun fd F => ⟨_, fd, (glo_at X Y (c.fact 2 (f := fx_2)) 9), F⟩
  f_check_rivals := (c.def_ 33 (d := d_check_rivals)).elim fun fd F => ⟨_, fd, (glo_at X Y (c.fact 2 (f := fx_2)) 10), F⟩
  f_check_time := (c.def_ 34 (d := d_check_time)).elim fun fd F => ⟨_, fd, (glo_at X Y (c.fact 2 (f := fx_2)) 11), F⟩
  f_check_pick := (c.def_ 35 (d := d_check_pick)).elim fun fd F => ⟨_, fd, (glo_at X Y (c.fact 2 (f := fx_2)) 12), F⟩
  f_by_clock := (c.def_ 36 (d := d_by_clock)).elim fun fd F => ⟨_, fd, (glo_at X Y (c.fact 2 (f := fx_2)) 13), F⟩
  f_by_gate := (c.def_ 37 (d := d_by_gate)).elim fun fd F => ⟨_, fd, (glo_at X Y (c.fact 2 (f := fx_2)) 14), F⟩
  f_first_of := (c.def_ 38 (d := d_first_of)).elim fun fd F => ⟨_, fd, (glo_at X Y (c.fact 2 (f := fx_2)) 15), F⟩
  f_greater := (c.def_ 39 (d := d_greater)).elim fun fd F => ⟨_, fd, (glo_at X Y (c.fact 2 (f := fx_2)) 16), F⟩
  f_next_moment := (c.def_ 40 (d := d_next_moment)).elim fun fd F => ⟨_, fd, (glo_at X Y (c.fact 2 (f := fx_2)) 17), F⟩
  f_lowest := (c.def_ 41 (d := d_lowest)).elim fun fd F => ⟨_, fd, (glo_at X Y (c.fact 2 (f := fx_2)) 18), F⟩
  f_added := (c.def_ 42 (d := d_added)).elim fun fd F => ⟨_, fd, (glo_at X Y (c.fact 2 (f := fx_2)) 19), F⟩
  f_ratio := (c.def_ 43 (d := d_ratio)).elim fun fd F => ⟨_, fd, (glo_at X Y (c.fact 3 (f := fx_3)) 0), F⟩
  f_parted := (c.def_ 44 (d := d_parted)).elim fun fd F => ⟨_, fd, (glo_at X Y (c.fact 3 (f := fx_3)) 1), F⟩
  f_due_of := (c.def_ 45 (d := d_due_of)).elim fun fd F => ⟨_, fd, (glo_at X Y (c.fact 3 (f := fx_3)) 2), F⟩
  f_rival_due := (c.def_ 46 (d := d_rival_due)).elim fun fd F => ⟨_, fd, (glo_at X Y (c.fact 3 (f := fx_3)) 3), F⟩
  f_picked_of := (c.def_ 47 (d := d_picked_of)).elim fun fd F => ⟨_, fd, (glo_at X Y (c.fact 3 (f := fx_3)) 4), F⟩
  f_picked := (c.def_ 48 (d := d_picked)).elim fun fd F => ⟨_, fd, (glo_at X Y (c.fact 3 (f := fx_3)) 5), F⟩
  f__law_right := (c.def_ 49 (d := d__law_right)).elim fun fd F => ⟨_, fd, (glo_at X Y (c.fact 3 (f := fx_3)) 6), F⟩
  f__law_sub := (c.def_ 50 (d := d__law_sub)).elim fun fd F => ⟨_, fd, (glo_at X Y (c.fact 3 (f := fx_3)) 7), F⟩
  f__law_take := (c.def_ 51 (d := d__law_take)).elim fun fd F => ⟨_, fd, (glo_at X Y (c.fact 3 (f := fx_3)) 8), F⟩
  f__law_near := (c.def_ 52 (d := d__law_near)).elim fun fd F => ⟨_, fd, (glo_at X Y (c.fact 3 (f := fx_3)) 9), F⟩
  f__law_rate := (c.def_ 53 (d := d__law_rate)).elim fun fd F => ⟨_, fd, (glo_at X Y (c.fact 3 (f := fx_3)) 10), F⟩
  f__law_rivals := (c.def_ 54 (d := d__law_rivals)).elim fun fd F => ⟨_, fd, (glo_at X Y (c.fact 3 (f := fx_3)) 11), F⟩
  f_law := (c.def_ 55 (d := d_law)).elim fun fd F => ⟨_, fd, (glo_at X Y (c.fact 3 (f := fx_3)) 12), F⟩
  y_NoRate := (c.def_ 56 (d := d_NoRate___init__)).elim fun fd F => ⟨_, _, fd, _, (glo_at X Y (c.fact 3 (f := fx_3)) 16), xoB_ok (c.fact 18 (f := fx_18)), (iniB_ok (c.fact 19 (f := fx_19))).1, (iniB_ok (c.fact 19 (f := fx_19))).2.1, (iniB_ok (c.fact 19 (f := fx_19))).2.2, (glo_at X Y (c.fact 4 (f := fx_4)) 2), hdB_ok (c.fact 20 (f := fx_20)), F⟩
  y_NoRivals := (c.def_ 57 (d := d_NoRivals___init__)).elim fun fd F => ⟨_, _, fd, _, (glo_at X Y (c.fact 3 (f := fx_3)) 18), xoB_ok (c.fact 21 (f := fx_21)), (iniB_ok (c.fact 22 (f := fx_22))).1, (iniB_ok (c.fact 22 (f := fx_22))).2.1, (iniB_ok (c.fact 22 (f := fx_22))).2.2, (glo_at X Y (c.fact 4 (f := fx_4)) 2), hdB_ok (c.fact 23 (f := fx_23)), F⟩
  x_Client := ⟨_, (glo_at X Y (c.fact 3 (f := fx_3)) 14)⟩
  x_NoName := ⟨_, (glo_at X Y (c.fact 3 (f := fx_3)) 15), xcoB_ok (c.fact 24 (f := fx_24))⟩
  x_NoRatio := ⟨_, (glo_at X Y (c.fact 3 (f := fx_3)) 17), xcoB_ok (c.fact 25 (f := fx_25))⟩
  x_NoTime := ⟨_, (glo_at X Y (c.fact 3 (f := fx_3)) 19), xcoB_ok (c.fact 26 (f := fx_26))⟩
  x_NoWeight := ⟨_, (glo_at X Y (c.fact 4 (f := fx_4)) 0), xcoB_ok (c.fact 27 (f := fx_27))⟩
  x_Nought := ⟨_, (glo_at X Y (c.fact 4 (f := fx_4)) 1), xcoB_ok (c.fact 28 (f := fx_28))⟩
  io_Client := fun D hD => own_at (p := fun D => Iso K mg 33 D) (glo_at X Y (c.fact 3 (f := fx_3)) 14) (iso_at X Y (ns := [33]) (as := [34, 35, 36, 37, 38, 39, 40, 41, 42, 43, 44, 45, 46]) (cn := 33) (c.fact 29 (f := fx_29)) (c.fact 30 (f := fx_30)) (by decide +kernel) (c.fact 31 (f := fx_31))) hD
  a_least := clf_at X Y (ns := [33]) (as := [34, 35, 36, 37, 38, 39, 40, 41, 42, 43, 44, 45, 46]) (cs := [33, 42]) (f := 1) (c.fact 29 (f := fx_29)) (c.fact 30 (f := fx_30)) (by decide +kernel) (c.fact 32 (f := fx_32)) (by decide +kernel)
  a_most := clf_at X Y (ns := [33]) (as := [34, 35, 36, 37, 38, 39, 40, 41, 42, 43, 44, 45, 46]) (cs := [33, 42]) (f := 2) (c.fact 29 (f := fx_29)) (c.fact 30 (f := fx_30)) (by decide +kernel) (c.fact 33 (f := fx_33)) (by decide +kernel)
  a_name := clf_at X Y (ns := [33]) (as := [34, 35, 36, 37, 38, 39, 40, 41, 42, 43, 44, 45, 46]) (cs := [33, 42, 44, 46]) (f := 0) (c.fact 29 (f := fx_29)) (c.fact 30 (f := fx_30)) (by decide +kernel) (c.fact 34 (f := fx_34)) (by decide +kernel)
  a_weight := clf_at X Y (ns := [33]) (as := [34, 35, 36, 37, 38, 39, 40, 41, 42, 43, 44, 45, 46]) (cs := [33, 42, 44]) (f := 3) (c.fact 29 (f := fx_29)) (c.fact 30 (f := fx_30)) (by decide +kernel) (c.fact 35 (f := fx_35)) (by decide +kernel)
  fe__law_choice_of := fun f hf => by cases (glo_at X Y (c.fact 1 (f := fx_1)) 17).symm.trans hf; rfl
  fe_picked_of := fun f hf => by cases (glo_at X Y (c.fact 3 (f := fx_3)) 4).symm.trans hf; rfl
theorem all_mk {l : PySem.W.OpenLaw} {w : World} {K : PySem.W.Frag} {mg : Str → Option Value} {fa : Addr} {h : Heap} (plain : ∀ ns : List Int, ns.length ≤ 63 → ∃ N S, m_law N [.scr (ns.map .int)] (st0 tsL) = .ok (.bl true) S) (hfa : mg "law" = some (.ref fa)) (X : K.In h) (Y : h.Ns mainGlobals mg) (c : SaysX fxAll fnAll K) :
    ∃ fd : FuncData, (∀ (s : Shared) (v : Value), BindsTo s fd ⟨[v], []⟩ [("_law_script", v)]) ∧ ∀ base : Heap, K.In base → base.Ns mainGlobals mg → TBs K mg base tsL → FnG l.prog w K mg base 14 fa fd ["_law_script"] (spLawT K tsL) := by
  obtain ⟨fd, F⟩ := c.def_ 55 (d := d_law)
  cases hfa.symm.trans (glo_at X Y (c.fact 3 (f := fx_3)) 12)
  refine ⟨fd, ?_, fun base _ _ B => law_okT (of_decide_eq_true (c.fact 36 (f := fx_36))) (fun N => fm_law N (txt_mk X Y c B) F) plain⟩
  obtain ⟨oc, od, dV, kV, doc, pm, an, cdv, ct, osl, rfl, lk, hcd, hdv, _⟩ := F.ex
  rcases hdv with ⟨_, rfl⟩ | ⟨hn, _⟩
  · exact fun s v => .of_eq rfl
  · exact absurd rfl hn
end
end Wk14
namespace Wk14
open PySem G C
local macro_rules | `(tactic| wp_walk using $ts,*) => `(tactic| try simp only [wr_ok, wr_exc, wr_lf, wr_eC, evQ_some, wr_eVar, cB2_s, cB1_s, wr_eBin, cS2_s, cS1_s, wr_eBinS, asQ_bl, wr_tB, truQ_s, wr_tT, notQ_s, wr_tNt, anQ_t, anQ_f, wr_tAn, orQ_t, orQ_f, wr_tOr, eaB_t, eaB_f, eaQ_s, wr_eAn, eoB_t, eoB_f, eoQ_s, wr_eOr, enB_s, enQ_s, wr_eNt, eiQ_t, eiQ_f, wr_eIf, negQ_int, wr_eNeg, wr_aNil, cC2_s, cC1_s, wr_aCons, tupQ_s, lstQ_s, newQ_s, wr_eTup, wr_eLst, wr_eNew, caQ_s, wr_eCa, clQ_s, wr_eCall, nAQ_s, wr_nA, tyQ_s, wr_eIsTy, icQ_s, wr_eIsC, mt2_s, mt1_s, wr_eMt, wr_oNone, oQ_int, wr_oSome, sl3_s, sl2_s, sl1_s, wr_eSl, kk2_s, kk1_s, wr_eCallK, kk0_s, wr_eCallK0, wr_gN, sb3_s, sb2_s, sb1_s, wr_gSb, wr_gsNil, gs1_s, wr_gsCons, wr_gTp, wr_gTp_rD, xe_s, sq_nx, sq_rt, sq_bk, sq_ct, sq_ex, sq_xe, ws_nxt, ws_sNop, ws_sSeq, ws_sBrk, ws_sCnt, dropQ_s, ws_sDrop, ws_sRet, ws_sRetN, ifQ_t, ifQ_f, ws_sIf, asg1_s, ws_sAsg, setQ_s, ws_sSet, parQ_s, ws_sPar, ws_sRaise, fn_nx, fn_rt, fn_ex, fn_xe, su_nx, su_bk, su_ct, su_rt, trQ_t, trQ_f, tr_nx, tr_rt, tr_bk, tr_ct, tr_ex, ws_sTry, forQ_s, ws_sFor, lp_nx, lp_rt, lp_bk, lp_ct, lp_ex, lp_xe, ws_fi_nil, bodyQ_s, mid_nx, mid_rt, mid_bk, mid_ct, mid_ex, mid_xe, lc2_s, lc1_s, wr_eLc, lcn2_s, lcn1_s, wr_eLcN, wipe_nil, wipe_cons, wr_tTrue, wr_lc_nil, tgQ_some, ly_s, lt1_t, lt1_f, lg_s, eqQ_s, exQ_s, seqQ_tup, seqQ_lst, seqQ_scr, seqQ_rD, wr_iSeq, rgQ_int, wr_iRg1, rgQ2_int, wr_iRg2, ch3_t, ch3_f, ch2_s, ch1_s, wr_eChain, flQ_s, wr_eFld, fldD_ins, stQ_s, sf2_s, sf1_s, ws_sFldM, mkQ2_s, mkQ1_s, wr_eMk, wr_eMk0, ap2_s, ap1_s, wr_eApp, zpQ_s, wr_iZip, zipR_tup, zipR_lst, srQ_s, wr_iStrM, strR_s, ioQ_s, wr_eIsO, dAddS_int, wr_gStr_tup, wr_gStr_lst, fTuple_lst, fTuple_tup, List.take_succ_cons, List.take_zero, List.drop_succ_cons, List.drop_zero, List.getElem?_cons_zero, List.getElem?_cons_succ, List.set_cons_zero, List.set_cons_succ, List.map_cons, List.map_nil, List.length_cons, List.length_nil, List.cons_append, List.nil_append, List.replicate_succ, List.replicate_zero, List.append_nil, true_and, and_true, and_self, if_true, ite_true, if_false, ite_false, Bool.false_eq_true, Bool.not_true, Bool.not_false, Bool.not_not, decide_true, decide_false, decide_eq_true_eq, not_false_eq_true, not_true_eq_false, reduceCtorEq, sizeLine_eq, Option.map_some, Option.some.injEq, Nat.reduceSub, Nat.reduceAdd, Nat.reduceLeDiff, Nat.reduceEqDiff, Nat.zero_add, Nat.reduceBEq, List.contains_cons, List.contains_nil, beq_self_eq_true, Bool.true_or, Bool.or_true, Bool.false_or, Bool.or_false, List.lookup_cons, List.lookup_nil, Int.reduceEq, Int.reduceNe, Int.reduceLT, Int.reduceLE, Int.reduceNeg, Int.reduceAdd, Int.reduceSub, Int.cast_ofNat_Int, ne_eq, cmpI_s, dGt, dGe, dLt, dLe, dAdd_int, dSub_int, dEq_int, dNe_int, dEq_bl, dNe_bl, truD_bl, isTy_int, isTy_bl, isTy_tup, fLen_tup, fLen_scr, fLen_lst, fAbs_int, fMax_int, fMin_int, ixD_tup, ixD_lst, ixD_scr, isTy_rD, fLen_rD, ix_rD0, ix_rD1, dEq_rD, dNe_rD, dIs_rD, dIsNot_rD, Tn.is, me3_s, me2_s, me1_s, wr_eMeth, mk2_s, mk1_s, wr_eMethK, m01_s, wr_eMeth0, wr_eNewD, dg3_s, dg2_s, dg1_s, wr_eDGet2, dh2_s, dh1_s, wr_eDGet1, dp3_s, dp2_s, dp1_s, wr_eDPop2, dq2_s, dq1_s, wr_eDPop1, se2_s, se1_s, wr_gSbE, ssQ_s, wr_eSortSet, an2_s, an1_s, wr_eAddN, celQ_tup, celQ_lst, celQ_scr, wr_iCel, forcQ_s, ws_sForC, lcc1_s, wr_eLcC, lcd1_s, wr_eLcCN, keyD_int, keyD_str, Option.isSome_some, fmQ_s, wr_eFmt, jsQ_str, wr_js_nil, wr_js_cons, wr_eJs, s4Q_str, soQ_s, wr_eStrO, dAddE_0, wr_eCallV, chQ_s, wr_eCallH, wr_lamF, oj_s, enuQ_s, wr_iEnum, enR_tup, enR_lst, lrQ_int, wr_eLr, lrnQ_int, wr_eLrN, agQ_s, auP_s, ws_sAug, augR_int, pp2_s, pp1_s, wr_ePop, wr_gSq_tup, wr_gSq_lst, $[$ts:term],*])
structure Rw where
  z : Int
  l : Rat
  o : Option Rat
  h : Int
  c : Rat
  g : Rat
  t : Rat
def rwD (r : Rw) : D := .lst [.int r.z, rD r.l, oD r.o, .int r.h, tD r.c r.g r.t]
def rvD (p : Str × Rw) : D := .tup [.int p.2.z, cD p.1 p.2.l p.2.o p.2.h, tD p.2.c p.2.g p.2.t]
structure RwOk (r : Rw) : Prop where
  k : CliOk r.l r.o r.h
  z1 : 1 ≤ r.z
  z9 : r.z ≤ 999
  bl : Bt r.l 250
  bo : ∀ q, r.o = some q → Bt q 250
  bc : Bt r.c 250
  bg : Bt r.g 250
  bt : Bt r.t 250
  c0 : 0 ≤ r.c
  g0 : 0 ≤ r.g
  t0 : 0 ≤ r.t
def clk (now : Rat) (r : Rw) : Bool := !decide (r.l = 0) && !decide (now < r.c)
def gat (now : Rat) (r : Rw) : Bool := r.o.isNone || !decide (now < r.g)
def ixs (P : Rw → Bool) (l : List Rw) (n : Nat) : List Nat := (List.range n).filter fun j => (l[j]?).any P
theorem ixs_succ {P : Rw → Bool} {l : List Rw} {i : Nat} {r : Rw} (h : l[i]? = some r) : ixs P l (i + 1) = ixs P l i ++ if P r = true then [i] else [] := by
  unfold ixs
  rw [List.range_succ, List.filter_append]
  congr 1
  simp only [List.filter_cons, List.filter_nil, h, Option.any_some]
theorem ixs_mem {P : Rw → Bool} {l : List Rw} {n i : Nat} (h : i ∈ ixs P l n) : i < n ∧ ∃ r, l[i]? = some r ∧ P r = true := by
  unfold ixs at h
  obtain ⟨h1, h2⟩ := List.mem_filter.mp h
  refine ⟨List.mem_range.mp h1, ?_⟩
  cases e : l[i]? with
  | none => rw [e] at h2; simp at h2
  | some r => rw [e] at h2; exact ⟨r, rfl, by simpa using h2⟩
theorem ixs_len (P : Rw → Bool) (l : List Rw) (n : Nat) : (ixs P l n).length ≤ n := by
  unfold ixs
  exact Nat.le_trans (List.length_filter_le _ _) (by simp)
theorem iL_app (a b : List Nat) : iL (a ++ b) = iL a ++ iL b := by unfold iL; rw [List.map_append]
theorem iL_len (a : List Nat) : (iL a).length = a.length := by unfold iL; rw [List.length_map]
theorem iL_get {a : List Nat} {i : Nat} {d : D} (h : (iL a)[i]? = some d) : ∃ q : Nat, a[i]? = some q ∧ d = .int (q : Int) := by
  unfold iL at h
  rw [List.getElem?_map] at h
  obtain ⟨q, h1, rfl⟩ := Option.map_eq_some_iff.mp h
  exact ⟨q, h1, rfl⟩
theorem iL_nil (a : List Nat) : decide (iL a = []) = decide (a = []) := by cases a <;> simp [iL]
theorem range_iL (n : Nat) : rangeD 0 n = iL (List.range n) := by
  apply List.ext_getElem?
  intro i
  by_cases h : i < n
  · have h1 : i < (rangeD 0 n).length := by rw [range_len]; exact h
    rw [List.getElem?_eq_getElem h1]
    have := (range_get (List.getElem?_eq_getElem h1)).1
    rw [this]
    unfold iL
    rw [List.getElem?_map, List.getElem?_range h]; rfl
  · rw [List.getElem?_eq_none (by rw [range_len]; omega), List.getElem?_eq_none (by rw [iL_len]; simp; omega)]
theorem z01 : D.tup [.int 0, .int 1] = rD 0 := rfl
theorem by_clock_ok {N : Nat} {p : Str × Rw} {now : Rat} {S : Store} (hN : big N) (h : RwOk p.2) (hb : Bt now 250) : m_by_clock N [rvD p, rD now] S = .ok (.bl (clk now p.2)) S := by
  unfold rvD clk
  apply eq_of_w
  rw [m_by_clock, wr_fnM, b_by_clock]
  by_cases c1 : p.2.l = 0
  · wp_walk using f1_c, z01, c1, Bool.false_and
  · wp_walk using f1_c, z01, c1, ix_tD0, before_ok (S := S) hN hb h.bc (by omega), Bool.true_and
theorem by_gate_ok {N : Nat} {p : Str × Rw} {now : Rat} {S : Store} (hN : big N) (h : RwOk p.2) (hb : Bt now 250) : m_by_gate N [rvD p, rD now] S = .ok (.bl (gat now p.2)) S := by
  have e0 : dIs .non .non = some (.bl true) := rfl
  unfold rvD gat
  apply eq_of_w
  rw [m_by_gate, wr_fnM, b_by_gate]
  cases c1 : p.2.o with
  | none => wp_walk using f2_c, c1, oD_none, e0, Option.isNone_none, Bool.true_or
  | some q => wp_walk using f2_c, c1, oD_some, ix_tD1, before_ok (S := S) hN hb h.bg (by omega), Option.isNone_some, Bool.false_or
def dueR (r : Rw) : Rat := dueB r.c r.z r.l
theorem bt_due {r : Rw} (h : RwOk r) : Bt (dueR r) 900 := (h.bc.add ((bt_size h.z1 h.z9).div h.bl)).mono (by omega)
theorem rival_due_ok {N : Nat} {p : Str × Rw} {S : Store} (hN : big N) (h : RwOk p.2) (h0 : p.2.l ≠ 0) : m_rival_due N [rvD p] S = .ok (rD (dueR p.2)) S := by
  unfold rvD
  apply eq_of_w
  rw [m_rival_due, wr_fnM, b_rival_due]
  wp_walk using due_of_ok (S := S) hN h.bc h.bl h0 h.z1 h.z9 (by omega), dueR
def stp (key : Nat → Rat) (b q : Nat) : Nat := if key q < key b then q else b
def fstI (key : Nat → Rat) : List Nat → Nat
  | [] => 0
  | p :: ps => ps.foldl (stp key) p
theorem fold_mem (key : Nat → Rat) (ps : List Nat) (p : Nat) : ps.foldl (stp key) p ∈ p :: ps := by
  induction ps generalizing p with
  | nil => simp
  | cons q ps ih =>
    rw [List.foldl_cons]
    have h := ih (stp key p q)
    rcases List.mem_cons.mp h with h | h
    · rw [h]; unfold stp; split <;> simp
    · simp [h]
theorem fstI_mem (key : Nat → Rat) {ps : List Nat} (h : ps ≠ []) : fstI key ps ∈ ps := by
  cases ps with
  | nil => exact absurd rfl h
  | cons p ps => exact fold_mem key ps p
theorem fold_step (key : Nat → Rat) {ps : List Nat} {p q j : Nat} (h : ps[j]? = some q) : (ps.take (j + 1)).foldl (stp key) p = stp key ((ps.take j).foldl (stp key) p) q := by
  rw [List.take_add_one, h, List.foldl_append]; rfl
theorem mem_take {p j : Nat} {ps : List Nat} {x : Nat} (h : x ∈ p :: ps.take j) : x ∈ p :: ps := by
  rcases List.mem_cons.mp h with h | h
  · simp [h]
  · exact List.mem_cons_of_mem _ (List.mem_of_mem_take h)
def KeyOf (S : Store) (rv : D) (fk : FM) (key : Nat → Rat) (ps : List Nat) : Prop := ∀ i, i ∈ ps → Bt (key i) 4000 ∧ ∃ d, ixD S rv (.int (i : Nat)) = some d ∧ fk [d] S = .ok (rD (key i)) S
theorem first_of_ok {N : Nat} (hN : big N) {fv : Nat} {cp : List (Option D)} {fk : FM} {S : Store} {rv : D} {key : Nat → Rat} {ps : List Nat} (hp : ps ≠ []) (hk : KeyOf S rv fk key ps) : m_first_of fv cp fk N [rv, .lst (iL ps), .fa fv] S = .ok (.int (fstI key ps : Nat)) S := by
  cases ps with
  | nil => exact absurd rfl hp
  | cons p ps =>
    have e : iL (p :: ps) = .int (p : Nat) :: iL ps := rfl
    rw [e]
    apply eq_of_w
    rw [m_first_of, wr_fnH, b_first_of]
    wp_walk using Nat.le_add_left
    refine for_w (fun j e S' => S' = S ∧ j ≤ ps.length ∧ ∃ x5, e = some rv :: some (.lst (.int (p : Nat) :: iL ps)) :: some (.fa fv) :: some (.int ((ps.take j).foldl (stp key) p : Nat)) :: some (.lst (iL ps)) :: x5 :: cp) ⟨rfl, Nat.zero_le _, none, rfl⟩ ?_ ?_
    · rintro j d e S' hd ⟨rfl, hj, x5, rfl⟩
      obtain ⟨q, hq, rfl⟩ := iL_get hd
      have hl : j < ps.length := (List.getElem?_eq_some_iff.mp hq).1
      obtain ⟨b1, d1, i1, f1⟩ := hk q (List.mem_cons_of_mem _ (List.mem_of_getElem? hq))
      have es := fold_step key (p := p) hq
      have hm := mem_take (fold_mem key (ps.take j) p)
      generalize (ps.take j).foldl (stp key) p = b at es hm ⊢
      obtain ⟨b2, d2, i2, f2⟩ := hk b hm
      by_cases c : key q < key b
      · have e2 : stp key b q = q := by unfold stp; rw [if_pos c]
        wp_walk using i1, f1, i2, f2, before_ok (S := S') hN b1 b2 (by omega), c
        exact ⟨hl, _, by rw [es, e2]⟩
      · have e2 : stp key b q = b := by unfold stp; rw [if_neg c]
        wp_walk using i1, f1, i2, f2, before_ok (S := S') hN b1 b2 (by omega), c
        exact ⟨hl, _, by rw [es, e2]⟩
    · rintro e S' ⟨rfl, hj, x5, rfl⟩
      rw [iL_len, List.take_length]
      wp_walk using fstI
theorem law_first_ok {N : Nat} {fv : Nat} {cp : List (Option D)} {fk : FM} {S : Store} {rv : D} {key : Nat → Rat} {ps : List Nat} (hp : ps ≠ []) (hk : KeyOf S rv fk key ps) : m__law_first fv cp fk N [rv, .lst (iL ps), .fa fv] S = .ok (.int (fstI key ps : Nat)) S := by
  cases ps with
  | nil => exact absurd rfl hp
  | cons p ps =>
    have e : iL (p :: ps) = .int (p : Nat) :: iL ps := rfl
    have e0 : L2.atI (iL (p :: ps)) 0 = some (.int (p : Nat)) := L2.atI_nat (j := 0) rfl
    apply eq_of_w
    rw [m__law_first, wr_fnH, b__law_first]
    wp_walk using e0
    have e1 : fstI key (p :: ps) = (p :: ps).foldl (stp key) p := by
      show ps.foldl (stp key) p = ps.foldl (stp key) (stp key p p)
      congr 1
      unfold stp; split <;> rfl
    rw [e1]
    have hps : ∀ j, ((p :: ps).take j).foldl (stp key) p ∈ p :: ps := fun j => by
      have := fold_mem key ((p :: ps).take j) p
      rcases List.mem_cons.mp this with h | h
      · rw [h]; simp
      · exact List.mem_of_mem_take h
    generalize p :: ps = qs at hk hps ⊢
    refine for_w (fun j e S' => S' = S ∧ j ≤ qs.length ∧ ∃ x4, e = some rv :: some (.lst (iL qs)) :: some (.fa fv) :: some (.int ((qs.take j).foldl (stp key) p : Nat)) :: x4 :: cp) ⟨rfl, Nat.zero_le _, none, rfl⟩ ?_ ?_
    · rintro j d e S' hd ⟨rfl, hj, x5, rfl⟩
      obtain ⟨q, hq, rfl⟩ := iL_get hd
      have hl : j < qs.length := (List.getElem?_eq_some_iff.mp hq).1
      obtain ⟨b1, d1, i1, f1⟩ := hk q (List.mem_of_getElem? hq)
      have es := fold_step key (p := p) hq
      have hm := hps j
      generalize (qs.take j).foldl (stp key) p = b at es hm ⊢
      obtain ⟨b2, d2, i2, f2⟩ := hk b hm
      by_cases c : key q < key b
      · have e2 : stp key b q = q := by unfold stp; rw [if_pos c]
        wp_walk using i1, f1, i2, f2, lless_ok (N := N) (S := S') b1 b2 (by omega), c
        exact ⟨hl, _, by rw [es, e2]⟩
      · have e2 : stp key b q = b := by unfold stp; rw [if_neg c]
        wp_walk using i1, f1, i2, f2, lless_ok (N := N) (S := S') b1 b2 (by omega), c
        exact ⟨hl, _, by rw [es, e2]⟩
    · rintro e S' ⟨rfl, hj, x5, rfl⟩
      rw [iL_len, List.take_length]
      wp_walk using wr_ok
end Wk14
namespace Wk14
open PySem G C
local macro_rules | `(tactic| wp_walk using $ts,*) => `(tactic| try simp only [wr_ok, wr_exc, wr_lf, wr_eC, evQ_some, wr_eVar, cB2_s, cB1_s, wr_eBin, cS2_s, cS1_s, wr_eBinS, asQ_bl, wr_tB, truQ_s, wr_tT, notQ_s, wr_tNt, anQ_t, anQ_f, wr_tAn, orQ_t, orQ_f, wr_tOr, eaB_t, eaB_f, eaQ_s, wr_eAn, eoB_t, eoB_f, eoQ_s, wr_eOr, enB_s, enQ_s, wr_eNt, eiQ_t, eiQ_f, wr_eIf, negQ_int, wr_eNeg, wr_aNil, cC2_s, cC1_s, wr_aCons, tupQ_s, lstQ_s, newQ_s, wr_eTup, wr_eLst, wr_eNew, caQ_s, wr_eCa, clQ_s, wr_eCall, nAQ_s, wr_nA, tyQ_s, wr_eIsTy, icQ_s, wr_eIsC, mt2_s, mt1_s, wr_eMt, wr_oNone, oQ_int, wr_oSome, sl3_s, sl2_s, sl1_s, wr_eSl, kk2_s, kk1_s, wr_eCallK, kk0_s, wr_eCallK0, wr_gN, sb3_s, sb2_s, sb1_s, wr_gSb, wr_gsNil, gs1_s, wr_gsCons, wr_gTp, wr_gTp_rD, xe_s, sq_nx, sq_rt, sq_bk, sq_ct, sq_ex, sq_xe, ws_nxt, ws_sNop, ws_sSeq, ws_sBrk, ws_sCnt, dropQ_s, ws_sDrop, ws_sRet, ws_sRetN, ifQ_t, ifQ_f, ws_sIf, asg1_s, ws_sAsg, setQ_s, ws_sSet, parQ_s, ws_sPar, ws_sRaise, fn_nx, fn_rt, fn_ex, fn_xe, su_nx, su_bk, su_ct, su_rt, trQ_t, trQ_f, tr_nx, tr_rt, tr_bk, tr_ct, tr_ex, ws_sTry, forQ_s, ws_sFor, lp_nx, lp_rt, lp_bk, lp_ct, lp_ex, lp_xe, ws_fi_nil, bodyQ_s, mid_nx, mid_rt, mid_bk, mid_ct, mid_ex, mid_xe, lc2_s, lc1_s, wr_eLc, lcn2_s, lcn1_s, wr_eLcN, wipe_nil, wipe_cons, wr_tTrue, wr_lc_nil, tgQ_some, ly_s, lt1_t, lt1_f, lg_s, eqQ_s, exQ_s, seqQ_tup, seqQ_lst, seqQ_scr, seqQ_rD, wr_iSeq, rgQ_int, wr_iRg1, rgQ2_int, wr_iRg2, ch3_t, ch3_f, ch2_s, ch1_s, wr_eChain, flQ_s, wr_eFld, fldD_ins, stQ_s, sf2_s, sf1_s, ws_sFldM, mkQ2_s, mkQ1_s, wr_eMk, wr_eMk0, ap2_s, ap1_s, wr_eApp, zpQ_s, wr_iZip, zipR_tup, zipR_lst, srQ_s, wr_iStrM, strR_s, ioQ_s, wr_eIsO, dAddS_int, wr_gStr_tup, wr_gStr_lst, fTuple_lst, fTuple_tup, List.take_succ_cons, List.take_zero, List.drop_succ_cons, List.drop_zero, List.getElem?_cons_zero, List.getElem?_cons_succ, List.set_cons_zero, List.set_cons_succ, List.map_cons, List.map_nil, List.length_cons, List.length_nil, List.cons_append, List.nil_append, List.replicate_succ, List.replicate_zero, List.append_nil, true_and, and_true, and_self, if_true, ite_true, if_false, ite_false, Bool.false_eq_true, Bool.not_true, Bool.not_false, Bool.not_not, decide_true, decide_false, decide_eq_true_eq, not_false_eq_true, not_true_eq_false, reduceCtorEq, sizeLine_eq, Option.map_some, Option.some.injEq, Nat.reduceSub, Nat.reduceAdd, Nat.reduceLeDiff, Nat.reduceEqDiff, Nat.zero_add, Nat.reduceBEq, List.contains_cons, List.contains_nil, beq_self_eq_true, Bool.true_or, Bool.or_true, Bool.false_or, Bool.or_false, List.lookup_cons, List.lookup_nil, Int.reduceEq, Int.reduceNe, Int.reduceLT, Int.reduceLE, Int.reduceNeg, Int.reduceAdd, Int.reduceSub, Int.cast_ofNat_Int, ne_eq, cmpI_s, dGt, dGe, dLt, dLe, dAdd_int, dSub_int, dEq_int, dNe_int, dEq_bl, dNe_bl, truD_bl, isTy_int, isTy_bl, isTy_tup, fLen_tup, fLen_scr, fLen_lst, fAbs_int, fMax_int, fMin_int, ixD_tup, ixD_lst, ixD_scr, isTy_rD, fLen_rD, ix_rD0, ix_rD1, dEq_rD, dNe_rD, dIs_rD, dIsNot_rD, Tn.is, me3_s, me2_s, me1_s, wr_eMeth, mk2_s, mk1_s, wr_eMethK, m01_s, wr_eMeth0, wr_eNewD, dg3_s, dg2_s, dg1_s, wr_eDGet2, dh2_s, dh1_s, wr_eDGet1, dp3_s, dp2_s, dp1_s, wr_eDPop2, dq2_s, dq1_s, wr_eDPop1, se2_s, se1_s, wr_gSbE, ssQ_s, wr_eSortSet, an2_s, an1_s, wr_eAddN, celQ_tup, celQ_lst, celQ_scr, wr_iCel, forcQ_s, ws_sForC, lcc1_s, wr_eLcC, lcd1_s, wr_eLcCN, keyD_int, keyD_str, Option.isSome_some, fmQ_s, wr_eFmt, jsQ_str, wr_js_nil, wr_js_cons, wr_eJs, s4Q_str, soQ_s, wr_eStrO, dAddE_0, wr_eCallV, chQ_s, wr_eCallH, wr_lamF, oj_s, enuQ_s, wr_iEnum, enR_tup, enR_lst, lrQ_int, wr_eLr, lrnQ_int, wr_eLrN, agQ_s, auP_s, ws_sAug, augR_int, pp2_s, pp1_s, wr_ePop, wr_gSq_tup, wr_gSq_lst, $[$ts:term],*])
def low (b x : Rat) : Rat := if x < b then x else b
def spots (rows : List Rw) : List Rat := rows.map (·.g) ++ (rows.filter fun r => !decide (r.l = 0)).map (·.c)
def nextD : List Rat → D
  | [] => .non
  | q :: qs => rD (qs.foldl low q)
theorem cmp_rL (qs : List Rat) : ∀ d, d ∈ qs.map rD → Cmp d := by
  intro d hd
  obtain ⟨i, _, rfl⟩ := List.mem_map.mp hd
  exact cmp_rD _
theorem low_step {qs : List Rat} {p q : Rat} {j : Nat} (h : qs[j]? = some q) : (qs.take (j + 1)).foldl low p = low ((qs.take j).foldl low p) q := by
  rw [List.take_add_one, h, List.foldl_append]; rfl
theorem low_mem (qs : List Rat) (p : Rat) : qs.foldl low p ∈ p :: qs := by
  induction qs generalizing p with
  | nil => simp
  | cons q ps ih =>
    rw [List.foldl_cons]
    rcases List.mem_cons.mp (ih (low p q)) with h | h
    · rw [h]; unfold low; split <;> simp
    · simp [h]
theorem spots_bt {rows : List Rw} (h : ∀ r, r ∈ rows → RwOk r) : ∀ q, q ∈ spots rows → Bt q 250 := by
  intro q hq
  unfold spots at hq
  rcases List.mem_append.mp hq with hq | hq
  · obtain ⟨r, hr, rfl⟩ := List.mem_map.mp hq
    exact (h r hr).bg
  · obtain ⟨r, hr, rfl⟩ := List.mem_map.mp hq
    exact (h r (List.mem_filter.mp hr).1).bc
theorem next_w {N : Nat} (hN : big N) {S : Store} {rs : List (Str × Rw)} {Q X : QP D} (hr : ∀ p, p ∈ rs → RwOk p.2) (hl : rs.length ≤ 1000) (h : ∀ c, Q (nextD (spots (rs.map (·.2)))) (S ++ c)) : Wr (m_next_moment N [.tup (rs.map rvD)] S) Q X := by
  rw [m_next_moment, wr_fnM, b_next_moment]
  wp_walk using wr_ok
  have tm : ∀ (p : Str × Rw) (x1 : Option D), Tg.m (.tp [5, 6, 7]) (rvD p) [some (.tup (rs.map rvD)), x1, none, none, none, none, none, none] = some [some (.tup (rs.map rvD)), x1, none, none, none, some (.int p.2.z), some (cD p.1 p.2.l p.2.o p.2.h), some (tD p.2.c p.2.g p.2.t)] := fun _ _ => rfl
  refine lc_w (fun i acc S' => S' = S ∧ i ≤ rs.length ∧ acc = ((rs.take i).map fun p => p.2.g).map rD) ⟨rfl, Nat.zero_le _, rfl⟩ ?_ ?_
  · rintro i d acc S' hd ⟨rfl, hi, rfl⟩
    rw [List.getElem?_map] at hd
    obtain ⟨p, hp, rfl⟩ := Option.map_eq_some_iff.mp hd
    have hlt : i < rs.length := (List.getElem?_eq_some_iff.mp hp).1
    wp_walk using tm, ix_tD1, List.length_map, List.length_take
    refine ⟨by omega, hlt, ?_⟩
    rw [List.take_add_one, hp]; simp
  · rintro acc S' ⟨rfl, hi, rfl⟩
    rw [List.length_map, List.take_length]
    wp_walk using wr_ok
    refine lc_w (fun i acc S1 => S1 = S' ++ [.lst ((rs.map fun p => p.2.g).map rD)] ∧ i ≤ rs.length ∧ acc = (((rs.take i).filter fun p => !decide (p.2.l = 0)).map fun p => p.2.c).map rD) ⟨rfl, Nat.zero_le _, rfl⟩ ?_ ?_
    · rintro i d acc S1 hd ⟨rfl, hi, rfl⟩
      rw [List.getElem?_map] at hd
      obtain ⟨p, hp, rfl⟩ := Option.map_eq_some_iff.mp hd
      have hlt : i < rs.length := (List.getElem?_eq_some_iff.mp hp).1
      have hz : ((((rs.take i).filter fun p => !decide (p.2.l = 0)).map fun p => p.2.c).map rD).length < 1000 := by
        rw [List.length_map, List.length_map]
        have := List.length_filter_le (fun p : Str × Rw => !decide (p.2.l = 0)) (rs.take i)
        rw [List.length_take] at this
        omega
      have et : (rs.take (i + 1)).filter (fun p => !decide (p.2.l = 0)) = (rs.take i).filter (fun p => !decide (p.2.l = 0)) ++ if p.2.l = 0 then [] else [p] := by
        rw [List.take_add_one, hp, List.filter_append]
        congr 1
        by_cases c : p.2.l = 0 <;> simp [c]
      rw [et]
      generalize (rs.take i).filter (fun p => !decide (p.2.l = 0)) = fs at hz ⊢
      by_cases c : p.2.l = 0
      · wp_walk using tm, f1_c, z01, c
        exact hlt
      · wp_walk using tm, f1_c, z01, c, ix_tD0
        exact ⟨by have := hz; omega, hlt, by simp⟩
    · rintro acc S1 ⟨rfl, hi, rfl⟩
      rw [List.length_map, List.take_length]
      have hg : (S' ++ [Cell.lst ((rs.map fun p => p.2.g).map rD)])[S'.length]? = some (.lst ((rs.map fun p => p.2.g).map rD)) := by simp
      have hsz : ((rs.map fun p => p.2.g).map rD).length + (((rs.filter fun p => !decide (p.2.l = 0)).map fun p => p.2.c).map rD).length ≤ sizeLine := by
        simp only [List.length_map]
        have := List.length_filter_le (fun p : Str × Rw => !decide (p.2.l = 0)) rs
        rw [sizeLine_eq]; omega
      have hsp : (rs.map fun p => p.2.g).map rD ++ ((rs.filter fun p => !decide (p.2.l = 0)).map fun p => p.2.c).map rD = (spots (rs.map (·.2))).map rD := by
        unfold spots
        rw [List.map_append]
        congr 1
        · rw [List.map_map, List.map_map, List.map_map]; rfl
        · rw [List.filter_map, List.map_map, List.map_map, List.map_map]; rfl
      have hst : (S' ++ [Cell.lst ((rs.map fun p => p.2.g).map rD)]).set S'.length (.lst ((spots (rs.map (·.2))).map rD)) = S' ++ [.lst ((spots (rs.map (·.2))).map rD)] := by
        rw [List.set_append_right _ _ (Nat.le_refl _)]; simp
      have hbt := spots_bt (rows := rs.map (·.2)) (fun r hr' => by
        obtain ⟨p, hp, rfl⟩ := List.mem_map.mp hr'
        exact hr p hp)
      wp_walk using augR_loc 1 hg hsz, hsp, hst
      generalize spots (rs.map (·.2)) = qs at h hbt
      have hq : (S' ++ [Cell.lst (qs.map rD)])[S'.length]? = some (.lst (qs.map rD)) := by simp
      wp_walk using dEqS_nil hq (cmp_rL qs)
      cases qs with
      | nil =>
        wp_walk using wr_ok
        exact h _
      | cons q qs =>
        have ne : ¬ (rD q :: qs.map rD = []) := by simp
        have hq2 : (S' ++ [Cell.lst (rD q :: qs.map rD)])[S'.length]? = some (.lst (rD q :: qs.map rD)) := hq
        wp_walk using ne, wr_gStr_loc 1 _ hq2, Nat.le_add_left
        refine for_w (fun j e S1 => S1 = S' ++ [.lst (rD q :: qs.map rD)] ∧ j ≤ qs.length ∧ ∃ x4, e = [some (.tup (rs.map rvD)), some (.loc S'.length), some (rD ((qs.take j).foldl low q)), some (.lst (qs.map rD)), x4, none, none, none]) ⟨rfl, Nat.zero_le _, none, rfl⟩ ?_ ?_
        · rintro j d e S1 hd ⟨rfl, hj, x4, rfl⟩
          rw [List.getElem?_map] at hd
          obtain ⟨p, hp, rfl⟩ := Option.map_eq_some_iff.mp hd
          have hlt : j < qs.length := (List.getElem?_eq_some_iff.mp hp).1
          have b1 : Bt p 250 := hbt p (List.mem_cons_of_mem _ (List.mem_of_getElem? hp))
          have b2 : Bt ((qs.take j).foldl low q) 250 := hbt _ (by
            rcases List.mem_cons.mp (low_mem (qs.take j) q) with z | z
            · rw [z]; simp
            · exact List.mem_cons_of_mem _ (List.mem_of_mem_take z))
          have es := low_step (p := q) hp
          generalize (qs.take j).foldl low q = b at es b2 ⊢
          by_cases c : p < b
          · have e2 : low b p = p := by unfold low; rw [if_pos c]
            wp_walk using before_ok hN b1 b2 (by omega), c
            exact ⟨hlt, _, by rw [es, e2]⟩
          · have e2 : low b p = b := by unfold low; rw [if_neg c]
            wp_walk using before_ok hN b1 b2 (by omega), c
            exact ⟨hlt, _, by rw [es, e2]⟩
        · rintro e S1 ⟨rfl, hj, x4, rfl⟩
          rw [List.length_map, List.take_length]
          wp_walk using wr_ok
          exact h _
end Wk14
namespace Wk14
open PySem G C
local macro_rules | `(tactic| wp_walk using $ts,*) => `(tactic| try simp only [wr_ok, wr_exc, wr_lf, wr_eC, evQ_some, wr_eVar, cB2_s, cB1_s, wr_eBin, cS2_s, cS1_s, wr_eBinS, asQ_bl, wr_tB, truQ_s, wr_tT, notQ_s, wr_tNt, anQ_t, anQ_f, wr_tAn, orQ_t, orQ_f, wr_tOr, eaB_t, eaB_f, eaQ_s, wr_eAn, eoB_t, eoB_f, eoQ_s, wr_eOr, enB_s, enQ_s, wr_eNt, eiQ_t, eiQ_f, wr_eIf, negQ_int, wr_eNeg, wr_aNil, cC2_s, cC1_s, wr_aCons, tupQ_s, lstQ_s, newQ_s, wr_eTup, wr_eLst, wr_eNew, caQ_s, wr_eCa, clQ_s, wr_eCall, nAQ_s, wr_nA, tyQ_s, wr_eIsTy, icQ_s, wr_eIsC, mt2_s, mt1_s, wr_eMt, wr_oNone, oQ_int, wr_oSome, sl3_s, sl2_s, sl1_s, wr_eSl, kk2_s, kk1_s, wr_eCallK, kk0_s, wr_eCallK0, wr_gN, sb3_s, sb2_s, sb1_s, wr_gSb, wr_gsNil, gs1_s, wr_gsCons, wr_gTp, wr_gTp_rD, xe_s, sq_nx, sq_rt, sq_bk, sq_ct, sq_ex, sq_xe, ws_nxt, ws_sNop, ws_sSeq, ws_sBrk, ws_sCnt, dropQ_s, ws_sDrop, ws_sRet, ws_sRetN, ifQ_t, ifQ_f, ws_sIf, asg1_s, ws_sAsg, setQ_s, ws_sSet, parQ_s, ws_sPar, ws_sRaise, fn_nx, fn_rt, fn_ex, fn_xe, su_nx, su_bk, su_ct, su_rt, trQ_t, trQ_f, tr_nx, tr_rt, tr_bk, tr_ct, tr_ex, ws_sTry, forQ_s, ws_sFor, lp_nx, lp_rt, lp_bk, lp_ct, lp_ex, lp_xe, ws_fi_nil, bodyQ_s, mid_nx, mid_rt, mid_bk, mid_ct, mid_ex, mid_xe, lc2_s, lc1_s, wr_eLc, lcn2_s, lcn1_s, wr_eLcN, wipe_nil, wipe_cons, wr_tTrue, wr_lc_nil, tgQ_some, ly_s, lt1_t, lt1_f, lg_s, eqQ_s, exQ_s, seqQ_tup, seqQ_lst, seqQ_scr, seqQ_rD, wr_iSeq, rgQ_int, wr_iRg1, rgQ2_int, wr_iRg2, ch3_t, ch3_f, ch2_s, ch1_s, wr_eChain, flQ_s, wr_eFld, fldD_ins, stQ_s, sf2_s, sf1_s, ws_sFldM, mkQ2_s, mkQ1_s, wr_eMk, wr_eMk0, ap2_s, ap1_s, wr_eApp, zpQ_s, wr_iZip, zipR_tup, zipR_lst, srQ_s, wr_iStrM, strR_s, ioQ_s, wr_eIsO, dAddS_int, wr_gStr_tup, wr_gStr_lst, fTuple_lst, fTuple_tup, List.take_succ_cons, List.take_zero, List.drop_succ_cons, List.drop_zero, List.getElem?_cons_zero, List.getElem?_cons_succ, List.set_cons_zero, List.set_cons_succ, List.map_cons, List.map_nil, List.length_cons, List.length_nil, List.cons_append, List.nil_append, List.replicate_succ, List.replicate_zero, List.append_nil, true_and, and_true, and_self, if_true, ite_true, if_false, ite_false, Bool.false_eq_true, Bool.not_true, Bool.not_false, Bool.not_not, decide_true, decide_false, decide_eq_true_eq, not_false_eq_true, not_true_eq_false, reduceCtorEq, sizeLine_eq, Option.map_some, Option.some.injEq, Nat.reduceSub, Nat.reduceAdd, Nat.reduceLeDiff, Nat.reduceEqDiff, Nat.zero_add, Nat.reduceBEq, List.contains_cons, List.contains_nil, beq_self_eq_true, Bool.true_or, Bool.or_true, Bool.false_or, Bool.or_false, List.lookup_cons, List.lookup_nil, Int.reduceEq, Int.reduceNe, Int.reduceLT, Int.reduceLE, Int.reduceNeg, Int.reduceAdd, Int.reduceSub, Int.cast_ofNat_Int, ne_eq, cmpI_s, dGt, dGe, dLt, dLe, dAdd_int, dSub_int, dEq_int, dNe_int, dEq_bl, dNe_bl, truD_bl, isTy_int, isTy_bl, isTy_tup, fLen_tup, fLen_scr, fLen_lst, fAbs_int, fMax_int, fMin_int, ixD_tup, ixD_lst, ixD_scr, isTy_rD, fLen_rD, ix_rD0, ix_rD1, dEq_rD, dNe_rD, dIs_rD, dIsNot_rD, Tn.is, me3_s, me2_s, me1_s, wr_eMeth, mk2_s, mk1_s, wr_eMethK, m01_s, wr_eMeth0, wr_eNewD, dg3_s, dg2_s, dg1_s, wr_eDGet2, dh2_s, dh1_s, wr_eDGet1, dp3_s, dp2_s, dp1_s, wr_eDPop2, dq2_s, dq1_s, wr_eDPop1, se2_s, se1_s, wr_gSbE, ssQ_s, wr_eSortSet, an2_s, an1_s, wr_eAddN, celQ_tup, celQ_lst, celQ_scr, wr_iCel, forcQ_s, ws_sForC, lcc1_s, wr_eLcC, lcd1_s, wr_eLcCN, keyD_int, keyD_str, Option.isSome_some, fmQ_s, wr_eFmt, jsQ_str, wr_js_nil, wr_js_cons, wr_eJs, s4Q_str, soQ_s, wr_eStrO, dAddE_0, wr_eCallV, chQ_s, wr_eCallH, wr_lamF, oj_s, enuQ_s, wr_iEnum, enR_tup, enR_lst, lrQ_int, wr_eLr, lrnQ_int, wr_eLrN, agQ_s, auP_s, ws_sAug, augR_int, pp2_s, pp1_s, wr_ePop, wr_gSq_tup, wr_gSq_lst, $[$ts:term],*])
inductive Pk where
  | least (i : Nat)
  | share (i : Nat)
  | nobody (d : D)
def Pk.d : Pk → D
  | .least i => .tup [.str "least", .int (i : Nat)]
  | .share i => .tup [.str "share", .int (i : Nat)]
  | .nobody d => .tup [.str "none", d]
def keyL (rows : List Rw) (i : Nat) : Rat := match rows[i]? with
  | some r => dueR r
  | none => 0
def keyT (pace : Rat) (rows : List Rw) (i : Nat) : Rat := match rows[i]? with
  | some r => max r.t pace
  | none => 0
def pickK (rows : List Rw) (now pace : Rat) : Pk :=
  if ixs (clk now) rows rows.length ≠ [] then .least (fstI (keyL rows) (ixs (clk now) rows rows.length))
  else if ixs (gat now) rows rows.length ≠ [] then .share (fstI (keyT pace rows) (ixs (gat now) rows rows.length))
  else .nobody (nextD (spots rows))
theorem clk_l {now : Rat} {r : Rw} (h : clk now r = true) : r.l ≠ 0 := by
  unfold clk at h
  intro z
  rw [z] at h
  simp at h
theorem rs_get {rs : List (Str × Rw)} {i : Nat} {r : Rw} (h : (rs.map (·.2))[i]? = some r) : ∃ p, rs[i]? = some p ∧ p.2 = r := by
  rw [List.getElem?_map] at h
  obtain ⟨p, hp, rfl⟩ := Option.map_eq_some_iff.mp h
  exact ⟨p, hp, rfl⟩
theorem keyL_of {rows : List Rw} {i : Nat} {r : Rw} (h : rows[i]? = some r) : keyL rows i = dueR r := by unfold keyL; rw [h]
theorem keyT_of {rows : List Rw} {i : Nat} {r : Rw} {pace : Rat} (h : rows[i]? = some r) : keyT pace rows i = max r.t pace := by unfold keyT; rw [h]
theorem bt_max {p q : Rat} {n : Nat} (h : Bt p n) (h' : Bt q n) : Bt (max p q) n := by
  have := h.max h'
  rwa [max_le] at this
theorem picked_of_w {N : Nat} (hN : big N) {S : Store} {rs : List (Str × Rw)} {now pace : Rat} {Q X : QP D} (hr : ∀ p, p ∈ rs → RwOk p.2) (hl : rs.length ≤ 1000) (bn : Bt now 250) (bp : Bt pace 250) (tb : tbS 1 mk_picked_of.1 mk_picked_of.2 S = true)
    (h : ∀ c, Q (pickK (rs.map (·.2)) now pace).d (S ++ c)) : Wr (m_picked_of N [.tup (rs.map rvD), rD now, rD pace] S) Q X := by
  have h0 : Q (pickK (rs.map (·.2)) now pace).d S := by simpa using h []
  have hlen : (rs.map (·.2)).length = rs.length := by simp
  have tm : ∀ (i : Nat) (p : Str × Rw) (x3 : Option D), Tg.m (.tp [4, 5]) (.tup [.int (i : Nat), rvD p]) [some (.tup (rs.map rvD)), some (rD now), some (rD pace), x3, none, none] = some [some (.tup (rs.map rvD)), some (rD now), some (rD pace), x3, some (.int (i : Nat)), some (rvD p)] := fun _ _ _ => rfl
  have sz : ∀ (P : Rw → Bool) (i : Nat), i ≤ rs.length → (iL (ixs P (rs.map (·.2)) i)).length < 1001 := fun P i hi => by
    rw [iL_len]
    have := ixs_len P (rs.map (·.2)) i
    omega
  rw [m_picked_of, wr_fnM, b_picked_of]
  wp_walk using wr_ok
  refine lc_w (fun i acc S' => S' = S ∧ i ≤ rs.length ∧ acc = iL (ixs (clk now) (rs.map (·.2)) i)) ⟨rfl, Nat.zero_le _, rfl⟩ ?_ ?_
  · rintro i d acc S' hd ⟨rfl, hi, rfl⟩
    obtain ⟨x, hx, rfl⟩ := enum_at hd
    rw [List.getElem?_map] at hx
    obtain ⟨p, hp, rfl⟩ := Option.map_eq_some_iff.mp hx
    have hlt : i < rs.length := (List.getElem?_eq_some_iff.mp hp).1
    have hr2 : (rs.map (·.2))[i]? = some p.2 := by rw [List.getElem?_map, hp]; rfl
    have es := ixs_succ (P := clk now) hr2
    have sz' := sz (clk now) i hi
    cases c : clk now p.2 with
    | true =>
      rw [c, if_pos rfl] at es
      wp_walk using tm, by_clock_ok (S := S') hN (hr p (List.mem_of_getElem? hp)) bn, c
      exact ⟨by omega, hlt, by rw [es, iL_app]; rfl⟩
    | false =>
      rw [c, if_neg Bool.false_ne_true, List.append_nil] at es
      wp_walk using tm, by_clock_ok (S := S') hN (hr p (List.mem_of_getElem? hp)) bn, c
      exact ⟨hlt, by rw [es]⟩
  · rintro acc S' ⟨rfl, hi, rfl⟩
    rw [enumD_len, List.length_map]
    have e1 : pickK (rs.map (·.2)) now pace = _ := rfl
    rw [pickK, hlen] at h h0
    by_cases ca : ixs (clk now) (rs.map (·.2)) rs.length = []
    · rw [if_neg (not_not_intro ca)] at h0
      have h' : ∀ c, Q (Pk.d (if ixs (gat now) (rs.map (·.2)) rs.length ≠ [] then .share (fstI (keyT pace (rs.map (·.2))) (ixs (gat now) (rs.map (·.2)) rs.length)) else .nobody (nextD (spots (rs.map (·.2)))))) (S' ++ c) := fun c => by
        have := h c
        rwa [if_neg (not_not_intro ca)] at this
      wp_walk using dNe_nil (cmp_iL _), iL_nil, ca
      refine lc_w (fun i acc S1 => S1 = S' ∧ i ≤ rs.length ∧ acc = iL (ixs (gat now) (rs.map (·.2)) i)) ⟨rfl, Nat.zero_le _, rfl⟩ ?_ ?_
      · rintro i d acc S1 hd ⟨rfl, hi, rfl⟩
        obtain ⟨x, hx, rfl⟩ := enum_at hd
        rw [List.getElem?_map] at hx
        obtain ⟨p, hp, rfl⟩ := Option.map_eq_some_iff.mp hx
        have hlt : i < rs.length := (List.getElem?_eq_some_iff.mp hp).1
        have hr2 : (rs.map (·.2))[i]? = some p.2 := by rw [List.getElem?_map, hp]; rfl
        have es := ixs_succ (P := gat now) hr2
        have sz' := sz (gat now) i hi
        cases c : gat now p.2 with
        | true =>
          rw [c, if_pos rfl] at es
          wp_walk using tm, by_gate_ok (S := S1) hN (hr p (List.mem_of_getElem? hp)) bn, c
          exact ⟨by omega, hlt, by rw [es, iL_app]; rfl⟩
        | false =>
          rw [c, if_neg Bool.false_ne_true, List.append_nil] at es
          wp_walk using tm, by_gate_ok (S := S1) hN (hr p (List.mem_of_getElem? hp)) bn, c
          exact ⟨hlt, by rw [es]⟩
      · rintro acc S1 ⟨rfl, hi, rfl⟩
        rw [enumD_len, List.length_map]
        by_cases cb : ixs (gat now) (rs.map (·.2)) rs.length = []
        · wp_walk using dNe_nil (cmp_iL _), iL_nil, cb
          refine next_w hN hr hl fun c => ?_
          wp_walk using wr_ok
          have := h' c
          rwa [if_neg (not_not_intro cb)] at this
        · rw [if_pos cb] at h0
          wp_walk using dNe_nil (cmp_iL _), iL_nil, cb, tb
          refine uni_w _ (fun q => first_of_ok hN (key := keyT pace (rs.map (·.2))) cb ?_) ?_
          · intro i hi
            obtain ⟨hlt, r, hr2, hP⟩ := ixs_mem hi
            obtain ⟨p, hp, rfl⟩ := rs_get hr2
            have ok := hr p (List.mem_of_getElem? hp)
            refine ⟨by rw [keyT_of hr2]; exact (bt_max ok.bt bp).mono (by omega), rvD p, ?_, ?_⟩
            · rw [ixD_tup]
              exact L2.atI_nat (by rw [List.getElem?_map, hp]; rfl)
            · have i2 : ∀ S, ixD S (rvD p) (.int 2) = some (tD p.2.c p.2.g p.2.t) := fun _ => rfl
              rw [keyT_of hr2]
              apply eq_of_w
              rw [wr_lamF]
              wp_walk using i2, ix_tD2, greater_ok (S := S1) hN ok.bt bp (by omega)
          · wp_walk using wr_ok
            exact h0
    · rw [if_pos ca] at h0
      wp_walk using dNe_nil (cmp_iL _), iL_nil, ca
      refine uni_w _ (fun q => first_of_ok hN (key := keyL (rs.map (·.2))) ca ?_) ?_
      · intro i hi
        obtain ⟨hlt, r, hr2, hP⟩ := ixs_mem hi
        obtain ⟨p, hp, rfl⟩ := rs_get hr2
        have ok := hr p (List.mem_of_getElem? hp)
        refine ⟨by rw [keyL_of hr2]; exact (bt_due ok).mono (by omega), rvD p, ?_, ?_⟩
        · rw [ixD_tup]
          exact L2.atI_nat (by rw [List.getElem?_map, hp]; rfl)
        · rw [keyL_of hr2]
          show (if [rvD p].length = 1 then m_rival_due N [rvD p] S' else .stuck) = _
          rw [if_pos (show [rvD p].length = 1 from rfl)]
          exact rival_due_ok hN ok (clk_l hP)
      · wp_walk using wr_ok
        exact h0
end Wk14
namespace Wk14
open PySem G C
local macro_rules | `(tactic| wp_walk using $ts,*) => `(tactic| try simp only [wr_ok, wr_exc, wr_lf, wr_eC, evQ_some, wr_eVar, cB2_s, cB1_s, wr_eBin, cS2_s, cS1_s, wr_eBinS, asQ_bl, wr_tB, truQ_s, wr_tT, notQ_s, wr_tNt, anQ_t, anQ_f, wr_tAn, orQ_t, orQ_f, wr_tOr, eaB_t, eaB_f, eaQ_s, wr_eAn, eoB_t, eoB_f, eoQ_s, wr_eOr, enB_s, enQ_s, wr_eNt, eiQ_t, eiQ_f, wr_eIf, negQ_int, wr_eNeg, wr_aNil, cC2_s, cC1_s, wr_aCons, tupQ_s, lstQ_s, newQ_s, wr_eTup, wr_eLst, wr_eNew, caQ_s, wr_eCa, clQ_s, wr_eCall, nAQ_s, wr_nA, tyQ_s, wr_eIsTy, icQ_s, wr_eIsC, mt2_s, mt1_s, wr_eMt, wr_oNone, oQ_int, wr_oSome, sl3_s, sl2_s, sl1_s, wr_eSl, kk2_s, kk1_s, wr_eCallK, kk0_s, wr_eCallK0, wr_gN, sb3_s, sb2_s, sb1_s, wr_gSb, wr_gsNil, gs1_s, wr_gsCons, wr_gTp, wr_gTp_rD, xe_s, sq_nx, sq_rt, sq_bk, sq_ct, sq_ex, sq_xe, ws_nxt, ws_sNop, ws_sSeq, ws_sBrk, ws_sCnt, dropQ_s, ws_sDrop, ws_sRet, ws_sRetN, ifQ_t, ifQ_f, ws_sIf, asg1_s, ws_sAsg, setQ_s, ws_sSet, parQ_s, ws_sPar, ws_sRaise, fn_nx, fn_rt, fn_ex, fn_xe, su_nx, su_bk, su_ct, su_rt, trQ_t, trQ_f, tr_nx, tr_rt, tr_bk, tr_ct, tr_ex, ws_sTry, forQ_s, ws_sFor, lp_nx, lp_rt, lp_bk, lp_ct, lp_ex, lp_xe, ws_fi_nil, bodyQ_s, mid_nx, mid_rt, mid_bk, mid_ct, mid_ex, mid_xe, lc2_s, lc1_s, wr_eLc, lcn2_s, lcn1_s, wr_eLcN, wipe_nil, wipe_cons, wr_tTrue, wr_lc_nil, tgQ_some, ly_s, lt1_t, lt1_f, lg_s, eqQ_s, exQ_s, seqQ_tup, seqQ_lst, seqQ_scr, seqQ_rD, wr_iSeq, rgQ_int, wr_iRg1, rgQ2_int, wr_iRg2, ch3_t, ch3_f, ch2_s, ch1_s, wr_eChain, flQ_s, wr_eFld, fldD_ins, stQ_s, sf2_s, sf1_s, ws_sFldM, mkQ2_s, mkQ1_s, wr_eMk, wr_eMk0, ap2_s, ap1_s, wr_eApp, zpQ_s, wr_iZip, zipR_tup, zipR_lst, srQ_s, wr_iStrM, strR_s, ioQ_s, wr_eIsO, dAddS_int, wr_gStr_tup, wr_gStr_lst, fTuple_lst, fTuple_tup, List.take_succ_cons, List.take_zero, List.drop_succ_cons, List.drop_zero, List.getElem?_cons_zero, List.getElem?_cons_succ, List.set_cons_zero, List.set_cons_succ, List.map_cons, List.map_nil, List.length_cons, List.length_nil, List.cons_append, List.nil_append, List.replicate_succ, List.replicate_zero, List.append_nil, true_and, and_true, and_self, if_true, ite_true, if_false, ite_false, Bool.false_eq_true, Bool.not_true, Bool.not_false, Bool.not_not, decide_true, decide_false, decide_eq_true_eq, not_false_eq_true, not_true_eq_false, reduceCtorEq, sizeLine_eq, Option.map_some, Option.some.injEq, Nat.reduceSub, Nat.reduceAdd, Nat.reduceLeDiff, Nat.reduceEqDiff, Nat.zero_add, Nat.reduceBEq, List.contains_cons, List.contains_nil, beq_self_eq_true, Bool.true_or, Bool.or_true, Bool.false_or, Bool.or_false, List.lookup_cons, List.lookup_nil, Int.reduceEq, Int.reduceNe, Int.reduceLT, Int.reduceLE, Int.reduceNeg, Int.reduceAdd, Int.reduceSub, Int.cast_ofNat_Int, ne_eq, cmpI_s, dGt, dGe, dLt, dLe, dAdd_int, dSub_int, dEq_int, dNe_int, dEq_bl, dNe_bl, truD_bl, isTy_int, isTy_bl, isTy_tup, fLen_tup, fLen_scr, fLen_lst, fAbs_int, fMax_int, fMin_int, ixD_tup, ixD_lst, ixD_scr, isTy_rD, fLen_rD, ix_rD0, ix_rD1, dEq_rD, dNe_rD, dIs_rD, dIsNot_rD, Tn.is, me3_s, me2_s, me1_s, wr_eMeth, mk2_s, mk1_s, wr_eMethK, m01_s, wr_eMeth0, wr_eNewD, dg3_s, dg2_s, dg1_s, wr_eDGet2, dh2_s, dh1_s, wr_eDGet1, dp3_s, dp2_s, dp1_s, wr_eDPop2, dq2_s, dq1_s, wr_eDPop1, se2_s, se1_s, wr_gSbE, ssQ_s, wr_eSortSet, an2_s, an1_s, wr_eAddN, celQ_tup, celQ_lst, celQ_scr, wr_iCel, forcQ_s, ws_sForC, lcc1_s, wr_eLcC, lcd1_s, wr_eLcCN, keyD_int, keyD_str, Option.isSome_some, fmQ_s, wr_eFmt, jsQ_str, wr_js_nil, wr_js_cons, wr_eJs, s4Q_str, soQ_s, wr_eStrO, dAddE_0, wr_eCallV, chQ_s, wr_eCallH, wr_lamF, oj_s, enuQ_s, wr_iEnum, enR_tup, enR_lst, lrQ_int, wr_eLr, lrnQ_int, wr_eLrN, agQ_s, auP_s, ws_sAug, augR_int, pp2_s, pp1_s, wr_ePop, wr_gSq_tup, wr_gSq_lst, $[$ts:term],*])
theorem ix_rw0 (r : Rw) (S : Store) : ixD S (rwD r) (.int 0) = some (.int r.z) := rfl
theorem ix_rw1 (r : Rw) (S : Store) : ixD S (rwD r) (.int 1) = some (rD r.l) := rfl
theorem ix_rw2 (r : Rw) (S : Store) : ixD S (rwD r) (.int 2) = some (oD r.o) := rfl
theorem ix_rw4 (r : Rw) (S : Store) : ixD S (rwD r) (.int 4) = some (tD r.c r.g r.t) := rfl
theorem fLen_loc {S : Store} {n : Nat} {l : List D} (h : S[n]? = some (.lst l)) : fLen S [.loc n] = some (.int l.length) := by
  unfold fLen lenD; simp only [h]; rfl
theorem rows_ix {S : Store} {n i : Nat} {rows : List Rw} {r : Rw} (hS : S[n]? = some (.lst (rows.map rwD))) (h : rows[i]? = some r) : ixD S (.loc n) (.int (i : Nat)) = some (rwD r) := by
  rw [ixD_loc _ hS]
  exact L2.atI_nat (by rw [List.getElem?_map, h]; rfl)
theorem can_ok {N : Nat} {S : Store} {n : Nat} {rows : List Rw} {now : Rat} (hr : ∀ r, r ∈ rows → RwOk r) (hl : rows.length ≤ 1000) (bn : Bt now 250) (hS : S[n]? = some (.lst (rows.map rwD))) :
    m__law_can N [.loc n, rD now] S = .ok (.lst [.lst (iL (ixs (clk now) rows rows.length)), .lst (iL (ixs (gat now) rows rows.length))]) S := by
  have sz : ∀ (P : Rw → Bool) (i : Nat), i ≤ rows.length → (iL (ixs P rows i)).length < 1001 := fun P i hi => by
    rw [iL_len]
    have := ixs_len P rows i
    omega
  have e0 : dIs .non .non = some (.bl true) := rfl
  have tm : ∀ (i : Nat) (x2 : Option D), Tg.m (.nm 3) (.int (i : Nat)) [some (.loc n), some (rD now), x2, none] = some [some (.loc n), some (rD now), x2, some (.int (i : Nat))] := fun _ _ => rfl
  apply eq_of_w
  rw [m__law_can, wr_fnM, b__law_can]
  wp_walk using fLen_loc hS, List.length_map, Int.toNat_natCast
  refine ⟨by omega, ?_⟩
  refine lc_w (fun i acc S' => S' = S ∧ i ≤ rows.length ∧ acc = iL (ixs (clk now) rows i)) ⟨rfl, Nat.zero_le _, rfl⟩ ?_ ?_
  · rintro i d acc S' hd ⟨rfl, hi, rfl⟩
    obtain ⟨rfl, hlt⟩ := range_get hd
    have hr2 : rows[i]? = some rows[i] := List.getElem?_eq_getElem hlt
    generalize rows[i] = r at hr2
    have ok := hr r (List.mem_of_getElem? hr2)
    have es := ixs_succ (P := clk now) hr2
    have sz' := sz (clk now) i hi
    by_cases c1 : r.l = 0
    · have c : clk now r = false := by unfold clk; simp [c1]
      rw [c, if_neg Bool.false_ne_true, List.append_nil] at es
      wp_walk using tm, rows_ix hS hr2, ix_rw1, z01, c1
      exact ⟨hlt, by rw [es]⟩
    · by_cases c2 : now < r.c
      · have c : clk now r = false := by unfold clk; simp [c2]
        rw [c, if_neg Bool.false_ne_true, List.append_nil] at es
        wp_walk using tm, rows_ix hS hr2, ix_rw1, z01, c1, ix_rw4, ix_tD0, lless_ok (N := N) (S := S') bn ok.bc (by omega), c2
        exact ⟨hlt, by rw [es]⟩
      · have c : clk now r = true := by unfold clk; simp [c1, c2]
        rw [c, if_pos rfl] at es
        wp_walk using tm, rows_ix hS hr2, ix_rw1, z01, c1, ix_rw4, ix_tD0, lless_ok (N := N) (S := S') bn ok.bc (by omega), c2
        exact ⟨by omega, hlt, by rw [es, iL_app]; rfl⟩
  · rintro acc S' ⟨rfl, hi, rfl⟩
    rw [range_len]
    wp_walk using fLen_loc hS, List.length_map, Int.toNat_natCast
    refine ⟨by omega, ?_⟩
    refine lc_w (fun i acc S1 => S1 = S' ∧ i ≤ rows.length ∧ acc = iL (ixs (gat now) rows i)) ⟨rfl, Nat.zero_le _, rfl⟩ ?_ ?_
    · rintro i d acc S1 hd ⟨rfl, hi, rfl⟩
      obtain ⟨rfl, hlt⟩ := range_get hd
      have hr2 : rows[i]? = some rows[i] := List.getElem?_eq_getElem hlt
      generalize rows[i] = r at hr2
      have ok := hr r (List.mem_of_getElem? hr2)
      have es := ixs_succ (P := gat now) hr2
      have sz' := sz (gat now) i hi
      cases ho : r.o with
      | none =>
        have c : gat now r = true := by unfold gat; rw [ho]; rfl
        rw [c, if_pos rfl] at es
        wp_walk using tm, rows_ix hS hr2, ix_rw2, ho, oD_none, e0
        exact ⟨by omega, hlt, by rw [es, iL_app]; rfl⟩
      | some q =>
        by_cases c2 : now < r.g
        · have c : gat now r = false := by unfold gat; rw [ho]; simp [c2]
          rw [c, if_neg Bool.false_ne_true, List.append_nil] at es
          wp_walk using tm, rows_ix hS hr2, ix_rw2, ho, oD_some, ix_rw4, ix_tD1, lless_ok (N := N) (S := S1) bn ok.bg (by omega), c2
          exact ⟨hlt, by rw [es]⟩
        · have c : gat now r = true := by unfold gat; simp [c2]
          rw [c, if_pos rfl] at es
          wp_walk using tm, rows_ix hS hr2, ix_rw2, ho, oD_some, ix_rw4, ix_tD1, lless_ok (N := N) (S := S1) bn ok.bg (by omega), c2
          exact ⟨by omega, hlt, by rw [es, iL_app]; rfl⟩
    · rintro acc S1 ⟨rfl, hi, rfl⟩
      rw [range_len]
      wp_walk using wr_ok
theorem fold_val (key : Nat → Rat) (ps : List Nat) (p : Nat) : key (ps.foldl (stp key) p) = (ps.map key).foldl low (key p) := by
  induction ps generalizing p with
  | nil => rfl
  | cons q ps ih =>
    rw [List.foldl_cons, ih, List.map_cons, List.foldl_cons]
    congr 1
    unfold stp low
    split <;> rfl
def keyS (qs : List Rat) (i : Nat) : Rat := qs.getD i 0
theorem keyS_of {qs : List Rat} {i : Nat} {q : Rat} (h : qs[i]? = some q) : keyS qs i = q := by
  unfold keyS; rw [List.getD_eq_getElem?_getD, h]; rfl
theorem next_ix (q : Rat) (qs : List Rat) : (q :: qs)[fstI (keyS (q :: qs)) (List.range (q :: qs).length)]? = some (qs.foldl low q) := by
  have hm := fstI_mem (keyS (q :: qs)) (ps := List.range (q :: qs).length) (by simp)
  have hv : keyS (q :: qs) (fstI (keyS (q :: qs)) (List.range (q :: qs).length)) = qs.foldl low q := by
    rw [List.length_cons, List.range_succ_eq_map]
    show keyS (q :: qs) (((List.range qs.length).map Nat.succ).foldl (stp (keyS (q :: qs))) 0) = _
    rw [fold_val (keyS (q :: qs))]
    have e0 : keyS (q :: qs) 0 = q := rfl
    rw [e0]
    congr 1
    rw [List.map_map]
    apply List.ext_getElem?
    intro i
    rw [List.getElem?_map]
    by_cases h : i < qs.length
    · rw [List.getElem?_range h, List.getElem?_eq_getElem h]
      show some (keyS (q :: qs) (i + 1)) = _
      rw [keyS_of (q := qs[i]) (by rw [List.getElem?_cons_succ, List.getElem?_eq_getElem h])]
    · rw [List.getElem?_eq_none (by simpa using h), List.getElem?_eq_none (by simpa using h)]; rfl
  generalize fstI (keyS (q :: qs)) (List.range (q :: qs).length) = j at hm hv
  have hj : j < (q :: qs).length := List.mem_range.mp hm
  rw [← hv, keyS_of (List.getElem?_eq_getElem hj)]
  exact List.getElem?_eq_getElem hj
theorem dAddS_lst {S : Store} {l m : List D} (h : l.length + m.length ≤ sizeLine) : dAddS S (.lst l) (.lst m) = some (.lst (l ++ m)) := by
  unfold dAddS rsv; simp only [h, if_true]
theorem choice_ok {N : Nat} (hN : big N) {S : Store} {n : Nat} {rows : List Rw} {now pace : Rat} (hr : ∀ r, r ∈ rows → RwOk r) (hl : rows.length ≤ 1000) (bn : Bt now 250) (bp : Bt pace 250) (hS : S[n]? = some (.lst (rows.map rwD))) (tb : tbS 0 mk__law_choice_of.1 mk__law_choice_of.2 S = true) :
    m__law_choice_of N [.loc n, rD now, rD pace] S = .ok (pickK rows now pace).d S := by
  apply eq_of_w
  rw [m__law_choice_of, wr_fnM, b__law_choice_of]
  wp_walk using can_ok (N := N) hr hl bn hS
  unfold pickK
  by_cases ca : ixs (clk now) rows rows.length = []
  · rw [if_neg (not_not_intro ca)]
    by_cases cb : ixs (gat now) rows rows.length = []
    · rw [if_neg (not_not_intro cb)]
      wp_walk using dNe_nil (cmp_iL _), iL_nil, ca, cb, celQ_loc hS
      have tm : ∀ (r : Rw) (x3 x4 : Option D), Tg.m (.nm 6) (rwD r) [some (.loc n), some (rD now), some (rD pace), x3, x4, none, none] = some [some (.loc n), some (rD now), some (rD pace), x3, x4, none, some (rwD r)] := fun _ _ _ => rfl
      refine lcC_w (fun i acc S' => S' = S ∧ i ≤ rows.length ∧ acc = ((rows.take i).map fun p => p.g).map rD) ⟨rfl, Nat.zero_le _, rfl⟩ (fun _ _ _ z => by rw [z.1]; exact hS) ?_ ?_
      · rintro i d acc S' hd ⟨rfl, hi, rfl⟩
        rw [List.getElem?_map] at hd
        obtain ⟨p, hp, rfl⟩ := Option.map_eq_some_iff.mp hd
        have hlt : i < rows.length := (List.getElem?_eq_some_iff.mp hp).1
        wp_walk using tm, ix_rw4, ix_tD1, List.length_map, List.length_take
        refine ⟨by omega, hlt, ?_⟩
        rw [List.take_add_one, hp]; simp
      · rintro acc S' ⟨rfl, hi, rfl⟩
        rw [List.length_map, List.take_length]
        wp_walk using celQ_loc hS
        refine lcC_w (fun i acc S1 => S1 = S' ∧ i ≤ rows.length ∧ acc = (((rows.take i).filter fun p => !decide (p.l = 0)).map fun p => p.c).map rD) ⟨rfl, Nat.zero_le _, rfl⟩ (fun _ _ _ z => by rw [z.1]; exact hS) ?_ ?_
        · rintro i d acc S1 hd ⟨rfl, hi, rfl⟩
          rw [List.getElem?_map] at hd
          obtain ⟨p, hp, rfl⟩ := Option.map_eq_some_iff.mp hd
          have hlt : i < rows.length := (List.getElem?_eq_some_iff.mp hp).1
          have hz : ((((rows.take i).filter fun p => !decide (p.l = 0)).map fun p => p.c).map rD).length < 1000 := by
            rw [List.length_map, List.length_map]
            have := List.length_filter_le (fun p : Rw => !decide (p.l = 0)) (rows.take i)
            rw [List.length_take] at this
            omega
          have et : (rows.take (i + 1)).filter (fun p => !decide (p.l = 0)) = (rows.take i).filter (fun p => !decide (p.l = 0)) ++ if p.l = 0 then [] else [p] := by
            rw [List.take_add_one, hp, List.filter_append]
            congr 1
            by_cases c : p.l = 0 <;> simp [c]
          rw [et]
          generalize (rows.take i).filter (fun p => !decide (p.l = 0)) = fs at hz ⊢
          by_cases c : p.l = 0
          · wp_walk using tm, ix_rw1, z01, c
            exact hlt
          · wp_walk using tm, ix_rw1, z01, c, ix_rw4, ix_tD0
            exact ⟨by have := hz; omega, hlt, by simp⟩
        · rintro acc S1 ⟨rfl, hi, rfl⟩
          rw [List.length_map, List.take_length]
          have hlf := List.length_filter_le (fun p : Rw => !decide (p.l = 0)) rows
          have hsz : ((rows.map fun p => p.g).map rD).length + (((rows.filter fun p => !decide (p.l = 0)).map fun p => p.c).map rD).length ≤ sizeLine := by
            simp only [List.length_map]
            rw [sizeLine_eq]; omega
          have hsp : (rows.map fun p => p.g).map rD ++ ((rows.filter fun p => !decide (p.l = 0)).map fun p => p.c).map rD = (spots rows).map rD := by
            unfold spots
            rw [List.map_append]
          have hspl : (spots rows).length ≤ 2000 := by
            unfold spots
            simp only [List.length_append, List.length_map]; omega
          have hbt := spots_bt hr
          wp_walk using dAddS_lst hsz, hsp
          generalize spots rows = qs at hbt hspl
          cases qs with
          | nil =>
            have n0 : dNe (.lst []) (.lst []) = some (.bl false) := rfl
            wp_walk using n0, Pk.d, nextD
          | cons q qs =>
            have ne : ¬ (rD q :: qs.map rD = []) := by simp
            have nn : dNe (.lst (rD q :: qs.map rD)) (.lst []) = some (.bl true) := by
              have := dNe_nil (cmp_rL (q :: qs))
              rw [List.map_cons, decide_eq_false ne] at this
              exact this
            wp_walk using nn, tb, List.length_map, Int.toNat_natCast
            refine ⟨lrOk_of (by omega) (by simp only [List.length_cons] at hspl; omega), ?_⟩
            have er : (((qs.length : Nat) : Int) + 1).toNat = (q :: qs).length := by simp
            first
            | rw [er]
            | skip
            rw [range_iL]
            refine uni_w _ (fun q0 => law_first_ok (key := keyS (q :: qs)) (by simp) ?_) ?_
            · intro i hi
              have hi2 : i < (q :: qs).length := List.mem_range.mp hi
              have hg := List.getElem?_eq_getElem hi2
              refine ⟨by rw [keyS_of hg]; exact (hbt _ (List.getElem_mem hi2)).mono (by omega), rD (q :: qs)[i], ?_, ?_⟩
              · rw [ixD_lst, ← List.map_cons]
                exact L2.atI_nat (by rw [List.getElem?_map, hg]; rfl)
              · rw [keyS_of hg]
                apply eq_of_w
                rw [wr_lamF]
                wp_walk using wr_ok
            · have hx : L2.atI (rD q :: qs.map rD) ((fstI (keyS (q :: qs)) (List.range (q :: qs).length) : Nat) : Int) = some (rD (qs.foldl low q)) := by
                rw [← List.map_cons]
                exact L2.atI_nat (by rw [List.getElem?_map, next_ix]; rfl)
              simp only [List.length_cons] at hx
              wp_walk using hx, Pk.d, nextD
    · rw [if_pos cb]
      wp_walk using dNe_nil (cmp_iL _), iL_nil, ca, cb, tb
      refine uni_w _ (fun q => law_first_ok (key := keyT pace rows) cb ?_) ?_
      · intro i hi
        obtain ⟨hlt, r, hr2, hP⟩ := ixs_mem hi
        have ok := hr r (List.mem_of_getElem? hr2)
        refine ⟨by rw [keyT_of hr2]; exact (bt_max ok.bt bp).mono (by omega), rwD r, rows_ix hS hr2, ?_⟩
        rw [keyT_of hr2]
        apply eq_of_w
        rw [wr_lamF]
        wp_walk using ix_rw4, ix_tD2, ltop_ok (N := N) (S := S) ok.bt bp (by omega)
      · wp_walk using Pk.d
  · rw [if_pos ca]
    wp_walk using dNe_nil (cmp_iL _), iL_nil, ca, tb
    refine uni_w _ (fun q => law_first_ok (key := keyL rows) ca ?_) ?_
    · intro i hi
      obtain ⟨hlt, r, hr2, hP⟩ := ixs_mem hi
      have ok := hr r (List.mem_of_getElem? hr2)
      refine ⟨by rw [keyL_of hr2]; exact (bt_due ok).mono (by omega), rwD r, rows_ix hS hr2, ?_⟩
      rw [keyL_of hr2]
      apply eq_of_w
      rw [wr_lamF]
      have ez : D.tup [.int r.z, .int 1] = rD (r.z : Rat) := rfl
      wp_walk using ix_rw4, ix_tD0, ix_rw0, ix_rw1, ez, lby_ok (S := S) hN (bt_size ok.z1 ok.z9) ok.bl (clk_l hP) (by omega), ladd_ok (S := S) hN ok.bc ((bt_size ok.z1 ok.z9).div ok.bl) (by omega), dueR, dueB
    · wp_walk using Pk.d
end Wk14
namespace Wk14
open PySem G C
local macro_rules | `(tactic| wp_walk using $ts,*) => `(tactic| try simp only [wr_ok, wr_exc, wr_lf, wr_eC, evQ_some, wr_eVar, cB2_s, cB1_s, wr_eBin, cS2_s, cS1_s, wr_eBinS, asQ_bl, wr_tB, truQ_s, wr_tT, notQ_s, wr_tNt, anQ_t, anQ_f, wr_tAn, orQ_t, orQ_f, wr_tOr, eaB_t, eaB_f, eaQ_s, wr_eAn, eoB_t, eoB_f, eoQ_s, wr_eOr, enB_s, enQ_s, wr_eNt, eiQ_t, eiQ_f, wr_eIf, negQ_int, wr_eNeg, wr_aNil, cC2_s, cC1_s, wr_aCons, tupQ_s, lstQ_s, newQ_s, wr_eTup, wr_eLst, wr_eNew, caQ_s, wr_eCa, clQ_s, wr_eCall, nAQ_s, wr_nA, tyQ_s, wr_eIsTy, icQ_s, wr_eIsC, mt2_s, mt1_s, wr_eMt, wr_oNone, oQ_int, wr_oSome, sl3_s, sl2_s, sl1_s, wr_eSl, kk2_s, kk1_s, wr_eCallK, kk0_s, wr_eCallK0, wr_gN, sb3_s, sb2_s, sb1_s, wr_gSb, wr_gsNil, gs1_s, wr_gsCons, wr_gTp, wr_gTp_rD, xe_s, sq_nx, sq_rt, sq_bk, sq_ct, sq_ex, sq_xe, ws_nxt, ws_sNop, ws_sSeq, ws_sBrk, ws_sCnt, dropQ_s, ws_sDrop, ws_sRet, ws_sRetN, ifQ_t, ifQ_f, ws_sIf, asg1_s, ws_sAsg, setQ_s, ws_sSet, parQ_s, ws_sPar, ws_sRaise, fn_nx, fn_rt, fn_ex, fn_xe, su_nx, su_bk, su_ct, su_rt, trQ_t, trQ_f, tr_nx, tr_rt, tr_bk, tr_ct, tr_ex, ws_sTry, forQ_s, ws_sFor, lp_nx, lp_rt, lp_bk, lp_ct, lp_ex, lp_xe, ws_fi_nil, bodyQ_s, mid_nx, mid_rt, mid_bk, mid_ct, mid_ex, mid_xe, lc2_s, lc1_s, wr_eLc, lcn2_s, lcn1_s, wr_eLcN, wipe_nil, wipe_cons, wr_tTrue, wr_lc_nil, tgQ_some, ly_s, lt1_t, lt1_f, lg_s, eqQ_s, exQ_s, seqQ_tup, seqQ_lst, seqQ_scr, seqQ_rD, wr_iSeq, rgQ_int, wr_iRg1, rgQ2_int, wr_iRg2, ch3_t, ch3_f, ch2_s, ch1_s, wr_eChain, flQ_s, wr_eFld, fldD_ins, stQ_s, sf2_s, sf1_s, ws_sFldM, mkQ2_s, mkQ1_s, wr_eMk, wr_eMk0, ap2_s, ap1_s, wr_eApp, zpQ_s, wr_iZip, zipR_tup, zipR_lst, srQ_s, wr_iStrM, strR_s, ioQ_s, wr_eIsO, dAddS_int, wr_gStr_tup, wr_gStr_lst, fTuple_lst, fTuple_tup, List.take_succ_cons, List.take_zero, List.drop_succ_cons, List.drop_zero, List.getElem?_cons_zero, List.getElem?_cons_succ, List.set_cons_zero, List.set_cons_succ, List.map_cons, List.map_nil, List.length_cons, List.length_nil, List.cons_append, List.nil_append, List.replicate_succ, List.replicate_zero, List.append_nil, true_and, and_true, and_self, if_true, ite_true, if_false, ite_false, Bool.false_eq_true, Bool.not_true, Bool.not_false, Bool.not_not, decide_true, decide_false, decide_eq_true_eq, not_false_eq_true, not_true_eq_false, reduceCtorEq, sizeLine_eq, Option.map_some, Option.some.injEq, Nat.reduceSub, Nat.reduceAdd, Nat.reduceLeDiff, Nat.reduceEqDiff, Nat.zero_add, Nat.reduceBEq, List.contains_cons, List.contains_nil, beq_self_eq_true, Bool.true_or, Bool.or_true, Bool.false_or, Bool.or_false, List.lookup_cons, List.lookup_nil, Int.reduceEq, Int.reduceNe, Int.reduceLT, Int.reduceLE, Int.reduceNeg, Int.reduceAdd, Int.reduceSub, Int.cast_ofNat_Int, ne_eq, cmpI_s, dGt, dGe, dLt, dLe, dAdd_int, dSub_int, dEq_int, dNe_int, dEq_bl, dNe_bl, truD_bl, isTy_int, isTy_bl, isTy_tup, fLen_tup, fLen_scr, fLen_lst, fAbs_int, fMax_int, fMin_int, ixD_tup, ixD_lst, ixD_scr, isTy_rD, fLen_rD, ix_rD0, ix_rD1, dEq_rD, dNe_rD, dIs_rD, dIsNot_rD, Tn.is, me3_s, me2_s, me1_s, wr_eMeth, mk2_s, mk1_s, wr_eMethK, m01_s, wr_eMeth0, wr_eNewD, dg3_s, dg2_s, dg1_s, wr_eDGet2, dh2_s, dh1_s, wr_eDGet1, dp3_s, dp2_s, dp1_s, wr_eDPop2, dq2_s, dq1_s, wr_eDPop1, se2_s, se1_s, wr_gSbE, ssQ_s, wr_eSortSet, an2_s, an1_s, wr_eAddN, celQ_tup, celQ_lst, celQ_scr, wr_iCel, forcQ_s, ws_sForC, lcc1_s, wr_eLcC, lcd1_s, wr_eLcCN, keyD_int, keyD_str, Option.isSome_some, fmQ_s, wr_eFmt, jsQ_str, wr_js_nil, wr_js_cons, wr_eJs, s4Q_str, soQ_s, wr_eStrO, dAddE_0, wr_eCallV, chQ_s, wr_eCallH, wr_lamF, oj_s, enuQ_s, wr_iEnum, enR_tup, enR_lst, lrQ_int, wr_eLr, lrnQ_int, wr_eLrN, agQ_s, auP_s, ws_sAug, augR_int, pp2_s, pp1_s, wr_ePop, wr_gSq_tup, wr_gSq_lst, $[$ts:term],*])
theorem tags_are {N : Nat} {c g t : Rat} {S : Store} {n : Nat} (hN : big N) (bc : Bt c n) (bg : Bt g n) (bt : Bt t n) (h9 : n ≤ 9000) (c0 : 0 ≤ c) (g0 : 0 ≤ g) (t0 : 0 ≤ t) : C.m_are_tags N [tD c g t] S = .ok (.bl true) S := by
  have k : ∀ {q : Rat} (S : Store), Bt q n → 0 ≤ q → m_is_time N [rD q] S = .ok (.bl true) S := fun S h h0 => by rw [time_ok hN h h9, decide_eq_true (Rat.num_nonneg.mpr h0)]
  have fa : ∀ S, fAll S [.lst [.bl true, .bl true, .bl true]] = some (.bl true) := fun _ => rfl
  have gm : ∀ (d : D) (e : En), Tg.m (.nm 1) d e = some (e.set 1 (some d)) := fun _ _ => rfl
  unfold tD
  apply eq_of_w
  rw [m_are_tags, wr_fnM, b_are_tags]
  wp_walk using wr_lc_cons, lcI_s, gm, k _ bc c0, k _ bg g0, k _ bt t0, fa, Nat.reduceLT, Nat.lt_add_one, Nat.zero_lt_succ
theorem whole_ok {N : Nat} {i lo hi : Int} {S : Store} (h1 : lo ≤ i) (h2 : i ≤ hi) : m_is_whole_picks N [.int i, .int lo, .int hi] S = .ok (.bl true) S := by
  apply eq_of_w
  rw [m_is_whole_picks, wr_fnM, b_is_whole_picks]
  wp_walk using h1, h2
theorem rival_ok {N : Nat} (hN : big N) {p : Str × Rw} {S : Store} (h : RwOk p.2) : m_is_rival N [rvD p] S = .ok (.bl true) S := by
  unfold rvD
  apply eq_of_w
  rw [m_is_rival, wr_fnM, b_is_rival]
  wp_walk using whole_ok h.z1 h.z9, isO_c, tags_are hN h.bc h.bg h.bt (by omega) h.c0 h.g0 h.t0
theorem rivals_ok {N : Nat} (hN : big N) {rs : List (Str × Rw)} {S : Store} (h : ∀ p, p ∈ rs → RwOk p.2) : m_check_rivals N [.tup (rs.map rvD)] S = .ok .non S := by
  apply eq_of_w
  rw [m_check_rivals, wr_fnM, b_check_rivals]
  wp_walk using wr_ok
  refine for_i (fun e S' => S' = S ∧ ∃ x1 x2, e = [some (.tup (rs.map rvD)), x1, x2]) ⟨rfl, _, _, rfl⟩ ?_ ?_
  · rintro d e S' hd ⟨rfl, x1, x2, rfl⟩
    obtain ⟨i, hi⟩ := List.getElem?_of_mem hd
    obtain ⟨x, hx, rfl⟩ := enum_at hi
    rw [List.getElem?_map] at hx
    obtain ⟨p, hp, rfl⟩ := Option.map_eq_some_iff.mp hx
    wp_walk using rival_ok (S := S') hN (h p (List.mem_of_getElem? hp))
    exact ⟨_, _, rfl⟩
  · rintro e S' ⟨rfl, x1, x2, rfl⟩
    wp_walk using wr_ok
theorem pick_ok {N : Nat} (hN : big N) {rs : List (Str × Rw)} {S : Store} {now pace : Rat} (h : ∀ p, p ∈ rs → RwOk p.2) (bn : Bt now 250) (bp : Bt pace 250) (n0 : 0 ≤ now) (p0 : 0 ≤ pace) : m_check_pick N [.tup (rs.map rvD), rD now, rD pace] S = .ok .non S := by
  apply eq_of_w
  rw [m_check_pick, wr_fnM, b_check_pick]
  wp_walk using rivals_ok hN h, ctime_ok hN bn (by omega) n0, ctime_ok hN bp (by omega) p0
theorem picked_w {N : Nat} (hN : big N) {S : Store} {rs : List (Str × Rw)} {now pace : Rat} {Q X : QP D} (hr : ∀ p, p ∈ rs → RwOk p.2) (hl : rs.length ≤ 1000) (bn : Bt now 250) (bp : Bt pace 250) (n0 : 0 ≤ now) (p0 : 0 ≤ pace) (tb : tbS 1 mk_picked_of.1 mk_picked_of.2 S = true)
    (h : ∀ c, Q (pickK (rs.map (·.2)) now pace).d (S ++ c)) : Wr (m_picked N [.tup (rs.map rvD), rD now, rD pace] S) Q X := by
  rw [m_picked, wr_fnM, b_picked]
  wp_walk using pick_ok hN hr bn bp n0 p0
  exact picked_of_w hN hr hl bn bp tb h
end Wk14
namespace Wk14
open PySem G C
local macro_rules | `(tactic| wp_walk using $ts,*) => `(tactic| try simp only [wr_ok, wr_exc, wr_lf, wr_eC, evQ_some, wr_eVar, cB2_s, cB1_s, wr_eBin, cS2_s, cS1_s, wr_eBinS, asQ_bl, wr_tB, truQ_s, wr_tT, notQ_s, wr_tNt, anQ_t, anQ_f, wr_tAn, orQ_t, orQ_f, wr_tOr, eaB_t, eaB_f, eaQ_s, wr_eAn, eoB_t, eoB_f, eoQ_s, wr_eOr, enB_s, enQ_s, wr_eNt, eiQ_t, eiQ_f, wr_eIf, negQ_int, wr_eNeg, wr_aNil, cC2_s, cC1_s, wr_aCons, tupQ_s, lstQ_s, newQ_s, wr_eTup, wr_eLst, wr_eNew, caQ_s, wr_eCa, clQ_s, wr_eCall, nAQ_s, wr_nA, tyQ_s, wr_eIsTy, icQ_s, wr_eIsC, mt2_s, mt1_s, wr_eMt, wr_oNone, oQ_int, wr_oSome, sl3_s, sl2_s, sl1_s, wr_eSl, kk2_s, kk1_s, wr_eCallK, kk0_s, wr_eCallK0, wr_gN, sb3_s, sb2_s, sb1_s, wr_gSb, wr_gsNil, gs1_s, wr_gsCons, wr_gTp, wr_gTp_rD, xe_s, sq_nx, sq_rt, sq_bk, sq_ct, sq_ex, sq_xe, ws_nxt, ws_sNop, ws_sSeq, ws_sBrk, ws_sCnt, dropQ_s, ws_sDrop, ws_sRet, ws_sRetN, ifQ_t, ifQ_f, ws_sIf, asg1_s, ws_sAsg, setQ_s, ws_sSet, parQ_s, ws_sPar, ws_sRaise, fn_nx, fn_rt, fn_ex, fn_xe, su_nx, su_bk, su_ct, su_rt, trQ_t, trQ_f, tr_nx, tr_rt, tr_bk, tr_ct, tr_ex, ws_sTry, forQ_s, ws_sFor, lp_nx, lp_rt, lp_bk, lp_ct, lp_ex, lp_xe, ws_fi_nil, bodyQ_s, mid_nx, mid_rt, mid_bk, mid_ct, mid_ex, mid_xe, lc2_s, lc1_s, wr_eLc, lcn2_s, lcn1_s, wr_eLcN, wipe_nil, wipe_cons, wr_tTrue, wr_lc_nil, tgQ_some, ly_s, lt1_t, lt1_f, lg_s, eqQ_s, exQ_s, seqQ_tup, seqQ_lst, seqQ_scr, seqQ_rD, wr_iSeq, rgQ_int, wr_iRg1, rgQ2_int, wr_iRg2, ch3_t, ch3_f, ch2_s, ch1_s, wr_eChain, flQ_s, wr_eFld, fldD_ins, stQ_s, sf2_s, sf1_s, ws_sFldM, mkQ2_s, mkQ1_s, wr_eMk, wr_eMk0, ap2_s, ap1_s, wr_eApp, zpQ_s, wr_iZip, zipR_tup, zipR_lst, srQ_s, wr_iStrM, strR_s, ioQ_s, wr_eIsO, dAddS_int, wr_gStr_tup, wr_gStr_lst, fTuple_lst, fTuple_tup, List.take_succ_cons, List.take_zero, List.drop_succ_cons, List.drop_zero, List.getElem?_cons_zero, List.getElem?_cons_succ, List.set_cons_zero, List.set_cons_succ, List.map_cons, List.map_nil, List.length_cons, List.length_nil, List.cons_append, List.nil_append, List.replicate_succ, List.replicate_zero, List.append_nil, true_and, and_true, and_self, if_true, ite_true, if_false, ite_false, Bool.false_eq_true, Bool.not_true, Bool.not_false, Bool.not_not, decide_true, decide_false, decide_eq_true_eq, not_false_eq_true, not_true_eq_false, reduceCtorEq, sizeLine_eq, Option.map_some, Option.some.injEq, Nat.reduceSub, Nat.reduceAdd, Nat.reduceLeDiff, Nat.reduceEqDiff, Nat.zero_add, Nat.reduceBEq, List.contains_cons, List.contains_nil, beq_self_eq_true, Bool.true_or, Bool.or_true, Bool.false_or, Bool.or_false, List.lookup_cons, List.lookup_nil, Int.reduceEq, Int.reduceNe, Int.reduceLT, Int.reduceLE, Int.reduceNeg, Int.reduceAdd, Int.reduceSub, Int.cast_ofNat_Int, ne_eq, cmpI_s, dGt, dGe, dLt, dLe, dAdd_int, dSub_int, dEq_int, dNe_int, dEq_bl, dNe_bl, truD_bl, isTy_int, isTy_bl, isTy_tup, fLen_tup, fLen_scr, fLen_lst, fAbs_int, fMax_int, fMin_int, ixD_tup, ixD_lst, ixD_scr, isTy_rD, fLen_rD, ix_rD0, ix_rD1, dEq_rD, dNe_rD, dIs_rD, dIsNot_rD, Tn.is, me3_s, me2_s, me1_s, wr_eMeth, mk2_s, mk1_s, wr_eMethK, m01_s, wr_eMeth0, wr_eNewD, dg3_s, dg2_s, dg1_s, wr_eDGet2, dh2_s, dh1_s, wr_eDGet1, dp3_s, dp2_s, dp1_s, wr_eDPop2, dq2_s, dq1_s, wr_eDPop1, se2_s, se1_s, wr_gSbE, ssQ_s, wr_eSortSet, an2_s, an1_s, wr_eAddN, celQ_tup, celQ_lst, celQ_scr, wr_iCel, forcQ_s, ws_sForC, lcc1_s, wr_eLcC, lcd1_s, wr_eLcCN, keyD_int, keyD_str, Option.isSome_some, fmQ_s, wr_eFmt, jsQ_str, wr_js_nil, wr_js_cons, wr_eJs, s4Q_str, soQ_s, wr_eStrO, dAddE_0, wr_eCallV, chQ_s, wr_eCallH, wr_lamF, oj_s, enuQ_s, wr_iEnum, enR_tup, enR_lst, lrQ_int, wr_eLr, lrnQ_int, wr_eLrN, agQ_s, auP_s, ws_sAug, augR_int, pp2_s, pp1_s, wr_ePop, wr_gSq_tup, wr_gSq_lst, $[$ts:term],*])
theorem initK_ok {N : Nat} {nm : Str} {l : Rat} {o : Option Rat} {h : Int} {S : Store} {n : Nat} (hN : big N) (hn : ∀ S, m_is_name N [.str nm] S = .ok (.bl true) S) (bl : Bt l n) (bo : ∀ q, o = some q → Bt q n) (h9 : n ≤ 4000) (k : CliOk l o h) :
    m_Client___init__ N [.loc S.length, .str nm, rD l, oD o, .int h] (S ++ [.obj 33 []]) = .ok .non (S ++ [.obj 33 [(0, .str nm), (1, rD l), (2, oD o), (3, .int h)]]) := by
  have hl : ∀ S, m_is_least N [rD l] S = .ok (.bl true) S := fun S => least_ok hN bl (by omega) k.l0 k.l1
  have hw : ∀ S, m_is_weight N [.int h] S = .ok (.bl true) S := fun S => weight_ok k.h1 k.h9
  have c33 : ∀ l : List Nat, List.contains (33 :: l) 33 = true := fun l => by simp
  have sf : ∀ (cs : List Nat) (f : Nat) (fs : List (Nat × D)) (y : D), fs.length < 1000 → stF (33 :: cs) f (S ++ [.obj 33 fs]) (.loc S.length) y = some (S ++ [.obj 33 (putD f y fs)]) := fun cs f fs y hl => stF_last (c33 cs) hl
  apply eq_of_w
  rw [m_Client___init__, wr_fnM, b_Client___init__]
  cases o with
  | none =>
    have e : dIsNot .non .non = some (.bl false) := rfl
    wp_walk using hn, hl, hw, oD, e, sf, putD, Nat.reduceLT, Nat.lt_add_one
  | some q =>
    obtain ⟨q0, q1, q2⟩ := k.o1 q rfl
    have hb := bo q rfl
    have e1 : ∀ S, m_is_rate N [rD q] S = .ok (.bl true) S := fun S => by rw [rate_ok hN hb (by omega), decide_eq_true ⟨q0, q1⟩]
    have e2 : ∀ S, m_is_before N [rD q, rD l] S = .ok (.bl false) S := fun S => by rw [before_ok hN hb bl (by omega), decide_eq_false (Rat.not_lt.mpr q2)]
    wp_walk using hn, hl, hw, oD, e1, e2, sf, putD, Nat.reduceLT, Nat.lt_add_one
theorem clientK_ok {N : Nat} {nm : Str} {l : Rat} {o : Option Rat} {h : Int} {S : Store} {n : Nat} (hN : big N) (hn : ∀ S, m_is_name N [.str nm] S = .ok (.bl true) S) (bl : Bt l n) (bo : ∀ q, o = some q → Bt q n) (h9 : n ≤ 4000) (k : CliOk l o h) :
    mkI 33 (m_Client___init__ N) g_Client___init___2_least_most_weight [.str nm] [rD l, oD o, .int h] S = .ok (cD nm l o h) S := by
  refine mkI_ok (fs := [(0, .str nm), (1, rD l), (2, oD o), (3, .int h)]) (initK_ok hN hn bl bo h9 k) ?_
  simp only [loF, D.lo, lo_rD, lo_oD, Bool.and_self]
theorem nm_ok : ∀ k : Nat, k < 13 → ∃ nm : Str, (∀ S, ixD S (.str "abcdefghijklm") (.int (k : Nat)) = some (.str nm)) ∧ (∀ N S, C.m_is_name N [.str nm] S = .ok (.bl true) S) ∧ ∃ cs : List Nat, nm = SX.S cs ∧ cs.length ≤ 8
  | 0, _ => ⟨"a", fun _ => rfl, fun _ _ => rfl, [97], by decide +kernel, by decide⟩
  | 1, _ => ⟨"b", fun _ => rfl, fun _ _ => rfl, [98], by decide +kernel, by decide⟩
  | 2, _ => ⟨"c", fun _ => rfl, fun _ _ => rfl, [99], by decide +kernel, by decide⟩
  | 3, _ => ⟨"d", fun _ => rfl, fun _ _ => rfl, [100], by decide +kernel, by decide⟩
  | 4, _ => ⟨"e", fun _ => rfl, fun _ _ => rfl, [101], by decide +kernel, by decide⟩
  | 5, _ => ⟨"f", fun _ => rfl, fun _ _ => rfl, [102], by decide +kernel, by decide⟩
  | 6, _ => ⟨"g", fun _ => rfl, fun _ _ => rfl, [103], by decide +kernel, by decide⟩
  | 7, _ => ⟨"h", fun _ => rfl, fun _ _ => rfl, [104], by decide +kernel, by decide⟩
  | 8, _ => ⟨"i", fun _ => rfl, fun _ _ => rfl, [105], by decide +kernel, by decide⟩
  | 9, _ => ⟨"j", fun _ => rfl, fun _ _ => rfl, [106], by decide +kernel, by decide⟩
  | 10, _ => ⟨"k", fun _ => rfl, fun _ _ => rfl, [107], by decide +kernel, by decide⟩
  | 11, _ => ⟨"l", fun _ => rfl, fun _ _ => rfl, [108], by decide +kernel, by decide⟩
  | 12, _ => ⟨"m", fun _ => rfl, fun _ _ => rfl, [109], by decide +kernel, by decide⟩
  | _ + 13, h => absurd h (by omega)
theorem wr_gSq_rw {QE : QP En} {X : QP D} {e : En} {S : Store} (g : GMs) (r : Rw) : Wr (gSq 5 g (rwD r) e S) QE X = Wr (g [.int r.z, rD r.l, oD r.o, .int r.h, tD r.c r.g r.t] e S) QE X := by
  unfold rwD; rw [wr_gSq_lst]; simp
theorem fTuple_loc {S : Store} {n : Nat} {l : List D} (h : S[n]? = some (.lst l)) : fTuple S [.loc n] = some (.tup l) := by
  have e : seqD S (.loc n) = some l := by unfold seqD; simp only [h]
  show (seqD S (.loc n)).map D.tup = _
  rw [e]; rfl
structure NmOk (p : Str × Rw) : Prop where
  ex : ∃ cs : List Nat, p.1 = SX.S cs ∧ cs.length ≤ 8
theorem told_w {N : Nat} (hN : big N) {S : Store} {n : Nat} {rows : List Rw} {Q X : QP D} (hr : ∀ r, r ∈ rows → RwOk r) (hl : rows.length ≤ 13) (hS : S[n]? = some (.lst (rows.map rwD))) (h : ∀ (rs : List (Str × Rw)) (c : Store), rs.map (·.2) = rows → (∀ p, p ∈ rs → NmOk p) → Q (.tup (rs.map rvD)) (S ++ c)) : Wr (m__law_told_rivals N [.loc n] S) Q X := by
  have hn : n < S.length := (List.getElem?_eq_some_iff.mp hS).1
  have hS' : ∀ c, (S ++ c)[n]? = some (.lst (rows.map rwD)) := fun c => by rw [List.getElem?_append_left hn]; exact hS
  rw [m__law_told_rivals, wr_fnM, b__law_told_rivals]
  wp_walk using fLen_loc (hS' _), List.length_map, Int.toNat_natCast, Nat.zero_le
  refine ⟨by omega, ?_⟩
  refine for_w (fun j e S' => ∃ rs : List (Str × Rw), rs.map (·.2) = rows.take j ∧ (∀ p, p ∈ rs → NmOk p) ∧ j ≤ rows.length ∧ S' = S ++ [.lst (rs.map rvD)] ∧ ∃ x2 x3 x4 x5 x6 x7, e = [some (.loc n), some (.loc S.length), x2, x3, x4, x5, x6, x7]) ⟨[], rfl, (fun _ h => by simp at h), Nat.zero_le _, rfl, _, _, _, _, _, _, rfl⟩ ?_ ?_
  · rintro j d e S' hd ⟨rs, hrs, hnm, hj, rfl, x2, x3, x4, x5, x6, x7, rfl⟩
    obtain ⟨rfl, hlt⟩ := range_get hd
    have hr2 : rows[j]? = some rows[j] := List.getElem?_eq_getElem hlt
    generalize rows[j] = r at hr2
    have ok := hr r (List.mem_of_getElem? hr2)
    obtain ⟨nm, i1, i2, i3⟩ := nm_ok j (by omega)
    have hcl := clientK_ok (N := N) (S := S ++ [.lst (rs.map rvD)]) (nm := nm) hN (i2 N) ok.bl ok.bo (by omega) ok.k
    have hlst : (S ++ [Cell.lst (rs.map rvD)])[S.length]? = some (.lst (rs.map rvD)) := by simp
    have hrl : rs.length ≤ 13 := by
      have := congrArg List.length hrs
      rw [List.length_map, List.length_take] at this
      omega
    have hz : (rs.map rvD).length < sizeLine := by rw [sizeLine_eq, List.length_map]; omega
    wp_walk using rows_ix (hS' _) hr2, wr_gSq_rw, i1, hcl, isLst_loc hlst, appR_loc hlst hz, List.set_append_right, Nat.le_refl, Nat.sub_self
    refine ⟨rs ++ [(nm, r)], ?_, ?_, hlt, ?_, _, _, _, _, _, _, rfl⟩
    rotate_left
    · intro p hp
      rcases List.mem_append.mp hp with hp | hp
      · exact hnm p hp
      · simp only [List.mem_cons, List.not_mem_nil, or_false] at hp
        subst hp; exact ⟨i3⟩
    rotate_left
    · rw [List.map_append, hrs, List.take_add_one, hr2]; rfl
    · rw [List.map_append]; rfl
  · rintro e S' ⟨rs, hrs, hnm, hj, rfl, x2, x3, x4, x5, x6, x7, rfl⟩
    rw [range_len, List.take_length] at hrs
    have hlst : (S ++ [Cell.lst (rs.map rvD)])[S.length]? = some (.lst (rs.map rvD)) := by simp
    wp_walk using fTuple_loc hlst
    exact h rs _ hrs hnm
theorem near_w {N : Nat} (hN : big N) {S : Store} {n a : Nat} {q : Rat} {Q X : QP D} (P : Pool S n) (hq : Bt q a) (ha : a ≤ 100) (q0 : 0 ≤ q) (h : ∀ q' S', Bt q' (a + 4) → 0 ≤ q' → Pool S' n → Fr n S S' → Q (rD q') S') : Wr (m__law_near N [.loc n, rD q] S) Q X := by
  rw [m__law_near, wr_fnM, b__law_near]
  wp_walk using wr_ok
  refine take_w N P (by omega) (by omega) fun u S1 u0 u1 P1 F1 => ?_
  wp_walk using wr_ok
  refine take_w N P1 (by omega) (by omega) fun v S2 v0 v1 P2 F2 => ?_
  wp_walk using wr_ok
  rw [r_ok hN (n := 3) (by omega) (by omega) (by omega) (by omega)]
  have hs : Bt (Rat.divInt u (1 + v)) 3 := bt_div (m := 0) (by omega) (by omega) (by omega)
  have s0 : 0 ≤ Rat.divInt u (1 + v) := rat_nn u0 (by omega)
  generalize Rat.divInt u (1 + v) = st at hs s0 ⊢
  wp_walk using wr_ok
  refine take_w N P2 (by omega) (by omega) fun w S3 w0 w1 P3 F3 => ?_
  have F := (F1.trans F2).trans F3
  by_cases c0 : w = 0
  · wp_walk using c0
    exact h q _ (hq.mono (by omega)) q0 P3 F
  by_cases c1 : w = 1
  · have c0' : ¬ (1 : Int) = 0 := by decide
    subst c1
    wp_walk using c0', ladd_ok (S := S3) hN hq hs (by omega)
    exact h _ _ ((hq.add hs).mono (by omega)) (Rat.add_nonneg q0 s0) P3 F
  · have b1 := hq.sub hs
    wp_walk using c0, c1, z01, lsub_ok (S := S3) hN hq hs (by omega), ltop_ok (N := N) (S := S3) bt_0 b1 (by omega)
    refine h _ _ ((bt_max (bt_0.mono (by omega)) b1).mono (by omega)) ?_ P3 F
    rw [Rat.max_def]; split <;> grind
theorem lrate_w {N : Nat} (hN : big N) {S : Store} {n : Nat} {Q X : QP D} (P : Pool S n) (h : ∀ q S', Bt q 5 → 0 < q → q ≤ 1 → Pool S' n → Fr n S S' → Q (rD q) S') : Wr (m__law_rate N [.loc n] S) Q X := by
  rw [m__law_rate, wr_fnM, b__law_rate]
  wp_walk using wr_ok
  refine take_w N P (by omega) (by omega) fun w S1 w0 w1 P1 F1 => ?_
  wp_walk using wr_ok
  refine take_w N P1 (by split <;> omega) (by split <;> omega) fun a S2 a0 a1 P2 F2 => ?_
  wp_walk using wr_ok
  rw [r_ok hN (n := 5) (by omega) (by omega) (by omega) (by omega)]
  have a2 : a < 1 + w ∧ a < 6 := by split at a1 <;> omega
  have hu := rat_unit (p := 1 + a) (b := 1 + w) (by omega) (by omega)
  exact h _ _ (bt_div (m := 0) (by omega) (by omega) (by omega)) hu.1 hu.2 P2 (F1.trans F2)
end Wk14
namespace Wk14
open PySem G C
local macro_rules | `(tactic| wp_walk using $ts,*) => `(tactic| try simp only [wr_ok, wr_exc, wr_lf, wr_eC, evQ_some, wr_eVar, cB2_s, cB1_s, wr_eBin, cS2_s, cS1_s, wr_eBinS, asQ_bl, wr_tB, truQ_s, wr_tT, notQ_s, wr_tNt, anQ_t, anQ_f, wr_tAn, orQ_t, orQ_f, wr_tOr, eaB_t, eaB_f, eaQ_s, wr_eAn, eoB_t, eoB_f, eoQ_s, wr_eOr, enB_s, enQ_s, wr_eNt, eiQ_t, eiQ_f, wr_eIf, negQ_int, wr_eNeg, wr_aNil, cC2_s, cC1_s, wr_aCons, tupQ_s, lstQ_s, newQ_s, wr_eTup, wr_eLst, wr_eNew, caQ_s, wr_eCa, clQ_s, wr_eCall, nAQ_s, wr_nA, tyQ_s, wr_eIsTy, icQ_s, wr_eIsC, mt2_s, mt1_s, wr_eMt, wr_oNone, oQ_int, wr_oSome, sl3_s, sl2_s, sl1_s, wr_eSl, kk2_s, kk1_s, wr_eCallK, kk0_s, wr_eCallK0, wr_gN, sb3_s, sb2_s, sb1_s, wr_gSb, wr_gsNil, gs1_s, wr_gsCons, wr_gTp, wr_gTp_rD, xe_s, sq_nx, sq_rt, sq_bk, sq_ct, sq_ex, sq_xe, ws_nxt, ws_sNop, ws_sSeq, ws_sBrk, ws_sCnt, dropQ_s, ws_sDrop, ws_sRet, ws_sRetN, ifQ_t, ifQ_f, ws_sIf, asg1_s, ws_sAsg, setQ_s, ws_sSet, parQ_s, ws_sPar, ws_sRaise, fn_nx, fn_rt, fn_ex, fn_xe, su_nx, su_bk, su_ct, su_rt, trQ_t, trQ_f, tr_nx, tr_rt, tr_bk, tr_ct, tr_ex, ws_sTry, forQ_s, ws_sFor, lp_nx, lp_rt, lp_bk, lp_ct, lp_ex, lp_xe, ws_fi_nil, bodyQ_s, mid_nx, mid_rt, mid_bk, mid_ct, mid_ex, mid_xe, lc2_s, lc1_s, wr_eLc, lcn2_s, lcn1_s, wr_eLcN, wipe_nil, wipe_cons, wr_tTrue, wr_lc_nil, tgQ_some, ly_s, lt1_t, lt1_f, lg_s, eqQ_s, exQ_s, seqQ_tup, seqQ_lst, seqQ_scr, seqQ_rD, wr_iSeq, rgQ_int, wr_iRg1, rgQ2_int, wr_iRg2, ch3_t, ch3_f, ch2_s, ch1_s, wr_eChain, flQ_s, wr_eFld, fldD_ins, stQ_s, sf2_s, sf1_s, ws_sFldM, mkQ2_s, mkQ1_s, wr_eMk, wr_eMk0, ap2_s, ap1_s, wr_eApp, zpQ_s, wr_iZip, zipR_tup, zipR_lst, srQ_s, wr_iStrM, strR_s, ioQ_s, wr_eIsO, dAddS_int, wr_gStr_tup, wr_gStr_lst, fTuple_lst, fTuple_tup, List.take_succ_cons, List.take_zero, List.drop_succ_cons, List.drop_zero, List.getElem?_cons_zero, List.getElem?_cons_succ, List.set_cons_zero, List.set_cons_succ, List.map_cons, List.map_nil, List.length_cons, List.length_nil, List.cons_append, List.nil_append, List.replicate_succ, List.replicate_zero, List.append_nil, true_and, and_true, and_self, if_true, ite_true, if_false, ite_false, Bool.false_eq_true, Bool.not_true, Bool.not_false, Bool.not_not, decide_true, decide_false, decide_eq_true_eq, not_false_eq_true, not_true_eq_false, reduceCtorEq, sizeLine_eq, Option.map_some, Option.some.injEq, Nat.reduceSub, Nat.reduceAdd, Nat.reduceLeDiff, Nat.reduceEqDiff, Nat.zero_add, Nat.reduceBEq, List.contains_cons, List.contains_nil, beq_self_eq_true, Bool.true_or, Bool.or_true, Bool.false_or, Bool.or_false, List.lookup_cons, List.lookup_nil, Int.reduceEq, Int.reduceNe, Int.reduceLT, Int.reduceLE, Int.reduceNeg, Int.reduceAdd, Int.reduceSub, Int.cast_ofNat_Int, ne_eq, cmpI_s, dGt, dGe, dLt, dLe, dAdd_int, dSub_int, dEq_int, dNe_int, dEq_bl, dNe_bl, truD_bl, isTy_int, isTy_bl, isTy_tup, fLen_tup, fLen_scr, fLen_lst, fAbs_int, fMax_int, fMin_int, ixD_tup, ixD_lst, ixD_scr, isTy_rD, fLen_rD, ix_rD0, ix_rD1, dEq_rD, dNe_rD, dIs_rD, dIsNot_rD, Tn.is, me3_s, me2_s, me1_s, wr_eMeth, mk2_s, mk1_s, wr_eMethK, m01_s, wr_eMeth0, wr_eNewD, dg3_s, dg2_s, dg1_s, wr_eDGet2, dh2_s, dh1_s, wr_eDGet1, dp3_s, dp2_s, dp1_s, wr_eDPop2, dq2_s, dq1_s, wr_eDPop1, se2_s, se1_s, wr_gSbE, ssQ_s, wr_eSortSet, an2_s, an1_s, wr_eAddN, celQ_tup, celQ_lst, celQ_scr, wr_iCel, forcQ_s, ws_sForC, lcc1_s, wr_eLcC, lcd1_s, wr_eLcCN, keyD_int, keyD_str, Option.isSome_some, fmQ_s, wr_eFmt, jsQ_str, wr_js_nil, wr_js_cons, wr_eJs, s4Q_str, soQ_s, wr_eStrO, dAddE_0, wr_eCallV, chQ_s, wr_eCallH, wr_lamF, oj_s, enuQ_s, wr_iEnum, enR_tup, enR_lst, lrQ_int, wr_eLr, lrnQ_int, wr_eLrN, agQ_s, auP_s, ws_sAug, augR_int, pp2_s, pp1_s, wr_ePop, wr_gSq_tup, wr_gSq_lst, $[$ts:term],*])
theorem Fr_hi {n i : Nat} {S S' : Store} {c : Cell} (F : Fr n S S') (h : S.length ≤ i) : Fr n S (S'.set i c) := ⟨by rw [List.length_set]; exact F.1, fun m h1 h2 => by rw [List.getElem?_set_ne (by omega)]; exact F.2 m h1 h2⟩
theorem z12 : D.tup [.int 1, .int 2] = rD (Rat.divInt 1 2) := rfl
theorem bt_half : Bt (Rat.divInt 1 2) 5 := bt_div (m := 0) (by decide) (by decide) (by decide)
structure RwS (r : Rw) : Prop where
  ok : RwOk r
  c : Bt r.c 60
  g : Bt r.g 60
  t : Bt r.t 60
structure HiOk (l : Rat) (o : Option Rat) : Prop where
  b : ∀ q, o = some q → Bt q 5
  k : ∀ q, o = some q → 0 < q ∧ q ≤ 1 ∧ l ≤ q
theorem hi_none (l : Rat) : HiOk l none := ⟨fun q hq => (by cases hq), fun q hq => (by cases hq)⟩
theorem rivals_w {N : Nat} (hN : big N) {S : Store} {n : Nat} {now pace : Rat} {Q X : QP D} (P : Pool S n) (bn : Bt now 20) (bp : Bt pace 20) (n0 : 0 ≤ now) (p0 : 0 ≤ pace)
    (h : ∀ (rows : List Rw) (S' : Store), (∀ r, r ∈ rows → RwS r) → rows.length ≤ 12 → Pool S' n → Fr n S S' → S'[S.length]? = some (.lst (rows.map rwD)) → Q (.loc S.length) S') : Wr (m__law_rivals N [.loc n, rD now, rD pace] S) Q X := by
  have hne : S.length ≠ n := fun z => by have := P.lt; omega
  have e0 : dIsNot .non .non = some (.bl false) := rfl
  have dn : ∀ q : Rat, dIsNot (rD q) .non = some (.bl true) := dIsNot_rD
  rw [m__law_rivals, wr_fnM, b__law_rivals]
  wp_walk using Nat.zero_le
  have F0 : Fr n S (S ++ [Cell.lst []]) := Fr.app _
  refine take_w N (P.app [.lst []]) (by omega) (by omega) fun w S1 w0 w1 P1 F1 => ?_
  wp_walk using wr_ok
  refine wr_at w0 (by simpa using w1) fun d hd => ?_
  obtain ⟨z, rfl, z1, z9⟩ : ∃ h : Int, d = .int h ∧ 1 ≤ h ∧ h ≤ 13 := by
    simp only [List.mem_cons, List.not_mem_nil, or_false] at hd
    rcases hd with rfl | rfl | rfl
    · exact ⟨_, rfl, by omega, by omega⟩
    · exact ⟨_, rfl, by omega, by omega⟩
    · exact ⟨_, rfl, by omega, by omega⟩
  clear hd
  wp_walk using wr_ok
  refine take_w N P1 (by omega) (by omega) fun u S2 u0 u1 P2 F2 => ?_
  wp_walk using wr_ok
  refine ⟨by omega, ?_⟩
  have hl0 : (S ++ [Cell.lst []])[S.length]? = some (.lst []) := by simp
  refine for_w (fun j e S' => Pool S' n ∧ Fr n S S' ∧ (∃ rows : List Rw, S'[S.length]? = some (.lst (rows.map rwD)) ∧ (∀ r, r ∈ rows → RwS r) ∧ rows.length ≤ j) ∧ ∃ x4 x5 x6 x7, e = [some (.loc n), some (rD now), some (rD pace), some (.loc S.length), x4, x5, x6, x7]) ⟨P2, (F0.trans F1).trans F2, ⟨[], F2.get (F1.get hl0 hne) hne, by simp, Nat.zero_le _⟩, _, _, _, _, rfl⟩ ?_ ?_
  · rintro j d e S3 hd ⟨P3, F3, ⟨rows, hl3, hrw, hrl⟩, x4, x5, x6, x7, rfl⟩
    obtain ⟨rfl, hj⟩ := range_get hd
    wp_walk using wr_ok
    refine lrate_w hN P3 fun q1 S4 bq1 q10 q11 P4 F4 => ?_
    wp_walk using wr_ok
    refine take_w N P4 (by omega) (by omega) fun w S5 w0 w1 P5 F5 => ?_
    wp_walk using wr_ok
    refine wr_at w0 (by simpa using w1) fun d hd => ?_
    obtain ⟨l, rfl, bl, l0, l1⟩ : ∃ l : Rat, d = rD l ∧ Bt l 5 ∧ 0 ≤ l ∧ l ≤ 1 := by
      simp only [List.mem_cons, List.not_mem_nil, or_false] at hd
      rcases hd with rfl | rfl | rfl
      · exact ⟨0, rfl, bt_0.mono (by omega), by decide, by decide⟩
      · exact ⟨q1, rfl, bq1, by grind, q11⟩
      · exact ⟨_, z12, bt_half, by decide +kernel, by decide +kernel⟩
    clear hd
    wp_walk using wr_ok
    refine lrate_w hN P5 fun q2 S6 bq2 q20 q21 P6 F6 => ?_
    wp_walk using wr_ok
    refine take_w N P6 (by omega) (by omega) fun w S7 w0 w1 P7 F7 => ?_
    wp_walk using wr_ok
    refine wr_at w0 (by simpa using w1) fun d hd => ?_
    obtain ⟨o, rfl, ho⟩ : ∃ o : Option Rat, d = oD o ∧ ∀ q, o = some q → Bt q 5 ∧ 0 ≤ q ∧ q ≤ 1 := by
      simp only [List.mem_cons, List.not_mem_nil, or_false] at hd
      rcases hd with rfl | rfl | rfl | rfl
      · exact ⟨none, rfl, fun q hq => by cases hq⟩
      · exact ⟨some 1, rfl, fun q hq => by cases hq; exact ⟨bt_1.mono (by omega), by decide, by decide⟩⟩
      · exact ⟨some l, rfl, fun q hq => by cases hq; exact ⟨bl, l0, l1⟩⟩
      · exact ⟨some q2, rfl, fun q hq => by cases hq; exact ⟨bq2, by grind, q21⟩⟩
    clear hd
    (try simp only [wr_ok, wr_exc, wr_lf, wr_eC, evQ_some, wr_eVar, cB2_s, cB1_s, wr_eBin, cS2_s, cS1_s, wr_eBinS, asQ_bl, wr_tB, truQ_s, wr_tT, notQ_s, wr_tNt, anQ_t, anQ_f, wr_tAn, orQ_t, orQ_f, wr_tOr, eaB_t, eaB_f, eaQ_s, wr_eAn, eoB_t, eoB_f, eoQ_s, wr_eOr, enB_s, enQ_s, wr_eNt, eiQ_t, eiQ_f, wr_eIf, negQ_int, wr_eNeg, wr_aNil, cC2_s, cC1_s, wr_aCons, tupQ_s, lstQ_s, newQ_s, wr_eTup, wr_eLst, wr_eNew, caQ_s, wr_eCa, clQ_s, wr_eCall, nAQ_s, wr_nA, tyQ_s, wr_eIsTy, icQ_s, wr_eIsC, mt2_s, mt1_s, wr_eMt, wr_oNone, oQ_int, wr_oSome, sl3_s, sl2_s, sl1_s, wr_eSl, kk2_s, kk1_s, wr_eCallK, kk0_s, wr_eCallK0, wr_gN, sb3_s, sb2_s, sb1_s, wr_gSb, wr_gsNil, gs1_s, wr_gsCons, wr_gTp, wr_gTp_rD, xe_s, sq_nx, sq_rt, sq_bk, sq_ct, sq_ex, sq_xe, ws_nxt, ws_sNop, ws_sSeq, ws_sBrk, ws_sCnt, dropQ_s, ws_sDrop, ws_sRet, ws_sRetN, ifQ_t, ifQ_f, asg1_s, ws_sAsg, setQ_s, ws_sSet, parQ_s, ws_sPar, ws_sRaise, fn_nx, fn_rt, fn_ex, fn_xe, su_nx, su_bk, su_ct, su_rt, trQ_t, trQ_f, tr_nx, tr_rt, tr_bk, tr_ct, tr_ex, ws_sTry, forQ_s, ws_sFor, lp_nx, lp_rt, lp_bk, lp_ct, lp_ex, lp_xe, ws_fi_nil, bodyQ_s, mid_nx, mid_rt, mid_bk, mid_ct, mid_ex, mid_xe, lc2_s, lc1_s, wr_eLc, lcn2_s, lcn1_s, wr_eLcN, wipe_nil, wipe_cons, wr_tTrue, wr_lc_nil, tgQ_some, ly_s, lt1_t, lt1_f, lg_s, eqQ_s, exQ_s, seqQ_tup, seqQ_lst, seqQ_scr, seqQ_rD, wr_iSeq, rgQ_int, wr_iRg1, rgQ2_int, wr_iRg2, ch3_t, ch3_f, ch2_s, ch1_s, wr_eChain, flQ_s, wr_eFld, fldD_ins, stQ_s, sf2_s, sf1_s, ws_sFldM, mkQ2_s, mkQ1_s, wr_eMk, wr_eMk0, ap2_s, ap1_s, wr_eApp, zpQ_s, wr_iZip, zipR_tup, zipR_lst, srQ_s, wr_iStrM, strR_s, ioQ_s, wr_eIsO, dAddS_int, wr_gStr_tup, wr_gStr_lst, fTuple_lst, fTuple_tup, List.take_succ_cons, List.take_zero, List.drop_succ_cons, List.drop_zero, List.getElem?_cons_zero, List.getElem?_cons_succ, List.set_cons_zero, List.set_cons_succ, List.map_cons, List.map_nil, List.length_cons, List.length_nil, List.cons_append, List.nil_append, List.replicate_succ, List.replicate_zero, List.append_nil, true_and, and_true, and_self, if_true, ite_true, if_false, ite_false, Bool.false_eq_true, Bool.not_true, Bool.not_false, Bool.not_not, decide_true, decide_false, decide_eq_true_eq, not_false_eq_true, not_true_eq_false, reduceCtorEq, sizeLine_eq, Option.map_some, Option.some.injEq, Nat.reduceSub, Nat.reduceAdd, Nat.reduceLeDiff, Nat.reduceEqDiff, Nat.zero_add, Nat.reduceBEq, List.contains_cons, List.contains_nil, beq_self_eq_true, Bool.true_or, Bool.or_true, Bool.false_or, Bool.or_false, List.lookup_cons, List.lookup_nil, Int.reduceEq, Int.reduceNe, Int.reduceLT, Int.reduceLE, Int.reduceNeg, Int.reduceAdd, Int.reduceSub, Int.cast_ofNat_Int, ne_eq, cmpI_s, dGt, dGe, dLt, dLe, dAdd_int, dSub_int, dEq_int, dNe_int, dEq_bl, dNe_bl, truD_bl, isTy_int, isTy_bl, isTy_tup, fLen_tup, fLen_scr, fLen_lst, fAbs_int, fMax_int, fMin_int, ixD_tup, ixD_lst, ixD_scr, isTy_rD, fLen_rD, ix_rD0, ix_rD1, dEq_rD, dNe_rD, dIs_rD, dIsNot_rD, Tn.is, me3_s, me2_s, me1_s, wr_eMeth, mk2_s, mk1_s, wr_eMethK, m01_s, wr_eMeth0, wr_eNewD, dg3_s, dg2_s, dg1_s, wr_eDGet2, dh2_s, dh1_s, wr_eDGet1, dp3_s, dp2_s, dp1_s, wr_eDPop2, dq2_s, dq1_s, wr_eDPop1, se2_s, se1_s, wr_gSbE, ssQ_s, wr_eSortSet, an2_s, an1_s, wr_eAddN, celQ_tup, celQ_lst, celQ_scr, wr_iCel, forcQ_s, ws_sForC, lcc1_s, wr_eLcC, lcd1_s, wr_eLcCN, keyD_int, keyD_str, Option.isSome_some, fmQ_s, wr_eFmt, jsQ_str, wr_js_nil, wr_js_cons, wr_eJs, s4Q_str, soQ_s, wr_eStrO, dAddE_0, wr_eCallV, chQ_s, wr_eCallH, wr_lamF, oj_s, enuQ_s, wr_iEnum, enR_tup, enR_lst, lrQ_int, wr_eLr, lrnQ_int, wr_eLrN, agQ_s, auP_s, ws_sAug, augR_int, pp2_s, pp1_s, wr_ePop, wr_gSq_tup, wr_gSq_lst])
    refine ws_cut (fun e S' => S' = S7 ∧ ∃ o, HiOk l o ∧ e = [some (.loc n), some (rD now), some (rD pace), some (.loc S.length), some (.int (j : Nat)), some (rD l), some (oD o), x7]) ?_ ?_
    · cases o with
      | none =>
        wp_walk using oD_none, e0
        exact ⟨none, hi_none l, rfl⟩
      | some q =>
        obtain ⟨bq, q0, q1⟩ := ho q rfl
        by_cases c1 : q = 0
        · wp_walk using oD_some, dn, z01, c1
          exact ⟨none, hi_none l, rfl⟩
        · by_cases c2 : q < l
          · wp_walk using oD_some, dn, z01, c1, lless_ok (N := N) (S := S7) bq bl (by omega), c2
            exact ⟨none, hi_none l, rfl⟩
          · wp_walk using oD_some, dn, z01, c1, lless_ok (N := N) (S := S7) bq bl (by omega), c2
            exact ⟨some q, ⟨fun q' hq => (by cases hq; exact bq), fun q' hq => by cases hq; exact ⟨by grind, q1, by grind⟩⟩, rfl⟩
    · rintro e S' ⟨rfl, o, hi, rfl⟩
      wp_walk using wr_ok
      refine near_w hN P7 bn (by omega) n0 fun c S8 bc c0 P8 F8 => ?_
      wp_walk using wr_ok
      refine near_w hN P8 bn (by omega) n0 fun g S9 bg g0 P9 F9 => ?_
      wp_walk using wr_ok
      refine near_w hN P9 bp (by omega) p0 fun t S10 bt t0 P10 F10 => ?_
      have F10' : Fr n S3 S10 := ((((((F4.trans F5).trans F6).trans F7).trans F8).trans F9)).trans F10
      wp_walk using tD_fold, isLst_loc (F10'.get hl3 hne)
      refine take_w N P10 (by omega) (by omega) fun v S11 v0 v1 P11 F11 => ?_
      wp_walk using wr_ok
      refine take_w N P11 (by omega) (by omega) fun w S12 w0 w1 P12 F12 => ?_
      wp_walk using wr_ok
      refine wr_at w0 (by simpa using w1) fun d hd => ?_
      obtain ⟨z, rfl, z1, z9⟩ : ∃ h : Int, d = .int h ∧ 1 ≤ h ∧ h ≤ 999 := by
        simp only [List.mem_cons, List.not_mem_nil, or_false] at hd
        rcases hd with rfl | rfl | rfl | rfl
        · exact ⟨_, rfl, by omega, by omega⟩
        · exact ⟨_, rfl, by omega, by omega⟩
        · exact ⟨_, rfl, by omega, by omega⟩
        · exact ⟨_, rfl, by omega, by omega⟩
      clear hd
      wp_walk using wr_ok
      refine take_w N P12 (by omega) (by omega) fun m S13 m0 m1 P13 F13 => ?_
      have F13' : Fr n S3 S13 := ((F10'.trans F11).trans F12).trans F13
      have hl13 := F13'.get hl3 hne
      have hz : (rows.map rwD).length < sizeLine := by rw [sizeLine_eq, List.length_map]; omega
      have hlt := (List.getElem?_eq_some_iff.mp hl13).1
      wp_walk using appR_loc hl13 hz
      refine ⟨P13.set _ hne, Fr_hi (F3.trans F13') (Nat.le_refl _), ⟨rows ++ [⟨z, l, o, 1 + m, c, g, t⟩], ?_, ?_, ?_⟩, _, _, _, _, rfl⟩
      · rw [List.getElem?_set_self hlt, List.map_append]; rfl
      · intro r hr
        rcases List.mem_append.mp hr with hr | hr
        · exact hrw r hr
        · simp only [List.mem_cons, List.not_mem_nil, or_false] at hr
          subst hr
          exact ⟨⟨⟨l0, l1, hi.k, by show 1 ≤ 1 + m; omega, by show 1 + m ≤ 99; omega⟩, z1, z9, bl.mono (by omega), fun q hq => (hi.b q hq).mono (by omega), bc.mono (by omega), bg.mono (by omega), bt.mono (by omega), c0, g0, t0⟩, bc.mono (by show _ ≤ 60; omega), bg.mono (by show _ ≤ 60; omega), bt.mono (by show _ ≤ 60; omega)⟩
      · rw [List.length_append]; simp; omega
  · rintro e S3 ⟨P3, F3, ⟨rows, hl3, hrw, hrl⟩, x4, x5, x6, x7, rfl⟩
    rw [range_len] at hrl
    wp_walk using wr_ok
    exact h rows S3 hrw (by omega) P3 F3 hl3
end Wk14
namespace Wk14
open PySem G C
local macro_rules | `(tactic| wp_walk using $ts,*) => `(tactic| try simp only [wr_ok, wr_exc, wr_lf, wr_eC, evQ_some, wr_eVar, cB2_s, cB1_s, wr_eBin, cS2_s, cS1_s, wr_eBinS, asQ_bl, wr_tB, truQ_s, wr_tT, notQ_s, wr_tNt, anQ_t, anQ_f, wr_tAn, orQ_t, orQ_f, wr_tOr, eaB_t, eaB_f, eaQ_s, wr_eAn, eoB_t, eoB_f, eoQ_s, wr_eOr, enB_s, enQ_s, wr_eNt, eiQ_t, eiQ_f, wr_eIf, negQ_int, wr_eNeg, wr_aNil, cC2_s, cC1_s, wr_aCons, tupQ_s, lstQ_s, newQ_s, wr_eTup, wr_eLst, wr_eNew, caQ_s, wr_eCa, clQ_s, wr_eCall, nAQ_s, wr_nA, tyQ_s, wr_eIsTy, icQ_s, wr_eIsC, mt2_s, mt1_s, wr_eMt, wr_oNone, oQ_int, wr_oSome, sl3_s, sl2_s, sl1_s, wr_eSl, kk2_s, kk1_s, wr_eCallK, kk0_s, wr_eCallK0, wr_gN, sb3_s, sb2_s, sb1_s, wr_gSb, wr_gsNil, gs1_s, wr_gsCons, wr_gTp, wr_gTp_rD, xe_s, sq_nx, sq_rt, sq_bk, sq_ct, sq_ex, sq_xe, ws_nxt, ws_sNop, ws_sSeq, ws_sBrk, ws_sCnt, dropQ_s, ws_sDrop, ws_sRet, ws_sRetN, ifQ_t, ifQ_f, ws_sIf, asg1_s, ws_sAsg, setQ_s, ws_sSet, parQ_s, ws_sPar, ws_sRaise, fn_nx, fn_rt, fn_ex, fn_xe, su_nx, su_bk, su_ct, su_rt, trQ_t, trQ_f, tr_nx, tr_rt, tr_bk, tr_ct, tr_ex, ws_sTry, forQ_s, ws_sFor, lp_nx, lp_rt, lp_bk, lp_ct, lp_ex, lp_xe, ws_fi_nil, bodyQ_s, mid_nx, mid_rt, mid_bk, mid_ct, mid_ex, mid_xe, lc2_s, lc1_s, wr_eLc, lcn2_s, lcn1_s, wr_eLcN, wipe_nil, wipe_cons, wr_tTrue, wr_lc_nil, tgQ_some, ly_s, lt1_t, lt1_f, lg_s, eqQ_s, exQ_s, seqQ_tup, seqQ_lst, seqQ_scr, seqQ_rD, wr_iSeq, rgQ_int, wr_iRg1, rgQ2_int, wr_iRg2, ch3_t, ch3_f, ch2_s, ch1_s, wr_eChain, flQ_s, wr_eFld, fldD_ins, stQ_s, sf2_s, sf1_s, ws_sFldM, mkQ2_s, mkQ1_s, wr_eMk, wr_eMk0, ap2_s, ap1_s, wr_eApp, zpQ_s, wr_iZip, zipR_tup, zipR_lst, srQ_s, wr_iStrM, strR_s, ioQ_s, wr_eIsO, dAddS_int, wr_gStr_tup, wr_gStr_lst, fTuple_lst, fTuple_tup, List.take_succ_cons, List.take_zero, List.drop_succ_cons, List.drop_zero, List.getElem?_cons_zero, List.getElem?_cons_succ, List.set_cons_zero, List.set_cons_succ, List.map_cons, List.map_nil, List.length_cons, List.length_nil, List.cons_append, List.nil_append, List.replicate_succ, List.replicate_zero, List.append_nil, true_and, and_true, and_self, if_true, ite_true, if_false, ite_false, Bool.false_eq_true, Bool.not_true, Bool.not_false, Bool.not_not, decide_true, decide_false, decide_eq_true_eq, not_false_eq_true, not_true_eq_false, reduceCtorEq, sizeLine_eq, Option.map_some, Option.some.injEq, Nat.reduceSub, Nat.reduceAdd, Nat.reduceLeDiff, Nat.reduceEqDiff, Nat.zero_add, Nat.reduceBEq, List.contains_cons, List.contains_nil, beq_self_eq_true, Bool.true_or, Bool.or_true, Bool.false_or, Bool.or_false, List.lookup_cons, List.lookup_nil, Int.reduceEq, Int.reduceNe, Int.reduceLT, Int.reduceLE, Int.reduceNeg, Int.reduceAdd, Int.reduceSub, Int.cast_ofNat_Int, ne_eq, cmpI_s, dGt, dGe, dLt, dLe, dAdd_int, dSub_int, dEq_int, dNe_int, dEq_bl, dNe_bl, truD_bl, isTy_int, isTy_bl, isTy_tup, fLen_tup, fLen_scr, fLen_lst, fAbs_int, fMax_int, fMin_int, ixD_tup, ixD_lst, ixD_scr, isTy_rD, fLen_rD, ix_rD0, ix_rD1, dEq_rD, dNe_rD, dIs_rD, dIsNot_rD, Tn.is, me3_s, me2_s, me1_s, wr_eMeth, mk2_s, mk1_s, wr_eMethK, m01_s, wr_eMeth0, wr_eNewD, dg3_s, dg2_s, dg1_s, wr_eDGet2, dh2_s, dh1_s, wr_eDGet1, dp3_s, dp2_s, dp1_s, wr_eDPop2, dq2_s, dq1_s, wr_eDPop1, se2_s, se1_s, wr_gSbE, ssQ_s, wr_eSortSet, an2_s, an1_s, wr_eAddN, celQ_tup, celQ_lst, celQ_scr, wr_iCel, forcQ_s, ws_sForC, lcc1_s, wr_eLcC, lcd1_s, wr_eLcCN, keyD_int, keyD_str, Option.isSome_some, fmQ_s, wr_eFmt, jsQ_str, wr_js_nil, wr_js_cons, wr_eJs, s4Q_str, soQ_s, wr_eStrO, dAddE_0, wr_eCallV, chQ_s, wr_eCallH, wr_lamF, oj_s, enuQ_s, wr_iEnum, enR_tup, enR_lst, lrQ_int, wr_eLr, lrnQ_int, wr_eLrN, agQ_s, auP_s, ws_sAug, augR_int, pp2_s, pp1_s, wr_ePop, wr_gSq_tup, wr_gSq_lst, lnQ_lst, lnQ_tup, wr_eListN, rvQ_lst, wr_eRev, rfQ_s, ws_sRaiseF, trG_nx, trG_rt, trG_bk, trG_ct, trG_ex, ws_sTryG, ws_hd_nil, hdP_t, hdP_f, ws_hd_cons, setO_some, setO_none, ws_suS, suN_nx, suN_rt, suN_bk, suN_ct, ws_suN, iyQ_s, wr_eIsY, isY_exc, fyQ_s, wr_eFldY, fldY_exc, toQ_s, wr_eIsTyO, isTyO_tup, isTyO_lst, isTyO_int, tm2_s, tm1_s, wr_eTm, rgQN_int, wr_iRgN, $[$ts:term],*])
abbrev S_ (l : List Nat) : Str := SX.S l
def numI (i : Int) : List Nat := if i < 0 then 45 :: TL.numL i.natAbs else TL.numL i.natAbs
theorem str_I (i : Int) : (toString i : Str) = S_ (numI i) := by
  unfold numI
  cases i with
  | ofNat n =>
    rw [if_neg (by simp)]
    exact SX.num_S n
  | negSucc n =>
    rw [if_pos (Int.negSucc_lt_zero n)]
    have e : (toString (Int.negSucc n) : String) = "-" ++ toString (((n + 1 : Nat) : Int)) := rfl
    have k := SX.num_S (n + 1)
    rw [Str.ofString_eq_toList] at k
    have k2 := SX.S_inj k
    show Str.ofString (toString (Int.negSucc n)) = _
    rw [e, Str.ofString_eq_toList, String.toList_append, List.map_append, k2]
    rfl
def tq (q : Rat) : List Nat := numI q.num ++ (if q.den = 1 then [] else 47 :: TL.numL q.den)
theorem numI_len {i : Int} {k : Nat} (hk : 0 < k) (h : i.natAbs < 10 ^ k) : (numI i).length ≤ k + 1 := by
  have := TL.numL_len hk h
  unfold numI
  split
  · rw [List.length_cons]; omega
  · omega
theorem log_small {i : Int} (h : i.natAbs < 2 ^ 250) : i.natAbs.log2 < 1920 := Nat.lt_of_lt_of_le (log2_lt h (by omega)) (by omega)
theorem fStr_I {i : Int} (h : i.natAbs < 2 ^ 250) (S0 : Store) : fStr S0 [.int i] = some (.str (S_ (numI i))) := by
  show (if i.natAbs.log2 < 1920 then some (D.str (toString i)) else none) = _
  rw [if_pos (log_small h), str_I]
theorem fmt_I {i : Int} (h : i.natAbs < 2 ^ 250) : fmtD (.int i) = some (.str (S_ (numI i))) := by
  show (if i.natAbs.log2 < 1920 then some (D.str (toString i)) else none) = _
  rw [if_pos (log_small h), str_I]
theorem sl_S : ("/" : Str) = S_ [47] := by decide +kernel
theorem pow76 : (2 : Nat) ^ 250 ≤ 10 ^ 76 := by decide
theorem numI_b {i : Int} (h : i.natAbs < 2 ^ 250) : (numI i).length ≤ 77 := numI_len (by omega) (Nat.lt_of_lt_of_le h pow76)
theorem showR_ok {N : Nat} (hN : big N) {q : Rat} (h : Bt q 250) (S0 : Store) : m_show_ratio N [rD q] S0 = .ok (.str (S_ (tq q))) S0 := by
  have hd : ((q.den : Int)).natAbs < 2 ^ 250 := by simpa using h.2
  have l1 := numI_b h.1
  have l2 := numI_b hd
  have e2 : numI (q.den : Int) = TL.numL q.den := by unfold numI; rw [if_neg (by omega)]; rfl
  apply eq_of_w
  rw [m_show_ratio, wr_fnM, b_show_ratio]
  unfold tq
  by_cases c : (q.den : Int) = 1
  · have c' : q.den = 1 := by omega
    wp_walk using chk_ok hN h (by omega), fStr_I h.1, c, c'
  · have c' : ¬ q.den = 1 := by omega
    have ee : Str.empty = S_ [] := rfl
    have k0 : (Str.empty ++ S_ (numI q.num)) = S_ (numI q.num) := by rw [ee, SX.S_cat]; rfl
    have l0 : (S_ (numI q.num)).length ≤ sizeLine := by rw [SX.S_len, sizeLine_eq]; omega
    have l1 : (S_ (numI q.num) ++ S_ [47]).length ≤ sizeLine := by rw [SX.S_cat, SX.S_len, sizeLine_eq]; simp only [List.length_append, List.length_cons, List.length_nil]; omega
    have l2 : (S_ (numI q.num) ++ S_ [47] ++ S_ (numI (q.den : Int))).length ≤ sizeLine := by rw [SX.S_cat, SX.S_cat, SX.S_len, sizeLine_eq]; simp only [List.length_append, List.length_cons, List.length_nil]; omega
    rw [sizeLine_eq] at l0 l1 l2
    wp_walk using chk_ok hN h (by omega), c, fmt_I h.1, fmt_I hd, sl_S, k0, l0, l1, l2, c'
    rw [SX.S_cat, SX.S_cat, e2, List.append_assoc]
    rfl
def rtL : Option Rat → List Nat
  | none => [45]
  | some q => if q = 0 then [45] else tq q
theorem ds_S : ("-" : Str) = S_ [45] := by decide +kernel
theorem rate_text_ok {N : Nat} (hN : big N) {m : Option Rat} (h : ∀ q, m = some q → Bt q 250) (S : Store) : m_rate_text N [oD m] S = .ok (.str (S_ (rtL m))) S := by
  apply eq_of_w
  rw [m_rate_text, wr_fnM, b_rate_text]
  cases m with
  | none =>
    have e1 : dIs (oD none) .non = some (.bl true) := rfl
    wp_walk using e1, ds_S
    rfl
  | some q =>
    have e1 : dIs (oD (some q)) .non = some (.bl false) := rfl
    have e2 : dEq (oD (some q)) (.tup [.int 0, .int 1]) = some (.bl (decide (q = 0))) := dEq_rD q 0
    have e3 : m_show_ratio N [oD (some q)] S = _ := showR_ok hN (h q rfl) S
    by_cases c : q = 0
    · rw [decide_eq_true c] at e2
      wp_walk using e1, e2, ds_S
      show D.str (S_ [45]) = D.str (S_ (if q = 0 then [45] else tq q))
      rw [if_pos c]
    · rw [decide_eq_false c] at e2
      wp_walk using e1, e2, e3
      show D.str (S_ (tq q)) = D.str (S_ (if q = 0 then [45] else tq q))
      rw [if_neg c]
theorem tq_len {q : Rat} (h : Bt q 250) : (tq q).length ≤ 160 := by
  have hd : ((q.den : Int)).natAbs < 2 ^ 250 := by simpa using h.2
  have l1 := numI_b h.1
  have l2 := numI_b hd
  have e2 : numI (q.den : Int) = TL.numL q.den := by unfold numI; rw [if_neg (by omega)]; rfl
  rw [e2] at l2
  unfold tq
  rw [List.length_append]
  split
  · simp only [List.length_nil]; omega
  · rw [List.length_cons]; omega
theorem rt_len {m : Option Rat} (h : ∀ q, m = some q → Bt q 250) : (rtL m).length ≤ 160 := by
  cases m with
  | none => show 1 ≤ 160; omega
  | some q =>
    show (if q = 0 then [45] else tq q).length ≤ 160
    split
    · show 1 ≤ 160; omega
    · exact tq_len (h q rfl)
def c1L : List Nat := [32, 108, 101, 97, 115, 116, 32]
def c2L : List Nat := [32, 109, 111, 115, 116, 32]
def c3L : List Nat := [32, 119, 101, 105, 103, 104, 116, 32]
theorem c1_S : (" least " : Str) = S_ c1L := by decide +kernel
theorem c2_S : (" most " : Str) = S_ c2L := by decide +kernel
theorem c3_S : (" weight " : Str) = S_ c3L := by decide +kernel
def cliL (nm : List Nat) (l : Rat) (o : Option Rat) (h : Int) : List Nat := nm ++ c1L ++ rtL (some l) ++ c2L ++ rtL o ++ c3L ++ numI h
theorem fmt_S {a : List Nat} (h : a.length ≤ 1000) : fmtD (.str (S_ a)) = some (.str (S_ a)) := by
  show (if (S_ a).length ≤ sizeLine then _ else _) = _
  rw [if_pos (by rw [SX.S_len, sizeLine_eq]; omega)]
theorem client_str_ok {N : Nat} (hN : big N) {nm : List Nat} {l : Rat} {o : Option Rat} {h : Int} (hn : nm.length ≤ 8) (hl : Bt l 250) (ho : ∀ q, o = some q → Bt q 250) (hh : h.natAbs < 2 ^ 250) (S : Store) : m_Client___str__ N [cD (S_ nm) l o h] S = .ok (.str (S_ (cliL nm l o h))) S := by
  have e1 : m_rate_text N [rD l] S = _ := rate_text_ok (m := some l) hN (fun q e => by cases e; exact hl) S
  have e2 := rate_text_ok (m := o) hN ho S
  have f0 : fldD [33, 42, 44, 46] 0 S (cD (S_ nm) l o h) = some (.str (S_ nm)) := rfl
  have f1 : fldD [33, 42] 1 S (cD (S_ nm) l o h) = some (rD l) := rfl
  have f2 : fldD [33, 42] 2 S (cD (S_ nm) l o h) = some (oD o) := rfl
  have f3 : fldD [33, 42, 44] 3 S (cD (S_ nm) l o h) = some (.int h) := rfl
  have n1 := rt_len (m := some l) (fun q e => by cases e; exact hl)
  have n2 := rt_len ho
  have n3 := numI_b hh
  have ee : Str.empty = S_ [] := rfl
  have g1 := fmt_S (a := nm) (by omega)
  have g2 := fmt_S (a := rtL (some l)) (by omega)
  have g3 := fmt_S (a := rtL o) (by omega)
  apply eq_of_w
  rw [m_Client___str__, wr_fnM, b_Client___str__]
  wp_walk using f0, f1, f2, f3, e1, e2, g1, g2, g3, fmt_I hh, c1_S, c2_S, c3_S, ee, SX.S_cat, SX.S_len
  have k1 : c1L.length = 7 := rfl
  have k2 : c2L.length = 6 := rfl
  have k3 : c3L.length = 8 := rfl
  simp only [List.length_append]
  exact ⟨by omega, by omega, by omega, by omega, by omega, by omega, by omega, rfl⟩
theorem cli_len {nm : List Nat} {l : Rat} {o : Option Rat} {h : Int} (hn : nm.length ≤ 8) (hl : Bt l 250) (ho : ∀ q, o = some q → Bt q 250) (hh : h.natAbs < 2 ^ 250) : (cliL nm l o h).length ≤ 500 := by
  have n1 := rt_len (m := some l) (fun q e => by cases e; exact hl)
  have n2 := rt_len ho
  have n3 := numI_b hh
  have k1 : c1L.length = 7 := rfl
  have k2 : c2L.length = 6 := rfl
  have k3 : c3L.length = 8 := rfl
  unfold cliL
  simp only [List.length_append]
  omega
def cr1 : List Nat := [67, 108, 105, 101, 110, 116, 40]
theorem cr1_S : ("Client(" : Str) = S_ cr1 := by decide +kernel
theorem cr2_S : (")" : Str) = S_ [41] := by decide +kernel
def crL (nm : List Nat) (l : Rat) (o : Option Rat) (h : Int) : List Nat := cr1 ++ cliL nm l o h ++ [41]
theorem client_repr_ok {N : Nat} (hN : big N) {nm : List Nat} {l : Rat} {o : Option Rat} {h : Int} (hn : nm.length ≤ 8) (hl : Bt l 250) (ho : ∀ q, o = some q → Bt q 250) (hh : h.natAbs < 2 ^ 250) (S : Store) : m_Client___repr__ N [cD (S_ nm) l o h] S = .ok (.str (S_ (crL nm l o h))) S := by
  have e1 := client_str_ok hN hn hl ho hh S
  have n1 := cli_len hn hl ho hh
  have ee : Str.empty = S_ [] := rfl
  have g1 := fmt_S (a := cliL nm l o h) (by omega)
  have i1 : isCn 33 S (cD (S_ nm) l o h) = true := rfl
  have gg : g_Client___str___1_ [cD (S_ nm) l o h] [] = [cD (S_ nm) l o h] := rfl
  apply eq_of_w
  rw [m_Client___repr__, wr_fnM, b_Client___repr__]
  wp_walk using wr_eStrO, soQ_s, i1, gg, e1, g1, cr1_S, cr2_S, ee, SX.S_cat, SX.S_len
  have k1 : cr1.length = 7 := rfl
  simp only [List.length_append, List.length_cons, List.length_nil]
  exact ⟨by omega, by omega, by omega, rfl⟩
def rtQ (cn : Nat) (f : FM) (gD : List D → List D → List D) (Q X : QP D) : QP D := fun x S => Wr (match x with
  | .tup l => if rsh cn 6 (.tup l) S = true then ((rpL (rpT cn f gD 6) 0 l S).bind rpE).bind fun t S1 => .ok (.str t) S1 else .stuck
  | _ => .stuck) Q X
theorem wr_eReprT {Q X : QP D} {a : EM} {e : En} {S : Store} (cn : Nat) (f : FM) (gD : List D → List D → List D) : Wr (eReprT cn f gD a e S) Q X = Wr (a e S) (rtQ cn f gD Q X) X := by
  unfold eReprT aCons aNil
  rw [wr_bind, wr_bind]
  congr; funext x S1
  unfold rtQ
  show Wr _ Q X = Wr _ Q X
  cases x <;> rfl
def Tx (N d : Nat) (x : D) (t : Str) : Prop := ∀ b S, b + t.length ≤ sizeLine → rpT 33 (m_Client___repr__ N) g_Client___repr___1_ d b x S = .ok t S
theorem piled_len (ts : List Str) (h : ts ≠ []) : (tupleText ts).length ≤ piled ts + 2 := by
  unfold tupleText
  rw [strLen_append, strLen_append]
  have e1 : ((("(" : String) : Str)).length = 1 := rfl
  have e3 : (((if ts.length == 1 then ",)" else ")" : String) : Str)).length ≤ 2 := by split <;> decide
  have := join_length_add ts h
  omega
theorem tt_len (ts : List Str) (m : Nat) (h : ∀ t, t ∈ ts → t.length ≤ m) : (tupleText ts).length ≤ ts.length * (m + 2) + 4 := by
  by_cases e : ts = []
  · subst e; show (2 : Nat) ≤ 0 * (m + 2) + 4; omega
  · have h1 := piled_len ts e
    have h2 : piled ts ≤ ts.length * (m + 2) := by
      clear h1 e
      induction ts with
      | nil => simp [piled]
      | cons t ts ih =>
        have a := h t (List.mem_cons_self ..)
        have b := ih fun u hu => h u (List.mem_cons_of_mem _ hu)
        rw [piled_cons, List.length_cons, Nat.add_mul]
        omega
    omega
theorem tx_list {N d : Nat} : ∀ (l : List D) (ts : List Str) (n : Nat) (S : Store), l.length = ts.length → (∀ p, p ∈ l.zip ts → Tx N d p.1 p.2) → n + piled ts ≤ sizeLine → rpL (rpT 33 (m_Client___repr__ N) g_Client___repr___1_ d) n l S = .ok ts S
  | [], [], n, S, _, _, _ => rfl
  | x :: l, t :: ts, n, S, hl, h, hs => by
    rw [piled_cons] at hs
    have h1 : Tx N d x t := h (x, t) (List.mem_cons_self ..)
    have ih := tx_list l ts (n + (t.length + 2)) S (by simpa using hl) (fun p hp => h p (List.mem_cons_of_mem _ hp)) (by omega)
    unfold rpL
    rw [h1 (n + 1) S (by omega)]
    show (rpL _ _ l S).bind _ = _
    rw [ih]; rfl
  | [], _ :: _, _, _, h, _, _ => by simp at h
  | _ :: _, [], _, _, h, _, _ => by simp at h
theorem tx_tup {N d : Nat} {l : List D} {ts : List Str} (hl : l.length = ts.length) (h : ∀ p, p ∈ l.zip ts → Tx N d p.1 p.2) : Tx N (d + 1) (.tup l) (tupleText ts) := by
  intro b S hb
  have hp := piled_le_tupleText ts
  unfold rpT
  rw [if_pos (by omega)]
  show (rpL _ b l S).bind rpE = _
  rw [tx_list l ts b S hl h (by omega)]
  show rpE ts S = _
  unfold rpE
  rw [if_pos (by omega)]
theorem tx_int {N d : Nat} {i : Int} (h : i.natAbs < 2 ^ 250) : Tx N (d + 1) (.int i) (S_ (numI i)) := by
  intro b S hb
  unfold rpT
  rw [if_pos (by omega)]
  show (if _ then _ else _) = _
  rw [str_I, if_pos ⟨log_small h, hb⟩]
theorem tx_rat {N d : Nat} {q : Rat} (h : Bt q 250) : Tx N (d + 2) (rD q) (tupleText [S_ (numI q.num), S_ (numI q.den)]) := by
  have hd : ((q.den : Int)).natAbs < 2 ^ 250 := by simpa using h.2
  refine tx_tup rfl ?_
  intro p hp
  simp only [List.zip_cons_cons, List.zip_nil_left, List.mem_cons, List.not_mem_nil, or_false] at hp
  rcases hp with rfl | rfl
  · exact tx_int h.1
  · exact tx_int hd
def qT (q : Rat) : Str := tupleText [S_ (numI q.num), S_ (numI q.den)]
theorem qT_len {q : Rat} (h : Bt q 250) : (qT q).length ≤ 200 := by
  have hd : ((q.den : Int)).natAbs < 2 ^ 250 := by simpa using h.2
  have l1 := numI_b h.1
  have l2 := numI_b hd
  refine Nat.le_trans (tt_len _ 77 ?_) (by simp only [List.length_cons, List.length_nil]; omega)
  intro t ht
  simp only [List.mem_cons, List.not_mem_nil, or_false] at ht
  rcases ht with rfl | rfl
  · rw [SX.S_len]; exact l1
  · rw [SX.S_len]; exact l2
def tgT (c g t : Rat) : Str := tupleText [qT c, qT g, qT t]
theorem tx_tags {N d : Nat} {c g t : Rat} (hc : Bt c 250) (hg : Bt g 250) (ht : Bt t 250) : Tx N (d + 3) (tD c g t) (tgT c g t) := by
  refine tx_tup rfl ?_
  intro p hp
  simp only [List.zip_cons_cons, List.zip_nil_left, List.mem_cons, List.not_mem_nil, or_false] at hp
  rcases hp with rfl | rfl | rfl
  · exact tx_rat hc
  · exact tx_rat hg
  · exact tx_rat ht
theorem tgT_len {c g t : Rat} (hc : Bt c 250) (hg : Bt g 250) (ht : Bt t 250) : (tgT c g t).length ≤ 650 := by
  refine Nat.le_trans (tt_len _ 200 ?_) (by simp only [List.length_cons, List.length_nil]; omega)
  intro x hx
  simp only [List.mem_cons, List.not_mem_nil, or_false] at hx
  rcases hx with rfl | rfl | rfl
  · exact qT_len hc
  · exact qT_len hg
  · exact qT_len ht
theorem tx_cli {N d : Nat} (hN : big N) {nm : List Nat} {l : Rat} {o : Option Rat} {h : Int} (hn : nm.length ≤ 8) (hl : Bt l 250) (ho : ∀ q, o = some q → Bt q 250) (hh : h.natAbs < 2 ^ 250) : Tx N (d + 1) (cD (S_ nm) l o h) (S_ (crL nm l o h)) := by
  intro b S hb
  unfold rpT
  rw [if_pos (by omega)]
  show rpO 33 (m_Client___repr__ N) g_Client___repr___1_ (cD (S_ nm) l o h) S = _
  unfold rpO
  have i1 : isCn 33 S (cD (S_ nm) l o h) = true := rfl
  have gg : g_Client___repr___1_ [cD (S_ nm) l o h] [] = [cD (S_ nm) l o h] := rfl
  rw [if_pos i1, gg, client_repr_ok hN hn hl ho hh S]; rfl
theorem tx_rv {N d : Nat} (hN : big N) {p : Str × Rw} (h : RwOk p.2) (hn : NmOk p) : ∃ t : Str, t.length ≤ 2000 ∧ Tx N (d + 4) (rvD p) t := by
  obtain ⟨cs, e, hl⟩ := hn.ex
  have hh : p.2.h.natAbs < 2 ^ 250 := by
    have h1 := h.k.h1
    have h9 := h.k.h9
    have : p.2.h.natAbs ≤ 99 := by omega
    exact Nat.lt_of_le_of_lt this (by decide)
  have hz : p.2.z.natAbs < 2 ^ 250 := by
    have h1 := h.z1
    have h9 := h.z9
    have : p.2.z.natAbs ≤ 999 := by omega
    exact Nat.lt_of_le_of_lt this (by decide)
  refine ⟨tupleText [S_ (numI p.2.z), S_ (crL cs p.2.l p.2.o p.2.h), tgT p.2.c p.2.g p.2.t], ?_, ?_⟩
  · refine Nat.le_trans (tt_len _ 650 ?_) ?_
    · intro x hx
      simp only [List.mem_cons, List.not_mem_nil, or_false] at hx
      rcases hx with rfl | rfl | rfl
      · rw [SX.S_len]; have := numI_b hz; omega
      · rw [SX.S_len]
        have := cli_len hl h.bl h.bo hh
        unfold crL
        have k1 : cr1.length = 7 := rfl
        simp only [List.length_append, List.length_cons, List.length_nil]
        omega
      · have := tgT_len h.bc h.bg h.bt
        omega
    · simp only [List.length_cons, List.length_nil]; omega
  · unfold rvD
    rw [e]
    refine tx_tup rfl ?_
    intro q hq
    simp only [List.zip_cons_cons, List.zip_nil_left, List.mem_cons, List.not_mem_nil, or_false] at hq
    rcases hq with rfl | rfl | rfl
    · exact tx_int hz
    · exact tx_cli hN hl h.bl h.bo hh
    · exact tx_tags h.bc h.bg h.bt
theorem rs_text {N : Nat} (hN : big N) : ∀ (rs : List (Str × Rw)), (∀ p, p ∈ rs → RwOk p.2) → (∀ p, p ∈ rs → NmOk p) → ∃ ts : List Str, (rs.map rvD).length = ts.length ∧ (∀ t, t ∈ ts → t.length ≤ 2000) ∧ ∀ q, q ∈ (rs.map rvD).zip ts → Tx N 6 q.1 q.2
  | [], _, _ => ⟨[], rfl, fun _ h => by simp at h, fun _ h => by simp at h⟩
  | p :: rs, h1, h2 => by
    obtain ⟨t, ht, tx⟩ := tx_rv (d := 2) hN (h1 p (List.mem_cons_self ..)) (h2 p (List.mem_cons_self ..))
    obtain ⟨ts, e, l, z⟩ := rs_text hN rs (fun q hq => h1 q (List.mem_cons_of_mem _ hq)) (fun q hq => h2 q (List.mem_cons_of_mem _ hq))
    refine ⟨t :: ts, by simpa using e, fun u hu => ?_, fun q hq => ?_⟩
    · rcases List.mem_cons.mp hu with rfl | hu
      · exact ht
      · exact l u hu
    · rw [List.map_cons, List.zip_cons_cons] at hq
      rcases List.mem_cons.mp hq with rfl | hq
      · exact tx
      · exact z q hq
theorem rsh_rv {p : Str × Rw} (S : Store) : rsh 33 5 (rvD p) S = true := rfl
theorem rs_repr {N : Nat} (hN : big N) {rs : List (Str × Rw)} (hl : rs.length ≤ 13) (h1 : ∀ p, p ∈ rs → RwOk p.2) (h2 : ∀ p, p ∈ rs → NmOk p) : ∃ t : Str, t.length ≤ 30000 ∧ ∀ (Q X : QP D) (S : Store), rtQ 33 (m_Client___repr__ N) g_Client___repr___1_ Q X (.tup (rs.map rvD)) S = Q (.str t) S := by
  obtain ⟨ts, e, l, z⟩ := rs_text hN rs h1 h2
  have e' : ts.length = rs.length := by rw [← e, List.length_map]
  have hs : (tupleText ts).length ≤ 30000 := Nat.le_trans (tt_len ts 2000 l) (by rw [e']; have := Nat.mul_le_mul_right 2002 hl; omega)
  have hp := piled_le_tupleText ts
  have hsl : sizeLine = 16777216 := by rw [sizeLine_eq]
  refine ⟨tupleText ts, hs, fun Q X S => ?_⟩
  have hsh : rsh 33 6 (.tup (rs.map rvD)) S = true := by
    show (rs.map rvD).all (fun y => rsh 33 5 y S) = true
    rw [List.all_eq_true]
    intro y hy
    obtain ⟨p, _, rfl⟩ := List.mem_map.mp hy
    exact rsh_rv S
  unfold rtQ
  show Wr (if _ then _ else _) Q X = _
  rw [if_pos hsh, tx_list _ ts 0 S e z (by omega)]
  show Wr ((rpE ts S).bind _) Q X = _
  unfold rpE
  rw [if_pos (by omega)]
  rfl
end Wk14
namespace Wk14
open PySem G C
local macro_rules | `(tactic| wp_walk using $ts,*) => `(tactic| try simp only [wr_ok, wr_exc, wr_lf, wr_eC, evQ_some, wr_eVar, cB2_s, cB1_s, wr_eBin, cS2_s, cS1_s, wr_eBinS, asQ_bl, wr_tB, truQ_s, wr_tT, notQ_s, wr_tNt, anQ_t, anQ_f, wr_tAn, orQ_t, orQ_f, wr_tOr, eaB_t, eaB_f, eaQ_s, wr_eAn, eoB_t, eoB_f, eoQ_s, wr_eOr, enB_s, enQ_s, wr_eNt, eiQ_t, eiQ_f, wr_eIf, negQ_int, wr_eNeg, wr_aNil, cC2_s, cC1_s, wr_aCons, tupQ_s, lstQ_s, newQ_s, wr_eTup, wr_eLst, wr_eNew, caQ_s, wr_eCa, clQ_s, wr_eCall, nAQ_s, wr_nA, tyQ_s, wr_eIsTy, icQ_s, wr_eIsC, mt2_s, mt1_s, wr_eMt, wr_oNone, oQ_int, wr_oSome, sl3_s, sl2_s, sl1_s, wr_eSl, kk2_s, kk1_s, wr_eCallK, kk0_s, wr_eCallK0, wr_gN, sb3_s, sb2_s, sb1_s, wr_gSb, wr_gsNil, gs1_s, wr_gsCons, wr_gTp, wr_gTp_rD, xe_s, sq_nx, sq_rt, sq_bk, sq_ct, sq_ex, sq_xe, ws_nxt, ws_sNop, ws_sSeq, ws_sBrk, ws_sCnt, dropQ_s, ws_sDrop, ws_sRet, ws_sRetN, ifQ_t, ifQ_f, ws_sIf, asg1_s, ws_sAsg, setQ_s, ws_sSet, parQ_s, ws_sPar, ws_sRaise, fn_nx, fn_rt, fn_ex, fn_xe, su_nx, su_bk, su_ct, su_rt, trQ_t, trQ_f, tr_nx, tr_rt, tr_bk, tr_ct, tr_ex, ws_sTry, forQ_s, ws_sFor, lp_nx, lp_rt, lp_bk, lp_ct, lp_ex, lp_xe, ws_fi_nil, bodyQ_s, mid_nx, mid_rt, mid_bk, mid_ct, mid_ex, mid_xe, lc2_s, lc1_s, wr_eLc, lcn2_s, lcn1_s, wr_eLcN, wipe_nil, wipe_cons, wr_tTrue, wr_lc_nil, tgQ_some, ly_s, lt1_t, lt1_f, lg_s, eqQ_s, exQ_s, seqQ_tup, seqQ_lst, seqQ_scr, seqQ_rD, wr_iSeq, rgQ_int, wr_iRg1, rgQ2_int, wr_iRg2, ch3_t, ch3_f, ch2_s, ch1_s, wr_eChain, flQ_s, wr_eFld, fldD_ins, stQ_s, sf2_s, sf1_s, ws_sFldM, mkQ2_s, mkQ1_s, wr_eMk, wr_eMk0, ap2_s, ap1_s, wr_eApp, zpQ_s, wr_iZip, zipR_tup, zipR_lst, srQ_s, wr_iStrM, strR_s, ioQ_s, wr_eIsO, dAddS_int, wr_gStr_tup, wr_gStr_lst, fTuple_lst, fTuple_tup, List.take_succ_cons, List.take_zero, List.drop_succ_cons, List.drop_zero, List.getElem?_cons_zero, List.getElem?_cons_succ, List.set_cons_zero, List.set_cons_succ, List.map_cons, List.map_nil, List.length_cons, List.length_nil, List.cons_append, List.nil_append, List.replicate_succ, List.replicate_zero, List.append_nil, true_and, and_true, and_self, if_true, ite_true, if_false, ite_false, Bool.false_eq_true, Bool.not_true, Bool.not_false, Bool.not_not, decide_true, decide_false, decide_eq_true_eq, not_false_eq_true, not_true_eq_false, reduceCtorEq, sizeLine_eq, Option.map_some, Option.some.injEq, Nat.reduceSub, Nat.reduceAdd, Nat.reduceLeDiff, Nat.reduceEqDiff, Nat.zero_add, Nat.reduceBEq, List.contains_cons, List.contains_nil, beq_self_eq_true, Bool.true_or, Bool.or_true, Bool.false_or, Bool.or_false, List.lookup_cons, List.lookup_nil, Int.reduceEq, Int.reduceNe, Int.reduceLT, Int.reduceLE, Int.reduceNeg, Int.reduceAdd, Int.reduceSub, Int.cast_ofNat_Int, ne_eq, cmpI_s, dGt, dGe, dLt, dLe, dAdd_int, dSub_int, dEq_int, dNe_int, dEq_bl, dNe_bl, truD_bl, isTy_int, isTy_bl, isTy_tup, fLen_tup, fLen_scr, fLen_lst, fAbs_int, fMax_int, fMin_int, ixD_tup, ixD_lst, ixD_scr, isTy_rD, fLen_rD, ix_rD0, ix_rD1, dEq_rD, dNe_rD, dIs_rD, dIsNot_rD, Tn.is, me3_s, me2_s, me1_s, wr_eMeth, mk2_s, mk1_s, wr_eMethK, m01_s, wr_eMeth0, wr_eNewD, dg3_s, dg2_s, dg1_s, wr_eDGet2, dh2_s, dh1_s, wr_eDGet1, dp3_s, dp2_s, dp1_s, wr_eDPop2, dq2_s, dq1_s, wr_eDPop1, se2_s, se1_s, wr_gSbE, ssQ_s, wr_eSortSet, an2_s, an1_s, wr_eAddN, celQ_tup, celQ_lst, celQ_scr, wr_iCel, forcQ_s, ws_sForC, lcc1_s, wr_eLcC, lcd1_s, wr_eLcCN, keyD_int, keyD_str, Option.isSome_some, fmQ_s, wr_eFmt, jsQ_str, wr_js_nil, wr_js_cons, wr_eJs, s4Q_str, soQ_s, wr_eStrO, dAddE_0, wr_eCallV, chQ_s, wr_eCallH, wr_lamF, oj_s, enuQ_s, wr_iEnum, enR_tup, enR_lst, lrQ_int, wr_eLr, lrnQ_int, wr_eLrN, agQ_s, auP_s, ws_sAug, augR_int, pp2_s, pp1_s, wr_ePop, wr_gSq_tup, wr_gSq_lst, lnQ_lst, lnQ_tup, wr_eListN, rvQ_lst, wr_eRev, rfQ_s, ws_sRaiseF, trG_nx, trG_rt, trG_bk, trG_ct, trG_ex, ws_sTryG, ws_hd_nil, hdP_t, hdP_f, ws_hd_cons, setO_some, setO_none, ws_suS, suN_nx, suN_rt, suN_bk, suN_ct, ws_suN, iyQ_s, wr_eIsY, isY_exc, fyQ_s, wr_eFldY, fldY_exc, toQ_s, wr_eIsTyO, isTyO_tup, isTyO_lst, isTyO_int, tm2_s, tm1_s, wr_eTm, rgQN_int, wr_iRgN, $[$ts:term],*])
structure Tb (S : Store) : Prop where
  a : S[0]? = some (.tbl mk__law_choice_of.1 mk__law_choice_of.2)
  b : S[1]? = some (.tbl mk_picked_of.1 mk_picked_of.2)
theorem Tb.fr {S S' : Store} {n : Nat} (T : Tb S) (F : Fr n S S') (h : 2 ≤ n) : Tb S' := ⟨F.get T.a (by omega), F.get T.b (by omega)⟩
theorem Tb.app {S : Store} (T : Tb S) (c : Store) : Tb (S ++ c) := ⟨by rw [List.getElem?_append_left (List.getElem?_eq_some_iff.mp T.a).1]; exact T.a, by rw [List.getElem?_append_left (List.getElem?_eq_some_iff.mp T.b).1]; exact T.b⟩
theorem Tb.t0 {S : Store} (T : Tb S) : tbS 0 mk__law_choice_of.1 mk__law_choice_of.2 S = true := tbS_of T.a
theorem Tb.t1 {S : Store} (T : Tb S) : tbS 1 mk_picked_of.1 mk_picked_of.2 S = true := tbS_of T.b
theorem cmp_ws : Cmp (.str "least") ∧ Cmp (.str "share") ∧ Cmp (.str "none") := ⟨cmp_str (by decide +kernel), cmp_str (by decide +kernel), cmp_str (by decide +kernel)⟩
theorem cmp_non : Cmp .non := ⟨_, rfl, rfl, Nat.le_of_ble_eq_true rfl⟩
theorem tup_same {l : List D} (h : ∀ d, d ∈ l → Cmp d) : dNe (.tup l) (.tup l) = some (.bl false) := by
  obtain ⟨ps, h1, h2, h3, h4⟩ := toPs_ok l h
  have e1 : (D.tup l).toP = some (.tuple ps) := by unfold D.toP; rw [h1]; rfl
  have s0 : PyData.canLay0 (.tuple ps) = true := by simpa [PyData.canLay0] using h2
  have s1 : SeqAt.shaped (.tuple ps) = true := by
    unfold SeqAt.shaped
    rw [Bool.and_eq_true, decide_eq_true_eq]
    exact ⟨s0, by simp only [PyData.depth]; omega⟩
  have e : eqP (.tup l) (.tup l) = some true := by
    unfold eqP
    rw [e1]
    dsimp only
    rw [s1]
    simp only [Bool.and_self, if_true]
    rw [eqv_self _ s0]
  show (eqP _ _).map _ = _
  rw [e]; rfl
theorem cmp_next (qs : List Rat) : Cmp (nextD qs) := by
  cases qs with
  | nil => exact cmp_non
  | cons q qs => exact cmp_rD _
theorem pick_same (rows : List Rw) (now pace : Rat) : dNe (pickK rows now pace).d (pickK rows now pace).d = some (.bl false) := by
  obtain ⟨c1, c2, c3⟩ := cmp_ws
  have two : ∀ a b : D, Cmp a → Cmp b → dNe (.tup [a, b]) (.tup [a, b]) = some (.bl false) := fun a b h1 h2 => tup_same (l := [a, b]) fun d hd => by
    simp only [List.mem_cons, List.not_mem_nil, or_false] at hd
    rcases hd with rfl | rfl
    · exact h1
    · exact h2
  unfold pickK
  split
  · exact two _ _ c1 (cmp_int _)
  · split
    · exact two _ _ c2 (cmp_int _)
    · exact two _ _ c3 (cmp_next _)
theorem pick_form (rows : List Rw) (now pace : Rat) : ∃ a d : D, (pickK rows now pace).d = .tup [a, d] ∧ ∀ S, isTy S .bool d = some false := by
  unfold pickK
  split
  · exact ⟨_, _, rfl, fun S => rfl⟩
  · split
    · exact ⟨_, _, rfl, fun S => rfl⟩
    · refine ⟨_, _, rfl, fun S => ?_⟩
      cases hs : spots rows with
      | nil => rfl
      | cons q qs => rfl
theorem right_w {N : Nat} (hN : big N) {S : Store} {m : Nat} {rows : List Rw} {now pace : Rat} {Q X : QP D} (T : Tb S) (hr : ∀ r, r ∈ rows → RwOk r) (hl : rows.length ≤ 12) (bn : Bt now 250) (bp : Bt pace 250) (n0 : 0 ≤ now) (p0 : 0 ≤ pace) (hS : S[m]? = some (.lst (rows.map rwD)))
    (h : ∀ c, Q (.bl true) (S ++ c)) : Wr (m__law_right N [.loc m, rD now, rD pace] S) Q X := by
  have hm := (List.getElem?_eq_some_iff.mp hS).1
  rw [m__law_right, wr_fnM, b__law_right]
  wp_walk using wr_ok
  refine told_w hN hr (by omega) hS fun rs c hrs hnm => ?_
  have hrs' : ∀ p, p ∈ rs → RwOk p.2 := fun p hp => hr p.2 (by rw [← hrs]; exact List.mem_map_of_mem hp)
  have hrl : rs.length = rows.length := by rw [← hrs, List.length_map]
  obtain ⟨tx, tl, ht⟩ := rs_repr hN (rs := rs) (by omega) hrs' hnm
  have hS1 : (S ++ c)[m]? = some (.lst (rows.map rwD)) := by rw [List.getElem?_append_left hm]; exact hS
  have ch := choice_ok (S := S ++ c) (pace := pace) hN hr (by omega) bn bp hS1 (T.app c).t0
  have hps := pick_same rows now pace
  obtain ⟨a, d, hd, nb⟩ := pick_form rows now pace
  wp_walk using wr_eReprT, ht, ch
  refine picked_w hN hrs' (by omega) bn bp n0 p0 (T.app c).t1 fun c1 => ?_
  rw [hrs]
  wp_walk using g_picked_0_pace_now_rivals, List.getD_cons_zero, List.getD_cons_succ
  refine picked_w hN hrs' (by omega) bn bp n0 p0 ((T.app c).app c1).t1 fun c2 => ?_
  rw [hrs]
  wp_walk using wr_ok
  refine for_i (fun e S' => S' = S ++ c ++ c1 ++ c2 ∧ ∃ x6, e = [some (.loc m), some (rD now), some (rD pace), some (.tup (rs.map rvD)), some (.str tx), some (pickK rows now pace).d, x6]) ⟨rfl, _, rfl⟩ ?_ ?_
  · rintro y e S' hy ⟨rfl, x6, rfl⟩
    obtain rfl : y = (pickK rows now pace).d := by
      simp only [List.mem_cons, List.not_mem_nil, or_false] at hy
      rcases hy with rfl | rfl <;> rfl
    have i1 : ∀ S, ixD S (.tup [a, d]) (.int 1) = some d := fun _ => rfl
    have tt : ∀ S, isTy S .tuple (.tup [a, d]) = some true := fun _ => rfl
    rw [hd] at hps ⊢
    wp_walk using tt, hps, i1, nb
    exact ⟨_, rfl⟩
  · rintro e S' ⟨rfl, x6, rfl⟩
    have es : dEq (.str tx) (.str tx) = some (.bl true) := by rw [dEq_str]; simp
    wp_walk using wr_eReprT, ht, es
    have := h (c ++ c1 ++ c2)
    simpa [List.append_assoc] using this
end Wk14
namespace Wk14
open PySem G C
local macro_rules | `(tactic| wp_walk using $ts,*) => `(tactic| try simp only [wr_ok, wr_exc, wr_lf, wr_eC, evQ_some, wr_eVar, cB2_s, cB1_s, wr_eBin, cS2_s, cS1_s, wr_eBinS, asQ_bl, wr_tB, truQ_s, wr_tT, notQ_s, wr_tNt, anQ_t, anQ_f, wr_tAn, orQ_t, orQ_f, wr_tOr, eaB_t, eaB_f, eaQ_s, wr_eAn, eoB_t, eoB_f, eoQ_s, wr_eOr, enB_s, enQ_s, wr_eNt, eiQ_t, eiQ_f, wr_eIf, negQ_int, wr_eNeg, wr_aNil, cC2_s, cC1_s, wr_aCons, tupQ_s, lstQ_s, newQ_s, wr_eTup, wr_eLst, wr_eNew, caQ_s, wr_eCa, clQ_s, wr_eCall, nAQ_s, wr_nA, tyQ_s, wr_eIsTy, icQ_s, wr_eIsC, mt2_s, mt1_s, wr_eMt, wr_oNone, oQ_int, wr_oSome, sl3_s, sl2_s, sl1_s, wr_eSl, kk2_s, kk1_s, wr_eCallK, kk0_s, wr_eCallK0, wr_gN, sb3_s, sb2_s, sb1_s, wr_gSb, wr_gsNil, gs1_s, wr_gsCons, wr_gTp, wr_gTp_rD, xe_s, sq_nx, sq_rt, sq_bk, sq_ct, sq_ex, sq_xe, ws_nxt, ws_sNop, ws_sSeq, ws_sBrk, ws_sCnt, dropQ_s, ws_sDrop, ws_sRet, ws_sRetN, ifQ_t, ifQ_f, ws_sIf, asg1_s, ws_sAsg, setQ_s, ws_sSet, parQ_s, ws_sPar, ws_sRaise, fn_nx, fn_rt, fn_ex, fn_xe, su_nx, su_bk, su_ct, su_rt, trQ_t, trQ_f, tr_nx, tr_rt, tr_bk, tr_ct, tr_ex, ws_sTry, forQ_s, ws_sFor, lp_nx, lp_rt, lp_bk, lp_ct, lp_ex, lp_xe, ws_fi_nil, bodyQ_s, mid_nx, mid_rt, mid_bk, mid_ct, mid_ex, mid_xe, lc2_s, lc1_s, wr_eLc, lcn2_s, lcn1_s, wr_eLcN, wipe_nil, wipe_cons, wr_tTrue, wr_lc_nil, tgQ_some, ly_s, lt1_t, lt1_f, lg_s, eqQ_s, exQ_s, seqQ_tup, seqQ_lst, seqQ_scr, seqQ_rD, wr_iSeq, rgQ_int, wr_iRg1, rgQ2_int, wr_iRg2, ch3_t, ch3_f, ch2_s, ch1_s, wr_eChain, flQ_s, wr_eFld, fldD_ins, stQ_s, sf2_s, sf1_s, ws_sFldM, mkQ2_s, mkQ1_s, wr_eMk, wr_eMk0, ap2_s, ap1_s, wr_eApp, zpQ_s, wr_iZip, zipR_tup, zipR_lst, srQ_s, wr_iStrM, strR_s, ioQ_s, wr_eIsO, dAddS_int, wr_gStr_tup, wr_gStr_lst, fTuple_lst, fTuple_tup, List.take_succ_cons, List.take_zero, List.drop_succ_cons, List.drop_zero, List.getElem?_cons_zero, List.getElem?_cons_succ, List.set_cons_zero, List.set_cons_succ, List.map_cons, List.map_nil, List.length_cons, List.length_nil, List.cons_append, List.nil_append, List.replicate_succ, List.replicate_zero, List.append_nil, true_and, and_true, and_self, if_true, ite_true, if_false, ite_false, Bool.false_eq_true, Bool.not_true, Bool.not_false, Bool.not_not, decide_true, decide_false, decide_eq_true_eq, not_false_eq_true, not_true_eq_false, reduceCtorEq, sizeLine_eq, Option.map_some, Option.some.injEq, Nat.reduceSub, Nat.reduceAdd, Nat.reduceLeDiff, Nat.reduceEqDiff, Nat.zero_add, Nat.reduceBEq, List.contains_cons, List.contains_nil, beq_self_eq_true, Bool.true_or, Bool.or_true, Bool.false_or, Bool.or_false, List.lookup_cons, List.lookup_nil, Int.reduceEq, Int.reduceNe, Int.reduceLT, Int.reduceLE, Int.reduceNeg, Int.reduceAdd, Int.reduceSub, Int.cast_ofNat_Int, ne_eq, cmpI_s, dGt, dGe, dLt, dLe, dAdd_int, dSub_int, dEq_int, dNe_int, dEq_bl, dNe_bl, truD_bl, isTy_int, isTy_bl, isTy_tup, fLen_tup, fLen_scr, fLen_lst, fAbs_int, fMax_int, fMin_int, ixD_tup, ixD_lst, ixD_scr, isTy_rD, fLen_rD, ix_rD0, ix_rD1, dEq_rD, dNe_rD, dIs_rD, dIsNot_rD, Tn.is, me3_s, me2_s, me1_s, wr_eMeth, mk2_s, mk1_s, wr_eMethK, m01_s, wr_eMeth0, wr_eNewD, dg3_s, dg2_s, dg1_s, wr_eDGet2, dh2_s, dh1_s, wr_eDGet1, dp3_s, dp2_s, dp1_s, wr_eDPop2, dq2_s, dq1_s, wr_eDPop1, se2_s, se1_s, wr_gSbE, ssQ_s, wr_eSortSet, an2_s, an1_s, wr_eAddN, celQ_tup, celQ_lst, celQ_scr, wr_iCel, forcQ_s, ws_sForC, lcc1_s, wr_eLcC, lcd1_s, wr_eLcCN, keyD_int, keyD_str, Option.isSome_some, fmQ_s, wr_eFmt, jsQ_str, wr_js_nil, wr_js_cons, wr_eJs, s4Q_str, soQ_s, wr_eStrO, dAddE_0, wr_eCallV, chQ_s, wr_eCallH, wr_lamF, oj_s, enuQ_s, wr_iEnum, enR_tup, enR_lst, lrQ_int, wr_eLr, lrnQ_int, wr_eLrN, agQ_s, auP_s, ws_sAug, augR_int, pp2_s, pp1_s, wr_ePop, wr_gSq_tup, wr_gSq_lst, lnQ_lst, lnQ_tup, wr_eListN, rvQ_lst, wr_eRev, rfQ_s, ws_sRaiseF, trG_nx, trG_rt, trG_bk, trG_ct, trG_ex, ws_sTryG, ws_hd_nil, hdP_t, hdP_f, ws_hd_cons, setO_some, setO_none, ws_suS, suN_nx, suN_rt, suN_bk, suN_ct, ws_suN, iyQ_s, wr_eIsY, isY_exc, fyQ_s, wr_eFldY, fldY_exc, toQ_s, wr_eIsTyO, isTyO_tup, isTyO_lst, isTyO_int, tm2_s, tm1_s, wr_eTm, rgQN_int, wr_iRgN, $[$ts:term],*])
theorem z13 : D.tup [.int 1, .int 3] = rD (Rat.divInt 1 3) := rfl
theorem bt_third : Bt (Rat.divInt 1 3) 5 := bt_div (m := 0) (by decide) (by decide) (by decide)
def rwLater (now : Rat) (r : Rw) : Rw := { r with o := some (r.o.getD 1), c := r.c + (now + Rat.divInt 1 3), g := r.g + (now + Rat.divInt 1 2) }
theorem bt_add {p q : Rat} {n m k : Nat} (h : Bt p n) (h' : Bt q m) (hk : n + m + 1 ≤ k := by omega) : Bt (p + q) k := (h.add h').mono hk
theorem later_ok {now : Rat} {r : Rw} (h : RwS r) (bn : Bt now 20) (n0 : 0 ≤ now) : RwOk (rwLater now r) := by
  have t3 : (0 : Rat) ≤ Rat.divInt 1 3 := by decide +kernel
  have t2 : (0 : Rat) ≤ Rat.divInt 1 2 := by decide +kernel
  have o := h.ok
  refine ⟨⟨o.k.l0, o.k.l1, ?_, o.k.h1, o.k.h9⟩, o.z1, o.z9, o.bl, ?_, ?_, ?_, o.bt, ?_, ?_, o.t0⟩
  · intro q hq
    cases e : r.o with
    | none =>
      have : q = 1 := by simpa [rwLater, e] using hq.symm
      subst this
      exact ⟨by decide, by decide, o.k.l1⟩
    | some q' =>
      have : q = q' := by simpa [rwLater, e] using hq.symm
      subst this
      exact o.k.o1 q e
  · intro q hq
    cases e : r.o with
    | none =>
      have : q = 1 := by simpa [rwLater, e] using hq.symm
      subst this
      exact bt_1.mono (by omega)
    | some q' =>
      have : q = q' := by simpa [rwLater, e] using hq.symm
      subst this
      exact o.bo q e
  · exact bt_add h.c (bt_add (k := 26) bn bt_third)
  · exact bt_add h.g (bt_add (k := 26) bn bt_half)
  · exact Rat.add_nonneg o.c0 (Rat.add_nonneg n0 t3)
  · exact Rat.add_nonneg o.g0 (Rat.add_nonneg n0 t2)
theorem later_w {N : Nat} (hN : big N) {S : Store} {m : Nat} {rows : List Rw} {now : Rat} {Q X : QP D} (hr : ∀ r, r ∈ rows → RwS r) (hl : rows.length ≤ 12) (bn : Bt now 20) (hS : S[m]? = some (.lst (rows.map rwD)))
    (h : Q (.loc S.length) (S ++ [.lst ((rows.map (rwLater now)).map rwD)])) : Wr (m__law_later N [.loc m, rD now] S) Q X := by
  have hm := (List.getElem?_eq_some_iff.mp hS).1
  have hS' : ∀ c, (S ++ c)[m]? = some (.lst (rows.map rwD)) := fun c => by rw [List.getElem?_append_left hm]; exact hS
  rw [m__law_later, wr_fnM, b__law_later]
  wp_walk using celQ_loc (hS' _)
  refine forC_w (fun i e S' => i ≤ rows.length ∧ S' = S ++ [.lst (((rows.take i).map (rwLater now)).map rwD)] ∧ ∃ x3 x4 x5 x6 x7 x8, e = [some (.loc m), some (rD now), some (.loc S.length), x3, x4, x5, x6, x7, x8]) ⟨Nat.zero_le _, rfl, _, _, _, _, _, _, rfl⟩ (fun _ _ _ z => by rw [z.2.1]; exact hS' _) ?_ ?_
  · rintro i d e S' hd ⟨hi, rfl, x3, x4, x5, x6, x7, x8, rfl⟩
    rw [List.getElem?_map] at hd
    obtain ⟨r, hr2, rfl⟩ := Option.map_eq_some_iff.mp hd
    have hlt : i < rows.length := (List.getElem?_eq_some_iff.mp hr2).1
    have ok := hr r (List.mem_of_getElem? hr2)
    have e1 := fun S => ladd_ok (S := S) hN bn bt_third (by omega)
    have e2 := fun S => ladd_ok (S := S) hN bn bt_half (by omega)
    have f1 := fun S => ladd_ok (S := S) hN ok.c (bt_add (k := 26) bn bt_third) (by omega)
    have f2 := fun S => ladd_ok (S := S) hN ok.g (bt_add (k := 26) bn bt_half) (by omega)
    have hz : (((rows.take i).map (rwLater now)).map rwD).length < sizeLine := by rw [sizeLine_eq, List.length_map, List.length_map, List.length_take]; omega
    have hlst : (S ++ [Cell.lst (((rows.take i).map (rwLater now)).map rwD)])[S.length]? = some (.lst (((rows.take i).map (rwLater now)).map rwD)) := by simp
    have et : ((rows.take (i + 1)).map (rwLater now)).map rwD = ((rows.take i).map (rwLater now)).map rwD ++ [rwD (rwLater now r)] := by rw [List.take_add_one, hr2]; simp
    wp_walk using wr_gSq_rw, ix_tD0, ix_tD1, ix_tD2, z13, z12, e1, e2, f1, f2, isLst_loc hlst
    cases ho : r.o with
    | none =>
      have d0 : dIs (oD none) .non = some (.bl true) := rfl
      wp_walk using d0, appR_loc hlst hz, List.set_append_right, Nat.le_refl, Nat.sub_self
      refine ⟨hlt, ?_, _, _, _, _, _, _, rfl⟩
      rw [et]
      simp only [rwLater, ho]
      rfl
    | some q =>
      have d0 : dIs (oD (some q)) .non = some (.bl false) := rfl
      wp_walk using d0, appR_loc hlst hz, List.set_append_right, Nat.le_refl, Nat.sub_self
      refine ⟨hlt, ?_, _, _, _, _, _, _, rfl⟩
      rw [et]
      simp only [rwLater, ho]
      rfl
  · rintro e S' ⟨hi, rfl, x3, x4, x5, x6, x7, x8, rfl⟩
    rw [List.length_map, List.take_length]
    wp_walk using wr_ok
    exact h
def farZ : Int := 1000000000000000000000000000000
def farR : Rat := Rat.ofInt farZ
theorem z_far : D.tup [.int farZ, .int 1] = rD farR := rfl
theorem pow_far : dPow (.int 10) (.int 30) = some (.int farZ) := by rfl
theorem bt_far : Bt farR 101 := by constructor <;> decide +kernel
theorem far_nn : (0 : Rat) ≤ farR := by decide +kernel
def rwFar (r : Rw) : Rw := { r with c := r.c + farR, g := r.g + farR, t := r.t + farR }
theorem far_ok {r : Rw} (h : RwS r) : RwOk (rwFar r) := by
  have o := h.ok
  exact ⟨o.k, o.z1, o.z9, o.bl, o.bo, bt_add h.c bt_far, bt_add h.g bt_far, bt_add h.t bt_far, Rat.add_nonneg o.c0 far_nn, Rat.add_nonneg o.g0 far_nn, Rat.add_nonneg o.t0 far_nn⟩
theorem far_w {N : Nat} (hN : big N) {S : Store} {m : Nat} {rows : List Rw} {Q X : QP D} (hr : ∀ r, r ∈ rows → RwS r) (hl : rows.length ≤ 12) (hS : S[m]? = some (.lst (rows.map rwD)))
    (h : Q (.loc S.length) (S ++ [.lst ((rows.map rwFar).map rwD)])) : Wr (m__law_far N [.loc m] S) Q X := by
  have hm := (List.getElem?_eq_some_iff.mp hS).1
  have hS' : ∀ c, (S ++ c)[m]? = some (.lst (rows.map rwD)) := fun c => by rw [List.getElem?_append_left hm]; exact hS
  rw [m__law_far, wr_fnM, b__law_far]
  wp_walk using pow_far, z_far, wr_gSq_tup, celQ_loc (hS' _)
  refine forC_w (fun i e S' => i ≤ rows.length ∧ S' = S ++ [.lst (((rows.take i).map rwFar).map rwD)] ∧ ∃ x3 x4 x5 x6 x7, e = [some (.loc m), some (.loc S.length), some (rD farR), x3, x4, x5, x6, x7, none]) ⟨Nat.zero_le _, rfl, _, _, _, _, _, rfl⟩ (fun _ _ _ z => by rw [z.2.1]; exact hS' _) ?_ ?_
  · rintro i d e S' hd ⟨hi, rfl, x3, x4, x5, x6, x7, rfl⟩
    rw [List.getElem?_map] at hd
    obtain ⟨r, hr2, rfl⟩ := Option.map_eq_some_iff.mp hd
    have hlt : i < rows.length := (List.getElem?_eq_some_iff.mp hr2).1
    have ok := hr r (List.mem_of_getElem? hr2)
    have f1 := fun S => ladd_ok (S := S) hN ok.c bt_far (by omega)
    have f2 := fun S => ladd_ok (S := S) hN ok.g bt_far (by omega)
    have f3 := fun S => ladd_ok (S := S) hN ok.t bt_far (by omega)
    have hz : (((rows.take i).map rwFar).map rwD).length < sizeLine := by rw [sizeLine_eq, List.length_map, List.length_map, List.length_take]; omega
    have hlst : (S ++ [Cell.lst (((rows.take i).map rwFar).map rwD)])[S.length]? = some (.lst (((rows.take i).map rwFar).map rwD)) := by simp
    have et : ((rows.take (i + 1)).map rwFar).map rwD = ((rows.take i).map rwFar).map rwD ++ [rwD (rwFar r)] := by rw [List.take_add_one, hr2]; simp
    have ft : ∀ S (a b c : D), fTuple S [.lst [a, b, c]] = some (.tup [a, b, c]) := fun _ _ _ _ => rfl
    have gm : ∀ (d : D) (e : En), Tg.m (.nm 8) d e = some (e.set 8 (some d)) := fun _ _ => rfl
    have tl : tD r.c r.g r.t = .tup [rD r.c, rD r.g, rD r.t] := rfl
    wp_walk using wr_gSq_rw, isLst_loc hlst, tl, wr_lc_cons, lcI_s, gm, f1, f2, f3, ft, Nat.reduceLT, Nat.lt_add_one, Nat.zero_lt_succ, appR_loc hlst hz, List.set_append_right, Nat.le_refl, Nat.sub_self
    refine ⟨hlt, ?_, _, _, _, _, _, rfl⟩
    rw [et]
    rfl
  · rintro e S' ⟨hi, rfl, x3, x4, x5, x6, x7, rfl⟩
    rw [List.length_map, List.take_length]
    wp_walk using wr_ok
    exact h
end Wk14
namespace Wk14
open PySem G C
local macro_rules | `(tactic| wp_walk using $ts,*) => `(tactic| try simp only [wr_ok, wr_exc, wr_lf, wr_eC, evQ_some, wr_eVar, cB2_s, cB1_s, wr_eBin, cS2_s, cS1_s, wr_eBinS, asQ_bl, wr_tB, truQ_s, wr_tT, notQ_s, wr_tNt, anQ_t, anQ_f, wr_tAn, orQ_t, orQ_f, wr_tOr, eaB_t, eaB_f, eaQ_s, wr_eAn, eoB_t, eoB_f, eoQ_s, wr_eOr, enB_s, enQ_s, wr_eNt, eiQ_t, eiQ_f, wr_eIf, negQ_int, wr_eNeg, wr_aNil, cC2_s, cC1_s, wr_aCons, tupQ_s, lstQ_s, newQ_s, wr_eTup, wr_eLst, wr_eNew, caQ_s, wr_eCa, clQ_s, wr_eCall, nAQ_s, wr_nA, tyQ_s, wr_eIsTy, icQ_s, wr_eIsC, mt2_s, mt1_s, wr_eMt, wr_oNone, oQ_int, wr_oSome, sl3_s, sl2_s, sl1_s, wr_eSl, kk2_s, kk1_s, wr_eCallK, kk0_s, wr_eCallK0, wr_gN, sb3_s, sb2_s, sb1_s, wr_gSb, wr_gsNil, gs1_s, wr_gsCons, wr_gTp, wr_gTp_rD, xe_s, sq_nx, sq_rt, sq_bk, sq_ct, sq_ex, sq_xe, ws_nxt, ws_sNop, ws_sSeq, ws_sBrk, ws_sCnt, dropQ_s, ws_sDrop, ws_sRet, ws_sRetN, ifQ_t, ifQ_f, ws_sIf, asg1_s, ws_sAsg, setQ_s, ws_sSet, parQ_s, ws_sPar, ws_sRaise, fn_nx, fn_rt, fn_ex, fn_xe, su_nx, su_bk, su_ct, su_rt, trQ_t, trQ_f, tr_nx, tr_rt, tr_bk, tr_ct, tr_ex, ws_sTry, forQ_s, ws_sFor, lp_nx, lp_rt, lp_bk, lp_ct, lp_ex, lp_xe, ws_fi_nil, bodyQ_s, mid_nx, mid_rt, mid_bk, mid_ct, mid_ex, mid_xe, lc2_s, lc1_s, wr_eLc, lcn2_s, lcn1_s, wr_eLcN, wipe_nil, wipe_cons, wr_tTrue, wr_lc_nil, tgQ_some, ly_s, lt1_t, lt1_f, lg_s, eqQ_s, exQ_s, seqQ_tup, seqQ_lst, seqQ_scr, seqQ_rD, wr_iSeq, rgQ_int, wr_iRg1, rgQ2_int, wr_iRg2, ch3_t, ch3_f, ch2_s, ch1_s, wr_eChain, flQ_s, wr_eFld, fldD_ins, stQ_s, sf2_s, sf1_s, ws_sFldM, mkQ2_s, mkQ1_s, wr_eMk, wr_eMk0, ap2_s, ap1_s, wr_eApp, zpQ_s, wr_iZip, zipR_tup, zipR_lst, srQ_s, wr_iStrM, strR_s, ioQ_s, wr_eIsO, dAddS_int, wr_gStr_tup, wr_gStr_lst, fTuple_lst, fTuple_tup, List.take_succ_cons, List.take_zero, List.drop_succ_cons, List.drop_zero, List.getElem?_cons_zero, List.getElem?_cons_succ, List.set_cons_zero, List.set_cons_succ, List.map_cons, List.map_nil, List.length_cons, List.length_nil, List.cons_append, List.nil_append, List.replicate_succ, List.replicate_zero, List.append_nil, true_and, and_true, and_self, if_true, ite_true, if_false, ite_false, Bool.false_eq_true, Bool.not_true, Bool.not_false, Bool.not_not, decide_true, decide_false, decide_eq_true_eq, not_false_eq_true, not_true_eq_false, reduceCtorEq, sizeLine_eq, Option.map_some, Option.some.injEq, Nat.reduceSub, Nat.reduceAdd, Nat.reduceLeDiff, Nat.reduceEqDiff, Nat.zero_add, Nat.reduceBEq, List.contains_cons, List.contains_nil, beq_self_eq_true, Bool.true_or, Bool.or_true, Bool.false_or, Bool.or_false, List.lookup_cons, List.lookup_nil, Int.reduceEq, Int.reduceNe, Int.reduceLT, Int.reduceLE, Int.reduceNeg, Int.reduceAdd, Int.reduceSub, Int.cast_ofNat_Int, ne_eq, cmpI_s, dGt, dGe, dLt, dLe, dAdd_int, dSub_int, dEq_int, dNe_int, dEq_bl, dNe_bl, truD_bl, isTy_int, isTy_bl, isTy_tup, fLen_tup, fLen_scr, fLen_lst, fAbs_int, fMax_int, fMin_int, ixD_tup, ixD_lst, ixD_scr, isTy_rD, fLen_rD, ix_rD0, ix_rD1, dEq_rD, dNe_rD, dIs_rD, dIsNot_rD, Tn.is, me3_s, me2_s, me1_s, wr_eMeth, mk2_s, mk1_s, wr_eMethK, m01_s, wr_eMeth0, wr_eNewD, dg3_s, dg2_s, dg1_s, wr_eDGet2, dh2_s, dh1_s, wr_eDGet1, dp3_s, dp2_s, dp1_s, wr_eDPop2, dq2_s, dq1_s, wr_eDPop1, se2_s, se1_s, wr_gSbE, ssQ_s, wr_eSortSet, an2_s, an1_s, wr_eAddN, celQ_tup, celQ_lst, celQ_scr, wr_iCel, forcQ_s, ws_sForC, lcc1_s, wr_eLcC, lcd1_s, wr_eLcCN, keyD_int, keyD_str, Option.isSome_some, fmQ_s, wr_eFmt, jsQ_str, wr_js_nil, wr_js_cons, wr_eJs, s4Q_str, soQ_s, wr_eStrO, dAddE_0, wr_eCallV, chQ_s, wr_eCallH, wr_lamF, oj_s, enuQ_s, wr_iEnum, enR_tup, enR_lst, lrQ_int, wr_eLr, lrnQ_int, wr_eLrN, agQ_s, auP_s, ws_sAug, augR_int, pp2_s, pp1_s, wr_ePop, wr_gSq_tup, wr_gSq_lst, lnQ_lst, lnQ_tup, wr_eListN, rvQ_lst, wr_eRev, rfQ_s, ws_sRaiseF, trG_nx, trG_rt, trG_bk, trG_ct, trG_ex, ws_sTryG, ws_hd_nil, hdP_t, hdP_f, ws_hd_cons, setO_some, setO_none, ws_suS, suN_nx, suN_rt, suN_bk, suN_ct, ws_suN, iyQ_s, wr_eIsY, isY_exc, fyQ_s, wr_eFldY, fldY_exc, toQ_s, wr_eIsTyO, isTyO_tup, isTyO_lst, isTyO_int, tm2_s, tm1_s, wr_eTm, rgQN_int, wr_iRgN, $[$ts:term],*])
def rnQ (Q : QP D) : QP D := fun d S => match seqD S d with
  | some l => Q (.loc S.length) (S ++ [.lst l.reverse])
  | none => False
theorem wr_eRevN {Q X : QP D} {a : EM} {e : En} {S : Store} : Wr (eRevN a e S) Q X = Wr (a e S) (rnQ Q) X := by
  unfold eRevN
  rw [wr_bind]
  congr; funext d S1
  unfold rnQ
  rw [wr_bind]
  cases seqD S1 d <;> rfl
theorem rnQ_loc {Q : QP D} {S : Store} {n : Nat} {l : List D} (h : S[n]? = some (.lst l)) : rnQ Q (.loc n) S = Q (.loc S.length) (S ++ [.lst l.reverse]) := by
  unfold rnQ seqD; simp only [h]
theorem plain : ∀ ns : List Int, ns.length ≤ 63 → ∃ N S, m_law N [.scr (ns.map .int)] (st0 tsL) = .ok (.bl true) S := by
  intro ns hl
  refine ⟨2 ^ 9000, ?_⟩
  have hN : big (2 ^ 9000) := Nat.le_refl _
  generalize 2 ^ 9000 = N at hN ⊢
  have T0 : Tb (st0 tsL) := ⟨rfl, rfl⟩
  generalize st0 tsL = S0 at T0
  suffices h : Wr (m_law N [.scr (ns.map .int)] S0) (fun d _ => d = .bl true) nX by
    obtain ⟨d, S, e, rfl⟩ := of_w h
    exact ⟨S, e⟩
  rw [m_law, wr_fnM, b_law]
  wp_walk using List.length_map
  obtain ⟨j, hj, j0, j1⟩ := cells (l := (ns.length : Int)) (n := 6) (by omega) (by omega) (by omega)
  rw [hj]
  refine ⟨by omega, ?_⟩
  refine for_i (fun e S' => Tb S' ∧ ∃ x1 x2 x3 x4 x5 x6, e = [some (.scr (ns.map .int)), x1, x2, x3, x4, x5, x6]) ⟨T0, _, _, _, _, _, _, rfl⟩ ?_ (fun e S' _ => rfl)
  rintro d e S hd ⟨T, x1, x2, x3, x4, x5, x6, rfl⟩
  obtain ⟨k, rfl, k0, k1⟩ := range_mem hd
  wp_walk using wr_ok
  refine cell_w N ns k k0 (by omega) fun x => ?_
  wp_walk using wr_ok
  refine pool_w N x fun c P => ?_
  have F0 : Fr S.length S (S ++ [c]) := Fr.app _
  have h2 : 2 ≤ S.length := (List.getElem?_eq_some_iff.mp T.b).1
  have T1 := T.fr F0 h2
  generalize S ++ [c] = S1 at P T1 ⊢
  clear F0 T
  generalize S.length = n at P h2 ⊢
  wp_walk using wr_ok
  refine take_w N P (by omega) (by omega) fun a S2 a0 a1 P2 F2 => ?_
  wp_walk using wr_ok
  refine take_w N P2 (by omega) (by omega) fun b S3 b0 b1 P3 F3 => ?_
  wp_walk using wr_ok
  rw [r_ok hN (n := 6) (by omega) (by omega) (by omega) (by omega)]
  have bw : Bt (Rat.divInt a (1 + b)) 20 := (bt_div (n := 6) (m := 0) (by omega) (by omega) (by omega)).mono (by omega)
  have w0 : 0 ≤ Rat.divInt a (1 + b) := rat_nn a0 (by omega)
  generalize Rat.divInt a (1 + b) = wh at bw w0 ⊢
  wp_walk using wr_ok
  refine take_w N P3 (by omega) (by omega) fun a S4 a0 a1 P4 F4 => ?_
  wp_walk using wr_ok
  refine take_w N P4 (by omega) (by omega) fun b S5 b0 b1 P5 F5 => ?_
  wp_walk using wr_ok
  rw [r_ok hN (n := 6) (by omega) (by omega) (by omega) (by omega)]
  have bs : Bt (Rat.divInt a (1 + b)) 20 := (bt_div (n := 6) (m := 0) (by omega) (by omega) (by omega)).mono (by omega)
  have s0 : 0 ≤ Rat.divInt a (1 + b) := rat_nn a0 (by omega)
  generalize Rat.divInt a (1 + b) = sp at bs s0 ⊢
  have T5 := T1.fr (((F2.trans F3).trans F4).trans F5) h2
  wp_walk using wr_ok
  refine ⟨by decide, ?_⟩
  refine for_i (fun e S' => Pool S' n ∧ Tb S' ∧ ∃ x5 x6, e = [some (.scr (ns.map .int)), some (.int k), some (.loc n), some (rD wh), some (rD sp), x5, x6]) ⟨P5, T5, _, _, rfl⟩ ?_ ?_
  · clear x5 x6
    rintro d e S6 hd ⟨P6, T6, x5, x6, rfl⟩
    obtain ⟨i, rfl, i0, i1⟩ := range_mem hd
    wp_walk using wr_ok
    refine rivals_w hN P6 bw bs w0 s0 fun rows S7 hr hrl P7 F7 hS7 => ?_
    have T7 := T6.fr F7 h2
    generalize S6.length = m at hS7 ⊢
    have hm7 := (List.getElem?_eq_some_iff.mp hS7).1
    have hro : ∀ r, r ∈ rows → RwOk r := fun r h => (hr r h).ok
    have get : ∀ {S : Store} (c : Store), S[m]? = some (.lst (rows.map rwD)) → (S ++ c)[m]? = some (.lst (rows.map rwD)) := fun c h => by rw [List.getElem?_append_left (List.getElem?_eq_some_iff.mp h).1]; exact h
    wp_walk using wr_ok
    refine right_w hN T7 hro hrl (bw.mono (by omega)) (bs.mono (by omega)) w0 s0 hS7 fun c1 => ?_
    have P8 := P7.app c1
    have T8 := T7.app c1
    have hS8 := get c1 hS7
    clear P7 T7 hS7 F7 hm7 T6 P6
    generalize S7 ++ c1 = S8 at P8 T8 hS8 ⊢
    wp_walk using wr_ok
    refine later_w hN hr hrl bw hS8 ?_
    have P9 := P8.app [.lst ((rows.map (rwLater wh)).map rwD)]
    have T9 := T8.app [.lst ((rows.map (rwLater wh)).map rwD)]
    have hS9 := get [.lst ((rows.map (rwLater wh)).map rwD)] hS8
    have hL : (S8 ++ [Cell.lst ((rows.map (rwLater wh)).map rwD)])[S8.length]? = some (.lst ((rows.map (rwLater wh)).map rwD)) := by simp
    clear P8 T8 hS8
    generalize S8 ++ [Cell.lst ((rows.map (rwLater wh)).map rwD)] = S9 at P9 T9 hS9 hL ⊢
    generalize S8.length = m1 at hL ⊢
    wp_walk using wr_ok
    refine right_w hN T9 (fun r h => by
      obtain ⟨r', hr', rfl⟩ := List.mem_map.mp h
      exact later_ok (hr r' hr') bw w0) (by rw [List.length_map]; exact hrl) (bw.mono (by omega)) (bs.mono (by omega)) w0 s0 hL fun c2 => ?_
    have P10 := P9.app c2
    have T10 := T9.app c2
    have hS10 := get c2 hS9
    clear P9 T9 hS9 hL
    generalize S9 ++ c2 = S10 at P10 T10 hS10 ⊢
    wp_walk using wr_ok
    refine far_w hN hr hrl hS10 ?_
    have P11 := P10.app [.lst ((rows.map rwFar).map rwD)]
    have T11 := T10.app [.lst ((rows.map rwFar).map rwD)]
    have hS11 := get [.lst ((rows.map rwFar).map rwD)] hS10
    have hL : (S10 ++ [Cell.lst ((rows.map rwFar).map rwD)])[S10.length]? = some (.lst ((rows.map rwFar).map rwD)) := by simp
    clear P10 T10 hS10
    generalize S10 ++ [Cell.lst ((rows.map rwFar).map rwD)] = S11 at P11 T11 hS11 hL ⊢
    generalize S10.length = m2 at hL ⊢
    wp_walk using pow_far, z_far, ladd_ok (S := S11) hN bw bt_far (by omega), ladd_ok (S := S11) hN bs bt_far (by omega)
    refine right_w hN T11 (fun r h => by
      obtain ⟨r', hr', rfl⟩ := List.mem_map.mp h
      exact far_ok (hr r' hr')) (by rw [List.length_map]; exact hrl) (bt_add bw bt_far) (bt_add bs bt_far) (Rat.add_nonneg w0 far_nn) (Rat.add_nonneg s0 far_nn) hL fun c3 => ?_
    have P12 := P11.app c3
    have T12 := T11.app c3
    have hS12 := get c3 hS11
    clear P11 T11 hS11 hL
    generalize S11 ++ c3 = S12 at P12 T12 hS12 ⊢
    wp_walk using wr_eRevN, rnQ_loc hS12
    have hrv : (rows.map rwD).reverse = rows.reverse.map rwD := by rw [List.map_reverse]
    rw [hrv]
    have P13 := P12.app [.lst (rows.reverse.map rwD)]
    have T13 := T12.app [.lst (rows.reverse.map rwD)]
    have hS13 := get [.lst (rows.reverse.map rwD)] hS12
    have hL : (S12 ++ [Cell.lst (rows.reverse.map rwD)])[S12.length]? = some (.lst (rows.reverse.map rwD)) := by simp
    clear P12 T12 hS12
    generalize S12 ++ [Cell.lst (rows.reverse.map rwD)] = S13 at P13 T13 hS13 hL ⊢
    generalize S12.length = m3 at hL ⊢
    refine right_w hN T13 (fun r h => hro r (List.mem_reverse.mp h)) (by rw [List.length_reverse]; exact hrl) (bw.mono (by omega)) (bs.mono (by omega)) w0 s0 hL fun c4 => ?_
    have P14 := P13.app c4
    have T14 := T13.app c4
    have hS14 := get c4 hS13
    clear P13 T13 hS13 hL
    generalize S13 ++ c4 = S14 at P14 T14 hS14 ⊢
    wp_walk using z01
    refine right_w hN T14 hro hrl (bt_0.mono (by omega)) (bs.mono (by omega)) (by decide) s0 hS14 fun c5 => ?_
    wp_walk using wr_ok
    exact ⟨P14.app c5, T14.app c5, _, _, rfl⟩
  · clear x5 x6
    rintro e S6 ⟨P6, T6, x5, x6, rfl⟩
    wp_walk using wr_ok
    exact ⟨T6, _, _, _, _, _, _, rfl⟩
end Wk14
open PySem PySem.W PySem.Calls PyProof.Rows
set_option maxRecDepth 100000 in
set_option maxHeartbeats 0 in
theorem PySem.Challenge.cw_sharetags_k14_who_is_picked_holds : PySem.Challenge.rw_sharetags_k14_who_is_picked.Holds := by
  w_on; o_law
  refine HandSHeadRun.head_any (r := OpenLaw.row PySem.Challenge.rw_sharetags_k14_who_is_picked) (q := Wk14.qv) (H := G.hookT 5 Wk14.fxAll Wk14.fnAll (Wk14.tsL.map (·.1))) (ob := G.obTT 5 Wk14.fxAll Wk14.fnAll (Wk14.tsL.map (·.1))) (M := 100000) (loose := Wk14.nmAll) (d := HandSHeadRun.topDef (OpenLaw.row PySem.Challenge.rw_sharetags_k14_who_is_picked).prog 78) (kwd := []) (G.obTT_eq 5 _ _ _)
    (by kernel_rfl) (fun s => by kernel_rfl) ?hr (by kernel_rfl) (by kernel_rfl) (by kernel_rfl) (by rfl) (by first | assumption | decide +kernel) (by decide +kernel) ⟨rfl, rfl, rfl, rfl, rfl, by decide +kernel⟩ ?hw ?hc
  case hr => exact Wk14.run
  case hw => w_witness2
  case hc =>
    refine G.walk_endT (l := PySem.Challenge.rw_sharetags_k14_who_is_picked) (k := 14) (x := "_law_script") (ts := Wk14.tsL) rfl (by kernel_rfl) (by kernel_rfl) ⟨rfl, by decide, by decide⟩ (fun w h Y => Y) ?F
    intro w mg fa h K KX c Y hmg
    exact Wk14.all_mk Wk14.plain hmg KX Y c
