import PyProof.Rows.All
import Wide.All
import OpenK.AllK
import Wide.FinOn
import HandS.ForMost
import HandS.ForExc
import HandS.Wide
import HandS.IsInst
import HandS.ExcIs
import HandS.CallSlots
import HandS.Lambda
import HandS.EndTab
import HandS.HeadHook4
import HandS.Flow
import HandS.Defaults
import HandS.MakeKw
import HandS.Head2
import HandS.HeadEnd
import HandS.HeadHook2
import HandS.Zip
import PyProof.CollectIter
import PyProof.WalksMore
import HandS.Small
import HandS.SetFor
import HandS.Strs
import HandS.FStr
import HandS.RaiseMore
import HandS.TupMul
import HandS.MakeKwOnly
import KE.KCallOwn
import HandS.HeadWalk
import KE.GoesEnum
import HandS.Conv
import HandS.Style
import HandS.ExcInit
import KE.KExcInit
import HandS.ExcField
import KE.KExcIs
import HandS.Text
import PyProof.Rows.ListMulArg
import HandS.DictComp
import HandS.SetKeys
import KE.KDictDisplayH
import HandS.SortRule
import KE.KAssignIn
import KE.KEqNest
import KE.DataFind
import HandS.Remove
import PyProof.NeKinds
import HandS.Deep
import PyProof.InstNe
import HandS.More
import HandS.HeadHook3
import HandS.SortKw
import KE.DatumOrd
import PyProof.DictUpdate
import HandS.TupAny
import HandS.DictEq
import PyProof.FactsLen
import HandS.Rev
import HandS.Finally
import HandS.OwnEq
import PyProof.EqKinds
import PyProof.FactsAll.dict_1
import PyProof.SeqRoads2
import HandS.Dict
import HandS.StrMore
import PyProof.ReprNest
import HandS.Codes
import PyProof.ReprBulk
import PySem.Challenge.RW_sharetags_k04_no_ratios
set_option Elab.async false
set_option linter.all false
set_option maxRecDepth 100000
set_option maxHeartbeats 8000000
namespace G
open PySem L2
inductive D where
  | non | bl (b : Bool) | int (i : Int) | str (x : Str)
  | tup (l : List D) | lst (l : List D) | scr (l : List D) | dic (ks : List Key) (l : List D) | loc (n : Nat)
  | exc (c : Nat) (fs : List (Nat × D))
  | ins (c : Nat) (fs : List (Nat × D))
  | fa (a : Nat)
  | pin (v : V) (d : D)
inductive Cell where
  | dead | lst (l : List D) | dk (kvs : List (Key × D)) | fk (kvs : List (Key × D)) | ts (ks : List (List Int)) | fs (ks : List (List Int)) | obj (c : Nat) (fs : List (Nat × D)) | tbl (p : Str × Option Str) (q : Str)
def Cell.frz : Cell → Bool
  | .fk _ => true
  | .fs _ => true
  | _ => false
def hashL (k : List Int) : Int := reduceHash (Builtin.Tuple.tupleHashOf (k.map hashInt))
def TsP (a : Addr) (xs : List (List Int × Addr)) : Heap → Prop := fun h => ∃ o es ep, h.get? a = some o ∧ o.ExactDict ∧ o.data = .dict es ep ∧ es.toList = xs.map (fun x => ⟨hashL x.1, .ref x.2, .bool true⟩) ∧ (xs.map (·.1)).Nodup
def cnames : List String := ["TagError", "LostError", "ShareError", "NoRatio", "NoText", "NoName", "NoRate", "NoWeight", "NoNumber", "NoTime", "NoTags", "NoSize", "NoClient", "NoLeast", "NoRivals", "NoTruth", "NoDeeds", "NoLog", "NoStretch", "NoLess", "NoPlan", "NoLeasts", "NoWord", "NoRow", "NoOne", "NoAsk", "NoPlace", "Nought", "Stands", "TooMany", "TooMuch", "Full", "Past", "Client", "Bookings", "Seat", "Room", "Server", "Fleet", "Desk", "Tale", "Walk", "Chair", "Replay", "Served", "Glance", "Look"]
def fnames : List String := ["name", "least", "most", "weight", "row", "rate", "place", "taken", "time", "lines", "at", "begins", "begun", "bookings", "books", "by", "came", "chairs", "clocks", "coming", "due_time", "fates", "gate", "heft", "hefts", "held", "here", "kept", "leasts", "lifts", "limit", "line", "marks", "mosts", "number", "rates", "room", "rows", "seats", "ships", "sizes", "speed", "tales", "told", "turned", "until", "why", "size"]
def cname (c : Nat) : Str := Str.ofString (cnames.getD c "")
def fname (c : Nat) : Str := Str.ofString (fnames.getD c "")
abbrev Store := List Cell
abbrev En := List (Option D)
structure Wo where
  al : List Addr
  st : Store
  hp : Hp
  /-- what is being built and nobody sees -/
  hid : List Addr
def Zl (w : Wo) (a : Addr) : Prop := (∃ (n : Nat) (c : Cell), w.al[n]? = some a ∧ w.st[n]? = some c ∧ c ≠ Cell.dead) ∨ a ∈ w.hid
def StO (w : Wo) (a : Addr) (u : HO) : Prop := Rd w.hp a u ∧ ¬ Zl w a
def StP (w : Wo) (a : Addr) (u : HO) : Prop := w.hp a = some u ∧ ¬ Zl w a
def KtT (K : PySem.W.Frag) (a : Addr) (vs : List V) : Prop :=
  ∃ (o : Obj) (its : Array Value) (n : Nat), K.lookup a = some o ∧ o.cls = .type "tuple" ∧ o.data = .seq its n ∧ its.size ≤ sizeLine ∧ Vals vs its.toList
def KtL (K : PySem.W.Frag) (a : Addr) (vs : List V) : Prop :=
  ∃ (o : Obj) (its : Array Value) (n : Nat), K.lookup a = some o ∧ o.cls = .type "list" ∧ o.dict = none ∧ o.data = .seq its n ∧ its.size ≤ sizeLine ∧ Vals vs its.toList
def StT (K : PySem.W.Frag) (w : Wo) (a : Addr) (vs : List V) : Prop := StO w a (.tup vs) ∨ KtT K a vs
def StL (K : PySem.W.Frag) (w : Wo) (a : Addr) (vs : List V) : Prop := StO w a (.lst vs) ∨ KtL K a vs
theorem StT.sq {K : PySem.W.Frag} {w : Wo} {a : Addr} {vs : List V} (h : StT K w a vs) : SqT K w.hp a vs := by
  rcases h with h | h
  · exact .inl h.1
  · exact .inr h
theorem StL.sq {K : PySem.W.Frag} {w : Wo} {a : Addr} {vs : List V} (h : StL K w a vs) : SqL K w.hp a vs := by
  rcases h with h | h
  · exact .inl h.1
  · exact .inr h
def ExcO (a : Addr) (cls : Value) (dd : Option Addr) : HO := .ext fun h => ∃ o vs, h.get? a = some o ∧ o.cls = cls ∧ o.dict = dd ∧ o.data = .fields vs
def XfO (w : Wo) (dd : Option Addr) (gs : List (Str × V)) : Prop := (gs = [] ∧ dd = none) ∨ (gs ≠ [] ∧ ∃ x, dd = some x ∧ StP w x (.xd gs))
mutual
inductive RepD (K : PySem.W.Frag) (mg : Str → Option Value) (w : Wo) : D → V → Prop where
  | non : RepD K mg w .non .non
  | bl (b : Bool) : RepD K mg w (.bl b) (.bl b)
  | int (i : Int) : RepD K mg w (.int i) (.int i)
  | str (x : Str) : RepD K mg w (.str x) (.str x)
  | tup {l : List D} {a : Addr} {vs : List V} : StT K w a vs → RepL K mg w l vs → RepD K mg w (.tup l) (.ref a)
  | lst {l : List D} {a : Addr} {vs : List V} : StP w a (.lst vs) → RepL K mg w l vs → RepD K mg w (.lst l) (.ref a)
  | scr {l : List D} {a : Addr} {vs : List V} : StL K w a vs → RepL K mg w l vs → RepD K mg w (.scr l) (.ref a)
  | dic {ks : List Key} {l : List D} {a : Addr} {vs : List V} : StP w a (.dK (ks.zip vs)) → ks.length = vs.length → RepL K mg w l vs → RepD K mg w (.dic ks l) (.ref a)
  | loc {n : Nat} {a : Addr} : w.al[n]? = some a → RepD K mg w (.loc n) (.ref a)
  | ins {c : Nat} {C a dx : Addr} {fs : List (Nat × D)} {gs : List (Str × V)} : mg (cname c) = some (.ref C) → StP w a (.ins C dx gs) → RepF K mg w fs gs → RepD K mg w (.ins c fs) (.ref a)
  | exc {c : Nat} {C a : Addr} {dd : Option Addr} {fs : List (Nat × D)} {gs : List (Str × V)} : mg (cname c) = some (.ref C) → StP w a (ExcO a (.ref C) dd) → XfO w dd gs → RepF K mg w fs gs → RepD K mg w (.exc c fs) (.ref a)
  | fa (a : Addr) : RepD K mg w (.fa a) (.ref a)
  | pin {d : D} {v : V} : RepD K mg w d v → RepD K mg w (.pin v d) v
inductive RepL (K : PySem.W.Frag) (mg : Str → Option Value) (w : Wo) : List D → List V → Prop where
  | nil : RepL K mg w [] []
  | cons {d : D} {v : V} {l : List D} {vs : List V} : RepD K mg w d v → RepL K mg w l vs → RepL K mg w (d :: l) (v :: vs)
inductive RepF (K : PySem.W.Frag) (mg : Str → Option Value) (w : Wo) : List (Nat × D) → List (Str × V) → Prop where
  | nil : RepF K mg w [] []
  | cons {f : Nat} {d : D} {v : V} {l : List (Nat × D)} {vs : List (Str × V)} : RepD K mg w d v → RepF K mg w l vs → RepF K mg w ((f, d) :: l) ((fname f, v) :: vs)
end
structure Ex0 (w w' : Wo) : Prop where
  al : ∃ t, w'.al = w.al ++ t
  zz : ∀ a, Zl w' a → Zl w a ∨ w.hp a = none
  keep : ∀ a o, w.hp a = some o → ¬ Zl w a → w'.hp a = some o
  tr : ∀ a o, w.hp a = some o → ∃ o', w'.hp a = some o'
def Fz (w w' : Wo) : Prop := ∀ (n : Nat) (a : Addr) (c : Cell), w.al[n]? = some a → w.st[n]? = some c → c.frz = true → w'.st[n]? = some c ∧ w'.hp a = w.hp a
theorem Fz.trans {w w1 w2 : Wo} (x : ∃ t, w1.al = w.al ++ t) (a : Fz w w1) (b : Fz w1 w2) : Fz w w2 := fun n y c h1 h2 h3 => by
  obtain ⟨t, e⟩ := x
  obtain ⟨f1, f2⟩ := a n y c h1 h2 h3
  have h1' : w1.al[n]? = some y := by
    rw [e, List.getElem?_append_left (List.getElem?_eq_some_iff.mp h1).1]; exact h1
  obtain ⟨g1, g2⟩ := b n y c h1' f1 h3
  exact ⟨g1, g2.trans f2⟩
structure Ext (w w' : Wo) : Prop extends Ex0 w w' where
  hid : w'.hid = w.hid
  kh : ∀ a, a ∈ w.hid → w'.hp a = w.hp a
  fz : Fz w w'
theorem Ex0.trans {w w1 w2 : Wo} (a : Ex0 w w1) (b : Ex0 w1 w2) : Ex0 w w2 := by
  refine ⟨?_, fun x h => ?_, fun x o h z => ?_, fun x o h => ?_⟩
  · obtain ⟨t, e⟩ := a.al
    obtain ⟨u, f⟩ := b.al
    exact ⟨t ++ u, by rw [f, e, List.append_assoc]⟩
  · rcases b.zz x h with h | h
    · exact a.zz x h
    · refine .inr ?_
      cases e : w.hp x with
      | none => rfl
      | some o =>
        obtain ⟨o', f⟩ := a.tr x o e
        rw [f] at h; cases h
  · refine b.keep x o (a.keep x o h z) fun q => ?_
    rcases a.zz x q with q | q
    · exact z q
    · rw [h] at q; cases q
  · obtain ⟨o', f⟩ := a.tr x o h
    exact b.tr x o' f
theorem Ext.trans {w w1 w2 : Wo} (a : Ext w w1) (b : Ext w1 w2) : Ext w w2 :=
  ⟨a.toEx0.trans b.toEx0, b.hid.trans a.hid, fun x h => (b.kh x (by rw [a.hid]; exact h)).trans (a.kh x h), a.fz.trans a.al b.fz⟩
theorem Rd.some {H : Hp} {a : Addr} {u : HO} (h : Rd H a u) : ∃ o, H a = some o := by
  rcases h with h | ⟨o, h⟩
  · exact ⟨_, h⟩
  · exact ⟨_, h⟩
theorem StO.ext {w w' : Wo} {a : Addr} {u : HO} (h : StO w a u) (e : Ex0 w w') : StO w' a u := by
  obtain ⟨r, z⟩ := h
  obtain ⟨o, ho⟩ := Rd.some r
  refine ⟨?_, fun q => ?_⟩
  · rcases r with r | ⟨o', r⟩
    · exact .inl (e.keep _ _ r z)
    · exact .inr ⟨o', e.keep _ _ r z⟩
  · rcases e.zz a q with q | q
    · exact z q
    · rw [ho] at q; cases q
theorem StP.ext {w w' : Wo} {a : Addr} {u : HO} (h : StP w a u) (e : Ex0 w w') : StP w' a u := by
  obtain ⟨r, z⟩ := h
  refine ⟨e.keep _ _ r z, fun q => ?_⟩
  rcases e.zz a q with q | q
  · exact z q
  · rw [r] at q; cases q
theorem StT.ext {K : PySem.W.Frag} {w w' : Wo} {a : Addr} {vs : List V} (h : StT K w a vs) (e : Ex0 w w') : StT K w' a vs := h.imp (fun h => h.ext e) id
theorem StL.ext {K : PySem.W.Frag} {w w' : Wo} {a : Addr} {vs : List V} (h : StL K w a vs) (e : Ex0 w w') : StL K w' a vs := h.imp (fun h => h.ext e) id
theorem XfO.ext {w w' : Wo} {dd : Option Addr} {gs : List (Str × V)} (h : XfO w dd gs) (e : Ex0 w w') : XfO w' dd gs := h.imp id fun ⟨z, x, q, s⟩ => ⟨z, x, q, s.ext e⟩
theorem Ex0.get {w w' : Wo} (e : Ex0 w w') {n : Nat} {a : Addr} (h : w.al[n]? = some a) : w'.al[n]? = some a := by
  obtain ⟨t, f⟩ := e.al
  rw [f, List.getElem?_append_left (List.getElem?_eq_some_iff.mp h).1]
  exact h
variable {K : PySem.W.Frag} {mg : Str → Option Value} {w w' : Wo}
mutual
theorem RepD.ext {d : D} {v : V} : RepD K mg w d v → Ex0 w w' → RepD K mg w' d v
  | .non, _ => .non
  | .bl b, _ => .bl b
  | .int i, _ => .int i
  | .str x, _ => .str x
  | .tup h r, e => .tup (h.ext e) (RepL.ext r e)
  | .lst h r, e => .lst (h.ext e) (RepL.ext r e)
  | .scr h r, e => .scr (h.ext e) (RepL.ext r e)
  | .dic h z r, e => .dic (h.ext e) z (RepL.ext r e)
  | .loc h, e => .loc (e.get h)
  | .ins g h r, e => .ins g (h.ext e) (RepF.ext r e)
  | .exc g h x r, e => .exc g (h.ext e) (x.ext e) (RepF.ext r e)
  | .fa a, _ => .fa a
  | .pin h, e => .pin (RepD.ext h e)
theorem RepL.ext {l : List D} {vs : List V} : RepL K mg w l vs → Ex0 w w' → RepL K mg w' l vs
  | .nil, _ => .nil
  | .cons r t, e => .cons (RepD.ext r e) (RepL.ext t e)
theorem RepF.ext {l : List (Nat × D)} {vs : List (Str × V)} : RepF K mg w l vs → Ex0 w w' → RepF K mg w' l vs
  | .nil, _ => .nil
  | .cons r t, e => .cons (RepD.ext r e) (RepF.ext t e)
end
theorem RepL.length {l : List D} {vs : List V} : RepL K mg w l vs → l.length = vs.length
  | .nil => rfl
  | .cons _ t => by rw [List.length_cons, List.length_cons, RepL.length t]
theorem RepL.get {l : List D} {vs : List V} {i : Nat} {d : D} : RepL K mg w l vs → l[i]? = some d → ∃ v, vs[i]? = some v ∧ RepD K mg w d v
  | .nil, h => by simp at h
  | .cons r t, h => by
    cases i with
    | zero => simp at h; subst h; exact ⟨_, by simp, r⟩
    | succ i =>
      obtain ⟨v, e, q⟩ := RepL.get (i := i) t (by simpa using h)
      exact ⟨v, by simpa using e, q⟩
theorem RepL.set {l : List D} {vs : List V} {d : D} {v : V} (q : RepD K mg w d v) : ∀ (i : Nat), RepL K mg w l vs → RepL K mg w (l.set i d) (vs.set i v)
  | _, .nil => .nil
  | 0, .cons _ t => .cons q t
  | i + 1, .cons r t => .cons r (RepL.set q i t)
inductive RepK (κ : Type) (K : PySem.W.Frag) (mg : Str → Option Value) (w : Wo) : List (κ × D) → List (κ × V) → Prop where
  | nil : RepK κ K mg w [] []
  | cons {f : κ} {d : D} {v : V} {l : List (κ × D)} {vs : List (κ × V)} : RepD K mg w d v → RepK κ K mg w l vs → RepK κ K mg w ((f, d) :: l) ((f, v) :: vs)
theorem RepK.ext {κ : Type} {l : List (κ × D)} {vs : List (κ × V)} : RepK κ K mg w l vs → Ex0 w w' → RepK κ K mg w' l vs
  | .nil, _ => .nil
  | .cons r t, e => .cons (r.ext e) (RepK.ext t e)
def CellR (K : PySem.W.Frag) (mg : Str → Option Value) (w : Wo) (a : Addr) : Cell → Prop
  | .dead => True
  | .lst l => ∃ vs, w.hp a = some (.lst vs) ∧ RepL K mg w l vs
  | .dk kvs => ∃ us, w.hp a = some (.dK us) ∧ RepK Key K mg w kvs us
  | .fk kvs => ∃ o us, w.hp a = some (.frz o (.dK us)) ∧ RepK Key K mg w kvs us
  | .ts ks => (a == sysModules) = false ∧ ks.length ≤ sizeLine ∧ ∃ xs : List (List Int × Addr), xs.map (·.1) = ks ∧ w.hp a = some (.ext (TsP a xs)) ∧ ∀ x, x ∈ xs → StT K w x.2 (x.1.map V.int)
  | .fs ks => (a == sysModules) = false ∧ ks.length ≤ sizeLine ∧ ∃ (o : Obj) (xs : List (List Int × Addr)), xs.map (·.1) = ks ∧ w.hp a = some (.frz o (.ext (TsP a xs))) ∧ ∀ x, x ∈ xs → StT K w x.2 (x.1.map V.int)
  | .obj c fs => ∃ C dx gs, mg (cname c) = some (.ref C) ∧ w.hp a = some (.ins C dx gs) ∧ RepF K mg w fs gs
  | .tbl p q => a = (He.cT K p).2 ∧ ∃ ps : Array Value, w.hp a = some (.tbl ps) ∧ TriplesOk ps.toList ∧ ∀ (pos : Pos) (cv : Value), codeAmong pos ps.toList = some cv → ∃ c o, cv = .ref c ∧ w.hp c = some (.frz o (LamX.CodeO c q)) ∧ ¬ Zl w c
theorem CellR.ext {a : Addr} {c : Cell} (h : CellR K mg w a c) (e : Ex0 w w') (k : w'.hp a = w.hp a) : CellR K mg w' a c := by
  cases c with
  | dead => trivial
  | lst l => obtain ⟨vs, p, r⟩ := h; exact ⟨vs, k.trans p, r.ext e⟩
  | dk l => obtain ⟨vs, p, r⟩ := h; exact ⟨vs, k.trans p, r.ext e⟩
  | fk l => obtain ⟨o, vs, p, r⟩ := h; exact ⟨o, vs, k.trans p, r.ext e⟩
  | ts l => obtain ⟨h1, h2, xs, h3, h4, h5⟩ := h; exact ⟨h1, h2, xs, h3, k.trans h4, fun x hx => (h5 x hx).ext e⟩
  | fs l => obtain ⟨h1, h2, o, xs, h3, h4, h5⟩ := h; exact ⟨h1, h2, o, xs, h3, k.trans h4, fun x hx => (h5 x hx).ext e⟩
  | obj c l => obtain ⟨C, dx, gs, g, p, r⟩ := h; exact ⟨C, dx, gs, g, k.trans p, r.ext e⟩
  | tbl _ q =>
    obtain ⟨ea, ps, p, t, r⟩ := h
    refine ⟨ea, ps, k.trans p, t, fun pos cv hc => ?_⟩
    obtain ⟨c, o, e1, e2, e3⟩ := r pos cv hc
    refine ⟨c, o, e1, e.keep _ _ e2 e3, fun z => ?_⟩
    rcases e.zz c z with z | z
    · exact e3 z
    · rw [e2] at z; cases z
structure Rep (K : PySem.W.Frag) (mg : Str → Option Value) (w : Wo) : Prop where
  len : w.al.length = w.st.length
  nd : w.al.Nodup
  tr : ∀ a, a ∈ w.al → ∃ o, w.hp a = some o
  cell : ∀ (n : Nat) (a : Addr) (c : Cell), w.al[n]? = some a → w.st[n]? = some c → CellR K mg w a c
  hid : ∀ a, a ∈ w.hid → a ∉ w.al ∧ ∃ o, w.hp a = some o
structure RepE (K : PySem.W.Frag) (mg : Str → Option Value) (w : Wo) (e : En) (s : St) : Prop where
  len : e.length = s.length
  get : ∀ (i : Nat) (d : D), e[i]? = some (some d) → ∃ v, s[i]? = some (some v) ∧ RepD K mg w d v
theorem RepE.ext {e : En} {s : St} (h : RepE K mg w e s) (x : Ex0 w w') : RepE K mg w' e s :=
  ⟨h.len, fun i d g => let ⟨v, p, r⟩ := h.get i d g; ⟨v, p, r.ext x⟩⟩
theorem RepE.set {e : En} {s : St} {d : D} {v : V} (h : RepE K mg w e s) (i : Nat) (r : RepD K mg w d v) : RepE K mg w (e.set i (some d)) (s.set i (some v)) := by
  refine ⟨by rw [List.length_set, List.length_set]; exact h.len, fun j d' g => ?_⟩
  by_cases hj : j = i
  · subst hj
    by_cases hl : j < e.length
    · rw [List.getElem?_set_self hl] at g
      cases g
      exact ⟨v, by rw [List.getElem?_set_self (by rw [← h.len]; exact hl)], r⟩
    · rw [List.getElem?_eq_none (by simpa using hl)] at g; cases g
  · rw [List.getElem?_set_ne (Ne.symm hj)] at g ⊢
    exact h.get j d' g
inductive Res (β : Type) where
  | ok (b : β) (S : Store)
  | exc (e : D) (S : Store)
  | stuck
def Res.bind {β γ : Type} (r : Res β) (k : β → Store → Res γ) : Res γ := match r with
  | .ok b S => k b S
  | .exc e S => .exc e S
  | .stuck => .stuck
def RepX (K : PySem.W.Frag) (mg : Str → Option Value) (w : Wo) (e : D) (cls : Value) (dd : Option Addr) : Prop :=
  ∃ c C fs gs, e = .exc c fs ∧ mg (cname c) = some (.ref C) ∧ cls = .ref C ∧ XfO w dd gs ∧ RepF K mg w fs gs
theorem RepX.ext {e : D} {cls : Value} {dd : Option Addr} (h : RepX K mg w e cls dd) (x : Ex0 w w') : RepX K mg w' e cls dd := by
  obtain ⟨c, C, fs, gs, h1, h2, h3, h4, h5⟩ := h
  exact ⟨c, C, fs, gs, h1, h2, h3, h4.ext x, h5.ext x⟩
def Post {β γ : Type} (Rl : Wo → β → γ → Prop) (K : PySem.W.Frag) (mg : Str → Option Value) (w : Wo) (r : Res β) (Q : γ → Hp → Prop) (E : XK) : Prop := match r with
  | .ok b S => ∀ w' v, Ext w w' → Rep K mg w' → w'.st = S → Rl w' b v → Q v w'.hp
  | .exc e S => ∀ w' cls dd, Ext w w' → Rep K mg w' → w'.st = S → RepX K mg w' e cls dd → E cls dd w'.hp
  | .stuck => False
theorem Post.ext {β γ : Type} {Rl : Wo → β → γ → Prop} {r : Res β} {Q : γ → Hp → Prop} {E : XK} (h : Post Rl K mg w r Q E) (x : Ext w w') : Post Rl K mg w' r Q E := by
  cases r with
  | ok b S => exact fun w2 v e => h w2 v (x.trans e)
  | exc e S => exact fun w2 v d e => h w2 v d (x.trans e)
  | stuck => exact h
theorem Post.imp {β γ : Type} {Rl : Wo → β → γ → Prop} {r : Res β} {Q Q' : γ → Hp → Prop} {E : XK} (h : Post Rl K mg w r Q E) (i : ∀ v H, Q v H → Q' v H) : Post Rl K mg w r Q' E := by
  cases r with
  | ok b S => exact fun w2 v e R s r => i _ _ (h w2 v e R s r)
  | exc e S => exact h
  | stuck => exact h
def Mid {β γ δ ε : Type} (Rl : Wo → β → γ → Prop) (Rm : Wo → δ → ε → Prop) (K : PySem.W.Frag) (mg : Str → Option Value) (w : Wo) (k : β → Store → Res δ) (Q : ε → Hp → Prop) (E : XK) : γ → Hp → Prop := fun v H =>
  ∃ w1 b, w1.hp = H ∧ Ext w w1 ∧ Rep K mg w1 ∧ Rl w1 b v ∧ Post Rm K mg w1 (k b w1.st) Q E
theorem Post.bind {β γ δ ε : Type} {Rl : Wo → β → γ → Prop} {Rm : Wo → δ → ε → Prop} {r : Res β} {k : β → Store → Res δ} {Q : ε → Hp → Prop} {E : XK} (h : Post Rm K mg w (r.bind k) Q E) :
    Post Rl K mg w r (Mid Rl Rm K mg w k Q E) E := by
  cases r with
  | ok b S =>
    intro w1 v e R s q
    subst s
    exact ⟨w1, b, rfl, e, R, q, Post.ext (Rl := Rm) h e⟩
  | exc e S => exact h
  | stuck => exact h
end G
namespace G
open PySem L2
abbrev EM := En → Store → Res D
abbrev TM := En → Store → Res Bool
end G
namespace G
open PySem L2
section
variable {X : Cx} {W : WX} {a b c e o : Expr} {es : List Expr} {ma mb mc me : EM} {ta tb : TM} {pos : Pos}
variable {K : PySem.W.Frag} {mg : Str → Option Value} {w : Wo}
theorem RepL.at {l : List D} {vs : List V} {i : Int} {d : D} (h : RepL K mg w l vs) (e : atI l i = some d) : ∃ v, atI vs i = some v ∧ RepD K mg w d v := by
  unfold atI at e ⊢
  rw [← h.length]
  cases q : ixN l.length i with
  | none => rw [q] at e; cases e
  | some j =>
    rw [q] at e
    exact h.get e
def lenD (S : Store) : D → Option Nat
  | .str x => if x.length ≤ sizeLine then some x.length else none
  | .tup l => some l.length
  | .lst l => some l.length
  | .scr l => some l.length
  | .loc n => match S[n]? with
    | some (.lst l) => some l.length
    | _ => none
  | _ => none
theorem RepD.len {d : D} {v : V} {n : Nat} (R : Rep K mg w) (h : RepD K mg w d v) (e : lenD w.st d = some n) : LenV K v w.hp n := by
  cases h with
  | str x =>
    replace e : (if x.length ≤ sizeLine then some x.length else none) = some n := e
    split at e
    · cases e; exact ⟨by assumption, rfl⟩
    · cases e
  | tup s r => cases e; exact .inr ⟨_, s.sq, r.length⟩
  | lst s r => cases e; exact .inl ⟨_, SqL.of s.1, r.length⟩
  | scr s r => cases e; exact .inl ⟨_, s.sq, r.length⟩
  | @loc m a hn =>
    replace e : (match w.st[m]? with
      | some (.lst l) => some l.length
      | _ => none) = some n := e
    split at e
    · rename_i l hl
      cases e
      obtain ⟨vs, p, r⟩ := R.cell _ _ _ hn hl
      exact .inl ⟨vs, SqL.of p, r.length⟩
    · cases e
  | _ => cases e
def seqD (S : Store) : D → Option (List D)
  | .lst l => some l
  | .scr l => some l
  | .loc n => match S[n]? with
    | some (.lst l) => some l
    | _ => none
  | _ => none
theorem RepD.seq {d : D} {v : V} {l : List D} (R : Rep K mg w) (h : RepD K mg w d v) (e : seqD w.st d = some l) : ∃ a vs, v = .ref a ∧ SqL K w.hp a vs ∧ RepL K mg w l vs := by
  cases h with
  | lst s r => cases e; exact ⟨_, _, rfl, SqL.of s.1, r⟩
  | scr s r => cases e; exact ⟨_, _, rfl, s.sq, r⟩
  | @loc m a hn =>
    replace e : (match w.st[m]? with
      | some (.lst l) => some l
      | _ => none) = some l := e
    split at e
    · rename_i l hl
      cases e
      obtain ⟨vs, p, r⟩ := R.cell _ _ _ hn hl
      exact ⟨_, vs, rfl, SqL.of p, r⟩
    · cases e
  | _ => cases e
inductive Ty where
  | int | bool | str | tuple | list | dict
def Ty.nm : Ty → String
  | .int => "int" | .bool => "bool" | .str => "str" | .tuple => "tuple" | .list => "list" | .dict => "dict"
inductive Tn where
  | non | bool | int | str | tuple | list | dict
def Tn.nm : Tn → String
  | .non => "NoneType" | .bool => "bool" | .int => "int" | .str => "str" | .tuple => "tuple" | .list => "list" | .dict => "dict"
end
end G
namespace G
open PySem L2
inductive SRes where
  | nxt (e : En) (S : Store)
  | ret (d : D) (S : Store)
  | brk (e : En) (S : Store)
  | cnt (e : En) (S : Store)
  | exc (x : D) (e : En) (S : Store)
  | stuck
abbrev SM := En → Store → SRes
def PostS (X : Cx) (W : WX) (w : Wo) (r : SRes) (D : Ends) : Prop := match r with
  | .nxt e S => ∀ w' s', Ext w w' → Rep X.K X.mg w' → w'.st = S → RepE X.K X.mg w' e s' → D.nx s' w'.hp
  | .ret d S => ∀ w' v, Ext w w' → Rep X.K X.mg w' → w'.st = S → RepD X.K X.mg w' d v → D.rt v w'.hp
  | .brk e S => ∀ w' s', Ext w w' → Rep X.K X.mg w' → w'.st = S → RepE X.K X.mg w' e s' → D.bk s' w'.hp
  | .cnt e S => ∀ w' s', Ext w w' → Rep X.K X.mg w' → w'.st = S → RepE X.K X.mg w' e s' → D.ct s' w'.hp
  | .exc x e S => ∀ w' s' cls dd, Ext w w' → Rep X.K X.mg w' → w'.st = S → RepE X.K X.mg w' e s' → RepX X.K X.mg w' x cls dd → W cls dd s' w'.hp
  | .stuck => False
def tS (X : Cx) (W : WX) (m : SM) : TS := fun D s H => ∃ w e, w.hp = H ∧ Rep X.K X.mg w ∧ RepE X.K X.mg w e s ∧ PostS X W w (m e w.st) D
def sE {β : Type} (r : Res β) (e : En) (k : β → Store → SRes) : SRes := match r with
  | .ok b S => k b S
  | .exc x S => .exc x e S
  | .stuck => .stuck
def sS (r : SRes) (k : SM) : SRes := match r with
  | .nxt e S => k e S
  | r => r
section
variable {X : Cx} {W : WX} {a b c e o : Expr} {es : List Expr} {ma mb mc me : EM} {ta tb : TM} {pos : Pos} {st : Stmt} {rest : List Stmt} {m n : SM}
theorem PostS.ext {w w' : Wo} {r : SRes} {D : Ends} (h : PostS X W w r D) (x : Ext w w') : PostS X W w' r D := by
  cases r with
  | nxt e S => exact fun w2 s e => h w2 s (x.trans e)
  | ret e S => exact fun w2 s e => h w2 s (x.trans e)
  | brk e S => exact fun w2 s e => h w2 s (x.trans e)
  | cnt e S => exact fun w2 s e => h w2 s (x.trans e)
  | exc y e S => exact fun w2 s c d e => h w2 s c d (x.trans e)
  | stuck => exact h
def MidS {β γ : Type} (Rl : Wo → β → γ → Prop) (X : Cx) (W : WX) (w : Wo) (k : β → Store → SRes) (D : Ends) : γ → Hp → Prop := fun v H =>
  ∃ w1 b, w1.hp = H ∧ Ext w w1 ∧ Rep X.K X.mg w1 ∧ Rl w1 b v ∧ PostS X W w1 (k b w1.st) D
theorem PostS.of {β γ : Type} {Rl : Wo → β → γ → Prop} {w : Wo} {r : Res β} {en : En} {s : St} {k : β → Store → SRes} {D : Ends} (h : PostS X W w (sE r en k) D) (E : RepE X.K X.mg w en s) :
    Post Rl X.K X.mg w r (MidS Rl X W w k D) (fun cls dd H' => W cls dd s H') := by
  cases r with
  | ok b S =>
    intro w1 v x R st q
    subst st
    exact ⟨w1, b, rfl, x, R, q, PostS.ext h x⟩
  | exc y S => exact fun w1 cls dd x R st q => h w1 s cls dd x R st (E.ext x.toEx0) q
  | stuck => exact h
theorem PostS.s {w : Wo} {r : SRes} {n : SM} {D : Ends} (h : PostS X W w (sS r n) D) : PostS X W w r { D with nx := tS X W n D } := by
  cases r with
  | nxt e S =>
    intro w1 s x R st E
    subst st
    exact ⟨w1, e, rfl, R, E, PostS.ext h x⟩
  | ret e S => exact h
  | brk e S => exact h
  | cnt e S => exact h
  | exc y e S => exact h
  | stuck => exact h
end
end G
namespace G
open PySem L2
inductive Tg where
  | nm (i : Nat)
  | tp (is : List Nat)
def gNs : List Nat → TGs
  | [] => gNil
  | i :: r => gCons (gName i) (gNs r)
def Tg.r (K : PySem.W.Frag) : Tg → TG
  | .nm i => gName i
  | .tp is => gTup K is.length (gNs is)
def putAll : List Nat → List D → En → Option En
  | [], [], e => some e
  | i :: is, d :: ds, e => putAll is ds (e.set i (some d))
  | _, _, _ => none
def Tg.m : Tg → D → En → Option En
  | .nm i, d, e => some (e.set i (some d))
  | .tp is, .tup ds, e => putAll is ds e
  | _, _, _ => none
def Tg.ix : Tg → List Nat
  | .nm i => [i]
  | .tp is => is
section
variable {X : Cx} {W : WX} {a b c e o : Expr} {es : List Expr} {ma mb mc me : EM} {ta tb : TM} {pos : Pos}
variable {K : PySem.W.Frag} {mg : Str → Option Value} {w : Wo}
theorem gNs_ok : ∀ (is : List Nat) (ds : List D) (us : List V) (en en' : En) (s : St) (H : Hp) (Q : St → Hp → Prop), RepE K mg w en s → RepL K mg w ds us → putAll is ds en = some en' →
    (∀ s', RepE K mg w en' s' → s'.length = s.length → (∀ j, j ∉ is → s'[j]? = s[j]?) → Q s' H) → gNs is us s H Q
  | [], ds, us, en, en', s, H, Q, E, R, h, q => by
    cases ds with
    | nil =>
      cases h
      cases R
      exact ⟨rfl, q s E rfl fun _ _ => rfl⟩
    | cons _ _ => cases h
  | i :: is, ds, us, en, en', s, H, Q, E, R, h, q => by
    cases ds with
    | nil => cases h
    | cons d ds =>
      cases R with
      | cons r R =>
        refine ⟨_, _, rfl, ?_⟩
        refine gNs_ok is ds _ _ en' _ H Q (E.set i r) R h fun s' E' hl hj => q s' E' (by rw [hl, List.length_set]) fun j hn => ?_
        rw [hj j fun z => hn (List.mem_cons_of_mem _ z), List.getElem?_set_ne fun z : i = j => hn (by rw [z]; exact List.mem_cons_self)]
theorem Tg.ok (tg : Tg) {d : D} {v : V} {en en' : En} {s : St} {Q : St → Hp → Prop} (E : RepE K mg w en s) (R : RepD K mg w d v) (h : tg.m d en = some en')
    (q : ∀ s', RepE K mg w en' s' → s'.length = s.length → (∀ j, j ∉ tg.ix → s'[j]? = s[j]?) → Q s' w.hp) : tg.r K v s w.hp Q := by
  cases tg with
  | nm i =>
    cases h
    exact q _ (E.set i R) (by rw [List.length_set]) fun j hj => List.getElem?_set_ne fun z => hj (by rw [z]; exact List.mem_cons_self)
  | tp is =>
    cases R with
    | tup st rl =>
      have hl : ∀ (is : List Nat) (ds : List D) (en en' : En), putAll is ds en = some en' → is.length = ds.length := by
        intro is
        induction is with
        | nil => intro ds en en' h; cases ds with
          | nil => rfl
          | cons _ _ => cases h
        | cons i is ih => intro ds en en' h; cases ds with
          | nil => cases h
          | cons _ _ => exact congrArg Nat.succ (ih _ _ _ h)
      exact ⟨_, _, rfl, st.sq, by rw [← rl.length]; exact (hl _ _ _ _ h).symm, gNs_ok is _ _ en en' s w.hp Q E rl h q⟩
    | _ => cases h
end
end G
namespace G
open PySem L2 PySem.Spec
abbrev FM := List D → Store → Res D
def spM (K : PySem.W.Frag) (mg : Str → Option Value) (n : Nat) (f : FM) : Sp := fun vs H Q E => vs.length = n ∧ ∃ w ds, w.hp = H ∧ Rep K mg w ∧ RepL K mg w ds vs ∧ Post (RepD K mg) K mg w (f ds w.st) Q E
structure RoomG (k : Nat) (A : Around) : Prop where
  r : Room k A
  gd : 10 ≤ k → A.guards = some []
structure Cg (X : Cx) (W : WX) (k : Nat) : Prop where
  calm : X.calm = true
  nd : X.N.Nodup
  tk : Takes X W
  po : PassesOwn (model X.prog X.w) X.A X.env X.xe
  rm : RoomG k X.A
  hs : X.stack = X.env :: X.outer
  hf : X.env.frame = some X.env.locals
  em : X.ex = []
section
variable {P : Program} {w0 : World} {K : PySem.W.Frag} {mg : Str → Option Value} {base : Heap}
structure FnG (P : Program) (w0 : World) (K : PySem.W.Frag) (mg : Str → Option Value) (base : Heap) (k : Nat) (f : Addr) (fd : FuncData) (ps : List Str) (sp : Sp) : Prop where
  len : ∀ vs H Q E, sp vs H Q E → vs.length = ps.length
  run : ∀ (A : Around) (outer : List Env) (s : Shared) (H : Hp) (args : Args) (us : List Value) (vs : List V) (Q : VK) (E : XK), RoomG k A → Env0 P w0 K mg base A outer s H → BindsTo s fd args (ps.zip us) → Vals vs us → sp vs H Q E →
    codeAny (model P w0) A (.call (.ref f) args) (CR (L2.CX P w0) outer P w0 H s Q E) s
structure Df (P : Program) (w0 : World) (K : PySem.W.Frag) (mg : Str → Option Value) (base : Heap) (x : Str) (ps : List Str) (k : Nat) (m : FM) : Prop where
  ex : ∃ f fd, mg x = some (.ref f) ∧ PySem.W.keepIn K (.ref f) = true ∧ Binds K fd ps [] ∧ FnG P w0 K mg base k f fd ps (spM K mg ps.length m)
end
end G
namespace G
open PySem L2 PySem.Spec
section
variable {X : Cx} {W : WX} {a b c e o : Expr} {es : List Expr} {ma mb mc me : EM} {ta tb : TM} {pos : Pos} {x : Str} {p : Pos} {j k : Nat}
theorem Cg.tr (c : Cg X W k) {pn : List (Addr × Obj)} {xe : Value → Shared → Prop} {W' : WX} (t : Takes (X.tr pn xe) W') (po : PassesOwn (model X.prog X.w) X.A X.env xe) : Cg (X.tr pn xe) W' k := ⟨c.calm, c.nd, t, po, c.rm, c.hs, c.hf, c.em⟩
end
end G
namespace G
open PySem L2 PySem.Spec
abbrev bmValueError : List Value := [.type "ValueError", .type "Exception", .type "BaseException", .type "object"]
abbrev bmArithmeticError : List Value := [.type "ArithmeticError", .type "Exception", .type "BaseException", .type "object"]
end G
namespace G
open PySem L2 PySem.Spec PyProof.Rows
def refsX (o : Obj) : List Addr := (match o.dict with
  | some d => [d]
  | none => []) ++ match o.data with
  | .seq its _ => its.toList.flatMap He.refV
  | .dict es _ => es.toList.flatMap fun e => He.refV e.val
  | .func fd => He.refV fd.code ++ (He.refV fd.defaults ++ He.refV fd.kwdefaults)
  | .cls cd => [cd.ns]
  | _ => []
def lvX (g : Addr → Option Obj) : Nat → List Addr → List Addr
  | 0, as => as
  | n + 1, as => as ++ lvX g n (as.flatMap fun a => match g a with
    | some o => refsX o
    | none => [])
abbrev Fx : Type := PySem.W.Frag → Bool
def obsX (fx : List Fx) (fn : List He.DefD) (K : PySem.W.Frag) : He.AlD := ((fx.all fun f => f K) && fn.all fun d => d.ok K, fn.map fun d => He.fnW K d.at_)
def SaysX (fx : List Fx) (fn : List He.DefD) (K : PySem.W.Frag) : Prop := obsX fx fn K = He.valD fn
def oneFree (K : PySem.W.Frag) (x : Str) : Bool := He.eqO (PySem.W.nsIn K mainGlobals x) (some none)
def freesB (l : List Str) : Fx := fun K => l.all fun x => oneFree K x
def oneGlo (K : PySem.W.Frag) (x : Str) : Bool := He.eqO (PySem.W.nsIn K mainGlobals x) (some (some (.ref (He.ga K x))))
def glosB (l : List Str) : Fx := fun K => l.all fun x => oneGlo K x
def strB (x z : Str) : Fx := fun K => match PySem.W.nsIn K mainGlobals x with
  | some (some (.str y _)) => decide (y = z)
  | _ => false
section
variable {K : PySem.W.Frag} {h : Heap} {mg : Str → Option Value}
def xcoB (x : Str) (bm : List Value) (nw : String) : Fx := fun K => PySem.W.excIn K (He.ga K x) bm nw && (PySem.W.keepIn K (.ref (He.ga K x)) && (decide (PySem.W.subIn K (.ref (He.ga K x)) (.type "BaseException") = some true) && decide (PySem.W.typeIn K (.ref (He.ga K x)) = some (.type "type"))))
def exqB (K : PySem.W.Frag) (C : Addr) : Bool := He.eqO (PySem.W.findIn K (.ref C) "__getattribute__") (some (some (.builtin "BaseException.__getattribute__"))) && (He.eqO (PySem.W.findIn K (.ref C) "__getattr__") (some none) &&
  (decide (PySem.W.subIn K (.ref C) (.type "BaseException") = some true) && (PySem.W.hasDictIn K C && (He.eqO (PySem.W.findIn K (.ref C) "__class__") (some (some (.builtin "object.__class__"))) &&
  (He.eqO (PySem.W.specialIn K (.builtin "object.__class__") "__get__") (some (some (.builtin "getset_descriptor.__get__"))) && (decide (PySem.W.takesIn K (.builtin "object.__class__") = some true) && decide (PySem.W.mroIn K C (.type "object") = some true)))))))
def exsB (l : List Nat) : Fx := fun K => l.all fun n => oneGlo K (cname n) && exqB K (He.ga K (cname n))
def kitO (K : PySem.W.Frag) (D : Value) (p : Nat × Bool) : Bool := decide (PySem.W.kitOne K (.ref (He.ga K (cname p.1))) D = some p.2)
def kitB (D : PySem.W.Frag → Value) (l : List (Nat × Bool)) : Fx := fun K => l.all fun p => kitO K (D K) p
def exmO (K : PySem.W.Frag) (y : Str) (p : Nat × Bool) : Bool := decide (PySem.W.exmOne K (.ref (He.ga K (cname p.1))) (.ref (He.ga K y)) = some p.2)
def exmB (y : Str) (l : List (Nat × Bool)) : Fx := fun K => l.all fun p => exmO K y p
end
end G
namespace G
open PySem L2 PySem.Spec
end G
namespace G
open PySem L2 PySem.Spec
theorem fname_tab : ((List.range 48).all fun g => (List.range 48).all fun f => g == f || !(fname g == fname f)) = true := by decide +kernel
theorem fname_emp : ((List.range 48).all fun f => !((Str.ofString "") == fname f)) = true := by decide +kernel
theorem fname_big {g : Nat} (h : ¬ g < 48) : fname g = Str.ofString "" := by
  unfold fname
  rw [List.getD_eq_getElem?_getD, List.getElem?_eq_none (by show 48 ≤ g; omega)]
  rfl
theorem fname_ne {f g : Nat} (hf : f < 48) (h : g ≠ f) : fname g ≠ fname f := by
  intro e
  by_cases hg : g < 48
  · have := List.all_eq_true.mp (List.all_eq_true.mp fname_tab g (List.mem_range.mpr hg)) f (List.mem_range.mpr hf)
    rw [e] at this
    simp [h] at this
  · have := List.all_eq_true.mp fname_emp f (List.mem_range.mpr hf)
    rw [fname_big hg] at e
    rw [e] at this
    simp at this
section
variable {K : PySem.W.Frag} {mg : Str → Option Value} {w : Wo}
theorem RepF.get {fs : List (Nat × D)} {gs : List (Str × V)} {f : Nat} {d : D} (hf : f < 48) : RepF K mg w fs gs → fs.lookup f = some d → ∃ v, gs.lookup (fname f) = some v ∧ RepD K mg w d v
  | .nil, h => by cases h
  | @RepF.cons _ _ _ g d' v' l vs r t, h => by
    rw [List.lookup_cons] at h
    by_cases e : f = g
    · subst e
      simp only [beq_self_eq_true] at h
      cases h
      exact ⟨v', by rw [List.lookup_cons]; simp, r⟩
    · have hb : (f == g) = false := beq_eq_false_iff_ne.mpr e
      rw [hb] at h
      obtain ⟨v, h1, h2⟩ := RepF.get hf t h
      refine ⟨v, ?_, h2⟩
      have hc : (fname f == fname g) = false := beq_eq_false_iff_ne.mpr (Ne.symm (fname_ne hf (Ne.symm e)))
      rw [List.lookup_cons, hc]
      exact h1
def insD (S : Store) : D → Option (Nat × List (Nat × D))
  | .ins c fs => some (c, fs)
  | .loc n => match S[n]? with
    | some (.obj c fs) => some (c, fs)
    | _ => none
  | _ => none
end
end G
namespace G
open PySem L2 PySem.Spec
end G
namespace G
open PySem L2 PySem.Spec RZ
end G
namespace G
open PySem L2 PySem.Spec PyProof.Rows
def clsSt (st : Stmt) (j : Nat) : Stmt := match st with
  | .ClassDef _ _ _ body _ _ _ _ _ _ _ => body.getD j (.Pass ⟨0, 0, 0, 0⟩)
  | _ => .Pass ⟨0, 0, 0, 0⟩
def famC (n : Nat) : Nat := if n < 3 then n else if n < 24 then 0 else if n < 27 then 1 else 2
def subC (n c : Nat) : Bool := n == c || (famC n == c || 100 + famC n == c)
end G
namespace G
open PySem L2 PySem.Spec PyProof.Rows
end G
namespace G
open PySem L2 PySem.Spec
def isCn (cn : Nat) (S : Store) (d : D) : Bool := match insD S d with
  | some (c, _) => c == cn
  | none => false
end G
namespace G
open PySem L2 PySem.Spec PyProof.Rows
def valD (kvs : List (Key × D)) (k : Key) : Option D := (kvs.find? fun kv => decide (kv.1 = k)).map (·.2)
section
variable {K : PySem.W.Frag} {mg : Str → Option Value} {w : Wo}
theorem RepK.val {k : Key} {d : D} {kvs : List (Key × D)} {us : List (Key × V)} : RepK Key K mg w kvs us → valD kvs k = some d → ∃ v, valV us k = some v ∧ RepD K mg w d v
  | .nil, h => by cases h
  | @RepK.cons _ _ _ _ f d' v' l vs r t, h => by
    by_cases e : f = k
    · have h1 : valD ((f, d') :: l) k = some d' := by simp [valD, List.find?_cons, e]
      rw [h1] at h
      cases h
      exact ⟨v', valV_pos e, r⟩
    · have h1 : valD ((f, d') :: l) k = valD l k := by simp [valD, List.find?_cons, e]
      rw [h1] at h
      obtain ⟨v, q1, q2⟩ := RepK.val t h
      exact ⟨v, by rw [valV_neg (by exact e)]; exact q1, q2⟩
end
end G
namespace G
open PySem L2 PySem.Spec PyProof.Rows
end G
namespace G
open PySem L2 PySem.Spec
end G
namespace G
open PySem L2 PySem.Spec PyProof.Rows
end G
namespace G
open PySem L2 PySem.Spec
end G
namespace G
open PySem L2 PySem.Spec
instance : Inhabited V := ⟨.non⟩
section
variable {X : Cx} {W : WX} {a b c e l : Expr} {es : List Expr} {ma mb mc me : EM} {pos : Pos} {x : Str} {p : Pos} {j k : Nat} {ps ks : List Str} {f : FM}
instance {n : Nat} : Inhabited { vs : List V // vs.length = n } := ⟨⟨List.replicate n .non, by simp⟩⟩
end
end G
namespace G
open PySem L2 PySem.Spec PyProof.Rows
end G
namespace G
open PySem L2 PySem.Spec PyProof.Rows
end G
namespace G
open PySem L2 PySem.Spec PyProof.Rows
end G
namespace G
open PySem L2 PySem.Spec PyProof.Rows
abbrev Mk2 : Type := He.Defn × Str
def al0 (K : PySem.W.Frag) (ts : List Mk2) : List Addr := ts.map fun t => (He.cT K t.1).2
def obsTG (n : Nat) (fx : List Fx) (fn : List He.DefD) (tf : List He.Defn) (g : Addr → Option Obj) : He.AlD × Bool := (obsX fx fn (He.frT g (lvX g n [mainGlobals] ++ [cStatics])), He.tabsB g tf (He.frT g (lvX g n [mainGlobals] ++ [cStatics])))
structure SaysT (fx : List Fx) (fn : List He.DefD) (tf : List He.Defn) (h : Heap) (K : PySem.W.Frag) : Prop where
  s : SaysX fx fn K
  hd : ∀ p ∈ tf, PySem.W.codeHdIn K (He.cT K p).1 (He.cT K p).2 = true
  out : ∀ p ∈ tf, K.lookup (He.cT K p).2 = none
  empty : ∀ p ∈ tf, h.get? (He.cT K p).2 = some { cls := .none, data := .fields #[] }
theorem saysT_of {n : Nat} {fx : List Fx} {fn : List He.DefD} {tf : List He.Defn} {h : Heap} (e : obsTG n fx fn tf h.get? = (He.valD fn, true)) : SaysT fx fn tf h (He.frT h.get? (lvX h.get? n [mainGlobals] ++ [cStatics])) := by
  have e1 : obsX fx fn (He.frT h.get? (lvX h.get? n [mainGlobals] ++ [cStatics])) = He.valD fn := congrArg Prod.fst e
  have e2 : He.tabsB h.get? tf (He.frT h.get? (lvX h.get? n [mainGlobals] ++ [cStatics])) = true := congrArg Prod.snd e
  have one : ∀ p ∈ tf, PySem.W.codeHdIn (He.frT h.get? (lvX h.get? n [mainGlobals] ++ [cStatics])) (He.cT (He.frT h.get? (lvX h.get? n [mainGlobals] ++ [cStatics])) p).1 (He.cT (He.frT h.get? (lvX h.get? n [mainGlobals] ++ [cStatics])) p).2 = true ∧ ∃ o, h.get? (He.cT (He.frT h.get? (lvX h.get? n [mainGlobals] ++ [cStatics])) p).2 = some o ∧ He.emptyTab o = true := by
    intro p hp
    obtain ⟨a1, a2⟩ := He.ba (List.all_eq_true.mp e2 p hp)
    refine ⟨a1, ?_⟩
    split at a2
    · rename_i o q
      exact ⟨o, q, a2⟩
    · cases a2
  refine ⟨e1, fun p hp => (one p hp).1, fun p hp => ?_, fun p hp => ?_⟩
  · obtain ⟨_, o, q, z⟩ := one p hp
    exact He.frT_none q z
  · obtain ⟨_, o, q, z⟩ := one p hp
    rw [q, He.emptyTab_eq z]
def hookT (n : Nat) (fx : List Fx) (fn : List He.DefD) (tf : List He.Defn) : PySem.W.Hook where
  α := He.AlD × Bool
  obs := fun s => obsTG n fx fn tf s.heap.get?
  val := fun _ => (He.valD fn, true)
  says := fun _ h => ∃ K : PySem.W.Frag, K.In h ∧ SaysT fx fn tf h K
  of := fun _ _ e => ⟨_, He.frT_in, saysT_of e⟩
  keeps := fun _ _ _ ⟨K, hK, c⟩ k => ⟨K, PySem.W.Frag.In.keeps hK k, ⟨c.s, c.hd, c.out, fun p hp => k _ _ (c.empty p hp)⟩⟩
def obTT (n : Nat) (fx : List Fx) (fn : List He.DefD) (tf : List He.Defn) (s : PySem.W.SharedT) : He.AlD × Bool := obsTG n fx fn tf (HandSHeadRun.getT s)
section
variable {K : PySem.W.Frag} {mg : Str → Option Value}
def ndB (ts : List Mk2) : Fx := fun K => decide (al0 K ts).Nodup
end
end G
namespace G
open PySem L2 PySem.Spec PyProof.Rows
end G
namespace G
open PySem L2 PySem.Spec
end G
namespace G
open PySem L2 PySem.Spec
end G
namespace G
open PySem L2 PySem.Spec PyProof.Rows
end G
namespace G
open PySem L2 PySem.Spec
end G
namespace G
open PySem L2 PySem.Spec
end G
namespace G
open PySem L2 PySem.Spec
end G
namespace G
open PySem L2 PySem.Spec PyProof.Rows
def tbAny : List (Nat → Option Bool) → Nat → Option Bool
  | [], _ => some false
  | t :: r, n => match t n, tbAny r n with
    | some a, some b => some (a || b)
    | _, _ => none
end G
namespace G
open PySem L2 PySem.Spec
section
variable {X : Cx} {W : WX} {a b c e o : Expr} {es : List Expr} {ma mb mc me : EM} {ta tb : TM} {pos : Pos} {x : Str} {p : Pos} {j k : Nat}
def KtOk (K : PySem.W.Frag) (mg : Str → Option Value) (tb : Nat → Option Bool) (u : Value) : Prop := ∀ cn C q, tb cn = some q → mg (cname cn) = some (.ref C) → ExcC K C ∧ PySem.W.kitOne K (.ref C) u = some q
inductive PCs (X : Cx) : List Expr → List V → List Value → Prop
  | nil : PCs X [] [] []
  | cons {T : Str} {p2 : Pos} {cv : V} {u : Value} {es : List Expr} {cs : List V} {us : List Value} (hT : PE X (.Name T p2) (tC cv)) (hcv : ClsV cv u) (hs : starEach (.Name T p2 :: es) X.env = (false, eval (.Name T p2) X.env) :: starEach es X.env) (r : PCs X es cs us) : PCs X (.Name T p2 :: es) (cv :: cs) (u :: us)
theorem PCs.cls {es : List Expr} {cs : List V} {us : List Value} (h : PCs X es cs us) : Paired ClsV cs us := by
  induction h with
  | nil => exact .nil
  | cons hT hcv hs r ih => exact .cons hcv ih
theorem PCs.len {es : List Expr} {cs : List V} {us : List Value} (h : PCs X es cs us) : cs.length = es.length := by
  induction h with
  | nil => rfl
  | cons hT hcv hs r ih => simp [ih]
inductive KtsOk (K : PySem.W.Frag) (mg : Str → Option Value) : List (Nat → Option Bool) → List Value → Prop
  | nil : KtsOk K mg [] []
  | cons {t : Nat → Option Bool} {c : Value} {ts : List (Nat → Option Bool)} {cs : List Value} (h : KtOk K mg t c) (r : KtsOk K mg ts cs) : KtsOk K mg (t :: ts) (c :: cs)
theorem KtsOk.exc {K : PySem.W.Frag} {mg : Str → Option Value} {t : Nat → Option Bool} {ts : List (Nat → Option Bool)} {cs : List Value} (h : KtsOk K mg (t :: ts) cs) {cn : Nat} {C : Addr} {q : Bool} (e : tbAny (t :: ts) cn = some q) (hC : mg (cname cn) = some (.ref C)) : ExcC K C := by
  cases h with
  | cons h r =>
    unfold tbAny at e
    split at e
    · rename_i b1 b2 e1 e2
      exact (h cn C b1 e1 hC).1
    · cases e
end
end G
namespace G
open PySem L2 PySem.Spec
section
variable {K : PySem.W.Frag}
def xoC (K : PySem.W.Frag) (C : Addr) (tl : List Value) (nw : String) (cd : ClassData) (sl : Array (Option Value)) : Bool := match cd.mro, sl.toList with
  | .ref C' :: bm, [_, _, _, _, some (.builtin n), _] => decide (C' = C) && (decide (n = nw) && (!cd.hasDel && (cd.hasDict && PySem.W.excTail tl bm)))
  | _, _ => false
def xoL (K : PySem.W.Frag) (C : Addr) (tl : List Value) (nw : String) : Bool := match K.lookup C with
  | some ⟨.type c, _, .cls cd, sl⟩ => decide (c = "type") && xoC K C tl nw cd sl
  | _ => false
def xoB (x : Str) (tl : List Value) (nw : String) : Fx := fun K => xoL K (He.ga K x) tl nw && (He.eqO (PySem.W.findIn K (.ref (He.ga K x)) "__setattr__") (some (some (.builtin "object.__setattr__"))) && (decide (PySem.W.subIn K (.ref (He.ga K x)) (.type "BaseException") = some true) && (decide (PySem.W.typeIn K (.ref (He.ga K x)) = some (.type "type")) && PySem.W.keepIn K (.ref (He.ga K x)))))
def iniB (x f : Str) : Fx := fun K => He.eqO (PySem.W.findIn K (.ref (He.ga K x)) "__init__") (some (some (.ref (He.fAd K (x, some "__init__"))))) && (decide (PySem.W.typeIn K (.ref (He.fAd K (x, some "__init__"))) = some (.type "function")) && He.eqO (PySem.W.findIn K (.ref (He.ga K x)) f) (some none))
def fcB (K : PySem.W.Frag) (C : Addr) (ini : String) : Bool := match PySem.W.findCls K (.ref C) (.type "type") "__init__" with
  | some (.val (.builtin n)) => decide (n = ini)
  | _ => false
def hdB (x : Str) (ini : String) : Fx := fun K => He.eqO (PySem.W.specialIn K (.ref (He.ga K x)) "__getattribute__") (some (some (.builtin "type.__getattribute__"))) && (PySem.W.readsIn K (He.ga K x) (.type "type") && (fcB K (He.ga K x) ini && PySem.W.handedIn (.builtin ini)))
def xcfB (f : Nat) (cs : List Nat) : Fx := fun K => cs.all fun n => oneGlo K (cname n) && (exqB K (He.ga K (cname n)) && He.eqO (PySem.W.findIn K (.ref (He.ga K (cname n))) (fname f)) (some none))
end
end G
namespace G
open PySem L2 PySem.Spec
end G
namespace G
open PySem L2
end G
namespace G
open PySem L2 PySem.Spec
end G
namespace G
open PySem L2 PySem.Spec
end G
namespace G
open PySem L2 PySem.Spec
end G
namespace G
open PySem L2 PySem.Spec PyProof.Rows
end G
namespace G
open PySem L2 PySem.Spec PyProof.Rows
end G
namespace G
open PySem L2 PySem.Spec
end G
namespace G
open PySem L2 PySem.Spec
end G
namespace G
open PySem L2 PySem.Spec
end G
namespace G
open PySem L2 PySem.Spec PyProof.Rows SrtO
def IsFst (h : Heap) (v : Value) (x : Int) : Prop := ∃ a o t r n, v = .ref a ∧ h.get? a = some o ∧ o.cls = .type "tuple" ∧ o.data = .seq #[.int x t, r] n
theorem IsFst.keeps {h h' : Heap} {v : Value} {x : Int} (p : IsFst h v x) (k : ∀ b o, h.get? b = some o → o.cls = .type "tuple" → h'.get? b = some o) : IsFst h' v x := by
  obtain ⟨a, o, t, r, n, e, ho, hc, hd⟩ := p
  exact ⟨a, o, t, r, n, e, k _ _ ho hc, hc, hd⟩
def fstV (h : Heap) (v : Value) : Int := match v with
  | .ref a => match h.get? a with
    | some o => match o.data with
      | .seq its _ => match its[0]? with
        | some (Value.int i _) => i
        | _ => 0
      | _ => 0
    | _ => 0
  | _ => 0
theorem IsFst.val {h : Heap} {v : Value} {x : Int} (p : IsFst h v x) : fstV h v = x := by
  obtain ⟨a, o, t, r, n, rfl, ho, _, hd⟩ := p
  unfold fstV
  simp only [ho, hd]
  rfl
end G
namespace G
open PySem L2 PySem.Spec
end G
namespace G
open PySem L2 PySem.Spec
section
variable {X : Cx} {W : WX} {a b c e o f : Expr} {es : List Expr} {ma mb mc me : EM} {pos apos cpos tpos : Pos} {x : Str}
theorem RepK.zip {K : PySem.W.Frag} {mg : Str → Option Value} {w : Wo} : ∀ {ks : List Key} {ds : List D} {us : List V}, RepL K mg w ds us → RepK Key K mg w (ks.zip ds) (ks.zip us)
  | [], _, _, _ => by simp only [List.zip_nil_left]; exact .nil
  | _ :: _, _, _, .nil => .nil
  | k :: ks, _, _, .cons r t => .cons r (RepK.zip t)
end
end G
namespace G
open PySem L2 PySem.Spec PyProof.Rows PySem.SeqAt
end G
namespace G
open PySem L2 PySem.Spec PyProof.Rows PySem.SeqAt PySem.W
end G
namespace G
open PySem L2 PySem.Spec PyProof.Rows
end G
namespace G
open PySem L2 PySem.Spec PyProof.Rows
end G
namespace G
open PySem L2 PySem.Spec PyProof.Rows PySem.SeqAt
end G
namespace G
open PySem L2 PySem.Spec
end G
namespace G
open PySem PySem.W
end G
namespace G
open PySem L2 PySem.Spec PyProof.Rows
end G
namespace G
open PySem PySem.W HandSHeadRun
end G
namespace G
open PySem L2 PySem.Spec PyProof.Rows
def eqOf (neg : Bool) (r : Res D) : Res D := r.bind fun y S1 => match y with
  | .bl b => .ok (.bl (if neg = true then !b else b)) S1
  | _ => .stuck
def eqO (neg : Bool) (cn : Nat) (f : FM) (gD : List D → List D → List D) (x y : D) (S : Store) : Res D := if isCn cn S x = true ∧ isCn cn S y = true then eqOf neg (f (gD [x, y] []) S) else .stuck
end G
namespace G
open PySem L2 PySem.Spec PyProof.Rows
end G
namespace G
open PySem L2 PySem.Spec PyProof.Rows
end G
namespace G
open PySem L2 PySem.Spec PyProof.Rows
inductive FsOk (P : Program) (w0 : World) (K : PySem.W.Frag) (mg : Str → Option Value) (base : Heap) (k : Nat) : List (Str × Str) → List (Str × Nat × FM) → Prop where
  | nil : FsOk P w0 K mg base k [] []
  | cons {z g : Str} {ps : List Str} {j : Nat} {f : FM} {ks : List (Str × Str)} {fs : List (Str × Nat × FM)} : Df P w0 K mg base g ps j f → j ≤ k → FsOk P w0 K mg base k ks fs → FsOk P w0 K mg base k ((z, g) :: ks) ((z, ps.length, f) :: fs)
theorem FsOk.get {P : Program} {w0 : World} {K : PySem.W.Frag} {mg : Str → Option Value} {base : Heap} {k : Nat} {ks : List (Str × Str)} {fs : List (Str × Nat × FM)} (h : FsOk P w0 K mg base k ks fs) {z : Str} {q : Nat × FM} (e : fs.lookup z = some q) :
    ∃ g ps j, ks.lookup z = some g ∧ j ≤ k ∧ ps.length = q.1 ∧ Df P w0 K mg base g ps j q.2 := by
  induction h with
  | nil => cases e
  | @cons z' g ps j f ks fs hF hj _ ih =>
    rw [List.lookup_cons] at e ⊢
    cases c : z == z' with
    | true =>
      rw [c] at e
      cases e
      exact ⟨g, ps, j, rfl, hj, rfl, hF⟩
    | false =>
      rw [c] at e
      exact ih e
end G
namespace G
open PySem L2 PySem.Spec PyProof.Rows
end G
namespace G
open PySem L2 PySem.Spec PyProof.Rows
end G
namespace G
open PySem L2 PySem.Spec PyProof.Rows RZ
end G
namespace G
open PySem L2 PySem.Spec
end G
namespace G
open PySem L2 PySem.Spec PyProof.Rows
end G
namespace G
open PySem L2 PySem.Spec PyProof.Rows
end G
namespace G
open PySem L2 PySem.Spec PyProof.Rows
end G
namespace G
open PySem L2 PySem.Spec PyProof.Rows
end G
namespace G
open PySem L2 PySem.Spec PyProof.Rows
open PySem.SeqAt
open AutoSeq1 (wpAny_loadPart')
end G
namespace G
open PySem L2 PySem.Spec PyProof.Rows
open PySem.W (InstAt)
end G
namespace G
open PySem L2 PySem.Spec
end G
namespace G
open PySem L2 PySem.Spec PyProof.Rows
end G
namespace G
open PySem L2 PySem.Spec PyProof.Rows
open PySem.W (InstAt)
end G
namespace G
open PySem L2 PySem.Spec PyProof.Rows
end G
namespace G
open PySem L2 PySem.Spec PyProof.Rows
end G
namespace G
open PySem L2 PySem.Spec PyProof.Rows
end G
namespace G
open PySem L2 PySem.Spec PyProof.Rows
end G
namespace G
open PySem L2 PySem.Spec PyProof.Rows
end G
namespace G
open PySem L2 PySem.Spec PyProof.Rows
end G
namespace G
open PySem L2 PySem.Spec PyProof.Rows
end G
namespace G
open PySem L2 PySem.Spec PyProof.Rows
open MeetsSeq MeetsSeq2 MeetsSeq3
end G
namespace G
open PySem L2 PySem.Spec PyProof.Rows RZ
end G
namespace G
open PySem L2 PySem.Spec PyProof.Rows
end G
namespace G
open PySem L2 PySem.Spec PyProof.Rows
end G
namespace G
open PySem L2 PySem.Spec PyProof.Rows SrtO
def IsFsS (h : Heap) (v : Value) (x : Str) : Prop := ∃ a o t r n, v = .ref a ∧ h.get? a = some o ∧ o.cls = .type "tuple" ∧ o.data = .seq #[.str x t, r] n
theorem IsFsS.keeps {h h' : Heap} {v : Value} {x : Str} (p : IsFsS h v x) (k : ∀ b o, h.get? b = some o → o.cls = .type "tuple" → h'.get? b = some o) : IsFsS h' v x := by
  obtain ⟨a, o, t, r, n, e, ho, hc, hd⟩ := p
  exact ⟨a, o, t, r, n, e, k _ _ ho hc, hc, hd⟩
def fstVS (h : Heap) (v : Value) : Str := match v with
  | .ref a => match h.get? a with
    | some o => match o.data with
      | .seq its _ => match its[0]? with
        | some (Value.str i _) => i
        | _ => ""
      | _ => ""
    | _ => ""
  | _ => ""
theorem IsFsS.val {h : Heap} {v : Value} {x : Str} (p : IsFsS h v x) : fstVS h v = x := by
  obtain ⟨a, o, t, r, n, rfl, ho, _, hd⟩ := p
  unfold fstVS
  simp only [ho, hd]
  rfl
end G
namespace G
open PySem L2 PySem.Spec PyProof.Rows
open PySem.W (InstAt)
end G
namespace G
open PySem L2 PySem.Spec PyProof.Rows
open PySem.W (InstAt)
end G
namespace G
open PySem L2 PySem.Spec
end G
namespace G
open PySem L2 PySem.Spec
end G
namespace G
open PySem L2 PySem.Spec PyProof.Rows
end G
namespace G
open PySem L2 PySem.Spec PyProof.Rows
end G
namespace Wk04
open PySem L2 G
noncomputable section
def topS (i : Nat) : Stmt := PySem.Challenge.pw_sharetags_k04_no_ratios.main.body.getD i (.Pass ⟨0, 0, 0, 0⟩)
abbrev s__law_cell : Stmt := topS 53
abbrev s__law_caught : Stmt := topS 58
abbrev s__law_kinds : Stmt := topS 57
abbrev s__law_word : Stmt := topS 59
abbrev s_is_whole : Stmt := topS 36
abbrev s_shared : Stmt := topS 37
abbrev s_is_ratio : Stmt := topS 38
abbrev s_check_ratio : Stmt := topS 41
abbrev s_check_two : Stmt := topS 42
abbrev s_lowest : Stmt := topS 39
abbrev s_added : Stmt := topS 43
abbrev s_is_before : Stmt := topS 47
abbrev s_greater : Stmt := topS 48
abbrev s_lowered : Stmt := topS 44
abbrev s_ratio : Stmt := topS 40
abbrev s_parted : Stmt := topS 46
abbrev s_scaled : Stmt := topS 45
abbrev s__law_deeds : Stmt := topS 62
abbrev s__law_take : Stmt := topS 55
abbrev s__law_odd : Stmt := topS 61
abbrev s__law_pool : Stmt := topS 54
abbrev s__law_r : Stmt := topS 56
abbrev s__law_ratio : Stmt := topS 60
abbrev s__law_text : Stmt := topS 63
abbrev s__law_due : Stmt := topS 64
abbrev s_is_number : Stmt := topS 50
abbrev s_show_ratio : Stmt := topS 49
abbrev s_read_ratio : Stmt := topS 51
abbrev s__law_read_right : Stmt := topS 65
abbrev s_law : Stmt := topS 66
abbrev mk__law_deeds : Mk2 := (("_law_deeds", none), "_law_deeds.<locals>.<lambda>")
abbrev mk__law_read_right : Mk2 := (("_law_read_right", none), "_law_read_right.<locals>.<lambda>")
abbrev mk_law : Mk2 := (("law", none), "law.<locals>.<lambda>")
abbrev tsL : List Mk2 := [mk__law_deeds, mk__law_read_right, mk_law]
abbrev s_NoText___init__ : Stmt := clsSt (topS 5) 0
def d__law_cell : He.DefD := ⟨("_law_cell", none), "_law_cell", "_law_cell", defArgs s__law_cell, defBody s__law_cell, defScope s__law_cell, [], []⟩
def d__law_caught : He.DefD := ⟨("_law_caught", none), "_law_caught", "_law_caught", defArgs s__law_caught, defBody s__law_caught, defScope s__law_caught, [], []⟩
def d__law_kinds : He.DefD := ⟨("_law_kinds", none), "_law_kinds", "_law_kinds", defArgs s__law_kinds, defBody s__law_kinds, defScope s__law_kinds, [], []⟩
def d__law_word : He.DefD := ⟨("_law_word", none), "_law_word", "_law_word", defArgs s__law_word, defBody s__law_word, defScope s__law_word, [], []⟩
def d_is_whole : He.DefD := ⟨("is_whole", none), "is_whole", "is_whole", defArgs s_is_whole, defBody s_is_whole, defScope s_is_whole, [], []⟩
def d_shared : He.DefD := ⟨("shared", none), "shared", "shared", defArgs s_shared, defBody s_shared, defScope s_shared, [], []⟩
def d_is_ratio : He.DefD := ⟨("is_ratio", none), "is_ratio", "is_ratio", defArgs s_is_ratio, defBody s_is_ratio, defScope s_is_ratio, [], []⟩
def d_check_ratio : He.DefD := ⟨("check_ratio", none), "check_ratio", "check_ratio", defArgs s_check_ratio, defBody s_check_ratio, defScope s_check_ratio, [], []⟩
def d_check_two : He.DefD := ⟨("check_two", none), "check_two", "check_two", defArgs s_check_two, defBody s_check_two, defScope s_check_two, [], []⟩
def d_lowest : He.DefD := ⟨("lowest", none), "lowest", "lowest", defArgs s_lowest, defBody s_lowest, defScope s_lowest, [], []⟩
def d_added : He.DefD := ⟨("added", none), "added", "added", defArgs s_added, defBody s_added, defScope s_added, [], []⟩
def d_is_before : He.DefD := ⟨("is_before", none), "is_before", "is_before", defArgs s_is_before, defBody s_is_before, defScope s_is_before, [], []⟩
def d_greater : He.DefD := ⟨("greater", none), "greater", "greater", defArgs s_greater, defBody s_greater, defScope s_greater, [], []⟩
def d_lowered : He.DefD := ⟨("lowered", none), "lowered", "lowered", defArgs s_lowered, defBody s_lowered, defScope s_lowered, [], []⟩
def d_ratio : He.DefD := ⟨("ratio", none), "ratio", "ratio", defArgs s_ratio, defBody s_ratio, defScope s_ratio, [.int 1], []⟩
def d_parted : He.DefD := ⟨("parted", none), "parted", "parted", defArgs s_parted, defBody s_parted, defScope s_parted, [], []⟩
def d_scaled : He.DefD := ⟨("scaled", none), "scaled", "scaled", defArgs s_scaled, defBody s_scaled, defScope s_scaled, [], []⟩
def d__law_deeds : He.DefD := ⟨("_law_deeds", none), "_law_deeds", "_law_deeds", defArgs s__law_deeds, defBody s__law_deeds, defScope s__law_deeds, [], []⟩
def d__law_take : He.DefD := ⟨("_law_take", none), "_law_take", "_law_take", defArgs s__law_take, defBody s__law_take, defScope s__law_take, [], []⟩
def d__law_odd : He.DefD := ⟨("_law_odd", none), "_law_odd", "_law_odd", defArgs s__law_odd, defBody s__law_odd, defScope s__law_odd, [], []⟩
def d__law_pool : He.DefD := ⟨("_law_pool", none), "_law_pool", "_law_pool", defArgs s__law_pool, defBody s__law_pool, defScope s__law_pool, [], []⟩
def d__law_r : He.DefD := ⟨("_law_r", none), "_law_r", "_law_r", defArgs s__law_r, defBody s__law_r, defScope s__law_r, [], []⟩
def d__law_ratio : He.DefD := ⟨("_law_ratio", none), "_law_ratio", "_law_ratio", defArgs s__law_ratio, defBody s__law_ratio, defScope s__law_ratio, [], []⟩
def d__law_text : He.DefD := ⟨("_law_text", none), "_law_text", "_law_text", defArgs s__law_text, defBody s__law_text, defScope s__law_text, [], []⟩
def d__law_due : He.DefD := ⟨("_law_due", none), "_law_due", "_law_due", defArgs s__law_due, defBody s__law_due, defScope s__law_due, [], []⟩
def d_is_number : He.DefD := ⟨("is_number", none), "is_number", "is_number", defArgs s_is_number, defBody s_is_number, defScope s_is_number, [], []⟩
def d_show_ratio : He.DefD := ⟨("show_ratio", none), "show_ratio", "show_ratio", defArgs s_show_ratio, defBody s_show_ratio, defScope s_show_ratio, [], []⟩
def d_read_ratio : He.DefD := ⟨("read_ratio", none), "read_ratio", "read_ratio", defArgs s_read_ratio, defBody s_read_ratio, defScope s_read_ratio, [], []⟩
def d__law_read_right : He.DefD := ⟨("_law_read_right", none), "_law_read_right", "_law_read_right", defArgs s__law_read_right, defBody s__law_read_right, defScope s__law_read_right, [], []⟩
def d_law : He.DefD := ⟨("law", none), "law", "law", defArgs s_law, defBody s_law, defScope s_law, [], []⟩
def d_NoText___init__ : He.DefD := ⟨("NoText", some "__init__"), "__init__", "NoText.__init__", defArgs s_NoText___init__, defBody s_NoText___init__, defScope s_NoText___init__, [], []⟩
def fnAll : List He.DefD := [d__law_cell, d__law_caught, d__law_kinds, d__law_word, d_is_whole, d_shared, d_is_ratio, d_check_ratio, d_check_two, d_lowest, d_added, d_is_before, d_greater, d_lowered, d_ratio, d_parted, d_scaled, d__law_deeds, d__law_take, d__law_odd, d__law_pool, d__law_r, d__law_ratio, d__law_text, d__law_due, d_is_number, d_show_ratio, d_read_ratio, d__law_read_right, d_law, d_NoText___init__]
def fx_0 : Fx := freesB [("ArithmeticError" : Str), ("LookupError" : Str), ("ValueError" : Str), ("abs" : Str), ("all" : Str), ("bool" : Str), ("divmod" : Str), ("int" : Str), ("isinstance" : Str), ("len" : Str), ("max" : Str), ("min" : Str), ("range" : Str), ("str" : Str), ("tuple" : Str)]
def fx_1 : Fx := glosB [("_law_cell" : Str), ("_law_caught" : Str), ("_law_kinds" : Str), ("_law_word" : Str), ("is_whole" : Str), ("shared" : Str), ("is_ratio" : Str), ("check_ratio" : Str), ("check_two" : Str), ("lowest" : Str), ("added" : Str), ("is_before" : Str), ("greater" : Str), ("lowered" : Str), ("ratio" : Str), ("parted" : Str), ("scaled" : Str), ("_law_deeds" : Str), ("_law_take" : Str), ("_law_odd" : Str)]
def fx_2 : Fx := glosB [("_law_pool" : Str), ("_law_r" : Str), ("_law_ratio" : Str), ("_law_text" : Str), ("_law_due" : Str), ("is_number" : Str), ("show_ratio" : Str), ("read_ratio" : Str), ("_law_read_right" : Str), ("law" : Str), ("Full" : Str), ("LostError" : Str), ("NoAsk" : Str), ("NoClient" : Str), ("NoDeeds" : Str), ("NoLeast" : Str), ("NoLeasts" : Str), ("NoLess" : Str), ("NoLog" : Str), ("NoName" : Str)]
def fx_3 : Fx := glosB [("NoNumber" : Str), ("NoOne" : Str), ("NoPlace" : Str), ("NoPlan" : Str), ("NoRate" : Str), ("NoRatio" : Str), ("NoRivals" : Str), ("NoRow" : Str), ("NoSize" : Str), ("NoStretch" : Str), ("NoTags" : Str), ("NoText" : Str), ("NoTime" : Str), ("NoTruth" : Str), ("NoWeight" : Str), ("NoWord" : Str), ("Nought" : Str), ("Past" : Str), ("ShareError" : Str), ("Stands" : Str)]
def fx_4 : Fx := glosB [("TagError" : Str), ("TooMany" : Str), ("TooMuch" : Str)]
def fx_5 : Fx := strB "FIGURES" "0123456789"
def fx_6 : Fx := xoB "NoText" bmValueError "ValueError.__new__"
def fx_7 : Fx := iniB "NoText" "row"
def fx_8 : Fx := hdB "TagError" "ValueError.__init__"
def fx_9 : Fx := xcfB 4 [4, 17, 20]
def fx_10 : Fx := xcoB "NoRatio" bmValueError "ValueError.__new__"
def fx_11 : Fx := xcoB "Nought" bmArithmeticError "ArithmeticError.__new__"
def fx_12 : Fx := exsB [3, 4, 27]
def fx_13 : Fx := kitB (fun _ => .type "ArithmeticError") ([3, 4, 27].map fun n => (n, subC n 102))
def fx_14 : Fx := kitB (fun K => .ref (He.ga K "Full")) ([3, 4, 27].map fun n => (n, subC n 31))
def fx_15 : Fx := kitB (fun _ => .type "LookupError") ([3, 4, 27].map fun n => (n, subC n 101))
def fx_16 : Fx := kitB (fun K => .ref (He.ga K "LostError")) ([3, 4, 27].map fun n => (n, subC n 1))
def fx_17 : Fx := kitB (fun K => .ref (He.ga K "NoAsk")) ([3, 4, 27].map fun n => (n, subC n 25))
def fx_18 : Fx := kitB (fun K => .ref (He.ga K "NoClient")) ([3, 4, 27].map fun n => (n, subC n 12))
def fx_19 : Fx := kitB (fun K => .ref (He.ga K "NoDeeds")) ([3, 4, 27].map fun n => (n, subC n 16))
def fx_20 : Fx := kitB (fun K => .ref (He.ga K "NoLeast")) ([3, 4, 27].map fun n => (n, subC n 13))
def fx_21 : Fx := kitB (fun K => .ref (He.ga K "NoLeasts")) ([3, 4, 27].map fun n => (n, subC n 21))
def fx_22 : Fx := kitB (fun K => .ref (He.ga K "NoLess")) ([3, 4, 27].map fun n => (n, subC n 19))
def fx_23 : Fx := kitB (fun K => .ref (He.ga K "NoLog")) ([3, 4, 27].map fun n => (n, subC n 17))
def fx_24 : Fx := kitB (fun K => .ref (He.ga K "NoName")) ([3, 4, 27].map fun n => (n, subC n 5))
def fx_25 : Fx := kitB (fun K => .ref (He.ga K "NoNumber")) ([3, 4, 27].map fun n => (n, subC n 8))
def fx_26 : Fx := kitB (fun K => .ref (He.ga K "NoOne")) ([3, 4, 27].map fun n => (n, subC n 24))
def fx_27 : Fx := kitB (fun K => .ref (He.ga K "NoPlace")) ([3, 4, 27].map fun n => (n, subC n 26))
def fx_28 : Fx := kitB (fun K => .ref (He.ga K "NoPlan")) ([3, 4, 27].map fun n => (n, subC n 20))
def fx_29 : Fx := kitB (fun K => .ref (He.ga K "NoRate")) ([3, 4, 27].map fun n => (n, subC n 6))
def fx_30 : Fx := kitB (fun K => .ref (He.ga K "NoRatio")) ([3, 4, 27].map fun n => (n, subC n 3))
def fx_31 : Fx := kitB (fun K => .ref (He.ga K "NoRivals")) ([3, 4, 27].map fun n => (n, subC n 14))
def fx_32 : Fx := kitB (fun K => .ref (He.ga K "NoRow")) ([3, 4, 27].map fun n => (n, subC n 23))
def fx_33 : Fx := kitB (fun K => .ref (He.ga K "NoSize")) ([3, 4, 27].map fun n => (n, subC n 11))
def fx_34 : Fx := kitB (fun K => .ref (He.ga K "NoStretch")) ([3, 4, 27].map fun n => (n, subC n 18))
def fx_35 : Fx := kitB (fun K => .ref (He.ga K "NoTags")) ([3, 4, 27].map fun n => (n, subC n 10))
def fx_36 : Fx := kitB (fun K => .ref (He.ga K "NoText")) ([3, 4, 27].map fun n => (n, subC n 4))
def fx_37 : Fx := kitB (fun K => .ref (He.ga K "NoTime")) ([3, 4, 27].map fun n => (n, subC n 9))
def fx_38 : Fx := kitB (fun K => .ref (He.ga K "NoTruth")) ([3, 4, 27].map fun n => (n, subC n 15))
def fx_39 : Fx := kitB (fun K => .ref (He.ga K "NoWeight")) ([3, 4, 27].map fun n => (n, subC n 7))
def fx_40 : Fx := kitB (fun K => .ref (He.ga K "NoWord")) ([3, 4, 27].map fun n => (n, subC n 22))
def fx_41 : Fx := kitB (fun K => .ref (He.ga K "Nought")) ([3, 4, 27].map fun n => (n, subC n 27))
def fx_42 : Fx := kitB (fun K => .ref (He.ga K "Past")) ([3, 4, 27].map fun n => (n, subC n 32))
def fx_43 : Fx := kitB (fun K => .ref (He.ga K "ShareError")) ([3, 4, 27].map fun n => (n, subC n 2))
def fx_44 : Fx := kitB (fun K => .ref (He.ga K "Stands")) ([3, 4, 27].map fun n => (n, subC n 28))
def fx_45 : Fx := kitB (fun K => .ref (He.ga K "TagError")) ([3, 4, 27].map fun n => (n, subC n 0))
def fx_46 : Fx := kitB (fun K => .ref (He.ga K "TooMany")) ([3, 4, 27].map fun n => (n, subC n 29))
def fx_47 : Fx := kitB (fun K => .ref (He.ga K "TooMuch")) ([3, 4, 27].map fun n => (n, subC n 30))
def fx_48 : Fx := kitB (fun _ => .type "ValueError") ([3, 4, 27].map fun n => (n, subC n 100))
def fx_49 : Fx := exmB "LostError" ([3, 4, 27].map fun n => (n, subC n 1))
def fx_50 : Fx := exmB "ShareError" ([3, 4, 27].map fun n => (n, subC n 2))
def fx_51 : Fx := exmB "TagError" ([3, 4, 27].map fun n => (n, subC n 0))
def fx_52 : Fx := ndB tsL
def fxAll : List Fx := [fx_0, fx_1, fx_2, fx_3, fx_4, fx_5, fx_6, fx_7, fx_8, fx_9, fx_10, fx_11, fx_12, fx_13, fx_14, fx_15, fx_16, fx_17, fx_18, fx_19, fx_20, fx_21, fx_22, fx_23, fx_24, fx_25, fx_26, fx_27, fx_28, fx_29, fx_30, fx_31, fx_32, fx_33, fx_34, fx_35, fx_36, fx_37, fx_38, fx_39, fx_40, fx_41, fx_42, fx_43, fx_44, fx_45, fx_46, fx_47, fx_48, fx_49, fx_50, fx_51, fx_52]
abbrev R : PySem.W.OpenRow := PySem.W.OpenLaw.row PySem.Challenge.rw_sharetags_k04_no_ratios
abbrev qv : Program := PySem.W.view R.prog [66]
def nm_0 : List Str := [("TagError" : Str), ("LostError" : Str), ("ShareError" : Str), ("NoRatio" : Str), ("NoText" : Str), ("NoName" : Str), ("NoRate" : Str), ("NoWeight" : Str), ("NoNumber" : Str), ("NoTime" : Str), ("NoTags" : Str), ("NoSize" : Str), ("NoClient" : Str), ("NoLeast" : Str), ("NoRivals" : Str), ("NoTruth" : Str), ("NoDeeds" : Str), ("NoLog" : Str), ("NoStretch" : Str), ("NoLess" : Str)]
def nm_1 : List Str := [("NoPlan" : Str), ("NoLeasts" : Str), ("NoWord" : Str), ("NoRow" : Str), ("NoOne" : Str), ("NoAsk" : Str), ("NoPlace" : Str), ("Nought" : Str), ("Stands" : Str), ("TooMany" : Str), ("TooMuch" : Str), ("Full" : Str), ("Past" : Str), ("FIGURES" : Str), ("is_whole" : Str), ("shared" : Str), ("is_ratio" : Str), ("lowest" : Str), ("ratio" : Str), ("check_ratio" : Str)]
def nm_2 : List Str := [("check_two" : Str), ("added" : Str), ("lowered" : Str), ("scaled" : Str), ("parted" : Str), ("is_before" : Str), ("greater" : Str), ("show_ratio" : Str), ("is_number" : Str), ("read_ratio" : Str), ("_law_cell" : Str), ("_law_pool" : Str), ("_law_take" : Str), ("_law_r" : Str), ("_law_kinds" : Str), ("_law_caught" : Str), ("_law_word" : Str), ("_law_ratio" : Str), ("_law_odd" : Str), ("_law_deeds" : Str)]
def nm_3 : List Str := [("_law_text" : Str), ("_law_due" : Str), ("_law_read_right" : Str)]
def nmAll : List Str := nm_0 ++ nm_1 ++ nm_2 ++ nm_3
end
end Wk04
namespace Wk04
open PySem L2 G PySem.W PySem.Calls PyProof.Rows
set_option maxRecDepth 100000 in
set_option maxHeartbeats 0 in
theorem run (w : World) : HandSHeadRun.RunEq R qv (hookT 5 fxAll fnAll (tsL.map (·.1))) (obTT 5 fxAll fnAll (tsL.map (·.1))) 100000 nmAll w := by
  intro os
  kernel_rfl
end Wk04
set_option Elab.async false
set_option linter.all false
set_option maxRecDepth 100000
set_option maxHeartbeats 8000000
namespace G
open PySem L2
theorem Fz.same {w w' : Wo} (h1 : w'.st = w.st) (h2 : w'.hp = w.hp) : Fz w w' := fun _ _ _ _ h _ => ⟨by rw [h1]; exact h, by rw [h2]⟩
theorem Ex0.refl (w : Wo) : Ex0 w w := ⟨⟨[], by simp⟩, fun _ h => .inl h, fun _ _ h _ => h, fun _ o h => ⟨o, h⟩⟩
theorem Ext.refl (w : Wo) : Ext w w := ⟨Ex0.refl w, rfl, fun _ _ => rfl, Fz.same rfl rfl⟩
variable {K : PySem.W.Frag} {mg : Str → Option Value} {w w' : Wo}
theorem RepL.getV {l : List D} {vs : List V} {i : Nat} {v : V} : RepL K mg w l vs → vs[i]? = some v → ∃ d, l[i]? = some d ∧ RepD K mg w d v
  | .nil, h => by simp at h
  | .cons r t, h => by
    cases i with
    | zero => simp at h; subst h; exact ⟨_, by simp, r⟩
    | succ i =>
      obtain ⟨v, e, q⟩ := RepL.getV (i := i) t (by simpa using h)
      exact ⟨v, by simpa using e, q⟩
theorem RepL.append {l m : List D} {vs us : List V} : RepL K mg w l vs → RepL K mg w m us → RepL K mg w (l ++ m) (vs ++ us)
  | .nil, h => h
  | .cons r t, h => .cons r (RepL.append t h)
theorem RepL.take {l : List D} {vs : List V} : ∀ (n : Nat), RepL K mg w l vs → RepL K mg w (l.take n) (vs.take n)
  | 0, _ => by simp only [List.take_zero]; exact .nil
  | _ + 1, .nil => .nil
  | n + 1, .cons r t => .cons r (RepL.take n t)
theorem RepL.drop {l : List D} {vs : List V} : ∀ (n : Nat), RepL K mg w l vs → RepL K mg w (l.drop n) (vs.drop n)
  | 0, h => h
  | _ + 1, .nil => .nil
  | n + 1, .cons _ t => RepL.drop n t
theorem nd_get {l : List Addr} (h : l.Nodup) {n m : Nat} {a : Addr} (e : l[n]? = some a) (f : l[m]? = some a) : n = m := by
  obtain ⟨h1, e1⟩ := List.getElem?_eq_some_iff.mp e
  obtain ⟨h2, e2⟩ := List.getElem?_eq_some_iff.mp f
  exact (List.getElem_inj h).mp (e1.trans e2.symm)
def Wo.put (w : Wo) (p : Addr) (o : HO) : Wo := { w with hp := upd w.hp p o }
theorem Rep.not_mem (R : Rep K mg w) {p : Addr} (hn : w.hp p = none) : p ∉ w.al := fun h => by
  obtain ⟨o, e⟩ := R.tr p h
  rw [hn] at e; cases e
theorem Rep.not_hid (R : Rep K mg w) {p : Addr} (hn : w.hp p = none) : p ∉ w.hid := fun h => by
  obtain ⟨_, o, e⟩ := R.hid p h
  rw [hn] at e; cases e
theorem put_ext (R : Rep K mg w) {p : Addr} {o : HO} (hn : w.hp p = none) : Ext w (w.put p o) := by
  refine ⟨⟨⟨[], by simp [Wo.put]⟩, fun a h => .inl h, fun a u h _ => ?_, fun a u h => ⟨u, ?_⟩⟩, rfl, fun a h => ?_, fun n a c h1 h2 _ => ⟨h2, ?_⟩⟩
  · show upd w.hp p o a = _
    rw [upd_ne (ne_of_none h hn)]; exact h
  · show upd w.hp p o a = _
    rw [upd_ne (ne_of_none h hn)]; exact h
  · show upd w.hp p o a = _
    exact upd_ne fun e => R.not_hid hn (e ▸ h)
  · show upd w.hp p o a = _
    exact upd_ne fun e => R.not_mem hn (e ▸ List.mem_of_getElem? h1)
theorem Rep.put (R : Rep K mg w) {p : Addr} {o : HO} (hn : w.hp p = none) : Rep K mg (w.put p o) := by
  have X := put_ext (o := o) R hn
  refine ⟨R.len, R.nd, fun a h => ?_, fun n a c h1 h2 => ?_, fun a h => ?_⟩
  · obtain ⟨u, e⟩ := R.tr a h
    exact X.tr a u e
  · have hm : a ∈ w.al := List.mem_of_getElem? h1
    refine (R.cell n a c h1 h2).ext X.toEx0 ?_
    show upd w.hp p o a = _
    exact upd_ne fun z => R.not_mem hn (z ▸ hm)
  · obtain ⟨h1, u, e⟩ := R.hid a h
    exact ⟨h1, X.tr a u e⟩
theorem put_st (R : Rep K mg w) {p : Addr} {o : HO} (hn : w.hp p = none) : StP (w.put p o) p o := by
  refine ⟨upd_same, fun z => ?_⟩
  rcases z with ⟨n, c, h1, _, _⟩ | z
  · exact R.not_mem hn (List.mem_of_getElem? h1)
  · exact R.not_hid hn z
theorem StP.o {w : Wo} {a : Addr} {u : HO} (h : StP w a u) : StO w a u := ⟨.inl h.1, h.2⟩
def Wo.new (w : Wo) (p : Addr) (o : HO) (c : Cell) : Wo := ⟨w.al ++ [p], w.st ++ [c], upd w.hp p o, w.hid⟩
theorem new_ext (R : Rep K mg w) {p : Addr} {o : HO} {c : Cell} (hn : w.hp p = none) : Ext w (w.new p o c) := by
  refine ⟨⟨⟨[p], rfl⟩, fun a h => ?_, fun a u h _ => ?_, fun a u h => ⟨u, ?_⟩⟩, rfl, fun a h => ?_, fun n a c' h1 h2 _ => ⟨?_, ?_⟩⟩
  · rcases h with h | h
    · obtain ⟨n, c', h1, h2, h3⟩ := h
      have h1 : (w.al ++ [p])[n]? = some a := h1
      have h2 : (w.st ++ [c])[n]? = some c' := h2
      by_cases hl : n < w.al.length
      · rw [List.getElem?_append_left hl] at h1
        rw [List.getElem?_append_left (by rw [← R.len]; exact hl)] at h2
        exact .inl (.inl ⟨n, c', h1, h2, h3⟩)
      · rw [List.getElem?_append_right (by omega)] at h1
        have e : n - w.al.length = 0 := by
          rcases List.getElem?_eq_some_iff.mp h1 with ⟨q, _⟩
          simp at q; omega
        rw [e] at h1
        simp at h1
        subst h1
        exact .inr hn
    · exact .inl (.inr h)
  · show upd w.hp p o a = _
    rw [upd_ne (ne_of_none h hn)]; exact h
  · show upd w.hp p o a = _
    rw [upd_ne (ne_of_none h hn)]; exact h
  · show upd w.hp p o a = _
    exact upd_ne fun e => R.not_hid hn (e ▸ h)
  · show (w.st ++ [c])[n]? = _
    rw [List.getElem?_append_left (List.getElem?_eq_some_iff.mp h2).1]; exact h2
  · show upd w.hp p o a = _
    exact upd_ne fun e => R.not_mem hn (e ▸ List.mem_of_getElem? h1)
theorem new_get (R : Rep K mg w) {p : Addr} {o : HO} {c : Cell} : (w.new p o c).al[w.st.length]? = some p := by
  show (w.al ++ [p])[w.st.length]? = _
  rw [← R.len]; simp
theorem Rep.new (R : Rep K mg w) {p : Addr} {o : HO} {c : Cell} (hn : w.hp p = none) (hc : CellR K mg (w.new p o c) p c) : Rep K mg (w.new p o c) := by
  have X := new_ext (o := o) (c := c) R hn
  refine ⟨?_, ?_, fun a h => ?_, fun n a c' h1 h2 => ?_, fun a h => ?_⟩
  · show (w.al ++ [p]).length = (w.st ++ [c]).length
    rw [List.length_append, List.length_append, R.len]; rfl
  · show (w.al ++ [p]).Nodup
    rw [List.nodup_append]
    refine ⟨R.nd, by simp, fun a ha b hb => ?_⟩
    simp at hb; subst hb
    exact fun z => R.not_mem hn (z ▸ ha)
  · have h : a ∈ w.al ++ [p] := h
    rcases List.mem_append.mp h with h | h
    · obtain ⟨u, e⟩ := R.tr a h
      exact X.tr a u e
    · simp at h; subst h
      exact ⟨o, upd_same⟩
  · have h1 : (w.al ++ [p])[n]? = some a := h1
    have h2 : (w.st ++ [c])[n]? = some c' := h2
    by_cases hl : n < w.al.length
    · rw [List.getElem?_append_left hl] at h1
      rw [List.getElem?_append_left (by rw [← R.len]; exact hl)] at h2
      refine (R.cell n a c' h1 h2).ext X.toEx0 ?_
      show upd w.hp p o a = _
      exact upd_ne fun z => R.not_mem hn (z ▸ List.mem_of_getElem? h1)
    · rw [List.getElem?_append_right (by omega)] at h1
      rw [List.getElem?_append_right (by rw [← R.len]; omega)] at h2
      have e : n - w.al.length = 0 := by
        rcases List.getElem?_eq_some_iff.mp h1 with ⟨q, _⟩
        simp at q; omega
      rw [← R.len, e] at h2
      rw [e] at h1
      simp at h1 h2
      subst h1; subst h2
      exact hc
  · obtain ⟨h1, u, e⟩ := R.hid a h
    refine ⟨fun z => ?_, X.tr a u e⟩
    rcases List.mem_append.mp (show a ∈ w.al ++ [p] from z) with z | z
    · exact h1 z
    · simp at z; subst z
      rw [hn] at e; cases e
def Wo.wr (w : Wo) (n : Nat) (a : Addr) (o : HO) (c : Cell) : Wo := ⟨w.al, w.st.set n c, upd w.hp a o, w.hid⟩
theorem wr_ex0 {n : Nat} {a : Addr} {o : HO} {c c0 : Cell} (h1 : w.al[n]? = some a) (h2 : w.st[n]? = some c0) (h3 : c0 ≠ .dead) : Ex0 w (w.wr n a o c) := by
  have za : Zl w a := .inl ⟨n, c0, h1, h2, h3⟩
  refine ⟨⟨[], by simp [Wo.wr]⟩, fun b h => ?_, fun b u h z => ?_, fun b u h => ?_⟩
  · rcases h with h | h
    · obtain ⟨m, c', g1, g2, g3⟩ := h
      have g2 : (w.st.set n c)[m]? = some c' := g2
      by_cases e : m = n
      · subst e
        have g1 : w.al[m]? = some b := g1
        rw [h1] at g1; cases g1
        exact .inl za
      · rw [List.getElem?_set_ne (Ne.symm e)] at g2
        exact .inl (.inl ⟨m, c', g1, g2, g3⟩)
    · exact .inl (.inr h)
  · show upd w.hp a o b = _
    rw [upd_ne fun e : b = a => z (by rw [e]; exact za)]; exact h
  · by_cases e : b = a
    · subst e; exact ⟨o, upd_same⟩
    · exact ⟨u, by show upd w.hp a o b = _; rw [upd_ne e]; exact h⟩
theorem wr_ext (R : Rep K mg w) {n : Nat} {a : Addr} {o : HO} {c c0 : Cell} (h1 : w.al[n]? = some a) (h2 : w.st[n]? = some c0) (h3 : c0 ≠ .dead) (hz : c0.frz = false := by rfl) : Ext w (w.wr n a o c) := by
  refine ⟨wr_ex0 h1 h2 h3, rfl, fun b h => ?_, fun m b c' g1 g2 g3 => ?_⟩
  · show upd w.hp a o b = _
    exact upd_ne fun e => (R.hid b h).1 (e ▸ List.mem_of_getElem? h1)
  · have e : m ≠ n := fun z => by
      subst z
      rw [h2] at g2; cases g2
      rw [hz] at g3; cases g3
    refine ⟨?_, ?_⟩
    · show (w.st.set n c)[m]? = _
      rw [List.getElem?_set_ne (Ne.symm e)]; exact g2
    · show upd w.hp a o b = _
      exact upd_ne fun z => e (nd_get R.nd g1 (z ▸ h1))
theorem Rep.wr (R : Rep K mg w) {n : Nat} {a : Addr} {o : HO} {c c0 : Cell} (h1 : w.al[n]? = some a) (h2 : w.st[n]? = some c0) (h3 : c0 ≠ .dead) (hc : CellR K mg (w.wr n a o c) a c) : Rep K mg (w.wr n a o c) := by
  have X := wr_ex0 (o := o) (c := c) h1 h2 h3
  refine ⟨?_, R.nd, fun b h => ?_, fun m b c' g1 g2 => ?_, fun b h => ?_⟩
  · show w.al.length = (w.st.set n c).length
    rw [List.length_set]; exact R.len
  · obtain ⟨u, e⟩ := R.tr b h
    exact X.tr b u e
  · have g2 : (w.st.set n c)[m]? = some c' := g2
    replace g1 : w.al[m]? = some b := g1
    by_cases e : m = n
    · subst e
      replace g1 := h1.symm.trans g1; cases g1
      rw [List.getElem?_set_self (List.getElem?_eq_some_iff.mp h2).1] at g2
      cases g2; exact hc
    · rw [List.getElem?_set_ne (Ne.symm e)] at g2
      refine (R.cell m b c' g1 g2).ext X ?_
      show upd w.hp a o b = _
      exact upd_ne fun z => e (nd_get R.nd g1 (z ▸ h1))
  · obtain ⟨h1, u, e⟩ := R.hid b h
    exact ⟨h1, X.tr b u e⟩
def Wo.cut (w : Wo) (n : Nat) : Wo := ⟨w.al.take n, w.st.take n, w.hp, w.hid⟩
theorem take_get {α : Type} {l : List α} {n m : Nat} {a : α} (h : (l.take n)[m]? = some a) : l[m]? = some a := by
  rw [List.getElem?_take] at h
  split at h
  · exact h
  · cases h
theorem cut_zz {n : Nat} {a : Addr} (h : Zl (w.cut n) a) : Zl w a := by
  rcases h with ⟨m, c, g1, g2, g3⟩ | h
  · exact .inl ⟨m, c, take_get g1, take_get g2, g3⟩
  · exact .inr h
theorem mem_take {α : Type} {l : List α} {n : Nat} {a : α} (h : a ∈ l.take n) : a ∈ l := List.mem_of_mem_take h
theorem RepE.gone {e : En} {s : St} (h : RepE K mg w e s) (i : Nat) : RepE K mg w (e.set i none) (s.set i none) := by
  refine ⟨by rw [List.length_set, List.length_set]; exact h.len, fun j d' g => ?_⟩
  by_cases hj : j = i
  · subst hj
    by_cases hl : j < e.length
    · rw [List.getElem?_set_self hl] at g; cases g
    · rw [List.getElem?_eq_none (by simpa using hl)] at g; cases g
  · rw [List.getElem?_set_ne (Ne.symm hj)] at g ⊢
    exact h.get j d' g
theorem Post.now {β γ : Type} {Rl : Wo → β → γ → Prop} {b : β} {v : γ} {Q : γ → Hp → Prop} {E : XK} (h : Post Rl K mg w (.ok b w.st) Q E) (R : Rep K mg w) (q : Rl w b v) : Q v w.hp := h w v (Ext.refl w) R rfl q
theorem Post.put {β γ : Type} {Rl : Wo → β → γ → Prop} {b : β} {v : γ} {Q : γ → Hp → Prop} {E : XK} {p : Addr} {o : HO} (h : Post Rl K mg w (.ok b w.st) Q E) (R : Rep K mg w) (hn : w.hp p = none) (q : Rl (w.put p o) b v) : Q v (upd w.hp p o) :=
  h (w.put p o) v (put_ext R hn) (R.put hn) rfl q
end G
namespace G
open PySem L2
abbrev AM := En → Store → Res (List D)
def RlB : Wo → Bool → Bool → Prop := fun _ b c => c = b
def tG {β γ : Type} (Rl : Wo → β → γ → Prop) (X : Cx) (W : WX) (m : En → Store → Res β) : St → Hp → (γ → Hp → Prop) → Prop := fun s H Q =>
  ∃ w e, w.hp = H ∧ Rep X.K X.mg w ∧ RepE X.K X.mg w e s ∧ Post Rl X.K X.mg w (m e w.st) Q (fun cls dd H' => W cls dd s H')
abbrev RE (X : Cx) (W : WX) (e : Expr) (m : EM) : Prop := PE X e (tG (RepD X.K X.mg) X W m)
abbrev RT (X : Cx) (W : WX) (e : Expr) (m : TM) : Prop := PT X e (tG RlB X W m)
abbrev RW (X : Cx) (W : WX) (e : Expr) (m : TM) : Prop := PW X e (tG RlB X W m)
abbrev RA (X : Cx) (W : WX) (es : List Expr) (m : AM) : Prop := PA X es (tG (RepL X.K X.mg) X W m)
section
variable {X : Cx} {W : WX} {a b c e : Expr} {es : List Expr} {ma mb mc me : EM} {ta tb : TM} {pos : Pos}
theorem pe_imp {t t' : TE} (h : PE X e t) (i : ∀ s H Q, t' s H Q → t s H Q) : PE X e t' := ⟨fun pins s σ H Q I q => h.run pins s σ H Q I (i _ _ _ q)⟩
theorem pt_imp {t t' : TT} (h : PT X e t) (i : ∀ s H Q, t' s H Q → t s H Q) : PT X e t' := ⟨fun pins s σ H Q I q => h.run pins s σ H Q I (i _ _ _ q)⟩
theorem pw_imp {t t' : TT} (h : PW X e t) (i : ∀ s H Q, t' s H Q → t s H Q) : PW X e t' := ⟨fun wh pins s σ H Q I q => h.run wh pins s σ H Q I (i _ _ _ q)⟩
theorem pa_imp {t t' : TA} (h : PA X es t) (i : ∀ s H Q, t' s H Q → t s H Q) : PA X es t' := ⟨fun ps pins s σ H Q I q => h.run ps pins s σ H Q I (i _ _ _ q)⟩
def lf {β : Type} (o : Option β) (S : Store) : Res β := match o with
  | some d => .ok d S
  | none => .stuck
def eC (d : D) : EM := fun _ S => .ok d S
def eVar (i : Nat) : EM := fun e S => match e[i]? with
  | some (some d) => .ok d S
  | _ => .stuck
theorem re_c {v : V} {d : D} (h : PE X e (tC v)) (q : ∀ w, RepD X.K X.mg w d v) : RE X W e (eC d) := pe_imp h fun s H Q ⟨w, en, hw, R, E, P⟩ => by
  subst hw
  exact Post.now P R (q w)
theorem re_int {i j pos} : RE X W (.Constant (.int i) j pos) (eC (.int i)) := re_c pe_int fun _ => .int i
theorem re_bl {b j pos} : RE X W (.Constant (.bool b) j pos) (eC (.bl b)) := re_c pe_bl fun _ => .bl b
theorem re_non {j pos} : RE X W (.Constant .none j pos) (eC .non) := re_c pe_non fun _ => .non
theorem re_str {x j pos} : RE X W (.Constant (.str x) j pos) (eC (.str x)) := re_c pe_str fun _ => .str x
theorem re_glob {x : Str} {v : V} {u : Value} {d : D} (hg : Gl X x) (hm : X.mg x = some u) (r : RelV v u) (q : ∀ w, RepD X.K X.mg w d v) (hd : (x == ("__debug__" : Str)) = false := by decide) : RE X W (.Name x pos) (eC d) := re_c (pe_glob hg hm r hd) q
theorem re_v {i : Nat} {x : Str} (h : PE X (.Name x pos) (tVar i)) : RE X W (.Name x pos) (eVar i) := pe_imp h fun s H Q ⟨w, en, hw, R, E, P⟩ => by
  subst hw
  unfold eVar at P
  split at P
  · rename_i d hd
    obtain ⟨v, hv, r⟩ := E.get i d hd
    exact ⟨v, hv, Post.now P R r⟩
  · exact False.elim P
theorem rv (i : Nat) {x : Str} (hN : X.N[i]? = some x := by rfl) (hv : Vis X.env.scope x := by first | exact Or.inl rfl | exact Or.inr (Or.inl rfl) | exact Or.inr (Or.inr rfl)) (hd : (x == ("__debug__" : Str)) = false := by decide)
    (hcd : (x == ("__classdict__" : Str)) = false := by decide) : RE X W (.Name x pos) (eVar i) := re_v (pe_var hN hv hd hcd)
def OpM (X : Cx) (f : D → D → Option D) : R2 := fun v u H Q => ∃ w x y E, w.hp = H ∧ Rep X.K X.mg w ∧ RepD X.K X.mg w x v ∧ RepD X.K X.mg w y u ∧ Post (RepD X.K X.mg) X.K X.mg w (lf (f x y) w.st) Q E
def eBin (f : D → D → Option D) (a b : EM) : EM := fun e S => (a e S).bind fun x S1 => (b e S1).bind fun y S2 => lf (f x y) S2
theorem t_bin {f : D → D → Option D} : ∀ s H Q, tG (RepD X.K X.mg) X W (eBin f ma mb) s H Q → tOp (OpM X f) (tG (RepD X.K X.mg) X W ma) (tG (RepD X.K X.mg) X W mb) s H Q := by
  rintro s H Q ⟨w, en, rfl, R, E, P⟩
  refine ⟨w, en, rfl, R, E, (Post.bind P).imp ?_⟩
  rintro v H1 ⟨w1, x, rfl, X1, R1, rx, P1⟩
  refine ⟨w1, en, rfl, R1, E.ext X1.toEx0, (Post.bind P1).imp ?_⟩
  rintro u H2 ⟨w2, y, rfl, X2, R2, ry, P2⟩
  exact ⟨w2, x, y, _, rfl, R2, rx.ext X2.toEx0, ry, P2⟩
theorem re_bin {op : Operator} {f : D → D → Option D} (ho : OpR X (binaryOp op) (OpM X f)) (ha : RE X W a ma) (hb : RE X W b mb) : RE X W (.BinOp a op b pos) (eBin f ma mb) := pe_imp (pe_op ho ha hb) t_bin
theorem re_cmp {op : CmpOp} {f : D → D → Option D} (ho : OpR X (compareOp op) (OpM X f)) (ha : RE X W a ma) (hb : RE X W b mb) (hm : behindInMarks op b = false) : RE X W (.Compare a [op] [b] pos) (eBin f ma mb) := pe_imp (pe_cmpR ho ha hb hm) t_bin
def tB (m : EM) : TM := fun e S => (m e S).bind fun x S1 => match x with
  | .bl b => .ok b S1
  | _ => .stuck
theorem rt_cmp {op : CmpOp} {f : D → D → Option D} (ho : OpR X (compareOp op) (OpM X f)) (ha : RE X W a ma) (hb : RE X W b mb) (hm : behindInMarks op b = false) : RT X W (.Compare a [op] [b] pos) (tB (eBin f ma mb)) := by
  refine pt_imp (pt_cmpR ho ha hb hm) ?_
  rintro s H Q ⟨w, en, rfl, R, E, P⟩
  refine t_bin s w.hp _ ⟨w, en, rfl, R, E, (Post.bind P).imp ?_⟩
  rintro v H1 ⟨w1, x, rfl, X1, R1, rx, P1⟩
  cases x with
  | bl b => cases rx; exact ⟨b, rfl, Post.now P1 R1 rfl⟩
  | _ => exact False.elim P1
def dAdd : D → D → Option D
  | .int i, .int j => some (.int (i + j))
  | .str x, .str y => if x.length + y.length ≤ sizeLine then some (.str (x ++ y)) else none
  | .lst l, .lst m => if l.length + m.length ≤ sizeLine then some (.lst (l ++ m)) else none
  | .tup (d :: l), .tup m => if (d :: l).length + m.length ≤ sizeLine then some (.tup (d :: l ++ m)) else none
  | _, _ => none
theorem om_add : OpR X (binaryOp .Add) (OpM X dAdd) := by
  intro pins s σ H x y v u Q I rx ry h
  obtain ⟨w, dx, dy, E, rfl, R, qx, qy, P⟩ := h
  unfold dAdd at P
  split at P
  · cases qx; cases qy
    exact op_add pins s σ w.hp _ _ v u Q I rx ry ⟨_, _, rfl, rfl, Post.now P R (.int _)⟩
  · split at P
    · rename_i hz
      cases qx; cases qy
      exact op_add_str pins s σ w.hp _ _ v u Q I rx ry ⟨_, _, rfl, rfl, hz, Post.now P R (.str _)⟩
    · exact False.elim P
  · split at P
    · rename_i hz
      cases qx with
      | lst s1 r1 =>
        cases qy with
        | lst s2 r2 =>
          refine op_cat pins s σ w.hp _ _ v u Q I rx ry ⟨_, _, _, _, rfl, rfl, s1.1, s2.1, by rw [← r1.length, ← r2.length]; exact hz, fun p hp => ?_⟩
          exact Post.put P R hp (.lst (put_st R hp) ((r1.append r2).ext (put_ext R hp).toEx0))
    · exact False.elim P
  · split at P
    · rename_i hz
      cases qx with
      | tup s1 r1 =>
        cases qy with
        | tup s2 r2 =>
          have r12 := r1.append r2
          cases r1 with
          | cons r1 r1' =>
            refine op_catT pins s σ w.hp _ _ v u Q I rx ry ⟨_, _, _, _, rfl, rfl, s1.sq, s2.sq, by simp, ?_, ?_⟩
            · have e1 := r1'.length
              have e2 := r2.length
              simp only [List.length_cons] at hz ⊢
              omega
            · first
                | refine ⟨fun hn => ?_, fun hn p hp => ?_⟩
                | refine ⟨fun hn p hp => ?_, fun hn => ?_⟩
              · subst hn
                cases r2
                rw [List.append_nil] at P
                exact Post.now P R (.tup s1 (.cons r1 r1'))
              · exact Post.put P R hp (.tup (.inl (put_st R hp).o) (r12.ext (put_ext R hp).toEx0))
    · exact False.elim P
  · exact False.elim P
def dSub : D → D → Option D
  | .int i, .int j => some (.int (i - j))
  | _, _ => none
theorem om_sub : OpR X (binaryOp .Sub) (OpM X dSub) := by
  intro pins s σ H x y v u Q I rx ry h
  obtain ⟨w, dx, dy, E, rfl, R, qx, qy, P⟩ := h
  unfold dSub at P
  split at P
  · cases qx; cases qy
    exact op_sub pins s σ w.hp _ _ v u Q I rx ry ⟨_, _, rfl, rfl, Post.now P R (.int _)⟩
  · exact False.elim P
def mulOk (i j : Int) : Bool := decide (i.natAbs < 2 ^ 64) || (decide (j.natAbs < 2 ^ 64) || decide (i.natAbs.log2 + j.natAbs.log2 < 1000000))
def dMul : D → D → Option D
  | .int i, .int j => if mulOk i j then some (.int (i * j)) else none
  | .lst l, .int k => if -(2 ^ 63) ≤ k ∧ k < 2 ^ 63 ∧ l.length * k.toNat ≤ sizeLine then some (.lst (List.replicate k.toNat l).flatten) else none
  | _, _ => none
theorem RepL.rep {w : Wo} {l : List D} {vs : List V} (h : RepL X.K X.mg w l vs) : ∀ n : Nat, RepL X.K X.mg w (List.replicate n l).flatten (List.replicate n vs).flatten
  | 0 => .nil
  | n + 1 => by
    rw [List.replicate_succ, List.replicate_succ, List.flatten_cons, List.flatten_cons]
    exact h.append (RepL.rep h n)
theorem om_mul : OpR X (binaryOp .Mult) (OpM X dMul) := by
  intro pins s σ H x y v u Q I rx ry h
  obtain ⟨w, dx, dy, E, rfl, R, qx, qy, P⟩ := h
  unfold dMul at P
  split at P
  · split at P
    · rename_i hm
      cases qx; cases qy
      unfold mulOk at hm
      rw [Bool.or_eq_true, Bool.or_eq_true] at hm
      rcases hm with hm | hm | hm
      · have hm := of_decide_eq_true hm
        exact op_mul pins s σ w.hp _ _ v u Q I rx ry ⟨_, _, rfl, rfl, .inl (by omega), Post.now P R (.int _)⟩
      · have hm := of_decide_eq_true hm
        exact op_mul pins s σ w.hp _ _ v u Q I rx ry ⟨_, _, rfl, rfl, .inr (by omega), Post.now P R (.int _)⟩
      · have hm := of_decide_eq_true hm
        exact op_mulW pins s σ w.hp _ _ v u Q I rx ry ⟨_, _, rfl, rfl, hm, Post.now P R (.int _)⟩
    · exact False.elim P
  · split at P
    · rename_i hm
      cases qx with
      | lst s1 r1 =>
        cases qy
        refine op_rep pins s σ w.hp _ _ v u Q I rx ry ⟨_, _, _, rfl, rfl, s1.1, hm.1, hm.2.1, by rw [← r1.length]; exact hm.2.2, fun p hp => ?_⟩
        exact Post.put P R hp (.lst (put_st R hp) ((RepL.rep r1 _).ext (put_ext R hp).toEx0))
    · exact False.elim P
  · exact False.elim P
def divOk (j : Int) : Bool := j != 0 && decide (j.natAbs.log2 < 9000)
def dDiv : D → D → Option D
  | .int i, .int j => if divOk j then some (.int (i.fdiv j)) else none
  | _, _ => none
theorem op_fdivX : OpR X (binaryOp .FloorDiv) (rI (fun _ j => j ≠ 0 ∧ j.natAbs.log2 < 9000) fun i j => .int (i.fdiv j)) :=
  opI fun i j _ _ _ _ _ hc q => PyProof.Rows.floordiv_int hc.1 q (.inl (PyProof.noPylong_of_log2 hc.2))
theorem om_div : OpR X (binaryOp .FloorDiv) (OpM X dDiv) := by
  intro pins s σ H x y v u Q I rx ry h
  obtain ⟨w, dx, dy, E, rfl, R, qx, qy, P⟩ := h
  unfold dDiv at P
  split at P
  · split at P
    · rename_i hm
      cases qx; cases qy
      unfold divOk at hm
      simp only [Bool.and_eq_true, bne_iff_ne, decide_eq_true_eq] at hm
      exact op_fdivX pins s σ w.hp _ _ v u Q I rx ry ⟨_, _, rfl, rfl, hm, Post.now P R (.int _)⟩
    · exact False.elim P
  · exact False.elim P
def dMod : D → D → Option D
  | .int i, .int j => if j = 0 then none else some (.int (i.fmod j))
  | _, _ => none
theorem om_mod : OpR X (binaryOp .Mod) (OpM X dMod) := by
  intro pins s σ H x y v u Q I rx ry h
  obtain ⟨w, dx, dy, E, rfl, R, qx, qy, P⟩ := h
  unfold dMod at P
  split at P
  · split at P
    · exact False.elim P
    · rename_i hm
      cases qx; cases qy
      exact op_modN pins s σ w.hp _ _ v u Q I rx ry ⟨_, _, rfl, rfl, hm, Post.now P R (.int _)⟩
  · exact False.elim P
def dPow : D → D → Option D
  | .int i, .int j => if 0 ≤ j ∧ j ≤ 1000000 ∧ i.natAbs < 2 ^ 64 then some (.int (i ^ j.toNat)) else none
  | _, _ => none
theorem om_pow : OpR X (binaryOp .Pow) (OpM X dPow) := by
  intro pins s σ H x y v u Q I rx ry h
  obtain ⟨w, dx, dy, E, rfl, R, qx, qy, P⟩ := h
  unfold dPow at P
  split at P
  · split at P
    · rename_i hm
      cases qx; cases qy
      exact op_pow pins s σ w.hp _ _ v u Q I rx ry ⟨_, _, rfl, rfl, hm, Post.now P R (.int _)⟩
    · exact False.elim P
  · exact False.elim P
mutual
def D.toP : D → Option PyData
  | .non => some .none
  | .bl b => some (.bool b)
  | .int i => some (.int i)
  | .str x => some (.str x)
  | .tup l => (toPs l).map .tuple
  | .lst l => (toPs l).map .list
  | .scr l => (toPs l).map .list
  | .dic _ _ => none
  | .loc _ => none
  | .exc _ _ => none
  | .ins _ _ => none
  | .fa _ => none
  | .pin _ _ => none
def toPs : List D → Option (List PyData)
  | [] => some []
  | d :: l => match d.toP, toPs l with
    | some p, some ps => some (p :: ps)
    | _, _ => none
end
mutual
theorem RepD.dp {K : PySem.W.Frag} {mg : Str → Option Value} {w : Wo} {d : D} {v : V} {p : PyData} : RepD K mg w d v → d.toP = some p → Dp K w.hp v p
  | .non, h => by cases h; exact .non
  | .bl b, h => by cases h; exact .bl b
  | .int i, h => by cases h; exact .int i
  | .str x, h => by cases h; exact .str x
  | .tup s r, h => by
    rw [D.toP] at h
    obtain ⟨ps, e, rfl⟩ := Option.map_eq_some_iff.mp h
    exact .tup s.sq (RepL.dp r e)
  | .lst s r, h => by
    rw [D.toP] at h
    obtain ⟨ps, e, rfl⟩ := Option.map_eq_some_iff.mp h
    exact .lst (SqL.of s.1) (RepL.dp r e)
  | .scr s r, h => by
    rw [D.toP] at h
    obtain ⟨ps, e, rfl⟩ := Option.map_eq_some_iff.mp h
    exact .lst s.sq (RepL.dp r e)
  | .dic _ _ _, h => by rw [D.toP] at h; cases h
  | .loc _, h => by rw [D.toP] at h; cases h
  | .ins _ _ _, h => by rw [D.toP] at h; cases h
  | .exc _ _ _ _, h => by rw [D.toP] at h; cases h
  | .fa _, h => by rw [D.toP] at h; cases h
  | .pin _, h => by rw [D.toP] at h; cases h
theorem RepL.dp {K : PySem.W.Frag} {mg : Str → Option Value} {w : Wo} {l : List D} {vs : List V} {ps : List PyData} : RepL K mg w l vs → toPs l = some ps → DpAll K w.hp vs ps
  | .nil, h => by rw [toPs] at h; cases h; exact .nil
  | .cons r t, h => by
    rw [toPs] at h
    split at h
    · rename_i p q e1 e2
      cases h
      exact .cons (RepD.dp r e1) (RepL.dp t e2)
    · cases h
end
def eqP (x y : D) : Option Bool := match x.toP, y.toP with
  | some p, some q => if SeqAt.shaped p && SeqAt.shaped q then some (PyData.eqv p q) else none
  | _, _ => none
def eqD : D → D → Option Bool
  | .str a, .str b => some (decide (a = b))
  | x, y => eqP x y
def dEq (x y : D) : Option D := (eqD x y).map .bl
def dNe (x y : D) : Option D := (eqD x y).map fun b => .bl (!b)
theorem dec_sv (a b : Str) : decide (V.str a = V.str b) = decide (a = b) := by
  by_cases h : a = b
  · subst h; simp
  · rw [decide_eq_false h, decide_eq_false fun z => h (by cases z; rfl)]
theorem eqD_cases {x y : D} {r : Option Bool} (h : eqD x y = r) : (∃ a b, x = .str a ∧ y = .str b ∧ r = some (decide (a = b))) ∨ r = eqP x y := by
  unfold eqD at h
  split at h
  · exact .inl ⟨_, _, rfl, rfl, h.symm⟩
  · exact .inr h.symm
theorem om_eq (hu : X.A.units + 64 < cLine) : OpR X (compareOp .Eq) (OpM X dEq) := by
  intro pins s σ H x y v u Q I rx ry h
  obtain ⟨w, dx, dy, E, rfl, R, qx, qy, P⟩ := h
  unfold dEq at P
  rcases eqD_cases (x := dx) (y := dy) rfl with ⟨a, b, rfl, rfl, e⟩ | e
  · rw [e] at P
    cases qx; cases qy
    exact op_eq pins s σ w.hp _ _ v u Q I rx ry ⟨rfl, by rw [dec_sv]; exact Post.now P R (.bl _)⟩
  · rw [e] at P
    unfold eqP at P
    split at P
    · rename_i p q e1 e2
      split at P
      · rename_i hs
        rw [Bool.and_eq_true] at hs
        exact op_eqD hu pins s σ w.hp _ _ v u Q I rx ry ⟨p, q, qx.dp e1, qy.dp e2, hs.1, hs.2, Post.now P R (.bl _)⟩
      · exact False.elim P
    · exact False.elim P
theorem om_ne (hu : X.A.units + 64 < cLine) : OpR X (compareOp .NotEq) (OpM X dNe) := by
  intro pins s σ H x y v u Q I rx ry h
  obtain ⟨w, dx, dy, E, rfl, R, qx, qy, P⟩ := h
  unfold dNe at P
  rcases eqD_cases (x := dx) (y := dy) rfl with ⟨a, b, rfl, rfl, e⟩ | e
  · rw [e] at P
    cases qx; cases qy
    exact op_ne pins s σ w.hp _ _ v u Q I rx ry ⟨rfl, by rw [dec_sv]; exact Post.now P R (.bl _)⟩
  · rw [e] at P
    unfold eqP at P
    split at P
    · rename_i p q e1 e2
      split at P
      · rename_i hs
        rw [Bool.and_eq_true] at hs
        exact op_neD hu pins s σ w.hp _ _ v u Q I rx ry ⟨p, q, qx.dp e1, qy.dp e2, hs.1, hs.2, Post.now P R (.bl _)⟩
      · exact False.elim P
    · exact False.elim P
def cmpI (f : Int → Int → Bool) : D → D → Option D
  | .int i, .int j => some (.bl (f i j))
  | _, _ => none
theorem om_cmpI {op : CmpOp} {f : Int → Int → Bool} (ho : OpR X (compareOp op) (rI0 fun i j => .bl (f i j))) : OpR X (compareOp op) (OpM X (cmpI f)) := by
  intro pins s σ H x y v u Q I rx ry h
  obtain ⟨w, dx, dy, E, rfl, R, qx, qy, P⟩ := h
  unfold cmpI at P
  split at P
  · cases qx; cases qy
    exact ho pins s σ w.hp _ _ v u Q I rx ry ⟨_, _, rfl, rfl, Post.now P R (.bl _)⟩
  · exact False.elim P
abbrev dLt : D → D → Option D := cmpI fun i j => decide (i < j)
abbrev dLe : D → D → Option D := cmpI fun i j => decide (i ≤ j)
abbrev dGt : D → D → Option D := cmpI fun i j => decide (j < i)
abbrev dGe : D → D → Option D := cmpI fun i j => decide (j ≤ i)
theorem om_lt : OpR X (compareOp .Lt) (OpM X dLt) := om_cmpI op_lt
theorem om_gt : OpR X (compareOp .Gt) (OpM X dGt) := om_cmpI op_gt
theorem om_ge : OpR X (compareOp .GtE) (OpM X dGe) := om_cmpI op_ge
def isN : D → Bool
  | .non => true
  | .pin v _ => decide (v = .non)
  | _ => false
theorem RepD.isN {K : PySem.W.Frag} {mg : Str → Option Value} {w : Wo} {d : D} {v : V} (h : RepD K mg w d v) : decide (v = .non) = isN d := by
  cases h <;> simp [G.isN]
def dIs (x y : D) : Option D := if isN y then some (.bl (isN x)) else none
def dIsNot (x y : D) : Option D := if isN y then some (.bl (!isN x)) else none
theorem om_is : OpR X (compareOp .Is) (OpM X dIs) := by
  intro pins s σ H x y v u Q I rx ry h
  obtain ⟨w, dx, dy, E, rfl, R, qx, qy, P⟩ := h
  unfold dIs at P
  split at P
  · rename_i hy
    have ey := qy.isN
    rw [hy] at ey
    exact op_isN pins s σ w.hp _ _ v u Q I rx ry ⟨of_decide_eq_true ey, Post.now P R (by rw [qx.isN]; exact .bl _)⟩
  · exact False.elim P
theorem om_isnot : OpR X (compareOp .IsNot) (OpM X dIsNot) := by
  intro pins s σ H x y v u Q I rx ry h
  obtain ⟨w, dx, dy, E, rfl, R, qx, qy, P⟩ := h
  unfold dIsNot at P
  split at P
  · rename_i hy
    have ey := qy.isN
    rw [hy] at ey
    exact op_notN pins s σ w.hp _ _ v u Q I rx ry ⟨of_decide_eq_true ey, Post.now P R (by rw [qx.isN]; exact .bl _)⟩
  · exact False.elim P
def eChain (f g : D → D → Option D) (a b c : EM) : EM := fun e S => (a e S).bind fun x S1 => (b e S1).bind fun y S2 => (lf (f x y) S2).bind fun z S3 => match z with
  | .bl true => (c e S3).bind fun t S4 => lf (g y t) S4
  | .bl false => .ok (.bl false) S3
  | _ => .stuck
def truD (S : Store) : D → Option Bool
  | .non => some false
  | .bl b => some b
  | .int i => some (i != 0)
  | .str x => if x.length ≤ sizeLine then some ((x.length : Int) != 0) else none
  | .tup l => some (!l.isEmpty)
  | .lst l => some (!l.isEmpty)
  | .scr l => some (!l.isEmpty)
  | .dic _ l => some (!l.isEmpty)
  | .loc n => match S[n]? with
    | some (.lst l) => some (!l.isEmpty)
    | some (.dk l) => some (!l.isEmpty)
    | _ => none
  | _ => none
theorem RepL.emp {K : PySem.W.Frag} {mg : Str → Option Value} {w : Wo} {l : List D} {vs : List V} (h : RepL K mg w l vs) : (!vs.isEmpty) = !l.isEmpty := by cases h <;> rfl
theorem RepK.emp {κ : Type} {K : PySem.W.Frag} {mg : Str → Option Value} {w : Wo} {l : List (κ × D)} {vs : List (κ × V)} (h : RepK κ K mg w l vs) : (!vs.isEmpty) = !l.isEmpty := by cases h <;> rfl
theorem RepD.tru {w : Wo} {d : D} {v : V} {k : Bool} (R : Rep X.K X.mg w) (h : RepD X.K X.mg w d v) (e : truD w.st d = some k) : TruV X.K v w.hp k := by
  cases h with
  | non => cases e; rfl
  | bl b => cases e; rfl
  | int i => cases e; rfl
  | str x =>
    replace e : (if x.length ≤ sizeLine then some ((x.length : Int) != 0) else none) = some k := e
    split at e
    · cases e; exact ⟨by assumption, rfl⟩
    · cases e
  | tup s r => cases e; exact .inr (.inl ⟨_, s.sq, r.emp.symm⟩)
  | lst s r => cases e; exact .inl ⟨_, SqL.of s.1, r.emp.symm⟩
  | scr s r => cases e; exact .inl ⟨_, s.sq, r.emp.symm⟩
  | @dic ks l a vs s z r =>
    cases e
    refine .inr (.inr ⟨_, s.1, ?_⟩)
    rw [← r.emp]
    cases ks with
    | nil => cases vs with
      | nil => rfl
      | cons _ _ => cases z
    | cons _ _ => cases vs with
      | nil => cases z
      | cons _ _ => rfl
  | @loc n a hn =>
    replace e : (match w.st[n]? with
      | some (.lst l) => some (!l.isEmpty)
      | some (.dk l) => some (!l.isEmpty)
      | _ => none) = some k := e
    split at e
    · rename_i l hl
      cases e
      obtain ⟨vs, p, r⟩ := R.cell _ _ _ hn hl
      exact .inl ⟨vs, SqL.of p, r.emp.symm⟩
    · rename_i l hl
      cases e
      obtain ⟨vs, p, r⟩ := R.cell _ _ _ hn hl
      exact .inr (.inr ⟨vs, p, r.emp.symm⟩)
    · cases e
  | ins _ _ _ => cases e
  | exc _ _ _ _ => cases e
  | fa _ => cases e
  | pin _ => cases e
def tT (m : EM) : TM := fun e S => (m e S).bind fun x S1 => lf (truD S1 x) S1
theorem rt_e (ha : RE X W a ma) (he : ∀ whole, isTrue a X.env whole = (do let v ← whole; standAt a.pos; holding [v] (truthy v)) := by intro _; rfl) : RT X W a (tT ma) := by
  refine pt_imp (pt_truth ha he) ?_
  rintro s H Q ⟨w, en, rfl, R, E, P⟩
  refine ⟨w, en, rfl, R, E, (Post.bind P).imp ?_⟩
  rintro v H1 ⟨w1, x, rfl, X1, R1, rx, P1⟩
  dsimp only at P1
  cases h : truD w1.st x with
  | none => rw [h] at P1; exact False.elim P1
  | some k =>
    rw [h] at P1
    exact ⟨k, rx.tru R1 h, Post.now P1 R1 rfl⟩
def tNt (t : TM) : TM := fun e S => (t e S).bind fun b S1 => .ok (!b) S1
def tAn (t u : TM) : TM := fun e S => (t e S).bind fun b S1 => if b then u e S1 else .ok false S1
def tOr' (t u : TM) : TM := fun e S => (t e S).bind fun b S1 => if b then .ok true S1 else u e S1
theorem rt_not (ha : RT X W a ta) : RT X W (.UnaryOp .Not a pos) (tNt ta) := by
  refine pt_imp (pt_not ha) ?_
  rintro s H Q ⟨w, en, rfl, R, E, P⟩
  refine ⟨w, en, rfl, R, E, (Post.bind P).imp ?_⟩
  rintro v H1 ⟨w1, x, rfl, X1, R1, rx, P1⟩
  cases rx
  exact Post.now P1 R1 rfl
theorem rw_and1 (ha : RT X W a ta) : RW X W (.BoolOp .And [a] pos) ta := pw_and1 ha
theorem rw_or1 (ha : RT X W a ta) : RW X W (.BoolOp .Or [a] pos) ta := pw_or1 ha
theorem rw_and {rest : List Expr} (ha : RT X W a ta) (hb : RW X W (.BoolOp .And (b :: rest) pos) tb) : RW X W (.BoolOp .And (a :: b :: rest) pos) (tAn ta tb) := by
  refine pw_imp (pw_and ha hb) ?_
  rintro s H Q ⟨w, en, rfl, R, E, P⟩
  refine ⟨w, en, rfl, R, E, (Post.bind P).imp ?_⟩
  rintro v H1 ⟨w1, x, rfl, X1, R1, rx, P1⟩
  cases rx
  dsimp only at P1
  cases v with
  | true =>
    rw [if_pos rfl] at P1 ⊢
    exact ⟨w1, en, rfl, R1, E.ext X1.toEx0, P1⟩
  | false =>
    rw [if_neg Bool.false_ne_true] at P1 ⊢
    exact Post.now P1 R1 rfl
theorem rw_or {rest : List Expr} (ha : RT X W a ta) (hb : RW X W (.BoolOp .Or (b :: rest) pos) tb) : RW X W (.BoolOp .Or (a :: b :: rest) pos) (tOr' ta tb) := by
  refine pw_imp (pw_or ha hb) ?_
  rintro s H Q ⟨w, en, rfl, R, E, P⟩
  refine ⟨w, en, rfl, R, E, (Post.bind P).imp ?_⟩
  rintro v H1 ⟨w1, x, rfl, X1, R1, rx, P1⟩
  cases rx
  dsimp only at P1
  cases v with
  | true =>
    rw [if_pos rfl] at P1 ⊢
    exact Post.now P1 R1 rfl
  | false =>
    rw [if_neg Bool.false_ne_true] at P1 ⊢
    exact ⟨w1, en, rfl, R1, E.ext X1.toEx0, P1⟩
theorem rt_w (h : RW X W a ta) : RT X W a ta := h.pt
def eAn (a b : EM) : EM := fun e S => (a e S).bind fun x S1 => (lf (truD S1 x) S1).bind fun k S2 => if k then b e S2 else .ok x S2
def eOr (a b : EM) : EM := fun e S => (a e S).bind fun x S1 => (lf (truD S1 x) S1).bind fun k S2 => if k then .ok x S2 else b e S2
def eNt (a : EM) : EM := fun e S => (a e S).bind fun x S1 => (lf (truD S1 x) S1).bind fun k S2 => .ok (.bl (!k)) S2
theorem re_one {op} (h : RE X W a ma) : RE X W (.BoolOp op [a] pos) ma := pe_one h
theorem re_and {rest : List Expr} (ha : RE X W a ma) (hb : RE X W (.BoolOp .And (b :: rest) pos) mb) : RE X W (.BoolOp .And (a :: b :: rest) pos) (eAn ma mb) := by
  refine pe_imp (pe_andT ha hb) ?_
  rintro s H Q ⟨w, en, rfl, R, E, P⟩
  refine ⟨w, en, rfl, R, E, (Post.bind P).imp ?_⟩
  rintro v H1 ⟨w1, x, rfl, X1, R1, rx, P1⟩
  dsimp only at P1
  cases h : truD w1.st x with
  | none => rw [h] at P1; exact False.elim P1
  | some k =>
    rw [h] at P1
    refine ⟨k, rx.tru R1 h, ?_⟩
    replace P1 : Post (RepD X.K X.mg) X.K X.mg w1 (if k = true then mb en w1.st else .ok x w1.st) Q _ := P1
    cases k with
    | true =>
      rw [if_pos rfl] at P1 ⊢
      exact ⟨w1, en, rfl, R1, E.ext X1.toEx0, P1⟩
    | false =>
      rw [if_neg Bool.false_ne_true] at P1 ⊢
      exact Post.now P1 R1 rx
theorem re_or {rest : List Expr} (ha : RE X W a ma) (hb : RE X W (.BoolOp .Or (b :: rest) pos) mb) : RE X W (.BoolOp .Or (a :: b :: rest) pos) (eOr ma mb) := by
  refine pe_imp (pe_orT ha hb) ?_
  rintro s H Q ⟨w, en, rfl, R, E, P⟩
  refine ⟨w, en, rfl, R, E, (Post.bind P).imp ?_⟩
  rintro v H1 ⟨w1, x, rfl, X1, R1, rx, P1⟩
  dsimp only at P1
  cases h : truD w1.st x with
  | none => rw [h] at P1; exact False.elim P1
  | some k =>
    rw [h] at P1
    refine ⟨k, rx.tru R1 h, ?_⟩
    replace P1 : Post (RepD X.K X.mg) X.K X.mg w1 (if k = true then .ok x w1.st else mb en w1.st) Q _ := P1
    cases k with
    | true =>
      rw [if_pos rfl] at P1 ⊢
      exact Post.now P1 R1 rx
    | false =>
      rw [if_neg Bool.false_ne_true] at P1 ⊢
      exact ⟨w1, en, rfl, R1, E.ext X1.toEx0, P1⟩
theorem re_not (ha : RE X W a ma) : RE X W (.UnaryOp .Not a pos) (eNt ma) := by
  refine pe_imp (pe_notT ha) ?_
  rintro s H Q ⟨w, en, rfl, R, E, P⟩
  refine ⟨w, en, rfl, R, E, (Post.bind P).imp ?_⟩
  rintro v H1 ⟨w1, x, rfl, X1, R1, rx, P1⟩
  dsimp only at P1
  cases h : truD w1.st x with
  | none => rw [h] at P1; exact False.elim P1
  | some k =>
    rw [h] at P1
    exact ⟨k, rx.tru R1 h, Post.now P1 R1 (.bl _)⟩
def eIf (t : TM) (a b : EM) : EM := fun e S => (t e S).bind fun k S1 => if k then a e S1 else b e S1
theorem re_if (hc : RT X W c ta) (ha : RE X W a ma) (hb : RE X W b mb) : RE X W (.IfExp c a b pos) (eIf ta ma mb) := by
  refine pe_imp (pe_ifExp hc ha hb) ?_
  rintro s H Q ⟨w, en, rfl, R, E, P⟩
  refine ⟨w, en, rfl, R, E, (Post.bind P).imp ?_⟩
  rintro v H1 ⟨w1, x, rfl, X1, R1, rx, P1⟩
  cases rx
  dsimp only at P1
  cases v with
  | true =>
    rw [if_pos rfl] at P1 ⊢
    exact ⟨w1, en, rfl, R1, E.ext X1.toEx0, P1⟩
  | false =>
    rw [if_neg Bool.false_ne_true] at P1 ⊢
    exact ⟨w1, en, rfl, R1, E.ext X1.toEx0, P1⟩
def eNeg (a : EM) : EM := fun e S => (a e S).bind fun x S1 => match x with
  | .int i => .ok (.int (-i)) S1
  | _ => .stuck
theorem re_neg (ha : RE X W a ma) : RE X W (.UnaryOp .USub a pos) (eNeg ma) := by
  refine pe_imp (pe_un un_neg ha) ?_
  rintro s H Q ⟨w, en, rfl, R, E, P⟩
  refine ⟨w, en, rfl, R, E, (Post.bind P).imp ?_⟩
  rintro v H1 ⟨w1, x, rfl, X1, R1, rx, P1⟩
  cases x with
  | int i => cases rx; exact ⟨i, rfl, Post.now P1 R1 (.int _)⟩
  | _ => exact False.elim P1
def aNil : AM := fun _ S => .ok [] S
def aCons (a : EM) (r : AM) : AM := fun e S => (a e S).bind fun x S1 => (r e S1).bind fun xs S2 => .ok (x :: xs) S2
theorem ra_nil : RA X W [] aNil := pa_imp pa_nil fun s H Q ⟨w, en, hw, R, E, P⟩ => by
  subst hw
  exact Post.now P R .nil
theorem ra_cons {mr : AM} (ha : RE X W e ma) (hr : RA X W es mr) (hs : starEach (e :: es) X.env = (false, eval e X.env) :: starEach es X.env := by rfl) : RA X W (e :: es) (aCons ma mr) := by
  refine pa_imp (pa_cons ha hr hs) ?_
  rintro s H Q ⟨w, en, rfl, R, E, P⟩
  refine ⟨w, en, rfl, R, E, (Post.bind P).imp ?_⟩
  rintro v H1 ⟨w1, x, rfl, X1, R1, rx, P1⟩
  refine ⟨w1, en, rfl, R1, E.ext X1.toEx0, (Post.bind P1).imp ?_⟩
  rintro vs H2 ⟨w2, y, rfl, X2, R2, ry, P2⟩
  exact Post.now P2 R2 (.cons (rx.ext X2.toEx0) ry)
def eTup (m : AM) : EM := fun e S => (m e S).bind fun xs S1 => if xs.length ≤ sizeLine then .ok (.tup xs) S1 else .stuck
def eLst (m : AM) : EM := fun e S => (m e S).bind fun xs S1 => if xs.length ≤ sizeLine then .ok (.lst xs) S1 else .stuck
def eNew (m : AM) : EM := fun e S => (m e S).bind fun xs S1 => if xs.length ≤ sizeLine then .ok (.loc S1.length) (S1 ++ [.lst xs]) else .stuck
theorem re_tup {m : AM} {x1} (h : RA X W es m) : RE X W (.Tuple es x1 pos) (eTup m) := by
  refine pe_imp (pe_tup h) ?_
  rintro s H Q ⟨w, en, rfl, R, E, P⟩
  refine ⟨w, en, rfl, R, E, (Post.bind P).imp ?_⟩
  rintro v H1 ⟨w1, x, rfl, X1, R1, rx, P1⟩
  dsimp only at P1
  split at P1
  · rename_i hz
    exact ⟨by rw [← rx.length]; exact hz, fun p hp => Post.put P1 R1 hp (.tup (.inl (put_st R1 hp).o) (rx.ext (put_ext R1 hp).toEx0))⟩
  · exact False.elim P1
theorem re_lst {m : AM} (h : RA X W es m) : RE X W (.List es pos) (eLst m) := by
  refine pe_imp (pe_lst h) ?_
  rintro s H Q ⟨w, en, rfl, R, E, P⟩
  refine ⟨w, en, rfl, R, E, (Post.bind P).imp ?_⟩
  rintro v H1 ⟨w1, x, rfl, X1, R1, rx, P1⟩
  dsimp only at P1
  split at P1
  · rename_i hz
    exact ⟨by rw [← rx.length]; exact hz, fun p hp => Post.put P1 R1 hp (.lst (put_st R1 hp) (rx.ext (put_ext R1 hp).toEx0))⟩
  · exact False.elim P1
theorem Post.new {β γ : Type} {Rl : Wo → β → γ → Prop} {K : PySem.W.Frag} {mg : Str → Option Value} {w : Wo} {b : β} {v : γ} {Q : γ → Hp → Prop} {E : XK} {p : Addr} {o : HO} {c : Cell} (h : Post Rl K mg w (.ok b (w.st ++ [c])) Q E) (R : Rep K mg w) (hn : w.hp p = none)
    (hc : CellR K mg (w.new p o c) p c) (q : Rl (w.new p o c) b v) : Q v (upd w.hp p o) :=
  h (w.new p o c) v (new_ext R hn) (R.new hn hc) rfl q
theorem re_new {m : AM} (h : RA X W es m) : RE X W (.List es pos) (eNew m) := by
  refine pe_imp (pe_lst h) ?_
  rintro s H Q ⟨w, en, rfl, R, E, P⟩
  refine ⟨w, en, rfl, R, E, (Post.bind P).imp ?_⟩
  rintro v H1 ⟨w1, x, rfl, X1, R1, rx, P1⟩
  dsimp only at P1
  split at P1
  · rename_i hz
    refine ⟨by rw [← rx.length]; exact hz, fun p hp => Post.new P1 R1 hp ⟨v, upd_same, rx.ext (new_ext R1 hp).toEx0⟩ (.loc (new_get R1))⟩
  · exact False.elim P1
theorem re_dic0 : RE X W (.Dict [] [] pos) (eC (.dic [] [])) := by
  refine pe_imp pe_dnewK ?_
  rintro s H Q ⟨w, en, rfl, R, E, P⟩
  intro p hp
  exact Post.put P R hp (.dic (vs := []) (put_st R hp) rfl .nil)
end
end G
namespace G
open PySem L2
section
variable {X : Cx} {W : WX} {a b c e o : Expr} {es : List Expr} {ma mb mc me : EM} {ta tb : TM} {pos : Pos}
variable {K : PySem.W.Frag} {mg : Str → Option Value} {w : Wo}
def ixD (S : Store) : D → D → Option D
  | .tup l, .int i => atI l i
  | .lst l, .int i => atI l i
  | .scr l, .int i => atI l i
  | .str x, .int i => if x.length ≤ sizeLine then (atI x.cps.toList i).map fun c => .str ⟨#[c]⟩ else none
  | .loc n, .int i => match S[n]? with
    | some (.lst l) => atI l i
    | _ => none
  | _, _ => none
def OpMS (X : Cx) (f : Store → D → D → Option D) : R2 := fun v u H Q => ∃ w x y E, w.hp = H ∧ Rep X.K X.mg w ∧ RepD X.K X.mg w x v ∧ RepD X.K X.mg w y u ∧ Post (RepD X.K X.mg) X.K X.mg w (lf (f w.st x y) w.st) Q E
def eBinS (f : Store → D → D → Option D) (a b : EM) : EM := fun e S => (a e S).bind fun x S1 => (b e S1).bind fun y S2 => lf (f S2 x y) S2
theorem t_binS {f : Store → D → D → Option D} : ∀ s H Q, tG (RepD X.K X.mg) X W (eBinS f ma mb) s H Q → tOp (OpMS X f) (tG (RepD X.K X.mg) X W ma) (tG (RepD X.K X.mg) X W mb) s H Q := by
  rintro s H Q ⟨w, en, rfl, R, E, P⟩
  refine ⟨w, en, rfl, R, E, (Post.bind P).imp ?_⟩
  rintro v H1 ⟨w1, x, rfl, X1, R1, rx, P1⟩
  refine ⟨w1, en, rfl, R1, E.ext X1.toEx0, (Post.bind P1).imp ?_⟩
  rintro u H2 ⟨w2, y, rfl, X2, R2, ry, P2⟩
  exact ⟨w2, x, y, _, rfl, R2, rx.ext X2.toEx0, ry, P2⟩
theorem om_ix : IxR X (OpMS X ixD) := by
  intro va sl pins s σ H x y v u Q I rx ry h hs
  obtain ⟨w, dx, dy, E, rfl, R, qx, qy, P⟩ := h
  unfold ixD at P
  split at P
  · rename_i l i
    cases qy
    cases qx with
    | tup st r =>
      cases q : atI l i with
      | none => rw [q] at P; exact False.elim P
      | some d =>
        rw [q] at P
        obtain ⟨z, e1, rz⟩ := r.at q
        exact ix_tup va sl pins s σ w.hp _ _ v u Q I rx ry ⟨_, _, _, _, rfl, rfl, st.sq, e1, Post.now P R rz⟩ hs
  · rename_i l i
    cases qy
    cases qx with
    | lst st r =>
      cases q : atI l i with
      | none => rw [q] at P; exact False.elim P
      | some d =>
        rw [q] at P
        obtain ⟨z, e1, rz⟩ := r.at q
        exact ix_list va sl pins s σ w.hp _ _ v u Q I rx ry ⟨_, _, _, _, rfl, rfl, SqL.of st.1, e1, Post.now P R rz⟩ hs
  · rename_i l i
    cases qy
    cases qx with
    | scr st r =>
      cases q : atI l i with
      | none => rw [q] at P; exact False.elim P
      | some d =>
        rw [q] at P
        obtain ⟨z, e1, rz⟩ := r.at q
        exact ix_list va sl pins s σ w.hp _ _ v u Q I rx ry ⟨_, _, _, _, rfl, rfl, st.sq, e1, Post.now P R rz⟩ hs
  · rename_i z i
    cases qy; cases qx
    split at P
    · rename_i hz
      cases q : atI z.cps.toList i with
      | none => rw [q] at P; exact False.elim P
      | some ch =>
        rw [q] at P
        exact ix_str va sl pins s σ w.hp _ _ v u Q I rx ry ⟨_, _, _, rfl, rfl, hz, q, Post.now P R (.str _)⟩ hs
    · exact False.elim P
  · rename_i n i
    cases qy
    cases qx with
    | loc hn =>
      split at P
      · rename_i l hl
        obtain ⟨vs, p, r⟩ := R.cell _ _ _ hn hl
        cases q : atI l i with
        | none => rw [q] at P; exact False.elim P
        | some d =>
          rw [q] at P
          obtain ⟨z, e1, rz⟩ := r.at q
          exact ix_list va sl pins s σ w.hp _ _ v u Q I rx ry ⟨_, _, _, _, rfl, rfl, SqL.of p, e1, Post.now P R rz⟩ hs
      · exact False.elim P
  · exact False.elim P
theorem re_ix (ha : RE X W a ma) (hb : RE X W b mb) (hs : PlainIx b := by intro _ _; rfl) : RE X W (.Subscript a b pos) (eBinS ixD ma mb) := pe_imp (pe_ix om_ix ha hb hs) t_binS
abbrev OM := En → Store → Res (Option Int)
def RlO : Wo → Option Int → Option Int → Prop := fun _ b c => c = b
abbrev RO (X : Cx) (W : WX) (e : Option Expr) (m : OM) : Prop := PO X e (tG RlO X W m)
def oNone : OM := fun _ S => .ok none S
def oSome (m : EM) : OM := fun e S => (m e S).bind fun x S1 => match x with
  | .int i => .ok (some i) S1
  | _ => .stuck
theorem ro_none : RO X W none oNone := ⟨fun pins s σ H Q I ⟨w, en, hw, R, E, P⟩ => po_none.run pins s σ H Q I (by subst hw; exact Post.now P R rfl)⟩
theorem ro_some (ha : RE X W a ma) : RO X W (some a) (oSome ma) := ⟨fun pins s σ H Q I hq => (po_some ha).run pins s σ H Q I (by
  obtain ⟨w, en, rfl, R, E, P⟩ := hq
  refine ⟨w, en, rfl, R, E, (Post.bind P).imp ?_⟩
  rintro v H1 ⟨w1, x, rfl, X1, R1, rx, P1⟩
  cases x with
  | int i => cases rx; exact ⟨i, rfl, Post.now P1 R1 rfl⟩
  | _ => exact False.elim P1)⟩
def cutL {α : Type} (l : List α) (lo hi : Option Int) : List α := (l.drop (HT.sIx l.length 0 lo)).take (HT.sIx l.length l.length hi - HT.sIx l.length 0 lo)
theorem RepL.cut {l : List D} {vs : List V} (h : RepL K mg w l vs) (lo hi : Option Int) : RepL K mg w (cutL l lo hi) (cutV vs lo hi) := by
  unfold cutL cutV
  rw [h.length]
  exact (h.drop _).take _
def slD (S : Store) : D → Option Int → Option Int → Option D
  | .lst l, lo, hi => some (.lst (cutL l lo hi))
  | .scr l, lo, hi => some (.lst (cutL l lo hi))
  | .tup l, lo, hi => if HT.sIx l.length 0 lo = 0 ∧ HT.sIx l.length l.length hi = l.length then none else some (.tup (cutL l lo hi))
  | .loc n, lo, hi => match S[n]? with
    | some (.lst l) => some (.lst (cutL l lo hi))
    | _ => none
  | .str x, lo, hi => if x.length ≤ sizeLine then some (.str (cutS x lo hi)) else none
  | _, _, _ => none
def SlM (X : Cx) : V → Option Int → Option Int → Hp → VK → Prop := fun v lo hi H Q => ∃ w x E, w.hp = H ∧ Rep X.K X.mg w ∧ RepD X.K X.mg w x v ∧ Post (RepD X.K X.mg) X.K X.mg w (lf (slD w.st x lo hi) w.st) Q E
theorem om_sl : SlR X (SlM X) := by
  intro pins s σ H x v vl vu lo hi sl Q I rx hs pl pu h
  obtain ⟨w, dx, E, rfl, R, qx, P⟩ := h
  unfold slD at P
  split at P
  · cases qx with
    | lst st r => exact sl_list pins s σ w.hp _ v vl vu _ _ sl Q I rx hs pl pu ⟨_, _, rfl, SqL.of st.1, fun p hp => Post.put P R hp (.lst (put_st R hp) ((r.cut _ _).ext (put_ext R hp).toEx0))⟩
  · cases qx with
    | scr st r => exact sl_list pins s σ w.hp _ v vl vu _ _ sl Q I rx hs pl pu ⟨_, _, rfl, st.sq, fun p hp => Post.put P R hp (.lst (put_st R hp) ((r.cut _ _).ext (put_ext R hp).toEx0))⟩
  · split at P
    · exact False.elim P
    · rename_i hn
      cases qx with
      | tup st r =>
        rw [r.length] at hn
        exact sl_tup pins s σ w.hp _ v vl vu _ _ sl Q I rx hs pl pu ⟨_, _, rfl, st.sq, hn, fun p hp => Post.put P R hp (.tup (.inl (put_st R hp).o) ((r.cut _ _).ext (put_ext R hp).toEx0))⟩
  · cases qx with
    | loc hn =>
      split at P
      · rename_i l hl
        obtain ⟨vs, p, r⟩ := R.cell _ _ _ hn hl
        exact sl_list pins s σ w.hp _ v vl vu _ _ sl Q I rx hs pl pu ⟨_, _, rfl, SqL.of p, fun p hp => Post.put P R hp (.lst (put_st R hp) ((r.cut _ _).ext (put_ext R hp).toEx0))⟩
      · exact False.elim P
  · split at P
    · rename_i hz
      cases qx
      exact sl_str pins s σ w.hp _ v vl vu _ _ sl Q I rx hs pl pu ⟨_, rfl, hz, Post.now P R (.str _)⟩
    · exact False.elim P
  · exact False.elim P
def eSl (a : EM) (lo hi : OM) : EM := fun e S => (a e S).bind fun x S1 => (lo e S1).bind fun l S2 => (hi e S2).bind fun h S3 => lf (slD S3 x l h) S3
theorem re_sl {lo hi : Option Expr} {ml mh : OM} {p2 : Pos} (ha : RE X W a ma) (hl : RO X W lo ml) (hh : RO X W hi mh) : RE X W (.Subscript a (.Slice lo hi none p2) pos) (eSl ma ml mh) := by
  refine pe_imp (pe_slice om_sl ha hl hh) ?_
  rintro s H Q ⟨w, en, rfl, R, E, P⟩
  refine ⟨w, en, rfl, R, E, (Post.bind P).imp ?_⟩
  rintro v H1 ⟨w1, x, rfl, X1, R1, rx, P1⟩
  refine ⟨w1, en, rfl, R1, E.ext X1.toEx0, (Post.bind P1).imp ?_⟩
  rintro l H2 ⟨w2, y, rfl, X2, R2, ry, P2⟩
  cases ry
  refine ⟨w2, en, rfl, R2, (E.ext X1.toEx0).ext X2.toEx0, (Post.bind P2).imp ?_⟩
  rintro h H3 ⟨w3, z, rfl, X3, R3, rz, P3⟩
  cases rz
  exact ⟨w3, x, _, rfl, R3, (rx.ext X2.toEx0).ext X3.toEx0, P3⟩
def CaM (X : Cx) (f : Store → List D → Option D) : List V → Hp → VK → Prop := fun vs H Q => ∃ w xs E, w.hp = H ∧ Rep X.K X.mg w ∧ RepL X.K X.mg w xs vs ∧ Post (RepD X.K X.mg) X.K X.mg w (lf (f w.st xs) w.st) Q E
def eCa (f : Store → List D → Option D) (m : AM) : EM := fun e S => (m e S).bind fun xs S1 => lf (f S1 xs) S1
theorem t_ca {f : Store → List D → Option D} {m : AM} : ∀ s H Q, tG (RepD X.K X.mg) X W (eCa f m) s H Q → tCB (CaM X f) (tG (RepL X.K X.mg) X W m) s H Q := by
  rintro s H Q ⟨w, en, rfl, R, E, P⟩
  refine ⟨w, en, rfl, R, E, (Post.bind P).imp ?_⟩
  rintro v H1 ⟨w1, x, rfl, X1, R1, rx, P1⟩
  exact ⟨w1, x, _, rfl, R1, rx, P1⟩
theorem re_b {x : Str} {p : Pos} {id : String} {f : Store → List D → Option D} {m : AM} (hc : CallR X (.builtin id) (CaM X f)) (hg : Gl X x) (hm : X.mg x = none) (hv : bootBuiltins x = some (.builtin id)) (ha : RA X W (e :: es) m) (hn : x ≠ "__name__" := by decide) (hdb : (x == ("__debug__" : Str)) = false := by decide)
    (he : starEach (e :: es) X.env = (false, eval e X.env) :: starEach es X.env := by rfl) (hpl : (backTo pos (starEach es X.env)).any (·.1) = false := by rfl) : RE X W (.Call (.Name x p) (e :: es) [] pos) (eCa f m) :=
  pe_imp (pe_callB hc hg hm hv ha hn hdb he hpl) t_ca
theorem re_ty {x : Str} {p : Pos} {T : String} {f : Store → List D → Option D} {m : AM} (hc : CallR X (.type T) (CaM X f)) (hg : Gl X x) (hm : X.mg x = none) (hv : bootBuiltins x = some (.type T)) (ha : RA X W (e :: es) m) (hn : x ≠ "__name__" := by decide) (hdb : (x == ("__debug__" : Str)) = false := by decide)
    (he : starEach (e :: es) X.env = (false, eval e X.env) :: starEach es X.env := by rfl) (hpl : (backTo pos (starEach es X.env)).any (·.1) = false := by rfl) : RE X W (.Call (.Name x p) (e :: es) [] pos) (eCa f m) :=
  pe_imp (pe_callTy hc hg hm hv ha hn hdb he hpl) t_ca
theorem RepL.nil_inv {vs : List V} (h : RepL K mg w [] vs) : vs = [] := by cases h; rfl
theorem RepL.cons_inv {d : D} {l : List D} {vs : List V} (h : RepL K mg w (d :: l) vs) : ∃ v us, vs = v :: us ∧ RepD K mg w d v ∧ RepL K mg w l us := by
  cases h with
  | cons r t => exact ⟨_, _, rfl, r, t⟩
theorem RepL.one_inv {d : D} {vs : List V} (h : RepL K mg w [d] vs) : ∃ v, vs = [v] ∧ RepD K mg w d v := by
  obtain ⟨v, us, rfl, r, t⟩ := h.cons_inv
  rw [t.nil_inv]
  exact ⟨v, rfl, r⟩
theorem RepL.two_inv {d d' : D} {vs : List V} (h : RepL K mg w [d, d'] vs) : ∃ v v', vs = [v, v'] ∧ RepD K mg w d v ∧ RepD K mg w d' v' := by
  obtain ⟨v, us, rfl, r, t⟩ := h.cons_inv
  obtain ⟨v', rfl, r'⟩ := t.one_inv
  exact ⟨v, v', rfl, r, r'⟩
def fAbs : Store → List D → Option D
  | _, [.int i] => some (.int (if i < 0 then -i else i))
  | _, _ => none
theorem cm_abs : CallR X (.builtin "abs") (CaM X fAbs) := by
  intro pins s σ H xs us Q I r h
  obtain ⟨w, ds, E, rfl, R, q, P⟩ := h
  unfold fAbs at P
  split at P
  · obtain ⟨v, rfl, rv⟩ := q.one_inv
    cases rv
    exact call_abs pins s σ w.hp _ us Q I r ⟨_, rfl, Post.now P R (.int _)⟩
  · exact False.elim P
def fMax : Store → List D → Option D
  | _, [.int i, .int j] => some (.int (if j > i then j else i))
  | _, _ => none
theorem cm_max (hc : X.calm = true) : CallR X (.builtin "max") (CaM X fMax) := by
  intro pins s σ H xs us Q I r h
  obtain ⟨w, ds, E, rfl, R, q, P⟩ := h
  unfold fMax at P
  split at P
  · obtain ⟨v, v', rfl, rv, rv'⟩ := q.two_inv
    cases rv; cases rv'
    exact call_max2 hc pins s σ w.hp _ us Q I r ⟨_, _, rfl, Post.now P R (.int _)⟩
  · exact False.elim P
def fMin : Store → List D → Option D
  | _, [.int i, .int j] => some (.int (if j < i then j else i))
  | _, _ => none
theorem cm_min (hc : X.calm = true) : CallR X (.builtin "min") (CaM X fMin) := by
  intro pins s σ H xs us Q I r h
  obtain ⟨w, ds, E, rfl, R, q, P⟩ := h
  unfold fMin at P
  split at P
  · obtain ⟨v, v', rfl, rv, rv'⟩ := q.two_inv
    cases rv; cases rv'
    exact call_min2 hc pins s σ w.hp _ us Q I r ⟨_, _, rfl, Post.now P R (.int _)⟩
  · exact False.elim P
def fLen : Store → List D → Option D
  | S, [d] => (lenD S d).map fun n => .int n
  | _, _ => none
theorem cm_len : CallR X (.builtin "len") (CaM X fLen) := by
  intro pins s σ H xs us Q I r h
  obtain ⟨w, ds, E, rfl, R, q, P⟩ := h
  unfold fLen at P
  split at P
  · rename_i d
    obtain ⟨v, rfl, rv⟩ := q.one_inv
    cases e : lenD w.st d with
    | none => rw [e] at P; exact False.elim P
    | some n =>
      rw [e] at P
      exact call_len pins s σ w.hp _ us Q I r ⟨_, n, rfl, rv.len R e, Post.now P R (.int _)⟩
  · exact False.elim P
def fInt : Store → List D → Option D
  | _, [.int i] => some (.int i)
  | _, [.bl b] => some (.int (if b then 1 else 0))
  | _, _ => none
theorem cm_int : CallR X (.type "int") (CaM X fInt) := by
  intro pins s σ H xs us Q I r h
  obtain ⟨w, ds, E, rfl, R, q, P⟩ := h
  unfold fInt at P
  split at P
  · obtain ⟨v, rfl, rv⟩ := q.one_inv
    cases rv
    exact call_int1 pins s σ w.hp _ us Q I r (.inl ⟨_, rfl, Post.now P R (.int _)⟩)
  · obtain ⟨v, rfl, rv⟩ := q.one_inv
    cases rv
    exact call_int1 pins s σ w.hp _ us Q I r (.inr ⟨_, rfl, Post.now P R (.int _)⟩)
  · exact False.elim P
def bools : List D → Option (List Bool)
  | [] => some []
  | .bl b :: l => (bools l).map (b :: ·)
  | _ :: _ => none
theorem RepL.bools {l : List D} {vs : List V} {bs : List Bool} (h : RepL K mg w l vs) (e : bools l = some bs) : vs = bs.map V.bl := by
  induction l generalizing vs bs with
  | nil => cases h; cases e; rfl
  | cons d l ih =>
    cases h with
    | cons r t =>
      cases d with
      | bl b =>
        cases r
        rw [G.bools] at e
        obtain ⟨cs, e1, rfl⟩ := Option.map_eq_some_iff.mp e
        rw [ih t e1]; rfl
      | _ => cases e
def fAll : Store → List D → Option D
  | S, [d] => ((seqD S d).bind bools).map fun bs => .bl (bs.all id)
  | _, _ => none
theorem cm_all (hc : X.calm = true) : CallR X (.builtin "all") (CaM X fAll) := by
  intro pins s σ H xs us Q I r h
  obtain ⟨w, ds, E, rfl, R, q, P⟩ := h
  unfold fAll at P
  split at P
  · rename_i d
    obtain ⟨v, rfl, rv⟩ := q.one_inv
    cases e : (seqD w.st d).bind bools with
    | none => rw [e] at P; exact False.elim P
    | some bs =>
      rw [e] at P
      obtain ⟨l, e1, e2⟩ := Option.bind_eq_some_iff.mp e
      obtain ⟨a, vs, rfl, hs, hl⟩ := rv.seq R e1
      exact cr_all hc pins s σ w.hp _ us Q I r ⟨a, bs, rfl, by rw [← hl.bools e2]; exact hs, Post.now P R (.bl _)⟩
  · exact False.elim P
def fTuple : Store → List D → Option D
  | _, [.tup l] => some (.tup l)
  | S, [d] => (seqD S d).map .tup
  | _, _ => none
theorem bt_isinstance : bootBuiltins "isinstance" = some (.builtin "isinstance") := by decide +kernel
theorem bt_abs : bootBuiltins "abs" = some (.builtin "abs") := by decide +kernel
theorem bt_max : bootBuiltins "max" = some (.builtin "max") := by decide +kernel
theorem bt_min : bootBuiltins "min" = some (.builtin "min") := by decide +kernel
theorem bt_len : bootBuiltins "len" = some (.builtin "len") := by decide +kernel
theorem bt_divmod : bootBuiltins "divmod" = some (.builtin "divmod") := by decide +kernel
theorem bt_all : bootBuiltins "all" = some (.builtin "all") := by decide +kernel
theorem bt_int : bootBuiltins "int" = some (.type "int") := by decide +kernel
theorem bt_bool : bootBuiltins "bool" = some (.type "bool") := by decide +kernel
theorem bt_str : bootBuiltins "str" = some (.type "str") := by decide +kernel
theorem bt_tuple : bootBuiltins "tuple" = some (.type "tuple") := by decide +kernel
theorem bt_ValueError : bootBuiltins "ValueError" = some (.type "ValueError") := by decide +kernel
theorem bt_LookupError : bootBuiltins "LookupError" = some (.type "LookupError") := by decide +kernel
theorem bt_ArithmeticError : bootBuiltins "ArithmeticError" = some (.type "ArithmeticError") := by decide +kernel
def Tn.is : Tn → Ty → Bool
  | .int, .int => true
  | .bool, .int => true
  | .bool, .bool => true
  | .str, .str => true
  | .tuple, .tuple => true
  | .list, .list => true
  | .dict, .dict => true
  | _, _ => false
theorem Tn.kit (t : Tn) (y : Ty) : L2.kitB t.nm y.nm = some (t.is y) := by
  cases t <;> cases y <;> decide +kernel
def tyC : Option Cell → Option Tn
  | some (.lst _) => some .list
  | some (.dk _) => some .dict
  | _ => none
def tyD (S : Store) : D → Option Tn
  | .non => some .non
  | .bl _ => some .bool
  | .int _ => some .int
  | .str _ => some .str
  | .tup _ => some .tuple
  | .lst _ => some .list
  | .scr _ => some .list
  | .dic _ _ => some .dict
  | .loc n => tyC S[n]?
  | .exc _ _ => none
  | .ins _ _ => none
  | .fa _ => none
  | .pin _ _ => none
def isTy (S : Store) (y : Ty) (d : D) : Option Bool := (tyD S d).map fun t => t.is y
theorem RepD.tyX {d : D} {v : V} {t : Tn} (R : Rep K mg w) (h : RepD K mg w d v) (e : tyD w.st d = some t) : TyX K w.hp v (.type t.nm) := by
  cases h with
  | non => cases e; exact .base .non
  | bl k => cases e; exact .base (.bl k)
  | int i => cases e; exact .base (.int i)
  | str x => cases e; exact .base (.str x)
  | tup s r =>
    cases e
    rcases s with ⟨s | ⟨o, s⟩, _⟩ | ⟨o, its, n, hk, hc, _⟩
    · exact .base (.tup s)
    · exact .fTuple s
    · exact .kTuple hk hc
  | lst s r => cases e; exact .base (.lst s.1)
  | scr s r =>
    cases e
    rcases s with ⟨s | ⟨o, s⟩, _⟩ | ⟨o, its, n, hk, hc, _⟩
    · exact .base (.lst s)
    · exact .base (.frz s)
    · exact .kList hk hc
  | dic s z r => cases e; exact .base (.dK s.1)
  | @loc m a hn =>
    replace e : tyC w.st[m]? = some t := e
    cases q : w.st[m]? with
    | none => rw [q] at e; cases e
    | some cl =>
      rw [q] at e
      cases cl with
      | lst l =>
        cases e
        obtain ⟨vs, p, r⟩ := R.cell _ _ _ hn q
        exact .base (.lst p)
      | dk l =>
        cases e
        obtain ⟨vs, p, r⟩ := R.cell _ _ _ hn q
        exact .base (.dK p)
      | _ => cases e
  | ins _ _ _ => cases e
  | exc _ _ _ _ => cases e
  | fa _ => cases e
  | pin _ => cases e
def eIsTy (y : Ty) (m : EM) : EM := fun e S => (m e S).bind fun x S1 => lf ((isTy S1 y x).map .bl) S1
theorem re_isTy {T : Str} {p p2 : Pos} (y : Ty) (hm : X.mg "isinstance" = none) (hT : X.mg T = none) (hv : bootBuiltins T = some (.type y.nm)) (ha : RE X W a ma) (hg : Gl X "isinstance" := by rfl) (hgT : Gl X T := by rfl) (hn : T ≠ "__name__" := by decide) (hdT : (T == ("__debug__" : Str)) = false := by decide)
    (he : starEach (a :: [.Name T p2]) X.env = (false, eval a X.env) :: starEach [.Name T p2] X.env := by rfl) (hpl : (backTo pos (starEach [.Name T p2] X.env)).any (·.1) = false := by rfl) (hs2 : starEach [.Name T p2] X.env = (false, eval (.Name T p2) X.env) :: starEach [] X.env := by rfl) :
    RE X W (.Call (.Name "isinstance" p) [a, .Name T p2] [] pos) (eIsTy y ma) := by
  refine pe_imp (pe_callB call_isi hg hm bt_isinstance (pa_cons ha (pa_cons (pe_bltn (v := .ty y.nm) hgT hT hv rfl hn hdT) pa_nil hs2) he) (by decide) (by decide) he hpl) ?_
  rintro s H Q ⟨w, en, rfl, R, E, P⟩
  refine ⟨w, en, rfl, R, E, (Post.bind P).imp ?_⟩
  rintro v H1 ⟨w1, d, rfl, X1, R1, rx, P1⟩
  dsimp only at P1
  unfold isTy at P1
  cases q : tyD w1.st d with
  | none => rw [q] at P1; exact False.elim P1
  | some t =>
    rw [q] at P1
    exact ⟨v, .ty y.nm, .type t.nm, .type y.nm, t.is y, rfl, .ty _, rx.tyX R1 q, kit_ty (t.kit y), Post.now P1 R1 (.bl _)⟩
end
end G
namespace G
open PySem L2
abbrev RS (X : Cx) (W : WX) (st : Stmt) (m : SM) : Prop := PS X st (tS X W m)
abbrev RSs (X : Cx) (W : WX) (st : List Stmt) (m : SM) : Prop := PSs X st (tS X W m)
section
variable {X : Cx} {W : WX} {a b c e o : Expr} {es : List Expr} {ma mb mc me : EM} {ta tb : TM} {pos : Pos} {st : Stmt} {rest : List Stmt} {m n : SM}
theorem ps_imp {t t' : TS} (h : PS X st t) (i : ∀ D s H, t' D s H → t D s H) : PS X st t' := ⟨fun pins s σ H D I q => h.run pins s σ H D I (i _ _ _ q)⟩
theorem pss_imp {t t' : TS} (h : PSs X rest t) (i : ∀ D s H, t' D s H → t D s H) : PSs X rest t' := ⟨fun pins s σ H D I q => h.run pins s σ H D I (i _ _ _ q)⟩
def sNop : SM := fun e S => .nxt e S
theorem rss_nil : RSs X W [] sNop := pss_imp pss_nil fun D s H ⟨w, en, hw, R, E, P⟩ => by
  subst hw
  exact P w s (Ext.refl w) R rfl E
def sSeq (m n : SM) : SM := fun e S => sS (m e S) n
theorem rss_cons (h1 : RS X W st m) (h2 : RSs X W rest n) : RSs X W (st :: rest) (sSeq m n) := by
  refine pss_imp (pss_cons h1 h2) ?_
  rintro D s H ⟨w, en, rfl, R, E, P⟩
  exact ⟨w, en, rfl, R, E, PostS.s P⟩
theorem rss_one (h1 : RS X W st m) : RSs X W [st] m := pss_one h1
def sBrk : SM := fun e S => .brk e S
def sCnt : SM := fun e S => .cnt e S
def sDrop (m : EM) : SM := fun e S => sE (m e S) e fun _ S1 => .nxt e S1
theorem rs_expr (he : RE X W e me) (hs : swapsWith e none pos.line X.env = pure false := by rfl) : RS X W (.Expr e pos) (sDrop me) := by
  refine ps_imp (ps_expr he hs) ?_
  rintro D s H ⟨w, en, rfl, R, E, P⟩
  refine ⟨w, en, rfl, R, E, (PostS.of P E).imp ?_⟩
  rintro v H1 ⟨w1, x, rfl, X1, R1, rx, P1⟩
  exact P1 w1 s (Ext.refl w1) R1 rfl (E.ext X1.toEx0)
def sRet (m : EM) : SM := fun e S => sE (m e S) e fun d S1 => .ret d S1
theorem rs_ret (he : RE X W e me) : RS X W (.Return (some e) pos) (sRet me) := by
  refine ps_imp (ps_ret he) ?_
  rintro D s H ⟨w, en, rfl, R, E, P⟩
  refine ⟨w, en, rfl, R, E, (PostS.of P E).imp ?_⟩
  rintro v H1 ⟨w1, x, rfl, X1, R1, rx, P1⟩
  exact P1 w1 v (Ext.refl w1) R1 rfl rx
def sRetN : SM := fun e S => .ret .non S
def sIf (t : TM) (m n : SM) : SM := fun e S => sE (t e S) e fun k S1 => if k then m e S1 else n e S1
theorem rs_if {p q : List Stmt} (hc : RT X W c ta) (ha : RSs X W p m) (hb : RSs X W q n) : RS X W (.If c p q pos) (sIf ta m n) := by
  refine ps_imp (ps_if hc ha hb) ?_
  rintro D s H ⟨w, en, rfl, R, E, P⟩
  refine ⟨w, en, rfl, R, E, (PostS.of P E).imp ?_⟩
  rintro v H1 ⟨w1, x, rfl, X1, R1, rx, P1⟩
  cases rx
  dsimp only at P1
  cases v with
  | true =>
    rw [if_pos rfl] at P1 ⊢
    exact ⟨w1, en, rfl, R1, E.ext X1.toEx0, P1⟩
  | false =>
    rw [if_neg Bool.false_ne_true] at P1 ⊢
    exact ⟨w1, en, rfl, R1, E.ext X1.toEx0, P1⟩
abbrev GM := D → En → Store → Res En
def tGt (X : Cx) (W : WX) (g : GM) : TG := fun v s H Q => ∃ w e d, w.hp = H ∧ Rep X.K X.mg w ∧ RepE X.K X.mg w e s ∧ RepD X.K X.mg w d v ∧ Post (RepE X.K X.mg) X.K X.mg w (g d e w.st) Q (fun cls dd H' => W cls dd s H')
abbrev RG (X : Cx) (W : WX) (tg : Expr) (g : GM) : Prop := PG X tg (tGt X W g)
theorem pg_imp {tg : Expr} {t t' : TG} (h : PG X tg t) (i : ∀ v s H Q, t' v s H Q → t v s H Q) : PG X tg t' := ⟨fun pins s σ H v u Q I r q => h.run pins s σ H v u Q I r (i _ _ _ _ q)⟩
def gN (i : Nat) : GM := fun d e S => .ok (e.set i (some d)) S
theorem rg_name {i : Nat} {x : Str} (hN : X.N.Nodup) (hi : X.N[i]? = some x) (hx : Loc X.env.scope x := by first | exact Or.inl rfl | exact Or.inr rfl) (hf : X.fn x = true ∨ X.env.scope.names.lookup x = some .local := by first | exact .inl rfl | exact .inr rfl | assumption) : RG X W (.Name x pos) (gN i) := by
  refine pg_imp (pg_name hN hi hx hf) ?_
  rintro v s H Q ⟨w, en, d, rfl, R, E, rd, P⟩
  exact Post.now P R (E.set i rd)
abbrev GMs := List D → En → Store → Res En
def tGts (X : Cx) (W : WX) (g : GMs) : TGs := fun vs s H Q => ∃ w e ds, w.hp = H ∧ Rep X.K X.mg w ∧ RepE X.K X.mg w e s ∧ RepL X.K X.mg w ds vs ∧ Post (RepE X.K X.mg) X.K X.mg w (g ds e w.st) Q (fun cls dd H' => W cls dd s H')
abbrev RGs (X : Cx) (W : WX) (ts : List Expr) (g : GMs) : Prop := PGs X ts (tGts X W g)
theorem pgs_imp {ts : List Expr} {t t' : TGs} (h : PGs X ts t) (i : ∀ v s H Q, t' v s H Q → t v s H Q) : PGs X ts t' := ⟨fun pins s σ H v u Q I r q => h.run pins s σ H v u Q I r (i _ _ _ _ q)⟩
def gsNil : GMs := fun ds e S => match ds with
  | [] => .ok e S
  | _ => .stuck
theorem rgs_nil : RGs X W [] gsNil := by
  refine pgs_imp pgs_nil ?_
  rintro v s H Q ⟨w, en, ds, rfl, R, E, rd, P⟩
  cases rd with
  | nil => exact ⟨rfl, Post.now P R E⟩
  | cons _ _ => exact False.elim P
def noX {β : Type} : Res β → Res β
  | .exc _ _ => .stuck
  | r => r
def gsCons' (g : GM) (r : GMs) : GMs := fun ds e S => match ds with
  | d :: ds => (noX (g d e S)).bind fun e1 S1 => noX (r ds e1 S1)
  | _ => .stuck
theorem Post.noX {β γ : Type} {Rl : Wo → β → γ → Prop} {K : PySem.W.Frag} {mg : Str → Option Value} {w : Wo} {r : Res β} {Q : γ → Hp → Prop} {E E' : XK} (h : Post Rl K mg w (G.noX r) Q E) : Post Rl K mg w r Q E' := by
  cases r with
  | ok _ _ => exact h
  | exc _ _ => exact False.elim h
  | stuck => exact h
theorem rgs_cons {tg : Expr} {ts : List Expr} {g : GM} {r : GMs} (h1 : RG X W tg g) (h2 : RGs X W ts r)
    (hs : (assignEach (tg :: ts) X.env).map (·.2) = assign tg X.env :: (assignEach ts X.env).map (·.2) := by rfl) : RGs X W (tg :: ts) (gsCons' g r) := by
  refine pgs_imp (pgs_cons h1 h2 hs) ?_
  rintro v s H Q ⟨w, en, ds, rfl, R, E, rd, P⟩
  cases rd with
  | nil => exact False.elim P
  | cons r1 r2 =>
    refine ⟨_, _, rfl, w, en, _, rfl, R, E, r1, Post.noX (E := fun cls dd H' => W cls dd s H') ((Post.bind P).imp ?_)⟩
    rintro s1 H1 ⟨w1, e1, rfl, X1, R1, E1, P1⟩
    exact ⟨w1, e1, _, rfl, R1, E1, r2.ext X1.toEx0, Post.noX P1⟩
def gTp (n : Nat) (r : GMs) : GM := fun d e S => match d with
  | .tup ds => if ds.length = n then r ds e S else .stuck
  | _ => .stuck
theorem rg_tup {ts : List Expr} {k n : Nat} {r : GMs} (hc : X.calm = true) (h : RGs X W ts r) (hn : (assignEach ts X.env).length = n := by rfl) (hst : (assignEach ts X.env).findIdx? (·.1) = none := by rfl) : RG X W (.Tuple ts k pos) (gTp n r) := by
  refine pg_imp (pg_tup hc h hn hst) ?_
  rintro v s H Q ⟨w, en, d, rfl, R, E, rd, P⟩
  unfold gTp at P
  split at P
  · split at P
    · rename_i hl
      cases rd with
      | tup st rl => exact ⟨_, _, rfl, st.sq, by rw [← rl.length]; exact hl, w, en, _, rfl, R, E, rl, P⟩
    · exact False.elim P
  · exact False.elim P
def setD (S : Store) (o i d : D) : Option Store := match o, i with
  | .loc n, .int k => match S[n]? with
    | some (.lst l) => (ixN l.length k).map fun j => S.set n (.lst (l.set j d))
    | _ => none
  | _, _ => none
def gSb (o i : EM) : GM := fun d e S => (noX (o e S)).bind fun x S1 => (noX (i e S1)).bind fun y S2 => match setD S2 x y d with
  | some S3 => .ok e S3
  | none => .stuck
theorem rg_sub (ho : RE X W o ma) (hi : RE X W b mb)
    (ha : ∀ v, assign (.Subscript o b pos) X.env v = (do
      let ov ← holding [v] (eval o X.env)
      let iv ← holding [v, ov] (eval b X.env)
      standAt pos
      holding [v, ov, iv] (setItem ov iv v)
      release [v, ov, iv] []) := by intro _; rfl) : RG X W (.Subscript o b pos) (gSb ma mb) := by
  refine pg_imp (pg_sub ho hi set_list ha) ?_
  rintro v s H Q ⟨w, en, d, rfl, R, E, rd, P⟩
  refine ⟨w, en, rfl, R, E, Post.noX (E := fun cls dd H' => W cls dd s H') ((Post.bind P).imp ?_)⟩
  rintro ov H1 ⟨w1, x, rfl, X1, R1, rx, P1⟩
  refine ⟨w1, en, rfl, R1, E.ext X1.toEx0, Post.noX (E := fun cls dd H' => W cls dd s H') ((Post.bind P1).imp ?_)⟩
  rintro iv H2 ⟨w2, y, rfl, X2, R2, ry, P2⟩
  have rx' := rx.ext X2.toEx0
  dsimp only at P2
  cases q : setD w2.st x y d with
  | none => rw [q] at P2; exact False.elim P2
  | some S3 =>
    rw [q] at P2
    unfold setD at q
    split at q
    · rename_i m k
      cases ry
      cases rx' with
      | @loc _ ad hn =>
        split at q
        · rename_i l hl
          obtain ⟨j, e1, rfl⟩ := Option.map_eq_some_iff.mp q
          obtain ⟨vs, p, r⟩ := R2.cell _ _ _ hn hl
          have rd' := (rd.ext X1.toEx0).ext X2.toEx0
          have Xw : Ext w2 (w2.wr m ad (.lst (vs.set j v)) (.lst (l.set j d))) := wr_ext R2 hn hl (by intro z; cases z)
          refine ⟨_, vs, k, j, rfl, rfl, p, by rw [← r.length]; exact e1, ?_⟩
          exact P2 (w2.wr m ad (.lst (vs.set j v)) (.lst (l.set j d))) s Xw (R2.wr hn hl (by intro z; cases z) ⟨_, upd_same, (r.set rd' j).ext Xw.toEx0⟩) rfl (((E.ext X1.toEx0).ext X2.toEx0).ext Xw.toEx0)
        · cases q
    · cases q
def sAsg (m : EM) (g : GM) : SM := fun e S => sE (m e S) e fun d S1 => sE (g d e S1) e fun e1 S2 => .nxt e1 S2
theorem rs_asg {tg : Expr} {g : GM} (he : RE X W e me) (hg : RG X W tg g) (hs : swapsWithSole [tg] e pos.line X.env = pure false := by rfl) (hw : swappedStores [tg] e X.env = pure none := by rfl)
    (h1 : (assignEach [tg] X.env).map (·.2) = [assign tg X.env] := by rfl) : RS X W (.Assign [tg] e pos) (sAsg me g) := by
  refine ps_imp (ps_asg he hg hs hw h1) ?_
  rintro D s H ⟨w, en, rfl, R, E, P⟩
  refine ⟨w, en, rfl, R, E, (PostS.of P E).imp ?_⟩
  rintro v H1 ⟨w1, x, rfl, X1, R1, rx, P1⟩
  refine ⟨w1, en, x, rfl, R1, E.ext X1.toEx0, rx, (PostS.of P1 (E.ext X1.toEx0)).imp ?_⟩
  rintro s1 H2 ⟨w2, e2, rfl, X2, R2, E2, P2⟩
  exact P2 w2 s1 (Ext.refl w2) R2 rfl E2
def sSet (i : Nat) (m : EM) : SM := fun e S => sE (m e S) e fun d S1 => .nxt (e.set i (some d)) S1
theorem rs_set {i : Nat} {x : Str} {pos' : Pos} (hN : X.N.Nodup) (hi : X.N[i]? = some x) (he : RE X W e me) (hx : Loc X.env.scope x := by first | exact Or.inl rfl | exact Or.inr rfl) (hs : swapsWith e (some (.Name x pos')) pos.line X.env = pure false := by rfl) (hf : X.fn x = true ∨ X.env.scope.names.lookup x = some .local := by first | exact .inl rfl | exact .inr rfl | assumption) :
    RS X W (.Assign [.Name x pos'] e pos) (sSet i me) := by
  refine ps_imp (ps_set hN hi hx he hs hf) ?_
  rintro D s H ⟨w, en, rfl, R, E, P⟩
  refine ⟨w, en, rfl, R, E, (PostS.of P E).imp ?_⟩
  rintro v H1 ⟨w1, x, rfl, X1, R1, rx, P1⟩
  exact P1 w1 _ (Ext.refl w1) R1 rfl ((E.ext X1.toEx0).set i rx)
def sPar (i j : Nat) (m : AM) : SM := fun e S => sE (m e S) e fun ds S1 => match ds with
  | [x, y] => .nxt ((e.set i (some x)).set j (some y)) S1
  | _ => .stuck
theorem rs_par {i j : Nat} {x y : Str} {m : AM} {px py pt : Pos} {kt k2 pt2} (hc : X.calm = true) (hN : X.N.Nodup) (hi : X.N[i]? = some x) (hj : X.N[j]? = some y) (hij : i ≠ j) (ha : RA X W [a, b] m)
    (hx : X.env.scope.names.lookup x = some .local := by rfl) (hy : X.env.scope.names.lookup y = some .local := by rfl)
    (hw : swappedStores [.Tuple [.Name x px, .Name y py] kt pt] (.Tuple [a, b] k2 pt2) X.env = pure (some [x, y]) := by rfl)
    (hs : swapsWithSole [.Tuple [.Name x px, .Name y py] kt pt] (.Tuple [a, b] k2 pt2) pos.line X.env = pure false := by rfl) :
    RS X W (.Assign [.Tuple [.Name x px, .Name y py] kt pt] (.Tuple [a, b] k2 pt2) pos) (sPar i j m) := by
  refine ps_imp (ps_par hc hN hi hj hij hx hy ha hw hs) ?_
  rintro D s H ⟨w, en, rfl, R, E, P⟩
  refine ⟨w, en, rfl, R, E, (PostS.of P E).imp ?_⟩
  rintro v H1 ⟨w1, ds, rfl, X1, R1, rx, P1⟩
  dsimp only at P1
  split at P1
  · obtain ⟨v, v', rfl, r1, r2⟩ := rx.two_inv
    exact ⟨v, v', rfl, P1 w1 _ (Ext.refl w1) R1 rfl (((E.ext X1.toEx0).set i r1).set j r2)⟩
  · exact False.elim P1
def wlR (t : TM) (m : SM) : Nat → SM
  | 0 => fun _ _ => .stuck
  | k + 1 => fun e S => sE (t e S) e fun b S1 => if b then (match m e S1 with
    | .nxt e2 S2 => wlR t m k e2 S2
    | .cnt e2 S2 => wlR t m k e2 S2
    | .brk e2 S2 => .nxt e2 S2
    | r => r) else .nxt e S1
theorem rs_while (k : Nat) {body : List Stmt} (hp : PassesOwn (model X.prog X.w) X.A X.env X.xe) (hc : RT X W c ta) (hb : RSs X W body m) : RS X W (.While c body [] pos) (wlR ta m k) := by
  refine ps_imp (ps_while hp hc hb) ?_
  rintro D s H ⟨w, en, rfl, R, E, P⟩
  refine ⟨fun j s H => ∃ w e, w.hp = H ∧ Rep X.K X.mg w ∧ RepE X.K X.mg w e s ∧ PostS X W w (wlR ta m j e w.st) D, ⟨k, w, en, rfl, R, E, P⟩, ?_⟩
  rintro j s H ⟨w, en, rfl, R, E, P⟩
  cases j with
  | zero => exact False.elim P
  | succ j =>
    refine ⟨w, en, rfl, R, E, (PostS.of P E).imp ?_⟩
    rintro v H1 ⟨w1, x, rfl, X1, R1, rx, P1⟩
    cases rx
    dsimp only at P1
    cases v with
    | false =>
      rw [if_neg Bool.false_ne_true] at P1 ⊢
      exact P1 w1 s (Ext.refl w1) R1 rfl (E.ext X1.toEx0)
    | true =>
      rw [if_pos rfl] at P1 ⊢
      refine ⟨fun s' H' => ∃ w e, w.hp = H' ∧ Rep X.K X.mg w ∧ RepE X.K X.mg w e s' ∧ PostS X W w (wlR ta m j e w.st) D, fun s' H' h => ⟨j, Nat.lt_succ_self j, h⟩, w1, en, rfl, R1, E.ext X1.toEx0, ?_⟩
      cases q : m en w1.st with
      | nxt e S =>
        rw [q] at P1
        exact fun w2 s2 x2 R2 st E2 => ⟨w2, e, rfl, R2, E2, by rw [st]; exact PostS.ext P1 x2⟩
      | cnt e S =>
        rw [q] at P1
        exact fun w2 s2 x2 R2 st E2 => ⟨w2, e, rfl, R2, E2, by rw [st]; exact PostS.ext P1 x2⟩
      | brk e S => rw [q] at P1; exact P1
      | ret e S => rw [q] at P1; exact P1
      | exc y e S => rw [q] at P1; exact P1
      | stuck => rw [q] at P1; exact P1
def ItsR (X : Cx) : Wo → List D → It → Prop := fun w ds J => ∀ w2, Ex0 w w2 → Fz w w2 → Rep X.K X.mg w2 →
  (∀ i, i < ds.length → J.go i w2.hp ∧ ∀ x H', J.yld i w2.hp x H' → ∃ w3 d, w3.hp = H' ∧ Ext w2 w3 ∧ Rep X.K X.mg w3 ∧ w3.st = w2.st ∧ w3.al = w2.al ∧ ds[i]? = some d ∧ RepD X.K X.mg w3 d x) ∧ J.stop ds.length w2.hp
abbrev RI (X : Cx) (W : WX) (tg it : Expr) (m : AM) : Prop := PI X tg it (tG (ItsR X) X W m)
theorem its_list {w : Wo} {ds : List D} {ad : Addr} {vs : List V} (st : ∀ w2, Ex0 w w2 → SqL X.K w2.hp ad vs) (r : RepL X.K X.mg w ds vs) : ItsR X w ds (Itl X.K ad) := by
  intro w2 x2 _ R2
  have s2 := st w2 x2
  refine ⟨fun i hi => ⟨⟨vs, vs[i]'(by rw [← r.length]; exact hi), s2, by simp⟩, fun x H' y => ?_⟩, ⟨vs, s2, by rw [r.length]; exact Nat.le_refl _⟩⟩
  obtain ⟨rfl, y⟩ := y
  obtain ⟨d, e1, rd⟩ := r.getV (y vs s2)
  exact ⟨w2, d, rfl, Ext.refl w2, R2, rfl, rfl, e1, rd.ext x2⟩
theorem its_tup {w : Wo} {ds : List D} {ad : Addr} {vs : List V} (st : ∀ w2, Ex0 w w2 → SqT X.K w2.hp ad vs) (r : RepL X.K X.mg w ds vs) : ItsR X w ds (Itt X.K ad) := by
  intro w2 x2 _ R2
  have s2 := st w2 x2
  refine ⟨fun i hi => ⟨⟨vs, vs[i]'(by rw [← r.length]; exact hi), s2, by simp⟩, fun x H' y => ?_⟩, ⟨vs, s2, by rw [r.length]; exact Nat.le_refl _⟩⟩
  obtain ⟨rfl, y⟩ := y
  obtain ⟨d, e1, rd⟩ := r.getV (y vs s2)
  exact ⟨w2, d, rfl, Ext.refl w2, R2, rfl, rfl, e1, rd.ext x2⟩
def iSeq (m : EM) : AM := fun e S => (m e S).bind fun d S1 => match d with
  | .tup l => .ok l S1
  | .lst l => .ok l S1
  | .scr l => .ok l S1
  | _ => .stuck
theorem ri_e {tg : Expr} (ha : RE X W a ma) : RI X W tg a (iSeq ma) := by
  refine ⟨fun pins s σ H R' I h => ?_⟩
  obtain ⟨w, en, rfl, R, E, P⟩ := h
  cases q : ma en w.st with
  | stuck => unfold iSeq at P; rw [q] at P; exact False.elim P
  | exc x S =>
    unfold iSeq at P; rw [q] at P
    exact (pi_list ha).run pins s σ w.hp R' I ⟨w, en, rfl, R, E, by rw [q]; exact P⟩
  | ok d S =>
    unfold iSeq at P; rw [q] at P
    cases d with
    | tup l =>
      refine (pi_tup ha).run pins s σ w.hp R' I ⟨w, en, rfl, R, E, ?_⟩
      rw [q]
      intro w1 v x1 R1 s1 r1
      cases r1 with
      | tup st rl => exact ⟨_, rfl, ⟨_, st.sq⟩, P w1 _ x1 R1 s1 (its_tup (fun w2 x2 => (st.ext x2).sq) rl)⟩
    | lst l =>
      refine (pi_list ha).run pins s σ w.hp R' I ⟨w, en, rfl, R, E, ?_⟩
      rw [q]
      intro w1 v x1 R1 s1 r1
      cases r1 with
      | lst st rl => exact ⟨_, rfl, ⟨_, SqL.of st.1⟩, P w1 _ x1 R1 s1 (its_list (fun w2 x2 => SqL.of (st.ext x2).1) rl)⟩
    | scr l =>
      refine (pi_list ha).run pins s σ w.hp R' I ⟨w, en, rfl, R, E, ?_⟩
      rw [q]
      intro w1 v x1 R1 s1 r1
      cases r1 with
      | scr st rl => exact ⟨_, rfl, ⟨_, st.sq⟩, P w1 _ x1 R1 s1 (its_list (fun w2 x2 => (st.ext x2).sq) rl)⟩
    | _ => exact False.elim P
def rangeD (lo : Int) (n : Nat) : List D := (List.range n).map fun k => .int (lo + (k : Nat))
theorem its_range {w : Wo} (lo : Int) (n : Nat) : ItsR X w (rangeD lo n) (Itr lo n) := by
  intro w2 x2 _ R2
  have hl : (rangeD lo n).length = n := by unfold rangeD; simp
  refine ⟨fun i hi => ⟨by rw [hl] at hi; exact hi, fun x H' y => ?_⟩, by rw [hl]; exact Nat.le_refl _⟩
  obtain ⟨rfl, rfl⟩ := y
  rw [hl] at hi
  exact ⟨w2, .int (lo + i), rfl, Ext.refl w2, R2, rfl, rfl, by unfold rangeD; simp [hi], .int _⟩
open Classical in
noncomputable def iRg1 (m : AM) : AM := fun e S => (m e S).bind fun ds S1 => match ds with
  | [.int j] => if -(2 ^ 62) ≤ j ∧ j < 2 ^ 62 then .ok (rangeD 0 j.toNat) S1 else .stuck
  | _ => .stuck
theorem ri_range1 {tg : Expr} {m : AM} {p : Pos} (hm : X.mg "range" = none) (ha : RA X W [a] m) (hg : Gl X "range" := by rfl) (hs : starEach [a] X.env = [(false, eval a X.env)] := by rfl) : RI X W tg (.Call (.Name "range" p) [a] [] pos) (iRg1 m) := by
  refine ⟨fun pins s σ H R' I h => (pi_range1 hg hm ha hs).run pins s σ H R' I ?_⟩
  obtain ⟨w, en, rfl, R, E, P⟩ := h
  refine ⟨w, en, rfl, R, E, (Post.bind P).imp ?_⟩
  rintro vs H1 ⟨w1, ds, rfl, X1, R1, rx, P1⟩
  dsimp only at P1
  split at P1
  · split at P1
    · rename_i hj
      obtain ⟨v, rfl, rv⟩ := rx.one_inv
      cases rv
      exact ⟨_, rfl, hj.1, hj.2, Post.now P1 R1 (its_range 0 _)⟩
    · exact False.elim P1
  · exact False.elim P1
open Classical in
noncomputable def iRg2 (m : AM) : AM := fun e S => (m e S).bind fun ds S1 => match ds with
  | [.int i, .int j] => if -(2 ^ 62) ≤ i ∧ i < 2 ^ 62 ∧ -(2 ^ 62) ≤ j ∧ j < 2 ^ 62 then .ok (rangeD i (j - i).toNat) S1 else .stuck
  | _ => .stuck
def fiR (g : GM) (m : SM) : List D → SM
  | [] => fun e S => .nxt e S
  | d :: ds => fun e S => sE (g d e S) e fun e1 S1 => match m e1 S1 with
    | .nxt e2 S2 => fiR g m ds e2 S2
    | .cnt e2 S2 => fiR g m ds e2 S2
    | .brk e2 S2 => .nxt e2 S2
    | r => r
def sFor (i : AM) (g : GM) (m : SM) : SM := fun e S => sE (i e S) e fun ds S1 => fiR g m ds e S1
theorem rs_for {tg it : Expr} {i : AM} {g : GM} {body : List Stmt} (hp : PassesOwn (model X.prog X.w) X.A X.env X.xe) (hc : X.calm = true) (hi : RI X W tg it i) (hg : RG X W tg g) (hb : RSs X W body m) (hs : ∀ x, foldedSetIterable it X.env x = pure x := by intro _; rfl) :
    RS X W (.For tg it body [] pos) (sFor i g m) := by
  refine ps_imp (ps_for hp hc hi hg hb hs) ?_
  rintro D s H ⟨w, en, rfl, R, E, P⟩
  refine ⟨w, en, rfl, R, E, (PostS.of P E).imp ?_⟩
  rintro J H1 ⟨w1, ds, rfl, X1, R1, its, P1⟩
  refine ⟨fun j k s H => k = ds.length - j ∧ j ≤ ds.length ∧ ∃ w e, w.hp = H ∧ Ext w1 w ∧ Rep X.K X.mg w ∧ RepE X.K X.mg w e s ∧ PostS X W w (fiR g m (ds.drop j) e w.st) D,
    ⟨ds.length, rfl, Nat.zero_le _, w1, en, rfl, Ext.refl w1, R1, E.ext X1.toEx0, P1⟩, ?_⟩
  rintro j k s H ⟨rfl, hj, w, en, rfl, x1, R, E, P⟩
  obtain ⟨go, stop⟩ := its w x1.toEx0 x1.fz R
  by_cases hlt : j < ds.length
  · obtain ⟨go1, yl⟩ := go j hlt
    refine .inr ⟨go1, fun s' H' => ∃ w e, w.hp = H' ∧ Ext w1 w ∧ Rep X.K X.mg w ∧ RepE X.K X.mg w e s' ∧ PostS X W w (fiR g m (ds.drop (j + 1)) e w.st) D, fun s' H' h => ⟨ds.length - (j + 1), by omega, rfl, hlt, h⟩, fun x H' y => ?_⟩
    obtain ⟨w3, d, rfl, x3, R3, st3, _, hd, rd⟩ := yl x H' y
    have e1 : ds.drop j = d :: ds.drop (j + 1) := by
      obtain ⟨hl, rfl⟩ := List.getElem?_eq_some_iff.mp hd
      exact List.drop_eq_getElem_cons hl
    rw [e1] at P
    have P' : PostS X W w3 (sE (g d en w3.st) en fun e1 S1 => match m e1 S1 with
      | .nxt e2 S2 => fiR g m (ds.drop (j + 1)) e2 S2
      | .cnt e2 S2 => fiR g m (ds.drop (j + 1)) e2 S2
      | .brk e2 S2 => .nxt e2 S2
      | r => r) D := by rw [st3]; exact PostS.ext P x3
    refine ⟨w3, en, d, rfl, R3, E.ext x3.toEx0, rd, (PostS.of P' (E.ext x3.toEx0)).imp ?_⟩
    rintro s4 H4 ⟨w4, e4, rfl, x4, R4, E4, P4⟩
    refine ⟨w4, e4, rfl, R4, E4, ?_⟩
    have x14 : Ext w1 w4 := (x1.trans x3).trans x4
    dsimp only at P4
    cases q : m e4 w4.st with
    | nxt e S => rw [q] at P4; exact fun w5 s5 x5 R5 st E5 => ⟨w5, e, rfl, x14.trans x5, R5, E5, by rw [st]; exact PostS.ext P4 x5⟩
    | cnt e S => rw [q] at P4; exact fun w5 s5 x5 R5 st E5 => ⟨w5, e, rfl, x14.trans x5, R5, E5, by rw [st]; exact PostS.ext P4 x5⟩
    | brk e S => rw [q] at P4; exact P4
    | ret e S => rw [q] at P4; exact P4
    | exc y e S => rw [q] at P4; exact P4
    | stuck => rw [q] at P4; exact P4
  · have e : j = ds.length := by omega
    subst e
    rw [List.drop_length] at P
    exact .inl ⟨stop, P w s (Ext.refl w) R rfl E⟩
end
end G
namespace G
open PySem L2
def wipeE (e : En) : List Nat → En
  | [] => e
  | v :: vs => (wipeE e vs).set v none
def W0 : WX := fun _ _ _ _ => False
section
variable {X : Cx} {W : WX} {a b c e o : Expr} {es : List Expr} {ma mb mc me : EM} {ta tb : TM} {pos : Pos}
variable {K : PySem.W.Frag} {mg : Str → Option Value} {w : Wo}
theorem RepE.wipe {en : En} {s : St} (h : RepE K mg w en s) : ∀ vs : List Nat, RepE K mg w (wipeE en vs) (L2.wipe s vs)
  | [] => h
  | v :: vs => (RepE.wipe h vs).gone v
theorem wipe_at (s : St) (j : Nat) : ∀ vs : List Nat, (L2.wipe s vs)[j]? = if j ∈ vs then (if j < s.length then some none else none) else s[j]?
  | [] => by simp [L2.wipe]
  | v :: vs => by
    have ih := wipe_at s j vs
    unfold L2.wipe
    by_cases hv : v = j
    · subst hv
      rw [if_pos List.mem_cons_self]
      by_cases hl : v < s.length
      · rw [if_pos hl, List.getElem?_set_self (by rw [wipe_length]; exact hl)]
      · rw [if_neg hl, List.getElem?_eq_none (by rw [List.length_set, wipe_length]; omega)]
    · rw [List.getElem?_set_ne hv, ih]
      have e : (j ∈ v :: vs) ↔ j ∈ vs := by
        rw [List.mem_cons]
        exact ⟨fun h => h.resolve_left (Ne.symm hv), .inr⟩
      simp only [e]
theorem wipe_eq {s t : St} {vs : List Nat} (hl : s.length = t.length) (h : ∀ j, j ∉ vs → s[j]? = t[j]?) : L2.wipe s vs = L2.wipe t vs := by
  refine List.ext_getElem? fun j => ?_
  rw [wipe_at, wipe_at, hl]
  by_cases hj : j ∈ vs
  · rw [if_pos hj, if_pos hj]
  · rw [if_neg hj, if_neg hj]; exact h j hj
def lcR (g : Tg) (t : TM) (m : EM) (e : En) : List D → List D → Store → Res (List D)
  | [], acc, S => .ok acc S
  | d :: ds, acc, S => match g.m d e with
    | some e1 => (noX (t e1 S)).bind fun b S2 => if b then (noX (m e1 S2)).bind fun y S3 => if acc.length < sizeLine then lcR g t m e ds (acc ++ [y]) S3 else .stuck else lcR g t m e ds acc S2
    | none => .stuck
def eLc (i : AM) (g : Tg) (t : TM) (m : EM) (vs : List Nat) : EM := fun e S => (i e S).bind fun ds S1 => (lcR g t m (wipeE e vs) ds [] S1).bind fun acc S2 => .ok (.lst acc) S2
def eLcN (i : AM) (g : Tg) (t : TM) (m : EM) (vs : List Nat) : EM := fun e S => (i e S).bind fun ds S1 => (lcR g t m (wipeE e vs) ds [] S1).bind fun acc S2 => .ok (.loc S2.length) (S2 ++ [.lst acc])
def Wo.hide (w : Wo) (p : Addr) (o : HO) : Wo := ⟨w.al, w.st, upd w.hp p o, p :: w.hid⟩
theorem hide_ex (R : Rep K mg w) {p : Addr} {o : HO} (hn : w.hp p = none) : Ex0 w (w.hide p o) := by
  refine ⟨⟨[], by simp [Wo.hide]⟩, fun a h => ?_, fun a u h _ => ?_, fun a u h => ⟨u, ?_⟩⟩
  · rcases h with h | h
    · exact .inl (.inl h)
    · rcases List.mem_cons.mp h with h | h
      · exact .inr (by rw [h]; exact hn)
      · exact .inl (.inr h)
  · show upd w.hp p o a = _
    rw [upd_ne (ne_of_none h hn)]; exact h
  · show upd w.hp p o a = _
    rw [upd_ne (ne_of_none h hn)]; exact h
theorem Rep.hide (R : Rep K mg w) {p : Addr} {o : HO} (hn : w.hp p = none) : Rep K mg (w.hide p o) := by
  have X := hide_ex (o := o) R hn
  refine ⟨R.len, R.nd, fun a h => ?_, fun n a c h1 h2 => ?_, fun a h => ?_⟩
  · obtain ⟨u, e⟩ := R.tr a h
    exact X.tr a u e
  · refine (R.cell n a c h1 h2).ext X ?_
    show upd w.hp p o a = _
    exact upd_ne fun z => R.not_mem hn (z ▸ List.mem_of_getElem? h1)
  · rcases List.mem_cons.mp h with h | h
    · subst h; exact ⟨R.not_mem hn, o, upd_same⟩
    · obtain ⟨h1, u, e⟩ := R.hid a h
      exact ⟨h1, X.tr a u e⟩
def Wo.gro (w : Wo) (p : Addr) (o : HO) : Wo := ⟨w.al, w.st, upd w.hp p o, w.hid⟩
theorem gro_ex {p : Addr} {o : HO} (hm : p ∈ w.hid) : Ex0 w (w.gro p o) := by
  refine ⟨⟨[], by simp [Wo.gro]⟩, fun a h => .inl h, fun a u h z => ?_, fun a u h => ?_⟩
  · show upd w.hp p o a = _
    rw [upd_ne fun e : a = p => z (.inr (e ▸ hm))]; exact h
  · by_cases e : a = p
    · subst e; exact ⟨o, upd_same⟩
    · exact ⟨u, by show upd w.hp p o a = _; rw [upd_ne e]; exact h⟩
theorem Rep.gro (R : Rep K mg w) {p : Addr} {o : HO} (hm : p ∈ w.hid) : Rep K mg (w.gro p o) := by
  have X := gro_ex (o := o) hm
  refine ⟨R.len, R.nd, fun a h => ?_, fun n a c h1 h2 => ?_, fun a h => ?_⟩
  · obtain ⟨u, e⟩ := R.tr a h
    exact X.tr a u e
  · refine (R.cell n a c h1 h2).ext X ?_
    show upd w.hp p o a = _
    exact upd_ne fun z => (R.hid p hm).1 (z ▸ List.mem_of_getElem? h1)
  · obtain ⟨h1, u, e⟩ := R.hid a h
    exact ⟨h1, X.tr a u e⟩
def Wo.shw (w : Wo) (hs : List Addr) : Wo := ⟨w.al, w.st, w.hp, hs⟩
theorem shw_ex {hs : List Addr} (hm : ∀ a, a ∈ hs → a ∈ w.hid) : Ex0 w (w.shw hs) :=
  ⟨⟨[], by simp [Wo.shw]⟩, fun a h => .inl (h.imp id (hm a)), fun a u h _ => h, fun a u h => ⟨u, h⟩⟩
theorem Rep.shw (R : Rep K mg w) {hs : List Addr} (hm : ∀ a, a ∈ hs → a ∈ w.hid) : Rep K mg (w.shw hs) :=
  ⟨R.len, R.nd, R.tr, fun n a c h1 h2 => (R.cell n a c h1 h2).ext (shw_ex hm) rfl, fun a h => R.hid a (hm a h)⟩
theorem hide_fz (R : Rep K mg w) {p : Addr} {o : HO} (hn : w.hp p = none) : Fz w (w.hide p o) := fun _ _ _ h1 h2 _ => ⟨h2, upd_ne fun e => R.not_mem hn (e ▸ List.mem_of_getElem? h1)⟩
theorem gro_fz (R : Rep K mg w) {p : Addr} {o : HO} (hm : p ∈ w.hid) : Fz w (w.gro p o) := fun _ _ _ h1 h2 _ => ⟨h2, upd_ne fun e => (R.hid p hm).1 (e ▸ List.mem_of_getElem? h1)⟩
structure Kp (w1 w : Wo) : Prop where
  kh : ∀ a, a ∈ w1.hid → w.hp a = w1.hp a
  fz : Fz w1 w
theorem t_lcCore {i : AM} {g : Tg} {t : TM} {m : EM} {vs : List Nat} {fin : List D → Store → Res D} (hg : ∀ j, j ∈ g.ix → j ∈ vs)
    (hfin : ∀ (w1 w : Wo) (p : Addr) (us : List V) (acc : List D) (Q : VK) (E : XK), Rep X.K X.mg w1 → w1.hp p = none → Rep X.K X.mg w → Ex0 w1 w → w.hid = p :: w1.hid → Kp w1 w → w.hp p = some (.lst us) → RepL X.K X.mg w acc us →
      Post (RepD X.K X.mg) X.K X.mg w1 (fin acc w.st) Q E → Q (.ref p) w.hp) :
    ∀ s H Q, tG (RepD X.K X.mg) X W (fun e S => (i e S).bind fun ds S1 => (lcR g t m (wipeE e vs) ds [] S1).bind fin) s H Q →
      tLc (tG (ItsR X) X W i) (g.r X.K) (tG RlB X W0 t) (tG (RepD X.K X.mg) X W0 m) vs s H Q := by
  rintro s H Q ⟨w, en, rfl, R, E, P⟩
  refine ⟨w, en, rfl, R, E, (Post.bind P).imp ?_⟩
  rintro J H1 ⟨w1, ds, rfl, X1, R1, its, P1⟩
  intro p hp
  dsimp only at P1
  have E1 := E.ext X1.toEx0
  refine ⟨fun j k H => k = ds.length - j ∧ j ≤ ds.length ∧ ∃ w acc us, w.hp = H ∧ Ex0 w1 w ∧ Rep X.K X.mg w ∧ w.hid = p :: w1.hid ∧ Kp w1 w ∧ w.hp p = some (.lst us) ∧ RepL X.K X.mg w acc us ∧
      Post (RepD X.K X.mg) X.K X.mg w1 ((lcR g t m (wipeE en vs) (ds.drop j) acc w.st).bind fin) Q (fun cls dd H' => W cls dd s H'),
    ⟨ds.length, rfl, Nat.zero_le _, w1.hide p (.lst []), [], [], rfl, hide_ex R1 hp, R1.hide hp, rfl, ⟨fun a ha => ?_, hide_fz R1 hp⟩, upd_same, .nil, P1⟩, ?_⟩
  · show upd w1.hp p _ a = _
    exact upd_ne fun z => R1.not_hid hp (z ▸ ha)
  rintro j k H ⟨rfl, hj, w, acc, us, rfl, x1, R, hh, hk, hu, ra, P⟩
  obtain ⟨go, stop⟩ := its w x1 hk.fz R
  by_cases hlt : j < ds.length
  · obtain ⟨go1, yl⟩ := go j hlt
    refine .inr ⟨go1, fun H' => ∃ w acc us, w.hp = H' ∧ Ex0 w1 w ∧ Rep X.K X.mg w ∧ w.hid = p :: w1.hid ∧ Kp w1 w ∧ w.hp p = some (.lst us) ∧ RepL X.K X.mg w acc us ∧
      Post (RepD X.K X.mg) X.K X.mg w1 ((lcR g t m (wipeE en vs) (ds.drop (j + 1)) acc w.st).bind fin) Q (fun cls dd H' => W cls dd s H'),
      fun H' h => ⟨ds.length - (j + 1), by omega, rfl, hlt, h⟩, fun x H' y => ?_⟩
    obtain ⟨w3, d, rfl, x3, R3, st3, _, hd, rd⟩ := yl x H' y
    have e1 : ds.drop j = d :: ds.drop (j + 1) := by
      obtain ⟨hl, rfl⟩ := List.getElem?_eq_some_iff.mp hd
      exact List.drop_eq_getElem_cons hl
    rw [e1, ← st3] at P
    unfold lcR at P
    have E3 : RepE X.K X.mg w3 (wipeE en vs) (L2.wipe s vs) := (E1.ext (x1.trans x3.toEx0)).wipe vs
    cases hm : g.m d (wipeE en vs) with
    | none => rw [hm] at P; exact False.elim P
    | some e4 =>
      rw [hm] at P
      dsimp only at P
      refine g.ok E3 rd hm fun s4 E4 hl4 hj4 => ⟨?_, ?_⟩
      · refine wipe_eq (by rw [hl4, wipe_length]) fun q hq => ?_
        rw [hj4 q fun z => hq (hg q z), wipe_at, if_neg hq]
      · have hh3 : w3.hid = p :: w1.hid := x3.hid.trans hh
        have hk3 : Kp w1 w3 := ⟨fun a ha => (x3.kh a (by rw [hh]; exact List.mem_cons_of_mem _ ha)).trans (hk.kh a ha), hk.fz.trans x1.al x3.fz⟩
        have hu3 : w3.hp p = some (.lst us) := (x3.kh p (by rw [hh]; exact List.mem_cons_self)).trans hu
        refine ⟨w3, e4, rfl, R3, E4, ?_⟩
        cases ht : t e4 w3.st with
        | exc _ _ => rw [ht] at P; exact False.elim P
        | stuck => rw [ht] at P; exact False.elim P
        | ok bb S5 =>
          rw [ht] at P
          intro w5 c5 x5 R5 st5 r5
          cases r5
          subst st5
          replace P : Post (RepD X.K X.mg) X.K X.mg w1 ((if bb = true then (noX (m e4 w5.st)).bind fun y S3 => if acc.length < sizeLine then lcR g t m (wipeE en vs) (ds.drop (j + 1)) (acc ++ [y]) S3 else .stuck else lcR g t m (wipeE en vs) (ds.drop (j + 1)) acc w5.st).bind fin) Q (fun cls dd H' => W cls dd s H') := P
          have hh5 : w5.hid = p :: w1.hid := x5.hid.trans hh3
          have hk5 : Kp w1 w5 := ⟨fun a ha => (x5.kh a (by rw [hh3]; exact List.mem_cons_of_mem _ ha)).trans (hk3.kh a ha), hk3.fz.trans (x1.trans x3.toEx0).al x5.fz⟩
          have hu5 : w5.hp p = some (.lst us) := (x5.kh p (by rw [hh3]; exact List.mem_cons_self)).trans hu3
          have ra5 := (ra.ext x3.toEx0).ext x5.toEx0
          have x15 : Ex0 w1 w5 := (x1.trans x3.toEx0).trans x5.toEx0
          cases bb with
          | false =>
            rw [if_neg Bool.false_ne_true] at P ⊢
            exact ⟨w5, acc, us, rfl, x15, R5, hh5, hk5, hu5, ra5, P⟩
          | true =>
            rw [if_pos rfl] at P ⊢
            refine ⟨w5, e4, rfl, R5, E4.ext x5.toEx0, ?_⟩
            cases hme : m e4 w5.st with
            | exc _ _ => rw [hme] at P; exact False.elim P
            | stuck => rw [hme] at P; exact False.elim P
            | ok y S6 =>
              rw [hme] at P
              intro w6 v6 x6 R6 st6 r6
              subst st6
              replace P : Post (RepD X.K X.mg) X.K X.mg w1 ((if acc.length < sizeLine then lcR g t m (wipeE en vs) (ds.drop (j + 1)) (acc ++ [y]) w6.st else .stuck).bind fin) Q (fun cls dd H' => W cls dd s H') := P
              by_cases hz : acc.length < sizeLine
              · rw [if_pos hz] at P
                have ra6 := ra5.ext x6.toEx0
                have hh6 : w6.hid = p :: w1.hid := x6.hid.trans hh5
                have hk6 : Kp w1 w6 := ⟨fun a ha => (x6.kh a (by rw [hh5]; exact List.mem_cons_of_mem _ ha)).trans (hk5.kh a ha), hk5.fz.trans x15.al x6.fz⟩
                have hu6 : w6.hp p = some (.lst us) := (x6.kh p (by rw [hh5]; exact List.mem_cons_self)).trans hu5
                have pm : p ∈ w6.hid := by rw [hh6]; exact List.mem_cons_self
                have xg := gro_ex (o := .lst (us ++ [v6])) pm
                refine ⟨us, hu6, by rw [← ra6.length]; exact hz, w6.gro p (.lst (us ++ [v6])), acc ++ [y], us ++ [v6], rfl, (x15.trans x6.toEx0).trans xg, R6.gro pm, hh6, ⟨fun a ha => ?_, hk6.fz.trans (x15.trans x6.toEx0).al (gro_fz R6 pm)⟩, upd_same, (ra6.append (.cons r6 .nil)).ext xg, P⟩
                refine Eq.trans (show upd w6.hp p _ a = w6.hp a from upd_ne fun z => ?_) (hk6.kh a ha)
                subst z
                obtain ⟨_, o, ho⟩ := R1.hid a ha
                rw [hp] at ho; cases ho
              · rw [if_neg hz] at P; exact False.elim P
  · have e : j = ds.length := by omega
    subst e
    rw [List.drop_length] at P
    exact .inl ⟨stop, hfin w1 w p us acc Q _ R1 hp R x1 hh hk hu ra P⟩
theorem fin_lst : ∀ (w1 w : Wo) (p : Addr) (us : List V) (acc : List D) (Q : VK) (E : XK), Rep X.K X.mg w1 → w1.hp p = none → Rep X.K X.mg w → Ex0 w1 w → w.hid = p :: w1.hid → Kp w1 w → w.hp p = some (.lst us) → RepL X.K X.mg w acc us →
      Post (RepD X.K X.mg) X.K X.mg w1 ((fun acc S => Res.ok (D.lst acc) S) acc w.st) Q E → Q (.ref p) w.hp := by
  intro w1 w p us acc Q E R1 hp R x1 hh hk hu ra P
  have sub : ∀ a, a ∈ w1.hid → a ∈ w.hid := fun a h => by rw [hh]; exact List.mem_cons_of_mem _ h
  have xs := shw_ex sub
  refine P (w.shw w1.hid) (.ref p) ⟨x1.trans xs, rfl, hk.kh, hk.fz.trans x1.al (Fz.same rfl rfl)⟩ (R.shw sub) rfl (.lst ⟨hu, fun z => ?_⟩ (ra.ext xs))
  rcases z with ⟨n, c, h1, _, _⟩ | z
  · exact (R.hid p (by rw [hh]; exact List.mem_cons_self)).1 (List.mem_of_getElem? h1)
  · exact R1.not_hid hp z
theorem t_lc {i : AM} {g : Tg} {t : TM} {m : EM} {vs : List Nat} (hg : ∀ j, j ∈ g.ix → j ∈ vs) : ∀ s H Q, tG (RepD X.K X.mg) X W (eLc i g t m vs) s H Q →
      tLc (tG (ItsR X) X W i) (g.r X.K) (tG RlB X W0 t) (tG (RepD X.K X.mg) X W0 m) vs s H Q := t_lcCore hg fin_lst
def tTrue : TM := fun _ S => .ok true S
theorem pts0 {X' : Cx} : PTs X' [] (tG RlB X' W0 tTrue) := ⟨fun pins s σ H Q I h => pts_nil.run pins s σ H Q I (by
  obtain ⟨w, en, rfl, R, E, P⟩ := h
  exact Post.now P R rfl)⟩
theorem re_lc {elt tg iter : Expr} {ifs : List Expr} {scope : Scope} {i : AM} {g : Tg} {t : TM} {m : EM} (own : List (Str × Nat)) (hc : X.calm = true) (hN : X.N.Nodup) (hi : RI X W tg iter i) (ok : BlkOk X.N X.env.scope scope own) (hgi : ∀ j, j ∈ g.ix → j ∈ own.map (·.2))
    (hg : ∀ (s : Shared) (H : Hp) (C : Addr) (cl : List (Str × Addr)) (fp : List Addr), PG (X.blk s H scope (compEnvC scope cl C X.env) fp) tg (g.r X.K)) (ht : ∀ (s : Shared) (H : Hp) (C : Addr) (cl : List (Str × Addr)) (fp : List Addr), PTs (X.blk s H scope (compEnvC scope cl C X.env) fp) ifs (tG RlB X W0 t))
    (he : ∀ (s : Shared) (H : Hp) (C : Addr) (cl : List (Str × Addr)) (fp : List Addr), RE (X.blk s H scope (compEnvC scope cl C X.env) fp) W0 elt m) (hs : ∀ x, foldedSetIterable iter X.env x = pure x := by intro _; rfl) :
    RE X W (.ListComp elt [⟨tg, iter, ifs, 0⟩] scope pos) (eLc i g t m (own.map (·.2))) :=
  pe_imp (pe_lc hc hN hi ok hg ht he hs) (t_lc hgi)
theorem rs_setLc {i' : Nat} {y : Str} {py spos : Pos} {elt tg iter : Expr} {ifs : List Expr} {scope : Scope} {i : AM} {g : Tg} {t : TM} {m : EM} (own : List (Str × Nat)) (hc : X.calm = true) (hN : X.N.Nodup) (hy : X.N[i']? = some y)
    (hi : RI X W tg iter i) (ok : BlkOk X.N X.env.scope scope own) (hgi : ∀ j, j ∈ g.ix → j ∈ own.map (·.2))
    (hg : ∀ (s : Shared) (H : Hp) (C : Addr) (cl : List (Str × Addr)) (fp : List Addr), PG (X.blk s H scope (compEnvC scope cl C X.env) fp) tg (g.r X.K)) (ht : ∀ (s : Shared) (H : Hp) (C : Addr) (cl : List (Str × Addr)) (fp : List Addr), PTs (X.blk s H scope (compEnvC scope cl C X.env) fp) ifs (tG RlB X W0 t))
    (he : ∀ (s : Shared) (H : Hp) (C : Addr) (cl : List (Str × Addr)) (fp : List Addr), RE (X.blk s H scope (compEnvC scope cl C X.env) fp) W0 elt m) (hs : ∀ x, foldedSetIterable iter X.env x = pure x := by intro _; rfl)
    (hyl : X.env.scope.names.lookup y = some .local := by rfl)
    (hsw : swapsWith (.ListComp elt [⟨tg, iter, ifs, 0⟩] scope pos) (some (.Name y py)) spos.line X.env = pure true := by exact sw_true rfl rfl rfl (by decide +kernel)) :
    RS X W (.Assign [.Name y py] (.ListComp elt [⟨tg, iter, ifs, 0⟩] scope pos) spos) (sSet i' (eLc i g t m (own.map (·.2)))) := by
  refine ps_imp (ps_setLc (te := tG (RepD X.K X.mg) X W0 m) hc hN hy hyl hsw hi ok hg ht he hs) ?_
  rintro D s H ⟨w, en, rfl, R, E, P⟩
  refine t_lc hgi s w.hp _ ⟨w, en, rfl, R, E, (PostS.of P E).imp ?_⟩
  rintro v H1 ⟨w1, x, rfl, X1, R1, rx, P1⟩
  exact P1 w1 _ (Ext.refl w1) R1 rfl ((E.ext X1.toEx0).set i' rx)
end
end G
namespace G
open PySem L2 PySem.Spec
def enOf (N : Nat) (ds : List D) : En := ds.map some ++ List.replicate (N - ds.length) none
def fnM (N : Nat) (m : SM) : FM := fun ds S => match m (enOf N ds) S with
  | .nxt _ S' => .ok .non S'
  | .ret d S' => .ok d S'
  | .exc x _ S' => .exc x S'
  | _ => .stuck
theorem RoomG.mono {j k : Nat} {A : Around} (h : RoomG k A) (l : j ≤ k) : RoomG j A := ⟨h.r.mono l, fun q => h.gd (Nat.le_trans q l)⟩
theorem RoomG.units {k : Nat} {A : Around} (h : RoomG k A) : A.units + 64 < cLine := h.r.units
theorem Cg.u {X : Cx} {W : WX} {k : Nat} (c : Cg X W k) : X.A.units + 64 < cLine := c.rm.units
structure Cb (X : Cx) (k : Nat) : Prop where
  calm : X.calm = true
  nd : X.N.Nodup
  rm : RoomG k X.A
  xe : X.xe = fun _ _ => False
theorem Cb.u {X : Cx} {k : Nat} (c : Cb X k) : X.A.units + 64 < cLine := c.rm.units
theorem Cg.blk {X : Cx} {W : WX} {k : Nat} (c : Cg X W k) {s : Shared} {H : Hp} {scope : Scope} {cenv : Env} {fp : List Addr} : Cb (X.blk s H scope cenv fp) k := ⟨c.calm, c.nd, c.rm, rfl⟩
section
variable {P : Program} {w0 : World} {K : PySem.W.Frag} {mg : Str → Option Value} {base : Heap}
theorem RepE.start {w : Wo} {ds : List D} {vs : List V} (h : RepL K mg w ds vs) (N : List Str) : RepE K mg w (enOf N.length ds) (start N vs) := by
  have hl := h.length
  refine ⟨by unfold enOf L2.start; simp [hl], fun i d e => ?_⟩
  unfold enOf at e
  unfold L2.start
  by_cases hi : i < ds.length
  · rw [List.getElem?_append_left (by simpa using hi), List.getElem?_map] at e
    cases q : ds[i]? with
    | none => rw [q] at e; cases e
    | some d' =>
      rw [q] at e
      cases e
      obtain ⟨v, hv, r⟩ := h.get q
      exact ⟨v, by rw [List.getElem?_append_left (by simpa [← hl] using hi), List.getElem?_map, hv]; rfl, r⟩
  · rw [List.getElem?_append_right (by simpa using hi), List.getElem?_replicate] at e
    split at e <;> cases e
theorem fng_of {x qual : Str} {params : Arguments} {body : List Stmt} {scope : Scope} {dvs : List V} {kws : List (Str × V)} {f : Addr} {fd : FuncData} {N ps : List Str} {k : Nat} {sp : Sp} (F : FunD K x qual params body scope dvs kws f fd) (S : FnScope N ps scope)
    (len : ∀ vs H Q E, sp vs H Q E → vs.length = ps.length)
    (hbody : ∀ (cdv : Value) (A : Around) (outer : List Env) (s : Shared) (H : Hp) (vs : List V) (Q : VK) (E : XK), RoomG k (A.deeper (PyProof.Rows.envOfC qual scope s.heap.objs.size f cdv)) → sp vs H Q E →
      ∃ t, PSs (cxOf (L2.CX P w0) P w0 K mg base N qual scope f cdv A outer s H E) body t ∧ t { nx := fun _ H' => Q .non H', rt := Q } (L2.start N vs) H) : FnG P w0 K mg base (k + 1) f fd ps sp := by
  obtain ⟨oc, od, dV, kV, doc, pm, an, cdv, ct, osl, rfl, lk, hcd, _, _⟩ := F.ex
  constructor
  · exact len
  intro A outer s H args us vs Q E rm env bnd rel hs
  have inn : K.In s.heap := env.mod.kin.keeps fun a o q => (env.bs a o q).1
  have nol : s.heap.NoLimit := env.mod.nolimit.keeps fun a o q => (env.bs a o q).1
  apply codeAny_call_function rm.r.depth (inn _ _ lk) rfl S.co S.gen rfl (PySem.W.codeRec_of inn hcd)
  apply bnd
  apply wpAny_newFunctionEnv_cells S.kind
  · rintro ⟨n, u⟩ hn
    exact (S.par n (List.of_mem_zip hn).1).imp id fun q => ⟨q, PySem.W.cellsFrom_some _ _ _ (.inl q)⟩
  rintro _ rfl s1 nw
  constructor
  · exact nol.keeps nw.toInCall.keep
  obtain ⟨t, ht, hq⟩ := hbody cdv A outer s H vs Q E ⟨rm.r.deeper _, fun q => rm.gd (Nat.le_succ_of_le q)⟩ hs
  have hI := inv_start (CX := L2.CX P w0) (E := E) S rm.r.hd env (len _ _ _ _ hs) rel nw
  apply codeAny_func
  refine wpAny_mono (ht.run [] s1 _ H _ hI hq) ?_ fun _ _ z => z
  intro fl s' z
  cases fl with
  | next => obtain ⟨st, H', J, q⟩ := z; exact ⟨V.non, H', J.os, J.bare, J.base, J.hok, rfl, q⟩
  | ret u => obtain ⟨v, st, H', J, rv, q⟩ := z; exact ⟨v, H', J.os, J.bare, J.base, J.hok, rv, q⟩
  | brk => exact False.elim z.choose_spec.choose_spec.2
  | cont => exact False.elim z.choose_spec.choose_spec.2
theorem def_okD {x qual : Str} {st : Stmt} {f : Addr} {fd : FuncData} {N ps : List Str} {k : Nat} {m : SM} {dvs : List V} {kws : List (Str × V)} (F : FunD K x qual (defArgs st) (defBody st) (defScope st) dvs kws f fd) (S : FnScope N ps (defScope st))
    (hbody : ∀ (cdv : Value) (A : Around) (outer : List Env) (s : Shared) (H : Hp) (E : XK), Cg (cxOf (L2.CX P w0) P w0 K mg base N qual (defScope st) f cdv A outer s H E) (fun cls d _ H' => E cls d H') k →
      RSs (cxOf (L2.CX P w0) P w0 K mg base N qual (defScope st) f cdv A outer s H E) (fun cls d _ H' => E cls d H') (defBody st) m) :
    FnG P w0 K mg base (k + 1) f fd ps (spM K mg ps.length (fnM N.length m)) := by
  refine fng_of F S (fun vs H Q E h => h.1) (fun cdv A outer s H vs Q E hr h => ?_)
  refine ⟨_, hbody cdv A outer s H E ⟨rfl, S.nd, takes_of rfl rfl rfl rfl, passes_of rfl, hr, rfl, rfl, rfl⟩, ?_⟩
  obtain ⟨hl, w, ds, rfl, R, rl, P1⟩ := h
  refine ⟨w, enOf N.length ds, rfl, R, RepE.start rl N, ?_⟩
  unfold fnM at P1
  cases q : m (enOf N.length ds) w.st with
  | nxt e S => rw [q] at P1; exact fun w1 s1 x1 R1 st1 _ => P1 w1 .non x1 R1 st1 .non
  | ret d S => rw [q] at P1; exact P1
  | brk e S => rw [q] at P1; exact False.elim P1
  | cnt e S => rw [q] at P1; exact False.elim P1
  | exc y e S => rw [q] at P1; exact fun w1 s1 c1 d1 x1 R1 st1 _ rx => P1 w1 c1 d1 x1 R1 st1 rx
  | stuck => rw [q] at P1; exact P1
structure Dk (P : Program) (w0 : World) (K : PySem.W.Frag) (mg : Str → Option Value) (base : Heap) (x : Str) (ps : List Str) (k n : Nat) (ks : List Str) (gD : List D → List D → List D) (m : FM) : Prop where
  ex : ∃ f fd g gV, mg x = some (.ref f) ∧ PySem.W.keepIn K (.ref f) = true ∧ KBn K fd ps n ks g gV ∧ (∀ w ds vs es zs, RepL K mg w ds vs → RepL K mg w es zs → ds.length = n → es.length = ks.length → RepL K mg w (gD ds es) (gV vs zs) ∧ (gV vs zs).length = ps.length) ∧ FnG P w0 K mg base k f fd ps (spM K mg ps.length m)
end
section
variable {X : Cx} {W : WX} {a b c e o : Expr} {es : List Expr} {ma mb mc me : EM} {ta tb : TM} {pos : Pos} {x : Str} {p : Pos} {j k : Nat} {ps ks : List Str} {f : FM}
def eCall (f : FM) (m : AM) : EM := fun e S => (m e S).bind fun ds S1 => f ds S1
def nA (n : Nat) (m : AM) : AM := fun e S => (m e S).bind fun ds S1 => if ds.length = n then .ok ds S1 else .stuck
theorem run_fg {E : St → XK} {f : Addr} {fd : FuncData} {sp : Sp} {pins : List (Addr × Obj)} {s : St} {H : Hp} {sh : Shared} {Q : VK} {args : Args} {zs : List Value} {ws : List V} (F : FnG X.prog X.w X.K X.mg X.base k f fd ps sp) (hr : RoomG k X.A) (hb : BindsTo sh fd args (ps.zip zs)) (hx : PassesAt (L2.CX X.prog X.w) X s (E s))
    (I : L2.Inv X pins s H sh) (r : Vals ws zs) (h : sp ws H Q (E s)) : codeAny (model X.prog X.w) X.A (.call (.ref f) args) (fun r s' => match r with | .ok (.ret u) => EP X pins s Q u s' | .error y => X.xe y s' | _ => False) sh := by
  refine codeAny_mono (F.run X.A X.stack sh H args zs ws Q (E s) hr I.env0 hb r h) ?_
  intro res s' q
  cases res with
  | error y => exact hx pins H sh y s' I q
  | ok fl =>
    cases fl with
    | ret u => exact I.after q
    | _ => exact False.elim q
theorem pe_callG {fa : Addr} {fd : FuncData} {sp : Sp} {E : St → XK} {t : TA} (F : FnG X.prog X.w X.K X.mg X.base k fa fd ps sp) (hr : RoomG k X.A) (hg : Gl X x) (hm : X.mg x = some (.ref fa)) (hk : PySem.W.keepIn X.K (.ref fa) = true) (hb : Binds X.K fd ps []) (hx : ∀ σ, PassesAt (L2.CX X.prog X.w) X σ (E σ))
    (ha : PA X (e :: es) t) (hdb : (x == ("__debug__" : Str)) = false) (he : starEach (e :: es) X.env = (false, eval e X.env) :: starEach es X.env) (hpl : (backTo pos (starEach es X.env)).any (·.1) = false) :
    PE X (.Call (.Name x p) (e :: es) [] pos) (tCallS sp E t) := by
  constructor
  intro pins s σ H Q I h
  apply wpAny_Call_Name_kw
  refine ld_glob I hg hm ?_ hdb
  refine PySem.W.callWith_K (h₀ := X.base) I.ok.mod.kin hk ?_ he hpl
  refine thn (ha.run pos pins s σ H _ I h) ?_
  rintro us s1 ⟨vs, H1, I1, r, q⟩
  have hl : us.length = ps.length := by rw [← r.length]; exact F.len _ _ _ _ q
  have b := hb s1 us I1.kIn (by simpa using hl)
  rw [List.append_nil] at b
  refine ⟨I1.kIn, wpAny_call (codeAny_mono (run_fg F hr b (hx σ) I1 r q) ?_)⟩
  intro res s' z
  cases res with
  | error y => exact z
  | ok fl =>
    cases fl with
    | ret u => exact z
    | _ => exact False.elim z
theorem re_call {m : AM} (c : Cg X W k) (hF : Df X.prog X.w X.K X.mg X.base x ps j f) (hj : j ≤ k) (ha : RA X W (e :: es) m) (hg : Gl X x := by rfl) (hdb : (x == ("__debug__" : Str)) = false := by decide) (he : starEach (e :: es) X.env = (false, eval e X.env) :: starEach es X.env := by rfl) (hpl : (backTo pos (starEach es X.env)).any (·.1) = false := by rfl) :
    RE X W (.Call (.Name x p) (e :: es) [] pos) (eCall f (nA ps.length m)) := by
  obtain ⟨fa, fd, h1, h2, h3, h4⟩ := hF.ex
  refine pe_imp (pe_callG h4 (c.rm.mono hj) hg h1 h2 h3 (fun s => passAt c.tk s) ha hdb he hpl) ?_
  rintro s H Q ⟨w, en, rfl, R, E, P⟩
  unfold eCall nA at P
  refine ⟨w, en, rfl, R, E, ?_⟩
  cases q : m en w.st with
  | stuck => rw [q] at P; exact P
  | exc y S => rw [q] at P; exact P
  | ok ds S =>
    rw [q] at P
    replace P : Post (RepD X.K X.mg) X.K X.mg w ((if ds.length = ps.length then .ok ds S else .stuck : Res (List D)).bind f) Q _ := P
    intro w1 vs x1 R1 st1 rl
    subst st1
    split at P
    · rename_i hl
      exact ⟨by rw [← rl.length]; exact hl, w1, ds, rfl, R1, rl, Post.ext P x1⟩
    · exact False.elim P
theorem takes_no {X' : Cx} (h : X'.xe = fun _ _ => False) : Takes X' W0 := fun _ _ z => by
  obtain ⟨_, _, _, _, _, _, _, _, _, _, _, _, _, _, _, _, q⟩ := z
  exact False.elim q
theorem re_callB {m : AM} (c : Cb X k) (hF : Df X.prog X.w X.K X.mg X.base x ps j f) (hj : j ≤ k) (ha : RA X W0 (e :: es) m) (hg : Gl X x := by rfl) (hdb : (x == ("__debug__" : Str)) = false := by decide) (he : starEach (e :: es) X.env = (false, eval e X.env) :: starEach es X.env := by rfl) (hpl : (backTo pos (starEach es X.env)).any (·.1) = false := by rfl) :
    RE X W0 (.Call (.Name x p) (e :: es) [] pos) (eCall f (nA ps.length m)) := by
  obtain ⟨fa, fd, h1, h2, h3, h4⟩ := hF.ex
  refine pe_imp (pe_callG h4 (c.rm.mono hj) hg h1 h2 h3 (fun s => passAt (takes_no c.xe) s) ha hdb he hpl) ?_
  rintro s H Q ⟨w, en, rfl, R, E, P⟩
  unfold eCall nA at P
  refine ⟨w, en, rfl, R, E, ?_⟩
  cases q : m en w.st with
  | stuck => rw [q] at P; exact P
  | exc y S => rw [q] at P; exact P
  | ok ds S =>
    rw [q] at P
    replace P : Post (RepD X.K X.mg) X.K X.mg w ((if ds.length = ps.length then .ok ds S else .stuck : Res (List D)).bind f) Q _ := P
    intro w1 vs x1 R1 st1 rl
    subst st1
    split at P
    · rename_i hl
      exact ⟨by rw [← rl.length]; exact hl, w1, ds, rfl, R1, rl, Post.ext P x1⟩
    · exact False.elim P
abbrev RK (X : Cx) (W : WX) (kws : List Keyword) (m : AM) : Prop := PK X kws (tG (RepL X.K X.mg) X W m)
theorem pk_imp {kws : List Keyword} {t t' : TA} (h : PK X kws t) (i : ∀ s H Q, t' s H Q → t s H Q) : PK X kws t' := ⟨fun ps pins s σ H Q I q => h.run ps pins s σ H Q I (i _ _ _ q)⟩
theorem rk_nil : RK X W [] aNil := pk_imp pk_nil fun s H Q ⟨w, en, hw, R, E, P⟩ => by
  subst hw
  exact Post.now P R .nil
def eCallK (f : FM) (gD : List D → List D → List D) (n l : Nat) (m mk : AM) : EM := fun e S => (m e S).bind fun ds S1 => (mk e S1).bind fun zs S2 => if ds.length = n ∧ zs.length = l then f (gD ds zs) S2 else .stuck
theorem run_kw {E : St → XK} {f : Addr} {fd : FuncData} {sp : Sp} {n : Nat} {g : List Value → List Value → List Value} {gV : List V → List V → List V} {pins : List (Addr × Obj)} {s : St} {H : Hp} {sh : Shared} {Q : VK} {us ws : List Value} {vs zs : List V}
    (F : FnG X.prog X.w X.K X.mg X.base k f fd ps sp) (hr : RoomG k X.A) (hb : KBn X.K fd ps n ks g gV) (hx : PassesAt (L2.CX X.prog X.w) X s (E s)) (I : L2.Inv X pins s H sh) (r : Vals vs us) (rz : Vals zs ws) (h1 : vs.length = n) (h2 : zs.length = ks.length) (h : sp (gV vs zs) H Q (E s)) :
    wpAny (model X.prog X.w) X.A (call (.ref f) us (ks.zip ws)) (EP X pins s Q) X.xe sh := by
  obtain ⟨b1, b2⟩ := hb
  have h1' : us.length = n := by rw [← r.length]; exact h1
  have h2' : ws.length = ks.length := by rw [← rz.length]; exact h2
  refine wpAny_call (codeAny_mono (F.run X.A X.stack sh H ⟨us, ks.zip ws⟩ (g us ws) (gV vs zs) Q (E s) hr I.env0 (b1 sh us ws I.kIn h1' h2') (b2 r rz) h) fun r s' hq => ?_)
  cases r with
  | error y => exact hx pins H sh y s' I hq
  | ok fl =>
    cases fl with
    | ret u => exact I.after hq
    | next => exact False.elim hq
    | brk => exact False.elim hq
    | cont => exact False.elim hq
theorem re_callK {kws : List Keyword} {m mk : AM} {n : Nat} {gD : List D → List D → List D} (c : Cg X W k) (hF : Dk X.prog X.w X.K X.mg X.base x ps j n ks gD f) (hj : j ≤ k) (ha : RA X W (e :: es) m) (hkw : RK X W kws mk) (hg : Gl X x := by rfl)
    (hall : (backToKw pos (keywordEach kws X.env)).all (·.1.isSome) = true := by rfl) (hks : (backToKw pos (keywordEach kws X.env)).filterMap (·.1) = ks := by rfl)
    (hdb : (x == ("__debug__" : Str)) = false := by decide) (he : starEach (e :: es) X.env = (false, eval e X.env) :: starEach es X.env := by rfl)
    (hpl : ((backTo pos (starEach (e :: es) X.env)).any (·.1) || (backToKw pos (keywordEach kws X.env)).any (·.1.isNone)) = false := by rfl) :
    RE X W (.Call (.Name x p) (e :: es) kws pos) (eCallK f gD n ks.length m mk) := by
  obtain ⟨fa, fd, g, gV, h1, h2, h3, hR, h4⟩ := hF.ex
  refine ⟨fun pins s σ H Q I h => ?_⟩
  obtain ⟨w, en, rfl, R, E, P⟩ := h
  refine wpAny_Call_Name_kw (ld_glob I hg h1 ?_ hdb)
  refine PySem.W.callWith_KW (h₀ := X.base) I.ok.mod.kin h2 hall (thn (ha.run pos pins s σ w.hp _ I ⟨w, en, rfl, R, E, Post.bind P⟩) fun us s1 hu => ?_) hpl he
  obtain ⟨vs, H1, I1, r, w1, ds, rfl, X1, R1, rl, P1⟩ := hu
  refine thn (hkw.run pos pins s1 σ w1.hp _ I1 ⟨w1, en, rfl, R1, E.ext X1.toEx0, Post.bind P1⟩) fun ws s2 hu => ?_
  obtain ⟨zs, H2, I2, rz, w2, es2, rfl, X2, R2, rl2, P2⟩ := hu
  refine ⟨I2.kIn, ?_⟩
  rw [hks]
  dsimp only at P2
  split at P2
  · rename_i hl
    obtain ⟨q1, q2⟩ := hR w2 ds vs es2 zs (rl.ext X2.toEx0) rl2 hl.1 hl.2
    exact run_kw (E := WE W) h4 (c.rm.mono hj) h3 (passAt c.tk σ) I2 r rz (by rw [← rl.length]; exact hl.1) (by rw [← rl2.length]; exact hl.2) ⟨q2, w2, gD ds es2, rfl, R2, q1, P2⟩
  · exact False.elim P2
def eCallK0 (f : FM) (gD : List D → List D → List D) (l : Nat) (mk : AM) : EM := fun e S => (mk e S).bind fun zs S2 => if zs.length = l then f (gD [] zs) S2 else .stuck
def sRaise (c : Nat) : SM := fun e S => .exc (.exc c []) e S
theorem rs_raise {C : Addr} {bm : List Value} {B newId initId : String} {m : Str} {jj : Nat} {p2 pos2 : Pos} (cn : Nat) (hcn : cname cn = x) (c : Cg X W k) (F : ExcBaseFacts B newId initId bm) (q : PySem.W.excIn X.K C bm newId = true) (gC : X.mg x = some (.ref C)) (kC : PySem.W.keepIn X.K (.ref C) = true) (r : Raises X (.ref C)) (hg : Gl X x := by rfl)
    (hdb : (x == ("__debug__" : Str)) = false := by decide) : RS X W (.Raise (some (.Call (.Name x p) [.Constant (.str m) jj p2] [] pos)) none pos2) (sRaise cn) := by
  refine ps_imp (ps_raise c.calm c.tk (pmk_own F q gC kC r hg hdb)) ?_
  rintro D s H ⟨w, en, rfl, R, E, P⟩
  exact P w s (.ref C) none (Ext.refl w) R rfl E ⟨cn, C, [], [], rfl, by rw [hcn]; exact gC, rfl, .inl ⟨rfl, rfl⟩, .nil⟩
end
end G
namespace G
open PySem L2 PySem.Spec
section
variable {X : Cx} {pins : List (Addr × Obj)} {s : L2.St} {H : Hp} {sh : Shared}
theorem inv_track (I : L2.Inv X pins s H sh) {ad : Addr} {o : HO} (na : H ad = none) (h0 : X.s_0.heap.get? ad = none) (nL : ad ≠ X.env.locals) (nC : ∀ x c, X.env.cells.lookup x = some c → c ≠ ad)
    (nP : ∀ p, p ∈ X.pn ++ pins → p.1 ≠ ad) (new : ObjOk X.prog X.w (upd H ad o) sh.heap ad o) : L2.Inv X pins s (upd H ad o) sh := by
  have ne : ∀ (b : Addr) (u : HO), H b = some u → b ≠ ad := fun b u h => ne_of_none h na
  have bs := I.base
  refine ⟨I.ok, I.os, I.bare, ⟨bs.keep, bs.slot, fun b ob h1 h2 h3 => ?_, bs.there, fun b xs h => ?_, fun b ob u h => ?_, fun b q h => ?_⟩, I.loc, I.cell, ?_, fun x c h => ?_, fun p hp => ?_, fun b u h => ?_, I.len⟩
  · have hb : b ≠ ad := fun z => by rw [z, h0] at h1; cases h1
    rw [upd_ne hb]; exact bs.free b ob h1 h2 h3
  · have z := bs.tups b xs h
    rw [upd_ne (ne _ _ z)]; exact z
  · have z := bs.frzs b ob u h
    rw [upd_ne (ne _ _ z)]; exact z
  · obtain ⟨m, z⟩ := bs.tbls b q h
    exact ⟨m, by rw [upd_ne (ne _ _ z)]; exact z⟩
  · rw [upd_ne (Ne.symm nL)]; exact I.free
  · rw [upd_ne (nC x c h)]; exact I.freeC x c h
  · obtain ⟨z1, z2, z3⟩ := I.pin p hp
    exact ⟨z1, by rw [upd_ne (nP p hp)]; exact z2, z3⟩
  · by_cases hb : b = ad
    · subst hb
      rw [upd_same] at h; cases h; exact new
    · rw [upd_ne hb] at h
      exact (I.hok b u h).stay (fun _ _ _ q => q) (fun c q => by rw [upd_ne (ne _ _ q)]; exact q) fun c xs q => by rw [upd_ne (ne _ _ q)]; exact q
theorem inv_suite (I : L2.Inv X pins s H sh) (ad : Addr) : L2.Inv (X.suite ad (X.pn ++ pins)) [] s H sh :=
  ⟨I.ok.suite _ _, I.os, I.bare, I.base, I.loc, I.cell, I.free, I.freeC, fun p hp => I.pin p (by rw [List.append_nil] at hp; exact hp), I.hok, I.len⟩
theorem inv_out {ad : Addr} {pn' : List (Addr × Obj)} (ok : X.Ok) (I : L2.Inv (X.suite ad (X.pn ++ pins)) pn' s H sh) : L2.Inv X pins s H sh :=
  ⟨ok, I.os, I.bare, I.base, I.loc, I.cell, I.free, I.freeC, fun p hp => I.pin p (List.mem_append_left _ hp), I.hok, I.len⟩
end
section
variable {X : Cx} {W : WX} {a b c e o : Expr} {es : List Expr} {ma mb mc me : EM} {ta tb : TM} {pos : Pos} {x : Str} {p : Pos} {j k : Nat}
def sSu (i : Nat) : SRes → SRes
  | .nxt e S => .nxt (e.set i none) S
  | .brk e S => .brk (e.set i none) S
  | .cnt e S => .cnt (e.set i none) S
  | .ret d S => .ret d S
  | _ => .stuck
def sTry (i : Nat) (tb : Nat → Option Bool) (m n : SM) : SM := fun e S => match m e S with
  | .exc (.exc cn fs) e1 S1 => match tb cn with
    | some true => sSu i (n (e1.set i (some (.exc cn fs))) S1)
    | some false => .exc (.exc cn fs) e1 S1
    | none => .stuck
  | .exc _ _ _ => .stuck
  | r => r
def isC (tb : Nat → Option Bool) : D → Option Bool
  | .exc cn [] => tb cn
  | _ => none
def eIsC (tb : Nat → Option Bool) (m : EM) : EM := fun e S => (m e S).bind fun x S1 => lf ((isC tb x).map .bl) S1
def MtX (X : Cx) (f : Store → D → List D → Option D) : V → List V → Hp → VK → Prop := fun v vs H Q => ∃ w x xs E, w.hp = H ∧ Rep X.K X.mg w ∧ RepD X.K X.mg w x v ∧ RepL X.K X.mg w xs vs ∧ Post (RepD X.K X.mg) X.K X.mg w (lf (f w.st x xs) w.st) Q E
def eMt (f : Store → D → List D → Option D) (a : EM) (m : AM) : EM := fun e S => (a e S).bind fun x S1 => if (seqD S1 x).isSome then (m e S1).bind fun xs S2 => lf (f S2 x xs) S2 else .stuck
theorem re_lm {name : Str} {id : String} {f : Store → D → List D → Option D} {m : AM} {apos : Pos} (hm : MtR X id (MtX X f)) (slot : Slot "list" name id) (hty : typeOf (.builtin id) = pure (.type "method_descriptor")) (ho : RE X W o ma) (ha : RA X W (e :: es) m)
    (hbase : attributeBase o name X.env (eval o X.env) = eval o X.env := by rfl)
    (hfew : ((backTo pos (starEach (e :: es) X.env)).all (fun x => !x.1) && (backToKw pos (keywordEach [] X.env)).all (fun x => x.1.isSome) && decide ((e :: es).length + ([] : List Keyword).length + (if ([] : List Keyword).isEmpty then 0 else 1) < 30)) = true := by rfl)
    (hline : (apos.endLine == pos.line) = true := by rfl) (hs : starEach (e :: es) X.env = (false, eval e X.env) :: starEach es X.env := by rfl) (hpl : (backTo pos (starEach es X.env)).any (·.1) = false := by rfl) :
    RE X W (.Call (.Attribute o name apos) (e :: es) [] pos) (eMt f ma m) := by
  refine pe_imp (pe_bm PySem.F.plainAttrs_list slot hty hm ho ha hbase hfew hline hs hpl) ?_
  rintro s H Q ⟨w, en, rfl, R, E, P⟩
  refine ⟨w, en, rfl, R, E, (Post.bind P).imp ?_⟩
  rintro v H1 ⟨w1, d, rfl, X1, R1, rd, P1⟩
  dsimp only at P1
  cases q : seqD w1.st d with
  | none => rw [q] at P1; exact False.elim P1
  | some l =>
    rw [q] at P1
    replace P1 : Post (RepD X.K X.mg) X.K X.mg w1 ((m en w1.st).bind fun xs S2 => lf (f S2 d xs) S2) Q _ := P1
    obtain ⟨ad, vs, rfl, hs, hl⟩ := rd.seq R1 q
    refine ⟨.inl ⟨rfl, _, hs⟩, w1, en, rfl, R1, E.ext X1.toEx0, (Post.bind P1).imp ?_⟩
    rintro us H2 ⟨w2, xs, rfl, X2, R2, rl, P2⟩
    exact ⟨w2, d, xs, _, rfl, R2, rd.ext X2.toEx0, rl, P2⟩
def flatD : D → Option V
  | .non => some .non
  | .bl b => some (.bl b)
  | .int i => some (.int i)
  | .str x => some (.str x)
  | _ => none
theorem RepD.flat {K : PySem.W.Frag} {mg : Str → Option Value} {w : Wo} {d : D} {v u : V} (h : RepD K mg w d v) (e : flatD d = some u) : v = u ∧ flatV v = true := by
  cases h <;> first | (cases e; exact ⟨rfl, rfl⟩) | cases e
def flatL : List D → Option (List V)
  | [] => some []
  | d :: l => match flatD d, flatL l with
    | some v, some vs => some (v :: vs)
    | _, _ => none
theorem RepL.flat {K : PySem.W.Frag} {mg : Str → Option Value} {w : Wo} {l : List D} {vs us : List V} (h : RepL K mg w l vs) (e : flatL l = some us) : vs = us ∧ vs.all flatV = true := by
  induction l generalizing vs us with
  | nil => cases h; cases e; exact ⟨rfl, rfl⟩
  | cons d l ih =>
    cases h with
    | cons r t =>
      rw [flatL] at e
      split at e
      · rename_i v2 vs2 e1 e2
        cases e
        obtain ⟨q1, q2⟩ := r.flat e1
        obtain ⟨q3, q4⟩ := ih t e2
        exact ⟨by rw [q1, q3], by rw [List.all_cons, q2, q4]; rfl⟩
      · cases e
def rCnt (K : PySem.W.Frag) : V → List V → Hp → VK → Prop := fun x xs H Q => ∃ (ad : Addr) (ys : List V) (y : V), x = .ref ad ∧ xs = [y] ∧ SqL K H ad ys ∧ flatV y = true ∧ ys.all flatV = true ∧ Q (.int (ys.countP fun z => eqV z y : Nat)) H
theorem mt_cnt : MtR X "list.count" (rCnt X.K) := by
  intro pins s σ H x xs v us Q I rx rxs h
  obtain ⟨ad, ys, y, rfl, rfl, hs, fy, fys, q⟩ := h
  cases rx
  obtain ⟨u, rfl, ru⟩ := rxs.one
  obtain ⟨its, rv, ⟨⟨cls, dd, data, sl⟩, n, ho, hc, hdn, hd⟩, hlen⟩ := I.list hs
  dsimp only at hc hd
  subst hc hd
  refine call_meets PySem.F.slot_list_count ⟨_, ho, rfl⟩ PySem.F.entry_list_count (PySem.F.args_list_count_2 _ _)
    (SeqAt.list_countAt ad its.toArray n dd sl u (eqU y)) ⟨ho, fun u' hu' => mem_eqAt ru fy rv fys u' (by simpa using hu'), ?_⟩
  have ec : ∀ (ys : List V) (its : List Value), Vals ys its → ys.all flatV = true → its.countP (eqU y) = ys.countP fun z => eqV z y := by
    intro ys
    induction ys with
    | nil => intro its r _; cases r; rfl
    | cons z ys ih =>
      intro its r f
      cases r with
      | cons r t =>
        rw [List.all_cons, Bool.and_eq_true] at f
        rw [List.countP_cons, List.countP_cons, ih _ t f.2, eqU_of r f.1]
  refine ⟨.int (ys.countP fun z => eqV z y : Nat), H, I.tok _, ⟨s.toks, ?_⟩, q⟩
  show Value.int ((its.toArray.toList.countP (eqU y) : Nat) : Int) s.toks = _
  rw [← ec ys its rv fys]
def fCnt (S : Store) (x : D) (xs : List D) : Option D := match seqD S x, xs with
  | some l, [y] => match flatL l, flatD y with
    | some vs, some v => some (.int (vs.countP fun z => eqV z v : Nat))
    | _, _ => none
  | _, _ => none
theorem mm_count : MtR X "list.count" (MtX X fCnt) := by
  intro pins s σ H x xs v us Q I rx rxs h
  obtain ⟨w, d, ds, E, rfl, R, rd, rl, P⟩ := h
  unfold fCnt at P
  split at P
  · rename_i l y e1
    obtain ⟨u, rfl, ru⟩ := rl.one_inv
    obtain ⟨ad, vs, rfl, hs, hl⟩ := rd.seq R e1
    split at P
    · rename_i vs' v' e2 e3
      obtain ⟨q1, q2⟩ := hl.flat e2
      obtain ⟨q3, q4⟩ := ru.flat e3
      subst q1 q3
      exact mt_cnt pins s σ w.hp _ _ v us Q I rx rxs ⟨ad, vs, u, rfl, rfl, hs, q4, q2, Post.now P R (.int _)⟩
    · exact False.elim P
  · exact False.elim P
end
end G
namespace G
open PySem L2 PySem.Spec
structure XcO (K : PySem.W.Frag) (C : Addr) (bm : List Value) (nw : String) : Prop where
  x : PySem.W.excIn K C bm nw = true
  k : PySem.W.keepIn K (.ref C) = true
  b : PySem.W.subIn K (.ref C) (.type "BaseException") = some true
  t : PySem.W.typeIn K (.ref C) = some (.type "type")
section
variable {P : Program} {w0 : World} {K : PySem.W.Frag} {mg : Str → Option Value} {base : Heap}
theorem ints_rep {w : Wo} : ∀ ns : List Int, RepL K mg w (ns.map D.int) (ns.map V.int)
  | [] => .nil
  | n :: ns => .cons (.int n) (ints_rep ns)
end
end G
namespace G
open PySem L2 PySem.Spec PyProof.Rows
section
variable {fx : List Fx} {fn : List He.DefD} {K : PySem.W.Frag}
theorem SaysX.fact (c : SaysX fx fn K) (i : Nat) {f : Fx} (h : fx[i]? = some f := by rfl) : f K = true := by
  have c1 := (He.ba (show ((fx.all fun f => f K) && fn.all fun d => d.ok K) = true from congrArg (fun z : He.AlD => z.1) c)).1
  exact List.all_eq_true.mp c1 f (List.mem_of_getElem? h)
theorem SaysX.def_ (c : SaysX fx fn K) (i : Nat) {d : He.DefD} (h : fn[i]? = some d := by rfl) : ∃ fd, FunD K d.name d.qual d.params d.body d.scope (d.dvs K) (d.kws K) (He.fAd K d.at_) fd := by
  have c2 := (He.ba (show ((fx.all fun f => f K) && fn.all fun d => d.ok K) = true from congrArg (fun z : He.AlD => z.1) c)).2
  have e : fn.map (fun d => He.fnW K d.at_) = fn.map He.DefD.val := congrArg (fun z : He.AlD => z.2) c
  have e2 : (fn.map fun d => He.fnW K d.at_)[i]? = (fn.map He.DefD.val)[i]? := by rw [e]
  rw [List.getElem?_map, List.getElem?_map, h] at e2
  exact He.DefD.funD (Option.some.inj e2) (List.all_eq_true.mp c2 d (List.mem_of_getElem? h))
end
section
variable {K : PySem.W.Frag} {h : Heap} {mg : Str → Option Value}
theorem free_at (X : K.In h) (Y : h.Ns mainGlobals mg) {l : List Str} (c : freesB l K = true) (i : Nat) {x : Str} (e : l[i]? = some x := by rfl) : mg x = none :=
  PySem.W.mg_none_of X Y (He.eqO_ok (List.all_eq_true.mp c x (List.mem_of_getElem? e)))
theorem glo_one (X : K.In h) (Y : h.Ns mainGlobals mg) {x : Str} (c : oneGlo K x = true) : mg x = some (.ref (He.ga K x)) := PySem.W.mg_of X Y (He.eqO_ok c)
theorem glo_at (X : K.In h) (Y : h.Ns mainGlobals mg) {l : List Str} (c : glosB l K = true) (i : Nat) {x : Str} (e : l[i]? = some x := by rfl) : mg x = some (.ref (He.ga K x)) :=
  glo_one X Y (List.all_eq_true.mp c x (List.mem_of_getElem? e))
theorem str_at (X : K.In h) (Y : h.Ns mainGlobals mg) {x z : Str} (c : strB x z K = true) : ∃ t, mg x = some (.str z t) := He.str_ok X Y (show (He.Fa.str x z).ok K = true from c)
theorem xcoB_ok {x : Str} {bm : List Value} {nw : String} (h : xcoB x bm nw K = true) : XcO K (He.ga K x) bm nw := by
  obtain ⟨c1, c⟩ := He.ba h
  obtain ⟨c2, c⟩ := He.ba c
  obtain ⟨c3, c4⟩ := He.ba c
  exact ⟨c1, c2, of_decide_eq_true c3, of_decide_eq_true c4⟩
theorem exqB_ok {C : Addr} (h : exqB K C = true) : ExcC K C := by
  obtain ⟨c1, c⟩ := He.ba h
  obtain ⟨c2, c⟩ := He.ba c
  obtain ⟨c3, c⟩ := He.ba c
  obtain ⟨c4, c⟩ := He.ba c
  obtain ⟨c5, c⟩ := He.ba c
  obtain ⟨c6, c⟩ := He.ba c
  obtain ⟨c7, c8⟩ := He.ba c
  exact ⟨He.eqO_ok c1, He.eqO_ok c2, of_decide_eq_true c3, c4, He.eqO_ok c5, He.eqO_ok c6, of_decide_eq_true c7, of_decide_eq_true c8⟩
theorem own_at {D A : Addr} {p : Addr → Prop} {x : Str} (g : mg x = some (.ref A)) (h : p A) (e : mg x = some (.ref D)) : p D := by
  rw [g] at e
  cases e
  exact h
end
end G
namespace G
open PySem L2 PySem.Spec
end G
namespace G
open PySem L2 PySem.Spec
section
variable {K : PySem.W.Frag} {mg : Str → Option Value} {w : Wo}
def putD (f : Nat) (d : D) : List (Nat × D) → List (Nat × D)
  | [] => [(f, d)]
  | (g, x) :: r => if g = f then (g, d) :: r else (g, x) :: putD f d r
theorem RepF.put {f : Nat} {d : D} {v : V} (hf : f < 48) (q : RepD K mg w d v) {fs : List (Nat × D)} {gs : List (Str × V)} : RepF K mg w fs gs → RepF K mg w (putD f d fs) (putF (fname f) v gs)
  | .nil => .cons q .nil
  | @RepF.cons _ _ _ g d' v' l vs r t => by
    unfold putD putF
    by_cases e : g = f
    · subst e
      rw [if_pos rfl, if_pos rfl]
      exact .cons q t
    · rw [if_neg e, if_neg (fname_ne hf e)]
      exact .cons r (RepF.put hf q t)
def fldD (cs : List Nat) (f : Nat) (S : Store) (x : D) : Option D := match insD S x with
  | some (c, fs) => if cs.contains c then fs.lookup f else none
  | none => none
end
section
variable {X : Cx} {W : WX} {a b c e o : Expr} {es : List Expr} {ma mb mc me : EM} {ta tb : TM} {pos : Pos} {x : Str} {p : Pos} {j k : Nat} {ps ks : List Str}
def eFld (cs : List Nat) (f : Nat) (m : EM) : EM := fun e S => (m e S).bind fun x S1 => lf (fldD cs f S1 x) S1
def stF (cs : List Nat) (f : Nat) (S : Store) (x y : D) : Option Store := match x with
  | .loc n => match S[n]? with
    | some (.obj c fs) => if cs.contains c && decide (fs.length < 1000) then some (S.set n (.obj c (putD f y fs))) else none
    | _ => none
  | _ => none
def stR (o : Option Store) (e : En) : SRes := match o with
  | some S => .nxt e S
  | none => .stuck
def sFldM (cs : List Nat) (f : Nat) (o v : EM) : SM := fun e S => sE (v e S) e fun y S1 => sE (o e S1) e fun x S2 => stR (stF cs f S2 x y) e
end
mutual
def D.lo (n : Nat) : D → Bool
  | .non => true
  | .bl _ => true
  | .int _ => true
  | .str _ => true
  | .tup l => loL n l
  | .lst l => loL n l
  | .scr l => loL n l
  | .dic _ l => loL n l
  | .loc m => decide (m < n)
  | .exc _ fs => loF n fs
  | .ins _ fs => loF n fs
  | .fa _ => true
  | .pin _ d => d.lo n
def loL (n : Nat) : List D → Bool
  | [] => true
  | d :: l => d.lo n && loL n l
def loF (n : Nat) : List (Nat × D) → Bool
  | [] => true
  | (_, d) :: l => d.lo n && loF n l
end
section
variable {K : PySem.W.Frag} {mg : Str → Option Value} {w : Wo}
theorem StP.cut {n : Nat} {a : Addr} {u : HO} (h : StP w a u) : StP (w.cut n) a u := ⟨h.1, fun z => h.2 (cut_zz z)⟩
theorem StO.cut {n : Nat} {a : Addr} {u : HO} (h : StO w a u) : StO (w.cut n) a u := ⟨h.1, fun z => h.2 (cut_zz z)⟩
mutual
theorem RepD.cut {n : Nat} {d : D} {v : V} : RepD K mg w d v → d.lo n = true → RepD K mg (w.cut n) d v
  | .non, _ => .non
  | .bl b, _ => .bl b
  | .int i, _ => .int i
  | .str x, _ => .str x
  | .tup h r, l => .tup (h.imp (fun h => h.cut) id) (RepL.cutR r (by rw [D.lo] at l; exact l))
  | .lst h r, l => .lst h.cut (RepL.cutR r (by rw [D.lo] at l; exact l))
  | .scr h r, l => .scr (h.imp (fun h => h.cut) id) (RepL.cutR r (by rw [D.lo] at l; exact l))
  | .dic h z r, l => .dic h.cut z (RepL.cutR r (by rw [D.lo] at l; exact l))
  | .loc h, l => .loc (by
      rw [D.lo] at l
      show (w.al.take n)[_]? = _
      rw [List.getElem?_take, if_pos (of_decide_eq_true l)]; exact h)
  | .ins g h r, l => .ins g h.cut (RepF.cutR r (by rw [D.lo] at l; exact l))
  | .exc g h x r, l => .exc g h.cut (x.imp id fun ⟨z, y, q, s⟩ => ⟨z, y, q, s.cut⟩) (RepF.cutR r (by rw [D.lo] at l; exact l))
  | .fa a, _ => .fa a
  | .pin h, l => .pin (RepD.cut h (by rw [D.lo] at l; exact l))
theorem RepL.cutR {n : Nat} {l : List D} {vs : List V} : RepL K mg w l vs → loL n l = true → RepL K mg (w.cut n) l vs
  | .nil, _ => .nil
  | .cons r t, h => by
    rw [loL, Bool.and_eq_true] at h
    exact .cons (RepD.cut r h.1) (RepL.cutR t h.2)
theorem RepF.cutR {n : Nat} {l : List (Nat × D)} {vs : List (Str × V)} : RepF K mg w l vs → loF n l = true → RepF K mg (w.cut n) l vs
  | .nil, _ => .nil
  | .cons r t, h => by
    rw [loF, Bool.and_eq_true] at h
    exact .cons (RepD.cut r h.1) (RepF.cutR t h.2)
end
mutual
theorem RepD.low {d : D} {v : V} : RepD K mg w d v → d.lo w.al.length = true
  | .non => by rw [D.lo]
  | .bl b => by rw [D.lo]
  | .int i => by rw [D.lo]
  | .str x => by rw [D.lo]
  | .tup h r => by rw [D.lo]; exact RepL.low r
  | .lst h r => by rw [D.lo]; exact RepL.low r
  | .scr h r => by rw [D.lo]; exact RepL.low r
  | .dic h z r => by rw [D.lo]; exact RepL.low r
  | .loc h => by rw [D.lo]; exact decide_eq_true (List.getElem?_eq_some_iff.mp h).1
  | .ins g h r => by rw [D.lo]; exact RepF.low r
  | .exc g h x r => by rw [D.lo]; exact RepF.low r
  | .fa a => by rw [D.lo]
  | .pin h => by rw [D.lo]; exact RepD.low h
theorem RepL.low {l : List D} {vs : List V} : RepL K mg w l vs → loL w.al.length l = true
  | .nil => by rw [loL]
  | .cons r t => by rw [loL, Bool.and_eq_true]; exact ⟨RepD.low r, RepL.low t⟩
theorem RepF.low {l : List (Nat × D)} {vs : List (Str × V)} : RepF K mg w l vs → loF w.al.length l = true
  | .nil => by rw [loF]
  | .cons r t => by rw [loF, Bool.and_eq_true]; exact ⟨RepD.low r, RepF.low t⟩
end
def loK {κ : Type} (n : Nat) : List (κ × D) → Bool
  | [] => true
  | (_, d) :: l => d.lo n && loK n l
theorem RepK.low {κ : Type} {l : List (κ × D)} {vs : List (κ × V)} : RepK κ K mg w l vs → loK w.al.length l = true
  | .nil => rfl
  | .cons r t => by rw [loK, Bool.and_eq_true]; exact ⟨r.low, RepK.low t⟩
theorem RepK.cutR {κ : Type} {n : Nat} {l : List (κ × D)} {vs : List (κ × V)} : RepK κ K mg w l vs → loK n l = true → RepK κ K mg (w.cut n) l vs
  | .nil, _ => .nil
  | .cons r t, h => by
    rw [loK, Bool.and_eq_true] at h
    exact .cons (r.cut h.1) (RepK.cutR t h.2)
theorem CellR.cut {w1 : Wo} {n : Nat} {a a' : Addr} {c : Cell} (h : CellR K mg w a c) (h0 : CellR K mg w1 a' c) (hn : w1.al.length = n) : CellR K mg (w.cut n) a c := by
  subst hn
  cases c with
  | dead => trivial
  | lst l => obtain ⟨vs, p, r⟩ := h; obtain ⟨_, _, r0⟩ := h0; exact ⟨vs, p, r.cutR r0.low⟩
  | dk l => obtain ⟨vs, p, r⟩ := h; obtain ⟨_, _, r0⟩ := h0; exact ⟨vs, p, r.cutR r0.low⟩
  | fk l => obtain ⟨o, vs, p, r⟩ := h; obtain ⟨_, _, _, r0⟩ := h0; exact ⟨o, vs, p, r.cutR r0.low⟩
  | ts l => obtain ⟨h1, h2, xs, h3, h4, h5⟩ := h; exact ⟨h1, h2, xs, h3, h4, fun x hx => (h5 x hx).imp (fun q => q.cut) id⟩
  | fs l => obtain ⟨h1, h2, o, xs, h3, h4, h5⟩ := h; exact ⟨h1, h2, o, xs, h3, h4, fun x hx => (h5 x hx).imp (fun q => q.cut) id⟩
  | obj c l => obtain ⟨C, dx, gs, g, p, r⟩ := h; obtain ⟨_, _, _, _, _, r0⟩ := h0; exact ⟨C, dx, gs, g, p, r.cutR r0.low⟩
  | tbl _ q =>
    obtain ⟨ea, ps, p, t, r⟩ := h
    refine ⟨ea, ps, p, t, fun pos cv hc => ?_⟩
    obtain ⟨c, o, e1, e2, e3⟩ := r pos cv hc
    exact ⟨c, o, e1, e2, fun z => e3 (cut_zz z)⟩
theorem Rep.cut {w1 : Wo} (R1 : Rep K mg w1) (X : Ext w1 w) (R : Rep K mg w) (hs : w.st.take w1.st.length = w1.st) : Rep K mg (w.cut w1.al.length) := by
  obtain ⟨t, e⟩ := X.al
  have el : w.al.take w1.al.length = w1.al := by rw [e]; simp
  have es : w.st.take w1.al.length = w1.st := by rw [R1.len]; exact hs
  refine ⟨?_, ?_, fun a h => ?_, fun m a c g1 g2 => ?_, fun a h => ?_⟩
  · show (w.al.take _).length = (w.st.take _).length
    rw [el, es]; exact R1.len
  · show (w.al.take _).Nodup
    rw [el]; exact R1.nd
  · have h : a ∈ w.al.take w1.al.length := h
    exact R.tr a (mem_take h)
  · have g1 : (w.al.take w1.al.length)[m]? = some a := g1
    have g2 : (w.st.take w1.al.length)[m]? = some c := g2
    have c0 := R1.cell m a c (by rw [← el]; exact g1) (by rw [← es]; exact g2)
    exact (R.cell m a c (take_get g1) (take_get g2)).cut c0 rfl
  · obtain ⟨h1, h2⟩ := R.hid a h
    exact ⟨fun z => h1 (mem_take z), h2⟩
end
end G
namespace G
open PySem L2 PySem.Spec
theorem RoomG.make {k : Nat} {A : Around} (h : RoomG (k + 1) A) (C : Addr) (us : List Value) (kw : List (Str × Value)) : RoomG k (A.under (.builtin "type.__call__" ⟨.ref C :: us, kw⟩)) := ⟨h.r.make C us kw, fun q => by
  have := h.gd (Nat.le_succ_of_le q)
  first
    | exact this
    | simpa [Around.under] using this⟩
def endM (n : Nat) : Res D → Res D
  | .ok .non S2 => .ok (.loc n) S2
  | .exc x S2 => .exc x S2
  | _ => .stuck
def mkM (cn : Nat) (f : FM) (gD : List D → List D → List D) (ds zs : List D) (S : Store) : Res D := endM S.length (f (gD (.loc S.length :: ds) zs) (S ++ [.obj cn []]))
open Classical in
noncomputable def endI (cn : Nat) (S : Store) : Res D → Res D
  | .ok .non S2 => match S2.drop S.length with
    | [.obj c fs] => if c = cn ∧ S2.take S.length = S ∧ loF S.length fs = true then .ok (.ins cn fs) S else .stuck
    | _ => .stuck
  | .exc x S2 => if S2.take S.length = S ∧ x.lo S.length = true then .exc x S else .stuck
  | _ => .stuck
noncomputable def mkI (cn : Nat) (f : FM) (gD : List D → List D → List D) (ds zs : List D) (S : Store) : Res D := endI cn S (f (gD (.loc S.length :: ds) zs) (S ++ [.obj cn []]))
section
variable {X : Cx} {W : WX} {a b c e o : Expr} {es : List Expr} {ma mb mc me : EM} {ta tb : TM} {pos : Pos} {x : Str} {p : Pos} {j k cn n : Nat} {ps ks : List Str} {f : FM} {gD : List D → List D → List D}
def eMk (mk' : List D → List D → Store → Res D) (n l : Nat) (m mk : AM) : EM := fun e S => (m e S).bind fun ds S1 => (mk e S1).bind fun zs S2 => if ds.length = n ∧ zs.length = l then mk' ds zs S2 else .stuck
def eMk0 (mk' : List D → List D → Store → Res D) : EM := fun _ S => mk' [] [] S
end
end G
namespace G
open PySem L2 PySem.Spec RZ
section
variable {X : Cx} {W : WX} {a b c e o : Expr} {es : List Expr} {ma mb mc me : EM} {ta tb : TM} {pos : Pos} {x : Str} {p : Pos} {j k : Nat}
variable {K : PySem.W.Frag} {mg : Str → Option Value} {w : Wo}
def zipD (l m : List D) : List D := List.zipWith (fun x y => .tup [x, y]) l m
def zipR (ds : List D) (S : Store) : Res (List D) := match ds with
  | [.tup l, .tup m] => .ok (zipD l m) S
  | [.lst l, .lst m] => .ok (zipD l m) S
  | _ => .stuck
def iZip (m : AM) : AM := fun e S => (m e S).bind zipR
def signs (x : Str) : List D := x.cps.toList.map fun c => .str ⟨#[c]⟩
def strR (d : D) (S : Store) : Res (List D) := match d with
  | .str x => .ok (signs x) S
  | _ => .stuck
def iStrM (m : EM) : AM := fun e S => (m e S).bind strR
theorem its_str (x : Str) : ItsR X w (signs x) (Its x) := by
  intro w2 x2 _ R2
  have hl : (signs x).length = x.cps.size := by unfold signs; simp
  refine ⟨fun i hi => ⟨?_, fun v H' y => ?_⟩, ?_⟩
  · rw [hl] at hi; exact hi
  · obtain ⟨rfl, c, hc, rfl⟩ := y
    refine ⟨w2, .str ⟨#[c]⟩, rfl, Ext.refl w2, R2, rfl, rfl, ?_, .str _⟩
    unfold signs
    rw [List.getElem?_map, Array.getElem?_toList, hc]; rfl
  · show x.cps.size ≤ (signs x).length
    rw [hl]; exact Nat.le_refl _
theorem ri_str {tg : Expr} (ha : RE X W a ma) : RI X W tg a (iStrM ma) := by
  refine ⟨fun pins s σ H R' I h => (pi_str ha).run pins s σ H R' I ?_⟩
  obtain ⟨w, en, rfl, R, E, P⟩ := h
  refine ⟨w, en, rfl, R, E, (Post.bind P).imp ?_⟩
  rintro v H1 ⟨w1, d, rfl, X1, R1, rx, P1⟩
  unfold strR at P1
  split at P1
  · cases rx; exact ⟨_, rfl, Post.now P1 R1 (its_str _)⟩
  · exact False.elim P1
def appR (x : D) (xs : List D) (S : Store) : Res D := match x, xs with
  | .loc n, [y] => match S[n]? with
    | some (.lst l) => if l.length < sizeLine then .ok .non (S.set n (.lst (l ++ [y]))) else .stuck
    | _ => .stuck
  | _, _ => .stuck
def isLst (S : Store) (x : D) : Bool := (seqD S x).isSome
def eApp (a : EM) (m : AM) : EM := fun e S => (a e S).bind fun x S1 => if isLst S1 x then (m e S1).bind fun xs S2 => appR x xs S2 else .stuck
theorem re_app {m : AM} {apos : Pos} (ho : RE X W o ma) (ha : RA X W [e] m) (hbase : attributeBase o "append" X.env (eval o X.env) = eval o X.env := by rfl)
    (hfew : ((backTo pos (starEach [e] X.env)).all (fun x => !x.1) && (backToKw pos (keywordEach [] X.env)).all (fun x => x.1.isSome) && decide ([e].length + ([] : List Keyword).length + (if ([] : List Keyword).isEmpty then 0 else 1) < 30)) = true := by rfl)
    (hline : (apos.endLine == pos.line) = true := by rfl) (hs : starEach [e] X.env = (false, eval e X.env) :: starEach [] X.env := by rfl) (hpl : (backTo pos (starEach [] X.env)).any (·.1) = false := by rfl) :
    RE X W (.Call (.Attribute o "append" apos) [e] [] pos) (eApp ma m) := by
  refine pe_imp (pe_bm PySem.F.plainAttrs_list PySem.F.slot_list_append PySem.F.type_list_append mt_append ho ha hbase hfew hline hs hpl) ?_
  rintro s H Q ⟨w, en, rfl, R, E, P⟩
  refine ⟨w, en, rfl, R, E, (Post.bind P).imp ?_⟩
  rintro v H1 ⟨w1, d, rfl, X1, R1, rd, P1⟩
  dsimp only at P1
  split at P1
  · rename_i hq
    unfold isLst at hq
    cases q : seqD w1.st d with
    | none => rw [q] at hq; cases hq
    | some l =>
      obtain ⟨ad, vs, rfl, hs, hl⟩ := rd.seq R1 q
      refine ⟨.inl ⟨rfl, _, hs⟩, w1, en, rfl, R1, E.ext X1.toEx0, (Post.bind P1).imp ?_⟩
      rintro us H2 ⟨w2, xs, rfl, X2, R2, rl, P2⟩
      have rd2 := rd.ext X2.toEx0
      dsimp only at P2
      unfold appR at P2
      split at P2
      · rename_i n y
        split at P2
        · rename_i l2 hl2
          split at P2
          · rename_i hz
            obtain ⟨u, rfl, ru⟩ := rl.one_inv
            cases rd2 with
            | loc hn =>
              obtain ⟨vs2, p2, r2⟩ := R2.cell _ _ _ hn hl2
              have Xw : Ext w2 (w2.wr n ad (.lst (vs2 ++ [u])) (.lst (l2 ++ [y]))) := wr_ext R2 hn hl2 (by intro z; cases z)
              refine ⟨ad, vs2, u, rfl, rfl, p2, by rw [← r2.length]; exact hz, ?_⟩
              exact P2 (w2.wr n ad (.lst (vs2 ++ [u])) (.lst (l2 ++ [y]))) .non Xw (R2.wr hn hl2 (by intro z; cases z) ⟨_, upd_same, (r2.append (.cons ru .nil)).ext Xw.toEx0⟩) rfl .non
          · exact False.elim P2
        · exact False.elim P2
      · exact False.elim P2
  · exact False.elim P1
def rsv (S : Store) : D → D
  | .loc n => match S[n]? with
    | some (.lst l) => .lst l
    | _ => .loc n
  | d => d
def lstOf (S : Store) (d : D) : Option (List D) := match rsv S d with
  | .lst l => some l
  | _ => none
theorem RepD.lstV {d : D} {v : V} {l : List D} (R : Rep K mg w) (h : RepD K mg w d v) (e : rsv w.st d = .lst l) : ∃ a vs, v = .ref a ∧ w.hp a = some (.lst vs) ∧ RepL K mg w l vs := by
  cases h with
  | lst s r => cases e; exact ⟨_, _, rfl, s.1, r⟩
  | @loc n a hn =>
    replace e : (match w.st[n]? with
      | some (.lst l) => .lst l
      | _ => .loc n) = D.lst l := e
    split at e
    · rename_i l' hl
      cases e
      obtain ⟨vs, p, r⟩ := R.cell _ _ _ hn hl
      exact ⟨_, vs, rfl, p, r⟩
    · cases e
  | _ => cases e
def dAddS (S : Store) (x y : D) : Option D := match rsv S x, rsv S y with
  | .lst l, .lst m => if l.length + m.length ≤ sizeLine then some (.lst (l ++ m)) else none
  | _, _ => dAdd x y
theorem om_addS : OpR X (binaryOp .Add) (OpMS X dAddS) := by
  intro pins s σ H x y v u Q I rx ry h
  obtain ⟨w, dx, dy, E, rfl, R, qx, qy, P⟩ := h
  unfold dAddS at P
  split at P
  · rename_i l m e1 e2
    split at P
    · rename_i hz
      obtain ⟨a1, vs, rfl, p1, r1⟩ := qx.lstV R e1
      obtain ⟨a2, us, rfl, p2, r2⟩ := qy.lstV R e2
      refine op_cat pins s σ w.hp _ _ v u Q I rx ry ⟨_, _, _, _, rfl, rfl, p1, p2, by rw [← r1.length, ← r2.length]; exact hz, fun p hp => ?_⟩
      exact Post.put P R hp (.lst (put_st R hp) ((r1.append r2).ext (put_ext R hp).toEx0))
    · exact False.elim P
  · exact om_add pins s σ w.hp _ _ v u Q I rx ry ⟨w, dx, dy, E, rfl, R, qx, qy, P⟩
theorem re_binS {op : Operator} {f : Store → D → D → Option D} (ho : OpR X (binaryOp op) (OpMS X f)) (ha : RE X W a ma) (hb : RE X W b mb) : RE X W (.BinOp a op b pos) (eBinS f ma mb) := pe_imp (pe_op ho ha hb) t_binS
def fDivmodW : Store → List D → Option D
  | _, [.int i, .int j] => if 0 < j ∧ j.natAbs.log2 < 9000 then some (.tup [.int (i / j), .int (i % j)]) else none
  | _, _ => none
theorem call_divmodW : CallR X (.builtin "divmod") (fun xs H Q => ∃ i j, xs = [.int i, .int j] ∧ (0 < j ∧ j.natAbs.log2 < 9000) ∧ ∀ p, H p = none → Q (.ref p) (upd H p (.tup [.int (i / j), .int (i % j)]))) := by
  intro pins s σ H xs us Q I r h
  obtain ⟨i, j, rfl, ⟨h1, h2⟩, q⟩ := h
  obtain ⟨u, w', rfl, ⟨t, rfl⟩, ⟨t', rfl⟩⟩ := vals2 r
  refine PyProof.Rows.divmod_int (by omega) ?_ (.inl (PyProof.noPylong_of_log2 h2))
  rw [Int.fdiv_eq_ediv_of_nonneg i (by omega), Int.fmod_eq_emod_of_nonneg i (by omega)]
  have hn : H s.heap.objs.size = none := I.hok.fresh (Nat.le_refl _)
  refine ⟨.ref s.heap.objs.size, _, ?_, rfl, q _ hn⟩
  refine I.laid (fun b o e => Heap.get?_push_of_some _ e) (Nat.le_refl _) ⟨by simp only [List.length_cons, List.length_nil]; rw [sizeLine_eq]; decide, [.int (i / j) s.toks, .int (i % j) (s.toks + 1)], .cons ⟨_, rfl⟩ (.cons ⟨_, rfl⟩ .nil), ?_⟩
  exact ⟨_, Heap.get?_push_size s.heap rfl, rfl, 0, rfl⟩
theorem cm_divmodW : CallR X (.builtin "divmod") (CaM X fDivmodW) := by
  intro pins s σ H xs us Q I r h
  obtain ⟨w, ds, E, rfl, R, q, P⟩ := h
  unfold fDivmodW at P
  split at P
  · split at P
    · rename_i hj
      obtain ⟨v, v', rfl, rv, rv'⟩ := q.two_inv
      cases rv; cases rv'
      exact call_divmodW pins s σ w.hp _ us Q I r ⟨_, _, rfl, hj, fun p hp => Post.put P R hp (.tup (.inl (put_st R hp).o) (.cons (.int _) (.cons (.int _) .nil)))⟩
    · exact False.elim P
  · exact False.elim P
def inS (i z : Str) : Bool := match i.cps.toList with
  | [c] => decide (c ∈ z.cps.toList)
  | _ => !(Builtin.Str.occurrences z i 0 z.length 1).isEmpty
theorem one_sign {i : Str} {c : Nat} (h : i.cps.toList = [c]) : i = ⟨#[c]⟩ := by
  obtain ⟨cps⟩ := i
  congr 1
  apply Array.ext'
  exact h
def dIn (neg : Bool) (S : Store) (x y : D) : Option D := match y with
  | .str z => match x with
    | .str i => some (.bl (if neg then !inS i z else inS i z))
    | _ => none
  | _ => none
theorem om_in : OpR X (compareOp .In) (OpMS X (dIn false)) := by
  intro pins s σ H x y v u Q I rx ry h
  obtain ⟨w, dx, dy, E, rfl, R, qx, qy, P⟩ := h
  unfold dIn at P
  split at P
  · split at P
    · rename_i z i
      cases qx; cases qy
      rw [if_neg Bool.false_ne_true] at P
      unfold inS at P
      split at P
      · rename_i ch hc
        have e := one_sign hc
        subst e
        exact op_in_sign pins s σ w.hp _ _ v u Q I rx ry ⟨_, _, rfl, rfl, Post.now P R (.bl _)⟩
      · exact op_in_str pins s σ w.hp _ _ v u Q I rx ry ⟨_, _, rfl, rfl, Post.now P R (.bl _)⟩
    · exact False.elim P
  · exact False.elim P
theorem re_cmpS {op : CmpOp} {f : Store → D → D → Option D} (ho : OpR X (compareOp op) (OpMS X f)) (ha : RE X W a ma) (hb : RE X W b mb) (hm : behindInMarks op b = false := by rfl) : RE X W (.Compare a [op] [b] pos) (eBinS f ma mb) := pe_imp (pe_cmpR ho ha hb hm) t_binS
theorem rt_cmpS {op : CmpOp} {f : Store → D → D → Option D} (ho : OpR X (compareOp op) (OpMS X f)) (ha : RE X W a ma) (hb : RE X W b mb) (hm : behindInMarks op b = false := by rfl) : RT X W (.Compare a [op] [b] pos) (tB (eBinS f ma mb)) := by
  refine pt_imp (pt_cmpR ho ha hb hm) ?_
  rintro s H Q ⟨w, en, rfl, R, E, P⟩
  refine t_binS s w.hp _ ⟨w, en, rfl, R, E, (Post.bind P).imp ?_⟩
  rintro v H1 ⟨w1, x, rfl, X1, R1, rx, P1⟩
  cases x with
  | bl b => cases rx; exact ⟨b, rfl, Post.now P1 R1 rfl⟩
  | _ => exact False.elim P1
end
end G
namespace G
open PySem L2 PySem.Spec PyProof.Rows
def ownCs : List Nat := [33, 34, 35, 36, 37, 38, 39, 40, 41, 42, 43, 44, 45, 46]
def isO (cn : Nat) (S : Store) (d : D) : Option Bool := match tyD S d with
  | some _ => some false
  | none => match insD S d with
    | some (c, _) => if ownCs.contains c then some (c == cn) else none
    | none => none
section
variable {X : Cx} {W : WX} {a b c e o : Expr} {es : List Expr} {ma mb mc me : EM} {ta tb : TM} {pos : Pos} {x : Str} {p : Pos} {j k : Nat}
def eIsO (cn : Nat) (m : EM) : EM := fun e S => (m e S).bind fun x S1 => lf ((isO cn S1 x).map .bl) S1
end
end G
namespace G
open PySem L2 PySem.Spec PyProof.Rows
section
variable {X : Cx} {W : WX} {pos : Pos}
def starR (i : Nat) (r : GMs) (l : List D) (e : En) (S : Store) : Res En := if i ≤ l.length then r (l.take i ++ [.lst (l.drop i)]) e S else .stuck
def gStr (i : Nat) (r : GMs) : GM := fun d e S => match d with
  | .tup l => starR i r l e S
  | .lst l => starR i r l e S
  | .scr l => starR i r l e S
  | .loc n => match S[n]? with
    | some (.lst l) => starR i r l e S
    | _ => .stuck
  | _ => .stuck
end
end G
namespace G
open PySem L2 PySem.Spec
section
variable {X : Cx} {W : WX} {a b c e o : Expr} {es : List Expr} {ma mb mc me : EM} {ta tb : TM} {pos apos : Pos} {x : Str} {p : Pos} {j k cn n : Nat} {ps ks : List Str} {f : FM} {gD : List D → List D → List D}
def eMeth (cn : Nat) (f : FM) (gD : List D → List D → List D) (n l : Nat) (mo : EM) (m mk : AM) : EM := fun e S => (mo e S).bind fun x S0 => if isCn cn S0 x = true then (m e S0).bind fun ds S1 => (mk e S1).bind fun zs S2 => if ds.length = n ∧ zs.length = l then f (gD (x :: ds) zs) S2 else .stuck else .stuck
def eMethK (cn : Nat) (f : FM) (gD : List D → List D → List D) (l : Nat) (mo : EM) (mk : AM) : EM := fun e S => (mo e S).bind fun x S0 => if isCn cn S0 x = true then (mk e S0).bind fun zs S2 => if zs.length = l then f (gD [x] zs) S2 else .stuck else .stuck
def eMeth0 (cn : Nat) (f : FM) (gD : List D → List D → List D) (mo : EM) : EM := fun e S => (mo e S).bind fun x S0 => if isCn cn S0 x = true then f (gD [x] []) S0 else .stuck
end
end G
namespace G
open PySem L2 PySem.Spec PyProof.Rows
def keyD : D → Option Key
  | .int i => some (.inl i)
  | .str x => some (.inr x)
  | _ => none
def putKD (kvs : List (Key × D)) (k : Key) (v : D) : List (Key × D) :=
  if (kvs.any fun kv => decide (kv.1 = k)) = true then kvs.map (fun kv => if kv.1 = k then (kv.1, v) else kv) else kvs ++ [(k, v)]
def dropKD (kvs : List (Key × D)) (k : Key) : List (Key × D) := kvs.filter fun kv => decide (kv.1 ≠ k)
def dkD (S : Store) : D → Option (Nat × List (Key × D))
  | .loc n => match S[n]? with
    | some (.dk l) => some (n, l)
    | _ => none
  | _ => none
section
variable {K : PySem.W.Frag} {mg : Str → Option Value} {w : Wo}
theorem RepK.any {k : Key} {kvs : List (Key × D)} {us : List (Key × V)} : RepK Key K mg w kvs us → (kvs.any fun kv => decide (kv.1 = k)) = (us.any fun kv => decide (kv.1 = k))
  | .nil => rfl
  | .cons _ t => by rw [List.any_cons, List.any_cons, RepK.any t]
theorem RepK.app {κ : Type} {kvs ls : List (κ × D)} {us zs : List (κ × V)} : RepK κ K mg w kvs us → RepK κ K mg w ls zs → RepK κ K mg w (kvs ++ ls) (us ++ zs)
  | .nil, h => h
  | .cons r t, h => .cons r (RepK.app t h)
theorem RepK.upd {k : Key} {d : D} {v : V} (q : RepD K mg w d v) {kvs : List (Key × D)} {us : List (Key × V)} : RepK Key K mg w kvs us → RepK Key K mg w (kvs.map fun kv => if kv.1 = k then (kv.1, d) else kv) (us.map fun kv => if kv.1 = k then (kv.1, v) else kv)
  | .nil => .nil
  | @RepK.cons _ _ _ _ f d' v' l vs r t => by
    rw [List.map_cons, List.map_cons]
    by_cases e : f = k
    · rw [if_pos (by exact e), if_pos (by exact e)]; exact .cons q (RepK.upd q t)
    · rw [if_neg (by exact e), if_neg (by exact e)]; exact .cons r (RepK.upd q t)
theorem RepK.put {k : Key} {d : D} {v : V} (q : RepD K mg w d v) {kvs : List (Key × D)} {us : List (Key × V)} (h : RepK Key K mg w kvs us) : RepK Key K mg w (putKD kvs k d) (putK us k v) := by
  unfold putKD putK
  rw [h.any]
  split
  · exact h.upd q
  · exact h.app (.cons q .nil)
theorem RepK.drop {k : Key} {kvs : List (Key × D)} {us : List (Key × V)} : RepK Key K mg w kvs us → RepK Key K mg w (dropKD kvs k) (dropK us k)
  | .nil => .nil
  | @RepK.cons _ _ _ _ f d' v' l vs r t => by
    unfold dropKD dropK
    rw [List.filter_cons, List.filter_cons]
    by_cases e : f = k
    · rw [if_neg (by simp [e]), if_neg (by simp [e])]; exact RepK.drop t
    · rw [if_pos (by simp [e]), if_pos (by simp [e])]; exact .cons r (RepK.drop t)
end
section
variable {X : Cx} {W : WX} {a b c e o f : Expr} {es : List Expr} {ma mb mc me : EM} {ta tb : TM} {pos apos cpos : Pos}
def eNewD : EM := fun _ S => .ok (.loc S.length) (S ++ [.dk []])
def setE (S : Store) (o i d : D) : Option Store := match dkD S o with
  | some (n, kvs) => match keyD i with
    | some k => if kvs.length < sizeLine then some (S.set n (.dk (putKD kvs k d))) else none
    | none => none
  | none => setD S o i d
def gSbE (o i : EM) : GM := fun d e S => (noX (o e S)).bind fun x S1 => (noX (i e S1)).bind fun y S2 => match setE S2 x y d with
  | some S3 => .ok e S3
  | none => .stuck
def dgR (S : Store) (x y z : D) : Res D := match dkD S x, keyD y with
  | some (_, kvs), some k => .ok ((valD kvs k).getD z) S
  | _, _ => .stuck
def eDGet2 (mo my mx : EM) : EM := fun e S => (mo e S).bind fun x S1 => if (dkD S1 x).isSome = true then (my e S1).bind fun y S2 => (mx e S2).bind fun z S3 => dgR S3 x y z else .stuck
def eDGet1 (mo my : EM) : EM := fun e S => (mo e S).bind fun x S1 => if (dkD S1 x).isSome = true then (my e S1).bind fun y S2 => dgR S2 x y .non else .stuck
def dpR (S : Store) (x y : D) (z : Option D) : Res D := match dkD S x, keyD y with
  | some (n, kvs), some k => match valD kvs k, z with
    | some d, _ => .ok d (S.set n (.dk (dropKD kvs k)))
    | none, some z => .ok z S
    | none, none => .stuck
  | _, _ => .stuck
def eDPop2 (mo my mx : EM) : EM := fun e S => (mo e S).bind fun x S1 => if (dkD S1 x).isSome = true then (my e S1).bind fun y S2 => (mx e S2).bind fun z S3 => dpR S3 x y (some z) else .stuck
def eDPop1 (mo my : EM) : EM := fun e S => (mo e S).bind fun x S1 => if (dkD S1 x).isSome = true then (my e S1).bind fun y S2 => dpR S2 x y none else .stuck
end
end G
namespace G
open PySem L2 PySem.Spec PyProof.Rows
def insI (i : Int) : List Int → List Int
  | [] => [i]
  | j :: l => if i < j then i :: j :: l else if i = j then j :: l else j :: insI i l
def srtI : List Int → List Int
  | [] => []
  | i :: l => insI i (srtI l)
def intL : List D → Option (List Int)
  | [] => some []
  | .int i :: l => (intL l).map (i :: ·)
  | _ :: _ => none
def lstD (S : Store) : D → Option (List D)
  | .lst l => some l
  | .scr l => some l
  | .loc n => match S[n]? with
    | some (.lst l) => some l
    | _ => none
  | _ => none
section
variable {X : Cx} {W : WX} {a : Expr} {ma : EM} {pos pos2 p p2 : Pos}
def ssD (S : Store) (x : D) : Option D := ((lstD S x).bind intL).bind fun ns => if ns.length < 64 then some (.lst ((srtI ns).map .int)) else none
def eSortSet (m : EM) : EM := fun e S => (m e S).bind fun x S1 => lf (ssD S1 x) S1
end
end G
namespace G
open PySem L2 PySem.Spec
abbrev CM := En → Store → Res (List D × Option Nat)
def okC (p : List D × Option Nat) (S : Store) : Prop := match p.2 with
  | none => True
  | some n => S[n]? = some (.lst p.1)
open Classical in
noncomputable def fiC (ck : Store → Prop) (g : GM) (m : SM) : List D → SM
  | [] => fun e S => if ck S then .nxt e S else .stuck
  | d :: ds => fun e S => if ck S then sE (g d e S) e fun e1 S1 => match m e1 S1 with
    | .nxt e2 S2 => fiC ck g m ds e2 S2
    | .cnt e2 S2 => fiC ck g m ds e2 S2
    | .brk e2 S2 => .nxt e2 S2
    | r => r else .stuck
noncomputable def sForC (i : CM) (g : GM) (m : SM) : SM := fun e S => sE (i e S) e fun p S1 => fiC (okC p) g m p.1 e S1
open Classical in
noncomputable def lcC (ck : Store → Prop) (g : Tg) (t : TM) (m : EM) (e : En) : List D → List D → Store → Res (List D)
  | [], acc, S => if ck S then .ok acc S else .stuck
  | d :: ds, acc, S => if ck S then match g.m d e with
    | some e1 => (noX (t e1 S)).bind fun b S2 => if b then (noX (m e1 S2)).bind fun y S3 => if acc.length < sizeLine then lcC ck g t m e ds (acc ++ [y]) S3 else .stuck else lcC ck g t m e ds acc S2
    | none => .stuck else .stuck
noncomputable def eLcC (i : CM) (g : Tg) (t : TM) (m : EM) (vs : List Nat) : EM := fun e S => (i e S).bind fun p S1 => (lcC (okC p) g t m (wipeE e vs) p.1 [] S1).bind fun acc S2 => .ok (.lst acc) S2
noncomputable def eLcCN (i : CM) (g : Tg) (t : TM) (m : EM) (vs : List Nat) : EM := fun e S => (i e S).bind fun p S1 => (lcC (okC p) g t m (wipeE e vs) p.1 [] S1).bind fun acc S2 => .ok (.loc S2.length) (S2 ++ [.lst acc])
def iCel (m : EM) : CM := fun e S => (m e S).bind fun d S1 => match d with
  | .tup l => .ok (l, none) S1
  | .lst l => .ok (l, none) S1
  | .scr l => .ok (l, none) S1
  | .loc n => match S1[n]? with
    | some (.lst l) => .ok (l, some n) S1
    | _ => .stuck
  | _ => .stuck
section
variable {X : Cx} {W : WX} {a b c e o : Expr} {es : List Expr} {ma mb mc me : EM} {ta tb : TM} {pos : Pos} {m : SM}
def addN (S : Store) (x y : D) : Res D := match rsv S x, rsv S y with
  | .lst l, .lst m => if l.length + m.length ≤ sizeLine then .ok (.loc S.length) (S ++ [.lst (l ++ m)]) else .stuck
  | _, _ => .stuck
def eAddN (a b : EM) : EM := fun e S => (a e S).bind fun x S1 => (b e S1).bind fun y S2 => addN S2 x y
end
end G
namespace G
open PySem L2 PySem.Spec PyProof.Rows
section
variable {X : Cx} {W : WX} {a b e o : Expr} {es : List Expr} {ma mb mc me : EM} {pos apos : Pos} {x : Str} {p : Pos} {j k cn n : Nat} {ps ks : List Str} {f : FM} {gD : List D → List D → List D}
def fmtD : D → Option D
  | .str y => if y.length ≤ sizeLine then some (.str y) else none
  | .int i => if i.natAbs.log2 < 1920 then some (.str (toString i)) else none
  | _ => none
def eFmt (m : EM) : EM := fun e S => (m e S).bind fun x S1 => lf (fmtD x) S1
theorem re_fmt (ha : RE X W a ma) : RE X W (.FormattedValue a (-1) none pos) (eFmt ma) := by
  refine pe_imp (pe_fmt ha) ?_
  rintro s H Q ⟨w, en, rfl, R, E, P⟩
  refine ⟨w, en, rfl, R, E, (Post.bind P).imp ?_⟩
  rintro v H1 ⟨w1, x, rfl, X1, R1, rx, P1⟩
  dsimp only at P1
  unfold fmtD at P1
  split at P1
  · cases rx
    split at P1
    · rename_i hz
      exact .inl ⟨_, rfl, hz, Post.now P1 R1 (.str _)⟩
    · exact False.elim P1
  · cases rx
    split at P1
    · rename_i hz
      exact .inr ⟨_, rfl, hz, Post.now P1 R1 (.str _)⟩
    · exact False.elim P1
  · exact False.elim P1
def jsM : List EM → Str → EM
  | [], acc => fun _ S => .ok (.str acc) S
  | m :: ms, acc => fun e S => (m e S).bind fun x S1 => match x with
    | .str y => if (acc ++ y).length ≤ sizeLine then jsM ms (acc ++ y) e S1 else .stuck
    | _ => .stuck
def eJs (ms : List EM) : EM := jsM ms Str.empty
inductive RJ (X : Cx) (W : WX) : List Expr → List EM → Prop where
  | nil : RJ X W [] []
  | cons {e : Expr} {m : EM} {es : List Expr} {ms : List EM} : RE X W e m → RJ X W es ms → RJ X W (e :: es) (m :: ms)
theorem RJ.pj {es : List Expr} {ms : List EM} (h : RJ X W es ms) : PJ X es (ms.map fun m => tG (RepD X.K X.mg) X W m) := by
  induction h with
  | nil => exact .nil
  | cons r _ ih => exact .cons r ih
theorem t_js : ∀ (ms : List EM) (acc : Str) (s : L2.St) (H : Hp) (Q : VK), tG (RepD X.K X.mg) X W (jsM ms acc) s H Q → tJs (ms.map fun m => tG (RepD X.K X.mg) X W m) acc s H fun out H1 => Q (.str out) H1
  | [], acc, s, H, Q, h => by
    obtain ⟨w, en, rfl, R, E, P⟩ := h
    exact Post.now P R (.str _)
  | m :: ms, acc, s, H, Q, h => by
    obtain ⟨w, en, rfl, R, E, P⟩ := h
    refine ⟨w, en, rfl, R, E, (Post.bind P).imp ?_⟩
    rintro v H1 ⟨w1, x, rfl, X1, R1, rx, P1⟩
    dsimp only at P1
    split at P1
    · cases rx
      split at P1
      · rename_i hz
        exact ⟨_, rfl, hz, t_js ms _ s w1.hp Q ⟨w1, en, rfl, R1, E.ext X1.toEx0, P1⟩⟩
      · exact False.elim P1
    · exact False.elim P1
theorem re_js {v1 v2 : Expr} {rest : List Expr} {ms : List EM} (h : RJ X W (v1 :: v2 :: rest) ms) : RE X W (.JoinedStr (v1 :: v2 :: rest) pos) (eJs ms) :=
  pe_imp (pe_joined h.pj) fun s H Q q => t_js ms Str.empty s H Q q
def fStr : Store → List D → Option D
  | _, [.int i] => if i.natAbs.log2 < 1920 then some (.str (toString i)) else none
  | _, [.str a] => some (.str a)
  | _, _ => none
theorem cm_str : CallR X (.type "str") (CaM X fStr) := by
  intro pins s σ H xs us Q I r h
  obtain ⟨w, ds, E, rfl, R, q, P⟩ := h
  unfold fStr at P
  split at P
  · obtain ⟨v, rfl, rv⟩ := q.one_inv
    cases rv
    split at P
    · rename_i hz
      exact call_str_int pins s σ w.hp _ us Q I r ⟨_, rfl, hz, Post.now P R (.str _)⟩
    · exact False.elim P
  · obtain ⟨v, rfl, rv⟩ := q.one_inv
    cases rv
    exact SkE.call_str_str pins s σ w.hp _ us Q I r ⟨_, rfl, Post.now P R (.str _)⟩
  · exact False.elim P
def strOf (r : Res D) : Res D := r.bind fun y S1 => match y with
  | .str t => .ok (.str t) S1
  | _ => .stuck
def eStrO (cn : Nat) (f : FM) (gD : List D → List D → List D) (m : EM) : EM := fun e S => (aCons m aNil e S).bind fun ds S0 => match ds with
  | [x] => if isCn cn S0 x = true then strOf (f (gD [x] []) S0) else .stuck
  | _ => .stuck
def dAddE (S : Store) (x y : D) : Option D := match x, y with
  | .tup [], .tup m => some (.tup m)
  | _, _ => dAddS S x y
end
def tbR (rs : List Nat) (c : Nat) : Nat → Option Bool := fun n => if rs.contains n = true then some (subC n c) else none
theorem tbR_cases {rs : List Nat} {c cn : Nat} {q : Bool} (e : tbR rs c cn = some q) : cn ∈ rs ∧ q = subC cn c := by
  unfold tbR at e
  split at e
  · rename_i h
    exact ⟨by simpa using h, (Option.some.inj e).symm⟩
  · cases e
section
variable {K : PySem.W.Frag} {h : Heap} {mg : Str → Option Value}
theorem kit_atR (X : K.In h) (Y : h.Ns mainGlobals mg) {ns : List Nat} {c : Nat} {D : PySem.W.Frag → Value} (c0 : exsB ns K = true) (ck : kitB D (ns.map fun n => (n, subC n c)) K = true) :
    ∀ (cn : Nat) (C : Addr) (q : Bool), tbR ns c cn = some q → mg (cname cn) = some (.ref C) → ExcC K C ∧ PySem.W.kitOne K (.ref C) (D K) = some q := fun cn C q h1 h2 => by
  obtain ⟨hl, rfl⟩ := tbR_cases h1
  obtain ⟨g1, g2⟩ := He.ba (List.all_eq_true.mp c0 cn hl)
  cases (glo_one X Y g1).symm.trans h2
  have z : kitO K (D K) (cn, subC cn c) = true := List.all_eq_true.mp ck (cn, subC cn c) (List.mem_map.mpr ⟨cn, hl, rfl⟩)
  exact ⟨exqB_ok g2, of_decide_eq_true z⟩
theorem exm_atR (X : K.In h) (Y : h.Ns mainGlobals mg) {ns : List Nat} {c : Nat} {y : Str} (c0 : exsB ns K = true) (ck : exmB y (ns.map fun n => (n, subC n c)) K = true) :
    ∀ (cn : Nat) (C : Addr) (q : Bool), tbR ns c cn = some q → mg (cname cn) = some (.ref C) → PySem.W.exmOne K (.ref C) (.ref (He.ga K y)) = some q := fun cn C q h1 h2 => by
  obtain ⟨hl, rfl⟩ := tbR_cases h1
  obtain ⟨g1, g2⟩ := He.ba (List.all_eq_true.mp c0 cn hl)
  cases (glo_one X Y g1).symm.trans h2
  have z : exmO K y (cn, subC cn c) = true := List.all_eq_true.mp ck (cn, subC cn c) (List.mem_map.mpr ⟨cn, hl, rfl⟩)
  exact of_decide_eq_true z
end
end G
namespace G
open PySem L2 PySem.Spec
def ph4 : List Str := [⟨#[0]⟩, ⟨#[1]⟩, ⟨#[2]⟩, ⟨#[3]⟩, ⟨#[4]⟩, ⟨#[5]⟩]
theorem ph_by {sc : Scope} (h : (ph4.all fun y => (sc.names.lookup y).isNone) = true) : ∀ y ∈ ph4, ¬ Vis sc y := by
  intro y hy hv
  have z := List.all_eq_true.mp h y hy
  have z : sc.names.lookup y = none := Option.isNone_iff_eq_none.mp z
  rcases hv with k | k | k <;> rw [z] at k <;> cases k
open Classical in
noncomputable def eCallV (i f nN : Nat) (cp : List (Option D)) (fk : FM) (m : AM) : EM := fun en S => if en[i]? = some (some (.fa f)) ∧ en.drop nN = cp then (m en S).bind fk else .stuck
structure Act (Z : Cx) (a : Str) (i f nN : Nat) (cp : List (Option D)) (fk : FM) (k : Nat) : Prop where
  one : ∀ {pn : List (Addr × Obj)} {xe : Value → Shared → Prop} {W : WX} {j : Nat}, Cg (Z.tr pn xe) W j → k ≤ j → ∀ {e : Expr} {m : AM} {p1 p2 : Pos}, RA (Z.tr pn xe) W [e] m → starEach [e] Z.env = (false, eval e Z.env) :: starEach [] Z.env →
    RE (Z.tr pn xe) W (.Call (.Name a p1) [e] [] p2) (eCallV i f nN cp fk m)
  zero : ∀ {pn : List (Addr × Obj)} {xe : Value → Shared → Prop} {W : WX} {j : Nat}, Cg (Z.tr pn xe) W j → k ≤ j → ∀ {p1 p2 : Pos}, RE (Z.tr pn xe) W (.Call (.Name a p1) [] [] p2) (eCallV i f nN cp fk aNil)
section
variable {X : Cx} {W : WX} {a b c e o : Expr} {es : List Expr} {ma mb mc me : EM} {pos : Pos} {x : Str} {p : Pos} {j k : Nat} {ps ks : List Str} {f : FM}
theorem slot_w {i fv : Nat} {nm : Str} {w : Wo} {en : En} {pins : List (Addr × Obj)} {s : Shared} {σ : L2.St} {Q : Value → Shared → Prop} (hN : X.N[i]? = some nm) (hv : Vis X.env.scope nm) (hd : (nm == ("__debug__" : Str)) = false) (hcd : (nm == ("__classdict__" : Str)) = false)
    (I : L2.Inv X pins σ w.hp s) (E : RepE X.K X.mg w en σ) (h : en[i]? = some (some (.fa fv))) (hq : ∀ s1, L2.Inv X pins σ w.hp s1 → Q (.ref fv) s1) : wpAny (model X.prog X.w) X.A (eval (.Name nm p) X.env) Q X.xe s := by
  obtain ⟨v, hs, rv⟩ := E.get i _ h
  cases rv
  refine thn ((pe_var (pos := p) (i := i) hN hv hd hcd).run pins s σ w.hp (fun v H1 => v = .ref fv ∧ H1 = w.hp) I ⟨.ref fv, hs, rfl, rfl⟩) ?_
  rintro u s1 ⟨v, H1, I1, r1, rfl, rfl⟩
  obtain rfl : u = Value.ref fv := r1
  exact hq s1 I1
end
def fnH (n : Nat) (cp : List (Option D)) (m : SM) : FM := fun ds S => match m (enOf n ds ++ cp) S with
  | .nxt _ S' => .ok .non S'
  | .ret d S' => .ok d S'
  | .exc x _ S' => .exc x S'
  | _ => .stuck
section
variable {P : Program} {w0 : World} {K : PySem.W.Frag} {mg : Str → Option Value} {base : Heap}
theorem inv_slots {X : Cx} {pins : List (Addr × Obj)} {σ σ' : List (Option V)} {H : Hp} {s : Shared} (I : L2.Inv X pins σ H s) (hl : σ'.length = σ.length) (h : ∀ (i : Nat) (v : V), σ'[i]? = some (some v) → σ[i]? = some (some v) ∨ ∀ y, X.N[i]? = some y → ¬ Vis X.env.scope y) : L2.Inv X pins σ' H s := by
  obtain ⟨m, hn, hloc⟩ := I.loc
  refine { I with loc := ⟨m, hn, fun i y v e1 e2 e3 => ?_⟩, len := hl.trans I.len }
  rcases h i v e2 with q | q
  · exact hloc i y v e1 q e3
  · exact absurd e3 (q y e1)
theorem RepE.join {w : Wo} {e1 e2 : En} {s1 s2 : L2.St} (h1 : RepE K mg w e1 s1) (h2 : RepE K mg w e2 s2) : RepE K mg w (e1 ++ e2) (s1 ++ s2) := by
  refine ⟨by rw [List.length_append, List.length_append, h1.len, h2.len], fun i d g => ?_⟩
  by_cases hi : i < e1.length
  · rw [List.getElem?_append_left hi] at g
    obtain ⟨v, q, r⟩ := h1.get i d g
    exact ⟨v, by rw [List.getElem?_append_left (by rw [← h1.len]; exact hi)]; exact q, r⟩
  · rw [List.getElem?_append_right (by omega)] at g
    obtain ⟨v, q, r⟩ := h2.get _ d g
    exact ⟨v, by rw [List.getElem?_append_right (by rw [← h1.len]; omega), ← h1.len]; exact q, r⟩
structure FnH (P : Program) (w0 : World) (K : PySem.W.Frag) (mg : Str → Option Value) (base : Heap) (k : Nat) (f : Addr) (fd : FuncData) (N : List Str) (qual : Str) (scope : Scope) (ps : List Str) (a : Str) (i : Nat) (m : Nat → List (Option D) → FM → FM) : Prop where
  run : ∀ (A : Around) (outer : List Env) (s : Shared) (H : Hp) (args : Args) (us : List Value) (vs : List V) (Q : VK) (E : XK) (fv : Nat) (cp : List (Option D)) (cv : List (Option V)) (fk : FM), RoomG (k + 1) A → Env0 P w0 K mg base A outer s H → BindsTo s fd args (ps.zip us) → Vals vs us → vs.length = ps.length → cp.length = 6 →
    (∀ cdv, Act (cxOf (L2.CX P w0) P w0 K mg base (N ++ ph4) qual scope f cdv A outer s H E) a i fv N.length cp fk k) →
    (∃ w ds, w.hp = H ∧ Rep K mg w ∧ RepL K mg w ds vs ∧ RepE K mg w cp cv ∧ Post (RepD K mg) K mg w (m fv cp fk ds w.st) Q E) → codeAny (model P w0) A (.call (.ref f) args) (CR (L2.CX P w0) outer P w0 H s Q E) s
theorem def_okH {x qual : Str} {st : Stmt} {f : Addr} {fd : FuncData} {N ps : List Str} {k i : Nat} {a : Str} {m : Nat → List (Option D) → FM → SM} {dvs : List V} {kws : List (Str × V)} (F : FunD K x qual (defArgs st) (defBody st) (defScope st) dvs kws f fd) (S : FnScope (N ++ ph4) ps (defScope st)) (hps : ps.length ≤ N.length) (hph : ∀ y ∈ ph4, ¬ Vis (defScope st) y)
    (hbody : ∀ (cdv : Value) (A : Around) (outer : List Env) (s : Shared) (H : Hp) (E : XK) (fv : Nat) (cp : List (Option D)) (fk : FM), Cg (cxOf (L2.CX P w0) P w0 K mg base (N ++ ph4) qual (defScope st) f cdv A outer s H E) (fun cls d _ H' => E cls d H') k →
      Act (cxOf (L2.CX P w0) P w0 K mg base (N ++ ph4) qual (defScope st) f cdv A outer s H E) a i fv N.length cp fk k →
      RSs (cxOf (L2.CX P w0) P w0 K mg base (N ++ ph4) qual (defScope st) f cdv A outer s H E) (fun cls d _ H' => E cls d H') (defBody st) (m fv cp fk)) :
    FnH P w0 K mg base k f fd N qual (defScope st) ps a i (fun fv cp fk => fnH N.length cp (m fv cp fk)) := by
  obtain ⟨oc, od, dV, kV, doc, pm, an, cdv, ct, osl, rfl, lk, hcd, _, _⟩ := F.ex
  constructor
  intro A outer s H args us vs Q E fv cp cv fk rm env bnd rel hlv hcl hact hs
  have inn : K.In s.heap := env.mod.kin.keeps fun a o q => (env.bs a o q).1
  have nol : s.heap.NoLimit := env.mod.nolimit.keeps fun a o q => (env.bs a o q).1
  apply codeAny_call_function rm.r.depth (inn _ _ lk) rfl S.co S.gen rfl (PySem.W.codeRec_of inn hcd)
  apply bnd
  apply wpAny_newFunctionEnv_cells S.kind
  · rintro ⟨n, u⟩ hn
    exact (S.par n (List.of_mem_zip hn).1).imp id fun q => ⟨q, PySem.W.cellsFrom_some _ _ _ (.inl q)⟩
  rintro _ rfl s1 nw
  constructor
  · exact nol.keeps nw.toInCall.keep
  have hI := inv_start (CX := L2.CX P w0) (E := E) S rm.r.hd env hlv rel nw
  obtain ⟨w, ds, rfl, R, rl, rc, P1⟩ := hs
  have hcv : cv.length = 6 := by rw [← rc.len]; exact hcl
  have hst : start (N ++ ph4) vs = start N vs ++ List.replicate 6 none := by
    unfold L2.start
    rw [List.append_assoc, List.replicate_append_replicate]
    congr 2
    rw [List.length_append]
    show N.length + 6 - vs.length = N.length - vs.length + 6
    omega
  have hln : (start N vs).length = N.length := by unfold L2.start; simp; omega
  have hI2 : L2.Inv (cxOf (L2.CX P w0) P w0 K mg base (N ++ ph4) qual (defScope st) f cdv A outer s w.hp E) [] (start N vs ++ cv) w.hp s1 := by
    refine inv_slots hI (by rw [hst]; simp [hcv]) fun i v g => ?_
    by_cases hi : i < N.length
    · left
      rw [hst, List.getElem?_append_left (by rw [hln]; exact hi)]
      rw [List.getElem?_append_left (by rw [hln]; exact hi)] at g
      exact g
    · right
      intro y hy
      have hy : (N ++ ph4)[i]? = some y := hy
      rw [List.getElem?_append_right (by omega)] at hy
      exact hph y (List.mem_of_getElem? hy)
  have c : Cg (cxOf (L2.CX P w0) P w0 K mg base (N ++ ph4) qual (defScope st) f cdv A outer s w.hp E) (fun cls d _ H' => E cls d H') k := ⟨rfl, S.nd, takes_of rfl rfl rfl rfl, passes_of rfl, ⟨rm.r.deeper _, fun q => rm.gd (Nat.le_succ_of_le q)⟩, rfl, rfl, rfl⟩
  have ht := hbody cdv A outer s w.hp E fv cp fk c (hact cdv)
  apply codeAny_func
  refine wpAny_mono (ht.run [] s1 _ w.hp { nx := fun _ H' => Q .non H', rt := Q } hI2 ⟨w, enOf N.length ds ++ cp, rfl, R, (RepE.start rl N).join rc, ?_⟩) ?_ fun _ _ z => z
  · unfold fnH at P1
    cases q : m fv cp fk (enOf N.length ds ++ cp) w.st with
    | nxt e S => rw [q] at P1; exact fun w1 s1 x1 R1 st1 _ => P1 w1 .non x1 R1 st1 .non
    | ret d S => rw [q] at P1; exact P1
    | brk e S => rw [q] at P1; exact False.elim P1
    | cnt e S => rw [q] at P1; exact False.elim P1
    | exc y e S => rw [q] at P1; exact fun w1 s1 c1 d1 x1 R1 st1 _ rx => P1 w1 c1 d1 x1 R1 st1 rx
    | stuck => rw [q] at P1; exact P1
  · intro fl s' z
    cases fl with
    | next => obtain ⟨st, H', J, q⟩ := z; exact ⟨V.non, H', J.os, J.bare, J.base, J.hok, rfl, q⟩
    | ret u => obtain ⟨v, st, H', J, rv, q⟩ := z; exact ⟨v, H', J.os, J.bare, J.base, J.hok, rv, q⟩
    | brk => exact False.elim z.choose_spec.choose_spec.2
    | cont => exact False.elim z.choose_spec.choose_spec.2
end
end G
namespace G
open PySem L2 PySem.Spec
inductive RP (X : Cx) (W : WX) : List Expr → AM → Prop where
  | nil : RP X W [] aNil
  | cons {e : Expr} {ma : EM} {es : List Expr} {mr : AM} : RE X W e ma → RP X W es mr → RP X W (e :: es) (aCons ma mr)
noncomputable def uniR {α : Type} [Inhabited α] (F : α → Res D) : Res D := by
  classical exact if ∀ a b, F a = F b then F default else .stuck
theorem uniR_ok {α : Type} [Inhabited α] {F : α → Res D} {r : Res D} (h : ∀ a, F a = r) : uniR F = r := by
  unfold uniR
  rw [if_pos fun a b => (h a).trans (h b).symm]
  exact h _
def oj (o : Option (Option D)) : Option D := match o with
  | some (some d) => some d
  | _ => none
def cpOf (js : List Nat) (en : En) (vs : List V) : List (Option D) := ((js.zip vs).map fun q => (oj en[q.1]?).map (D.pin q.2)) ++ List.replicate (6 - js.length) none
section
variable {X : Cx} {W : WX} {a b c e l : Expr} {es : List Expr} {ma mb mc me : EM} {pos : Pos} {x : Str} {p : Pos} {j k : Nat} {ps ks : List Str} {f : FM}
theorem spl_run {m : AM} {l : Expr} {pins : List (Addr × Obj)} {σ : L2.St} (hp : RP X W es m) : ∀ {s : Shared} {w0 w : Wo} {en : En} {k : List D → Store → Res D} {QD : VK} {G : List Value → Shared → Prop}, L2.Inv X pins σ w.hp s → Rep X.K X.mg w → RepE X.K X.mg w en σ → Ext w0 w →
    Post (RepD X.K X.mg) X.K X.mg w ((m en w.st).bind k) QD (fun cls dd H' => W cls dd σ H') →
    (∀ (us : List Value) (vs : List V) (ds : List D) (s1 : Shared) (w1 : Wo), L2.Inv X pins σ w1.hp s1 → Rep X.K X.mg w1 → RepE X.K X.mg w1 en σ → Ext w0 w1 → Vals vs us → RepL X.K X.mg w1 ds vs → Post (RepD X.K X.mg) X.K X.mg w1 (k ds w1.st) QD (fun cls dd H' => W cls dd σ H') → wpAny (model X.prog X.w) X.A (eval l X.env) (fun v s2 => G (us ++ [v]) s2) X.xe s1) →
    wpAny (model X.prog X.w) X.A (spliced (es.map (fun e => (false, eval e X.env)) ++ [(false, eval l X.env)])) G X.xe s := by
  induction hp with
  | nil =>
    intro s w0 w en k QD G I R E X0 P h
    refine Calls.spliced_cons (thn (h [] [] [] s w I R E X0 .nil .nil P) fun v s2 q => Calls.spliced_nil q)
  | @cons e ma es mr he hr ih =>
    intro s w0 w en k QD G I R E X0 P h
    have P' : Post (RepD X.K X.mg) X.K X.mg w ((ma en w.st).bind fun y S1 => (mr en S1).bind fun ys S2 => k (y :: ys) S2) QD (fun cls dd H' => W cls dd σ H') := by
      have e1 : ((aCons ma mr en w.st).bind k) = (ma en w.st).bind fun y S1 => (mr en S1).bind fun ys S2 => k (y :: ys) S2 := by
        unfold aCons
        cases ma en w.st with
        | ok y S1 => show ((mr en S1).bind _).bind k = (mr en S1).bind _; cases mr en S1 <;> rfl
        | exc _ _ => rfl
        | stuck => rfl
      rw [e1] at P
      exact P
    refine Calls.spliced_cons (thn (he.run pins s σ w.hp _ I ⟨w, en, rfl, R, E, Post.bind P'⟩) ?_)
    rintro u s1 ⟨v, H1, I1, r1, w1, y, rfl, X1, R1, ry, P1⟩
    refine ih (G := fun us s2 => G (u :: us) s2) (w0 := w1) I1 R1 (E.ext X1.toEx0) (Ext.refl w1) P1 fun us vs ds s2 w2 I2 R2 E2 X2 rv rl P2 => ?_
    exact h (u :: us) (v :: vs) (y :: ds) s2 w2 I2 R2 E2 ((X0.trans X1).trans X2) (.cons r1 rv) (.cons (ry.ext X2.toEx0) rl) P2
structure LA (X : Cx) (l : Expr) (js : List Nat) (fkM : En → FM) (tb : Store → Bool) (kk : Nat) : Prop where
  run : ∀ (pins : List (Addr × Obj)) (s : Shared) (σ : L2.St) (w : Wo) (en : En), L2.Inv X pins σ w.hp s → Rep X.K X.mg w → RepE X.K X.mg w en σ → tb w.st = true →
    wpAny (model X.prog X.w) X.A (eval l X.env) (fun u s' => ∃ (fv : Nat) (vs : List V) (w' : Wo), u = .ref fv ∧ L2.Inv X pins σ w'.hp s' ∧ Ext w w' ∧ Rep X.K X.mg w' ∧ w'.st = w.st ∧ vs.length = js.length ∧ RepE X.K X.mg w' (cpOf js en vs) (vs.map some ++ List.replicate (6 - js.length) none) ∧
      ∀ (Ng : List Str) (qg : Str) (sg : Scope) (g : Addr) (cdg : Value) (Eg : XK) (a : Str) (i : Nat), Ng[i]? = some a → Vis sg a → (a == ("__debug__" : Str)) = false → (a == ("__classdict__" : Str)) = false →
        Act (cxOf (L2.CX X.prog X.w) X.prog X.w X.K X.mg X.base (Ng ++ ph4) qg sg g cdg X.A X.stack s' w'.hp Eg) a i fv Ng.length (cpOf js en vs) (fkM en) kk) X.xe s
noncomputable def eCallH (g : Nat → List (Option D) → FM → FM) (js : List Nat) (fkM : En → FM) (tb : Store → Bool) (n : Nat) (m : AM) : EM := fun en S => (m en S).bind fun ds S1 => if tb S1 = true ∧ ds.length = n then uniR (fun q : Nat × { vs : List V // vs.length = js.length } => g q.1 (cpOf js en q.2.1) (fkM en) (ds ++ [.fa q.1]) S1) else .stuck
theorem Act.mono {Z : Cx} {a : Str} {i fv nN k k' : Nat} {cp : List (Option D)} {fk : FM} (h : Act Z a i fv nN cp fk k) (l : k ≤ k') : Act Z a i fv nN cp fk k' :=
  ⟨fun c hj => h.one c (Nat.le_trans l hj), fun c hj => h.zero c (Nat.le_trans l hj)⟩
theorem Post.uni {α : Type} [Inhabited α] {K : PySem.W.Frag} {mg : Str → Option Value} {w : Wo} {F : α → Res D} {Q : VK} {E : XK} (h : Post (RepD K mg) K mg w (uniR F) Q E) (z : α) : Post (RepD K mg) K mg w (F z) Q E := by
  unfold uniR at h
  split at h
  · rename_i hu
    rw [hu z default]; exact h
  · exact False.elim h
structure Dh (P : Program) (w0 : World) (K : PySem.W.Frag) (mg : Str → Option Value) (base : Heap) (x : Str) (ps : List Str) (k : Nat) (m : Nat → List (Option D) → FM → FM) : Prop where
  ex : ∃ f fd N qual scope a i, mg x = some (.ref f) ∧ PySem.W.keepIn K (.ref f) = true ∧ Binds K fd ps [] ∧ N[i]? = some a ∧ Vis scope a ∧ (a == ("__debug__" : Str)) = false ∧ (a == ("__classdict__" : Str)) = false ∧ FnH P w0 K mg base k f fd N qual scope ps a i m
theorem cpOf_len {js : List Nat} {en : En} {vs : List V} (h : vs.length = js.length) (h4 : js.length ≤ 6) : (cpOf js en vs).length = 6 := by
  unfold cpOf
  rw [List.length_append, List.length_map, List.length_zip, List.length_replicate, h]; omega
theorem re_callH {rest : List Expr} {js : List Nat} {fkM : En → FM} {tb : Store → Bool} {kk n : Nat} {mp : AM} {m : Nat → List (Option D) → FM → FM} (c : Cg X W j) (hF : Dh X.prog X.w X.K X.mg X.base x ps k m) (hj : k + 1 ≤ j) (hp : RP X W es mp) (hl : LA X l js fkM tb kk) (hkk : kk ≤ k) (hps : ps.length = n + 1) (hcap : js.length ≤ 6) (hg : Gl X x := by rfl) (hdb : (x == ("__debug__" : Str)) = false := by decide)
    (hargs : backTo pos (starEach (e :: rest) X.env) = es.map (fun e => (false, eval e X.env)) ++ [(false, eval l X.env)] := by rfl) (he : starEach (e :: rest) X.env = (false, eval e X.env) :: starEach rest X.env := by rfl) (hpl : (backTo pos (starEach rest X.env)).any (·.1) = false := by rfl) :
    RE X W (.Call (.Name x p) (e :: rest) [] pos) (eCallH m js fkM tb n mp) := by
  obtain ⟨fa, fd, N, qual, scope, nm, i, h1, h2, h3, hN, hv, hd, hcd, h4⟩ := hF.ex
  refine ⟨fun pins s σ H Q I h => ?_⟩
  obtain ⟨w, en, rfl, R, E, P⟩ := h
  refine wpAny_Call_Name_kw (ld_glob I hg h1 ?_ hdb)
  refine PySem.W.callWith_K (h₀ := X.base) I.ok.mod.kin h2 ?_ he hpl
  rw [hargs]
  refine spl_run hp I R E (Ext.refl w) P fun us vs ds s1 w1 I1 R1 E1 X1 rv rl P1 => ?_
  (try dsimp only at P1)
  split at P1
  · rename_i hgd
    refine thn (hl.run pins s1 σ w1 en I1 R1 E1 hgd.1) ?_
    rintro u s2 ⟨fv, cvs, w2, rfl, I2, X2, R2, st2, hcl, rc, act⟩
    have P2 := (Post.uni P1 (fv, ⟨cvs, hcl⟩)).ext X2
    dsimp only at P2
    rw [← st2] at P2
    have hlen : (vs ++ [V.ref fv]).length = ps.length := by rw [List.length_append, ← rl.length, hgd.2, hps]; rfl
    have rv2 : Vals (vs ++ [V.ref fv]) (us ++ [Value.ref fv]) := rv.append (.cons rfl .nil)
    have b := h3 s2 (us ++ [Value.ref fv]) I2.kIn (by rw [List.append_nil, ← rv2.length]; exact hlen)
    rw [List.append_nil] at b
    refine ⟨I2.kIn, wpAny_call (codeAny_mono (h4.run X.A X.stack s2 w2.hp ⟨us ++ [Value.ref fv], []⟩ (us ++ [Value.ref fv]) (vs ++ [V.ref fv]) Q (WE W σ) fv (cpOf js en cvs) _ (fkM en) (c.rm.mono hj) I2.env0 b rv2 hlen (cpOf_len hcl hcap) (fun cdv => (act N qual scope fa cdv (WE W σ) nm i hN hv hd hcd).mono hkk)
      ⟨w2, ds ++ [.fa fv], rfl, R2, (rl.ext X2.toEx0).append (.cons (.fa fv) .nil), rc, P2⟩) ?_)⟩
    intro res s' z
    cases res with
    | error y => exact passAt c.tk σ pins w2.hp s2 y s' I2 z
    | ok fl =>
      cases fl with
      | ret u => exact I2.after z
      | _ => exact False.elim z
  · exact False.elim P1
end
end G
namespace G
open PySem L2 PySem.Spec PyProof.Rows
abbrev codeZ (c : Addr) (q : Str) (o : Obj) : HO := .frz o (LamX.CodeO c q)
section
variable {X : Cx} {pins : List (Addr × Obj)} {σ : L2.St} {H : Hp} {s : Shared}
theorem inv_grow {P c : Addr} {q : Str} {ps more : Array Value} {h' : Heap} {t' : Nat} {oc : Obj} {vs : Array Value} {t : Tok} (I : L2.Inv X pins σ H s) (hP : H P = some (.tbl ps)) (k : ∀ b o, b ≠ P → s.heap.get? b = some o → h'.get? b = some o)
    (hm : h'.get? P = some { cls := .none, data := .fields (ps ++ more) }) (hc : s.heap.objs.size ≤ c) (h1 : h'.get? c = some oc) (h2 : oc.data = .fields vs) (h3 : vs[1]? = some (.str q t)) :
    L2.Inv X pins σ (upd (upd H P (.tbl (ps ++ more))) c (codeZ c q oc)) { s with heap := h', toks := t' } := by
  have J := LamX.inv_table (q := q) (t' := t') I hP k hm hc ⟨oc, vs, t, h1, h2, h3⟩
  have nC : H c = none := I.hok.fresh hc
  have nPc : P ≠ c := ne_of_none hP nC
  have same : ∀ b, b ≠ c → upd (upd H P (.tbl (ps ++ more))) c (codeZ c q oc) b = upd (upd H P (.tbl (ps ++ more))) c (LamX.CodeO c q) b := fun b hb => by rw [upd_ne hb, upd_ne hb]
  have old : ∀ b u, H b = some u → b ≠ c := fun b u e => ne_of_none e nC
  refine { J with base := ?_, free := ?_, freeC := ?_, pin := ?_, hok := ?_ }
  · have B := J.base
    refine ⟨B.keep, B.slot, fun b o e n hx => ?_, B.there, fun b xs e => ?_, fun b o u e => ?_, fun b qs e => ?_⟩
    · have z := B.free b o e n hx
      by_cases hb : b = c
      · subst hb; rw [upd_same] at z; cases z
      · rw [same b hb]; exact z
    · have z := B.tups b xs e
      by_cases hb : b = c
      · subst hb; rw [upd_same] at z; unfold LamX.CodeO at z; cases z
      · rw [same b hb]; exact z
    · have z := B.frzs b o u e
      by_cases hb : b = c
      · subst hb; rw [upd_same] at z; unfold LamX.CodeO at z; cases z
      · rw [same b hb]; exact z
    · obtain ⟨mo, z⟩ := B.tbls b qs e
      by_cases hb : b = c
      · subst hb; rw [upd_same] at z; unfold LamX.CodeO at z; cases z
      · exact ⟨mo, by rw [same b hb]; exact z⟩
  · have z := J.free
    by_cases hb : X.env.locals = c
    · rw [hb, upd_same] at z; cases z
    · rw [same _ hb]; exact z
  · intro y b e
    have z := J.freeC y b e
    by_cases hb : b = c
    · subst hb; rw [upd_same] at z; cases z
    · rw [same b hb]; exact z
  · intro p hp
    obtain ⟨z1, z2, z3⟩ := J.pin p hp
    refine ⟨z1, ?_, z3⟩
    by_cases hb : p.1 = c
    · rw [hb, upd_same] at z2; cases z2
    · rw [same _ hb]; exact z2
  · intro b u e
    by_cases hb : b = c
    · subst hb
      rw [upd_same] at e
      cases e
      exact ⟨h1, ⟨oc, vs, t, h1, h2, h3⟩, ⟨oc, h1⟩, fun g1 g2 ⟨oc, vs, t, z1, z2, z3⟩ st => ⟨oc, vs, t, st _ z1, z2, z3⟩⟩
    · rw [same b hb] at e
      have z := J.hok b u e
      refine z.stay (fun d v _ q => q) (fun d q => ?_) fun d xs q => ?_
      · by_cases hd : d = c
        · subst hd; rw [upd_same] at q; unfold LamX.CodeO at q; cases q
        · rw [same d hd]; exact q
      · by_cases hd : d = c
        · subst hd; rw [upd_same] at q; unfold LamX.CodeO at q; cases q
        · rw [same d hd]; exact q
theorem lam_new {p : Str × Option Str} {q : Str} {params : Arguments} {body : Expr} {scope : Scope} {lpos : Pos} {w : Wo} {nT : Nat} {Q : Value → Shared → Prop} {E : Value → Shared → Prop} (I : L2.Inv X pins σ w.hp s) (R : Rep X.K X.mg w) (hT : w.st[nT]? = some (.tbl p q)) (hq : X.env.qual ++ "<lambda>" = q)
    (TB : LamX.TabB X.base X.mg (He.cT X.K p).1 (He.cT X.K p).2) (hcode : X.env.code = .ref (He.cT X.K p).1) (hdef : defaultsOf params X.env = ([], [])) (hfree : ∀ y ∈ scope.names, y.2 = .free → ∃ c, X.env.cells.lookup y.1 = some c)
    (h : ∀ (f c' : Addr) (oc : Obj) (pm ctv : Value) (w' : Wo) (s' : Shared), L2.Inv X pins σ w'.hp s' → Ext w w' → Rep X.K X.mg w' → w'.st = w.st → s'.heap.get? f = some (PySem.W.kla_obj "<lambda>" q params body scope (cloFrom X.env.cells scope.names []) pm c' ctv) → w'.hp f = none → f ∉ frs X.stack → w'.hp c' = some (codeZ c' q oc) → Q (.ref f) s') :
    wpAny (model X.prog X.w) X.A (eval (.Lambda params body scope lpos) X.env) Q E s := by
  subst hq
  obtain ⟨P, hal⟩ : ∃ P, w.al[nT]? = some P := by
    have hlt := (List.getElem?_eq_some_iff.mp hT).1
    rw [← R.len] at hlt
    exact ⟨_, List.getElem?_eq_getElem hlt⟩
  obtain ⟨eP, ps, hP, ht, ha⟩ := R.cell nT P _ hal hT
  have zP : Zl w P := .inl ⟨nT, _, hal, hT, by intro z; cases z⟩
  rw [← eP] at TB
  have out : ∀ f, s.heap.objs.size ≤ f → f ∉ frs X.stack := by
    intro f hf z
    rcases List.mem_cons.mp (I.stkSub _ z) with e | e
    · have h1 := I.lt
      rw [← e] at h1
      exact Nat.lt_irrefl _ (Nat.lt_of_lt_of_le h1 hf)
    · exact I.nofs hf e
  refine PySem.W.kla_eval hdef ?_
  cases hc : codeAmong lpos ps.toList with
  | none =>
    refine PySem.W.kla_makeFunction (mg := X.mg) (P := P) (ps := ps) (closure_ok hfree) I.ok.glob (I.mod.glob.keeps I.bk) hcode (TB.code.keeps I.bk) (I.hok P _ hP) ht hc TB.gP (TB.bm.keeps I.bk) ?_
    intro c' ctv h' tk hx hge hlt hrec htb
    obtain ⟨c2, oc, vs, t, e2, hoc, hd, hv⟩ := hrec
    cases e2
    have nC : w.hp c' = none := I.hok.fresh hge
    have nPc : P ≠ c' := ne_of_none hP nC
    have I1 := inv_grow (t' := tk) (more := #[rawInt lpos.line, rawInt lpos.col, .ref c']) (h' := h'.push (PySem.W.kla_obj "<lambda>" (X.env.qual ++ "<lambda>") params body scope (cloFrom X.env.cells scope.names []) ((X.mg "__name__").getD .none) c' ctv)) I hP (fun b o hb e => Heap.get?_push_of_some _ (hx b o hb e)) (Heap.get?_push_of_some _ htb) hge (Heap.get?_push_of_some _ hoc) hd hv
    have cIn : ∀ a, a ∈ w.al → a ≠ c' := fun a h z => by
      obtain ⟨o, e⟩ := R.tr a h
      rw [z, nC] at e; cases e
    have hidIn : ∀ a, a ∈ w.hid → a ≠ c' ∧ a ≠ P := fun a h => by
      obtain ⟨h1, o, e⟩ := R.hid a h
      exact ⟨(fun z => by rw [z, nC] at e; cases e), fun z => h1 (by rw [z]; exact List.mem_of_getElem? hal)⟩
    have X1 : Ext w { w with hp := upd (upd w.hp P (.tbl (ps ++ #[rawInt lpos.line, rawInt lpos.col, .ref c']))) c' (codeZ c' (X.env.qual ++ "<lambda>") oc) } := by
      refine ⟨⟨⟨[], by simp⟩, fun a h => .inl h, fun a o e z => ?_, fun a o e => ?_⟩, rfl, fun a h => ?_, fun n a cc g1 g2 g3 => ⟨g2, ?_⟩⟩
      · show upd (upd _ _ _) _ _ a = _
        rw [upd_ne (ne_of_none e nC), upd_ne (fun q => z (by rw [q]; exact zP))]; exact e
      · by_cases hb : a = P
        · exact ⟨.tbl (ps ++ #[rawInt lpos.line, rawInt lpos.col, .ref c']), by show upd (upd _ _ _) _ _ a = _; rw [hb, upd_ne nPc, upd_same]⟩
        · exact ⟨o, by show upd (upd _ _ _) _ _ a = _; rw [upd_ne (ne_of_none e nC), upd_ne hb]; exact e⟩
      · show upd (upd _ _ _) _ _ a = _
        rw [upd_ne (hidIn a h).1, upd_ne (hidIn a h).2]
      · show upd (upd _ _ _) _ _ a = _
        rw [upd_ne (cIn a (List.mem_of_getElem? g1)), upd_ne fun z => ?_]
        subst z
        cases nd_get R.nd g1 hal
        cases g2.symm.trans hT
        cases g3
    have nzC : ¬ Zl { w with hp := upd (upd w.hp P (.tbl (ps ++ #[rawInt lpos.line, rawInt lpos.col, .ref c']))) c' (codeZ c' (X.env.qual ++ "<lambda>") oc) } c' := by
      rintro (⟨n, cc, g1, _, _⟩ | g)
      · exact cIn c' (List.mem_of_getElem? g1) rfl
      · exact (hidIn c' g).1 rfl
    have R1 : Rep X.K X.mg { w with hp := upd (upd w.hp P (.tbl (ps ++ #[rawInt lpos.line, rawInt lpos.col, .ref c']))) c' (codeZ c' (X.env.qual ++ "<lambda>") oc) } := by
      refine ⟨R.len, R.nd, fun a h => ?_, fun n a cc g1 g2 => ?_, fun a h => ?_⟩
      · obtain ⟨o, e⟩ := R.tr a h
        exact X1.tr a o e
      · by_cases hb : a = P
        · subst hb
          cases nd_get R.nd g1 hal
          cases g2.symm.trans hT
          have eL : (ps ++ #[rawInt lpos.line, rawInt lpos.col, Value.ref c']).toList = ps.toList ++ [rawInt lpos.line, rawInt lpos.col, Value.ref c'] := by simp
          refine ⟨eP, _, by show upd (upd _ _ _) _ _ a = _; rw [upd_ne nPc, upd_same], by rw [eL]; exact PySem.TriplesOk_snoc _ _ _ _ ht, fun p' cv hcv => ?_⟩
          rw [eL] at hcv
          rcases LamX.among_app _ ht hcv with z | z
          · obtain ⟨c0, o0, e1, e2, e3⟩ := ha p' cv z
            exact ⟨c0, o0, e1, X1.keep _ _ e2 e3, e3⟩
          · exact ⟨c', oc, z, upd_same, nzC⟩
        · refine (R.cell n a cc g1 g2).ext X1.toEx0 ?_
          show upd (upd _ _ _) _ _ a = _
          rw [upd_ne (cIn a (List.mem_of_getElem? g1)), upd_ne hb]
      · obtain ⟨h1, o, e⟩ := R.hid a h
        exact ⟨h1, X1.tr a o e⟩
    have hsz : s.heap.objs.size ≤ h'.objs.size := Nat.le_trans hge (Nat.le_of_lt hlt)
    refine h h'.objs.size c' oc ((X.mg "__name__").getD .none) ctv _ _ I1 X1 R1 rfl (Heap.get?_push_size _ rfl) ?_ (out _ hsz) upd_same
    show upd (upd _ _ _) _ _ _ = none
    have n2 : h'.objs.size ≠ P := Nat.ne_of_gt (Nat.lt_of_lt_of_le (Heap.lt_size (show s.heap.get? P = some _ from I.hok P _ hP)) hsz)
    rw [upd_ne (Nat.ne_of_gt hlt), upd_ne n2]
    exact I.hok.fresh hsz
  | some cv =>
    obtain ⟨c', oc, rfl, hco, _⟩ := ha lpos cv hc
    refine PySem.W.kla_makeFunctionHit (mg := X.mg) (P := P) (ps := ps) (closure_ok hfree) I.ok.glob (I.mod.glob.keeps I.bk) hcode (TB.code.keeps I.bk) (I.hok P _ hP) ht hc (TB.bm.keeps I.bk) ?_
    intro ctv h' tk hx hsz
    exact h h'.objs.size c' oc ((X.mg "__name__").getD .none) ctv w _ (I.kept fun b o e => Heap.get?_push_of_some _ (hx b o e)) (Ext.refl w) R rfl (Heap.get?_push_size _ rfl) (I.hok.fresh hsz) (out _ hsz) hco
end
end G
namespace G
open PySem L2 PySem.Spec PyProof.Rows
structure LamP (sc scope : Scope) (prm : Option Str) (caps : List Str) : Prop where
  kind : scope.kind = .function
  co : scope.isCoroutine = false
  gen : scope.isGenerator = false
  cell : ∀ y ∈ scope.names, y.2 ≠ .cell
  loc : ∀ y ∈ scope.names, y.2 = .local → prm = some y.1
  par : ∀ x, prm = some x → scope.names.lookup x = some .local
  free : ∀ y ∈ scope.names, y.2 = .free → sc.names.lookup y.1 = some .cell ∨ sc.names.lookup y.1 = some .free
  cap : ∀ y ∈ caps, scope.names.lookup y = some .free
def lamPB (sc scope : Scope) (prm : Option Str) (caps : List Str) : Bool :=
  decide (scope.kind = .function) && (!scope.isCoroutine && (!scope.isGenerator && ((scope.names.all fun y => !decide (y.2 = .cell) && ((!decide (y.2 = .local) || decide (prm = some y.1)) && (!decide (y.2 = .free) || (decide (sc.names.lookup y.1 = some .cell) || decide (sc.names.lookup y.1 = some .free))))) &&
    ((match prm with | some x => decide (scope.names.lookup x = some .local) | none => true) && caps.all fun y => decide (scope.names.lookup y = some .free)))))
theorem lamP_by {sc scope : Scope} {prm : Option Str} {caps : List Str} (h : lamPB sc scope prm caps = true) : LamP sc scope prm caps := by
  unfold lamPB at h
  simp only [Bool.and_eq_true, decide_eq_true_eq, Bool.not_eq_true', List.all_eq_true, Bool.or_eq_true, decide_eq_false_iff_not] at h
  obtain ⟨h1, h2, h3, h4, h5, h6⟩ := h
  refine ⟨h1, h2, h3, fun y hy => (h4 y hy).1, fun y hy e => ?_, fun x e => ?_, fun y hy e => ?_, h6⟩
  · rcases (h4 y hy).2.1 with z | z
    · exact absurd e z
    · exact z
  · subst e
    exact of_decide_eq_true h5
  · rcases (h4 y hy).2.2 with z | z
    · exact absurd e z
    · exact z
def lamC (X : Cx) (A : Around) (outer : List Env) (s : Shared) (H : Hp) (E : XK) (scope : Scope) (f c' : Addr) (N' : List Str) : Cx := { LamX.lamCx X A outer s H E scope f c' with N := N' }
abbrev lamN (X : Cx) (prm : Option Str) (js : List Nat) : List Str := prm.toList ++ js.map fun j => X.N.getD j Str.empty
section
variable {X : Cx} {pins : List (Addr × Obj)} {σ : L2.St} {H HZ : Hp} {s s1 : Shared}
theorem lam_inv {A : Around} {outer : List Env} {E : XK} {scope : Scope} {f c' : Addr} {prm : Option Str} {js : List Nat} {h₁ : Heap} {tk : Nat} {us : List Value} {vs : List V}
    (I : L2.Inv X pins σ H s) (L : LamP X.env.scope scope prm (js.map fun j => X.N.getD j Str.empty)) (e0 : Env0 X.prog X.w X.K X.mg X.base A outer s1 HZ) (hd : A.handled = none) (un : Un (frs X.stack) [] H HZ s.heap s1.heap) (hj : ∀ j ∈ js, j < X.N.length) (r : Vals vs us) (hl : vs.length = prm.toList.length)
    (hns : h₁.Ns s1.heap.objs.size fun y => (prm.toList.zip us).reverse.lookup y) (kp : ∀ b o, s1.heap.get? b = some o → h₁.get? b = some o) :
    L2.Inv (lamC X A outer s1 HZ E scope f c' (lamN X prm js)) [] (vs.map some ++ js.map fun j => (σ[j]?).join) HZ { s1 with heap := h₁, toks := tk } := by
  have hcell : ∀ y ∈ scope.names, y.2 = .free → ∃ c, X.env.cells.lookup y.1 = some c := by
    intro y hy e
    rcases L.free y hy e with z | z
    · exact I.ok.has _ (.inl z)
    · exact I.ok.has _ (.inr z)
  have up : ∀ {y c}, (cloFrom X.env.cells scope.names []).lookup y = some c → X.env.cells.lookup y = some c := by
    intro y c e
    rcases cloFrom_mem (PySem.mem_of_lookup e) with z | ⟨z1, z2⟩
    · cases z
    · obtain ⟨c1, hc1⟩ := hcell _ z1 rfl
      have hc1 : X.env.cells.lookup y = some c1 := hc1
      rw [hc1] at z2
      have z3 : c = c1 := z2
      rw [z3]; exact hc1
  have down : ∀ {y}, scope.names.lookup y = some .free → ∃ c, (cloFrom X.env.cells scope.names []).lookup y = some c := by
    intro y e
    exact mem_lookup (cloFrom_has (cells := X.env.cells) (acc := []) (PySem.mem_of_lookup e))
  have stays : ∀ {c : Addr} {v : Option Value}, H c = none → s.heap.IsCell c v → h₁.IsCell c v := by
    rintro c v n ⟨o, ho, hd⟩
    obtain ⟨sl, q⟩ := un.any ho n (by simp)
    exact ⟨_, kp _ _ q, hd⟩
  have noex : ∀ b : Addr, b ∉ (lamC X A outer s1 HZ E scope f c' (lamN X prm js)).ex := fun b z => by cases (show b ∈ ([] : List Addr) from z)
  constructor
  · refine ⟨e0.mod, L.kind, rfl, rfl, Nat.le_refl _, ?_, ?_, ?_, fun _ => hd, Around.frames_deeper e0.frames, .inr ⟨rfl, rfl⟩, fun b z => absurd z (noex b), e0.bs, e0.bsz, fun b _ _ => noex b, fun b z => absurd z (noex b), e0.funs, e0.frf⟩
    · exact fun y z c g1 g2 => I.ok.inj y z c (up g1) (up g2)
    · intro y hy
      rcases hy with hy | hy
      · exact absurd rfl (L.cell _ (PySem.mem_of_lookup (show scope.names.lookup y = some .cell from hy)))
      · exact down hy
    · intro y c z
      cases (show false = true from z)
  · rfl
  · exact e0.bare
  · exact Un.kept kp
  · refine ⟨_, hns, fun i y v g1 g2 g3 => ?_⟩
    have g1 : (prm.toList ++ js.map fun j => X.N.getD j Str.empty)[i]? = some y := g1
    have g3 : Vis scope y := g3
    by_cases hi : i < prm.toList.length
    · cases prm with
      | none => exact absurd hi (by simp)
      | some x =>
        have hi0 : i = 0 := by simpa using hi
        subst hi0
        have ey : x = y := Option.some.inj g1
        subst ey
        obtain ⟨v0, rfl⟩ : ∃ v0, vs = [v0] := List.length_eq_one_iff.mp hl
        cases r with
        | cons r1 r2 =>
          cases r2
          have ev : v0 = v := Option.some.inj (Option.some.inj g2)
          subst ev
          exact ⟨_, r1, .inl ⟨L.par x rfl, List.lookup_cons_self⟩⟩
    · rw [List.getElem?_append_right (by omega), List.getElem?_map] at g1
      rw [List.getElem?_append_right (by rw [List.length_map, hl]; omega), List.length_map, hl, List.getElem?_map] at g2
      cases hjt : js[i - prm.toList.length]? with
      | none => rw [hjt] at g1; cases g1
      | some j =>
        rw [hjt] at g1 g2
        have hjl := hj j (List.mem_of_getElem? hjt)
        have ey : X.N.getD j Str.empty = y := by simpa using g1
        have hNj : X.N[j]? = some y := by rw [← ey, List.getD_eq_getElem?_getD, List.getElem?_eq_getElem hjl]; rfl
        have hσ : σ[j]? = some (some v) := by
          have z : (σ[j]?).join = some v := by simpa using g2
          cases q : σ[j]? with
          | none => rw [q] at z; cases z
          | some o => rw [q] at z; cases o with
            | none => cases z
            | some v' => cases z; rfl
        have hy : scope.names.lookup y = some .free := L.cap y (List.mem_map.mpr ⟨j, List.mem_of_getElem? hjt, ey⟩)
        obtain ⟨m, hn, hloc⟩ := I.loc
        have fr := L.free _ (PySem.mem_of_lookup hy) rfl
        obtain ⟨u, ru, q⟩ := hloc j y v hNj hσ (fr.elim (fun z => .inr (.inl z)) fun z => .inr (.inr z))
        obtain ⟨c2, h2⟩ := down hy
        refine ⟨u, ru, .inr ⟨.inr hy, c2, h2, ?_⟩⟩
        have h2' := up h2
        rcases q with ⟨z, _⟩ | ⟨_, c3, z, zc⟩
        · have z : X.env.scope.names.lookup y = some .local := z
          rcases fr with k2 | k2 <;> rw [show X.env.scope.names.lookup y = _ from k2] at z <;> cases z
        · rw [h2'] at z
          cases z
          exact stays (I.freeC y _ h2') zc
  · intro y c g
    obtain ⟨v, z⟩ := I.cell y c (up g)
    exact ⟨v, stays (I.freeC y c (up g)) z⟩
  · exact e0.hok.fresh (Nat.le_refl _)
  · intro y c g
    obtain ⟨v, o, ho, _⟩ := I.cell y c (up g)
    exact un.free c o ho (I.freeC y c (up g)) (by simp)
  · intro p hp
    cases (show p ∈ ([] : List (Addr × Obj)) ++ [] from hp)
  · exact e0.hok.kept kp
  · show (vs.map some ++ js.map fun j => (σ[j]?).join).length = (prm.toList ++ js.map fun j => X.N.getD j Str.empty).length
    simp [hl]
def lamF (js : List Nat) (np : Nat) (mb : EM) : En → FM := fun en ds S => if ds.length = np then mb (ds.map some ++ js.map fun j => oj en[j]?) S else .stuck
def capV (σ : L2.St) (js : List Nat) : List V := js.map fun j => ((σ[j]?).join).getD .non
theorem oj_some {o : Option (Option D)} {d : D} (h : oj o = some d) : o = some (some d) := by
  unfold oj at h
  split at h
  · rw [Option.some.inj h]
  · cases h
theorem capV_get {w : Wo} {en : En} {js : List Nat} {t j : Nat} {d : D} (E : RepE X.K X.mg w en σ) (hj : js[t]? = some j) (h : oj en[j]? = some d) : ∃ v, σ[j]? = some (some v) ∧ (capV σ js)[t]? = some v ∧ RepD X.K X.mg w d v := by
  obtain ⟨v, q, r⟩ := E.get j d (oj_some h)
  refine ⟨v, q, ?_, r⟩
  unfold capV
  rw [List.getElem?_map, hj]
  show some (((σ[j]?).join).getD .non) = some v
  rw [q]; rfl
theorem cp_get {en : En} {js : List Nat} {vs : List V} {t : Nat} {d' : D} (hl : vs.length = js.length) (h : (cpOf js en vs)[t]? = some (some d')) : ∃ j v d, js[t]? = some j ∧ vs[t]? = some v ∧ oj en[j]? = some d ∧ d' = .pin v d := by
  unfold cpOf at h
  by_cases ht : t < js.length
  · rw [List.getElem?_append_left (by simp [hl, ht]), List.getElem?_map] at h
    have e : (js.zip vs)[t]? = some (js[t], vs[t]) := by
      rw [List.getElem?_zip_eq_some]
      exact ⟨List.getElem?_eq_getElem ht, List.getElem?_eq_getElem (by omega)⟩
    rw [e] at h
    have h : (oj en[js[t]]?).map (D.pin vs[t]) = some d' := Option.some.inj h
    obtain ⟨d, h1, h2⟩ := Option.map_eq_some_iff.mp h
    exact ⟨_, _, d, List.getElem?_eq_getElem ht, List.getElem?_eq_getElem (by omega), h1, h2.symm⟩
  · rw [List.getElem?_append_right (by simp [hl]; omega), List.getElem?_replicate] at h
    split at h <;> cases h
theorem cp_at {en : En} {js : List Nat} {vs : List V} {t j : Nat} {v : V} {d : D} (hl : vs.length = js.length) (hj : js[t]? = some j) (hv : vs[t]? = some v) (h : oj en[j]? = some d) : (cpOf js en vs)[t]? = some (some (.pin v d)) := by
  have ht := (List.getElem?_eq_some_iff.mp hj).1
  unfold cpOf
  rw [List.getElem?_append_left (by simp [hl, ht]), List.getElem?_map, (List.getElem?_zip_eq_some.mpr ⟨hj, hv⟩ : (js.zip vs)[t]? = some (j, v))]
  show some ((oj en[j]?).map (D.pin v)) = _
  rw [h]; rfl
theorem cp_rep {w : Wo} {en : En} {js : List Nat} (E : RepE X.K X.mg w en σ) (h4 : js.length ≤ 6) : RepE X.K X.mg w (cpOf js en (capV σ js)) ((capV σ js).map some ++ List.replicate (6 - js.length) none) := by
  have hl : (capV σ js).length = js.length := by unfold capV; simp
  refine ⟨by rw [cpOf_len hl h4]; simp [hl]; omega, fun t d' h => ?_⟩
  obtain ⟨j, v, d, h1, h2, h3, rfl⟩ := cp_get hl h
  obtain ⟨v', q1, q2, r⟩ := capV_get E h1 h3
  cases q2.symm.trans h2
  refine ⟨v, ?_, .pin r⟩
  rw [List.getElem?_append_left (by rw [List.length_map]; exact (List.getElem?_eq_some_iff.mp h2).1), List.getElem?_map, h2]
  rfl
theorem lam_slots {w1 w : Wo} {en enZ : En} {σZ : L2.St} {js : List Nat} {nN : Nat} {ds : List D} {vs : List V} (E1 : RepE X.K X.mg w1 en σ) (EZ : RepE X.K X.mg w enZ σZ) (hz : enZ.drop nN = cpOf js en (capV σ js)) (rl : RepL X.K X.mg w ds vs) :
    RepE X.K X.mg w (ds.map some ++ js.map fun j => oj en[j]?) (vs.map some ++ js.map fun j => (σ[j]?).join) := by
  have hl : (capV σ js).length = js.length := by unfold capV; simp
  refine RepE.join ⟨by rw [List.length_map, List.length_map, rl.length], fun t d h => ?_⟩ ⟨by simp, fun t d h => ?_⟩
  · rw [List.getElem?_map] at h
    cases q : ds[t]? with
    | none => rw [q] at h; cases h
    | some d0 =>
      rw [q] at h
      cases h
      obtain ⟨v, e, r⟩ := rl.get q
      exact ⟨v, by rw [List.getElem?_map, e]; rfl, r⟩
  · rw [List.getElem?_map] at h
    cases hj : js[t]? with
    | none => rw [hj] at h; cases h
    | some j =>
      rw [hj] at h
      have ho : oj en[j]? = some d := Option.some.inj h
      obtain ⟨v, q1, q2, _⟩ := capV_get E1 hj ho
      have hc := cp_at hl hj q2 ho
      rw [← hz, List.getElem?_drop] at hc
      obtain ⟨v', _, rp⟩ := EZ.get _ _ hc
      cases rp with
      | pin r => exact ⟨v, by rw [List.getElem?_map, hj]; show some ((σ[j]?).join) = _; rw [q1]; rfl, r⟩
end
end G
namespace G
open PySem L2 PySem.Spec PyProof.Rows
section
variable {X : Cx} {pins : List (Addr × Obj)} {σ : L2.St} {s1 : Shared} {w1 : Wo} {params : Arguments} {body : Expr} {scope : Scope} {prm : Option Str} {js : List Nat} {mb : EM} {q : Str} {f c' : Addr} {oc : Obj} {pm ctv : Value} {en : En} {kb : Nat}
theorem lam_call {Ng : List Str} {qg : Str} {sg : Scope} {g : Addr} {cdg : Value} {Eg : XK} {pn : List (Addr × Obj)} {xe : Value → Shared → Prop} {W : WX} {j : Nat} {pinsZ : List (Addr × Obj)} {σZ : L2.St} {s3 : Shared} {w3 : Wo} {enZ : En} {us : List Value} {vs : List V} {ds : List D} {Q : VK} {nN : Nat}
    (I1 : L2.Inv X pins σ w1.hp s1) (E1 : RepE X.K X.mg w1 en σ) (L : LamP X.env.scope scope prm (js.map fun j => X.N.getD j Str.empty)) (hj : ∀ j ∈ js, j < X.N.length) (hnd : (lamN X prm js).Nodup) (hq : X.env.qual ++ "<lambda>" = q)
    (hf : s1.heap.get? f = some (PySem.W.kla_obj "<lambda>" q params body scope (cloFrom X.env.cells scope.names []) pm c' ctv)) (hfn : w1.hp f = none) (hfr : f ∉ frs X.stack) (hc : w1.hp c' = some (codeZ c' q oc))
    (hbind : ∀ (us : List Value), us.length = prm.toList.length → bindArgs (PySem.W.kla_fn "<lambda>" q params body scope (cloFrom X.env.cells scope.names []) pm (.ref c') ctv) ⟨us, []⟩ = pure (prm.toList.zip us))
    (hbody : ∀ (A : Around) (outer : List Env) (s : Shared) (H : Hp) (E : XK), Cg (lamC X A outer s H E scope f c' (lamN X prm js)) (fun cls d _ H' => E cls d H') kb → RE (lamC X A outer s H E scope f c' (lamN X prm js)) (fun cls d _ H' => E cls d H') body mb)
    (c : Cg ((cxOf (L2.CX X.prog X.w) X.prog X.w X.K X.mg X.base (Ng ++ ph4) qg sg g cdg X.A X.stack s1 w1.hp Eg).tr pn xe) W j) (hk : kb + 1 ≤ j) (I3 : L2.Inv ((cxOf (L2.CX X.prog X.w) X.prog X.w X.K X.mg X.base (Ng ++ ph4) qg sg g cdg X.A X.stack s1 w1.hp Eg).tr pn xe) pinsZ σZ w3.hp s3)
    (R3 : Rep X.K X.mg w3) (EZ : RepE X.K X.mg w3 enZ σZ) (hz : enZ.drop nN = cpOf js en (capV σ js)) (rv : Vals vs us) (rl : RepL X.K X.mg w3 ds vs) (hlen : ds.length = prm.toList.length)
    (P3 : Post (RepD X.K X.mg) X.K X.mg w3 (mb (ds.map some ++ js.map fun j => oj en[j]?) w3.st) Q (WE W σZ)) :
    wpAny (model X.prog X.w) ((cxOf (L2.CX X.prog X.w) X.prog X.w X.K X.mg X.base (Ng ++ ph4) qg sg g cdg X.A X.stack s1 w1.hp Eg).tr pn xe).A (call (.ref f) us) (EP ((cxOf (L2.CX X.prog X.w) X.prog X.w X.K X.mg X.base (Ng ++ ph4) qg sg g cdg X.A X.stack s1 w1.hp Eg).tr pn xe) pinsZ σZ Q) ((cxOf (L2.CX X.prog X.w) X.prog X.w X.K X.mg X.base (Ng ++ ph4) qg sg g cdg X.A X.stack s1 w1.hp Eg).tr pn xe).xe s3 := by
  subst hq
  have un : Un (frs X.stack) [] w1.hp w3.hp s1.heap s3.heap := I3.base
  have of3 := un.keep f _ hf hfn hfr (fun z => by cases z)
  obtain ⟨_, ⟨oc2, vs2, t2, e1, e2, e3⟩, _⟩ := I3.hok c' _ (un.frzs c' _ _ hc)
  have hlv : vs.length = prm.toList.length := by rw [← rl.length]; exact hlen
  have hlu : us.length = prm.toList.length := by rw [← rv.length]; exact hlv
  have rm := c.rm.mono hk
  have rc : codeAny (model X.prog X.w) (X.A.deeper (envOfC qg sg s1.heap.objs.size g cdg)) (.call (.ref f) ⟨us, []⟩) (CR (L2.CX X.prog X.w) (envOfC qg sg s1.heap.objs.size g cdg :: X.stack) X.prog X.w w3.hp s3 Q (WE W σZ)) s3 := by
    refine PySem.W.kla_callFunE rm.r.depth of3 rfl L.co L.gen rfl ⟨c', oc2, vs2, t2, rfl, e1, e2, e3⟩ ?_
    rw [hbind us hlu]
    refine wpAny_pure (wpAny_newFunctionEnv (fun y hy => L.cell y hy) ?_ ?_ L.kind)
    · rintro ⟨y, u⟩ hy
      have hm := (List.of_mem_zip hy).1
      exact L.par y (by simpa using hm)
    · intro h₁ hns hsb
      refine ⟨I3.nolimit.fresh _ hsb, ?_⟩
      show codeAny _ _ (.expr body (LamX.lamEnv X scope s3.heap.objs.size f c')) _ _
      have kp : ∀ b o, s3.heap.get? b = some o → h₁.get? b = some o := fun b o e => hsb.extBut b o (Nat.ne_of_lt (Heap.lt_size e)) (Heap.get?_push_of_some _ e)
      have J := lam_inv (A := X.A.deeper (envOfC qg sg s1.heap.objs.size g cdg)) (outer := envOfC qg sg s1.heap.objs.size g cdg :: X.stack) (E := WE W σZ) (f := f) (c' := c') (tk := s3.toks + (prm.toList.zip us).length) I1 L I3.env0 rm.r.hd un hj rv hlv hns kp
      have cg : Cg (lamC X (X.A.deeper (envOfC qg sg s1.heap.objs.size g cdg)) (envOfC qg sg s1.heap.objs.size g cdg :: X.stack) s3 w3.hp (WE W σZ) scope f c' (lamN X prm js)) (fun cls d _ H' => WE W σZ cls d H') kb := ⟨rfl, hnd, takes_of rfl rfl rfl rfl, passes_of rfl, ⟨rm.r.deeper _, fun q => rm.gd (Nat.le_succ_of_le q)⟩, rfl, rfl, rfl⟩
      refine PySem.W.kla_codeExpr (wpAny_mono ((hbody _ _ s3 w3.hp (WE W σZ) cg).run [] _ _ w3.hp Q J ⟨w3, _, rfl, R3, lam_slots E1 EZ hz rl, P3⟩) ?_ fun e s' hq => hq)
      rintro v s' ⟨v', H', J', rv', q'⟩
      exact ⟨v', H', J'.os, J'.bare, J'.base, J'.hok, rv', q'⟩
  refine wpAny_call (codeAny_mono rc fun r s' hq => ?_)
  cases r with
  | error e => exact passAt c.tk σZ pinsZ w3.hp s3 e s' I3 hq
  | ok fl =>
    cases fl with
    | ret u => exact I3.after hq
    | next => exact False.elim hq
    | brk => exact False.elim hq
    | cont => exact False.elim hq
theorem act_lam {Ng : List Str} {qg : Str} {sg : Scope} {g : Addr} {cdg : Value} {Eg : XK} {a : Str} {i : Nat}
    (I1 : L2.Inv X pins σ w1.hp s1) (E1 : RepE X.K X.mg w1 en σ) (L : LamP X.env.scope scope prm (js.map fun j => X.N.getD j Str.empty)) (hj : ∀ j ∈ js, j < X.N.length) (hnd : (lamN X prm js).Nodup) (hq : X.env.qual ++ "<lambda>" = q)
    (hf : s1.heap.get? f = some (PySem.W.kla_obj "<lambda>" q params body scope (cloFrom X.env.cells scope.names []) pm c' ctv)) (hfn : w1.hp f = none) (hfr : f ∉ frs X.stack) (hc : w1.hp c' = some (codeZ c' q oc))
    (hbind : ∀ (us : List Value), us.length = prm.toList.length → bindArgs (PySem.W.kla_fn "<lambda>" q params body scope (cloFrom X.env.cells scope.names []) pm (.ref c') ctv) ⟨us, []⟩ = pure (prm.toList.zip us))
    (hbody : ∀ (A : Around) (outer : List Env) (s : Shared) (H : Hp) (E : XK), Cg (lamC X A outer s H E scope f c' (lamN X prm js)) (fun cls d _ H' => E cls d H') kb → RE (lamC X A outer s H E scope f c' (lamN X prm js)) (fun cls d _ H' => E cls d H') body mb)
    (hN : Ng[i]? = some a) (hv : Vis sg a) (hd : (a == ("__debug__" : Str)) = false) (hcd : (a == ("__classdict__" : Str)) = false) :
    Act (cxOf (L2.CX X.prog X.w) X.prog X.w X.K X.mg X.base (Ng ++ ph4) qg sg g cdg X.A X.stack s1 w1.hp Eg) a i f Ng.length (cpOf js en (capV σ js)) (lamF js prm.toList.length mb en) (kb + 1) := by
  have hN' : (Ng ++ ph4)[i]? = some a := by rw [List.getElem?_append_left (List.getElem?_eq_some_iff.mp hN).1]; exact hN
  constructor
  · intro pn xe W j c hk e m p1 p2 ha he
    refine ⟨fun pinsZ sZ σZ HZ Q IZ h => ?_⟩
    obtain ⟨w, enZ, rfl, R, E, P⟩ := h
    unfold eCallV at P
    split at P
    · rename_i hg
      refine wpAny_Call_Name_kw (slot_w (X := (cxOf (L2.CX X.prog X.w) X.prog X.w X.K X.mg X.base (Ng ++ ph4) qg sg g cdg X.A X.stack s1 w1.hp Eg).tr pn xe) hN' hv hd hcd IZ E hg.1 fun s2 I2 => ?_)
      have at_ : ∀ {σ' : L2.St} {H' : Hp} {s' : Shared} {pp : List (Addr × Obj)}, L2.Inv ((cxOf (L2.CX X.prog X.w) X.prog X.w X.K X.mg X.base (Ng ++ ph4) qg sg g cdg X.A X.stack s1 w1.hp Eg).tr pn xe) pp σ' H' s' → s'.heap.get? f = some (PySem.W.kla_obj "<lambda>" q params body scope (cloFrom X.env.cells scope.names []) pm c' ctv) := fun J =>
        (show Un (frs X.stack) [] w1.hp _ s1.heap _ from J.base).keep f _ hf hfn hfr (fun z => by cases z)
      refine PySem.W.callWith_F ⟨_, _, _, _, at_ I2⟩ (thn (ha.run p2 pinsZ s2 σZ w.hp _ I2 ⟨w, enZ, rfl, R, E, Post.bind P⟩) ?_) he (by rfl)
      rintro us s3 ⟨vs, H3, I3, rv, w3, ds, rfl, X3, R3, rl, P3⟩
      refine ⟨⟨_, _, _, _, at_ I3⟩, ?_⟩
      unfold lamF at P3
      split at P3
      · rename_i hlen
        exact lam_call I1 E1 L hj hnd hq hf hfn hfr hc hbind hbody c hk I3 R3 (E.ext X3.toEx0) hg.2 rv rl hlen P3
      · exact False.elim P3
    · exact False.elim P
  · intro pn xe W j c hk p1 p2
    refine ⟨fun pinsZ sZ σZ HZ Q IZ h => ?_⟩
    obtain ⟨w, enZ, rfl, R, E, P⟩ := h
    unfold eCallV at P
    split at P
    · rename_i hg
      refine wpAny_Call_Name_kw (slot_w (X := (cxOf (L2.CX X.prog X.w) X.prog X.w X.K X.mg X.base (Ng ++ ph4) qg sg g cdg X.A X.stack s1 w1.hp Eg).tr pn xe) hN' hv hd hcd IZ E hg.1 fun s2 I2 => ?_)
      have of2 := (show Un (frs X.stack) [] w1.hp _ s1.heap _ from I2.base).keep f _ hf hfn hfr (fun z => by cases z)
      refine PySem.W.callWith_F0 ⟨_, _, _, _, of2⟩ ?_
      replace P : Post (RepD X.K X.mg) X.K X.mg w (lamF js prm.toList.length mb en [] w.st) Q (WE W σZ) := P
      unfold lamF at P
      split at P
      · rename_i hlen
        exact lam_call (us := []) (vs := []) (ds := []) I1 E1 L hj hnd hq hf hfn hfr hc hbind hbody c hk I2 R E hg.2 .nil .nil hlen P
      · exact False.elim P
    · exact False.elim P
def tbS (nT : Nat) (p : Str × Option Str) (q : Str) : Store → Bool := fun S => match S[nT]? with
  | some (.tbl p' q') => decide (p' = p) && decide (q' = q)
  | _ => false
theorem tbS_at {nT : Nat} {p : Str × Option Str} {q : Str} {S : Store} (h : tbS nT p q S = true) : S[nT]? = some (.tbl p q) := by
  unfold tbS at h
  split at h
  · rename_i p' q' e
    rw [Bool.and_eq_true, decide_eq_true_eq, decide_eq_true_eq] at h
    rw [e, h.1, h.2]
  · cases h
theorem la_lam {nT : Nat} {p : Str × Option Str} {lpos : Pos} (L : LamP X.env.scope scope prm (js.map fun j => X.N.getD j Str.empty)) (hj : ∀ j ∈ js, j < X.N.length) (h4 : js.length ≤ 6) (hnd : (lamN X prm js).Nodup) (hq : X.env.qual ++ "<lambda>" = q)
    (TB : LamX.TabB X.base X.mg (He.cT X.K p).1 (He.cT X.K p).2) (hcode : X.env.code = .ref (He.cT X.K p).1) (hdef : defaultsOf params X.env = ([], []))
    (hbind : ∀ (cl : List (Str × Addr)) (pm cv ctv : Value) (us : List Value), us.length = prm.toList.length → bindArgs (PySem.W.kla_fn "<lambda>" q params body scope cl pm cv ctv) ⟨us, []⟩ = pure (prm.toList.zip us))
    (hbody : ∀ (A : Around) (outer : List Env) (s : Shared) (H : Hp) (E : XK) (f c' : Addr), Cg (lamC X A outer s H E scope f c' (lamN X prm js)) (fun cls d _ H' => E cls d H') kb → RE (lamC X A outer s H E scope f c' (lamN X prm js)) (fun cls d _ H' => E cls d H') body mb) :
    LA X (.Lambda params body scope lpos) js (lamF js prm.toList.length mb) (tbS nT p q) (kb + 1) := by
  refine ⟨fun pins s σ w en I R E ht => ?_⟩
  have hfree : ∀ y ∈ scope.names, y.2 = .free → ∃ c, X.env.cells.lookup y.1 = some c := by
    intro y hy e
    rcases L.free y hy e with z | z
    · exact I.ok.has _ (.inl z)
    · exact I.ok.has _ (.inr z)
  refine lam_new I R (tbS_at ht) hq TB hcode hdef hfree ?_
  intro f c' oc pm ctv w' s' I' X' R' st' hf hfn hfr hc
  refine ⟨f, capV σ js, w', rfl, I', X', R', st', by unfold capV; simp, cp_rep (E.ext X'.toEx0) h4, ?_⟩
  intro Ng qg sg g cdg Eg a i h5 h6 h7 h8
  exact act_lam I' (E.ext X'.toEx0) L hj hnd hq hf hfn hfr hc (hbind _ pm _ ctv) (fun A outer s H E' cg => hbody A outer s H E' f c' cg) h5 h6 h7 h8
end
end G
namespace G
open PySem L2 PySem.Spec PyProof.Rows
def st0 (ts : List Mk2) : Store := ts.map fun t => Cell.tbl t.1 t.2
def TBs (K : PySem.W.Frag) (mg : Str → Option Value) (base : Heap) (ts : List Mk2) : Prop := ∀ t ∈ ts, LamX.TabB base mg (He.cT K t.1).1 (He.cT K t.1).2
def spLawT (K : PySem.W.Frag) (ts : List Mk2) : Sp := fun vs H Q _ => ∃ (a : Addr) (ns : List Int), vs = [.ref a] ∧ SqL K H a (ns.map V.int) ∧ ns.length ≤ 63 ∧ (∀ b ∈ al0 K ts, H b = some (.tbl #[]) ∧ K.lookup b = none) ∧ ∀ H', Q (.bl true) H'
section
variable {P : Program} {w0 : World} {K : PySem.W.Frag} {mg : Str → Option Value} {base : Heap}
theorem law_okT {k : Nat} {f : Addr} {fd : FuncData} {x : Str} {m : Nat → FM} {ts : List Mk2} (hnd : (al0 K ts).Nodup) (F : ∀ N, FnG P w0 K mg base k f fd [x] (spM K mg 1 (m N)))
    (h : ∀ ns : List Int, ns.length ≤ 63 → ∃ N S, m N [.scr (ns.map .int)] (st0 ts) = .ok (.bl true) S) : FnG P w0 K mg base k f fd [x] (spLawT K ts) := by
  refine ⟨fun vs H Q E ⟨a, ns, e, _⟩ => by rw [e]; rfl, fun A outer s H args us vs Q E hr he hb hv hs => ?_⟩
  obtain ⟨a, ns, rfl, hq, hl, hT, hQ⟩ := hs
  obtain ⟨N, S, e⟩ := h ns hl
  have R0 : Rep K mg ⟨al0 K ts, st0 ts, H, []⟩ := by
    refine ⟨by unfold al0 st0; simp, hnd, fun b hb => ⟨_, (hT b hb).1⟩, fun n b c h1 h2 => ?_, (fun _ h => by cases h)⟩
    have h1 : (al0 K ts)[n]? = some b := h1
    have h2 : (st0 ts)[n]? = some c := h2
    unfold al0 at h1
    unfold st0 at h2
    rw [List.getElem?_map] at h1 h2
    cases q : ts[n]? with
    | none => rw [q] at h1; cases h1
    | some t =>
      rw [q] at h1 h2
      cases h1
      cases h2
      refine ⟨rfl, #[], (hT _ (List.mem_map.mpr ⟨t, List.mem_of_getElem? q, rfl⟩)).1, True.intro, fun pos cv hc => ?_⟩
      have z : codeAmong pos [] = some cv := hc
      simp [codeAmong] at z
  have hz : ¬ Zl ⟨al0 K ts, st0 ts, H, []⟩ a ∨ ∃ o its n, K.lookup a = some o ∧ o.cls = .type "list" ∧ o.dict = none ∧ o.data = .seq its n ∧ its.size ≤ sizeLine ∧ Vals (ns.map V.int) its.toList := by
    rcases hq with hq | hq
    · left
      rintro (⟨n, c, h1, _, _⟩ | z)
      · have hm : a ∈ al0 K ts := List.mem_of_getElem? h1
        have z := (hT a hm).1
        rcases hq with hq | ⟨o, hq⟩
        · rw [z] at hq; cases hq
        · rw [z] at hq; cases hq
      · cases z
    · obtain ⟨o, its, n, r⟩ := hq
      exact .inr ⟨o, its, n, r⟩
  refine (F N).run A outer s H args us _ Q E hr he hb hv ⟨rfl, ⟨al0 K ts, st0 ts, H, []⟩, [.scr (ns.map .int)], rfl, R0, .cons (.scr ?_ (ints_rep ns)) .nil, ?_⟩
  · rcases hz with hz | hz
    · rcases hq with hq | hq
      · exact .inl ⟨hq, hz⟩
      · exact .inr hq
    · exact .inr hz
  · rw [e]
    intro w' v _ _ _ r
    cases r
    exact hQ _
end
theorem obTT_eq (n : Nat) (fx : List Fx) (fn : List He.DefD) (tf : List He.Defn) (s : PySem.W.SharedT) : obTT n fx fn tf s = (hookT n fx fn tf).obs s.abs := by
  have e : HandSHeadRun.getT s = s.abs.heap.get? := funext (HandSHeadRun.getT_eq s)
  unfold obTT
  rw [e]
  rfl
section
variable {K : PySem.W.Frag} {mg : Str → Option Value}
theorem law_atT {P : Program} {w : World} {mb : Str → Option Value} {k : Nat} {fa a : Addr} {fd : FuncData} {x : Str} {t : Shared} {us : List Value} {ns : List Int} {H : Hp} {ts : List Mk2}
    (KX : K.In t.heap) (hns : t.heap.Ns mainGlobals mg) (hb : t.heap.Ns builtinsNs mb) (hbb : ∀ x : Str, x ≠ "__name__" → mb x = bootBuiltins x) (hlim : t.heap.NoLimit) (hg : t.gens = #[])
    (hbm : ∃ (bm : Addr) (ob : Obj), mg "__builtins__" = some (.ref bm) ∧ bm ≠ builtinsNs ∧ t.heap.get? bm = some ob ∧ ob.cls = .type "module" ∧ ob.dict = some builtinsNs ∧ ob.data = .plain)
    (hhd : ∀ q ∈ ts, PySem.W.codeHdIn K (He.cT K q.1).1 (He.cT K q.1).2 = true) (hout : ∀ b ∈ al0 K ts, K.lookup b = none) (hemp : ∀ b ∈ al0 K ts, t.heap.get? b = some { cls := .none, data := .fields #[] })
    (ha : t.heap.get? a = some { cls := .type "list", data := .seq us.toArray }) (hi : IntsAre us ns) (h63 : ns.length ≤ 63) (hr : Room k callerA)
    (F : ∀ base : Heap, K.In base → base.Ns mainGlobals mg → TBs K mg base ts → FnG P w K mg base k fa fd [x] (spLawT K ts)) (bind : ∀ (s : Shared) (u : Value), BindsTo s fd ⟨[u], []⟩ [(x, u)])
    (hH : ∀ b u, H b = some u → (b = a ∧ K.lookup a = none ∧ u = .frz { cls := .type "list", data := .seq us.toArray } (.lst (ns.map V.int))) ∨ (b ∈ al0 K ts ∧ u = .tbl #[])) (hHt : ∀ b ∈ al0 K ts, H b = some (.tbl #[])) (hS : SqL K H a (ns.map V.int)) :
    codeAny (model P w) callerA (.call (.ref fa) ⟨[.ref a], []⟩) (fun r s' => r = .ok (.ret (.bool true)) ∧ OldK t.heap s'.heap ∧ s'.os = t.os ∧ AllBare s'.gens) t := by
  have ok : HOk P w H t.heap := by
    intro b u z
    rcases hH b u z with ⟨rfl, _, rfl⟩ | ⟨hm, rfl⟩
    · exact ⟨ha, by rw [List.length_map]; exact Nat.le_trans h63 (by decide), us, _, vals_ints hi, ha⟩
    · exact hemp b hm
  have free : ∀ {b : Addr} {o : Obj}, t.heap.get? b = some o → (∀ its n, o.data ≠ .seq its n) → o.data ≠ .fields #[] → H b = none := by
    intro b o e d1 d2
    cases q : H b with
    | none => rfl
    | some u =>
      rcases hH b u q with ⟨rfl, _, _⟩ | ⟨hm, _⟩
      · rw [ha] at e
        cases e
        exact absurd rfl (d1 _ _)
      · rw [hemp b hm] at e
        cases e
        exact absurd rfl d2
  have keep : ∀ {b : Addr} {m : Str → Option Value}, t.heap.Ns b m → (hidT t.heap H).Ns b m := by
    rintro b m ⟨o, es, ep, e, d, r⟩
    exact ⟨o, es, ep, hidT_get e (free e (fun its n z => by rw [d] at z; cases z) fun z => by rw [d] at z; cases z), d, r⟩
  have kin : K.In (hidT t.heap H) := by
    intro b o e
    refine hidT_get (KX b o e) ?_
    cases q : H b with
    | none => rfl
    | some u =>
      rcases hH b u q with ⟨rfl, n, _⟩ | ⟨hm, _⟩
      · rw [n] at e; cases e
      · rw [hout b hm] at e; cases e
  have mem2 : ∀ q ∈ ts, (He.cT K q.1).2 ∈ al0 K ts := fun q hq => List.mem_map.mpr ⟨q, hq, rfl⟩
  have tbs : TBs K mg (hidT t.heap H) ts := by
    intro q hq
    have hP := hemp _ (mem2 q hq)
    refine ⟨PySem.W.codeHd_of_K kin (hhd q hq), ?_, fun z => ?_⟩
    · obtain ⟨bm, ob, b1, b2, b3, b4, b5, b6⟩ := hbm
      refine ⟨bm, ob, b1, b2, fun z => ?_, fun z => ?_, hidT_get b3 (free b3 (fun its n z => by rw [b6] at z; cases z) fun z => by rw [b6] at z; cases z), b4, b5, b6⟩
      · obtain ⟨o, es, ep, e, d, _⟩ := hns
        rw [z, e] at b3; cases b3
        rw [d] at b6; cases b6
      · rw [z, hP] at b3; cases b3; cases b6
    · obtain ⟨o, es, ep, e, d, _⟩ := hns
      rw [z, hP] at e; cases e; cases d
  obtain ⟨mc, l1, l2⟩ := hlim
  have md : Mod K mg (hidT t.heap H) := ⟨kin, keep hns, ⟨mb, keep hb, hbb⟩, ⟨mc, keep l1, l2⟩⟩
  have env : Env0 P w K mg (hidT t.heap H) callerA [] t H := ⟨rfl, md, fun b o e => of_hidT e, Nat.le_of_eq (hidT_size _ _), trivial, (fun b hb => by cases hb), ok, .of_eq hg⟩
  refine codeAny_mono ((F _ kin (keep hns) tbs).run callerA [] t H ⟨[.ref a], []⟩ [.ref a] [.ref a] (fun v _ => v = .bl true) (fun _ _ _ => False) ⟨hr, fun _ => rfl⟩ env (bind t (.ref a)) (.cons rfl .nil) ⟨a, ns, rfl, hS, h63, fun b hm => ⟨hHt b hm, hout b hm⟩, fun _ => rfl⟩) ?_
  intro res s' z
  cases res with
  | error y =>
    obtain ⟨_, _, _, _, _, _, _, _, _, _, _, _, z⟩ := z
    exact False.elim z
  | ok fl =>
    cases fl with
    | ret u =>
      obtain ⟨v, H', hos, hbare, un, ok', rv, rfl⟩ := z
      cases rv
      have big : ∀ b ∈ al0 K ts, ∃ more : Array Value, s'.heap.get? b = some { cls := .none, data := .fields more } := by
        intro b hm
        obtain ⟨more, q⟩ := un.tbls b #[] (hHt b hm)
        exact ⟨_, ok' b _ q⟩
      have kept : ∀ b o, b ∉ al0 K ts → t.heap.get? b = some o → s'.heap.get? b = some o := by
        intro b o hm e
        cases q : H b with
        | none => exact un.keep b o e q (fun z => nomatch z) (by simp)
        | some u =>
          rcases hH b u q with ⟨_, _, rfl⟩ | ⟨h, _⟩
          · have c1 := (ok b _ q).1
            have c2 := (ok' b _ (un.frzs b _ _ q)).1
            rw [e] at c1
            cases c1
            exact c2
          · exact absurd h hm
      refine ⟨rfl, ⟨fun b o e => ?_, fun b o e => ?_⟩, hos, hbare⟩
      · by_cases hm : b ∈ al0 K ts
        · obtain ⟨q, hq, rfl⟩ := List.mem_map.mp hm
          obtain ⟨more, hmo⟩ := big _ hm
          rw [hemp _ hm] at e
          cases e
          exact .inr (.inl ⟨((PySem.W.codeHd_of_K KX (hhd q hq)).tab (hemp _ hm)).isCodeTable, rfl, #[], more, rfl, by rw [Array.empty_append]; exact hmo⟩)
        · exact .inl (kept b o hm e)
      · by_cases hm : b ∈ al0 K ts
        · obtain ⟨more, hmo⟩ := big b hm
          exact ⟨_, hmo⟩
        · exact ⟨o, kept b o hm e⟩
    | _ => exact False.elim z
theorem law_callT {P : Program} {w : World} {mb : Str → Option Value} {k : Nat} {fa a : Addr} {fd : FuncData} {x : Str} {t : Shared} {us : List Value} {ns : List Int} {ts : List Mk2}
    (KX : K.In t.heap) (hns : t.heap.Ns mainGlobals mg) (hb : t.heap.Ns builtinsNs mb) (hbb : ∀ x : Str, x ≠ "__name__" → mb x = bootBuiltins x) (hlim : t.heap.NoLimit) (hg : t.gens = #[])
    (hbm : ∃ (bm : Addr) (ob : Obj), mg "__builtins__" = some (.ref bm) ∧ bm ≠ builtinsNs ∧ t.heap.get? bm = some ob ∧ ob.cls = .type "module" ∧ ob.dict = some builtinsNs ∧ ob.data = .plain)
    (hhd : ∀ q ∈ ts, PySem.W.codeHdIn K (He.cT K q.1).1 (He.cT K q.1).2 = true) (hout : ∀ b ∈ al0 K ts, K.lookup b = none) (hemp : ∀ b ∈ al0 K ts, t.heap.get? b = some { cls := .none, data := .fields #[] })
    (ha : t.heap.get? a = some { cls := .type "list", data := .seq us.toArray }) (hi : IntsAre us ns) (h63 : ns.length ≤ 63) (hr : Room k callerA)
    (F : ∀ base : Heap, K.In base → base.Ns mainGlobals mg → TBs K mg base ts → FnG P w K mg base k fa fd [x] (spLawT K ts)) (bind : ∀ (s : Shared) (u : Value), BindsTo s fd ⟨[u], []⟩ [(x, u)]) :
    codeAny (model P w) callerA (.call (.ref fa) ⟨[.ref a], []⟩) (fun r s' => r = .ok (.ret (.bool true)) ∧ OldK t.heap s'.heap ∧ s'.os = t.os ∧ AllBare s'.gens) t := by
  have rv := vals_ints hi
  have aT : a ∉ al0 K ts := fun z => by
    have q := hemp a z
    rw [ha] at q
    cases q
  cases hk : K.lookup a with
  | some o =>
    have e := KX a o hk
    rw [ha] at e
    cases e
    refine law_atT (H := fun b => if b ∈ al0 K ts then some (.tbl #[]) else none) KX hns hb hbb hlim hg hbm hhd hout hemp ha hi h63 hr F bind (fun b u z => ?_) (fun b hm => if_pos hm) (.inr ⟨_, us.toArray, _, hk, rfl, rfl, rfl, ?_, by simpa using rv⟩)
    · split at z
      · cases z
        exact .inr ⟨by assumption, rfl⟩
      · cases z
    · rw [List.size_toArray, hi.length]
      exact Nat.le_trans h63 (by decide)
  | none =>
    refine law_atT (H := fun b => if b = a then some (.frz { cls := .type "list", data := .seq us.toArray } (.lst (ns.map V.int))) else if b ∈ al0 K ts then some (.tbl #[]) else none) KX hns hb hbb hlim hg hbm hhd hout hemp ha hi h63 hr F bind (fun b u z => ?_) (fun b hm => ?_) (.inl (.inr ⟨_, if_pos rfl⟩))
    · split at z
      · rename_i e
        cases z
        exact .inl ⟨e, hk, rfl⟩
      · split at z
        · cases z
          exact .inr ⟨by assumption, rfl⟩
        · cases z
    · show (if b = a then _ else _) = _
      rw [if_neg (fun z => aT (by rw [← z]; exact hm)), if_pos hm]
theorem walk_endT {l : PySem.W.OpenLaw} {k : Nat} {q : Program} {loose : List Str} {XP : (Str → Option Value) → Heap → Prop} {YP : World → Heap → Prop} {d : DefRec} {x : Str} {fx : List Fx} {fn : List He.DefD} {ts : List Mk2}
    (hn : l.most = some 63) (hdf : d.params.defaults = []) (hd : d.name = "law") (hr : Room k callerA) (hY : ∀ (w : World) (h : Heap), YP w h → ∃ K : PySem.W.Frag, K.In h ∧ SaysT fx fn (ts.map (·.1)) h K)
    (F : ∀ (w : World) (mg : Str → Option Value) (fa : Addr) (h : Heap) (K : PySem.W.Frag), K.In h → SaysX fx fn K → h.Ns mainGlobals mg → mg "law" = some (.ref fa) →
      ∃ fd : FuncData, (∀ (s : Shared) (v : Value), BindsTo s fd ⟨[v], []⟩ [(x, v)]) ∧ ∀ base : Heap, K.In base → base.Ns mainGlobals mg → TBs K mg base ts → FnG l.prog w K mg base k fa fd [x] (spLawT K ts)) :
    PySem.W.WalkO q loose XP YP l.row.toRowW d [] (fun f vs => PySem.call f vs) := by
  refine Att.attach_call hn hdf fun w s₀ s₁ mg mb fa o pm cd doc a vs ns G Y ho hd' hcd hmg hobj hints hlen hg => ?_
  obtain ⟨K, KX, c⟩ := hY w _ Y
  rw [hd] at hmg
  obtain ⟨fd, hb, hF⟩ := F w mg fa _ K KX c.s G.T.g hmg
  refine law_callT KX G.T.g G.T.b G.T.builtins G.T.nolimit hg G.T.bmain (fun q hq => c.hd _ (List.mem_map.mpr ⟨q, hq, rfl⟩)) (fun b hb => ?_) (fun b hb => ?_) hobj hints hlen hr hF hb
  · obtain ⟨q, hq, rfl⟩ := List.mem_map.mp hb
    exact c.out _ (List.mem_map.mpr ⟨q, hq, rfl⟩)
  · obtain ⟨q, hq, rfl⟩ := List.mem_map.mp hb
    exact c.empty _ (List.mem_map.mpr ⟨q, hq, rfl⟩)
theorem def_okL {P : Program} {w0 : World} {base : Heap} {x qual : Str} {st : Stmt} {fd : FuncData} {N ps : List Str} {k : Nat} {m : SM} {dvs : List V} {kws : List (Str × V)} {p : Str × Option Str} (F : FunD K x qual (defArgs st) (defBody st) (defScope st) dvs kws (He.fAd K p) fd) (S : FnScope N ps (defScope st))
    (hbody : ∀ (cdv : Value) (A : Around) (outer : List Env) (s : Shared) (H : Hp) (E : XK), cdv = .ref (He.cT K p).1 → Cg (cxOf (L2.CX P w0) P w0 K mg base N qual (defScope st) (He.fAd K p) cdv A outer s H E) (fun cls d _ H' => E cls d H') k →
      RSs (cxOf (L2.CX P w0) P w0 K mg base N qual (defScope st) (He.fAd K p) cdv A outer s H E) (fun cls d _ H' => E cls d H') (defBody st) m) :
    FnG P w0 K mg base (k + 1) (He.fAd K p) fd ps (spM K mg ps.length (fnM N.length m)) := by
  obtain ⟨oc, od, dV, kV, doc, pm, an, cdv, ct, osl, rfl, lk, hcd, _, _⟩ := F.ex
  obtain ⟨c, rfl⟩ := He.codeIn_ref hcd
  have hc : (He.cT K p).1 = c := He.codeOf_eq lk rfl
  constructor
  · exact fun vs H Q E h => h.1
  intro A outer s H args us vs Q E rm env bnd rel hs
  have inn : K.In s.heap := env.mod.kin.keeps fun a o q => (env.bs a o q).1
  have nol : s.heap.NoLimit := env.mod.nolimit.keeps fun a o q => (env.bs a o q).1
  apply codeAny_call_function rm.r.depth (inn _ _ lk) rfl S.co S.gen rfl (PySem.W.codeRec_of inn hcd)
  apply bnd
  apply wpAny_newFunctionEnv_cells S.kind
  · rintro ⟨n, u⟩ hn
    exact (S.par n (List.of_mem_zip hn).1).imp id fun q => ⟨q, PySem.W.cellsFrom_some _ _ _ (.inl q)⟩
  rintro _ rfl s1 nw
  constructor
  · exact nol.keeps nw.toInCall.keep
  have hI := inv_start (CX := L2.CX P w0) (E := E) S rm.r.hd env hs.1 rel nw
  have ht := hbody (.ref c) A outer s H E (by rw [hc]) ⟨rfl, S.nd, takes_of rfl rfl rfl rfl, passes_of rfl, ⟨rm.r.deeper _, fun q => rm.gd (Nat.le_succ_of_le q)⟩, rfl, rfl, rfl⟩
  obtain ⟨_, w, ds, rfl, R, rl, P1⟩ := hs
  apply codeAny_func
  refine wpAny_mono (ht.run [] s1 _ w.hp { nx := fun _ H' => Q .non H', rt := Q } hI ⟨w, enOf N.length ds, rfl, R, RepE.start rl N, ?_⟩) ?_ fun _ _ z => z
  · unfold fnM at P1
    cases q : m (enOf N.length ds) w.st with
    | nxt e S => rw [q] at P1; exact fun w1 s1 x1 R1 st1 _ => P1 w1 .non x1 R1 st1 .non
    | ret d S => rw [q] at P1; exact P1
    | brk e S => rw [q] at P1; exact False.elim P1
    | cnt e S => rw [q] at P1; exact False.elim P1
    | exc y e S => rw [q] at P1; exact fun w1 s1 c1 d1 x1 R1 st1 _ rx => P1 w1 c1 d1 x1 R1 st1 rx
    | stuck => rw [q] at P1; exact P1
  · intro fl s' z
    cases fl with
    | next => obtain ⟨st, H', J, q⟩ := z; exact ⟨V.non, H', J.os, J.bare, J.base, J.hok, rfl, q⟩
    | ret u => obtain ⟨v, st, H', J, rv, q⟩ := z; exact ⟨v, H', J.os, J.bare, J.base, J.hok, rv, q⟩
    | brk => exact False.elim z.choose_spec.choose_spec.2
    | cont => exact False.elim z.choose_spec.choose_spec.2
end
end G
namespace G
open PySem L2 PySem.Spec PyProof.Rows
section
variable {X : Cx} {W : WX} {a b c e o : Expr} {ma : EM} {pos : Pos} {p : Pos}
def enumD (l : List D) : List D := l.zipIdx.map fun q => .tup [.int (q.2 : Nat), q.1]
def enR (ds : List D) (S : Store) : Res (List D) := match ds with
  | [.tup l] => .ok (enumD l) S
  | [.lst l] => .ok (enumD l) S
  | _ => .stuck
def iEnum (m : AM) : AM := fun e S => (m e S).bind enR
end
end G
namespace G
open PySem L2 PySem.Spec
section
variable {X : Cx} {W : WX} {a b c e o : Expr} {es : List Expr} {ma mb mc me : EM} {ta tb : TM} {pos apos : Pos} {x : Str} {p : Pos} {j k : Nat}
variable {K : PySem.W.Frag} {mg : Str → Option Value} {w : Wo}
def lrOk (i : Int) : Prop := i ≤ 16777216 ∧ -(2 ^ 62) ≤ i
open Classical in
noncomputable def lrR (d : D) (S : Store) : Res (List D) := match d with
  | .int i => if lrOk i then .ok (rangeD 0 i.toNat) S else .stuck
  | _ => .stuck
noncomputable def eLr (m : EM) : EM := fun e S => (m e S).bind fun d S1 => (lrR d S1).bind fun l S2 => .ok (.lst l) S2
noncomputable def eLrN (m : EM) : EM := fun e S => (m e S).bind fun d S1 => (lrR d S1).bind fun l S2 => .ok (.loc S2.length) (S2 ++ [.lst l])
def seqT (S : Store) (y : D) : Option (List D) := match y with
  | .tup l => some l
  | _ => seqD S y
theorem RepD.seqT {d : D} {v : V} {l : List D} (R : Rep K mg w) (h : RepD K mg w d v) (e : G.seqT w.st d = some l) : ∃ a vs, v = .ref a ∧ (SqL K w.hp a vs ∨ SqT K w.hp a vs) ∧ RepL K mg w l vs := by
  unfold G.seqT at e
  split at e
  · cases e
    cases h with
    | tup s r => exact ⟨_, _, rfl, .inr s.sq, r⟩
  · obtain ⟨a, vs, rfl, q, r⟩ := h.seq R e
    exact ⟨a, vs, rfl, .inl q, r⟩
def dInL (neg : Bool) (S : Store) (x y : D) : Option D := match seqT S y, flatD x with
  | some l, some v => (flatL l).map fun vs => .bl (if neg then !inV v vs else inV v vs)
  | _, _ => none
theorem inL_pre {neg : Bool} {dx dy : D} {x y : V} {Q : VK} {E : XK} (R : Rep X.K X.mg w) (qx : RepD X.K X.mg w dx x) (qy : RepD X.K X.mg w dy y) (P : Post (RepD X.K X.mg) X.K X.mg w (lf (dInL neg w.st dx dy) w.st) Q E) : rIn X.K neg x y w.hp Q := by
  unfold dInL at P
  split at P
  · rename_i l v e1 e2
    obtain ⟨a, vs, rfl, q, r⟩ := qy.seqT R e1
    obtain ⟨rfl, fx⟩ := qx.flat e2
    cases e3 : flatL l with
    | none => rw [e3] at P; exact False.elim P
    | some us =>
      rw [e3] at P
      obtain ⟨rfl, fl⟩ := r.flat e3
      exact ⟨a, vs, rfl, q, fx, fl, Post.now P R (.bl _)⟩
  · exact False.elim P
theorem om_inL : OpR X (compareOp .In) (OpMS X (dInL false)) := by
  intro pins s σ H x y v u Q I rx ry h
  obtain ⟨w, dx, dy, E, rfl, R, qx, qy, P⟩ := h
  exact op_in_seq pins s σ w.hp _ _ v u Q I rx ry (inL_pre R qx qy P)
def popR (x : D) (xs : List D) (S : Store) : Res D := match x, xs with
  | .loc n, [.int i] => match S[n]? with
    | some (.lst l) => match seqIndex? i l.length with
      | some k => match l[k]? with
        | some y => if -(2 ^ 63) ≤ i ∧ i < 2 ^ 63 then .ok y (S.set n (.lst (l.eraseIdx k))) else .stuck
        | none => .stuck
      | none => .stuck
    | _ => .stuck
  | _, _ => .stuck
def ePop (a : EM) (m : AM) : EM := fun e S => (a e S).bind fun x S1 => if isLst S1 x then (m e S1).bind fun xs S2 => popR x xs S2 else .stuck
theorem RepL.eraseIdx {l : List D} {vs : List V} (h : RepL K mg w l vs) : ∀ k, RepL K mg w (l.eraseIdx k) (vs.eraseIdx k) := by
  induction h using RepL.rec (motive_1 := fun _ _ _ => True) (motive_3 := fun _ _ _ => True) with
  | nil => exact fun k => .nil
  | cons r t _ ih =>
    intro k
    cases k with
    | zero => exact t
    | succ k => exact .cons r (ih k)
  | _ => trivial
def augR (i : Nat) (e : En) (x y : D) (S : Store) : SRes := match x with
  | .int m => match y with
    | .int n => .nxt (e.set i (some (.int (m + n)))) S
    | _ => .stuck
  | .loc n => match S[n]?, lstOf S y with
    | some (.lst l), some zs => if l.length + zs.length ≤ sizeLine then .nxt (e.set i (some (.loc n))) (S.set n (.lst (l ++ zs))) else .stuck
    | _, _ => .stuck
  | _ => .stuck
def sAug (i : Nat) (m : EM) : SM := fun e S => match e[i]? with
  | some (some x) => sE (m e S) e fun y S1 => augR i e x y S1
  | _ => .stuck
theorem RepD.dpS {d : D} {v : V} {p : PyData} (R : Rep K mg w) (h : RepD K mg w d v) (e : (rsv w.st d).toP = some p) : Dp K w.hp v p := by
  cases h with
  | @loc n a hn =>
    have e : ((match w.st[n]? with | some (.lst l) => D.lst l | _ => .loc n) : D).toP = some p := e
    split at e
    · rename_i l hl
      obtain ⟨vs, p1, r1⟩ := R.cell _ _ _ hn hl
      rw [D.toP] at e
      obtain ⟨ps, e1, rfl⟩ := Option.map_eq_some_iff.mp e
      exact .lst (SqL.of p1) (r1.dp e1)
    · rw [D.toP] at e; cases e
  | non => exact RepD.dp (mg := mg) .non e
  | bl b => exact RepD.dp (mg := mg) (.bl b) e
  | int i => exact RepD.dp (mg := mg) (.int i) e
  | str x => exact RepD.dp (mg := mg) (.str x) e
  | tup s r => exact RepD.dp (.tup s r) e
  | lst s r => exact RepD.dp (.lst s r) e
  | scr s r => exact RepD.dp (.scr s r) e
  | dic s z r => exact RepD.dp (.dic s z r) e
  | ins g s r => exact RepD.dp (.ins g s r) e
  | exc g s x r => exact RepD.dp (.exc g s x r) e
  | fa a => exact RepD.dp (mg := mg) (.fa a) e
  | pin r => exact RepD.dp (.pin r) e
def eqS (S : Store) (x y : D) : Option Bool := eqP (rsv S x) (rsv S y)
theorem eqS_pre {dx dy : D} {x y : V} {r : Bool} (R : Rep X.K X.mg w) (qx : RepD X.K X.mg w dx x) (qy : RepD X.K X.mg w dy y) (h : eqS w.st dx dy = some r) : ∃ p q, Dp X.K w.hp x p ∧ Dp X.K w.hp y q ∧ SeqAt.shaped p = true ∧ SeqAt.shaped q = true ∧ PyData.eqv p q = r := by
  unfold eqS eqP at h
  split at h
  · rename_i p q e1 e2
    split at h
    · rename_i hs
      rw [Bool.and_eq_true] at hs
      exact ⟨p, q, qx.dpS R e1, qy.dpS R e2, hs.1, hs.2, Option.some.inj h⟩
    · cases h
  · cases h
def dEqS (S : Store) (x y : D) : Option D := (eqS S x y).map .bl
def dNeS (S : Store) (x y : D) : Option D := (eqS S x y).map fun b => .bl (!b)
theorem om_neS (hu : X.A.units + 64 < cLine) : OpR X (compareOp .NotEq) (OpMS X dNeS) := by
  intro pins s σ H x y v u Q I rx ry h
  obtain ⟨w, dx, dy, E, rfl, R, qx, qy, P⟩ := h
  unfold dNeS at P
  cases e : eqS w.st dx dy with
  | none => rw [e] at P; exact False.elim P
  | some r =>
    rw [e] at P
    obtain ⟨p, q, h1, h2, h3, h4, rfl⟩ := eqS_pre R qx qy e
    exact op_neD hu pins s σ w.hp _ _ v u Q I rx ry ⟨p, q, h1, h2, h3, h4, Post.now P R (.bl _)⟩
end
end G
namespace G
open PySem L2 PySem.Spec
section
variable {X : Cx} {W : WX} {l e1 e2 e3 : Expr} {m1 m2 m3 : EM} {pos : Pos} {x : Str} {p : Pos} {j k kk : Nat} {ps : List Str} {js : List Nat} {fkM : En → FM} {tb : Store → Bool} {m : Nat → List (Option D) → FM → FM}
theorem re_callH0 (c : Cg X W j) (hF : Dh X.prog X.w X.K X.mg X.base x ps k m) (hj : k + 1 ≤ j) (hl : LA X l js fkM tb kk) (hkk : kk ≤ k) (hps : ps.length = 1) (hcap : js.length ≤ 6) (hg : Gl X x := by rfl) (hdb : (x == ("__debug__" : Str)) = false := by decide)
    (hargs : backTo pos (starEach [l] X.env) = [(false, eval l X.env)] := by rfl) (he : starEach [l] X.env = (false, eval l X.env) :: starEach [] X.env := by rfl) :
    RE X W (.Call (.Name x p) [l] [] pos) (eCallH m js fkM tb 0 aNil) := re_callH c hF hj .nil hl hkk hps hcap hg hdb hargs he (by rfl)
end
end G
namespace G
open PySem L2 PySem.Spec PyProof.Rows
section
variable {X : Cx} {W : WX} {pos : Pos}
def gSq (n : Nat) (r : GMs) : GM := fun d e S => match d with
  | .tup ds => if ds.length = n then r ds e S else .stuck
  | .lst ds => if ds.length = n then r ds e S else .stuck
  | .loc j => match S[j]? with
    | some (.lst ds) => if ds.length = n then r ds e S else .stuck
    | _ => .stuck
  | _ => .stuck
end
end G
namespace G
open PySem L2 PySem.Spec
section
variable {X : Cx} {W : WX} {a b c e o : Expr} {es : List Expr} {ma mb mc me : EM} {ta tb : TM} {pos apos : Pos} {x : Str} {p : Pos} {j k : Nat}
variable {K : PySem.W.Frag} {mg : Str → Option Value} {w : Wo}
def eListN (m : EM) : EM := fun e S => (m e S).bind fun d S1 => (lf (seqT S1 d) S1).bind fun l S2 => .ok (.loc S2.length) (S2 ++ [.lst l])
def eRev (m : EM) : EM := fun e S => (m e S).bind fun d S1 => (lf (seqD S1 d) S1).bind fun l S2 => .ok (.lst l.reverse) S2
end
end G
namespace G
open PySem L2 PySem.Spec
structure Fam (B nw ini : String) (tl : List Value) : Prop where
  f : ExcBaseFacts B nw ini tl
  p : ∀ self : Value, refuseLoop self "__setattr__" tl = pure ()
  o : tl.contains (.type "object") = true
  e : tl.isEmpty = false
theorem fam_ValueError : Fam "ValueError" "ValueError.__new__" "ValueError.__init__" bmValueError := ⟨PySem.F.excBase_ValueError, PySem.F.store_ValueError.passes, by decide +kernel, rfl⟩
structure XoC (K : PySem.W.Frag) (C : Addr) (nw : String) (tl : List Value) : Prop where
  cls : ∃ nm q N bs bm sn sub ab col dd k0 k1 k2 k3 k5, K.lookup C = some (excClassObj nm q C N bs bm true sn sub ab col dd k0 k1 k2 k3 k5 nw) ∧ PySem.W.excTail tl bm = true
  sa : PySem.W.findIn K (.ref C) "__setattr__" = some (some (.builtin "object.__setattr__"))
  exC : PySem.W.subIn K (.ref C) (.type "BaseException") = some true
  tyC : PySem.W.typeIn K (.ref C) = some (.type "type")
  kC : PySem.W.keepIn K (.ref C) = true
section
open Builtin Builtin.ObjectAttr
variable {prog : Program} {w : World} {A : Around} {R : Result → Shared → Prop} {hp : Heap} {g : Array GenState} {d : Drawn} {t : Nat} {os : OsState} {tl : List Value}
theorem osa_first {K : W.Frag} {n : Str} {tk : Tok} {u : Value} {x C : Addr} {fv : Array Value} {cd : ClassData} (KX : K.In hp) (hx : hp.get? x = some { cls := .ref C, data := .fields fv }) (hcd : W.clsIn K C = some cd)
    (hm : W.excTail tl cd.mro = true) (hne : tl.isEmpty = false) (hto : tl.contains (.type "object") = true) (htp : ∀ self : Value, refuseLoop self "__setattr__" tl = pure ()) (hh : cd.hasDict = true) (hno : W.findIn K (.ref C) n = some none)
    (hq : ∀ h' tk' dx, (∀ b o, b ≠ x → hp.get? b = some o → h'.get? b = some o) → hp.objs.size ≤ dx → dx ≠ x → h'.get? x = some { cls := .ref C, dict := some dx, data := .fields fv } → h'.Ns1 dx (fun y => if y = n then some u else none) → R (.ok (.ret .none)) ⟨h', g, d, tk', os⟩) :
    codeAny (model prog w) A (.call (.builtin "object.__setattr__") ⟨[.ref x, .str n tk, u], []⟩) R ⟨hp, g, d, t, os⟩ := by
  have J : W.InstAt hp x { cls := .ref C, data := .fields fv } C none := ⟨hx, rfl, rfl, trivial⟩
  have G0 := F.store_object
  have ne : cd.mro.isEmpty = false := by
    cases q : cd.mro with
    | nil =>
      rw [q] at hm
      have : [] = tl := beq_iff_eq.mp hm
      rw [← this] at hne; cases hne
    | cons _ _ => rfl
  have hob : cd.mro.contains (.type "object") = true := (W.excTail_contains "object" _ hm).trans hto
  have hxs : x ≠ hp.objs.size := Nat.ne_of_lt (Heap.lt_size hx)
  have sb : W.Looks (model prog w) hp (isInstance (.ref x) (.type "object")) true := J.type.andThen (W.looks_mroIn KX (by unfold W.mroIn; rw [hcd, Option.bind_some, if_neg (by rw [ne]; decide), hob]))
  refine codeAny_call_builtin G0.slot.plain G0.entry (@W.check_slot (model prog w) _ _ ⟨hp, g, d, t, os⟩ "object.__setattr__" "object" "__setattr__" (.ref x) [.str n tk, u] [] _ G0.kind G0.split sb (G0.args (.ref x) (.str n tk) u) ?_)
  have lm : W.Looks (model prog w) hp (mroOf (.ref C)) cd.mro := (W.looks_clsIn KX hcd).andThen .now
  have l3 : W.Looks (model prog w) hp (storeTaker? none) none := .now
  have lc : W.Looks (model prog w) hp (classData C) cd := W.looks_clsIn KX hcd
  rw [W.osa_eq, refuse_eq]
  refine wpAny_bind (wpAny_bind (J.type.at (wpAny_bind (lm.at ?_))))
  rw [W.excTail_pass _ (htp _) _ hm]
  refine wpAny_pure (wpAny_bind (J.type.at (wpAny_bind ((W.looks_findIn KX hno).at (wpAny_bind (l3.at ?_))))))
  show wpAny _ _ (storeInOwnDict (.ref x) (.ref C) (.str n tk) n u false) _ _ _
  obtain ⟨c1, c2, c3, c4, c5, c6, c7, c8, c9, c10, c11⟩ := cd
  dsimp only at hh
  subst hh
  unfold storeInOwnDict ownDictForStores
  repeat (first | with_reducible refine HandSPX.store_in_new ?_ ?_ | with_reducible refine wpAny_loadPart_at hx ?_ | with_reducible refine lc.at ?_ | wp_step)
  · exact ⟨_, #[], _, (Heap.get?_update_ne _ _ _ _ hxs.symm).trans (Heap.get?_push_at rfl rfl), rfl, (fun e he => absurd he (by simp)), fun _ => rfl⟩
  · intro h' tk' hn' hs
    have hx1 : (hp.push { cls := .type "dict", data := .dict #[] }).get? x = some { cls := .ref C, data := .fields fv } := Heap.get?_push_of_some _ hx
    refine hq h' tk' hp.objs.size (fun b o hb ho => ?_) (Nat.le_refl _) hxs.symm ?_ hn'
    · exact (hs.2 b (Nat.ne_of_lt (Heap.lt_size ho))).trans ((Heap.get?_update_ne _ _ _ _ hb).trans (Heap.get?_push_of_some _ ho))
    · exact (hs.2 x hxs).trans (Heap.get?_update_self _ hx1 rfl)
end
section
variable {X : Cx} {pins : List (Addr × Obj)} {σ : L2.St} {H : Hp} {s : Shared} {a C : Addr} {f : Str} {y : V} {u : Value} {E : Value → Shared → Prop} {A : Around} {B nw ini : String} {tl : List Value}
theorem ost_first {Q : Unit → Shared → Prop} (T : XoC X.K C nw tl) (Y : Fam B nw ini tl) (I : L2.Inv X pins σ H s) (e : H a = some (exo a C none)) (hno : PySem.W.findIn X.K (.ref C) f = some none) (ry : RelV y u)
    (h : ∀ dx s', H dx = none → dx ≠ a → L2.Inv X pins σ (upd (upd H dx (exd dx [(f, y)])) a (exo a C (some dx))) s' → Q () s') : wpAny (model X.prog X.w) A (setAttr (.ref a) f u) Q E s := by
  obtain ⟨nm, q, N, bs, bm, sn, sub, ab, col, dd, k0, k1, k2, k3, k5, hC, hbm⟩ := T.cls
  have hcl : PySem.W.clsIn X.K C = some { name := nm, bases := bs, mro := .ref C :: bm, ns := N, qualname := q, hasDict := true, slotNames := sn, subclasses := sub, abstract := ab, collection := col, hasDel := false } := by unfold PySem.W.clsIn; rw [hC] <;> rfl
  obtain ⟨t1, ho⟩ := exo_at I.hok e
  obtain ⟨hp, g, d, t, os⟩ := s
  refine PySem.W.set_plain I.kIn (od := none) (ox := { cls := .ref C, dict := none, data := .fields #[.ref t1, .none, .none, .none, .bool false, .none] }) ⟨ho, rfl, rfl, trivial⟩ T.sa ?_
  refine osa_first I.kIn ho hcl (tl := tl) (show PySem.W.excTail tl (.ref C :: bm) = true from hbm) Y.e Y.o Y.p rfl hno (fun h' tk' dx k dn dne hx hn => ?_)
  have fd : H dx = none := I.hok.fresh dn
  have nd : ∀ {b : Addr} {o : Obj}, hp.get? b = some o → b ≠ dx := fun {b o} z => Nat.ne_of_lt (Nat.lt_of_lt_of_le (Heap.lt_size z) dn)
  have na : ∀ {b : Addr}, H b = none → b ≠ a := fun {b} n z => by rw [z, e] at n; cases n
  have U : Un X.fs [] H (upd (upd H dx (exd dx [(f, y)])) a (exo a C (some dx))) hp h' := {
    keep := fun b o z n _ _ => k b o (na n) z
    slot := fun b o z n _ _ => ⟨o.slots, k b o (na n) z⟩
    free := fun b o z n _ => by rw [upd_ne (na n), upd_ne (nd z)]; exact n
    there := fun b o z _ => by
      by_cases hb : b = a
      · subst hb; exact ⟨_, hx⟩
      · exact ⟨o, k b o hb z⟩
    tups := fun b xs z => by rw [upd_ne (at_ne e z exo_tup), upd_ne (ne_of_none z fd)]; exact z
    frzs := fun b o v z => by rw [upd_ne (at_ne e z exo_frz), upd_ne (ne_of_none z fd)]; exact z
    tbls := fun b ps z => ⟨#[], by rw [upd_ne (at_ne e z exo_tbl), upd_ne (ne_of_none z fd), z]; simp⟩ }
  refine h dx _ fd dne (I.un (t' := tk') U fun b o z => ?_)
  by_cases hb : b = a
  · subst hb
    rw [upd_same] at z; cases z
    exact exo_ok hx
  · rw [upd_ne hb] at z
    by_cases hd : b = dx
    · subst hd
      rw [upd_same] at z; cases z
      exact exd_ok hn (relO_put (fs := []) ry fun _ => True.intro)
    · rw [upd_ne hd] at z
      refine (I.hok b o z).stay (fun c v hc q => k c v ?_ q) (fun c hc => ?_) (fun c xs hc => ?_)
      · rcases hc with hc | hc
        · rw [hc]; exact hb
        · exact at_ne e hc exo_own
      · rw [upd_ne (at_ne e hc exo_own), upd_ne (ne_of_none hc fd)]; exact hc
      · rw [upd_ne (at_ne e hc exo_tup), upd_ne (ne_of_none hc fd)]; exact hc
theorem ini_first {us : List Value} {Q : Value → Shared → Prop} (T : XoC X.K C nw tl) (Y : Fam B nw ini tl) (I : L2.Inv X pins σ H s) (e : H a = some (exo a C none)) (hl : us.length ≤ sizeLine) (h : ∀ s', L2.Inv X pins σ H s' → Q .none s') :
    wpAny (model X.prog X.w) A (call (.builtin ini) (.ref a :: us)) Q E s := by
  obtain ⟨nm, q, N, bs, bm, sn, sub, ab, col, dd, k0, k1, k2, k3, k5, hC, hbm⟩ := T.cls
  obtain ⟨t1, ho⟩ := exo_at I.hok e
  obtain ⟨hp, g, d, t, os⟩ := s
  refine wpAny_call (PySem.HandSPX.init_base Y.f (fun z => PySem.W.excTail_contains z bm hbm) (I.kIn _ _ hC) ho hl fun h' t2 k hx => ?_)
  have J := I.write (t' := t) (x := a) (e := a) (o := exo a C none) (by rw [e]; exact True.intro) (.inl rfl) k ⟨_, hx⟩ (exo_ok hx)
  have eu : upd H a (exo a C none) = H := funext fun b => if hb : b = a then by rw [hb, upd_same, e] else by rw [upd_ne hb]
  exact h _ (eu ▸ J)
end
def tBi (K : PySem.W.Frag) (nw : String) (tl : List Value) (ta : TA) : TE := fun σ H Q => ta σ H fun vs H1 => ∃ (a C : Addr) (ws : List V), vs = .ref a :: ws ∧ ws.length ≤ 1000 ∧ XoC K C nw tl ∧ H1 a = some (exo a C none) ∧ Q .non H1
def tFs (K : PySem.W.Frag) (nw : String) (tl : List Value) (f : Str) (to te : TE) : TS := fun D σ H => te σ H fun y H1 => to σ H1 fun x H2 => ∃ a C : Addr, x = .ref a ∧ XoC K C nw tl ∧ PySem.W.findIn K (.ref C) f = some none ∧ H2 a = some (exo a C none) ∧
  ∀ dx, H2 dx = none → dx ≠ a → D.nx σ (upd (upd H2 dx (exd dx [(f, y)])) a (exo a C (some dx)))
structure HdC (K : PySem.W.Frag) (C : Addr) (ini : String) : Prop where
  ga : PySem.W.specialIn K (.ref C) "__getattribute__" = some (some (.builtin "type.__getattribute__"))
  rd : PySem.W.readsIn K C (.type "type") = true
  fi : PySem.W.findCls K (.ref C) (.type "type") "__init__" = some (.val (.builtin ini))
  hi : PySem.W.handedIn (.builtin ini) = true
section
variable {X : Cx} {o e : Expr} {es : List Expr} {to te : TE} {ta : TA} {f : Str} {p p' p1 p2 pos : Pos} {B nw ini : String} {tl : List Value} {x : Str} {Bc : Addr}
theorem pe_bini {pl : Sem Bool} (Y : Fam B nw ini tl) (hg : Gl X x) (hm : X.mg x = some (.ref Bc)) (hB : HdC X.K Bc ini) (ha : PA X (e :: es) ta) (hdb : (x == ("__debug__" : Str)) = false := by decide)
    (hc : eval (.Call (.Attribute (.Name x p1) "__init__" p2) (e :: es) [] pos) X.env = (do
      let ov ← eval (.Name x p1) X.env
      standAt p2.atName
      let (fv, first) ← holding [ov] (getMethod ov "__init__" pl)
      callWith pos fv first (backTo pos (starEach (e :: es) X.env)) (backToKw pos (keywordEach [] X.env))) := by rfl)
    (he : starEach (e :: es) X.env = (false, eval e X.env) :: starEach es X.env := by rfl) (hpl : (backTo pos (starEach es X.env)).any (·.1) = false := by rfl) :
    PE X (.Call (.Attribute (.Name x p1) "__init__" p2) (e :: es) [] pos) (tBi X.K nw tl ta) := by
  refine ⟨fun pins s σ H Q I h => ?_⟩
  refine PySem.W.methodCall_KW (ld_glob I hg hm ?_ hdb) hc
  refine PySem.W.method_cls I.kIn hB.ga (PySem.W.cls_value I.kIn hB.rd hB.fi hB.hi ?_)
  show wpAny _ _ (callWith pos (Value.builtin ini) [] (backTo pos (starEach (e :: es) X.env)) []) _ _ _
  refine PyProof.Rows.callWith_method1 (thn (ha.run pos pins _ σ H _ (I.tok _) h) fun us s1 hu => ?_) he hpl
  obtain ⟨vs, H1, I1, r1, a, C, ws, rfl, hl, T, ea, q⟩ := hu
  cases r1 with
  | @cons _ u0 _ ur ra rr =>
    obtain rfl : u0 = Value.ref a := ra
    exact ini_first T Y I1 ea (by rw [← Paired.length rr, sizeLine_eq]; omega) fun s' J => ⟨.non, H1, J, rfl, q⟩
theorem ps_fst (Y : Fam B nw ini tl) (ho : PE X o to) (he : PE X e te) (hs : swapsWith e (some (.Attribute o f p')) pos.line X.env = pure false := by rfl) : PS X (.Assign [.Attribute o f p'] e pos) (tFs X.K nw tl f to te) := by
  refine ⟨fun pins s σ H D I h => ?_⟩
  refine plainObj_wpAny_Assign_Attribute (thn (he.run pins s σ H _ I h) fun v s1 hv => ?_) hs
  obtain ⟨y, H1, I1, r1, q1⟩ := hv
  refine thn (ho.run pins s1 σ H1 _ I1 q1) fun u s2 hu => ?_
  obtain ⟨z, H2, I2, r2, a, C, rfl, T, hno, ea, q⟩ := hu
  obtain rfl : u = Value.ref a := r2
  exact ost_first T Y I2 ea hno r1 fun dx s' n ne J => ⟨σ, _, J, q dx n ne⟩
end
end G
namespace G
open PySem L2 PySem.Spec
def tIni (K : PySem.W.Frag) (nw : String) (tl : List Value) (f : Str) : TS := fun D σ H => ∃ (a C : Addr) (v : V), σ[0]? = some (some (.ref a)) ∧ σ[1]? = some (some v) ∧ XoC K C nw tl ∧ PySem.W.findIn K (.ref C) f = some none ∧ H a = some (exo a C none) ∧
  ∀ dx, H dx = none → dx ≠ a → D.nx σ (upd (upd H dx (exd dx [(f, v)])) a (exo a C (some dx)))
section
variable {X : Cx} {B nw ini : String} {tl : List Value} {b sf y f m : Str} {Bc : Addr} {p1 p2 p3 p4 p5 p6 p7 p8 p9 p10 : Pos} {j : Nat} {pl : Sem Bool}
theorem pss_ini (Y : Fam B nw ini tl) (hm : X.mg b = some (.ref Bc)) (hB : HdC X.K Bc ini) (h0 : PE X (.Name sf p3) (tVar 0)) (h0' : PE X (.Name sf p7) (tVar 0)) (h1 : PE X (.Name y p9) (tVar 1)) (hg : Gl X b := by rfl) (hdb : (b == ("__debug__" : Str)) = false := by decide)
    (hc : eval (.Call (.Attribute (.Name b p1) "__init__" p2) [.Name sf p3, .Constant (.str m) j p4] [] p5) X.env = (do
      let ov ← eval (.Name b p1) X.env
      standAt p2.atName
      let (fv, first) ← holding [ov] (getMethod ov "__init__" pl)
      callWith p5 fv first (backTo p5 (starEach [.Name sf p3, .Constant (.str m) j p4] X.env)) (backToKw p5 (keywordEach [] X.env))) := by rfl)
    (he : starEach [.Name sf p3, .Constant (.str m) j p4] X.env = (false, eval (.Name sf p3) X.env) :: starEach [.Constant (.str m) j p4] X.env := by rfl)
    (he2 : starEach [.Constant (.str m) j p4] X.env = (false, eval (.Constant (.str m) j p4) X.env) :: starEach [] X.env := by rfl)
    (hpl : (backTo p5 (starEach [.Constant (.str m) j p4] X.env)).any (·.1) = false := by rfl)
    (hs1 : swapsWith (.Call (.Attribute (.Name b p1) "__init__" p2) [.Name sf p3, .Constant (.str m) j p4] [] p5) none p6.line X.env = pure false := by rfl)
    (hs2 : swapsWith (.Name y p9) (some (.Attribute (.Name sf p7) f p8)) p10.line X.env = pure false := by rfl) :
    PSs X [.Expr (.Call (.Attribute (.Name b p1) "__init__" p2) [.Name sf p3, .Constant (.str m) j p4] [] p5) p6, .Assign [.Attribute (.Name sf p7) f p8] (.Name y p9) p10] (tIni X.K nw tl f) := by
  refine pss_imp (pss_cons (ps_expr (pe_bini Y hg hm hB (pa_cons h0 (pa_cons pe_str pa_nil he2) he) hdb hc he hpl) hs1) (pss_one (ps_fst Y h0' h1 hs2))) ?_
  rintro D s H ⟨a, C, v, e0, e1, T, hno, ea, q⟩
  exact ⟨.ref a, e0, a, C, _, rfl, (by simp), T, ea, v, e1, .ref a, e0, a, C, rfl, T, hno, ea, q⟩
end
def spIni (K : PySem.W.Frag) (nw : String) (tl : List Value) (f : Str) : Sp := fun vs H Q _ => ∃ (a C : Addr) (v : V), vs = [.ref a, v] ∧ XoC K C nw tl ∧ PySem.W.findIn K (.ref C) f = some none ∧ H a = some (exo a C none) ∧
  ∀ dx, H dx = none → dx ≠ a → Q .non (upd (upd H dx (exd dx [(f, v)])) a (exo a C (some dx)))
section
variable {P : Program} {w0 : World} {K : PySem.W.Frag} {mg : Str → Option Value} {base : Heap}
theorem ini_fn {x qual : Str} {st : Stmt} {fI : Addr} {fd : FuncData} {sf y f : Str} {nw : String} {tl : List Value} (F : FunD K x qual (defArgs st) (defBody st) (defScope st) [] [] fI fd) (S : FnScope [sf, y] [sf, y] (defScope st))
    (hb : ∀ (cdv : Value) (A : Around) (outer : List Env) (s : Shared) (H : Hp) (E : XK), PSs (cxOf (L2.CX P w0) P w0 K mg base [sf, y] qual (defScope st) fI cdv A outer s H E) (defBody st) (tIni K nw tl f)) :
    FnOk P w0 K mg base (L2.CX P w0) 1 fI fd [sf, y] (spIni K nw tl f) := by
  obtain ⟨oc, od, dV, kV, doc, pm, an, cdv, ct, osl, rfl, lk, hcd, _, _⟩ := F.ex
  refine fn_of lk hcd S (fun vs H Q E h => ?_) (fun A outer s H vs Q E hr h => ?_)
  · obtain ⟨a, C, v, rfl, _⟩ := h; rfl
  · obtain ⟨a, C, v, rfl, T, hno, ea, q⟩ := h
    exact ⟨_, hb cdv A outer s H E, a, C, v, rfl, rfl, T, hno, ea, q⟩
end
section
variable {X : Cx} {W : WX} {e : Expr} {me : EM} {ta : TA} {p pos pos2 : Pos} {B nw ini : String} {tl : List Value} {x : Str} {C fI : Addr} {fd : FuncData} {ps : List Str} {f : Str} {k : Nat}
theorem pmk_fld (T : XoC X.K C nw tl) (Y : Fam B nw ini tl) (iC : PySem.W.findIn X.K (.ref C) "__init__" = some (some (.ref fI))) (tI : PySem.W.typeIn X.K (.ref fI) = some (.type "function")) (F1 : FnOk X.prog X.w X.K X.mg X.base (L2.CX X.prog X.w) 1 fI fd ps (spIni X.K nw tl f))
    (hr : Room 2 X.A) (hb : Binds X.K fd ps []) (hno : PySem.W.findIn X.K (.ref C) f = some none) (hg : Gl X x) (hm : X.mg x = some (.ref C)) (ha : PA X [e] ta) (hdb : (x == ("__debug__" : Str)) = false := by decide) (he : starEach [e] X.env = (false, eval e X.env) :: starEach [] X.env := by rfl) (hpl : (backTo pos (starEach [] X.env)).any (·.1) = false := by rfl) :
    PMk X (.Call (.Name x p) [e] [] pos) (fun σ H Q => ta σ H fun vs H1 => ∃ v, vs = [v] ∧ ∀ d, H1 d = none → Q (.ref C) (some d) (upd H1 d (.xd [(f, v)]))) := by
  intro pins s σ H Q I h
  obtain ⟨nm, q, N, bs, bm, sn, sub, ab, col, dd, k0, k1, k2, k3, k5, hC, hbm⟩ := T.cls
  refine wpAny_Call_Name_kw (ld_glob I hg hm ?_ hdb)
  refine PySem.W.callWith_K (h₀ := X.base) I.ok.mod.kin T.kC (thn (ha.run pos pins s σ H _ I h) fun us s1 hu => ?_) he hpl
  obtain ⟨vs, H1, I1, r1, v, rfl, q1⟩ := hu
  refine ⟨I1.kIn, ?_⟩
  show wpAny _ _ (call (.ref C) us) _ _ _
  obtain ⟨hp, g, dr, tk, os⟩ := s1
  have hsz : hp.objs.size ≤ hp.objs.size + 1 := Nat.le_succ _
  have hn : H1 (hp.objs.size + 1) = none := I1.hok.fresh hsz
  have kk : ∀ b o, hp.get? b = some o → ((hp.push (PySem.W.kdv_tup us)).push (PySem.HandSPX.excO C hp.objs.size)).get? b = some o := fun b o z => Heap.get?_push_of_some _ (Heap.get?_push_of_some _ z)
  have hget : ((hp.push (PySem.W.kdv_tup us)).push (PySem.HandSPX.excO C hp.objs.size)).get? (hp.objs.size + 1) = some (PySem.HandSPX.excO C hp.objs.size) := by heap_get
  have I2 : L2.Inv X pins σ (upd H1 (hp.objs.size + 1) (exo (hp.objs.size + 1) C none)) ⟨(hp.push (PySem.W.kdv_tup us)).push (PySem.HandSPX.excO C hp.objs.size), g, dr, tk, os⟩ :=
    I1.laid (t' := tk) (a := hp.objs.size + 1) (o := exo (hp.objs.size + 1) C none) (h' := (hp.push (PySem.W.kdv_tup us)).push (PySem.HandSPX.excO C hp.objs.size)) kk hsz (exo_ok hget)
  have hq : spIni X.K nw tl f [.ref (hp.objs.size + 1), v] (upd H1 (hp.objs.size + 1) (exo (hp.objs.size + 1) C none))
      (fun z H2 => z = .non ∧ ∃ (d : Addr) (fs : List (Str × V)), H2 (hp.objs.size + 1) = some (exo (hp.objs.size + 1) C (some d)) ∧ H2 d = some (exd d fs) ∧ H1 d = none ∧ Q (.ref C) (some d) (upd (del H2 (hp.objs.size + 1)) d (.xd fs))) (fun _ _ _ => False) := by
    refine ⟨_, C, v, rfl, T, hno, upd_same, fun dx hd hne => ⟨rfl, dx, [(f, v)], upd_same, ?_, ?_, ?_⟩⟩
    · rw [upd_ne hne, upd_same]
    · rw [upd_ne hne] at hd; exact hd
    · have hd1 : H1 dx = none := by rw [upd_ne hne] at hd; exact hd
      have eu : upd (del (upd (upd (upd H1 (hp.objs.size + 1) (exo (hp.objs.size + 1) C none)) dx (exd dx [(f, v)])) (hp.objs.size + 1) (exo (hp.objs.size + 1) C (some dx))) (hp.objs.size + 1)) dx (.xd [(f, v)]) = upd H1 dx (.xd [(f, v)]) := by
        funext b
        by_cases h1 : b = dx
        · rw [h1, upd_same, upd_same]
        · rw [upd_ne h1, upd_ne h1]
          by_cases h2 : b = hp.objs.size + 1
          · rw [h2, del_same, hn]
          · rw [del_ne h2, upd_ne h2, upd_ne h1, upd_ne h2]
      rw [eu]
      exact q1 dx hd1
  have r2 : Vals (V.ref (hp.objs.size + 1) :: [v]) (Value.ref (hp.objs.size + 1) :: us) := .cons rfl r1
  have hl : (Value.ref (hp.objs.size + 1) :: us).length = ps.length := by rw [← r2.length]; exact F1.len _ _ _ _ hq
  have hus : us.length ≤ sizeLine := by rw [← Paired.length r1, sizeLine_eq]; simp
  have hbb := hb ⟨(hp.push (PySem.W.kdv_tup us)).push (PySem.HandSPX.excO C hp.objs.size), g, dr, tk, os⟩ (Value.ref (hp.objs.size + 1) :: us) I2.kIn (by simpa using hl)
  rw [List.append_nil] at hbb
  refine wpAny_call (PySem.HandSPX.call_own Y.f (fun z => PySem.W.excTail_contains z bm hbm) (I1.kIn _ _ hC) (PySem.W.looks_findIn I1.kIn iC) (fun self => PySem.W.bind_fn I1.kIn self tI) hus
    (codeAny_mono (F1.run _ X.stack _ _ ⟨Value.ref (hp.objs.size + 1) :: us, []⟩ (Value.ref (hp.objs.size + 1) :: us) _ _ (fun _ _ _ => False) (hr.make C us []) (I2.env0.make C us []) hbb r2 hq) fun r s' hq' => ?_))
  cases r with
  | error er =>
    obtain ⟨_, _, _, _, _, _, _, _, _, _, _, _, z⟩ := hq'
    exact False.elim z
  | ok fl =>
    cases fl with
    | ret u =>
      obtain ⟨z, H2, os2, bare2, un2, hok2, rv, rfl, d, fs, ea, ed, hd1, q2⟩ := hq'
      obtain ⟨h2, g2, d2, t2, os'⟩ := s'
      exact ⟨rv, mk_end (raises_own T.exC T.tyC) I1 hsz kk un2 hok2 os2 bare2 ea ed hd1 q2⟩
    | next => exact False.elim hq'
    | brk => exact False.elim hq'
    | cont => exact False.elim hq'
structure XfI (P : Program) (w0 : World) (K : PySem.W.Frag) (mg : Str → Option Value) (base : Heap) (x : Str) (ini : String) (nw : String) (tl : List Value) (f : Str) : Prop where
  ex : ∃ C fI fd sf y, mg x = some (.ref C) ∧ XoC K C nw tl ∧ PySem.W.findIn K (.ref C) "__init__" = some (some (.ref fI)) ∧ PySem.W.typeIn K (.ref fI) = some (.type "function") ∧ PySem.W.findIn K (.ref C) f = some none ∧ Binds K fd [sf, y] [] ∧ FnOk P w0 K mg base (L2.CX P w0) 1 fI fd [sf, y] (spIni K nw tl f)
def sRaiseF (cn f : Nat) (m : EM) : SM := fun e S => sE (m e S) e fun d S1 => .exc (.exc cn [(f, d)]) e S1
theorem rs_raiseF (cn fn : Nat) (c : Cg X W k) (Y : Fam B nw ini tl) (hF : XfI X.prog X.w X.K X.mg X.base x ini nw tl (fname fn)) (he : RE X W e me) (hk : 2 ≤ k := by decide) (hcn : cname cn = x := by rfl) (hg : Gl X x := by rfl) (hdb : (x == ("__debug__" : Str)) = false := by decide) (hst : starEach [e] X.env = (false, eval e X.env) :: starEach [] X.env := by rfl)
    (hpl : (backTo pos (starEach [] X.env)).any (·.1) = false := by rfl) : RS X W (.Raise (some (.Call (.Name x p) [e] [] pos)) none pos2) (sRaiseF cn fn me) := by
  obtain ⟨C, fI, fd, sf, y, hm, T, iC, tI, hno, hb, F1⟩ := hF.ex
  refine ps_imp (ps_raise c.calm c.tk (pmk_fld T Y iC tI F1 (c.rm.mono hk).r hb hno hg hm (ra_cons he ra_nil (hs := hst)) hdb hst hpl)) ?_
  rintro D s H ⟨w, en, rfl, R, E, P⟩
  refine ⟨w, en, rfl, R, E, ?_⟩
  unfold aCons aNil
  unfold sRaiseF at P
  cases q : me en w.st with
  | stuck => rw [q] at P; exact P
  | exc z S => rw [q] at P; exact fun w1 cls dd x1 R1 st1 rx => P w1 s cls dd x1 R1 st1 (E.ext x1.toEx0) rx
  | ok d S =>
    rw [q] at P
    intro w1 vs x1 R1 st1 rl
    obtain ⟨v, rfl, rv⟩ := rl.one_inv
    refine ⟨v, rfl, fun dx hd => ?_⟩
    have xp := put_ext (o := .xd [(fname fn, v)]) R1 hd
    exact P (w1.put dx (.xd [(fname fn, v)])) s (.ref C) (some dx) (x1.trans xp) (R1.put hd) st1 ((E.ext x1.toEx0).ext xp.toEx0) ⟨cn, C, [(fn, d)], [(fname fn, v)], rfl, by rw [hcn]; exact hm, rfl, .inr ⟨by simp, dx, rfl, put_st R1 hd⟩, .cons (rv.ext xp.toEx0) .nil⟩
end
end G
namespace G
open PySem L2 PySem.Spec PyProof.Rows
theorem fly_keeps {B h h' : Heap} {l : List Env} {e : Addr} {Z : Obj → Prop} (k : ∀ b o, h.get? b = some o → h'.get? b = some o) (fl : HandSPX.FlyingZ B l e Z h) : HandSPX.FlyingZ B l e Z h' := by
  obtain ⟨f1, f2, f3, oe, vs, T, oT, ts, g1, g2, g3, g4, g5, g6, g7, g8, g9⟩ := fl
  exact ⟨fun b o z => k b o (f1 b o z), f2, Heap.FunFrames.of_keeps (fun b o z _ => ⟨o, k b o z, rfl⟩) f3, oe, vs, T, oT, ts, k _ _ g1, g2, g3, g4, g5, g6, k _ _ g7, g8, g9⟩
def TestOk (X : Cx) (te : Expr) (cs : List Value) : Prop := ∀ (pn : List (Addr × Obj)) (σ : L2.St) (H : Hp) (sh : Shared) (ad : Addr) (cls : Value) (b : Bool) (Q : Value → Shared → Prop) (E : Value → Shared → Prop),
  L2.Inv (X.suite ad pn) [] σ H sh → PySem.W.Looks (model X.prog X.w) sh.heap (typeOf (.ref ad)) cls → PySem.W.exmAny X.K cls cs = some b →
  (∀ c h4, (∀ q o, sh.heap.get? q = some o → h4.get? q = some o) → PySem.W.Looks (model X.prog X.w) h4 (excMatches (.ref ad) c) b → Q c { sh with heap := h4 }) →
  wpAny (model X.prog X.w) (X.A.mark (some (.ref ad))) (eval te X.env) Q E sh
section
variable {X : Cx} {x x1 x2 x3 x4 : Str} {c c1 c2 c3 c4 : Value} {np p1 p2 p3 p4 pos : Pos} {k : Nat}
theorem name_ld {pn : List (Addr × Obj)} {σ : L2.St} {H : Hp} {sh : Shared} {ad : Addr} {Q : Value → Shared → Prop} {E : Value → Shared → Prop} (hc : Names X x c) (I : L2.Inv (X.suite ad pn) [] σ H sh) (q : Q c sh) : wpAny (model X.prog X.w) (X.A.mark (some (.ref ad))) (eval (.Name x np) X.env) Q E sh := by
  obtain ⟨hg, hdb, hm | ⟨hm, hv, hnn⟩⟩ := hc
  · exact ld_glob (X := X.suite ad pn) I hg hm q hdb
  · exact ld_blt (X := X.suite ad pn) I hg hm hv q hnn hdb
theorem test_one (hc : Names X x c) : TestOk X (.Name x np) [c] := by
  intro pn σ H sh ad cls b Q E I LT hx h
  obtain ⟨b1, d1, y1, y2, rfl⟩ := PySem.W.exmAny_cons hx
  cases (show some false = some d1 from y2)
  rw [Bool.or_false] at h
  exact name_ld hc I (h c sh.heap (fun _ _ z => z) (PySem.W.exm_one I.kIn LT y1))
end
abbrev Hd := List Value × Option Nat × TS
inductive HdsG (X : Cx) : List ExceptHandler → List Hd → Prop
  | nil : HdsG X [] []
  | as {te : Expr} {cs : List Value} {n : Str} {i : Nat} {b0 : Stmt} {suite : List Stmt} {p : Pos} {ts : TS} {hs : List ExceptHandler} {l : List Hd} (ht : TestOk X te cs) (hi : X.N[i]? = some n) (hln : X.env.kindOf n = some .local)
      (hsu : ∀ (ad : Addr) (pn : List (Addr × Obj)), PSs (X.suite ad pn) (b0 :: suite) ts) (r : HdsG X hs l) : HdsG X (.ExceptHandler (some te) (some n) (b0 :: suite) p :: hs) ((cs, some i, ts) :: l)
  | bare {te : Expr} {cs : List Value} {b0 : Stmt} {suite : List Stmt} {p : Pos} {ts : TS} {hs : List ExceptHandler} {l : List Hd} (ht : TestOk X te cs)
      (hsu : ∀ (ad : Addr) (pn : List (Addr × Obj)), PSs (X.suite ad pn) (b0 :: suite) ts) (r : HdsG X hs l) : HdsG X (.ExceptHandler (some te) none (b0 :: suite) p :: hs) ((cs, none, ts) :: l)
def wHds (K : PySem.W.Frag) (Wo : WX) (D : Ends) : List Hd → WX
  | [] => Wo
  | (cs, some i, ts) :: r => fun cls d s H => ∃ b, PySem.W.exmAny K cls cs = some b ∧ (b = true → ∀ ad, H ad = none → ts ⟨fun s' H' => D.nx (s'.set i none) H', D.rt, fun s' H' => D.bk (s'.set i none) H', fun s' H' => D.ct (s'.set i none) H'⟩ (s.set i (some (.ref ad))) (upd H ad (ExcO ad cls d))) ∧ (b = false → wHds K Wo D r cls d s H)
  | (cs, none, ts) :: r => fun cls d s H => ∃ b, PySem.W.exmAny K cls cs = some b ∧ (b = true → ts D s H) ∧ (b = false → wHds K Wo D r cls d s H)
section
variable {X : Cx} {body : List Stmt} {h0 : ExceptHandler} {hds : List ExceptHandler} {l : List Hd} {pos : Pos} {tb : WX → TS} {Wt : WX}
theorem ps_tryG (hs : X.stack = X.env :: X.outer) (hf : X.env.frame = some X.env.locals) (hex : X.ex = []) (hN : X.N.Nodup) (tk : Takes X Wt)
    (hb : ∀ (W' : WX) (pn : List (Addr × Obj)) (xe : Value → Shared → Prop), Takes (X.tr pn xe) W' → PassesOwn (model X.prog X.w) X.A X.env xe → PSs (X.tr pn xe) body (tb W'))
    (hh : HdsG X (h0 :: hds) l) : PS X (.Try body (h0 :: hds) [] [] pos) (fun D s H => tb (wHds X.K Wt D l) D s H) := by
  refine ⟨fun pins sh s H D I h => ?_⟩
  have ok := I.ok
  have frames : X.A.frames = some (X.env :: X.outer) := ok.frames.trans (congrArg some hs)
  refine wpAny_Try_except ?_
  refine wpAny_mono ((hb (wHds X.K Wt D l) (X.pn ++ pins)
    (fun y s1 => wpAny (model X.prog X.w) X.A (noteFrame y X.env) (fun _ s2 => wpAny (model X.prog X.w) X.A (setFlight y none) (fun _ s3 =>
      wpAny (model X.prog X.w) X.A (handleBy y X.env (h0 :: hds)) (SP X pins D) X.xe s3) X.xe s2) X.xe s1)
    (fun u s' xx => ?_) PassesOwn.looking).run [] sh s H D (I.toTry _) h) (fun fl s1 hsp => ?_) (fun _ _ q => q)
  · obtain ⟨ad, B, sI, pins', s5, H5, cls, d, rfl, J5, nb, up, sky, na, os, ag, w⟩ := xx
    have J : L2.Inv X pins s5 H5 sI := J5.ofTry ok
    have sky1 : Sky B (X.env :: X.outer) ad (Zc cls d) X.env.locals s'.heap := hs ▸ sky
    show wpAny (model X.prog X.w) X.A (noteFrame (.ref ad) X.env) _ _ _
    refine Sky.land Zc.steady frames hf sky1 fun h3 fl3 up3 => ?_
    have go : ∀ (hds' : List ExceptHandler) (l' : List Hd), HdsG X hds' l' → ∀ h3, HandSPX.FlyingZ B (X.env :: X.outer) ad (Zc cls d) h3 → s'.heap.UpToSlots h3 → wHds X.K Wt D l' cls d s5 H5 →
        wpAny (model X.prog X.w) X.A (handleBy (.ref ad) X.env hds') (SP X pins D) X.xe { s' with heap := h3 } := by
      intro hds' l' hk
      induction hk with
      | nil =>
        intro h3 fl3 up3 w
        refine wpAny_handleBy_nil ?_
        obtain ⟨k1, k2, k3, oe, vs, T, oT, ts', he, hz, hd, h1, hr⟩ := id fl3
        unfold PySem.passOn
        refine wpAny_bind (wpAny_field he hd h1 ?_)
        rw [if_neg (show ¬ ((Value.ref T == Value.none) = true) from by simp)]
        have fin : wpAny (model X.prog X.w) X.A (setFlight (.ref ad) X.env.frame) (fun _ s4 => wpAny (model X.prog X.w) X.A (throw (.ref ad) : Sem Flow) (SP X pins D) X.xe s4) X.xe { s' with heap := h3 } := by
          rw [hf]
          refine HandSPX.setFlight_upZ fl3 fun h4 hh4 up4 => wpAny_throw (tk _ _ ?_)
          exact ⟨ad, B, sI, pins, s5, H5, cls, d, rfl, J, nb, (up.trans up3).trans up4, .inr (.inr (by rw [hs]; exact hh4)), na, os, ag, w⟩
        first
          | exact wpAny_bind (wpAny_pure (wpAny_bind fin))
          | exact wpAny_bind fin
      | @as te cs n i b0 suite p ts hs' l2 ht hi hln hsu r ih =>
        intro h3 fl3 up3 w
        obtain ⟨b, hb1, hyes, hno⟩ := w
        have J3 : L2.Inv X pins s5 H5 { s' with heap := h3 } := J.landed nb fl3.1 (up.trans up3) os ag
        obtain ⟨oe3, vs3, he3, hz3, hd3⟩ := fl3.there
        refine wpAny_handleBy_cons (codeAny_handlers_test ?_) (by intro q; cases q)
        refine ht (X.pn ++ pins) s5 H5 _ ad cls b _ _ (inv_suite J3 ad) (fun A Q E s k q => wpAny_typeOf_ref (k _ _ he3) (hz3.1 ▸ q)) hb1 fun c h4 k4 LM => LM.here ?_
        have fl4 := fly_keeps k4 fl3
        have up4 : s'.heap.UpToSlots h4 := up3.trans (Heap.UpToSlots.of_keeps k4)
        cases b with
        | true =>
          refine codeAny_handlers_suite_as (HandSPX.lands_againZ fl4 fun h5 fl5 up5 => ?_)
          have J5 : L2.Inv X pins s5 H5 { s' with heap := h5 } := J.landed nb fl5.1 ((up.trans up4).trans up5) os ag
          obtain ⟨oe5, vs5, he5, hz5, hd5⟩ := fl5.there
          have nfr : ad ∉ frs (X.env :: X.outer) := fun hm => by
            obtain ⟨_, o', e', hnf⟩ := fl5.2.2.1.mem hm
            rw [he5] at e'; cases e'
            exact hnf _ hd5
          have nL : ad ≠ X.env.locals := fun z => nfr (List.mem_filterMap.mpr ⟨X.env, List.mem_cons_self, by rw [hf, z]⟩)
          have noI : sI.heap.get? ad = none := by
            cases q : sI.heap.get? ad with
            | none => rfl
            | some o =>
              have z := nb ad o q (by rw [hs]; exact nfr)
              rw [fl5.2.1] at z; cases z
          have no0 : X.s_0.heap.get? ad = none := by
            cases q : X.s_0.heap.get? ad with
            | none => rfl
            | some o =>
              obtain ⟨o', z⟩ := J.base.there ad o q (by rw [hex]; simp)
              rw [noI] at z; cases z
          have noC : ∀ y c', X.env.cells.lookup y = some c' → c' ≠ ad := fun y c' e z => by
            obtain ⟨v, o, ho, _⟩ := J.cell y c' e
            rw [z, noI] at ho; cases ho
          have noP : ∀ q, q ∈ X.pn ++ pins → q.1 ≠ ad := fun q hq z => by
            have e := (J.pin q hq).1
            rw [z, noI] at e; cases e
          have J6 : L2.Inv X pins s5 (upd H5 ad (ExcO ad cls d)) { s' with heap := h5 } := inv_track J5 na no0 nL noC noP
            ⟨⟨oe5, vs5, he5, hz5.1, hz5.2, hd5⟩, ⟨oe5, he5⟩, fun h1 h2 ⟨o, v, e, r⟩ k => ⟨o, v, k o e, r⟩⟩
          refine store_ok (X := X.suite ad (X.pn ++ pins)) (v := .ref ad) (inv_suite J6 ad) hN hi (.inl hln) rfl (fun s6 S6 => ?_) (.inr hln)
          refine wpAny_mono ((hsu ad (X.pn ++ pins)).run [] s6 _ _ _ S6 (hyes rfl ad na)) (fun fl s7 hsp => ?_) (fun _ _ z => False.elim z)
          have fin : ∀ {t : L2.St} {H7 : Hp} {Q : Shared → Prop}, L2.Inv (X.suite ad (X.pn ++ pins)) [] t H7 s7 → (∀ s8, L2.Inv X pins (t.set i none) H7 s8 → Q s8) →
              wpAny (model X.prog X.w) X.A (do bindName X.env n .none; unbindBehindTheSuite X.env n p) (fun _ s8 => Q s8) X.xe s7 := fun {t H7 Q} S7 hq => gone_ok (inv_out ok S7) hN hi hln hq
          cases fl with
          | next => obtain ⟨t, H7, S7, q7⟩ := hsp; exact fin S7 fun s8 J8 => ⟨_, _, J8, q7⟩
          | brk => obtain ⟨t, H7, S7, q7⟩ := hsp; exact fin S7 fun s8 J8 => ⟨_, _, J8, q7⟩
          | cont => obtain ⟨t, H7, S7, q7⟩ := hsp; exact fin S7 fun s8 J8 => ⟨_, _, J8, q7⟩
          | ret u => obtain ⟨v7, t, H7, S7, r7, q7⟩ := hsp; exact fin S7 fun s8 J8 => ⟨_, _, _, J8, r7, q7⟩
        | false =>
          show wpAny _ X.A (handleBy (.ref ad) X.env hs') _ _ _
          exact ih h4 fl4 up4 (hno rfl)
      | @bare te cs b0 suite p ts hs' l2 ht hsu r ih =>
        intro h3 fl3 up3 w
        obtain ⟨b, hb1, hyes, hno⟩ := w
        have J3 : L2.Inv X pins s5 H5 { s' with heap := h3 } := J.landed nb fl3.1 (up.trans up3) os ag
        obtain ⟨oe3, vs3, he3, hz3, hd3⟩ := fl3.there
        refine wpAny_handleBy_cons (codeAny_handlers_test ?_) (by intro q; cases q)
        refine ht (X.pn ++ pins) s5 H5 _ ad cls b _ _ (inv_suite J3 ad) (fun A Q E s k q => wpAny_typeOf_ref (k _ _ he3) (hz3.1 ▸ q)) hb1 fun c h4 k4 LM => LM.here ?_
        have fl4 := fly_keeps k4 fl3
        have up4 : s'.heap.UpToSlots h4 := up3.trans (Heap.UpToSlots.of_keeps k4)
        cases b with
        | true =>
          refine codeAny_handlers_suite (HandSPX.lands_againZ fl4 fun h5 fl5 up5 => ?_)
          have J5 : L2.Inv X pins s5 H5 { s' with heap := h5 } := J.landed nb fl5.1 ((up.trans up4).trans up5) os ag
          refine wpAny_mono ((hsu ad (X.pn ++ pins)).run [] _ _ _ _ (inv_suite J5 ad) (hyes rfl)) (fun fl s7 hsp => ?_) (fun _ _ z => False.elim z)
          cases fl with
          | next => obtain ⟨t, H7, S7, q7⟩ := hsp; exact ⟨_, _, inv_out ok S7, q7⟩
          | brk => obtain ⟨t, H7, S7, q7⟩ := hsp; exact ⟨_, _, inv_out ok S7, q7⟩
          | cont => obtain ⟨t, H7, S7, q7⟩ := hsp; exact ⟨_, _, inv_out ok S7, q7⟩
          | ret u => obtain ⟨v7, t, H7, S7, r7, q7⟩ := hsp; exact ⟨_, _, _, inv_out ok S7, r7, q7⟩
        | false =>
          show wpAny _ X.A (handleBy (.ref ad) X.env hs') _ _ _
          exact ih h4 fl4 up4 (hno rfl)
    exact go _ _ hh h3 fl3 up3 w
  · cases fl with
    | next => obtain ⟨t, H1, J1, q⟩ := hsp; exact wpAny_execs_nil ⟨t, H1, J1.ofTry ok, q⟩
    | brk => obtain ⟨t, H1, J1, q⟩ := hsp; exact ⟨t, H1, J1.ofTry ok, q⟩
    | cont => obtain ⟨t, H1, J1, q⟩ := hsp; exact ⟨t, H1, J1.ofTry ok, q⟩
    | ret u => obtain ⟨v, t, H1, J1, r, q⟩ := hsp; exact ⟨v, t, H1, J1.ofTry ok, r, q⟩
end
def sSuO (oi : Option Nat) (r : SRes) : SRes := match oi with
  | some i => sSu i r
  | none => match r with
    | .exc _ _ _ => .stuck
    | r => r
abbrev HdM := List (Nat → Option Bool) × Option Nat × SM
def setO (e : En) (oi : Option Nat) (d : D) : En := match oi with
  | some i => e.set i (some d)
  | none => e
def hdR : List HdM → Nat → List (Nat × D) → SM
  | [], cn, fs, e, S => .exc (.exc cn fs) e S
  | (ts, oi, n) :: r, cn, fs, e, S => match tbAny ts cn with
    | some true => sSuO oi (n (setO e oi (.exc cn fs)) S)
    | some false => hdR r cn fs e S
    | none => .stuck
def sTryG (hs : List HdM) (m : SM) : SM := fun e S => match m e S with
  | .exc (.exc cn fs) e1 S1 => hdR hs cn fs e1 S1
  | .exc _ _ _ => .stuck
  | r => r
def TbOk (K : PySem.W.Frag) (mg : Str → Option Value) (t : Nat → Option Bool) (c : Value) : Prop := ∀ cn C q, t cn = some q → mg (cname cn) = some (.ref C) → PySem.W.exmOne K (.ref C) c = some q
inductive TbsOk (K : PySem.W.Frag) (mg : Str → Option Value) : List (Nat → Option Bool) → List Value → Prop
  | nil : TbsOk K mg [] []
  | cons {t : Nat → Option Bool} {c : Value} {ts : List (Nat → Option Bool)} {cs : List Value} (h : TbOk K mg t c) (r : TbsOk K mg ts cs) : TbsOk K mg (t :: ts) (c :: cs)
theorem TbsOk.any {K : PySem.W.Frag} {mg : Str → Option Value} {ts : List (Nat → Option Bool)} {cs : List Value} (h : TbsOk K mg ts cs) {cn : Nat} {C : Addr} {q : Bool} (e : tbAny ts cn = some q) (hC : mg (cname cn) = some (.ref C)) : PySem.W.exmAny K (.ref C) cs = some q := by
  induction h generalizing q with
  | nil => exact e
  | @cons t c ts cs h r ih =>
    unfold tbAny at e
    split at e
    · rename_i a b e1 e2
      cases e
      unfold PySem.W.exmAny
      rw [h cn C a e1 hC, ih e2]
    · cases e
inductive RHs (X : Cx) : List ExceptHandler → List HdM → Prop
  | nil : RHs X [] []
  | as {te : Expr} {cs : List Value} {ts : List (Nat → Option Bool)} {n : Str} {i : Nat} {b0 : Stmt} {suite : List Stmt} {p : Pos} {m : SM} {hs : List ExceptHandler} {l : List HdM} (ht : TestOk X te cs) (hts : TbsOk X.K X.mg ts cs) (hi : X.N[i]? = some n) (hln : X.env.kindOf n = some .local)
      (hsu : ∀ (ad : Addr) (pn : List (Addr × Obj)), RSs (X.suite ad pn) W0 (b0 :: suite) m) (r : RHs X hs l) : RHs X (.ExceptHandler (some te) (some n) (b0 :: suite) p :: hs) ((ts, some i, m) :: l)
  | bare {te : Expr} {cs : List Value} {ts : List (Nat → Option Bool)} {b0 : Stmt} {suite : List Stmt} {p : Pos} {m : SM} {hs : List ExceptHandler} {l : List HdM} (ht : TestOk X te cs) (hts : TbsOk X.K X.mg ts cs)
      (hsu : ∀ (ad : Addr) (pn : List (Addr × Obj)), RSs (X.suite ad pn) W0 (b0 :: suite) m) (r : RHs X hs l) : RHs X (.ExceptHandler (some te) none (b0 :: suite) p :: hs) ((ts, none, m) :: l)
section
variable {X : Cx} {W : WX} {body : List Stmt} {h0 : ExceptHandler} {hds : List ExceptHandler} {l : List HdM} {pos : Pos} {mt : SM} {k : Nat}
theorem RHs.clauses {hs : List ExceptHandler} {l : List HdM} (h : RHs X hs l) : ∃ l2 : List Hd, HdsG X hs l2 ∧ ∀ (D0 : Ends) (w1 : Wo) (e1 : En) (s1 : L2.St) (cn : Nat) (C : Addr) (fs : List (Nat × D)) (gs : List (Str × V)) (dd : Option Addr), Rep X.K X.mg w1 → RepE X.K X.mg w1 e1 s1 → X.mg (cname cn) = some (.ref C) → XfO w1 dd gs → RepF X.K X.mg w1 fs gs → PostS X W w1 (hdR l cn fs e1 w1.st) D0 → wHds X.K W D0 l2 (.ref C) dd s1 w1.hp := by
  induction h with
  | nil =>
    refine ⟨[], .nil, fun D w1 e1 s1 cn C fs gs dd R1 E1 hC hx rf P => ?_⟩
    exact P w1 s1 (.ref C) dd (Ext.refl w1) R1 rfl E1 ⟨cn, C, fs, gs, rfl, hC, rfl, hx, rf⟩
  | @as te cs ts n i b0 suite p m hs l ht hts hi hln hsu r ih =>
    obtain ⟨l2, g, ihw⟩ := ih
    refine ⟨(cs, some i, tS X W0 m) :: l2, .as ht hi hln hsu g, fun D w1 e1 s1 cn C fs gs dd R1 E1 hC hx rf P => ?_⟩
    rw [hdR] at P
    cases et : tbAny ts cn with
    | none => rw [et] at P; exact False.elim P
    | some q =>
      rw [et] at P
      refine ⟨q, hts.any et hC, ?_, ?_⟩
      · rintro rfl ad na
        have xp := put_ext (o := ExcO ad (.ref C) dd) R1 na
        refine ⟨w1.put ad (ExcO ad (.ref C) dd), e1.set i (some (.exc cn fs)), rfl, R1.put na, (E1.ext xp.toEx0).set i (.exc hC (put_st R1 na) (hx.ext xp.toEx0) (rf.ext xp.toEx0)), ?_⟩
        show PostS X W0 _ (m _ w1.st) _
        have P2 : PostS X W (w1.put ad (ExcO ad (.ref C) dd)) (sSu i (m (e1.set i (some (.exc cn fs))) w1.st)) D := PostS.ext P xp
        cases q2 : m (e1.set i (some (.exc cn fs))) w1.st with
        | nxt e S => rw [q2] at P2; exact fun w3 s3 x3 R3 st3 E3 => P2 w3 _ x3 R3 st3 (E3.gone i)
        | brk e S => rw [q2] at P2; exact fun w3 s3 x3 R3 st3 E3 => P2 w3 _ x3 R3 st3 (E3.gone i)
        | cnt e S => rw [q2] at P2; exact fun w3 s3 x3 R3 st3 E3 => P2 w3 _ x3 R3 st3 (E3.gone i)
        | ret e S => rw [q2] at P2; exact P2
        | exc y e S => rw [q2] at P2; exact False.elim P2
        | stuck => rw [q2] at P2; exact False.elim P2
      · rintro rfl
        exact ihw D w1 e1 s1 cn C fs gs dd R1 E1 hC hx rf P
  | @bare te cs ts b0 suite p m hs l ht hts hsu r ih =>
    obtain ⟨l2, g, ihw⟩ := ih
    refine ⟨(cs, none, tS X W0 m) :: l2, .bare ht hsu g, fun D w1 e1 s1 cn C fs gs dd R1 E1 hC hx rf P => ?_⟩
    rw [hdR] at P
    cases et : tbAny ts cn with
    | none => rw [et] at P; exact False.elim P
    | some q =>
      rw [et] at P
      refine ⟨q, hts.any et hC, ?_, ?_⟩
      · rintro rfl
        refine ⟨w1, e1, rfl, R1, E1, ?_⟩
        have P2 : PostS X W w1 (sSuO none (m e1 w1.st)) D := P
        show PostS X W0 _ (m e1 w1.st) _
        cases q2 : m e1 w1.st with
        | nxt e S => rw [q2] at P2; exact P2
        | brk e S => rw [q2] at P2; exact P2
        | cnt e S => rw [q2] at P2; exact P2
        | ret e S => rw [q2] at P2; exact P2
        | exc y e S => rw [q2] at P2; exact False.elim P2
        | stuck => rw [q2] at P2; exact False.elim P2
      · rintro rfl
        exact ihw D w1 e1 s1 cn C fs gs dd R1 E1 hC hx rf P
theorem rs_tryG (c : Cg X W k) (hb : ∀ (W' : WX) (pn : List (Addr × Obj)) (xe : Value → Shared → Prop), Cg (X.tr pn xe) W' k → RSs (X.tr pn xe) W' body mt) (hh : RHs X (h0 :: hds) l) : RS X W (.Try body (h0 :: hds) [] [] pos) (sTryG l mt) := by
  obtain ⟨l2, g, hw⟩ := RHs.clauses (W := W) hh
  refine ps_imp (ps_tryG (tb := fun W' => tS X W' mt) c.hs c.hf c.em c.nd c.tk (fun W' pn xe t po => hb W' pn xe (c.tr t po)) g) ?_
  rintro D s H ⟨w, en, rfl, R, E, P⟩
  refine ⟨w, en, rfl, R, E, ?_⟩
  unfold sTryG at P
  cases q : mt en w.st with
  | nxt e S => rw [q] at P; exact P
  | ret e S => rw [q] at P; exact P
  | brk e S => rw [q] at P; exact P
  | cnt e S => rw [q] at P; exact P
  | stuck => rw [q] at P; exact P
  | exc y e1 S1 =>
    rw [q] at P
    intro w1 s1 cls dd x1 R1 st1 E1 rx
    subst st1
    obtain ⟨cn, C, fs, gs, rfl, hC, rfl, hx, rf⟩ := rx
    exact hw D w1 e1 s1 cn C fs gs dd R1 E1 hC hx rf (PostS.ext P x1)
end
end G
namespace G
open PySem L2 PySem.Spec
section
variable {X : Cx} {pins : List (Addr × Obj)} {σ : L2.St} {H : Hp} {s : Shared}
theorem exc_inst {ad C : Addr} {dd : Option Addr} {gs : List (Str × V)} (I : L2.Inv X pins σ H s) (hH : H ad = some (ExcO ad (.ref C) dd)) (hx : (gs = [] ∧ dd = none) ∨ (gs ≠ [] ∧ ∃ x, dd = some x ∧ H x = some (.xd gs))) :
    ∃ o od, PySem.W.InstAt s.heap ad o C od ∧ ∀ n v, gs.lookup n = some v → ∃ u od', od = some od' ∧ RelV v u ∧ PySem.W.lookIn n od' = some (some u) := by
  obtain ⟨⟨o, vs, ho, hc1, hd1, hdt⟩, _⟩ := (show ObjOk X.prog X.w H s.heap ad (ExcO ad (.ref C) dd) from I.hok ad _ hH)
  obtain ⟨oc, od, oda, osl⟩ := o
  dsimp only at hc1 hd1 hdt
  subst hc1 hd1 hdt
  rcases hx with ⟨rfl, rfl⟩ | ⟨_, x, rfl, hd⟩
  · exact ⟨_, none, ⟨ho, rfl, rfl, trivial⟩, fun n v z => by cases z⟩
  · obtain ⟨mA, hns, hr⟩ := (show ObjOk X.prog X.w H s.heap x (.xd gs) from I.hok x _ hd)
    obtain ⟨od, hod, hl⟩ := lookIn_ns hns
    refine ⟨_, some od, ⟨ho, rfl, rfl, hod⟩, fun n v z => ?_⟩
    obtain ⟨u, hu, ru⟩ := RelO.some_of (v := v) (o := mA n) (by rw [← z]; exact hr n)
    exact ⟨u, od, rfl, ru, by rw [hl, hu]⟩
end
def rIsY (K : PySem.W.Frag) : List V → Hp → VK → Prop := fun xs H Q => ∃ (ad C : Addr) (dd : Option Addr) (gs : List (Str × V)) (cv : V) (u : Value) (bb : Bool), xs = [.ref ad, cv] ∧ ClsV cv u ∧ H ad = some (ExcO ad (.ref C) dd) ∧ ((gs = [] ∧ dd = none) ∨ (gs ≠ [] ∧ ∃ x, dd = some x ∧ H x = some (.xd gs))) ∧ ExcC K C ∧ PySem.W.kitOne K (.ref C) u = some bb ∧ Q (.bl bb) H
section
variable {X : Cx}
theorem clsSome {K : PySem.W.Frag} {C : Addr} (h : PySem.W.hasDictIn K C = true) : (PySem.W.clsIn K C).isSome = true := by
  obtain ⟨cd, hc, _⟩ := PySem.W.any_some h
  rw [hc]; rfl
theorem call_isY : CallR X (.builtin "isinstance") (rIsY X.K) := by
  intro pins s σ H xs us Q I r h
  obtain ⟨ad, C, dd, gs, cv, u, bb, rfl, k, hH, hx, hC, e, q⟩ := h
  obtain ⟨u1, u2, rfl, r1, r2⟩ := vals2 r
  cases (show u1 = Value.ref ad from r1)
  have e2 := k.eq r2
  subst e2
  obtain ⟨o, od, J, _⟩ := exc_inst I hH hx
  exact PySem.W.kia_one (PySem.W.kitx_exc (clsSome hC.hd) hC.hg hC.hk hC.hs hC.ha hC.hn hC.ht hC.hm) I.kIn J e (fun z => nomatch z) fun tk => ⟨.bl bb, H, I.kept (t' := tk) fun _ _ z => z, rfl, q⟩
end
theorem XfO.plain {w : Wo} {dd : Option Addr} {gs : List (Str × V)} (h : XfO w dd gs) : (gs = [] ∧ dd = none) ∨ (gs ≠ [] ∧ ∃ x, dd = some x ∧ w.hp x = some (.xd gs)) := h.imp id fun ⟨z, x, q, s⟩ => ⟨z, x, q, s.1⟩
section
variable {X : Cx} {W : WX} {a b c e o : Expr} {es : List Expr} {ma mb mc me : EM} {ta tb : TM} {pos : Pos} {x : Str} {p : Pos} {j k : Nat}
def isY (tb : Nat → Option Bool) : D → Option Bool
  | .exc cn _ => tb cn
  | _ => none
def eIsY (tb : Nat → Option Bool) (m : EM) : EM := fun e S => (m e S).bind fun x S1 => lf ((isY tb x).map .bl) S1
theorem re_isY {T : Str} {p2 : Pos} {cv : V} {u : Value} {tb : Nat → Option Bool} (hm : X.mg "isinstance" = none) (ha : RE X W a ma) (hT : PE X (.Name T p2) (tC cv)) (hcv : ClsV cv u) (htb : KtOk X.K X.mg tb u) (hg : Gl X "isinstance" := by rfl)
    (he : starEach (a :: [.Name T p2]) X.env = (false, eval a X.env) :: starEach [.Name T p2] X.env := by rfl) (hpl : (backTo pos (starEach [.Name T p2] X.env)).any (·.1) = false := by rfl) (hs2 : starEach [.Name T p2] X.env = (false, eval (.Name T p2) X.env) :: starEach [] X.env := by rfl) :
    RE X W (.Call (.Name "isinstance" p) [a, .Name T p2] [] pos) (eIsY tb ma) := by
  refine pe_imp (pe_callB call_isY hg hm bt_isinstance (pa_cons ha (pa_cons hT pa_nil hs2) he) (by decide) (by decide) he hpl) ?_
  rintro s H Q ⟨w, en, rfl, R, E, P⟩
  refine ⟨w, en, rfl, R, E, (Post.bind P).imp ?_⟩
  rintro v H1 ⟨w1, d, rfl, X1, R1, rx, P1⟩
  dsimp only at P1
  unfold isY at P1
  split at P1
  · rename_i cn fs
    cases rx with
    | @exc _ C ad dd _ gs hC st hx rf =>
      cases ht : tb cn with
      | none => rw [ht] at P1; exact False.elim P1
      | some q =>
        rw [ht] at P1
        obtain ⟨k1, k2⟩ := htb cn C q ht hC
        exact ⟨ad, C, dd, gs, cv, u, q, rfl, hcv, st.1, hx.plain, k1, k2, Post.now P1 R1 (.bl _)⟩
  · exact False.elim P1
theorem KtsOk.any {K : PySem.W.Frag} {mg : Str → Option Value} {ts : List (Nat → Option Bool)} {cs : List Value} (h : KtsOk K mg ts cs) {cn : Nat} {C : Addr} {q : Bool} (e : tbAny ts cn = some q) (hC : mg (cname cn) = some (.ref C)) : PySem.W.kitAny K (.ref C) cs = some q := by
  induction h generalizing q with
  | nil => exact e
  | @cons t c ts cs h r ih =>
    unfold tbAny at e
    split at e
    · rename_i b1 b2 e1 e2
      cases e
      unfold PySem.W.kitAny
      rw [(h cn C b1 e1 hC).2]
      cases b1 with
      | true => rfl
      | false => exact ih e2
    · cases e
def fldY (cs : List Nat) (f : Nat) : D → Option D
  | .exc cn fs => if cs.contains cn then fs.lookup f else none
  | _ => none
def eFldY (cs : List Nat) (f : Nat) (m : EM) : EM := fun e S => (m e S).bind fun x S1 => lf (fldY cs f x) S1
def XcF (K : PySem.W.Frag) (mg : Str → Option Value) (cs : List Nat) (f : Nat) : Prop := ∀ cn C, cs.contains cn = true → mg (cname cn) = some (.ref C) → ExcC K C ∧ PySem.W.findIn K (.ref C) (fname f) = some none
def tXg (K : PySem.W.Frag) (n : Str) (te : TE) : TE := fun σ H Q => te σ H fun x H1 => ∃ (ad C : Addr) (dd : Option Addr) (gs : List (Str × V)) (v : V), x = .ref ad ∧ H1 ad = some (ExcO ad (.ref C) dd) ∧ ((gs = [] ∧ dd = none) ∨ (gs ≠ [] ∧ ∃ x, dd = some x ∧ H1 x = some (.xd gs))) ∧ ExcC K C ∧ PySem.W.findIn K (.ref C) n = some none ∧ gs.lookup n = some v ∧ Q v H1
theorem pe_xg {e : Expr} {te : TE} {n : Str} (he : PE X e te) (hb : attributeBase e n X.env (eval e X.env) = eval e X.env := by rfl) : PE X (.Attribute e n pos) (tXg X.K n te) := by
  refine ⟨fun pins s σ H Q I h => ?_⟩
  refine attr_of hb (thn (he.run pins s σ H _ I h) fun u s1 hh => ?_)
  obtain ⟨z, H1, I1, rx, ad, C, dd, gs, v, rfl, hH, hx, hC, hno, hl, q⟩ := hh
  obtain rfl : u = Value.ref ad := rx
  obtain ⟨o, od, J, hf⟩ := exc_inst I1 hH hx
  obtain ⟨u, od', rfl, ru, hlk⟩ := hf n v hl
  exact HandSPX.exc_get I1.kIn J hC.hg hC.hk hC.hs (PySem.W.findObj_own hC.hd hno rfl hlk) (handed_of ru) ⟨v, H1, I1.tok _, ru, q⟩
theorem re_fldY {cs : List Nat} (f : Nat) (hcl : XcF X.K X.mg cs f) (ha : RE X W a ma) (hf : f < 48 := by decide) (hx : fname f = x := by rfl) (hb : attributeBase a x X.env (eval a X.env) = eval a X.env := by rfl) : RE X W (.Attribute a x pos) (eFldY cs f ma) := by
  refine pe_imp (pe_xg ha hb) ?_
  rintro s H Q ⟨w, en, rfl, R, E, P⟩
  refine ⟨w, en, rfl, R, E, (Post.bind P).imp ?_⟩
  rintro v H1 ⟨w1, d, rfl, X1, R1, rd, P1⟩
  dsimp only at P1
  unfold fldY at P1
  split at P1
  · rename_i cn fs
    split at P1
    · rename_i hc
      cases ql : fs.lookup f with
      | none => rw [ql] at P1; exact False.elim P1
      | some d' =>
        rw [ql] at P1
        cases rd with
        | @exc _ C ad dd _ gs hC st hx' rf =>
          obtain ⟨v', h1, h2⟩ := rf.get hf ql
          obtain ⟨k1, k2⟩ := hcl cn C hc hC
          rw [hx] at h1 k2
          exact ⟨ad, C, dd, gs, v', rfl, st.1, hx'.plain, k1, k2, h1, Post.now P1 R1 h2⟩
    · exact False.elim P1
  · exact False.elim P1
end
end G
namespace G
open PySem L2 PySem.Spec
section
variable {K : PySem.W.Frag}
theorem xoL_ok {C : Addr} {tl : List Value} {nw : String} (h : xoL K C tl nw = true) : ∃ nm q N bs bm sn sub ab col dd k0 k1 k2 k3 k5, K.lookup C = some (excClassObj nm q C N bs bm true sn sub ab col dd k0 k1 k2 k3 k5 nw) ∧ PySem.W.excTail tl bm = true := by
  unfold xoL at h
  split at h
  · rename_i c dd cd sl ho
    obtain ⟨h1, h2⟩ := He.ba h
    have h1 := of_decide_eq_true h1
    subst h1
    unfold xoC at h2
    split at h2
    · rename_i C' bm k0 k1 k2 k3 n k5 hm hs
      obtain ⟨e1, h2⟩ := He.ba h2
      obtain ⟨e2, h2⟩ := He.ba h2
      obtain ⟨e3, h2⟩ := He.ba h2
      obtain ⟨e4, e5⟩ := He.ba h2
      have e1 := of_decide_eq_true e1
      have e2 := of_decide_eq_true e2
      obtain ⟨nm, bs, mro, N, qn, hd, sn, sub, ab, col, del⟩ := cd
      dsimp only at hm e3 e4
      obtain ⟨l⟩ := sl
      dsimp only at hs
      subst e1 e2 e4 hm hs
      have e3 : del = false := by simpa using e3
      subst e3
      exact ⟨nm, qn, N, bs, bm, sn, sub, ab, col, dd, k0, k1, k2, k3, k5, ho, e5⟩
    · cases h2
  · cases h
theorem xoB_ok {x : Str} {tl : List Value} {nw : String} (h : xoB x tl nw K = true) : XoC K (He.ga K x) nw tl := by
  obtain ⟨c1, c⟩ := He.ba h
  obtain ⟨c2, c⟩ := He.ba c
  obtain ⟨c3, c⟩ := He.ba c
  obtain ⟨c4, c5⟩ := He.ba c
  exact ⟨xoL_ok c1, He.eqO_ok c2, of_decide_eq_true c3, of_decide_eq_true c4, c5⟩
theorem iniB_ok {x f : Str} (h : iniB x f K = true) : PySem.W.findIn K (.ref (He.ga K x)) "__init__" = some (some (.ref (He.fAd K (x, some "__init__")))) ∧ PySem.W.typeIn K (.ref (He.fAd K (x, some "__init__"))) = some (.type "function") ∧ PySem.W.findIn K (.ref (He.ga K x)) f = some none := by
  obtain ⟨c1, c⟩ := He.ba h
  obtain ⟨c2, c3⟩ := He.ba c
  exact ⟨He.eqO_ok c1, of_decide_eq_true c2, He.eqO_ok c3⟩
theorem fcB_ok {C : Addr} {ini : String} (h : fcB K C ini = true) : PySem.W.findCls K (.ref C) (.type "type") "__init__" = some (.val (.builtin ini)) := by
  unfold fcB at h
  split at h
  · rename_i n e
    rw [e, of_decide_eq_true h]
  · cases h
theorem hdB_ok {x : Str} {ini : String} (h : hdB x ini K = true) : HdC K (He.ga K x) ini := by
  obtain ⟨c1, c⟩ := He.ba h
  obtain ⟨c2, c⟩ := He.ba c
  obtain ⟨c3, c4⟩ := He.ba c
  exact ⟨He.eqO_ok c1, c2, fcB_ok c3, c4⟩
theorem xcf_at {h : Heap} {mg : Str → Option Value} (X : K.In h) (Y : h.Ns mainGlobals mg) {f : Nat} {cs : List Nat} (c : xcfB f cs K = true) : XcF K mg cs f := by
  intro cn C hc hC
  have m : cn ∈ cs := by simpa using hc
  obtain ⟨g1, g2⟩ := He.ba (List.all_eq_true.mp c cn m)
  obtain ⟨g3, g4⟩ := He.ba g2
  have g := glo_one X Y g1
  rw [g] at hC
  cases hC
  exact ⟨exqB_ok g3, He.eqO_ok g4⟩
end
end G
namespace G
open PySem L2 PySem.Spec
def isTyO (S : Store) (y : Ty) (d : D) : Option Bool := match tyD S d with
  | some t => some (t.is y)
  | none => match insD S d with
    | some (c, _) => if ownCs.contains c then some false else none
    | none => none
section
variable {X : Cx} {W : WX} {a b c e o : Expr} {es : List Expr} {ma mb mc me : EM} {pos : Pos} {x : Str} {p : Pos} {j k : Nat}
def eIsTyO (y : Ty) (m : EM) : EM := fun e S => (m e S).bind fun x S1 => lf ((isTyO S1 y x).map .bl) S1
end
end G
namespace G
open PySem L2
variable {X : Cx} {W : WX} {a b c o e : Expr} {es : List Expr} {pos : Pos} {ma mb : EM}
def rangeN (lo : Int) (n : Nat) : List D := (List.range n).map fun k => .int (lo - (k : Nat))
open Classical in
noncomputable def iRgN (m : AM) : AM := fun e S => (m e S).bind fun ds S1 => match ds with
  | [.int i, .int j, .int (.negSucc 0)] => if -(2 ^ 62) ≤ i ∧ i < 2 ^ 62 ∧ -(2 ^ 62) ≤ j ∧ j < 2 ^ 62 then .ok (rangeN i (i - j).toNat) S1 else .stuck
  | _ => .stuck
def eTm (f : Store → D → List D → Option D) (a : EM) (m : AM) : EM := fun e S => (a e S).bind fun x S1 => match x with
  | .str z => (m e S1).bind fun xs S2 => lf (f S2 (.str z) xs) S2
  | _ => .stuck
theorem re_tm {name : Str} {id : String} {f : Store → D → List D → Option D} {m : AM} {apos : Pos} (hm : MtR X id (MtX X f)) (slot : Slot "str" name id) (hty : typeOf (.builtin id) = pure (.type "method_descriptor")) (ho : RE X W o ma) (ha : RA X W (e :: es) m)
    (hbase : attributeBase o name X.env (eval o X.env) = eval o X.env := by rfl)
    (hfew : ((backTo pos (starEach (e :: es) X.env)).all (fun x => !x.1) && (backToKw pos (keywordEach [] X.env)).all (fun x => x.1.isSome) && decide ((e :: es).length + ([] : List Keyword).length + (if ([] : List Keyword).isEmpty then 0 else 1) < 30)) = true := by rfl)
    (hline : (apos.endLine == pos.line) = true := by rfl) (hs : starEach (e :: es) X.env = (false, eval e X.env) :: starEach es X.env := by rfl) (hpl : (backTo pos (starEach es X.env)).any (·.1) = false := by rfl) :
    RE X W (.Call (.Attribute o name apos) (e :: es) [] pos) (eTm f ma m) := by
  refine pe_imp (pe_bm PySem.F.plainAttrs_str slot hty hm ho ha hbase hfew hline hs hpl) ?_
  rintro s H Q ⟨w, en, rfl, R, E, P⟩
  refine ⟨w, en, rfl, R, E, (Post.bind P).imp ?_⟩
  rintro v H1 ⟨w1, d, rfl, X1, R1, rd, P1⟩
  dsimp only at P1
  split at P1
  · cases rd
    refine ⟨rfl, w1, en, rfl, R1, E.ext X1.toEx0, (Post.bind P1).imp ?_⟩
    rintro us H2 ⟨w2, xs, rfl, X2, R2, rl, P2⟩
    exact ⟨w2, _, xs, _, rfl, R2, .str _, rl, P2⟩
  · exact False.elim P1
def strsD : List D → Option (List Str)
  | [] => some []
  | .str x :: l => (strsD l).map (x :: ·)
  | _ => none
theorem RepL.strs {K : PySem.W.Frag} {mg : Str → Option Value} {w : Wo} {l : List D} {vs : List V} {ys : List Str} (h : RepL K mg w l vs) (e : strsD l = some ys) : vs = ys.map V.str := by
  induction l generalizing vs ys with
  | nil => cases h; cases e; rfl
  | cons d l ih =>
    cases h with
    | cons r t =>
      cases d with
      | str x =>
        obtain ⟨zs, e1, rfl⟩ := Option.map_eq_some_iff.mp e
        cases r
        rw [ih t e1]; rfl
      | _ => cases e
end G
namespace G
open PySem L2 PySem.Spec
section
variable {X : Cx} {W : WX} {k : Nat}
theorem op_repL : OpR X (binaryOp .Mult) (fun x y H Q => ∃ l xs, ∃ n : Int, x = .ref l ∧ y = .int n ∧ 0 ≤ n ∧ n ≤ 1000 ∧ SqL X.K H l xs ∧ xs.length ≤ 1000 ∧ ∀ p, H p = none → Q (.ref p) (upd H p (.lst (List.replicate n.toNat xs).flatten))) := by
  intro pins s σ H x y v u Q I rx ry h
  obtain ⟨l, xs, x, rfl, rfl, h0, h1, hT, hl, q⟩ := h
  cases rx
  obtain ⟨u, rfl⟩ := ry
  obtain ⟨its, r, ⟨⟨cls, d, data, sl⟩, k, ho, hc, hdn, hd⟩, hs⟩ := I.list hT
  dsimp only at hc hd
  subst hc hd
  have hlen : its.length ≤ 1000 := by rw [← r.length]; exact hl
  have hsz : its.length * x.toNat ≤ 1000 * 1000 := Nat.mul_le_mul hlen (by omega)
  have hsz' : its.toArray.size * x.toNat ≤ 1000000 := by simpa using hsz
  refine wpAny_binaryOp_repeat_ref (T := "list") (U := "int") (by decide) ⟨_, ho, rfl⟩ (fun s' => typeIs_int s' x u) noFill_list_mul F.fills_int_mul F.slot_int_rmul repeat_list F.slot_int_index.lookup
    (call_meets F.slot_int_rmul (typeIs_int s x u) F.entry_int_rmul (F.args_int_rmul_2 _ _) (lm_int_rmul_list_any x u l its.toArray k d sl)
      ⟨ho, rfl, ⟨_, ho, rfl⟩, call_meets F.slot_list_mul ⟨_, ho, rfl⟩ F.entry_list_mul (F.args_list_mul_2 _ _)
        (lm_list_mul_any l its.toArray k d sl x u (by simp [Builtin.List.listFitsIndex]; omega) (by omega) (by simp [Builtin.List.listTooLong, sizeLine]; omega))
        ⟨ho, ?_⟩⟩)
  rw [PyProof.Rows.listMul_foldl_if]
  refine ⟨.ref s.heap.objs.size, _, I.laid (t' := s.toks) (o := .lst (List.replicate x.toNat xs).flatten) (fun b ob q => Heap.get?_push_of_some _ q) (Nat.le_refl _) ?_, rfl, q _ (I.hok.fresh (Nat.le_refl _))⟩
  refine ⟨?_, (List.replicate x.toNat its).flatten, _, r.rep _, Heap.get?_push_size _ rfl⟩
  rw [PyProof.Rows.lm_len_rep_flat, sizeLine_eq]
  have : x.toNat * xs.length ≤ 1000 * 1000 := Nat.mul_le_mul (by omega) hl
  first
  | omega
  | (simp only [Nat.mul_comm] at this ⊢; omega)
theorem RepL.repl {K : PySem.W.Frag} {mg : Str → Option Value} {w : Wo} {l : List D} {vs : List V} (h : RepL K mg w l vs) (n : Nat) : RepL K mg w (List.replicate n l).flatten (List.replicate n vs).flatten := by
  induction n with
  | zero => exact .nil
  | succ n ih =>
    rw [List.replicate_succ, List.replicate_succ, List.flatten_cons, List.flatten_cons]
    exact h.append ih
def dMulL : D → D → Option D
  | .lst l, .int k => if 0 ≤ k ∧ k ≤ 1000 ∧ l.length ≤ 1000 then some (.lst (List.replicate k.toNat l).flatten) else none
  | _, _ => none
theorem om_mulL : OpR X (binaryOp .Mult) (OpM X dMulL) := by
  intro pins s σ H x y v u Q I rx ry h
  obtain ⟨w, dx, dy, E, rfl, R, qx, qy, P⟩ := h
  unfold dMulL at P
  split at P
  · cases qy
    cases qx with
    | lst s1 r1 =>
      split at P
      · rename_i hk
        exact op_repL pins s σ w.hp _ _ v u Q I rx ry ⟨_, _, _, rfl, rfl, hk.1, hk.2.1, SqL.of s1.1, by rw [← r1.length]; exact hk.2.2, fun p hp => Post.put P R hp (.lst (put_st R hp) ((r1.repl _).ext (put_ext R hp).toEx0))⟩
      · exact False.elim P
  · exact False.elim P
end
end G
namespace G
open PySem L2 PySem.Spec
section
variable {X : Cx} {W : WX} {k : Nat}
theorem RepL.ofStrs {K : PySem.W.Frag} {mg : Str → Option Value} {w : Wo} : ∀ ys : List Str, RepL K mg w (ys.map D.str) (ys.map V.str)
  | [] => .nil
  | y :: ys => .cons (.str y) (RepL.ofStrs ys)
def fSplit (S : Store) (x : D) (xs : List D) : Option D := match x, xs with
  | .str a, [.str b] => if (b.length == 0) = false ∧ a.length ≤ 1000000 then some (.lst ((Txt.split a b).map D.str)) else none
  | _, _ => none
theorem tm_split : MtR X "str.split" (MtX X fSplit) := by
  intro pins s σ H x xs v us Q I rx rxs h
  obtain ⟨w, d, ds, E, rfl, R, rd, rl, P⟩ := h
  unfold fSplit at P
  split at P
  · rename_i a b
    cases rd
    obtain ⟨u, rfl, ru⟩ := rl.one_inv
    cases ru
    split at P
    · rename_i hz
      exact mt_split pins s σ w.hp _ _ v us Q I rx rxs ⟨a, b, rfl, rfl, hz.1, by rw [sizeLine_eq]; omega, fun p hp => Post.put P R hp (.lst (put_st R hp) (RepL.ofStrs _))⟩
    · exact False.elim P
  · exact False.elim P
def fPart (S : Store) (x : D) (xs : List D) : Option D := match x, xs with
  | .str a, [.str b] => if (b.length == 0) = false ∧ a.length ≤ 1000000 then some (.tup [.str (Txt.partition a b).1, .str (Txt.partition a b).2.1, .str (Txt.partition a b).2.2]) else none
  | _, _ => none
theorem tm_partition : MtR X "str.partition" (MtX X fPart) := by
  intro pins s σ H x xs v us Q I rx rxs h
  obtain ⟨w, d, ds, E, rfl, R, rd, rl, P⟩ := h
  unfold fPart at P
  split at P
  · rename_i a b
    cases rd
    obtain ⟨u, rfl, ru⟩ := rl.one_inv
    cases ru
    split at P
    · rename_i hz
      exact mt_partition pins s σ w.hp _ _ v us Q I rx rxs ⟨a, b, rfl, rfl, hz.1, by rw [sizeLine_eq]; omega, fun p hp => Post.put P R hp (.tup (.inl (put_st R hp).o) (.cons (.str _) (.cons (.str _) (.cons (.str _) .nil))))⟩
    · exact False.elim P
  · exact False.elim P
def fIntS (S : Store) (ds : List D) : Option D := match ds with
  | [.str x] => if x.length ≤ 640 then (PySem.intText? x).map .int else none
  | _ => fInt S ds
theorem cm_intS : CallR X (.type "int") (CaM X fIntS) := by
  intro pins s σ H xs us Q I r h
  obtain ⟨w, ds, E, rfl, R, q, P⟩ := h
  unfold fIntS at P
  split at P
  · rename_i x
    obtain ⟨v, rfl, rv⟩ := q.one_inv
    cases rv
    split at P
    · rename_i hz
      cases e : PySem.intText? x with
      | none => rw [e] at P; exact False.elim P
      | some n =>
        rw [e] at P
        exact call_int_str pins s σ w.hp _ us Q I r ⟨x, n, rfl, e, hz, Post.now P R (.int _)⟩
    · exact False.elim P
  · exact cm_int pins s σ w.hp _ us Q I r ⟨w, ds, E, rfl, R, q, P⟩
def dMulS : D → D → Option D
  | .str x, .int k => if k = 0 then some (.str Str.empty) else if k = 1 then some (.str x) else none
  | .int i, .int j => dMul (.int i) (.int j)
  | _, _ => none
theorem om_mulS : OpR X (binaryOp .Mult) (OpM X dMulS) := by
  intro pins s σ H x y v u Q I rx ry h
  obtain ⟨w, dx, dy, E, rfl, R, qx, qy, P⟩ := h
  unfold dMulS at P
  split at P
  · rename_i x k
    cases qx; cases qy
    obtain ⟨t, rfl⟩ := rx
    obtain ⟨t', rfl⟩ := ry
    split at P
    · rename_i hk
      subst hk
      exact PySem.P.mul_str_none (by omega) (by omega) ⟨.str _, w.hp, I.tok _, ⟨_, rfl⟩, Post.now P R (.str _)⟩
    · split at P
      · rename_i hk
        subst hk
        refine PySem.P.mul_str (by decide) (fun _ h => absurd h (by simp)) (fun _ h => absurd h (by simp)) ?_
        rw [if_neg (by decide), if_pos (by simp)]
        exact ⟨.str x, w.hp, I, ⟨_, rfl⟩, Post.now P R (.str _)⟩
      · exact False.elim P
  · exact om_mul pins s σ w.hp _ _ v u Q I rx ry ⟨w, _, _, E, rfl, R, qx, qy, P⟩
  · exact False.elim P
end
end G
namespace G
open PySem L2 PySem.Spec
end G
namespace G
open PySem L2 PySem.Spec PyProof.Rows
def frzC : Cell → Option Cell
  | .dk kvs => some (.fk kvs)
  | .ts ks => some (.fs ks)
  | _ => none
def thw (n : Nat) (c : Cell) : SRes → SRes
  | .nxt e S => .nxt e (S.set n c)
  | .brk e S => .brk e (S.set n c)
  | .cnt e S => .cnt e (S.set n c)
  | .ret d S => .ret d (S.set n c)
  | _ => .stuck
def sLkA (n : Nat) (c : Cell) (o : Option Cell) (m : SM) : SM := fun e S => match o with
  | some c' => thw n c (m e (S.set n c'))
  | none => .stuck
def sLkB (n : Nat) (o : Option Cell) (m : SM) : SM := fun e S => match o with
  | some c => sLkA n c (frzC c) m e S
  | none => .stuck
def sLk (lo : En → Store → Option Nat) (m : SM) : SM := fun e S => match lo e S with
  | some n => sLkB n S[n]? m e S
  | none => .stuck
end G
namespace G
open PySem L2 PySem.Spec PyProof.Rows
def keyOf : Key → D
  | .inl i => .int i
  | .inr x => .str x
def fkD (S : Store) : D → Option (List (Key × D))
  | .loc n => match S[n]? with
    | some (.fk l) => some l
    | _ => none
  | _ => none
def fsD (S : Store) : D → Option (List (List Int))
  | .loc n => match S[n]? with
    | some (.fs l) => some l
    | _ => none
  | _ => none
def iDv (m : EM) : AM := fun e S => (m e S).bind fun d S1 => match fkD S1 d with
  | some l => .ok (l.map fun kv => kv.2) S1
  | none => .stuck
def iDi (m : EM) : AM := fun e S => (m e S).bind fun d S1 => match fkD S1 d with
  | some l => .ok (l.map fun kv => .tup [keyOf kv.1, kv.2]) S1
  | none => .stuck
def iDk (m : EM) : AM := fun e S => (m e S).bind fun d S1 => match fkD S1 d with
  | some l => .ok (l.map fun kv => keyOf kv.1) S1
  | none => .stuck
def intsD (k : List Int) : D := .tup (k.map D.int)
def iTk (m : EM) : AM := fun e S => (m e S).bind fun d S1 => match fsD S1 d with
  | some l => .ok (l.map intsD) S1
  | none => .stuck
section
variable {K : PySem.W.Frag} {mg : Str → Option Value} {w : Wo}
theorem RepK.getV {κ : Type} {kvs : List (κ × D)} {us : List (κ × V)} {i : Nat} {k : κ} {v : V} : RepK κ K mg w kvs us → us[i]? = some (k, v) → ∃ d, kvs[i]? = some (k, d) ∧ RepD K mg w d v
  | .nil, h => by simp at h
  | .cons r t, h => by
    cases i with
    | zero => simp at h; obtain ⟨rfl, rfl⟩ := h; exact ⟨_, by simp, r⟩
    | succ i =>
      obtain ⟨d, e, q⟩ := RepK.getV (i := i) t (by simpa using h)
      exact ⟨d, by simpa using e, q⟩
end
end G
namespace G
open PySem L2 PySem.Spec
end G
namespace G
open PySem L2 PySem.Spec
def addK (ks : List (List Int)) (k : List Int) : List (List Int) := if k ∈ ks then ks else ks ++ [k]
def intsL : List D → Option (List Int)
  | [] => some []
  | .int i :: r => (intsL r).map (i :: ·)
  | _ => none
def intsK : D → Option (List Int)
  | .tup l => intsL l
  | _ => none
open Classical in
noncomputable def dcR (ck : Store → Prop) (g : Tg) (t : TM) (m : EM) (e : En) : List D → List (List Int) → Store → Res (List (List Int))
  | [], acc, S => if ck S then .ok acc S else .stuck
  | d :: ds, acc, S => if ck S then match g.m d e with
    | some e1 => (noX (t e1 S)).bind fun b S2 => if b then (noX (m e1 S2)).bind fun y S3 => match intsK y with
      | some k => if acc.length < sizeLine then dcR ck g t m e ds (addK acc k) S3 else .stuck
      | none => .stuck
      else dcR ck g t m e ds acc S2
    | none => .stuck else .stuck
def finT : List (List Int) → Store → Res D := fun acc S => .ok (.loc S.length) (S ++ [.ts acc])
noncomputable def eDcT (i : CM) (g : Tg) (t : TM) (m : EM) (vs : List Nat) : EM := fun e S => (i e S).bind fun p S1 => (dcR (okC p) g t m (wipeE e vs) p.1 [] S1).bind finT
end G
namespace G
open PySem L2 PySem.Spec
def unK (l m : List (List Int)) : List (List Int) := m.foldl addK l
section
variable {X : Cx} {W : WX} {a b c e o f kx : Expr} {ma mb mc mk : EM} {pos apos cpos pb : Pos} {jb : Nat} {td ty tk : TE}
def eTs1 (mk : EM) : EM := fun e S => (mk e S).bind fun d S1 => match intsK d with
  | some k => .ok (.loc S1.length) (S1 ++ [.ts [k]])
  | none => .stuck
def tsD (S : Store) : D → Option (Nat × List (List Int))
  | .loc n => match S[n]? with
    | some (.ts l) => some (n, l)
    | _ => none
  | _ => none
def uR (S : Store) (x y : D) : Res D := match tsD S x, tsD S y with
  | some (n, l), some (k, m) => if n ≠ k ∧ l ≠ [] ∧ l.length + m.length ≤ 1000 then .ok .non (S.set n (.ts (unK l m))) else .stuck
  | _, _ => .stuck
def eTsU (mo ma : EM) : EM := fun e S => (mo e S).bind fun x S1 => if (tsD S1 x).isSome = true then (ma e S1).bind fun y S2 => uR S2 x y else .stuck
end
end G
namespace G
open PySem L2 PySem.Spec PyProof.Rows SrtO
def fstK : D → Option Int
  | .tup [.int i, _] => some i
  | _ => none
def sortP (l : List D) : List D := l.mergeSort fun a b => decide ((fstK a).getD 0 ≤ (fstK b).getD 0)
open Classical in
noncomputable def fSortP : Store → List D → Option D
  | S, [d] => match seqD S d with
    | some l => if (∀ d, d ∈ l → (fstK d).isSome = true) ∧ (l.map fstK).Nodup then some (.lst (sortP l)) else none
    | none => none
  | _, _ => none
section
variable {X : Cx} {W : WX}
inductive Rep3 (K : PySem.W.Frag) (mg : Str → Option Value) (w : Wo) : List (D × V × Value) → Prop where
  | nil : Rep3 K mg w []
  | cons {d : D} {v : V} {u : Value} {l : List (D × V × Value)} : RepD K mg w d v → RelV v u → Rep3 K mg w l → Rep3 K mg w ((d, v, u) :: l)
theorem Rep3.mem {K : PySem.W.Frag} {mg : Str → Option Value} {w : Wo} {L : List (D × V × Value)} (h : Rep3 K mg w L) : ∀ x, x ∈ L → RepD K mg w x.1 x.2.1 ∧ RelV x.2.1 x.2.2 := by
  induction h with
  | nil => exact fun x h => nomatch h
  | cons r q t ih =>
    intro x hx
    rcases List.mem_cons.mp hx with rfl | hx
    · exact ⟨r, q⟩
    · exact ih x hx
end
end G
namespace G
open PySem L2 PySem.Spec
section
variable {X : Cx} {W : WX} {a b c e o f : Expr} {es : List Expr} {ma mb mc me : EM} {pos apos cpos tpos : Pos} {x : Str}
def gFl (cs : List Nat) (f : Nat) (o : EM) : GM := fun d e S => (noX (o e S)).bind fun x S1 => match stF cs f S1 x d with
  | some S2 => .ok e S2
  | none => .stuck
def sAsg2 (m : EM) (g1 g2 : GM) : SM := fun e S => sE (m e S) e fun d S1 => sE (g1 d e S1) e fun e1 S2 => sE (g2 d e1 S2) e1 fun e2 S3 => .nxt e2 S3
def sAsg3 (m : EM) (g1 g2 g3 : GM) : SM := fun e S => sE (m e S) e fun d S1 => sE (g1 d e S1) e fun e1 S2 => sE (g2 d e1 S2) e1 fun e2 S3 => sE (g3 d e2 S3) e2 fun e3 S4 => .nxt e3 S4
def starRN (i : Nat) (r : GMs) (l : List D) (e : En) (S : Store) : Res En := if i ≤ l.length then r (l.take i ++ [.loc S.length]) e (S ++ [.lst (l.drop i)]) else .stuck
def gStrN (i : Nat) (r : GMs) : GM := fun d e S => match d with
  | .tup l => starRN i r l e S
  | .lst l => starRN i r l e S
  | .scr l => starRN i r l e S
  | .loc n => match S[n]? with
    | some (.lst l) => starRN i r l e S
    | _ => .stuck
  | _ => .stuck
def augI (j : Int) (S : Store) (x y : D) (cs : List Nat) (f : Nat) : Option Store := match y with
  | .int i => stF cs f S x (.int (i + j))
  | _ => none
def sFldA (j : Int) (cs : List Nat) (f : Nat) (o : EM) : SM := fun e S => sE (o e S) e fun x S1 => match fldD cs f S1 x with
  | some y => stR (augI j S1 x y cs f) e
  | none => .stuck
def dsR (S : Store) (x y z : D) : Res D := match dkD S x, keyD y with
  | some (n, kvs), some k => match valD kvs k with
    | some d => if kvs.length < sizeLine then .ok d S else .stuck
    | none => if kvs.length < sizeLine then .ok z (S.set n (.dk (putKD kvs k z))) else .stuck
  | _, _ => .stuck
def eDSetd (mo my mx : EM) : EM := fun e S => (mo e S).bind fun x S1 => if (dkD S1 x).isSome = true then (my e S1).bind fun y S2 => (mx e S2).bind fun z S3 => dsR S3 x y z else .stuck
end
end G
namespace G
open PySem L2 PySem.Spec
section
variable {X : Cx} {W : WX} {a b c e o f : Expr} {es : List Expr} {ma mb mc me : EM} {pos apos cpos tpos : Pos} {x : Str}
def strK (xs : List Str) : List Key := xs.map .inr
def eDisp (xs : List Str) (m : AM) : EM := fun e S => (noX (m e S)).bind fun ds S1 => .ok (.loc S1.length) (S1 ++ [.dk ((strK xs).zip ds)])
end
end G
namespace G
open PySem L2 PySem.Spec PyProof.Rows PySem.SeqAt
end G
namespace G
open PySem L2 PySem.Spec PyProof.Rows PySem.SeqAt PySem.W
def hitD (S : Store) (kvs' : List (Key × D)) : List (Key × D) → Option Bool
  | [] => some true
  | (k, d) :: r => match valD kvs' k with
    | none => some false
    | some d' => match eqS S d d', hitD S kvs' r with
      | some e, some b => some (e && b)
      | _, _ => none
def eqRm (co : Option Nat) (S : Store) : D → D → Option Bool
  | .loc n, .loc m => if n = m then some true else match S[n]?, S[m]? with
    | some (.obj c _), some (.obj c' _) => if co = some c ∧ c' = c then some false else none
    | some (.dk a), some (.dk b) => (hitD S b a).map fun r => a.length == b.length && r
    | _, _ => none
  | _, _ => none
def rmI (co : Option Nat) (S : Store) (x : D) : List D → Option Nat
  | [] => none
  | d :: l => match eqRm co S d x with
    | some true => some 0
    | some false => (rmI co S x l).map (· + 1)
    | none => none
def rmR (co : Option Nat) (x : D) (xs : List D) (S : Store) : Res D := match x, xs with
  | .loc n, [y] => match S[n]? with
    | some (.lst l) => match rmI co S y l with
      | some j => .ok .non (S.set n (.lst (l.eraseIdx j)))
      | none => .stuck
    | _ => .stuck
  | _, _ => .stuck
def eRem (co : Option Nat) (a : EM) (m : AM) : EM := fun e S => (a e S).bind fun x S1 => if isLst S1 x then (m e S1).bind fun xs S2 => rmR co x xs S2 else .stuck
end G
namespace G
open PySem L2 PySem.Spec PyProof.Rows
def loE (m : EM) : En → Store → Option Nat := fun e S => match m e S with
  | .ok (.loc n) _ => some n
  | _ => none
end G
namespace G
open PySem L2 PySem.Spec PyProof.Rows
section
variable {X : Cx} {W : WX} {a b c e o : Expr} {es : List Expr} {ma mb mc me : EM} {ta tb : TM} {pos : Pos} {x : Str} {p : Pos} {j k : Nat} {ps ks : List Str} {f : FM}
def sPar3 (i j l : Nat) (m : AM) : SM := fun e S => sE (m e S) e fun ds S1 => match ds with
  | [x, y, z] => .nxt (((e.set i (some x)).set j (some y)).set l (some z)) S1
  | _ => .stuck
end
end G
namespace G
open PySem L2 PySem.Spec PyProof.Rows PySem.SeqAt
end G
namespace G
open PySem L2 PySem.Spec
end G
namespace G
open PySem PySem.W
end G
namespace G
open PySem L2 PySem.Spec PyProof.Rows
end G
namespace G
open PySem PySem.W HandSHeadRun
end G
namespace G
open PySem L2 PySem.Spec PyProof.Rows
def eEqO (neg : Bool) (cn : Nat) (f : FM) (gD : List D → List D → List D) (a b : EM) : EM := fun e S => (a e S).bind fun x S1 => (b e S1).bind fun y S2 => eqO neg cn f gD x y S2
end G
namespace G
open PySem L2 PySem.Spec PyProof.Rows
def insR (x : D) (xs : List D) (S : Store) : Res D := match x, xs with
  | .loc n, [.int i, y] => match S[n]? with
    | some (.lst l) => if l.length < sizeLine ∧ 0 ≤ i ∧ i < 2 ^ 62 then .ok .non (S.set n (.lst (l.take i.toNat ++ [y] ++ l.drop i.toNat))) else .stuck
    | _ => .stuck
  | _, _ => .stuck
def eIns (a : EM) (m : AM) : EM := fun e S => (a e S).bind fun x S1 => if isLst S1 x then (m e S1).bind fun xs S2 => insR x xs S2 else .stuck
end G
namespace G
open PySem L2 PySem.Spec PyProof.Rows
end G
namespace G
open PySem L2 PySem.Spec PyProof.Rows
def eTabIx (kvs : List (Str × D)) (mb : EM) : EM := fun e S => (mb e S).bind fun x S1 => match x with
  | .str z => lf (kvs.lookup z) S1
  | _ => .stuck
def eTabIn (neg : Bool) (kvs : List (Str × D)) (mb : EM) : EM := fun e S => (mb e S).bind fun x S1 => match x with
  | .str z => .ok (.bl (if neg = true then !(kvs.lookup z).isSome else (kvs.lookup z).isSome)) S1
  | _ => .stuck
def sTabCall (i : Nat) (fs : List (Str × Nat × FM)) (mb : EM) (mp : AM) : SM := fun e S => sE (mb e S) e fun x S1 => match x with
  | .str z => match fs.lookup z with
    | some q => if i < e.length then sE (mp e S1) (e.set i none) fun ds S2 => if ds.length = q.1 then sE (q.2 ds S2) (e.set i none) fun d S3 => .ret d S3 else .stuck else .stuck
    | none => .stuck
  | _ => .stuck
end G
namespace G
open PySem L2 PySem.Spec PyProof.Rows
inductive TV where
  | strs (l : List Str)
  | int (i : Int)
  | txt (x : Str)
def TV.d : TV → D
  | .strs l => .tup (l.map .str)
  | .int i => .int i
  | .txt x => .str x
end G
namespace G
open PySem L2 PySem.Spec PyProof.Rows
section
variable {X : Cx} {W : WX} {a b c e o : Expr} {es : List Expr} {ma mb mc me : EM} {pos : Pos}
def slN (S : Store) : D → Option Int → Option Int → Option (List D)
  | .lst l, lo, hi => some (cutL l lo hi)
  | .loc n, lo, hi => match S[n]? with
    | some (.lst l) => some (cutL l lo hi)
    | _ => none
  | _, _, _ => none
def slR (S : Store) (x : D) (lo hi : Option Int) : Res D := (lf (slN S x lo hi) S).bind fun l S2 => .ok (.loc S2.length) (S2 ++ [.lst l])
def eSlN (a : EM) (lo hi : OM) : EM := fun e S => (a e S).bind fun x S1 => (lo e S1).bind fun l S2 => (hi e S2).bind fun h S3 => slR S3 x l h
end
end G
namespace G
open PySem L2 PySem.Spec PyProof.Rows RZ
structure Wk (prog : Program) (w : World) (it l : Addr) (At : Heap → Nat → Prop) (Has : Heap → Prop) (xs : Array Value) : Prop where
  item : ∀ {A : Around} {E : Value → Shared → Prop} {s : Shared} {k : Nat} {x : Value} {Q : Value → Shared → Prop}, At s.heap k → Has s.heap → xs[k]? = some x →
    (∀ h', At h' (k + 1) → Heap.SameBut it s.heap h' → Q x { s with heap := h' }) → wpAny (model prog w) A (Builtin.SmallTypes.nextOf (.ref it)) Q E s
  over : ∀ {A : Around} {E : Value → Shared → Prop} {s : Shared} {k : Nat} {Q : Value → Shared → Prop}, A.handled = none → At s.heap k → Has s.heap → xs[k]? = none →
    (∀ h' e, Heap.ExtBut it s.heap h' → (∃ o, h'.get? e = some o ∧ o.cls = .type "StopIteration") → E (.ref e) { s with heap := h' }) → wpAny (model prog w) A (Builtin.SmallTypes.nextOf (.ref it)) Q E s
  at_ : ∀ {h h' : Heap} {k : Nat}, At h k → (∀ o, h.get? it = some o → h'.get? it = some o) → At h' k
  has : ∀ {h h' : Heap}, Has h → (∀ o, h.get? l = some o → h'.get? l = some o) → Has h'
  lt : ∀ {h : Heap} {k : Nat}, At h k → it < h.objs.size
section
variable {X : Cx} {W : WX} {a b : Expr} {p pos : Pos} {w : Wo}
def zipRM (ds : List D) (S : Store) : Res (List D) := match ds with
  | [.tup l, .lst m] => .ok (zipD l m) S
  | _ => .stuck
def iZipM (m : AM) : AM := fun e S => (m e S).bind zipRM
end
end G
namespace G
open PySem L2 PySem.Spec
def eqX (neg : Bool) (cn : Nat) (f : FM) (gD : List D → List D → List D) (x y : D) (S : Store) : Res D := if isCn cn S x = true ∧ isCn cn S y = true then eqO neg cn f gD x y S else lf (if neg = true then dNe x y else dEq x y) S
def eEqX (neg : Bool) (cn : Nat) (f : FM) (gD : List D → List D → List D) (a b : EM) : EM := fun e S => (a e S).bind fun x S1 => (b e S1).bind fun y S2 => eqX neg cn f gD x y S2
end G
namespace G
open PySem L2 PySem.Spec PyProof.Rows
section
variable {P : Program} {w0 : World} {K : PySem.W.Frag} {mg : Str → Option Value} {base : Heap}
def noF (f : FM) : FM := fun ds S => noX (f ds S)
end
section
variable {X : Cx} {W : WX} {a b c e o : Expr} {es : List Expr} {pos : Pos} {x : Str} {p : Pos} {j k : Nat} {ps ks : List Str} {f : FM} {ad : Addr} {pn : List (Addr × Obj)}
def eCallN (f : FM) (m : AM) : EM := fun e S => (m e S).bind fun ds S1 => noF f ds S1
end
end G
namespace G
open PySem L2 PySem.Spec PyProof.Rows
def keyS (e : Int × Value) : Str := PyProof.Rows.strOf e.2
def GoodS (w : World) (e : Int × Value) : Prop := ∃ k tk, e.2 = Value.str k tk ∧ e.1 = hashStr w k
def SetS (w : World) (h : Heap) (a : Addr) (S : Str → Bool) (n : Nat) : Prop :=
  ∃ o es ep t, h.get? a = some o ∧ o.ExactSet ∧ o.data = .set es ep t ∧ (∀ e ∈ es.toList, GoodS w e) ∧ (es.toList.map keyS).Nodup ∧ (∀ k, S k = true ↔ k ∈ es.toList.map keyS) ∧
    es.size < scanBound ∧ t.fits es.size = true ∧ es.size = n ∧ Ris t.place.toList ∧ (w.params.followText "set-order" = true ∨ t.led = true)
section
variable {P : Program} {w : World} {h h' : Heap} {a : Addr} {S : Str → Bool} {n : Nat}
theorem SetS.at (R : SetS w h a S n) (k : ∀ o, h.get? a = some o → h'.get? a = some o) : SetS w h' a S n := by
  obtain ⟨o, es, ep, t, ho, r⟩ := R
  exact ⟨o, es, ep, t, k o ho, r⟩
theorem SetS.lt (R : SetS w h a S n) : a < h.objs.size := by
  obtain ⟨o, es, ep, t, ho, r⟩ := R
  exact Heap.lt_size ho
end
end G
namespace G
open PySem L2 PySem.Spec PyProof.Rows
end G
namespace G
open PySem L2 PySem.Spec PyProof.Rows
def mergeKD (kvs more : List (Key × D)) : List (Key × D) := more.foldl (fun acc kv => putKD acc kv.1 kv.2) kvs
section
variable {X : Cx} {W : WX} {o e : Expr} {td ty : TE} {ma mb : EM} {apos cpos : Pos}
def uK (S : Store) (x y : D) : Res D := match dkD S x, dkD S y with
  | some (n, l), some (k, m) => if n ≠ k ∧ l.length + m.length ≤ 1000 then .ok .non (S.set n (.dk (mergeKD l m))) else .stuck
  | _, _ => .stuck
def eDkU (mo ma : EM) : EM := fun e S => (mo e S).bind fun x S1 => if (dkD S1 x).isSome = true then (ma e S1).bind fun y S2 => uK S2 x y else .stuck
def eNx (m : EM) : EM := fun e S => noX (m e S)
end
end G
namespace G
open PySem L2 PySem.Spec PyProof.Rows
open PySem.SeqAt
open AutoSeq1 (wpAny_loadPart')
section
variable {X : Cx} {W : WX} {a b : Expr} {ma mb : EM} {pos : Pos}
def slDA (S : Store) (d : D) (lo hi : Option Int) : Option D := match d with
  | .tup l => some (.tup (cutL l lo hi))
  | d => slD S d lo hi
def eSlA (a : EM) (lo hi : OM) : EM := fun e S => (a e S).bind fun x S1 => (lo e S1).bind fun l S2 => (hi e S2).bind fun h S3 => lf (slDA S3 x l h) S3
end
end G
namespace G
open PySem L2 PySem.Spec PyProof.Rows
open PySem.W (InstAt)
section
variable {X : Cx} {W : WX} {a : Expr} {ma : EM} {pos p : Pos} {k j cn : Nat} {ps ks : List Str} {f : FM} {gD : List D → List D → List D}
def lenOf (r : Res D) : Res D := r.bind fun y S1 => match y with
  | .int i => if 0 ≤ i ∧ i < 2 ^ 63 then .ok (.int i) S1 else .stuck
  | _ => .stuck
def eLenO (cn : Nat) (f : FM) (gD : List D → List D → List D) (m : EM) : EM := fun e S => (aCons m aNil e S).bind fun ds S0 => match ds with
  | [x] => if isCn cn S0 x = true then lenOf (f (gD [x] []) S0) else .stuck
  | _ => .stuck
def strOfT (r : Res D) : Res D := r.bind fun y S1 => match y with
  | .str t => .ok (.str t) S1
  | _ => .stuck
def eReprO (cn : Nat) (f : FM) (gD : List D → List D → List D) (m : EM) : EM := fun e S => (aCons m aNil e S).bind fun ds S0 => match ds with
  | [x] => if isCn cn S0 x = true then strOfT (f (gD [x] []) S0) else .stuck
  | _ => .stuck
end
end G
namespace G
open PySem L2 PySem.Spec
section
variable {X : Cx} {W : WX} {a : Expr} {ma : EM} {pos : Pos} {p : Pos}
def dkV (S : Store) (d : D) : Option (List (Key × D)) := (dkD S d).map (·.2)
def eDictN (m : EM) : EM := fun e S => (m e S).bind fun d S1 => (lf (dkV S1 d) S1).bind fun l S2 => .ok (.loc S2.length) (S2 ++ [.dk l])
end
end G
namespace G
open PySem L2 PySem.Spec PyProof.Rows
end G
namespace G
open PySem L2 PySem.Spec PyProof.Rows
open PySem.W (InstAt)
section
variable {X : Cx} {W : WX} {a : Expr} {ma : EM} {pos p : Pos} {k j cn : Nat} {ps ks : List Str} {f : FM} {gD : List D → List D → List D}
def bolOf (r : Res D) : Res D := r.bind fun y S1 => match y with
  | .int i => if 0 ≤ i ∧ i < 2 ^ 63 then .ok (.bl (i != 0)) S1 else .stuck
  | _ => .stuck
def eBoolO (cn : Nat) (f : FM) (gD : List D → List D → List D) (m : EM) : EM := fun e S => (aCons m aNil e S).bind fun ds S0 => match ds with
  | [x] => if isCn cn S0 x = true then bolOf (f (gD [x] []) S0) else .stuck
  | _ => .stuck
end
end G
namespace G
open PySem L2 PySem.Spec PyProof.Rows
def okR (p : List D × Option Nat) (S : Store) : Prop := match p.2 with
  | none => True
  | some n => S[n]? = some (.lst p.1.reverse)
noncomputable def sForR (i : CM) (g : GM) (m : SM) : SM := fun e S => sE (i e S) e fun p S1 => fiC (okR p) g m p.1 e S1
def iRev (m : EM) : CM := fun e S => (m e S).bind fun d S1 => match d with
  | .loc n => match S1[n]? with
    | some (.lst l) => .ok (l.reverse, some n) S1
    | _ => .stuck
  | _ => .stuck
end G
namespace G
open PySem L2 PySem.Spec PyProof.Rows
section
variable {X : Cx} {W : WX} {body : List Stmt} {f0 : Stmt} {fs : List Stmt} {pos : Pos} {tb : WX → TS} {tf tfs : TS} {mt mf : SM} {k : Nat}
def sFin (m n : SM) : SM := fun e S => match m e S with
  | .nxt e1 S1 => (match n e1 S1 with
    | .nxt e2 S2 => .nxt e2 S2
    | _ => .stuck)
  | .exc (.exc cn fs) e1 S1 => (match n e1 S1 with
    | .nxt e2 S2 => .exc (.exc cn fs) e2 S2
    | _ => .stuck)
  | _ => .stuck
end
open Classical in
noncomputable def dkR (ck : Store → Prop) (g : Tg) (t : TM) (mk mv : EM) (e : En) : List D → List (Key × D) → Store → Res (List (Key × D))
  | [], acc, S => if ck S then .ok acc S else .stuck
  | d :: ds, acc, S => if ck S then match g.m d e with
    | some e1 => (noX (t e1 S)).bind fun b S2 => if b then (noX (mk e1 S2)).bind fun y S3 => (noX (mv e1 S3)).bind fun z S4 => match keyD y with
      | some k => if acc.length < sizeLine then dkR ck g t mk mv e ds (putKD acc k z) S4 else .stuck
      | none => .stuck
      else dkR ck g t mk mv e ds acc S2
    | none => .stuck else .stuck
def finD : List (Key × D) → Store → Res D := fun acc S => .ok (.loc S.length) (S ++ [.dk acc])
noncomputable def eDcK (i : CM) (g : Tg) (t : TM) (mk mv : EM) (vs : List Nat) : EM := fun e S => (i e S).bind fun p S1 => (dkR (okC p) g t mk mv (wipeE e vs) p.1 [] S1).bind finD
def iNo (i : AM) : CM := fun e S => (i e S).bind fun ds S1 => .ok (ds, none) S1
end G
namespace G
open PySem L2 PySem.Spec PyProof.Rows
section
variable {X : Cx} {W : WX} {o : Expr} {ma : EM} {pos apos : Pos} {x : Str} {j k cn : Nat} {ps : List Str} {f : FM} {gD : List D → List D → List D} {ad : Addr} {pn : List (Addr × Obj)}
def eMeth0N (cn : Nat) (f : FM) (gD : List D → List D → List D) (mo : EM) : EM := fun e S => (mo e S).bind fun x S0 => if isCn cn S0 x = true then noF f (gD [x] []) S0 else .stuck
end
end G
namespace G
open PySem L2 PySem.Spec PyProof.Rows
def itE (cn : Nat) (f : FM) (gD : List D → List D → List D) (S : Store) (x y : D) : Prop := eqP x y = some true ∨ (isCn cn S x = true ∧ isCn cn S y = true ∧ f (gD [x, y] []) S = .ok (.bl true) S)
def lsD : D → Option (List D)
  | .lst l => some l
  | _ => none
def eqLP (cn : Nat) (f : FM) (gD : List D → List D → List D) (x y : D) (S : Store) : Prop := ∃ (l l' : List D), lsD x = some l ∧ lsD y = some l' ∧ l.length = l'.length ∧ ∀ (i : Nat) (a b : D), l[i]? = some a → l'[i]? = some b → itE cn f gD S a b
open Classical in
noncomputable def eqL (neg : Bool) (cn : Nat) (f : FM) (gD : List D → List D → List D) (x y : D) (S : Store) : Res D := if eqLP cn f gD x y S then .ok (.bl (!neg)) S else .stuck
noncomputable def eEqL (neg : Bool) (cn : Nat) (f : FM) (gD : List D → List D → List D) (a b : EM) : EM := fun e S => (a e S).bind fun x S1 => (b e S1).bind fun y S2 => eqL neg cn f gD x y S2
end G
namespace G
open PySem L2 PySem.Spec PyProof.Rows
end G
namespace G
open PySem L2 PySem.Spec PyProof.Rows
def plD (S : Store) (d : D) : Bool := match d with
  | .non => true
  | .bl _ => true
  | .int _ => true
  | .str _ => true
  | .dic _ _ => true
  | d => (seqT S d).isSome
def eqM (neg : Bool) (cn : Nat) (f : FM) (gD : List D → List D → List D) (x y : D) (S : Store) : Res D :=
  if isCn cn S x = true ∧ (isCn cn S y = true ∨ plD S y = true) then eqOf neg (f (gD [x, y] []) S)
  else if neg = false ∧ plD S x = true ∧ isCn cn S y = true then eqOf false (f (gD [y, x] []) S) else .stuck
def eEqM (neg : Bool) (cn : Nat) (f : FM) (gD : List D → List D → List D) (a b : EM) : EM := fun e S => (a e S).bind fun x S1 => (b e S1).bind fun y S2 => eqM neg cn f gD x y S2
def locD : D → Option Nat
  | .loc n => some n
  | _ => none
def inM (cn : Nat) (f : FM) (gD : List D → List D → List D) (x : D) : List D → Store → Res D
  | [], S => .ok (.bl false) S
  | y :: r, S => if (locD y).isSome = true ∧ locD y = locD x then .ok (.bl true) S
    else if (locD y).isSome = true ∨ plD S y = true then (eqM false cn f gD y x S).bind fun z S1 => match z with
      | .bl true => .ok (.bl true) S1
      | .bl false => inM cn f gD x r S1
      | _ => .stuck
    else .stuck
def lstT : D → Option (List D)
  | .lst l => some l
  | .tup l => some l
  | _ => none
def inO (cn : Nat) (f : FM) (gD : List D → List D → List D) (x y : D) (S : Store) : Res D := match lstT y with
  | some l => if isCn cn S x = true ∧ (locD x).isSome = true then inM cn f gD x l S else .stuck
  | none => .stuck
def eInO (cn : Nat) (f : FM) (gD : List D → List D → List D) (a b : EM) : EM := fun e S => (a e S).bind fun x S1 => (b e S1).bind fun y S2 => inO cn f gD x y S2
end G
namespace G
open PySem L2 PySem.Spec PyProof.Rows
def extR (x : D) (xs : List D) (S : Store) : Res D := match x, xs with
  | .loc n, [y] => match S[n]?, lstOf S y with
    | some (.lst l), some m => if l.length + m.length ≤ sizeLine then .ok .non (S.set n (.lst (l ++ m))) else .stuck
    | _, _ => .stuck
  | _, _ => .stuck
def eExt (a : EM) (m : AM) : EM := fun e S => (a e S).bind fun x S1 => if isLst S1 x then (m e S1).bind fun xs S2 => extR x xs S2 else .stuck
end G
namespace G
open PySem L2 PySem.Spec PyProof.Rows
open MeetsSeq MeetsSeq2 MeetsSeq3
end G
namespace G
open PySem L2 PySem.Spec PyProof.Rows RZ
section
variable {X : Cx} {W : WX} {a b : Expr} {p pos : Pos} {w : Wo}
def zipRL (ds : List D) (S : Store) : Res (List D) := match ds with
  | [.lst l, .tup m] => .ok (zipD l m) S
  | _ => .stuck
def iZipL (m : AM) : AM := fun e S => (m e S).bind zipRL
end
end G
namespace G
open PySem L2 PySem.Spec PyProof.Rows
def tpD : D → Option (List D)
  | .tup l => some l
  | _ => none
def eqTP (cn : Nat) (f : FM) (gD : List D → List D → List D) (x y : D) (S : Store) : Prop := ∃ (l l' : List D), tpD x = some l ∧ tpD y = some l' ∧ l.length = l'.length ∧ ∀ (i : Nat) (a b : D), l[i]? = some a → l'[i]? = some b → itE cn f gD S a b
open Classical in
noncomputable def eqT (neg : Bool) (cn : Nat) (f : FM) (gD : List D → List D → List D) (x y : D) (S : Store) : Res D := if eqTP cn f gD x y S then .ok (.bl (!neg)) S else lf (if neg = true then dNe x y else dEq x y) S
noncomputable def eEqT (neg : Bool) (cn : Nat) (f : FM) (gD : List D → List D → List D) (a b : EM) : EM := fun e S => (a e S).bind fun x S1 => (b e S1).bind fun y S2 => eqT neg cn f gD x y S2
end G
namespace G
open PySem L2 PySem.Spec PyProof.Rows
end G
namespace G
open PySem L2 PySem.Spec PyProof.Rows SrtO
end G
namespace G
open PySem L2 PySem.Spec PyProof.Rows
open PySem.W (InstAt)
end G
namespace G
open PySem L2 PySem.Spec PyProof.Rows
open PySem.W (InstAt)
end G
namespace G
open PySem L2 PySem.Spec
end G
namespace G
open PySem L2 PySem.Spec
end G
namespace G
open PySem L2 PySem.Spec PyProof.Rows
end G
namespace G
open PySem L2 PySem.Spec PyProof.Rows
theorem un_two {fs fs2 : List Addr} {H H1 H2 : Hp} {h h1 h2 : Heap} (a : Un fs [] H H1 h h1) (b : Un fs2 [] H1 H2 h1 h2) (hf : ∀ c o, h.get? c = some o → c ∈ fs2 → c ∈ fs) : Un fs [] H H2 h h2 where
  keep := fun c ob q n hc hx => b.keep c ob (a.keep c ob q n hc hx) (a.free c ob q n hx) (fun m => hc (hf c ob q m)) hx
  slot := fun c ob q n hc hx => by
    obtain ⟨sl, e1⟩ := a.slot c ob q n hc hx
    by_cases m : c ∈ fs2
    · obtain ⟨sl', e2⟩ := b.slot c _ e1 (a.free c ob q n hx) m hx
      exact ⟨sl', e2⟩
    · exact ⟨sl, b.keep c _ e1 (a.free c ob q n hx) m hx⟩
  free := fun c ob q n hx => by
    obtain ⟨o', e1⟩ := a.there c ob q hx
    exact b.free c o' e1 (a.free c ob q n hx) hx
  there := fun c ob q hx => by
    obtain ⟨o', e1⟩ := a.there c ob q hx
    exact b.there c o' e1 hx
  tups := fun c xs e => b.tups c xs (a.tups c xs e)
  frzs := fun c o u e => b.frzs c o u (a.frzs c o u e)
  tbls := fun c ps e => by
    obtain ⟨m1, e1⟩ := a.tbls c ps e
    obtain ⟨m2, e2⟩ := b.tbls c _ e1
    exact ⟨m1 ++ m2, by rw [e2, Array.append_assoc]⟩
structure Act2 (Z : Cx) (a : Str) (i f nN : Nat) (cp : List (Option D)) (fk : FM) (k kk : Nat) : Prop where
  act : Act Z a i f nN cp fk k
  fwd : ∀ {pn : List (Addr × Obj)} {xe : Value → Shared → Prop} {pins : List (Addr × Obj)} {σ : L2.St} {H : Hp} {s : Shared}, L2.Inv (Z.tr pn xe) pins σ H s → ∀ (Ng : List Str) (qg : Str) (sg : Scope) (g : Addr) (cdg : Value) (Eg : XK) (a' : Str) (i' : Nat), Ng[i']? = some a' → Vis sg a' → (a' == ("__debug__" : Str)) = false → (a' == ("__classdict__" : Str)) = false →
    Act (cxOf (L2.CX Z.prog Z.w) Z.prog Z.w Z.K Z.mg Z.base (Ng ++ ph4) qg sg g cdg Z.A Z.stack s H Eg) a' i' f Ng.length cp fk kk
theorem Act2.mono {Z : Cx} {a : Str} {i f nN k k' kk : Nat} {cp : List (Option D)} {fk : FM} (h : Act2 Z a i f nN cp fk k kk) (l : k ≤ k') : Act2 Z a i f nN cp fk k' kk := ⟨h.act.mono l, h.fwd⟩
section
variable {P : Program} {w0 : World} {K : PySem.W.Frag} {mg : Str → Option Value} {base : Heap}
structure FnH2 (P : Program) (w0 : World) (K : PySem.W.Frag) (mg : Str → Option Value) (base : Heap) (k kk : Nat) (f : Addr) (fd : FuncData) (N : List Str) (qual : Str) (scope : Scope) (ps : List Str) (a : Str) (i : Nat) (m : Nat → List (Option D) → FM → FM) : Prop where
  run : ∀ (A : Around) (outer : List Env) (s : Shared) (H : Hp) (args : Args) (us : List Value) (vs : List V) (Q : VK) (E : XK) (fv : Nat) (cp : List (Option D)) (cv : List (Option V)) (fk : FM), RoomG (k + 1) A → Env0 P w0 K mg base A outer s H → BindsTo s fd args (ps.zip us) → Vals vs us → vs.length = ps.length → cp.length = 6 →
    (∀ cdv, Act2 (cxOf (L2.CX P w0) P w0 K mg base (N ++ ph4) qual scope f cdv A outer s H E) a i fv N.length cp fk k kk) →
    (∃ w ds, w.hp = H ∧ Rep K mg w ∧ RepL K mg w ds vs ∧ RepE K mg w cp cv ∧ Post (RepD K mg) K mg w (m fv cp fk ds w.st) Q E) → codeAny (model P w0) A (.call (.ref f) args) (CR (L2.CX P w0) outer P w0 H s Q E) s
theorem def_okH2 {x qual : Str} {st : Stmt} {f : Addr} {fd : FuncData} {N ps : List Str} {k kk i : Nat} {a : Str} {m : Nat → List (Option D) → FM → SM} {dvs : List V} {kws : List (Str × V)} (F : FunD K x qual (defArgs st) (defBody st) (defScope st) dvs kws f fd) (S : FnScope (N ++ ph4) ps (defScope st)) (hps : ps.length ≤ N.length) (hph : ∀ y ∈ ph4, ¬ Vis (defScope st) y)
    (hbody : ∀ (cdv : Value) (A : Around) (outer : List Env) (s : Shared) (H : Hp) (E : XK) (fv : Nat) (cp : List (Option D)) (fk : FM), Cg (cxOf (L2.CX P w0) P w0 K mg base (N ++ ph4) qual (defScope st) f cdv A outer s H E) (fun cls d _ H' => E cls d H') k →
      Act2 (cxOf (L2.CX P w0) P w0 K mg base (N ++ ph4) qual (defScope st) f cdv A outer s H E) a i fv N.length cp fk k kk →
      RSs (cxOf (L2.CX P w0) P w0 K mg base (N ++ ph4) qual (defScope st) f cdv A outer s H E) (fun cls d _ H' => E cls d H') (defBody st) (m fv cp fk)) :
    FnH2 P w0 K mg base k kk f fd N qual (defScope st) ps a i (fun fv cp fk => fnH N.length cp (m fv cp fk)) := by
  obtain ⟨oc, od, dV, kV, doc, pm, an, cdv, ct, osl, rfl, lk, hcd, _, _⟩ := F.ex
  constructor
  intro A outer s H args us vs Q E fv cp cv fk rm env bnd rel hlv hcl hact hs
  have inn : K.In s.heap := env.mod.kin.keeps fun a o q => (env.bs a o q).1
  have nol : s.heap.NoLimit := env.mod.nolimit.keeps fun a o q => (env.bs a o q).1
  apply codeAny_call_function rm.r.depth (inn _ _ lk) rfl S.co S.gen rfl (PySem.W.codeRec_of inn hcd)
  apply bnd
  apply wpAny_newFunctionEnv_cells S.kind
  · rintro ⟨n, u⟩ hn
    exact (S.par n (List.of_mem_zip hn).1).imp id fun q => ⟨q, PySem.W.cellsFrom_some _ _ _ (.inl q)⟩
  rintro _ rfl s1 nw
  constructor
  · exact nol.keeps nw.toInCall.keep
  have hI := inv_start (CX := L2.CX P w0) (E := E) S rm.r.hd env hlv rel nw
  obtain ⟨w, ds, rfl, R, rl, rc, P1⟩ := hs
  have hcv : cv.length = 6 := by rw [← rc.len]; exact hcl
  have hst : start (N ++ ph4) vs = start N vs ++ List.replicate 6 none := by
    unfold L2.start
    rw [List.append_assoc, List.replicate_append_replicate]
    congr 2
    rw [List.length_append]
    show N.length + 6 - vs.length = N.length - vs.length + 6
    omega
  have hln : (start N vs).length = N.length := by unfold L2.start; simp; omega
  have hI2 : L2.Inv (cxOf (L2.CX P w0) P w0 K mg base (N ++ ph4) qual (defScope st) f cdv A outer s w.hp E) [] (start N vs ++ cv) w.hp s1 := by
    refine inv_slots hI (by rw [hst]; simp [hcv]) fun i v g => ?_
    by_cases hi : i < N.length
    · left
      rw [hst, List.getElem?_append_left (by rw [hln]; exact hi)]
      rw [List.getElem?_append_left (by rw [hln]; exact hi)] at g
      exact g
    · right
      intro y hy
      have hy : (N ++ ph4)[i]? = some y := hy
      rw [List.getElem?_append_right (by omega)] at hy
      exact hph y (List.mem_of_getElem? hy)
  have c : Cg (cxOf (L2.CX P w0) P w0 K mg base (N ++ ph4) qual (defScope st) f cdv A outer s w.hp E) (fun cls d _ H' => E cls d H') k := ⟨rfl, S.nd, takes_of rfl rfl rfl rfl, passes_of rfl, ⟨rm.r.deeper _, fun q => rm.gd (Nat.le_succ_of_le q)⟩, rfl, rfl, rfl⟩
  have ht := hbody cdv A outer s w.hp E fv cp fk c (hact cdv)
  apply codeAny_func
  refine wpAny_mono (ht.run [] s1 _ w.hp { nx := fun _ H' => Q .non H', rt := Q } hI2 ⟨w, enOf N.length ds ++ cp, rfl, R, (RepE.start rl N).join rc, ?_⟩) ?_ fun _ _ z => z
  · unfold fnH at P1
    cases q : m fv cp fk (enOf N.length ds ++ cp) w.st with
    | nxt e S => rw [q] at P1; exact fun w1 s1 x1 R1 st1 _ => P1 w1 .non x1 R1 st1 .non
    | ret d S => rw [q] at P1; exact P1
    | brk e S => rw [q] at P1; exact False.elim P1
    | cnt e S => rw [q] at P1; exact False.elim P1
    | exc y e S => rw [q] at P1; exact fun w1 s1 c1 d1 x1 R1 st1 _ rx => P1 w1 c1 d1 x1 R1 st1 rx
    | stuck => rw [q] at P1; exact P1
  · intro fl s' z
    cases fl with
    | next => obtain ⟨st, H', J, q⟩ := z; exact ⟨V.non, H', J.os, J.bare, J.base, J.hok, rfl, q⟩
    | ret u => obtain ⟨v, st, H', J, rv, q⟩ := z; exact ⟨v, H', J.os, J.bare, J.base, J.hok, rv, q⟩
    | brk => exact False.elim z.choose_spec.choose_spec.2
    | cont => exact False.elim z.choose_spec.choose_spec.2
end
section
variable {X : Cx} {pins : List (Addr × Obj)} {σ : L2.St} {s1 : Shared} {w1 : Wo} {params : Arguments} {body : Expr} {scope : Scope} {prm : Option Str} {js : List Nat} {mb : EM} {q : Str} {f c' : Addr} {oc : Obj} {pm ctv : Value} {en : En} {kb : Nat}
theorem lam_callG {A1 : Around} {K1 : List Env} {sB : Shared} {HB : Hp} {Ng : List Str} {qg : Str} {sg : Scope} {g : Addr} {cdg : Value} {Eg : XK} {pn : List (Addr × Obj)} {xe : Value → Shared → Prop} {W : WX} {j : Nat} {pinsZ : List (Addr × Obj)} {σZ : L2.St} {s3 : Shared} {w3 : Wo} {enZ : En} {us : List Value} {vs : List V} {ds : List D} {Q : VK} {nN : Nat}
    (un : Un (frs X.stack) [] w1.hp w3.hp s1.heap s3.heap) (I1 : L2.Inv X pins σ w1.hp s1) (E1 : RepE X.K X.mg w1 en σ) (L : LamP X.env.scope scope prm (js.map fun j => X.N.getD j Str.empty)) (hj : ∀ j ∈ js, j < X.N.length) (hnd : (lamN X prm js).Nodup) (hq : X.env.qual ++ "<lambda>" = q)
    (hf : s1.heap.get? f = some (PySem.W.kla_obj "<lambda>" q params body scope (cloFrom X.env.cells scope.names []) pm c' ctv)) (hfn : w1.hp f = none) (hfr : f ∉ frs X.stack) (hc : w1.hp c' = some (codeZ c' q oc))
    (hbind : ∀ (us : List Value), us.length = prm.toList.length → bindArgs (PySem.W.kla_fn "<lambda>" q params body scope (cloFrom X.env.cells scope.names []) pm (.ref c') ctv) ⟨us, []⟩ = pure (prm.toList.zip us))
    (hbody : ∀ (A : Around) (outer : List Env) (s : Shared) (H : Hp) (E : XK), Cg (lamC X A outer s H E scope f c' (lamN X prm js)) (fun cls d _ H' => E cls d H') kb → RE (lamC X A outer s H E scope f c' (lamN X prm js)) (fun cls d _ H' => E cls d H') body mb)
    (c : Cg ((cxOf (L2.CX X.prog X.w) X.prog X.w X.K X.mg X.base (Ng ++ ph4) qg sg g cdg A1 K1 sB HB Eg).tr pn xe) W j) (hk : kb + 1 ≤ j) (I3 : L2.Inv ((cxOf (L2.CX X.prog X.w) X.prog X.w X.K X.mg X.base (Ng ++ ph4) qg sg g cdg A1 K1 sB HB Eg).tr pn xe) pinsZ σZ w3.hp s3)
    (R3 : Rep X.K X.mg w3) (EZ : RepE X.K X.mg w3 enZ σZ) (hz : enZ.drop nN = cpOf js en (capV σ js)) (rv : Vals vs us) (rl : RepL X.K X.mg w3 ds vs) (hlen : ds.length = prm.toList.length)
    (P3 : Post (RepD X.K X.mg) X.K X.mg w3 (mb (ds.map some ++ js.map fun j => oj en[j]?) w3.st) Q (WE W σZ)) :
    wpAny (model X.prog X.w) ((cxOf (L2.CX X.prog X.w) X.prog X.w X.K X.mg X.base (Ng ++ ph4) qg sg g cdg A1 K1 sB HB Eg).tr pn xe).A (call (.ref f) us) (EP ((cxOf (L2.CX X.prog X.w) X.prog X.w X.K X.mg X.base (Ng ++ ph4) qg sg g cdg A1 K1 sB HB Eg).tr pn xe) pinsZ σZ Q) ((cxOf (L2.CX X.prog X.w) X.prog X.w X.K X.mg X.base (Ng ++ ph4) qg sg g cdg A1 K1 sB HB Eg).tr pn xe).xe s3 := by
  subst hq
  have of3 := un.keep f _ hf hfn hfr (fun z => by cases z)
  obtain ⟨_, ⟨oc2, vs2, t2, e1, e2, e3⟩, _⟩ := I3.hok c' _ (un.frzs c' _ _ hc)
  have hlv : vs.length = prm.toList.length := by rw [← rl.length]; exact hlen
  have hlu : us.length = prm.toList.length := by rw [← rv.length]; exact hlv
  have rm := c.rm.mono hk
  have rc : codeAny (model X.prog X.w) (A1.deeper (envOfC qg sg sB.heap.objs.size g cdg)) (.call (.ref f) ⟨us, []⟩) (CR (L2.CX X.prog X.w) (envOfC qg sg sB.heap.objs.size g cdg :: K1) X.prog X.w w3.hp s3 Q (WE W σZ)) s3 := by
    refine PySem.W.kla_callFunE rm.r.depth of3 rfl L.co L.gen rfl ⟨c', oc2, vs2, t2, rfl, e1, e2, e3⟩ ?_
    rw [hbind us hlu]
    refine wpAny_pure (wpAny_newFunctionEnv (fun y hy => L.cell y hy) ?_ ?_ L.kind)
    · rintro ⟨y, u⟩ hy
      have hm := (List.of_mem_zip hy).1
      exact L.par y (by simpa using hm)
    · intro h₁ hns hsb
      refine ⟨I3.nolimit.fresh _ hsb, ?_⟩
      show codeAny _ _ (.expr body (LamX.lamEnv X scope s3.heap.objs.size f c')) _ _
      have kp : ∀ b o, s3.heap.get? b = some o → h₁.get? b = some o := fun b o e => hsb.extBut b o (Nat.ne_of_lt (Heap.lt_size e)) (Heap.get?_push_of_some _ e)
      have J := lam_inv (A := A1.deeper (envOfC qg sg sB.heap.objs.size g cdg)) (outer := envOfC qg sg sB.heap.objs.size g cdg :: K1) (E := WE W σZ) (f := f) (c' := c') (tk := s3.toks + (prm.toList.zip us).length) I1 L I3.env0 rm.r.hd un hj rv hlv hns kp
      have cg : Cg (lamC X (A1.deeper (envOfC qg sg sB.heap.objs.size g cdg)) (envOfC qg sg sB.heap.objs.size g cdg :: K1) s3 w3.hp (WE W σZ) scope f c' (lamN X prm js)) (fun cls d _ H' => WE W σZ cls d H') kb := ⟨rfl, hnd, takes_of rfl rfl rfl rfl, passes_of rfl, ⟨rm.r.deeper _, fun q => rm.gd (Nat.le_succ_of_le q)⟩, rfl, rfl, rfl⟩
      refine PySem.W.kla_codeExpr (wpAny_mono ((hbody _ _ s3 w3.hp (WE W σZ) cg).run [] _ _ w3.hp Q J ⟨w3, _, rfl, R3, lam_slots E1 EZ hz rl, P3⟩) ?_ fun e s' hq => hq)
      rintro v s' ⟨v', H', J', rv', q'⟩
      exact ⟨v', H', J'.os, J'.bare, J'.base, J'.hok, rv', q'⟩
  refine wpAny_call (codeAny_mono rc fun r s' hq => ?_)
  cases r with
  | error e => exact passAt c.tk σZ pinsZ w3.hp s3 e s' I3 hq
  | ok fl =>
    cases fl with
    | ret u => exact I3.after hq
    | next => exact False.elim hq
    | brk => exact False.elim hq
    | cont => exact False.elim hq
theorem act_lamG {A1 : Around} {K1 : List Env} {sB : Shared} {HB : Hp} {Ng : List Str} {qg : Str} {sg : Scope} {g : Addr} {cdg : Value} {Eg : XK} {a : Str} {i : Nat}
    (hun : ∀ {pn : List (Addr × Obj)} {xe : Value → Shared → Prop} {σ' : L2.St} {H' : Hp} {s' : Shared} {pp : List (Addr × Obj)}, L2.Inv ((cxOf (L2.CX X.prog X.w) X.prog X.w X.K X.mg X.base (Ng ++ ph4) qg sg g cdg A1 K1 sB HB Eg).tr pn xe) pp σ' H' s' → Un (frs X.stack) [] w1.hp H' s1.heap s'.heap)
    (I1 : L2.Inv X pins σ w1.hp s1) (E1 : RepE X.K X.mg w1 en σ) (L : LamP X.env.scope scope prm (js.map fun j => X.N.getD j Str.empty)) (hj : ∀ j ∈ js, j < X.N.length) (hnd : (lamN X prm js).Nodup) (hq : X.env.qual ++ "<lambda>" = q)
    (hf : s1.heap.get? f = some (PySem.W.kla_obj "<lambda>" q params body scope (cloFrom X.env.cells scope.names []) pm c' ctv)) (hfn : w1.hp f = none) (hfr : f ∉ frs X.stack) (hc : w1.hp c' = some (codeZ c' q oc))
    (hbind : ∀ (us : List Value), us.length = prm.toList.length → bindArgs (PySem.W.kla_fn "<lambda>" q params body scope (cloFrom X.env.cells scope.names []) pm (.ref c') ctv) ⟨us, []⟩ = pure (prm.toList.zip us))
    (hbody : ∀ (A : Around) (outer : List Env) (s : Shared) (H : Hp) (E : XK), Cg (lamC X A outer s H E scope f c' (lamN X prm js)) (fun cls d _ H' => E cls d H') kb → RE (lamC X A outer s H E scope f c' (lamN X prm js)) (fun cls d _ H' => E cls d H') body mb)
    (hN : Ng[i]? = some a) (hv : Vis sg a) (hd : (a == ("__debug__" : Str)) = false) (hcd : (a == ("__classdict__" : Str)) = false) :
    Act (cxOf (L2.CX X.prog X.w) X.prog X.w X.K X.mg X.base (Ng ++ ph4) qg sg g cdg A1 K1 sB HB Eg) a i f Ng.length (cpOf js en (capV σ js)) (lamF js prm.toList.length mb en) (kb + 1) := by
  have hN' : (Ng ++ ph4)[i]? = some a := by rw [List.getElem?_append_left (List.getElem?_eq_some_iff.mp hN).1]; exact hN
  constructor
  · intro pn xe W j c hk e m p1 p2 ha he
    refine ⟨fun pinsZ sZ σZ HZ Q IZ h => ?_⟩
    obtain ⟨w, enZ, rfl, R, E, P⟩ := h
    unfold eCallV at P
    split at P
    · rename_i hg
      refine wpAny_Call_Name_kw (slot_w (X := (cxOf (L2.CX X.prog X.w) X.prog X.w X.K X.mg X.base (Ng ++ ph4) qg sg g cdg A1 K1 sB HB Eg).tr pn xe) hN' hv hd hcd IZ E hg.1 fun s2 I2 => ?_)
      have at_ : ∀ {σ' : L2.St} {H' : Hp} {s' : Shared} {pp : List (Addr × Obj)}, L2.Inv ((cxOf (L2.CX X.prog X.w) X.prog X.w X.K X.mg X.base (Ng ++ ph4) qg sg g cdg A1 K1 sB HB Eg).tr pn xe) pp σ' H' s' → s'.heap.get? f = some (PySem.W.kla_obj "<lambda>" q params body scope (cloFrom X.env.cells scope.names []) pm c' ctv) := fun J =>
        (hun J).keep f _ hf hfn hfr (fun z => by cases z)
      refine PySem.W.callWith_F ⟨_, _, _, _, at_ I2⟩ (thn (ha.run p2 pinsZ s2 σZ w.hp _ I2 ⟨w, enZ, rfl, R, E, Post.bind P⟩) ?_) he (by rfl)
      rintro us s3 ⟨vs, H3, I3, rv, w3, ds, rfl, X3, R3, rl, P3⟩
      refine ⟨⟨_, _, _, _, at_ I3⟩, ?_⟩
      unfold lamF at P3
      split at P3
      · rename_i hlen
        exact lam_callG (X := X) (w1 := w1) (s1 := s1) (hun I3) I1 E1 L hj hnd hq hf hfn hfr hc hbind hbody c hk I3 R3 (E.ext X3.toEx0) hg.2 rv rl hlen P3
      · exact False.elim P3
    · exact False.elim P
  · intro pn xe W j c hk p1 p2
    refine ⟨fun pinsZ sZ σZ HZ Q IZ h => ?_⟩
    obtain ⟨w, enZ, rfl, R, E, P⟩ := h
    unfold eCallV at P
    split at P
    · rename_i hg
      refine wpAny_Call_Name_kw (slot_w (X := (cxOf (L2.CX X.prog X.w) X.prog X.w X.K X.mg X.base (Ng ++ ph4) qg sg g cdg A1 K1 sB HB Eg).tr pn xe) hN' hv hd hcd IZ E hg.1 fun s2 I2 => ?_)
      have of2 := (hun I2).keep f _ hf hfn hfr (fun z => by cases z)
      refine PySem.W.callWith_F0 ⟨_, _, _, _, of2⟩ ?_
      replace P : Post (RepD X.K X.mg) X.K X.mg w (lamF js prm.toList.length mb en [] w.st) Q (WE W σZ) := P
      unfold lamF at P
      split at P
      · rename_i hlen
        exact lam_callG (X := X) (w1 := w1) (s1 := s1) (us := []) (vs := []) (ds := []) (hun I2) I1 E1 L hj hnd hq hf hfn hfr hc hbind hbody c hk I2 R E hg.2 .nil .nil hlen P
      · exact False.elim P
    · exact False.elim P
theorem act_lam2 {Ng : List Str} {qg : Str} {sg : Scope} {g : Addr} {cdg : Value} {Eg : XK} {a : Str} {i : Nat}
    (I1 : L2.Inv X pins σ w1.hp s1) (E1 : RepE X.K X.mg w1 en σ) (L : LamP X.env.scope scope prm (js.map fun j => X.N.getD j Str.empty)) (hj : ∀ j ∈ js, j < X.N.length) (hnd : (lamN X prm js).Nodup) (hq : X.env.qual ++ "<lambda>" = q)
    (hf : s1.heap.get? f = some (PySem.W.kla_obj "<lambda>" q params body scope (cloFrom X.env.cells scope.names []) pm c' ctv)) (hfn : w1.hp f = none) (hfr : f ∉ frs X.stack) (hc : w1.hp c' = some (codeZ c' q oc))
    (hbind : ∀ (us : List Value), us.length = prm.toList.length → bindArgs (PySem.W.kla_fn "<lambda>" q params body scope (cloFrom X.env.cells scope.names []) pm (.ref c') ctv) ⟨us, []⟩ = pure (prm.toList.zip us))
    (hbody : ∀ (A : Around) (outer : List Env) (s : Shared) (H : Hp) (E : XK), Cg (lamC X A outer s H E scope f c' (lamN X prm js)) (fun cls d _ H' => E cls d H') kb → RE (lamC X A outer s H E scope f c' (lamN X prm js)) (fun cls d _ H' => E cls d H') body mb)
    (hN : Ng[i]? = some a) (hv : Vis sg a) (hd : (a == ("__debug__" : Str)) = false) (hcd : (a == ("__classdict__" : Str)) = false) :
    Act2 (cxOf (L2.CX X.prog X.w) X.prog X.w X.K X.mg X.base (Ng ++ ph4) qg sg g cdg X.A X.stack s1 w1.hp Eg) a i f Ng.length (cpOf js en (capV σ js)) (lamF js prm.toList.length mb en) (kb + 1) (kb + 1) := by
  refine ⟨act_lam I1 E1 L hj hnd hq hf hfn hfr hc hbind hbody hN hv hd hcd, fun {pn xe pins2 σ2 H2 s2} I2 Ng2 qg2 sg2 g2 cdg2 Eg2 a2 i2 h5 h6 h7 h8 => ?_⟩
  show Act (cxOf (L2.CX X.prog X.w) X.prog X.w X.K X.mg X.base (Ng2 ++ ph4) qg2 sg2 g2 cdg2 (X.A.deeper (envOfC qg sg s1.heap.objs.size g cdg)) (envOfC qg sg s1.heap.objs.size g cdg :: X.stack) s2 H2 Eg2) a2 i2 f Ng2.length (cpOf js en (capV σ js)) (lamF js prm.toList.length mb en) (kb + 1)
  refine act_lamG (X := X) (w1 := w1) (s1 := s1) (fun {pn3 xe3 σ3 H3 s3 pp3} J => ?_) I1 E1 L hj hnd hq hf hfn hfr hc hbind hbody h5 h6 h7 h8
  have u1 : Un (frs X.stack) [] w1.hp H2 s1.heap s2.heap := I2.base
  have u2 : Un (frs (envOfC qg sg s1.heap.objs.size g cdg :: X.stack)) [] H2 H3 s2.heap s3.heap := J.base
  refine un_two u1 u2 fun c o h m => ?_
  have hlt := Heap.lt_size h
  unfold frs at m ⊢
  obtain ⟨e, he, hf2⟩ := List.mem_filterMap.mp m
  rcases List.mem_cons.mp he with rfl | he
  · exfalso
    have : c = s1.heap.objs.size := by
      have h2 : some s1.heap.objs.size = some c := hf2
      exact (Option.some.inj h2).symm
    rw [this] at hlt
    exact Nat.lt_irrefl _ hlt
  · exact List.mem_filterMap.mpr ⟨e, he, hf2⟩
structure LA2 (X : Cx) (l : Expr) (js : List Nat) (fkM : En → FM) (tb : Store → Bool) (kk : Nat) : Prop where
  run : ∀ (pins : List (Addr × Obj)) (s : Shared) (σ : L2.St) (w : Wo) (en : En), L2.Inv X pins σ w.hp s → Rep X.K X.mg w → RepE X.K X.mg w en σ → tb w.st = true →
    wpAny (model X.prog X.w) X.A (eval l X.env) (fun u s' => ∃ (fv : Nat) (vs : List V) (w' : Wo), u = .ref fv ∧ L2.Inv X pins σ w'.hp s' ∧ Ext w w' ∧ Rep X.K X.mg w' ∧ w'.st = w.st ∧ vs.length = js.length ∧ RepE X.K X.mg w' (cpOf js en vs) (vs.map some ++ List.replicate (6 - js.length) none) ∧
      ∀ (Ng : List Str) (qg : Str) (sg : Scope) (g : Addr) (cdg : Value) (Eg : XK) (a : Str) (i : Nat), Ng[i]? = some a → Vis sg a → (a == ("__debug__" : Str)) = false → (a == ("__classdict__" : Str)) = false →
        Act2 (cxOf (L2.CX X.prog X.w) X.prog X.w X.K X.mg X.base (Ng ++ ph4) qg sg g cdg X.A X.stack s' w'.hp Eg) a i fv Ng.length (cpOf js en vs) (fkM en) kk kk) X.xe s
theorem la_lam2 {nT : Nat} {p : Str × Option Str} {lpos : Pos} (L : LamP X.env.scope scope prm (js.map fun j => X.N.getD j Str.empty)) (hj : ∀ j ∈ js, j < X.N.length) (h4 : js.length ≤ 6) (hnd : (lamN X prm js).Nodup) (hq : X.env.qual ++ "<lambda>" = q)
    (TB : LamX.TabB X.base X.mg (He.cT X.K p).1 (He.cT X.K p).2) (hcode : X.env.code = .ref (He.cT X.K p).1) (hdef : defaultsOf params X.env = ([], []))
    (hbind : ∀ (cl : List (Str × Addr)) (pm cv ctv : Value) (us : List Value), us.length = prm.toList.length → bindArgs (PySem.W.kla_fn "<lambda>" q params body scope cl pm cv ctv) ⟨us, []⟩ = pure (prm.toList.zip us))
    (hbody : ∀ (A : Around) (outer : List Env) (s : Shared) (H : Hp) (E : XK) (f c' : Addr), Cg (lamC X A outer s H E scope f c' (lamN X prm js)) (fun cls d _ H' => E cls d H') kb → RE (lamC X A outer s H E scope f c' (lamN X prm js)) (fun cls d _ H' => E cls d H') body mb) :
    LA2 X (.Lambda params body scope lpos) js (lamF js prm.toList.length mb) (tbS nT p q) (kb + 1) := by
  refine ⟨fun pins s σ w en I R E ht => ?_⟩
  have hfree : ∀ y ∈ scope.names, y.2 = .free → ∃ c, X.env.cells.lookup y.1 = some c := by
    intro y hy e
    rcases L.free y hy e with z | z
    · exact I.ok.has _ (.inl z)
    · exact I.ok.has _ (.inr z)
  refine lam_new I R (tbS_at ht) hq TB hcode hdef hfree ?_
  intro f c' oc pm ctv w' s' I' X' R' st' hf hfn hfr hc
  refine ⟨f, capV σ js, w', rfl, I', X', R', st', by unfold capV; simp, cp_rep (E.ext X'.toEx0) h4, ?_⟩
  intro Ng qg sg g cdg Eg a i h5 h6 h7 h8
  exact act_lam2 I' (E.ext X'.toEx0) L hj hnd hq hf hfn hfr hc (hbind _ pm _ ctv) (fun A outer s H E' cg => hbody A outer s H E' f c' cg) h5 h6 h7 h8
end
section
variable {X : Cx} {W : WX} {a b c e l : Expr} {es : List Expr} {ma mb mc me : EM} {pos : Pos} {x : Str} {p : Pos} {j k : Nat} {ps ks : List Str} {f : FM}
structure Dh2 (P : Program) (w0 : World) (K : PySem.W.Frag) (mg : Str → Option Value) (base : Heap) (x : Str) (ps : List Str) (k kk : Nat) (m : Nat → List (Option D) → FM → FM) : Prop where
  ex : ∃ f fd N qual scope a i, mg x = some (.ref f) ∧ PySem.W.keepIn K (.ref f) = true ∧ Binds K fd ps [] ∧ N[i]? = some a ∧ Vis scope a ∧ (a == ("__debug__" : Str)) = false ∧ (a == ("__classdict__" : Str)) = false ∧ FnH2 P w0 K mg base k kk f fd N qual scope ps a i m
theorem re_callH_2 {rest : List Expr} {js : List Nat} {fkM : En → FM} {tb : Store → Bool} {kk n : Nat} {mp : AM} {m : Nat → List (Option D) → FM → FM} (c : Cg X W j) (hF : Dh2 X.prog X.w X.K X.mg X.base x ps k kk m) (hj : k + 1 ≤ j) (hp : RP X W es mp) (hl : LA2 X l js fkM tb kk) (hkk : kk ≤ k) (hps : ps.length = n + 1) (hcap : js.length ≤ 6) (hg : Gl X x := by rfl) (hdb : (x == ("__debug__" : Str)) = false := by decide)
    (hargs : backTo pos (starEach (e :: rest) X.env) = es.map (fun e => (false, eval e X.env)) ++ [(false, eval l X.env)] := by rfl) (he : starEach (e :: rest) X.env = (false, eval e X.env) :: starEach rest X.env := by rfl) (hpl : (backTo pos (starEach rest X.env)).any (·.1) = false := by rfl) :
    RE X W (.Call (.Name x p) (e :: rest) [] pos) (eCallH m js fkM tb n mp) := by
  obtain ⟨fa, fd, N, qual, scope, nm, i, h1, h2, h3, hN, hv, hd, hcd, h4⟩ := hF.ex
  refine ⟨fun pins s σ H Q I h => ?_⟩
  obtain ⟨w, en, rfl, R, E, P⟩ := h
  refine wpAny_Call_Name_kw (ld_glob I hg h1 ?_ hdb)
  refine PySem.W.callWith_K (h₀ := X.base) I.ok.mod.kin h2 ?_ he hpl
  rw [hargs]
  refine spl_run hp I R E (Ext.refl w) P fun us vs ds s1 w1 I1 R1 E1 X1 rv rl P1 => ?_
  (try dsimp only at P1)
  split at P1
  · rename_i hgd
    refine thn (hl.run pins s1 σ w1 en I1 R1 E1 hgd.1) ?_
    rintro u s2 ⟨fv, cvs, w2, rfl, I2, X2, R2, st2, hcl, rc, act⟩
    have P2 := (Post.uni P1 (fv, ⟨cvs, hcl⟩)).ext X2
    dsimp only at P2
    rw [← st2] at P2
    have hlen : (vs ++ [V.ref fv]).length = ps.length := by rw [List.length_append, ← rl.length, hgd.2, hps]; rfl
    have rv2 : Vals (vs ++ [V.ref fv]) (us ++ [Value.ref fv]) := rv.append (.cons rfl .nil)
    have b := h3 s2 (us ++ [Value.ref fv]) I2.kIn (by rw [List.append_nil, ← rv2.length]; exact hlen)
    rw [List.append_nil] at b
    refine ⟨I2.kIn, wpAny_call (codeAny_mono (h4.run X.A X.stack s2 w2.hp ⟨us ++ [Value.ref fv], []⟩ (us ++ [Value.ref fv]) (vs ++ [V.ref fv]) Q (WE W σ) fv (cpOf js en cvs) _ (fkM en) (c.rm.mono hj) I2.env0 b rv2 hlen (cpOf_len hcl hcap) (fun cdv => (act N qual scope fa cdv (WE W σ) nm i hN hv hd hcd).mono hkk)
      ⟨w2, ds ++ [.fa fv], rfl, R2, (rl.ext X2.toEx0).append (.cons (.fa fv) .nil), rc, P2⟩) ?_)⟩
    intro res s' z
    cases res with
    | error y => exact passAt c.tk σ pins w2.hp s2 y s' I2 z
    | ok fl =>
      cases fl with
      | ret u => exact I2.after z
      | _ => exact False.elim z
  · exact False.elim P1
theorem re_callH2_0 {m : Nat → List (Option D) → FM → FM} {js : List Nat} {fkM : En → FM} {tb : Store → Bool} {kk : Nat} (c : Cg X W j) (hF : Dh2 X.prog X.w X.K X.mg X.base x ps k kk m) (hj : k + 1 ≤ j) (hl : LA2 X l js fkM tb kk) (hkk : kk ≤ k) (hps : ps.length = 1) (hcap : js.length ≤ 6) (hg : Gl X x := by rfl) (hdb : (x == ("__debug__" : Str)) = false := by decide)
    (hargs : backTo pos (starEach [l] X.env) = [(false, eval l X.env)] := by rfl) (he : starEach [l] X.env = (false, eval l X.env) :: starEach [] X.env := by rfl) :
    RE X W (.Call (.Name x p) [l] [] pos) (eCallH m js fkM tb 0 aNil) := re_callH_2 c hF hj .nil hl hkk hps hcap hg hdb hargs he (by rfl)
theorem LA2.mono {l : Expr} {js : List Nat} {fkM : En → FM} {tb : Store → Bool} {k1 k2 : Nat} (h : LA2 X l js fkM tb k1) (le : k1 ≤ k2) : LA2 X l js fkM tb k2 := by
  refine ⟨fun pins s σ w en I R E ht => thn (h.run pins s σ w en I R E ht) ?_⟩
  rintro u s' ⟨fv, vs, w', e1, e2, e3, e4, e5, e6, e7, act⟩
  refine ⟨fv, vs, w', e1, e2, e3, e4, e5, e6, e7, fun Ng qg sg g cdg Eg a i h5 h6 h7 h8 => ?_⟩
  have A := act Ng qg sg g cdg Eg a i h5 h6 h7 h8
  exact ⟨A.act.mono le, fun I2 Ng2 qg2 sg2 g2 cdg2 Eg2 a2 i2 h5 h6 h7 h8 => (A.fwd I2 Ng2 qg2 sg2 g2 cdg2 Eg2 a2 i2 h5 h6 h7 h8).mono le⟩
open Classical in
noncomputable def eCallF (g : Nat → List (Option D) → FM → FM) (i f nN : Nat) (cp : List (Option D)) (fk : FM) : EM := fun en S => if en[i]? = some (some (.fa f)) ∧ en.drop nN = cp then g f cp fk [.fa f] S else .stuck
theorem RepE.drop {K : PySem.W.Frag} {mg : Str → Option Value} {w : Wo} {en : En} {σ : L2.St} (h : RepE K mg w en σ) (n : Nat) : RepE K mg w (en.drop n) (σ.drop n) := by
  refine ⟨by rw [List.length_drop, List.length_drop, h.len], fun i d g => ?_⟩
  rw [List.getElem?_drop] at g
  obtain ⟨v, q, r⟩ := h.get _ d g
  exact ⟨v, by rw [List.getElem?_drop]; exact q, r⟩
theorem re_callF {Z : Cx} {pn : List (Addr × Obj)} {xe : Value → Shared → Prop} {a : Str} {i f nN kk : Nat} {k' : Nat} {cp : List (Option D)} {fk : FM} {p1 : Pos} {m : Nat → List (Option D) → FM → FM} (c : Cg (Z.tr pn xe) W j) (act : Act2 Z a i f nN cp fk k' kk) (hN : Z.N[i]? = some a) (hv : Vis Z.env.scope a) (hd : (a == ("__debug__" : Str)) = false) (hcd : (a == ("__classdict__" : Str)) = false)
    (hF : Dh Z.prog Z.w Z.K Z.mg Z.base x ps k m) (hj : k + 1 ≤ j) (hkk : kk ≤ k) (hps : ps.length = 1) (hZ : Z.N.length = nN + 6) (hg : Gl (Z.tr pn xe) x := by rfl) (hdb : (x == ("__debug__" : Str)) = false := by decide)
    (he : starEach [.Name a p1] (Z.tr pn xe).env = (false, eval (.Name a p1) (Z.tr pn xe).env) :: starEach [] (Z.tr pn xe).env := by rfl) (hargs : backTo pos (starEach [.Name a p1] (Z.tr pn xe).env) = [(false, eval (.Name a p1) (Z.tr pn xe).env)] := by rfl) :
    RE (Z.tr pn xe) W (.Call (.Name x p) [.Name a p1] [] pos) (eCallF m i f nN cp fk) := by
  obtain ⟨fa, fd, N, qual, scope, nm, i2, h1, h2, h3, hN2, hv2, hd2, hcd2, h4⟩ := hF.ex
  refine ⟨fun pins s σ H Q I h => ?_⟩
  obtain ⟨w, en, rfl, R, E, P⟩ := h
  unfold eCallF at P
  split at P
  · rename_i hgd
    refine wpAny_Call_Name_kw (ld_glob I hg h1 ?_ hdb)
    refine PySem.W.callWith_K (h₀ := Z.base) I.ok.mod.kin h2 ?_ he (by rfl)
    rw [hargs]
    refine Calls.spliced_cons (slot_w (X := Z.tr pn xe) hN hv hd hcd I E hgd.1 fun s1 I1 => Calls.spliced_nil ?_)
    have rv : Vals [V.ref f] [Value.ref f] := .cons rfl .nil
    have b := h3 s1 [Value.ref f] I1.kIn (by rw [List.append_nil, hps]; rfl)
    rw [List.append_nil] at b
    have hlen : en.length = nN + 6 := E.len.trans (I1.len.trans hZ)
    have hcl : cp.length = 6 := by rw [← hgd.2, List.length_drop, hlen]; omega
    have rc : RepE Z.K Z.mg w cp (σ.drop nN) := by rw [← hgd.2]; exact E.drop nN
    refine ⟨I1.kIn, wpAny_call (codeAny_mono (h4.run Z.A Z.stack s1 w.hp ⟨[Value.ref f], []⟩ [Value.ref f] [V.ref f] Q (WE W σ) f cp (σ.drop nN) fk (c.rm.mono hj) I1.env0 b rv hps.symm hcl (fun cdv => (act.fwd I1 N qual scope fa cdv (WE W σ) nm i2 hN2 hv2 hd2 hcd2).mono hkk)
      ⟨w, [.fa f], rfl, R, .cons (.fa f) .nil, rc, P⟩) ?_)⟩
    intro res s' z
    cases res with
    | error y => exact passAt c.tk σ pins w.hp s1 y s' I1 z
    | ok fl =>
      cases fl with
      | ret u => exact I1.after z
      | _ => exact False.elim z
  · exact False.elim P
end
end G
namespace G
open PySem
def Wr {β : Type} (r : Res β) (Q : β → Store → Prop) (X : D → Store → Prop) : Prop := match r with
  | .ok b S => Q b S
  | .exc e S => X e S
  | .stuck => False
structure KS where
  nx : En → Store → Prop
  rt : D → Store → Prop
  bk : En → Store → Prop
  ct : En → Store → Prop
  ex : D → En → Store → Prop
def Ws (r : SRes) (k : KS) : Prop := match r with
  | .nxt e S => k.nx e S
  | .ret d S => k.rt d S
  | .brk e S => k.bk e S
  | .cnt e S => k.ct e S
  | .exc x e S => k.ex x e S
  | .stuck => False
abbrev QP (β : Type) := β → Store → Prop
section
variable {β γ : Type} {Q : β → Store → Prop} {QD : D → Store → Prop} {QB : Bool → Store → Prop} {QL : List D → Store → Prop} {QO : Option Int → Store → Prop} {QE : En → Store → Prop} {X : D → Store → Prop} {k : KS} {e : En} {S S1 : Store} {a b c : EM} {t u : TM} {m n : SM} {am : AM} {x y d : D} {z : Bool} {xs ds : List D}
theorem wr_ok (z : β) : Wr (.ok z S) Q X = Q z S := rfl
theorem wr_exc (z : D) : Wr (.exc z S : Res β) Q X = X z S := rfl
theorem wr_stuck : Wr (.stuck : Res β) Q X = False := rfl
theorem wr_bind {r : Res γ} {f : γ → Store → Res β} : Wr (r.bind f) Q X = Wr r (fun b S => Wr (f b S) Q X) X := by cases r <;> rfl
theorem wr_guard {p : Prop} [Decidable p] {r : Res β} : Wr (if p then r else .stuck) Q X = (p ∧ Wr r Q X) := by
  by_cases h : p
  · rw [if_pos h]; simp [h]
  · rw [if_neg h]; simp [h, wr_stuck]
def nX : D → Store → Prop := fun _ _ => False
theorem wr_lf (z : β) : Wr (lf (some z) S) Q X = Q z S := rfl
theorem wr_eC : Wr (eC d e S) QD X = QD d S := rfl
def evQ (o : Option (Option D)) (S : Store) (Q : D → Store → Prop) : Prop := match o with
  | some (some d) => Q d S
  | _ => False
theorem evQ_some : evQ (some (some d)) S QD = QD d S := rfl
theorem wr_eVar (i : Nat) : Wr (eVar i e S) QD X = evQ e[i]? S QD := by
  unfold eVar evQ
  cases e[i]? with
  | none => rfl
  | some o => cases o <;> rfl
def cB2 (f : D → D → Option D) (x : D) (Q X : QP D) : QP D := fun y S => Wr (lf (f x y) S) Q X
def cB1 (f : D → D → Option D) (b : EM) (e : En) (Q X : QP D) : QP D := fun x S => Wr (b e S) (cB2 f x Q X) X
theorem cB2_s (f : D → D → Option D) : cB2 f x QD X y S = Wr (lf (f x y) S) QD X := rfl
theorem cB1_s (f : D → D → Option D) : cB1 f b e QD X x S = Wr (b e S) (cB2 f x QD X) X := rfl
theorem wr_eBin (f : D → D → Option D) : Wr (eBin f a b e S) QD X = Wr (a e S) (cB1 f b e QD X) X := by
  unfold eBin; simp only [wr_bind]; rfl
def cS2 (f : Store → D → D → Option D) (x : D) (Q X : QP D) : QP D := fun y S => Wr (lf (f S x y) S) Q X
def cS1 (f : Store → D → D → Option D) (b : EM) (e : En) (Q X : QP D) : QP D := fun x S => Wr (b e S) (cS2 f x Q X) X
theorem cS2_s (f : Store → D → D → Option D) : cS2 f x QD X y S = Wr (lf (f S x y) S) QD X := rfl
theorem cS1_s (f : Store → D → D → Option D) : cS1 f b e QD X x S = Wr (b e S) (cS2 f x QD X) X := rfl
theorem wr_eBinS (f : Store → D → D → Option D) : Wr (eBinS f a b e S) QD X = Wr (a e S) (cS1 f b e QD X) X := by
  unfold eBinS; simp only [wr_bind]; rfl
def asQ (Q : Bool → Store → Prop) : QP D := fun x S => match x with
  | .bl b => Q b S
  | _ => False
theorem asQ_bl : asQ QB (.bl z) S = QB z S := rfl
theorem wr_tB : Wr (tB a e S) QB X = Wr (a e S) (asQ QB) X := by
  unfold tB; rw [wr_bind]; congr; funext x S1; cases x <;> rfl
def truQ (Q : QP Bool) (X : QP D) : QP D := fun x S => Wr (lf (truD S x) S) Q X
theorem truQ_s : truQ QB X x S = Wr (lf (truD S x) S) QB X := rfl
theorem wr_tT : Wr (tT a e S) QB X = Wr (a e S) (truQ QB X) X := by unfold tT; rw [wr_bind]; rfl
def notQ (Q : QP Bool) : QP Bool := fun b S => Q (!b) S
theorem notQ_s : notQ QB z S = QB (!z) S := rfl
theorem wr_tNt : Wr (tNt t e S) QB X = Wr (t e S) (notQ QB) X := by unfold tNt; rw [wr_bind]; rfl
def anQ (u : TM) (e : En) (Q : QP Bool) (X : QP D) : QP Bool := fun b S => match b with
  | true => Wr (u e S) Q X
  | false => Q false S
theorem anQ_t : anQ u e QB X true S = Wr (u e S) QB X := rfl
theorem anQ_f : anQ u e QB X false S = QB false S := rfl
theorem wr_tAn : Wr (tAn t u e S) QB X = Wr (t e S) (anQ u e QB X) X := by
  unfold tAn; rw [wr_bind]; congr; funext b S1; cases b <;> rfl
def orQ (u : TM) (e : En) (Q : QP Bool) (X : QP D) : QP Bool := fun b S => match b with
  | true => Q true S
  | false => Wr (u e S) Q X
theorem orQ_t : orQ u e QB X true S = QB true S := rfl
theorem orQ_f : orQ u e QB X false S = Wr (u e S) QB X := rfl
theorem wr_tOr : Wr (tOr' t u e S) QB X = Wr (t e S) (orQ u e QB X) X := by
  unfold tOr'; rw [wr_bind]; congr; funext b S1; cases b <;> rfl
def eaB (b : EM) (e : En) (x : D) (Q X : QP D) : QP Bool := fun z S => match z with
  | true => Wr (b e S) Q X
  | false => Q x S
def eaQ (b : EM) (e : En) (Q X : QP D) : QP D := fun x S => Wr (lf (truD S x) S) (eaB b e x Q X) X
theorem eaB_t : eaB b e x QD X true S = Wr (b e S) QD X := rfl
theorem eaB_f : eaB b e x QD X false S = QD x S := rfl
theorem eaQ_s : eaQ b e QD X x S = Wr (lf (truD S x) S) (eaB b e x QD X) X := rfl
theorem wr_eAn : Wr (eAn a b e S) QD X = Wr (a e S) (eaQ b e QD X) X := by
  unfold eAn; rw [wr_bind]; congr; funext b S1; rw [wr_bind, eaQ_s]; congr; funext b S1; cases b <;> rfl
def eoB (b : EM) (e : En) (x : D) (Q X : QP D) : QP Bool := fun z S => match z with
  | true => Q x S
  | false => Wr (b e S) Q X
def eoQ (b : EM) (e : En) (Q X : QP D) : QP D := fun x S => Wr (lf (truD S x) S) (eoB b e x Q X) X
theorem eoB_t : eoB b e x QD X true S = QD x S := rfl
theorem eoB_f : eoB b e x QD X false S = Wr (b e S) QD X := rfl
theorem eoQ_s : eoQ b e QD X x S = Wr (lf (truD S x) S) (eoB b e x QD X) X := rfl
theorem wr_eOr : Wr (eOr a b e S) QD X = Wr (a e S) (eoQ b e QD X) X := by
  unfold eOr; rw [wr_bind]; congr; funext b S1; rw [wr_bind, eoQ_s]; congr; funext b S1; cases b <;> rfl
def enB (Q : QP D) : QP Bool := fun z S => Q (.bl (!z)) S
def enQ (Q X : QP D) : QP D := fun x S => Wr (lf (truD S x) S) (enB Q) X
theorem enB_s : enB QD z S = QD (.bl (!z)) S := rfl
theorem enQ_s : enQ QD X x S = Wr (lf (truD S x) S) (enB QD) X := rfl
theorem wr_eNt : Wr (eNt a e S) QD X = Wr (a e S) (enQ QD X) X := by
  unfold eNt; rw [wr_bind]; congr; funext b S1; rw [wr_bind]; rfl
def eiQ (a b : EM) (e : En) (Q X : QP D) : QP Bool := fun z S => match z with
  | true => Wr (a e S) Q X
  | false => Wr (b e S) Q X
theorem eiQ_t : eiQ a b e QD X true S = Wr (a e S) QD X := rfl
theorem eiQ_f : eiQ a b e QD X false S = Wr (b e S) QD X := rfl
theorem wr_eIf : Wr (eIf t a b e S) QD X = Wr (t e S) (eiQ a b e QD X) X := by
  unfold eIf; rw [wr_bind]; congr; funext b S1; cases b <;> rfl
def negQ (Q : QP D) : QP D := fun x S => match x with
  | .int i => Q (.int (-i)) S
  | _ => False
theorem negQ_int (i : Int) : negQ QD (.int i) S = QD (.int (-i)) S := rfl
theorem wr_eNeg : Wr (eNeg a e S) QD X = Wr (a e S) (negQ QD) X := by
  unfold eNeg; rw [wr_bind]; congr; funext x S1; cases x <;> rfl
theorem wr_aNil : Wr (aNil e S) QL X = QL [] S := rfl
def cC2 (x : D) (Q : QP (List D)) : QP (List D) := fun xs S => Q (x :: xs) S
def cC1 (am : AM) (e : En) (Q : QP (List D)) (X : QP D) : QP D := fun x S => Wr (am e S) (cC2 x Q) X
theorem cC2_s : cC2 x QL xs S = QL (x :: xs) S := rfl
theorem cC1_s : cC1 am e QL X x S = Wr (am e S) (cC2 x QL) X := rfl
theorem wr_aCons : Wr (aCons a am e S) QL X = Wr (a e S) (cC1 am e QL X) X := by
  unfold aCons; rw [wr_bind]; congr; funext x S1; rw [wr_bind]; rfl
def tupQ (Q : QP D) : QP (List D) := fun xs S => xs.length ≤ sizeLine ∧ Q (.tup xs) S
def lstQ (Q : QP D) : QP (List D) := fun xs S => xs.length ≤ sizeLine ∧ Q (.lst xs) S
def newQ (Q : QP D) : QP (List D) := fun xs S => xs.length ≤ sizeLine ∧ Q (.loc S.length) (S ++ [.lst xs])
theorem tupQ_s : tupQ QD xs S = (xs.length ≤ sizeLine ∧ QD (.tup xs) S) := rfl
theorem lstQ_s : lstQ QD xs S = (xs.length ≤ sizeLine ∧ QD (.lst xs) S) := rfl
theorem newQ_s : newQ QD xs S = (xs.length ≤ sizeLine ∧ QD (.loc S.length) (S ++ [.lst xs])) := rfl
theorem wr_eTup : Wr (eTup am e S) QD X = Wr (am e S) (tupQ QD) X := by
  unfold eTup; rw [wr_bind]; congr; funext xs S1; rw [wr_guard]; rfl
theorem wr_eLst : Wr (eLst am e S) QD X = Wr (am e S) (lstQ QD) X := by
  unfold eLst; rw [wr_bind]; congr; funext xs S1; rw [wr_guard]; rfl
theorem wr_eNew : Wr (eNew am e S) QD X = Wr (am e S) (newQ QD) X := by
  unfold eNew; rw [wr_bind]; congr; funext xs S1; rw [wr_guard]; rfl
def caQ (f : Store → List D → Option D) (Q X : QP D) : QP (List D) := fun xs S => Wr (lf (f S xs) S) Q X
theorem caQ_s (f : Store → List D → Option D) : caQ f QD X xs S = Wr (lf (f S xs) S) QD X := rfl
theorem wr_eCa (f : Store → List D → Option D) : Wr (eCa f am e S) QD X = Wr (am e S) (caQ f QD X) X := by unfold eCa; rw [wr_bind]; rfl
def clQ (f : FM) (Q X : QP D) : QP (List D) := fun xs S => Wr (f xs S) Q X
theorem clQ_s (f : FM) : clQ f QD X xs S = Wr (f xs S) QD X := rfl
theorem wr_eCall (f : FM) : Wr (eCall f am e S) QD X = Wr (am e S) (clQ f QD X) X := by unfold eCall; rw [wr_bind]; rfl
def nAQ (i : Nat) (Q : QP (List D)) : QP (List D) := fun xs S => xs.length = i ∧ Q xs S
theorem nAQ_s (i : Nat) : nAQ i QL xs S = (xs.length = i ∧ QL xs S) := rfl
theorem wr_nA (i : Nat) : Wr (nA i am e S) QL X = Wr (am e S) (nAQ i QL) X := by
  unfold nA; rw [wr_bind]; congr; funext xs S1; rw [wr_guard]; rfl
def tyQ (y : Ty) (Q X : QP D) : QP D := fun x S => Wr (lf ((isTy S y x).map .bl) S) Q X
theorem tyQ_s (y : Ty) : tyQ y QD X x S = Wr (lf ((isTy S y x).map .bl) S) QD X := rfl
theorem wr_eIsTy (y : Ty) : Wr (eIsTy y a e S) QD X = Wr (a e S) (tyQ y QD X) X := by unfold eIsTy; rw [wr_bind]; rfl
def icQ (tb : Nat → Option Bool) (Q X : QP D) : QP D := fun x S => Wr (lf ((isC tb x).map .bl) S) Q X
theorem icQ_s (tb : Nat → Option Bool) : icQ tb QD X x S = Wr (lf ((isC tb x).map .bl) S) QD X := rfl
theorem wr_eIsC (tb : Nat → Option Bool) : Wr (eIsC tb a e S) QD X = Wr (a e S) (icQ tb QD X) X := by unfold eIsC; rw [wr_bind]; rfl
def mt2 (f : Store → D → List D → Option D) (x : D) (Q X : QP D) : QP (List D) := fun xs S => Wr (lf (f S x xs) S) Q X
def mt1 (f : Store → D → List D → Option D) (am : AM) (e : En) (Q X : QP D) : QP D := fun x S => (seqD S x).isSome = true ∧ Wr (am e S) (mt2 f x Q X) X
theorem mt2_s (f : Store → D → List D → Option D) : mt2 f x QD X xs S = Wr (lf (f S x xs) S) QD X := rfl
theorem mt1_s (f : Store → D → List D → Option D) : mt1 f am e QD X x S = ((seqD S x).isSome = true ∧ Wr (am e S) (mt2 f x QD X) X) := rfl
theorem wr_eMt (f : Store → D → List D → Option D) : Wr (eMt f a am e S) QD X = Wr (a e S) (mt1 f am e QD X) X := by
  unfold eMt; rw [wr_bind]; congr; funext x S1; rw [wr_guard, wr_bind]; rfl
theorem wr_oNone : Wr (oNone e S) QO X = QO none S := rfl
def oQ (Q : Option Int → Store → Prop) : QP D := fun x S => match x with
  | .int i => Q (some i) S
  | _ => False
theorem oQ_int (i : Int) : oQ QO (.int i) S = QO (some i) S := rfl
theorem wr_oSome : Wr (oSome a e S) QO X = Wr (a e S) (oQ QO) X := by
  unfold oSome; rw [wr_bind]; congr; funext x S1; cases x <;> rfl
def sl3 (x : D) (i : Option Int) (Q X : QP D) : QP (Option Int) := fun j S => Wr (lf (slD S x i j) S) Q X
def sl2 (x : D) (h : OM) (e : En) (Q X : QP D) : QP (Option Int) := fun i S => Wr (h e S) (sl3 x i Q X) X
def sl1 (l h : OM) (e : En) (Q X : QP D) : QP D := fun x S => Wr (l e S) (sl2 x h e Q X) X
theorem sl3_s (i j : Option Int) : sl3 x i QD X j S = Wr (lf (slD S x i j) S) QD X := rfl
theorem sl2_s (h : OM) (i : Option Int) : sl2 x h e QD X i S = Wr (h e S) (sl3 x i QD X) X := rfl
theorem sl1_s (l h : OM) : sl1 l h e QD X x S = Wr (l e S) (sl2 x h e QD X) X := rfl
theorem wr_eSl (l h : OM) : Wr (eSl a l h e S) QD X = Wr (a e S) (sl1 l h e QD X) X := by
  unfold eSl; simp only [wr_bind]; rfl
def kk2 (f : FM) (g : List D → List D → List D) (i j : Nat) (ds : List D) (Q X : QP D) : QP (List D) := fun zs S => (ds.length = i ∧ zs.length = j) ∧ Wr (f (g ds zs) S) Q X
def kk1 (f : FM) (g : List D → List D → List D) (i j : Nat) (mk : AM) (e : En) (Q X : QP D) : QP (List D) := fun ds S => Wr (mk e S) (kk2 f g i j ds Q X) X
theorem kk2_s (f : FM) (g : List D → List D → List D) (i j : Nat) : kk2 f g i j ds QD X xs S = ((ds.length = i ∧ xs.length = j) ∧ Wr (f (g ds xs) S) QD X) := rfl
theorem kk1_s (f : FM) (g : List D → List D → List D) (i j : Nat) (mk : AM) : kk1 f g i j mk e QD X ds S = Wr (mk e S) (kk2 f g i j ds QD X) X := rfl
theorem wr_eCallK (f : FM) (g : List D → List D → List D) (i j : Nat) (mk : AM) : Wr (eCallK f g i j am mk e S) QD X = Wr (am e S) (kk1 f g i j mk e QD X) X := by
  unfold eCallK; rw [wr_bind]; congr; funext ds S1; rw [wr_bind, kk1_s]; congr; funext zs S2; rw [wr_guard]; rfl
def kk0 (f : FM) (g : List D → List D → List D) (j : Nat) (Q X : QP D) : QP (List D) := fun zs S => zs.length = j ∧ Wr (f (g [] zs) S) Q X
theorem kk0_s (f : FM) (g : List D → List D → List D) (j : Nat) : kk0 f g j QD X xs S = (xs.length = j ∧ Wr (f (g [] xs) S) QD X) := rfl
theorem wr_eCallK0 (f : FM) (g : List D → List D → List D) (j : Nat) (mk : AM) : Wr (eCallK0 f g j mk e S) QD X = Wr (mk e S) (kk0 f g j QD X) X := by
  unfold eCallK0; rw [wr_bind]; congr; funext zs S2; rw [wr_guard]; rfl
theorem wr_noX {r : Res β} : Wr (noX r) Q X = Wr r Q nX := by cases r <;> rfl
theorem wr_gN (i : Nat) : Wr (gN i d e S) QE X = QE (e.set i (some d)) S := rfl
def sb3 (e : En) (Q : QP En) (o : Option Store) : Prop := match o with
  | some S => Q e S
  | none => False
theorem sb3_s : sb3 e QE (some S) = QE e S := rfl
def sb2 (d x : D) (e : En) (Q : QP En) : QP D := fun y S => sb3 e Q (setD S x y d)
def sb1 (d : D) (i : EM) (e : En) (Q : QP En) : QP D := fun x S => Wr (i e S) (sb2 d x e Q) nX
theorem sb2_s : sb2 d x e QE y S = sb3 e QE (setD S x y d) := rfl
theorem sb1_s (i : EM) : sb1 d i e QE x S = Wr (i e S) (sb2 d x e QE) nX := rfl
theorem wr_gSb (o i : EM) : Wr (gSb o i d e S) QE X = Wr (o e S) (sb1 d i e QE) nX := by
  unfold gSb; rw [wr_bind, wr_noX]; congr; funext x S1; rw [wr_bind, wr_noX, sb1_s]; congr; funext y S2; rw [sb2_s]; cases h : setD S2 x y d <;> rfl
theorem wr_gsNil : Wr (gsNil [] e S) QE X = QE e S := rfl
def gs1 (r : GMs) (ds : List D) (Q : QP En) : QP En := fun e S => Wr (r ds e S) Q nX
theorem gs1_s (r : GMs) : gs1 r ds QE e S = Wr (r ds e S) QE nX := rfl
theorem wr_gsCons (g : GM) (r : GMs) (ds : List D) : Wr (gsCons' g r (d :: ds) e S) QE X = Wr (g d e S) (gs1 r ds QE) nX := by
  show Wr ((noX (g d e S)).bind fun e1 S1 => noX (r ds e1 S1)) QE X = _
  rw [wr_bind, wr_noX]; congr; funext x S1; rw [wr_noX]; rfl
theorem wr_gTp (i : Nat) (r : GMs) (ds : List D) : Wr (gTp i r (.tup ds) e S) QE X = (ds.length = i ∧ Wr (r ds e S) QE X) := by
  show Wr (if ds.length = i then r ds e S else .stuck) QE X = _
  rw [wr_guard]
def KS.sq (k : KS) (n : SM) : KS := ⟨fun e S => Ws (n e S) k, k.rt, k.bk, k.ct, k.ex⟩
def KS.xe (k : KS) (e : En) : QP D := fun x S => k.ex x e S
theorem xe_s : k.xe e x S = k.ex x e S := rfl
theorem sq_nx : (k.sq n).nx e S = Ws (n e S) k := rfl
theorem sq_rt : (k.sq n).rt = k.rt := rfl
theorem sq_bk : (k.sq n).bk = k.bk := rfl
theorem sq_ct : (k.sq n).ct = k.ct := rfl
theorem sq_ex : (k.sq n).ex = k.ex := rfl
theorem sq_xe : (k.sq n).xe e = k.xe e := rfl
theorem ws_nxt : Ws (.nxt e S) k = k.nx e S := rfl
theorem ws_sS {r : SRes} : Ws (sS r n) k = Ws r (k.sq n) := by cases r <;> rfl
theorem ws_sE {r : Res β} {f : β → Store → SRes} : Ws (sE r e f) k = Wr r (fun z S1 => Ws (f z S1) k) (k.xe e) := by cases r <;> rfl
theorem ws_sNop : Ws (sNop e S) k = k.nx e S := rfl
theorem ws_sSeq : Ws (sSeq m n e S) k = Ws (m e S) (k.sq n) := ws_sS
theorem ws_sBrk : Ws (sBrk e S) k = k.bk e S := rfl
theorem ws_sCnt : Ws (sCnt e S) k = k.ct e S := rfl
def dropQ (k : KS) (e : En) : QP D := fun _ S => k.nx e S
theorem dropQ_s : dropQ k e x S = k.nx e S := rfl
theorem ws_sDrop : Ws (sDrop a e S) k = Wr (a e S) (dropQ k e) (k.xe e) := ws_sE
theorem ws_sRet : Ws (sRet a e S) k = Wr (a e S) k.rt (k.xe e) := ws_sE
theorem ws_sRetN : Ws (sRetN e S) k = k.rt .non S := rfl
def ifQ (m n : SM) (e : En) (k : KS) : QP Bool := fun z S => match z with
  | true => Ws (m e S) k
  | false => Ws (n e S) k
theorem ifQ_t : ifQ m n e k true S = Ws (m e S) k := rfl
theorem ifQ_f : ifQ m n e k false S = Ws (n e S) k := rfl
theorem ws_sIf : Ws (sIf t m n e S) k = Wr (t e S) (ifQ m n e k) (k.xe e) := by
  unfold sIf; rw [ws_sE]; congr; funext z S1; cases z <;> rfl
def asg1 (g : GM) (e : En) (k : KS) : QP D := fun d S => Wr (g d e S) k.nx (k.xe e)
theorem asg1_s (g : GM) : asg1 g e k d S = Wr (g d e S) k.nx (k.xe e) := rfl
theorem ws_sAsg (g : GM) : Ws (sAsg a g e S) k = Wr (a e S) (asg1 g e k) (k.xe e) := by
  unfold sAsg; rw [ws_sE]; congr; funext z S1; rw [ws_sE]; rfl
def setQ (i : Nat) (e : En) (k : KS) : QP D := fun d S => k.nx (e.set i (some d)) S
theorem setQ_s (i : Nat) : setQ i e k d S = k.nx (e.set i (some d)) S := rfl
theorem ws_sSet (i : Nat) : Ws (sSet i a e S) k = Wr (a e S) (setQ i e k) (k.xe e) := by
  unfold sSet; rw [ws_sE]; rfl
def parQ (i j : Nat) (e : En) (k : KS) (ds : List D) (S : Store) : Prop := match ds with
  | [x, y] => k.nx ((e.set i (some x)).set j (some y)) S
  | _ => False
theorem parQ_s (i j : Nat) : parQ i j e k [x, y] S = k.nx ((e.set i (some x)).set j (some y)) S := rfl
theorem ws_sPar (i j : Nat) : Ws (sPar i j am e S) k = Wr (am e S) (parQ i j e k) (k.xe e) := by
  unfold sPar; rw [ws_sE]; congr; funext ds S1
  match ds with
  | [] => rfl
  | [_] => rfl
  | [_, _] => rfl
  | _ :: _ :: _ :: _ => rfl
theorem ws_sRaise (i : Nat) : Ws (sRaise i e S) k = k.ex (.exc i []) e S := rfl
def KS.fn (Q : D → Store → Prop) (X : D → Store → Prop) : KS := ⟨fun _ S => Q .non S, Q, fun _ _ => False, fun _ _ => False, fun x _ S => X x S⟩
theorem fn_nx : (KS.fn QD X).nx e S = QD .non S := rfl
theorem fn_rt : (KS.fn QD X).rt = QD := rfl
theorem fn_ex : (KS.fn QD X).ex x e S = X x S := rfl
theorem fn_xe : (KS.fn QD X).xe e = X := rfl
theorem wr_fnM (i : Nat) (ds : List D) : Wr (fnM i m ds S) QD X = Ws (m (ds.map some ++ List.replicate (i - ds.length) none) S) (KS.fn QD X) := by
  unfold fnM
  show _ = Ws (m (enOf i ds) S) _
  cases m (enOf i ds) S <;> rfl
def KS.su (k : KS) (i : Nat) : KS := ⟨fun e S => k.nx (e.set i none) S, k.rt, fun e S => k.bk (e.set i none) S, fun e S => k.ct (e.set i none) S, fun _ _ _ => False⟩
theorem su_nx (i : Nat) : (k.su i).nx e S = k.nx (e.set i none) S := rfl
theorem su_bk (i : Nat) : (k.su i).bk e S = k.bk (e.set i none) S := rfl
theorem su_ct (i : Nat) : (k.su i).ct e S = k.ct (e.set i none) S := rfl
theorem su_rt (i : Nat) : (k.su i).rt = k.rt := rfl
def trQ (k : KS) (i : Nat) (n : SM) (x : D) (e : En) (S : Store) (o : Option Bool) : Prop := match o with
  | some true => Ws (n (e.set i (some x)) S) (k.su i)
  | some false => k.ex x e S
  | none => False
theorem trQ_t (i : Nat) : trQ k i n x e S (some true) = Ws (n (e.set i (some x)) S) (k.su i) := rfl
theorem trQ_f (i : Nat) : trQ k i n x e S (some false) = k.ex x e S := rfl
def KS.tr (k : KS) (i : Nat) (tb : Nat → Option Bool) (n : SM) : KS := ⟨k.nx, k.rt, k.bk, k.ct, fun x e S => match x with
  | .exc cn _ => trQ k i n x e S (tb cn)
  | _ => False⟩
theorem tr_nx (i : Nat) (tb : Nat → Option Bool) : (k.tr i tb n).nx = k.nx := rfl
theorem tr_rt (i : Nat) (tb : Nat → Option Bool) : (k.tr i tb n).rt = k.rt := rfl
theorem tr_bk (i : Nat) (tb : Nat → Option Bool) : (k.tr i tb n).bk = k.bk := rfl
theorem tr_ct (i : Nat) (tb : Nat → Option Bool) : (k.tr i tb n).ct = k.ct := rfl
theorem tr_ex (i : Nat) (tb : Nat → Option Bool) (cn : Nat) (fs : List (Nat × D)) : (k.tr i tb n).ex (.exc cn fs) e S = trQ k i n (.exc cn fs) e S (tb cn) := rfl
theorem ws_sTry (i : Nat) (tb : Nat → Option Bool) : Ws (sTry i tb m n e S) k = Ws (m e S) (k.tr i tb n) := by
  unfold sTry
  cases m e S with
  | exc x e1 S1 =>
    cases x with
    | exc cn fs =>
      show Ws (match tb cn with
        | some true => sSu i (n (e1.set i (some (.exc cn fs))) S1)
        | some false => .exc (.exc cn fs) e1 S1
        | none => .stuck) k = trQ k i n (.exc cn fs) e1 S1 (tb cn)
      cases tb cn with
      | none => rfl
      | some z =>
        cases z with
        | true =>
          show Ws (sSu i (n (e1.set i (some (.exc cn fs))) S1)) k = Ws _ _
          cases n (e1.set i (some (.exc cn fs))) S1 <;> rfl
        | false => rfl
    | _ => rfl
  | _ => rfl
def forQ (g : GM) (m : SM) (e : En) (k : KS) : QP (List D) := fun ds S => Ws (fiR g m ds e S) k
theorem forQ_s (g : GM) : forQ g m e k ds S = Ws (fiR g m ds e S) k := rfl
theorem ws_sFor (i : AM) (g : GM) : Ws (sFor i g m e S) k = Wr (i e S) (forQ g m e k) (k.xe e) := ws_sE
def KS.lp (k : KS) (I : En → Store → Prop) : KS := ⟨I, k.rt, k.nx, I, k.ex⟩
theorem lp_nx (I : En → Store → Prop) : (k.lp I).nx = I := rfl
theorem lp_rt (I : En → Store → Prop) : (k.lp I).rt = k.rt := rfl
theorem lp_bk (I : En → Store → Prop) : (k.lp I).bk = k.nx := rfl
theorem lp_ct (I : En → Store → Prop) : (k.lp I).ct = I := rfl
theorem lp_ex (I : En → Store → Prop) : (k.lp I).ex = k.ex := rfl
theorem lp_xe (I : En → Store → Prop) : (k.lp I).xe e = k.xe e := rfl
theorem ws_fi_nil (g : GM) : Ws (fiR g m [] e S) k = k.nx e S := rfl
def turnQ (g : GM) (m : SM) (ds : List D) (k : KS) : QP En := fun e S => Ws (fiR g m ds e S) k
def bodyQ (m : SM) (k : KS) : QP En := fun e S => Ws (m e S) k
theorem bodyQ_s : bodyQ m k e S = Ws (m e S) k := rfl
theorem ws_fi_cons (g : GM) (ds : List D) : Ws (fiR g m (d :: ds) e S) k = Wr (g d e S) (bodyQ m (k.lp (turnQ g m ds k))) (k.xe e) := by
  rw [fiR]
  rw [ws_sE]
  congr; funext e1 S1
  rw [bodyQ_s]
  cases m e1 S1 <;> rfl
theorem for_w {g : GM} {ds : List D} (I : Nat → En → Store → Prop) (h0 : I 0 e S)
    (st : ∀ i d e S, ds[i]? = some d → I i e S → Wr (g d e S) (bodyQ m (k.lp (I (i + 1)))) (k.xe e))
    (fin : ∀ e S, I ds.length e S → k.nx e S) : Ws (fiR g m ds e S) k := by
  induction ds generalizing I e S with
  | nil => exact fin e S h0
  | cons d ds ih =>
    rw [ws_fi_cons]
    have h1 := st 0 d e S rfl h0
    have mono : ∀ (r : SRes), Ws r (k.lp (I 1)) → Ws r (k.lp (turnQ g m ds k)) := by
      intro r h
      have go : ∀ e S, I 1 e S → Ws (fiR g m ds e S) k := fun e S hI => ih (fun i => I (i + 1)) hI (fun i d e S hd => st (i + 1) d e S (by simpa using hd)) (fun e S => fin e S)
      cases r with
      | nxt e S => exact go e S h
      | cnt e S => exact go e S h
      | _ => exact h
    revert h1
    cases g d e S with
    | ok e1 S1 => exact fun h1 => mono _ h1
    | exc x S1 => exact id
    | stuck => exact id
theorem for_i {g : GM} {ds : List D} (I : En → Store → Prop) (h0 : I e S)
    (st : ∀ d e S, d ∈ ds → I e S → Wr (g d e S) (bodyQ m (k.lp I)) (k.xe e))
    (fin : ∀ e S, I e S → k.nx e S) : Ws (fiR g m ds e S) k :=
  for_w (fun _ => I) h0 (fun _ d e S hd => st d e S (List.mem_of_getElem? hd)) fin
def KS.mid (k : KS) (M : En → Store → Prop) : KS := ⟨M, k.rt, k.bk, k.ct, k.ex⟩
theorem mid_nx (M : En → Store → Prop) : (k.mid M).nx = M := rfl
theorem mid_rt (M : En → Store → Prop) : (k.mid M).rt = k.rt := rfl
theorem mid_bk (M : En → Store → Prop) : (k.mid M).bk = k.bk := rfl
theorem mid_ct (M : En → Store → Prop) : (k.mid M).ct = k.ct := rfl
theorem mid_ex (M : En → Store → Prop) : (k.mid M).ex = k.ex := rfl
theorem mid_xe (M : En → Store → Prop) : (k.mid M).xe e = k.xe e := rfl
theorem wr_cut {r : Res β} (M : β → Store → Prop) (h1 : Wr r M X) (h2 : ∀ d S, M d S → Q d S) : Wr r Q X := by
  cases r with
  | ok d S => exact h2 d S h1
  | _ => exact h1
def lc2 (Q : QP D) : QP (List D) := fun acc S => Q (.lst acc) S
def lc1 (g : Tg) (t : TM) (a : EM) (e : En) (Q X : QP D) : QP (List D) := fun ds S => Wr (lcR g t a e ds [] S) (lc2 Q) X
theorem lc2_s : lc2 QD xs S = QD (.lst xs) S := rfl
theorem lc1_s (g : Tg) : lc1 g t a e QD X ds S = Wr (lcR g t a e ds [] S) (lc2 QD) X := rfl
theorem wr_eLc (i : AM) (g : Tg) (vs : List Nat) : Wr (eLc i g t a vs e S) QD X = Wr (i e S) (lc1 g t a (wipeE e vs) QD X) X := by
  unfold eLc; rw [wr_bind]; congr; funext ds S1; rw [wr_bind]; rfl
def lcn2 (Q : QP D) : QP (List D) := fun acc S => Q (.loc S.length) (S ++ [.lst acc])
def lcn1 (g : Tg) (t : TM) (a : EM) (e : En) (Q X : QP D) : QP (List D) := fun ds S => Wr (lcR g t a e ds [] S) (lcn2 Q) X
theorem lcn2_s : lcn2 QD xs S = QD (.loc S.length) (S ++ [.lst xs]) := rfl
theorem lcn1_s (g : Tg) : lcn1 g t a e QD X ds S = Wr (lcR g t a e ds [] S) (lcn2 QD) X := rfl
theorem wr_eLcN (i : AM) (g : Tg) (vs : List Nat) : Wr (eLcN i g t a vs e S) QD X = Wr (i e S) (lcn1 g t a (wipeE e vs) QD X) X := by
  unfold eLcN; rw [wr_bind]; congr; funext ds S1; rw [wr_bind]; rfl
theorem wipe_nil : wipeE e [] = e := rfl
theorem wipe_cons (v : Nat) (vs : List Nat) : wipeE e (v :: vs) = (wipeE e vs).set v none := rfl
theorem wr_tTrue : Wr (tTrue e S) QB X = QB true S := rfl
theorem wr_lc_nil (g : Tg) (acc : List D) : Wr (lcR g t a e [] acc S) QL X = QL acc S := rfl
def tgQ (o : Option En) (f : En → Prop) : Prop := match o with
  | some e => f e
  | none => False
theorem tgQ_some (f : En → Prop) : tgQ (some e) f = f e := rfl
def ly (I : QP (List D)) (acc : List D) : QP D := fun y S => acc.length < sizeLine ∧ I (acc ++ [y]) S
theorem ly_s (I : QP (List D)) (acc : List D) : ly I acc y S = (acc.length < sizeLine ∧ I (acc ++ [y]) S) := rfl
def lt1 (a : EM) (e : En) (I : QP (List D)) (acc : List D) : QP Bool := fun b S => match b with
  | true => Wr (a e S) (ly I acc) nX
  | false => I acc S
theorem lt1_t (I : QP (List D)) (acc : List D) : lt1 a e I acc true S = Wr (a e S) (ly I acc) nX := rfl
theorem lt1_f (I : QP (List D)) (acc : List D) : lt1 a e I acc false S = I acc S := rfl
def lg (t : TM) (a : EM) (I : QP (List D)) (acc : List D) (S : Store) : En → Prop := fun e => Wr (t e S) (lt1 a e I acc) nX
theorem lg_s (I : QP (List D)) (acc : List D) : lg t a I acc S e = Wr (t e S) (lt1 a e I acc) nX := rfl
def lcI (g : Tg) (t : TM) (a : EM) (e : En) (ds : List D) (Q : QP (List D)) (X : QP D) : QP (List D) := fun acc S => Wr (lcR g t a e ds acc S) Q X
theorem wr_lc_cons (g : Tg) (acc ds : List D) : Wr (lcR g t a e (d :: ds) acc S) QL X = tgQ (g.m d e) (lg t a (lcI g t a e ds QL X) acc S) := by
  rw [lcR]
  unfold tgQ
  cases g.m d e with
  | none => rfl
  | some e1 =>
    dsimp only
    rw [wr_bind, wr_noX, lg_s]; congr; funext b S2
    cases b with
    | false => rfl
    | true =>
      show Wr ((noX (a e1 S2)).bind _) _ _ = Wr (a e1 S2) _ _
      rw [wr_bind, wr_noX]; congr; funext y S3; rw [wr_guard]; rfl
theorem lc_w {g : Tg} {ds acc : List D} (I : Nat → List D → Store → Prop) (h0 : I 0 acc S)
    (st : ∀ i d acc S, ds[i]? = some d → I i acc S → tgQ (g.m d e) (lg t a (I (i + 1)) acc S))
    (fin : ∀ acc S, I ds.length acc S → QL acc S) : Wr (lcR g t a e ds acc S) QL X := by
  induction ds generalizing I acc S with
  | nil => exact fin acc S h0
  | cons d ds ih =>
    rw [wr_lc_cons]
    have h1 := st 0 d acc S rfl h0
    have go : ∀ acc S, I 1 acc S → Wr (lcR g t a e ds acc S) QL X := fun acc S hI => ih (fun i => I (i + 1)) hI (fun i d acc S hd => st (i + 1) d acc S (by simpa using hd)) (fun acc S => fin acc S)
    revert h1
    cases g.m d e with
    | none => exact id
    | some e1 =>
      simp only [tgQ_some, lg_s]
      cases t e1 S with
      | exc x S1 => exact id
      | stuck => exact id
      | ok b S1 =>
        simp only [wr_ok]
        cases b with
        | false => exact fun h => go _ _ h
        | true =>
          simp only [lt1_t]
          cases a e1 S1 with
          | exc x S1 => exact id
          | stuck => exact id
          | ok y S2 => exact fun h => ⟨h.1, go _ _ h.2⟩
def eqQ (y : D) (S : Store) : QP D := fun d S' => d = y ∧ S' = S
theorem eqQ_s : eqQ y S d S1 = (d = y ∧ S1 = S) := rfl
def seqQ (Q : List D → Store → Prop) : QP D := fun x S => match x with
  | .tup l => Q l S
  | .lst l => Q l S
  | .scr l => Q l S
  | _ => False
theorem seqQ_tup (l : List D) : seqQ QL (.tup l) S = QL l S := rfl
theorem seqQ_lst (l : List D) : seqQ QL (.lst l) S = QL l S := rfl
theorem seqQ_scr (l : List D) : seqQ QL (.scr l) S = QL l S := rfl
theorem wr_iSeq : Wr (iSeq a e S) QL X = Wr (a e S) (seqQ QL) X := by
  unfold iSeq; rw [wr_bind]; congr; funext x S1; cases x <;> rfl
def rgQ (Q : List D → Store → Prop) : QP (List D) := fun ds S => match ds with
  | [.int j] => (-(2 ^ 62) ≤ j ∧ j < 2 ^ 62) ∧ Q (rangeD 0 j.toNat) S
  | _ => False
theorem rgQ_int (j : Int) : rgQ QL [.int j] S = ((-(2 ^ 62) ≤ j ∧ j < 2 ^ 62) ∧ QL (rangeD 0 j.toNat) S) := rfl
theorem wr_iRg1 : Wr (iRg1 am e S) QL X = Wr (am e S) (rgQ QL) X := by
  unfold iRg1; rw [wr_bind]; congr; funext ds S1
  match ds with
  | [] => rfl
  | [.int j] => show Wr (if _ then _ else _) _ _ = _; rw [wr_guard]; rfl
  | [.non] | [.bl _] | [.str _] | [.tup _] | [.lst _] | [.scr _] | [.dic _ _] | [.loc _] | [.exc _ _] | [.ins _ _] | [.fa _] | [.pin _ _] => rfl
  | _ :: _ :: _ => unfold rgQ; split <;> simp_all [wr_stuck]
def rgQ2 (Q : List D → Store → Prop) : QP (List D) := fun ds S => match ds with
  | [.int i, .int j] => (-(2 ^ 62) ≤ i ∧ i < 2 ^ 62 ∧ -(2 ^ 62) ≤ j ∧ j < 2 ^ 62) ∧ Q (rangeD i (j - i).toNat) S
  | _ => False
theorem rgQ2_int (i j : Int) : rgQ2 QL [.int i, .int j] S = ((-(2 ^ 62) ≤ i ∧ i < 2 ^ 62 ∧ -(2 ^ 62) ≤ j ∧ j < 2 ^ 62) ∧ QL (rangeD i (j - i).toNat) S) := rfl
theorem wr_iRg2 : Wr (iRg2 am e S) QL X = Wr (am e S) (rgQ2 QL) X := by
  unfold iRg2; rw [wr_bind]; congr; funext ds S1
  by_cases h : ∃ i j, ds = [.int i, .int j]
  · obtain ⟨i, j, rfl⟩ := h
    show Wr (if _ then _ else _) _ _ = _
    rw [wr_guard]; rfl
  · unfold rgQ2
    split <;> (try split) <;> simp_all [wr_stuck]
theorem of_w {r : Res D} (h : Wr r QD nX) : ∃ d S, r = .ok d S ∧ QD d S := by
  cases r with
  | ok d S => exact ⟨d, S, rfl, h⟩
  | exc _ _ => exact False.elim h
  | stuck => exact False.elim h
theorem eq_of_w {r : Res D} (h : Wr r (eqQ d S) nX) : r = .ok d S := by
  obtain ⟨d', S', rfl, rfl, rfl⟩ := of_w h
  rfl
def exQ (y : D) (S : Store) : QP D := fun d S' => d = y ∧ S' = S
theorem exQ_s : exQ y S d S1 = (d = y ∧ S1 = S) := rfl
theorem ex_of_w {r : Res D} (h : Wr r nX (exQ d S)) : r = .exc d S := by
  cases r with
  | ok d S => exact False.elim h
  | exc _ _ => obtain ⟨rfl, rfl⟩ := h; rfl
  | stuck => exact False.elim h
end
end G
namespace G
open PySem
def rD (q : Rat) : D := .tup [.int q.num, .int (q.den : Int)]
def Bt (q : Rat) (n : Nat) : Prop := q.num.natAbs < 2 ^ n ∧ q.den < 2 ^ n
theorem pow_le2 {a b : Nat} (h : a ≤ b) : (2 : Nat) ^ a ≤ 2 ^ b := Nat.pow_le_pow_right (by omega) h
theorem Bt.mono {q : Rat} {a b : Nat} (h : Bt q a) (l : a ≤ b) : Bt q b := ⟨Nat.lt_of_lt_of_le h.1 (pow_le2 l), Nat.lt_of_lt_of_le h.2 (pow_le2 l)⟩
theorem bt_div {t : Int} {b : Int} {n m : Nat} (h1 : t.natAbs < 2 ^ n) (h2 : b.natAbs < 2 ^ n) (hn : 0 < n) : Bt (Rat.divInt t b) n := by
  have h2' : 1 < 2 ^ n := Nat.one_lt_two_pow (by omega)
  constructor
  · rw [Rat.num_divInt]
    refine Nat.lt_of_le_of_lt (Int.natAbs_ediv_le_natAbs _ _) ?_
    rw [Int.natAbs_mul]
    have : b.sign.natAbs ≤ 1 := by rcases Int.lt_trichotomy b 0 with h | h | h <;> simp [Int.sign_eq_neg_one_of_neg, Int.sign_eq_one_of_pos, h]
    have := Nat.mul_le_mul_right t.natAbs this
    omega
  · rw [Rat.den_divInt]
    split
    · exact h2'
    · exact Nat.lt_of_le_of_lt (Nat.div_le_self _ _) h2
theorem natAbs_mul_lt {x y : Int} {a b : Nat} (hx : x.natAbs < 2 ^ a) (hy : y.natAbs < 2 ^ b) : (x * y).natAbs < 2 ^ (a + b) := by
  rw [Int.natAbs_mul, Nat.pow_add]
  exact Nat.mul_lt_mul'' hx hy
theorem natAbs_sub_lt {x y : Int} {a : Nat} (hx : x.natAbs < 2 ^ a) (hy : y.natAbs < 2 ^ a) : (x - y).natAbs < 2 ^ (a + 1) := by
  have := Int.natAbs_sub_le x y
  rw [Nat.pow_succ]; omega
theorem add_div (p q : Rat) : p + q = Rat.divInt (p.num * q.den + q.num * p.den) ((p.den : Int) * (q.den : Int)) := by
  rw [← Int.natCast_mul, Rat.divInt_ofNat, Rat.add_def']
theorem sub_div (p q : Rat) : p - q = Rat.divInt (p.num * q.den - q.num * p.den) ((p.den : Int) * (q.den : Int)) := by
  rw [← Int.natCast_mul, Rat.divInt_ofNat, Rat.sub_def']
theorem mul_div (p q : Rat) : p * q = Rat.divInt (p.num * q.num) ((p.den : Int) * (q.den : Int)) := by
  rw [← Int.natCast_mul, Rat.divInt_ofNat, Rat.mul_def']
theorem div_div (p q : Rat) : p / q = Rat.divInt (p.num * q.den) ((p.den : Int) * q.num) := by
  rw [Rat.div_def, Rat.inv_def, ← Rat.num_divInt_den p, Rat.divInt_mul_divInt, Rat.num_divInt_den]
theorem Bt.sub {p q : Rat} {a b : Nat} (h1 : Bt p a) (h2 : Bt q b) : Bt (p - q) (a + b + 1) := by
  rw [sub_div]
  have e1 := natAbs_mul_lt (y := (q.den : Int)) h1.1 (by simpa using h2.2)
  have e2 := natAbs_mul_lt (y := (p.den : Int)) h2.1 (by simpa using h1.2)
  have e3 := natAbs_mul_lt (x := (p.den : Int)) (y := (q.den : Int)) (by simpa using h1.2) (by simpa using h2.2)
  rw [Nat.add_comm b a] at e2
  exact bt_div (m := 0) (natAbs_sub_lt e1 e2) (Nat.lt_of_lt_of_le e3 (pow_le2 (by omega))) (by omega)
theorem Bt.pos {p : Rat} {a : Nat} (h : Bt p a) : 0 < a := by
  rcases Nat.eq_zero_or_pos a with rfl | h0
  · have := h.2; have := p.den_pos; simp at *; omega
  · exact h0
theorem Bt.max {p q : Rat} {a b : Nat} (h1 : Bt p a) (h2 : Bt q b) : Bt (max p q) (Nat.max a b) := by
  rw [Rat.max_def]
  split
  · exact h2.mono (Nat.le_max_right _ _)
  · exact h1.mono (Nat.le_max_left _ _)
theorem Bt.int {i : Int} {n : Nat} (h : i.natAbs < 2 ^ n) (hn : 0 < n) : Bt (i : Rat) n := ⟨h, Nat.one_lt_two_pow (by omega)⟩
theorem bt_0 : Bt 0 1 := by constructor <;> decide
theorem isTy_rD (z : Ty) (q : Rat) (S : Store) : isTy S z (rD q) = some (Tn.is .tuple z) := rfl
theorem fLen_rD (q : Rat) (S : Store) : fLen S [rD q] = some (.int 2) := rfl
theorem ix_rD0 (q : Rat) (S : Store) : ixD S (rD q) (.int 0) = some (.int q.num) := rfl
theorem ix_rD1 (q : Rat) (S : Store) : ixD S (rD q) (.int 1) = some (.int q.den) := rfl
theorem rat_beq (p q : Rat) : (p.num == q.num && ((p.den : Int) == (q.den : Int) && true)) = decide (p = q) := by
  by_cases h : p = q
  · subst h; simp
  · rw [decide_eq_false h]
    by_cases h1 : p.num = q.num
    · have h2 : ¬ (p.den : Int) = (q.den : Int) := fun z => h (Rat.ext h1 (by omega))
      simp [h2]
    · simp [h1]
theorem eqD_rD (p q : Rat) : eqD (rD p) (rD q) = some (decide (p = q)) := by
  rw [← rat_beq]; rfl
theorem dEq_rD (p q : Rat) : dEq (rD p) (rD q) = some (.bl (decide (p = q))) := by unfold dEq; rw [eqD_rD]; rfl
theorem dNe_rD (p q : Rat) : dNe (rD p) (rD q) = some (.bl (!decide (p = q))) := by unfold dNe; rw [eqD_rD]; rfl
theorem wr_gTp_rD {QE : En → Store → Prop} {X : D → Store → Prop} {e : En} {S : Store} (q : Rat) (r : GMs) : Wr (gTp 2 r (rD q) e S) QE X = Wr (r [.int q.num, .int q.den] e S) QE X := by
  unfold rD; rw [wr_gTp]; simp
theorem seqQ_rD {QL : List D → Store → Prop} {S : Store} (q : Rat) : seqQ QL (rD q) S = QL [.int q.num, .int q.den] S := rfl
theorem dIs_rD (q : Rat) : dIs (rD q) .non = some (.bl false) := rfl
theorem dIsNot_rD (q : Rat) : dIsNot (rD q) .non = some (.bl true) := rfl
theorem lt_rat (p q : Rat) : decide (p.num * (q.den : Int) < q.num * (p.den : Int)) = decide (p < q) := by
  by_cases h : p < q
  · rw [decide_eq_true h, decide_eq_true ((Rat.lt_iff p q).mp h)]
  · rw [decide_eq_false h, decide_eq_false fun z => h ((Rat.lt_iff p q).mpr z)]
def gI (a b : Int) : Int := (Nat.gcd a.natAbs b.natAbs : Nat)
theorem gI_pos {a b : Int} (h : b ≠ 0) : 0 < gI a b := by
  have : 0 < Nat.gcd a.natAbs b.natAbs := Nat.gcd_pos_of_pos_right _ (by omega)
  unfold gI; omega
theorem gI_l (a b : Int) : gI a b ∣ a := by
  unfold gI
  exact Int.ofNat_dvd_left.mpr (Nat.gcd_dvd_left _ _)
theorem gI_r (a b : Int) : gI a b ∣ b := by
  unfold gI
  exact Int.ofNat_dvd_left.mpr (Nat.gcd_dvd_right _ _)
theorem gI_congr {a b c d : Int} (h1 : a.natAbs = c.natAbs) (h2 : b.natAbs = d.natAbs) : gI a b = gI c d := by unfold gI; rw [h1, h2]
theorem gI_abs (a b : Int) : gI (if a < 0 then -a else a) b = gI a b := gI_congr (by split <;> omega) rfl
theorem gI_le {a b : Int} (h : b ≠ 0) : (gI a b).natAbs ≤ b.natAbs := by
  have : Nat.gcd a.natAbs b.natAbs ≤ b.natAbs := Nat.gcd_le_right _ (by omega)
  unfold gI; omega
theorem gI_step {a b : Int} (ha : 0 ≤ a) (hb : 0 ≤ b) : gI b (a % b) = gI a b := by
  unfold gI
  have : (a % b).natAbs = a.natAbs % b.natAbs := by rw [Int.natAbs_emod_of_nonneg ha]
  rw [this, Nat.gcd_comm a.natAbs b.natAbs, Nat.gcd_rec b.natAbs a.natAbs, Nat.gcd_comm]
theorem gI_rat (q : Rat) : gI q.num q.den = 1 := by
  unfold gI
  have := q.reduced
  rw [Int.natAbs_natCast, this]; rfl
theorem fdiv_pos {x g : Int} (h : 0 < g) : x.fdiv g = x / g := Int.fdiv_eq_ediv_of_nonneg x (by omega)
theorem fdiv_neg_of {x g : Int} (h : 0 < g) (hd : g ∣ x) : x.fdiv (0 - g) = (0 - x) / g := by
  obtain ⟨k, rfl⟩ := hd
  rw [show (0 : Int) - g * k = g * (-k) by rw [Int.mul_neg]; omega, Int.mul_ediv_cancel_left _ (by omega)]
  rw [show g * k = (0 - g) * (-k) by rw [Int.mul_neg, Int.zero_sub, Int.neg_mul]; omega]
  exact Int.mul_fdiv_cancel_left _ (by omega)
theorem num_pos {t b : Int} (hb : 0 < b) : (Rat.divInt t b).num = t / gI t b := by
  rw [Rat.num_divInt, Int.sign_eq_one_of_pos hb, Int.one_mul]
  unfold gI Int.gcd
  rw [Nat.gcd_comm]
theorem den_pos' {t b : Int} (hb : 0 < b) : ((Rat.divInt t b).den : Int) = b / gI t b := by
  rw [Rat.den_divInt, if_neg (by omega)]
  unfold gI Int.gcd
  rw [Nat.gcd_comm, Int.natCast_ediv]
  congr 1
  omega
theorem lowest_rD {t b : Int} (hb : 0 < b) : D.tup [.int (t / gI t b), .int (b / gI t b)] = rD (Rat.divInt t b) := by
  unfold rD; rw [num_pos hb, den_pos' hb]
theorem neg_rD {t b : Int} (hb : b < 0) : D.tup [.int ((0 - t) / gI t b), .int ((0 - b) / gI t b)] = rD (Rat.divInt t b) := by
  have e : Rat.divInt t b = Rat.divInt (0 - t) (0 - b) := by
    rw [Int.zero_sub, Int.zero_sub, Rat.neg_divInt_neg]
  have g : gI t b = gI (0 - t) (0 - b) := gI_congr (by omega) (by omega)
  rw [e, g]
  exact lowest_rD (by omega)
end G
namespace G
open PySem
section
variable {β γ : Type} {e : En} {S S1 : Store} {a b c : EM} {t u : TM} {m n : SM} {am : AM} {x y d : D} {k : β → Store → Res γ}
@[simp] theorem bind_ok (z : β) : (Res.ok z S).bind k = k z S := rfl
@[simp] theorem bind_exc (z : D) : (Res.exc z S : Res β).bind k = .exc z S := rfl
@[simp] theorem bind_stuck : (Res.stuck : Res β).bind k = .stuck := rfl
@[simp] theorem lf_some_s (z : β) : lf (some z) S = .ok z S := rfl
@[simp] theorem lf_none_s : lf (none : Option β) S = .stuck := rfl
@[simp] theorem eC_s : eC d e S = .ok d S := rfl
def evR (o : Option (Option D)) (S : Store) : Res D := match o with
  | some (some d) => .ok d S
  | _ => .stuck
@[simp] theorem eVar_s (i : Nat) : eVar i e S = evR e[i]? S := rfl
@[simp] theorem evR_some : evR (some (some d)) S = .ok d S := rfl
@[simp] theorem eBin_s (f : D → D → Option D) : eBin f a b e S = (a e S).bind fun x S1 => (b e S1).bind fun y S2 => lf (f x y) S2 := rfl
@[simp] theorem eBinS_s (f : Store → D → D → Option D) : eBinS f a b e S = (a e S).bind fun x S1 => (b e S1).bind fun y S2 => lf (f S2 x y) S2 := rfl
def asB (x : D) (S : Store) : Res Bool := match x with
  | .bl b => .ok b S
  | _ => .stuck
@[simp] theorem asB_bl (z : Bool) : asB (.bl z) S = .ok z S := rfl
@[simp] theorem tB_s : tB a e S = (a e S).bind asB := rfl
@[simp] theorem tT_s : tT a e S = (a e S).bind fun x S1 => lf (truD S1 x) S1 := rfl
@[simp] theorem tNt_s : tNt t e S = (t e S).bind fun b S1 => .ok (!b) S1 := rfl
@[simp] theorem tAn_s : tAn t u e S = (t e S).bind fun b S1 => if b then u e S1 else .ok false S1 := rfl
@[simp] theorem tOr_s : tOr' t u e S = (t e S).bind fun b S1 => if b then .ok true S1 else u e S1 := rfl
@[simp] theorem eAn_s : eAn a b e S = (a e S).bind fun x S1 => (lf (truD S1 x) S1).bind fun k S2 => if k then b e S2 else .ok x S2 := rfl
@[simp] theorem eOr_s : eOr a b e S = (a e S).bind fun x S1 => (lf (truD S1 x) S1).bind fun k S2 => if k then .ok x S2 else b e S2 := rfl
@[simp] theorem eNt_s : eNt a e S = (a e S).bind fun x S1 => (lf (truD S1 x) S1).bind fun k S2 => .ok (.bl (!k)) S2 := rfl
@[simp] theorem eIf_s : eIf t a b e S = (t e S).bind fun k S1 => if k then a e S1 else b e S1 := rfl
def negR (x : D) (S : Store) : Res D := match x with
  | .int i => .ok (.int (-i)) S
  | _ => .stuck
@[simp] theorem negR_int (i : Int) : negR (.int i) S = .ok (.int (-i)) S := rfl
@[simp] theorem eNeg_s : eNeg a e S = (a e S).bind negR := rfl
@[simp] theorem aNil_s : aNil e S = .ok [] S := rfl
@[simp] theorem aCons_s : aCons a am e S = (a e S).bind fun x S1 => (am e S1).bind fun xs S2 => .ok (x :: xs) S2 := rfl
@[simp] theorem eTup_s : eTup am e S = (am e S).bind fun xs S1 => if xs.length ≤ sizeLine then .ok (.tup xs) S1 else .stuck := rfl
@[simp] theorem eLst_s : eLst am e S = (am e S).bind fun xs S1 => if xs.length ≤ sizeLine then .ok (.lst xs) S1 else .stuck := rfl
@[simp] theorem eNew_s : eNew am e S = (am e S).bind fun xs S1 => if xs.length ≤ sizeLine then .ok (.loc S1.length) (S1 ++ [.lst xs]) else .stuck := rfl
@[simp] theorem eCa_s (f : Store → List D → Option D) : eCa f am e S = (am e S).bind fun xs S1 => lf (f S1 xs) S1 := rfl
@[simp] theorem eCall_s (f : FM) : eCall f am e S = (am e S).bind f := rfl
@[simp] theorem nA_s (i : Nat) : nA i am e S = (am e S).bind fun ds S1 => if ds.length = i then .ok ds S1 else .stuck := rfl
@[simp] theorem eIsTy_s (z : Ty) : eIsTy z a e S = (a e S).bind fun x S1 => lf ((isTy S1 z x).map .bl) S1 := rfl
@[simp] theorem eIsC_s (tb : Nat → Option Bool) : eIsC tb a e S = (a e S).bind fun x S1 => lf ((isC tb x).map .bl) S1 := rfl
@[simp] theorem eMt_s (f : Store → D → List D → Option D) : eMt f a am e S = (a e S).bind fun x S1 => if (seqD S1 x).isSome then (am e S1).bind fun xs S2 => lf (f S2 x xs) S2 else .stuck := rfl
@[simp] theorem oNone_s : oNone e S = .ok none S := rfl
def oR (x : D) (S : Store) : Res (Option Int) := match x with
  | .int i => .ok (some i) S
  | _ => .stuck
@[simp] theorem oR_int (i : Int) : oR (.int i) S = .ok (some i) S := rfl
@[simp] theorem oSome_s : oSome a e S = (a e S).bind oR := rfl
@[simp] theorem eSl_s (l h : OM) : eSl a l h e S = (a e S).bind fun x S1 => (l e S1).bind fun i S2 => (h e S2).bind fun j S3 => lf (slD S3 x i j) S3 := rfl
@[simp] theorem eCallK_s (f : FM) (g : List D → List D → List D) (i j : Nat) (mk : AM) : eCallK f g i j am mk e S = (am e S).bind fun ds S1 => (mk e S1).bind fun zs S2 => if ds.length = i ∧ zs.length = j then f (g ds zs) S2 else .stuck := rfl
@[simp] theorem eCallK0_s (f : FM) (g : List D → List D → List D) (j : Nat) (mk : AM) : eCallK0 f g j mk e S = (mk e S).bind fun zs S2 => if zs.length = j then f (g [] zs) S2 else .stuck := rfl
@[simp] theorem sE_ok (z : β) (q : β → Store → SRes) : sE (.ok z S) e q = q z S := rfl
@[simp] theorem sE_exc (z : D) (q : β → Store → SRes) : sE (.exc z S) e q = .exc z e S := rfl
@[simp] theorem sE_stuck (q : β → Store → SRes) : sE .stuck e q = .stuck := rfl
@[simp] theorem sS_nxt : sS (.nxt e S) m = m e S := rfl
@[simp] theorem sS_ret : sS (.ret d S) m = .ret d S := rfl
@[simp] theorem sS_brk : sS (.brk e S) m = .brk e S := rfl
@[simp] theorem sS_cnt : sS (.cnt e S) m = .cnt e S := rfl
@[simp] theorem sS_exc : sS (.exc d e S) m = .exc d e S := rfl
@[simp] theorem sNop_s : sNop e S = .nxt e S := rfl
@[simp] theorem sSeq_s : sSeq m n e S = sS (m e S) n := rfl
@[simp] theorem sBrk_s : sBrk e S = .brk e S := rfl
@[simp] theorem sCnt_s : sCnt e S = .cnt e S := rfl
@[simp] theorem sDrop_s : sDrop a e S = sE (a e S) e fun _ S1 => .nxt e S1 := rfl
@[simp] theorem sRet_s : sRet a e S = sE (a e S) e fun d S1 => .ret d S1 := rfl
@[simp] theorem sRetN_s : sRetN e S = .ret .non S := rfl
@[simp] theorem sIf_s : sIf t m n e S = sE (t e S) e fun k S1 => if k then m e S1 else n e S1 := rfl
@[simp] theorem gN_s (i : Nat) : gN i d e S = .ok (e.set i (some d)) S := rfl
@[simp] theorem sAsg_s (g : GM) : sAsg a g e S = sE (a e S) e fun d S1 => sE (g d e S1) e fun e1 S2 => .nxt e1 S2 := rfl
@[simp] theorem sSet_s (i : Nat) : sSet i a e S = sE (a e S) e fun d S1 => .nxt (e.set i (some d)) S1 := rfl
def parR (i j : Nat) (e : En) (ds : List D) (S : Store) : SRes := match ds with
  | [x, y] => .nxt ((e.set i (some x)).set j (some y)) S
  | _ => .stuck
@[simp] theorem parR_s (i j : Nat) : parR i j e [x, y] S = .nxt ((e.set i (some x)).set j (some y)) S := rfl
@[simp] theorem sPar_s (i j : Nat) : sPar i j am e S = sE (am e S) e (parR i j e) := rfl
@[simp] theorem sRaise_s (i : Nat) : sRaise i e S = .exc (.exc i []) e S := rfl
def fnEnd : SRes → Res D
  | .nxt _ S' => .ok .non S'
  | .ret d S' => .ok d S'
  | .exc x _ S' => .exc x S'
  | _ => .stuck
@[simp] theorem fnEnd_nxt : fnEnd (.nxt e S) = .ok .non S := rfl
@[simp] theorem fnEnd_ret : fnEnd (.ret d S) = .ok d S := rfl
@[simp] theorem fnEnd_exc : fnEnd (.exc d e S) = .exc d S := rfl
theorem fnM_s (i : Nat) (ds : List D) : fnM i m ds S = fnEnd (m (enOf i ds) S) := by
  unfold fnM fnEnd
  cases m (enOf i ds) S <;> rfl
@[simp] theorem enOf_s (i : Nat) (ds : List D) : enOf i ds = ds.map some ++ List.replicate (i - ds.length) none := rfl
@[simp] theorem cmpI_s (f : Int → Int → Bool) (i j : Int) : cmpI f (.int i) (.int j) = some (.bl (f i j)) := rfl
@[simp] theorem dAdd_int (i j : Int) : dAdd (.int i) (.int j) = some (.int (i + j)) := rfl
@[simp] theorem dSub_int (i j : Int) : dSub (.int i) (.int j) = some (.int (i - j)) := rfl
theorem dMul_int {i j : Int} (h : mulOk i j = true) : dMul (.int i) (.int j) = some (.int (i * j)) := by
  show (if mulOk i j = true then some (D.int (i * j)) else none) = _
  rw [if_pos h]
theorem dDiv_int {i j : Int} (h : divOk j = true) : dDiv (.int i) (.int j) = some (.int (i.fdiv j)) := by
  show (if divOk j = true then some (D.int (i.fdiv j)) else none) = _
  rw [if_pos h]
theorem dMod_int {i j : Int} (h : j ≠ 0) : dMod (.int i) (.int j) = some (.int (i.fmod j)) := by
  show (if j = 0 then none else some (D.int (i.fmod j))) = _
  rw [if_neg h]
theorem dEq_int (i j : Int) : dEq (.int i) (.int j) = some (.bl (decide (i = j))) := rfl
theorem dNe_int (i j : Int) : dNe (.int i) (.int j) = some (.bl (!decide (i = j))) := rfl
theorem dEq_bl (i j : Bool) : dEq (.bl i) (.bl j) = some (.bl (decide (i = j))) := by cases i <;> cases j <;> rfl
theorem dNe_bl (i j : Bool) : dNe (.bl i) (.bl j) = some (.bl (!decide (i = j))) := by cases i <;> cases j <;> rfl
@[simp] theorem truD_bl (z : Bool) : truD S (.bl z) = some z := rfl
@[simp] theorem isTy_int (z : Ty) (i : Int) : isTy S z (.int i) = some (Tn.is .int z) := rfl
@[simp] theorem isTy_bl (z : Ty) (i : Bool) : isTy S z (.bl i) = some (Tn.is .bool z) := rfl
@[simp] theorem isTy_tup (z : Ty) (l : List D) : isTy S z (.tup l) = some (Tn.is .tuple z) := rfl
@[simp] theorem fLen_tup (l : List D) : fLen S [.tup l] = some (.int l.length) := rfl
@[simp] theorem fLen_scr (l : List D) : fLen S [.scr l] = some (.int l.length) := rfl
@[simp] theorem fLen_lst (l : List D) : fLen S [.lst l] = some (.int l.length) := rfl
@[simp] theorem fAbs_int (i : Int) : fAbs S [.int i] = some (.int (if i < 0 then -i else i)) := rfl
@[simp] theorem fMax_int (i j : Int) : fMax S [.int i, .int j] = some (.int (if j > i then j else i)) := rfl
@[simp] theorem fMin_int (i j : Int) : fMin S [.int i, .int j] = some (.int (if j < i then j else i)) := rfl
@[simp] theorem ixD_tup (l : List D) (i : Int) : ixD S (.tup l) (.int i) = L2.atI l i := rfl
@[simp] theorem ixD_lst (l : List D) (i : Int) : ixD S (.lst l) (.int i) = L2.atI l i := rfl
@[simp] theorem ixD_scr (l : List D) (i : Int) : ixD S (.scr l) (.int i) = L2.atI l i := rfl
theorem ixD_loc {j : Nat} {l : List D} (i : Int) (h : S[j]? = some (.lst l)) : ixD S (.loc j) (.int i) = L2.atI l i := by
  show (match S[j]? with
    | some (.lst l) => L2.atI l i
    | _ => none) = _
  rw [h]
end
theorem log2_lt {x n : Nat} (h : x < 2 ^ n) (hn : 0 < n) : x.log2 < n := PySem.Flt.log2_lt_of hn h
theorem mul_ok {i j : Int} {a b : Nat} (hi : i.natAbs < 2 ^ a) (hj : j.natAbs < 2 ^ b) (h0 : 0 < a) (h1 : 0 < b) (h : a + b ≤ 1000000) : mulOk i j = true := by
  have x := log2_lt hi h0
  have y := log2_lt hj h1
  unfold mulOk
  rw [Bool.or_eq_true, Bool.or_eq_true]
  exact .inr (.inr (decide_eq_true (by omega)))
theorem mul_l {i j : Int} (hi : i.natAbs < 2 ^ 64) : mulOk i j = true := by
  unfold mulOk
  rw [Bool.or_eq_true]
  exact .inl (decide_eq_true hi)
theorem mul_r {i j : Int} (hj : j.natAbs < 2 ^ 64) : mulOk i j = true := by
  unfold mulOk
  rw [Bool.or_eq_true, Bool.or_eq_true]
  exact .inr (.inl (decide_eq_true hj))
theorem div_ok {j : Int} {b : Nat} (hz : j ≠ 0) (hj : j.natAbs < 2 ^ b) (h1 : 0 < b) (h : b ≤ 9000) : divOk j = true := by
  have y := log2_lt hj h1
  unfold divOk
  rw [Bool.and_eq_true]
  exact ⟨by simpa using hz, decide_eq_true (by omega)⟩
@[simp] theorem noX_ok {β : Type} (z : β) (S : Store) : noX (.ok z S) = .ok z S := rfl
def setR (o : Option Store) (e : En) : Res En := match o with
  | some S3 => .ok e S3
  | none => .stuck
@[simp] theorem setR_some (S : Store) (e : En) : setR (some S) e = .ok e S := rfl
@[simp] theorem gSb_s (o i : EM) (d : D) (e : En) (S : Store) : gSb o i d e S = (noX (o e S)).bind fun x S1 => (noX (i e S1)).bind fun y S2 => setR (setD S2 x y d) e := by
  unfold gSb setR
  congr 1
theorem setD_loc {S : Store} {n j : Nat} {l : List D} {k : Int} (d : D) (h : S[n]? = some (.lst l)) (hj : L2.ixN l.length k = some j) : setD S (.loc n) (.int k) d = some (S.set n (.lst (l.set j d))) := by
  show (match S[n]? with
    | some (.lst l) => (L2.ixN l.length k).map fun j => S.set n (.lst (l.set j d))
    | _ => none) = _
  rw [h]
  show (L2.ixN l.length k).map _ = _
  rw [hj]
  rfl
@[simp] theorem gsNil_s (e : En) (S : Store) : gsNil [] e S = .ok e S := rfl
@[simp] theorem gsCons_s (g : GM) (r : GMs) (d : D) (ds : List D) (e : En) (S : Store) : gsCons' g r (d :: ds) e S = (noX (g d e S)).bind fun e1 S1 => noX (r ds e1 S1) := rfl
@[simp] theorem gTp_s (n : Nat) (r : GMs) (ds : List D) (e : En) (S : Store) : gTp n r (.tup ds) e S = if ds.length = n then r ds e S else .stuck := rfl
@[simp] theorem at3_0 {α : Type} (x y z : α) : L2.atI [x, y, z] (0 : Int) = some x := rfl
@[simp] theorem at3_1 {α : Type} (x y z : α) : L2.atI [x, y, z] (1 : Int) = some y := rfl
@[simp] theorem at3_2 {α : Type} (x y z : α) : L2.atI [x, y, z] (2 : Int) = some z := rfl
theorem cutL_map {α β : Type} (f : α → β) (l : List α) (lo hi : Option Int) : cutL (l.map f) lo hi = (cutL l lo hi).map f := by
  unfold cutL
  rw [List.length_map, List.map_take, List.map_drop]
end G
namespace G
open PySem
section
variable {Q X : QP D} {QB : QP Bool} {QL : QP (List D)} {k : KS} {e : En} {S S1 : Store} {a b c o : EM} {t u : TM} {m n : SM} {am mk : AM} {x y d : D} {z : Bool} {xs ds zs : List D}
def ch3 (g : D → D → Option D) (y : D) (c : EM) (e : En) (Q X : QP D) : QP D := fun z S => match z with
  | .bl true => Wr (c e S) (cB2 g y Q X) X
  | .bl false => Q (.bl false) S
  | _ => False
def ch2 (f g : D → D → Option D) (x : D) (c : EM) (e : En) (Q X : QP D) : QP D := fun y S => Wr (lf (f x y) S) (ch3 g y c e Q X) X
def ch1 (f g : D → D → Option D) (b c : EM) (e : En) (Q X : QP D) : QP D := fun x S => Wr (b e S) (ch2 f g x c e Q X) X
theorem ch3_t (g : D → D → Option D) : ch3 g y c e Q X (.bl true) S = Wr (c e S) (cB2 g y Q X) X := rfl
theorem ch3_f (g : D → D → Option D) : ch3 g y c e Q X (.bl false) S = Q (.bl false) S := rfl
theorem ch2_s (f g : D → D → Option D) : ch2 f g x c e Q X y S = Wr (lf (f x y) S) (ch3 g y c e Q X) X := rfl
theorem ch1_s (f g : D → D → Option D) : ch1 f g b c e Q X x S = Wr (b e S) (ch2 f g x c e Q X) X := rfl
theorem wr_eChain (f g : D → D → Option D) : Wr (eChain f g a b c e S) Q X = Wr (a e S) (ch1 f g b c e Q X) X := by
  unfold eChain; rw [wr_bind]; congr; funext x S1; rw [wr_bind, ch1_s]; congr; funext y S2; rw [wr_bind, ch2_s]; congr; funext z S3
  cases z with
  | bl w => cases w with
    | true => show Wr ((c e S3).bind _) Q X = Wr (c e S3) _ _; rw [wr_bind]; rfl
    | false => rfl
  | _ => rfl
def flQ (cs : List Nat) (f : Nat) (Q X : QP D) : QP D := fun x S => Wr (lf (fldD cs f S x) S) Q X
theorem flQ_s (cs : List Nat) (f : Nat) : flQ cs f Q X x S = Wr (lf (fldD cs f S x) S) Q X := rfl
theorem wr_eFld (cs : List Nat) (f : Nat) : Wr (eFld cs f a e S) Q X = Wr (a e S) (flQ cs f Q X) X := by unfold eFld; rw [wr_bind]; rfl
theorem fldD_ins (cs : List Nat) (f cn : Nat) (fs : List (Nat × D)) : fldD cs f S (.ins cn fs) = if cs.contains cn then fs.lookup f else none := rfl
def stQ (e : En) (k : KS) (o : Option Store) : Prop := match o with
  | some S => k.nx e S
  | none => False
theorem stQ_s : stQ e k (some S) = k.nx e S := rfl
def sf2 (cs : List Nat) (f : Nat) (y : D) (e : En) (k : KS) : QP D := fun x S => stQ e k (stF cs f S x y)
def sf1 (cs : List Nat) (f : Nat) (o : EM) (e : En) (k : KS) : QP D := fun y S => Wr (o e S) (sf2 cs f y e k) (k.xe e)
theorem sf2_s (cs : List Nat) (f : Nat) : sf2 cs f y e k x S = stQ e k (stF cs f S x y) := rfl
theorem sf1_s (cs : List Nat) (f : Nat) : sf1 cs f o e k y S = Wr (o e S) (sf2 cs f y e k) (k.xe e) := rfl
theorem ws_sFldM (cs : List Nat) (f : Nat) : Ws (sFldM cs f o a e S) k = Wr (a e S) (sf1 cs f o e k) (k.xe e) := by
  unfold sFldM; rw [ws_sE]; congr; funext y S1; rw [ws_sE, sf1_s]; congr; funext x S2
  rw [sf2_s]; cases stF cs f S2 x y <;> rfl
def mkQ2 (mk' : List D → List D → Store → Res D) (n l : Nat) (ds : List D) (Q X : QP D) : QP (List D) := fun zs S => (ds.length = n ∧ zs.length = l) ∧ Wr (mk' ds zs S) Q X
def mkQ1 (mk' : List D → List D → Store → Res D) (n l : Nat) (mk : AM) (e : En) (Q X : QP D) : QP (List D) := fun ds S => Wr (mk e S) (mkQ2 mk' n l ds Q X) X
theorem mkQ2_s (mk' : List D → List D → Store → Res D) (n l : Nat) : mkQ2 mk' n l ds Q X zs S = ((ds.length = n ∧ zs.length = l) ∧ Wr (mk' ds zs S) Q X) := rfl
theorem mkQ1_s (mk' : List D → List D → Store → Res D) (n l : Nat) : mkQ1 mk' n l mk e Q X ds S = Wr (mk e S) (mkQ2 mk' n l ds Q X) X := rfl
theorem wr_eMk (mk' : List D → List D → Store → Res D) (n l : Nat) : Wr (eMk mk' n l am mk e S) Q X = Wr (am e S) (mkQ1 mk' n l mk e Q X) X := by
  unfold eMk; rw [wr_bind]; congr; funext ds S1; rw [wr_bind, mkQ1_s]; congr; funext zs S2; rw [wr_guard]; rfl
theorem wr_eMk0 (mk' : List D → List D → Store → Res D) : Wr (eMk0 mk' e S) Q X = Wr (mk' [] [] S) Q X := rfl
def ap2 (x : D) (Q X : QP D) : QP (List D) := fun xs S => Wr (appR x xs S) Q X
def ap1 (am : AM) (e : En) (Q X : QP D) : QP D := fun x S => isLst S x = true ∧ Wr (am e S) (ap2 x Q X) X
theorem ap2_s : ap2 x Q X xs S = Wr (appR x xs S) Q X := rfl
theorem ap1_s : ap1 am e Q X x S = (isLst S x = true ∧ Wr (am e S) (ap2 x Q X) X) := rfl
theorem wr_eApp : Wr (eApp a am e S) Q X = Wr (a e S) (ap1 am e Q X) X := by
  unfold eApp; rw [wr_bind]; congr; funext x S1; rw [wr_guard, wr_bind]; rfl
theorem isLst_loc {i : Nat} {l : List D} (h : S[i]? = some (.lst l)) : isLst S (.loc i) = true := by
  unfold isLst seqD; simp only [h, Option.isSome_some]
theorem appR_loc {i : Nat} {l : List D} (h : S[i]? = some (.lst l)) (hl : l.length < sizeLine) : appR (.loc i) [y] S = .ok .non (S.set i (.lst (l ++ [y]))) := by
  unfold appR; simp only [h, hl, if_true]
def zpQ (Q : QP (List D)) (X : QP D) : QP (List D) := fun ds S => Wr (zipR ds S) Q X
theorem zpQ_s : zpQ QL X ds S = Wr (zipR ds S) QL X := rfl
theorem wr_iZip : Wr (iZip am e S) QL X = Wr (am e S) (zpQ QL X) X := by unfold iZip; rw [wr_bind]; rfl
theorem zipR_tup (l m : List D) : zipR [.tup l, .tup m] S = .ok (zipD l m) S := rfl
theorem zipR_lst (l m : List D) : zipR [.lst l, .lst m] S = .ok (zipD l m) S := rfl
def srQ (Q : QP (List D)) (X : QP D) : QP D := fun d S => Wr (strR d S) Q X
theorem srQ_s : srQ QL X d S = Wr (strR d S) QL X := rfl
theorem wr_iStrM : Wr (iStrM a e S) QL X = Wr (a e S) (srQ QL X) X := by unfold iStrM; rw [wr_bind]; rfl
theorem strR_s (x : Str) : strR (.str x) S = .ok (signs x) S := rfl
def ioQ (cn : Nat) (Q X : QP D) : QP D := fun x S => Wr (lf ((isO cn S x).map .bl) S) Q X
theorem ioQ_s (cn : Nat) : ioQ cn Q X x S = Wr (lf ((isO cn S x).map .bl) S) Q X := rfl
theorem wr_eIsO (cn : Nat) : Wr (eIsO cn a e S) Q X = Wr (a e S) (ioQ cn Q X) X := by unfold eIsO; rw [wr_bind]; rfl
variable {QE : QP En}
theorem wr_gStr_tup (i : Nat) (r : GMs) (l : List D) : Wr (gStr i r (.tup l) e S) QE X = (i ≤ l.length ∧ Wr (r (l.take i ++ [.lst (l.drop i)]) e S) QE X) := by
  show Wr (if i ≤ l.length then _ else _) QE X = _
  rw [wr_guard]
theorem wr_gStr_lst (i : Nat) (r : GMs) (l : List D) : Wr (gStr i r (.lst l) e S) QE X = (i ≤ l.length ∧ Wr (r (l.take i ++ [.lst (l.drop i)]) e S) QE X) := by
  show Wr (if i ≤ l.length then _ else _) QE X = _
  rw [wr_guard]
theorem fTuple_lst (l : List D) : fTuple S [.lst l] = some (.tup l) := rfl
theorem fTuple_tup (l : List D) : fTuple S [.tup l] = some (.tup l) := rfl
theorem dAddS_int (i j : Int) : dAddS S (.int i) (.int j) = some (.int (i + j)) := rfl
end
end G
namespace C
open PySem G
local macro_rules | `(tactic| wp_walk using $ts,*) => `(tactic| try simp only [wr_ok, wr_exc, wr_lf, wr_eC, evQ_some, wr_eVar, cB2_s, cB1_s, wr_eBin, cS2_s, cS1_s, wr_eBinS, asQ_bl, wr_tB, truQ_s, wr_tT, notQ_s, wr_tNt, anQ_t, anQ_f, wr_tAn, orQ_t, orQ_f, wr_tOr, eaB_t, eaB_f, eaQ_s, wr_eAn, eoB_t, eoB_f, eoQ_s, wr_eOr, enB_s, enQ_s, wr_eNt, eiQ_t, eiQ_f, wr_eIf, negQ_int, wr_eNeg, wr_aNil, cC2_s, cC1_s, wr_aCons, tupQ_s, lstQ_s, newQ_s, wr_eTup, wr_eLst, wr_eNew, caQ_s, wr_eCa, clQ_s, wr_eCall, nAQ_s, wr_nA, tyQ_s, wr_eIsTy, icQ_s, wr_eIsC, mt2_s, mt1_s, wr_eMt, wr_oNone, oQ_int, wr_oSome, sl3_s, sl2_s, sl1_s, wr_eSl, kk2_s, kk1_s, wr_eCallK, kk0_s, wr_eCallK0, wr_gN, sb3_s, sb2_s, sb1_s, wr_gSb, wr_gsNil, gs1_s, wr_gsCons, wr_gTp, wr_gTp_rD, xe_s, sq_nx, sq_rt, sq_bk, sq_ct, sq_ex, sq_xe, ws_nxt, ws_sNop, ws_sSeq, ws_sBrk, ws_sCnt, dropQ_s, ws_sDrop, ws_sRet, ws_sRetN, ifQ_t, ifQ_f, ws_sIf, asg1_s, ws_sAsg, setQ_s, ws_sSet, parQ_s, ws_sPar, ws_sRaise, fn_nx, fn_rt, fn_ex, fn_xe, su_nx, su_bk, su_ct, su_rt, trQ_t, trQ_f, tr_nx, tr_rt, tr_bk, tr_ct, tr_ex, ws_sTry, forQ_s, ws_sFor, lp_nx, lp_rt, lp_bk, lp_ct, lp_ex, lp_xe, ws_fi_nil, bodyQ_s, mid_nx, mid_rt, mid_bk, mid_ct, mid_ex, mid_xe, lc2_s, lc1_s, wr_eLc, lcn2_s, lcn1_s, wr_eLcN, wipe_nil, wipe_cons, wr_tTrue, wr_lc_nil, tgQ_some, ly_s, lt1_t, lt1_f, lg_s, eqQ_s, exQ_s, seqQ_tup, seqQ_lst, seqQ_scr, seqQ_rD, wr_iSeq, rgQ_int, wr_iRg1, rgQ2_int, wr_iRg2, ch3_t, ch3_f, ch2_s, ch1_s, wr_eChain, flQ_s, wr_eFld, fldD_ins, stQ_s, sf2_s, sf1_s, ws_sFldM, mkQ2_s, mkQ1_s, wr_eMk, wr_eMk0, ap2_s, ap1_s, wr_eApp, zpQ_s, wr_iZip, zipR_tup, zipR_lst, srQ_s, wr_iStrM, strR_s, ioQ_s, wr_eIsO, dAddS_int, wr_gStr_tup, wr_gStr_lst, fTuple_lst, fTuple_tup, List.take_succ_cons, List.take_zero, List.drop_succ_cons, List.drop_zero, List.getElem?_cons_zero, List.getElem?_cons_succ, List.set_cons_zero, List.set_cons_succ, List.map_cons, List.map_nil, List.length_cons, List.length_nil, List.cons_append, List.nil_append, List.replicate_succ, List.replicate_zero, List.append_nil, true_and, and_true, and_self, if_true, ite_true, if_false, ite_false, Bool.false_eq_true, Bool.not_true, Bool.not_false, Bool.not_not, decide_true, decide_false, decide_eq_true_eq, not_false_eq_true, not_true_eq_false, reduceCtorEq, sizeLine_eq, Option.map_some, Option.some.injEq, Nat.reduceSub, Nat.reduceAdd, Nat.reduceLeDiff, Nat.reduceEqDiff, Nat.zero_add, Nat.reduceBEq, List.contains_cons, List.contains_nil, beq_self_eq_true, Bool.true_or, Bool.or_true, Bool.false_or, Bool.or_false, List.lookup_cons, List.lookup_nil, Int.reduceEq, Int.reduceNe, Int.reduceLT, Int.reduceLE, Int.reduceNeg, Int.reduceAdd, Int.reduceSub, Int.cast_ofNat_Int, ne_eq, cmpI_s, dGt, dGe, dLt, dLe, dAdd_int, dSub_int, dEq_int, dNe_int, dEq_bl, dNe_bl, truD_bl, isTy_int, isTy_bl, isTy_tup, fLen_tup, fLen_scr, fLen_lst, fAbs_int, fMax_int, fMin_int, ixD_tup, ixD_lst, ixD_scr, isTy_rD, fLen_rD, ix_rD0, ix_rD1, dEq_rD, dNe_rD, dIs_rD, dIsNot_rD, Tn.is, $[$ts:term],*])
noncomputable section
def b_is_whole (N : Nat) : SM := (sRet (eAn (eIsTy .int (eVar 0)) (eNt (eIsTy .bool (eVar 0)))))
def m_is_whole (N : Nat) : FM := fnM 1 (b_is_whole N)
def b_shared (N : Nat) : SM := (sSeq (wlR (tB (eBin dGt (eVar 1) (eC (.int 0)))) (sPar 0 1 (aCons (eVar 1) (aCons (eBin dMod (eVar 0) (eVar 1)) aNil))) N)
    (sRet (eVar 0)))
def m_shared (N : Nat) : FM := fnM 2 (b_shared N)
def b_is_ratio (N : Nat) : SM := (sSeq (sIf (tOr' (tNt (tT (eIsTy .tuple (eVar 0)))) (tOr' (tB (eBin dNe (eCa fLen (aCons (eVar 0) aNil)) (eC (.int 2)))) (tNt (tT (eCa fAll (aCons (eLc (iSeq (eVar 0)) (.nm 3) tTrue (eCall (m_is_whole N) (nA 1 (aCons (eVar 3) aNil))) [3]) aNil)))))) (sRet (eC (.bl false))) sNop)
    (sSeq (sAsg (eVar 0) (gTp 2 (gsCons' (gN 1) (gsCons' (gN 2) gsNil))))
    (sRet (eAn (eBin dGt (eVar 2) (eC (.int 0))) (eBin dEq (eCall (m_shared N) (nA 2 (aCons (eCa fAbs (aCons (eVar 1) aNil)) (aCons (eVar 2) aNil)))) (eC (.int 1)))))))
def m_is_ratio (N : Nat) : FM := fnM 4 (b_is_ratio N)
def b_check_ratio (N : Nat) : SM := (sIf (tNt (tT (eCall (m_is_ratio N) (nA 1 (aCons (eVar 0) aNil))))) (sRaise 3) sNop)
def m_check_ratio (N : Nat) : FM := fnM 1 (b_check_ratio N)
def b_check_two (N : Nat) : SM := (sSeq (sDrop (eCall (m_check_ratio N) (nA 1 (aCons (eVar 0) aNil))))
    (sDrop (eCall (m_check_ratio N) (nA 1 (aCons (eVar 1) aNil)))))
def m_check_two (N : Nat) : FM := fnM 2 (b_check_two N)
def b_lowest (N : Nat) : SM := (sSeq (sSet 2 (eCall (m_shared N) (nA 2 (aCons (eCa fAbs (aCons (eVar 0) aNil)) (aCons (eVar 1) aNil)))))
    (sRet (eTup (aCons (eBin dDiv (eVar 0) (eVar 2)) (aCons (eBin dDiv (eVar 1) (eVar 2)) aNil)))))
def m_lowest (N : Nat) : FM := fnM 3 (b_lowest N)
def b_ratio (N : Nat) : SM := (sSeq (sIf (tOr' (tNt (tT (eCall (m_is_whole N) (nA 1 (aCons (eVar 0) aNil))))) (tOr' (tNt (tT (eCall (m_is_whole N) (nA 1 (aCons (eVar 1) aNil))))) (tB (eBin dEq (eVar 1) (eC (.int 0)))))) (sRaise 3) sNop)
    (sSeq (sIf (tB (eBin dLt (eVar 1) (eC (.int 0)))) (sRet (eCall (m_lowest N) (nA 2 (aCons (eBin dSub (eC (.int 0)) (eVar 0)) (aCons (eBin dSub (eC (.int 0)) (eVar 1)) aNil))))) sNop)
    (sRet (eCall (m_lowest N) (nA 2 (aCons (eVar 0) (aCons (eVar 1) aNil)))))))
def m_ratio (N : Nat) : FM := fnM 2 (b_ratio N)
def b_added (N : Nat) : SM := (sSeq (sDrop (eCall (m_check_two N) (nA 2 (aCons (eVar 0) (aCons (eVar 1) aNil)))))
    (sSeq (sAsg (eTup (aCons (eVar 0) (aCons (eVar 1) aNil))) (gTp 2 (gsCons' (gTp 2 (gsCons' (gN 2) (gsCons' (gN 3) gsNil))) (gsCons' (gTp 2 (gsCons' (gN 4) (gsCons' (gN 5) gsNil))) gsNil))))
    (sRet (eCall (m_lowest N) (nA 2 (aCons (eBinS dAddS (eBin dMul (eVar 2) (eVar 5)) (eBin dMul (eVar 4) (eVar 3))) (aCons (eBin dMul (eVar 3) (eVar 5)) aNil)))))))
def m_added (N : Nat) : FM := fnM 6 (b_added N)
def b_lowered (N : Nat) : SM := (sSeq (sDrop (eCall (m_check_two N) (nA 2 (aCons (eVar 0) (aCons (eVar 1) aNil)))))
    (sSeq (sAsg (eTup (aCons (eVar 0) (aCons (eVar 1) aNil))) (gTp 2 (gsCons' (gTp 2 (gsCons' (gN 2) (gsCons' (gN 3) gsNil))) (gsCons' (gTp 2 (gsCons' (gN 4) (gsCons' (gN 5) gsNil))) gsNil))))
    (sRet (eCall (m_lowest N) (nA 2 (aCons (eBin dSub (eBin dMul (eVar 2) (eVar 5)) (eBin dMul (eVar 4) (eVar 3))) (aCons (eBin dMul (eVar 3) (eVar 5)) aNil)))))))
def m_lowered (N : Nat) : FM := fnM 6 (b_lowered N)
def b_scaled (N : Nat) : SM := (sSeq (sDrop (eCall (m_check_two N) (nA 2 (aCons (eVar 0) (aCons (eVar 1) aNil)))))
    (sRet (eCall (m_lowest N) (nA 2 (aCons (eBin dMul (eBinS ixD (eVar 0) (eC (.int 0))) (eBinS ixD (eVar 1) (eC (.int 0)))) (aCons (eBin dMul (eBinS ixD (eVar 0) (eC (.int 1))) (eBinS ixD (eVar 1) (eC (.int 1)))) aNil))))))
def m_scaled (N : Nat) : FM := fnM 2 (b_scaled N)
def b_parted (N : Nat) : SM := (sSeq (sDrop (eCall (m_check_two N) (nA 2 (aCons (eVar 0) (aCons (eVar 1) aNil)))))
    (sSeq (sIf (tB (eBin dEq (eBinS ixD (eVar 1) (eC (.int 0))) (eC (.int 0)))) (sRaise 27) sNop)
    (sRet (eCall (m_ratio N) (nA 2 (aCons (eBin dMul (eBinS ixD (eVar 0) (eC (.int 0))) (eBinS ixD (eVar 1) (eC (.int 1)))) (aCons (eBin dMul (eBinS ixD (eVar 0) (eC (.int 1))) (eBinS ixD (eVar 1) (eC (.int 0)))) aNil)))))))
def m_parted (N : Nat) : FM := fnM 2 (b_parted N)
def b_is_before (N : Nat) : SM := (sSeq (sDrop (eCall (m_check_two N) (nA 2 (aCons (eVar 0) (aCons (eVar 1) aNil)))))
    (sRet (eBin dLt (eBin dMul (eBinS ixD (eVar 0) (eC (.int 0))) (eBinS ixD (eVar 1) (eC (.int 1)))) (eBin dMul (eBinS ixD (eVar 1) (eC (.int 0))) (eBinS ixD (eVar 0) (eC (.int 1)))))))
def m_is_before (N : Nat) : FM := fnM 2 (b_is_before N)
def b_greater (N : Nat) : SM := (sRet (eIf (tT (eCall (m_is_before N) (nA 2 (aCons (eVar 0) (aCons (eVar 1) aNil))))) (eVar 1) (eVar 0)))
def m_greater (N : Nat) : FM := fnM 2 (b_greater N)
def b_is_time (N : Nat) : SM := (sRet (eAn (eCall (m_is_ratio N) (nA 1 (aCons (eVar 0) aNil))) (eBin dGe (eBinS ixD (eVar 0) (eC (.int 0))) (eC (.int 0)))))
def m_is_time (N : Nat) : FM := fnM 1 (b_is_time N)
def b_check_time (N : Nat) : SM := (sIf (tNt (tT (eCall (m_is_time N) (nA 1 (aCons (eVar 0) aNil))))) (sRaise 9) sNop)
def m_check_time (N : Nat) : FM := fnM 1 (b_check_time N)
def b_is_rate (N : Nat) : SM := (sRet (eAn (eCall (m_is_ratio N) (nA 1 (aCons (eVar 0) aNil))) (eChain dLt dLe (eC (.int 0)) (eBinS ixD (eVar 0) (eC (.int 0))) (eBinS ixD (eVar 0) (eC (.int 1))))))
def m_is_rate (N : Nat) : FM := fnM 1 (b_is_rate N)
def b__law_cell (N : Nat) : SM := (sSeq (sIf (tB (eBin dLt (eVar 1) (eCa fLen (aCons (eVar 0) aNil)))) (sRet (eBinS ixD (eVar 0) (eVar 1))) sNop)
    (sSeq (sSet 2 (eBin dMod (eBin dMul (eC (.int 60013)) (eBinS dAddS (eBinS dAddS (eBin dMul (eVar 1) (eVar 1)) (eBin dMul (eC (.int 5)) (eVar 1))) (eC (.int 11)))) (eC (.int 2147483477))))
    (sSeq (sFor (iSeq (eSl (eVar 0) oNone (oSome (eC (.int 3))))) (gN 3) (sSet 2 (eBin dMod (eBinS dAddS (eBin dMul (eVar 2) (eC (.int 48017))) (eVar 3)) (eC (.int 2147483477)))))
    (sRet (eVar 2)))))
def m__law_cell (N : Nat) : FM := fnM 4 (b__law_cell N)
def b__law_pool (N : Nat) : SM := (sSeq (sSet 1 (eC (.int 0)))
    (sSeq (sIf (tOr' (tB (eBin dLt (eVar 0) (eC (.int 0)))) (tB (eBin dGe (eVar 0) (eBin dPow (eC (.int 10)) (eC (.int 18)))))) (sSet 1 (eCa fAbs (aCons (eVar 0) aNil))) sNop)
    (sRet (eNew (aCons (eBin dMod (eVar 0) (eC (.int 2147483477))) (aCons (eVar 1) (aCons (eC (.int 0)) aNil)))))))
def m__law_pool (N : Nat) : FM := fnM 2 (b__law_pool N)
def b__law_take (N : Nat) : SM := (sSeq (sAsg (eBinS dAddS (eBinS ixD (eVar 0) (eC (.int 2))) (eC (.int 1))) (gSb (eVar 0) (eC (.int 2))))
    (sSeq (sSet 2 (eBinS ixD (eVar 0) (eC (.int 0))))
    (sSeq (sAsg (eBin dMod (eBinS dAddS (eBin dMul (eVar 2) (eBinS dAddS (eBin dMod (eVar 2) (eC (.int 44017))) (eC (.int 30029)))) (eBin dMul (eC (.int 80021)) (eBinS ixD (eVar 0) (eC (.int 2))))) (eC (.int 2147483477))) (gSb (eVar 0) (eC (.int 0))))
    (sSeq (sIf (tB (eBin dGt (eBinS ixD (eVar 0) (eC (.int 1))) (eC (.int 0)))) (sSeq (sAsg (eCa fDivmodW (aCons (eBinS ixD (eVar 0) (eC (.int 1))) (aCons (eVar 1) aNil))) (gTp 2 (gsCons' (gSb (eVar 0) (eC (.int 1))) (gsCons' (gN 3) gsNil))))
    (sRet (eVar 3))) sNop)
    (sRet (eBin dMod (eBin dDiv (eBinS ixD (eVar 0) (eC (.int 0))) (eC (.int 64))) (eVar 1)))))))
def m__law_take (N : Nat) : FM := fnM 4 (b__law_take N)
def b__law_r (N : Nat) : SM := (sSeq (sPar 2 3 (aCons (eCa fAbs (aCons (eVar 0) aNil)) (aCons (eCa fAbs (aCons (eVar 1) aNil)) aNil)))
    (sSeq (wlR (tB (eBin dGt (eVar 3) (eC (.int 0)))) (sPar 2 3 (aCons (eVar 3) (aCons (eBin dMod (eVar 2) (eVar 3)) aNil))) N)
    (sSeq (sIf (tB (eBin dLt (eVar 1) (eC (.int 0)))) (sSet 2 (eBin dSub (eC (.int 0)) (eVar 2))) sNop)
    (sRet (eTup (aCons (eBin dDiv (eVar 0) (eVar 2)) (aCons (eBin dDiv (eVar 1) (eVar 2)) aNil)))))))
def m__law_r (N : Nat) : FM := fnM 4 (b__law_r N)
theorem fDivmodW_s {i j : Int} (S : Store) (h0 : 0 < j) (h1 : j < 2 ^ 64) : fDivmodW S [.int i, .int j] = some (.tup [.int (i / j), .int (i % j)]) := by
  have h2 : j.natAbs.log2 < 9000 := Nat.lt_of_lt_of_le (log2_lt (n := 64) (by omega) (by omega)) (by omega)
  show (if 0 < j ∧ j.natAbs.log2 < 9000 then some (D.tup [.int (i / j), .int (i % j)]) else none) = _
  rw [if_pos ⟨h0, h2⟩]
def big (N : Nat) : Prop := 2 ^ 9000 ≤ N
theorem big_lt {N n : Nat} (hN : big N) {x : Nat} (h : x < 2 ^ n) (hn : n ≤ 9000) : x < N := Nat.lt_of_lt_of_le h (Nat.le_trans (pow_le2 hn) hN)
theorem is_whole_int (N : Nat) (i : Int) (S : Store) : m_is_whole N [.int i] S = .ok (.bl true) S := rfl
theorem loop (N : Nat) : ∀ (a b : Int) (S : Store), 0 ≤ a → 0 ≤ b → b.natAbs < N →
    wlR (tB (eBin dGt (eVar 1) (eC (.int 0)))) (sPar 0 1 (aCons (eVar 1) (aCons (eBin dMod (eVar 0) (eVar 1)) aNil))) N [some (.int a), some (.int b)] S = .nxt [some (.int (gI a b)), some (.int 0)] S := by
  induction N with
  | zero => intro a b S _ _ h; omega
  | succ N ih =>
    intro a b S ha hb h
    by_cases hz : b = 0
    · subst hz
      have e : gI a 0 = a := by unfold gI; simp; omega
      rw [e]; rfl
    · have hpos : 0 < b := by omega
      have h1 : wlR (tB (eBin dGt (eVar 1) (eC (.int 0)))) (sPar 0 1 (aCons (eVar 1) (aCons (eBin dMod (eVar 0) (eVar 1)) aNil))) (N + 1) [some (.int a), some (.int b)] S =
          wlR (tB (eBin dGt (eVar 1) (eC (.int 0)))) (sPar 0 1 (aCons (eVar 1) (aCons (eBin dMod (eVar 0) (eVar 1)) aNil))) N [some (.int b), some (.int (a.fmod b))] S := by
        simp [wlR, hpos, dMod_int hz]
      rw [h1]
      have e1 : a.fmod b = a % b := Int.fmod_eq_emod_of_nonneg a (by omega)
      have e2 : 0 ≤ a % b := Int.emod_nonneg a hz
      have e3 : a % b < b := Int.emod_lt_of_pos a hpos
      rw [e1, ih b (a % b) S hb e2 (by omega), gI_step ha hb]
theorem shared_ok (N : Nat) (a b : Int) (S : Store) (ha : 0 ≤ a) (hb : 0 ≤ b) (h : b.natAbs < N) : m_shared N [.int a, .int b] S = .ok (.int (gI a b)) S := by
  simp [m_shared, fnM_s, b_shared, loop N a b S ha hb h]
theorem lowest_ok {N : Nat} {t b : Int} {S : Store} {n : Nat} (hN : big N) (hb : 0 < b) (hs : b.natAbs < 2 ^ n) (hn : 0 < n) (h9 : n ≤ 9000) : m_lowest N [.int t, .int b] S = .ok (rD (Rat.divInt t b)) S := by
  have hg := gI_pos (a := t) (b := b) (by omega)
  have hl := gI_le (a := t) (b := b) (by omega)
  have hd : divOk (gI t b) = true := div_ok (b := n) (by omega) (by omega) hn h9
  have e := shared_ok N (if t < 0 then -t else t) b S (by split <;> omega) (by omega) (big_lt hN hs h9)
  rw [gI_abs] at e
  rw [← lowest_rD hb]
  simp [m_lowest, fnM_s, b_lowest, e, dDiv_int hd, fdiv_pos hg, sizeLine_eq]
theorem ratio_ok {N : Nat} {t b : Int} {S : Store} {n : Nat} (hN : big N) (hb : b ≠ 0) (hs : b.natAbs < 2 ^ n) (hn : 0 < n) (h9 : n ≤ 9000) : m_ratio N [.int t, .int b] S = .ok (rD (Rat.divInt t b)) S := by
  by_cases h : b < 0
  · have e := lowest_ok (N := N) (t := -t) (b := -b) (S := S) hN (by omega) (by omega) hn h9
    rw [Rat.neg_divInt_neg] at e
    simp [m_ratio, fnM_s, b_ratio, is_whole_int, hb, h, e, dEq_int]
  · have e := lowest_ok (N := N) (t := t) (b := b) (S := S) hN (by omega) hs hn h9
    simp [m_ratio, fnM_s, b_ratio, is_whole_int, hb, h, e, dEq_int]
theorem isr_pair (N : Nat) (a b : Int) (S : Store) (hs : b.natAbs < N) : m_is_ratio N [.tup [.int a, .int b]] S = .ok (.bl (decide (0 < b) && decide (gI a b = 1))) S := by
  have hc : eLc (iSeq (eVar 0)) (.nm 3) tTrue (eCall (m_is_whole N) (nA 1 (aCons (eVar 3) aNil))) [3] [some (.tup [.int a, .int b]), none, none, none] S = .ok (.lst [.bl true, .bl true]) S := rfl
  by_cases h : 0 < b
  · have e := shared_ok N (if a < 0 then -a else a) b S (by split <;> omega) (by omega) hs
    rw [gI_abs] at e
    simp [m_is_ratio, fnM_s, b_is_ratio, hc, h, e, fAll, seqD, bools, Tn.is, dEq_int, dNe_int]
  · simp [m_is_ratio, fnM_s, b_is_ratio, hc, h, fAll, seqD, bools, Tn.is, dEq_int, dNe_int]
theorem isr_ok {N : Nat} {q : Rat} {S : Store} {n : Nat} (hN : big N) (h : Bt q n) (h9 : n ≤ 9000) : m_is_ratio N [rD q] S = .ok (.bl true) S := by
  have hd := q.den_pos
  unfold rD
  rw [isr_pair N _ _ S (by rw [Int.natAbs_natCast]; exact big_lt hN h.2 h9), gI_rat, decide_eq_true (by omega)]
  rfl
theorem chk_ok {N : Nat} {q : Rat} {S : Store} {n : Nat} (hN : big N) (h : Bt q n) (h9 : n ≤ 9000) : m_check_ratio N [rD q] S = .ok .non S := by
  simp [m_check_ratio, fnM_s, b_check_ratio, isr_ok hN h h9]
theorem chk2_ok {N : Nat} {p q : Rat} {S : Store} {n m : Nat} (hN : big N) (h : Bt p n) (h9 : n ≤ 9000) (h' : Bt q m) (h9' : m ≤ 9000) : m_check_two N [rD p, rD q] S = .ok .non S := by
  simp [m_check_two, fnM_s, b_check_two, chk_ok hN h h9, chk_ok hN h' h9']
theorem Bt.mul_nn {p q : Rat} {a b : Nat} (h : Bt p a) (h' : Bt q b) (l : a + b ≤ 9000) : mulOk p.num q.num = true := mul_ok h.1 h'.1 h.pos h'.pos (by omega)
theorem Bt.mul_nd {p q : Rat} {a b : Nat} (h : Bt p a) (h' : Bt q b) (l : a + b ≤ 9000) : mulOk p.num q.den = true := mul_ok h.1 (by simpa using h'.2) h.pos h'.pos (by omega)
theorem Bt.mul_dn {p q : Rat} {a b : Nat} (h : Bt p a) (h' : Bt q b) (l : a + b ≤ 9000) : mulOk p.den q.num = true := mul_ok (by simpa using h.2) h'.1 h.pos h'.pos (by omega)
theorem Bt.mul_dd {p q : Rat} {a b : Nat} (h : Bt p a) (h' : Bt q b) (l : a + b ≤ 9000) : mulOk p.den q.den = true := mul_ok (by simpa using h.2) (by simpa using h'.2) h.pos h'.pos (by omega)
theorem den_mul_pos (p q : Rat) : (0 : Int) < (p.den : Int) * (q.den : Int) := Int.mul_pos (by have := p.den_pos; omega) (by have := q.den_pos; omega)
theorem den_mul_lt {p q : Rat} {a b : Nat} (h : Bt p a) (h' : Bt q b) : ((p.den : Int) * (q.den : Int)).natAbs < 2 ^ (a + b) := natAbs_mul_lt (by simpa using h.2) (by simpa using h'.2)
theorem added_ok {N : Nat} {p q : Rat} {S : Store} {n m : Nat} (hN : big N) (h : Bt p n) (h' : Bt q m) (l : n + m ≤ 9000) : m_added N [rD p, rD q] S = .ok (rD (p + q)) S := by
  have e := lowest_ok (N := N) (t := p.num * q.den + q.num * p.den) (S := S) hN (den_mul_pos p q) (den_mul_lt h h') (by have := h.pos; omega) l
  rw [← add_div] at e
  apply eq_of_w
  rw [m_added, wr_fnM, b_added]
  wp_walk using chk2_ok hN h (by omega) h' (by omega), dMul_int (Bt.mul_nd h h' l), dMul_int (Bt.mul_nd h' h (by omega)), dMul_int (Bt.mul_dd h h' l), e
theorem lowered_ok {N : Nat} {p q : Rat} {S : Store} {n m : Nat} (hN : big N) (h : Bt p n) (h' : Bt q m) (l : n + m ≤ 9000) : m_lowered N [rD p, rD q] S = .ok (rD (p - q)) S := by
  have e := lowest_ok (N := N) (t := p.num * q.den - q.num * p.den) (S := S) hN (den_mul_pos p q) (den_mul_lt h h') (by have := h.pos; omega) l
  rw [← sub_div] at e
  apply eq_of_w
  rw [m_lowered, wr_fnM, b_lowered]
  wp_walk using chk2_ok hN h (by omega) h' (by omega), dMul_int (Bt.mul_nd h h' l), dMul_int (Bt.mul_nd h' h (by omega)), dMul_int (Bt.mul_dd h h' l), e
theorem scaled_ok {N : Nat} {p q : Rat} {S : Store} {n m : Nat} (hN : big N) (h : Bt p n) (h' : Bt q m) (l : n + m ≤ 9000) : m_scaled N [rD p, rD q] S = .ok (rD (p * q)) S := by
  have e := lowest_ok (N := N) (t := p.num * q.num) (S := S) hN (den_mul_pos p q) (den_mul_lt h h') (by have := h.pos; omega) l
  rw [← mul_div] at e
  apply eq_of_w
  rw [m_scaled, wr_fnM, b_scaled]
  wp_walk using chk2_ok hN h (by omega) h' (by omega), dMul_int (Bt.mul_nn h h' l), dMul_int (Bt.mul_dd h h' l), e
theorem parted_ok {N : Nat} {p q : Rat} {S : Store} {n m : Nat} (hN : big N) (h : Bt p n) (h' : Bt q m) (hq : q ≠ 0) (l : n + m ≤ 9000) : m_parted N [rD p, rD q] S = .ok (rD (p / q)) S := by
  have hz : ¬ q.num = 0 := fun z => hq (Rat.num_eq_zero.mp z)
  have hd : (p.den : Int) * q.num ≠ 0 := Int.mul_ne_zero (by have := p.den_pos; omega) hz
  have e := ratio_ok (N := N) (t := p.num * q.den) (S := S) hN hd (natAbs_mul_lt (by simpa using h.2) h'.1) (by have := h.pos; omega) l
  rw [← div_div] at e
  apply eq_of_w
  rw [m_parted, wr_fnM, b_parted]
  wp_walk using chk2_ok hN h (by omega) h' (by omega), dMul_int (Bt.mul_nd h h' l), dMul_int (Bt.mul_dn h h' l), e, hz
theorem before_ok {N : Nat} {p q : Rat} {S : Store} {n m : Nat} (hN : big N) (h : Bt p n) (h' : Bt q m) (l : n + m ≤ 9000) : m_is_before N [rD p, rD q] S = .ok (.bl (decide (p < q))) S := by
  apply eq_of_w
  rw [m_is_before, wr_fnM, b_is_before]
  wp_walk using chk2_ok hN h (by omega) h' (by omega), dMul_int (Bt.mul_nd h h' l), dMul_int (Bt.mul_nd h' h (by omega)), dLt, lt_rat
theorem greater_ok {N : Nat} {p q : Rat} {S : Store} {n m : Nat} (hN : big N) (h : Bt p n) (h' : Bt q m) (l : n + m ≤ 9000) : m_greater N [rD p, rD q] S = .ok (rD (max p q)) S := by
  apply eq_of_w
  rw [m_greater, wr_fnM, b_greater]
  by_cases hl : p < q
  · have e : max p q = q := by rw [Rat.max_def]; grind
    wp_walk using before_ok hN h h' l, hl, e
  · have e : max p q = p := by rw [Rat.max_def]; grind
    wp_walk using before_ok hN h h' l, hl, e
theorem loop4 (N : Nat) (x y : Option D) : ∀ (a b : Int) (S : Store), 0 ≤ a → 0 ≤ b → b.natAbs < N →
    wlR (tB (eBin dGt (eVar 3) (eC (.int 0)))) (sPar 2 3 (aCons (eVar 3) (aCons (eBin dMod (eVar 2) (eVar 3)) aNil))) N [x, y, some (.int a), some (.int b)] S = .nxt [x, y, some (.int (gI a b)), some (.int 0)] S := by
  induction N with
  | zero => intro a b S _ _ h; omega
  | succ N ih =>
    intro a b S ha hb h
    by_cases hz : b = 0
    · subst hz
      have e : gI a 0 = a := by unfold gI; simp; omega
      rw [e]; rfl
    · have hpos : 0 < b := by omega
      have h1 : wlR (tB (eBin dGt (eVar 3) (eC (.int 0)))) (sPar 2 3 (aCons (eVar 3) (aCons (eBin dMod (eVar 2) (eVar 3)) aNil))) (N + 1) [x, y, some (.int a), some (.int b)] S =
          wlR (tB (eBin dGt (eVar 3) (eC (.int 0)))) (sPar 2 3 (aCons (eVar 3) (aCons (eBin dMod (eVar 2) (eVar 3)) aNil))) N [x, y, some (.int b), some (.int (a.fmod b))] S := by
        simp [wlR, hpos, dMod_int hz]
      rw [h1]
      have e1 : a.fmod b = a % b := Int.fmod_eq_emod_of_nonneg a (by omega)
      have e2 : 0 ≤ a % b := Int.emod_nonneg a hz
      have e3 : a % b < b := Int.emod_lt_of_pos a hpos
      rw [e1, ih b (a % b) S hb e2 (by omega), gI_step ha hb]
theorem r_ok {N : Nat} {t b : Int} {S : Store} {n : Nat} (hN : big N) (hb : b ≠ 0) (hs : b.natAbs < 2 ^ n) (hn : 0 < n) (h9 : n ≤ 9000) : m__law_r N [.int t, .int b] S = .ok (rD (Rat.divInt t b)) S := by
  have hg := gI_pos (a := t) (b := b) hb
  have hl := gI_le (a := t) (b := b) hb
  have hbN := big_lt hN hs h9
  have e := loop4 N (some (.int t)) (some (.int b)) (if t < 0 then -t else t) (if b < 0 then -b else b) S (by split <;> omega) (by split <;> omega) (by split <;> omega)
  rw [gI_congr (c := t) (d := b) (by split <;> omega) (by split <;> omega)] at e
  by_cases h : b < 0
  · have hd : divOk (0 - gI t b) = true := div_ok (b := n) (by omega) (by omega) hn h9
    have f1 := fdiv_neg_of hg (gI_l t b)
    have f2 := fdiv_neg_of hg (gI_r t b)
    rw [← neg_rD h, ← f1, ← f2]
    simp only [Int.zero_sub] at hd f1 f2
    simp only [if_pos h] at e
    simp [m__law_r, fnM_s, b__law_r, e, h, dDiv_int hd, f1, f2, sizeLine_eq]
  · have hd : divOk (gI t b) = true := div_ok (b := n) (by omega) (by omega) hn h9
    rw [← lowest_rD (by omega)]
    simp only [if_neg h] at e
    simp [m__law_r, fnM_s, b__law_r, e, h, dDiv_int hd, fdiv_pos hg, sizeLine_eq]
def Pool (S : Store) (n : Nat) : Prop := ∃ a b c : Int, S[n]? = some (.lst [.int a, .int b, .int c]) ∧ 0 ≤ a ∧ a < 2147483477 ∧ 0 ≤ b
def Fr (n : Nat) (S S' : Store) : Prop := S.length ≤ S'.length ∧ ∀ m, m < S.length → m ≠ n → S'[m]? = S[m]?
theorem Fr.trans {n : Nat} {S S1 S2 : Store} (a : Fr n S S1) (b : Fr n S1 S2) : Fr n S S2 := ⟨Nat.le_trans a.1 b.1, fun m h h' => (b.2 m (Nat.lt_of_lt_of_le h a.1) h').trans (a.2 m h h')⟩
theorem Fr.set {n : Nat} {S : Store} (c : Cell) : Fr n S (S.set n c) := ⟨by rw [List.length_set]; exact Nat.le_refl _, fun m _ h => List.getElem?_set_ne (Ne.symm h)⟩
theorem Fr.app {n : Nat} {S : Store} (c : List Cell) : Fr n S (S ++ c) := ⟨by rw [List.length_append]; omega, fun m h _ => List.getElem?_append_left h⟩
theorem Pool.app {S : Store} {n : Nat} (P : Pool S n) (c : List Cell) : Pool (S ++ c) n := by
  obtain ⟨x, y, z, h, r⟩ := P
  exact ⟨x, y, z, by rw [List.getElem?_append_left (List.getElem?_eq_some_iff.mp h).1]; exact h, r⟩
theorem Pool.lt {S : Store} {n : Nat} (P : Pool S n) : n < S.length := by
  obtain ⟨x, y, z, h, r⟩ := P
  exact (List.getElem?_eq_some_iff.mp h).1
theorem Pool.set {S : Store} {n i : Nat} (P : Pool S n) (c : Cell) (h : i ≠ n) : Pool (S.set i c) n := by
  obtain ⟨x, y, z, hs, r⟩ := P
  exact ⟨x, y, z, by rw [List.getElem?_set_ne h]; exact hs, r⟩
theorem Fr.get {n : Nat} {S S' : Store} {i : Nat} {c : Cell} (F : Fr n S S') (h : S[i]? = some c) (hn : i ≠ n) : S'[i]? = some c := by
  rw [F.2 i (List.getElem?_eq_some_iff.mp h).1 hn]; exact h
theorem take_w (N : Nat) {S : Store} {n : Nat} {many : Int} {Q : D → Store → Prop} {X : D → Store → Prop} (P : Pool S n) (hm : 0 < many) (hm2 : many < 2 ^ 64)
    (h : ∀ d S', 0 ≤ d → d < many → Pool S' n → Fr n S S' → Q (.int d) S') : Wr (m__law_take N [.loc n, .int many] S) Q X := by
  obtain ⟨a, b, c, hS, ha, ha2, hb⟩ := P
  have hn : n < S.length := (List.getElem?_eq_some_iff.mp hS).1
  have get : ∀ (S : Store) (X : Cell), n < S.length → (S.set n X)[n]? = some X := fun S X h => by rw [List.getElem?_set_self h]
  have m1 : ∀ z, mulOk a z = true := fun z => mul_l (by omega)
  have m2 : ∀ z, mulOk 80021 z = true := fun z => mul_l (by decide)
  obtain ⟨a', ea⟩ : ∃ a', a' = (a * (a.fmod 44017 + 30029) + 80021 * (c + 1)).fmod 2147483477 := ⟨_, rfl⟩
  have e' : a' = (a * (a.fmod 44017 + 30029) + 80021 * (c + 1)) % 2147483477 := by rw [ea]; exact Int.fmod_eq_emod_of_nonneg _ (by omega)
  have ha1 : 0 ≤ a' := by rw [e']; exact Int.emod_nonneg _ (by omega)
  have ha3 : a' < 2147483477 := by rw [e']; exact Int.emod_lt_of_pos _ (by omega)
  have i0 : ixD S (.loc n) (.int 2) = some (.int c) := ixD_loc _ hS
  have i1 : ∀ (S : Store) (x y z : D) (k : Int), n < S.length → ixD (S.set n (.lst [x, y, z])) (.loc n) (.int k) = L2.atI [x, y, z] k := fun S x y z k h => ixD_loc _ (get S _ h)
  have s0 : ∀ d, setD S (.loc n) (.int 2) d = some (S.set n (.lst [.int a, .int b, d])) := fun d => setD_loc (j := 2) d hS rfl
  have s1 : ∀ (x y z d : D), setD (S.set n (.lst [x, y, z])) (.loc n) (.int 0) d = some (S.set n (.lst [d, y, z])) := fun x y z d => by
    rw [setD_loc (j := 0) d (get S _ hn) rfl, List.set_set]; rfl
  have s2 : ∀ (x y z d : D), setD (S.set n (.lst [x, y, z])) (.loc n) (.int 1) d = some (S.set n (.lst [x, d, z])) := fun x y z d => by
    rw [setD_loc (j := 1) d (get S _ hn) rfl, List.set_set]; rfl
  rw [m__law_take, wr_fnM, b__law_take]
  by_cases hb0 : 0 < b
  · (try simp only [wr_ok, wr_exc, wr_lf, wr_eC, evQ_some, wr_eVar, cB2_s, cB1_s, wr_eBin, cS2_s, cS1_s, wr_eBinS, asQ_bl, wr_tB, truQ_s, wr_tT, notQ_s, wr_tNt, anQ_t, anQ_f, wr_tAn, orQ_t, orQ_f, wr_tOr, eaB_t, eaB_f, eaQ_s, wr_eAn, eoB_t, eoB_f, eoQ_s, wr_eOr, enB_s, enQ_s, wr_eNt, eiQ_t, eiQ_f, wr_eIf, negQ_int, wr_eNeg, wr_aNil, cC2_s, cC1_s, wr_aCons, tupQ_s, lstQ_s, newQ_s, wr_eTup, wr_eLst, wr_eNew, caQ_s, wr_eCa, clQ_s, wr_eCall, nAQ_s, wr_nA, tyQ_s, wr_eIsTy, icQ_s, wr_eIsC, mt2_s, mt1_s, wr_eMt, wr_oNone, oQ_int, wr_oSome, sl3_s, sl2_s, sl1_s, wr_eSl, kk2_s, kk1_s, wr_eCallK, kk0_s, wr_eCallK0, wr_gN, sb3_s, sb2_s, sb1_s, wr_gSb, wr_gsNil, gs1_s, wr_gsCons, wr_gTp, wr_gTp_rD, xe_s, sq_nx, sq_rt, sq_bk, sq_ct, sq_ex, sq_xe, ws_nxt, ws_sNop, ws_sSeq, ws_sBrk, ws_sCnt, dropQ_s, ws_sDrop, ws_sRet, ws_sRetN, ifQ_t, ifQ_f, ws_sIf, asg1_s, ws_sAsg, setQ_s, ws_sSet, parQ_s, ws_sPar, ws_sRaise, fn_nx, fn_rt, fn_ex, fn_xe, su_nx, su_bk, su_ct, su_rt, trQ_t, trQ_f, tr_nx, tr_rt, tr_bk, tr_ct, tr_ex, ws_sTry, forQ_s, ws_sFor, lp_nx, lp_rt, lp_bk, lp_ct, lp_ex, lp_xe, ws_fi_nil, bodyQ_s, mid_nx, mid_rt, mid_bk, mid_ct, mid_ex, mid_xe, lc2_s, lc1_s, wr_eLc, lcn2_s, lcn1_s, wr_eLcN, wipe_nil, wipe_cons, wr_tTrue, wr_lc_nil, tgQ_some, ly_s, lt1_t, lt1_f, lg_s, eqQ_s, exQ_s, seqQ_tup, seqQ_lst, seqQ_scr, seqQ_rD, wr_iSeq, rgQ_int, wr_iRg1, rgQ2_int, wr_iRg2, ch3_t, ch3_f, ch2_s, ch1_s, wr_eChain, flQ_s, wr_eFld, fldD_ins, stQ_s, sf2_s, sf1_s, ws_sFldM, mkQ2_s, mkQ1_s, wr_eMk, wr_eMk0, ap2_s, ap1_s, wr_eApp, zpQ_s, wr_iZip, zipR_tup, zipR_lst, srQ_s, wr_iStrM, strR_s, ioQ_s, wr_eIsO, dAddS_int, wr_gStr_tup, wr_gStr_lst, fTuple_lst, fTuple_tup, List.take_succ_cons, List.take_zero, List.drop_succ_cons, List.drop_zero, List.getElem?_cons_zero, List.getElem?_cons_succ, List.set_cons_zero, List.set_cons_succ, List.map_cons, List.map_nil, List.length_cons, List.length_nil, List.cons_append, List.nil_append, List.replicate_succ, List.replicate_zero, List.append_nil, true_and, and_true, and_self, if_true, ite_true, if_false, ite_false, Bool.false_eq_true, Bool.not_true, Bool.not_false, Bool.not_not, decide_true, decide_false, decide_eq_true_eq, not_false_eq_true, not_true_eq_false, reduceCtorEq, sizeLine_eq, Option.map_some, Option.some.injEq, Nat.reduceSub, Nat.reduceAdd, Nat.reduceLeDiff, Nat.reduceEqDiff, Nat.zero_add, Nat.reduceBEq, List.contains_cons, List.contains_nil, beq_self_eq_true, Bool.true_or, Bool.or_true, Bool.false_or, Bool.or_false, List.lookup_cons, List.lookup_nil, Int.reduceEq, Int.reduceNe, Int.reduceLT, Int.reduceLE, Int.reduceNeg, Int.reduceAdd, Int.reduceSub, Int.cast_ofNat_Int, ne_eq, cmpI_s, dGt, dGe, dLt, dLe, dAdd_int, dSub_int, dEq_int, dNe_int, dEq_bl, dNe_bl, truD_bl, isTy_int, isTy_bl, isTy_tup, fLen_tup, fLen_scr, fLen_lst, fAbs_int, fMax_int, fMin_int, ixD_tup, ixD_lst, ixD_scr, isTy_rD, fLen_rD, ix_rD0, ix_rD1, dEq_rD, dNe_rD, dIs_rD, dIsNot_rD, Tn.is, i0, s0, s1, s2, i1 _ _ _ _ _ hn, at3_0, at3_1, at3_2, dMul_int (m1 _), dMul_int (m2 _), dMod_int, dGt, ← ea, hb0, fDivmodW_s _ hm hm2, ne_eq])
    exact h _ _ (Int.emod_nonneg _ (by omega)) (Int.emod_lt_of_pos _ hm) ⟨a', b / many, c + 1, get S _ hn, ha1, ha3, Int.ediv_nonneg hb (by omega)⟩ (Fr.set _)
  · have d64 : divOk 64 = true := by decide
    have hz : ¬ many = 0 := by omega
    (try simp only [wr_ok, wr_exc, wr_lf, wr_eC, evQ_some, wr_eVar, cB2_s, cB1_s, wr_eBin, cS2_s, cS1_s, wr_eBinS, asQ_bl, wr_tB, truQ_s, wr_tT, notQ_s, wr_tNt, anQ_t, anQ_f, wr_tAn, orQ_t, orQ_f, wr_tOr, eaB_t, eaB_f, eaQ_s, wr_eAn, eoB_t, eoB_f, eoQ_s, wr_eOr, enB_s, enQ_s, wr_eNt, eiQ_t, eiQ_f, wr_eIf, negQ_int, wr_eNeg, wr_aNil, cC2_s, cC1_s, wr_aCons, tupQ_s, lstQ_s, newQ_s, wr_eTup, wr_eLst, wr_eNew, caQ_s, wr_eCa, clQ_s, wr_eCall, nAQ_s, wr_nA, tyQ_s, wr_eIsTy, icQ_s, wr_eIsC, mt2_s, mt1_s, wr_eMt, wr_oNone, oQ_int, wr_oSome, sl3_s, sl2_s, sl1_s, wr_eSl, kk2_s, kk1_s, wr_eCallK, kk0_s, wr_eCallK0, wr_gN, sb3_s, sb2_s, sb1_s, wr_gSb, wr_gsNil, gs1_s, wr_gsCons, wr_gTp, wr_gTp_rD, xe_s, sq_nx, sq_rt, sq_bk, sq_ct, sq_ex, sq_xe, ws_nxt, ws_sNop, ws_sSeq, ws_sBrk, ws_sCnt, dropQ_s, ws_sDrop, ws_sRet, ws_sRetN, ifQ_t, ifQ_f, ws_sIf, asg1_s, ws_sAsg, setQ_s, ws_sSet, parQ_s, ws_sPar, ws_sRaise, fn_nx, fn_rt, fn_ex, fn_xe, su_nx, su_bk, su_ct, su_rt, trQ_t, trQ_f, tr_nx, tr_rt, tr_bk, tr_ct, tr_ex, ws_sTry, forQ_s, ws_sFor, lp_nx, lp_rt, lp_bk, lp_ct, lp_ex, lp_xe, ws_fi_nil, bodyQ_s, mid_nx, mid_rt, mid_bk, mid_ct, mid_ex, mid_xe, lc2_s, lc1_s, wr_eLc, lcn2_s, lcn1_s, wr_eLcN, wipe_nil, wipe_cons, wr_tTrue, wr_lc_nil, tgQ_some, ly_s, lt1_t, lt1_f, lg_s, eqQ_s, exQ_s, seqQ_tup, seqQ_lst, seqQ_scr, seqQ_rD, wr_iSeq, rgQ_int, wr_iRg1, rgQ2_int, wr_iRg2, ch3_t, ch3_f, ch2_s, ch1_s, wr_eChain, flQ_s, wr_eFld, fldD_ins, stQ_s, sf2_s, sf1_s, ws_sFldM, mkQ2_s, mkQ1_s, wr_eMk, wr_eMk0, ap2_s, ap1_s, wr_eApp, zpQ_s, wr_iZip, zipR_tup, zipR_lst, srQ_s, wr_iStrM, strR_s, ioQ_s, wr_eIsO, dAddS_int, wr_gStr_tup, wr_gStr_lst, fTuple_lst, fTuple_tup, List.take_succ_cons, List.take_zero, List.drop_succ_cons, List.drop_zero, List.getElem?_cons_zero, List.getElem?_cons_succ, List.set_cons_zero, List.set_cons_succ, List.map_cons, List.map_nil, List.length_cons, List.length_nil, List.cons_append, List.nil_append, List.replicate_succ, List.replicate_zero, List.append_nil, true_and, and_true, and_self, if_true, ite_true, if_false, ite_false, Bool.false_eq_true, Bool.not_true, Bool.not_false, Bool.not_not, decide_true, decide_false, decide_eq_true_eq, not_false_eq_true, not_true_eq_false, reduceCtorEq, sizeLine_eq, Option.map_some, Option.some.injEq, Nat.reduceSub, Nat.reduceAdd, Nat.reduceLeDiff, Nat.reduceEqDiff, Nat.zero_add, Nat.reduceBEq, List.contains_cons, List.contains_nil, beq_self_eq_true, Bool.true_or, Bool.or_true, Bool.false_or, Bool.or_false, List.lookup_cons, List.lookup_nil, Int.reduceEq, Int.reduceNe, Int.reduceLT, Int.reduceLE, Int.reduceNeg, Int.reduceAdd, Int.reduceSub, Int.cast_ofNat_Int, ne_eq, cmpI_s, dGt, dGe, dLt, dLe, dAdd_int, dSub_int, dEq_int, dNe_int, dEq_bl, dNe_bl, truD_bl, isTy_int, isTy_bl, isTy_tup, fLen_tup, fLen_scr, fLen_lst, fAbs_int, fMax_int, fMin_int, ixD_tup, ixD_lst, ixD_scr, isTy_rD, fLen_rD, ix_rD0, ix_rD1, dEq_rD, dNe_rD, dIs_rD, dIsNot_rD, Tn.is, i0, s0, s1, s2, i1 _ _ _ _ _ hn, at3_0, at3_1, at3_2, dMul_int (m1 _), dMul_int (m2 _), dMod_int, dGt, ← ea, hb0, dDiv_int d64, hz, ne_eq])
    refine h _ _ ?_ ?_ ⟨a', b, c + 1, get S _ hn, ha1, ha3, hb⟩ (Fr.set _)
    · rw [Int.fmod_eq_emod_of_nonneg _ (by omega)]; exact Int.emod_nonneg _ (by omega)
    · rw [Int.fmod_eq_emod_of_nonneg _ (by omega)]; exact Int.emod_lt_of_pos _ hm
theorem pool_w (N : Nat) (x : Int) {S : Store} {Q : D → Store → Prop} {X : D → Store → Prop} (h : ∀ c, Pool (S ++ [c]) S.length → Q (.loc S.length) (S ++ [c])) : Wr (m__law_pool N [.int x] S) Q X := by
  have e1 : x.fmod 2147483477 = x % 2147483477 := Int.fmod_eq_emod_of_nonneg _ (by omega)
  have g : ∀ X : Cell, (S ++ [X])[S.length]? = some X := fun X => by simp
  have a1 : 0 ≤ x.fmod 2147483477 := by rw [e1]; exact Int.emod_nonneg _ (by omega)
  have a2 : x.fmod 2147483477 < 2147483477 := by rw [e1]; exact Int.emod_lt_of_pos _ (by omega)
  have ep : dPow (.int 10) (.int 18) = some (.int (10 ^ 18)) := rfl
  rw [m__law_pool, wr_fnM, b__law_pool]
  by_cases h1 : x < 0
  · wp_walk using dLt, h1, dMod_int, ne_eq
    exact h _ ⟨_, _, _, g _, a1, a2, by omega⟩
  · by_cases h2 : (10 ^ 18 : Int) ≤ x
    · wp_walk using dLt, dGe, ep, h1, h2, dMod_int, ne_eq
      exact h _ ⟨_, _, _, g _, a1, a2, by omega⟩
    · wp_walk using dLt, dGe, ep, h1, h2, dMod_int, ne_eq
      exact h _ ⟨_, _, _, g _, a1, a2, by omega⟩
theorem wr_at {l : List D} {i : Int} {S : Store} {Q : D → Store → Prop} {X : D → Store → Prop} (h0 : 0 ≤ i) (h1 : i < l.length) (h : ∀ d, d ∈ l → Q d S) : Wr (lf (L2.atI l i) S) Q X := by
  have hk : i.toNat < l.length := by omega
  have e : L2.atI l i = some l[i.toNat] := by
    unfold L2.atI L2.ixN
    rw [if_pos h0, if_pos h1]
    show l[i.toNat]? = _
    exact List.getElem?_eq_getElem hk
  rw [e]
  exact h _ (List.getElem_mem hk)
theorem range_get {n i : Nat} {d : D} (h : (rangeD 0 n)[i]? = some d) : d = .int i ∧ i < n := by
  unfold rangeD at h
  rw [List.getElem?_map] at h
  obtain ⟨k, hk, rfl⟩ := Option.map_eq_some_iff.mp h
  obtain ⟨h1, h2⟩ := List.getElem?_eq_some_iff.mp hk
  simp at h1 h2
  subst h2
  exact ⟨by simp, h1⟩
theorem atI_ints (ns : List Int) {k : Int} (h0 : 0 ≤ k) (h : k < ns.length) : ∃ x : Int, L2.atI (ns.map D.int) k = some (.int x) := by
  have hk : k.toNat < ns.length := by omega
  refine ⟨ns[k.toNat], ?_⟩
  unfold L2.atI L2.ixN
  rw [List.length_map, if_pos h0, if_pos h]
  show (ns.map D.int)[k.toNat]? = _
  rw [List.getElem?_map, List.getElem?_eq_getElem hk]
  rfl
theorem cell_w (N : Nat) (ns : List Int) (k : Int) {S : Store} {Q : D → Store → Prop} {X : D → Store → Prop} (h0 : 0 ≤ k) (h1 : k < 2 ^ 40) (h : ∀ x : Int, Q (.int x) S) : Wr (m__law_cell N [.scr (ns.map .int), .int k] S) Q X := by
  rw [m__law_cell, wr_fnM, b__law_cell]
  by_cases hk : k < ns.length
  · obtain ⟨x, e⟩ := atI_ints ns h0 hk
    wp_walk using List.length_map, hk, e
    exact h x
  · have es : slD S (.scr (ns.map D.int)) none (some 3) = some (.lst ((cutL ns none (some 3)).map D.int)) := by
      show some (D.lst (cutL (ns.map D.int) none (some 3))) = _
      rw [cutL_map]
    wp_walk using List.length_map, hk, dMul_int (mul_l (i := k) (j := k) (by omega)), dMul_int (mul_l (i := 5) (j := k) (by decide)), dMul_int (mul_l (i := 60013) (by decide)), dMod_int, es
    refine for_i (fun e S' => S' = S ∧ ∃ (z : Int) (o : Option D), e = [some (.scr (ns.map .int)), some (.int k), some (.int z), o]) ⟨rfl, _, none, rfl⟩ ?_ ?_
    · rintro d e S' hd ⟨rfl, z, o, rfl⟩
      obtain ⟨i, _, rfl⟩ := List.mem_map.mp hd
      wp_walk using dMul_int (mul_r (i := z) (j := 48017) (by decide)), dMod_int
      exact ⟨_, _, rfl⟩
    · rintro e S' ⟨rfl, z, o, rfl⟩
      wp_walk using wr_ok
      exact h z
theorem cells {l n : Int} (h0 : 0 ≤ l) (hn : 0 ≤ n) (hn2 : n ≤ 64) : ∃ j : Int, (if (if n < l then n else l) > 1 then (if n < l then n else l) else 1) = j ∧ 1 ≤ j ∧ j ≤ 64 := by
  refine ⟨_, rfl, ?_, ?_⟩
  · split <;> omega
  · split <;> (try split) <;> omega
theorem eqD_str (a b : Str) : eqD (.str a) (.str b) = some (decide (a = b)) := rfl
theorem dEq_str (a b : Str) : dEq (.str a) (.str b) = some (.bl (decide (a = b))) := by unfold dEq; rw [eqD_str]; rfl
theorem dNe_str (a b : Str) : dNe (.str a) (.str b) = some (.bl (!decide (a = b))) := by unfold dNe; rw [eqD_str]; rfl
end
end C
namespace C
open PySem G
local macro_rules | `(tactic| wp_walk using $ts,*) => `(tactic| try simp only [wr_ok, wr_exc, wr_lf, wr_eC, evQ_some, wr_eVar, cB2_s, cB1_s, wr_eBin, cS2_s, cS1_s, wr_eBinS, asQ_bl, wr_tB, truQ_s, wr_tT, notQ_s, wr_tNt, anQ_t, anQ_f, wr_tAn, orQ_t, orQ_f, wr_tOr, eaB_t, eaB_f, eaQ_s, wr_eAn, eoB_t, eoB_f, eoQ_s, wr_eOr, enB_s, enQ_s, wr_eNt, eiQ_t, eiQ_f, wr_eIf, negQ_int, wr_eNeg, wr_aNil, cC2_s, cC1_s, wr_aCons, tupQ_s, lstQ_s, newQ_s, wr_eTup, wr_eLst, wr_eNew, caQ_s, wr_eCa, clQ_s, wr_eCall, nAQ_s, wr_nA, tyQ_s, wr_eIsTy, icQ_s, wr_eIsC, mt2_s, mt1_s, wr_eMt, wr_oNone, oQ_int, wr_oSome, sl3_s, sl2_s, sl1_s, wr_eSl, kk2_s, kk1_s, wr_eCallK, kk0_s, wr_eCallK0, wr_gN, sb3_s, sb2_s, sb1_s, wr_gSb, wr_gsNil, gs1_s, wr_gsCons, wr_gTp, wr_gTp_rD, xe_s, sq_nx, sq_rt, sq_bk, sq_ct, sq_ex, sq_xe, ws_nxt, ws_sNop, ws_sSeq, ws_sBrk, ws_sCnt, dropQ_s, ws_sDrop, ws_sRet, ws_sRetN, ifQ_t, ifQ_f, ws_sIf, asg1_s, ws_sAsg, setQ_s, ws_sSet, parQ_s, ws_sPar, ws_sRaise, fn_nx, fn_rt, fn_ex, fn_xe, su_nx, su_bk, su_ct, su_rt, trQ_t, trQ_f, tr_nx, tr_rt, tr_bk, tr_ct, tr_ex, ws_sTry, forQ_s, ws_sFor, lp_nx, lp_rt, lp_bk, lp_ct, lp_ex, lp_xe, ws_fi_nil, bodyQ_s, mid_nx, mid_rt, mid_bk, mid_ct, mid_ex, mid_xe, lc2_s, lc1_s, wr_eLc, lcn2_s, lcn1_s, wr_eLcN, wipe_nil, wipe_cons, wr_tTrue, wr_lc_nil, tgQ_some, ly_s, lt1_t, lt1_f, lg_s, eqQ_s, exQ_s, seqQ_tup, seqQ_lst, seqQ_scr, seqQ_rD, wr_iSeq, rgQ_int, wr_iRg1, rgQ2_int, wr_iRg2, ch3_t, ch3_f, ch2_s, ch1_s, wr_eChain, flQ_s, wr_eFld, fldD_ins, stQ_s, sf2_s, sf1_s, ws_sFldM, mkQ2_s, mkQ1_s, wr_eMk, wr_eMk0, ap2_s, ap1_s, wr_eApp, zpQ_s, wr_iZip, zipR_tup, zipR_lst, srQ_s, wr_iStrM, strR_s, ioQ_s, wr_eIsO, dAddS_int, wr_gStr_tup, wr_gStr_lst, fTuple_lst, fTuple_tup, List.take_succ_cons, List.take_zero, List.drop_succ_cons, List.drop_zero, List.getElem?_cons_zero, List.getElem?_cons_succ, List.set_cons_zero, List.set_cons_succ, List.map_cons, List.map_nil, List.length_cons, List.length_nil, List.cons_append, List.nil_append, List.replicate_succ, List.replicate_zero, List.append_nil, true_and, and_true, and_self, if_true, ite_true, if_false, ite_false, Bool.false_eq_true, Bool.not_true, Bool.not_false, Bool.not_not, decide_true, decide_false, decide_eq_true_eq, not_false_eq_true, not_true_eq_false, reduceCtorEq, sizeLine_eq, Option.map_some, Option.some.injEq, Nat.reduceSub, Nat.reduceAdd, Nat.reduceLeDiff, Nat.reduceEqDiff, Nat.zero_add, Nat.reduceBEq, List.contains_cons, List.contains_nil, beq_self_eq_true, Bool.true_or, Bool.or_true, Bool.false_or, Bool.or_false, List.lookup_cons, List.lookup_nil, Int.reduceEq, Int.reduceNe, Int.reduceLT, Int.reduceLE, Int.reduceNeg, Int.reduceAdd, Int.reduceSub, Int.cast_ofNat_Int, ne_eq, cmpI_s, dGt, dGe, dLt, dLe, dAdd_int, dSub_int, dEq_int, dNe_int, dEq_bl, dNe_bl, truD_bl, isTy_int, isTy_bl, isTy_tup, fLen_tup, fLen_scr, fLen_lst, fAbs_int, fMax_int, fMin_int, ixD_tup, ixD_lst, ixD_scr, isTy_rD, fLen_rD, ix_rD0, ix_rD1, dEq_rD, dNe_rD, dIs_rD, dIsNot_rD, Tn.is, $[$ts:term],*])
noncomputable section
def g_ratio_1_ : List D → List D → List D := fun ds es => [(ds.getD 0 .non), ((.int 1))]
def g_Client___init___2_least_most_weight : List D → List D → List D := fun ds es => [(ds.getD 0 .non), (ds.getD 1 .non), (es.getD 0 .non), (es.getD 1 .non), (es.getD 2 .non)]
def b_is_none (N : Nat) : SM := (sRet (eAn (eCa fAll (aCons (eLc (iSeq (eVar 0)) (.nm 1) tTrue (eCall (m_is_whole N) (nA 1 (aCons (eVar 1) aNil))) [1]) aNil)) (eBin dEq (eVar 0) (eC (.tup [.int 0, .int 1])))))
def m_is_none (N : Nat) : FM := fnM 2 (b_is_none N)
def b_is_least (N : Nat) : SM := (sRet (eOr (eCall (m_is_rate N) (nA 1 (aCons (eVar 0) aNil))) (eAn (eIsTy .tuple (eVar 0)) (eAn (eBin dEq (eCa fLen (aCons (eVar 0) aNil)) (eC (.int 2))) (eCall (m_is_none N) (nA 1 (aCons (eVar 0) aNil)))))))
def m_is_least (N : Nat) : FM := fnM 1 (b_is_least N)
def b_is_name (N : Nat) : SM := (sSeq (sIf (tOr' (tNt (tT (eIsTy .str (eVar 0)))) (tNt (tB (eChain dLe dLe (eC (.int 1)) (eCa fLen (aCons (eVar 0) aNil)) (eC (.int 8)))))) (sRet (eC (.bl false))) sNop)
    (sRet (eCa fAll (aCons (eLc (iStrM (eVar 0)) (.nm 1) tTrue (eBinS (dIn false) (eVar 1) (eC (.str "abcdefghijklmnopqrstuvwxyz"))) [1]) aNil))))
def m_is_name (N : Nat) : FM := fnM 2 (b_is_name N)
def b_is_weight (N : Nat) : SM := (sRet (eAn (eCall (m_is_whole N) (nA 1 (aCons (eVar 0) aNil))) (eChain dLe dLe (eC (.int 1)) (eVar 0) (eC (.int 99)))))
def m_is_weight (N : Nat) : FM := fnM 1 (b_is_weight N)
def b_check_size (N : Nat) : SM := (sIf (tOr' (tNt (tT (eIsTy .int (eVar 0)))) (tOr' (tT (eIsTy .bool (eVar 0))) (tNt (tB (eChain dLe dLe (eC (.int 1)) (eVar 0) (eC (.int 999))))))) (sRaise 11) sNop)
def m_check_size (N : Nat) : FM := fnM 1 (b_check_size N)
def b_are_tags (N : Nat) : SM := (sRet (eAn (eIsTy .tuple (eVar 0)) (eAn (eBin dEq (eCa fLen (aCons (eVar 0) aNil)) (eC (.int 3))) (eCa fAll (aCons (eLc (iSeq (eVar 0)) (.nm 1) tTrue (eCall (m_is_time N) (nA 1 (aCons (eVar 1) aNil))) [1]) aNil)))))
def m_are_tags (N : Nat) : FM := fnM 2 (b_are_tags N)
def b_check_tags (N : Nat) : SM := (sIf (tNt (tT (eCall (m_are_tags N) (nA 1 (aCons (eVar 0) aNil))))) (sRaise 10) sNop)
def m_check_tags (N : Nat) : FM := fnM 1 (b_check_tags N)
def b_raised (N : Nat) : SM := (sRet (eCall (m_added N) (nA 2 (aCons (eCall (m_greater N) (nA 2 (aCons (eVar 0) (aCons (eVar 1) aNil)))) (aCons (eCall (m_parted N) (nA 2 (aCons (eCallK (m_ratio N) g_ratio_1_ 1 0 (aCons (eVar 2) aNil) aNil) (aCons (eVar 3) aNil)))) aNil)))))
def m_raised (N : Nat) : FM := fnM 4 (b_raised N)
def b_gate_behind (N : Nat) : SM := (sSeq (sIf (tB (eBin dIs (eFld [33, 42] 2 (eVar 2)) (eC .non))) (sRet (eVar 0)) sNop)
    (sRet (eCall (m_raised N) (nA 4 (aCons (eVar 0) (aCons (eVar 3) (aCons (eVar 1) (aCons (eFld [33, 42] 2 (eVar 2)) aNil))))))))
def m_gate_behind (N : Nat) : FM := fnM 4 (b_gate_behind N)
def b_moved_by_share (N : Nat) : SM := (sSeq (sAsg (eVar 0) (gTp 3 (gsCons' (gN 5) (gsCons' (gN 6) (gsCons' (gN 7) gsNil)))))
    (sRet (eTup (aCons (eVar 5) (aCons (eCall (m_gate_behind N) (nA 4 (aCons (eVar 6) (aCons (eVar 1) (aCons (eVar 2) (aCons (eVar 3) aNil)))))) (aCons (eCall (m_raised N) (nA 4 (aCons (eVar 7) (aCons (eVar 4) (aCons (eVar 1) (aCons (eCallK (m_ratio N) g_ratio_1_ 1 0 (aCons (eFld [33, 42, 44] 3 (eVar 2)) aNil) aNil) aNil)))))) aNil))))))
def m_moved_by_share (N : Nat) : FM := fnM 8 (b_moved_by_share N)
def oD : Option Rat → D
  | none => .non
  | some q => rD q
def cD (nm : Str) (l : Rat) (o : Option Rat) (h : Int) : D := .ins 33 [(0, .str nm), (1, rD l), (2, oD o), (3, .int h)]
def tD (c g t : Rat) : D := .tup [rD c, rD g, rD t]
structure CliOk (l : Rat) (o : Option Rat) (h : Int) : Prop where
  l0 : 0 ≤ l
  l1 : l ≤ 1
  o1 : ∀ q, o = some q → 0 < q ∧ q ≤ 1 ∧ l ≤ q
  h1 : 1 ≤ h
  h9 : h ≤ 99
def rsd (tag b : Rat) (z : Int) (r : Rat) : Rat := max tag b + (z : Rat) / r
theorem max_le {n : Nat} : Nat.max n n = n := Nat.max_self n
def gateB (o : Option Rat) (g : Rat) (z : Int) (b : Rat) : Rat := match o with
  | none => g
  | some r => rsd g b z r
end
end C
namespace C
open PySem G
local macro_rules | `(tactic| wp_walk using $ts,*) => `(tactic| try simp only [wr_ok, wr_exc, wr_lf, wr_eC, evQ_some, wr_eVar, cB2_s, cB1_s, wr_eBin, cS2_s, cS1_s, wr_eBinS, asQ_bl, wr_tB, truQ_s, wr_tT, notQ_s, wr_tNt, anQ_t, anQ_f, wr_tAn, orQ_t, orQ_f, wr_tOr, eaB_t, eaB_f, eaQ_s, wr_eAn, eoB_t, eoB_f, eoQ_s, wr_eOr, enB_s, enQ_s, wr_eNt, eiQ_t, eiQ_f, wr_eIf, negQ_int, wr_eNeg, wr_aNil, cC2_s, cC1_s, wr_aCons, tupQ_s, lstQ_s, newQ_s, wr_eTup, wr_eLst, wr_eNew, caQ_s, wr_eCa, clQ_s, wr_eCall, nAQ_s, wr_nA, tyQ_s, wr_eIsTy, icQ_s, wr_eIsC, mt2_s, mt1_s, wr_eMt, wr_oNone, oQ_int, wr_oSome, sl3_s, sl2_s, sl1_s, wr_eSl, kk2_s, kk1_s, wr_eCallK, kk0_s, wr_eCallK0, wr_gN, sb3_s, sb2_s, sb1_s, wr_gSb, wr_gsNil, gs1_s, wr_gsCons, wr_gTp, wr_gTp_rD, xe_s, sq_nx, sq_rt, sq_bk, sq_ct, sq_ex, sq_xe, ws_nxt, ws_sNop, ws_sSeq, ws_sBrk, ws_sCnt, dropQ_s, ws_sDrop, ws_sRet, ws_sRetN, ifQ_t, ifQ_f, ws_sIf, asg1_s, ws_sAsg, setQ_s, ws_sSet, parQ_s, ws_sPar, ws_sRaise, fn_nx, fn_rt, fn_ex, fn_xe, su_nx, su_bk, su_ct, su_rt, trQ_t, trQ_f, tr_nx, tr_rt, tr_bk, tr_ct, tr_ex, ws_sTry, forQ_s, ws_sFor, lp_nx, lp_rt, lp_bk, lp_ct, lp_ex, lp_xe, ws_fi_nil, bodyQ_s, mid_nx, mid_rt, mid_bk, mid_ct, mid_ex, mid_xe, lc2_s, lc1_s, wr_eLc, lcn2_s, lcn1_s, wr_eLcN, wipe_nil, wipe_cons, wr_tTrue, wr_lc_nil, tgQ_some, ly_s, lt1_t, lt1_f, lg_s, eqQ_s, exQ_s, seqQ_tup, seqQ_lst, seqQ_scr, seqQ_rD, wr_iSeq, rgQ_int, wr_iRg1, rgQ2_int, wr_iRg2, ch3_t, ch3_f, ch2_s, ch1_s, wr_eChain, flQ_s, wr_eFld, fldD_ins, stQ_s, sf2_s, sf1_s, ws_sFldM, mkQ2_s, mkQ1_s, wr_eMk, wr_eMk0, ap2_s, ap1_s, wr_eApp, zpQ_s, wr_iZip, zipR_tup, zipR_lst, srQ_s, wr_iStrM, strR_s, ioQ_s, wr_eIsO, dAddS_int, wr_gStr_tup, wr_gStr_lst, fTuple_lst, fTuple_tup, List.take_succ_cons, List.take_zero, List.drop_succ_cons, List.drop_zero, List.getElem?_cons_zero, List.getElem?_cons_succ, List.set_cons_zero, List.set_cons_succ, List.map_cons, List.map_nil, List.length_cons, List.length_nil, List.cons_append, List.nil_append, List.replicate_succ, List.replicate_zero, List.append_nil, true_and, and_true, and_self, if_true, ite_true, if_false, ite_false, Bool.false_eq_true, Bool.not_true, Bool.not_false, Bool.not_not, decide_true, decide_false, decide_eq_true_eq, not_false_eq_true, not_true_eq_false, reduceCtorEq, sizeLine_eq, Option.map_some, Option.some.injEq, Nat.reduceSub, Nat.reduceAdd, Nat.reduceLeDiff, Nat.reduceEqDiff, Nat.zero_add, Nat.reduceBEq, List.contains_cons, List.contains_nil, beq_self_eq_true, Bool.true_or, Bool.or_true, Bool.false_or, Bool.or_false, List.lookup_cons, List.lookup_nil, Int.reduceEq, Int.reduceNe, Int.reduceLT, Int.reduceLE, Int.reduceNeg, Int.reduceAdd, Int.reduceSub, Int.cast_ofNat_Int, ne_eq, cmpI_s, dGt, dGe, dLt, dLe, dAdd_int, dSub_int, dEq_int, dNe_int, dEq_bl, dNe_bl, truD_bl, isTy_int, isTy_bl, isTy_tup, fLen_tup, fLen_scr, fLen_lst, fAbs_int, fMax_int, fMin_int, ixD_tup, ixD_lst, ixD_scr, isTy_rD, fLen_rD, ix_rD0, ix_rD1, dEq_rD, dNe_rD, dIs_rD, dIsNot_rD, Tn.is, $[$ts:term],*])
noncomputable section
def b_due_of (N : Nat) : SM := (sRet (eCall (m_added N) (nA 2 (aCons (eBinS ixD (eVar 0) (eC (.int 0))) (aCons (eCall (m_parted N) (nA 2 (aCons (eCallK (m_ratio N) g_ratio_1_ 1 0 (aCons (eVar 1) aNil) aNil) (aCons (eFld [33, 42] 1 (eVar 2)) aNil)))) aNil)))))
def m_due_of (N : Nat) : FM := fnM 3 (b_due_of N)
def b_moved_by_least (N : Nat) : SM := (sSeq (sAsg (eVar 0) (gTp 3 (gsCons' (gN 4) (gsCons' (gN 5) (gsCons' (gN 6) gsNil)))))
    (sRet (eTup (aCons (eCall (m_due_of N) (nA 3 (aCons (eVar 0) (aCons (eVar 1) (aCons (eVar 2) aNil))))) (aCons (eCall (m_gate_behind N) (nA 4 (aCons (eVar 5) (aCons (eVar 1) (aCons (eVar 2) (aCons (eVar 3) aNil)))))) (aCons (eVar 6) aNil))))))
def m_moved_by_least (N : Nat) : FM := fnM 7 (b_moved_by_least N)
def b_lifted (N : Nat) : SM := (sSeq (sDrop (eCall (m_check_tags N) (nA 1 (aCons (eVar 0) aNil))))
    (sSeq (sDrop (eCall (m_check_time N) (nA 1 (aCons (eVar 1) aNil))))
    (sSeq (sAsg (eVar 0) (gStr 1 (gsCons' (gN 2) (gsCons' (gN 3) gsNil))))
    (sRet (eBinS dAddS (eTup (aCons (eCall (m_greater N) (nA 2 (aCons (eVar 2) (aCons (eVar 1) aNil)))) aNil)) (eCa fTuple (aCons (eVar 3) aNil)))))))
def m_lifted (N : Nat) : FM := fnM 4 (b_lifted N)
def b__law_ratio (N : Nat) : SM := (sSeq (sSet 1 (eCall (m__law_take N) (nA 2 (aCons (eVar 0) (aCons (eC (.int 5)) aNil)))))
    (sSeq (sIf (tB (eBin dEq (eVar 1) (eC (.int 0)))) (sRet (eTup (aCons (eC (.int 0)) (aCons (eC (.int 1)) aNil)))) sNop)
    (sSeq (sIf (tB (eBin dLt (eVar 1) (eC (.int 4)))) (sRet (eCall (m__law_r N) (nA 2 (aCons (eCall (m__law_take N) (nA 2 (aCons (eVar 0) (aCons (eC (.int 60)) aNil)))) (aCons (eBinS dAddS (eC (.int 1)) (eCall (m__law_take N) (nA 2 (aCons (eVar 0) (aCons (eC (.int 12)) aNil))))) aNil))))) sNop)
    (sRet (eCall (m__law_r N) (nA 2 (aCons (eCall (m__law_take N) (nA 2 (aCons (eVar 0) (aCons (eBin dPow (eC (.int 10)) (eC (.int 12))) aNil)))) (aCons (eBinS dAddS (eC (.int 1)) (eCall (m__law_take N) (nA 2 (aCons (eVar 0) (aCons (eBin dPow (eC (.int 10)) (eC (.int 9))) aNil))))) aNil))))))))
def m__law_ratio (N : Nat) : FM := fnM 2 (b__law_ratio N)
def dueB (c : Rat) (z : Int) (l : Rat) : Rat := c + (z : Rat) / l
end
end C
namespace G
open PySem
section
variable {Q X : QP D} {QB : QP Bool} {QL : QP (List D)} {QE : QP En} {k : KS} {e : En} {S S1 : Store} {a b c o : EM} {t u : TM} {m n : SM} {am mk : AM} {x y d : D} {z : Bool} {xs ds zs : List D}
def me3 (f : FM) (gD : List D → List D → List D) (n l : Nat) (x : D) (ds : List D) (Q X : QP D) : QP (List D) := fun zs S => (ds.length = n ∧ zs.length = l) ∧ Wr (f (gD (x :: ds) zs) S) Q X
def me2 (f : FM) (gD : List D → List D → List D) (n l : Nat) (x : D) (mk : AM) (e : En) (Q X : QP D) : QP (List D) := fun ds S => Wr (mk e S) (me3 f gD n l x ds Q X) X
def me1 (cn : Nat) (f : FM) (gD : List D → List D → List D) (n l : Nat) (am mk : AM) (e : En) (Q X : QP D) : QP D := fun x S => isCn cn S x = true ∧ Wr (am e S) (me2 f gD n l x mk e Q X) X
theorem me3_s (f : FM) (gD : List D → List D → List D) (n l : Nat) : me3 f gD n l x ds Q X zs S = ((ds.length = n ∧ zs.length = l) ∧ Wr (f (gD (x :: ds) zs) S) Q X) := rfl
theorem me2_s (f : FM) (gD : List D → List D → List D) (n l : Nat) : me2 f gD n l x mk e Q X ds S = Wr (mk e S) (me3 f gD n l x ds Q X) X := rfl
theorem me1_s (cn : Nat) (f : FM) (gD : List D → List D → List D) (n l : Nat) : me1 cn f gD n l am mk e Q X x S = (isCn cn S x = true ∧ Wr (am e S) (me2 f gD n l x mk e Q X) X) := rfl
theorem wr_eMeth (cn : Nat) (f : FM) (gD : List D → List D → List D) (n l : Nat) : Wr (eMeth cn f gD n l o am mk e S) Q X = Wr (o e S) (me1 cn f gD n l am mk e Q X) X := by
  unfold eMeth; rw [wr_bind]; congr; funext x S1; rw [wr_guard, me1_s, wr_bind]; congr; funext ds S2; rw [wr_bind, me2_s]; congr; funext zs S3; rw [wr_guard]; rfl
def mk2 (f : FM) (gD : List D → List D → List D) (l : Nat) (x : D) (Q X : QP D) : QP (List D) := fun zs S => zs.length = l ∧ Wr (f (gD [x] zs) S) Q X
def mk1 (cn : Nat) (f : FM) (gD : List D → List D → List D) (l : Nat) (mk : AM) (e : En) (Q X : QP D) : QP D := fun x S => isCn cn S x = true ∧ Wr (mk e S) (mk2 f gD l x Q X) X
theorem mk2_s (f : FM) (gD : List D → List D → List D) (l : Nat) : mk2 f gD l x Q X zs S = (zs.length = l ∧ Wr (f (gD [x] zs) S) Q X) := rfl
theorem mk1_s (cn : Nat) (f : FM) (gD : List D → List D → List D) (l : Nat) : mk1 cn f gD l mk e Q X x S = (isCn cn S x = true ∧ Wr (mk e S) (mk2 f gD l x Q X) X) := rfl
theorem wr_eMethK (cn : Nat) (f : FM) (gD : List D → List D → List D) (l : Nat) : Wr (eMethK cn f gD l o mk e S) Q X = Wr (o e S) (mk1 cn f gD l mk e Q X) X := by
  unfold eMethK; rw [wr_bind]; congr; funext x S1; rw [wr_guard, mk1_s, wr_bind]; congr; funext zs S3; rw [wr_guard]; rfl
def m01 (cn : Nat) (f : FM) (gD : List D → List D → List D) (Q X : QP D) : QP D := fun x S => isCn cn S x = true ∧ Wr (f (gD [x] []) S) Q X
theorem m01_s (cn : Nat) (f : FM) (gD : List D → List D → List D) : m01 cn f gD Q X x S = (isCn cn S x = true ∧ Wr (f (gD [x] []) S) Q X) := rfl
theorem wr_eMeth0 (cn : Nat) (f : FM) (gD : List D → List D → List D) : Wr (eMeth0 cn f gD o e S) Q X = Wr (o e S) (m01 cn f gD Q X) X := by
  unfold eMeth0; rw [wr_bind]; congr; funext x S1; rw [wr_guard]; rfl
theorem wr_eNewD : Wr (eNewD e S) Q X = Q (.loc S.length) (S ++ [.dk []]) := rfl
def dg3 (x y : D) (Q X : QP D) : QP D := fun z S => Wr (dgR S x y z) Q X
def dg2 (c : EM) (e : En) (x : D) (Q X : QP D) : QP D := fun y S => Wr (c e S) (dg3 x y Q X) X
def dg1 (b c : EM) (e : En) (Q X : QP D) : QP D := fun x S => (dkD S x).isSome = true ∧ Wr (b e S) (dg2 c e x Q X) X
theorem dg3_s (z : D) : dg3 x y Q X z S = Wr (dgR S x y z) Q X := rfl
theorem dg2_s : dg2 c e x Q X y S = Wr (c e S) (dg3 x y Q X) X := rfl
theorem dg1_s : dg1 b c e Q X x S = ((dkD S x).isSome = true ∧ Wr (b e S) (dg2 c e x Q X) X) := rfl
theorem wr_eDGet2 : Wr (eDGet2 a b c e S) Q X = Wr (a e S) (dg1 b c e Q X) X := by
  unfold eDGet2; rw [wr_bind]; congr; funext x S1; rw [wr_guard, dg1_s, wr_bind]; congr; funext y S2; rw [wr_bind]; rfl
def dh2 (x : D) (Q X : QP D) : QP D := fun y S => Wr (dgR S x y .non) Q X
def dh1 (b : EM) (e : En) (Q X : QP D) : QP D := fun x S => (dkD S x).isSome = true ∧ Wr (b e S) (dh2 x Q X) X
theorem dh2_s : dh2 x Q X y S = Wr (dgR S x y .non) Q X := rfl
theorem dh1_s : dh1 b e Q X x S = ((dkD S x).isSome = true ∧ Wr (b e S) (dh2 x Q X) X) := rfl
theorem wr_eDGet1 : Wr (eDGet1 a b e S) Q X = Wr (a e S) (dh1 b e Q X) X := by
  unfold eDGet1; rw [wr_bind]; congr; funext x S1; rw [wr_guard, dh1_s, wr_bind]; rfl
def dp3 (x y : D) (Q X : QP D) : QP D := fun z S => Wr (dpR S x y (some z)) Q X
def dp2 (c : EM) (e : En) (x : D) (Q X : QP D) : QP D := fun y S => Wr (c e S) (dp3 x y Q X) X
def dp1 (b c : EM) (e : En) (Q X : QP D) : QP D := fun x S => (dkD S x).isSome = true ∧ Wr (b e S) (dp2 c e x Q X) X
theorem dp3_s (z : D) : dp3 x y Q X z S = Wr (dpR S x y (some z)) Q X := rfl
theorem dp2_s : dp2 c e x Q X y S = Wr (c e S) (dp3 x y Q X) X := rfl
theorem dp1_s : dp1 b c e Q X x S = ((dkD S x).isSome = true ∧ Wr (b e S) (dp2 c e x Q X) X) := rfl
theorem wr_eDPop2 : Wr (eDPop2 a b c e S) Q X = Wr (a e S) (dp1 b c e Q X) X := by
  unfold eDPop2; rw [wr_bind]; congr; funext x S1; rw [wr_guard, dp1_s, wr_bind]; congr; funext y S2; rw [wr_bind]; rfl
def dq2 (x : D) (Q X : QP D) : QP D := fun y S => Wr (dpR S x y none) Q X
def dq1 (b : EM) (e : En) (Q X : QP D) : QP D := fun x S => (dkD S x).isSome = true ∧ Wr (b e S) (dq2 x Q X) X
theorem dq2_s : dq2 x Q X y S = Wr (dpR S x y none) Q X := rfl
theorem dq1_s : dq1 b e Q X x S = ((dkD S x).isSome = true ∧ Wr (b e S) (dq2 x Q X) X) := rfl
theorem wr_eDPop1 : Wr (eDPop1 a b e S) Q X = Wr (a e S) (dq1 b e Q X) X := by
  unfold eDPop1; rw [wr_bind]; congr; funext x S1; rw [wr_guard, dq1_s, wr_bind]; rfl
def se2 (d x : D) (e : En) (Q : QP En) : QP D := fun y S => sb3 e Q (setE S x y d)
def se1 (d : D) (i : EM) (e : En) (Q : QP En) : QP D := fun x S => Wr (i e S) (se2 d x e Q) nX
theorem se2_s : se2 d x e QE y S = sb3 e QE (setE S x y d) := rfl
theorem se1_s (i : EM) : se1 d i e QE x S = Wr (i e S) (se2 d x e QE) nX := rfl
theorem wr_gSbE (o i : EM) : Wr (gSbE o i d e S) QE X = Wr (o e S) (se1 d i e QE) nX := by
  unfold gSbE; rw [wr_bind, wr_noX]; congr; funext x S1; rw [wr_bind, wr_noX, se1_s]; congr; funext y S2; rw [se2_s]; cases h : setE S2 x y d <;> rfl
theorem keyD_int (i : Int) : keyD (.int i) = some (.inl i) := rfl
theorem keyD_str (s : Str) : keyD (.str s) = some (.inr s) := rfl
def ssQ (Q X : QP D) : QP D := fun x S => Wr (lf (ssD S x) S) Q X
theorem ssQ_s : ssQ Q X x S = Wr (lf (ssD S x) S) Q X := rfl
theorem wr_eSortSet : Wr (eSortSet a e S) Q X = Wr (a e S) (ssQ Q X) X := by unfold eSortSet; rw [wr_bind]; rfl
def an2 (x : D) (Q X : QP D) : QP D := fun y S => Wr (addN S x y) Q X
def an1 (b : EM) (e : En) (Q X : QP D) : QP D := fun x S => Wr (b e S) (an2 x Q X) X
theorem an2_s : an2 x Q X y S = Wr (addN S x y) Q X := rfl
theorem an1_s : an1 b e Q X x S = Wr (b e S) (an2 x Q X) X := rfl
theorem wr_eAddN : Wr (eAddN a b e S) Q X = Wr (a e S) (an1 b e Q X) X := by unfold eAddN; rw [wr_bind]; congr; funext x S1; rw [wr_bind]; rfl
abbrev QC := List D × Option Nat → Store → Prop
variable {QQ : QC}
def celQ (Q : QC) : QP D := fun x S => match x with
  | .tup l => Q (l, none) S
  | .lst l => Q (l, none) S
  | .scr l => Q (l, none) S
  | .loc n => match S[n]? with
    | some (.lst l) => Q (l, some n) S
    | _ => False
  | _ => False
theorem celQ_tup (l : List D) : celQ QQ (.tup l) S = QQ (l, none) S := rfl
theorem celQ_lst (l : List D) : celQ QQ (.lst l) S = QQ (l, none) S := rfl
theorem celQ_scr (l : List D) : celQ QQ (.scr l) S = QQ (l, none) S := rfl
theorem wr_iCel : Wr (iCel a e S) QQ X = Wr (a e S) (celQ QQ) X := by
  unfold iCel; rw [wr_bind]; congr; funext x S1
  cases x with
  | loc n =>
    show Wr (match S1[n]? with
      | some (.lst l) => .ok (l, some n) S1
      | _ => .stuck) _ _ = celQ QQ (.loc n) S1
    unfold celQ
    dsimp only
    cases S1[n]? with
    | none => rfl
    | some q => cases q <;> rfl
  | _ => rfl
def forcQ (g : GM) (m : SM) (e : En) (k : KS) : QC := fun p S => Ws (fiC (okC p) g m p.1 e S) k
theorem forcQ_s (g : GM) (p : List D × Option Nat) : forcQ g m e k p S = Ws (fiC (okC p) g m p.1 e S) k := rfl
theorem ws_sForC (i : CM) (g : GM) : Ws (sForC i g m e S) k = Wr (i e S) (forcQ g m e k) (k.xe e) := ws_sE
def lcc1 (g : Tg) (t : TM) (a : EM) (e : En) (Q X : QP D) : QC := fun p S => Wr (lcC (okC p) g t a e p.1 [] S) (lc2 Q) X
theorem lcc1_s (g : Tg) (p : List D × Option Nat) : lcc1 g t a e Q X p S = Wr (lcC (okC p) g t a e p.1 [] S) (lc2 Q) X := rfl
theorem wr_eLcC (i : CM) (g : Tg) (vs : List Nat) : Wr (eLcC i g t a vs e S) Q X = Wr (i e S) (lcc1 g t a (wipeE e vs) Q X) X := by
  unfold eLcC; rw [wr_bind]; congr; funext p S1; rw [wr_bind]; rfl
def lcd1 (g : Tg) (t : TM) (a : EM) (e : En) (Q X : QP D) : QC := fun p S => Wr (lcC (okC p) g t a e p.1 [] S) (lcn2 Q) X
theorem lcd1_s (g : Tg) (p : List D × Option Nat) : lcd1 g t a e Q X p S = Wr (lcC (okC p) g t a e p.1 [] S) (lcn2 Q) X := rfl
theorem wr_eLcCN (i : CM) (g : Tg) (vs : List Nat) : Wr (eLcCN i g t a vs e S) Q X = Wr (i e S) (lcd1 g t a (wipeE e vs) Q X) X := by
  unfold eLcCN; rw [wr_bind]; congr; funext p S1; rw [wr_bind]; rfl
end
end G
namespace C
open PySem G
local macro_rules | `(tactic| wp_walk using $ts,*) => `(tactic| try simp only [wr_ok, wr_exc, wr_lf, wr_eC, evQ_some, wr_eVar, cB2_s, cB1_s, wr_eBin, cS2_s, cS1_s, wr_eBinS, asQ_bl, wr_tB, truQ_s, wr_tT, notQ_s, wr_tNt, anQ_t, anQ_f, wr_tAn, orQ_t, orQ_f, wr_tOr, eaB_t, eaB_f, eaQ_s, wr_eAn, eoB_t, eoB_f, eoQ_s, wr_eOr, enB_s, enQ_s, wr_eNt, eiQ_t, eiQ_f, wr_eIf, negQ_int, wr_eNeg, wr_aNil, cC2_s, cC1_s, wr_aCons, tupQ_s, lstQ_s, newQ_s, wr_eTup, wr_eLst, wr_eNew, caQ_s, wr_eCa, clQ_s, wr_eCall, nAQ_s, wr_nA, tyQ_s, wr_eIsTy, icQ_s, wr_eIsC, mt2_s, mt1_s, wr_eMt, wr_oNone, oQ_int, wr_oSome, sl3_s, sl2_s, sl1_s, wr_eSl, kk2_s, kk1_s, wr_eCallK, kk0_s, wr_eCallK0, wr_gN, sb3_s, sb2_s, sb1_s, wr_gSb, wr_gsNil, gs1_s, wr_gsCons, wr_gTp, wr_gTp_rD, xe_s, sq_nx, sq_rt, sq_bk, sq_ct, sq_ex, sq_xe, ws_nxt, ws_sNop, ws_sSeq, ws_sBrk, ws_sCnt, dropQ_s, ws_sDrop, ws_sRet, ws_sRetN, ifQ_t, ifQ_f, ws_sIf, asg1_s, ws_sAsg, setQ_s, ws_sSet, parQ_s, ws_sPar, ws_sRaise, fn_nx, fn_rt, fn_ex, fn_xe, su_nx, su_bk, su_ct, su_rt, trQ_t, trQ_f, tr_nx, tr_rt, tr_bk, tr_ct, tr_ex, ws_sTry, forQ_s, ws_sFor, lp_nx, lp_rt, lp_bk, lp_ct, lp_ex, lp_xe, ws_fi_nil, bodyQ_s, mid_nx, mid_rt, mid_bk, mid_ct, mid_ex, mid_xe, lc2_s, lc1_s, wr_eLc, lcn2_s, lcn1_s, wr_eLcN, wipe_nil, wipe_cons, wr_tTrue, wr_lc_nil, tgQ_some, ly_s, lt1_t, lt1_f, lg_s, eqQ_s, exQ_s, seqQ_tup, seqQ_lst, seqQ_scr, seqQ_rD, wr_iSeq, rgQ_int, wr_iRg1, rgQ2_int, wr_iRg2, ch3_t, ch3_f, ch2_s, ch1_s, wr_eChain, flQ_s, wr_eFld, fldD_ins, stQ_s, sf2_s, sf1_s, ws_sFldM, mkQ2_s, mkQ1_s, wr_eMk, wr_eMk0, ap2_s, ap1_s, wr_eApp, zpQ_s, wr_iZip, zipR_tup, zipR_lst, srQ_s, wr_iStrM, strR_s, ioQ_s, wr_eIsO, dAddS_int, wr_gStr_tup, wr_gStr_lst, fTuple_lst, fTuple_tup, List.take_succ_cons, List.take_zero, List.drop_succ_cons, List.drop_zero, List.getElem?_cons_zero, List.getElem?_cons_succ, List.set_cons_zero, List.set_cons_succ, List.map_cons, List.map_nil, List.length_cons, List.length_nil, List.cons_append, List.nil_append, List.replicate_succ, List.replicate_zero, List.append_nil, true_and, and_true, and_self, if_true, ite_true, if_false, ite_false, Bool.false_eq_true, Bool.not_true, Bool.not_false, Bool.not_not, decide_true, decide_false, decide_eq_true_eq, not_false_eq_true, not_true_eq_false, reduceCtorEq, sizeLine_eq, Option.map_some, Option.some.injEq, Nat.reduceSub, Nat.reduceAdd, Nat.reduceLeDiff, Nat.reduceEqDiff, Nat.zero_add, Nat.reduceBEq, List.contains_cons, List.contains_nil, beq_self_eq_true, Bool.true_or, Bool.or_true, Bool.false_or, Bool.or_false, List.lookup_cons, List.lookup_nil, Int.reduceEq, Int.reduceNe, Int.reduceLT, Int.reduceLE, Int.reduceNeg, Int.reduceAdd, Int.reduceSub, Int.cast_ofNat_Int, ne_eq, cmpI_s, dGt, dGe, dLt, dLe, dAdd_int, dSub_int, dEq_int, dNe_int, dEq_bl, dNe_bl, truD_bl, isTy_int, isTy_bl, isTy_tup, fLen_tup, fLen_scr, fLen_lst, fAbs_int, fMax_int, fMin_int, ixD_tup, ixD_lst, ixD_scr, isTy_rD, fLen_rD, ix_rD0, ix_rD1, dEq_rD, dNe_rD, dIs_rD, dIsNot_rD, Tn.is, me3_s, me2_s, me1_s, wr_eMeth, mk2_s, mk1_s, wr_eMethK, m01_s, wr_eMeth0, wr_eNewD, dg3_s, dg2_s, dg1_s, wr_eDGet2, dh2_s, dh1_s, wr_eDGet1, dp3_s, dp2_s, dp1_s, wr_eDPop2, dq2_s, dq1_s, wr_eDPop1, se2_s, se1_s, wr_gSbE, ssQ_s, wr_eSortSet, an2_s, an1_s, wr_eAddN, celQ_tup, celQ_lst, celQ_scr, wr_iCel, forcQ_s, ws_sForC, lcc1_s, wr_eLcC, lcd1_s, wr_eLcCN, keyD_int, keyD_str, Option.isSome_some, $[$ts:term],*])
noncomputable section
def g_Bookings_book_4_ : List D → List D → List D := fun ds es => [(ds.getD 0 .non), (ds.getD 1 .non), (ds.getD 2 .non), (ds.getD 3 .non)]
def b_check_number (N : Nat) : SM := (sIf (tOr' (tNt (tT (eIsTy .int (eVar 0)))) (tOr' (tT (eIsTy .bool (eVar 0))) (tB (eBin dLt (eVar 0) (eC (.int 0)))))) (sRaise 8) sNop)
def m_check_number (N : Nat) : FM := fnM 1 (b_check_number N)
def b_at_time (N : Nat) : SM := (sSeq (sSet 2 (eC (.tup [.int 0, .int 1])))
    (sSeq (sForC (iCel (eVar 0)) (gTp 2 (gsCons' (gN 3) (gsCons' (gN 4) gsNil))) (sIf (tNt (tT (eCall (C.m_is_before N) (nA 2 (aCons (eVar 1) (aCons (eVar 3) aNil)))))) (sSet 2 (eVar 4)) sNop))
    (sRet (eVar 2))))
def m_at_time (N : Nat) : FM := fnM 5 (b_at_time N)
def rowD (p : Rat × Rat) : D := .tup [rD p.1, rD p.2]
def atT (l : List (Rat × Rat)) (t : Rat) : Rat := l.foldl (fun f p => if t < p.1 then f else p.2) 0
def lastR (l : List (Rat × Rat)) : Rat := match l.getLast? with
  | some p => p.2
  | none => 0
def lowL (l : List (Rat × Rat)) (s : Rat) : List (Rat × Rat) := l.filter fun p => decide (p.1 < s)
def bookL (l : List (Rat × Rat)) (s r : Rat) : List (Rat × Rat) := if lastR (lowL l s) = r then lowL l s else lowL l s ++ [(s, r)]
structure Bk (S : Store) (n : Nat) (f : Int → List (Rat × Rat)) (c : Nat) : Prop where
  ex : ∃ n1 kvs, S[n]? = some (.obj 34 [(9, .loc n1)]) ∧ S[n1]? = some (.dk kvs) ∧ kvs.length ≤ c ∧ ∀ i : Int, (valD kvs (.inl i) = none ∧ f i = []) ∨ ∃ j, valD kvs (.inl i) = some (.loc j) ∧ S[j]? = some (.lst ((f i).map rowD))
  bt : ∀ i p, p ∈ f i → Bt p.1 64 ∧ Bt p.2 64
  len : ∀ i, (f i).length ≤ c
theorem rowD_pool {l : List (Rat × Rat)} {a b c : Int} (h : l.map rowD = [.int a, .int b, .int c]) : False := by
  cases l with
  | nil => simp at h
  | cons p l => simp [rowD] at h
theorem Bk.fr {S S' : Store} {n p c : Nat} {f : Int → List (Rat × Rat)} (h : Bk S n f c) (P : Pool S p) (F : Fr p S S') : Bk S' n f c := by
  obtain ⟨⟨n1, kvs, h1, h2, h3, h4⟩, h5, h6⟩ := h
  obtain ⟨x, y, z, hP, _⟩ := P
  have get : ∀ {i : Nat} {c : Cell}, S[i]? = some c → c ≠ .lst [.int x, .int y, .int z] → S'[i]? = some c := fun {i c} hi hc => by
    rw [F.2 i (List.getElem?_eq_some_iff.mp hi).1 fun e => hc (by rw [e, hP] at hi; exact (Option.some.inj hi).symm)]
    exact hi
  refine ⟨⟨n1, kvs, get h1 (by simp), get h2 (by simp), h3, fun i => (h4 i).imp id fun ⟨j, a, b⟩ => ⟨j, a, get b fun e => ?_⟩⟩, h5, h6⟩
  injection e with e
  exact rowD_pool e
theorem Bk.app {S : Store} {n c : Nat} {f : Int → List (Rat × Rat)} (h : Bk S n f c) (d : List Cell) : Bk (S ++ d) n f c := by
  obtain ⟨⟨n1, kvs, h1, h2, h3, h4⟩, h5, h6⟩ := h
  have get : ∀ {i : Nat} {c : Cell}, S[i]? = some c → (S ++ d)[i]? = some c := fun {i c} hi => by
    rw [List.getElem?_append_left (List.getElem?_eq_some_iff.mp hi).1]; exact hi
  exact ⟨⟨n1, kvs, get h1, get h2, h3, fun i => (h4 i).imp id fun ⟨j, a, b⟩ => ⟨j, a, get b⟩⟩, h5, h6⟩
abbrev Rw := Int × Rat × Rat
def lawT (l : List Rw) (i : Int) (t : Rat) : Rat := l.foldl (fun f p => if p.1 = i ∧ ¬ t < p.2.1 then p.2.2 else f) 0
theorem lawT_snoc (l : List Rw) (p : Rw) (i : Int) (t : Rat) : lawT (l ++ [p]) i t = if p.1 = i ∧ ¬ t < p.2.1 then p.2.2 else lawT l i t := by
  unfold lawT; rw [List.foldl_append]; rfl
end
end C
namespace G
open PySem
section
variable {Q X : QP D} {e : En} {S S1 : Store} {a b c o : EM} {ms : List EM} {x y d : D}
def fmQ (Q X : QP D) : QP D := fun x S => Wr (lf (fmtD x) S) Q X
theorem fmQ_s : fmQ Q X x S = Wr (lf (fmtD x) S) Q X := rfl
theorem wr_eFmt : Wr (eFmt a e S) Q X = Wr (a e S) (fmQ Q X) X := by
  unfold eFmt; rw [wr_bind]; rfl
def jsQ (ms : List EM) (acc : Str) (e : En) (Q X : QP D) : QP D := fun x S => match x with
  | .str y => (acc ++ y).length ≤ sizeLine ∧ Wr (jsM ms (acc ++ y) e S) Q X
  | _ => False
theorem jsQ_str (acc y : Str) : jsQ ms acc e Q X (.str y) S = ((acc ++ y).length ≤ sizeLine ∧ Wr (jsM ms (acc ++ y) e S) Q X) := rfl
theorem wr_js_nil (acc : Str) : Wr (jsM [] acc e S) Q X = Q (.str acc) S := rfl
theorem wr_js_cons (acc : Str) : Wr (jsM (a :: ms) acc e S) Q X = Wr (a e S) (jsQ ms acc e Q X) X := by
  unfold jsM; rw [wr_bind]; congr; funext x S1
  cases x with
  | str y => show Wr (if _ then _ else _) _ _ = _; rw [wr_guard]; rfl
  | _ => rfl
theorem wr_eJs : Wr (eJs ms e S) Q X = Wr (jsM ms Str.empty e S) Q X := rfl
def s4Q (Q : QP D) : QP D := fun y S => match y with
  | .str t => Q (.str t) S
  | _ => False
theorem s4Q_str (t : Str) : s4Q Q (.str t) S = Q (.str t) S := rfl
theorem wr_strOf {r : Res D} : Wr (strOf r) Q X = Wr r (s4Q Q) X := by
  unfold strOf; rw [wr_bind]; congr; funext y S1; cases y <;> rfl
def soQ (cn : Nat) (f : FM) (gD : List D → List D → List D) (Q X : QP D) : QP D := fun x S => isCn cn S x = true ∧ Wr (f (gD [x] []) S) (s4Q Q) X
theorem soQ_s (cn : Nat) (f : FM) (gD : List D → List D → List D) : soQ cn f gD Q X x S = (isCn cn S x = true ∧ Wr (f (gD [x] []) S) (s4Q Q) X) := rfl
theorem wr_eStrO (cn : Nat) (f : FM) (gD : List D → List D → List D) : Wr (eStrO cn f gD a e S) Q X = Wr (a e S) (soQ cn f gD Q X) X := by
  unfold eStrO aCons aNil
  rw [wr_bind, wr_bind]
  congr; funext x S1
  show Wr (if isCn cn S1 x = true then strOf (f (gD [x] []) S1) else .stuck) Q X = _
  rw [wr_guard, wr_strOf]; rfl
theorem dAddE_0 (m : List D) : dAddE S (.tup []) (.tup m) = some (.tup m) := rfl
end
end G
namespace G
open PySem
section
variable {Q X : QP D} {QB : QP Bool} {QL : QP (List D)} {QE : QP En} {k : KS} {e : En} {S S1 : Store} {a b c o : EM} {t u : TM} {m n : SM} {am mk : AM} {x y d : D} {z : Bool} {xs ds zs : List D}
theorem wr_eCallV (i f nN : Nat) (cp : List (Option D)) (fk : FM) : Wr (eCallV i f nN cp fk am e S) Q X = ((e[i]? = some (some (.fa f)) ∧ e.drop nN = cp) ∧ Wr (am e S) (clQ fk Q X) X) := by
  unfold eCallV; split
  · rename_i h; simp only [h, wr_bind, and_self, true_and]; rfl
  · rename_i h; simp only [h, false_and]; rfl
theorem wr_fnH (i : Nat) (cp : List (Option D)) (ds : List D) : Wr (fnH i cp m ds S) Q X = Ws (m (ds.map some ++ List.replicate (i - ds.length) none ++ cp) S) (KS.fn Q X) := by
  unfold fnH
  show _ = Ws (m (enOf i ds ++ cp) S) _
  cases m (enOf i ds ++ cp) S <;> rfl
def chQ (g : Nat → List (Option D) → FM → FM) (js : List Nat) (fkM : En → FM) (tb : Store → Bool) (i : Nat) (e : En) (Q X : QP D) : QP (List D) := fun ds S => (tb S = true ∧ ds.length = i) ∧ Wr (uniR (fun q : Nat × { vs : List L2.V // vs.length = js.length } => g q.1 (cpOf js e q.2.1) (fkM e) (ds ++ [.fa q.1]) S)) Q X
theorem chQ_s (g : Nat → List (Option D) → FM → FM) (js : List Nat) (fkM : En → FM) (tb : Store → Bool) (i : Nat) : chQ g js fkM tb i e Q X ds S = ((tb S = true ∧ ds.length = i) ∧ Wr (uniR (fun q : Nat × { vs : List L2.V // vs.length = js.length } => g q.1 (cpOf js e q.2.1) (fkM e) (ds ++ [.fa q.1]) S)) Q X) := rfl
theorem wr_eCallH (g : Nat → List (Option D) → FM → FM) (js : List Nat) (fkM : En → FM) (tb : Store → Bool) (i : Nat) : Wr (eCallH g js fkM tb i am e S) Q X = Wr (am e S) (chQ g js fkM tb i e Q X) X := by
  unfold eCallH; rw [wr_bind]; congr; funext ds S1; rw [wr_guard]; rfl
theorem uni_w {α : Type} [Inhabited α] {F : α → Res D} (r : Res D) (h : ∀ q, F q = r) (hw : Wr r Q X) : Wr (uniR F) Q X := by rw [uniR_ok h]; exact hw
theorem wr_lamF (js : List Nat) (np : Nat) (e' : En) : Wr (lamF js np a e' ds S) Q X = (ds.length = np ∧ Wr (a (ds.map some ++ js.map fun j => oj e'[j]?) S) Q X) := by
  unfold lamF; rw [wr_guard]
theorem oj_s : oj (some (some d)) = some d := rfl
def enuQ (Q : QP (List D)) (X : QP D) : QP (List D) := fun ds S => Wr (enR ds S) Q X
theorem enuQ_s : enuQ QL X ds S = Wr (enR ds S) QL X := rfl
theorem wr_iEnum : Wr (iEnum am e S) QL X = Wr (am e S) (enuQ QL X) X := by unfold iEnum; rw [wr_bind]; rfl
theorem enR_tup (l : List D) : enR [.tup l] S = .ok (enumD l) S := rfl
theorem enR_lst (l : List D) : enR [.lst l] S = .ok (enumD l) S := rfl
def lrQ (Q : QP D) : QP D := fun d S => match d with
  | .int i => lrOk i ∧ Q (.lst (rangeD 0 i.toNat)) S
  | _ => False
theorem lrQ_int (i : Int) : lrQ Q (.int i) S = (lrOk i ∧ Q (.lst (rangeD 0 i.toNat)) S) := propext Iff.rfl
theorem wr_eLr : Wr (eLr a e S) Q X = Wr (a e S) (lrQ Q) X := by
  unfold eLr; rw [wr_bind]; congr; funext d S1; rw [wr_bind]
  cases d with
  | int i =>
    unfold lrR
    dsimp only
    split
    · rename_i h; rw [lrQ_int]; simp only [h, true_and]; rfl
    · rename_i h; rw [lrQ_int]; simp only [h, false_and]; rfl
  | _ => rfl
def lrnQ (Q : QP D) : QP D := fun d S => match d with
  | .int i => lrOk i ∧ Q (.loc S.length) (S ++ [.lst (rangeD 0 i.toNat)])
  | _ => False
theorem lrnQ_int (i : Int) : lrnQ Q (.int i) S = (lrOk i ∧ Q (.loc S.length) (S ++ [.lst (rangeD 0 i.toNat)])) := propext Iff.rfl
theorem wr_eLrN : Wr (eLrN a e S) Q X = Wr (a e S) (lrnQ Q) X := by
  unfold eLrN; rw [wr_bind]; congr; funext d S1; rw [wr_bind]
  cases d with
  | int i =>
    unfold lrR
    dsimp only
    split
    · rename_i h; rw [lrnQ_int]; simp only [h, true_and]; rfl
    · rename_i h; rw [lrnQ_int]; simp only [h, false_and]; rfl
  | _ => rfl
def agQ (i : Nat) (x : D) (e : En) (k : KS) : QP D := fun y S => Ws (augR i e x y S) k
theorem agQ_s (i : Nat) : agQ i x e k y S = Ws (augR i e x y S) k := rfl
def auP (o : Option (Option D)) (i : Nat) (a : EM) (e : En) (S : Store) (k : KS) : Prop := match o with
  | some (some x) => Wr (a e S) (agQ i x e k) (k.xe e)
  | _ => False
theorem auP_s (i : Nat) : auP (some (some x)) i a e S k = Wr (a e S) (agQ i x e k) (k.xe e) := rfl
theorem ws_sAug (i : Nat) : Ws (sAug i a e S) k = auP e[i]? i a e S k := by
  unfold sAug auP
  cases e[i]? with
  | none => rfl
  | some q => cases q with
    | none => rfl
    | some x => dsimp only; rw [ws_sE]; rfl
theorem augR_int (i : Nat) (p q : Int) : augR i e (.int p) (.int q) S = .nxt (e.set i (some (.int (p + q)))) S := rfl
def pp2 (x : D) (Q X : QP D) : QP (List D) := fun xs S => Wr (popR x xs S) Q X
def pp1 (am : AM) (e : En) (Q X : QP D) : QP D := fun x S => isLst S x = true ∧ Wr (am e S) (pp2 x Q X) X
theorem pp2_s : pp2 x Q X xs S = Wr (popR x xs S) Q X := rfl
theorem pp1_s : pp1 am e Q X x S = (isLst S x = true ∧ Wr (am e S) (pp2 x Q X) X) := rfl
theorem wr_ePop : Wr (ePop a am e S) Q X = Wr (a e S) (pp1 am e Q X) X := by
  unfold ePop; rw [wr_bind]; congr; funext x S1; rw [wr_guard, wr_bind]; rfl
def Cmp (d : D) : Prop := ∃ p, d.toP = some p ∧ p.canLay0 = true ∧ p.depth ≤ 60
theorem wr_gSq_tup (i : Nat) (r : GMs) (l : List D) : Wr (gSq i r (.tup l) e S) QE X = (l.length = i ∧ Wr (r l e S) QE X) := by
  show Wr (if l.length = i then _ else _) QE X = _
  rw [wr_guard]
theorem wr_gSq_lst (i : Nat) (r : GMs) (l : List D) : Wr (gSq i r (.lst l) e S) QE X = (l.length = i ∧ Wr (r l e S) QE X) := by
  show Wr (if l.length = i then _ else _) QE X = _
  rw [wr_guard]
theorem tbS_of {i : Nat} {p : Str × Option Str} {q : Str} (h : S[i]? = some (.tbl p q)) : tbS i p q S = true := by
  unfold tbS; rw [h]; simp
end
end G
namespace G
open PySem
section
variable {Q : D → Store → Prop} {QE : En → Store → Prop} {X : D → Store → Prop} {k : KS} {e : En} {S S1 : Store} {a b c : EM} {x y d : D} {z : Bool} {xs ds : List D}
def lnP (Q : QP D) (S : Store) (o : Option (List D)) : Prop := match o with
  | some l => Q (.loc S.length) (S ++ [.lst l])
  | none => False
def lnQ (Q : QP D) : QP D := fun d S => lnP Q S (seqT S d)
theorem lnQ_lst (l : List D) : lnQ Q (.lst l) S = Q (.loc S.length) (S ++ [.lst l]) := rfl
theorem lnQ_tup (l : List D) : lnQ Q (.tup l) S = Q (.loc S.length) (S ++ [.lst l]) := rfl
theorem wr_eListN : Wr (eListN a e S) Q X = Wr (a e S) (lnQ Q) X := by
  unfold eListN
  rw [wr_bind]
  congr; funext d S1
  unfold lnQ
  rw [wr_bind]
  cases seqT S1 d <;> rfl
def rvP (Q : QP D) (S : Store) (o : Option (List D)) : Prop := match o with
  | some l => Q (.lst l.reverse) S
  | none => False
def rvQ (Q : QP D) : QP D := fun d S => rvP Q S (seqD S d)
theorem rvQ_lst (l : List D) : rvQ Q (.lst l) S = Q (.lst l.reverse) S := rfl
theorem wr_eRev : Wr (eRev a e S) Q X = Wr (a e S) (rvQ Q) X := by
  unfold eRev
  rw [wr_bind]
  congr; funext d S1
  unfold rvQ
  rw [wr_bind]
  cases seqD S1 d <;> rfl
def rfQ (cn f : Nat) (e : En) (k : KS) : QP D := fun d S => k.ex (.exc cn [(f, d)]) e S
theorem rfQ_s (cn f : Nat) : rfQ cn f e k d S = k.ex (.exc cn [(f, d)]) e S := rfl
theorem ws_sRaiseF (cn f : Nat) : Ws (sRaiseF cn f a e S) k = Wr (a e S) (rfQ cn f e k) (k.xe e) := by
  unfold sRaiseF; rw [ws_sE]; rfl
end
end G
namespace G
open PySem
section
variable {Q : D → Store → Prop} {QE : En → Store → Prop} {X : D → Store → Prop} {k : KS} {e : En} {S S1 : Store} {a b c : EM} {m n : SM} {x y d : D} {z : Bool} {xs ds : List D}
def KS.trG (k : KS) (hs : List HdM) : KS := ⟨k.nx, k.rt, k.bk, k.ct, fun x e S => match x with
  | .exc cn fs => Ws (hdR hs cn fs e S) k
  | _ => False⟩
theorem trG_nx (hs : List HdM) : (k.trG hs).nx = k.nx := rfl
theorem trG_rt (hs : List HdM) : (k.trG hs).rt = k.rt := rfl
theorem trG_bk (hs : List HdM) : (k.trG hs).bk = k.bk := rfl
theorem trG_ct (hs : List HdM) : (k.trG hs).ct = k.ct := rfl
theorem trG_ex (hs : List HdM) (cn : Nat) (fs : List (Nat × D)) : (k.trG hs).ex (.exc cn fs) e S = Ws (hdR hs cn fs e S) k := rfl
theorem ws_sTryG (hs : List HdM) : Ws (sTryG hs m e S) k = Ws (m e S) (k.trG hs) := by
  unfold sTryG
  cases m e S with
  | exc x e1 S1 => cases x <;> rfl
  | _ => rfl
theorem ws_hd_nil (cn : Nat) (fs : List (Nat × D)) : Ws (hdR [] cn fs e S) k = k.ex (.exc cn fs) e S := rfl
def hdP (o : Option Bool) (a b : Prop) : Prop := match o with
  | some true => a
  | some false => b
  | none => False
theorem hdP_t (a b : Prop) : hdP (some true) a b = a := rfl
theorem hdP_f (a b : Prop) : hdP (some false) a b = b := rfl
theorem ws_hd_cons (ts : List (Nat → Option Bool)) (oi : Option Nat) (r : List HdM) (cn : Nat) (fs : List (Nat × D)) : Ws (hdR ((ts, oi, n) :: r) cn fs e S) k = hdP (tbAny ts cn) (Ws (sSuO oi (n (setO e oi (.exc cn fs)) S)) k) (Ws (hdR r cn fs e S) k) := by
  rw [hdR]
  cases tbAny ts cn with
  | none => rfl
  | some b => cases b <;> rfl
theorem setO_some (i : Nat) : setO e (some i) d = e.set i (some d) := rfl
theorem setO_none : setO e none d = e := rfl
theorem ws_suS (i : Nat) {r : SRes} : Ws (sSuO (some i) r) k = Ws r (k.su i) := by cases r <;> rfl
def KS.suN (k : KS) : KS := ⟨k.nx, k.rt, k.bk, k.ct, fun _ _ _ => False⟩
theorem suN_nx : k.suN.nx = k.nx := rfl
theorem suN_rt : k.suN.rt = k.rt := rfl
theorem suN_bk : k.suN.bk = k.bk := rfl
theorem suN_ct : k.suN.ct = k.ct := rfl
theorem ws_suN {r : SRes} : Ws (sSuO none r) k = Ws r k.suN := by cases r <;> rfl
def iyQ (tb : Nat → Option Bool) (Q X : QP D) : QP D := fun x S => Wr (lf ((isY tb x).map .bl) S) Q X
theorem iyQ_s (tb : Nat → Option Bool) : iyQ tb Q X x S = Wr (lf ((isY tb x).map .bl) S) Q X := rfl
theorem wr_eIsY (tb : Nat → Option Bool) : Wr (eIsY tb a e S) Q X = Wr (a e S) (iyQ tb Q X) X := by unfold eIsY; rw [wr_bind]; rfl
theorem isY_exc (tb : Nat → Option Bool) (cn : Nat) (fs : List (Nat × D)) : isY tb (.exc cn fs) = tb cn := rfl
def fyQ (cs : List Nat) (f : Nat) (Q X : QP D) : QP D := fun x S => Wr (lf (fldY cs f x) S) Q X
theorem fyQ_s (cs : List Nat) (f : Nat) : fyQ cs f Q X x S = Wr (lf (fldY cs f x) S) Q X := rfl
theorem wr_eFldY (cs : List Nat) (f : Nat) : Wr (eFldY cs f a e S) Q X = Wr (a e S) (fyQ cs f Q X) X := by unfold eFldY; rw [wr_bind]; rfl
theorem fldY_exc (cs : List Nat) (f cn : Nat) (fs : List (Nat × D)) : fldY cs f (.exc cn fs) = if cs.contains cn then fs.lookup f else none := rfl
def toQ (y : Ty) (Q X : QP D) : QP D := fun x S => Wr (lf ((isTyO S y x).map .bl) S) Q X
theorem toQ_s (t : Ty) : toQ t Q X x S = Wr (lf ((isTyO S t x).map .bl) S) Q X := rfl
theorem wr_eIsTyO (t : Ty) : Wr (eIsTyO t a e S) Q X = Wr (a e S) (toQ t Q X) X := by unfold eIsTyO; rw [wr_bind]; rfl
theorem isTyO_tup (t : Ty) (l : List D) : isTyO S t (.tup l) = some (Tn.tuple.is t) := rfl
theorem isTyO_lst (t : Ty) (l : List D) : isTyO S t (.lst l) = some (Tn.list.is t) := rfl
theorem isTyO_int (t : Ty) (i : Int) : isTyO S t (.int i) = some (Tn.int.is t) := rfl
end
end G
namespace G
open PySem
section
variable {QD : D → Store → Prop} {QL : List D → Store → Prop} {X : D → Store → Prop} {e : En} {S S1 : Store} {a b c : EM} {am : AM} {x y d : D} {xs ds : List D}
def tm2 (f : Store → D → List D → Option D) (z : Str) (Q : QP D) (X : QP D) : QP (List D) := fun xs S => Wr (lf (f S (.str z) xs) S) Q X
theorem tm2_s (f : Store → D → List D → Option D) (z : Str) : tm2 f z QD X xs S = Wr (lf (f S (.str z) xs) S) QD X := rfl
def tm1 (f : Store → D → List D → Option D) (m : AM) (e : En) (Q X : QP D) : QP D := fun x S => match x with
  | .str z => Wr (m e S) (tm2 f z Q X) X
  | _ => False
theorem tm1_s (f : Store → D → List D → Option D) (z : Str) : tm1 f am e QD X (.str z) S = Wr (am e S) (tm2 f z QD X) X := rfl
theorem wr_eTm (f : Store → D → List D → Option D) : Wr (eTm f a am e S) QD X = Wr (a e S) (tm1 f am e QD X) X := by
  unfold eTm; rw [wr_bind]; congr; funext x S1
  cases x <;> first | rfl | (rw [wr_bind]; rfl) | (rw [wr_stuck]; rfl)
def rgQN (Q : List D → Store → Prop) : QP (List D) := fun ds S => match ds with
  | [.int i, .int j, .int (.negSucc 0)] => (-(2 ^ 62) ≤ i ∧ i < 2 ^ 62 ∧ -(2 ^ 62) ≤ j ∧ j < 2 ^ 62) ∧ Q (rangeN i (i - j).toNat) S
  | _ => False
theorem rgQN_int (i j : Int) : rgQN QL [.int i, .int j, .int (-1)] S = ((-(2 ^ 62) ≤ i ∧ i < 2 ^ 62 ∧ -(2 ^ 62) ≤ j ∧ j < 2 ^ 62) ∧ QL (rangeN i (i - j).toNat) S) := rfl
theorem wr_iRgN : Wr (iRgN am e S) QL X = Wr (am e S) (rgQN QL) X := by
  unfold iRgN; rw [wr_bind]; congr; funext ds S1
  by_cases h : ∃ i j, ds = [.int i, .int j, .int (-1)]
  · obtain ⟨i, j, rfl⟩ := h
    show Wr (if _ then _ else _) _ _ = _
    rw [wr_guard]; rfl
  · unfold rgQN
    split
    · exact absurd ⟨_, _, rfl⟩ h
    · rw [wr_stuck]
      try (split <;> first | exact absurd ⟨_, _, rfl⟩ h | rfl)
end
end G
namespace G
open PySem
section
variable {Q X : QP D} {QB : QP Bool} {QL : QP (List D)} {QE : QP En} {k : KS} {e : En} {S S1 S2 : Store} {a b c o : EM} {t u : TM} {m n : SM} {am mk : AM} {x y d : D} {z : Bool} {xs ds zs : List D} {g g1 g2 g3 : GM}
def gf1 (cs : List Nat) (f : Nat) (d : D) (e : En) (Q : QP En) : QP D := fun x S => sb3 e Q (stF cs f S x d)
theorem gf1_s (cs : List Nat) (f : Nat) : gf1 cs f d e QE x S = sb3 e QE (stF cs f S x d) := rfl
theorem wr_gFl (cs : List Nat) (f : Nat) : Wr (gFl cs f o d e S) QE X = Wr (o e S) (gf1 cs f d e QE) nX := by
  unfold gFl; rw [wr_bind, wr_noX]; congr; funext x S1; rw [gf1_s]; cases h : stF cs f S1 x d <;> rfl
def as3 (g3 : GM) (d : D) (k : KS) : QP En := fun e S => Wr (g3 d e S) k.nx (k.xe e)
def as2 (g2 g3 : GM) (d : D) (k : KS) : QP En := fun e S => Wr (g2 d e S) (as3 g3 d k) (k.xe e)
def as1 (g1 g2 g3 : GM) (e : En) (k : KS) : QP D := fun d S => Wr (g1 d e S) (as2 g2 g3 d k) (k.xe e)
theorem as3_s : as3 g3 d k e S = Wr (g3 d e S) k.nx (k.xe e) := rfl
theorem as2_s : as2 g2 g3 d k e S = Wr (g2 d e S) (as3 g3 d k) (k.xe e) := rfl
theorem as1_s : as1 g1 g2 g3 e k d S = Wr (g1 d e S) (as2 g2 g3 d k) (k.xe e) := rfl
theorem ws_sAsg3 : Ws (sAsg3 a g1 g2 g3 e S) k = Wr (a e S) (as1 g1 g2 g3 e k) (k.xe e) := by
  unfold sAsg3; rw [ws_sE]; congr; funext z S1; rw [ws_sE, as1_s]; congr; funext z S1; rw [ws_sE, as2_s]; congr; funext z S1; rw [ws_sE]; rfl
def at1 (g1 g2 : GM) (e : En) (k : KS) : QP D := fun d S => Wr (g1 d e S) (as3 g2 d k) (k.xe e)
theorem at1_s : at1 g1 g2 e k d S = Wr (g1 d e S) (as3 g2 d k) (k.xe e) := rfl
theorem ws_sAsg2 : Ws (sAsg2 a g1 g2 e S) k = Wr (a e S) (at1 g1 g2 e k) (k.xe e) := by
  unfold sAsg2; rw [ws_sE]; congr; funext z S1; rw [ws_sE, at1_s]; congr; funext z S1; rw [ws_sE]; rfl
def faQ (j : Int) (cs : List Nat) (f : Nat) (e : En) (k : KS) : QP D := fun x S => match fldD cs f S x with
  | some y => Ws (stR (augI j S x y cs f) e) k
  | none => False
theorem ws_sFldA (j : Int) (cs : List Nat) (f : Nat) : Ws (sFldA j cs f o e S) k = Wr (o e S) (faQ j cs f e k) (k.xe e) := by
  unfold sFldA; rw [ws_sE]; congr; funext x S1; unfold faQ; cases fldD cs f S1 x <;> rfl
def ds3 (x y : D) (Q X : QP D) : QP D := fun z S => Wr (dsR S x y z) Q X
def ds2 (c : EM) (e : En) (x : D) (Q X : QP D) : QP D := fun y S => Wr (c e S) (ds3 x y Q X) X
def ds1 (b c : EM) (e : En) (Q X : QP D) : QP D := fun x S => (dkD S x).isSome = true ∧ Wr (b e S) (ds2 c e x Q X) X
theorem ds3_s (z : D) : ds3 x y Q X z S = Wr (dsR S x y z) Q X := rfl
theorem ds2_s : ds2 c e x Q X y S = Wr (c e S) (ds3 x y Q X) X := rfl
theorem ds1_s : ds1 b c e Q X x S = ((dkD S x).isSome = true ∧ Wr (b e S) (ds2 c e x Q X) X) := rfl
theorem wr_eDSetd : Wr (eDSetd a b c e S) Q X = Wr (a e S) (ds1 b c e Q X) X := by
  unfold eDSetd; rw [wr_bind]; congr; funext x S1; rw [wr_guard, ds1_s, wr_bind]; congr; funext y S2; rw [wr_bind]; rfl
def dispQ (ks : List Str) (Q : QP D) : QP (List D) := fun ds S => Q (.loc S.length) (S ++ [.dk ((strK ks).zip ds)])
theorem dispQ_s (ks : List Str) : dispQ ks Q ds S = Q (.loc S.length) (S ++ [.dk ((strK ks).zip ds)]) := rfl
theorem wr_eDisp (ks : List Str) : Wr (eDisp ks am e S) Q X = Wr (am e S) (dispQ ks Q) nX := by
  unfold eDisp; rw [wr_bind, wr_noX]; rfl
def rm2 (co : Option Nat) (x : D) (Q X : QP D) : QP (List D) := fun xs S => Wr (rmR co x xs S) Q X
def rm1 (co : Option Nat) (am : AM) (e : En) (Q X : QP D) : QP D := fun x S => isLst S x = true ∧ Wr (am e S) (rm2 co x Q X) X
theorem rm2_s (co : Option Nat) : rm2 co x Q X xs S = Wr (rmR co x xs S) Q X := rfl
theorem rm1_s (co : Option Nat) : rm1 co am e Q X x S = (isLst S x = true ∧ Wr (am e S) (rm2 co x Q X) X) := rfl
theorem wr_eRem (co : Option Nat) : Wr (eRem co a am e S) Q X = Wr (a e S) (rm1 co am e Q X) X := by
  unfold eRem; rw [wr_bind]; congr; funext x S1; rw [wr_guard, rm1_s, wr_bind]; rfl
def parQ3 (i j l : Nat) (e : En) (k : KS) (ds : List D) (S : Store) : Prop := match ds with
  | [x, y, z] => k.nx (((e.set i (some x)).set j (some y)).set l (some z)) S
  | _ => False
theorem parQ3_s {w : D} (i j l : Nat) : parQ3 i j l e k [x, y, w] S = k.nx (((e.set i (some x)).set j (some y)).set l (some w)) S := rfl
theorem ws_sPar3 (i j l : Nat) : Ws (sPar3 i j l am e S) k = Wr (am e S) (parQ3 i j l e k) (k.xe e) := by
  unfold sPar3; rw [ws_sE]; congr; funext ds S1
  match ds with
  | [] => rfl
  | [_] => rfl
  | [_, _] => rfl
  | [_, _, _] => rfl
  | _ :: _ :: _ :: _ :: _ => rfl
def KS.th (k : KS) (n : Nat) (c : Cell) : KS := ⟨fun e S => k.nx e (S.set n c), fun d S => k.rt d (S.set n c), fun e S => k.bk e (S.set n c), fun e S => k.ct e (S.set n c), fun _ _ _ => False⟩
theorem th_nx (i : Nat) (c : Cell) : (k.th i c).nx e S = k.nx e (S.set i c) := rfl
theorem th_rt (i : Nat) (c : Cell) : (k.th i c).rt d S = k.rt d (S.set i c) := rfl
theorem th_xe (i : Nat) (c : Cell) : (k.th i c).xe e = nX := rfl
def dvQ (Q : QP (List D)) : QP D := fun d S => match fkD S d with
  | some l => Q (l.map fun kv => kv.2) S
  | none => False
def diQ (Q : QP (List D)) : QP D := fun d S => match fkD S d with
  | some l => Q (l.map fun kv => .tup [keyOf kv.1, kv.2]) S
  | none => False
def dkQ (Q : QP (List D)) : QP D := fun d S => match fkD S d with
  | some l => Q (l.map fun kv => keyOf kv.1) S
  | none => False
def tkQ (Q : QP (List D)) : QP D := fun d S => match fsD S d with
  | some l => Q (l.map intsD) S
  | none => False
theorem wr_iDv : Wr (iDv a e S) QL X = Wr (a e S) (dvQ QL) X := by
  unfold iDv; rw [wr_bind]; congr; funext d S1; unfold dvQ; cases fkD S1 d <;> rfl
theorem wr_iDi : Wr (iDi a e S) QL X = Wr (a e S) (diQ QL) X := by
  unfold iDi; rw [wr_bind]; congr; funext d S1; unfold diQ; cases fkD S1 d <;> rfl
theorem wr_iDk : Wr (iDk a e S) QL X = Wr (a e S) (dkQ QL) X := by
  unfold iDk; rw [wr_bind]; congr; funext d S1; unfold dkQ; cases fkD S1 d <;> rfl
theorem wr_iTk : Wr (iTk a e S) QL X = Wr (a e S) (tkQ QL) X := by
  unfold iTk; rw [wr_bind]; congr; funext d S1; unfold tkQ; cases fsD S1 d <;> rfl
def t1Q (Q : QP D) : QP D := fun d S => match intsK d with
  | some k => Q (.loc S.length) (S ++ [.ts [k]])
  | none => False
theorem wr_eTs1 : Wr (eTs1 a e S) Q X = Wr (a e S) (t1Q Q) X := by
  unfold eTs1; rw [wr_bind]; congr; funext d S1; unfold t1Q; cases intsK d <;> rfl
def tu2 (x : D) (Q X : QP D) : QP D := fun y S => Wr (uR S x y) Q X
def tu1 (b : EM) (e : En) (Q X : QP D) : QP D := fun x S => (tsD S x).isSome = true ∧ Wr (b e S) (tu2 x Q X) X
theorem tu2_s : tu2 x Q X y S = Wr (uR S x y) Q X := rfl
theorem tu1_s : tu1 b e Q X x S = ((tsD S x).isSome = true ∧ Wr (b e S) (tu2 x Q X) X) := rfl
theorem wr_eTsU : Wr (eTsU a b e S) Q X = Wr (a e S) (tu1 b e Q X) X := by
  unfold eTsU; rw [wr_bind]; congr; funext x S1; rw [wr_guard, tu1_s, wr_bind]; rfl
def dcQ (Q : QP D) : QP (List (List Int)) := fun acc S => Q (.loc S.length) (S ++ [.ts acc])
def dct1 (g : Tg) (t : TM) (a : EM) (e : En) (Q X : QP D) : QC := fun p S => Wr (dcR (okC p) g t a e p.1 [] S) (dcQ Q) X
theorem dct1_s (g : Tg) (p : List D × Option Nat) : dct1 g t a e Q X p S = Wr (dcR (okC p) g t a e p.1 [] S) (dcQ Q) X := rfl
theorem dcQ_s (acc : List (List Int)) : dcQ Q acc S = Q (.loc S.length) (S ++ [.ts acc]) := rfl
theorem wr_eDcT (i : CM) (g : Tg) (vs : List Nat) : Wr (eDcT i g t a vs e S) Q X = Wr (i e S) (dct1 g t a (wipeE e vs) Q X) X := by
  unfold eDcT; rw [wr_bind]; congr; funext p S1; rw [wr_bind]; rfl
def dy (I : QP (List (List Int))) (acc : List (List Int)) : QP D := fun y S => match intsK y with
  | some l => acc.length < sizeLine ∧ I (addK acc l) S
  | none => False
def dt1 (a : EM) (e : En) (I : QP (List (List Int))) (acc : List (List Int)) : QP Bool := fun b S => match b with
  | true => Wr (a e S) (dy I acc) nX
  | false => I acc S
theorem dt1_t (I : QP (List (List Int))) (acc : List (List Int)) : dt1 a e I acc true S = Wr (a e S) (dy I acc) nX := rfl
theorem dt1_f (I : QP (List (List Int))) (acc : List (List Int)) : dt1 a e I acc false S = I acc S := rfl
def dgg (t : TM) (a : EM) (I : QP (List (List Int))) (acc : List (List Int)) (S : Store) : En → Prop := fun e => Wr (t e S) (dt1 a e I acc) nX
theorem dgg_s (I : QP (List (List Int))) (acc : List (List Int)) : dgg t a I acc S e = Wr (t e S) (dt1 a e I acc) nX := rfl
end
end G
namespace G
open PySem
section
variable {QD : QP D} {X : QP D} {e : En} {S : Store} {a b : EM} {x y : D} {f : FM} {gD : List D → List D → List D}
def eqOb (neg : Bool) (Q : QP D) : QP D := fun y S1 => match y with
  | .bl b => Q (.bl (if neg = true then !b else b)) S1
  | _ => False
theorem eqOb_t (z : Bool) : eqOb true QD (.bl z) S = QD (.bl (!z)) S := rfl
theorem eqOb_f (z : Bool) : eqOb false QD (.bl z) S = QD (.bl z) S := rfl
def eqO2 (neg : Bool) (cn : Nat) (f : FM) (gD : List D → List D → List D) (x : D) (Q X : QP D) : QP D := fun y S => (isCn cn S x = true ∧ isCn cn S y = true) ∧ Wr (f (gD [x, y] []) S) (eqOb neg Q) X
theorem eqO2_s (neg : Bool) (cn : Nat) : eqO2 neg cn f gD x QD X y S = ((isCn cn S x = true ∧ isCn cn S y = true) ∧ Wr (f (gD [x, y] []) S) (eqOb neg QD) X) := rfl
def eqO1 (neg : Bool) (cn : Nat) (f : FM) (gD : List D → List D → List D) (b : EM) (e : En) (Q X : QP D) : QP D := fun x S => Wr (b e S) (eqO2 neg cn f gD x Q X) X
theorem eqO1_s (neg : Bool) (cn : Nat) : eqO1 neg cn f gD b e QD X x S = Wr (b e S) (eqO2 neg cn f gD x QD X) X := rfl
theorem wr_eEqO (neg : Bool) (cn : Nat) : Wr (eEqO neg cn f gD a b e S) QD X = Wr (a e S) (eqO1 neg cn f gD b e QD X) X := by
  unfold eEqO
  rw [wr_bind]
  congr; funext x S1
  rw [wr_bind, eqO1_s]
  congr; funext y S2
  rw [eqO2_s]
  unfold eqO
  rw [wr_guard]
  congr 1
  unfold eqOf
  rw [wr_bind]
  congr; funext z S3
  cases z <;> rfl
def in2 (x : D) (Q X : QP D) : QP (List D) := fun xs S => Wr (insR x xs S) Q X
def in1 (am : AM) (e : En) (Q X : QP D) : QP D := fun x S => isLst S x = true ∧ Wr (am e S) (in2 x Q X) X
theorem in2_s {xs : List D} : in2 x QD X xs S = Wr (insR x xs S) QD X := rfl
theorem in1_s {am : AM} : in1 am e QD X x S = (isLst S x = true ∧ Wr (am e S) (in2 x QD X) X) := rfl
theorem wr_eIns {am : AM} : Wr (eIns a am e S) QD X = Wr (a e S) (in1 am e QD X) X := by
  unfold eIns; rw [wr_bind]; congr; funext x S1; rw [wr_guard, in1_s, wr_bind]; rfl
end
end G
namespace G
open PySem
section
variable {QD : QP D} {X : QP D} {e : En} {S : Store} {a b : EM} {mp : AM} {k : KS}
def txQ (kvs : List (Str × D)) (Q X : QP D) : QP D := fun x S1 => match x with
  | .str z => Wr (lf (kvs.lookup z) S1) Q X
  | _ => False
theorem txQ_str (kvs : List (Str × D)) (z : Str) : txQ kvs QD X (.str z) S = Wr (lf (kvs.lookup z) S) QD X := rfl
theorem wr_eTabIx (kvs : List (Str × D)) : Wr (eTabIx kvs a e S) QD X = Wr (a e S) (txQ kvs QD X) X := by
  unfold eTabIx
  rw [wr_bind]
  congr; funext x S1
  cases x <;> rfl
def tiQ (neg : Bool) (kvs : List (Str × D)) (Q : QP D) : QP D := fun x S1 => match x with
  | .str z => Q (.bl (if neg = true then !(kvs.lookup z).isSome else (kvs.lookup z).isSome)) S1
  | _ => False
theorem tiQ_t (kvs : List (Str × D)) (z : Str) : tiQ true kvs QD (.str z) S = QD (.bl (!(kvs.lookup z).isSome)) S := rfl
theorem tiQ_f (kvs : List (Str × D)) (z : Str) : tiQ false kvs QD (.str z) S = QD (.bl (kvs.lookup z).isSome) S := rfl
theorem wr_eTabIn (neg : Bool) (kvs : List (Str × D)) : Wr (eTabIn neg kvs a e S) QD X = Wr (a e S) (tiQ neg kvs QD) X := by
  unfold eTabIn
  rw [wr_bind]
  congr; funext x S1
  cases x <;> rfl
def tc2 (i : Nat) (q : Nat × FM) (e : En) (k : KS) : QP (List D) := fun ds S2 => ds.length = q.1 ∧ Wr (q.2 ds S2) k.rt (k.xe (e.set i none))
theorem tc2_s (i n : Nat) (f : FM) (ds : List D) : tc2 i (n, f) e k ds S = (ds.length = n ∧ Wr (f ds S) k.rt (k.xe (e.set i none))) := rfl
def tc1 (i : Nat) (o : Option (Nat × FM)) (mp : AM) (e : En) (k : KS) (S1 : Store) : Prop := match o with
  | some q => i < e.length ∧ Wr (mp e S1) (tc2 i q e k) (k.xe (e.set i none))
  | none => False
theorem tc1_s (i : Nat) (q : Nat × FM) : tc1 i (some q) mp e k S = (i < e.length ∧ Wr (mp e S) (tc2 i q e k) (k.xe (e.set i none))) := rfl
def tcQ (i : Nat) (fs : List (Str × Nat × FM)) (mp : AM) (e : En) (k : KS) : QP D := fun x S1 => match x with
  | .str z => tc1 i (fs.lookup z) mp e k S1
  | _ => False
theorem tcQ_str (i : Nat) (fs : List (Str × Nat × FM)) (z : Str) : tcQ i fs mp e k (.str z) S = tc1 i (fs.lookup z) mp e k S := rfl
theorem ws_guard {p : Prop} [Decidable p] {r : SRes} : Ws (if p then r else .stuck) k = (p ∧ Ws r k) := by
  by_cases h : p
  · rw [if_pos h]; simp [h]
  · rw [if_neg h]; exact (eq_false fun z => h z.1).symm
theorem ws_sTabCall (i : Nat) (fs : List (Str × Nat × FM)) : Ws (sTabCall i fs b mp e S) k = Wr (b e S) (tcQ i fs mp e k) (k.xe e) := by
  unfold sTabCall
  rw [ws_sE]
  congr; funext x S1
  cases x with
  | str z =>
    rw [tcQ_str]
    dsimp only
    cases fs.lookup z with
    | none => rfl
    | some q =>
      rw [tc1_s]
      dsimp only
      rw [ws_guard, ws_sE]
      congr; funext ds S2
      rw [ws_guard, ws_sE]
      rfl
  | _ => rfl
def sn3 (x : D) (i : Option Int) (Q X : QP D) : QP (Option Int) := fun j S => Wr (slR S x i j) Q X
def sn2 (x : D) (h : OM) (e : En) (Q X : QP D) : QP (Option Int) := fun i S => Wr (h e S) (sn3 x i Q X) X
def sn1 (l h : OM) (e : En) (Q X : QP D) : QP D := fun x S => Wr (l e S) (sn2 x h e Q X) X
theorem sn3_s (x : D) (i j : Option Int) : sn3 x i QD X j S = Wr (slR S x i j) QD X := rfl
theorem sn2_s (x : D) (h : OM) (i : Option Int) : sn2 x h e QD X i S = Wr (h e S) (sn3 x i QD X) X := rfl
theorem sn1_s (x : D) (l h : OM) : sn1 l h e QD X x S = Wr (l e S) (sn2 x h e QD X) X := rfl
theorem wr_eSlN (l h : OM) : Wr (eSlN a l h e S) QD X = Wr (a e S) (sn1 l h e QD X) X := by
  unfold eSlN; simp only [wr_bind]; rfl
end
end G
namespace G
open PySem
section
variable {QD : QP D} {QL : QP (List D)} {X : QP D} {e : En} {S : Store} {a b : EM} {am : AM} {ds : List D} {x y : D} {f : FM} {gD : List D → List D → List D}
def zmQ (Q : QP (List D)) (X : QP D) : QP (List D) := fun ds S => Wr (zipRM ds S) Q X
theorem zmQ_s : zmQ QL X ds S = Wr (zipRM ds S) QL X := rfl
theorem wr_iZipM : Wr (iZipM am e S) QL X = Wr (am e S) (zmQ QL X) X := by unfold iZipM; rw [wr_bind]; rfl
theorem zipRM_s (l m : List D) : zipRM [.tup l, .lst m] S = .ok (zipD l m) S := rfl
def ex2 (neg : Bool) (cn : Nat) (f : FM) (gD : List D → List D → List D) (x : D) (Q X : QP D) : QP D := fun y S => Wr (eqX neg cn f gD x y S) Q X
theorem ex2_s (neg : Bool) (cn : Nat) : ex2 neg cn f gD x QD X y S = Wr (eqX neg cn f gD x y S) QD X := rfl
def ex1 (neg : Bool) (cn : Nat) (f : FM) (gD : List D → List D → List D) (b : EM) (e : En) (Q X : QP D) : QP D := fun x S => Wr (b e S) (ex2 neg cn f gD x Q X) X
theorem ex1_s (neg : Bool) (cn : Nat) : ex1 neg cn f gD b e QD X x S = Wr (b e S) (ex2 neg cn f gD x QD X) X := rfl
theorem wr_eEqX (neg : Bool) (cn : Nat) : Wr (eEqX neg cn f gD a b e S) QD X = Wr (a e S) (ex1 neg cn f gD b e QD X) X := by
  unfold eEqX
  rw [wr_bind]
  congr; funext x S1
  rw [wr_bind]; rfl
end
end G
namespace G
open PySem
section
variable {QD : QP D} {X Y : QP D} {e : En} {S S' : Store} {am : AM} {f : FM} {xs : List D} {d : D}
def cnQ (f : FM) (Q X : QP D) : QP (List D) := fun xs S => Wr (noF f xs S) Q X
theorem cnQ_s (f : FM) : cnQ f QD X xs S = Wr (noF f xs S) QD X := rfl
theorem wr_eCallN (f : FM) : Wr (eCallN f am e S) QD X = Wr (am e S) (cnQ f QD X) X := by unfold eCallN; rw [wr_bind]; rfl
end
end G
namespace G
open PySem
section
variable {QD : QP D} {X Y Q : QP D} {a b : EM} {e : En} {S S' : Store} {x y : D}
def ku2 (x : D) (Q X : QP D) : QP D := fun y S => Wr (uK S x y) Q X
def ku1 (b : EM) (e : En) (Q X : QP D) : QP D := fun x S => (dkD S x).isSome = true ∧ Wr (b e S) (ku2 x Q X) X
theorem ku2_s : ku2 x Q X y S = Wr (uK S x y) Q X := rfl
theorem ku1_s : ku1 b e Q X x S = ((dkD S x).isSome = true ∧ Wr (b e S) (ku2 x Q X) X) := rfl
theorem wr_eDkU : Wr (eDkU a b e S) Q X = Wr (a e S) (ku1 b e Q X) X := by
  unfold eDkU; rw [wr_bind]; congr; funext x S1; rw [wr_guard, ku1_s, wr_bind]; rfl
theorem wr_eNx : Wr (eNx a e S) Q X = Wr (a e S) Q nX := by unfold eNx; rw [wr_noX]
def sa3 (x : D) (l : Option Int) (Q X : QP D) : QP (Option Int) := fun h S => Wr (lf (slDA S x l h) S) Q X
def sa2 (x : D) (h : OM) (e : En) (Q X : QP D) : QP (Option Int) := fun i S => Wr (h e S) (sa3 x i Q X) X
def sa1 (l h : OM) (e : En) (Q X : QP D) : QP D := fun x S => Wr (l e S) (sa2 x h e Q X) X
theorem sa3_s (l : Option Int) (z : Option Int) : sa3 x l QD X z S = Wr (lf (slDA S x l z) S) QD X := rfl
theorem sa2_s (h : OM) (i : Option Int) : sa2 x h e QD X i S = Wr (h e S) (sa3 x i QD X) X := rfl
theorem sa1_s (l h : OM) : sa1 l h e QD X x S = Wr (l e S) (sa2 x h e QD X) X := rfl
theorem wr_eSlA (l h : OM) : Wr (eSlA a l h e S) QD X = Wr (a e S) (sa1 l h e QD X) X := by
  unfold eSlA; simp only [wr_bind]; rfl
end
end G
namespace G
open PySem
section
variable {X Q : QP D} {a : EM} {e : En} {S : Store} {x : D}
def s5Q (Q : QP D) : QP D := fun y S => match y with
  | .int i => (0 ≤ i ∧ i < 2 ^ 63) ∧ Q (.int i) S
  | _ => False
theorem s5Q_int (i : Int) : s5Q Q (.int i) S = ((0 ≤ i ∧ i < 2 ^ 63) ∧ Q (.int i) S) := rfl
theorem wr_lenOf {r : Res D} : Wr (lenOf r) Q X = Wr r (s5Q Q) X := by
  unfold lenOf; rw [wr_bind]; congr; funext y S1
  cases y with
  | int i => show Wr (if _ then _ else _) _ _ = _; rw [wr_guard]; rfl
  | _ => rfl
def lnoQ (cn : Nat) (f : FM) (gD : List D → List D → List D) (Q X : QP D) : QP D := fun x S => isCn cn S x = true ∧ Wr (f (gD [x] []) S) (s5Q Q) X
theorem lnoQ_s (cn : Nat) (f : FM) (gD : List D → List D → List D) : lnoQ cn f gD Q X x S = (isCn cn S x = true ∧ Wr (f (gD [x] []) S) (s5Q Q) X) := rfl
theorem wr_eLenO (cn : Nat) (f : FM) (gD : List D → List D → List D) : Wr (eLenO cn f gD a e S) Q X = Wr (a e S) (lnoQ cn f gD Q X) X := by
  unfold eLenO aCons aNil
  rw [wr_bind, wr_bind]
  congr; funext x S1
  show Wr (if isCn cn S1 x = true then lenOf (f (gD [x] []) S1) else .stuck) Q X = _
  rw [wr_guard, wr_lenOf]; rfl
theorem wr_strOfT {r : Res D} : Wr (strOfT r) Q X = Wr r (s4Q Q) X := by
  unfold strOfT; rw [wr_bind]; congr; funext y S1; cases y <;> rfl
theorem wr_eReprO (cn : Nat) (f : FM) (gD : List D → List D → List D) : Wr (eReprO cn f gD a e S) Q X = Wr (a e S) (soQ cn f gD Q X) X := by
  unfold eReprO aCons aNil
  rw [wr_bind, wr_bind]
  congr; funext x S1
  show Wr (if isCn cn S1 x = true then strOfT (f (gD [x] []) S1) else .stuck) Q X = _
  rw [wr_guard, wr_strOfT]; rfl
def dnP (Q : QP D) (S : Store) (o : Option (List (L2.Key × D))) : Prop := match o with
  | some l => Q (.loc S.length) (S ++ [.dk l])
  | none => False
def dnQ (Q : QP D) : QP D := fun d S => dnP Q S (dkV S d)
theorem wr_eDictN : Wr (eDictN a e S) Q X = Wr (a e S) (dnQ Q) X := by
  unfold eDictN
  rw [wr_bind]
  congr; funext d S1
  unfold dnQ
  rw [wr_bind]
  cases dkV S1 d <;> rfl
end
end G
namespace G
open PySem L2 PySem.Spec
section
variable {e : En} {S : Store} {a : EM} {m : SM} {k : KS} {QQ : List D × Option Nat → Store → Prop} {X : QP D}
def rvcQ (Q : List D × Option Nat → Store → Prop) : QP D := fun d S1 => match d with
  | .loc n => match S1[n]? with
    | some (.lst l) => Q (l.reverse, some n) S1
    | _ => False
  | _ => False
theorem wr_iRev : Wr (iRev a e S) QQ X = Wr (a e S) (rvcQ QQ) X := by
  unfold iRev; rw [wr_bind]; congr; funext x S1
  cases x with
  | loc n =>
    show Wr (match S1[n]? with
      | some (.lst l) => .ok (l.reverse, some n) S1
      | _ => .stuck) _ _ = rvcQ QQ (.loc n) S1
    unfold rvcQ
    dsimp only
    cases S1[n]? with
    | none => rfl
    | some q => cases q <;> rfl
  | _ => rfl
def forrQ (g : GM) (m : SM) (e : En) (k : KS) : QC := fun p S => Ws (fiC (okR p) g m p.1 e S) k
theorem forrQ_s (g : GM) (p : List D × Option Nat) : forrQ g m e k p S = Ws (fiC (okR p) g m p.1 e S) k := rfl
theorem ws_sForR (i : CM) (g : GM) : Ws (sForR i g m e S) k = Wr (i e S) (forrQ g m e k) (k.xe e) := ws_sE
end
end G
namespace G
open PySem L2 PySem.Spec
section
variable {e : En} {S : Store} {a mk mv : EM} {m n : SM} {k : KS} {t : TM} {x y z : D} {Q X : QP D}
def onNx (q : En → Store → Prop) : KS := ⟨q, fun _ _ => False, fun _ _ => False, fun _ _ => False, fun _ _ _ => False⟩
def KS.fin (k : KS) (n : SM) : KS := ⟨fun e S => Ws (n e S) (onNx k.nx), fun _ _ => False, fun _ _ => False, fun _ _ => False, fun x e S => match x with
  | .exc cn fs => Ws (n e S) (onNx fun e2 S2 => k.ex (.exc cn fs) e2 S2)
  | _ => False⟩
theorem finK_nx : (k.fin n).nx e S = Ws (n e S) (onNx k.nx) := rfl
theorem finK_ex (cn : Nat) (fs : List (Nat × D)) : (k.fin n).ex (.exc cn fs) e S = Ws (n e S) (onNx fun e2 S2 => k.ex (.exc cn fs) e2 S2) := rfl
theorem onNx_nx (q : En → Store → Prop) : (onNx q).nx e S = q e S := rfl
theorem ws_sFin : Ws (sFin m n e S) k = Ws (m e S) (k.fin n) := by
  unfold sFin
  cases m e S with
  | nxt e1 S1 =>
    show Ws (match n e1 S1 with
      | .nxt e2 S2 => .nxt e2 S2
      | _ => .stuck) k = Ws (n e1 S1) (onNx k.nx)
    cases n e1 S1 <;> rfl
  | ret d S1 => rfl
  | brk e1 S1 => rfl
  | cnt e1 S1 => rfl
  | stuck => rfl
  | exc y e1 S1 =>
    cases y with
    | exc cn fs =>
      show Ws (match n e1 S1 with
        | .nxt e2 S2 => .exc (.exc cn fs) e2 S2
        | _ => .stuck) k = Ws (n e1 S1) (onNx fun e2 S2 => k.ex (.exc cn fs) e2 S2)
      cases n e1 S1 <;> rfl
    | _ => rfl
def noQ (QQ : List D × Option Nat → Store → Prop) : QP (List D) := fun ds S => QQ (ds, none) S
theorem noQ_s {QQ : List D × Option Nat → Store → Prop} (ds : List D) : noQ QQ ds S = QQ (ds, none) S := rfl
theorem wr_iNo {QQ : List D × Option Nat → Store → Prop} (i : AM) : Wr (iNo i e S) QQ X = Wr (i e S) (noQ QQ) X := by
  unfold iNo; rw [wr_bind]; rfl
def dckQ (Q : QP D) : QP (List (Key × D)) := fun acc S => Q (.loc S.length) (S ++ [.dk acc])
def dck1 (g : Tg) (t : TM) (mk mv : EM) (e : En) (Q X : QP D) : QC := fun p S => Wr (dkR (okC p) g t mk mv e p.1 [] S) (dckQ Q) X
theorem dck1_s (g : Tg) (p : List D × Option Nat) : dck1 g t mk mv e Q X p S = Wr (dkR (okC p) g t mk mv e p.1 [] S) (dckQ Q) X := rfl
theorem dckQ_s (acc : List (Key × D)) : dckQ Q acc S = Q (.loc S.length) (S ++ [.dk acc]) := rfl
theorem wr_eDcK (i : CM) (g : Tg) (vs : List Nat) : Wr (eDcK i g t mk mv vs e S) Q X = Wr (i e S) (dck1 g t mk mv (wipeE e vs) Q X) X := by
  unfold eDcK; rw [wr_bind]; congr; funext p S1; rw [wr_bind]; rfl
def dky (y : D) (I : QP (List (Key × D))) (acc : List (Key × D)) : QP D := fun z S => match keyD y with
  | some l => acc.length < sizeLine ∧ I (putKD acc l z) S
  | none => False
def dkk (mv : EM) (e : En) (I : QP (List (Key × D))) (acc : List (Key × D)) : QP D := fun y S => Wr (mv e S) (dky y I acc) nX
theorem dkk_s (I : QP (List (Key × D))) (acc : List (Key × D)) : dkk mv e I acc y S = Wr (mv e S) (dky y I acc) nX := rfl
def dkt1 (mk mv : EM) (e : En) (I : QP (List (Key × D))) (acc : List (Key × D)) : QP Bool := fun b S => match b with
  | true => Wr (mk e S) (dkk mv e I acc) nX
  | false => I acc S
theorem dkt1_t (I : QP (List (Key × D))) (acc : List (Key × D)) : dkt1 mk mv e I acc true S = Wr (mk e S) (dkk mv e I acc) nX := rfl
theorem dkt1_f (I : QP (List (Key × D))) (acc : List (Key × D)) : dkt1 mk mv e I acc false S = I acc S := rfl
def dkgg (t : TM) (mk mv : EM) (I : QP (List (Key × D))) (acc : List (Key × D)) (S : Store) : En → Prop := fun e => Wr (t e S) (dkt1 mk mv e I acc) nX
theorem dkgg_s (I : QP (List (Key × D))) (acc : List (Key × D)) : dkgg t mk mv I acc S e = Wr (t e S) (dkt1 mk mv e I acc) nX := rfl
def m0N1 (cn : Nat) (f : FM) (gD : List D → List D → List D) (Q : QP D) : QP D := fun x S0 => isCn cn S0 x = true ∧ Wr (f (gD [x] []) S0) Q nX
theorem m0N1_s (cn : Nat) (f : FM) (gD : List D → List D → List D) (x : D) : m0N1 cn f gD Q x S = (isCn cn S x = true ∧ Wr (f (gD [x] []) S) Q nX) := rfl
theorem wr_eMeth0N (cn : Nat) (f : FM) (gD : List D → List D → List D) : Wr (eMeth0N cn f gD a e S) Q X = Wr (a e S) (m0N1 cn f gD Q) X := by
  unfold eMeth0N; rw [wr_bind]; congr; funext x S1
  unfold m0N1
  rw [wr_guard]
  unfold noF
  rw [wr_noX]
end
end G
namespace G
open PySem L2 PySem.Spec
section
variable {e : En} {S : Store} {a b : EM} {f : FM} {gD : List D → List D → List D} {x y : D} {QD X : QP D}
def eqLQ2 (neg : Bool) (cn : Nat) (f : FM) (gD : List D → List D → List D) (x : D) (Q : QP D) : QP D := fun y S => eqLP cn f gD x y S ∧ Q (.bl (!neg)) S
def eqLQ1 (neg : Bool) (cn : Nat) (f : FM) (gD : List D → List D → List D) (b : EM) (e : En) (Q X : QP D) : QP D := fun x S => Wr (b e S) (eqLQ2 neg cn f gD x Q) X
theorem eqLQ1_s (neg : Bool) (cn : Nat) : eqLQ1 neg cn f gD b e QD X x S = Wr (b e S) (eqLQ2 neg cn f gD x QD) X := rfl
theorem eqLQ2_s (neg : Bool) (cn : Nat) : eqLQ2 neg cn f gD x QD y S = (eqLP cn f gD x y S ∧ QD (.bl (!neg)) S) := rfl
theorem wr_eEqL (neg : Bool) (cn : Nat) : Wr (eEqL neg cn f gD a b e S) QD X = Wr (a e S) (eqLQ1 neg cn f gD b e QD X) X := by
  unfold eEqL
  rw [wr_bind]
  congr; funext x S1
  rw [wr_bind, eqLQ1_s]
  congr; funext y S2
  rw [eqLQ2_s]
  unfold eqL
  by_cases h : eqLP cn f gD x y S2
  · rw [if_pos h]
    exact propext ⟨fun q => ⟨h, q⟩, fun q => q.2⟩
  · rw [if_neg h]
    exact propext ⟨fun q => q.elim, fun q => absurd q.1 h⟩
end
end G
namespace G
open PySem L2 PySem.Spec
section
variable {e : En} {S : Store} {a b : EM} {f : FM} {gD : List D → List D → List D} {x y : D} {QD X : QP D}
def eqMQ2 (neg : Bool) (cn : Nat) (f : FM) (gD : List D → List D → List D) (x : D) (Q X : QP D) : QP D := fun y S => Wr (eqM neg cn f gD x y S) Q X
def eqMQ1 (neg : Bool) (cn : Nat) (f : FM) (gD : List D → List D → List D) (b : EM) (e : En) (Q X : QP D) : QP D := fun x S => Wr (b e S) (eqMQ2 neg cn f gD x Q X) X
theorem eqMQ1_s (neg : Bool) (cn : Nat) : eqMQ1 neg cn f gD b e QD X x S = Wr (b e S) (eqMQ2 neg cn f gD x QD X) X := rfl
theorem eqMQ2_s (neg : Bool) (cn : Nat) : eqMQ2 neg cn f gD x QD X y S = Wr (eqM neg cn f gD x y S) QD X := rfl
theorem wr_eEqM (neg : Bool) (cn : Nat) : Wr (eEqM neg cn f gD a b e S) QD X = Wr (a e S) (eqMQ1 neg cn f gD b e QD X) X := by
  unfold eEqM
  rw [wr_bind]
  congr; funext x S1
  rw [wr_bind, eqMQ1_s]
  congr
def inOQ2 (cn : Nat) (f : FM) (gD : List D → List D → List D) (x : D) (Q X : QP D) : QP D := fun y S => Wr (inO cn f gD x y S) Q X
def inOQ1 (cn : Nat) (f : FM) (gD : List D → List D → List D) (b : EM) (e : En) (Q X : QP D) : QP D := fun x S => Wr (b e S) (inOQ2 cn f gD x Q X) X
theorem inOQ1_s (cn : Nat) : inOQ1 cn f gD b e QD X x S = Wr (b e S) (inOQ2 cn f gD x QD X) X := rfl
theorem inOQ2_s (cn : Nat) : inOQ2 cn f gD x QD X y S = Wr (inO cn f gD x y S) QD X := rfl
theorem wr_eInO (cn : Nat) : Wr (eInO cn f gD a b e S) QD X = Wr (a e S) (inOQ1 cn f gD b e QD X) X := by
  unfold eInO
  rw [wr_bind]
  congr; funext x S1
  rw [wr_bind, inOQ1_s]
  congr
def s6Q (Q : QP D) : QP D := fun y S => match y with
  | .int i => (0 ≤ i ∧ i < 2 ^ 63) ∧ Q (.bl (i != 0)) S
  | _ => False
theorem s6Q_int {Q : QP D} (i : Int) : s6Q Q (.int i) S = ((0 ≤ i ∧ i < 2 ^ 63) ∧ Q (.bl (i != 0)) S) := rfl
theorem wr_bolOf {Q : QP D} {r : Res D} : Wr (bolOf r) Q X = Wr r (s6Q Q) X := by
  unfold bolOf; rw [wr_bind]; congr; funext y S1
  cases y with
  | int i => show Wr (if _ then _ else _) _ _ = _; rw [wr_guard]; rfl
  | _ => rfl
def bnoQ (cn : Nat) (f : FM) (gD : List D → List D → List D) (Q X : QP D) : QP D := fun x S => isCn cn S x = true ∧ Wr (f (gD [x] []) S) (s6Q Q) X
theorem bnoQ_s {Q : QP D} (cn : Nat) (f : FM) (gD : List D → List D → List D) : bnoQ cn f gD Q X x S = (isCn cn S x = true ∧ Wr (f (gD [x] []) S) (s6Q Q) X) := rfl
theorem wr_eBoolO {Q : QP D} (cn : Nat) (f : FM) (gD : List D → List D → List D) : Wr (eBoolO cn f gD a e S) Q X = Wr (a e S) (bnoQ cn f gD Q X) X := by
  unfold eBoolO aCons aNil
  rw [wr_bind, wr_bind]
  congr; funext x S1
  show Wr (if isCn cn S1 x = true then bolOf (f (gD [x] []) S1) else .stuck) Q X = _
  rw [wr_guard, wr_bolOf]; rfl
end
end G
namespace G
open PySem L2 PySem.Spec
section
variable {e : En} {S : Store} {a : EM} {am : AM} {x y : D} {QD X : QP D}
def xt2 (x : D) (Q X : QP D) : QP (List D) := fun xs S => Wr (extR x xs S) Q X
def xt1 (am : AM) (e : En) (Q X : QP D) : QP D := fun x S => isLst S x = true ∧ Wr (am e S) (xt2 x Q X) X
theorem xt2_s {xs : List D} : xt2 x QD X xs S = Wr (extR x xs S) QD X := rfl
theorem xt1_s : xt1 am e QD X x S = (isLst S x = true ∧ Wr (am e S) (xt2 x QD X) X) := rfl
theorem wr_eExt : Wr (eExt a am e S) QD X = Wr (a e S) (xt1 am e QD X) X := by
  unfold eExt; rw [wr_bind]; congr; funext x S1; rw [wr_guard, wr_bind]; rfl
def zlQ (Q : QP (List D)) (X : QP D) : QP (List D) := fun ds S => Wr (zipRL ds S) Q X
theorem zlQ_s {QL : QP (List D)} {ds : List D} : zlQ QL X ds S = Wr (zipRL ds S) QL X := rfl
theorem wr_iZipL {QL : QP (List D)} : Wr (iZipL am e S) QL X = Wr (am e S) (zlQ QL X) X := by unfold iZipL; rw [wr_bind]; rfl
theorem zipRL_s (l m : List D) : zipRL [.lst l, .tup m] S = .ok (zipD l m) S := rfl
end
end G
namespace G
open PySem L2 PySem.Spec
section
variable {e : En} {S : Store} {a b : EM} {f : FM} {gD : List D → List D → List D} {x y : D} {QD X : QP D}
def eqTQ2 (neg : Bool) (cn : Nat) (f : FM) (gD : List D → List D → List D) (x : D) (Q X : QP D) : QP D := fun y S => Wr (eqT neg cn f gD x y S) Q X
def eqTQ1 (neg : Bool) (cn : Nat) (f : FM) (gD : List D → List D → List D) (b : EM) (e : En) (Q X : QP D) : QP D := fun x S => Wr (b e S) (eqTQ2 neg cn f gD x Q X) X
theorem eqTQ1_s (neg : Bool) (cn : Nat) : eqTQ1 neg cn f gD b e QD X x S = Wr (b e S) (eqTQ2 neg cn f gD x QD X) X := rfl
theorem eqTQ2_s (neg : Bool) (cn : Nat) : eqTQ2 neg cn f gD x QD X y S = Wr (eqT neg cn f gD x y S) QD X := rfl
theorem wr_eEqT (neg : Bool) (cn : Nat) : Wr (eEqT neg cn f gD a b e S) QD X = Wr (a e S) (eqTQ1 neg cn f gD b e QD X) X := by
  unfold eEqT
  rw [wr_bind]
  congr; funext x S1
  rw [wr_bind, eqTQ1_s]
  congr
end
end G
namespace G
open PySem
end G
namespace G
open PySem
abbrev HL := List (Nat × Cell)
def Sep (S : Store) (L : HL) : Prop := (∀ p, p ∈ L → S[p.1]? = some p.2) ∧ (L.map (·.1)).Nodup
section
variable {S : Store} {L L1 L2 L3 : HL} {n m : Nat} {c c' : Cell}
theorem Sep.get (h : Sep S L) (q : (n, c) ∈ L) : S[n]? = some c := h.1 _ q
theorem Sep.lt (h : Sep S L) (q : n ∈ L.map (·.1)) : n < S.length := by
  obtain ⟨p, hp, rfl⟩ := List.mem_map.mp q
  exact (List.getElem?_eq_some_iff.mp (h.1 p hp)).1
theorem Sep.nil : Sep S [] := ⟨fun _ h => (by cases h), by simp⟩
theorem Sep.perm (h : Sep S L) (p : L.Perm L1) : Sep S L1 := ⟨fun q hq => h.1 q (p.mem_iff.mpr hq), (p.map _).nodup_iff.mp h.2⟩
theorem Sep.sub (h : Sep S L) (p : L1.Sublist L) : Sep S L1 := ⟨fun q hq => h.1 q (p.subset hq), List.Nodup.sublist (p.map _) h.2⟩
theorem Sep.swap (h : Sep S (L1 ++ (L2 ++ L3))) : Sep S (L2 ++ (L1 ++ L3)) := h.perm (by
  rw [← List.append_assoc, ← List.append_assoc]
  exact (List.perm_append_comm).append_right _)
theorem Sep.left (h : Sep S (L1 ++ L2)) : Sep S L1 := h.sub (List.sublist_append_left _ _)
theorem Sep.right (h : Sep S (L1 ++ L2)) : Sep S L2 := h.sub (List.sublist_append_right _ _)
theorem Sep.hd (h : Sep S ((n, c) :: L2)) : S[n]? = some c := h.get (by simp)
theorem Sep.newM (h : Sep S (L1 ++ L2)) (c : Cell) : Sep (S ++ [c]) (L1 ++ (S.length, c) :: L2) := by
  have lt : ∀ i, i ∈ (L1 ++ L2).map (·.1) → i < S.length := fun i hi => h.lt hi
  refine ⟨fun p hp => ?_, ?_⟩
  · have old : p ∈ L1 ++ L2 → (S ++ [c])[p.1]? = some p.2 := fun q => by
      rw [List.getElem?_append_left (lt p.1 (List.mem_map_of_mem q))]; exact h.1 p q
    rcases List.mem_append.mp hp with hp | hp
    · exact old (List.mem_append_left _ hp)
    · rcases List.mem_cons.mp hp with rfl | hp
      · simp
      · exact old (List.mem_append_right _ hp)
  · have nd := h.2
    rw [List.map_append] at nd ⊢
    rw [List.map_cons]
    obtain ⟨n1, n2, n3⟩ := List.nodup_append.mp nd
    refine List.nodup_append.mpr ⟨n1, List.nodup_cons.mpr ⟨fun z => Nat.lt_irrefl _ (lt _ (by rw [List.map_append]; exact List.mem_append_right _ z)), n2⟩, fun a ha b hb e => ?_⟩
    rcases List.mem_cons.mp hb with rfl | hb
    · exact Nat.lt_irrefl _ (e ▸ lt a (by rw [List.map_append]; exact List.mem_append_left _ ha))
    · exact n3 a ha b hb e
theorem Sep.new0 (h : Sep S L) (c : Cell) : Sep (S ++ [c]) ((S.length, c) :: L) := Sep.newM (L1 := []) h c
theorem Sep.app (h : Sep S L) (cs : List Cell) : Sep (S ++ cs) L := ⟨fun p hp => by
  rw [List.getElem?_append_left (h.lt (List.mem_map_of_mem hp))]; exact h.1 p hp, h.2⟩
theorem Sep.cons (h : Sep S L) (hc : S[n]? = some c) (hn : n ∉ L.map (·.1)) : Sep S ((n, c) :: L) := ⟨fun p hp => by
  rcases List.mem_cons.mp hp with rfl | hp
  · exact hc
  · exact h.1 p hp, by rw [List.map_cons]; exact List.nodup_cons.mpr ⟨hn, h.2⟩⟩
theorem Sep.keep {S' : Store} (h : Sep S L) (k : ∀ p, p ∈ L → S'[p.1]? = S[p.1]?) : Sep S' L := ⟨fun p hp => by rw [k p hp]; exact h.1 p hp, h.2⟩
end
end G
local macro_rules | `(tactic| wp_walk using $ts,*) => (let es := ts.getElems; let k := (es[0]!).raw.getId; let all : Array Lean.Name := #[`G.wr_ok, `G.wr_exc, `G.wr_lf, `G.wr_eC, `G.evQ_some, `G.wr_eVar, `G.cB2_s, `G.cB1_s, `G.wr_eBin, `G.cS2_s, `G.cS1_s, `G.wr_eBinS, `G.asQ_bl, `G.wr_tB, `G.truQ_s, `G.wr_tT, `G.notQ_s, `G.wr_tNt, `G.anQ_t, `G.anQ_f, `G.wr_tAn, `G.orQ_t, `G.orQ_f, `G.wr_tOr, `G.eaB_t, `G.eaB_f, `G.eaQ_s, `G.wr_eAn, `G.eoB_t, `G.eoB_f, `G.eoQ_s, `G.wr_eOr, `G.enB_s, `G.enQ_s, `G.wr_eNt, `G.eiQ_t, `G.eiQ_f, `G.wr_eIf, `G.negQ_int, `G.wr_eNeg, `G.wr_aNil, `G.cC2_s, `G.cC1_s, `G.wr_aCons, `G.tupQ_s, `G.lstQ_s, `G.newQ_s, `G.wr_eTup, `G.wr_eLst, `G.wr_eNew, `G.caQ_s, `G.wr_eCa, `G.clQ_s, `G.wr_eCall, `G.nAQ_s, `G.wr_nA, `G.tyQ_s, `G.wr_eIsTy, `G.icQ_s, `G.wr_eIsC, `G.mt2_s, `G.mt1_s, `G.wr_eMt, `G.wr_oNone, `G.oQ_int, `G.wr_oSome, `G.sl3_s, `G.sl2_s, `G.sl1_s, `G.wr_eSl, `G.kk2_s, `G.kk1_s, `G.wr_eCallK, `G.kk0_s, `G.wr_eCallK0, `G.wr_gN, `G.sb3_s, `G.sb2_s, `G.sb1_s, `G.wr_gSb, `G.wr_gsNil, `G.gs1_s, `G.wr_gsCons, `G.wr_gTp, `G.wr_gTp_rD, `G.xe_s, `G.sq_nx, `G.sq_rt, `G.sq_bk, `G.sq_ct, `G.sq_ex, `G.sq_xe, `G.ws_nxt, `G.ws_sNop, `G.ws_sSeq, `G.ws_sBrk, `G.ws_sCnt, `G.dropQ_s, `G.ws_sDrop, `G.ws_sRet, `G.ws_sRetN, `G.ifQ_t, `G.ifQ_f, `G.ws_sIf, `G.asg1_s, `G.ws_sAsg, `G.setQ_s, `G.ws_sSet, `G.parQ_s, `G.ws_sPar, `G.ws_sRaise, `G.fn_nx, `G.fn_rt, `G.fn_ex, `G.fn_xe, `G.su_nx, `G.su_bk, `G.su_ct, `G.su_rt, `G.trQ_t, `G.trQ_f, `G.tr_nx, `G.tr_rt, `G.tr_bk, `G.tr_ct, `G.tr_ex, `G.ws_sTry, `G.forQ_s, `G.ws_sFor, `G.lp_nx, `G.lp_rt, `G.lp_bk, `G.lp_ct, `G.lp_ex, `G.lp_xe, `G.ws_fi_nil, `G.bodyQ_s, `G.mid_nx, `G.mid_rt, `G.mid_bk, `G.mid_ct, `G.mid_ex, `G.mid_xe, `G.lc2_s, `G.lc1_s, `G.wr_eLc, `G.lcn2_s, `G.lcn1_s, `G.wr_eLcN, `G.wipe_nil, `G.wipe_cons, `G.wr_tTrue, `G.wr_lc_nil, `G.tgQ_some, `G.ly_s, `G.lt1_t, `G.lt1_f, `G.lg_s, `G.eqQ_s, `G.exQ_s, `G.seqQ_tup, `G.seqQ_lst, `G.seqQ_scr, `G.seqQ_rD, `G.wr_iSeq, `G.rgQ_int, `G.wr_iRg1, `G.rgQ2_int, `G.wr_iRg2, `G.ch3_t, `G.ch3_f, `G.ch2_s, `G.ch1_s, `G.wr_eChain, `G.flQ_s, `G.wr_eFld, `G.fldD_ins, `G.stQ_s, `G.sf2_s, `G.sf1_s, `G.ws_sFldM, `G.mkQ2_s, `G.mkQ1_s, `G.wr_eMk, `G.wr_eMk0, `G.ap2_s, `G.ap1_s, `G.wr_eApp, `G.zpQ_s, `G.wr_iZip, `G.zipR_tup, `G.zipR_lst, `G.srQ_s, `G.wr_iStrM, `G.strR_s, `G.ioQ_s, `G.wr_eIsO, `G.dAddS_int, `G.wr_gStr_tup, `G.wr_gStr_lst, `G.fTuple_lst, `G.fTuple_tup, `List.take_succ_cons, `List.take_zero, `List.drop_succ_cons, `List.drop_zero, `List.getElem?_cons_zero, `List.getElem?_cons_succ, `List.set_cons_zero, `List.set_cons_succ, `List.map_cons, `List.map_nil, `List.length_cons, `List.length_nil, `List.cons_append, `List.nil_append, `List.replicate_succ, `List.replicate_zero, `List.append_nil, `true_and, `and_true, `and_self, `if_true, `ite_true, `if_false, `ite_false, `Bool.false_eq_true, `Bool.not_true, `Bool.not_false, `Bool.not_not, `decide_true, `decide_false, `decide_eq_true_eq, `not_false_eq_true, `not_true_eq_false, `reduceCtorEq, `PySem.sizeLine_eq, `Option.map_some, `Option.some.injEq, `Nat.reduceSub, `Nat.reduceAdd, `Nat.reduceLeDiff, `Nat.reduceEqDiff, `Nat.zero_add, `Nat.reduceBEq, `List.contains_cons, `List.contains_nil, `beq_self_eq_true, `Bool.true_or, `Bool.or_true, `Bool.false_or, `Bool.or_false, `List.lookup_cons, `List.lookup_nil, `Int.reduceEq, `Int.reduceNe, `Int.reduceLT, `Int.reduceLE, `Int.reduceNeg, `Int.reduceAdd, `Int.reduceSub, `Int.cast_ofNat_Int, `ne_eq, `G.cmpI_s, `G.dGt, `G.dGe, `G.dLt, `G.dLe, `G.dAdd_int, `G.dSub_int, `G.dEq_int, `G.dNe_int, `G.dEq_bl, `G.dNe_bl, `G.truD_bl, `G.isTy_int, `G.isTy_bl, `G.isTy_tup, `G.fLen_tup, `G.fLen_scr, `G.fLen_lst, `G.fAbs_int, `G.fMax_int, `G.fMin_int, `G.ixD_tup, `G.ixD_lst, `G.ixD_scr, `G.isTy_rD, `G.fLen_rD, `G.ix_rD0, `G.ix_rD1, `G.dEq_rD, `G.dNe_rD, `G.dIs_rD, `G.dIsNot_rD, `G.Tn.is, `G.me3_s, `G.me2_s, `G.me1_s, `G.wr_eMeth, `G.mk2_s, `G.mk1_s, `G.wr_eMethK, `G.m01_s, `G.wr_eMeth0, `G.wr_eNewD, `G.dg3_s, `G.dg2_s, `G.dg1_s, `G.wr_eDGet2, `G.dh2_s, `G.dh1_s, `G.wr_eDGet1, `G.dp3_s, `G.dp2_s, `G.dp1_s, `G.wr_eDPop2, `G.dq2_s, `G.dq1_s, `G.wr_eDPop1, `G.se2_s, `G.se1_s, `G.wr_gSbE, `G.ssQ_s, `G.wr_eSortSet, `G.an2_s, `G.an1_s, `G.wr_eAddN, `G.celQ_tup, `G.celQ_lst, `G.celQ_scr, `G.wr_iCel, `G.forcQ_s, `G.ws_sForC, `G.lcc1_s, `G.wr_eLcC, `G.lcd1_s, `G.wr_eLcCN, `G.keyD_int, `G.keyD_str, `Option.isSome_some, `G.fmQ_s, `G.wr_eFmt, `G.jsQ_str, `G.wr_js_nil, `G.wr_js_cons, `G.wr_eJs, `G.s4Q_str, `G.soQ_s, `G.wr_eStrO, `G.dAddE_0, `G.wr_eCallV, `G.chQ_s, `G.wr_eCallH, `G.wr_lamF, `G.oj_s, `G.enuQ_s, `G.wr_iEnum, `G.enR_tup, `G.enR_lst, `G.lrQ_int, `G.wr_eLr, `G.lrnQ_int, `G.wr_eLrN, `G.agQ_s, `G.auP_s, `G.ws_sAug, `G.augR_int, `G.pp2_s, `G.pp1_s, `G.wr_ePop, `G.wr_gSq_tup, `G.wr_gSq_lst, `G.lnQ_lst, `G.lnQ_tup, `G.wr_eListN, `G.rvQ_lst, `G.wr_eRev, `G.rfQ_s, `G.ws_sRaiseF, `G.trG_nx, `G.trG_rt, `G.trG_bk, `G.trG_ct, `G.trG_ex, `G.ws_sTryG, `G.ws_hd_nil, `G.hdP_t, `G.hdP_f, `G.ws_hd_cons, `G.setO_some, `G.setO_none, `G.ws_suS, `G.suN_nx, `G.suN_rt, `G.suN_bk, `G.suN_ct, `G.ws_suN, `G.iyQ_s, `G.wr_eIsY, `G.isY_exc, `G.fyQ_s, `G.wr_eFldY, `G.fldY_exc, `G.toQ_s, `G.wr_eIsTyO, `G.isTyO_tup, `G.isTyO_lst, `G.isTyO_int, `G.tm2_s, `G.tm1_s, `G.wr_eTm, `G.rgQN_int, `G.wr_iRgN, `G.gf1_s, `G.wr_gFl, `G.as3_s, `G.as2_s, `G.as1_s, `G.ws_sAsg3, `G.at1_s, `G.ws_sAsg2, `G.ws_sFldA, `G.ds3_s, `G.ds2_s, `G.ds1_s, `G.wr_eDSetd, `G.dispQ_s, `G.wr_eDisp, `G.rm2_s, `G.rm1_s, `G.wr_eRem, `G.parQ3_s, `G.ws_sPar3, `G.th_nx, `G.th_rt, `G.th_xe, `G.wr_iDv, `G.wr_iDi, `G.wr_iDk, `G.wr_iTk, `G.wr_eTs1, `G.tu2_s, `G.tu1_s, `G.wr_eTsU, `G.dct1_s, `G.dcQ_s, `G.wr_eDcT, `G.dt1_t, `G.dt1_f, `G.dgg_s]; let cut : Nat := if k == `zstop || k == `zust then 1 else if k == `zstf || k == `zxtf then 2 else if k == `zstq then 3 else 0; let sel := all.filter fun n => !((cut == 1 && n == `G.ws_sIf) || (cut == 2 && (n == `G.ws_sIf || n == `G.ws_sFor || n == `G.ws_sForC || n == `G.ws_sForR)) || (cut == 3 && n.getString!.startsWith "ws_")); let ids : Lean.TSyntaxArray `term := sel.map fun n => ⟨(Lean.mkIdent n).raw⟩; let r1 : Lean.TSyntaxArray `term := ids ++ es.extract 1 es.size; let r2 : Lean.TSyntaxArray `term := ids ++ es.extract 2 es.size; let r0 : Lean.TSyntaxArray `term := ids ++ es; if k == `zust || k == `zuse then `(tactic| (have hq0 := $(es[1]!); simp only [$[$r2:term],*] at hq0; exact hq0)) else if k == `zxtf then `(tactic| try simp -implicitDefEqProofs only [$[$r1:term],*]) else if cut == 0 then `(tactic| try simp only [$[$r0:term],*]) else `(tactic| try simp only [$[$r1:term],*]))
namespace C
open PySem G
noncomputable section
def g_Bookings_spots_2_ : List D → List D → List D := fun ds es => [(ds.getD 0 .non), (ds.getD 1 .non)]
def g_Bookings_sum_at_3_ : List D → List D → List D := fun ds es => [(ds.getD 0 .non), (ds.getD 1 .non), (ds.getD 2 .non)]
def g_Bookings_most_booked_3_ : List D → List D → List D := fun ds es => [(ds.getD 0 .non), (ds.getD 1 .non), (ds.getD 2 .non)]
def b_Bookings_bookF (N : Nat) : SM := (sSeq (sDrop (eCall (C.m_check_number N) (nA 1 (aCons (eVar 1) aNil))))
    (sSeq (sDrop (eCall (C.m_check_time N) (nA 1 (aCons (eVar 2) aNil))))
    (sSeq (sIf (tOr' (tAn (tB (eBin dNe (eVar 3) (eC (.tup [.int 0, .int 1])))) (tNt (tT (eCall (C.m_is_rate N) (nA 1 (aCons (eVar 3) aNil)))))) (tNt (tT (eCall (C.m_is_time N) (nA 1 (aCons (eVar 3) aNil)))))) (sRaiseF 6 5 (eVar 3)) sNop)
    (sSeq (sSet 4 (eLcCN (iCel (eDPop2 (eFld [34, 45] 9 (eVar 0)) (eVar 1) (eLst aNil))) (.nm 5) (tT (eCall (C.m_is_before N) (nA 2 (aCons (eBinS ixD (eVar 5) (eC (.int 0))) (aCons (eVar 2) aNil))))) (eVar 5) [5]))
    (sSeq (sIf (tB (eBin dNe (eIf (tT (eVar 4)) (eBinS ixD (eBinS ixD (eVar 4) (eNeg (eC (.int 1)))) (eC (.int 1))) (eC (.tup [.int 0, .int 1]))) (eVar 3))) (sDrop (eApp (eVar 4) (aCons (eTup (aCons (eVar 2) (aCons (eVar 3) aNil))) aNil))) sNop)
    (sIf (tT (eVar 4)) (sAsg (eVar 4) (gSbE (eFld [34, 45] 9 (eVar 0)) (eVar 1))) sNop))))))
def m_Bookings_bookF (N : Nat) : FM := fnM 6 (b_Bookings_bookF N)
def b_Bookings_spots (N : Nat) : SM := (sSeq (sSet 2 (eTs1 (eVar 1)))
    (sSeq (sLk (loE (eFld [34, 45] 9 (eVar 0))) (sFor (iDv (eFld [34, 45] 9 (eVar 0))) (gN 3) (sDrop (eTsU (eVar 2) (eDcT (iCel (eVar 3)) (.nm 7) (tT (eCall (C.m_is_before N) (nA 2 (aCons (eVar 1) (aCons (eBinS ixD (eVar 7) (eC (.int 0))) aNil))))) (eBinS ixD (eVar 7) (eC (.int 0))) [7])))))
    (sSeq (sSet 4 (eNew aNil))
    (sSeq (sLk (loE (eVar 2)) (sFor (iTk (eVar 2)) (gN 5) (sSeq (sSet 6 (eCa fLen (aCons (eLc (iTk (eVar 2)) (.nm 8) (tT (eCall (C.m_is_before N) (nA 2 (aCons (eVar 8) (aCons (eVar 5) aNil))))) (eVar 8) [8]) aNil)))
    (sDrop (eApp (eVar 4) (aCons (eTup (aCons (eVar 6) (aCons (eVar 5) aNil))) aNil))))))
    (sRet (eLc (iSeq (eCa fSortP (aCons (eVar 4) aNil))) (.tp [6, 5]) tTrue (eVar 5) [6, 5]))))))
def m_Bookings_spots (N : Nat) : FM := fnM 9 (b_Bookings_spots N)
def b_Bookings_sum_at (N : Nat) : SM := (sSeq (sSet 3 (eC (.tup [.int 0, .int 1])))
    (sSeq (sLk (loE (eFld [34, 45] 9 (eVar 0))) (sFor (iDi (eFld [34, 45] 9 (eVar 0))) (gTp 2 (gsCons' (gN 4) (gsCons' (gN 5) gsNil))) (sIf (tB (eBin dNe (eVar 4) (eVar 2))) (sSet 3 (eCall (C.m_added N) (nA 2 (aCons (eVar 3) (aCons (eCall (C.m_at_time N) (nA 2 (aCons (eVar 5) (aCons (eVar 1) aNil)))) aNil))))) sNop)))
    (sRet (eVar 3))))
def m_Bookings_sum_at (N : Nat) : FM := fnM 6 (b_Bookings_sum_at N)
def b_Bookings_most_booked (N : Nat) : SM := (sSeq (sDrop (eCall (C.m_check_time N) (nA 1 (aCons (eVar 1) aNil))))
    (sSeq (sIf (tB (eBin dIsNot (eVar 2) (eC .non))) (sDrop (eCall (C.m_check_number N) (nA 1 (aCons (eVar 2) aNil)))) sNop)
    (sSeq (sSet 3 (eC (.tup [.int 0, .int 1])))
    (sSeq (sFor (iSeq (eMeth 34 (m_Bookings_spots N) g_Bookings_spots_2_ 1 0 (eVar 0) (aCons (eVar 1) aNil) aNil)) (gN 4) (sSet 3 (eCall (C.m_greater N) (nA 2 (aCons (eVar 3) (aCons (eMeth 34 (m_Bookings_sum_at N) g_Bookings_sum_at_3_ 2 0 (eVar 0) (aCons (eVar 4) (aCons (eVar 2) aNil)) aNil) aNil))))))
    (sRet (eVar 3))))))
def m_Bookings_most_booked (N : Nat) : FM := fnM 5 (b_Bookings_most_booked N)
abbrev Ls := List (Int × Nat × List (Rat × Rat))
def lnD (ls : Ls) : List (L2.Key × D) := ls.map fun x => (.inl x.1, .loc x.2.1)
def lnH (ls : Ls) : HL := ls.map fun x => (x.2.1, .lst (x.2.2.map rowD))
def bkH (n n1 : Nat) (ls : Ls) : HL := (n, .obj 34 [(9, .loc n1)]) :: (n1, .dk (lnD ls)) :: lnH ls
def lineOf (ls : Ls) (i : Int) : List (Rat × Rat) := match ls.find? fun x => decide (x.1 = i) with
  | some x => x.2.2
  | none => []
structure LsOk (ls : Ls) (c m : Nat) : Prop where
  nd : (ls.map (·.1)).Nodup
  len : ls.length ≤ c
  tot : (ls.map fun x => x.2.2.length).sum ≤ c
  each : ∀ x, x ∈ ls → 0 ≤ x.1 ∧ ∀ p, p ∈ x.2.2 → Bt p.1 m ∧ 0 ≤ p.1 ∧ Bt p.2 31 ∧ 0 ≤ p.2 ∧ p.2 ≤ 1
theorem LsOk.mono {ls : Ls} {c c' m m' : Nat} (h : LsOk ls c m) (hc : c ≤ c') (hm : m ≤ m') : LsOk ls c' m' :=
  ⟨h.nd, Nat.le_trans h.len hc, Nat.le_trans h.tot hc, fun x hx => ⟨(h.each x hx).1, fun p hp => ⟨((h.each x hx).2 p hp).1.mono hm, ((h.each x hx).2 p hp).2⟩⟩⟩
theorem sum_mem {l : List Nat} {k : Nat} (h : k ∈ l) : k ≤ l.sum := by
  induction l with
  | nil => cases h
  | cons a l ih =>
    rw [List.sum_cons]
    rcases List.mem_cons.mp h with rfl | h
    · omega
    · have := ih h; omega
theorem LsOk.line {ls : Ls} {c m : Nat} (h : LsOk ls c m) {x : Int × Nat × List (Rat × Rat)} (hx : x ∈ ls) : x.2.2.length ≤ c := Nat.le_trans (sum_mem (List.mem_map.mpr ⟨x, hx, rfl⟩)) h.tot
def bookA (ls : Ls) (i : Int) (s r : Rat) (a : Nat) : Ls := (ls.filter fun x => decide (x.1 ≠ i)) ++ (if bookL (lineOf ls i) s r = [] then [] else [(i, a, bookL (lineOf ls i) s r)])
def sumA (ls : Ls) (t : Rat) (but : Option Int) : Rat := ls.foldl (fun acc x => if but = some x.1 then acc else acc + atT x.2.2 t) 0
def rI (q : Rat) : List Int := [q.num, (q.den : Int)]
def addQ (K : List Rat) (q : Rat) : List Rat := if q ∈ K then K else K ++ [q]
def unQ (K M : List Rat) : List Rat := M.foldl addQ K
def rkQ (K : List Rat) (t : Rat) : Nat := (K.filter fun u => decide (u < t)).length
def sortQ (K : List Rat) : List Rat := K.mergeSort fun a b => decide ((rkQ K a : Int) ≤ rkQ K b)
def behL (l : List (Rat × Rat)) (s : Rat) : List Rat := ((l.filter fun p => decide (s < p.1)).map (·.1)).foldl addQ []
def knQ (ls : Ls) (s : Rat) : List Rat := ls.foldl (fun K x => unQ K (behL x.2.2 s)) [s]
def mostA (ls : Ls) (s : Rat) (but : Option Int) : Rat := (sortQ (knQ ls s)).foldl (fun f t => max f (sumA ls t but)) 0
structure IsMost (f : Rat → Rat) (s M : Rat) : Prop where
  nn : 0 ≤ M
  le : ∀ t, s ≤ t → f t ≤ M
  at_ : M = 0 ∨ ∃ t, s ≤ t ∧ f t = M
theorem foldmax (f : Rat → Rat) (R : List Rat) (z : Rat) : z ≤ R.foldl (fun g t => max g (f t)) z ∧ (∀ t, t ∈ R → f t ≤ R.foldl (fun g t => max g (f t)) z) ∧ (R.foldl (fun g t => max g (f t)) z = z ∨ ∃ t, t ∈ R ∧ f t = R.foldl (fun g t => max g (f t)) z) := by
  induction R generalizing z with
  | nil => exact ⟨(by show z ≤ z; grind), fun t ht => (by cases ht), .inl rfl⟩
  | cons u R ih =>
    obtain ⟨h1, h2, h3⟩ := ih (max z (f u))
    rw [List.foldl_cons]
    have m1 : z ≤ max z (f u) ∧ f u ≤ max z (f u) ∧ (max z (f u) = z ∨ max z (f u) = f u) := by
      rw [Rat.max_def]; split <;> grind
    refine ⟨by grind, fun t ht => ?_, ?_⟩
    · rcases List.mem_cons.mp ht with rfl | ht
      · grind
      · exact h2 t ht
    · rcases h3 with h3 | ⟨t, ht, e⟩
      · rcases m1.2.2 with e | e
        · exact .inl (h3.trans e)
        · exact .inr ⟨u, List.mem_cons_self, (h3.trans e).symm⟩
      · exact .inr ⟨t, List.mem_cons_of_mem _ ht, e⟩
theorem most_steps {f : Rat → Rat} {s : Rat} {R : List Rat} (hs : s ∈ R) (hR : ∀ t, t ∈ R → s ≤ t) (hf : ∀ u t, u ∈ R → u ≤ t → (∀ v, v ∈ R → v ≤ t → v ≤ u) → f t = f u) : IsMost f s (R.foldl (fun g t => max g (f t)) 0) := by
  obtain ⟨h1, h2, h3⟩ := foldmax f R 0
  have top : ∀ t, s ≤ t → ∃ u, u ∈ R ∧ u ≤ t ∧ ∀ v, v ∈ R → v ≤ t → v ≤ u := fun t ht => by
    have aux : ∀ (l : List Rat) (z : Rat), z ≤ t → ∃ u, (u = z ∨ u ∈ l) ∧ u ≤ t ∧ z ≤ u ∧ ∀ v, v ∈ l → v ≤ t → v ≤ u := by
      intro l
      induction l with
      | nil => exact fun z hz => ⟨z, .inl rfl, hz, by grind, fun v hv => by cases hv⟩
      | cons w l ih =>
        intro z hz
        by_cases c : w ≤ t ∧ z < w
        · obtain ⟨u, q1, q2, q3, q4⟩ := ih w c.1
          refine ⟨u, ?_, q2, by grind, fun v hv hvt => ?_⟩
          · rcases q1 with rfl | q1
            · exact .inr List.mem_cons_self
            · exact .inr (List.mem_cons_of_mem _ q1)
          · rcases List.mem_cons.mp hv with rfl | hv
            · exact q3
            · exact q4 v hv hvt
        · obtain ⟨u, q1, q2, q3, q4⟩ := ih z hz
          refine ⟨u, ?_, q2, q3, fun v hv hvt => ?_⟩
          · exact q1.imp id fun q => List.mem_cons_of_mem _ q
          · rcases List.mem_cons.mp hv with rfl | hv
            · have : ¬ z < v := fun z => c ⟨hvt, z⟩
              grind
            · exact q4 v hv hvt
    obtain ⟨u, q1, q2, q3, q4⟩ := aux R s ht
    exact ⟨u, q1.elim (fun e => e ▸ hs) id, q2, q4⟩
  refine ⟨h1, fun t ht => ?_, ?_⟩
  · obtain ⟨u, q1, q2, q3⟩ := top t ht
    rw [hf u t q1 q2 q3]; exact h2 u q1
  · rcases h3 with h3 | ⟨t, ht, e⟩
    · exact .inl h3
    · exact .inr ⟨t, hR t ht, e⟩
end
end C
namespace C
open PySem G
noncomputable section
abbrev mk_picked_of : Mk2 := (("picked_of", none), "picked_of.<locals>.<lambda>")
def g_Room_seat_2_ : List D → List D → List D := fun ds es => [(ds.getD 0 .non), (ds.getD 1 .non)]
def g_Room_ask_3_ : List D → List D → List D := fun ds es => [(ds.getD 0 .non), (ds.getD 1 .non), (ds.getD 2 .non)]
def g_Room_granted_5_ : List D → List D → List D := fun ds es => [(ds.getD 0 .non), (ds.getD 1 .non), (ds.getD 2 .non), (ds.getD 3 .non), (ds.getD 4 .non)]
def g_Seat___init___4_ : List D → List D → List D := fun ds es => [(ds.getD 0 .non), (ds.getD 1 .non), (ds.getD 2 .non), (ds.getD 3 .non)]
def g_Room_enter_6_ : List D → List D → List D := fun ds es => [(ds.getD 0 .non), (ds.getD 1 .non), (ds.getD 2 .non), (ds.getD 3 .non), (ds.getD 4 .non), (ds.getD 5 .non)]
def g_Room_waiting_seats_1_ : List D → List D → List D := fun ds es => [(ds.getD 0 .non)]
def g_Room_next_of_2_ : List D → List D → List D := fun ds es => [(ds.getD 0 .non), (ds.getD 1 .non)]
def g_Room_begin_4_ : List D → List D → List D := fun ds es => [(ds.getD 0 .non), (ds.getD 1 .non), (ds.getD 2 .non), (ds.getD 3 .non)]
def g_Room_go_2_ : List D → List D → List D := fun ds es => [(ds.getD 0 .non), (ds.getD 1 .non)]
def g_Room_leave_2_ : List D → List D → List D := fun ds es => [(ds.getD 0 .non), (ds.getD 1 .non)]
def g_Client___init___2_least : List D → List D → List D := fun ds es => [(ds.getD 0 .non), (ds.getD 1 .non), (es.getD 0 .non), (.non), ((.int 1))]
def g_Room_put_5_ : List D → List D → List D := fun ds es => [(ds.getD 0 .non), (ds.getD 1 .non), (ds.getD 2 .non), (ds.getD 3 .non), (ds.getD 4 .non)]
def g_Room_set_least_4_ : List D → List D → List D := fun ds es => [(ds.getD 0 .non), (ds.getD 1 .non), (ds.getD 2 .non), (ds.getD 3 .non)]
def g_Room_set_most_3_ : List D → List D → List D := fun ds es => [(ds.getD 0 .non), (ds.getD 1 .non), (ds.getD 2 .non)]
def g_Room_set_weight_3_ : List D → List D → List D := fun ds es => [(ds.getD 0 .non), (ds.getD 1 .non), (ds.getD 2 .non)]
def b_by_clock (N : Nat) : SM := (sSeq (sAsg (eVar 0) (gTp 3 (gsCons' (gN 2) (gsCons' (gN 3) (gsCons' (gN 4) gsNil)))))
    (sRet (eAn (eBin dNe (eFld [33, 42] 1 (eVar 3)) (eC (.tup [.int 0, .int 1]))) (eNt (eCall (C.m_is_before N) (nA 2 (aCons (eVar 1) (aCons (eBinS ixD (eVar 4) (eC (.int 0))) aNil))))))))
def m_by_clock (N : Nat) : FM := fnM 5 (b_by_clock N)
def b_by_gate (N : Nat) : SM := (sSeq (sAsg (eVar 0) (gTp 3 (gsCons' (gN 2) (gsCons' (gN 3) (gsCons' (gN 4) gsNil)))))
    (sRet (eOr (eBin dIs (eFld [33, 42] 2 (eVar 3)) (eC .non)) (eNt (eCall (C.m_is_before N) (nA 2 (aCons (eVar 1) (aCons (eBinS ixD (eVar 4) (eC (.int 1))) aNil))))))))
def m_by_gate (N : Nat) : FM := fnM 5 (b_by_gate N)
def b_first_of (fv : Nat) (cp : List (Option D)) (fk : FM) (N : Nat) : SM := (sSeq (sAsg (eVar 1) (gStr 1 (gsCons' (gN 3) (gsCons' (gN 4) gsNil))))
    (sSeq (sFor (iSeq (eVar 4)) (gN 5) (sIf (tT (eCall (C.m_is_before N) (nA 2 (aCons (eCallV 2 fv 6 cp fk (aCons (eBinS ixD (eVar 0) (eVar 5)) aNil)) (aCons (eCallV 2 fv 6 cp fk (aCons (eBinS ixD (eVar 0) (eVar 3)) aNil)) aNil))))) (sSet 3 (eVar 5)) sNop))
    (sRet (eVar 3))))
def m_first_of (fv : Nat) (cp : List (Option D)) (fk : FM) (N : Nat) : FM := fnH 6 cp (b_first_of fv cp fk N)
def b_next_moment (N : Nat) : SM := (sSeq (sSet 1 (eLcN (iSeq (eVar 0)) (.tp [5, 6, 7]) tTrue (eBinS ixD (eVar 7) (eC (.int 1))) [5, 6, 7]))
    (sSeq (sAug 1 (eLc (iSeq (eVar 0)) (.tp [5, 6, 7]) (tB (eBin dNe (eFld [33, 42] 1 (eVar 6)) (eC (.tup [.int 0, .int 1])))) (eBinS ixD (eVar 7) (eC (.int 0))) [5, 6, 7]))
    (sSeq (sIf (tB (eBinS dEqS (eVar 1) (eLst aNil))) (sRet (eC .non)) sNop)
    (sSeq (sAsg (eVar 1) (gStr 1 (gsCons' (gN 2) (gsCons' (gN 3) gsNil))))
    (sSeq (sFor (iSeq (eVar 3)) (gN 4) (sIf (tT (eCall (C.m_is_before N) (nA 2 (aCons (eVar 4) (aCons (eVar 2) aNil))))) (sSet 2 (eVar 4)) sNop))
    (sRet (eVar 2)))))))
def m_next_moment (N : Nat) : FM := fnM 8 (b_next_moment N)
def b_rival_due (N : Nat) : SM := (sSeq (sAsg (eVar 0) (gTp 3 (gsCons' (gN 1) (gsCons' (gN 2) (gsCons' (gN 3) gsNil)))))
    (sRet (eCall (C.m_due_of N) (nA 3 (aCons (eVar 3) (aCons (eVar 1) (aCons (eVar 2) aNil)))))))
def m_rival_due (N : Nat) : FM := fnM 4 (b_rival_due N)
def b_picked_of (N : Nat) : SM := (sSeq (sSet 3 (eLc (iEnum (aCons (eVar 0) aNil)) (.tp [4, 5]) (tT (eCall (m_by_clock N) (nA 2 (aCons (eVar 5) (aCons (eVar 1) aNil))))) (eVar 4) [4, 5]))
    (sSeq (sIf (tB (eBin dNe (eVar 3) (eLst aNil))) (sRet (eTup (aCons (eC (.str "least")) (aCons (eCallH (fun fv cp fk => m_first_of fv cp fk N) [] (fun _ ds S => if ds.length = 1 then m_rival_due N ds S else .stuck) (fun _ => true) 2 (aCons (eVar 0) (aCons (eVar 3) aNil))) aNil)))) sNop)
    (sSeq (sSet 3 (eLc (iEnum (aCons (eVar 0) aNil)) (.tp [4, 5]) (tT (eCall (m_by_gate N) (nA 2 (aCons (eVar 5) (aCons (eVar 1) aNil))))) (eVar 4) [4, 5]))
    (sSeq (sIf (tB (eBin dNe (eVar 3) (eLst aNil))) (sRet (eTup (aCons (eC (.str "share")) (aCons (eCallH (fun fv cp fk => m_first_of fv cp fk N) [2] (lamF [2] 1 (eCall (C.m_greater N) (nA 2 (aCons (eBinS ixD (eBinS ixD (eVar 0) (eC (.int 2))) (eC (.int 2))) (aCons (eVar 1) aNil))))) (tbS 0 mk_picked_of.1 mk_picked_of.2) 2 (aCons (eVar 0) (aCons (eVar 3) aNil))) aNil)))) sNop)
    (sRet (eTup (aCons (eC (.str "none")) (aCons (eCall (m_next_moment N) (nA 1 (aCons (eVar 0) aNil))) aNil))))))))
def m_picked_of (N : Nat) : FM := fnM 6 (b_picked_of N)
def b_Client___init__F (N : Nat) : SM := (sSeq (sIf (tNt (tT (eCall (C.m_is_name N) (nA 1 (aCons (eVar 1) aNil))))) (sRaise 5) sNop)
    (sSeq (sIf (tNt (tT (eCall (C.m_is_least N) (nA 1 (aCons (eVar 2) aNil))))) (sRaiseF 6 5 (eVar 2)) sNop)
    (sSeq (sIf (tAn (tB (eBin dIsNot (eVar 3) (eC .non))) (tOr' (tNt (tT (eCall (C.m_is_rate N) (nA 1 (aCons (eVar 3) aNil))))) (tT (eCall (C.m_is_before N) (nA 2 (aCons (eVar 3) (aCons (eVar 2) aNil))))))) (sRaiseF 6 5 (eVar 3)) sNop)
    (sSeq (sIf (tNt (tT (eCall (C.m_is_weight N) (nA 1 (aCons (eVar 4) aNil))))) (sRaise 7) sNop)
    (sSeq (sFldM [33, 42, 44, 46] 0 (eVar 0) (eVar 1))
    (sSeq (sFldM [33, 42] 1 (eVar 0) (eVar 2))
    (sSeq (sFldM [33, 42] 2 (eVar 0) (eVar 3))
    (sFldM [33, 42, 44] 3 (eVar 0) (eVar 4)))))))))
def m_Client___init__F (N : Nat) : FM := fnM 5 (b_Client___init__F N)
def b_check_truth (N : Nat) : SM := (sIf (tNt (tT (eIsTy .bool (eVar 0)))) (sRaise 15) sNop)
def m_check_truth (N : Nat) : FM := fnM 1 (b_check_truth N)
def b_Room_seat (N : Nat) : SM := (sSeq (sForC (iCel (eFld [36] 38 (eVar 0))) (gN 2) (sIf (tAn (tT (eCall (C.m_is_name N) (nA 1 (aCons (eVar 1) aNil)))) (tB (eBin dEq (eFld [33, 42, 44, 46] 0 (eFld [35] 25 (eVar 2))) (eVar 1)))) (sRet (eVar 2)) sNop))
    (sRaiseF 24 0 (eVar 1)))
def m_Room_seat (N : Nat) : FM := fnM 3 (b_Room_seat N)
def b_Room_ask (N : Nat) : SM := (sSeq (sSet 3 (eMeth 36 (m_Room_seat N) g_Room_seat_2_ 1 0 (eVar 0) (aCons (eVar 1) aNil) aNil))
    (sSeq (sDrop (eCall (C.m_check_size N) (nA 1 (aCons (eVar 2) aNil))))
    (sSeq (sIf (tB (eBin dGe (eCa fLen (aCons (eFld [35, 40, 42, 46] 31 (eVar 3)) aNil)) (eC (.int 40)))) (sRaise 31) sNop)
    (sSeq (sIf (tNt (tT (eFld [35, 40, 42, 46] 31 (eVar 3)))) (sFldM [35, 42] 32 (eVar 3) (eCall (C.m_lifted N) (nA 2 (aCons (eFld [35, 42] 32 (eVar 3)) (aCons (eFld [36, 43] 10 (eVar 0)) aNil))))) sNop)
    (sSeq (sSet 4 (eCa fLen (aCons (eFld [36] 40 (eVar 0)) aNil)))
    (sSeq (sDrop (eApp (eFld [35, 40, 42, 46] 31 (eVar 3)) (aCons (eVar 4) aNil)))
    (sSeq (sDrop (eApp (eFld [36] 40 (eVar 0)) (aCons (eVar 2) aNil)))
    (sSeq (sDrop (eApp (eFld [36] 21 (eVar 0)) (aCons (eTup (aCons (eC (.str "waits")) aNil)) aNil)))
    (sSeq (sDrop (eApp (eFld [36] 37 (eVar 0)) (aCons (eTup (aCons (eC (.str "ask")) (aCons (eFld [36, 43] 10 (eVar 0)) (aCons (eVar 1) (aCons (eVar 2) aNil))))) aNil)))
    (sRet (eVar 4)))))))))))
def m_Room_ask (N : Nat) : FM := fnM 5 (b_Room_ask N)
def b_Room_granted (N : Nat) : SM := (sSeq (sSet 5 (eMeth 34 (C.m_Bookings_most_booked N) C.g_Bookings_most_booked_3_ 2 0 (eFld [36, 41] 13 (eVar 0)) (aCons (eVar 2) (aCons (eVar 3) aNil)) aNil))
    (sSeq (sSet 6 (eCall (C.m_lowered N) (nA 2 (aCons (eC (.tup [.int 1, .int 1])) (aCons (eVar 5) aNil)))))
    (sSeq (sIf (tNt (tT (eCall (C.m_is_before N) (nA 2 (aCons (eVar 6) (aCons (eVar 1) aNil)))))) (sRet (eVar 1)) sNop)
    (sSeq (sIf (tT (eVar 4)) (sRet (eVar 6)) sNop)
    (sRaiseF 30 7 (eCall (C.m_added N) (nA 2 (aCons (eVar 5) (aCons (eVar 1) aNil)))))))))
def m_Room_granted (N : Nat) : FM := fnM 7 (b_Room_granted N)
def b_Seat___init__ (N : Nat) : SM := (sSeq (sFldM [35, 40, 42, 44] 34 (eVar 0) (eVar 1))
    (sSeq (sFldM [35] 25 (eVar 0) (eVar 2))
    (sSeq (sFldM [35, 42] 32 (eVar 0) (eVar 3))
    (sFldM [35, 40, 42, 46] 31 (eVar 0) (eNew aNil)))))
def m_Seat___init__ (N : Nat) : FM := fnM 4 (b_Seat___init__ N)
def b_Room_enter (N : Nat) : SM := (sSeq (sSet 6 (eMk (mkI 33 (m_Client___init__F N) C.g_Client___init___2_least_most_weight) 1 3 (aCons (eVar 1) aNil) (aCons (eVar 2) (aCons (eVar 3) (aCons (eVar 4) aNil)))))
    (sSeq (sDrop (eCall (m_check_truth N) (nA 1 (aCons (eVar 5) aNil))))
    (sSeq (sIf (tB (eBinS (dInL false) (eVar 1) (eLcC (iCel (eFld [36] 38 (eVar 0))) (.nm 8) tTrue (eFld [33, 42, 44, 46] 0 (eFld [35] 25 (eVar 8))) [8]))) (sRaiseF 28 0 (eVar 1)) sNop)
    (sSeq (sIf (tB (eBin dGe (eCa fLen (aCons (eFld [36] 38 (eVar 0)) aNil)) (eC (.int 12)))) (sRaise 29) sNop)
    (sSeq (sSet 7 (eMeth 36 (m_Room_granted N) g_Room_granted_5_ 4 0 (eVar 0) (aCons (eVar 2) (aCons (eFld [36, 43] 10 (eVar 0)) (aCons (eFld [36, 41, 43] 19 (eVar 0)) (aCons (eVar 5) aNil)))) aNil))
    (sSeq (sSet 6 (eMk (mkI 33 (m_Client___init__F N) C.g_Client___init___2_least_most_weight) 1 3 (aCons (eVar 1) aNil) (aCons (eVar 7) (aCons (eVar 3) (aCons (eVar 4) aNil)))))
    (sSeq (sDrop (eMeth 34 (C.m_Bookings_bookF N) C.g_Bookings_book_4_ 3 0 (eFld [36, 41] 13 (eVar 0)) (aCons (eFld [36, 41, 43] 19 (eVar 0)) (aCons (eFld [36, 43] 10 (eVar 0)) (aCons (eVar 7) aNil))) aNil))
    (sSeq (sDrop (eApp (eFld [36] 38 (eVar 0)) (aCons (eMk (mkM 35 (m_Seat___init__ N) g_Seat___init___4_) 3 0 (aCons (eFld [36, 41, 43] 19 (eVar 0)) (aCons (eVar 6) (aCons (eTup (aCons (eFld [36, 43] 10 (eVar 0)) (aCons (eFld [36, 43] 10 (eVar 0)) (aCons (eFld [36, 41, 43] 41 (eVar 0)) aNil)))) aNil))) aNil) aNil)))
    (sSeq (sFldA 1 [36, 41, 43] 19 (eVar 0))
    (sSeq (sDrop (eApp (eFld [36] 37 (eVar 0)) (aCons (eTup (aCons (eC (.str "join")) (aCons (eFld [36, 43] 10 (eVar 0)) (aCons (eVar 1) (aCons (eVar 7) (aCons (eVar 3) (aCons (eVar 4) aNil))))))) aNil)))
    (sRet (eVar 6))))))))))))
def m_Room_enter (N : Nat) : FM := fnM 9 (b_Room_enter N)
def b_Room_begin (N : Nat) : SM := (sSeq (sAsg (eFld [35, 40, 42, 46] 31 (eVar 1)) (gStrN 1 (gsCons' (gN 4) (gsCons' (gN 5) gsNil))))
    (sSeq (sFldM [35, 40, 42, 46] 31 (eVar 1) (eVar 5))
    (sSeq (sSet 6 (eBinS ixD (eFld [36] 40 (eVar 0)) (eVar 4)))
    (sSeq (sIf (tB (eBin dEq (eVar 2) (eC (.str "least")))) (sFldM [35, 42] 32 (eVar 1) (eCall (C.m_moved_by_least N) (nA 4 (aCons (eFld [35, 42] 32 (eVar 1)) (aCons (eVar 6) (aCons (eFld [35] 25 (eVar 1)) (aCons (eVar 3) aNil))))))) (sSeq (sSet 7 (eCall (C.m_greater N) (nA 2 (aCons (eBinS ixD (eFld [35, 42] 32 (eVar 1)) (eC (.int 2))) (aCons (eFld [36, 41, 43] 41 (eVar 0)) aNil)))))
    (sSeq (sFldM [35, 42] 32 (eVar 1) (eCall (C.m_moved_by_share N) (nA 5 (aCons (eFld [35, 42] 32 (eVar 1)) (aCons (eVar 6) (aCons (eFld [35] 25 (eVar 1)) (aCons (eVar 3) (aCons (eFld [36, 41, 43] 41 (eVar 0)) aNil))))))))
    (sFldM [36, 41, 43] 41 (eVar 0) (eVar 7)))))
    (sSeq (sFldM [36, 43] 45 (eVar 0) (eCall (C.m_added N) (nA 2 (aCons (eVar 3) (aCons (eCallK (C.m_ratio N) C.g_ratio_1_ 1 0 (aCons (eVar 6) aNil) aNil) aNil)))))
    (sSeq (sAsg (eTup (aCons (eC (.str "begun")) (aCons (eVar 3) (aCons (eFld [36, 43] 45 (eVar 0)) (aCons (eVar 2) aNil))))) (gSb (eFld [36] 21 (eVar 0)) (eVar 4)))
    (sSeq (sDrop (eApp (eFld [36] 37 (eVar 0)) (aCons (eTup (aCons (eC (.str "serve")) (aCons (eVar 3) (aCons (eFld [33, 42, 44, 46] 0 (eFld [35] 25 (eVar 1))) (aCons (eVar 6) (aCons (eVar 2) aNil)))))) aNil)))
    (sRet (eTup (aCons (eVar 4) (aCons (eFld [33, 42, 44, 46] 0 (eFld [35] 25 (eVar 1))) (aCons (eVar 6) (aCons (eVar 2) (aCons (eVar 3) aNil))))))))))))))
def m_Room_begin (N : Nat) : FM := fnM 8 (b_Room_begin N)
def b_Room_waiting_seats (N : Nat) : SM := (sRet (eLcC (iCel (eFld [36] 38 (eVar 0))) (.nm 1) (tT (eFld [35, 40, 42, 46] 31 (eVar 1))) (eVar 1) [1]))
def m_Room_waiting_seats (N : Nat) : FM := fnM 2 (b_Room_waiting_seats N)
def b_Room_next_of (N : Nat) : SM := (sSeq (sSet 2 (eMeth0 36 (m_Room_waiting_seats N) g_Room_waiting_seats_1_ (eVar 0)))
    (sSeq (sSet 3 (eLc (iSeq (eVar 2)) (.nm 6) tTrue (eTup (aCons (eBinS ixD (eFld [36] 40 (eVar 0)) (eBinS ixD (eFld [35, 40, 42, 46] 31 (eVar 6)) (eC (.int 0)))) (aCons (eFld [35] 25 (eVar 6)) (aCons (eFld [35, 42] 32 (eVar 6)) aNil)))) [6]))
    (sSeq (sAsg (eCall (m_picked_of N) (nA 3 (aCons (eVar 3) (aCons (eVar 1) (aCons (eFld [36, 41, 43] 41 (eVar 0)) aNil))))) (gTp 2 (gsCons' (gN 4) (gsCons' (gN 5) gsNil))))
    (sRet (eTup (aCons (eVar 4) (aCons (eIf (tB (eBin dEq (eVar 4) (eC (.str "none")))) (eVar 5) (eBinS ixD (eVar 2) (eVar 5))) aNil)))))))
def m_Room_next_of (N : Nat) : FM := fnM 7 (b_Room_next_of N)
def b_Room_go (N : Nat) : SM := (sSeq (sDrop (eCall (C.m_check_time N) (nA 1 (aCons (eVar 1) aNil))))
    (sSeq (sIf (tT (eCall (C.m_is_before N) (nA 2 (aCons (eVar 1) (aCons (eFld [36, 43] 10 (eVar 0)) aNil))))) (sRaiseF 32 8 (eVar 1)) sNop)
    (sSeq (sPar 2 3 (aCons (eNew aNil) (aCons (eCall (C.m_greater N) (nA 2 (aCons (eFld [36, 43] 10 (eVar 0)) (aCons (eFld [36, 43] 45 (eVar 0)) aNil)))) aNil)))
    (sSeq (wlR (tT (eCall (C.m_is_before N) (nA 2 (aCons (eVar 3) (aCons (eVar 1) aNil))))) (sSeq (sAsg (eMeth 36 (m_Room_next_of N) g_Room_next_of_2_ 1 0 (eVar 0) (aCons (eVar 3) aNil) aNil) (gTp 2 (gsCons' (gN 4) (gsCons' (gN 5) gsNil))))
    (sIf (tB (eBin dNe (eVar 4) (eC (.str "none")))) (sSeq (sDrop (eApp (eVar 2) (aCons (eMeth 36 (m_Room_begin N) g_Room_begin_4_ 3 0 (eVar 0) (aCons (eVar 5) (aCons (eVar 4) (aCons (eVar 3) aNil))) aNil) aNil)))
    (sSet 3 (eFld [36, 43] 45 (eVar 0)))) (sSet 3 (eIf (tB (eBin dIs (eVar 5) (eC .non))) (eVar 1) (eVar 5))))) N)
    (sSeq (sFldM [36, 43] 10 (eVar 0) (eVar 1))
    (sRet (eCa fTuple (aCons (eVar 2) aNil))))))))
def m_Room_go (N : Nat) : FM := fnM 6 (b_Room_go N)
def b_Room_leave (N : Nat) : SM := (sSeq (sSet 2 (eMeth 36 (m_Room_seat N) g_Room_seat_2_ 1 0 (eVar 0) (aCons (eVar 1) aNil) aNil))
    (sSeq (sDrop (eMeth 34 (C.m_Bookings_bookF N) C.g_Bookings_book_4_ 3 0 (eFld [36, 41] 13 (eVar 0)) (aCons (eFld [35, 40, 42, 44] 34 (eVar 2)) (aCons (eCall (C.m_greater N) (nA 2 (aCons (eBinS ixD (eFld [35, 42] 32 (eVar 2)) (eC (.int 0))) (aCons (eFld [36, 43] 10 (eVar 0)) aNil)))) (aCons (eC (.tup [.int 0, .int 1])) aNil))) aNil))
    (sSeq (sForC (iCel (eFld [35, 40, 42, 46] 31 (eVar 2))) (gN 3) (sAsg (eTup (aCons (eC (.str "dropped")) (aCons (eFld [36, 43] 10 (eVar 0)) aNil))) (gSb (eFld [36] 21 (eVar 0)) (eVar 3))))
    (sSeq (sDrop (eRem (some 35) (eFld [36] 38 (eVar 0)) (aCons (eVar 2) aNil)))
    (sSeq (sDrop (eApp (eFld [36] 37 (eVar 0)) (aCons (eTup (aCons (eC (.str "leave")) (aCons (eFld [36, 43] 10 (eVar 0)) (aCons (eVar 1) aNil)))) aNil)))
    (sRet (eCa fTuple (aCons (eFld [35, 40, 42, 46] 31 (eVar 2)) aNil))))))))
def m_Room_leave (N : Nat) : FM := fnM 4 (b_Room_leave N)
def b_Room_put (N : Nat) : SM := (sSeq (sFldM [35] 25 (eVar 1) (eMk (mkI 33 (m_Client___init__F N) C.g_Client___init___2_least_most_weight) 1 3 (aCons (eFld [33, 42, 44, 46] 0 (eFld [35] 25 (eVar 1))) aNil) (aCons (eVar 2) (aCons (eVar 3) (aCons (eVar 4) aNil)))))
    (sRet (eFld [35] 25 (eVar 1))))
def m_Room_put (N : Nat) : FM := fnM 5 (b_Room_put N)
def b_Room_set_least (N : Nat) : SM := (sSeq (sSet 4 (eMeth 36 (m_Room_seat N) g_Room_seat_2_ 1 0 (eVar 0) (aCons (eVar 1) aNil) aNil))
    (sSeq (sSet 5 (eFld [35] 25 (eVar 4)))
    (sSeq (sSet 6 (eMk (mkI 33 (m_Client___init__F N) g_Client___init___2_least) 1 1 (aCons (eVar 1) aNil) (aCons (eVar 2) aNil)))
    (sSeq (sIf (tAn (tB (eBin dIsNot (eFld [33, 42] 2 (eVar 5)) (eC .non))) (tT (eCall (C.m_is_before N) (nA 2 (aCons (eFld [33, 42] 2 (eVar 5)) (aCons (eVar 2) aNil)))))) (sRaiseF 6 5 (eVar 2)) sNop)
    (sSeq (sDrop (eCall (m_check_truth N) (nA 1 (aCons (eVar 3) aNil))))
    (sSeq (sSet 7 (eCall (C.m_greater N) (nA 2 (aCons (eBinS ixD (eFld [35, 42] 32 (eVar 4)) (eC (.int 0))) (aCons (eFld [36, 43] 10 (eVar 0)) aNil)))))
    (sSeq (sSet 8 (eMeth 36 (m_Room_granted N) g_Room_granted_5_ 4 0 (eVar 0) (aCons (eFld [33, 42] 1 (eVar 6)) (aCons (eVar 7) (aCons (eFld [35, 40, 42, 44] 34 (eVar 4)) (aCons (eVar 3) aNil)))) aNil))
    (sSeq (sDrop (eMeth 34 (C.m_Bookings_bookF N) C.g_Bookings_book_4_ 3 0 (eFld [36, 41] 13 (eVar 0)) (aCons (eFld [35, 40, 42, 44] 34 (eVar 4)) (aCons (eVar 7) (aCons (eVar 8) aNil))) aNil))
    (sSeq (sFldM [35, 42] 32 (eVar 4) (eBinS dAddS (eTup (aCons (eVar 7) aNil)) (eSl (eFld [35, 42] 32 (eVar 4)) (oSome (eC (.int 1))) oNone)))
    (sSeq (sDrop (eApp (eFld [36] 37 (eVar 0)) (aCons (eTup (aCons (eC (.str "least")) (aCons (eFld [36, 43] 10 (eVar 0)) (aCons (eVar 1) (aCons (eVar 8) aNil))))) aNil)))
    (sRet (eMeth 36 (m_Room_put N) g_Room_put_5_ 4 0 (eVar 0) (aCons (eVar 4) (aCons (eVar 8) (aCons (eFld [33, 42] 2 (eVar 5)) (aCons (eFld [33, 42, 44] 3 (eVar 5)) aNil)))) aNil))))))))))))
def m_Room_set_least (N : Nat) : FM := fnM 9 (b_Room_set_least N)
def b_Room_set_most (N : Nat) : SM := (sSeq (sSet 3 (eMeth 36 (m_Room_seat N) g_Room_seat_2_ 1 0 (eVar 0) (aCons (eVar 1) aNil) aNil))
    (sSeq (sSet 4 (eMeth 36 (m_Room_put N) g_Room_put_5_ 4 0 (eVar 0) (aCons (eVar 3) (aCons (eFld [33, 42] 1 (eFld [35] 25 (eVar 3))) (aCons (eVar 2) (aCons (eFld [33, 42, 44] 3 (eFld [35] 25 (eVar 3))) aNil)))) aNil))
    (sSeq (sDrop (eApp (eFld [36] 37 (eVar 0)) (aCons (eTup (aCons (eC (.str "most")) (aCons (eFld [36, 43] 10 (eVar 0)) (aCons (eVar 1) (aCons (eVar 2) aNil))))) aNil)))
    (sRet (eVar 4)))))
def m_Room_set_most (N : Nat) : FM := fnM 5 (b_Room_set_most N)
def b_Room_set_weight (N : Nat) : SM := (sSeq (sSet 3 (eMeth 36 (m_Room_seat N) g_Room_seat_2_ 1 0 (eVar 0) (aCons (eVar 1) aNil) aNil))
    (sSeq (sSet 4 (eMeth 36 (m_Room_put N) g_Room_put_5_ 4 0 (eVar 0) (aCons (eVar 3) (aCons (eFld [33, 42] 1 (eFld [35] 25 (eVar 3))) (aCons (eFld [33, 42] 2 (eFld [35] 25 (eVar 3))) (aCons (eVar 2) aNil)))) aNil))
    (sSeq (sDrop (eApp (eFld [36] 37 (eVar 0)) (aCons (eTup (aCons (eC (.str "weight")) (aCons (eFld [36, 43] 10 (eVar 0)) (aCons (eVar 1) (aCons (eVar 2) aNil))))) aNil)))
    (sRet (eVar 4)))))
def m_Room_set_weight (N : Nat) : FM := fnM 5 (b_Room_set_weight N)
structure Rv where
  z : Int
  l : Rat
  o : Option Rat
  h : Int
  c : Rat
  g : Rat
  t : Rat
structure RvB (b : Nat) (r : Rv) : Prop where
  k : CliOk r.l r.o r.h
  z1 : 1 ≤ r.z
  z9 : r.z ≤ 999
  bl : Bt r.l 60
  bo : ∀ q, r.o = some q → Bt q 60
  bc : Bt r.c b
  bg : Bt r.g b
  bt : Bt r.t b
  c0 : 0 ≤ r.c
  g0 : 0 ≤ r.g
  t0 : 0 ≤ r.t
theorem RvB.mono {a b : Nat} {r : Rv} (h : RvB a r) (l : a ≤ b) : RvB b r := ⟨h.k, h.z1, h.z9, h.bl, h.bo, h.bc.mono l, h.bg.mono l, h.bt.mono l, h.c0, h.g0, h.t0⟩
def clk (now : Rat) (r : Rv) : Bool := !decide (r.l = 0) && !decide (now < r.c)
def gat (now : Rat) (r : Rv) : Bool := r.o.isNone || !decide (now < r.g)
def ixs (P : Rv → Bool) (l : List Rv) (n : Nat) : List Nat := (List.range n).filter fun j => (l[j]?).any P
theorem ixs_mem {P : Rv → Bool} {l : List Rv} {n i : Nat} (h : i ∈ ixs P l n) : i < n ∧ ∃ r, l[i]? = some r ∧ P r = true := by
  unfold ixs at h
  obtain ⟨h1, h2⟩ := List.mem_filter.mp h
  refine ⟨List.mem_range.mp h1, ?_⟩
  cases e : l[i]? with
  | none => rw [e] at h2; simp at h2
  | some r => rw [e] at h2; exact ⟨r, rfl, by simpa using h2⟩
theorem z01 : D.tup [.int 0, .int 1] = rD 0 := rfl
def dueR (r : Rv) : Rat := dueB r.c r.z r.l
def stp (key : Nat → Rat) (b q : Nat) : Nat := if key q < key b then q else b
def fstI (key : Nat → Rat) : List Nat → Nat
  | [] => 0
  | p :: ps => ps.foldl (stp key) p
def low (b x : Rat) : Rat := if x < b then x else b
def spotsV (rows : List Rv) : List Rat := rows.map (·.g) ++ (rows.filter fun r => !decide (r.l = 0)).map (·.c)
def nextD : List Rat → D
  | [] => .non
  | q :: qs => rD (qs.foldl low q)
inductive Pk where
  | least (i : Nat)
  | share (i : Nat)
  | nobody (d : D)
def Pk.d : Pk → D
  | .least i => .tup [.str "least", .int (i : Nat)]
  | .share i => .tup [.str "share", .int (i : Nat)]
  | .nobody d => .tup [.str "none", d]
def keyL (rows : List Rv) (i : Nat) : Rat := match rows[i]? with
  | some r => dueR r
  | none => 0
def keyT (pace : Rat) (rows : List Rv) (i : Nat) : Rat := match rows[i]? with
  | some r => max r.t pace
  | none => 0
def pickK (rows : List Rv) (now pace : Rat) : Pk :=
  if ixs (clk now) rows rows.length ≠ [] then .least (fstI (keyL rows) (ixs (clk now) rows rows.length))
  else if ixs (gat now) rows rows.length ≠ [] then .share (fstI (keyT pace rows) (ixs (gat now) rows rows.length))
  else .nobody (nextD (spotsV rows))
theorem bt_max {p q : Rat} {n : Nat} (h : Bt p n) (h' : Bt q n) : Bt (max p q) n := by
  have := h.max h'
  rwa [max_le] at this
end
end C
namespace C
open PySem G
noncomputable section
structure Se where
  num : Nat
  name : Str
  l : Rat
  o : Option Rat
  h : Int
  c : Rat
  g : Rat
  t : Rat
  line : List (Nat × Int)
structure Sv where
  r : Nat
  q : Nat
  z : Nat
  f : Nat
  w : Nat
  b : Nat
  b1 : Nat
  at_ : Rat
  till : Rat
  pace : Rat
  seats : List (Nat × Nat × Se)
  came : Nat
  sizes : List Int
  fates : List D
  rows : List D
  ls : Ls
def cliD (x : Se) : D := cD x.name x.l x.o x.h
def seatC (la : Nat) (x : Se) : Cell := .obj 35 [(34, .int x.num), (25, cliD x), (32, tD x.c x.g x.t), (31, .loc la)]
def seatH (p : Nat × Nat × Se) : HL := [(p.1, seatC p.2.1 p.2.2), (p.2.1, .lst (p.2.2.line.map fun q => .int q.1))]
def seatsH (l : List (Nat × Nat × Se)) : HL := l.flatMap seatH
def Sv.roomC (v : Sv) : Cell := .obj 36 [(10, rD v.at_), (45, rD v.till), (41, rD v.pace), (38, .loc v.q), (19, .int v.came), (40, .loc v.z), (21, .loc v.f), (37, .loc v.w), (13, .loc v.b)]
def Sv.H (v : Sv) : HL := (v.r, v.roomC) :: (v.q, .lst (v.seats.map fun p => .loc p.1)) :: (v.z, .lst (v.sizes.map .int)) :: (v.f, .lst v.fates) :: (v.w, .lst v.rows) :: (seatsH v.seats ++ bkH v.b v.b1 v.ls)
def NameOk (nm : Str) : Prop := ∀ (N : Nat) (S : Store), m_is_name N [.str nm] S = .ok (.bl true) S
structure SeOk (B : Nat) (x : Se) : Prop where
  k : CliOk x.l x.o x.h
  nm : NameOk x.name
  bl : Bt x.l 31
  bo : ∀ q, x.o = some q → Bt q 31
  bc : Bt x.c B
  bg : Bt x.g B
  bt : Bt x.t B
  c0 : 0 ≤ x.c
  g0 : 0 ≤ x.g
  t0 : 0 ≤ x.t
  line : ∀ q, q ∈ x.line → 1 ≤ q.2 ∧ q.2 ≤ 999
  len : x.line.length ≤ 40
theorem SeOk.mono {B B' : Nat} {x : Se} (h : SeOk B x) (l : B ≤ B') : SeOk B' x := ⟨h.k, h.nm, h.bl, h.bo, h.bc.mono l, h.bg.mono l, h.bt.mono l, h.c0, h.g0, h.t0, h.line, h.len⟩
structure SvOk (B c n : Nat) (v : Sv) : Prop where
  ba : Bt v.at_ B
  bu : Bt v.till B
  bp : Bt v.pace B
  a0 : 0 ≤ v.at_
  u0 : 0 ≤ v.till
  p0 : 0 ≤ v.pace
  seats : ∀ p, p ∈ v.seats → SeOk B p.2.2
  few : v.seats.length ≤ 12
  nums : (v.seats.map (·.2.2.num)).Nodup
  numl : ∀ p, p ∈ v.seats → p.2.2.num < v.came
  names : (v.seats.map (·.2.2.name)).Nodup
  sz : ∀ p, p ∈ v.seats → ∀ q, q ∈ p.2.2.line → v.sizes[q.1]? = some q.2
  fl : v.fates.length = v.sizes.length
  szn : v.sizes.length ≤ n
  rwn : v.rows.length ≤ n
  ls : LsOk v.ls c B
theorem SvOk.mono {B B' c c' n n' : Nat} {v : Sv} (h : SvOk B c n v) (l : B ≤ B') (lc : c ≤ c') (ln : n ≤ n') : SvOk B' c' n' v :=
  ⟨h.ba.mono l, h.bu.mono l, h.bp.mono l, h.a0, h.u0, h.p0, fun p hp => (h.seats p hp).mono l, h.few, h.nums, h.numl, h.names, h.sz, h.fl, Nat.le_trans h.szn ln, Nat.le_trans h.rwn ln, h.ls.mono lc l⟩
def updN (n : Nat) (f : Nat × Nat × Se → Nat × Nat × Se) (l : List (Nat × Nat × Se)) : List (Nat × Nat × Se) := l.map fun p => if p.2.2.num = n then f p else p
def askS (now : Rat) (k : Nat) (z : Int) (x : Se) : Se := { x with c := if x.line = [] then max x.c now else x.c, line := x.line ++ [(k, z)] }
def Sv.ask (v : Sv) (p : Nat × Nat × Se) (z : Int) : Sv := { v with
  seats := updN p.2.2.num (fun q => (q.1, q.2.1, askS v.at_ v.sizes.length z q.2.2)) v.seats
  sizes := v.sizes ++ [z]
  fates := v.fates ++ [.tup [.str "waits"]]
  rows := v.rows ++ [.tup [.str "ask", rD v.at_, .str p.2.2.name, .int z]] }
end
end C
namespace C
open PySem G
noncomputable section
structure MostOk (l : Rat) (o : Option Rat) (h : Int) : Prop where
  l0 : 0 ≤ l
  l1 : l ≤ 1
  o1 : ∀ q, o = some q → 0 < q ∧ q ≤ 1
  h1 : 1 ≤ h
  h9 : h ≤ 99
def lowMost (l : Rat) (o : Option Rat) : Prop := ∃ q, o = some q ∧ q < l
theorem CliOk.most {l : Rat} {o : Option Rat} {h : Int} (k : CliOk l o h) : MostOk l o h := ⟨k.l0, k.l1, fun q hq => ⟨(k.o1 q hq).1, (k.o1 q hq).2.1⟩, k.h1, k.h9⟩
def setS (l : Rat) (o : Option Rat) (h : Int) (x : Se) : Se := { x with l := l, o := o, h := h }
def Sv.put (v : Sv) (p : Nat × Nat × Se) (l : Rat) (o : Option Rat) (h : Int) : Sv := { v with seats := updN p.2.2.num (fun q => (q.1, q.2.1, setS l o h q.2.2)) v.seats }
def Sv.row (v : Sv) (d : D) : Sv := { v with rows := v.rows ++ [d] }
end
end C
namespace C
open PySem G
noncomputable section
def Sv.top (v : Sv) : HL := (v.r, v.roomC) :: (v.q, .lst (v.seats.map fun p => .loc p.1)) :: (v.z, .lst (v.sizes.map .int)) :: (v.f, .lst v.fates) :: (v.w, .lst v.rows) :: seatsH v.seats
theorem Sv.H_top (v : Sv) : v.H = v.top ++ bkH v.b v.b1 v.ls := rfl
theorem Sv.bk {S : Store} {v : Sv} {F : HL} (hs : Sep S (v.H ++ F)) : Sep S (bkH v.b v.b1 v.ls ++ (v.top ++ F)) := by
  rw [Sv.H_top, List.append_assoc] at hs
  exact hs.swap
def Sv.left (v : Sv) (s : Rat) (but : Option Int) : Rat := 1 - mostA v.ls s but
def leastS (clock : Rat) (l : Rat) (x : Se) : Se := { x with c := clock, l := l }
def Had (spare : Bool) (left rate had : Rat) : Prop := (had = rate ∧ ¬ left < rate) ∨ (had = left ∧ left < rate ∧ spare = true)
theorem Had.le {spare : Bool} {left rate had : Rat} (h : Had spare left rate had) : had ≤ rate := by
  rcases h with ⟨rfl, _⟩ | ⟨rfl, z, _⟩ <;> grind
end
end C
namespace C
open PySem G
noncomputable section
def dropF (now : Rat) (line : List (Nat × Int)) (f : List D) : List D := line.foldl (fun f q => f.set q.1 (.tup [.str "dropped", rD now])) f
def Sv.leave (v : Sv) (p : Nat × Nat × Se) (a : Nat) : Sv := { v with
  ls := bookA v.ls p.2.2.num (max p.2.2.c v.at_) 0 a
  seats := v.seats.filter fun q => decide (q.2.2.num ≠ p.2.2.num)
  fates := dropF v.at_ p.2.2.line v.fates
  rows := v.rows ++ [.tup [.str "leave", rD v.at_, .str p.2.2.name]] }
end
end C
namespace C
open PySem G
noncomputable section
theorem flatL_str (ns : List Str) : flatL (ns.map D.str) = some (ns.map L2.V.str) := by
  induction ns with
  | nil => rfl
  | cons a l ih =>
    rw [List.map_cons]
    show (match flatD (.str a), flatL (l.map D.str) with
      | some v, some vs => some (v :: vs)
      | _, _ => none) = _
    rw [ih]; rfl
theorem inV_str (nm : Str) (ns : List Str) : L2.inV (.str nm) (ns.map L2.V.str) = decide (nm ∈ ns) := by
  unfold L2.inV
  induction ns with
  | nil => rfl
  | cons a l ih =>
    rw [List.map_cons, List.any_cons, ih]
    show ((a == nm) || _) = _
    by_cases c : a = nm
    · subst c; simp
    · have c' : ¬ nm = a := fun e => c e.symm
      simp [c, c']
theorem dInL_str (S : Store) (nm : Str) (ns : List Str) : dInL false S (.str nm) (.lst (ns.map D.str)) = some (.bl (decide (nm ∈ ns))) := by
  unfold dInL
  show (match seqT S (.lst (ns.map D.str)), flatD (.str nm) with
    | some l, some v => (flatL l).map fun vs => D.bl (if false = true then !L2.inV v vs else L2.inV v vs)
    | _, _ => none) = _
  show (flatL (ns.map D.str)).map _ = _
  rw [flatL_str]
  show some (D.bl (L2.inV (.str nm) (ns.map L2.V.str))) = _
  rw [inV_str]
end
end C
namespace C
open PySem G
noncomputable section
def headZ (x : Se) : Int := match x.line with
  | q :: _ => q.2
  | [] => 0
def rvS (x : Se) : Rv := ⟨headZ x, x.l, x.o, x.h, x.c, x.g, x.t⟩
def wts (x : Se) : Bool := !x.line.isEmpty
def Sv.wait (v : Sv) : List (Nat × Nat × Se) := v.seats.filter fun p => wts p.2.2
def Sv.next (v : Sv) (when_ : Rat) : Pk := pickK (v.wait.map fun p => rvS p.2.2) when_ v.pace
end
end C
namespace C
open PySem G
noncomputable section
def beginS (lst : Bool) (when_ pace : Rat) (x : Se) : Se := match x.line with
  | [] => x
  | q :: r => { x with line := r, c := if lst then dueB x.c q.2 x.l else x.c, g := gateB x.o x.g q.2 when_, t := if lst then x.t else rsd x.t pace q.2 (x.h : Rat) }
def wordOf (lst : Bool) : Str := if lst then "least" else "share"
def Sv.begin (v : Sv) (p : Nat × Nat × Se) (lst : Bool) (when_ : Rat) (k : Nat) (z : Int) (a : Nat) : Sv := { v with
  till := when_ + (z : Rat)
  pace := if lst then v.pace else max p.2.2.t v.pace
  seats := updN p.2.2.num (fun q => (q.1, a, beginS lst when_ v.pace q.2.2)) v.seats
  fates := v.fates.set k (.tup [.str "begun", rD when_, rD (when_ + (z : Rat)), .str (wordOf lst)])
  rows := v.rows ++ [.tup [.str "serve", rD when_, .str p.2.2.name, .int z, .str (wordOf lst)]] }
def toldB (k : Nat) (nm : Str) (z : Int) (lst : Bool) (when_ : Rat) : D := .tup [.int k, .str nm, .int z, .str (wordOf lst), rD when_]
end
end C
namespace C
open PySem G
noncomputable section
structure Ab where
  till : Rat
  pace : Rat
  seats : List Se
  rows : List D
def Ab.wait (b : Ab) : List Se := b.seats.filter wts
def Ab.next (b : Ab) (when_ : Rat) : Pk := pickK (b.wait.map rvS) when_ b.pace
def updA (n : Nat) (f : Se → Se) (l : List Se) : List Se := l.map fun x => if x.num = n then f x else x
def Ab.begin (b : Ab) (x : Se) (lst : Bool) (when_ : Rat) (z : Int) : Ab where
  till := when_ + (z : Rat)
  pace := if lst then b.pace else max x.t b.pace
  seats := updA x.num (beginS lst when_ b.pace) b.seats
  rows := b.rows ++ [.tup [.str "serve", rD when_, .str x.name, .int z, .str (wordOf lst)]]
def nxtQ : List Rat → Option Rat
  | [] => none
  | q :: qs => some (qs.foldl low q)
inductive Ch where
  | serve (lst : Bool) (x : Se) (k : Nat) (z : Int)
  | wait (q : Rat)
  | none
def chOf (lst : Bool) : Option Se → Ch
  | some x => match x.line with
    | q :: _ => .serve lst x q.1 q.2
    | [] => .none
  | none => .none
def Ab.ch (b : Ab) (when_ : Rat) : Ch := match b.next when_ with
  | .least i => chOf true b.wait[i]?
  | .share i => chOf false b.wait[i]?
  | .nobody _ => match nxtQ (spotsV (b.wait.map rvS)) with
    | some q => .wait q
    | none => .none
def Ab.go (time : Rat) : Nat → Ab → Rat → Option (List D × Ab)
  | 0, _, _ => none
  | n + 1, b, when_ => if when_ < time then match b.ch when_ with
    | .serve lst x k z => (Ab.go time n (b.begin x lst when_ z) (when_ + (z : Rat))).map fun r => (toldB k x.name z lst when_ :: r.1, r.2)
    | .wait q => Ab.go time n b q
    | .none => some ([], b)
    else some ([], b)
def Ab.W (b : Ab) : Nat := (b.seats.map fun x => x.line.length).sum
def Ch.w : Ch → Nat
  | .wait _ => 1
  | _ => 0
end
end C
namespace C
open PySem G
noncomputable section
def Sv.abs (v : Sv) : Ab := ⟨v.till, v.pace, v.seats.map (·.2.2), v.rows⟩
def Sml (rs : Nat) (v : Sv) : Prop := ∀ p, p ∈ v.seats → Bt p.2.2.l rs ∧ ∀ q, p.2.2.o = some q → Bt q rs
end
end C
namespace C
open PySem G
noncomputable section
structure SameSv (v v' : Sv) : Prop where
  r : v'.r = v.r
  q : v'.q = v.q
  z : v'.z = v.z
  f : v'.f = v.f
  w : v'.w = v.w
  b : v'.b = v.b
  b1 : v'.b1 = v.b1
  at_ : v'.at_ = v.at_
  came : v'.came = v.came
  sizes : v'.sizes = v.sizes
  ls : v'.ls = v.ls
theorem SameSv.trans {v v1 v2 : Sv} (a : SameSv v v1) (b : SameSv v1 v2) : SameSv v v2 := ⟨b.r.trans a.r, b.q.trans a.q, b.z.trans a.z, b.f.trans a.f, b.w.trans a.w, b.b.trans a.b, b.b1.trans a.b1, b.at_.trans a.at_, b.came.trans a.came, b.sizes.trans a.sizes, b.ls.trans a.ls⟩
end
end C
namespace C
open PySem G
noncomputable section
def Sv.atT (v : Sv) (t : Rat) : Sv := { v with at_ := t }
def Ab.run (b : Ab) (now time : Rat) : Option (List D × Ab) := Ab.go time (2 * b.W + 2) b (max now b.till)
end
end C
namespace C
open PySem G
end C
namespace C
open PySem G
noncomputable section
def srvC (v : Sv) : Cell := .obj 37 [(36, .loc v.r)]
def Sv.new (n : Nat) : Sv := ⟨n, n + 1, n + 2, n + 3, n + 4, n + 5, n + 6, 0, 0, 0, [], 0, [], [], [], []⟩
end
end C
namespace C
open PySem G
noncomputable section
structure Ow where
  d : Nat
  f : Nat
  w : Nat
  bk : Nat
  now : Rat
  till : Rat
  pace : Rat
  folk : List (Nat × Nat × Se)
  rows : List D
  came : Nat
  books : List (Int × Rat × Rat)
  ak : Option (Nat × Option Rat)
def akK : Option (Nat × Option Rat) → List (L2.Key × D)
  | none => []
  | some (k, none) => [(.inr "asks", .int k)]
  | some (k, some b) => [(.inr "asks", .int k), (.inr "begun", rD b)]
def Ow.asks (o : Ow) : Option Nat := o.ak.map (·.1)
def Ow.bg (o : Ow) : Option Rat := o.ak.bind (·.2)
def Ow.sa (o : Ow) (t : Nat) : Option (Nat × Option Rat) := some (t, o.bg)
def Ow.K (o : Ow) : List (L2.Key × D) := [(.inr "now", rD o.now), (.inr "till", rD o.till), (.inr "pace", rD o.pace), (.inr "folk", .loc o.f), (.inr "rows", .loc o.w), (.inr "came", .int o.came), (.inr "books", .loc o.bk)] ++ akK o.ak
def seK (la : Nat) (x : Se) : List (L2.Key × D) := [(.inr "name", .str x.name), (.inr "id", .int x.num), (.inr "rate", rD x.l), (.inr "limit", oD x.o), (.inr "heft", .int x.h), (.inr "clock", rD x.c), (.inr "gate", rD x.g), (.inr "turn", rD x.t), (.inr "line", .loc la)]
def rowB (p : Int × Rat × Rat) : D := .tup [.int p.1, rD p.2.1, rD p.2.2]
def folkH (p : Nat × Nat × Se) : HL := [(p.1, .dk (seK p.2.1 p.2.2)), (p.2.1, .lst (p.2.2.line.map fun q => .tup [.int q.1, .int q.2]))]
def folksH (l : List (Nat × Nat × Se)) : HL := l.flatMap folkH
def Ow.H (o : Ow) : HL := (o.d, .dk o.K) :: (o.f, .lst (o.folk.map fun p => .loc p.1)) :: (o.w, .lst o.rows) :: (o.bk, .lst (o.books.map rowB)) :: folksH o.folk
structure OwOk (B c n : Nat) (o : Ow) : Prop where
  ba : Bt o.now B
  bu : Bt o.till B
  bp : Bt o.pace B
  a0 : 0 ≤ o.now
  u0 : 0 ≤ o.till
  p0 : 0 ≤ o.pace
  folk : ∀ p, p ∈ o.folk → SeOk B p.2.2
  few : o.folk.length ≤ 12
  nums : (o.folk.map (·.2.2.num)).Nodup
  names : (o.folk.map (·.2.2.name)).Nodup
  rwn : o.rows.length ≤ n
  bkn : o.books.length ≤ c
  bks : ∀ b, b ∈ o.books → 0 ≤ b.1 ∧ b.1 < o.came ∧ Bt b.2.1 B ∧ 0 ≤ b.2.1 ∧ Bt b.2.2 31 ∧ 0 ≤ b.2.2 ∧ b.2.2 ≤ 1
end
end C
namespace C
open PySem G
noncomputable section
def Ow.wait (o : Ow) : List (Nat × Nat × Se) := o.folk.filter fun p => wts p.2.2
def Ow.abs (o : Ow) : Ab := ⟨o.till, o.pace, o.folk.map (·.2.2), o.rows⟩
end
end C
namespace C
open PySem G
end C
namespace C
open PySem G
end C
namespace C
open PySem G
noncomputable section
def Ow.begin (o : Ow) (p : Nat × Nat × Se) (lst : Bool) (z : Int) : Ow := { o with
  till := o.now + (z : Rat)
  pace := if lst then o.pace else max p.2.2.t o.pace
  folk := updN p.2.2.num (fun q => (q.1, q.2.1, beginS lst o.now o.pace q.2.2)) o.folk
  rows := o.rows ++ [.tup [.str "serve", rD o.now, .str p.2.2.name, .int z, .str (wordOf lst)]] }
end
end C
namespace C
open PySem G
noncomputable section
structure SameO (o o' : Ow) : Prop where
  d : o'.d = o.d
  f : o'.f = o.f
  w : o'.w = o.w
  bk : o'.bk = o.bk
  came : o'.came = o.came
  books : o'.books = o.books
  ak : o'.ak = o.ak
theorem SameO.asks {o o' : Ow} (h : SameO o o') : o'.asks = o.asks := by unfold Ow.asks; rw [h.ak]
theorem SameO.trans {o o1 o2 : Ow} (a : SameO o o1) (b : SameO o1 o2) : SameO o o2 := ⟨b.d.trans a.d, b.f.trans a.f, b.w.trans a.w, b.bk.trans a.bk, b.came.trans a.came, b.books.trans a.books, b.ak.trans a.ak⟩
theorem SameO.begin (o : Ow) (p : Nat × Nat × Se) (lst : Bool) (z : Int) : SameO o (o.begin p lst z) := ⟨rfl, rfl, rfl, rfl, rfl, rfl, rfl⟩
end
end C
namespace C
open PySem G
noncomputable section
def sF (g : Int → Rat) (A : List Int) : Rat := A.foldr (fun i a => g i + a) 0
theorem sF_cons (g : Int → Rat) (i : Int) (A : List Int) : sF g (i :: A) = g i + sF g A := rfl
def gB (but : Option Int) (f : Int → Rat) (i : Int) : Rat := if but = some i then 0 else f i
theorem fold_pr {α : Type} (k : α → Int) (r : α → Rat) (but : Option Int) (f : Int → Rat) : ∀ (K : List α) (z : Rat), (∀ p, p ∈ K → r p = f (k p)) → K.foldl (fun a p => if but = some (k p) then a else a + r p) z = z + sF (gB but f) (K.map k)
  | [], z, _ => by show z = z + 0; grind
  | p :: K, z, h => by
    rw [List.foldl_cons, fold_pr k r but f K _ fun y hy => h y (List.mem_cons_of_mem _ hy), List.map_cons, sF_cons, h p List.mem_cons_self]
    unfold gB
    split <;> grind
def RB (ls : Ls) (bs : List Rw) : Prop := ∀ i t, atT (lineOf ls i) t = lawT bs i t
def bookO (bs : List Rw) (i : Int) (s r : Rat) : List Rw := (bs.filter fun b => decide (b.1 ≠ i ∨ b.2.1 < s)) ++ [(i, s, r)]
theorem RB.nil : RB [] [] := fun _ _ => rfl
def putI (K : List (Int × Rat)) (i : Int) (r : Rat) : List (Int × Rat) := if (K.any fun p => decide (p.1 = i)) = true then K.map (fun p => if p.1 = i then (p.1, r) else p) else K ++ [(i, r)]
theorem putI_keys (K : List (Int × Rat)) (i : Int) (r : Rat) : (putI K i r).map (·.1) = if i ∈ K.map (·.1) then K.map (·.1) else K.map (·.1) ++ [i] := by
  have e : (K.any fun p => decide (p.1 = i)) = decide (i ∈ K.map (·.1)) := by
    induction K with
    | nil => rfl
    | cons p K ih =>
      rw [List.any_cons, ih]
      by_cases c : p.1 = i
      · simp [c]
      · have c' : ¬ i = p.1 := fun z => c z.symm
        simp [c, c']
  unfold putI
  rw [e]
  by_cases c : i ∈ K.map (·.1)
  · rw [if_pos (decide_eq_true c), if_pos c, List.map_map]
    refine List.map_congr_left fun p _ => ?_
    dsimp only [Function.comp]
    split <;> rfl
  · rw [if_neg (by simpa using c), if_neg c, List.map_append]; rfl
theorem putI_mem {K : List (Int × Rat)} {i : Int} {r : Rat} {p : Int × Rat} (h : p ∈ putI K i r) : p = (i, r) ∨ (p ∈ K ∧ p.1 ≠ i) := by
  unfold putI at h
  split at h
  · obtain ⟨q, hq, rfl⟩ := List.mem_map.mp h
    by_cases c : q.1 = i
    · rw [if_pos c, c]; exact .inl rfl
    · rw [if_neg c]; exact .inr ⟨hq, c⟩
  · rename_i hn
    rcases List.mem_append.mp h with h | h
    · refine .inr ⟨h, fun c => hn ?_⟩
      exact List.any_eq_true.mpr ⟨p, h, decide_eq_true c⟩
    · exact .inl (List.mem_singleton.mp h)
def knB (bs : List Rw) (t : Rat) : List (Int × Rat) := bs.foldl (fun K b => if t < b.2.1 then K else putI K b.1 b.2.2) []
theorem knB_snoc (bs : List Rw) (b : Rw) (t : Rat) : knB (bs ++ [b]) t = if t < b.2.1 then knB bs t else putI (knB bs t) b.1 b.2.2 := by
  unfold knB; rw [List.foldl_append]; rfl
theorem knB_ok (bs : List Rw) (t : Rat) : ((knB bs t).map (·.1)).Nodup ∧ (∀ p, p ∈ knB bs t → p.2 = lawT bs p.1 t) ∧ (∀ i, i ∉ (knB bs t).map (·.1) → lawT bs i t = 0) ∧ (knB bs t).length ≤ bs.length := by
  generalize hn : bs.length = n
  induction n generalizing bs with
  | zero =>
    have : bs = [] := List.length_eq_zero_iff.mp hn
    subst this
    exact ⟨by simp [knB], fun p hp => (by simp [knB] at hp), fun i _ => rfl, Nat.le_refl _⟩
  | succ n ih =>
    rcases List.eq_nil_or_concat bs with rfl | ⟨bs', b, rfl⟩
    · simp at hn
    · rw [List.concat_eq_append] at hn ⊢
      obtain ⟨i1, i2, i3, i4⟩ := ih bs' (by simp at hn; exact hn)
      rw [knB_snoc]
      by_cases c : t < b.2.1
      · rw [if_pos c]
        have e : ∀ i, lawT (bs' ++ [b]) i t = lawT bs' i t := fun i => by rw [lawT_snoc, if_neg fun q => q.2 c]
        exact ⟨i1, fun p hp => by rw [e]; exact i2 p hp, fun i hi => by rw [e]; exact i3 i hi, by omega⟩
      · rw [if_neg c]
        have hk := putI_keys (knB bs' t) b.1 b.2.2
        refine ⟨?_, fun p hp => ?_, fun i hi => ?_, ?_⟩
        · rw [hk]
          split
          · exact i1
          · rename_i hb
            exact List.nodup_append.mpr ⟨i1, by simp, fun x hx y hy e => by
              rw [List.mem_singleton.mp hy] at e
              exact hb (e ▸ hx)⟩
        · rw [lawT_snoc]
          rcases putI_mem hp with rfl | ⟨hp, hne⟩
          · rw [if_pos ⟨rfl, c⟩]
          · rw [if_neg fun q => hne q.1.symm]; exact i2 p hp
        · rw [hk] at hi
          have h1 : i ∉ (knB bs' t).map (·.1) ∧ i ≠ b.1 := by
            split at hi
            · rename_i hb
              exact ⟨hi, fun e => hi (e ▸ hb)⟩
            · exact ⟨fun z => hi (List.mem_append_left _ z), fun e => hi (by rw [e]; simp)⟩
          rw [lawT_snoc, if_neg fun q => h1.2 q.1.symm]
          exact i3 i h1.1
        · have : ((putI (knB bs' t) b.1 b.2.2).map (·.1)).length ≤ ((knB bs' t).map (·.1)).length + 1 := by
            rw [hk]
            split
            · omega
            · rw [List.length_append]; exact Nat.le_refl _
          rw [List.length_map, List.length_map] at this
          omega
def sumB (bs : List Rw) (t : Rat) (but : Option Int) : Rat := (knB bs t).foldl (fun a p => if but = some p.1 then a else a + p.2) 0
def spB (bs : List Rw) (s : Rat) : List Rat := s :: (bs.filter fun b => decide (s < b.2.1)).map (·.2.1)
def mostB (bs : List Rw) (s : Rat) (but : Option Int) : Rat := (spB bs s).foldl (fun f t => max f (sumB bs t but)) 0
theorem knB_same {bs : List Rw} {t u : Rat} (h : ∀ p, p ∈ bs → (t < p.2.1 ↔ u < p.2.1)) : knB bs t = knB bs u := by
  unfold knB
  generalize ([] : List (Int × Rat)) = z
  induction bs generalizing z with
  | nil => rfl
  | cons p l ih =>
    rw [List.foldl_cons, List.foldl_cons]
    have e : (if t < p.2.1 then z else putI z p.1 p.2.2) = if u < p.2.1 then z else putI z p.1 p.2.2 := by
      by_cases c : t < p.2.1
      · rw [if_pos c, if_pos ((h p List.mem_cons_self).mp c)]
      · rw [if_neg c, if_neg fun q => c ((h p List.mem_cons_self).mpr q)]
    rw [e]
    exact ih (fun q hq => h q (List.mem_cons_of_mem _ hq)) _
theorem mostB_is (bs : List Rw) (s : Rat) (but : Option Int) : IsMost (fun t => sumB bs t but) s (mostB bs s but) := by
  have hm : ∀ t, t ∈ spB bs s → t = s ∨ s < t := fun t ht => by
    rcases List.mem_cons.mp ht with rfl | ht
    · exact .inl rfl
    · obtain ⟨b, hb, rfl⟩ := List.mem_map.mp ht
      exact .inr (by simpa using (List.mem_filter.mp hb).2)
  refine most_steps List.mem_cons_self (fun t ht => ?_) fun u t hu hut hmx => ?_
  · rcases hm t ht with rfl | h <;> grind
  · have hsu : s ≤ u := by rcases hm u hu with rfl | h <;> grind
    show sumB bs t but = sumB bs u but
    unfold sumB
    suffices ek : knB bs t = knB bs u by rw [ek]
    refine knB_same fun p hp => ?_
    constructor
    · intro h; grind
    · intro h
      by_cases c : t < p.2.1
      · exact c
      · have := hmx p.2.1 (List.mem_cons_of_mem _ (List.mem_map.mpr ⟨p, List.mem_filter.mpr ⟨hp, decide_eq_true (by grind)⟩, rfl⟩)) (by grind)
        grind
end
end C
namespace C
open PySem G
noncomputable section
def BkOk (B c : Nat) (bs : List Rw) : Prop := bs.length ≤ c ∧ ∀ b, b ∈ bs → Bt b.2.1 B ∧ 0 ≤ b.2.1 ∧ Bt b.2.2 31
theorem OwOk.bk {B c n : Nat} {o : Ow} (ok : OwOk B c n o) : BkOk B c o.books := ⟨ok.bkn, fun b hb => ⟨(ok.bks b hb).2.2.1, (ok.bks b hb).2.2.2.1, (ok.bks b hb).2.2.2.2.1⟩⟩
end
end C
namespace C
open PySem G
noncomputable section
def Ow.row (o : Ow) (d : D) : Ow := { o with rows := o.rows ++ [d] }
def Ow.nk (o : Ow) : Nat := o.asks.getD 0
def Ow.ask (o : Ow) (p : Nat × Nat × Se) (z : Int) : Ow := { o with
  folk := updN p.2.2.num (fun q => (q.1, q.2.1, askS o.now o.nk z q.2.2)) o.folk
  rows := o.rows ++ [.tup [.str "ask", rD o.now, .str p.2.2.name, .int z]]
  ak := o.sa (o.nk + 1) }
end
end C
namespace C
open PySem G
noncomputable section
def Ow.put (o : Ow) (p : Nat × Nat × Se) (l : Rat) (m : Option Rat) (h : Int) : Ow := { o with folk := updN p.2.2.num (fun q => (q.1, q.2.1, setS l m h q.2.2)) o.folk }
def Ow.least (o : Ow) (p : Nat × Nat × Se) (r : Rat) (a : Nat) : Ow := { o with
  bk := a
  books := bookO o.books p.2.2.num (max p.2.2.c o.now) r
  folk := updN p.2.2.num (fun q => (q.1, q.2.1, leastS (max p.2.2.c o.now) r q.2.2)) o.folk
  rows := o.rows ++ [.tup [.str "least", rD o.now, .str p.2.2.name, rD r]] }
end
end C
namespace C
open PySem G
noncomputable section
def Ow.leave (o : Ow) (p : Nat × Nat × Se) (a : Nat) : Ow := { o with
  bk := a
  books := bookO o.books p.2.2.num (max p.2.2.c o.now) 0
  folk := o.folk.filter fun q => decide (q.2.2.num ≠ p.2.2.num)
  rows := o.rows ++ [.tup [.str "leave", rD o.now, .str p.2.2.name]] }
end
end C
namespace C
open PySem G
noncomputable section
def joinSe (o : Ow) (nm : Str) (l : Rat) (m : Option Rat) (h : Int) : Se := ⟨o.came, nm, l, m, h, o.now, o.now, o.pace, []⟩
def Ow.join (o : Ow) (nm : Str) (l : Rat) (m : Option Rat) (h : Int) (a a1 a2 : Nat) : Ow := { o with
  bk := a
  books := bookO o.books o.came o.now l
  folk := o.folk ++ [(a1, a2, joinSe o nm l m h)]
  came := o.came + 1
  rows := o.rows ++ [.tup [.str "join", rD o.now, .str nm, rD l, oD m, .int h]] }
def Ow.new (n : Nat) : Ow := ⟨n + 3, n, n + 1, n + 2, 0, 0, 0, [], [], 0, [], none⟩
end
end C
namespace C
open PySem G
noncomputable section
inductive Dd where
  | ask (nm : Str) (z : Int)
  | leave (nm : Str)
  | weight (nm : Str) (h : Int)
  | most (nm : Str) (m : Option Rat)
  | least (nm : Str) (r : Rat)
  | join (nm : Str) (l : Rat) (m : Option Rat) (h : Int)
  | go (t : Rat)
def Dd.D : Dd → D
  | .ask nm z => .tup [.str "ask", .str nm, .int z]
  | .leave nm => .tup [.str "leave", .str nm]
  | .weight nm h => .tup [.str "weight", .str nm, .int h]
  | .most nm m => .tup [.str "most", .str nm, oD m]
  | .least nm r => .tup [.str "least", .str nm, rD r]
  | .join nm l m h => .tup [.str "join", .str nm, rD l, oD m, .int h]
  | .go t => .tup [.str "go", rD t]
def NmOk (nm : Str) : Prop := NameOk nm ∧ (PyData.str nm).canLay0 = true
def Dd.ok (rs bt : Nat) : Dd → Prop
  | .ask nm z => NmOk nm ∧ 1 ≤ z ∧ z ≤ 999
  | .leave nm => NmOk nm
  | .weight nm h => NmOk nm ∧ 1 ≤ h ∧ h ≤ 99
  | .most nm m => NmOk nm ∧ ∀ q, m = some q → Bt q rs ∧ 0 < q ∧ q ≤ 1
  | .least nm r => NmOk nm ∧ Bt r rs ∧ 0 ≤ r ∧ r ≤ 1
  | .join nm l m h => NmOk nm ∧ Bt l rs ∧ 0 ≤ l ∧ l ≤ 1 ∧ (∀ q, m = some q → Bt q rs ∧ 0 < q ∧ q ≤ 1) ∧ 1 ≤ h ∧ h ≤ 99
  | .go t => Bt t bt ∧ 0 ≤ t
structure Al (v : Sv) (o : Ow) : Prop where
  ab : o.abs = v.abs
  now : o.now = v.at_
  came : o.came = v.came
  nk : o.nk = v.sizes.length
  rb : RB v.ls o.books
structure BO (B c : Nat) (o : Ow) : Prop where
  len : o.books.length ≤ c
  each : ∀ b, b ∈ o.books → 0 ≤ b.1 ∧ b.1 < o.came ∧ Bt b.2.1 B ∧ 0 ≤ b.2.1 ∧ Bt b.2.2 31 ∧ 0 ≤ b.2.2 ∧ b.2.2 ≤ 1
theorem BO.mono {B B' c c' : Nat} {o : Ow} (h : BO B c o) (l : B ≤ B') (lc : c ≤ c') : BO B' c' o := ⟨Nat.le_trans h.len lc, fun b hb => by
  obtain ⟨h1, h2, h3, h4⟩ := h.each b hb
  exact ⟨h1, h2, h3.mono l, h4⟩⟩
section
variable {v : Sv} {o : Ow} {B c c' n : Nat}
theorem Al.till (a : Al v o) : o.till = v.till := congrArg Ab.till a.ab
theorem Al.pace (a : Al v o) : o.pace = v.pace := congrArg Ab.pace a.ab
theorem Al.seats (a : Al v o) : o.folk.map (·.2.2) = v.seats.map (·.2.2) := congrArg Ab.seats a.ab
theorem Al.rows (a : Al v o) : o.rows = v.rows := congrArg Ab.rows a.ab
theorem Al.mem (a : Al v o) {p : Nat × Nat × Se} (hp : p ∈ o.folk) : ∃ q, q ∈ v.seats ∧ q.2.2 = p.2.2 := by
  have : p.2.2 ∈ v.seats.map (·.2.2) := by rw [← a.seats]; exact List.mem_map_of_mem hp
  obtain ⟨q, h1, h2⟩ := List.mem_map.mp this
  exact ⟨q, h1, h2⟩
theorem Al.len (a : Al v o) : o.folk.length = v.seats.length := by
  have := congrArg List.length a.seats
  rwa [List.length_map, List.length_map] at this
def Rfs (b : Ab) (now : Rat) (most : Option Int → Rat → Rat) : Dd → Prop
  | .ask nm z => ∀ x, b.seats.find? (fun x => decide (x.name = nm)) = some x → 40 ≤ x.line.length
  | .leave nm => b.seats.find? (fun x => decide (x.name = nm)) = none
  | .weight nm h => b.seats.find? (fun x => decide (x.name = nm)) = none
  | .most nm m => ∀ x, b.seats.find? (fun x => decide (x.name = nm)) = some x → lowMost x.l m
  | .least nm r => ∀ x, b.seats.find? (fun x => decide (x.name = nm)) = some x → lowMost r x.o ∨ 1 < most (some x.num) (max x.c now) + r
  | .join nm l m h => b.seats.find? (fun x => decide (x.name = nm)) ≠ none ∨ 12 ≤ b.seats.length ∨ lowMost l m ∨ 1 < most none now + l
  | .go t => t < now
end
end
end C
namespace C
open PySem G
end C
namespace C
open PySem G
noncomputable section
def D27 (q : Rat) : Prop := ∃ k : Int, q * 27720 = (k : Rat)
theorem d27_0 : D27 0 := ⟨0, by grind⟩
theorem d27_1 : D27 1 := ⟨27720, by grind⟩
theorem D27.add {p q : Rat} (a : D27 p) (b : D27 q) : D27 (p + q) := by
  obtain ⟨k, hk⟩ := a
  obtain ⟨l, hl⟩ := b
  exact ⟨k + l, by push_cast; grind⟩
theorem D27.sub {p q : Rat} (a : D27 p) (b : D27 q) : D27 (p - q) := by
  obtain ⟨k, hk⟩ := a
  obtain ⟨l, hl⟩ := b
  exact ⟨k - l, by push_cast; grind⟩
theorem mul_den (q : Rat) : q * (q.den : Rat) = (q.num : Rat) := by
  have h := Rat.num_divInt_den q
  have hd : (q.den : Rat) ≠ 0 := by
    have := q.den_nz
    exact_mod_cast this
  have h2 : q = (q.num : Rat) / ((q.den : Int) : Rat) := by rw [← Rat.divInt_eq_div]; exact h.symm
  have e : ((q.den : Int) : Rat) = (q.den : Rat) := by norm_cast
  rw [e] at h2
  generalize hn : (q.num : Rat) = a at *
  generalize (q.den : Rat) = b at *
  rw [h2]
  rw [Rat.div_def, Rat.mul_assoc, Rat.inv_mul_cancel _ hd, Rat.mul_one]
theorem D27.bt {q : Rat} (h : D27 q) (q0 : 0 ≤ q) (q1 : q ≤ 1) : Bt q 15 := by
  obtain ⟨k, hk⟩ := h
  have e : q.num * 27720 = k * (q.den : Int) := by
    have h1 : (q.num : Rat) = q * (q.den : Rat) := (mul_den q).symm
    have : (((q.num * 27720 : Int)) : Rat) = ((k * (q.den : Int) : Int) : Rat) := by
      push_cast
      rw [h1, ← hk]
      grind
    exact_mod_cast this
  have d1 : (q.den : Int) ∣ q.num * 27720 := ⟨k, by rw [e]; exact Int.mul_comm _ _⟩
  have d2 : q.den ∣ q.num.natAbs * 27720 := by
    have := Int.natAbs_dvd_natAbs.mpr d1
    rw [Int.natAbs_mul] at this
    simpa using this
  have d3 : q.den ∣ 27720 := Nat.Coprime.dvd_of_dvd_mul_left q.reduced.symm d2
  have hd : q.den ≤ 27720 := Nat.le_of_dvd (by omega) d3
  have hn0 : 0 ≤ q.num := Rat.num_nonneg.mpr q0
  have hn1 : q.num ≤ (q.den : Int) := by
    have h1 : (q.num : Rat) = q * (q.den : Rat) := (mul_den q).symm
    have h2 : (0 : Rat) ≤ (q.den : Rat) := by exact_mod_cast Nat.zero_le _
    have h3 : q * (q.den : Rat) ≤ 1 * (q.den : Rat) := Rat.mul_le_mul_of_nonneg_right q1 h2
    rw [← h1, Rat.one_mul] at h3
    exact_mod_cast h3
  refine ⟨?_, ?_⟩
  · have : q.num.natAbs ≤ 27720 := by omega
    exact Nat.lt_of_le_of_lt this (by decide)
  · exact Nat.lt_of_le_of_lt hd (by decide)
end
end C
namespace C
open PySem G
noncomputable section
def mostV (v : Sv) (but : Option Int) (s : Rat) : Rat := mostA v.ls s (some (but.getD v.came))
structure Nx (B c n W rs bt : Nat) (v1 : Sv) : Prop where
  ok : ∃ B' n', SvOk B' (c + 1) n' v1 ∧ B ≤ B' ∧ B' + 26 * v1.abs.W ≤ max B bt + 26 * W + 26 ∧ n' + v1.abs.W ≤ n + W + 2
  sm : Sml rs v1
end
end C
namespace C
open PySem G
noncomputable section
def RowOk (d : D) : Prop := ∃ (w : Str) (t : Rat) (rest : List D), d = .tup (.str w :: rD t :: rest) ∧ Cmp d ∧ (w = "join" → ∃ nm r', rest = .str nm :: r' ∧ NmOk nm)
structure Iv (v : Sv) : Prop where
  nms : ∀ p, p ∈ v.seats → NmOk p.2.2.name
  rows : ∀ d, d ∈ v.rows → RowOk d
end
end C
namespace C
open PySem G
end C
namespace C
open PySem G
end C
namespace C
open PySem G
end C
namespace C
open PySem G
noncomputable section
structure J (m : Nat) (v : Sv) (o : Ow) : Prop where
  al : Al v o
  iv : Iv v
  sm : Sml 5 v
  ex : ∃ B n, SvOk B m n v ∧ BO B m o ∧ 31 ≤ B ∧ B + 26 * v.abs.W ≤ 31 + 34 * m ∧ n + v.abs.W ≤ 2 * m
theorem J.mono {m m' : Nat} {v : Sv} {o : Ow} (j : J m v o) (h : m ≤ m') : J m' v o := by
  obtain ⟨B, n, k1, k2, k3, k4, k5⟩ := j.ex
  exact ⟨j.al, j.iv, j.sm, B, n, k1.mono (Nat.le_refl _) h (Nat.le_refl _), k2.mono (Nat.le_refl _) h, k3, by omega, by omega⟩
end
end C
namespace C
open PySem G
end C
namespace C
open PySem G
structure PS (S : Store) (n : Nat) (L : HL) : Prop where
  P : Pool S n
  s : Sep S L
  a : n ∉ L.map (·.1)
theorem PS.fr {S S' : Store} {n : Nat} {L : HL} (h : PS S n L) (P' : Pool S' n) (F : Fr n S S') : PS S' n L :=
  ⟨P', h.s.keep fun p hp => F.2 p.1 (h.s.lt (List.mem_map_of_mem hp)) fun e => h.a (e ▸ List.mem_map_of_mem hp), h.a⟩
theorem PS.ex {S : Store} {n : Nat} {L : HL} (h : PS S n L) : ∃ c, Sep S (L ++ [(n, c)]) ∧ ∀ S' L', Sep S' (L' ++ [(n, c)]) → PS S' n L' := by
  obtain ⟨x, y, z, hS, r⟩ := h.P
  refine ⟨_, (h.s.cons hS h.a).perm (List.perm_append_comm (l₁ := [_])), fun S' L' h' => ⟨⟨x, y, z, h'.get (by simp), r⟩, h'.left, fun z => ?_⟩⟩
  have nd := h'.2
  rw [List.map_append] at nd
  exact (List.nodup_append.mp nd).2.2 n z n (by simp) rfl
def F0 (s r : Nat) : HL := [(s, .obj 37 [(36, .loc r)]), (0, .tbl mk_picked_of.1 mk_picked_of.2)]
theorem PS.new {S : Store} {n : Nat} {L : HL} (h : PS S n L) (c : Cell) : PS (S ++ [c]) n ((S.length, c) :: L) := by
  obtain ⟨x, y, z, hS, r⟩ := h.P
  have hl := (List.getElem?_eq_some_iff.mp hS).1
  refine ⟨⟨x, y, z, by rw [List.getElem?_append_left hl]; exact hS, r⟩, h.s.new0 c, fun q => ?_⟩
  rw [List.map_cons] at q
  rcases List.mem_cons.mp q with q | q
  · omega
  · exact h.a q
theorem PS.perm {S : Store} {n : Nat} {L L' : HL} (h : PS S n L) (p : L.Perm L') : PS S n L' := ⟨h.P, h.s.perm p, fun q => h.a ((p.map _).mem_iff.mpr q)⟩
theorem PS.sub {S : Store} {n : Nat} {L L' : HL} (h : PS S n L) (p : L'.Sublist L) : PS S n L' := ⟨h.P, h.s.sub p, fun q => h.a ((p.map _).subset q)⟩
theorem fresh_sep (T : Store) (hT : T[0]? = some (.tbl mk_picked_of.1 mk_picked_of.2)) {S2 : Store} (h2 : S2 = (T ++ [srvC (Sv.new (T.length + 1)), (Sv.new (T.length + 1)).roomC, .lst [], .lst [], .lst [], .lst [], .obj 34 [(9, .loc (T.length + 7))], .dk []]) ++ [.lst [], .lst [], .lst [], .dk (Ow.new (T.length + 8)).K]) :
    Sep S2 ((Ow.new (T.length + 8)).H ++ ((Sv.new (T.length + 1)).H ++ F0 T.length (T.length + 1))) := by
  have hl : 0 < T.length := (List.getElem?_eq_some_iff.mp hT).1
  have g : ∀ i, i < 12 → S2[T.length + i]? = [srvC (Sv.new (T.length + 1)), (Sv.new (T.length + 1)).roomC, .lst [], .lst [], .lst [], .lst [], .obj 34 [(9, .loc (T.length + 7))], .dk [], .lst [], .lst [], .lst [], .dk (Ow.new (T.length + 8)).K][i]? := fun i hi => by
    rw [h2, List.append_assoc, List.getElem?_append_right (by omega)]
    rw [Nat.add_sub_cancel_left]; rfl
  refine ⟨fun p hp => ?_, ?_⟩
  · have hp' : p ∈ [((T.length + 8 + 3, Cell.dk (Ow.new (T.length + 8)).K) : Nat × Cell), (T.length + 8, .lst []), (T.length + 8 + 1, .lst []), (T.length + 8 + 2, .lst []), (T.length + 1, (Sv.new (T.length + 1)).roomC), (T.length + 1 + 1, .lst []), (T.length + 1 + 2, .lst []), (T.length + 1 + 3, .lst []), (T.length + 1 + 4, .lst []), (T.length + 1 + 5, .obj 34 [(9, .loc (T.length + 1 + 6))]), (T.length + 1 + 6, .dk []), (T.length, .obj 37 [(36, .loc (T.length + 1))]), (0, .tbl mk_picked_of.1 mk_picked_of.2)] := hp
    simp only [List.mem_cons, List.not_mem_nil, or_false] at hp'
    rcases hp' with rfl | rfl | rfl | rfl | rfl | rfl | rfl | rfl | rfl | rfl | rfl | rfl | rfl
    · exact g 11 (by omega)
    · exact g 8 (by omega)
    · exact g 9 (by omega)
    · exact g 10 (by omega)
    · exact g 1 (by omega)
    · exact g 2 (by omega)
    · exact g 3 (by omega)
    · exact g 4 (by omega)
    · exact g 5 (by omega)
    · exact g 6 (by omega)
    · exact g 7 (by omega)
    · exact g 0 (by omega)
    · rw [h2, List.append_assoc, List.getElem?_append_left hl]; exact hT
  · show ([T.length + 8 + 3, T.length + 8, T.length + 8 + 1, T.length + 8 + 2, T.length + 1, T.length + 1 + 1, T.length + 1 + 2, T.length + 1 + 3, T.length + 1 + 4, T.length + 1 + 5, T.length + 1 + 6, T.length, 0] : List Nat).Nodup
    simp only [List.nodup_cons, List.mem_cons, List.not_mem_nil, or_false, not_false_eq_true, List.nodup_nil, and_true]
    omega
theorem j0 (t a : Nat) : J 0 (Sv.new t) (Ow.new a) := by
  refine ⟨⟨rfl, rfl, rfl, rfl, RB.nil⟩, ⟨fun p hp => (by cases hp), fun d hd => (by cases hd)⟩, fun p hp => (by cases hp), 31, 0, ⟨bt_0.mono (by omega), bt_0.mono (by omega), bt_0.mono (by omega), by show (0 : Rat) ≤ 0; decide, by show (0 : Rat) ≤ 0; decide, by show (0 : Rat) ≤ 0; decide, fun p hp => (by cases hp), Nat.zero_le _, List.nodup_nil, fun p hp => (by cases hp), List.nodup_nil, fun p hp => (by cases hp), rfl, Nat.le_refl _, Nat.le_refl _, ⟨List.nodup_nil, Nat.le_refl _, Nat.le_refl _, fun x hx => (by cases hx)⟩⟩, ⟨Nat.le_refl _, fun b hb => (by cases hb)⟩, Nat.le_refl _, Nat.le_refl _, Nat.le_refl _⟩
end C
namespace C
open PySem G
noncomputable section
def b_show_ratio (N : Nat) : SM := (sSeq (sDrop (eCall (m_check_ratio N) (nA 1 (aCons (eVar 0) aNil))))
    (sSeq (sAsg (eVar 0) (gTp 2 (gsCons' (gN 1) (gsCons' (gN 2) gsNil))))
    (sSeq (sIf (tB (eBin dEq (eVar 2) (eC (.int 1)))) (sRet (eCa fStr (aCons (eVar 1) aNil))) sNop)
    (sRet (eJs [(eFmt (eVar 1)), (eC (.str "/")), (eFmt (eVar 2))])))))
def m_show_ratio (N : Nat) : FM := fnM 3 (b_show_ratio N)
theorem dNe_rD (p q : Rat) : dNe (rD p) (rD q) = some (.bl (decide (p ≠ q))) := by
  have h1 : dEq (rD p) (rD q) = some (.bl (decide (p = q))) := dEq_rD p q
  unfold dEq at h1
  unfold dNe
  cases h : eqD (rD p) (rD q) with
  | none => rw [h] at h1; cases h1
  | some b =>
    rw [h] at h1
    have : b = decide (p = q) := by
      have := Option.some.inj h1
      injection this
    subst this
    show some (D.bl (!decide (p = q))) = _
    by_cases c : p = q <;> simp [c]
abbrev S_ (l : List Nat) : Str := SX.S l
def numI (i : Int) : List Nat := if i < 0 then 45 :: TL.numL i.natAbs else TL.numL i.natAbs
theorem str_I (i : Int) : (toString i : Str) = S_ (numI i) := by
  unfold numI
  cases i with
  | ofNat n =>
    rw [if_neg (by simp)]
    exact SX.num_S n
  | negSucc n =>
    rw [if_pos (Int.negSucc_lt_zero n)]
    have e : (toString (Int.negSucc n) : String) = "-" ++ toString (((n + 1 : Nat) : Int)) := rfl
    have k := SX.num_S (n + 1)
    rw [Str.ofString_eq_toList] at k
    have k2 := SX.S_inj k
    show Str.ofString (toString (Int.negSucc n)) = _
    rw [e, Str.ofString_eq_toList, String.toList_append, List.map_append, k2]
    rfl
def tq (q : Rat) : List Nat := numI q.num ++ (if q.den = 1 then [] else 47 :: TL.numL q.den)
theorem numI_len {i : Int} {k : Nat} (hk : 0 < k) (h : i.natAbs < 10 ^ k) : (numI i).length ≤ k + 1 := by
  have := TL.numL_len hk h
  unfold numI
  split
  · rw [List.length_cons]; omega
  · omega
theorem log_small {i : Int} (h : i.natAbs < 2 ^ 250) : i.natAbs.log2 < 1920 := Nat.lt_of_lt_of_le (log2_lt h (by omega)) (by omega)
theorem fStr_I {i : Int} (h : i.natAbs < 2 ^ 250) (S0 : Store) : fStr S0 [.int i] = some (.str (S_ (numI i))) := by
  show (if i.natAbs.log2 < 1920 then some (D.str (toString i)) else none) = _
  rw [if_pos (log_small h), str_I]
theorem fmt_I {i : Int} (h : i.natAbs < 2 ^ 250) : fmtD (.int i) = some (.str (S_ (numI i))) := by
  show (if i.natAbs.log2 < 1920 then some (D.str (toString i)) else none) = _
  rw [if_pos (log_small h), str_I]
theorem sl_S : ("/" : Str) = S_ [47] := by decide +kernel
theorem pow76 : (2 : Nat) ^ 250 ≤ 10 ^ 76 := by decide
theorem numI_b {i : Int} (h : i.natAbs < 2 ^ 250) : (numI i).length ≤ 77 := numI_len (by omega) (Nat.lt_of_lt_of_le h pow76)
theorem add_S {a b : List Nat} (h : a.length + b.length ≤ 1000) (S0 : Store) : dAddS S0 (.str (S_ a)) (.str (S_ b)) = some (.str (S_ (a ++ b))) := by
  show (if (S_ a).length + (S_ b).length ≤ sizeLine then some (D.str (S_ a ++ S_ b)) else none) = _
  rw [if_pos (by rw [sizeLine_eq, SX.S_len, SX.S_len]; omega), SX.S_cat]
end
end C
namespace C
open PySem G
theorem tq_len {q : Rat} (h : Bt q 250) : (tq q).length ≤ 160 := by
  have hd : ((q.den : Int)).natAbs < 2 ^ 250 := by simpa using h.2
  have l1 := numI_b h.1
  have l2 := numI_b hd
  have e2 : numI (q.den : Int) = TL.numL q.den := by unfold numI; rw [if_neg (by omega)]; rfl
  rw [e2] at l2
  unfold tq
  rw [List.length_append]
  split
  · simp only [List.length_nil]; omega
  · rw [List.length_cons]; omega
end C
namespace C
open PySem G
end C
namespace C
open PySem G
structure J2 (b c nn : Nat) (v : Sv) (o : Ow) : Prop where
  al : Al v o
  iv : Iv v
  sm : Sml 5 v
  ex : ∃ B n, SvOk B c n v ∧ BO B c o ∧ 31 ≤ B ∧ B + 26 * v.abs.W ≤ b ∧ n + v.abs.W ≤ nn
theorem J2.mono {b b' c c' nn nn' : Nat} {v : Sv} {o : Ow} (j : J2 b c nn v o) (hb : b ≤ b') (hc : c ≤ c') (hn : nn ≤ nn') : J2 b' c' nn' v o := by
  obtain ⟨B, n, k1, k2, k3, k4, k5⟩ := j.ex
  exact ⟨j.al, j.iv, j.sm, B, n, k1.mono (Nat.le_refl _) hc (Nat.le_refl _), k2.mono (Nat.le_refl _) hc, k3, by omega, by omega⟩
end C
local macro_rules | `(tactic| wp_walk using $ts,*) => (let es := ts.getElems; let k := (es[0]!).raw.getId; let all : Array Lean.Name := #[`G.wr_ok, `G.wr_exc, `G.wr_lf, `G.wr_eC, `G.evQ_some, `G.wr_eVar, `G.cB2_s, `G.cB1_s, `G.wr_eBin, `G.cS2_s, `G.cS1_s, `G.wr_eBinS, `G.asQ_bl, `G.wr_tB, `G.truQ_s, `G.wr_tT, `G.notQ_s, `G.wr_tNt, `G.anQ_t, `G.anQ_f, `G.wr_tAn, `G.orQ_t, `G.orQ_f, `G.wr_tOr, `G.eaB_t, `G.eaB_f, `G.eaQ_s, `G.wr_eAn, `G.eoB_t, `G.eoB_f, `G.eoQ_s, `G.wr_eOr, `G.enB_s, `G.enQ_s, `G.wr_eNt, `G.eiQ_t, `G.eiQ_f, `G.wr_eIf, `G.negQ_int, `G.wr_eNeg, `G.wr_aNil, `G.cC2_s, `G.cC1_s, `G.wr_aCons, `G.tupQ_s, `G.lstQ_s, `G.newQ_s, `G.wr_eTup, `G.wr_eLst, `G.wr_eNew, `G.caQ_s, `G.wr_eCa, `G.clQ_s, `G.wr_eCall, `G.nAQ_s, `G.wr_nA, `G.tyQ_s, `G.wr_eIsTy, `G.icQ_s, `G.wr_eIsC, `G.mt2_s, `G.mt1_s, `G.wr_eMt, `G.wr_oNone, `G.oQ_int, `G.wr_oSome, `G.sl3_s, `G.sl2_s, `G.sl1_s, `G.wr_eSl, `G.kk2_s, `G.kk1_s, `G.wr_eCallK, `G.kk0_s, `G.wr_eCallK0, `G.wr_gN, `G.sb3_s, `G.sb2_s, `G.sb1_s, `G.wr_gSb, `G.wr_gsNil, `G.gs1_s, `G.wr_gsCons, `G.wr_gTp, `G.wr_gTp_rD, `G.xe_s, `G.sq_nx, `G.sq_rt, `G.sq_bk, `G.sq_ct, `G.sq_ex, `G.sq_xe, `G.ws_nxt, `G.ws_sNop, `G.ws_sSeq, `G.ws_sBrk, `G.ws_sCnt, `G.dropQ_s, `G.ws_sDrop, `G.ws_sRet, `G.ws_sRetN, `G.ifQ_t, `G.ifQ_f, `G.ws_sIf, `G.asg1_s, `G.ws_sAsg, `G.setQ_s, `G.ws_sSet, `G.parQ_s, `G.ws_sPar, `G.ws_sRaise, `G.fn_nx, `G.fn_rt, `G.fn_ex, `G.fn_xe, `G.su_nx, `G.su_bk, `G.su_ct, `G.su_rt, `G.trQ_t, `G.trQ_f, `G.tr_nx, `G.tr_rt, `G.tr_bk, `G.tr_ct, `G.tr_ex, `G.ws_sTry, `G.forQ_s, `G.ws_sFor, `G.lp_nx, `G.lp_rt, `G.lp_bk, `G.lp_ct, `G.lp_ex, `G.lp_xe, `G.ws_fi_nil, `G.bodyQ_s, `G.mid_nx, `G.mid_rt, `G.mid_bk, `G.mid_ct, `G.mid_ex, `G.mid_xe, `G.lc2_s, `G.lc1_s, `G.wr_eLc, `G.lcn2_s, `G.lcn1_s, `G.wr_eLcN, `G.wipe_nil, `G.wipe_cons, `G.wr_tTrue, `G.wr_lc_nil, `G.tgQ_some, `G.ly_s, `G.lt1_t, `G.lt1_f, `G.lg_s, `G.eqQ_s, `G.exQ_s, `G.seqQ_tup, `G.seqQ_lst, `G.seqQ_scr, `G.seqQ_rD, `G.wr_iSeq, `G.rgQ_int, `G.wr_iRg1, `G.rgQ2_int, `G.wr_iRg2, `G.ch3_t, `G.ch3_f, `G.ch2_s, `G.ch1_s, `G.wr_eChain, `G.flQ_s, `G.wr_eFld, `G.fldD_ins, `G.stQ_s, `G.sf2_s, `G.sf1_s, `G.ws_sFldM, `G.mkQ2_s, `G.mkQ1_s, `G.wr_eMk, `G.wr_eMk0, `G.ap2_s, `G.ap1_s, `G.wr_eApp, `G.zpQ_s, `G.wr_iZip, `G.zipR_tup, `G.zipR_lst, `G.srQ_s, `G.wr_iStrM, `G.strR_s, `G.ioQ_s, `G.wr_eIsO, `G.dAddS_int, `G.wr_gStr_tup, `G.wr_gStr_lst, `G.fTuple_lst, `G.fTuple_tup, `List.take_succ_cons, `List.take_zero, `List.drop_succ_cons, `List.drop_zero, `List.getElem?_cons_zero, `List.getElem?_cons_succ, `List.set_cons_zero, `List.set_cons_succ, `List.map_cons, `List.map_nil, `List.length_cons, `List.length_nil, `List.cons_append, `List.nil_append, `List.replicate_succ, `List.replicate_zero, `List.append_nil, `true_and, `and_true, `and_self, `if_true, `ite_true, `if_false, `ite_false, `Bool.false_eq_true, `Bool.not_true, `Bool.not_false, `Bool.not_not, `decide_true, `decide_false, `decide_eq_true_eq, `not_false_eq_true, `not_true_eq_false, `reduceCtorEq, `PySem.sizeLine_eq, `Option.map_some, `Option.some.injEq, `Nat.reduceSub, `Nat.reduceAdd, `Nat.reduceLeDiff, `Nat.reduceEqDiff, `Nat.zero_add, `Nat.reduceBEq, `List.contains_cons, `List.contains_nil, `beq_self_eq_true, `Bool.true_or, `Bool.or_true, `Bool.false_or, `Bool.or_false, `List.lookup_cons, `List.lookup_nil, `Int.reduceEq, `Int.reduceNe, `Int.reduceLT, `Int.reduceLE, `Int.reduceNeg, `Int.reduceAdd, `Int.reduceSub, `Int.cast_ofNat_Int, `ne_eq, `G.cmpI_s, `G.dGt, `G.dGe, `G.dLt, `G.dLe, `G.dAdd_int, `G.dSub_int, `G.dEq_int, `G.dNe_int, `G.dEq_bl, `G.dNe_bl, `G.truD_bl, `G.isTy_int, `G.isTy_bl, `G.isTy_tup, `G.fLen_tup, `G.fLen_scr, `G.fLen_lst, `G.fAbs_int, `G.fMax_int, `G.fMin_int, `G.ixD_tup, `G.ixD_lst, `G.ixD_scr, `G.isTy_rD, `G.fLen_rD, `G.ix_rD0, `G.ix_rD1, `G.dEq_rD, `G.dNe_rD, `G.dIs_rD, `G.dIsNot_rD, `G.Tn.is, `G.me3_s, `G.me2_s, `G.me1_s, `G.wr_eMeth, `G.mk2_s, `G.mk1_s, `G.wr_eMethK, `G.m01_s, `G.wr_eMeth0, `G.wr_eNewD, `G.dg3_s, `G.dg2_s, `G.dg1_s, `G.wr_eDGet2, `G.dh2_s, `G.dh1_s, `G.wr_eDGet1, `G.dp3_s, `G.dp2_s, `G.dp1_s, `G.wr_eDPop2, `G.dq2_s, `G.dq1_s, `G.wr_eDPop1, `G.se2_s, `G.se1_s, `G.wr_gSbE, `G.ssQ_s, `G.wr_eSortSet, `G.an2_s, `G.an1_s, `G.wr_eAddN, `G.celQ_tup, `G.celQ_lst, `G.celQ_scr, `G.wr_iCel, `G.forcQ_s, `G.ws_sForC, `G.lcc1_s, `G.wr_eLcC, `G.lcd1_s, `G.wr_eLcCN, `G.keyD_int, `G.keyD_str, `Option.isSome_some, `G.fmQ_s, `G.wr_eFmt, `G.jsQ_str, `G.wr_js_nil, `G.wr_js_cons, `G.wr_eJs, `G.s4Q_str, `G.soQ_s, `G.wr_eStrO, `G.dAddE_0, `G.wr_eCallV, `G.chQ_s, `G.wr_eCallH, `G.wr_lamF, `G.oj_s, `G.enuQ_s, `G.wr_iEnum, `G.enR_tup, `G.enR_lst, `G.lrQ_int, `G.wr_eLr, `G.lrnQ_int, `G.wr_eLrN, `G.agQ_s, `G.auP_s, `G.ws_sAug, `G.augR_int, `G.pp2_s, `G.pp1_s, `G.wr_ePop, `G.wr_gSq_tup, `G.wr_gSq_lst, `G.lnQ_lst, `G.lnQ_tup, `G.wr_eListN, `G.rvQ_lst, `G.wr_eRev, `G.rfQ_s, `G.ws_sRaiseF, `G.trG_nx, `G.trG_rt, `G.trG_bk, `G.trG_ct, `G.trG_ex, `G.ws_sTryG, `G.ws_hd_nil, `G.hdP_t, `G.hdP_f, `G.ws_hd_cons, `G.setO_some, `G.setO_none, `G.ws_suS, `G.suN_nx, `G.suN_rt, `G.suN_bk, `G.suN_ct, `G.ws_suN, `G.iyQ_s, `G.wr_eIsY, `G.isY_exc, `G.fyQ_s, `G.wr_eFldY, `G.fldY_exc, `G.toQ_s, `G.wr_eIsTyO, `G.isTyO_tup, `G.isTyO_lst, `G.isTyO_int, `G.tm2_s, `G.tm1_s, `G.wr_eTm, `G.rgQN_int, `G.wr_iRgN, `G.gf1_s, `G.wr_gFl, `G.as3_s, `G.as2_s, `G.as1_s, `G.ws_sAsg3, `G.at1_s, `G.ws_sAsg2, `G.ws_sFldA, `G.ds3_s, `G.ds2_s, `G.ds1_s, `G.wr_eDSetd, `G.dispQ_s, `G.wr_eDisp, `G.rm2_s, `G.rm1_s, `G.wr_eRem, `G.parQ3_s, `G.ws_sPar3, `G.th_nx, `G.th_rt, `G.th_xe, `G.wr_iDv, `G.wr_iDi, `G.wr_iDk, `G.wr_iTk, `G.wr_eTs1, `G.tu2_s, `G.tu1_s, `G.wr_eTsU, `G.dct1_s, `G.dcQ_s, `G.wr_eDcT, `G.dt1_t, `G.dt1_f, `G.dgg_s, `G.eqOb_t, `G.eqOb_f, `G.eqO2_s, `G.eqO1_s, `G.wr_eEqO, `G.in2_s, `G.in1_s, `G.wr_eIns]; let cut : Nat := if k == `zstop || k == `zust then 1 else if k == `zstf || k == `zxtf then 2 else if k == `zstq then 3 else 0; let sel := all.filter fun n => !((cut == 1 && n == `G.ws_sIf) || (cut == 2 && (n == `G.ws_sIf || n == `G.ws_sFor || n == `G.ws_sForC || n == `G.ws_sForR)) || (cut == 3 && n.getString!.startsWith "ws_")); let ids : Lean.TSyntaxArray `term := sel.map fun n => ⟨(Lean.mkIdent n).raw⟩; let r1 : Lean.TSyntaxArray `term := ids ++ es.extract 1 es.size; let r2 : Lean.TSyntaxArray `term := ids ++ es.extract 2 es.size; let r0 : Lean.TSyntaxArray `term := ids ++ es; if k == `zust || k == `zuse then `(tactic| (have hq0 := $(es[1]!); simp only [$[$r2:term],*] at hq0; exact hq0)) else if k == `zxtf then `(tactic| try simp -implicitDefEqProofs only [$[$r1:term],*]) else if cut == 0 then `(tactic| try simp only [$[$r0:term],*]) else `(tactic| try simp only [$[$r1:term],*]))
namespace C
open PySem G
end C
namespace C
open PySem G
end C
namespace C
open PySem G
noncomputable section
structure SpB (bs : List Rw) (s : Rat) (R : List Rat) : Prop where
  lt : R.Pairwise (· < ·)
  mem : ∀ t, t ∈ R ↔ t = s ∨ (s < t ∧ ∃ b, b ∈ bs ∧ b.2.1 = t)
  len : R.length ≤ bs.length + 1
theorem insB {R : List Rat} (lt : R.Pairwise (· < ·)) {q : Rat} (hq : q ∉ R) : (R.take (R.filter fun u => decide (u < q)).length ++ [q] ++ R.drop (R.filter fun u => decide (u < q)).length).Pairwise (· < ·) := by
  induction R with
  | nil => simp
  | cons a R ih =>
    obtain ⟨p1, p2⟩ := List.pairwise_cons.mp lt
    have hqR : q ∉ R := fun z => hq (List.mem_cons_of_mem _ z)
    have hqa : q ≠ a := fun z => hq (by rw [z]; exact List.mem_cons_self)
    by_cases c : a < q
    · rw [List.filter_cons, if_pos (by simpa using c), List.length_cons, List.take_succ_cons, List.drop_succ_cons]
      have h := ih p2 hqR
      rw [List.cons_append, List.cons_append]
      refine List.pairwise_cons.mpr ⟨fun y hy => ?_, h⟩
      rcases List.mem_append.mp hy with hy | hy
      · rcases List.mem_append.mp hy with hy | hy
        · exact p1 y (List.mem_of_mem_take hy)
        · rw [List.mem_singleton.mp hy]; exact c
      · exact p1 y (List.mem_of_mem_drop hy)
    · have e : ((a :: R).filter fun u => decide (u < q)) = [] := List.filter_eq_nil_iff.mpr fun u hu => by
        rcases List.mem_cons.mp hu with rfl | hu
        · simpa using c
        · have := p1 u hu
          simp; grind
      rw [e]
      show ([] ++ [q] ++ (a :: R)).Pairwise (· < ·)
      rw [List.nil_append]
      refine List.pairwise_cons.mpr ⟨fun y hy => ?_, lt⟩
      rcases List.mem_cons.mp hy with rfl | hy
      · grind
      · have := p1 y hy; grind
theorem ins_mem {R : List Rat} {q t : Rat} (k : Nat) : t ∈ R.take k ++ [q] ++ R.drop k ↔ t = q ∨ t ∈ R := by
  have h : t ∈ R ↔ t ∈ R.take k ∨ t ∈ R.drop k := by
    rw [← List.mem_append, List.take_append_drop]
  rw [h]
  simp only [List.mem_append, List.mem_singleton]
  constructor
  · rintro ((h | h) | h)
    · exact .inr (.inl h)
    · exact .inl h
    · exact .inr (.inr h)
  · rintro (h | h | h)
    · exact .inl (.inr h)
    · exact .inl (.inl h)
    · exact .inr h
end
end C
namespace C
open PySem G
noncomputable section
theorem SpB.nil (s : Rat) : SpB [] s [s] := ⟨by simp, fun t => by simp, Nat.le_refl _⟩
theorem SpB.ins {bs : List Rw} {s : Rat} {R : List Rat} (h : SpB bs s R) {b : Rw} (hb : s < b.2.1) (hn : b.2.1 ∉ R) : SpB (bs ++ [b]) s (R.take (R.filter fun u => decide (u < b.2.1)).length ++ [b.2.1] ++ R.drop (R.filter fun u => decide (u < b.2.1)).length) := by
  refine ⟨insB h.lt hn, fun t => ?_, ?_⟩
  · rw [ins_mem, h.mem]
    constructor
    · rintro (e | e | ⟨e, x, hx, ex⟩)
      · subst e; exact .inr ⟨hb, b, by simp, rfl⟩
      · exact .inl e
      · exact .inr ⟨e, x, List.mem_append_left _ hx, ex⟩
    · rintro (e | ⟨e, x, hx, ex⟩)
      · exact .inr (.inl e)
      · rcases List.mem_append.mp hx with hx | hx
        · exact .inr (.inr ⟨e, x, hx, ex⟩)
        · rw [List.mem_singleton.mp hx] at ex
          exact .inl ex.symm
  · have := h.len
    rw [List.length_append, List.length_append, List.length_take, List.length_drop, List.length_append, List.length_singleton, List.length_singleton]
    omega
end
end C
namespace C
open PySem G
noncomputable section
theorem sumB_sF (bs : List Rw) (t : Rat) (but : Option Int) : sumB bs t but = sF (gB but fun i => lawT bs i t) ((knB bs t).map (·.1)) := by
  unfold sumB
  rw [fold_pr (fun p : Int × Rat => p.1) (fun p => p.2) but (fun i => lawT bs i t) (knB bs t) 0 (knB_ok bs t).2.1]
  grind
theorem sF_mono {g h : Int → Rat} : ∀ {A : List Int}, (∀ i, i ∈ A → g i ≤ h i) → sF g A ≤ sF h A
  | [], _ => Rat.le_refl
  | i :: A, e => by
    rw [sF_cons, sF_cons]
    have a := e i List.mem_cons_self
    have b := sF_mono (A := A) fun j hj => e j (List.mem_cons_of_mem _ hj)
    grind
theorem lawT_all {P : Rat → Prop} (h0 : P 0) {bs : List Rw} (h : ∀ b, b ∈ bs → P b.2.2) (i : Int) (t : Rat) : P (lawT bs i t) := by
  unfold lawT
  generalize (0 : Rat) = z at h0
  induction bs generalizing z with
  | nil => exact h0
  | cons b bs ih =>
    rw [List.foldl_cons]
    refine ih (fun x hx => h x (List.mem_cons_of_mem _ hx)) _ ?_
    split
    · exact h b List.mem_cons_self
    · exact h0
theorem sF_all {P : Rat → Prop} (h0 : P 0) (ha : ∀ p q, P p → P q → P (p + q)) {g : Int → Rat} (h : ∀ i, P (g i)) : ∀ A : List Int, P (sF g A)
  | [] => h0
  | i :: A => by rw [sF_cons]; exact ha _ _ (h i) (sF_all h0 ha h A)
theorem sumB_all {P : Rat → Prop} (h0 : P 0) (ha : ∀ p q, P p → P q → P (p + q)) {bs : List Rw} (h : ∀ b, b ∈ bs → P b.2.2) (t : Rat) (but : Option Int) : P (sumB bs t but) := by
  rw [sumB_sF]
  refine sF_all h0 ha (fun i => ?_) _
  unfold gB
  split
  · exact h0
  · exact lawT_all h0 h i t
theorem sumB_but {bs : List Rw} (h : ∀ b, b ∈ bs → 0 ≤ b.2.2) (t : Rat) (but : Option Int) : sumB bs t but ≤ sumB bs t none := by
  rw [sumB_sF, sumB_sF]
  refine sF_mono fun i _ => ?_
  have := lawT_all (P := fun q => 0 ≤ q) (by decide) h i t
  unfold gB
  rw [if_neg (show ¬ (none = some i) by simp)]
  split
  · exact this
  · exact Rat.le_refl
theorem mostB_all {P : Rat → Prop} (h0 : P 0) (ha : ∀ p q, P p → P q → P (p + q)) {bs : List Rw} (h : ∀ b, b ∈ bs → P b.2.2) (s : Rat) (but : Option Int) : P (mostB bs s but) := by
  rcases (mostB_is bs s but).at_ with e | ⟨t, _, e⟩
  · rw [e]; exact h0
  · rw [← e]; exact sumB_all h0 ha h t but
structure WI (o : Ow) : Prop where
  wh : ∀ t, o.now ≤ t → sumB o.books t none ≤ 1
  bn : ∀ b, b ∈ o.books → 0 ≤ b.2.2
  bd : ∀ b, b ∈ o.books → D27 b.2.2
  fd : ∀ p, p ∈ o.folk → D27 p.2.2.l
theorem WI.most {o : Ow} (w : WI o) {s : Rat} (hs : o.now ≤ s) (but : Option Int) : mostB o.books s but ≤ 1 := by
  rcases (mostB_is o.books s but).at_ with e | ⟨t, ht, e⟩
  · rw [e]; decide
  · rw [← e]
    have h1 := sumB_but w.bn t but
    have h2 := w.wh t (by grind)
    show sumB o.books t but ≤ 1
    grind
theorem WI.left {o : Ow} (w : WI o) {s : Rat} (hs : o.now ≤ s) (but : Option Int) : 0 ≤ 1 - mostB o.books s but ∧ 1 - mostB o.books s but ≤ 1 ∧ D27 (1 - mostB o.books s but) ∧ Bt (1 - mostB o.books s but) 15 := by
  have h1 := w.most hs but
  have h2 := (mostB_is o.books s but).nn
  have h3 : D27 (1 - mostB o.books s but) := d27_1.sub (mostB_all d27_0 (fun _ _ => D27.add) w.bd s but)
  have a : 0 ≤ 1 - mostB o.books s but := by grind
  have b : 1 - mostB o.books s but ≤ 1 := by grind
  exact ⟨a, b, h3, h3.bt a b⟩
theorem WI.keep {o o1 : Ow} (w : WI o) (e1 : o1.books = o.books) (e2 : o.now ≤ o1.now) (e3 : ∀ p, p ∈ o1.folk → ∃ q, q ∈ o.folk ∧ q.2.2.l = p.2.2.l) : WI o1 := by
  refine ⟨fun t ht => ?_, by rw [e1]; exact w.bn, by rw [e1]; exact w.bd, fun p hp => ?_⟩
  · rw [e1]; exact w.wh t (by grind)
  · obtain ⟨q, hq, e⟩ := e3 p hp
    rw [← e]; exact w.fd q hq
theorem WI.new (a : Nat) : WI (Ow.new a) := ⟨fun t _ => by show (0 : Rat) ≤ 1; decide, fun b hb => (by cases hb), fun b hb => (by cases hb), fun p hp => (by cases hp)⟩
structure J3 (b c nn : Nat) (v : Sv) (o : Ow) : Prop where
  al : Al v o
  iv : Iv v
  sm : Sml 15 v
  wi : WI o
  ex : ∃ B n, SvOk B c n v ∧ BO B c o ∧ 31 ≤ B ∧ B + 26 * v.abs.W ≤ b ∧ n + v.abs.W ≤ nn
theorem J3.mono {b b' c c' nn nn' : Nat} {v : Sv} {o : Ow} (j : J3 b c nn v o) (hb : b ≤ b') (hc : c ≤ c') (hn : nn ≤ nn') : J3 b' c' nn' v o := by
  obtain ⟨B, n, k1, k2, k3, k4, k5⟩ := j.ex
  exact ⟨j.al, j.iv, j.sm, j.wi, B, n, k1.mono (Nat.le_refl _) hc (Nat.le_refl _), k2.mono (Nat.le_refl _) hc, k3, by omega, by omega⟩
end
end C
namespace C
open PySem G
noncomputable section
def Dpt (k : Nat) (d : D) : Prop := ∃ p, d.toP = some p ∧ p.canLay0 = true ∧ p.depth ≤ k
theorem Dpt.mono {k l : Nat} {d : D} (h : Dpt k d) (e : k ≤ l) : Dpt l d := by
  obtain ⟨p, a, b, c⟩ := h
  exact ⟨p, a, b, Nat.le_trans c e⟩
structure Nx0 (B c n W : Nat) (v1 : Sv) : Prop where
  ok : SvOk B (c + 1) (n + 1) v1
  sm : Sml 15 v1
  w : v1.abs.W ≤ W
theorem Nx0.nx {B c n W bt : Nat} {v1 : Sv} (h : Nx0 B c n W v1) : Nx B c n W 15 bt v1 := ⟨⟨B, n + 1, h.ok, Nat.le_refl _, by have := h.w; omega, by have := h.w; omega⟩, h.sm⟩
theorem PS.app {S : Store} {n : Nat} {L : HL} (h : PS S n L) (c : List Cell) : PS (S ++ c) n L := ⟨h.P.app _, h.s.app _, h.a⟩
end
end C
namespace C
open PySem G
noncomputable section
structure RpOk (m k : Nat) (d : D) : Prop where
  ex : ∃ p, d.toP = some p ∧ p.showable = true ∧ p.leavesShort 1921 = true ∧ p.hasDict = false ∧ p.depth ≤ k ∧ p.bulk ≤ m
theorem RpOk.mono {m m' k k' : Nat} {d : D} (h : RpOk m k d) (l : m ≤ m') (l' : k ≤ k') : RpOk m' k' d := by
  obtain ⟨p, a, b, c, e, f, g⟩ := h
  exact ⟨p, a, b, c, e, Nat.le_trans f l', Nat.le_trans g l⟩
end
end C
namespace C
open PySem G
noncomputable section
structure FOk (F : HL) (s r : Nat) : Prop where
  s : (s, Cell.obj 37 [(36, .loc r)]) ∈ F
  t : ((0, Cell.tbl mk_picked_of.1 mk_picked_of.2) : Nat × Cell) ∈ F
theorem FOk.srv {F : HL} {s r : Nat} (h : FOk F s r) {v : Sv} (hr : v.r = r) : (s, srvC v) ∈ F := by unfold srvC; rw [hr]; exact h.s
theorem FOk.app {F : HL} {s r : Nat} (h : FOk F s r) (L : HL) : FOk (F ++ L) s r := ⟨List.mem_append_left _ h.s, List.mem_append_left _ h.t⟩
theorem FOk.cons {F : HL} {s r : Nat} (h : FOk F s r) (x : Nat × Cell) : FOk (x :: F) s r := ⟨List.mem_cons_of_mem _ h.s, List.mem_cons_of_mem _ h.t⟩
theorem FOk.left {F : HL} {s r : Nat} (h : FOk F s r) (L : HL) : FOk (L ++ F) s r := ⟨List.mem_append_right _ h.s, List.mem_append_right _ h.t⟩
theorem FOk.get {F : HL} {s r : Nat} (h : FOk F s r) {S : Store} {v : Sv} {L : HL} (hr : v.r = r) (hs : Sep S (L ++ F)) : S[s]? = some (srvC v) := hs.get (List.mem_append_right _ (h.srv hr))
theorem J3_of {v : Sv} {o : Ow} (j : J 0 v o) (w : WI o) : J3 31 0 0 v o := by
  obtain ⟨B, n, k1, k2, k3, k4, k5⟩ := j.ex
  exact ⟨j.al, j.iv, fun p hp => ⟨(j.sm p hp).1.mono (by omega), fun q hq => ((j.sm p hp).2 q hq).mono (by omega)⟩, w, B, n, k1, k2, k3, by omega, by omega⟩
end
end C
namespace C
open PySem G
noncomputable section
structure BL (o : Ow) : Prop where
  lt : ∀ p, p ∈ o.folk → ∀ t, o.now ≤ t → p.2.2.c ≤ t → lawT o.books p.2.2.num t = p.2.2.l
  ex : ∀ p, p ∈ o.folk → ∃ b, b ∈ o.books ∧ b.1 = (p.2.2.num : Int) ∧ ¬ o.now < b.2.1
theorem BL.keep {o o1 : Ow} (w : BL o) (e1 : o1.books = o.books) (e2 : o.now ≤ o1.now) (e3 : ∀ p, p ∈ o1.folk → ∃ q, q ∈ o.folk ∧ q.2.2.num = p.2.2.num ∧ q.2.2.l = p.2.2.l ∧ q.2.2.c ≤ p.2.2.c) : BL o1 := by
  refine ⟨fun p hp t h1 h2 => ?_, fun p hp => ?_⟩
  · obtain ⟨q, hq, g1, g2, g3⟩ := e3 p hp
    rw [e1, ← g1, ← g2]
    exact w.lt q hq t (by grind) (by grind)
  · obtain ⟨q, hq, g1, g2, g3⟩ := e3 p hp
    obtain ⟨b, hb, h1, h2⟩ := w.ex q hq
    exact ⟨b, by rw [e1]; exact hb, by rw [h1, g1], by grind⟩
theorem BL.new (a : Nat) : BL (Ow.new a) := ⟨fun p hp => (by cases hp), fun p hp => (by cases hp)⟩
end
end C
namespace C
open PySem G
noncomputable section
def Gh (v : Sv) : Prop := ∃ S s r, Sep S (v.H ++ F0 s r) ∧ v.r = r
theorem gh_new : Gh (Sv.new 2) := by
  have h := fresh_sep [.tbl mk_picked_of.1 mk_picked_of.2] rfl rfl
  exact ⟨_, _, _, h.right, rfl⟩
structure JG (b c nn : Nat) (o : Ow) : Prop where
  ex : ∃ v, J3 b c nn v o ∧ Gh v
theorem JG.new (a : Nat) : JG 31 0 0 (Ow.new a) := ⟨Sv.new 2, J3_of (j0 2 a) (WI.new a), gh_new⟩
theorem JG.mono {b b' c c' nn nn' : Nat} {o : Ow} (j : JG b c nn o) (hb : b ≤ b') (hc : c ≤ c') (hn : nn ≤ nn') : JG b' c' nn' o := by
  obtain ⟨v, h, g⟩ := j.ex
  exact ⟨v, h.mono hb hc hn, g⟩
end
end C
namespace C
open PySem G
noncomputable section
inductive LR where
  | join (t : Rat) (nm : Str) (l : Rat) (o : Option Rat) (h : Int)
  | ask (t : Rat) (nm : Str) (z : Int)
  | leave (t : Rat) (nm : Str)
  | least (t : Rat) (nm : Str) (r : Rat)
  | most (t : Rat) (nm : Str) (m : Option Rat)
  | weight (t : Rat) (nm : Str) (h : Int)
  | serve (t : Rat) (nm : Str) (z : Int) (b : Bool)
def LR.D : LR → D
  | .join t nm l o h => .tup [.str "join", rD t, .str nm, rD l, oD o, .int h]
  | .ask t nm z => .tup [.str "ask", rD t, .str nm, .int z]
  | .leave t nm => .tup [.str "leave", rD t, .str nm]
  | .least t nm r => .tup [.str "least", rD t, .str nm, rD r]
  | .most t nm m => .tup [.str "most", rD t, .str nm, oD m]
  | .weight t nm h => .tup [.str "weight", rD t, .str nm, .int h]
  | .serve t nm z b => .tup [.str "serve", rD t, .str nm, .int z, .str (wordOf b)]
def LR.t : LR → Rat
  | .join t .. | .ask t .. | .leave t .. | .least t .. | .most t .. | .weight t .. | .serve t .. => t
def LR.nm : LR → Str
  | .join _ n .. | .ask _ n .. | .leave _ n .. | .least _ n .. | .most _ n .. | .weight _ n .. | .serve _ n .. => n
structure Rse where
  name : Str
  l : Rat
  o : Option Rat
  h : Int
  c : Rat
  g : Rat
  t : Rat
  sz : List Int
def rse (x : Se) : Rse := ⟨x.name, x.l, x.o, x.h, x.c, x.g, x.t, x.line.map (·.2)⟩
structure RS where
  seats : List Rse
  pace : Rat
def RS.names (s : RS) : List Str := s.seats.map (·.name)
def updR (nm : Str) (f : Rse → Rse) (l : List Rse) : List Rse := l.map fun x => if x.name = nm then f x else x
def serveR (t : Rat) (z : Int) (b : Bool) (pace : Rat) (x : Rse) : Rse := { x with sz := x.sz.tail, c := if b then dueB x.c z x.l else x.c, g := gateB x.o x.g z t, t := if b then x.t else rsd x.t pace z (x.h : Rat) }
def askR (t : Rat) (z : Int) (x : Rse) : Rse := { x with c := if x.sz = [] then max x.c t else x.c, sz := x.sz ++ [z] }
def RS.step (s : RS) : LR → RS
  | .join t nm l o h => ⟨s.seats ++ [⟨nm, l, o, h, t, t, s.pace, []⟩], s.pace⟩
  | .ask t nm z => ⟨updR nm (askR t z) s.seats, s.pace⟩
  | .leave _ nm => ⟨s.seats.filter fun x => decide (x.name ≠ nm), s.pace⟩
  | .least t nm r => ⟨updR nm (fun x => { x with c := max x.c t, l := r }) s.seats, s.pace⟩
  | .most _ nm m => ⟨updR nm (fun x => { x with o := m }) s.seats, s.pace⟩
  | .weight _ nm h => ⟨updR nm (fun x => { x with h := h }) s.seats, s.pace⟩
  | .serve t nm z b => ⟨updR nm (serveR t z b s.pace) s.seats, if b then s.pace else max (((s.seats.find? fun x => decide (x.name = nm)).map (·.t)).getD s.pace) s.pace⟩
def RS.okR (s : RS) : LR → Prop
  | .join _ nm l o h => nm ∉ s.names ∧ Bt l 15 ∧ (∀ q, o = some q → Bt q 15) ∧ CliOk l o h
  | .ask _ nm z => nm ∈ s.names ∧ 1 ≤ z ∧ z ≤ 999
  | .leave _ nm => nm ∈ s.names
  | .least _ nm r => nm ∈ s.names ∧ Bt r 15 ∧ 0 ≤ r ∧ r ≤ 1
  | .most _ nm m => nm ∈ s.names ∧ ∀ q, m = some q → Bt q 15 ∧ 0 < q ∧ q ≤ 1
  | .weight _ nm h => nm ∈ s.names ∧ 1 ≤ h ∧ h ≤ 99
  | .serve _ nm z b => 1 ≤ z ∧ z ≤ 999 ∧ ∃ x, x ∈ s.seats ∧ x.name = nm ∧ (b = true → x.l ≠ 0) ∧ ∃ r, x.sz = z :: r
def RS.run (s : RS) (l : List LR) : RS := l.foldl RS.step s
def RS.Ok : RS → List LR → Prop
  | _, [] => True
  | s, r :: l => s.okR r ∧ RS.Ok (s.step r) l
theorem RS.Ok.left : ∀ {l m : List LR} {s : RS}, RS.Ok s (l ++ m) → RS.Ok s l
  | [], _, _, _ => trivial
  | _ :: _, _, _, h => ⟨h.1, RS.Ok.left h.2⟩
def Ab.rs (b : Ab) : RS := ⟨b.seats.map rse, b.pace⟩
def rs0 : RS := ⟨[], 0⟩
structure LgA (B : Nat) (lr : List LR) (b : Ab) (now : Rat) : Prop where
  rows : b.rows = lr.map LR.D
  st : rs0.run lr = b.rs
  ok : RS.Ok rs0 lr
  srt : (lr.map LR.t).Pairwise (· ≤ ·)
  le : ∀ r, r ∈ lr → r.t ≤ now
  bt : ∀ r, r ∈ lr → Bt r.t B ∧ 0 ≤ r.t ∧ NmOk r.nm
theorem LgA.mono {B B' : Nat} {lr : List LR} {b : Ab} {now : Rat} (h : LgA B lr b now) (l : B ≤ B') : LgA B' lr b now := ⟨h.rows, h.st, h.ok, h.srt, h.le, fun r hr => ⟨(h.bt r hr).1.mono l, (h.bt r hr).2⟩⟩
structure AO (B : Nat) (b : Ab) : Prop where
  seats : ∀ x, x ∈ b.seats → SeOk B x ∧ Bt x.l 15 ∧ (∀ q, x.o = some q → Bt q 15) ∧ NmOk x.name
  nums : (b.seats.map (·.num)).Nodup
  names : (b.seats.map (·.name)).Nodup
  bp : Bt b.pace B
theorem AO.mono {B B' : Nat} {b : Ab} (h : AO B b) (l : B ≤ B') : AO B' b := ⟨fun x hx => ⟨(h.seats x hx).1.mono l, (h.seats x hx).2⟩, h.nums, h.names, h.bp.mono l⟩
end
end C
namespace C
open PySem G
end C
namespace C
open PySem G
noncomputable section
def GhO (o : Ow) : Prop := ∃ S F, Sep S (o.H ++ F)
structure SJ (b c nn : Nat) (v : Sv) : Prop where
  ex : ∃ o, J3 b c nn v o ∧ GhO o
structure Tw (b c nn : Nat) (v u : Sv) : Prop where
  ex : ∃ o, J3 b c nn v o ∧ J3 b c nn u o ∧ GhO o
  ft : v.fates = u.fates
theorem Tw.l {b c nn : Nat} {v u : Sv} (t : Tw b c nn v u) : SJ b c nn v := by
  obtain ⟨o, h, _, g⟩ := t.ex
  exact ⟨o, h, g⟩
theorem Tw.rt {b c nn : Nat} {v u : Sv} (t : Tw b c nn v u) : SJ b c nn u := by
  obtain ⟨o, _, h, g⟩ := t.ex
  exact ⟨o, h, g⟩
theorem Tw.mono {b b' c c' nn nn' : Nat} {v u : Sv} (j : Tw b c nn v u) (hb : b ≤ b') (hc : c ≤ c') (hn : nn ≤ nn') : Tw b' c' nn' v u := by
  obtain ⟨o, h, h', g⟩ := j.ex
  exact ⟨⟨o, h.mono hb hc hn, h'.mono hb hc hn, g⟩, j.ft⟩
theorem SJ.mono {b b' c c' nn nn' : Nat} {v : Sv} (j : SJ b c nn v) (hb : b ≤ b') (hc : c ≤ c') (hn : nn ≤ nn') : SJ b' c' nn' v := by
  obtain ⟨o, h, g⟩ := j.ex
  exact ⟨o, h.mono hb hc hn, g⟩
theorem Tw.ab {b c nn : Nat} {v u : Sv} (t : Tw b c nn v u) : v.abs = u.abs := by
  obtain ⟨o, h, h', _⟩ := t.ex
  rw [← h.al.ab, ← h'.al.ab]
theorem Tw.at_ {b c nn : Nat} {v u : Sv} (t : Tw b c nn v u) : v.at_ = u.at_ := by
  obtain ⟨o, h, h', _⟩ := t.ex
  rw [← h.al.now, ← h'.al.now]
theorem Tw.rows {b c nn : Nat} {v u : Sv} (t : Tw b c nn v u) : v.rows = u.rows := congrArg Ab.rows t.ab
structure Bd (B b c nn : Nat) (v : Sv) : Prop where
  ex : ∃ n, SvOk B c n v ∧ n + v.abs.W ≤ nn
  b31 : 31 ≤ B
  w : B + 26 * v.abs.W ≤ b
theorem SJ.bd {b c nn : Nat} {v : Sv} (j : SJ b c nn v) : ∃ B, Bd B b c nn v := by
  obtain ⟨o, h, _⟩ := j.ex
  obtain ⟨B, n, k1, k2, k3, k4, k5⟩ := h.ex
  exact ⟨B, ⟨n, k1, k5⟩, k3, k4⟩
theorem Tw.bd {b c nn : Nat} {v u : Sv} (j : Tw b c nn v u) : ∃ B, Bd B b c nn v ∧ Bd B b c nn u := by
  have ea := j.ab
  obtain ⟨B, ⟨n, k1, k2⟩, k3, k4⟩ := j.l.bd
  obtain ⟨B', ⟨n', k1', k2'⟩, k3', k4'⟩ := j.rt.bd
  rw [← ea] at k4'
  rw [← ea] at k2'
  refine ⟨max B B', ⟨⟨n, k1.mono (by omega) (Nat.le_refl _) (Nat.le_refl _), k2⟩, by omega, by omega⟩, ⟨⟨n', k1'.mono (by omega) (Nat.le_refl _) (Nat.le_refl _), by rw [← ea]; exact k2'⟩, by omega, by rw [← ea]; omega⟩⟩
end
end C
namespace C
open PySem G
noncomputable section
def lnN (l : List Se) : List Nat := l.flatMap fun x => x.line.map (·.1)
def wtD : D := .tup [.str "waits"]
def bgD (b : Rat) (z : Int) (lst : Bool) : D := .tup [.str "begun", rD b, rD (b + (z : Rat)), .str (wordOf lst)]
def dpD (t : Rat) : D := .tup [.str "dropped", rD t]
structure Wt (l : List Se) (f : List D) : Prop where
  nd : (lnN l).Nodup
  at_ : ∀ k, k ∈ lnN l → f[k]? = some wtD
def FtK (d : D) : Prop := d = wtD ∨ (∃ b z lst, Bt b 4000 ∧ 1 ≤ z ∧ z ≤ (999 : Int) ∧ d = bgD b z lst) ∨ ∃ t, d = dpD t
structure FtP (m : Rat) (f0 f : List D) : Prop where
  new : ∀ (k : Nat) b z lst, f[k]? = some (bgD b z lst) → b < m → f0[k]? = some (bgD b z lst)
  old : ∀ (k : Nat) b z lst, f0[k]? = some (bgD b z lst) → f[k]? = some (bgD b z lst)
theorem FtP.rf (m : Rat) (f : List D) : FtP m f f := ⟨fun _ _ _ _ h _ => h, fun _ _ _ _ h => h⟩
def RowT (m : Rat) (d : D) : Prop := ∃ (w : Str) (t : Rat) (rest : List D), d = .tup (.str w :: rD t :: rest) ∧ m ≤ t ∧ Bt t 4000
structure Past (m : Rat) (R : List D) (f0 : List D) (v : Sv) : Prop where
  now : m ≤ v.at_
  rows : ∃ ext, v.rows = R ++ ext ∧ ∀ d, d ∈ ext → RowT m d
  wt : Wt v.abs.seats v.fates
  ft : FtP m f0 v.fates
  k : ∀ d, d ∈ v.fates → FtK d
  len : f0.length ≤ v.fates.length
theorem Past.start {m : Rat} {R f0 : List D} {v : Sv} (h : Past m R f0 v) : Past v.at_ v.rows v.fates v := ⟨Rat.le_refl, ⟨[], by simp, fun d hd => by cases hd⟩, h.wt, FtP.rf _ _, h.k, Nat.le_refl _⟩
end
end C
local macro_rules | `(tactic| wp_walk using $ts,*) => (let es := ts.getElems; let k := (es[0]!).raw.getId; let all : Array Lean.Name := #[`G.wr_ok, `G.wr_exc, `G.wr_lf, `G.wr_eC, `G.evQ_some, `G.wr_eVar, `G.cB2_s, `G.cB1_s, `G.wr_eBin, `G.cS2_s, `G.cS1_s, `G.wr_eBinS, `G.asQ_bl, `G.wr_tB, `G.truQ_s, `G.wr_tT, `G.notQ_s, `G.wr_tNt, `G.anQ_t, `G.anQ_f, `G.wr_tAn, `G.orQ_t, `G.orQ_f, `G.wr_tOr, `G.eaB_t, `G.eaB_f, `G.eaQ_s, `G.wr_eAn, `G.eoB_t, `G.eoB_f, `G.eoQ_s, `G.wr_eOr, `G.enB_s, `G.enQ_s, `G.wr_eNt, `G.eiQ_t, `G.eiQ_f, `G.wr_eIf, `G.negQ_int, `G.wr_eNeg, `G.wr_aNil, `G.cC2_s, `G.cC1_s, `G.wr_aCons, `G.tupQ_s, `G.lstQ_s, `G.newQ_s, `G.wr_eTup, `G.wr_eLst, `G.wr_eNew, `G.caQ_s, `G.wr_eCa, `G.clQ_s, `G.wr_eCall, `G.nAQ_s, `G.wr_nA, `G.tyQ_s, `G.wr_eIsTy, `G.icQ_s, `G.wr_eIsC, `G.mt2_s, `G.mt1_s, `G.wr_eMt, `G.wr_oNone, `G.oQ_int, `G.wr_oSome, `G.sl3_s, `G.sl2_s, `G.sl1_s, `G.wr_eSl, `G.kk2_s, `G.kk1_s, `G.wr_eCallK, `G.kk0_s, `G.wr_eCallK0, `G.wr_gN, `G.sb3_s, `G.sb2_s, `G.sb1_s, `G.wr_gSb, `G.wr_gsNil, `G.gs1_s, `G.wr_gsCons, `G.wr_gTp, `G.wr_gTp_rD, `G.xe_s, `G.sq_nx, `G.sq_rt, `G.sq_bk, `G.sq_ct, `G.sq_ex, `G.sq_xe, `G.ws_nxt, `G.ws_sNop, `G.ws_sSeq, `G.ws_sBrk, `G.ws_sCnt, `G.dropQ_s, `G.ws_sDrop, `G.ws_sRet, `G.ws_sRetN, `G.ifQ_t, `G.ifQ_f, `G.ws_sIf, `G.asg1_s, `G.ws_sAsg, `G.setQ_s, `G.ws_sSet, `G.parQ_s, `G.ws_sPar, `G.ws_sRaise, `G.fn_nx, `G.fn_rt, `G.fn_ex, `G.fn_xe, `G.su_nx, `G.su_bk, `G.su_ct, `G.su_rt, `G.trQ_t, `G.trQ_f, `G.tr_nx, `G.tr_rt, `G.tr_bk, `G.tr_ct, `G.tr_ex, `G.ws_sTry, `G.forQ_s, `G.ws_sFor, `G.lp_nx, `G.lp_rt, `G.lp_bk, `G.lp_ct, `G.lp_ex, `G.lp_xe, `G.ws_fi_nil, `G.bodyQ_s, `G.mid_nx, `G.mid_rt, `G.mid_bk, `G.mid_ct, `G.mid_ex, `G.mid_xe, `G.lc2_s, `G.lc1_s, `G.wr_eLc, `G.lcn2_s, `G.lcn1_s, `G.wr_eLcN, `G.wipe_nil, `G.wipe_cons, `G.wr_tTrue, `G.wr_lc_nil, `G.tgQ_some, `G.ly_s, `G.lt1_t, `G.lt1_f, `G.lg_s, `G.eqQ_s, `G.exQ_s, `G.seqQ_tup, `G.seqQ_lst, `G.seqQ_scr, `G.seqQ_rD, `G.wr_iSeq, `G.rgQ_int, `G.wr_iRg1, `G.rgQ2_int, `G.wr_iRg2, `G.ch3_t, `G.ch3_f, `G.ch2_s, `G.ch1_s, `G.wr_eChain, `G.flQ_s, `G.wr_eFld, `G.fldD_ins, `G.stQ_s, `G.sf2_s, `G.sf1_s, `G.ws_sFldM, `G.mkQ2_s, `G.mkQ1_s, `G.wr_eMk, `G.wr_eMk0, `G.ap2_s, `G.ap1_s, `G.wr_eApp, `G.zpQ_s, `G.wr_iZip, `G.zipR_tup, `G.zipR_lst, `G.srQ_s, `G.wr_iStrM, `G.strR_s, `G.ioQ_s, `G.wr_eIsO, `G.dAddS_int, `G.wr_gStr_tup, `G.wr_gStr_lst, `G.fTuple_lst, `G.fTuple_tup, `List.take_succ_cons, `List.take_zero, `List.drop_succ_cons, `List.drop_zero, `List.getElem?_cons_zero, `List.getElem?_cons_succ, `List.set_cons_zero, `List.set_cons_succ, `List.map_cons, `List.map_nil, `List.length_cons, `List.length_nil, `List.cons_append, `List.nil_append, `List.replicate_succ, `List.replicate_zero, `List.append_nil, `true_and, `and_true, `and_self, `if_true, `ite_true, `if_false, `ite_false, `Bool.false_eq_true, `Bool.not_true, `Bool.not_false, `Bool.not_not, `decide_true, `decide_false, `decide_eq_true_eq, `not_false_eq_true, `not_true_eq_false, `reduceCtorEq, `PySem.sizeLine_eq, `Option.map_some, `Option.some.injEq, `Nat.reduceSub, `Nat.reduceAdd, `Nat.reduceLeDiff, `Nat.reduceEqDiff, `Nat.zero_add, `Nat.reduceBEq, `List.contains_cons, `List.contains_nil, `beq_self_eq_true, `Bool.true_or, `Bool.or_true, `Bool.false_or, `Bool.or_false, `List.lookup_cons, `List.lookup_nil, `Int.reduceEq, `Int.reduceNe, `Int.reduceLT, `Int.reduceLE, `Int.reduceNeg, `Int.reduceAdd, `Int.reduceSub, `Int.cast_ofNat_Int, `ne_eq, `G.cmpI_s, `G.dGt, `G.dGe, `G.dLt, `G.dLe, `G.dAdd_int, `G.dSub_int, `G.dEq_int, `G.dNe_int, `G.dEq_bl, `G.dNe_bl, `G.truD_bl, `G.isTy_int, `G.isTy_bl, `G.isTy_tup, `G.fLen_tup, `G.fLen_scr, `G.fLen_lst, `G.fAbs_int, `G.fMax_int, `G.fMin_int, `G.ixD_tup, `G.ixD_lst, `G.ixD_scr, `G.isTy_rD, `G.fLen_rD, `G.ix_rD0, `G.ix_rD1, `G.dEq_rD, `G.dNe_rD, `G.dIs_rD, `G.dIsNot_rD, `G.Tn.is, `G.me3_s, `G.me2_s, `G.me1_s, `G.wr_eMeth, `G.mk2_s, `G.mk1_s, `G.wr_eMethK, `G.m01_s, `G.wr_eMeth0, `G.wr_eNewD, `G.dg3_s, `G.dg2_s, `G.dg1_s, `G.wr_eDGet2, `G.dh2_s, `G.dh1_s, `G.wr_eDGet1, `G.dp3_s, `G.dp2_s, `G.dp1_s, `G.wr_eDPop2, `G.dq2_s, `G.dq1_s, `G.wr_eDPop1, `G.se2_s, `G.se1_s, `G.wr_gSbE, `G.ssQ_s, `G.wr_eSortSet, `G.an2_s, `G.an1_s, `G.wr_eAddN, `G.celQ_tup, `G.celQ_lst, `G.celQ_scr, `G.wr_iCel, `G.forcQ_s, `G.ws_sForC, `G.lcc1_s, `G.wr_eLcC, `G.lcd1_s, `G.wr_eLcCN, `G.keyD_int, `G.keyD_str, `Option.isSome_some, `G.fmQ_s, `G.wr_eFmt, `G.jsQ_str, `G.wr_js_nil, `G.wr_js_cons, `G.wr_eJs, `G.s4Q_str, `G.soQ_s, `G.wr_eStrO, `G.dAddE_0, `G.wr_eCallV, `G.chQ_s, `G.wr_eCallH, `G.wr_lamF, `G.oj_s, `G.enuQ_s, `G.wr_iEnum, `G.enR_tup, `G.enR_lst, `G.lrQ_int, `G.wr_eLr, `G.lrnQ_int, `G.wr_eLrN, `G.agQ_s, `G.auP_s, `G.ws_sAug, `G.augR_int, `G.pp2_s, `G.pp1_s, `G.wr_ePop, `G.wr_gSq_tup, `G.wr_gSq_lst, `G.lnQ_lst, `G.lnQ_tup, `G.wr_eListN, `G.rvQ_lst, `G.wr_eRev, `G.rfQ_s, `G.ws_sRaiseF, `G.trG_nx, `G.trG_rt, `G.trG_bk, `G.trG_ct, `G.trG_ex, `G.ws_sTryG, `G.ws_hd_nil, `G.hdP_t, `G.hdP_f, `G.ws_hd_cons, `G.setO_some, `G.setO_none, `G.ws_suS, `G.suN_nx, `G.suN_rt, `G.suN_bk, `G.suN_ct, `G.ws_suN, `G.iyQ_s, `G.wr_eIsY, `G.isY_exc, `G.fyQ_s, `G.wr_eFldY, `G.fldY_exc, `G.toQ_s, `G.wr_eIsTyO, `G.isTyO_tup, `G.isTyO_lst, `G.isTyO_int, `G.tm2_s, `G.tm1_s, `G.wr_eTm, `G.rgQN_int, `G.wr_iRgN, `G.gf1_s, `G.wr_gFl, `G.as3_s, `G.as2_s, `G.as1_s, `G.ws_sAsg3, `G.at1_s, `G.ws_sAsg2, `G.ws_sFldA, `G.ds3_s, `G.ds2_s, `G.ds1_s, `G.wr_eDSetd, `G.dispQ_s, `G.wr_eDisp, `G.rm2_s, `G.rm1_s, `G.wr_eRem, `G.parQ3_s, `G.ws_sPar3, `G.th_nx, `G.th_rt, `G.th_xe, `G.wr_iDv, `G.wr_iDi, `G.wr_iDk, `G.wr_iTk, `G.wr_eTs1, `G.tu2_s, `G.tu1_s, `G.wr_eTsU, `G.dct1_s, `G.dcQ_s, `G.wr_eDcT, `G.dt1_t, `G.dt1_f, `G.dgg_s, `G.eqOb_t, `G.eqOb_f, `G.eqO2_s, `G.eqO1_s, `G.wr_eEqO, `G.in2_s, `G.in1_s, `G.wr_eIns, `G.wr_eTabIx, `G.txQ_str, `G.wr_eTabIn, `G.tiQ_t, `G.tiQ_f, `G.ws_sTabCall, `G.tcQ_str, `G.tc1_s, `G.tc2_s, `G.sn3_s, `G.sn2_s, `G.sn1_s, `G.wr_eSlN]; let cut : Nat := if k == `zstop || k == `zust then 1 else if k == `zstf || k == `zxtf then 2 else if k == `zstq then 3 else 0; let sel := all.filter fun n => !((cut == 1 && n == `G.ws_sIf) || (cut == 2 && (n == `G.ws_sIf || n == `G.ws_sFor || n == `G.ws_sForC || n == `G.ws_sForR)) || (cut == 3 && n.getString!.startsWith "ws_")); let ids : Lean.TSyntaxArray `term := sel.map fun n => ⟨(Lean.mkIdent n).raw⟩; let r1 : Lean.TSyntaxArray `term := ids ++ es.extract 1 es.size; let r2 : Lean.TSyntaxArray `term := ids ++ es.extract 2 es.size; let r0 : Lean.TSyntaxArray `term := ids ++ es; if k == `zust || k == `zuse then `(tactic| (have hq0 := $(es[1]!); simp only [$[$r2:term],*] at hq0; exact hq0)) else if k == `zxtf then `(tactic| try simp -implicitDefEqProofs only [$[$r1:term],*]) else if cut == 0 then `(tactic| try simp only [$[$r0:term],*]) else `(tactic| try simp only [$[$r1:term],*]))
namespace C
open PySem G
end C
namespace C
open PySem G
noncomputable section
theorem SJ.sm {b c nn : Nat} {v : Sv} (j : SJ b c nn v) : Sml 15 v := by
  obtain ⟨o, h, _⟩ := j.ex
  exact h.sm
theorem SJ.iv {b c nn : Nat} {v : Sv} (j : SJ b c nn v) : Iv v := by
  obtain ⟨o, h, _⟩ := j.ex
  exact h.iv
end
end C
local macro_rules | `(tactic| wp_walk using $ts,*) => (let es := ts.getElems; let k := (es[0]!).raw.getId; let all : Array Lean.Name := #[`G.wr_ok, `G.wr_exc, `G.wr_lf, `G.wr_eC, `G.evQ_some, `G.wr_eVar, `G.cB2_s, `G.cB1_s, `G.wr_eBin, `G.cS2_s, `G.cS1_s, `G.wr_eBinS, `G.asQ_bl, `G.wr_tB, `G.truQ_s, `G.wr_tT, `G.notQ_s, `G.wr_tNt, `G.anQ_t, `G.anQ_f, `G.wr_tAn, `G.orQ_t, `G.orQ_f, `G.wr_tOr, `G.eaB_t, `G.eaB_f, `G.eaQ_s, `G.wr_eAn, `G.eoB_t, `G.eoB_f, `G.eoQ_s, `G.wr_eOr, `G.enB_s, `G.enQ_s, `G.wr_eNt, `G.eiQ_t, `G.eiQ_f, `G.wr_eIf, `G.negQ_int, `G.wr_eNeg, `G.wr_aNil, `G.cC2_s, `G.cC1_s, `G.wr_aCons, `G.tupQ_s, `G.lstQ_s, `G.newQ_s, `G.wr_eTup, `G.wr_eLst, `G.wr_eNew, `G.caQ_s, `G.wr_eCa, `G.clQ_s, `G.wr_eCall, `G.nAQ_s, `G.wr_nA, `G.tyQ_s, `G.wr_eIsTy, `G.icQ_s, `G.wr_eIsC, `G.mt2_s, `G.mt1_s, `G.wr_eMt, `G.wr_oNone, `G.oQ_int, `G.wr_oSome, `G.sl3_s, `G.sl2_s, `G.sl1_s, `G.wr_eSl, `G.kk2_s, `G.kk1_s, `G.wr_eCallK, `G.kk0_s, `G.wr_eCallK0, `G.wr_gN, `G.sb3_s, `G.sb2_s, `G.sb1_s, `G.wr_gSb, `G.wr_gsNil, `G.gs1_s, `G.wr_gsCons, `G.wr_gTp, `G.wr_gTp_rD, `G.xe_s, `G.sq_nx, `G.sq_rt, `G.sq_bk, `G.sq_ct, `G.sq_ex, `G.sq_xe, `G.ws_nxt, `G.ws_sNop, `G.ws_sSeq, `G.ws_sBrk, `G.ws_sCnt, `G.dropQ_s, `G.ws_sDrop, `G.ws_sRet, `G.ws_sRetN, `G.ifQ_t, `G.ifQ_f, `G.ws_sIf, `G.asg1_s, `G.ws_sAsg, `G.setQ_s, `G.ws_sSet, `G.parQ_s, `G.ws_sPar, `G.ws_sRaise, `G.fn_nx, `G.fn_rt, `G.fn_ex, `G.fn_xe, `G.su_nx, `G.su_bk, `G.su_ct, `G.su_rt, `G.trQ_t, `G.trQ_f, `G.tr_nx, `G.tr_rt, `G.tr_bk, `G.tr_ct, `G.tr_ex, `G.ws_sTry, `G.forQ_s, `G.ws_sFor, `G.lp_nx, `G.lp_rt, `G.lp_bk, `G.lp_ct, `G.lp_ex, `G.lp_xe, `G.ws_fi_nil, `G.bodyQ_s, `G.mid_nx, `G.mid_rt, `G.mid_bk, `G.mid_ct, `G.mid_ex, `G.mid_xe, `G.lc2_s, `G.lc1_s, `G.wr_eLc, `G.lcn2_s, `G.lcn1_s, `G.wr_eLcN, `G.wipe_nil, `G.wipe_cons, `G.wr_tTrue, `G.wr_lc_nil, `G.tgQ_some, `G.ly_s, `G.lt1_t, `G.lt1_f, `G.lg_s, `G.eqQ_s, `G.exQ_s, `G.seqQ_tup, `G.seqQ_lst, `G.seqQ_scr, `G.seqQ_rD, `G.wr_iSeq, `G.rgQ_int, `G.wr_iRg1, `G.rgQ2_int, `G.wr_iRg2, `G.ch3_t, `G.ch3_f, `G.ch2_s, `G.ch1_s, `G.wr_eChain, `G.flQ_s, `G.wr_eFld, `G.fldD_ins, `G.stQ_s, `G.sf2_s, `G.sf1_s, `G.ws_sFldM, `G.mkQ2_s, `G.mkQ1_s, `G.wr_eMk, `G.wr_eMk0, `G.ap2_s, `G.ap1_s, `G.wr_eApp, `G.zpQ_s, `G.wr_iZip, `G.zipR_tup, `G.zipR_lst, `G.srQ_s, `G.wr_iStrM, `G.strR_s, `G.ioQ_s, `G.wr_eIsO, `G.dAddS_int, `G.wr_gStr_tup, `G.wr_gStr_lst, `G.fTuple_lst, `G.fTuple_tup, `List.take_succ_cons, `List.take_zero, `List.drop_succ_cons, `List.drop_zero, `List.getElem?_cons_zero, `List.getElem?_cons_succ, `List.set_cons_zero, `List.set_cons_succ, `List.map_cons, `List.map_nil, `List.length_cons, `List.length_nil, `List.cons_append, `List.nil_append, `List.replicate_succ, `List.replicate_zero, `List.append_nil, `true_and, `and_true, `and_self, `if_true, `ite_true, `if_false, `ite_false, `Bool.false_eq_true, `Bool.not_true, `Bool.not_false, `Bool.not_not, `decide_true, `decide_false, `decide_eq_true_eq, `not_false_eq_true, `not_true_eq_false, `reduceCtorEq, `PySem.sizeLine_eq, `Option.map_some, `Option.some.injEq, `Nat.reduceSub, `Nat.reduceAdd, `Nat.reduceLeDiff, `Nat.reduceEqDiff, `Nat.zero_add, `Nat.reduceBEq, `List.contains_cons, `List.contains_nil, `beq_self_eq_true, `Bool.true_or, `Bool.or_true, `Bool.false_or, `Bool.or_false, `List.lookup_cons, `List.lookup_nil, `Int.reduceEq, `Int.reduceNe, `Int.reduceLT, `Int.reduceLE, `Int.reduceNeg, `Int.reduceAdd, `Int.reduceSub, `Int.cast_ofNat_Int, `ne_eq, `G.cmpI_s, `G.dGt, `G.dGe, `G.dLt, `G.dLe, `G.dAdd_int, `G.dSub_int, `G.dEq_int, `G.dNe_int, `G.dEq_bl, `G.dNe_bl, `G.truD_bl, `G.isTy_int, `G.isTy_bl, `G.isTy_tup, `G.fLen_tup, `G.fLen_scr, `G.fLen_lst, `G.fAbs_int, `G.fMax_int, `G.fMin_int, `G.ixD_tup, `G.ixD_lst, `G.ixD_scr, `G.isTy_rD, `G.fLen_rD, `G.ix_rD0, `G.ix_rD1, `G.dEq_rD, `G.dNe_rD, `G.dIs_rD, `G.dIsNot_rD, `G.Tn.is, `G.me3_s, `G.me2_s, `G.me1_s, `G.wr_eMeth, `G.mk2_s, `G.mk1_s, `G.wr_eMethK, `G.m01_s, `G.wr_eMeth0, `G.wr_eNewD, `G.dg3_s, `G.dg2_s, `G.dg1_s, `G.wr_eDGet2, `G.dh2_s, `G.dh1_s, `G.wr_eDGet1, `G.dp3_s, `G.dp2_s, `G.dp1_s, `G.wr_eDPop2, `G.dq2_s, `G.dq1_s, `G.wr_eDPop1, `G.se2_s, `G.se1_s, `G.wr_gSbE, `G.ssQ_s, `G.wr_eSortSet, `G.an2_s, `G.an1_s, `G.wr_eAddN, `G.celQ_tup, `G.celQ_lst, `G.celQ_scr, `G.wr_iCel, `G.forcQ_s, `G.ws_sForC, `G.lcc1_s, `G.wr_eLcC, `G.lcd1_s, `G.wr_eLcCN, `G.keyD_int, `G.keyD_str, `Option.isSome_some, `G.fmQ_s, `G.wr_eFmt, `G.jsQ_str, `G.wr_js_nil, `G.wr_js_cons, `G.wr_eJs, `G.s4Q_str, `G.soQ_s, `G.wr_eStrO, `G.dAddE_0, `G.wr_eCallV, `G.chQ_s, `G.wr_eCallH, `G.wr_lamF, `G.oj_s, `G.enuQ_s, `G.wr_iEnum, `G.enR_tup, `G.enR_lst, `G.lrQ_int, `G.wr_eLr, `G.lrnQ_int, `G.wr_eLrN, `G.agQ_s, `G.auP_s, `G.ws_sAug, `G.augR_int, `G.pp2_s, `G.pp1_s, `G.wr_ePop, `G.wr_gSq_tup, `G.wr_gSq_lst, `G.lnQ_lst, `G.lnQ_tup, `G.wr_eListN, `G.rvQ_lst, `G.wr_eRev, `G.rfQ_s, `G.ws_sRaiseF, `G.trG_nx, `G.trG_rt, `G.trG_bk, `G.trG_ct, `G.trG_ex, `G.ws_sTryG, `G.ws_hd_nil, `G.hdP_t, `G.hdP_f, `G.ws_hd_cons, `G.setO_some, `G.setO_none, `G.ws_suS, `G.suN_nx, `G.suN_rt, `G.suN_bk, `G.suN_ct, `G.ws_suN, `G.iyQ_s, `G.wr_eIsY, `G.isY_exc, `G.fyQ_s, `G.wr_eFldY, `G.fldY_exc, `G.toQ_s, `G.wr_eIsTyO, `G.isTyO_tup, `G.isTyO_lst, `G.isTyO_int, `G.tm2_s, `G.tm1_s, `G.wr_eTm, `G.rgQN_int, `G.wr_iRgN, `G.gf1_s, `G.wr_gFl, `G.as3_s, `G.as2_s, `G.as1_s, `G.ws_sAsg3, `G.at1_s, `G.ws_sAsg2, `G.ws_sFldA, `G.ds3_s, `G.ds2_s, `G.ds1_s, `G.wr_eDSetd, `G.dispQ_s, `G.wr_eDisp, `G.rm2_s, `G.rm1_s, `G.wr_eRem, `G.parQ3_s, `G.ws_sPar3, `G.th_nx, `G.th_rt, `G.th_xe, `G.wr_iDv, `G.wr_iDi, `G.wr_iDk, `G.wr_iTk, `G.wr_eTs1, `G.tu2_s, `G.tu1_s, `G.wr_eTsU, `G.dct1_s, `G.dcQ_s, `G.wr_eDcT, `G.dt1_t, `G.dt1_f, `G.dgg_s, `G.eqOb_t, `G.eqOb_f, `G.eqO2_s, `G.eqO1_s, `G.wr_eEqO, `G.in2_s, `G.in1_s, `G.wr_eIns, `G.wr_eTabIx, `G.txQ_str, `G.wr_eTabIn, `G.tiQ_t, `G.tiQ_f, `G.ws_sTabCall, `G.tcQ_str, `G.tc1_s, `G.tc2_s, `G.sn3_s, `G.sn2_s, `G.sn1_s, `G.wr_eSlN, `G.zmQ_s, `G.wr_iZipM, `G.zipRM_s, `G.ex2_s, `G.ex1_s, `G.wr_eEqX, `G.cnQ_s, `G.wr_eCallN]; let cut : Nat := if k == `zstop || k == `zust then 1 else if k == `zstf || k == `zxtf then 2 else if k == `zstq then 3 else 0; let sel := all.filter fun n => !((cut == 1 && n == `G.ws_sIf) || (cut == 2 && (n == `G.ws_sIf || n == `G.ws_sFor || n == `G.ws_sForC || n == `G.ws_sForR)) || (cut == 3 && n.getString!.startsWith "ws_")); let ids : Lean.TSyntaxArray `term := sel.map fun n => ⟨(Lean.mkIdent n).raw⟩; let r1 : Lean.TSyntaxArray `term := ids ++ es.extract 1 es.size; let r2 : Lean.TSyntaxArray `term := ids ++ es.extract 2 es.size; let r0 : Lean.TSyntaxArray `term := ids ++ es; if k == `zust || k == `zuse then `(tactic| (have hq0 := $(es[1]!); simp only [$[$r2:term],*] at hq0; exact hq0)) else if k == `zxtf then `(tactic| try simp -implicitDefEqProofs only [$[$r1:term],*]) else if cut == 0 then `(tactic| try simp only [$[$r0:term],*]) else `(tactic| try simp only [$[$r1:term],*]))
namespace C
open PySem G
noncomputable section
def LR.w : LR → Str
  | .join .. => "join" | .ask .. => "ask" | .leave .. => "leave" | .least .. => "least" | .most .. => "most" | .weight .. => "weight" | .serve .. => "serve"
end
end C
namespace C
open PySem G
noncomputable section
def LR.Fm : LR → Prop
  | .join _ _ l o h => Bt l 15 ∧ (∀ q, o = some q → Bt q 15) ∧ CliOk l o h
  | .ask _ _ z => 1 ≤ z ∧ z ≤ 999
  | .leave _ _ => True
  | .least _ _ r => Bt r 15 ∧ 0 ≤ r ∧ r ≤ 1
  | .most _ _ m => ∀ q, m = some q → Bt q 15 ∧ 0 < q ∧ q ≤ 1
  | .weight _ _ h => 1 ≤ h ∧ h ≤ 99
  | .serve _ _ z _ => 1 ≤ z ∧ z ≤ 999
end
end C
namespace C
open PySem G
noncomputable section
structure LkA where
  here : Bool
  ln : List Int
  o : Option Rat
  g : Rat
  h : Int
def LkA.C (k : LkA) (nm : Str) (b : Nat) : Cell := .obj 46 [(0, .str nm), (26, .bl k.here), (31, .loc b), (30, oD k.o), (22, rD k.g), (23, .int k.h)]
def LkA.H (k : LkA) (nm : Str) (a b : Nat) : HL := [(a, k.C nm b), (b, .lst (k.ln.map .int))]
def LkA.step (k : LkA) (nm : Str) (r : LR) : LkA := if r.nm = nm then match r with
    | .join t _ _ o h => ⟨true, [], o, t, h⟩
    | .ask _ _ z => { k with ln := k.ln ++ [z] }
    | .leave _ _ => { k with here := false, ln := [] }
    | .least _ _ _ => k
    | .most _ _ m => { k with o := m }
    | .weight _ _ h => { k with h := h }
    | .serve t _ z _ => { k with ln := k.ln.tail, g := gateB k.o k.g z t }
  else k
def LkA.run (k : LkA) (nm : Str) (l : List LR) : LkA := l.foldl (fun k r => k.step nm r) k
end
end C
namespace C
open PySem G
end C
namespace C
open PySem G
noncomputable section
def RS.q (s : RS) (nm : Str) : List Int := ((s.seats.find? fun x => decide (x.name = nm)).map (·.sz)).getD []
end
end C
namespace C
open PySem G
noncomputable section
theorem own_sep {S : Store} {L : HL} (hs : Sep S L) : Sep (S ++ [.lst [], .lst [], .lst [], .dk (Ow.new S.length).K]) ((Ow.new S.length).H ++ L) := by
  have h1 := hs.new0 (.lst [])
  have h2 := Sep.newM (L1 := [(S.length, Cell.lst [])]) (L2 := L) h1 (.lst [])
  have h3 := Sep.newM (L1 := [(S.length, Cell.lst []), ((S ++ [Cell.lst []]).length, Cell.lst [])]) (L2 := L) h2 (.lst [])
  have h4 := h3.new0 (.dk (Ow.new S.length).K)
  simp only [List.length_append, List.length_cons, List.length_nil, List.append_assoc, List.cons_append, List.nil_append, Nat.add_assoc, Nat.reduceAdd] at h4
  exact h4
theorem PS.own {S : Store} {n : Nat} {L : HL} (ps : PS S n L) : PS (S ++ [.lst [], .lst [], .lst [], .dk (Ow.new S.length).K]) n ((Ow.new S.length).H ++ L) := by
  refine ⟨ps.P.app _, own_sep ps.s, fun z => ?_⟩
  have hn : n < S.length := by
    obtain ⟨_, _, _, h, _⟩ := ps.P
    exact (List.getElem?_eq_some_iff.mp h).1
  rw [List.map_append] at z
  rcases List.mem_append.mp z with z | z
  · have z' : n ∈ [S.length + 3, S.length, S.length + 1, S.length + 2] := z
    simp only [List.mem_cons, List.not_mem_nil, or_false] at z'
    omega
  · exact ps.a z
end
end C
namespace C
open PySem G
end C
namespace C
open PySem G
end C
namespace C
open PySem G
noncomputable section
inductive TR where
  | d (r : LR)
  | now (t : Rat)
def TR.D : TR → G.D
  | .d r => r.D
  | .now t => .tup [.str "now", rD t]
def TR.t : TR → Rat
  | .d r => r.t
  | .now t => t
def TR.isNow : TR → Bool
  | .d _ => false
  | .now _ => true
def LR.Tm : LR → Prop
  | .join _ _ l o h => Bt l 15 ∧ 0 ≤ l ∧ l ≤ 1 ∧ (∀ q, o = some q → Bt q 15 ∧ 0 < q ∧ q ≤ 1) ∧ 1 ≤ h ∧ h ≤ 99
  | r => r.Fm
def TR.Ok (T : Nat) : TR → Prop
  | .d r => r.Tm ∧ NmOk r.nm ∧ Bt r.t T ∧ 0 ≤ r.t
  | .now t => Bt t T ∧ 0 ≤ t
theorem TR.Ok.bt {T : Nat} {r : TR} (h : r.Ok T) : Bt r.t T ∧ 0 ≤ r.t := by
  cases r with
  | d r => exact h.2.2
  | now t => exact h
theorem TR.Ok.mono {T T' : Nat} {r : TR} (h : r.Ok T) (l : T ≤ T') : r.Ok T' := by
  cases r with
  | d r => exact ⟨h.1, h.2.1, h.2.2.1.mono l, h.2.2.2⟩
  | now t => exact ⟨h.1.mono l, h.2⟩
def LR.dd : LR → Dd
  | .join _ nm l o h => .join nm l o h
  | .ask _ nm z => .ask nm z
  | .leave _ nm => .leave nm
  | .least _ nm r => .least nm r
  | .most _ nm m => .most nm m
  | .weight _ nm h => .weight nm h
  | .serve _ nm _ _ => .leave nm
structure Pu where
  ab : Ab
  now : Rat
  came : Nat
  nk : Nat
  books : List Rw
def Pu.gho (p : Pu) : Ow := ⟨0, 0, 0, 0, p.now, p.ab.till, p.ab.pace, p.ab.seats.map fun x => (0, 0, x), p.ab.rows, p.came, p.books, some (p.nk, none)⟩
def Rel (v : Sv) (p : Pu) : Prop := Al v p.gho
def comes (b : Ab) (w : Rat) : Option (Bool × Se × Nat × Int × Rat) := match b.ch w with
  | .serve lst x k z => some (lst, x, k, z, w)
  | .wait q => match b.ch q with
    | .serve lst x k z => some (lst, x, k, z, q)
    | _ => none
  | .none => none
def Pu.comes (p : Pu) : Option (Bool × Se × Nat × Int × Rat) := C.comes p.ab (max p.now p.ab.till)
def LastAt (rows : List G.D) (t : Rat) : Prop := ∃ rest, rows.getLast? = some (.tup (.str "serve" :: rD t :: rest))
def Pu.deed (p : Pu) : Dd → Pu
  | .ask nm z => match p.ab.seats.find? (fun x => decide (x.name = nm)) with
    | some x => { p with ab := { p.ab with seats := updA x.num (askS p.now p.nk z) p.ab.seats, rows := p.ab.rows ++ [.tup [.str "ask", rD p.now, .str x.name, .int z]] }, nk := p.nk + 1 }
    | none => p
  | .leave nm => match p.ab.seats.find? (fun x => decide (x.name = nm)) with
    | some x => { p with ab := { p.ab with seats := p.ab.seats.filter fun y => decide (y.num ≠ x.num), rows := p.ab.rows ++ [.tup [.str "leave", rD p.now, .str x.name]] }, books := bookO p.books x.num (max x.c p.now) 0 }
    | none => p
  | .weight nm h => match p.ab.seats.find? (fun x => decide (x.name = nm)) with
    | some x => { p with ab := { p.ab with seats := updA x.num (setS x.l x.o h) p.ab.seats, rows := p.ab.rows ++ [.tup [.str "weight", rD p.now, .str x.name, .int h]] } }
    | none => p
  | .most nm m => match p.ab.seats.find? (fun x => decide (x.name = nm)) with
    | some x => { p with ab := { p.ab with seats := updA x.num (setS x.l m x.h) p.ab.seats, rows := p.ab.rows ++ [.tup [.str "most", rD p.now, .str x.name, oD m]] } }
    | none => p
  | .least nm r => match p.ab.seats.find? (fun x => decide (x.name = nm)) with
    | some x => { p with ab := { p.ab with seats := updA x.num (leastS (max x.c p.now) r) p.ab.seats, rows := p.ab.rows ++ [.tup [.str "least", rD p.now, .str x.name, rD r]] }, books := bookO p.books x.num (max x.c p.now) r }
    | none => p
  | .join nm l m h => { p with ab := { p.ab with seats := p.ab.seats ++ [⟨p.came, nm, l, m, h, p.now, p.now, p.ab.pace, []⟩], rows := p.ab.rows ++ [.tup [.str "join", rD p.now, .str nm, rD l, oD m, .int h]] }, came := p.came + 1, books := bookO p.books p.came p.now l }
  | .go _ => p
def Pu.at_ (p : Pu) (t : Rat) : Pu := { p with now := t }
def Pu.most (p : Pu) : Option Int → Rat → Rat := fun but s => mostB p.books s but
def Pu.stands (p : Pu) : TR → Prop
  | .d (.serve t nm z b) => ∃ x k, p.comes = some (b, x, k, z, t) ∧ x.name = nm
  | .d r => (∀ c, p.comes = some c → ¬ c.2.2.2.2 < r.t) ∧ ¬ LastAt p.ab.rows r.t ∧ ¬ Rfs p.ab r.t p.most r.dd
  | .now t => (∀ c, p.comes = some c → ¬ c.2.2.2.2 < t) ∧ ¬ LastAt p.ab.rows t
def Pu.begin (p : Pu) (x : Se) (lst : Bool) (z : Int) (t : Rat) : Pu := { p with ab := p.ab.begin x lst t z, now := t }
def Pu.next (p : Pu) : TR → Pu
  | .d (.serve t nm z b) => match p.comes with
    | some c => p.begin c.2.1 b z t
    | none => p
  | .d r => (p.at_ r.t).deed r.dd
  | .now t => p.at_ t
open Classical in
def badR : Option TR → Pu → Nat → List TR → Option Nat
  | some (.now _), _, _, [] => none
  | _, _, i, [] => some i
  | a, p, i, r :: l => if (∀ b, a = some b → b.isNow = false ∧ ¬ r.t < b.t) ∧ p.stands r then badR (some r) (p.next r) (i + 1) l else some i
def pu0 : Pu := ⟨⟨0, 0, [], []⟩, 0, 0, 0, []⟩
theorem atT_sv {v : Sv} {B c n : Nat} {t : Rat} (ok : SvOk B c n v) (bt : Bt t B) (t0 : 0 ≤ t) : SvOk B c n (v.atT t) :=
  ⟨bt, ok.bu, ok.bp, t0, ok.u0, ok.p0, ok.seats, ok.few, ok.nums, ok.numl, ok.names, ok.sz, ok.fl, ok.szn, ok.rwn, ok.ls⟩
structure RJ (T b c nn : Nat) (p : Pu) (v : Sv) : Prop where
  rel : Rel v p
  iv : Iv v
  sm : Sml 15 v
  le : ∀ t, LastAt v.rows t → t ≤ v.at_ ∧ Bt t T
  ex : ∃ B n, SvOk B c n v ∧ BO B c p.gho ∧ 31 ≤ B ∧ T ≤ B ∧ B + 26 * v.abs.W ≤ b ∧ n + v.abs.W ≤ nn
theorem RJ.mono {T b b' c c' nn nn' : Nat} {p : Pu} {v : Sv} (j : RJ T b c nn p v) (hb : b ≤ b') (hc : c ≤ c') (hn : nn ≤ nn') : RJ T b' c' nn' p v := by
  obtain ⟨B, n, k1, k2, k3, k4, k5, k6⟩ := j.ex
  exact ⟨j.rel, j.iv, j.sm, j.le, B, n, k1.mono (Nat.le_refl _) hc (Nat.le_refl _), k2.mono (Nat.le_refl _) hc, k3, k4, by omega, by omega⟩
theorem RJ.at_ {T b c nn : Nat} {p : Pu} {v : Sv} {t : Rat} (j : RJ T b c nn p v) (bt : Bt t T) (t0 : 0 ≤ t) (tl : v.at_ ≤ t) : RJ T b c nn (p.at_ t) (v.atT t) := by
  obtain ⟨B, n, k1, k2, k3, k4, k5, k6⟩ := j.ex
  refine ⟨⟨j.rel.ab, rfl, j.rel.came, j.rel.nk, j.rel.rb⟩, ⟨j.iv.nms, j.iv.rows⟩, j.sm, fun s hs => ?_, B, n, atT_sv k1 (bt.mono k4) t0, ⟨k2.len, k2.each⟩, k3, k4, k5, k6⟩
  have h1 : s ≤ v.at_ := (j.le s hs).1
  have h2 := (j.le s hs).2
  refine ⟨?_, h2⟩
  show s ≤ t
  grind
end
end C
namespace C
open PySem G
noncomputable section
def b_do_ask (N : Nat) : SM := (sSeq (sAsg (eVar 1) (gTp 3 (gsCons' (gN 2) (gsCons' (gN 3) (gsCons' (gN 4) gsNil)))))
    (sRet (eMeth 36 (m_Room_ask N) g_Room_ask_3_ 2 0 (eVar 0) (aCons (eVar 3) (aCons (eVar 4) aNil)) aNil)))
def m_do_ask (N : Nat) : FM := fnM 5 (b_do_ask N)
def b_do_go (N : Nat) : SM := (sRet (eMeth 36 (m_Room_go N) g_Room_go_2_ 1 0 (eVar 0) (aCons (eBinS ixD (eVar 1) (eC (.int 1))) aNil) aNil))
def m_do_go (N : Nat) : FM := fnM 2 (b_do_go N)
def b_do_join (N : Nat) : SM := (sSeq (sAsg (eVar 1) (gTp 5 (gsCons' (gN 2) (gsCons' (gN 3) (gsCons' (gN 4) (gsCons' (gN 5) (gsCons' (gN 6) gsNil)))))))
    (sRet (eMeth 36 (m_Room_enter N) g_Room_enter_6_ 5 0 (eVar 0) (aCons (eVar 3) (aCons (eVar 4) (aCons (eVar 5) (aCons (eVar 6) (aCons (eC (.bl false)) aNil))))) aNil)))
def m_do_join (N : Nat) : FM := fnM 7 (b_do_join N)
def b_do_least (N : Nat) : SM := (sRet (eMeth 36 (m_Room_set_least N) g_Room_set_least_4_ 3 0 (eVar 0) (aCons (eBinS ixD (eVar 1) (eC (.int 1))) (aCons (eBinS ixD (eVar 1) (eC (.int 2))) (aCons (eC (.bl false)) aNil))) aNil))
def m_do_least (N : Nat) : FM := fnM 2 (b_do_least N)
def b_do_leave (N : Nat) : SM := (sRet (eMeth 36 (m_Room_leave N) g_Room_leave_2_ 1 0 (eVar 0) (aCons (eBinS ixD (eVar 1) (eC (.int 1))) aNil) aNil))
def m_do_leave (N : Nat) : FM := fnM 2 (b_do_leave N)
def b_do_most (N : Nat) : SM := (sRet (eMeth 36 (m_Room_set_most N) g_Room_set_most_3_ 2 0 (eVar 0) (aCons (eBinS ixD (eVar 1) (eC (.int 1))) (aCons (eBinS ixD (eVar 1) (eC (.int 2))) aNil)) aNil))
def m_do_most (N : Nat) : FM := fnM 2 (b_do_most N)
def b_do_weight (N : Nat) : SM := (sRet (eMeth 36 (m_Room_set_weight N) g_Room_set_weight_3_ 2 0 (eVar 0) (aCons (eBinS ixD (eVar 1) (eC (.int 1))) (aCons (eBinS ixD (eVar 1) (eC (.int 2))) aNil)) aNil))
def m_do_weight (N : Nat) : FM := fnM 2 (b_do_weight N)
def fsD (N : Nat) : List (Str × Nat × FM) := [("join", 2, m_do_join N), ("ask", 2, m_do_ask N), ("leave", 2, m_do_leave N), ("least", 2, m_do_least N), ("most", 2, m_do_most N), ("weight", 2, m_do_weight N), ("go", 2, m_do_go N)]
end
end C
local macro_rules | `(tactic| wp_walk using $ts,*) => (let es := ts.getElems; let k := (es[0]!).raw.getId; let all : Array Lean.Name := #[`G.wr_ok, `G.wr_exc, `G.wr_lf, `G.wr_eC, `G.evQ_some, `G.wr_eVar, `G.cB2_s, `G.cB1_s, `G.wr_eBin, `G.cS2_s, `G.cS1_s, `G.wr_eBinS, `G.asQ_bl, `G.wr_tB, `G.truQ_s, `G.wr_tT, `G.notQ_s, `G.wr_tNt, `G.anQ_t, `G.anQ_f, `G.wr_tAn, `G.orQ_t, `G.orQ_f, `G.wr_tOr, `G.eaB_t, `G.eaB_f, `G.eaQ_s, `G.wr_eAn, `G.eoB_t, `G.eoB_f, `G.eoQ_s, `G.wr_eOr, `G.enB_s, `G.enQ_s, `G.wr_eNt, `G.eiQ_t, `G.eiQ_f, `G.wr_eIf, `G.negQ_int, `G.wr_eNeg, `G.wr_aNil, `G.cC2_s, `G.cC1_s, `G.wr_aCons, `G.tupQ_s, `G.lstQ_s, `G.newQ_s, `G.wr_eTup, `G.wr_eLst, `G.wr_eNew, `G.caQ_s, `G.wr_eCa, `G.clQ_s, `G.wr_eCall, `G.nAQ_s, `G.wr_nA, `G.tyQ_s, `G.wr_eIsTy, `G.icQ_s, `G.wr_eIsC, `G.mt2_s, `G.mt1_s, `G.wr_eMt, `G.wr_oNone, `G.oQ_int, `G.wr_oSome, `G.sl3_s, `G.sl2_s, `G.sl1_s, `G.wr_eSl, `G.kk2_s, `G.kk1_s, `G.wr_eCallK, `G.kk0_s, `G.wr_eCallK0, `G.wr_gN, `G.sb3_s, `G.sb2_s, `G.sb1_s, `G.wr_gSb, `G.wr_gsNil, `G.gs1_s, `G.wr_gsCons, `G.wr_gTp, `G.wr_gTp_rD, `G.xe_s, `G.sq_nx, `G.sq_rt, `G.sq_bk, `G.sq_ct, `G.sq_ex, `G.sq_xe, `G.ws_nxt, `G.ws_sNop, `G.ws_sSeq, `G.ws_sBrk, `G.ws_sCnt, `G.dropQ_s, `G.ws_sDrop, `G.ws_sRet, `G.ws_sRetN, `G.ifQ_t, `G.ifQ_f, `G.ws_sIf, `G.asg1_s, `G.ws_sAsg, `G.setQ_s, `G.ws_sSet, `G.parQ_s, `G.ws_sPar, `G.ws_sRaise, `G.fn_nx, `G.fn_rt, `G.fn_ex, `G.fn_xe, `G.su_nx, `G.su_bk, `G.su_ct, `G.su_rt, `G.trQ_t, `G.trQ_f, `G.tr_nx, `G.tr_rt, `G.tr_bk, `G.tr_ct, `G.tr_ex, `G.ws_sTry, `G.forQ_s, `G.ws_sFor, `G.lp_nx, `G.lp_rt, `G.lp_bk, `G.lp_ct, `G.lp_ex, `G.lp_xe, `G.ws_fi_nil, `G.bodyQ_s, `G.mid_nx, `G.mid_rt, `G.mid_bk, `G.mid_ct, `G.mid_ex, `G.mid_xe, `G.lc2_s, `G.lc1_s, `G.wr_eLc, `G.lcn2_s, `G.lcn1_s, `G.wr_eLcN, `G.wipe_nil, `G.wipe_cons, `G.wr_tTrue, `G.wr_lc_nil, `G.tgQ_some, `G.ly_s, `G.lt1_t, `G.lt1_f, `G.lg_s, `G.eqQ_s, `G.exQ_s, `G.seqQ_tup, `G.seqQ_lst, `G.seqQ_scr, `G.seqQ_rD, `G.wr_iSeq, `G.rgQ_int, `G.wr_iRg1, `G.rgQ2_int, `G.wr_iRg2, `G.ch3_t, `G.ch3_f, `G.ch2_s, `G.ch1_s, `G.wr_eChain, `G.flQ_s, `G.wr_eFld, `G.fldD_ins, `G.stQ_s, `G.sf2_s, `G.sf1_s, `G.ws_sFldM, `G.mkQ2_s, `G.mkQ1_s, `G.wr_eMk, `G.wr_eMk0, `G.ap2_s, `G.ap1_s, `G.wr_eApp, `G.zpQ_s, `G.wr_iZip, `G.zipR_tup, `G.zipR_lst, `G.srQ_s, `G.wr_iStrM, `G.strR_s, `G.ioQ_s, `G.wr_eIsO, `G.dAddS_int, `G.wr_gStr_tup, `G.wr_gStr_lst, `G.fTuple_lst, `G.fTuple_tup, `List.take_succ_cons, `List.take_zero, `List.drop_succ_cons, `List.drop_zero, `List.getElem?_cons_zero, `List.getElem?_cons_succ, `List.set_cons_zero, `List.set_cons_succ, `List.map_cons, `List.map_nil, `List.length_cons, `List.length_nil, `List.cons_append, `List.nil_append, `List.replicate_succ, `List.replicate_zero, `List.append_nil, `true_and, `and_true, `and_self, `if_true, `ite_true, `if_false, `ite_false, `Bool.false_eq_true, `Bool.not_true, `Bool.not_false, `Bool.not_not, `decide_true, `decide_false, `decide_eq_true_eq, `not_false_eq_true, `not_true_eq_false, `reduceCtorEq, `PySem.sizeLine_eq, `Option.map_some, `Option.some.injEq, `Nat.reduceSub, `Nat.reduceAdd, `Nat.reduceLeDiff, `Nat.reduceEqDiff, `Nat.zero_add, `Nat.reduceBEq, `List.contains_cons, `List.contains_nil, `beq_self_eq_true, `Bool.true_or, `Bool.or_true, `Bool.false_or, `Bool.or_false, `List.lookup_cons, `List.lookup_nil, `Int.reduceEq, `Int.reduceNe, `Int.reduceLT, `Int.reduceLE, `Int.reduceNeg, `Int.reduceAdd, `Int.reduceSub, `Int.cast_ofNat_Int, `ne_eq, `G.cmpI_s, `G.dGt, `G.dGe, `G.dLt, `G.dLe, `G.dAdd_int, `G.dSub_int, `G.dEq_int, `G.dNe_int, `G.dEq_bl, `G.dNe_bl, `G.truD_bl, `G.isTy_int, `G.isTy_bl, `G.isTy_tup, `G.fLen_tup, `G.fLen_scr, `G.fLen_lst, `G.fAbs_int, `G.fMax_int, `G.fMin_int, `G.ixD_tup, `G.ixD_lst, `G.ixD_scr, `G.isTy_rD, `G.fLen_rD, `G.ix_rD0, `G.ix_rD1, `G.dEq_rD, `G.dNe_rD, `G.dIs_rD, `G.dIsNot_rD, `G.Tn.is, `G.me3_s, `G.me2_s, `G.me1_s, `G.wr_eMeth, `G.mk2_s, `G.mk1_s, `G.wr_eMethK, `G.m01_s, `G.wr_eMeth0, `G.wr_eNewD, `G.dg3_s, `G.dg2_s, `G.dg1_s, `G.wr_eDGet2, `G.dh2_s, `G.dh1_s, `G.wr_eDGet1, `G.dp3_s, `G.dp2_s, `G.dp1_s, `G.wr_eDPop2, `G.dq2_s, `G.dq1_s, `G.wr_eDPop1, `G.se2_s, `G.se1_s, `G.wr_gSbE, `G.ssQ_s, `G.wr_eSortSet, `G.an2_s, `G.an1_s, `G.wr_eAddN, `G.celQ_tup, `G.celQ_lst, `G.celQ_scr, `G.wr_iCel, `G.forcQ_s, `G.ws_sForC, `G.lcc1_s, `G.wr_eLcC, `G.lcd1_s, `G.wr_eLcCN, `G.keyD_int, `G.keyD_str, `Option.isSome_some, `G.fmQ_s, `G.wr_eFmt, `G.jsQ_str, `G.wr_js_nil, `G.wr_js_cons, `G.wr_eJs, `G.s4Q_str, `G.soQ_s, `G.wr_eStrO, `G.dAddE_0, `G.wr_eCallV, `G.chQ_s, `G.wr_eCallH, `G.wr_lamF, `G.oj_s, `G.enuQ_s, `G.wr_iEnum, `G.enR_tup, `G.enR_lst, `G.lrQ_int, `G.wr_eLr, `G.lrnQ_int, `G.wr_eLrN, `G.agQ_s, `G.auP_s, `G.ws_sAug, `G.augR_int, `G.pp2_s, `G.pp1_s, `G.wr_ePop, `G.wr_gSq_tup, `G.wr_gSq_lst, `G.lnQ_lst, `G.lnQ_tup, `G.wr_eListN, `G.rvQ_lst, `G.wr_eRev, `G.rfQ_s, `G.ws_sRaiseF, `G.trG_nx, `G.trG_rt, `G.trG_bk, `G.trG_ct, `G.trG_ex, `G.ws_sTryG, `G.ws_hd_nil, `G.hdP_t, `G.hdP_f, `G.ws_hd_cons, `G.setO_some, `G.setO_none, `G.ws_suS, `G.suN_nx, `G.suN_rt, `G.suN_bk, `G.suN_ct, `G.ws_suN, `G.iyQ_s, `G.wr_eIsY, `G.isY_exc, `G.fyQ_s, `G.wr_eFldY, `G.fldY_exc, `G.toQ_s, `G.wr_eIsTyO, `G.isTyO_tup, `G.isTyO_lst, `G.isTyO_int, `G.tm2_s, `G.tm1_s, `G.wr_eTm, `G.rgQN_int, `G.wr_iRgN, `G.gf1_s, `G.wr_gFl, `G.as3_s, `G.as2_s, `G.as1_s, `G.ws_sAsg3, `G.at1_s, `G.ws_sAsg2, `G.ws_sFldA, `G.ds3_s, `G.ds2_s, `G.ds1_s, `G.wr_eDSetd, `G.dispQ_s, `G.wr_eDisp, `G.rm2_s, `G.rm1_s, `G.wr_eRem, `G.parQ3_s, `G.ws_sPar3, `G.th_nx, `G.th_rt, `G.th_xe, `G.wr_iDv, `G.wr_iDi, `G.wr_iDk, `G.wr_iTk, `G.wr_eTs1, `G.tu2_s, `G.tu1_s, `G.wr_eTsU, `G.dct1_s, `G.dcQ_s, `G.wr_eDcT, `G.dt1_t, `G.dt1_f, `G.dgg_s, `G.eqOb_t, `G.eqOb_f, `G.eqO2_s, `G.eqO1_s, `G.wr_eEqO, `G.in2_s, `G.in1_s, `G.wr_eIns, `G.wr_eTabIx, `G.txQ_str, `G.wr_eTabIn, `G.tiQ_t, `G.tiQ_f, `G.ws_sTabCall, `G.tcQ_str, `G.tc1_s, `G.tc2_s, `G.sn3_s, `G.sn2_s, `G.sn1_s, `G.wr_eSlN, `G.zmQ_s, `G.wr_iZipM, `G.zipRM_s, `G.ex2_s, `G.ex1_s, `G.wr_eEqX, `G.cnQ_s, `G.wr_eCallN, `G.ku2_s, `G.ku1_s, `G.wr_eDkU, `G.wr_eNx, `G.sa3_s, `G.sa2_s, `G.sa1_s, `G.wr_eSlA, `G.s5Q_int, `G.lnoQ_s, `G.wr_eLenO, `G.wr_eReprO, `G.wr_eDictN]; let cut : Nat := if k == `zstop || k == `zust then 1 else if k == `zstf || k == `zxtf then 2 else if k == `zstq then 3 else 0; let sel := all.filter fun n => !((cut == 1 && n == `G.ws_sIf) || (cut == 2 && (n == `G.ws_sIf || n == `G.ws_sFor || n == `G.ws_sForC || n == `G.ws_sForR)) || (cut == 3 && n.getString!.startsWith "ws_")); let ids : Lean.TSyntaxArray `term := sel.map fun n => ⟨(Lean.mkIdent n).raw⟩; let r1 : Lean.TSyntaxArray `term := ids ++ es.extract 1 es.size; let r2 : Lean.TSyntaxArray `term := ids ++ es.extract 2 es.size; let r0 : Lean.TSyntaxArray `term := ids ++ es; if k == `zust || k == `zuse then `(tactic| (have hq0 := $(es[1]!); simp only [$[$r2:term],*] at hq0; exact hq0)) else if k == `zxtf then `(tactic| try simp -implicitDefEqProofs only [$[$r1:term],*]) else if cut == 0 then `(tactic| try simp only [$[$r0:term],*]) else `(tactic| try simp only [$[$r1:term],*]))
namespace C
open PySem G
end C
namespace C
open PySem G
noncomputable section
theorem dAddS_lc {S : Store} {w : Nat} {l m : List G.D} (h : S[w]? = some (.lst l)) (hl : l.length + m.length ≤ sizeLine) : dAddS S (.loc w) (.lst m) = some (.lst (l ++ m)) := by
  unfold dAddS rsv
  simp only [h, hl, if_true]
end
end C
namespace C
open PySem G
noncomputable section
def TR.w : TR → Str
  | .d r => r.w
  | .now _ => "now"
def aT (a : Option TR) : Rat := match a with
  | some r => r.t
  | none => 0
end
end C
namespace C
open PySem G
end C
namespace C
open PySem G
end C
namespace C
open PySem G
end C
namespace C
open PySem G
noncomputable section
theorem ixs_none' {P : Rv → Bool} {l : List Rv} (h : ∀ r, r ∈ l → P r = false) (n : Nat) : ixs P l n = [] := by
  rw [List.eq_nil_iff_forall_not_mem]
  intro i hi
  obtain ⟨_, r, hr, hp⟩ := ixs_mem hi
  rw [h r (List.mem_of_getElem? hr)] at hp; cases hp
theorem pick_nob' {rows : List Rv} {now pace : Rat} (h : ∀ r, r ∈ rows → clk now r = false ∧ gat now r = false) : pickK rows now pace = .nobody (nextD (spotsV rows)) := by
  unfold pickK
  rw [if_neg (by rw [ixs_none' fun r hr => (h r hr).1]; simp), if_neg (by rw [ixs_none' fun r hr => (h r hr).2]; simp)]
theorem ch_noneE {b : Ab} (h : b.wait = []) (w : Rat) : b.ch w = .none := by
  have e : b.next w = .nobody .non := by
    unfold Ab.next; rw [h]
    exact pick_nob' (rows := []) fun r hr => by cases hr
  unfold Ab.ch; rw [e, h]; rfl
structure HV (lr : List LR) (b : Ab) (now : Rat) (came nk : Nat) (bk : List Rw) : Prop where
  ex : ∃ q a, (∀ l, badR none pu0 0 (lr.map TR.d ++ l) = badR a q lr.length l) ∧ q.ab = b ∧ q.came = came ∧ q.nk = nk ∧ q.books = bk ∧ q.now ≤ now ∧ (∀ x, a = some x → x.isNow = false ∧ x.t ≤ q.now) ∧ (∀ c, q.comes = some c → ¬ c.2.2.2.2 < now) ∧ (lr.map TR.d).foldl Pu.next pu0 = q
  rows : b.rows = lr.map LR.D
  last : ∀ t, LastAt b.rows t → t < now
theorem HV.new (a : Nat) : HV [] (Ow.new a).abs (Ow.new a).now (Ow.new a).came (Ow.new a).nk (Ow.new a).books := by
  refine ⟨⟨pu0, none, fun l => rfl, rfl, rfl, rfl, rfl, Rat.le_refl, fun x h => (by cases h), fun c h => ?_, rfl⟩, rfl, fun t ⟨rest, h⟩ => by cases h⟩
  have e : pu0.comes = none := by
    unfold Pu.comes comes
    rw [ch_noneE (b := pu0.ab) rfl]
  rw [e] at h; cases h
end
end C
local macro_rules | `(tactic| wp_walk using $ts,*) => (let es := ts.getElems; let k := (es[0]!).raw.getId; let all : Array Lean.Name := #[`G.wr_ok, `G.wr_exc, `G.wr_lf, `G.wr_eC, `G.evQ_some, `G.wr_eVar, `G.cB2_s, `G.cB1_s, `G.wr_eBin, `G.cS2_s, `G.cS1_s, `G.wr_eBinS, `G.asQ_bl, `G.wr_tB, `G.truQ_s, `G.wr_tT, `G.notQ_s, `G.wr_tNt, `G.anQ_t, `G.anQ_f, `G.wr_tAn, `G.orQ_t, `G.orQ_f, `G.wr_tOr, `G.eaB_t, `G.eaB_f, `G.eaQ_s, `G.wr_eAn, `G.eoB_t, `G.eoB_f, `G.eoQ_s, `G.wr_eOr, `G.enB_s, `G.enQ_s, `G.wr_eNt, `G.eiQ_t, `G.eiQ_f, `G.wr_eIf, `G.negQ_int, `G.wr_eNeg, `G.wr_aNil, `G.cC2_s, `G.cC1_s, `G.wr_aCons, `G.tupQ_s, `G.lstQ_s, `G.newQ_s, `G.wr_eTup, `G.wr_eLst, `G.wr_eNew, `G.caQ_s, `G.wr_eCa, `G.clQ_s, `G.wr_eCall, `G.nAQ_s, `G.wr_nA, `G.tyQ_s, `G.wr_eIsTy, `G.icQ_s, `G.wr_eIsC, `G.mt2_s, `G.mt1_s, `G.wr_eMt, `G.wr_oNone, `G.oQ_int, `G.wr_oSome, `G.sl3_s, `G.sl2_s, `G.sl1_s, `G.wr_eSl, `G.kk2_s, `G.kk1_s, `G.wr_eCallK, `G.kk0_s, `G.wr_eCallK0, `G.wr_gN, `G.sb3_s, `G.sb2_s, `G.sb1_s, `G.wr_gSb, `G.wr_gsNil, `G.gs1_s, `G.wr_gsCons, `G.wr_gTp, `G.wr_gTp_rD, `G.xe_s, `G.sq_nx, `G.sq_rt, `G.sq_bk, `G.sq_ct, `G.sq_ex, `G.sq_xe, `G.ws_nxt, `G.ws_sNop, `G.ws_sSeq, `G.ws_sBrk, `G.ws_sCnt, `G.dropQ_s, `G.ws_sDrop, `G.ws_sRet, `G.ws_sRetN, `G.ifQ_t, `G.ifQ_f, `G.ws_sIf, `G.asg1_s, `G.ws_sAsg, `G.setQ_s, `G.ws_sSet, `G.parQ_s, `G.ws_sPar, `G.ws_sRaise, `G.fn_nx, `G.fn_rt, `G.fn_ex, `G.fn_xe, `G.su_nx, `G.su_bk, `G.su_ct, `G.su_rt, `G.trQ_t, `G.trQ_f, `G.tr_nx, `G.tr_rt, `G.tr_bk, `G.tr_ct, `G.tr_ex, `G.ws_sTry, `G.forQ_s, `G.ws_sFor, `G.lp_nx, `G.lp_rt, `G.lp_bk, `G.lp_ct, `G.lp_ex, `G.lp_xe, `G.ws_fi_nil, `G.bodyQ_s, `G.mid_nx, `G.mid_rt, `G.mid_bk, `G.mid_ct, `G.mid_ex, `G.mid_xe, `G.lc2_s, `G.lc1_s, `G.wr_eLc, `G.lcn2_s, `G.lcn1_s, `G.wr_eLcN, `G.wipe_nil, `G.wipe_cons, `G.wr_tTrue, `G.wr_lc_nil, `G.tgQ_some, `G.ly_s, `G.lt1_t, `G.lt1_f, `G.lg_s, `G.eqQ_s, `G.exQ_s, `G.seqQ_tup, `G.seqQ_lst, `G.seqQ_scr, `G.seqQ_rD, `G.wr_iSeq, `G.rgQ_int, `G.wr_iRg1, `G.rgQ2_int, `G.wr_iRg2, `G.ch3_t, `G.ch3_f, `G.ch2_s, `G.ch1_s, `G.wr_eChain, `G.flQ_s, `G.wr_eFld, `G.fldD_ins, `G.stQ_s, `G.sf2_s, `G.sf1_s, `G.ws_sFldM, `G.mkQ2_s, `G.mkQ1_s, `G.wr_eMk, `G.wr_eMk0, `G.ap2_s, `G.ap1_s, `G.wr_eApp, `G.zpQ_s, `G.wr_iZip, `G.zipR_tup, `G.zipR_lst, `G.srQ_s, `G.wr_iStrM, `G.strR_s, `G.ioQ_s, `G.wr_eIsO, `G.dAddS_int, `G.wr_gStr_tup, `G.wr_gStr_lst, `G.fTuple_lst, `G.fTuple_tup, `List.take_succ_cons, `List.take_zero, `List.drop_succ_cons, `List.drop_zero, `List.getElem?_cons_zero, `List.getElem?_cons_succ, `List.set_cons_zero, `List.set_cons_succ, `List.map_cons, `List.map_nil, `List.length_cons, `List.length_nil, `List.cons_append, `List.nil_append, `List.replicate_succ, `List.replicate_zero, `List.append_nil, `true_and, `and_true, `and_self, `if_true, `ite_true, `if_false, `ite_false, `Bool.false_eq_true, `Bool.not_true, `Bool.not_false, `Bool.not_not, `decide_true, `decide_false, `decide_eq_true_eq, `not_false_eq_true, `not_true_eq_false, `reduceCtorEq, `PySem.sizeLine_eq, `Option.map_some, `Option.some.injEq, `Nat.reduceSub, `Nat.reduceAdd, `Nat.reduceLeDiff, `Nat.reduceEqDiff, `Nat.zero_add, `Nat.reduceBEq, `List.contains_cons, `List.contains_nil, `beq_self_eq_true, `Bool.true_or, `Bool.or_true, `Bool.false_or, `Bool.or_false, `List.lookup_cons, `List.lookup_nil, `Int.reduceEq, `Int.reduceNe, `Int.reduceLT, `Int.reduceLE, `Int.reduceNeg, `Int.reduceAdd, `Int.reduceSub, `Int.cast_ofNat_Int, `ne_eq, `G.cmpI_s, `G.dGt, `G.dGe, `G.dLt, `G.dLe, `G.dAdd_int, `G.dSub_int, `G.dEq_int, `G.dNe_int, `G.dEq_bl, `G.dNe_bl, `G.truD_bl, `G.isTy_int, `G.isTy_bl, `G.isTy_tup, `G.fLen_tup, `G.fLen_scr, `G.fLen_lst, `G.fAbs_int, `G.fMax_int, `G.fMin_int, `G.ixD_tup, `G.ixD_lst, `G.ixD_scr, `G.isTy_rD, `G.fLen_rD, `G.ix_rD0, `G.ix_rD1, `G.dEq_rD, `G.dNe_rD, `G.dIs_rD, `G.dIsNot_rD, `G.Tn.is, `G.me3_s, `G.me2_s, `G.me1_s, `G.wr_eMeth, `G.mk2_s, `G.mk1_s, `G.wr_eMethK, `G.m01_s, `G.wr_eMeth0, `G.wr_eNewD, `G.dg3_s, `G.dg2_s, `G.dg1_s, `G.wr_eDGet2, `G.dh2_s, `G.dh1_s, `G.wr_eDGet1, `G.dp3_s, `G.dp2_s, `G.dp1_s, `G.wr_eDPop2, `G.dq2_s, `G.dq1_s, `G.wr_eDPop1, `G.se2_s, `G.se1_s, `G.wr_gSbE, `G.ssQ_s, `G.wr_eSortSet, `G.an2_s, `G.an1_s, `G.wr_eAddN, `G.celQ_tup, `G.celQ_lst, `G.celQ_scr, `G.wr_iCel, `G.forcQ_s, `G.ws_sForC, `G.lcc1_s, `G.wr_eLcC, `G.lcd1_s, `G.wr_eLcCN, `G.keyD_int, `G.keyD_str, `Option.isSome_some, `G.fmQ_s, `G.wr_eFmt, `G.jsQ_str, `G.wr_js_nil, `G.wr_js_cons, `G.wr_eJs, `G.s4Q_str, `G.soQ_s, `G.wr_eStrO, `G.dAddE_0, `G.wr_eCallV, `G.chQ_s, `G.wr_eCallH, `G.wr_lamF, `G.oj_s, `G.enuQ_s, `G.wr_iEnum, `G.enR_tup, `G.enR_lst, `G.lrQ_int, `G.wr_eLr, `G.lrnQ_int, `G.wr_eLrN, `G.agQ_s, `G.auP_s, `G.ws_sAug, `G.augR_int, `G.pp2_s, `G.pp1_s, `G.wr_ePop, `G.wr_gSq_tup, `G.wr_gSq_lst, `G.lnQ_lst, `G.lnQ_tup, `G.wr_eListN, `G.rvQ_lst, `G.wr_eRev, `G.rfQ_s, `G.ws_sRaiseF, `G.trG_nx, `G.trG_rt, `G.trG_bk, `G.trG_ct, `G.trG_ex, `G.ws_sTryG, `G.ws_hd_nil, `G.hdP_t, `G.hdP_f, `G.ws_hd_cons, `G.setO_some, `G.setO_none, `G.ws_suS, `G.suN_nx, `G.suN_rt, `G.suN_bk, `G.suN_ct, `G.ws_suN, `G.iyQ_s, `G.wr_eIsY, `G.isY_exc, `G.fyQ_s, `G.wr_eFldY, `G.fldY_exc, `G.toQ_s, `G.wr_eIsTyO, `G.isTyO_tup, `G.isTyO_lst, `G.isTyO_int, `G.tm2_s, `G.tm1_s, `G.wr_eTm, `G.rgQN_int, `G.wr_iRgN, `G.gf1_s, `G.wr_gFl, `G.as3_s, `G.as2_s, `G.as1_s, `G.ws_sAsg3, `G.at1_s, `G.ws_sAsg2, `G.ws_sFldA, `G.ds3_s, `G.ds2_s, `G.ds1_s, `G.wr_eDSetd, `G.dispQ_s, `G.wr_eDisp, `G.rm2_s, `G.rm1_s, `G.wr_eRem, `G.parQ3_s, `G.ws_sPar3, `G.th_nx, `G.th_rt, `G.th_xe, `G.wr_iDv, `G.wr_iDi, `G.wr_iDk, `G.wr_iTk, `G.wr_eTs1, `G.tu2_s, `G.tu1_s, `G.wr_eTsU, `G.dct1_s, `G.dcQ_s, `G.wr_eDcT, `G.dt1_t, `G.dt1_f, `G.dgg_s, `G.eqOb_t, `G.eqOb_f, `G.eqO2_s, `G.eqO1_s, `G.wr_eEqO, `G.in2_s, `G.in1_s, `G.wr_eIns, `G.wr_eTabIx, `G.txQ_str, `G.wr_eTabIn, `G.tiQ_t, `G.tiQ_f, `G.ws_sTabCall, `G.tcQ_str, `G.tc1_s, `G.tc2_s, `G.sn3_s, `G.sn2_s, `G.sn1_s, `G.wr_eSlN, `G.zmQ_s, `G.wr_iZipM, `G.zipRM_s, `G.ex2_s, `G.ex1_s, `G.wr_eEqX, `G.cnQ_s, `G.wr_eCallN, `G.ku2_s, `G.ku1_s, `G.wr_eDkU, `G.wr_eNx, `G.sa3_s, `G.sa2_s, `G.sa1_s, `G.wr_eSlA, `G.s5Q_int, `G.lnoQ_s, `G.wr_eLenO, `G.wr_eReprO, `G.wr_eDictN, `G.wr_iRev, `G.forrQ_s, `G.ws_sForR]; let cut : Nat := if k == `zstop || k == `zust then 1 else if k == `zstf || k == `zxtf then 2 else if k == `zstq then 3 else 0; let sel := all.filter fun n => !((cut == 1 && n == `G.ws_sIf) || (cut == 2 && (n == `G.ws_sIf || n == `G.ws_sFor || n == `G.ws_sForC || n == `G.ws_sForR)) || (cut == 3 && n.getString!.startsWith "ws_")); let ids : Lean.TSyntaxArray `term := sel.map fun n => ⟨(Lean.mkIdent n).raw⟩; let r1 : Lean.TSyntaxArray `term := ids ++ es.extract 1 es.size; let r2 : Lean.TSyntaxArray `term := ids ++ es.extract 2 es.size; let r0 : Lean.TSyntaxArray `term := ids ++ es; if k == `zust || k == `zuse then `(tactic| (have hq0 := $(es[1]!); simp only [$[$r2:term],*] at hq0; exact hq0)) else if k == `zxtf then `(tactic| try simp -implicitDefEqProofs only [$[$r1:term],*]) else if cut == 0 then `(tactic| try simp only [$[$r0:term],*]) else `(tactic| try simp only [$[$r1:term],*]))
namespace C
open PySem G
noncomputable section
def lfD (p : Bool × Rat) : G.D := .tup [.str (if p.1 = true then "lift" else "serve"), rD p.2]
def clkF (c : Rat) (p : Bool × Rat) : Rat := if p.1 = true then max c p.2 else c + p.2
def bgP (p : Rat × Rat) : G.D := .tup [rD p.1, rD p.2]
def gtF (g : Rat) (p : Rat × Rat) : Rat := max g p.1 + p.2
structure Tl where
  a : Nat
  rt : Nat
  lf : Nat
  bg : Nat
  x : Se
  came : Rat
  lifts : List (Bool × Rat)
  begins : List (Rat × Rat)
def taleC (rt lf bg : Nat) (x : Se) (came : Rat) : Cell := .obj 40 [(34, .int x.num), (35, .loc rt), (16, rD came), (29, .loc lf), (11, .loc bg), (44, rD x.t), (31, .int x.line.length)]
def ratesC (x : Se) : Cell := .dk [(.inr "least", rD x.l), (.inr "most", oD x.o), (.inr "weight", .int x.h)]
def Tl.H (t : Tl) : HL := [(t.a, taleC t.rt t.lf t.bg t.x t.came), (t.rt, ratesC t.x), (t.lf, .lst (t.lifts.map lfD)), (t.bg, .lst (t.begins.map bgP))]
structure TlOk (T k : Nat) (t : Tl) : Prop where
  lf : ∃ t0 l, t.lifts = (true, t0) :: l ∧ 0 ≤ t0 ∧ t.x.c = l.foldl clkF t0
  lb : ∀ p, p ∈ t.lifts → 0 ≤ p.2 ∧ if p.1 = true then Bt p.2 T else Bt p.2 25
  ll : t.lifts.length ≤ k + 1
  gt : t.x.g = t.begins.foldl gtF t.came
  gb : ∀ p, p ∈ t.begins → 0 ≤ p.2 ∧ t.came ≤ p.1 ∧ Bt p.1 T ∧ Bt p.2 25
  gl : t.begins.length ≤ k
  cb : Bt t.came T
end
end C
namespace C
open PySem G
noncomputable section
structure Wk where
  w : Nat
  td : Nat
  b : Nat
  b1 : Nat
  speed : Rat
  coming : Nat
  ls : Ls
  tl : List Tl
def walkC (td b : Nat) (speed : Rat) (coming : Nat) : Cell := .obj 41 [(42, .loc td), (41, rD speed), (19, .int coming), (13, .loc b)]
def dictT (l : List Tl) : List (L2.Key × D) := l.map fun t => (.inr t.x.name, .loc t.a)
def Wk.H (k : Wk) : HL := (k.w, walkC k.td k.b k.speed k.coming) :: (k.td, .dk (dictT k.tl)) :: (k.tl.flatMap Tl.H ++ bkH k.b k.b1 k.ls)
section
variable {N : Nat} {S : Store} {k : Wk} {t : Tl} {l1 l2 : List Tl} {F : HL} {Q X : QP D}
variable {td b : Nat} {speed : Rat} {coming w : Nat}
def Tl.ask (t : Tl) (tm : Rat) (nk : Nat) (z : Int) : Tl := { t with x := askS tm nk z t.x, lifts := if t.x.line = [] then t.lifts ++ [(true, tm)] else t.lifts }
def Wk.put (k : Wk) (l1 l2 : List Tl) (t : Tl) : Wk := { k with tl := l1 ++ t :: l2 }
end
end
end C
namespace C
open PySem G
noncomputable section
def Tl.serve (t : Tl) (tm : Rat) (z : Int) (b : Bool) (pace : Rat) : Tl := { t with
  x := beginS b tm pace t.x
  lifts := if b = true then t.lifts ++ [(false, (z : Rat) / t.x.l)] else t.lifts
  begins := match t.x.o with
    | some m => t.begins ++ [(tm, (z : Rat) / m)]
    | none => t.begins }
end
end C
namespace C
open PySem G
noncomputable section
section
variable {N : Nat} {S : Store} {k : Wk} {t : Tl} {l1 l2 : List Tl} {F : HL} {Q X : QP D}
def Tl.least (t : Tl) (tm r : Rat) : Tl := { t with x := leastS (max t.x.c tm) r t.x, lifts := t.lifts ++ [(true, tm)] }
end
end
end C
namespace C
open PySem G
end C
namespace C
open PySem G
noncomputable section
theorem TlOk.mono {T i j : Nat} {t : Tl} (h : TlOk T i t) (l : i ≤ j) : TlOk T j t := ⟨h.lf, h.lb, by have := h.ll; omega, h.gt, h.gb, by have := h.gl; omega, h.cb⟩
end
end C
namespace C
open PySem G
end C
namespace C
open PySem G
end C
namespace C
open PySem G
noncomputable section
structure Kp where
  lr : List LR
  b : Ab
  now : Rat
  came : Nat
  nk : Nat
  bk : List Rw
end
end C
local macro_rules | `(tactic| wp_walk using $ts,*) => (let es := ts.getElems; let k := (es[0]!).raw.getId; let all : Array Lean.Name := #[`G.wr_ok, `G.wr_exc, `G.wr_lf, `G.wr_eC, `G.evQ_some, `G.wr_eVar, `G.cB2_s, `G.cB1_s, `G.wr_eBin, `G.cS2_s, `G.cS1_s, `G.wr_eBinS, `G.asQ_bl, `G.wr_tB, `G.truQ_s, `G.wr_tT, `G.notQ_s, `G.wr_tNt, `G.anQ_t, `G.anQ_f, `G.wr_tAn, `G.orQ_t, `G.orQ_f, `G.wr_tOr, `G.eaB_t, `G.eaB_f, `G.eaQ_s, `G.wr_eAn, `G.eoB_t, `G.eoB_f, `G.eoQ_s, `G.wr_eOr, `G.enB_s, `G.enQ_s, `G.wr_eNt, `G.eiQ_t, `G.eiQ_f, `G.wr_eIf, `G.negQ_int, `G.wr_eNeg, `G.wr_aNil, `G.cC2_s, `G.cC1_s, `G.wr_aCons, `G.tupQ_s, `G.lstQ_s, `G.newQ_s, `G.wr_eTup, `G.wr_eLst, `G.wr_eNew, `G.caQ_s, `G.wr_eCa, `G.clQ_s, `G.wr_eCall, `G.nAQ_s, `G.wr_nA, `G.tyQ_s, `G.wr_eIsTy, `G.icQ_s, `G.wr_eIsC, `G.mt2_s, `G.mt1_s, `G.wr_eMt, `G.wr_oNone, `G.oQ_int, `G.wr_oSome, `G.sl3_s, `G.sl2_s, `G.sl1_s, `G.wr_eSl, `G.kk2_s, `G.kk1_s, `G.wr_eCallK, `G.kk0_s, `G.wr_eCallK0, `G.wr_gN, `G.sb3_s, `G.sb2_s, `G.sb1_s, `G.wr_gSb, `G.wr_gsNil, `G.gs1_s, `G.wr_gsCons, `G.wr_gTp, `G.wr_gTp_rD, `G.xe_s, `G.sq_nx, `G.sq_rt, `G.sq_bk, `G.sq_ct, `G.sq_ex, `G.sq_xe, `G.ws_nxt, `G.ws_sNop, `G.ws_sSeq, `G.ws_sBrk, `G.ws_sCnt, `G.dropQ_s, `G.ws_sDrop, `G.ws_sRet, `G.ws_sRetN, `G.ifQ_t, `G.ifQ_f, `G.ws_sIf, `G.asg1_s, `G.ws_sAsg, `G.setQ_s, `G.ws_sSet, `G.parQ_s, `G.ws_sPar, `G.ws_sRaise, `G.fn_nx, `G.fn_rt, `G.fn_ex, `G.fn_xe, `G.su_nx, `G.su_bk, `G.su_ct, `G.su_rt, `G.trQ_t, `G.trQ_f, `G.tr_nx, `G.tr_rt, `G.tr_bk, `G.tr_ct, `G.tr_ex, `G.ws_sTry, `G.forQ_s, `G.ws_sFor, `G.lp_nx, `G.lp_rt, `G.lp_bk, `G.lp_ct, `G.lp_ex, `G.lp_xe, `G.ws_fi_nil, `G.bodyQ_s, `G.mid_nx, `G.mid_rt, `G.mid_bk, `G.mid_ct, `G.mid_ex, `G.mid_xe, `G.lc2_s, `G.lc1_s, `G.wr_eLc, `G.lcn2_s, `G.lcn1_s, `G.wr_eLcN, `G.wipe_nil, `G.wipe_cons, `G.wr_tTrue, `G.wr_lc_nil, `G.tgQ_some, `G.ly_s, `G.lt1_t, `G.lt1_f, `G.lg_s, `G.eqQ_s, `G.exQ_s, `G.seqQ_tup, `G.seqQ_lst, `G.seqQ_scr, `G.seqQ_rD, `G.wr_iSeq, `G.rgQ_int, `G.wr_iRg1, `G.rgQ2_int, `G.wr_iRg2, `G.ch3_t, `G.ch3_f, `G.ch2_s, `G.ch1_s, `G.wr_eChain, `G.flQ_s, `G.wr_eFld, `G.fldD_ins, `G.stQ_s, `G.sf2_s, `G.sf1_s, `G.ws_sFldM, `G.mkQ2_s, `G.mkQ1_s, `G.wr_eMk, `G.wr_eMk0, `G.ap2_s, `G.ap1_s, `G.wr_eApp, `G.zpQ_s, `G.wr_iZip, `G.zipR_tup, `G.zipR_lst, `G.srQ_s, `G.wr_iStrM, `G.strR_s, `G.ioQ_s, `G.wr_eIsO, `G.dAddS_int, `G.wr_gStr_tup, `G.wr_gStr_lst, `G.fTuple_lst, `G.fTuple_tup, `List.take_succ_cons, `List.take_zero, `List.drop_succ_cons, `List.drop_zero, `List.getElem?_cons_zero, `List.getElem?_cons_succ, `List.set_cons_zero, `List.set_cons_succ, `List.map_cons, `List.map_nil, `List.length_cons, `List.length_nil, `List.cons_append, `List.nil_append, `List.replicate_succ, `List.replicate_zero, `List.append_nil, `true_and, `and_true, `and_self, `if_true, `ite_true, `if_false, `ite_false, `Bool.false_eq_true, `Bool.not_true, `Bool.not_false, `Bool.not_not, `decide_true, `decide_false, `decide_eq_true_eq, `not_false_eq_true, `not_true_eq_false, `reduceCtorEq, `PySem.sizeLine_eq, `Option.map_some, `Option.some.injEq, `Nat.reduceSub, `Nat.reduceAdd, `Nat.reduceLeDiff, `Nat.reduceEqDiff, `Nat.zero_add, `Nat.reduceBEq, `List.contains_cons, `List.contains_nil, `beq_self_eq_true, `Bool.true_or, `Bool.or_true, `Bool.false_or, `Bool.or_false, `List.lookup_cons, `List.lookup_nil, `Int.reduceEq, `Int.reduceNe, `Int.reduceLT, `Int.reduceLE, `Int.reduceNeg, `Int.reduceAdd, `Int.reduceSub, `Int.cast_ofNat_Int, `ne_eq, `G.cmpI_s, `G.dGt, `G.dGe, `G.dLt, `G.dLe, `G.dAdd_int, `G.dSub_int, `G.dEq_int, `G.dNe_int, `G.dEq_bl, `G.dNe_bl, `G.truD_bl, `G.isTy_int, `G.isTy_bl, `G.isTy_tup, `G.fLen_tup, `G.fLen_scr, `G.fLen_lst, `G.fAbs_int, `G.fMax_int, `G.fMin_int, `G.ixD_tup, `G.ixD_lst, `G.ixD_scr, `G.isTy_rD, `G.fLen_rD, `G.ix_rD0, `G.ix_rD1, `G.dEq_rD, `G.dNe_rD, `G.dIs_rD, `G.dIsNot_rD, `G.Tn.is, `G.me3_s, `G.me2_s, `G.me1_s, `G.wr_eMeth, `G.mk2_s, `G.mk1_s, `G.wr_eMethK, `G.m01_s, `G.wr_eMeth0, `G.wr_eNewD, `G.dg3_s, `G.dg2_s, `G.dg1_s, `G.wr_eDGet2, `G.dh2_s, `G.dh1_s, `G.wr_eDGet1, `G.dp3_s, `G.dp2_s, `G.dp1_s, `G.wr_eDPop2, `G.dq2_s, `G.dq1_s, `G.wr_eDPop1, `G.se2_s, `G.se1_s, `G.wr_gSbE, `G.ssQ_s, `G.wr_eSortSet, `G.an2_s, `G.an1_s, `G.wr_eAddN, `G.celQ_tup, `G.celQ_lst, `G.celQ_scr, `G.wr_iCel, `G.forcQ_s, `G.ws_sForC, `G.lcc1_s, `G.wr_eLcC, `G.lcd1_s, `G.wr_eLcCN, `G.keyD_int, `G.keyD_str, `Option.isSome_some, `G.fmQ_s, `G.wr_eFmt, `G.jsQ_str, `G.wr_js_nil, `G.wr_js_cons, `G.wr_eJs, `G.s4Q_str, `G.soQ_s, `G.wr_eStrO, `G.dAddE_0, `G.wr_eCallV, `G.chQ_s, `G.wr_eCallH, `G.wr_lamF, `G.oj_s, `G.enuQ_s, `G.wr_iEnum, `G.enR_tup, `G.enR_lst, `G.lrQ_int, `G.wr_eLr, `G.lrnQ_int, `G.wr_eLrN, `G.agQ_s, `G.auP_s, `G.ws_sAug, `G.augR_int, `G.pp2_s, `G.pp1_s, `G.wr_ePop, `G.wr_gSq_tup, `G.wr_gSq_lst, `G.lnQ_lst, `G.lnQ_tup, `G.wr_eListN, `G.rvQ_lst, `G.wr_eRev, `G.rfQ_s, `G.ws_sRaiseF, `G.trG_nx, `G.trG_rt, `G.trG_bk, `G.trG_ct, `G.trG_ex, `G.ws_sTryG, `G.ws_hd_nil, `G.hdP_t, `G.hdP_f, `G.ws_hd_cons, `G.setO_some, `G.setO_none, `G.ws_suS, `G.suN_nx, `G.suN_rt, `G.suN_bk, `G.suN_ct, `G.ws_suN, `G.iyQ_s, `G.wr_eIsY, `G.isY_exc, `G.fyQ_s, `G.wr_eFldY, `G.fldY_exc, `G.toQ_s, `G.wr_eIsTyO, `G.isTyO_tup, `G.isTyO_lst, `G.isTyO_int, `G.tm2_s, `G.tm1_s, `G.wr_eTm, `G.rgQN_int, `G.wr_iRgN, `G.gf1_s, `G.wr_gFl, `G.as3_s, `G.as2_s, `G.as1_s, `G.ws_sAsg3, `G.at1_s, `G.ws_sAsg2, `G.ws_sFldA, `G.ds3_s, `G.ds2_s, `G.ds1_s, `G.wr_eDSetd, `G.dispQ_s, `G.wr_eDisp, `G.rm2_s, `G.rm1_s, `G.wr_eRem, `G.parQ3_s, `G.ws_sPar3, `G.th_nx, `G.th_rt, `G.th_xe, `G.wr_iDv, `G.wr_iDi, `G.wr_iDk, `G.wr_iTk, `G.wr_eTs1, `G.tu2_s, `G.tu1_s, `G.wr_eTsU, `G.dct1_s, `G.dcQ_s, `G.wr_eDcT, `G.dt1_t, `G.dt1_f, `G.dgg_s, `G.eqOb_t, `G.eqOb_f, `G.eqO2_s, `G.eqO1_s, `G.wr_eEqO, `G.in2_s, `G.in1_s, `G.wr_eIns, `G.wr_eTabIx, `G.txQ_str, `G.wr_eTabIn, `G.tiQ_t, `G.tiQ_f, `G.ws_sTabCall, `G.tcQ_str, `G.tc1_s, `G.tc2_s, `G.sn3_s, `G.sn2_s, `G.sn1_s, `G.wr_eSlN, `G.zmQ_s, `G.wr_iZipM, `G.zipRM_s, `G.ex2_s, `G.ex1_s, `G.wr_eEqX, `G.cnQ_s, `G.wr_eCallN, `G.ku2_s, `G.ku1_s, `G.wr_eDkU, `G.wr_eNx, `G.sa3_s, `G.sa2_s, `G.sa1_s, `G.wr_eSlA, `G.s5Q_int, `G.lnoQ_s, `G.wr_eLenO, `G.wr_eReprO, `G.wr_eDictN, `G.wr_iRev, `G.forrQ_s, `G.ws_sForR, `G.m0N1_s, `G.wr_eMeth0N, `G.noQ_s, `G.wr_iNo, `G.ws_sFin, `G.finK_nx, `G.finK_ex, `G.onNx_nx, `G.wr_eDcK, `G.dck1_s, `G.dckQ_s, `G.dkgg_s, `G.dkt1_t, `G.dkt1_f, `G.dkk_s]; let cut : Nat := if k == `zstop || k == `zust then 1 else if k == `zstf || k == `zxtf then 2 else if k == `zstq then 3 else 0; let sel := all.filter fun n => !((cut == 1 && n == `G.ws_sIf) || (cut == 2 && (n == `G.ws_sIf || n == `G.ws_sFor || n == `G.ws_sForC || n == `G.ws_sForR)) || (cut == 3 && n.getString!.startsWith "ws_")); let ids : Lean.TSyntaxArray `term := sel.map fun n => ⟨(Lean.mkIdent n).raw⟩; let r1 : Lean.TSyntaxArray `term := ids ++ es.extract 1 es.size; let r2 : Lean.TSyntaxArray `term := ids ++ es.extract 2 es.size; let r0 : Lean.TSyntaxArray `term := ids ++ es; if k == `zust || k == `zuse then `(tactic| (have hq0 := $(es[1]!); simp only [$[$r2:term],*] at hq0; exact hq0)) else if k == `zxtf then `(tactic| try simp -implicitDefEqProofs only [$[$r1:term],*]) else if cut == 0 then `(tactic| try simp only [$[$r0:term],*]) else `(tactic| try simp only [$[$r1:term],*]))
namespace C
open PySem G
noncomputable section
def LsEq (a b : Ls) : Prop := a.map (fun x => (x.1, x.2.2)) = b.map fun x => (x.1, x.2.2)
structure Cp (v u : Sv) : Prop where
  at_ : u.at_ = v.at_
  till : u.till = v.till
  pace : u.pace = v.pace
  seats : u.seats.map (·.2.2) = v.seats.map (·.2.2)
  came : u.came = v.came
  sizes : u.sizes = v.sizes
  fates : u.fates = v.fates
  rows : u.rows = v.rows
  ls : LsEq u.ls v.ls
end
end C
namespace C
open PySem G
noncomputable section
section
variable {a b : Ls}
theorem LsEq.sum (h : LsEq a b) (t : Rat) (but : Option Int) : sumA a t but = sumA b t but := by
  have k : ∀ l : Ls, sumA l t but = (l.map fun x => (x.1, x.2.2)).foldl (fun (acc : Rat) (y : Int × List (Rat × Rat)) => if but = some y.1 then acc else acc + atT y.2 t) 0 := fun l => by
    unfold sumA; rw [List.foldl_map]
  rw [k, k]
  unfold LsEq at h
  rw [h]
theorem LsEq.kn (h : LsEq a b) (s : Rat) : knQ a s = knQ b s := by
  have k : ∀ l : Ls, knQ l s = (l.map fun x => (x.1, x.2.2)).foldl (fun (K : List Rat) (y : Int × List (Rat × Rat)) => unQ K (behL y.2 s)) [s] := fun l => by
    unfold knQ; rw [List.foldl_map]
  rw [k, k]
  unfold LsEq at h
  rw [h]
theorem LsEq.most (h : LsEq a b) (s : Rat) (but : Option Int) : mostA a s but = mostA b s but := by
  unfold mostA
  rw [h.kn]
  congr 1
  funext f t
  rw [h.sum]
theorem LsEq.line (h : LsEq a b) (i : Int) : lineOf a i = lineOf b i := by
  have k : ∀ l : Ls, lineOf l i = match (l.map fun x => (x.1, x.2.2)).find? (fun y => decide (y.1 = i)) with
      | some y => y.2
      | none => [] := fun l => by
    unfold lineOf
    rw [List.find?_map]
    have e : ((fun y : Int × List (Rat × Rat) => decide (y.1 = i)) ∘ fun x : Int × Nat × List (Rat × Rat) => (x.1, x.2.2)) = fun x => decide (x.1 = i) := rfl
    rw [e]
    cases l.find? fun x => decide (x.1 = i) <;> rfl
  rw [k, k]
  unfold LsEq at h
  rw [h]
theorem LsEq.rb (h : LsEq a b) {bs : List Rw} (r : RB b bs) : RB a bs := fun i t => by rw [h.line]; exact r i t
theorem LsEq.ok (h : LsEq a b) {c m : Nat} (o : LsOk b c m) : LsOk a c m := by
  have e1 : a.map (·.1) = b.map (·.1) := by
    have := congrArg (List.map (·.1)) h
    rwa [List.map_map, List.map_map] at this
  have e2 : a.length = b.length := by
    have := congrArg List.length h
    rwa [List.length_map, List.length_map] at this
  have e3 : (a.map fun x => x.2.2.length) = b.map fun x => x.2.2.length := by
    have := congrArg (List.map fun y : Int × List (Rat × Rat) => y.2.length) h
    rwa [List.map_map, List.map_map] at this
  refine ⟨by rw [e1]; exact o.nd, by rw [e2]; exact o.len, by rw [e3]; exact o.tot, fun x hx => ?_⟩
  have m1 : (x.1, x.2.2) ∈ b.map fun x => (x.1, x.2.2) := by
    rw [← show a.map (fun x => (x.1, x.2.2)) = b.map fun x => (x.1, x.2.2) from h]
    exact List.mem_map.mpr ⟨x, hx, rfl⟩
  obtain ⟨y, hy, ey⟩ := List.mem_map.mp m1
  have q := o.each y hy
  injection ey with f1 f2
  rw [f1, f2] at q
  exact q
end
section
variable {v u : Sv} (h : Cp v u)
include h
theorem Cp.abs : u.abs = v.abs := by unfold Sv.abs; rw [h.till, h.pace, h.seats, h.rows]
theorem Cp.most : mostV u = mostV v := by
  funext but s
  unfold mostV
  rw [h.ls.most, h.came]
theorem Cp.mem {p : Nat × Nat × Se} (hp : p ∈ u.seats) : ∃ q, q ∈ v.seats ∧ q.2.2 = p.2.2 := by
  have m : p.2.2 ∈ v.seats.map (·.2.2) := by rw [← h.seats]; exact List.mem_map.mpr ⟨p, hp, rfl⟩
  exact List.mem_map.mp m
theorem Cp.ok {B c n : Nat} (o : SvOk B c n v) : SvOk B c n u := by
  have e1 : u.seats.map (·.2.2.num) = v.seats.map (·.2.2.num) := by
    have := congrArg (List.map (·.num)) h.seats
    rwa [List.map_map, List.map_map] at this
  have e2 : u.seats.map (·.2.2.name) = v.seats.map (·.2.2.name) := by
    have := congrArg (List.map (·.name)) h.seats
    rwa [List.map_map, List.map_map] at this
  have e3 : u.seats.length = v.seats.length := by
    have := congrArg List.length h.seats
    rwa [List.length_map, List.length_map] at this
  refine ⟨by rw [h.at_]; exact o.ba, by rw [h.till]; exact o.bu, by rw [h.pace]; exact o.bp, by rw [h.at_]; exact o.a0, by rw [h.till]; exact o.u0, by rw [h.pace]; exact o.p0, fun p hp => ?_, by rw [e3]; exact o.few, by rw [e1]; exact o.nums, fun p hp => ?_, by rw [e2]; exact o.names, fun p hp q hq => ?_, by rw [h.fates, h.sizes]; exact o.fl, by rw [h.sizes]; exact o.szn, by rw [h.rows]; exact o.rwn, h.ls.ok o.ls⟩
  · obtain ⟨q, h1, h2⟩ := h.mem hp
    rw [← h2]; exact o.seats q h1
  · obtain ⟨q, h1, h2⟩ := h.mem hp
    rw [← h2, h.came]; exact o.numl q h1
  · obtain ⟨r, h1, h2⟩ := h.mem hp
    rw [← h2] at hq
    rw [h.sizes]; exact o.sz r h1 q hq
theorem Cp.iv (o : Iv v) : Iv u := ⟨fun p hp => by
  obtain ⟨q, h1, h2⟩ := h.mem hp
  rw [← h2]; exact o.nms q h1, fun d hd => o.rows d (by rw [← h.rows]; exact hd)⟩
theorem Cp.al {o : Ow} (a : Al v o) : Al u o := ⟨by rw [h.abs]; exact a.ab, by rw [h.at_]; exact a.now, by rw [h.came]; exact a.came, by rw [h.sizes]; exact a.nk, h.ls.rb a.rb⟩
end
end
end C
namespace C
open PySem G
end C
namespace C
open PySem G
noncomputable section
section
variable {v u : Sv} {b c nn : Nat}
theorem Cp.bd (h : Cp v u) {B : Nat} (k : Bd B b c nn v) : Bd B b c nn u := by
  obtain ⟨⟨n, k1, k2⟩, k3, k4⟩ := k
  exact ⟨⟨n, h.ok k1, by rw [h.abs]; exact k2⟩, k3, by rw [h.abs]; exact k4⟩
end
end
end C
namespace C
open PySem G
noncomputable section
structure Rq (m k : Nat) (d : D) : Prop where
  ex : ∃ p, d.toP = some p ∧ p.showable = true ∧ p.leavesShort 600 = true ∧ p.hasDict = false ∧ p.depth ≤ k ∧ p.bulk ≤ m
theorem Rq.mono {m m' k k' : Nat} {d : D} (h : Rq m k d) (l : m ≤ m') (l' : k ≤ k') : Rq m' k' d := by
  obtain ⟨p, a, b, c, e, f, g⟩ := h
  exact ⟨p, a, b, c, e, Nat.le_trans f l', Nat.le_trans g l⟩
inductive Rqs (k : Nat) : Nat → List D → Prop where
  | nil : Rqs k 0 []
  | cons {m n : Nat} {d : D} {l : List D} (h : Rq m k d) (t : Rqs k n l) : Rqs k (m + 1 + n) (d :: l)
theorem Rqs.ex {k n : Nat} {l : List D} (h : Rqs k n l) : ∃ ps, toPs l = some ps ∧ PyData.showableAll ps = true ∧ PyData.leavesShortAll 600 ps = true ∧ PyData.hasDictAll ps = false ∧ PyData.depthAll ps ≤ k ∧ PyData.bulkAll ps ≤ n := by
  induction h with
  | nil => exact ⟨[], rfl, rfl, rfl, rfl, Nat.zero_le _, Nat.zero_le _⟩
  | cons h t ih =>
    obtain ⟨p, a1, a2, a3, a4, a5, a6⟩ := h
    obtain ⟨ps, b1, b2, b3, b4, b5, b6⟩ := ih
    exact ⟨p :: ps, by unfold toPs; rw [a1, b1], by unfold PyData.showableAll; rw [a2, b2]; rfl, by unfold PyData.leavesShortAll; rw [a3, b3]; rfl, by unfold PyData.hasDictAll; rw [a4, b4]; rfl, by simp only [PyData.depthAll]; omega, by simp only [PyData.bulkAll]; omega⟩
theorem Rqs.tup {k n : Nat} {l : List D} (h : Rqs k n l) : Rq n (k + 1) (.tup l) := by
  obtain ⟨ps, b1, b2, b3, b4, b5, b6⟩ := h.ex
  exact ⟨.tuple ps, by unfold D.toP; rw [b1]; rfl, by simpa [PyData.showable] using b2, by simpa [PyData.leavesShort] using b3, by simpa [PyData.hasDict] using b4, by simp only [PyData.depth]; omega, by simpa [PyData.bulk] using b6⟩
theorem Rqs.lst {k n : Nat} {l : List D} (h : Rqs k n l) : Rq n (k + 1) (.lst l) := by
  obtain ⟨ps, b1, b2, b3, b4, b5, b6⟩ := h.ex
  exact ⟨.list ps, by unfold D.toP; rw [b1]; rfl, by simpa [PyData.showable] using b2, by simpa [PyData.leavesShort] using b3, by simpa [PyData.hasDict] using b4, by simp only [PyData.depth]; omega, by simpa [PyData.bulk] using b6⟩
theorem Rqs.app {k n m : Nat} {l l' : List D} (h : Rqs k n l) (h' : Rqs k m l') : Rqs k (n + m) (l ++ l') := by
  induction h with
  | nil => rw [Nat.zero_add]; exact h'
  | cons h t ih => rw [Nat.add_assoc]; exact .cons h ih
theorem Rqs.all {k m : Nat} : ∀ {l : List D}, (∀ d, d ∈ l → Rq m k d) → Rqs k ((m + 1) * l.length) l
  | [], _ => .nil
  | d :: l, h => by
    have := Rqs.cons (h d List.mem_cons_self) (Rqs.all fun x hx => h x (List.mem_cons_of_mem _ hx))
    have e : (m + 1) * (d :: l).length = m + 1 + (m + 1) * l.length := by rw [List.length_cons, Nat.mul_add, Nat.mul_one, Nat.add_comm]
    rw [e]; exact this
end
end C
namespace Wk04
open PySem L2 G
noncomputable section
abbrev n__law_cell : List Str := ["_law_script", "_law_k", "_law_state", "_law_cell_here"]
abbrev p__law_cell : List Str := ["_law_script", "_law_k"]
theorem sc__law_cell : FnScope n__law_cell p__law_cell (defScope s__law_cell) := ⟨rfl, rfl, rfl, by decide +kernel, rfl, by decide +kernel, by decide +kernel⟩
abbrev n__law_caught : List Str := ["_law_deed", "_law_e"]
abbrev p__law_caught : List Str := ["_law_deed"]
theorem sc__law_caught : FnScope (n__law_caught ++ ph4) p__law_caught (defScope s__law_caught) := ⟨rfl, rfl, rfl, by decide +kernel, rfl, by decide +kernel, by decide +kernel⟩
abbrev n__law_kinds : List Str := ["_law_e", "_law_tag", "_law_lost", "_law_share", "_law_some", "_law_far", "_law_over", "_law_words", "_law_word_here", "_law_truth"]
abbrev p__law_kinds : List Str := ["_law_e"]
theorem sc__law_kinds : FnScope n__law_kinds p__law_kinds (defScope s__law_kinds) := ⟨rfl, rfl, rfl, by decide +kernel, rfl, by decide +kernel, by decide +kernel⟩
abbrev n__law_word : List Str := ["_law_deed", "_law_caught_here", "_law_words"]
abbrev p__law_word : List Str := ["_law_deed"]
theorem sc__law_word : FnScope (n__law_word ++ ph4) p__law_word (defScope s__law_word) := ⟨rfl, rfl, rfl, by decide +kernel, rfl, by decide +kernel, by decide +kernel⟩
abbrev n_is_whole : List Str := ["thing"]
abbrev p_is_whole : List Str := ["thing"]
theorem sc_is_whole : FnScope n_is_whole p_is_whole (defScope s_is_whole) := ⟨rfl, rfl, rfl, by decide +kernel, rfl, by decide +kernel, by decide +kernel⟩
abbrev n_shared : List Str := ["one", "other"]
abbrev p_shared : List Str := ["one", "other"]
theorem sc_shared : FnScope n_shared p_shared (defScope s_shared) := ⟨rfl, rfl, rfl, by decide +kernel, rfl, by decide +kernel, by decide +kernel⟩
abbrev n_is_ratio : List Str := ["thing", "top", "bottom", "part"]
abbrev p_is_ratio : List Str := ["thing"]
theorem sc_is_ratio : FnScope n_is_ratio p_is_ratio (defScope s_is_ratio) := ⟨rfl, rfl, rfl, by decide +kernel, rfl, by decide +kernel, by decide +kernel⟩
abbrev n_check_ratio : List Str := ["thing"]
abbrev p_check_ratio : List Str := ["thing"]
theorem sc_check_ratio : FnScope n_check_ratio p_check_ratio (defScope s_check_ratio) := ⟨rfl, rfl, rfl, by decide +kernel, rfl, by decide +kernel, by decide +kernel⟩
abbrev n_check_two : List Str := ["one", "other"]
abbrev p_check_two : List Str := ["one", "other"]
theorem sc_check_two : FnScope n_check_two p_check_two (defScope s_check_two) := ⟨rfl, rfl, rfl, by decide +kernel, rfl, by decide +kernel, by decide +kernel⟩
abbrev n_lowest : List Str := ["top", "bottom", "part"]
abbrev p_lowest : List Str := ["top", "bottom"]
theorem sc_lowest : FnScope n_lowest p_lowest (defScope s_lowest) := ⟨rfl, rfl, rfl, by decide +kernel, rfl, by decide +kernel, by decide +kernel⟩
abbrev n_added : List Str := ["one", "other", "top", "bottom", "more", "under"]
abbrev p_added : List Str := ["one", "other"]
theorem sc_added : FnScope n_added p_added (defScope s_added) := ⟨rfl, rfl, rfl, by decide +kernel, rfl, by decide +kernel, by decide +kernel⟩
abbrev n_is_before : List Str := ["one", "other"]
abbrev p_is_before : List Str := ["one", "other"]
theorem sc_is_before : FnScope n_is_before p_is_before (defScope s_is_before) := ⟨rfl, rfl, rfl, by decide +kernel, rfl, by decide +kernel, by decide +kernel⟩
abbrev n_greater : List Str := ["one", "other"]
abbrev p_greater : List Str := ["one", "other"]
theorem sc_greater : FnScope n_greater p_greater (defScope s_greater) := ⟨rfl, rfl, rfl, by decide +kernel, rfl, by decide +kernel, by decide +kernel⟩
abbrev n_lowered : List Str := ["one", "other", "top", "bottom", "more", "under"]
abbrev p_lowered : List Str := ["one", "other"]
theorem sc_lowered : FnScope n_lowered p_lowered (defScope s_lowered) := ⟨rfl, rfl, rfl, by decide +kernel, rfl, by decide +kernel, by decide +kernel⟩
abbrev n_ratio : List Str := ["top", "bottom"]
abbrev p_ratio : List Str := ["top", "bottom"]
theorem sc_ratio : FnScope n_ratio p_ratio (defScope s_ratio) := ⟨rfl, rfl, rfl, by decide +kernel, rfl, by decide +kernel, by decide +kernel⟩
abbrev n_parted : List Str := ["one", "other"]
abbrev p_parted : List Str := ["one", "other"]
theorem sc_parted : FnScope n_parted p_parted (defScope s_parted) := ⟨rfl, rfl, rfl, by decide +kernel, rfl, by decide +kernel, by decide +kernel⟩
abbrev n_scaled : List Str := ["one", "other"]
abbrev p_scaled : List Str := ["one", "other"]
theorem sc_scaled : FnScope n_scaled p_scaled (defScope s_scaled) := ⟨rfl, rfl, rfl, by decide +kernel, rfl, by decide +kernel, by decide +kernel⟩
abbrev n__law_deeds : List Str := ["_law_one", "_law_other", "_law_told"]
abbrev p__law_deeds : List Str := ["_law_one", "_law_other"]
theorem sc__law_deeds : FnScope n__law_deeds p__law_deeds (defScope s__law_deeds) := ⟨rfl, rfl, rfl, by decide +kernel, rfl, by decide +kernel, by decide +kernel⟩
abbrev n__law_take : List Str := ["_law_pool_here", "_law_many", "_law_state", "_law_digit"]
abbrev p__law_take : List Str := ["_law_pool_here", "_law_many"]
theorem sc__law_take : FnScope n__law_take p__law_take (defScope s__law_take) := ⟨rfl, rfl, rfl, by decide +kernel, rfl, by decide +kernel, by decide +kernel⟩
abbrev n__law_odd : List Str := ["_law_pool_here", "_law_some"]
abbrev p__law_odd : List Str := ["_law_pool_here"]
theorem sc__law_odd : FnScope n__law_odd p__law_odd (defScope s__law_odd) := ⟨rfl, rfl, rfl, by decide +kernel, rfl, by decide +kernel, by decide +kernel⟩
abbrev n__law_pool : List Str := ["_law_cell_here", "_law_digits"]
abbrev p__law_pool : List Str := ["_law_cell_here"]
theorem sc__law_pool : FnScope n__law_pool p__law_pool (defScope s__law_pool) := ⟨rfl, rfl, rfl, by decide +kernel, rfl, by decide +kernel, by decide +kernel⟩
abbrev n__law_r : List Str := ["_law_top", "_law_bottom", "_law_one", "_law_rest"]
abbrev p__law_r : List Str := ["_law_top", "_law_bottom"]
theorem sc__law_r : FnScope n__law_r p__law_r (defScope s__law_r) := ⟨rfl, rfl, rfl, by decide +kernel, rfl, by decide +kernel, by decide +kernel⟩
abbrev n__law_ratio : List Str := ["_law_pool_here", "_law_top"]
abbrev p__law_ratio : List Str := ["_law_pool_here"]
theorem sc__law_ratio : FnScope n__law_ratio p__law_ratio (defScope s__law_ratio) := ⟨rfl, rfl, rfl, by decide +kernel, rfl, by decide +kernel, by decide +kernel⟩
abbrev n__law_text : List Str := ["_law_one"]
abbrev p__law_text : List Str := ["_law_one"]
theorem sc__law_text : FnScope n__law_text p__law_text (defScope s__law_text) := ⟨rfl, rfl, rfl, by decide +kernel, rfl, by decide +kernel, by decide +kernel⟩
abbrev n__law_due : List Str := ["_law_text_here", "_law_parts", "_law_numbers", "_law_part", "_law_sign"]
abbrev p__law_due : List Str := ["_law_text_here"]
theorem sc__law_due : FnScope n__law_due p__law_due (defScope s__law_due) := ⟨rfl, rfl, rfl, by decide +kernel, rfl, by decide +kernel, by decide +kernel⟩
abbrev n_is_number : List Str := ["word", "sign"]
abbrev p_is_number : List Str := ["word"]
theorem sc_is_number : FnScope n_is_number p_is_number (defScope s_is_number) := ⟨rfl, rfl, rfl, by decide +kernel, rfl, by decide +kernel, by decide +kernel⟩
abbrev n_show_ratio : List Str := ["one", "top", "bottom"]
abbrev p_show_ratio : List Str := ["one"]
theorem sc_show_ratio : FnScope n_show_ratio p_show_ratio (defScope s_show_ratio) := ⟨rfl, rfl, rfl, by decide +kernel, rfl, by decide +kernel, by decide +kernel⟩
abbrev n_read_ratio : List Str := ["text", "under", "top", "stroke", "bottom", "found"]
abbrev p_read_ratio : List Str := ["text"]
theorem sc_read_ratio : FnScope n_read_ratio p_read_ratio (defScope s_read_ratio) := ⟨rfl, rfl, rfl, by decide +kernel, rfl, by decide +kernel, by decide +kernel⟩
abbrev n__law_read_right : List Str := ["_law_text_here", "_law_due_here", "_law_caught_here"]
abbrev p__law_read_right : List Str := ["_law_text_here"]
theorem sc__law_read_right : FnScope n__law_read_right p__law_read_right (defScope s__law_read_right) := ⟨rfl, rfl, rfl, by decide +kernel, rfl, by decide +kernel, by decide +kernel⟩
abbrev n_law : List Str := ["_law_script", "_law_k", "_law_pool_here", "_law_turn", "_law_one", "_law_other", "_law_odd_here", "_law_last", "_law_pairs", "_law_first", "_law_second", "_law_thing", "_law_top", "_law_bottom", "_law_text_here", "_law_place", "_law_sign", "_law_some", "_law_word_here"]
abbrev p_law : List Str := ["_law_script"]
theorem sc_law : FnScope n_law p_law (defScope s_law) := ⟨rfl, rfl, rfl, by decide +kernel, rfl, by decide +kernel, by decide +kernel⟩
abbrev rsL : List Nat := [3, 4, 27]
theorem sc_NoText___init__ : FnScope ["self", "row"] ["self", "row"] (defScope s_NoText___init__) := ⟨rfl, rfl, rfl, by decide +kernel, rfl, by decide +kernel, by decide +kernel⟩
def b__law_caught (fv : Nat) (cp : List (Option D)) (fk : FM) (N : Nat) : SM := (sSeq (sTryG [([tbR rsL 0], some 1, (sRet (eVar 1))), ([tbR rsL 1], some 1, (sRet (eVar 1))), ([tbR rsL 2], some 1, (sRet (eVar 1)))] (sDrop (eCallV 0 fv 2 cp fk aNil)))
    (sRet (eC .non)))
def m__law_caught (fv : Nat) (cp : List (Option D)) (fk : FM) (N : Nat) : FM := fnH 2 cp (b__law_caught fv cp fk N)
def b__law_kinds (N : Nat) : SM := (sSeq (sAsg (eTup (aCons (eIsY (tbR rsL 0) (eVar 0)) (aCons (eIsY (tbR rsL 1) (eVar 0)) (aCons (eIsY (tbR rsL 2) (eVar 0)) aNil)))) (gTp 3 (gsCons' (gN 1) (gsCons' (gN 2) (gsCons' (gN 3) gsNil)))))
    (sSeq (sSet 4 (eLst (aCons (eTup (aCons (eC (.str "ratio")) (aCons (eIsY (tbR rsL 3) (eVar 0)) aNil))) (aCons (eTup (aCons (eC (.str "text")) (aCons (eIsY (tbR rsL 4) (eVar 0)) aNil))) aNil))))
    (sSeq (sSet 4 (eBinS dAddS (eVar 4) (eLst (aCons (eTup (aCons (eC (.str "name")) (aCons (eIsY (tbR rsL 5) (eVar 0)) aNil))) aNil))))
    (sSeq (sSet 4 (eBinS dAddS (eVar 4) (eLst (aCons (eTup (aCons (eC (.str "rate")) (aCons (eIsY (tbR rsL 6) (eVar 0)) aNil))) (aCons (eTup (aCons (eC (.str "weight")) (aCons (eIsY (tbR rsL 7) (eVar 0)) aNil))) aNil)))))
    (sSeq (sSet 4 (eBinS dAddS (eVar 4) (eLst (aCons (eTup (aCons (eC (.str "number")) (aCons (eIsY (tbR rsL 8) (eVar 0)) aNil))) (aCons (eTup (aCons (eC (.str "time")) (aCons (eIsY (tbR rsL 9) (eVar 0)) aNil))) aNil)))))
    (sSeq (sSet 4 (eBinS dAddS (eVar 4) (eLst (aCons (eTup (aCons (eC (.str "tags")) (aCons (eIsY (tbR rsL 10) (eVar 0)) aNil))) aNil))))
    (sSeq (sSet 4 (eBinS dAddS (eVar 4) (eLst (aCons (eTup (aCons (eC (.str "size")) (aCons (eIsY (tbR rsL 11) (eVar 0)) aNil))) (aCons (eTup (aCons (eC (.str "client")) (aCons (eIsY (tbR rsL 12) (eVar 0)) aNil))) aNil)))))
    (sSeq (sSet 4 (eBinS dAddS (eVar 4) (eLst (aCons (eTup (aCons (eC (.str "least")) (aCons (eIsY (tbR rsL 13) (eVar 0)) aNil))) (aCons (eTup (aCons (eC (.str "rivals")) (aCons (eIsY (tbR rsL 14) (eVar 0)) aNil))) aNil)))))
    (sSeq (sSet 4 (eBinS dAddS (eVar 4) (eLst (aCons (eTup (aCons (eC (.str "truth")) (aCons (eIsY (tbR rsL 15) (eVar 0)) aNil))) (aCons (eTup (aCons (eC (.str "deeds")) (aCons (eIsY (tbR rsL 16) (eVar 0)) aNil))) aNil)))))
    (sSeq (sSet 4 (eBinS dAddS (eVar 4) (eLst (aCons (eTup (aCons (eC (.str "log")) (aCons (eIsY (tbR rsL 17) (eVar 0)) aNil))) aNil))))
    (sSeq (sSet 4 (eBinS dAddS (eVar 4) (eLst (aCons (eTup (aCons (eC (.str "stretch")) (aCons (eIsY (tbR rsL 18) (eVar 0)) aNil))) (aCons (eTup (aCons (eC (.str "less")) (aCons (eIsY (tbR rsL 19) (eVar 0)) aNil))) aNil)))))
    (sSeq (sSet 4 (eBinS dAddS (eVar 4) (eLst (aCons (eTup (aCons (eC (.str "plan")) (aCons (eIsY (tbR rsL 20) (eVar 0)) aNil))) aNil))))
    (sSeq (sSet 4 (eBinS dAddS (eVar 4) (eLst (aCons (eTup (aCons (eC (.str "leasts")) (aCons (eIsY (tbR rsL 21) (eVar 0)) aNil))) (aCons (eTup (aCons (eC (.str "word")) (aCons (eIsY (tbR rsL 22) (eVar 0)) aNil))) aNil)))))
    (sSeq (sSet 4 (eBinS dAddS (eVar 4) (eLst (aCons (eTup (aCons (eC (.str "row")) (aCons (eIsY (tbR rsL 23) (eVar 0)) aNil))) aNil))))
    (sSeq (sSet 5 (eLst (aCons (eTup (aCons (eC (.str "one")) (aCons (eIsY (tbR rsL 24) (eVar 0)) aNil))) (aCons (eTup (aCons (eC (.str "ask")) (aCons (eIsY (tbR rsL 25) (eVar 0)) aNil))) aNil))))
    (sSeq (sSet 5 (eBinS dAddS (eVar 5) (eLst (aCons (eTup (aCons (eC (.str "place")) (aCons (eIsY (tbR rsL 26) (eVar 0)) aNil))) aNil))))
    (sSeq (sSet 6 (eLst (aCons (eTup (aCons (eC (.str "nought")) (aCons (eIsY (tbR rsL 27) (eVar 0)) aNil))) (aCons (eTup (aCons (eC (.str "stands")) (aCons (eIsY (tbR rsL 28) (eVar 0)) aNil))) aNil))))
    (sSeq (sSet 6 (eBinS dAddS (eVar 6) (eLst (aCons (eTup (aCons (eC (.str "many")) (aCons (eIsY (tbR rsL 29) (eVar 0)) aNil))) aNil))))
    (sSeq (sSet 6 (eBinS dAddS (eVar 6) (eLst (aCons (eTup (aCons (eC (.str "much")) (aCons (eIsY (tbR rsL 30) (eVar 0)) aNil))) (aCons (eTup (aCons (eC (.str "full")) (aCons (eIsY (tbR rsL 31) (eVar 0)) aNil))) aNil)))))
    (sSeq (sSet 6 (eBinS dAddS (eVar 6) (eLst (aCons (eTup (aCons (eC (.str "past")) (aCons (eIsY (tbR rsL 32) (eVar 0)) aNil))) aNil))))
    (sSeq (sSet 7 (eLc (iSeq (eVar 4)) (.tp [8, 9]) (tAn (tT (eVar 9)) (tAn (tT (eVar 1)) (tT (eIsY (tbR rsL 100) (eVar 0))))) (eVar 8) [8, 9]))
    (sSeq (sSet 7 (eBinS dAddS (eVar 7) (eLc (iSeq (eVar 5)) (.tp [8, 9]) (tAn (tT (eVar 9)) (tAn (tT (eVar 2)) (tT (eIsY (tbR rsL 101) (eVar 0))))) (eVar 8) [8, 9])))
    (sSeq (sSet 7 (eBinS dAddS (eVar 7) (eLc (iSeq (eVar 6)) (.tp [8, 9]) (tAn (tT (eVar 9)) (tAn (tT (eVar 3)) (tT (eIsY (tbR rsL 102) (eVar 0))))) (eVar 8) [8, 9])))
    (sRet (eIf (tB (eBin dEq (eMt fCnt (eLst (aCons (eVar 1) (aCons (eVar 2) (aCons (eVar 3) aNil)))) (aCons (eC (.bl true)) aNil)) (eC (.int 1)))) (eVar 7) (eLst aNil))))))))))))))))))))))))))
def m__law_kinds (N : Nat) : FM := fnM 10 (b__law_kinds N)
def b__law_word (fv : Nat) (cp : List (Option D)) (fk : FM) (N : Nat) : SM := (sSeq (sSet 1 (eCallF (fun fv cp fk => m__law_caught fv cp fk N) 0 fv 3 cp fk))
    (sSeq (sIf (tB (eBin dIs (eVar 1) (eC .non))) (sRet (eC (.str "told"))) sNop)
    (sSeq (sSet 2 (eCall (m__law_kinds N) (nA 1 (aCons (eVar 1) aNil))))
    (sRet (eIf (tB (eBin dEq (eCa fLen (aCons (eVar 2) aNil)) (eC (.int 1)))) (eBinS ixD (eVar 2) (eC (.int 0))) (eC (.str "other")))))))
def m__law_word (fv : Nat) (cp : List (Option D)) (fk : FM) (N : Nat) : FM := fnH 3 cp (b__law_word fv cp fk N)
def b__law_deeds (N : Nat) : SM := (sSeq (sSet 2 (eNew (aCons (eCallH (fun fv cp fk => m__law_word fv cp fk N) [0, 1] (lamF [0, 1] 0 (eCall (C.m_added N) (nA 2 (aCons (eVar 0) (aCons (eVar 1) aNil))))) (tbS 0 mk__law_deeds.1 mk__law_deeds.2) 0 aNil) aNil)))
    (sSeq (sDrop (eApp (eVar 2) (aCons (eCallH (fun fv cp fk => m__law_word fv cp fk N) [0, 1] (lamF [0, 1] 0 (eCall (C.m_lowered N) (nA 2 (aCons (eVar 0) (aCons (eVar 1) aNil))))) (tbS 0 mk__law_deeds.1 mk__law_deeds.2) 0 aNil) aNil)))
    (sSeq (sDrop (eApp (eVar 2) (aCons (eCallH (fun fv cp fk => m__law_word fv cp fk N) [0, 1] (lamF [0, 1] 0 (eCall (C.m_scaled N) (nA 2 (aCons (eVar 0) (aCons (eVar 1) aNil))))) (tbS 0 mk__law_deeds.1 mk__law_deeds.2) 0 aNil) aNil)))
    (sSeq (sDrop (eApp (eVar 2) (aCons (eCallH (fun fv cp fk => m__law_word fv cp fk N) [0, 1] (lamF [0, 1] 0 (eCall (C.m_is_before N) (nA 2 (aCons (eVar 0) (aCons (eVar 1) aNil))))) (tbS 0 mk__law_deeds.1 mk__law_deeds.2) 0 aNil) aNil)))
    (sSeq (sDrop (eApp (eVar 2) (aCons (eCallH (fun fv cp fk => m__law_word fv cp fk N) [0, 1] (lamF [0, 1] 0 (eCall (C.m_greater N) (nA 2 (aCons (eVar 0) (aCons (eVar 1) aNil))))) (tbS 0 mk__law_deeds.1 mk__law_deeds.2) 0 aNil) aNil)))
    (sSeq (sDrop (eApp (eVar 2) (aCons (eCallH (fun fv cp fk => m__law_word fv cp fk N) [0, 1] (lamF [0, 1] 0 (eCall (C.m_parted N) (nA 2 (aCons (eVar 0) (aCons (eVar 1) aNil))))) (tbS 0 mk__law_deeds.1 mk__law_deeds.2) 0 aNil) aNil)))
    (sRet (eVar 2))))))))
def m__law_deeds (N : Nat) : FM := fnM 3 (b__law_deeds N)
def b__law_odd (N : Nat) : SM := (sSeq (sSet 1 (eLst (aCons (eTup (aCons (eC (.int 2)) (aCons (eC (.int 4)) aNil))) (aCons (eTup (aCons (eC (.int 0)) (aCons (eC (.int 2)) aNil))) (aCons (eTup (aCons (eC (.int 1)) (aCons (eC (.int 0)) aNil))) (aCons (eTup (aCons (eC (.int 1)) (aCons (eNeg (eC (.int 2))) aNil))) (aCons (eTup (aCons (eNeg (eC (.int 1))) (aCons (eNeg (eC (.int 1))) aNil))) (aCons (eTup (aCons (eC (.bl true)) (aCons (eC (.int 1)) aNil))) (aCons (eTup (aCons (eC (.int 1)) (aCons (eC (.bl true)) aNil))) (aCons (eTup (aCons (eC (.int 1)) aNil)) (aCons (eTup (aCons (eC (.int 1)) (aCons (eC (.int 2)) (aCons (eC (.int 3)) aNil)))) aNil)))))))))))
    (sSeq (sSet 1 (eBinS dAddS (eVar 1) (eLst (aCons (eTup (aCons (eC (.str "1")) (aCons (eC (.int 2)) aNil))) (aCons (eTup (aCons (eC .non) (aCons (eC (.int 1)) aNil))) (aCons (eLst (aCons (eC (.int 1)) (aCons (eC (.int 2)) aNil))) aNil))))))
    (sSeq (sSet 1 (eBinS dAddS (eVar 1) (eLst (aCons (eC .non) (aCons (eC (.int 7)) (aCons (eC (.bl true)) (aCons (eC (.str "1/2")) (aCons (eC (.str "")) (aCons (eC (.dic [] [])) (aCons (eLst aNil) (aCons (eTup aNil) (aCons (eTup (aCons (eLst aNil) (aCons (eC (.int 1)) aNil))) (aCons (eTup (aCons (eC (.int 1)) (aCons (eTup (aCons (eC (.int 2)) aNil)) aNil))) aNil)))))))))))))
    (sRet (eBinS ixD (eVar 1) (eCall (C.m__law_take N) (nA 2 (aCons (eVar 0) (aCons (eC (.int 22)) aNil)))))))))
def m__law_odd (N : Nat) : FM := fnM 2 (b__law_odd N)
def b__law_ratio (N : Nat) : SM := (sSeq (sSet 1 (eBin dSub (eBinS ixD (eLst (aCons (eCall (C.m__law_take N) (nA 2 (aCons (eVar 0) (aCons (eC (.int 20)) aNil)))) (aCons (eCall (C.m__law_take N) (nA 2 (aCons (eVar 0) (aCons (eBin dPow (eC (.int 10)) (eC (.int 18))) aNil)))) aNil))) (eCall (C.m__law_take N) (nA 2 (aCons (eVar 0) (aCons (eC (.int 2)) aNil))))) (eC (.int 9))))
    (sRet (eCall (C.m__law_r N) (nA 2 (aCons (eVar 1) (aCons (eBinS dAddS (eC (.int 1)) (eCall (C.m__law_take N) (nA 2 (aCons (eVar 0) (aCons (eBinS ixD (eLst (aCons (eC (.int 9)) (aCons (eBin dPow (eC (.int 10)) (eC (.int 9))) aNil))) (eCall (C.m__law_take N) (nA 2 (aCons (eVar 0) (aCons (eC (.int 2)) aNil))))) aNil))))) aNil))))))
def m__law_ratio (N : Nat) : FM := fnM 2 (b__law_ratio N)
def b__law_text (N : Nat) : SM := (sRet (eBinS dAddS (eCa fStr (aCons (eBinS ixD (eVar 0) (eC (.int 0))) aNil)) (eBin dMulS (eBinS dAddS (eC (.str "/")) (eCa fStr (aCons (eBinS ixD (eVar 0) (eC (.int 1))) aNil))) (eCa fInt (aCons (eBin dNe (eBinS ixD (eVar 0) (eC (.int 1))) (eC (.int 1))) aNil)))))
def m__law_text (N : Nat) : FM := fnM 1 (b__law_text N)
def b__law_due (N : Nat) : SM := (sSeq (sIf (tNt (tT (eIsTy .str (eVar 0)))) (sRet (eC .non)) sNop)
    (sSeq (sSet 1 (eTm fSplit (eVar 0) (aCons (eC (.str "/")) aNil)))
    (sSeq (sIf (tOr' (tB (eBin dGt (eCa fLen (aCons (eVar 1) aNil)) (eC (.int 2)))) (tOr' (tB (eBinS (dInL false) (eC (.str "")) (eVar 1))) (tNt (tT (eCa fAll (aCons (eLc (iStrM (eVar 0)) (.nm 4) tTrue (eBinS (dIn false) (eVar 4) (eC (.str "-/0123456789"))) [4]) aNil)))))) (sRet (eC .non)) sNop)
    (sSeq (sIf (tOr' (tB (eBinS (dIn false) (eC (.str "-")) (eSl (eVar 0) (oSome (eC (.int 1))) oNone))) (tB (eBin dEq (eBinS ixD (eVar 1) (eC (.int 0))) (eC (.str "-"))))) (sRet (eC .non)) sNop)
    (sSeq (sSet 2 (eBinS dAddS (eLc (iSeq (eVar 1)) (.nm 3) tTrue (eCa fIntS (aCons (eVar 3) aNil)) [3]) (eLst (aCons (eC (.int 1)) aNil))))
    (sSeq (sIf (tOr' (tB (eBin dLt (eBinS ixD (eVar 2) (eC (.int 1))) (eC (.int 1)))) (tB (eBin dNe (eCall (m__law_text N) (nA 1 (aCons (eCall (C.m__law_r N) (nA 2 (aCons (eBinS ixD (eVar 2) (eC (.int 0))) (aCons (eBinS ixD (eVar 2) (eC (.int 1))) aNil)))) aNil))) (eVar 0)))) (sRet (eC .non)) sNop)
    (sRet (eCall (C.m__law_r N) (nA 2 (aCons (eBinS ixD (eVar 2) (eC (.int 0))) (aCons (eBinS ixD (eVar 2) (eC (.int 1))) aNil)))))))))))
def m__law_due (N : Nat) : FM := fnM 5 (b__law_due N)
def b_is_number (N : Nat) : SM := (sRet (eAn (eBin dNe (eVar 0) (eC (.str ""))) (eCa fAll (aCons (eLc (iStrM (eVar 0)) (.nm 1) tTrue (eBinS (dIn false) (eVar 1) (eC (.str "0123456789"))) [1]) aNil))))
def m_is_number (N : Nat) : FM := fnM 2 (b_is_number N)
def b_read_ratio (N : Nat) : SM := (sSeq (sIf (tNt (tT (eIsTy .str (eVar 0)))) (sRaiseF 4 4 (eC (.int 0))) sNop)
    (sSeq (sSet 1 (eBin dEq (eSl (eVar 0) oNone (oSome (eC (.int 1)))) (eC (.str "-"))))
    (sSeq (sAsg (eTm fPart (eSl (eVar 0) (oSome (eCa fIntS (aCons (eVar 1) aNil))) oNone) (aCons (eC (.str "/")) aNil)) (gTp 3 (gsCons' (gN 2) (gsCons' (gN 3) (gsCons' (gN 4) gsNil)))))
    (sSeq (sIf (tOr' (tNt (tT (eCall (m_is_number N) (nA 1 (aCons (eVar 2) aNil))))) (tAn (tB (eBin dNe (eVar 3) (eC (.str "")))) (tOr' (tNt (tT (eCall (m_is_number N) (nA 1 (aCons (eVar 4) aNil))))) (tB (eBin dEq (eCa fIntS (aCons (eVar 4) aNil)) (eC (.int 0))))))) (sRaiseF 4 4 (eC (.int 0))) sNop)
    (sSeq (sSet 5 (eCall (C.m_lowest N) (nA 2 (aCons (eBin dMul (eCa fIntS (aCons (eVar 2) aNil)) (eBinS ixD (eLst (aCons (eC (.int 1)) (aCons (eNeg (eC (.int 1))) aNil))) (eCa fIntS (aCons (eVar 1) aNil)))) (aCons (eCa fIntS (aCons (eOr (eVar 4) (eC (.str "1"))) aNil)) aNil)))))
    (sSeq (sIf (tB (eBin dNe (eCall (C.m_show_ratio N) (nA 1 (aCons (eVar 5) aNil))) (eVar 0))) (sRaiseF 4 4 (eC (.int 0))) sNop)
    (sRet (eVar 5))))))))
def m_read_ratio (N : Nat) : FM := fnM 6 (b_read_ratio N)
def b__law_read_right (N : Nat) : SM := (sSeq (sPar 1 2 (aCons (eCall (m__law_due N) (nA 1 (aCons (eVar 0) aNil))) (aCons (eCallH (fun fv cp fk => m__law_caught fv cp fk N) [0] (lamF [0] 0 (eCall (m_read_ratio N) (nA 1 (aCons (eVar 0) aNil)))) (tbS 1 mk__law_read_right.1 mk__law_read_right.2) 0 aNil) aNil)))
    (sSeq (sIf (tB (eBin dIsNot (eVar 1) (eC .non))) (sRet (eAn (eBin dIs (eVar 2) (eC .non)) (eBin dEq (eCall (m_read_ratio N) (nA 1 (aCons (eVar 0) aNil))) (eVar 1)))) sNop)
    (sSeq (sIf (tOr' (tB (eBin dIs (eVar 2) (eC .non))) (tB (eBin dNe (eCall (m__law_kinds N) (nA 1 (aCons (eVar 2) aNil))) (eLst (aCons (eC (.str "text")) aNil))))) (sRet (eC (.bl false))) sNop)
    (sRet (eAn (eBin dEq (eFldY [4, 17, 20] 4 (eVar 2)) (eC (.int 0))) (eNt (eIsTy .bool (eFldY [4, 17, 20] 4 (eVar 2)))))))))
def m__law_read_right (N : Nat) : FM := fnM 3 (b__law_read_right N)
def b_law (N : Nat) : SM := (sSeq (sFor (iRg1 (aCons (eCa fMax (aCons (eC (.int 3)) (aCons (eCa fMin (aCons (eCa fLen (aCons (eVar 0) aNil)) (aCons (eC (.int 10)) aNil))) aNil))) aNil)) (gN 1) (sSeq (sSet 2 (eCall (C.m__law_pool N) (nA 1 (aCons (eCall (C.m__law_cell N) (nA 2 (aCons (eVar 0) (aCons (eVar 1) aNil)))) aNil))))
    (sFor (iRg1 (aCons (eC (.int 4)) aNil)) (gN 3) (sSeq (sAsg (eTup (aCons (eCall (m__law_ratio N) (nA 1 (aCons (eVar 2) aNil))) (aCons (eCall (m__law_ratio N) (nA 1 (aCons (eVar 2) aNil))) aNil))) (gTp 2 (gsCons' (gN 4) (gsCons' (gN 5) gsNil))))
    (sSeq (sSet 6 (eCall (m__law_odd N) (nA 1 (aCons (eVar 2) aNil))))
    (sSeq (sSet 7 (eBinS ixD (eLst (aCons (eC (.str "nought")) (aCons (eC (.str "told")) aNil))) (eCa fInt (aCons (eBin dNe (eBinS ixD (eVar 5) (eC (.int 0))) (eC (.int 0))) aNil))))
    (sSeq (sIf (tB (eBinS dNeS (eCall (m__law_deeds N) (nA 2 (aCons (eVar 4) (aCons (eVar 5) aNil)))) (eBinS dAddS (eBin dMulL (eLst (aCons (eC (.str "told")) aNil)) (eC (.int 5))) (eLst (aCons (eVar 7) aNil))))) (sRet (eC (.bl false))) sNop)
    (sSeq (sIf (tB (eBinS dNeS (eCall (m__law_deeds N) (nA 2 (aCons (eVar 4) (aCons (eTup (aCons (eC (.int 0)) (aCons (eC (.int 1)) aNil))) aNil)))) (eBinS dAddS (eBin dMulL (eLst (aCons (eC (.str "told")) aNil)) (eC (.int 5))) (eLst (aCons (eC (.str "nought")) aNil))))) (sRet (eC (.bl false))) sNop)
    (sSeq (sSet 8 (eLst (aCons (eTup (aCons (eVar 6) (aCons (eVar 5) aNil))) (aCons (eTup (aCons (eVar 4) (aCons (eVar 6) aNil))) (aCons (eTup (aCons (eVar 6) (aCons (eVar 6) aNil))) (aCons (eTup (aCons (eVar 6) (aCons (eTup (aCons (eC (.int 0)) (aCons (eC (.int 1)) aNil))) aNil))) aNil))))))
    (sSeq (sFor (iSeq (eVar 8)) (gTp 2 (gsCons' (gN 9) (gsCons' (gN 10) gsNil))) (sIf (tB (eBinS dNeS (eCall (m__law_deeds N) (nA 2 (aCons (eVar 9) (aCons (eVar 10) aNil)))) (eBin dMulL (eLst (aCons (eC (.str "ratio")) aNil)) (eC (.int 6))))) (sRet (eC (.bl false))) sNop))
    (sSeq (sIf (tB (eBin dNe (eCallH (fun fv cp fk => m__law_word fv cp fk N) [6] (lamF [6] 0 (eCall (C.m_show_ratio N) (nA 1 (aCons (eVar 0) aNil)))) (tbS 2 mk_law.1 mk_law.2) 0 aNil) (eC (.str "ratio")))) (sRet (eC (.bl false))) sNop)
    (sSeq (sIf (tB (eBin dNe (eCallH (fun fv cp fk => m__law_word fv cp fk N) [4] (lamF [4] 0 (eCall (C.m_show_ratio N) (nA 1 (aCons (eVar 0) aNil)))) (tbS 2 mk_law.1 mk_law.2) 0 aNil) (eC (.str "told")))) (sRet (eC (.bl false))) sNop)
    (sSeq (sSet 11 (eBinS ixD (eLst (aCons (eC .non) (aCons (eC (.bl true)) (aCons (eC (.str "1")) (aCons (eTup (aCons (eC (.int 1)) aNil)) (aCons (eLst (aCons (eC (.int 1)) aNil)) (aCons (eC (.dic [] [])) (aCons (eTup aNil) (aCons (eC (.bl false)) aNil))))))))) (eCall (C.m__law_take N) (nA 2 (aCons (eVar 2) (aCons (eC (.int 8)) aNil))))))
    (sSeq (sFor (iSeq (eLst (aCons (eTup (aCons (eVar 11) (aCons (eC (.int 1)) aNil))) (aCons (eTup (aCons (eC (.int 1)) (aCons (eVar 11) aNil))) (aCons (eTup (aCons (eVar 11) (aCons (eVar 11) aNil))) (aCons (eTup (aCons (eVar 11) (aCons (eC (.int 0)) aNil))) (aCons (eTup (aCons (eC (.int 5)) (aCons (eC (.int 0)) aNil))) aNil))))))) (gTp 2 (gsCons' (gN 12) (gsCons' (gN 13) gsNil))) (sIf (tB (eBin dNe (eCallH (fun fv cp fk => m__law_word fv cp fk N) [12, 13] (lamF [12, 13] 0 (eCall (C.m_ratio N) (nA 2 (aCons (eVar 0) (aCons (eVar 1) aNil))))) (tbS 2 mk_law.1 mk_law.2) 0 aNil) (eC (.str "ratio")))) (sRet (eC (.bl false))) sNop))
    (sSeq (sIf (tB (eBin dNe (eCallH (fun fv cp fk => m__law_word fv cp fk N) [11] (lamF [11] 0 (eCallK (C.m_ratio N) C.g_ratio_1_ 1 0 (aCons (eVar 0) aNil) aNil)) (tbS 2 mk_law.1 mk_law.2) 0 aNil) (eC (.str "ratio")))) (sRet (eC (.bl false))) sNop)
    (sSeq (sIf (tB (eBin dNe (eCallH (fun fv cp fk => m__law_word fv cp fk N) [] (lamF [] 0 (eCall (C.m_ratio N) (nA 2 (aCons (eC (.int 6)) (aCons (eNeg (eC (.int 4))) aNil))))) (tbS 2 mk_law.1 mk_law.2) 0 aNil) (eC (.str "told")))) (sRet (eC (.bl false))) sNop)
    (sSeq (sSet 14 (eCall (m__law_text N) (nA 1 (aCons (eVar 4) aNil))))
    (sSeq (sSet 15 (eCall (C.m__law_take N) (nA 2 (aCons (eVar 2) (aCons (eBinS dAddS (eCa fLen (aCons (eVar 14) aNil)) (eC (.int 1))) aNil)))))
    (sSeq (sSet 16 (eBinS ixD (eC (.str "0123456789/- +.")) (eCall (C.m__law_take N) (nA 2 (aCons (eVar 2) (aCons (eC (.int 15)) aNil))))))
    (sSeq (sSet 17 (eNew (aCons (eVar 14) (aCons (eBinS dAddS (eBinS dAddS (eSl (eVar 14) oNone (oSome (eVar 15))) (eVar 16)) (eSl (eVar 14) (oSome (eVar 15)) oNone)) (aCons (eBinS dAddS (eSl (eVar 14) oNone (oSome (eVar 15))) (eSl (eVar 14) (oSome (eBinS dAddS (eVar 15) (eC (.int 1)))) oNone)) aNil)))))
    (sSeq (sDrop (eApp (eVar 17) (aCons (eBinS dAddS (eBinS dAddS (eSl (eVar 14) oNone (oSome (eVar 15))) (eVar 16)) (eSl (eVar 14) (oSome (eBinS dAddS (eVar 15) (eC (.int 1)))) oNone)) aNil)))
    (sFor (iSeq (eBinS dAddS (eVar 17) (eLst (aCons (eBinS dAddS (eC (.str "0")) (eVar 14)) (aCons (eBinS dAddS (eVar 14) (eC (.str "/1"))) (aCons (eC (.str "-0")) (aCons (eC (.str "0/1")) (aCons (eC (.str "1_0")) (aCons (eBinS dAddS (eC (.str " ")) (eVar 14)) (aCons (eVar 11) (aCons (eVar 6) (aCons (eC (.str "")) aNil)))))))))))) (gN 18) (sIf (tNt (tT (eCall (m__law_read_right N) (nA 1 (aCons (eVar 18) aNil))))) (sRet (eC (.bl false))) sNop)))))))))))))))))))))))
    (sRet (eC (.bl true))))
def m_law (N : Nat) : FM := fnM 19 (b_law N)
structure Txt (K : PySem.W.Frag) (mg : Str → Option Value) (base : Heap) : Prop where
  tb : TBs K mg base tsL
  fe__law_deeds : ∀ f, mg "_law_deeds" = some (.ref f) → f = He.fAd K mk__law_deeds.1
  fe__law_read_right : ∀ f, mg "_law_read_right" = some (.ref f) → f = He.fAd K mk__law_read_right.1
  fe_law : ∀ f, mg "law" = some (.ref f) → f = He.fAd K mk_law.1
  b_ArithmeticError : mg "ArithmeticError" = none
  b_LookupError : mg "LookupError" = none
  b_ValueError : mg "ValueError" = none
  b_abs : mg "abs" = none
  b_all : mg "all" = none
  b_bool : mg "bool" = none
  b_divmod : mg "divmod" = none
  b_int : mg "int" = none
  b_isinstance : mg "isinstance" = none
  b_len : mg "len" = none
  b_max : mg "max" = none
  b_min : mg "min" = none
  b_range : mg "range" = none
  b_str : mg "str" = none
  b_tuple : mg "tuple" = none
  f__law_cell : ∃ f fd, mg "_law_cell" = some (.ref f) ∧ FunD K "_law_cell" "_law_cell" (defArgs s__law_cell) (defBody s__law_cell) (defScope s__law_cell) [] [] f fd
  f__law_caught : ∃ f fd, mg "_law_caught" = some (.ref f) ∧ FunD K "_law_caught" "_law_caught" (defArgs s__law_caught) (defBody s__law_caught) (defScope s__law_caught) [] [] f fd
  f__law_kinds : ∃ f fd, mg "_law_kinds" = some (.ref f) ∧ FunD K "_law_kinds" "_law_kinds" (defArgs s__law_kinds) (defBody s__law_kinds) (defScope s__law_kinds) [] [] f fd
  f__law_word : ∃ f fd, mg "_law_word" = some (.ref f) ∧ FunD K "_law_word" "_law_word" (defArgs s__law_word) (defBody s__law_word) (defScope s__law_word) [] [] f fd
  f_is_whole : ∃ f fd, mg "is_whole" = some (.ref f) ∧ FunD K "is_whole" "is_whole" (defArgs s_is_whole) (defBody s_is_whole) (defScope s_is_whole) [] [] f fd
  f_shared : ∃ f fd, mg "shared" = some (.ref f) ∧ FunD K "shared" "shared" (defArgs s_shared) (defBody s_shared) (defScope s_shared) [] [] f fd
  f_is_ratio : ∃ f fd, mg "is_ratio" = some (.ref f) ∧ FunD K "is_ratio" "is_ratio" (defArgs s_is_ratio) (defBody s_is_ratio) (defScope s_is_ratio) [] [] f fd
  f_check_ratio : ∃ f fd, mg "check_ratio" = some (.ref f) ∧ FunD K "check_ratio" "check_ratio" (defArgs s_check_ratio) (defBody s_check_ratio) (defScope s_check_ratio) [] [] f fd
  f_check_two : ∃ f fd, mg "check_two" = some (.ref f) ∧ FunD K "check_two" "check_two" (defArgs s_check_two) (defBody s_check_two) (defScope s_check_two) [] [] f fd
  f_lowest : ∃ f fd, mg "lowest" = some (.ref f) ∧ FunD K "lowest" "lowest" (defArgs s_lowest) (defBody s_lowest) (defScope s_lowest) [] [] f fd
  f_added : ∃ f fd, mg "added" = some (.ref f) ∧ FunD K "added" "added" (defArgs s_added) (defBody s_added) (defScope s_added) [] [] f fd
  f_is_before : ∃ f fd, mg "is_before" = some (.ref f) ∧ FunD K "is_before" "is_before" (defArgs s_is_before) (defBody s_is_before) (defScope s_is_before) [] [] f fd
  f_greater : ∃ f fd, mg "greater" = some (.ref f) ∧ FunD K "greater" "greater" (defArgs s_greater) (defBody s_greater) (defScope s_greater) [] [] f fd
  f_lowered : ∃ f fd, mg "lowered" = some (.ref f) ∧ FunD K "lowered" "lowered" (defArgs s_lowered) (defBody s_lowered) (defScope s_lowered) [] [] f fd
  f_ratio : ∃ f fd, mg "ratio" = some (.ref f) ∧ FunD K "ratio" "ratio" (defArgs s_ratio) (defBody s_ratio) (defScope s_ratio) [(.int 1)] [] f fd
  f_parted : ∃ f fd, mg "parted" = some (.ref f) ∧ FunD K "parted" "parted" (defArgs s_parted) (defBody s_parted) (defScope s_parted) [] [] f fd
  f_scaled : ∃ f fd, mg "scaled" = some (.ref f) ∧ FunD K "scaled" "scaled" (defArgs s_scaled) (defBody s_scaled) (defScope s_scaled) [] [] f fd
  f__law_deeds : ∃ f fd, mg "_law_deeds" = some (.ref f) ∧ FunD K "_law_deeds" "_law_deeds" (defArgs s__law_deeds) (defBody s__law_deeds) (defScope s__law_deeds) [] [] f fd
  f__law_take : ∃ f fd, mg "_law_take" = some (.ref f) ∧ FunD K "_law_take" "_law_take" (defArgs s__law_take) (defBody s__law_take) (defScope s__law_take) [] [] f fd
  f__law_odd : ∃ f fd, mg "_law_odd" = some (.ref f) ∧ FunD K "_law_odd" "_law_odd" (defArgs s__law_odd) (defBody s__law_odd) (defScope s__law_odd) [] [] f fd
  f__law_pool : ∃ f fd, mg "_law_pool" = some (.ref f) ∧ FunD K "_law_pool" "_law_pool" (defArgs s__law_pool) (defBody s__law_pool) (defScope s__law_pool) [] [] f fd
  f__law_r : ∃ f fd, mg "_law_r" = some (.ref f) ∧ FunD K "_law_r" "_law_r" (defArgs s__law_r) (defBody s__law_r) (defScope s__law_r) [] [] f fd
  f__law_ratio : ∃ f fd, mg "_law_ratio" = some (.ref f) ∧ FunD K "_law_ratio" "_law_ratio" (defArgs s__law_ratio) (defBody s__law_ratio) (defScope s__law_ratio) [] [] f fd
  f__law_text : ∃ f fd, mg "_law_text" = some (.ref f) ∧ FunD K "_law_text" "_law_text" (defArgs s__law_text) (defBody s__law_text) (defScope s__law_text) [] [] f fd
  f__law_due : ∃ f fd, mg "_law_due" = some (.ref f) ∧ FunD K "_law_due" "_law_due" (defArgs s__law_due) (defBody s__law_due) (defScope s__law_due) [] [] f fd
  f_is_number : ∃ f fd, mg "is_number" = some (.ref f) ∧ FunD K "is_number" "is_number" (defArgs s_is_number) (defBody s_is_number) (defScope s_is_number) [] [] f fd
  f_show_ratio : ∃ f fd, mg "show_ratio" = some (.ref f) ∧ FunD K "show_ratio" "show_ratio" (defArgs s_show_ratio) (defBody s_show_ratio) (defScope s_show_ratio) [] [] f fd
  f_read_ratio : ∃ f fd, mg "read_ratio" = some (.ref f) ∧ FunD K "read_ratio" "read_ratio" (defArgs s_read_ratio) (defBody s_read_ratio) (defScope s_read_ratio) [] [] f fd
  f__law_read_right : ∃ f fd, mg "_law_read_right" = some (.ref f) ∧ FunD K "_law_read_right" "_law_read_right" (defArgs s__law_read_right) (defBody s__law_read_right) (defScope s__law_read_right) [] [] f fd
  f_law : ∃ f fd, mg "law" = some (.ref f) ∧ FunD K "law" "law" (defArgs s_law) (defBody s_law) (defScope s_law) [] [] f fd
  c_FIGURES : ∃ t, mg "FIGURES" = some (.str "0123456789" t)
  x_NoRatio : ∃ C, mg "NoRatio" = some (.ref C) ∧ XcO K C bmValueError "ValueError.__new__"
  x_Nought : ∃ C, mg "Nought" = some (.ref C) ∧ XcO K C bmArithmeticError "ArithmeticError.__new__"
  y_NoText : ∃ C fI fd Bc, mg "NoText" = some (.ref C) ∧ XoC K C "ValueError.__new__" bmValueError ∧ PySem.W.findIn K (.ref C) "__init__" = some (some (.ref fI)) ∧ PySem.W.typeIn K (.ref fI) = some (.type "function") ∧ PySem.W.findIn K (.ref C) "row" = some none ∧ mg "TagError" = some (.ref Bc) ∧ HdC K Bc "ValueError.__init__" ∧ FunD K "__init__" "NoText.__init__" (defArgs s_NoText___init__) (defBody s_NoText___init__) (defScope s_NoText___init__) [] [] fI fd
  z_row : XcF K mg [4, 17, 20] 4
  x_Full : ∃ C, mg "Full" = some (.ref C)
  x_LostError : ∃ C, mg "LostError" = some (.ref C)
  x_NoAsk : ∃ C, mg "NoAsk" = some (.ref C)
  x_NoClient : ∃ C, mg "NoClient" = some (.ref C)
  x_NoDeeds : ∃ C, mg "NoDeeds" = some (.ref C)
  x_NoLeast : ∃ C, mg "NoLeast" = some (.ref C)
  x_NoLeasts : ∃ C, mg "NoLeasts" = some (.ref C)
  x_NoLess : ∃ C, mg "NoLess" = some (.ref C)
  x_NoLog : ∃ C, mg "NoLog" = some (.ref C)
  x_NoName : ∃ C, mg "NoName" = some (.ref C)
  x_NoNumber : ∃ C, mg "NoNumber" = some (.ref C)
  x_NoOne : ∃ C, mg "NoOne" = some (.ref C)
  x_NoPlace : ∃ C, mg "NoPlace" = some (.ref C)
  x_NoPlan : ∃ C, mg "NoPlan" = some (.ref C)
  x_NoRate : ∃ C, mg "NoRate" = some (.ref C)
  x_NoRivals : ∃ C, mg "NoRivals" = some (.ref C)
  x_NoRow : ∃ C, mg "NoRow" = some (.ref C)
  x_NoSize : ∃ C, mg "NoSize" = some (.ref C)
  x_NoStretch : ∃ C, mg "NoStretch" = some (.ref C)
  x_NoTags : ∃ C, mg "NoTags" = some (.ref C)
  x_NoText : ∃ C, mg "NoText" = some (.ref C)
  x_NoTime : ∃ C, mg "NoTime" = some (.ref C)
  x_NoTruth : ∃ C, mg "NoTruth" = some (.ref C)
  x_NoWeight : ∃ C, mg "NoWeight" = some (.ref C)
  x_NoWord : ∃ C, mg "NoWord" = some (.ref C)
  x_Past : ∃ C, mg "Past" = some (.ref C)
  x_ShareError : ∃ C, mg "ShareError" = some (.ref C)
  x_Stands : ∃ C, mg "Stands" = some (.ref C)
  x_TagError : ∃ C, mg "TagError" = some (.ref C)
  x_TooMany : ∃ C, mg "TooMany" = some (.ref C)
  x_TooMuch : ∃ C, mg "TooMuch" = some (.ref C)
  tb_ArithmeticError : ∀ cn C q, tbR rsL 102 cn = some q → mg (cname cn) = some (.ref C) → ExcC K C ∧ PySem.W.kitOne K (.ref C) (.type "ArithmeticError") = some q
  tb_Full : ∀ D, mg "Full" = some (.ref D) → ∀ cn C q, tbR rsL 31 cn = some q → mg (cname cn) = some (.ref C) → ExcC K C ∧ PySem.W.kitOne K (.ref C) (.ref D) = some q
  tb_LookupError : ∀ cn C q, tbR rsL 101 cn = some q → mg (cname cn) = some (.ref C) → ExcC K C ∧ PySem.W.kitOne K (.ref C) (.type "LookupError") = some q
  tb_LostError : ∀ D, mg "LostError" = some (.ref D) → ∀ cn C q, tbR rsL 1 cn = some q → mg (cname cn) = some (.ref C) → ExcC K C ∧ PySem.W.kitOne K (.ref C) (.ref D) = some q
  tb_NoAsk : ∀ D, mg "NoAsk" = some (.ref D) → ∀ cn C q, tbR rsL 25 cn = some q → mg (cname cn) = some (.ref C) → ExcC K C ∧ PySem.W.kitOne K (.ref C) (.ref D) = some q
  tb_NoClient : ∀ D, mg "NoClient" = some (.ref D) → ∀ cn C q, tbR rsL 12 cn = some q → mg (cname cn) = some (.ref C) → ExcC K C ∧ PySem.W.kitOne K (.ref C) (.ref D) = some q
  tb_NoDeeds : ∀ D, mg "NoDeeds" = some (.ref D) → ∀ cn C q, tbR rsL 16 cn = some q → mg (cname cn) = some (.ref C) → ExcC K C ∧ PySem.W.kitOne K (.ref C) (.ref D) = some q
  tb_NoLeast : ∀ D, mg "NoLeast" = some (.ref D) → ∀ cn C q, tbR rsL 13 cn = some q → mg (cname cn) = some (.ref C) → ExcC K C ∧ PySem.W.kitOne K (.ref C) (.ref D) = some q
  tb_NoLeasts : ∀ D, mg "NoLeasts" = some (.ref D) → ∀ cn C q, tbR rsL 21 cn = some q → mg (cname cn) = some (.ref C) → ExcC K C ∧ PySem.W.kitOne K (.ref C) (.ref D) = some q
  tb_NoLess : ∀ D, mg "NoLess" = some (.ref D) → ∀ cn C q, tbR rsL 19 cn = some q → mg (cname cn) = some (.ref C) → ExcC K C ∧ PySem.W.kitOne K (.ref C) (.ref D) = some q
  tb_NoLog : ∀ D, mg "NoLog" = some (.ref D) → ∀ cn C q, tbR rsL 17 cn = some q → mg (cname cn) = some (.ref C) → ExcC K C ∧ PySem.W.kitOne K (.ref C) (.ref D) = some q
  tb_NoName : ∀ D, mg "NoName" = some (.ref D) → ∀ cn C q, tbR rsL 5 cn = some q → mg (cname cn) = some (.ref C) → ExcC K C ∧ PySem.W.kitOne K (.ref C) (.ref D) = some q
  tb_NoNumber : ∀ D, mg "NoNumber" = some (.ref D) → ∀ cn C q, tbR rsL 8 cn = some q → mg (cname cn) = some (.ref C) → ExcC K C ∧ PySem.W.kitOne K (.ref C) (.ref D) = some q
  tb_NoOne : ∀ D, mg "NoOne" = some (.ref D) → ∀ cn C q, tbR rsL 24 cn = some q → mg (cname cn) = some (.ref C) → ExcC K C ∧ PySem.W.kitOne K (.ref C) (.ref D) = some q
  tb_NoPlace : ∀ D, mg "NoPlace" = some (.ref D) → ∀ cn C q, tbR rsL 26 cn = some q → mg (cname cn) = some (.ref C) → ExcC K C ∧ PySem.W.kitOne K (.ref C) (.ref D) = some q
  tb_NoPlan : ∀ D, mg "NoPlan" = some (.ref D) → ∀ cn C q, tbR rsL 20 cn = some q → mg (cname cn) = some (.ref C) → ExcC K C ∧ PySem.W.kitOne K (.ref C) (.ref D) = some q
  tb_NoRate : ∀ D, mg "NoRate" = some (.ref D) → ∀ cn C q, tbR rsL 6 cn = some q → mg (cname cn) = some (.ref C) → ExcC K C ∧ PySem.W.kitOne K (.ref C) (.ref D) = some q
  tb_NoRatio : ∀ D, mg "NoRatio" = some (.ref D) → ∀ cn C q, tbR rsL 3 cn = some q → mg (cname cn) = some (.ref C) → ExcC K C ∧ PySem.W.kitOne K (.ref C) (.ref D) = some q
  tb_NoRivals : ∀ D, mg "NoRivals" = some (.ref D) → ∀ cn C q, tbR rsL 14 cn = some q → mg (cname cn) = some (.ref C) → ExcC K C ∧ PySem.W.kitOne K (.ref C) (.ref D) = some q
  tb_NoRow : ∀ D, mg "NoRow" = some (.ref D) → ∀ cn C q, tbR rsL 23 cn = some q → mg (cname cn) = some (.ref C) → ExcC K C ∧ PySem.W.kitOne K (.ref C) (.ref D) = some q
  tb_NoSize : ∀ D, mg "NoSize" = some (.ref D) → ∀ cn C q, tbR rsL 11 cn = some q → mg (cname cn) = some (.ref C) → ExcC K C ∧ PySem.W.kitOne K (.ref C) (.ref D) = some q
  tb_NoStretch : ∀ D, mg "NoStretch" = some (.ref D) → ∀ cn C q, tbR rsL 18 cn = some q → mg (cname cn) = some (.ref C) → ExcC K C ∧ PySem.W.kitOne K (.ref C) (.ref D) = some q
  tb_NoTags : ∀ D, mg "NoTags" = some (.ref D) → ∀ cn C q, tbR rsL 10 cn = some q → mg (cname cn) = some (.ref C) → ExcC K C ∧ PySem.W.kitOne K (.ref C) (.ref D) = some q
  tb_NoText : ∀ D, mg "NoText" = some (.ref D) → ∀ cn C q, tbR rsL 4 cn = some q → mg (cname cn) = some (.ref C) → ExcC K C ∧ PySem.W.kitOne K (.ref C) (.ref D) = some q
  tb_NoTime : ∀ D, mg "NoTime" = some (.ref D) → ∀ cn C q, tbR rsL 9 cn = some q → mg (cname cn) = some (.ref C) → ExcC K C ∧ PySem.W.kitOne K (.ref C) (.ref D) = some q
  tb_NoTruth : ∀ D, mg "NoTruth" = some (.ref D) → ∀ cn C q, tbR rsL 15 cn = some q → mg (cname cn) = some (.ref C) → ExcC K C ∧ PySem.W.kitOne K (.ref C) (.ref D) = some q
  tb_NoWeight : ∀ D, mg "NoWeight" = some (.ref D) → ∀ cn C q, tbR rsL 7 cn = some q → mg (cname cn) = some (.ref C) → ExcC K C ∧ PySem.W.kitOne K (.ref C) (.ref D) = some q
  tb_NoWord : ∀ D, mg "NoWord" = some (.ref D) → ∀ cn C q, tbR rsL 22 cn = some q → mg (cname cn) = some (.ref C) → ExcC K C ∧ PySem.W.kitOne K (.ref C) (.ref D) = some q
  tb_Nought : ∀ D, mg "Nought" = some (.ref D) → ∀ cn C q, tbR rsL 27 cn = some q → mg (cname cn) = some (.ref C) → ExcC K C ∧ PySem.W.kitOne K (.ref C) (.ref D) = some q
  tb_Past : ∀ D, mg "Past" = some (.ref D) → ∀ cn C q, tbR rsL 32 cn = some q → mg (cname cn) = some (.ref C) → ExcC K C ∧ PySem.W.kitOne K (.ref C) (.ref D) = some q
  tb_ShareError : ∀ D, mg "ShareError" = some (.ref D) → ∀ cn C q, tbR rsL 2 cn = some q → mg (cname cn) = some (.ref C) → ExcC K C ∧ PySem.W.kitOne K (.ref C) (.ref D) = some q
  tb_Stands : ∀ D, mg "Stands" = some (.ref D) → ∀ cn C q, tbR rsL 28 cn = some q → mg (cname cn) = some (.ref C) → ExcC K C ∧ PySem.W.kitOne K (.ref C) (.ref D) = some q
  tb_TagError : ∀ D, mg "TagError" = some (.ref D) → ∀ cn C q, tbR rsL 0 cn = some q → mg (cname cn) = some (.ref C) → ExcC K C ∧ PySem.W.kitOne K (.ref C) (.ref D) = some q
  tb_TooMany : ∀ D, mg "TooMany" = some (.ref D) → ∀ cn C q, tbR rsL 29 cn = some q → mg (cname cn) = some (.ref C) → ExcC K C ∧ PySem.W.kitOne K (.ref C) (.ref D) = some q
  tb_TooMuch : ∀ D, mg "TooMuch" = some (.ref D) → ∀ cn C q, tbR rsL 30 cn = some q → mg (cname cn) = some (.ref C) → ExcC K C ∧ PySem.W.kitOne K (.ref C) (.ref D) = some q
  tb_ValueError : ∀ cn C q, tbR rsL 100 cn = some q → mg (cname cn) = some (.ref C) → ExcC K C ∧ PySem.W.kitOne K (.ref C) (.type "ValueError") = some q
  tx_LostError : ∀ D, mg "LostError" = some (.ref D) → ∀ cn C q, tbR rsL 1 cn = some q → mg (cname cn) = some (.ref C) → PySem.W.exmOne K (.ref C) (.ref D) = some q
  tx_ShareError : ∀ D, mg "ShareError" = some (.ref D) → ∀ cn C q, tbR rsL 2 cn = some q → mg (cname cn) = some (.ref C) → PySem.W.exmOne K (.ref C) (.ref D) = some q
  tx_TagError : ∀ D, mg "TagError" = some (.ref D) → ∀ cn C q, tbR rsL 0 cn = some q → mg (cname cn) = some (.ref C) → PySem.W.exmOne K (.ref C) (.ref D) = some q
section
variable {P : Program} {w : World} {K : PySem.W.Frag} {mg : Str → Option Value} {base : Heap}
theorem xi_NoText (T : Txt K mg base) : XfI P w K mg base "NoText" "ValueError.__init__" "ValueError.__new__" bmValueError (fname 4) := by
  obtain ⟨C, fI, fd, Bc, h1, h2, h3, h4, h5, h6, h7, F⟩ := T.y_NoText
  refine ⟨C, fI, fd, "self", "row", h1, h2, h3, h4, h5, F.bindsN (ps := ["self", "row"]) fun _ _ _ _ _ _ us hl => match us, hl with | [_, _], _ => rfl, ini_fn F sc_NoText___init__ fun cdv A outer s H E => ?_⟩
  exact pss_ini fam_ValueError h6 h7 (pe_var rfl (Or.inl rfl) (by decide) (by decide)) (pe_var rfl (Or.inl rfl) (by decide) (by decide)) (pe_var rfl (Or.inl rfl) (by decide) (by decide))
theorem fk__law_cell (N : Nat) (T : Txt K mg base) {fa : Addr} {fd : FuncData} (F : FunD K "_law_cell" "_law_cell" (defArgs s__law_cell) (defBody s__law_cell) (defScope s__law_cell) [] [] fa fd) : FnG P w K mg base (0 + 1) fa fd p__law_cell (spM K mg p__law_cell.length (fnM n__law_cell.length (C.b__law_cell N))) := by
  apply def_okD F sc__law_cell
  intro cdv A outer s H E c
  exact (rss_cons (rs_if (rt_cmp om_lt (rv 1) (re_b cm_len rfl T.b_len bt_len (ra_cons (rv 0) ra_nil)) (nomark _)) (rss_one (rs_ret (re_ix (rv 0) (rv 1)))) rss_nil)
      (rss_cons (rs_set (i := 2) c.nd rfl (re_bin om_mod (re_bin om_mul re_int (re_binS om_addS (re_binS om_addS (re_bin om_mul (rv 1) (rv 1)) (re_bin om_mul re_int (rv 1))) re_int)) re_int))
      (rss_cons (rs_for c.po c.calm (ri_e (re_sl (rv 0) ro_none (ro_some re_int))) (rg_name (i := 3) c.nd rfl) (rss_one (rs_set (i := 2) c.nd rfl (re_bin om_mod (re_binS om_addS (re_bin om_mul (rv 2) re_int) (rv 3)) re_int))))
      (rss_one (rs_ret (rv 2))))))
theorem fm__law_cell (N : Nat) (T : Txt K mg base) {fa : Addr} {fd : FuncData} (F : FunD K "_law_cell" "_law_cell" (defArgs s__law_cell) (defBody s__law_cell) (defScope s__law_cell) [] [] fa fd) : FnG P w K mg base 1 fa fd p__law_cell (spM K mg p__law_cell.length (C.m__law_cell N)) := fk__law_cell N T F
theorem ok__law_cell (N : Nat) (T : Txt K mg base) : Df P w K mg base "_law_cell" p__law_cell 1 (C.m__law_cell N) := by
  obtain ⟨fa, fd, g1, F⟩ := T.f__law_cell
  exact ⟨fa, fd, g1, F.kp, F.bindsN (ps := p__law_cell) fun _ _ _ _ _ _ us hl => match us, hl with | [_, _], _ => rfl, fm__law_cell N T F⟩
theorem fk__law_caught (N : Nat) (T : Txt K mg base) {fa : Addr} {fd : FuncData} (F : FunD K "_law_caught" "_law_caught" (defArgs s__law_caught) (defBody s__law_caught) (defScope s__law_caught) [] [] fa fd) : FnH P w K mg base 7 fa fd n__law_caught "_law_caught" (defScope s__law_caught) p__law_caught "_law_deed" 0 (fun fv cp fk => m__law_caught fv cp fk N) := by
  obtain ⟨C_LostError, g_LostError⟩ := T.x_LostError
  obtain ⟨C_ShareError, g_ShareError⟩ := T.x_ShareError
  obtain ⟨C_TagError, g_TagError⟩ := T.x_TagError
  refine def_okH (m := fun fv cp fk => b__law_caught fv cp fk N) F sc__law_caught (by decide) (ph_by (by decide +kernel)) ?_
  intro cdv A outer s H E fv cp fk c act
  exact (rss_cons (rs_tryG c (fun _ _ _ c => (rss_one (rs_expr (act.zero c (Nat.le_refl _))))) (.as (test_one ⟨rfl, by decide, .inl g_TagError⟩) (.cons (T.tx_TagError _ g_TagError) .nil) rfl rfl (fun _ _ => (rss_one (rs_ret (rv 1)))) (.as (test_one ⟨rfl, by decide, .inl g_LostError⟩) (.cons (T.tx_LostError _ g_LostError) .nil) rfl rfl (fun _ _ => (rss_one (rs_ret (rv 1)))) (.as (test_one ⟨rfl, by decide, .inl g_ShareError⟩) (.cons (T.tx_ShareError _ g_ShareError) .nil) rfl rfl (fun _ _ => (rss_one (rs_ret (rv 1)))) .nil))))
      (rss_one (rs_ret re_non)))
theorem oh__law_caught (N : Nat) (T : Txt K mg base) : Dh P w K mg base "_law_caught" p__law_caught 7 (fun fv cp fk => m__law_caught fv cp fk N) := by
  obtain ⟨fa, fd, g1, F⟩ := T.f__law_caught
  exact ⟨fa, fd, n__law_caught, _, _, "_law_deed", 0, g1, F.kp, F.bindsN (ps := p__law_caught) fun _ _ _ _ _ _ us hl => match us, hl with | [_], _ => rfl, rfl, Or.inl rfl, by decide, by decide, fk__law_caught N T F⟩
theorem fk__law_kinds (N : Nat) (T : Txt K mg base) {fa : Addr} {fd : FuncData} (F : FunD K "_law_kinds" "_law_kinds" (defArgs s__law_kinds) (defBody s__law_kinds) (defScope s__law_kinds) [] [] fa fd) : FnG P w K mg base (0 + 1) fa fd p__law_kinds (spM K mg p__law_kinds.length (fnM n__law_kinds.length (b__law_kinds N))) := by
  obtain ⟨C_Full, g_Full⟩ := T.x_Full
  obtain ⟨C_LostError, g_LostError⟩ := T.x_LostError
  obtain ⟨C_NoAsk, g_NoAsk⟩ := T.x_NoAsk
  obtain ⟨C_NoClient, g_NoClient⟩ := T.x_NoClient
  obtain ⟨C_NoDeeds, g_NoDeeds⟩ := T.x_NoDeeds
  obtain ⟨C_NoLeast, g_NoLeast⟩ := T.x_NoLeast
  obtain ⟨C_NoLeasts, g_NoLeasts⟩ := T.x_NoLeasts
  obtain ⟨C_NoLess, g_NoLess⟩ := T.x_NoLess
  obtain ⟨C_NoLog, g_NoLog⟩ := T.x_NoLog
  obtain ⟨C_NoName, g_NoName⟩ := T.x_NoName
  obtain ⟨C_NoNumber, g_NoNumber⟩ := T.x_NoNumber
  obtain ⟨C_NoOne, g_NoOne⟩ := T.x_NoOne
  obtain ⟨C_NoPlace, g_NoPlace⟩ := T.x_NoPlace
  obtain ⟨C_NoPlan, g_NoPlan⟩ := T.x_NoPlan
  obtain ⟨C_NoRate, g_NoRate⟩ := T.x_NoRate
  obtain ⟨C_NoRatio, g_NoRatio, x_NoRatio⟩ := T.x_NoRatio
  obtain ⟨C_NoRivals, g_NoRivals⟩ := T.x_NoRivals
  obtain ⟨C_NoRow, g_NoRow⟩ := T.x_NoRow
  obtain ⟨C_NoSize, g_NoSize⟩ := T.x_NoSize
  obtain ⟨C_NoStretch, g_NoStretch⟩ := T.x_NoStretch
  obtain ⟨C_NoTags, g_NoTags⟩ := T.x_NoTags
  obtain ⟨C_NoText, g_NoText⟩ := T.x_NoText
  obtain ⟨C_NoTime, g_NoTime⟩ := T.x_NoTime
  obtain ⟨C_NoTruth, g_NoTruth⟩ := T.x_NoTruth
  obtain ⟨C_NoWeight, g_NoWeight⟩ := T.x_NoWeight
  obtain ⟨C_NoWord, g_NoWord⟩ := T.x_NoWord
  obtain ⟨C_Nought, g_Nought, x_Nought⟩ := T.x_Nought
  obtain ⟨C_Past, g_Past⟩ := T.x_Past
  obtain ⟨C_ShareError, g_ShareError⟩ := T.x_ShareError
  obtain ⟨C_Stands, g_Stands⟩ := T.x_Stands
  obtain ⟨C_TagError, g_TagError⟩ := T.x_TagError
  obtain ⟨C_TooMany, g_TooMany⟩ := T.x_TooMany
  obtain ⟨C_TooMuch, g_TooMuch⟩ := T.x_TooMuch
  apply def_okD F sc__law_kinds
  intro cdv A outer s H E c
  exact (rss_cons (rs_asg (re_tup (ra_cons (re_isY T.b_isinstance (rv 0) (pe_glob (v := .ref C_TagError) rfl g_TagError rfl) (.own _) (T.tb_TagError _ g_TagError)) (ra_cons (re_isY T.b_isinstance (rv 0) (pe_glob (v := .ref C_LostError) rfl g_LostError rfl) (.own _) (T.tb_LostError _ g_LostError)) (ra_cons (re_isY T.b_isinstance (rv 0) (pe_glob (v := .ref C_ShareError) rfl g_ShareError rfl) (.own _) (T.tb_ShareError _ g_ShareError)) ra_nil)))) (rg_tup c.calm (rgs_cons (rg_name (i := 1) c.nd rfl) (rgs_cons (rg_name (i := 2) c.nd rfl) (rgs_cons (rg_name (i := 3) c.nd rfl) rgs_nil)))))
      (rss_cons (rs_set (i := 4) c.nd rfl (re_lst (ra_cons (re_tup (ra_cons re_str (ra_cons (re_isY T.b_isinstance (rv 0) (pe_glob (v := .ref C_NoRatio) rfl g_NoRatio rfl) (.own _) (T.tb_NoRatio _ g_NoRatio)) ra_nil))) (ra_cons (re_tup (ra_cons re_str (ra_cons (re_isY T.b_isinstance (rv 0) (pe_glob (v := .ref C_NoText) rfl g_NoText rfl) (.own _) (T.tb_NoText _ g_NoText)) ra_nil))) ra_nil))))
      (rss_cons (rs_set (i := 4) c.nd rfl (re_binS om_addS (rv 4) (re_lst (ra_cons (re_tup (ra_cons re_str (ra_cons (re_isY T.b_isinstance (rv 0) (pe_glob (v := .ref C_NoName) rfl g_NoName rfl) (.own _) (T.tb_NoName _ g_NoName)) ra_nil))) ra_nil))))
      (rss_cons (rs_set (i := 4) c.nd rfl (re_binS om_addS (rv 4) (re_lst (ra_cons (re_tup (ra_cons re_str (ra_cons (re_isY T.b_isinstance (rv 0) (pe_glob (v := .ref C_NoRate) rfl g_NoRate rfl) (.own _) (T.tb_NoRate _ g_NoRate)) ra_nil))) (ra_cons (re_tup (ra_cons re_str (ra_cons (re_isY T.b_isinstance (rv 0) (pe_glob (v := .ref C_NoWeight) rfl g_NoWeight rfl) (.own _) (T.tb_NoWeight _ g_NoWeight)) ra_nil))) ra_nil)))))
      (rss_cons (rs_set (i := 4) c.nd rfl (re_binS om_addS (rv 4) (re_lst (ra_cons (re_tup (ra_cons re_str (ra_cons (re_isY T.b_isinstance (rv 0) (pe_glob (v := .ref C_NoNumber) rfl g_NoNumber rfl) (.own _) (T.tb_NoNumber _ g_NoNumber)) ra_nil))) (ra_cons (re_tup (ra_cons re_str (ra_cons (re_isY T.b_isinstance (rv 0) (pe_glob (v := .ref C_NoTime) rfl g_NoTime rfl) (.own _) (T.tb_NoTime _ g_NoTime)) ra_nil))) ra_nil)))))
      (rss_cons (rs_set (i := 4) c.nd rfl (re_binS om_addS (rv 4) (re_lst (ra_cons (re_tup (ra_cons re_str (ra_cons (re_isY T.b_isinstance (rv 0) (pe_glob (v := .ref C_NoTags) rfl g_NoTags rfl) (.own _) (T.tb_NoTags _ g_NoTags)) ra_nil))) ra_nil))))
      (rss_cons (rs_set (i := 4) c.nd rfl (re_binS om_addS (rv 4) (re_lst (ra_cons (re_tup (ra_cons re_str (ra_cons (re_isY T.b_isinstance (rv 0) (pe_glob (v := .ref C_NoSize) rfl g_NoSize rfl) (.own _) (T.tb_NoSize _ g_NoSize)) ra_nil))) (ra_cons (re_tup (ra_cons re_str (ra_cons (re_isY T.b_isinstance (rv 0) (pe_glob (v := .ref C_NoClient) rfl g_NoClient rfl) (.own _) (T.tb_NoClient _ g_NoClient)) ra_nil))) ra_nil)))))
      (rss_cons (rs_set (i := 4) c.nd rfl (re_binS om_addS (rv 4) (re_lst (ra_cons (re_tup (ra_cons re_str (ra_cons (re_isY T.b_isinstance (rv 0) (pe_glob (v := .ref C_NoLeast) rfl g_NoLeast rfl) (.own _) (T.tb_NoLeast _ g_NoLeast)) ra_nil))) (ra_cons (re_tup (ra_cons re_str (ra_cons (re_isY T.b_isinstance (rv 0) (pe_glob (v := .ref C_NoRivals) rfl g_NoRivals rfl) (.own _) (T.tb_NoRivals _ g_NoRivals)) ra_nil))) ra_nil)))))
      (rss_cons (rs_set (i := 4) c.nd rfl (re_binS om_addS (rv 4) (re_lst (ra_cons (re_tup (ra_cons re_str (ra_cons (re_isY T.b_isinstance (rv 0) (pe_glob (v := .ref C_NoTruth) rfl g_NoTruth rfl) (.own _) (T.tb_NoTruth _ g_NoTruth)) ra_nil))) (ra_cons (re_tup (ra_cons re_str (ra_cons (re_isY T.b_isinstance (rv 0) (pe_glob (v := .ref C_NoDeeds) rfl g_NoDeeds rfl) (.own _) (T.tb_NoDeeds _ g_NoDeeds)) ra_nil))) ra_nil)))))
      (rss_cons (rs_set (i := 4) c.nd rfl (re_binS om_addS (rv 4) (re_lst (ra_cons (re_tup (ra_cons re_str (ra_cons (re_isY T.b_isinstance (rv 0) (pe_glob (v := .ref C_NoLog) rfl g_NoLog rfl) (.own _) (T.tb_NoLog _ g_NoLog)) ra_nil))) ra_nil))))
      (rss_cons (rs_set (i := 4) c.nd rfl (re_binS om_addS (rv 4) (re_lst (ra_cons (re_tup (ra_cons re_str (ra_cons (re_isY T.b_isinstance (rv 0) (pe_glob (v := .ref C_NoStretch) rfl g_NoStretch rfl) (.own _) (T.tb_NoStretch _ g_NoStretch)) ra_nil))) (ra_cons (re_tup (ra_cons re_str (ra_cons (re_isY T.b_isinstance (rv 0) (pe_glob (v := .ref C_NoLess) rfl g_NoLess rfl) (.own _) (T.tb_NoLess _ g_NoLess)) ra_nil))) ra_nil)))))
      (rss_cons (rs_set (i := 4) c.nd rfl (re_binS om_addS (rv 4) (re_lst (ra_cons (re_tup (ra_cons re_str (ra_cons (re_isY T.b_isinstance (rv 0) (pe_glob (v := .ref C_NoPlan) rfl g_NoPlan rfl) (.own _) (T.tb_NoPlan _ g_NoPlan)) ra_nil))) ra_nil))))
      (rss_cons (rs_set (i := 4) c.nd rfl (re_binS om_addS (rv 4) (re_lst (ra_cons (re_tup (ra_cons re_str (ra_cons (re_isY T.b_isinstance (rv 0) (pe_glob (v := .ref C_NoLeasts) rfl g_NoLeasts rfl) (.own _) (T.tb_NoLeasts _ g_NoLeasts)) ra_nil))) (ra_cons (re_tup (ra_cons re_str (ra_cons (re_isY T.b_isinstance (rv 0) (pe_glob (v := .ref C_NoWord) rfl g_NoWord rfl) (.own _) (T.tb_NoWord _ g_NoWord)) ra_nil))) ra_nil)))))
      (rss_cons (rs_set (i := 4) c.nd rfl (re_binS om_addS (rv 4) (re_lst (ra_cons (re_tup (ra_cons re_str (ra_cons (re_isY T.b_isinstance (rv 0) (pe_glob (v := .ref C_NoRow) rfl g_NoRow rfl) (.own _) (T.tb_NoRow _ g_NoRow)) ra_nil))) ra_nil))))
      (rss_cons (rs_set (i := 5) c.nd rfl (re_lst (ra_cons (re_tup (ra_cons re_str (ra_cons (re_isY T.b_isinstance (rv 0) (pe_glob (v := .ref C_NoOne) rfl g_NoOne rfl) (.own _) (T.tb_NoOne _ g_NoOne)) ra_nil))) (ra_cons (re_tup (ra_cons re_str (ra_cons (re_isY T.b_isinstance (rv 0) (pe_glob (v := .ref C_NoAsk) rfl g_NoAsk rfl) (.own _) (T.tb_NoAsk _ g_NoAsk)) ra_nil))) ra_nil))))
      (rss_cons (rs_set (i := 5) c.nd rfl (re_binS om_addS (rv 5) (re_lst (ra_cons (re_tup (ra_cons re_str (ra_cons (re_isY T.b_isinstance (rv 0) (pe_glob (v := .ref C_NoPlace) rfl g_NoPlace rfl) (.own _) (T.tb_NoPlace _ g_NoPlace)) ra_nil))) ra_nil))))
      (rss_cons (rs_set (i := 6) c.nd rfl (re_lst (ra_cons (re_tup (ra_cons re_str (ra_cons (re_isY T.b_isinstance (rv 0) (pe_glob (v := .ref C_Nought) rfl g_Nought rfl) (.own _) (T.tb_Nought _ g_Nought)) ra_nil))) (ra_cons (re_tup (ra_cons re_str (ra_cons (re_isY T.b_isinstance (rv 0) (pe_glob (v := .ref C_Stands) rfl g_Stands rfl) (.own _) (T.tb_Stands _ g_Stands)) ra_nil))) ra_nil))))
      (rss_cons (rs_set (i := 6) c.nd rfl (re_binS om_addS (rv 6) (re_lst (ra_cons (re_tup (ra_cons re_str (ra_cons (re_isY T.b_isinstance (rv 0) (pe_glob (v := .ref C_TooMany) rfl g_TooMany rfl) (.own _) (T.tb_TooMany _ g_TooMany)) ra_nil))) ra_nil))))
      (rss_cons (rs_set (i := 6) c.nd rfl (re_binS om_addS (rv 6) (re_lst (ra_cons (re_tup (ra_cons re_str (ra_cons (re_isY T.b_isinstance (rv 0) (pe_glob (v := .ref C_TooMuch) rfl g_TooMuch rfl) (.own _) (T.tb_TooMuch _ g_TooMuch)) ra_nil))) (ra_cons (re_tup (ra_cons re_str (ra_cons (re_isY T.b_isinstance (rv 0) (pe_glob (v := .ref C_Full) rfl g_Full rfl) (.own _) (T.tb_Full _ g_Full)) ra_nil))) ra_nil)))))
      (rss_cons (rs_set (i := 6) c.nd rfl (re_binS om_addS (rv 6) (re_lst (ra_cons (re_tup (ra_cons re_str (ra_cons (re_isY T.b_isinstance (rv 0) (pe_glob (v := .ref C_Past) rfl g_Past rfl) (.own _) (T.tb_Past _ g_Past)) ra_nil))) ra_nil))))
      (rss_cons (rs_setLc (i' := 7) [("_law_word_here", 8), ("_law_truth", 9)] c.calm c.nd rfl (ri_e (rv 4)) (blkOk_by (own := [("_law_word_here", 8), ("_law_truth", 9)]) (N := n__law_kinds) (sc := defScope s__law_kinds) (by decide +kernel)) (by decide) (fun _ _ _ _ _ => pg_tup c.calm (pgs_cons (pg_name (i := 8) c.nd rfl (by first | exact Or.inl rfl | exact Or.inr rfl)) (pgs_cons (pg_name (i := 9) c.nd rfl (by first | exact Or.inl rfl | exact Or.inr rfl)) pgs_nil))) (fun _ _ _ _ _ => pts_one (rt_w (rw_and (rt_e (rv 9)) (rw_and (rt_e (rv 1)) (rw_and1 (rt_e (re_isY T.b_isinstance (rv 0) (pe_bltn (v := .ty "ValueError") rfl T.b_ValueError bt_ValueError rfl) (.ty _) (T.tb_ValueError)))))))) (fun _ _ _ _ _ => (rv 8)))
      (rss_cons (rs_set (i := 7) c.nd rfl (re_binS om_addS (rv 7) (re_lc [("_law_word_here", 8), ("_law_truth", 9)] c.calm c.nd (ri_e (rv 5)) (blkOk_by (own := [("_law_word_here", 8), ("_law_truth", 9)]) (N := n__law_kinds) (sc := defScope s__law_kinds) (by decide +kernel)) (by decide) (fun _ _ _ _ _ => pg_tup c.calm (pgs_cons (pg_name (i := 8) c.nd rfl (by first | exact Or.inl rfl | exact Or.inr rfl)) (pgs_cons (pg_name (i := 9) c.nd rfl (by first | exact Or.inl rfl | exact Or.inr rfl)) pgs_nil))) (fun _ _ _ _ _ => pts_one (rt_w (rw_and (rt_e (rv 9)) (rw_and (rt_e (rv 2)) (rw_and1 (rt_e (re_isY T.b_isinstance (rv 0) (pe_bltn (v := .ty "LookupError") rfl T.b_LookupError bt_LookupError rfl) (.ty _) (T.tb_LookupError)))))))) (fun _ _ _ _ _ => (rv 8)))))
      (rss_cons (rs_set (i := 7) c.nd rfl (re_binS om_addS (rv 7) (re_lc [("_law_word_here", 8), ("_law_truth", 9)] c.calm c.nd (ri_e (rv 6)) (blkOk_by (own := [("_law_word_here", 8), ("_law_truth", 9)]) (N := n__law_kinds) (sc := defScope s__law_kinds) (by decide +kernel)) (by decide) (fun _ _ _ _ _ => pg_tup c.calm (pgs_cons (pg_name (i := 8) c.nd rfl (by first | exact Or.inl rfl | exact Or.inr rfl)) (pgs_cons (pg_name (i := 9) c.nd rfl (by first | exact Or.inl rfl | exact Or.inr rfl)) pgs_nil))) (fun _ _ _ _ _ => pts_one (rt_w (rw_and (rt_e (rv 9)) (rw_and (rt_e (rv 3)) (rw_and1 (rt_e (re_isY T.b_isinstance (rv 0) (pe_bltn (v := .ty "ArithmeticError") rfl T.b_ArithmeticError bt_ArithmeticError rfl) (.ty _) (T.tb_ArithmeticError)))))))) (fun _ _ _ _ _ => (rv 8)))))
      (rss_one (rs_ret (re_if (rt_cmp (om_eq c.u) (re_lm mm_count PySem.F.slot_list_count PySem.F.type_list_count (re_lst (ra_cons (rv 1) (ra_cons (rv 2) (ra_cons (rv 3) ra_nil)))) (ra_cons re_bl ra_nil)) re_int (nomark _)) (rv 7) (re_lst ra_nil)))))))))))))))))))))))))))
theorem fm__law_kinds (N : Nat) (T : Txt K mg base) {fa : Addr} {fd : FuncData} (F : FunD K "_law_kinds" "_law_kinds" (defArgs s__law_kinds) (defBody s__law_kinds) (defScope s__law_kinds) [] [] fa fd) : FnG P w K mg base 1 fa fd p__law_kinds (spM K mg p__law_kinds.length (m__law_kinds N)) := fk__law_kinds N T F
theorem ok__law_kinds (N : Nat) (T : Txt K mg base) : Df P w K mg base "_law_kinds" p__law_kinds 1 (m__law_kinds N) := by
  obtain ⟨fa, fd, g1, F⟩ := T.f__law_kinds
  exact ⟨fa, fd, g1, F.kp, F.bindsN (ps := p__law_kinds) fun _ _ _ _ _ _ us hl => match us, hl with | [_], _ => rfl, fm__law_kinds N T F⟩
theorem fk__law_word (N : Nat) (T : Txt K mg base) {fa : Addr} {fd : FuncData} (F : FunD K "_law_word" "_law_word" (defArgs s__law_word) (defBody s__law_word) (defScope s__law_word) [] [] fa fd) : FnH2 P w K mg base 8 7 fa fd n__law_word "_law_word" (defScope s__law_word) p__law_word "_law_deed" 0 (fun fv cp fk => m__law_word fv cp fk N) := by
  refine def_okH2 (m := fun fv cp fk => b__law_word fv cp fk N) F sc__law_word (by decide) (ph_by (by decide +kernel)) ?_
  intro cdv A outer s H E fv cp fk c act
  exact (rss_cons (rs_set (i := 1) c.nd rfl (re_callF c act rfl (Or.inl rfl) (by decide) (by decide) (oh__law_caught N T) (by decide) (by decide) rfl rfl))
      (rss_cons (rs_if (rt_cmp om_is (rv 1) re_non (nomark _)) (rss_one (rs_ret re_str)) rss_nil)
      (rss_cons (rs_set (i := 2) c.nd rfl (re_call c (ok__law_kinds N T) (by decide) (ra_cons (rv 1) ra_nil)))
      (rss_one (rs_ret (re_if (rt_cmp (om_eq c.u) (re_b cm_len rfl T.b_len bt_len (ra_cons (rv 2) ra_nil)) re_int (nomark _)) (re_ix (rv 2) re_int) re_str))))))
theorem oh__law_word (N : Nat) (T : Txt K mg base) : Dh2 P w K mg base "_law_word" p__law_word 8 7 (fun fv cp fk => m__law_word fv cp fk N) := by
  obtain ⟨fa, fd, g1, F⟩ := T.f__law_word
  exact ⟨fa, fd, n__law_word, _, _, "_law_deed", 0, g1, F.kp, F.bindsN (ps := p__law_word) fun _ _ _ _ _ _ us hl => match us, hl with | [_], _ => rfl, rfl, Or.inl rfl, by decide, by decide, fk__law_word N T F⟩
theorem fk_is_whole (N : Nat) (T : Txt K mg base) {fa : Addr} {fd : FuncData} (F : FunD K "is_whole" "is_whole" (defArgs s_is_whole) (defBody s_is_whole) (defScope s_is_whole) [] [] fa fd) : FnG P w K mg base (0 + 1) fa fd p_is_whole (spM K mg p_is_whole.length (fnM n_is_whole.length (C.b_is_whole N))) := by
  apply def_okD F sc_is_whole
  intro cdv A outer s H E c
  exact (rss_one (rs_ret (re_and (re_isTy .int T.b_isinstance T.b_int bt_int (rv 0)) (re_one (re_not (re_isTy .bool T.b_isinstance T.b_bool bt_bool (rv 0)))))))
theorem fm_is_whole (N : Nat) (T : Txt K mg base) {fa : Addr} {fd : FuncData} (F : FunD K "is_whole" "is_whole" (defArgs s_is_whole) (defBody s_is_whole) (defScope s_is_whole) [] [] fa fd) : FnG P w K mg base 1 fa fd p_is_whole (spM K mg p_is_whole.length (C.m_is_whole N)) := fk_is_whole N T F
theorem ok_is_whole (N : Nat) (T : Txt K mg base) : Df P w K mg base "is_whole" p_is_whole 1 (C.m_is_whole N) := by
  obtain ⟨fa, fd, g1, F⟩ := T.f_is_whole
  exact ⟨fa, fd, g1, F.kp, F.bindsN (ps := p_is_whole) fun _ _ _ _ _ _ us hl => match us, hl with | [_], _ => rfl, fm_is_whole N T F⟩
theorem fk_shared (N : Nat) (T : Txt K mg base) {fa : Addr} {fd : FuncData} (F : FunD K "shared" "shared" (defArgs s_shared) (defBody s_shared) (defScope s_shared) [] [] fa fd) : FnG P w K mg base (0 + 1) fa fd p_shared (spM K mg p_shared.length (fnM n_shared.length (C.b_shared N))) := by
  apply def_okD F sc_shared
  intro cdv A outer s H E c
  exact (rss_cons (rs_while N c.po (rt_cmp om_gt (rv 1) re_int (nomark _)) (rss_one (rs_par (i := 0) (j := 1) c.calm c.nd rfl rfl (by decide) (ra_cons (rv 1) (ra_cons (re_bin om_mod (rv 0) (rv 1)) ra_nil)))))
      (rss_one (rs_ret (rv 0))))
theorem fm_shared (N : Nat) (T : Txt K mg base) {fa : Addr} {fd : FuncData} (F : FunD K "shared" "shared" (defArgs s_shared) (defBody s_shared) (defScope s_shared) [] [] fa fd) : FnG P w K mg base 1 fa fd p_shared (spM K mg p_shared.length (C.m_shared N)) := fk_shared N T F
theorem ok_shared (N : Nat) (T : Txt K mg base) : Df P w K mg base "shared" p_shared 1 (C.m_shared N) := by
  obtain ⟨fa, fd, g1, F⟩ := T.f_shared
  exact ⟨fa, fd, g1, F.kp, F.bindsN (ps := p_shared) fun _ _ _ _ _ _ us hl => match us, hl with | [_, _], _ => rfl, fm_shared N T F⟩
theorem fk_is_ratio (N : Nat) (T : Txt K mg base) {fa : Addr} {fd : FuncData} (F : FunD K "is_ratio" "is_ratio" (defArgs s_is_ratio) (defBody s_is_ratio) (defScope s_is_ratio) [] [] fa fd) : FnG P w K mg base (1 + 1) fa fd p_is_ratio (spM K mg p_is_ratio.length (fnM n_is_ratio.length (C.b_is_ratio N))) := by
  apply def_okD F sc_is_ratio
  intro cdv A outer s H E c
  exact (rss_cons (rs_if (rt_w (rw_or (rt_not (rt_e (re_isTy .tuple T.b_isinstance T.b_tuple bt_tuple (rv 0)))) (rw_or (rt_cmp (om_ne c.u) (re_b cm_len rfl T.b_len bt_len (ra_cons (rv 0) ra_nil)) re_int (nomark _)) (rw_or1 (rt_not (rt_e (re_b (cm_all c.calm) rfl T.b_all bt_all (ra_cons (re_lc [("part", 3)] c.calm c.nd (ri_e (rv 0)) (blkOk_by (own := [("part", 3)]) (N := n_is_ratio) (sc := defScope s_is_ratio) (by decide +kernel)) (by decide) (fun _ _ _ _ _ => (pg_name (i := 3) c.nd rfl (by first | exact Or.inl rfl | exact Or.inr rfl))) (fun _ _ _ _ _ => pts0) (fun _ _ _ _ _ => (re_callB c.blk (ok_is_whole N T) (by decide) (ra_cons (rv 3) ra_nil)))) ra_nil)))))))) (rss_one (rs_ret re_bl)) rss_nil)
      (rss_cons (rs_asg (rv 0) (rg_tup c.calm (rgs_cons (rg_name (i := 1) c.nd rfl) (rgs_cons (rg_name (i := 2) c.nd rfl) rgs_nil))))
      (rss_one (rs_ret (re_and (re_cmp om_gt (rv 2) re_int (nomark _)) (re_one (re_cmp (om_eq c.u) (re_call c (ok_shared N T) (by decide) (ra_cons (re_b cm_abs rfl T.b_abs bt_abs (ra_cons (rv 1) ra_nil)) (ra_cons (rv 2) ra_nil))) re_int (nomark _))))))))
theorem fm_is_ratio (N : Nat) (T : Txt K mg base) {fa : Addr} {fd : FuncData} (F : FunD K "is_ratio" "is_ratio" (defArgs s_is_ratio) (defBody s_is_ratio) (defScope s_is_ratio) [] [] fa fd) : FnG P w K mg base 2 fa fd p_is_ratio (spM K mg p_is_ratio.length (C.m_is_ratio N)) := fk_is_ratio N T F
theorem ok_is_ratio (N : Nat) (T : Txt K mg base) : Df P w K mg base "is_ratio" p_is_ratio 2 (C.m_is_ratio N) := by
  obtain ⟨fa, fd, g1, F⟩ := T.f_is_ratio
  exact ⟨fa, fd, g1, F.kp, F.bindsN (ps := p_is_ratio) fun _ _ _ _ _ _ us hl => match us, hl with | [_], _ => rfl, fm_is_ratio N T F⟩
theorem fk_check_ratio (N : Nat) (T : Txt K mg base) {fa : Addr} {fd : FuncData} (F : FunD K "check_ratio" "check_ratio" (defArgs s_check_ratio) (defBody s_check_ratio) (defScope s_check_ratio) [] [] fa fd) : FnG P w K mg base (2 + 1) fa fd p_check_ratio (spM K mg p_check_ratio.length (fnM n_check_ratio.length (C.b_check_ratio N))) := by
  obtain ⟨C_NoRatio, g_NoRatio, x_NoRatio⟩ := T.x_NoRatio
  apply def_okD F sc_check_ratio
  intro cdv A outer s H E c
  exact (rss_one (rs_if (rt_not (rt_e (re_call c (ok_is_ratio N T) (by decide) (ra_cons (rv 0) ra_nil)))) (rss_one (rs_raise 3 rfl c PySem.F.excBase_ValueError x_NoRatio.x g_NoRatio x_NoRatio.k (raises_own x_NoRatio.b x_NoRatio.t))) rss_nil))
theorem fm_check_ratio (N : Nat) (T : Txt K mg base) {fa : Addr} {fd : FuncData} (F : FunD K "check_ratio" "check_ratio" (defArgs s_check_ratio) (defBody s_check_ratio) (defScope s_check_ratio) [] [] fa fd) : FnG P w K mg base 3 fa fd p_check_ratio (spM K mg p_check_ratio.length (C.m_check_ratio N)) := fk_check_ratio N T F
theorem ok_check_ratio (N : Nat) (T : Txt K mg base) : Df P w K mg base "check_ratio" p_check_ratio 3 (C.m_check_ratio N) := by
  obtain ⟨fa, fd, g1, F⟩ := T.f_check_ratio
  exact ⟨fa, fd, g1, F.kp, F.bindsN (ps := p_check_ratio) fun _ _ _ _ _ _ us hl => match us, hl with | [_], _ => rfl, fm_check_ratio N T F⟩
theorem fk_check_two (N : Nat) (T : Txt K mg base) {fa : Addr} {fd : FuncData} (F : FunD K "check_two" "check_two" (defArgs s_check_two) (defBody s_check_two) (defScope s_check_two) [] [] fa fd) : FnG P w K mg base (3 + 1) fa fd p_check_two (spM K mg p_check_two.length (fnM n_check_two.length (C.b_check_two N))) := by
  apply def_okD F sc_check_two
  intro cdv A outer s H E c
  exact (rss_cons (rs_expr (re_call c (ok_check_ratio N T) (by decide) (ra_cons (rv 0) ra_nil)))
      (rss_one (rs_expr (re_call c (ok_check_ratio N T) (by decide) (ra_cons (rv 1) ra_nil)))))
theorem fm_check_two (N : Nat) (T : Txt K mg base) {fa : Addr} {fd : FuncData} (F : FunD K "check_two" "check_two" (defArgs s_check_two) (defBody s_check_two) (defScope s_check_two) [] [] fa fd) : FnG P w K mg base 4 fa fd p_check_two (spM K mg p_check_two.length (C.m_check_two N)) := fk_check_two N T F
theorem ok_check_two (N : Nat) (T : Txt K mg base) : Df P w K mg base "check_two" p_check_two 4 (C.m_check_two N) := by
  obtain ⟨fa, fd, g1, F⟩ := T.f_check_two
  exact ⟨fa, fd, g1, F.kp, F.bindsN (ps := p_check_two) fun _ _ _ _ _ _ us hl => match us, hl with | [_, _], _ => rfl, fm_check_two N T F⟩
theorem fk_lowest (N : Nat) (T : Txt K mg base) {fa : Addr} {fd : FuncData} (F : FunD K "lowest" "lowest" (defArgs s_lowest) (defBody s_lowest) (defScope s_lowest) [] [] fa fd) : FnG P w K mg base (1 + 1) fa fd p_lowest (spM K mg p_lowest.length (fnM n_lowest.length (C.b_lowest N))) := by
  apply def_okD F sc_lowest
  intro cdv A outer s H E c
  exact (rss_cons (rs_set (i := 2) c.nd rfl (re_call c (ok_shared N T) (by decide) (ra_cons (re_b cm_abs rfl T.b_abs bt_abs (ra_cons (rv 0) ra_nil)) (ra_cons (rv 1) ra_nil))))
      (rss_one (rs_ret (re_tup (ra_cons (re_bin om_div (rv 0) (rv 2)) (ra_cons (re_bin om_div (rv 1) (rv 2)) ra_nil))))))
theorem fm_lowest (N : Nat) (T : Txt K mg base) {fa : Addr} {fd : FuncData} (F : FunD K "lowest" "lowest" (defArgs s_lowest) (defBody s_lowest) (defScope s_lowest) [] [] fa fd) : FnG P w K mg base 2 fa fd p_lowest (spM K mg p_lowest.length (C.m_lowest N)) := fk_lowest N T F
theorem ok_lowest (N : Nat) (T : Txt K mg base) : Df P w K mg base "lowest" p_lowest 2 (C.m_lowest N) := by
  obtain ⟨fa, fd, g1, F⟩ := T.f_lowest
  exact ⟨fa, fd, g1, F.kp, F.bindsN (ps := p_lowest) fun _ _ _ _ _ _ us hl => match us, hl with | [_, _], _ => rfl, fm_lowest N T F⟩
theorem fk_added (N : Nat) (T : Txt K mg base) {fa : Addr} {fd : FuncData} (F : FunD K "added" "added" (defArgs s_added) (defBody s_added) (defScope s_added) [] [] fa fd) : FnG P w K mg base (4 + 1) fa fd p_added (spM K mg p_added.length (fnM n_added.length (C.b_added N))) := by
  apply def_okD F sc_added
  intro cdv A outer s H E c
  exact (rss_cons (rs_expr (re_call c (ok_check_two N T) (by decide) (ra_cons (rv 0) (ra_cons (rv 1) ra_nil))))
      (rss_cons (rs_asg (re_tup (ra_cons (rv 0) (ra_cons (rv 1) ra_nil))) (rg_tup c.calm (rgs_cons (rg_tup c.calm (rgs_cons (rg_name (i := 2) c.nd rfl) (rgs_cons (rg_name (i := 3) c.nd rfl) rgs_nil))) (rgs_cons (rg_tup c.calm (rgs_cons (rg_name (i := 4) c.nd rfl) (rgs_cons (rg_name (i := 5) c.nd rfl) rgs_nil))) rgs_nil))))
      (rss_one (rs_ret (re_call c (ok_lowest N T) (by decide) (ra_cons (re_binS om_addS (re_bin om_mul (rv 2) (rv 5)) (re_bin om_mul (rv 4) (rv 3))) (ra_cons (re_bin om_mul (rv 3) (rv 5)) ra_nil)))))))
theorem fm_added (N : Nat) (T : Txt K mg base) {fa : Addr} {fd : FuncData} (F : FunD K "added" "added" (defArgs s_added) (defBody s_added) (defScope s_added) [] [] fa fd) : FnG P w K mg base 5 fa fd p_added (spM K mg p_added.length (C.m_added N)) := fk_added N T F
theorem ok_added (N : Nat) (T : Txt K mg base) : Df P w K mg base "added" p_added 5 (C.m_added N) := by
  obtain ⟨fa, fd, g1, F⟩ := T.f_added
  exact ⟨fa, fd, g1, F.kp, F.bindsN (ps := p_added) fun _ _ _ _ _ _ us hl => match us, hl with | [_, _], _ => rfl, fm_added N T F⟩
theorem fk_is_before (N : Nat) (T : Txt K mg base) {fa : Addr} {fd : FuncData} (F : FunD K "is_before" "is_before" (defArgs s_is_before) (defBody s_is_before) (defScope s_is_before) [] [] fa fd) : FnG P w K mg base (4 + 1) fa fd p_is_before (spM K mg p_is_before.length (fnM n_is_before.length (C.b_is_before N))) := by
  apply def_okD F sc_is_before
  intro cdv A outer s H E c
  exact (rss_cons (rs_expr (re_call c (ok_check_two N T) (by decide) (ra_cons (rv 0) (ra_cons (rv 1) ra_nil))))
      (rss_one (rs_ret (re_cmp om_lt (re_bin om_mul (re_ix (rv 0) re_int) (re_ix (rv 1) re_int)) (re_bin om_mul (re_ix (rv 1) re_int) (re_ix (rv 0) re_int)) (nomark _)))))
theorem fm_is_before (N : Nat) (T : Txt K mg base) {fa : Addr} {fd : FuncData} (F : FunD K "is_before" "is_before" (defArgs s_is_before) (defBody s_is_before) (defScope s_is_before) [] [] fa fd) : FnG P w K mg base 5 fa fd p_is_before (spM K mg p_is_before.length (C.m_is_before N)) := fk_is_before N T F
theorem ok_is_before (N : Nat) (T : Txt K mg base) : Df P w K mg base "is_before" p_is_before 5 (C.m_is_before N) := by
  obtain ⟨fa, fd, g1, F⟩ := T.f_is_before
  exact ⟨fa, fd, g1, F.kp, F.bindsN (ps := p_is_before) fun _ _ _ _ _ _ us hl => match us, hl with | [_, _], _ => rfl, fm_is_before N T F⟩
theorem fk_greater (N : Nat) (T : Txt K mg base) {fa : Addr} {fd : FuncData} (F : FunD K "greater" "greater" (defArgs s_greater) (defBody s_greater) (defScope s_greater) [] [] fa fd) : FnG P w K mg base (5 + 1) fa fd p_greater (spM K mg p_greater.length (fnM n_greater.length (C.b_greater N))) := by
  apply def_okD F sc_greater
  intro cdv A outer s H E c
  exact (rss_one (rs_ret (re_if (rt_e (re_call c (ok_is_before N T) (by decide) (ra_cons (rv 0) (ra_cons (rv 1) ra_nil)))) (rv 1) (rv 0))))
theorem fm_greater (N : Nat) (T : Txt K mg base) {fa : Addr} {fd : FuncData} (F : FunD K "greater" "greater" (defArgs s_greater) (defBody s_greater) (defScope s_greater) [] [] fa fd) : FnG P w K mg base 6 fa fd p_greater (spM K mg p_greater.length (C.m_greater N)) := fk_greater N T F
theorem ok_greater (N : Nat) (T : Txt K mg base) : Df P w K mg base "greater" p_greater 6 (C.m_greater N) := by
  obtain ⟨fa, fd, g1, F⟩ := T.f_greater
  exact ⟨fa, fd, g1, F.kp, F.bindsN (ps := p_greater) fun _ _ _ _ _ _ us hl => match us, hl with | [_, _], _ => rfl, fm_greater N T F⟩
theorem fk_lowered (N : Nat) (T : Txt K mg base) {fa : Addr} {fd : FuncData} (F : FunD K "lowered" "lowered" (defArgs s_lowered) (defBody s_lowered) (defScope s_lowered) [] [] fa fd) : FnG P w K mg base (4 + 1) fa fd p_lowered (spM K mg p_lowered.length (fnM n_lowered.length (C.b_lowered N))) := by
  apply def_okD F sc_lowered
  intro cdv A outer s H E c
  exact (rss_cons (rs_expr (re_call c (ok_check_two N T) (by decide) (ra_cons (rv 0) (ra_cons (rv 1) ra_nil))))
      (rss_cons (rs_asg (re_tup (ra_cons (rv 0) (ra_cons (rv 1) ra_nil))) (rg_tup c.calm (rgs_cons (rg_tup c.calm (rgs_cons (rg_name (i := 2) c.nd rfl) (rgs_cons (rg_name (i := 3) c.nd rfl) rgs_nil))) (rgs_cons (rg_tup c.calm (rgs_cons (rg_name (i := 4) c.nd rfl) (rgs_cons (rg_name (i := 5) c.nd rfl) rgs_nil))) rgs_nil))))
      (rss_one (rs_ret (re_call c (ok_lowest N T) (by decide) (ra_cons (re_bin om_sub (re_bin om_mul (rv 2) (rv 5)) (re_bin om_mul (rv 4) (rv 3))) (ra_cons (re_bin om_mul (rv 3) (rv 5)) ra_nil)))))))
theorem fm_lowered (N : Nat) (T : Txt K mg base) {fa : Addr} {fd : FuncData} (F : FunD K "lowered" "lowered" (defArgs s_lowered) (defBody s_lowered) (defScope s_lowered) [] [] fa fd) : FnG P w K mg base 5 fa fd p_lowered (spM K mg p_lowered.length (C.m_lowered N)) := fk_lowered N T F
theorem ok_lowered (N : Nat) (T : Txt K mg base) : Df P w K mg base "lowered" p_lowered 5 (C.m_lowered N) := by
  obtain ⟨fa, fd, g1, F⟩ := T.f_lowered
  exact ⟨fa, fd, g1, F.kp, F.bindsN (ps := p_lowered) fun _ _ _ _ _ _ us hl => match us, hl with | [_, _], _ => rfl, fm_lowered N T F⟩
theorem fk_ratio (N : Nat) (T : Txt K mg base) {fa : Addr} {fd : FuncData} (F : FunD K "ratio" "ratio" (defArgs s_ratio) (defBody s_ratio) (defScope s_ratio) [(.int 1)] [] fa fd) : FnG P w K mg base (2 + 1) fa fd p_ratio (spM K mg p_ratio.length (fnM n_ratio.length (C.b_ratio N))) := by
  obtain ⟨C_NoRatio, g_NoRatio, x_NoRatio⟩ := T.x_NoRatio
  apply def_okD F sc_ratio
  intro cdv A outer s H E c
  exact (rss_cons (rs_if (rt_w (rw_or (rt_not (rt_e (re_call c (ok_is_whole N T) (by decide) (ra_cons (rv 0) ra_nil)))) (rw_or (rt_not (rt_e (re_call c (ok_is_whole N T) (by decide) (ra_cons (rv 1) ra_nil)))) (rw_or1 (rt_cmp (om_eq c.u) (rv 1) re_int (nomark _)))))) (rss_one (rs_raise 3 rfl c PySem.F.excBase_ValueError x_NoRatio.x g_NoRatio x_NoRatio.k (raises_own x_NoRatio.b x_NoRatio.t))) rss_nil)
      (rss_cons (rs_if (rt_cmp om_lt (rv 1) re_int (nomark _)) (rss_one (rs_ret (re_call c (ok_lowest N T) (by decide) (ra_cons (re_bin om_sub re_int (rv 0)) (ra_cons (re_bin om_sub re_int (rv 1)) ra_nil))))) rss_nil)
      (rss_one (rs_ret (re_call c (ok_lowest N T) (by decide) (ra_cons (rv 0) (ra_cons (rv 1) ra_nil)))))))
theorem fm_ratio (N : Nat) (T : Txt K mg base) {fa : Addr} {fd : FuncData} (F : FunD K "ratio" "ratio" (defArgs s_ratio) (defBody s_ratio) (defScope s_ratio) [(.int 1)] [] fa fd) : FnG P w K mg base 3 fa fd p_ratio (spM K mg p_ratio.length (C.m_ratio N)) := fk_ratio N T F
theorem ok_ratio (N : Nat) (T : Txt K mg base) : Df P w K mg base "ratio" p_ratio 3 (C.m_ratio N) := by
  obtain ⟨fa, fd, g1, F⟩ := T.f_ratio
  obtain ⟨ds, hd, hb⟩ := F.binds1 (ps := p_ratio) 2 1 (by simp) (by decide) fun _ _ _ _ _ _ _ us its h1 h2 => match us, its, h1, h2 with | [_, _], [_], _, _ => ⟨_, rfl, rfl⟩
  have e : ds = [] := by cases hd; rfl
  subst e
  exact ⟨fa, fd, g1, F.kp, hb, fm_ratio N T F⟩
theorem dk_ratio_1_ (N : Nat) (T : Txt K mg base) : Dk P w K mg base "ratio" p_ratio 3 1 [] C.g_ratio_1_ (C.m_ratio N) := by
  obtain ⟨fa, fd, g1, F⟩ := T.f_ratio
  obtain ⟨its, hb⟩ := F.kbindsD (ps := p_ratio) 1 [] (fun vs ds zs => ((vs.drop 0).take 1 ++ (ds.drop 0).take 1)) (by simp) (fun r1 r2 r3 => (((r1.drop 0).take 1).append ((r2.drop 0).take 1))) fun _ _ _ _ _ _ _ us its ws h1 h2 h3 => match us, its, ws, h1, h2, h3 with | [_], [_], [], _, _, _ => ⟨_, rfl, rfl⟩
  refine ⟨fa, fd, _, _, g1, F.kp, hb, fun w ds vs es zs rd re h1 h2 => ?_, fm_ratio N T F⟩
  match ds, es, h1, h2 with
  | [d0], [], _, _ =>
    obtain ⟨v0, vr0, rfl, q0, rd0⟩ := rd.cons_inv
    cases rd0.nil_inv
    cases re.nil_inv
    exact ⟨(.cons q0 (.cons (.int _) .nil)), rfl⟩
theorem fk_parted (N : Nat) (T : Txt K mg base) {fa : Addr} {fd : FuncData} (F : FunD K "parted" "parted" (defArgs s_parted) (defBody s_parted) (defScope s_parted) [] [] fa fd) : FnG P w K mg base (4 + 1) fa fd p_parted (spM K mg p_parted.length (fnM n_parted.length (C.b_parted N))) := by
  obtain ⟨C_Nought, g_Nought, x_Nought⟩ := T.x_Nought
  apply def_okD F sc_parted
  intro cdv A outer s H E c
  exact (rss_cons (rs_expr (re_call c (ok_check_two N T) (by decide) (ra_cons (rv 0) (ra_cons (rv 1) ra_nil))))
      (rss_cons (rs_if (rt_cmp (om_eq c.u) (re_ix (rv 1) re_int) re_int (nomark _)) (rss_one (rs_raise 27 rfl c PySem.F.excBase_ArithmeticError x_Nought.x g_Nought x_Nought.k (raises_own x_Nought.b x_Nought.t))) rss_nil)
      (rss_one (rs_ret (re_call c (ok_ratio N T) (by decide) (ra_cons (re_bin om_mul (re_ix (rv 0) re_int) (re_ix (rv 1) re_int)) (ra_cons (re_bin om_mul (re_ix (rv 0) re_int) (re_ix (rv 1) re_int)) ra_nil)))))))
theorem fm_parted (N : Nat) (T : Txt K mg base) {fa : Addr} {fd : FuncData} (F : FunD K "parted" "parted" (defArgs s_parted) (defBody s_parted) (defScope s_parted) [] [] fa fd) : FnG P w K mg base 5 fa fd p_parted (spM K mg p_parted.length (C.m_parted N)) := fk_parted N T F
theorem ok_parted (N : Nat) (T : Txt K mg base) : Df P w K mg base "parted" p_parted 5 (C.m_parted N) := by
  obtain ⟨fa, fd, g1, F⟩ := T.f_parted
  exact ⟨fa, fd, g1, F.kp, F.bindsN (ps := p_parted) fun _ _ _ _ _ _ us hl => match us, hl with | [_, _], _ => rfl, fm_parted N T F⟩
theorem fk_scaled (N : Nat) (T : Txt K mg base) {fa : Addr} {fd : FuncData} (F : FunD K "scaled" "scaled" (defArgs s_scaled) (defBody s_scaled) (defScope s_scaled) [] [] fa fd) : FnG P w K mg base (4 + 1) fa fd p_scaled (spM K mg p_scaled.length (fnM n_scaled.length (C.b_scaled N))) := by
  apply def_okD F sc_scaled
  intro cdv A outer s H E c
  exact (rss_cons (rs_expr (re_call c (ok_check_two N T) (by decide) (ra_cons (rv 0) (ra_cons (rv 1) ra_nil))))
      (rss_one (rs_ret (re_call c (ok_lowest N T) (by decide) (ra_cons (re_bin om_mul (re_ix (rv 0) re_int) (re_ix (rv 1) re_int)) (ra_cons (re_bin om_mul (re_ix (rv 0) re_int) (re_ix (rv 1) re_int)) ra_nil))))))
theorem fm_scaled (N : Nat) (T : Txt K mg base) {fa : Addr} {fd : FuncData} (F : FunD K "scaled" "scaled" (defArgs s_scaled) (defBody s_scaled) (defScope s_scaled) [] [] fa fd) : FnG P w K mg base 5 fa fd p_scaled (spM K mg p_scaled.length (C.m_scaled N)) := fk_scaled N T F
theorem ok_scaled (N : Nat) (T : Txt K mg base) : Df P w K mg base "scaled" p_scaled 5 (C.m_scaled N) := by
  obtain ⟨fa, fd, g1, F⟩ := T.f_scaled
  exact ⟨fa, fd, g1, F.kp, F.bindsN (ps := p_scaled) fun _ _ _ _ _ _ us hl => match us, hl with | [_, _], _ => rfl, fm_scaled N T F⟩
theorem fk__law_deeds (N : Nat) (T : Txt K mg base) {fa : Addr} {fd : FuncData} (F : FunD K "_law_deeds" "_law_deeds" (defArgs s__law_deeds) (defBody s__law_deeds) (defScope s__law_deeds) [] [] fa fd) (he : fa = He.fAd K mk__law_deeds.1) : FnG P w K mg base (9 + 1) fa fd p__law_deeds (spM K mg p__law_deeds.length (fnM n__law_deeds.length (b__law_deeds N))) := by
  subst he
  apply def_okL (p := mk__law_deeds.1) F sc__law_deeds
  intro cdv A outer s H E hc c
  exact (rss_cons (rs_set (i := 2) c.nd rfl (re_new (ra_cons (re_callH2_0 c (oh__law_word N T) (by decide) (LA2.mono (la_lam2 (prm := none) (js := [0, 1]) (nT := 0) (p := mk__law_deeds.1) (q := mk__law_deeds.2) (kb := 5) (lamP_by (sc := defScope s__law_deeds) (caps := ["_law_one", "_law_other"]) (by decide +kernel)) (show ∀ j ∈ ([0, 1] : List Nat), j < 3 by decide) (by decide) (show (["_law_one", "_law_other"] : List Str).Nodup by decide +kernel) rfl (T.tb mk__law_deeds (by simp [tsL])) hc rfl (fun _ _ _ _ us h => match us, h with | [], _ => rfl) (fun _ _ _ _ _ _ _ c => (re_call c (ok_added N T) (by decide) (ra_cons (rv 0) (ra_cons (rv 1) ra_nil))))) (by decide)) (by decide) rfl (by decide)) ra_nil)))
      (rss_cons (rs_expr (re_app (rv 2) (ra_cons (re_callH2_0 c (oh__law_word N T) (by decide) (LA2.mono (la_lam2 (prm := none) (js := [0, 1]) (nT := 0) (p := mk__law_deeds.1) (q := mk__law_deeds.2) (kb := 5) (lamP_by (sc := defScope s__law_deeds) (caps := ["_law_one", "_law_other"]) (by decide +kernel)) (show ∀ j ∈ ([0, 1] : List Nat), j < 3 by decide) (by decide) (show (["_law_one", "_law_other"] : List Str).Nodup by decide +kernel) rfl (T.tb mk__law_deeds (by simp [tsL])) hc rfl (fun _ _ _ _ us h => match us, h with | [], _ => rfl) (fun _ _ _ _ _ _ _ c => (re_call c (ok_lowered N T) (by decide) (ra_cons (rv 0) (ra_cons (rv 1) ra_nil))))) (by decide)) (by decide) rfl (by decide)) ra_nil)))
      (rss_cons (rs_expr (re_app (rv 2) (ra_cons (re_callH2_0 c (oh__law_word N T) (by decide) (LA2.mono (la_lam2 (prm := none) (js := [0, 1]) (nT := 0) (p := mk__law_deeds.1) (q := mk__law_deeds.2) (kb := 5) (lamP_by (sc := defScope s__law_deeds) (caps := ["_law_one", "_law_other"]) (by decide +kernel)) (show ∀ j ∈ ([0, 1] : List Nat), j < 3 by decide) (by decide) (show (["_law_one", "_law_other"] : List Str).Nodup by decide +kernel) rfl (T.tb mk__law_deeds (by simp [tsL])) hc rfl (fun _ _ _ _ us h => match us, h with | [], _ => rfl) (fun _ _ _ _ _ _ _ c => (re_call c (ok_scaled N T) (by decide) (ra_cons (rv 0) (ra_cons (rv 1) ra_nil))))) (by decide)) (by decide) rfl (by decide)) ra_nil)))
      (rss_cons (rs_expr (re_app (rv 2) (ra_cons (re_callH2_0 c (oh__law_word N T) (by decide) (LA2.mono (la_lam2 (prm := none) (js := [0, 1]) (nT := 0) (p := mk__law_deeds.1) (q := mk__law_deeds.2) (kb := 5) (lamP_by (sc := defScope s__law_deeds) (caps := ["_law_one", "_law_other"]) (by decide +kernel)) (show ∀ j ∈ ([0, 1] : List Nat), j < 3 by decide) (by decide) (show (["_law_one", "_law_other"] : List Str).Nodup by decide +kernel) rfl (T.tb mk__law_deeds (by simp [tsL])) hc rfl (fun _ _ _ _ us h => match us, h with | [], _ => rfl) (fun _ _ _ _ _ _ _ c => (re_call c (ok_is_before N T) (by decide) (ra_cons (rv 0) (ra_cons (rv 1) ra_nil))))) (by decide)) (by decide) rfl (by decide)) ra_nil)))
      (rss_cons (rs_expr (re_app (rv 2) (ra_cons (re_callH2_0 c (oh__law_word N T) (by decide) (LA2.mono (la_lam2 (prm := none) (js := [0, 1]) (nT := 0) (p := mk__law_deeds.1) (q := mk__law_deeds.2) (kb := 6) (lamP_by (sc := defScope s__law_deeds) (caps := ["_law_one", "_law_other"]) (by decide +kernel)) (show ∀ j ∈ ([0, 1] : List Nat), j < 3 by decide) (by decide) (show (["_law_one", "_law_other"] : List Str).Nodup by decide +kernel) rfl (T.tb mk__law_deeds (by simp [tsL])) hc rfl (fun _ _ _ _ us h => match us, h with | [], _ => rfl) (fun _ _ _ _ _ _ _ c => (re_call c (ok_greater N T) (by decide) (ra_cons (rv 0) (ra_cons (rv 1) ra_nil))))) (by decide)) (by decide) rfl (by decide)) ra_nil)))
      (rss_cons (rs_expr (re_app (rv 2) (ra_cons (re_callH2_0 c (oh__law_word N T) (by decide) (LA2.mono (la_lam2 (prm := none) (js := [0, 1]) (nT := 0) (p := mk__law_deeds.1) (q := mk__law_deeds.2) (kb := 5) (lamP_by (sc := defScope s__law_deeds) (caps := ["_law_one", "_law_other"]) (by decide +kernel)) (show ∀ j ∈ ([0, 1] : List Nat), j < 3 by decide) (by decide) (show (["_law_one", "_law_other"] : List Str).Nodup by decide +kernel) rfl (T.tb mk__law_deeds (by simp [tsL])) hc rfl (fun _ _ _ _ us h => match us, h with | [], _ => rfl) (fun _ _ _ _ _ _ _ c => (re_call c (ok_parted N T) (by decide) (ra_cons (rv 0) (ra_cons (rv 1) ra_nil))))) (by decide)) (by decide) rfl (by decide)) ra_nil)))
      (rss_one (rs_ret (rv 2)))))))))
theorem fm__law_deeds (N : Nat) (T : Txt K mg base) {fa : Addr} {fd : FuncData} (F : FunD K "_law_deeds" "_law_deeds" (defArgs s__law_deeds) (defBody s__law_deeds) (defScope s__law_deeds) [] [] fa fd) (he : fa = He.fAd K mk__law_deeds.1) : FnG P w K mg base 10 fa fd p__law_deeds (spM K mg p__law_deeds.length (m__law_deeds N)) := fk__law_deeds N T F he
theorem ok__law_deeds (N : Nat) (T : Txt K mg base) : Df P w K mg base "_law_deeds" p__law_deeds 10 (m__law_deeds N) := by
  obtain ⟨fa, fd, g1, F⟩ := T.f__law_deeds
  exact ⟨fa, fd, g1, F.kp, F.bindsN (ps := p__law_deeds) fun _ _ _ _ _ _ us hl => match us, hl with | [_, _], _ => rfl, fm__law_deeds N T F (T.fe__law_deeds _ g1)⟩
theorem fk__law_take (N : Nat) (T : Txt K mg base) {fa : Addr} {fd : FuncData} (F : FunD K "_law_take" "_law_take" (defArgs s__law_take) (defBody s__law_take) (defScope s__law_take) [] [] fa fd) : FnG P w K mg base (0 + 1) fa fd p__law_take (spM K mg p__law_take.length (fnM n__law_take.length (C.b__law_take N))) := by
  apply def_okD F sc__law_take
  intro cdv A outer s H E c
  exact (rss_cons (rs_asg (re_binS om_addS (re_ix (rv 0) re_int) re_int) (rg_sub (rv 0) re_int))
      (rss_cons (rs_set (i := 2) c.nd rfl (re_ix (rv 0) re_int))
      (rss_cons (rs_asg (re_bin om_mod (re_binS om_addS (re_bin om_mul (rv 2) (re_binS om_addS (re_bin om_mod (rv 2) re_int) re_int)) (re_bin om_mul re_int (re_ix (rv 0) re_int))) re_int) (rg_sub (rv 0) re_int))
      (rss_cons (rs_if (rt_cmp om_gt (re_ix (rv 0) re_int) re_int (nomark _)) (rss_cons (rs_asg (re_b cm_divmodW rfl T.b_divmod bt_divmod (ra_cons (re_ix (rv 0) re_int) (ra_cons (rv 1) ra_nil))) (rg_tup c.calm (rgs_cons (rg_sub (rv 0) re_int) (rgs_cons (rg_name (i := 3) c.nd rfl) rgs_nil))))
      (rss_one (rs_ret (rv 3)))) rss_nil)
      (rss_one (rs_ret (re_bin om_mod (re_bin om_div (re_ix (rv 0) re_int) re_int) (rv 1))))))))
theorem fm__law_take (N : Nat) (T : Txt K mg base) {fa : Addr} {fd : FuncData} (F : FunD K "_law_take" "_law_take" (defArgs s__law_take) (defBody s__law_take) (defScope s__law_take) [] [] fa fd) : FnG P w K mg base 1 fa fd p__law_take (spM K mg p__law_take.length (C.m__law_take N)) := fk__law_take N T F
theorem ok__law_take (N : Nat) (T : Txt K mg base) : Df P w K mg base "_law_take" p__law_take 1 (C.m__law_take N) := by
  obtain ⟨fa, fd, g1, F⟩ := T.f__law_take
  exact ⟨fa, fd, g1, F.kp, F.bindsN (ps := p__law_take) fun _ _ _ _ _ _ us hl => match us, hl with | [_, _], _ => rfl, fm__law_take N T F⟩
theorem fk__law_odd (N : Nat) (T : Txt K mg base) {fa : Addr} {fd : FuncData} (F : FunD K "_law_odd" "_law_odd" (defArgs s__law_odd) (defBody s__law_odd) (defScope s__law_odd) [] [] fa fd) : FnG P w K mg base (1 + 1) fa fd p__law_odd (spM K mg p__law_odd.length (fnM n__law_odd.length (b__law_odd N))) := by
  apply def_okD F sc__law_odd
  intro cdv A outer s H E c
  exact (rss_cons (rs_set (i := 1) c.nd rfl (re_lst (ra_cons (re_tup (ra_cons re_int (ra_cons re_int ra_nil))) (ra_cons (re_tup (ra_cons re_int (ra_cons re_int ra_nil))) (ra_cons (re_tup (ra_cons re_int (ra_cons re_int ra_nil))) (ra_cons (re_tup (ra_cons re_int (ra_cons (re_neg re_int) ra_nil))) (ra_cons (re_tup (ra_cons (re_neg re_int) (ra_cons (re_neg re_int) ra_nil))) (ra_cons (re_tup (ra_cons re_bl (ra_cons re_int ra_nil))) (ra_cons (re_tup (ra_cons re_int (ra_cons re_bl ra_nil))) (ra_cons (re_tup (ra_cons re_int ra_nil)) (ra_cons (re_tup (ra_cons re_int (ra_cons re_int (ra_cons re_int ra_nil)))) ra_nil)))))))))))
      (rss_cons (rs_set (i := 1) c.nd rfl (re_binS om_addS (rv 1) (re_lst (ra_cons (re_tup (ra_cons re_str (ra_cons re_int ra_nil))) (ra_cons (re_tup (ra_cons re_non (ra_cons re_int ra_nil))) (ra_cons (re_lst (ra_cons re_int (ra_cons re_int ra_nil))) ra_nil))))))
      (rss_cons (rs_set (i := 1) c.nd rfl (re_binS om_addS (rv 1) (re_lst (ra_cons re_non (ra_cons re_int (ra_cons re_bl (ra_cons re_str (ra_cons re_str (ra_cons re_dic0 (ra_cons (re_lst ra_nil) (ra_cons (re_tup ra_nil) (ra_cons (re_tup (ra_cons (re_lst ra_nil) (ra_cons re_int ra_nil))) (ra_cons (re_tup (ra_cons re_int (ra_cons (re_tup (ra_cons re_int ra_nil)) ra_nil))) ra_nil)))))))))))))
      (rss_one (rs_ret (re_ix (rv 1) (re_call c (ok__law_take N T) (by decide) (ra_cons (rv 0) (ra_cons re_int ra_nil)))))))))
theorem fm__law_odd (N : Nat) (T : Txt K mg base) {fa : Addr} {fd : FuncData} (F : FunD K "_law_odd" "_law_odd" (defArgs s__law_odd) (defBody s__law_odd) (defScope s__law_odd) [] [] fa fd) : FnG P w K mg base 2 fa fd p__law_odd (spM K mg p__law_odd.length (m__law_odd N)) := fk__law_odd N T F
theorem ok__law_odd (N : Nat) (T : Txt K mg base) : Df P w K mg base "_law_odd" p__law_odd 2 (m__law_odd N) := by
  obtain ⟨fa, fd, g1, F⟩ := T.f__law_odd
  exact ⟨fa, fd, g1, F.kp, F.bindsN (ps := p__law_odd) fun _ _ _ _ _ _ us hl => match us, hl with | [_], _ => rfl, fm__law_odd N T F⟩
theorem fk__law_pool (N : Nat) (T : Txt K mg base) {fa : Addr} {fd : FuncData} (F : FunD K "_law_pool" "_law_pool" (defArgs s__law_pool) (defBody s__law_pool) (defScope s__law_pool) [] [] fa fd) : FnG P w K mg base (0 + 1) fa fd p__law_pool (spM K mg p__law_pool.length (fnM n__law_pool.length (C.b__law_pool N))) := by
  apply def_okD F sc__law_pool
  intro cdv A outer s H E c
  exact (rss_cons (rs_set (i := 1) c.nd rfl re_int)
      (rss_cons (rs_if (rt_w (rw_or (rt_cmp om_lt (rv 0) re_int (nomark _)) (rw_or1 (rt_cmp om_ge (rv 0) (re_bin om_pow re_int re_int) (nomark _))))) (rss_one (rs_set (i := 1) c.nd rfl (re_b cm_abs rfl T.b_abs bt_abs (ra_cons (rv 0) ra_nil)))) rss_nil)
      (rss_one (rs_ret (re_new (ra_cons (re_bin om_mod (rv 0) re_int) (ra_cons (rv 1) (ra_cons re_int ra_nil))))))))
theorem fm__law_pool (N : Nat) (T : Txt K mg base) {fa : Addr} {fd : FuncData} (F : FunD K "_law_pool" "_law_pool" (defArgs s__law_pool) (defBody s__law_pool) (defScope s__law_pool) [] [] fa fd) : FnG P w K mg base 1 fa fd p__law_pool (spM K mg p__law_pool.length (C.m__law_pool N)) := fk__law_pool N T F
theorem ok__law_pool (N : Nat) (T : Txt K mg base) : Df P w K mg base "_law_pool" p__law_pool 1 (C.m__law_pool N) := by
  obtain ⟨fa, fd, g1, F⟩ := T.f__law_pool
  exact ⟨fa, fd, g1, F.kp, F.bindsN (ps := p__law_pool) fun _ _ _ _ _ _ us hl => match us, hl with | [_], _ => rfl, fm__law_pool N T F⟩
theorem fk__law_r (N : Nat) (T : Txt K mg base) {fa : Addr} {fd : FuncData} (F : FunD K "_law_r" "_law_r" (defArgs s__law_r) (defBody s__law_r) (defScope s__law_r) [] [] fa fd) : FnG P w K mg base (0 + 1) fa fd p__law_r (spM K mg p__law_r.length (fnM n__law_r.length (C.b__law_r N))) := by
  apply def_okD F sc__law_r
  intro cdv A outer s H E c
  exact (rss_cons (rs_par (i := 2) (j := 3) c.calm c.nd rfl rfl (by decide) (ra_cons (re_b cm_abs rfl T.b_abs bt_abs (ra_cons (rv 0) ra_nil)) (ra_cons (re_b cm_abs rfl T.b_abs bt_abs (ra_cons (rv 1) ra_nil)) ra_nil)))
      (rss_cons (rs_while N c.po (rt_cmp om_gt (rv 3) re_int (nomark _)) (rss_one (rs_par (i := 2) (j := 3) c.calm c.nd rfl rfl (by decide) (ra_cons (rv 3) (ra_cons (re_bin om_mod (rv 2) (rv 3)) ra_nil)))))
      (rss_cons (rs_if (rt_cmp om_lt (rv 1) re_int (nomark _)) (rss_one (rs_set (i := 2) c.nd rfl (re_bin om_sub re_int (rv 2)))) rss_nil)
      (rss_one (rs_ret (re_tup (ra_cons (re_bin om_div (rv 0) (rv 2)) (ra_cons (re_bin om_div (rv 1) (rv 2)) ra_nil))))))))
theorem fm__law_r (N : Nat) (T : Txt K mg base) {fa : Addr} {fd : FuncData} (F : FunD K "_law_r" "_law_r" (defArgs s__law_r) (defBody s__law_r) (defScope s__law_r) [] [] fa fd) : FnG P w K mg base 1 fa fd p__law_r (spM K mg p__law_r.length (C.m__law_r N)) := fk__law_r N T F
theorem ok__law_r (N : Nat) (T : Txt K mg base) : Df P w K mg base "_law_r" p__law_r 1 (C.m__law_r N) := by
  obtain ⟨fa, fd, g1, F⟩ := T.f__law_r
  exact ⟨fa, fd, g1, F.kp, F.bindsN (ps := p__law_r) fun _ _ _ _ _ _ us hl => match us, hl with | [_, _], _ => rfl, fm__law_r N T F⟩
theorem fk__law_ratio (N : Nat) (T : Txt K mg base) {fa : Addr} {fd : FuncData} (F : FunD K "_law_ratio" "_law_ratio" (defArgs s__law_ratio) (defBody s__law_ratio) (defScope s__law_ratio) [] [] fa fd) : FnG P w K mg base (1 + 1) fa fd p__law_ratio (spM K mg p__law_ratio.length (fnM n__law_ratio.length (b__law_ratio N))) := by
  apply def_okD F sc__law_ratio
  intro cdv A outer s H E c
  exact (rss_cons (rs_set (i := 1) c.nd rfl (re_bin om_sub (re_ix (re_lst (ra_cons (re_call c (ok__law_take N T) (by decide) (ra_cons (rv 0) (ra_cons re_int ra_nil))) (ra_cons (re_call c (ok__law_take N T) (by decide) (ra_cons (rv 0) (ra_cons (re_bin om_pow re_int re_int) ra_nil))) ra_nil))) (re_call c (ok__law_take N T) (by decide) (ra_cons (rv 0) (ra_cons re_int ra_nil)))) re_int))
      (rss_one (rs_ret (re_call c (ok__law_r N T) (by decide) (ra_cons (rv 1) (ra_cons (re_binS om_addS re_int (re_call c (ok__law_take N T) (by decide) (ra_cons (rv 0) (ra_cons (re_ix (re_lst (ra_cons re_int (ra_cons (re_bin om_pow re_int re_int) ra_nil))) (re_call c (ok__law_take N T) (by decide) (ra_cons (rv 0) (ra_cons re_int ra_nil)))) ra_nil)))) ra_nil))))))
theorem fm__law_ratio (N : Nat) (T : Txt K mg base) {fa : Addr} {fd : FuncData} (F : FunD K "_law_ratio" "_law_ratio" (defArgs s__law_ratio) (defBody s__law_ratio) (defScope s__law_ratio) [] [] fa fd) : FnG P w K mg base 2 fa fd p__law_ratio (spM K mg p__law_ratio.length (m__law_ratio N)) := fk__law_ratio N T F
theorem ok__law_ratio (N : Nat) (T : Txt K mg base) : Df P w K mg base "_law_ratio" p__law_ratio 2 (m__law_ratio N) := by
  obtain ⟨fa, fd, g1, F⟩ := T.f__law_ratio
  exact ⟨fa, fd, g1, F.kp, F.bindsN (ps := p__law_ratio) fun _ _ _ _ _ _ us hl => match us, hl with | [_], _ => rfl, fm__law_ratio N T F⟩
theorem fk__law_text (N : Nat) (T : Txt K mg base) {fa : Addr} {fd : FuncData} (F : FunD K "_law_text" "_law_text" (defArgs s__law_text) (defBody s__law_text) (defScope s__law_text) [] [] fa fd) : FnG P w K mg base (0 + 1) fa fd p__law_text (spM K mg p__law_text.length (fnM n__law_text.length (b__law_text N))) := by
  apply def_okD F sc__law_text
  intro cdv A outer s H E c
  exact (rss_one (rs_ret (re_binS om_addS (re_ty cm_str rfl T.b_str bt_str (ra_cons (re_ix (rv 0) re_int) ra_nil)) (re_bin om_mulS (re_binS om_addS re_str (re_ty cm_str rfl T.b_str bt_str (ra_cons (re_ix (rv 0) re_int) ra_nil))) (re_ty cm_int rfl T.b_int bt_int (ra_cons (re_cmp (om_ne c.u) (re_ix (rv 0) re_int) re_int (nomark _)) ra_nil))))))
theorem fm__law_text (N : Nat) (T : Txt K mg base) {fa : Addr} {fd : FuncData} (F : FunD K "_law_text" "_law_text" (defArgs s__law_text) (defBody s__law_text) (defScope s__law_text) [] [] fa fd) : FnG P w K mg base 1 fa fd p__law_text (spM K mg p__law_text.length (m__law_text N)) := fk__law_text N T F
theorem ok__law_text (N : Nat) (T : Txt K mg base) : Df P w K mg base "_law_text" p__law_text 1 (m__law_text N) := by
  obtain ⟨fa, fd, g1, F⟩ := T.f__law_text
  exact ⟨fa, fd, g1, F.kp, F.bindsN (ps := p__law_text) fun _ _ _ _ _ _ us hl => match us, hl with | [_], _ => rfl, fm__law_text N T F⟩
theorem fk__law_due (N : Nat) (T : Txt K mg base) {fa : Addr} {fd : FuncData} (F : FunD K "_law_due" "_law_due" (defArgs s__law_due) (defBody s__law_due) (defScope s__law_due) [] [] fa fd) : FnG P w K mg base (1 + 1) fa fd p__law_due (spM K mg p__law_due.length (fnM n__law_due.length (b__law_due N))) := by
  apply def_okD F sc__law_due
  intro cdv A outer s H E c
  exact (rss_cons (rs_if (rt_not (rt_e (re_isTy .str T.b_isinstance T.b_str bt_str (rv 0)))) (rss_one (rs_ret re_non)) rss_nil)
      (rss_cons (rs_set (i := 1) c.nd rfl (re_tm tm_split PySem.F.slot_str_split PySem.F.type_str_split (rv 0) (ra_cons re_str ra_nil)))
      (rss_cons (rs_if (rt_w (rw_or (rt_cmp om_gt (re_b cm_len rfl T.b_len bt_len (ra_cons (rv 1) ra_nil)) re_int (nomark _)) (rw_or (rt_cmpS om_inL re_str (rv 1)) (rw_or1 (rt_not (rt_e (re_b (cm_all c.calm) rfl T.b_all bt_all (ra_cons (re_lc [("_law_sign", 4)] c.calm c.nd (ri_str (rv 0)) (blkOk_by (own := [("_law_sign", 4)]) (N := n__law_due) (sc := defScope s__law_due) (by decide +kernel)) (by decide) (fun _ _ _ _ _ => (pg_name (i := 4) c.nd rfl (by first | exact Or.inl rfl | exact Or.inr rfl))) (fun _ _ _ _ _ => pts0) (fun _ _ _ _ _ => (re_cmpS om_in (rv 4) re_str))) ra_nil)))))))) (rss_one (rs_ret re_non)) rss_nil)
      (rss_cons (rs_if (rt_w (rw_or (rt_cmpS om_in re_str (re_sl (rv 0) (ro_some re_int) ro_none)) (rw_or1 (rt_cmp (om_eq c.u) (re_ix (rv 1) re_int) re_str (nomark _))))) (rss_one (rs_ret re_non)) rss_nil)
      (rss_cons (rs_set (i := 2) c.nd rfl (re_binS om_addS (re_lc [("_law_part", 3)] c.calm c.nd (ri_e (rv 1)) (blkOk_by (own := [("_law_part", 3)]) (N := n__law_due) (sc := defScope s__law_due) (by decide +kernel)) (by decide) (fun _ _ _ _ _ => (pg_name (i := 3) c.nd rfl (by first | exact Or.inl rfl | exact Or.inr rfl))) (fun _ _ _ _ _ => pts0) (fun _ _ _ _ _ => (re_ty cm_intS rfl T.b_int bt_int (ra_cons (rv 3) ra_nil)))) (re_lst (ra_cons re_int ra_nil))))
      (rss_cons (rs_if (rt_w (rw_or (rt_cmp om_lt (re_ix (rv 2) re_int) re_int (nomark _)) (rw_or1 (rt_cmp (om_ne c.u) (re_call c (ok__law_text N T) (by decide) (ra_cons (re_call c (ok__law_r N T) (by decide) (ra_cons (re_ix (rv 2) re_int) (ra_cons (re_ix (rv 2) re_int) ra_nil))) ra_nil)) (rv 0) (nomark _))))) (rss_one (rs_ret re_non)) rss_nil)
      (rss_one (rs_ret (re_call c (ok__law_r N T) (by decide) (ra_cons (re_ix (rv 2) re_int) (ra_cons (re_ix (rv 2) re_int) ra_nil)))))))))))
theorem fm__law_due (N : Nat) (T : Txt K mg base) {fa : Addr} {fd : FuncData} (F : FunD K "_law_due" "_law_due" (defArgs s__law_due) (defBody s__law_due) (defScope s__law_due) [] [] fa fd) : FnG P w K mg base 2 fa fd p__law_due (spM K mg p__law_due.length (m__law_due N)) := fk__law_due N T F
theorem ok__law_due (N : Nat) (T : Txt K mg base) : Df P w K mg base "_law_due" p__law_due 2 (m__law_due N) := by
  obtain ⟨fa, fd, g1, F⟩ := T.f__law_due
  exact ⟨fa, fd, g1, F.kp, F.bindsN (ps := p__law_due) fun _ _ _ _ _ _ us hl => match us, hl with | [_], _ => rfl, fm__law_due N T F⟩
theorem fk_is_number (N : Nat) (T : Txt K mg base) {fa : Addr} {fd : FuncData} (F : FunD K "is_number" "is_number" (defArgs s_is_number) (defBody s_is_number) (defScope s_is_number) [] [] fa fd) : FnG P w K mg base (0 + 1) fa fd p_is_number (spM K mg p_is_number.length (fnM n_is_number.length (b_is_number N))) := by
  obtain ⟨k0_FIGURES, g_FIGURES⟩ := T.c_FIGURES
  apply def_okD F sc_is_number
  intro cdv A outer s H E c
  exact (rss_one (rs_ret (re_and (re_cmp (om_ne c.u) (rv 0) re_str (nomark _)) (re_one (re_b (cm_all c.calm) rfl T.b_all bt_all (ra_cons (re_lc [("sign", 1)] c.calm c.nd (ri_str (rv 0)) (blkOk_by (own := [("sign", 1)]) (N := n_is_number) (sc := defScope s_is_number) (by decide +kernel)) (by decide) (fun _ _ _ _ _ => (pg_name (i := 1) c.nd rfl (by first | exact Or.inl rfl | exact Or.inr rfl))) (fun _ _ _ _ _ => pts0) (fun _ _ _ _ _ => (re_cmpS om_in (rv 1) (re_glob (v := .str "0123456789") rfl g_FIGURES ⟨_, rfl⟩ (fun _ => .str _))))) ra_nil))))))
theorem fm_is_number (N : Nat) (T : Txt K mg base) {fa : Addr} {fd : FuncData} (F : FunD K "is_number" "is_number" (defArgs s_is_number) (defBody s_is_number) (defScope s_is_number) [] [] fa fd) : FnG P w K mg base 1 fa fd p_is_number (spM K mg p_is_number.length (m_is_number N)) := fk_is_number N T F
theorem ok_is_number (N : Nat) (T : Txt K mg base) : Df P w K mg base "is_number" p_is_number 1 (m_is_number N) := by
  obtain ⟨fa, fd, g1, F⟩ := T.f_is_number
  exact ⟨fa, fd, g1, F.kp, F.bindsN (ps := p_is_number) fun _ _ _ _ _ _ us hl => match us, hl with | [_], _ => rfl, fm_is_number N T F⟩
theorem fk_show_ratio (N : Nat) (T : Txt K mg base) {fa : Addr} {fd : FuncData} (F : FunD K "show_ratio" "show_ratio" (defArgs s_show_ratio) (defBody s_show_ratio) (defScope s_show_ratio) [] [] fa fd) : FnG P w K mg base (3 + 1) fa fd p_show_ratio (spM K mg p_show_ratio.length (fnM n_show_ratio.length (C.b_show_ratio N))) := by
  apply def_okD F sc_show_ratio
  intro cdv A outer s H E c
  exact (rss_cons (rs_expr (re_call c (ok_check_ratio N T) (by decide) (ra_cons (rv 0) ra_nil)))
      (rss_cons (rs_asg (rv 0) (rg_tup c.calm (rgs_cons (rg_name (i := 1) c.nd rfl) (rgs_cons (rg_name (i := 2) c.nd rfl) rgs_nil))))
      (rss_cons (rs_if (rt_cmp (om_eq c.u) (rv 2) re_int (nomark _)) (rss_one (rs_ret (re_ty cm_str rfl T.b_str bt_str (ra_cons (rv 1) ra_nil)))) rss_nil)
      (rss_one (rs_ret (re_js (.cons (re_fmt (rv 1)) (.cons re_str (.cons (re_fmt (rv 2)) .nil)))))))))
theorem fm_show_ratio (N : Nat) (T : Txt K mg base) {fa : Addr} {fd : FuncData} (F : FunD K "show_ratio" "show_ratio" (defArgs s_show_ratio) (defBody s_show_ratio) (defScope s_show_ratio) [] [] fa fd) : FnG P w K mg base 4 fa fd p_show_ratio (spM K mg p_show_ratio.length (C.m_show_ratio N)) := fk_show_ratio N T F
theorem ok_show_ratio (N : Nat) (T : Txt K mg base) : Df P w K mg base "show_ratio" p_show_ratio 4 (C.m_show_ratio N) := by
  obtain ⟨fa, fd, g1, F⟩ := T.f_show_ratio
  exact ⟨fa, fd, g1, F.kp, F.bindsN (ps := p_show_ratio) fun _ _ _ _ _ _ us hl => match us, hl with | [_], _ => rfl, fm_show_ratio N T F⟩
theorem fk_read_ratio (N : Nat) (T : Txt K mg base) {fa : Addr} {fd : FuncData} (F : FunD K "read_ratio" "read_ratio" (defArgs s_read_ratio) (defBody s_read_ratio) (defScope s_read_ratio) [] [] fa fd) : FnG P w K mg base (4 + 1) fa fd p_read_ratio (spM K mg p_read_ratio.length (fnM n_read_ratio.length (b_read_ratio N))) := by
  apply def_okD F sc_read_ratio
  intro cdv A outer s H E c
  exact (rss_cons (rs_if (rt_not (rt_e (re_isTy .str T.b_isinstance T.b_str bt_str (rv 0)))) (rss_one (rs_raiseF 4 4 c fam_ValueError (xi_NoText T) re_int)) rss_nil)
      (rss_cons (rs_set (i := 1) c.nd rfl (re_cmp (om_eq c.u) (re_sl (rv 0) ro_none (ro_some re_int)) re_str (nomark _)))
      (rss_cons (rs_asg (re_tm tm_partition PySem.F.slot_str_partition PySem.F.type_str_partition (re_sl (rv 0) (ro_some (re_ty cm_intS rfl T.b_int bt_int (ra_cons (rv 1) ra_nil))) ro_none) (ra_cons re_str ra_nil)) (rg_tup c.calm (rgs_cons (rg_name (i := 2) c.nd rfl) (rgs_cons (rg_name (i := 3) c.nd rfl) (rgs_cons (rg_name (i := 4) c.nd rfl) rgs_nil)))))
      (rss_cons (rs_if (rt_w (rw_or (rt_not (rt_e (re_call c (ok_is_number N T) (by decide) (ra_cons (rv 2) ra_nil)))) (rw_or1 (rt_w (rw_and (rt_cmp (om_ne c.u) (rv 3) re_str (nomark _)) (rw_and1 (rt_w (rw_or (rt_not (rt_e (re_call c (ok_is_number N T) (by decide) (ra_cons (rv 4) ra_nil)))) (rw_or1 (rt_cmp (om_eq c.u) (re_ty cm_intS rfl T.b_int bt_int (ra_cons (rv 4) ra_nil)) re_int (nomark _))))))))))) (rss_one (rs_raiseF 4 4 c fam_ValueError (xi_NoText T) re_int)) rss_nil)
      (rss_cons (rs_set (i := 5) c.nd rfl (re_call c (ok_lowest N T) (by decide) (ra_cons (re_bin om_mul (re_ty cm_intS rfl T.b_int bt_int (ra_cons (rv 2) ra_nil)) (re_ix (re_lst (ra_cons re_int (ra_cons (re_neg re_int) ra_nil))) (re_ty cm_intS rfl T.b_int bt_int (ra_cons (rv 1) ra_nil)))) (ra_cons (re_ty cm_intS rfl T.b_int bt_int (ra_cons (re_or (rv 4) (re_one re_str)) ra_nil)) ra_nil))))
      (rss_cons (rs_if (rt_cmp (om_ne c.u) (re_call c (ok_show_ratio N T) (by decide) (ra_cons (rv 5) ra_nil)) (rv 0) (nomark _)) (rss_one (rs_raiseF 4 4 c fam_ValueError (xi_NoText T) re_int)) rss_nil)
      (rss_one (rs_ret (rv 5)))))))))
theorem fm_read_ratio (N : Nat) (T : Txt K mg base) {fa : Addr} {fd : FuncData} (F : FunD K "read_ratio" "read_ratio" (defArgs s_read_ratio) (defBody s_read_ratio) (defScope s_read_ratio) [] [] fa fd) : FnG P w K mg base 5 fa fd p_read_ratio (spM K mg p_read_ratio.length (m_read_ratio N)) := fk_read_ratio N T F
theorem ok_read_ratio (N : Nat) (T : Txt K mg base) : Df P w K mg base "read_ratio" p_read_ratio 5 (m_read_ratio N) := by
  obtain ⟨fa, fd, g1, F⟩ := T.f_read_ratio
  exact ⟨fa, fd, g1, F.kp, F.bindsN (ps := p_read_ratio) fun _ _ _ _ _ _ us hl => match us, hl with | [_], _ => rfl, fm_read_ratio N T F⟩
theorem fk__law_read_right (N : Nat) (T : Txt K mg base) {fa : Addr} {fd : FuncData} (F : FunD K "_law_read_right" "_law_read_right" (defArgs s__law_read_right) (defBody s__law_read_right) (defScope s__law_read_right) [] [] fa fd) (he : fa = He.fAd K mk__law_read_right.1) : FnG P w K mg base (8 + 1) fa fd p__law_read_right (spM K mg p__law_read_right.length (fnM n__law_read_right.length (b__law_read_right N))) := by
  subst he
  apply def_okL (p := mk__law_read_right.1) F sc__law_read_right
  intro cdv A outer s H E hc c
  exact (rss_cons (rs_par (i := 1) (j := 2) c.calm c.nd rfl rfl (by decide) (ra_cons (re_call c (ok__law_due N T) (by decide) (ra_cons (rv 0) ra_nil)) (ra_cons (re_callH0 c (oh__law_caught N T) (by decide)  (la_lam (prm := none) (js := [0]) (nT := 1) (p := mk__law_read_right.1) (q := mk__law_read_right.2) (kb := 5) (lamP_by (sc := defScope s__law_read_right) (caps := ["_law_text_here"]) (by decide +kernel)) (show ∀ j ∈ ([0] : List Nat), j < 3 by decide) (by decide) (show (["_law_text_here"] : List Str).Nodup by decide +kernel) rfl (T.tb mk__law_read_right (by simp [tsL])) hc rfl (fun _ _ _ _ us h => match us, h with | [], _ => rfl) (fun _ _ _ _ _ _ _ c => (re_call c (ok_read_ratio N T) (by decide) (ra_cons (rv 0) ra_nil)))) (by decide) rfl (by decide)) ra_nil)))
      (rss_cons (rs_if (rt_cmp om_isnot (rv 1) re_non (nomark _)) (rss_one (rs_ret (re_and (re_cmp om_is (rv 2) re_non (nomark _)) (re_one (re_cmp (om_eq c.u) (re_call c (ok_read_ratio N T) (by decide) (ra_cons (rv 0) ra_nil)) (rv 1) (nomark _)))))) rss_nil)
      (rss_cons (rs_if (rt_w (rw_or (rt_cmp om_is (rv 2) re_non (nomark _)) (rw_or1 (rt_cmp (om_ne c.u) (re_call c (ok__law_kinds N T) (by decide) (ra_cons (rv 2) ra_nil)) (re_lst (ra_cons re_str ra_nil)) (nomark _))))) (rss_one (rs_ret re_bl)) rss_nil)
      (rss_one (rs_ret (re_and (re_cmp (om_eq c.u) (re_fldY 4 T.z_row (rv 2)) re_int (nomark _)) (re_one (re_not (re_isTy .bool T.b_isinstance T.b_bool bt_bool (re_fldY 4 T.z_row (rv 2)))))))))))
theorem fm__law_read_right (N : Nat) (T : Txt K mg base) {fa : Addr} {fd : FuncData} (F : FunD K "_law_read_right" "_law_read_right" (defArgs s__law_read_right) (defBody s__law_read_right) (defScope s__law_read_right) [] [] fa fd) (he : fa = He.fAd K mk__law_read_right.1) : FnG P w K mg base 9 fa fd p__law_read_right (spM K mg p__law_read_right.length (m__law_read_right N)) := fk__law_read_right N T F he
theorem ok__law_read_right (N : Nat) (T : Txt K mg base) : Df P w K mg base "_law_read_right" p__law_read_right 9 (m__law_read_right N) := by
  obtain ⟨fa, fd, g1, F⟩ := T.f__law_read_right
  exact ⟨fa, fd, g1, F.kp, F.bindsN (ps := p__law_read_right) fun _ _ _ _ _ _ us hl => match us, hl with | [_], _ => rfl, fm__law_read_right N T F (T.fe__law_read_right _ g1)⟩
theorem fk_law (N : Nat) (T : Txt K mg base) {fa : Addr} {fd : FuncData} (F : FunD K "law" "law" (defArgs s_law) (defBody s_law) (defScope s_law) [] [] fa fd) (he : fa = He.fAd K mk_law.1) : FnG P w K mg base (10 + 1) fa fd p_law (spM K mg p_law.length (fnM n_law.length (b_law N))) := by
  subst he
  apply def_okL (p := mk_law.1) F sc_law
  intro cdv A outer s H E hc c
  exact (rss_cons (rs_for c.po c.calm (ri_range1 T.b_range (ra_cons (re_b (cm_max c.calm) rfl T.b_max bt_max (ra_cons re_int (ra_cons (re_b (cm_min c.calm) rfl T.b_min bt_min (ra_cons (re_b cm_len rfl T.b_len bt_len (ra_cons (rv 0) ra_nil)) (ra_cons re_int ra_nil))) ra_nil))) ra_nil)) (rg_name (i := 1) c.nd rfl) (rss_cons (rs_set (i := 2) c.nd rfl (re_call c (ok__law_pool N T) (by decide) (ra_cons (re_call c (ok__law_cell N T) (by decide) (ra_cons (rv 0) (ra_cons (rv 1) ra_nil))) ra_nil)))
      (rss_one (rs_for c.po c.calm (ri_range1 T.b_range (ra_cons re_int ra_nil)) (rg_name (i := 3) c.nd rfl) (rss_cons (rs_asg (re_tup (ra_cons (re_call c (ok__law_ratio N T) (by decide) (ra_cons (rv 2) ra_nil)) (ra_cons (re_call c (ok__law_ratio N T) (by decide) (ra_cons (rv 2) ra_nil)) ra_nil))) (rg_tup c.calm (rgs_cons (rg_name (i := 4) c.nd rfl) (rgs_cons (rg_name (i := 5) c.nd rfl) rgs_nil))))
      (rss_cons (rs_set (i := 6) c.nd rfl (re_call c (ok__law_odd N T) (by decide) (ra_cons (rv 2) ra_nil)))
      (rss_cons (rs_set (i := 7) c.nd rfl (re_ix (re_lst (ra_cons re_str (ra_cons re_str ra_nil))) (re_ty cm_int rfl T.b_int bt_int (ra_cons (re_cmp (om_ne c.u) (re_ix (rv 5) re_int) re_int (nomark _)) ra_nil))))
      (rss_cons (rs_if (rt_cmpS (om_neS c.u) (re_call c (ok__law_deeds N T) (by decide) (ra_cons (rv 4) (ra_cons (rv 5) ra_nil))) (re_binS om_addS (re_bin om_mulL (re_lst (ra_cons re_str ra_nil)) re_int) (re_lst (ra_cons (rv 7) ra_nil)))) (rss_one (rs_ret re_bl)) rss_nil)
      (rss_cons (rs_if (rt_cmpS (om_neS c.u) (re_call c (ok__law_deeds N T) (by decide) (ra_cons (rv 4) (ra_cons (re_tup (ra_cons re_int (ra_cons re_int ra_nil))) ra_nil))) (re_binS om_addS (re_bin om_mulL (re_lst (ra_cons re_str ra_nil)) re_int) (re_lst (ra_cons re_str ra_nil)))) (rss_one (rs_ret re_bl)) rss_nil)
      (rss_cons (rs_set (i := 8) c.nd rfl (re_lst (ra_cons (re_tup (ra_cons (rv 6) (ra_cons (rv 5) ra_nil))) (ra_cons (re_tup (ra_cons (rv 4) (ra_cons (rv 6) ra_nil))) (ra_cons (re_tup (ra_cons (rv 6) (ra_cons (rv 6) ra_nil))) (ra_cons (re_tup (ra_cons (rv 6) (ra_cons (re_tup (ra_cons re_int (ra_cons re_int ra_nil))) ra_nil))) ra_nil))))))
      (rss_cons (rs_for c.po c.calm (ri_e (rv 8)) (rg_tup c.calm (rgs_cons (rg_name (i := 9) c.nd rfl) (rgs_cons (rg_name (i := 10) c.nd rfl) rgs_nil))) (rss_one (rs_if (rt_cmpS (om_neS c.u) (re_call c (ok__law_deeds N T) (by decide) (ra_cons (rv 9) (ra_cons (rv 10) ra_nil))) (re_bin om_mulL (re_lst (ra_cons re_str ra_nil)) re_int)) (rss_one (rs_ret re_bl)) rss_nil)))
      (rss_cons (rs_if (rt_cmp (om_ne c.u) (re_callH2_0 c (oh__law_word N T) (by decide) (LA2.mono (la_lam2 (prm := none) (js := [6]) (nT := 2) (p := mk_law.1) (q := mk_law.2) (kb := 4) (lamP_by (sc := defScope s_law) (caps := ["_law_odd_here"]) (by decide +kernel)) (show ∀ j ∈ ([6] : List Nat), j < 19 by decide) (by decide) (show (["_law_odd_here"] : List Str).Nodup by decide +kernel) rfl (T.tb mk_law (by simp [tsL])) hc rfl (fun _ _ _ _ us h => match us, h with | [], _ => rfl) (fun _ _ _ _ _ _ _ c => (re_call c (ok_show_ratio N T) (by decide) (ra_cons (rv 0) ra_nil)))) (by decide)) (by decide) rfl (by decide)) re_str (nomark _)) (rss_one (rs_ret re_bl)) rss_nil)
      (rss_cons (rs_if (rt_cmp (om_ne c.u) (re_callH2_0 c (oh__law_word N T) (by decide) (LA2.mono (la_lam2 (prm := none) (js := [4]) (nT := 2) (p := mk_law.1) (q := mk_law.2) (kb := 4) (lamP_by (sc := defScope s_law) (caps := ["_law_one"]) (by decide +kernel)) (show ∀ j ∈ ([4] : List Nat), j < 19 by decide) (by decide) (show (["_law_one"] : List Str).Nodup by decide +kernel) rfl (T.tb mk_law (by simp [tsL])) hc rfl (fun _ _ _ _ us h => match us, h with | [], _ => rfl) (fun _ _ _ _ _ _ _ c => (re_call c (ok_show_ratio N T) (by decide) (ra_cons (rv 0) ra_nil)))) (by decide)) (by decide) rfl (by decide)) re_str (nomark _)) (rss_one (rs_ret re_bl)) rss_nil)
      (rss_cons (rs_set (i := 11) c.nd rfl (re_ix (re_lst (ra_cons re_non (ra_cons re_bl (ra_cons re_str (ra_cons (re_tup (ra_cons re_int ra_nil)) (ra_cons (re_lst (ra_cons re_int ra_nil)) (ra_cons re_dic0 (ra_cons (re_tup ra_nil) (ra_cons re_bl ra_nil))))))))) (re_call c (ok__law_take N T) (by decide) (ra_cons (rv 2) (ra_cons re_int ra_nil)))))
      (rss_cons (rs_for c.po c.calm (ri_e (re_lst (ra_cons (re_tup (ra_cons (rv 11) (ra_cons re_int ra_nil))) (ra_cons (re_tup (ra_cons re_int (ra_cons (rv 11) ra_nil))) (ra_cons (re_tup (ra_cons (rv 11) (ra_cons (rv 11) ra_nil))) (ra_cons (re_tup (ra_cons (rv 11) (ra_cons re_int ra_nil))) (ra_cons (re_tup (ra_cons re_int (ra_cons re_int ra_nil))) ra_nil))))))) (rg_tup c.calm (rgs_cons (rg_name (i := 12) c.nd rfl) (rgs_cons (rg_name (i := 13) c.nd rfl) rgs_nil))) (rss_one (rs_if (rt_cmp (om_ne c.u) (re_callH2_0 c (oh__law_word N T) (by decide) (LA2.mono (la_lam2 (prm := none) (js := [12, 13]) (nT := 2) (p := mk_law.1) (q := mk_law.2) (kb := 3) (lamP_by (sc := defScope s_law) (caps := ["_law_top", "_law_bottom"]) (by decide +kernel)) (show ∀ j ∈ ([12, 13] : List Nat), j < 19 by decide) (by decide) (show (["_law_top", "_law_bottom"] : List Str).Nodup by decide +kernel) rfl (T.tb mk_law (by simp [tsL])) hc rfl (fun _ _ _ _ us h => match us, h with | [], _ => rfl) (fun _ _ _ _ _ _ _ c => (re_call c (ok_ratio N T) (by decide) (ra_cons (rv 0) (ra_cons (rv 1) ra_nil))))) (by decide)) (by decide) rfl (by decide)) re_str (nomark _)) (rss_one (rs_ret re_bl)) rss_nil)))
      (rss_cons (rs_if (rt_cmp (om_ne c.u) (re_callH2_0 c (oh__law_word N T) (by decide) (LA2.mono (la_lam2 (prm := none) (js := [11]) (nT := 2) (p := mk_law.1) (q := mk_law.2) (kb := 3) (lamP_by (sc := defScope s_law) (caps := ["_law_thing"]) (by decide +kernel)) (show ∀ j ∈ ([11] : List Nat), j < 19 by decide) (by decide) (show (["_law_thing"] : List Str).Nodup by decide +kernel) rfl (T.tb mk_law (by simp [tsL])) hc rfl (fun _ _ _ _ us h => match us, h with | [], _ => rfl) (fun _ _ _ _ _ _ _ c => (re_callK c (dk_ratio_1_ N T) (by decide) (ra_cons (rv 0) ra_nil) rk_nil))) (by decide)) (by decide) rfl (by decide)) re_str (nomark _)) (rss_one (rs_ret re_bl)) rss_nil)
      (rss_cons (rs_if (rt_cmp (om_ne c.u) (re_callH2_0 c (oh__law_word N T) (by decide) (LA2.mono (la_lam2 (prm := none) (js := []) (nT := 2) (p := mk_law.1) (q := mk_law.2) (kb := 3) (lamP_by (sc := defScope s_law) (caps := []) (by decide +kernel)) (show ∀ j ∈ ([] : List Nat), j < 19 by decide) (by decide) (show ([] : List Str).Nodup by decide +kernel) rfl (T.tb mk_law (by simp [tsL])) hc rfl (fun _ _ _ _ us h => match us, h with | [], _ => rfl) (fun _ _ _ _ _ _ _ c => (re_call c (ok_ratio N T) (by decide) (ra_cons re_int (ra_cons (re_neg re_int) ra_nil))))) (by decide)) (by decide) rfl (by decide)) re_str (nomark _)) (rss_one (rs_ret re_bl)) rss_nil)
      (rss_cons (rs_set (i := 14) c.nd rfl (re_call c (ok__law_text N T) (by decide) (ra_cons (rv 4) ra_nil)))
      (rss_cons (rs_set (i := 15) c.nd rfl (re_call c (ok__law_take N T) (by decide) (ra_cons (rv 2) (ra_cons (re_binS om_addS (re_b cm_len rfl T.b_len bt_len (ra_cons (rv 14) ra_nil)) re_int) ra_nil))))
      (rss_cons (rs_set (i := 16) c.nd rfl (re_ix re_str (re_call c (ok__law_take N T) (by decide) (ra_cons (rv 2) (ra_cons re_int ra_nil)))))
      (rss_cons (rs_set (i := 17) c.nd rfl (re_new (ra_cons (rv 14) (ra_cons (re_binS om_addS (re_binS om_addS (re_sl (rv 14) ro_none (ro_some (rv 15))) (rv 16)) (re_sl (rv 14) (ro_some (rv 15)) ro_none)) (ra_cons (re_binS om_addS (re_sl (rv 14) ro_none (ro_some (rv 15))) (re_sl (rv 14) (ro_some (re_binS om_addS (rv 15) re_int)) ro_none)) ra_nil)))))
      (rss_cons (rs_expr (re_app (rv 17) (ra_cons (re_binS om_addS (re_binS om_addS (re_sl (rv 14) ro_none (ro_some (rv 15))) (rv 16)) (re_sl (rv 14) (ro_some (re_binS om_addS (rv 15) re_int)) ro_none)) ra_nil)))
      (rss_one (rs_for c.po c.calm (ri_e (re_binS om_addS (rv 17) (re_lst (ra_cons (re_binS om_addS re_str (rv 14)) (ra_cons (re_binS om_addS (rv 14) re_str) (ra_cons re_str (ra_cons re_str (ra_cons re_str (ra_cons (re_binS om_addS re_str (rv 14)) (ra_cons (rv 11) (ra_cons (rv 6) (ra_cons re_str ra_nil)))))))))))) (rg_name (i := 18) c.nd rfl) (rss_one (rs_if (rt_not (rt_e (re_call c (ok__law_read_right N T) (by decide) (ra_cons (rv 18) ra_nil)))) (rss_one (rs_ret re_bl)) rss_nil))))))))))))))))))))))))))
      (rss_one (rs_ret re_bl)))
theorem fm_law (N : Nat) (T : Txt K mg base) {fa : Addr} {fd : FuncData} (F : FunD K "law" "law" (defArgs s_law) (defBody s_law) (defScope s_law) [] [] fa fd) (he : fa = He.fAd K mk_law.1) : FnG P w K mg base 11 fa fd p_law (spM K mg p_law.length (m_law N)) := fk_law N T F he
end
theorem txt_mk {K : PySem.W.Frag} {h base : Heap} {mg : Str → Option Value} (X : K.In h) (Y : h.Ns mainGlobals mg) (c : SaysX fxAll fnAll K) (B : TBs K mg base tsL) : Txt K mg base where
  tb := B
  b_ArithmeticError := free_at X Y (c.fact 0 (f := fx_0)) 0
  b_LookupError := free_at X Y (c.fact 0 (f := fx_0)) 1
  b_ValueError := free_at X Y (c.fact 0 (f := fx_0)) 2
  b_abs := free_at X Y (c.fact 0 (f := fx_0)) 3
  b_all := free_at X Y (c.fact 0 (f := fx_0)) 4
  b_bool := free_at X Y (c.fact 0 (f := fx_0)) 5
  b_divmod := free_at X Y (c.fact 0 (f := fx_0)) 6
  b_int := free_at X Y (c.fact 0 (f := fx_0)) 7
  b_isinstance := free_at X Y (c.fact 0 (f := fx_0)) 8
  b_len := free_at X Y (c.fact 0 (f := fx_0)) 9
  b_max := free_at X Y (c.fact 0 (f := fx_0)) 10
  b_min := free_at X Y (c.fact 0 (f := fx_0)) 11
  b_range := free_at X Y (c.fact 0 (f := fx_0)) 12
  b_str := free_at X Y (c.fact 0 (f := fx_0)) 13
  b_tuple := free_at X Y (c.fact 0 (f := fx_0)) 14
  c_FIGURES := str_at X Y (c.fact 5 (f := fx_5))
  f__law_cell := (c.def_ 0 (d := d__law_cell)).elim fun fd F => ⟨_, fd, (glo_at X Y (c.fact 1 (f := fx_1)) 0), F⟩
  f__law_caught := (c.def_ 1 (d := d__law_caught)).elim fun fd F => ⟨_, fd, (glo_at X Y (c.fact 1 (f := fx_1)) 1), F⟩
  f__law_kinds := (c.def_ 2 (d := d__law_kinds)).elim fun fd F => ⟨_, fd, (glo_at X Y (c.fact 1 (f := fx_1)) 2), F⟩
  f__law_word := (c.def_ 3 (d := d__law_word)).elim fun fd F => ⟨_, fd, (glo_at X Y (c.fact 1 (f := fx_1)) 3), F⟩
  f_is_whole := (c.def_ 4 (d := d_is_whole)).elim fun fd F => ⟨_, fd, (glo_at X Y (c.fact 1 (f := fx_1)) 4), F⟩
  f_shared := (c.def_ 5 (d := d_shared)).elim fun fd F => ⟨_, fd, (glo_at X Y (c.fact 1 (f := fx_1)) 5), F⟩
  f_is_ratio := (c.def_ 6 (d := d_is_ratio)).elim fun fd F => ⟨_, fd, (glo_at X Y (c.fact 1 (f := fx_1)) 6), F⟩
  f_check_ratio := (c.def_ 7 (d := d_check_ratio)).elim fun fd F => ⟨_, fd, (glo_at X Y (c.fact 1 (f := fx_1)) 7), F⟩
  f_check_two := (c.def_ 8 (d := d_check_two)).elim fun fd F => ⟨_, fd, (glo_at X Y (c.fact 1 (f := fx_1)) 8), F⟩
  f_lowest := (c.def_ 9 (d := d_lowest)).elim fun fd F => ⟨_, fd, (glo_at X Y (c.fact 1 (f := fx_1)) 9), F⟩
  f_added := (c.def_ 10 (d := d_added)).elim fun fd F => ⟨_, fd, (glo_at X Y (c.fact 1 (f := fx_1)) 10), F⟩
  f_is_before := (c.def_ 11 (d := d_is_before)).elim fun fd F => ⟨_, fd, (glo_at X Y (c.fact 1 (f := fx_1)) 11), F⟩
  f_greater := (c.def_ 12 (d := d_greater)).elim fun fd F => ⟨_, fd, (glo_at X Y (c.fact 1 (f := fx_1)) 12), F⟩
  f_lowered := (c.def_ 13 (d := d_lowered)).elim fun fd F => ⟨_, fd, (glo_at X Y (c.fact 1 (f := fx_1)) 13), F⟩
  f_ratio := (c.def_ 14 (d := d_ratio)).elim fun fd F => ⟨_, fd, (glo_at X Y (c.fact 1 (f := fx_1)) 14), F⟩
  f_parted := (c.def_ 15 (d := d_parted)).elim fun fd F => ⟨_, fd, (glo_at X Y (c.fact 1 (f := fx_1)) 15), F⟩
  f_scaled := (c.def_ 16 (d := d_scaled)).elim fun fd F => ⟨_, fd, (glo_at X Y (c.fact 1 (f := fx_1)) 16), F⟩
  f__law_deeds := (c.def_ 17 (d := d__law_deeds)).elim fun fd F => ⟨_, fd, (glo_at X Y (c.fact 1 (f := fx_1)) 17), F⟩
  f__law_take := (c.def_ 18 (d := d__law_take)).elim fun fd F => ⟨_, fd, (glo_at X Y (c.fact 1 (f := fx_1)) 18), F⟩
  f__law_odd := (c.def_ 19 (d := d__law_odd)).elim fun fd F => ⟨_, fd, (glo_at X Y (c.fact 1 (f := fx_1)) 19), F⟩
  f__law_pool := (c.def_ 20 (d := d__law_pool)).elim fun fd F => ⟨_, fd, (glo_at X Y (c.fact 2 (f := fx_2)) 0), F⟩
  f__law_r := (c.def_ 21 (d := d__law_r)).elim fun fd F => ⟨_, fd, (glo_at X Y (c.fact 2 (f := fx_2)) 1), F⟩
  f__law_ratio := (c.def_ 22 (d := d__law_ratio)).elim fun fd F => ⟨_, fd, (glo_at X Y (c.fact 2 (f := fx_2)) 2), F⟩
  f__law_text := (c.def_ 23 (d := d__law_text)).elim fun fd F => ⟨_, fd, (glo_at X Y (c.fact 2 (f := fx_2)) 3), F⟩
  f__law_due := (c.def_ 24 (d := d__law_due)).elim fun fd F => ⟨_, fd, (glo_at X Y (c.fact 2 (f := fx_2)) 4), F⟩
  f_is_number := (c.def_ 25 (d := d_is_number)).elim fun fd F => ⟨_, fd, (glo_at X Y (c.fact 2 (f := fx_2)) 5), F⟩
  f_show_ratio := (c.def_ 26 (d := d_show_ratio)).elim fun fd F => ⟨_, fd, (glo_at X Y (c.fact 2 (f := fx_2)) 6), F⟩
  f_read_ratio := (c.def_ 27 (d := d_read_ratio)).elim fun fd F => ⟨_, fd, (glo_at X Y (c.fact 2 (f := fx_2)) 7), F⟩
  f__law_read_right := (c.def_ 28 (d := d__law_read_right)).elim fun fd F => ⟨_, fd, (glo_at X Y (c.fact 2 (f := fx_2)) 8), F⟩
  f_law := (c.def_ 29 (d := d_law)).elim fun fd F => ⟨_, fd, (glo_at X Y (c.fact 2 (f := fx_2)) 9), F⟩
  y_NoText := (c.def_ 30 (d := d_NoText___init__)).elim fun fd F => ⟨_, _, fd, _, (glo_at X Y (c.fact 3 (f := fx_3)) 11), xoB_ok (c.fact 6 (f := fx_6)), (iniB_ok (c.fact 7 (f := fx_7))).1, (iniB_ok (c.fact 7 (f := fx_7))).2.1, (iniB_ok (c.fact 7 (f := fx_7))).2.2, (glo_at X Y (c.fact 4 (f := fx_4)) 0), hdB_ok (c.fact 8 (f := fx_8)), F⟩
  z_row := xcf_at X Y (cs := [4, 17, 20]) (f := 4) (c.fact 9 (f := fx_9))
  x_Full := ⟨_, (glo_at X Y (c.fact 2 (f := fx_2)) 10)⟩
  x_LostError := ⟨_, (glo_at X Y (c.fact 2 (f := fx_2)) 11)⟩
  x_NoAsk := ⟨_, (glo_at X Y (c.fact 2 (f := fx_2)) 12)⟩
  x_NoClient := ⟨_, (glo_at X Y (c.fact 2 (f := fx_2)) 13)⟩
  x_NoDeeds := ⟨_, (glo_at X Y (c.fact 2 (f := fx_2)) 14)⟩
  x_NoLeast := ⟨_, (glo_at X Y (c.fact 2 (f := fx_2)) 15)⟩
  x_NoLeasts := ⟨_, (glo_at X Y (c.fact 2 (f := fx_2)) 16)⟩
  x_NoLess := ⟨_, (glo_at X Y (c.fact 2 (f := fx_2)) 17)⟩
  x_NoLog := ⟨_, (glo_at X Y (c.fact 2 (f := fx_2)) 18)⟩
  x_NoName := ⟨_, (glo_at X Y (c.fact 2 (f := fx_2)) 19)⟩
  x_NoNumber := ⟨_, (glo_at X Y (c.fact 3 (f := fx_3)) 0)⟩
  x_NoOne := ⟨_, (glo_at X Y (c.fact 3 (f := fx_3)) 1)⟩
  x_NoPlace := ⟨_, (glo_at X Y (c.fact 3 (f := fx_3)) 2)⟩
  x_NoPlan := ⟨_, (glo_at X Y (c.fact 3 (f := fx_3)) 3)⟩
  x_NoRate := ⟨_, (glo_at X Y (c.fact 3 (f := fx_3)) 4)⟩
  x_NoRatio := ⟨_, (glo_at X Y (c.fact 3 (f := fx_3)) 5), xcoB_ok (c.fact 10 (f := fx_10))⟩
  x_NoRivals := ⟨_, (glo_at X Y (c.fact 3 (f := fx_3)) 6)⟩
  x_NoRow := ⟨_, (glo_at X Y (c.fact 3 (f := fx_3)) 7)⟩
  x_NoSize := ⟨_, (glo_at X Y (c.fact 3 (f := fx_3)) 8)⟩
  x_NoStretch := ⟨_, (glo_at X Y (c.fact 3 (f := fx_3)) 9)⟩
  x_NoTags := ⟨_, (glo_at X Y (c.fact 3 (f := fx_3)) 10)⟩
  x_NoText := ⟨_, (glo_at X Y (c.fact 3 (f := fx_3)) 11)⟩
  x_NoTime := ⟨_, (glo_at X Y (c.fact 3 (f := fx_3)) 12)⟩
  x_NoTruth := ⟨_, (glo_at X Y (c.fact 3 (f := fx_3)) 13)⟩
  x_NoWeight := ⟨_, (glo_at X Y (c.fact 3 (f := fx_3)) 14)⟩
  x_NoWord := ⟨_, (glo_at X Y (c.fact 3 (f := fx_3)) 15)⟩
  x_Nought := ⟨_, (glo_at X Y (c.fact 3 (f := fx_3)) 16), xcoB_ok (c.fact 11 (f := fx_11))⟩
  x_Past := ⟨_, (glo_at X Y (c.fact 3 (f := fx_3)) 17)⟩
  x_ShareError := ⟨_, (glo_at X Y (c.fact 3 (f := fx_3)) 18)⟩
  x_Stands := ⟨_, (glo_at X Y (c.fact 3 (f := fx_3)) 19)⟩
  x_TagError := ⟨_, (glo_at X Y (c.fact 4 (f := fx_4)) 0)⟩
  x_TooMany := ⟨_, (glo_at X Y (c.fact 4 (f := fx_4)) 1)⟩
  x_TooMuch := ⟨_, (glo_at X Y (c.fact 4 (f := fx_4)) 2)⟩
  tb_ArithmeticError := kit_atR X Y (ns := [3, 4, 27]) (D := fun _ => .type "ArithmeticError") (c.fact 12 (f := fx_12)) (c.fact 13 (f := fx_13))
  tb_Full := fun D hD => own_at (p := fun D => ∀ cn C q, tbR rsL 31 cn = some q → mg (cname cn) = some (.ref C) → ExcC K C ∧ PySem.W.kitOne K (.ref C) (.ref D) = some q) (glo_at X Y (c.fact 2 (f := fx_2)) 10) (kit_atR X Y (ns := [3, 4, 27]) (D := fun K => .ref (He.ga K "Full")) (c.fact 12 (f := fx_12)) (c.fact 14 (f := fx_14))) hD
  tb_LookupError := kit_atR X Y (ns := [3, 4, 27]) (D := fun _ => .type "LookupError") (c.fact 12 (f := fx_12)) (c.fact 15 (f := fx_15))
  tb_LostError := fun D hD => own_at (p := fun D => ∀ cn C q, tbR rsL 1 cn = some q → mg (cname cn) = some (.ref C) → ExcC K C ∧ PySem.W.kitOne K (.ref C) (.ref D) = some q) (glo_at X Y (c.fact 2 (f := fx_2)) 11) (kit_atR X Y (ns := [3, 4, 27]) (D := fun K => .ref (He.ga K "LostError")) (c.fact 12 (f := fx_12)) (c.fact 16 (f := fx_16))) hD
  tb_NoAsk := fun D hD => own_at (p := fun D => ∀ cn C q, tbR rsL 25 cn = some q → mg (cname cn) = some (.ref C) → ExcC K C ∧ PySem.W.kitOne K (.ref C) (.ref D) = some q) (glo_at X Y (c.fact 2 (f := fx_2)) 12) (kit_atR X Y (ns := [3, 4, 27]) (D := fun K => .ref (He.ga K "NoAsk")) (c.fact 12 (f := fx_12)) (c.fact 17 (f := fx_17))) hD
  tb_NoClient := fun D hD => own_at (p := fun D => ∀ cn C q, tbR rsL 12 cn = some q → mg (cname cn) = some (.ref C) → ExcC K C ∧ PySem.W.kitOne K (.ref C) (.ref D) = some q) (glo_at X Y (c.fact 2 (f := fx_2)) 13) (kit_atR X Y (ns := [3, 4, 27]) (D := fun K => .ref (He.ga K "NoClient")) (c.fact 12 (f := fx_12)) (c.fact 18 (f := fx_18))) hD
  tb_NoDeeds := fun D hD => own_at (p := fun D => ∀ cn C q, tbR rsL 16 cn = some q → mg (cname cn) = some (.ref C) → ExcC K C ∧ PySem.W.kitOne K (.ref C) (.ref D) = some q) (glo_at X Y (c.fact 2 (f := fx_2)) 14) (kit_atR X Y (ns := [3, 4, 27]) (D := fun K => .ref (He.ga K "NoDeeds")) (c.fact 12 (f := fx_12)) (c.fact 19 (f := fx_19))) hD
  tb_NoLeast := fun D hD => own_at (p := fun D => ∀ cn C q, tbR rsL 13 cn = some q → mg (cname cn) = some (.ref C) → ExcC K C ∧ PySem.W.kitOne K (.ref C) (.ref D) = some q) (glo_at X Y (c.fact 2 (f := fx_2)) 15) (kit_atR X Y (ns := [3, 4, 27]) (D := fun K => .ref (He.ga K "NoLeast")) (c.fact 12 (f := fx_12)) (c.fact 20 (f := fx_20))) hD
  tb_NoLeasts := fun D hD => own_at (p := fun D => ∀ cn C q, tbR rsL 21 cn = some q → mg (cname cn) = some (.ref C) → ExcC K C ∧ PySem.W.kitOne K (.ref C) (.ref D) = some q) (glo_at X Y (c.fact 2 (f := fx_2)) 16) (kit_atR X Y (ns := [3, 4, 27]) (D := fun K => .ref (He.ga K "NoLeasts")) (c.fact 12 (f := fx_12)) (c.fact 21 (f := fx_21))) hD
  tb_NoLess := fun D hD => own_at (p := fun D => ∀ cn C q, tbR rsL 19 cn = some q → mg (cname cn) = some (.ref C) → ExcC K C ∧ PySem.W.kitOne K (.ref C) (.ref D) = some q) (glo_at X Y (c.fact 2 (f := fx_2)) 17) (kit_atR X Y (ns := [3, 4, 27]) (D := fun K => .ref (He.ga K "NoLess")) (c.fact 12 (f := fx_12)) (c.fact 22 (f := fx_22))) hD
  tb_NoLog := fun D hD => own_at (p := fun D => ∀ cn C q, tbR rsL 17 cn = some q → mg (cname cn) = some (.ref C) → ExcC K C ∧ PySem.W.kitOne K (.ref C) (.ref D) = some q) (glo_at X Y (c.fact 2 (f := fx_2)) 18) (kit_atR X Y (ns := [3, 4, 27]) (D := fun K => .ref (He.ga K "NoLog")) (c.fact 12 (f := fx_12)) (c.fact 23 (f := fx_23))) hD
  tb_NoName := fun D hD => own_at (p := fun D => ∀ cn C q, tbR rsL 5 cn = some q → mg (cname cn) = some (.ref C) → ExcC K C ∧ PySem.W.kitOne K (.ref C) (.ref D) = some q) (glo_at X Y (c.fact 2 (f := fx_2)) 19) (kit_atR X Y (ns := [3, 4, 27]) (D := fun K => .ref (He.ga K "NoName")) (c.fact 12 (f := fx_12)) (c.fact 24 (f := fx_24))) hD
  tb_NoNumber := fun D hD => own_at (p := fun D => ∀ cn C q, tbR rsL 8 cn = some q → mg (cname cn) = some (.ref C) → ExcC K C ∧ PySem.W.kitOne K (.ref C) (.ref D) = some q) (glo_at X Y (c.fact 3 (f := fx_3)) 0) (kit_atR X Y (ns := [3, 4, 27]) (D := fun K => .ref (He.ga K "NoNumber")) (c.fact 12 (f := fx_12)) (c.fact 25 (f := fx_25))) hD
  tb_NoOne := fun D hD => own_at (p := fun D => ∀ cn C q, tbR rsL 24 cn = some q → mg (cname cn) = some (.ref C) → ExcC K C ∧ PySem.W.kitOne K (.ref C) (.ref D) = some q) (glo_at X Y (c.fact 3 (f := fx_3)) 1) (kit_atR X Y (ns := [3, 4, 27]) (D := fun K => .ref (He.ga K "NoOne")) (c.fact 12 (f := fx_12)) (c.fact 26 (f := fx_26))) hD
  tb_NoPlace := fun D hD => own_at (p := fun D => ∀ cn C q, tbR rsL 26 cn = some q → mg (cname cn) = some (.ref C) → ExcC K C ∧ PySem.W.kitOne K (.ref C) (.ref D) = some q) (glo_at X Y (c.fact 3 (f := fx_3)) 2) (kit_atR X Y (ns := [3, 4, 27]) (D := fun K => .ref (He.ga K "NoPlace")) (c.fact 12 (f := fx_12)) (c.fact 27 (f := fx_27))) hD
  tb_NoPlan := fun D hD => own_at (p := fun D => ∀ cn C q, tbR rsL 20 cn = some q → mg (cname cn) = some (.ref C) → ExcC K C ∧ PySem.W.kitOne K (.ref C) (.ref D) = some q) (glo_at X Y (c.fact 3 (f := fx_3)) 3) (kit_atR X Y (ns := [3, 4, 27]) (D := fun K => .ref (He.ga K "NoPlan")) (c.fact 12 (f := fx_12)) (c.fact 28 (f := fx_28))) hD
  tb_NoRate := fun D hD => own_at (p := fun D => ∀ cn C q, tbR rsL 6 cn = some q → mg (cname cn) = some (.ref C) → ExcC K C ∧ PySem.W.kitOne K (.ref C) (.ref D) = some q) (glo_at X Y (c.fact 3 (f := fx_3)) 4) (kit_atR X Y (ns := [3, 4, 27]) (D := fun K => .ref (He.ga K "NoRate")) (c.fact 12 (f := fx_12)) (c.fact 29 (f := fx_29))) hD
  tb_NoRatio := fun D hD => own_at (p := fun D => ∀ cn C q, tbR rsL 3 cn = some q → mg (cname cn) = some (.ref C) → ExcC K C ∧ PySem.W.kitOne K (.ref C) (.ref D) = some q) (glo_at X Y (c.fact 3 (f := fx_3)) 5) (kit_atR X Y (ns := [3, 4, 27]) (D := fun K => .ref (He.ga K "NoRatio")) (c.fact 12 (f := fx_12)) (c.fact 30 (f := fx_30))) hD
  tb_NoRivals := fun D hD => own_at (p := fun D => ∀ cn C q, tbR rsL 14 cn = some q → mg (cname cn) = some (.ref C) → ExcC K C ∧ PySem.W.kitOne K (.ref C) (.ref D) = some q) (glo_at X Y (c.fact 3 (f := fx_3)) 6) (kit_atR X Y (ns := [3, 4, 27]) (D := fun K => .ref (He.ga K "NoRivals")) (c.fact 12 (f := fx_12)) (c.fact 31 (f := fx_31))) hD
  tb_NoRow := fun D hD => own_at (p := fun D => ∀ cn C q, tbR rsL 23 cn = some q → mg (cname cn) = some (.ref C) → ExcC K C ∧ PySem.W.kitOne K (.ref C) (.ref D) = some q) (glo_at X Y (c.fact 3 (f := fx_3)) 7) (kit_atR X Y (ns := [3, 4, 27]) (D := fun K => .ref (He.ga K "NoRow")) (c.fact 12 (f := fx_12)) (c.fact 32 (f := fx_32))) hD
  tb_NoSize := fun D hD => own_at (p := fun D => ∀ cn C q, tbR rsL 11 cn = some q → mg (cname cn) = some (.ref C) → ExcC K C ∧ PySem.W.kitOne K (.ref C) (.ref D) = some q) (glo_at X Y (c.fact 3 (f := fx_3)) 8) (kit_atR X Y (ns := [3, 4, 27]) (D := fun K => .ref (He.ga K "NoSize")) (c.fact 12 (f := fx_12)) (c.fact 33 (f := fx_33))) hD
  tb_NoStretch := fun D hD => own_at (p := fun D => ∀ cn C q, tbR rsL 18 cn = some q → mg (cname cn) = some (.ref C) → ExcC K C ∧ PySem.W.kitOne K (.ref C) (.ref D) = some q) (glo_at X Y (c.fact 3 (f := fx_3)) 9) (kit_atR X Y (ns := [3, 4, 27]) (D := fun K => .ref (He.ga K "NoStretch")) (c.fact 12 (f := fx_12)) (c.fact 34 (f := fx_34))) hD
  tb_NoTags := fun D hD => own_at (p := fun D => ∀ cn C q, tbR rsL 10 cn = some q → mg (cname cn) = some (.ref C) → ExcC K C ∧ PySem.W.kitOne K (.ref C) (.ref D) = some q) (glo_at X Y (c.fact 3 (f := fx_3)) 10) (kit_atR X Y (ns := [3, 4, 27]) (D := fun K => .ref (He.ga K "NoTags")) (c.fact 12 (f := fx_12)) (c.fact 35 (f := fx_35))) hD
  tb_NoText := fun D hD => own_at (p := fun D => ∀ cn C q, tbR rsL 4 cn = some q → mg (cname cn) = some (.ref C) → ExcC K C ∧ PySem.W.kitOne K (.ref C) (.ref D) = some q) (glo_at X Y (c.fact 3 (f := fx_3)) 11) (kit_atR X Y (ns := [3, 4, 27]) (D := fun K => .ref (He.ga K "NoText")) (c.fact 12 (f := fx_12)) (c.fact 36 (f := fx_36))) hD
  tb_NoTime := fun D hD => own_at (p := fun D => ∀ cn C q, tbR rsL 9 cn = some q → mg (cname cn) = some (.ref C) → ExcC K C ∧ PySem.W.kitOne K (.ref C) (.ref D) = some q) (glo_at X Y (c.fact 3 (f := fx_3)) 12) (kit_atR X Y (ns := [3, 4, 27]) (D := fun K => .ref (He.ga K "NoTime")) (c.fact 12 (f := fx_12)) (c.fact 37 (f := fx_37))) hD
  tb_NoTruth := fun D hD => own_at (p := fun D => ∀ cn C q, tbR rsL 15 cn = some q → mg (cname cn) = some (.ref C) → ExcC K C ∧ PySem.W.kitOne K (.ref C) (.ref D) = some q) (glo_at X Y (c.fact 3 (f := fx_3)) 13) (kit_atR X Y (ns := [3, 4, 27]) (D := fun K => .ref (He.ga K "NoTruth")) (c.fact 12 (f := fx_12)) (c.fact 38 (f := fx_38))) hD
  tb_NoWeight := fun D hD => own_at (p := fun D => ∀ cn C q, tbR rsL 7 cn = some q → mg (cname cn) = some (.ref C) → ExcC K C ∧ PySem.W.kitOne K (.ref C) (.ref D) = some q) (glo_at X Y (c.fact 3 (f := fx_3)) 14) (kit_atR X Y (ns := [3, 4, 27]) (D := fun K => .ref (He.ga K "NoWeight")) (c.fact 12 (f := fx_12)) (c.fact 39 (f := fx_39))) hD
  tb_NoWord := fun D hD => own_at (p := fun D => ∀ cn C q, tbR rsL 22 cn = some q → mg (cname cn) = some (.ref C) → ExcC K C ∧ PySem.W.kitOne K (.ref C) (.ref D) = some q) (glo_at X Y (c.fact 3 (f := fx_3)) 15) (kit_atR X Y (ns := [3, 4, 27]) (D := fun K => .ref (He.ga K "NoWord")) (c.fact 12 (f := fx_12)) (c.fact 40 (f := fx_40))) hD
  tb_Nought := fun D hD => own_at (p := fun D => ∀ cn C q, tbR rsL 27 cn = some q → mg (cname cn) = some (.ref C) → ExcC K C ∧ PySem.W.kitOne K (.ref C) (.ref D) = some q) (glo_at X Y (c.fact 3 (f := fx_3)) 16) (kit_atR X Y (ns := [3, 4, 27]) (D := fun K => .ref (He.ga K "Nought")) (c.fact 12 (f := fx_12)) (c.fact 41 (f := fx_41))) hD
  tb_Past := fun D hD => own_at (p := fun D => ∀ cn C q, tbR rsL 32 cn = some q → mg (cname cn) = some (.ref C) → ExcC K C ∧ PySem.W.kitOne K (.ref C) (.ref D) = some q) (glo_at X Y (c.fact 3 (f := fx_3)) 17) (kit_atR X Y (ns := [3, 4, 27]) (D := fun K => .ref (He.ga K "Past")) (c.fact 12 (f := fx_12)) (c.fact 42 (f := fx_42))) hD
  tb_ShareError := fun D hD => own_at (p := fun D => ∀ cn C q, tbR rsL 2 cn = some q → mg (cname cn) = some (.ref C) → ExcC K C ∧ PySem.W.kitOne K (.ref C) (.ref D) = some q) (glo_at X Y (c.fact 3 (f := fx_3)) 18) (kit_atR X Y (ns := [3, 4, 27]) (D := fun K => .ref (He.ga K "ShareError")) (c.fact 12 (f := fx_12)) (c.fact 43 (f := fx_43))) hD
  tb_Stands := fun D hD => own_at (p := fun D => ∀ cn C q, tbR rsL 28 cn = some q → mg (cname cn) = some (.ref C) → ExcC K C ∧ PySem.W.kitOne K (.ref C) (.ref D) = some q) (glo_at X Y (c.fact 3 (f := fx_3)) 19) (kit_atR X Y (ns := [3, 4, 27]) (D := fun K => .ref (He.ga K "Stands")) (c.fact 12 (f := fx_12)) (c.fact 44 (f := fx_44))) hD
  tb_TagError := fun D hD => own_at (p := fun D => ∀ cn C q, tbR rsL 0 cn = some q → mg (cname cn) = some (.ref C) → ExcC K C ∧ PySem.W.kitOne K (.ref C) (.ref D) = some q) (glo_at X Y (c.fact 4 (f := fx_4)) 0) (kit_atR X Y (ns := [3, 4, 27]) (D := fun K => .ref (He.ga K "TagError")) (c.fact 12 (f := fx_12)) (c.fact 45 (f := fx_45))) hD
  tb_TooMany := fun D hD => own_at (p := fun D => ∀ cn C q, tbR rsL 29 cn = some q → mg (cname cn) = some (.ref C) → ExcC K C ∧ PySem.W.kitOne K (.ref C) (.ref D) = some q) (glo_at X Y (c.fact 4 (f := fx_4)) 1) (kit_atR X Y (ns := [3, 4, 27]) (D := fun K => .ref (He.ga K "TooMany")) (c.fact 12 (f := fx_12)) (c.fact 46 (f := fx_46))) hD
  tb_TooMuch := fun D hD => own_at (p := fun D => ∀ cn C q, tbR rsL 30 cn = some q → mg (cname cn) = some (.ref C) → ExcC K C ∧ PySem.W.kitOne K (.ref C) (.ref D) = some q) (glo_at X Y (c.fact 4 (f := fx_4)) 2) (kit_atR X Y (ns := [3, 4, 27]) (D := fun K => .ref (He.ga K "TooMuch")) (c.fact 12 (f := fx_12)) (c.fact 47 (f := fx_47))) hD
  tb_ValueError := kit_atR X Y (ns := [3, 4, 27]) (D := fun _ => .type "ValueError") (c.fact 12 (f := fx_12)) (c.fact 48 (f := fx_48))
  tx_LostError := fun D hD => own_at (p := fun D => ∀ cn C q, tbR rsL 1 cn = some q → mg (cname cn) = some (.ref C) → PySem.W.exmOne K (.ref C) (.ref D) = some q) (glo_at X Y (c.fact 2 (f := fx_2)) 11) (exm_atR X Y (ns := [3, 4, 27]) (c.fact 12 (f := fx_12)) (c.fact 49 (f := fx_49))) hD
  tx_ShareError := fun D hD => own_at (p := fun D => ∀ cn C q, tbR rsL 2 cn = some q → mg (cname cn) = some (.ref C) → PySem.W.exmOne K (.ref C) (.ref D) = some q) (glo_at X Y (c.fact 3 (f := fx_3)) 18) (exm_atR X Y (ns := [3, 4, 27]) (c.fact 12 (f := fx_12)) (c.fact 50 (f := fx_50))) hD
  tx_TagError := fun D hD => own_at (p := fun D => ∀ cn C q, tbR rsL 0 cn = some q → mg (cname cn) = some (.ref C) → PySem.W.exmOne K (.ref C) (.ref D) = some q) (glo_at X Y (c.fact 4 (f := fx_4)) 0) (exm_atR X Y (ns := [3, 4, 27]) (c.fact 12 (f := fx_12)) (c.fact 51 (f := fx_51))) hD
  fe__law_deeds := fun f hf => by cases (glo_at X Y (c.fact 1 (f := fx_1)) 17).symm.trans hf; rfl
  fe__law_read_right := fun f hf => by cases (glo_at X Y (c.fact 2 (f := fx_2)) 8).symm.trans hf; rfl
  fe_law := fun f hf => by cases (glo_at X Y (c.fact 2 (f := fx_2)) 9).symm.trans hf; rfl
theorem all_mk {l : PySem.W.OpenLaw} {w : World} {K : PySem.W.Frag} {mg : Str → Option Value} {fa : Addr} {h : Heap} (plain : ∀ ns : List Int, ns.length ≤ 63 → ∃ N S, m_law N [.scr (ns.map .int)] (st0 tsL) = .ok (.bl true) S) (hfa : mg "law" = some (.ref fa)) (X : K.In h) (Y : h.Ns mainGlobals mg) (c : SaysX fxAll fnAll K) :
    ∃ fd : FuncData, (∀ (s : Shared) (v : Value), BindsTo s fd ⟨[v], []⟩ [("_law_script", v)]) ∧ ∀ base : Heap, K.In base → base.Ns mainGlobals mg → TBs K mg base tsL → FnG l.prog w K mg base 11 fa fd ["_law_script"] (spLawT K tsL) := by
  obtain ⟨fd, F⟩ := c.def_ 29 (d := d_law)
  cases hfa.symm.trans (glo_at X Y (c.fact 2 (f := fx_2)) 9)
  refine ⟨fd, ?_, fun base _ _ B => law_okT (of_decide_eq_true (c.fact 52 (f := fx_52))) (fun N => fm_law N (txt_mk X Y c B) F rfl) plain⟩
  obtain ⟨oc, od, dV, kV, doc, pm, an, cdv, ct, osl, rfl, lk, hcd, hdv, _⟩ := F.ex
  rcases hdv with ⟨_, rfl⟩ | ⟨hn, _⟩
  · exact fun s v => .of_eq rfl
  · exact absurd rfl hn
end
end Wk04
local macro_rules | `(tactic| wp_walk using $ts,*) => (let es := ts.getElems; let k := (es[0]!).raw.getId; let all : Array Lean.Name := #[`G.wr_ok, `G.wr_exc, `G.wr_lf, `G.wr_eC, `G.evQ_some, `G.wr_eVar, `G.cB2_s, `G.cB1_s, `G.wr_eBin, `G.cS2_s, `G.cS1_s, `G.wr_eBinS, `G.asQ_bl, `G.wr_tB, `G.truQ_s, `G.wr_tT, `G.notQ_s, `G.wr_tNt, `G.anQ_t, `G.anQ_f, `G.wr_tAn, `G.orQ_t, `G.orQ_f, `G.wr_tOr, `G.eaB_t, `G.eaB_f, `G.eaQ_s, `G.wr_eAn, `G.eoB_t, `G.eoB_f, `G.eoQ_s, `G.wr_eOr, `G.enB_s, `G.enQ_s, `G.wr_eNt, `G.eiQ_t, `G.eiQ_f, `G.wr_eIf, `G.negQ_int, `G.wr_eNeg, `G.wr_aNil, `G.cC2_s, `G.cC1_s, `G.wr_aCons, `G.tupQ_s, `G.lstQ_s, `G.newQ_s, `G.wr_eTup, `G.wr_eLst, `G.wr_eNew, `G.caQ_s, `G.wr_eCa, `G.clQ_s, `G.wr_eCall, `G.nAQ_s, `G.wr_nA, `G.tyQ_s, `G.wr_eIsTy, `G.icQ_s, `G.wr_eIsC, `G.mt2_s, `G.mt1_s, `G.wr_eMt, `G.wr_oNone, `G.oQ_int, `G.wr_oSome, `G.sl3_s, `G.sl2_s, `G.sl1_s, `G.wr_eSl, `G.kk2_s, `G.kk1_s, `G.wr_eCallK, `G.kk0_s, `G.wr_eCallK0, `G.wr_gN, `G.sb3_s, `G.sb2_s, `G.sb1_s, `G.wr_gSb, `G.wr_gsNil, `G.gs1_s, `G.wr_gsCons, `G.wr_gTp, `G.wr_gTp_rD, `G.xe_s, `G.sq_nx, `G.sq_rt, `G.sq_bk, `G.sq_ct, `G.sq_ex, `G.sq_xe, `G.ws_nxt, `G.ws_sNop, `G.ws_sSeq, `G.ws_sBrk, `G.ws_sCnt, `G.dropQ_s, `G.ws_sDrop, `G.ws_sRet, `G.ws_sRetN, `G.ifQ_t, `G.ifQ_f, `G.ws_sIf, `G.asg1_s, `G.ws_sAsg, `G.setQ_s, `G.ws_sSet, `G.parQ_s, `G.ws_sPar, `G.ws_sRaise, `G.fn_nx, `G.fn_rt, `G.fn_ex, `G.fn_xe, `G.su_nx, `G.su_bk, `G.su_ct, `G.su_rt, `G.trQ_t, `G.trQ_f, `G.tr_nx, `G.tr_rt, `G.tr_bk, `G.tr_ct, `G.tr_ex, `G.ws_sTry, `G.forQ_s, `G.ws_sFor, `G.lp_nx, `G.lp_rt, `G.lp_bk, `G.lp_ct, `G.lp_ex, `G.lp_xe, `G.ws_fi_nil, `G.bodyQ_s, `G.mid_nx, `G.mid_rt, `G.mid_bk, `G.mid_ct, `G.mid_ex, `G.mid_xe, `G.lc2_s, `G.lc1_s, `G.wr_eLc, `G.lcn2_s, `G.lcn1_s, `G.wr_eLcN, `G.wipe_nil, `G.wipe_cons, `G.wr_tTrue, `G.wr_lc_nil, `G.tgQ_some, `G.ly_s, `G.lt1_t, `G.lt1_f, `G.lg_s, `G.eqQ_s, `G.exQ_s, `G.seqQ_tup, `G.seqQ_lst, `G.seqQ_scr, `G.seqQ_rD, `G.wr_iSeq, `G.rgQ_int, `G.wr_iRg1, `G.rgQ2_int, `G.wr_iRg2, `G.ch3_t, `G.ch3_f, `G.ch2_s, `G.ch1_s, `G.wr_eChain, `G.flQ_s, `G.wr_eFld, `G.fldD_ins, `G.stQ_s, `G.sf2_s, `G.sf1_s, `G.ws_sFldM, `G.mkQ2_s, `G.mkQ1_s, `G.wr_eMk, `G.wr_eMk0, `G.ap2_s, `G.ap1_s, `G.wr_eApp, `G.zpQ_s, `G.wr_iZip, `G.zipR_tup, `G.zipR_lst, `G.srQ_s, `G.wr_iStrM, `G.strR_s, `G.ioQ_s, `G.wr_eIsO, `G.dAddS_int, `G.wr_gStr_tup, `G.wr_gStr_lst, `G.fTuple_lst, `G.fTuple_tup, `List.take_succ_cons, `List.take_zero, `List.drop_succ_cons, `List.drop_zero, `List.getElem?_cons_zero, `List.getElem?_cons_succ, `List.set_cons_zero, `List.set_cons_succ, `List.map_cons, `List.map_nil, `List.length_cons, `List.length_nil, `List.cons_append, `List.nil_append, `List.replicate_succ, `List.replicate_zero, `List.append_nil, `true_and, `and_true, `and_self, `if_true, `ite_true, `if_false, `ite_false, `Bool.false_eq_true, `Bool.not_true, `Bool.not_false, `Bool.not_not, `decide_true, `decide_false, `decide_eq_true_eq, `not_false_eq_true, `not_true_eq_false, `reduceCtorEq, `PySem.sizeLine_eq, `Option.map_some, `Option.some.injEq, `Nat.reduceSub, `Nat.reduceAdd, `Nat.reduceLeDiff, `Nat.reduceEqDiff, `Nat.zero_add, `Nat.reduceBEq, `List.contains_cons, `List.contains_nil, `beq_self_eq_true, `Bool.true_or, `Bool.or_true, `Bool.false_or, `Bool.or_false, `List.lookup_cons, `List.lookup_nil, `Int.reduceEq, `Int.reduceNe, `Int.reduceLT, `Int.reduceLE, `Int.reduceNeg, `Int.reduceAdd, `Int.reduceSub, `Int.cast_ofNat_Int, `ne_eq, `G.cmpI_s, `G.dGt, `G.dGe, `G.dLt, `G.dLe, `G.dAdd_int, `G.dSub_int, `G.dEq_int, `G.dNe_int, `G.dEq_bl, `G.dNe_bl, `G.truD_bl, `G.isTy_int, `G.isTy_bl, `G.isTy_tup, `G.fLen_tup, `G.fLen_scr, `G.fLen_lst, `G.fAbs_int, `G.fMax_int, `G.fMin_int, `G.ixD_tup, `G.ixD_lst, `G.ixD_scr, `G.isTy_rD, `G.fLen_rD, `G.ix_rD0, `G.ix_rD1, `G.dEq_rD, `G.dNe_rD, `G.dIs_rD, `G.dIsNot_rD, `G.Tn.is, `G.me3_s, `G.me2_s, `G.me1_s, `G.wr_eMeth, `G.mk2_s, `G.mk1_s, `G.wr_eMethK, `G.m01_s, `G.wr_eMeth0, `G.wr_eNewD, `G.dg3_s, `G.dg2_s, `G.dg1_s, `G.wr_eDGet2, `G.dh2_s, `G.dh1_s, `G.wr_eDGet1, `G.dp3_s, `G.dp2_s, `G.dp1_s, `G.wr_eDPop2, `G.dq2_s, `G.dq1_s, `G.wr_eDPop1, `G.se2_s, `G.se1_s, `G.wr_gSbE, `G.ssQ_s, `G.wr_eSortSet, `G.an2_s, `G.an1_s, `G.wr_eAddN, `G.celQ_tup, `G.celQ_lst, `G.celQ_scr, `G.wr_iCel, `G.forcQ_s, `G.ws_sForC, `G.lcc1_s, `G.wr_eLcC, `G.lcd1_s, `G.wr_eLcCN, `G.keyD_int, `G.keyD_str, `Option.isSome_some, `G.fmQ_s, `G.wr_eFmt, `G.jsQ_str, `G.wr_js_nil, `G.wr_js_cons, `G.wr_eJs, `G.s4Q_str, `G.soQ_s, `G.wr_eStrO, `G.dAddE_0, `G.wr_eCallV, `G.chQ_s, `G.wr_eCallH, `G.wr_lamF, `G.oj_s, `G.enuQ_s, `G.wr_iEnum, `G.enR_tup, `G.enR_lst, `G.lrQ_int, `G.wr_eLr, `G.lrnQ_int, `G.wr_eLrN, `G.agQ_s, `G.auP_s, `G.ws_sAug, `G.augR_int, `G.pp2_s, `G.pp1_s, `G.wr_ePop, `G.wr_gSq_tup, `G.wr_gSq_lst, `G.lnQ_lst, `G.lnQ_tup, `G.wr_eListN, `G.rvQ_lst, `G.wr_eRev, `G.rfQ_s, `G.ws_sRaiseF, `G.trG_nx, `G.trG_rt, `G.trG_bk, `G.trG_ct, `G.trG_ex, `G.ws_sTryG, `G.ws_hd_nil, `G.hdP_t, `G.hdP_f, `G.ws_hd_cons, `G.setO_some, `G.setO_none, `G.ws_suS, `G.suN_nx, `G.suN_rt, `G.suN_bk, `G.suN_ct, `G.ws_suN, `G.iyQ_s, `G.wr_eIsY, `G.isY_exc, `G.fyQ_s, `G.wr_eFldY, `G.fldY_exc, `G.toQ_s, `G.wr_eIsTyO, `G.isTyO_tup, `G.isTyO_lst, `G.isTyO_int, `G.tm2_s, `G.tm1_s, `G.wr_eTm, `G.rgQN_int, `G.wr_iRgN, `G.gf1_s, `G.wr_gFl, `G.as3_s, `G.as2_s, `G.as1_s, `G.ws_sAsg3, `G.at1_s, `G.ws_sAsg2, `G.ws_sFldA, `G.ds3_s, `G.ds2_s, `G.ds1_s, `G.wr_eDSetd, `G.dispQ_s, `G.wr_eDisp, `G.rm2_s, `G.rm1_s, `G.wr_eRem, `G.parQ3_s, `G.ws_sPar3, `G.th_nx, `G.th_rt, `G.th_xe, `G.wr_iDv, `G.wr_iDi, `G.wr_iDk, `G.wr_iTk, `G.wr_eTs1, `G.tu2_s, `G.tu1_s, `G.wr_eTsU, `G.dct1_s, `G.dcQ_s, `G.wr_eDcT, `G.dt1_t, `G.dt1_f, `G.dgg_s, `G.eqOb_t, `G.eqOb_f, `G.eqO2_s, `G.eqO1_s, `G.wr_eEqO, `G.in2_s, `G.in1_s, `G.wr_eIns, `G.wr_eTabIx, `G.txQ_str, `G.wr_eTabIn, `G.tiQ_t, `G.tiQ_f, `G.ws_sTabCall, `G.tcQ_str, `G.tc1_s, `G.tc2_s, `G.sn3_s, `G.sn2_s, `G.sn1_s, `G.wr_eSlN, `G.zmQ_s, `G.wr_iZipM, `G.zipRM_s, `G.ex2_s, `G.ex1_s, `G.wr_eEqX, `G.cnQ_s, `G.wr_eCallN, `G.ku2_s, `G.ku1_s, `G.wr_eDkU, `G.wr_eNx, `G.sa3_s, `G.sa2_s, `G.sa1_s, `G.wr_eSlA]; let cut : Nat := if k == `zstop || k == `zust then 1 else if k == `zstf || k == `zxtf then 2 else if k == `zstq then 3 else 0; let sel := all.filter fun n => !((cut == 1 && n == `G.ws_sIf) || (cut == 2 && (n == `G.ws_sIf || n == `G.ws_sFor || n == `G.ws_sForC || n == `G.ws_sForR)) || (cut == 3 && n.getString!.startsWith "ws_")); let ids : Lean.TSyntaxArray `term := sel.map fun n => ⟨(Lean.mkIdent n).raw⟩; let r1 : Lean.TSyntaxArray `term := ids ++ es.extract 1 es.size; let r2 : Lean.TSyntaxArray `term := ids ++ es.extract 2 es.size; let r0 : Lean.TSyntaxArray `term := ids ++ es; if k == `zust || k == `zuse then `(tactic| (have hq0 := $(es[1]!); simp only [$[$r2:term],*] at hq0; exact hq0)) else if k == `zxtf then `(tactic| try simp -implicitDefEqProofs only [$[$r1:term],*]) else if cut == 0 then `(tactic| try simp only [$[$r0:term],*]) else `(tactic| try simp only [$[$r1:term],*]))
namespace Wk04
open PySem G C
abbrev Sx (l : List Nat) : Str := SX.S l
def isD (c : Nat) : Bool := decide (48 ≤ c) && decide (c ≤ 57)
def isN (a : List Nat) : Bool := !a.isEmpty && a.all isD
theorem dig_l : ("0123456789" : Str).cps.toList = List.range' 48 10 := by decide +kernel
theorem dig_in (c : Nat) (S0 : Store) : dIn false S0 (.str (Sx [c])) (.str "0123456789") = some (.bl (isD c)) := by
  show some (D.bl (decide (c ∈ ("0123456789" : Str).cps.toList))) = _
  rw [dig_l]
  have : decide (c ∈ List.range' 48 10) = isD c := by
    unfold isD
    by_cases h : c ∈ List.range' 48 10
    · rw [decide_eq_true h]
      have := List.mem_range'_1.mp h
      rw [decide_eq_true this.1, decide_eq_true (by omega)]; rfl
    · rw [decide_eq_false h]
      by_cases h1 : 48 ≤ c
      · have : ¬ c ≤ 57 := fun z => h (List.mem_range'_1.mpr ⟨h1, by omega⟩)
        rw [decide_eq_true h1, decide_eq_false this]; rfl
      · rw [decide_eq_false h1]; rfl
  rw [this]
theorem signs_S (a : List Nat) : signs (Sx a) = a.map fun c => .str (Sx [c]) := by unfold signs; simp [Sx, SX.S]
theorem nil_S : ("" : Str) = Sx [] := by decide +kernel
theorem S_ne (a : List Nat) : decide (Sx a = Sx []) = a.isEmpty := by
  cases a with
  | nil => exact decide_eq_true rfl
  | cons c r => exact decide_eq_false fun z => nomatch SX.S_inj z
theorem bools_map (f : Nat → Bool) : ∀ a : List Nat, bools (a.map fun c => D.bl (f c)) = some (a.map f)
  | [] => rfl
  | c :: a => by
    show (bools (a.map fun c => D.bl (f c))).map _ = _
    rw [bools_map f a]; rfl
theorem all_figs {N : Nat} {a : List Nat} {e : En} {j : Nat} {S0 : Store} {Q X : QP D} (hj : j < e.length) (hl : a.length ≤ 1000) (h : Q (.bl (a.all isD)) S0) :
    Wr (lcR (.nm j) tTrue (eBinS (dIn false) (eVar j) (eC (.str "0123456789"))) e (signs (Sx a)) [] S0) (fun acc S' => S' = S0 ∧ acc = a.map fun c => D.bl (isD c)) X := by
  have gm : ∀ (d : D) (e : En), Tg.m (.nm j) d e = some (e.set j (some d)) := fun _ _ => rfl
  rw [signs_S]
  refine lc_w (fun i acc S' => S' = S0 ∧ acc = (a.take i).map fun c => D.bl (isD c)) ⟨rfl, rfl⟩ ?_ ?_
  · rintro i d acc S' hd ⟨rfl, rfl⟩
    rw [List.getElem?_map] at hd
    obtain ⟨c, hd2, rfl⟩ := Option.map_eq_some_iff.mp hd
    have hlt := (List.getElem?_eq_some_iff.mp hd2).1
    have he : (e.set j (some (D.str (Sx [c]))))[j]? = some (some (.str (Sx [c]))) := List.getElem?_set_self hj
    wp_walk using gm, he, dig_in, List.length_map
    exact ⟨by rw [List.length_take]; omega, by rw [List.take_add_one, hd2, List.map_append]; rfl⟩
  · rintro acc S' ⟨rfl, rfl⟩
    rw [List.length_map, List.take_length]
    exact ⟨rfl, rfl⟩
theorem fAll_figs (a : List Nat) (S0 : Store) : fAll S0 [.lst (a.map fun c => D.bl (isD c))] = some (.bl (a.all isD)) := by
  show ((bools (a.map fun c => D.bl (isD c))).map fun bs => D.bl (bs.all id)) = _
  rw [bools_map]
  simp [List.all_map]
theorem num_ok {N : Nat} {a : List Nat} (hl : a.length ≤ 1000) (S0 : Store) : m_is_number N [.str (Sx a)] S0 = .ok (.bl (isN a)) S0 := by
  apply eq_of_w
  rw [m_is_number, wr_fnM, b_is_number]
  unfold isN
  cases ha : a.isEmpty with
  | true =>
    wp_walk using dNe_str, nil_S, S_ne, ha
    rfl
  | false =>
    wp_walk using dNe_str, nil_S, S_ne, ha
    refine wr_cut _ (all_figs (N := N) (Q := fun _ _ => True) (Nat.lt_succ_self 1) hl trivial) ?_
    rintro acc S' ⟨rfl, rfl⟩
    wp_walk using fAll_figs
    rfl
def numI (i : Int) : List Nat := if i < 0 then 45 :: TL.numL i.natAbs else TL.numL i.natAbs
theorem str_I (i : Int) : (toString i : Str) = Sx (numI i) := by
  unfold numI
  cases i with
  | ofNat n =>
    rw [if_neg (by simp)]
    exact SX.num_S n
  | negSucc n =>
    rw [if_pos (Int.negSucc_lt_zero n)]
    have e : (toString (Int.negSucc n) : String) = "-" ++ toString (((n + 1 : Nat) : Int)) := rfl
    have k := SX.num_S (n + 1)
    rw [Str.ofString_eq_toList] at k
    have k2 := SX.S_inj k
    show Str.ofString (toString (Int.negSucc n)) = _
    rw [e, Str.ofString_eq_toList, String.toList_append, List.map_append, k2]
    rfl
def tq (q : Rat) : List Nat := numI q.num ++ (if q.den = 1 then [] else 47 :: TL.numL q.den)
theorem numI_len {i : Int} {k : Nat} (hk : 0 < k) (h : i.natAbs < 10 ^ k) : (numI i).length ≤ k + 1 := by
  have := TL.numL_len hk h
  unfold numI
  split
  · rw [List.length_cons]; omega
  · omega
theorem log_small {i : Int} (h : i.natAbs < 2 ^ 250) : i.natAbs.log2 < 1920 := Nat.lt_of_lt_of_le (log2_lt h (by omega)) (by omega)
theorem fStr_I {i : Int} (h : i.natAbs < 2 ^ 250) (S0 : Store) : fStr S0 [.int i] = some (.str (Sx (numI i))) := by
  show (if i.natAbs.log2 < 1920 then some (D.str (toString i)) else none) = _
  rw [if_pos (log_small h), str_I]
theorem fmt_I {i : Int} (h : i.natAbs < 2 ^ 250) : fmtD (.int i) = some (.str (Sx (numI i))) := by
  show (if i.natAbs.log2 < 1920 then some (D.str (toString i)) else none) = _
  rw [if_pos (log_small h), str_I]
theorem sl_S : ("/" : Str) = Sx [47] := by decide +kernel
theorem pow76 : (2 : Nat) ^ 250 ≤ 10 ^ 76 := by decide
theorem numI_b {i : Int} (h : i.natAbs < 2 ^ 250) : (numI i).length ≤ 77 := numI_len (by omega) (Nat.lt_of_lt_of_le h pow76)
theorem add_S {a b : List Nat} (h : a.length + b.length ≤ 1000) (S0 : Store) : dAddS S0 (.str (Sx a)) (.str (Sx b)) = some (.str (Sx (a ++ b))) := by
  show (if (Sx a).length + (Sx b).length ≤ sizeLine then some (D.str (Sx a ++ Sx b)) else none) = _
  rw [if_pos (by rw [sizeLine_eq, SX.S_len, SX.S_len]; omega), SX.S_cat]
theorem show_ok {N : Nat} (hN : big N) {q : Rat} (h : Bt q 250) (S0 : Store) : m_show_ratio N [rD q] S0 = .ok (.str (Sx (tq q))) S0 := by
  have hd : ((q.den : Int)).natAbs < 2 ^ 250 := by simpa using h.2
  have l1 := numI_b h.1
  have l2 := numI_b hd
  have e2 : numI (q.den : Int) = TL.numL q.den := by unfold numI; rw [if_neg (by omega)]; rfl
  apply eq_of_w
  rw [m_show_ratio, wr_fnM, b_show_ratio]
  unfold tq
  by_cases c : (q.den : Int) = 1
  · have c' : q.den = 1 := by omega
    wp_walk using chk_ok hN h (by omega), fStr_I h.1, c, c'
  · have c' : ¬ q.den = 1 := by omega
    have ee : Str.empty = Sx [] := rfl
    have k0 : (Str.empty ++ Sx (numI q.num)) = Sx (numI q.num) := by rw [ee, SX.S_cat]; rfl
    have l0 : (Sx (numI q.num)).length ≤ sizeLine := by rw [SX.S_len, sizeLine_eq]; omega
    have l1 : (Sx (numI q.num) ++ Sx [47]).length ≤ sizeLine := by rw [SX.S_cat, SX.S_len, sizeLine_eq]; simp only [List.length_append, List.length_cons, List.length_nil]; omega
    have l2 : (Sx (numI q.num) ++ Sx [47] ++ Sx (numI (q.den : Int))).length ≤ sizeLine := by rw [SX.S_cat, SX.S_cat, SX.S_len, sizeLine_eq]; simp only [List.length_append, List.length_cons, List.length_nil]; omega
    rw [sizeLine_eq] at l0 l1 l2
    wp_walk using chk_ok hN h (by omega), c, fmt_I h.1, fmt_I hd, sl_S, k0, l0, l1, l2, c'
    rw [SX.S_cat, SX.S_cat, e2, List.append_assoc]
    rfl
end Wk04
namespace Wk04
open PySem G C
def sg (p : List Nat) : Bool := decide (p.take 1 = [45])
def un (p : List Nat) : List Nat := if sg p then p.drop 1 else p
def vl (p : List Nat) : Nat := NumText.digitsVal p
def sv (p : List Nat) : Int := if sg p then -(vl (un p) : Int) else (vl (un p) : Int)
def raw : List (List Nat) → Option Rat
  | [p] => if isN (un p) then some (Rat.divInt (sv p) 1) else none
  | [p, q] => if isN (un p) && (isN q && decide (vl q ≠ 0)) then some (Rat.divInt (sv p) (vl q)) else none
  | _ => none
def res (a : List Nat) (ps : List (List Nat)) : Option Rat := (raw ps).bind fun r => if tq r = a then some r else none
theorem parts_of : ∀ a : List Nat, ∃ p ps, (∀ q, q ∈ p :: ps → 47 ∉ q) ∧ a = TL.joinL [47] (p :: ps)
  | [] => ⟨[], [], fun q hq => by simp only [List.mem_cons, List.not_mem_nil, or_false] at hq; subst hq; simp, rfl⟩
  | c :: a => by
    obtain ⟨p, ps, h, e⟩ := parts_of a
    by_cases hc : c = 47
    · subst hc
      refine ⟨[], p :: ps, fun q hq => ?_, by rw [e]; rfl⟩
      rcases List.mem_cons.mp hq with z | z
      · subst z; simp
      · exact h q z
    · refine ⟨c :: p, ps, fun q hq => ?_, ?_⟩
      · rcases List.mem_cons.mp hq with z | z
        · subst z
          intro hm
          rcases List.mem_cons.mp hm with z | z
          · exact hc z.symm
          · exact h p (List.mem_cons_self ..) z
        · exact h q (List.mem_cons_of_mem _ z)
      · rw [e]
        cases ps with
        | nil => rfl
        | cons q r => rfl
theorem dig_of {a : List Nat} (h : isN a = true) : NumText.AllDigits a ∧ a ≠ [] := by
  unfold isN at h
  rw [Bool.and_eq_true] at h
  refine ⟨fun c hc => ?_, fun z => ?_⟩
  · have := List.all_eq_true.mp h.2 c hc
    unfold isD at this
    rw [Bool.and_eq_true, decide_eq_true_eq, decide_eq_true_eq] at this
    exact this
  · rw [z] at h; exact absurd h.1 (by simp)
theorem val_lt : ∀ (l : List Nat) (x : Nat), NumText.AllDigits l → l.foldl (fun acc c => acc * 10 + (c - 48)) x < (x + 1) * 10 ^ l.length
  | [], x, _ => by simp
  | c :: l, x, h => by
    have hc := h.head
    have := val_lt l (x * 10 + (c - 48)) h.tail
    rw [List.foldl_cons, List.length_cons, Nat.pow_succ]
    refine Nat.lt_of_lt_of_le this ?_
    have k : x * 10 + (c - 48) + 1 ≤ (x + 1) * 10 := by omega
    calc (x * 10 + (c - 48) + 1) * 10 ^ l.length ≤ ((x + 1) * 10) * 10 ^ l.length := Nat.mul_le_mul_right _ k
      _ = (x + 1) * (10 ^ l.length * 10) := by rw [Nat.mul_assoc, Nat.mul_comm 10]
theorem vl_lt {a : List Nat} (h : isN a = true) (hl : a.length ≤ 75) : vl a < 2 ^ 250 := by
  have h1 : vl a < (0 + 1) * 10 ^ a.length := val_lt a 0 (dig_of h).1
  have h2 : (10 : Nat) ^ a.length ≤ 10 ^ 75 := Nat.pow_le_pow_right (by omega) hl
  have h3 : (10 : Nat) ^ 75 < 2 ^ 250 := by decide
  omega
theorem sv_lt {p : List Nat} (h : isN (un p) = true) (hl : p.length ≤ 75) : (sv p).natAbs < 2 ^ 250 := by
  have h1 : (un p).length ≤ 75 := by
    unfold un
    split
    · rw [List.length_drop]; omega
    · exact hl
  have := vl_lt h h1
  unfold sv
  split <;> omega
theorem raw_bt {p : List Nat} {ps : List (List Nat)} {r : Rat} (h : raw (p :: ps) = some r) (hl : ∀ q, q ∈ p :: ps → q.length ≤ 75) : Bt r 250 := by
  unfold raw at h
  split at h
  · rename_i e
    cases e
    split at h
    · rename_i hn
      cases h
      exact bt_div (m := 0) (sv_lt hn (hl p (List.mem_cons_self ..))) (by decide) (by omega)
    · cases h
  · rename_i q e
    cases e
    split at h
    · rename_i hn
      cases h
      rw [Bool.and_eq_true, Bool.and_eq_true] at hn
      exact bt_div (m := 0) (sv_lt hn.1 (hl p (List.mem_cons_self ..))) (by have := vl_lt hn.2.1 (hl q (by simp)); omega) (by omega)
    · cases h
  · cases h
theorem lenS {a : List Nat} (h : a.length ≤ 75) : (Sx a).length ≤ sizeLine := by rw [SX.S_len, sizeLine_eq]; omega
theorem cut_1 {a : List Nat} (h : a.length ≤ 75) (S0 : Store) : slD S0 (.str (Sx a)) none (some 1) = some (.str (Sx (a.take 1))) := by
  show (if (Sx a).length ≤ sizeLine then some (D.str (L2.cutS (Sx a) none (some 1))) else none) = _
  rw [if_pos (lenS h), C8.cutS_slice, SX.slice_to (by omega)]
  rfl
theorem cut_from {a : List Nat} (h : a.length ≤ 75) (i : Nat) (S0 : Store) : slD S0 (.str (Sx a)) (some (i : Int)) none = some (.str (Sx (a.drop i))) := by
  show (if (Sx a).length ≤ sizeLine then some (D.str (L2.cutS (Sx a) (some (i : Int)) none)) else none) = _
  rw [if_pos (lenS h), C8.cutS_slice, SX.slice_from (by omega)]
  rfl
theorem mi_S : ("-" : Str) = Sx [45] := by decide +kernel
theorem S_eq (a b : List Nat) : decide (Sx a = Sx b) = decide (a = b) := by
  by_cases h : a = b
  · rw [h, decide_eq_true rfl, decide_eq_true rfl]
  · rw [decide_eq_false h, decide_eq_false fun z => h (SX.S_inj z)]
end Wk04
namespace Wk04
open PySem G C
def bi (b : Bool) : Nat := if b then 1 else 0
def tail47 : List (List Nat) → List Nat
  | [] => []
  | q :: r => 47 :: TL.joinL [47] (q :: r)
theorem join_cons (p : List Nat) (ps : List (List Nat)) : TL.joinL [47] (p :: ps) = p ++ tail47 ps := by
  cases ps with
  | nil => show p = p ++ []; rw [List.append_nil]
  | cons q r => rfl
theorem sg_a {p : List Nat} {ps : List (List Nat)} : sg (TL.joinL [47] (p :: ps)) = sg p := by
  rw [join_cons]
  unfold sg
  cases p with
  | nil =>
    cases ps with
    | nil => rfl
    | cons q r => rfl
  | cons c p => rfl
theorem drop_a {p : List Nat} {ps : List (List Nat)} : (TL.joinL [47] (p :: ps)).drop (bi (sg p)) = un p ++ tail47 ps := by
  rw [join_cons]
  unfold un bi
  cases h : sg p with
  | false => rfl
  | true =>
    cases p with
    | nil => cases h
    | cons c p => rfl
theorem un_free {p : List Nat} (h : 47 ∉ p) : 47 ∉ un p := by
  unfold un
  split
  · exact fun z => h (List.mem_of_mem_drop z)
  · exact h
theorem int_N {w : List Nat} (h : isN w = true) (hl : w.length ≤ 75) (S0 : Store) : fIntS S0 [.str (Sx w)] = some (.int (vl w : Nat)) := by
  obtain ⟨h1, h2⟩ := dig_of h
  show (if (Sx w).length ≤ 640 then (PySem.intText? (Sx w)).map D.int else none) = _
  rw [if_pos (by rw [SX.S_len]; omega)]
  have e : PySem.intText? (Sx w) = some ((NumText.digitsVal w : Nat) : Int) := intText_digits (x := Sx w) h1 h2 (by rw [SX.S_len]; omega)
  rw [e]; rfl
theorem part_none {u : List Nat} (h : 47 ∉ u) (hl : u.length ≤ 75) (S0 : Store) : fPart S0 (.str (Sx u)) [.str (Sx [47])] = some (.tup [.str (Sx u), .str (Sx []), .str (Sx [])]) := by
  show (if ((Sx [47]).length == 0) = false ∧ (Sx u).length ≤ 1000000 then some _ else none) = _
  rw [if_pos ⟨rfl, by rw [SX.S_len]; omega⟩, SX.partition_none (by simp) (SX.par_head_none h)]
theorem part_some {u v : List Nat} (h : 47 ∉ u) (hl : (u ++ 47 :: v).length ≤ 75) (S0 : Store) : fPart S0 (.str (Sx (u ++ 47 :: v))) [.str (Sx [47])] = some (.tup [.str (Sx u), .str (Sx [47]), .str (Sx v)]) := by
  show (if ((Sx [47]).length == 0) = false ∧ (Sx (u ++ 47 :: v)).length ≤ 1000000 then some _ else none) = _
  have e : Txt.partition (Sx (u ++ 47 :: v)) (Sx [47]) = (Sx u, Sx [47], Sx v) := SX.partition_some (p := u) (q := v) (by simp) (SX.par_head (sep := []) v h)
  rw [if_pos ⟨rfl, by rw [SX.S_len]; omega⟩, e]
theorem fiB (b : Bool) (S0 : Store) : fIntS S0 [.bl b] = some (.int ((bi b : Nat) : Int)) := by cases b <;> rfl
theorem tr_S {w : List Nat} (hl : w.length ≤ 75) (S0 : Store) : truD S0 (.str (Sx w)) = some (!w.isEmpty) := by
  show (if (Sx w).length ≤ sizeLine then some (((Sx w).length : Int) != 0) else none) = _
  rw [if_pos (lenS hl), SX.S_len]
  cases w with
  | nil => rfl
  | cons c w => 
    have : (((c :: w).length : Nat) : Int) ≠ 0 := by rw [List.length_cons]; omega
    simp [bne]
    omega
theorem mul_sg {p : List Nat} (S0 : Store) (h : vl (un p) < 2 ^ 250) : ∃ d, ixD S0 (.lst [.int 1, .int (-1)]) (.int ((bi (sg p) : Nat) : Int)) = some d ∧ dMul (.int (vl (un p) : Nat)) d = some (.int (sv p)) := by
  unfold sv
  cases hs : sg p with
  | false =>
    refine ⟨.int 1, rfl, ?_⟩
    rw [dMul_int (mul_ok (a := 250) (b := 1) (by simpa using h) (by decide) (by omega) (by omega) (by omega)), Int.mul_one]
    rfl
  | true =>
    refine ⟨.int (-1), rfl, ?_⟩
    rw [dMul_int (mul_ok (a := 250) (b := 1) (by simpa using h) (by decide) (by omega) (by omega) (by omega))]
    congr 2
    show _ = -(vl (un p) : Int)
    omega
theorem one_S : ("1" : Str) = Sx [49] := by decide +kernel
theorem raw1 (p : List Nat) : raw [p] = if isN (un p) then some (Rat.divInt (sv p) 1) else none := rfl
theorem raw2 (p q : List Nat) : raw [p, q] = if isN (un p) && (isN q && decide (vl q ≠ 0)) then some (Rat.divInt (sv p) (vl q)) else none := rfl
theorem raw3 (p q s : List Nat) (r : List (List Nat)) : raw (p :: q :: s :: r) = none := rfl
theorem res_none {a : List Nat} {ps : List (List Nat)} (h : raw ps = none) : res a ps = none := by unfold res; rw [h]; rfl
theorem res_some {a : List Nat} {ps : List (List Nat)} {r : Rat} (h : raw ps = some r) : res a ps = if tq r = a then some r else none := by unfold res; rw [h]; rfl
theorem neS {a b : List Nat} : dNe (.str (Sx a)) (.str (Sx b)) = some (.bl (!decide (a = b))) := by rw [dNe_str, S_eq]
theorem read_ok {N : Nat} (hN : big N) {a p : List Nat} {ps : List (List Nat)} (hp : ∀ q, q ∈ p :: ps → 47 ∉ q) (ha : a = TL.joinL [47] (p :: ps)) (hl : a.length ≤ 75) (S0 : Store) :
    m_read_ratio N [.str (Sx a)] S0 = match res a (p :: ps) with
      | some r => .ok (rD r) S0
      | none => .exc (.exc 4 [(4, .int 0)]) S0 := by
  have e1 : decide (Sx (a.take 1) = Sx [45]) = sg p := by rw [S_eq, ← sg_a (ps := ps), ← ha]; rfl
  have e2 : a.drop (bi (sg p)) = un p ++ tail47 ps := by rw [ha]; exact drop_a
  have ty : isTy S0 .str (.str (Sx a)) = some true := rfl
  have hup := un_free (hp p (List.mem_cons_self ..))
  have lu : (un p).length ≤ 75 ∧ (tail47 ps).length ≤ 75 ∧ (un p ++ tail47 ps).length ≤ 75 := by
    have : (a.drop (bi (sg p))).length ≤ 75 := by rw [List.length_drop]; omega
    rw [e2, List.length_append] at this
    rw [List.length_append]
    omega
  have d1 : dEq (.str (Sx (a.take 1))) (.str (Sx [45])) = some (.bl (sg p)) := by rw [dEq_str, e1]
  have c1 := cut_1 hl
  have c2 := cut_from hl (bi (sg p))
  rw [e2] at c2
  cases ps with
  | nil =>
    have c3 : ∀ S0, slD S0 (.str (Sx a)) (some ((bi (sg p) : Nat) : Int)) none = some (.str (Sx (un p))) := fun S0 => by rw [c2]; show some (D.str (Sx (un p ++ []))) = _; rw [List.append_nil]
    cases hn : isN (un p) with
    | false =>
      have er : res a [p] = none := res_none (by rw [raw1, hn]; rfl)
      rw [er]
      apply ex_of_w
      rw [m_read_ratio, wr_fnM, b_read_ratio]
      wp_walk using ty, Option.map_some, c1, mi_S, d1, fiB, c3, sl_S, part_none hup lu.1, num_ok (show (un p).length ≤ 1000 by omega), hn
    | true =>
      have hr : raw [p] = some (Rat.divInt (sv p) 1) := by rw [raw1, hn]; rfl
      rw [res_some hr]
      obtain ⟨dm, m1, m2⟩ := mul_sg S0 (vl_lt hn lu.1)
      have bt := raw_bt hr (fun q hq => by
        simp only [List.mem_cons, List.not_mem_nil, or_false] at hq
        subst hq
        rw [ha] at hl; exact hl)
      have i1 : fIntS S0 [.str (Sx [49])] = some (.int 1) := int_N (w := [49]) (by decide) (by decide) S0
      have z1 := lowest_ok (S := S0) hN (t := sv p) (b := 1) (n := 2) (by decide) (by decide) (by omega) (by omega)
      have tn : truD S0 (.str (Sx [])) = some false := rfl
      generalize Rat.divInt (sv p) 1 = rr at z1 bt ⊢
      by_cases hq : tq rr = a
      · rw [if_pos hq]
        apply eq_of_w
        rw [m_read_ratio, wr_fnM, b_read_ratio]
        wp_walk using ty, Option.map_some, c1, mi_S, d1, fiB, c3, sl_S, part_none hup lu.1, num_ok (show (un p).length ≤ 1000 by omega), hn, nil_S, neS, int_N hn lu.1, m1, m2, tn, one_S, i1, z1, show_ok hN bt, hq
      · rw [if_neg hq]
        apply ex_of_w
        rw [m_read_ratio, wr_fnM, b_read_ratio]
        wp_walk using ty, Option.map_some, c1, mi_S, d1, fiB, c3, sl_S, part_none hup lu.1, num_ok (show (un p).length ≤ 1000 by omega), hn, nil_S, neS, int_N hn lu.1, m1, m2, tn, one_S, i1, z1, show_ok hN bt, hq
  | cons q r =>
    obtain ⟨b, hb⟩ : ∃ b, b = TL.joinL [47] (q :: r) := ⟨_, rfl⟩
    have ht : tail47 (q :: r) = 47 :: b := by rw [hb]; rfl
    rw [ht] at c2 lu
    have hbl : b.length ≤ 75 := by have := lu.2.1; rw [List.length_cons] at this; omega
    have ps := part_some (v := b) hup lu.2.2
    have n47 : decide ([47] = ([] : List Nat)) = false := rfl
    cases hn : isN (un p) with
    | false =>
      have er : res a (p :: q :: r) = none := by
        cases r with
        | nil => exact res_none (by rw [raw2, hn]; rfl)
        | cons s r => exact res_none (raw3 p q s r)
      rw [er]
      apply ex_of_w
      rw [m_read_ratio, wr_fnM, b_read_ratio]
      wp_walk using ty, Option.map_some, c1, mi_S, d1, fiB, c2, sl_S, ps, num_ok (show (un p).length ≤ 1000 by omega), hn
    | true =>
      cases hm : isN b with
      | false =>
        have er : res a (p :: q :: r) = none := by
          cases r with
          | nil =>
            have : b = q := hb
            rw [this] at hm
            exact res_none (by rw [raw2, hm, hn]; rfl)
          | cons s r => exact res_none (raw3 p q s r)
        rw [er]
        apply ex_of_w
        rw [m_read_ratio, wr_fnM, b_read_ratio]
        wp_walk using ty, Option.map_some, c1, mi_S, d1, fiB, c2, sl_S, ps, num_ok (show (un p).length ≤ 1000 by omega), hn, nil_S, neS, n47, num_ok (show b.length ≤ 1000 by omega), hm
      | true =>
        have hr0 : r = [] := by
          cases r with
          | nil => rfl
          | cons s r =>
            exfalso
            have h47 : 47 ∈ b := by rw [hb, join_cons]; exact List.mem_append_right _ (List.mem_cons_self ..)
            have := (dig_of hm).1 47 h47
            omega
        subst hr0
        have hbq : b = q := hb
        by_cases hv : vl b = 0
        · have er : res a [p, q] = none := res_none (by rw [raw2, ← hbq, hm, hn, hv]; rfl)
          rw [er]
          have iv : fIntS S0 [.str (Sx b)] = some (.int 0) := by rw [int_N hm hbl, hv]; rfl
          apply ex_of_w
          rw [m_read_ratio, wr_fnM, b_read_ratio]
          wp_walk using ty, Option.map_some, c1, mi_S, d1, fiB, c2, sl_S, ps, num_ok (show (un p).length ≤ 1000 by omega), hn, nil_S, neS, n47, num_ok (show b.length ≤ 1000 by omega), hm, iv
        · have hr : raw [p, q] = some (Rat.divInt (sv p) (vl b)) := by rw [raw2, ← hbq, hm, hn, decide_eq_true hv]; rfl
          rw [res_some hr]
          obtain ⟨dm, m1, m2⟩ := mul_sg S0 (vl_lt hn lu.1)
          have bt := raw_bt hr (fun z hz => by
            have l1 : (p ++ 47 :: b).length ≤ 75 := by
              have : a = p ++ 47 :: b := by rw [ha, join_cons, ht]
              rw [← this]; exact hl
            rw [List.length_append, List.length_cons] at l1
            simp only [List.mem_cons, List.not_mem_nil, or_false] at hz
            rcases hz with rfl | rfl
            · omega
            · rw [← hbq]; omega)
          have iv : fIntS S0 [.str (Sx b)] = some (.int (vl b : Nat)) := int_N hm hbl S0
          have hv' : ¬ ((vl b : Nat) : Int) = 0 := by omega
          have z1 := lowest_ok (S := S0) hN (t := sv p) (b := (vl b : Nat)) (n := 250) (by omega) (by have := vl_lt hm hbl; omega) (by omega) (by omega)
          have tn : truD S0 (.str (Sx b)) = some true := by
            rw [tr_S hbl]
            have := (dig_of hm).2
            cases b with
            | nil => exact absurd rfl this
            | cons c b => rfl
          generalize Rat.divInt (sv p) (vl b : Nat) = rr at z1 bt ⊢
          by_cases hq : tq rr = a
          · rw [if_pos hq]
            apply eq_of_w
            rw [m_read_ratio, wr_fnM, b_read_ratio]
            wp_walk using ty, Option.map_some, c1, mi_S, d1, fiB, c2, sl_S, ps, num_ok (show (un p).length ≤ 1000 by omega), hn, nil_S, neS, n47, num_ok (show b.length ≤ 1000 by omega), hm, iv, hv', int_N hn lu.1, m1, m2, tn, z1, show_ok hN bt, hq
          · rw [if_neg hq]
            apply ex_of_w
            rw [m_read_ratio, wr_fnM, b_read_ratio]
            wp_walk using ty, Option.map_some, c1, mi_S, d1, fiB, c2, sl_S, ps, num_ok (show (un p).length ≤ 1000 by omega), hn, nil_S, neS, n47, num_ok (show b.length ≤ 1000 by omega), hm, iv, hv', int_N hn lu.1, m1, m2, tn, z1, show_ok hN bt, hq
end Wk04
namespace Wk04
open PySem G C
theorem tq_len {q : Rat} (h1 : q.num.natAbs < 10 ^ 22) (h2 : q.den < 10 ^ 22) : (tq q).length ≤ 46 := by
  have a1 := numI_len (i := q.num) (k := 22) (by omega) h1
  have a2 := TL.numL_len (n := q.den) (k := 22) (by omega) h2
  unfold tq
  split
  · rw [List.length_append, List.length_nil]; omega
  · rw [List.length_append, List.length_cons]; omega
end Wk04
local macro_rules | `(tactic| wp_walk using $ts,*) => (let es := ts.getElems; let k := (es[0]!).raw.getId; let all : Array Lean.Name := #[`G.wr_ok, `G.wr_exc, `G.wr_lf, `G.wr_eC, `G.evQ_some, `G.wr_eVar, `G.cB2_s, `G.cB1_s, `G.wr_eBin, `G.cS2_s, `G.cS1_s, `G.wr_eBinS, `G.asQ_bl, `G.wr_tB, `G.truQ_s, `G.wr_tT, `G.notQ_s, `G.wr_tNt, `G.anQ_t, `G.anQ_f, `G.wr_tAn, `G.orQ_t, `G.orQ_f, `G.wr_tOr, `G.eaB_t, `G.eaB_f, `G.eaQ_s, `G.wr_eAn, `G.eoB_t, `G.eoB_f, `G.eoQ_s, `G.wr_eOr, `G.enB_s, `G.enQ_s, `G.wr_eNt, `G.eiQ_t, `G.eiQ_f, `G.wr_eIf, `G.negQ_int, `G.wr_eNeg, `G.wr_aNil, `G.cC2_s, `G.cC1_s, `G.wr_aCons, `G.tupQ_s, `G.lstQ_s, `G.newQ_s, `G.wr_eTup, `G.wr_eLst, `G.wr_eNew, `G.caQ_s, `G.wr_eCa, `G.clQ_s, `G.wr_eCall, `G.nAQ_s, `G.wr_nA, `G.tyQ_s, `G.wr_eIsTy, `G.icQ_s, `G.wr_eIsC, `G.mt2_s, `G.mt1_s, `G.wr_eMt, `G.wr_oNone, `G.oQ_int, `G.wr_oSome, `G.sl3_s, `G.sl2_s, `G.sl1_s, `G.wr_eSl, `G.kk2_s, `G.kk1_s, `G.wr_eCallK, `G.kk0_s, `G.wr_eCallK0, `G.wr_gN, `G.sb3_s, `G.sb2_s, `G.sb1_s, `G.wr_gSb, `G.wr_gsNil, `G.gs1_s, `G.wr_gsCons, `G.wr_gTp, `G.wr_gTp_rD, `G.xe_s, `G.sq_nx, `G.sq_rt, `G.sq_bk, `G.sq_ct, `G.sq_ex, `G.sq_xe, `G.ws_nxt, `G.ws_sNop, `G.ws_sSeq, `G.ws_sBrk, `G.ws_sCnt, `G.dropQ_s, `G.ws_sDrop, `G.ws_sRet, `G.ws_sRetN, `G.ifQ_t, `G.ifQ_f, `G.ws_sIf, `G.asg1_s, `G.ws_sAsg, `G.setQ_s, `G.ws_sSet, `G.parQ_s, `G.ws_sPar, `G.ws_sRaise, `G.fn_nx, `G.fn_rt, `G.fn_ex, `G.fn_xe, `G.su_nx, `G.su_bk, `G.su_ct, `G.su_rt, `G.trQ_t, `G.trQ_f, `G.tr_nx, `G.tr_rt, `G.tr_bk, `G.tr_ct, `G.tr_ex, `G.ws_sTry, `G.forQ_s, `G.ws_sFor, `G.lp_nx, `G.lp_rt, `G.lp_bk, `G.lp_ct, `G.lp_ex, `G.lp_xe, `G.ws_fi_nil, `G.bodyQ_s, `G.mid_nx, `G.mid_rt, `G.mid_bk, `G.mid_ct, `G.mid_ex, `G.mid_xe, `G.lc2_s, `G.lc1_s, `G.wr_eLc, `G.lcn2_s, `G.lcn1_s, `G.wr_eLcN, `G.wipe_nil, `G.wipe_cons, `G.wr_tTrue, `G.wr_lc_nil, `G.tgQ_some, `G.ly_s, `G.lt1_t, `G.lt1_f, `G.lg_s, `G.eqQ_s, `G.exQ_s, `G.seqQ_tup, `G.seqQ_lst, `G.seqQ_scr, `G.seqQ_rD, `G.wr_iSeq, `G.rgQ_int, `G.wr_iRg1, `G.rgQ2_int, `G.wr_iRg2, `G.ch3_t, `G.ch3_f, `G.ch2_s, `G.ch1_s, `G.wr_eChain, `G.flQ_s, `G.wr_eFld, `G.fldD_ins, `G.stQ_s, `G.sf2_s, `G.sf1_s, `G.ws_sFldM, `G.mkQ2_s, `G.mkQ1_s, `G.wr_eMk, `G.wr_eMk0, `G.ap2_s, `G.ap1_s, `G.wr_eApp, `G.zpQ_s, `G.wr_iZip, `G.zipR_tup, `G.zipR_lst, `G.srQ_s, `G.wr_iStrM, `G.strR_s, `G.ioQ_s, `G.wr_eIsO, `G.dAddS_int, `G.wr_gStr_tup, `G.wr_gStr_lst, `G.fTuple_lst, `G.fTuple_tup, `List.take_succ_cons, `List.take_zero, `List.drop_succ_cons, `List.drop_zero, `List.getElem?_cons_zero, `List.getElem?_cons_succ, `List.set_cons_zero, `List.set_cons_succ, `List.map_cons, `List.map_nil, `List.length_cons, `List.length_nil, `List.cons_append, `List.nil_append, `List.replicate_succ, `List.replicate_zero, `List.append_nil, `true_and, `and_true, `and_self, `if_true, `ite_true, `if_false, `ite_false, `Bool.false_eq_true, `Bool.not_true, `Bool.not_false, `Bool.not_not, `decide_true, `decide_false, `decide_eq_true_eq, `not_false_eq_true, `not_true_eq_false, `reduceCtorEq, `PySem.sizeLine_eq, `Option.map_some, `Option.some.injEq, `Nat.reduceSub, `Nat.reduceAdd, `Nat.reduceLeDiff, `Nat.reduceEqDiff, `Nat.zero_add, `Nat.reduceBEq, `List.contains_cons, `List.contains_nil, `beq_self_eq_true, `Bool.true_or, `Bool.or_true, `Bool.false_or, `Bool.or_false, `List.lookup_cons, `List.lookup_nil, `Int.reduceEq, `Int.reduceNe, `Int.reduceLT, `Int.reduceLE, `Int.reduceNeg, `Int.reduceAdd, `Int.reduceSub, `Int.cast_ofNat_Int, `ne_eq, `G.cmpI_s, `G.dGt, `G.dGe, `G.dLt, `G.dLe, `G.dAdd_int, `G.dSub_int, `G.dEq_int, `G.dNe_int, `G.dEq_bl, `G.dNe_bl, `G.truD_bl, `G.isTy_int, `G.isTy_bl, `G.isTy_tup, `G.fLen_tup, `G.fLen_scr, `G.fLen_lst, `G.fAbs_int, `G.fMax_int, `G.fMin_int, `G.ixD_tup, `G.ixD_lst, `G.ixD_scr, `G.isTy_rD, `G.fLen_rD, `G.ix_rD0, `G.ix_rD1, `G.dEq_rD, `G.dNe_rD, `G.dIs_rD, `G.dIsNot_rD, `G.Tn.is, `G.me3_s, `G.me2_s, `G.me1_s, `G.wr_eMeth, `G.mk2_s, `G.mk1_s, `G.wr_eMethK, `G.m01_s, `G.wr_eMeth0, `G.wr_eNewD, `G.dg3_s, `G.dg2_s, `G.dg1_s, `G.wr_eDGet2, `G.dh2_s, `G.dh1_s, `G.wr_eDGet1, `G.dp3_s, `G.dp2_s, `G.dp1_s, `G.wr_eDPop2, `G.dq2_s, `G.dq1_s, `G.wr_eDPop1, `G.se2_s, `G.se1_s, `G.wr_gSbE, `G.ssQ_s, `G.wr_eSortSet, `G.an2_s, `G.an1_s, `G.wr_eAddN, `G.celQ_tup, `G.celQ_lst, `G.celQ_scr, `G.wr_iCel, `G.forcQ_s, `G.ws_sForC, `G.lcc1_s, `G.wr_eLcC, `G.lcd1_s, `G.wr_eLcCN, `G.keyD_int, `G.keyD_str, `Option.isSome_some, `G.fmQ_s, `G.wr_eFmt, `G.jsQ_str, `G.wr_js_nil, `G.wr_js_cons, `G.wr_eJs, `G.s4Q_str, `G.soQ_s, `G.wr_eStrO, `G.dAddE_0, `G.wr_eCallV, `G.chQ_s, `G.wr_eCallH, `G.wr_lamF, `G.oj_s, `G.enuQ_s, `G.wr_iEnum, `G.enR_tup, `G.enR_lst, `G.lrQ_int, `G.wr_eLr, `G.lrnQ_int, `G.wr_eLrN, `G.agQ_s, `G.auP_s, `G.ws_sAug, `G.augR_int, `G.pp2_s, `G.pp1_s, `G.wr_ePop, `G.wr_gSq_tup, `G.wr_gSq_lst, `G.lnQ_lst, `G.lnQ_tup, `G.wr_eListN, `G.rvQ_lst, `G.wr_eRev, `G.rfQ_s, `G.ws_sRaiseF, `G.trG_nx, `G.trG_rt, `G.trG_bk, `G.trG_ct, `G.trG_ex, `G.ws_sTryG, `G.ws_hd_nil, `G.hdP_t, `G.hdP_f, `G.ws_hd_cons, `G.setO_some, `G.setO_none, `G.ws_suS, `G.suN_nx, `G.suN_rt, `G.suN_bk, `G.suN_ct, `G.ws_suN, `G.iyQ_s, `G.wr_eIsY, `G.isY_exc, `G.fyQ_s, `G.wr_eFldY, `G.fldY_exc, `G.toQ_s, `G.wr_eIsTyO, `G.isTyO_tup, `G.isTyO_lst, `G.isTyO_int, `G.tm2_s, `G.tm1_s, `G.wr_eTm, `G.rgQN_int, `G.wr_iRgN, `G.gf1_s, `G.wr_gFl, `G.as3_s, `G.as2_s, `G.as1_s, `G.ws_sAsg3, `G.at1_s, `G.ws_sAsg2, `G.ws_sFldA, `G.ds3_s, `G.ds2_s, `G.ds1_s, `G.wr_eDSetd, `G.dispQ_s, `G.wr_eDisp, `G.rm2_s, `G.rm1_s, `G.wr_eRem, `G.parQ3_s, `G.ws_sPar3, `G.th_nx, `G.th_rt, `G.th_xe, `G.wr_iDv, `G.wr_iDi, `G.wr_iDk, `G.wr_iTk, `G.wr_eTs1, `G.tu2_s, `G.tu1_s, `G.wr_eTsU, `G.dct1_s, `G.dcQ_s, `G.wr_eDcT, `G.dt1_t, `G.dt1_f, `G.dgg_s, `G.eqOb_t, `G.eqOb_f, `G.eqO2_s, `G.eqO1_s, `G.wr_eEqO, `G.in2_s, `G.in1_s, `G.wr_eIns, `G.wr_eTabIx, `G.txQ_str, `G.wr_eTabIn, `G.tiQ_t, `G.tiQ_f, `G.ws_sTabCall, `G.tcQ_str, `G.tc1_s, `G.tc2_s, `G.sn3_s, `G.sn2_s, `G.sn1_s, `G.wr_eSlN, `G.zmQ_s, `G.wr_iZipM, `G.zipRM_s, `G.ex2_s, `G.ex1_s, `G.wr_eEqX, `G.cnQ_s, `G.wr_eCallN, `G.ku2_s, `G.ku1_s, `G.wr_eDkU, `G.wr_eNx, `G.sa3_s, `G.sa2_s, `G.sa1_s, `G.wr_eSlA, `G.s5Q_int, `G.lnoQ_s, `G.wr_eLenO, `G.wr_eReprO, `G.wr_eDictN, `G.wr_iRev, `G.forrQ_s, `G.ws_sForR, `G.m0N1_s, `G.wr_eMeth0N, `G.noQ_s, `G.wr_iNo, `G.ws_sFin, `G.finK_nx, `G.finK_ex, `G.onNx_nx, `G.wr_eDcK, `G.dck1_s, `G.dckQ_s, `G.dkgg_s, `G.dkt1_t, `G.dkt1_f, `G.dkk_s, `G.eqLQ1_s, `G.eqLQ2_s, `G.wr_eEqL, `G.eqMQ1_s, `G.eqMQ2_s, `G.wr_eEqM, `G.inOQ1_s, `G.inOQ2_s, `G.wr_eInO, `G.s6Q_int, `G.bnoQ_s, `G.wr_eBoolO, `G.xt2_s, `G.xt1_s, `G.wr_eExt, `G.zlQ_s, `G.wr_iZipL, `G.zipRL_s, `G.eqTQ1_s, `G.eqTQ2_s, `G.wr_eEqT]; let cut : Nat := if k == `zstop || k == `zust then 1 else if k == `zstf || k == `zxtf then 2 else if k == `zstq then 3 else 0; let sel := all.filter fun n => !((cut == 1 && n == `G.ws_sIf) || (cut == 2 && (n == `G.ws_sIf || n == `G.ws_sFor || n == `G.ws_sForC || n == `G.ws_sForR)) || (cut == 3 && n.getString!.startsWith "ws_")); let ids : Lean.TSyntaxArray `term := sel.map fun n => ⟨(Lean.mkIdent n).raw⟩; let r1 : Lean.TSyntaxArray `term := ids ++ es.extract 1 es.size; let r2 : Lean.TSyntaxArray `term := ids ++ es.extract 2 es.size; let r0 : Lean.TSyntaxArray `term := ids ++ es; if k == `zust || k == `zuse then `(tactic| (have hq0 := $(es[1]!); simp only [$[$r2:term],*] at hq0; exact hq0)) else if k == `zxtf then `(tactic| try simp -implicitDefEqProofs only [$[$r1:term],*]) else if cut == 0 then `(tactic| try simp only [$[$r0:term],*]) else `(tactic| try simp only [$[$r1:term],*]))
namespace Wk04
open PySem G C
theorem split_ok {p : List Nat} {ps : List (List Nat)} (hp : ∀ q, q ∈ p :: ps → 47 ∉ q) {a : List Nat} (ha : a = TL.joinL [47] (p :: ps)) (hl : a.length ≤ 75) (S0 : Store) : fSplit S0 (.str (Sx a)) [.str (Sx [47])] = some (.lst ((p :: ps).map fun w => .str (Sx w))) := by
  show (if ((Sx [47]).length == 0) = false ∧ (Sx a).length ≤ 1000000 then some (D.lst ((Txt.split (Sx a) (Sx [47])).map D.str)) else none) = _
  rw [if_pos ⟨rfl, by rw [SX.S_len]; omega⟩, SX.split_S (by simp) (by decide), ha, SX.spl_join (by simp) hp, List.map_map]
  rfl
theorem len_parts : ∀ (p : List Nat) (ps : List (List Nat)), (∀ q, q ∈ p :: ps → q.length ≤ (TL.joinL [47] (p :: ps)).length) ∧ ps.length ≤ (TL.joinL [47] (p :: ps)).length
  | p, [] => ⟨fun q hq => by simp only [List.mem_cons, List.not_mem_nil, or_false] at hq; subst hq; exact Nat.le_refl _, Nat.zero_le _⟩
  | p, q :: r => by
    obtain ⟨h1, h2⟩ := len_parts q r
    have e : TL.joinL [47] (p :: q :: r) = p ++ 47 :: TL.joinL [47] (q :: r) := rfl
    rw [e, List.length_append, List.length_cons]
    refine ⟨fun z hz => ?_, by rw [List.length_cons]; omega⟩
    rcases List.mem_cons.mp hz with z1 | z1
    · subst z1; omega
    · have := h1 z z1; omega
theorem sv_int {p : List Nat} (h : isN (un p) = true) (hl : p.length ≤ 75) (S0 : Store) : fIntS S0 [.str (Sx p)] = some (.int (sv p)) := by
  cases hs : sg p with
  | false =>
    have e : un p = p := by unfold un; rw [hs]; rfl
    have : sv p = (vl p : Int) := by unfold sv; rw [hs, e]; rfl
    rw [this]
    exact int_N (by rw [← e]; exact h) hl S0
  | true =>
    obtain ⟨d1, d2⟩ := dig_of h
    have hp : p = 45 :: un p := by
      unfold un
      rw [hs]
      unfold sg at hs
      have := of_decide_eq_true hs
      cases p with
      | nil => cases this
      | cons c r =>
        cases this
        rfl
    have : sv p = -(vl (un p) : Int) := by unfold sv; rw [hs]; rfl
    rw [this]
    show (if (Sx p).length ≤ 640 then (PySem.intText? (Sx p)).map D.int else none) = _
    rw [if_pos (by rw [SX.S_len]; omega)]
    have e : PySem.intText? (Sx p) = some (-((NumText.digitsVal (un p) : Nat) : Int)) := intText_neg (x := Sx p) (cs := un p) hp d1 d2 (by rw [SX.S_len]; omega)
    rw [e]; rfl
theorem text_ok {N : Nat} {q : Rat} (h : Bt q 250) (S0 : Store) : m__law_text N [rD q] S0 = .ok (.str (Sx (tq q))) S0 := by
  have hd : ((q.den : Int)).natAbs < 2 ^ 250 := by simpa using h.2
  have l1 := numI_b h.1
  have l2 := numI_b hd
  have e2 : numI (q.den : Int) = TL.numL q.den := by unfold numI; rw [if_neg (by omega)]; rfl
  apply eq_of_w
  rw [m__law_text, wr_fnM, b__law_text]
  have a1 := add_S (a := [47]) (b := numI (q.den : Int)) (by simp only [List.length_cons, List.length_nil]; omega)
  unfold tq
  by_cases c : (q.den : Int) = 1
  · have c' : q.den = 1 := by omega
    have m0 : ∀ x : Str, dMulS (.str x) (.int 0) = some (.str (Sx [])) := fun x => rfl
    have i0 : ∀ S0, fInt S0 [.bl false] = some (.int 0) := fun _ => rfl
    have a2 := add_S (a := numI q.num) (b := []) (by simp only [List.length_nil]; omega)
    have f1 := fStr_I (i := 1) (by decide)
    have a3 := add_S (a := [47]) (b := numI 1) (by decide)
    wp_walk using fStr_I h.1, f1, sl_S, a3, c, i0, m0, a2, c'
  · have c' : ¬ q.den = 1 := by omega
    have m1 : ∀ x : Str, dMulS (.str x) (.int 1) = some (.str x) := fun x => rfl
    have i1 : ∀ S0, fInt S0 [.bl true] = some (.int 1) := fun _ => rfl
    have a2 := add_S (a := numI q.num) (b := 47 :: numI (q.den : Int)) (by simp only [List.length_cons]; omega)
    wp_walk using fStr_I h.1, fStr_I hd, sl_S, a1, c, i1, m1, a2, c'
    rw [e2]
def isSg (c : Nat) : Bool := decide (c = 45) || decide (c = 47) || isD c
theorem sgs_l : ("-/0123456789" : Str).cps.toList = 45 :: 47 :: List.range' 48 10 := by decide +kernel
theorem sgs_in (c : Nat) (S0 : Store) : dIn false S0 (.str (Sx [c])) (.str "-/0123456789") = some (.bl (isSg c)) := by
  show some (D.bl (decide (c ∈ ("-/0123456789" : Str).cps.toList))) = _
  have h0 := dig_in c S0
  have h1 : dIn false S0 (.str (Sx [c])) (.str "0123456789") = some (D.bl (decide (c ∈ ("0123456789" : Str).cps.toList))) := rfl
  rw [h1, dig_l] at h0
  have h2 : decide (c ∈ List.range' 48 10) = isD c := by
    injection h0 with h0
    injection h0
  rw [sgs_l]
  unfold isSg
  rw [← h2]
  congr 2
  simp only [List.mem_cons, Bool.decide_or, Bool.or_assoc]
theorem min_in (l : List Nat) (S0 : Store) : dIn false S0 (.str "-") (.str (Sx l)) = some (.bl (decide (45 ∈ l))) := by
  show some (D.bl (decide (45 ∈ (Sx l).cps.toList))) = _
  have : (Sx l).cps.toList = l := by simp [Sx, SX.S]
  rw [this]
theorem all_sgs {N : Nat} {a : List Nat} {e : En} {j : Nat} {S0 : Store} {X : QP D} (hj : j < e.length) (hl : a.length ≤ 1000) :
    Wr (lcR (.nm j) tTrue (eBinS (dIn false) (eVar j) (eC (.str "-/0123456789"))) e (signs (Sx a)) [] S0) (fun acc S' => S' = S0 ∧ acc = a.map fun c => D.bl (isSg c)) X := by
  have gm : ∀ (d : D) (e : En), Tg.m (.nm j) d e = some (e.set j (some d)) := fun _ _ => rfl
  rw [signs_S]
  refine lc_w (fun i acc S' => S' = S0 ∧ acc = (a.take i).map fun c => D.bl (isSg c)) ⟨rfl, rfl⟩ ?_ ?_
  · rintro i d acc S' hd ⟨rfl, rfl⟩
    rw [List.getElem?_map] at hd
    obtain ⟨c, hd2, rfl⟩ := Option.map_eq_some_iff.mp hd
    have hlt := (List.getElem?_eq_some_iff.mp hd2).1
    have he : (e.set j (some (D.str (Sx [c]))))[j]? = some (some (.str (Sx [c]))) := List.getElem?_set_self hj
    wp_walk using gm, he, sgs_in, List.length_map
    exact ⟨by rw [List.length_take]; omega, by rw [List.take_add_one, hd2, List.map_append]; rfl⟩
  · rintro acc S' ⟨rfl, rfl⟩
    rw [List.length_map, List.take_length]
    exact ⟨rfl, rfl⟩
theorem fAll_sgs (a : List Nat) (S0 : Store) : fAll S0 [.lst (a.map fun c => D.bl (isSg c))] = some (.bl (a.all isSg)) := by
  show ((bools (a.map fun c => D.bl (isSg c))).map fun bs => D.bl (bs.all id)) = _
  rw [bools_map]
  simp [List.all_map]
theorem ints_w {e : En} {j : Nat} {S0 : Store} {X : QP D} {W vs : List D} (hj : j < e.length) (hl : W.length ≤ 1000) (h : ∀ (i : Nat) (d : D), W[i]? = some d → ∃ v, vs[i]? = some v ∧ ∀ S, fIntS S [d] = some v) (hv : vs.length = W.length) :
    Wr (lcR (.nm j) tTrue (eCa fIntS (aCons (eVar j) aNil)) e W [] S0) (fun acc S' => S' = S0 ∧ acc = vs) X := by
  have gm : ∀ (d : D) (e : En), Tg.m (.nm j) d e = some (e.set j (some d)) := fun _ _ => rfl
  refine lc_w (fun i acc S' => S' = S0 ∧ acc = vs.take i) ⟨rfl, rfl⟩ ?_ ?_
  · rintro i d acc S' hd ⟨rfl, rfl⟩
    obtain ⟨v, hv1, hv2⟩ := h i d hd
    have hlt := (List.getElem?_eq_some_iff.mp hd).1
    have he : (e.set j (some d))[j]? = some (some d) := List.getElem?_set_self hj
    wp_walk using gm, he, hv2
    exact ⟨by rw [List.length_take]; omega, by rw [List.take_add_one, hv1]; rfl⟩
  · rintro acc S' ⟨rfl, rfl⟩
    rw [← hv, List.take_length]
    exact ⟨rfl, rfl⟩
theorem mem_tail {c : Nat} {q : List Nat} : c ∈ tail47 [q] ↔ c = 47 ∨ c ∈ q := by
  show c ∈ 47 :: q ↔ _
  rw [List.mem_cons]
theorem isN_iff {w : List Nat} : isN w = true ↔ w ≠ [] ∧ ∀ c, c ∈ w → isD c = true := by
  unfold isN
  rw [Bool.and_eq_true, List.all_eq_true]
  constructor
  · rintro ⟨h, k⟩
    exact ⟨fun z => by rw [z] at h; exact absurd h (by simp), k⟩
  · rintro ⟨h, k⟩
    exact ⟨by cases w with
      | nil => exact absurd rfl h
      | cons _ _ => rfl, k⟩
theorem isD_of {c : Nat} (h : isSg c = true) (h1 : c ≠ 45) (h2 : c ≠ 47) : isD c = true := by
  unfold isSg at h
  rw [decide_eq_false h1, decide_eq_false h2] at h
  simpa using h
theorem isD_ne {c : Nat} (h : isD c = true) : c ≠ 45 ∧ c ≠ 47 := by
  unfold isD at h
  rw [Bool.and_eq_true, decide_eq_true_eq, decide_eq_true_eq] at h
  omega
theorem isSg_D {c : Nat} (h : isD c = true) : isSg c = true := by unfold isSg; rw [h]; simp
theorem un_cons {x : Nat} {p : List Nat} : un (x :: p) = if x = 45 then p else x :: p := by
  unfold un sg
  by_cases h : x = 45
  · subst h; rfl
  · rw [if_neg h]
    have : decide ((x :: p).take 1 = [45]) = false := decide_eq_false fun z => by
      have : [x] = [45] := z
      exact h (List.cons.inj this).1
    rw [this]; rfl
section
variable {a p : List Nat} {ps : List (List Nat)}
theorem far_of (hp : ∀ q, q ∈ p :: ps → 47 ∉ q) (ha : a = TL.joinL [47] (p :: ps)) (h1 : ps.length ≤ 1) (k2 : [] ∉ p :: ps) (k3 : ∀ c, c ∈ a → isSg c = true) (k4 : 45 ∉ a.drop 1) (k5 : p ≠ [45]) : isN (un p) = true ∧ ∀ q, q ∈ ps → isN q = true := by
  rw [join_cons] at ha
  have p0 : p ≠ [] := fun z => k2 (by rw [z]; exact List.mem_cons_self)
  obtain ⟨x, p', rfl⟩ := List.exists_cons_of_ne_nil p0
  have hd : a.drop 1 = p' ++ tail47 ps := by rw [ha]; rfl
  rw [hd] at k4
  have f0 := hp _ (List.mem_cons_self ..)
  have g : ∀ c, c ∈ p' → isD c = true := fun c hc => isD_of (k3 c (by rw [ha]; exact List.mem_append_left _ (List.mem_cons_of_mem _ hc))) (fun z => k4 (by rw [← z]; exact List.mem_append_left _ hc)) (fun z => f0 (by rw [← z]; exact List.mem_cons_of_mem _ hc))
  refine ⟨isN_iff.mpr ?_, fun q hq => isN_iff.mpr ?_⟩
  · rw [un_cons]
    by_cases hx : x = 45
    · rw [if_pos hx]
      exact ⟨fun z => k5 (by rw [hx, z]), g⟩
    · rw [if_neg hx]
      refine ⟨by simp, fun c hc => ?_⟩
      rcases List.mem_cons.mp hc with z | z
      · subst z
        exact isD_of (k3 c (by rw [ha]; exact List.mem_append_left _ (List.mem_cons_self ..))) hx (fun z => f0 (by rw [z]; exact List.mem_cons_self ..))
      · exact g c z
  · match ps, hq, h1 with
    | [q'], hq, _ =>
      have e : q = q' := by simpa using hq
      subst e
      refine ⟨fun z => k2 (by rw [z]; simp), fun c hc => ?_⟩
      have m : c ∈ tail47 [q] := mem_tail.mpr (.inr hc)
      exact isD_of (k3 c (by rw [ha]; exact List.mem_append_right _ m)) (fun z => k4 (by rw [← z]; exact List.mem_append_right _ m)) (fun z => hp q (by simp) (by rw [← z]; exact hc))
theorem of_far (ha : a = TL.joinL [47] (p :: ps)) (h1 : ps.length ≤ 1) (k1 : isN (un p) = true) (k2 : ∀ q, q ∈ ps → isN q = true) : [] ∉ p :: ps ∧ (∀ c, c ∈ a → isSg c = true) ∧ 45 ∉ a.drop 1 ∧ p ≠ [45] := by
  rw [join_cons] at ha
  obtain ⟨u0, u1⟩ := isN_iff.mp k1
  have p0 : p ≠ [] := fun z => u0 (by rw [z]; rfl)
  obtain ⟨x, p', rfl⟩ := List.exists_cons_of_ne_nil p0
  have hd : a.drop 1 = p' ++ tail47 ps := by rw [ha]; rfl
  have g : ∀ c, c ∈ p' → isD c = true := fun c hc => by
    rw [un_cons] at u1
    split at u1
    · exact u1 c hc
    · exact u1 c (List.mem_cons_of_mem _ hc)
  have gx : isSg x = true := by
    by_cases hx : x = 45
    · rw [hx]; rfl
    · rw [un_cons, if_neg hx] at u1
      exact isSg_D (u1 x (List.mem_cons_self ..))
  have gt : ∀ c, c ∈ tail47 ps → c = 47 ∨ isD c = true := fun c hc => by
    match ps, h1, hc, k2 with
    | [q], _, hc, k2 =>
      rcases mem_tail.mp hc with z | z
      · exact .inl z
      · exact .inr ((isN_iff.mp (k2 q (by simp))).2 c z)
  refine ⟨fun z => ?_, fun c hc => ?_, fun z => ?_, fun z => ?_⟩
  · rcases List.mem_cons.mp z with z | z
    · cases z
    · exact (isN_iff.mp (k2 _ z)).1 rfl
  · rw [ha] at hc
    rcases List.mem_append.mp hc with z | z
    · rcases List.mem_cons.mp z with z | z
      · rw [z]; exact gx
      · exact isSg_D (g c z)
    · rcases gt c z with z | z
      · rw [z]; rfl
      · exact isSg_D z
  · rw [hd] at z
    rcases List.mem_append.mp z with z | z
    · exact (isD_ne (g _ z)).1 rfl
    · rcases gt _ z with z | z
      · cases z
      · exact (isD_ne z).1 rfl
  · cases z
    exact u0 rfl
theorem raw_none (h1 : ps.length ≤ 1) (h : ¬ (isN (un p) = true ∧ ∀ q, q ∈ ps → isN q = true)) : raw (p :: ps) = none := by
  match ps, h1, h with
  | [], _, h =>
    rw [raw1, if_neg fun z => h ⟨z, fun q hq => by cases hq⟩]
  | [q], _, h =>
    rw [raw2]
    rw [if_neg fun z => h ?_]
    rw [Bool.and_eq_true, Bool.and_eq_true] at z
    exact ⟨z.1, fun q' hq => by
      have : q' = q := by simpa using hq
      rw [this]; exact z.2.1⟩
end
end Wk04
namespace Wk04
open PySem G C
theorem dInL_W (S0 : Store) (W : List (List Nat)) : dInL false S0 (.str "") (.lst (W.map fun w => D.str (Sx w))) = some (.bl (decide ([] ∈ W))) := by
  have e : (W.map fun w => D.str (Sx w)) = (W.map Sx).map D.str := by rw [List.map_map]; rfl
  rw [e, dInL_str, nil_S]
  congr 2
  by_cases h : [] ∈ W
  · rw [decide_eq_true h, decide_eq_true (List.mem_map.mpr ⟨[], h, rfl⟩)]
  · rw [decide_eq_false h, decide_eq_false]
    intro z
    obtain ⟨w, hw, e⟩ := List.mem_map.mp z
    have : w = [] := SX.S_inj e
    rw [this] at hw
    exact h hw
theorem ix1_2 (x y : D) : L2.atI [x, y] 1 = some y := rfl
theorem ix1_3 (x y z : D) : L2.atI [x, y, z] 1 = some y := rfl
theorem ix0_2 (x y : D) : L2.atI [x, y] 0 = some x := rfl
theorem ix0_3 (x y z : D) : L2.atI [x, y, z] 0 = some x := rfl
theorem due_ok {N : Nat} (hN : big N) {a p : List Nat} {ps : List (List Nat)} (hp : ∀ q, q ∈ p :: ps → 47 ∉ q) (ha : a = TL.joinL [47] (p :: ps)) (hl : a.length ≤ 75) (S0 : Store) :
    m__law_due N [.str (Sx a)] S0 = .ok (match res a (p :: ps) with
      | some r => rD r
      | none => .non) S0 := by
  have ty : isTy S0 .str (.str (Sx a)) = some true := rfl
  obtain ⟨lp, lps⟩ := len_parts p ps
  rw [← ha] at lp lps
  have lp0 : p.length ≤ 75 := Nat.le_trans (lp p (List.mem_cons_self ..)) hl
  obtain ⟨W, hW, eW⟩ : ∃ W : List D, W = (p :: ps).map (fun w => D.str (Sx w)) ∧ fSplit S0 (.str (Sx a)) [.str (Sx [47])] = some (.lst W) := ⟨_, rfl, split_ok hp ha hl S0⟩
  have hWl : W.length = ps.length + 1 := by rw [hW, List.length_map, List.length_cons]
  have i0 : L2.atI W 0 = some (.str (Sx p)) := by
    rw [hW]
    show L2.atI _ ((0 : Nat) : Int) = _
    exact L2.atI_nat rfl
  have eIn : dInL false S0 (.str "") (.lst W) = some (.bl (decide ([] ∈ p :: ps))) := by rw [hW]; exact dInL_W S0 _
  have c2 : slD S0 (.str (Sx a)) (some 1) none = some (.str (Sx (a.drop 1))) := cut_from hl 1 S0
  have d5 : dEq (.str (Sx p)) (.str "-") = some (.bl (decide (p = [45]))) := by rw [dEq_str, mi_S, S_eq]
  have la : a.length ≤ 1000 := by omega
  by_cases h1 : ps.length ≤ 1
  case neg =>
    have er : res a (p :: ps) = none := by
      match ps, h1 with
      | q :: r :: t, _ => exact res_none (raw3 p q r t)
      | [q], h => exact absurd (Nat.le_refl _) h
      | [], h => exact absurd (Nat.zero_le _) h
    have h2 : (2 : Int) < (W.length : Int) := by rw [hWl]; omega
    rw [er]
    apply eq_of_w
    rw [m__law_due, wr_fnM, b__law_due]
    wp_walk using ty, sl_S, eW, dGt, h2
  have h2 : ¬ (2 : Int) < (W.length : Int) := by rw [hWl]; omega
  have er : ∀ {P : Prop}, (isN (un p) = true → (∀ q, q ∈ ps → isN q = true) → P) → ¬ P → res a (p :: ps) = none := fun f n => res_none (raw_none h1 fun z => n (f z.1 z.2))
  by_cases k2 : [] ∈ p :: ps
  · rw [er (fun z y => (of_far ha h1 z y).1) (fun z => z k2)]
    rw [decide_eq_true k2] at eIn
    apply eq_of_w
    rw [m__law_due, wr_fnM, b__law_due]
    wp_walk using ty, sl_S, eW, dGt, h2, eIn
  rw [decide_eq_false k2] at eIn
  by_cases k3 : a.all isSg = true
  case neg =>
    rw [er (fun z y => (of_far ha h1 z y).2.1) (fun z => k3 (List.all_eq_true.mpr z))]
    apply eq_of_w
    rw [m__law_due, wr_fnM, b__law_due]
    wp_walk using ty, sl_S, eW, dGt, h2, eIn
    refine wr_cut _ (all_sgs (N := N) (Nat.lt_succ_self 4) la) ?_
    rintro acc S' ⟨rfl, rfl⟩
    rw [Bool.not_eq_true] at k3
    wp_walk using fAll_sgs, k3
  by_cases k4 : 45 ∈ a.drop 1
  · rw [er (fun z y => (of_far ha h1 z y).2.2.1) (fun z => z k4)]
    apply eq_of_w
    rw [m__law_due, wr_fnM, b__law_due]
    wp_walk using ty, sl_S, eW, dGt, h2, eIn
    refine wr_cut _ (all_sgs (N := N) (Nat.lt_succ_self 4) la) ?_
    rintro acc S' ⟨rfl, rfl⟩
    wp_walk using fAll_sgs, k3, c2, min_in, k4
  by_cases k5 : p = [45]
  · rw [er (fun z y => (of_far ha h1 z y).2.2.2) (fun z => z k5)]
    apply eq_of_w
    rw [m__law_due, wr_fnM, b__law_due]
    wp_walk using ty, sl_S, eW, dGt, h2, eIn
    refine wr_cut _ (all_sgs (N := N) (Nat.lt_succ_self 4) la) ?_
    rintro acc S' ⟨rfl, rfl⟩
    rw [decide_eq_true k5] at d5
    wp_walk using fAll_sgs, k3, c2, min_in, k4, i0, d5
  rw [decide_eq_false k5] at d5
  obtain ⟨n1, n2⟩ := far_of hp ha h1 k2 (List.all_eq_true.mp k3) k4 k5
  clear er
  match ps, hp, ha, lp, hW, n2, hWl with
  | [], hp, ha, lp, hW, n2, hWl =>
    have hr : raw [p] = some (Rat.divInt (sv p) 1) := by rw [raw1, n1]; rfl
    rw [res_some hr]
    have bt := raw_bt hr (fun z hz => by
      simp only [List.mem_cons, List.not_mem_nil, or_false] at hz
      subst hz; exact lp0)
    have z1 := r_ok (N := N) (S := S0) hN (t := sv p) (b := 1) (n := 2) (by decide) (by decide) (by omega) (by omega)
    have iw := fun (e : En) (j : Nat) (hj : j < e.length) (X : QP D) => ints_w (S0 := S0) (X := X) (W := W) (vs := [.int (sv p)]) hj (by omega) (fun i d hd => by
      rw [hW] at hd
      rcases i with _ | i
      · cases hd; exact ⟨_, rfl, sv_int n1 lp0⟩
      · cases hd) (by rw [hWl]; rfl)
    have ew : ∀ S, dAddS S (.lst [.int (sv p)]) (.lst [.int 1]) = some (.lst [.int (sv p), .int 1]) := fun _ => rfl
    generalize Rat.divInt (sv p) 1 = rr at z1 bt ⊢
    have fin : ∀ t : Bool, decide (tq rr = a) = t → m__law_due N [.str (Sx a)] S0 = .ok (if t then rD rr else .non) S0 := by
      intro t ht
      apply eq_of_w
      rw [m__law_due, wr_fnM, b__law_due]
      wp_walk using ty, sl_S, eW, dGt, h2, eIn
      refine wr_cut _ (all_sgs (N := N) (Nat.lt_succ_self 4) la) ?_
      rintro acc S' ⟨rfl, rfl⟩
      wp_walk using fAll_sgs, k3, c2, min_in, k4, i0, d5
      refine wr_cut _ (iw _ 3 ?hj _) ?_
      case hj => exact (show 3 < 5 by decide)
      rintro acc S' ⟨rfl, rfl⟩
      cases t
      · wp_walk using ew, ix1_2, ix0_2, z1, text_ok bt, dNe_str, S_eq, ht
      · wp_walk using ew, ix1_2, ix0_2, z1, text_ok bt, dNe_str, S_eq, ht
    by_cases hq : tq rr = a
    · rw [if_pos hq]
      exact fin true (decide_eq_true hq)
    · rw [if_neg hq]
      exact fin false (decide_eq_false hq)
  | [q], hp, ha, lp, hW, n2, hWl =>
    have lq : q.length ≤ 75 := Nat.le_trans (lp q (by simp)) hl
    have nq := n2 q (by simp)
    have iw := fun (e : En) (j : Nat) (hj : j < e.length) (X : QP D) => ints_w (S0 := S0) (X := X) (W := W) (vs := [.int (sv p), .int (vl q : Nat)]) hj (by omega) (fun i d hd => by
      rw [hW] at hd
      rcases i with _ | _ | i
      · cases hd; exact ⟨_, rfl, sv_int n1 lp0⟩
      · cases hd; exact ⟨_, rfl, int_N nq lq⟩
      · cases hd) (by rw [hWl]; rfl)
    have ew : ∀ S, dAddS S (.lst [.int (sv p), .int (vl q : Nat)]) (.lst [.int 1]) = some (.lst [.int (sv p), .int (vl q : Nat), .int 1]) := fun _ => rfl
    by_cases hv : vl q = 0
    · have er : res a [p, q] = none := res_none (by rw [raw2, nq, n1, hv]; rfl)
      rw [er]
      have dl : ((vl q : Nat) : Int) < 1 := by omega
      apply eq_of_w
      rw [m__law_due, wr_fnM, b__law_due]
      wp_walk using ty, sl_S, eW, dGt, h2, eIn
      refine wr_cut _ (all_sgs (N := N) (Nat.lt_succ_self 4) la) ?_
      rintro acc S' ⟨rfl, rfl⟩
      wp_walk using fAll_sgs, k3, c2, min_in, k4, i0, d5
      refine wr_cut _ (iw _ 3 ?hj _) ?_
      case hj => exact (show 3 < 5 by decide)
      rintro acc S' ⟨rfl, rfl⟩
      wp_walk using ew, ix1_3, ix0_3, dl
    · have hr : raw [p, q] = some (Rat.divInt (sv p) (vl q)) := by rw [raw2, nq, n1, decide_eq_true hv]; rfl
      rw [res_some hr]
      have bt := raw_bt hr (fun z hz => by
        simp only [List.mem_cons, List.not_mem_nil, or_false] at hz
        rcases hz with rfl | rfl
        · exact lp0
        · exact lq)
      have hv' : ¬ ((vl q : Nat) : Int) < 1 := by omega
      have z1 := r_ok (N := N) (S := S0) hN (t := sv p) (b := (vl q : Nat)) (n := 250) (by omega) (by have := vl_lt nq lq; omega) (by omega) (by omega)
      generalize Rat.divInt (sv p) (vl q : Nat) = rr at z1 bt ⊢
      have fin : ∀ t : Bool, decide (tq rr = a) = t → m__law_due N [.str (Sx a)] S0 = .ok (if t then rD rr else .non) S0 := by
        intro t ht
        apply eq_of_w
        rw [m__law_due, wr_fnM, b__law_due]
        wp_walk using ty, sl_S, eW, dGt, h2, eIn
        refine wr_cut _ (all_sgs (N := N) (Nat.lt_succ_self 4) la) ?_
        rintro acc S' ⟨rfl, rfl⟩
        wp_walk using fAll_sgs, k3, c2, min_in, k4, i0, d5
        refine wr_cut _ (iw _ 3 ?hj _) ?_
        case hj => exact (show 3 < 5 by decide)
        rintro acc S' ⟨rfl, rfl⟩
        cases t
        · wp_walk using ew, ix1_3, ix0_3, hv', z1, text_ok bt, dNe_str, S_eq, ht
        · wp_walk using ew, ix1_3, ix0_3, hv', z1, text_ok bt, dNe_str, S_eq, ht
      by_cases hq : tq rr = a
      · rw [if_pos hq]
        exact fin true (decide_eq_true hq)
      · rw [if_neg hq]
        exact fin false (decide_eq_false hq)
  | q :: r :: t, hp, ha, lp, hW, n2, hWl => exact absurd h1 (by rw [List.length_cons, List.length_cons]; omega)
end Wk04
namespace Wk04
open PySem G C
abbrev tb0 : Nat × Cell := (0, Cell.tbl mk__law_deeds.1 mk__law_deeds.2)
abbrev tb1 : Nat × Cell := (1, Cell.tbl mk__law_read_right.1 mk__law_read_right.2)
abbrev tb2 : Nat × Cell := (2, Cell.tbl mk_law.1 mk_law.2)
abbrev L0 : HL := [tb0, tb1, tb2]
theorem in0 : tb0 ∈ L0 := List.mem_cons_self
theorem in1 : tb1 ∈ L0 := List.mem_cons_of_mem _ List.mem_cons_self
theorem in2 : tb2 ∈ L0 := List.mem_cons_of_mem _ (List.mem_cons_of_mem _ List.mem_cons_self)
theorem exc_of_w {S : Store} {x : G.D} {r : Res G.D} (h : Wr r (fun _ _ => False) (fun e S' => e = x ∧ S' = S)) : r = .exc x S := by
  cases r with
  | ok d S' => exact False.elim h
  | exc e S' => obtain ⟨rfl, rfl⟩ := (show e = x ∧ S' = S from h); rfl
  | stuck => exact False.elim h
inductive KX : G.D → Str → Prop
  | ratio : KX (.exc 3 []) "ratio"
  | nought : KX (.exc 27 []) "nought"
  | text : KX (.exc 4 [(4, .int 0)]) "text"
theorem kinds_ratio (N : Nat) (S : Store) : m__law_kinds N [.exc 3 []] S = .ok (.lst [.str "ratio"]) S := by kernel_rfl
theorem kinds_nought (N : Nat) (S : Store) : m__law_kinds N [.exc 27 []] S = .ok (.lst [.str "nought"]) S := by kernel_rfl
theorem kinds_text (N : Nat) (S : Store) : m__law_kinds N [.exc 4 [(4, .int 0)]] S = .ok (.lst [.str "text"]) S := by kernel_rfl
theorem kinds_ok {x : G.D} {w : Str} (h : KX x w) (N : Nat) (S : Store) : m__law_kinds N [x] S = .ok (.lst [.str w]) S := by
  cases h
  · exact kinds_ratio N S
  · exact kinds_nought N S
  · exact kinds_text N S
inductive Told (S : Store) : Res G.D → Str → Prop
  | done (d : G.D) : Told S (.ok d S) "told"
  | exc {x : G.D} {w : Str} (h : KX x w) : Told S (.exc x S) w
theorem caught_done {N fv : Nat} {cp : List (Option G.D)} {fk : FM} {S : Store} {d : G.D} (h : fk [] S = .ok d S) : m__law_caught fv cp fk N [.fa fv] S = .ok .non S := by
  have hw : ∀ {Q X : QP G.D}, Q d S → Wr (fk [] S) Q X := fun hq => by rw [h]; exact hq
  apply eq_of_w
  rw [m__law_caught, wr_fnH, b__law_caught]
  wp_walk using zstop, G.wr_ok
  refine hw ?_
  wp_walk using G.wr_ok
theorem caught_exc {N fv : Nat} {cp : List (Option G.D)} {fk : FM} {S : Store} {x : G.D} {w : Str} (h : fk [] S = .exc x S) (kx : KX x w) : m__law_caught fv cp fk N [.fa fv] S = .ok x S := by
  have hw : ∀ {Q X : QP G.D}, X x S → Wr (fk [] S) Q X := fun hq => by rw [h]; exact hq
  apply eq_of_w
  rw [m__law_caught, wr_fnH, b__law_caught]
  cases kx with
  | ratio =>
    have k1 : tbAny [tbR rsL 0] 3 = some true := by decide
    wp_walk using zstop, G.wr_ok
    refine hw ?_
    wp_walk using k1
  | nought =>
    have k1 : tbAny [tbR rsL 0] 27 = some false := by decide
    have k2 : tbAny [tbR rsL 1] 27 = some false := by decide
    have k3 : tbAny [tbR rsL 2] 27 = some true := by decide
    wp_walk using zstop, G.wr_ok
    refine hw ?_
    wp_walk using k1, k2, k3
  | text =>
    have k1 : tbAny [tbR rsL 0] 4 = some true := by decide
    wp_walk using zstop, G.wr_ok
    refine hw ?_
    wp_walk using k1
theorem caught_w {N : Nat} {S : Store} {js : List Nat} {fkM : En → FM} {tb : Store → Bool} {e : En} {r : Res G.D} (ht : tb S = true) (hr : fkM e [] S = r) :
    (∀ d, r = .ok d S → eCallH (fun fv cp fk => m__law_caught fv cp fk N) js fkM tb 0 aNil e S = .ok .non S) ∧ (∀ x w, KX x w → r = .exc x S → eCallH (fun fv cp fk => m__law_caught fv cp fk N) js fkM tb 0 aNil e S = .ok x S) := by
  constructor
  · rintro d rfl
    apply eq_of_w
    rw [wr_eCallH, wr_aNil, chQ_s]
    exact ⟨⟨ht, rfl⟩, uni_w (.ok .non S) (fun q => caught_done hr) ⟨rfl, rfl⟩⟩
  · rintro x w kx rfl
    apply eq_of_w
    rw [wr_eCallH, wr_aNil, chQ_s]
    exact ⟨⟨ht, rfl⟩, uni_w (.ok x S) (fun q => caught_exc hr kx) ⟨rfl, rfl⟩⟩
theorem word_fn {N fv : Nat} {cp : List (Option G.D)} {fk : FM} {S : Store} {w : Str} (h : Told S (fk [] S) w) : m__law_word fv cp fk N [.fa fv] S = .ok (.str w) S := by
  have hf : ∀ {r : Res G.D}, m__law_caught fv cp fk N [.fa fv] S = r → ∀ x1 x2 : Option G.D, eCallF (fun fv cp fk => m__law_caught fv cp fk N) 0 fv 3 cp fk (some (.fa fv) :: x1 :: x2 :: cp) S = r := fun h x1 x2 => by
    unfold eCallF
    rw [if_pos ⟨rfl, rfl⟩]
    exact h
  generalize hr : fk [] S = r at h
  apply eq_of_w
  rw [m__law_word, wr_fnH, b__law_word]
  cases h with
  | done d =>
    have c := hf (caught_done (N := N) (fv := fv) (cp := cp) hr)
    have d1 : dIs .non .non = some (.bl true) := rfl
    generalize eCallF (fun fv cp fk => m__law_caught fv cp fk N) 0 fv 3 cp fk = E at c ⊢
    wp_walk using c, d1
  | exc kx =>
    have c := hf (caught_exc (N := N) (fv := fv) (cp := cp) hr kx)
    have k := kinds_ok kx N
    have ix : ∀ S : Store, ∀ w : Str, ixD S (.lst [.str w]) (.int 0) = some (.str w) := fun _ _ => rfl
    have i2 : ∀ w : Str, L2.atI [D.str w] 0 = some (.str w) := fun _ => rfl
    generalize m__law_kinds N = mk at k ⊢
    generalize eCallF (fun fv cp fk => m__law_caught fv cp fk N) 0 fv 3 cp fk = E at c ⊢
    cases kx with
    | ratio =>
      have d1 : dIs (.exc 3 []) .non = some (.bl false) := rfl
      wp_walk using c, d1, k, i2
    | nought =>
      have d1 : dIs (.exc 27 []) .non = some (.bl false) := rfl
      wp_walk using c, d1, k, i2
    | text =>
      have d1 : dIs (.exc 4 [(4, .int 0)]) .non = some (.bl false) := rfl
      wp_walk using c, d1, k, i2
theorem word_ok {N : Nat} {S : Store} {js : List Nat} {fkM : En → FM} {tb : Store → Bool} {e : En} {w : Str} (ht : tb S = true) (h : Told S (fkM e [] S) w) : eCallH (fun fv cp fk => m__law_word fv cp fk N) js fkM tb 0 aNil e S = .ok (.str w) S := by
  apply eq_of_w
  rw [wr_eCallH, wr_aNil, chQ_s]
  exact ⟨⟨ht, rfl⟩, uni_w (.ok (.str w) S) (fun q => word_fn h) ⟨rfl, rfl⟩⟩
end Wk04
namespace Wk04
open PySem G C
def Odd (N : Nat) (d : G.D) : Prop := ∀ S, C.m_is_ratio N [d] S = .ok (.bl false) S
def Good (N : Nat) (d : G.D) : Prop := ∀ S, C.m_is_ratio N [d] S = .ok (.bl true) S
section
variable {N : Nat} {x y : G.D}
theorem chk_odd (h : Odd N x) (S : Store) : C.m_check_ratio N [x] S = .exc (.exc 3 []) S := by
  have e := h S
  apply exc_of_w
  rw [m_check_ratio, wr_fnM, b_check_ratio]
  wp_walk using e
theorem chk_good (h : Good N x) (S : Store) : C.m_check_ratio N [x] S = .ok .non S := by
  have e := h S
  apply eq_of_w
  rw [m_check_ratio, wr_fnM, b_check_ratio]
  wp_walk using e
theorem two_odd (h : Odd N x ∨ Good N x ∧ Odd N y) (S : Store) : C.m_check_two N [x, y] S = .exc (.exc 3 []) S := by
  rcases h with h | ⟨h1, h2⟩
  · have e := chk_odd h S
    apply exc_of_w
    rw [m_check_two, wr_fnM, b_check_two]
    wp_walk using e
  · have e1 := chk_good h1 S
    have e2 := chk_odd h2 S
    apply exc_of_w
    rw [m_check_two, wr_fnM, b_check_two]
    wp_walk using e1, e2
section
variable (h : Odd N x ∨ Good N x ∧ Odd N y) (S : Store)
include h
theorem odd_added : C.m_added N [x, y] S = .exc (.exc 3 []) S := by
  have e := two_odd h S
  apply exc_of_w
  rw [m_added, wr_fnM, b_added]
  wp_walk using e
theorem odd_lowered : C.m_lowered N [x, y] S = .exc (.exc 3 []) S := by
  have e := two_odd h S
  apply exc_of_w
  rw [m_lowered, wr_fnM, b_lowered]
  wp_walk using e
theorem odd_scaled : C.m_scaled N [x, y] S = .exc (.exc 3 []) S := by
  have e := two_odd h S
  apply exc_of_w
  rw [m_scaled, wr_fnM, b_scaled]
  wp_walk using e
theorem odd_before : C.m_is_before N [x, y] S = .exc (.exc 3 []) S := by
  have e := two_odd h S
  apply exc_of_w
  rw [m_is_before, wr_fnM, b_is_before]
  wp_walk using e
theorem odd_greater : C.m_greater N [x, y] S = .exc (.exc 3 []) S := by
  have e := odd_before h S
  apply exc_of_w
  rw [m_greater, wr_fnM, b_greater]
  wp_walk using e
theorem odd_parted : C.m_parted N [x, y] S = .exc (.exc 3 []) S := by
  have e := two_odd h S
  apply exc_of_w
  rw [m_parted, wr_fnM, b_parted]
  wp_walk using e
end
theorem odd_show (h : Odd N x) (S : Store) : C.m_show_ratio N [x] S = .exc (.exc 3 []) S := by
  have e := chk_odd h S
  apply exc_of_w
  rw [m_show_ratio, wr_fnM, b_show_ratio]
  wp_walk using e
theorem good_rD (hN : big N) {q : Rat} {n : Nat} (h : Bt q n) (h9 : n ≤ 9000) : Good N (rD q) := fun S => isr_ok hN h h9
end
def oddD : List G.D := [.tup [.int 2, .int 4], .tup [.int 0, .int 2], .tup [.int 1, .int 0], .tup [.int 1, .int (-2)], .tup [.int (-1), .int (-1)], .tup [.bl true, .int 1], .tup [.int 1, .bl true], .tup [.int 1], .tup [.int 1, .int 2, .int 3], .tup [.str "1", .int 2], .tup [.non, .int 1], .lst [.int 1, .int 2], .non, .int 7, .bl true, .str "1/2", .str "", .dic [] [], .lst [], .tup [], .tup [.lst [], .int 1], .tup [.int 1, .tup [.int 2]]]
theorem odd_D {N : Nat} (hN : big N) : ∀ d, d ∈ oddD → Odd N d := by
  have pw : (16 : Nat) ≤ N := Nat.le_trans (by have := pow_le2 (a := 4) (b := 9000) (by omega); omega) hN
  have pr : ∀ (a b : Int), b.natAbs < 16 → (decide (0 < b) && decide (gI a b = 1)) = false → Odd N (.tup [.int a, .int b]) := fun a b hb h S => by
    rw [isr_pair N a b S (by omega), h]
  intro d hd
  unfold oddD at hd
  simp only [List.mem_cons, List.not_mem_nil, or_false] at hd
  rcases hd with rfl | rfl | rfl | rfl | rfl | rfl | rfl | rfl | rfl | rfl | rfl | rfl | rfl | rfl | rfl | rfl | rfl | rfl | rfl | rfl | rfl | rfl
  · exact pr 2 4 (by decide) (by decide)
  · exact pr 0 2 (by decide) (by decide)
  · exact pr 1 0 (by decide) (by decide)
  · exact pr 1 (-2) (by decide) (by decide)
  · exact pr (-1) (-1) (by decide) (by decide)
  all_goals exact fun _ => rfl
section
variable {N : Nat} {x y : G.D} {S : Store}
noncomputable def dE (m : FM) (N : Nat) : EM := eCallH (fun fv cp fk => m__law_word fv cp fk N) [0, 1] (lamF [0, 1] 0 (eCall m (nA 2 (aCons (eVar 0) (aCons (eVar 1) aNil))))) (tbS 0 mk__law_deeds.1 mk__law_deeds.2) 0 aNil
theorem lam2 (m : FM) (e : En) (h0 : e[0]? = some (some x)) (h1 : e[1]? = some (some y)) (S : Store) : lamF [0, 1] 0 (eCall m (nA 2 (aCons (eVar 0) (aCons (eVar 1) aNil)))) e [] S = m [x, y] S := by
  unfold lamF
  simp only [List.map_cons, List.map_nil, h0, h1]
  rfl
theorem dE_ok {m : FM} {w : Str} {z : Option G.D} (ht : tbS 0 mk__law_deeds.1 mk__law_deeds.2 S = true) (h : Told S (m [x, y] S) w) : dE m N [some x, some y, z] S = .ok (.str w) S :=
  word_ok ht (by rw [lam2 (x := x) (y := y) m _ rfl rfl S]; exact h)
theorem get_one (S : Store) (l : List G.D) : (S ++ [Cell.lst l])[S.length]? = some (.lst l) := by simp
theorem app_one (S : Store) {l : List G.D} (y : G.D) (h : l.length ≤ 100) : appR (.loc S.length) [y] (S ++ [.lst l]) = .ok .non (S ++ [.lst (l ++ [y])]) := by
  rw [appR_loc (get_one S l) (by rw [sizeLine_eq]; omega)]
  simp
theorem deeds_w {F : HL} {w w6 : Str} {Q X : QP G.D} (hs : Sep S F) (ht : tb0 ∈ F)
    (h1 : ∀ S, Told S (C.m_added N [x, y] S) w) (h2 : ∀ S, Told S (C.m_lowered N [x, y] S) w) (h3 : ∀ S, Told S (C.m_scaled N [x, y] S) w) (h4 : ∀ S, Told S (C.m_is_before N [x, y] S) w) (h5 : ∀ S, Told S (C.m_greater N [x, y] S) w) (h6 : ∀ S, Told S (C.m_parted N [x, y] S) w6)
    (hq : Q (.loc S.length) (S ++ [.lst [.str w, .str w, .str w, .str w, .str w, .str w6]])) : Wr (m__law_deeds N [x, y] S) Q X := by
  have t0 : tbS 0 mk__law_deeds.1 mk__law_deeds.2 S = true := tbS_of (hs.get ht)
  have t1 : ∀ l, tbS 0 mk__law_deeds.1 mk__law_deeds.2 (S ++ [Cell.lst l]) = true := fun l => tbS_of ((hs.app [Cell.lst l]).get ht)
  have il : ∀ l, isLst (S ++ [Cell.lst l]) (.loc S.length) = true := fun l => isLst_loc (get_one S l)
  have q1 := dE_ok (N := N) (z := none) t0 (h1 S)
  have q2 := fun l => dE_ok (N := N) (z := some (.loc S.length)) (t1 l) (h2 _)
  have q3 := fun l => dE_ok (N := N) (z := some (.loc S.length)) (t1 l) (h3 _)
  have q4 := fun l => dE_ok (N := N) (z := some (.loc S.length)) (t1 l) (h4 _)
  have q5 := fun l => dE_ok (N := N) (z := some (.loc S.length)) (t1 l) (h5 _)
  have q6 := fun l => dE_ok (N := N) (z := some (.loc S.length)) (t1 l) (h6 _)
  have b : b__law_deeds N = (sSeq (sSet 2 (eNew (aCons (dE (C.m_added N) N) aNil)))
    (sSeq (sDrop (eApp (eVar 2) (aCons (dE (C.m_lowered N) N) aNil)))
    (sSeq (sDrop (eApp (eVar 2) (aCons (dE (C.m_scaled N) N) aNil)))
    (sSeq (sDrop (eApp (eVar 2) (aCons (dE (C.m_is_before N) N) aNil)))
    (sSeq (sDrop (eApp (eVar 2) (aCons (dE (C.m_greater N) N) aNil)))
    (sSeq (sDrop (eApp (eVar 2) (aCons (dE (C.m_parted N) N) aNil)))
    (sRet (eVar 2)))))))) := rfl
  rw [m__law_deeds, wr_fnM, b]
  generalize dE (C.m_added N) N = E1 at q1 ⊢
  generalize dE (C.m_lowered N) N = E2 at q2 ⊢
  generalize dE (C.m_scaled N) N = E3 at q3 ⊢
  generalize dE (C.m_is_before N) N = E4 at q4 ⊢
  generalize dE (C.m_greater N) N = E5 at q5 ⊢
  generalize dE (C.m_parted N) N = E6 at q6 ⊢
  have ap : ∀ (l : List G.D) (y : G.D), l.length ≤ 100 → appR (.loc S.length) [y] (S ++ [.lst l]) = .ok .non (S ++ [.lst (l ++ [y])]) := fun l y h => app_one S y h
  have a1 := ap [.str w] (.str w) (show 1 ≤ 100 by decide)
  have a2 := ap [.str w, .str w] (.str w) (show 2 ≤ 100 by decide)
  have a3 := ap [.str w, .str w, .str w] (.str w) (show 3 ≤ 100 by decide)
  have a4 := ap [.str w, .str w, .str w, .str w] (.str w) (show 4 ≤ 100 by decide)
  have a5 := ap [.str w, .str w, .str w, .str w, .str w] (.str w6) (show 5 ≤ 100 by decide)
  simp only [List.cons_append, List.nil_append] at a1 a2 a3 a4 a5
  clear ap
  wp_walk using q1, q2, q3, q4, q5, q6, a1, a2, a3, a4, a5, il
  exact hq
end
end Wk04
namespace Wk04
open PySem G C
section
variable {N : Nat} {S : Store} {F : HL}
noncomputable def rE (N : Nat) : EM := eCallH (fun fv cp fk => m__law_caught fv cp fk N) [0] (lamF [0] 0 (eCall (m_read_ratio N) (nA 1 (aCons (eVar 0) aNil)))) (tbS 1 mk__law_read_right.1 mk__law_read_right.2) 0 aNil
theorem lam1 {x : G.D} (m : FM) (e : En) (h0 : e[0]? = some (some x)) (S : Store) : lamF [0] 0 (eCall m (nA 1 (aCons (eVar 0) aNil))) e [] S = m [x] S := by
  unfold lamF
  simp only [List.map_cons, List.map_nil, h0]
  rfl
noncomputable def b_rr (N : Nat) : SM := (sSeq (sPar 1 2 (aCons (eCall (m__law_due N) (nA 1 (aCons (eVar 0) aNil))) (aCons (rE N) aNil)))
    (sSeq (sIf (tB (eBin dIsNot (eVar 1) (eC .non))) (sRet (eAn (eBin dIs (eVar 2) (eC .non)) (eBin dEq (eCall (m_read_ratio N) (nA 1 (aCons (eVar 0) aNil))) (eVar 1)))) sNop)
    (sSeq (sIf (tOr' (tB (eBin dIs (eVar 2) (eC .non))) (tB (eBin dNe (eCall (m__law_kinds N) (nA 1 (aCons (eVar 2) aNil))) (eLst (aCons (eC (.str "text")) aNil))))) (sRet (eC (.bl false))) sNop)
    (sRet (eAn (eBin dEq (eFldY [4, 17, 20] 4 (eVar 2)) (eC (.int 0))) (eNt (eIsTy .bool (eFldY [4, 17, 20] 4 (eVar 2)))))))))
theorem b_rr_eq : b__law_read_right N = b_rr N := rfl
theorem isn_rD (q : Rat) : dIsNot (rD q) .non = some (.bl true) := rfl
theorem rr_none {x : G.D} (hs : Sep S F) (ht : tb1 ∈ F) (e1 : m__law_due N [x] S = .ok .non S) (e2 : m_read_ratio N [x] S = .exc (.exc 4 [(4, .int 0)]) S) : m__law_read_right N [x] S = .ok (.bl true) S := by
  have t1 : tbS 1 mk__law_read_right.1 mk__law_read_right.2 S = true := tbS_of (hs.get ht)
  have q1 : rE N [some x, none, none] S = .ok (.exc 4 [(4, .int 0)]) S := (caught_w t1 rfl).2 _ _ KX.text ((lam1 (x := x) (m_read_ratio N) _ rfl S).trans e2)
  have k := kinds_text N S
  have di : dIsNot .non .non = some (.bl false) := rfl
  have dx : dIs (.exc 4 [(4, .int 0)]) .non = some (.bl false) := rfl
  have fy : fldY [4, 17, 20] 4 (.exc 4 [(4, .int 0)]) = some (.int 0) := rfl
  have dn : dNe (.lst [.str "text"]) (.lst [.str "text"]) = some (.bl false) := by
    have e : eqP (.lst [.str "text"]) (.lst [.str "text"]) = some true := by decide +kernel
    have e2 : eqD (.lst [.str "text"]) (.lst [.str "text"]) = some true := e
    unfold dNe
    rw [e2]; rfl
  apply eq_of_w
  rw [m__law_read_right, wr_fnM, b_rr_eq, b_rr]
  generalize rE N = E1 at q1 ⊢
  generalize m__law_kinds N = mk at k ⊢
  generalize m__law_due N = md at e1 ⊢
  wp_walk using e1, q1, di, dx, k, dn, fy
theorem rr_some {x : G.D} {q : Rat} (hs : Sep S F) (ht : tb1 ∈ F) (e1 : m__law_due N [x] S = .ok (rD q) S) (e2 : m_read_ratio N [x] S = .ok (rD q) S) : m__law_read_right N [x] S = .ok (.bl true) S := by
  have t1 : tbS 1 mk__law_read_right.1 mk__law_read_right.2 S = true := tbS_of (hs.get ht)
  have q1 : rE N [some x, none, none] S = .ok .non S := (caught_w t1 rfl).1 _ ((lam1 (x := x) (m_read_ratio N) _ rfl S).trans e2)
  have dx : dIs .non .non = some (.bl true) := rfl
  apply eq_of_w
  rw [m__law_read_right, wr_fnM, b_rr_eq, b_rr]
  generalize rE N = E1 at q1 ⊢
  generalize m__law_kinds N = mk
  generalize m__law_due N = md at e1 ⊢
  generalize m_read_ratio N = mr at e2 ⊢
  wp_walk using e1, q1, isn_rD, dx, e2
def Oth (d : G.D) : Prop := ∀ S, isTy S .str d = some false
def Rd (d : G.D) : Prop := Oth d ∨ ∃ a, d = .str (Sx a) ∧ a.length ≤ 75
theorem rr_ok {d : G.D} (hN : big N) (hs : Sep S F) (ht : tb1 ∈ F) (h : Rd d) : m__law_read_right N [d] S = .ok (.bl true) S := by
  rcases h with h | ⟨a, rfl, hl⟩
  · refine rr_none hs ht ?_ ?_
    · apply eq_of_w
      rw [m__law_due, wr_fnM, b__law_due]
      wp_walk using h S
    · apply exc_of_w
      rw [m_read_ratio, wr_fnM, b_read_ratio]
      wp_walk using h S
  · obtain ⟨p, ps, hp, ha⟩ := parts_of a
    have e1 := due_ok hN hp ha hl S
    have e2 := read_ok hN hp ha hl S
    cases hr : res a (p :: ps) with
    | some r =>
      rw [hr] at e1 e2
      exact rr_some hs ht e1 e2
    | none =>
      rw [hr] at e1 e2
      exact rr_none hs ht e1 e2
end
section
variable {N : Nat} {S : Store} {n : Nat} {F : HL} {Q X : QP G.D}
theorem num_le {t b : Int} (hb : 0 < b) : (Rat.divInt t b).num.natAbs ≤ t.natAbs ∧ (Rat.divInt t b).den ≤ b.natAbs := by
  constructor
  · rw [Rat.num_divInt]
    refine Nat.le_trans (Int.natAbs_ediv_le_natAbs _ _) ?_
    rw [Int.natAbs_mul, Int.sign_eq_one_of_pos hb]
    simp
  · rw [Rat.den_divInt, if_neg (by omega)]
    exact Nat.div_le_self _ _
theorem ratio_w (hN : big N) (ps : PS S n F) (h : ∀ q S', q.num.natAbs < 10 ^ 20 → q.den < 10 ^ 20 → PS S' n F → Q (rD q) S') : Wr (m__law_ratio N [.loc n] S) Q X := by
  have e18 : dPow (.int 10) (.int 18) = some (.int (10 ^ 18)) := rfl
  have e9 : dPow (.int 10) (.int 9) = some (.int (10 ^ 9)) := rfl
  rw [m__law_ratio, wr_fnM, b__law_ratio]
  wp_walk using G.wr_ok
  refine take_w N ps.P (by omega) (by omega) fun a S1 a0 a1 P1 F1 => ?_
  have ps := ps.fr P1 F1
  wp_walk using e18
  refine take_w N ps.P (by omega) (by omega) fun b S2 b0 b1 P2 F2 => ?_
  have ps := ps.fr P2 F2
  wp_walk using G.wr_ok
  refine take_w N ps.P (by omega) (by omega) fun i S3 i0 i1 P3 F3 => ?_
  have ps := ps.fr P3 F3
  wp_walk using G.wr_ok
  refine wr_at i0 (by simpa using i1) fun d hd => ?_
  obtain ⟨v, rfl, v0, v1⟩ : ∃ v : Int, d = .int v ∧ 0 ≤ v ∧ v < 10 ^ 18 := by
    simp only [List.mem_cons, List.not_mem_nil, or_false] at hd
    rcases hd with rfl | rfl
    · exact ⟨_, rfl, a0, by omega⟩
    · exact ⟨_, rfl, b0, b1⟩
  wp_walk using e9
  refine take_w N ps.P (by omega) (by omega) fun j S4 j0 j1 P4 F4 => ?_
  have ps := ps.fr P4 F4
  wp_walk using G.wr_ok
  refine wr_at j0 (by simpa using j1) fun d hd => ?_
  obtain ⟨m, rfl, m0, m1⟩ : ∃ v : Int, d = .int v ∧ 0 < v ∧ v ≤ 10 ^ 9 := by
    simp only [List.mem_cons, List.not_mem_nil, or_false] at hd
    rcases hd with rfl | rfl
    · exact ⟨_, rfl, by decide, by decide⟩
    · exact ⟨_, rfl, by decide, by decide⟩
  wp_walk using G.wr_ok
  refine take_w N ps.P m0 (by omega) fun c S5 c0 c1 P5 F5 => ?_
  have ps := ps.fr P5 F5
  wp_walk using G.wr_ok
  rw [r_ok hN (n := 41) (by omega) (by omega) (by omega) (by omega)]
  obtain ⟨n1, n2⟩ := num_le (t := v - 9) (b := 1 + c) (by omega)
  exact h _ _ (by omega) (by omega) ps
end
end Wk04
namespace Wk04
open PySem G C
def Rt (q : Rat) : Prop := q.num.natAbs < 10 ^ 20 ∧ q.den < 10 ^ 20
theorem Rt.bt {q : Rat} (h : Rt q) : Bt q 250 := ⟨Nat.lt_trans h.1 (by decide), Nat.lt_trans h.2 (by decide)⟩
theorem Rt.z : Rt 0 := by constructor <;> decide
theorem z01 : G.D.tup [.int 0, .int 1] = rD 0 := rfl
def lastW (q : Rat) : Str := if q.num = 0 then "nought" else "told"
def sixL (w w6 : Str) : List G.D := [.str w, .str w, .str w, .str w, .str w, .str w6]
theorem ne_same {l : List G.D} (h : eqP (.lst l) (.lst l) = some true) (S : Store) : dNeS (S ++ [.lst l]) (.loc S.length) (.lst l) = some (.bl false) := by
  have r1 : rsv (S ++ [Cell.lst l]) (.loc S.length) = .lst l := by simp only [rsv, get_one]
  have r2 : rsv (S ++ [Cell.lst l]) (.lst l) = .lst l := rfl
  unfold dNeS eqS
  rw [r1, r2, h]
  rfl
theorem six_last (q : Rat) : eqP (.lst (sixL "told" (lastW q))) (.lst (sixL "told" (lastW q))) = some true := by
  unfold lastW
  split
  · decide +kernel
  · decide +kernel
theorem six_ratio : eqP (.lst (sixL "ratio" "ratio")) (.lst (sixL "ratio" "ratio")) = some true := by decide +kernel
section
variable {N : Nat} {S : Store} {n : Nat} {F : HL} {k : KS} {Q X : QP G.D} {x0 x1 x2 x3 x4 x5 x6 x7 x8 x9 x10 x11 x12 x13 x14 x15 x16 x17 x18 : Option G.D}
theorem part_nought (hN : big N) {p q : Rat} (hp : Rt p) (hq : Rt q) (h : q.num = 0) (S : Store) : C.m_parted N [rD p, rD q] S = .exc (.exc 27 []) S := by
  have e := chk2_ok (S := S) hN hp.bt (by omega) hq.bt (by omega)
  apply exc_of_w
  rw [m_parted, wr_fnM, b_parted]
  wp_walk using e, h
theorem good_deeds (hN : big N) (hs : Sep S F) (ht : tb0 ∈ F) {p q : Rat} (hp : Rt p) (hq : Rt q)
    (h : Q (.loc S.length) (S ++ [.lst (sixL "told" (lastW q))])) : Wr (m__law_deeds N [rD p, rD q] S) Q X := by
  refine deeds_w hs ht (w := "told") (w6 := lastW q) ?_ ?_ ?_ ?_ ?_ ?_ h
  · intro S; rw [added_ok hN hp.bt hq.bt (by omega)]; exact .done _
  · intro S; rw [lowered_ok hN hp.bt hq.bt (by omega)]; exact .done _
  · intro S; rw [scaled_ok hN hp.bt hq.bt (by omega)]; exact .done _
  · intro S; rw [before_ok hN hp.bt hq.bt (by omega)]; exact .done _
  · intro S; rw [greater_ok hN hp.bt hq.bt (by omega)]; exact .done _
  · intro S
    unfold lastW
    by_cases c : q.num = 0
    · rw [if_pos c, part_nought hN hp hq c]
      exact .exc .nought
    · rw [if_neg c, parted_ok hN hp.bt hq.bt (fun z => c (by rw [z]; rfl)) (by omega)]
      exact .done _
theorem odd_deeds (hs : Sep S F) (ht : tb0 ∈ F) {x y : G.D} (hb : Odd N x ∨ Good N x ∧ Odd N y)
    (h : Q (.loc S.length) (S ++ [.lst (sixL "ratio" "ratio")])) : Wr (m__law_deeds N [x, y] S) Q X :=
  deeds_w hs ht (w := "ratio") (w6 := "ratio") (fun S => by rw [odd_added hb]; exact .exc .ratio) (fun S => by rw [odd_lowered hb]; exact .exc .ratio) (fun S => by rw [odd_scaled hb]; exact .exc .ratio) (fun S => by rw [odd_before hb]; exact .exc .ratio) (fun S => by rw [odd_greater hb]; exact .exc .ratio) (fun S => by rw [odd_parted hb]; exact .exc .ratio) h
theorem lstS (l m : List G.D) {S0 : Store} (h : l.length + m.length ≤ 1000) : dAddS S0 (.lst l) (.lst m) = some (.lst (l ++ m)) := by
  show (if l.length + m.length ≤ sizeLine then some (G.D.lst (l ++ m)) else none) = _
  rw [if_pos (by rw [sizeLine_eq]; omega)]
theorem lodd_w (ps : PS S n F) (h : ∀ d S', d ∈ oddD → PS S' n F → Q d S') : Wr (m__law_odd N [.loc n] S) Q X := by
  rw [m__law_odd, wr_fnM, b__law_odd]
  wp_walk using lstS
  refine take_w N ps.P (by omega) (by omega) fun a S1 a0 a1 P1 F1 => ?_
  have ps := ps.fr P1 F1
  wp_walk using G.wr_ok
  exact wr_at a0 (by simpa using a1) fun d hd => h d S1 hd ps
noncomputable def s1 (N : Nat) : SM := (sAsg (eTup (aCons (eCall (m__law_ratio N) (nA 1 (aCons (eVar 2) aNil))) (aCons (eCall (m__law_ratio N) (nA 1 (aCons (eVar 2) aNil))) aNil))) (gTp 2 (gsCons' (gN 4) (gsCons' (gN 5) gsNil))))
theorem s1_w (hN : big N) (ps : PS S n F) (h : ∀ S' p q, Rt p → Rt q → PS S' n F → k.nx [x0, x1, some (.loc n), x3, some (rD p), some (rD q), x6, x7, x8, x9, x10, x11, x12, x13, x14, x15, x16, x17, x18] S') :
    Ws (s1 N [x0, x1, some (.loc n), x3, x4, x5, x6, x7, x8, x9, x10, x11, x12, x13, x14, x15, x16, x17, x18] S) k := by
  have rw' := fun S ps (Q : QP G.D) X h => @ratio_w N S n F Q X hN ps h
  unfold s1
  generalize m__law_ratio N = mr at rw' ⊢
  wp_walk using G.wr_ok
  refine rw' _ ps _ _ fun p S1 p1 p2 ps1 => ?_
  wp_walk using G.wr_ok
  refine rw' _ ps1 _ _ fun q S2 q1 q2 ps2 => ?_
  wp_walk using G.wr_ok
  exact h S2 p q ⟨p1, p2⟩ ⟨q1, q2⟩ ps2
noncomputable def s2 (N : Nat) : SM := (sSet 6 (eCall (m__law_odd N) (nA 1 (aCons (eVar 2) aNil))))
theorem s2_w (ps : PS S n F) (h : ∀ S' d, d ∈ oddD → PS S' n F → k.nx [x0, x1, some (.loc n), x3, x4, x5, some d, x7, x8, x9, x10, x11, x12, x13, x14, x15, x16, x17, x18] S') :
    Ws (s2 N [x0, x1, some (.loc n), x3, x4, x5, x6, x7, x8, x9, x10, x11, x12, x13, x14, x15, x16, x17, x18] S) k := by
  have ow := fun (Q : QP G.D) X h => @lodd_w N S n F Q X ps h
  unfold s2
  generalize m__law_odd N = mo at ow ⊢
  wp_walk using G.wr_ok
  refine ow _ _ fun d S1 hd ps1 => ?_
  wp_walk using G.wr_ok
  exact h S1 d hd ps1
noncomputable def s3 : SM := (sSet 7 (eBinS ixD (eLst (aCons (eC (.str "nought")) (aCons (eC (.str "told")) aNil))) (eCa fInt (aCons (eBin dNe (eBinS ixD (eVar 5) (eC (.int 0))) (eC (.int 0))) aNil))))
theorem s3_w {q : Rat} (h : k.nx [x0, x1, x2, x3, x4, some (rD q), x6, some (.str (lastW q)), x8, x9, x10, x11, x12, x13, x14, x15, x16, x17, x18] S) :
    Ws (s3 [x0, x1, x2, x3, x4, some (rD q), x6, x7, x8, x9, x10, x11, x12, x13, x14, x15, x16, x17, x18] S) k := by
  unfold s3
  by_cases c : q.num = 0
  · have hl : lastW q = "nought" := if_pos c
    have i0 : ∀ S, fInt S [.bl false] = some (.int 0) := fun _ => rfl
    have a0 : L2.atI [G.D.str "nought", .str "told"] 0 = some (.str "nought") := rfl
    rw [hl] at h
    wp_walk using c, i0, a0
    exact h
  · have hl : lastW q = "told" := if_neg c
    have i0 : ∀ S, fInt S [.bl true] = some (.int 1) := fun _ => rfl
    have a0 : L2.atI [G.D.str "nought", .str "told"] 1 = some (.str "told") := rfl
    rw [hl] at h
    wp_walk using c, i0, a0
    exact h
theorem mul5 (w : Str) : dMulL (.lst [.str w]) (.int 5) = some (.lst [.str w, .str w, .str w, .str w, .str w]) := rfl
theorem mul6 (w : Str) : dMulL (.lst [.str w]) (.int 6) = some (.lst (sixL w w)) := rfl
theorem add51 (w w6 : Str) (S : Store) : dAddS S (.lst [.str w, .str w, .str w, .str w, .str w]) (.lst [.str w6]) = some (.lst (sixL w w6)) := rfl
noncomputable def s4 (N : Nat) : SM := (sIf (tB (eBinS dNeS (eCall (m__law_deeds N) (nA 2 (aCons (eVar 4) (aCons (eVar 5) aNil)))) (eBinS dAddS (eBin dMulL (eLst (aCons (eC (.str "told")) aNil)) (eC (.int 5))) (eLst (aCons (eVar 7) aNil))))) (sRet (eC (.bl false))) sNop)
theorem s4_w (hN : big N) (ps : PS S n F) (ht : tb0 ∈ F) {p q : Rat} (hp : Rt p) (hq : Rt q) (h : ∀ S', PS S' n F → k.nx [x0, x1, x2, x3, some (rD p), some (rD q), x6, some (.str (lastW q)), x8, x9, x10, x11, x12, x13, x14, x15, x16, x17, x18] S') :
    Ws (s4 N [x0, x1, x2, x3, some (rD p), some (rD q), x6, some (.str (lastW q)), x8, x9, x10, x11, x12, x13, x14, x15, x16, x17, x18] S) k := by
  have dw := fun (Q : QP G.D) X h => @good_deeds N S F Q X hN ps.s ht p q hp hq h
  have ne := ne_same (six_last q) S
  have q' := h _ (ps.app [.lst (sixL "told" (lastW q))])
  unfold s4
  generalize m__law_deeds N = md at dw ⊢
  generalize lastW q = w at dw ne q' ⊢
  wp_walk using G.wr_ok
  refine dw _ _ ?_
  wp_walk using mul5, add51, ne
  exact q'
noncomputable def s5 (N : Nat) : SM := (sIf (tB (eBinS dNeS (eCall (m__law_deeds N) (nA 2 (aCons (eVar 4) (aCons (eTup (aCons (eC (.int 0)) (aCons (eC (.int 1)) aNil))) aNil)))) (eBinS dAddS (eBin dMulL (eLst (aCons (eC (.str "told")) aNil)) (eC (.int 5))) (eLst (aCons (eC (.str "nought")) aNil))))) (sRet (eC (.bl false))) sNop)
theorem s5_w (hN : big N) (ps : PS S n F) (ht : tb0 ∈ F) {p : Rat} (hp : Rt p) (h : ∀ S', PS S' n F → k.nx [x0, x1, x2, x3, some (rD p), x5, x6, x7, x8, x9, x10, x11, x12, x13, x14, x15, x16, x17, x18] S') :
    Ws (s5 N [x0, x1, x2, x3, some (rD p), x5, x6, x7, x8, x9, x10, x11, x12, x13, x14, x15, x16, x17, x18] S) k := by
  have dw := fun (Q : QP G.D) X h => @good_deeds N S F Q X hN ps.s ht p 0 hp Rt.z h
  have l0 : lastW 0 = "nought" := rfl
  have ne := ne_same (six_last 0) S
  have q' := h _ (ps.app [.lst (sixL "told" (lastW 0))])
  rw [l0] at dw ne q'
  unfold s5
  generalize m__law_deeds N = md at dw ⊢
  wp_walk using z01
  refine dw _ _ ?_
  wp_walk using mul5, add51, ne
  exact q'
noncomputable def s6 : SM := (sSet 8 (eLst (aCons (eTup (aCons (eVar 6) (aCons (eVar 5) aNil))) (aCons (eTup (aCons (eVar 4) (aCons (eVar 6) aNil))) (aCons (eTup (aCons (eVar 6) (aCons (eVar 6) aNil))) (aCons (eTup (aCons (eVar 6) (aCons (eTup (aCons (eC (.int 0)) (aCons (eC (.int 1)) aNil))) aNil))) aNil))))))
noncomputable def s7 (N : Nat) : SM := (sFor (iSeq (eVar 8)) (gTp 2 (gsCons' (gN 9) (gsCons' (gN 10) gsNil))) (sIf (tB (eBinS dNeS (eCall (m__law_deeds N) (nA 2 (aCons (eVar 9) (aCons (eVar 10) aNil)))) (eBin dMulL (eLst (aCons (eC (.str "ratio")) aNil)) (eC (.int 6))))) (sRet (eC (.bl false))) sNop))
def Prs (N : Nat) (l : List G.D) : Prop := ∀ d, d ∈ l → ∃ x y, d = .tup [x, y] ∧ (Odd N x ∨ Good N x ∧ Odd N y)
theorem s6_w (hN : big N) {p q : Rat} (hp : Rt p) {d : G.D} (hd : d ∈ oddD) (h : ∀ l, Prs N l → k.nx [x0, x1, x2, x3, some (rD p), some (rD q), some d, x7, some (.lst l), x9, x10, x11, x12, x13, x14, x15, x16, x17, x18] S) :
    Ws (s6 [x0, x1, x2, x3, some (rD p), some (rD q), some d, x7, x8, x9, x10, x11, x12, x13, x14, x15, x16, x17, x18] S) k := by
  have o := odd_D hN d hd
  have g := good_rD hN hp.bt (by omega)
  unfold s6
  wp_walk using G.wr_ok
  refine h _ fun z hz => ?_
  simp only [List.mem_cons, List.not_mem_nil, or_false] at hz
  rcases hz with rfl | rfl | rfl | rfl
  · exact ⟨_, _, rfl, .inl o⟩
  · exact ⟨_, _, rfl, .inr ⟨g, o⟩⟩
  · exact ⟨_, _, rfl, .inl o⟩
  · exact ⟨_, _, rfl, .inl o⟩
theorem s7_w (ps : PS S n F) (ht : tb0 ∈ F) {l : List G.D} (hl : Prs N l) (h : ∀ S' x9 x10, PS S' n F → k.nx [x0, x1, x2, x3, x4, x5, x6, x7, some (.lst l), x9, x10, x11, x12, x13, x14, x15, x16, x17, x18] S') :
    Ws (s7 N [x0, x1, x2, x3, x4, x5, x6, x7, some (.lst l), x9, x10, x11, x12, x13, x14, x15, x16, x17, x18] S) k := by
  have dw := fun S (hs : Sep S F) x y hb (Q : QP G.D) X h => @odd_deeds N S F Q X hs ht x y hb h
  unfold s7
  generalize m__law_deeds N = md at dw ⊢
  rw [ws_sFor]
  wp_walk using G.wr_ok
  refine for_i (fun e S' => PS S' n F ∧ ∃ x9 x10, e = [x0, x1, x2, x3, x4, x5, x6, x7, some (.lst l), x9, x10, x11, x12, x13, x14, x15, x16, x17, x18]) ⟨ps, _, _, rfl⟩ ?_ ?_
  · rintro d e S' hd ⟨ps', y9, y10, rfl⟩
    obtain ⟨x, y, rfl, hb⟩ := hl d hd
    have ne := ne_same six_ratio S'
    have q' := ps'.app [.lst (sixL "ratio" "ratio")]
    wp_walk using G.wr_ok
    refine dw _ ps'.s _ _ hb _ _ ?_
    wp_walk using mul6, ne
    exact ⟨q', _, _, rfl⟩
  · rintro e S' ⟨ps', y9, y10, rfl⟩
    exact h S' _ _ ps'
end
end Wk04
namespace Wk04
open PySem G C
def thingD : List G.D := [.non, .bl true, .str "1", .tup [.int 1], .lst [.int 1], .dic [] [], .tup [], .bl false]
section
variable {N : Nat} {S : Store} {n : Nat} {F : HL} {k : KS} {Q X : QP G.D} {x0 x1 x2 x3 x4 x5 x6 x7 x8 x9 x10 x11 x12 x13 x14 x15 x16 x17 x18 : Option G.D}
theorem lamA {x : G.D} (m : FM) (j : Nat) (e : En) (h0 : e[j]? = some (some x)) (S : Store) : lamF [j] 0 (eCall m (nA 1 (aCons (eVar 0) aNil))) e [] S = m [x] S := by
  unfold lamF
  simp only [List.map_cons, List.map_nil, h0]
  rfl
theorem lamB {x y : G.D} (m : FM) (i j : Nat) (e : En) (h0 : e[i]? = some (some x)) (h1 : e[j]? = some (some y)) (S : Store) : lamF [i, j] 0 (eCall m (nA 2 (aCons (eVar 0) (aCons (eVar 1) aNil)))) e [] S = m [x, y] S := by
  unfold lamF
  simp only [List.map_cons, List.map_nil, h0, h1]
  rfl
theorem lamC {x : G.D} (m : FM) (j : Nat) (e : En) (h0 : e[j]? = some (some x)) (S : Store) : lamF [j] 0 (eCallK m C.g_ratio_1_ 1 0 (aCons (eVar 0) aNil) aNil) e [] S = m [x, .int 1] S := by
  unfold lamF
  simp only [List.map_cons, List.map_nil, h0]
  rfl
noncomputable abbrev wE (js : List Nat) (lm : En → FM) (N : Nat) : EM := eCallH (fun fv cp fk => m__law_word fv cp fk N) js lm (tbS 2 mk_law.1 mk_law.2) 0 aNil
noncomputable def wS (e : EM) (w : Str) : SM := (sIf (tB (eBin dNe e (eC (.str w)))) (sRet (eC (.bl false))) sNop)
theorem wS_w {E : EM} {w : Str} {e : En} (h : E e S = .ok (.str w) S) (hq : k.nx e S) : Ws (wS E w e S) k := by
  have d1 : dNe (.str w) (.str w) = some (.bl false) := by rw [dNe_str, decide_eq_true rfl]; rfl
  unfold wS
  wp_walk using h, d1
  exact hq
noncomputable def e8 (N : Nat) : EM := wE [6] (lamF [6] 0 (eCall (C.m_show_ratio N) (nA 1 (aCons (eVar 0) aNil)))) N
noncomputable def e9 (N : Nat) : EM := wE [4] (lamF [4] 0 (eCall (C.m_show_ratio N) (nA 1 (aCons (eVar 0) aNil)))) N
noncomputable def e11 (N : Nat) : EM := wE [12, 13] (lamF [12, 13] 0 (eCall (C.m_ratio N) (nA 2 (aCons (eVar 0) (aCons (eVar 1) aNil))))) N
noncomputable def e12 (N : Nat) : EM := wE [11] (lamF [11] 0 (eCallK (C.m_ratio N) C.g_ratio_1_ 1 0 (aCons (eVar 0) aNil) aNil)) N
noncomputable def e13 (N : Nat) : EM := wE [] (lamF [] 0 (eCall (C.m_ratio N) (nA 2 (aCons (eC (.int 6)) (aCons (eNeg (eC (.int 4))) aNil))))) N
theorem s8_w (hN : big N) (ps : PS S n F) (ht : tb2 ∈ F) {d : G.D} (hd : d ∈ oddD) (h : k.nx [x0, x1, x2, x3, x4, x5, some d, x7, x8, x9, x10, x11, x12, x13, x14, x15, x16, x17, x18] S) :
    Ws (wS (e8 N) "ratio" [x0, x1, x2, x3, x4, x5, some d, x7, x8, x9, x10, x11, x12, x13, x14, x15, x16, x17, x18] S) k :=
  wS_w (word_ok (tbS_of (ps.s.get ht)) (by rw [lamA (x := d) _ 6 _ rfl S, odd_show (odd_D hN d hd)]; exact .exc .ratio)) h
theorem s9_w (hN : big N) (ps : PS S n F) (ht : tb2 ∈ F) {q : Rat} (hq : Rt q) (h : k.nx [x0, x1, x2, x3, some (rD q), x5, x6, x7, x8, x9, x10, x11, x12, x13, x14, x15, x16, x17, x18] S) :
    Ws (wS (e9 N) "told" [x0, x1, x2, x3, some (rD q), x5, x6, x7, x8, x9, x10, x11, x12, x13, x14, x15, x16, x17, x18] S) k :=
  wS_w (word_ok (tbS_of (ps.s.get ht)) (by rw [lamA (x := rD q) _ 4 _ rfl S, show_ok hN hq.bt]; exact .done _)) h
noncomputable def s10 (N : Nat) : SM := (sSet 11 (eBinS ixD (eLst (aCons (eC .non) (aCons (eC (.bl true)) (aCons (eC (.str "1")) (aCons (eTup (aCons (eC (.int 1)) aNil)) (aCons (eLst (aCons (eC (.int 1)) aNil)) (aCons (eC (.dic [] [])) (aCons (eTup aNil) (aCons (eC (.bl false)) aNil))))))))) (eCall (C.m__law_take N) (nA 2 (aCons (eVar 2) (aCons (eC (.int 8)) aNil))))))
theorem s10_w (ps : PS S n F) (h : ∀ S' d, d ∈ thingD → PS S' n F → k.nx [x0, x1, some (.loc n), x3, x4, x5, x6, x7, x8, x9, x10, some d, x12, x13, x14, x15, x16, x17, x18] S') :
    Ws (s10 N [x0, x1, some (.loc n), x3, x4, x5, x6, x7, x8, x9, x10, x11, x12, x13, x14, x15, x16, x17, x18] S) k := by
  unfold s10
  wp_walk using G.wr_ok
  refine take_w N ps.P (by omega) (by omega) fun a S1 a0 a1 P1 F1 => ?_
  have ps := ps.fr P1 F1
  wp_walk using G.wr_ok
  refine wr_at a0 (by simpa using a1) fun d hd => ?_
  wp_walk using G.wr_ok
  exact h S1 d hd ps
def NoR (N : Nat) (x y : G.D) : Prop := ∀ S, C.m_ratio N [x, y] S = .exc (.exc 3 []) S
theorem no_thing {d : G.D} (hd : d ∈ thingD) : NoR N d (.int 1) ∧ NoR N (.int 1) d ∧ NoR N d d ∧ NoR N d (.int 0) := by
  simp only [thingD, List.mem_cons, List.not_mem_nil, or_false] at hd
  rcases hd with rfl | rfl | rfl | rfl | rfl | rfl | rfl | rfl <;> exact ⟨fun _ => rfl, fun _ => rfl, fun _ => rfl, fun _ => rfl⟩
noncomputable def s11 (N : Nat) : SM := (sFor (iSeq (eLst (aCons (eTup (aCons (eVar 11) (aCons (eC (.int 1)) aNil))) (aCons (eTup (aCons (eC (.int 1)) (aCons (eVar 11) aNil))) (aCons (eTup (aCons (eVar 11) (aCons (eVar 11) aNil))) (aCons (eTup (aCons (eVar 11) (aCons (eC (.int 0)) aNil))) (aCons (eTup (aCons (eC (.int 5)) (aCons (eC (.int 0)) aNil))) aNil))))))) (gTp 2 (gsCons' (gN 12) (gsCons' (gN 13) gsNil))) (wS (e11 N) "ratio"))
theorem s11_w (ps : PS S n F) (ht : tb2 ∈ F) {d : G.D} (hd : d ∈ thingD) (h : ∀ x12 x13, k.nx [x0, x1, x2, x3, x4, x5, x6, x7, x8, x9, x10, some d, x12, x13, x14, x15, x16, x17, x18] S) :
    Ws (s11 N [x0, x1, x2, x3, x4, x5, x6, x7, x8, x9, x10, some d, x12, x13, x14, x15, x16, x17, x18] S) k := by
  have ww := fun (x y : G.D) (hr : NoR N x y) (k : KS) hq => @wS_w S k (e11 N) "ratio" [x0, x1, x2, x3, x4, x5, x6, x7, x8, x9, x10, some d, some x, some y, x14, x15, x16, x17, x18] (word_ok (tbS_of (ps.s.get ht)) (by rw [lamB (x := x) (y := y) _ 12 13 _ rfl rfl S, hr S]; exact .exc .ratio)) hq
  unfold s11
  generalize wS (e11 N) "ratio" = ws at ww ⊢
  rw [ws_sFor]
  wp_walk using G.wr_ok
  refine for_i (fun e S' => S' = S ∧ ∃ x12 x13, e = [x0, x1, x2, x3, x4, x5, x6, x7, x8, x9, x10, some d, x12, x13, x14, x15, x16, x17, x18]) ⟨rfl, _, _, rfl⟩ ?_ ?_
  · rintro t e S' ht ⟨rfl, y12, y13, rfl⟩
    obtain ⟨n1, n2, n3, n4⟩ := no_thing (N := N) hd
    obtain ⟨x, y, rfl, hr⟩ : ∃ x y, t = .tup [x, y] ∧ NoR N x y := by
      simp only [List.mem_cons, List.not_mem_nil, or_false] at ht
      rcases ht with rfl | rfl | rfl | rfl | rfl
      · exact ⟨_, _, rfl, n1⟩
      · exact ⟨_, _, rfl, n2⟩
      · exact ⟨_, _, rfl, n3⟩
      · exact ⟨_, _, rfl, n4⟩
      · exact ⟨_, _, rfl, fun _ => rfl⟩
    wp_walk using G.wr_ok
    refine ww x y hr _ ?_
    rw [lp_nx]
    exact ⟨rfl, _, _, rfl⟩
  · rintro e S' ⟨rfl, y12, y13, rfl⟩
    exact h _ _
theorem s12_w (ps : PS S n F) (ht : tb2 ∈ F) {d : G.D} (hd : d ∈ thingD) (h : k.nx [x0, x1, x2, x3, x4, x5, x6, x7, x8, x9, x10, some d, x12, x13, x14, x15, x16, x17, x18] S) :
    Ws (wS (e12 N) "ratio" [x0, x1, x2, x3, x4, x5, x6, x7, x8, x9, x10, some d, x12, x13, x14, x15, x16, x17, x18] S) k :=
  wS_w (word_ok (tbS_of (ps.s.get ht)) (by rw [lamC (x := d) _ 11 _ rfl S, (no_thing (N := N) hd).1 S]; exact .exc .ratio)) h
theorem s13_w (hN : big N) (ps : PS S n F) (ht : tb2 ∈ F) {e : En} (h : k.nx e S) : Ws (wS (e13 N) "told" e S) k := by
  have r := ratio_ok (N := N) (S := S) (t := 6) (b := -4) (n := 3) hN (by decide) (by decide) (by omega) (by omega)
  have l : lamF [] 0 (eCall (C.m_ratio N) (nA 2 (aCons (eC (.int 6)) (aCons (eNeg (eC (.int 4))) aNil)))) e [] S = C.m_ratio N [.int 6, .int (-4)] S := rfl
  exact wS_w (word_ok (tbS_of (ps.s.get ht)) (by rw [l, r]; exact .done _)) h
theorem cut_to {a : List Nat} (h : a.length ≤ 75) (i : Nat) (S0 : Store) : slD S0 (.str (Sx a)) none (some (i : Int)) = some (.str (Sx (a.take i))) := by
  show (if (Sx a).length ≤ sizeLine then some (G.D.str (L2.cutS (Sx a) none (some (i : Int)))) else none) = _
  rw [if_pos (lenS h), C8.cutS_slice, SX.slice_to (by omega)]
  rfl
theorem fLen_S {a : List Nat} (h : a.length ≤ 75) (S0 : Store) : fLen S0 [.str (Sx a)] = some (.int (a.length : Nat)) := by
  have e : lenD S0 (.str (Sx a)) = some a.length := by
    show (if (Sx a).length ≤ sizeLine then some (Sx a).length else none) = _
    rw [if_pos (lenS h), SX.S_len]
  unfold fLen
  dsimp only
  rw [e]; rfl
theorem sign_at : ∀ k : Nat, k < 15 → ∃ c : Nat, ∀ S0, ixD S0 (.str "0123456789/- +.") (.int (k : Nat)) = some (.str (Sx [c]))
  | 0, _ => ⟨_, fun _ => rfl⟩
  | 1, _ => ⟨_, fun _ => rfl⟩
  | 2, _ => ⟨_, fun _ => rfl⟩
  | 3, _ => ⟨_, fun _ => rfl⟩
  | 4, _ => ⟨_, fun _ => rfl⟩
  | 5, _ => ⟨_, fun _ => rfl⟩
  | 6, _ => ⟨_, fun _ => rfl⟩
  | 7, _ => ⟨_, fun _ => rfl⟩
  | 8, _ => ⟨_, fun _ => rfl⟩
  | 9, _ => ⟨_, fun _ => rfl⟩
  | 10, _ => ⟨_, fun _ => rfl⟩
  | 11, _ => ⟨_, fun _ => rfl⟩
  | 12, _ => ⟨_, fun _ => rfl⟩
  | 13, _ => ⟨_, fun _ => rfl⟩
  | 14, _ => ⟨_, fun _ => rfl⟩
  | _ + 15, h => absurd h (by omega)
theorem t_1 : ("/1" : Str) = Sx [47, 49] := by decide +kernel
theorem t_0 : ("0" : Str) = Sx [48] := by decide +kernel
theorem t_b : (" " : Str) = Sx [32] := by decide +kernel
theorem lit75 {x : Str} {a : List Nat} (h : x = Sx a) (hl : a.length ≤ 75) : Rd (.str x) := .inr ⟨a, by rw [h], hl⟩
theorem rd_thing : ∀ d, d ∈ thingD → Rd d := by
  intro d hd
  simp only [thingD, List.mem_cons, List.not_mem_nil, or_false] at hd
  rcases hd with rfl | rfl | rfl | rfl | rfl | rfl | rfl | rfl
  · exact .inl fun _ => rfl
  · exact .inl fun _ => rfl
  · exact lit75 (a := [49]) rfl (by decide)
  all_goals exact .inl fun _ => rfl
theorem rd_odd : ∀ d, d ∈ oddD → Rd d := by
  intro d hd
  by_cases h1 : d = .str "1/2"
  · rw [h1]; exact lit75 (a := [49, 47, 50]) rfl (by decide)
  by_cases h2 : d = .str ""
  · rw [h2]; exact lit75 (a := []) rfl (by decide)
  simp only [oddD, List.mem_cons, List.not_mem_nil, or_false] at hd
  rcases hd with rfl | rfl | rfl | rfl | rfl | rfl | rfl | rfl | rfl | rfl | rfl | rfl | rfl | rfl | rfl | rfl | rfl | rfl | rfl | rfl | rfl | rfl
  all_goals first | exact .inl fun _ => rfl | exact absurd rfl h1 | exact absurd rfl h2
end
end Wk04
namespace Wk04
open PySem G C
section
variable {N : Nat} {S : Store} {n : Nat} {F : HL} {k : KS} {Q X : QP G.D} {x0 x1 x2 x3 x4 x5 x6 x7 x8 x9 x10 x11 x12 x13 x14 x15 x16 x17 x18 : Option G.D}
noncomputable def s14 (N : Nat) : SM := (sSet 14 (eCall (m__law_text N) (nA 1 (aCons (eVar 4) aNil))))
theorem s14_w {q : Rat} (hq : Rt q) (h : ∀ T : List Nat, T.length ≤ 46 → k.nx [x0, x1, x2, x3, some (rD q), x5, x6, x7, x8, x9, x10, x11, x12, x13, some (.str (Sx T)), x15, x16, x17, x18] S) :
    Ws (s14 N [x0, x1, x2, x3, some (rD q), x5, x6, x7, x8, x9, x10, x11, x12, x13, x14, x15, x16, x17, x18] S) k := by
  have e := text_ok (N := N) hq.bt S
  have l := tq_len (q := q) (Nat.lt_trans hq.1 (by decide)) (Nat.lt_trans hq.2 (by decide))
  unfold s14
  generalize m__law_text N = mt at e ⊢
  wp_walk using e
  exact h _ l
noncomputable def s15 (N : Nat) : SM := (sSet 15 (eCall (C.m__law_take N) (nA 2 (aCons (eVar 2) (aCons (eBinS dAddS (eCa fLen (aCons (eVar 14) aNil)) (eC (.int 1))) aNil)))))
theorem s15_w (ps : PS S n F) {T : List Nat} (hT : T.length ≤ 46) (h : ∀ S' (i : Nat), i ≤ T.length → PS S' n F → k.nx [x0, x1, some (.loc n), x3, x4, x5, x6, x7, x8, x9, x10, x11, x12, x13, some (.str (Sx T)), some (.int (i : Nat)), x16, x17, x18] S') :
    Ws (s15 N [x0, x1, some (.loc n), x3, x4, x5, x6, x7, x8, x9, x10, x11, x12, x13, some (.str (Sx T)), x15, x16, x17, x18] S) k := by
  have fl := fLen_S (a := T) (by omega) S
  unfold s15
  wp_walk using fl
  refine take_w N ps.P (by omega) (by omega) fun a S1 a0 a1 P1 F1 => ?_
  have ps := ps.fr P1 F1
  wp_walk using G.wr_ok
  have q := h S1 a.toNat (by omega) ps
  rw [show ((a.toNat : Nat) : Int) = a by omega] at q
  exact q
noncomputable def s16 (N : Nat) : SM := (sSet 16 (eBinS ixD (eC (.str "0123456789/- +.")) (eCall (C.m__law_take N) (nA 2 (aCons (eVar 2) (aCons (eC (.int 15)) aNil))))))
theorem s16_w (ps : PS S n F) (h : ∀ S' (c : Nat), PS S' n F → k.nx [x0, x1, some (.loc n), x3, x4, x5, x6, x7, x8, x9, x10, x11, x12, x13, x14, x15, some (.str (Sx [c])), x17, x18] S') :
    Ws (s16 N [x0, x1, some (.loc n), x3, x4, x5, x6, x7, x8, x9, x10, x11, x12, x13, x14, x15, x16, x17, x18] S) k := by
  unfold s16
  wp_walk using G.wr_ok
  refine take_w N ps.P (by omega) (by omega) fun z S1 z0 z1 P1 F1 => ?_
  have ps := ps.fr P1 F1
  obtain ⟨c, hc⟩ := sign_at z.toNat (by omega)
  have hz : ((z.toNat : Nat) : Int) = z := by omega
  rw [hz] at hc
  wp_walk using hc
  exact h S1 c ps
noncomputable def s17 : SM := (sSet 17 (eNew (aCons (eVar 14) (aCons (eBinS dAddS (eBinS dAddS (eSl (eVar 14) oNone (oSome (eVar 15))) (eVar 16)) (eSl (eVar 14) (oSome (eVar 15)) oNone)) (aCons (eBinS dAddS (eSl (eVar 14) oNone (oSome (eVar 15))) (eSl (eVar 14) (oSome (eBinS dAddS (eVar 15) (eC (.int 1)))) oNone)) aNil)))))
noncomputable def s18 : SM := (sDrop (eApp (eVar 17) (aCons (eBinS dAddS (eBinS dAddS (eSl (eVar 14) oNone (oSome (eVar 15))) (eVar 16)) (eSl (eVar 14) (oSome (eBinS dAddS (eVar 15) (eC (.int 1)))) oNone)) aNil)))
theorem s17_w (ps : PS S n F) {T : List Nat} (hT : T.length ≤ 46) {i c : Nat} (hi : i ≤ T.length) (h : ∀ l : List G.D, l.length = 3 → (∀ d, d ∈ l → Rd d) → PS (S ++ [.lst l]) n F → k.nx [x0, x1, x2, x3, x4, x5, x6, x7, x8, x9, x10, x11, x12, x13, some (.str (Sx T)), some (.int (i : Nat)), some (.str (Sx [c])), some (.loc S.length), x18] (S ++ [.lst l])) :
    Ws (s17 [x0, x1, x2, x3, x4, x5, x6, x7, x8, x9, x10, x11, x12, x13, some (.str (Sx T)), some (.int (i : Nat)), some (.str (Sx [c])), x17, x18] S) k := by
  have l75 : T.length ≤ 75 := by omega
  have c1 := cut_to l75 i S
  have c2 := cut_from l75 i S
  have c3 : slD S (.str (Sx T)) (some ((i : Nat) + 1)) none = some (.str (Sx (T.drop (i + 1)))) := by rw [← cut_from l75 (i + 1) S]; rfl
  have lA : (T.take i).length ≤ 46 := by rw [List.length_take]; omega
  have lB : (T.drop i).length ≤ 46 := by rw [List.length_drop]; omega
  have lC : (T.drop (i + 1)).length ≤ 46 := by rw [List.length_drop]; omega
  have lAB : (T.take i).length + (T.drop i).length ≤ 46 := by rw [List.length_take, List.length_drop]; omega
  have lAC : (T.take i).length + (T.drop (i + 1)).length ≤ 46 := by rw [List.length_take, List.length_drop]; omega
  have q := h
  generalize T.take i = A at c1 lA lAB lAC
  generalize T.drop i = B at c2 lB lAB
  generalize T.drop (i + 1) = B' at c3 lC lAC
  have ad : ∀ {a b : List Nat}, a.length + b.length ≤ 1000 → dAddS S (.str (Sx a)) (.str (Sx b)) = some (.str (Sx (a ++ b))) := fun h => add_S h S
  have t1 := ad (a := A) (b := [c]) (by rw [List.length_singleton]; omega)
  have t2 := ad (a := A ++ [c]) (b := B) (by rw [List.length_append, List.length_singleton]; omega)
  have t3 := ad (a := A) (b := B') (by omega)
  unfold s17
  wp_walk using c1, c2, c3, t1, t2, t3
  refine q _ rfl (fun d hd => ?_) (ps.app _)
  simp only [List.mem_cons, List.not_mem_nil, or_false] at hd
  rcases hd with rfl | rfl | rfl
  · exact .inr ⟨_, rfl, l75⟩
  · exact .inr ⟨_, rfl, by rw [List.length_append, List.length_append, List.length_singleton]; omega⟩
  · exact .inr ⟨_, rfl, by rw [List.length_append]; omega⟩
theorem s18_w {l : List G.D} (hl : l.length = 3) (hr : ∀ d, d ∈ l → Rd d) (ps : PS (S ++ [.lst l]) n F) {T : List Nat} (hT : T.length ≤ 46) {i c : Nat} (hi : i ≤ T.length) (h : ∀ l : List G.D, l.length = 4 → (∀ d, d ∈ l → Rd d) → PS (S ++ [.lst l]) n F → k.nx [x0, x1, x2, x3, x4, x5, x6, x7, x8, x9, x10, x11, x12, x13, some (.str (Sx T)), some (.int (i : Nat)), some (.str (Sx [c])), some (.loc S.length), x18] (S ++ [.lst l])) (pn : ∀ l', PS (S ++ [.lst l']) n F) :
    Ws (s18 [x0, x1, x2, x3, x4, x5, x6, x7, x8, x9, x10, x11, x12, x13, some (.str (Sx T)), some (.int (i : Nat)), some (.str (Sx [c])), some (.loc S.length), x18] (S ++ [.lst l])) k := by
  have l75 : T.length ≤ 75 := by omega
  have c1 := cut_to l75 i (S ++ [.lst l])
  have c3 : slD (S ++ [.lst l]) (.str (Sx T)) (some ((i : Nat) + 1)) none = some (.str (Sx (T.drop (i + 1)))) := by rw [← cut_from l75 (i + 1) (S ++ [.lst l])]; rfl
  have lAC : (T.take i).length + (T.drop (i + 1)).length ≤ 46 := by rw [List.length_take, List.length_drop]; omega
  have lA : (T.take i).length ≤ 46 := by rw [List.length_take]; omega
  have lC : (T.drop (i + 1)).length ≤ 46 := by rw [List.length_drop]; omega
  have q := h
  generalize T.take i = A at c1 lA lAC
  generalize T.drop (i + 1) = B' at c3 lC lAC
  have ad : ∀ {a b : List Nat}, a.length + b.length ≤ 1000 → dAddS (S ++ [.lst l]) (.str (Sx a)) (.str (Sx b)) = some (.str (Sx (a ++ b))) := fun h => add_S h _
  have t1 := ad (a := A) (b := [c]) (by rw [List.length_singleton]; omega)
  have t2 := ad (a := A ++ [c]) (b := B') (by rw [List.length_append, List.length_singleton]; omega)
  have il : isLst (S ++ [Cell.lst l]) (.loc S.length) = true := isLst_loc (get_one S l)
  have ap := app_one S (.str (Sx (A ++ [c] ++ B'))) (l := l) (by omega)
  unfold s18
  wp_walk using c1, c3, t1, t2, il, ap
  refine q _ (by rw [List.length_append, hl]; rfl) (fun d hd => ?_) (pn _)
  rcases List.mem_append.mp hd with z | z
  · exact hr d z
  · rw [List.mem_singleton.mp z]
    exact .inr ⟨_, rfl, by rw [List.length_append, List.length_append, List.length_singleton]; omega⟩
noncomputable def s19 (N : Nat) : SM := (sFor (iSeq (eBinS dAddS (eVar 17) (eLst (aCons (eBinS dAddS (eC (.str "0")) (eVar 14)) (aCons (eBinS dAddS (eVar 14) (eC (.str "/1"))) (aCons (eC (.str "-0")) (aCons (eC (.str "0/1")) (aCons (eC (.str "1_0")) (aCons (eBinS dAddS (eC (.str " ")) (eVar 14)) (aCons (eVar 11) (aCons (eVar 6) (aCons (eC (.str "")) aNil)))))))))))) (gN 18) (sIf (tNt (tT (eCall (m__law_read_right N) (nA 1 (aCons (eVar 18) aNil))))) (sRet (eC (.bl false))) sNop))
theorem s19_w (hN : big N) {m : Nat} {l : List G.D} (hm : S[m]? = some (.lst l)) (hl : l.length = 4) (hr : ∀ d, d ∈ l → Rd d) (ps : PS S n F) (ht : tb1 ∈ F) {T : List Nat} (hT : T.length ≤ 46) {t d : G.D} (htg : t ∈ thingD) (hd : d ∈ oddD) (h : ∀ x18, k.nx [x0, x1, x2, x3, x4, x5, some d, x7, x8, x9, x10, some t, x12, x13, some (.str (Sx T)), x15, x16, some (.loc m), x18] S) :
    Ws (s19 N [x0, x1, x2, x3, x4, x5, some d, x7, x8, x9, x10, some t, x12, x13, some (.str (Sx T)), x15, x16, some (.loc m), x18] S) k := by
  have ro := fun d hr => @rr_ok N S F d hN ps.s ht hr
  have a1 := add_S (a := [48]) (b := T) (by rw [List.length_singleton]; omega) S
  have a2 := add_S (a := T) (b := [47, 49]) (by simp only [List.length_cons, List.length_nil]; omega) S
  have a3 := add_S (a := [32]) (b := T) (by rw [List.length_singleton]; omega) S
  have htk : ∀ b, truD S (.bl b) = some b := fun _ => rfl
  have aL := fun y1 y2 y3 y4 y5 y6 y7 y8 y9 : G.D => dAddS_lc (S := S) (w := m) (l := l) (m := [y1, y2, y3, y4, y5, y6, y7, y8, y9]) hm (by rw [hl, sizeLine_eq]; simp only [List.length_cons, List.length_nil]; omega)
  unfold s19
  generalize m__law_read_right N = mr at ro ⊢
  rw [ws_sFor]
  wp_walk using t_0, t_1, t_b, a1, a2, a3, aL
  refine for_i (fun e S' => S' = S ∧ ∃ x18, e = [x0, x1, x2, x3, x4, x5, some d, x7, x8, x9, x10, some t, x12, x13, some (.str (Sx T)), x15, x16, some (.loc m), x18]) ⟨rfl, _, rfl⟩ ?_ ?_
  · rintro y e S' hy ⟨rfl, y18, rfl⟩
    have e1 := ro y (by
      rcases List.mem_append.mp hy with z | z
      · exact hr y z
      · simp only [List.mem_cons, List.not_mem_nil, or_false] at z
        rcases z with rfl | rfl | rfl | rfl | rfl | rfl | rfl | rfl | rfl
        · exact .inr ⟨_, rfl, by rw [List.length_cons]; omega⟩
        · exact .inr ⟨_, rfl, by rw [List.length_append]; simp only [List.length_cons, List.length_nil]; omega⟩
        · exact lit75 (a := [45, 48]) rfl (by decide)
        · exact lit75 (a := [48, 47, 49]) rfl (by decide)
        · exact lit75 (a := [49, 95, 48]) rfl (by decide)
        · exact .inr ⟨_, rfl, by rw [List.length_cons]; omega⟩
        · exact rd_thing _ htg
        · exact rd_odd _ hd
        · exact lit75 (a := []) rfl (by decide))
    wp_walk using e1
    exact ⟨_, rfl⟩
  · rintro e S' ⟨rfl, y18, rfl⟩
    exact h _
end
end Wk04
namespace Wk04
open PySem G C
noncomputable def turnS (N : Nat) : SM := sSeq (s1 N) (sSeq (s2 N) (sSeq s3 (sSeq (s4 N) (sSeq (s5 N) (sSeq s6 (sSeq (s7 N) (sSeq (wS (e8 N) "ratio") (sSeq (wS (e9 N) "told") (sSeq (s10 N) (sSeq (s11 N) (sSeq (wS (e12 N) "ratio") (sSeq (wS (e13 N) "told") (sSeq (s14 N) (sSeq (s15 N) (sSeq (s16 N) (sSeq s17 (sSeq s18 (s19 N))))))))))))))))))
noncomputable def bodyS (N : Nat) : SM := (sSeq (sSet 2 (eCall (C.m__law_pool N) (nA 1 (aCons (eCall (C.m__law_cell N) (nA 2 (aCons (eVar 0) (aCons (eVar 1) aNil)))) aNil))))
    (sFor (iRg1 (aCons (eC (.int 4)) aNil)) (gN 3) (turnS N)))
section
variable {N : Nat} {S : Store} {n : Nat} {k : KS} {x0 x1 x2 x3 x4 x5 x6 x7 x8 x9 x10 x11 x12 x13 x14 x15 x16 x17 x18 : Option G.D}
theorem turn_w (hN : big N) (ps : PS S n L0) (h : ∀ S' y4 y5 y6 y7 y8 y9 y10 y11 y12 y13 y14 y15 y16 y17 y18, PS S' n L0 → k.nx [x0, x1, some (.loc n), x3, y4, y5, y6, y7, y8, y9, y10, y11, y12, y13, y14, y15, y16, y17, y18] S') :
    Ws (turnS N [x0, x1, some (.loc n), x3, x4, x5, x6, x7, x8, x9, x10, x11, x12, x13, x14, x15, x16, x17, x18] S) k := by
  unfold turnS
  rw [ws_sSeq]
  refine s1_w hN ps fun S1 p q hp hq ps1 => ?_
  rw [sq_nx, ws_sSeq]
  refine s2_w ps1 fun S2 d hd ps2 => ?_
  rw [sq_nx, ws_sSeq]
  refine s3_w ?_
  rw [sq_nx, ws_sSeq]
  refine s4_w hN ps2 in0 hp hq fun S4 ps4 => ?_
  rw [sq_nx, ws_sSeq]
  refine s5_w hN ps4 in0 hp fun S5 ps5 => ?_
  rw [sq_nx, ws_sSeq]
  refine s6_w hN hp hd fun l hl => ?_
  rw [sq_nx, ws_sSeq]
  refine s7_w ps5 in0 hl fun S7 y9 y10 ps7 => ?_
  rw [sq_nx, ws_sSeq]
  refine s8_w hN ps7 in2 hd ?_
  rw [sq_nx, ws_sSeq]
  refine s9_w hN ps7 in2 hp ?_
  rw [sq_nx, ws_sSeq]
  refine s10_w ps7 fun S10 t htg ps10 => ?_
  rw [sq_nx, ws_sSeq]
  refine s11_w ps10 in2 htg fun y12 y13 => ?_
  rw [sq_nx, ws_sSeq]
  refine s12_w ps10 in2 htg ?_
  rw [sq_nx, ws_sSeq]
  refine s13_w hN ps10 in2 ?_
  rw [sq_nx, ws_sSeq]
  refine s14_w hp fun T hT => ?_
  rw [sq_nx, ws_sSeq]
  refine s15_w ps10 hT fun S15 i hi ps15 => ?_
  rw [sq_nx, ws_sSeq]
  refine s16_w ps15 fun S16 c ps16 => ?_
  rw [sq_nx, ws_sSeq]
  refine s17_w ps16 hT hi fun l3 h3 r3 ps17 => ?_
  rw [sq_nx, ws_sSeq]
  refine s18_w h3 r3 ps17 hT hi (fun l4 h4 r4 ps18 => ?_) (fun l' => ps16.app _)
  rw [sq_nx]
  refine s19_w hN (get_one S16 l4) h4 r4 ps18 in1 hT htg hd fun y18 => ?_
  exact h _ _ _ _ _ _ _ _ _ _ _ _ _ _ _ _ ps18
theorem body_w (hN : big N) (hs : Sep S L0) {ns : List Int} {i : Nat} (hi : i ≤ 1000) (h : ∀ S' y2 y3 y4 y5 y6 y7 y8 y9 y10 y11 y12 y13 y14 y15 y16 y17 y18, Sep S' L0 → k.nx [some (.scr (ns.map .int)), some (.int (i : Nat)), y2, y3, y4, y5, y6, y7, y8, y9, y10, y11, y12, y13, y14, y15, y16, y17, y18] S') :
    Ws (bodyS N [some (.scr (ns.map .int)), some (.int (i : Nat)), x2, x3, x4, x5, x6, x7, x8, x9, x10, x11, x12, x13, x14, x15, x16, x17, x18] S) k := by
  have tw := @turn_w N
  unfold bodyS
  generalize turnS N = ts at tw ⊢
  wp_walk using zxtf, G.wr_ok
  refine cell_w N ns i (by omega) (by omega) fun x => ?_
  wp_walk using zxtf, G.wr_ok
  refine pool_w N x fun c P => ?_
  have ps : PS (S ++ [c]) S.length L0 := ⟨P, hs.app _, fun z => Nat.lt_irrefl _ (hs.lt z)⟩
  generalize S ++ [c] = S1 at P ps ⊢
  generalize S.length = n at P ps ⊢
  wp_walk using zxtf, G.wr_ok
  rw [ws_sFor]
  wp_walk using zxtf, G.wr_ok
  refine ⟨by omega, ?_⟩
  refine for_i (fun e S' => PS S' n L0 ∧ ∃ y3 y4 y5 y6 y7 y8 y9 y10 y11 y12 y13 y14 y15 y16 y17 y18, e = [some (.scr (ns.map .int)), some (.int (i : Nat)), some (.loc n), y3, y4, y5, y6, y7, y8, y9, y10, y11, y12, y13, y14, y15, y16, y17, y18]) ⟨ps, _, _, _, _, _, _, _, _, _, _, _, _, _, _, _, _, rfl⟩ ?_ ?_
  · rintro d e S' hd ⟨ps', y3, y4, y5, y6, y7, y8, y9, y10, y11, y12, y13, y14, y15, y16, y17, y18, rfl⟩
    rw [wr_gN, bodyQ_s]
    refine tw hN ps' fun S2 z4 z5 z6 z7 z8 z9 z10 z11 z12 z13 z14 z15 z16 z17 z18 ps2 => ?_
    rw [lp_nx]
    exact ⟨ps2, _, _, _, _, _, _, _, _, _, _, _, _, _, _, _, _, rfl⟩
  · rintro e S' ⟨ps', y3, y4, y5, y6, y7, y8, y9, y10, y11, y12, y13, y14, y15, y16, y17, y18, rfl⟩
    exact h _ _ _ _ _ _ _ _ _ _ _ _ _ _ _ _ _ _ ps'.s
end
theorem law_body (N : Nat) : b_law N = (sSeq (sFor (iRg1 (aCons (eCa fMax (aCons (eC (.int 3)) (aCons (eCa fMin (aCons (eCa fLen (aCons (eVar 0) aNil)) (aCons (eC (.int 10)) aNil))) aNil))) aNil)) (gN 1) (bodyS N)) (sRet (eC (.bl true)))) := rfl
theorem plain : ∀ ns : List Int, ns.length ≤ 63 → ∃ N S, m_law N [.scr (ns.map .int)] (st0 tsL) = .ok (.bl true) S := by
  intro ns hl
  refine ⟨2 ^ 9000, ?_⟩
  have hN : big (2 ^ 9000) := Nat.le_refl _
  generalize 2 ^ 9000 = N at hN ⊢
  have hs : Sep (st0 tsL) L0 := ⟨fun p hp => by
    simp only [List.mem_cons, List.not_mem_nil, or_false] at hp
    rcases hp with rfl | rfl | rfl <;> rfl, by simp⟩
  generalize st0 tsL = S0 at hs ⊢
  suffices h : Wr (m_law N [.scr (ns.map .int)] S0) (fun d _ => d = .bl true) nX by
    obtain ⟨d, S, e, rfl⟩ := of_w h
    exact ⟨S, e⟩
  have bw := fun x2 x3 x4 x5 x6 x7 x8 x9 x10 x11 x12 x13 x14 x15 x16 x17 x18 S k => @body_w N S k x2 x3 x4 x5 x6 x7 x8 x9 x10 x11 x12 x13 x14 x15 x16 x17 x18 hN
  rw [m_law, wr_fnM, law_body]
  generalize bodyS N = bs at bw ⊢
  wp_walk using zxtf, G.wr_ok
  rw [ws_sFor]
  wp_walk using zxtf, List.length_map
  obtain ⟨J0, hj, j0, j1⟩ : ∃ J0 : Int, (if (if (10 : Int) < (ns.length : Int) then 10 else (ns.length : Int)) > 3 then (if (10 : Int) < (ns.length : Int) then 10 else (ns.length : Int)) else 3) = J0 ∧ 0 ≤ J0 ∧ J0 ≤ 10 := ⟨_, rfl, by split <;> (try split) <;> omega, by split <;> (try split) <;> omega⟩
  rw [hj]
  refine ⟨by omega, ?_⟩
  refine for_w (fun i e S' => i ≤ 10 ∧ Sep S' L0 ∧ ∃ x1 x2 x3 x4 x5 x6 x7 x8 x9 x10 x11 x12 x13 x14 x15 x16 x17 x18, e = [some (.scr (ns.map .int)), x1, x2, x3, x4, x5, x6, x7, x8, x9, x10, x11, x12, x13, x14, x15, x16, x17, x18]) ⟨Nat.zero_le _, hs, _, _, _, _, _, _, _, _, _, _, _, _, _, _, _, _, _, _, rfl⟩ ?_ ?_
  · rintro i d e S1 hd ⟨hi, hs1, y1, y2, y3, y4, y5, y6, y7, y8, y9, y10, y11, y12, y13, y14, y15, y16, y17, y18, rfl⟩
    obtain ⟨rfl, hi2⟩ := range_get hd
    rw [wr_gN, bodyQ_s]
    refine bw _ _ _ _ _ _ _ _ _ _ _ _ _ _ _ _ _ _ _ hs1 (by omega) fun S2 z2 z3 z4 z5 z6 z7 z8 z9 z10 z11 z12 z13 z14 z15 z16 z17 z18 hs2 => ?_
    rw [lp_nx]
    exact ⟨by omega, hs2, _, _, _, _, _, _, _, _, _, _, _, _, _, _, _, _, _, _, rfl⟩
  · rintro e S1 ⟨hi, hs1, y1, y2, y3, y4, y5, y6, y7, y8, y9, y10, y11, y12, y13, y14, y15, y16, y17, y18, rfl⟩
    wp_walk using zxtf, G.wr_ok
end Wk04
open PySem PySem.W PySem.Calls PyProof.Rows
set_option maxRecDepth 100000 in
set_option maxHeartbeats 0 in
theorem PySem.Challenge.cw_sharetags_k04_no_ratios_holds : PySem.Challenge.rw_sharetags_k04_no_ratios.Holds := by
  w_on; o_law
  refine HandSHeadRun.head_any (r := OpenLaw.row PySem.Challenge.rw_sharetags_k04_no_ratios) (q := Wk04.qv) (H := G.hookT 5 Wk04.fxAll Wk04.fnAll (Wk04.tsL.map (·.1))) (ob := G.obTT 5 Wk04.fxAll Wk04.fnAll (Wk04.tsL.map (·.1))) (M := 100000) (loose := Wk04.nmAll) (d := HandSHeadRun.topDef (OpenLaw.row PySem.Challenge.rw_sharetags_k04_no_ratios).prog 66) (kwd := []) (G.obTT_eq 5 _ _ _)
    (by kernel_rfl) (fun s => by kernel_rfl) ?hr (by kernel_rfl) (by kernel_rfl) (by kernel_rfl) (by rfl) (by first | assumption | decide +kernel) (by decide +kernel) ⟨rfl, rfl, rfl, rfl, rfl, by decide +kernel⟩ ?hw ?hc
  case hr => exact Wk04.run
  case hw => w_witness2
  case hc =>
    refine G.walk_endT (l := PySem.Challenge.rw_sharetags_k04_no_ratios) (k := 11) (x := "_law_script") (ts := Wk04.tsL) rfl (by kernel_rfl) (by kernel_rfl) ⟨rfl, by decide, by decide⟩ (fun w h Y => Y) ?F
    intro w mg fa h K KX c Y hmg
    exact Wk04.all_mk Wk04.plain hmg KX Y c
