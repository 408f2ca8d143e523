import PyProof.Rows.All
import Wide.All
import OpenK.AllK
import Wide.FinOn
import HandS.ForMost
import HandS.ForExc
import HandS.Wide
import HandS.IsInst
import HandS.ExcIs
import HandS.CallSlots
import HandS.Lambda
import HandS.EndTab
import HandS.HeadHook4
import HandS.Flow
import HandS.Defaults
import HandS.MakeKw
import HandS.Head2
import HandS.HeadEnd
import HandS.HeadHook2
import HandS.Zip
import PyProof.CollectIter
import PyProof.WalksMore
import HandS.Small
import HandS.SetFor
import HandS.Strs
import HandS.FStr
import HandS.RaiseMore
import HandS.TupMul
import HandS.MakeKwOnly
import KE.KCallOwn
import HandS.HeadWalk
import KE.GoesEnum
import HandS.Conv
import HandS.Style
import HandS.ExcInit
import KE.KExcInit
import HandS.ExcField
import KE.KExcIs
import HandS.Text
import PyProof.Rows.ListMulArg
import HandS.DictComp
import HandS.SetKeys
import KE.KDictDisplayH
import HandS.SortRule
import KE.KAssignIn
import KE.KEqNest
import KE.DataFind
import HandS.Remove
import PyProof.NeKinds
import HandS.Deep
import PyProof.InstNe
import HandS.More
import HandS.HeadHook3
import HandS.SortKw
import KE.DatumOrd
import PyProof.DictUpdate
import HandS.TupAny
import HandS.DictEq
import HandS.Codes
import PyProof.ReprBulk
import PySem.Challenge.RW_sharetags_k93_forms_of_logs
set_option Elab.async false
set_option linter.all false
set_option maxRecDepth 100000
set_option maxHeartbeats 8000000
namespace G
open PySem L2
inductive D where
  | non | bl (b : Bool) | int (i : Int) | str (x : Str)
  | tup (l : List D) | lst (l : List D) | scr (l : List D) | dic (ks : List Key) (l : List D) | loc (n : Nat)
  | exc (c : Nat) (fs : List (Nat × D))
  | ins (c : Nat) (fs : List (Nat × D))
  | fa (a : Nat)
  | pin (v : V) (d : D)
inductive Cell where
  | dead | lst (l : List D) | dk (kvs : List (Key × D)) | fk (kvs : List (Key × D)) | ts (ks : List (List Int)) | fs (ks : List (List Int)) | obj (c : Nat) (fs : List (Nat × D)) | tbl (p : Str × Option Str) (q : Str)
def Cell.frz : Cell → Bool
  | .fk _ => true
  | .fs _ => true
  | _ => false
def hashL (k : List Int) : Int := reduceHash (Builtin.Tuple.tupleHashOf (k.map hashInt))
def TsP (a : Addr) (xs : List (List Int × Addr)) : Heap → Prop := fun h => ∃ o es ep, h.get? a = some o ∧ o.ExactDict ∧ o.data = .dict es ep ∧ es.toList = xs.map (fun x => ⟨hashL x.1, .ref x.2, .bool true⟩) ∧ (xs.map (·.1)).Nodup
def cnames : List String := ["TagError", "LostError", "ShareError", "NoRatio", "NoText", "NoName", "NoRate", "NoWeight", "NoNumber", "NoTime", "NoTags", "NoSize", "NoClient", "NoLeast", "NoRivals", "NoTruth", "NoDeeds", "NoLog", "NoStretch", "NoLess", "NoPlan", "NoLeasts", "NoWord", "NoRow", "NoOne", "NoAsk", "NoPlace", "Nought", "Stands", "TooMany", "TooMuch", "Full", "Past", "Client", "Bookings", "Seat", "Room", "Server", "Fleet", "Desk", "Tale", "Walk", "Chair", "Replay", "Served", "Glance", "Look"]
def fnames : List String := ["name", "least", "most", "weight", "row", "rate", "place", "taken", "time", "lines", "at", "begins", "begun", "bookings", "books", "by", "came", "chairs", "clocks", "coming", "due_time", "fates", "gate", "heft", "hefts", "held", "here", "kept", "leasts", "lifts", "limit", "line", "marks", "mosts", "number", "rates", "room", "rows", "seats", "ships", "sizes", "speed", "tales", "told", "turned", "until", "why", "size"]
def cname (c : Nat) : Str := Str.ofString (cnames.getD c "")
def fname (c : Nat) : Str := Str.ofString (fnames.getD c "")
abbrev Store := List Cell
abbrev En := List (Option D)
structure Wo where
  al : List Addr
  st : Store
  hp : Hp
  /-- what is being built and nobody sees -/
  hid : List Addr
def Zl (w : Wo) (a : Addr) : Prop := (∃ (n : Nat) (c : Cell), w.al[n]? = some a ∧ w.st[n]? = some c ∧ c ≠ Cell.dead) ∨ a ∈ w.hid
def StO (w : Wo) (a : Addr) (u : HO) : Prop := Rd w.hp a u ∧ ¬ Zl w a
def StP (w : Wo) (a : Addr) (u : HO) : Prop := w.hp a = some u ∧ ¬ Zl w a
def KtT (K : PySem.W.Frag) (a : Addr) (vs : List V) : Prop :=
  ∃ (o : Obj) (its : Array Value) (n : Nat), K.lookup a = some o ∧ o.cls = .type "tuple" ∧ o.data = .seq its n ∧ its.size ≤ sizeLine ∧ Vals vs its.toList
def KtL (K : PySem.W.Frag) (a : Addr) (vs : List V) : Prop :=
  ∃ (o : Obj) (its : Array Value) (n : Nat), K.lookup a = some o ∧ o.cls = .type "list" ∧ o.dict = none ∧ o.data = .seq its n ∧ its.size ≤ sizeLine ∧ Vals vs its.toList
def StT (K : PySem.W.Frag) (w : Wo) (a : Addr) (vs : List V) : Prop := StO w a (.tup vs) ∨ KtT K a vs
def StL (K : PySem.W.Frag) (w : Wo) (a : Addr) (vs : List V) : Prop := StO w a (.lst vs) ∨ KtL K a vs
theorem StT.sq {K : PySem.W.Frag} {w : Wo} {a : Addr} {vs : List V} (h : StT K w a vs) : SqT K w.hp a vs := by
  rcases h with h | h
  · exact .inl h.1
  · exact .inr h
theorem StL.sq {K : PySem.W.Frag} {w : Wo} {a : Addr} {vs : List V} (h : StL K w a vs) : SqL K w.hp a vs := by
  rcases h with h | h
  · exact .inl h.1
  · exact .inr h
def ExcO (a : Addr) (cls : Value) (dd : Option Addr) : HO := .ext fun h => ∃ o vs, h.get? a = some o ∧ o.cls = cls ∧ o.dict = dd ∧ o.data = .fields vs
def XfO (w : Wo) (dd : Option Addr) (gs : List (Str × V)) : Prop := (gs = [] ∧ dd = none) ∨ (gs ≠ [] ∧ ∃ x, dd = some x ∧ StP w x (.xd gs))
mutual
inductive RepD (K : PySem.W.Frag) (mg : Str → Option Value) (w : Wo) : D → V → Prop where
  | non : RepD K mg w .non .non
  | bl (b : Bool) : RepD K mg w (.bl b) (.bl b)
  | int (i : Int) : RepD K mg w (.int i) (.int i)
  | str (x : Str) : RepD K mg w (.str x) (.str x)
  | tup {l : List D} {a : Addr} {vs : List V} : StT K w a vs → RepL K mg w l vs → RepD K mg w (.tup l) (.ref a)
  | lst {l : List D} {a : Addr} {vs : List V} : StP w a (.lst vs) → RepL K mg w l vs → RepD K mg w (.lst l) (.ref a)
  | scr {l : List D} {a : Addr} {vs : List V} : StL K w a vs → RepL K mg w l vs → RepD K mg w (.scr l) (.ref a)
  | dic {ks : List Key} {l : List D} {a : Addr} {vs : List V} : StP w a (.dK (ks.zip vs)) → ks.length = vs.length → RepL K mg w l vs → RepD K mg w (.dic ks l) (.ref a)
  | loc {n : Nat} {a : Addr} : w.al[n]? = some a → RepD K mg w (.loc n) (.ref a)
  | ins {c : Nat} {C a dx : Addr} {fs : List (Nat × D)} {gs : List (Str × V)} : mg (cname c) = some (.ref C) → StP w a (.ins C dx gs) → RepF K mg w fs gs → RepD K mg w (.ins c fs) (.ref a)
  | exc {c : Nat} {C a : Addr} {dd : Option Addr} {fs : List (Nat × D)} {gs : List (Str × V)} : mg (cname c) = some (.ref C) → StP w a (ExcO a (.ref C) dd) → XfO w dd gs → RepF K mg w fs gs → RepD K mg w (.exc c fs) (.ref a)
  | fa (a : Addr) : RepD K mg w (.fa a) (.ref a)
  | pin {d : D} {v : V} : RepD K mg w d v → RepD K mg w (.pin v d) v
inductive RepL (K : PySem.W.Frag) (mg : Str → Option Value) (w : Wo) : List D → List V → Prop where
  | nil : RepL K mg w [] []
  | cons {d : D} {v : V} {l : List D} {vs : List V} : RepD K mg w d v → RepL K mg w l vs → RepL K mg w (d :: l) (v :: vs)
inductive RepF (K : PySem.W.Frag) (mg : Str → Option Value) (w : Wo) : List (Nat × D) → List (Str × V) → Prop where
  | nil : RepF K mg w [] []
  | cons {f : Nat} {d : D} {v : V} {l : List (Nat × D)} {vs : List (Str × V)} : RepD K mg w d v → RepF K mg w l vs → RepF K mg w ((f, d) :: l) ((fname f, v) :: vs)
end
structure Ex0 (w w' : Wo) : Prop where
  al : ∃ t, w'.al = w.al ++ t
  zz : ∀ a, Zl w' a → Zl w a ∨ w.hp a = none
  keep : ∀ a o, w.hp a = some o → ¬ Zl w a → w'.hp a = some o
  tr : ∀ a o, w.hp a = some o → ∃ o', w'.hp a = some o'
def Fz (w w' : Wo) : Prop := ∀ (n : Nat) (a : Addr) (c : Cell), w.al[n]? = some a → w.st[n]? = some c → c.frz = true → w'.st[n]? = some c ∧ w'.hp a = w.hp a
theorem Fz.trans {w w1 w2 : Wo} (x : ∃ t, w1.al = w.al ++ t) (a : Fz w w1) (b : Fz w1 w2) : Fz w w2 := fun n y c h1 h2 h3 => by
  obtain ⟨t, e⟩ := x
  obtain ⟨f1, f2⟩ := a n y c h1 h2 h3
  have h1' : w1.al[n]? = some y := by
    rw [e, List.getElem?_append_left (List.getElem?_eq_some_iff.mp h1).1]; exact h1
  obtain ⟨g1, g2⟩ := b n y c h1' f1 h3
  exact ⟨g1, g2.trans f2⟩
structure Ext (w w' : Wo) : Prop extends Ex0 w w' where
  hid : w'.hid = w.hid
  kh : ∀ a, a ∈ w.hid → w'.hp a = w.hp a
  fz : Fz w w'
theorem Ex0.trans {w w1 w2 : Wo} (a : Ex0 w w1) (b : Ex0 w1 w2) : Ex0 w w2 := by
  refine ⟨?_, fun x h => ?_, fun x o h z => ?_, fun x o h => ?_⟩
  · obtain ⟨t, e⟩ := a.al
    obtain ⟨u, f⟩ := b.al
    exact ⟨t ++ u, by rw [f, e, List.append_assoc]⟩
  · rcases b.zz x h with h | h
    · exact a.zz x h
    · refine .inr ?_
      cases e : w.hp x with
      | none => rfl
      | some o =>
        obtain ⟨o', f⟩ := a.tr x o e
        rw [f] at h; cases h
  · refine b.keep x o (a.keep x o h z) fun q => ?_
    rcases a.zz x q with q | q
    · exact z q
    · rw [h] at q; cases q
  · obtain ⟨o', f⟩ := a.tr x o h
    exact b.tr x o' f
theorem Ext.trans {w w1 w2 : Wo} (a : Ext w w1) (b : Ext w1 w2) : Ext w w2 :=
  ⟨a.toEx0.trans b.toEx0, b.hid.trans a.hid, fun x h => (b.kh x (by rw [a.hid]; exact h)).trans (a.kh x h), a.fz.trans a.al b.fz⟩
theorem Rd.some {H : Hp} {a : Addr} {u : HO} (h : Rd H a u) : ∃ o, H a = some o := by
  rcases h with h | ⟨o, h⟩
  · exact ⟨_, h⟩
  · exact ⟨_, h⟩
theorem StO.ext {w w' : Wo} {a : Addr} {u : HO} (h : StO w a u) (e : Ex0 w w') : StO w' a u := by
  obtain ⟨r, z⟩ := h
  obtain ⟨o, ho⟩ := Rd.some r
  refine ⟨?_, fun q => ?_⟩
  · rcases r with r | ⟨o', r⟩
    · exact .inl (e.keep _ _ r z)
    · exact .inr ⟨o', e.keep _ _ r z⟩
  · rcases e.zz a q with q | q
    · exact z q
    · rw [ho] at q; cases q
theorem StP.ext {w w' : Wo} {a : Addr} {u : HO} (h : StP w a u) (e : Ex0 w w') : StP w' a u := by
  obtain ⟨r, z⟩ := h
  refine ⟨e.keep _ _ r z, fun q => ?_⟩
  rcases e.zz a q with q | q
  · exact z q
  · rw [r] at q; cases q
theorem StT.ext {K : PySem.W.Frag} {w w' : Wo} {a : Addr} {vs : List V} (h : StT K w a vs) (e : Ex0 w w') : StT K w' a vs := h.imp (fun h => h.ext e) id
theorem StL.ext {K : PySem.W.Frag} {w w' : Wo} {a : Addr} {vs : List V} (h : StL K w a vs) (e : Ex0 w w') : StL K w' a vs := h.imp (fun h => h.ext e) id
theorem XfO.ext {w w' : Wo} {dd : Option Addr} {gs : List (Str × V)} (h : XfO w dd gs) (e : Ex0 w w') : XfO w' dd gs := h.imp id fun ⟨z, x, q, s⟩ => ⟨z, x, q, s.ext e⟩
theorem Ex0.get {w w' : Wo} (e : Ex0 w w') {n : Nat} {a : Addr} (h : w.al[n]? = some a) : w'.al[n]? = some a := by
  obtain ⟨t, f⟩ := e.al
  rw [f, List.getElem?_append_left (List.getElem?_eq_some_iff.mp h).1]
  exact h
variable {K : PySem.W.Frag} {mg : Str → Option Value} {w w' : Wo}
mutual
theorem RepD.ext {d : D} {v : V} : RepD K mg w d v → Ex0 w w' → RepD K mg w' d v
  | .non, _ => .non
  | .bl b, _ => .bl b
  | .int i, _ => .int i
  | .str x, _ => .str x
  | .tup h r, e => .tup (h.ext e) (RepL.ext r e)
  | .lst h r, e => .lst (h.ext e) (RepL.ext r e)
  | .scr h r, e => .scr (h.ext e) (RepL.ext r e)
  | .dic h z r, e => .dic (h.ext e) z (RepL.ext r e)
  | .loc h, e => .loc (e.get h)
  | .ins g h r, e => .ins g (h.ext e) (RepF.ext r e)
  | .exc g h x r, e => .exc g (h.ext e) (x.ext e) (RepF.ext r e)
  | .fa a, _ => .fa a
  | .pin h, e => .pin (RepD.ext h e)
theorem RepL.ext {l : List D} {vs : List V} : RepL K mg w l vs → Ex0 w w' → RepL K mg w' l vs
  | .nil, _ => .nil
  | .cons r t, e => .cons (RepD.ext r e) (RepL.ext t e)
theorem RepF.ext {l : List (Nat × D)} {vs : List (Str × V)} : RepF K mg w l vs → Ex0 w w' → RepF K mg w' l vs
  | .nil, _ => .nil
  | .cons r t, e => .cons (RepD.ext r e) (RepF.ext t e)
end
theorem RepL.length {l : List D} {vs : List V} : RepL K mg w l vs → l.length = vs.length
  | .nil => rfl
  | .cons _ t => by rw [List.length_cons, List.length_cons, RepL.length t]
theorem RepL.get {l : List D} {vs : List V} {i : Nat} {d : D} : RepL K mg w l vs → l[i]? = some d → ∃ v, vs[i]? = some v ∧ RepD K mg w d v
  | .nil, h => by simp at h
  | .cons r t, h => by
    cases i with
    | zero => simp at h; subst h; exact ⟨_, by simp, r⟩
    | succ i =>
      obtain ⟨v, e, q⟩ := RepL.get (i := i) t (by simpa using h)
      exact ⟨v, by simpa using e, q⟩
theorem RepL.set {l : List D} {vs : List V} {d : D} {v : V} (q : RepD K mg w d v) : ∀ (i : Nat), RepL K mg w l vs → RepL K mg w (l.set i d) (vs.set i v)
  | _, .nil => .nil
  | 0, .cons _ t => .cons q t
  | i + 1, .cons r t => .cons r (RepL.set q i t)
theorem RepL.take {l : List D} {vs : List V} : ∀ (n : Nat), RepL K mg w l vs → RepL K mg w (l.take n) (vs.take n)
  | 0, _ => by simp only [List.take_zero]; exact .nil
  | _ + 1, .nil => .nil
  | n + 1, .cons r t => .cons r (RepL.take n t)
theorem RepL.drop {l : List D} {vs : List V} : ∀ (n : Nat), RepL K mg w l vs → RepL K mg w (l.drop n) (vs.drop n)
  | 0, h => h
  | _ + 1, .nil => .nil
  | n + 1, .cons _ t => RepL.drop n t
inductive RepK (κ : Type) (K : PySem.W.Frag) (mg : Str → Option Value) (w : Wo) : List (κ × D) → List (κ × V) → Prop where
  | nil : RepK κ K mg w [] []
  | cons {f : κ} {d : D} {v : V} {l : List (κ × D)} {vs : List (κ × V)} : RepD K mg w d v → RepK κ K mg w l vs → RepK κ K mg w ((f, d) :: l) ((f, v) :: vs)
theorem RepK.ext {κ : Type} {l : List (κ × D)} {vs : List (κ × V)} : RepK κ K mg w l vs → Ex0 w w' → RepK κ K mg w' l vs
  | .nil, _ => .nil
  | .cons r t, e => .cons (r.ext e) (RepK.ext t e)
def CellR (K : PySem.W.Frag) (mg : Str → Option Value) (w : Wo) (a : Addr) : Cell → Prop
  | .dead => True
  | .lst l => ∃ vs, w.hp a = some (.lst vs) ∧ RepL K mg w l vs
  | .dk kvs => ∃ us, w.hp a = some (.dK us) ∧ RepK Key K mg w kvs us
  | .fk kvs => ∃ o us, w.hp a = some (.frz o (.dK us)) ∧ RepK Key K mg w kvs us
  | .ts ks => (a == sysModules) = false ∧ ks.length ≤ sizeLine ∧ ∃ xs : List (List Int × Addr), xs.map (·.1) = ks ∧ w.hp a = some (.ext (TsP a xs)) ∧ ∀ x, x ∈ xs → StT K w x.2 (x.1.map V.int)
  | .fs ks => (a == sysModules) = false ∧ ks.length ≤ sizeLine ∧ ∃ (o : Obj) (xs : List (List Int × Addr)), xs.map (·.1) = ks ∧ w.hp a = some (.frz o (.ext (TsP a xs))) ∧ ∀ x, x ∈ xs → StT K w x.2 (x.1.map V.int)
  | .obj c fs => ∃ C dx gs, mg (cname c) = some (.ref C) ∧ w.hp a = some (.ins C dx gs) ∧ RepF K mg w fs gs
  | .tbl p q => a = (He.cT K p).2 ∧ ∃ ps : Array Value, w.hp a = some (.tbl ps) ∧ TriplesOk ps.toList ∧ ∀ (pos : Pos) (cv : Value), codeAmong pos ps.toList = some cv → ∃ c o, cv = .ref c ∧ w.hp c = some (.frz o (LamX.CodeO c q)) ∧ ¬ Zl w c
theorem CellR.ext {a : Addr} {c : Cell} (h : CellR K mg w a c) (e : Ex0 w w') (k : w'.hp a = w.hp a) : CellR K mg w' a c := by
  cases c with
  | dead => trivial
  | lst l => obtain ⟨vs, p, r⟩ := h; exact ⟨vs, k.trans p, r.ext e⟩
  | dk l => obtain ⟨vs, p, r⟩ := h; exact ⟨vs, k.trans p, r.ext e⟩
  | fk l => obtain ⟨o, vs, p, r⟩ := h; exact ⟨o, vs, k.trans p, r.ext e⟩
  | ts l => obtain ⟨h1, h2, xs, h3, h4, h5⟩ := h; exact ⟨h1, h2, xs, h3, k.trans h4, fun x hx => (h5 x hx).ext e⟩
  | fs l => obtain ⟨h1, h2, o, xs, h3, h4, h5⟩ := h; exact ⟨h1, h2, o, xs, h3, k.trans h4, fun x hx => (h5 x hx).ext e⟩
  | obj c l => obtain ⟨C, dx, gs, g, p, r⟩ := h; exact ⟨C, dx, gs, g, k.trans p, r.ext e⟩
  | tbl _ q =>
    obtain ⟨ea, ps, p, t, r⟩ := h
    refine ⟨ea, ps, k.trans p, t, fun pos cv hc => ?_⟩
    obtain ⟨c, o, e1, e2, e3⟩ := r pos cv hc
    refine ⟨c, o, e1, e.keep _ _ e2 e3, fun z => ?_⟩
    rcases e.zz c z with z | z
    · exact e3 z
    · rw [e2] at z; cases z
structure Rep (K : PySem.W.Frag) (mg : Str → Option Value) (w : Wo) : Prop where
  len : w.al.length = w.st.length
  nd : w.al.Nodup
  tr : ∀ a, a ∈ w.al → ∃ o, w.hp a = some o
  cell : ∀ (n : Nat) (a : Addr) (c : Cell), w.al[n]? = some a → w.st[n]? = some c → CellR K mg w a c
  hid : ∀ a, a ∈ w.hid → a ∉ w.al ∧ ∃ o, w.hp a = some o
structure RepE (K : PySem.W.Frag) (mg : Str → Option Value) (w : Wo) (e : En) (s : St) : Prop where
  len : e.length = s.length
  get : ∀ (i : Nat) (d : D), e[i]? = some (some d) → ∃ v, s[i]? = some (some v) ∧ RepD K mg w d v
theorem RepE.ext {e : En} {s : St} (h : RepE K mg w e s) (x : Ex0 w w') : RepE K mg w' e s :=
  ⟨h.len, fun i d g => let ⟨v, p, r⟩ := h.get i d g; ⟨v, p, r.ext x⟩⟩
theorem RepE.set {e : En} {s : St} {d : D} {v : V} (h : RepE K mg w e s) (i : Nat) (r : RepD K mg w d v) : RepE K mg w (e.set i (some d)) (s.set i (some v)) := by
  refine ⟨by rw [List.length_set, List.length_set]; exact h.len, fun j d' g => ?_⟩
  by_cases hj : j = i
  · subst hj
    by_cases hl : j < e.length
    · rw [List.getElem?_set_self hl] at g
      cases g
      exact ⟨v, by rw [List.getElem?_set_self (by rw [← h.len]; exact hl)], r⟩
    · rw [List.getElem?_eq_none (by simpa using hl)] at g; cases g
  · rw [List.getElem?_set_ne (Ne.symm hj)] at g ⊢
    exact h.get j d' g
inductive Res (β : Type) where
  | ok (b : β) (S : Store)
  | exc (e : D) (S : Store)
  | stuck
def Res.bind {β γ : Type} (r : Res β) (k : β → Store → Res γ) : Res γ := match r with
  | .ok b S => k b S
  | .exc e S => .exc e S
  | .stuck => .stuck
def RepX (K : PySem.W.Frag) (mg : Str → Option Value) (w : Wo) (e : D) (cls : Value) (dd : Option Addr) : Prop :=
  ∃ c C fs gs, e = .exc c fs ∧ mg (cname c) = some (.ref C) ∧ cls = .ref C ∧ XfO w dd gs ∧ RepF K mg w fs gs
theorem RepX.ext {e : D} {cls : Value} {dd : Option Addr} (h : RepX K mg w e cls dd) (x : Ex0 w w') : RepX K mg w' e cls dd := by
  obtain ⟨c, C, fs, gs, h1, h2, h3, h4, h5⟩ := h
  exact ⟨c, C, fs, gs, h1, h2, h3, h4.ext x, h5.ext x⟩
def Post {β γ : Type} (Rl : Wo → β → γ → Prop) (K : PySem.W.Frag) (mg : Str → Option Value) (w : Wo) (r : Res β) (Q : γ → Hp → Prop) (E : XK) : Prop := match r with
  | .ok b S => ∀ w' v, Ext w w' → Rep K mg w' → w'.st = S → Rl w' b v → Q v w'.hp
  | .exc e S => ∀ w' cls dd, Ext w w' → Rep K mg w' → w'.st = S → RepX K mg w' e cls dd → E cls dd w'.hp
  | .stuck => False
theorem Post.ext {β γ : Type} {Rl : Wo → β → γ → Prop} {r : Res β} {Q : γ → Hp → Prop} {E : XK} (h : Post Rl K mg w r Q E) (x : Ext w w') : Post Rl K mg w' r Q E := by
  cases r with
  | ok b S => exact fun w2 v e => h w2 v (x.trans e)
  | exc e S => exact fun w2 v d e => h w2 v d (x.trans e)
  | stuck => exact h
theorem Post.imp {β γ : Type} {Rl : Wo → β → γ → Prop} {r : Res β} {Q Q' : γ → Hp → Prop} {E : XK} (h : Post Rl K mg w r Q E) (i : ∀ v H, Q v H → Q' v H) : Post Rl K mg w r Q' E := by
  cases r with
  | ok b S => exact fun w2 v e R s r => i _ _ (h w2 v e R s r)
  | exc e S => exact h
  | stuck => exact h
def Mid {β γ δ ε : Type} (Rl : Wo → β → γ → Prop) (Rm : Wo → δ → ε → Prop) (K : PySem.W.Frag) (mg : Str → Option Value) (w : Wo) (k : β → Store → Res δ) (Q : ε → Hp → Prop) (E : XK) : γ → Hp → Prop := fun v H =>
  ∃ w1 b, w1.hp = H ∧ Ext w w1 ∧ Rep K mg w1 ∧ Rl w1 b v ∧ Post Rm K mg w1 (k b w1.st) Q E
theorem Post.bind {β γ δ ε : Type} {Rl : Wo → β → γ → Prop} {Rm : Wo → δ → ε → Prop} {r : Res β} {k : β → Store → Res δ} {Q : ε → Hp → Prop} {E : XK} (h : Post Rm K mg w (r.bind k) Q E) :
    Post Rl K mg w r (Mid Rl Rm K mg w k Q E) E := by
  cases r with
  | ok b S =>
    intro w1 v e R s q
    subst s
    exact ⟨w1, b, rfl, e, R, q, Post.ext (Rl := Rm) h e⟩
  | exc e S => exact h
  | stuck => exact h
end G
namespace G
open PySem L2
abbrev EM := En → Store → Res D
abbrev TM := En → Store → Res Bool
end G
namespace G
open PySem L2
section
variable {X : Cx} {W : WX} {a b c e o : Expr} {es : List Expr} {ma mb mc me : EM} {ta tb : TM} {pos : Pos}
variable {K : PySem.W.Frag} {mg : Str → Option Value} {w : Wo}
theorem RepL.at {l : List D} {vs : List V} {i : Int} {d : D} (h : RepL K mg w l vs) (e : atI l i = some d) : ∃ v, atI vs i = some v ∧ RepD K mg w d v := by
  unfold atI at e ⊢
  rw [← h.length]
  cases q : ixN l.length i with
  | none => rw [q] at e; cases e
  | some j =>
    rw [q] at e
    exact h.get e
def lenD (S : Store) : D → Option Nat
  | .str x => if x.length ≤ sizeLine then some x.length else none
  | .tup l => some l.length
  | .lst l => some l.length
  | .scr l => some l.length
  | .loc n => match S[n]? with
    | some (.lst l) => some l.length
    | _ => none
  | _ => none
theorem RepD.len {d : D} {v : V} {n : Nat} (R : Rep K mg w) (h : RepD K mg w d v) (e : lenD w.st d = some n) : LenV K v w.hp n := by
  cases h with
  | str x =>
    replace e : (if x.length ≤ sizeLine then some x.length else none) = some n := e
    split at e
    · cases e; exact ⟨by assumption, rfl⟩
    · cases e
  | tup s r => cases e; exact .inr ⟨_, s.sq, r.length⟩
  | lst s r => cases e; exact .inl ⟨_, SqL.of s.1, r.length⟩
  | scr s r => cases e; exact .inl ⟨_, s.sq, r.length⟩
  | @loc m a hn =>
    replace e : (match w.st[m]? with
      | some (.lst l) => some l.length
      | _ => none) = some n := e
    split at e
    · rename_i l hl
      cases e
      obtain ⟨vs, p, r⟩ := R.cell _ _ _ hn hl
      exact .inl ⟨vs, SqL.of p, r.length⟩
    · cases e
  | _ => cases e
def seqD (S : Store) : D → Option (List D)
  | .lst l => some l
  | .scr l => some l
  | .loc n => match S[n]? with
    | some (.lst l) => some l
    | _ => none
  | _ => none
theorem RepD.seq {d : D} {v : V} {l : List D} (R : Rep K mg w) (h : RepD K mg w d v) (e : seqD w.st d = some l) : ∃ a vs, v = .ref a ∧ SqL K w.hp a vs ∧ RepL K mg w l vs := by
  cases h with
  | lst s r => cases e; exact ⟨_, _, rfl, SqL.of s.1, r⟩
  | scr s r => cases e; exact ⟨_, _, rfl, s.sq, r⟩
  | @loc m a hn =>
    replace e : (match w.st[m]? with
      | some (.lst l) => some l
      | _ => none) = some l := e
    split at e
    · rename_i l hl
      cases e
      obtain ⟨vs, p, r⟩ := R.cell _ _ _ hn hl
      exact ⟨_, vs, rfl, SqL.of p, r⟩
    · cases e
  | _ => cases e
inductive Ty where
  | int | bool | str | tuple | list | dict
def Ty.nm : Ty → String
  | .int => "int" | .bool => "bool" | .str => "str" | .tuple => "tuple" | .list => "list" | .dict => "dict"
inductive Tn where
  | non | bool | int | str | tuple | list | dict
def Tn.nm : Tn → String
  | .non => "NoneType" | .bool => "bool" | .int => "int" | .str => "str" | .tuple => "tuple" | .list => "list" | .dict => "dict"
end
end G
namespace G
open PySem L2
inductive SRes where
  | nxt (e : En) (S : Store)
  | ret (d : D) (S : Store)
  | brk (e : En) (S : Store)
  | cnt (e : En) (S : Store)
  | exc (x : D) (e : En) (S : Store)
  | stuck
abbrev SM := En → Store → SRes
def PostS (X : Cx) (W : WX) (w : Wo) (r : SRes) (D : Ends) : Prop := match r with
  | .nxt e S => ∀ w' s', Ext w w' → Rep X.K X.mg w' → w'.st = S → RepE X.K X.mg w' e s' → D.nx s' w'.hp
  | .ret d S => ∀ w' v, Ext w w' → Rep X.K X.mg w' → w'.st = S → RepD X.K X.mg w' d v → D.rt v w'.hp
  | .brk e S => ∀ w' s', Ext w w' → Rep X.K X.mg w' → w'.st = S → RepE X.K X.mg w' e s' → D.bk s' w'.hp
  | .cnt e S => ∀ w' s', Ext w w' → Rep X.K X.mg w' → w'.st = S → RepE X.K X.mg w' e s' → D.ct s' w'.hp
  | .exc x e S => ∀ w' s' cls dd, Ext w w' → Rep X.K X.mg w' → w'.st = S → RepE X.K X.mg w' e s' → RepX X.K X.mg w' x cls dd → W cls dd s' w'.hp
  | .stuck => False
def tS (X : Cx) (W : WX) (m : SM) : TS := fun D s H => ∃ w e, w.hp = H ∧ Rep X.K X.mg w ∧ RepE X.K X.mg w e s ∧ PostS X W w (m e w.st) D
def sE {β : Type} (r : Res β) (e : En) (k : β → Store → SRes) : SRes := match r with
  | .ok b S => k b S
  | .exc x S => .exc x e S
  | .stuck => .stuck
def sS (r : SRes) (k : SM) : SRes := match r with
  | .nxt e S => k e S
  | r => r
section
variable {X : Cx} {W : WX} {a b c e o : Expr} {es : List Expr} {ma mb mc me : EM} {ta tb : TM} {pos : Pos} {st : Stmt} {rest : List Stmt} {m n : SM}
theorem PostS.ext {w w' : Wo} {r : SRes} {D : Ends} (h : PostS X W w r D) (x : Ext w w') : PostS X W w' r D := by
  cases r with
  | nxt e S => exact fun w2 s e => h w2 s (x.trans e)
  | ret e S => exact fun w2 s e => h w2 s (x.trans e)
  | brk e S => exact fun w2 s e => h w2 s (x.trans e)
  | cnt e S => exact fun w2 s e => h w2 s (x.trans e)
  | exc y e S => exact fun w2 s c d e => h w2 s c d (x.trans e)
  | stuck => exact h
def MidS {β γ : Type} (Rl : Wo → β → γ → Prop) (X : Cx) (W : WX) (w : Wo) (k : β → Store → SRes) (D : Ends) : γ → Hp → Prop := fun v H =>
  ∃ w1 b, w1.hp = H ∧ Ext w w1 ∧ Rep X.K X.mg w1 ∧ Rl w1 b v ∧ PostS X W w1 (k b w1.st) D
theorem PostS.of {β γ : Type} {Rl : Wo → β → γ → Prop} {w : Wo} {r : Res β} {en : En} {s : St} {k : β → Store → SRes} {D : Ends} (h : PostS X W w (sE r en k) D) (E : RepE X.K X.mg w en s) :
    Post Rl X.K X.mg w r (MidS Rl X W w k D) (fun cls dd H' => W cls dd s H') := by
  cases r with
  | ok b S =>
    intro w1 v x R st q
    subst st
    exact ⟨w1, b, rfl, x, R, q, PostS.ext h x⟩
  | exc y S => exact fun w1 cls dd x R st q => h w1 s cls dd x R st (E.ext x.toEx0) q
  | stuck => exact h
theorem PostS.s {w : Wo} {r : SRes} {n : SM} {D : Ends} (h : PostS X W w (sS r n) D) : PostS X W w r { D with nx := tS X W n D } := by
  cases r with
  | nxt e S =>
    intro w1 s x R st E
    subst st
    exact ⟨w1, e, rfl, R, E, PostS.ext h x⟩
  | ret e S => exact h
  | brk e S => exact h
  | cnt e S => exact h
  | exc y e S => exact h
  | stuck => exact h
end
end G
namespace G
open PySem L2
inductive Tg where
  | nm (i : Nat)
  | tp (is : List Nat)
def gNs : List Nat → TGs
  | [] => gNil
  | i :: r => gCons (gName i) (gNs r)
def Tg.r (K : PySem.W.Frag) : Tg → TG
  | .nm i => gName i
  | .tp is => gTup K is.length (gNs is)
def putAll : List Nat → List D → En → Option En
  | [], [], e => some e
  | i :: is, d :: ds, e => putAll is ds (e.set i (some d))
  | _, _, _ => none
def Tg.m : Tg → D → En → Option En
  | .nm i, d, e => some (e.set i (some d))
  | .tp is, .tup ds, e => putAll is ds e
  | _, _, _ => none
def Tg.ix : Tg → List Nat
  | .nm i => [i]
  | .tp is => is
section
variable {X : Cx} {W : WX} {a b c e o : Expr} {es : List Expr} {ma mb mc me : EM} {ta tb : TM} {pos : Pos}
variable {K : PySem.W.Frag} {mg : Str → Option Value} {w : Wo}
theorem gNs_ok : ∀ (is : List Nat) (ds : List D) (us : List V) (en en' : En) (s : St) (H : Hp) (Q : St → Hp → Prop), RepE K mg w en s → RepL K mg w ds us → putAll is ds en = some en' →
    (∀ s', RepE K mg w en' s' → s'.length = s.length → (∀ j, j ∉ is → s'[j]? = s[j]?) → Q s' H) → gNs is us s H Q
  | [], ds, us, en, en', s, H, Q, E, R, h, q => by
    cases ds with
    | nil =>
      cases h
      cases R
      exact ⟨rfl, q s E rfl fun _ _ => rfl⟩
    | cons _ _ => cases h
  | i :: is, ds, us, en, en', s, H, Q, E, R, h, q => by
    cases ds with
    | nil => cases h
    | cons d ds =>
      cases R with
      | cons r R =>
        refine ⟨_, _, rfl, ?_⟩
        refine gNs_ok is ds _ _ en' _ H Q (E.set i r) R h fun s' E' hl hj => q s' E' (by rw [hl, List.length_set]) fun j hn => ?_
        rw [hj j fun z => hn (List.mem_cons_of_mem _ z), List.getElem?_set_ne fun z : i = j => hn (by rw [z]; exact List.mem_cons_self)]
theorem Tg.ok (tg : Tg) {d : D} {v : V} {en en' : En} {s : St} {Q : St → Hp → Prop} (E : RepE K mg w en s) (R : RepD K mg w d v) (h : tg.m d en = some en')
    (q : ∀ s', RepE K mg w en' s' → s'.length = s.length → (∀ j, j ∉ tg.ix → s'[j]? = s[j]?) → Q s' w.hp) : tg.r K v s w.hp Q := by
  cases tg with
  | nm i =>
    cases h
    exact q _ (E.set i R) (by rw [List.length_set]) fun j hj => List.getElem?_set_ne fun z => hj (by rw [z]; exact List.mem_cons_self)
  | tp is =>
    cases R with
    | tup st rl =>
      have hl : ∀ (is : List Nat) (ds : List D) (en en' : En), putAll is ds en = some en' → is.length = ds.length := by
        intro is
        induction is with
        | nil => intro ds en en' h; cases ds with
          | nil => rfl
          | cons _ _ => cases h
        | cons i is ih => intro ds en en' h; cases ds with
          | nil => cases h
          | cons _ _ => exact congrArg Nat.succ (ih _ _ _ h)
      exact ⟨_, _, rfl, st.sq, by rw [← rl.length]; exact (hl _ _ _ _ h).symm, gNs_ok is _ _ en en' s w.hp Q E rl h q⟩
    | _ => cases h
end
end G
namespace G
open PySem L2 PySem.Spec
abbrev FM := List D → Store → Res D
def spM (K : PySem.W.Frag) (mg : Str → Option Value) (n : Nat) (f : FM) : Sp := fun vs H Q E => vs.length = n ∧ ∃ w ds, w.hp = H ∧ Rep K mg w ∧ RepL K mg w ds vs ∧ Post (RepD K mg) K mg w (f ds w.st) Q E
structure RoomG (k : Nat) (A : Around) : Prop where
  r : Room k A
  gd : A.guards = some []
structure Cg (X : Cx) (W : WX) (k : Nat) : Prop where
  calm : X.calm = true
  nd : X.N.Nodup
  tk : Takes X W
  po : PassesOwn (model X.prog X.w) X.A X.env X.xe
  rm : RoomG k X.A
  hs : X.stack = X.env :: X.outer
  hf : X.env.frame = some X.env.locals
  em : X.ex = []
section
variable {P : Program} {w0 : World} {K : PySem.W.Frag} {mg : Str → Option Value} {base : Heap}
structure FnG (P : Program) (w0 : World) (K : PySem.W.Frag) (mg : Str → Option Value) (base : Heap) (k : Nat) (f : Addr) (fd : FuncData) (ps : List Str) (sp : Sp) : Prop where
  len : ∀ vs H Q E, sp vs H Q E → vs.length = ps.length
  run : ∀ (A : Around) (outer : List Env) (s : Shared) (H : Hp) (args : Args) (us : List Value) (vs : List V) (Q : VK) (E : XK), RoomG k A → Env0 P w0 K mg base A outer s H → BindsTo s fd args (ps.zip us) → Vals vs us → sp vs H Q E →
    codeAny (model P w0) A (.call (.ref f) args) (CR (L2.CX P w0) outer P w0 H s Q E) s
structure Df (P : Program) (w0 : World) (K : PySem.W.Frag) (mg : Str → Option Value) (base : Heap) (x : Str) (ps : List Str) (k : Nat) (m : FM) : Prop where
  ex : ∃ f fd, mg x = some (.ref f) ∧ PySem.W.keepIn K (.ref f) = true ∧ Binds K fd ps [] ∧ FnG P w0 K mg base k f fd ps (spM K mg ps.length m)
end
end G
namespace G
open PySem L2 PySem.Spec
section
variable {X : Cx} {W : WX} {a b c e o : Expr} {es : List Expr} {ma mb mc me : EM} {ta tb : TM} {pos : Pos} {x : Str} {p : Pos} {j k : Nat}
theorem Cg.tr (c : Cg X W k) {pn : List (Addr × Obj)} {xe : Value → Shared → Prop} {W' : WX} (t : Takes (X.tr pn xe) W') (po : PassesOwn (model X.prog X.w) X.A X.env xe) : Cg (X.tr pn xe) W' k := ⟨c.calm, c.nd, t, po, c.rm, c.hs, c.hf, c.em⟩
end
end G
namespace G
open PySem L2 PySem.Spec
abbrev bmValueError : List Value := [.type "ValueError", .type "Exception", .type "BaseException", .type "object"]
end G
namespace G
open PySem L2 PySem.Spec PyProof.Rows
def refsX (o : Obj) : List Addr := (match o.dict with
  | some d => [d]
  | none => []) ++ match o.data with
  | .seq its _ => its.toList.flatMap He.refV
  | .dict es _ => es.toList.flatMap fun e => He.refV e.val
  | .func fd => He.refV fd.code ++ (He.refV fd.defaults ++ He.refV fd.kwdefaults)
  | .cls cd => [cd.ns]
  | _ => []
def lvX (g : Addr → Option Obj) : Nat → List Addr → List Addr
  | 0, as => as
  | n + 1, as => as ++ lvX g n (as.flatMap fun a => match g a with
    | some o => refsX o
    | none => [])
abbrev Fx : Type := PySem.W.Frag → Bool
def obsX (fx : List Fx) (fn : List He.DefD) (K : PySem.W.Frag) : He.AlD := ((fx.all fun f => f K) && fn.all fun d => d.ok K, fn.map fun d => He.fnW K d.at_)
def SaysX (fx : List Fx) (fn : List He.DefD) (K : PySem.W.Frag) : Prop := obsX fx fn K = He.valD fn
def oneFree (K : PySem.W.Frag) (x : Str) : Bool := He.eqO (PySem.W.nsIn K mainGlobals x) (some none)
def freesB (l : List Str) : Fx := fun K => l.all fun x => oneFree K x
def oneGlo (K : PySem.W.Frag) (x : Str) : Bool := He.eqO (PySem.W.nsIn K mainGlobals x) (some (some (.ref (He.ga K x))))
def glosB (l : List Str) : Fx := fun K => l.all fun x => oneGlo K x
def intB (x : Str) (i : Int) : Fx := fun K => match PySem.W.nsIn K mainGlobals x with
  | some (some (.int j _)) => decide (j = i)
  | _ => false
def strB (x z : Str) : Fx := fun K => match PySem.W.nsIn K mainGlobals x with
  | some (some (.str y _)) => decide (y = z)
  | _ => false
section
variable {K : PySem.W.Frag} {h : Heap} {mg : Str → Option Value}
def tupX (x : Str) (vs : List V) : Fx := fun K => match K.lookup (He.ga K x) with
  | some ⟨.type c, _, .seq its _, _⟩ => decide (c = "tuple") && (decide (its.size ≤ sizeLine) && He.relAll vs its.toList)
  | _ => false
def xcoB (x : Str) (bm : List Value) (nw : String) : Fx := fun K => PySem.W.excIn K (He.ga K x) bm nw && (PySem.W.keepIn K (.ref (He.ga K x)) && (decide (PySem.W.subIn K (.ref (He.ga K x)) (.type "BaseException") = some true) && decide (PySem.W.typeIn K (.ref (He.ga K x)) = some (.type "type"))))
def exqB (K : PySem.W.Frag) (C : Addr) : Bool := He.eqO (PySem.W.findIn K (.ref C) "__getattribute__") (some (some (.builtin "BaseException.__getattribute__"))) && (He.eqO (PySem.W.findIn K (.ref C) "__getattr__") (some none) &&
  (decide (PySem.W.subIn K (.ref C) (.type "BaseException") = some true) && (PySem.W.hasDictIn K C && (He.eqO (PySem.W.findIn K (.ref C) "__class__") (some (some (.builtin "object.__class__"))) &&
  (He.eqO (PySem.W.specialIn K (.builtin "object.__class__") "__get__") (some (some (.builtin "getset_descriptor.__get__"))) && (decide (PySem.W.takesIn K (.builtin "object.__class__") = some true) && decide (PySem.W.mroIn K C (.type "object") = some true)))))))
def exsB (l : List Nat) : Fx := fun K => l.all fun n => oneGlo K (cname n) && exqB K (He.ga K (cname n))
def kitO (K : PySem.W.Frag) (D : Value) (p : Nat × Bool) : Bool := decide (PySem.W.kitOne K (.ref (He.ga K (cname p.1))) D = some p.2)
def kitB (D : PySem.W.Frag → Value) (l : List (Nat × Bool)) : Fx := fun K => l.all fun p => kitO K (D K) p
def exmO (K : PySem.W.Frag) (y : Str) (p : Nat × Bool) : Bool := decide (PySem.W.exmOne K (.ref (He.ga K (cname p.1))) (.ref (He.ga K y)) = some p.2)
def exmB (y : Str) (l : List (Nat × Bool)) : Fx := fun K => l.all fun p => exmO K y p
end
end G
namespace G
open PySem L2 PySem.Spec
end G
namespace G
open PySem L2 PySem.Spec
theorem fname_tab : ((List.range 48).all fun g => (List.range 48).all fun f => g == f || !(fname g == fname f)) = true := by decide +kernel
theorem fname_emp : ((List.range 48).all fun f => !((Str.ofString "") == fname f)) = true := by decide +kernel
theorem fname_big {g : Nat} (h : ¬ g < 48) : fname g = Str.ofString "" := by
  unfold fname
  rw [List.getD_eq_getElem?_getD, List.getElem?_eq_none (by show 48 ≤ g; omega)]
  rfl
theorem fname_ne {f g : Nat} (hf : f < 48) (h : g ≠ f) : fname g ≠ fname f := by
  intro e
  by_cases hg : g < 48
  · have := List.all_eq_true.mp (List.all_eq_true.mp fname_tab g (List.mem_range.mpr hg)) f (List.mem_range.mpr hf)
    rw [e] at this
    simp [h] at this
  · have := List.all_eq_true.mp fname_emp f (List.mem_range.mpr hf)
    rw [fname_big hg] at e
    rw [e] at this
    simp at this
section
variable {K : PySem.W.Frag} {mg : Str → Option Value} {w : Wo}
theorem RepF.get {fs : List (Nat × D)} {gs : List (Str × V)} {f : Nat} {d : D} (hf : f < 48) : RepF K mg w fs gs → fs.lookup f = some d → ∃ v, gs.lookup (fname f) = some v ∧ RepD K mg w d v
  | .nil, h => by cases h
  | @RepF.cons _ _ _ g d' v' l vs r t, h => by
    rw [List.lookup_cons] at h
    by_cases e : f = g
    · subst e
      simp only [beq_self_eq_true] at h
      cases h
      exact ⟨v', by rw [List.lookup_cons]; simp, r⟩
    · have hb : (f == g) = false := beq_eq_false_iff_ne.mpr e
      rw [hb] at h
      obtain ⟨v, h1, h2⟩ := RepF.get hf t h
      refine ⟨v, ?_, h2⟩
      have hc : (fname f == fname g) = false := beq_eq_false_iff_ne.mpr (Ne.symm (fname_ne hf (Ne.symm e)))
      rw [List.lookup_cons, hc]
      exact h1
def insD (S : Store) : D → Option (Nat × List (Nat × D))
  | .ins c fs => some (c, fs)
  | .loc n => match S[n]? with
    | some (.obj c fs) => some (c, fs)
    | _ => none
  | _ => none
end
end G
namespace G
open PySem L2 PySem.Spec
end G
namespace G
open PySem L2 PySem.Spec RZ
end G
namespace G
open PySem L2 PySem.Spec PyProof.Rows
def clsSt (st : Stmt) (j : Nat) : Stmt := match st with
  | .ClassDef _ _ _ body _ _ _ _ _ _ _ => body.getD j (.Pass ⟨0, 0, 0, 0⟩)
  | _ => .Pass ⟨0, 0, 0, 0⟩
def famC (n : Nat) : Nat := if n < 3 then n else if n < 24 then 0 else if n < 27 then 1 else 2
def subC (n c : Nat) : Bool := n == c || (famC n == c || 100 + famC n == c)
end G
namespace G
open PySem L2 PySem.Spec PyProof.Rows
end G
namespace G
open PySem L2 PySem.Spec
def isCn (cn : Nat) (S : Store) (d : D) : Bool := match insD S d with
  | some (c, _) => c == cn
  | none => false
end G
namespace G
open PySem L2 PySem.Spec PyProof.Rows
def valD (kvs : List (Key × D)) (k : Key) : Option D := (kvs.find? fun kv => decide (kv.1 = k)).map (·.2)
def dropKD (kvs : List (Key × D)) (k : Key) : List (Key × D) := kvs.filter fun kv => decide (kv.1 ≠ k)
section
variable {K : PySem.W.Frag} {mg : Str → Option Value} {w : Wo}
theorem RepK.val {k : Key} {d : D} {kvs : List (Key × D)} {us : List (Key × V)} : RepK Key K mg w kvs us → valD kvs k = some d → ∃ v, valV us k = some v ∧ RepD K mg w d v
  | .nil, h => by cases h
  | @RepK.cons _ _ _ _ f d' v' l vs r t, h => by
    by_cases e : f = k
    · have h1 : valD ((f, d') :: l) k = some d' := by simp [valD, List.find?_cons, e]
      rw [h1] at h
      cases h
      exact ⟨v', valV_pos e, r⟩
    · have h1 : valD ((f, d') :: l) k = valD l k := by simp [valD, List.find?_cons, e]
      rw [h1] at h
      obtain ⟨v, q1, q2⟩ := RepK.val t h
      exact ⟨v, by rw [valV_neg (by exact e)]; exact q1, q2⟩
theorem RepK.drop {k : Key} {kvs : List (Key × D)} {us : List (Key × V)} : RepK Key K mg w kvs us → RepK Key K mg w (dropKD kvs k) (dropK us k)
  | .nil => .nil
  | @RepK.cons _ _ _ _ f d' v' l vs r t => by
    unfold dropKD dropK
    rw [List.filter_cons, List.filter_cons]
    by_cases e : f = k
    · rw [if_neg (by simp [e]), if_neg (by simp [e])]; exact RepK.drop t
    · rw [if_pos (by simp [e]), if_pos (by simp [e])]; exact .cons r (RepK.drop t)
end
end G
namespace G
open PySem L2 PySem.Spec PyProof.Rows
end G
namespace G
open PySem L2 PySem.Spec
end G
namespace G
open PySem L2 PySem.Spec PyProof.Rows
end G
namespace G
open PySem L2 PySem.Spec
end G
namespace G
open PySem L2 PySem.Spec
instance : Inhabited V := ⟨.non⟩
section
variable {X : Cx} {W : WX} {a b c e l : Expr} {es : List Expr} {ma mb mc me : EM} {pos : Pos} {x : Str} {p : Pos} {j k : Nat} {ps ks : List Str} {f : FM}
instance {n : Nat} : Inhabited { vs : List V // vs.length = n } := ⟨⟨List.replicate n .non, by simp⟩⟩
end
end G
namespace G
open PySem L2 PySem.Spec PyProof.Rows
end G
namespace G
open PySem L2 PySem.Spec PyProof.Rows
end G
namespace G
open PySem L2 PySem.Spec PyProof.Rows
end G
namespace G
open PySem L2 PySem.Spec PyProof.Rows
abbrev Mk2 : Type := He.Defn × Str
def al0 (K : PySem.W.Frag) (ts : List Mk2) : List Addr := ts.map fun t => (He.cT K t.1).2
def obsTG (n : Nat) (fx : List Fx) (fn : List He.DefD) (tf : List He.Defn) (g : Addr → Option Obj) : He.AlD × Bool := (obsX fx fn (He.frT g (lvX g n [mainGlobals] ++ [cStatics])), He.tabsB g tf (He.frT g (lvX g n [mainGlobals] ++ [cStatics])))
structure SaysT (fx : List Fx) (fn : List He.DefD) (tf : List He.Defn) (h : Heap) (K : PySem.W.Frag) : Prop where
  s : SaysX fx fn K
  hd : ∀ p ∈ tf, PySem.W.codeHdIn K (He.cT K p).1 (He.cT K p).2 = true
  out : ∀ p ∈ tf, K.lookup (He.cT K p).2 = none
  empty : ∀ p ∈ tf, h.get? (He.cT K p).2 = some { cls := .none, data := .fields #[] }
theorem saysT_of {n : Nat} {fx : List Fx} {fn : List He.DefD} {tf : List He.Defn} {h : Heap} (e : obsTG n fx fn tf h.get? = (He.valD fn, true)) : SaysT fx fn tf h (He.frT h.get? (lvX h.get? n [mainGlobals] ++ [cStatics])) := by
  have e1 : obsX fx fn (He.frT h.get? (lvX h.get? n [mainGlobals] ++ [cStatics])) = He.valD fn := congrArg Prod.fst e
  have e2 : He.tabsB h.get? tf (He.frT h.get? (lvX h.get? n [mainGlobals] ++ [cStatics])) = true := congrArg Prod.snd e
  have one : ∀ p ∈ tf, PySem.W.codeHdIn (He.frT h.get? (lvX h.get? n [mainGlobals] ++ [cStatics])) (He.cT (He.frT h.get? (lvX h.get? n [mainGlobals] ++ [cStatics])) p).1 (He.cT (He.frT h.get? (lvX h.get? n [mainGlobals] ++ [cStatics])) p).2 = true ∧ ∃ o, h.get? (He.cT (He.frT h.get? (lvX h.get? n [mainGlobals] ++ [cStatics])) p).2 = some o ∧ He.emptyTab o = true := by
    intro p hp
    obtain ⟨a1, a2⟩ := He.ba (List.all_eq_true.mp e2 p hp)
    refine ⟨a1, ?_⟩
    split at a2
    · rename_i o q
      exact ⟨o, q, a2⟩
    · cases a2
  refine ⟨e1, fun p hp => (one p hp).1, fun p hp => ?_, fun p hp => ?_⟩
  · obtain ⟨_, o, q, z⟩ := one p hp
    exact He.frT_none q z
  · obtain ⟨_, o, q, z⟩ := one p hp
    rw [q, He.emptyTab_eq z]
def hookT (n : Nat) (fx : List Fx) (fn : List He.DefD) (tf : List He.Defn) : PySem.W.Hook where
  α := He.AlD × Bool
  obs := fun s => obsTG n fx fn tf s.heap.get?
  val := fun _ => (He.valD fn, true)
  says := fun _ h => ∃ K : PySem.W.Frag, K.In h ∧ SaysT fx fn tf h K
  of := fun _ _ e => ⟨_, He.frT_in, saysT_of e⟩
  keeps := fun _ _ _ ⟨K, hK, c⟩ k => ⟨K, PySem.W.Frag.In.keeps hK k, ⟨c.s, c.hd, c.out, fun p hp => k _ _ (c.empty p hp)⟩⟩
def obTT (n : Nat) (fx : List Fx) (fn : List He.DefD) (tf : List He.Defn) (s : PySem.W.SharedT) : He.AlD × Bool := obsTG n fx fn tf (HandSHeadRun.getT s)
section
variable {K : PySem.W.Frag} {mg : Str → Option Value}
def ndB (ts : List Mk2) : Fx := fun K => decide (al0 K ts).Nodup
end
end G
namespace G
open PySem L2 PySem.Spec PyProof.Rows
end G
namespace G
open PySem L2 PySem.Spec
end G
namespace G
open PySem L2 PySem.Spec
end G
namespace G
open PySem L2 PySem.Spec PyProof.Rows
end G
namespace G
open PySem L2 PySem.Spec
end G
namespace G
open PySem L2 PySem.Spec
end G
namespace G
open PySem L2 PySem.Spec
end G
namespace G
open PySem L2 PySem.Spec PyProof.Rows
def tbAny : List (Nat → Option Bool) → Nat → Option Bool
  | [], _ => some false
  | t :: r, n => match t n, tbAny r n with
    | some a, some b => some (a || b)
    | _, _ => none
end G
namespace G
open PySem L2 PySem.Spec
section
variable {X : Cx} {W : WX} {a b c e o : Expr} {es : List Expr} {ma mb mc me : EM} {ta tb : TM} {pos : Pos} {x : Str} {p : Pos} {j k : Nat}
def KtOk (K : PySem.W.Frag) (mg : Str → Option Value) (tb : Nat → Option Bool) (u : Value) : Prop := ∀ cn C q, tb cn = some q → mg (cname cn) = some (.ref C) → ExcC K C ∧ PySem.W.kitOne K (.ref C) u = some q
inductive PCs (X : Cx) : List Expr → List V → List Value → Prop
  | nil : PCs X [] [] []
  | cons {T : Str} {p2 : Pos} {cv : V} {u : Value} {es : List Expr} {cs : List V} {us : List Value} (hT : PE X (.Name T p2) (tC cv)) (hcv : ClsV cv u) (hs : starEach (.Name T p2 :: es) X.env = (false, eval (.Name T p2) X.env) :: starEach es X.env) (r : PCs X es cs us) : PCs X (.Name T p2 :: es) (cv :: cs) (u :: us)
theorem PCs.cls {es : List Expr} {cs : List V} {us : List Value} (h : PCs X es cs us) : Paired ClsV cs us := by
  induction h with
  | nil => exact .nil
  | cons hT hcv hs r ih => exact .cons hcv ih
theorem PCs.len {es : List Expr} {cs : List V} {us : List Value} (h : PCs X es cs us) : cs.length = es.length := by
  induction h with
  | nil => rfl
  | cons hT hcv hs r ih => simp [ih]
inductive KtsOk (K : PySem.W.Frag) (mg : Str → Option Value) : List (Nat → Option Bool) → List Value → Prop
  | nil : KtsOk K mg [] []
  | cons {t : Nat → Option Bool} {c : Value} {ts : List (Nat → Option Bool)} {cs : List Value} (h : KtOk K mg t c) (r : KtsOk K mg ts cs) : KtsOk K mg (t :: ts) (c :: cs)
theorem KtsOk.exc {K : PySem.W.Frag} {mg : Str → Option Value} {t : Nat → Option Bool} {ts : List (Nat → Option Bool)} {cs : List Value} (h : KtsOk K mg (t :: ts) cs) {cn : Nat} {C : Addr} {q : Bool} (e : tbAny (t :: ts) cn = some q) (hC : mg (cname cn) = some (.ref C)) : ExcC K C := by
  cases h with
  | cons h r =>
    unfold tbAny at e
    split at e
    · rename_i b1 b2 e1 e2
      exact (h cn C b1 e1 hC).1
    · cases e
end
end G
namespace G
open PySem L2 PySem.Spec
section
variable {K : PySem.W.Frag}
def xoC (K : PySem.W.Frag) (C : Addr) (tl : List Value) (nw : String) (cd : ClassData) (sl : Array (Option Value)) : Bool := match cd.mro, sl.toList with
  | .ref C' :: bm, [_, _, _, _, some (.builtin n), _] => decide (C' = C) && (decide (n = nw) && (!cd.hasDel && (cd.hasDict && PySem.W.excTail tl bm)))
  | _, _ => false
def xoL (K : PySem.W.Frag) (C : Addr) (tl : List Value) (nw : String) : Bool := match K.lookup C with
  | some ⟨.type c, _, .cls cd, sl⟩ => decide (c = "type") && xoC K C tl nw cd sl
  | _ => false
def xoB (x : Str) (tl : List Value) (nw : String) : Fx := fun K => xoL K (He.ga K x) tl nw && (He.eqO (PySem.W.findIn K (.ref (He.ga K x)) "__setattr__") (some (some (.builtin "object.__setattr__"))) && (decide (PySem.W.subIn K (.ref (He.ga K x)) (.type "BaseException") = some true) && (decide (PySem.W.typeIn K (.ref (He.ga K x)) = some (.type "type")) && PySem.W.keepIn K (.ref (He.ga K x)))))
def iniB (x f : Str) : Fx := fun K => He.eqO (PySem.W.findIn K (.ref (He.ga K x)) "__init__") (some (some (.ref (He.fAd K (x, some "__init__"))))) && (decide (PySem.W.typeIn K (.ref (He.fAd K (x, some "__init__"))) = some (.type "function")) && He.eqO (PySem.W.findIn K (.ref (He.ga K x)) f) (some none))
def fcB (K : PySem.W.Frag) (C : Addr) (ini : String) : Bool := match PySem.W.findCls K (.ref C) (.type "type") "__init__" with
  | some (.val (.builtin n)) => decide (n = ini)
  | _ => false
def hdB (x : Str) (ini : String) : Fx := fun K => He.eqO (PySem.W.specialIn K (.ref (He.ga K x)) "__getattribute__") (some (some (.builtin "type.__getattribute__"))) && (PySem.W.readsIn K (He.ga K x) (.type "type") && (fcB K (He.ga K x) ini && PySem.W.handedIn (.builtin ini)))
def xcfB (f : Nat) (cs : List Nat) : Fx := fun K => cs.all fun n => oneGlo K (cname n) && (exqB K (He.ga K (cname n)) && He.eqO (PySem.W.findIn K (.ref (He.ga K (cname n))) (fname f)) (some none))
end
end G
namespace G
open PySem L2 PySem.Spec
end G
namespace G
open PySem L2
variable {X : Cx} {W : WX} {a b c o e : Expr} {es : List Expr} {pos : Pos} {ma mb : EM}
def strsD : List D → Option (List Str)
  | [] => some []
  | .str x :: l => (strsD l).map (x :: ·)
  | _ => none
theorem RepL.strs {K : PySem.W.Frag} {mg : Str → Option Value} {w : Wo} {l : List D} {vs : List V} {ys : List Str} (h : RepL K mg w l vs) (e : strsD l = some ys) : vs = ys.map V.str := by
  induction l generalizing vs ys with
  | nil => cases h; cases e; rfl
  | cons d l ih =>
    cases h with
    | cons r t =>
      cases d with
      | str x =>
        obtain ⟨zs, e1, rfl⟩ := Option.map_eq_some_iff.mp e
        cases r
        rw [ih t e1]; rfl
      | _ => cases e
end G
namespace G
open PySem L2 PySem.Spec
end G
namespace G
open PySem L2 PySem.Spec
end G
namespace G
open PySem L2 PySem.Spec
end G
namespace G
open PySem L2 PySem.Spec PyProof.Rows
end G
namespace G
open PySem L2 PySem.Spec PyProof.Rows
end G
namespace G
open PySem L2 PySem.Spec
end G
namespace G
open PySem L2 PySem.Spec
end G
namespace G
open PySem L2 PySem.Spec
end G
namespace G
open PySem L2 PySem.Spec PyProof.Rows SrtO
def IsFst (h : Heap) (v : Value) (x : Int) : Prop := ∃ a o t r n, v = .ref a ∧ h.get? a = some o ∧ o.cls = .type "tuple" ∧ o.data = .seq #[.int x t, r] n
theorem IsFst.keeps {h h' : Heap} {v : Value} {x : Int} (p : IsFst h v x) (k : ∀ b o, h.get? b = some o → o.cls = .type "tuple" → h'.get? b = some o) : IsFst h' v x := by
  obtain ⟨a, o, t, r, n, e, ho, hc, hd⟩ := p
  exact ⟨a, o, t, r, n, e, k _ _ ho hc, hc, hd⟩
def fstV (h : Heap) (v : Value) : Int := match v with
  | .ref a => match h.get? a with
    | some o => match o.data with
      | .seq its _ => match its[0]? with
        | some (Value.int i _) => i
        | _ => 0
      | _ => 0
    | _ => 0
  | _ => 0
theorem IsFst.val {h : Heap} {v : Value} {x : Int} (p : IsFst h v x) : fstV h v = x := by
  obtain ⟨a, o, t, r, n, rfl, ho, _, hd⟩ := p
  unfold fstV
  simp only [ho, hd]
  rfl
end G
namespace G
open PySem L2 PySem.Spec
end G
namespace G
open PySem L2 PySem.Spec
section
variable {X : Cx} {W : WX} {a b c e o f : Expr} {es : List Expr} {ma mb mc me : EM} {pos apos cpos tpos : Pos} {x : Str}
theorem RepK.zip {K : PySem.W.Frag} {mg : Str → Option Value} {w : Wo} : ∀ {ks : List Key} {ds : List D} {us : List V}, RepL K mg w ds us → RepK Key K mg w (ks.zip ds) (ks.zip us)
  | [], _, _, _ => by simp only [List.zip_nil_left]; exact .nil
  | _ :: _, _, _, .nil => .nil
  | k :: ks, _, _, .cons r t => .cons r (RepK.zip t)
end
end G
namespace G
open PySem L2 PySem.Spec PyProof.Rows PySem.SeqAt
end G
namespace G
open PySem L2 PySem.Spec PyProof.Rows PySem.SeqAt PySem.W
end G
namespace G
open PySem L2 PySem.Spec PyProof.Rows
end G
namespace G
open PySem L2 PySem.Spec PyProof.Rows
end G
namespace G
open PySem L2 PySem.Spec PyProof.Rows PySem.SeqAt
end G
namespace G
open PySem L2 PySem.Spec
end G
namespace G
open PySem PySem.W
theorem run_of {R : OpenRow} {q : Program} {H : Hook} {ob : SharedT → H.α} {M : Nat} {names : List Str} (hf : ∀ w : World, HandSHeadRun.RunEq R q H ob M names (w.withFollow "special-get-raises" false)) (ht : ∀ w : World, HandSHeadRun.RunEq R q H ob M names (w.withFollow "special-get-raises" true)) (w : World) :
    HandSHeadRun.RunEq R q H ob M names w := byRow2 "special-get-raises" (P := fun w => HandSHeadRun.RunEq R q H ob M names w) hf ht w
end G
namespace G
open PySem L2 PySem.Spec PyProof.Rows
end G
namespace G
open PySem PySem.W HandSHeadRun
def RunO (r : OpenRow) (H : Hook) (ob : SharedT → H.α) (M : Nat) (w : World) : Prop := ∀ os : OsState, (endF (stepQ (denQ tabQ) r.prog w) M r.prog w os).map (fun s => ob s) = some (H.val w)
def RunLS (r : OpenRow) (q : Program) (M : Nat) (loose : List Str) (w : World) : Prop := ∀ os : OsState, (endF (stepQ (denQ tabQ) r.prog w) M r.prog w os).map (fun s => (looksF r.prog (boot_heap w.params) s.abs, seenQ q loose (importedModules r.prog.main.body) (fun s => xlAt q [] s && recOk r.toRowW.records s) s.abs)) = some (true, openGood q loose)
theorem run_of2 {r : OpenRow} {q : Program} {H : Hook} {ob : SharedT → H.α} {M : Nat} {loose : List Str} {w : World} (h1 : RunLS r q M loose w) (h3 : RunO r H ob M w) : RunEq r q H ob M loose w := by
  intro os
  have a := h1 os
  have c := h3 os
  cases e : endF (stepQ (denQ tabQ) r.prog w) M r.prog w os with
  | none => rw [e] at a; cases a
  | some s =>
    rw [e] at a c
    rw [Option.map_some] at a c ⊢
    have a1 := congrArg Prod.fst (Option.some.inj a)
    have a2 := congrArg Prod.snd (Option.some.inj a)
    dsimp only at a1 a2
    rw [a1, a2, Option.some.inj c]
theorem obsX_app {fx1 fx2 : List Fx} {fn1 fn2 : List He.DefD} {K : PySem.W.Frag} (h1 : obsX fx1 fn1 K = He.valD fn1) (h2 : obsX fx2 fn2 K = He.valD fn2) : obsX (fx1 ++ fx2) (fn1 ++ fn2) K = He.valD (fn1 ++ fn2) := by
  unfold obsX He.valD at h1 h2 ⊢
  have a1 := congrArg Prod.fst h1
  have a2 := congrArg Prod.fst h2
  have b1 := congrArg Prod.snd h1
  have b2 := congrArg Prod.snd h2
  dsimp only at a1 a2 b1 b2
  rw [Bool.and_eq_true] at a1 a2
  refine Prod.ext ?_ ?_
  · dsimp only
    rw [List.all_append, List.all_append, a1.1, a1.2, a2.1, a2.2]; rfl
  · dsimp only
    rw [List.map_append, List.map_append, b1, b2]
end G
namespace G
open PySem L2 PySem.Spec PyProof.Rows
def eqOf (neg : Bool) (r : Res D) : Res D := r.bind fun y S1 => match y with
  | .bl b => .ok (.bl (if neg = true then !b else b)) S1
  | _ => .stuck
def eqO (neg : Bool) (cn : Nat) (f : FM) (gD : List D → List D → List D) (x y : D) (S : Store) : Res D := if isCn cn S x = true ∧ isCn cn S y = true then eqOf neg (f (gD [x, y] []) S) else .stuck
end G
namespace G
open PySem L2 PySem.Spec PyProof.Rows
end G
namespace G
open PySem L2 PySem.Spec PyProof.Rows
end G
namespace G
open PySem L2 PySem.Spec PyProof.Rows
inductive FsOk (P : Program) (w0 : World) (K : PySem.W.Frag) (mg : Str → Option Value) (base : Heap) (k : Nat) : List (Str × Str) → List (Str × Nat × FM) → Prop where
  | nil : FsOk P w0 K mg base k [] []
  | cons {z g : Str} {ps : List Str} {j : Nat} {f : FM} {ks : List (Str × Str)} {fs : List (Str × Nat × FM)} : Df P w0 K mg base g ps j f → j ≤ k → FsOk P w0 K mg base k ks fs → FsOk P w0 K mg base k ((z, g) :: ks) ((z, ps.length, f) :: fs)
theorem FsOk.get {P : Program} {w0 : World} {K : PySem.W.Frag} {mg : Str → Option Value} {base : Heap} {k : Nat} {ks : List (Str × Str)} {fs : List (Str × Nat × FM)} (h : FsOk P w0 K mg base k ks fs) {z : Str} {q : Nat × FM} (e : fs.lookup z = some q) :
    ∃ g ps j, ks.lookup z = some g ∧ j ≤ k ∧ ps.length = q.1 ∧ Df P w0 K mg base g ps j q.2 := by
  induction h with
  | nil => cases e
  | @cons z' g ps j f ks fs hF hj _ ih =>
    rw [List.lookup_cons] at e ⊢
    cases c : z == z' with
    | true =>
      rw [c] at e
      cases e
      exact ⟨g, ps, j, rfl, hj, rfl, hF⟩
    | false =>
      rw [c] at e
      exact ih e
end G
namespace G
open PySem L2 PySem.Spec PyProof.Rows
abbrev TabE : Type := Str × List Str
def SaysK (ts : List TabE) (w0 : World) (K : PySem.W.Frag) : Prop := ts.map (fun t => He.dicW K (He.ga K t.1)) = ts.map fun t => some (He.keysIn w0.params t.2)
def obsU (n : Nat) (fx : List Fx) (fn : List He.DefD) (tf : List He.Defn) (ts : List TabE) (g : Addr → Option Obj) : (He.AlD × Bool) × List (Option (List (Option (Str × Int)))) := (obsTG n fx fn tf g, ts.map fun t => He.dicW (He.frT g (lvX g n [mainGlobals] ++ [cStatics])) (He.ga (He.frT g (lvX g n [mainGlobals] ++ [cStatics])) t.1))
theorem saysK_of {n : Nat} {fx : List Fx} {fn : List He.DefD} {tf : List He.Defn} {ts : List TabE} {w0 : World} {g : Addr → Option Obj} {z : He.AlD × Bool} (e : obsU n fx fn tf ts g = (z, ts.map fun t => some (He.keysIn w0.params t.2))) : SaysK ts w0 (He.frT g (lvX g n [mainGlobals] ++ [cStatics])) := by
  have := congrArg Prod.snd e
  exact this
def hookU (n : Nat) (fx : List Fx) (fn : List He.DefD) (tf : List He.Defn) (ts : List TabE) : PySem.W.Hook where
  α := (He.AlD × Bool) × List (Option (List (Option (Str × Int))))
  obs := fun s => obsU n fx fn tf ts s.heap.get?
  val := fun w => ((He.valD fn, true), ts.map fun t => some (He.keysIn w.params t.2))
  says := fun w h => ∃ K : PySem.W.Frag, K.In h ∧ SaysT fx fn tf h K ∧ SaysK ts w K
  of := fun _ _ e => ⟨_, He.frT_in, saysT_of (congrArg Prod.fst e), saysK_of e⟩
  keeps := fun _ _ _ ⟨K, hK, c, d⟩ k => ⟨K, PySem.W.Frag.In.keeps hK k, ⟨c.s, c.hd, c.out, fun p hp => k _ _ (c.empty p hp)⟩, d⟩
def obUT (n : Nat) (fx : List Fx) (fn : List He.DefD) (tf : List He.Defn) (ts : List TabE) (s : PySem.W.SharedT) : (He.AlD × Bool) × List (Option (List (Option (Str × Int)))) := obsU n fx fn tf ts (HandSHeadRun.getT s)
section
open PySem.W HandSHeadRun
theorem runU_app {r : OpenRow} {n : Nat} {fx1 fx2 : List Fx} {fn1 fn2 : List He.DefD} {tf : List He.Defn} {ts : List TabE} {M : Nat} {w : World} (h1 : RunO r (hookU n fx1 fn1 tf ts) (obUT n fx1 fn1 tf ts) M w) (h2 : RunO r (hookT n fx2 fn2 []) (obTT n fx2 fn2 []) M w) : RunO r (hookU n (fx1 ++ fx2) (fn1 ++ fn2) tf ts) (obUT n (fx1 ++ fx2) (fn1 ++ fn2) tf ts) M w := by
  intro os
  have a := h1 os
  have b := h2 os
  cases e : endF (stepQ (denQ tabQ) r.prog w) M r.prog w os with
  | none => rw [e] at a; cases a
  | some s =>
    rw [e] at a b
    have a' : obUT n fx1 fn1 tf ts s = ((He.valD fn1, true), ts.map fun t => some (He.keysIn w.params t.2)) := Option.some.inj a
    have b' : obTT n fx2 fn2 [] s = (He.valD fn2, true) := Option.some.inj b
    have a0 : obTT n fx1 fn1 tf s = (He.valD fn1, true) := congrArg Prod.fst a'
    have a1 := congrArg Prod.fst a0
    have a2 := congrArg Prod.snd a0
    have b1 := congrArg Prod.fst b'
    have a3 := congrArg Prod.snd a'
    show some (obUT n (fx1 ++ fx2) (fn1 ++ fn2) tf ts s) = some ((He.valD (fn1 ++ fn2), true), ts.map fun t => some (He.keysIn w.params t.2))
    have c : obTT n (fx1 ++ fx2) (fn1 ++ fn2) tf s = (He.valD (fn1 ++ fn2), true) := Prod.ext (obsX_app a1 b1) a2
    exact congrArg some (Prod.ext c a3)
theorem runU_halves {r : OpenRow} {n : Nat} {fx : List Fx} {fn : List He.DefD} {tf : List He.Defn} {ts : List TabE} {M : Nat} {w : World} (k j : Nat) (h1 : RunO r (hookU n (fx.take k) (fn.take j) tf ts) (obUT n (fx.take k) (fn.take j) tf ts) M w) (h2 : RunO r (hookT n (fx.drop k) (fn.drop j) []) (obTT n (fx.drop k) (fn.drop j) []) M w) : RunO r (hookU n fx fn tf ts) (obUT n fx fn tf ts) M w := by
  have h := runU_app h1 h2
  rw [List.take_append_drop, List.take_append_drop] at h
  exact h
end
inductive TV where
  | strs (l : List Str)
  | int (i : Int)
def tvB (K : PySem.W.Frag) (u : Value) : TV → Bool
  | .strs l => match u with
    | .ref t => match K.lookup t with
      | some ⟨.type c, _, .seq its _, _⟩ => decide (c = "tuple") && (decide (its.size ≤ sizeLine) && He.relAll (l.map V.str) its.toList)
      | _ => false
    | _ => false
  | .int i => He.relB (.int i) u
def tabVB (x : Str) (kvs : List (Str × TV)) : Fx := fun K => kvs.all fun q => match PySem.W.nsIn K (He.ga K x) q.1 with
  | some (some u) => tvB K u q.2
  | _ => false
def tabGB (x : Str) (ks : List (Str × Str)) : Fx := fun K => ks.all fun q => match PySem.W.nsIn K (He.ga K x) q.1 with
  | some (some (.ref f)) => decide (f = He.ga K q.2)
  | _ => false
end G
namespace G
open PySem L2 PySem.Spec PyProof.Rows
end G
namespace G
open PySem L2 PySem.Spec PyProof.Rows RZ
end G
namespace G
open PySem L2 PySem.Spec
end G
namespace G
open PySem L2 PySem.Spec PyProof.Rows
end G
namespace G
open PySem L2 PySem.Spec PyProof.Rows
end G
namespace G
open PySem L2 PySem.Spec PyProof.Rows
end G
namespace G
open PySem L2 PySem.Spec PyProof.Rows
end G
namespace G
open PySem L2 PySem.Spec PyProof.Rows
open PySem.SeqAt
open AutoSeq1 (wpAny_loadPart')
end G
namespace Wk93
open PySem L2 G
noncomputable section
def topS (i : Nat) : Stmt := PySem.Challenge.pw_sharetags_k93_forms_of_logs.main.body.getD i (.Pass ⟨0, 0, 0, 0⟩)
abbrev s__law_take : Stmt := topS 44
abbrev s__law_odd_part : Stmt := topS 59
abbrev s__law_bent_log : Stmt := topS 60
abbrev s__law_cell : Stmt := topS 42
abbrev s__law_r : Stmt := topS 45
abbrev s__law_add : Stmt := topS 46
abbrev s__law_moment : Stmt := topS 50
abbrev s__law_name : Stmt := topS 48
abbrev s__law_rate : Stmt := topS 49
abbrev s__law_drawn_log : Stmt := topS 58
abbrev s__law_pool : Stmt := topS 43
abbrev s_is_whole : Stmt := topS 8
abbrev s_shared : Stmt := topS 9
abbrev s_is_ratio : Stmt := topS 10
abbrev s_check_ratio : Stmt := topS 11
abbrev s_check_two : Stmt := topS 12
abbrev s_is_before : Stmt := topS 13
abbrev s_is_rate : Stmt := topS 16
abbrev s_is_time : Stmt := topS 15
abbrev s_is_least : Stmt := topS 25
abbrev s_is_most : Stmt := topS 26
abbrev s_is_name : Stmt := topS 20
abbrev s_is_within : Stmt := topS 24
abbrev s_is_size : Stmt := topS 28
abbrev s_is_way : Stmt := topS 29
abbrev s_is_weight : Stmt := topS 27
abbrev s_is_part : Stmt := topS 32
abbrev s_is_row : Stmt := topS 33
abbrev s_first_odd : Stmt := topS 34
abbrev s_check_forms : Stmt := topS 36
abbrev s_show_ratio : Stmt := topS 14
abbrev s_show_part : Stmt := topS 38
abbrev s_show_row : Stmt := topS 39
abbrev s_show_log : Stmt := topS 40
abbrev s__law_refused : Stmt := topS 61
abbrev s__law_less : Stmt := topS 47
abbrev s__law_name_so : Stmt := topS 54
abbrev s__law_ratio_so : Stmt := topS 51
abbrev s__law_rate_so : Stmt := topS 52
abbrev s__law_whole_so : Stmt := topS 53
abbrev s__law_part_so : Stmt := topS 55
abbrev s__law_row_so : Stmt := topS 56
abbrev s__law_odd_row : Stmt := topS 57
abbrev s_is_log : Stmt := topS 35
abbrev s__law_thing_right : Stmt := topS 62
abbrev s_law : Stmt := topS 63
abbrev tsL : List Mk2 := []
abbrev tg_LOOKS : List (Str × Str) := [("name", "is_name"), ("least", "is_least"), ("most", "is_most"), ("weight", "is_weight"), ("size", "is_size"), ("way", "is_way")]
abbrev tv_PARTS : List (Str × TV) := [("join", .strs ["name", "least", "most", "weight"]), ("ask", .strs ["name", "size"]), ("leave", .strs ["name"]), ("least", .strs ["name", "least"]), ("most", .strs ["name", "most"]), ("weight", .strs ["name", "weight"]), ("serve", .strs ["name", "size", "way"]), ("now", .strs [])]
abbrev tdL : List TabE := [("LOOKS", ["name", "least", "most", "weight", "size", "way"]), ("PARTS", ["join", "ask", "leave", "least", "most", "weight", "serve", "now"])]
abbrev s_NoLog___init__ : Stmt := clsSt (topS 6) 0
def d__law_take : He.DefD := ⟨("_law_take", none), "_law_take", "_law_take", defArgs s__law_take, defBody s__law_take, defScope s__law_take, [], []⟩
def d__law_odd_part : He.DefD := ⟨("_law_odd_part", none), "_law_odd_part", "_law_odd_part", defArgs s__law_odd_part, defBody s__law_odd_part, defScope s__law_odd_part, [], []⟩
def d__law_bent_log : He.DefD := ⟨("_law_bent_log", none), "_law_bent_log", "_law_bent_log", defArgs s__law_bent_log, defBody s__law_bent_log, defScope s__law_bent_log, [], []⟩
def d__law_cell : He.DefD := ⟨("_law_cell", none), "_law_cell", "_law_cell", defArgs s__law_cell, defBody s__law_cell, defScope s__law_cell, [], []⟩
def d__law_r : He.DefD := ⟨("_law_r", none), "_law_r", "_law_r", defArgs s__law_r, defBody s__law_r, defScope s__law_r, [], []⟩
def d__law_add : He.DefD := ⟨("_law_add", none), "_law_add", "_law_add", defArgs s__law_add, defBody s__law_add, defScope s__law_add, [], []⟩
def d__law_moment : He.DefD := ⟨("_law_moment", none), "_law_moment", "_law_moment", defArgs s__law_moment, defBody s__law_moment, defScope s__law_moment, [], []⟩
def d__law_name : He.DefD := ⟨("_law_name", none), "_law_name", "_law_name", defArgs s__law_name, defBody s__law_name, defScope s__law_name, [], []⟩
def d__law_rate : He.DefD := ⟨("_law_rate", none), "_law_rate", "_law_rate", defArgs s__law_rate, defBody s__law_rate, defScope s__law_rate, [], []⟩
def d__law_drawn_log : He.DefD := ⟨("_law_drawn_log", none), "_law_drawn_log", "_law_drawn_log", defArgs s__law_drawn_log, defBody s__law_drawn_log, defScope s__law_drawn_log, [], []⟩
def d__law_pool : He.DefD := ⟨("_law_pool", none), "_law_pool", "_law_pool", defArgs s__law_pool, defBody s__law_pool, defScope s__law_pool, [], []⟩
def d_is_whole : He.DefD := ⟨("is_whole", none), "is_whole", "is_whole", defArgs s_is_whole, defBody s_is_whole, defScope s_is_whole, [], []⟩
def d_shared : He.DefD := ⟨("shared", none), "shared", "shared", defArgs s_shared, defBody s_shared, defScope s_shared, [], []⟩
def d_is_ratio : He.DefD := ⟨("is_ratio", none), "is_ratio", "is_ratio", defArgs s_is_ratio, defBody s_is_ratio, defScope s_is_ratio, [], []⟩
def d_check_ratio : He.DefD := ⟨("check_ratio", none), "check_ratio", "check_ratio", defArgs s_check_ratio, defBody s_check_ratio, defScope s_check_ratio, [], []⟩
def d_check_two : He.DefD := ⟨("check_two", none), "check_two", "check_two", defArgs s_check_two, defBody s_check_two, defScope s_check_two, [], []⟩
def d_is_before : He.DefD := ⟨("is_before", none), "is_before", "is_before", defArgs s_is_before, defBody s_is_before, defScope s_is_before, [], []⟩
def d_is_rate : He.DefD := ⟨("is_rate", none), "is_rate", "is_rate", defArgs s_is_rate, defBody s_is_rate, defScope s_is_rate, [], []⟩
def d_is_time : He.DefD := ⟨("is_time", none), "is_time", "is_time", defArgs s_is_time, defBody s_is_time, defScope s_is_time, [], []⟩
def d_is_least : He.DefD := ⟨("is_least", none), "is_least", "is_least", defArgs s_is_least, defBody s_is_least, defScope s_is_least, [], []⟩
def d_is_most : He.DefD := ⟨("is_most", none), "is_most", "is_most", defArgs s_is_most, defBody s_is_most, defScope s_is_most, [], []⟩
def d_is_name : He.DefD := ⟨("is_name", none), "is_name", "is_name", defArgs s_is_name, defBody s_is_name, defScope s_is_name, [], []⟩
def d_is_within : He.DefD := ⟨("is_within", none), "is_within", "is_within", defArgs s_is_within, defBody s_is_within, defScope s_is_within, [], []⟩
def d_is_size : He.DefD := ⟨("is_size", none), "is_size", "is_size", defArgs s_is_size, defBody s_is_size, defScope s_is_size, [], []⟩
def d_is_way : He.DefD := ⟨("is_way", none), "is_way", "is_way", defArgs s_is_way, defBody s_is_way, defScope s_is_way, [], []⟩
def d_is_weight : He.DefD := ⟨("is_weight", none), "is_weight", "is_weight", defArgs s_is_weight, defBody s_is_weight, defScope s_is_weight, [], []⟩
def d_is_part : He.DefD := ⟨("is_part", none), "is_part", "is_part", defArgs s_is_part, defBody s_is_part, defScope s_is_part, [], []⟩
def d_is_row : He.DefD := ⟨("is_row", none), "is_row", "is_row", defArgs s_is_row, defBody s_is_row, defScope s_is_row, [], []⟩
def d_first_odd : He.DefD := ⟨("first_odd", none), "first_odd", "first_odd", defArgs s_first_odd, defBody s_first_odd, defScope s_first_odd, [], []⟩
def d_check_forms : He.DefD := ⟨("check_forms", none), "check_forms", "check_forms", defArgs s_check_forms, defBody s_check_forms, defScope s_check_forms, [], []⟩
def d_show_ratio : He.DefD := ⟨("show_ratio", none), "show_ratio", "show_ratio", defArgs s_show_ratio, defBody s_show_ratio, defScope s_show_ratio, [], []⟩
def d_show_part : He.DefD := ⟨("show_part", none), "show_part", "show_part", defArgs s_show_part, defBody s_show_part, defScope s_show_part, [], []⟩
def d_show_row : He.DefD := ⟨("show_row", none), "show_row", "show_row", defArgs s_show_row, defBody s_show_row, defScope s_show_row, [], []⟩
def d_show_log : He.DefD := ⟨("show_log", none), "show_log", "show_log", defArgs s_show_log, defBody s_show_log, defScope s_show_log, [], []⟩
def d__law_refused : He.DefD := ⟨("_law_refused", none), "_law_refused", "_law_refused", defArgs s__law_refused, defBody s__law_refused, defScope s__law_refused, [], []⟩
def d__law_less : He.DefD := ⟨("_law_less", none), "_law_less", "_law_less", defArgs s__law_less, defBody s__law_less, defScope s__law_less, [], []⟩
def d__law_name_so : He.DefD := ⟨("_law_name_so", none), "_law_name_so", "_law_name_so", defArgs s__law_name_so, defBody s__law_name_so, defScope s__law_name_so, [], []⟩
def d__law_ratio_so : He.DefD := ⟨("_law_ratio_so", none), "_law_ratio_so", "_law_ratio_so", defArgs s__law_ratio_so, defBody s__law_ratio_so, defScope s__law_ratio_so, [], []⟩
def d__law_rate_so : He.DefD := ⟨("_law_rate_so", none), "_law_rate_so", "_law_rate_so", defArgs s__law_rate_so, defBody s__law_rate_so, defScope s__law_rate_so, [], []⟩
def d__law_whole_so : He.DefD := ⟨("_law_whole_so", none), "_law_whole_so", "_law_whole_so", defArgs s__law_whole_so, defBody s__law_whole_so, defScope s__law_whole_so, [], []⟩
def d__law_part_so : He.DefD := ⟨("_law_part_so", none), "_law_part_so", "_law_part_so", defArgs s__law_part_so, defBody s__law_part_so, defScope s__law_part_so, [], []⟩
def d__law_row_so : He.DefD := ⟨("_law_row_so", none), "_law_row_so", "_law_row_so", defArgs s__law_row_so, defBody s__law_row_so, defScope s__law_row_so, [], []⟩
def d__law_odd_row : He.DefD := ⟨("_law_odd_row", none), "_law_odd_row", "_law_odd_row", defArgs s__law_odd_row, defBody s__law_odd_row, defScope s__law_odd_row, [], []⟩
def d_is_log : He.DefD := ⟨("is_log", none), "is_log", "is_log", defArgs s_is_log, defBody s_is_log, defScope s_is_log, [], []⟩
def d__law_thing_right : He.DefD := ⟨("_law_thing_right", none), "_law_thing_right", "_law_thing_right", defArgs s__law_thing_right, defBody s__law_thing_right, defScope s__law_thing_right, [], []⟩
def d_law : He.DefD := ⟨("law", none), "law", "law", defArgs s_law, defBody s_law, defScope s_law, [], []⟩
def d_NoLog___init__ : He.DefD := ⟨("NoLog", some "__init__"), "__init__", "NoLog.__init__", defArgs s_NoLog___init__, defBody s_NoLog___init__, defScope s_NoLog___init__, [], []⟩
def fnAll : List He.DefD := [d__law_take, d__law_odd_part, d__law_bent_log, d__law_cell, d__law_r, d__law_add, d__law_moment, d__law_name, d__law_rate, d__law_drawn_log, d__law_pool, d_is_whole, d_shared, d_is_ratio, d_check_ratio, d_check_two, d_is_before, d_is_rate, d_is_time, d_is_least, d_is_most, d_is_name, d_is_within, d_is_size, d_is_way, d_is_weight, d_is_part, d_is_row, d_first_odd, d_check_forms, d_show_ratio, d_show_part, d_show_row, d_show_log, d__law_refused, d__law_less, d__law_name_so, d__law_ratio_so, d__law_rate_so, d__law_whole_so, d__law_part_so, d__law_row_so, d__law_odd_row, d_is_log, d__law_thing_right, d_law, d_NoLog___init__]
def fx_0 : Fx := freesB [("ValueError" : Str), ("abs" : Str), ("all" : Str), ("bool" : Str), ("divmod" : Str), ("enumerate" : Str), ("int" : Str), ("isinstance" : Str), ("len" : Str), ("list" : Str), ("max" : Str), ("min" : Str), ("range" : Str), ("str" : Str), ("tuple" : Str), ("zip" : Str)]
def fx_1 : Fx := glosB [("LOOKS" : Str), ("PARTS" : Str), ("_law_take" : Str), ("_law_odd_part" : Str), ("_law_bent_log" : Str), ("_law_cell" : Str), ("_law_r" : Str), ("_law_add" : Str), ("_law_moment" : Str), ("_law_name" : Str), ("_law_rate" : Str), ("_law_drawn_log" : Str), ("_law_pool" : Str), ("is_whole" : Str), ("shared" : Str), ("is_ratio" : Str), ("check_ratio" : Str), ("check_two" : Str), ("is_before" : Str), ("is_rate" : Str)]
def fx_2 : Fx := glosB [("is_time" : Str), ("is_least" : Str), ("is_most" : Str), ("is_name" : Str), ("is_within" : Str), ("is_size" : Str), ("is_way" : Str), ("is_weight" : Str), ("is_part" : Str), ("is_row" : Str), ("first_odd" : Str), ("check_forms" : Str), ("show_ratio" : Str), ("show_part" : Str), ("show_row" : Str), ("show_log" : Str), ("_law_refused" : Str), ("_law_less" : Str), ("_law_name_so" : Str), ("_law_ratio_so" : Str)]
def fx_3 : Fx := glosB [("_law_rate_so" : Str), ("_law_whole_so" : Str), ("_law_part_so" : Str), ("_law_row_so" : Str), ("_law_odd_row" : Str), ("is_log" : Str), ("_law_thing_right" : Str), ("law" : Str), ("NONE" : Str), ("LostError" : Str), ("NoLog" : Str), ("NoRatio" : Str), ("ShareError" : Str), ("TagError" : Str)]
def fx_4 : Fx := strB "LETTERS" "abcdefghijklmnopqrstuvwxyz"
def fx_5 : Fx := intB "MOST_LETTERS" 8
def fx_6 : Fx := intB "MOST_SIZE" 999
def fx_7 : Fx := intB "MOST_WEIGHT" 99
def fx_8 : Fx := tupX "NONE" [.int 0, .int 1]
def fx_9 : Fx := xoB "NoLog" bmValueError "ValueError.__new__"
def fx_10 : Fx := iniB "NoLog" "row"
def fx_11 : Fx := hdB "TagError" "ValueError.__init__"
def fx_12 : Fx := xcfB 4 [17]
def fx_13 : Fx := xcoB "NoRatio" bmValueError "ValueError.__new__"
def fx_14 : Fx := exsB [3, 17]
def fx_15 : Fx := kitB (fun K => .ref (He.ga K "LostError")) ([3, 17].map fun n => (n, subC n 1))
def fx_16 : Fx := kitB (fun K => .ref (He.ga K "NoLog")) ([3, 17].map fun n => (n, subC n 17))
def fx_17 : Fx := kitB (fun K => .ref (He.ga K "ShareError")) ([3, 17].map fun n => (n, subC n 2))
def fx_18 : Fx := kitB (fun _ => .type "ValueError") ([3, 17].map fun n => (n, subC n 100))
def fx_19 : Fx := exmB "TagError" ([3, 17].map fun n => (n, subC n 0))
def fx_20 : Fx := ndB tsL
def fx_21 : Fx := tabGB "LOOKS" tg_LOOKS
def fx_22 : Fx := tabVB "PARTS" tv_PARTS
def fxAll : List Fx := [fx_0, fx_1, fx_2, fx_3, fx_4, fx_5, fx_6, fx_7, fx_8, fx_9, fx_10, fx_11, fx_12, fx_13, fx_14, fx_15, fx_16, fx_17, fx_18, fx_19, fx_20, fx_21, fx_22]
abbrev R : PySem.W.OpenRow := PySem.W.OpenLaw.row PySem.Challenge.rw_sharetags_k93_forms_of_logs
abbrev qv : Program := PySem.W.view R.prog [63]
def nm_0 : List Str := [("NONE" : Str), ("TagError" : Str), ("LostError" : Str), ("ShareError" : Str), ("NoRatio" : Str), ("NoLog" : Str), ("is_whole" : Str), ("shared" : Str), ("is_ratio" : Str), ("check_ratio" : Str), ("check_two" : Str), ("is_before" : Str), ("show_ratio" : Str), ("is_time" : Str), ("is_rate" : Str), ("LETTERS" : Str), ("MOST_LETTERS" : Str), ("is_name" : Str), ("MOST_WEIGHT" : Str), ("MOST_SIZE" : Str)]
def nm_1 : List Str := [("is_within" : Str), ("is_least" : Str), ("is_most" : Str), ("is_weight" : Str), ("is_size" : Str), ("is_way" : Str), ("LOOKS" : Str), ("PARTS" : Str), ("is_part" : Str), ("is_row" : Str), ("first_odd" : Str), ("is_log" : Str), ("check_forms" : Str), ("show_part" : Str), ("show_row" : Str), ("show_log" : Str), ("_law_cell" : Str), ("_law_pool" : Str), ("_law_take" : Str), ("_law_r" : Str)]
def nm_2 : List Str := [("_law_add" : Str), ("_law_less" : Str), ("_law_name" : Str), ("_law_rate" : Str), ("_law_moment" : Str), ("_law_ratio_so" : Str), ("_law_rate_so" : Str), ("_law_whole_so" : Str), ("_law_name_so" : Str), ("_law_part_so" : Str), ("_law_row_so" : Str), ("_law_odd_row" : Str), ("_law_drawn_log" : Str), ("_law_odd_part" : Str), ("_law_bent_log" : Str), ("_law_refused" : Str), ("_law_thing_right" : Str)]
def nmAll : List Str := nm_0 ++ nm_1 ++ nm_2
end
end Wk93
namespace Wk93
open PySem L2 G PySem.W PySem.Calls PyProof.Rows
set_option maxRecDepth 100000 in
set_option maxHeartbeats 0 in
theorem rls_false (w : World) : RunLS R qv 100000 nmAll (w.withFollow "special-get-raises" false) := by
  intro os
  kernel_rfl
set_option maxRecDepth 100000 in
set_option maxHeartbeats 0 in
theorem ro1_false (w : World) : RunO R (hookU 5 (fxAll.take 12) (fnAll.take 24) (tsL.map (·.1)) tdL) (obUT 5 (fxAll.take 12) (fnAll.take 24) (tsL.map (·.1)) tdL) 100000 (w.withFollow "special-get-raises" false) := by
  intro os
  kernel_rfl
set_option maxRecDepth 100000 in
set_option maxHeartbeats 0 in
theorem ro2_false (w : World) : RunO R (hookT 5 (fxAll.drop 12) (fnAll.drop 24) []) (obTT 5 (fxAll.drop 12) (fnAll.drop 24) []) 100000 (w.withFollow "special-get-raises" false) := by
  intro os
  kernel_rfl
theorem run_false (w : World) : HandSHeadRun.RunEq R qv (hookU 5 fxAll fnAll (tsL.map (·.1)) tdL) (obUT 5 fxAll fnAll (tsL.map (·.1)) tdL) 100000 nmAll (w.withFollow "special-get-raises" false) := run_of2 (rls_false w) (runU_halves 12 24 (ro1_false w) (ro2_false w))
set_option maxRecDepth 100000 in
set_option maxHeartbeats 0 in
theorem rls_true (w : World) : RunLS R qv 100000 nmAll (w.withFollow "special-get-raises" true) := by
  intro os
  kernel_rfl
set_option maxRecDepth 100000 in
set_option maxHeartbeats 0 in
theorem ro1_true (w : World) : RunO R (hookU 5 (fxAll.take 12) (fnAll.take 24) (tsL.map (·.1)) tdL) (obUT 5 (fxAll.take 12) (fnAll.take 24) (tsL.map (·.1)) tdL) 100000 (w.withFollow "special-get-raises" true) := by
  intro os
  kernel_rfl
set_option maxRecDepth 100000 in
set_option maxHeartbeats 0 in
theorem ro2_true (w : World) : RunO R (hookT 5 (fxAll.drop 12) (fnAll.drop 24) []) (obTT 5 (fxAll.drop 12) (fnAll.drop 24) []) 100000 (w.withFollow "special-get-raises" true) := by
  intro os
  kernel_rfl
theorem run_true (w : World) : HandSHeadRun.RunEq R qv (hookU 5 fxAll fnAll (tsL.map (·.1)) tdL) (obUT 5 fxAll fnAll (tsL.map (·.1)) tdL) 100000 nmAll (w.withFollow "special-get-raises" true) := run_of2 (rls_true w) (runU_halves 12 24 (ro1_true w) (ro2_true w))
theorem run (w : World) : HandSHeadRun.RunEq R qv (hookU 5 fxAll fnAll (tsL.map (·.1)) tdL) (obUT 5 fxAll fnAll (tsL.map (·.1)) tdL) 100000 nmAll w := G.run_of run_false run_true w
end Wk93
set_option Elab.async false
set_option linter.all false
set_option maxRecDepth 100000
set_option maxHeartbeats 8000000
namespace G
open PySem L2
theorem Fz.same {w w' : Wo} (h1 : w'.st = w.st) (h2 : w'.hp = w.hp) : Fz w w' := fun _ _ _ _ h _ => ⟨by rw [h1]; exact h, by rw [h2]⟩
theorem Ex0.refl (w : Wo) : Ex0 w w := ⟨⟨[], by simp⟩, fun _ h => .inl h, fun _ _ h _ => h, fun _ o h => ⟨o, h⟩⟩
theorem Ext.refl (w : Wo) : Ext w w := ⟨Ex0.refl w, rfl, fun _ _ => rfl, Fz.same rfl rfl⟩
variable {K : PySem.W.Frag} {mg : Str → Option Value} {w w' : Wo}
theorem RepL.getV {l : List D} {vs : List V} {i : Nat} {v : V} : RepL K mg w l vs → vs[i]? = some v → ∃ d, l[i]? = some d ∧ RepD K mg w d v
  | .nil, h => by simp at h
  | .cons r t, h => by
    cases i with
    | zero => simp at h; subst h; exact ⟨_, by simp, r⟩
    | succ i =>
      obtain ⟨v, e, q⟩ := RepL.getV (i := i) t (by simpa using h)
      exact ⟨v, by simpa using e, q⟩
theorem RepL.append {l m : List D} {vs us : List V} : RepL K mg w l vs → RepL K mg w m us → RepL K mg w (l ++ m) (vs ++ us)
  | .nil, h => h
  | .cons r t, h => .cons r (RepL.append t h)
theorem nd_get {l : List Addr} (h : l.Nodup) {n m : Nat} {a : Addr} (e : l[n]? = some a) (f : l[m]? = some a) : n = m := by
  obtain ⟨h1, e1⟩ := List.getElem?_eq_some_iff.mp e
  obtain ⟨h2, e2⟩ := List.getElem?_eq_some_iff.mp f
  exact (List.getElem_inj h).mp (e1.trans e2.symm)
def Wo.put (w : Wo) (p : Addr) (o : HO) : Wo := { w with hp := upd w.hp p o }
theorem Rep.not_mem (R : Rep K mg w) {p : Addr} (hn : w.hp p = none) : p ∉ w.al := fun h => by
  obtain ⟨o, e⟩ := R.tr p h
  rw [hn] at e; cases e
theorem Rep.not_hid (R : Rep K mg w) {p : Addr} (hn : w.hp p = none) : p ∉ w.hid := fun h => by
  obtain ⟨_, o, e⟩ := R.hid p h
  rw [hn] at e; cases e
theorem put_ext (R : Rep K mg w) {p : Addr} {o : HO} (hn : w.hp p = none) : Ext w (w.put p o) := by
  refine ⟨⟨⟨[], by simp [Wo.put]⟩, fun a h => .inl h, fun a u h _ => ?_, fun a u h => ⟨u, ?_⟩⟩, rfl, fun a h => ?_, fun n a c h1 h2 _ => ⟨h2, ?_⟩⟩
  · show upd w.hp p o a = _
    rw [upd_ne (ne_of_none h hn)]; exact h
  · show upd w.hp p o a = _
    rw [upd_ne (ne_of_none h hn)]; exact h
  · show upd w.hp p o a = _
    exact upd_ne fun e => R.not_hid hn (e ▸ h)
  · show upd w.hp p o a = _
    exact upd_ne fun e => R.not_mem hn (e ▸ List.mem_of_getElem? h1)
theorem Rep.put (R : Rep K mg w) {p : Addr} {o : HO} (hn : w.hp p = none) : Rep K mg (w.put p o) := by
  have X := put_ext (o := o) R hn
  refine ⟨R.len, R.nd, fun a h => ?_, fun n a c h1 h2 => ?_, fun a h => ?_⟩
  · obtain ⟨u, e⟩ := R.tr a h
    exact X.tr a u e
  · have hm : a ∈ w.al := List.mem_of_getElem? h1
    refine (R.cell n a c h1 h2).ext X.toEx0 ?_
    show upd w.hp p o a = _
    exact upd_ne fun z => R.not_mem hn (z ▸ hm)
  · obtain ⟨h1, u, e⟩ := R.hid a h
    exact ⟨h1, X.tr a u e⟩
theorem put_st (R : Rep K mg w) {p : Addr} {o : HO} (hn : w.hp p = none) : StP (w.put p o) p o := by
  refine ⟨upd_same, fun z => ?_⟩
  rcases z with ⟨n, c, h1, _, _⟩ | z
  · exact R.not_mem hn (List.mem_of_getElem? h1)
  · exact R.not_hid hn z
theorem StP.o {w : Wo} {a : Addr} {u : HO} (h : StP w a u) : StO w a u := ⟨.inl h.1, h.2⟩
def Wo.new (w : Wo) (p : Addr) (o : HO) (c : Cell) : Wo := ⟨w.al ++ [p], w.st ++ [c], upd w.hp p o, w.hid⟩
theorem new_ext (R : Rep K mg w) {p : Addr} {o : HO} {c : Cell} (hn : w.hp p = none) : Ext w (w.new p o c) := by
  refine ⟨⟨⟨[p], rfl⟩, fun a h => ?_, fun a u h _ => ?_, fun a u h => ⟨u, ?_⟩⟩, rfl, fun a h => ?_, fun n a c' h1 h2 _ => ⟨?_, ?_⟩⟩
  · rcases h with h | h
    · obtain ⟨n, c', h1, h2, h3⟩ := h
      have h1 : (w.al ++ [p])[n]? = some a := h1
      have h2 : (w.st ++ [c])[n]? = some c' := h2
      by_cases hl : n < w.al.length
      · rw [List.getElem?_append_left hl] at h1
        rw [List.getElem?_append_left (by rw [← R.len]; exact hl)] at h2
        exact .inl (.inl ⟨n, c', h1, h2, h3⟩)
      · rw [List.getElem?_append_right (by omega)] at h1
        have e : n - w.al.length = 0 := by
          rcases List.getElem?_eq_some_iff.mp h1 with ⟨q, _⟩
          simp at q; omega
        rw [e] at h1
        simp at h1
        subst h1
        exact .inr hn
    · exact .inl (.inr h)
  · show upd w.hp p o a = _
    rw [upd_ne (ne_of_none h hn)]; exact h
  · show upd w.hp p o a = _
    rw [upd_ne (ne_of_none h hn)]; exact h
  · show upd w.hp p o a = _
    exact upd_ne fun e => R.not_hid hn (e ▸ h)
  · show (w.st ++ [c])[n]? = _
    rw [List.getElem?_append_left (List.getElem?_eq_some_iff.mp h2).1]; exact h2
  · show upd w.hp p o a = _
    exact upd_ne fun e => R.not_mem hn (e ▸ List.mem_of_getElem? h1)
theorem new_get (R : Rep K mg w) {p : Addr} {o : HO} {c : Cell} : (w.new p o c).al[w.st.length]? = some p := by
  show (w.al ++ [p])[w.st.length]? = _
  rw [← R.len]; simp
theorem Rep.new (R : Rep K mg w) {p : Addr} {o : HO} {c : Cell} (hn : w.hp p = none) (hc : CellR K mg (w.new p o c) p c) : Rep K mg (w.new p o c) := by
  have X := new_ext (o := o) (c := c) R hn
  refine ⟨?_, ?_, fun a h => ?_, fun n a c' h1 h2 => ?_, fun a h => ?_⟩
  · show (w.al ++ [p]).length = (w.st ++ [c]).length
    rw [List.length_append, List.length_append, R.len]; rfl
  · show (w.al ++ [p]).Nodup
    rw [List.nodup_append]
    refine ⟨R.nd, by simp, fun a ha b hb => ?_⟩
    simp at hb; subst hb
    exact fun z => R.not_mem hn (z ▸ ha)
  · have h : a ∈ w.al ++ [p] := h
    rcases List.mem_append.mp h with h | h
    · obtain ⟨u, e⟩ := R.tr a h
      exact X.tr a u e
    · simp at h; subst h
      exact ⟨o, upd_same⟩
  · have h1 : (w.al ++ [p])[n]? = some a := h1
    have h2 : (w.st ++ [c])[n]? = some c' := h2
    by_cases hl : n < w.al.length
    · rw [List.getElem?_append_left hl] at h1
      rw [List.getElem?_append_left (by rw [← R.len]; exact hl)] at h2
      refine (R.cell n a c' h1 h2).ext X.toEx0 ?_
      show upd w.hp p o a = _
      exact upd_ne fun z => R.not_mem hn (z ▸ List.mem_of_getElem? h1)
    · rw [List.getElem?_append_right (by omega)] at h1
      rw [List.getElem?_append_right (by rw [← R.len]; omega)] at h2
      have e : n - w.al.length = 0 := by
        rcases List.getElem?_eq_some_iff.mp h1 with ⟨q, _⟩
        simp at q; omega
      rw [← R.len, e] at h2
      rw [e] at h1
      simp at h1 h2
      subst h1; subst h2
      exact hc
  · obtain ⟨h1, u, e⟩ := R.hid a h
    refine ⟨fun z => ?_, X.tr a u e⟩
    rcases List.mem_append.mp (show a ∈ w.al ++ [p] from z) with z | z
    · exact h1 z
    · simp at z; subst z
      rw [hn] at e; cases e
def Wo.wr (w : Wo) (n : Nat) (a : Addr) (o : HO) (c : Cell) : Wo := ⟨w.al, w.st.set n c, upd w.hp a o, w.hid⟩
theorem wr_ex0 {n : Nat} {a : Addr} {o : HO} {c c0 : Cell} (h1 : w.al[n]? = some a) (h2 : w.st[n]? = some c0) (h3 : c0 ≠ .dead) : Ex0 w (w.wr n a o c) := by
  have za : Zl w a := .inl ⟨n, c0, h1, h2, h3⟩
  refine ⟨⟨[], by simp [Wo.wr]⟩, fun b h => ?_, fun b u h z => ?_, fun b u h => ?_⟩
  · rcases h with h | h
    · obtain ⟨m, c', g1, g2, g3⟩ := h
      have g2 : (w.st.set n c)[m]? = some c' := g2
      by_cases e : m = n
      · subst e
        have g1 : w.al[m]? = some b := g1
        rw [h1] at g1; cases g1
        exact .inl za
      · rw [List.getElem?_set_ne (Ne.symm e)] at g2
        exact .inl (.inl ⟨m, c', g1, g2, g3⟩)
    · exact .inl (.inr h)
  · show upd w.hp a o b = _
    rw [upd_ne fun e : b = a => z (by rw [e]; exact za)]; exact h
  · by_cases e : b = a
    · subst e; exact ⟨o, upd_same⟩
    · exact ⟨u, by show upd w.hp a o b = _; rw [upd_ne e]; exact h⟩
theorem wr_ext (R : Rep K mg w) {n : Nat} {a : Addr} {o : HO} {c c0 : Cell} (h1 : w.al[n]? = some a) (h2 : w.st[n]? = some c0) (h3 : c0 ≠ .dead) (hz : c0.frz = false := by rfl) : Ext w (w.wr n a o c) := by
  refine ⟨wr_ex0 h1 h2 h3, rfl, fun b h => ?_, fun m b c' g1 g2 g3 => ?_⟩
  · show upd w.hp a o b = _
    exact upd_ne fun e => (R.hid b h).1 (e ▸ List.mem_of_getElem? h1)
  · have e : m ≠ n := fun z => by
      subst z
      rw [h2] at g2; cases g2
      rw [hz] at g3; cases g3
    refine ⟨?_, ?_⟩
    · show (w.st.set n c)[m]? = _
      rw [List.getElem?_set_ne (Ne.symm e)]; exact g2
    · show upd w.hp a o b = _
      exact upd_ne fun z => e (nd_get R.nd g1 (z ▸ h1))
theorem Rep.wr (R : Rep K mg w) {n : Nat} {a : Addr} {o : HO} {c c0 : Cell} (h1 : w.al[n]? = some a) (h2 : w.st[n]? = some c0) (h3 : c0 ≠ .dead) (hc : CellR K mg (w.wr n a o c) a c) : Rep K mg (w.wr n a o c) := by
  have X := wr_ex0 (o := o) (c := c) h1 h2 h3
  refine ⟨?_, R.nd, fun b h => ?_, fun m b c' g1 g2 => ?_, fun b h => ?_⟩
  · show w.al.length = (w.st.set n c).length
    rw [List.length_set]; exact R.len
  · obtain ⟨u, e⟩ := R.tr b h
    exact X.tr b u e
  · have g2 : (w.st.set n c)[m]? = some c' := g2
    replace g1 : w.al[m]? = some b := g1
    by_cases e : m = n
    · subst e
      replace g1 := h1.symm.trans g1; cases g1
      rw [List.getElem?_set_self (List.getElem?_eq_some_iff.mp h2).1] at g2
      cases g2; exact hc
    · rw [List.getElem?_set_ne (Ne.symm e)] at g2
      refine (R.cell m b c' g1 g2).ext X ?_
      show upd w.hp a o b = _
      exact upd_ne fun z => e (nd_get R.nd g1 (z ▸ h1))
  · obtain ⟨h1, u, e⟩ := R.hid b h
    exact ⟨h1, X.tr b u e⟩
def Wo.cut (w : Wo) (n : Nat) : Wo := ⟨w.al.take n, w.st.take n, w.hp, w.hid⟩
theorem take_get {α : Type} {l : List α} {n m : Nat} {a : α} (h : (l.take n)[m]? = some a) : l[m]? = some a := by
  rw [List.getElem?_take] at h
  split at h
  · exact h
  · cases h
theorem cut_zz {n : Nat} {a : Addr} (h : Zl (w.cut n) a) : Zl w a := by
  rcases h with ⟨m, c, g1, g2, g3⟩ | h
  · exact .inl ⟨m, c, take_get g1, take_get g2, g3⟩
  · exact .inr h
theorem mem_take {α : Type} {l : List α} {n : Nat} {a : α} (h : a ∈ l.take n) : a ∈ l := List.mem_of_mem_take h
theorem RepE.gone {e : En} {s : St} (h : RepE K mg w e s) (i : Nat) : RepE K mg w (e.set i none) (s.set i none) := by
  refine ⟨by rw [List.length_set, List.length_set]; exact h.len, fun j d' g => ?_⟩
  by_cases hj : j = i
  · subst hj
    by_cases hl : j < e.length
    · rw [List.getElem?_set_self hl] at g; cases g
    · rw [List.getElem?_eq_none (by simpa using hl)] at g; cases g
  · rw [List.getElem?_set_ne (Ne.symm hj)] at g ⊢
    exact h.get j d' g
theorem Post.now {β γ : Type} {Rl : Wo → β → γ → Prop} {b : β} {v : γ} {Q : γ → Hp → Prop} {E : XK} (h : Post Rl K mg w (.ok b w.st) Q E) (R : Rep K mg w) (q : Rl w b v) : Q v w.hp := h w v (Ext.refl w) R rfl q
theorem Post.put {β γ : Type} {Rl : Wo → β → γ → Prop} {b : β} {v : γ} {Q : γ → Hp → Prop} {E : XK} {p : Addr} {o : HO} (h : Post Rl K mg w (.ok b w.st) Q E) (R : Rep K mg w) (hn : w.hp p = none) (q : Rl (w.put p o) b v) : Q v (upd w.hp p o) :=
  h (w.put p o) v (put_ext R hn) (R.put hn) rfl q
end G
namespace G
open PySem L2
abbrev AM := En → Store → Res (List D)
def RlB : Wo → Bool → Bool → Prop := fun _ b c => c = b
def tG {β γ : Type} (Rl : Wo → β → γ → Prop) (X : Cx) (W : WX) (m : En → Store → Res β) : St → Hp → (γ → Hp → Prop) → Prop := fun s H Q =>
  ∃ w e, w.hp = H ∧ Rep X.K X.mg w ∧ RepE X.K X.mg w e s ∧ Post Rl X.K X.mg w (m e w.st) Q (fun cls dd H' => W cls dd s H')
abbrev RE (X : Cx) (W : WX) (e : Expr) (m : EM) : Prop := PE X e (tG (RepD X.K X.mg) X W m)
abbrev RT (X : Cx) (W : WX) (e : Expr) (m : TM) : Prop := PT X e (tG RlB X W m)
abbrev RW (X : Cx) (W : WX) (e : Expr) (m : TM) : Prop := PW X e (tG RlB X W m)
abbrev RA (X : Cx) (W : WX) (es : List Expr) (m : AM) : Prop := PA X es (tG (RepL X.K X.mg) X W m)
section
variable {X : Cx} {W : WX} {a b c e : Expr} {es : List Expr} {ma mb mc me : EM} {ta tb : TM} {pos : Pos}
theorem pe_imp {t t' : TE} (h : PE X e t) (i : ∀ s H Q, t' s H Q → t s H Q) : PE X e t' := ⟨fun pins s σ H Q I q => h.run pins s σ H Q I (i _ _ _ q)⟩
theorem pt_imp {t t' : TT} (h : PT X e t) (i : ∀ s H Q, t' s H Q → t s H Q) : PT X e t' := ⟨fun pins s σ H Q I q => h.run pins s σ H Q I (i _ _ _ q)⟩
theorem pw_imp {t t' : TT} (h : PW X e t) (i : ∀ s H Q, t' s H Q → t s H Q) : PW X e t' := ⟨fun wh pins s σ H Q I q => h.run wh pins s σ H Q I (i _ _ _ q)⟩
theorem pa_imp {t t' : TA} (h : PA X es t) (i : ∀ s H Q, t' s H Q → t s H Q) : PA X es t' := ⟨fun ps pins s σ H Q I q => h.run ps pins s σ H Q I (i _ _ _ q)⟩
def lf {β : Type} (o : Option β) (S : Store) : Res β := match o with
  | some d => .ok d S
  | none => .stuck
def eC (d : D) : EM := fun _ S => .ok d S
def eVar (i : Nat) : EM := fun e S => match e[i]? with
  | some (some d) => .ok d S
  | _ => .stuck
theorem re_c {v : V} {d : D} (h : PE X e (tC v)) (q : ∀ w, RepD X.K X.mg w d v) : RE X W e (eC d) := pe_imp h fun s H Q ⟨w, en, hw, R, E, P⟩ => by
  subst hw
  exact Post.now P R (q w)
theorem re_int {i j pos} : RE X W (.Constant (.int i) j pos) (eC (.int i)) := re_c pe_int fun _ => .int i
theorem re_bl {b j pos} : RE X W (.Constant (.bool b) j pos) (eC (.bl b)) := re_c pe_bl fun _ => .bl b
theorem re_non {j pos} : RE X W (.Constant .none j pos) (eC .non) := re_c pe_non fun _ => .non
theorem re_str {x j pos} : RE X W (.Constant (.str x) j pos) (eC (.str x)) := re_c pe_str fun _ => .str x
theorem re_glob {x : Str} {v : V} {u : Value} {d : D} (hg : Gl X x) (hm : X.mg x = some u) (r : RelV v u) (q : ∀ w, RepD X.K X.mg w d v) (hd : (x == ("__debug__" : Str)) = false := by decide) : RE X W (.Name x pos) (eC d) := re_c (pe_glob hg hm r hd) q
theorem re_v {i : Nat} {x : Str} (h : PE X (.Name x pos) (tVar i)) : RE X W (.Name x pos) (eVar i) := pe_imp h fun s H Q ⟨w, en, hw, R, E, P⟩ => by
  subst hw
  unfold eVar at P
  split at P
  · rename_i d hd
    obtain ⟨v, hv, r⟩ := E.get i d hd
    exact ⟨v, hv, Post.now P R r⟩
  · exact False.elim P
theorem rv (i : Nat) {x : Str} (hN : X.N[i]? = some x := by rfl) (hv : Vis X.env.scope x := by first | exact Or.inl rfl | exact Or.inr (Or.inl rfl) | exact Or.inr (Or.inr rfl)) (hd : (x == ("__debug__" : Str)) = false := by decide)
    (hcd : (x == ("__classdict__" : Str)) = false := by decide) : RE X W (.Name x pos) (eVar i) := re_v (pe_var hN hv hd hcd)
def OpM (X : Cx) (f : D → D → Option D) : R2 := fun v u H Q => ∃ w x y E, w.hp = H ∧ Rep X.K X.mg w ∧ RepD X.K X.mg w x v ∧ RepD X.K X.mg w y u ∧ Post (RepD X.K X.mg) X.K X.mg w (lf (f x y) w.st) Q E
def eBin (f : D → D → Option D) (a b : EM) : EM := fun e S => (a e S).bind fun x S1 => (b e S1).bind fun y S2 => lf (f x y) S2
theorem t_bin {f : D → D → Option D} : ∀ s H Q, tG (RepD X.K X.mg) X W (eBin f ma mb) s H Q → tOp (OpM X f) (tG (RepD X.K X.mg) X W ma) (tG (RepD X.K X.mg) X W mb) s H Q := by
  rintro s H Q ⟨w, en, rfl, R, E, P⟩
  refine ⟨w, en, rfl, R, E, (Post.bind P).imp ?_⟩
  rintro v H1 ⟨w1, x, rfl, X1, R1, rx, P1⟩
  refine ⟨w1, en, rfl, R1, E.ext X1.toEx0, (Post.bind P1).imp ?_⟩
  rintro u H2 ⟨w2, y, rfl, X2, R2, ry, P2⟩
  exact ⟨w2, x, y, _, rfl, R2, rx.ext X2.toEx0, ry, P2⟩
theorem re_bin {op : Operator} {f : D → D → Option D} (ho : OpR X (binaryOp op) (OpM X f)) (ha : RE X W a ma) (hb : RE X W b mb) : RE X W (.BinOp a op b pos) (eBin f ma mb) := pe_imp (pe_op ho ha hb) t_bin
theorem re_cmp {op : CmpOp} {f : D → D → Option D} (ho : OpR X (compareOp op) (OpM X f)) (ha : RE X W a ma) (hb : RE X W b mb) (hm : behindInMarks op b = false) : RE X W (.Compare a [op] [b] pos) (eBin f ma mb) := pe_imp (pe_cmpR ho ha hb hm) t_bin
def tB (m : EM) : TM := fun e S => (m e S).bind fun x S1 => match x with
  | .bl b => .ok b S1
  | _ => .stuck
theorem rt_cmp {op : CmpOp} {f : D → D → Option D} (ho : OpR X (compareOp op) (OpM X f)) (ha : RE X W a ma) (hb : RE X W b mb) (hm : behindInMarks op b = false) : RT X W (.Compare a [op] [b] pos) (tB (eBin f ma mb)) := by
  refine pt_imp (pt_cmpR ho ha hb hm) ?_
  rintro s H Q ⟨w, en, rfl, R, E, P⟩
  refine t_bin s w.hp _ ⟨w, en, rfl, R, E, (Post.bind P).imp ?_⟩
  rintro v H1 ⟨w1, x, rfl, X1, R1, rx, P1⟩
  cases x with
  | bl b => cases rx; exact ⟨b, rfl, Post.now P1 R1 rfl⟩
  | _ => exact False.elim P1
def dAdd : D → D → Option D
  | .int i, .int j => some (.int (i + j))
  | .str x, .str y => if x.length + y.length ≤ sizeLine then some (.str (x ++ y)) else none
  | .lst l, .lst m => if l.length + m.length ≤ sizeLine then some (.lst (l ++ m)) else none
  | .tup (d :: l), .tup m => if (d :: l).length + m.length ≤ sizeLine then some (.tup (d :: l ++ m)) else none
  | _, _ => none
theorem om_add : OpR X (binaryOp .Add) (OpM X dAdd) := by
  intro pins s σ H x y v u Q I rx ry h
  obtain ⟨w, dx, dy, E, rfl, R, qx, qy, P⟩ := h
  unfold dAdd at P
  split at P
  · cases qx; cases qy
    exact op_add pins s σ w.hp _ _ v u Q I rx ry ⟨_, _, rfl, rfl, Post.now P R (.int _)⟩
  · split at P
    · rename_i hz
      cases qx; cases qy
      exact op_add_str pins s σ w.hp _ _ v u Q I rx ry ⟨_, _, rfl, rfl, hz, Post.now P R (.str _)⟩
    · exact False.elim P
  · split at P
    · rename_i hz
      cases qx with
      | lst s1 r1 =>
        cases qy with
        | lst s2 r2 =>
          refine op_cat pins s σ w.hp _ _ v u Q I rx ry ⟨_, _, _, _, rfl, rfl, s1.1, s2.1, by rw [← r1.length, ← r2.length]; exact hz, fun p hp => ?_⟩
          exact Post.put P R hp (.lst (put_st R hp) ((r1.append r2).ext (put_ext R hp).toEx0))
    · exact False.elim P
  · split at P
    · rename_i hz
      cases qx with
      | tup s1 r1 =>
        cases qy with
        | tup s2 r2 =>
          have r12 := r1.append r2
          cases r1 with
          | cons r1 r1' =>
            refine op_catT pins s σ w.hp _ _ v u Q I rx ry ⟨_, _, _, _, rfl, rfl, s1.sq, s2.sq, by simp, ?_, ?_⟩
            · have e1 := r1'.length
              have e2 := r2.length
              simp only [List.length_cons] at hz ⊢
              omega
            · first
                | refine ⟨fun hn => ?_, fun hn p hp => ?_⟩
                | refine ⟨fun hn p hp => ?_, fun hn => ?_⟩
              · subst hn
                cases r2
                rw [List.append_nil] at P
                exact Post.now P R (.tup s1 (.cons r1 r1'))
              · exact Post.put P R hp (.tup (.inl (put_st R hp).o) (r12.ext (put_ext R hp).toEx0))
    · exact False.elim P
  · exact False.elim P
def dSub : D → D → Option D
  | .int i, .int j => some (.int (i - j))
  | _, _ => none
theorem om_sub : OpR X (binaryOp .Sub) (OpM X dSub) := by
  intro pins s σ H x y v u Q I rx ry h
  obtain ⟨w, dx, dy, E, rfl, R, qx, qy, P⟩ := h
  unfold dSub at P
  split at P
  · cases qx; cases qy
    exact op_sub pins s σ w.hp _ _ v u Q I rx ry ⟨_, _, rfl, rfl, Post.now P R (.int _)⟩
  · exact False.elim P
def mulOk (i j : Int) : Bool := decide (i.natAbs < 2 ^ 64) || (decide (j.natAbs < 2 ^ 64) || decide (i.natAbs.log2 + j.natAbs.log2 < 1000000))
def dMul : D → D → Option D
  | .int i, .int j => if mulOk i j then some (.int (i * j)) else none
  | .lst l, .int k => if -(2 ^ 63) ≤ k ∧ k < 2 ^ 63 ∧ l.length * k.toNat ≤ sizeLine then some (.lst (List.replicate k.toNat l).flatten) else none
  | _, _ => none
theorem RepL.rep {w : Wo} {l : List D} {vs : List V} (h : RepL X.K X.mg w l vs) : ∀ n : Nat, RepL X.K X.mg w (List.replicate n l).flatten (List.replicate n vs).flatten
  | 0 => .nil
  | n + 1 => by
    rw [List.replicate_succ, List.replicate_succ, List.flatten_cons, List.flatten_cons]
    exact h.append (RepL.rep h n)
theorem om_mul : OpR X (binaryOp .Mult) (OpM X dMul) := by
  intro pins s σ H x y v u Q I rx ry h
  obtain ⟨w, dx, dy, E, rfl, R, qx, qy, P⟩ := h
  unfold dMul at P
  split at P
  · split at P
    · rename_i hm
      cases qx; cases qy
      unfold mulOk at hm
      rw [Bool.or_eq_true, Bool.or_eq_true] at hm
      rcases hm with hm | hm | hm
      · have hm := of_decide_eq_true hm
        exact op_mul pins s σ w.hp _ _ v u Q I rx ry ⟨_, _, rfl, rfl, .inl (by omega), Post.now P R (.int _)⟩
      · have hm := of_decide_eq_true hm
        exact op_mul pins s σ w.hp _ _ v u Q I rx ry ⟨_, _, rfl, rfl, .inr (by omega), Post.now P R (.int _)⟩
      · have hm := of_decide_eq_true hm
        exact op_mulW pins s σ w.hp _ _ v u Q I rx ry ⟨_, _, rfl, rfl, hm, Post.now P R (.int _)⟩
    · exact False.elim P
  · split at P
    · rename_i hm
      cases qx with
      | lst s1 r1 =>
        cases qy
        refine op_rep pins s σ w.hp _ _ v u Q I rx ry ⟨_, _, _, rfl, rfl, s1.1, hm.1, hm.2.1, by rw [← r1.length]; exact hm.2.2, fun p hp => ?_⟩
        exact Post.put P R hp (.lst (put_st R hp) ((RepL.rep r1 _).ext (put_ext R hp).toEx0))
    · exact False.elim P
  · exact False.elim P
def divOk (j : Int) : Bool := j != 0 && decide (j.natAbs.log2 < 9000)
def dDiv : D → D → Option D
  | .int i, .int j => if divOk j then some (.int (i.fdiv j)) else none
  | _, _ => none
theorem op_fdivX : OpR X (binaryOp .FloorDiv) (rI (fun _ j => j ≠ 0 ∧ j.natAbs.log2 < 9000) fun i j => .int (i.fdiv j)) :=
  opI fun i j _ _ _ _ _ hc q => PyProof.Rows.floordiv_int hc.1 q (.inl (PyProof.noPylong_of_log2 hc.2))
theorem om_div : OpR X (binaryOp .FloorDiv) (OpM X dDiv) := by
  intro pins s σ H x y v u Q I rx ry h
  obtain ⟨w, dx, dy, E, rfl, R, qx, qy, P⟩ := h
  unfold dDiv at P
  split at P
  · split at P
    · rename_i hm
      cases qx; cases qy
      unfold divOk at hm
      simp only [Bool.and_eq_true, bne_iff_ne, decide_eq_true_eq] at hm
      exact op_fdivX pins s σ w.hp _ _ v u Q I rx ry ⟨_, _, rfl, rfl, hm, Post.now P R (.int _)⟩
    · exact False.elim P
  · exact False.elim P
def dMod : D → D → Option D
  | .int i, .int j => if j = 0 then none else some (.int (i.fmod j))
  | _, _ => none
theorem om_mod : OpR X (binaryOp .Mod) (OpM X dMod) := by
  intro pins s σ H x y v u Q I rx ry h
  obtain ⟨w, dx, dy, E, rfl, R, qx, qy, P⟩ := h
  unfold dMod at P
  split at P
  · split at P
    · exact False.elim P
    · rename_i hm
      cases qx; cases qy
      exact op_modN pins s σ w.hp _ _ v u Q I rx ry ⟨_, _, rfl, rfl, hm, Post.now P R (.int _)⟩
  · exact False.elim P
def dPow : D → D → Option D
  | .int i, .int j => if 0 ≤ j ∧ j ≤ 1000000 ∧ i.natAbs < 2 ^ 64 then some (.int (i ^ j.toNat)) else none
  | _, _ => none
theorem om_pow : OpR X (binaryOp .Pow) (OpM X dPow) := by
  intro pins s σ H x y v u Q I rx ry h
  obtain ⟨w, dx, dy, E, rfl, R, qx, qy, P⟩ := h
  unfold dPow at P
  split at P
  · split at P
    · rename_i hm
      cases qx; cases qy
      exact op_pow pins s σ w.hp _ _ v u Q I rx ry ⟨_, _, rfl, rfl, hm, Post.now P R (.int _)⟩
    · exact False.elim P
  · exact False.elim P
mutual
def D.toP : D → Option PyData
  | .non => some .none
  | .bl b => some (.bool b)
  | .int i => some (.int i)
  | .str x => some (.str x)
  | .tup l => (toPs l).map .tuple
  | .lst l => (toPs l).map .list
  | .scr l => (toPs l).map .list
  | .dic _ _ => none
  | .loc _ => none
  | .exc _ _ => none
  | .ins _ _ => none
  | .fa _ => none
  | .pin _ _ => none
def toPs : List D → Option (List PyData)
  | [] => some []
  | d :: l => match d.toP, toPs l with
    | some p, some ps => some (p :: ps)
    | _, _ => none
end
mutual
theorem RepD.dp {K : PySem.W.Frag} {mg : Str → Option Value} {w : Wo} {d : D} {v : V} {p : PyData} : RepD K mg w d v → d.toP = some p → Dp K w.hp v p
  | .non, h => by cases h; exact .non
  | .bl b, h => by cases h; exact .bl b
  | .int i, h => by cases h; exact .int i
  | .str x, h => by cases h; exact .str x
  | .tup s r, h => by
    rw [D.toP] at h
    obtain ⟨ps, e, rfl⟩ := Option.map_eq_some_iff.mp h
    exact .tup s.sq (RepL.dp r e)
  | .lst s r, h => by
    rw [D.toP] at h
    obtain ⟨ps, e, rfl⟩ := Option.map_eq_some_iff.mp h
    exact .lst (SqL.of s.1) (RepL.dp r e)
  | .scr s r, h => by
    rw [D.toP] at h
    obtain ⟨ps, e, rfl⟩ := Option.map_eq_some_iff.mp h
    exact .lst s.sq (RepL.dp r e)
  | .dic _ _ _, h => by rw [D.toP] at h; cases h
  | .loc _, h => by rw [D.toP] at h; cases h
  | .ins _ _ _, h => by rw [D.toP] at h; cases h
  | .exc _ _ _ _, h => by rw [D.toP] at h; cases h
  | .fa _, h => by rw [D.toP] at h; cases h
  | .pin _, h => by rw [D.toP] at h; cases h
theorem RepL.dp {K : PySem.W.Frag} {mg : Str → Option Value} {w : Wo} {l : List D} {vs : List V} {ps : List PyData} : RepL K mg w l vs → toPs l = some ps → DpAll K w.hp vs ps
  | .nil, h => by rw [toPs] at h; cases h; exact .nil
  | .cons r t, h => by
    rw [toPs] at h
    split at h
    · rename_i p q e1 e2
      cases h
      exact .cons (RepD.dp r e1) (RepL.dp t e2)
    · cases h
end
def eqP (x y : D) : Option Bool := match x.toP, y.toP with
  | some p, some q => if SeqAt.shaped p && SeqAt.shaped q then some (PyData.eqv p q) else none
  | _, _ => none
def eqD : D → D → Option Bool
  | .str a, .str b => some (decide (a = b))
  | x, y => eqP x y
def dEq (x y : D) : Option D := (eqD x y).map .bl
def dNe (x y : D) : Option D := (eqD x y).map fun b => .bl (!b)
theorem dec_sv (a b : Str) : decide (V.str a = V.str b) = decide (a = b) := by
  by_cases h : a = b
  · subst h; simp
  · rw [decide_eq_false h, decide_eq_false fun z => h (by cases z; rfl)]
theorem eqD_cases {x y : D} {r : Option Bool} (h : eqD x y = r) : (∃ a b, x = .str a ∧ y = .str b ∧ r = some (decide (a = b))) ∨ r = eqP x y := by
  unfold eqD at h
  split at h
  · exact .inl ⟨_, _, rfl, rfl, h.symm⟩
  · exact .inr h.symm
theorem om_eq (hu : X.A.units + 64 < cLine) : OpR X (compareOp .Eq) (OpM X dEq) := by
  intro pins s σ H x y v u Q I rx ry h
  obtain ⟨w, dx, dy, E, rfl, R, qx, qy, P⟩ := h
  unfold dEq at P
  rcases eqD_cases (x := dx) (y := dy) rfl with ⟨a, b, rfl, rfl, e⟩ | e
  · rw [e] at P
    cases qx; cases qy
    exact op_eq pins s σ w.hp _ _ v u Q I rx ry ⟨rfl, by rw [dec_sv]; exact Post.now P R (.bl _)⟩
  · rw [e] at P
    unfold eqP at P
    split at P
    · rename_i p q e1 e2
      split at P
      · rename_i hs
        rw [Bool.and_eq_true] at hs
        exact op_eqD hu pins s σ w.hp _ _ v u Q I rx ry ⟨p, q, qx.dp e1, qy.dp e2, hs.1, hs.2, Post.now P R (.bl _)⟩
      · exact False.elim P
    · exact False.elim P
theorem om_ne (hu : X.A.units + 64 < cLine) : OpR X (compareOp .NotEq) (OpM X dNe) := by
  intro pins s σ H x y v u Q I rx ry h
  obtain ⟨w, dx, dy, E, rfl, R, qx, qy, P⟩ := h
  unfold dNe at P
  rcases eqD_cases (x := dx) (y := dy) rfl with ⟨a, b, rfl, rfl, e⟩ | e
  · rw [e] at P
    cases qx; cases qy
    exact op_ne pins s σ w.hp _ _ v u Q I rx ry ⟨rfl, by rw [dec_sv]; exact Post.now P R (.bl _)⟩
  · rw [e] at P
    unfold eqP at P
    split at P
    · rename_i p q e1 e2
      split at P
      · rename_i hs
        rw [Bool.and_eq_true] at hs
        exact op_neD hu pins s σ w.hp _ _ v u Q I rx ry ⟨p, q, qx.dp e1, qy.dp e2, hs.1, hs.2, Post.now P R (.bl _)⟩
      · exact False.elim P
    · exact False.elim P
def cmpI (f : Int → Int → Bool) : D → D → Option D
  | .int i, .int j => some (.bl (f i j))
  | _, _ => none
theorem om_cmpI {op : CmpOp} {f : Int → Int → Bool} (ho : OpR X (compareOp op) (rI0 fun i j => .bl (f i j))) : OpR X (compareOp op) (OpM X (cmpI f)) := by
  intro pins s σ H x y v u Q I rx ry h
  obtain ⟨w, dx, dy, E, rfl, R, qx, qy, P⟩ := h
  unfold cmpI at P
  split at P
  · cases qx; cases qy
    exact ho pins s σ w.hp _ _ v u Q I rx ry ⟨_, _, rfl, rfl, Post.now P R (.bl _)⟩
  · exact False.elim P
abbrev dLt : D → D → Option D := cmpI fun i j => decide (i < j)
abbrev dLe : D → D → Option D := cmpI fun i j => decide (i ≤ j)
abbrev dGt : D → D → Option D := cmpI fun i j => decide (j < i)
abbrev dGe : D → D → Option D := cmpI fun i j => decide (j ≤ i)
theorem om_lt : OpR X (compareOp .Lt) (OpM X dLt) := om_cmpI op_lt
theorem om_le : OpR X (compareOp .LtE) (OpM X dLe) := om_cmpI op_le
theorem om_gt : OpR X (compareOp .Gt) (OpM X dGt) := om_cmpI op_gt
theorem om_ge : OpR X (compareOp .GtE) (OpM X dGe) := om_cmpI op_ge
def isN : D → Bool
  | .non => true
  | .pin v _ => decide (v = .non)
  | _ => false
theorem RepD.isN {K : PySem.W.Frag} {mg : Str → Option Value} {w : Wo} {d : D} {v : V} (h : RepD K mg w d v) : decide (v = .non) = isN d := by
  cases h <;> simp [G.isN]
def dIs (x y : D) : Option D := if isN y then some (.bl (isN x)) else none
def dIsNot (x y : D) : Option D := if isN y then some (.bl (!isN x)) else none
theorem om_is : OpR X (compareOp .Is) (OpM X dIs) := by
  intro pins s σ H x y v u Q I rx ry h
  obtain ⟨w, dx, dy, E, rfl, R, qx, qy, P⟩ := h
  unfold dIs at P
  split at P
  · rename_i hy
    have ey := qy.isN
    rw [hy] at ey
    exact op_isN pins s σ w.hp _ _ v u Q I rx ry ⟨of_decide_eq_true ey, Post.now P R (by rw [qx.isN]; exact .bl _)⟩
  · exact False.elim P
theorem om_isnot : OpR X (compareOp .IsNot) (OpM X dIsNot) := by
  intro pins s σ H x y v u Q I rx ry h
  obtain ⟨w, dx, dy, E, rfl, R, qx, qy, P⟩ := h
  unfold dIsNot at P
  split at P
  · rename_i hy
    have ey := qy.isN
    rw [hy] at ey
    exact op_notN pins s σ w.hp _ _ v u Q I rx ry ⟨of_decide_eq_true ey, Post.now P R (by rw [qx.isN]; exact .bl _)⟩
  · exact False.elim P
def eChain (f g : D → D → Option D) (a b c : EM) : EM := fun e S => (a e S).bind fun x S1 => (b e S1).bind fun y S2 => (lf (f x y) S2).bind fun z S3 => match z with
  | .bl true => (c e S3).bind fun t S4 => lf (g y t) S4
  | .bl false => .ok (.bl false) S3
  | _ => .stuck
theorem t_chain {f g : D → D → Option D} : ∀ s H Q, tG (RepD X.K X.mg) X W (eChain f g ma mb mc) s H Q → tChain (OpM X f) (OpM X g) (tG (RepD X.K X.mg) X W ma) (tG (RepD X.K X.mg) X W mb) (tG (RepD X.K X.mg) X W mc) s H Q := by
  rintro s H Q ⟨w, en, rfl, R, E, P⟩
  refine ⟨w, en, rfl, R, E, (Post.bind P).imp ?_⟩
  rintro v H1 ⟨w1, x, rfl, X1, R1, rx, P1⟩
  refine ⟨w1, en, rfl, R1, E.ext X1.toEx0, (Post.bind P1).imp ?_⟩
  rintro u H2 ⟨w2, y, rfl, X2, R2, ry, P2⟩
  refine ⟨w2, x, y, _, rfl, R2, rx.ext X2.toEx0, ry, (Post.bind (Rl := RepD X.K X.mg) P2).imp ?_⟩
  rintro z H3 ⟨w3, d, rfl, X3, R3, rz, P3⟩
  cases d with
  | bl b =>
    cases rz
    cases b with
    | true =>
      refine ⟨true, rfl, ?_⟩
      rw [if_pos rfl]
      refine ⟨w3, en, rfl, R3, ((E.ext X1.toEx0).ext X2.toEx0).ext X3.toEx0, (Post.bind P3).imp ?_⟩
      rintro t H4 ⟨w4, d4, rfl, X4, R4, r4, P4⟩
      exact ⟨w4, y, d4, _, rfl, R4, (ry.ext X3.toEx0).ext X4.toEx0, r4, P4⟩
    | false =>
      refine ⟨false, rfl, ?_⟩
      rw [if_neg Bool.false_ne_true]
      exact Post.now P3 R3 (.bl false)
  | _ => exact False.elim P3
theorem re_chain {op op' : CmpOp} {f g : D → D → Option D} (ho : OpR X (compareOp op) (OpM X f)) (ho' : OpR X (compareOp op') (OpM X g)) (ha : RE X W a ma) (hb : RE X W b mb) (hc : RE X W c mc)
    (hm : lastMarks [op, op'] [b, c] = false := by with_unfolding_all rfl) : RE X W (.Compare a [op, op'] [b, c] pos) (eChain f g ma mb mc) := pe_imp (pe_chain ho ho' ha hb hc hm) t_chain
theorem rt_chain {op op' : CmpOp} {f g : D → D → Option D} (ho : OpR X (compareOp op) (OpM X f)) (ho' : OpR X (compareOp op') (OpM X g)) (ha : RE X W a ma) (hb : RE X W b mb) (hc : RE X W c mc)
    (hm : lastMarks [op, op'] [b, c] = false := by with_unfolding_all rfl) : RT X W (.Compare a [op, op'] [b, c] pos) (tB (eChain f g ma mb mc)) := by
  refine pt_imp (pt_chain ho ho' ha hb hc hm) ?_
  rintro s H Q ⟨w, en, rfl, R, E, P⟩
  refine t_chain s w.hp _ ⟨w, en, rfl, R, E, (Post.bind P).imp ?_⟩
  rintro v H1 ⟨w1, x, rfl, X1, R1, rx, P1⟩
  cases x with
  | bl b => cases rx; exact ⟨b, rfl, Post.now P1 R1 rfl⟩
  | _ => exact False.elim P1
def truD (S : Store) : D → Option Bool
  | .non => some false
  | .bl b => some b
  | .int i => some (i != 0)
  | .str x => if x.length ≤ sizeLine then some ((x.length : Int) != 0) else none
  | .tup l => some (!l.isEmpty)
  | .lst l => some (!l.isEmpty)
  | .scr l => some (!l.isEmpty)
  | .dic _ l => some (!l.isEmpty)
  | .loc n => match S[n]? with
    | some (.lst l) => some (!l.isEmpty)
    | some (.dk l) => some (!l.isEmpty)
    | _ => none
  | _ => none
theorem RepL.emp {K : PySem.W.Frag} {mg : Str → Option Value} {w : Wo} {l : List D} {vs : List V} (h : RepL K mg w l vs) : (!vs.isEmpty) = !l.isEmpty := by cases h <;> rfl
theorem RepK.emp {κ : Type} {K : PySem.W.Frag} {mg : Str → Option Value} {w : Wo} {l : List (κ × D)} {vs : List (κ × V)} (h : RepK κ K mg w l vs) : (!vs.isEmpty) = !l.isEmpty := by cases h <;> rfl
theorem RepD.tru {w : Wo} {d : D} {v : V} {k : Bool} (R : Rep X.K X.mg w) (h : RepD X.K X.mg w d v) (e : truD w.st d = some k) : TruV X.K v w.hp k := by
  cases h with
  | non => cases e; rfl
  | bl b => cases e; rfl
  | int i => cases e; rfl
  | str x =>
    replace e : (if x.length ≤ sizeLine then some ((x.length : Int) != 0) else none) = some k := e
    split at e
    · cases e; exact ⟨by assumption, rfl⟩
    · cases e
  | tup s r => cases e; exact .inr (.inl ⟨_, s.sq, r.emp.symm⟩)
  | lst s r => cases e; exact .inl ⟨_, SqL.of s.1, r.emp.symm⟩
  | scr s r => cases e; exact .inl ⟨_, s.sq, r.emp.symm⟩
  | @dic ks l a vs s z r =>
    cases e
    refine .inr (.inr ⟨_, s.1, ?_⟩)
    rw [← r.emp]
    cases ks with
    | nil => cases vs with
      | nil => rfl
      | cons _ _ => cases z
    | cons _ _ => cases vs with
      | nil => cases z
      | cons _ _ => rfl
  | @loc n a hn =>
    replace e : (match w.st[n]? with
      | some (.lst l) => some (!l.isEmpty)
      | some (.dk l) => some (!l.isEmpty)
      | _ => none) = some k := e
    split at e
    · rename_i l hl
      cases e
      obtain ⟨vs, p, r⟩ := R.cell _ _ _ hn hl
      exact .inl ⟨vs, SqL.of p, r.emp.symm⟩
    · rename_i l hl
      cases e
      obtain ⟨vs, p, r⟩ := R.cell _ _ _ hn hl
      exact .inr (.inr ⟨vs, p, r.emp.symm⟩)
    · cases e
  | ins _ _ _ => cases e
  | exc _ _ _ _ => cases e
  | fa _ => cases e
  | pin _ => cases e
def tT (m : EM) : TM := fun e S => (m e S).bind fun x S1 => lf (truD S1 x) S1
theorem rt_e (ha : RE X W a ma) (he : ∀ whole, isTrue a X.env whole = (do let v ← whole; standAt a.pos; holding [v] (truthy v)) := by intro _; rfl) : RT X W a (tT ma) := by
  refine pt_imp (pt_truth ha he) ?_
  rintro s H Q ⟨w, en, rfl, R, E, P⟩
  refine ⟨w, en, rfl, R, E, (Post.bind P).imp ?_⟩
  rintro v H1 ⟨w1, x, rfl, X1, R1, rx, P1⟩
  dsimp only at P1
  cases h : truD w1.st x with
  | none => rw [h] at P1; exact False.elim P1
  | some k =>
    rw [h] at P1
    exact ⟨k, rx.tru R1 h, Post.now P1 R1 rfl⟩
def tNt (t : TM) : TM := fun e S => (t e S).bind fun b S1 => .ok (!b) S1
def tAn (t u : TM) : TM := fun e S => (t e S).bind fun b S1 => if b then u e S1 else .ok false S1
def tOr' (t u : TM) : TM := fun e S => (t e S).bind fun b S1 => if b then .ok true S1 else u e S1
theorem rt_not (ha : RT X W a ta) : RT X W (.UnaryOp .Not a pos) (tNt ta) := by
  refine pt_imp (pt_not ha) ?_
  rintro s H Q ⟨w, en, rfl, R, E, P⟩
  refine ⟨w, en, rfl, R, E, (Post.bind P).imp ?_⟩
  rintro v H1 ⟨w1, x, rfl, X1, R1, rx, P1⟩
  cases rx
  exact Post.now P1 R1 rfl
theorem rw_and1 (ha : RT X W a ta) : RW X W (.BoolOp .And [a] pos) ta := pw_and1 ha
theorem rw_or1 (ha : RT X W a ta) : RW X W (.BoolOp .Or [a] pos) ta := pw_or1 ha
theorem rw_and {rest : List Expr} (ha : RT X W a ta) (hb : RW X W (.BoolOp .And (b :: rest) pos) tb) : RW X W (.BoolOp .And (a :: b :: rest) pos) (tAn ta tb) := by
  refine pw_imp (pw_and ha hb) ?_
  rintro s H Q ⟨w, en, rfl, R, E, P⟩
  refine ⟨w, en, rfl, R, E, (Post.bind P).imp ?_⟩
  rintro v H1 ⟨w1, x, rfl, X1, R1, rx, P1⟩
  cases rx
  dsimp only at P1
  cases v with
  | true =>
    rw [if_pos rfl] at P1 ⊢
    exact ⟨w1, en, rfl, R1, E.ext X1.toEx0, P1⟩
  | false =>
    rw [if_neg Bool.false_ne_true] at P1 ⊢
    exact Post.now P1 R1 rfl
theorem rw_or {rest : List Expr} (ha : RT X W a ta) (hb : RW X W (.BoolOp .Or (b :: rest) pos) tb) : RW X W (.BoolOp .Or (a :: b :: rest) pos) (tOr' ta tb) := by
  refine pw_imp (pw_or ha hb) ?_
  rintro s H Q ⟨w, en, rfl, R, E, P⟩
  refine ⟨w, en, rfl, R, E, (Post.bind P).imp ?_⟩
  rintro v H1 ⟨w1, x, rfl, X1, R1, rx, P1⟩
  cases rx
  dsimp only at P1
  cases v with
  | true =>
    rw [if_pos rfl] at P1 ⊢
    exact Post.now P1 R1 rfl
  | false =>
    rw [if_neg Bool.false_ne_true] at P1 ⊢
    exact ⟨w1, en, rfl, R1, E.ext X1.toEx0, P1⟩
theorem rt_w (h : RW X W a ta) : RT X W a ta := h.pt
def eAn (a b : EM) : EM := fun e S => (a e S).bind fun x S1 => (lf (truD S1 x) S1).bind fun k S2 => if k then b e S2 else .ok x S2
def eOr (a b : EM) : EM := fun e S => (a e S).bind fun x S1 => (lf (truD S1 x) S1).bind fun k S2 => if k then .ok x S2 else b e S2
def eNt (a : EM) : EM := fun e S => (a e S).bind fun x S1 => (lf (truD S1 x) S1).bind fun k S2 => .ok (.bl (!k)) S2
theorem re_one {op} (h : RE X W a ma) : RE X W (.BoolOp op [a] pos) ma := pe_one h
theorem re_and {rest : List Expr} (ha : RE X W a ma) (hb : RE X W (.BoolOp .And (b :: rest) pos) mb) : RE X W (.BoolOp .And (a :: b :: rest) pos) (eAn ma mb) := by
  refine pe_imp (pe_andT ha hb) ?_
  rintro s H Q ⟨w, en, rfl, R, E, P⟩
  refine ⟨w, en, rfl, R, E, (Post.bind P).imp ?_⟩
  rintro v H1 ⟨w1, x, rfl, X1, R1, rx, P1⟩
  dsimp only at P1
  cases h : truD w1.st x with
  | none => rw [h] at P1; exact False.elim P1
  | some k =>
    rw [h] at P1
    refine ⟨k, rx.tru R1 h, ?_⟩
    replace P1 : Post (RepD X.K X.mg) X.K X.mg w1 (if k = true then mb en w1.st else .ok x w1.st) Q _ := P1
    cases k with
    | true =>
      rw [if_pos rfl] at P1 ⊢
      exact ⟨w1, en, rfl, R1, E.ext X1.toEx0, P1⟩
    | false =>
      rw [if_neg Bool.false_ne_true] at P1 ⊢
      exact Post.now P1 R1 rx
theorem re_or {rest : List Expr} (ha : RE X W a ma) (hb : RE X W (.BoolOp .Or (b :: rest) pos) mb) : RE X W (.BoolOp .Or (a :: b :: rest) pos) (eOr ma mb) := by
  refine pe_imp (pe_orT ha hb) ?_
  rintro s H Q ⟨w, en, rfl, R, E, P⟩
  refine ⟨w, en, rfl, R, E, (Post.bind P).imp ?_⟩
  rintro v H1 ⟨w1, x, rfl, X1, R1, rx, P1⟩
  dsimp only at P1
  cases h : truD w1.st x with
  | none => rw [h] at P1; exact False.elim P1
  | some k =>
    rw [h] at P1
    refine ⟨k, rx.tru R1 h, ?_⟩
    replace P1 : Post (RepD X.K X.mg) X.K X.mg w1 (if k = true then .ok x w1.st else mb en w1.st) Q _ := P1
    cases k with
    | true =>
      rw [if_pos rfl] at P1 ⊢
      exact Post.now P1 R1 rx
    | false =>
      rw [if_neg Bool.false_ne_true] at P1 ⊢
      exact ⟨w1, en, rfl, R1, E.ext X1.toEx0, P1⟩
theorem re_not (ha : RE X W a ma) : RE X W (.UnaryOp .Not a pos) (eNt ma) := by
  refine pe_imp (pe_notT ha) ?_
  rintro s H Q ⟨w, en, rfl, R, E, P⟩
  refine ⟨w, en, rfl, R, E, (Post.bind P).imp ?_⟩
  rintro v H1 ⟨w1, x, rfl, X1, R1, rx, P1⟩
  dsimp only at P1
  cases h : truD w1.st x with
  | none => rw [h] at P1; exact False.elim P1
  | some k =>
    rw [h] at P1
    exact ⟨k, rx.tru R1 h, Post.now P1 R1 (.bl _)⟩
def eIf (t : TM) (a b : EM) : EM := fun e S => (t e S).bind fun k S1 => if k then a e S1 else b e S1
theorem re_if (hc : RT X W c ta) (ha : RE X W a ma) (hb : RE X W b mb) : RE X W (.IfExp c a b pos) (eIf ta ma mb) := by
  refine pe_imp (pe_ifExp hc ha hb) ?_
  rintro s H Q ⟨w, en, rfl, R, E, P⟩
  refine ⟨w, en, rfl, R, E, (Post.bind P).imp ?_⟩
  rintro v H1 ⟨w1, x, rfl, X1, R1, rx, P1⟩
  cases rx
  dsimp only at P1
  cases v with
  | true =>
    rw [if_pos rfl] at P1 ⊢
    exact ⟨w1, en, rfl, R1, E.ext X1.toEx0, P1⟩
  | false =>
    rw [if_neg Bool.false_ne_true] at P1 ⊢
    exact ⟨w1, en, rfl, R1, E.ext X1.toEx0, P1⟩
def eNeg (a : EM) : EM := fun e S => (a e S).bind fun x S1 => match x with
  | .int i => .ok (.int (-i)) S1
  | _ => .stuck
theorem re_neg (ha : RE X W a ma) : RE X W (.UnaryOp .USub a pos) (eNeg ma) := by
  refine pe_imp (pe_un un_neg ha) ?_
  rintro s H Q ⟨w, en, rfl, R, E, P⟩
  refine ⟨w, en, rfl, R, E, (Post.bind P).imp ?_⟩
  rintro v H1 ⟨w1, x, rfl, X1, R1, rx, P1⟩
  cases x with
  | int i => cases rx; exact ⟨i, rfl, Post.now P1 R1 (.int _)⟩
  | _ => exact False.elim P1
def aNil : AM := fun _ S => .ok [] S
def aCons (a : EM) (r : AM) : AM := fun e S => (a e S).bind fun x S1 => (r e S1).bind fun xs S2 => .ok (x :: xs) S2
theorem ra_nil : RA X W [] aNil := pa_imp pa_nil fun s H Q ⟨w, en, hw, R, E, P⟩ => by
  subst hw
  exact Post.now P R .nil
theorem ra_cons {mr : AM} (ha : RE X W e ma) (hr : RA X W es mr) (hs : starEach (e :: es) X.env = (false, eval e X.env) :: starEach es X.env := by rfl) : RA X W (e :: es) (aCons ma mr) := by
  refine pa_imp (pa_cons ha hr hs) ?_
  rintro s H Q ⟨w, en, rfl, R, E, P⟩
  refine ⟨w, en, rfl, R, E, (Post.bind P).imp ?_⟩
  rintro v H1 ⟨w1, x, rfl, X1, R1, rx, P1⟩
  refine ⟨w1, en, rfl, R1, E.ext X1.toEx0, (Post.bind P1).imp ?_⟩
  rintro vs H2 ⟨w2, y, rfl, X2, R2, ry, P2⟩
  exact Post.now P2 R2 (.cons (rx.ext X2.toEx0) ry)
def eTup (m : AM) : EM := fun e S => (m e S).bind fun xs S1 => if xs.length ≤ sizeLine then .ok (.tup xs) S1 else .stuck
def eLst (m : AM) : EM := fun e S => (m e S).bind fun xs S1 => if xs.length ≤ sizeLine then .ok (.lst xs) S1 else .stuck
def eNew (m : AM) : EM := fun e S => (m e S).bind fun xs S1 => if xs.length ≤ sizeLine then .ok (.loc S1.length) (S1 ++ [.lst xs]) else .stuck
theorem re_tup {m : AM} {x1} (h : RA X W es m) : RE X W (.Tuple es x1 pos) (eTup m) := by
  refine pe_imp (pe_tup h) ?_
  rintro s H Q ⟨w, en, rfl, R, E, P⟩
  refine ⟨w, en, rfl, R, E, (Post.bind P).imp ?_⟩
  rintro v H1 ⟨w1, x, rfl, X1, R1, rx, P1⟩
  dsimp only at P1
  split at P1
  · rename_i hz
    exact ⟨by rw [← rx.length]; exact hz, fun p hp => Post.put P1 R1 hp (.tup (.inl (put_st R1 hp).o) (rx.ext (put_ext R1 hp).toEx0))⟩
  · exact False.elim P1
theorem re_lst {m : AM} (h : RA X W es m) : RE X W (.List es pos) (eLst m) := by
  refine pe_imp (pe_lst h) ?_
  rintro s H Q ⟨w, en, rfl, R, E, P⟩
  refine ⟨w, en, rfl, R, E, (Post.bind P).imp ?_⟩
  rintro v H1 ⟨w1, x, rfl, X1, R1, rx, P1⟩
  dsimp only at P1
  split at P1
  · rename_i hz
    exact ⟨by rw [← rx.length]; exact hz, fun p hp => Post.put P1 R1 hp (.lst (put_st R1 hp) (rx.ext (put_ext R1 hp).toEx0))⟩
  · exact False.elim P1
theorem Post.new {β γ : Type} {Rl : Wo → β → γ → Prop} {K : PySem.W.Frag} {mg : Str → Option Value} {w : Wo} {b : β} {v : γ} {Q : γ → Hp → Prop} {E : XK} {p : Addr} {o : HO} {c : Cell} (h : Post Rl K mg w (.ok b (w.st ++ [c])) Q E) (R : Rep K mg w) (hn : w.hp p = none)
    (hc : CellR K mg (w.new p o c) p c) (q : Rl (w.new p o c) b v) : Q v (upd w.hp p o) :=
  h (w.new p o c) v (new_ext R hn) (R.new hn hc) rfl q
theorem re_new {m : AM} (h : RA X W es m) : RE X W (.List es pos) (eNew m) := by
  refine pe_imp (pe_lst h) ?_
  rintro s H Q ⟨w, en, rfl, R, E, P⟩
  refine ⟨w, en, rfl, R, E, (Post.bind P).imp ?_⟩
  rintro v H1 ⟨w1, x, rfl, X1, R1, rx, P1⟩
  dsimp only at P1
  split at P1
  · rename_i hz
    refine ⟨by rw [← rx.length]; exact hz, fun p hp => Post.new P1 R1 hp ⟨v, upd_same, rx.ext (new_ext R1 hp).toEx0⟩ (.loc (new_get R1))⟩
  · exact False.elim P1
theorem re_dic0 : RE X W (.Dict [] [] pos) (eC (.dic [] [])) := by
  refine pe_imp pe_dnewK ?_
  rintro s H Q ⟨w, en, rfl, R, E, P⟩
  intro p hp
  exact Post.put P R hp (.dic (vs := []) (put_st R hp) rfl .nil)
end
end G
namespace G
open PySem L2
section
variable {X : Cx} {W : WX} {a b c e o : Expr} {es : List Expr} {ma mb mc me : EM} {ta tb : TM} {pos : Pos}
variable {K : PySem.W.Frag} {mg : Str → Option Value} {w : Wo}
def ixD (S : Store) : D → D → Option D
  | .tup l, .int i => atI l i
  | .lst l, .int i => atI l i
  | .scr l, .int i => atI l i
  | .str x, .int i => if x.length ≤ sizeLine then (atI x.cps.toList i).map fun c => .str ⟨#[c]⟩ else none
  | .loc n, .int i => match S[n]? with
    | some (.lst l) => atI l i
    | _ => none
  | _, _ => none
def OpMS (X : Cx) (f : Store → D → D → Option D) : R2 := fun v u H Q => ∃ w x y E, w.hp = H ∧ Rep X.K X.mg w ∧ RepD X.K X.mg w x v ∧ RepD X.K X.mg w y u ∧ Post (RepD X.K X.mg) X.K X.mg w (lf (f w.st x y) w.st) Q E
def eBinS (f : Store → D → D → Option D) (a b : EM) : EM := fun e S => (a e S).bind fun x S1 => (b e S1).bind fun y S2 => lf (f S2 x y) S2
theorem t_binS {f : Store → D → D → Option D} : ∀ s H Q, tG (RepD X.K X.mg) X W (eBinS f ma mb) s H Q → tOp (OpMS X f) (tG (RepD X.K X.mg) X W ma) (tG (RepD X.K X.mg) X W mb) s H Q := by
  rintro s H Q ⟨w, en, rfl, R, E, P⟩
  refine ⟨w, en, rfl, R, E, (Post.bind P).imp ?_⟩
  rintro v H1 ⟨w1, x, rfl, X1, R1, rx, P1⟩
  refine ⟨w1, en, rfl, R1, E.ext X1.toEx0, (Post.bind P1).imp ?_⟩
  rintro u H2 ⟨w2, y, rfl, X2, R2, ry, P2⟩
  exact ⟨w2, x, y, _, rfl, R2, rx.ext X2.toEx0, ry, P2⟩
theorem om_ix : IxR X (OpMS X ixD) := by
  intro va sl pins s σ H x y v u Q I rx ry h hs
  obtain ⟨w, dx, dy, E, rfl, R, qx, qy, P⟩ := h
  unfold ixD at P
  split at P
  · rename_i l i
    cases qy
    cases qx with
    | tup st r =>
      cases q : atI l i with
      | none => rw [q] at P; exact False.elim P
      | some d =>
        rw [q] at P
        obtain ⟨z, e1, rz⟩ := r.at q
        exact ix_tup va sl pins s σ w.hp _ _ v u Q I rx ry ⟨_, _, _, _, rfl, rfl, st.sq, e1, Post.now P R rz⟩ hs
  · rename_i l i
    cases qy
    cases qx with
    | lst st r =>
      cases q : atI l i with
      | none => rw [q] at P; exact False.elim P
      | some d =>
        rw [q] at P
        obtain ⟨z, e1, rz⟩ := r.at q
        exact ix_list va sl pins s σ w.hp _ _ v u Q I rx ry ⟨_, _, _, _, rfl, rfl, SqL.of st.1, e1, Post.now P R rz⟩ hs
  · rename_i l i
    cases qy
    cases qx with
    | scr st r =>
      cases q : atI l i with
      | none => rw [q] at P; exact False.elim P
      | some d =>
        rw [q] at P
        obtain ⟨z, e1, rz⟩ := r.at q
        exact ix_list va sl pins s σ w.hp _ _ v u Q I rx ry ⟨_, _, _, _, rfl, rfl, st.sq, e1, Post.now P R rz⟩ hs
  · rename_i z i
    cases qy; cases qx
    split at P
    · rename_i hz
      cases q : atI z.cps.toList i with
      | none => rw [q] at P; exact False.elim P
      | some ch =>
        rw [q] at P
        exact ix_str va sl pins s σ w.hp _ _ v u Q I rx ry ⟨_, _, _, rfl, rfl, hz, q, Post.now P R (.str _)⟩ hs
    · exact False.elim P
  · rename_i n i
    cases qy
    cases qx with
    | loc hn =>
      split at P
      · rename_i l hl
        obtain ⟨vs, p, r⟩ := R.cell _ _ _ hn hl
        cases q : atI l i with
        | none => rw [q] at P; exact False.elim P
        | some d =>
          rw [q] at P
          obtain ⟨z, e1, rz⟩ := r.at q
          exact ix_list va sl pins s σ w.hp _ _ v u Q I rx ry ⟨_, _, _, _, rfl, rfl, SqL.of p, e1, Post.now P R rz⟩ hs
      · exact False.elim P
  · exact False.elim P
theorem re_ix (ha : RE X W a ma) (hb : RE X W b mb) (hs : PlainIx b := by intro _ _; rfl) : RE X W (.Subscript a b pos) (eBinS ixD ma mb) := pe_imp (pe_ix om_ix ha hb hs) t_binS
abbrev OM := En → Store → Res (Option Int)
def RlO : Wo → Option Int → Option Int → Prop := fun _ b c => c = b
abbrev RO (X : Cx) (W : WX) (e : Option Expr) (m : OM) : Prop := PO X e (tG RlO X W m)
def oNone : OM := fun _ S => .ok none S
def oSome (m : EM) : OM := fun e S => (m e S).bind fun x S1 => match x with
  | .int i => .ok (some i) S1
  | _ => .stuck
theorem ro_none : RO X W none oNone := ⟨fun pins s σ H Q I ⟨w, en, hw, R, E, P⟩ => po_none.run pins s σ H Q I (by subst hw; exact Post.now P R rfl)⟩
theorem ro_some (ha : RE X W a ma) : RO X W (some a) (oSome ma) := ⟨fun pins s σ H Q I hq => (po_some ha).run pins s σ H Q I (by
  obtain ⟨w, en, rfl, R, E, P⟩ := hq
  refine ⟨w, en, rfl, R, E, (Post.bind P).imp ?_⟩
  rintro v H1 ⟨w1, x, rfl, X1, R1, rx, P1⟩
  cases x with
  | int i => cases rx; exact ⟨i, rfl, Post.now P1 R1 rfl⟩
  | _ => exact False.elim P1)⟩
def cutL {α : Type} (l : List α) (lo hi : Option Int) : List α := (l.drop (HT.sIx l.length 0 lo)).take (HT.sIx l.length l.length hi - HT.sIx l.length 0 lo)
theorem RepL.cut {l : List D} {vs : List V} (h : RepL K mg w l vs) (lo hi : Option Int) : RepL K mg w (cutL l lo hi) (cutV vs lo hi) := by
  unfold cutL cutV
  rw [h.length]
  exact (h.drop _).take _
def slD (S : Store) : D → Option Int → Option Int → Option D
  | .lst l, lo, hi => some (.lst (cutL l lo hi))
  | .scr l, lo, hi => some (.lst (cutL l lo hi))
  | .tup l, lo, hi => if HT.sIx l.length 0 lo = 0 ∧ HT.sIx l.length l.length hi = l.length then none else some (.tup (cutL l lo hi))
  | .loc n, lo, hi => match S[n]? with
    | some (.lst l) => some (.lst (cutL l lo hi))
    | _ => none
  | .str x, lo, hi => if x.length ≤ sizeLine then some (.str (cutS x lo hi)) else none
  | _, _, _ => none
def SlM (X : Cx) : V → Option Int → Option Int → Hp → VK → Prop := fun v lo hi H Q => ∃ w x E, w.hp = H ∧ Rep X.K X.mg w ∧ RepD X.K X.mg w x v ∧ Post (RepD X.K X.mg) X.K X.mg w (lf (slD w.st x lo hi) w.st) Q E
theorem om_sl : SlR X (SlM X) := by
  intro pins s σ H x v vl vu lo hi sl Q I rx hs pl pu h
  obtain ⟨w, dx, E, rfl, R, qx, P⟩ := h
  unfold slD at P
  split at P
  · cases qx with
    | lst st r => exact sl_list pins s σ w.hp _ v vl vu _ _ sl Q I rx hs pl pu ⟨_, _, rfl, SqL.of st.1, fun p hp => Post.put P R hp (.lst (put_st R hp) ((r.cut _ _).ext (put_ext R hp).toEx0))⟩
  · cases qx with
    | scr st r => exact sl_list pins s σ w.hp _ v vl vu _ _ sl Q I rx hs pl pu ⟨_, _, rfl, st.sq, fun p hp => Post.put P R hp (.lst (put_st R hp) ((r.cut _ _).ext (put_ext R hp).toEx0))⟩
  · split at P
    · exact False.elim P
    · rename_i hn
      cases qx with
      | tup st r =>
        rw [r.length] at hn
        exact sl_tup pins s σ w.hp _ v vl vu _ _ sl Q I rx hs pl pu ⟨_, _, rfl, st.sq, hn, fun p hp => Post.put P R hp (.tup (.inl (put_st R hp).o) ((r.cut _ _).ext (put_ext R hp).toEx0))⟩
  · cases qx with
    | loc hn =>
      split at P
      · rename_i l hl
        obtain ⟨vs, p, r⟩ := R.cell _ _ _ hn hl
        exact sl_list pins s σ w.hp _ v vl vu _ _ sl Q I rx hs pl pu ⟨_, _, rfl, SqL.of p, fun p hp => Post.put P R hp (.lst (put_st R hp) ((r.cut _ _).ext (put_ext R hp).toEx0))⟩
      · exact False.elim P
  · split at P
    · rename_i hz
      cases qx
      exact sl_str pins s σ w.hp _ v vl vu _ _ sl Q I rx hs pl pu ⟨_, rfl, hz, Post.now P R (.str _)⟩
    · exact False.elim P
  · exact False.elim P
def eSl (a : EM) (lo hi : OM) : EM := fun e S => (a e S).bind fun x S1 => (lo e S1).bind fun l S2 => (hi e S2).bind fun h S3 => lf (slD S3 x l h) S3
theorem re_sl {lo hi : Option Expr} {ml mh : OM} {p2 : Pos} (ha : RE X W a ma) (hl : RO X W lo ml) (hh : RO X W hi mh) : RE X W (.Subscript a (.Slice lo hi none p2) pos) (eSl ma ml mh) := by
  refine pe_imp (pe_slice om_sl ha hl hh) ?_
  rintro s H Q ⟨w, en, rfl, R, E, P⟩
  refine ⟨w, en, rfl, R, E, (Post.bind P).imp ?_⟩
  rintro v H1 ⟨w1, x, rfl, X1, R1, rx, P1⟩
  refine ⟨w1, en, rfl, R1, E.ext X1.toEx0, (Post.bind P1).imp ?_⟩
  rintro l H2 ⟨w2, y, rfl, X2, R2, ry, P2⟩
  cases ry
  refine ⟨w2, en, rfl, R2, (E.ext X1.toEx0).ext X2.toEx0, (Post.bind P2).imp ?_⟩
  rintro h H3 ⟨w3, z, rfl, X3, R3, rz, P3⟩
  cases rz
  exact ⟨w3, x, _, rfl, R3, (rx.ext X2.toEx0).ext X3.toEx0, P3⟩
def CaM (X : Cx) (f : Store → List D → Option D) : List V → Hp → VK → Prop := fun vs H Q => ∃ w xs E, w.hp = H ∧ Rep X.K X.mg w ∧ RepL X.K X.mg w xs vs ∧ Post (RepD X.K X.mg) X.K X.mg w (lf (f w.st xs) w.st) Q E
def eCa (f : Store → List D → Option D) (m : AM) : EM := fun e S => (m e S).bind fun xs S1 => lf (f S1 xs) S1
theorem t_ca {f : Store → List D → Option D} {m : AM} : ∀ s H Q, tG (RepD X.K X.mg) X W (eCa f m) s H Q → tCB (CaM X f) (tG (RepL X.K X.mg) X W m) s H Q := by
  rintro s H Q ⟨w, en, rfl, R, E, P⟩
  refine ⟨w, en, rfl, R, E, (Post.bind P).imp ?_⟩
  rintro v H1 ⟨w1, x, rfl, X1, R1, rx, P1⟩
  exact ⟨w1, x, _, rfl, R1, rx, P1⟩
theorem re_b {x : Str} {p : Pos} {id : String} {f : Store → List D → Option D} {m : AM} (hc : CallR X (.builtin id) (CaM X f)) (hg : Gl X x) (hm : X.mg x = none) (hv : bootBuiltins x = some (.builtin id)) (ha : RA X W (e :: es) m) (hn : x ≠ "__name__" := by decide) (hdb : (x == ("__debug__" : Str)) = false := by decide)
    (he : starEach (e :: es) X.env = (false, eval e X.env) :: starEach es X.env := by rfl) (hpl : (backTo pos (starEach es X.env)).any (·.1) = false := by rfl) : RE X W (.Call (.Name x p) (e :: es) [] pos) (eCa f m) :=
  pe_imp (pe_callB hc hg hm hv ha hn hdb he hpl) t_ca
theorem re_ty {x : Str} {p : Pos} {T : String} {f : Store → List D → Option D} {m : AM} (hc : CallR X (.type T) (CaM X f)) (hg : Gl X x) (hm : X.mg x = none) (hv : bootBuiltins x = some (.type T)) (ha : RA X W (e :: es) m) (hn : x ≠ "__name__" := by decide) (hdb : (x == ("__debug__" : Str)) = false := by decide)
    (he : starEach (e :: es) X.env = (false, eval e X.env) :: starEach es X.env := by rfl) (hpl : (backTo pos (starEach es X.env)).any (·.1) = false := by rfl) : RE X W (.Call (.Name x p) (e :: es) [] pos) (eCa f m) :=
  pe_imp (pe_callTy hc hg hm hv ha hn hdb he hpl) t_ca
theorem RepL.nil_inv {vs : List V} (h : RepL K mg w [] vs) : vs = [] := by cases h; rfl
theorem RepL.cons_inv {d : D} {l : List D} {vs : List V} (h : RepL K mg w (d :: l) vs) : ∃ v us, vs = v :: us ∧ RepD K mg w d v ∧ RepL K mg w l us := by
  cases h with
  | cons r t => exact ⟨_, _, rfl, r, t⟩
theorem RepL.one_inv {d : D} {vs : List V} (h : RepL K mg w [d] vs) : ∃ v, vs = [v] ∧ RepD K mg w d v := by
  obtain ⟨v, us, rfl, r, t⟩ := h.cons_inv
  rw [t.nil_inv]
  exact ⟨v, rfl, r⟩
theorem RepL.two_inv {d d' : D} {vs : List V} (h : RepL K mg w [d, d'] vs) : ∃ v v', vs = [v, v'] ∧ RepD K mg w d v ∧ RepD K mg w d' v' := by
  obtain ⟨v, us, rfl, r, t⟩ := h.cons_inv
  obtain ⟨v', rfl, r'⟩ := t.one_inv
  exact ⟨v, v', rfl, r, r'⟩
def fAbs : Store → List D → Option D
  | _, [.int i] => some (.int (if i < 0 then -i else i))
  | _, _ => none
theorem cm_abs : CallR X (.builtin "abs") (CaM X fAbs) := by
  intro pins s σ H xs us Q I r h
  obtain ⟨w, ds, E, rfl, R, q, P⟩ := h
  unfold fAbs at P
  split at P
  · obtain ⟨v, rfl, rv⟩ := q.one_inv
    cases rv
    exact call_abs pins s σ w.hp _ us Q I r ⟨_, rfl, Post.now P R (.int _)⟩
  · exact False.elim P
def fMax : Store → List D → Option D
  | _, [.int i, .int j] => some (.int (if j > i then j else i))
  | _, _ => none
theorem cm_max (hc : X.calm = true) : CallR X (.builtin "max") (CaM X fMax) := by
  intro pins s σ H xs us Q I r h
  obtain ⟨w, ds, E, rfl, R, q, P⟩ := h
  unfold fMax at P
  split at P
  · obtain ⟨v, v', rfl, rv, rv'⟩ := q.two_inv
    cases rv; cases rv'
    exact call_max2 hc pins s σ w.hp _ us Q I r ⟨_, _, rfl, Post.now P R (.int _)⟩
  · exact False.elim P
def fMin : Store → List D → Option D
  | _, [.int i, .int j] => some (.int (if j < i then j else i))
  | _, _ => none
theorem cm_min (hc : X.calm = true) : CallR X (.builtin "min") (CaM X fMin) := by
  intro pins s σ H xs us Q I r h
  obtain ⟨w, ds, E, rfl, R, q, P⟩ := h
  unfold fMin at P
  split at P
  · obtain ⟨v, v', rfl, rv, rv'⟩ := q.two_inv
    cases rv; cases rv'
    exact call_min2 hc pins s σ w.hp _ us Q I r ⟨_, _, rfl, Post.now P R (.int _)⟩
  · exact False.elim P
def fLen : Store → List D → Option D
  | S, [d] => (lenD S d).map fun n => .int n
  | _, _ => none
theorem cm_len : CallR X (.builtin "len") (CaM X fLen) := by
  intro pins s σ H xs us Q I r h
  obtain ⟨w, ds, E, rfl, R, q, P⟩ := h
  unfold fLen at P
  split at P
  · rename_i d
    obtain ⟨v, rfl, rv⟩ := q.one_inv
    cases e : lenD w.st d with
    | none => rw [e] at P; exact False.elim P
    | some n =>
      rw [e] at P
      exact call_len pins s σ w.hp _ us Q I r ⟨_, n, rfl, rv.len R e, Post.now P R (.int _)⟩
  · exact False.elim P
def bools : List D → Option (List Bool)
  | [] => some []
  | .bl b :: l => (bools l).map (b :: ·)
  | _ :: _ => none
theorem RepL.bools {l : List D} {vs : List V} {bs : List Bool} (h : RepL K mg w l vs) (e : bools l = some bs) : vs = bs.map V.bl := by
  induction l generalizing vs bs with
  | nil => cases h; cases e; rfl
  | cons d l ih =>
    cases h with
    | cons r t =>
      cases d with
      | bl b =>
        cases r
        rw [G.bools] at e
        obtain ⟨cs, e1, rfl⟩ := Option.map_eq_some_iff.mp e
        rw [ih t e1]; rfl
      | _ => cases e
def fAll : Store → List D → Option D
  | S, [d] => ((seqD S d).bind bools).map fun bs => .bl (bs.all id)
  | _, _ => none
theorem cm_all (hc : X.calm = true) : CallR X (.builtin "all") (CaM X fAll) := by
  intro pins s σ H xs us Q I r h
  obtain ⟨w, ds, E, rfl, R, q, P⟩ := h
  unfold fAll at P
  split at P
  · rename_i d
    obtain ⟨v, rfl, rv⟩ := q.one_inv
    cases e : (seqD w.st d).bind bools with
    | none => rw [e] at P; exact False.elim P
    | some bs =>
      rw [e] at P
      obtain ⟨l, e1, e2⟩ := Option.bind_eq_some_iff.mp e
      obtain ⟨a, vs, rfl, hs, hl⟩ := rv.seq R e1
      exact cr_all hc pins s σ w.hp _ us Q I r ⟨a, bs, rfl, by rw [← hl.bools e2]; exact hs, Post.now P R (.bl _)⟩
  · exact False.elim P
def fList : Store → List D → Option D
  | _, [.tup l] => some (.lst l)
  | S, [d] => (seqD S d).map .lst
  | _, _ => none
theorem cm_list : CallR X (.type "list") (CaM X fList) := by
  intro pins s σ H xs us Q I r h
  obtain ⟨w, ds, E, rfl, R, q, P⟩ := h
  unfold fList at P
  split at P
  · obtain ⟨v, rfl, rv⟩ := q.one_inv
    cases rv with
    | tup st rl => exact call_list_of pins s σ w.hp _ us Q I r ⟨_, _, rfl, .inr st.sq, fun p hp => Post.put P R hp (.lst (put_st R hp) (rl.ext (put_ext R hp).toEx0))⟩
  · rename_i d _
    obtain ⟨v, rfl, rv⟩ := q.one_inv
    cases e : seqD w.st d with
    | none => rw [e] at P; exact False.elim P
    | some l =>
      rw [e] at P
      obtain ⟨a, vs, rfl, hs, hl⟩ := rv.seq R e
      exact call_list_of pins s σ w.hp _ us Q I r ⟨_, _, rfl, .inl hs, fun p hp => Post.put P R hp (.lst (put_st R hp) (hl.ext (put_ext R hp).toEx0))⟩
  · exact False.elim P
def fTuple : Store → List D → Option D
  | _, [.tup l] => some (.tup l)
  | S, [d] => (seqD S d).map .tup
  | _, _ => none
theorem cm_tuple : CallR X (.type "tuple") (CaM X fTuple) := by
  intro pins s σ H xs us Q I r h
  obtain ⟨w, ds, E, rfl, R, q, P⟩ := h
  unfold fTuple at P
  split at P
  · obtain ⟨v, rfl, rv⟩ := q.one_inv
    cases rv with
    | tup st rl => exact call_tuple_of pins s σ w.hp _ us Q I r ⟨_, _, rfl, .inr ⟨st.sq, Post.now P R (.tup st rl)⟩⟩
  · rename_i d _
    obtain ⟨v, rfl, rv⟩ := q.one_inv
    cases e : seqD w.st d with
    | none => rw [e] at P; exact False.elim P
    | some l =>
      rw [e] at P
      obtain ⟨a, vs, rfl, hs, hl⟩ := rv.seq R e
      exact call_tuple_of pins s σ w.hp _ us Q I r ⟨_, _, rfl, .inl ⟨hs, fun p hp => Post.put P R hp (.tup (.inl (put_st R hp).o) (hl.ext (put_ext R hp).toEx0))⟩⟩
  · exact False.elim P
theorem bt_isinstance : bootBuiltins "isinstance" = some (.builtin "isinstance") := by decide +kernel
theorem bt_abs : bootBuiltins "abs" = some (.builtin "abs") := by decide +kernel
theorem bt_max : bootBuiltins "max" = some (.builtin "max") := by decide +kernel
theorem bt_min : bootBuiltins "min" = some (.builtin "min") := by decide +kernel
theorem bt_len : bootBuiltins "len" = some (.builtin "len") := by decide +kernel
theorem bt_divmod : bootBuiltins "divmod" = some (.builtin "divmod") := by decide +kernel
theorem bt_all : bootBuiltins "all" = some (.builtin "all") := by decide +kernel
theorem bt_int : bootBuiltins "int" = some (.type "int") := by decide +kernel
theorem bt_bool : bootBuiltins "bool" = some (.type "bool") := by decide +kernel
theorem bt_str : bootBuiltins "str" = some (.type "str") := by decide +kernel
theorem bt_list : bootBuiltins "list" = some (.type "list") := by decide +kernel
theorem bt_tuple : bootBuiltins "tuple" = some (.type "tuple") := by decide +kernel
theorem bt_ValueError : bootBuiltins "ValueError" = some (.type "ValueError") := by decide +kernel
def Tn.is : Tn → Ty → Bool
  | .int, .int => true
  | .bool, .int => true
  | .bool, .bool => true
  | .str, .str => true
  | .tuple, .tuple => true
  | .list, .list => true
  | .dict, .dict => true
  | _, _ => false
theorem Tn.kit (t : Tn) (y : Ty) : L2.kitB t.nm y.nm = some (t.is y) := by
  cases t <;> cases y <;> decide +kernel
def tyC : Option Cell → Option Tn
  | some (.lst _) => some .list
  | some (.dk _) => some .dict
  | _ => none
def tyD (S : Store) : D → Option Tn
  | .non => some .non
  | .bl _ => some .bool
  | .int _ => some .int
  | .str _ => some .str
  | .tup _ => some .tuple
  | .lst _ => some .list
  | .scr _ => some .list
  | .dic _ _ => some .dict
  | .loc n => tyC S[n]?
  | .exc _ _ => none
  | .ins _ _ => none
  | .fa _ => none
  | .pin _ _ => none
def isTy (S : Store) (y : Ty) (d : D) : Option Bool := (tyD S d).map fun t => t.is y
theorem RepD.tyX {d : D} {v : V} {t : Tn} (R : Rep K mg w) (h : RepD K mg w d v) (e : tyD w.st d = some t) : TyX K w.hp v (.type t.nm) := by
  cases h with
  | non => cases e; exact .base .non
  | bl k => cases e; exact .base (.bl k)
  | int i => cases e; exact .base (.int i)
  | str x => cases e; exact .base (.str x)
  | tup s r =>
    cases e
    rcases s with ⟨s | ⟨o, s⟩, _⟩ | ⟨o, its, n, hk, hc, _⟩
    · exact .base (.tup s)
    · exact .fTuple s
    · exact .kTuple hk hc
  | lst s r => cases e; exact .base (.lst s.1)
  | scr s r =>
    cases e
    rcases s with ⟨s | ⟨o, s⟩, _⟩ | ⟨o, its, n, hk, hc, _⟩
    · exact .base (.lst s)
    · exact .base (.frz s)
    · exact .kList hk hc
  | dic s z r => cases e; exact .base (.dK s.1)
  | @loc m a hn =>
    replace e : tyC w.st[m]? = some t := e
    cases q : w.st[m]? with
    | none => rw [q] at e; cases e
    | some cl =>
      rw [q] at e
      cases cl with
      | lst l =>
        cases e
        obtain ⟨vs, p, r⟩ := R.cell _ _ _ hn q
        exact .base (.lst p)
      | dk l =>
        cases e
        obtain ⟨vs, p, r⟩ := R.cell _ _ _ hn q
        exact .base (.dK p)
      | _ => cases e
  | ins _ _ _ => cases e
  | exc _ _ _ _ => cases e
  | fa _ => cases e
  | pin _ => cases e
def eIsTy (y : Ty) (m : EM) : EM := fun e S => (m e S).bind fun x S1 => lf ((isTy S1 y x).map .bl) S1
theorem re_isTy {T : Str} {p p2 : Pos} (y : Ty) (hm : X.mg "isinstance" = none) (hT : X.mg T = none) (hv : bootBuiltins T = some (.type y.nm)) (ha : RE X W a ma) (hg : Gl X "isinstance" := by rfl) (hgT : Gl X T := by rfl) (hn : T ≠ "__name__" := by decide) (hdT : (T == ("__debug__" : Str)) = false := by decide)
    (he : starEach (a :: [.Name T p2]) X.env = (false, eval a X.env) :: starEach [.Name T p2] X.env := by rfl) (hpl : (backTo pos (starEach [.Name T p2] X.env)).any (·.1) = false := by rfl) (hs2 : starEach [.Name T p2] X.env = (false, eval (.Name T p2) X.env) :: starEach [] X.env := by rfl) :
    RE X W (.Call (.Name "isinstance" p) [a, .Name T p2] [] pos) (eIsTy y ma) := by
  refine pe_imp (pe_callB call_isi hg hm bt_isinstance (pa_cons ha (pa_cons (pe_bltn (v := .ty y.nm) hgT hT hv rfl hn hdT) pa_nil hs2) he) (by decide) (by decide) he hpl) ?_
  rintro s H Q ⟨w, en, rfl, R, E, P⟩
  refine ⟨w, en, rfl, R, E, (Post.bind P).imp ?_⟩
  rintro v H1 ⟨w1, d, rfl, X1, R1, rx, P1⟩
  dsimp only at P1
  unfold isTy at P1
  cases q : tyD w1.st d with
  | none => rw [q] at P1; exact False.elim P1
  | some t =>
    rw [q] at P1
    exact ⟨v, .ty y.nm, .type t.nm, .type y.nm, t.is y, rfl, .ty _, rx.tyX R1 q, kit_ty (t.kit y), Post.now P1 R1 (.bl _)⟩
end
end G
namespace G
open PySem L2
abbrev RS (X : Cx) (W : WX) (st : Stmt) (m : SM) : Prop := PS X st (tS X W m)
abbrev RSs (X : Cx) (W : WX) (st : List Stmt) (m : SM) : Prop := PSs X st (tS X W m)
section
variable {X : Cx} {W : WX} {a b c e o : Expr} {es : List Expr} {ma mb mc me : EM} {ta tb : TM} {pos : Pos} {st : Stmt} {rest : List Stmt} {m n : SM}
theorem ps_imp {t t' : TS} (h : PS X st t) (i : ∀ D s H, t' D s H → t D s H) : PS X st t' := ⟨fun pins s σ H D I q => h.run pins s σ H D I (i _ _ _ q)⟩
theorem pss_imp {t t' : TS} (h : PSs X rest t) (i : ∀ D s H, t' D s H → t D s H) : PSs X rest t' := ⟨fun pins s σ H D I q => h.run pins s σ H D I (i _ _ _ q)⟩
def sNop : SM := fun e S => .nxt e S
theorem rss_nil : RSs X W [] sNop := pss_imp pss_nil fun D s H ⟨w, en, hw, R, E, P⟩ => by
  subst hw
  exact P w s (Ext.refl w) R rfl E
def sSeq (m n : SM) : SM := fun e S => sS (m e S) n
theorem rss_cons (h1 : RS X W st m) (h2 : RSs X W rest n) : RSs X W (st :: rest) (sSeq m n) := by
  refine pss_imp (pss_cons h1 h2) ?_
  rintro D s H ⟨w, en, rfl, R, E, P⟩
  exact ⟨w, en, rfl, R, E, PostS.s P⟩
theorem rss_one (h1 : RS X W st m) : RSs X W [st] m := pss_one h1
def sBrk : SM := fun e S => .brk e S
def sCnt : SM := fun e S => .cnt e S
def sDrop (m : EM) : SM := fun e S => sE (m e S) e fun _ S1 => .nxt e S1
theorem rs_expr (he : RE X W e me) (hs : swapsWith e none pos.line X.env = pure false := by rfl) : RS X W (.Expr e pos) (sDrop me) := by
  refine ps_imp (ps_expr he hs) ?_
  rintro D s H ⟨w, en, rfl, R, E, P⟩
  refine ⟨w, en, rfl, R, E, (PostS.of P E).imp ?_⟩
  rintro v H1 ⟨w1, x, rfl, X1, R1, rx, P1⟩
  exact P1 w1 s (Ext.refl w1) R1 rfl (E.ext X1.toEx0)
def sRet (m : EM) : SM := fun e S => sE (m e S) e fun d S1 => .ret d S1
theorem rs_ret (he : RE X W e me) : RS X W (.Return (some e) pos) (sRet me) := by
  refine ps_imp (ps_ret he) ?_
  rintro D s H ⟨w, en, rfl, R, E, P⟩
  refine ⟨w, en, rfl, R, E, (PostS.of P E).imp ?_⟩
  rintro v H1 ⟨w1, x, rfl, X1, R1, rx, P1⟩
  exact P1 w1 v (Ext.refl w1) R1 rfl rx
def sRetN : SM := fun e S => .ret .non S
def sIf (t : TM) (m n : SM) : SM := fun e S => sE (t e S) e fun k S1 => if k then m e S1 else n e S1
theorem rs_if {p q : List Stmt} (hc : RT X W c ta) (ha : RSs X W p m) (hb : RSs X W q n) : RS X W (.If c p q pos) (sIf ta m n) := by
  refine ps_imp (ps_if hc ha hb) ?_
  rintro D s H ⟨w, en, rfl, R, E, P⟩
  refine ⟨w, en, rfl, R, E, (PostS.of P E).imp ?_⟩
  rintro v H1 ⟨w1, x, rfl, X1, R1, rx, P1⟩
  cases rx
  dsimp only at P1
  cases v with
  | true =>
    rw [if_pos rfl] at P1 ⊢
    exact ⟨w1, en, rfl, R1, E.ext X1.toEx0, P1⟩
  | false =>
    rw [if_neg Bool.false_ne_true] at P1 ⊢
    exact ⟨w1, en, rfl, R1, E.ext X1.toEx0, P1⟩
abbrev GM := D → En → Store → Res En
def tGt (X : Cx) (W : WX) (g : GM) : TG := fun v s H Q => ∃ w e d, w.hp = H ∧ Rep X.K X.mg w ∧ RepE X.K X.mg w e s ∧ RepD X.K X.mg w d v ∧ Post (RepE X.K X.mg) X.K X.mg w (g d e w.st) Q (fun cls dd H' => W cls dd s H')
abbrev RG (X : Cx) (W : WX) (tg : Expr) (g : GM) : Prop := PG X tg (tGt X W g)
theorem pg_imp {tg : Expr} {t t' : TG} (h : PG X tg t) (i : ∀ v s H Q, t' v s H Q → t v s H Q) : PG X tg t' := ⟨fun pins s σ H v u Q I r q => h.run pins s σ H v u Q I r (i _ _ _ _ q)⟩
def gN (i : Nat) : GM := fun d e S => .ok (e.set i (some d)) S
theorem rg_name {i : Nat} {x : Str} (hN : X.N.Nodup) (hi : X.N[i]? = some x) (hx : Loc X.env.scope x := by first | exact Or.inl rfl | exact Or.inr rfl) (hf : X.fn x = true ∨ X.env.scope.names.lookup x = some .local := by first | exact .inl rfl | exact .inr rfl | assumption) : RG X W (.Name x pos) (gN i) := by
  refine pg_imp (pg_name hN hi hx hf) ?_
  rintro v s H Q ⟨w, en, d, rfl, R, E, rd, P⟩
  exact Post.now P R (E.set i rd)
abbrev GMs := List D → En → Store → Res En
def tGts (X : Cx) (W : WX) (g : GMs) : TGs := fun vs s H Q => ∃ w e ds, w.hp = H ∧ Rep X.K X.mg w ∧ RepE X.K X.mg w e s ∧ RepL X.K X.mg w ds vs ∧ Post (RepE X.K X.mg) X.K X.mg w (g ds e w.st) Q (fun cls dd H' => W cls dd s H')
abbrev RGs (X : Cx) (W : WX) (ts : List Expr) (g : GMs) : Prop := PGs X ts (tGts X W g)
theorem pgs_imp {ts : List Expr} {t t' : TGs} (h : PGs X ts t) (i : ∀ v s H Q, t' v s H Q → t v s H Q) : PGs X ts t' := ⟨fun pins s σ H v u Q I r q => h.run pins s σ H v u Q I r (i _ _ _ _ q)⟩
def gsNil : GMs := fun ds e S => match ds with
  | [] => .ok e S
  | _ => .stuck
theorem rgs_nil : RGs X W [] gsNil := by
  refine pgs_imp pgs_nil ?_
  rintro v s H Q ⟨w, en, ds, rfl, R, E, rd, P⟩
  cases rd with
  | nil => exact ⟨rfl, Post.now P R E⟩
  | cons _ _ => exact False.elim P
def noX {β : Type} : Res β → Res β
  | .exc _ _ => .stuck
  | r => r
def gsCons' (g : GM) (r : GMs) : GMs := fun ds e S => match ds with
  | d :: ds => (noX (g d e S)).bind fun e1 S1 => noX (r ds e1 S1)
  | _ => .stuck
theorem Post.noX {β γ : Type} {Rl : Wo → β → γ → Prop} {K : PySem.W.Frag} {mg : Str → Option Value} {w : Wo} {r : Res β} {Q : γ → Hp → Prop} {E E' : XK} (h : Post Rl K mg w (G.noX r) Q E) : Post Rl K mg w r Q E' := by
  cases r with
  | ok _ _ => exact h
  | exc _ _ => exact False.elim h
  | stuck => exact h
theorem rgs_cons {tg : Expr} {ts : List Expr} {g : GM} {r : GMs} (h1 : RG X W tg g) (h2 : RGs X W ts r)
    (hs : (assignEach (tg :: ts) X.env).map (·.2) = assign tg X.env :: (assignEach ts X.env).map (·.2) := by rfl) : RGs X W (tg :: ts) (gsCons' g r) := by
  refine pgs_imp (pgs_cons h1 h2 hs) ?_
  rintro v s H Q ⟨w, en, ds, rfl, R, E, rd, P⟩
  cases rd with
  | nil => exact False.elim P
  | cons r1 r2 =>
    refine ⟨_, _, rfl, w, en, _, rfl, R, E, r1, Post.noX (E := fun cls dd H' => W cls dd s H') ((Post.bind P).imp ?_)⟩
    rintro s1 H1 ⟨w1, e1, rfl, X1, R1, E1, P1⟩
    exact ⟨w1, e1, _, rfl, R1, E1, r2.ext X1.toEx0, Post.noX P1⟩
def gTp (n : Nat) (r : GMs) : GM := fun d e S => match d with
  | .tup ds => if ds.length = n then r ds e S else .stuck
  | _ => .stuck
theorem rg_tup {ts : List Expr} {k n : Nat} {r : GMs} (hc : X.calm = true) (h : RGs X W ts r) (hn : (assignEach ts X.env).length = n := by rfl) (hst : (assignEach ts X.env).findIdx? (·.1) = none := by rfl) : RG X W (.Tuple ts k pos) (gTp n r) := by
  refine pg_imp (pg_tup hc h hn hst) ?_
  rintro v s H Q ⟨w, en, d, rfl, R, E, rd, P⟩
  unfold gTp at P
  split at P
  · split at P
    · rename_i hl
      cases rd with
      | tup st rl => exact ⟨_, _, rfl, st.sq, by rw [← rl.length]; exact hl, w, en, _, rfl, R, E, rl, P⟩
    · exact False.elim P
  · exact False.elim P
def setD (S : Store) (o i d : D) : Option Store := match o, i with
  | .loc n, .int k => match S[n]? with
    | some (.lst l) => (ixN l.length k).map fun j => S.set n (.lst (l.set j d))
    | _ => none
  | _, _ => none
def gSb (o i : EM) : GM := fun d e S => (noX (o e S)).bind fun x S1 => (noX (i e S1)).bind fun y S2 => match setD S2 x y d with
  | some S3 => .ok e S3
  | none => .stuck
theorem rg_sub (ho : RE X W o ma) (hi : RE X W b mb)
    (ha : ∀ v, assign (.Subscript o b pos) X.env v = (do
      let ov ← holding [v] (eval o X.env)
      let iv ← holding [v, ov] (eval b X.env)
      standAt pos
      holding [v, ov, iv] (setItem ov iv v)
      release [v, ov, iv] []) := by intro _; rfl) : RG X W (.Subscript o b pos) (gSb ma mb) := by
  refine pg_imp (pg_sub ho hi set_list ha) ?_
  rintro v s H Q ⟨w, en, d, rfl, R, E, rd, P⟩
  refine ⟨w, en, rfl, R, E, Post.noX (E := fun cls dd H' => W cls dd s H') ((Post.bind P).imp ?_)⟩
  rintro ov H1 ⟨w1, x, rfl, X1, R1, rx, P1⟩
  refine ⟨w1, en, rfl, R1, E.ext X1.toEx0, Post.noX (E := fun cls dd H' => W cls dd s H') ((Post.bind P1).imp ?_)⟩
  rintro iv H2 ⟨w2, y, rfl, X2, R2, ry, P2⟩
  have rx' := rx.ext X2.toEx0
  dsimp only at P2
  cases q : setD w2.st x y d with
  | none => rw [q] at P2; exact False.elim P2
  | some S3 =>
    rw [q] at P2
    unfold setD at q
    split at q
    · rename_i m k
      cases ry
      cases rx' with
      | @loc _ ad hn =>
        split at q
        · rename_i l hl
          obtain ⟨j, e1, rfl⟩ := Option.map_eq_some_iff.mp q
          obtain ⟨vs, p, r⟩ := R2.cell _ _ _ hn hl
          have rd' := (rd.ext X1.toEx0).ext X2.toEx0
          have Xw : Ext w2 (w2.wr m ad (.lst (vs.set j v)) (.lst (l.set j d))) := wr_ext R2 hn hl (by intro z; cases z)
          refine ⟨_, vs, k, j, rfl, rfl, p, by rw [← r.length]; exact e1, ?_⟩
          exact P2 (w2.wr m ad (.lst (vs.set j v)) (.lst (l.set j d))) s Xw (R2.wr hn hl (by intro z; cases z) ⟨_, upd_same, (r.set rd' j).ext Xw.toEx0⟩) rfl (((E.ext X1.toEx0).ext X2.toEx0).ext Xw.toEx0)
        · cases q
    · cases q
def sAsg (m : EM) (g : GM) : SM := fun e S => sE (m e S) e fun d S1 => sE (g d e S1) e fun e1 S2 => .nxt e1 S2
theorem rs_asg {tg : Expr} {g : GM} (he : RE X W e me) (hg : RG X W tg g) (hs : swapsWithSole [tg] e pos.line X.env = pure false := by rfl) (hw : swappedStores [tg] e X.env = pure none := by rfl)
    (h1 : (assignEach [tg] X.env).map (·.2) = [assign tg X.env] := by rfl) : RS X W (.Assign [tg] e pos) (sAsg me g) := by
  refine ps_imp (ps_asg he hg hs hw h1) ?_
  rintro D s H ⟨w, en, rfl, R, E, P⟩
  refine ⟨w, en, rfl, R, E, (PostS.of P E).imp ?_⟩
  rintro v H1 ⟨w1, x, rfl, X1, R1, rx, P1⟩
  refine ⟨w1, en, x, rfl, R1, E.ext X1.toEx0, rx, (PostS.of P1 (E.ext X1.toEx0)).imp ?_⟩
  rintro s1 H2 ⟨w2, e2, rfl, X2, R2, E2, P2⟩
  exact P2 w2 s1 (Ext.refl w2) R2 rfl E2
def sSet (i : Nat) (m : EM) : SM := fun e S => sE (m e S) e fun d S1 => .nxt (e.set i (some d)) S1
theorem rs_set {i : Nat} {x : Str} {pos' : Pos} (hN : X.N.Nodup) (hi : X.N[i]? = some x) (he : RE X W e me) (hx : Loc X.env.scope x := by first | exact Or.inl rfl | exact Or.inr rfl) (hs : swapsWith e (some (.Name x pos')) pos.line X.env = pure false := by rfl) (hf : X.fn x = true ∨ X.env.scope.names.lookup x = some .local := by first | exact .inl rfl | exact .inr rfl | assumption) :
    RS X W (.Assign [.Name x pos'] e pos) (sSet i me) := by
  refine ps_imp (ps_set hN hi hx he hs hf) ?_
  rintro D s H ⟨w, en, rfl, R, E, P⟩
  refine ⟨w, en, rfl, R, E, (PostS.of P E).imp ?_⟩
  rintro v H1 ⟨w1, x, rfl, X1, R1, rx, P1⟩
  exact P1 w1 _ (Ext.refl w1) R1 rfl ((E.ext X1.toEx0).set i rx)
def sPar (i j : Nat) (m : AM) : SM := fun e S => sE (m e S) e fun ds S1 => match ds with
  | [x, y] => .nxt ((e.set i (some x)).set j (some y)) S1
  | _ => .stuck
theorem rs_par {i j : Nat} {x y : Str} {m : AM} {px py pt : Pos} {kt k2 pt2} (hc : X.calm = true) (hN : X.N.Nodup) (hi : X.N[i]? = some x) (hj : X.N[j]? = some y) (hij : i ≠ j) (ha : RA X W [a, b] m)
    (hx : X.env.scope.names.lookup x = some .local := by rfl) (hy : X.env.scope.names.lookup y = some .local := by rfl)
    (hw : swappedStores [.Tuple [.Name x px, .Name y py] kt pt] (.Tuple [a, b] k2 pt2) X.env = pure (some [x, y]) := by rfl)
    (hs : swapsWithSole [.Tuple [.Name x px, .Name y py] kt pt] (.Tuple [a, b] k2 pt2) pos.line X.env = pure false := by rfl) :
    RS X W (.Assign [.Tuple [.Name x px, .Name y py] kt pt] (.Tuple [a, b] k2 pt2) pos) (sPar i j m) := by
  refine ps_imp (ps_par hc hN hi hj hij hx hy ha hw hs) ?_
  rintro D s H ⟨w, en, rfl, R, E, P⟩
  refine ⟨w, en, rfl, R, E, (PostS.of P E).imp ?_⟩
  rintro v H1 ⟨w1, ds, rfl, X1, R1, rx, P1⟩
  dsimp only at P1
  split at P1
  · obtain ⟨v, v', rfl, r1, r2⟩ := rx.two_inv
    exact ⟨v, v', rfl, P1 w1 _ (Ext.refl w1) R1 rfl (((E.ext X1.toEx0).set i r1).set j r2)⟩
  · exact False.elim P1
def wlR (t : TM) (m : SM) : Nat → SM
  | 0 => fun _ _ => .stuck
  | k + 1 => fun e S => sE (t e S) e fun b S1 => if b then (match m e S1 with
    | .nxt e2 S2 => wlR t m k e2 S2
    | .cnt e2 S2 => wlR t m k e2 S2
    | .brk e2 S2 => .nxt e2 S2
    | r => r) else .nxt e S1
theorem rs_while (k : Nat) {body : List Stmt} (hp : PassesOwn (model X.prog X.w) X.A X.env X.xe) (hc : RT X W c ta) (hb : RSs X W body m) : RS X W (.While c body [] pos) (wlR ta m k) := by
  refine ps_imp (ps_while hp hc hb) ?_
  rintro D s H ⟨w, en, rfl, R, E, P⟩
  refine ⟨fun j s H => ∃ w e, w.hp = H ∧ Rep X.K X.mg w ∧ RepE X.K X.mg w e s ∧ PostS X W w (wlR ta m j e w.st) D, ⟨k, w, en, rfl, R, E, P⟩, ?_⟩
  rintro j s H ⟨w, en, rfl, R, E, P⟩
  cases j with
  | zero => exact False.elim P
  | succ j =>
    refine ⟨w, en, rfl, R, E, (PostS.of P E).imp ?_⟩
    rintro v H1 ⟨w1, x, rfl, X1, R1, rx, P1⟩
    cases rx
    dsimp only at P1
    cases v with
    | false =>
      rw [if_neg Bool.false_ne_true] at P1 ⊢
      exact P1 w1 s (Ext.refl w1) R1 rfl (E.ext X1.toEx0)
    | true =>
      rw [if_pos rfl] at P1 ⊢
      refine ⟨fun s' H' => ∃ w e, w.hp = H' ∧ Rep X.K X.mg w ∧ RepE X.K X.mg w e s' ∧ PostS X W w (wlR ta m j e w.st) D, fun s' H' h => ⟨j, Nat.lt_succ_self j, h⟩, w1, en, rfl, R1, E.ext X1.toEx0, ?_⟩
      cases q : m en w1.st with
      | nxt e S =>
        rw [q] at P1
        exact fun w2 s2 x2 R2 st E2 => ⟨w2, e, rfl, R2, E2, by rw [st]; exact PostS.ext P1 x2⟩
      | cnt e S =>
        rw [q] at P1
        exact fun w2 s2 x2 R2 st E2 => ⟨w2, e, rfl, R2, E2, by rw [st]; exact PostS.ext P1 x2⟩
      | brk e S => rw [q] at P1; exact P1
      | ret e S => rw [q] at P1; exact P1
      | exc y e S => rw [q] at P1; exact P1
      | stuck => rw [q] at P1; exact P1
def ItsR (X : Cx) : Wo → List D → It → Prop := fun w ds J => ∀ w2, Ex0 w w2 → Fz w w2 → Rep X.K X.mg w2 →
  (∀ i, i < ds.length → J.go i w2.hp ∧ ∀ x H', J.yld i w2.hp x H' → ∃ w3 d, w3.hp = H' ∧ Ext w2 w3 ∧ Rep X.K X.mg w3 ∧ w3.st = w2.st ∧ w3.al = w2.al ∧ ds[i]? = some d ∧ RepD X.K X.mg w3 d x) ∧ J.stop ds.length w2.hp
abbrev RI (X : Cx) (W : WX) (tg it : Expr) (m : AM) : Prop := PI X tg it (tG (ItsR X) X W m)
theorem its_list {w : Wo} {ds : List D} {ad : Addr} {vs : List V} (st : ∀ w2, Ex0 w w2 → SqL X.K w2.hp ad vs) (r : RepL X.K X.mg w ds vs) : ItsR X w ds (Itl X.K ad) := by
  intro w2 x2 _ R2
  have s2 := st w2 x2
  refine ⟨fun i hi => ⟨⟨vs, vs[i]'(by rw [← r.length]; exact hi), s2, by simp⟩, fun x H' y => ?_⟩, ⟨vs, s2, by rw [r.length]; exact Nat.le_refl _⟩⟩
  obtain ⟨rfl, y⟩ := y
  obtain ⟨d, e1, rd⟩ := r.getV (y vs s2)
  exact ⟨w2, d, rfl, Ext.refl w2, R2, rfl, rfl, e1, rd.ext x2⟩
theorem its_tup {w : Wo} {ds : List D} {ad : Addr} {vs : List V} (st : ∀ w2, Ex0 w w2 → SqT X.K w2.hp ad vs) (r : RepL X.K X.mg w ds vs) : ItsR X w ds (Itt X.K ad) := by
  intro w2 x2 _ R2
  have s2 := st w2 x2
  refine ⟨fun i hi => ⟨⟨vs, vs[i]'(by rw [← r.length]; exact hi), s2, by simp⟩, fun x H' y => ?_⟩, ⟨vs, s2, by rw [r.length]; exact Nat.le_refl _⟩⟩
  obtain ⟨rfl, y⟩ := y
  obtain ⟨d, e1, rd⟩ := r.getV (y vs s2)
  exact ⟨w2, d, rfl, Ext.refl w2, R2, rfl, rfl, e1, rd.ext x2⟩
def iSeq (m : EM) : AM := fun e S => (m e S).bind fun d S1 => match d with
  | .tup l => .ok l S1
  | .lst l => .ok l S1
  | .scr l => .ok l S1
  | _ => .stuck
theorem ri_e {tg : Expr} (ha : RE X W a ma) : RI X W tg a (iSeq ma) := by
  refine ⟨fun pins s σ H R' I h => ?_⟩
  obtain ⟨w, en, rfl, R, E, P⟩ := h
  cases q : ma en w.st with
  | stuck => unfold iSeq at P; rw [q] at P; exact False.elim P
  | exc x S =>
    unfold iSeq at P; rw [q] at P
    exact (pi_list ha).run pins s σ w.hp R' I ⟨w, en, rfl, R, E, by rw [q]; exact P⟩
  | ok d S =>
    unfold iSeq at P; rw [q] at P
    cases d with
    | tup l =>
      refine (pi_tup ha).run pins s σ w.hp R' I ⟨w, en, rfl, R, E, ?_⟩
      rw [q]
      intro w1 v x1 R1 s1 r1
      cases r1 with
      | tup st rl => exact ⟨_, rfl, ⟨_, st.sq⟩, P w1 _ x1 R1 s1 (its_tup (fun w2 x2 => (st.ext x2).sq) rl)⟩
    | lst l =>
      refine (pi_list ha).run pins s σ w.hp R' I ⟨w, en, rfl, R, E, ?_⟩
      rw [q]
      intro w1 v x1 R1 s1 r1
      cases r1 with
      | lst st rl => exact ⟨_, rfl, ⟨_, SqL.of st.1⟩, P w1 _ x1 R1 s1 (its_list (fun w2 x2 => SqL.of (st.ext x2).1) rl)⟩
    | scr l =>
      refine (pi_list ha).run pins s σ w.hp R' I ⟨w, en, rfl, R, E, ?_⟩
      rw [q]
      intro w1 v x1 R1 s1 r1
      cases r1 with
      | scr st rl => exact ⟨_, rfl, ⟨_, st.sq⟩, P w1 _ x1 R1 s1 (its_list (fun w2 x2 => (st.ext x2).sq) rl)⟩
    | _ => exact False.elim P
def rangeD (lo : Int) (n : Nat) : List D := (List.range n).map fun k => .int (lo + (k : Nat))
theorem its_range {w : Wo} (lo : Int) (n : Nat) : ItsR X w (rangeD lo n) (Itr lo n) := by
  intro w2 x2 _ R2
  have hl : (rangeD lo n).length = n := by unfold rangeD; simp
  refine ⟨fun i hi => ⟨by rw [hl] at hi; exact hi, fun x H' y => ?_⟩, by rw [hl]; exact Nat.le_refl _⟩
  obtain ⟨rfl, rfl⟩ := y
  rw [hl] at hi
  exact ⟨w2, .int (lo + i), rfl, Ext.refl w2, R2, rfl, rfl, by unfold rangeD; simp [hi], .int _⟩
open Classical in
noncomputable def iRg1 (m : AM) : AM := fun e S => (m e S).bind fun ds S1 => match ds with
  | [.int j] => if -(2 ^ 62) ≤ j ∧ j < 2 ^ 62 then .ok (rangeD 0 j.toNat) S1 else .stuck
  | _ => .stuck
theorem ri_range1 {tg : Expr} {m : AM} {p : Pos} (hm : X.mg "range" = none) (ha : RA X W [a] m) (hg : Gl X "range" := by rfl) (hs : starEach [a] X.env = [(false, eval a X.env)] := by rfl) : RI X W tg (.Call (.Name "range" p) [a] [] pos) (iRg1 m) := by
  refine ⟨fun pins s σ H R' I h => (pi_range1 hg hm ha hs).run pins s σ H R' I ?_⟩
  obtain ⟨w, en, rfl, R, E, P⟩ := h
  refine ⟨w, en, rfl, R, E, (Post.bind P).imp ?_⟩
  rintro vs H1 ⟨w1, ds, rfl, X1, R1, rx, P1⟩
  dsimp only at P1
  split at P1
  · split at P1
    · rename_i hj
      obtain ⟨v, rfl, rv⟩ := rx.one_inv
      cases rv
      exact ⟨_, rfl, hj.1, hj.2, Post.now P1 R1 (its_range 0 _)⟩
    · exact False.elim P1
  · exact False.elim P1
open Classical in
noncomputable def iRg2 (m : AM) : AM := fun e S => (m e S).bind fun ds S1 => match ds with
  | [.int i, .int j] => if -(2 ^ 62) ≤ i ∧ i < 2 ^ 62 ∧ -(2 ^ 62) ≤ j ∧ j < 2 ^ 62 then .ok (rangeD i (j - i).toNat) S1 else .stuck
  | _ => .stuck
def fiR (g : GM) (m : SM) : List D → SM
  | [] => fun e S => .nxt e S
  | d :: ds => fun e S => sE (g d e S) e fun e1 S1 => match m e1 S1 with
    | .nxt e2 S2 => fiR g m ds e2 S2
    | .cnt e2 S2 => fiR g m ds e2 S2
    | .brk e2 S2 => .nxt e2 S2
    | r => r
def sFor (i : AM) (g : GM) (m : SM) : SM := fun e S => sE (i e S) e fun ds S1 => fiR g m ds e S1
theorem rs_for {tg it : Expr} {i : AM} {g : GM} {body : List Stmt} (hp : PassesOwn (model X.prog X.w) X.A X.env X.xe) (hc : X.calm = true) (hi : RI X W tg it i) (hg : RG X W tg g) (hb : RSs X W body m) (hs : ∀ x, foldedSetIterable it X.env x = pure x := by intro _; rfl) :
    RS X W (.For tg it body [] pos) (sFor i g m) := by
  refine ps_imp (ps_for hp hc hi hg hb hs) ?_
  rintro D s H ⟨w, en, rfl, R, E, P⟩
  refine ⟨w, en, rfl, R, E, (PostS.of P E).imp ?_⟩
  rintro J H1 ⟨w1, ds, rfl, X1, R1, its, P1⟩
  refine ⟨fun j k s H => k = ds.length - j ∧ j ≤ ds.length ∧ ∃ w e, w.hp = H ∧ Ext w1 w ∧ Rep X.K X.mg w ∧ RepE X.K X.mg w e s ∧ PostS X W w (fiR g m (ds.drop j) e w.st) D,
    ⟨ds.length, rfl, Nat.zero_le _, w1, en, rfl, Ext.refl w1, R1, E.ext X1.toEx0, P1⟩, ?_⟩
  rintro j k s H ⟨rfl, hj, w, en, rfl, x1, R, E, P⟩
  obtain ⟨go, stop⟩ := its w x1.toEx0 x1.fz R
  by_cases hlt : j < ds.length
  · obtain ⟨go1, yl⟩ := go j hlt
    refine .inr ⟨go1, fun s' H' => ∃ w e, w.hp = H' ∧ Ext w1 w ∧ Rep X.K X.mg w ∧ RepE X.K X.mg w e s' ∧ PostS X W w (fiR g m (ds.drop (j + 1)) e w.st) D, fun s' H' h => ⟨ds.length - (j + 1), by omega, rfl, hlt, h⟩, fun x H' y => ?_⟩
    obtain ⟨w3, d, rfl, x3, R3, st3, _, hd, rd⟩ := yl x H' y
    have e1 : ds.drop j = d :: ds.drop (j + 1) := by
      obtain ⟨hl, rfl⟩ := List.getElem?_eq_some_iff.mp hd
      exact List.drop_eq_getElem_cons hl
    rw [e1] at P
    have P' : PostS X W w3 (sE (g d en w3.st) en fun e1 S1 => match m e1 S1 with
      | .nxt e2 S2 => fiR g m (ds.drop (j + 1)) e2 S2
      | .cnt e2 S2 => fiR g m (ds.drop (j + 1)) e2 S2
      | .brk e2 S2 => .nxt e2 S2
      | r => r) D := by rw [st3]; exact PostS.ext P x3
    refine ⟨w3, en, d, rfl, R3, E.ext x3.toEx0, rd, (PostS.of P' (E.ext x3.toEx0)).imp ?_⟩
    rintro s4 H4 ⟨w4, e4, rfl, x4, R4, E4, P4⟩
    refine ⟨w4, e4, rfl, R4, E4, ?_⟩
    have x14 : Ext w1 w4 := (x1.trans x3).trans x4
    dsimp only at P4
    cases q : m e4 w4.st with
    | nxt e S => rw [q] at P4; exact fun w5 s5 x5 R5 st E5 => ⟨w5, e, rfl, x14.trans x5, R5, E5, by rw [st]; exact PostS.ext P4 x5⟩
    | cnt e S => rw [q] at P4; exact fun w5 s5 x5 R5 st E5 => ⟨w5, e, rfl, x14.trans x5, R5, E5, by rw [st]; exact PostS.ext P4 x5⟩
    | brk e S => rw [q] at P4; exact P4
    | ret e S => rw [q] at P4; exact P4
    | exc y e S => rw [q] at P4; exact P4
    | stuck => rw [q] at P4; exact P4
  · have e : j = ds.length := by omega
    subst e
    rw [List.drop_length] at P
    exact .inl ⟨stop, P w s (Ext.refl w) R rfl E⟩
end
end G
namespace G
open PySem L2
def wipeE (e : En) : List Nat → En
  | [] => e
  | v :: vs => (wipeE e vs).set v none
def W0 : WX := fun _ _ _ _ => False
section
variable {X : Cx} {W : WX} {a b c e o : Expr} {es : List Expr} {ma mb mc me : EM} {ta tb : TM} {pos : Pos}
variable {K : PySem.W.Frag} {mg : Str → Option Value} {w : Wo}
theorem RepE.wipe {en : En} {s : St} (h : RepE K mg w en s) : ∀ vs : List Nat, RepE K mg w (wipeE en vs) (L2.wipe s vs)
  | [] => h
  | v :: vs => (RepE.wipe h vs).gone v
theorem wipe_at (s : St) (j : Nat) : ∀ vs : List Nat, (L2.wipe s vs)[j]? = if j ∈ vs then (if j < s.length then some none else none) else s[j]?
  | [] => by simp [L2.wipe]
  | v :: vs => by
    have ih := wipe_at s j vs
    unfold L2.wipe
    by_cases hv : v = j
    · subst hv
      rw [if_pos List.mem_cons_self]
      by_cases hl : v < s.length
      · rw [if_pos hl, List.getElem?_set_self (by rw [wipe_length]; exact hl)]
      · rw [if_neg hl, List.getElem?_eq_none (by rw [List.length_set, wipe_length]; omega)]
    · rw [List.getElem?_set_ne hv, ih]
      have e : (j ∈ v :: vs) ↔ j ∈ vs := by
        rw [List.mem_cons]
        exact ⟨fun h => h.resolve_left (Ne.symm hv), .inr⟩
      simp only [e]
theorem wipe_eq {s t : St} {vs : List Nat} (hl : s.length = t.length) (h : ∀ j, j ∉ vs → s[j]? = t[j]?) : L2.wipe s vs = L2.wipe t vs := by
  refine List.ext_getElem? fun j => ?_
  rw [wipe_at, wipe_at, hl]
  by_cases hj : j ∈ vs
  · rw [if_pos hj, if_pos hj]
  · rw [if_neg hj, if_neg hj]; exact h j hj
def lcR (g : Tg) (t : TM) (m : EM) (e : En) : List D → List D → Store → Res (List D)
  | [], acc, S => .ok acc S
  | d :: ds, acc, S => match g.m d e with
    | some e1 => (noX (t e1 S)).bind fun b S2 => if b then (noX (m e1 S2)).bind fun y S3 => if acc.length < sizeLine then lcR g t m e ds (acc ++ [y]) S3 else .stuck else lcR g t m e ds acc S2
    | none => .stuck
def eLc (i : AM) (g : Tg) (t : TM) (m : EM) (vs : List Nat) : EM := fun e S => (i e S).bind fun ds S1 => (lcR g t m (wipeE e vs) ds [] S1).bind fun acc S2 => .ok (.lst acc) S2
def eLcN (i : AM) (g : Tg) (t : TM) (m : EM) (vs : List Nat) : EM := fun e S => (i e S).bind fun ds S1 => (lcR g t m (wipeE e vs) ds [] S1).bind fun acc S2 => .ok (.loc S2.length) (S2 ++ [.lst acc])
def Wo.hide (w : Wo) (p : Addr) (o : HO) : Wo := ⟨w.al, w.st, upd w.hp p o, p :: w.hid⟩
theorem hide_ex (R : Rep K mg w) {p : Addr} {o : HO} (hn : w.hp p = none) : Ex0 w (w.hide p o) := by
  refine ⟨⟨[], by simp [Wo.hide]⟩, fun a h => ?_, fun a u h _ => ?_, fun a u h => ⟨u, ?_⟩⟩
  · rcases h with h | h
    · exact .inl (.inl h)
    · rcases List.mem_cons.mp h with h | h
      · exact .inr (by rw [h]; exact hn)
      · exact .inl (.inr h)
  · show upd w.hp p o a = _
    rw [upd_ne (ne_of_none h hn)]; exact h
  · show upd w.hp p o a = _
    rw [upd_ne (ne_of_none h hn)]; exact h
theorem Rep.hide (R : Rep K mg w) {p : Addr} {o : HO} (hn : w.hp p = none) : Rep K mg (w.hide p o) := by
  have X := hide_ex (o := o) R hn
  refine ⟨R.len, R.nd, fun a h => ?_, fun n a c h1 h2 => ?_, fun a h => ?_⟩
  · obtain ⟨u, e⟩ := R.tr a h
    exact X.tr a u e
  · refine (R.cell n a c h1 h2).ext X ?_
    show upd w.hp p o a = _
    exact upd_ne fun z => R.not_mem hn (z ▸ List.mem_of_getElem? h1)
  · rcases List.mem_cons.mp h with h | h
    · subst h; exact ⟨R.not_mem hn, o, upd_same⟩
    · obtain ⟨h1, u, e⟩ := R.hid a h
      exact ⟨h1, X.tr a u e⟩
def Wo.gro (w : Wo) (p : Addr) (o : HO) : Wo := ⟨w.al, w.st, upd w.hp p o, w.hid⟩
theorem gro_ex {p : Addr} {o : HO} (hm : p ∈ w.hid) : Ex0 w (w.gro p o) := by
  refine ⟨⟨[], by simp [Wo.gro]⟩, fun a h => .inl h, fun a u h z => ?_, fun a u h => ?_⟩
  · show upd w.hp p o a = _
    rw [upd_ne fun e : a = p => z (.inr (e ▸ hm))]; exact h
  · by_cases e : a = p
    · subst e; exact ⟨o, upd_same⟩
    · exact ⟨u, by show upd w.hp p o a = _; rw [upd_ne e]; exact h⟩
theorem Rep.gro (R : Rep K mg w) {p : Addr} {o : HO} (hm : p ∈ w.hid) : Rep K mg (w.gro p o) := by
  have X := gro_ex (o := o) hm
  refine ⟨R.len, R.nd, fun a h => ?_, fun n a c h1 h2 => ?_, fun a h => ?_⟩
  · obtain ⟨u, e⟩ := R.tr a h
    exact X.tr a u e
  · refine (R.cell n a c h1 h2).ext X ?_
    show upd w.hp p o a = _
    exact upd_ne fun z => (R.hid p hm).1 (z ▸ List.mem_of_getElem? h1)
  · obtain ⟨h1, u, e⟩ := R.hid a h
    exact ⟨h1, X.tr a u e⟩
def Wo.shw (w : Wo) (hs : List Addr) : Wo := ⟨w.al, w.st, w.hp, hs⟩
theorem shw_ex {hs : List Addr} (hm : ∀ a, a ∈ hs → a ∈ w.hid) : Ex0 w (w.shw hs) :=
  ⟨⟨[], by simp [Wo.shw]⟩, fun a h => .inl (h.imp id (hm a)), fun a u h _ => h, fun a u h => ⟨u, h⟩⟩
theorem Rep.shw (R : Rep K mg w) {hs : List Addr} (hm : ∀ a, a ∈ hs → a ∈ w.hid) : Rep K mg (w.shw hs) :=
  ⟨R.len, R.nd, R.tr, fun n a c h1 h2 => (R.cell n a c h1 h2).ext (shw_ex hm) rfl, fun a h => R.hid a (hm a h)⟩
theorem hide_fz (R : Rep K mg w) {p : Addr} {o : HO} (hn : w.hp p = none) : Fz w (w.hide p o) := fun _ _ _ h1 h2 _ => ⟨h2, upd_ne fun e => R.not_mem hn (e ▸ List.mem_of_getElem? h1)⟩
theorem gro_fz (R : Rep K mg w) {p : Addr} {o : HO} (hm : p ∈ w.hid) : Fz w (w.gro p o) := fun _ _ _ h1 h2 _ => ⟨h2, upd_ne fun e => (R.hid p hm).1 (e ▸ List.mem_of_getElem? h1)⟩
structure Kp (w1 w : Wo) : Prop where
  kh : ∀ a, a ∈ w1.hid → w.hp a = w1.hp a
  fz : Fz w1 w
theorem t_lcCore {i : AM} {g : Tg} {t : TM} {m : EM} {vs : List Nat} {fin : List D → Store → Res D} (hg : ∀ j, j ∈ g.ix → j ∈ vs)
    (hfin : ∀ (w1 w : Wo) (p : Addr) (us : List V) (acc : List D) (Q : VK) (E : XK), Rep X.K X.mg w1 → w1.hp p = none → Rep X.K X.mg w → Ex0 w1 w → w.hid = p :: w1.hid → Kp w1 w → w.hp p = some (.lst us) → RepL X.K X.mg w acc us →
      Post (RepD X.K X.mg) X.K X.mg w1 (fin acc w.st) Q E → Q (.ref p) w.hp) :
    ∀ s H Q, tG (RepD X.K X.mg) X W (fun e S => (i e S).bind fun ds S1 => (lcR g t m (wipeE e vs) ds [] S1).bind fin) s H Q →
      tLc (tG (ItsR X) X W i) (g.r X.K) (tG RlB X W0 t) (tG (RepD X.K X.mg) X W0 m) vs s H Q := by
  rintro s H Q ⟨w, en, rfl, R, E, P⟩
  refine ⟨w, en, rfl, R, E, (Post.bind P).imp ?_⟩
  rintro J H1 ⟨w1, ds, rfl, X1, R1, its, P1⟩
  intro p hp
  dsimp only at P1
  have E1 := E.ext X1.toEx0
  refine ⟨fun j k H => k = ds.length - j ∧ j ≤ ds.length ∧ ∃ w acc us, w.hp = H ∧ Ex0 w1 w ∧ Rep X.K X.mg w ∧ w.hid = p :: w1.hid ∧ Kp w1 w ∧ w.hp p = some (.lst us) ∧ RepL X.K X.mg w acc us ∧
      Post (RepD X.K X.mg) X.K X.mg w1 ((lcR g t m (wipeE en vs) (ds.drop j) acc w.st).bind fin) Q (fun cls dd H' => W cls dd s H'),
    ⟨ds.length, rfl, Nat.zero_le _, w1.hide p (.lst []), [], [], rfl, hide_ex R1 hp, R1.hide hp, rfl, ⟨fun a ha => ?_, hide_fz R1 hp⟩, upd_same, .nil, P1⟩, ?_⟩
  · show upd w1.hp p _ a = _
    exact upd_ne fun z => R1.not_hid hp (z ▸ ha)
  rintro j k H ⟨rfl, hj, w, acc, us, rfl, x1, R, hh, hk, hu, ra, P⟩
  obtain ⟨go, stop⟩ := its w x1 hk.fz R
  by_cases hlt : j < ds.length
  · obtain ⟨go1, yl⟩ := go j hlt
    refine .inr ⟨go1, fun H' => ∃ w acc us, w.hp = H' ∧ Ex0 w1 w ∧ Rep X.K X.mg w ∧ w.hid = p :: w1.hid ∧ Kp w1 w ∧ w.hp p = some (.lst us) ∧ RepL X.K X.mg w acc us ∧
      Post (RepD X.K X.mg) X.K X.mg w1 ((lcR g t m (wipeE en vs) (ds.drop (j + 1)) acc w.st).bind fin) Q (fun cls dd H' => W cls dd s H'),
      fun H' h => ⟨ds.length - (j + 1), by omega, rfl, hlt, h⟩, fun x H' y => ?_⟩
    obtain ⟨w3, d, rfl, x3, R3, st3, _, hd, rd⟩ := yl x H' y
    have e1 : ds.drop j = d :: ds.drop (j + 1) := by
      obtain ⟨hl, rfl⟩ := List.getElem?_eq_some_iff.mp hd
      exact List.drop_eq_getElem_cons hl
    rw [e1, ← st3] at P
    unfold lcR at P
    have E3 : RepE X.K X.mg w3 (wipeE en vs) (L2.wipe s vs) := (E1.ext (x1.trans x3.toEx0)).wipe vs
    cases hm : g.m d (wipeE en vs) with
    | none => rw [hm] at P; exact False.elim P
    | some e4 =>
      rw [hm] at P
      dsimp only at P
      refine g.ok E3 rd hm fun s4 E4 hl4 hj4 => ⟨?_, ?_⟩
      · refine wipe_eq (by rw [hl4, wipe_length]) fun q hq => ?_
        rw [hj4 q fun z => hq (hg q z), wipe_at, if_neg hq]
      · have hh3 : w3.hid = p :: w1.hid := x3.hid.trans hh
        have hk3 : Kp w1 w3 := ⟨fun a ha => (x3.kh a (by rw [hh]; exact List.mem_cons_of_mem _ ha)).trans (hk.kh a ha), hk.fz.trans x1.al x3.fz⟩
        have hu3 : w3.hp p = some (.lst us) := (x3.kh p (by rw [hh]; exact List.mem_cons_self)).trans hu
        refine ⟨w3, e4, rfl, R3, E4, ?_⟩
        cases ht : t e4 w3.st with
        | exc _ _ => rw [ht] at P; exact False.elim P
        | stuck => rw [ht] at P; exact False.elim P
        | ok bb S5 =>
          rw [ht] at P
          intro w5 c5 x5 R5 st5 r5
          cases r5
          subst st5
          replace P : Post (RepD X.K X.mg) X.K X.mg w1 ((if bb = true then (noX (m e4 w5.st)).bind fun y S3 => if acc.length < sizeLine then lcR g t m (wipeE en vs) (ds.drop (j + 1)) (acc ++ [y]) S3 else .stuck else lcR g t m (wipeE en vs) (ds.drop (j + 1)) acc w5.st).bind fin) Q (fun cls dd H' => W cls dd s H') := P
          have hh5 : w5.hid = p :: w1.hid := x5.hid.trans hh3
          have hk5 : Kp w1 w5 := ⟨fun a ha => (x5.kh a (by rw [hh3]; exact List.mem_cons_of_mem _ ha)).trans (hk3.kh a ha), hk3.fz.trans (x1.trans x3.toEx0).al x5.fz⟩
          have hu5 : w5.hp p = some (.lst us) := (x5.kh p (by rw [hh3]; exact List.mem_cons_self)).trans hu3
          have ra5 := (ra.ext x3.toEx0).ext x5.toEx0
          have x15 : Ex0 w1 w5 := (x1.trans x3.toEx0).trans x5.toEx0
          cases bb with
          | false =>
            rw [if_neg Bool.false_ne_true] at P ⊢
            exact ⟨w5, acc, us, rfl, x15, R5, hh5, hk5, hu5, ra5, P⟩
          | true =>
            rw [if_pos rfl] at P ⊢
            refine ⟨w5, e4, rfl, R5, E4.ext x5.toEx0, ?_⟩
            cases hme : m e4 w5.st with
            | exc _ _ => rw [hme] at P; exact False.elim P
            | stuck => rw [hme] at P; exact False.elim P
            | ok y S6 =>
              rw [hme] at P
              intro w6 v6 x6 R6 st6 r6
              subst st6
              replace P : Post (RepD X.K X.mg) X.K X.mg w1 ((if acc.length < sizeLine then lcR g t m (wipeE en vs) (ds.drop (j + 1)) (acc ++ [y]) w6.st else .stuck).bind fin) Q (fun cls dd H' => W cls dd s H') := P
              by_cases hz : acc.length < sizeLine
              · rw [if_pos hz] at P
                have ra6 := ra5.ext x6.toEx0
                have hh6 : w6.hid = p :: w1.hid := x6.hid.trans hh5
                have hk6 : Kp w1 w6 := ⟨fun a ha => (x6.kh a (by rw [hh5]; exact List.mem_cons_of_mem _ ha)).trans (hk5.kh a ha), hk5.fz.trans x15.al x6.fz⟩
                have hu6 : w6.hp p = some (.lst us) := (x6.kh p (by rw [hh5]; exact List.mem_cons_self)).trans hu5
                have pm : p ∈ w6.hid := by rw [hh6]; exact List.mem_cons_self
                have xg := gro_ex (o := .lst (us ++ [v6])) pm
                refine ⟨us, hu6, by rw [← ra6.length]; exact hz, w6.gro p (.lst (us ++ [v6])), acc ++ [y], us ++ [v6], rfl, (x15.trans x6.toEx0).trans xg, R6.gro pm, hh6, ⟨fun a ha => ?_, hk6.fz.trans (x15.trans x6.toEx0).al (gro_fz R6 pm)⟩, upd_same, (ra6.append (.cons r6 .nil)).ext xg, P⟩
                refine Eq.trans (show upd w6.hp p _ a = w6.hp a from upd_ne fun z => ?_) (hk6.kh a ha)
                subst z
                obtain ⟨_, o, ho⟩ := R1.hid a ha
                rw [hp] at ho; cases ho
              · rw [if_neg hz] at P; exact False.elim P
  · have e : j = ds.length := by omega
    subst e
    rw [List.drop_length] at P
    exact .inl ⟨stop, hfin w1 w p us acc Q _ R1 hp R x1 hh hk hu ra P⟩
theorem fin_lst : ∀ (w1 w : Wo) (p : Addr) (us : List V) (acc : List D) (Q : VK) (E : XK), Rep X.K X.mg w1 → w1.hp p = none → Rep X.K X.mg w → Ex0 w1 w → w.hid = p :: w1.hid → Kp w1 w → w.hp p = some (.lst us) → RepL X.K X.mg w acc us →
      Post (RepD X.K X.mg) X.K X.mg w1 ((fun acc S => Res.ok (D.lst acc) S) acc w.st) Q E → Q (.ref p) w.hp := by
  intro w1 w p us acc Q E R1 hp R x1 hh hk hu ra P
  have sub : ∀ a, a ∈ w1.hid → a ∈ w.hid := fun a h => by rw [hh]; exact List.mem_cons_of_mem _ h
  have xs := shw_ex sub
  refine P (w.shw w1.hid) (.ref p) ⟨x1.trans xs, rfl, hk.kh, hk.fz.trans x1.al (Fz.same rfl rfl)⟩ (R.shw sub) rfl (.lst ⟨hu, fun z => ?_⟩ (ra.ext xs))
  rcases z with ⟨n, c, h1, _, _⟩ | z
  · exact (R.hid p (by rw [hh]; exact List.mem_cons_self)).1 (List.mem_of_getElem? h1)
  · exact R1.not_hid hp z
theorem t_lc {i : AM} {g : Tg} {t : TM} {m : EM} {vs : List Nat} (hg : ∀ j, j ∈ g.ix → j ∈ vs) : ∀ s H Q, tG (RepD X.K X.mg) X W (eLc i g t m vs) s H Q →
      tLc (tG (ItsR X) X W i) (g.r X.K) (tG RlB X W0 t) (tG (RepD X.K X.mg) X W0 m) vs s H Q := t_lcCore hg fin_lst
def tTrue : TM := fun _ S => .ok true S
theorem pts0 {X' : Cx} : PTs X' [] (tG RlB X' W0 tTrue) := ⟨fun pins s σ H Q I h => pts_nil.run pins s σ H Q I (by
  obtain ⟨w, en, rfl, R, E, P⟩ := h
  exact Post.now P R rfl)⟩
theorem re_lc {elt tg iter : Expr} {ifs : List Expr} {scope : Scope} {i : AM} {g : Tg} {t : TM} {m : EM} (own : List (Str × Nat)) (hc : X.calm = true) (hN : X.N.Nodup) (hi : RI X W tg iter i) (ok : BlkOk X.N X.env.scope scope own) (hgi : ∀ j, j ∈ g.ix → j ∈ own.map (·.2))
    (hg : ∀ (s : Shared) (H : Hp) (C : Addr) (cl : List (Str × Addr)) (fp : List Addr), PG (X.blk s H scope (compEnvC scope cl C X.env) fp) tg (g.r X.K)) (ht : ∀ (s : Shared) (H : Hp) (C : Addr) (cl : List (Str × Addr)) (fp : List Addr), PTs (X.blk s H scope (compEnvC scope cl C X.env) fp) ifs (tG RlB X W0 t))
    (he : ∀ (s : Shared) (H : Hp) (C : Addr) (cl : List (Str × Addr)) (fp : List Addr), RE (X.blk s H scope (compEnvC scope cl C X.env) fp) W0 elt m) (hs : ∀ x, foldedSetIterable iter X.env x = pure x := by intro _; rfl) :
    RE X W (.ListComp elt [⟨tg, iter, ifs, 0⟩] scope pos) (eLc i g t m (own.map (·.2))) :=
  pe_imp (pe_lc hc hN hi ok hg ht he hs) (t_lc hgi)
end
end G
namespace G
open PySem L2 PySem.Spec
def enOf (N : Nat) (ds : List D) : En := ds.map some ++ List.replicate (N - ds.length) none
def fnM (N : Nat) (m : SM) : FM := fun ds S => match m (enOf N ds) S with
  | .nxt _ S' => .ok .non S'
  | .ret d S' => .ok d S'
  | .exc x _ S' => .exc x S'
  | _ => .stuck
theorem RoomG.mono {j k : Nat} {A : Around} (h : RoomG k A) (l : j ≤ k) : RoomG j A := ⟨h.r.mono l, h.gd⟩
theorem RoomG.units {k : Nat} {A : Around} (h : RoomG k A) : A.units + 64 < cLine := h.r.units
theorem Cg.u {X : Cx} {W : WX} {k : Nat} (c : Cg X W k) : X.A.units + 64 < cLine := c.rm.units
structure Cb (X : Cx) (k : Nat) : Prop where
  calm : X.calm = true
  nd : X.N.Nodup
  rm : RoomG k X.A
  xe : X.xe = fun _ _ => False
theorem Cb.u {X : Cx} {k : Nat} (c : Cb X k) : X.A.units + 64 < cLine := c.rm.units
theorem Cg.blk {X : Cx} {W : WX} {k : Nat} (c : Cg X W k) {s : Shared} {H : Hp} {scope : Scope} {cenv : Env} {fp : List Addr} : Cb (X.blk s H scope cenv fp) k := ⟨c.calm, c.nd, c.rm, rfl⟩
section
variable {P : Program} {w0 : World} {K : PySem.W.Frag} {mg : Str → Option Value} {base : Heap}
theorem RepE.start {w : Wo} {ds : List D} {vs : List V} (h : RepL K mg w ds vs) (N : List Str) : RepE K mg w (enOf N.length ds) (start N vs) := by
  have hl := h.length
  refine ⟨by unfold enOf L2.start; simp [hl], fun i d e => ?_⟩
  unfold enOf at e
  unfold L2.start
  by_cases hi : i < ds.length
  · rw [List.getElem?_append_left (by simpa using hi), List.getElem?_map] at e
    cases q : ds[i]? with
    | none => rw [q] at e; cases e
    | some d' =>
      rw [q] at e
      cases e
      obtain ⟨v, hv, r⟩ := h.get q
      exact ⟨v, by rw [List.getElem?_append_left (by simpa [← hl] using hi), List.getElem?_map, hv]; rfl, r⟩
  · rw [List.getElem?_append_right (by simpa using hi), List.getElem?_replicate] at e
    split at e <;> cases e
theorem fng_of {x qual : Str} {params : Arguments} {body : List Stmt} {scope : Scope} {dvs : List V} {kws : List (Str × V)} {f : Addr} {fd : FuncData} {N ps : List Str} {k : Nat} {sp : Sp} (F : FunD K x qual params body scope dvs kws f fd) (S : FnScope N ps scope)
    (len : ∀ vs H Q E, sp vs H Q E → vs.length = ps.length)
    (hbody : ∀ (cdv : Value) (A : Around) (outer : List Env) (s : Shared) (H : Hp) (vs : List V) (Q : VK) (E : XK), RoomG k (A.deeper (PyProof.Rows.envOfC qual scope s.heap.objs.size f cdv)) → sp vs H Q E →
      ∃ t, PSs (cxOf (L2.CX P w0) P w0 K mg base N qual scope f cdv A outer s H E) body t ∧ t { nx := fun _ H' => Q .non H', rt := Q } (L2.start N vs) H) : FnG P w0 K mg base (k + 1) f fd ps sp := by
  obtain ⟨oc, od, dV, kV, doc, pm, an, cdv, ct, osl, rfl, lk, hcd, _, _⟩ := F.ex
  constructor
  · exact len
  intro A outer s H args us vs Q E rm env bnd rel hs
  have inn : K.In s.heap := env.mod.kin.keeps fun a o q => (env.bs a o q).1
  have nol : s.heap.NoLimit := env.mod.nolimit.keeps fun a o q => (env.bs a o q).1
  apply codeAny_call_function rm.r.depth (inn _ _ lk) rfl S.co S.gen rfl (PySem.W.codeRec_of inn hcd)
  apply bnd
  apply wpAny_newFunctionEnv_cells S.kind
  · rintro ⟨n, u⟩ hn
    exact (S.par n (List.of_mem_zip hn).1).imp id fun q => ⟨q, PySem.W.cellsFrom_some _ _ _ (.inl q)⟩
  rintro _ rfl s1 nw
  constructor
  · exact nol.keeps nw.toInCall.keep
  obtain ⟨t, ht, hq⟩ := hbody cdv A outer s H vs Q E ⟨rm.r.deeper _, rm.gd⟩ hs
  have hI := inv_start (CX := L2.CX P w0) (E := E) S rm.r.hd env (len _ _ _ _ hs) rel nw
  apply codeAny_func
  refine wpAny_mono (ht.run [] s1 _ H _ hI hq) ?_ fun _ _ z => z
  intro fl s' z
  cases fl with
  | next => obtain ⟨st, H', J, q⟩ := z; exact ⟨V.non, H', J.os, J.bare, J.base, J.hok, rfl, q⟩
  | ret u => obtain ⟨v, st, H', J, rv, q⟩ := z; exact ⟨v, H', J.os, J.bare, J.base, J.hok, rv, q⟩
  | brk => exact False.elim z.choose_spec.choose_spec.2
  | cont => exact False.elim z.choose_spec.choose_spec.2
theorem def_okD {x qual : Str} {st : Stmt} {f : Addr} {fd : FuncData} {N ps : List Str} {k : Nat} {m : SM} {dvs : List V} {kws : List (Str × V)} (F : FunD K x qual (defArgs st) (defBody st) (defScope st) dvs kws f fd) (S : FnScope N ps (defScope st))
    (hbody : ∀ (cdv : Value) (A : Around) (outer : List Env) (s : Shared) (H : Hp) (E : XK), Cg (cxOf (L2.CX P w0) P w0 K mg base N qual (defScope st) f cdv A outer s H E) (fun cls d _ H' => E cls d H') k →
      RSs (cxOf (L2.CX P w0) P w0 K mg base N qual (defScope st) f cdv A outer s H E) (fun cls d _ H' => E cls d H') (defBody st) m) :
    FnG P w0 K mg base (k + 1) f fd ps (spM K mg ps.length (fnM N.length m)) := by
  refine fng_of F S (fun vs H Q E h => h.1) (fun cdv A outer s H vs Q E hr h => ?_)
  refine ⟨_, hbody cdv A outer s H E ⟨rfl, S.nd, takes_of rfl rfl rfl rfl, passes_of rfl, hr, rfl, rfl, rfl⟩, ?_⟩
  obtain ⟨hl, w, ds, rfl, R, rl, P1⟩ := h
  refine ⟨w, enOf N.length ds, rfl, R, RepE.start rl N, ?_⟩
  unfold fnM at P1
  cases q : m (enOf N.length ds) w.st with
  | nxt e S => rw [q] at P1; exact fun w1 s1 x1 R1 st1 _ => P1 w1 .non x1 R1 st1 .non
  | ret d S => rw [q] at P1; exact P1
  | brk e S => rw [q] at P1; exact False.elim P1
  | cnt e S => rw [q] at P1; exact False.elim P1
  | exc y e S => rw [q] at P1; exact fun w1 s1 c1 d1 x1 R1 st1 _ rx => P1 w1 c1 d1 x1 R1 st1 rx
  | stuck => rw [q] at P1; exact P1
end
section
variable {X : Cx} {W : WX} {a b c e o : Expr} {es : List Expr} {ma mb mc me : EM} {ta tb : TM} {pos : Pos} {x : Str} {p : Pos} {j k : Nat} {ps ks : List Str} {f : FM}
def eCall (f : FM) (m : AM) : EM := fun e S => (m e S).bind fun ds S1 => f ds S1
def nA (n : Nat) (m : AM) : AM := fun e S => (m e S).bind fun ds S1 => if ds.length = n then .ok ds S1 else .stuck
theorem run_fg {E : St → XK} {f : Addr} {fd : FuncData} {sp : Sp} {pins : List (Addr × Obj)} {s : St} {H : Hp} {sh : Shared} {Q : VK} {args : Args} {zs : List Value} {ws : List V} (F : FnG X.prog X.w X.K X.mg X.base k f fd ps sp) (hr : RoomG k X.A) (hb : BindsTo sh fd args (ps.zip zs)) (hx : PassesAt (L2.CX X.prog X.w) X s (E s))
    (I : L2.Inv X pins s H sh) (r : Vals ws zs) (h : sp ws H Q (E s)) : codeAny (model X.prog X.w) X.A (.call (.ref f) args) (fun r s' => match r with | .ok (.ret u) => EP X pins s Q u s' | .error y => X.xe y s' | _ => False) sh := by
  refine codeAny_mono (F.run X.A X.stack sh H args zs ws Q (E s) hr I.env0 hb r h) ?_
  intro res s' q
  cases res with
  | error y => exact hx pins H sh y s' I q
  | ok fl =>
    cases fl with
    | ret u => exact I.after q
    | _ => exact False.elim q
theorem pe_callG {fa : Addr} {fd : FuncData} {sp : Sp} {E : St → XK} {t : TA} (F : FnG X.prog X.w X.K X.mg X.base k fa fd ps sp) (hr : RoomG k X.A) (hg : Gl X x) (hm : X.mg x = some (.ref fa)) (hk : PySem.W.keepIn X.K (.ref fa) = true) (hb : Binds X.K fd ps []) (hx : ∀ σ, PassesAt (L2.CX X.prog X.w) X σ (E σ))
    (ha : PA X (e :: es) t) (hdb : (x == ("__debug__" : Str)) = false) (he : starEach (e :: es) X.env = (false, eval e X.env) :: starEach es X.env) (hpl : (backTo pos (starEach es X.env)).any (·.1) = false) :
    PE X (.Call (.Name x p) (e :: es) [] pos) (tCallS sp E t) := by
  constructor
  intro pins s σ H Q I h
  apply wpAny_Call_Name_kw
  refine ld_glob I hg hm ?_ hdb
  refine PySem.W.callWith_K (h₀ := X.base) I.ok.mod.kin hk ?_ he hpl
  refine thn (ha.run pos pins s σ H _ I h) ?_
  rintro us s1 ⟨vs, H1, I1, r, q⟩
  have hl : us.length = ps.length := by rw [← r.length]; exact F.len _ _ _ _ q
  have b := hb s1 us I1.kIn (by simpa using hl)
  rw [List.append_nil] at b
  refine ⟨I1.kIn, wpAny_call (codeAny_mono (run_fg F hr b (hx σ) I1 r q) ?_)⟩
  intro res s' z
  cases res with
  | error y => exact z
  | ok fl =>
    cases fl with
    | ret u => exact z
    | _ => exact False.elim z
theorem re_call {m : AM} (c : Cg X W k) (hF : Df X.prog X.w X.K X.mg X.base x ps j f) (hj : j ≤ k) (ha : RA X W (e :: es) m) (hg : Gl X x := by rfl) (hdb : (x == ("__debug__" : Str)) = false := by decide) (he : starEach (e :: es) X.env = (false, eval e X.env) :: starEach es X.env := by rfl) (hpl : (backTo pos (starEach es X.env)).any (·.1) = false := by rfl) :
    RE X W (.Call (.Name x p) (e :: es) [] pos) (eCall f (nA ps.length m)) := by
  obtain ⟨fa, fd, h1, h2, h3, h4⟩ := hF.ex
  refine pe_imp (pe_callG h4 (c.rm.mono hj) hg h1 h2 h3 (fun s => passAt c.tk s) ha hdb he hpl) ?_
  rintro s H Q ⟨w, en, rfl, R, E, P⟩
  unfold eCall nA at P
  refine ⟨w, en, rfl, R, E, ?_⟩
  cases q : m en w.st with
  | stuck => rw [q] at P; exact P
  | exc y S => rw [q] at P; exact P
  | ok ds S =>
    rw [q] at P
    replace P : Post (RepD X.K X.mg) X.K X.mg w ((if ds.length = ps.length then .ok ds S else .stuck : Res (List D)).bind f) Q _ := P
    intro w1 vs x1 R1 st1 rl
    subst st1
    split at P
    · rename_i hl
      exact ⟨by rw [← rl.length]; exact hl, w1, ds, rfl, R1, rl, Post.ext P x1⟩
    · exact False.elim P
theorem takes_no {X' : Cx} (h : X'.xe = fun _ _ => False) : Takes X' W0 := fun _ _ z => by
  obtain ⟨_, _, _, _, _, _, _, _, _, _, _, _, _, _, _, _, q⟩ := z
  exact False.elim q
theorem re_callB {m : AM} (c : Cb X k) (hF : Df X.prog X.w X.K X.mg X.base x ps j f) (hj : j ≤ k) (ha : RA X W0 (e :: es) m) (hg : Gl X x := by rfl) (hdb : (x == ("__debug__" : Str)) = false := by decide) (he : starEach (e :: es) X.env = (false, eval e X.env) :: starEach es X.env := by rfl) (hpl : (backTo pos (starEach es X.env)).any (·.1) = false := by rfl) :
    RE X W0 (.Call (.Name x p) (e :: es) [] pos) (eCall f (nA ps.length m)) := by
  obtain ⟨fa, fd, h1, h2, h3, h4⟩ := hF.ex
  refine pe_imp (pe_callG h4 (c.rm.mono hj) hg h1 h2 h3 (fun s => passAt (takes_no c.xe) s) ha hdb he hpl) ?_
  rintro s H Q ⟨w, en, rfl, R, E, P⟩
  unfold eCall nA at P
  refine ⟨w, en, rfl, R, E, ?_⟩
  cases q : m en w.st with
  | stuck => rw [q] at P; exact P
  | exc y S => rw [q] at P; exact P
  | ok ds S =>
    rw [q] at P
    replace P : Post (RepD X.K X.mg) X.K X.mg w ((if ds.length = ps.length then .ok ds S else .stuck : Res (List D)).bind f) Q _ := P
    intro w1 vs x1 R1 st1 rl
    subst st1
    split at P
    · rename_i hl
      exact ⟨by rw [← rl.length]; exact hl, w1, ds, rfl, R1, rl, Post.ext P x1⟩
    · exact False.elim P
def eCallK (f : FM) (gD : List D → List D → List D) (n l : Nat) (m mk : AM) : EM := fun e S => (m e S).bind fun ds S1 => (mk e S1).bind fun zs S2 => if ds.length = n ∧ zs.length = l then f (gD ds zs) S2 else .stuck
def eCallK0 (f : FM) (gD : List D → List D → List D) (l : Nat) (mk : AM) : EM := fun e S => (mk e S).bind fun zs S2 => if zs.length = l then f (gD [] zs) S2 else .stuck
def sRaise (c : Nat) : SM := fun e S => .exc (.exc c []) e S
theorem rs_raise {C : Addr} {bm : List Value} {B newId initId : String} {m : Str} {jj : Nat} {p2 pos2 : Pos} (cn : Nat) (hcn : cname cn = x) (c : Cg X W k) (F : ExcBaseFacts B newId initId bm) (q : PySem.W.excIn X.K C bm newId = true) (gC : X.mg x = some (.ref C)) (kC : PySem.W.keepIn X.K (.ref C) = true) (r : Raises X (.ref C)) (hg : Gl X x := by rfl)
    (hdb : (x == ("__debug__" : Str)) = false := by decide) : RS X W (.Raise (some (.Call (.Name x p) [.Constant (.str m) jj p2] [] pos)) none pos2) (sRaise cn) := by
  refine ps_imp (ps_raise c.calm c.tk (pmk_own F q gC kC r hg hdb)) ?_
  rintro D s H ⟨w, en, rfl, R, E, P⟩
  exact P w s (.ref C) none (Ext.refl w) R rfl E ⟨cn, C, [], [], rfl, by rw [hcn]; exact gC, rfl, .inl ⟨rfl, rfl⟩, .nil⟩
end
end G
namespace G
open PySem L2 PySem.Spec
section
variable {X : Cx} {pins : List (Addr × Obj)} {s : L2.St} {H : Hp} {sh : Shared}
theorem inv_track (I : L2.Inv X pins s H sh) {ad : Addr} {o : HO} (na : H ad = none) (h0 : X.s_0.heap.get? ad = none) (nL : ad ≠ X.env.locals) (nC : ∀ x c, X.env.cells.lookup x = some c → c ≠ ad)
    (nP : ∀ p, p ∈ X.pn ++ pins → p.1 ≠ ad) (new : ObjOk X.prog X.w (upd H ad o) sh.heap ad o) : L2.Inv X pins s (upd H ad o) sh := by
  have ne : ∀ (b : Addr) (u : HO), H b = some u → b ≠ ad := fun b u h => ne_of_none h na
  have bs := I.base
  refine ⟨I.ok, I.os, I.bare, ⟨bs.keep, bs.slot, fun b ob h1 h2 h3 => ?_, bs.there, fun b xs h => ?_, fun b ob u h => ?_, fun b q h => ?_⟩, I.loc, I.cell, ?_, fun x c h => ?_, fun p hp => ?_, fun b u h => ?_, I.len⟩
  · have hb : b ≠ ad := fun z => by rw [z, h0] at h1; cases h1
    rw [upd_ne hb]; exact bs.free b ob h1 h2 h3
  · have z := bs.tups b xs h
    rw [upd_ne (ne _ _ z)]; exact z
  · have z := bs.frzs b ob u h
    rw [upd_ne (ne _ _ z)]; exact z
  · obtain ⟨m, z⟩ := bs.tbls b q h
    exact ⟨m, by rw [upd_ne (ne _ _ z)]; exact z⟩
  · rw [upd_ne (Ne.symm nL)]; exact I.free
  · rw [upd_ne (nC x c h)]; exact I.freeC x c h
  · obtain ⟨z1, z2, z3⟩ := I.pin p hp
    exact ⟨z1, by rw [upd_ne (nP p hp)]; exact z2, z3⟩
  · by_cases hb : b = ad
    · subst hb
      rw [upd_same] at h; cases h; exact new
    · rw [upd_ne hb] at h
      exact (I.hok b u h).stay (fun _ _ _ q => q) (fun c q => by rw [upd_ne (ne _ _ q)]; exact q) fun c xs q => by rw [upd_ne (ne _ _ q)]; exact q
theorem inv_suite (I : L2.Inv X pins s H sh) (ad : Addr) : L2.Inv (X.suite ad (X.pn ++ pins)) [] s H sh :=
  ⟨I.ok.suite _ _, I.os, I.bare, I.base, I.loc, I.cell, I.free, I.freeC, fun p hp => I.pin p (by rw [List.append_nil] at hp; exact hp), I.hok, I.len⟩
theorem inv_out {ad : Addr} {pn' : List (Addr × Obj)} (ok : X.Ok) (I : L2.Inv (X.suite ad (X.pn ++ pins)) pn' s H sh) : L2.Inv X pins s H sh :=
  ⟨ok, I.os, I.bare, I.base, I.loc, I.cell, I.free, I.freeC, fun p hp => I.pin p (List.mem_append_left _ hp), I.hok, I.len⟩
end
def wKeep (K : PySem.W.Frag) (c : Value) (i : Nat) (ts : TS) (Wo : WX) (D : Ends) : WX := fun cls d s H =>
  ∃ b, PySem.W.exmOne K cls c = some b ∧ (b = true → ∀ ad, H ad = none → ts ⟨fun s' H' => D.nx (s'.set i none) H', D.rt, fun s' H' => D.bk (s'.set i none) H', fun s' H' => D.ct (s'.set i none) H'⟩ (s.set i (some (.ref ad))) (upd H ad (ExcO ad cls d))) ∧ (b = false → Wo cls d s H)
section
variable {X : Cx} {x n : Str} {c : Value} {i : Nat} {body suite : List Stmt} {b0 : Stmt} {np pos pos' : Pos} {tb : WX → TS} {ts : TS} {Wt : WX}
theorem ps_tryK (hs : X.stack = X.env :: X.outer) (hf : X.env.frame = some X.env.locals) (hex : X.ex = []) (hN : X.N.Nodup) (hi : X.N[i]? = some n) (hln : X.env.kindOf n = some .local) (hc : Names X x c) (tk : Takes X Wt)
    (hb : ∀ (W' : WX) (pn : List (Addr × Obj)) (xe : Value → Shared → Prop), Takes (X.tr pn xe) W' → PassesOwn (model X.prog X.w) X.A X.env xe → PSs (X.tr pn xe) body (tb W'))
    (hsu : ∀ (ad : Addr) (pn : List (Addr × Obj)), PSs (X.suite ad pn) (b0 :: suite) ts) :
    PS X (.Try body [.ExceptHandler (some (.Name x np)) (some n) (b0 :: suite) pos'] [] [] pos) (fun D s H => tb (wKeep X.K c i ts Wt D) D s H) := by
  refine ⟨fun pins sh s H D I h => ?_⟩
  have ok := I.ok
  have frames : X.A.frames = some (X.env :: X.outer) := ok.frames.trans (congrArg some hs)
  refine wpAny_Try_except ?_
  refine wpAny_mono ((hb (wKeep X.K c i ts Wt D) (X.pn ++ pins)
    (fun y s1 => wpAny (model X.prog X.w) X.A (noteFrame y X.env) (fun _ s2 => wpAny (model X.prog X.w) X.A (setFlight y none) (fun _ s3 =>
      wpAny (model X.prog X.w) X.A (handleBy y X.env [.ExceptHandler (some (.Name x np)) (some n) (b0 :: suite) pos']) (SP X pins D) X.xe s3) X.xe s2) X.xe s1)
    (fun u s' xx => ?_) PassesOwn.looking).run [] sh s H D (I.toTry _) h) (fun fl s1 hsp => ?_) (fun _ _ q => q)
  · obtain ⟨ad, B, sI, pins', s5, H5, cls, d, rfl, J5, nb, up, sky, na, os, ag, b, hb1, hyes, hno⟩ := xx
    have J : L2.Inv X pins s5 H5 sI := J5.ofTry ok
    have sky1 : Sky B (X.env :: X.outer) ad (Zc cls d) X.env.locals s'.heap := hs ▸ sky
    show wpAny (model X.prog X.w) X.A (noteFrame (.ref ad) X.env) _ _ _
    refine Sky.land Zc.steady frames hf sky1 fun h3 fl3 up3 => ?_
    have J3 : L2.Inv X pins s5 H5 { s' with heap := h3 } := J.landed nb fl3.1 (up.trans up3) os ag
    obtain ⟨oe3, vs3, he3, hz3, hd3⟩ := fl3.there
    have nfr : ad ∉ frs (X.env :: X.outer) := fun hm => by
      obtain ⟨_, o', e', hnf⟩ := fl3.2.2.1.mem hm
      rw [he3] at e'; cases e'
      exact hnf _ hd3
    have nL : ad ≠ X.env.locals := fun z => nfr (List.mem_filterMap.mpr ⟨X.env, List.mem_cons_self, by rw [hf, z]⟩)
    have noI : sI.heap.get? ad = none := by
      cases q : sI.heap.get? ad with
      | none => rfl
      | some o =>
        have z := nb ad o q (by rw [hs]; exact nfr)
        rw [fl3.2.1] at z; cases z
    have no0 : X.s_0.heap.get? ad = none := by
      cases q : X.s_0.heap.get? ad with
      | none => rfl
      | some o =>
        obtain ⟨o', z⟩ := J.base.there ad o q (by rw [hex]; simp)
        rw [noI] at z; cases z
    have noC : ∀ y c', X.env.cells.lookup y = some c' → c' ≠ ad := fun y c' e z => by
      obtain ⟨v, o, ho, _⟩ := J.cell y c' e
      rw [z, noI] at ho; cases ho
    have noP : ∀ q, q ∈ X.pn ++ pins → q.1 ≠ ad := fun q hq z => by
      have e := (J.pin q hq).1
      rw [z, noI] at e; cases e
    refine wpAny_handleBy_cons (codeAny_handlers_test ?_) (by intro q; cases q)
    have LT : PySem.W.Looks (model X.prog X.w) h3 (typeOf (.ref ad)) cls := fun A Q E s k q => wpAny_typeOf_ref (k _ _ he3) (hz3.1 ▸ q)
    have LM := PySem.W.exm_one (M := model X.prog X.w) (J3.kIn) LT hb1
    have S3 := inv_suite J3 ad
    have test : ∀ {Q : Value → Shared → Prop} {E : Value → Shared → Prop}, Q c { s' with heap := h3 } → wpAny (model X.prog X.w) (X.A.mark (some (.ref ad))) (eval (.Name x np) X.env) Q E { s' with heap := h3 } := fun {Q E} q => by
      obtain ⟨hg, hdb, hm | ⟨hm, hv, hnn⟩⟩ := hc
      · exact ld_glob (X := X.suite ad (X.pn ++ pins)) S3 hg hm q hdb
      · exact ld_blt (X := X.suite ad (X.pn ++ pins)) S3 hg hm hv q hnn hdb
    refine test (LM.here ?_)
    cases b with
    | true =>
      refine codeAny_handlers_suite_as (HandSPX.lands_againZ fl3 fun h4 fl4 up4 => ?_)
      have J4 : L2.Inv X pins s5 H5 { s' with heap := h4 } := J.landed nb fl4.1 ((up.trans up3).trans up4) os ag
      obtain ⟨oe4, vs4, he4, hz4, hd4⟩ := fl4.there
      have J5 : L2.Inv X pins s5 (upd H5 ad (ExcO ad cls d)) { s' with heap := h4 } := inv_track J4 na no0 nL noC noP
        ⟨⟨oe4, vs4, he4, hz4.1, hz4.2, hd4⟩, ⟨oe4, he4⟩, fun h1 h2 ⟨o, v, e, r⟩ k => ⟨o, v, k o e, r⟩⟩
      have S5 := inv_suite J5 ad
      refine store_ok (X := X.suite ad (X.pn ++ pins)) (v := .ref ad) S5 hN hi (.inl hln) rfl (fun s6 S6 => ?_) (.inr hln)
      refine wpAny_mono ((hsu ad (X.pn ++ pins)).run [] s6 _ _ _ S6 (hyes rfl ad na)) (fun fl s7 hsp => ?_) (fun _ _ z => False.elim z)
      have fin : ∀ {t : L2.St} {H7 : Hp} {Q : Shared → Prop}, L2.Inv (X.suite ad (X.pn ++ pins)) [] t H7 s7 → (∀ s8, L2.Inv X pins (t.set i none) H7 s8 → Q s8) →
          wpAny (model X.prog X.w) X.A (do bindName X.env n .none; unbindBehindTheSuite X.env n pos') (fun _ s8 => Q s8) X.xe s7 := fun {t H7 Q} S7 hq => gone_ok (inv_out ok S7) hN hi hln hq
      cases fl with
      | next => obtain ⟨t, H7, S7, q7⟩ := hsp; exact fin S7 fun s8 J8 => ⟨_, _, J8, q7⟩
      | brk => obtain ⟨t, H7, S7, q7⟩ := hsp; exact fin S7 fun s8 J8 => ⟨_, _, J8, q7⟩
      | cont => obtain ⟨t, H7, S7, q7⟩ := hsp; exact fin S7 fun s8 J8 => ⟨_, _, J8, q7⟩
      | ret u => obtain ⟨v7, t, H7, S7, r7, q7⟩ := hsp; exact fin S7 fun s8 J8 => ⟨_, _, _, J8, r7, q7⟩
    | false =>
      show wpAny _ X.A (handleBy (.ref ad) X.env []) _ _ _
      refine wpAny_handleBy_nil ?_
      obtain ⟨k1, k2, k3, oe, vs, T, oT, ts', he, hz, hd, h1, hr⟩ := id fl3
      unfold PySem.passOn
      refine wpAny_bind (wpAny_field he hd h1 ?_)
      rw [if_neg (show ¬ ((Value.ref T == Value.none) = true) from by simp)]
      have fin : wpAny (model X.prog X.w) X.A (setFlight (.ref ad) X.env.frame) (fun _ s4 => wpAny (model X.prog X.w) X.A (throw (.ref ad) : Sem Flow) (SP X pins D) X.xe s4) X.xe { s' with heap := h3 } := by
        rw [hf]
        refine HandSPX.setFlight_upZ fl3 fun h4 hh4 up4 => wpAny_throw (tk _ _ ?_)
        exact ⟨ad, B, sI, pins, s5, H5, cls, d, rfl, J, nb, (up.trans up3).trans up4, .inr (.inr (by rw [hs]; exact hh4)), na, os, ag, hno rfl⟩
      first
        | exact wpAny_bind (wpAny_pure (wpAny_bind fin))
        | exact wpAny_bind fin
  · cases fl with
    | next => obtain ⟨t, H1, J1, q⟩ := hsp; exact wpAny_execs_nil ⟨t, H1, J1.ofTry ok, q⟩
    | brk => obtain ⟨t, H1, J1, q⟩ := hsp; exact ⟨t, H1, J1.ofTry ok, q⟩
    | cont => obtain ⟨t, H1, J1, q⟩ := hsp; exact ⟨t, H1, J1.ofTry ok, q⟩
    | ret u => obtain ⟨v, t, H1, J1, r, q⟩ := hsp; exact ⟨v, t, H1, J1.ofTry ok, r, q⟩
end
section
variable {X : Cx} {W : WX} {a b c e o : Expr} {es : List Expr} {ma mb mc me : EM} {ta tb : TM} {pos : Pos} {x : Str} {p : Pos} {j k : Nat}
def sSu (i : Nat) : SRes → SRes
  | .nxt e S => .nxt (e.set i none) S
  | .brk e S => .brk (e.set i none) S
  | .cnt e S => .cnt (e.set i none) S
  | .ret d S => .ret d S
  | _ => .stuck
def sTry (i : Nat) (tb : Nat → Option Bool) (m n : SM) : SM := fun e S => match m e S with
  | .exc (.exc cn fs) e1 S1 => match tb cn with
    | some true => sSu i (n (e1.set i (some (.exc cn fs))) S1)
    | some false => .exc (.exc cn fs) e1 S1
    | none => .stuck
  | .exc _ _ _ => .stuck
  | r => r
theorem rs_try {i : Nat} {n : Str} {cv : Value} {tb : Nat → Option Bool} {body suite : List Stmt} {b0 : Stmt} {np pos' : Pos} {mt mn : SM} (c : Cg X W k) (hi : X.N[i]? = some n) (hc : Names X x cv)
    (htb : ∀ cn C q, tb cn = some q → X.mg (cname cn) = some (.ref C) → PySem.W.exmOne X.K (.ref C) cv = some q)
    (hb : ∀ (W' : WX) (pn : List (Addr × Obj)) (xe : Value → Shared → Prop), Cg (X.tr pn xe) W' k → RSs (X.tr pn xe) W' body mt)
    (hsu : ∀ (ad : Addr) (pn : List (Addr × Obj)), RSs (X.suite ad pn) W0 (b0 :: suite) mn) (hln : X.env.kindOf n = some .local := by rfl) :
    RS X W (.Try body [.ExceptHandler (some (.Name x np)) (some n) (b0 :: suite) pos'] [] [] pos) (sTry i tb mt mn) := by
  refine ps_imp (ps_tryK (tb := fun W' => tS X W' mt) (ts := tS X W0 mn) c.hs c.hf c.em c.nd hi hln hc c.tk (fun W' pn xe t po => hb W' pn xe (c.tr t po)) hsu) ?_
  rintro D s H ⟨w, en, rfl, R, E, P⟩
  refine ⟨w, en, rfl, R, E, ?_⟩
  unfold sTry at P
  cases q : mt en w.st with
  | nxt e S => rw [q] at P; exact P
  | ret e S => rw [q] at P; exact P
  | brk e S => rw [q] at P; exact P
  | cnt e S => rw [q] at P; exact P
  | stuck => rw [q] at P; exact P
  | exc y e1 S1 =>
    rw [q] at P
    intro w1 s1 cls dd x1 R1 st1 E1 rx
    subst st1
    obtain ⟨cn, C, fs, gs, rfl, hC, rfl, hx, rf⟩ := rx
    dsimp only at P
    cases ht : tb cn with
    | none => rw [ht] at P; exact False.elim P
    | some bb =>
      rw [ht] at P
      refine ⟨bb, htb cn C bb ht hC, ?_, ?_⟩
      · rintro rfl ad na
        dsimp only at P
        have xp := put_ext (o := ExcO ad (.ref C) dd) R1 na
        refine ⟨w1.put ad (ExcO ad (.ref C) dd), e1.set i (some (.exc cn fs)), rfl, R1.put na, (E1.ext xp.toEx0).set i (.exc hC (put_st R1 na) (hx.ext xp.toEx0) (rf.ext xp.toEx0)), ?_⟩
        show PostS X W0 _ (mn _ w1.st) _
        have P2 : PostS X W (w1.put ad (ExcO ad (.ref C) dd)) (sSu i (mn (e1.set i (some (.exc cn fs))) w1.st)) D := PostS.ext (PostS.ext P x1) xp
        cases q2 : mn (e1.set i (some (.exc cn fs))) w1.st with
        | nxt e S => rw [q2] at P2; exact fun w3 s3 x3 R3 st3 E3 => P2 w3 _ x3 R3 st3 (E3.gone i)
        | brk e S => rw [q2] at P2; exact fun w3 s3 x3 R3 st3 E3 => P2 w3 _ x3 R3 st3 (E3.gone i)
        | cnt e S => rw [q2] at P2; exact fun w3 s3 x3 R3 st3 E3 => P2 w3 _ x3 R3 st3 (E3.gone i)
        | ret e S => rw [q2] at P2; exact P2
        | exc y e S => rw [q2] at P2; exact False.elim P2
        | stuck => rw [q2] at P2; exact False.elim P2
      · rintro rfl
        dsimp only at P
        exact P w1 s1 _ dd x1 R1 rfl E1 ⟨cn, C, fs, gs, rfl, hC, rfl, hx, rf⟩
def isC (tb : Nat → Option Bool) : D → Option Bool
  | .exc cn [] => tb cn
  | _ => none
def eIsC (tb : Nat → Option Bool) (m : EM) : EM := fun e S => (m e S).bind fun x S1 => lf ((isC tb x).map .bl) S1
def MtX (X : Cx) (f : Store → D → List D → Option D) : V → List V → Hp → VK → Prop := fun v vs H Q => ∃ w x xs E, w.hp = H ∧ Rep X.K X.mg w ∧ RepD X.K X.mg w x v ∧ RepL X.K X.mg w xs vs ∧ Post (RepD X.K X.mg) X.K X.mg w (lf (f w.st x xs) w.st) Q E
def eMt (f : Store → D → List D → Option D) (a : EM) (m : AM) : EM := fun e S => (a e S).bind fun x S1 => if (seqD S1 x).isSome then (m e S1).bind fun xs S2 => lf (f S2 x xs) S2 else .stuck
def flatD : D → Option V
  | .non => some .non
  | .bl b => some (.bl b)
  | .int i => some (.int i)
  | .str x => some (.str x)
  | _ => none
theorem RepD.flat {K : PySem.W.Frag} {mg : Str → Option Value} {w : Wo} {d : D} {v u : V} (h : RepD K mg w d v) (e : flatD d = some u) : v = u ∧ flatV v = true := by
  cases h <;> first | (cases e; exact ⟨rfl, rfl⟩) | cases e
def flatL : List D → Option (List V)
  | [] => some []
  | d :: l => match flatD d, flatL l with
    | some v, some vs => some (v :: vs)
    | _, _ => none
theorem RepL.flat {K : PySem.W.Frag} {mg : Str → Option Value} {w : Wo} {l : List D} {vs us : List V} (h : RepL K mg w l vs) (e : flatL l = some us) : vs = us ∧ vs.all flatV = true := by
  induction l generalizing vs us with
  | nil => cases h; cases e; exact ⟨rfl, rfl⟩
  | cons d l ih =>
    cases h with
    | cons r t =>
      rw [flatL] at e
      split at e
      · rename_i v2 vs2 e1 e2
        cases e
        obtain ⟨q1, q2⟩ := r.flat e1
        obtain ⟨q3, q4⟩ := ih t e2
        exact ⟨by rw [q1, q3], by rw [List.all_cons, q2, q4]; rfl⟩
      · cases e
end
end G
namespace G
open PySem L2 PySem.Spec
structure XcO (K : PySem.W.Frag) (C : Addr) (bm : List Value) (nw : String) : Prop where
  x : PySem.W.excIn K C bm nw = true
  k : PySem.W.keepIn K (.ref C) = true
  b : PySem.W.subIn K (.ref C) (.type "BaseException") = some true
  t : PySem.W.typeIn K (.ref C) = some (.type "type")
section
variable {P : Program} {w0 : World} {K : PySem.W.Frag} {mg : Str → Option Value} {base : Heap}
theorem ints_rep {w : Wo} : ∀ ns : List Int, RepL K mg w (ns.map D.int) (ns.map V.int)
  | [] => .nil
  | n :: ns => .cons (.int n) (ints_rep ns)
end
end G
namespace G
open PySem L2 PySem.Spec PyProof.Rows
section
variable {fx : List Fx} {fn : List He.DefD} {K : PySem.W.Frag}
theorem SaysX.fact (c : SaysX fx fn K) (i : Nat) {f : Fx} (h : fx[i]? = some f := by rfl) : f K = true := by
  have c1 := (He.ba (show ((fx.all fun f => f K) && fn.all fun d => d.ok K) = true from congrArg (fun z : He.AlD => z.1) c)).1
  exact List.all_eq_true.mp c1 f (List.mem_of_getElem? h)
theorem SaysX.def_ (c : SaysX fx fn K) (i : Nat) {d : He.DefD} (h : fn[i]? = some d := by rfl) : ∃ fd, FunD K d.name d.qual d.params d.body d.scope (d.dvs K) (d.kws K) (He.fAd K d.at_) fd := by
  have c2 := (He.ba (show ((fx.all fun f => f K) && fn.all fun d => d.ok K) = true from congrArg (fun z : He.AlD => z.1) c)).2
  have e : fn.map (fun d => He.fnW K d.at_) = fn.map He.DefD.val := congrArg (fun z : He.AlD => z.2) c
  have e2 : (fn.map fun d => He.fnW K d.at_)[i]? = (fn.map He.DefD.val)[i]? := by rw [e]
  rw [List.getElem?_map, List.getElem?_map, h] at e2
  exact He.DefD.funD (Option.some.inj e2) (List.all_eq_true.mp c2 d (List.mem_of_getElem? h))
end
section
variable {K : PySem.W.Frag} {h : Heap} {mg : Str → Option Value}
theorem free_at (X : K.In h) (Y : h.Ns mainGlobals mg) {l : List Str} (c : freesB l K = true) (i : Nat) {x : Str} (e : l[i]? = some x := by rfl) : mg x = none :=
  PySem.W.mg_none_of X Y (He.eqO_ok (List.all_eq_true.mp c x (List.mem_of_getElem? e)))
theorem glo_one (X : K.In h) (Y : h.Ns mainGlobals mg) {x : Str} (c : oneGlo K x = true) : mg x = some (.ref (He.ga K x)) := PySem.W.mg_of X Y (He.eqO_ok c)
theorem glo_at (X : K.In h) (Y : h.Ns mainGlobals mg) {l : List Str} (c : glosB l K = true) (i : Nat) {x : Str} (e : l[i]? = some x := by rfl) : mg x = some (.ref (He.ga K x)) :=
  glo_one X Y (List.all_eq_true.mp c x (List.mem_of_getElem? e))
theorem int_at (X : K.In h) (Y : h.Ns mainGlobals mg) {x : Str} {i : Int} (c : intB x i K = true) : ∃ t, mg x = some (.int i t) := He.int_ok X Y (show (He.Fa.int x i).ok K = true from c)
theorem str_at (X : K.In h) (Y : h.Ns mainGlobals mg) {x z : Str} (c : strB x z K = true) : ∃ t, mg x = some (.str z t) := He.str_ok X Y (show (He.Fa.str x z).ok K = true from c)
theorem tupX_ok {x : Str} {vs : List V} (h : tupX x vs K = true) : KtT K (He.ga K x) vs := by
  unfold tupX at h
  cases q : K.lookup (He.ga K x) with
  | none =>
    rw [q] at h
    cases h
  | some o =>
    obtain ⟨oc, od, dt, osl⟩ := o
    rw [q] at h
    cases oc with
    | type c =>
      cases dt with
      | seq its n =>
        obtain ⟨h1, h2⟩ := He.ba (show (decide (c = "tuple") && (decide (its.size ≤ sizeLine) && He.relAll vs its.toList)) = true from h)
        obtain ⟨h3, h4⟩ := He.ba h2
        exact ⟨_, its, n, q, congrArg Value.type (of_decide_eq_true h1), rfl, of_decide_eq_true h3, He.relAll_ok h4⟩
      | _ => cases h
    | _ => cases dt <;> cases h
theorem xcoB_ok {x : Str} {bm : List Value} {nw : String} (h : xcoB x bm nw K = true) : XcO K (He.ga K x) bm nw := by
  obtain ⟨c1, c⟩ := He.ba h
  obtain ⟨c2, c⟩ := He.ba c
  obtain ⟨c3, c4⟩ := He.ba c
  exact ⟨c1, c2, of_decide_eq_true c3, of_decide_eq_true c4⟩
theorem exqB_ok {C : Addr} (h : exqB K C = true) : ExcC K C := by
  obtain ⟨c1, c⟩ := He.ba h
  obtain ⟨c2, c⟩ := He.ba c
  obtain ⟨c3, c⟩ := He.ba c
  obtain ⟨c4, c⟩ := He.ba c
  obtain ⟨c5, c⟩ := He.ba c
  obtain ⟨c6, c⟩ := He.ba c
  obtain ⟨c7, c8⟩ := He.ba c
  exact ⟨He.eqO_ok c1, He.eqO_ok c2, of_decide_eq_true c3, c4, He.eqO_ok c5, He.eqO_ok c6, of_decide_eq_true c7, of_decide_eq_true c8⟩
theorem own_at {D A : Addr} {p : Addr → Prop} {x : Str} (g : mg x = some (.ref A)) (h : p A) (e : mg x = some (.ref D)) : p D := by
  rw [g] at e
  cases e
  exact h
end
end G
namespace G
open PySem L2 PySem.Spec
end G
namespace G
open PySem L2 PySem.Spec
section
variable {K : PySem.W.Frag} {mg : Str → Option Value} {w : Wo}
def putD (f : Nat) (d : D) : List (Nat × D) → List (Nat × D)
  | [] => [(f, d)]
  | (g, x) :: r => if g = f then (g, d) :: r else (g, x) :: putD f d r
theorem RepF.put {f : Nat} {d : D} {v : V} (hf : f < 48) (q : RepD K mg w d v) {fs : List (Nat × D)} {gs : List (Str × V)} : RepF K mg w fs gs → RepF K mg w (putD f d fs) (putF (fname f) v gs)
  | .nil => .cons q .nil
  | @RepF.cons _ _ _ g d' v' l vs r t => by
    unfold putD putF
    by_cases e : g = f
    · subst e
      rw [if_pos rfl, if_pos rfl]
      exact .cons q t
    · rw [if_neg e, if_neg (fname_ne hf e)]
      exact .cons r (RepF.put hf q t)
def fldD (cs : List Nat) (f : Nat) (S : Store) (x : D) : Option D := match insD S x with
  | some (c, fs) => if cs.contains c then fs.lookup f else none
  | none => none
end
section
variable {X : Cx} {W : WX} {a b c e o : Expr} {es : List Expr} {ma mb mc me : EM} {ta tb : TM} {pos : Pos} {x : Str} {p : Pos} {j k : Nat} {ps ks : List Str}
def eFld (cs : List Nat) (f : Nat) (m : EM) : EM := fun e S => (m e S).bind fun x S1 => lf (fldD cs f S1 x) S1
def stF (cs : List Nat) (f : Nat) (S : Store) (x y : D) : Option Store := match x with
  | .loc n => match S[n]? with
    | some (.obj c fs) => if cs.contains c && decide (fs.length < 1000) then some (S.set n (.obj c (putD f y fs))) else none
    | _ => none
  | _ => none
def stR (o : Option Store) (e : En) : SRes := match o with
  | some S => .nxt e S
  | none => .stuck
def sFldM (cs : List Nat) (f : Nat) (o v : EM) : SM := fun e S => sE (v e S) e fun y S1 => sE (o e S1) e fun x S2 => stR (stF cs f S2 x y) e
end
mutual
def D.lo (n : Nat) : D → Bool
  | .non => true
  | .bl _ => true
  | .int _ => true
  | .str _ => true
  | .tup l => loL n l
  | .lst l => loL n l
  | .scr l => loL n l
  | .dic _ l => loL n l
  | .loc m => decide (m < n)
  | .exc _ fs => loF n fs
  | .ins _ fs => loF n fs
  | .fa _ => true
  | .pin _ d => d.lo n
def loL (n : Nat) : List D → Bool
  | [] => true
  | d :: l => d.lo n && loL n l
def loF (n : Nat) : List (Nat × D) → Bool
  | [] => true
  | (_, d) :: l => d.lo n && loF n l
end
section
variable {K : PySem.W.Frag} {mg : Str → Option Value} {w : Wo}
theorem StP.cut {n : Nat} {a : Addr} {u : HO} (h : StP w a u) : StP (w.cut n) a u := ⟨h.1, fun z => h.2 (cut_zz z)⟩
theorem StO.cut {n : Nat} {a : Addr} {u : HO} (h : StO w a u) : StO (w.cut n) a u := ⟨h.1, fun z => h.2 (cut_zz z)⟩
mutual
theorem RepD.cut {n : Nat} {d : D} {v : V} : RepD K mg w d v → d.lo n = true → RepD K mg (w.cut n) d v
  | .non, _ => .non
  | .bl b, _ => .bl b
  | .int i, _ => .int i
  | .str x, _ => .str x
  | .tup h r, l => .tup (h.imp (fun h => h.cut) id) (RepL.cutR r (by rw [D.lo] at l; exact l))
  | .lst h r, l => .lst h.cut (RepL.cutR r (by rw [D.lo] at l; exact l))
  | .scr h r, l => .scr (h.imp (fun h => h.cut) id) (RepL.cutR r (by rw [D.lo] at l; exact l))
  | .dic h z r, l => .dic h.cut z (RepL.cutR r (by rw [D.lo] at l; exact l))
  | .loc h, l => .loc (by
      rw [D.lo] at l
      show (w.al.take n)[_]? = _
      rw [List.getElem?_take, if_pos (of_decide_eq_true l)]; exact h)
  | .ins g h r, l => .ins g h.cut (RepF.cutR r (by rw [D.lo] at l; exact l))
  | .exc g h x r, l => .exc g h.cut (x.imp id fun ⟨z, y, q, s⟩ => ⟨z, y, q, s.cut⟩) (RepF.cutR r (by rw [D.lo] at l; exact l))
  | .fa a, _ => .fa a
  | .pin h, l => .pin (RepD.cut h (by rw [D.lo] at l; exact l))
theorem RepL.cutR {n : Nat} {l : List D} {vs : List V} : RepL K mg w l vs → loL n l = true → RepL K mg (w.cut n) l vs
  | .nil, _ => .nil
  | .cons r t, h => by
    rw [loL, Bool.and_eq_true] at h
    exact .cons (RepD.cut r h.1) (RepL.cutR t h.2)
theorem RepF.cutR {n : Nat} {l : List (Nat × D)} {vs : List (Str × V)} : RepF K mg w l vs → loF n l = true → RepF K mg (w.cut n) l vs
  | .nil, _ => .nil
  | .cons r t, h => by
    rw [loF, Bool.and_eq_true] at h
    exact .cons (RepD.cut r h.1) (RepF.cutR t h.2)
end
mutual
theorem RepD.low {d : D} {v : V} : RepD K mg w d v → d.lo w.al.length = true
  | .non => by rw [D.lo]
  | .bl b => by rw [D.lo]
  | .int i => by rw [D.lo]
  | .str x => by rw [D.lo]
  | .tup h r => by rw [D.lo]; exact RepL.low r
  | .lst h r => by rw [D.lo]; exact RepL.low r
  | .scr h r => by rw [D.lo]; exact RepL.low r
  | .dic h z r => by rw [D.lo]; exact RepL.low r
  | .loc h => by rw [D.lo]; exact decide_eq_true (List.getElem?_eq_some_iff.mp h).1
  | .ins g h r => by rw [D.lo]; exact RepF.low r
  | .exc g h x r => by rw [D.lo]; exact RepF.low r
  | .fa a => by rw [D.lo]
  | .pin h => by rw [D.lo]; exact RepD.low h
theorem RepL.low {l : List D} {vs : List V} : RepL K mg w l vs → loL w.al.length l = true
  | .nil => by rw [loL]
  | .cons r t => by rw [loL, Bool.and_eq_true]; exact ⟨RepD.low r, RepL.low t⟩
theorem RepF.low {l : List (Nat × D)} {vs : List (Str × V)} : RepF K mg w l vs → loF w.al.length l = true
  | .nil => by rw [loF]
  | .cons r t => by rw [loF, Bool.and_eq_true]; exact ⟨RepD.low r, RepF.low t⟩
end
def loK {κ : Type} (n : Nat) : List (κ × D) → Bool
  | [] => true
  | (_, d) :: l => d.lo n && loK n l
theorem RepK.low {κ : Type} {l : List (κ × D)} {vs : List (κ × V)} : RepK κ K mg w l vs → loK w.al.length l = true
  | .nil => rfl
  | .cons r t => by rw [loK, Bool.and_eq_true]; exact ⟨r.low, RepK.low t⟩
theorem RepK.cutR {κ : Type} {n : Nat} {l : List (κ × D)} {vs : List (κ × V)} : RepK κ K mg w l vs → loK n l = true → RepK κ K mg (w.cut n) l vs
  | .nil, _ => .nil
  | .cons r t, h => by
    rw [loK, Bool.and_eq_true] at h
    exact .cons (r.cut h.1) (RepK.cutR t h.2)
theorem CellR.cut {w1 : Wo} {n : Nat} {a a' : Addr} {c : Cell} (h : CellR K mg w a c) (h0 : CellR K mg w1 a' c) (hn : w1.al.length = n) : CellR K mg (w.cut n) a c := by
  subst hn
  cases c with
  | dead => trivial
  | lst l => obtain ⟨vs, p, r⟩ := h; obtain ⟨_, _, r0⟩ := h0; exact ⟨vs, p, r.cutR r0.low⟩
  | dk l => obtain ⟨vs, p, r⟩ := h; obtain ⟨_, _, r0⟩ := h0; exact ⟨vs, p, r.cutR r0.low⟩
  | fk l => obtain ⟨o, vs, p, r⟩ := h; obtain ⟨_, _, _, r0⟩ := h0; exact ⟨o, vs, p, r.cutR r0.low⟩
  | ts l => obtain ⟨h1, h2, xs, h3, h4, h5⟩ := h; exact ⟨h1, h2, xs, h3, h4, fun x hx => (h5 x hx).imp (fun q => q.cut) id⟩
  | fs l => obtain ⟨h1, h2, o, xs, h3, h4, h5⟩ := h; exact ⟨h1, h2, o, xs, h3, h4, fun x hx => (h5 x hx).imp (fun q => q.cut) id⟩
  | obj c l => obtain ⟨C, dx, gs, g, p, r⟩ := h; obtain ⟨_, _, _, _, _, r0⟩ := h0; exact ⟨C, dx, gs, g, p, r.cutR r0.low⟩
  | tbl _ q =>
    obtain ⟨ea, ps, p, t, r⟩ := h
    refine ⟨ea, ps, p, t, fun pos cv hc => ?_⟩
    obtain ⟨c, o, e1, e2, e3⟩ := r pos cv hc
    exact ⟨c, o, e1, e2, fun z => e3 (cut_zz z)⟩
theorem Rep.cut {w1 : Wo} (R1 : Rep K mg w1) (X : Ext w1 w) (R : Rep K mg w) (hs : w.st.take w1.st.length = w1.st) : Rep K mg (w.cut w1.al.length) := by
  obtain ⟨t, e⟩ := X.al
  have el : w.al.take w1.al.length = w1.al := by rw [e]; simp
  have es : w.st.take w1.al.length = w1.st := by rw [R1.len]; exact hs
  refine ⟨?_, ?_, fun a h => ?_, fun m a c g1 g2 => ?_, fun a h => ?_⟩
  · show (w.al.take _).length = (w.st.take _).length
    rw [el, es]; exact R1.len
  · show (w.al.take _).Nodup
    rw [el]; exact R1.nd
  · have h : a ∈ w.al.take w1.al.length := h
    exact R.tr a (mem_take h)
  · have g1 : (w.al.take w1.al.length)[m]? = some a := g1
    have g2 : (w.st.take w1.al.length)[m]? = some c := g2
    have c0 := R1.cell m a c (by rw [← el]; exact g1) (by rw [← es]; exact g2)
    exact (R.cell m a c (take_get g1) (take_get g2)).cut c0 rfl
  · obtain ⟨h1, h2⟩ := R.hid a h
    exact ⟨fun z => h1 (mem_take z), h2⟩
end
end G
namespace G
open PySem L2 PySem.Spec
theorem RoomG.make {k : Nat} {A : Around} (h : RoomG (k + 1) A) (C : Addr) (us : List Value) (kw : List (Str × Value)) : RoomG k (A.under (.builtin "type.__call__" ⟨.ref C :: us, kw⟩)) := ⟨h.r.make C us kw, by
  have := h.gd
  first
    | exact this
    | simpa [Around.under] using this⟩
section
variable {X : Cx} {W : WX} {a b c e o : Expr} {es : List Expr} {ma mb mc me : EM} {ta tb : TM} {pos : Pos} {x : Str} {p : Pos} {j k cn n : Nat} {ps ks : List Str} {f : FM} {gD : List D → List D → List D}
def eMk (mk' : List D → List D → Store → Res D) (n l : Nat) (m mk : AM) : EM := fun e S => (m e S).bind fun ds S1 => (mk e S1).bind fun zs S2 => if ds.length = n ∧ zs.length = l then mk' ds zs S2 else .stuck
def eMk0 (mk' : List D → List D → Store → Res D) : EM := fun _ S => mk' [] [] S
end
end G
namespace G
open PySem L2 PySem.Spec RZ
section
variable {X : Cx} {W : WX} {a b c e o : Expr} {es : List Expr} {ma mb mc me : EM} {ta tb : TM} {pos : Pos} {x : Str} {p : Pos} {j k : Nat}
variable {K : PySem.W.Frag} {mg : Str → Option Value} {w : Wo}
def zipD (l m : List D) : List D := List.zipWith (fun x y => .tup [x, y]) l m
def zipR (ds : List D) (S : Store) : Res (List D) := match ds with
  | [.tup l, .tup m] => .ok (zipD l m) S
  | [.lst l, .lst m] => .ok (zipD l m) S
  | _ => .stuck
def iZip (m : AM) : AM := fun e S => (m e S).bind zipR
def signs (x : Str) : List D := x.cps.toList.map fun c => .str ⟨#[c]⟩
def strR (d : D) (S : Store) : Res (List D) := match d with
  | .str x => .ok (signs x) S
  | _ => .stuck
def iStrM (m : EM) : AM := fun e S => (m e S).bind strR
theorem its_str (x : Str) : ItsR X w (signs x) (Its x) := by
  intro w2 x2 _ R2
  have hl : (signs x).length = x.cps.size := by unfold signs; simp
  refine ⟨fun i hi => ⟨?_, fun v H' y => ?_⟩, ?_⟩
  · rw [hl] at hi; exact hi
  · obtain ⟨rfl, c, hc, rfl⟩ := y
    refine ⟨w2, .str ⟨#[c]⟩, rfl, Ext.refl w2, R2, rfl, rfl, ?_, .str _⟩
    unfold signs
    rw [List.getElem?_map, Array.getElem?_toList, hc]; rfl
  · show x.cps.size ≤ (signs x).length
    rw [hl]; exact Nat.le_refl _
theorem ri_str {tg : Expr} (ha : RE X W a ma) : RI X W tg a (iStrM ma) := by
  refine ⟨fun pins s σ H R' I h => (pi_str ha).run pins s σ H R' I ?_⟩
  obtain ⟨w, en, rfl, R, E, P⟩ := h
  refine ⟨w, en, rfl, R, E, (Post.bind P).imp ?_⟩
  rintro v H1 ⟨w1, d, rfl, X1, R1, rx, P1⟩
  unfold strR at P1
  split at P1
  · cases rx; exact ⟨_, rfl, Post.now P1 R1 (its_str _)⟩
  · exact False.elim P1
def appR (x : D) (xs : List D) (S : Store) : Res D := match x, xs with
  | .loc n, [y] => match S[n]? with
    | some (.lst l) => if l.length < sizeLine then .ok .non (S.set n (.lst (l ++ [y]))) else .stuck
    | _ => .stuck
  | _, _ => .stuck
def isLst (S : Store) (x : D) : Bool := (seqD S x).isSome
def eApp (a : EM) (m : AM) : EM := fun e S => (a e S).bind fun x S1 => if isLst S1 x then (m e S1).bind fun xs S2 => appR x xs S2 else .stuck
theorem re_app {m : AM} {apos : Pos} (ho : RE X W o ma) (ha : RA X W [e] m) (hbase : attributeBase o "append" X.env (eval o X.env) = eval o X.env := by rfl)
    (hfew : ((backTo pos (starEach [e] X.env)).all (fun x => !x.1) && (backToKw pos (keywordEach [] X.env)).all (fun x => x.1.isSome) && decide ([e].length + ([] : List Keyword).length + (if ([] : List Keyword).isEmpty then 0 else 1) < 30)) = true := by rfl)
    (hline : (apos.endLine == pos.line) = true := by rfl) (hs : starEach [e] X.env = (false, eval e X.env) :: starEach [] X.env := by rfl) (hpl : (backTo pos (starEach [] X.env)).any (·.1) = false := by rfl) :
    RE X W (.Call (.Attribute o "append" apos) [e] [] pos) (eApp ma m) := by
  refine pe_imp (pe_bm PySem.F.plainAttrs_list PySem.F.slot_list_append PySem.F.type_list_append mt_append ho ha hbase hfew hline hs hpl) ?_
  rintro s H Q ⟨w, en, rfl, R, E, P⟩
  refine ⟨w, en, rfl, R, E, (Post.bind P).imp ?_⟩
  rintro v H1 ⟨w1, d, rfl, X1, R1, rd, P1⟩
  dsimp only at P1
  split at P1
  · rename_i hq
    unfold isLst at hq
    cases q : seqD w1.st d with
    | none => rw [q] at hq; cases hq
    | some l =>
      obtain ⟨ad, vs, rfl, hs, hl⟩ := rd.seq R1 q
      refine ⟨.inl ⟨rfl, _, hs⟩, w1, en, rfl, R1, E.ext X1.toEx0, (Post.bind P1).imp ?_⟩
      rintro us H2 ⟨w2, xs, rfl, X2, R2, rl, P2⟩
      have rd2 := rd.ext X2.toEx0
      dsimp only at P2
      unfold appR at P2
      split at P2
      · rename_i n y
        split at P2
        · rename_i l2 hl2
          split at P2
          · rename_i hz
            obtain ⟨u, rfl, ru⟩ := rl.one_inv
            cases rd2 with
            | loc hn =>
              obtain ⟨vs2, p2, r2⟩ := R2.cell _ _ _ hn hl2
              have Xw : Ext w2 (w2.wr n ad (.lst (vs2 ++ [u])) (.lst (l2 ++ [y]))) := wr_ext R2 hn hl2 (by intro z; cases z)
              refine ⟨ad, vs2, u, rfl, rfl, p2, by rw [← r2.length]; exact hz, ?_⟩
              exact P2 (w2.wr n ad (.lst (vs2 ++ [u])) (.lst (l2 ++ [y]))) .non Xw (R2.wr hn hl2 (by intro z; cases z) ⟨_, upd_same, (r2.append (.cons ru .nil)).ext Xw.toEx0⟩) rfl .non
          · exact False.elim P2
        · exact False.elim P2
      · exact False.elim P2
  · exact False.elim P1
def rsv (S : Store) : D → D
  | .loc n => match S[n]? with
    | some (.lst l) => .lst l
    | _ => .loc n
  | d => d
def lstOf (S : Store) (d : D) : Option (List D) := match rsv S d with
  | .lst l => some l
  | _ => none
theorem RepD.lstV {d : D} {v : V} {l : List D} (R : Rep K mg w) (h : RepD K mg w d v) (e : rsv w.st d = .lst l) : ∃ a vs, v = .ref a ∧ w.hp a = some (.lst vs) ∧ RepL K mg w l vs := by
  cases h with
  | lst s r => cases e; exact ⟨_, _, rfl, s.1, r⟩
  | @loc n a hn =>
    replace e : (match w.st[n]? with
      | some (.lst l) => .lst l
      | _ => .loc n) = D.lst l := e
    split at e
    · rename_i l' hl
      cases e
      obtain ⟨vs, p, r⟩ := R.cell _ _ _ hn hl
      exact ⟨_, vs, rfl, p, r⟩
    · cases e
  | _ => cases e
def dAddS (S : Store) (x y : D) : Option D := match rsv S x, rsv S y with
  | .lst l, .lst m => if l.length + m.length ≤ sizeLine then some (.lst (l ++ m)) else none
  | _, _ => dAdd x y
theorem om_addS : OpR X (binaryOp .Add) (OpMS X dAddS) := by
  intro pins s σ H x y v u Q I rx ry h
  obtain ⟨w, dx, dy, E, rfl, R, qx, qy, P⟩ := h
  unfold dAddS at P
  split at P
  · rename_i l m e1 e2
    split at P
    · rename_i hz
      obtain ⟨a1, vs, rfl, p1, r1⟩ := qx.lstV R e1
      obtain ⟨a2, us, rfl, p2, r2⟩ := qy.lstV R e2
      refine op_cat pins s σ w.hp _ _ v u Q I rx ry ⟨_, _, _, _, rfl, rfl, p1, p2, by rw [← r1.length, ← r2.length]; exact hz, fun p hp => ?_⟩
      exact Post.put P R hp (.lst (put_st R hp) ((r1.append r2).ext (put_ext R hp).toEx0))
    · exact False.elim P
  · exact om_add pins s σ w.hp _ _ v u Q I rx ry ⟨w, dx, dy, E, rfl, R, qx, qy, P⟩
theorem re_binS {op : Operator} {f : Store → D → D → Option D} (ho : OpR X (binaryOp op) (OpMS X f)) (ha : RE X W a ma) (hb : RE X W b mb) : RE X W (.BinOp a op b pos) (eBinS f ma mb) := pe_imp (pe_op ho ha hb) t_binS
def fDivmodW : Store → List D → Option D
  | _, [.int i, .int j] => if 0 < j ∧ j.natAbs.log2 < 9000 then some (.tup [.int (i / j), .int (i % j)]) else none
  | _, _ => none
theorem call_divmodW : CallR X (.builtin "divmod") (fun xs H Q => ∃ i j, xs = [.int i, .int j] ∧ (0 < j ∧ j.natAbs.log2 < 9000) ∧ ∀ p, H p = none → Q (.ref p) (upd H p (.tup [.int (i / j), .int (i % j)]))) := by
  intro pins s σ H xs us Q I r h
  obtain ⟨i, j, rfl, ⟨h1, h2⟩, q⟩ := h
  obtain ⟨u, w', rfl, ⟨t, rfl⟩, ⟨t', rfl⟩⟩ := vals2 r
  refine PyProof.Rows.divmod_int (by omega) ?_ (.inl (PyProof.noPylong_of_log2 h2))
  rw [Int.fdiv_eq_ediv_of_nonneg i (by omega), Int.fmod_eq_emod_of_nonneg i (by omega)]
  have hn : H s.heap.objs.size = none := I.hok.fresh (Nat.le_refl _)
  refine ⟨.ref s.heap.objs.size, _, ?_, rfl, q _ hn⟩
  refine I.laid (fun b o e => Heap.get?_push_of_some _ e) (Nat.le_refl _) ⟨by simp only [List.length_cons, List.length_nil]; rw [sizeLine_eq]; decide, [.int (i / j) s.toks, .int (i % j) (s.toks + 1)], .cons ⟨_, rfl⟩ (.cons ⟨_, rfl⟩ .nil), ?_⟩
  exact ⟨_, Heap.get?_push_size s.heap rfl, rfl, 0, rfl⟩
theorem cm_divmodW : CallR X (.builtin "divmod") (CaM X fDivmodW) := by
  intro pins s σ H xs us Q I r h
  obtain ⟨w, ds, E, rfl, R, q, P⟩ := h
  unfold fDivmodW at P
  split at P
  · split at P
    · rename_i hj
      obtain ⟨v, v', rfl, rv, rv'⟩ := q.two_inv
      cases rv; cases rv'
      exact call_divmodW pins s σ w.hp _ us Q I r ⟨_, _, rfl, hj, fun p hp => Post.put P R hp (.tup (.inl (put_st R hp).o) (.cons (.int _) (.cons (.int _) .nil)))⟩
    · exact False.elim P
  · exact False.elim P
def inS (i z : Str) : Bool := match i.cps.toList with
  | [c] => decide (c ∈ z.cps.toList)
  | _ => !(Builtin.Str.occurrences z i 0 z.length 1).isEmpty
theorem one_sign {i : Str} {c : Nat} (h : i.cps.toList = [c]) : i = ⟨#[c]⟩ := by
  obtain ⟨cps⟩ := i
  congr 1
  apply Array.ext'
  exact h
def dIn (neg : Bool) (S : Store) (x y : D) : Option D := match y with
  | .str z => match x with
    | .str i => some (.bl (if neg then !inS i z else inS i z))
    | _ => none
  | _ => none
theorem om_in : OpR X (compareOp .In) (OpMS X (dIn false)) := by
  intro pins s σ H x y v u Q I rx ry h
  obtain ⟨w, dx, dy, E, rfl, R, qx, qy, P⟩ := h
  unfold dIn at P
  split at P
  · split at P
    · rename_i z i
      cases qx; cases qy
      rw [if_neg Bool.false_ne_true] at P
      unfold inS at P
      split at P
      · rename_i ch hc
        have e := one_sign hc
        subst e
        exact op_in_sign pins s σ w.hp _ _ v u Q I rx ry ⟨_, _, rfl, rfl, Post.now P R (.bl _)⟩
      · exact op_in_str pins s σ w.hp _ _ v u Q I rx ry ⟨_, _, rfl, rfl, Post.now P R (.bl _)⟩
    · exact False.elim P
  · exact False.elim P
theorem re_cmpS {op : CmpOp} {f : Store → D → D → Option D} (ho : OpR X (compareOp op) (OpMS X f)) (ha : RE X W a ma) (hb : RE X W b mb) (hm : behindInMarks op b = false := by rfl) : RE X W (.Compare a [op] [b] pos) (eBinS f ma mb) := pe_imp (pe_cmpR ho ha hb hm) t_binS
theorem rt_cmpS {op : CmpOp} {f : Store → D → D → Option D} (ho : OpR X (compareOp op) (OpMS X f)) (ha : RE X W a ma) (hb : RE X W b mb) (hm : behindInMarks op b = false := by rfl) : RT X W (.Compare a [op] [b] pos) (tB (eBinS f ma mb)) := by
  refine pt_imp (pt_cmpR ho ha hb hm) ?_
  rintro s H Q ⟨w, en, rfl, R, E, P⟩
  refine t_binS s w.hp _ ⟨w, en, rfl, R, E, (Post.bind P).imp ?_⟩
  rintro v H1 ⟨w1, x, rfl, X1, R1, rx, P1⟩
  cases x with
  | bl b => cases rx; exact ⟨b, rfl, Post.now P1 R1 rfl⟩
  | _ => exact False.elim P1
end
end G
namespace G
open PySem L2 PySem.Spec PyProof.Rows
def ownCs : List Nat := [33, 34, 35, 36, 37, 38, 39, 40, 41, 42, 43, 44, 45, 46]
def isO (cn : Nat) (S : Store) (d : D) : Option Bool := match tyD S d with
  | some _ => some false
  | none => match insD S d with
    | some (c, _) => if ownCs.contains c then some (c == cn) else none
    | none => none
section
variable {X : Cx} {W : WX} {a b c e o : Expr} {es : List Expr} {ma mb mc me : EM} {ta tb : TM} {pos : Pos} {x : Str} {p : Pos} {j k : Nat}
def eIsO (cn : Nat) (m : EM) : EM := fun e S => (m e S).bind fun x S1 => lf ((isO cn S1 x).map .bl) S1
end
end G
namespace G
open PySem L2 PySem.Spec PyProof.Rows
section
variable {prog : Program} {w : World} {A : Around} {E : Value → Shared → Prop} {s : Shared}
theorem walks_tupFrom (hh : A.handled = none) {I t : Addr} (hne : t ≠ I) (items : Array Value) (i : Nat) (hi : i ≤ items.size) :
    WalksS prog w A I [I, t] [I] (fun a b => a = b) (items.size - i) (fun j v => items[i + j]? = some v) (fun j s => s.heap.IsTupleIter I t (i + j) ∧ s.heap.IsTuple t items) where
  sub := fun b hb => by simp at hb; simp [hb]
  grefl := fun _ => rfl
  gtrans := fun _ _ _ h1 h2 => h1.trans h2
  frame := fun j s h' tk st _ hk => ⟨st.1.at fun o e => hk I (by simp) o e, st.2.at fun o e => hk t (by simp) o e⟩
  item := fun j s Q E hj st hQ => by
    have hlt : i + j < items.size := by omega
    refine wpAny_pyNext_tuple_item st.1 st.2 (x := items[i + j]) (by simp [hlt]) fun h' hit' hs' => ?_
    exact hQ _ _ (by simp [hlt]) ⟨by rw [← Nat.add_assoc]; exact hit', st.2.extBut hs'.extBut hne⟩ ⟨fun b o hb e => hs'.extBut b o (fun h => hb (by simp [h])) e, rfl, rfl, rfl, Nat.le_refl _⟩
  done := fun s Q E st hQ => by
    refine wpAny_pyNext_tuple_end hh st.1 st.2 (by simp; omega) fun h' he' => hQ _ ⟨fun b o hb e => he' b o (fun h => hb (by simp [h])) e, rfl, rfl, rfl, Nat.le_refl _⟩
  self := fun _ _ _ _ st hQ => wpAny_pyIter_tupleiter st.1 hQ
theorem walks_lstFrom (hh : A.handled = none) {I t : Addr} (hne : t ≠ I) (items : Array Value) (i : Nat) (hi : i ≤ items.size) :
    WalksS prog w A I [I, t] [I] (fun a b => a = b) (items.size - i) (fun j v => items[i + j]? = some v) (fun j s => s.heap.IsListIter I t (i + j) ∧ s.heap.IsList t items) where
  sub := fun b hb => by simp at hb; simp [hb]
  grefl := fun _ => rfl
  gtrans := fun _ _ _ h1 h2 => h1.trans h2
  frame := fun j s h' tk st _ hk => ⟨st.1.at fun o e => hk I (by simp) o e, st.2.at fun o e => hk t (by simp) o e⟩
  item := fun j s Q E hj st hQ => by
    have hlt : i + j < items.size := by omega
    refine wpAny_pyNext_list_item st.1 st.2 (x := items[i + j]) (by simp [hlt]) fun h' hit' hs' => ?_
    exact hQ _ _ (by simp [hlt]) ⟨by rw [← Nat.add_assoc]; exact hit', st.2.extBut hs'.extBut hne⟩ ⟨fun b o hb e => hs'.extBut b o (fun h => hb (by simp [h])) e, rfl, rfl, rfl, Nat.le_refl _⟩
  done := fun s Q E st hQ => by
    refine wpAny_pyNext_list_end hh st.1 st.2 (by simp; omega) fun h' he' => hQ _ ⟨fun b o hb e => he' b o (fun h => hb (by simp [h])) e, rfl, rfl, rfl, Nat.le_refl _⟩
  self := fun _ _ _ _ st hQ => wpAny_pyIter_listiter st.1 hQ
theorem items_all {P : Nat → Value → Prop} {acc : Array Value} {n : Nat} {xs : List Value} (h : ItemsOf P acc n) (hx : xs.length = n) (hp : ∀ j v, P j v → xs[j]? = some v) : acc.toList = xs := by
  obtain ⟨h1, h2⟩ := h
  apply List.ext_getElem?
  intro j
  by_cases hj : j < acc.size
  · have e : acc[j]? = some acc[j] := by simp [hj]
    rw [Array.getElem?_toList, e]
    exact (hp j _ (h2 j _ e)).symm
  · rw [List.getElem?_eq_none (by simpa using hj), List.getElem?_eq_none (by omega)]
theorem drop_get {items : Array Value} {i j : Nat} {v : Value} (h : items[i + j]? = some v) : (items.toList.drop i)[j]? = some v := by
  rw [List.getElem?_drop, Array.getElem?_toList]; exact h
def StarQ (s : Shared) (items : Array Value) (i : Nat) (Q : List Value → Shared → Prop) : Prop := ∀ (h' : Heap) (tk : Nat), (∀ b o, s.heap.get? b = some o → h'.get? b = some o) →
  Q (items.toList.take i ++ [.ref h'.objs.size]) { s with heap := h'.push { cls := .type "list", data := .seq (items.toList.drop i).toArray }, toks := tk }
theorem star_tail {it : Addr} {items : Array Value} {i : Nat} {Q : List Value → Shared → Prop} {s1 : Shared} {St : Nat → Shared → Prop} {t : Addr} {T : String} (hTm : T = "str_ascii_iterator" ∨ T = "str_iterator" ∨ T = "list_iterator" ∨ T = "tuple_iterator")
    (W : WalksS prog w A.in1 it [it, t] [it] (fun a b => a = b) (items.size - i) (fun j v => items[i + j]? = some v) St) (hT : ∀ i s, St i s → s.TypeIs (.ref it) T) (hst : St 0 s1) (hi : i ≤ items.size) (hz : items.size ≤ sizeLine) (hit : s.heap.objs.size = it) (hlt : it < s1.heap.objs.size) (ht : t < s1.heap.objs.size)
    (k1 : ∀ b o, s.heap.get? b = some o → s1.heap.get? b = some o) (e1 : s1 = { s with heap := s1.heap }) (hQ : StarQ s items i Q) :
    wpAny (model prog w) A (do
      let rest ← holding (items.toList.take i) (collect (.ref it))
      let after := i + 1 - 1 - i
      if rest.length < after then
        rule "unpack.star.too-few"
        raiseError "ValueError" s!"not enough values to unpack (expected at least {i + 1 - 1}, got {i + rest.length})"
      let mid := rest.length - after
      return items.toList.take i ++ [← newList (rest.take mid)] ++ rest.drop mid) Q E s1 := by
  refine wpAny_bind (wpAny_holding (wpAny_collect_iter hTm W hT hst (fun b hb => ?_) (by simp) (fun s2 acc hm ha => ?_) (by omega)))
  · simp at hb
    rcases hb with rfl | rfl
    · exact hlt
    · exact ht
  · have e : acc.toList = items.toList.drop i := items_all ha (by simp) fun j v => drop_get
    rw [e]
    dsimp only
    rw [if_neg (by omega)]
    have e2 : (items.toList.drop i).length - (i + 1 - 1 - i) = (items.toList.drop i).length := by omega
    rw [e2, List.take_length, List.drop_length]
    have hs2 : s2 = { s with heap := s2.heap, toks := s2.toks } := by
      obtain ⟨_, g, d, o, _⟩ := hm
      obtain ⟨h2, g2, d2, t2, o2⟩ := s2
      rw [e1] at g d o
      dsimp only at g d o ⊢
      subst g d o
      rfl
    have kk : ∀ b o, s.heap.get? b = some o → s2.heap.get? b = some o := fun b o hb => hm.heap b o (by
      simp only [List.mem_cons, List.not_mem_nil, or_false]
      intro z
      exact Nat.ne_of_lt (hit ▸ Heap.lt_size hb) z) (k1 b o hb)
    rw [hs2]
    unfold newList
    refine wpAny_bind (wpAny_newObj_type ?_ (by show (items.toList.drop i).toArray.size ≤ sizeLine; rw [List.size_toArray, List.length_drop]; simp only [Array.length_toList]; omega))
    rw [List.append_nil]
    exact wpAny_pure (hQ s2.heap s2.toks kk)
theorem star_tup {t : Addr} {items : Array Value} {i : Nat} {Q : List Value → Shared → Prop} (hh : A.handled = none) (ht : s.heap.IsTuple t items) (hi : i ≤ items.size) (hz : items.size ≤ sizeLine) (hQ : StarQ s items i Q) : wpAny (model prog w) A (unpackItems (.ref t) (i + 1) (some i)) Q E s := by
  have hlt : t < s.heap.objs.size := by obtain ⟨o, ho, _⟩ := ht; exact Heap.lt_size ho
  have hne : t ≠ s.heap.objs.size := Nat.ne_of_lt hlt
  unfold unpackItems
  refine wpAny_bind ?_
  unfold notIterableAtAll
  refine wpAny_bind (wpAny_specialOf ht.typeIs F.slot_tuple_iter.lookup ?_)
  refine wpAny_pure ?_
  simp only [Bool.false_eq_true, if_false]
  refine wpAny_bind (wpAny_holding (wpAny_pyIter_tuple ht ?_))
  refine wpAny_bind (wpAny_holding (wpAny_draw_tuple hne i 0 _ _ ⟨_, Heap.get?_push_size _ rfl, rfl, rfl⟩ (ht.push _) (by omega) fun h1 hit1 hs1 => ?_))
  rw [List.drop_zero, if_neg (by simp; omega)]
  have ht1 : h1.IsTuple t items := (ht.push _).extBut hs1.extBut hne
  have hl1 : s.heap.objs.size < h1.objs.size := by
    rw [hs1.1]
    simp [Heap.push]
  refine star_tail (s := s) (t := t) (T := "tuple_iterator") (St := fun j s' => s'.heap.IsTupleIter s.heap.objs.size t (i + j) ∧ s'.heap.IsTuple t items) (by simp) (walks_tupFrom (A := A.in1) hh hne items i hi) (fun j s hs => ?_) ⟨?_, ht1⟩ hi hz rfl hl1 (Nat.lt_trans hlt hl1) (fun b o hb => ?_) rfl hQ
  · obtain ⟨o, e, c, d⟩ := hs.1
    exact ⟨o, e, c⟩
  · simpa using hit1
  · exact hs1.extBut b o (Nat.ne_of_lt (Heap.lt_size hb)) (Heap.get?_push_of_some _ hb)
theorem draw_lst {it t : Addr} {items : Array Value} (hne : t ≠ it) : ∀ (n i : Nat) (s : Shared) (Q : List Value → Shared → Prop), s.heap.IsListIter it t i → s.heap.IsList t items → i + n ≤ items.size →
    (∀ h', h'.IsListIter it t (i + n) → Heap.SameBut it s.heap h' → Q ((items.toList.drop i).take n) { s with heap := h' }) → wpAny (model prog w) A (draw (.ref it) n) Q E s
  | 0, i, s, Q, hit, _, _, hQ => by
    show wpAny _ _ (pure []) Q E s
    exact wpAny_pure (by simpa using hQ s.heap hit (Heap.SameBut.refl ..))
  | n + 1, i, s, Q, hit, ht, hle, hQ => by
    have hlt : i < items.size := by omega
    show wpAny _ _ (pyNext (.ref it) >>= _) Q E s
    refine wpAny_bind (wpAny_pyNext_list_item hit ht (x := items[i]) (by simp [hlt]) fun h₁ hit₁ hs₁ => ?_)
    refine wpAny_bind (wpAny_holding (draw_lst hne n (i + 1) _ _ hit₁ (ht.extBut hs₁.extBut hne) (by omega) fun h₂ hit₂ hs₂ => wpAny_pure ?_))
    have hd : items.toList.drop i = items[i] :: items.toList.drop (i + 1) := by simp [List.drop_eq_getElem_cons, hlt]
    have := hQ h₂ (by rw [show i + (n + 1) = i + 1 + n by omega]; exact hit₂) (hs₁.trans hs₂)
    rw [hd, List.take_succ_cons] at this
    exact this
theorem star_lst {t : Addr} {items : Array Value} {i : Nat} {Q : List Value → Shared → Prop} (hh : A.handled = none) (ht : s.heap.IsList t items) (hi : i ≤ items.size) (hz : items.size ≤ sizeLine) (hQ : StarQ s items i Q) : wpAny (model prog w) A (unpackItems (.ref t) (i + 1) (some i)) Q E s := by
  have hlt : t < s.heap.objs.size := by obtain ⟨o, ho, _⟩ := ht; exact Heap.lt_size ho
  have hne : t ≠ s.heap.objs.size := Nat.ne_of_lt hlt
  unfold unpackItems
  refine wpAny_bind ?_
  unfold notIterableAtAll
  refine wpAny_bind (wpAny_specialOf ht.typeIs F.slot_list_iter.lookup ?_)
  refine wpAny_pure ?_
  simp only [Bool.false_eq_true, if_false]
  refine wpAny_bind (wpAny_holding (wpAny_pyIter_list ht ?_))
  refine wpAny_bind (wpAny_holding (draw_lst hne i 0 _ _ ⟨_, Heap.get?_push_size _ rfl, rfl, rfl⟩ (ht.push _) (by omega) fun h1 hit1 hs1 => ?_))
  rw [List.drop_zero, if_neg (by simp; omega)]
  have ht1 : h1.IsList t items := (ht.push _).extBut hs1.extBut hne
  have hl1 : s.heap.objs.size < h1.objs.size := by
    rw [hs1.1]
    simp [Heap.push]
  refine star_tail (s := s) (t := t) (T := "list_iterator") (St := fun j s' => s'.heap.IsListIter s.heap.objs.size t (i + j) ∧ s'.heap.IsList t items) (by simp) (walks_lstFrom (A := A.in1) hh hne items i hi) (fun j s hs => ?_) ⟨?_, ht1⟩ hi hz rfl hl1 (Nat.lt_trans hlt hl1) (fun b o hb => ?_) rfl hQ
  · obtain ⟨o, e, c, d⟩ := hs.1
    exact ⟨o, e, c⟩
  · simpa using hit1
  · exact hs1.extBut b o (Nat.ne_of_lt (Heap.lt_size hb)) (Heap.get?_push_of_some _ hb)
end
section
variable {X : Cx} {W : WX} {pos : Pos}
theorem pgs_star {e : Expr} {es : List Expr} {t : TG} {u : TGs} {p : Pos} (h1 : PG X e t) (h2 : PGs X es u) : PGs X (.Starred e p :: es) (gCons t u) := by
  refine ⟨fun pins s σ H vs us Q I r h => ?_⟩
  obtain ⟨v, vr, e1, h⟩ := h
  subst e1
  cases r with
  | cons r rr =>
    have hs : (assignEach (.Starred e p :: es) X.env).map (·.2) = assign e X.env :: (assignEach es X.env).map (·.2) := by
      simp only [assignEach, List.map_cons]
    rw [hs]
    refine assignInOrder_cons (thn (h1.run pins s σ H _ _ _ I r h) fun _ s1 ⟨σ1, H1, I1, q1⟩ => ?_)
    exact h2.run pins s1 σ1 H1 _ _ Q I1 rr q1
def gStar (K : PySem.W.Frag) (i : Nat) (t : TGs) : TG := fun v σ H Q => ∃ a xs, v = .ref a ∧ (SqT K H a xs ∨ SqL K H a xs) ∧ i ≤ xs.length ∧ ∀ p, H p = none → t (xs.take i ++ [.ref p]) σ (upd H p (.lst (xs.drop i))) Q
theorem vals_take {vs : List V} {us : List Value} (h : Vals vs us) : ∀ n, Vals (vs.take n) (us.take n) := by
  induction h with
  | nil => intro n; simp; exact .nil
  | cons r t ih =>
    intro n
    cases n with
    | zero => exact .nil
    | succ n => exact .cons r (ih n)
theorem vals_drop {vs : List V} {us : List Value} (h : Vals vs us) : ∀ n, Vals (vs.drop n) (us.drop n) := by
  induction h with
  | nil => intro n; simp; exact .nil
  | cons r t ih =>
    intro n
    cases n with
    | zero => exact .cons r t
    | succ n => exact ih n
theorem vals_app {vs ws : List V} {us zs : List Value} (h : Vals vs us) (h' : Vals ws zs) : Vals (vs ++ ws) (us ++ zs) := by
  induction h with
  | nil => exact h'
  | cons r t ih => exact .cons r ih
theorem pg_star {es : List Expr} {k : Nat} {t : TGs} {i : Nat} (hc : X.calm = true) (h : PGs X es t)
    (hn : (assignEach es X.env).length = i + 1 := by rfl) (hst : (assignEach es X.env).findIdx? (·.1) = some i := by rfl) : PG X (.Tuple es k pos) (gStar X.K i t) := by
  refine ⟨fun pins s σ H v u Q I r hw => ?_⟩
  obtain ⟨a, xs, e1, hq, hl, hw⟩ := hw
  subst e1
  cases r
  rw [assign_Tuple]
  refine wpAny_bind (wpAny_standAt ?_)
  unfold unpack
  rw [hn, hst]
  have fin : ∀ (its : List Value), Vals xs its → its.length ≤ sizeLine → StarQ s its.toArray i (fun ws s' => wpAny (model X.prog X.w) X.A (assignInOrder ((assignEach es X.env).map (·.2)) ws) (fun _ s' => ∃ σ' H', L2.Inv X pins σ' H' s' ∧ Q σ' H') X.xe s') := by
    intro its rv hz h' tk kk
    have I1 : L2.Inv X pins σ H { s with heap := h', toks := tk } := I.kept kk
    have hnew : H h'.objs.size = none := I1.hok.fresh (Nat.le_refl _)
    have rd := vals_drop rv i
    have I2 : L2.Inv X pins σ (upd H h'.objs.size (.lst (xs.drop i))) { s with heap := h'.push { cls := .type "list", data := .seq (its.drop i).toArray }, toks := tk } :=
      I1.laid (t' := tk) (fun b o e => Heap.get?_push_of_some _ e) (Nat.le_refl _) ⟨by rw [List.length_drop, rv.length]; omega, its.drop i, 0, rd, Heap.get?_push_size _ rfl⟩
    exact h.run pins _ σ _ _ _ Q I2 (vals_app (vals_take rv i) (.cons (show L2.RelV (V.ref h'.objs.size) (Value.ref h'.objs.size) from rfl) .nil)) (hw _ hnew)
  rcases hq with hq | hq
  · obtain ⟨its, rv, ht, hz⟩ := I.tuple hq
    exact wpAny_bind (wpAny_holding (star_tup (I.ok.hd hc) (show s.heap.IsTuple a its.toArray from ht) (by simpa [← rv.length] using hl) (by simpa [← rv.length] using hz) (fin its rv (by simpa [← rv.length] using hz))))
  · obtain ⟨its, rv, ht, hz⟩ := I.list hq
    exact wpAny_bind (wpAny_holding (star_lst (I.ok.hd hc) ht.isList (by simpa [← rv.length] using hl) (by simpa [← rv.length] using hz) (fin its rv (by simpa [← rv.length] using hz))))
def starR (i : Nat) (r : GMs) (l : List D) (e : En) (S : Store) : Res En := if i ≤ l.length then r (l.take i ++ [.lst (l.drop i)]) e S else .stuck
def gStr (i : Nat) (r : GMs) : GM := fun d e S => match d with
  | .tup l => starR i r l e S
  | .lst l => starR i r l e S
  | .scr l => starR i r l e S
  | .loc n => match S[n]? with
    | some (.lst l) => starR i r l e S
    | _ => .stuck
  | _ => .stuck
theorem rgs_star {tg : Expr} {ts : List Expr} {g : GM} {r : GMs} {p : Pos} (h1 : RG X W tg g) (h2 : RGs X W ts r) : RGs X W (.Starred tg p :: ts) (gsCons' g r) := by
  refine pgs_imp (pgs_star h1 h2) ?_
  rintro v s H Q ⟨w, en, ds, rfl, R, E, rd, P⟩
  cases rd with
  | nil => exact False.elim P
  | cons r1 r2 =>
    refine ⟨_, _, rfl, w, en, _, rfl, R, E, r1, Post.noX (E := fun cls dd H' => W cls dd s H') ((Post.bind P).imp ?_)⟩
    rintro s1 H1 ⟨w1, e1, rfl, X1, R1, E1, P1⟩
    exact ⟨w1, e1, _, rfl, R1, E1, r2.ext X1.toEx0, Post.noX P1⟩
theorem star_post {w : Wo} {l : List D} {vs : List V} {en : En} {s : L2.St} {i : Nat} {r : GMs} {Q : L2.St → Hp → Prop} (R : Rep X.K X.mg w) (E : RepE X.K X.mg w en s) (rl : RepL X.K X.mg w l vs) (P : Post (RepE X.K X.mg) X.K X.mg w (starR i r l en w.st) Q (fun cls dd H' => W cls dd s H')) :
    i ≤ vs.length ∧ ∀ p, w.hp p = none → tGts X W r (vs.take i ++ [.ref p]) s (upd w.hp p (.lst (vs.drop i))) Q := by
  unfold starR at P
  split at P
  · rename_i hi
    refine ⟨by rw [← rl.length]; exact hi, fun p hp => ?_⟩
    have xp := put_ext (o := .lst (vs.drop i)) R hp
    exact ⟨w.put p (.lst (vs.drop i)), en, l.take i ++ [.lst (l.drop i)], rfl, R.put hp, E.ext xp.toEx0, ((rl.take i).ext xp.toEx0).append (.cons (.lst (put_st R hp) ((rl.drop i).ext xp.toEx0)) .nil), P.ext xp⟩
  · exact False.elim P
theorem rg_star {ts : List Expr} {k i : Nat} {r : GMs} (hc : X.calm = true) (h : RGs X W ts r) (hn : (assignEach ts X.env).length = i + 1 := by rfl) (hst : (assignEach ts X.env).findIdx? (·.1) = some i := by rfl) : RG X W (.Tuple ts k pos) (gStr i r) := by
  refine pg_imp (pg_star hc h hn hst) ?_
  rintro v s H Q ⟨w, en, d, rfl, R, E, rd, P⟩
  unfold gStr at P
  split at P
  · cases rd with
    | tup st rl =>
      obtain ⟨h1, h2⟩ := star_post R E rl P
      exact ⟨_, _, rfl, .inl st.sq, h1, h2⟩
  · cases rd with
    | lst st rl =>
      obtain ⟨h1, h2⟩ := star_post R E rl P
      exact ⟨_, _, rfl, .inr (SqL.of st.1), h1, h2⟩
  · cases rd with
    | scr st rl =>
      obtain ⟨h1, h2⟩ := star_post R E rl P
      exact ⟨_, _, rfl, .inr st.sq, h1, h2⟩
  · split at P
    · rename_i n l hl
      cases rd with
      | loc hn =>
        obtain ⟨vs, p, rl⟩ := R.cell _ _ _ hn hl
        obtain ⟨h1, h2⟩ := star_post R E rl P
        exact ⟨_, _, rfl, .inr (SqL.of p), h1, h2⟩
    · exact False.elim P
  · exact False.elim P
end
end G
namespace G
open PySem L2 PySem.Spec
section
variable {X : Cx} {W : WX} {a b c e o : Expr} {es : List Expr} {ma mb mc me : EM} {ta tb : TM} {pos apos : Pos} {x : Str} {p : Pos} {j k cn n : Nat} {ps ks : List Str} {f : FM} {gD : List D → List D → List D}
def eMeth (cn : Nat) (f : FM) (gD : List D → List D → List D) (n l : Nat) (mo : EM) (m mk : AM) : EM := fun e S => (mo e S).bind fun x S0 => if isCn cn S0 x = true then (m e S0).bind fun ds S1 => (mk e S1).bind fun zs S2 => if ds.length = n ∧ zs.length = l then f (gD (x :: ds) zs) S2 else .stuck else .stuck
def eMethK (cn : Nat) (f : FM) (gD : List D → List D → List D) (l : Nat) (mo : EM) (mk : AM) : EM := fun e S => (mo e S).bind fun x S0 => if isCn cn S0 x = true then (mk e S0).bind fun zs S2 => if zs.length = l then f (gD [x] zs) S2 else .stuck else .stuck
def eMeth0 (cn : Nat) (f : FM) (gD : List D → List D → List D) (mo : EM) : EM := fun e S => (mo e S).bind fun x S0 => if isCn cn S0 x = true then f (gD [x] []) S0 else .stuck
end
end G
namespace G
open PySem L2 PySem.Spec PyProof.Rows
def keyD : D → Option Key
  | .int i => some (.inl i)
  | .str x => some (.inr x)
  | _ => none
def putKD (kvs : List (Key × D)) (k : Key) (v : D) : List (Key × D) :=
  if (kvs.any fun kv => decide (kv.1 = k)) = true then kvs.map (fun kv => if kv.1 = k then (kv.1, v) else kv) else kvs ++ [(k, v)]
def dkD (S : Store) : D → Option (Nat × List (Key × D))
  | .loc n => match S[n]? with
    | some (.dk l) => some (n, l)
    | _ => none
  | _ => none
section
variable {K : PySem.W.Frag} {mg : Str → Option Value} {w : Wo}
theorem RepD.key {d : D} {v : V} {k : Key} (h : RepD K mg w d v) (e : keyD d = some k) : v = kV k := by
  cases h with
  | int i => cases e; rfl
  | str x => cases e; rfl
  | _ => cases e
theorem RepK.valN {k : Key} {kvs : List (Key × D)} {us : List (Key × V)} : RepK Key K mg w kvs us → valD kvs k = none → valV us k = none
  | .nil, h => rfl
  | @RepK.cons _ _ _ _ f d' v' l vs r t, h => by
    by_cases e : f = k
    · have h1 : valD ((f, d') :: l) k = some d' := by simp [valD, List.find?_cons, e]
      rw [h1] at h; cases h
    · have h1 : valD ((f, d') :: l) k = valD l k := by simp [valD, List.find?_cons, e]
      rw [h1] at h
      rw [valV_neg (by exact e)]
      exact RepK.valN t h
theorem RepK.klen {κ : Type} {kvs : List (κ × D)} {us : List (κ × V)} : RepK κ K mg w kvs us → kvs.length = us.length
  | .nil => rfl
  | .cons _ t => congrArg Nat.succ (RepK.klen t)
theorem RepK.any {k : Key} {kvs : List (Key × D)} {us : List (Key × V)} : RepK Key K mg w kvs us → (kvs.any fun kv => decide (kv.1 = k)) = (us.any fun kv => decide (kv.1 = k))
  | .nil => rfl
  | .cons _ t => by rw [List.any_cons, List.any_cons, RepK.any t]
theorem RepK.app {κ : Type} {kvs ls : List (κ × D)} {us zs : List (κ × V)} : RepK κ K mg w kvs us → RepK κ K mg w ls zs → RepK κ K mg w (kvs ++ ls) (us ++ zs)
  | .nil, h => h
  | .cons r t, h => .cons r (RepK.app t h)
theorem RepK.upd {k : Key} {d : D} {v : V} (q : RepD K mg w d v) {kvs : List (Key × D)} {us : List (Key × V)} : RepK Key K mg w kvs us → RepK Key K mg w (kvs.map fun kv => if kv.1 = k then (kv.1, d) else kv) (us.map fun kv => if kv.1 = k then (kv.1, v) else kv)
  | .nil => .nil
  | @RepK.cons _ _ _ _ f d' v' l vs r t => by
    rw [List.map_cons, List.map_cons]
    by_cases e : f = k
    · rw [if_pos (by exact e), if_pos (by exact e)]; exact .cons q (RepK.upd q t)
    · rw [if_neg (by exact e), if_neg (by exact e)]; exact .cons r (RepK.upd q t)
theorem RepK.put {k : Key} {d : D} {v : V} (q : RepD K mg w d v) {kvs : List (Key × D)} {us : List (Key × V)} (h : RepK Key K mg w kvs us) : RepK Key K mg w (putKD kvs k d) (putK us k v) := by
  unfold putKD putK
  rw [h.any]
  split
  · exact h.upd q
  · exact h.app (.cons q .nil)
theorem dkD_loc {S : Store} {x : D} {n : Nat} {kvs : List (Key × D)} (e : dkD S x = some (n, kvs)) : x = .loc n ∧ S[n]? = some (.dk kvs) := by
  unfold dkD at e
  split at e
  · split at e
    · cases e; exact ⟨rfl, by assumption⟩
    · cases e
  · cases e
theorem RepD.dkV {d : D} {v : V} {n : Nat} {kvs : List (Key × D)} (R : Rep K mg w) (h : RepD K mg w d v) (e : dkD w.st d = some (n, kvs)) : ∃ a us, v = .ref a ∧ w.al[n]? = some a ∧ w.hp a = some (.dK us) ∧ RepK Key K mg w kvs us := by
  obtain ⟨rfl, hl⟩ := dkD_loc e
  cases h with
  | @loc _ a hn =>
    obtain ⟨us, p, r⟩ := R.cell _ _ _ hn hl
    exact ⟨a, us, rfl, hn, p, r⟩
end
section
variable {X : Cx} {W : WX} {a b c e o f : Expr} {es : List Expr} {ma mb mc me : EM} {ta tb : TM} {pos apos cpos : Pos}
def eNewD : EM := fun _ S => .ok (.loc S.length) (S ++ [.dk []])
def ixE (S : Store) (x y : D) : Option D := match dkD S x with
  | some (_, kvs) => (keyD y).bind (valD kvs)
  | none => ixD S x y
theorem ix_dictR (hu : X.A.units + 1 < cLine) : IxR X (fun x y H Q => ∃ a v, x = .ref a ∧ DGet H a y (some v) ∧ Q v H) := by
  intro value slice pins s σ H x y v u Q I rx ry h hs
  obtain ⟨a, z, rfl, g, q⟩ := h
  obtain rfl : v = Value.ref a := rx
  have hT := dict_typeIs I g
  unfold subscriptTail
  refine wpAny_bind ?_
  rw [getitemInPython_of_ne hT.not_modules]
  refine wpAny_bind (wpAny_specialOf hT PySem.F.slot_dict_getitem.lookup ?_)
  have fin : wpAny (model X.prog X.w) X.A (subscripted slice false (.ref a) u) (fun r s₃ => wpAny (model X.prog X.w) X.A (letTemporaryGo value (.ref a) r >>= fun _ => pure r) (EP X pins σ Q) X.xe s₃) X.xe s := by
    rw [hs]
    exact wpAny_operating (d_getItem hu I g ry fun w' s3 I3 rw' => wpAny_bind (wpAny_letTemporaryGo (wpAny_pure ⟨z, H, I3, rw', q⟩)))
  first
    | exact wpAny_pure (wpAny_bind fin)
    | exact wpAny_bind (wpAny_pure (wpAny_bind fin))
    | exact wpAny_bind fin
theorem om_ixE (hu : X.A.units + 64 < cLine) : IxR X (OpMS X ixE) := by
  intro va sl pins s σ H x y v u Q I rx ry h hs
  obtain ⟨w, dx, dy, E, rfl, R, qx, qy, P⟩ := h
  unfold ixE at P
  split at P
  · rename_i n kvs hd
    obtain ⟨a, us, rfl, hn, hp, rk⟩ := qx.dkV R hd
    cases hk : keyD dy with
    | none => rw [hk] at P; exact False.elim P
    | some k =>
      rw [hk] at P
      have ek := qy.key hk
      subst ek
      replace P : Post (RepD X.K X.mg) X.K X.mg w (lf (valD kvs k) w.st) Q E := P
      cases hv : valD kvs k with
      | none => rw [hv] at P; exact False.elim P
      | some d =>
        rw [hv] at P
        obtain ⟨z, e1, rz⟩ := rk.val hv
        exact ix_dictR (by omega) va sl pins s σ w.hp _ _ v u Q I rx ry ⟨a, z, rfl, e1 ▸ DGet.k hp, Post.now P R rz⟩ hs
  · exact om_ix va sl pins s σ w.hp x y v u Q I rx ry ⟨w, dx, dy, E, rfl, R, qx, qy, P⟩ hs
theorem re_ixE (hu : X.A.units + 64 < cLine) (ha : RE X W a ma) (hb : RE X W b mb) (hs : PlainIx b := by intro _ _; rfl) : RE X W (.Subscript a b pos) (eBinS ixE ma mb) := pe_imp (pe_ix (om_ixE hu) ha hb hs) t_binS
def setE (S : Store) (o i d : D) : Option Store := match dkD S o with
  | some (n, kvs) => match keyD i with
    | some k => if kvs.length < sizeLine then some (S.set n (.dk (putKD kvs k d))) else none
    | none => none
  | none => setD S o i d
def gSbE (o i : EM) : GM := fun d e S => (noX (o e S)).bind fun x S1 => (noX (i e S1)).bind fun y S2 => match setE S2 x y d with
  | some S3 => .ok e S3
  | none => .stuck
theorem set_any (hu : X.A.units + 1 < cLine) : PSet X (fun o i v H Q => rSetL o i v H Q ∨ rSetD o i v H Q) := by
  intro pins s σ H o i v ov iv u Q I ro ri rv h
  rcases h with h | h
  · exact set_list pins s σ H o i v ov iv u Q I ro ri rv h
  · exact set_dict hu pins s σ H o i v ov iv u Q I ro ri rv h
theorem rg_subE (hu : X.A.units + 64 < cLine) (ho : RE X W o ma) (hi : RE X W b mb)
    (ha : ∀ v, assign (.Subscript o b pos) X.env v = (do
      let ov ← holding [v] (eval o X.env)
      let iv ← holding [v, ov] (eval b X.env)
      standAt pos
      holding [v, ov, iv] (setItem ov iv v)
      release [v, ov, iv] []) := by intro _; rfl) : RG X W (.Subscript o b pos) (gSbE ma mb) := by
  refine pg_imp (pg_sub ho hi (set_any (by omega)) ha) ?_
  rintro v s H Q ⟨w, en, d, rfl, R, E, rd, P⟩
  refine ⟨w, en, rfl, R, E, Post.noX (E := fun cls dd H' => W cls dd s H') ((Post.bind P).imp ?_)⟩
  rintro ov H1 ⟨w1, x, rfl, X1, R1, rx, P1⟩
  refine ⟨w1, en, rfl, R1, E.ext X1.toEx0, Post.noX (E := fun cls dd H' => W cls dd s H') ((Post.bind P1).imp ?_)⟩
  rintro iv H2 ⟨w2, y, rfl, X2, R2, ry, P2⟩
  have rx' := rx.ext X2.toEx0
  have rd' := (rd.ext X1.toEx0).ext X2.toEx0
  dsimp only at P2
  cases q : setE w2.st x y d with
  | none => rw [q] at P2; exact False.elim P2
  | some S3 =>
    rw [q] at P2
    unfold setE at q
    split at q
    · rename_i m kvs hd
      split at q
      · rename_i k hk
        split at q
        · rename_i hz
          cases q
          obtain ⟨ad, us, rfl, hn, hp, rk⟩ := rx'.dkV R2 hd
          have hl := (dkD_loc hd).2
          cases ry.key hk
          have Xw : Ext w2 (w2.wr m ad (.dK (putK us k v)) (.dk (putKD kvs k d))) := wr_ext R2 hn hl (by intro z; cases z)
          refine .inr ⟨ad, _, rfl, .inl ⟨us, k, hp, rfl, by rw [← rk.klen]; exact hz, rfl⟩, ?_⟩
          exact P2 (w2.wr m ad (.dK (putK us k v)) (.dk (putKD kvs k d))) s Xw (R2.wr hn hl (by intro z; cases z) ⟨_, upd_same, (rk.put rd').ext Xw.toEx0⟩) rfl (((E.ext X1.toEx0).ext X2.toEx0).ext Xw.toEx0)
        · cases q
      · cases q
    · refine .inl ?_
      unfold setD at q
      split at q
      · rename_i m k _
        cases ry
        cases rx' with
        | @loc _ ad hn =>
          split at q
          · rename_i l hl
            obtain ⟨j, e1, rfl⟩ := Option.map_eq_some_iff.mp q
            obtain ⟨vs, p, r⟩ := R2.cell _ _ _ hn hl
            have Xw : Ext w2 (w2.wr m ad (.lst (vs.set j v)) (.lst (l.set j d))) := wr_ext R2 hn hl (by intro z; cases z)
            refine ⟨_, vs, k, j, rfl, rfl, p, by rw [← r.length]; exact e1, ?_⟩
            exact P2 (w2.wr m ad (.lst (vs.set j v)) (.lst (l.set j d))) s Xw (R2.wr hn hl (by intro z; cases z) ⟨_, upd_same, (r.set rd' j).ext Xw.toEx0⟩) rfl (((E.ext X1.toEx0).ext X2.toEx0).ext Xw.toEx0)
          · cases q
      · cases q
def dgR (S : Store) (x y z : D) : Res D := match dkD S x, keyD y with
  | some (_, kvs), some k => .ok ((valD kvs k).getD z) S
  | _, _ => .stuck
def eDGet2 (mo my mx : EM) : EM := fun e S => (mo e S).bind fun x S1 => if (dkD S1 x).isSome = true then (my e S1).bind fun y S2 => (mx e S2).bind fun z S3 => dgR S3 x y z else .stuck
def eDGet1 (mo my : EM) : EM := fun e S => (mo e S).bind fun x S1 => if (dkD S1 x).isSome = true then (my e S1).bind fun y S2 => dgR S2 x y .non else .stuck
def dpR (S : Store) (x y : D) (z : Option D) : Res D := match dkD S x, keyD y with
  | some (n, kvs), some k => match valD kvs k, z with
    | some d, _ => .ok d (S.set n (.dk (dropKD kvs k)))
    | none, some z => .ok z S
    | none, none => .stuck
  | _, _ => .stuck
def eDPop2 (mo my mx : EM) : EM := fun e S => (mo e S).bind fun x S1 => if (dkD S1 x).isSome = true then (my e S1).bind fun y S2 => (mx e S2).bind fun z S3 => dpR S3 x y (some z) else .stuck
def eDPop1 (mo my : EM) : EM := fun e S => (mo e S).bind fun x S1 => if (dkD S1 x).isSome = true then (my e S1).bind fun y S2 => dpR S2 x y none else .stuck
end
end G
namespace G
open PySem L2 PySem.Spec PyProof.Rows
def insI (i : Int) : List Int → List Int
  | [] => [i]
  | j :: l => if i < j then i :: j :: l else if i = j then j :: l else j :: insI i l
def srtI : List Int → List Int
  | [] => []
  | i :: l => insI i (srtI l)
def intL : List D → Option (List Int)
  | [] => some []
  | .int i :: l => (intL l).map (i :: ·)
  | _ :: _ => none
def lstD (S : Store) : D → Option (List D)
  | .lst l => some l
  | .scr l => some l
  | .loc n => match S[n]? with
    | some (.lst l) => some l
    | _ => none
  | _ => none
section
variable {X : Cx} {W : WX} {a : Expr} {ma : EM} {pos pos2 p p2 : Pos}
def ssD (S : Store) (x : D) : Option D := ((lstD S x).bind intL).bind fun ns => if ns.length < 64 then some (.lst ((srtI ns).map .int)) else none
def eSortSet (m : EM) : EM := fun e S => (m e S).bind fun x S1 => lf (ssD S1 x) S1
end
end G
namespace G
open PySem L2 PySem.Spec
abbrev CM := En → Store → Res (List D × Option Nat)
def okC (p : List D × Option Nat) (S : Store) : Prop := match p.2 with
  | none => True
  | some n => S[n]? = some (.lst p.1)
open Classical in
noncomputable def fiC (ck : Store → Prop) (g : GM) (m : SM) : List D → SM
  | [] => fun e S => if ck S then .nxt e S else .stuck
  | d :: ds => fun e S => if ck S then sE (g d e S) e fun e1 S1 => match m e1 S1 with
    | .nxt e2 S2 => fiC ck g m ds e2 S2
    | .cnt e2 S2 => fiC ck g m ds e2 S2
    | .brk e2 S2 => .nxt e2 S2
    | r => r else .stuck
noncomputable def sForC (i : CM) (g : GM) (m : SM) : SM := fun e S => sE (i e S) e fun p S1 => fiC (okC p) g m p.1 e S1
open Classical in
noncomputable def lcC (ck : Store → Prop) (g : Tg) (t : TM) (m : EM) (e : En) : List D → List D → Store → Res (List D)
  | [], acc, S => if ck S then .ok acc S else .stuck
  | d :: ds, acc, S => if ck S then match g.m d e with
    | some e1 => (noX (t e1 S)).bind fun b S2 => if b then (noX (m e1 S2)).bind fun y S3 => if acc.length < sizeLine then lcC ck g t m e ds (acc ++ [y]) S3 else .stuck else lcC ck g t m e ds acc S2
    | none => .stuck else .stuck
noncomputable def eLcC (i : CM) (g : Tg) (t : TM) (m : EM) (vs : List Nat) : EM := fun e S => (i e S).bind fun p S1 => (lcC (okC p) g t m (wipeE e vs) p.1 [] S1).bind fun acc S2 => .ok (.lst acc) S2
noncomputable def eLcCN (i : CM) (g : Tg) (t : TM) (m : EM) (vs : List Nat) : EM := fun e S => (i e S).bind fun p S1 => (lcC (okC p) g t m (wipeE e vs) p.1 [] S1).bind fun acc S2 => .ok (.loc S2.length) (S2 ++ [.lst acc])
def iCel (m : EM) : CM := fun e S => (m e S).bind fun d S1 => match d with
  | .tup l => .ok (l, none) S1
  | .lst l => .ok (l, none) S1
  | .scr l => .ok (l, none) S1
  | .loc n => match S1[n]? with
    | some (.lst l) => .ok (l, some n) S1
    | _ => .stuck
  | _ => .stuck
section
variable {X : Cx} {W : WX} {a b c e o : Expr} {es : List Expr} {ma mb mc me : EM} {ta tb : TM} {pos : Pos} {m : SM}
def addN (S : Store) (x y : D) : Res D := match rsv S x, rsv S y with
  | .lst l, .lst m => if l.length + m.length ≤ sizeLine then .ok (.loc S.length) (S ++ [.lst (l ++ m)]) else .stuck
  | _, _ => .stuck
def eAddN (a b : EM) : EM := fun e S => (a e S).bind fun x S1 => (b e S1).bind fun y S2 => addN S2 x y
end
end G
namespace G
open PySem L2 PySem.Spec PyProof.Rows
section
variable {X : Cx} {W : WX} {a b e o : Expr} {es : List Expr} {ma mb mc me : EM} {pos apos : Pos} {x : Str} {p : Pos} {j k cn n : Nat} {ps ks : List Str} {f : FM} {gD : List D → List D → List D}
def fmtD : D → Option D
  | .str y => if y.length ≤ sizeLine then some (.str y) else none
  | .int i => if i.natAbs.log2 < 1920 then some (.str (toString i)) else none
  | _ => none
def eFmt (m : EM) : EM := fun e S => (m e S).bind fun x S1 => lf (fmtD x) S1
theorem re_fmt (ha : RE X W a ma) : RE X W (.FormattedValue a (-1) none pos) (eFmt ma) := by
  refine pe_imp (pe_fmt ha) ?_
  rintro s H Q ⟨w, en, rfl, R, E, P⟩
  refine ⟨w, en, rfl, R, E, (Post.bind P).imp ?_⟩
  rintro v H1 ⟨w1, x, rfl, X1, R1, rx, P1⟩
  dsimp only at P1
  unfold fmtD at P1
  split at P1
  · cases rx
    split at P1
    · rename_i hz
      exact .inl ⟨_, rfl, hz, Post.now P1 R1 (.str _)⟩
    · exact False.elim P1
  · cases rx
    split at P1
    · rename_i hz
      exact .inr ⟨_, rfl, hz, Post.now P1 R1 (.str _)⟩
    · exact False.elim P1
  · exact False.elim P1
def jsM : List EM → Str → EM
  | [], acc => fun _ S => .ok (.str acc) S
  | m :: ms, acc => fun e S => (m e S).bind fun x S1 => match x with
    | .str y => if (acc ++ y).length ≤ sizeLine then jsM ms (acc ++ y) e S1 else .stuck
    | _ => .stuck
def eJs (ms : List EM) : EM := jsM ms Str.empty
inductive RJ (X : Cx) (W : WX) : List Expr → List EM → Prop where
  | nil : RJ X W [] []
  | cons {e : Expr} {m : EM} {es : List Expr} {ms : List EM} : RE X W e m → RJ X W es ms → RJ X W (e :: es) (m :: ms)
theorem RJ.pj {es : List Expr} {ms : List EM} (h : RJ X W es ms) : PJ X es (ms.map fun m => tG (RepD X.K X.mg) X W m) := by
  induction h with
  | nil => exact .nil
  | cons r _ ih => exact .cons r ih
theorem t_js : ∀ (ms : List EM) (acc : Str) (s : L2.St) (H : Hp) (Q : VK), tG (RepD X.K X.mg) X W (jsM ms acc) s H Q → tJs (ms.map fun m => tG (RepD X.K X.mg) X W m) acc s H fun out H1 => Q (.str out) H1
  | [], acc, s, H, Q, h => by
    obtain ⟨w, en, rfl, R, E, P⟩ := h
    exact Post.now P R (.str _)
  | m :: ms, acc, s, H, Q, h => by
    obtain ⟨w, en, rfl, R, E, P⟩ := h
    refine ⟨w, en, rfl, R, E, (Post.bind P).imp ?_⟩
    rintro v H1 ⟨w1, x, rfl, X1, R1, rx, P1⟩
    dsimp only at P1
    split at P1
    · cases rx
      split at P1
      · rename_i hz
        exact ⟨_, rfl, hz, t_js ms _ s w1.hp Q ⟨w1, en, rfl, R1, E.ext X1.toEx0, P1⟩⟩
      · exact False.elim P1
    · exact False.elim P1
theorem re_js {v1 v2 : Expr} {rest : List Expr} {ms : List EM} (h : RJ X W (v1 :: v2 :: rest) ms) : RE X W (.JoinedStr (v1 :: v2 :: rest) pos) (eJs ms) :=
  pe_imp (pe_joined h.pj) fun s H Q q => t_js ms Str.empty s H Q q
def fStr : Store → List D → Option D
  | _, [.int i] => if i.natAbs.log2 < 1920 then some (.str (toString i)) else none
  | _, [.str a] => some (.str a)
  | _, _ => none
theorem cm_str : CallR X (.type "str") (CaM X fStr) := by
  intro pins s σ H xs us Q I r h
  obtain ⟨w, ds, E, rfl, R, q, P⟩ := h
  unfold fStr at P
  split at P
  · obtain ⟨v, rfl, rv⟩ := q.one_inv
    cases rv
    split at P
    · rename_i hz
      exact call_str_int pins s σ w.hp _ us Q I r ⟨_, rfl, hz, Post.now P R (.str _)⟩
    · exact False.elim P
  · obtain ⟨v, rfl, rv⟩ := q.one_inv
    cases rv
    exact SkE.call_str_str pins s σ w.hp _ us Q I r ⟨_, rfl, Post.now P R (.str _)⟩
  · exact False.elim P
theorem RoomG.in1 {k : Nat} {A : Around} (h : RoomG (k + 1) A) : RoomG k A.in1 := ⟨h.r.in1, h.gd⟩
def strOf (r : Res D) : Res D := r.bind fun y S1 => match y with
  | .str t => .ok (.str t) S1
  | _ => .stuck
def eStrO (cn : Nat) (f : FM) (gD : List D → List D → List D) (m : EM) : EM := fun e S => (aCons m aNil e S).bind fun ds S0 => match ds with
  | [x] => if isCn cn S0 x = true then strOf (f (gD [x] []) S0) else .stuck
  | _ => .stuck
theorem tuple_addW0 (l b : Addr) (items items2 : Array Value) (n n2 : Nat) (dd dd2 : Option Addr) (sl sl2 : Array (Option Value)) (hc0 : items.isEmpty = true) :
    Meets (Builtin.«tuple.__add__» ⟨[.ref l, .ref b], []⟩) (fun _ R s => s.heap.get? l = some { cls := .type "tuple", dict := dd, data := .seq items n, slots := sl } ∧ s.heap.get? b = some { cls := .type "tuple", dict := dd2, data := .seq items2 n2, slots := sl2 } ∧ R (.ok (.ret (Value.ref b))) { s with heap := s.heap, toks := s.toks }) :=
  .of_wp fun prog w A R s h => by obtain ⟨hp, g, d, tk, os⟩ := s; obtain ⟨hl, hb, h⟩ := h; have f1 := AutoSeq1.idx_int; have f2 := AutoSeq1.sub_tuple_tuple; have f3 := AutoSeq1.sub_list_list; have f4 := AutoSeq1.sub_tuple_list; have f5 := AutoSeq1.sub_list_tuple; wp_walk using wpAny_loadPart' hl, wpAny_loadPart' hb; exact ⟨_, rfl, h⟩
theorem op_catT0 : OpR X (binaryOp .Add) (fun x y H Q => ∃ a b ys, x = .ref a ∧ y = .ref b ∧ SqT X.K H a [] ∧ SqT X.K H b ys ∧ Q (.ref b) H) := by
  intro pins s σ H x y v u Q I rx ry h
  obtain ⟨a, b, ys, rfl, rfl, ha, hb, q⟩ := h
  cases rx
  cases ry
  obtain ⟨its, r1, p1, _⟩ := I.tuple ha
  obtain ⟨its2, r2, p2, _⟩ := I.tuple hb
  cases r1
  obtain ⟨⟨cls, dd, data, sl⟩, ho, hc, n, hd⟩ := id p1
  obtain ⟨⟨cls2, dd2, data2, sl2⟩, ho2, hc2, n2, hd2⟩ := id p2
  simp only at hc hd hc2 hd2
  subst hc hd hc2 hd2
  exact concat_meets ⟨_, ho, rfl⟩ ⟨_, ho2, rfl⟩ noFill_tuple_add seq_tuple_add PySem.F.slot_tuple_add PySem.F.entry_tuple_add (PySem.F.args_tuple_add_2 _ _)
      (tuple_addW0 a b _ _ n n2 dd dd2 sl sl2 (by simp)) ⟨ho, ho2, ⟨.ref b, H, I, rfl, q⟩⟩
def dAddE (S : Store) (x y : D) : Option D := match x, y with
  | .tup [], .tup m => some (.tup m)
  | _, _ => dAddS S x y
theorem om_addE : OpR X (binaryOp .Add) (OpMS X dAddE) := by
  intro pins s σ H x y v u Q I rx ry h
  obtain ⟨w, dx, dy, E, rfl, R, qx, qy, P⟩ := h
  unfold dAddE at P
  split at P
  · cases qx with
    | tup s1 r1 =>
      cases r1
      cases qy with
      | tup s2 r2 => exact op_catT0 pins s σ w.hp _ _ v u Q I rx ry ⟨_, _, _, rfl, rfl, s1.sq, s2.sq, Post.now P R (.tup s2 r2)⟩
  · exact om_addS pins s σ w.hp _ _ v u Q I rx ry ⟨w, dx, dy, E, rfl, R, qx, qy, P⟩
theorem tuple_mul1 (l : Addr) (items : Array Value) (n : Nat) (dd : Option Addr) (sl : Array (Option Value)) (u : Tok) :
    Meets (Builtin.«tuple.__mul__» ⟨[.ref l, .int 1 u], []⟩) (fun _ R s => s.heap.get? l = some { cls := .type "tuple", dict := dd, data := .seq items n, slots := sl } ∧ R (.ok (.ret (Value.ref l))) s) :=
  .of_wp fun prog w A R s h => by
    obtain ⟨hp, g, d, tk, os⟩ := s
    obtain ⟨hl, h⟩ := h
    have f1 := AutoSeq1.idx_int
    have c1 : (items.isEmpty || (1 : Int) == 1) = true := by rw [Bool.or_eq_true]; exact .inr rfl
    wp_walk using wpAny_loadPart' hl
    repeat (first
      | (refine wpAny_ite_false (decide_eq_false (by decide)) ?_; wp_walk using wpAny_loadPart' hl)
      | (refine wpAny_ite_true (decide_eq_true c1) ?_; wp_walk using wpAny_loadPart' hl))
    exact ⟨_, rfl, h⟩
theorem tuple_mul0 (l : Addr) (items : Array Value) (n : Nat) (dd : Option Addr) (sl : Array (Option Value)) (u : Tok) (c1 : (items.isEmpty || (0 : Int) == 1) = false) :
    Meets (Builtin.«tuple.__mul__» ⟨[.ref l, .int 0 u], []⟩) (fun _ R s => s.heap.get? l = some { cls := .type "tuple", dict := dd, data := .seq items n, slots := sl } ∧
      R (.ok (.ret (Value.ref s.heap.objs.size))) { s with heap := s.heap.push { cls := Value.type "tuple", data := Data.seq #[] }, toks := s.toks }) :=
  .of_wp fun prog w A R s h => by
    obtain ⟨hp, g, d, tk, os⟩ := s
    obtain ⟨hl, h⟩ := h
    have f1 := AutoSeq1.idx_int
    have c2 : (decide ((0 : Int) ≤ 0) || items.isEmpty) = true := by rw [Bool.or_eq_true]; exact .inl rfl
    wp_walk using wpAny_loadPart' hl
    repeat (first
      | (refine wpAny_ite_false (decide_eq_false (by rw [c1]; exact Bool.false_ne_true)) ?_; wp_walk using wpAny_loadPart' hl)
      | (refine wpAny_ite_false (decide_eq_false (by decide)) ?_; wp_walk using wpAny_loadPart' hl)
      | (refine wpAny_ite_true (decide_eq_true c2) ?_; wp_walk using wpAny_loadPart' hl))
    exact ⟨_, rfl, h⟩
theorem op_repT1 : OpR X (binaryOp .Mult) (fun x y H Q => ∃ l xs, x = .ref l ∧ y = .int 1 ∧ SqT X.K H l xs ∧ Q (.ref l) H) := by
  intro pins s σ H x y v u Q I rx ry h
  obtain ⟨l, xs, rfl, rfl, hT, q⟩ := h
  cases rx
  obtain ⟨t, rfl⟩ := ry
  obtain ⟨its, r, ⟨⟨cls, dd, data, sl⟩, ho, hc, n, hd⟩, hs⟩ := I.tuple hT
  simp only at hc hd
  subst hc hd
  exact wpAny_binaryOp_repeat_ref (T := "tuple") (U := "int") (by decide) ⟨_, ho, rfl⟩ (fun s' => typeIs_int s' 1 t) noFill_tuple_mul F.fills_int_mul F.slot_int_rmul repeat_tuple F.slot_int_index.lookup
    (call_meets F.slot_int_rmul (typeIs_int s 1 t) F.entry_int_rmul (F.args_int_rmul_2 _ _) (int_rmul_tuple 1 t l its.toArray n dd sl)
      ⟨ho, rfl, ⟨_, ho, rfl⟩, call_meets F.slot_tuple_mul ⟨_, ho, rfl⟩ F.entry_tuple_mul (F.args_tuple_mul_2 _ _) (tuple_mul1 l its.toArray n dd sl t) ⟨ho, ⟨.ref l, H, I, rfl, q⟩⟩⟩)
theorem op_repT0 : OpR X (binaryOp .Mult) (fun x y H Q => ∃ l xs, x = .ref l ∧ y = .int 0 ∧ SqT X.K H l xs ∧ xs ≠ [] ∧ ∀ p, H p = none → Q (.ref p) (upd H p (.tup []))) := by
  intro pins s σ H x y v u Q I rx ry h
  obtain ⟨l, xs, rfl, rfl, hT, hne, q⟩ := h
  cases rx
  obtain ⟨t, rfl⟩ := ry
  obtain ⟨its, r, ⟨⟨cls, dd, data, sl⟩, ho, hc, n, hd⟩, hs⟩ := I.tuple hT
  simp only at hc hd
  subst hc hd
  have hi : its.toArray.isEmpty = false := by
    cases r with
    | nil => exact absurd rfl hne
    | cons a b => rfl
  refine wpAny_binaryOp_repeat_ref (T := "tuple") (U := "int") (by decide) ⟨_, ho, rfl⟩ (fun s' => typeIs_int s' 0 t) noFill_tuple_mul F.fills_int_mul F.slot_int_rmul repeat_tuple F.slot_int_index.lookup
    (call_meets F.slot_int_rmul (typeIs_int s 0 t) F.entry_int_rmul (F.args_int_rmul_2 _ _) (int_rmul_tuple 0 t l its.toArray n dd sl)
      ⟨ho, rfl, ⟨_, ho, rfl⟩, call_meets F.slot_tuple_mul ⟨_, ho, rfl⟩ F.entry_tuple_mul (F.args_tuple_mul_2 _ _) (tuple_mul0 l its.toArray n dd sl t (by rw [hi]; rfl)) ⟨ho, ?_⟩⟩)
  refine ⟨.ref s.heap.objs.size, _, I.laid (t' := s.toks) (o := .tup []) (fun b ob q => Heap.get?_push_of_some _ q) (Nat.le_refl _) ?_, rfl, q _ (I.hok.fresh (Nat.le_refl _))⟩
  exact ⟨by simp, [], .nil, IsTup.new _ _⟩
def dMulT : D → D → Option D
  | .tup (d :: l), .int k => if k = 1 then some (.tup (d :: l)) else if k = 0 then some (.tup []) else if 2 ≤ k ∧ k ≤ 1000 ∧ (d :: l).length ≤ 1000 then some (.tup (List.replicate k.toNat (d :: l)).flatten) else none
  | _, _ => none
theorem om_mulT : OpR X (binaryOp .Mult) (OpM X dMulT) := by
  intro pins s σ H x y v u Q I rx ry h
  obtain ⟨w, dx, dy, E, rfl, R, qx, qy, P⟩ := h
  unfold dMulT at P
  split at P
  · cases qy
    cases qx with
    | tup s1 r1 =>
      have hne : ∀ {d : D} {l : List D} {vs : List V}, RepL X.K X.mg w (d :: l) vs → vs ≠ [] := fun h e => by subst e; cases h
      split at P
      · rename_i hk
        subst hk
        exact op_repT1 pins s σ w.hp _ _ v u Q I rx ry ⟨_, _, rfl, rfl, s1.sq, Post.now P R (.tup s1 r1)⟩
      · split at P
        · rename_i hk
          subst hk
          exact op_repT0 pins s σ w.hp _ _ v u Q I rx ry ⟨_, _, rfl, rfl, s1.sq, hne r1, fun p hp => Post.put P R hp (.tup (.inl (put_st R hp).o) .nil)⟩
        · split at P
          · rename_i hk
            exact op_repT pins s σ w.hp _ _ v u Q I rx ry ⟨_, _, _, rfl, rfl, s1.sq, hne r1, hk.1, hk.2.1, by rw [← r1.length]; exact hk.2.2, fun p hp => Post.put P R hp (.tup (.inl (put_st R hp).o) ((r1.rep _).ext (put_ext R hp).toEx0))⟩
          · exact False.elim P
  · exact False.elim P
end
def tbR (rs : List Nat) (c : Nat) : Nat → Option Bool := fun n => if rs.contains n = true then some (subC n c) else none
theorem tbR_cases {rs : List Nat} {c cn : Nat} {q : Bool} (e : tbR rs c cn = some q) : cn ∈ rs ∧ q = subC cn c := by
  unfold tbR at e
  split at e
  · rename_i h
    exact ⟨by simpa using h, (Option.some.inj e).symm⟩
  · cases e
section
variable {K : PySem.W.Frag} {h : Heap} {mg : Str → Option Value}
theorem kit_atR (X : K.In h) (Y : h.Ns mainGlobals mg) {ns : List Nat} {c : Nat} {D : PySem.W.Frag → Value} (c0 : exsB ns K = true) (ck : kitB D (ns.map fun n => (n, subC n c)) K = true) :
    ∀ (cn : Nat) (C : Addr) (q : Bool), tbR ns c cn = some q → mg (cname cn) = some (.ref C) → ExcC K C ∧ PySem.W.kitOne K (.ref C) (D K) = some q := fun cn C q h1 h2 => by
  obtain ⟨hl, rfl⟩ := tbR_cases h1
  obtain ⟨g1, g2⟩ := He.ba (List.all_eq_true.mp c0 cn hl)
  cases (glo_one X Y g1).symm.trans h2
  have z : kitO K (D K) (cn, subC cn c) = true := List.all_eq_true.mp ck (cn, subC cn c) (List.mem_map.mpr ⟨cn, hl, rfl⟩)
  exact ⟨exqB_ok g2, of_decide_eq_true z⟩
theorem exm_atR (X : K.In h) (Y : h.Ns mainGlobals mg) {ns : List Nat} {c : Nat} {y : Str} (c0 : exsB ns K = true) (ck : exmB y (ns.map fun n => (n, subC n c)) K = true) :
    ∀ (cn : Nat) (C : Addr) (q : Bool), tbR ns c cn = some q → mg (cname cn) = some (.ref C) → PySem.W.exmOne K (.ref C) (.ref (He.ga K y)) = some q := fun cn C q h1 h2 => by
  obtain ⟨hl, rfl⟩ := tbR_cases h1
  obtain ⟨g1, g2⟩ := He.ba (List.all_eq_true.mp c0 cn hl)
  cases (glo_one X Y g1).symm.trans h2
  have z : exmO K y (cn, subC cn c) = true := List.all_eq_true.mp ck (cn, subC cn c) (List.mem_map.mpr ⟨cn, hl, rfl⟩)
  exact of_decide_eq_true z
end
end G
namespace G
open PySem L2 PySem.Spec
open Classical in
noncomputable def eCallV (i f nN : Nat) (cp : List (Option D)) (fk : FM) (m : AM) : EM := fun en S => if en[i]? = some (some (.fa f)) ∧ en.drop nN = cp then (m en S).bind fk else .stuck
structure Act (Z : Cx) (a : Str) (i f nN : Nat) (cp : List (Option D)) (fk : FM) (k : Nat) : Prop where
  one : ∀ {pn : List (Addr × Obj)} {xe : Value → Shared → Prop} {W : WX} {j : Nat}, Cg (Z.tr pn xe) W j → k ≤ j → ∀ {e : Expr} {m : AM} {p1 p2 : Pos}, RA (Z.tr pn xe) W [e] m → starEach [e] Z.env = (false, eval e Z.env) :: starEach [] Z.env →
    RE (Z.tr pn xe) W (.Call (.Name a p1) [e] [] p2) (eCallV i f nN cp fk m)
  zero : ∀ {pn : List (Addr × Obj)} {xe : Value → Shared → Prop} {W : WX} {j : Nat}, Cg (Z.tr pn xe) W j → k ≤ j → ∀ {p1 p2 : Pos}, RE (Z.tr pn xe) W (.Call (.Name a p1) [] [] p2) (eCallV i f nN cp fk aNil)
section
variable {P : Program} {w0 : World} {K : PySem.W.Frag} {mg : Str → Option Value} {base : Heap}
theorem RepE.join {w : Wo} {e1 e2 : En} {s1 s2 : L2.St} (h1 : RepE K mg w e1 s1) (h2 : RepE K mg w e2 s2) : RepE K mg w (e1 ++ e2) (s1 ++ s2) := by
  refine ⟨by rw [List.length_append, List.length_append, h1.len, h2.len], fun i d g => ?_⟩
  by_cases hi : i < e1.length
  · rw [List.getElem?_append_left hi] at g
    obtain ⟨v, q, r⟩ := h1.get i d g
    exact ⟨v, by rw [List.getElem?_append_left (by rw [← h1.len]; exact hi)]; exact q, r⟩
  · rw [List.getElem?_append_right (by omega)] at g
    obtain ⟨v, q, r⟩ := h2.get _ d g
    exact ⟨v, by rw [List.getElem?_append_right (by rw [← h1.len]; omega), ← h1.len]; exact q, r⟩
end
end G
namespace G
open PySem L2 PySem.Spec
noncomputable def uniR {α : Type} [Inhabited α] (F : α → Res D) : Res D := by
  classical exact if ∀ a b, F a = F b then F default else .stuck
def oj (o : Option (Option D)) : Option D := match o with
  | some (some d) => some d
  | _ => none
def cpOf (js : List Nat) (en : En) (vs : List V) : List (Option D) := ((js.zip vs).map fun q => (oj en[q.1]?).map (D.pin q.2)) ++ List.replicate (4 - js.length) none
section
variable {X : Cx} {W : WX} {a b c e l : Expr} {es : List Expr} {ma mb mc me : EM} {pos : Pos} {x : Str} {p : Pos} {j k : Nat} {ps ks : List Str} {f : FM}
noncomputable def eCallH (g : Nat → List (Option D) → FM → FM) (js : List Nat) (fkM : En → FM) (tb : Store → Bool) (n : Nat) (m : AM) : EM := fun en S => (m en S).bind fun ds S1 => if tb S1 = true ∧ ds.length = n then uniR (fun q : Nat × { vs : List V // vs.length = js.length } => g q.1 (cpOf js en q.2.1) (fkM en) (ds ++ [.fa q.1]) S1) else .stuck
theorem Act.mono {Z : Cx} {a : Str} {i fv nN k k' : Nat} {cp : List (Option D)} {fk : FM} (h : Act Z a i fv nN cp fk k) (l : k ≤ k') : Act Z a i fv nN cp fk k' :=
  ⟨fun c hj => h.one c (Nat.le_trans l hj), fun c hj => h.zero c (Nat.le_trans l hj)⟩
end
end G
namespace G
open PySem L2 PySem.Spec PyProof.Rows
end G
namespace G
open PySem L2 PySem.Spec PyProof.Rows
section
variable {X : Cx} {pins : List (Addr × Obj)} {σ : L2.St} {H HZ : Hp} {s s1 : Shared}
def lamF (js : List Nat) (np : Nat) (mb : EM) : En → FM := fun en ds S => if ds.length = np then mb (ds.map some ++ js.map fun j => oj en[j]?) S else .stuck
end
end G
namespace G
open PySem L2 PySem.Spec PyProof.Rows
end G
namespace G
open PySem L2 PySem.Spec PyProof.Rows
def st0 (ts : List Mk2) : Store := ts.map fun t => Cell.tbl t.1 t.2
def TBs (K : PySem.W.Frag) (mg : Str → Option Value) (base : Heap) (ts : List Mk2) : Prop := ∀ t ∈ ts, LamX.TabB base mg (He.cT K t.1).1 (He.cT K t.1).2
def spLawT (K : PySem.W.Frag) (ts : List Mk2) : Sp := fun vs H Q _ => ∃ (a : Addr) (ns : List Int), vs = [.ref a] ∧ SqL K H a (ns.map V.int) ∧ ns.length ≤ 63 ∧ (∀ b ∈ al0 K ts, H b = some (.tbl #[]) ∧ K.lookup b = none) ∧ ∀ H', Q (.bl true) H'
section
variable {P : Program} {w0 : World} {K : PySem.W.Frag} {mg : Str → Option Value} {base : Heap}
theorem law_okT {k : Nat} {f : Addr} {fd : FuncData} {x : Str} {m : Nat → FM} {ts : List Mk2} (hnd : (al0 K ts).Nodup) (F : ∀ N, FnG P w0 K mg base k f fd [x] (spM K mg 1 (m N)))
    (h : ∀ ns : List Int, ns.length ≤ 63 → ∃ N S, m N [.scr (ns.map .int)] (st0 ts) = .ok (.bl true) S) : FnG P w0 K mg base k f fd [x] (spLawT K ts) := by
  refine ⟨fun vs H Q E ⟨a, ns, e, _⟩ => by rw [e]; rfl, fun A outer s H args us vs Q E hr he hb hv hs => ?_⟩
  obtain ⟨a, ns, rfl, hq, hl, hT, hQ⟩ := hs
  obtain ⟨N, S, e⟩ := h ns hl
  have R0 : Rep K mg ⟨al0 K ts, st0 ts, H, []⟩ := by
    refine ⟨by unfold al0 st0; simp, hnd, fun b hb => ⟨_, (hT b hb).1⟩, fun n b c h1 h2 => ?_, (fun _ h => by cases h)⟩
    have h1 : (al0 K ts)[n]? = some b := h1
    have h2 : (st0 ts)[n]? = some c := h2
    unfold al0 at h1
    unfold st0 at h2
    rw [List.getElem?_map] at h1 h2
    cases q : ts[n]? with
    | none => rw [q] at h1; cases h1
    | some t =>
      rw [q] at h1 h2
      cases h1
      cases h2
      refine ⟨rfl, #[], (hT _ (List.mem_map.mpr ⟨t, List.mem_of_getElem? q, rfl⟩)).1, True.intro, fun pos cv hc => ?_⟩
      have z : codeAmong pos [] = some cv := hc
      simp [codeAmong] at z
  have hz : ¬ Zl ⟨al0 K ts, st0 ts, H, []⟩ a ∨ ∃ o its n, K.lookup a = some o ∧ o.cls = .type "list" ∧ o.dict = none ∧ o.data = .seq its n ∧ its.size ≤ sizeLine ∧ Vals (ns.map V.int) its.toList := by
    rcases hq with hq | hq
    · left
      rintro (⟨n, c, h1, _, _⟩ | z)
      · have hm : a ∈ al0 K ts := List.mem_of_getElem? h1
        have z := (hT a hm).1
        rcases hq with hq | ⟨o, hq⟩
        · rw [z] at hq; cases hq
        · rw [z] at hq; cases hq
      · cases z
    · obtain ⟨o, its, n, r⟩ := hq
      exact .inr ⟨o, its, n, r⟩
  refine (F N).run A outer s H args us _ Q E hr he hb hv ⟨rfl, ⟨al0 K ts, st0 ts, H, []⟩, [.scr (ns.map .int)], rfl, R0, .cons (.scr ?_ (ints_rep ns)) .nil, ?_⟩
  · rcases hz with hz | hz
    · rcases hq with hq | hq
      · exact .inl ⟨hq, hz⟩
      · exact .inr hq
    · exact .inr hz
  · rw [e]
    intro w' v _ _ _ r
    cases r
    exact hQ _
end
section
variable {K : PySem.W.Frag} {mg : Str → Option Value}
theorem law_atT {P : Program} {w : World} {mb : Str → Option Value} {k : Nat} {fa a : Addr} {fd : FuncData} {x : Str} {t : Shared} {us : List Value} {ns : List Int} {H : Hp} {ts : List Mk2}
    (KX : K.In t.heap) (hns : t.heap.Ns mainGlobals mg) (hb : t.heap.Ns builtinsNs mb) (hbb : ∀ x : Str, x ≠ "__name__" → mb x = bootBuiltins x) (hlim : t.heap.NoLimit) (hg : t.gens = #[])
    (hbm : ∃ (bm : Addr) (ob : Obj), mg "__builtins__" = some (.ref bm) ∧ bm ≠ builtinsNs ∧ t.heap.get? bm = some ob ∧ ob.cls = .type "module" ∧ ob.dict = some builtinsNs ∧ ob.data = .plain)
    (hhd : ∀ q ∈ ts, PySem.W.codeHdIn K (He.cT K q.1).1 (He.cT K q.1).2 = true) (hout : ∀ b ∈ al0 K ts, K.lookup b = none) (hemp : ∀ b ∈ al0 K ts, t.heap.get? b = some { cls := .none, data := .fields #[] })
    (ha : t.heap.get? a = some { cls := .type "list", data := .seq us.toArray }) (hi : IntsAre us ns) (h63 : ns.length ≤ 63) (hr : Room k callerA)
    (F : ∀ base : Heap, K.In base → base.Ns mainGlobals mg → TBs K mg base ts → FnG P w K mg base k fa fd [x] (spLawT K ts)) (bind : ∀ (s : Shared) (u : Value), BindsTo s fd ⟨[u], []⟩ [(x, u)])
    (hH : ∀ b u, H b = some u → (b = a ∧ K.lookup a = none ∧ u = .frz { cls := .type "list", data := .seq us.toArray } (.lst (ns.map V.int))) ∨ (b ∈ al0 K ts ∧ u = .tbl #[])) (hHt : ∀ b ∈ al0 K ts, H b = some (.tbl #[])) (hS : SqL K H a (ns.map V.int)) :
    codeAny (model P w) callerA (.call (.ref fa) ⟨[.ref a], []⟩) (fun r s' => r = .ok (.ret (.bool true)) ∧ OldK t.heap s'.heap ∧ s'.os = t.os ∧ AllBare s'.gens) t := by
  have ok : HOk P w H t.heap := by
    intro b u z
    rcases hH b u z with ⟨rfl, _, rfl⟩ | ⟨hm, rfl⟩
    · exact ⟨ha, by rw [List.length_map]; exact Nat.le_trans h63 (by decide), us, _, vals_ints hi, ha⟩
    · exact hemp b hm
  have free : ∀ {b : Addr} {o : Obj}, t.heap.get? b = some o → (∀ its n, o.data ≠ .seq its n) → o.data ≠ .fields #[] → H b = none := by
    intro b o e d1 d2
    cases q : H b with
    | none => rfl
    | some u =>
      rcases hH b u q with ⟨rfl, _, _⟩ | ⟨hm, _⟩
      · rw [ha] at e
        cases e
        exact absurd rfl (d1 _ _)
      · rw [hemp b hm] at e
        cases e
        exact absurd rfl d2
  have keep : ∀ {b : Addr} {m : Str → Option Value}, t.heap.Ns b m → (hidT t.heap H).Ns b m := by
    rintro b m ⟨o, es, ep, e, d, r⟩
    exact ⟨o, es, ep, hidT_get e (free e (fun its n z => by rw [d] at z; cases z) fun z => by rw [d] at z; cases z), d, r⟩
  have kin : K.In (hidT t.heap H) := by
    intro b o e
    refine hidT_get (KX b o e) ?_
    cases q : H b with
    | none => rfl
    | some u =>
      rcases hH b u q with ⟨rfl, n, _⟩ | ⟨hm, _⟩
      · rw [n] at e; cases e
      · rw [hout b hm] at e; cases e
  have mem2 : ∀ q ∈ ts, (He.cT K q.1).2 ∈ al0 K ts := fun q hq => List.mem_map.mpr ⟨q, hq, rfl⟩
  have tbs : TBs K mg (hidT t.heap H) ts := by
    intro q hq
    have hP := hemp _ (mem2 q hq)
    refine ⟨PySem.W.codeHd_of_K kin (hhd q hq), ?_, fun z => ?_⟩
    · obtain ⟨bm, ob, b1, b2, b3, b4, b5, b6⟩ := hbm
      refine ⟨bm, ob, b1, b2, fun z => ?_, fun z => ?_, hidT_get b3 (free b3 (fun its n z => by rw [b6] at z; cases z) fun z => by rw [b6] at z; cases z), b4, b5, b6⟩
      · obtain ⟨o, es, ep, e, d, _⟩ := hns
        rw [z, e] at b3; cases b3
        rw [d] at b6; cases b6
      · rw [z, hP] at b3; cases b3; cases b6
    · obtain ⟨o, es, ep, e, d, _⟩ := hns
      rw [z, hP] at e; cases e; cases d
  obtain ⟨mc, l1, l2⟩ := hlim
  have md : Mod K mg (hidT t.heap H) := ⟨kin, keep hns, ⟨mb, keep hb, hbb⟩, ⟨mc, keep l1, l2⟩⟩
  have env : Env0 P w K mg (hidT t.heap H) callerA [] t H := ⟨rfl, md, fun b o e => of_hidT e, Nat.le_of_eq (hidT_size _ _), trivial, (fun b hb => by cases hb), ok, .of_eq hg⟩
  refine codeAny_mono ((F _ kin (keep hns) tbs).run callerA [] t H ⟨[.ref a], []⟩ [.ref a] [.ref a] (fun v _ => v = .bl true) (fun _ _ _ => False) ⟨hr, rfl⟩ env (bind t (.ref a)) (.cons rfl .nil) ⟨a, ns, rfl, hS, h63, fun b hm => ⟨hHt b hm, hout b hm⟩, fun _ => rfl⟩) ?_
  intro res s' z
  cases res with
  | error y =>
    obtain ⟨_, _, _, _, _, _, _, _, _, _, _, _, z⟩ := z
    exact False.elim z
  | ok fl =>
    cases fl with
    | ret u =>
      obtain ⟨v, H', hos, hbare, un, ok', rv, rfl⟩ := z
      cases rv
      have big : ∀ b ∈ al0 K ts, ∃ more : Array Value, s'.heap.get? b = some { cls := .none, data := .fields more } := by
        intro b hm
        obtain ⟨more, q⟩ := un.tbls b #[] (hHt b hm)
        exact ⟨_, ok' b _ q⟩
      have kept : ∀ b o, b ∉ al0 K ts → t.heap.get? b = some o → s'.heap.get? b = some o := by
        intro b o hm e
        cases q : H b with
        | none => exact un.keep b o e q (fun z => nomatch z) (by simp)
        | some u =>
          rcases hH b u q with ⟨_, _, rfl⟩ | ⟨h, _⟩
          · have c1 := (ok b _ q).1
            have c2 := (ok' b _ (un.frzs b _ _ q)).1
            rw [e] at c1
            cases c1
            exact c2
          · exact absurd h hm
      refine ⟨rfl, ⟨fun b o e => ?_, fun b o e => ?_⟩, hos, hbare⟩
      · by_cases hm : b ∈ al0 K ts
        · obtain ⟨q, hq, rfl⟩ := List.mem_map.mp hm
          obtain ⟨more, hmo⟩ := big _ hm
          rw [hemp _ hm] at e
          cases e
          exact .inr (.inl ⟨((PySem.W.codeHd_of_K KX (hhd q hq)).tab (hemp _ hm)).isCodeTable, rfl, #[], more, rfl, by rw [Array.empty_append]; exact hmo⟩)
        · exact .inl (kept b o hm e)
      · by_cases hm : b ∈ al0 K ts
        · obtain ⟨more, hmo⟩ := big b hm
          exact ⟨_, hmo⟩
        · exact ⟨o, kept b o hm e⟩
    | _ => exact False.elim z
theorem law_callT {P : Program} {w : World} {mb : Str → Option Value} {k : Nat} {fa a : Addr} {fd : FuncData} {x : Str} {t : Shared} {us : List Value} {ns : List Int} {ts : List Mk2}
    (KX : K.In t.heap) (hns : t.heap.Ns mainGlobals mg) (hb : t.heap.Ns builtinsNs mb) (hbb : ∀ x : Str, x ≠ "__name__" → mb x = bootBuiltins x) (hlim : t.heap.NoLimit) (hg : t.gens = #[])
    (hbm : ∃ (bm : Addr) (ob : Obj), mg "__builtins__" = some (.ref bm) ∧ bm ≠ builtinsNs ∧ t.heap.get? bm = some ob ∧ ob.cls = .type "module" ∧ ob.dict = some builtinsNs ∧ ob.data = .plain)
    (hhd : ∀ q ∈ ts, PySem.W.codeHdIn K (He.cT K q.1).1 (He.cT K q.1).2 = true) (hout : ∀ b ∈ al0 K ts, K.lookup b = none) (hemp : ∀ b ∈ al0 K ts, t.heap.get? b = some { cls := .none, data := .fields #[] })
    (ha : t.heap.get? a = some { cls := .type "list", data := .seq us.toArray }) (hi : IntsAre us ns) (h63 : ns.length ≤ 63) (hr : Room k callerA)
    (F : ∀ base : Heap, K.In base → base.Ns mainGlobals mg → TBs K mg base ts → FnG P w K mg base k fa fd [x] (spLawT K ts)) (bind : ∀ (s : Shared) (u : Value), BindsTo s fd ⟨[u], []⟩ [(x, u)]) :
    codeAny (model P w) callerA (.call (.ref fa) ⟨[.ref a], []⟩) (fun r s' => r = .ok (.ret (.bool true)) ∧ OldK t.heap s'.heap ∧ s'.os = t.os ∧ AllBare s'.gens) t := by
  have rv := vals_ints hi
  have aT : a ∉ al0 K ts := fun z => by
    have q := hemp a z
    rw [ha] at q
    cases q
  cases hk : K.lookup a with
  | some o =>
    have e := KX a o hk
    rw [ha] at e
    cases e
    refine law_atT (H := fun b => if b ∈ al0 K ts then some (.tbl #[]) else none) KX hns hb hbb hlim hg hbm hhd hout hemp ha hi h63 hr F bind (fun b u z => ?_) (fun b hm => if_pos hm) (.inr ⟨_, us.toArray, _, hk, rfl, rfl, rfl, ?_, by simpa using rv⟩)
    · split at z
      · cases z
        exact .inr ⟨by assumption, rfl⟩
      · cases z
    · rw [List.size_toArray, hi.length]
      exact Nat.le_trans h63 (by decide)
  | none =>
    refine law_atT (H := fun b => if b = a then some (.frz { cls := .type "list", data := .seq us.toArray } (.lst (ns.map V.int))) else if b ∈ al0 K ts then some (.tbl #[]) else none) KX hns hb hbb hlim hg hbm hhd hout hemp ha hi h63 hr F bind (fun b u z => ?_) (fun b hm => ?_) (.inl (.inr ⟨_, if_pos rfl⟩))
    · split at z
      · rename_i e
        cases z
        exact .inl ⟨e, hk, rfl⟩
      · split at z
        · cases z
          exact .inr ⟨by assumption, rfl⟩
        · cases z
    · show (if b = a then _ else _) = _
      rw [if_neg (fun z => aT (by rw [← z]; exact hm)), if_pos hm]
end
end G
namespace G
open PySem L2 PySem.Spec PyProof.Rows
theorem meets_enumT (l : Addr) (items : Array Value) (n : Nat) (dct : Option Addr) (sl : Array (Option Value)) :
    Meets (Builtin.«enumerate.__new__» ⟨[.type "enumerate", .ref l], []⟩) (fun _ R s => s.heap.get? l = some { cls := .type "tuple", dict := dct, data := .seq items n, slots := sl } ∧
      R (.ok (.ret (.ref (s.heap.push { cls := .type "tuple_iterator", data := .fields #[.ref l, .int 0 0] }).objs.size)))
        { s with heap := (s.heap.push { cls := .type "tuple_iterator", data := .fields #[.ref l, .int 0 0] }).push { cls := .type "enumerate", data := .fields #[.none, .bool false, .ref s.heap.objs.size, rawInt 0, .none, .none] } }) := by
  refine .of_wp fun prog w A R s h => ?_
  obtain ⟨hp, g, d, tk, os⟩ := s
  obtain ⟨hl, h⟩ := h
  have hsub := sub_enumerate
  have hL : Heap.IsTuple (Shared.heap ⟨hp, g, d, tk, os⟩) l items := ⟨_, hl, rfl, n, rfl⟩
  have q1 : ∀ {A' : Around} {E : Value → Shared → Prop} {Q : Value → Shared → Prop}, Q (.ref hp.objs.size) ⟨hp.push { cls := .type "tuple_iterator", data := .fields #[.ref l, .int 0 0] }, g, d, tk, os⟩ → wpAny (model prog w) A' (pyIter (.ref l)) Q E ⟨hp, g, d, tk, os⟩ :=
    fun q => (begins_tuple l items).iter prog w _ _ ⟨hp, g, d, tk, os⟩ _ hL q
  wp_walk using AutoSeq1.wpAny_loadPart' hl, q1
  refine wpAny_stack_any fun st => wpAny_pure ?_
  split
  · rename_i c _ _ _ _ _
    cases (c == Value.type "enumerate") <;> (wp_walk using AutoSeq1.wpAny_loadPart' hl, q1; exact ⟨_, rfl, h⟩)
  · wp_walk using AutoSeq1.wpAny_loadPart' hl, q1
    exact ⟨_, rfl, h⟩
theorem call_enumT {prog : Program} {w : World} {A : Around} {E : Value → Shared → Prop} {s : Shared} {l : Addr} {items : Array Value} {Q : Value → Shared → Prop} (hL : s.heap.IsTuple l items)
    (h : ∀ h', IsEnum h' (s.heap.objs.size + 1) s.heap.objs.size 0 .none → h'.IsTupleIter s.heap.objs.size l 0 → (∀ b o, s.heap.get? b = some o → h'.get? b = some o) → Q (.ref (s.heap.objs.size + 1)) { s with heap := h' }) :
    wpAny (model prog w) A (call (.type "enumerate") [.ref l]) Q E s := by
  obtain ⟨⟨c, dct, dt, sl⟩, hl, hc, n, hd⟩ := hL
  have hc : c = .type "tuple" := hc
  have hd : dt = .seq items n := hd
  subst hc hd
  have hz : (s.heap.push { cls := .type "tuple_iterator", data := .fields #[.ref l, .int 0 0] }).objs.size = s.heap.objs.size + 1 := Heap.size_push ..
  refine callType_new F.called_enumerate (by decide) (F.typeCall_enumerate_1 _) (F.newCall_enumerate_1 _) (fun obj => F.args_object_init_2 obj _) F.entry_enumerate_new (meets_enumT l items n dct sl) ⟨hl, ?_⟩
  show _ ∧ _
  rw [hz]
  have he : IsEnum ((s.heap.push { cls := .type "tuple_iterator", data := .fields #[.ref l, .int 0 0] }).push { cls := .type "enumerate", data := .fields #[.none, .bool false, .ref s.heap.objs.size, rawInt 0, .none, .none] }) (s.heap.objs.size + 1) s.heap.objs.size 0 .none := by
    have z := Heap.get?_push_size (s.heap.push { cls := .type "tuple_iterator", data := .fields #[.ref l, .int 0 0] }) (o := { cls := .type "enumerate", data := .fields #[.none, .bool false, .ref s.heap.objs.size, rawInt 0, .none, .none] }) rfl
    rw [hz] at z
    exact z
  exact ⟨⟨_, he, rfl⟩, h _ he ⟨_, Heap.get?_push_of_some _ (Heap.get?_push_size _ rfl), rfl, rfl⟩ fun b o z => Heap.get?_push_of_some _ (Heap.get?_push_of_some _ z)⟩
def IteT (K : PySem.W.Frag) (a : Addr) : It where
  go := fun i H => ∃ (xs : List V) (x : V), SqT K H a xs ∧ xs[i]? = some x
  yld := fun i H v H' => ∃ T x, v = .ref T ∧ H T = none ∧ H' = upd H T (.tup [.int (i : Nat), x]) ∧ ∀ xs, SqT K H a xs → xs[i]? = some x
  stop := fun i H => ∃ xs : List V, SqT K H a xs ∧ xs.length = i
theorem turn_enumT {P : Program} {w : World} {K : PySem.W.Frag} {elts : List Expr} {kk : Nat} {tpos : Pos} (a e it : Addr) (items : Array Value) (hae : a ≠ e) (hai : a ≠ it) :
    Turn P w K (.Tuple elts kk tpos) (IteT K a) [e, it] e (fun i h => (∃ old, IsEnum h e it ((i : Nat) : Int) old) ∧ h.IsTupleIter it a i ∧ e ≠ it) where
  mem := by simp
  obj := by
    rintro i h ⟨⟨old, he⟩, ⟨o, ho, hc, hd⟩, _⟩ b hb
    have hb : b = e ∨ b = it := by simpa using hb
    rcases hb with rfl | rfl
    · exact ⟨_, he, fun v q => nomatch q⟩
    · exact ⟨o, ho, fun v q => by rw [hd] at q; cases q⟩
  keep := by
    rintro i h h' ⟨⟨old, he⟩, hi, hne⟩ k
    exact ⟨⟨old, k e (by simp) _ he⟩, hi.at fun o q => k it (by simp) o q, hne⟩
  item := by
    intro X hP hw hK hc i pins s σ H E I hf st hg
    subst hP hw hK
    obtain ⟨⟨old, he⟩, hit, hne⟩ := st
    obtain ⟨xs, x, hq, hx⟩ := hg
    obtain ⟨its, rv, p, hz⟩ := I.tuple hq
    obtain ⟨u, hu, ru⟩ := rv.get hx
    have hel : e < s.heap.objs.size := Heap.lt_size he
    have hil : it < s.heap.objs.size := by obtain ⟨_, q, _⟩ := hit; exact Heap.lt_size q
    have hlt : i < its.toArray.size := by
      have := (List.getElem?_eq_some_iff.mp hu).1
      simpa using this
    refine wpAny_pyNext_enum_itemC (c := (i : Int)) (Draws.tuple (A := X.A.in1) (I.ok.hd hc) it a hai its.toArray) he ⟨hit, p⟩ hlt hne (by simp [hne, Ne.symm hae]) ?_
    intro x' h' tk hx' ho hst' hT hsz hk
    have ex : x' = u := by
      have z : its.toArray[i]? = some u := by simpa using hu
      rw [z] at hx'
      exact (Option.some.inj hx').symm
    subst ex
    refine ⟨_, rfl, wpAny_letOwnedTupleGo_enum (s := { s with heap := h', toks := tk + 1 }) ho fun h'' he' sb => ?_⟩
    have hT2 : h''.get? s.heap.objs.size = some { cls := .type "tuple", data := .seq #[.int i tk, x'] } := (sb.2 _ (Nat.ne_of_gt hel)).trans hT
    have new : ObjOk X.prog X.w (upd H s.heap.objs.size (.tup [.int (i : Nat), x])) h'' s.heap.objs.size (.tup [.int (i : Nat), x]) := ⟨by show 2 ≤ sizeLine; decide, [.int i tk, x'], .cons ⟨_, rfl⟩ (.cons ru .nil), ⟨_, hT2, rfl, _, rfl⟩⟩
    have I1 := I.turnedNew (t' := tk + 1) (h' := h'') (ch := [e, it]) (fun b ob hb q => (sb.2 b (fun z => hb (by simp [z]))).trans (hk b ob (fun z => hb (by simp [z])) (fun z => hb (by simp [z])) q)) hf (Nat.le_refl _) new
    refine ⟨.ref s.heap.objs.size, _, I1, rfl, ⟨_, x, rfl, I.hok.fresh (Nat.le_refl _), rfl, fun ys hy => by rw [I.tuple_inj hy hq]; exact hx⟩, ⟨⟨x', ?_⟩, hst'.1.at fun o q => (sb.2 it (Ne.symm hne)).trans q, hne⟩, fun b hb => ?_⟩
    · have e1 : ((i + 1 : Nat) : Int) = (i : Int) + 1 := by omega
      rw [e1]; exact he'
    · have hb2 : b < s.heap.objs.size := by
        have hb : b = e ∨ b = it := by simpa using hb
        rcases hb with rfl | rfl
        · exact hel
        · exact hil
      rw [upd_ne (Nat.ne_of_lt hb2)]
      exact (hf b hb).1
  done := by
    intro X hP hw hK hc i pins s σ H E I hf st hg
    subst hP hw hK
    obtain ⟨⟨old, he⟩, hit, hne⟩ := st
    obtain ⟨xs, hq, hx⟩ := hg
    obtain ⟨its, rv, p, hz⟩ := I.tuple hq
    obtain ⟨f0, f1, f2, f3, f4, f5⟩ := hf it (by simp)
    have hn : its.toArray.size = i := by rw [List.size_toArray, ← rv.length]; exact hx
    subst hn
    exact wpAny_pyNext_enum_endD (Draws.tuple (A := X.A.in1) (I.ok.hd hc) it a hai its.toArray) he ⟨hit, p⟩ fun h' eb => ⟨rfl, I.turned (t' := s.toks) (fun b o hb q => eb b o hb q) f0 f1 f3 f4 f5⟩
  self := by
    rintro A i s Q E ⟨⟨_, he⟩, _⟩ h
    exact wpAny_pyIter_enum he h
section
variable {X : Cx} {W : WX} {a b c e o : Expr} {ma : EM} {pos : Pos} {p : Pos}
def iEnA (K : PySem.W.Frag) (ta : TA) : TI := fun σ H R => ta σ H fun vs H1 => ∃ a xs, vs = [.ref a] ∧ ((SqL K H1 a xs ∧ R (Ite K a) H1) ∨ (SqT K H1 a xs ∧ R (IteT K a) H1))
theorem pi_enumA {ta : TA} {tpos : Pos} {elts : List Expr} {kk : Nat} (hg : Gl X "enumerate") (hm : X.mg "enumerate" = none) (ha : PA X [e] ta) (hs : starEach [e] X.env = (false, eval e X.env) :: starEach [] X.env := by rfl) :
    PI X (.Tuple elts kk tpos) (.Call (.Name "enumerate" p) [e] [] pos) (iEnA X.K ta) := by
  refine ⟨fun pins s σ H R I h => ?_⟩
  refine Call_ (ld_blt I hg hm boot_enumerate (PyProof.Rows.callWith_type1 (thn (ha.run pos pins s σ H _ I h) fun us s1 hu => ?_) hs rfl))
  obtain ⟨vs, H1, I1, r1, a, xs, rfl, q⟩ := hu
  obtain ⟨u, rfl, ru⟩ := vals1 r1
  obtain rfl : u = Value.ref a := ru
  have out : ∀ b, b = s1.heap.objs.size + 1 ∨ b = s1.heap.objs.size → s1.heap.objs.size ≤ b := by
    rintro b (rfl | rfl)
    · exact Nat.le_succ _
    · exact Nat.le_refl _
  rcases q with ⟨hq, q⟩ | ⟨hq, q⟩
  · obtain ⟨its, rv, p', hz⟩ := I1.list hq
    refine call_enumerate_list p'.isList fun h' he hit hsz hk => wpAny_pyIter_enum he ?_
    refine ⟨s1.heap.objs.size + 1, [s1.heap.objs.size + 1, s1.heap.objs.size], _, _, H1, rfl, I1.kept (t' := s1.toks) hk, turn_enum a (s1.heap.objs.size + 1) s1.heap.objs.size, ⟨⟨.none, he⟩, hit, Nat.succ_ne_self _⟩, fun b hb => ?_, q⟩
    have hle := out b (by simpa using hb)
    exact I1.fpOk hle (I1.hok.fresh hle)
  · obtain ⟨its, rv, p', hz⟩ := I1.tuple hq
    have hlt : a < s1.heap.objs.size := by obtain ⟨_, z, _⟩ := p'; exact Heap.lt_size z
    refine call_enumT p' fun h' he hit hk => wpAny_pyIter_enum he ?_
    refine ⟨s1.heap.objs.size + 1, [s1.heap.objs.size + 1, s1.heap.objs.size], _, _, H1, rfl, I1.kept (t' := s1.toks) hk, turn_enumT a (s1.heap.objs.size + 1) s1.heap.objs.size its.toArray (Nat.ne_of_lt (Nat.lt_succ_of_lt hlt)) (Nat.ne_of_lt hlt), ⟨⟨.none, he⟩, hit, Nat.succ_ne_self _⟩, fun b hb => ?_, q⟩
    have hle := out b (by simpa using hb)
    exact I1.fpOk hle (I1.hok.fresh hle)
def enumD (l : List D) : List D := l.zipIdx.map fun q => .tup [.int (q.2 : Nat), q.1]
theorem enumD_get {l : List D} {i : Nat} {d : D} (h : l[i]? = some d) : (enumD l)[i]? = some (.tup [.int (i : Nat), d]) := by
  unfold enumD
  rw [List.getElem?_map, List.getElem?_zipIdx, h]
  simp
theorem enumD_len (l : List D) : (enumD l).length = l.length := by unfold enumD; simp
theorem its_enumT {w : Wo} {l : List D} {a : Addr} {vs : List V} (s1 : ∀ w2, Ex0 w w2 → SqT X.K w2.hp a vs) (r1 : RepL X.K X.mg w l vs) : ItsR X w (enumD l) (IteT X.K a) := by
  intro w2 x2 _ R2
  have q1 := s1 w2 x2
  have e1 := r1.length
  refine ⟨fun i hi => ⟨?_, fun x H' y => ?_⟩, ⟨vs, q1, by rw [enumD_len]; omega⟩⟩
  · rw [enumD_len] at hi
    exact ⟨vs, vs[i]'(by omega), q1, by simp⟩
  · obtain ⟨T, x1, rfl, hT, rfl, g1⟩ := y
    obtain ⟨d1, k1, rd1⟩ := r1.getV (g1 vs q1)
    have xp := put_ext (o := .tup [.int (i : Nat), x1]) R2 hT
    exact ⟨w2.put T (.tup [.int (i : Nat), x1]), .tup [.int (i : Nat), d1], rfl, xp, R2.put hT, rfl, rfl, enumD_get k1, .tup (.inl (put_st R2 hT).o) (.cons (.int _) (.cons ((rd1.ext x2).ext xp.toEx0) .nil))⟩
theorem its_enumL {w : Wo} {l : List D} {a : Addr} {vs : List V} (s1 : ∀ w2, Ex0 w w2 → SqL X.K w2.hp a vs) (r1 : RepL X.K X.mg w l vs) : ItsR X w (enumD l) (Ite X.K a) := by
  intro w2 x2 _ R2
  have q1 := s1 w2 x2
  have e1 := r1.length
  refine ⟨fun i hi => ⟨?_, fun x H' y => ?_⟩, ⟨vs, q1, by rw [enumD_len]; omega⟩⟩
  · rw [enumD_len] at hi
    exact ⟨vs, vs[i]'(by omega), q1, by simp⟩
  · obtain ⟨T, x1, rfl, hT, rfl, g1⟩ := y
    obtain ⟨d1, k1, rd1⟩ := r1.getV (g1 vs q1)
    have xp := put_ext (o := .tup [.int (i : Nat), x1]) R2 hT
    exact ⟨w2.put T (.tup [.int (i : Nat), x1]), .tup [.int (i : Nat), d1], rfl, xp, R2.put hT, rfl, rfl, enumD_get k1, .tup (.inl (put_st R2 hT).o) (.cons (.int _) (.cons ((rd1.ext x2).ext xp.toEx0) .nil))⟩
def enR (ds : List D) (S : Store) : Res (List D) := match ds with
  | [.tup l] => .ok (enumD l) S
  | [.lst l] => .ok (enumD l) S
  | _ => .stuck
def iEnum (m : AM) : AM := fun e S => (m e S).bind enR
theorem ri_enum {m : AM} {elts : List Expr} {kk : Nat} {tpos : Pos} (hm : X.mg "enumerate" = none) (ha : RA X W [a] m) (hg : Gl X "enumerate" := by rfl) (hs : starEach [a] X.env = (false, eval a X.env) :: starEach [] X.env := by rfl) :
    RI X W (.Tuple elts kk tpos) (.Call (.Name "enumerate" p) [a] [] pos) (iEnum m) := by
  refine ⟨fun pins s σ H R' I h => (pi_enumA hg hm ha hs).run pins s σ H R' I ?_⟩
  obtain ⟨w, en, rfl, R, E, P⟩ := h
  refine ⟨w, en, rfl, R, E, (Post.bind P).imp ?_⟩
  rintro vs H1 ⟨w1, ds, rfl, X1, R1, rx, P1⟩
  unfold enR at P1
  split at P1
  · obtain ⟨v, rfl, rv⟩ := rx.one_inv
    cases rv with
    | tup s1 r1 => exact ⟨_, _, rfl, .inr ⟨s1.sq, Post.now P1 R1 (its_enumT (fun w2 x2 => (s1.ext x2).sq) r1)⟩⟩
  · obtain ⟨v, rfl, rv⟩ := rx.one_inv
    cases rv with
    | lst s1 r1 => exact ⟨_, _, rfl, .inl ⟨SqL.of s1.1, Post.now P1 R1 (its_enumL (fun w2 x2 => SqL.of (s1.ext x2).1) r1)⟩⟩
  · exact False.elim P1
end
end G
namespace G
open PySem L2 PySem.Spec
section
variable {X : Cx} {W : WX} {a b c e o : Expr} {es : List Expr} {ma mb mc me : EM} {ta tb : TM} {pos apos : Pos} {x : Str} {p : Pos} {j k : Nat}
variable {K : PySem.W.Frag} {mg : Str → Option Value} {w : Wo}
def lrOk (i : Int) : Prop := i ≤ 16777216 ∧ -(2 ^ 62) ≤ i
open Classical in
noncomputable def lrR (d : D) (S : Store) : Res (List D) := match d with
  | .int i => if lrOk i then .ok (rangeD 0 i.toNat) S else .stuck
  | _ => .stuck
noncomputable def eLr (m : EM) : EM := fun e S => (m e S).bind fun d S1 => (lrR d S1).bind fun l S2 => .ok (.lst l) S2
noncomputable def eLrN (m : EM) : EM := fun e S => (m e S).bind fun d S1 => (lrR d S1).bind fun l S2 => .ok (.loc S2.length) (S2 ++ [.lst l])
def seqT (S : Store) (y : D) : Option (List D) := match y with
  | .tup l => some l
  | _ => seqD S y
theorem RepD.seqT {d : D} {v : V} {l : List D} (R : Rep K mg w) (h : RepD K mg w d v) (e : G.seqT w.st d = some l) : ∃ a vs, v = .ref a ∧ (SqL K w.hp a vs ∨ SqT K w.hp a vs) ∧ RepL K mg w l vs := by
  unfold G.seqT at e
  split at e
  · cases e
    cases h with
    | tup s r => exact ⟨_, _, rfl, .inr s.sq, r⟩
  · obtain ⟨a, vs, rfl, q, r⟩ := h.seq R e
    exact ⟨a, vs, rfl, .inl q, r⟩
def dInL (neg : Bool) (S : Store) (x y : D) : Option D := match seqT S y, flatD x with
  | some l, some v => (flatL l).map fun vs => .bl (if neg then !inV v vs else inV v vs)
  | _, _ => none
theorem inL_pre {neg : Bool} {dx dy : D} {x y : V} {Q : VK} {E : XK} (R : Rep X.K X.mg w) (qx : RepD X.K X.mg w dx x) (qy : RepD X.K X.mg w dy y) (P : Post (RepD X.K X.mg) X.K X.mg w (lf (dInL neg w.st dx dy) w.st) Q E) : rIn X.K neg x y w.hp Q := by
  unfold dInL at P
  split at P
  · rename_i l v e1 e2
    obtain ⟨a, vs, rfl, q, r⟩ := qy.seqT R e1
    obtain ⟨rfl, fx⟩ := qx.flat e2
    cases e3 : flatL l with
    | none => rw [e3] at P; exact False.elim P
    | some us =>
      rw [e3] at P
      obtain ⟨rfl, fl⟩ := r.flat e3
      exact ⟨a, vs, rfl, q, fx, fl, Post.now P R (.bl _)⟩
  · exact False.elim P
theorem om_inL : OpR X (compareOp .In) (OpMS X (dInL false)) := by
  intro pins s σ H x y v u Q I rx ry h
  obtain ⟨w, dx, dy, E, rfl, R, qx, qy, P⟩ := h
  exact op_in_seq pins s σ w.hp _ _ v u Q I rx ry (inL_pre R qx qy P)
theorem om_notInL : OpR X (compareOp .NotIn) (OpMS X (dInL true)) := by
  intro pins s σ H x y v u Q I rx ry h
  obtain ⟨w, dx, dy, E, rfl, R, qx, qy, P⟩ := h
  exact op_notIn_seq pins s σ w.hp _ _ v u Q I rx ry (inL_pre R qx qy P)
def popR (x : D) (xs : List D) (S : Store) : Res D := match x, xs with
  | .loc n, [.int i] => match S[n]? with
    | some (.lst l) => match seqIndex? i l.length with
      | some k => match l[k]? with
        | some y => if -(2 ^ 63) ≤ i ∧ i < 2 ^ 63 then .ok y (S.set n (.lst (l.eraseIdx k))) else .stuck
        | none => .stuck
      | none => .stuck
    | _ => .stuck
  | _, _ => .stuck
def ePop (a : EM) (m : AM) : EM := fun e S => (a e S).bind fun x S1 => if isLst S1 x then (m e S1).bind fun xs S2 => popR x xs S2 else .stuck
theorem RepL.eraseIdx {l : List D} {vs : List V} (h : RepL K mg w l vs) : ∀ k, RepL K mg w (l.eraseIdx k) (vs.eraseIdx k) := by
  induction h using RepL.rec (motive_1 := fun _ _ _ => True) (motive_3 := fun _ _ _ => True) with
  | nil => exact fun k => .nil
  | cons r t _ ih =>
    intro k
    cases k with
    | zero => exact t
    | succ k => exact .cons r (ih k)
  | _ => trivial
def augR (i : Nat) (e : En) (x y : D) (S : Store) : SRes := match x with
  | .int m => match y with
    | .int n => .nxt (e.set i (some (.int (m + n)))) S
    | _ => .stuck
  | .loc n => match S[n]?, lstOf S y with
    | some (.lst l), some zs => if l.length + zs.length ≤ sizeLine then .nxt (e.set i (some (.loc n))) (S.set n (.lst (l ++ zs))) else .stuck
    | _, _ => .stuck
  | _ => .stuck
def sAug (i : Nat) (m : EM) : SM := fun e S => match e[i]? with
  | some (some x) => sE (m e S) e fun y S1 => augR i e x y S1
  | _ => .stuck
def eqS (S : Store) (x y : D) : Option Bool := eqP (rsv S x) (rsv S y)
end
end G
namespace G
open PySem L2 PySem.Spec
end G
namespace G
open PySem L2 PySem.Spec PyProof.Rows
section
variable {X : Cx} {W : WX} {pos : Pos}
def gSq (n : Nat) (r : GMs) : GM := fun d e S => match d with
  | .tup ds => if ds.length = n then r ds e S else .stuck
  | .lst ds => if ds.length = n then r ds e S else .stuck
  | .loc j => match S[j]? with
    | some (.lst ds) => if ds.length = n then r ds e S else .stuck
    | _ => .stuck
  | _ => .stuck
end
end G
namespace G
open PySem L2 PySem.Spec
section
variable {X : Cx} {W : WX} {a b c e o : Expr} {es : List Expr} {ma mb mc me : EM} {ta tb : TM} {pos apos : Pos} {x : Str} {p : Pos} {j k : Nat}
variable {K : PySem.W.Frag} {mg : Str → Option Value} {w : Wo}
def eListN (m : EM) : EM := fun e S => (m e S).bind fun d S1 => (lf (seqT S1 d) S1).bind fun l S2 => .ok (.loc S2.length) (S2 ++ [.lst l])
def eRev (m : EM) : EM := fun e S => (m e S).bind fun d S1 => (lf (seqD S1 d) S1).bind fun l S2 => .ok (.lst l.reverse) S2
end
end G
namespace G
open PySem L2 PySem.Spec
structure Fam (B nw ini : String) (tl : List Value) : Prop where
  f : ExcBaseFacts B nw ini tl
  p : ∀ self : Value, refuseLoop self "__setattr__" tl = pure ()
  o : tl.contains (.type "object") = true
  e : tl.isEmpty = false
theorem fam_ValueError : Fam "ValueError" "ValueError.__new__" "ValueError.__init__" bmValueError := ⟨PySem.F.excBase_ValueError, PySem.F.store_ValueError.passes, by decide +kernel, rfl⟩
structure XoC (K : PySem.W.Frag) (C : Addr) (nw : String) (tl : List Value) : Prop where
  cls : ∃ nm q N bs bm sn sub ab col dd k0 k1 k2 k3 k5, K.lookup C = some (excClassObj nm q C N bs bm true sn sub ab col dd k0 k1 k2 k3 k5 nw) ∧ PySem.W.excTail tl bm = true
  sa : PySem.W.findIn K (.ref C) "__setattr__" = some (some (.builtin "object.__setattr__"))
  exC : PySem.W.subIn K (.ref C) (.type "BaseException") = some true
  tyC : PySem.W.typeIn K (.ref C) = some (.type "type")
  kC : PySem.W.keepIn K (.ref C) = true
section
open Builtin Builtin.ObjectAttr
variable {prog : Program} {w : World} {A : Around} {R : Result → Shared → Prop} {hp : Heap} {g : Array GenState} {d : Drawn} {t : Nat} {os : OsState} {tl : List Value}
theorem osa_first {K : W.Frag} {n : Str} {tk : Tok} {u : Value} {x C : Addr} {fv : Array Value} {cd : ClassData} (KX : K.In hp) (hx : hp.get? x = some { cls := .ref C, data := .fields fv }) (hcd : W.clsIn K C = some cd)
    (hm : W.excTail tl cd.mro = true) (hne : tl.isEmpty = false) (hto : tl.contains (.type "object") = true) (htp : ∀ self : Value, refuseLoop self "__setattr__" tl = pure ()) (hh : cd.hasDict = true) (hno : W.findIn K (.ref C) n = some none)
    (hq : ∀ h' tk' dx, (∀ b o, b ≠ x → hp.get? b = some o → h'.get? b = some o) → hp.objs.size ≤ dx → dx ≠ x → h'.get? x = some { cls := .ref C, dict := some dx, data := .fields fv } → h'.Ns1 dx (fun y => if y = n then some u else none) → R (.ok (.ret .none)) ⟨h', g, d, tk', os⟩) :
    codeAny (model prog w) A (.call (.builtin "object.__setattr__") ⟨[.ref x, .str n tk, u], []⟩) R ⟨hp, g, d, t, os⟩ := by
  have J : W.InstAt hp x { cls := .ref C, data := .fields fv } C none := ⟨hx, rfl, rfl, trivial⟩
  have G0 := F.store_object
  have ne : cd.mro.isEmpty = false := by
    cases q : cd.mro with
    | nil =>
      rw [q] at hm
      have : [] = tl := beq_iff_eq.mp hm
      rw [← this] at hne; cases hne
    | cons _ _ => rfl
  have hob : cd.mro.contains (.type "object") = true := (W.excTail_contains "object" _ hm).trans hto
  have hxs : x ≠ hp.objs.size := Nat.ne_of_lt (Heap.lt_size hx)
  have sb : W.Looks (model prog w) hp (isInstance (.ref x) (.type "object")) true := J.type.andThen (W.looks_mroIn KX (by unfold W.mroIn; rw [hcd, Option.bind_some, if_neg (by rw [ne]; decide), hob]))
  refine codeAny_call_builtin G0.slot.plain G0.entry (@W.check_slot (model prog w) _ _ ⟨hp, g, d, t, os⟩ "object.__setattr__" "object" "__setattr__" (.ref x) [.str n tk, u] [] _ G0.kind G0.split sb (G0.args (.ref x) (.str n tk) u) ?_)
  have lm : W.Looks (model prog w) hp (mroOf (.ref C)) cd.mro := (W.looks_clsIn KX hcd).andThen .now
  have l3 : W.Looks (model prog w) hp (storeTaker? none) none := .now
  have lc : W.Looks (model prog w) hp (classData C) cd := W.looks_clsIn KX hcd
  rw [W.osa_eq, refuse_eq]
  refine wpAny_bind (wpAny_bind (J.type.at (wpAny_bind (lm.at ?_))))
  rw [W.excTail_pass _ (htp _) _ hm]
  refine wpAny_pure (wpAny_bind (J.type.at (wpAny_bind ((W.looks_findIn KX hno).at (wpAny_bind (l3.at ?_))))))
  show wpAny _ _ (storeInOwnDict (.ref x) (.ref C) (.str n tk) n u false) _ _ _
  obtain ⟨c1, c2, c3, c4, c5, c6, c7, c8, c9, c10, c11⟩ := cd
  dsimp only at hh
  subst hh
  unfold storeInOwnDict ownDictForStores
  repeat (first | with_reducible refine HandSPX.store_in_new ?_ ?_ | with_reducible refine wpAny_loadPart_at hx ?_ | with_reducible refine lc.at ?_ | wp_step)
  · exact ⟨_, #[], _, (Heap.get?_update_ne _ _ _ _ hxs.symm).trans (Heap.get?_push_at rfl rfl), rfl, (fun e he => absurd he (by simp)), fun _ => rfl⟩
  · intro h' tk' hn' hs
    have hx1 : (hp.push { cls := .type "dict", data := .dict #[] }).get? x = some { cls := .ref C, data := .fields fv } := Heap.get?_push_of_some _ hx
    refine hq h' tk' hp.objs.size (fun b o hb ho => ?_) (Nat.le_refl _) hxs.symm ?_ hn'
    · exact (hs.2 b (Nat.ne_of_lt (Heap.lt_size ho))).trans ((Heap.get?_update_ne _ _ _ _ hb).trans (Heap.get?_push_of_some _ ho))
    · exact (hs.2 x hxs).trans (Heap.get?_update_self _ hx1 rfl)
end
section
variable {X : Cx} {pins : List (Addr × Obj)} {σ : L2.St} {H : Hp} {s : Shared} {a C : Addr} {f : Str} {y : V} {u : Value} {E : Value → Shared → Prop} {A : Around} {B nw ini : String} {tl : List Value}
theorem ost_first {Q : Unit → Shared → Prop} (T : XoC X.K C nw tl) (Y : Fam B nw ini tl) (I : L2.Inv X pins σ H s) (e : H a = some (exo a C none)) (hno : PySem.W.findIn X.K (.ref C) f = some none) (ry : RelV y u)
    (h : ∀ dx s', H dx = none → dx ≠ a → L2.Inv X pins σ (upd (upd H dx (exd dx [(f, y)])) a (exo a C (some dx))) s' → Q () s') : wpAny (model X.prog X.w) A (setAttr (.ref a) f u) Q E s := by
  obtain ⟨nm, q, N, bs, bm, sn, sub, ab, col, dd, k0, k1, k2, k3, k5, hC, hbm⟩ := T.cls
  have hcl : PySem.W.clsIn X.K C = some { name := nm, bases := bs, mro := .ref C :: bm, ns := N, qualname := q, hasDict := true, slotNames := sn, subclasses := sub, abstract := ab, collection := col, hasDel := false } := by unfold PySem.W.clsIn; rw [hC] <;> rfl
  obtain ⟨t1, ho⟩ := exo_at I.hok e
  obtain ⟨hp, g, d, t, os⟩ := s
  refine PySem.W.set_plain I.kIn (od := none) (ox := { cls := .ref C, dict := none, data := .fields #[.ref t1, .none, .none, .none, .bool false, .none] }) ⟨ho, rfl, rfl, trivial⟩ T.sa ?_
  refine osa_first I.kIn ho hcl (tl := tl) (show PySem.W.excTail tl (.ref C :: bm) = true from hbm) Y.e Y.o Y.p rfl hno (fun h' tk' dx k dn dne hx hn => ?_)
  have fd : H dx = none := I.hok.fresh dn
  have nd : ∀ {b : Addr} {o : Obj}, hp.get? b = some o → b ≠ dx := fun {b o} z => Nat.ne_of_lt (Nat.lt_of_lt_of_le (Heap.lt_size z) dn)
  have na : ∀ {b : Addr}, H b = none → b ≠ a := fun {b} n z => by rw [z, e] at n; cases n
  have U : Un X.fs [] H (upd (upd H dx (exd dx [(f, y)])) a (exo a C (some dx))) hp h' := {
    keep := fun b o z n _ _ => k b o (na n) z
    slot := fun b o z n _ _ => ⟨o.slots, k b o (na n) z⟩
    free := fun b o z n _ => by rw [upd_ne (na n), upd_ne (nd z)]; exact n
    there := fun b o z _ => by
      by_cases hb : b = a
      · subst hb; exact ⟨_, hx⟩
      · exact ⟨o, k b o hb z⟩
    tups := fun b xs z => by rw [upd_ne (at_ne e z exo_tup), upd_ne (ne_of_none z fd)]; exact z
    frzs := fun b o v z => by rw [upd_ne (at_ne e z exo_frz), upd_ne (ne_of_none z fd)]; exact z
    tbls := fun b ps z => ⟨#[], by rw [upd_ne (at_ne e z exo_tbl), upd_ne (ne_of_none z fd), z]; simp⟩ }
  refine h dx _ fd dne (I.un (t' := tk') U fun b o z => ?_)
  by_cases hb : b = a
  · subst hb
    rw [upd_same] at z; cases z
    exact exo_ok hx
  · rw [upd_ne hb] at z
    by_cases hd : b = dx
    · subst hd
      rw [upd_same] at z; cases z
      exact exd_ok hn (relO_put (fs := []) ry fun _ => True.intro)
    · rw [upd_ne hd] at z
      refine (I.hok b o z).stay (fun c v hc q => k c v ?_ q) (fun c hc => ?_) (fun c xs hc => ?_)
      · rcases hc with hc | hc
        · rw [hc]; exact hb
        · exact at_ne e hc exo_own
      · rw [upd_ne (at_ne e hc exo_own), upd_ne (ne_of_none hc fd)]; exact hc
      · rw [upd_ne (at_ne e hc exo_tup), upd_ne (ne_of_none hc fd)]; exact hc
theorem ini_first {us : List Value} {Q : Value → Shared → Prop} (T : XoC X.K C nw tl) (Y : Fam B nw ini tl) (I : L2.Inv X pins σ H s) (e : H a = some (exo a C none)) (hl : us.length ≤ sizeLine) (h : ∀ s', L2.Inv X pins σ H s' → Q .none s') :
    wpAny (model X.prog X.w) A (call (.builtin ini) (.ref a :: us)) Q E s := by
  obtain ⟨nm, q, N, bs, bm, sn, sub, ab, col, dd, k0, k1, k2, k3, k5, hC, hbm⟩ := T.cls
  obtain ⟨t1, ho⟩ := exo_at I.hok e
  obtain ⟨hp, g, d, t, os⟩ := s
  refine wpAny_call (PySem.HandSPX.init_base Y.f (fun z => PySem.W.excTail_contains z bm hbm) (I.kIn _ _ hC) ho hl fun h' t2 k hx => ?_)
  have J := I.write (t' := t) (x := a) (e := a) (o := exo a C none) (by rw [e]; exact True.intro) (.inl rfl) k ⟨_, hx⟩ (exo_ok hx)
  have eu : upd H a (exo a C none) = H := funext fun b => if hb : b = a then by rw [hb, upd_same, e] else by rw [upd_ne hb]
  exact h _ (eu ▸ J)
end
def tBi (K : PySem.W.Frag) (nw : String) (tl : List Value) (ta : TA) : TE := fun σ H Q => ta σ H fun vs H1 => ∃ (a C : Addr) (ws : List V), vs = .ref a :: ws ∧ ws.length ≤ 1000 ∧ XoC K C nw tl ∧ H1 a = some (exo a C none) ∧ Q .non H1
def tFs (K : PySem.W.Frag) (nw : String) (tl : List Value) (f : Str) (to te : TE) : TS := fun D σ H => te σ H fun y H1 => to σ H1 fun x H2 => ∃ a C : Addr, x = .ref a ∧ XoC K C nw tl ∧ PySem.W.findIn K (.ref C) f = some none ∧ H2 a = some (exo a C none) ∧
  ∀ dx, H2 dx = none → dx ≠ a → D.nx σ (upd (upd H2 dx (exd dx [(f, y)])) a (exo a C (some dx)))
structure HdC (K : PySem.W.Frag) (C : Addr) (ini : String) : Prop where
  ga : PySem.W.specialIn K (.ref C) "__getattribute__" = some (some (.builtin "type.__getattribute__"))
  rd : PySem.W.readsIn K C (.type "type") = true
  fi : PySem.W.findCls K (.ref C) (.type "type") "__init__" = some (.val (.builtin ini))
  hi : PySem.W.handedIn (.builtin ini) = true
section
variable {X : Cx} {o e : Expr} {es : List Expr} {to te : TE} {ta : TA} {f : Str} {p p' p1 p2 pos : Pos} {B nw ini : String} {tl : List Value} {x : Str} {Bc : Addr}
theorem pe_bini {pl : Sem Bool} (Y : Fam B nw ini tl) (hg : Gl X x) (hm : X.mg x = some (.ref Bc)) (hB : HdC X.K Bc ini) (ha : PA X (e :: es) ta) (hdb : (x == ("__debug__" : Str)) = false := by decide)
    (hc : eval (.Call (.Attribute (.Name x p1) "__init__" p2) (e :: es) [] pos) X.env = (do
      let ov ← eval (.Name x p1) X.env
      standAt p2.atName
      let (fv, first) ← holding [ov] (getMethod ov "__init__" pl)
      callWith pos fv first (backTo pos (starEach (e :: es) X.env)) (backToKw pos (keywordEach [] X.env))) := by rfl)
    (he : starEach (e :: es) X.env = (false, eval e X.env) :: starEach es X.env := by rfl) (hpl : (backTo pos (starEach es X.env)).any (·.1) = false := by rfl) :
    PE X (.Call (.Attribute (.Name x p1) "__init__" p2) (e :: es) [] pos) (tBi X.K nw tl ta) := by
  refine ⟨fun pins s σ H Q I h => ?_⟩
  refine PySem.W.methodCall_KW (ld_glob I hg hm ?_ hdb) hc
  refine PySem.W.method_cls I.kIn hB.ga (PySem.W.cls_value I.kIn hB.rd hB.fi hB.hi ?_)
  show wpAny _ _ (callWith pos (Value.builtin ini) [] (backTo pos (starEach (e :: es) X.env)) []) _ _ _
  refine PyProof.Rows.callWith_method1 (thn (ha.run pos pins _ σ H _ (I.tok _) h) fun us s1 hu => ?_) he hpl
  obtain ⟨vs, H1, I1, r1, a, C, ws, rfl, hl, T, ea, q⟩ := hu
  cases r1 with
  | @cons _ u0 _ ur ra rr =>
    obtain rfl : u0 = Value.ref a := ra
    exact ini_first T Y I1 ea (by rw [← Paired.length rr, sizeLine_eq]; omega) fun s' J => ⟨.non, H1, J, rfl, q⟩
theorem ps_fst (Y : Fam B nw ini tl) (ho : PE X o to) (he : PE X e te) (hs : swapsWith e (some (.Attribute o f p')) pos.line X.env = pure false := by rfl) : PS X (.Assign [.Attribute o f p'] e pos) (tFs X.K nw tl f to te) := by
  refine ⟨fun pins s σ H D I h => ?_⟩
  refine plainObj_wpAny_Assign_Attribute (thn (he.run pins s σ H _ I h) fun v s1 hv => ?_) hs
  obtain ⟨y, H1, I1, r1, q1⟩ := hv
  refine thn (ho.run pins s1 σ H1 _ I1 q1) fun u s2 hu => ?_
  obtain ⟨z, H2, I2, r2, a, C, rfl, T, hno, ea, q⟩ := hu
  obtain rfl : u = Value.ref a := r2
  exact ost_first T Y I2 ea hno r1 fun dx s' n ne J => ⟨σ, _, J, q dx n ne⟩
end
end G
namespace G
open PySem L2 PySem.Spec
def tIni (K : PySem.W.Frag) (nw : String) (tl : List Value) (f : Str) : TS := fun D σ H => ∃ (a C : Addr) (v : V), σ[0]? = some (some (.ref a)) ∧ σ[1]? = some (some v) ∧ XoC K C nw tl ∧ PySem.W.findIn K (.ref C) f = some none ∧ H a = some (exo a C none) ∧
  ∀ dx, H dx = none → dx ≠ a → D.nx σ (upd (upd H dx (exd dx [(f, v)])) a (exo a C (some dx)))
section
variable {X : Cx} {B nw ini : String} {tl : List Value} {b sf y f m : Str} {Bc : Addr} {p1 p2 p3 p4 p5 p6 p7 p8 p9 p10 : Pos} {j : Nat} {pl : Sem Bool}
theorem pss_ini (Y : Fam B nw ini tl) (hm : X.mg b = some (.ref Bc)) (hB : HdC X.K Bc ini) (h0 : PE X (.Name sf p3) (tVar 0)) (h0' : PE X (.Name sf p7) (tVar 0)) (h1 : PE X (.Name y p9) (tVar 1)) (hg : Gl X b := by rfl) (hdb : (b == ("__debug__" : Str)) = false := by decide)
    (hc : eval (.Call (.Attribute (.Name b p1) "__init__" p2) [.Name sf p3, .Constant (.str m) j p4] [] p5) X.env = (do
      let ov ← eval (.Name b p1) X.env
      standAt p2.atName
      let (fv, first) ← holding [ov] (getMethod ov "__init__" pl)
      callWith p5 fv first (backTo p5 (starEach [.Name sf p3, .Constant (.str m) j p4] X.env)) (backToKw p5 (keywordEach [] X.env))) := by rfl)
    (he : starEach [.Name sf p3, .Constant (.str m) j p4] X.env = (false, eval (.Name sf p3) X.env) :: starEach [.Constant (.str m) j p4] X.env := by rfl)
    (he2 : starEach [.Constant (.str m) j p4] X.env = (false, eval (.Constant (.str m) j p4) X.env) :: starEach [] X.env := by rfl)
    (hpl : (backTo p5 (starEach [.Constant (.str m) j p4] X.env)).any (·.1) = false := by rfl)
    (hs1 : swapsWith (.Call (.Attribute (.Name b p1) "__init__" p2) [.Name sf p3, .Constant (.str m) j p4] [] p5) none p6.line X.env = pure false := by rfl)
    (hs2 : swapsWith (.Name y p9) (some (.Attribute (.Name sf p7) f p8)) p10.line X.env = pure false := by rfl) :
    PSs X [.Expr (.Call (.Attribute (.Name b p1) "__init__" p2) [.Name sf p3, .Constant (.str m) j p4] [] p5) p6, .Assign [.Attribute (.Name sf p7) f p8] (.Name y p9) p10] (tIni X.K nw tl f) := by
  refine pss_imp (pss_cons (ps_expr (pe_bini Y hg hm hB (pa_cons h0 (pa_cons pe_str pa_nil he2) he) hdb hc he hpl) hs1) (pss_one (ps_fst Y h0' h1 hs2))) ?_
  rintro D s H ⟨a, C, v, e0, e1, T, hno, ea, q⟩
  exact ⟨.ref a, e0, a, C, _, rfl, (by simp), T, ea, v, e1, .ref a, e0, a, C, rfl, T, hno, ea, q⟩
end
def spIni (K : PySem.W.Frag) (nw : String) (tl : List Value) (f : Str) : Sp := fun vs H Q _ => ∃ (a C : Addr) (v : V), vs = [.ref a, v] ∧ XoC K C nw tl ∧ PySem.W.findIn K (.ref C) f = some none ∧ H a = some (exo a C none) ∧
  ∀ dx, H dx = none → dx ≠ a → Q .non (upd (upd H dx (exd dx [(f, v)])) a (exo a C (some dx)))
section
variable {P : Program} {w0 : World} {K : PySem.W.Frag} {mg : Str → Option Value} {base : Heap}
theorem ini_fn {x qual : Str} {st : Stmt} {fI : Addr} {fd : FuncData} {sf y f : Str} {nw : String} {tl : List Value} (F : FunD K x qual (defArgs st) (defBody st) (defScope st) [] [] fI fd) (S : FnScope [sf, y] [sf, y] (defScope st))
    (hb : ∀ (cdv : Value) (A : Around) (outer : List Env) (s : Shared) (H : Hp) (E : XK), PSs (cxOf (L2.CX P w0) P w0 K mg base [sf, y] qual (defScope st) fI cdv A outer s H E) (defBody st) (tIni K nw tl f)) :
    FnOk P w0 K mg base (L2.CX P w0) 1 fI fd [sf, y] (spIni K nw tl f) := by
  obtain ⟨oc, od, dV, kV, doc, pm, an, cdv, ct, osl, rfl, lk, hcd, _, _⟩ := F.ex
  refine fn_of lk hcd S (fun vs H Q E h => ?_) (fun A outer s H vs Q E hr h => ?_)
  · obtain ⟨a, C, v, rfl, _⟩ := h; rfl
  · obtain ⟨a, C, v, rfl, T, hno, ea, q⟩ := h
    exact ⟨_, hb cdv A outer s H E, a, C, v, rfl, rfl, T, hno, ea, q⟩
end
section
variable {X : Cx} {W : WX} {e : Expr} {me : EM} {ta : TA} {p pos pos2 : Pos} {B nw ini : String} {tl : List Value} {x : Str} {C fI : Addr} {fd : FuncData} {ps : List Str} {f : Str} {k : Nat}
theorem pmk_fld (T : XoC X.K C nw tl) (Y : Fam B nw ini tl) (iC : PySem.W.findIn X.K (.ref C) "__init__" = some (some (.ref fI))) (tI : PySem.W.typeIn X.K (.ref fI) = some (.type "function")) (F1 : FnOk X.prog X.w X.K X.mg X.base (L2.CX X.prog X.w) 1 fI fd ps (spIni X.K nw tl f))
    (hr : Room 2 X.A) (hb : Binds X.K fd ps []) (hno : PySem.W.findIn X.K (.ref C) f = some none) (hg : Gl X x) (hm : X.mg x = some (.ref C)) (ha : PA X [e] ta) (hdb : (x == ("__debug__" : Str)) = false := by decide) (he : starEach [e] X.env = (false, eval e X.env) :: starEach [] X.env := by rfl) (hpl : (backTo pos (starEach [] X.env)).any (·.1) = false := by rfl) :
    PMk X (.Call (.Name x p) [e] [] pos) (fun σ H Q => ta σ H fun vs H1 => ∃ v, vs = [v] ∧ ∀ d, H1 d = none → Q (.ref C) (some d) (upd H1 d (.xd [(f, v)]))) := by
  intro pins s σ H Q I h
  obtain ⟨nm, q, N, bs, bm, sn, sub, ab, col, dd, k0, k1, k2, k3, k5, hC, hbm⟩ := T.cls
  refine wpAny_Call_Name_kw (ld_glob I hg hm ?_ hdb)
  refine PySem.W.callWith_K (h₀ := X.base) I.ok.mod.kin T.kC (thn (ha.run pos pins s σ H _ I h) fun us s1 hu => ?_) he hpl
  obtain ⟨vs, H1, I1, r1, v, rfl, q1⟩ := hu
  refine ⟨I1.kIn, ?_⟩
  show wpAny _ _ (call (.ref C) us) _ _ _
  obtain ⟨hp, g, dr, tk, os⟩ := s1
  have hsz : hp.objs.size ≤ hp.objs.size + 1 := Nat.le_succ _
  have hn : H1 (hp.objs.size + 1) = none := I1.hok.fresh hsz
  have kk : ∀ b o, hp.get? b = some o → ((hp.push (PySem.W.kdv_tup us)).push (PySem.HandSPX.excO C hp.objs.size)).get? b = some o := fun b o z => Heap.get?_push_of_some _ (Heap.get?_push_of_some _ z)
  have hget : ((hp.push (PySem.W.kdv_tup us)).push (PySem.HandSPX.excO C hp.objs.size)).get? (hp.objs.size + 1) = some (PySem.HandSPX.excO C hp.objs.size) := by heap_get
  have I2 : L2.Inv X pins σ (upd H1 (hp.objs.size + 1) (exo (hp.objs.size + 1) C none)) ⟨(hp.push (PySem.W.kdv_tup us)).push (PySem.HandSPX.excO C hp.objs.size), g, dr, tk, os⟩ :=
    I1.laid (t' := tk) (a := hp.objs.size + 1) (o := exo (hp.objs.size + 1) C none) (h' := (hp.push (PySem.W.kdv_tup us)).push (PySem.HandSPX.excO C hp.objs.size)) kk hsz (exo_ok hget)
  have hq : spIni X.K nw tl f [.ref (hp.objs.size + 1), v] (upd H1 (hp.objs.size + 1) (exo (hp.objs.size + 1) C none))
      (fun z H2 => z = .non ∧ ∃ (d : Addr) (fs : List (Str × V)), H2 (hp.objs.size + 1) = some (exo (hp.objs.size + 1) C (some d)) ∧ H2 d = some (exd d fs) ∧ H1 d = none ∧ Q (.ref C) (some d) (upd (del H2 (hp.objs.size + 1)) d (.xd fs))) (fun _ _ _ => False) := by
    refine ⟨_, C, v, rfl, T, hno, upd_same, fun dx hd hne => ⟨rfl, dx, [(f, v)], upd_same, ?_, ?_, ?_⟩⟩
    · rw [upd_ne hne, upd_same]
    · rw [upd_ne hne] at hd; exact hd
    · have hd1 : H1 dx = none := by rw [upd_ne hne] at hd; exact hd
      have eu : upd (del (upd (upd (upd H1 (hp.objs.size + 1) (exo (hp.objs.size + 1) C none)) dx (exd dx [(f, v)])) (hp.objs.size + 1) (exo (hp.objs.size + 1) C (some dx))) (hp.objs.size + 1)) dx (.xd [(f, v)]) = upd H1 dx (.xd [(f, v)]) := by
        funext b
        by_cases h1 : b = dx
        · rw [h1, upd_same, upd_same]
        · rw [upd_ne h1, upd_ne h1]
          by_cases h2 : b = hp.objs.size + 1
          · rw [h2, del_same, hn]
          · rw [del_ne h2, upd_ne h2, upd_ne h1, upd_ne h2]
      rw [eu]
      exact q1 dx hd1
  have r2 : Vals (V.ref (hp.objs.size + 1) :: [v]) (Value.ref (hp.objs.size + 1) :: us) := .cons rfl r1
  have hl : (Value.ref (hp.objs.size + 1) :: us).length = ps.length := by rw [← r2.length]; exact F1.len _ _ _ _ hq
  have hus : us.length ≤ sizeLine := by rw [← Paired.length r1, sizeLine_eq]; simp
  have hbb := hb ⟨(hp.push (PySem.W.kdv_tup us)).push (PySem.HandSPX.excO C hp.objs.size), g, dr, tk, os⟩ (Value.ref (hp.objs.size + 1) :: us) I2.kIn (by simpa using hl)
  rw [List.append_nil] at hbb
  refine wpAny_call (PySem.HandSPX.call_own Y.f (fun z => PySem.W.excTail_contains z bm hbm) (I1.kIn _ _ hC) (PySem.W.looks_findIn I1.kIn iC) (fun self => PySem.W.bind_fn I1.kIn self tI) hus
    (codeAny_mono (F1.run _ X.stack _ _ ⟨Value.ref (hp.objs.size + 1) :: us, []⟩ (Value.ref (hp.objs.size + 1) :: us) _ _ (fun _ _ _ => False) (hr.make C us []) (I2.env0.make C us []) hbb r2 hq) fun r s' hq' => ?_))
  cases r with
  | error er =>
    obtain ⟨_, _, _, _, _, _, _, _, _, _, _, _, z⟩ := hq'
    exact False.elim z
  | ok fl =>
    cases fl with
    | ret u =>
      obtain ⟨z, H2, os2, bare2, un2, hok2, rv, rfl, d, fs, ea, ed, hd1, q2⟩ := hq'
      obtain ⟨h2, g2, d2, t2, os'⟩ := s'
      exact ⟨rv, mk_end (raises_own T.exC T.tyC) I1 hsz kk un2 hok2 os2 bare2 ea ed hd1 q2⟩
    | next => exact False.elim hq'
    | brk => exact False.elim hq'
    | cont => exact False.elim hq'
structure XfI (P : Program) (w0 : World) (K : PySem.W.Frag) (mg : Str → Option Value) (base : Heap) (x : Str) (ini : String) (nw : String) (tl : List Value) (f : Str) : Prop where
  ex : ∃ C fI fd sf y, mg x = some (.ref C) ∧ XoC K C nw tl ∧ PySem.W.findIn K (.ref C) "__init__" = some (some (.ref fI)) ∧ PySem.W.typeIn K (.ref fI) = some (.type "function") ∧ PySem.W.findIn K (.ref C) f = some none ∧ Binds K fd [sf, y] [] ∧ FnOk P w0 K mg base (L2.CX P w0) 1 fI fd [sf, y] (spIni K nw tl f)
def sRaiseF (cn f : Nat) (m : EM) : SM := fun e S => sE (m e S) e fun d S1 => .exc (.exc cn [(f, d)]) e S1
theorem rs_raiseF (cn fn : Nat) (c : Cg X W k) (Y : Fam B nw ini tl) (hF : XfI X.prog X.w X.K X.mg X.base x ini nw tl (fname fn)) (he : RE X W e me) (hk : 2 ≤ k := by decide) (hcn : cname cn = x := by rfl) (hg : Gl X x := by rfl) (hdb : (x == ("__debug__" : Str)) = false := by decide) (hst : starEach [e] X.env = (false, eval e X.env) :: starEach [] X.env := by rfl)
    (hpl : (backTo pos (starEach [] X.env)).any (·.1) = false := by rfl) : RS X W (.Raise (some (.Call (.Name x p) [e] [] pos)) none pos2) (sRaiseF cn fn me) := by
  obtain ⟨C, fI, fd, sf, y, hm, T, iC, tI, hno, hb, F1⟩ := hF.ex
  refine ps_imp (ps_raise c.calm c.tk (pmk_fld T Y iC tI F1 (c.rm.mono hk).r hb hno hg hm (ra_cons he ra_nil (hs := hst)) hdb hst hpl)) ?_
  rintro D s H ⟨w, en, rfl, R, E, P⟩
  refine ⟨w, en, rfl, R, E, ?_⟩
  unfold aCons aNil
  unfold sRaiseF at P
  cases q : me en w.st with
  | stuck => rw [q] at P; exact P
  | exc z S => rw [q] at P; exact fun w1 cls dd x1 R1 st1 rx => P w1 s cls dd x1 R1 st1 (E.ext x1.toEx0) rx
  | ok d S =>
    rw [q] at P
    intro w1 vs x1 R1 st1 rl
    obtain ⟨v, rfl, rv⟩ := rl.one_inv
    refine ⟨v, rfl, fun dx hd => ?_⟩
    have xp := put_ext (o := .xd [(fname fn, v)]) R1 hd
    exact P (w1.put dx (.xd [(fname fn, v)])) s (.ref C) (some dx) (x1.trans xp) (R1.put hd) st1 ((E.ext x1.toEx0).ext xp.toEx0) ⟨cn, C, [(fn, d)], [(fname fn, v)], rfl, by rw [hcn]; exact hm, rfl, .inr ⟨by simp, dx, rfl, put_st R1 hd⟩, .cons (rv.ext xp.toEx0) .nil⟩
end
end G
namespace G
open PySem L2 PySem.Spec PyProof.Rows
def sSuO (oi : Option Nat) (r : SRes) : SRes := match oi with
  | some i => sSu i r
  | none => match r with
    | .exc _ _ _ => .stuck
    | r => r
abbrev HdM := List (Nat → Option Bool) × Option Nat × SM
def setO (e : En) (oi : Option Nat) (d : D) : En := match oi with
  | some i => e.set i (some d)
  | none => e
def hdR : List HdM → Nat → List (Nat × D) → SM
  | [], cn, fs, e, S => .exc (.exc cn fs) e S
  | (ts, oi, n) :: r, cn, fs, e, S => match tbAny ts cn with
    | some true => sSuO oi (n (setO e oi (.exc cn fs)) S)
    | some false => hdR r cn fs e S
    | none => .stuck
def sTryG (hs : List HdM) (m : SM) : SM := fun e S => match m e S with
  | .exc (.exc cn fs) e1 S1 => hdR hs cn fs e1 S1
  | .exc _ _ _ => .stuck
  | r => r
def TbOk (K : PySem.W.Frag) (mg : Str → Option Value) (t : Nat → Option Bool) (c : Value) : Prop := ∀ cn C q, t cn = some q → mg (cname cn) = some (.ref C) → PySem.W.exmOne K (.ref C) c = some q
inductive TbsOk (K : PySem.W.Frag) (mg : Str → Option Value) : List (Nat → Option Bool) → List Value → Prop
  | nil : TbsOk K mg [] []
  | cons {t : Nat → Option Bool} {c : Value} {ts : List (Nat → Option Bool)} {cs : List Value} (h : TbOk K mg t c) (r : TbsOk K mg ts cs) : TbsOk K mg (t :: ts) (c :: cs)
theorem TbsOk.any {K : PySem.W.Frag} {mg : Str → Option Value} {ts : List (Nat → Option Bool)} {cs : List Value} (h : TbsOk K mg ts cs) {cn : Nat} {C : Addr} {q : Bool} (e : tbAny ts cn = some q) (hC : mg (cname cn) = some (.ref C)) : PySem.W.exmAny K (.ref C) cs = some q := by
  induction h generalizing q with
  | nil => exact e
  | @cons t c ts cs h r ih =>
    unfold tbAny at e
    split at e
    · rename_i a b e1 e2
      cases e
      unfold PySem.W.exmAny
      rw [h cn C a e1 hC, ih e2]
    · cases e
end G
namespace G
open PySem L2 PySem.Spec
section
variable {X : Cx} {pins : List (Addr × Obj)} {σ : L2.St} {H : Hp} {s : Shared}
theorem exc_inst {ad C : Addr} {dd : Option Addr} {gs : List (Str × V)} (I : L2.Inv X pins σ H s) (hH : H ad = some (ExcO ad (.ref C) dd)) (hx : (gs = [] ∧ dd = none) ∨ (gs ≠ [] ∧ ∃ x, dd = some x ∧ H x = some (.xd gs))) :
    ∃ o od, PySem.W.InstAt s.heap ad o C od ∧ ∀ n v, gs.lookup n = some v → ∃ u od', od = some od' ∧ RelV v u ∧ PySem.W.lookIn n od' = some (some u) := by
  obtain ⟨⟨o, vs, ho, hc1, hd1, hdt⟩, _⟩ := (show ObjOk X.prog X.w H s.heap ad (ExcO ad (.ref C) dd) from I.hok ad _ hH)
  obtain ⟨oc, od, oda, osl⟩ := o
  dsimp only at hc1 hd1 hdt
  subst hc1 hd1 hdt
  rcases hx with ⟨rfl, rfl⟩ | ⟨_, x, rfl, hd⟩
  · exact ⟨_, none, ⟨ho, rfl, rfl, trivial⟩, fun n v z => by cases z⟩
  · obtain ⟨mA, hns, hr⟩ := (show ObjOk X.prog X.w H s.heap x (.xd gs) from I.hok x _ hd)
    obtain ⟨od, hod, hl⟩ := lookIn_ns hns
    refine ⟨_, some od, ⟨ho, rfl, rfl, hod⟩, fun n v z => ?_⟩
    obtain ⟨u, hu, ru⟩ := RelO.some_of (v := v) (o := mA n) (by rw [← z]; exact hr n)
    exact ⟨u, od, rfl, ru, by rw [hl, hu]⟩
end
def rIsY (K : PySem.W.Frag) : List V → Hp → VK → Prop := fun xs H Q => ∃ (ad C : Addr) (dd : Option Addr) (gs : List (Str × V)) (cv : V) (u : Value) (bb : Bool), xs = [.ref ad, cv] ∧ ClsV cv u ∧ H ad = some (ExcO ad (.ref C) dd) ∧ ((gs = [] ∧ dd = none) ∨ (gs ≠ [] ∧ ∃ x, dd = some x ∧ H x = some (.xd gs))) ∧ ExcC K C ∧ PySem.W.kitOne K (.ref C) u = some bb ∧ Q (.bl bb) H
def rIsYT (K : PySem.W.Frag) : List V → Hp → VK → Prop := fun xs H Q => ∃ (ad C tp : Addr) (dd : Option Addr) (gs : List (Str × V)) (cs : List V) (us : List Value) (bb : Bool), xs = [.ref ad, .ref tp] ∧ H tp = some (.tup cs) ∧ Paired ClsV cs us ∧ H ad = some (ExcO ad (.ref C) dd) ∧ ((gs = [] ∧ dd = none) ∨ (gs ≠ [] ∧ ∃ x, dd = some x ∧ H x = some (.xd gs))) ∧ ExcC K C ∧ PySem.W.kitAny K (.ref C) us = some bb ∧ Q (.bl bb) H
section
variable {X : Cx}
theorem clsSome {K : PySem.W.Frag} {C : Addr} (h : PySem.W.hasDictIn K C = true) : (PySem.W.clsIn K C).isSome = true := by
  obtain ⟨cd, hc, _⟩ := PySem.W.any_some h
  rw [hc]; rfl
theorem call_isY : CallR X (.builtin "isinstance") (rIsY X.K) := by
  intro pins s σ H xs us Q I r h
  obtain ⟨ad, C, dd, gs, cv, u, bb, rfl, k, hH, hx, hC, e, q⟩ := h
  obtain ⟨u1, u2, rfl, r1, r2⟩ := vals2 r
  cases (show u1 = Value.ref ad from r1)
  have e2 := k.eq r2
  subst e2
  obtain ⟨o, od, J, _⟩ := exc_inst I hH hx
  exact PySem.W.kia_one (PySem.W.kitx_exc (clsSome hC.hd) hC.hg hC.hk hC.hs hC.ha hC.hn hC.ht hC.hm) I.kIn J e (fun z => nomatch z) fun tk => ⟨.bl bb, H, I.kept (t' := tk) fun _ _ z => z, rfl, q⟩
theorem call_isYT : CallR X (.builtin "isinstance") (rIsYT X.K) := by
  intro pins s σ H xs us Q I r h
  obtain ⟨ad, C, tp, dd, gs, cs, ws, bb, rfl, hT, k, hH, hx, hC, e, q⟩ := h
  obtain ⟨u1, u2, rfl, r1, r2⟩ := vals2 r
  cases (show u1 = Value.ref ad from r1)
  cases (show u2 = Value.ref tp from r2)
  obtain ⟨o, od, J, _⟩ := exc_inst I hH hx
  obtain ⟨_, its, rv, ob, h1, h2, n, h3⟩ := (show ObjOk X.prog X.w H s.heap tp (.tup cs) from I.hok tp _ hT)
  have e3 := ClsV.all k rv
  subst e3
  obtain ⟨oc, od2, dt, sl⟩ := ob
  simp only at h2 h3
  subst h2 h3
  exact PySem.W.kia_tup (PySem.W.kitx_exc (clsSome hC.hd) hC.hg hC.hk hC.hs hC.ha hC.hn hC.ht hC.hm) I.kIn J h1 e (fun z => nomatch z) fun tk => ⟨.bl bb, H, I.tok tk, rfl, q⟩
end
theorem XfO.plain {w : Wo} {dd : Option Addr} {gs : List (Str × V)} (h : XfO w dd gs) : (gs = [] ∧ dd = none) ∨ (gs ≠ [] ∧ ∃ x, dd = some x ∧ w.hp x = some (.xd gs)) := h.imp id fun ⟨z, x, q, s⟩ => ⟨z, x, q, s.1⟩
section
variable {X : Cx} {W : WX} {a b c e o : Expr} {es : List Expr} {ma mb mc me : EM} {ta tb : TM} {pos : Pos} {x : Str} {p : Pos} {j k : Nat}
def isY (tb : Nat → Option Bool) : D → Option Bool
  | .exc cn _ => tb cn
  | _ => none
def eIsY (tb : Nat → Option Bool) (m : EM) : EM := fun e S => (m e S).bind fun x S1 => lf ((isY tb x).map .bl) S1
theorem re_isY {T : Str} {p2 : Pos} {cv : V} {u : Value} {tb : Nat → Option Bool} (hm : X.mg "isinstance" = none) (ha : RE X W a ma) (hT : PE X (.Name T p2) (tC cv)) (hcv : ClsV cv u) (htb : KtOk X.K X.mg tb u) (hg : Gl X "isinstance" := by rfl)
    (he : starEach (a :: [.Name T p2]) X.env = (false, eval a X.env) :: starEach [.Name T p2] X.env := by rfl) (hpl : (backTo pos (starEach [.Name T p2] X.env)).any (·.1) = false := by rfl) (hs2 : starEach [.Name T p2] X.env = (false, eval (.Name T p2) X.env) :: starEach [] X.env := by rfl) :
    RE X W (.Call (.Name "isinstance" p) [a, .Name T p2] [] pos) (eIsY tb ma) := by
  refine pe_imp (pe_callB call_isY hg hm bt_isinstance (pa_cons ha (pa_cons hT pa_nil hs2) he) (by decide) (by decide) he hpl) ?_
  rintro s H Q ⟨w, en, rfl, R, E, P⟩
  refine ⟨w, en, rfl, R, E, (Post.bind P).imp ?_⟩
  rintro v H1 ⟨w1, d, rfl, X1, R1, rx, P1⟩
  dsimp only at P1
  unfold isY at P1
  split at P1
  · rename_i cn fs
    cases rx with
    | @exc _ C ad dd _ gs hC st hx rf =>
      cases ht : tb cn with
      | none => rw [ht] at P1; exact False.elim P1
      | some q =>
        rw [ht] at P1
        obtain ⟨k1, k2⟩ := htb cn C q ht hC
        exact ⟨ad, C, dd, gs, cv, u, q, rfl, hcv, st.1, hx.plain, k1, k2, Post.now P1 R1 (.bl _)⟩
  · exact False.elim P1
theorem PCs.pa {es : List Expr} {cs : List V} {us : List Value} (h : PCs X es cs us) : PA X es (fun _ H Q => Q cs H) := by
  induction h with
  | nil => exact pa_nil
  | cons hT hcv hs r ih => exact pa_cons hT ih hs
theorem KtsOk.any {K : PySem.W.Frag} {mg : Str → Option Value} {ts : List (Nat → Option Bool)} {cs : List Value} (h : KtsOk K mg ts cs) {cn : Nat} {C : Addr} {q : Bool} (e : tbAny ts cn = some q) (hC : mg (cname cn) = some (.ref C)) : PySem.W.kitAny K (.ref C) cs = some q := by
  induction h generalizing q with
  | nil => exact e
  | @cons t c ts cs h r ih =>
    unfold tbAny at e
    split at e
    · rename_i b1 b2 e1 e2
      cases e
      unfold PySem.W.kitAny
      rw [(h cn C b1 e1 hC).2]
      cases b1 with
      | true => rfl
      | false => exact ih e2
    · cases e
theorem re_isYT {es : List Expr} {cs : List V} {us : List Value} {t0 : Nat → Option Bool} {ts : List (Nat → Option Bool)} {k1 : Nat} {p3 : Pos} (hm : X.mg "isinstance" = none) (ha : RE X W a ma) (hes : PCs X es cs us) (hts : KtsOk X.K X.mg (t0 :: ts) us) (hl : es.length ≤ 100) (hg : Gl X "isinstance" := by rfl)
    (he : starEach (a :: [.Tuple es k1 p3]) X.env = (false, eval a X.env) :: starEach [.Tuple es k1 p3] X.env := by rfl) (hpl : (backTo pos (starEach [.Tuple es k1 p3] X.env)).any (·.1) = false := by rfl) (hs2 : starEach [.Tuple es k1 p3] X.env = (false, eval (.Tuple es k1 p3) X.env) :: starEach [] X.env := by rfl) :
    RE X W (.Call (.Name "isinstance" p) [a, .Tuple es k1 p3] [] pos) (eIsY (tbAny (t0 :: ts)) ma) := by
  refine pe_imp (pe_callB call_isYT hg hm bt_isinstance (pa_cons ha (pa_cons (pe_tup hes.pa) pa_nil hs2) he) (by decide) (by decide) he hpl) ?_
  rintro s H Q ⟨w, en, rfl, R, E, P⟩
  refine ⟨w, en, rfl, R, E, (Post.bind P).imp ?_⟩
  rintro v H1 ⟨w1, d, rfl, X1, R1, rx, P1⟩
  dsimp only at P1
  refine ⟨by rw [hes.len, sizeLine_eq]; omega, fun q hq => ?_⟩
  have xp := put_ext (o := .tup cs) R1 hq
  unfold isY at P1
  split at P1
  · rename_i cn fs
    cases rx.ext xp.toEx0 with
    | @exc _ C ad dd _ gs hC st hx rf =>
      cases ht : tbAny (t0 :: ts) cn with
      | none => rw [ht] at P1; exact False.elim P1
      | some b =>
        rw [ht] at P1
        exact ⟨ad, C, q, dd, gs, cs, us, b, rfl, upd_same, hes.cls, st.1, hx.plain, hts.exc ht hC, hts.any ht hC, P1 (w1.put q (.tup cs)) (.bl b) xp (R1.put hq) rfl (.bl _)⟩
  · exact False.elim P1
def fldY (cs : List Nat) (f : Nat) : D → Option D
  | .exc cn fs => if cs.contains cn then fs.lookup f else none
  | _ => none
def eFldY (cs : List Nat) (f : Nat) (m : EM) : EM := fun e S => (m e S).bind fun x S1 => lf (fldY cs f x) S1
def XcF (K : PySem.W.Frag) (mg : Str → Option Value) (cs : List Nat) (f : Nat) : Prop := ∀ cn C, cs.contains cn = true → mg (cname cn) = some (.ref C) → ExcC K C ∧ PySem.W.findIn K (.ref C) (fname f) = some none
def tXg (K : PySem.W.Frag) (n : Str) (te : TE) : TE := fun σ H Q => te σ H fun x H1 => ∃ (ad C : Addr) (dd : Option Addr) (gs : List (Str × V)) (v : V), x = .ref ad ∧ H1 ad = some (ExcO ad (.ref C) dd) ∧ ((gs = [] ∧ dd = none) ∨ (gs ≠ [] ∧ ∃ x, dd = some x ∧ H1 x = some (.xd gs))) ∧ ExcC K C ∧ PySem.W.findIn K (.ref C) n = some none ∧ gs.lookup n = some v ∧ Q v H1
theorem pe_xg {e : Expr} {te : TE} {n : Str} (he : PE X e te) (hb : attributeBase e n X.env (eval e X.env) = eval e X.env := by rfl) : PE X (.Attribute e n pos) (tXg X.K n te) := by
  refine ⟨fun pins s σ H Q I h => ?_⟩
  refine attr_of hb (thn (he.run pins s σ H _ I h) fun u s1 hh => ?_)
  obtain ⟨z, H1, I1, rx, ad, C, dd, gs, v, rfl, hH, hx, hC, hno, hl, q⟩ := hh
  obtain rfl : u = Value.ref ad := rx
  obtain ⟨o, od, J, hf⟩ := exc_inst I1 hH hx
  obtain ⟨u, od', rfl, ru, hlk⟩ := hf n v hl
  exact HandSPX.exc_get I1.kIn J hC.hg hC.hk hC.hs (PySem.W.findObj_own hC.hd hno rfl hlk) (handed_of ru) ⟨v, H1, I1.tok _, ru, q⟩
theorem re_fldY {cs : List Nat} (f : Nat) (hcl : XcF X.K X.mg cs f) (ha : RE X W a ma) (hf : f < 48 := by decide) (hx : fname f = x := by rfl) (hb : attributeBase a x X.env (eval a X.env) = eval a X.env := by rfl) : RE X W (.Attribute a x pos) (eFldY cs f ma) := by
  refine pe_imp (pe_xg ha hb) ?_
  rintro s H Q ⟨w, en, rfl, R, E, P⟩
  refine ⟨w, en, rfl, R, E, (Post.bind P).imp ?_⟩
  rintro v H1 ⟨w1, d, rfl, X1, R1, rd, P1⟩
  dsimp only at P1
  unfold fldY at P1
  split at P1
  · rename_i cn fs
    split at P1
    · rename_i hc
      cases ql : fs.lookup f with
      | none => rw [ql] at P1; exact False.elim P1
      | some d' =>
        rw [ql] at P1
        cases rd with
        | @exc _ C ad dd _ gs hC st hx' rf =>
          obtain ⟨v', h1, h2⟩ := rf.get hf ql
          obtain ⟨k1, k2⟩ := hcl cn C hc hC
          rw [hx] at h1 k2
          exact ⟨ad, C, dd, gs, v', rfl, st.1, hx'.plain, k1, k2, h1, Post.now P1 R1 h2⟩
    · exact False.elim P1
  · exact False.elim P1
end
end G
namespace G
open PySem L2 PySem.Spec
section
variable {K : PySem.W.Frag}
theorem xoL_ok {C : Addr} {tl : List Value} {nw : String} (h : xoL K C tl nw = true) : ∃ nm q N bs bm sn sub ab col dd k0 k1 k2 k3 k5, K.lookup C = some (excClassObj nm q C N bs bm true sn sub ab col dd k0 k1 k2 k3 k5 nw) ∧ PySem.W.excTail tl bm = true := by
  unfold xoL at h
  split at h
  · rename_i c dd cd sl ho
    obtain ⟨h1, h2⟩ := He.ba h
    have h1 := of_decide_eq_true h1
    subst h1
    unfold xoC at h2
    split at h2
    · rename_i C' bm k0 k1 k2 k3 n k5 hm hs
      obtain ⟨e1, h2⟩ := He.ba h2
      obtain ⟨e2, h2⟩ := He.ba h2
      obtain ⟨e3, h2⟩ := He.ba h2
      obtain ⟨e4, e5⟩ := He.ba h2
      have e1 := of_decide_eq_true e1
      have e2 := of_decide_eq_true e2
      obtain ⟨nm, bs, mro, N, qn, hd, sn, sub, ab, col, del⟩ := cd
      dsimp only at hm e3 e4
      obtain ⟨l⟩ := sl
      dsimp only at hs
      subst e1 e2 e4 hm hs
      have e3 : del = false := by simpa using e3
      subst e3
      exact ⟨nm, qn, N, bs, bm, sn, sub, ab, col, dd, k0, k1, k2, k3, k5, ho, e5⟩
    · cases h2
  · cases h
theorem xoB_ok {x : Str} {tl : List Value} {nw : String} (h : xoB x tl nw K = true) : XoC K (He.ga K x) nw tl := by
  obtain ⟨c1, c⟩ := He.ba h
  obtain ⟨c2, c⟩ := He.ba c
  obtain ⟨c3, c⟩ := He.ba c
  obtain ⟨c4, c5⟩ := He.ba c
  exact ⟨xoL_ok c1, He.eqO_ok c2, of_decide_eq_true c3, of_decide_eq_true c4, c5⟩
theorem iniB_ok {x f : Str} (h : iniB x f K = true) : PySem.W.findIn K (.ref (He.ga K x)) "__init__" = some (some (.ref (He.fAd K (x, some "__init__")))) ∧ PySem.W.typeIn K (.ref (He.fAd K (x, some "__init__"))) = some (.type "function") ∧ PySem.W.findIn K (.ref (He.ga K x)) f = some none := by
  obtain ⟨c1, c⟩ := He.ba h
  obtain ⟨c2, c3⟩ := He.ba c
  exact ⟨He.eqO_ok c1, of_decide_eq_true c2, He.eqO_ok c3⟩
theorem fcB_ok {C : Addr} {ini : String} (h : fcB K C ini = true) : PySem.W.findCls K (.ref C) (.type "type") "__init__" = some (.val (.builtin ini)) := by
  unfold fcB at h
  split at h
  · rename_i n e
    rw [e, of_decide_eq_true h]
  · cases h
theorem hdB_ok {x : Str} {ini : String} (h : hdB x ini K = true) : HdC K (He.ga K x) ini := by
  obtain ⟨c1, c⟩ := He.ba h
  obtain ⟨c2, c⟩ := He.ba c
  obtain ⟨c3, c4⟩ := He.ba c
  exact ⟨He.eqO_ok c1, c2, fcB_ok c3, c4⟩
theorem xcf_at {h : Heap} {mg : Str → Option Value} (X : K.In h) (Y : h.Ns mainGlobals mg) {f : Nat} {cs : List Nat} (c : xcfB f cs K = true) : XcF K mg cs f := by
  intro cn C hc hC
  have m : cn ∈ cs := by simpa using hc
  obtain ⟨g1, g2⟩ := He.ba (List.all_eq_true.mp c cn m)
  obtain ⟨g3, g4⟩ := He.ba g2
  have g := glo_one X Y g1
  rw [g] at hC
  cases hC
  exact ⟨exqB_ok g3, He.eqO_ok g4⟩
end
end G
namespace G
open PySem L2 PySem.Spec
def isTyO (S : Store) (y : Ty) (d : D) : Option Bool := match tyD S d with
  | some t => some (t.is y)
  | none => match insD S d with
    | some (c, _) => if ownCs.contains c then some false else none
    | none => none
section
variable {X : Cx} {W : WX} {a b c e o : Expr} {es : List Expr} {ma mb mc me : EM} {pos : Pos} {x : Str} {p : Pos} {j k : Nat}
def eIsTyO (y : Ty) (m : EM) : EM := fun e S => (m e S).bind fun x S1 => lf ((isTyO S1 y x).map .bl) S1
end
end G
namespace G
open PySem L2
variable {X : Cx} {W : WX} {a b c o e : Expr} {es : List Expr} {pos : Pos} {ma mb : EM}
def rangeN (lo : Int) (n : Nat) : List D := (List.range n).map fun k => .int (lo - (k : Nat))
open Classical in
noncomputable def iRgN (m : AM) : AM := fun e S => (m e S).bind fun ds S1 => match ds with
  | [.int i, .int j, .int (.negSucc 0)] => if -(2 ^ 62) ≤ i ∧ i < 2 ^ 62 ∧ -(2 ^ 62) ≤ j ∧ j < 2 ^ 62 then .ok (rangeN i (i - j).toNat) S1 else .stuck
  | _ => .stuck
def eTm (f : Store → D → List D → Option D) (a : EM) (m : AM) : EM := fun e S => (a e S).bind fun x S1 => match x with
  | .str z => (m e S1).bind fun xs S2 => lf (f S2 (.str z) xs) S2
  | _ => .stuck
theorem re_tm {name : Str} {id : String} {f : Store → D → List D → Option D} {m : AM} {apos : Pos} (hm : MtR X id (MtX X f)) (slot : Slot "str" name id) (hty : typeOf (.builtin id) = pure (.type "method_descriptor")) (ho : RE X W o ma) (ha : RA X W (e :: es) m)
    (hbase : attributeBase o name X.env (eval o X.env) = eval o X.env := by rfl)
    (hfew : ((backTo pos (starEach (e :: es) X.env)).all (fun x => !x.1) && (backToKw pos (keywordEach [] X.env)).all (fun x => x.1.isSome) && decide ((e :: es).length + ([] : List Keyword).length + (if ([] : List Keyword).isEmpty then 0 else 1) < 30)) = true := by rfl)
    (hline : (apos.endLine == pos.line) = true := by rfl) (hs : starEach (e :: es) X.env = (false, eval e X.env) :: starEach es X.env := by rfl) (hpl : (backTo pos (starEach es X.env)).any (·.1) = false := by rfl) :
    RE X W (.Call (.Attribute o name apos) (e :: es) [] pos) (eTm f ma m) := by
  refine pe_imp (pe_bm PySem.F.plainAttrs_str slot hty hm ho ha hbase hfew hline hs hpl) ?_
  rintro s H Q ⟨w, en, rfl, R, E, P⟩
  refine ⟨w, en, rfl, R, E, (Post.bind P).imp ?_⟩
  rintro v H1 ⟨w1, d, rfl, X1, R1, rd, P1⟩
  dsimp only at P1
  split at P1
  · cases rd
    refine ⟨rfl, w1, en, rfl, R1, E.ext X1.toEx0, (Post.bind P1).imp ?_⟩
    rintro us H2 ⟨w2, xs, rfl, X2, R2, rl, P2⟩
    exact ⟨w2, _, xs, _, rfl, R2, .str _, rl, P2⟩
  · exact False.elim P1
def fJoin (S : Store) (x : D) (xs : List D) : Option D := match x, xs with
  | .str a, [d] => (seqD S d).bind fun l => (strsD l).bind fun ys => if (ys.map (·.length)).sum + ys.length * a.length ≤ 16777216 then some (.str (Str.join a ys)) else none
  | _, _ => none
theorem tm_join : MtR X "str.join" (MtX X fJoin) := by
  intro pins s σ H x xs v us Q I rx rxs h
  obtain ⟨w, d, ds, E, rfl, R, rd, rl, P⟩ := h
  unfold fJoin at P
  split at P
  · rename_i a d2
    cases rd
    obtain ⟨u, rfl, ru⟩ := rl.one_inv
    cases e1 : seqD w.st d2 with
    | none => rw [e1] at P; exact False.elim P
    | some l =>
      rw [e1] at P
      cases e2 : strsD l with
      | none => rw [Option.bind_some, e2] at P; exact False.elim P
      | some ys =>
        rw [Option.bind_some, e2, Option.bind_some] at P
        split at P
        · rename_i hz
          obtain ⟨ad, vs, rfl, hs, hl⟩ := ru.seq R e1
          rw [hl.strs e2] at hs
          refine mt_join pins s σ w.hp _ _ v us Q I rx rxs ⟨a, ad, ys, rfl, rfl, .inl hs, hz, ?_⟩
          have e3 : Txt.join a ys = Str.join a ys := TL.join_eq a ys
          rw [e3]
          exact Post.now P R (.str _)
        · exact False.elim P
  · exact False.elim P
end G
namespace G
open PySem L2 PySem.Spec
end G
namespace G
open PySem L2 PySem.Spec
end G
namespace G
open PySem L2 PySem.Spec
end G
namespace G
open PySem L2 PySem.Spec PyProof.Rows
end G
namespace G
open PySem L2 PySem.Spec PyProof.Rows
def keyOf : Key → D
  | .inl i => .int i
  | .inr x => .str x
def fkD (S : Store) : D → Option (List (Key × D))
  | .loc n => match S[n]? with
    | some (.fk l) => some l
    | _ => none
  | _ => none
def fsD (S : Store) : D → Option (List (List Int))
  | .loc n => match S[n]? with
    | some (.fs l) => some l
    | _ => none
  | _ => none
def iDv (m : EM) : AM := fun e S => (m e S).bind fun d S1 => match fkD S1 d with
  | some l => .ok (l.map fun kv => kv.2) S1
  | none => .stuck
def iDi (m : EM) : AM := fun e S => (m e S).bind fun d S1 => match fkD S1 d with
  | some l => .ok (l.map fun kv => .tup [keyOf kv.1, kv.2]) S1
  | none => .stuck
def iDk (m : EM) : AM := fun e S => (m e S).bind fun d S1 => match fkD S1 d with
  | some l => .ok (l.map fun kv => keyOf kv.1) S1
  | none => .stuck
def intsD (k : List Int) : D := .tup (k.map D.int)
def iTk (m : EM) : AM := fun e S => (m e S).bind fun d S1 => match fsD S1 d with
  | some l => .ok (l.map intsD) S1
  | none => .stuck
section
variable {K : PySem.W.Frag} {mg : Str → Option Value} {w : Wo}
theorem RepD.keyOf (k : Key) : RepD K mg w (G.keyOf k) (kV k) := by
  cases k with
  | inl i => exact .int i
  | inr x => exact .str x
theorem RepK.getV {κ : Type} {kvs : List (κ × D)} {us : List (κ × V)} {i : Nat} {k : κ} {v : V} : RepK κ K mg w kvs us → us[i]? = some (k, v) → ∃ d, kvs[i]? = some (k, d) ∧ RepD K mg w d v
  | .nil, h => by simp at h
  | .cons r t, h => by
    cases i with
    | zero => simp at h; obtain ⟨rfl, rfl⟩ := h; exact ⟨_, by simp, r⟩
    | succ i =>
      obtain ⟨d, e, q⟩ := RepK.getV (i := i) t (by simpa using h)
      exact ⟨d, by simpa using e, q⟩
end
end G
namespace G
open PySem L2 PySem.Spec
end G
namespace G
open PySem L2 PySem.Spec
def addK (ks : List (List Int)) (k : List Int) : List (List Int) := if k ∈ ks then ks else ks ++ [k]
def intsL : List D → Option (List Int)
  | [] => some []
  | .int i :: r => (intsL r).map (i :: ·)
  | _ => none
def intsK : D → Option (List Int)
  | .tup l => intsL l
  | _ => none
open Classical in
noncomputable def dcR (ck : Store → Prop) (g : Tg) (t : TM) (m : EM) (e : En) : List D → List (List Int) → Store → Res (List (List Int))
  | [], acc, S => if ck S then .ok acc S else .stuck
  | d :: ds, acc, S => if ck S then match g.m d e with
    | some e1 => (noX (t e1 S)).bind fun b S2 => if b then (noX (m e1 S2)).bind fun y S3 => match intsK y with
      | some k => if acc.length < sizeLine then dcR ck g t m e ds (addK acc k) S3 else .stuck
      | none => .stuck
      else dcR ck g t m e ds acc S2
    | none => .stuck else .stuck
def finT : List (List Int) → Store → Res D := fun acc S => .ok (.loc S.length) (S ++ [.ts acc])
noncomputable def eDcT (i : CM) (g : Tg) (t : TM) (m : EM) (vs : List Nat) : EM := fun e S => (i e S).bind fun p S1 => (dcR (okC p) g t m (wipeE e vs) p.1 [] S1).bind finT
section
variable {K : PySem.W.Frag} {mg : Str → Option Value} {w w1 : Wo}
theorem shown (R1 : Rep K mg w1) {p : Addr} (hp : w1.hp p = none) (R : Rep K mg w) (x1 : Ex0 w1 w) (hh : w.hid = p :: w1.hid) (hk : Kp w1 w) {o : HO} (hu : w.hp p = some o) {c : Cell}
    (hc : ∀ w2, Ex0 w w2 → w2.hp = w.hp → CellR K mg w2 p c) : ∃ w2 : Wo, w2.hp = w.hp ∧ w2.st = w.st ++ [c] ∧ Ext w1 w2 ∧ Rep K mg w2 ∧ w2.al[w.st.length]? = some p := by
  have hpa : p ∉ w.al := (R.hid p (by rw [hh]; exact List.mem_cons_self)).1
  have hph : p ∉ w1.hid := R1.not_hid hp
  have xn : Ex0 w ⟨w.al ++ [p], w.st ++ [c], w.hp, w1.hid⟩ := by
    refine ⟨⟨[p], rfl⟩, fun a h => ?_, fun a u h _ => h, fun a u h => ⟨u, h⟩⟩
    rcases h with ⟨n, c', h1, h2, h3⟩ | h
    · by_cases hl : n < w.al.length
      · rw [List.getElem?_append_left hl] at h1
        rw [List.getElem?_append_left (by rw [← R.len]; exact hl)] at h2
        exact .inl (.inl ⟨n, c', h1, h2, h3⟩)
      · have e : n = w.al.length := by
          have := (List.getElem?_eq_some_iff.mp h1).1
          simp at this; omega
        subst e
        simp at h1
        subst h1
        exact .inl (.inr (by rw [hh]; exact List.mem_cons_self))
    · exact .inl (.inr (by rw [hh]; exact List.mem_cons_of_mem _ h))
  refine ⟨⟨w.al ++ [p], w.st ++ [c], w.hp, w1.hid⟩, rfl, rfl, ⟨x1.trans xn, rfl, hk.kh, hk.fz.trans x1.al fun n a c' h1 h2 _ => ⟨?_, rfl⟩⟩, ⟨?_, ?_, fun a h => ?_, fun n a c' h1 h2 => ?_, fun a h => ?_⟩, ?_⟩
  · show (w.st ++ [c])[n]? = _
    rw [List.getElem?_append_left (List.getElem?_eq_some_iff.mp h2).1]; exact h2
  · show (w.al ++ [p]).length = (w.st ++ [_]).length
    rw [List.length_append, List.length_append, R.len]; rfl
  · show (w.al ++ [p]).Nodup
    refine List.nodup_append.mpr ⟨R.nd, by simp, fun a ha b hb => ?_⟩
    rw [List.mem_singleton.mp hb]
    exact fun z => hpa (z ▸ ha)
  · rcases List.mem_append.mp h with h | h
    · exact R.tr a h
    · rw [List.mem_singleton.mp h]; exact ⟨_, hu⟩
  · by_cases hl : n < w.al.length
    · have h1 : (w.al ++ [p])[n]? = some a := h1
      have h2 : (w.st ++ [c])[n]? = some c' := h2
      rw [List.getElem?_append_left hl] at h1
      rw [List.getElem?_append_left (by rw [← R.len]; exact hl)] at h2
      exact (R.cell n a c' h1 h2).ext xn rfl
    · have h1 : (w.al ++ [p])[n]? = some a := h1
      have h2 : (w.st ++ [c])[n]? = some c' := h2
      have e : n = w.al.length := by
        have := (List.getElem?_eq_some_iff.mp h1).1
        simp at this; omega
      subst e
      simp at h1
      subst h1
      rw [R.len] at h2
      simp at h2
      subst h2
      exact hc _ xn rfl
  · obtain ⟨q1, q2⟩ := R.hid a (by rw [hh]; exact List.mem_cons_of_mem _ h)
    refine ⟨fun z => ?_, q2⟩
    rcases List.mem_append.mp z with z | z
    · exact q1 z
    · rw [List.mem_singleton.mp z] at h; exact hph h
  · show (w.al ++ [p])[w.st.length]? = some p
    rw [← R.len]; simp
end
end G
namespace G
open PySem L2 PySem.Spec
def unK (l m : List (List Int)) : List (List Int) := m.foldl addK l
section
variable {X : Cx} {W : WX} {a b c e o f kx : Expr} {ma mb mc mk : EM} {pos apos cpos pb : Pos} {jb : Nat} {td ty tk : TE}
def eTs1 (mk : EM) : EM := fun e S => (mk e S).bind fun d S1 => match intsK d with
  | some k => .ok (.loc S1.length) (S1 ++ [.ts [k]])
  | none => .stuck
def tsD (S : Store) : D → Option (Nat × List (List Int))
  | .loc n => match S[n]? with
    | some (.ts l) => some (n, l)
    | _ => none
  | _ => none
def uR (S : Store) (x y : D) : Res D := match tsD S x, tsD S y with
  | some (n, l), some (k, m) => if n ≠ k ∧ l ≠ [] ∧ l.length + m.length ≤ 1000 then .ok .non (S.set n (.ts (unK l m))) else .stuck
  | _, _ => .stuck
def eTsU (mo ma : EM) : EM := fun e S => (mo e S).bind fun x S1 => if (tsD S1 x).isSome = true then (ma e S1).bind fun y S2 => uR S2 x y else .stuck
end
end G
namespace G
open PySem L2 PySem.Spec PyProof.Rows SrtO
section
variable {X : Cx} {W : WX}
inductive Rep3 (K : PySem.W.Frag) (mg : Str → Option Value) (w : Wo) : List (D × V × Value) → Prop where
  | nil : Rep3 K mg w []
  | cons {d : D} {v : V} {u : Value} {l : List (D × V × Value)} : RepD K mg w d v → RelV v u → Rep3 K mg w l → Rep3 K mg w ((d, v, u) :: l)
theorem Rep3.mem {K : PySem.W.Frag} {mg : Str → Option Value} {w : Wo} {L : List (D × V × Value)} (h : Rep3 K mg w L) : ∀ x, x ∈ L → RepD K mg w x.1 x.2.1 ∧ RelV x.2.1 x.2.2 := by
  induction h with
  | nil => exact fun x h => nomatch h
  | cons r q t ih =>
    intro x hx
    rcases List.mem_cons.mp hx with rfl | hx
    · exact ⟨r, q⟩
    · exact ih x hx
end
end G
namespace G
open PySem L2 PySem.Spec
section
variable {X : Cx} {W : WX} {a b c e o f : Expr} {es : List Expr} {ma mb mc me : EM} {pos apos cpos tpos : Pos} {x : Str}
def gFl (cs : List Nat) (f : Nat) (o : EM) : GM := fun d e S => (noX (o e S)).bind fun x S1 => match stF cs f S1 x d with
  | some S2 => .ok e S2
  | none => .stuck
def sAsg2 (m : EM) (g1 g2 : GM) : SM := fun e S => sE (m e S) e fun d S1 => sE (g1 d e S1) e fun e1 S2 => sE (g2 d e1 S2) e1 fun e2 S3 => .nxt e2 S3
def sAsg3 (m : EM) (g1 g2 g3 : GM) : SM := fun e S => sE (m e S) e fun d S1 => sE (g1 d e S1) e fun e1 S2 => sE (g2 d e1 S2) e1 fun e2 S3 => sE (g3 d e2 S3) e2 fun e3 S4 => .nxt e3 S4
def augI (j : Int) (S : Store) (x y : D) (cs : List Nat) (f : Nat) : Option Store := match y with
  | .int i => stF cs f S x (.int (i + j))
  | _ => none
def sFldA (j : Int) (cs : List Nat) (f : Nat) (o : EM) : SM := fun e S => sE (o e S) e fun x S1 => match fldD cs f S1 x with
  | some y => stR (augI j S1 x y cs f) e
  | none => .stuck
def dsR (S : Store) (x y z : D) : Res D := match dkD S x, keyD y with
  | some (n, kvs), some k => match valD kvs k with
    | some d => if kvs.length < sizeLine then .ok d S else .stuck
    | none => if kvs.length < sizeLine then .ok z (S.set n (.dk (putKD kvs k z))) else .stuck
  | _, _ => .stuck
def eDSetd (mo my mx : EM) : EM := fun e S => (mo e S).bind fun x S1 => if (dkD S1 x).isSome = true then (my e S1).bind fun y S2 => (mx e S2).bind fun z S3 => dsR S3 x y z else .stuck
end
end G
namespace G
open PySem L2 PySem.Spec
section
variable {X : Cx} {W : WX} {a b c e o f : Expr} {es : List Expr} {ma mb mc me : EM} {pos apos cpos tpos : Pos} {x : Str}
inductive DispR (X : Cx) : List (Option Expr) → List Expr → List Str → AM → Prop where
  | nil : DispR X [] [] [] aNil
  | cons {k : Str} {j} {p : Pos} {v : Expr} {mv : EM} {ks : List (Option Expr)} {vs : List Expr} {xs : List Str} {m : AM} : RE X W0 v mv → DispR X ks vs xs m → DispR X (some (.Constant (.str k) j p) :: ks) (v :: vs) (k :: xs) (aCons mv m)
theorem DispR.lens {ks : List (Option Expr)} {vs : List Expr} {xs : List Str} {m : AM} (h : DispR X ks vs xs m) : ks.all (·.isSome) = true ∧ ks.length = vs.length ∧ ks.length = xs.length := by
  induction h with
  | nil => exact ⟨rfl, rfl, rfl⟩
  | cons _ _ ih => exact ⟨by simp [ih.1], by simp [ih.2.1], by simp [ih.2.2]⟩
theorem disp_pps {ks : List (Option Expr)} {vs : List Expr} {xs : List Str} {m : AM} (h : DispR X ks vs xs m) : ∃ trs, PPs X pos ks vs trs ∧
    ∀ (s : L2.St) (w : Wo) (en : En) (Q : List (V × V) → Hp → Prop), Rep X.K X.mg w → RepE X.K X.mg w en s → Post (RepL X.K X.mg) X.K X.mg w (m en w.st) (fun us H' => Q ((xs.map V.str).zip us) H') (fun _ _ _ => False) → tPairs trs s w.hp Q := by
  induction h with
  | nil =>
    refine ⟨[], pps_nil, fun s w en Q R E P => ?_⟩
    exact Post.now (Rl := RepL X.K X.mg) (Q := fun us H' => Q ((List.map V.str []).zip us) H') P R RepL.nil
  | @cons k j p v mv ks vs xs m hv _ ih =>
    obtain ⟨trs, hp, hr⟩ := ih
    refine ⟨(tC (.str k), tG (RepD X.K X.mg) X W0 mv) :: trs, pps_cons pe_str hv hp, fun s w en Q R E P => ?_⟩
    refine ⟨w, en, rfl, R, E, (Post.bind P).imp ?_⟩
    rintro y H1 ⟨w1, d, rfl, X1, R1, rd, P1⟩
    refine hr s w1 en _ R1 (E.ext X1.toEx0) ((Post.bind P1).imp ?_)
    rintro us H2 ⟨w2, ds, rfl, X2, R2, rds, P2⟩
    exact Post.now (Rl := RepL X.K X.mg) (Q := fun us H' => Q ((List.map V.str (k :: xs)).zip us) H') P2 R2 (RepL.cons (rd.ext X2.toEx0) rds)
theorem putK_new {kvs : List (Key × V)} {k : Key} {v : V} (h : k ∉ kvs.map (·.1)) : putK kvs k v = kvs ++ [(k, v)] := by
  unfold putK
  rw [if_neg]
  intro z
  obtain ⟨p, hp, e⟩ := List.any_eq_true.mp z
  exact h (List.mem_map.mpr ⟨p, hp, by simpa using e⟩)
theorem mergeK_new : ∀ (more kvs : List (Key × V)), (kvs.map (·.1) ++ more.map (·.1)).Nodup → mergeK kvs more = kvs ++ more
  | [], kvs, _ => by show kvs = kvs ++ []; rw [List.append_nil]
  | p :: r, kvs, h => by
    show mergeK (putK kvs p.1 p.2) r = _
    have hn : p.1 ∉ kvs.map (·.1) := fun z => (List.nodup_append.mp h).2.2 _ z _ List.mem_cons_self rfl
    rw [putK_new hn, mergeK_new r _ (by rw [List.map_append, List.append_assoc]; exact h), List.append_assoc]; rfl
def strK (xs : List Str) : List Key := xs.map .inr
def eDisp (xs : List Str) (m : AM) : EM := fun e S => (noX (m e S)).bind fun ds S1 => .ok (.loc S1.length) (S1 ++ [.dk ((strK xs).zip ds)])
theorem zip_kV : ∀ (xs : List Str) (us : List V), (xs.map V.str).zip us = ((strK xs).zip us).map fun kv => (kV kv.1, kv.2)
  | [], us => rfl
  | _ :: _, [] => rfl
  | x :: xs, u :: us => by
    show (V.str x, u) :: (xs.map V.str).zip us = _ :: ((strK xs).zip us).map _
    rw [zip_kV xs us]; rfl
theorem zip_sub {α β : Type} : ∀ (l : List α) (m : List β), ((l.zip m).map (·.1)).Sublist l
  | [], _ => .slnil
  | a :: l, [] => List.nil_sublist _
  | a :: l, b :: m => (zip_sub l m).cons₂ a
theorem re_disp {ks : List (Option Expr)} {vs : List Expr} {xs : List Str} {m : AM} (h : DispR X ks vs xs m) (h0 : ks ≠ []) (h15 : ks.length ≤ 15) (hnd : (strK xs).Nodup) : RE X W (.Dict ks vs pos) (eDisp xs m) := by
  obtain ⟨l1, l2, l3⟩ := h.lens
  obtain ⟨trs, hp, hr⟩ := disp_pps (pos := pos) h
  refine pe_imp (pe_disp hp l1 l2 h0 h15) ?_
  rintro s H Q ⟨w, en, rfl, R, E, P⟩
  intro p hpn
  refine hr s (w.hide p (.dK [])) en _ (R.hide hpn) (E.ext (hide_ex R hpn)) ?_
  show Post _ _ _ _ (m en w.st) _ _
  unfold eDisp at P
  cases hm : m en w.st with
  | exc d S => rw [hm] at P; exact False.elim P
  | stuck => rw [hm] at P; exact False.elim P
  | ok ds S =>
    rw [hm] at P
    intro w2 us x2 R2 st2 rds
    have hh : w2.hid = p :: w.hid := x2.hid
    have hup : w2.hp p = some (.dK []) := (x2.kh p (by show p ∈ p :: w.hid; exact List.mem_cons_self)).trans upd_same
    have pm : p ∈ w2.hid := by rw [hh]; exact List.mem_cons_self
    have xh := hide_ex (o := .dK []) R hpn
    have xg := gro_ex (o := .dK ((strK xs).zip us)) pm
    have kp : Kp w (w2.gro p (.dK ((strK xs).zip us))) := by
      refine ⟨fun a ha => ?_, ((hide_fz R hpn).trans xh.al x2.fz).trans (xh.trans x2.toEx0).al (gro_fz R2 pm)⟩
      have na : a ≠ p := fun z => by
        subst z
        obtain ⟨_, o, ho⟩ := R.hid a ha
        rw [hpn] at ho; cases ho
      refine Eq.trans (show upd w2.hp p _ a = w2.hp a from upd_ne na) ((x2.kh a (List.mem_cons_of_mem _ ha)).trans ?_)
      exact upd_ne na
    have aux : ∀ us' : List V, RepL X.K X.mg w2 ds us' → ((strK xs).zip us').length ≤ 15 := fun us' _ => by
      rw [List.length_zip]
      have : (strK xs).length = xs.length := by unfold strK; rw [List.length_map]
      omega
    have em : mergeK [] ((strK xs).zip us) = (strK xs).zip us := mergeK_new _ _ (by
      rw [List.map_nil, List.nil_append]
      exact List.Nodup.sublist (zip_sub _ _) hnd)
    refine ⟨hup, (strK xs).zip us, zip_kV xs us, aux us rds, ?_⟩
    rw [em]
    obtain ⟨w3, e1, e2, X3, R3, hal⟩ := shown (c := .dk ((strK xs).zip ds)) R hpn (R2.gro pm) ((xh.trans x2.toEx0).trans xg) hh kp upd_same fun w3 x3 e3 => ⟨_, by rw [e3]; exact upd_same, RepK.zip ((rds.ext xg).ext x3)⟩
    have st2' : w2.st = S := st2
    replace hal : w3.al[w2.st.length]? = some p := hal
    replace e2 : w3.st = w2.st ++ [.dk ((strK xs).zip ds)] := e2
    rw [st2'] at hal e2
    have := P w3 (.ref p) X3 R3 e2 (.loc hal)
    rw [e1] at this
    exact this
end
end G
namespace G
open PySem L2 PySem.Spec PyProof.Rows PySem.SeqAt
end G
namespace G
open PySem L2 PySem.Spec PyProof.Rows PySem.SeqAt PySem.W
def hitD (S : Store) (kvs' : List (Key × D)) : List (Key × D) → Option Bool
  | [] => some true
  | (k, d) :: r => match valD kvs' k with
    | none => some false
    | some d' => match eqS S d d', hitD S kvs' r with
      | some e, some b => some (e && b)
      | _, _ => none
def eqRm (co : Option Nat) (S : Store) : D → D → Option Bool
  | .loc n, .loc m => if n = m then some true else match S[n]?, S[m]? with
    | some (.obj c _), some (.obj c' _) => if co = some c ∧ c' = c then some false else none
    | some (.dk a), some (.dk b) => (hitD S b a).map fun r => a.length == b.length && r
    | _, _ => none
  | _, _ => none
def rmI (co : Option Nat) (S : Store) (x : D) : List D → Option Nat
  | [] => none
  | d :: l => match eqRm co S d x with
    | some true => some 0
    | some false => (rmI co S x l).map (· + 1)
    | none => none
def rmR (co : Option Nat) (x : D) (xs : List D) (S : Store) : Res D := match x, xs with
  | .loc n, [y] => match S[n]? with
    | some (.lst l) => match rmI co S y l with
      | some j => .ok .non (S.set n (.lst (l.eraseIdx j)))
      | none => .stuck
    | _ => .stuck
  | _, _ => .stuck
def eRem (co : Option Nat) (a : EM) (m : AM) : EM := fun e S => (a e S).bind fun x S1 => if isLst S1 x then (m e S1).bind fun xs S2 => rmR co x xs S2 else .stuck
end G
namespace G
open PySem L2 PySem.Spec PyProof.Rows
end G
namespace G
open PySem L2 PySem.Spec PyProof.Rows
section
variable {X : Cx} {W : WX} {a b c e o : Expr} {es : List Expr} {ma mb mc me : EM} {ta tb : TM} {pos : Pos} {x : Str} {p : Pos} {j k : Nat} {ps ks : List Str} {f : FM}
def sPar3 (i j l : Nat) (m : AM) : SM := fun e S => sE (m e S) e fun ds S1 => match ds with
  | [x, y, z] => .nxt (((e.set i (some x)).set j (some y)).set l (some z)) S1
  | _ => .stuck
end
end G
namespace G
open PySem L2 PySem.Spec PyProof.Rows PySem.SeqAt
end G
namespace G
open PySem L2 PySem.Spec
end G
namespace G
open PySem PySem.W
end G
namespace G
open PySem L2 PySem.Spec PyProof.Rows
end G
namespace G
open PySem PySem.W HandSHeadRun
end G
namespace G
open PySem L2 PySem.Spec PyProof.Rows
def eEqO (neg : Bool) (cn : Nat) (f : FM) (gD : List D → List D → List D) (a b : EM) : EM := fun e S => (a e S).bind fun x S1 => (b e S1).bind fun y S2 => eqO neg cn f gD x y S2
end G
namespace G
open PySem L2 PySem.Spec PyProof.Rows
def insR (x : D) (xs : List D) (S : Store) : Res D := match x, xs with
  | .loc n, [.int i, y] => match S[n]? with
    | some (.lst l) => if l.length < sizeLine ∧ 0 ≤ i ∧ i < 2 ^ 62 then .ok .non (S.set n (.lst (l.take i.toNat ++ [y] ++ l.drop i.toNat))) else .stuck
    | _ => .stuck
  | _, _ => .stuck
def eIns (a : EM) (m : AM) : EM := fun e S => (a e S).bind fun x S1 => if isLst S1 x then (m e S1).bind fun xs S2 => insR x xs S2 else .stuck
end G
namespace G
open PySem L2 PySem.Spec PyProof.Rows
end G
namespace G
open PySem L2 PySem.Spec PyProof.Rows
structure TabK (K : PySem.W.Frag) (w0 : World) (mg : Str → Option Value) (x : Str) (kvs : List (Str × D)) : Prop where
  ex : ∃ a es n, mg x = some (.ref a) ∧ L2.KDict K w0 a es n ∧ (∀ z d, kvs.lookup z = some d → ∃ u v, PySem.W.nsIn K a z = some (some u) ∧ RelV v u ∧ ∀ wo, RepD K mg wo d v) ∧ ∀ z, kvs.lookup z = none → PySem.W.nsIn K a z = some none
structure TabG (K : PySem.W.Frag) (w0 : World) (mg : Str → Option Value) (x : Str) (ks : List (Str × Str)) : Prop where
  ex : ∃ a es n, mg x = some (.ref a) ∧ L2.KDict K w0 a es n ∧ ∀ z g, ks.lookup z = some g → ∃ f, PySem.W.nsIn K a z = some (some (.ref f)) ∧ mg g = some (.ref f)
def eTabIx (kvs : List (Str × D)) (mb : EM) : EM := fun e S => (mb e S).bind fun x S1 => match x with
  | .str z => lf (kvs.lookup z) S1
  | _ => .stuck
def eTabIn (neg : Bool) (kvs : List (Str × D)) (mb : EM) : EM := fun e S => (mb e S).bind fun x S1 => match x with
  | .str z => .ok (.bl (if neg = true then !(kvs.lookup z).isSome else (kvs.lookup z).isSome)) S1
  | _ => .stuck
def sTabCall (i : Nat) (fs : List (Str × Nat × FM)) (mb : EM) (mp : AM) : SM := fun e S => sE (mb e S) e fun x S1 => match x with
  | .str z => match fs.lookup z with
    | some q => if i < e.length then sE (mp e S1) (e.set i none) fun ds S2 => if ds.length = q.1 then sE (q.2 ds S2) (e.set i none) fun d S3 => .ret d S3 else .stuck else .stuck
    | none => .stuck
  | _ => .stuck
section
variable {X : Cx} {W : WX} {a b c e o : Expr} {es : List Expr} {ma mb mc me : EM} {ta tb : TM} {pos : Pos} {x : Str} {p : Pos} {j k : Nat} {ps ks : List Str} {f : FM} {kvs : List (Str × D)}
theorem re_tabIx (T : TabK X.K X.w X.mg x kvs) (hb : RE X W b mb) (hg : Gl X x := by rfl) (hs : PlainIx b := by intro _ _; rfl) (hd : (x == ("__debug__" : Str)) = false := by decide) : RE X W (.Subscript (.Name x p) b pos) (eTabIx kvs mb) := by
  obtain ⟨a, es, n, hm, D, h1, _⟩ := T.ex
  refine pe_imp (pe_ix ix_kdict (pe_glob (v := .ref a) hg hm rfl hd) hb hs) ?_
  rintro s H Q ⟨w, en, rfl, R, E, P⟩
  refine ⟨w, en, rfl, R, E, (Post.bind P).imp ?_⟩
  rintro v H1 ⟨w1, d, rfl, X1, R1, rx, P1⟩
  cases d with
  | str z =>
    cases rx
    dsimp only at P1
    cases q : kvs.lookup z with
    | none => rw [q] at P1; exact False.elim P1
    | some d =>
      rw [q] at P1
      obtain ⟨u, v, e1, rv, rd⟩ := h1 z d q
      exact ⟨a, z, v, rfl, rfl, ⟨es, n, u, D.at_, D.lit, e1, rv⟩, Post.now P1 R1 (rd w1)⟩
  | _ => exact False.elim P1
theorem t_tabIn {neg : Bool} {a : Addr} {es : Array DictEntry} {n : Nat} (D : L2.KDict X.K X.w a es n) (h1 : ∀ z d, kvs.lookup z = some d → ∃ u v, PySem.W.nsIn X.K a z = some (some u) ∧ RelV v u ∧ ∀ wo, RepD X.K X.mg wo d v) (h2 : ∀ z, kvs.lookup z = none → PySem.W.nsIn X.K a z = some none) :
    ∀ s H Q, tG (RepD X.K X.mg) X W (eTabIn neg kvs mb) s H Q → tOp (fun x y H Q => ∃ (z : Str) (r : Option Value), x = .str z ∧ y = .ref a ∧ PySem.W.nsIn X.K a z = some r ∧ Q (.bl (if neg = true then !r.isSome else r.isSome)) H) (tG (RepD X.K X.mg) X W mb) (tC (.ref a)) s H Q := by
  rintro s H Q ⟨w, en, rfl, R, E, P⟩
  refine ⟨w, en, rfl, R, E, (Post.bind P).imp ?_⟩
  rintro v H1 ⟨w1, d, rfl, X1, R1, rx, P1⟩
  cases d with
  | str z =>
    cases rx
    dsimp only at P1
    cases q : kvs.lookup z with
    | none =>
      rw [q] at P1
      exact ⟨z, none, rfl, rfl, h2 z q, Post.now P1 R1 (.bl _)⟩
    | some d =>
      rw [q] at P1
      obtain ⟨u, v, e1, rv, rd⟩ := h1 z d q
      exact ⟨z, some u, rfl, rfl, e1, Post.now P1 R1 (.bl _)⟩
  | _ => exact False.elim P1
theorem rt_of_tabIn {neg : Bool} {op : CmpOp} {a : Addr} {es : Array DictEntry} {n : Nat} (D : L2.KDict X.K X.w a es n) (h1 : ∀ z d, kvs.lookup z = some d → ∃ u v, PySem.W.nsIn X.K a z = some (some u) ∧ RelV v u ∧ ∀ wo, RepD X.K X.mg wo d v) (h2 : ∀ z, kvs.lookup z = none → PySem.W.nsIn X.K a z = some none)
    (ho : OpR X (compareOp op) (fun x y H Q => ∃ (z : Str) (r : Option Value), x = .str z ∧ y = .ref a ∧ PySem.W.nsIn X.K a z = some r ∧ Q (.bl (if neg = true then !r.isSome else r.isSome)) H)) (hb : RE X W b mb) (hn : PE X c (tC (.ref a))) (hm : behindInMarks op c = false) : RT X W (.Compare b [op] [c] pos) (tB (eTabIn neg kvs mb)) := by
  refine pt_imp (pt_cmpR ho hb hn hm) ?_
  rintro s H Q ⟨w, en, rfl, R, E, P⟩
  refine t_tabIn (neg := neg) D h1 h2 s w.hp _ ⟨w, en, rfl, R, E, (Post.bind P).imp ?_⟩
  rintro v H1 ⟨w1, x, rfl, X1, R1, rx, P1⟩
  cases x with
  | bl b => cases rx; exact ⟨b, rfl, Post.now P1 R1 rfl⟩
  | _ => exact False.elim P1
theorem rt_tabNotIn (T : TabK X.K X.w X.mg x kvs) (hb : RE X W b mb) (hg : Gl X x := by rfl) (hd : (x == ("__debug__" : Str)) = false := by decide) : RT X W (.Compare b [.NotIn] [.Name x p] pos) (tB (eTabIn true kvs mb)) := by
  obtain ⟨a, es, n, hm, D, h1, h2⟩ := T.ex
  exact rt_of_tabIn (neg := true) D h1 h2 (op_notIn_kd D) hb (pe_glob (v := .ref a) hg hm rfl hd) rfl
def tCallF (X : Cx) (W : WX) (k i : Nat) (mp : AM) : TE := fun σ H Q => ∃ (fa : Addr) (fd : FuncData) (ps : List Str) (j : Nat) (f : FM) (w : Wo) (en : En), σ[i]? = some (some (.ref fa)) ∧ PySem.W.keepIn X.K (.ref fa) = true ∧ Binds X.K fd ps [] ∧ FnG X.prog X.w X.K X.mg X.base j fa fd ps (spM X.K X.mg ps.length f) ∧ j ≤ k ∧
  w.hp = H ∧ Rep X.K X.mg w ∧ RepE X.K X.mg w en σ ∧ Post (RepD X.K X.mg) X.K X.mg w ((mp en w.st).bind fun ds S => if ds.length = ps.length then f ds S else .stuck) Q (fun cls dd H' => W cls dd σ H')
theorem pe_callF {i : Nat} {nm : Str} {mp : AM} {p1 p2 : Pos} (c : Cg X W k) (hN : X.N[i]? = some nm) (ha : RA X W (e :: es) mp) (hv : Vis X.env.scope nm := by first | exact .inl rfl | exact .inr (.inl rfl) | exact .inr (.inr rfl)) (hd : (nm == ("__debug__" : Str)) = false := by decide) (hcd : (nm == ("__classdict__" : Str)) = false := by decide)
    (he : starEach (e :: es) X.env = (false, eval e X.env) :: starEach es X.env := by rfl) (hpl : (backTo p2 (starEach es X.env)).any (·.1) = false := by rfl) : PE X (.Call (.Name nm p1) (e :: es) [] p2) (tCallF X W k i mp) := by
  refine ⟨fun pins s σ H Q I h => ?_⟩
  obtain ⟨fa, fd, ps, j, f, w, en, hs, h2, h3, h4, hj, rfl, R, E, P⟩ := h
  refine wpAny_Call_Name_kw (thn ((pe_var (pos := p1) (i := i) hN hv hd hcd).run pins s σ w.hp (fun v H1 => v = .ref fa ∧ H1 = w.hp) I ⟨.ref fa, hs, rfl, rfl⟩) ?_)
  rintro u s1 ⟨v, H1, I1, r1, rfl, rfl⟩
  obtain rfl : u = Value.ref fa := r1
  refine PySem.W.callWith_K (h₀ := X.base) I1.ok.mod.kin h2 ?_ he hpl
  refine thn (ha.run p2 pins s1 σ w.hp _ I1 ⟨w, en, rfl, R, E, Post.bind P⟩) ?_
  rintro us s2 ⟨vs, H2, I2, r, w2, ds, rfl, X2, R2, rl, P2⟩
  dsimp only at P2
  split at P2
  · rename_i hl
    have hl2 : vs.length = ps.length := by rw [← rl.length, hl]
    have b := h3 s2 us I2.kIn (by rw [List.append_nil, ← r.length]; exact hl2)
    rw [List.append_nil] at b
    refine ⟨I2.kIn, wpAny_call (codeAny_mono (run_fg (E := WE W) h4 (c.rm.mono hj) b (passAt c.tk σ) I2 r ⟨hl2, w2, ds, rfl, R2, rl, P2⟩) ?_)⟩
    intro res s' z
    cases res with
    | error y => exact z
    | ok fl =>
      cases fl with
      | ret u => exact z
      | _ => exact False.elim z
  · exact False.elim P2
def Off {β : Type} (i : Nat) (m : En → Store → Res β) : Prop := ∀ (en : En) (d : Option D) (S : Store), m (en.set i d) S = m en S
theorem eVar_off {i j : Nat} (h : i ≠ j) : Off i (eVar j) := fun en d S => by
  unfold eVar
  rw [List.getElem?_set_ne h]
theorem aNil_off {i : Nat} : Off i aNil := fun _ _ _ => rfl
theorem aCons_off {i : Nat} {a : EM} {as : AM} (h : Off i a) (h' : Off i as) : Off i (aCons a as) := fun en d S => by
  unfold aCons
  rw [h en d S]
  congr
  funext x S1
  rw [h' en d S1]
theorem RepE.off {w : Wo} {en : En} {s : L2.St} (h : RepE X.K X.mg w en s) (i : Nat) (u : V) : RepE X.K X.mg w (en.set i none) (s.set i (some u)) := by
  refine ⟨by rw [List.length_set, List.length_set]; exact h.len, fun j d g => ?_⟩
  rw [List.getElem?_set] at g
  split at g
  · split at g <;> cases g
  · rename_i hj
    obtain ⟨v, h1, h2⟩ := h.get j d g
    exact ⟨v, by rw [List.getElem?_set_ne hj]; exact h1, h2⟩
theorem rss_tabCall {i : Nat} {look : Str} {mp : AM} {p0 p1 p2 p3 p4 p5 p6 : Pos} {ks' : List (Str × Str)} {fs : List (Str × Nat × FM)} (c : Cg X W k) (T : TabG X.K X.w X.mg x ks') (F : FsOk X.prog X.w X.K X.mg X.base k ks' fs) (hi : X.N[i]? = some look) (hb : RE X W b mb) (ha : RA X W (e :: es) mp)
    (hmp : ∀ (en : En) (d : Option D) (S : Store), mp (en.set i d) S = mp en S)
    (hg : Gl X x := by rfl) (hs : PlainIx b := by intro _ _; rfl) (hdx : (x == ("__debug__" : Str)) = false := by decide)
    (hx : Loc X.env.scope look := by first | exact Or.inl rfl | exact Or.inr rfl) (hsw : swapsWith (.Subscript (.Name x p3) b p4) (some (.Name look p0)) p5.line X.env = pure false := by rfl) (hf : X.fn look = true ∨ X.env.scope.names.lookup look = some .local := by first | exact .inl rfl | exact .inr rfl | assumption)
    (hv : Vis X.env.scope look := by first | exact .inl rfl | exact .inr (.inl rfl) | exact .inr (.inr rfl)) (hd : (look == ("__debug__" : Str)) = false := by decide) (hcd : (look == ("__classdict__" : Str)) = false := by decide)
    (he : starEach (e :: es) X.env = (false, eval e X.env) :: starEach es X.env := by rfl) (hpl : (backTo p2 (starEach es X.env)).any (·.1) = false := by rfl) :
    RSs X W [.Assign [.Name look p0] (.Subscript (.Name x p3) b p4) p5, .Return (some (.Call (.Name look p1) (e :: es) [] p2)) p6] (sTabCall i fs mb mp) := by
  obtain ⟨a, ens, n, hm, D, h1⟩ := T.ex
  refine pss_imp (pss_cons (ps_set c.nd hi hx (pe_ix ix_kdict (pe_glob (v := .ref a) hg hm rfl hdx) hb hs) hsw hf) (pss_one (ps_ret (pe_callF c hi ha hv hd hcd he hpl)))) ?_
  rintro D' s H ⟨w, en, rfl, R, E, P⟩
  refine ⟨w, en, rfl, R, E, (PostS.of P E).imp ?_⟩
  rintro v H1 ⟨w1, d, rfl, X1, R1, rx, P1⟩
  cases d with
  | str z =>
    cases rx
    dsimp only at P1
    cases q : fs.lookup z with
    | none => rw [q] at P1; exact False.elim P1
    | some q' =>
      rw [q] at P1
      dsimp only at P1
      split at P1
      · rename_i hlen
        obtain ⟨g, ps, j, hz, hj, hl, hF⟩ := F.get q
        obtain ⟨f, e1, e2⟩ := h1 z g hz
        obtain ⟨fa, fd, m1, m2, m3, m4⟩ := hF.ex
        obtain rfl : fa = f := by cases m1.symm.trans e2; rfl
        have E1 := E.ext X1.toEx0
        refine ⟨a, z, .ref fa, rfl, rfl, ⟨ens, n, _, D.at_, D.lit, e1, rfl⟩, ?_⟩
        have E2 := E1.off i (.ref fa)
        refine ⟨fa, fd, ps, j, q'.2, w1, en.set i none, by rw [List.getElem?_set_self (by rw [← E.len]; exact hlen)], m2, m3, m4, hj, rfl, R1, E2, ?_⟩
        rw [hmp]
        cases r : mp en w1.st with
        | stuck => rw [r] at P1; exact False.elim P1
        | exc y S => rw [r] at P1; exact fun w' cls dd x R st q => P1 w' _ cls dd x R st (E2.ext x.toEx0) q
        | ok ds S =>
          rw [r] at P1
          have P2 : PostS X W w1 (if ds.length = q'.1 then sE (q'.2 ds S) (en.set i none) fun d S3 => .ret d S3 else .stuck) D' := P1
          show Post _ _ _ _ (if ds.length = ps.length then q'.2 ds S else .stuck) _ _
          rw [hl]
          split at P2
          · rename_i hl2
            rw [if_pos hl2]
            cases r2 : q'.2 ds S with
            | stuck => rw [r2] at P2; exact False.elim P2
            | exc y S => rw [r2] at P2; exact fun w' cls dd x R st q => P2 w' _ cls dd x R st (E2.ext x.toEx0) q
            | ok d S3 => rw [r2] at P2; exact P2
          · exact False.elim P2
      · exact False.elim P1
  | _ => exact False.elim P1
end
end G
namespace G
open PySem L2 PySem.Spec PyProof.Rows
theorem obUT_eq (n : Nat) (fx : List Fx) (fn : List He.DefD) (tf : List He.Defn) (ts : List TabE) (s : PySem.W.SharedT) : obUT n fx fn tf ts s = (hookU n fx fn tf ts).obs s.abs := by
  have e : HandSHeadRun.getT s = s.abs.heap.get? := funext (HandSHeadRun.getT_eq s)
  unfold obUT
  rw [e]
  rfl
theorem walk_endU {l : PySem.W.OpenLaw} {k : Nat} {q : Program} {loose : List Str} {XP : (Str → Option Value) → Heap → Prop} {YP : World → Heap → Prop} {d : DefRec} {x : Str} {fx : List Fx} {fn : List He.DefD} {ts : List Mk2} {td : List TabE}
    (hn : l.most = some 63) (hdf : d.params.defaults = []) (hd : d.name = "law") (hr : Room k callerA) (hY : ∀ (w : World) (h : Heap), YP w h → ∃ K : PySem.W.Frag, K.In h ∧ SaysT fx fn (ts.map (·.1)) h K ∧ SaysK td w K)
    (F : ∀ (w : World) (mg : Str → Option Value) (fa : Addr) (h : Heap) (K : PySem.W.Frag), K.In h → SaysX fx fn K → SaysK td w K → h.Ns mainGlobals mg → mg "law" = some (.ref fa) →
      ∃ fd : FuncData, (∀ (s : Shared) (v : Value), BindsTo s fd ⟨[v], []⟩ [(x, v)]) ∧ ∀ base : Heap, K.In base → base.Ns mainGlobals mg → TBs K mg base ts → FnG l.prog w K mg base k fa fd [x] (spLawT K ts)) :
    PySem.W.WalkO q loose XP YP l.row.toRowW d [] (fun f vs => PySem.call f vs) := by
  refine Att.attach_call hn hdf fun w s₀ s₁ mg mb fa o pm cd doc a vs ns G Y ho hd' hcd hmg hobj hints hlen hg => ?_
  obtain ⟨K, KX, c, cd'⟩ := hY w _ Y
  rw [hd] at hmg
  obtain ⟨fd, hb, hF⟩ := F w mg fa _ K KX c.s cd' G.T.g hmg
  refine law_callT KX G.T.g G.T.b G.T.builtins G.T.nolimit hg G.T.bmain (fun q hq => c.hd _ (List.mem_map.mpr ⟨q, hq, rfl⟩)) (fun b hb => ?_) (fun b hb => ?_) hobj hints hlen hr hF hb
  · obtain ⟨q, hq, rfl⟩ := List.mem_map.mp hb
    exact c.out _ (List.mem_map.mpr ⟨q, hq, rfl⟩)
  · obtain ⟨q, hq, rfl⟩ := List.mem_map.mp hb
    exact c.empty _ (List.mem_map.mpr ⟨q, hq, rfl⟩)
theorem saysK_at {ts : List TabE} {w0 : World} {K : PySem.W.Frag} (c : SaysK ts w0 K) (i : Nat) {t : TabE} (h : ts[i]? = some t := by rfl) : He.dicW K (He.ga K t.1) = some (He.keysIn w0.params t.2) := by
  have e2 : (ts.map (fun t => He.dicW K (He.ga K t.1)))[i]? = (ts.map fun t => some (He.keysIn w0.params t.2))[i]? := by
    unfold SaysK at c
    rw [c]
  rw [List.getElem?_map, List.getElem?_map, h] at e2
  exact Option.some.inj e2
theorem keys_miss {P : Params} {z : Str} : ∀ {l : List DictEntry} {ks : List Str}, l.map He.keyOf = He.keysIn P ks → z ∉ ks → l.find? (fun e => e.key.isStr z) = none ∧ l.any (·.refKey) = false
  | [], _, _, _ => ⟨rfl, rfl⟩
  | e :: r, [], h, _ => by cases h
  | e :: r, k :: ks, h, hz => by
    have h1 : He.keyOf e :: r.map He.keyOf = some (k, PyData.keyHash P k) :: He.keysIn P ks := h
    injection h1 with h2 h3
    obtain ⟨i1, i2⟩ := keys_miss h3 fun q => hz (List.mem_cons_of_mem _ q)
    unfold He.keyOf at h2
    split at h2
    · rename_i x t q
      have h4 := Option.some.inj h2
      obtain ⟨h5, h6⟩ := Prod.mk.inj h4
      have hne : (e.key.isStr z) = false := by
        rw [q]
        show (x == z) = false
        rw [h5]
        exact beq_false_of_ne fun y => hz (by rw [← y]; exact List.mem_cons_self)
      have hrk : e.refKey = false := by simp [DictEntry.refKey, q]
      refine ⟨by rw [List.find?_cons, hne]; exact i1, by rw [List.any_cons, hrk, i2]; rfl⟩
    · cases h2
theorem nsIn_miss {K : PySem.W.Frag} {w0 : World} {a : Addr} {ks : List Str} (h : He.dicW K a = some (He.keysIn w0.params ks)) {z : Str} (hz : z ∉ ks) : PySem.W.nsIn K a z = some none := by
  obtain ⟨es, n, D⟩ := He.dicW_ok h
  have e : He.dicW K a = some (es.toList.map He.keyOf) := by
    unfold He.dicW
    rw [D.at_]
    have low := D.low
    show (match decide ("dict" = "dict") && ((#[] : Array (Option Value)).isEmpty && !(a == sysModules)) with
      | true => some (es.toList.map He.keyOf)
      | false => none) = _
    rw [low]; rfl
  obtain ⟨m1, m2⟩ := keys_miss (Option.some.inj (e.symm.trans h)) hz
  unfold PySem.W.nsIn
  rw [D.at_]
  dsimp only
  rw [m1]
  dsimp only
  rw [m2]; rfl
def TV.d : TV → D
  | .strs l => .tup (l.map .str)
  | .int i => .int i
theorem rep_strs {K : PySem.W.Frag} {mg : Str → Option Value} {wo : Wo} : ∀ l : List Str, RepL K mg wo (l.map D.str) (l.map V.str)
  | [] => .nil
  | x :: l => .cons (.str x) (rep_strs l)
theorem tvB_ok {K : PySem.W.Frag} {mg : Str → Option Value} {u : Value} : ∀ {t : TV}, tvB K u t = true → ∃ v, RelV v u ∧ ∀ wo, RepD K mg wo t.d v
  | .int i, h => ⟨.int i, He.relB_ok h, fun _ => .int i⟩
  | .strs l, h => by
    unfold tvB at h
    cases u with
    | ref t =>
      dsimp only at h
      cases q : K.lookup t with
      | none => rw [q] at h; cases h
      | some o =>
        obtain ⟨oc, od, dt, osl⟩ := o
        rw [q] at h
        cases oc with
        | type c =>
          cases dt with
          | seq its n =>
            obtain ⟨h1, h2⟩ := He.ba (show (decide (c = "tuple") && (decide (its.size ≤ sizeLine) && He.relAll (l.map V.str) its.toList)) = true from h)
            obtain ⟨h3, h4⟩ := He.ba h2
            exact ⟨.ref t, rfl, fun wo => .tup (.inr ⟨_, its, n, q, congrArg Value.type (of_decide_eq_true h1), rfl, of_decide_eq_true h3, He.relAll_ok h4⟩) (rep_strs l)⟩
          | _ => cases h
        | _ => cases dt <;> cases h
    | _ => cases h
def tabD (kvs : List (Str × TV)) : List (Str × D) := kvs.map fun q => (q.1, q.2.d)
theorem lookup_tabD {kvs : List (Str × TV)} {z : Str} {d : D} (h : (tabD kvs).lookup z = some d) : ∃ t, (z, t) ∈ kvs ∧ d = t.d := by
  unfold tabD at h
  induction kvs with
  | nil => cases h
  | cons q kvs ih =>
    rw [List.map_cons, List.lookup_cons] at h
    cases c : z == q.1 with
    | true =>
      rw [c] at h
      cases h
      exact ⟨q.2, by rw [beq_iff_eq.mp c]; exact List.mem_cons_self, rfl⟩
    | false =>
      rw [c] at h
      obtain ⟨t, h1, h2⟩ := ih h
      exact ⟨t, List.mem_cons_of_mem _ h1, h2⟩
theorem lookup_none {β : Type} : ∀ {l : List (Str × β)} {z : Str}, l.lookup z = none → z ∉ l.map (·.1)
  | [], _, _ => by simp
  | q :: l, z, h => by
    rw [List.lookup_cons] at h
    cases c : z == q.1 with
    | true => rw [c] at h; cases h
    | false =>
      rw [c] at h
      rw [List.map_cons, List.mem_cons]
      rintro (e | e)
      · rw [e, beq_self_eq_true] at c; cases c
      · exact lookup_none h e
theorem tabK_of {K : PySem.W.Frag} {w0 : World} {mg : Str → Option Value} {x : Str} {kvs : List (Str × TV)} (hm : mg x = some (.ref (He.ga K x))) (hk : He.dicW K (He.ga K x) = some (He.keysIn w0.params (kvs.map (·.1)))) (hv : tabVB x kvs K = true) : TabK K w0 mg x (tabD kvs) := by
  obtain ⟨es, n, D⟩ := He.dicW_ok hk
  refine ⟨_, es, n, hm, D, fun z d h => ?_, fun z h => nsIn_miss hk ?_⟩
  · obtain ⟨t, ht, rfl⟩ := lookup_tabD h
    have h2 := List.all_eq_true.mp hv _ ht
    dsimp only at h2
    cases e : PySem.W.nsIn K (He.ga K x) z with
    | none => rw [e] at h2; cases h2
    | some r =>
      rw [e] at h2
      cases r with
      | none => cases h2
      | some u =>
        obtain ⟨v, r1, r2⟩ := tvB_ok (mg := mg) h2
        exact ⟨u, v, rfl, r1, r2⟩
  · have := lookup_none h
    unfold tabD at this
    rw [List.map_map] at this
    exact this
theorem lookup_mem' {β : Type} : ∀ {l : List (Str × β)} {z : Str} {g : β}, l.lookup z = some g → (z, g) ∈ l
  | [], _, _, h => by cases h
  | q :: l, z, g, h => by
    rw [List.lookup_cons] at h
    cases c : z == q.1 with
    | true =>
      rw [c] at h
      cases h
      rw [beq_iff_eq.mp c]; exact List.mem_cons_self
    | false =>
      rw [c] at h
      exact List.mem_cons_of_mem _ (lookup_mem' h)
theorem tabG_of {K : PySem.W.Frag} {w0 : World} {mg : Str → Option Value} {x : Str} {ks : List (Str × Str)} (hm : mg x = some (.ref (He.ga K x))) (hk : He.dicW K (He.ga K x) = some (He.keysIn w0.params (ks.map (·.1)))) (hv : tabGB x ks K = true) (hg : ∀ q, q ∈ ks → mg q.2 = some (.ref (He.ga K q.2))) : TabG K w0 mg x ks := by
  obtain ⟨es, n, D⟩ := He.dicW_ok hk
  refine ⟨_, es, n, hm, D, fun z g h => ?_⟩
  have hq := lookup_mem' h
  have h2 := List.all_eq_true.mp hv _ hq
  dsimp only at h2
  have h3 := hg _ hq
  split at h2
  · rename_i f e
    rw [of_decide_eq_true h2] at e
    exact ⟨_, e, h3⟩
  · cases h2
end G
namespace G
open PySem L2 PySem.Spec PyProof.Rows
section
variable {X : Cx} {W : WX} {a b c e o : Expr} {es : List Expr} {ma mb mc me : EM} {pos : Pos}
def slN (S : Store) : D → Option Int → Option Int → Option (List D)
  | .lst l, lo, hi => some (cutL l lo hi)
  | .loc n, lo, hi => match S[n]? with
    | some (.lst l) => some (cutL l lo hi)
    | _ => none
  | _, _, _ => none
def slR (S : Store) (x : D) (lo hi : Option Int) : Res D := (lf (slN S x lo hi) S).bind fun l S2 => .ok (.loc S2.length) (S2 ++ [.lst l])
def eSlN (a : EM) (lo hi : OM) : EM := fun e S => (a e S).bind fun x S1 => (lo e S1).bind fun l S2 => (hi e S2).bind fun h S3 => slR S3 x l h
end
end G
namespace G
open PySem L2 PySem.Spec PyProof.Rows RZ
structure Wk (prog : Program) (w : World) (it l : Addr) (At : Heap → Nat → Prop) (Has : Heap → Prop) (xs : Array Value) : Prop where
  item : ∀ {A : Around} {E : Value → Shared → Prop} {s : Shared} {k : Nat} {x : Value} {Q : Value → Shared → Prop}, At s.heap k → Has s.heap → xs[k]? = some x →
    (∀ h', At h' (k + 1) → Heap.SameBut it s.heap h' → Q x { s with heap := h' }) → wpAny (model prog w) A (Builtin.SmallTypes.nextOf (.ref it)) Q E s
  over : ∀ {A : Around} {E : Value → Shared → Prop} {s : Shared} {k : Nat} {Q : Value → Shared → Prop}, A.handled = none → At s.heap k → Has s.heap → xs[k]? = none →
    (∀ h' e, Heap.ExtBut it s.heap h' → (∃ o, h'.get? e = some o ∧ o.cls = .type "StopIteration") → E (.ref e) { s with heap := h' }) → wpAny (model prog w) A (Builtin.SmallTypes.nextOf (.ref it)) Q E s
  at_ : ∀ {h h' : Heap} {k : Nat}, At h k → (∀ o, h.get? it = some o → h'.get? it = some o) → At h' k
  has : ∀ {h h' : Heap}, Has h → (∀ o, h.get? l = some o → h'.get? l = some o) → Has h'
  lt : ∀ {h : Heap} {k : Nat}, At h k → it < h.objs.size
section
variable {prog : Program} {w : World}
theorem wk_tup (it l : Addr) (xs : Array Value) : Wk prog w it l (fun h k => h.IsTupleIter it l k) (fun h => h.IsTuple l xs) xs where
  item := fun a b c d => nextOf_tuple_item a b c d
  over := fun z a b c d => nextOf_tuple_end z a b c d
  at_ := fun a k => a.at k
  has := fun ⟨o, e, r⟩ k => ⟨o, k o e, r⟩
  lt := fun ⟨_, e, _⟩ => Heap.lt_size e
theorem wk_lst (it l : Addr) (xs : Array Value) : Wk prog w it l (fun h k => h.IsListIter it l k) (fun h => h.IsList l xs) xs where
  item := fun a b c d => wpAny_nextOf_list_item a b c d
  over := fun z a b c d => wpAny_nextOf_list_end z a b c d
  at_ := fun a k => a.at k
  has := fun ⟨o, e, r⟩ k => ⟨o, k o e, r⟩
  lt := fun ⟨_, e, _⟩ => Heap.lt_size e
variable {A : Around} {E : Value → Shared → Prop} {s : Shared} {z TI TO i1 i2 l1 l2 : Addr} {k1 k2 : Nat} {xs ys : Array Value} {a b : Value} {A1 A2 : Heap → Nat → Prop} {H1 H2 : Heap → Prop}
theorem zipW_item {x y : Value} {Q : Option Value → Shared → Prop} (W1 : Wk prog w i1 l1 A1 H1 xs) (W2 : Wk prog w i2 l2 A2 H2 ys) (D : ZipApart z TI TO i1 i2 l1 l2)
    (hz : IsZip s.heap z TI TO .none) (hTI : IsPair s.heap TI (.ref i1) (.ref i2)) (hTO : IsPair s.heap TO a b)
    (h1 : A1 s.heap k1) (h2 : A2 s.heap k2) (hl1 : H1 s.heap) (hl2 : H2 s.heap) (hx : xs[k1]? = some x) (hy : ys[k2]? = some y)
    (hQ : ∀ h', IsZip h' z TI TO (rawInt s.heap.objs.size) → IsPair h' TO x y → A1 h' (k1 + 1) → A2 h' (k2 + 1) → IsPair h' s.heap.objs.size x y → h'.objs.size = s.heap.objs.size + 1 →
      (∀ c o, c ≠ z → c ≠ TO → c ≠ i1 → c ≠ i2 → s.heap.get? c = some o → h'.get? c = some o) → Q (some (.ref s.heap.objs.size)) { s with heap := h' }) :
    wpAny (model prog w) A (pyNext (.ref z)) Q E s := by
  have hT : s.TypeIs (.ref z) "zip" := ⟨_, hz, rfl⟩
  unfold pyNext
  refine wpAny_bind (wpAny_attempt (wpAny_callSpecial?_slot (name := Str.ofString "__next__") hT F.slot_zip_next (wpAny_call_entry F.slot_zip_next hT F.entry_zip_next ?_ (F.args_zip_next_1 _))))
  show wpAny _ _ (field (.ref z) 2 >>= _) _ _ _
  refine wpAny_bind (wpAny_field hz rfl (x := .bool false) rfl ?_)
  show wpAny _ _ (field (.ref z) 3 >>= _) _ _ _
  refine wpAny_bind (wpAny_field hz rfl (x := .ref TI) rfl ?_)
  refine wpAny_bind (wpAny_seqItems hTI rfl ?_)
  show wpAny _ _ (Builtin.SmallTypes.ownedTupleIsFree (.ref z) >>= _) _ _ _
  refine wpAny_bind ?_
  unfold Builtin.SmallTypes.ownedTupleIsFree
  refine wpAny_bind (wpAny_field hz rfl (x := .none) rfl (wpAny_pure ?_))
  simp only [if_true]
  refine wpAny_bind (wpAny_rule ?_)
  refine wpAny_bind (wpAny_field hz rfl (x := .ref TO) rfl ?_)
  refine wpAny_bind (wpAny_setField_rec hz (by simp) fun ha za sa => ?_)
  replace za : IsZip ha z TI TO .ellipsis := za
  have xa := sa.extBut
  refine wpAny_bind ?_
  simp only [List.zipIdx_cons, List.zipIdx_nil, List.forIn_cons, List.forIn_nil]
  refine wpAny_bind (wpAny_bind (wpAny_onRaise ?_))
  show wpAny _ _ (Builtin.SmallTypes.nextOf (.ref i1) >>= _) _ _ _
  refine wpAny_bind (W1.item (W1.at_ h1 fun o => xa _ o D.i1z) (W1.has hl1 fun o => xa _ o D.l1z) hx fun hb n1 sb => wpAny_pure ?_)
  have xb := sb.extBut
  have t1 : IsPair hb TO a b := xb _ _ D.TOi1 (xa _ _ D.TOz hTO)
  refine wpAny_bind (wpAny_seqItems t1 rfl ?_)
  refine wpAny_bind (wpAny_updateSeq_pair t1 fun hc t2 sc => ?_)
  have xc := sc.extBut
  replace t2 : IsPair hc TO x b := t2
  refine wpAny_bind (wpAny_letGo (wpAny_pure ?_))
  refine wpAny_bind (wpAny_bind (wpAny_onRaise ?_))
  show wpAny _ _ (Builtin.SmallTypes.nextOf (.ref i2) >>= _) _ _ _
  have on : ∀ c o, c ≠ z → c ≠ i1 → c ≠ TO → s.heap.get? c = some o → hc.get? c = some o := fun c o q1 q2 q3 e => xc _ _ q3 (xb _ _ q2 (xa _ _ q1 e))
  refine wpAny_bind (W2.item (W2.at_ h2 fun o => on _ o D.i2z D.i12.symm D.TOi2.symm) (W2.has hl2 fun o => on _ o D.l2z D.l2i1 D.l2TO) hy fun hd n2 sd => wpAny_pure ?_)
  have xd := sd.extBut
  have t3 : IsPair hd TO x b := xd _ _ D.TOi2 t2
  refine wpAny_bind (wpAny_seqItems t3 rfl ?_)
  refine wpAny_bind (wpAny_updateSeq_pair t3 fun he t4 se => ?_)
  have xe := se.extBut
  replace t4 : IsPair he TO x y := t4
  refine wpAny_bind (wpAny_letGo (wpAny_pure (wpAny_pure ?_)))
  refine wpAny_bind (wpAny_seqItems t4 rfl ?_)
  refine wpAny_bind (wpAny_newTuple ?_)
  have hsz : he.objs.size = s.heap.objs.size := by rw [se.1, sd.1, sc.1, sb.1, sa.1]
  have ze : IsZip he z TI TO .ellipsis := xe _ _ D.TOz.symm (xd _ _ D.i2z.symm (xc _ _ D.TOz.symm (xb _ _ D.i1z.symm za)))
  have ke : ∀ c o, c ≠ z → c ≠ TO → c ≠ i1 → c ≠ i2 → s.heap.get? c = some o → he.get? c = some o := fun c o q1 q2 q3 q4 e => xe _ _ q2 (xd _ _ q4 (on c o q1 q3 q2 e))
  have m1 : A1 he (k1 + 1) := W1.at_ n1 fun o e => xe _ _ D.TOi1.symm (xd _ _ D.i12 (xc _ _ D.TOi1.symm e))
  have m2 : A2 he (k2 + 1) := W2.at_ n2 fun o e => xe _ _ D.TOi2.symm e
  show wpAny _ _ (Builtin.SmallTypes.ownedTupleHandOut (.ref z) (.ref he.objs.size) >>= _) _ _ _
  refine wpAny_bind ?_
  unfold Builtin.SmallTypes.ownedTupleHandOut
  have zf : IsZip (he.push { cls := .type "tuple", data := .seq #[x, y] }) z TI TO .ellipsis := Heap.get?_push_of_some _ ze
  refine wpAny_bind (wpAny_setField_rec zf (by simp) fun hg zg sg => ?_)
  replace zg : IsZip hg z TI TO (rawInt he.objs.size) := zg
  refine wpAny_setField_rec zg (by simp) fun hh zh sh => ?_
  replace zh : IsZip hh z TI TO (rawInt he.objs.size) := zh
  have up : ∀ c o, c ≠ z → he.get? c = some o → hh.get? c = some o := fun c o q e => sh.extBut _ _ q (sg.extBut _ _ q (Heap.get?_push_of_some _ e))
  have hzlt : z < he.objs.size := Heap.lt_size ze
  have hTn : IsPair hh he.objs.size x y := sh.extBut _ _ (Nat.ne_of_gt hzlt) (sg.extBut _ _ (Nat.ne_of_gt hzlt) (Heap.get?_push_size _ rfl))
  have hn : hh.objs.size = he.objs.size + 1 := by rw [sh.1, sg.1, Heap.size_push]
  rw [hsz] at zh hTn hn
  refine wpAny_pure ⟨_, rfl, ?_⟩
  have fin := hQ hh zh (up _ _ D.TOz t4) (W1.at_ m1 fun o e => up _ o D.i1z e) (W2.at_ m2 fun o e => up _ o D.i2z e) hTn hn fun c o q1 q2 q3 q4 e => up c o q1 (ke c o q1 q2 q3 q4 e)
  rw [← hsz] at fin
  exact wpAny_pure fin
theorem zipW_over {Q : Option Value → Shared → Prop} (hh : A.handled = none) (W1 : Wk prog w i1 l1 A1 H1 xs) (W2 : Wk prog w i2 l2 A2 H2 ys) (D : ZipApart z TI TO i1 i2 l1 l2)
    (hz : IsZip s.heap z TI TO .none) (hTI : IsPair s.heap TI (.ref i1) (.ref i2)) (hTO : IsPair s.heap TO a b)
    (h1 : A1 s.heap k1) (h2 : A2 s.heap k2) (hl1 : H1 s.heap) (hl2 : H2 s.heap) (hend : xs[k1]? = none ∨ ys[k2]? = none)
    (hQ : ∀ h', (∀ c o, c ≠ z → c ≠ TO → c ≠ i1 → c ≠ i2 → s.heap.get? c = some o → h'.get? c = some o) → Q none { s with heap := h' }) :
    wpAny (model prog w) A (pyNext (.ref z)) Q E s := by
  have hT : s.TypeIs (.ref z) "zip" := ⟨_, hz, rfl⟩
  unfold pyNext
  refine wpAny_bind (wpAny_attempt (wpAny_callSpecial?_slot (name := Str.ofString "__next__") hT F.slot_zip_next (wpAny_call_entry F.slot_zip_next hT F.entry_zip_next ?_ (F.args_zip_next_1 _))))
  show wpAny _ _ (field (.ref z) 2 >>= _) _ _ _
  refine wpAny_bind (wpAny_field hz rfl (x := .bool false) rfl ?_)
  show wpAny _ _ (field (.ref z) 3 >>= _) _ _ _
  refine wpAny_bind (wpAny_field hz rfl (x := .ref TI) rfl ?_)
  refine wpAny_bind (wpAny_seqItems hTI rfl ?_)
  show wpAny _ _ (Builtin.SmallTypes.ownedTupleIsFree (.ref z) >>= _) _ _ _
  refine wpAny_bind ?_
  unfold Builtin.SmallTypes.ownedTupleIsFree
  refine wpAny_bind (wpAny_field hz rfl (x := .none) rfl (wpAny_pure ?_))
  simp only [if_true]
  refine wpAny_bind (wpAny_rule ?_)
  refine wpAny_bind (wpAny_field hz rfl (x := .ref TO) rfl ?_)
  refine wpAny_bind (wpAny_setField_rec hz (by simp) fun ha za sa => ?_)
  replace za : IsZip ha z TI TO .ellipsis := za
  have xa := sa.extBut
  refine wpAny_bind ?_
  simp only [List.zipIdx_cons, List.zipIdx_nil, List.forIn_cons, List.forIn_nil]
  refine wpAny_bind (wpAny_bind (wpAny_onRaise ?_))
  show wpAny _ _ (Builtin.SmallTypes.nextOf (.ref i1) >>= _) _ _ _
  have raised : ∀ (h' : Heap) (e : Addr), IsZip h' z TI TO .ellipsis → (∀ c o, c ≠ z → c ≠ TO → c ≠ i1 → c ≠ i2 → s.heap.get? c = some o → h'.get? c = some o) → (∃ o, h'.get? e = some o ∧ o.cls = .type "StopIteration") →
      ∀ h'', Heap.SameBut z h' h'' → wpAny (model prog w) A (isInstance (.ref e) (.type "StopIteration")) (fun r s' => r = true ∧ Q none s') E { s with heap := h'' } := fun h' e z' hk he h'' sx => by
    obtain ⟨oe, hoe, hce⟩ := he
    have hez : e ≠ z := fun q => by subst q; rw [z'] at hoe; cases hoe; simp at hce
    exact wpAny_isInstance (T := "StopIteration") (b := true) ⟨oe, sx.extBut _ _ hez hoe, hce⟩ isSubtype_stop ⟨rfl, hQ h'' fun c o q1 q2 q3 q4 e => sx.extBut _ _ q1 (hk c o q1 q2 q3 q4 e)⟩
  cases hx : xs[k1]? with
  | none =>
    refine wpAny_bind (W1.over hh (W1.at_ h1 fun o => xa _ o D.i1z) (W1.has hl1 fun o => xa _ o D.l1z) hx fun hb e xb he => ?_)
    have zb : IsZip hb z TI TO .ellipsis := xb _ _ D.i1z.symm za
    refine wpAny_setField_rec zb (by simp) fun hc _ sc => ?_
    have r := raised hb e zb (fun c o q1 _ q3 _ v => xb _ _ q3 (xa _ _ q1 v)) he hc sc
    exact wpAny_bind (thn r fun v s' ⟨q, q'⟩ => by subst q; exact wpAny_pure q')
  | some x =>
    have hy : ys[k2]? = none := by
      rcases hend with q | q
      · rw [hx] at q; cases q
      · exact q
    refine wpAny_bind (W1.item (W1.at_ h1 fun o => xa _ o D.i1z) (W1.has hl1 fun o => xa _ o D.l1z) hx fun hb n1 sb => wpAny_pure ?_)
    have xb := sb.extBut
    have t1 : IsPair hb TO a b := xb _ _ D.TOi1 (xa _ _ D.TOz hTO)
    refine wpAny_bind (wpAny_seqItems t1 rfl ?_)
    refine wpAny_bind (wpAny_updateSeq_pair t1 fun hc t2 sc => ?_)
    have xc := sc.extBut
    refine wpAny_bind (wpAny_letGo (wpAny_pure ?_))
    refine wpAny_bind (wpAny_bind (wpAny_onRaise ?_))
    show wpAny _ _ (Builtin.SmallTypes.nextOf (.ref i2) >>= _) _ _ _
    have on : ∀ c o, c ≠ z → c ≠ i1 → c ≠ TO → s.heap.get? c = some o → hc.get? c = some o := fun c o q1 q2 q3 e => xc _ _ q3 (xb _ _ q2 (xa _ _ q1 e))
    refine wpAny_bind (W2.over hh (W2.at_ h2 fun o => on _ o D.i2z D.i12.symm D.TOi2.symm) (W2.has hl2 fun o => on _ o D.l2z D.l2i1 D.l2TO) hy fun hd e xd he => ?_)
    have zd : IsZip hd z TI TO .ellipsis := xd _ _ D.i2z.symm (xc _ _ D.TOz.symm (xb _ _ D.i1z.symm za))
    refine wpAny_setField_rec zd (by simp) fun hf _ sf => ?_
    have r := raised hd e zd (fun c o q1 q2 q3 q4 v => xd _ _ q4 (on c o q1 q3 q2 v)) he hf sf
    exact wpAny_bind (thn r fun v s' ⟨q, q'⟩ => by subst q; exact wpAny_pure q')
end
abbrev zA (h : Heap) (l1 : Addr) : Heap := h.push { cls := .type "tuple_iterator", data := .fields #[.ref l1, .int 0 0] }
abbrev zB (h : Heap) (l1 l2 : Addr) : Heap := (zA h l1).push { cls := .type "list_iterator", data := .fields #[.ref l2, .int 0 0] }
abbrev zC (h : Heap) (l1 l2 : Addr) : Heap := (zB h l1 l2).push { cls := .type "tuple", data := .seq #[.ref h.objs.size, .ref (zA h l1).objs.size] }
abbrev zD (h : Heap) (l1 l2 : Addr) : Heap := (zC h l1 l2).push { cls := .type "tuple", data := .seq #[.none, .none] }
abbrev zE (h : Heap) (l1 l2 : Addr) : Heap := (zD h l1 l2).push { cls := .type "zip", data := .fields #[.none, .bool false, .bool false, .ref (zB h l1 l2).objs.size, .ref (zC h l1 l2).objs.size] }
theorem zipM_new (l1 l2 : Addr) (xs ys : Array Value) :
    Meets (Builtin.«zip.__new__» ⟨[.type "zip", .ref l1, .ref l2], []⟩) (fun _ R s => s.heap.IsTuple l1 xs ∧ s.heap.IsList l2 ys ∧
      R (.ok (.ret (.ref (zD s.heap l1 l2).objs.size))) { s with heap := zE s.heap l1 l2 }) :=
  .of_wp fun prog w A R s h => by
    obtain ⟨hp, g, d, tk, os⟩ := s; obtain ⟨q1, q2, h⟩ := h
    have hsub := sub_zip
    have e1 : Heap.IsTuple (Shared.heap ⟨hp, g, d, tk, os⟩) l1 xs := q1
    have e2 : Heap.IsList (Shared.heap ⟨hp.push { cls := .type "tuple_iterator", data := .fields #[.ref l1, .int 0 0] }, g, d, tk, os⟩) l2 ys := Heap.IsList.push q2 _
    wp_walk using wpAny_pyIter_tuple e1, wpAny_pyIter_list e2
    exact ⟨_, rfl, h⟩
theorem call_zipM {prog : Program} {w : World} {A : Around} {E : Value → Shared → Prop} {s : Shared} {l1 l2 : Addr} {xs ys : Array Value} {Q : Value → Shared → Prop} (q1 : s.heap.IsTuple l1 xs) (q2 : s.heap.IsList l2 ys)
    (h : ∀ h', IsZip h' (s.heap.objs.size + 4) (s.heap.objs.size + 2) (s.heap.objs.size + 3) .none → IsPair h' (s.heap.objs.size + 2) (.ref s.heap.objs.size) (.ref (s.heap.objs.size + 1)) →
      IsPair h' (s.heap.objs.size + 3) .none .none → h'.IsTupleIter s.heap.objs.size l1 0 → h'.IsListIter (s.heap.objs.size + 1) l2 0 →
      (∀ c o, s.heap.get? c = some o → h'.get? c = some o) → Q (.ref (s.heap.objs.size + 4)) { s with heap := h' }) :
    wpAny (model prog w) A (call (.type "zip") [.ref l1, .ref l2]) Q E s := by
  refine callType_new F.called_zip (by decide) (F.typeCall_zip_2 _ _) (F.newCall_zip_2 _ _) (fun obj => F.args_object_init_3 obj _ _) F.entry_zip_new (zipM_new l1 l2 xs ys) ⟨q1, q2, ?_⟩
  generalize hn : s.heap.objs.size = n at h ⊢
  have n1 : (zA s.heap l1).objs.size = n + 1 := by rw [Heap.size_push, hn]
  have n2 : (zB s.heap l1 l2).objs.size = n + 2 := by rw [Heap.size_push, n1]
  have n3 : (zC s.heap l1 l2).objs.size = n + 3 := by rw [Heap.size_push, n2]
  have n4 : (zD s.heap l1 l2).objs.size = n + 4 := by rw [Heap.size_push, n3]
  have g5 : (zE s.heap l1 l2).get? (zD s.heap l1 l2).objs.size = some _ := Heap.get?_push_size _ rfl
  have g4 : (zE s.heap l1 l2).get? (zC s.heap l1 l2).objs.size = some _ := Heap.get?_push_of_some _ (Heap.get?_push_size _ rfl)
  have g3 : (zE s.heap l1 l2).get? (zB s.heap l1 l2).objs.size = some _ := Heap.get?_push_of_some _ (Heap.get?_push_of_some _ (Heap.get?_push_size _ rfl))
  have g2 : (zE s.heap l1 l2).get? (zA s.heap l1).objs.size = some _ := Heap.get?_push_of_some _ (Heap.get?_push_of_some _ (Heap.get?_push_of_some _ (Heap.get?_push_size _ rfl)))
  have g1 : (zE s.heap l1 l2).get? s.heap.objs.size = some _ := Heap.get?_push_of_some _ (Heap.get?_push_of_some _ (Heap.get?_push_of_some _ (Heap.get?_push_of_some _ (Heap.get?_push_size _ rfl))))
  show _ ∧ _
  rw [n2, n3, n4] at g5
  rw [n1, n2, hn] at g3
  rw [n3] at g4
  rw [n1] at g2
  rw [hn] at g1
  rw [n4]
  exact ⟨⟨_, g5, rfl⟩, h _ g5 g3 g4 ⟨_, g1, rfl, rfl⟩ ⟨_, g2, rfl, rfl⟩ fun c o x =>
    Heap.get?_push_of_some _ (Heap.get?_push_of_some _ (Heap.get?_push_of_some _ (Heap.get?_push_of_some _ (Heap.get?_push_of_some _ x))))⟩
def ItM (K : PySem.W.Frag) (a b : Addr) : It :=
  ⟨fun i H => ∃ (xs ys : List V) (x y : V), SqT K H a xs ∧ SqL K H b ys ∧ xs[i]? = some x ∧ ys[i]? = some y,
    fun i H v H' => ∃ T x y, v = .ref T ∧ H T = none ∧ H' = upd H T (.tup [x, y]) ∧ (∀ xs, SqT K H a xs → xs[i]? = some x) ∧ ∀ ys, SqL K H b ys → ys[i]? = some y,
    fun i H => ∃ xs ys : List V, SqT K H a xs ∧ SqL K H b ys ∧ (xs.length ≤ i ∨ ys.length ≤ i)⟩
theorem turnM {P : Program} {w : World} {K : PySem.W.Frag} {elts : List Expr} {kk : Nat} {tpos : Pos} {a b z TI TO i1 i2 : Addr} (D : ZipApart z TI TO i1 i2 a b) :
    Turn P w K (.Tuple elts kk tpos) (ItM K a b) [z, TI, TO, i1, i2] z (fun i h => IsZip h z TI TO .none ∧ IsPair h TI (.ref i1) (.ref i2) ∧ (∃ x y, IsPair h TO x y) ∧ h.IsTupleIter i1 a i ∧ h.IsListIter i2 b i) where
  mem := by simp
  obj := fun i h st c hc => by
    obtain ⟨hz, hTI, ⟨x, y, hTO⟩, ⟨o1, e1, _, d1⟩, ⟨o2, e2, _, d2⟩⟩ := st
    simp only [List.mem_cons, List.not_mem_nil, or_false] at hc
    rcases hc with rfl | rfl | rfl | rfl | rfl
    · exact ⟨_, hz, fun v q => nomatch q⟩
    · exact ⟨_, hTI, fun v q => nomatch q⟩
    · exact ⟨_, hTO, fun v q => nomatch q⟩
    · exact ⟨o1, e1, fun v q => by rw [d1] at q; cases q⟩
    · exact ⟨o2, e2, fun v q => by rw [d2] at q; cases q⟩
  keep := fun i h h' st k => by
    obtain ⟨hz, hTI, ⟨x, y, hTO⟩, h1, h2⟩ := st
    exact ⟨k z (by simp) _ hz, k TI (by simp) _ hTI, ⟨x, y, k TO (by simp) _ hTO⟩, h1.at fun o q => k i1 (by simp) o q, h2.at fun o q => k i2 (by simp) o q⟩
  item := by
    intro X hP hw hK hc i pins s σ H E I hf st hg
    subst hP hw hK
    obtain ⟨hz, hTI, ⟨x0, y0, hTO⟩, h1, h2⟩ := st
    obtain ⟨xs, ys, x, y, hqx, hqy, hx, hy⟩ := hg
    obtain ⟨its, rv, p, _⟩ := I.tuple hqx
    obtain ⟨its2, rv2, p2, _⟩ := I.list hqy
    obtain ⟨u, hu, ru⟩ := rv.get hx
    obtain ⟨u2, hu2, ru2⟩ := rv2.get hy
    have zl : z < s.heap.objs.size := Heap.lt_size hz
    refine zipW_item (wk_tup i1 a its.toArray) (wk_lst i2 b its2.toArray) D hz hTI hTO h1 h2 p p2.isList (x := u) (y := u2) (by simpa using hu) (by simpa using hu2) fun h' z' TO' h1' h2' hT hsz hk => ?_
    refine ⟨_, rfl, wpAny_letOwnedTupleGo_zip (s := { s with heap := h' }) z' fun h'' z'' sb => ?_⟩
    have hT2 : h''.get? s.heap.objs.size = some { cls := .type "tuple", data := .seq #[u, u2] } := (sb.2 _ (Nat.ne_of_gt zl)).trans hT
    have new : ObjOk X.prog X.w (upd H s.heap.objs.size (.tup [x, y])) h'' s.heap.objs.size (.tup [x, y]) := ⟨by show 2 ≤ sizeLine; decide, [u, u2], .cons ru (.cons ru2 .nil), ⟨_, hT2, rfl, _, rfl⟩⟩
    have out : ∀ c o, c ∉ [z, TI, TO, i1, i2] → s.heap.get? c = some o → h''.get? c = some o := fun c o hb q =>
      (sb.2 c fun q' => hb (by simp [q'])).trans (hk c o (fun q' => hb (by simp [q'])) (fun q' => hb (by simp [q'])) (fun q' => hb (by simp [q'])) (fun q' => hb (by simp [q'])) q)
    have I1 : Inv X pins σ (upd H s.heap.objs.size (.tup [x, y])) { s with heap := h'' } := I.turnedNew (t' := s.toks) (ch := [z, TI, TO, i1, i2]) out hf (Nat.le_refl _) new
    refine ⟨.ref s.heap.objs.size, _, I1, rfl, ⟨_, x, y, rfl, I.hok.fresh (Nat.le_refl _), rfl, fun l hl => by rw [I.tuple_inj hl hqx]; exact hx, fun l hl => by rw [I.list_inj hl hqy]; exact hy⟩,
      ⟨z'', (sb.2 _ D.TIz).trans (hk _ _ D.TIz D.TITO D.TIi1 D.TIi2 hTI), ⟨u, u2, (sb.2 _ D.TOz).trans TO'⟩, h1'.at fun o q => (sb.2 _ D.i1z).trans q, h2'.at fun o q => (sb.2 _ D.i2z).trans q⟩, fun c hcm => ?_⟩
    have hlt : c < s.heap.objs.size := by
      simp only [List.mem_cons, List.not_mem_nil, or_false] at hcm
      rcases hcm with rfl | rfl | rfl | rfl | rfl
      · exact zl
      · exact Heap.lt_size hTI
      · exact Heap.lt_size hTO
      · exact (wk_tup (prog := X.prog) (w := X.w) _ a its.toArray).lt h1
      · exact (wk_lst (prog := X.prog) (w := X.w) _ b its2.toArray).lt h2
    rw [upd_ne (Nat.ne_of_lt hlt)]
    exact (hf c hcm).1
  done := by
    intro X hP hw hK hc i pins s σ H E I hf st hg
    subst hP hw hK
    obtain ⟨hz, hTI, ⟨x0, y0, hTO⟩, h1, h2⟩ := st
    obtain ⟨xs, ys, hqx, hqy, hend⟩ := hg
    obtain ⟨its, rv, p, _⟩ := I.tuple hqx
    obtain ⟨its2, rv2, p2, _⟩ := I.list hqy
    have n1 := rv.length
    have n2 := rv2.length
    have he : its.toArray[i]? = none ∨ its2.toArray[i]? = none := by
      rcases hend with q | q
      · exact .inl (by simp; omega)
      · exact .inr (by simp; omega)
    exact zipW_over (I.ok.hd hc) (wk_tup i1 a its.toArray) (wk_lst i2 b its2.toArray) D hz hTI hTO h1 h2 p p2.isList he fun h' hk => ⟨rfl, I.turnedL (t' := s.toks) (ch := [z, TI, TO, i1, i2]) (fun c o hb q =>
      hk c o (fun q' => hb (by simp [q'])) (fun q' => hb (by simp [q'])) (fun q' => hb (by simp [q'])) (fun q' => hb (by simp [q'])) q) hf⟩
  self := fun A i s Q E st h => wpAny_pyIter_zip st.1 h
def iZipV (K : PySem.W.Frag) (ta : TA) : TI := fun σ H R => ta σ H fun vs H1 => ∃ a b xs ys, vs = [.ref a, .ref b] ∧ SqT K H1 a xs ∧ SqL K H1 b ys ∧ R (ItM K a b) H1
theorem pi_zipM {X : Cx} {e e2 : Expr} {ta : TA} {p pos tpos : Pos} {elts : List Expr} {kk : Nat} (hg : Gl X "zip") (hm : X.mg "zip" = none) (ha : PA X [e, e2] ta)
    (hs : starEach [e, e2] X.env = (false, eval e X.env) :: starEach [e2] X.env) (hpl : (backTo pos (starEach [e2] X.env)).any (·.1) = false) :
    PI X (.Tuple elts kk tpos) (.Call (.Name "zip" p) [e, e2] [] pos) (iZipV X.K ta) := by
  refine ⟨fun pins s σ H R I h => ?_⟩
  refine Call_ (ld_blt I hg hm PyProof.Rows.boot_zip (PyProof.Rows.callWith_type1 (thn (ha.run pos pins s σ H _ I h) fun us s1 ⟨vs, H1, I1, r1, q1⟩ => ?_) hs hpl))
  obtain ⟨a, b, xs, ys, rfl, hqx, hqy, q⟩ := q1
  obtain ⟨v, v', rfl, rv, rv'⟩ := vals2 r1
  cases rv
  cases rv'
  obtain ⟨its, rx, p1, _⟩ := I1.tuple hqx
  obtain ⟨its2, ry, p2, _⟩ := I1.list hqy
  obtain ⟨o1, ho1, _⟩ := id p1
  refine call_zipM (show s1.heap.IsTuple a its.toArray from p1) p2.isList fun h' hz hTI hTO h1 h2 hk => wpAny_pyIter_zip hz ?_
  have I2 : Inv X pins σ H1 { s1 with heap := h' } := I1.kept (t' := s1.toks) hk
  refine ⟨s1.heap.objs.size + 4, [s1.heap.objs.size + 4, s1.heap.objs.size + 2, s1.heap.objs.size + 3, s1.heap.objs.size, s1.heap.objs.size + 1], _, _, H1, rfl, I2, turnM (PySem.W.ktu_apart s1.heap.objs.size a b (Heap.lt_size ho1) p2.lt), ⟨hz, hTI, ⟨_, _, hTO⟩, h1, h2⟩, fun c hcm => ?_, q⟩
  have hle : s1.heap.objs.size ≤ c := by
    simp only [List.mem_cons, List.not_mem_nil, or_false] at hcm
    rcases hcm with rfl | rfl | rfl | rfl | rfl
    · exact Nat.le_add_right _ _
    · exact Nat.le_add_right _ _
    · exact Nat.le_add_right _ _
    · exact Nat.le_refl _
    · exact Nat.le_add_right _ _
  exact I1.fpOk hle (I1.hok.fresh hle)
section
variable {X : Cx} {W : WX} {a b : Expr} {p pos : Pos} {w : Wo}
theorem its_zipM {l m : List D} {a b : Addr} {vs us : List V} (s1 : ∀ w2, Ex0 w w2 → SqT X.K w2.hp a vs) (s2 : ∀ w2, Ex0 w w2 → SqL X.K w2.hp b us) (r1 : RepL X.K X.mg w l vs) (r2 : RepL X.K X.mg w m us) : ItsR X w (zipD l m) (ItM X.K a b) := by
  intro w2 x2 _ R2
  have q1 := s1 w2 x2
  have q2 := s2 w2 x2
  have e1 := r1.length
  have e2 := r2.length
  have hl : (zipD l m).length = min l.length m.length := by unfold zipD; simp
  refine ⟨fun i hi => ⟨?_, fun x H' y => ?_⟩, ⟨vs, us, q1, q2, by rw [hl]; omega⟩⟩
  · rw [hl] at hi
    exact ⟨vs, us, vs[i]'(by omega), us[i]'(by omega), q1, q2, by simp, by simp⟩
  · obtain ⟨T, x1, y1, rfl, hT, rfl, g1, g2⟩ := y
    obtain ⟨d1, k1, rd1⟩ := r1.getV (g1 vs q1)
    obtain ⟨d2, k2, rd2⟩ := r2.getV (g2 us q2)
    have xp := put_ext (o := .tup [x1, y1]) R2 hT
    refine ⟨w2.put T (.tup [x1, y1]), .tup [d1, d2], rfl, xp, R2.put hT, rfl, rfl, ?_, .tup (.inl (put_st R2 hT).o) (.cons ((rd1.ext x2).ext xp.toEx0) (.cons ((rd2.ext x2).ext xp.toEx0) .nil))⟩
    unfold zipD
    rw [List.getElem?_zipWith, k1, k2]
def zipRM (ds : List D) (S : Store) : Res (List D) := match ds with
  | [.tup l, .lst m] => .ok (zipD l m) S
  | _ => .stuck
def iZipM (m : AM) : AM := fun e S => (m e S).bind zipRM
theorem ri_zipM {m : AM} {elts : List Expr} {kk : Nat} {tpos : Pos} (hm : X.mg "zip" = none) (ha : RA X W [a, b] m) (hg : Gl X "zip" := by rfl) (hs : starEach [a, b] X.env = (false, eval a X.env) :: starEach [b] X.env := by rfl) (hpl : (backTo pos (starEach [b] X.env)).any (·.1) = false := by rfl) :
    RI X W (.Tuple elts kk tpos) (.Call (.Name "zip" p) [a, b] [] pos) (iZipM m) := by
  refine ⟨fun pins s σ H R' I h => (pi_zipM hg hm ha hs hpl).run pins s σ H R' I ?_⟩
  obtain ⟨w, en, rfl, R, E, P⟩ := h
  refine ⟨w, en, rfl, R, E, (Post.bind P).imp ?_⟩
  rintro vs H1 ⟨w1, ds, rfl, X1, R1, rx, P1⟩
  unfold zipRM at P1
  split at P1
  · obtain ⟨v, v', rfl, rv, rv'⟩ := rx.two_inv
    cases rv with
    | tup s1 r1 =>
      cases rv' with
      | lst s2 r2 => exact ⟨_, _, _, _, rfl, s1.sq, SqL.of s2.1, Post.now P1 R1 (its_zipM (fun w2 x2 => (s1.ext x2).sq) (fun w2 x2 => SqL.of (s2.ext x2).1) r1 r2)⟩
  · exact False.elim P1
end
end G
namespace G
open PySem L2 PySem.Spec
def eqX (neg : Bool) (cn : Nat) (f : FM) (gD : List D → List D → List D) (x y : D) (S : Store) : Res D := if isCn cn S x = true ∧ isCn cn S y = true then eqO neg cn f gD x y S else lf (if neg = true then dNe x y else dEq x y) S
def eEqX (neg : Bool) (cn : Nat) (f : FM) (gD : List D → List D → List D) (a b : EM) : EM := fun e S => (a e S).bind fun x S1 => (b e S1).bind fun y S2 => eqX neg cn f gD x y S2
end G
namespace G
open PySem L2 PySem.Spec PyProof.Rows
section
variable {P : Program} {w0 : World} {K : PySem.W.Frag} {mg : Str → Option Value} {base : Heap}
def noF (f : FM) : FM := fun ds S => noX (f ds S)
end
section
variable {X : Cx} {W : WX} {a b c e o : Expr} {es : List Expr} {pos : Pos} {x : Str} {p : Pos} {j k : Nat} {ps ks : List Str} {f : FM} {ad : Addr} {pn : List (Addr × Obj)}
def eCallN (f : FM) (m : AM) : EM := fun e S => (m e S).bind fun ds S1 => noF f ds S1
end
end G
namespace G
open PySem L2 PySem.Spec PyProof.Rows
def keyS (e : Int × Value) : Str := PyProof.Rows.strOf e.2
def GoodS (w : World) (e : Int × Value) : Prop := ∃ k tk, e.2 = Value.str k tk ∧ e.1 = hashStr w k
def SetS (w : World) (h : Heap) (a : Addr) (S : Str → Bool) (n : Nat) : Prop :=
  ∃ o es ep t, h.get? a = some o ∧ o.ExactSet ∧ o.data = .set es ep t ∧ (∀ e ∈ es.toList, GoodS w e) ∧ (es.toList.map keyS).Nodup ∧ (∀ k, S k = true ↔ k ∈ es.toList.map keyS) ∧
    es.size < scanBound ∧ t.fits es.size = true ∧ es.size = n ∧ Ris t.place.toList ∧ (w.params.followText "set-order" = true ∨ t.led = true)
section
variable {P : Program} {w : World} {h h' : Heap} {a : Addr} {S : Str → Bool} {n : Nat}
theorem SetS.at (R : SetS w h a S n) (k : ∀ o, h.get? a = some o → h'.get? a = some o) : SetS w h' a S n := by
  obtain ⟨o, es, ep, t, ho, r⟩ := R
  exact ⟨o, es, ep, t, k o ho, r⟩
theorem SetS.lt (R : SetS w h a S n) : a < h.objs.size := by
  obtain ⟨o, es, ep, t, ho, r⟩ := R
  exact Heap.lt_size ho
end
end G
namespace G
open PySem L2 PySem.Spec PyProof.Rows
end G
namespace G
open PySem L2 PySem.Spec PyProof.Rows
def mergeKD (kvs more : List (Key × D)) : List (Key × D) := more.foldl (fun acc kv => putKD acc kv.1 kv.2) kvs
theorem RepK.merge {K : PySem.W.Frag} {mg : Str → Option Value} {w : Wo} : ∀ {more : List (Key × D)} {us : List (Key × V)}, RepK Key K mg w more us → ∀ {kvs : List (Key × D)} {vs : List (Key × V)}, RepK Key K mg w kvs vs → RepK Key K mg w (mergeKD kvs more) (mergeK vs us)
  | _, _, .nil, _, _, h => h
  | _, _, @RepK.cons _ _ _ _ f d v l us r t, kvs, vs, h => RepK.merge t (h.put r)
def tDkU (td ty : TE) : TE := fun σ H Q => td σ H fun x H1 => ∃ (a : Addr) (l0 : List (Key × V)), x = .ref a ∧ H1 a = some (.dK l0) ∧ ty σ H1 fun y H2 => ∃ (b : Addr) (l m : List (Key × V)), y = .ref b ∧ a ≠ b ∧ H2 a = some (.dK l) ∧ H2 b = some (.dK m) ∧
  l.length + m.length ≤ sizeLine ∧ Q .non (upd H2 a (.dK (mergeK l m)))
section
variable {X : Cx} {W : WX} {o e : Expr} {td ty : TE} {ma mb : EM} {apos cpos : Pos}
theorem pe_dkU (ho : PE X o td) (he : PE X e ty) (m : M1 X o "update" apos e cpos) : PE X (.Call (.Attribute o "update" apos) [e] [] cpos) (tDkU td ty) := by
  refine ⟨fun pins s σ H Q I h => ?_⟩
  refine wpAny_Call_method m.base m.few m.line PySem.F.plainAttrs_dict PySem.F.slot_dict_update PySem.F.type_dict_update (thn (ho.run pins s σ H _ I h) fun u s1 ⟨x, H1, I1, rx, a, l0, ex, ha, q1⟩ => ?_)
  subst ex
  obtain rfl : u = Value.ref a := rx
  obtain ⟨t1, t2, _⟩ := isD_at I1 (show IsD H1 a from .inl ⟨l0, .inl ha⟩)
  refine ⟨t1, t2, ?_⟩
  rw [m.trees]
  refine Calls.callWith_builtin rfl (Calls.evalArgs_plain (Calls.spliced_cons (thn (he.run pins s1 σ H1 _ I1 q1) fun iv s2 ⟨y, H2, I2, ry, b, l, mm, ey, hab, ea, eb, hz, q2⟩ => Calls.spliced_nil ?_)))
  subst ey
  obtain rfl : iv = Value.ref b := ry
  obtain ⟨z1, h1, vs, r1, d1⟩ := dk_of I2.hok ea
  obtain ⟨z2, h2, us, r2, d2⟩ := dk_of I2.hok eb
  refine call_meetsIn PySem.F.slot_dict_update d1.typeIs PySem.F.entry_dict_update (PySem.F.args_dict_update_2 _ _) (meets_dict_update (mixKind X.prog X.w) a b hab h2) ⟨vs, us, d1, d2, by rw [← r1.length, ← r2.length]; exact hz, fun h' da db hs => ?_⟩
  have hex : ∃ q, h'.get? a = some q := let ⟨q, _, _, hq, _⟩ := da; ⟨q, hq⟩
  exact ⟨.non, _, d_write I2 (by rw [ea]; exact True.intro) hs hex (dk_new (Nat.le_trans (length_mergeK _ _) hz) h1 (r2.merge r1) da), rfl, q2⟩
def uK (S : Store) (x y : D) : Res D := match dkD S x, dkD S y with
  | some (n, l), some (k, m) => if n ≠ k ∧ l.length + m.length ≤ 1000 then .ok .non (S.set n (.dk (mergeKD l m))) else .stuck
  | _, _ => .stuck
def eDkU (mo ma : EM) : EM := fun e S => (mo e S).bind fun x S1 => if (dkD S1 x).isSome = true then (ma e S1).bind fun y S2 => uK S2 x y else .stuck
theorem re_dkU (ho : RE X W o ma) (he : RE X W e mb) (m : M1 X o "update" apos e cpos := by exact ⟨rfl, rfl, rfl, rfl⟩) : RE X W (.Call (.Attribute o "update" apos) [e] [] cpos) (eDkU ma mb) := by
  refine pe_imp (pe_dkU ho he m) ?_
  rintro s H Q ⟨w, en, rfl, R, E, P⟩
  refine ⟨w, en, rfl, R, E, (Post.bind P).imp ?_⟩
  rintro v H1 ⟨w1, x, rfl, X1, R1, rx, P1⟩
  dsimp only at P1
  split at P1
  · rename_i hd
    obtain ⟨⟨n0, l0⟩, hd⟩ := Option.isSome_iff_exists.mp hd
    obtain ⟨a, us0, rfl, hn, hp, rk⟩ := rx.dkV R1 hd
    refine ⟨a, us0, rfl, hp, w1, en, rfl, R1, E.ext X1.toEx0, (Post.bind P1).imp ?_⟩
    rintro v2 H2 ⟨w2, y, rfl, X2, R2, ry, P2⟩
    dsimp only at P2
    unfold uK at P2
    split at P2
    · rename_i n l k m' h1 h2
      split at P2
      · rename_i hz
        obtain ⟨a', xs, e2, hn', hp', rk1⟩ := (rx.ext X2.toEx0).dkV R2 h1
        cases e2
        obtain ⟨b, ys, rfl, hnb, hpb, rk2⟩ := ry.dkV R2 h2
        have hc' := (dkD_loc h1).2
        have hab : a ≠ b := fun z => by
          subst z
          exact hz.1 (nd_get R2.nd hn' hnb)
        have Xw : Ext w2 (w2.wr n a (.dK (mergeK xs ys)) (.dk (mergeKD l m'))) := wr_ext R2 hn' hc' (by intro z; cases z)
        refine ⟨b, xs, ys, rfl, hab, hp', hpb, by rw [← rk1.klen, ← rk2.klen, sizeLine_eq]; omega, ?_⟩
        exact P2 (w2.wr n a (.dK (mergeK xs ys)) (.dk (mergeKD l m'))) .non Xw (R2.wr hn' hc' (by intro z; cases z) ⟨_, upd_same, (rk2.merge rk1).ext Xw.toEx0⟩) rfl .non
      · exact False.elim P2
    · exact False.elim P2
  · exact False.elim P1
def eNx (m : EM) : EM := fun e S => noX (m e S)
theorem re_noX {W' : WX} {m : EM} (h : RE X W e m) : RE X W' e (eNx m) := by
  refine pe_imp h ?_
  rintro s H Q ⟨w, en, rfl, R, E, P⟩
  exact ⟨w, en, rfl, R, E, Post.noX (E := fun cls dd H' => W' cls dd s H') P⟩
end
end G
namespace G
open PySem L2 PySem.Spec PyProof.Rows
open PySem.SeqAt
open AutoSeq1 (wpAny_loadPart')
theorem tuple_eq_declines_dict (l b : Addr) (items : Array Value) (n : Nat) (dd : Option Addr) (sl : Array (Option Value)) :
    Meets (Builtin.«tuple.__eq__» ⟨[.ref l, .ref b], []⟩) (fun _ R s => s.heap.get? l = some { cls := .type "tuple", dict := dd, data := .seq items n, slots := sl } ∧ (∃ o, s.heap.get? b = some o ∧ o.cls = .type "dict") ∧ R (.ok (.ret .notImplemented)) s) :=
  .of_wp fun prog w A R s h => by
    obtain ⟨hp, g, d, tk, os⟩ := s; obtain ⟨hl, ⟨⟨cls2, dd2, data2, sl2⟩, hb, hc⟩, h⟩ := h
    simp only at hc
    subst hc
    have f1 := F.sub_dict_tuple
    wp_walk using wpAny_loadPart' hl, wpAny_loadPart' hb
    exact ⟨_, rfl, h⟩
section
variable {prog : Program} {w : World} {K : Type} [DecidableEq K] {knd : KeyKind prog w K} {A : Around} {E : Value → Shared → Prop} {s : Shared}
theorem dict_eq_declines {a b : Addr} {ka : List (K × Value)} {items : Array Value} {Q : Value → Shared → Prop} (da : s.heap.DictOf knd a ka) (hb : s.heap.IsTuple b items) (h : Q .notImplemented s) :
    wpAny (model prog w) A (call (.builtin "dict.__eq__") [.ref a, .ref b]) Q E s := by
  have tb : s.TypeIs (.ref b) "tuple" := by obtain ⟨o, ho, hc, _⟩ := hb; exact ⟨o, ho, hc⟩
  refine wpAny_call_entry PySem.F.slot_dict_eq da.typeIs PySem.F.entry_dict_eq ?_ (PySem.F.args_dict_eq_2 _ _)
  show wpAny _ _ (Builtin.Dict.dictSlotArgs "__eq__" ⟨[.ref a, .ref b], []⟩ >>= _) _ _ s
  refine wpAny_bind ?_
  unfold Builtin.Dict.dictSlotArgs
  refine wpAny_bind (wpAny_notOrdered_dict da.typeIs ?_)
  show wpAny _ _ (pure (Value.ref a, Value.ref b)) _ _ s
  refine wpAny_pure ?_
  refine wpAny_bind (wpAny_isInstance (T := "tuple") tb PySem.F.sub_tuple_dict ?_)
  simp only [Bool.not_false, if_true]
  refine wpAny_bind (wpAny_rule ?_)
  refine wpAny_pure ?_
  exact ⟨_, rfl, h⟩
theorem rc_dict_tuple {a b : Addr} {ka : List (K × Value)} {items : Array Value} {Q : Value → Shared → Prop} (da : s.heap.DictOf knd a ka) (hb : s.heap.IsTuple b items) (hu : A.units < cLine) (h : Q (.bool false) s) :
    wpAny (model prog w) A (richCompare .Eq (.ref a) (.ref b)) Q E s := by
  obtain ⟨⟨cls2, dd2, data2, sl2⟩, ho2, hc2, n2, hd2⟩ := id hb
  obtain ⟨o, es, ep, ho, hc, _⟩ := id da
  simp only at hc2 hd2
  subst hc2 hd2
  have hcl : o.cls = .type "dict" := hc.1
  have hne : a ≠ b := fun e => by
    subst e
    rw [ho] at ho2
    cases ho2
    exact absurd hcl (by simp)
  exact (rc_eq_decline_or (k := false) da.typeIs ⟨_, ho2, rfl⟩ (by decide) PySem.F.sub_tuple_dict PySem.F.slot_dict_eq PySem.F.slot_tuple_eq_refl
    (fun _ hq => dict_eq_declines da hb hq)
    (fun _ hq => call_meets PySem.F.slot_tuple_eq_refl ⟨_, ho2, rfl⟩ PySem.F.entry_tuple_eq (PySem.F.args_tuple_eq_2 _ _) (tuple_eq_declines_dict b a items n2 dd2 sl2) ⟨ho2, ⟨o, ho, hcl⟩, hq⟩)
    (fun _ hq => wpAny_isSame_ref_other hne ho ho2 (by rw [hcl]; simp) hq) (.inr hu) h)
end
section
variable {X : Cx} {W : WX} {a b : Expr} {ma mb : EM} {pos : Pos}
def dEqU (x y : D) : Option D := match x, y with
  | .dic _ _, .tup _ => some (.bl false)
  | x, y => dEq x y
def dNeU (x y : D) : Option D := match x, y with
  | .tup l, .tup [] => some (.bl (!l.isEmpty))
  | x, y => dNe x y
theorem om_eqU (hu : X.A.units + 64 < cLine) : OpR X (compareOp .Eq) (OpM X dEqU) := by
  intro pins s σ H x y v u Q I rx ry h
  obtain ⟨w, dx, dy, E, rfl, R, qx, qy, P⟩ := h
  unfold dEqU at P
  split at P
  · cases qx with
    | dic st hz r =>
      rename_i ks l m a vs
      cases qy with
      | tup st2 r2 =>
        cases (show v = Value.ref _ from rx)
        cases (show u = Value.ref _ from ry)
        obtain ⟨its, r1, p1, _⟩ := I.tuple st2.sq
        obtain ⟨_, _, ws, _, dd⟩ := dk_of I.hok st.1
        exact rc_dict_tuple dd p1 (by omega) ⟨.bl false, w.hp, I, rfl, Post.now P R (.bl _)⟩
  · exact om_eq hu pins s σ w.hp x y v u Q I rx ry ⟨w, dx, dy, E, rfl, R, qx, qy, P⟩
theorem om_neU (hu : X.A.units + 64 < cLine) : OpR X (compareOp .NotEq) (OpM X dNeU) := by
  intro pins s σ H x y v u Q I rx ry h
  obtain ⟨w, dx, dy, E, rfl, R, qx, qy, P⟩ := h
  unfold dNeU at P
  split at P
  · rename_i l
    cases qx with
    | tup st r =>
      cases qy with
      | tup st2 r2 =>
        cases (show v = Value.ref _ from rx)
        cases (show u = Value.ref _ from ry)
        obtain ⟨its, q1, p1, _⟩ := I.tuple st.sq
        obtain ⟨its2, q2, p2, _⟩ := I.tuple st2.sq
        cases r2
        cases q2
        have hl : its.length = l.length := by rw [← q1.length, ← r.length]
        refine SeqAt.RcNeAt.tuples (e := fun _ => true) p1 p2 (by omega) (fun j _ h2 => absurd h2 (by simp)) _ _ _ _ ⟨.bl (!l.isEmpty), w.hp, I, ?_, Post.now P R (.bl _)⟩
        show Value.bool _ = Value.bool _
        cases its with
        | nil =>
          cases l with
          | nil => rfl
          | cons _ _ => simp at hl
        | cons _ _ =>
          cases l with
          | nil => simp at hl
          | cons _ _ => simp
  · exact om_ne hu pins s σ w.hp x y v u Q I rx ry ⟨w, dx, dy, E, rfl, R, qx, qy, P⟩
def slDA (S : Store) (d : D) (lo hi : Option Int) : Option D := match d with
  | .tup l => some (.tup (cutL l lo hi))
  | d => slD S d lo hi
theorem cutL_whole {α : Type} {l : List α} {lo hi : Option Int} (h : HT.sIx l.length 0 lo = 0 ∧ HT.sIx l.length l.length hi = l.length) : cutL l lo hi = l := by
  unfold cutL
  rw [h.1, h.2]
  simp
def SlMA (X : Cx) : V → Option Int → Option Int → Hp → VK → Prop := fun v lo hi H Q => ∃ w x E, w.hp = H ∧ Rep X.K X.mg w ∧ RepD X.K X.mg w x v ∧ Post (RepD X.K X.mg) X.K X.mg w (lf (slDA w.st x lo hi) w.st) Q E
theorem om_slA : SlR X (SlMA X) := by
  intro pins s σ H x v vl vu lo hi sl Q I rx hs pl pu h
  obtain ⟨w, dx, E, rfl, R, qx, P⟩ := h
  unfold slDA at P
  split at P
  · rename_i l
    cases qx with
    | tup st r =>
      refine sl_tupA pins s σ w.hp _ v vl vu _ _ sl Q I rx hs pl pu ⟨_, _, rfl, st.sq, fun hw => ?_, fun hn p hp => ?_⟩
      · rw [← r.length] at hw
        rw [cutL_whole hw] at P
        exact Post.now P R (.tup st r)
      · exact Post.put P R hp (.tup (.inl (put_st R hp).o) ((r.cut _ _).ext (put_ext R hp).toEx0))
  · exact om_sl pins s σ w.hp x v vl vu lo hi sl Q I rx hs pl pu ⟨w, dx, E, rfl, R, qx, P⟩
def eSlA (a : EM) (lo hi : OM) : EM := fun e S => (a e S).bind fun x S1 => (lo e S1).bind fun l S2 => (hi e S2).bind fun h S3 => lf (slDA S3 x l h) S3
theorem re_slA {lo hi : Option Expr} {ml mh : OM} {p2 : Pos} (ha : RE X W a ma) (hl : RO X W lo ml) (hh : RO X W hi mh) : RE X W (.Subscript a (.Slice lo hi none p2) pos) (eSlA ma ml mh) := by
  refine pe_imp (pe_slice om_slA ha hl hh) ?_
  rintro s H Q ⟨w, en, rfl, R, E, P⟩
  refine ⟨w, en, rfl, R, E, (Post.bind P).imp ?_⟩
  rintro v H1 ⟨w1, x, rfl, X1, R1, rx, P1⟩
  refine ⟨w1, en, rfl, R1, E.ext X1.toEx0, (Post.bind P1).imp ?_⟩
  rintro l H2 ⟨w2, y, rfl, X2, R2, ry, P2⟩
  cases ry
  refine ⟨w2, en, rfl, R2, (E.ext X1.toEx0).ext X2.toEx0, (Post.bind P2).imp ?_⟩
  rintro h H3 ⟨w3, z, rfl, X3, R3, rz, P3⟩
  cases rz
  exact ⟨w3, x, _, rfl, R3, (rx.ext X2.toEx0).ext X3.toEx0, P3⟩
def dInK (neg : Bool) (S : Store) (x y : D) : Option D := match dkD S y with
  | some (_, kvs) => (keyD x).map fun k => .bl (if neg then !(valD kvs k).isSome else (valD kvs k).isSome)
  | none => none
theorem valK_some {w : Wo} {kvs : List (Key × D)} {us : List (Key × V)} {k : Key} (r : RepK Key X.K X.mg w kvs us) : (valD kvs k).isSome = (valV us k).isSome := by
  cases e : valD kvs k with
  | none => rw [r.valN e]; rfl
  | some d =>
    obtain ⟨v, e1, _⟩ := r.val e
    rw [e1]; rfl
theorem om_notInK (hu : X.A.units + 64 < cLine) : OpR X (compareOp .NotIn) (OpMS X (dInK true)) := by
  intro pins s σ H x y v u Q I rx ry h
  obtain ⟨w, dx, dy, E, rfl, R, qx, qy, P⟩ := h
  unfold dInK at P
  split at P
  · rename_i n kvs hd
    obtain ⟨a, us, rfl, hn, hp, rk⟩ := qy.dkV R hd
    cases hk : keyD dx with
    | none => rw [hk] at P; exact False.elim P
    | some k =>
      rw [hk] at P
      have ek := qx.key hk
      subst ek
      cases (show u = Value.ref a from ry)
      exact d_notIn (by omega) I (DGet.k hp) rx fun s' I' => ⟨.bl _, w.hp, I', rfl, Post.now P R (by rw [← valK_some rk]; exact .bl _)⟩
  · exact False.elim P
def dIsNotB : D → D → Option D
  | .bl a, .bl b => some (.bl (!decide (a = b)))
  | _, _ => none
theorem om_isNotB : OpR X (compareOp .IsNot) (OpM X dIsNotB) := by
  intro pins s σ H x y v u Q I rx ry h
  obtain ⟨w, dx, dy, E, rfl, R, qx, qy, P⟩ := h
  unfold dIsNotB at P
  split at P
  · cases qx; cases qy
    exact op_notBl pins s σ w.hp _ _ v u Q I rx ry ⟨_, _, rfl, rfl, Post.now P R (.bl _)⟩
  · exact False.elim P
end
end G
namespace G
open PySem
def Wr {β : Type} (r : Res β) (Q : β → Store → Prop) (X : D → Store → Prop) : Prop := match r with
  | .ok b S => Q b S
  | .exc e S => X e S
  | .stuck => False
structure KS where
  nx : En → Store → Prop
  rt : D → Store → Prop
  bk : En → Store → Prop
  ct : En → Store → Prop
  ex : D → En → Store → Prop
def Ws (r : SRes) (k : KS) : Prop := match r with
  | .nxt e S => k.nx e S
  | .ret d S => k.rt d S
  | .brk e S => k.bk e S
  | .cnt e S => k.ct e S
  | .exc x e S => k.ex x e S
  | .stuck => False
abbrev QP (β : Type) := β → Store → Prop
section
variable {β γ : Type} {Q : β → Store → Prop} {QD : D → Store → Prop} {QB : Bool → Store → Prop} {QL : List D → Store → Prop} {QO : Option Int → Store → Prop} {QE : En → Store → Prop} {X : D → Store → Prop} {k : KS} {e : En} {S S1 : Store} {a b c : EM} {t u : TM} {m n : SM} {am : AM} {x y d : D} {z : Bool} {xs ds : List D}
theorem wr_ok (z : β) : Wr (.ok z S) Q X = Q z S := rfl
theorem wr_exc (z : D) : Wr (.exc z S : Res β) Q X = X z S := rfl
theorem wr_stuck : Wr (.stuck : Res β) Q X = False := rfl
theorem wr_bind {r : Res γ} {f : γ → Store → Res β} : Wr (r.bind f) Q X = Wr r (fun b S => Wr (f b S) Q X) X := by cases r <;> rfl
theorem wr_guard {p : Prop} [Decidable p] {r : Res β} : Wr (if p then r else .stuck) Q X = (p ∧ Wr r Q X) := by
  by_cases h : p
  · rw [if_pos h]; simp [h]
  · rw [if_neg h]; simp [h, wr_stuck]
def nX : D → Store → Prop := fun _ _ => False
theorem wr_lf (z : β) : Wr (lf (some z) S) Q X = Q z S := rfl
theorem wr_eC : Wr (eC d e S) QD X = QD d S := rfl
def evQ (o : Option (Option D)) (S : Store) (Q : D → Store → Prop) : Prop := match o with
  | some (some d) => Q d S
  | _ => False
theorem evQ_some : evQ (some (some d)) S QD = QD d S := rfl
theorem wr_eVar (i : Nat) : Wr (eVar i e S) QD X = evQ e[i]? S QD := by
  unfold eVar evQ
  cases e[i]? with
  | none => rfl
  | some o => cases o <;> rfl
def cB2 (f : D → D → Option D) (x : D) (Q X : QP D) : QP D := fun y S => Wr (lf (f x y) S) Q X
def cB1 (f : D → D → Option D) (b : EM) (e : En) (Q X : QP D) : QP D := fun x S => Wr (b e S) (cB2 f x Q X) X
theorem cB2_s (f : D → D → Option D) : cB2 f x QD X y S = Wr (lf (f x y) S) QD X := rfl
theorem cB1_s (f : D → D → Option D) : cB1 f b e QD X x S = Wr (b e S) (cB2 f x QD X) X := rfl
theorem wr_eBin (f : D → D → Option D) : Wr (eBin f a b e S) QD X = Wr (a e S) (cB1 f b e QD X) X := by
  unfold eBin; simp only [wr_bind]; rfl
def cS2 (f : Store → D → D → Option D) (x : D) (Q X : QP D) : QP D := fun y S => Wr (lf (f S x y) S) Q X
def cS1 (f : Store → D → D → Option D) (b : EM) (e : En) (Q X : QP D) : QP D := fun x S => Wr (b e S) (cS2 f x Q X) X
theorem cS2_s (f : Store → D → D → Option D) : cS2 f x QD X y S = Wr (lf (f S x y) S) QD X := rfl
theorem cS1_s (f : Store → D → D → Option D) : cS1 f b e QD X x S = Wr (b e S) (cS2 f x QD X) X := rfl
theorem wr_eBinS (f : Store → D → D → Option D) : Wr (eBinS f a b e S) QD X = Wr (a e S) (cS1 f b e QD X) X := by
  unfold eBinS; simp only [wr_bind]; rfl
def asQ (Q : Bool → Store → Prop) : QP D := fun x S => match x with
  | .bl b => Q b S
  | _ => False
theorem asQ_bl : asQ QB (.bl z) S = QB z S := rfl
theorem wr_tB : Wr (tB a e S) QB X = Wr (a e S) (asQ QB) X := by
  unfold tB; rw [wr_bind]; congr; funext x S1; cases x <;> rfl
def truQ (Q : QP Bool) (X : QP D) : QP D := fun x S => Wr (lf (truD S x) S) Q X
theorem truQ_s : truQ QB X x S = Wr (lf (truD S x) S) QB X := rfl
theorem wr_tT : Wr (tT a e S) QB X = Wr (a e S) (truQ QB X) X := by unfold tT; rw [wr_bind]; rfl
def notQ (Q : QP Bool) : QP Bool := fun b S => Q (!b) S
theorem notQ_s : notQ QB z S = QB (!z) S := rfl
theorem wr_tNt : Wr (tNt t e S) QB X = Wr (t e S) (notQ QB) X := by unfold tNt; rw [wr_bind]; rfl
def anQ (u : TM) (e : En) (Q : QP Bool) (X : QP D) : QP Bool := fun b S => match b with
  | true => Wr (u e S) Q X
  | false => Q false S
theorem anQ_t : anQ u e QB X true S = Wr (u e S) QB X := rfl
theorem anQ_f : anQ u e QB X false S = QB false S := rfl
theorem wr_tAn : Wr (tAn t u e S) QB X = Wr (t e S) (anQ u e QB X) X := by
  unfold tAn; rw [wr_bind]; congr; funext b S1; cases b <;> rfl
def orQ (u : TM) (e : En) (Q : QP Bool) (X : QP D) : QP Bool := fun b S => match b with
  | true => Q true S
  | false => Wr (u e S) Q X
theorem orQ_t : orQ u e QB X true S = QB true S := rfl
theorem orQ_f : orQ u e QB X false S = Wr (u e S) QB X := rfl
theorem wr_tOr : Wr (tOr' t u e S) QB X = Wr (t e S) (orQ u e QB X) X := by
  unfold tOr'; rw [wr_bind]; congr; funext b S1; cases b <;> rfl
def eaB (b : EM) (e : En) (x : D) (Q X : QP D) : QP Bool := fun z S => match z with
  | true => Wr (b e S) Q X
  | false => Q x S
def eaQ (b : EM) (e : En) (Q X : QP D) : QP D := fun x S => Wr (lf (truD S x) S) (eaB b e x Q X) X
theorem eaB_t : eaB b e x QD X true S = Wr (b e S) QD X := rfl
theorem eaB_f : eaB b e x QD X false S = QD x S := rfl
theorem eaQ_s : eaQ b e QD X x S = Wr (lf (truD S x) S) (eaB b e x QD X) X := rfl
theorem wr_eAn : Wr (eAn a b e S) QD X = Wr (a e S) (eaQ b e QD X) X := by
  unfold eAn; rw [wr_bind]; congr; funext b S1; rw [wr_bind, eaQ_s]; congr; funext b S1; cases b <;> rfl
def eoB (b : EM) (e : En) (x : D) (Q X : QP D) : QP Bool := fun z S => match z with
  | true => Q x S
  | false => Wr (b e S) Q X
def eoQ (b : EM) (e : En) (Q X : QP D) : QP D := fun x S => Wr (lf (truD S x) S) (eoB b e x Q X) X
theorem eoB_t : eoB b e x QD X true S = QD x S := rfl
theorem eoB_f : eoB b e x QD X false S = Wr (b e S) QD X := rfl
theorem eoQ_s : eoQ b e QD X x S = Wr (lf (truD S x) S) (eoB b e x QD X) X := rfl
theorem wr_eOr : Wr (eOr a b e S) QD X = Wr (a e S) (eoQ b e QD X) X := by
  unfold eOr; rw [wr_bind]; congr; funext b S1; rw [wr_bind, eoQ_s]; congr; funext b S1; cases b <;> rfl
def enB (Q : QP D) : QP Bool := fun z S => Q (.bl (!z)) S
def enQ (Q X : QP D) : QP D := fun x S => Wr (lf (truD S x) S) (enB Q) X
theorem enB_s : enB QD z S = QD (.bl (!z)) S := rfl
theorem enQ_s : enQ QD X x S = Wr (lf (truD S x) S) (enB QD) X := rfl
theorem wr_eNt : Wr (eNt a e S) QD X = Wr (a e S) (enQ QD X) X := by
  unfold eNt; rw [wr_bind]; congr; funext b S1; rw [wr_bind]; rfl
def eiQ (a b : EM) (e : En) (Q X : QP D) : QP Bool := fun z S => match z with
  | true => Wr (a e S) Q X
  | false => Wr (b e S) Q X
theorem eiQ_t : eiQ a b e QD X true S = Wr (a e S) QD X := rfl
theorem eiQ_f : eiQ a b e QD X false S = Wr (b e S) QD X := rfl
theorem wr_eIf : Wr (eIf t a b e S) QD X = Wr (t e S) (eiQ a b e QD X) X := by
  unfold eIf; rw [wr_bind]; congr; funext b S1; cases b <;> rfl
def negQ (Q : QP D) : QP D := fun x S => match x with
  | .int i => Q (.int (-i)) S
  | _ => False
theorem negQ_int (i : Int) : negQ QD (.int i) S = QD (.int (-i)) S := rfl
theorem wr_eNeg : Wr (eNeg a e S) QD X = Wr (a e S) (negQ QD) X := by
  unfold eNeg; rw [wr_bind]; congr; funext x S1; cases x <;> rfl
theorem wr_aNil : Wr (aNil e S) QL X = QL [] S := rfl
def cC2 (x : D) (Q : QP (List D)) : QP (List D) := fun xs S => Q (x :: xs) S
def cC1 (am : AM) (e : En) (Q : QP (List D)) (X : QP D) : QP D := fun x S => Wr (am e S) (cC2 x Q) X
theorem cC2_s : cC2 x QL xs S = QL (x :: xs) S := rfl
theorem cC1_s : cC1 am e QL X x S = Wr (am e S) (cC2 x QL) X := rfl
theorem wr_aCons : Wr (aCons a am e S) QL X = Wr (a e S) (cC1 am e QL X) X := by
  unfold aCons; rw [wr_bind]; congr; funext x S1; rw [wr_bind]; rfl
def tupQ (Q : QP D) : QP (List D) := fun xs S => xs.length ≤ sizeLine ∧ Q (.tup xs) S
def lstQ (Q : QP D) : QP (List D) := fun xs S => xs.length ≤ sizeLine ∧ Q (.lst xs) S
def newQ (Q : QP D) : QP (List D) := fun xs S => xs.length ≤ sizeLine ∧ Q (.loc S.length) (S ++ [.lst xs])
theorem tupQ_s : tupQ QD xs S = (xs.length ≤ sizeLine ∧ QD (.tup xs) S) := rfl
theorem lstQ_s : lstQ QD xs S = (xs.length ≤ sizeLine ∧ QD (.lst xs) S) := rfl
theorem newQ_s : newQ QD xs S = (xs.length ≤ sizeLine ∧ QD (.loc S.length) (S ++ [.lst xs])) := rfl
theorem wr_eTup : Wr (eTup am e S) QD X = Wr (am e S) (tupQ QD) X := by
  unfold eTup; rw [wr_bind]; congr; funext xs S1; rw [wr_guard]; rfl
theorem wr_eLst : Wr (eLst am e S) QD X = Wr (am e S) (lstQ QD) X := by
  unfold eLst; rw [wr_bind]; congr; funext xs S1; rw [wr_guard]; rfl
theorem wr_eNew : Wr (eNew am e S) QD X = Wr (am e S) (newQ QD) X := by
  unfold eNew; rw [wr_bind]; congr; funext xs S1; rw [wr_guard]; rfl
def caQ (f : Store → List D → Option D) (Q X : QP D) : QP (List D) := fun xs S => Wr (lf (f S xs) S) Q X
theorem caQ_s (f : Store → List D → Option D) : caQ f QD X xs S = Wr (lf (f S xs) S) QD X := rfl
theorem wr_eCa (f : Store → List D → Option D) : Wr (eCa f am e S) QD X = Wr (am e S) (caQ f QD X) X := by unfold eCa; rw [wr_bind]; rfl
def clQ (f : FM) (Q X : QP D) : QP (List D) := fun xs S => Wr (f xs S) Q X
theorem clQ_s (f : FM) : clQ f QD X xs S = Wr (f xs S) QD X := rfl
theorem wr_eCall (f : FM) : Wr (eCall f am e S) QD X = Wr (am e S) (clQ f QD X) X := by unfold eCall; rw [wr_bind]; rfl
def nAQ (i : Nat) (Q : QP (List D)) : QP (List D) := fun xs S => xs.length = i ∧ Q xs S
theorem nAQ_s (i : Nat) : nAQ i QL xs S = (xs.length = i ∧ QL xs S) := rfl
theorem wr_nA (i : Nat) : Wr (nA i am e S) QL X = Wr (am e S) (nAQ i QL) X := by
  unfold nA; rw [wr_bind]; congr; funext xs S1; rw [wr_guard]; rfl
def tyQ (y : Ty) (Q X : QP D) : QP D := fun x S => Wr (lf ((isTy S y x).map .bl) S) Q X
theorem tyQ_s (y : Ty) : tyQ y QD X x S = Wr (lf ((isTy S y x).map .bl) S) QD X := rfl
theorem wr_eIsTy (y : Ty) : Wr (eIsTy y a e S) QD X = Wr (a e S) (tyQ y QD X) X := by unfold eIsTy; rw [wr_bind]; rfl
def icQ (tb : Nat → Option Bool) (Q X : QP D) : QP D := fun x S => Wr (lf ((isC tb x).map .bl) S) Q X
theorem icQ_s (tb : Nat → Option Bool) : icQ tb QD X x S = Wr (lf ((isC tb x).map .bl) S) QD X := rfl
theorem wr_eIsC (tb : Nat → Option Bool) : Wr (eIsC tb a e S) QD X = Wr (a e S) (icQ tb QD X) X := by unfold eIsC; rw [wr_bind]; rfl
def mt2 (f : Store → D → List D → Option D) (x : D) (Q X : QP D) : QP (List D) := fun xs S => Wr (lf (f S x xs) S) Q X
def mt1 (f : Store → D → List D → Option D) (am : AM) (e : En) (Q X : QP D) : QP D := fun x S => (seqD S x).isSome = true ∧ Wr (am e S) (mt2 f x Q X) X
theorem mt2_s (f : Store → D → List D → Option D) : mt2 f x QD X xs S = Wr (lf (f S x xs) S) QD X := rfl
theorem mt1_s (f : Store → D → List D → Option D) : mt1 f am e QD X x S = ((seqD S x).isSome = true ∧ Wr (am e S) (mt2 f x QD X) X) := rfl
theorem wr_eMt (f : Store → D → List D → Option D) : Wr (eMt f a am e S) QD X = Wr (a e S) (mt1 f am e QD X) X := by
  unfold eMt; rw [wr_bind]; congr; funext x S1; rw [wr_guard, wr_bind]; rfl
theorem wr_oNone : Wr (oNone e S) QO X = QO none S := rfl
def oQ (Q : Option Int → Store → Prop) : QP D := fun x S => match x with
  | .int i => Q (some i) S
  | _ => False
theorem oQ_int (i : Int) : oQ QO (.int i) S = QO (some i) S := rfl
theorem wr_oSome : Wr (oSome a e S) QO X = Wr (a e S) (oQ QO) X := by
  unfold oSome; rw [wr_bind]; congr; funext x S1; cases x <;> rfl
def sl3 (x : D) (i : Option Int) (Q X : QP D) : QP (Option Int) := fun j S => Wr (lf (slD S x i j) S) Q X
def sl2 (x : D) (h : OM) (e : En) (Q X : QP D) : QP (Option Int) := fun i S => Wr (h e S) (sl3 x i Q X) X
def sl1 (l h : OM) (e : En) (Q X : QP D) : QP D := fun x S => Wr (l e S) (sl2 x h e Q X) X
theorem sl3_s (i j : Option Int) : sl3 x i QD X j S = Wr (lf (slD S x i j) S) QD X := rfl
theorem sl2_s (h : OM) (i : Option Int) : sl2 x h e QD X i S = Wr (h e S) (sl3 x i QD X) X := rfl
theorem sl1_s (l h : OM) : sl1 l h e QD X x S = Wr (l e S) (sl2 x h e QD X) X := rfl
theorem wr_eSl (l h : OM) : Wr (eSl a l h e S) QD X = Wr (a e S) (sl1 l h e QD X) X := by
  unfold eSl; simp only [wr_bind]; rfl
def kk2 (f : FM) (g : List D → List D → List D) (i j : Nat) (ds : List D) (Q X : QP D) : QP (List D) := fun zs S => (ds.length = i ∧ zs.length = j) ∧ Wr (f (g ds zs) S) Q X
def kk1 (f : FM) (g : List D → List D → List D) (i j : Nat) (mk : AM) (e : En) (Q X : QP D) : QP (List D) := fun ds S => Wr (mk e S) (kk2 f g i j ds Q X) X
theorem kk2_s (f : FM) (g : List D → List D → List D) (i j : Nat) : kk2 f g i j ds QD X xs S = ((ds.length = i ∧ xs.length = j) ∧ Wr (f (g ds xs) S) QD X) := rfl
theorem kk1_s (f : FM) (g : List D → List D → List D) (i j : Nat) (mk : AM) : kk1 f g i j mk e QD X ds S = Wr (mk e S) (kk2 f g i j ds QD X) X := rfl
theorem wr_eCallK (f : FM) (g : List D → List D → List D) (i j : Nat) (mk : AM) : Wr (eCallK f g i j am mk e S) QD X = Wr (am e S) (kk1 f g i j mk e QD X) X := by
  unfold eCallK; rw [wr_bind]; congr; funext ds S1; rw [wr_bind, kk1_s]; congr; funext zs S2; rw [wr_guard]; rfl
def kk0 (f : FM) (g : List D → List D → List D) (j : Nat) (Q X : QP D) : QP (List D) := fun zs S => zs.length = j ∧ Wr (f (g [] zs) S) Q X
theorem kk0_s (f : FM) (g : List D → List D → List D) (j : Nat) : kk0 f g j QD X xs S = (xs.length = j ∧ Wr (f (g [] xs) S) QD X) := rfl
theorem wr_eCallK0 (f : FM) (g : List D → List D → List D) (j : Nat) (mk : AM) : Wr (eCallK0 f g j mk e S) QD X = Wr (mk e S) (kk0 f g j QD X) X := by
  unfold eCallK0; rw [wr_bind]; congr; funext zs S2; rw [wr_guard]; rfl
theorem wr_noX {r : Res β} : Wr (noX r) Q X = Wr r Q nX := by cases r <;> rfl
theorem wr_gN (i : Nat) : Wr (gN i d e S) QE X = QE (e.set i (some d)) S := rfl
def sb3 (e : En) (Q : QP En) (o : Option Store) : Prop := match o with
  | some S => Q e S
  | none => False
theorem sb3_s : sb3 e QE (some S) = QE e S := rfl
def sb2 (d x : D) (e : En) (Q : QP En) : QP D := fun y S => sb3 e Q (setD S x y d)
def sb1 (d : D) (i : EM) (e : En) (Q : QP En) : QP D := fun x S => Wr (i e S) (sb2 d x e Q) nX
theorem sb2_s : sb2 d x e QE y S = sb3 e QE (setD S x y d) := rfl
theorem sb1_s (i : EM) : sb1 d i e QE x S = Wr (i e S) (sb2 d x e QE) nX := rfl
theorem wr_gSb (o i : EM) : Wr (gSb o i d e S) QE X = Wr (o e S) (sb1 d i e QE) nX := by
  unfold gSb; rw [wr_bind, wr_noX]; congr; funext x S1; rw [wr_bind, wr_noX, sb1_s]; congr; funext y S2; rw [sb2_s]; cases h : setD S2 x y d <;> rfl
theorem wr_gsNil : Wr (gsNil [] e S) QE X = QE e S := rfl
def gs1 (r : GMs) (ds : List D) (Q : QP En) : QP En := fun e S => Wr (r ds e S) Q nX
theorem gs1_s (r : GMs) : gs1 r ds QE e S = Wr (r ds e S) QE nX := rfl
theorem wr_gsCons (g : GM) (r : GMs) (ds : List D) : Wr (gsCons' g r (d :: ds) e S) QE X = Wr (g d e S) (gs1 r ds QE) nX := by
  show Wr ((noX (g d e S)).bind fun e1 S1 => noX (r ds e1 S1)) QE X = _
  rw [wr_bind, wr_noX]; congr; funext x S1; rw [wr_noX]; rfl
theorem wr_gTp (i : Nat) (r : GMs) (ds : List D) : Wr (gTp i r (.tup ds) e S) QE X = (ds.length = i ∧ Wr (r ds e S) QE X) := by
  show Wr (if ds.length = i then r ds e S else .stuck) QE X = _
  rw [wr_guard]
def KS.sq (k : KS) (n : SM) : KS := ⟨fun e S => Ws (n e S) k, k.rt, k.bk, k.ct, k.ex⟩
def KS.xe (k : KS) (e : En) : QP D := fun x S => k.ex x e S
theorem xe_s : k.xe e x S = k.ex x e S := rfl
theorem sq_nx : (k.sq n).nx e S = Ws (n e S) k := rfl
theorem sq_rt : (k.sq n).rt = k.rt := rfl
theorem sq_bk : (k.sq n).bk = k.bk := rfl
theorem sq_ct : (k.sq n).ct = k.ct := rfl
theorem sq_ex : (k.sq n).ex = k.ex := rfl
theorem sq_xe : (k.sq n).xe e = k.xe e := rfl
theorem ws_nxt : Ws (.nxt e S) k = k.nx e S := rfl
theorem ws_sS {r : SRes} : Ws (sS r n) k = Ws r (k.sq n) := by cases r <;> rfl
theorem ws_sE {r : Res β} {f : β → Store → SRes} : Ws (sE r e f) k = Wr r (fun z S1 => Ws (f z S1) k) (k.xe e) := by cases r <;> rfl
theorem ws_sNop : Ws (sNop e S) k = k.nx e S := rfl
theorem ws_sSeq : Ws (sSeq m n e S) k = Ws (m e S) (k.sq n) := ws_sS
theorem ws_sBrk : Ws (sBrk e S) k = k.bk e S := rfl
theorem ws_sCnt : Ws (sCnt e S) k = k.ct e S := rfl
def dropQ (k : KS) (e : En) : QP D := fun _ S => k.nx e S
theorem dropQ_s : dropQ k e x S = k.nx e S := rfl
theorem ws_sDrop : Ws (sDrop a e S) k = Wr (a e S) (dropQ k e) (k.xe e) := ws_sE
theorem ws_sRet : Ws (sRet a e S) k = Wr (a e S) k.rt (k.xe e) := ws_sE
theorem ws_sRetN : Ws (sRetN e S) k = k.rt .non S := rfl
def ifQ (m n : SM) (e : En) (k : KS) : QP Bool := fun z S => match z with
  | true => Ws (m e S) k
  | false => Ws (n e S) k
theorem ifQ_t : ifQ m n e k true S = Ws (m e S) k := rfl
theorem ifQ_f : ifQ m n e k false S = Ws (n e S) k := rfl
theorem ws_sIf : Ws (sIf t m n e S) k = Wr (t e S) (ifQ m n e k) (k.xe e) := by
  unfold sIf; rw [ws_sE]; congr; funext z S1; cases z <;> rfl
def asg1 (g : GM) (e : En) (k : KS) : QP D := fun d S => Wr (g d e S) k.nx (k.xe e)
theorem asg1_s (g : GM) : asg1 g e k d S = Wr (g d e S) k.nx (k.xe e) := rfl
theorem ws_sAsg (g : GM) : Ws (sAsg a g e S) k = Wr (a e S) (asg1 g e k) (k.xe e) := by
  unfold sAsg; rw [ws_sE]; congr; funext z S1; rw [ws_sE]; rfl
def setQ (i : Nat) (e : En) (k : KS) : QP D := fun d S => k.nx (e.set i (some d)) S
theorem setQ_s (i : Nat) : setQ i e k d S = k.nx (e.set i (some d)) S := rfl
theorem ws_sSet (i : Nat) : Ws (sSet i a e S) k = Wr (a e S) (setQ i e k) (k.xe e) := by
  unfold sSet; rw [ws_sE]; rfl
def parQ (i j : Nat) (e : En) (k : KS) (ds : List D) (S : Store) : Prop := match ds with
  | [x, y] => k.nx ((e.set i (some x)).set j (some y)) S
  | _ => False
theorem parQ_s (i j : Nat) : parQ i j e k [x, y] S = k.nx ((e.set i (some x)).set j (some y)) S := rfl
theorem ws_sPar (i j : Nat) : Ws (sPar i j am e S) k = Wr (am e S) (parQ i j e k) (k.xe e) := by
  unfold sPar; rw [ws_sE]; congr; funext ds S1
  match ds with
  | [] => rfl
  | [_] => rfl
  | [_, _] => rfl
  | _ :: _ :: _ :: _ => rfl
theorem ws_sRaise (i : Nat) : Ws (sRaise i e S) k = k.ex (.exc i []) e S := rfl
def KS.fn (Q : D → Store → Prop) (X : D → Store → Prop) : KS := ⟨fun _ S => Q .non S, Q, fun _ _ => False, fun _ _ => False, fun x _ S => X x S⟩
theorem fn_nx : (KS.fn QD X).nx e S = QD .non S := rfl
theorem fn_rt : (KS.fn QD X).rt = QD := rfl
theorem fn_ex : (KS.fn QD X).ex x e S = X x S := rfl
theorem fn_xe : (KS.fn QD X).xe e = X := rfl
theorem wr_fnM (i : Nat) (ds : List D) : Wr (fnM i m ds S) QD X = Ws (m (ds.map some ++ List.replicate (i - ds.length) none) S) (KS.fn QD X) := by
  unfold fnM
  show _ = Ws (m (enOf i ds) S) _
  cases m (enOf i ds) S <;> rfl
def KS.su (k : KS) (i : Nat) : KS := ⟨fun e S => k.nx (e.set i none) S, k.rt, fun e S => k.bk (e.set i none) S, fun e S => k.ct (e.set i none) S, fun _ _ _ => False⟩
theorem su_nx (i : Nat) : (k.su i).nx e S = k.nx (e.set i none) S := rfl
theorem su_bk (i : Nat) : (k.su i).bk e S = k.bk (e.set i none) S := rfl
theorem su_ct (i : Nat) : (k.su i).ct e S = k.ct (e.set i none) S := rfl
theorem su_rt (i : Nat) : (k.su i).rt = k.rt := rfl
def trQ (k : KS) (i : Nat) (n : SM) (x : D) (e : En) (S : Store) (o : Option Bool) : Prop := match o with
  | some true => Ws (n (e.set i (some x)) S) (k.su i)
  | some false => k.ex x e S
  | none => False
theorem trQ_t (i : Nat) : trQ k i n x e S (some true) = Ws (n (e.set i (some x)) S) (k.su i) := rfl
theorem trQ_f (i : Nat) : trQ k i n x e S (some false) = k.ex x e S := rfl
def KS.tr (k : KS) (i : Nat) (tb : Nat → Option Bool) (n : SM) : KS := ⟨k.nx, k.rt, k.bk, k.ct, fun x e S => match x with
  | .exc cn _ => trQ k i n x e S (tb cn)
  | _ => False⟩
theorem tr_nx (i : Nat) (tb : Nat → Option Bool) : (k.tr i tb n).nx = k.nx := rfl
theorem tr_rt (i : Nat) (tb : Nat → Option Bool) : (k.tr i tb n).rt = k.rt := rfl
theorem tr_bk (i : Nat) (tb : Nat → Option Bool) : (k.tr i tb n).bk = k.bk := rfl
theorem tr_ct (i : Nat) (tb : Nat → Option Bool) : (k.tr i tb n).ct = k.ct := rfl
theorem tr_ex (i : Nat) (tb : Nat → Option Bool) (cn : Nat) (fs : List (Nat × D)) : (k.tr i tb n).ex (.exc cn fs) e S = trQ k i n (.exc cn fs) e S (tb cn) := rfl
theorem ws_sTry (i : Nat) (tb : Nat → Option Bool) : Ws (sTry i tb m n e S) k = Ws (m e S) (k.tr i tb n) := by
  unfold sTry
  cases m e S with
  | exc x e1 S1 =>
    cases x with
    | exc cn fs =>
      show Ws (match tb cn with
        | some true => sSu i (n (e1.set i (some (.exc cn fs))) S1)
        | some false => .exc (.exc cn fs) e1 S1
        | none => .stuck) k = trQ k i n (.exc cn fs) e1 S1 (tb cn)
      cases tb cn with
      | none => rfl
      | some z =>
        cases z with
        | true =>
          show Ws (sSu i (n (e1.set i (some (.exc cn fs))) S1)) k = Ws _ _
          cases n (e1.set i (some (.exc cn fs))) S1 <;> rfl
        | false => rfl
    | _ => rfl
  | _ => rfl
def forQ (g : GM) (m : SM) (e : En) (k : KS) : QP (List D) := fun ds S => Ws (fiR g m ds e S) k
theorem forQ_s (g : GM) : forQ g m e k ds S = Ws (fiR g m ds e S) k := rfl
theorem ws_sFor (i : AM) (g : GM) : Ws (sFor i g m e S) k = Wr (i e S) (forQ g m e k) (k.xe e) := ws_sE
def KS.lp (k : KS) (I : En → Store → Prop) : KS := ⟨I, k.rt, k.nx, I, k.ex⟩
theorem lp_nx (I : En → Store → Prop) : (k.lp I).nx = I := rfl
theorem lp_rt (I : En → Store → Prop) : (k.lp I).rt = k.rt := rfl
theorem lp_bk (I : En → Store → Prop) : (k.lp I).bk = k.nx := rfl
theorem lp_ct (I : En → Store → Prop) : (k.lp I).ct = I := rfl
theorem lp_ex (I : En → Store → Prop) : (k.lp I).ex = k.ex := rfl
theorem lp_xe (I : En → Store → Prop) : (k.lp I).xe e = k.xe e := rfl
theorem ws_fi_nil (g : GM) : Ws (fiR g m [] e S) k = k.nx e S := rfl
def turnQ (g : GM) (m : SM) (ds : List D) (k : KS) : QP En := fun e S => Ws (fiR g m ds e S) k
def bodyQ (m : SM) (k : KS) : QP En := fun e S => Ws (m e S) k
theorem bodyQ_s : bodyQ m k e S = Ws (m e S) k := rfl
theorem ws_fi_cons (g : GM) (ds : List D) : Ws (fiR g m (d :: ds) e S) k = Wr (g d e S) (bodyQ m (k.lp (turnQ g m ds k))) (k.xe e) := by
  rw [fiR]
  rw [ws_sE]
  congr; funext e1 S1
  rw [bodyQ_s]
  cases m e1 S1 <;> rfl
theorem for_w {g : GM} {ds : List D} (I : Nat → En → Store → Prop) (h0 : I 0 e S)
    (st : ∀ i d e S, ds[i]? = some d → I i e S → Wr (g d e S) (bodyQ m (k.lp (I (i + 1)))) (k.xe e))
    (fin : ∀ e S, I ds.length e S → k.nx e S) : Ws (fiR g m ds e S) k := by
  induction ds generalizing I e S with
  | nil => exact fin e S h0
  | cons d ds ih =>
    rw [ws_fi_cons]
    have h1 := st 0 d e S rfl h0
    have mono : ∀ (r : SRes), Ws r (k.lp (I 1)) → Ws r (k.lp (turnQ g m ds k)) := by
      intro r h
      have go : ∀ e S, I 1 e S → Ws (fiR g m ds e S) k := fun e S hI => ih (fun i => I (i + 1)) hI (fun i d e S hd => st (i + 1) d e S (by simpa using hd)) (fun e S => fin e S)
      cases r with
      | nxt e S => exact go e S h
      | cnt e S => exact go e S h
      | _ => exact h
    revert h1
    cases g d e S with
    | ok e1 S1 => exact fun h1 => mono _ h1
    | exc x S1 => exact id
    | stuck => exact id
theorem for_i {g : GM} {ds : List D} (I : En → Store → Prop) (h0 : I e S)
    (st : ∀ d e S, d ∈ ds → I e S → Wr (g d e S) (bodyQ m (k.lp I)) (k.xe e))
    (fin : ∀ e S, I e S → k.nx e S) : Ws (fiR g m ds e S) k :=
  for_w (fun _ => I) h0 (fun _ d e S hd => st d e S (List.mem_of_getElem? hd)) fin
def KS.mid (k : KS) (M : En → Store → Prop) : KS := ⟨M, k.rt, k.bk, k.ct, k.ex⟩
theorem mid_nx (M : En → Store → Prop) : (k.mid M).nx = M := rfl
theorem mid_rt (M : En → Store → Prop) : (k.mid M).rt = k.rt := rfl
theorem mid_bk (M : En → Store → Prop) : (k.mid M).bk = k.bk := rfl
theorem mid_ct (M : En → Store → Prop) : (k.mid M).ct = k.ct := rfl
theorem mid_ex (M : En → Store → Prop) : (k.mid M).ex = k.ex := rfl
theorem mid_xe (M : En → Store → Prop) : (k.mid M).xe e = k.xe e := rfl
theorem ws_cut {r : SRes} (M : En → Store → Prop) (h1 : Ws r (k.mid M)) (h2 : ∀ e S, M e S → k.nx e S) : Ws r k := by
  cases r with
  | nxt e S => exact h2 e S h1
  | _ => exact h1
def lc2 (Q : QP D) : QP (List D) := fun acc S => Q (.lst acc) S
def lc1 (g : Tg) (t : TM) (a : EM) (e : En) (Q X : QP D) : QP (List D) := fun ds S => Wr (lcR g t a e ds [] S) (lc2 Q) X
theorem lc2_s : lc2 QD xs S = QD (.lst xs) S := rfl
theorem lc1_s (g : Tg) : lc1 g t a e QD X ds S = Wr (lcR g t a e ds [] S) (lc2 QD) X := rfl
theorem wr_eLc (i : AM) (g : Tg) (vs : List Nat) : Wr (eLc i g t a vs e S) QD X = Wr (i e S) (lc1 g t a (wipeE e vs) QD X) X := by
  unfold eLc; rw [wr_bind]; congr; funext ds S1; rw [wr_bind]; rfl
def lcn2 (Q : QP D) : QP (List D) := fun acc S => Q (.loc S.length) (S ++ [.lst acc])
def lcn1 (g : Tg) (t : TM) (a : EM) (e : En) (Q X : QP D) : QP (List D) := fun ds S => Wr (lcR g t a e ds [] S) (lcn2 Q) X
theorem lcn2_s : lcn2 QD xs S = QD (.loc S.length) (S ++ [.lst xs]) := rfl
theorem lcn1_s (g : Tg) : lcn1 g t a e QD X ds S = Wr (lcR g t a e ds [] S) (lcn2 QD) X := rfl
theorem wr_eLcN (i : AM) (g : Tg) (vs : List Nat) : Wr (eLcN i g t a vs e S) QD X = Wr (i e S) (lcn1 g t a (wipeE e vs) QD X) X := by
  unfold eLcN; rw [wr_bind]; congr; funext ds S1; rw [wr_bind]; rfl
theorem wipe_nil : wipeE e [] = e := rfl
theorem wipe_cons (v : Nat) (vs : List Nat) : wipeE e (v :: vs) = (wipeE e vs).set v none := rfl
theorem wr_tTrue : Wr (tTrue e S) QB X = QB true S := rfl
theorem wr_lc_nil (g : Tg) (acc : List D) : Wr (lcR g t a e [] acc S) QL X = QL acc S := rfl
def tgQ (o : Option En) (f : En → Prop) : Prop := match o with
  | some e => f e
  | none => False
theorem tgQ_some (f : En → Prop) : tgQ (some e) f = f e := rfl
def ly (I : QP (List D)) (acc : List D) : QP D := fun y S => acc.length < sizeLine ∧ I (acc ++ [y]) S
theorem ly_s (I : QP (List D)) (acc : List D) : ly I acc y S = (acc.length < sizeLine ∧ I (acc ++ [y]) S) := rfl
def lt1 (a : EM) (e : En) (I : QP (List D)) (acc : List D) : QP Bool := fun b S => match b with
  | true => Wr (a e S) (ly I acc) nX
  | false => I acc S
theorem lt1_t (I : QP (List D)) (acc : List D) : lt1 a e I acc true S = Wr (a e S) (ly I acc) nX := rfl
theorem lt1_f (I : QP (List D)) (acc : List D) : lt1 a e I acc false S = I acc S := rfl
def lg (t : TM) (a : EM) (I : QP (List D)) (acc : List D) (S : Store) : En → Prop := fun e => Wr (t e S) (lt1 a e I acc) nX
theorem lg_s (I : QP (List D)) (acc : List D) : lg t a I acc S e = Wr (t e S) (lt1 a e I acc) nX := rfl
def lcI (g : Tg) (t : TM) (a : EM) (e : En) (ds : List D) (Q : QP (List D)) (X : QP D) : QP (List D) := fun acc S => Wr (lcR g t a e ds acc S) Q X
theorem wr_lc_cons (g : Tg) (acc ds : List D) : Wr (lcR g t a e (d :: ds) acc S) QL X = tgQ (g.m d e) (lg t a (lcI g t a e ds QL X) acc S) := by
  rw [lcR]
  unfold tgQ
  cases g.m d e with
  | none => rfl
  | some e1 =>
    dsimp only
    rw [wr_bind, wr_noX, lg_s]; congr; funext b S2
    cases b with
    | false => rfl
    | true =>
      show Wr ((noX (a e1 S2)).bind _) _ _ = Wr (a e1 S2) _ _
      rw [wr_bind, wr_noX]; congr; funext y S3; rw [wr_guard]; rfl
theorem lc_w {g : Tg} {ds acc : List D} (I : Nat → List D → Store → Prop) (h0 : I 0 acc S)
    (st : ∀ i d acc S, ds[i]? = some d → I i acc S → tgQ (g.m d e) (lg t a (I (i + 1)) acc S))
    (fin : ∀ acc S, I ds.length acc S → QL acc S) : Wr (lcR g t a e ds acc S) QL X := by
  induction ds generalizing I acc S with
  | nil => exact fin acc S h0
  | cons d ds ih =>
    rw [wr_lc_cons]
    have h1 := st 0 d acc S rfl h0
    have go : ∀ acc S, I 1 acc S → Wr (lcR g t a e ds acc S) QL X := fun acc S hI => ih (fun i => I (i + 1)) hI (fun i d acc S hd => st (i + 1) d acc S (by simpa using hd)) (fun acc S => fin acc S)
    revert h1
    cases g.m d e with
    | none => exact id
    | some e1 =>
      simp only [tgQ_some, lg_s]
      cases t e1 S with
      | exc x S1 => exact id
      | stuck => exact id
      | ok b S1 =>
        simp only [wr_ok]
        cases b with
        | false => exact fun h => go _ _ h
        | true =>
          simp only [lt1_t]
          cases a e1 S1 with
          | exc x S1 => exact id
          | stuck => exact id
          | ok y S2 => exact fun h => ⟨h.1, go _ _ h.2⟩
def eqQ (y : D) (S : Store) : QP D := fun d S' => d = y ∧ S' = S
theorem eqQ_s : eqQ y S d S1 = (d = y ∧ S1 = S) := rfl
def seqQ (Q : List D → Store → Prop) : QP D := fun x S => match x with
  | .tup l => Q l S
  | .lst l => Q l S
  | .scr l => Q l S
  | _ => False
theorem seqQ_tup (l : List D) : seqQ QL (.tup l) S = QL l S := rfl
theorem seqQ_lst (l : List D) : seqQ QL (.lst l) S = QL l S := rfl
theorem seqQ_scr (l : List D) : seqQ QL (.scr l) S = QL l S := rfl
theorem wr_iSeq : Wr (iSeq a e S) QL X = Wr (a e S) (seqQ QL) X := by
  unfold iSeq; rw [wr_bind]; congr; funext x S1; cases x <;> rfl
def rgQ (Q : List D → Store → Prop) : QP (List D) := fun ds S => match ds with
  | [.int j] => (-(2 ^ 62) ≤ j ∧ j < 2 ^ 62) ∧ Q (rangeD 0 j.toNat) S
  | _ => False
theorem rgQ_int (j : Int) : rgQ QL [.int j] S = ((-(2 ^ 62) ≤ j ∧ j < 2 ^ 62) ∧ QL (rangeD 0 j.toNat) S) := rfl
theorem wr_iRg1 : Wr (iRg1 am e S) QL X = Wr (am e S) (rgQ QL) X := by
  unfold iRg1; rw [wr_bind]; congr; funext ds S1
  match ds with
  | [] => rfl
  | [.int j] => show Wr (if _ then _ else _) _ _ = _; rw [wr_guard]; rfl
  | [.non] | [.bl _] | [.str _] | [.tup _] | [.lst _] | [.scr _] | [.dic _ _] | [.loc _] | [.exc _ _] | [.ins _ _] | [.fa _] | [.pin _ _] => rfl
  | _ :: _ :: _ => unfold rgQ; split <;> simp_all [wr_stuck]
def rgQ2 (Q : List D → Store → Prop) : QP (List D) := fun ds S => match ds with
  | [.int i, .int j] => (-(2 ^ 62) ≤ i ∧ i < 2 ^ 62 ∧ -(2 ^ 62) ≤ j ∧ j < 2 ^ 62) ∧ Q (rangeD i (j - i).toNat) S
  | _ => False
theorem rgQ2_int (i j : Int) : rgQ2 QL [.int i, .int j] S = ((-(2 ^ 62) ≤ i ∧ i < 2 ^ 62 ∧ -(2 ^ 62) ≤ j ∧ j < 2 ^ 62) ∧ QL (rangeD i (j - i).toNat) S) := rfl
theorem wr_iRg2 : Wr (iRg2 am e S) QL X = Wr (am e S) (rgQ2 QL) X := by
  unfold iRg2; rw [wr_bind]; congr; funext ds S1
  by_cases h : ∃ i j, ds = [.int i, .int j]
  · obtain ⟨i, j, rfl⟩ := h
    show Wr (if _ then _ else _) _ _ = _
    rw [wr_guard]; rfl
  · unfold rgQ2
    split <;> (try split) <;> simp_all [wr_stuck]
theorem of_w {r : Res D} (h : Wr r QD nX) : ∃ d S, r = .ok d S ∧ QD d S := by
  cases r with
  | ok d S => exact ⟨d, S, rfl, h⟩
  | exc _ _ => exact False.elim h
  | stuck => exact False.elim h
theorem eq_of_w {r : Res D} (h : Wr r (eqQ d S) nX) : r = .ok d S := by
  obtain ⟨d', S', rfl, rfl, rfl⟩ := of_w h
  rfl
def exQ (y : D) (S : Store) : QP D := fun d S' => d = y ∧ S' = S
theorem exQ_s : exQ y S d S1 = (d = y ∧ S1 = S) := rfl
end
end G
namespace G
open PySem
def rD (q : Rat) : D := .tup [.int q.num, .int (q.den : Int)]
def Bt (q : Rat) (n : Nat) : Prop := q.num.natAbs < 2 ^ n ∧ q.den < 2 ^ n
theorem pow_le2 {a b : Nat} (h : a ≤ b) : (2 : Nat) ^ a ≤ 2 ^ b := Nat.pow_le_pow_right (by omega) h
theorem Bt.mono {q : Rat} {a b : Nat} (h : Bt q a) (l : a ≤ b) : Bt q b := ⟨Nat.lt_of_lt_of_le h.1 (pow_le2 l), Nat.lt_of_lt_of_le h.2 (pow_le2 l)⟩
theorem bt_div {t : Int} {b : Int} {n m : Nat} (h1 : t.natAbs < 2 ^ n) (h2 : b.natAbs < 2 ^ n) (hn : 0 < n) : Bt (Rat.divInt t b) n := by
  have h2' : 1 < 2 ^ n := Nat.one_lt_two_pow (by omega)
  constructor
  · rw [Rat.num_divInt]
    refine Nat.lt_of_le_of_lt (Int.natAbs_ediv_le_natAbs _ _) ?_
    rw [Int.natAbs_mul]
    have : b.sign.natAbs ≤ 1 := by rcases Int.lt_trichotomy b 0 with h | h | h <;> simp [Int.sign_eq_neg_one_of_neg, Int.sign_eq_one_of_pos, h]
    have := Nat.mul_le_mul_right t.natAbs this
    omega
  · rw [Rat.den_divInt]
    split
    · exact h2'
    · exact Nat.lt_of_le_of_lt (Nat.div_le_self _ _) h2
theorem natAbs_mul_lt {x y : Int} {a b : Nat} (hx : x.natAbs < 2 ^ a) (hy : y.natAbs < 2 ^ b) : (x * y).natAbs < 2 ^ (a + b) := by
  rw [Int.natAbs_mul, Nat.pow_add]
  exact Nat.mul_lt_mul'' hx hy
theorem natAbs_add_lt {x y : Int} {a : Nat} (hx : x.natAbs < 2 ^ a) (hy : y.natAbs < 2 ^ a) : (x + y).natAbs < 2 ^ (a + 1) := by
  have := Int.natAbs_add_le x y
  rw [Nat.pow_succ]; omega
theorem natAbs_sub_lt {x y : Int} {a : Nat} (hx : x.natAbs < 2 ^ a) (hy : y.natAbs < 2 ^ a) : (x - y).natAbs < 2 ^ (a + 1) := by
  have := Int.natAbs_sub_le x y
  rw [Nat.pow_succ]; omega
theorem add_div (p q : Rat) : p + q = Rat.divInt (p.num * q.den + q.num * p.den) ((p.den : Int) * (q.den : Int)) := by
  rw [← Int.natCast_mul, Rat.divInt_ofNat, Rat.add_def']
theorem sub_div (p q : Rat) : p - q = Rat.divInt (p.num * q.den - q.num * p.den) ((p.den : Int) * (q.den : Int)) := by
  rw [← Int.natCast_mul, Rat.divInt_ofNat, Rat.sub_def']
theorem Bt.add {p q : Rat} {a b : Nat} (h1 : Bt p a) (h2 : Bt q b) : Bt (p + q) (a + b + 1) := by
  rw [add_div]
  have e1 := natAbs_mul_lt (y := (q.den : Int)) h1.1 (by simpa using h2.2)
  have e2 := natAbs_mul_lt (y := (p.den : Int)) h2.1 (by simpa using h1.2)
  have e3 := natAbs_mul_lt (x := (p.den : Int)) (y := (q.den : Int)) (by simpa using h1.2) (by simpa using h2.2)
  rw [Nat.add_comm b a] at e2
  exact bt_div (m := 0) (natAbs_add_lt e1 e2) (Nat.lt_of_lt_of_le e3 (pow_le2 (by omega))) (by omega)
theorem Bt.sub {p q : Rat} {a b : Nat} (h1 : Bt p a) (h2 : Bt q b) : Bt (p - q) (a + b + 1) := by
  rw [sub_div]
  have e1 := natAbs_mul_lt (y := (q.den : Int)) h1.1 (by simpa using h2.2)
  have e2 := natAbs_mul_lt (y := (p.den : Int)) h2.1 (by simpa using h1.2)
  have e3 := natAbs_mul_lt (x := (p.den : Int)) (y := (q.den : Int)) (by simpa using h1.2) (by simpa using h2.2)
  rw [Nat.add_comm b a] at e2
  exact bt_div (m := 0) (natAbs_sub_lt e1 e2) (Nat.lt_of_lt_of_le e3 (pow_le2 (by omega))) (by omega)
theorem Bt.pos {p : Rat} {a : Nat} (h : Bt p a) : 0 < a := by
  rcases Nat.eq_zero_or_pos a with rfl | h0
  · have := h.2; have := p.den_pos; simp at *; omega
  · exact h0
theorem Bt.max {p q : Rat} {a b : Nat} (h1 : Bt p a) (h2 : Bt q b) : Bt (max p q) (Nat.max a b) := by
  rw [Rat.max_def]
  split
  · exact h2.mono (Nat.le_max_right _ _)
  · exact h1.mono (Nat.le_max_left _ _)
theorem Bt.int {i : Int} {n : Nat} (h : i.natAbs < 2 ^ n) (hn : 0 < n) : Bt (i : Rat) n := ⟨h, Nat.one_lt_two_pow (by omega)⟩
theorem bt_0 : Bt 0 1 := by constructor <;> decide
theorem isTy_rD (z : Ty) (q : Rat) (S : Store) : isTy S z (rD q) = some (Tn.is .tuple z) := rfl
theorem fLen_rD (q : Rat) (S : Store) : fLen S [rD q] = some (.int 2) := rfl
theorem ix_rD0 (q : Rat) (S : Store) : ixD S (rD q) (.int 0) = some (.int q.num) := rfl
theorem ix_rD1 (q : Rat) (S : Store) : ixD S (rD q) (.int 1) = some (.int q.den) := rfl
theorem toP_rD (q : Rat) : (rD q).toP = some (.tuple [.int q.num, .int q.den]) := rfl
theorem rat_beq (p q : Rat) : (p.num == q.num && ((p.den : Int) == (q.den : Int) && true)) = decide (p = q) := by
  by_cases h : p = q
  · subst h; simp
  · rw [decide_eq_false h]
    by_cases h1 : p.num = q.num
    · have h2 : ¬ (p.den : Int) = (q.den : Int) := fun z => h (Rat.ext h1 (by omega))
      simp [h2]
    · simp [h1]
theorem eqD_rD (p q : Rat) : eqD (rD p) (rD q) = some (decide (p = q)) := by
  rw [← rat_beq]; rfl
theorem dEq_rD (p q : Rat) : dEq (rD p) (rD q) = some (.bl (decide (p = q))) := by unfold dEq; rw [eqD_rD]; rfl
theorem dNe_rD (p q : Rat) : dNe (rD p) (rD q) = some (.bl (!decide (p = q))) := by unfold dNe; rw [eqD_rD]; rfl
theorem wr_gTp_rD {QE : En → Store → Prop} {X : D → Store → Prop} {e : En} {S : Store} (q : Rat) (r : GMs) : Wr (gTp 2 r (rD q) e S) QE X = Wr (r [.int q.num, .int q.den] e S) QE X := by
  unfold rD; rw [wr_gTp]; simp
theorem seqQ_rD {QL : List D → Store → Prop} {S : Store} (q : Rat) : seqQ QL (rD q) S = QL [.int q.num, .int q.den] S := rfl
theorem dIs_rD (q : Rat) : dIs (rD q) .non = some (.bl false) := rfl
theorem dIsNot_rD (q : Rat) : dIsNot (rD q) .non = some (.bl true) := rfl
theorem lt_rat (p q : Rat) : decide (p.num * (q.den : Int) < q.num * (p.den : Int)) = decide (p < q) := by
  by_cases h : p < q
  · rw [decide_eq_true h, decide_eq_true ((Rat.lt_iff p q).mp h)]
  · rw [decide_eq_false h, decide_eq_false fun z => h ((Rat.lt_iff p q).mpr z)]
def gI (a b : Int) : Int := (Nat.gcd a.natAbs b.natAbs : Nat)
theorem gI_pos {a b : Int} (h : b ≠ 0) : 0 < gI a b := by
  have : 0 < Nat.gcd a.natAbs b.natAbs := Nat.gcd_pos_of_pos_right _ (by omega)
  unfold gI; omega
theorem gI_l (a b : Int) : gI a b ∣ a := by
  unfold gI
  exact Int.ofNat_dvd_left.mpr (Nat.gcd_dvd_left _ _)
theorem gI_r (a b : Int) : gI a b ∣ b := by
  unfold gI
  exact Int.ofNat_dvd_left.mpr (Nat.gcd_dvd_right _ _)
theorem gI_congr {a b c d : Int} (h1 : a.natAbs = c.natAbs) (h2 : b.natAbs = d.natAbs) : gI a b = gI c d := by unfold gI; rw [h1, h2]
theorem gI_abs (a b : Int) : gI (if a < 0 then -a else a) b = gI a b := gI_congr (by split <;> omega) rfl
theorem gI_le {a b : Int} (h : b ≠ 0) : (gI a b).natAbs ≤ b.natAbs := by
  have : Nat.gcd a.natAbs b.natAbs ≤ b.natAbs := Nat.gcd_le_right _ (by omega)
  unfold gI; omega
theorem gI_step {a b : Int} (ha : 0 ≤ a) (hb : 0 ≤ b) : gI b (a % b) = gI a b := by
  unfold gI
  have : (a % b).natAbs = a.natAbs % b.natAbs := by rw [Int.natAbs_emod_of_nonneg ha]
  rw [this, Nat.gcd_comm a.natAbs b.natAbs, Nat.gcd_rec b.natAbs a.natAbs, Nat.gcd_comm]
theorem gI_rat (q : Rat) : gI q.num q.den = 1 := by
  unfold gI
  have := q.reduced
  rw [Int.natAbs_natCast, this]; rfl
theorem fdiv_pos {x g : Int} (h : 0 < g) : x.fdiv g = x / g := Int.fdiv_eq_ediv_of_nonneg x (by omega)
theorem fdiv_neg_of {x g : Int} (h : 0 < g) (hd : g ∣ x) : x.fdiv (0 - g) = (0 - x) / g := by
  obtain ⟨k, rfl⟩ := hd
  rw [show (0 : Int) - g * k = g * (-k) by rw [Int.mul_neg]; omega, Int.mul_ediv_cancel_left _ (by omega)]
  rw [show g * k = (0 - g) * (-k) by rw [Int.mul_neg, Int.zero_sub, Int.neg_mul]; omega]
  exact Int.mul_fdiv_cancel_left _ (by omega)
theorem num_pos {t b : Int} (hb : 0 < b) : (Rat.divInt t b).num = t / gI t b := by
  rw [Rat.num_divInt, Int.sign_eq_one_of_pos hb, Int.one_mul]
  unfold gI Int.gcd
  rw [Nat.gcd_comm]
theorem den_pos' {t b : Int} (hb : 0 < b) : ((Rat.divInt t b).den : Int) = b / gI t b := by
  rw [Rat.den_divInt, if_neg (by omega)]
  unfold gI Int.gcd
  rw [Nat.gcd_comm, Int.natCast_ediv]
  congr 1
  omega
theorem lowest_rD {t b : Int} (hb : 0 < b) : D.tup [.int (t / gI t b), .int (b / gI t b)] = rD (Rat.divInt t b) := by
  unfold rD; rw [num_pos hb, den_pos' hb]
theorem neg_rD {t b : Int} (hb : b < 0) : D.tup [.int ((0 - t) / gI t b), .int ((0 - b) / gI t b)] = rD (Rat.divInt t b) := by
  have e : Rat.divInt t b = Rat.divInt (0 - t) (0 - b) := by
    rw [Int.zero_sub, Int.zero_sub, Rat.neg_divInt_neg]
  have g : gI t b = gI (0 - t) (0 - b) := gI_congr (by omega) (by omega)
  rw [e, g]
  exact lowest_rD (by omega)
end G
namespace G
open PySem
section
variable {β γ : Type} {e : En} {S S1 : Store} {a b c : EM} {t u : TM} {m n : SM} {am : AM} {x y d : D} {k : β → Store → Res γ}
@[simp] theorem bind_ok (z : β) : (Res.ok z S).bind k = k z S := rfl
@[simp] theorem bind_exc (z : D) : (Res.exc z S : Res β).bind k = .exc z S := rfl
@[simp] theorem bind_stuck : (Res.stuck : Res β).bind k = .stuck := rfl
@[simp] theorem lf_some_s (z : β) : lf (some z) S = .ok z S := rfl
@[simp] theorem lf_none_s : lf (none : Option β) S = .stuck := rfl
@[simp] theorem eC_s : eC d e S = .ok d S := rfl
def evR (o : Option (Option D)) (S : Store) : Res D := match o with
  | some (some d) => .ok d S
  | _ => .stuck
@[simp] theorem eVar_s (i : Nat) : eVar i e S = evR e[i]? S := rfl
@[simp] theorem evR_some : evR (some (some d)) S = .ok d S := rfl
@[simp] theorem eBin_s (f : D → D → Option D) : eBin f a b e S = (a e S).bind fun x S1 => (b e S1).bind fun y S2 => lf (f x y) S2 := rfl
@[simp] theorem eBinS_s (f : Store → D → D → Option D) : eBinS f a b e S = (a e S).bind fun x S1 => (b e S1).bind fun y S2 => lf (f S2 x y) S2 := rfl
def asB (x : D) (S : Store) : Res Bool := match x with
  | .bl b => .ok b S
  | _ => .stuck
@[simp] theorem asB_bl (z : Bool) : asB (.bl z) S = .ok z S := rfl
@[simp] theorem tB_s : tB a e S = (a e S).bind asB := rfl
@[simp] theorem tT_s : tT a e S = (a e S).bind fun x S1 => lf (truD S1 x) S1 := rfl
@[simp] theorem tNt_s : tNt t e S = (t e S).bind fun b S1 => .ok (!b) S1 := rfl
@[simp] theorem tAn_s : tAn t u e S = (t e S).bind fun b S1 => if b then u e S1 else .ok false S1 := rfl
@[simp] theorem tOr_s : tOr' t u e S = (t e S).bind fun b S1 => if b then .ok true S1 else u e S1 := rfl
@[simp] theorem eAn_s : eAn a b e S = (a e S).bind fun x S1 => (lf (truD S1 x) S1).bind fun k S2 => if k then b e S2 else .ok x S2 := rfl
@[simp] theorem eOr_s : eOr a b e S = (a e S).bind fun x S1 => (lf (truD S1 x) S1).bind fun k S2 => if k then .ok x S2 else b e S2 := rfl
@[simp] theorem eNt_s : eNt a e S = (a e S).bind fun x S1 => (lf (truD S1 x) S1).bind fun k S2 => .ok (.bl (!k)) S2 := rfl
@[simp] theorem eIf_s : eIf t a b e S = (t e S).bind fun k S1 => if k then a e S1 else b e S1 := rfl
def negR (x : D) (S : Store) : Res D := match x with
  | .int i => .ok (.int (-i)) S
  | _ => .stuck
@[simp] theorem negR_int (i : Int) : negR (.int i) S = .ok (.int (-i)) S := rfl
@[simp] theorem eNeg_s : eNeg a e S = (a e S).bind negR := rfl
@[simp] theorem aNil_s : aNil e S = .ok [] S := rfl
@[simp] theorem aCons_s : aCons a am e S = (a e S).bind fun x S1 => (am e S1).bind fun xs S2 => .ok (x :: xs) S2 := rfl
@[simp] theorem eTup_s : eTup am e S = (am e S).bind fun xs S1 => if xs.length ≤ sizeLine then .ok (.tup xs) S1 else .stuck := rfl
@[simp] theorem eLst_s : eLst am e S = (am e S).bind fun xs S1 => if xs.length ≤ sizeLine then .ok (.lst xs) S1 else .stuck := rfl
@[simp] theorem eNew_s : eNew am e S = (am e S).bind fun xs S1 => if xs.length ≤ sizeLine then .ok (.loc S1.length) (S1 ++ [.lst xs]) else .stuck := rfl
@[simp] theorem eCa_s (f : Store → List D → Option D) : eCa f am e S = (am e S).bind fun xs S1 => lf (f S1 xs) S1 := rfl
@[simp] theorem eCall_s (f : FM) : eCall f am e S = (am e S).bind f := rfl
@[simp] theorem nA_s (i : Nat) : nA i am e S = (am e S).bind fun ds S1 => if ds.length = i then .ok ds S1 else .stuck := rfl
@[simp] theorem eIsTy_s (z : Ty) : eIsTy z a e S = (a e S).bind fun x S1 => lf ((isTy S1 z x).map .bl) S1 := rfl
@[simp] theorem eIsC_s (tb : Nat → Option Bool) : eIsC tb a e S = (a e S).bind fun x S1 => lf ((isC tb x).map .bl) S1 := rfl
@[simp] theorem eMt_s (f : Store → D → List D → Option D) : eMt f a am e S = (a e S).bind fun x S1 => if (seqD S1 x).isSome then (am e S1).bind fun xs S2 => lf (f S2 x xs) S2 else .stuck := rfl
@[simp] theorem oNone_s : oNone e S = .ok none S := rfl
def oR (x : D) (S : Store) : Res (Option Int) := match x with
  | .int i => .ok (some i) S
  | _ => .stuck
@[simp] theorem oR_int (i : Int) : oR (.int i) S = .ok (some i) S := rfl
@[simp] theorem oSome_s : oSome a e S = (a e S).bind oR := rfl
@[simp] theorem eSl_s (l h : OM) : eSl a l h e S = (a e S).bind fun x S1 => (l e S1).bind fun i S2 => (h e S2).bind fun j S3 => lf (slD S3 x i j) S3 := rfl
@[simp] theorem eCallK_s (f : FM) (g : List D → List D → List D) (i j : Nat) (mk : AM) : eCallK f g i j am mk e S = (am e S).bind fun ds S1 => (mk e S1).bind fun zs S2 => if ds.length = i ∧ zs.length = j then f (g ds zs) S2 else .stuck := rfl
@[simp] theorem eCallK0_s (f : FM) (g : List D → List D → List D) (j : Nat) (mk : AM) : eCallK0 f g j mk e S = (mk e S).bind fun zs S2 => if zs.length = j then f (g [] zs) S2 else .stuck := rfl
@[simp] theorem sE_ok (z : β) (q : β → Store → SRes) : sE (.ok z S) e q = q z S := rfl
@[simp] theorem sE_exc (z : D) (q : β → Store → SRes) : sE (.exc z S) e q = .exc z e S := rfl
@[simp] theorem sE_stuck (q : β → Store → SRes) : sE .stuck e q = .stuck := rfl
@[simp] theorem sS_nxt : sS (.nxt e S) m = m e S := rfl
@[simp] theorem sS_ret : sS (.ret d S) m = .ret d S := rfl
@[simp] theorem sS_brk : sS (.brk e S) m = .brk e S := rfl
@[simp] theorem sS_cnt : sS (.cnt e S) m = .cnt e S := rfl
@[simp] theorem sS_exc : sS (.exc d e S) m = .exc d e S := rfl
@[simp] theorem sNop_s : sNop e S = .nxt e S := rfl
@[simp] theorem sSeq_s : sSeq m n e S = sS (m e S) n := rfl
@[simp] theorem sBrk_s : sBrk e S = .brk e S := rfl
@[simp] theorem sCnt_s : sCnt e S = .cnt e S := rfl
@[simp] theorem sDrop_s : sDrop a e S = sE (a e S) e fun _ S1 => .nxt e S1 := rfl
@[simp] theorem sRet_s : sRet a e S = sE (a e S) e fun d S1 => .ret d S1 := rfl
@[simp] theorem sRetN_s : sRetN e S = .ret .non S := rfl
@[simp] theorem sIf_s : sIf t m n e S = sE (t e S) e fun k S1 => if k then m e S1 else n e S1 := rfl
@[simp] theorem gN_s (i : Nat) : gN i d e S = .ok (e.set i (some d)) S := rfl
@[simp] theorem sAsg_s (g : GM) : sAsg a g e S = sE (a e S) e fun d S1 => sE (g d e S1) e fun e1 S2 => .nxt e1 S2 := rfl
@[simp] theorem sSet_s (i : Nat) : sSet i a e S = sE (a e S) e fun d S1 => .nxt (e.set i (some d)) S1 := rfl
def parR (i j : Nat) (e : En) (ds : List D) (S : Store) : SRes := match ds with
  | [x, y] => .nxt ((e.set i (some x)).set j (some y)) S
  | _ => .stuck
@[simp] theorem parR_s (i j : Nat) : parR i j e [x, y] S = .nxt ((e.set i (some x)).set j (some y)) S := rfl
@[simp] theorem sPar_s (i j : Nat) : sPar i j am e S = sE (am e S) e (parR i j e) := rfl
@[simp] theorem sRaise_s (i : Nat) : sRaise i e S = .exc (.exc i []) e S := rfl
def fnEnd : SRes → Res D
  | .nxt _ S' => .ok .non S'
  | .ret d S' => .ok d S'
  | .exc x _ S' => .exc x S'
  | _ => .stuck
@[simp] theorem fnEnd_nxt : fnEnd (.nxt e S) = .ok .non S := rfl
@[simp] theorem fnEnd_ret : fnEnd (.ret d S) = .ok d S := rfl
@[simp] theorem fnEnd_exc : fnEnd (.exc d e S) = .exc d S := rfl
theorem fnM_s (i : Nat) (ds : List D) : fnM i m ds S = fnEnd (m (enOf i ds) S) := by
  unfold fnM fnEnd
  cases m (enOf i ds) S <;> rfl
@[simp] theorem enOf_s (i : Nat) (ds : List D) : enOf i ds = ds.map some ++ List.replicate (i - ds.length) none := rfl
@[simp] theorem cmpI_s (f : Int → Int → Bool) (i j : Int) : cmpI f (.int i) (.int j) = some (.bl (f i j)) := rfl
@[simp] theorem dAdd_int (i j : Int) : dAdd (.int i) (.int j) = some (.int (i + j)) := rfl
@[simp] theorem dSub_int (i j : Int) : dSub (.int i) (.int j) = some (.int (i - j)) := rfl
theorem dMul_int {i j : Int} (h : mulOk i j = true) : dMul (.int i) (.int j) = some (.int (i * j)) := by
  show (if mulOk i j = true then some (D.int (i * j)) else none) = _
  rw [if_pos h]
theorem dDiv_int {i j : Int} (h : divOk j = true) : dDiv (.int i) (.int j) = some (.int (i.fdiv j)) := by
  show (if divOk j = true then some (D.int (i.fdiv j)) else none) = _
  rw [if_pos h]
theorem dMod_int {i j : Int} (h : j ≠ 0) : dMod (.int i) (.int j) = some (.int (i.fmod j)) := by
  show (if j = 0 then none else some (D.int (i.fmod j))) = _
  rw [if_neg h]
theorem dEq_int (i j : Int) : dEq (.int i) (.int j) = some (.bl (decide (i = j))) := rfl
theorem dNe_int (i j : Int) : dNe (.int i) (.int j) = some (.bl (!decide (i = j))) := rfl
theorem dEq_bl (i j : Bool) : dEq (.bl i) (.bl j) = some (.bl (decide (i = j))) := by cases i <;> cases j <;> rfl
theorem dNe_bl (i j : Bool) : dNe (.bl i) (.bl j) = some (.bl (!decide (i = j))) := by cases i <;> cases j <;> rfl
@[simp] theorem truD_bl (z : Bool) : truD S (.bl z) = some z := rfl
@[simp] theorem isTy_int (z : Ty) (i : Int) : isTy S z (.int i) = some (Tn.is .int z) := rfl
@[simp] theorem isTy_bl (z : Ty) (i : Bool) : isTy S z (.bl i) = some (Tn.is .bool z) := rfl
@[simp] theorem isTy_tup (z : Ty) (l : List D) : isTy S z (.tup l) = some (Tn.is .tuple z) := rfl
@[simp] theorem fLen_tup (l : List D) : fLen S [.tup l] = some (.int l.length) := rfl
@[simp] theorem fLen_scr (l : List D) : fLen S [.scr l] = some (.int l.length) := rfl
@[simp] theorem fLen_lst (l : List D) : fLen S [.lst l] = some (.int l.length) := rfl
@[simp] theorem fAbs_int (i : Int) : fAbs S [.int i] = some (.int (if i < 0 then -i else i)) := rfl
@[simp] theorem fMax_int (i j : Int) : fMax S [.int i, .int j] = some (.int (if j > i then j else i)) := rfl
@[simp] theorem fMin_int (i j : Int) : fMin S [.int i, .int j] = some (.int (if j < i then j else i)) := rfl
@[simp] theorem ixD_tup (l : List D) (i : Int) : ixD S (.tup l) (.int i) = L2.atI l i := rfl
@[simp] theorem ixD_lst (l : List D) (i : Int) : ixD S (.lst l) (.int i) = L2.atI l i := rfl
@[simp] theorem ixD_scr (l : List D) (i : Int) : ixD S (.scr l) (.int i) = L2.atI l i := rfl
theorem ixD_loc {j : Nat} {l : List D} (i : Int) (h : S[j]? = some (.lst l)) : ixD S (.loc j) (.int i) = L2.atI l i := by
  show (match S[j]? with
    | some (.lst l) => L2.atI l i
    | _ => none) = _
  rw [h]
end
theorem line_ge {n : Nat} (h : n ≤ 1000) : n ≤ sizeLine := Nat.le_trans h (by decide)
theorem log2_lt {x n : Nat} (h : x < 2 ^ n) (hn : 0 < n) : x.log2 < n := PySem.Flt.log2_lt_of hn h
theorem mul_ok {i j : Int} {a b : Nat} (hi : i.natAbs < 2 ^ a) (hj : j.natAbs < 2 ^ b) (h0 : 0 < a) (h1 : 0 < b) (h : a + b ≤ 1000000) : mulOk i j = true := by
  have x := log2_lt hi h0
  have y := log2_lt hj h1
  unfold mulOk
  rw [Bool.or_eq_true, Bool.or_eq_true]
  exact .inr (.inr (decide_eq_true (by omega)))
theorem mul_l {i j : Int} (hi : i.natAbs < 2 ^ 64) : mulOk i j = true := by
  unfold mulOk
  rw [Bool.or_eq_true]
  exact .inl (decide_eq_true hi)
theorem mul_r {i j : Int} (hj : j.natAbs < 2 ^ 64) : mulOk i j = true := by
  unfold mulOk
  rw [Bool.or_eq_true, Bool.or_eq_true]
  exact .inr (.inl (decide_eq_true hj))
theorem div_ok {j : Int} {b : Nat} (hz : j ≠ 0) (hj : j.natAbs < 2 ^ b) (h1 : 0 < b) (h : b ≤ 9000) : divOk j = true := by
  have y := log2_lt hj h1
  unfold divOk
  rw [Bool.and_eq_true]
  exact ⟨by simpa using hz, decide_eq_true (by omega)⟩
@[simp] theorem noX_ok {β : Type} (z : β) (S : Store) : noX (.ok z S) = .ok z S := rfl
def setR (o : Option Store) (e : En) : Res En := match o with
  | some S3 => .ok e S3
  | none => .stuck
@[simp] theorem setR_some (S : Store) (e : En) : setR (some S) e = .ok e S := rfl
@[simp] theorem gSb_s (o i : EM) (d : D) (e : En) (S : Store) : gSb o i d e S = (noX (o e S)).bind fun x S1 => (noX (i e S1)).bind fun y S2 => setR (setD S2 x y d) e := by
  unfold gSb setR
  congr 1
theorem setD_loc {S : Store} {n j : Nat} {l : List D} {k : Int} (d : D) (h : S[n]? = some (.lst l)) (hj : L2.ixN l.length k = some j) : setD S (.loc n) (.int k) d = some (S.set n (.lst (l.set j d))) := by
  show (match S[n]? with
    | some (.lst l) => (L2.ixN l.length k).map fun j => S.set n (.lst (l.set j d))
    | _ => none) = _
  rw [h]
  show (L2.ixN l.length k).map _ = _
  rw [hj]
  rfl
@[simp] theorem gsNil_s (e : En) (S : Store) : gsNil [] e S = .ok e S := rfl
@[simp] theorem gsCons_s (g : GM) (r : GMs) (d : D) (ds : List D) (e : En) (S : Store) : gsCons' g r (d :: ds) e S = (noX (g d e S)).bind fun e1 S1 => noX (r ds e1 S1) := rfl
@[simp] theorem gTp_s (n : Nat) (r : GMs) (ds : List D) (e : En) (S : Store) : gTp n r (.tup ds) e S = if ds.length = n then r ds e S else .stuck := rfl
@[simp] theorem at3_0 {α : Type} (x y z : α) : L2.atI [x, y, z] (0 : Int) = some x := rfl
@[simp] theorem at3_1 {α : Type} (x y z : α) : L2.atI [x, y, z] (1 : Int) = some y := rfl
@[simp] theorem at3_2 {α : Type} (x y z : α) : L2.atI [x, y, z] (2 : Int) = some z := rfl
theorem cutL_map {α β : Type} (f : α → β) (l : List α) (lo hi : Option Int) : cutL (l.map f) lo hi = (cutL l lo hi).map f := by
  unfold cutL
  rw [List.length_map, List.map_take, List.map_drop]
end G
namespace G
open PySem
section
variable {Q X : QP D} {QB : QP Bool} {QL : QP (List D)} {k : KS} {e : En} {S S1 : Store} {a b c o : EM} {t u : TM} {m n : SM} {am mk : AM} {x y d : D} {z : Bool} {xs ds zs : List D}
def ch3 (g : D → D → Option D) (y : D) (c : EM) (e : En) (Q X : QP D) : QP D := fun z S => match z with
  | .bl true => Wr (c e S) (cB2 g y Q X) X
  | .bl false => Q (.bl false) S
  | _ => False
def ch2 (f g : D → D → Option D) (x : D) (c : EM) (e : En) (Q X : QP D) : QP D := fun y S => Wr (lf (f x y) S) (ch3 g y c e Q X) X
def ch1 (f g : D → D → Option D) (b c : EM) (e : En) (Q X : QP D) : QP D := fun x S => Wr (b e S) (ch2 f g x c e Q X) X
theorem ch3_t (g : D → D → Option D) : ch3 g y c e Q X (.bl true) S = Wr (c e S) (cB2 g y Q X) X := rfl
theorem ch3_f (g : D → D → Option D) : ch3 g y c e Q X (.bl false) S = Q (.bl false) S := rfl
theorem ch2_s (f g : D → D → Option D) : ch2 f g x c e Q X y S = Wr (lf (f x y) S) (ch3 g y c e Q X) X := rfl
theorem ch1_s (f g : D → D → Option D) : ch1 f g b c e Q X x S = Wr (b e S) (ch2 f g x c e Q X) X := rfl
theorem wr_eChain (f g : D → D → Option D) : Wr (eChain f g a b c e S) Q X = Wr (a e S) (ch1 f g b c e Q X) X := by
  unfold eChain; rw [wr_bind]; congr; funext x S1; rw [wr_bind, ch1_s]; congr; funext y S2; rw [wr_bind, ch2_s]; congr; funext z S3
  cases z with
  | bl w => cases w with
    | true => show Wr ((c e S3).bind _) Q X = Wr (c e S3) _ _; rw [wr_bind]; rfl
    | false => rfl
  | _ => rfl
def flQ (cs : List Nat) (f : Nat) (Q X : QP D) : QP D := fun x S => Wr (lf (fldD cs f S x) S) Q X
theorem flQ_s (cs : List Nat) (f : Nat) : flQ cs f Q X x S = Wr (lf (fldD cs f S x) S) Q X := rfl
theorem wr_eFld (cs : List Nat) (f : Nat) : Wr (eFld cs f a e S) Q X = Wr (a e S) (flQ cs f Q X) X := by unfold eFld; rw [wr_bind]; rfl
theorem fldD_ins (cs : List Nat) (f cn : Nat) (fs : List (Nat × D)) : fldD cs f S (.ins cn fs) = if cs.contains cn then fs.lookup f else none := rfl
def stQ (e : En) (k : KS) (o : Option Store) : Prop := match o with
  | some S => k.nx e S
  | none => False
theorem stQ_s : stQ e k (some S) = k.nx e S := rfl
def sf2 (cs : List Nat) (f : Nat) (y : D) (e : En) (k : KS) : QP D := fun x S => stQ e k (stF cs f S x y)
def sf1 (cs : List Nat) (f : Nat) (o : EM) (e : En) (k : KS) : QP D := fun y S => Wr (o e S) (sf2 cs f y e k) (k.xe e)
theorem sf2_s (cs : List Nat) (f : Nat) : sf2 cs f y e k x S = stQ e k (stF cs f S x y) := rfl
theorem sf1_s (cs : List Nat) (f : Nat) : sf1 cs f o e k y S = Wr (o e S) (sf2 cs f y e k) (k.xe e) := rfl
theorem ws_sFldM (cs : List Nat) (f : Nat) : Ws (sFldM cs f o a e S) k = Wr (a e S) (sf1 cs f o e k) (k.xe e) := by
  unfold sFldM; rw [ws_sE]; congr; funext y S1; rw [ws_sE, sf1_s]; congr; funext x S2
  rw [sf2_s]; cases stF cs f S2 x y <;> rfl
def mkQ2 (mk' : List D → List D → Store → Res D) (n l : Nat) (ds : List D) (Q X : QP D) : QP (List D) := fun zs S => (ds.length = n ∧ zs.length = l) ∧ Wr (mk' ds zs S) Q X
def mkQ1 (mk' : List D → List D → Store → Res D) (n l : Nat) (mk : AM) (e : En) (Q X : QP D) : QP (List D) := fun ds S => Wr (mk e S) (mkQ2 mk' n l ds Q X) X
theorem mkQ2_s (mk' : List D → List D → Store → Res D) (n l : Nat) : mkQ2 mk' n l ds Q X zs S = ((ds.length = n ∧ zs.length = l) ∧ Wr (mk' ds zs S) Q X) := rfl
theorem mkQ1_s (mk' : List D → List D → Store → Res D) (n l : Nat) : mkQ1 mk' n l mk e Q X ds S = Wr (mk e S) (mkQ2 mk' n l ds Q X) X := rfl
theorem wr_eMk (mk' : List D → List D → Store → Res D) (n l : Nat) : Wr (eMk mk' n l am mk e S) Q X = Wr (am e S) (mkQ1 mk' n l mk e Q X) X := by
  unfold eMk; rw [wr_bind]; congr; funext ds S1; rw [wr_bind, mkQ1_s]; congr; funext zs S2; rw [wr_guard]; rfl
theorem wr_eMk0 (mk' : List D → List D → Store → Res D) : Wr (eMk0 mk' e S) Q X = Wr (mk' [] [] S) Q X := rfl
def ap2 (x : D) (Q X : QP D) : QP (List D) := fun xs S => Wr (appR x xs S) Q X
def ap1 (am : AM) (e : En) (Q X : QP D) : QP D := fun x S => isLst S x = true ∧ Wr (am e S) (ap2 x Q X) X
theorem ap2_s : ap2 x Q X xs S = Wr (appR x xs S) Q X := rfl
theorem ap1_s : ap1 am e Q X x S = (isLst S x = true ∧ Wr (am e S) (ap2 x Q X) X) := rfl
theorem wr_eApp : Wr (eApp a am e S) Q X = Wr (a e S) (ap1 am e Q X) X := by
  unfold eApp; rw [wr_bind]; congr; funext x S1; rw [wr_guard, wr_bind]; rfl
theorem appR_loc {i : Nat} {l : List D} (h : S[i]? = some (.lst l)) (hl : l.length < sizeLine) : appR (.loc i) [y] S = .ok .non (S.set i (.lst (l ++ [y]))) := by
  unfold appR; simp only [h, hl, if_true]
def zpQ (Q : QP (List D)) (X : QP D) : QP (List D) := fun ds S => Wr (zipR ds S) Q X
theorem zpQ_s : zpQ QL X ds S = Wr (zipR ds S) QL X := rfl
theorem wr_iZip : Wr (iZip am e S) QL X = Wr (am e S) (zpQ QL X) X := by unfold iZip; rw [wr_bind]; rfl
theorem zipR_tup (l m : List D) : zipR [.tup l, .tup m] S = .ok (zipD l m) S := rfl
theorem zipR_lst (l m : List D) : zipR [.lst l, .lst m] S = .ok (zipD l m) S := rfl
def srQ (Q : QP (List D)) (X : QP D) : QP D := fun d S => Wr (strR d S) Q X
theorem srQ_s : srQ QL X d S = Wr (strR d S) QL X := rfl
theorem wr_iStrM : Wr (iStrM a e S) QL X = Wr (a e S) (srQ QL X) X := by unfold iStrM; rw [wr_bind]; rfl
theorem strR_s (x : Str) : strR (.str x) S = .ok (signs x) S := rfl
def ioQ (cn : Nat) (Q X : QP D) : QP D := fun x S => Wr (lf ((isO cn S x).map .bl) S) Q X
theorem ioQ_s (cn : Nat) : ioQ cn Q X x S = Wr (lf ((isO cn S x).map .bl) S) Q X := rfl
theorem wr_eIsO (cn : Nat) : Wr (eIsO cn a e S) Q X = Wr (a e S) (ioQ cn Q X) X := by unfold eIsO; rw [wr_bind]; rfl
variable {QE : QP En}
theorem wr_gStr_tup (i : Nat) (r : GMs) (l : List D) : Wr (gStr i r (.tup l) e S) QE X = (i ≤ l.length ∧ Wr (r (l.take i ++ [.lst (l.drop i)]) e S) QE X) := by
  show Wr (if i ≤ l.length then _ else _) QE X = _
  rw [wr_guard]
theorem wr_gStr_lst (i : Nat) (r : GMs) (l : List D) : Wr (gStr i r (.lst l) e S) QE X = (i ≤ l.length ∧ Wr (r (l.take i ++ [.lst (l.drop i)]) e S) QE X) := by
  show Wr (if i ≤ l.length then _ else _) QE X = _
  rw [wr_guard]
theorem fTuple_lst (l : List D) : fTuple S [.lst l] = some (.tup l) := rfl
theorem fTuple_tup (l : List D) : fTuple S [.tup l] = some (.tup l) := rfl
theorem dAddS_int (i j : Int) : dAddS S (.int i) (.int j) = some (.int (i + j)) := rfl
theorem dAddS_tup (l m : List D) (h : (d :: l).length + m.length ≤ 1000) : dAddS S (.tup (d :: l)) (.tup m) = some (.tup (d :: l ++ m)) := by
  show (if (d :: l).length + m.length ≤ sizeLine then some (D.tup (d :: l ++ m)) else none) = _
  rw [if_pos (line_ge h)]
end
end G
namespace C
open PySem G
local macro_rules | `(tactic| wp_walk using $ts,*) => `(tactic| try simp only [wr_ok, wr_exc, wr_lf, wr_eC, evQ_some, wr_eVar, cB2_s, cB1_s, wr_eBin, cS2_s, cS1_s, wr_eBinS, asQ_bl, wr_tB, truQ_s, wr_tT, notQ_s, wr_tNt, anQ_t, anQ_f, wr_tAn, orQ_t, orQ_f, wr_tOr, eaB_t, eaB_f, eaQ_s, wr_eAn, eoB_t, eoB_f, eoQ_s, wr_eOr, enB_s, enQ_s, wr_eNt, eiQ_t, eiQ_f, wr_eIf, negQ_int, wr_eNeg, wr_aNil, cC2_s, cC1_s, wr_aCons, tupQ_s, lstQ_s, newQ_s, wr_eTup, wr_eLst, wr_eNew, caQ_s, wr_eCa, clQ_s, wr_eCall, nAQ_s, wr_nA, tyQ_s, wr_eIsTy, icQ_s, wr_eIsC, mt2_s, mt1_s, wr_eMt, wr_oNone, oQ_int, wr_oSome, sl3_s, sl2_s, sl1_s, wr_eSl, kk2_s, kk1_s, wr_eCallK, kk0_s, wr_eCallK0, wr_gN, sb3_s, sb2_s, sb1_s, wr_gSb, wr_gsNil, gs1_s, wr_gsCons, wr_gTp, wr_gTp_rD, xe_s, sq_nx, sq_rt, sq_bk, sq_ct, sq_ex, sq_xe, ws_nxt, ws_sNop, ws_sSeq, ws_sBrk, ws_sCnt, dropQ_s, ws_sDrop, ws_sRet, ws_sRetN, ifQ_t, ifQ_f, ws_sIf, asg1_s, ws_sAsg, setQ_s, ws_sSet, parQ_s, ws_sPar, ws_sRaise, fn_nx, fn_rt, fn_ex, fn_xe, su_nx, su_bk, su_ct, su_rt, trQ_t, trQ_f, tr_nx, tr_rt, tr_bk, tr_ct, tr_ex, ws_sTry, forQ_s, ws_sFor, lp_nx, lp_rt, lp_bk, lp_ct, lp_ex, lp_xe, ws_fi_nil, bodyQ_s, mid_nx, mid_rt, mid_bk, mid_ct, mid_ex, mid_xe, lc2_s, lc1_s, wr_eLc, lcn2_s, lcn1_s, wr_eLcN, wipe_nil, wipe_cons, wr_tTrue, wr_lc_nil, tgQ_some, ly_s, lt1_t, lt1_f, lg_s, eqQ_s, exQ_s, seqQ_tup, seqQ_lst, seqQ_scr, seqQ_rD, wr_iSeq, rgQ_int, wr_iRg1, rgQ2_int, wr_iRg2, ch3_t, ch3_f, ch2_s, ch1_s, wr_eChain, flQ_s, wr_eFld, fldD_ins, stQ_s, sf2_s, sf1_s, ws_sFldM, mkQ2_s, mkQ1_s, wr_eMk, wr_eMk0, ap2_s, ap1_s, wr_eApp, zpQ_s, wr_iZip, zipR_tup, zipR_lst, srQ_s, wr_iStrM, strR_s, ioQ_s, wr_eIsO, dAddS_int, wr_gStr_tup, wr_gStr_lst, fTuple_lst, fTuple_tup, List.take_succ_cons, List.take_zero, List.drop_succ_cons, List.drop_zero, List.getElem?_cons_zero, List.getElem?_cons_succ, List.set_cons_zero, List.set_cons_succ, List.map_cons, List.map_nil, List.length_cons, List.length_nil, List.cons_append, List.nil_append, List.replicate_succ, List.replicate_zero, List.append_nil, true_and, and_true, and_self, if_true, ite_true, if_false, ite_false, Bool.false_eq_true, Bool.not_true, Bool.not_false, Bool.not_not, decide_true, decide_false, decide_eq_true_eq, not_false_eq_true, not_true_eq_false, reduceCtorEq, sizeLine_eq, Option.map_some, Option.some.injEq, Nat.reduceSub, Nat.reduceAdd, Nat.reduceLeDiff, Nat.reduceEqDiff, Nat.zero_add, Nat.reduceBEq, List.contains_cons, List.contains_nil, beq_self_eq_true, Bool.true_or, Bool.or_true, Bool.false_or, Bool.or_false, List.lookup_cons, List.lookup_nil, Int.reduceEq, Int.reduceNe, Int.reduceLT, Int.reduceLE, Int.reduceNeg, Int.reduceAdd, Int.reduceSub, Int.cast_ofNat_Int, ne_eq, cmpI_s, dGt, dGe, dLt, dLe, dAdd_int, dSub_int, dEq_int, dNe_int, dEq_bl, dNe_bl, truD_bl, isTy_int, isTy_bl, isTy_tup, fLen_tup, fLen_scr, fLen_lst, fAbs_int, fMax_int, fMin_int, ixD_tup, ixD_lst, ixD_scr, isTy_rD, fLen_rD, ix_rD0, ix_rD1, dEq_rD, dNe_rD, dIs_rD, dIsNot_rD, Tn.is, $[$ts:term],*])
noncomputable section
def b_is_whole (N : Nat) : SM := (sRet (eAn (eIsTy .int (eVar 0)) (eNt (eIsTy .bool (eVar 0)))))
def m_is_whole (N : Nat) : FM := fnM 1 (b_is_whole N)
def b_shared (N : Nat) : SM := (sSeq (wlR (tB (eBin dGt (eVar 1) (eC (.int 0)))) (sPar 0 1 (aCons (eVar 1) (aCons (eBin dMod (eVar 0) (eVar 1)) aNil))) N)
    (sRet (eVar 0)))
def m_shared (N : Nat) : FM := fnM 2 (b_shared N)
def b_is_ratio (N : Nat) : SM := (sSeq (sIf (tOr' (tNt (tT (eIsTy .tuple (eVar 0)))) (tOr' (tB (eBin dNe (eCa fLen (aCons (eVar 0) aNil)) (eC (.int 2)))) (tNt (tT (eCa fAll (aCons (eLc (iSeq (eVar 0)) (.nm 3) tTrue (eCall (m_is_whole N) (nA 1 (aCons (eVar 3) aNil))) [3]) aNil)))))) (sRet (eC (.bl false))) sNop)
    (sSeq (sAsg (eVar 0) (gTp 2 (gsCons' (gN 1) (gsCons' (gN 2) gsNil))))
    (sRet (eAn (eBin dGt (eVar 2) (eC (.int 0))) (eBin dEq (eCall (m_shared N) (nA 2 (aCons (eCa fAbs (aCons (eVar 1) aNil)) (aCons (eVar 2) aNil)))) (eC (.int 1)))))))
def m_is_ratio (N : Nat) : FM := fnM 4 (b_is_ratio N)
def b_check_ratio (N : Nat) : SM := (sIf (tNt (tT (eCall (m_is_ratio N) (nA 1 (aCons (eVar 0) aNil))))) (sRaise 3) sNop)
def m_check_ratio (N : Nat) : FM := fnM 1 (b_check_ratio N)
def b_check_two (N : Nat) : SM := (sSeq (sDrop (eCall (m_check_ratio N) (nA 1 (aCons (eVar 0) aNil))))
    (sDrop (eCall (m_check_ratio N) (nA 1 (aCons (eVar 1) aNil)))))
def m_check_two (N : Nat) : FM := fnM 2 (b_check_two N)
def b_is_before (N : Nat) : SM := (sSeq (sDrop (eCall (m_check_two N) (nA 2 (aCons (eVar 0) (aCons (eVar 1) aNil)))))
    (sRet (eBin dLt (eBin dMul (eBinS ixD (eVar 0) (eC (.int 0))) (eBinS ixD (eVar 1) (eC (.int 1)))) (eBin dMul (eBinS ixD (eVar 1) (eC (.int 0))) (eBinS ixD (eVar 0) (eC (.int 1)))))))
def m_is_before (N : Nat) : FM := fnM 2 (b_is_before N)
def b_is_time (N : Nat) : SM := (sRet (eAn (eCall (m_is_ratio N) (nA 1 (aCons (eVar 0) aNil))) (eBin dGe (eBinS ixD (eVar 0) (eC (.int 0))) (eC (.int 0)))))
def m_is_time (N : Nat) : FM := fnM 1 (b_is_time N)
def b_is_rate (N : Nat) : SM := (sRet (eAn (eCall (m_is_ratio N) (nA 1 (aCons (eVar 0) aNil))) (eChain dLt dLe (eC (.int 0)) (eBinS ixD (eVar 0) (eC (.int 0))) (eBinS ixD (eVar 0) (eC (.int 1))))))
def m_is_rate (N : Nat) : FM := fnM 1 (b_is_rate N)
def b__law_cell (N : Nat) : SM := (sSeq (sIf (tB (eBin dLt (eVar 1) (eCa fLen (aCons (eVar 0) aNil)))) (sRet (eBinS ixD (eVar 0) (eVar 1))) sNop)
    (sSeq (sSet 2 (eBin dMod (eBin dMul (eC (.int 60013)) (eBinS dAddS (eBinS dAddS (eBin dMul (eVar 1) (eVar 1)) (eBin dMul (eC (.int 5)) (eVar 1))) (eC (.int 11)))) (eC (.int 2147483477))))
    (sSeq (sFor (iSeq (eSl (eVar 0) oNone (oSome (eC (.int 3))))) (gN 3) (sSet 2 (eBin dMod (eBinS dAddS (eBin dMul (eVar 2) (eC (.int 48017))) (eVar 3)) (eC (.int 2147483477)))))
    (sRet (eVar 2)))))
def m__law_cell (N : Nat) : FM := fnM 4 (b__law_cell N)
def b__law_pool (N : Nat) : SM := (sSeq (sSet 1 (eC (.int 0)))
    (sSeq (sIf (tOr' (tB (eBin dLt (eVar 0) (eC (.int 0)))) (tB (eBin dGe (eVar 0) (eBin dPow (eC (.int 10)) (eC (.int 18)))))) (sSet 1 (eCa fAbs (aCons (eVar 0) aNil))) sNop)
    (sRet (eNew (aCons (eBin dMod (eVar 0) (eC (.int 2147483477))) (aCons (eVar 1) (aCons (eC (.int 0)) aNil)))))))
def m__law_pool (N : Nat) : FM := fnM 2 (b__law_pool N)
def b__law_take (N : Nat) : SM := (sSeq (sAsg (eBinS dAddS (eBinS ixD (eVar 0) (eC (.int 2))) (eC (.int 1))) (gSb (eVar 0) (eC (.int 2))))
    (sSeq (sSet 2 (eBinS ixD (eVar 0) (eC (.int 0))))
    (sSeq (sAsg (eBin dMod (eBinS dAddS (eBin dMul (eVar 2) (eBinS dAddS (eBin dMod (eVar 2) (eC (.int 44017))) (eC (.int 30029)))) (eBin dMul (eC (.int 80021)) (eBinS ixD (eVar 0) (eC (.int 2))))) (eC (.int 2147483477))) (gSb (eVar 0) (eC (.int 0))))
    (sSeq (sIf (tB (eBin dGt (eBinS ixD (eVar 0) (eC (.int 1))) (eC (.int 0)))) (sSeq (sAsg (eCa fDivmodW (aCons (eBinS ixD (eVar 0) (eC (.int 1))) (aCons (eVar 1) aNil))) (gTp 2 (gsCons' (gSb (eVar 0) (eC (.int 1))) (gsCons' (gN 3) gsNil))))
    (sRet (eVar 3))) sNop)
    (sRet (eBin dMod (eBin dDiv (eBinS ixD (eVar 0) (eC (.int 0))) (eC (.int 64))) (eVar 1)))))))
def m__law_take (N : Nat) : FM := fnM 4 (b__law_take N)
def b__law_r (N : Nat) : SM := (sSeq (sPar 2 3 (aCons (eCa fAbs (aCons (eVar 0) aNil)) (aCons (eCa fAbs (aCons (eVar 1) aNil)) aNil)))
    (sSeq (wlR (tB (eBin dGt (eVar 3) (eC (.int 0)))) (sPar 2 3 (aCons (eVar 3) (aCons (eBin dMod (eVar 2) (eVar 3)) aNil))) N)
    (sSeq (sIf (tB (eBin dLt (eVar 1) (eC (.int 0)))) (sSet 2 (eBin dSub (eC (.int 0)) (eVar 2))) sNop)
    (sRet (eTup (aCons (eBin dDiv (eVar 0) (eVar 2)) (aCons (eBin dDiv (eVar 1) (eVar 2)) aNil)))))))
def m__law_r (N : Nat) : FM := fnM 4 (b__law_r N)
def b__law_add (N : Nat) : SM := (sRet (eCall (m__law_r N) (nA 2 (aCons (eBinS dAddS (eBin dMul (eBinS ixD (eVar 0) (eC (.int 0))) (eBinS ixD (eVar 1) (eC (.int 1)))) (eBin dMul (eBinS ixD (eVar 1) (eC (.int 0))) (eBinS ixD (eVar 0) (eC (.int 1))))) (aCons (eBin dMul (eBinS ixD (eVar 0) (eC (.int 1))) (eBinS ixD (eVar 1) (eC (.int 1)))) aNil)))))
def m__law_add (N : Nat) : FM := fnM 2 (b__law_add N)
def b__law_less (N : Nat) : SM := (sRet (eBin dLt (eBin dMul (eBinS ixD (eVar 0) (eC (.int 0))) (eBinS ixD (eVar 1) (eC (.int 1)))) (eBin dMul (eBinS ixD (eVar 1) (eC (.int 0))) (eBinS ixD (eVar 0) (eC (.int 1))))))
def m__law_less (N : Nat) : FM := fnM 2 (b__law_less N)
theorem fDivmodW_s {i j : Int} (S : Store) (h0 : 0 < j) (h1 : j < 2 ^ 64) : fDivmodW S [.int i, .int j] = some (.tup [.int (i / j), .int (i % j)]) := by
  have h2 : j.natAbs.log2 < 9000 := Nat.lt_of_lt_of_le (log2_lt (n := 64) (by omega) (by omega)) (by omega)
  show (if 0 < j ∧ j.natAbs.log2 < 9000 then some (D.tup [.int (i / j), .int (i % j)]) else none) = _
  rw [if_pos ⟨h0, h2⟩]
def big (N : Nat) : Prop := 2 ^ 9000 ≤ N
theorem big_lt {N n : Nat} (hN : big N) {x : Nat} (h : x < 2 ^ n) (hn : n ≤ 9000) : x < N := Nat.lt_of_lt_of_le h (Nat.le_trans (pow_le2 hn) hN)
theorem loop (N : Nat) : ∀ (a b : Int) (S : Store), 0 ≤ a → 0 ≤ b → b.natAbs < N →
    wlR (tB (eBin dGt (eVar 1) (eC (.int 0)))) (sPar 0 1 (aCons (eVar 1) (aCons (eBin dMod (eVar 0) (eVar 1)) aNil))) N [some (.int a), some (.int b)] S = .nxt [some (.int (gI a b)), some (.int 0)] S := by
  induction N with
  | zero => intro a b S _ _ h; omega
  | succ N ih =>
    intro a b S ha hb h
    by_cases hz : b = 0
    · subst hz
      have e : gI a 0 = a := by unfold gI; simp; omega
      rw [e]; rfl
    · have hpos : 0 < b := by omega
      have h1 : wlR (tB (eBin dGt (eVar 1) (eC (.int 0)))) (sPar 0 1 (aCons (eVar 1) (aCons (eBin dMod (eVar 0) (eVar 1)) aNil))) (N + 1) [some (.int a), some (.int b)] S =
          wlR (tB (eBin dGt (eVar 1) (eC (.int 0)))) (sPar 0 1 (aCons (eVar 1) (aCons (eBin dMod (eVar 0) (eVar 1)) aNil))) N [some (.int b), some (.int (a.fmod b))] S := by
        simp [wlR, hpos, dMod_int hz]
      rw [h1]
      have e1 : a.fmod b = a % b := Int.fmod_eq_emod_of_nonneg a (by omega)
      have e2 : 0 ≤ a % b := Int.emod_nonneg a hz
      have e3 : a % b < b := Int.emod_lt_of_pos a hpos
      rw [e1, ih b (a % b) S hb e2 (by omega), gI_step ha hb]
theorem shared_ok (N : Nat) (a b : Int) (S : Store) (ha : 0 ≤ a) (hb : 0 ≤ b) (h : b.natAbs < N) : m_shared N [.int a, .int b] S = .ok (.int (gI a b)) S := by
  simp [m_shared, fnM_s, b_shared, loop N a b S ha hb h]
theorem isr_pair (N : Nat) (a b : Int) (S : Store) (hs : b.natAbs < N) : m_is_ratio N [.tup [.int a, .int b]] S = .ok (.bl (decide (0 < b) && decide (gI a b = 1))) S := by
  have hc : eLc (iSeq (eVar 0)) (.nm 3) tTrue (eCall (m_is_whole N) (nA 1 (aCons (eVar 3) aNil))) [3] [some (.tup [.int a, .int b]), none, none, none] S = .ok (.lst [.bl true, .bl true]) S := rfl
  by_cases h : 0 < b
  · have e := shared_ok N (if a < 0 then -a else a) b S (by split <;> omega) (by omega) hs
    rw [gI_abs] at e
    simp [m_is_ratio, fnM_s, b_is_ratio, hc, h, e, fAll, seqD, bools, Tn.is, dEq_int, dNe_int]
  · simp [m_is_ratio, fnM_s, b_is_ratio, hc, h, fAll, seqD, bools, Tn.is, dEq_int, dNe_int]
theorem isr_ok {N : Nat} {q : Rat} {S : Store} {n : Nat} (hN : big N) (h : Bt q n) (h9 : n ≤ 9000) : m_is_ratio N [rD q] S = .ok (.bl true) S := by
  have hd := q.den_pos
  unfold rD
  rw [isr_pair N _ _ S (by rw [Int.natAbs_natCast]; exact big_lt hN h.2 h9), gI_rat, decide_eq_true (by omega)]
  rfl
theorem chk_ok {N : Nat} {q : Rat} {S : Store} {n : Nat} (hN : big N) (h : Bt q n) (h9 : n ≤ 9000) : m_check_ratio N [rD q] S = .ok .non S := by
  simp [m_check_ratio, fnM_s, b_check_ratio, isr_ok hN h h9]
theorem chk2_ok {N : Nat} {p q : Rat} {S : Store} {n m : Nat} (hN : big N) (h : Bt p n) (h9 : n ≤ 9000) (h' : Bt q m) (h9' : m ≤ 9000) : m_check_two N [rD p, rD q] S = .ok .non S := by
  simp [m_check_two, fnM_s, b_check_two, chk_ok hN h h9, chk_ok hN h' h9']
theorem Bt.mul_nd {p q : Rat} {a b : Nat} (h : Bt p a) (h' : Bt q b) (l : a + b ≤ 9000) : mulOk p.num q.den = true := mul_ok h.1 (by simpa using h'.2) h.pos h'.pos (by omega)
theorem Bt.mul_dd {p q : Rat} {a b : Nat} (h : Bt p a) (h' : Bt q b) (l : a + b ≤ 9000) : mulOk p.den q.den = true := mul_ok (by simpa using h.2) (by simpa using h'.2) h.pos h'.pos (by omega)
theorem den_mul_pos (p q : Rat) : (0 : Int) < (p.den : Int) * (q.den : Int) := Int.mul_pos (by have := p.den_pos; omega) (by have := q.den_pos; omega)
theorem den_mul_lt {p q : Rat} {a b : Nat} (h : Bt p a) (h' : Bt q b) : ((p.den : Int) * (q.den : Int)).natAbs < 2 ^ (a + b) := natAbs_mul_lt (by simpa using h.2) (by simpa using h'.2)
theorem before_ok {N : Nat} {p q : Rat} {S : Store} {n m : Nat} (hN : big N) (h : Bt p n) (h' : Bt q m) (l : n + m ≤ 9000) : m_is_before N [rD p, rD q] S = .ok (.bl (decide (p < q))) S := by
  apply eq_of_w
  rw [m_is_before, wr_fnM, b_is_before]
  wp_walk using chk2_ok hN h (by omega) h' (by omega), dMul_int (Bt.mul_nd h h' l), dMul_int (Bt.mul_nd h' h (by omega)), dLt, lt_rat
theorem loop4 (N : Nat) (x y : Option D) : ∀ (a b : Int) (S : Store), 0 ≤ a → 0 ≤ b → b.natAbs < N →
    wlR (tB (eBin dGt (eVar 3) (eC (.int 0)))) (sPar 2 3 (aCons (eVar 3) (aCons (eBin dMod (eVar 2) (eVar 3)) aNil))) N [x, y, some (.int a), some (.int b)] S = .nxt [x, y, some (.int (gI a b)), some (.int 0)] S := by
  induction N with
  | zero => intro a b S _ _ h; omega
  | succ N ih =>
    intro a b S ha hb h
    by_cases hz : b = 0
    · subst hz
      have e : gI a 0 = a := by unfold gI; simp; omega
      rw [e]; rfl
    · have hpos : 0 < b := by omega
      have h1 : wlR (tB (eBin dGt (eVar 3) (eC (.int 0)))) (sPar 2 3 (aCons (eVar 3) (aCons (eBin dMod (eVar 2) (eVar 3)) aNil))) (N + 1) [x, y, some (.int a), some (.int b)] S =
          wlR (tB (eBin dGt (eVar 3) (eC (.int 0)))) (sPar 2 3 (aCons (eVar 3) (aCons (eBin dMod (eVar 2) (eVar 3)) aNil))) N [x, y, some (.int b), some (.int (a.fmod b))] S := by
        simp [wlR, hpos, dMod_int hz]
      rw [h1]
      have e1 : a.fmod b = a % b := Int.fmod_eq_emod_of_nonneg a (by omega)
      have e2 : 0 ≤ a % b := Int.emod_nonneg a hz
      have e3 : a % b < b := Int.emod_lt_of_pos a hpos
      rw [e1, ih b (a % b) S hb e2 (by omega), gI_step ha hb]
theorem r_ok {N : Nat} {t b : Int} {S : Store} {n : Nat} (hN : big N) (hb : b ≠ 0) (hs : b.natAbs < 2 ^ n) (hn : 0 < n) (h9 : n ≤ 9000) : m__law_r N [.int t, .int b] S = .ok (rD (Rat.divInt t b)) S := by
  have hg := gI_pos (a := t) (b := b) hb
  have hl := gI_le (a := t) (b := b) hb
  have hbN := big_lt hN hs h9
  have e := loop4 N (some (.int t)) (some (.int b)) (if t < 0 then -t else t) (if b < 0 then -b else b) S (by split <;> omega) (by split <;> omega) (by split <;> omega)
  rw [gI_congr (c := t) (d := b) (by split <;> omega) (by split <;> omega)] at e
  by_cases h : b < 0
  · have hd : divOk (0 - gI t b) = true := div_ok (b := n) (by omega) (by omega) hn h9
    have f1 := fdiv_neg_of hg (gI_l t b)
    have f2 := fdiv_neg_of hg (gI_r t b)
    rw [← neg_rD h, ← f1, ← f2]
    simp only [Int.zero_sub] at hd f1 f2
    simp only [if_pos h] at e
    simp [m__law_r, fnM_s, b__law_r, e, h, dDiv_int hd, f1, f2, sizeLine_eq]
  · have hd : divOk (gI t b) = true := div_ok (b := n) (by omega) (by omega) hn h9
    rw [← lowest_rD (by omega)]
    simp only [if_neg h] at e
    simp [m__law_r, fnM_s, b__law_r, e, h, dDiv_int hd, fdiv_pos hg, sizeLine_eq]
theorem ladd_ok {N : Nat} {p q : Rat} {S : Store} {n m : Nat} (hN : big N) (h : Bt p n) (h' : Bt q m) (l : n + m ≤ 9000) : m__law_add N [rD p, rD q] S = .ok (rD (p + q)) S := by
  have e := r_ok (N := N) (t := p.num * q.den + q.num * p.den) (S := S) hN (Int.ne_of_gt (den_mul_pos p q)) (den_mul_lt h h') (by have := h.pos; omega) l
  rw [← add_div] at e
  apply eq_of_w
  rw [m__law_add, wr_fnM, b__law_add]
  wp_walk using dMul_int (Bt.mul_nd h h' l), dMul_int (Bt.mul_nd h' h (by omega)), dMul_int (Bt.mul_dd h h' l), e
theorem lless_ok {N : Nat} {p q : Rat} {S : Store} {n m : Nat} (h : Bt p n) (h' : Bt q m) (l : n + m ≤ 9000) : m__law_less N [rD p, rD q] S = .ok (.bl (decide (p < q))) S := by
  apply eq_of_w
  rw [m__law_less, wr_fnM, b__law_less]
  wp_walk using dMul_int (Bt.mul_nd h h' l), dMul_int (Bt.mul_nd h' h (by omega)), dLt, lt_rat
def Pool (S : Store) (n : Nat) : Prop := ∃ a b c : Int, S[n]? = some (.lst [.int a, .int b, .int c]) ∧ 0 ≤ a ∧ a < 2147483477 ∧ 0 ≤ b
def Fr (n : Nat) (S S' : Store) : Prop := S.length ≤ S'.length ∧ ∀ m, m < S.length → m ≠ n → S'[m]? = S[m]?
theorem Fr.refl (n : Nat) (S : Store) : Fr n S S := ⟨Nat.le_refl _, fun _ _ _ => rfl⟩
theorem Fr.trans {n : Nat} {S S1 S2 : Store} (a : Fr n S S1) (b : Fr n S1 S2) : Fr n S S2 := ⟨Nat.le_trans a.1 b.1, fun m h h' => (b.2 m (Nat.lt_of_lt_of_le h a.1) h').trans (a.2 m h h')⟩
theorem Fr.set {n : Nat} {S : Store} (c : Cell) : Fr n S (S.set n c) := ⟨by rw [List.length_set]; exact Nat.le_refl _, fun m _ h => List.getElem?_set_ne (Ne.symm h)⟩
theorem Fr.app {n : Nat} {S : Store} (c : List Cell) : Fr n S (S ++ c) := ⟨by rw [List.length_append]; omega, fun m h _ => List.getElem?_append_left h⟩
theorem Pool.app {S : Store} {n : Nat} (P : Pool S n) (c : List Cell) : Pool (S ++ c) n := by
  obtain ⟨x, y, z, h, r⟩ := P
  exact ⟨x, y, z, by rw [List.getElem?_append_left (List.getElem?_eq_some_iff.mp h).1]; exact h, r⟩
theorem Pool.lt {S : Store} {n : Nat} (P : Pool S n) : n < S.length := by
  obtain ⟨x, y, z, h, r⟩ := P
  exact (List.getElem?_eq_some_iff.mp h).1
theorem Pool.set {S : Store} {n i : Nat} (P : Pool S n) (c : Cell) (h : i ≠ n) : Pool (S.set i c) n := by
  obtain ⟨x, y, z, hs, r⟩ := P
  exact ⟨x, y, z, by rw [List.getElem?_set_ne h]; exact hs, r⟩
theorem Fr.get {n : Nat} {S S' : Store} {i : Nat} {c : Cell} (F : Fr n S S') (h : S[i]? = some c) (hn : i ≠ n) : S'[i]? = some c := by
  rw [F.2 i (List.getElem?_eq_some_iff.mp h).1 hn]; exact h
theorem take_w (N : Nat) {S : Store} {n : Nat} {many : Int} {Q : D → Store → Prop} {X : D → Store → Prop} (P : Pool S n) (hm : 0 < many) (hm2 : many < 2 ^ 64)
    (h : ∀ d S', 0 ≤ d → d < many → Pool S' n → Fr n S S' → Q (.int d) S') : Wr (m__law_take N [.loc n, .int many] S) Q X := by
  obtain ⟨a, b, c, hS, ha, ha2, hb⟩ := P
  have hn : n < S.length := (List.getElem?_eq_some_iff.mp hS).1
  have get : ∀ (S : Store) (X : Cell), n < S.length → (S.set n X)[n]? = some X := fun S X h => by rw [List.getElem?_set_self h]
  have m1 : ∀ z, mulOk a z = true := fun z => mul_l (by omega)
  have m2 : ∀ z, mulOk 80021 z = true := fun z => mul_l (by decide)
  obtain ⟨a', ea⟩ : ∃ a', a' = (a * (a.fmod 44017 + 30029) + 80021 * (c + 1)).fmod 2147483477 := ⟨_, rfl⟩
  have e' : a' = (a * (a.fmod 44017 + 30029) + 80021 * (c + 1)) % 2147483477 := by rw [ea]; exact Int.fmod_eq_emod_of_nonneg _ (by omega)
  have ha1 : 0 ≤ a' := by rw [e']; exact Int.emod_nonneg _ (by omega)
  have ha3 : a' < 2147483477 := by rw [e']; exact Int.emod_lt_of_pos _ (by omega)
  have i0 : ixD S (.loc n) (.int 2) = some (.int c) := ixD_loc _ hS
  have i1 : ∀ (S : Store) (x y z : D) (k : Int), n < S.length → ixD (S.set n (.lst [x, y, z])) (.loc n) (.int k) = L2.atI [x, y, z] k := fun S x y z k h => ixD_loc _ (get S _ h)
  have s0 : ∀ d, setD S (.loc n) (.int 2) d = some (S.set n (.lst [.int a, .int b, d])) := fun d => setD_loc (j := 2) d hS rfl
  have s1 : ∀ (x y z d : D), setD (S.set n (.lst [x, y, z])) (.loc n) (.int 0) d = some (S.set n (.lst [d, y, z])) := fun x y z d => by
    rw [setD_loc (j := 0) d (get S _ hn) rfl, List.set_set]; rfl
  have s2 : ∀ (x y z d : D), setD (S.set n (.lst [x, y, z])) (.loc n) (.int 1) d = some (S.set n (.lst [x, d, z])) := fun x y z d => by
    rw [setD_loc (j := 1) d (get S _ hn) rfl, List.set_set]; rfl
  rw [m__law_take, wr_fnM, b__law_take]
  by_cases hb0 : 0 < b
  · (try simp only [wr_ok, wr_exc, wr_lf, wr_eC, evQ_some, wr_eVar, cB2_s, cB1_s, wr_eBin, cS2_s, cS1_s, wr_eBinS, asQ_bl, wr_tB, truQ_s, wr_tT, notQ_s, wr_tNt, anQ_t, anQ_f, wr_tAn, orQ_t, orQ_f, wr_tOr, eaB_t, eaB_f, eaQ_s, wr_eAn, eoB_t, eoB_f, eoQ_s, wr_eOr, enB_s, enQ_s, wr_eNt, eiQ_t, eiQ_f, wr_eIf, negQ_int, wr_eNeg, wr_aNil, cC2_s, cC1_s, wr_aCons, tupQ_s, lstQ_s, newQ_s, wr_eTup, wr_eLst, wr_eNew, caQ_s, wr_eCa, clQ_s, wr_eCall, nAQ_s, wr_nA, tyQ_s, wr_eIsTy, icQ_s, wr_eIsC, mt2_s, mt1_s, wr_eMt, wr_oNone, oQ_int, wr_oSome, sl3_s, sl2_s, sl1_s, wr_eSl, kk2_s, kk1_s, wr_eCallK, kk0_s, wr_eCallK0, wr_gN, sb3_s, sb2_s, sb1_s, wr_gSb, wr_gsNil, gs1_s, wr_gsCons, wr_gTp, wr_gTp_rD, xe_s, sq_nx, sq_rt, sq_bk, sq_ct, sq_ex, sq_xe, ws_nxt, ws_sNop, ws_sSeq, ws_sBrk, ws_sCnt, dropQ_s, ws_sDrop, ws_sRet, ws_sRetN, ifQ_t, ifQ_f, ws_sIf, asg1_s, ws_sAsg, setQ_s, ws_sSet, parQ_s, ws_sPar, ws_sRaise, fn_nx, fn_rt, fn_ex, fn_xe, su_nx, su_bk, su_ct, su_rt, trQ_t, trQ_f, tr_nx, tr_rt, tr_bk, tr_ct, tr_ex, ws_sTry, forQ_s, ws_sFor, lp_nx, lp_rt, lp_bk, lp_ct, lp_ex, lp_xe, ws_fi_nil, bodyQ_s, mid_nx, mid_rt, mid_bk, mid_ct, mid_ex, mid_xe, lc2_s, lc1_s, wr_eLc, lcn2_s, lcn1_s, wr_eLcN, wipe_nil, wipe_cons, wr_tTrue, wr_lc_nil, tgQ_some, ly_s, lt1_t, lt1_f, lg_s, eqQ_s, exQ_s, seqQ_tup, seqQ_lst, seqQ_scr, seqQ_rD, wr_iSeq, rgQ_int, wr_iRg1, rgQ2_int, wr_iRg2, ch3_t, ch3_f, ch2_s, ch1_s, wr_eChain, flQ_s, wr_eFld, fldD_ins, stQ_s, sf2_s, sf1_s, ws_sFldM, mkQ2_s, mkQ1_s, wr_eMk, wr_eMk0, ap2_s, ap1_s, wr_eApp, zpQ_s, wr_iZip, zipR_tup, zipR_lst, srQ_s, wr_iStrM, strR_s, ioQ_s, wr_eIsO, dAddS_int, wr_gStr_tup, wr_gStr_lst, fTuple_lst, fTuple_tup, List.take_succ_cons, List.take_zero, List.drop_succ_cons, List.drop_zero, List.getElem?_cons_zero, List.getElem?_cons_succ, List.set_cons_zero, List.set_cons_succ, List.map_cons, List.map_nil, List.length_cons, List.length_nil, List.cons_append, List.nil_append, List.replicate_succ, List.replicate_zero, List.append_nil, true_and, and_true, and_self, if_true, ite_true, if_false, ite_false, Bool.false_eq_true, Bool.not_true, Bool.not_false, Bool.not_not, decide_true, decide_false, decide_eq_true_eq, not_false_eq_true, not_true_eq_false, reduceCtorEq, sizeLine_eq, Option.map_some, Option.some.injEq, Nat.reduceSub, Nat.reduceAdd, Nat.reduceLeDiff, Nat.reduceEqDiff, Nat.zero_add, Nat.reduceBEq, List.contains_cons, List.contains_nil, beq_self_eq_true, Bool.true_or, Bool.or_true, Bool.false_or, Bool.or_false, List.lookup_cons, List.lookup_nil, Int.reduceEq, Int.reduceNe, Int.reduceLT, Int.reduceLE, Int.reduceNeg, Int.reduceAdd, Int.reduceSub, Int.cast_ofNat_Int, ne_eq, cmpI_s, dGt, dGe, dLt, dLe, dAdd_int, dSub_int, dEq_int, dNe_int, dEq_bl, dNe_bl, truD_bl, isTy_int, isTy_bl, isTy_tup, fLen_tup, fLen_scr, fLen_lst, fAbs_int, fMax_int, fMin_int, ixD_tup, ixD_lst, ixD_scr, isTy_rD, fLen_rD, ix_rD0, ix_rD1, dEq_rD, dNe_rD, dIs_rD, dIsNot_rD, Tn.is, i0, s0, s1, s2, i1 _ _ _ _ _ hn, at3_0, at3_1, at3_2, dMul_int (m1 _), dMul_int (m2 _), dMod_int, dGt, ← ea, hb0, fDivmodW_s _ hm hm2, ne_eq])
    exact h _ _ (Int.emod_nonneg _ (by omega)) (Int.emod_lt_of_pos _ hm) ⟨a', b / many, c + 1, get S _ hn, ha1, ha3, Int.ediv_nonneg hb (by omega)⟩ (Fr.set _)
  · have d64 : divOk 64 = true := by decide
    have hz : ¬ many = 0 := by omega
    (try simp only [wr_ok, wr_exc, wr_lf, wr_eC, evQ_some, wr_eVar, cB2_s, cB1_s, wr_eBin, cS2_s, cS1_s, wr_eBinS, asQ_bl, wr_tB, truQ_s, wr_tT, notQ_s, wr_tNt, anQ_t, anQ_f, wr_tAn, orQ_t, orQ_f, wr_tOr, eaB_t, eaB_f, eaQ_s, wr_eAn, eoB_t, eoB_f, eoQ_s, wr_eOr, enB_s, enQ_s, wr_eNt, eiQ_t, eiQ_f, wr_eIf, negQ_int, wr_eNeg, wr_aNil, cC2_s, cC1_s, wr_aCons, tupQ_s, lstQ_s, newQ_s, wr_eTup, wr_eLst, wr_eNew, caQ_s, wr_eCa, clQ_s, wr_eCall, nAQ_s, wr_nA, tyQ_s, wr_eIsTy, icQ_s, wr_eIsC, mt2_s, mt1_s, wr_eMt, wr_oNone, oQ_int, wr_oSome, sl3_s, sl2_s, sl1_s, wr_eSl, kk2_s, kk1_s, wr_eCallK, kk0_s, wr_eCallK0, wr_gN, sb3_s, sb2_s, sb1_s, wr_gSb, wr_gsNil, gs1_s, wr_gsCons, wr_gTp, wr_gTp_rD, xe_s, sq_nx, sq_rt, sq_bk, sq_ct, sq_ex, sq_xe, ws_nxt, ws_sNop, ws_sSeq, ws_sBrk, ws_sCnt, dropQ_s, ws_sDrop, ws_sRet, ws_sRetN, ifQ_t, ifQ_f, ws_sIf, asg1_s, ws_sAsg, setQ_s, ws_sSet, parQ_s, ws_sPar, ws_sRaise, fn_nx, fn_rt, fn_ex, fn_xe, su_nx, su_bk, su_ct, su_rt, trQ_t, trQ_f, tr_nx, tr_rt, tr_bk, tr_ct, tr_ex, ws_sTry, forQ_s, ws_sFor, lp_nx, lp_rt, lp_bk, lp_ct, lp_ex, lp_xe, ws_fi_nil, bodyQ_s, mid_nx, mid_rt, mid_bk, mid_ct, mid_ex, mid_xe, lc2_s, lc1_s, wr_eLc, lcn2_s, lcn1_s, wr_eLcN, wipe_nil, wipe_cons, wr_tTrue, wr_lc_nil, tgQ_some, ly_s, lt1_t, lt1_f, lg_s, eqQ_s, exQ_s, seqQ_tup, seqQ_lst, seqQ_scr, seqQ_rD, wr_iSeq, rgQ_int, wr_iRg1, rgQ2_int, wr_iRg2, ch3_t, ch3_f, ch2_s, ch1_s, wr_eChain, flQ_s, wr_eFld, fldD_ins, stQ_s, sf2_s, sf1_s, ws_sFldM, mkQ2_s, mkQ1_s, wr_eMk, wr_eMk0, ap2_s, ap1_s, wr_eApp, zpQ_s, wr_iZip, zipR_tup, zipR_lst, srQ_s, wr_iStrM, strR_s, ioQ_s, wr_eIsO, dAddS_int, wr_gStr_tup, wr_gStr_lst, fTuple_lst, fTuple_tup, List.take_succ_cons, List.take_zero, List.drop_succ_cons, List.drop_zero, List.getElem?_cons_zero, List.getElem?_cons_succ, List.set_cons_zero, List.set_cons_succ, List.map_cons, List.map_nil, List.length_cons, List.length_nil, List.cons_append, List.nil_append, List.replicate_succ, List.replicate_zero, List.append_nil, true_and, and_true, and_self, if_true, ite_true, if_false, ite_false, Bool.false_eq_true, Bool.not_true, Bool.not_false, Bool.not_not, decide_true, decide_false, decide_eq_true_eq, not_false_eq_true, not_true_eq_false, reduceCtorEq, sizeLine_eq, Option.map_some, Option.some.injEq, Nat.reduceSub, Nat.reduceAdd, Nat.reduceLeDiff, Nat.reduceEqDiff, Nat.zero_add, Nat.reduceBEq, List.contains_cons, List.contains_nil, beq_self_eq_true, Bool.true_or, Bool.or_true, Bool.false_or, Bool.or_false, List.lookup_cons, List.lookup_nil, Int.reduceEq, Int.reduceNe, Int.reduceLT, Int.reduceLE, Int.reduceNeg, Int.reduceAdd, Int.reduceSub, Int.cast_ofNat_Int, ne_eq, cmpI_s, dGt, dGe, dLt, dLe, dAdd_int, dSub_int, dEq_int, dNe_int, dEq_bl, dNe_bl, truD_bl, isTy_int, isTy_bl, isTy_tup, fLen_tup, fLen_scr, fLen_lst, fAbs_int, fMax_int, fMin_int, ixD_tup, ixD_lst, ixD_scr, isTy_rD, fLen_rD, ix_rD0, ix_rD1, dEq_rD, dNe_rD, dIs_rD, dIsNot_rD, Tn.is, i0, s0, s1, s2, i1 _ _ _ _ _ hn, at3_0, at3_1, at3_2, dMul_int (m1 _), dMul_int (m2 _), dMod_int, dGt, ← ea, hb0, dDiv_int d64, hz, ne_eq])
    refine h _ _ ?_ ?_ ⟨a', b, c + 1, get S _ hn, ha1, ha3, hb⟩ (Fr.set _)
    · rw [Int.fmod_eq_emod_of_nonneg _ (by omega)]; exact Int.emod_nonneg _ (by omega)
    · rw [Int.fmod_eq_emod_of_nonneg _ (by omega)]; exact Int.emod_lt_of_pos _ hm
theorem pool_w (N : Nat) (x : Int) {S : Store} {Q : D → Store → Prop} {X : D → Store → Prop} (h : ∀ c, Pool (S ++ [c]) S.length → Q (.loc S.length) (S ++ [c])) : Wr (m__law_pool N [.int x] S) Q X := by
  have e1 : x.fmod 2147483477 = x % 2147483477 := Int.fmod_eq_emod_of_nonneg _ (by omega)
  have g : ∀ X : Cell, (S ++ [X])[S.length]? = some X := fun X => by simp
  have a1 : 0 ≤ x.fmod 2147483477 := by rw [e1]; exact Int.emod_nonneg _ (by omega)
  have a2 : x.fmod 2147483477 < 2147483477 := by rw [e1]; exact Int.emod_lt_of_pos _ (by omega)
  have ep : dPow (.int 10) (.int 18) = some (.int (10 ^ 18)) := rfl
  rw [m__law_pool, wr_fnM, b__law_pool]
  by_cases h1 : x < 0
  · wp_walk using dLt, h1, dMod_int, ne_eq
    exact h _ ⟨_, _, _, g _, a1, a2, by omega⟩
  · by_cases h2 : (10 ^ 18 : Int) ≤ x
    · wp_walk using dLt, dGe, ep, h1, h2, dMod_int, ne_eq
      exact h _ ⟨_, _, _, g _, a1, a2, by omega⟩
    · wp_walk using dLt, dGe, ep, h1, h2, dMod_int, ne_eq
      exact h _ ⟨_, _, _, g _, a1, a2, by omega⟩
theorem wr_at {l : List D} {i : Int} {S : Store} {Q : D → Store → Prop} {X : D → Store → Prop} (h0 : 0 ≤ i) (h1 : i < l.length) (h : ∀ d, d ∈ l → Q d S) : Wr (lf (L2.atI l i) S) Q X := by
  have hk : i.toNat < l.length := by omega
  have e : L2.atI l i = some l[i.toNat] := by
    unfold L2.atI L2.ixN
    rw [if_pos h0, if_pos h1]
    show l[i.toNat]? = _
    exact List.getElem?_eq_getElem hk
  rw [e]
  exact h _ (List.getElem_mem hk)
theorem range_mem {n : Nat} {d : D} (h : d ∈ rangeD 0 n) : ∃ k : Int, d = .int k ∧ 0 ≤ k ∧ k < n := by
  unfold rangeD at h
  rw [List.mem_map] at h
  obtain ⟨k, hk, rfl⟩ := h
  rw [List.mem_range] at hk
  exact ⟨0 + (k : Nat), rfl, by omega, by omega⟩
theorem range_get {n i : Nat} {d : D} (h : (rangeD 0 n)[i]? = some d) : d = .int i ∧ i < n := by
  unfold rangeD at h
  rw [List.getElem?_map] at h
  obtain ⟨k, hk, rfl⟩ := Option.map_eq_some_iff.mp h
  obtain ⟨h1, h2⟩ := List.getElem?_eq_some_iff.mp hk
  simp at h1 h2
  subst h2
  exact ⟨by simp, h1⟩
theorem range_len (n : Nat) : (rangeD 0 n).length = n := by unfold rangeD; simp
theorem atI_ints (ns : List Int) {k : Int} (h0 : 0 ≤ k) (h : k < ns.length) : ∃ x : Int, L2.atI (ns.map D.int) k = some (.int x) := by
  have hk : k.toNat < ns.length := by omega
  refine ⟨ns[k.toNat], ?_⟩
  unfold L2.atI L2.ixN
  rw [List.length_map, if_pos h0, if_pos h]
  show (ns.map D.int)[k.toNat]? = _
  rw [List.getElem?_map, List.getElem?_eq_getElem hk]
  rfl
theorem cell_w (N : Nat) (ns : List Int) (k : Int) {S : Store} {Q : D → Store → Prop} {X : D → Store → Prop} (h0 : 0 ≤ k) (h1 : k < 2 ^ 40) (h : ∀ x : Int, Q (.int x) S) : Wr (m__law_cell N [.scr (ns.map .int), .int k] S) Q X := by
  rw [m__law_cell, wr_fnM, b__law_cell]
  by_cases hk : k < ns.length
  · obtain ⟨x, e⟩ := atI_ints ns h0 hk
    wp_walk using List.length_map, hk, e
    exact h x
  · have es : slD S (.scr (ns.map D.int)) none (some 3) = some (.lst ((cutL ns none (some 3)).map D.int)) := by
      show some (D.lst (cutL (ns.map D.int) none (some 3))) = _
      rw [cutL_map]
    wp_walk using List.length_map, hk, dMul_int (mul_l (i := k) (j := k) (by omega)), dMul_int (mul_l (i := 5) (j := k) (by decide)), dMul_int (mul_l (i := 60013) (by decide)), dMod_int, es
    refine for_i (fun e S' => S' = S ∧ ∃ (z : Int) (o : Option D), e = [some (.scr (ns.map .int)), some (.int k), some (.int z), o]) ⟨rfl, _, none, rfl⟩ ?_ ?_
    · rintro d e S' hd ⟨rfl, z, o, rfl⟩
      obtain ⟨i, _, rfl⟩ := List.mem_map.mp hd
      wp_walk using dMul_int (mul_r (i := z) (j := 48017) (by decide)), dMod_int
      exact ⟨_, _, rfl⟩
    · rintro e S' ⟨rfl, z, o, rfl⟩
      wp_walk using wr_ok
      exact h z
theorem cells {l n : Int} (h0 : 0 ≤ l) (hn : 0 ≤ n) (hn2 : n ≤ 64) : ∃ j : Int, (if (if n < l then n else l) > 1 then (if n < l then n else l) else 1) = j ∧ 1 ≤ j ∧ j ≤ 64 := by
  refine ⟨_, rfl, ?_, ?_⟩
  · split <;> omega
  · split <;> (try split) <;> omega
theorem eqD_str (a b : Str) : eqD (.str a) (.str b) = some (decide (a = b)) := rfl
theorem dEq_str (a b : Str) : dEq (.str a) (.str b) = some (.bl (decide (a = b))) := by unfold dEq; rw [eqD_str]; rfl
theorem dNe_str (a b : Str) : dNe (.str a) (.str b) = some (.bl (!decide (a = b))) := by unfold dNe; rw [eqD_str]; rfl
theorem time_ok {N : Nat} {q : Rat} {S : Store} {n : Nat} (hN : big N) (h : Bt q n) (h9 : n ≤ 9000) : m_is_time N [rD q] S = .ok (.bl (decide (0 ≤ q.num))) S := by
  apply eq_of_w
  rw [m_is_time, wr_fnM, b_is_time]
  wp_walk using isr_ok hN h h9
theorem rate_ok {N : Nat} {q : Rat} {S : Store} {n : Nat} (hN : big N) (h : Bt q n) (h9 : n ≤ 9000) : m_is_rate N [rD q] S = .ok (.bl (decide (0 < q ∧ q ≤ 1))) S := by
  have e1 : (0 < q.num) ↔ 0 < q := by
    rw [Rat.lt_iff]; simp
  have e2 : (q.num ≤ (q.den : Int)) ↔ q ≤ 1 := by
    rw [Rat.le_iff]; simp
  apply eq_of_w
  rw [m_is_rate, wr_fnM, b_is_rate]
  by_cases h1 : 0 < q.num
  · by_cases h2 : q.num ≤ (q.den : Int)
    · wp_walk using isr_ok hN h h9, h1, h2, e1.mp h1, e2.mp h2
    · have h2' : ¬ q ≤ 1 := fun z => h2 (e2.mpr z)
      wp_walk using isr_ok hN h h9, h1, h2, e1.mp h1, h2', and_false
  · have h1' : ¬ 0 < q := fun z => h1 (e1.mpr z)
    wp_walk using isr_ok hN h h9, h1, h1', false_and
end
end C
namespace C
open PySem G
local macro_rules | `(tactic| wp_walk using $ts,*) => `(tactic| try simp only [wr_ok, wr_exc, wr_lf, wr_eC, evQ_some, wr_eVar, cB2_s, cB1_s, wr_eBin, cS2_s, cS1_s, wr_eBinS, asQ_bl, wr_tB, truQ_s, wr_tT, notQ_s, wr_tNt, anQ_t, anQ_f, wr_tAn, orQ_t, orQ_f, wr_tOr, eaB_t, eaB_f, eaQ_s, wr_eAn, eoB_t, eoB_f, eoQ_s, wr_eOr, enB_s, enQ_s, wr_eNt, eiQ_t, eiQ_f, wr_eIf, negQ_int, wr_eNeg, wr_aNil, cC2_s, cC1_s, wr_aCons, tupQ_s, lstQ_s, newQ_s, wr_eTup, wr_eLst, wr_eNew, caQ_s, wr_eCa, clQ_s, wr_eCall, nAQ_s, wr_nA, tyQ_s, wr_eIsTy, icQ_s, wr_eIsC, mt2_s, mt1_s, wr_eMt, wr_oNone, oQ_int, wr_oSome, sl3_s, sl2_s, sl1_s, wr_eSl, kk2_s, kk1_s, wr_eCallK, kk0_s, wr_eCallK0, wr_gN, sb3_s, sb2_s, sb1_s, wr_gSb, wr_gsNil, gs1_s, wr_gsCons, wr_gTp, wr_gTp_rD, xe_s, sq_nx, sq_rt, sq_bk, sq_ct, sq_ex, sq_xe, ws_nxt, ws_sNop, ws_sSeq, ws_sBrk, ws_sCnt, dropQ_s, ws_sDrop, ws_sRet, ws_sRetN, ifQ_t, ifQ_f, ws_sIf, asg1_s, ws_sAsg, setQ_s, ws_sSet, parQ_s, ws_sPar, ws_sRaise, fn_nx, fn_rt, fn_ex, fn_xe, su_nx, su_bk, su_ct, su_rt, trQ_t, trQ_f, tr_nx, tr_rt, tr_bk, tr_ct, tr_ex, ws_sTry, forQ_s, ws_sFor, lp_nx, lp_rt, lp_bk, lp_ct, lp_ex, lp_xe, ws_fi_nil, bodyQ_s, mid_nx, mid_rt, mid_bk, mid_ct, mid_ex, mid_xe, lc2_s, lc1_s, wr_eLc, lcn2_s, lcn1_s, wr_eLcN, wipe_nil, wipe_cons, wr_tTrue, wr_lc_nil, tgQ_some, ly_s, lt1_t, lt1_f, lg_s, eqQ_s, exQ_s, seqQ_tup, seqQ_lst, seqQ_scr, seqQ_rD, wr_iSeq, rgQ_int, wr_iRg1, rgQ2_int, wr_iRg2, ch3_t, ch3_f, ch2_s, ch1_s, wr_eChain, flQ_s, wr_eFld, fldD_ins, stQ_s, sf2_s, sf1_s, ws_sFldM, mkQ2_s, mkQ1_s, wr_eMk, wr_eMk0, ap2_s, ap1_s, wr_eApp, zpQ_s, wr_iZip, zipR_tup, zipR_lst, srQ_s, wr_iStrM, strR_s, ioQ_s, wr_eIsO, dAddS_int, wr_gStr_tup, wr_gStr_lst, fTuple_lst, fTuple_tup, List.take_succ_cons, List.take_zero, List.drop_succ_cons, List.drop_zero, List.getElem?_cons_zero, List.getElem?_cons_succ, List.set_cons_zero, List.set_cons_succ, List.map_cons, List.map_nil, List.length_cons, List.length_nil, List.cons_append, List.nil_append, List.replicate_succ, List.replicate_zero, List.append_nil, true_and, and_true, and_self, if_true, ite_true, if_false, ite_false, Bool.false_eq_true, Bool.not_true, Bool.not_false, Bool.not_not, decide_true, decide_false, decide_eq_true_eq, not_false_eq_true, not_true_eq_false, reduceCtorEq, sizeLine_eq, Option.map_some, Option.some.injEq, Nat.reduceSub, Nat.reduceAdd, Nat.reduceLeDiff, Nat.reduceEqDiff, Nat.zero_add, Nat.reduceBEq, List.contains_cons, List.contains_nil, beq_self_eq_true, Bool.true_or, Bool.or_true, Bool.false_or, Bool.or_false, List.lookup_cons, List.lookup_nil, Int.reduceEq, Int.reduceNe, Int.reduceLT, Int.reduceLE, Int.reduceNeg, Int.reduceAdd, Int.reduceSub, Int.cast_ofNat_Int, ne_eq, cmpI_s, dGt, dGe, dLt, dLe, dAdd_int, dSub_int, dEq_int, dNe_int, dEq_bl, dNe_bl, truD_bl, isTy_int, isTy_bl, isTy_tup, fLen_tup, fLen_scr, fLen_lst, fAbs_int, fMax_int, fMin_int, ixD_tup, ixD_lst, ixD_scr, isTy_rD, fLen_rD, ix_rD0, ix_rD1, dEq_rD, dNe_rD, dIs_rD, dIsNot_rD, Tn.is, $[$ts:term],*])
noncomputable section
def b_is_none (N : Nat) : SM := (sRet (eAn (eCa fAll (aCons (eLc (iSeq (eVar 0)) (.nm 1) tTrue (eCall (m_is_whole N) (nA 1 (aCons (eVar 1) aNil))) [1]) aNil)) (eBin dEq (eVar 0) (eC (.tup [.int 0, .int 1])))))
def m_is_none (N : Nat) : FM := fnM 2 (b_is_none N)
def b_is_least (N : Nat) : SM := (sRet (eOr (eCall (m_is_rate N) (nA 1 (aCons (eVar 0) aNil))) (eAn (eIsTy .tuple (eVar 0)) (eAn (eBin dEq (eCa fLen (aCons (eVar 0) aNil)) (eC (.int 2))) (eCall (m_is_none N) (nA 1 (aCons (eVar 0) aNil)))))))
def m_is_least (N : Nat) : FM := fnM 1 (b_is_least N)
def b_is_name (N : Nat) : SM := (sSeq (sIf (tOr' (tNt (tT (eIsTy .str (eVar 0)))) (tNt (tB (eChain dLe dLe (eC (.int 1)) (eCa fLen (aCons (eVar 0) aNil)) (eC (.int 8)))))) (sRet (eC (.bl false))) sNop)
    (sRet (eCa fAll (aCons (eLc (iStrM (eVar 0)) (.nm 1) tTrue (eBinS (dIn false) (eVar 1) (eC (.str "abcdefghijklmnopqrstuvwxyz"))) [1]) aNil))))
def m_is_name (N : Nat) : FM := fnM 2 (b_is_name N)
def oD : Option Rat → D
  | none => .non
  | some q => rD q
def cD (nm : Str) (l : Rat) (o : Option Rat) (h : Int) : D := .ins 33 [(0, .str nm), (1, rD l), (2, oD o), (3, .int h)]
def tD (c g t : Rat) : D := .tup [rD c, rD g, rD t]
structure CliOk (l : Rat) (o : Option Rat) (h : Int) : Prop where
  l0 : 0 ≤ l
  l1 : l ≤ 1
  o1 : ∀ q, o = some q → 0 < q ∧ q ≤ 1 ∧ l ≤ q
  h1 : 1 ≤ h
  h9 : h ≤ 99
def rsd (tag b : Rat) (z : Int) (r : Rat) : Rat := max tag b + (z : Rat) / r
theorem max_le {n : Nat} : Nat.max n n = n := Nat.max_self n
def gateB (o : Option Rat) (g : Rat) (z : Int) (b : Rat) : Rat := match o with
  | none => g
  | some r => rsd g b z r
end
end C
namespace C
open PySem G
local macro_rules | `(tactic| wp_walk using $ts,*) => `(tactic| try simp only [wr_ok, wr_exc, wr_lf, wr_eC, evQ_some, wr_eVar, cB2_s, cB1_s, wr_eBin, cS2_s, cS1_s, wr_eBinS, asQ_bl, wr_tB, truQ_s, wr_tT, notQ_s, wr_tNt, anQ_t, anQ_f, wr_tAn, orQ_t, orQ_f, wr_tOr, eaB_t, eaB_f, eaQ_s, wr_eAn, eoB_t, eoB_f, eoQ_s, wr_eOr, enB_s, enQ_s, wr_eNt, eiQ_t, eiQ_f, wr_eIf, negQ_int, wr_eNeg, wr_aNil, cC2_s, cC1_s, wr_aCons, tupQ_s, lstQ_s, newQ_s, wr_eTup, wr_eLst, wr_eNew, caQ_s, wr_eCa, clQ_s, wr_eCall, nAQ_s, wr_nA, tyQ_s, wr_eIsTy, icQ_s, wr_eIsC, mt2_s, mt1_s, wr_eMt, wr_oNone, oQ_int, wr_oSome, sl3_s, sl2_s, sl1_s, wr_eSl, kk2_s, kk1_s, wr_eCallK, kk0_s, wr_eCallK0, wr_gN, sb3_s, sb2_s, sb1_s, wr_gSb, wr_gsNil, gs1_s, wr_gsCons, wr_gTp, wr_gTp_rD, xe_s, sq_nx, sq_rt, sq_bk, sq_ct, sq_ex, sq_xe, ws_nxt, ws_sNop, ws_sSeq, ws_sBrk, ws_sCnt, dropQ_s, ws_sDrop, ws_sRet, ws_sRetN, ifQ_t, ifQ_f, ws_sIf, asg1_s, ws_sAsg, setQ_s, ws_sSet, parQ_s, ws_sPar, ws_sRaise, fn_nx, fn_rt, fn_ex, fn_xe, su_nx, su_bk, su_ct, su_rt, trQ_t, trQ_f, tr_nx, tr_rt, tr_bk, tr_ct, tr_ex, ws_sTry, forQ_s, ws_sFor, lp_nx, lp_rt, lp_bk, lp_ct, lp_ex, lp_xe, ws_fi_nil, bodyQ_s, mid_nx, mid_rt, mid_bk, mid_ct, mid_ex, mid_xe, lc2_s, lc1_s, wr_eLc, lcn2_s, lcn1_s, wr_eLcN, wipe_nil, wipe_cons, wr_tTrue, wr_lc_nil, tgQ_some, ly_s, lt1_t, lt1_f, lg_s, eqQ_s, exQ_s, seqQ_tup, seqQ_lst, seqQ_scr, seqQ_rD, wr_iSeq, rgQ_int, wr_iRg1, rgQ2_int, wr_iRg2, ch3_t, ch3_f, ch2_s, ch1_s, wr_eChain, flQ_s, wr_eFld, fldD_ins, stQ_s, sf2_s, sf1_s, ws_sFldM, mkQ2_s, mkQ1_s, wr_eMk, wr_eMk0, ap2_s, ap1_s, wr_eApp, zpQ_s, wr_iZip, zipR_tup, zipR_lst, srQ_s, wr_iStrM, strR_s, ioQ_s, wr_eIsO, dAddS_int, wr_gStr_tup, wr_gStr_lst, fTuple_lst, fTuple_tup, List.take_succ_cons, List.take_zero, List.drop_succ_cons, List.drop_zero, List.getElem?_cons_zero, List.getElem?_cons_succ, List.set_cons_zero, List.set_cons_succ, List.map_cons, List.map_nil, List.length_cons, List.length_nil, List.cons_append, List.nil_append, List.replicate_succ, List.replicate_zero, List.append_nil, true_and, and_true, and_self, if_true, ite_true, if_false, ite_false, Bool.false_eq_true, Bool.not_true, Bool.not_false, Bool.not_not, decide_true, decide_false, decide_eq_true_eq, not_false_eq_true, not_true_eq_false, reduceCtorEq, sizeLine_eq, Option.map_some, Option.some.injEq, Nat.reduceSub, Nat.reduceAdd, Nat.reduceLeDiff, Nat.reduceEqDiff, Nat.zero_add, Nat.reduceBEq, List.contains_cons, List.contains_nil, beq_self_eq_true, Bool.true_or, Bool.or_true, Bool.false_or, Bool.or_false, List.lookup_cons, List.lookup_nil, Int.reduceEq, Int.reduceNe, Int.reduceLT, Int.reduceLE, Int.reduceNeg, Int.reduceAdd, Int.reduceSub, Int.cast_ofNat_Int, ne_eq, cmpI_s, dGt, dGe, dLt, dLe, dAdd_int, dSub_int, dEq_int, dNe_int, dEq_bl, dNe_bl, truD_bl, isTy_int, isTy_bl, isTy_tup, fLen_tup, fLen_scr, fLen_lst, fAbs_int, fMax_int, fMin_int, ixD_tup, ixD_lst, ixD_scr, isTy_rD, fLen_rD, ix_rD0, ix_rD1, dEq_rD, dNe_rD, dIs_rD, dIsNot_rD, Tn.is, $[$ts:term],*])
noncomputable section
theorem rat_unit {p b : Int} (h0 : 0 < p) (h1 : p ≤ b) : 0 < Rat.divInt p b ∧ Rat.divInt p b ≤ 1 := by
  have hb : (0 : Rat) < (b : Rat) := Rat.intCast_pos.mpr (by omega)
  have hp : (0 : Rat) < (p : Rat) := Rat.intCast_pos.mpr h0
  rw [Rat.divInt_eq_div]
  refine ⟨by rw [Rat.lt_div_iff hb, Rat.zero_mul]; exact hp, ?_⟩
  have : ¬ (1 : Rat) < (p : Rat) / (b : Rat) := by
    rw [Rat.lt_div_iff hb, Rat.one_mul, Rat.intCast_lt_intCast]; omega
  exact Rat.not_lt.mp this
def dueB (c : Rat) (z : Int) (l : Rat) : Rat := c + (z : Rat) / l
end
end C
namespace G
open PySem
section
variable {Q X : QP D} {QB : QP Bool} {QL : QP (List D)} {QE : QP En} {k : KS} {e : En} {S S1 : Store} {a b c o : EM} {t u : TM} {m n : SM} {am mk : AM} {x y d : D} {z : Bool} {xs ds zs : List D}
def me3 (f : FM) (gD : List D → List D → List D) (n l : Nat) (x : D) (ds : List D) (Q X : QP D) : QP (List D) := fun zs S => (ds.length = n ∧ zs.length = l) ∧ Wr (f (gD (x :: ds) zs) S) Q X
def me2 (f : FM) (gD : List D → List D → List D) (n l : Nat) (x : D) (mk : AM) (e : En) (Q X : QP D) : QP (List D) := fun ds S => Wr (mk e S) (me3 f gD n l x ds Q X) X
def me1 (cn : Nat) (f : FM) (gD : List D → List D → List D) (n l : Nat) (am mk : AM) (e : En) (Q X : QP D) : QP D := fun x S => isCn cn S x = true ∧ Wr (am e S) (me2 f gD n l x mk e Q X) X
theorem me3_s (f : FM) (gD : List D → List D → List D) (n l : Nat) : me3 f gD n l x ds Q X zs S = ((ds.length = n ∧ zs.length = l) ∧ Wr (f (gD (x :: ds) zs) S) Q X) := rfl
theorem me2_s (f : FM) (gD : List D → List D → List D) (n l : Nat) : me2 f gD n l x mk e Q X ds S = Wr (mk e S) (me3 f gD n l x ds Q X) X := rfl
theorem me1_s (cn : Nat) (f : FM) (gD : List D → List D → List D) (n l : Nat) : me1 cn f gD n l am mk e Q X x S = (isCn cn S x = true ∧ Wr (am e S) (me2 f gD n l x mk e Q X) X) := rfl
theorem wr_eMeth (cn : Nat) (f : FM) (gD : List D → List D → List D) (n l : Nat) : Wr (eMeth cn f gD n l o am mk e S) Q X = Wr (o e S) (me1 cn f gD n l am mk e Q X) X := by
  unfold eMeth; rw [wr_bind]; congr; funext x S1; rw [wr_guard, me1_s, wr_bind]; congr; funext ds S2; rw [wr_bind, me2_s]; congr; funext zs S3; rw [wr_guard]; rfl
def mk2 (f : FM) (gD : List D → List D → List D) (l : Nat) (x : D) (Q X : QP D) : QP (List D) := fun zs S => zs.length = l ∧ Wr (f (gD [x] zs) S) Q X
def mk1 (cn : Nat) (f : FM) (gD : List D → List D → List D) (l : Nat) (mk : AM) (e : En) (Q X : QP D) : QP D := fun x S => isCn cn S x = true ∧ Wr (mk e S) (mk2 f gD l x Q X) X
theorem mk2_s (f : FM) (gD : List D → List D → List D) (l : Nat) : mk2 f gD l x Q X zs S = (zs.length = l ∧ Wr (f (gD [x] zs) S) Q X) := rfl
theorem mk1_s (cn : Nat) (f : FM) (gD : List D → List D → List D) (l : Nat) : mk1 cn f gD l mk e Q X x S = (isCn cn S x = true ∧ Wr (mk e S) (mk2 f gD l x Q X) X) := rfl
theorem wr_eMethK (cn : Nat) (f : FM) (gD : List D → List D → List D) (l : Nat) : Wr (eMethK cn f gD l o mk e S) Q X = Wr (o e S) (mk1 cn f gD l mk e Q X) X := by
  unfold eMethK; rw [wr_bind]; congr; funext x S1; rw [wr_guard, mk1_s, wr_bind]; congr; funext zs S3; rw [wr_guard]; rfl
def m01 (cn : Nat) (f : FM) (gD : List D → List D → List D) (Q X : QP D) : QP D := fun x S => isCn cn S x = true ∧ Wr (f (gD [x] []) S) Q X
theorem m01_s (cn : Nat) (f : FM) (gD : List D → List D → List D) : m01 cn f gD Q X x S = (isCn cn S x = true ∧ Wr (f (gD [x] []) S) Q X) := rfl
theorem wr_eMeth0 (cn : Nat) (f : FM) (gD : List D → List D → List D) : Wr (eMeth0 cn f gD o e S) Q X = Wr (o e S) (m01 cn f gD Q X) X := by
  unfold eMeth0; rw [wr_bind]; congr; funext x S1; rw [wr_guard]; rfl
theorem wr_eNewD : Wr (eNewD e S) Q X = Q (.loc S.length) (S ++ [.dk []]) := rfl
theorem dkD_s {i : Nat} {l : List (L2.Key × D)} (h : S[i]? = some (.dk l)) : dkD S (.loc i) = some (i, l) := by unfold dkD; simp only [h]
def dg3 (x y : D) (Q X : QP D) : QP D := fun z S => Wr (dgR S x y z) Q X
def dg2 (c : EM) (e : En) (x : D) (Q X : QP D) : QP D := fun y S => Wr (c e S) (dg3 x y Q X) X
def dg1 (b c : EM) (e : En) (Q X : QP D) : QP D := fun x S => (dkD S x).isSome = true ∧ Wr (b e S) (dg2 c e x Q X) X
theorem dg3_s (z : D) : dg3 x y Q X z S = Wr (dgR S x y z) Q X := rfl
theorem dg2_s : dg2 c e x Q X y S = Wr (c e S) (dg3 x y Q X) X := rfl
theorem dg1_s : dg1 b c e Q X x S = ((dkD S x).isSome = true ∧ Wr (b e S) (dg2 c e x Q X) X) := rfl
theorem wr_eDGet2 : Wr (eDGet2 a b c e S) Q X = Wr (a e S) (dg1 b c e Q X) X := by
  unfold eDGet2; rw [wr_bind]; congr; funext x S1; rw [wr_guard, dg1_s, wr_bind]; congr; funext y S2; rw [wr_bind]; rfl
def dh2 (x : D) (Q X : QP D) : QP D := fun y S => Wr (dgR S x y .non) Q X
def dh1 (b : EM) (e : En) (Q X : QP D) : QP D := fun x S => (dkD S x).isSome = true ∧ Wr (b e S) (dh2 x Q X) X
theorem dh2_s : dh2 x Q X y S = Wr (dgR S x y .non) Q X := rfl
theorem dh1_s : dh1 b e Q X x S = ((dkD S x).isSome = true ∧ Wr (b e S) (dh2 x Q X) X) := rfl
theorem wr_eDGet1 : Wr (eDGet1 a b e S) Q X = Wr (a e S) (dh1 b e Q X) X := by
  unfold eDGet1; rw [wr_bind]; congr; funext x S1; rw [wr_guard, dh1_s, wr_bind]; rfl
def dp3 (x y : D) (Q X : QP D) : QP D := fun z S => Wr (dpR S x y (some z)) Q X
def dp2 (c : EM) (e : En) (x : D) (Q X : QP D) : QP D := fun y S => Wr (c e S) (dp3 x y Q X) X
def dp1 (b c : EM) (e : En) (Q X : QP D) : QP D := fun x S => (dkD S x).isSome = true ∧ Wr (b e S) (dp2 c e x Q X) X
theorem dp3_s (z : D) : dp3 x y Q X z S = Wr (dpR S x y (some z)) Q X := rfl
theorem dp2_s : dp2 c e x Q X y S = Wr (c e S) (dp3 x y Q X) X := rfl
theorem dp1_s : dp1 b c e Q X x S = ((dkD S x).isSome = true ∧ Wr (b e S) (dp2 c e x Q X) X) := rfl
theorem wr_eDPop2 : Wr (eDPop2 a b c e S) Q X = Wr (a e S) (dp1 b c e Q X) X := by
  unfold eDPop2; rw [wr_bind]; congr; funext x S1; rw [wr_guard, dp1_s, wr_bind]; congr; funext y S2; rw [wr_bind]; rfl
def dq2 (x : D) (Q X : QP D) : QP D := fun y S => Wr (dpR S x y none) Q X
def dq1 (b : EM) (e : En) (Q X : QP D) : QP D := fun x S => (dkD S x).isSome = true ∧ Wr (b e S) (dq2 x Q X) X
theorem dq2_s : dq2 x Q X y S = Wr (dpR S x y none) Q X := rfl
theorem dq1_s : dq1 b e Q X x S = ((dkD S x).isSome = true ∧ Wr (b e S) (dq2 x Q X) X) := rfl
theorem wr_eDPop1 : Wr (eDPop1 a b e S) Q X = Wr (a e S) (dq1 b e Q X) X := by
  unfold eDPop1; rw [wr_bind]; congr; funext x S1; rw [wr_guard, dq1_s, wr_bind]; rfl
def se2 (d x : D) (e : En) (Q : QP En) : QP D := fun y S => sb3 e Q (setE S x y d)
def se1 (d : D) (i : EM) (e : En) (Q : QP En) : QP D := fun x S => Wr (i e S) (se2 d x e Q) nX
theorem se2_s : se2 d x e QE y S = sb3 e QE (setE S x y d) := rfl
theorem se1_s (i : EM) : se1 d i e QE x S = Wr (i e S) (se2 d x e QE) nX := rfl
theorem wr_gSbE (o i : EM) : Wr (gSbE o i d e S) QE X = Wr (o e S) (se1 d i e QE) nX := by
  unfold gSbE; rw [wr_bind, wr_noX]; congr; funext x S1; rw [wr_bind, wr_noX, se1_s]; congr; funext y S2; rw [se2_s]; cases h : setE S2 x y d <;> rfl
theorem setE_s {i : Nat} {l : List (L2.Key × D)} {q : L2.Key} (h : S[i]? = some (.dk l)) (hk : keyD y = some q) (hl : l.length < sizeLine) : setE S (.loc i) y d = some (S.set i (.dk (putKD l q d))) := by
  unfold setE; simp only [dkD_s h, hk, hl, if_true]
theorem keyD_int (i : Int) : keyD (.int i) = some (.inl i) := rfl
theorem keyD_str (s : Str) : keyD (.str s) = some (.inr s) := rfl
def ssQ (Q X : QP D) : QP D := fun x S => Wr (lf (ssD S x) S) Q X
theorem ssQ_s : ssQ Q X x S = Wr (lf (ssD S x) S) Q X := rfl
theorem wr_eSortSet : Wr (eSortSet a e S) Q X = Wr (a e S) (ssQ Q X) X := by unfold eSortSet; rw [wr_bind]; rfl
def an2 (x : D) (Q X : QP D) : QP D := fun y S => Wr (addN S x y) Q X
def an1 (b : EM) (e : En) (Q X : QP D) : QP D := fun x S => Wr (b e S) (an2 x Q X) X
theorem an2_s : an2 x Q X y S = Wr (addN S x y) Q X := rfl
theorem an1_s : an1 b e Q X x S = Wr (b e S) (an2 x Q X) X := rfl
theorem wr_eAddN : Wr (eAddN a b e S) Q X = Wr (a e S) (an1 b e Q X) X := by unfold eAddN; rw [wr_bind]; congr; funext x S1; rw [wr_bind]; rfl
abbrev QC := List D × Option Nat → Store → Prop
variable {QQ : QC}
def celQ (Q : QC) : QP D := fun x S => match x with
  | .tup l => Q (l, none) S
  | .lst l => Q (l, none) S
  | .scr l => Q (l, none) S
  | .loc n => match S[n]? with
    | some (.lst l) => Q (l, some n) S
    | _ => False
  | _ => False
theorem celQ_tup (l : List D) : celQ QQ (.tup l) S = QQ (l, none) S := rfl
theorem celQ_lst (l : List D) : celQ QQ (.lst l) S = QQ (l, none) S := rfl
theorem celQ_scr (l : List D) : celQ QQ (.scr l) S = QQ (l, none) S := rfl
theorem wr_iCel : Wr (iCel a e S) QQ X = Wr (a e S) (celQ QQ) X := by
  unfold iCel; rw [wr_bind]; congr; funext x S1
  cases x with
  | loc n =>
    show Wr (match S1[n]? with
      | some (.lst l) => .ok (l, some n) S1
      | _ => .stuck) _ _ = celQ QQ (.loc n) S1
    unfold celQ
    dsimp only
    cases S1[n]? with
    | none => rfl
    | some q => cases q <;> rfl
  | _ => rfl
def forcQ (g : GM) (m : SM) (e : En) (k : KS) : QC := fun p S => Ws (fiC (okC p) g m p.1 e S) k
theorem forcQ_s (g : GM) (p : List D × Option Nat) : forcQ g m e k p S = Ws (fiC (okC p) g m p.1 e S) k := rfl
theorem ws_sForC (i : CM) (g : GM) : Ws (sForC i g m e S) k = Wr (i e S) (forcQ g m e k) (k.xe e) := ws_sE
def lcc1 (g : Tg) (t : TM) (a : EM) (e : En) (Q X : QP D) : QC := fun p S => Wr (lcC (okC p) g t a e p.1 [] S) (lc2 Q) X
theorem lcc1_s (g : Tg) (p : List D × Option Nat) : lcc1 g t a e Q X p S = Wr (lcC (okC p) g t a e p.1 [] S) (lc2 Q) X := rfl
theorem wr_eLcC (i : CM) (g : Tg) (vs : List Nat) : Wr (eLcC i g t a vs e S) Q X = Wr (i e S) (lcc1 g t a (wipeE e vs) Q X) X := by
  unfold eLcC; rw [wr_bind]; congr; funext p S1; rw [wr_bind]; rfl
def lcd1 (g : Tg) (t : TM) (a : EM) (e : En) (Q X : QP D) : QC := fun p S => Wr (lcC (okC p) g t a e p.1 [] S) (lcn2 Q) X
theorem lcd1_s (g : Tg) (p : List D × Option Nat) : lcd1 g t a e Q X p S = Wr (lcC (okC p) g t a e p.1 [] S) (lcn2 Q) X := rfl
theorem wr_eLcCN (i : CM) (g : Tg) (vs : List Nat) : Wr (eLcCN i g t a vs e S) Q X = Wr (i e S) (lcd1 g t a (wipeE e vs) Q X) X := by
  unfold eLcCN; rw [wr_bind]; congr; funext p S1; rw [wr_bind]; rfl
end
end G
namespace C
open PySem G
local macro_rules | `(tactic| wp_walk using $ts,*) => `(tactic| try simp only [wr_ok, wr_exc, wr_lf, wr_eC, evQ_some, wr_eVar, cB2_s, cB1_s, wr_eBin, cS2_s, cS1_s, wr_eBinS, asQ_bl, wr_tB, truQ_s, wr_tT, notQ_s, wr_tNt, anQ_t, anQ_f, wr_tAn, orQ_t, orQ_f, wr_tOr, eaB_t, eaB_f, eaQ_s, wr_eAn, eoB_t, eoB_f, eoQ_s, wr_eOr, enB_s, enQ_s, wr_eNt, eiQ_t, eiQ_f, wr_eIf, negQ_int, wr_eNeg, wr_aNil, cC2_s, cC1_s, wr_aCons, tupQ_s, lstQ_s, newQ_s, wr_eTup, wr_eLst, wr_eNew, caQ_s, wr_eCa, clQ_s, wr_eCall, nAQ_s, wr_nA, tyQ_s, wr_eIsTy, icQ_s, wr_eIsC, mt2_s, mt1_s, wr_eMt, wr_oNone, oQ_int, wr_oSome, sl3_s, sl2_s, sl1_s, wr_eSl, kk2_s, kk1_s, wr_eCallK, kk0_s, wr_eCallK0, wr_gN, sb3_s, sb2_s, sb1_s, wr_gSb, wr_gsNil, gs1_s, wr_gsCons, wr_gTp, wr_gTp_rD, xe_s, sq_nx, sq_rt, sq_bk, sq_ct, sq_ex, sq_xe, ws_nxt, ws_sNop, ws_sSeq, ws_sBrk, ws_sCnt, dropQ_s, ws_sDrop, ws_sRet, ws_sRetN, ifQ_t, ifQ_f, ws_sIf, asg1_s, ws_sAsg, setQ_s, ws_sSet, parQ_s, ws_sPar, ws_sRaise, fn_nx, fn_rt, fn_ex, fn_xe, su_nx, su_bk, su_ct, su_rt, trQ_t, trQ_f, tr_nx, tr_rt, tr_bk, tr_ct, tr_ex, ws_sTry, forQ_s, ws_sFor, lp_nx, lp_rt, lp_bk, lp_ct, lp_ex, lp_xe, ws_fi_nil, bodyQ_s, mid_nx, mid_rt, mid_bk, mid_ct, mid_ex, mid_xe, lc2_s, lc1_s, wr_eLc, lcn2_s, lcn1_s, wr_eLcN, wipe_nil, wipe_cons, wr_tTrue, wr_lc_nil, tgQ_some, ly_s, lt1_t, lt1_f, lg_s, eqQ_s, exQ_s, seqQ_tup, seqQ_lst, seqQ_scr, seqQ_rD, wr_iSeq, rgQ_int, wr_iRg1, rgQ2_int, wr_iRg2, ch3_t, ch3_f, ch2_s, ch1_s, wr_eChain, flQ_s, wr_eFld, fldD_ins, stQ_s, sf2_s, sf1_s, ws_sFldM, mkQ2_s, mkQ1_s, wr_eMk, wr_eMk0, ap2_s, ap1_s, wr_eApp, zpQ_s, wr_iZip, zipR_tup, zipR_lst, srQ_s, wr_iStrM, strR_s, ioQ_s, wr_eIsO, dAddS_int, wr_gStr_tup, wr_gStr_lst, fTuple_lst, fTuple_tup, List.take_succ_cons, List.take_zero, List.drop_succ_cons, List.drop_zero, List.getElem?_cons_zero, List.getElem?_cons_succ, List.set_cons_zero, List.set_cons_succ, List.map_cons, List.map_nil, List.length_cons, List.length_nil, List.cons_append, List.nil_append, List.replicate_succ, List.replicate_zero, List.append_nil, true_and, and_true, and_self, if_true, ite_true, if_false, ite_false, Bool.false_eq_true, Bool.not_true, Bool.not_false, Bool.not_not, decide_true, decide_false, decide_eq_true_eq, not_false_eq_true, not_true_eq_false, reduceCtorEq, sizeLine_eq, Option.map_some, Option.some.injEq, Nat.reduceSub, Nat.reduceAdd, Nat.reduceLeDiff, Nat.reduceEqDiff, Nat.zero_add, Nat.reduceBEq, List.contains_cons, List.contains_nil, beq_self_eq_true, Bool.true_or, Bool.or_true, Bool.false_or, Bool.or_false, List.lookup_cons, List.lookup_nil, Int.reduceEq, Int.reduceNe, Int.reduceLT, Int.reduceLE, Int.reduceNeg, Int.reduceAdd, Int.reduceSub, Int.cast_ofNat_Int, ne_eq, cmpI_s, dGt, dGe, dLt, dLe, dAdd_int, dSub_int, dEq_int, dNe_int, dEq_bl, dNe_bl, truD_bl, isTy_int, isTy_bl, isTy_tup, fLen_tup, fLen_scr, fLen_lst, fAbs_int, fMax_int, fMin_int, ixD_tup, ixD_lst, ixD_scr, isTy_rD, fLen_rD, ix_rD0, ix_rD1, dEq_rD, dNe_rD, dIs_rD, dIsNot_rD, Tn.is, me3_s, me2_s, me1_s, wr_eMeth, mk2_s, mk1_s, wr_eMethK, m01_s, wr_eMeth0, wr_eNewD, dg3_s, dg2_s, dg1_s, wr_eDGet2, dh2_s, dh1_s, wr_eDGet1, dp3_s, dp2_s, dp1_s, wr_eDPop2, dq2_s, dq1_s, wr_eDPop1, se2_s, se1_s, wr_gSbE, ssQ_s, wr_eSortSet, an2_s, an1_s, wr_eAddN, celQ_tup, celQ_lst, celQ_scr, wr_iCel, forcQ_s, ws_sForC, lcc1_s, wr_eLcC, lcd1_s, wr_eLcCN, keyD_int, keyD_str, Option.isSome_some, $[$ts:term],*])
noncomputable section
def rowD (p : Rat × Rat) : D := .tup [rD p.1, rD p.2]
def atT (l : List (Rat × Rat)) (t : Rat) : Rat := l.foldl (fun f p => if t < p.1 then f else p.2) 0
def lastR (l : List (Rat × Rat)) : Rat := match l.getLast? with
  | some p => p.2
  | none => 0
def lowL (l : List (Rat × Rat)) (s : Rat) : List (Rat × Rat) := l.filter fun p => decide (p.1 < s)
def bookL (l : List (Rat × Rat)) (s r : Rat) : List (Rat × Rat) := if lastR (lowL l s) = r then lowL l s else lowL l s ++ [(s, r)]
structure Bk (S : Store) (n : Nat) (f : Int → List (Rat × Rat)) (c : Nat) : Prop where
  ex : ∃ n1 kvs, S[n]? = some (.obj 34 [(9, .loc n1)]) ∧ S[n1]? = some (.dk kvs) ∧ kvs.length ≤ c ∧ ∀ i : Int, (valD kvs (.inl i) = none ∧ f i = []) ∨ ∃ j, valD kvs (.inl i) = some (.loc j) ∧ S[j]? = some (.lst ((f i).map rowD))
  bt : ∀ i p, p ∈ f i → Bt p.1 64 ∧ Bt p.2 64
  len : ∀ i, (f i).length ≤ c
theorem Bk.app {S : Store} {n c : Nat} {f : Int → List (Rat × Rat)} (h : Bk S n f c) (d : List Cell) : Bk (S ++ d) n f c := by
  obtain ⟨⟨n1, kvs, h1, h2, h3, h4⟩, h5, h6⟩ := h
  have get : ∀ {i : Nat} {c : Cell}, S[i]? = some c → (S ++ d)[i]? = some c := fun {i c} hi => by
    rw [List.getElem?_append_left (List.getElem?_eq_some_iff.mp hi).1]; exact hi
  exact ⟨⟨n1, kvs, get h1, get h2, h3, fun i => (h4 i).imp id fun ⟨j, a, b⟩ => ⟨j, a, get b⟩⟩, h5, h6⟩
theorem atI_last (l : List D) (d : D) : L2.atI (l ++ [d]) (-1) = some d := by
  unfold L2.atI L2.ixN
  have h1 : ¬ (0 : Int) ≤ -1 := by omega
  simp only [List.length_append, List.length_cons, List.length_nil]
  have e : ((-1 : Int) + ((l.length + 1 : Nat) : Int)).toNat = l.length := by omega
  rw [if_neg h1]
  first
    | rw [if_pos (by omega)]
    | skip
  simp only [e]
  simp
abbrev Rw := Int × Rat × Rat
def lawT (l : List Rw) (i : Int) (t : Rat) : Rat := l.foldl (fun f p => if p.1 = i ∧ ¬ t < p.2.1 then p.2.2 else f) 0
theorem lawT_snoc (l : List Rw) (p : Rw) (i : Int) (t : Rat) : lawT (l ++ [p]) i t = if p.1 = i ∧ ¬ t < p.2.1 then p.2.2 else lawT l i t := by
  unfold lawT; rw [List.foldl_append]; rfl
end
end C
namespace G
open PySem
section
variable {Q X : QP D} {e : En} {S S1 : Store} {a b c o : EM} {ms : List EM} {x y d : D}
def fmQ (Q X : QP D) : QP D := fun x S => Wr (lf (fmtD x) S) Q X
theorem fmQ_s : fmQ Q X x S = Wr (lf (fmtD x) S) Q X := rfl
theorem wr_eFmt : Wr (eFmt a e S) Q X = Wr (a e S) (fmQ Q X) X := by
  unfold eFmt; rw [wr_bind]; rfl
def jsQ (ms : List EM) (acc : Str) (e : En) (Q X : QP D) : QP D := fun x S => match x with
  | .str y => (acc ++ y).length ≤ sizeLine ∧ Wr (jsM ms (acc ++ y) e S) Q X
  | _ => False
theorem jsQ_str (acc y : Str) : jsQ ms acc e Q X (.str y) S = ((acc ++ y).length ≤ sizeLine ∧ Wr (jsM ms (acc ++ y) e S) Q X) := rfl
theorem wr_js_nil (acc : Str) : Wr (jsM [] acc e S) Q X = Q (.str acc) S := rfl
theorem wr_js_cons (acc : Str) : Wr (jsM (a :: ms) acc e S) Q X = Wr (a e S) (jsQ ms acc e Q X) X := by
  unfold jsM; rw [wr_bind]; congr; funext x S1
  cases x with
  | str y => show Wr (if _ then _ else _) _ _ = _; rw [wr_guard]; rfl
  | _ => rfl
theorem wr_eJs : Wr (eJs ms e S) Q X = Wr (jsM ms Str.empty e S) Q X := rfl
def s4Q (Q : QP D) : QP D := fun y S => match y with
  | .str t => Q (.str t) S
  | _ => False
theorem s4Q_str (t : Str) : s4Q Q (.str t) S = Q (.str t) S := rfl
theorem wr_strOf {r : Res D} : Wr (strOf r) Q X = Wr r (s4Q Q) X := by
  unfold strOf; rw [wr_bind]; congr; funext y S1; cases y <;> rfl
def soQ (cn : Nat) (f : FM) (gD : List D → List D → List D) (Q X : QP D) : QP D := fun x S => isCn cn S x = true ∧ Wr (f (gD [x] []) S) (s4Q Q) X
theorem soQ_s (cn : Nat) (f : FM) (gD : List D → List D → List D) : soQ cn f gD Q X x S = (isCn cn S x = true ∧ Wr (f (gD [x] []) S) (s4Q Q) X) := rfl
theorem wr_eStrO (cn : Nat) (f : FM) (gD : List D → List D → List D) : Wr (eStrO cn f gD a e S) Q X = Wr (a e S) (soQ cn f gD Q X) X := by
  unfold eStrO aCons aNil
  rw [wr_bind, wr_bind]
  congr; funext x S1
  show Wr (if isCn cn S1 x = true then strOf (f (gD [x] []) S1) else .stuck) Q X = _
  rw [wr_guard, wr_strOf]; rfl
theorem dAddE_0 (m : List D) : dAddE S (.tup []) (.tup m) = some (.tup m) := rfl
theorem dAddE_c (l m : List D) (h : (d :: l).length + m.length ≤ 1000) : dAddE S (.tup (d :: l)) (.tup m) = some (.tup (d :: l ++ m)) := dAddS_tup (S := S) l m h
end
end G
namespace G
open PySem
section
variable {Q X : QP D} {QB : QP Bool} {QL : QP (List D)} {QE : QP En} {k : KS} {e : En} {S S1 : Store} {a b c o : EM} {t u : TM} {m n : SM} {am mk : AM} {x y d : D} {z : Bool} {xs ds zs : List D}
theorem wr_eCallV (i f nN : Nat) (cp : List (Option D)) (fk : FM) : Wr (eCallV i f nN cp fk am e S) Q X = ((e[i]? = some (some (.fa f)) ∧ e.drop nN = cp) ∧ Wr (am e S) (clQ fk Q X) X) := by
  unfold eCallV; split
  · rename_i h; simp only [h, wr_bind, and_self, true_and]; rfl
  · rename_i h; simp only [h, false_and]; rfl
def chQ (g : Nat → List (Option D) → FM → FM) (js : List Nat) (fkM : En → FM) (tb : Store → Bool) (i : Nat) (e : En) (Q X : QP D) : QP (List D) := fun ds S => (tb S = true ∧ ds.length = i) ∧ Wr (uniR (fun q : Nat × { vs : List L2.V // vs.length = js.length } => g q.1 (cpOf js e q.2.1) (fkM e) (ds ++ [.fa q.1]) S)) Q X
theorem chQ_s (g : Nat → List (Option D) → FM → FM) (js : List Nat) (fkM : En → FM) (tb : Store → Bool) (i : Nat) : chQ g js fkM tb i e Q X ds S = ((tb S = true ∧ ds.length = i) ∧ Wr (uniR (fun q : Nat × { vs : List L2.V // vs.length = js.length } => g q.1 (cpOf js e q.2.1) (fkM e) (ds ++ [.fa q.1]) S)) Q X) := rfl
theorem wr_eCallH (g : Nat → List (Option D) → FM → FM) (js : List Nat) (fkM : En → FM) (tb : Store → Bool) (i : Nat) : Wr (eCallH g js fkM tb i am e S) Q X = Wr (am e S) (chQ g js fkM tb i e Q X) X := by
  unfold eCallH; rw [wr_bind]; congr; funext ds S1; rw [wr_guard]; rfl
theorem wr_lamF (js : List Nat) (np : Nat) (e' : En) : Wr (lamF js np a e' ds S) Q X = (ds.length = np ∧ Wr (a (ds.map some ++ js.map fun j => oj e'[j]?) S) Q X) := by
  unfold lamF; rw [wr_guard]
theorem oj_s : oj (some (some d)) = some d := rfl
def enuQ (Q : QP (List D)) (X : QP D) : QP (List D) := fun ds S => Wr (enR ds S) Q X
theorem enuQ_s : enuQ QL X ds S = Wr (enR ds S) QL X := rfl
theorem wr_iEnum : Wr (iEnum am e S) QL X = Wr (am e S) (enuQ QL X) X := by unfold iEnum; rw [wr_bind]; rfl
theorem enR_tup (l : List D) : enR [.tup l] S = .ok (enumD l) S := rfl
theorem enR_lst (l : List D) : enR [.lst l] S = .ok (enumD l) S := rfl
def lrQ (Q : QP D) : QP D := fun d S => match d with
  | .int i => lrOk i ∧ Q (.lst (rangeD 0 i.toNat)) S
  | _ => False
theorem lrQ_int (i : Int) : lrQ Q (.int i) S = (lrOk i ∧ Q (.lst (rangeD 0 i.toNat)) S) := propext Iff.rfl
theorem wr_eLr : Wr (eLr a e S) Q X = Wr (a e S) (lrQ Q) X := by
  unfold eLr; rw [wr_bind]; congr; funext d S1; rw [wr_bind]
  cases d with
  | int i =>
    unfold lrR
    dsimp only
    split
    · rename_i h; rw [lrQ_int]; simp only [h, true_and]; rfl
    · rename_i h; rw [lrQ_int]; simp only [h, false_and]; rfl
  | _ => rfl
def lrnQ (Q : QP D) : QP D := fun d S => match d with
  | .int i => lrOk i ∧ Q (.loc S.length) (S ++ [.lst (rangeD 0 i.toNat)])
  | _ => False
theorem lrnQ_int (i : Int) : lrnQ Q (.int i) S = (lrOk i ∧ Q (.loc S.length) (S ++ [.lst (rangeD 0 i.toNat)])) := propext Iff.rfl
theorem wr_eLrN : Wr (eLrN a e S) Q X = Wr (a e S) (lrnQ Q) X := by
  unfold eLrN; rw [wr_bind]; congr; funext d S1; rw [wr_bind]
  cases d with
  | int i =>
    unfold lrR
    dsimp only
    split
    · rename_i h; rw [lrnQ_int]; simp only [h, true_and]; rfl
    · rename_i h; rw [lrnQ_int]; simp only [h, false_and]; rfl
  | _ => rfl
def agQ (i : Nat) (x : D) (e : En) (k : KS) : QP D := fun y S => Ws (augR i e x y S) k
theorem agQ_s (i : Nat) : agQ i x e k y S = Ws (augR i e x y S) k := rfl
def auP (o : Option (Option D)) (i : Nat) (a : EM) (e : En) (S : Store) (k : KS) : Prop := match o with
  | some (some x) => Wr (a e S) (agQ i x e k) (k.xe e)
  | _ => False
theorem auP_s (i : Nat) : auP (some (some x)) i a e S k = Wr (a e S) (agQ i x e k) (k.xe e) := rfl
theorem ws_sAug (i : Nat) : Ws (sAug i a e S) k = auP e[i]? i a e S k := by
  unfold sAug auP
  cases e[i]? with
  | none => rfl
  | some q => cases q with
    | none => rfl
    | some x => dsimp only; rw [ws_sE]; rfl
theorem augR_int (i : Nat) (p q : Int) : augR i e (.int p) (.int q) S = .nxt (e.set i (some (.int (p + q)))) S := rfl
def pp2 (x : D) (Q X : QP D) : QP (List D) := fun xs S => Wr (popR x xs S) Q X
def pp1 (am : AM) (e : En) (Q X : QP D) : QP D := fun x S => isLst S x = true ∧ Wr (am e S) (pp2 x Q X) X
theorem pp2_s : pp2 x Q X xs S = Wr (popR x xs S) Q X := rfl
theorem pp1_s : pp1 am e Q X x S = (isLst S x = true ∧ Wr (am e S) (pp2 x Q X) X) := rfl
theorem wr_ePop : Wr (ePop a am e S) Q X = Wr (a e S) (pp1 am e Q X) X := by
  unfold ePop; rw [wr_bind]; congr; funext x S1; rw [wr_guard, wr_bind]; rfl
def Cmp (d : D) : Prop := ∃ p, d.toP = some p ∧ p.canLay0 = true ∧ p.depth ≤ 60
theorem wr_gSq_tup (i : Nat) (r : GMs) (l : List D) : Wr (gSq i r (.tup l) e S) QE X = (l.length = i ∧ Wr (r l e S) QE X) := by
  show Wr (if l.length = i then _ else _) QE X = _
  rw [wr_guard]
theorem wr_gSq_lst (i : Nat) (r : GMs) (l : List D) : Wr (gSq i r (.lst l) e S) QE X = (l.length = i ∧ Wr (r l e S) QE X) := by
  show Wr (if l.length = i then _ else _) QE X = _
  rw [wr_guard]
end
end G
namespace G
open PySem
section
variable {Q : D → Store → Prop} {QE : En → Store → Prop} {X : D → Store → Prop} {k : KS} {e : En} {S S1 : Store} {a b c : EM} {x y d : D} {z : Bool} {xs ds : List D}
def lnP (Q : QP D) (S : Store) (o : Option (List D)) : Prop := match o with
  | some l => Q (.loc S.length) (S ++ [.lst l])
  | none => False
def lnQ (Q : QP D) : QP D := fun d S => lnP Q S (seqT S d)
theorem lnQ_lst (l : List D) : lnQ Q (.lst l) S = Q (.loc S.length) (S ++ [.lst l]) := rfl
theorem lnQ_tup (l : List D) : lnQ Q (.tup l) S = Q (.loc S.length) (S ++ [.lst l]) := rfl
theorem wr_eListN : Wr (eListN a e S) Q X = Wr (a e S) (lnQ Q) X := by
  unfold eListN
  rw [wr_bind]
  congr; funext d S1
  unfold lnQ
  rw [wr_bind]
  cases seqT S1 d <;> rfl
def rvP (Q : QP D) (S : Store) (o : Option (List D)) : Prop := match o with
  | some l => Q (.lst l.reverse) S
  | none => False
def rvQ (Q : QP D) : QP D := fun d S => rvP Q S (seqD S d)
theorem rvQ_lst (l : List D) : rvQ Q (.lst l) S = Q (.lst l.reverse) S := rfl
theorem wr_eRev : Wr (eRev a e S) Q X = Wr (a e S) (rvQ Q) X := by
  unfold eRev
  rw [wr_bind]
  congr; funext d S1
  unfold rvQ
  rw [wr_bind]
  cases seqD S1 d <;> rfl
def rfQ (cn f : Nat) (e : En) (k : KS) : QP D := fun d S => k.ex (.exc cn [(f, d)]) e S
theorem rfQ_s (cn f : Nat) : rfQ cn f e k d S = k.ex (.exc cn [(f, d)]) e S := rfl
theorem ws_sRaiseF (cn f : Nat) : Ws (sRaiseF cn f a e S) k = Wr (a e S) (rfQ cn f e k) (k.xe e) := by
  unfold sRaiseF; rw [ws_sE]; rfl
end
end G
namespace G
open PySem
section
variable {Q : D → Store → Prop} {QE : En → Store → Prop} {X : D → Store → Prop} {k : KS} {e : En} {S S1 : Store} {a b c : EM} {m n : SM} {x y d : D} {z : Bool} {xs ds : List D}
def KS.trG (k : KS) (hs : List HdM) : KS := ⟨k.nx, k.rt, k.bk, k.ct, fun x e S => match x with
  | .exc cn fs => Ws (hdR hs cn fs e S) k
  | _ => False⟩
theorem trG_nx (hs : List HdM) : (k.trG hs).nx = k.nx := rfl
theorem trG_rt (hs : List HdM) : (k.trG hs).rt = k.rt := rfl
theorem trG_bk (hs : List HdM) : (k.trG hs).bk = k.bk := rfl
theorem trG_ct (hs : List HdM) : (k.trG hs).ct = k.ct := rfl
theorem trG_ex (hs : List HdM) (cn : Nat) (fs : List (Nat × D)) : (k.trG hs).ex (.exc cn fs) e S = Ws (hdR hs cn fs e S) k := rfl
theorem ws_sTryG (hs : List HdM) : Ws (sTryG hs m e S) k = Ws (m e S) (k.trG hs) := by
  unfold sTryG
  cases m e S with
  | exc x e1 S1 => cases x <;> rfl
  | _ => rfl
theorem ws_hd_nil (cn : Nat) (fs : List (Nat × D)) : Ws (hdR [] cn fs e S) k = k.ex (.exc cn fs) e S := rfl
def hdP (o : Option Bool) (a b : Prop) : Prop := match o with
  | some true => a
  | some false => b
  | none => False
theorem hdP_t (a b : Prop) : hdP (some true) a b = a := rfl
theorem hdP_f (a b : Prop) : hdP (some false) a b = b := rfl
theorem ws_hd_cons (ts : List (Nat → Option Bool)) (oi : Option Nat) (r : List HdM) (cn : Nat) (fs : List (Nat × D)) : Ws (hdR ((ts, oi, n) :: r) cn fs e S) k = hdP (tbAny ts cn) (Ws (sSuO oi (n (setO e oi (.exc cn fs)) S)) k) (Ws (hdR r cn fs e S) k) := by
  rw [hdR]
  cases tbAny ts cn with
  | none => rfl
  | some b => cases b <;> rfl
theorem setO_some (i : Nat) : setO e (some i) d = e.set i (some d) := rfl
theorem setO_none : setO e none d = e := rfl
theorem ws_suS (i : Nat) {r : SRes} : Ws (sSuO (some i) r) k = Ws r (k.su i) := by cases r <;> rfl
def KS.suN (k : KS) : KS := ⟨k.nx, k.rt, k.bk, k.ct, fun _ _ _ => False⟩
theorem suN_nx : k.suN.nx = k.nx := rfl
theorem suN_rt : k.suN.rt = k.rt := rfl
theorem suN_bk : k.suN.bk = k.bk := rfl
theorem suN_ct : k.suN.ct = k.ct := rfl
theorem ws_suN {r : SRes} : Ws (sSuO none r) k = Ws r k.suN := by cases r <;> rfl
def iyQ (tb : Nat → Option Bool) (Q X : QP D) : QP D := fun x S => Wr (lf ((isY tb x).map .bl) S) Q X
theorem iyQ_s (tb : Nat → Option Bool) : iyQ tb Q X x S = Wr (lf ((isY tb x).map .bl) S) Q X := rfl
theorem wr_eIsY (tb : Nat → Option Bool) : Wr (eIsY tb a e S) Q X = Wr (a e S) (iyQ tb Q X) X := by unfold eIsY; rw [wr_bind]; rfl
theorem isY_exc (tb : Nat → Option Bool) (cn : Nat) (fs : List (Nat × D)) : isY tb (.exc cn fs) = tb cn := rfl
def fyQ (cs : List Nat) (f : Nat) (Q X : QP D) : QP D := fun x S => Wr (lf (fldY cs f x) S) Q X
theorem fyQ_s (cs : List Nat) (f : Nat) : fyQ cs f Q X x S = Wr (lf (fldY cs f x) S) Q X := rfl
theorem wr_eFldY (cs : List Nat) (f : Nat) : Wr (eFldY cs f a e S) Q X = Wr (a e S) (fyQ cs f Q X) X := by unfold eFldY; rw [wr_bind]; rfl
theorem fldY_exc (cs : List Nat) (f cn : Nat) (fs : List (Nat × D)) : fldY cs f (.exc cn fs) = if cs.contains cn then fs.lookup f else none := rfl
def toQ (y : Ty) (Q X : QP D) : QP D := fun x S => Wr (lf ((isTyO S y x).map .bl) S) Q X
theorem toQ_s (t : Ty) : toQ t Q X x S = Wr (lf ((isTyO S t x).map .bl) S) Q X := rfl
theorem wr_eIsTyO (t : Ty) : Wr (eIsTyO t a e S) Q X = Wr (a e S) (toQ t Q X) X := by unfold eIsTyO; rw [wr_bind]; rfl
theorem isTyO_tup (t : Ty) (l : List D) : isTyO S t (.tup l) = some (Tn.tuple.is t) := rfl
theorem isTyO_lst (t : Ty) (l : List D) : isTyO S t (.lst l) = some (Tn.list.is t) := rfl
theorem isTyO_int (t : Ty) (i : Int) : isTyO S t (.int i) = some (Tn.int.is t) := rfl
end
end G
namespace G
open PySem
section
variable {QD : D → Store → Prop} {QL : List D → Store → Prop} {X : D → Store → Prop} {e : En} {S S1 : Store} {a b c : EM} {am : AM} {x y d : D} {xs ds : List D}
def tm2 (f : Store → D → List D → Option D) (z : Str) (Q : QP D) (X : QP D) : QP (List D) := fun xs S => Wr (lf (f S (.str z) xs) S) Q X
theorem tm2_s (f : Store → D → List D → Option D) (z : Str) : tm2 f z QD X xs S = Wr (lf (f S (.str z) xs) S) QD X := rfl
def tm1 (f : Store → D → List D → Option D) (m : AM) (e : En) (Q X : QP D) : QP D := fun x S => match x with
  | .str z => Wr (m e S) (tm2 f z Q X) X
  | _ => False
theorem tm1_s (f : Store → D → List D → Option D) (z : Str) : tm1 f am e QD X (.str z) S = Wr (am e S) (tm2 f z QD X) X := rfl
theorem wr_eTm (f : Store → D → List D → Option D) : Wr (eTm f a am e S) QD X = Wr (a e S) (tm1 f am e QD X) X := by
  unfold eTm; rw [wr_bind]; congr; funext x S1
  cases x <;> first | rfl | (rw [wr_bind]; rfl) | (rw [wr_stuck]; rfl)
def rgQN (Q : List D → Store → Prop) : QP (List D) := fun ds S => match ds with
  | [.int i, .int j, .int (.negSucc 0)] => (-(2 ^ 62) ≤ i ∧ i < 2 ^ 62 ∧ -(2 ^ 62) ≤ j ∧ j < 2 ^ 62) ∧ Q (rangeN i (i - j).toNat) S
  | _ => False
theorem rgQN_int (i j : Int) : rgQN QL [.int i, .int j, .int (-1)] S = ((-(2 ^ 62) ≤ i ∧ i < 2 ^ 62 ∧ -(2 ^ 62) ≤ j ∧ j < 2 ^ 62) ∧ QL (rangeN i (i - j).toNat) S) := rfl
theorem wr_iRgN : Wr (iRgN am e S) QL X = Wr (am e S) (rgQN QL) X := by
  unfold iRgN; rw [wr_bind]; congr; funext ds S1
  by_cases h : ∃ i j, ds = [.int i, .int j, .int (-1)]
  · obtain ⟨i, j, rfl⟩ := h
    show Wr (if _ then _ else _) _ _ = _
    rw [wr_guard]; rfl
  · unfold rgQN
    split
    · exact absurd ⟨_, _, rfl⟩ h
    · rw [wr_stuck]
      try (split <;> first | exact absurd ⟨_, _, rfl⟩ h | rfl)
end
end G
namespace G
open PySem
section
variable {Q X : QP D} {QB : QP Bool} {QL : QP (List D)} {QE : QP En} {k : KS} {e : En} {S S1 S2 : Store} {a b c o : EM} {t u : TM} {m n : SM} {am mk : AM} {x y d : D} {z : Bool} {xs ds zs : List D} {g g1 g2 g3 : GM}
def gf1 (cs : List Nat) (f : Nat) (d : D) (e : En) (Q : QP En) : QP D := fun x S => sb3 e Q (stF cs f S x d)
theorem gf1_s (cs : List Nat) (f : Nat) : gf1 cs f d e QE x S = sb3 e QE (stF cs f S x d) := rfl
theorem wr_gFl (cs : List Nat) (f : Nat) : Wr (gFl cs f o d e S) QE X = Wr (o e S) (gf1 cs f d e QE) nX := by
  unfold gFl; rw [wr_bind, wr_noX]; congr; funext x S1; rw [gf1_s]; cases h : stF cs f S1 x d <;> rfl
def as3 (g3 : GM) (d : D) (k : KS) : QP En := fun e S => Wr (g3 d e S) k.nx (k.xe e)
def as2 (g2 g3 : GM) (d : D) (k : KS) : QP En := fun e S => Wr (g2 d e S) (as3 g3 d k) (k.xe e)
def as1 (g1 g2 g3 : GM) (e : En) (k : KS) : QP D := fun d S => Wr (g1 d e S) (as2 g2 g3 d k) (k.xe e)
theorem as3_s : as3 g3 d k e S = Wr (g3 d e S) k.nx (k.xe e) := rfl
theorem as2_s : as2 g2 g3 d k e S = Wr (g2 d e S) (as3 g3 d k) (k.xe e) := rfl
theorem as1_s : as1 g1 g2 g3 e k d S = Wr (g1 d e S) (as2 g2 g3 d k) (k.xe e) := rfl
theorem ws_sAsg3 : Ws (sAsg3 a g1 g2 g3 e S) k = Wr (a e S) (as1 g1 g2 g3 e k) (k.xe e) := by
  unfold sAsg3; rw [ws_sE]; congr; funext z S1; rw [ws_sE, as1_s]; congr; funext z S1; rw [ws_sE, as2_s]; congr; funext z S1; rw [ws_sE]; rfl
def at1 (g1 g2 : GM) (e : En) (k : KS) : QP D := fun d S => Wr (g1 d e S) (as3 g2 d k) (k.xe e)
theorem at1_s : at1 g1 g2 e k d S = Wr (g1 d e S) (as3 g2 d k) (k.xe e) := rfl
theorem ws_sAsg2 : Ws (sAsg2 a g1 g2 e S) k = Wr (a e S) (at1 g1 g2 e k) (k.xe e) := by
  unfold sAsg2; rw [ws_sE]; congr; funext z S1; rw [ws_sE, at1_s]; congr; funext z S1; rw [ws_sE]; rfl
def faQ (j : Int) (cs : List Nat) (f : Nat) (e : En) (k : KS) : QP D := fun x S => match fldD cs f S x with
  | some y => Ws (stR (augI j S x y cs f) e) k
  | none => False
theorem ws_sFldA (j : Int) (cs : List Nat) (f : Nat) : Ws (sFldA j cs f o e S) k = Wr (o e S) (faQ j cs f e k) (k.xe e) := by
  unfold sFldA; rw [ws_sE]; congr; funext x S1; unfold faQ; cases fldD cs f S1 x <;> rfl
def ds3 (x y : D) (Q X : QP D) : QP D := fun z S => Wr (dsR S x y z) Q X
def ds2 (c : EM) (e : En) (x : D) (Q X : QP D) : QP D := fun y S => Wr (c e S) (ds3 x y Q X) X
def ds1 (b c : EM) (e : En) (Q X : QP D) : QP D := fun x S => (dkD S x).isSome = true ∧ Wr (b e S) (ds2 c e x Q X) X
theorem ds3_s (z : D) : ds3 x y Q X z S = Wr (dsR S x y z) Q X := rfl
theorem ds2_s : ds2 c e x Q X y S = Wr (c e S) (ds3 x y Q X) X := rfl
theorem ds1_s : ds1 b c e Q X x S = ((dkD S x).isSome = true ∧ Wr (b e S) (ds2 c e x Q X) X) := rfl
theorem wr_eDSetd : Wr (eDSetd a b c e S) Q X = Wr (a e S) (ds1 b c e Q X) X := by
  unfold eDSetd; rw [wr_bind]; congr; funext x S1; rw [wr_guard, ds1_s, wr_bind]; congr; funext y S2; rw [wr_bind]; rfl
def dispQ (ks : List Str) (Q : QP D) : QP (List D) := fun ds S => Q (.loc S.length) (S ++ [.dk ((strK ks).zip ds)])
theorem dispQ_s (ks : List Str) : dispQ ks Q ds S = Q (.loc S.length) (S ++ [.dk ((strK ks).zip ds)]) := rfl
theorem wr_eDisp (ks : List Str) : Wr (eDisp ks am e S) Q X = Wr (am e S) (dispQ ks Q) nX := by
  unfold eDisp; rw [wr_bind, wr_noX]; rfl
theorem ixE_dk {i : Nat} {l : List (L2.Key × D)} {q : L2.Key} {v : D} (h : S[i]? = some (.dk l)) (hk : keyD y = some q) (hv : valD l q = some v) : ixE S (.loc i) y = some v := by
  unfold ixE; simp only [dkD_s h, hk, Option.bind_some, hv]
def rm2 (co : Option Nat) (x : D) (Q X : QP D) : QP (List D) := fun xs S => Wr (rmR co x xs S) Q X
def rm1 (co : Option Nat) (am : AM) (e : En) (Q X : QP D) : QP D := fun x S => isLst S x = true ∧ Wr (am e S) (rm2 co x Q X) X
theorem rm2_s (co : Option Nat) : rm2 co x Q X xs S = Wr (rmR co x xs S) Q X := rfl
theorem rm1_s (co : Option Nat) : rm1 co am e Q X x S = (isLst S x = true ∧ Wr (am e S) (rm2 co x Q X) X) := rfl
theorem wr_eRem (co : Option Nat) : Wr (eRem co a am e S) Q X = Wr (a e S) (rm1 co am e Q X) X := by
  unfold eRem; rw [wr_bind]; congr; funext x S1; rw [wr_guard, rm1_s, wr_bind]; rfl
def parQ3 (i j l : Nat) (e : En) (k : KS) (ds : List D) (S : Store) : Prop := match ds with
  | [x, y, z] => k.nx (((e.set i (some x)).set j (some y)).set l (some z)) S
  | _ => False
theorem parQ3_s {w : D} (i j l : Nat) : parQ3 i j l e k [x, y, w] S = k.nx (((e.set i (some x)).set j (some y)).set l (some w)) S := rfl
theorem ws_sPar3 (i j l : Nat) : Ws (sPar3 i j l am e S) k = Wr (am e S) (parQ3 i j l e k) (k.xe e) := by
  unfold sPar3; rw [ws_sE]; congr; funext ds S1
  match ds with
  | [] => rfl
  | [_] => rfl
  | [_, _] => rfl
  | [_, _, _] => rfl
  | _ :: _ :: _ :: _ :: _ => rfl
def KS.th (k : KS) (n : Nat) (c : Cell) : KS := ⟨fun e S => k.nx e (S.set n c), fun d S => k.rt d (S.set n c), fun e S => k.bk e (S.set n c), fun e S => k.ct e (S.set n c), fun _ _ _ => False⟩
theorem th_nx (i : Nat) (c : Cell) : (k.th i c).nx e S = k.nx e (S.set i c) := rfl
theorem th_rt (i : Nat) (c : Cell) : (k.th i c).rt d S = k.rt d (S.set i c) := rfl
theorem th_xe (i : Nat) (c : Cell) : (k.th i c).xe e = nX := rfl
def dvQ (Q : QP (List D)) : QP D := fun d S => match fkD S d with
  | some l => Q (l.map fun kv => kv.2) S
  | none => False
def diQ (Q : QP (List D)) : QP D := fun d S => match fkD S d with
  | some l => Q (l.map fun kv => .tup [keyOf kv.1, kv.2]) S
  | none => False
def dkQ (Q : QP (List D)) : QP D := fun d S => match fkD S d with
  | some l => Q (l.map fun kv => keyOf kv.1) S
  | none => False
def tkQ (Q : QP (List D)) : QP D := fun d S => match fsD S d with
  | some l => Q (l.map intsD) S
  | none => False
theorem wr_iDv : Wr (iDv a e S) QL X = Wr (a e S) (dvQ QL) X := by
  unfold iDv; rw [wr_bind]; congr; funext d S1; unfold dvQ; cases fkD S1 d <;> rfl
theorem wr_iDi : Wr (iDi a e S) QL X = Wr (a e S) (diQ QL) X := by
  unfold iDi; rw [wr_bind]; congr; funext d S1; unfold diQ; cases fkD S1 d <;> rfl
theorem wr_iDk : Wr (iDk a e S) QL X = Wr (a e S) (dkQ QL) X := by
  unfold iDk; rw [wr_bind]; congr; funext d S1; unfold dkQ; cases fkD S1 d <;> rfl
theorem wr_iTk : Wr (iTk a e S) QL X = Wr (a e S) (tkQ QL) X := by
  unfold iTk; rw [wr_bind]; congr; funext d S1; unfold tkQ; cases fsD S1 d <;> rfl
def t1Q (Q : QP D) : QP D := fun d S => match intsK d with
  | some k => Q (.loc S.length) (S ++ [.ts [k]])
  | none => False
theorem wr_eTs1 : Wr (eTs1 a e S) Q X = Wr (a e S) (t1Q Q) X := by
  unfold eTs1; rw [wr_bind]; congr; funext d S1; unfold t1Q; cases intsK d <;> rfl
def tu2 (x : D) (Q X : QP D) : QP D := fun y S => Wr (uR S x y) Q X
def tu1 (b : EM) (e : En) (Q X : QP D) : QP D := fun x S => (tsD S x).isSome = true ∧ Wr (b e S) (tu2 x Q X) X
theorem tu2_s : tu2 x Q X y S = Wr (uR S x y) Q X := rfl
theorem tu1_s : tu1 b e Q X x S = ((tsD S x).isSome = true ∧ Wr (b e S) (tu2 x Q X) X) := rfl
theorem wr_eTsU : Wr (eTsU a b e S) Q X = Wr (a e S) (tu1 b e Q X) X := by
  unfold eTsU; rw [wr_bind]; congr; funext x S1; rw [wr_guard, tu1_s, wr_bind]; rfl
def dcQ (Q : QP D) : QP (List (List Int)) := fun acc S => Q (.loc S.length) (S ++ [.ts acc])
def dct1 (g : Tg) (t : TM) (a : EM) (e : En) (Q X : QP D) : QC := fun p S => Wr (dcR (okC p) g t a e p.1 [] S) (dcQ Q) X
theorem dct1_s (g : Tg) (p : List D × Option Nat) : dct1 g t a e Q X p S = Wr (dcR (okC p) g t a e p.1 [] S) (dcQ Q) X := rfl
theorem dcQ_s (acc : List (List Int)) : dcQ Q acc S = Q (.loc S.length) (S ++ [.ts acc]) := rfl
theorem wr_eDcT (i : CM) (g : Tg) (vs : List Nat) : Wr (eDcT i g t a vs e S) Q X = Wr (i e S) (dct1 g t a (wipeE e vs) Q X) X := by
  unfold eDcT; rw [wr_bind]; congr; funext p S1; rw [wr_bind]; rfl
def dy (I : QP (List (List Int))) (acc : List (List Int)) : QP D := fun y S => match intsK y with
  | some l => acc.length < sizeLine ∧ I (addK acc l) S
  | none => False
def dt1 (a : EM) (e : En) (I : QP (List (List Int))) (acc : List (List Int)) : QP Bool := fun b S => match b with
  | true => Wr (a e S) (dy I acc) nX
  | false => I acc S
theorem dt1_t (I : QP (List (List Int))) (acc : List (List Int)) : dt1 a e I acc true S = Wr (a e S) (dy I acc) nX := rfl
theorem dt1_f (I : QP (List (List Int))) (acc : List (List Int)) : dt1 a e I acc false S = I acc S := rfl
def dgg (t : TM) (a : EM) (I : QP (List (List Int))) (acc : List (List Int)) (S : Store) : En → Prop := fun e => Wr (t e S) (dt1 a e I acc) nX
theorem dgg_s (I : QP (List (List Int))) (acc : List (List Int)) : dgg t a I acc S e = Wr (t e S) (dt1 a e I acc) nX := rfl
end
end G
namespace G
open PySem
section
variable {QD : QP D} {X : QP D} {e : En} {S : Store} {a b : EM} {x y : D} {f : FM} {gD : List D → List D → List D}
def eqOb (neg : Bool) (Q : QP D) : QP D := fun y S1 => match y with
  | .bl b => Q (.bl (if neg = true then !b else b)) S1
  | _ => False
theorem eqOb_t (z : Bool) : eqOb true QD (.bl z) S = QD (.bl (!z)) S := rfl
theorem eqOb_f (z : Bool) : eqOb false QD (.bl z) S = QD (.bl z) S := rfl
def eqO2 (neg : Bool) (cn : Nat) (f : FM) (gD : List D → List D → List D) (x : D) (Q X : QP D) : QP D := fun y S => (isCn cn S x = true ∧ isCn cn S y = true) ∧ Wr (f (gD [x, y] []) S) (eqOb neg Q) X
theorem eqO2_s (neg : Bool) (cn : Nat) : eqO2 neg cn f gD x QD X y S = ((isCn cn S x = true ∧ isCn cn S y = true) ∧ Wr (f (gD [x, y] []) S) (eqOb neg QD) X) := rfl
def eqO1 (neg : Bool) (cn : Nat) (f : FM) (gD : List D → List D → List D) (b : EM) (e : En) (Q X : QP D) : QP D := fun x S => Wr (b e S) (eqO2 neg cn f gD x Q X) X
theorem eqO1_s (neg : Bool) (cn : Nat) : eqO1 neg cn f gD b e QD X x S = Wr (b e S) (eqO2 neg cn f gD x QD X) X := rfl
theorem wr_eEqO (neg : Bool) (cn : Nat) : Wr (eEqO neg cn f gD a b e S) QD X = Wr (a e S) (eqO1 neg cn f gD b e QD X) X := by
  unfold eEqO
  rw [wr_bind]
  congr; funext x S1
  rw [wr_bind, eqO1_s]
  congr; funext y S2
  rw [eqO2_s]
  unfold eqO
  rw [wr_guard]
  congr 1
  unfold eqOf
  rw [wr_bind]
  congr; funext z S3
  cases z <;> rfl
def in2 (x : D) (Q X : QP D) : QP (List D) := fun xs S => Wr (insR x xs S) Q X
def in1 (am : AM) (e : En) (Q X : QP D) : QP D := fun x S => isLst S x = true ∧ Wr (am e S) (in2 x Q X) X
theorem in2_s {xs : List D} : in2 x QD X xs S = Wr (insR x xs S) QD X := rfl
theorem in1_s {am : AM} : in1 am e QD X x S = (isLst S x = true ∧ Wr (am e S) (in2 x QD X) X) := rfl
theorem wr_eIns {am : AM} : Wr (eIns a am e S) QD X = Wr (a e S) (in1 am e QD X) X := by
  unfold eIns; rw [wr_bind]; congr; funext x S1; rw [wr_guard, in1_s, wr_bind]; rfl
end
end G
namespace G
open PySem
section
variable {QD : QP D} {X : QP D} {e : En} {S : Store} {a b : EM} {mp : AM} {k : KS}
def txQ (kvs : List (Str × D)) (Q X : QP D) : QP D := fun x S1 => match x with
  | .str z => Wr (lf (kvs.lookup z) S1) Q X
  | _ => False
theorem txQ_str (kvs : List (Str × D)) (z : Str) : txQ kvs QD X (.str z) S = Wr (lf (kvs.lookup z) S) QD X := rfl
theorem wr_eTabIx (kvs : List (Str × D)) : Wr (eTabIx kvs a e S) QD X = Wr (a e S) (txQ kvs QD X) X := by
  unfold eTabIx
  rw [wr_bind]
  congr; funext x S1
  cases x <;> rfl
def tiQ (neg : Bool) (kvs : List (Str × D)) (Q : QP D) : QP D := fun x S1 => match x with
  | .str z => Q (.bl (if neg = true then !(kvs.lookup z).isSome else (kvs.lookup z).isSome)) S1
  | _ => False
theorem tiQ_t (kvs : List (Str × D)) (z : Str) : tiQ true kvs QD (.str z) S = QD (.bl (!(kvs.lookup z).isSome)) S := rfl
theorem tiQ_f (kvs : List (Str × D)) (z : Str) : tiQ false kvs QD (.str z) S = QD (.bl (kvs.lookup z).isSome) S := rfl
theorem wr_eTabIn (neg : Bool) (kvs : List (Str × D)) : Wr (eTabIn neg kvs a e S) QD X = Wr (a e S) (tiQ neg kvs QD) X := by
  unfold eTabIn
  rw [wr_bind]
  congr; funext x S1
  cases x <;> rfl
def tc2 (i : Nat) (q : Nat × FM) (e : En) (k : KS) : QP (List D) := fun ds S2 => ds.length = q.1 ∧ Wr (q.2 ds S2) k.rt (k.xe (e.set i none))
theorem tc2_s (i n : Nat) (f : FM) (ds : List D) : tc2 i (n, f) e k ds S = (ds.length = n ∧ Wr (f ds S) k.rt (k.xe (e.set i none))) := rfl
def tc1 (i : Nat) (o : Option (Nat × FM)) (mp : AM) (e : En) (k : KS) (S1 : Store) : Prop := match o with
  | some q => i < e.length ∧ Wr (mp e S1) (tc2 i q e k) (k.xe (e.set i none))
  | none => False
theorem tc1_s (i : Nat) (q : Nat × FM) : tc1 i (some q) mp e k S = (i < e.length ∧ Wr (mp e S) (tc2 i q e k) (k.xe (e.set i none))) := rfl
def tcQ (i : Nat) (fs : List (Str × Nat × FM)) (mp : AM) (e : En) (k : KS) : QP D := fun x S1 => match x with
  | .str z => tc1 i (fs.lookup z) mp e k S1
  | _ => False
theorem tcQ_str (i : Nat) (fs : List (Str × Nat × FM)) (z : Str) : tcQ i fs mp e k (.str z) S = tc1 i (fs.lookup z) mp e k S := rfl
theorem ws_guard {p : Prop} [Decidable p] {r : SRes} : Ws (if p then r else .stuck) k = (p ∧ Ws r k) := by
  by_cases h : p
  · rw [if_pos h]; simp [h]
  · rw [if_neg h]; exact (eq_false fun z => h z.1).symm
theorem ws_sTabCall (i : Nat) (fs : List (Str × Nat × FM)) : Ws (sTabCall i fs b mp e S) k = Wr (b e S) (tcQ i fs mp e k) (k.xe e) := by
  unfold sTabCall
  rw [ws_sE]
  congr; funext x S1
  cases x with
  | str z =>
    rw [tcQ_str]
    dsimp only
    cases fs.lookup z with
    | none => rfl
    | some q =>
      rw [tc1_s]
      dsimp only
      rw [ws_guard, ws_sE]
      congr; funext ds S2
      rw [ws_guard, ws_sE]
      rfl
  | _ => rfl
def sn3 (x : D) (i : Option Int) (Q X : QP D) : QP (Option Int) := fun j S => Wr (slR S x i j) Q X
def sn2 (x : D) (h : OM) (e : En) (Q X : QP D) : QP (Option Int) := fun i S => Wr (h e S) (sn3 x i Q X) X
def sn1 (l h : OM) (e : En) (Q X : QP D) : QP D := fun x S => Wr (l e S) (sn2 x h e Q X) X
theorem sn3_s (x : D) (i j : Option Int) : sn3 x i QD X j S = Wr (slR S x i j) QD X := rfl
theorem sn2_s (x : D) (h : OM) (i : Option Int) : sn2 x h e QD X i S = Wr (h e S) (sn3 x i QD X) X := rfl
theorem sn1_s (x : D) (l h : OM) : sn1 l h e QD X x S = Wr (l e S) (sn2 x h e QD X) X := rfl
theorem wr_eSlN (l h : OM) : Wr (eSlN a l h e S) QD X = Wr (a e S) (sn1 l h e QD X) X := by
  unfold eSlN; simp only [wr_bind]; rfl
end
end G
namespace G
open PySem
section
variable {QD : QP D} {QL : QP (List D)} {X : QP D} {e : En} {S : Store} {a b : EM} {am : AM} {ds : List D} {x y : D} {f : FM} {gD : List D → List D → List D}
def zmQ (Q : QP (List D)) (X : QP D) : QP (List D) := fun ds S => Wr (zipRM ds S) Q X
theorem zmQ_s : zmQ QL X ds S = Wr (zipRM ds S) QL X := rfl
theorem wr_iZipM : Wr (iZipM am e S) QL X = Wr (am e S) (zmQ QL X) X := by unfold iZipM; rw [wr_bind]; rfl
theorem zipRM_s (l m : List D) : zipRM [.tup l, .lst m] S = .ok (zipD l m) S := rfl
def ex2 (neg : Bool) (cn : Nat) (f : FM) (gD : List D → List D → List D) (x : D) (Q X : QP D) : QP D := fun y S => Wr (eqX neg cn f gD x y S) Q X
theorem ex2_s (neg : Bool) (cn : Nat) : ex2 neg cn f gD x QD X y S = Wr (eqX neg cn f gD x y S) QD X := rfl
def ex1 (neg : Bool) (cn : Nat) (f : FM) (gD : List D → List D → List D) (b : EM) (e : En) (Q X : QP D) : QP D := fun x S => Wr (b e S) (ex2 neg cn f gD x Q X) X
theorem ex1_s (neg : Bool) (cn : Nat) : ex1 neg cn f gD b e QD X x S = Wr (b e S) (ex2 neg cn f gD x QD X) X := rfl
theorem wr_eEqX (neg : Bool) (cn : Nat) : Wr (eEqX neg cn f gD a b e S) QD X = Wr (a e S) (ex1 neg cn f gD b e QD X) X := by
  unfold eEqX
  rw [wr_bind]
  congr; funext x S1
  rw [wr_bind]; rfl
end
end G
namespace G
open PySem
section
variable {QD : QP D} {X Y : QP D} {e : En} {S S' : Store} {am : AM} {f : FM} {xs : List D} {d : D}
def cnQ (f : FM) (Q X : QP D) : QP (List D) := fun xs S => Wr (noF f xs S) Q X
theorem cnQ_s (f : FM) : cnQ f QD X xs S = Wr (noF f xs S) QD X := rfl
theorem wr_eCallN (f : FM) : Wr (eCallN f am e S) QD X = Wr (am e S) (cnQ f QD X) X := by unfold eCallN; rw [wr_bind]; rfl
end
end G
namespace G
open PySem
section
variable {QD : QP D} {X Y Q : QP D} {a b : EM} {e : En} {S S' : Store} {x y : D}
def ku2 (x : D) (Q X : QP D) : QP D := fun y S => Wr (uK S x y) Q X
def ku1 (b : EM) (e : En) (Q X : QP D) : QP D := fun x S => (dkD S x).isSome = true ∧ Wr (b e S) (ku2 x Q X) X
theorem ku2_s : ku2 x Q X y S = Wr (uK S x y) Q X := rfl
theorem ku1_s : ku1 b e Q X x S = ((dkD S x).isSome = true ∧ Wr (b e S) (ku2 x Q X) X) := rfl
theorem wr_eDkU : Wr (eDkU a b e S) Q X = Wr (a e S) (ku1 b e Q X) X := by
  unfold eDkU; rw [wr_bind]; congr; funext x S1; rw [wr_guard, ku1_s, wr_bind]; rfl
theorem uK_s {i j : Nat} {l l' : List (L2.Key × D)} (h : S[i]? = some (.dk l)) (h' : S[j]? = some (.dk l')) (hn : i ≠ j) (hz : l.length + l'.length ≤ 1000) : uK S (.loc i) (.loc j) = .ok .non (S.set i (.dk (mergeKD l l'))) := by
  unfold uK; simp only [dkD_s h, dkD_s h']; rw [if_pos ⟨hn, hz⟩]
theorem wr_eNx : Wr (eNx a e S) Q X = Wr (a e S) Q nX := by unfold eNx; rw [wr_noX]
def sa3 (x : D) (l : Option Int) (Q X : QP D) : QP (Option Int) := fun h S => Wr (lf (slDA S x l h) S) Q X
def sa2 (x : D) (h : OM) (e : En) (Q X : QP D) : QP (Option Int) := fun i S => Wr (h e S) (sa3 x i Q X) X
def sa1 (l h : OM) (e : En) (Q X : QP D) : QP D := fun x S => Wr (l e S) (sa2 x h e Q X) X
theorem sa3_s (l : Option Int) (z : Option Int) : sa3 x l QD X z S = Wr (lf (slDA S x l z) S) QD X := rfl
theorem sa2_s (h : OM) (i : Option Int) : sa2 x h e QD X i S = Wr (h e S) (sa3 x i QD X) X := rfl
theorem sa1_s (l h : OM) : sa1 l h e QD X x S = Wr (l e S) (sa2 x h e QD X) X := rfl
theorem wr_eSlA (l h : OM) : Wr (eSlA a l h e S) QD X = Wr (a e S) (sa1 l h e QD X) X := by
  unfold eSlA; simp only [wr_bind]; rfl
end
end G
namespace G
open PySem
abbrev HL := List (Nat × Cell)
def Sep (S : Store) (L : HL) : Prop := (∀ p, p ∈ L → S[p.1]? = some p.2) ∧ (L.map (·.1)).Nodup
section
variable {S : Store} {L L1 L2 L3 : HL} {n m : Nat} {c c' : Cell}
theorem Sep.get (h : Sep S L) (q : (n, c) ∈ L) : S[n]? = some c := h.1 _ q
theorem Sep.lt (h : Sep S L) (q : n ∈ L.map (·.1)) : n < S.length := by
  obtain ⟨p, hp, rfl⟩ := List.mem_map.mp q
  exact (List.getElem?_eq_some_iff.mp (h.1 p hp)).1
theorem Sep.nil : Sep S [] := ⟨fun _ h => (by cases h), by simp⟩
theorem Sep.perm (h : Sep S L) (p : L.Perm L1) : Sep S L1 := ⟨fun q hq => h.1 q (p.mem_iff.mpr hq), (p.map _).nodup_iff.mp h.2⟩
theorem Sep.sub (h : Sep S L) (p : L1.Sublist L) : Sep S L1 := ⟨fun q hq => h.1 q (p.subset hq), List.Nodup.sublist (p.map _) h.2⟩
theorem Sep.swap (h : Sep S (L1 ++ (L2 ++ L3))) : Sep S (L2 ++ (L1 ++ L3)) := h.perm (by
  rw [← List.append_assoc, ← List.append_assoc]
  exact (List.perm_append_comm).append_right _)
theorem Sep.left (h : Sep S (L1 ++ L2)) : Sep S L1 := h.sub (List.sublist_append_left _ _)
theorem Sep.right (h : Sep S (L1 ++ L2)) : Sep S L2 := h.sub (List.sublist_append_right _ _)
theorem Sep.hd (h : Sep S ((n, c) :: L2)) : S[n]? = some c := h.get (by simp)
theorem Sep.newM (h : Sep S (L1 ++ L2)) (c : Cell) : Sep (S ++ [c]) (L1 ++ (S.length, c) :: L2) := by
  have lt : ∀ i, i ∈ (L1 ++ L2).map (·.1) → i < S.length := fun i hi => h.lt hi
  refine ⟨fun p hp => ?_, ?_⟩
  · have old : p ∈ L1 ++ L2 → (S ++ [c])[p.1]? = some p.2 := fun q => by
      rw [List.getElem?_append_left (lt p.1 (List.mem_map_of_mem q))]; exact h.1 p q
    rcases List.mem_append.mp hp with hp | hp
    · exact old (List.mem_append_left _ hp)
    · rcases List.mem_cons.mp hp with rfl | hp
      · simp
      · exact old (List.mem_append_right _ hp)
  · have nd := h.2
    rw [List.map_append] at nd ⊢
    rw [List.map_cons]
    obtain ⟨n1, n2, n3⟩ := List.nodup_append.mp nd
    refine List.nodup_append.mpr ⟨n1, List.nodup_cons.mpr ⟨fun z => Nat.lt_irrefl _ (lt _ (by rw [List.map_append]; exact List.mem_append_right _ z)), n2⟩, fun a ha b hb e => ?_⟩
    rcases List.mem_cons.mp hb with rfl | hb
    · exact Nat.lt_irrefl _ (e ▸ lt a (by rw [List.map_append]; exact List.mem_append_left _ ha))
    · exact n3 a ha b hb e
theorem Sep.new0 (h : Sep S L) (c : Cell) : Sep (S ++ [c]) ((S.length, c) :: L) := Sep.newM (L1 := []) h c
theorem Sep.app (h : Sep S L) (cs : List Cell) : Sep (S ++ cs) L := ⟨fun p hp => by
  rw [List.getElem?_append_left (h.lt (List.mem_map_of_mem hp))]; exact h.1 p hp, h.2⟩
theorem Sep.cons (h : Sep S L) (hc : S[n]? = some c) (hn : n ∉ L.map (·.1)) : Sep S ((n, c) :: L) := ⟨fun p hp => by
  rcases List.mem_cons.mp hp with rfl | hp
  · exact hc
  · exact h.1 p hp, by rw [List.map_cons]; exact List.nodup_cons.mpr ⟨hn, h.2⟩⟩
theorem Sep.keep {S' : Store} (h : Sep S L) (k : ∀ p, p ∈ L → S'[p.1]? = S[p.1]?) : Sep S' L := ⟨fun p hp => by rw [k p hp]; exact h.1 p hp, h.2⟩
end
end G
local macro_rules | `(tactic| wp_walk using $ts,*) => (let es := ts.getElems; let k := (es[0]!).raw.getId; let all : Array Lean.Name := #[`G.wr_ok, `G.wr_exc, `G.wr_lf, `G.wr_eC, `G.evQ_some, `G.wr_eVar, `G.cB2_s, `G.cB1_s, `G.wr_eBin, `G.cS2_s, `G.cS1_s, `G.wr_eBinS, `G.asQ_bl, `G.wr_tB, `G.truQ_s, `G.wr_tT, `G.notQ_s, `G.wr_tNt, `G.anQ_t, `G.anQ_f, `G.wr_tAn, `G.orQ_t, `G.orQ_f, `G.wr_tOr, `G.eaB_t, `G.eaB_f, `G.eaQ_s, `G.wr_eAn, `G.eoB_t, `G.eoB_f, `G.eoQ_s, `G.wr_eOr, `G.enB_s, `G.enQ_s, `G.wr_eNt, `G.eiQ_t, `G.eiQ_f, `G.wr_eIf, `G.negQ_int, `G.wr_eNeg, `G.wr_aNil, `G.cC2_s, `G.cC1_s, `G.wr_aCons, `G.tupQ_s, `G.lstQ_s, `G.newQ_s, `G.wr_eTup, `G.wr_eLst, `G.wr_eNew, `G.caQ_s, `G.wr_eCa, `G.clQ_s, `G.wr_eCall, `G.nAQ_s, `G.wr_nA, `G.tyQ_s, `G.wr_eIsTy, `G.icQ_s, `G.wr_eIsC, `G.mt2_s, `G.mt1_s, `G.wr_eMt, `G.wr_oNone, `G.oQ_int, `G.wr_oSome, `G.sl3_s, `G.sl2_s, `G.sl1_s, `G.wr_eSl, `G.kk2_s, `G.kk1_s, `G.wr_eCallK, `G.kk0_s, `G.wr_eCallK0, `G.wr_gN, `G.sb3_s, `G.sb2_s, `G.sb1_s, `G.wr_gSb, `G.wr_gsNil, `G.gs1_s, `G.wr_gsCons, `G.wr_gTp, `G.wr_gTp_rD, `G.xe_s, `G.sq_nx, `G.sq_rt, `G.sq_bk, `G.sq_ct, `G.sq_ex, `G.sq_xe, `G.ws_nxt, `G.ws_sNop, `G.ws_sSeq, `G.ws_sBrk, `G.ws_sCnt, `G.dropQ_s, `G.ws_sDrop, `G.ws_sRet, `G.ws_sRetN, `G.ifQ_t, `G.ifQ_f, `G.ws_sIf, `G.asg1_s, `G.ws_sAsg, `G.setQ_s, `G.ws_sSet, `G.parQ_s, `G.ws_sPar, `G.ws_sRaise, `G.fn_nx, `G.fn_rt, `G.fn_ex, `G.fn_xe, `G.su_nx, `G.su_bk, `G.su_ct, `G.su_rt, `G.trQ_t, `G.trQ_f, `G.tr_nx, `G.tr_rt, `G.tr_bk, `G.tr_ct, `G.tr_ex, `G.ws_sTry, `G.forQ_s, `G.ws_sFor, `G.lp_nx, `G.lp_rt, `G.lp_bk, `G.lp_ct, `G.lp_ex, `G.lp_xe, `G.ws_fi_nil, `G.bodyQ_s, `G.mid_nx, `G.mid_rt, `G.mid_bk, `G.mid_ct, `G.mid_ex, `G.mid_xe, `G.lc2_s, `G.lc1_s, `G.wr_eLc, `G.lcn2_s, `G.lcn1_s, `G.wr_eLcN, `G.wipe_nil, `G.wipe_cons, `G.wr_tTrue, `G.wr_lc_nil, `G.tgQ_some, `G.ly_s, `G.lt1_t, `G.lt1_f, `G.lg_s, `G.eqQ_s, `G.exQ_s, `G.seqQ_tup, `G.seqQ_lst, `G.seqQ_scr, `G.seqQ_rD, `G.wr_iSeq, `G.rgQ_int, `G.wr_iRg1, `G.rgQ2_int, `G.wr_iRg2, `G.ch3_t, `G.ch3_f, `G.ch2_s, `G.ch1_s, `G.wr_eChain, `G.flQ_s, `G.wr_eFld, `G.fldD_ins, `G.stQ_s, `G.sf2_s, `G.sf1_s, `G.ws_sFldM, `G.mkQ2_s, `G.mkQ1_s, `G.wr_eMk, `G.wr_eMk0, `G.ap2_s, `G.ap1_s, `G.wr_eApp, `G.zpQ_s, `G.wr_iZip, `G.zipR_tup, `G.zipR_lst, `G.srQ_s, `G.wr_iStrM, `G.strR_s, `G.ioQ_s, `G.wr_eIsO, `G.dAddS_int, `G.wr_gStr_tup, `G.wr_gStr_lst, `G.fTuple_lst, `G.fTuple_tup, `List.take_succ_cons, `List.take_zero, `List.drop_succ_cons, `List.drop_zero, `List.getElem?_cons_zero, `List.getElem?_cons_succ, `List.set_cons_zero, `List.set_cons_succ, `List.map_cons, `List.map_nil, `List.length_cons, `List.length_nil, `List.cons_append, `List.nil_append, `List.replicate_succ, `List.replicate_zero, `List.append_nil, `true_and, `and_true, `and_self, `if_true, `ite_true, `if_false, `ite_false, `Bool.false_eq_true, `Bool.not_true, `Bool.not_false, `Bool.not_not, `decide_true, `decide_false, `decide_eq_true_eq, `not_false_eq_true, `not_true_eq_false, `reduceCtorEq, `PySem.sizeLine_eq, `Option.map_some, `Option.some.injEq, `Nat.reduceSub, `Nat.reduceAdd, `Nat.reduceLeDiff, `Nat.reduceEqDiff, `Nat.zero_add, `Nat.reduceBEq, `List.contains_cons, `List.contains_nil, `beq_self_eq_true, `Bool.true_or, `Bool.or_true, `Bool.false_or, `Bool.or_false, `List.lookup_cons, `List.lookup_nil, `Int.reduceEq, `Int.reduceNe, `Int.reduceLT, `Int.reduceLE, `Int.reduceNeg, `Int.reduceAdd, `Int.reduceSub, `Int.cast_ofNat_Int, `ne_eq, `G.cmpI_s, `G.dGt, `G.dGe, `G.dLt, `G.dLe, `G.dAdd_int, `G.dSub_int, `G.dEq_int, `G.dNe_int, `G.dEq_bl, `G.dNe_bl, `G.truD_bl, `G.isTy_int, `G.isTy_bl, `G.isTy_tup, `G.fLen_tup, `G.fLen_scr, `G.fLen_lst, `G.fAbs_int, `G.fMax_int, `G.fMin_int, `G.ixD_tup, `G.ixD_lst, `G.ixD_scr, `G.isTy_rD, `G.fLen_rD, `G.ix_rD0, `G.ix_rD1, `G.dEq_rD, `G.dNe_rD, `G.dIs_rD, `G.dIsNot_rD, `G.Tn.is, `G.me3_s, `G.me2_s, `G.me1_s, `G.wr_eMeth, `G.mk2_s, `G.mk1_s, `G.wr_eMethK, `G.m01_s, `G.wr_eMeth0, `G.wr_eNewD, `G.dg3_s, `G.dg2_s, `G.dg1_s, `G.wr_eDGet2, `G.dh2_s, `G.dh1_s, `G.wr_eDGet1, `G.dp3_s, `G.dp2_s, `G.dp1_s, `G.wr_eDPop2, `G.dq2_s, `G.dq1_s, `G.wr_eDPop1, `G.se2_s, `G.se1_s, `G.wr_gSbE, `G.ssQ_s, `G.wr_eSortSet, `G.an2_s, `G.an1_s, `G.wr_eAddN, `G.celQ_tup, `G.celQ_lst, `G.celQ_scr, `G.wr_iCel, `G.forcQ_s, `G.ws_sForC, `G.lcc1_s, `G.wr_eLcC, `G.lcd1_s, `G.wr_eLcCN, `G.keyD_int, `G.keyD_str, `Option.isSome_some, `G.fmQ_s, `G.wr_eFmt, `G.jsQ_str, `G.wr_js_nil, `G.wr_js_cons, `G.wr_eJs, `G.s4Q_str, `G.soQ_s, `G.wr_eStrO, `G.dAddE_0, `G.wr_eCallV, `G.chQ_s, `G.wr_eCallH, `G.wr_lamF, `G.oj_s, `G.enuQ_s, `G.wr_iEnum, `G.enR_tup, `G.enR_lst, `G.lrQ_int, `G.wr_eLr, `G.lrnQ_int, `G.wr_eLrN, `G.agQ_s, `G.auP_s, `G.ws_sAug, `G.augR_int, `G.pp2_s, `G.pp1_s, `G.wr_ePop, `G.wr_gSq_tup, `G.wr_gSq_lst, `G.lnQ_lst, `G.lnQ_tup, `G.wr_eListN, `G.rvQ_lst, `G.wr_eRev, `G.rfQ_s, `G.ws_sRaiseF, `G.trG_nx, `G.trG_rt, `G.trG_bk, `G.trG_ct, `G.trG_ex, `G.ws_sTryG, `G.ws_hd_nil, `G.hdP_t, `G.hdP_f, `G.ws_hd_cons, `G.setO_some, `G.setO_none, `G.ws_suS, `G.suN_nx, `G.suN_rt, `G.suN_bk, `G.suN_ct, `G.ws_suN, `G.iyQ_s, `G.wr_eIsY, `G.isY_exc, `G.fyQ_s, `G.wr_eFldY, `G.fldY_exc, `G.toQ_s, `G.wr_eIsTyO, `G.isTyO_tup, `G.isTyO_lst, `G.isTyO_int, `G.tm2_s, `G.tm1_s, `G.wr_eTm, `G.rgQN_int, `G.wr_iRgN, `G.gf1_s, `G.wr_gFl, `G.as3_s, `G.as2_s, `G.as1_s, `G.ws_sAsg3, `G.at1_s, `G.ws_sAsg2, `G.ws_sFldA, `G.ds3_s, `G.ds2_s, `G.ds1_s, `G.wr_eDSetd, `G.dispQ_s, `G.wr_eDisp, `G.rm2_s, `G.rm1_s, `G.wr_eRem, `G.parQ3_s, `G.ws_sPar3, `G.th_nx, `G.th_rt, `G.th_xe, `G.wr_iDv, `G.wr_iDi, `G.wr_iDk, `G.wr_iTk, `G.wr_eTs1, `G.tu2_s, `G.tu1_s, `G.wr_eTsU, `G.dct1_s, `G.dcQ_s, `G.wr_eDcT, `G.dt1_t, `G.dt1_f, `G.dgg_s]; let cut : Nat := if k == `zstop || k == `zust then 1 else if k == `zstf then 2 else if k == `zstq then 3 else 0; let sel := all.filter fun n => !((cut == 1 && n == `G.ws_sIf) || (cut == 2 && (n == `G.ws_sIf || n == `G.ws_sFor || n == `G.ws_sForC)) || (cut == 3 && n.getString!.startsWith "ws_")); let ids : Lean.TSyntaxArray `term := sel.map fun n => ⟨(Lean.mkIdent n).raw⟩; let r1 : Lean.TSyntaxArray `term := ids ++ es.extract 1 es.size; let r2 : Lean.TSyntaxArray `term := ids ++ es.extract 2 es.size; let r0 : Lean.TSyntaxArray `term := ids ++ es; if k == `zust || k == `zuse then `(tactic| (have hq0 := $(es[1]!); simp only [$[$r2:term],*] at hq0; exact hq0)) else if cut == 0 then `(tactic| try simp only [$[$r0:term],*]) else `(tactic| try simp only [$[$r1:term],*]))
namespace C
open PySem G
noncomputable section
abbrev Ls := List (Int × Nat × List (Rat × Rat))
def lnD (ls : Ls) : List (L2.Key × D) := ls.map fun x => (.inl x.1, .loc x.2.1)
def lnH (ls : Ls) : HL := ls.map fun x => (x.2.1, .lst (x.2.2.map rowD))
def bkH (n n1 : Nat) (ls : Ls) : HL := (n, .obj 34 [(9, .loc n1)]) :: (n1, .dk (lnD ls)) :: lnH ls
def lineOf (ls : Ls) (i : Int) : List (Rat × Rat) := match ls.find? fun x => decide (x.1 = i) with
  | some x => x.2.2
  | none => []
structure LsOk (ls : Ls) (c m : Nat) : Prop where
  nd : (ls.map (·.1)).Nodup
  len : ls.length ≤ c
  tot : (ls.map fun x => x.2.2.length).sum ≤ c
  each : ∀ x, x ∈ ls → 0 ≤ x.1 ∧ ∀ p, p ∈ x.2.2 → Bt p.1 m ∧ 0 ≤ p.1 ∧ Bt p.2 31 ∧ 0 ≤ p.2 ∧ p.2 ≤ 1
theorem LsOk.mono {ls : Ls} {c c' m m' : Nat} (h : LsOk ls c m) (hc : c ≤ c') (hm : m ≤ m') : LsOk ls c' m' :=
  ⟨h.nd, Nat.le_trans h.len hc, Nat.le_trans h.tot hc, fun x hx => ⟨(h.each x hx).1, fun p hp => ⟨((h.each x hx).2 p hp).1.mono hm, ((h.each x hx).2 p hp).2⟩⟩⟩
theorem sum_mem {l : List Nat} {k : Nat} (h : k ∈ l) : k ≤ l.sum := by
  induction l with
  | nil => cases h
  | cons a l ih =>
    rw [List.sum_cons]
    rcases List.mem_cons.mp h with rfl | h
    · omega
    · have := ih h; omega
theorem LsOk.line {ls : Ls} {c m : Nat} (h : LsOk ls c m) {x : Int × Nat × List (Rat × Rat)} (hx : x ∈ ls) : x.2.2.length ≤ c := Nat.le_trans (sum_mem (List.mem_map.mpr ⟨x, hx, rfl⟩)) h.tot
def bookA (ls : Ls) (i : Int) (s r : Rat) (a : Nat) : Ls := (ls.filter fun x => decide (x.1 ≠ i)) ++ (if bookL (lineOf ls i) s r = [] then [] else [(i, a, bookL (lineOf ls i) s r)])
def sumA (ls : Ls) (t : Rat) (but : Option Int) : Rat := ls.foldl (fun acc x => if but = some x.1 then acc else acc + atT x.2.2 t) 0
def rI (q : Rat) : List Int := [q.num, (q.den : Int)]
def addQ (K : List Rat) (q : Rat) : List Rat := if q ∈ K then K else K ++ [q]
def unQ (K M : List Rat) : List Rat := M.foldl addQ K
def rkQ (K : List Rat) (t : Rat) : Nat := (K.filter fun u => decide (u < t)).length
def sortQ (K : List Rat) : List Rat := K.mergeSort fun a b => decide ((rkQ K a : Int) ≤ rkQ K b)
def behL (l : List (Rat × Rat)) (s : Rat) : List Rat := ((l.filter fun p => decide (s < p.1)).map (·.1)).foldl addQ []
def knQ (ls : Ls) (s : Rat) : List Rat := ls.foldl (fun K x => unQ K (behL x.2.2 s)) [s]
def mostA (ls : Ls) (s : Rat) (but : Option Int) : Rat := (sortQ (knQ ls s)).foldl (fun f t => max f (sumA ls t but)) 0
structure IsMost (f : Rat → Rat) (s M : Rat) : Prop where
  nn : 0 ≤ M
  le : ∀ t, s ≤ t → f t ≤ M
  at_ : M = 0 ∨ ∃ t, s ≤ t ∧ f t = M
theorem foldmax (f : Rat → Rat) (R : List Rat) (z : Rat) : z ≤ R.foldl (fun g t => max g (f t)) z ∧ (∀ t, t ∈ R → f t ≤ R.foldl (fun g t => max g (f t)) z) ∧ (R.foldl (fun g t => max g (f t)) z = z ∨ ∃ t, t ∈ R ∧ f t = R.foldl (fun g t => max g (f t)) z) := by
  induction R generalizing z with
  | nil => exact ⟨(by show z ≤ z; grind), fun t ht => (by cases ht), .inl rfl⟩
  | cons u R ih =>
    obtain ⟨h1, h2, h3⟩ := ih (max z (f u))
    rw [List.foldl_cons]
    have m1 : z ≤ max z (f u) ∧ f u ≤ max z (f u) ∧ (max z (f u) = z ∨ max z (f u) = f u) := by
      rw [Rat.max_def]; split <;> grind
    refine ⟨by grind, fun t ht => ?_, ?_⟩
    · rcases List.mem_cons.mp ht with rfl | ht
      · grind
      · exact h2 t ht
    · rcases h3 with h3 | ⟨t, ht, e⟩
      · rcases m1.2.2 with e | e
        · exact .inl (h3.trans e)
        · exact .inr ⟨u, List.mem_cons_self, (h3.trans e).symm⟩
      · exact .inr ⟨t, List.mem_cons_of_mem _ ht, e⟩
theorem most_steps {f : Rat → Rat} {s : Rat} {R : List Rat} (hs : s ∈ R) (hR : ∀ t, t ∈ R → s ≤ t) (hf : ∀ u t, u ∈ R → u ≤ t → (∀ v, v ∈ R → v ≤ t → v ≤ u) → f t = f u) : IsMost f s (R.foldl (fun g t => max g (f t)) 0) := by
  obtain ⟨h1, h2, h3⟩ := foldmax f R 0
  have top : ∀ t, s ≤ t → ∃ u, u ∈ R ∧ u ≤ t ∧ ∀ v, v ∈ R → v ≤ t → v ≤ u := fun t ht => by
    have aux : ∀ (l : List Rat) (z : Rat), z ≤ t → ∃ u, (u = z ∨ u ∈ l) ∧ u ≤ t ∧ z ≤ u ∧ ∀ v, v ∈ l → v ≤ t → v ≤ u := by
      intro l
      induction l with
      | nil => exact fun z hz => ⟨z, .inl rfl, hz, by grind, fun v hv => by cases hv⟩
      | cons w l ih =>
        intro z hz
        by_cases c : w ≤ t ∧ z < w
        · obtain ⟨u, q1, q2, q3, q4⟩ := ih w c.1
          refine ⟨u, ?_, q2, by grind, fun v hv hvt => ?_⟩
          · rcases q1 with rfl | q1
            · exact .inr List.mem_cons_self
            · exact .inr (List.mem_cons_of_mem _ q1)
          · rcases List.mem_cons.mp hv with rfl | hv
            · exact q3
            · exact q4 v hv hvt
        · obtain ⟨u, q1, q2, q3, q4⟩ := ih z hz
          refine ⟨u, ?_, q2, q3, fun v hv hvt => ?_⟩
          · exact q1.imp id fun q => List.mem_cons_of_mem _ q
          · rcases List.mem_cons.mp hv with rfl | hv
            · have : ¬ z < v := fun z => c ⟨hvt, z⟩
              grind
            · exact q4 v hv hvt
    obtain ⟨u, q1, q2, q3, q4⟩ := aux R s ht
    exact ⟨u, q1.elim (fun e => e ▸ hs) id, q2, q4⟩
  refine ⟨h1, fun t ht => ?_, ?_⟩
  · obtain ⟨u, q1, q2, q3⟩ := top t ht
    rw [hf u t q1 q2 q3]; exact h2 u q1
  · rcases h3 with h3 | ⟨t, ht, e⟩
    · exact .inl h3
    · exact .inr ⟨t, hR t ht, e⟩
end
end C
namespace C
open PySem G
noncomputable section
abbrev mk_picked_of : Mk2 := (("picked_of", none), "picked_of.<locals>.<lambda>")
structure Rv where
  z : Int
  l : Rat
  o : Option Rat
  h : Int
  c : Rat
  g : Rat
  t : Rat
structure RvB (b : Nat) (r : Rv) : Prop where
  k : CliOk r.l r.o r.h
  z1 : 1 ≤ r.z
  z9 : r.z ≤ 999
  bl : Bt r.l 60
  bo : ∀ q, r.o = some q → Bt q 60
  bc : Bt r.c b
  bg : Bt r.g b
  bt : Bt r.t b
  c0 : 0 ≤ r.c
  g0 : 0 ≤ r.g
  t0 : 0 ≤ r.t
theorem RvB.mono {a b : Nat} {r : Rv} (h : RvB a r) (l : a ≤ b) : RvB b r := ⟨h.k, h.z1, h.z9, h.bl, h.bo, h.bc.mono l, h.bg.mono l, h.bt.mono l, h.c0, h.g0, h.t0⟩
def clk (now : Rat) (r : Rv) : Bool := !decide (r.l = 0) && !decide (now < r.c)
def gat (now : Rat) (r : Rv) : Bool := r.o.isNone || !decide (now < r.g)
def ixs (P : Rv → Bool) (l : List Rv) (n : Nat) : List Nat := (List.range n).filter fun j => (l[j]?).any P
def dueR (r : Rv) : Rat := dueB r.c r.z r.l
def stp (key : Nat → Rat) (b q : Nat) : Nat := if key q < key b then q else b
def fstI (key : Nat → Rat) : List Nat → Nat
  | [] => 0
  | p :: ps => ps.foldl (stp key) p
def low (b x : Rat) : Rat := if x < b then x else b
def spotsV (rows : List Rv) : List Rat := rows.map (·.g) ++ (rows.filter fun r => !decide (r.l = 0)).map (·.c)
def nextD : List Rat → D
  | [] => .non
  | q :: qs => rD (qs.foldl low q)
inductive Pk where
  | least (i : Nat)
  | share (i : Nat)
  | nobody (d : D)
def Pk.d : Pk → D
  | .least i => .tup [.str "least", .int (i : Nat)]
  | .share i => .tup [.str "share", .int (i : Nat)]
  | .nobody d => .tup [.str "none", d]
def keyL (rows : List Rv) (i : Nat) : Rat := match rows[i]? with
  | some r => dueR r
  | none => 0
def keyT (pace : Rat) (rows : List Rv) (i : Nat) : Rat := match rows[i]? with
  | some r => max r.t pace
  | none => 0
def pickK (rows : List Rv) (now pace : Rat) : Pk :=
  if ixs (clk now) rows rows.length ≠ [] then .least (fstI (keyL rows) (ixs (clk now) rows rows.length))
  else if ixs (gat now) rows rows.length ≠ [] then .share (fstI (keyT pace rows) (ixs (gat now) rows rows.length))
  else .nobody (nextD (spotsV rows))
theorem bt_max {p q : Rat} {n : Nat} (h : Bt p n) (h' : Bt q n) : Bt (max p q) n := by
  have := h.max h'
  rwa [max_le] at this
end
end C
namespace C
open PySem G
noncomputable section
structure Se where
  num : Nat
  name : Str
  l : Rat
  o : Option Rat
  h : Int
  c : Rat
  g : Rat
  t : Rat
  line : List (Nat × Int)
structure Sv where
  r : Nat
  q : Nat
  z : Nat
  f : Nat
  w : Nat
  b : Nat
  b1 : Nat
  at_ : Rat
  till : Rat
  pace : Rat
  seats : List (Nat × Nat × Se)
  came : Nat
  sizes : List Int
  fates : List D
  rows : List D
  ls : Ls
def cliD (x : Se) : D := cD x.name x.l x.o x.h
def seatC (la : Nat) (x : Se) : Cell := .obj 35 [(34, .int x.num), (25, cliD x), (32, tD x.c x.g x.t), (31, .loc la)]
def seatH (p : Nat × Nat × Se) : HL := [(p.1, seatC p.2.1 p.2.2), (p.2.1, .lst (p.2.2.line.map fun q => .int q.1))]
def seatsH (l : List (Nat × Nat × Se)) : HL := l.flatMap seatH
def Sv.roomC (v : Sv) : Cell := .obj 36 [(10, rD v.at_), (45, rD v.till), (41, rD v.pace), (38, .loc v.q), (19, .int v.came), (40, .loc v.z), (21, .loc v.f), (37, .loc v.w), (13, .loc v.b)]
def Sv.H (v : Sv) : HL := (v.r, v.roomC) :: (v.q, .lst (v.seats.map fun p => .loc p.1)) :: (v.z, .lst (v.sizes.map .int)) :: (v.f, .lst v.fates) :: (v.w, .lst v.rows) :: (seatsH v.seats ++ bkH v.b v.b1 v.ls)
def NameOk (nm : Str) : Prop := ∀ (N : Nat) (S : Store), m_is_name N [.str nm] S = .ok (.bl true) S
structure SeOk (B : Nat) (x : Se) : Prop where
  k : CliOk x.l x.o x.h
  nm : NameOk x.name
  bl : Bt x.l 31
  bo : ∀ q, x.o = some q → Bt q 31
  bc : Bt x.c B
  bg : Bt x.g B
  bt : Bt x.t B
  c0 : 0 ≤ x.c
  g0 : 0 ≤ x.g
  t0 : 0 ≤ x.t
  line : ∀ q, q ∈ x.line → 1 ≤ q.2 ∧ q.2 ≤ 999
  len : x.line.length ≤ 40
theorem SeOk.mono {B B' : Nat} {x : Se} (h : SeOk B x) (l : B ≤ B') : SeOk B' x := ⟨h.k, h.nm, h.bl, h.bo, h.bc.mono l, h.bg.mono l, h.bt.mono l, h.c0, h.g0, h.t0, h.line, h.len⟩
structure SvOk (B c n : Nat) (v : Sv) : Prop where
  ba : Bt v.at_ B
  bu : Bt v.till B
  bp : Bt v.pace B
  a0 : 0 ≤ v.at_
  u0 : 0 ≤ v.till
  p0 : 0 ≤ v.pace
  seats : ∀ p, p ∈ v.seats → SeOk B p.2.2
  few : v.seats.length ≤ 12
  nums : (v.seats.map (·.2.2.num)).Nodup
  numl : ∀ p, p ∈ v.seats → p.2.2.num < v.came
  names : (v.seats.map (·.2.2.name)).Nodup
  sz : ∀ p, p ∈ v.seats → ∀ q, q ∈ p.2.2.line → v.sizes[q.1]? = some q.2
  fl : v.fates.length = v.sizes.length
  szn : v.sizes.length ≤ n
  rwn : v.rows.length ≤ n
  ls : LsOk v.ls c B
theorem SvOk.mono {B B' c c' n n' : Nat} {v : Sv} (h : SvOk B c n v) (l : B ≤ B') (lc : c ≤ c') (ln : n ≤ n') : SvOk B' c' n' v :=
  ⟨h.ba.mono l, h.bu.mono l, h.bp.mono l, h.a0, h.u0, h.p0, fun p hp => (h.seats p hp).mono l, h.few, h.nums, h.numl, h.names, h.sz, h.fl, Nat.le_trans h.szn ln, Nat.le_trans h.rwn ln, h.ls.mono lc l⟩
def updN (n : Nat) (f : Nat × Nat × Se → Nat × Nat × Se) (l : List (Nat × Nat × Se)) : List (Nat × Nat × Se) := l.map fun p => if p.2.2.num = n then f p else p
def askS (now : Rat) (k : Nat) (z : Int) (x : Se) : Se := { x with c := if x.line = [] then max x.c now else x.c, line := x.line ++ [(k, z)] }
def Sv.ask (v : Sv) (p : Nat × Nat × Se) (z : Int) : Sv := { v with
  seats := updN p.2.2.num (fun q => (q.1, q.2.1, askS v.at_ v.sizes.length z q.2.2)) v.seats
  sizes := v.sizes ++ [z]
  fates := v.fates ++ [.tup [.str "waits"]]
  rows := v.rows ++ [.tup [.str "ask", rD v.at_, .str p.2.2.name, .int z]] }
end
end C
namespace C
open PySem G
noncomputable section
structure MostOk (l : Rat) (o : Option Rat) (h : Int) : Prop where
  l0 : 0 ≤ l
  l1 : l ≤ 1
  o1 : ∀ q, o = some q → 0 < q ∧ q ≤ 1
  h1 : 1 ≤ h
  h9 : h ≤ 99
theorem CliOk.most {l : Rat} {o : Option Rat} {h : Int} (k : CliOk l o h) : MostOk l o h := ⟨k.l0, k.l1, fun q hq => ⟨(k.o1 q hq).1, (k.o1 q hq).2.1⟩, k.h1, k.h9⟩
def setS (l : Rat) (o : Option Rat) (h : Int) (x : Se) : Se := { x with l := l, o := o, h := h }
def Sv.put (v : Sv) (p : Nat × Nat × Se) (l : Rat) (o : Option Rat) (h : Int) : Sv := { v with seats := updN p.2.2.num (fun q => (q.1, q.2.1, setS l o h q.2.2)) v.seats }
def Sv.row (v : Sv) (d : D) : Sv := { v with rows := v.rows ++ [d] }
end
end C
namespace C
open PySem G
noncomputable section
def Sv.top (v : Sv) : HL := (v.r, v.roomC) :: (v.q, .lst (v.seats.map fun p => .loc p.1)) :: (v.z, .lst (v.sizes.map .int)) :: (v.f, .lst v.fates) :: (v.w, .lst v.rows) :: seatsH v.seats
theorem Sv.H_top (v : Sv) : v.H = v.top ++ bkH v.b v.b1 v.ls := rfl
theorem Sv.bk {S : Store} {v : Sv} {F : HL} (hs : Sep S (v.H ++ F)) : Sep S (bkH v.b v.b1 v.ls ++ (v.top ++ F)) := by
  rw [Sv.H_top, List.append_assoc] at hs
  exact hs.swap
def Sv.left (v : Sv) (s : Rat) (but : Option Int) : Rat := 1 - mostA v.ls s but
def leastS (clock : Rat) (l : Rat) (x : Se) : Se := { x with c := clock, l := l }
def Had (spare : Bool) (left rate had : Rat) : Prop := (had = rate ∧ ¬ left < rate) ∨ (had = left ∧ left < rate ∧ spare = true)
theorem Had.le {spare : Bool} {left rate had : Rat} (h : Had spare left rate had) : had ≤ rate := by
  rcases h with ⟨rfl, _⟩ | ⟨rfl, z, _⟩ <;> grind
end
end C
namespace C
open PySem G
noncomputable section
def dropF (now : Rat) (line : List (Nat × Int)) (f : List D) : List D := line.foldl (fun f q => f.set q.1 (.tup [.str "dropped", rD now])) f
def Sv.leave (v : Sv) (p : Nat × Nat × Se) (a : Nat) : Sv := { v with
  ls := bookA v.ls p.2.2.num (max p.2.2.c v.at_) 0 a
  seats := v.seats.filter fun q => decide (q.2.2.num ≠ p.2.2.num)
  fates := dropF v.at_ p.2.2.line v.fates
  rows := v.rows ++ [.tup [.str "leave", rD v.at_, .str p.2.2.name]] }
end
end C
namespace C
open PySem G
end C
namespace C
open PySem G
noncomputable section
def headZ (x : Se) : Int := match x.line with
  | q :: _ => q.2
  | [] => 0
def rvS (x : Se) : Rv := ⟨headZ x, x.l, x.o, x.h, x.c, x.g, x.t⟩
def wts (x : Se) : Bool := !x.line.isEmpty
def Sv.wait (v : Sv) : List (Nat × Nat × Se) := v.seats.filter fun p => wts p.2.2
def Sv.next (v : Sv) (when_ : Rat) : Pk := pickK (v.wait.map fun p => rvS p.2.2) when_ v.pace
end
end C
namespace C
open PySem G
noncomputable section
def beginS (lst : Bool) (when_ pace : Rat) (x : Se) : Se := match x.line with
  | [] => x
  | q :: r => { x with line := r, c := if lst then dueB x.c q.2 x.l else x.c, g := gateB x.o x.g q.2 when_, t := if lst then x.t else rsd x.t pace q.2 (x.h : Rat) }
def wordOf (lst : Bool) : Str := if lst then "least" else "share"
def Sv.begin (v : Sv) (p : Nat × Nat × Se) (lst : Bool) (when_ : Rat) (k : Nat) (z : Int) (a : Nat) : Sv := { v with
  till := when_ + (z : Rat)
  pace := if lst then v.pace else max p.2.2.t v.pace
  seats := updN p.2.2.num (fun q => (q.1, a, beginS lst when_ v.pace q.2.2)) v.seats
  fates := v.fates.set k (.tup [.str "begun", rD when_, rD (when_ + (z : Rat)), .str (wordOf lst)])
  rows := v.rows ++ [.tup [.str "serve", rD when_, .str p.2.2.name, .int z, .str (wordOf lst)]] }
def toldB (k : Nat) (nm : Str) (z : Int) (lst : Bool) (when_ : Rat) : D := .tup [.int k, .str nm, .int z, .str (wordOf lst), rD when_]
end
end C
namespace C
open PySem G
noncomputable section
structure Ab where
  till : Rat
  pace : Rat
  seats : List Se
  rows : List D
def Ab.wait (b : Ab) : List Se := b.seats.filter wts
def Ab.next (b : Ab) (when_ : Rat) : Pk := pickK (b.wait.map rvS) when_ b.pace
def updA (n : Nat) (f : Se → Se) (l : List Se) : List Se := l.map fun x => if x.num = n then f x else x
def Ab.begin (b : Ab) (x : Se) (lst : Bool) (when_ : Rat) (z : Int) : Ab where
  till := when_ + (z : Rat)
  pace := if lst then b.pace else max x.t b.pace
  seats := updA x.num (beginS lst when_ b.pace) b.seats
  rows := b.rows ++ [.tup [.str "serve", rD when_, .str x.name, .int z, .str (wordOf lst)]]
def nxtQ : List Rat → Option Rat
  | [] => none
  | q :: qs => some (qs.foldl low q)
inductive Ch where
  | serve (lst : Bool) (x : Se) (k : Nat) (z : Int)
  | wait (q : Rat)
  | none
def chOf (lst : Bool) : Option Se → Ch
  | some x => match x.line with
    | q :: _ => .serve lst x q.1 q.2
    | [] => .none
  | none => .none
def Ab.ch (b : Ab) (when_ : Rat) : Ch := match b.next when_ with
  | .least i => chOf true b.wait[i]?
  | .share i => chOf false b.wait[i]?
  | .nobody _ => match nxtQ (spotsV (b.wait.map rvS)) with
    | some q => .wait q
    | none => .none
def Ab.go (time : Rat) : Nat → Ab → Rat → Option (List D × Ab)
  | 0, _, _ => none
  | n + 1, b, when_ => if when_ < time then match b.ch when_ with
    | .serve lst x k z => (Ab.go time n (b.begin x lst when_ z) (when_ + (z : Rat))).map fun r => (toldB k x.name z lst when_ :: r.1, r.2)
    | .wait q => Ab.go time n b q
    | .none => some ([], b)
    else some ([], b)
def Ab.W (b : Ab) : Nat := (b.seats.map fun x => x.line.length).sum
def Ch.w : Ch → Nat
  | .wait _ => 1
  | _ => 0
end
end C
namespace C
open PySem G
noncomputable section
def Sv.abs (v : Sv) : Ab := ⟨v.till, v.pace, v.seats.map (·.2.2), v.rows⟩
def Sml (rs : Nat) (v : Sv) : Prop := ∀ p, p ∈ v.seats → Bt p.2.2.l rs ∧ ∀ q, p.2.2.o = some q → Bt q rs
theorem divz_nn {z : Int} {r : Rat} (hz : 1 ≤ z) (hr : 0 ≤ r) : 0 ≤ (z : Rat) / r := by
  rw [Rat.div_def]
  have h1 : (0 : Rat) ≤ (z : Rat) := by exact_mod_cast (by omega : (0 : Int) ≤ z)
  refine Rat.mul_nonneg h1 ?_
  by_cases c : r = 0
  · subst c; rw [Rat.inv_zero]; decide
  · have hp : 0 < r := by grind
    have := Rat.inv_pos.mpr hp
    grind
end
end C
namespace C
open PySem G
noncomputable section
structure SameSv (v v' : Sv) : Prop where
  r : v'.r = v.r
  q : v'.q = v.q
  z : v'.z = v.z
  f : v'.f = v.f
  w : v'.w = v.w
  b : v'.b = v.b
  b1 : v'.b1 = v.b1
  at_ : v'.at_ = v.at_
  came : v'.came = v.came
  sizes : v'.sizes = v.sizes
  ls : v'.ls = v.ls
theorem SameSv.refl (v : Sv) : SameSv v v := ⟨rfl, rfl, rfl, rfl, rfl, rfl, rfl, rfl, rfl, rfl, rfl⟩
theorem SameSv.trans {v v1 v2 : Sv} (a : SameSv v v1) (b : SameSv v1 v2) : SameSv v v2 := ⟨b.r.trans a.r, b.q.trans a.q, b.z.trans a.z, b.f.trans a.f, b.w.trans a.w, b.b.trans a.b, b.b1.trans a.b1, b.at_.trans a.at_, b.came.trans a.came, b.sizes.trans a.sizes, b.ls.trans a.ls⟩
end
end C
namespace C
open PySem G
noncomputable section
def Ab.run (b : Ab) (now time : Rat) : Option (List D × Ab) := Ab.go time (2 * b.W + 2) b (max now b.till)
end
end C
namespace C
open PySem G
end C
namespace C
open PySem G
noncomputable section
def srvC (v : Sv) : Cell := .obj 37 [(36, .loc v.r)]
def Sv.new (n : Nat) : Sv := ⟨n, n + 1, n + 2, n + 3, n + 4, n + 5, n + 6, 0, 0, 0, [], 0, [], [], [], []⟩
end
end C
namespace C
open PySem G
noncomputable section
structure Ow where
  d : Nat
  f : Nat
  w : Nat
  bk : Nat
  now : Rat
  till : Rat
  pace : Rat
  folk : List (Nat × Nat × Se)
  rows : List D
  came : Nat
  books : List (Int × Rat × Rat)
  asks : Option Nat
def Ow.K (o : Ow) : List (L2.Key × D) := [(.inr "now", rD o.now), (.inr "till", rD o.till), (.inr "pace", rD o.pace), (.inr "folk", .loc o.f), (.inr "rows", .loc o.w), (.inr "came", .int o.came), (.inr "books", .loc o.bk)] ++ (match o.asks with
  | some k => [(.inr "asks", .int k)]
  | none => [])
def seK (la : Nat) (x : Se) : List (L2.Key × D) := [(.inr "name", .str x.name), (.inr "id", .int x.num), (.inr "rate", rD x.l), (.inr "limit", oD x.o), (.inr "heft", .int x.h), (.inr "clock", rD x.c), (.inr "gate", rD x.g), (.inr "turn", rD x.t), (.inr "line", .loc la)]
def rowB (p : Int × Rat × Rat) : D := .tup [.int p.1, rD p.2.1, rD p.2.2]
def folkH (p : Nat × Nat × Se) : HL := [(p.1, .dk (seK p.2.1 p.2.2)), (p.2.1, .lst (p.2.2.line.map fun q => .tup [.int q.1, .int q.2]))]
def folksH (l : List (Nat × Nat × Se)) : HL := l.flatMap folkH
def Ow.H (o : Ow) : HL := (o.d, .dk o.K) :: (o.f, .lst (o.folk.map fun p => .loc p.1)) :: (o.w, .lst o.rows) :: (o.bk, .lst (o.books.map rowB)) :: folksH o.folk
structure OwOk (B c n : Nat) (o : Ow) : Prop where
  ba : Bt o.now B
  bu : Bt o.till B
  bp : Bt o.pace B
  a0 : 0 ≤ o.now
  u0 : 0 ≤ o.till
  p0 : 0 ≤ o.pace
  folk : ∀ p, p ∈ o.folk → SeOk B p.2.2
  few : o.folk.length ≤ 12
  nums : (o.folk.map (·.2.2.num)).Nodup
  names : (o.folk.map (·.2.2.name)).Nodup
  rwn : o.rows.length ≤ n
  bkn : o.books.length ≤ c
  bks : ∀ b, b ∈ o.books → 0 ≤ b.1 ∧ b.1 < o.came ∧ Bt b.2.1 B ∧ 0 ≤ b.2.1 ∧ Bt b.2.2 31 ∧ 0 ≤ b.2.2 ∧ b.2.2 ≤ 1
theorem dEq_sr {z : Str} (q : Rat) (h : (PyData.str z).canLay0 = true) : dEq (.str z) (rD q) = some (.bl false) := by
  unfold dEq
  show (eqP (.str z) (rD q)).map _ = _
  unfold eqP
  have e1 : (D.str z).toP = some (.str z) := rfl
  rw [e1, toP_rD]
  dsimp only
  have s1 : SeqAt.shaped (.str z) = true := by
    unfold SeqAt.shaped
    rw [h]; rfl
  have s2 : SeqAt.shaped (.tuple [.int q.num, .int q.den]) = true := rfl
  rw [s1, s2]; rfl
end
end C
namespace C
open PySem G
noncomputable section
def Ow.wait (o : Ow) : List (Nat × Nat × Se) := o.folk.filter fun p => wts p.2.2
def Ow.abs (o : Ow) : Ab := ⟨o.till, o.pace, o.folk.map (·.2.2), o.rows⟩
end
end C
namespace C
open PySem G
end C
namespace C
open PySem G
end C
namespace C
open PySem G
noncomputable section
def Ow.begin (o : Ow) (p : Nat × Nat × Se) (lst : Bool) (z : Int) : Ow := { o with
  till := o.now + (z : Rat)
  pace := if lst then o.pace else max p.2.2.t o.pace
  folk := updN p.2.2.num (fun q => (q.1, q.2.1, beginS lst o.now o.pace q.2.2)) o.folk
  rows := o.rows ++ [.tup [.str "serve", rD o.now, .str p.2.2.name, .int z, .str (wordOf lst)]] }
end
end C
namespace C
open PySem G
noncomputable section
structure SameO (o o' : Ow) : Prop where
  d : o'.d = o.d
  f : o'.f = o.f
  w : o'.w = o.w
  bk : o'.bk = o.bk
  came : o'.came = o.came
  books : o'.books = o.books
  asks : o'.asks = o.asks
theorem SameO.refl (o : Ow) : SameO o o := ⟨rfl, rfl, rfl, rfl, rfl, rfl, rfl⟩
theorem SameO.trans {o o1 o2 : Ow} (a : SameO o o1) (b : SameO o1 o2) : SameO o o2 := ⟨b.d.trans a.d, b.f.trans a.f, b.w.trans a.w, b.bk.trans a.bk, b.came.trans a.came, b.books.trans a.books, b.asks.trans a.asks⟩
theorem SameO.begin (o : Ow) (p : Nat × Nat × Se) (lst : Bool) (z : Int) : SameO o (o.begin p lst z) := ⟨rfl, rfl, rfl, rfl, rfl, rfl, rfl⟩
end
end C
namespace C
open PySem G
noncomputable section
def sF (g : Int → Rat) (A : List Int) : Rat := A.foldr (fun i a => g i + a) 0
theorem sF_cons (g : Int → Rat) (i : Int) (A : List Int) : sF g (i :: A) = g i + sF g A := rfl
def gB (but : Option Int) (f : Int → Rat) (i : Int) : Rat := if but = some i then 0 else f i
theorem fold_pr {α : Type} (k : α → Int) (r : α → Rat) (but : Option Int) (f : Int → Rat) : ∀ (K : List α) (z : Rat), (∀ p, p ∈ K → r p = f (k p)) → K.foldl (fun a p => if but = some (k p) then a else a + r p) z = z + sF (gB but f) (K.map k)
  | [], z, _ => by show z = z + 0; grind
  | p :: K, z, h => by
    rw [List.foldl_cons, fold_pr k r but f K _ fun y hy => h y (List.mem_cons_of_mem _ hy), List.map_cons, sF_cons, h p List.mem_cons_self]
    unfold gB
    split <;> grind
def RB (ls : Ls) (bs : List Rw) : Prop := ∀ i t, atT (lineOf ls i) t = lawT bs i t
def bookO (bs : List Rw) (i : Int) (s r : Rat) : List Rw := (bs.filter fun b => decide (b.1 ≠ i ∨ b.2.1 < s)) ++ [(i, s, r)]
theorem RB.nil : RB [] [] := fun _ _ => rfl
def putI (K : List (Int × Rat)) (i : Int) (r : Rat) : List (Int × Rat) := if (K.any fun p => decide (p.1 = i)) = true then K.map (fun p => if p.1 = i then (p.1, r) else p) else K ++ [(i, r)]
theorem putI_keys (K : List (Int × Rat)) (i : Int) (r : Rat) : (putI K i r).map (·.1) = if i ∈ K.map (·.1) then K.map (·.1) else K.map (·.1) ++ [i] := by
  have e : (K.any fun p => decide (p.1 = i)) = decide (i ∈ K.map (·.1)) := by
    induction K with
    | nil => rfl
    | cons p K ih =>
      rw [List.any_cons, ih]
      by_cases c : p.1 = i
      · simp [c]
      · have c' : ¬ i = p.1 := fun z => c z.symm
        simp [c, c']
  unfold putI
  rw [e]
  by_cases c : i ∈ K.map (·.1)
  · rw [if_pos (decide_eq_true c), if_pos c, List.map_map]
    refine List.map_congr_left fun p _ => ?_
    dsimp only [Function.comp]
    split <;> rfl
  · rw [if_neg (by simpa using c), if_neg c, List.map_append]; rfl
theorem putI_mem {K : List (Int × Rat)} {i : Int} {r : Rat} {p : Int × Rat} (h : p ∈ putI K i r) : p = (i, r) ∨ (p ∈ K ∧ p.1 ≠ i) := by
  unfold putI at h
  split at h
  · obtain ⟨q, hq, rfl⟩ := List.mem_map.mp h
    by_cases c : q.1 = i
    · rw [if_pos c, c]; exact .inl rfl
    · rw [if_neg c]; exact .inr ⟨hq, c⟩
  · rename_i hn
    rcases List.mem_append.mp h with h | h
    · refine .inr ⟨h, fun c => hn ?_⟩
      exact List.any_eq_true.mpr ⟨p, h, decide_eq_true c⟩
    · exact .inl (List.mem_singleton.mp h)
def knB (bs : List Rw) (t : Rat) : List (Int × Rat) := bs.foldl (fun K b => if t < b.2.1 then K else putI K b.1 b.2.2) []
theorem knB_snoc (bs : List Rw) (b : Rw) (t : Rat) : knB (bs ++ [b]) t = if t < b.2.1 then knB bs t else putI (knB bs t) b.1 b.2.2 := by
  unfold knB; rw [List.foldl_append]; rfl
theorem knB_ok (bs : List Rw) (t : Rat) : ((knB bs t).map (·.1)).Nodup ∧ (∀ p, p ∈ knB bs t → p.2 = lawT bs p.1 t) ∧ (∀ i, i ∉ (knB bs t).map (·.1) → lawT bs i t = 0) ∧ (knB bs t).length ≤ bs.length := by
  generalize hn : bs.length = n
  induction n generalizing bs with
  | zero =>
    have : bs = [] := List.length_eq_zero_iff.mp hn
    subst this
    exact ⟨by simp [knB], fun p hp => (by simp [knB] at hp), fun i _ => rfl, Nat.le_refl _⟩
  | succ n ih =>
    rcases List.eq_nil_or_concat bs with rfl | ⟨bs', b, rfl⟩
    · simp at hn
    · rw [List.concat_eq_append] at hn ⊢
      obtain ⟨i1, i2, i3, i4⟩ := ih bs' (by simp at hn; exact hn)
      rw [knB_snoc]
      by_cases c : t < b.2.1
      · rw [if_pos c]
        have e : ∀ i, lawT (bs' ++ [b]) i t = lawT bs' i t := fun i => by rw [lawT_snoc, if_neg fun q => q.2 c]
        exact ⟨i1, fun p hp => by rw [e]; exact i2 p hp, fun i hi => by rw [e]; exact i3 i hi, by omega⟩
      · rw [if_neg c]
        have hk := putI_keys (knB bs' t) b.1 b.2.2
        refine ⟨?_, fun p hp => ?_, fun i hi => ?_, ?_⟩
        · rw [hk]
          split
          · exact i1
          · rename_i hb
            exact List.nodup_append.mpr ⟨i1, by simp, fun x hx y hy e => by
              rw [List.mem_singleton.mp hy] at e
              exact hb (e ▸ hx)⟩
        · rw [lawT_snoc]
          rcases putI_mem hp with rfl | ⟨hp, hne⟩
          · rw [if_pos ⟨rfl, c⟩]
          · rw [if_neg fun q => hne q.1.symm]; exact i2 p hp
        · rw [hk] at hi
          have h1 : i ∉ (knB bs' t).map (·.1) ∧ i ≠ b.1 := by
            split at hi
            · rename_i hb
              exact ⟨hi, fun e => hi (e ▸ hb)⟩
            · exact ⟨fun z => hi (List.mem_append_left _ z), fun e => hi (by rw [e]; simp)⟩
          rw [lawT_snoc, if_neg fun q => h1.2 q.1.symm]
          exact i3 i h1.1
        · have : ((putI (knB bs' t) b.1 b.2.2).map (·.1)).length ≤ ((knB bs' t).map (·.1)).length + 1 := by
            rw [hk]
            split
            · omega
            · rw [List.length_append]; exact Nat.le_refl _
          rw [List.length_map, List.length_map] at this
          omega
def sumB (bs : List Rw) (t : Rat) (but : Option Int) : Rat := (knB bs t).foldl (fun a p => if but = some p.1 then a else a + p.2) 0
def spB (bs : List Rw) (s : Rat) : List Rat := s :: (bs.filter fun b => decide (s < b.2.1)).map (·.2.1)
def mostB (bs : List Rw) (s : Rat) (but : Option Int) : Rat := (spB bs s).foldl (fun f t => max f (sumB bs t but)) 0
theorem knB_same {bs : List Rw} {t u : Rat} (h : ∀ p, p ∈ bs → (t < p.2.1 ↔ u < p.2.1)) : knB bs t = knB bs u := by
  unfold knB
  generalize ([] : List (Int × Rat)) = z
  induction bs generalizing z with
  | nil => rfl
  | cons p l ih =>
    rw [List.foldl_cons, List.foldl_cons]
    have e : (if t < p.2.1 then z else putI z p.1 p.2.2) = if u < p.2.1 then z else putI z p.1 p.2.2 := by
      by_cases c : t < p.2.1
      · rw [if_pos c, if_pos ((h p List.mem_cons_self).mp c)]
      · rw [if_neg c, if_neg fun q => c ((h p List.mem_cons_self).mpr q)]
    rw [e]
    exact ih (fun q hq => h q (List.mem_cons_of_mem _ hq)) _
theorem mostB_is (bs : List Rw) (s : Rat) (but : Option Int) : IsMost (fun t => sumB bs t but) s (mostB bs s but) := by
  have hm : ∀ t, t ∈ spB bs s → t = s ∨ s < t := fun t ht => by
    rcases List.mem_cons.mp ht with rfl | ht
    · exact .inl rfl
    · obtain ⟨b, hb, rfl⟩ := List.mem_map.mp ht
      exact .inr (by simpa using (List.mem_filter.mp hb).2)
  refine most_steps List.mem_cons_self (fun t ht => ?_) fun u t hu hut hmx => ?_
  · rcases hm t ht with rfl | h <;> grind
  · have hsu : s ≤ u := by rcases hm u hu with rfl | h <;> grind
    show sumB bs t but = sumB bs u but
    unfold sumB
    suffices ek : knB bs t = knB bs u by rw [ek]
    refine knB_same fun p hp => ?_
    constructor
    · intro h; grind
    · intro h
      by_cases c : t < p.2.1
      · exact c
      · have := hmx p.2.1 (List.mem_cons_of_mem _ (List.mem_map.mpr ⟨p, List.mem_filter.mpr ⟨hp, decide_eq_true (by grind)⟩, rfl⟩)) (by grind)
        grind
end
end C
namespace C
open PySem G
noncomputable section
def BkOk (B c : Nat) (bs : List Rw) : Prop := bs.length ≤ c ∧ ∀ b, b ∈ bs → Bt b.2.1 B ∧ 0 ≤ b.2.1 ∧ Bt b.2.2 31
theorem OwOk.bk {B c n : Nat} {o : Ow} (ok : OwOk B c n o) : BkOk B c o.books := ⟨ok.bkn, fun b hb => ⟨(ok.bks b hb).2.2.1, (ok.bks b hb).2.2.2.1, (ok.bks b hb).2.2.2.2.1⟩⟩
end
end C
namespace C
open PySem G
noncomputable section
def Ow.row (o : Ow) (d : D) : Ow := { o with rows := o.rows ++ [d] }
def Ow.nk (o : Ow) : Nat := o.asks.getD 0
def Ow.ask (o : Ow) (p : Nat × Nat × Se) (z : Int) : Ow := { o with
  folk := updN p.2.2.num (fun q => (q.1, q.2.1, askS o.now o.nk z q.2.2)) o.folk
  rows := o.rows ++ [.tup [.str "ask", rD o.now, .str p.2.2.name, .int z]]
  asks := some (o.nk + 1) }
end
end C
namespace C
open PySem G
noncomputable section
def Ow.put (o : Ow) (p : Nat × Nat × Se) (l : Rat) (m : Option Rat) (h : Int) : Ow := { o with folk := updN p.2.2.num (fun q => (q.1, q.2.1, setS l m h q.2.2)) o.folk }
def Ow.least (o : Ow) (p : Nat × Nat × Se) (r : Rat) (a : Nat) : Ow := { o with
  bk := a
  books := bookO o.books p.2.2.num (max p.2.2.c o.now) r
  folk := updN p.2.2.num (fun q => (q.1, q.2.1, leastS (max p.2.2.c o.now) r q.2.2)) o.folk
  rows := o.rows ++ [.tup [.str "least", rD o.now, .str p.2.2.name, rD r]] }
end
end C
namespace C
open PySem G
noncomputable section
def Ow.leave (o : Ow) (p : Nat × Nat × Se) (a : Nat) : Ow := { o with
  bk := a
  books := bookO o.books p.2.2.num (max p.2.2.c o.now) 0
  folk := o.folk.filter fun q => decide (q.2.2.num ≠ p.2.2.num)
  rows := o.rows ++ [.tup [.str "leave", rD o.now, .str p.2.2.name]] }
end
end C
namespace C
open PySem G
noncomputable section
def joinSe (o : Ow) (nm : Str) (l : Rat) (m : Option Rat) (h : Int) : Se := ⟨o.came, nm, l, m, h, o.now, o.now, o.pace, []⟩
def Ow.join (o : Ow) (nm : Str) (l : Rat) (m : Option Rat) (h : Int) (a a1 a2 : Nat) : Ow := { o with
  bk := a
  books := bookO o.books o.came o.now l
  folk := o.folk ++ [(a1, a2, joinSe o nm l m h)]
  came := o.came + 1
  rows := o.rows ++ [.tup [.str "join", rD o.now, .str nm, rD l, oD m, .int h]] }
def Ow.new (n : Nat) : Ow := ⟨n + 3, n, n + 1, n + 2, 0, 0, 0, [], [], 0, [], none⟩
end
end C
namespace C
open PySem G
noncomputable section
inductive Dd where
  | ask (nm : Str) (z : Int)
  | leave (nm : Str)
  | weight (nm : Str) (h : Int)
  | most (nm : Str) (m : Option Rat)
  | least (nm : Str) (r : Rat)
  | join (nm : Str) (l : Rat) (m : Option Rat) (h : Int)
  | go (t : Rat)
def NmOk (nm : Str) : Prop := NameOk nm ∧ (PyData.str nm).canLay0 = true
def Dd.ok (rs bt : Nat) : Dd → Prop
  | .ask nm z => NmOk nm ∧ 1 ≤ z ∧ z ≤ 999
  | .leave nm => NmOk nm
  | .weight nm h => NmOk nm ∧ 1 ≤ h ∧ h ≤ 99
  | .most nm m => NmOk nm ∧ ∀ q, m = some q → Bt q rs ∧ 0 < q ∧ q ≤ 1
  | .least nm r => NmOk nm ∧ Bt r rs ∧ 0 ≤ r ∧ r ≤ 1
  | .join nm l m h => NmOk nm ∧ Bt l rs ∧ 0 ≤ l ∧ l ≤ 1 ∧ (∀ q, m = some q → Bt q rs ∧ 0 < q ∧ q ≤ 1) ∧ 1 ≤ h ∧ h ≤ 99
  | .go t => Bt t bt ∧ 0 ≤ t
structure Al (v : Sv) (o : Ow) : Prop where
  ab : o.abs = v.abs
  now : o.now = v.at_
  came : o.came = v.came
  nk : o.nk = v.sizes.length
  rb : RB v.ls o.books
structure BO (B c : Nat) (o : Ow) : Prop where
  len : o.books.length ≤ c
  each : ∀ b, b ∈ o.books → 0 ≤ b.1 ∧ b.1 < o.came ∧ Bt b.2.1 B ∧ 0 ≤ b.2.1 ∧ Bt b.2.2 31 ∧ 0 ≤ b.2.2 ∧ b.2.2 ≤ 1
theorem BO.mono {B B' c c' : Nat} {o : Ow} (h : BO B c o) (l : B ≤ B') (lc : c ≤ c') : BO B' c' o := ⟨Nat.le_trans h.len lc, fun b hb => by
  obtain ⟨h1, h2, h3, h4⟩ := h.each b hb
  exact ⟨h1, h2, h3.mono l, h4⟩⟩
section
variable {v : Sv} {o : Ow} {B c c' n : Nat}
theorem Al.till (a : Al v o) : o.till = v.till := congrArg Ab.till a.ab
theorem Al.pace (a : Al v o) : o.pace = v.pace := congrArg Ab.pace a.ab
theorem Al.seats (a : Al v o) : o.folk.map (·.2.2) = v.seats.map (·.2.2) := congrArg Ab.seats a.ab
theorem Al.rows (a : Al v o) : o.rows = v.rows := congrArg Ab.rows a.ab
theorem Al.mem (a : Al v o) {p : Nat × Nat × Se} (hp : p ∈ o.folk) : ∃ q, q ∈ v.seats ∧ q.2.2 = p.2.2 := by
  have : p.2.2 ∈ v.seats.map (·.2.2) := by rw [← a.seats]; exact List.mem_map_of_mem hp
  obtain ⟨q, h1, h2⟩ := List.mem_map.mp this
  exact ⟨q, h1, h2⟩
theorem Al.len (a : Al v o) : o.folk.length = v.seats.length := by
  have := congrArg List.length a.seats
  rwa [List.length_map, List.length_map] at this
end
end
end C
namespace C
open PySem G
end C
namespace C
open PySem G
noncomputable section
def b__law_moment (N : Nat) : SM := (sRet (eCall (m__law_add N) (nA 2 (aCons (eVar 1) (aCons (eCall (m__law_r N) (nA 2 (aCons (eCall (m__law_take N) (nA 2 (aCons (eVar 0) (aCons (eC (.int 13)) aNil)))) (aCons (eBinS ixD (eLst (aCons (eC (.int 1)) (aCons (eC (.int 1)) (aCons (eC (.int 2)) (aCons (eC (.int 3)) (aCons (eC (.int 4)) aNil)))))) (eCall (m__law_take N) (nA 2 (aCons (eVar 0) (aCons (eC (.int 5)) aNil))))) aNil)))) aNil)))))
def m__law_moment (N : Nat) : FM := fnM 2 (b__law_moment N)
def b__law_name (N : Nat) : SM := (sSeq (sSet 2 (eLst (aCons (eC (.str "join")) (aCons (eC (.str "ask")) (aCons (eC (.str "leave")) (aCons (eC (.str "least")) (aCons (eC (.str "most")) (aCons (eC (.str "weight")) (aCons (eC (.str "go")) (aCons (eC (.str "serve")) (aCons (eC (.str "now")) (aCons (eC (.str "share")) (aCons (eC (.str "at")) (aCons (eC (.str "none")) aNil))))))))))))))
    (sSeq (sSet 3 (eBinS ixD (eVar 2) (eCall (m__law_take N) (nA 2 (aCons (eVar 0) (aCons (eC (.int 12)) aNil))))))
    (sSeq (sIf (tB (eBin dGt (eCall (m__law_take N) (nA 2 (aCons (eVar 0) (aCons (eC (.int 3)) aNil)))) (eC (.int 0)))) (sSet 3 (eTm fJoin (eC (.str "")) (aCons (eLc (iRg1 (aCons (eBinS dAddS (eC (.int 1)) (eCall (m__law_take N) (nA 2 (aCons (eVar 0) (aCons (eC (.int 8)) aNil))))) aNil)) (.nm 7) tTrue (eBinS ixD (eC (.str "abcdefghijklmnopqrstuvwxyz")) (eCall (m__law_take N) (nA 2 (aCons (eVar 0) (aCons (eC (.int 26)) aNil))))) [7]) aNil))) sNop)
    (sSeq (sSet 4 (eBinS dAddS (eLst (aCons (eVar 3) aNil)) (eLc (iStrM (eC (.str "abcdefghijklmnopqrstuvwxyz"))) (.nm 5) tTrue (eBinS dAddS (eSl (eVar 3) oNone (oSome (eC (.int 7)))) (eVar 5)) [5])))
    (sRet (eBinS ixD (eLc (iSeq (eVar 4)) (.nm 6) (tB (eBinS (dInL true) (eVar 6) (eVar 1))) (eVar 6) [6]) (eC (.int 0))))))))
def m__law_name (N : Nat) : FM := fnM 8 (b__law_name N)
def b__law_rateS (N : Nat) : SM := (sSeq (sSet 1 (eBinS dAddS (eC (.int 1)) (eCall (m__law_take N) (nA 2 (aCons (eVar 0) (aCons (eC (.int 12)) aNil))))))
    (sRet (eCall (m__law_r N) (nA 2 (aCons (eBinS dAddS (eC (.int 1)) (eCall (m__law_take N) (nA 2 (aCons (eVar 0) (aCons (eCa fMin (aCons (eC (.int 6)) (aCons (eVar 1) aNil))) aNil))))) (aCons (eVar 1) aNil))))))
def m__law_rateS (N : Nat) : FM := fnM 2 (b__law_rateS N)
abbrev LET : Str := "abcdefghijklmnopqrstuvwxyz"
theorem let_l : LET.cps.toList = List.range' 97 26 := by decide +kernel
theorem let_n : LET.length ≤ sizeLine := by rw [sizeLine_eq]; decide +kernel
def oneS (c : Nat) : Str := ⟨#[c]⟩
theorem let_at {i : Int} (h0 : 0 ≤ i) (h1 : i < 26) (S : Store) : ∃ c, ixD S (.str LET) (.int i) = some (.str (oneS c)) ∧ 97 ≤ c ∧ c < 123 := by
  obtain ⟨k, rfl⟩ := Int.eq_ofNat_of_zero_le h0
  have hk : (List.range' 97 26)[k]? = some (97 + k) := by rw [List.getElem?_range' (by omega)]; simp
  refine ⟨97 + k, ?_, by omega, by omega⟩
  show (if LET.length ≤ sizeLine then (L2.atI LET.cps.toList (k : Int)).map (fun c => D.str ⟨#[c]⟩) else none) = _
  rw [if_pos let_n, let_l, L2.atI_nat hk]
  rfl
theorem let_in {c : Nat} (h0 : 97 ≤ c) (h1 : c < 123) (S : Store) : dIn false S (.str (oneS c)) (.str LET) = some (.bl true) := by
  show some (D.bl (decide (c ∈ LET.cps.toList))) = _
  rw [let_l, decide_eq_true (List.mem_range'_1.mpr ⟨h0, by omega⟩)]
theorem join_one : ∀ cs : List Nat, Str.join "" (cs.map oneS) = ⟨cs.toArray⟩
  | [] => rfl
  | [c] => rfl
  | c :: d :: cs => by
    show oneS c ++ "" ++ Str.join "" ((d :: cs).map oneS) = _
    rw [join_one (d :: cs)]
    show (⟨#[c] ++ #[] ++ (d :: cs).toArray⟩ : Str) = _
    simp
theorem strs_one : ∀ cs : List Nat, strsD (cs.map fun c => .str (oneS c)) = some (cs.map oneS)
  | [] => rfl
  | c :: cs => by
    show (strsD (cs.map fun c => D.str (oneS c))).map (oneS c :: ·) = _
    rw [strs_one cs]; rfl
theorem len_one : ∀ cs : List Nat, ((cs.map oneS).map (·.length)).sum = cs.length
  | [] => rfl
  | c :: cs => by
    simp only [List.map_cons, List.sum_cons, len_one cs, List.length_cons]
    show 1 + _ = _
    omega
theorem join_ok {cs : List Nat} (h : cs.length ≤ 8) (S : Store) : fJoin S (.str "") [.lst (cs.map fun c => .str (oneS c))] = some (.str ⟨cs.toArray⟩) := by
  unfold fJoin
  dsimp only
  have e : seqD S (.lst (cs.map fun c => D.str (oneS c))) = some (cs.map fun c => D.str (oneS c)) := rfl
  rw [e, Option.bind_some, strs_one, Option.bind_some, len_one, join_one]
  rw [if_pos (by show cs.length + (cs.map oneS).length * 0 ≤ _; omega)]
theorem bools_true : ∀ n : Nat, bools (List.replicate n (D.bl true)) = some (List.replicate n true)
  | 0 => rfl
  | n + 1 => by
    rw [List.replicate_succ, List.replicate_succ]
    show (bools (List.replicate n (D.bl true))).map _ = _
    rw [bools_true n]; rfl
theorem name_k {N : Nat} {cs : List Nat} (h1 : 1 ≤ cs.length) (h8 : cs.length ≤ 8) (hc : ∀ c, c ∈ cs → 97 ≤ c ∧ c < 123) : ∀ S, m_is_name N [.str ⟨cs.toArray⟩] S = .ok (.bl true) S := by
  intro S
  have hs : signs ⟨cs.toArray⟩ = cs.map fun c => .str (oneS c) := by unfold signs; simp [oneS]
  have ht : isTy S .str (.str ⟨cs.toArray⟩) = some true := rfl
  have gm : ∀ (d : D) (e : En), Tg.m (.nm 1) d e = some (e.set 1 (some d)) := fun _ _ => rfl
  have hl : fLen S [.str ⟨cs.toArray⟩] = some (.int (cs.length : Nat)) := by
    have : lenD S (.str ⟨cs.toArray⟩) = some cs.length := by
      show (if (⟨cs.toArray⟩ : Str).length ≤ sizeLine then some _ else none) = _
      rw [if_pos (by rw [sizeLine_eq]; show cs.toArray.size ≤ _; simp; omega)]
      show some cs.toArray.size = _
      simp
    unfold fLen; simp only [this]; rfl
  have l1 : (1 : Int) ≤ (cs.length : Nat) := by omega
  have l8 : ((cs.length : Nat) : Int) ≤ 8 := by omega
  apply eq_of_w
  rw [m_is_name, wr_fnM, b_is_name]
  wp_walk using ht, Option.map_some, hl, l1, l8, hs
  refine lc_w (fun i acc S' => S' = S ∧ i ≤ cs.length ∧ acc = List.replicate i (D.bl true)) ⟨rfl, Nat.zero_le _, rfl⟩ ?_ ?_
  · rintro i d acc S' hd ⟨rfl, hi, rfl⟩
    rw [List.getElem?_map] at hd
    obtain ⟨c, hd2, rfl⟩ := Option.map_eq_some_iff.mp hd
    obtain ⟨c0, c1⟩ := hc c (List.mem_of_getElem? hd2)
    have hlt := (List.getElem?_eq_some_iff.mp hd2).1
    wp_walk using gm, let_in c0 c1, List.length_replicate
    exact ⟨by omega, hlt, by rw [← List.replicate_succ, List.replicate_succ']⟩
  · rintro acc S' ⟨rfl, hi, rfl⟩
    have ha : fAll S' [.lst (List.replicate (cs.map fun c => D.str (oneS c)).length (D.bl true))] = some (.bl true) := by
      show ((bools (List.replicate (cs.map fun c => D.str (oneS c)).length (D.bl true))).map fun bs => D.bl (bs.all id)) = _
      rw [bools_true]
      simp
    wp_walk using ha
def D27 (q : Rat) : Prop := ∃ k : Int, q * 27720 = (k : Rat)
theorem d27_0 : D27 0 := ⟨0, by grind⟩
theorem d27_1 : D27 1 := ⟨27720, by grind⟩
theorem D27.add {p q : Rat} (a : D27 p) (b : D27 q) : D27 (p + q) := by
  obtain ⟨k, hk⟩ := a
  obtain ⟨l, hl⟩ := b
  exact ⟨k + l, by push_cast; grind⟩
theorem D27.sub {p q : Rat} (a : D27 p) (b : D27 q) : D27 (p - q) := by
  obtain ⟨k, hk⟩ := a
  obtain ⟨l, hl⟩ := b
  exact ⟨k - l, by push_cast; grind⟩
theorem D27.div (a : Int) {b : Int} (b1 : 1 ≤ b) (b12 : b ≤ 12) : D27 (Rat.divInt a b) := by
  have hb : b = 1 ∨ b = 2 ∨ b = 3 ∨ b = 4 ∨ b = 5 ∨ b = 6 ∨ b = 7 ∨ b = 8 ∨ b = 9 ∨ b = 10 ∨ b = 11 ∨ b = 12 := by omega
  unfold D27
  rw [Rat.divInt_eq_div]
  rcases hb with rfl | rfl | rfl | rfl | rfl | rfl | rfl | rfl | rfl | rfl | rfl | rfl
  · exact ⟨a * 27720, by push_cast; grind⟩
  · exact ⟨a * 13860, by push_cast; grind⟩
  · exact ⟨a * 9240, by push_cast; grind⟩
  · exact ⟨a * 6930, by push_cast; grind⟩
  · exact ⟨a * 5544, by push_cast; grind⟩
  · exact ⟨a * 4620, by push_cast; grind⟩
  · exact ⟨a * 3960, by push_cast; grind⟩
  · exact ⟨a * 3465, by push_cast; grind⟩
  · exact ⟨a * 3080, by push_cast; grind⟩
  · exact ⟨a * 2772, by push_cast; grind⟩
  · exact ⟨a * 2520, by push_cast; grind⟩
  · exact ⟨a * 2310, by push_cast; grind⟩
theorem mul_den (q : Rat) : q * (q.den : Rat) = (q.num : Rat) := by
  have h := Rat.num_divInt_den q
  have hd : (q.den : Rat) ≠ 0 := by
    have := q.den_nz
    exact_mod_cast this
  have h2 : q = (q.num : Rat) / ((q.den : Int) : Rat) := by rw [← Rat.divInt_eq_div]; exact h.symm
  have e : ((q.den : Int) : Rat) = (q.den : Rat) := by norm_cast
  rw [e] at h2
  generalize hn : (q.num : Rat) = a at *
  generalize (q.den : Rat) = b at *
  rw [h2]
  rw [Rat.div_def, Rat.mul_assoc, Rat.inv_mul_cancel _ hd, Rat.mul_one]
theorem D27.bt {q : Rat} (h : D27 q) (q0 : 0 ≤ q) (q1 : q ≤ 1) : Bt q 15 := by
  obtain ⟨k, hk⟩ := h
  have e : q.num * 27720 = k * (q.den : Int) := by
    have h1 : (q.num : Rat) = q * (q.den : Rat) := (mul_den q).symm
    have : (((q.num * 27720 : Int)) : Rat) = ((k * (q.den : Int) : Int) : Rat) := by
      push_cast
      rw [h1, ← hk]
      grind
    exact_mod_cast this
  have d1 : (q.den : Int) ∣ q.num * 27720 := ⟨k, by rw [e]; exact Int.mul_comm _ _⟩
  have d2 : q.den ∣ q.num.natAbs * 27720 := by
    have := Int.natAbs_dvd_natAbs.mpr d1
    rw [Int.natAbs_mul] at this
    simpa using this
  have d3 : q.den ∣ 27720 := Nat.Coprime.dvd_of_dvd_mul_left q.reduced.symm d2
  have hd : q.den ≤ 27720 := Nat.le_of_dvd (by omega) d3
  have hn0 : 0 ≤ q.num := Rat.num_nonneg.mpr q0
  have hn1 : q.num ≤ (q.den : Int) := by
    have h1 : (q.num : Rat) = q * (q.den : Rat) := (mul_den q).symm
    have h2 : (0 : Rat) ≤ (q.den : Rat) := by exact_mod_cast Nat.zero_le _
    have h3 : q * (q.den : Rat) ≤ 1 * (q.den : Rat) := Rat.mul_le_mul_of_nonneg_right q1 h2
    rw [← h1, Rat.one_mul] at h3
    exact_mod_cast h3
  refine ⟨?_, ?_⟩
  · have : q.num.natAbs ≤ 27720 := by omega
    exact Nat.lt_of_le_of_lt this (by decide)
  · exact Nat.lt_of_le_of_lt hd (by decide)
theorem rateD_w {N : Nat} (hN : big N) {S : Store} {n : Nat} {Q X : QP D} (P : Pool S n) (h : ∀ q S', Bt q 5 → D27 q → 0 < q → q ≤ 1 → Pool S' n → Fr n S S' → Q (rD q) S') : Wr (m__law_rateS N [.loc n] S) Q X := by
  rw [m__law_rateS, wr_fnM, b__law_rateS]
  wp_walk using G.wr_ok
  refine take_w N P (by omega) (by omega) fun w S1 w0 w1 P1 F1 => ?_
  wp_walk using G.wr_ok
  refine take_w N P1 (by split <;> omega) (by split <;> omega) fun a S2 a0 a1 P2 F2 => ?_
  wp_walk using G.wr_ok
  rw [r_ok hN (n := 5) (by omega) (by omega) (by omega) (by omega)]
  have hu := rat_unit (p := 1 + a) (b := 1 + w) (by omega) (by split at a1 <;> omega)
  exact h _ _ (bt_div (m := 0) (by omega) (by omega) (by omega)) (D27.div _ (by omega) (by omega)) hu.1 hu.2 P2 (F1.trans F2)
theorem rateS_w {N : Nat} (hN : big N) {S : Store} {n : Nat} {Q X : QP D} (P : Pool S n) (h : ∀ q S', Bt q 5 → 0 < q → q ≤ 1 → Pool S' n → Fr n S S' → Q (rD q) S') : Wr (m__law_rateS N [.loc n] S) Q X := rateD_w hN P fun q S' b _ => h q S' b
theorem moment_w {N : Nat} (hN : big N) {S : Store} {n : Nat} {now : Rat} {B : Nat} {Q X : QP D} (P : Pool S n) (bn : Bt now B) (hB : B ≤ 4000) (n0 : 0 ≤ now) (h : ∀ q S', Bt q (B + 7) → now ≤ q → Pool S' n → Fr n S S' → Q (rD q) S') : Wr (m__law_moment N [.loc n, rD now] S) Q X := by
  rw [m__law_moment, wr_fnM, b__law_moment]
  wp_walk using G.wr_ok
  refine take_w N P (by omega) (by omega) fun a S1 a0 a1 P1 F1 => ?_
  wp_walk using G.wr_ok
  refine take_w N P1 (by omega) (by omega) fun b S2 b0 b1 P2 F2 => ?_
  wp_walk using G.wr_ok
  refine wr_at b0 (by simpa using b1) fun d hd => ?_
  obtain ⟨c, rfl, c1, c4⟩ : ∃ c : Int, d = .int c ∧ 1 ≤ c ∧ c ≤ 4 := by
    simp only [List.mem_cons, List.not_mem_nil, or_false] at hd
    rcases hd with rfl | rfl | rfl | rfl | rfl <;> exact ⟨_, rfl, by omega, by omega⟩
  have hq : 0 ≤ Rat.divInt a c := by
    rw [Rat.divInt_eq_div, Rat.div_def]
    refine Rat.mul_nonneg (by exact_mod_cast a0) ?_
    have := divz_nn (z := 1) (r := (c : Rat)) (by omega) (by exact_mod_cast (by omega : (0 : Int) ≤ c))
    rw [Rat.div_def] at this
    have e : ((1 : Int) : Rat) * (c : Rat)⁻¹ = (c : Rat)⁻¹ := by
      rw [show ((1 : Int) : Rat) = 1 from rfl, Rat.one_mul]
    rwa [e] at this
  have bq : Bt (Rat.divInt a c) 6 := bt_div (m := 0) (by omega) (by omega) (by omega)
  wp_walk using r_ok (S := S2) (t := a) (b := c) hN (n := 6) (by omega) (by omega) (by omega) (by omega), ladd_ok (S := S2) hN bn bq (by omega)
  exact h _ _ ((bn.add bq).mono (by omega)) (by grind) P2 (F1.trans F2)
def NmT (_ : Nat) (nm : Str) : Prop := nm.length ≤ 8 ∧ NmOk nm
theorem own_nm (N : Nat) : ∀ d, d ∈ [D.str "join", .str "ask", .str "leave", .str "least", .str "most", .str "weight", .str "go", .str "serve", .str "now", .str "share", .str "at", .str "none"] → ∃ nm, d = .str nm ∧ NmT N nm := by
  intro d hd
  simp only [List.mem_cons, List.not_mem_nil, or_false] at hd
  rcases hd with rfl | rfl | rfl | rfl | rfl | rfl | rfl | rfl | rfl | rfl | rfl | rfl <;> exact ⟨_, rfl, by decide +kernel, fun _ _ => rfl, by simp only [PyData.canLay0]; decide +kernel⟩
theorem sg26 : (signs LET).length = 26 := by unfold signs; rw [let_l]; simp
theorem cut7 {nm : Str} (h : nm.length ≤ 8) (S : Store) : ∃ y : Str, slD S (.str nm) none (some 7) = some (.str y) ∧ y.length ≤ 1000 := by
  refine ⟨L2.cutS nm none (some 7), ?_, ?_⟩
  · show (if nm.length ≤ sizeLine then _ else _) = _
    rw [if_pos (by rw [sizeLine_eq]; omega)]
  · exact Nat.le_trans (L2.cutS_length nm none (some 7)) (by omega)
theorem add_s {a b : Str} (h : a.length + b.length ≤ 1001) (S : Store) : dAddS S (.str a) (.str b) = some (.str (a ++ b)) := by
  show (if a.length + b.length ≤ sizeLine then _ else _) = _
  rw [if_pos (by rw [sizeLine_eq]; omega)]
theorem ok_let {cs : List Nat} (hc : ∀ c, c ∈ cs → 97 ≤ c ∧ c < 123) : (PyData.str ⟨cs.toArray⟩).canLay0 = true := by
  simp only [PyData.canLay0, PyData.strOk]
  rw [List.all_toArray]
  exact List.all_eq_true.mpr fun c h => decide_eq_true (by have := hc c h; omega)
theorem name_w {N : Nat} {S : Store} {n : Nat} {Q X : QP D} (P : Pool S n) (h : ∀ nm S', NmT N nm → Pool S' n → Fr n S S' → Q (.str nm) S') : Wr (m__law_name N [.loc n, .lst []] S) Q X := by
  have gm7 : ∀ (d : D) (e : En), Tg.m (.nm 7) d e = some (e.set 7 (some d)) := fun _ _ => rfl
  have gm5 : ∀ (d : D) (e : En), Tg.m (.nm 5) d e = some (e.set 5 (some d)) := fun _ _ => rfl
  have gm6 : ∀ (d : D) (e : En), Tg.m (.nm 6) d e = some (e.set 6 (some d)) := fun _ _ => rfl
  rw [m__law_name, wr_fnM, b__law_name]
  wp_walk using G.wr_ok
  refine take_w N P (by omega) (by omega) fun w S1 w0 w1 P1 F1 => ?_
  wp_walk using G.wr_ok
  refine wr_at w0 (by simpa using w1) fun d hd => ?_
  obtain ⟨nm, rfl, hnm⟩ := own_nm N d hd
  clear hd
  wp_walk using zstop, G.wr_ok
  refine ws_cut (fun e S' => Pool S' n ∧ Fr n S S' ∧ ∃ nm x2, NmT N nm ∧ e = [some (.loc n), some (.lst []), x2, some (.str nm), none, none, none, none]) ?_ ?_
  · wp_walk using G.wr_ok
    refine take_w N P1 (by omega) (by omega) fun u S2 u0 u1 P2 F2 => ?_
    by_cases hu : u > 0
    · wp_walk using hu
      refine take_w N P2 (by omega) (by omega) fun v S3 v0 v1 P3 F3 => ?_
      wp_walk using G.wr_ok
      refine ⟨by omega, ?_⟩
      refine lc_w (fun i acc S' => Pool S' n ∧ Fr n S S' ∧ ∃ cs : List Nat, acc = (cs.map fun c => D.str (oneS c)) ∧ cs.length = i ∧ ∀ c, c ∈ cs → 97 ≤ c ∧ c < 123) ⟨P3, (F1.trans F2).trans F3, [], rfl, rfl, fun c hc => by cases hc⟩ ?_ ?_
      · rintro i d acc S4 hd ⟨P4, F4, cs, rfl, hi, hc⟩
        wp_walk using gm7
        refine take_w N P4 (by omega) (by omega) fun a S5 a0 a1 P5 F5 => ?_
        obtain ⟨c, e1, c0, c1⟩ := let_at a0 a1 S5
        have hlt := (List.getElem?_eq_some_iff.mp hd).1
        rw [range_len] at hlt
        wp_walk using e1
        refine ⟨by rw [List.length_map]; omega, P5, F4.trans F5, cs ++ [c], by rw [List.map_append]; rfl, by simp [hi], fun c' hc' => ?_⟩
        rcases List.mem_append.mp hc' with z | z
        · exact hc c' z
        · simp only [List.mem_cons, List.not_mem_nil, or_false] at z
          subst z; exact ⟨c0, c1⟩
      · rintro acc S4 ⟨P4, F4, cs, rfl, hi, hc⟩
        rw [range_len] at hi
        have h1 : 1 ≤ cs.length := by omega
        have h8 : cs.length ≤ 8 := by omega
        wp_walk using join_ok h8
        exact ⟨P4, F4, _, _, ⟨by show cs.toArray.size ≤ 8; simpa using h8, fun N S => name_k h1 h8 hc S, ok_let hc⟩, rfl⟩
    · wp_walk using hu
      exact ⟨P2, F1.trans F2, _, _, hnm, rfl⟩
  · rintro e S2 ⟨P2, F2, nm, x2, hnm, rfl⟩
    wp_walk using G.wr_ok
    refine lc_w (fun i acc S' => S' = S2 ∧ i ≤ 26 ∧ ∃ ys : List Str, acc = ys.map D.str ∧ ys.length = i) ⟨rfl, Nat.zero_le _, [], rfl, rfl⟩ ?_ ?_
    · rintro i d acc S' hd ⟨rfl, hi, ys, rfl, hy⟩
      obtain ⟨c, rfl⟩ : ∃ c, d = .str (oneS c) := by
        unfold signs at hd
        rw [List.getElem?_map] at hd
        obtain ⟨c, _, rfl⟩ := Option.map_eq_some_iff.mp hd
        exact ⟨c, rfl⟩
      have hlt := (List.getElem?_eq_some_iff.mp hd).1
      rw [sg26] at hlt
      obtain ⟨y1, e1, l1⟩ := cut7 hnm.1 S'
      have e2 : dAddS S' (.str y1) (.str (oneS c)) = some (.str (y1 ++ oneS c)) := add_s (by show _ + 1 ≤ _; omega) S'
      wp_walk using gm5, e1, e2, List.length_map
      exact ⟨by omega, by omega, ys ++ [y1 ++ oneS c], by rw [List.map_append]; rfl, by simp [hy]⟩
    · rintro acc S' ⟨rfl, hi, ys, rfl, hy⟩
      obtain ⟨zs, hz, e3⟩ : ∃ zs : List Str, zs = nm :: ys ∧ dAddS S' (.lst [.str nm]) (.lst (ys.map D.str)) = some (.lst (zs.map D.str)) := by
        refine ⟨_, rfl, ?_⟩
        show (if _ then _ else _) = _
        rw [if_pos (by rw [sizeLine_eq, List.length_map, hy]; simp only [List.length_cons, List.length_nil]; omega)]
        rfl
      rw [sg26] at hy
      have hzl : zs.length = 27 := by rw [hz, List.length_cons, hy]
      wp_walk using e3
      refine lc_w (fun i acc S'' => S'' = S' ∧ i ≤ zs.length ∧ acc = (zs.take i).map D.str) ⟨rfl, Nat.zero_le _, rfl⟩ ?_ ?_
      · rintro i d acc S'' hd ⟨rfl, hi2, rfl⟩
        rw [List.getElem?_map] at hd
        obtain ⟨y, hd2, rfl⟩ := Option.map_eq_some_iff.mp hd
        have hlt := (List.getElem?_eq_some_iff.mp hd2).1
        have ei : dInL true S'' (.str y) (.lst []) = some (.bl true) := rfl
        wp_walk using gm6, ei, List.length_map
        exact ⟨by rw [List.length_take]; omega, hlt, by rw [List.take_add_one, hd2, List.map_append]; rfl⟩
      · rintro acc S'' ⟨rfl, hi2, rfl⟩
        rw [List.length_map, List.take_length]
        have e4 : ixD S'' (.lst (zs.map D.str)) (.int 0) = some (.str nm) := by
          rw [hz, ixD_lst]
          show L2.atI _ ((0 : Nat) : Int) = _
          exact L2.atI_nat rfl
        wp_walk using e4
        exact h nm S'' hnm P2 F2
end
end C
namespace C
open PySem G
noncomputable section
structure Nx (B c n W rs bt : Nat) (v1 : Sv) : Prop where
  ok : ∃ B' n', SvOk B' (c + 1) n' v1 ∧ B ≤ B' ∧ B' + 26 * v1.abs.W ≤ max B bt + 26 * W + 26 ∧ n' + v1.abs.W ≤ n + W + 2
  sm : Sml rs v1
end
end C
namespace C
open PySem G
noncomputable section
def RowOk (d : D) : Prop := ∃ (w : Str) (t : Rat) (rest : List D), d = .tup (.str w :: rD t :: rest) ∧ Cmp d ∧ (w = "join" → ∃ nm r', rest = .str nm :: r' ∧ NmOk nm)
structure Iv (v : Sv) : Prop where
  nms : ∀ p, p ∈ v.seats → NmOk p.2.2.name
  rows : ∀ d, d ∈ v.rows → RowOk d
end
end C
namespace C
open PySem G
end C
namespace C
open PySem G
end C
namespace C
open PySem G
end C
namespace C
open PySem G
noncomputable section
structure J (m : Nat) (v : Sv) (o : Ow) : Prop where
  al : Al v o
  iv : Iv v
  sm : Sml 5 v
  ex : ∃ B n, SvOk B m n v ∧ BO B m o ∧ 31 ≤ B ∧ B + 26 * v.abs.W ≤ 31 + 34 * m ∧ n + v.abs.W ≤ 2 * m
theorem J.mono {m m' : Nat} {v : Sv} {o : Ow} (j : J m v o) (h : m ≤ m') : J m' v o := by
  obtain ⟨B, n, k1, k2, k3, k4, k5⟩ := j.ex
  exact ⟨j.al, j.iv, j.sm, B, n, k1.mono (Nat.le_refl _) h (Nat.le_refl _), k2.mono (Nat.le_refl _) h, k3, by omega, by omega⟩
end
end C
namespace C
open PySem G
end C
namespace C
open PySem G
structure PS (S : Store) (n : Nat) (L : HL) : Prop where
  P : Pool S n
  s : Sep S L
  a : n ∉ L.map (·.1)
theorem PS.ex {S : Store} {n : Nat} {L : HL} (h : PS S n L) : ∃ c, Sep S (L ++ [(n, c)]) ∧ ∀ S' L', Sep S' (L' ++ [(n, c)]) → PS S' n L' := by
  obtain ⟨x, y, z, hS, r⟩ := h.P
  refine ⟨_, (h.s.cons hS h.a).perm (List.perm_append_comm (l₁ := [_])), fun S' L' h' => ⟨⟨x, y, z, h'.get (by simp), r⟩, h'.left, fun z => ?_⟩⟩
  have nd := h'.2
  rw [List.map_append] at nd
  exact (List.nodup_append.mp nd).2.2 n z n (by simp) rfl
def F0 (s r : Nat) : HL := [(s, .obj 37 [(36, .loc r)]), (0, .tbl mk_picked_of.1 mk_picked_of.2)]
theorem PS.new {S : Store} {n : Nat} {L : HL} (h : PS S n L) (c : Cell) : PS (S ++ [c]) n ((S.length, c) :: L) := by
  obtain ⟨x, y, z, hS, r⟩ := h.P
  have hl := (List.getElem?_eq_some_iff.mp hS).1
  refine ⟨⟨x, y, z, by rw [List.getElem?_append_left hl]; exact hS, r⟩, h.s.new0 c, fun q => ?_⟩
  rw [List.map_cons] at q
  rcases List.mem_cons.mp q with q | q
  · omega
  · exact h.a q
theorem PS.perm {S : Store} {n : Nat} {L L' : HL} (h : PS S n L) (p : L.Perm L') : PS S n L' := ⟨h.P, h.s.perm p, fun q => h.a ((p.map _).mem_iff.mpr q)⟩
theorem PS.sub {S : Store} {n : Nat} {L L' : HL} (h : PS S n L) (p : L'.Sublist L) : PS S n L' := ⟨h.P, h.s.sub p, fun q => h.a ((p.map _).subset q)⟩
theorem fresh_sep (T : Store) (hT : T[0]? = some (.tbl mk_picked_of.1 mk_picked_of.2)) {S2 : Store} (h2 : S2 = (T ++ [srvC (Sv.new (T.length + 1)), (Sv.new (T.length + 1)).roomC, .lst [], .lst [], .lst [], .lst [], .obj 34 [(9, .loc (T.length + 7))], .dk []]) ++ [.lst [], .lst [], .lst [], .dk (Ow.new (T.length + 8)).K]) :
    Sep S2 ((Ow.new (T.length + 8)).H ++ ((Sv.new (T.length + 1)).H ++ F0 T.length (T.length + 1))) := by
  have hl : 0 < T.length := (List.getElem?_eq_some_iff.mp hT).1
  have g : ∀ i, i < 12 → S2[T.length + i]? = [srvC (Sv.new (T.length + 1)), (Sv.new (T.length + 1)).roomC, .lst [], .lst [], .lst [], .lst [], .obj 34 [(9, .loc (T.length + 7))], .dk [], .lst [], .lst [], .lst [], .dk (Ow.new (T.length + 8)).K][i]? := fun i hi => by
    rw [h2, List.append_assoc, List.getElem?_append_right (by omega)]
    rw [Nat.add_sub_cancel_left]; rfl
  refine ⟨fun p hp => ?_, ?_⟩
  · have hp' : p ∈ [((T.length + 8 + 3, Cell.dk (Ow.new (T.length + 8)).K) : Nat × Cell), (T.length + 8, .lst []), (T.length + 8 + 1, .lst []), (T.length + 8 + 2, .lst []), (T.length + 1, (Sv.new (T.length + 1)).roomC), (T.length + 1 + 1, .lst []), (T.length + 1 + 2, .lst []), (T.length + 1 + 3, .lst []), (T.length + 1 + 4, .lst []), (T.length + 1 + 5, .obj 34 [(9, .loc (T.length + 1 + 6))]), (T.length + 1 + 6, .dk []), (T.length, .obj 37 [(36, .loc (T.length + 1))]), (0, .tbl mk_picked_of.1 mk_picked_of.2)] := hp
    simp only [List.mem_cons, List.not_mem_nil, or_false] at hp'
    rcases hp' with rfl | rfl | rfl | rfl | rfl | rfl | rfl | rfl | rfl | rfl | rfl | rfl | rfl
    · exact g 11 (by omega)
    · exact g 8 (by omega)
    · exact g 9 (by omega)
    · exact g 10 (by omega)
    · exact g 1 (by omega)
    · exact g 2 (by omega)
    · exact g 3 (by omega)
    · exact g 4 (by omega)
    · exact g 5 (by omega)
    · exact g 6 (by omega)
    · exact g 7 (by omega)
    · exact g 0 (by omega)
    · rw [h2, List.append_assoc, List.getElem?_append_left hl]; exact hT
  · show ([T.length + 8 + 3, T.length + 8, T.length + 8 + 1, T.length + 8 + 2, T.length + 1, T.length + 1 + 1, T.length + 1 + 2, T.length + 1 + 3, T.length + 1 + 4, T.length + 1 + 5, T.length + 1 + 6, T.length, 0] : List Nat).Nodup
    simp only [List.nodup_cons, List.mem_cons, List.not_mem_nil, or_false, not_false_eq_true, List.nodup_nil, and_true]
    omega
theorem j0 (t a : Nat) : J 0 (Sv.new t) (Ow.new a) := by
  refine ⟨⟨rfl, rfl, rfl, rfl, RB.nil⟩, ⟨fun p hp => (by cases hp), fun d hd => (by cases hd)⟩, fun p hp => (by cases hp), 31, 0, ⟨bt_0.mono (by omega), bt_0.mono (by omega), bt_0.mono (by omega), by show (0 : Rat) ≤ 0; decide, by show (0 : Rat) ≤ 0; decide, by show (0 : Rat) ≤ 0; decide, fun p hp => (by cases hp), Nat.zero_le _, List.nodup_nil, fun p hp => (by cases hp), List.nodup_nil, fun p hp => (by cases hp), rfl, Nat.le_refl _, Nat.le_refl _, ⟨List.nodup_nil, Nat.le_refl _, Nat.le_refl _, fun x hx => (by cases hx)⟩⟩, ⟨Nat.le_refl _, fun b hb => (by cases hb)⟩, Nat.le_refl _, Nat.le_refl _, Nat.le_refl _⟩
end C
namespace C
open PySem G
noncomputable section
def b_show_ratio (N : Nat) : SM := (sSeq (sDrop (eCall (m_check_ratio N) (nA 1 (aCons (eVar 0) aNil))))
    (sSeq (sAsg (eVar 0) (gTp 2 (gsCons' (gN 1) (gsCons' (gN 2) gsNil))))
    (sSeq (sIf (tB (eBin dEq (eVar 2) (eC (.int 1)))) (sRet (eCa fStr (aCons (eVar 1) aNil))) sNop)
    (sRet (eJs [(eFmt (eVar 1)), (eC (.str "/")), (eFmt (eVar 2))])))))
def m_show_ratio (N : Nat) : FM := fnM 3 (b_show_ratio N)
theorem dNe_rD (p q : Rat) : dNe (rD p) (rD q) = some (.bl (decide (p ≠ q))) := by
  have h1 : dEq (rD p) (rD q) = some (.bl (decide (p = q))) := dEq_rD p q
  unfold dEq at h1
  unfold dNe
  cases h : eqD (rD p) (rD q) with
  | none => rw [h] at h1; cases h1
  | some b =>
    rw [h] at h1
    have : b = decide (p = q) := by
      have := Option.some.inj h1
      injection this
    subst this
    show some (D.bl (!decide (p = q))) = _
    by_cases c : p = q <;> simp [c]
abbrev S_ (l : List Nat) : Str := SX.S l
def numI (i : Int) : List Nat := if i < 0 then 45 :: TL.numL i.natAbs else TL.numL i.natAbs
theorem str_I (i : Int) : (toString i : Str) = S_ (numI i) := by
  unfold numI
  cases i with
  | ofNat n =>
    rw [if_neg (by simp)]
    exact SX.num_S n
  | negSucc n =>
    rw [if_pos (Int.negSucc_lt_zero n)]
    have e : (toString (Int.negSucc n) : String) = "-" ++ toString (((n + 1 : Nat) : Int)) := rfl
    have k := SX.num_S (n + 1)
    rw [Str.ofString_eq_toList] at k
    have k2 := SX.S_inj k
    show Str.ofString (toString (Int.negSucc n)) = _
    rw [e, Str.ofString_eq_toList, String.toList_append, List.map_append, k2]
    rfl
def tq (q : Rat) : List Nat := numI q.num ++ (if q.den = 1 then [] else 47 :: TL.numL q.den)
theorem numI_len {i : Int} {k : Nat} (hk : 0 < k) (h : i.natAbs < 10 ^ k) : (numI i).length ≤ k + 1 := by
  have := TL.numL_len hk h
  unfold numI
  split
  · rw [List.length_cons]; omega
  · omega
theorem log_small {i : Int} (h : i.natAbs < 2 ^ 250) : i.natAbs.log2 < 1920 := Nat.lt_of_lt_of_le (log2_lt h (by omega)) (by omega)
theorem fStr_I {i : Int} (h : i.natAbs < 2 ^ 250) (S0 : Store) : fStr S0 [.int i] = some (.str (S_ (numI i))) := by
  show (if i.natAbs.log2 < 1920 then some (D.str (toString i)) else none) = _
  rw [if_pos (log_small h), str_I]
theorem fmt_I {i : Int} (h : i.natAbs < 2 ^ 250) : fmtD (.int i) = some (.str (S_ (numI i))) := by
  show (if i.natAbs.log2 < 1920 then some (D.str (toString i)) else none) = _
  rw [if_pos (log_small h), str_I]
theorem sl_S : ("/" : Str) = S_ [47] := by decide +kernel
theorem pow76 : (2 : Nat) ^ 250 ≤ 10 ^ 76 := by decide
theorem numI_b {i : Int} (h : i.natAbs < 2 ^ 250) : (numI i).length ≤ 77 := numI_len (by omega) (Nat.lt_of_lt_of_le h pow76)
theorem showR_ok {N : Nat} (hN : big N) {q : Rat} (h : Bt q 250) (S0 : Store) : m_show_ratio N [rD q] S0 = .ok (.str (S_ (tq q))) S0 := by
  have hd : ((q.den : Int)).natAbs < 2 ^ 250 := by simpa using h.2
  have l1 := numI_b h.1
  have l2 := numI_b hd
  have e2 : numI (q.den : Int) = TL.numL q.den := by unfold numI; rw [if_neg (by omega)]; rfl
  apply eq_of_w
  rw [m_show_ratio, wr_fnM, b_show_ratio]
  unfold tq
  by_cases c : (q.den : Int) = 1
  · have c' : q.den = 1 := by omega
    wp_walk using chk_ok hN h (by omega), fStr_I h.1, c, c'
  · have c' : ¬ q.den = 1 := by omega
    have ee : Str.empty = S_ [] := rfl
    have k0 : (Str.empty ++ S_ (numI q.num)) = S_ (numI q.num) := by rw [ee, SX.S_cat]; rfl
    have l0 : (S_ (numI q.num)).length ≤ sizeLine := by rw [SX.S_len, sizeLine_eq]; omega
    have l1 : (S_ (numI q.num) ++ S_ [47]).length ≤ sizeLine := by rw [SX.S_cat, SX.S_len, sizeLine_eq]; simp only [List.length_append, List.length_cons, List.length_nil]; omega
    have l2 : (S_ (numI q.num) ++ S_ [47] ++ S_ (numI (q.den : Int))).length ≤ sizeLine := by rw [SX.S_cat, SX.S_cat, SX.S_len, sizeLine_eq]; simp only [List.length_append, List.length_cons, List.length_nil]; omega
    rw [sizeLine_eq] at l0 l1 l2
    wp_walk using chk_ok hN h (by omega), c, fmt_I h.1, fmt_I hd, sl_S, k0, l0, l1, l2, c'
    rw [SX.S_cat, SX.S_cat, e2, List.append_assoc]
    rfl
end
end C
namespace C
open PySem G
theorem let_inD (c : Nat) (S : Store) : dIn false S (.str (oneS c)) (.str LET) = some (.bl (decide (97 ≤ c ∧ c < 123))) := by
  show some (D.bl (decide (c ∈ LET.cps.toList))) = _
  rw [let_l]
  congr 2
  by_cases h : 97 ≤ c ∧ c < 123
  · rw [decide_eq_true h, decide_eq_true (List.mem_range'_1.mpr ⟨h.1, by omega⟩)]
  · rw [decide_eq_false h, decide_eq_false fun z => h ?_]
    have := List.mem_range'_1.mp z
    exact ⟨this.1, by omega⟩
theorem bools_mapC (f : Nat → Bool) : ∀ a : List Nat, bools (a.map fun c => D.bl (f c)) = some (a.map f)
  | [] => rfl
  | c :: a => by
    show (bools (a.map fun c => D.bl (f c))).map _ = _
    rw [bools_mapC f a]; rfl
end C
namespace C
open PySem G
end C
namespace C
open PySem G
structure J2 (b c nn : Nat) (v : Sv) (o : Ow) : Prop where
  al : Al v o
  iv : Iv v
  sm : Sml 5 v
  ex : ∃ B n, SvOk B c n v ∧ BO B c o ∧ 31 ≤ B ∧ B + 26 * v.abs.W ≤ b ∧ n + v.abs.W ≤ nn
theorem J2.mono {b b' c c' nn nn' : Nat} {v : Sv} {o : Ow} (j : J2 b c nn v o) (hb : b ≤ b') (hc : c ≤ c') (hn : nn ≤ nn') : J2 b' c' nn' v o := by
  obtain ⟨B, n, k1, k2, k3, k4, k5⟩ := j.ex
  exact ⟨j.al, j.iv, j.sm, B, n, k1.mono (Nat.le_refl _) hc (Nat.le_refl _), k2.mono (Nat.le_refl _) hc, k3, by omega, by omega⟩
end C
local macro_rules | `(tactic| wp_walk using $ts,*) => (let es := ts.getElems; let k := (es[0]!).raw.getId; let all : Array Lean.Name := #[`G.wr_ok, `G.wr_exc, `G.wr_lf, `G.wr_eC, `G.evQ_some, `G.wr_eVar, `G.cB2_s, `G.cB1_s, `G.wr_eBin, `G.cS2_s, `G.cS1_s, `G.wr_eBinS, `G.asQ_bl, `G.wr_tB, `G.truQ_s, `G.wr_tT, `G.notQ_s, `G.wr_tNt, `G.anQ_t, `G.anQ_f, `G.wr_tAn, `G.orQ_t, `G.orQ_f, `G.wr_tOr, `G.eaB_t, `G.eaB_f, `G.eaQ_s, `G.wr_eAn, `G.eoB_t, `G.eoB_f, `G.eoQ_s, `G.wr_eOr, `G.enB_s, `G.enQ_s, `G.wr_eNt, `G.eiQ_t, `G.eiQ_f, `G.wr_eIf, `G.negQ_int, `G.wr_eNeg, `G.wr_aNil, `G.cC2_s, `G.cC1_s, `G.wr_aCons, `G.tupQ_s, `G.lstQ_s, `G.newQ_s, `G.wr_eTup, `G.wr_eLst, `G.wr_eNew, `G.caQ_s, `G.wr_eCa, `G.clQ_s, `G.wr_eCall, `G.nAQ_s, `G.wr_nA, `G.tyQ_s, `G.wr_eIsTy, `G.icQ_s, `G.wr_eIsC, `G.mt2_s, `G.mt1_s, `G.wr_eMt, `G.wr_oNone, `G.oQ_int, `G.wr_oSome, `G.sl3_s, `G.sl2_s, `G.sl1_s, `G.wr_eSl, `G.kk2_s, `G.kk1_s, `G.wr_eCallK, `G.kk0_s, `G.wr_eCallK0, `G.wr_gN, `G.sb3_s, `G.sb2_s, `G.sb1_s, `G.wr_gSb, `G.wr_gsNil, `G.gs1_s, `G.wr_gsCons, `G.wr_gTp, `G.wr_gTp_rD, `G.xe_s, `G.sq_nx, `G.sq_rt, `G.sq_bk, `G.sq_ct, `G.sq_ex, `G.sq_xe, `G.ws_nxt, `G.ws_sNop, `G.ws_sSeq, `G.ws_sBrk, `G.ws_sCnt, `G.dropQ_s, `G.ws_sDrop, `G.ws_sRet, `G.ws_sRetN, `G.ifQ_t, `G.ifQ_f, `G.ws_sIf, `G.asg1_s, `G.ws_sAsg, `G.setQ_s, `G.ws_sSet, `G.parQ_s, `G.ws_sPar, `G.ws_sRaise, `G.fn_nx, `G.fn_rt, `G.fn_ex, `G.fn_xe, `G.su_nx, `G.su_bk, `G.su_ct, `G.su_rt, `G.trQ_t, `G.trQ_f, `G.tr_nx, `G.tr_rt, `G.tr_bk, `G.tr_ct, `G.tr_ex, `G.ws_sTry, `G.forQ_s, `G.ws_sFor, `G.lp_nx, `G.lp_rt, `G.lp_bk, `G.lp_ct, `G.lp_ex, `G.lp_xe, `G.ws_fi_nil, `G.bodyQ_s, `G.mid_nx, `G.mid_rt, `G.mid_bk, `G.mid_ct, `G.mid_ex, `G.mid_xe, `G.lc2_s, `G.lc1_s, `G.wr_eLc, `G.lcn2_s, `G.lcn1_s, `G.wr_eLcN, `G.wipe_nil, `G.wipe_cons, `G.wr_tTrue, `G.wr_lc_nil, `G.tgQ_some, `G.ly_s, `G.lt1_t, `G.lt1_f, `G.lg_s, `G.eqQ_s, `G.exQ_s, `G.seqQ_tup, `G.seqQ_lst, `G.seqQ_scr, `G.seqQ_rD, `G.wr_iSeq, `G.rgQ_int, `G.wr_iRg1, `G.rgQ2_int, `G.wr_iRg2, `G.ch3_t, `G.ch3_f, `G.ch2_s, `G.ch1_s, `G.wr_eChain, `G.flQ_s, `G.wr_eFld, `G.fldD_ins, `G.stQ_s, `G.sf2_s, `G.sf1_s, `G.ws_sFldM, `G.mkQ2_s, `G.mkQ1_s, `G.wr_eMk, `G.wr_eMk0, `G.ap2_s, `G.ap1_s, `G.wr_eApp, `G.zpQ_s, `G.wr_iZip, `G.zipR_tup, `G.zipR_lst, `G.srQ_s, `G.wr_iStrM, `G.strR_s, `G.ioQ_s, `G.wr_eIsO, `G.dAddS_int, `G.wr_gStr_tup, `G.wr_gStr_lst, `G.fTuple_lst, `G.fTuple_tup, `List.take_succ_cons, `List.take_zero, `List.drop_succ_cons, `List.drop_zero, `List.getElem?_cons_zero, `List.getElem?_cons_succ, `List.set_cons_zero, `List.set_cons_succ, `List.map_cons, `List.map_nil, `List.length_cons, `List.length_nil, `List.cons_append, `List.nil_append, `List.replicate_succ, `List.replicate_zero, `List.append_nil, `true_and, `and_true, `and_self, `if_true, `ite_true, `if_false, `ite_false, `Bool.false_eq_true, `Bool.not_true, `Bool.not_false, `Bool.not_not, `decide_true, `decide_false, `decide_eq_true_eq, `not_false_eq_true, `not_true_eq_false, `reduceCtorEq, `PySem.sizeLine_eq, `Option.map_some, `Option.some.injEq, `Nat.reduceSub, `Nat.reduceAdd, `Nat.reduceLeDiff, `Nat.reduceEqDiff, `Nat.zero_add, `Nat.reduceBEq, `List.contains_cons, `List.contains_nil, `beq_self_eq_true, `Bool.true_or, `Bool.or_true, `Bool.false_or, `Bool.or_false, `List.lookup_cons, `List.lookup_nil, `Int.reduceEq, `Int.reduceNe, `Int.reduceLT, `Int.reduceLE, `Int.reduceNeg, `Int.reduceAdd, `Int.reduceSub, `Int.cast_ofNat_Int, `ne_eq, `G.cmpI_s, `G.dGt, `G.dGe, `G.dLt, `G.dLe, `G.dAdd_int, `G.dSub_int, `G.dEq_int, `G.dNe_int, `G.dEq_bl, `G.dNe_bl, `G.truD_bl, `G.isTy_int, `G.isTy_bl, `G.isTy_tup, `G.fLen_tup, `G.fLen_scr, `G.fLen_lst, `G.fAbs_int, `G.fMax_int, `G.fMin_int, `G.ixD_tup, `G.ixD_lst, `G.ixD_scr, `G.isTy_rD, `G.fLen_rD, `G.ix_rD0, `G.ix_rD1, `G.dEq_rD, `G.dNe_rD, `G.dIs_rD, `G.dIsNot_rD, `G.Tn.is, `G.me3_s, `G.me2_s, `G.me1_s, `G.wr_eMeth, `G.mk2_s, `G.mk1_s, `G.wr_eMethK, `G.m01_s, `G.wr_eMeth0, `G.wr_eNewD, `G.dg3_s, `G.dg2_s, `G.dg1_s, `G.wr_eDGet2, `G.dh2_s, `G.dh1_s, `G.wr_eDGet1, `G.dp3_s, `G.dp2_s, `G.dp1_s, `G.wr_eDPop2, `G.dq2_s, `G.dq1_s, `G.wr_eDPop1, `G.se2_s, `G.se1_s, `G.wr_gSbE, `G.ssQ_s, `G.wr_eSortSet, `G.an2_s, `G.an1_s, `G.wr_eAddN, `G.celQ_tup, `G.celQ_lst, `G.celQ_scr, `G.wr_iCel, `G.forcQ_s, `G.ws_sForC, `G.lcc1_s, `G.wr_eLcC, `G.lcd1_s, `G.wr_eLcCN, `G.keyD_int, `G.keyD_str, `Option.isSome_some, `G.fmQ_s, `G.wr_eFmt, `G.jsQ_str, `G.wr_js_nil, `G.wr_js_cons, `G.wr_eJs, `G.s4Q_str, `G.soQ_s, `G.wr_eStrO, `G.dAddE_0, `G.wr_eCallV, `G.chQ_s, `G.wr_eCallH, `G.wr_lamF, `G.oj_s, `G.enuQ_s, `G.wr_iEnum, `G.enR_tup, `G.enR_lst, `G.lrQ_int, `G.wr_eLr, `G.lrnQ_int, `G.wr_eLrN, `G.agQ_s, `G.auP_s, `G.ws_sAug, `G.augR_int, `G.pp2_s, `G.pp1_s, `G.wr_ePop, `G.wr_gSq_tup, `G.wr_gSq_lst, `G.lnQ_lst, `G.lnQ_tup, `G.wr_eListN, `G.rvQ_lst, `G.wr_eRev, `G.rfQ_s, `G.ws_sRaiseF, `G.trG_nx, `G.trG_rt, `G.trG_bk, `G.trG_ct, `G.trG_ex, `G.ws_sTryG, `G.ws_hd_nil, `G.hdP_t, `G.hdP_f, `G.ws_hd_cons, `G.setO_some, `G.setO_none, `G.ws_suS, `G.suN_nx, `G.suN_rt, `G.suN_bk, `G.suN_ct, `G.ws_suN, `G.iyQ_s, `G.wr_eIsY, `G.isY_exc, `G.fyQ_s, `G.wr_eFldY, `G.fldY_exc, `G.toQ_s, `G.wr_eIsTyO, `G.isTyO_tup, `G.isTyO_lst, `G.isTyO_int, `G.tm2_s, `G.tm1_s, `G.wr_eTm, `G.rgQN_int, `G.wr_iRgN, `G.gf1_s, `G.wr_gFl, `G.as3_s, `G.as2_s, `G.as1_s, `G.ws_sAsg3, `G.at1_s, `G.ws_sAsg2, `G.ws_sFldA, `G.ds3_s, `G.ds2_s, `G.ds1_s, `G.wr_eDSetd, `G.dispQ_s, `G.wr_eDisp, `G.rm2_s, `G.rm1_s, `G.wr_eRem, `G.parQ3_s, `G.ws_sPar3, `G.th_nx, `G.th_rt, `G.th_xe, `G.wr_iDv, `G.wr_iDi, `G.wr_iDk, `G.wr_iTk, `G.wr_eTs1, `G.tu2_s, `G.tu1_s, `G.wr_eTsU, `G.dct1_s, `G.dcQ_s, `G.wr_eDcT, `G.dt1_t, `G.dt1_f, `G.dgg_s, `G.eqOb_t, `G.eqOb_f, `G.eqO2_s, `G.eqO1_s, `G.wr_eEqO, `G.in2_s, `G.in1_s, `G.wr_eIns]; let cut : Nat := if k == `zstop || k == `zust then 1 else if k == `zstf then 2 else if k == `zstq then 3 else 0; let sel := all.filter fun n => !((cut == 1 && n == `G.ws_sIf) || (cut == 2 && (n == `G.ws_sIf || n == `G.ws_sFor || n == `G.ws_sForC)) || (cut == 3 && n.getString!.startsWith "ws_")); let ids : Lean.TSyntaxArray `term := sel.map fun n => ⟨(Lean.mkIdent n).raw⟩; let r1 : Lean.TSyntaxArray `term := ids ++ es.extract 1 es.size; let r2 : Lean.TSyntaxArray `term := ids ++ es.extract 2 es.size; let r0 : Lean.TSyntaxArray `term := ids ++ es; if k == `zust || k == `zuse then `(tactic| (have hq0 := $(es[1]!); simp only [$[$r2:term],*] at hq0; exact hq0)) else if cut == 0 then `(tactic| try simp only [$[$r0:term],*]) else `(tactic| try simp only [$[$r1:term],*]))
namespace C
open PySem G
end C
namespace C
open PySem G
end C
namespace C
open PySem G
noncomputable section
structure SpB (bs : List Rw) (s : Rat) (R : List Rat) : Prop where
  lt : R.Pairwise (· < ·)
  mem : ∀ t, t ∈ R ↔ t = s ∨ (s < t ∧ ∃ b, b ∈ bs ∧ b.2.1 = t)
  len : R.length ≤ bs.length + 1
theorem insB {R : List Rat} (lt : R.Pairwise (· < ·)) {q : Rat} (hq : q ∉ R) : (R.take (R.filter fun u => decide (u < q)).length ++ [q] ++ R.drop (R.filter fun u => decide (u < q)).length).Pairwise (· < ·) := by
  induction R with
  | nil => simp
  | cons a R ih =>
    obtain ⟨p1, p2⟩ := List.pairwise_cons.mp lt
    have hqR : q ∉ R := fun z => hq (List.mem_cons_of_mem _ z)
    have hqa : q ≠ a := fun z => hq (by rw [z]; exact List.mem_cons_self)
    by_cases c : a < q
    · rw [List.filter_cons, if_pos (by simpa using c), List.length_cons, List.take_succ_cons, List.drop_succ_cons]
      have h := ih p2 hqR
      rw [List.cons_append, List.cons_append]
      refine List.pairwise_cons.mpr ⟨fun y hy => ?_, h⟩
      rcases List.mem_append.mp hy with hy | hy
      · rcases List.mem_append.mp hy with hy | hy
        · exact p1 y (List.mem_of_mem_take hy)
        · rw [List.mem_singleton.mp hy]; exact c
      · exact p1 y (List.mem_of_mem_drop hy)
    · have e : ((a :: R).filter fun u => decide (u < q)) = [] := List.filter_eq_nil_iff.mpr fun u hu => by
        rcases List.mem_cons.mp hu with rfl | hu
        · simpa using c
        · have := p1 u hu
          simp; grind
      rw [e]
      show ([] ++ [q] ++ (a :: R)).Pairwise (· < ·)
      rw [List.nil_append]
      refine List.pairwise_cons.mpr ⟨fun y hy => ?_, lt⟩
      rcases List.mem_cons.mp hy with rfl | hy
      · grind
      · have := p1 y hy; grind
theorem ins_mem {R : List Rat} {q t : Rat} (k : Nat) : t ∈ R.take k ++ [q] ++ R.drop k ↔ t = q ∨ t ∈ R := by
  have h : t ∈ R ↔ t ∈ R.take k ∨ t ∈ R.drop k := by
    rw [← List.mem_append, List.take_append_drop]
  rw [h]
  simp only [List.mem_append, List.mem_singleton]
  constructor
  · rintro ((h | h) | h)
    · exact .inr (.inl h)
    · exact .inl h
    · exact .inr (.inr h)
  · rintro (h | h | h)
    · exact .inl (.inr h)
    · exact .inl (.inl h)
    · exact .inr h
end
end C
namespace C
open PySem G
noncomputable section
theorem SpB.nil (s : Rat) : SpB [] s [s] := ⟨by simp, fun t => by simp, Nat.le_refl _⟩
theorem SpB.ins {bs : List Rw} {s : Rat} {R : List Rat} (h : SpB bs s R) {b : Rw} (hb : s < b.2.1) (hn : b.2.1 ∉ R) : SpB (bs ++ [b]) s (R.take (R.filter fun u => decide (u < b.2.1)).length ++ [b.2.1] ++ R.drop (R.filter fun u => decide (u < b.2.1)).length) := by
  refine ⟨insB h.lt hn, fun t => ?_, ?_⟩
  · rw [ins_mem, h.mem]
    constructor
    · rintro (e | e | ⟨e, x, hx, ex⟩)
      · subst e; exact .inr ⟨hb, b, by simp, rfl⟩
      · exact .inl e
      · exact .inr ⟨e, x, List.mem_append_left _ hx, ex⟩
    · rintro (e | ⟨e, x, hx, ex⟩)
      · exact .inr (.inl e)
      · rcases List.mem_append.mp hx with hx | hx
        · exact .inr (.inr ⟨e, x, hx, ex⟩)
        · rw [List.mem_singleton.mp hx] at ex
          exact .inl ex.symm
  · have := h.len
    rw [List.length_append, List.length_append, List.length_take, List.length_drop, List.length_append, List.length_singleton, List.length_singleton]
    omega
end
end C
namespace C
open PySem G
noncomputable section
theorem sumB_sF (bs : List Rw) (t : Rat) (but : Option Int) : sumB bs t but = sF (gB but fun i => lawT bs i t) ((knB bs t).map (·.1)) := by
  unfold sumB
  rw [fold_pr (fun p : Int × Rat => p.1) (fun p => p.2) but (fun i => lawT bs i t) (knB bs t) 0 (knB_ok bs t).2.1]
  grind
theorem sF_mono {g h : Int → Rat} : ∀ {A : List Int}, (∀ i, i ∈ A → g i ≤ h i) → sF g A ≤ sF h A
  | [], _ => Rat.le_refl
  | i :: A, e => by
    rw [sF_cons, sF_cons]
    have a := e i List.mem_cons_self
    have b := sF_mono (A := A) fun j hj => e j (List.mem_cons_of_mem _ hj)
    grind
theorem lawT_all {P : Rat → Prop} (h0 : P 0) {bs : List Rw} (h : ∀ b, b ∈ bs → P b.2.2) (i : Int) (t : Rat) : P (lawT bs i t) := by
  unfold lawT
  generalize (0 : Rat) = z at h0
  induction bs generalizing z with
  | nil => exact h0
  | cons b bs ih =>
    rw [List.foldl_cons]
    refine ih (fun x hx => h x (List.mem_cons_of_mem _ hx)) _ ?_
    split
    · exact h b List.mem_cons_self
    · exact h0
theorem sF_all {P : Rat → Prop} (h0 : P 0) (ha : ∀ p q, P p → P q → P (p + q)) {g : Int → Rat} (h : ∀ i, P (g i)) : ∀ A : List Int, P (sF g A)
  | [] => h0
  | i :: A => by rw [sF_cons]; exact ha _ _ (h i) (sF_all h0 ha h A)
theorem sumB_all {P : Rat → Prop} (h0 : P 0) (ha : ∀ p q, P p → P q → P (p + q)) {bs : List Rw} (h : ∀ b, b ∈ bs → P b.2.2) (t : Rat) (but : Option Int) : P (sumB bs t but) := by
  rw [sumB_sF]
  refine sF_all h0 ha (fun i => ?_) _
  unfold gB
  split
  · exact h0
  · exact lawT_all h0 h i t
theorem sumB_but {bs : List Rw} (h : ∀ b, b ∈ bs → 0 ≤ b.2.2) (t : Rat) (but : Option Int) : sumB bs t but ≤ sumB bs t none := by
  rw [sumB_sF, sumB_sF]
  refine sF_mono fun i _ => ?_
  have := lawT_all (P := fun q => 0 ≤ q) (by decide) h i t
  unfold gB
  rw [if_neg (show ¬ (none = some i) by simp)]
  split
  · exact this
  · exact Rat.le_refl
theorem mostB_all {P : Rat → Prop} (h0 : P 0) (ha : ∀ p q, P p → P q → P (p + q)) {bs : List Rw} (h : ∀ b, b ∈ bs → P b.2.2) (s : Rat) (but : Option Int) : P (mostB bs s but) := by
  rcases (mostB_is bs s but).at_ with e | ⟨t, _, e⟩
  · rw [e]; exact h0
  · rw [← e]; exact sumB_all h0 ha h t but
structure WI (o : Ow) : Prop where
  wh : ∀ t, o.now ≤ t → sumB o.books t none ≤ 1
  bn : ∀ b, b ∈ o.books → 0 ≤ b.2.2
  bd : ∀ b, b ∈ o.books → D27 b.2.2
  fd : ∀ p, p ∈ o.folk → D27 p.2.2.l
theorem WI.most {o : Ow} (w : WI o) {s : Rat} (hs : o.now ≤ s) (but : Option Int) : mostB o.books s but ≤ 1 := by
  rcases (mostB_is o.books s but).at_ with e | ⟨t, ht, e⟩
  · rw [e]; decide
  · rw [← e]
    have h1 := sumB_but w.bn t but
    have h2 := w.wh t (by grind)
    show sumB o.books t but ≤ 1
    grind
theorem WI.left {o : Ow} (w : WI o) {s : Rat} (hs : o.now ≤ s) (but : Option Int) : 0 ≤ 1 - mostB o.books s but ∧ 1 - mostB o.books s but ≤ 1 ∧ D27 (1 - mostB o.books s but) ∧ Bt (1 - mostB o.books s but) 15 := by
  have h1 := w.most hs but
  have h2 := (mostB_is o.books s but).nn
  have h3 : D27 (1 - mostB o.books s but) := d27_1.sub (mostB_all d27_0 (fun _ _ => D27.add) w.bd s but)
  have a : 0 ≤ 1 - mostB o.books s but := by grind
  have b : 1 - mostB o.books s but ≤ 1 := by grind
  exact ⟨a, b, h3, h3.bt a b⟩
theorem WI.keep {o o1 : Ow} (w : WI o) (e1 : o1.books = o.books) (e2 : o.now ≤ o1.now) (e3 : ∀ p, p ∈ o1.folk → ∃ q, q ∈ o.folk ∧ q.2.2.l = p.2.2.l) : WI o1 := by
  refine ⟨fun t ht => ?_, by rw [e1]; exact w.bn, by rw [e1]; exact w.bd, fun p hp => ?_⟩
  · rw [e1]; exact w.wh t (by grind)
  · obtain ⟨q, hq, e⟩ := e3 p hp
    rw [← e]; exact w.fd q hq
theorem WI.new (a : Nat) : WI (Ow.new a) := ⟨fun t _ => by show (0 : Rat) ≤ 1; decide, fun b hb => (by cases hb), fun b hb => (by cases hb), fun p hp => (by cases hp)⟩
structure J3 (b c nn : Nat) (v : Sv) (o : Ow) : Prop where
  al : Al v o
  iv : Iv v
  sm : Sml 15 v
  wi : WI o
  ex : ∃ B n, SvOk B c n v ∧ BO B c o ∧ 31 ≤ B ∧ B + 26 * v.abs.W ≤ b ∧ n + v.abs.W ≤ nn
theorem J3.mono {b b' c c' nn nn' : Nat} {v : Sv} {o : Ow} (j : J3 b c nn v o) (hb : b ≤ b') (hc : c ≤ c') (hn : nn ≤ nn') : J3 b' c' nn' v o := by
  obtain ⟨B, n, k1, k2, k3, k4, k5⟩ := j.ex
  exact ⟨j.al, j.iv, j.sm, j.wi, B, n, k1.mono (Nat.le_refl _) hc (Nat.le_refl _), k2.mono (Nat.le_refl _) hc, k3, by omega, by omega⟩
end
end C
namespace C
open PySem G
noncomputable section
def Dpt (k : Nat) (d : D) : Prop := ∃ p, d.toP = some p ∧ p.canLay0 = true ∧ p.depth ≤ k
theorem Dpt.mono {k l : Nat} {d : D} (h : Dpt k d) (e : k ≤ l) : Dpt l d := by
  obtain ⟨p, a, b, c⟩ := h
  exact ⟨p, a, b, Nat.le_trans c e⟩
structure Nx0 (B c n W : Nat) (v1 : Sv) : Prop where
  ok : SvOk B (c + 1) (n + 1) v1
  sm : Sml 15 v1
  w : v1.abs.W ≤ W
theorem Nx0.nx {B c n W bt : Nat} {v1 : Sv} (h : Nx0 B c n W v1) : Nx B c n W 15 bt v1 := ⟨⟨B, n + 1, h.ok, Nat.le_refl _, by have := h.w; omega, by have := h.w; omega⟩, h.sm⟩
theorem PS.app {S : Store} {n : Nat} {L : HL} (h : PS S n L) (c : List Cell) : PS (S ++ c) n L := ⟨h.P.app _, h.s.app _, h.a⟩
end
end C
namespace C
open PySem G
noncomputable section
structure RpOk (m k : Nat) (d : D) : Prop where
  ex : ∃ p, d.toP = some p ∧ p.showable = true ∧ p.leavesShort 1921 = true ∧ p.hasDict = false ∧ p.depth ≤ k ∧ p.bulk ≤ m
theorem RpOk.mono {m m' k k' : Nat} {d : D} (h : RpOk m k d) (l : m ≤ m') (l' : k ≤ k') : RpOk m' k' d := by
  obtain ⟨p, a, b, c, e, f, g⟩ := h
  exact ⟨p, a, b, c, e, Nat.le_trans f l', Nat.le_trans g l⟩
end
end C
namespace C
open PySem G
noncomputable section
structure FOk (F : HL) (s r : Nat) : Prop where
  s : (s, Cell.obj 37 [(36, .loc r)]) ∈ F
  t : ((0, Cell.tbl mk_picked_of.1 mk_picked_of.2) : Nat × Cell) ∈ F
theorem FOk.srv {F : HL} {s r : Nat} (h : FOk F s r) {v : Sv} (hr : v.r = r) : (s, srvC v) ∈ F := by unfold srvC; rw [hr]; exact h.s
theorem FOk.app {F : HL} {s r : Nat} (h : FOk F s r) (L : HL) : FOk (F ++ L) s r := ⟨List.mem_append_left _ h.s, List.mem_append_left _ h.t⟩
theorem FOk.cons {F : HL} {s r : Nat} (h : FOk F s r) (x : Nat × Cell) : FOk (x :: F) s r := ⟨List.mem_cons_of_mem _ h.s, List.mem_cons_of_mem _ h.t⟩
theorem FOk.left {F : HL} {s r : Nat} (h : FOk F s r) (L : HL) : FOk (L ++ F) s r := ⟨List.mem_append_right _ h.s, List.mem_append_right _ h.t⟩
theorem FOk.get {F : HL} {s r : Nat} (h : FOk F s r) {S : Store} {v : Sv} {L : HL} (hr : v.r = r) (hs : Sep S (L ++ F)) : S[s]? = some (srvC v) := hs.get (List.mem_append_right _ (h.srv hr))
theorem J3_of {v : Sv} {o : Ow} (j : J 0 v o) (w : WI o) : J3 31 0 0 v o := by
  obtain ⟨B, n, k1, k2, k3, k4, k5⟩ := j.ex
  exact ⟨j.al, j.iv, fun p hp => ⟨(j.sm p hp).1.mono (by omega), fun q hq => ((j.sm p hp).2 q hq).mono (by omega)⟩, w, B, n, k1, k2, k3, by omega, by omega⟩
end
end C
namespace C
open PySem G
noncomputable section
structure BL (o : Ow) : Prop where
  lt : ∀ p, p ∈ o.folk → ∀ t, o.now ≤ t → p.2.2.c ≤ t → lawT o.books p.2.2.num t = p.2.2.l
  ex : ∀ p, p ∈ o.folk → ∃ b, b ∈ o.books ∧ b.1 = (p.2.2.num : Int) ∧ ¬ o.now < b.2.1
theorem BL.keep {o o1 : Ow} (w : BL o) (e1 : o1.books = o.books) (e2 : o.now ≤ o1.now) (e3 : ∀ p, p ∈ o1.folk → ∃ q, q ∈ o.folk ∧ q.2.2.num = p.2.2.num ∧ q.2.2.l = p.2.2.l ∧ q.2.2.c ≤ p.2.2.c) : BL o1 := by
  refine ⟨fun p hp t h1 h2 => ?_, fun p hp => ?_⟩
  · obtain ⟨q, hq, g1, g2, g3⟩ := e3 p hp
    rw [e1, ← g1, ← g2]
    exact w.lt q hq t (by grind) (by grind)
  · obtain ⟨q, hq, g1, g2, g3⟩ := e3 p hp
    obtain ⟨b, hb, h1, h2⟩ := w.ex q hq
    exact ⟨b, by rw [e1]; exact hb, by rw [h1, g1], by grind⟩
theorem BL.new (a : Nat) : BL (Ow.new a) := ⟨fun p hp => (by cases hp), fun p hp => (by cases hp)⟩
end
end C
namespace C
open PySem G
noncomputable section
def Gh (v : Sv) : Prop := ∃ S s r, Sep S (v.H ++ F0 s r) ∧ v.r = r
theorem gh_new : Gh (Sv.new 2) := by
  have h := fresh_sep [.tbl mk_picked_of.1 mk_picked_of.2] rfl rfl
  exact ⟨_, _, _, h.right, rfl⟩
structure JG (b c nn : Nat) (o : Ow) : Prop where
  ex : ∃ v, J3 b c nn v o ∧ Gh v
theorem JG.new (a : Nat) : JG 31 0 0 (Ow.new a) := ⟨Sv.new 2, J3_of (j0 2 a) (WI.new a), gh_new⟩
theorem JG.mono {b b' c c' nn nn' : Nat} {o : Ow} (j : JG b c nn o) (hb : b ≤ b') (hc : c ≤ c') (hn : nn ≤ nn') : JG b' c' nn' o := by
  obtain ⟨v, h, g⟩ := j.ex
  exact ⟨v, h.mono hb hc hn, g⟩
end
end C
namespace C
open PySem G
noncomputable section
inductive LR where
  | join (t : Rat) (nm : Str) (l : Rat) (o : Option Rat) (h : Int)
  | ask (t : Rat) (nm : Str) (z : Int)
  | leave (t : Rat) (nm : Str)
  | least (t : Rat) (nm : Str) (r : Rat)
  | most (t : Rat) (nm : Str) (m : Option Rat)
  | weight (t : Rat) (nm : Str) (h : Int)
  | serve (t : Rat) (nm : Str) (z : Int) (b : Bool)
def LR.D : LR → D
  | .join t nm l o h => .tup [.str "join", rD t, .str nm, rD l, oD o, .int h]
  | .ask t nm z => .tup [.str "ask", rD t, .str nm, .int z]
  | .leave t nm => .tup [.str "leave", rD t, .str nm]
  | .least t nm r => .tup [.str "least", rD t, .str nm, rD r]
  | .most t nm m => .tup [.str "most", rD t, .str nm, oD m]
  | .weight t nm h => .tup [.str "weight", rD t, .str nm, .int h]
  | .serve t nm z b => .tup [.str "serve", rD t, .str nm, .int z, .str (wordOf b)]
def LR.t : LR → Rat
  | .join t .. | .ask t .. | .leave t .. | .least t .. | .most t .. | .weight t .. | .serve t .. => t
def LR.nm : LR → Str
  | .join _ n .. | .ask _ n .. | .leave _ n .. | .least _ n .. | .most _ n .. | .weight _ n .. | .serve _ n .. => n
structure Rse where
  name : Str
  l : Rat
  o : Option Rat
  h : Int
  c : Rat
  g : Rat
  t : Rat
  sz : List Int
def rse (x : Se) : Rse := ⟨x.name, x.l, x.o, x.h, x.c, x.g, x.t, x.line.map (·.2)⟩
structure RS where
  seats : List Rse
  pace : Rat
def RS.names (s : RS) : List Str := s.seats.map (·.name)
def updR (nm : Str) (f : Rse → Rse) (l : List Rse) : List Rse := l.map fun x => if x.name = nm then f x else x
def serveR (t : Rat) (z : Int) (b : Bool) (pace : Rat) (x : Rse) : Rse := { x with sz := x.sz.tail, c := if b then dueB x.c z x.l else x.c, g := gateB x.o x.g z t, t := if b then x.t else rsd x.t pace z (x.h : Rat) }
def askR (t : Rat) (z : Int) (x : Rse) : Rse := { x with c := if x.sz = [] then max x.c t else x.c, sz := x.sz ++ [z] }
def RS.step (s : RS) : LR → RS
  | .join t nm l o h => ⟨s.seats ++ [⟨nm, l, o, h, t, t, s.pace, []⟩], s.pace⟩
  | .ask t nm z => ⟨updR nm (askR t z) s.seats, s.pace⟩
  | .leave _ nm => ⟨s.seats.filter fun x => decide (x.name ≠ nm), s.pace⟩
  | .least t nm r => ⟨updR nm (fun x => { x with c := max x.c t, l := r }) s.seats, s.pace⟩
  | .most _ nm m => ⟨updR nm (fun x => { x with o := m }) s.seats, s.pace⟩
  | .weight _ nm h => ⟨updR nm (fun x => { x with h := h }) s.seats, s.pace⟩
  | .serve t nm z b => ⟨updR nm (serveR t z b s.pace) s.seats, if b then s.pace else max (((s.seats.find? fun x => decide (x.name = nm)).map (·.t)).getD s.pace) s.pace⟩
def RS.okR (s : RS) : LR → Prop
  | .join _ nm l o h => nm ∉ s.names ∧ Bt l 15 ∧ (∀ q, o = some q → Bt q 15) ∧ CliOk l o h
  | .ask _ nm z => nm ∈ s.names ∧ 1 ≤ z ∧ z ≤ 999
  | .leave _ nm => nm ∈ s.names
  | .least _ nm r => nm ∈ s.names ∧ Bt r 15 ∧ 0 ≤ r ∧ r ≤ 1
  | .most _ nm m => nm ∈ s.names ∧ ∀ q, m = some q → Bt q 15 ∧ 0 < q ∧ q ≤ 1
  | .weight _ nm h => nm ∈ s.names ∧ 1 ≤ h ∧ h ≤ 99
  | .serve _ nm z b => 1 ≤ z ∧ z ≤ 999 ∧ ∃ x, x ∈ s.seats ∧ x.name = nm ∧ (b = true → x.l ≠ 0) ∧ ∃ r, x.sz = z :: r
def RS.run (s : RS) (l : List LR) : RS := l.foldl RS.step s
def RS.Ok : RS → List LR → Prop
  | _, [] => True
  | s, r :: l => s.okR r ∧ RS.Ok (s.step r) l
theorem RS.Ok.left : ∀ {l m : List LR} {s : RS}, RS.Ok s (l ++ m) → RS.Ok s l
  | [], _, _, _ => trivial
  | _ :: _, _, _, h => ⟨h.1, RS.Ok.left h.2⟩
def Ab.rs (b : Ab) : RS := ⟨b.seats.map rse, b.pace⟩
def rs0 : RS := ⟨[], 0⟩
structure LgA (B : Nat) (lr : List LR) (b : Ab) (now : Rat) : Prop where
  rows : b.rows = lr.map LR.D
  st : rs0.run lr = b.rs
  ok : RS.Ok rs0 lr
  srt : (lr.map LR.t).Pairwise (· ≤ ·)
  le : ∀ r, r ∈ lr → r.t ≤ now
  bt : ∀ r, r ∈ lr → Bt r.t B ∧ 0 ≤ r.t ∧ NmOk r.nm
theorem LgA.mono {B B' : Nat} {lr : List LR} {b : Ab} {now : Rat} (h : LgA B lr b now) (l : B ≤ B') : LgA B' lr b now := ⟨h.rows, h.st, h.ok, h.srt, h.le, fun r hr => ⟨(h.bt r hr).1.mono l, (h.bt r hr).2⟩⟩
structure AO (B : Nat) (b : Ab) : Prop where
  seats : ∀ x, x ∈ b.seats → SeOk B x ∧ Bt x.l 15 ∧ (∀ q, x.o = some q → Bt q 15) ∧ NmOk x.name
  nums : (b.seats.map (·.num)).Nodup
  names : (b.seats.map (·.name)).Nodup
  bp : Bt b.pace B
theorem AO.mono {B B' : Nat} {b : Ab} (h : AO B b) (l : B ≤ B') : AO B' b := ⟨fun x hx => ⟨(h.seats x hx).1.mono l, (h.seats x hx).2⟩, h.nums, h.names, h.bp.mono l⟩
end
end C
namespace C
open PySem G
end C
namespace C
open PySem G
noncomputable section
def GhO (o : Ow) : Prop := ∃ S F, Sep S (o.H ++ F)
structure SJ (b c nn : Nat) (v : Sv) : Prop where
  ex : ∃ o, J3 b c nn v o ∧ GhO o
structure Tw (b c nn : Nat) (v u : Sv) : Prop where
  ex : ∃ o, J3 b c nn v o ∧ J3 b c nn u o ∧ GhO o
  ft : v.fates = u.fates
theorem Tw.l {b c nn : Nat} {v u : Sv} (t : Tw b c nn v u) : SJ b c nn v := by
  obtain ⟨o, h, _, g⟩ := t.ex
  exact ⟨o, h, g⟩
theorem Tw.rt {b c nn : Nat} {v u : Sv} (t : Tw b c nn v u) : SJ b c nn u := by
  obtain ⟨o, _, h, g⟩ := t.ex
  exact ⟨o, h, g⟩
theorem Tw.mono {b b' c c' nn nn' : Nat} {v u : Sv} (j : Tw b c nn v u) (hb : b ≤ b') (hc : c ≤ c') (hn : nn ≤ nn') : Tw b' c' nn' v u := by
  obtain ⟨o, h, h', g⟩ := j.ex
  exact ⟨⟨o, h.mono hb hc hn, h'.mono hb hc hn, g⟩, j.ft⟩
theorem SJ.mono {b b' c c' nn nn' : Nat} {v : Sv} (j : SJ b c nn v) (hb : b ≤ b') (hc : c ≤ c') (hn : nn ≤ nn') : SJ b' c' nn' v := by
  obtain ⟨o, h, g⟩ := j.ex
  exact ⟨o, h.mono hb hc hn, g⟩
theorem Tw.ab {b c nn : Nat} {v u : Sv} (t : Tw b c nn v u) : v.abs = u.abs := by
  obtain ⟨o, h, h', _⟩ := t.ex
  rw [← h.al.ab, ← h'.al.ab]
theorem Tw.at_ {b c nn : Nat} {v u : Sv} (t : Tw b c nn v u) : v.at_ = u.at_ := by
  obtain ⟨o, h, h', _⟩ := t.ex
  rw [← h.al.now, ← h'.al.now]
theorem Tw.rows {b c nn : Nat} {v u : Sv} (t : Tw b c nn v u) : v.rows = u.rows := congrArg Ab.rows t.ab
structure Bd (B b c nn : Nat) (v : Sv) : Prop where
  ex : ∃ n, SvOk B c n v ∧ n + v.abs.W ≤ nn
  b31 : 31 ≤ B
  w : B + 26 * v.abs.W ≤ b
theorem SJ.bd {b c nn : Nat} {v : Sv} (j : SJ b c nn v) : ∃ B, Bd B b c nn v := by
  obtain ⟨o, h, _⟩ := j.ex
  obtain ⟨B, n, k1, k2, k3, k4, k5⟩ := h.ex
  exact ⟨B, ⟨n, k1, k5⟩, k3, k4⟩
theorem Tw.bd {b c nn : Nat} {v u : Sv} (j : Tw b c nn v u) : ∃ B, Bd B b c nn v ∧ Bd B b c nn u := by
  have ea := j.ab
  obtain ⟨B, ⟨n, k1, k2⟩, k3, k4⟩ := j.l.bd
  obtain ⟨B', ⟨n', k1', k2'⟩, k3', k4'⟩ := j.rt.bd
  rw [← ea] at k4'
  rw [← ea] at k2'
  refine ⟨max B B', ⟨⟨n, k1.mono (by omega) (Nat.le_refl _) (Nat.le_refl _), k2⟩, by omega, by omega⟩, ⟨⟨n', k1'.mono (by omega) (Nat.le_refl _) (Nat.le_refl _), by rw [← ea]; exact k2'⟩, by omega, by rw [← ea]; omega⟩⟩
end
end C
namespace C
open PySem G
noncomputable section
def lnN (l : List Se) : List Nat := l.flatMap fun x => x.line.map (·.1)
def wtD : D := .tup [.str "waits"]
def bgD (b : Rat) (z : Int) (lst : Bool) : D := .tup [.str "begun", rD b, rD (b + (z : Rat)), .str (wordOf lst)]
def dpD (t : Rat) : D := .tup [.str "dropped", rD t]
structure Wt (l : List Se) (f : List D) : Prop where
  nd : (lnN l).Nodup
  at_ : ∀ k, k ∈ lnN l → f[k]? = some wtD
def FtK (d : D) : Prop := d = wtD ∨ (∃ b z lst, Bt b 4000 ∧ 1 ≤ z ∧ z ≤ (999 : Int) ∧ d = bgD b z lst) ∨ ∃ t, d = dpD t
structure FtP (m : Rat) (f0 f : List D) : Prop where
  new : ∀ (k : Nat) b z lst, f[k]? = some (bgD b z lst) → b < m → f0[k]? = some (bgD b z lst)
  old : ∀ (k : Nat) b z lst, f0[k]? = some (bgD b z lst) → f[k]? = some (bgD b z lst)
theorem FtP.rf (m : Rat) (f : List D) : FtP m f f := ⟨fun _ _ _ _ h _ => h, fun _ _ _ _ h => h⟩
def RowT (m : Rat) (d : D) : Prop := ∃ (w : Str) (t : Rat) (rest : List D), d = .tup (.str w :: rD t :: rest) ∧ m ≤ t ∧ Bt t 4000
structure Past (m : Rat) (R : List D) (f0 : List D) (v : Sv) : Prop where
  now : m ≤ v.at_
  rows : ∃ ext, v.rows = R ++ ext ∧ ∀ d, d ∈ ext → RowT m d
  wt : Wt v.abs.seats v.fates
  ft : FtP m f0 v.fates
  k : ∀ d, d ∈ v.fates → FtK d
  len : f0.length ≤ v.fates.length
theorem drop_get (now : Rat) : ∀ (line : List (Nat × Int)) (f : List D) (k : Nat), (k ∉ line.map (·.1) → (dropF now line f)[k]? = f[k]?)
  | [], f, k, _ => rfl
  | q :: line, f, k, h => by
    rw [List.map_cons, List.mem_cons, not_or] at h
    show (dropF now line (f.set q.1 _))[k]? = _
    rw [drop_get now line _ k h.2, List.getElem?_set_ne fun e => h.1 e.symm]
theorem Past.start {m : Rat} {R f0 : List D} {v : Sv} (h : Past m R f0 v) : Past v.at_ v.rows v.fates v := ⟨Rat.le_refl, ⟨[], by simp, fun d hd => by cases hd⟩, h.wt, FtP.rf _ _, h.k, Nat.le_refl _⟩
end
end C
local macro_rules | `(tactic| wp_walk using $ts,*) => (let es := ts.getElems; let k := (es[0]!).raw.getId; let all : Array Lean.Name := #[`G.wr_ok, `G.wr_exc, `G.wr_lf, `G.wr_eC, `G.evQ_some, `G.wr_eVar, `G.cB2_s, `G.cB1_s, `G.wr_eBin, `G.cS2_s, `G.cS1_s, `G.wr_eBinS, `G.asQ_bl, `G.wr_tB, `G.truQ_s, `G.wr_tT, `G.notQ_s, `G.wr_tNt, `G.anQ_t, `G.anQ_f, `G.wr_tAn, `G.orQ_t, `G.orQ_f, `G.wr_tOr, `G.eaB_t, `G.eaB_f, `G.eaQ_s, `G.wr_eAn, `G.eoB_t, `G.eoB_f, `G.eoQ_s, `G.wr_eOr, `G.enB_s, `G.enQ_s, `G.wr_eNt, `G.eiQ_t, `G.eiQ_f, `G.wr_eIf, `G.negQ_int, `G.wr_eNeg, `G.wr_aNil, `G.cC2_s, `G.cC1_s, `G.wr_aCons, `G.tupQ_s, `G.lstQ_s, `G.newQ_s, `G.wr_eTup, `G.wr_eLst, `G.wr_eNew, `G.caQ_s, `G.wr_eCa, `G.clQ_s, `G.wr_eCall, `G.nAQ_s, `G.wr_nA, `G.tyQ_s, `G.wr_eIsTy, `G.icQ_s, `G.wr_eIsC, `G.mt2_s, `G.mt1_s, `G.wr_eMt, `G.wr_oNone, `G.oQ_int, `G.wr_oSome, `G.sl3_s, `G.sl2_s, `G.sl1_s, `G.wr_eSl, `G.kk2_s, `G.kk1_s, `G.wr_eCallK, `G.kk0_s, `G.wr_eCallK0, `G.wr_gN, `G.sb3_s, `G.sb2_s, `G.sb1_s, `G.wr_gSb, `G.wr_gsNil, `G.gs1_s, `G.wr_gsCons, `G.wr_gTp, `G.wr_gTp_rD, `G.xe_s, `G.sq_nx, `G.sq_rt, `G.sq_bk, `G.sq_ct, `G.sq_ex, `G.sq_xe, `G.ws_nxt, `G.ws_sNop, `G.ws_sSeq, `G.ws_sBrk, `G.ws_sCnt, `G.dropQ_s, `G.ws_sDrop, `G.ws_sRet, `G.ws_sRetN, `G.ifQ_t, `G.ifQ_f, `G.ws_sIf, `G.asg1_s, `G.ws_sAsg, `G.setQ_s, `G.ws_sSet, `G.parQ_s, `G.ws_sPar, `G.ws_sRaise, `G.fn_nx, `G.fn_rt, `G.fn_ex, `G.fn_xe, `G.su_nx, `G.su_bk, `G.su_ct, `G.su_rt, `G.trQ_t, `G.trQ_f, `G.tr_nx, `G.tr_rt, `G.tr_bk, `G.tr_ct, `G.tr_ex, `G.ws_sTry, `G.forQ_s, `G.ws_sFor, `G.lp_nx, `G.lp_rt, `G.lp_bk, `G.lp_ct, `G.lp_ex, `G.lp_xe, `G.ws_fi_nil, `G.bodyQ_s, `G.mid_nx, `G.mid_rt, `G.mid_bk, `G.mid_ct, `G.mid_ex, `G.mid_xe, `G.lc2_s, `G.lc1_s, `G.wr_eLc, `G.lcn2_s, `G.lcn1_s, `G.wr_eLcN, `G.wipe_nil, `G.wipe_cons, `G.wr_tTrue, `G.wr_lc_nil, `G.tgQ_some, `G.ly_s, `G.lt1_t, `G.lt1_f, `G.lg_s, `G.eqQ_s, `G.exQ_s, `G.seqQ_tup, `G.seqQ_lst, `G.seqQ_scr, `G.seqQ_rD, `G.wr_iSeq, `G.rgQ_int, `G.wr_iRg1, `G.rgQ2_int, `G.wr_iRg2, `G.ch3_t, `G.ch3_f, `G.ch2_s, `G.ch1_s, `G.wr_eChain, `G.flQ_s, `G.wr_eFld, `G.fldD_ins, `G.stQ_s, `G.sf2_s, `G.sf1_s, `G.ws_sFldM, `G.mkQ2_s, `G.mkQ1_s, `G.wr_eMk, `G.wr_eMk0, `G.ap2_s, `G.ap1_s, `G.wr_eApp, `G.zpQ_s, `G.wr_iZip, `G.zipR_tup, `G.zipR_lst, `G.srQ_s, `G.wr_iStrM, `G.strR_s, `G.ioQ_s, `G.wr_eIsO, `G.dAddS_int, `G.wr_gStr_tup, `G.wr_gStr_lst, `G.fTuple_lst, `G.fTuple_tup, `List.take_succ_cons, `List.take_zero, `List.drop_succ_cons, `List.drop_zero, `List.getElem?_cons_zero, `List.getElem?_cons_succ, `List.set_cons_zero, `List.set_cons_succ, `List.map_cons, `List.map_nil, `List.length_cons, `List.length_nil, `List.cons_append, `List.nil_append, `List.replicate_succ, `List.replicate_zero, `List.append_nil, `true_and, `and_true, `and_self, `if_true, `ite_true, `if_false, `ite_false, `Bool.false_eq_true, `Bool.not_true, `Bool.not_false, `Bool.not_not, `decide_true, `decide_false, `decide_eq_true_eq, `not_false_eq_true, `not_true_eq_false, `reduceCtorEq, `PySem.sizeLine_eq, `Option.map_some, `Option.some.injEq, `Nat.reduceSub, `Nat.reduceAdd, `Nat.reduceLeDiff, `Nat.reduceEqDiff, `Nat.zero_add, `Nat.reduceBEq, `List.contains_cons, `List.contains_nil, `beq_self_eq_true, `Bool.true_or, `Bool.or_true, `Bool.false_or, `Bool.or_false, `List.lookup_cons, `List.lookup_nil, `Int.reduceEq, `Int.reduceNe, `Int.reduceLT, `Int.reduceLE, `Int.reduceNeg, `Int.reduceAdd, `Int.reduceSub, `Int.cast_ofNat_Int, `ne_eq, `G.cmpI_s, `G.dGt, `G.dGe, `G.dLt, `G.dLe, `G.dAdd_int, `G.dSub_int, `G.dEq_int, `G.dNe_int, `G.dEq_bl, `G.dNe_bl, `G.truD_bl, `G.isTy_int, `G.isTy_bl, `G.isTy_tup, `G.fLen_tup, `G.fLen_scr, `G.fLen_lst, `G.fAbs_int, `G.fMax_int, `G.fMin_int, `G.ixD_tup, `G.ixD_lst, `G.ixD_scr, `G.isTy_rD, `G.fLen_rD, `G.ix_rD0, `G.ix_rD1, `G.dEq_rD, `G.dNe_rD, `G.dIs_rD, `G.dIsNot_rD, `G.Tn.is, `G.me3_s, `G.me2_s, `G.me1_s, `G.wr_eMeth, `G.mk2_s, `G.mk1_s, `G.wr_eMethK, `G.m01_s, `G.wr_eMeth0, `G.wr_eNewD, `G.dg3_s, `G.dg2_s, `G.dg1_s, `G.wr_eDGet2, `G.dh2_s, `G.dh1_s, `G.wr_eDGet1, `G.dp3_s, `G.dp2_s, `G.dp1_s, `G.wr_eDPop2, `G.dq2_s, `G.dq1_s, `G.wr_eDPop1, `G.se2_s, `G.se1_s, `G.wr_gSbE, `G.ssQ_s, `G.wr_eSortSet, `G.an2_s, `G.an1_s, `G.wr_eAddN, `G.celQ_tup, `G.celQ_lst, `G.celQ_scr, `G.wr_iCel, `G.forcQ_s, `G.ws_sForC, `G.lcc1_s, `G.wr_eLcC, `G.lcd1_s, `G.wr_eLcCN, `G.keyD_int, `G.keyD_str, `Option.isSome_some, `G.fmQ_s, `G.wr_eFmt, `G.jsQ_str, `G.wr_js_nil, `G.wr_js_cons, `G.wr_eJs, `G.s4Q_str, `G.soQ_s, `G.wr_eStrO, `G.dAddE_0, `G.wr_eCallV, `G.chQ_s, `G.wr_eCallH, `G.wr_lamF, `G.oj_s, `G.enuQ_s, `G.wr_iEnum, `G.enR_tup, `G.enR_lst, `G.lrQ_int, `G.wr_eLr, `G.lrnQ_int, `G.wr_eLrN, `G.agQ_s, `G.auP_s, `G.ws_sAug, `G.augR_int, `G.pp2_s, `G.pp1_s, `G.wr_ePop, `G.wr_gSq_tup, `G.wr_gSq_lst, `G.lnQ_lst, `G.lnQ_tup, `G.wr_eListN, `G.rvQ_lst, `G.wr_eRev, `G.rfQ_s, `G.ws_sRaiseF, `G.trG_nx, `G.trG_rt, `G.trG_bk, `G.trG_ct, `G.trG_ex, `G.ws_sTryG, `G.ws_hd_nil, `G.hdP_t, `G.hdP_f, `G.ws_hd_cons, `G.setO_some, `G.setO_none, `G.ws_suS, `G.suN_nx, `G.suN_rt, `G.suN_bk, `G.suN_ct, `G.ws_suN, `G.iyQ_s, `G.wr_eIsY, `G.isY_exc, `G.fyQ_s, `G.wr_eFldY, `G.fldY_exc, `G.toQ_s, `G.wr_eIsTyO, `G.isTyO_tup, `G.isTyO_lst, `G.isTyO_int, `G.tm2_s, `G.tm1_s, `G.wr_eTm, `G.rgQN_int, `G.wr_iRgN, `G.gf1_s, `G.wr_gFl, `G.as3_s, `G.as2_s, `G.as1_s, `G.ws_sAsg3, `G.at1_s, `G.ws_sAsg2, `G.ws_sFldA, `G.ds3_s, `G.ds2_s, `G.ds1_s, `G.wr_eDSetd, `G.dispQ_s, `G.wr_eDisp, `G.rm2_s, `G.rm1_s, `G.wr_eRem, `G.parQ3_s, `G.ws_sPar3, `G.th_nx, `G.th_rt, `G.th_xe, `G.wr_iDv, `G.wr_iDi, `G.wr_iDk, `G.wr_iTk, `G.wr_eTs1, `G.tu2_s, `G.tu1_s, `G.wr_eTsU, `G.dct1_s, `G.dcQ_s, `G.wr_eDcT, `G.dt1_t, `G.dt1_f, `G.dgg_s, `G.eqOb_t, `G.eqOb_f, `G.eqO2_s, `G.eqO1_s, `G.wr_eEqO, `G.in2_s, `G.in1_s, `G.wr_eIns, `G.wr_eTabIx, `G.txQ_str, `G.wr_eTabIn, `G.tiQ_t, `G.tiQ_f, `G.ws_sTabCall, `G.tcQ_str, `G.tc1_s, `G.tc2_s, `G.sn3_s, `G.sn2_s, `G.sn1_s, `G.wr_eSlN]; let cut : Nat := if k == `zstop || k == `zust then 1 else if k == `zstf then 2 else if k == `zstq then 3 else 0; let sel := all.filter fun n => !((cut == 1 && n == `G.ws_sIf) || (cut == 2 && (n == `G.ws_sIf || n == `G.ws_sFor || n == `G.ws_sForC)) || (cut == 3 && n.getString!.startsWith "ws_")); let ids : Lean.TSyntaxArray `term := sel.map fun n => ⟨(Lean.mkIdent n).raw⟩; let r1 : Lean.TSyntaxArray `term := ids ++ es.extract 1 es.size; let r2 : Lean.TSyntaxArray `term := ids ++ es.extract 2 es.size; let r0 : Lean.TSyntaxArray `term := ids ++ es; if k == `zust || k == `zuse then `(tactic| (have hq0 := $(es[1]!); simp only [$[$r2:term],*] at hq0; exact hq0)) else if cut == 0 then `(tactic| try simp only [$[$r0:term],*]) else `(tactic| try simp only [$[$r1:term],*]))
namespace C
open PySem G
end C
namespace C
open PySem G
noncomputable section
theorem SJ.sm {b c nn : Nat} {v : Sv} (j : SJ b c nn v) : Sml 15 v := by
  obtain ⟨o, h, _⟩ := j.ex
  exact h.sm
theorem SJ.iv {b c nn : Nat} {v : Sv} (j : SJ b c nn v) : Iv v := by
  obtain ⟨o, h, _⟩ := j.ex
  exact h.iv
end
end C
local macro_rules | `(tactic| wp_walk using $ts,*) => (let es := ts.getElems; let k := (es[0]!).raw.getId; let all : Array Lean.Name := #[`G.wr_ok, `G.wr_exc, `G.wr_lf, `G.wr_eC, `G.evQ_some, `G.wr_eVar, `G.cB2_s, `G.cB1_s, `G.wr_eBin, `G.cS2_s, `G.cS1_s, `G.wr_eBinS, `G.asQ_bl, `G.wr_tB, `G.truQ_s, `G.wr_tT, `G.notQ_s, `G.wr_tNt, `G.anQ_t, `G.anQ_f, `G.wr_tAn, `G.orQ_t, `G.orQ_f, `G.wr_tOr, `G.eaB_t, `G.eaB_f, `G.eaQ_s, `G.wr_eAn, `G.eoB_t, `G.eoB_f, `G.eoQ_s, `G.wr_eOr, `G.enB_s, `G.enQ_s, `G.wr_eNt, `G.eiQ_t, `G.eiQ_f, `G.wr_eIf, `G.negQ_int, `G.wr_eNeg, `G.wr_aNil, `G.cC2_s, `G.cC1_s, `G.wr_aCons, `G.tupQ_s, `G.lstQ_s, `G.newQ_s, `G.wr_eTup, `G.wr_eLst, `G.wr_eNew, `G.caQ_s, `G.wr_eCa, `G.clQ_s, `G.wr_eCall, `G.nAQ_s, `G.wr_nA, `G.tyQ_s, `G.wr_eIsTy, `G.icQ_s, `G.wr_eIsC, `G.mt2_s, `G.mt1_s, `G.wr_eMt, `G.wr_oNone, `G.oQ_int, `G.wr_oSome, `G.sl3_s, `G.sl2_s, `G.sl1_s, `G.wr_eSl, `G.kk2_s, `G.kk1_s, `G.wr_eCallK, `G.kk0_s, `G.wr_eCallK0, `G.wr_gN, `G.sb3_s, `G.sb2_s, `G.sb1_s, `G.wr_gSb, `G.wr_gsNil, `G.gs1_s, `G.wr_gsCons, `G.wr_gTp, `G.wr_gTp_rD, `G.xe_s, `G.sq_nx, `G.sq_rt, `G.sq_bk, `G.sq_ct, `G.sq_ex, `G.sq_xe, `G.ws_nxt, `G.ws_sNop, `G.ws_sSeq, `G.ws_sBrk, `G.ws_sCnt, `G.dropQ_s, `G.ws_sDrop, `G.ws_sRet, `G.ws_sRetN, `G.ifQ_t, `G.ifQ_f, `G.ws_sIf, `G.asg1_s, `G.ws_sAsg, `G.setQ_s, `G.ws_sSet, `G.parQ_s, `G.ws_sPar, `G.ws_sRaise, `G.fn_nx, `G.fn_rt, `G.fn_ex, `G.fn_xe, `G.su_nx, `G.su_bk, `G.su_ct, `G.su_rt, `G.trQ_t, `G.trQ_f, `G.tr_nx, `G.tr_rt, `G.tr_bk, `G.tr_ct, `G.tr_ex, `G.ws_sTry, `G.forQ_s, `G.ws_sFor, `G.lp_nx, `G.lp_rt, `G.lp_bk, `G.lp_ct, `G.lp_ex, `G.lp_xe, `G.ws_fi_nil, `G.bodyQ_s, `G.mid_nx, `G.mid_rt, `G.mid_bk, `G.mid_ct, `G.mid_ex, `G.mid_xe, `G.lc2_s, `G.lc1_s, `G.wr_eLc, `G.lcn2_s, `G.lcn1_s, `G.wr_eLcN, `G.wipe_nil, `G.wipe_cons, `G.wr_tTrue, `G.wr_lc_nil, `G.tgQ_some, `G.ly_s, `G.lt1_t, `G.lt1_f, `G.lg_s, `G.eqQ_s, `G.exQ_s, `G.seqQ_tup, `G.seqQ_lst, `G.seqQ_scr, `G.seqQ_rD, `G.wr_iSeq, `G.rgQ_int, `G.wr_iRg1, `G.rgQ2_int, `G.wr_iRg2, `G.ch3_t, `G.ch3_f, `G.ch2_s, `G.ch1_s, `G.wr_eChain, `G.flQ_s, `G.wr_eFld, `G.fldD_ins, `G.stQ_s, `G.sf2_s, `G.sf1_s, `G.ws_sFldM, `G.mkQ2_s, `G.mkQ1_s, `G.wr_eMk, `G.wr_eMk0, `G.ap2_s, `G.ap1_s, `G.wr_eApp, `G.zpQ_s, `G.wr_iZip, `G.zipR_tup, `G.zipR_lst, `G.srQ_s, `G.wr_iStrM, `G.strR_s, `G.ioQ_s, `G.wr_eIsO, `G.dAddS_int, `G.wr_gStr_tup, `G.wr_gStr_lst, `G.fTuple_lst, `G.fTuple_tup, `List.take_succ_cons, `List.take_zero, `List.drop_succ_cons, `List.drop_zero, `List.getElem?_cons_zero, `List.getElem?_cons_succ, `List.set_cons_zero, `List.set_cons_succ, `List.map_cons, `List.map_nil, `List.length_cons, `List.length_nil, `List.cons_append, `List.nil_append, `List.replicate_succ, `List.replicate_zero, `List.append_nil, `true_and, `and_true, `and_self, `if_true, `ite_true, `if_false, `ite_false, `Bool.false_eq_true, `Bool.not_true, `Bool.not_false, `Bool.not_not, `decide_true, `decide_false, `decide_eq_true_eq, `not_false_eq_true, `not_true_eq_false, `reduceCtorEq, `PySem.sizeLine_eq, `Option.map_some, `Option.some.injEq, `Nat.reduceSub, `Nat.reduceAdd, `Nat.reduceLeDiff, `Nat.reduceEqDiff, `Nat.zero_add, `Nat.reduceBEq, `List.contains_cons, `List.contains_nil, `beq_self_eq_true, `Bool.true_or, `Bool.or_true, `Bool.false_or, `Bool.or_false, `List.lookup_cons, `List.lookup_nil, `Int.reduceEq, `Int.reduceNe, `Int.reduceLT, `Int.reduceLE, `Int.reduceNeg, `Int.reduceAdd, `Int.reduceSub, `Int.cast_ofNat_Int, `ne_eq, `G.cmpI_s, `G.dGt, `G.dGe, `G.dLt, `G.dLe, `G.dAdd_int, `G.dSub_int, `G.dEq_int, `G.dNe_int, `G.dEq_bl, `G.dNe_bl, `G.truD_bl, `G.isTy_int, `G.isTy_bl, `G.isTy_tup, `G.fLen_tup, `G.fLen_scr, `G.fLen_lst, `G.fAbs_int, `G.fMax_int, `G.fMin_int, `G.ixD_tup, `G.ixD_lst, `G.ixD_scr, `G.isTy_rD, `G.fLen_rD, `G.ix_rD0, `G.ix_rD1, `G.dEq_rD, `G.dNe_rD, `G.dIs_rD, `G.dIsNot_rD, `G.Tn.is, `G.me3_s, `G.me2_s, `G.me1_s, `G.wr_eMeth, `G.mk2_s, `G.mk1_s, `G.wr_eMethK, `G.m01_s, `G.wr_eMeth0, `G.wr_eNewD, `G.dg3_s, `G.dg2_s, `G.dg1_s, `G.wr_eDGet2, `G.dh2_s, `G.dh1_s, `G.wr_eDGet1, `G.dp3_s, `G.dp2_s, `G.dp1_s, `G.wr_eDPop2, `G.dq2_s, `G.dq1_s, `G.wr_eDPop1, `G.se2_s, `G.se1_s, `G.wr_gSbE, `G.ssQ_s, `G.wr_eSortSet, `G.an2_s, `G.an1_s, `G.wr_eAddN, `G.celQ_tup, `G.celQ_lst, `G.celQ_scr, `G.wr_iCel, `G.forcQ_s, `G.ws_sForC, `G.lcc1_s, `G.wr_eLcC, `G.lcd1_s, `G.wr_eLcCN, `G.keyD_int, `G.keyD_str, `Option.isSome_some, `G.fmQ_s, `G.wr_eFmt, `G.jsQ_str, `G.wr_js_nil, `G.wr_js_cons, `G.wr_eJs, `G.s4Q_str, `G.soQ_s, `G.wr_eStrO, `G.dAddE_0, `G.wr_eCallV, `G.chQ_s, `G.wr_eCallH, `G.wr_lamF, `G.oj_s, `G.enuQ_s, `G.wr_iEnum, `G.enR_tup, `G.enR_lst, `G.lrQ_int, `G.wr_eLr, `G.lrnQ_int, `G.wr_eLrN, `G.agQ_s, `G.auP_s, `G.ws_sAug, `G.augR_int, `G.pp2_s, `G.pp1_s, `G.wr_ePop, `G.wr_gSq_tup, `G.wr_gSq_lst, `G.lnQ_lst, `G.lnQ_tup, `G.wr_eListN, `G.rvQ_lst, `G.wr_eRev, `G.rfQ_s, `G.ws_sRaiseF, `G.trG_nx, `G.trG_rt, `G.trG_bk, `G.trG_ct, `G.trG_ex, `G.ws_sTryG, `G.ws_hd_nil, `G.hdP_t, `G.hdP_f, `G.ws_hd_cons, `G.setO_some, `G.setO_none, `G.ws_suS, `G.suN_nx, `G.suN_rt, `G.suN_bk, `G.suN_ct, `G.ws_suN, `G.iyQ_s, `G.wr_eIsY, `G.isY_exc, `G.fyQ_s, `G.wr_eFldY, `G.fldY_exc, `G.toQ_s, `G.wr_eIsTyO, `G.isTyO_tup, `G.isTyO_lst, `G.isTyO_int, `G.tm2_s, `G.tm1_s, `G.wr_eTm, `G.rgQN_int, `G.wr_iRgN, `G.gf1_s, `G.wr_gFl, `G.as3_s, `G.as2_s, `G.as1_s, `G.ws_sAsg3, `G.at1_s, `G.ws_sAsg2, `G.ws_sFldA, `G.ds3_s, `G.ds2_s, `G.ds1_s, `G.wr_eDSetd, `G.dispQ_s, `G.wr_eDisp, `G.rm2_s, `G.rm1_s, `G.wr_eRem, `G.parQ3_s, `G.ws_sPar3, `G.th_nx, `G.th_rt, `G.th_xe, `G.wr_iDv, `G.wr_iDi, `G.wr_iDk, `G.wr_iTk, `G.wr_eTs1, `G.tu2_s, `G.tu1_s, `G.wr_eTsU, `G.dct1_s, `G.dcQ_s, `G.wr_eDcT, `G.dt1_t, `G.dt1_f, `G.dgg_s, `G.eqOb_t, `G.eqOb_f, `G.eqO2_s, `G.eqO1_s, `G.wr_eEqO, `G.in2_s, `G.in1_s, `G.wr_eIns, `G.wr_eTabIx, `G.txQ_str, `G.wr_eTabIn, `G.tiQ_t, `G.tiQ_f, `G.ws_sTabCall, `G.tcQ_str, `G.tc1_s, `G.tc2_s, `G.sn3_s, `G.sn2_s, `G.sn1_s, `G.wr_eSlN, `G.zmQ_s, `G.wr_iZipM, `G.zipRM_s, `G.ex2_s, `G.ex1_s, `G.wr_eEqX, `G.cnQ_s, `G.wr_eCallN]; let cut : Nat := if k == `zstop || k == `zust then 1 else if k == `zstf then 2 else if k == `zstq then 3 else 0; let sel := all.filter fun n => !((cut == 1 && n == `G.ws_sIf) || (cut == 2 && (n == `G.ws_sIf || n == `G.ws_sFor || n == `G.ws_sForC)) || (cut == 3 && n.getString!.startsWith "ws_")); let ids : Lean.TSyntaxArray `term := sel.map fun n => ⟨(Lean.mkIdent n).raw⟩; let r1 : Lean.TSyntaxArray `term := ids ++ es.extract 1 es.size; let r2 : Lean.TSyntaxArray `term := ids ++ es.extract 2 es.size; let r0 : Lean.TSyntaxArray `term := ids ++ es; if k == `zust || k == `zuse then `(tactic| (have hq0 := $(es[1]!); simp only [$[$r2:term],*] at hq0; exact hq0)) else if cut == 0 then `(tactic| try simp only [$[$r0:term],*]) else `(tactic| try simp only [$[$r1:term],*]))
namespace C
open PySem G
noncomputable section
def td_PARTS : List (Str × D) := [("join", .tup [.str "name", .str "least", .str "most", .str "weight"]), ("ask", .tup [.str "name", .str "size"]), ("leave", .tup [.str "name"]), ("least", .tup [.str "name", .str "least"]), ("most", .tup [.str "name", .str "most"]), ("weight", .tup [.str "name", .str "weight"]), ("serve", .tup [.str "name", .str "size", .str "way"]), ("now", .tup [])]
def b_is_least_logs (N : Nat) : SM := (sRet (eOr (eAn (eBin dEq (eVar 0) (eC (.tup [.int 0, .int 1]))) (eCall (m_is_time N) (nA 1 (aCons (eVar 0) aNil)))) (eCall (m_is_rate N) (nA 1 (aCons (eVar 0) aNil)))))
def m_is_least_logs (N : Nat) : FM := fnM 1 (b_is_least_logs N)
def b_is_most (N : Nat) : SM := (sRet (eOr (eBin dIs (eVar 0) (eC .non)) (eCall (m_is_rate N) (nA 1 (aCons (eVar 0) aNil)))))
def m_is_most (N : Nat) : FM := fnM 1 (b_is_most N)
def b_is_within (N : Nat) : SM := (sRet (eAn (eIsTy .int (eVar 0)) (eAn (eNt (eIsTy .bool (eVar 0))) (eChain dLe dLe (eC (.int 1)) (eVar 0) (eVar 1)))))
def m_is_within (N : Nat) : FM := fnM 2 (b_is_within N)
def b_is_weight_logs (N : Nat) : SM := (sRet (eCall (m_is_within N) (nA 2 (aCons (eVar 0) (aCons (eC (.int 99)) aNil)))))
def m_is_weight_logs (N : Nat) : FM := fnM 1 (b_is_weight_logs N)
def b_is_size (N : Nat) : SM := (sRet (eCall (m_is_within N) (nA 2 (aCons (eVar 0) (aCons (eC (.int 999)) aNil)))))
def m_is_size (N : Nat) : FM := fnM 1 (b_is_size N)
def b_is_way (N : Nat) : SM := (sRet (eAn (eIsTy .str (eVar 0)) (eBinS (dInL false) (eVar 0) (eTup (aCons (eC (.str "least")) (aCons (eC (.str "share")) aNil))))))
def m_is_way (N : Nat) : FM := fnM 1 (b_is_way N)
def b_is_part (N : Nat) : SM := (sTabCall 2 [("name", 1, m_is_name N), ("least", 1, m_is_least_logs N), ("most", 1, m_is_most N), ("weight", 1, m_is_weight_logs N), ("size", 1, m_is_size N), ("way", 1, m_is_way N)] (eVar 0) (aCons (eVar 1) aNil))
def m_is_part (N : Nat) : FM := fnM 3 (b_is_part N)
def b_is_row (N : Nat) : SM := (sSeq (sIf (tOr' (tNt (tT (eIsTy .tuple (eVar 0)))) (tOr' (tB (eBin dLt (eCa fLen (aCons (eVar 0) aNil)) (eC (.int 2)))) (tOr' (tNt (tT (eIsTy .str (eBinS ixD (eVar 0) (eC (.int 0)))))) (tB (eTabIn true td_PARTS (eBinS ixD (eVar 0) (eC (.int 0)))))))) (sRet (eC (.bl false))) sNop)
    (sSeq (sAsg (eVar 0) (gStr 2 (gsCons' (gN 2) (gsCons' (gN 3) (gsCons' (gN 4) gsNil)))))
    (sSeq (sSet 5 (eTabIx td_PARTS (eVar 2)))
    (sSeq (sIf (tOr' (tNt (tT (eCall (m_is_time N) (nA 1 (aCons (eVar 3) aNil))))) (tB (eBin dNe (eCa fLen (aCons (eVar 4) aNil)) (eCa fLen (aCons (eVar 5) aNil))))) (sRet (eC (.bl false))) sNop)
    (sSeq (sIf (tAn (tB (eBin dIsNot (eVar 1) (eC .non))) (tOr' (tB (eBin dEq (eBinS ixD (eVar 1) (eC (.int 0))) (eC (.str "now")))) (tT (eCall (m_is_before N) (nA 2 (aCons (eVar 3) (aCons (eBinS ixD (eVar 1) (eC (.int 1))) aNil))))))) (sRet (eC (.bl false))) sNop)
    (sRet (eCa fAll (aCons (eLc (iZipM (aCons (eVar 5) (aCons (eVar 4) aNil))) (.tp [6, 7]) tTrue (eCall (m_is_part N) (nA 2 (aCons (eVar 6) (aCons (eVar 7) aNil)))) [6, 7]) aNil))))))))
def m_is_row (N : Nat) : FM := fnM 8 (b_is_row N)
def LR.w : LR → Str
  | .join .. => "join" | .ask .. => "ask" | .leave .. => "leave" | .least .. => "least" | .most .. => "most" | .weight .. => "weight" | .serve .. => "serve"
end
end C
namespace C
open PySem G
noncomputable section
def b_first_odd (N : Nat) : SM := (sSeq (sIf (tNt (tT (eIsTy .tuple (eVar 0)))) (sRaiseF 17 4 (eC .non)) sNop)
    (sSeq (sSet 1 (eC .non))
    (sSeq (sFor (iEnum (aCons (eVar 0) aNil)) (gTp 2 (gsCons' (gN 2) (gsCons' (gN 3) gsNil))) (sSeq (sIf (tNt (tT (eCall (m_is_row N) (nA 2 (aCons (eVar 3) (aCons (eVar 1) aNil)))))) (sRet (eVar 2)) sNop)
    (sSet 1 (eVar 3))))
    (sRet (eIf (tOr' (tB (eBin dIs (eVar 1) (eC .non))) (tB (eBin dNe (eBinS ixD (eVar 1) (eC (.int 0))) (eC (.str "now"))))) (eCa fLen (aCons (eVar 0) aNil)) (eC .non))))))
def m_first_odd (N : Nat) : FM := fnM 4 (b_first_odd N)
def b_check_forms (N : Nat) : SM := (sSeq (sSet 1 (eCall (m_first_odd N) (nA 1 (aCons (eVar 0) aNil))))
    (sIf (tB (eBin dIsNot (eVar 1) (eC .non))) (sRaiseF 17 4 (eVar 1)) sNop))
def m_check_forms (N : Nat) : FM := fnM 2 (b_check_forms N)
end
end C
namespace C
open PySem G
noncomputable section
structure LkA where
  here : Bool
  ln : List Int
  o : Option Rat
  g : Rat
  h : Int
def LkA.C (k : LkA) (nm : Str) (b : Nat) : Cell := .obj 46 [(0, .str nm), (26, .bl k.here), (31, .loc b), (30, oD k.o), (22, rD k.g), (23, .int k.h)]
def LkA.H (k : LkA) (nm : Str) (a b : Nat) : HL := [(a, k.C nm b), (b, .lst (k.ln.map .int))]
def LkA.step (k : LkA) (nm : Str) (r : LR) : LkA := if r.nm = nm then match r with
    | .join t _ _ o h => ⟨true, [], o, t, h⟩
    | .ask _ _ z => { k with ln := k.ln ++ [z] }
    | .leave _ _ => { k with here := false, ln := [] }
    | .least _ _ _ => k
    | .most _ _ m => { k with o := m }
    | .weight _ _ h => { k with h := h }
    | .serve t _ z _ => { k with ln := k.ln.tail, g := gateB k.o k.g z t }
  else k
def LkA.run (k : LkA) (nm : Str) (l : List LR) : LkA := l.foldl (fun k r => k.step nm r) k
end
end C
namespace C
open PySem G
end C
namespace C
open PySem G
noncomputable section
def RS.q (s : RS) (nm : Str) : List Int := ((s.seats.find? fun x => decide (x.name = nm)).map (·.sz)).getD []
end
end C
namespace C
open PySem G
noncomputable section
theorem own_sep {S : Store} {L : HL} (hs : Sep S L) : Sep (S ++ [.lst [], .lst [], .lst [], .dk (Ow.new S.length).K]) ((Ow.new S.length).H ++ L) := by
  have h1 := hs.new0 (.lst [])
  have h2 := Sep.newM (L1 := [(S.length, Cell.lst [])]) (L2 := L) h1 (.lst [])
  have h3 := Sep.newM (L1 := [(S.length, Cell.lst []), ((S ++ [Cell.lst []]).length, Cell.lst [])]) (L2 := L) h2 (.lst [])
  have h4 := h3.new0 (.dk (Ow.new S.length).K)
  simp only [List.length_append, List.length_cons, List.length_nil, List.append_assoc, List.cons_append, List.nil_append, Nat.add_assoc, Nat.reduceAdd] at h4
  exact h4
theorem PS.own {S : Store} {n : Nat} {L : HL} (ps : PS S n L) : PS (S ++ [.lst [], .lst [], .lst [], .dk (Ow.new S.length).K]) n ((Ow.new S.length).H ++ L) := by
  refine ⟨ps.P.app _, own_sep ps.s, fun z => ?_⟩
  have hn : n < S.length := by
    obtain ⟨_, _, _, h, _⟩ := ps.P
    exact (List.getElem?_eq_some_iff.mp h).1
  rw [List.map_append] at z
  rcases List.mem_append.mp z with z | z
  · have z' : n ∈ [S.length + 3, S.length, S.length + 1, S.length + 2] := z
    simp only [List.mem_cons, List.not_mem_nil, or_false] at z'
    omega
  · exact ps.a z
end
end C
namespace C
open PySem G
end C
namespace C
open PySem G
end C
namespace Wk93
open PySem L2 G
noncomputable section
abbrev n__law_take : List Str := ["_law_pool_here", "_law_many", "_law_state", "_law_digit"]
abbrev p__law_take : List Str := ["_law_pool_here", "_law_many"]
theorem sc__law_take : FnScope n__law_take p__law_take (defScope s__law_take) := ⟨rfl, rfl, rfl, by decide +kernel, rfl, by decide +kernel, by decide +kernel⟩
abbrev n__law_odd_part : List Str := ["_law_pool_here", "_law_part", "_law_some"]
abbrev p__law_odd_part : List Str := ["_law_pool_here", "_law_part"]
theorem sc__law_odd_part : FnScope n__law_odd_part p__law_odd_part (defScope s__law_odd_part) := ⟨rfl, rfl, rfl, by decide +kernel, rfl, by decide +kernel, by decide +kernel⟩
abbrev n__law_bent_log : List Str := ["_law_pool_here", "_law_log", "_law_place", "_law_draw", "_law_row", "_law_k", "_law_bent"]
abbrev p__law_bent_log : List Str := ["_law_pool_here", "_law_log"]
theorem sc__law_bent_log : FnScope n__law_bent_log p__law_bent_log (defScope s__law_bent_log) := ⟨rfl, rfl, rfl, by decide +kernel, rfl, by decide +kernel, by decide +kernel⟩
abbrev n__law_cell : List Str := ["_law_script", "_law_k", "_law_state", "_law_cell_here"]
abbrev p__law_cell : List Str := ["_law_script", "_law_k"]
theorem sc__law_cell : FnScope n__law_cell p__law_cell (defScope s__law_cell) := ⟨rfl, rfl, rfl, by decide +kernel, rfl, by decide +kernel, by decide +kernel⟩
abbrev n__law_r : List Str := ["_law_top", "_law_bottom", "_law_one", "_law_rest"]
abbrev p__law_r : List Str := ["_law_top", "_law_bottom"]
theorem sc__law_r : FnScope n__law_r p__law_r (defScope s__law_r) := ⟨rfl, rfl, rfl, by decide +kernel, rfl, by decide +kernel, by decide +kernel⟩
abbrev n__law_add : List Str := ["_law_one", "_law_other"]
abbrev p__law_add : List Str := ["_law_one", "_law_other"]
theorem sc__law_add : FnScope n__law_add p__law_add (defScope s__law_add) := ⟨rfl, rfl, rfl, by decide +kernel, rfl, by decide +kernel, by decide +kernel⟩
abbrev n__law_moment : List Str := ["_law_pool_here", "_law_now"]
abbrev p__law_moment : List Str := ["_law_pool_here", "_law_now"]
theorem sc__law_moment : FnScope n__law_moment p__law_moment (defScope s__law_moment) := ⟨rfl, rfl, rfl, by decide +kernel, rfl, by decide +kernel, by decide +kernel⟩
abbrev n__law_name : List Str := ["_law_pool_here", "_law_used", "_law_own", "_law_name_here", "_law_others", "_law_letter", "_law_one", "_law_k"]
abbrev p__law_name : List Str := ["_law_pool_here", "_law_used"]
theorem sc__law_name : FnScope n__law_name p__law_name (defScope s__law_name) := ⟨rfl, rfl, rfl, by decide +kernel, rfl, by decide +kernel, by decide +kernel⟩
abbrev n__law_rate : List Str := ["_law_pool_here", "_law_bottom"]
abbrev p__law_rate : List Str := ["_law_pool_here"]
theorem sc__law_rate : FnScope n__law_rate p__law_rate (defScope s__law_rate) := ⟨rfl, rfl, rfl, by decide +kernel, rfl, by decide +kernel, by decide +kernel⟩
abbrev n__law_drawn_log : List Str := ["_law_pool_here", "_law_rows", "_law_now", "_law_turn", "_law_word", "_law_name_here", "_law_rate_here", "_law_limit", "_law_parts"]
abbrev p__law_drawn_log : List Str := ["_law_pool_here"]
theorem sc__law_drawn_log : FnScope n__law_drawn_log p__law_drawn_log (defScope s__law_drawn_log) := ⟨rfl, rfl, rfl, by decide +kernel, rfl, by decide +kernel, by decide +kernel⟩
abbrev n__law_pool : List Str := ["_law_cell_here", "_law_digits"]
abbrev p__law_pool : List Str := ["_law_cell_here"]
theorem sc__law_pool : FnScope n__law_pool p__law_pool (defScope s__law_pool) := ⟨rfl, rfl, rfl, by decide +kernel, rfl, by decide +kernel, by decide +kernel⟩
abbrev n_is_whole : List Str := ["thing"]
abbrev p_is_whole : List Str := ["thing"]
theorem sc_is_whole : FnScope n_is_whole p_is_whole (defScope s_is_whole) := ⟨rfl, rfl, rfl, by decide +kernel, rfl, by decide +kernel, by decide +kernel⟩
abbrev n_shared : List Str := ["one", "other"]
abbrev p_shared : List Str := ["one", "other"]
theorem sc_shared : FnScope n_shared p_shared (defScope s_shared) := ⟨rfl, rfl, rfl, by decide +kernel, rfl, by decide +kernel, by decide +kernel⟩
abbrev n_is_ratio : List Str := ["thing", "top", "bottom", "part"]
abbrev p_is_ratio : List Str := ["thing"]
theorem sc_is_ratio : FnScope n_is_ratio p_is_ratio (defScope s_is_ratio) := ⟨rfl, rfl, rfl, by decide +kernel, rfl, by decide +kernel, by decide +kernel⟩
abbrev n_check_ratio : List Str := ["thing"]
abbrev p_check_ratio : List Str := ["thing"]
theorem sc_check_ratio : FnScope n_check_ratio p_check_ratio (defScope s_check_ratio) := ⟨rfl, rfl, rfl, by decide +kernel, rfl, by decide +kernel, by decide +kernel⟩
abbrev n_check_two : List Str := ["one", "other"]
abbrev p_check_two : List Str := ["one", "other"]
theorem sc_check_two : FnScope n_check_two p_check_two (defScope s_check_two) := ⟨rfl, rfl, rfl, by decide +kernel, rfl, by decide +kernel, by decide +kernel⟩
abbrev n_is_before : List Str := ["one", "other"]
abbrev p_is_before : List Str := ["one", "other"]
theorem sc_is_before : FnScope n_is_before p_is_before (defScope s_is_before) := ⟨rfl, rfl, rfl, by decide +kernel, rfl, by decide +kernel, by decide +kernel⟩
abbrev n_is_rate : List Str := ["thing"]
abbrev p_is_rate : List Str := ["thing"]
theorem sc_is_rate : FnScope n_is_rate p_is_rate (defScope s_is_rate) := ⟨rfl, rfl, rfl, by decide +kernel, rfl, by decide +kernel, by decide +kernel⟩
abbrev n_is_time : List Str := ["thing"]
abbrev p_is_time : List Str := ["thing"]
theorem sc_is_time : FnScope n_is_time p_is_time (defScope s_is_time) := ⟨rfl, rfl, rfl, by decide +kernel, rfl, by decide +kernel, by decide +kernel⟩
abbrev n_is_least : List Str := ["thing"]
abbrev p_is_least : List Str := ["thing"]
theorem sc_is_least : FnScope n_is_least p_is_least (defScope s_is_least) := ⟨rfl, rfl, rfl, by decide +kernel, rfl, by decide +kernel, by decide +kernel⟩
abbrev n_is_most : List Str := ["thing"]
abbrev p_is_most : List Str := ["thing"]
theorem sc_is_most : FnScope n_is_most p_is_most (defScope s_is_most) := ⟨rfl, rfl, rfl, by decide +kernel, rfl, by decide +kernel, by decide +kernel⟩
abbrev n_is_name : List Str := ["thing", "sign"]
abbrev p_is_name : List Str := ["thing"]
theorem sc_is_name : FnScope n_is_name p_is_name (defScope s_is_name) := ⟨rfl, rfl, rfl, by decide +kernel, rfl, by decide +kernel, by decide +kernel⟩
abbrev n_is_within : List Str := ["thing", "most"]
abbrev p_is_within : List Str := ["thing", "most"]
theorem sc_is_within : FnScope n_is_within p_is_within (defScope s_is_within) := ⟨rfl, rfl, rfl, by decide +kernel, rfl, by decide +kernel, by decide +kernel⟩
abbrev n_is_size : List Str := ["thing"]
abbrev p_is_size : List Str := ["thing"]
theorem sc_is_size : FnScope n_is_size p_is_size (defScope s_is_size) := ⟨rfl, rfl, rfl, by decide +kernel, rfl, by decide +kernel, by decide +kernel⟩
abbrev n_is_way : List Str := ["thing"]
abbrev p_is_way : List Str := ["thing"]
theorem sc_is_way : FnScope n_is_way p_is_way (defScope s_is_way) := ⟨rfl, rfl, rfl, by decide +kernel, rfl, by decide +kernel, by decide +kernel⟩
abbrev n_is_weight : List Str := ["thing"]
abbrev p_is_weight : List Str := ["thing"]
theorem sc_is_weight : FnScope n_is_weight p_is_weight (defScope s_is_weight) := ⟨rfl, rfl, rfl, by decide +kernel, rfl, by decide +kernel, by decide +kernel⟩
abbrev n_is_part : List Str := ["sort", "thing", "look"]
abbrev p_is_part : List Str := ["sort", "thing"]
theorem sc_is_part : FnScope n_is_part p_is_part (defScope s_is_part) := ⟨rfl, rfl, rfl, by decide +kernel, rfl, by decide +kernel, by decide +kernel⟩
abbrev n_is_row : List Str := ["thing", "ahead", "word", "time", "parts", "sorts", "sort", "part"]
abbrev p_is_row : List Str := ["thing", "ahead"]
theorem sc_is_row : FnScope n_is_row p_is_row (defScope s_is_row) := ⟨rfl, rfl, rfl, by decide +kernel, rfl, by decide +kernel, by decide +kernel⟩
abbrev n_first_odd : List Str := ["log", "ahead", "number", "row"]
abbrev p_first_odd : List Str := ["log"]
theorem sc_first_odd : FnScope n_first_odd p_first_odd (defScope s_first_odd) := ⟨rfl, rfl, rfl, by decide +kernel, rfl, by decide +kernel, by decide +kernel⟩
abbrev n_check_forms : List Str := ["log", "odd"]
abbrev p_check_forms : List Str := ["log"]
theorem sc_check_forms : FnScope n_check_forms p_check_forms (defScope s_check_forms) := ⟨rfl, rfl, rfl, by decide +kernel, rfl, by decide +kernel, by decide +kernel⟩
abbrev n_show_ratio : List Str := ["one", "top", "bottom"]
abbrev p_show_ratio : List Str := ["one"]
theorem sc_show_ratio : FnScope n_show_ratio p_show_ratio (defScope s_show_ratio) := ⟨rfl, rfl, rfl, by decide +kernel, rfl, by decide +kernel, by decide +kernel⟩
abbrev n_show_part : List Str := ["part"]
abbrev p_show_part : List Str := ["part"]
theorem sc_show_part : FnScope n_show_part p_show_part (defScope s_show_part) := ⟨rfl, rfl, rfl, by decide +kernel, rfl, by decide +kernel, by decide +kernel⟩
abbrev n_show_row : List Str := ["row", "word", "time", "parts", "part"]
abbrev p_show_row : List Str := ["row"]
theorem sc_show_row : FnScope n_show_row p_show_row (defScope s_show_row) := ⟨rfl, rfl, rfl, by decide +kernel, rfl, by decide +kernel, by decide +kernel⟩
abbrev n_show_log : List Str := ["log", "row"]
abbrev p_show_log : List Str := ["log"]
theorem sc_show_log : FnScope n_show_log p_show_log (defScope s_show_log) := ⟨rfl, rfl, rfl, by decide +kernel, rfl, by decide +kernel, by decide +kernel⟩
abbrev n__law_refused : List Str := ["_law_log", "e"]
abbrev p__law_refused : List Str := ["_law_log"]
theorem sc__law_refused : FnScope n__law_refused p__law_refused (defScope s__law_refused) := ⟨rfl, rfl, rfl, by decide +kernel, rfl, by decide +kernel, by decide +kernel⟩
abbrev n__law_less : List Str := ["_law_one", "_law_other"]
abbrev p__law_less : List Str := ["_law_one", "_law_other"]
theorem sc__law_less : FnScope n__law_less p__law_less (defScope s__law_less) := ⟨rfl, rfl, rfl, by decide +kernel, rfl, by decide +kernel, by decide +kernel⟩
abbrev n__law_name_so : List Str := ["_law_thing", "_law_sign"]
abbrev p__law_name_so : List Str := ["_law_thing"]
theorem sc__law_name_so : FnScope n__law_name_so p__law_name_so (defScope s__law_name_so) := ⟨rfl, rfl, rfl, by decide +kernel, rfl, by decide +kernel, by decide +kernel⟩
abbrev n__law_ratio_so : List Str := ["_law_thing", "_law_part"]
abbrev p__law_ratio_so : List Str := ["_law_thing"]
theorem sc__law_ratio_so : FnScope n__law_ratio_so p__law_ratio_so (defScope s__law_ratio_so) := ⟨rfl, rfl, rfl, by decide +kernel, rfl, by decide +kernel, by decide +kernel⟩
abbrev n__law_rate_so : List Str := ["_law_thing"]
abbrev p__law_rate_so : List Str := ["_law_thing"]
theorem sc__law_rate_so : FnScope n__law_rate_so p__law_rate_so (defScope s__law_rate_so) := ⟨rfl, rfl, rfl, by decide +kernel, rfl, by decide +kernel, by decide +kernel⟩
abbrev n__law_whole_so : List Str := ["_law_thing", "_law_high"]
abbrev p__law_whole_so : List Str := ["_law_thing", "_law_high"]
theorem sc__law_whole_so : FnScope n__law_whole_so p__law_whole_so (defScope s__law_whole_so) := ⟨rfl, rfl, rfl, by decide +kernel, rfl, by decide +kernel, by decide +kernel⟩
abbrev n__law_part_so : List Str := ["_law_sort", "_law_thing"]
abbrev p__law_part_so : List Str := ["_law_sort", "_law_thing"]
theorem sc__law_part_so : FnScope n__law_part_so p__law_part_so (defScope s__law_part_so) := ⟨rfl, rfl, rfl, by decide +kernel, rfl, by decide +kernel, by decide +kernel⟩
abbrev n__law_row_so : List Str := ["_law_thing", "_law_ahead", "_law_forms", "_law_form", "_law_k"]
abbrev p__law_row_so : List Str := ["_law_thing", "_law_ahead"]
theorem sc__law_row_so : FnScope n__law_row_so p__law_row_so (defScope s__law_row_so) := ⟨rfl, rfl, rfl, by decide +kernel, rfl, by decide +kernel, by decide +kernel⟩
abbrev n__law_odd_row : List Str := ["_law_log", "_law_ahead", "_law_number", "_law_row"]
abbrev p__law_odd_row : List Str := ["_law_log"]
theorem sc__law_odd_row : FnScope n__law_odd_row p__law_odd_row (defScope s__law_odd_row) := ⟨rfl, rfl, rfl, by decide +kernel, rfl, by decide +kernel, by decide +kernel⟩
abbrev n_is_log : List Str := ["thing"]
abbrev p_is_log : List Str := ["thing"]
theorem sc_is_log : FnScope n_is_log p_is_log (defScope s_is_log) := ⟨rfl, rfl, rfl, by decide +kernel, rfl, by decide +kernel, by decide +kernel⟩
abbrev n__law_thing_right : List Str := ["_law_thing", "_law_odd", "_law_found"]
abbrev p__law_thing_right : List Str := ["_law_thing"]
theorem sc__law_thing_right : FnScope n__law_thing_right p__law_thing_right (defScope s__law_thing_right) := ⟨rfl, rfl, rfl, by decide +kernel, rfl, by decide +kernel, by decide +kernel⟩
abbrev n_law : List Str := ["_law_script", "_law_k", "_law_pool_here", "_law_log", "_law_turn", "_law_thing", "_law_bent"]
abbrev p_law : List Str := ["_law_script"]
theorem sc_law : FnScope n_law p_law (defScope s_law) := ⟨rfl, rfl, rfl, by decide +kernel, rfl, by decide +kernel, by decide +kernel⟩
abbrev rsL : List Nat := [3, 17]
theorem sc_NoLog___init__ : FnScope ["self", "row"] ["self", "row"] (defScope s_NoLog___init__) := ⟨rfl, rfl, rfl, by decide +kernel, rfl, by decide +kernel, by decide +kernel⟩
def b__law_odd_part (N : Nat) : SM := (sSeq (sSet 2 (eLst (aCons (eC .non) (aCons (eC (.bl true)) (aCons (eC (.bl false)) (aCons (eC (.int 0)) (aCons (eC (.int 1)) (aCons (eNeg (eC (.int 1))) (aCons (eC (.str "")) (aCons (eC (.str "a")) (aCons (eC (.str "A")) (aCons (eC (.str "least")) (aCons (eTup aNil) (aCons (eLst aNil) (aCons (eC (.dic [] [])) (aCons (eTup (aCons (eC (.int 0)) (aCons (eC (.int 1)) aNil))) (aCons (eTup (aCons (eC (.int 1)) (aCons (eC (.int 2)) aNil))) (aCons (eTup (aCons (eC (.int 2)) (aCons (eC (.int 4)) aNil))) (aCons (eTup (aCons (eC (.int 3)) (aCons (eC (.int 2)) aNil))) (aCons (eTup (aCons (eNeg (eC (.int 1))) (aCons (eC (.int 2)) aNil))) aNil))))))))))))))))))))
    (sRet (eBinS ixD (eBinS dAddS (eVar 2) (eLst (aCons (eLst (aCons (eVar 1) aNil)) (aCons (eC (.int 99)) (aCons (eC (.int 100)) (aCons (eC (.int 999)) (aCons (eC (.int 1000)) (aCons (eC (.str "aaaaaaaa")) (aCons (eC (.str "aaaaaaaaa")) (aCons (eTup (aCons (eC (.bl true)) (aCons (eC (.int 1)) aNil))) (aCons (eTup (aCons (eC (.int 1)) (aCons (eC (.int 1)) aNil))) aNil))))))))))) (eCall (C.m__law_take N) (nA 2 (aCons (eVar 0) (aCons (eC (.int 27)) aNil)))))))
def m__law_odd_part (N : Nat) : FM := fnM 3 (b__law_odd_part N)
def b__law_bent_log (N : Nat) : SM := (sSeq (sPar 2 3 (aCons (eCall (C.m__law_take N) (nA 2 (aCons (eVar 0) (aCons (eCa fLen (aCons (eVar 1) aNil)) aNil)))) (aCons (eCall (C.m__law_take N) (nA 2 (aCons (eVar 0) (aCons (eC (.int 8)) aNil)))) aNil)))
    (sSeq (sSet 4 (eBinS ixD (eVar 1) (eVar 2)))
    (sSeq (sIf (tB (eBin dEq (eVar 3) (eC (.int 0)))) (sRet (eBinS dAddE (eSl (eVar 1) oNone (oSome (eVar 2))) (eSl (eVar 1) (oSome (eBinS dAddE (eVar 2) (eC (.int 1)))) oNone))) sNop)
    (sSeq (sIf (tB (eBin dEq (eVar 3) (eC (.int 1)))) (sRet (eBinS dAddE (eBinS dAddE (eSl (eVar 1) oNone (oSome (eVar 2))) (eTup (aCons (eVar 4) (aCons (eVar 4) aNil)))) (eSl (eVar 1) (oSome (eBinS dAddE (eVar 2) (eC (.int 1)))) oNone))) sNop)
    (sSeq (sIf (tB (eBin dEq (eVar 3) (eC (.int 2)))) (sRet (eCa fList (aCons (eVar 1) aNil))) sNop)
    (sSeq (sIf (tB (eBin dEq (eVar 3) (eC (.int 3)))) (sRet (eBinS dAddE (eBinS dAddE (eSl (eVar 1) oNone (oSome (eVar 2))) (eTup (aCons (eBinS ixD (eLst (aCons (eBinS dAddE (eVar 4) (eTup (aCons (eC (.int 1)) aNil))) (aCons (eSl (eVar 4) oNone (oSome (eNeg (eC (.int 1))))) aNil))) (eBin dMod (eVar 2) (eC (.int 2)))) aNil))) (eSl (eVar 1) (oSome (eBinS dAddE (eVar 2) (eC (.int 1)))) oNone))) sNop)
    (sSeq (sIf (tB (eBin dEq (eVar 3) (eC (.int 7)))) (sRet (eBinS dAddE (eBinS dAddE (eSl (eVar 1) oNone (oSome (eVar 2))) (eTup (aCons (eCa fList (aCons (eVar 4) aNil)) aNil))) (eSl (eVar 1) (oSome (eBinS dAddE (eVar 2) (eC (.int 1)))) oNone))) sNop)
    (sSeq (sIf (tB (eBin dEq (eVar 3) (eC (.int 4)))) (sRet (eBinS dAddE (eBinS dAddE (eSl (eVar 1) oNone (oSome (eVar 2))) (eTup (aCons (eBinS dAddE (eTup (aCons (eBinS ixD (eVar 4) (eC (.int 0))) (aCons (eTup (aCons (eVar 2) (aCons (eC (.int 1)) aNil))) aNil))) (eSl (eVar 4) (oSome (eC (.int 2))) oNone)) aNil))) (eSl (eVar 1) (oSome (eBinS dAddE (eVar 2) (eC (.int 1)))) oNone))) sNop)
    (sSeq (sSet 5 (eCall (C.m__law_take N) (nA 2 (aCons (eVar 0) (aCons (eCa fLen (aCons (eVar 4) aNil)) aNil)))))
    (sSeq (sSet 6 (eBinS dAddE (eBinS dAddE (eSl (eVar 4) oNone (oSome (eVar 5))) (eTup (aCons (eCall (m__law_odd_part N) (nA 2 (aCons (eVar 0) (aCons (eBinS ixD (eVar 4) (eVar 5)) aNil)))) aNil))) (eSl (eVar 4) (oSome (eBinS dAddE (eVar 5) (eC (.int 1)))) oNone)))
    (sRet (eBinS dAddE (eBinS dAddE (eSl (eVar 1) oNone (oSome (eVar 2))) (eTup (aCons (eVar 6) aNil))) (eSl (eVar 1) (oSome (eBinS dAddE (eVar 2) (eC (.int 1)))) oNone)))))))))))))
def m__law_bent_log (N : Nat) : FM := fnM 7 (b__law_bent_log N)
def b__law_drawn_log (N : Nat) : SM := (sSeq (sPar 1 2 (aCons (eNew aNil) (aCons (eTup (aCons (eC (.int 0)) (aCons (eC (.int 1)) aNil))) aNil)))
    (sSeq (sFor (iRg1 (aCons (eCall (C.m__law_take N) (nA 2 (aCons (eVar 0) (aCons (eC (.int 14)) aNil)))) aNil)) (gN 3) (sSeq (sSet 2 (eCall (C.m__law_moment N) (nA 2 (aCons (eVar 0) (aCons (eVar 2) aNil)))))
    (sSeq (sSet 4 (eBinS ixD (eLst (aCons (eC (.str "join")) (aCons (eC (.str "ask")) (aCons (eC (.str "leave")) (aCons (eC (.str "least")) (aCons (eC (.str "most")) (aCons (eC (.str "weight")) (aCons (eC (.str "serve")) aNil)))))))) (eCall (C.m__law_take N) (nA 2 (aCons (eVar 0) (aCons (eC (.int 7)) aNil))))))
    (sSeq (sSet 5 (eCall (C.m__law_name N) (nA 2 (aCons (eVar 0) (aCons (eLst aNil) aNil)))))
    (sSeq (sSet 6 (eBinS ixD (eLst (aCons (eTup (aCons (eC (.int 0)) (aCons (eC (.int 1)) aNil))) (aCons (eTup (aCons (eC (.int 1)) (aCons (eC (.int 1)) aNil))) (aCons (eCall (C.m__law_rateS N) (nA 1 (aCons (eVar 0) aNil))) (aCons (eTup (aCons (eBinS dAddE (eC (.int 1)) (eCall (C.m__law_take N) (nA 2 (aCons (eVar 0) (aCons (eBin dPow (eC (.int 10)) (eC (.int 9))) aNil))))) (aCons (eBin dMul (eC (.int 2)) (eBin dPow (eC (.int 10)) (eC (.int 9)))) aNil))) aNil))))) (eCall (C.m__law_take N) (nA 2 (aCons (eVar 0) (aCons (eC (.int 4)) aNil))))))
    (sSeq (sSet 6 (eCall (C.m__law_r N) (nA 2 (aCons (eBinS ixD (eVar 6) (eC (.int 0))) (aCons (eBinS ixD (eVar 6) (eC (.int 1))) aNil)))))
    (sSeq (sSet 7 (eBinS ixD (eLst (aCons (eC .non) (aCons (eTup (aCons (eC (.int 1)) (aCons (eC (.int 1)) aNil))) (aCons (eCall (C.m__law_rateS N) (nA 1 (aCons (eVar 0) aNil))) aNil)))) (eCall (C.m__law_take N) (nA 2 (aCons (eVar 0) (aCons (eC (.int 3)) aNil))))))
    (sSeq (sSet 8 (eDisp ["join", "ask", "leave"] (aCons (eNx (eTup (aCons (eVar 6) (aCons (eVar 7) (aCons (eBinS dAddE (eC (.int 1)) (eCall (C.m__law_take N) (nA 2 (aCons (eVar 0) (aCons (eC (.int 99)) aNil))))) aNil))))) (aCons (eNx (eTup (aCons (eBinS dAddE (eC (.int 1)) (eCall (C.m__law_take N) (nA 2 (aCons (eVar 0) (aCons (eC (.int 999)) aNil))))) aNil))) (aCons (eTup aNil) aNil)))))
    (sSeq (sDrop (eDkU (eVar 8) (eDisp ["least", "most", "weight"] (aCons (eTup (aCons (eVar 6) aNil)) (aCons (eTup (aCons (eVar 7) aNil)) (aCons (eNx (eTup (aCons (eBinS dAddE (eC (.int 1)) (eCall (C.m__law_take N) (nA 2 (aCons (eVar 0) (aCons (eC (.int 99)) aNil))))) aNil))) aNil))))))
    (sSeq (sAsg (eTup (aCons (eBinS dAddE (eC (.int 1)) (eCall (C.m__law_take N) (nA 2 (aCons (eVar 0) (aCons (eC (.int 999)) aNil))))) (aCons (eBinS ixD (eLst (aCons (eC (.str "least")) (aCons (eC (.str "share")) aNil))) (eCall (C.m__law_take N) (nA 2 (aCons (eVar 0) (aCons (eC (.int 2)) aNil))))) aNil))) (gSbE (eVar 8) (eC (.str "serve"))))
    (sDrop (eApp (eVar 1) (aCons (eBinS dAddE (eTup (aCons (eVar 4) (aCons (eVar 2) (aCons (eVar 5) aNil)))) (eBinS ixE (eVar 8) (eVar 4))) aNil)))))))))))))
    (sRet (eBinS dAddE (eCa fTuple (aCons (eVar 1) aNil)) (eTup (aCons (eTup (aCons (eC (.str "now")) (aCons (eCall (C.m__law_moment N) (nA 2 (aCons (eVar 0) (aCons (eVar 2) aNil)))) aNil))) aNil))))))
def m__law_drawn_log (N : Nat) : FM := fnM 9 (b__law_drawn_log N)
def b_is_least (N : Nat) : SM := (sRet (eOr (eAn (eBin dEqU (eVar 0) (eC (.tup [.int 0, .int 1]))) (eCall (C.m_is_time N) (nA 1 (aCons (eVar 0) aNil)))) (eCall (C.m_is_rate N) (nA 1 (aCons (eVar 0) aNil)))))
def m_is_least (N : Nat) : FM := fnM 1 (b_is_least N)
def b_is_part (N : Nat) : SM := (sTabCall 2 [("name", 1, C.m_is_name N), ("least", 1, m_is_least N), ("most", 1, C.m_is_most N), ("weight", 1, C.m_is_weight_logs N), ("size", 1, C.m_is_size N), ("way", 1, C.m_is_way N)] (eVar 0) (aCons (eVar 1) aNil))
def m_is_part (N : Nat) : FM := fnM 3 (b_is_part N)
def b_is_row (N : Nat) : SM := (sSeq (sIf (tOr' (tNt (tT (eIsTy .tuple (eVar 0)))) (tOr' (tB (eBin dLt (eCa fLen (aCons (eVar 0) aNil)) (eC (.int 2)))) (tOr' (tNt (tT (eIsTy .str (eBinS ixD (eVar 0) (eC (.int 0)))))) (tB (eTabIn true C.td_PARTS (eBinS ixD (eVar 0) (eC (.int 0)))))))) (sRet (eC (.bl false))) sNop)
    (sSeq (sAsg (eVar 0) (gStr 2 (gsCons' (gN 2) (gsCons' (gN 3) (gsCons' (gN 4) gsNil)))))
    (sSeq (sSet 5 (eTabIx C.td_PARTS (eVar 2)))
    (sSeq (sIf (tOr' (tNt (tT (eCall (C.m_is_time N) (nA 1 (aCons (eVar 3) aNil))))) (tB (eBin dNe (eCa fLen (aCons (eVar 4) aNil)) (eCa fLen (aCons (eVar 5) aNil))))) (sRet (eC (.bl false))) sNop)
    (sSeq (sIf (tAn (tB (eBin dIsNot (eVar 1) (eC .non))) (tOr' (tB (eBin dEq (eBinS ixD (eVar 1) (eC (.int 0))) (eC (.str "now")))) (tT (eCall (C.m_is_before N) (nA 2 (aCons (eVar 3) (aCons (eBinS ixD (eVar 1) (eC (.int 1))) aNil))))))) (sRet (eC (.bl false))) sNop)
    (sRet (eCa fAll (aCons (eLc (iZipM (aCons (eVar 5) (aCons (eVar 4) aNil))) (.tp [6, 7]) tTrue (eCall (m_is_part N) (nA 2 (aCons (eVar 6) (aCons (eVar 7) aNil)))) [6, 7]) aNil))))))))
def m_is_row (N : Nat) : FM := fnM 8 (b_is_row N)
def b_first_odd (N : Nat) : SM := (sSeq (sIf (tNt (tT (eIsTy .tuple (eVar 0)))) (sRaiseF 17 4 (eC .non)) sNop)
    (sSeq (sSet 1 (eC .non))
    (sSeq (sFor (iEnum (aCons (eVar 0) aNil)) (gTp 2 (gsCons' (gN 2) (gsCons' (gN 3) gsNil))) (sSeq (sIf (tNt (tT (eCall (m_is_row N) (nA 2 (aCons (eVar 3) (aCons (eVar 1) aNil)))))) (sRet (eVar 2)) sNop)
    (sSet 1 (eVar 3))))
    (sRet (eIf (tOr' (tB (eBin dIs (eVar 1) (eC .non))) (tB (eBin dNe (eBinS ixD (eVar 1) (eC (.int 0))) (eC (.str "now"))))) (eCa fLen (aCons (eVar 0) aNil)) (eC .non))))))
def m_first_odd (N : Nat) : FM := fnM 4 (b_first_odd N)
def b_check_forms (N : Nat) : SM := (sSeq (sSet 1 (eCall (m_first_odd N) (nA 1 (aCons (eVar 0) aNil))))
    (sIf (tB (eBin dIsNot (eVar 1) (eC .non))) (sRaiseF 17 4 (eVar 1)) sNop))
def m_check_forms (N : Nat) : FM := fnM 2 (b_check_forms N)
def b_show_part (N : Nat) : SM := (sSeq (sIf (tOr' (tB (eBin dIs (eVar 0) (eC .non))) (tB (eBin dEq (eVar 0) (eC (.tup [.int 0, .int 1]))))) (sRet (eC (.str "-"))) sNop)
    (sSeq (sIf (tT (eIsTy .tuple (eVar 0))) (sRet (eCall (C.m_show_ratio N) (nA 1 (aCons (eVar 0) aNil)))) sNop)
    (sRet (eCa fStr (aCons (eVar 0) aNil)))))
def m_show_part (N : Nat) : FM := fnM 1 (b_show_part N)
def b_show_row (N : Nat) : SM := (sSeq (sAsg (eVar 0) (gStr 2 (gsCons' (gN 1) (gsCons' (gN 2) (gsCons' (gN 3) gsNil)))))
    (sRet (eTm fJoin (eC (.str " ")) (aCons (eBinS dAddS (eLst (aCons (eVar 1) (aCons (eCall (C.m_show_ratio N) (nA 1 (aCons (eVar 2) aNil))) aNil))) (eLc (iSeq (eVar 3)) (.nm 4) tTrue (eCall (m_show_part N) (nA 1 (aCons (eVar 4) aNil))) [4])) aNil))))
def m_show_row (N : Nat) : FM := fnM 5 (b_show_row N)
def b_show_log (N : Nat) : SM := (sSeq (sDrop (eCall (m_check_forms N) (nA 1 (aCons (eVar 0) aNil))))
    (sRet (eTm fJoin (eC (.str "\n")) (aCons (eLc (iSeq (eVar 0)) (.nm 1) tTrue (eCall (m_show_row N) (nA 1 (aCons (eVar 1) aNil))) [1]) aNil))))
def m_show_log (N : Nat) : FM := fnM 2 (b_show_log N)
def b__law_refused (N : Nat) : SM := (sSeq (sTry 1 (tbR rsL 0) (sDrop (eCall (m_show_log N) (nA 1 (aCons (eVar 0) aNil)))) (sSeq (sIf (tOr' (tNt (tT (eIsY (tbR rsL 17) (eVar 1)))) (tOr' (tT (eIsY (tbAny [tbR rsL 1, tbR rsL 2]) (eVar 1))) (tNt (tT (eIsY (tbR rsL 100) (eVar 1)))))) (sRet (eLst (aCons (eC (.str "other")) aNil))) sNop)
    (sRet (eLst (aCons (eFldY [17] 4 (eVar 1)) aNil)))))
    (sRet (eC .non)))
def m__law_refused (N : Nat) : FM := fnM 2 (b__law_refused N)
def b__law_ratio_so (N : Nat) : SM := (sSeq (sIf (tOr' (tNt (tT (eIsTy .tuple (eVar 0)))) (tB (eBin dNe (eCa fLen (aCons (eVar 0) aNil)) (eC (.int 2))))) (sRet (eC (.bl false))) sNop)
    (sSeq (sIf (tNt (tT (eCa fAll (aCons (eLc (iSeq (eVar 0)) (.nm 1) tTrue (eAn (eIsTy .int (eVar 1)) (eNt (eIsTy .bool (eVar 1)))) [1]) aNil)))) (sRet (eC (.bl false))) sNop)
    (sRet (eAn (eBin dGt (eBinS ixD (eVar 0) (eC (.int 1))) (eC (.int 0))) (eBin dEq (eCall (C.m__law_r N) (nA 2 (aCons (eBinS ixD (eVar 0) (eC (.int 0))) (aCons (eBinS ixD (eVar 0) (eC (.int 1))) aNil)))) (eVar 0))))))
def m__law_ratio_so (N : Nat) : FM := fnM 2 (b__law_ratio_so N)
def b__law_rate_so (N : Nat) : SM := (sRet (eAn (eCall (m__law_ratio_so N) (nA 1 (aCons (eVar 0) aNil))) (eChain dLt dLe (eC (.int 0)) (eBinS ixD (eVar 0) (eC (.int 0))) (eBinS ixD (eVar 0) (eC (.int 1))))))
def m__law_rate_so (N : Nat) : FM := fnM 1 (b__law_rate_so N)
def b__law_part_so (N : Nat) : SM := (sSeq (sIf (tB (eBin dEq (eVar 0) (eC (.str "n")))) (sRet (eCall (C.m_is_name N) (nA 1 (aCons (eVar 1) aNil)))) sNop)
    (sSeq (sIf (tB (eBin dEq (eVar 0) (eC (.str "l")))) (sRet (eOr (eCall (m__law_rate_so N) (nA 1 (aCons (eVar 1) aNil))) (eAn (eCall (m__law_ratio_so N) (nA 1 (aCons (eVar 1) aNil))) (eBin dEq (eVar 1) (eTup (aCons (eC (.int 0)) (aCons (eC (.int 1)) aNil))))))) sNop)
    (sSeq (sIf (tB (eBin dEq (eVar 0) (eC (.str "m")))) (sRet (eOr (eBin dIs (eVar 1) (eC .non)) (eCall (m__law_rate_so N) (nA 1 (aCons (eVar 1) aNil))))) sNop)
    (sSeq (sIf (tB (eBin dEq (eVar 0) (eC (.str "r")))) (sRet (eAn (eIsTy .str (eVar 1)) (eBinS (dInL false) (eVar 1) (eLst (aCons (eC (.str "least")) (aCons (eC (.str "share")) aNil)))))) sNop)
    (sRet (eCall (C.m_is_within N) (nA 2 (aCons (eVar 1) (aCons (eBinS ixE (eDisp ["w", "s"] (aCons (eC (.int 99)) (aCons (eC (.int 999)) aNil))) (eVar 0)) aNil)))))))))
def m__law_part_so (N : Nat) : FM := fnM 2 (b__law_part_so N)
def b__law_row_so (N : Nat) : SM := (sSeq (sSet 2 (eDisp ["join", "ask", "leave", "least", "most", "weight", "now"] (aCons (eC (.str "nlmw")) (aCons (eC (.str "ns")) (aCons (eC (.str "n")) (aCons (eC (.str "nl")) (aCons (eC (.str "nm")) (aCons (eC (.str "nw")) (aCons (eC (.str "")) aNil)))))))))
    (sSeq (sAsg (eC (.str "nsr")) (gSbE (eVar 2) (eC (.str "serve"))))
    (sSeq (sIf (tOr' (tNt (tT (eIsTy .tuple (eVar 0)))) (tOr' (tB (eBin dLt (eCa fLen (aCons (eVar 0) aNil)) (eC (.int 2)))) (tOr' (tNt (tT (eIsTy .str (eBinS ixD (eVar 0) (eC (.int 0)))))) (tB (eBinS (dInK true) (eBinS ixD (eVar 0) (eC (.int 0))) (eVar 2)))))) (sRet (eC (.bl false))) sNop)
    (sSeq (sSet 3 (eBinS ixE (eVar 2) (eBinS ixD (eVar 0) (eC (.int 0)))))
    (sSeq (sIf (tOr' (tNt (tT (eCall (m__law_ratio_so N) (nA 1 (aCons (eBinS ixD (eVar 0) (eC (.int 1))) aNil))))) (tOr' (tB (eBin dLt (eBinS ixD (eBinS ixD (eVar 0) (eC (.int 1))) (eC (.int 0))) (eC (.int 0)))) (tB (eBin dNe (eCa fLen (aCons (eVar 0) aNil)) (eBinS dAddS (eC (.int 2)) (eCa fLen (aCons (eVar 3) aNil))))))) (sRet (eC (.bl false))) sNop)
    (sSeq (sIf (tAn (tB (eBin dIsNot (eVar 1) (eC .non))) (tOr' (tB (eBin dEq (eBinS ixD (eVar 1) (eC (.int 0))) (eC (.str "now")))) (tT (eCall (C.m__law_less N) (nA 2 (aCons (eBinS ixD (eVar 0) (eC (.int 1))) (aCons (eBinS ixD (eVar 1) (eC (.int 1))) aNil))))))) (sRet (eC (.bl false))) sNop)
    (sRet (eCa fAll (aCons (eLc (iRg1 (aCons (eCa fLen (aCons (eVar 3) aNil)) aNil)) (.nm 4) tTrue (eCall (m__law_part_so N) (nA 2 (aCons (eBinS ixD (eVar 3) (eVar 4)) (aCons (eBinS ixD (eVar 0) (eBinS dAddS (eC (.int 2)) (eVar 4))) aNil)))) [4]) aNil)))))))))
def m__law_row_so (N : Nat) : FM := fnM 5 (b__law_row_so N)
def b__law_odd_row (N : Nat) : SM := (sSeq (sSet 1 (eC .non))
    (sSeq (sFor (iEnum (aCons (eVar 0) aNil)) (gTp 2 (gsCons' (gN 2) (gsCons' (gN 3) gsNil))) (sSeq (sIf (tNt (tT (eCall (m__law_row_so N) (nA 2 (aCons (eVar 3) (aCons (eVar 1) aNil)))))) (sRet (eVar 2)) sNop)
    (sSet 1 (eVar 3))))
    (sRet (eIf (tOr' (tB (eBin dIs (eVar 1) (eC .non))) (tB (eBin dNe (eBinS ixD (eVar 1) (eC (.int 0))) (eC (.str "now"))))) (eCa fLen (aCons (eVar 0) aNil)) (eC .non)))))
def m__law_odd_row (N : Nat) : FM := fnM 4 (b__law_odd_row N)
def b_is_log (N : Nat) : SM := (sRet (eAn (eIsTy .tuple (eVar 0)) (eBin dIs (eCall (m_first_odd N) (nA 1 (aCons (eVar 0) aNil))) (eC .non))))
def m_is_log (N : Nat) : FM := fnM 1 (b_is_log N)
def b__law_thing_right (N : Nat) : SM := (sSeq (sSet 1 (eIf (tT (eIsTy .tuple (eVar 0))) (eCall (m__law_odd_row N) (nA 1 (aCons (eVar 0) aNil))) (eNeg (eC (.int 1)))))
    (sSeq (sSet 2 (eCall (m_is_log N) (nA 1 (aCons (eVar 0) aNil))))
    (sSeq (sIf (tOr' (tNt (tT (eIsTy .bool (eVar 2)))) (tB (eBin dNe (eVar 2) (eBin dIs (eVar 1) (eC .non))))) (sRet (eC (.bl false))) sNop)
    (sRet (eBin dEq (eCall (m__law_refused N) (nA 1 (aCons (eVar 0) aNil))) (eIf (tB (eBin dIs (eVar 1) (eC .non))) (eC .non) (eLst (aCons (eIf (tB (eBin dEq (eVar 1) (eNeg (eC (.int 1))))) (eC .non) (eVar 1)) aNil))))))))
def m__law_thing_right (N : Nat) : FM := fnM 3 (b__law_thing_right N)
def b_law (N : Nat) : SM := (sSeq (sFor (iRg1 (aCons (eCa fMax (aCons (eC (.int 1)) (aCons (eCa fMin (aCons (eC (.int 5)) (aCons (eCa fLen (aCons (eVar 0) aNil)) aNil))) aNil))) aNil)) (gN 1) (sSeq (sSet 2 (eCall (C.m__law_pool N) (nA 1 (aCons (eCall (C.m__law_cell N) (nA 2 (aCons (eVar 0) (aCons (eVar 1) aNil)))) aNil))))
    (sSeq (sSet 3 (eCall (m__law_drawn_log N) (nA 1 (aCons (eVar 2) aNil))))
    (sSeq (sIf (tOr' (tB (eBin dIsNotB (eCall (m_is_log N) (nA 1 (aCons (eVar 3) aNil))) (eC (.bl true)))) (tB (eBin dIsNot (eCall (m__law_refused N) (nA 1 (aCons (eVar 3) aNil))) (eC .non)))) (sRet (eC (.bl false))) sNop)
    (sSeq (sFor (iRg1 (aCons (eC (.int 10)) aNil)) (gN 4) (sSeq (sSet 6 (eCall (m__law_bent_log N) (nA 2 (aCons (eVar 2) (aCons (eVar 3) aNil)))))
    (sSeq (sIf (tAn (tB (eBin dEq (eCall (C.m__law_take N) (nA 2 (aCons (eVar 2) (aCons (eC (.int 3)) aNil)))) (eC (.int 0)))) (tAn (tT (eIsTy .tuple (eVar 6))) (tAn (tB (eBin dNeU (eVar 6) (eTup aNil))) (tT (eIsTy .tuple (eBinS ixD (eVar 6) (eNeg (eC (.int 1))))))))) (sSet 6 (eBinS dAddS (eVar 6) (eSlA (eVar 6) (oSome (eNeg (eC (.int 1)))) oNone))) sNop)
    (sIf (tNt (tT (eCall (m__law_thing_right N) (nA 1 (aCons (eVar 6) aNil))))) (sRet (eC (.bl false))) sNop))))
    (sSeq (sFor (iSeq (eLst (aCons (eC .non) (aCons (eC (.int 7)) (aCons (eC (.str "now")) (aCons (eLst aNil) (aCons (eC (.dic [] [])) (aCons (eTup aNil) (aCons (eTup (aCons (eTup aNil) aNil)) (aCons (eTup (aCons (eTup (aCons (eC (.str "now")) aNil)) aNil)) (aCons (eTup (aCons (eTup (aCons (eC (.str "now")) (aCons (eTup (aCons (eC (.int 0)) (aCons (eC (.int 1)) aNil))) aNil))) aNil)) (aCons (eTup (aCons (eVar 3) aNil)) (aCons (eC (.bl true)) (aCons (eCa fList (aCons (eVar 3) aNil)) aNil)))))))))))))) (gN 5) (sIf (tNt (tT (eCall (m__law_thing_right N) (nA 1 (aCons (eVar 5) aNil))))) (sRet (eC (.bl false))) sNop))
    (sIf (tOr' (tB (eBin dIsNotB (eCall (m_is_log N) (nA 1 (aCons (eVar 3) aNil))) (eC (.bl true)))) (tNt (tT (eCall (m__law_thing_right N) (nA 1 (aCons (eBin dMulT (eTup (aCons (eTup (aCons (eC (.str "now")) (aCons (eTup (aCons (eC (.int 0)) (aCons (eC (.int 1)) aNil))) aNil))) aNil)) (eC (.int 2))) aNil)))))) (sRet (eC (.bl false))) sNop)))))))
    (sRet (eC (.bl true))))
def m_law (N : Nat) : FM := fnM 7 (b_law N)
structure Txt (K : PySem.W.Frag) (mg : Str → Option Value) (base : Heap) (w : World) : Prop where
  tb : TBs K mg base tsL
  d_LOOKS : TabG K w mg "LOOKS" tg_LOOKS
  d_PARTS : TabK K w mg "PARTS" C.td_PARTS
  b_ValueError : mg "ValueError" = none
  b_abs : mg "abs" = none
  b_all : mg "all" = none
  b_bool : mg "bool" = none
  b_divmod : mg "divmod" = none
  b_enumerate : mg "enumerate" = none
  b_int : mg "int" = none
  b_isinstance : mg "isinstance" = none
  b_len : mg "len" = none
  b_list : mg "list" = none
  b_max : mg "max" = none
  b_min : mg "min" = none
  b_range : mg "range" = none
  b_str : mg "str" = none
  b_tuple : mg "tuple" = none
  b_zip : mg "zip" = none
  f__law_take : ∃ f fd, mg "_law_take" = some (.ref f) ∧ FunD K "_law_take" "_law_take" (defArgs s__law_take) (defBody s__law_take) (defScope s__law_take) [] [] f fd
  f__law_odd_part : ∃ f fd, mg "_law_odd_part" = some (.ref f) ∧ FunD K "_law_odd_part" "_law_odd_part" (defArgs s__law_odd_part) (defBody s__law_odd_part) (defScope s__law_odd_part) [] [] f fd
  f__law_bent_log : ∃ f fd, mg "_law_bent_log" = some (.ref f) ∧ FunD K "_law_bent_log" "_law_bent_log" (defArgs s__law_bent_log) (defBody s__law_bent_log) (defScope s__law_bent_log) [] [] f fd
  f__law_cell : ∃ f fd, mg "_law_cell" = some (.ref f) ∧ FunD K "_law_cell" "_law_cell" (defArgs s__law_cell) (defBody s__law_cell) (defScope s__law_cell) [] [] f fd
  f__law_r : ∃ f fd, mg "_law_r" = some (.ref f) ∧ FunD K "_law_r" "_law_r" (defArgs s__law_r) (defBody s__law_r) (defScope s__law_r) [] [] f fd
  f__law_add : ∃ f fd, mg "_law_add" = some (.ref f) ∧ FunD K "_law_add" "_law_add" (defArgs s__law_add) (defBody s__law_add) (defScope s__law_add) [] [] f fd
  f__law_moment : ∃ f fd, mg "_law_moment" = some (.ref f) ∧ FunD K "_law_moment" "_law_moment" (defArgs s__law_moment) (defBody s__law_moment) (defScope s__law_moment) [] [] f fd
  f__law_name : ∃ f fd, mg "_law_name" = some (.ref f) ∧ FunD K "_law_name" "_law_name" (defArgs s__law_name) (defBody s__law_name) (defScope s__law_name) [] [] f fd
  f__law_rate : ∃ f fd, mg "_law_rate" = some (.ref f) ∧ FunD K "_law_rate" "_law_rate" (defArgs s__law_rate) (defBody s__law_rate) (defScope s__law_rate) [] [] f fd
  f__law_drawn_log : ∃ f fd, mg "_law_drawn_log" = some (.ref f) ∧ FunD K "_law_drawn_log" "_law_drawn_log" (defArgs s__law_drawn_log) (defBody s__law_drawn_log) (defScope s__law_drawn_log) [] [] f fd
  f__law_pool : ∃ f fd, mg "_law_pool" = some (.ref f) ∧ FunD K "_law_pool" "_law_pool" (defArgs s__law_pool) (defBody s__law_pool) (defScope s__law_pool) [] [] f fd
  f_is_whole : ∃ f fd, mg "is_whole" = some (.ref f) ∧ FunD K "is_whole" "is_whole" (defArgs s_is_whole) (defBody s_is_whole) (defScope s_is_whole) [] [] f fd
  f_shared : ∃ f fd, mg "shared" = some (.ref f) ∧ FunD K "shared" "shared" (defArgs s_shared) (defBody s_shared) (defScope s_shared) [] [] f fd
  f_is_ratio : ∃ f fd, mg "is_ratio" = some (.ref f) ∧ FunD K "is_ratio" "is_ratio" (defArgs s_is_ratio) (defBody s_is_ratio) (defScope s_is_ratio) [] [] f fd
  f_check_ratio : ∃ f fd, mg "check_ratio" = some (.ref f) ∧ FunD K "check_ratio" "check_ratio" (defArgs s_check_ratio) (defBody s_check_ratio) (defScope s_check_ratio) [] [] f fd
  f_check_two : ∃ f fd, mg "check_two" = some (.ref f) ∧ FunD K "check_two" "check_two" (defArgs s_check_two) (defBody s_check_two) (defScope s_check_two) [] [] f fd
  f_is_before : ∃ f fd, mg "is_before" = some (.ref f) ∧ FunD K "is_before" "is_before" (defArgs s_is_before) (defBody s_is_before) (defScope s_is_before) [] [] f fd
  f_is_rate : ∃ f fd, mg "is_rate" = some (.ref f) ∧ FunD K "is_rate" "is_rate" (defArgs s_is_rate) (defBody s_is_rate) (defScope s_is_rate) [] [] f fd
  f_is_time : ∃ f fd, mg "is_time" = some (.ref f) ∧ FunD K "is_time" "is_time" (defArgs s_is_time) (defBody s_is_time) (defScope s_is_time) [] [] f fd
  f_is_least : ∃ f fd, mg "is_least" = some (.ref f) ∧ FunD K "is_least" "is_least" (defArgs s_is_least) (defBody s_is_least) (defScope s_is_least) [] [] f fd
  f_is_most : ∃ f fd, mg "is_most" = some (.ref f) ∧ FunD K "is_most" "is_most" (defArgs s_is_most) (defBody s_is_most) (defScope s_is_most) [] [] f fd
  f_is_name : ∃ f fd, mg "is_name" = some (.ref f) ∧ FunD K "is_name" "is_name" (defArgs s_is_name) (defBody s_is_name) (defScope s_is_name) [] [] f fd
  f_is_within : ∃ f fd, mg "is_within" = some (.ref f) ∧ FunD K "is_within" "is_within" (defArgs s_is_within) (defBody s_is_within) (defScope s_is_within) [] [] f fd
  f_is_size : ∃ f fd, mg "is_size" = some (.ref f) ∧ FunD K "is_size" "is_size" (defArgs s_is_size) (defBody s_is_size) (defScope s_is_size) [] [] f fd
  f_is_way : ∃ f fd, mg "is_way" = some (.ref f) ∧ FunD K "is_way" "is_way" (defArgs s_is_way) (defBody s_is_way) (defScope s_is_way) [] [] f fd
  f_is_weight : ∃ f fd, mg "is_weight" = some (.ref f) ∧ FunD K "is_weight" "is_weight" (defArgs s_is_weight) (defBody s_is_weight) (defScope s_is_weight) [] [] f fd
  f_is_part : ∃ f fd, mg "is_part" = some (.ref f) ∧ FunD K "is_part" "is_part" (defArgs s_is_part) (defBody s_is_part) (defScope s_is_part) [] [] f fd
  f_is_row : ∃ f fd, mg "is_row" = some (.ref f) ∧ FunD K "is_row" "is_row" (defArgs s_is_row) (defBody s_is_row) (defScope s_is_row) [] [] f fd
  f_first_odd : ∃ f fd, mg "first_odd" = some (.ref f) ∧ FunD K "first_odd" "first_odd" (defArgs s_first_odd) (defBody s_first_odd) (defScope s_first_odd) [] [] f fd
  f_check_forms : ∃ f fd, mg "check_forms" = some (.ref f) ∧ FunD K "check_forms" "check_forms" (defArgs s_check_forms) (defBody s_check_forms) (defScope s_check_forms) [] [] f fd
  f_show_ratio : ∃ f fd, mg "show_ratio" = some (.ref f) ∧ FunD K "show_ratio" "show_ratio" (defArgs s_show_ratio) (defBody s_show_ratio) (defScope s_show_ratio) [] [] f fd
  f_show_part : ∃ f fd, mg "show_part" = some (.ref f) ∧ FunD K "show_part" "show_part" (defArgs s_show_part) (defBody s_show_part) (defScope s_show_part) [] [] f fd
  f_show_row : ∃ f fd, mg "show_row" = some (.ref f) ∧ FunD K "show_row" "show_row" (defArgs s_show_row) (defBody s_show_row) (defScope s_show_row) [] [] f fd
  f_show_log : ∃ f fd, mg "show_log" = some (.ref f) ∧ FunD K "show_log" "show_log" (defArgs s_show_log) (defBody s_show_log) (defScope s_show_log) [] [] f fd
  f__law_refused : ∃ f fd, mg "_law_refused" = some (.ref f) ∧ FunD K "_law_refused" "_law_refused" (defArgs s__law_refused) (defBody s__law_refused) (defScope s__law_refused) [] [] f fd
  f__law_less : ∃ f fd, mg "_law_less" = some (.ref f) ∧ FunD K "_law_less" "_law_less" (defArgs s__law_less) (defBody s__law_less) (defScope s__law_less) [] [] f fd
  f__law_name_so : ∃ f fd, mg "_law_name_so" = some (.ref f) ∧ FunD K "_law_name_so" "_law_name_so" (defArgs s__law_name_so) (defBody s__law_name_so) (defScope s__law_name_so) [] [] f fd
  f__law_ratio_so : ∃ f fd, mg "_law_ratio_so" = some (.ref f) ∧ FunD K "_law_ratio_so" "_law_ratio_so" (defArgs s__law_ratio_so) (defBody s__law_ratio_so) (defScope s__law_ratio_so) [] [] f fd
  f__law_rate_so : ∃ f fd, mg "_law_rate_so" = some (.ref f) ∧ FunD K "_law_rate_so" "_law_rate_so" (defArgs s__law_rate_so) (defBody s__law_rate_so) (defScope s__law_rate_so) [] [] f fd
  f__law_whole_so : ∃ f fd, mg "_law_whole_so" = some (.ref f) ∧ FunD K "_law_whole_so" "_law_whole_so" (defArgs s__law_whole_so) (defBody s__law_whole_so) (defScope s__law_whole_so) [] [] f fd
  f__law_part_so : ∃ f fd, mg "_law_part_so" = some (.ref f) ∧ FunD K "_law_part_so" "_law_part_so" (defArgs s__law_part_so) (defBody s__law_part_so) (defScope s__law_part_so) [] [] f fd
  f__law_row_so : ∃ f fd, mg "_law_row_so" = some (.ref f) ∧ FunD K "_law_row_so" "_law_row_so" (defArgs s__law_row_so) (defBody s__law_row_so) (defScope s__law_row_so) [] [] f fd
  f__law_odd_row : ∃ f fd, mg "_law_odd_row" = some (.ref f) ∧ FunD K "_law_odd_row" "_law_odd_row" (defArgs s__law_odd_row) (defBody s__law_odd_row) (defScope s__law_odd_row) [] [] f fd
  f_is_log : ∃ f fd, mg "is_log" = some (.ref f) ∧ FunD K "is_log" "is_log" (defArgs s_is_log) (defBody s_is_log) (defScope s_is_log) [] [] f fd
  f__law_thing_right : ∃ f fd, mg "_law_thing_right" = some (.ref f) ∧ FunD K "_law_thing_right" "_law_thing_right" (defArgs s__law_thing_right) (defBody s__law_thing_right) (defScope s__law_thing_right) [] [] f fd
  f_law : ∃ f fd, mg "law" = some (.ref f) ∧ FunD K "law" "law" (defArgs s_law) (defBody s_law) (defScope s_law) [] [] f fd
  c_LETTERS : ∃ t, mg "LETTERS" = some (.str "abcdefghijklmnopqrstuvwxyz" t)
  c_MOST_LETTERS : ∃ t, mg "MOST_LETTERS" = some (.int 8 t)
  c_MOST_SIZE : ∃ t, mg "MOST_SIZE" = some (.int 999 t)
  c_MOST_WEIGHT : ∃ t, mg "MOST_WEIGHT" = some (.int 99 t)
  c_NONE : ∃ a, mg "NONE" = some (.ref a) ∧ KtT K a [.int 0, .int 1]
  x_NoRatio : ∃ C, mg "NoRatio" = some (.ref C) ∧ XcO K C bmValueError "ValueError.__new__"
  y_NoLog : ∃ C fI fd Bc, mg "NoLog" = some (.ref C) ∧ XoC K C "ValueError.__new__" bmValueError ∧ PySem.W.findIn K (.ref C) "__init__" = some (some (.ref fI)) ∧ PySem.W.typeIn K (.ref fI) = some (.type "function") ∧ PySem.W.findIn K (.ref C) "row" = some none ∧ mg "TagError" = some (.ref Bc) ∧ HdC K Bc "ValueError.__init__" ∧ FunD K "__init__" "NoLog.__init__" (defArgs s_NoLog___init__) (defBody s_NoLog___init__) (defScope s_NoLog___init__) [] [] fI fd
  z_row : XcF K mg [17] 4
  x_LostError : ∃ C, mg "LostError" = some (.ref C)
  x_NoLog : ∃ C, mg "NoLog" = some (.ref C)
  x_ShareError : ∃ C, mg "ShareError" = some (.ref C)
  x_TagError : ∃ C, mg "TagError" = some (.ref C)
  tb_LostError : ∀ D, mg "LostError" = some (.ref D) → ∀ cn C q, tbR rsL 1 cn = some q → mg (cname cn) = some (.ref C) → ExcC K C ∧ PySem.W.kitOne K (.ref C) (.ref D) = some q
  tb_NoLog : ∀ D, mg "NoLog" = some (.ref D) → ∀ cn C q, tbR rsL 17 cn = some q → mg (cname cn) = some (.ref C) → ExcC K C ∧ PySem.W.kitOne K (.ref C) (.ref D) = some q
  tb_ShareError : ∀ D, mg "ShareError" = some (.ref D) → ∀ cn C q, tbR rsL 2 cn = some q → mg (cname cn) = some (.ref C) → ExcC K C ∧ PySem.W.kitOne K (.ref C) (.ref D) = some q
  tb_ValueError : ∀ cn C q, tbR rsL 100 cn = some q → mg (cname cn) = some (.ref C) → ExcC K C ∧ PySem.W.kitOne K (.ref C) (.type "ValueError") = some q
  tx_TagError : ∀ D, mg "TagError" = some (.ref D) → ∀ cn C q, tbR rsL 0 cn = some q → mg (cname cn) = some (.ref C) → PySem.W.exmOne K (.ref C) (.ref D) = some q
section
variable {P : Program} {w : World} {K : PySem.W.Frag} {mg : Str → Option Value} {base : Heap}
theorem xi_NoLog (T : Txt K mg base w) : XfI P w K mg base "NoLog" "ValueError.__init__" "ValueError.__new__" bmValueError (fname 4) := by
  obtain ⟨C, fI, fd, Bc, h1, h2, h3, h4, h5, h6, h7, F⟩ := T.y_NoLog
  refine ⟨C, fI, fd, "self", "row", h1, h2, h3, h4, h5, F.bindsN (ps := ["self", "row"]) fun _ _ _ _ _ _ us hl => match us, hl with | [_, _], _ => rfl, ini_fn F sc_NoLog___init__ fun cdv A outer s H E => ?_⟩
  exact pss_ini fam_ValueError h6 h7 (pe_var rfl (Or.inl rfl) (by decide) (by decide)) (pe_var rfl (Or.inl rfl) (by decide) (by decide)) (pe_var rfl (Or.inl rfl) (by decide) (by decide))
theorem fk__law_take (N : Nat) (T : Txt K mg base w) {fa : Addr} {fd : FuncData} (F : FunD K "_law_take" "_law_take" (defArgs s__law_take) (defBody s__law_take) (defScope s__law_take) [] [] fa fd) : FnG P w K mg base (0 + 1) fa fd p__law_take (spM K mg p__law_take.length (fnM n__law_take.length (C.b__law_take N))) := by
  apply def_okD F sc__law_take
  intro cdv A outer s H E c
  exact (rss_cons (rs_asg (re_binS om_addS (re_ix (rv 0) re_int) re_int) (rg_sub (rv 0) re_int))
      (rss_cons (rs_set (i := 2) c.nd rfl (re_ix (rv 0) re_int))
      (rss_cons (rs_asg (re_bin om_mod (re_binS om_addS (re_bin om_mul (rv 2) (re_binS om_addS (re_bin om_mod (rv 2) re_int) re_int)) (re_bin om_mul re_int (re_ix (rv 0) re_int))) re_int) (rg_sub (rv 0) re_int))
      (rss_cons (rs_if (rt_cmp om_gt (re_ix (rv 0) re_int) re_int (nomark _)) (rss_cons (rs_asg (re_b cm_divmodW rfl T.b_divmod bt_divmod (ra_cons (re_ix (rv 0) re_int) (ra_cons (rv 1) ra_nil))) (rg_tup c.calm (rgs_cons (rg_sub (rv 0) re_int) (rgs_cons (rg_name (i := 3) c.nd rfl) rgs_nil))))
      (rss_one (rs_ret (rv 3)))) rss_nil)
      (rss_one (rs_ret (re_bin om_mod (re_bin om_div (re_ix (rv 0) re_int) re_int) (rv 1))))))))
theorem fm__law_take (N : Nat) (T : Txt K mg base w) {fa : Addr} {fd : FuncData} (F : FunD K "_law_take" "_law_take" (defArgs s__law_take) (defBody s__law_take) (defScope s__law_take) [] [] fa fd) : FnG P w K mg base 1 fa fd p__law_take (spM K mg p__law_take.length (C.m__law_take N)) := fk__law_take N T F
theorem ok__law_take (N : Nat) (T : Txt K mg base w) : Df P w K mg base "_law_take" p__law_take 1 (C.m__law_take N) := by
  obtain ⟨fa, fd, g1, F⟩ := T.f__law_take
  exact ⟨fa, fd, g1, F.kp, F.bindsN (ps := p__law_take) fun _ _ _ _ _ _ us hl => match us, hl with | [_, _], _ => rfl, fm__law_take N T F⟩
theorem fk__law_odd_part (N : Nat) (T : Txt K mg base w) {fa : Addr} {fd : FuncData} (F : FunD K "_law_odd_part" "_law_odd_part" (defArgs s__law_odd_part) (defBody s__law_odd_part) (defScope s__law_odd_part) [] [] fa fd) : FnG P w K mg base (1 + 1) fa fd p__law_odd_part (spM K mg p__law_odd_part.length (fnM n__law_odd_part.length (b__law_odd_part N))) := by
  apply def_okD F sc__law_odd_part
  intro cdv A outer s H E c
  exact (rss_cons (rs_set (i := 2) c.nd rfl (re_lst (ra_cons re_non (ra_cons re_bl (ra_cons re_bl (ra_cons re_int (ra_cons re_int (ra_cons (re_neg re_int) (ra_cons re_str (ra_cons re_str (ra_cons re_str (ra_cons re_str (ra_cons (re_tup ra_nil) (ra_cons (re_lst ra_nil) (ra_cons re_dic0 (ra_cons (re_tup (ra_cons re_int (ra_cons re_int ra_nil))) (ra_cons (re_tup (ra_cons re_int (ra_cons re_int ra_nil))) (ra_cons (re_tup (ra_cons re_int (ra_cons re_int ra_nil))) (ra_cons (re_tup (ra_cons re_int (ra_cons re_int ra_nil))) (ra_cons (re_tup (ra_cons (re_neg re_int) (ra_cons re_int ra_nil))) ra_nil))))))))))))))))))))
      (rss_one (rs_ret (re_ix (re_binS om_addS (rv 2) (re_lst (ra_cons (re_lst (ra_cons (rv 1) ra_nil)) (ra_cons re_int (ra_cons re_int (ra_cons re_int (ra_cons re_int (ra_cons re_str (ra_cons re_str (ra_cons (re_tup (ra_cons re_bl (ra_cons re_int ra_nil))) (ra_cons (re_tup (ra_cons re_int (ra_cons re_int ra_nil))) ra_nil))))))))))) (re_call c (ok__law_take N T) (by decide) (ra_cons (rv 0) (ra_cons re_int ra_nil)))))))
theorem fm__law_odd_part (N : Nat) (T : Txt K mg base w) {fa : Addr} {fd : FuncData} (F : FunD K "_law_odd_part" "_law_odd_part" (defArgs s__law_odd_part) (defBody s__law_odd_part) (defScope s__law_odd_part) [] [] fa fd) : FnG P w K mg base 2 fa fd p__law_odd_part (spM K mg p__law_odd_part.length (m__law_odd_part N)) := fk__law_odd_part N T F
theorem ok__law_odd_part (N : Nat) (T : Txt K mg base w) : Df P w K mg base "_law_odd_part" p__law_odd_part 2 (m__law_odd_part N) := by
  obtain ⟨fa, fd, g1, F⟩ := T.f__law_odd_part
  exact ⟨fa, fd, g1, F.kp, F.bindsN (ps := p__law_odd_part) fun _ _ _ _ _ _ us hl => match us, hl with | [_, _], _ => rfl, fm__law_odd_part N T F⟩
theorem fk__law_bent_log (N : Nat) (T : Txt K mg base w) {fa : Addr} {fd : FuncData} (F : FunD K "_law_bent_log" "_law_bent_log" (defArgs s__law_bent_log) (defBody s__law_bent_log) (defScope s__law_bent_log) [] [] fa fd) : FnG P w K mg base (2 + 1) fa fd p__law_bent_log (spM K mg p__law_bent_log.length (fnM n__law_bent_log.length (b__law_bent_log N))) := by
  apply def_okD F sc__law_bent_log
  intro cdv A outer s H E c
  exact (rss_cons (rs_par (i := 2) (j := 3) c.calm c.nd rfl rfl (by decide) (ra_cons (re_call c (ok__law_take N T) (by decide) (ra_cons (rv 0) (ra_cons (re_b cm_len rfl T.b_len bt_len (ra_cons (rv 1) ra_nil)) ra_nil))) (ra_cons (re_call c (ok__law_take N T) (by decide) (ra_cons (rv 0) (ra_cons re_int ra_nil))) ra_nil)))
      (rss_cons (rs_set (i := 4) c.nd rfl (re_ix (rv 1) (rv 2)))
      (rss_cons (rs_if (rt_cmp (om_eq c.u) (rv 3) re_int (nomark _)) (rss_one (rs_ret (re_binS om_addE (re_sl (rv 1) ro_none (ro_some (rv 2))) (re_sl (rv 1) (ro_some (re_binS om_addE (rv 2) re_int)) ro_none)))) rss_nil)
      (rss_cons (rs_if (rt_cmp (om_eq c.u) (rv 3) re_int (nomark _)) (rss_one (rs_ret (re_binS om_addE (re_binS om_addE (re_sl (rv 1) ro_none (ro_some (rv 2))) (re_tup (ra_cons (rv 4) (ra_cons (rv 4) ra_nil)))) (re_sl (rv 1) (ro_some (re_binS om_addE (rv 2) re_int)) ro_none)))) rss_nil)
      (rss_cons (rs_if (rt_cmp (om_eq c.u) (rv 3) re_int (nomark _)) (rss_one (rs_ret (re_ty cm_list rfl T.b_list bt_list (ra_cons (rv 1) ra_nil)))) rss_nil)
      (rss_cons (rs_if (rt_cmp (om_eq c.u) (rv 3) re_int (nomark _)) (rss_one (rs_ret (re_binS om_addE (re_binS om_addE (re_sl (rv 1) ro_none (ro_some (rv 2))) (re_tup (ra_cons (re_ix (re_lst (ra_cons (re_binS om_addE (rv 4) (re_tup (ra_cons re_int ra_nil))) (ra_cons (re_sl (rv 4) ro_none (ro_some (re_neg re_int))) ra_nil))) (re_bin om_mod (rv 2) re_int)) ra_nil))) (re_sl (rv 1) (ro_some (re_binS om_addE (rv 2) re_int)) ro_none)))) rss_nil)
      (rss_cons (rs_if (rt_cmp (om_eq c.u) (rv 3) re_int (nomark _)) (rss_one (rs_ret (re_binS om_addE (re_binS om_addE (re_sl (rv 1) ro_none (ro_some (rv 2))) (re_tup (ra_cons (re_ty cm_list rfl T.b_list bt_list (ra_cons (rv 4) ra_nil)) ra_nil))) (re_sl (rv 1) (ro_some (re_binS om_addE (rv 2) re_int)) ro_none)))) rss_nil)
      (rss_cons (rs_if (rt_cmp (om_eq c.u) (rv 3) re_int (nomark _)) (rss_one (rs_ret (re_binS om_addE (re_binS om_addE (re_sl (rv 1) ro_none (ro_some (rv 2))) (re_tup (ra_cons (re_binS om_addE (re_tup (ra_cons (re_ix (rv 4) re_int) (ra_cons (re_tup (ra_cons (rv 2) (ra_cons re_int ra_nil))) ra_nil))) (re_sl (rv 4) (ro_some re_int) ro_none)) ra_nil))) (re_sl (rv 1) (ro_some (re_binS om_addE (rv 2) re_int)) ro_none)))) rss_nil)
      (rss_cons (rs_set (i := 5) c.nd rfl (re_call c (ok__law_take N T) (by decide) (ra_cons (rv 0) (ra_cons (re_b cm_len rfl T.b_len bt_len (ra_cons (rv 4) ra_nil)) ra_nil))))
      (rss_cons (rs_set (i := 6) c.nd rfl (re_binS om_addE (re_binS om_addE (re_sl (rv 4) ro_none (ro_some (rv 5))) (re_tup (ra_cons (re_call c (ok__law_odd_part N T) (by decide) (ra_cons (rv 0) (ra_cons (re_ix (rv 4) (rv 5)) ra_nil))) ra_nil))) (re_sl (rv 4) (ro_some (re_binS om_addE (rv 5) re_int)) ro_none)))
      (rss_one (rs_ret (re_binS om_addE (re_binS om_addE (re_sl (rv 1) ro_none (ro_some (rv 2))) (re_tup (ra_cons (rv 6) ra_nil))) (re_sl (rv 1) (ro_some (re_binS om_addE (rv 2) re_int)) ro_none))))))))))))))
theorem fm__law_bent_log (N : Nat) (T : Txt K mg base w) {fa : Addr} {fd : FuncData} (F : FunD K "_law_bent_log" "_law_bent_log" (defArgs s__law_bent_log) (defBody s__law_bent_log) (defScope s__law_bent_log) [] [] fa fd) : FnG P w K mg base 3 fa fd p__law_bent_log (spM K mg p__law_bent_log.length (m__law_bent_log N)) := fk__law_bent_log N T F
theorem ok__law_bent_log (N : Nat) (T : Txt K mg base w) : Df P w K mg base "_law_bent_log" p__law_bent_log 3 (m__law_bent_log N) := by
  obtain ⟨fa, fd, g1, F⟩ := T.f__law_bent_log
  exact ⟨fa, fd, g1, F.kp, F.bindsN (ps := p__law_bent_log) fun _ _ _ _ _ _ us hl => match us, hl with | [_, _], _ => rfl, fm__law_bent_log N T F⟩
theorem fk__law_cell (N : Nat) (T : Txt K mg base w) {fa : Addr} {fd : FuncData} (F : FunD K "_law_cell" "_law_cell" (defArgs s__law_cell) (defBody s__law_cell) (defScope s__law_cell) [] [] fa fd) : FnG P w K mg base (0 + 1) fa fd p__law_cell (spM K mg p__law_cell.length (fnM n__law_cell.length (C.b__law_cell N))) := by
  apply def_okD F sc__law_cell
  intro cdv A outer s H E c
  exact (rss_cons (rs_if (rt_cmp om_lt (rv 1) (re_b cm_len rfl T.b_len bt_len (ra_cons (rv 0) ra_nil)) (nomark _)) (rss_one (rs_ret (re_ix (rv 0) (rv 1)))) rss_nil)
      (rss_cons (rs_set (i := 2) c.nd rfl (re_bin om_mod (re_bin om_mul re_int (re_binS om_addS (re_binS om_addS (re_bin om_mul (rv 1) (rv 1)) (re_bin om_mul re_int (rv 1))) re_int)) re_int))
      (rss_cons (rs_for c.po c.calm (ri_e (re_sl (rv 0) ro_none (ro_some re_int))) (rg_name (i := 3) c.nd rfl) (rss_one (rs_set (i := 2) c.nd rfl (re_bin om_mod (re_binS om_addS (re_bin om_mul (rv 2) re_int) (rv 3)) re_int))))
      (rss_one (rs_ret (rv 2))))))
theorem fm__law_cell (N : Nat) (T : Txt K mg base w) {fa : Addr} {fd : FuncData} (F : FunD K "_law_cell" "_law_cell" (defArgs s__law_cell) (defBody s__law_cell) (defScope s__law_cell) [] [] fa fd) : FnG P w K mg base 1 fa fd p__law_cell (spM K mg p__law_cell.length (C.m__law_cell N)) := fk__law_cell N T F
theorem ok__law_cell (N : Nat) (T : Txt K mg base w) : Df P w K mg base "_law_cell" p__law_cell 1 (C.m__law_cell N) := by
  obtain ⟨fa, fd, g1, F⟩ := T.f__law_cell
  exact ⟨fa, fd, g1, F.kp, F.bindsN (ps := p__law_cell) fun _ _ _ _ _ _ us hl => match us, hl with | [_, _], _ => rfl, fm__law_cell N T F⟩
theorem fk__law_r (N : Nat) (T : Txt K mg base w) {fa : Addr} {fd : FuncData} (F : FunD K "_law_r" "_law_r" (defArgs s__law_r) (defBody s__law_r) (defScope s__law_r) [] [] fa fd) : FnG P w K mg base (0 + 1) fa fd p__law_r (spM K mg p__law_r.length (fnM n__law_r.length (C.b__law_r N))) := by
  apply def_okD F sc__law_r
  intro cdv A outer s H E c
  exact (rss_cons (rs_par (i := 2) (j := 3) c.calm c.nd rfl rfl (by decide) (ra_cons (re_b cm_abs rfl T.b_abs bt_abs (ra_cons (rv 0) ra_nil)) (ra_cons (re_b cm_abs rfl T.b_abs bt_abs (ra_cons (rv 1) ra_nil)) ra_nil)))
      (rss_cons (rs_while N c.po (rt_cmp om_gt (rv 3) re_int (nomark _)) (rss_one (rs_par (i := 2) (j := 3) c.calm c.nd rfl rfl (by decide) (ra_cons (rv 3) (ra_cons (re_bin om_mod (rv 2) (rv 3)) ra_nil)))))
      (rss_cons (rs_if (rt_cmp om_lt (rv 1) re_int (nomark _)) (rss_one (rs_set (i := 2) c.nd rfl (re_bin om_sub re_int (rv 2)))) rss_nil)
      (rss_one (rs_ret (re_tup (ra_cons (re_bin om_div (rv 0) (rv 2)) (ra_cons (re_bin om_div (rv 1) (rv 2)) ra_nil))))))))
theorem fm__law_r (N : Nat) (T : Txt K mg base w) {fa : Addr} {fd : FuncData} (F : FunD K "_law_r" "_law_r" (defArgs s__law_r) (defBody s__law_r) (defScope s__law_r) [] [] fa fd) : FnG P w K mg base 1 fa fd p__law_r (spM K mg p__law_r.length (C.m__law_r N)) := fk__law_r N T F
theorem ok__law_r (N : Nat) (T : Txt K mg base w) : Df P w K mg base "_law_r" p__law_r 1 (C.m__law_r N) := by
  obtain ⟨fa, fd, g1, F⟩ := T.f__law_r
  exact ⟨fa, fd, g1, F.kp, F.bindsN (ps := p__law_r) fun _ _ _ _ _ _ us hl => match us, hl with | [_, _], _ => rfl, fm__law_r N T F⟩
theorem fk__law_add (N : Nat) (T : Txt K mg base w) {fa : Addr} {fd : FuncData} (F : FunD K "_law_add" "_law_add" (defArgs s__law_add) (defBody s__law_add) (defScope s__law_add) [] [] fa fd) : FnG P w K mg base (1 + 1) fa fd p__law_add (spM K mg p__law_add.length (fnM n__law_add.length (C.b__law_add N))) := by
  apply def_okD F sc__law_add
  intro cdv A outer s H E c
  exact (rss_one (rs_ret (re_call c (ok__law_r N T) (by decide) (ra_cons (re_binS om_addS (re_bin om_mul (re_ix (rv 0) re_int) (re_ix (rv 1) re_int)) (re_bin om_mul (re_ix (rv 1) re_int) (re_ix (rv 0) re_int))) (ra_cons (re_bin om_mul (re_ix (rv 0) re_int) (re_ix (rv 1) re_int)) ra_nil)))))
theorem fm__law_add (N : Nat) (T : Txt K mg base w) {fa : Addr} {fd : FuncData} (F : FunD K "_law_add" "_law_add" (defArgs s__law_add) (defBody s__law_add) (defScope s__law_add) [] [] fa fd) : FnG P w K mg base 2 fa fd p__law_add (spM K mg p__law_add.length (C.m__law_add N)) := fk__law_add N T F
theorem ok__law_add (N : Nat) (T : Txt K mg base w) : Df P w K mg base "_law_add" p__law_add 2 (C.m__law_add N) := by
  obtain ⟨fa, fd, g1, F⟩ := T.f__law_add
  exact ⟨fa, fd, g1, F.kp, F.bindsN (ps := p__law_add) fun _ _ _ _ _ _ us hl => match us, hl with | [_, _], _ => rfl, fm__law_add N T F⟩
theorem fk__law_moment (N : Nat) (T : Txt K mg base w) {fa : Addr} {fd : FuncData} (F : FunD K "_law_moment" "_law_moment" (defArgs s__law_moment) (defBody s__law_moment) (defScope s__law_moment) [] [] fa fd) : FnG P w K mg base (2 + 1) fa fd p__law_moment (spM K mg p__law_moment.length (fnM n__law_moment.length (C.b__law_moment N))) := by
  apply def_okD F sc__law_moment
  intro cdv A outer s H E c
  exact (rss_one (rs_ret (re_call c (ok__law_add N T) (by decide) (ra_cons (rv 1) (ra_cons (re_call c (ok__law_r N T) (by decide) (ra_cons (re_call c (ok__law_take N T) (by decide) (ra_cons (rv 0) (ra_cons re_int ra_nil))) (ra_cons (re_ix (re_lst (ra_cons re_int (ra_cons re_int (ra_cons re_int (ra_cons re_int (ra_cons re_int ra_nil)))))) (re_call c (ok__law_take N T) (by decide) (ra_cons (rv 0) (ra_cons re_int ra_nil)))) ra_nil))) ra_nil)))))
theorem fm__law_moment (N : Nat) (T : Txt K mg base w) {fa : Addr} {fd : FuncData} (F : FunD K "_law_moment" "_law_moment" (defArgs s__law_moment) (defBody s__law_moment) (defScope s__law_moment) [] [] fa fd) : FnG P w K mg base 3 fa fd p__law_moment (spM K mg p__law_moment.length (C.m__law_moment N)) := fk__law_moment N T F
theorem ok__law_moment (N : Nat) (T : Txt K mg base w) : Df P w K mg base "_law_moment" p__law_moment 3 (C.m__law_moment N) := by
  obtain ⟨fa, fd, g1, F⟩ := T.f__law_moment
  exact ⟨fa, fd, g1, F.kp, F.bindsN (ps := p__law_moment) fun _ _ _ _ _ _ us hl => match us, hl with | [_, _], _ => rfl, fm__law_moment N T F⟩
theorem fk__law_name (N : Nat) (T : Txt K mg base w) {fa : Addr} {fd : FuncData} (F : FunD K "_law_name" "_law_name" (defArgs s__law_name) (defBody s__law_name) (defScope s__law_name) [] [] fa fd) : FnG P w K mg base (1 + 1) fa fd p__law_name (spM K mg p__law_name.length (fnM n__law_name.length (C.b__law_name N))) := by
  apply def_okD F sc__law_name
  intro cdv A outer s H E c
  exact (rss_cons (rs_set (i := 2) c.nd rfl (re_lst (ra_cons re_str (ra_cons re_str (ra_cons re_str (ra_cons re_str (ra_cons re_str (ra_cons re_str (ra_cons re_str (ra_cons re_str (ra_cons re_str (ra_cons re_str (ra_cons re_str (ra_cons re_str ra_nil))))))))))))))
      (rss_cons (rs_set (i := 3) c.nd rfl (re_ix (rv 2) (re_call c (ok__law_take N T) (by decide) (ra_cons (rv 0) (ra_cons re_int ra_nil)))))
      (rss_cons (rs_if (rt_cmp om_gt (re_call c (ok__law_take N T) (by decide) (ra_cons (rv 0) (ra_cons re_int ra_nil))) re_int (nomark _)) (rss_one (rs_set (i := 3) c.nd rfl (re_tm tm_join PySem.F.slot_str_join PySem.F.type_str_join re_str (ra_cons (re_lc [("_law_k", 7)] c.calm c.nd (ri_range1 T.b_range (ra_cons (re_binS om_addS re_int (re_call c (ok__law_take N T) (by decide) (ra_cons (rv 0) (ra_cons re_int ra_nil)))) ra_nil)) (blkOk_by (own := [("_law_k", 7)]) (N := n__law_name) (sc := defScope s__law_name) (by decide +kernel)) (by decide) (fun _ _ _ _ _ => (pg_name (i := 7) c.nd rfl (by first | exact Or.inl rfl | exact Or.inr rfl))) (fun _ _ _ _ _ => pts0) (fun _ _ _ _ _ => (re_ix re_str (re_callB c.blk (ok__law_take N T) (by decide) (ra_cons (rv 0) (ra_cons re_int ra_nil)))))) ra_nil)))) rss_nil)
      (rss_cons (rs_set (i := 4) c.nd rfl (re_binS om_addS (re_lst (ra_cons (rv 3) ra_nil)) (re_lc [("_law_letter", 5)] c.calm c.nd (ri_str re_str) (blkOk_by (own := [("_law_letter", 5)]) (N := n__law_name) (sc := defScope s__law_name) (by decide +kernel)) (by decide) (fun _ _ _ _ _ => (pg_name (i := 5) c.nd rfl (by first | exact Or.inl rfl | exact Or.inr rfl))) (fun _ _ _ _ _ => pts0) (fun _ _ _ _ _ => (re_binS om_addS (re_sl (rv 3) ro_none (ro_some re_int)) (rv 5))))))
      (rss_one (rs_ret (re_ix (re_lc [("_law_one", 6)] c.calm c.nd (ri_e (rv 4)) (blkOk_by (own := [("_law_one", 6)]) (N := n__law_name) (sc := defScope s__law_name) (by decide +kernel)) (by decide) (fun _ _ _ _ _ => (pg_name (i := 6) c.nd rfl (by first | exact Or.inl rfl | exact Or.inr rfl))) (fun _ _ _ _ _ => pts_one (rt_cmpS om_notInL (rv 6) (rv 1))) (fun _ _ _ _ _ => (rv 6))) re_int)))))))
theorem fm__law_name (N : Nat) (T : Txt K mg base w) {fa : Addr} {fd : FuncData} (F : FunD K "_law_name" "_law_name" (defArgs s__law_name) (defBody s__law_name) (defScope s__law_name) [] [] fa fd) : FnG P w K mg base 2 fa fd p__law_name (spM K mg p__law_name.length (C.m__law_name N)) := fk__law_name N T F
theorem ok__law_name (N : Nat) (T : Txt K mg base w) : Df P w K mg base "_law_name" p__law_name 2 (C.m__law_name N) := by
  obtain ⟨fa, fd, g1, F⟩ := T.f__law_name
  exact ⟨fa, fd, g1, F.kp, F.bindsN (ps := p__law_name) fun _ _ _ _ _ _ us hl => match us, hl with | [_, _], _ => rfl, fm__law_name N T F⟩
theorem fk__law_rate (N : Nat) (T : Txt K mg base w) {fa : Addr} {fd : FuncData} (F : FunD K "_law_rate" "_law_rate" (defArgs s__law_rate) (defBody s__law_rate) (defScope s__law_rate) [] [] fa fd) : FnG P w K mg base (1 + 1) fa fd p__law_rate (spM K mg p__law_rate.length (fnM n__law_rate.length (C.b__law_rateS N))) := by
  apply def_okD F sc__law_rate
  intro cdv A outer s H E c
  exact (rss_cons (rs_set (i := 1) c.nd rfl (re_binS om_addS re_int (re_call c (ok__law_take N T) (by decide) (ra_cons (rv 0) (ra_cons re_int ra_nil)))))
      (rss_one (rs_ret (re_call c (ok__law_r N T) (by decide) (ra_cons (re_binS om_addS re_int (re_call c (ok__law_take N T) (by decide) (ra_cons (rv 0) (ra_cons (re_b (cm_min c.calm) rfl T.b_min bt_min (ra_cons re_int (ra_cons (rv 1) ra_nil))) ra_nil)))) (ra_cons (rv 1) ra_nil))))))
theorem fm__law_rate (N : Nat) (T : Txt K mg base w) {fa : Addr} {fd : FuncData} (F : FunD K "_law_rate" "_law_rate" (defArgs s__law_rate) (defBody s__law_rate) (defScope s__law_rate) [] [] fa fd) : FnG P w K mg base 2 fa fd p__law_rate (spM K mg p__law_rate.length (C.m__law_rateS N)) := fk__law_rate N T F
theorem ok__law_rate (N : Nat) (T : Txt K mg base w) : Df P w K mg base "_law_rate" p__law_rate 2 (C.m__law_rateS N) := by
  obtain ⟨fa, fd, g1, F⟩ := T.f__law_rate
  exact ⟨fa, fd, g1, F.kp, F.bindsN (ps := p__law_rate) fun _ _ _ _ _ _ us hl => match us, hl with | [_], _ => rfl, fm__law_rate N T F⟩
theorem fk__law_drawn_log (N : Nat) (T : Txt K mg base w) {fa : Addr} {fd : FuncData} (F : FunD K "_law_drawn_log" "_law_drawn_log" (defArgs s__law_drawn_log) (defBody s__law_drawn_log) (defScope s__law_drawn_log) [] [] fa fd) : FnG P w K mg base (3 + 1) fa fd p__law_drawn_log (spM K mg p__law_drawn_log.length (fnM n__law_drawn_log.length (b__law_drawn_log N))) := by
  apply def_okD F sc__law_drawn_log
  intro cdv A outer s H E c
  exact (rss_cons (rs_par (i := 1) (j := 2) c.calm c.nd rfl rfl (by decide) (ra_cons (re_new ra_nil) (ra_cons (re_tup (ra_cons re_int (ra_cons re_int ra_nil))) ra_nil)))
      (rss_cons (rs_for c.po c.calm (ri_range1 T.b_range (ra_cons (re_call c (ok__law_take N T) (by decide) (ra_cons (rv 0) (ra_cons re_int ra_nil))) ra_nil)) (rg_name (i := 3) c.nd rfl) (rss_cons (rs_set (i := 2) c.nd rfl (re_call c (ok__law_moment N T) (by decide) (ra_cons (rv 0) (ra_cons (rv 2) ra_nil))))
      (rss_cons (rs_set (i := 4) c.nd rfl (re_ix (re_lst (ra_cons re_str (ra_cons re_str (ra_cons re_str (ra_cons re_str (ra_cons re_str (ra_cons re_str (ra_cons re_str ra_nil)))))))) (re_call c (ok__law_take N T) (by decide) (ra_cons (rv 0) (ra_cons re_int ra_nil)))))
      (rss_cons (rs_set (i := 5) c.nd rfl (re_call c (ok__law_name N T) (by decide) (ra_cons (rv 0) (ra_cons (re_lst ra_nil) ra_nil))))
      (rss_cons (rs_set (i := 6) c.nd rfl (re_ix (re_lst (ra_cons (re_tup (ra_cons re_int (ra_cons re_int ra_nil))) (ra_cons (re_tup (ra_cons re_int (ra_cons re_int ra_nil))) (ra_cons (re_call c (ok__law_rate N T) (by decide) (ra_cons (rv 0) ra_nil)) (ra_cons (re_tup (ra_cons (re_binS om_addE re_int (re_call c (ok__law_take N T) (by decide) (ra_cons (rv 0) (ra_cons (re_bin om_pow re_int re_int) ra_nil)))) (ra_cons (re_bin om_mul re_int (re_bin om_pow re_int re_int)) ra_nil))) ra_nil))))) (re_call c (ok__law_take N T) (by decide) (ra_cons (rv 0) (ra_cons re_int ra_nil)))))
      (rss_cons (rs_set (i := 6) c.nd rfl (re_call c (ok__law_r N T) (by decide) (ra_cons (re_ix (rv 6) re_int) (ra_cons (re_ix (rv 6) re_int) ra_nil))))
      (rss_cons (rs_set (i := 7) c.nd rfl (re_ix (re_lst (ra_cons re_non (ra_cons (re_tup (ra_cons re_int (ra_cons re_int ra_nil))) (ra_cons (re_call c (ok__law_rate N T) (by decide) (ra_cons (rv 0) ra_nil)) ra_nil)))) (re_call c (ok__law_take N T) (by decide) (ra_cons (rv 0) (ra_cons re_int ra_nil)))))
      (rss_cons (rs_set (i := 8) c.nd rfl (re_disp (.cons (re_noX (re_tup (ra_cons (rv 6) (ra_cons (rv 7) (ra_cons (re_binS om_addE re_int (re_call c (ok__law_take N T) (by decide) (ra_cons (rv 0) (ra_cons re_int ra_nil)))) ra_nil))))) (.cons (re_noX (re_tup (ra_cons (re_binS om_addE re_int (re_call c (ok__law_take N T) (by decide) (ra_cons (rv 0) (ra_cons re_int ra_nil)))) ra_nil))) (.cons (re_tup ra_nil) .nil))) (by decide) (by decide) (by decide +kernel)))
      (rss_cons (rs_expr (re_dkU (rv 8) (re_disp (.cons (re_tup (ra_cons (rv 6) ra_nil)) (.cons (re_tup (ra_cons (rv 7) ra_nil)) (.cons (re_noX (re_tup (ra_cons (re_binS om_addE re_int (re_call c (ok__law_take N T) (by decide) (ra_cons (rv 0) (ra_cons re_int ra_nil)))) ra_nil))) .nil))) (by decide) (by decide) (by decide +kernel))))
      (rss_cons (rs_asg (re_tup (ra_cons (re_binS om_addE re_int (re_call c (ok__law_take N T) (by decide) (ra_cons (rv 0) (ra_cons re_int ra_nil)))) (ra_cons (re_ix (re_lst (ra_cons re_str (ra_cons re_str ra_nil))) (re_call c (ok__law_take N T) (by decide) (ra_cons (rv 0) (ra_cons re_int ra_nil)))) ra_nil))) (rg_subE c.u (rv 8) re_str))
      (rss_one (rs_expr (re_app (rv 1) (ra_cons (re_binS om_addE (re_tup (ra_cons (rv 4) (ra_cons (rv 2) (ra_cons (rv 5) ra_nil)))) (re_ixE c.u (rv 8) (rv 4))) ra_nil))))))))))))))
      (rss_one (rs_ret (re_binS om_addE (re_ty cm_tuple rfl T.b_tuple bt_tuple (ra_cons (rv 1) ra_nil)) (re_tup (ra_cons (re_tup (ra_cons re_str (ra_cons (re_call c (ok__law_moment N T) (by decide) (ra_cons (rv 0) (ra_cons (rv 2) ra_nil))) ra_nil))) ra_nil)))))))
theorem fm__law_drawn_log (N : Nat) (T : Txt K mg base w) {fa : Addr} {fd : FuncData} (F : FunD K "_law_drawn_log" "_law_drawn_log" (defArgs s__law_drawn_log) (defBody s__law_drawn_log) (defScope s__law_drawn_log) [] [] fa fd) : FnG P w K mg base 4 fa fd p__law_drawn_log (spM K mg p__law_drawn_log.length (m__law_drawn_log N)) := fk__law_drawn_log N T F
theorem ok__law_drawn_log (N : Nat) (T : Txt K mg base w) : Df P w K mg base "_law_drawn_log" p__law_drawn_log 4 (m__law_drawn_log N) := by
  obtain ⟨fa, fd, g1, F⟩ := T.f__law_drawn_log
  exact ⟨fa, fd, g1, F.kp, F.bindsN (ps := p__law_drawn_log) fun _ _ _ _ _ _ us hl => match us, hl with | [_], _ => rfl, fm__law_drawn_log N T F⟩
theorem fk__law_pool (N : Nat) (T : Txt K mg base w) {fa : Addr} {fd : FuncData} (F : FunD K "_law_pool" "_law_pool" (defArgs s__law_pool) (defBody s__law_pool) (defScope s__law_pool) [] [] fa fd) : FnG P w K mg base (0 + 1) fa fd p__law_pool (spM K mg p__law_pool.length (fnM n__law_pool.length (C.b__law_pool N))) := by
  apply def_okD F sc__law_pool
  intro cdv A outer s H E c
  exact (rss_cons (rs_set (i := 1) c.nd rfl re_int)
      (rss_cons (rs_if (rt_w (rw_or (rt_cmp om_lt (rv 0) re_int (nomark _)) (rw_or1 (rt_cmp om_ge (rv 0) (re_bin om_pow re_int re_int) (nomark _))))) (rss_one (rs_set (i := 1) c.nd rfl (re_b cm_abs rfl T.b_abs bt_abs (ra_cons (rv 0) ra_nil)))) rss_nil)
      (rss_one (rs_ret (re_new (ra_cons (re_bin om_mod (rv 0) re_int) (ra_cons (rv 1) (ra_cons re_int ra_nil))))))))
theorem fm__law_pool (N : Nat) (T : Txt K mg base w) {fa : Addr} {fd : FuncData} (F : FunD K "_law_pool" "_law_pool" (defArgs s__law_pool) (defBody s__law_pool) (defScope s__law_pool) [] [] fa fd) : FnG P w K mg base 1 fa fd p__law_pool (spM K mg p__law_pool.length (C.m__law_pool N)) := fk__law_pool N T F
theorem ok__law_pool (N : Nat) (T : Txt K mg base w) : Df P w K mg base "_law_pool" p__law_pool 1 (C.m__law_pool N) := by
  obtain ⟨fa, fd, g1, F⟩ := T.f__law_pool
  exact ⟨fa, fd, g1, F.kp, F.bindsN (ps := p__law_pool) fun _ _ _ _ _ _ us hl => match us, hl with | [_], _ => rfl, fm__law_pool N T F⟩
theorem fk_is_whole (N : Nat) (T : Txt K mg base w) {fa : Addr} {fd : FuncData} (F : FunD K "is_whole" "is_whole" (defArgs s_is_whole) (defBody s_is_whole) (defScope s_is_whole) [] [] fa fd) : FnG P w K mg base (0 + 1) fa fd p_is_whole (spM K mg p_is_whole.length (fnM n_is_whole.length (C.b_is_whole N))) := by
  apply def_okD F sc_is_whole
  intro cdv A outer s H E c
  exact (rss_one (rs_ret (re_and (re_isTy .int T.b_isinstance T.b_int bt_int (rv 0)) (re_one (re_not (re_isTy .bool T.b_isinstance T.b_bool bt_bool (rv 0)))))))
theorem fm_is_whole (N : Nat) (T : Txt K mg base w) {fa : Addr} {fd : FuncData} (F : FunD K "is_whole" "is_whole" (defArgs s_is_whole) (defBody s_is_whole) (defScope s_is_whole) [] [] fa fd) : FnG P w K mg base 1 fa fd p_is_whole (spM K mg p_is_whole.length (C.m_is_whole N)) := fk_is_whole N T F
theorem ok_is_whole (N : Nat) (T : Txt K mg base w) : Df P w K mg base "is_whole" p_is_whole 1 (C.m_is_whole N) := by
  obtain ⟨fa, fd, g1, F⟩ := T.f_is_whole
  exact ⟨fa, fd, g1, F.kp, F.bindsN (ps := p_is_whole) fun _ _ _ _ _ _ us hl => match us, hl with | [_], _ => rfl, fm_is_whole N T F⟩
theorem fk_shared (N : Nat) (T : Txt K mg base w) {fa : Addr} {fd : FuncData} (F : FunD K "shared" "shared" (defArgs s_shared) (defBody s_shared) (defScope s_shared) [] [] fa fd) : FnG P w K mg base (0 + 1) fa fd p_shared (spM K mg p_shared.length (fnM n_shared.length (C.b_shared N))) := by
  apply def_okD F sc_shared
  intro cdv A outer s H E c
  exact (rss_cons (rs_while N c.po (rt_cmp om_gt (rv 1) re_int (nomark _)) (rss_one (rs_par (i := 0) (j := 1) c.calm c.nd rfl rfl (by decide) (ra_cons (rv 1) (ra_cons (re_bin om_mod (rv 0) (rv 1)) ra_nil)))))
      (rss_one (rs_ret (rv 0))))
theorem fm_shared (N : Nat) (T : Txt K mg base w) {fa : Addr} {fd : FuncData} (F : FunD K "shared" "shared" (defArgs s_shared) (defBody s_shared) (defScope s_shared) [] [] fa fd) : FnG P w K mg base 1 fa fd p_shared (spM K mg p_shared.length (C.m_shared N)) := fk_shared N T F
theorem ok_shared (N : Nat) (T : Txt K mg base w) : Df P w K mg base "shared" p_shared 1 (C.m_shared N) := by
  obtain ⟨fa, fd, g1, F⟩ := T.f_shared
  exact ⟨fa, fd, g1, F.kp, F.bindsN (ps := p_shared) fun _ _ _ _ _ _ us hl => match us, hl with | [_, _], _ => rfl, fm_shared N T F⟩
theorem fk_is_ratio (N : Nat) (T : Txt K mg base w) {fa : Addr} {fd : FuncData} (F : FunD K "is_ratio" "is_ratio" (defArgs s_is_ratio) (defBody s_is_ratio) (defScope s_is_ratio) [] [] fa fd) : FnG P w K mg base (1 + 1) fa fd p_is_ratio (spM K mg p_is_ratio.length (fnM n_is_ratio.length (C.b_is_ratio N))) := by
  apply def_okD F sc_is_ratio
  intro cdv A outer s H E c
  exact (rss_cons (rs_if (rt_w (rw_or (rt_not (rt_e (re_isTy .tuple T.b_isinstance T.b_tuple bt_tuple (rv 0)))) (rw_or (rt_cmp (om_ne c.u) (re_b cm_len rfl T.b_len bt_len (ra_cons (rv 0) ra_nil)) re_int (nomark _)) (rw_or1 (rt_not (rt_e (re_b (cm_all c.calm) rfl T.b_all bt_all (ra_cons (re_lc [("part", 3)] c.calm c.nd (ri_e (rv 0)) (blkOk_by (own := [("part", 3)]) (N := n_is_ratio) (sc := defScope s_is_ratio) (by decide +kernel)) (by decide) (fun _ _ _ _ _ => (pg_name (i := 3) c.nd rfl (by first | exact Or.inl rfl | exact Or.inr rfl))) (fun _ _ _ _ _ => pts0) (fun _ _ _ _ _ => (re_callB c.blk (ok_is_whole N T) (by decide) (ra_cons (rv 3) ra_nil)))) ra_nil)))))))) (rss_one (rs_ret re_bl)) rss_nil)
      (rss_cons (rs_asg (rv 0) (rg_tup c.calm (rgs_cons (rg_name (i := 1) c.nd rfl) (rgs_cons (rg_name (i := 2) c.nd rfl) rgs_nil))))
      (rss_one (rs_ret (re_and (re_cmp om_gt (rv 2) re_int (nomark _)) (re_one (re_cmp (om_eq c.u) (re_call c (ok_shared N T) (by decide) (ra_cons (re_b cm_abs rfl T.b_abs bt_abs (ra_cons (rv 1) ra_nil)) (ra_cons (rv 2) ra_nil))) re_int (nomark _))))))))
theorem fm_is_ratio (N : Nat) (T : Txt K mg base w) {fa : Addr} {fd : FuncData} (F : FunD K "is_ratio" "is_ratio" (defArgs s_is_ratio) (defBody s_is_ratio) (defScope s_is_ratio) [] [] fa fd) : FnG P w K mg base 2 fa fd p_is_ratio (spM K mg p_is_ratio.length (C.m_is_ratio N)) := fk_is_ratio N T F
theorem ok_is_ratio (N : Nat) (T : Txt K mg base w) : Df P w K mg base "is_ratio" p_is_ratio 2 (C.m_is_ratio N) := by
  obtain ⟨fa, fd, g1, F⟩ := T.f_is_ratio
  exact ⟨fa, fd, g1, F.kp, F.bindsN (ps := p_is_ratio) fun _ _ _ _ _ _ us hl => match us, hl with | [_], _ => rfl, fm_is_ratio N T F⟩
theorem fk_check_ratio (N : Nat) (T : Txt K mg base w) {fa : Addr} {fd : FuncData} (F : FunD K "check_ratio" "check_ratio" (defArgs s_check_ratio) (defBody s_check_ratio) (defScope s_check_ratio) [] [] fa fd) : FnG P w K mg base (2 + 1) fa fd p_check_ratio (spM K mg p_check_ratio.length (fnM n_check_ratio.length (C.b_check_ratio N))) := by
  obtain ⟨C_NoRatio, g_NoRatio, x_NoRatio⟩ := T.x_NoRatio
  apply def_okD F sc_check_ratio
  intro cdv A outer s H E c
  exact (rss_one (rs_if (rt_not (rt_e (re_call c (ok_is_ratio N T) (by decide) (ra_cons (rv 0) ra_nil)))) (rss_one (rs_raise 3 rfl c PySem.F.excBase_ValueError x_NoRatio.x g_NoRatio x_NoRatio.k (raises_own x_NoRatio.b x_NoRatio.t))) rss_nil))
theorem fm_check_ratio (N : Nat) (T : Txt K mg base w) {fa : Addr} {fd : FuncData} (F : FunD K "check_ratio" "check_ratio" (defArgs s_check_ratio) (defBody s_check_ratio) (defScope s_check_ratio) [] [] fa fd) : FnG P w K mg base 3 fa fd p_check_ratio (spM K mg p_check_ratio.length (C.m_check_ratio N)) := fk_check_ratio N T F
theorem ok_check_ratio (N : Nat) (T : Txt K mg base w) : Df P w K mg base "check_ratio" p_check_ratio 3 (C.m_check_ratio N) := by
  obtain ⟨fa, fd, g1, F⟩ := T.f_check_ratio
  exact ⟨fa, fd, g1, F.kp, F.bindsN (ps := p_check_ratio) fun _ _ _ _ _ _ us hl => match us, hl with | [_], _ => rfl, fm_check_ratio N T F⟩
theorem fk_check_two (N : Nat) (T : Txt K mg base w) {fa : Addr} {fd : FuncData} (F : FunD K "check_two" "check_two" (defArgs s_check_two) (defBody s_check_two) (defScope s_check_two) [] [] fa fd) : FnG P w K mg base (3 + 1) fa fd p_check_two (spM K mg p_check_two.length (fnM n_check_two.length (C.b_check_two N))) := by
  apply def_okD F sc_check_two
  intro cdv A outer s H E c
  exact (rss_cons (rs_expr (re_call c (ok_check_ratio N T) (by decide) (ra_cons (rv 0) ra_nil)))
      (rss_one (rs_expr (re_call c (ok_check_ratio N T) (by decide) (ra_cons (rv 1) ra_nil)))))
theorem fm_check_two (N : Nat) (T : Txt K mg base w) {fa : Addr} {fd : FuncData} (F : FunD K "check_two" "check_two" (defArgs s_check_two) (defBody s_check_two) (defScope s_check_two) [] [] fa fd) : FnG P w K mg base 4 fa fd p_check_two (spM K mg p_check_two.length (C.m_check_two N)) := fk_check_two N T F
theorem ok_check_two (N : Nat) (T : Txt K mg base w) : Df P w K mg base "check_two" p_check_two 4 (C.m_check_two N) := by
  obtain ⟨fa, fd, g1, F⟩ := T.f_check_two
  exact ⟨fa, fd, g1, F.kp, F.bindsN (ps := p_check_two) fun _ _ _ _ _ _ us hl => match us, hl with | [_, _], _ => rfl, fm_check_two N T F⟩
theorem fk_is_before (N : Nat) (T : Txt K mg base w) {fa : Addr} {fd : FuncData} (F : FunD K "is_before" "is_before" (defArgs s_is_before) (defBody s_is_before) (defScope s_is_before) [] [] fa fd) : FnG P w K mg base (4 + 1) fa fd p_is_before (spM K mg p_is_before.length (fnM n_is_before.length (C.b_is_before N))) := by
  apply def_okD F sc_is_before
  intro cdv A outer s H E c
  exact (rss_cons (rs_expr (re_call c (ok_check_two N T) (by decide) (ra_cons (rv 0) (ra_cons (rv 1) ra_nil))))
      (rss_one (rs_ret (re_cmp om_lt (re_bin om_mul (re_ix (rv 0) re_int) (re_ix (rv 1) re_int)) (re_bin om_mul (re_ix (rv 1) re_int) (re_ix (rv 0) re_int)) (nomark _)))))
theorem fm_is_before (N : Nat) (T : Txt K mg base w) {fa : Addr} {fd : FuncData} (F : FunD K "is_before" "is_before" (defArgs s_is_before) (defBody s_is_before) (defScope s_is_before) [] [] fa fd) : FnG P w K mg base 5 fa fd p_is_before (spM K mg p_is_before.length (C.m_is_before N)) := fk_is_before N T F
theorem ok_is_before (N : Nat) (T : Txt K mg base w) : Df P w K mg base "is_before" p_is_before 5 (C.m_is_before N) := by
  obtain ⟨fa, fd, g1, F⟩ := T.f_is_before
  exact ⟨fa, fd, g1, F.kp, F.bindsN (ps := p_is_before) fun _ _ _ _ _ _ us hl => match us, hl with | [_, _], _ => rfl, fm_is_before N T F⟩
theorem fk_is_rate (N : Nat) (T : Txt K mg base w) {fa : Addr} {fd : FuncData} (F : FunD K "is_rate" "is_rate" (defArgs s_is_rate) (defBody s_is_rate) (defScope s_is_rate) [] [] fa fd) : FnG P w K mg base (2 + 1) fa fd p_is_rate (spM K mg p_is_rate.length (fnM n_is_rate.length (C.b_is_rate N))) := by
  apply def_okD F sc_is_rate
  intro cdv A outer s H E c
  exact (rss_one (rs_ret (re_and (re_call c (ok_is_ratio N T) (by decide) (ra_cons (rv 0) ra_nil)) (re_one (re_chain om_lt om_le re_int (re_ix (rv 0) re_int) (re_ix (rv 0) re_int))))))
theorem fm_is_rate (N : Nat) (T : Txt K mg base w) {fa : Addr} {fd : FuncData} (F : FunD K "is_rate" "is_rate" (defArgs s_is_rate) (defBody s_is_rate) (defScope s_is_rate) [] [] fa fd) : FnG P w K mg base 3 fa fd p_is_rate (spM K mg p_is_rate.length (C.m_is_rate N)) := fk_is_rate N T F
theorem ok_is_rate (N : Nat) (T : Txt K mg base w) : Df P w K mg base "is_rate" p_is_rate 3 (C.m_is_rate N) := by
  obtain ⟨fa, fd, g1, F⟩ := T.f_is_rate
  exact ⟨fa, fd, g1, F.kp, F.bindsN (ps := p_is_rate) fun _ _ _ _ _ _ us hl => match us, hl with | [_], _ => rfl, fm_is_rate N T F⟩
theorem fk_is_time (N : Nat) (T : Txt K mg base w) {fa : Addr} {fd : FuncData} (F : FunD K "is_time" "is_time" (defArgs s_is_time) (defBody s_is_time) (defScope s_is_time) [] [] fa fd) : FnG P w K mg base (2 + 1) fa fd p_is_time (spM K mg p_is_time.length (fnM n_is_time.length (C.b_is_time N))) := by
  apply def_okD F sc_is_time
  intro cdv A outer s H E c
  exact (rss_one (rs_ret (re_and (re_call c (ok_is_ratio N T) (by decide) (ra_cons (rv 0) ra_nil)) (re_one (re_cmp om_ge (re_ix (rv 0) re_int) re_int (nomark _))))))
theorem fm_is_time (N : Nat) (T : Txt K mg base w) {fa : Addr} {fd : FuncData} (F : FunD K "is_time" "is_time" (defArgs s_is_time) (defBody s_is_time) (defScope s_is_time) [] [] fa fd) : FnG P w K mg base 3 fa fd p_is_time (spM K mg p_is_time.length (C.m_is_time N)) := fk_is_time N T F
theorem ok_is_time (N : Nat) (T : Txt K mg base w) : Df P w K mg base "is_time" p_is_time 3 (C.m_is_time N) := by
  obtain ⟨fa, fd, g1, F⟩ := T.f_is_time
  exact ⟨fa, fd, g1, F.kp, F.bindsN (ps := p_is_time) fun _ _ _ _ _ _ us hl => match us, hl with | [_], _ => rfl, fm_is_time N T F⟩
theorem fk_is_least (N : Nat) (T : Txt K mg base w) {fa : Addr} {fd : FuncData} (F : FunD K "is_least" "is_least" (defArgs s_is_least) (defBody s_is_least) (defScope s_is_least) [] [] fa fd) : FnG P w K mg base (3 + 1) fa fd p_is_least (spM K mg p_is_least.length (fnM n_is_least.length (b_is_least N))) := by
  obtain ⟨k0_NONE, g_NONE, k_NONE⟩ := T.c_NONE
  apply def_okD F sc_is_least
  intro cdv A outer s H E c
  exact (rss_one (rs_ret (re_or (re_and (re_cmp (om_eqU c.u) (rv 0) (re_glob (v := .ref k0_NONE) rfl g_NONE rfl (fun _ => .tup (.inr k_NONE) (.cons (.int _) (.cons (.int _) .nil)))) (nomark _)) (re_one (re_call c (ok_is_time N T) (by decide) (ra_cons (rv 0) ra_nil)))) (re_one (re_call c (ok_is_rate N T) (by decide) (ra_cons (rv 0) ra_nil))))))
theorem fm_is_least (N : Nat) (T : Txt K mg base w) {fa : Addr} {fd : FuncData} (F : FunD K "is_least" "is_least" (defArgs s_is_least) (defBody s_is_least) (defScope s_is_least) [] [] fa fd) : FnG P w K mg base 4 fa fd p_is_least (spM K mg p_is_least.length (m_is_least N)) := fk_is_least N T F
theorem ok_is_least (N : Nat) (T : Txt K mg base w) : Df P w K mg base "is_least" p_is_least 4 (m_is_least N) := by
  obtain ⟨fa, fd, g1, F⟩ := T.f_is_least
  exact ⟨fa, fd, g1, F.kp, F.bindsN (ps := p_is_least) fun _ _ _ _ _ _ us hl => match us, hl with | [_], _ => rfl, fm_is_least N T F⟩
theorem fk_is_most (N : Nat) (T : Txt K mg base w) {fa : Addr} {fd : FuncData} (F : FunD K "is_most" "is_most" (defArgs s_is_most) (defBody s_is_most) (defScope s_is_most) [] [] fa fd) : FnG P w K mg base (3 + 1) fa fd p_is_most (spM K mg p_is_most.length (fnM n_is_most.length (C.b_is_most N))) := by
  apply def_okD F sc_is_most
  intro cdv A outer s H E c
  exact (rss_one (rs_ret (re_or (re_cmp om_is (rv 0) re_non (nomark _)) (re_one (re_call c (ok_is_rate N T) (by decide) (ra_cons (rv 0) ra_nil))))))
theorem fm_is_most (N : Nat) (T : Txt K mg base w) {fa : Addr} {fd : FuncData} (F : FunD K "is_most" "is_most" (defArgs s_is_most) (defBody s_is_most) (defScope s_is_most) [] [] fa fd) : FnG P w K mg base 4 fa fd p_is_most (spM K mg p_is_most.length (C.m_is_most N)) := fk_is_most N T F
theorem ok_is_most (N : Nat) (T : Txt K mg base w) : Df P w K mg base "is_most" p_is_most 4 (C.m_is_most N) := by
  obtain ⟨fa, fd, g1, F⟩ := T.f_is_most
  exact ⟨fa, fd, g1, F.kp, F.bindsN (ps := p_is_most) fun _ _ _ _ _ _ us hl => match us, hl with | [_], _ => rfl, fm_is_most N T F⟩
theorem fk_is_name (N : Nat) (T : Txt K mg base w) {fa : Addr} {fd : FuncData} (F : FunD K "is_name" "is_name" (defArgs s_is_name) (defBody s_is_name) (defScope s_is_name) [] [] fa fd) : FnG P w K mg base (0 + 1) fa fd p_is_name (spM K mg p_is_name.length (fnM n_is_name.length (C.b_is_name N))) := by
  obtain ⟨k0_LETTERS, g_LETTERS⟩ := T.c_LETTERS
  obtain ⟨k0_MOST_LETTERS, g_MOST_LETTERS⟩ := T.c_MOST_LETTERS
  apply def_okD F sc_is_name
  intro cdv A outer s H E c
  exact (rss_cons (rs_if (rt_w (rw_or (rt_not (rt_e (re_isTy .str T.b_isinstance T.b_str bt_str (rv 0)))) (rw_or1 (rt_not (rt_chain om_le om_le re_int (re_b cm_len rfl T.b_len bt_len (ra_cons (rv 0) ra_nil)) (re_glob (v := .int 8) rfl g_MOST_LETTERS ⟨_, rfl⟩ (fun _ => .int _))))))) (rss_one (rs_ret re_bl)) rss_nil)
      (rss_one (rs_ret (re_b (cm_all c.calm) rfl T.b_all bt_all (ra_cons (re_lc [("sign", 1)] c.calm c.nd (ri_str (rv 0)) (blkOk_by (own := [("sign", 1)]) (N := n_is_name) (sc := defScope s_is_name) (by decide +kernel)) (by decide) (fun _ _ _ _ _ => (pg_name (i := 1) c.nd rfl (by first | exact Or.inl rfl | exact Or.inr rfl))) (fun _ _ _ _ _ => pts0) (fun _ _ _ _ _ => (re_cmpS om_in (rv 1) (re_glob (v := .str "abcdefghijklmnopqrstuvwxyz") rfl g_LETTERS ⟨_, rfl⟩ (fun _ => .str _))))) ra_nil)))))
theorem fm_is_name (N : Nat) (T : Txt K mg base w) {fa : Addr} {fd : FuncData} (F : FunD K "is_name" "is_name" (defArgs s_is_name) (defBody s_is_name) (defScope s_is_name) [] [] fa fd) : FnG P w K mg base 1 fa fd p_is_name (spM K mg p_is_name.length (C.m_is_name N)) := fk_is_name N T F
theorem ok_is_name (N : Nat) (T : Txt K mg base w) : Df P w K mg base "is_name" p_is_name 1 (C.m_is_name N) := by
  obtain ⟨fa, fd, g1, F⟩ := T.f_is_name
  exact ⟨fa, fd, g1, F.kp, F.bindsN (ps := p_is_name) fun _ _ _ _ _ _ us hl => match us, hl with | [_], _ => rfl, fm_is_name N T F⟩
theorem fk_is_within (N : Nat) (T : Txt K mg base w) {fa : Addr} {fd : FuncData} (F : FunD K "is_within" "is_within" (defArgs s_is_within) (defBody s_is_within) (defScope s_is_within) [] [] fa fd) : FnG P w K mg base (0 + 1) fa fd p_is_within (spM K mg p_is_within.length (fnM n_is_within.length (C.b_is_within N))) := by
  apply def_okD F sc_is_within
  intro cdv A outer s H E c
  exact (rss_one (rs_ret (re_and (re_isTy .int T.b_isinstance T.b_int bt_int (rv 0)) (re_and (re_not (re_isTy .bool T.b_isinstance T.b_bool bt_bool (rv 0))) (re_one (re_chain om_le om_le re_int (rv 0) (rv 1)))))))
theorem fm_is_within (N : Nat) (T : Txt K mg base w) {fa : Addr} {fd : FuncData} (F : FunD K "is_within" "is_within" (defArgs s_is_within) (defBody s_is_within) (defScope s_is_within) [] [] fa fd) : FnG P w K mg base 1 fa fd p_is_within (spM K mg p_is_within.length (C.m_is_within N)) := fk_is_within N T F
theorem ok_is_within (N : Nat) (T : Txt K mg base w) : Df P w K mg base "is_within" p_is_within 1 (C.m_is_within N) := by
  obtain ⟨fa, fd, g1, F⟩ := T.f_is_within
  exact ⟨fa, fd, g1, F.kp, F.bindsN (ps := p_is_within) fun _ _ _ _ _ _ us hl => match us, hl with | [_, _], _ => rfl, fm_is_within N T F⟩
theorem fk_is_size (N : Nat) (T : Txt K mg base w) {fa : Addr} {fd : FuncData} (F : FunD K "is_size" "is_size" (defArgs s_is_size) (defBody s_is_size) (defScope s_is_size) [] [] fa fd) : FnG P w K mg base (1 + 1) fa fd p_is_size (spM K mg p_is_size.length (fnM n_is_size.length (C.b_is_size N))) := by
  obtain ⟨k0_MOST_SIZE, g_MOST_SIZE⟩ := T.c_MOST_SIZE
  apply def_okD F sc_is_size
  intro cdv A outer s H E c
  exact (rss_one (rs_ret (re_call c (ok_is_within N T) (by decide) (ra_cons (rv 0) (ra_cons (re_glob (v := .int 999) rfl g_MOST_SIZE ⟨_, rfl⟩ (fun _ => .int _)) ra_nil)))))
theorem fm_is_size (N : Nat) (T : Txt K mg base w) {fa : Addr} {fd : FuncData} (F : FunD K "is_size" "is_size" (defArgs s_is_size) (defBody s_is_size) (defScope s_is_size) [] [] fa fd) : FnG P w K mg base 2 fa fd p_is_size (spM K mg p_is_size.length (C.m_is_size N)) := fk_is_size N T F
theorem ok_is_size (N : Nat) (T : Txt K mg base w) : Df P w K mg base "is_size" p_is_size 2 (C.m_is_size N) := by
  obtain ⟨fa, fd, g1, F⟩ := T.f_is_size
  exact ⟨fa, fd, g1, F.kp, F.bindsN (ps := p_is_size) fun _ _ _ _ _ _ us hl => match us, hl with | [_], _ => rfl, fm_is_size N T F⟩
theorem fk_is_way (N : Nat) (T : Txt K mg base w) {fa : Addr} {fd : FuncData} (F : FunD K "is_way" "is_way" (defArgs s_is_way) (defBody s_is_way) (defScope s_is_way) [] [] fa fd) : FnG P w K mg base (0 + 1) fa fd p_is_way (spM K mg p_is_way.length (fnM n_is_way.length (C.b_is_way N))) := by
  apply def_okD F sc_is_way
  intro cdv A outer s H E c
  exact (rss_one (rs_ret (re_and (re_isTy .str T.b_isinstance T.b_str bt_str (rv 0)) (re_one (re_cmpS om_inL (rv 0) (re_tup (ra_cons re_str (ra_cons re_str ra_nil))))))))
theorem fm_is_way (N : Nat) (T : Txt K mg base w) {fa : Addr} {fd : FuncData} (F : FunD K "is_way" "is_way" (defArgs s_is_way) (defBody s_is_way) (defScope s_is_way) [] [] fa fd) : FnG P w K mg base 1 fa fd p_is_way (spM K mg p_is_way.length (C.m_is_way N)) := fk_is_way N T F
theorem ok_is_way (N : Nat) (T : Txt K mg base w) : Df P w K mg base "is_way" p_is_way 1 (C.m_is_way N) := by
  obtain ⟨fa, fd, g1, F⟩ := T.f_is_way
  exact ⟨fa, fd, g1, F.kp, F.bindsN (ps := p_is_way) fun _ _ _ _ _ _ us hl => match us, hl with | [_], _ => rfl, fm_is_way N T F⟩
theorem fk_is_weight (N : Nat) (T : Txt K mg base w) {fa : Addr} {fd : FuncData} (F : FunD K "is_weight" "is_weight" (defArgs s_is_weight) (defBody s_is_weight) (defScope s_is_weight) [] [] fa fd) : FnG P w K mg base (1 + 1) fa fd p_is_weight (spM K mg p_is_weight.length (fnM n_is_weight.length (C.b_is_weight_logs N))) := by
  obtain ⟨k0_MOST_WEIGHT, g_MOST_WEIGHT⟩ := T.c_MOST_WEIGHT
  apply def_okD F sc_is_weight
  intro cdv A outer s H E c
  exact (rss_one (rs_ret (re_call c (ok_is_within N T) (by decide) (ra_cons (rv 0) (ra_cons (re_glob (v := .int 99) rfl g_MOST_WEIGHT ⟨_, rfl⟩ (fun _ => .int _)) ra_nil)))))
theorem fm_is_weight (N : Nat) (T : Txt K mg base w) {fa : Addr} {fd : FuncData} (F : FunD K "is_weight" "is_weight" (defArgs s_is_weight) (defBody s_is_weight) (defScope s_is_weight) [] [] fa fd) : FnG P w K mg base 2 fa fd p_is_weight (spM K mg p_is_weight.length (C.m_is_weight_logs N)) := fk_is_weight N T F
theorem ok_is_weight (N : Nat) (T : Txt K mg base w) : Df P w K mg base "is_weight" p_is_weight 2 (C.m_is_weight_logs N) := by
  obtain ⟨fa, fd, g1, F⟩ := T.f_is_weight
  exact ⟨fa, fd, g1, F.kp, F.bindsN (ps := p_is_weight) fun _ _ _ _ _ _ us hl => match us, hl with | [_], _ => rfl, fm_is_weight N T F⟩
theorem fk_is_part (N : Nat) (T : Txt K mg base w) {fa : Addr} {fd : FuncData} (F : FunD K "is_part" "is_part" (defArgs s_is_part) (defBody s_is_part) (defScope s_is_part) [] [] fa fd) : FnG P w K mg base (4 + 1) fa fd p_is_part (spM K mg p_is_part.length (fnM n_is_part.length (b_is_part N))) := by
  apply def_okD F sc_is_part
  intro cdv A outer s H E c
  exact (rss_tabCall (i := 2) c T.d_LOOKS (.cons (ps := p_is_name) (ok_is_name N T) (by decide) (.cons (ps := p_is_least) (ok_is_least N T) (by decide) (.cons (ps := p_is_most) (ok_is_most N T) (by decide) (.cons (ps := p_is_weight) (ok_is_weight N T) (by decide) (.cons (ps := p_is_size) (ok_is_size N T) (by decide) (.cons (ps := p_is_way) (ok_is_way N T) (by decide) .nil)))))) rfl (rv 0) (ra_cons (rv 1) ra_nil) (aCons_off (eVar_off (by decide)) aNil_off))
theorem fm_is_part (N : Nat) (T : Txt K mg base w) {fa : Addr} {fd : FuncData} (F : FunD K "is_part" "is_part" (defArgs s_is_part) (defBody s_is_part) (defScope s_is_part) [] [] fa fd) : FnG P w K mg base 5 fa fd p_is_part (spM K mg p_is_part.length (m_is_part N)) := fk_is_part N T F
theorem ok_is_part (N : Nat) (T : Txt K mg base w) : Df P w K mg base "is_part" p_is_part 5 (m_is_part N) := by
  obtain ⟨fa, fd, g1, F⟩ := T.f_is_part
  exact ⟨fa, fd, g1, F.kp, F.bindsN (ps := p_is_part) fun _ _ _ _ _ _ us hl => match us, hl with | [_, _], _ => rfl, fm_is_part N T F⟩
theorem fk_is_row (N : Nat) (T : Txt K mg base w) {fa : Addr} {fd : FuncData} (F : FunD K "is_row" "is_row" (defArgs s_is_row) (defBody s_is_row) (defScope s_is_row) [] [] fa fd) : FnG P w K mg base (5 + 1) fa fd p_is_row (spM K mg p_is_row.length (fnM n_is_row.length (b_is_row N))) := by
  apply def_okD F sc_is_row
  intro cdv A outer s H E c
  exact (rss_cons (rs_if (rt_w (rw_or (rt_not (rt_e (re_isTy .tuple T.b_isinstance T.b_tuple bt_tuple (rv 0)))) (rw_or (rt_cmp om_lt (re_b cm_len rfl T.b_len bt_len (ra_cons (rv 0) ra_nil)) re_int (nomark _)) (rw_or (rt_not (rt_e (re_isTy .str T.b_isinstance T.b_str bt_str (re_ix (rv 0) re_int)))) (rw_or1 (rt_tabNotIn T.d_PARTS (re_ix (rv 0) re_int))))))) (rss_one (rs_ret re_bl)) rss_nil)
      (rss_cons (rs_asg (rv 0) (rg_star (i := 2) c.calm (rgs_cons (rg_name (i := 2) c.nd rfl) (rgs_cons (rg_name (i := 3) c.nd rfl) (rgs_star (rg_name (i := 4) c.nd rfl) rgs_nil)))))
      (rss_cons (rs_set (i := 5) c.nd rfl (re_tabIx T.d_PARTS (rv 2)))
      (rss_cons (rs_if (rt_w (rw_or (rt_not (rt_e (re_call c (ok_is_time N T) (by decide) (ra_cons (rv 3) ra_nil)))) (rw_or1 (rt_cmp (om_ne c.u) (re_b cm_len rfl T.b_len bt_len (ra_cons (rv 4) ra_nil)) (re_b cm_len rfl T.b_len bt_len (ra_cons (rv 5) ra_nil)) (nomark _))))) (rss_one (rs_ret re_bl)) rss_nil)
      (rss_cons (rs_if (rt_w (rw_and (rt_cmp om_isnot (rv 1) re_non (nomark _)) (rw_and1 (rt_w (rw_or (rt_cmp (om_eq c.u) (re_ix (rv 1) re_int) re_str (nomark _)) (rw_or1 (rt_e (re_call c (ok_is_before N T) (by decide) (ra_cons (rv 3) (ra_cons (re_ix (rv 1) re_int) ra_nil)))))))))) (rss_one (rs_ret re_bl)) rss_nil)
      (rss_one (rs_ret (re_b (cm_all c.calm) rfl T.b_all bt_all (ra_cons (re_lc [("sort", 6), ("part", 7)] c.calm c.nd (ri_zipM T.b_zip (ra_cons (rv 5) (ra_cons (rv 4) ra_nil))) (blkOk_by (own := [("sort", 6), ("part", 7)]) (N := n_is_row) (sc := defScope s_is_row) (by decide +kernel)) (by decide) (fun _ _ _ _ _ => pg_tup c.calm (pgs_cons (pg_name (i := 6) c.nd rfl (by first | exact Or.inl rfl | exact Or.inr rfl)) (pgs_cons (pg_name (i := 7) c.nd rfl (by first | exact Or.inl rfl | exact Or.inr rfl)) pgs_nil))) (fun _ _ _ _ _ => pts0) (fun _ _ _ _ _ => (re_callB c.blk (ok_is_part N T) (by decide) (ra_cons (rv 6) (ra_cons (rv 7) ra_nil))))) ra_nil)))))))))
theorem fm_is_row (N : Nat) (T : Txt K mg base w) {fa : Addr} {fd : FuncData} (F : FunD K "is_row" "is_row" (defArgs s_is_row) (defBody s_is_row) (defScope s_is_row) [] [] fa fd) : FnG P w K mg base 6 fa fd p_is_row (spM K mg p_is_row.length (m_is_row N)) := fk_is_row N T F
theorem ok_is_row (N : Nat) (T : Txt K mg base w) : Df P w K mg base "is_row" p_is_row 6 (m_is_row N) := by
  obtain ⟨fa, fd, g1, F⟩ := T.f_is_row
  exact ⟨fa, fd, g1, F.kp, F.bindsN (ps := p_is_row) fun _ _ _ _ _ _ us hl => match us, hl with | [_, _], _ => rfl, fm_is_row N T F⟩
theorem fk_first_odd (N : Nat) (T : Txt K mg base w) {fa : Addr} {fd : FuncData} (F : FunD K "first_odd" "first_odd" (defArgs s_first_odd) (defBody s_first_odd) (defScope s_first_odd) [] [] fa fd) : FnG P w K mg base (6 + 1) fa fd p_first_odd (spM K mg p_first_odd.length (fnM n_first_odd.length (b_first_odd N))) := by
  apply def_okD F sc_first_odd
  intro cdv A outer s H E c
  exact (rss_cons (rs_if (rt_not (rt_e (re_isTy .tuple T.b_isinstance T.b_tuple bt_tuple (rv 0)))) (rss_one (rs_raiseF 17 4 c fam_ValueError (xi_NoLog T) re_non)) rss_nil)
      (rss_cons (rs_set (i := 1) c.nd rfl re_non)
      (rss_cons (rs_for c.po c.calm (ri_enum T.b_enumerate (ra_cons (rv 0) ra_nil)) (rg_tup c.calm (rgs_cons (rg_name (i := 2) c.nd rfl) (rgs_cons (rg_name (i := 3) c.nd rfl) rgs_nil))) (rss_cons (rs_if (rt_not (rt_e (re_call c (ok_is_row N T) (by decide) (ra_cons (rv 3) (ra_cons (rv 1) ra_nil))))) (rss_one (rs_ret (rv 2))) rss_nil)
      (rss_one (rs_set (i := 1) c.nd rfl (rv 3)))))
      (rss_one (rs_ret (re_if (rt_w (rw_or (rt_cmp om_is (rv 1) re_non (nomark _)) (rw_or1 (rt_cmp (om_ne c.u) (re_ix (rv 1) re_int) re_str (nomark _))))) (re_b cm_len rfl T.b_len bt_len (ra_cons (rv 0) ra_nil)) re_non))))))
theorem fm_first_odd (N : Nat) (T : Txt K mg base w) {fa : Addr} {fd : FuncData} (F : FunD K "first_odd" "first_odd" (defArgs s_first_odd) (defBody s_first_odd) (defScope s_first_odd) [] [] fa fd) : FnG P w K mg base 7 fa fd p_first_odd (spM K mg p_first_odd.length (m_first_odd N)) := fk_first_odd N T F
theorem ok_first_odd (N : Nat) (T : Txt K mg base w) : Df P w K mg base "first_odd" p_first_odd 7 (m_first_odd N) := by
  obtain ⟨fa, fd, g1, F⟩ := T.f_first_odd
  exact ⟨fa, fd, g1, F.kp, F.bindsN (ps := p_first_odd) fun _ _ _ _ _ _ us hl => match us, hl with | [_], _ => rfl, fm_first_odd N T F⟩
theorem fk_check_forms (N : Nat) (T : Txt K mg base w) {fa : Addr} {fd : FuncData} (F : FunD K "check_forms" "check_forms" (defArgs s_check_forms) (defBody s_check_forms) (defScope s_check_forms) [] [] fa fd) : FnG P w K mg base (7 + 1) fa fd p_check_forms (spM K mg p_check_forms.length (fnM n_check_forms.length (b_check_forms N))) := by
  apply def_okD F sc_check_forms
  intro cdv A outer s H E c
  exact (rss_cons (rs_set (i := 1) c.nd rfl (re_call c (ok_first_odd N T) (by decide) (ra_cons (rv 0) ra_nil)))
      (rss_one (rs_if (rt_cmp om_isnot (rv 1) re_non (nomark _)) (rss_one (rs_raiseF 17 4 c fam_ValueError (xi_NoLog T) (rv 1))) rss_nil)))
theorem fm_check_forms (N : Nat) (T : Txt K mg base w) {fa : Addr} {fd : FuncData} (F : FunD K "check_forms" "check_forms" (defArgs s_check_forms) (defBody s_check_forms) (defScope s_check_forms) [] [] fa fd) : FnG P w K mg base 8 fa fd p_check_forms (spM K mg p_check_forms.length (m_check_forms N)) := fk_check_forms N T F
theorem ok_check_forms (N : Nat) (T : Txt K mg base w) : Df P w K mg base "check_forms" p_check_forms 8 (m_check_forms N) := by
  obtain ⟨fa, fd, g1, F⟩ := T.f_check_forms
  exact ⟨fa, fd, g1, F.kp, F.bindsN (ps := p_check_forms) fun _ _ _ _ _ _ us hl => match us, hl with | [_], _ => rfl, fm_check_forms N T F⟩
theorem fk_show_ratio (N : Nat) (T : Txt K mg base w) {fa : Addr} {fd : FuncData} (F : FunD K "show_ratio" "show_ratio" (defArgs s_show_ratio) (defBody s_show_ratio) (defScope s_show_ratio) [] [] fa fd) : FnG P w K mg base (3 + 1) fa fd p_show_ratio (spM K mg p_show_ratio.length (fnM n_show_ratio.length (C.b_show_ratio N))) := by
  apply def_okD F sc_show_ratio
  intro cdv A outer s H E c
  exact (rss_cons (rs_expr (re_call c (ok_check_ratio N T) (by decide) (ra_cons (rv 0) ra_nil)))
      (rss_cons (rs_asg (rv 0) (rg_tup c.calm (rgs_cons (rg_name (i := 1) c.nd rfl) (rgs_cons (rg_name (i := 2) c.nd rfl) rgs_nil))))
      (rss_cons (rs_if (rt_cmp (om_eq c.u) (rv 2) re_int (nomark _)) (rss_one (rs_ret (re_ty cm_str rfl T.b_str bt_str (ra_cons (rv 1) ra_nil)))) rss_nil)
      (rss_one (rs_ret (re_js (.cons (re_fmt (rv 1)) (.cons re_str (.cons (re_fmt (rv 2)) .nil)))))))))
theorem fm_show_ratio (N : Nat) (T : Txt K mg base w) {fa : Addr} {fd : FuncData} (F : FunD K "show_ratio" "show_ratio" (defArgs s_show_ratio) (defBody s_show_ratio) (defScope s_show_ratio) [] [] fa fd) : FnG P w K mg base 4 fa fd p_show_ratio (spM K mg p_show_ratio.length (C.m_show_ratio N)) := fk_show_ratio N T F
theorem ok_show_ratio (N : Nat) (T : Txt K mg base w) : Df P w K mg base "show_ratio" p_show_ratio 4 (C.m_show_ratio N) := by
  obtain ⟨fa, fd, g1, F⟩ := T.f_show_ratio
  exact ⟨fa, fd, g1, F.kp, F.bindsN (ps := p_show_ratio) fun _ _ _ _ _ _ us hl => match us, hl with | [_], _ => rfl, fm_show_ratio N T F⟩
theorem fk_show_part (N : Nat) (T : Txt K mg base w) {fa : Addr} {fd : FuncData} (F : FunD K "show_part" "show_part" (defArgs s_show_part) (defBody s_show_part) (defScope s_show_part) [] [] fa fd) : FnG P w K mg base (4 + 1) fa fd p_show_part (spM K mg p_show_part.length (fnM n_show_part.length (b_show_part N))) := by
  obtain ⟨k0_NONE, g_NONE, k_NONE⟩ := T.c_NONE
  apply def_okD F sc_show_part
  intro cdv A outer s H E c
  exact (rss_cons (rs_if (rt_w (rw_or (rt_cmp om_is (rv 0) re_non (nomark _)) (rw_or1 (rt_cmp (om_eq c.u) (rv 0) (re_glob (v := .ref k0_NONE) rfl g_NONE rfl (fun _ => .tup (.inr k_NONE) (.cons (.int _) (.cons (.int _) .nil)))) (nomark _))))) (rss_one (rs_ret re_str)) rss_nil)
      (rss_cons (rs_if (rt_e (re_isTy .tuple T.b_isinstance T.b_tuple bt_tuple (rv 0))) (rss_one (rs_ret (re_call c (ok_show_ratio N T) (by decide) (ra_cons (rv 0) ra_nil)))) rss_nil)
      (rss_one (rs_ret (re_ty cm_str rfl T.b_str bt_str (ra_cons (rv 0) ra_nil))))))
theorem fm_show_part (N : Nat) (T : Txt K mg base w) {fa : Addr} {fd : FuncData} (F : FunD K "show_part" "show_part" (defArgs s_show_part) (defBody s_show_part) (defScope s_show_part) [] [] fa fd) : FnG P w K mg base 5 fa fd p_show_part (spM K mg p_show_part.length (m_show_part N)) := fk_show_part N T F
theorem ok_show_part (N : Nat) (T : Txt K mg base w) : Df P w K mg base "show_part" p_show_part 5 (m_show_part N) := by
  obtain ⟨fa, fd, g1, F⟩ := T.f_show_part
  exact ⟨fa, fd, g1, F.kp, F.bindsN (ps := p_show_part) fun _ _ _ _ _ _ us hl => match us, hl with | [_], _ => rfl, fm_show_part N T F⟩
theorem fk_show_row (N : Nat) (T : Txt K mg base w) {fa : Addr} {fd : FuncData} (F : FunD K "show_row" "show_row" (defArgs s_show_row) (defBody s_show_row) (defScope s_show_row) [] [] fa fd) : FnG P w K mg base (5 + 1) fa fd p_show_row (spM K mg p_show_row.length (fnM n_show_row.length (b_show_row N))) := by
  apply def_okD F sc_show_row
  intro cdv A outer s H E c
  exact (rss_cons (rs_asg (rv 0) (rg_star (i := 2) c.calm (rgs_cons (rg_name (i := 1) c.nd rfl) (rgs_cons (rg_name (i := 2) c.nd rfl) (rgs_star (rg_name (i := 3) c.nd rfl) rgs_nil)))))
      (rss_one (rs_ret (re_tm tm_join PySem.F.slot_str_join PySem.F.type_str_join re_str (ra_cons (re_binS om_addS (re_lst (ra_cons (rv 1) (ra_cons (re_call c (ok_show_ratio N T) (by decide) (ra_cons (rv 2) ra_nil)) ra_nil))) (re_lc [("part", 4)] c.calm c.nd (ri_e (rv 3)) (blkOk_by (own := [("part", 4)]) (N := n_show_row) (sc := defScope s_show_row) (by decide +kernel)) (by decide) (fun _ _ _ _ _ => (pg_name (i := 4) c.nd rfl (by first | exact Or.inl rfl | exact Or.inr rfl))) (fun _ _ _ _ _ => pts0) (fun _ _ _ _ _ => (re_callB c.blk (ok_show_part N T) (by decide) (ra_cons (rv 4) ra_nil))))) ra_nil)))))
theorem fm_show_row (N : Nat) (T : Txt K mg base w) {fa : Addr} {fd : FuncData} (F : FunD K "show_row" "show_row" (defArgs s_show_row) (defBody s_show_row) (defScope s_show_row) [] [] fa fd) : FnG P w K mg base 6 fa fd p_show_row (spM K mg p_show_row.length (m_show_row N)) := fk_show_row N T F
theorem ok_show_row (N : Nat) (T : Txt K mg base w) : Df P w K mg base "show_row" p_show_row 6 (m_show_row N) := by
  obtain ⟨fa, fd, g1, F⟩ := T.f_show_row
  exact ⟨fa, fd, g1, F.kp, F.bindsN (ps := p_show_row) fun _ _ _ _ _ _ us hl => match us, hl with | [_], _ => rfl, fm_show_row N T F⟩
theorem fk_show_log (N : Nat) (T : Txt K mg base w) {fa : Addr} {fd : FuncData} (F : FunD K "show_log" "show_log" (defArgs s_show_log) (defBody s_show_log) (defScope s_show_log) [] [] fa fd) : FnG P w K mg base (8 + 1) fa fd p_show_log (spM K mg p_show_log.length (fnM n_show_log.length (b_show_log N))) := by
  apply def_okD F sc_show_log
  intro cdv A outer s H E c
  exact (rss_cons (rs_expr (re_call c (ok_check_forms N T) (by decide) (ra_cons (rv 0) ra_nil)))
      (rss_one (rs_ret (re_tm tm_join PySem.F.slot_str_join PySem.F.type_str_join re_str (ra_cons (re_lc [("row", 1)] c.calm c.nd (ri_e (rv 0)) (blkOk_by (own := [("row", 1)]) (N := n_show_log) (sc := defScope s_show_log) (by decide +kernel)) (by decide) (fun _ _ _ _ _ => (pg_name (i := 1) c.nd rfl (by first | exact Or.inl rfl | exact Or.inr rfl))) (fun _ _ _ _ _ => pts0) (fun _ _ _ _ _ => (re_callB c.blk (ok_show_row N T) (by decide) (ra_cons (rv 1) ra_nil)))) ra_nil)))))
theorem fm_show_log (N : Nat) (T : Txt K mg base w) {fa : Addr} {fd : FuncData} (F : FunD K "show_log" "show_log" (defArgs s_show_log) (defBody s_show_log) (defScope s_show_log) [] [] fa fd) : FnG P w K mg base 9 fa fd p_show_log (spM K mg p_show_log.length (m_show_log N)) := fk_show_log N T F
theorem ok_show_log (N : Nat) (T : Txt K mg base w) : Df P w K mg base "show_log" p_show_log 9 (m_show_log N) := by
  obtain ⟨fa, fd, g1, F⟩ := T.f_show_log
  exact ⟨fa, fd, g1, F.kp, F.bindsN (ps := p_show_log) fun _ _ _ _ _ _ us hl => match us, hl with | [_], _ => rfl, fm_show_log N T F⟩
theorem fk__law_refused (N : Nat) (T : Txt K mg base w) {fa : Addr} {fd : FuncData} (F : FunD K "_law_refused" "_law_refused" (defArgs s__law_refused) (defBody s__law_refused) (defScope s__law_refused) [] [] fa fd) : FnG P w K mg base (9 + 1) fa fd p__law_refused (spM K mg p__law_refused.length (fnM n__law_refused.length (b__law_refused N))) := by
  obtain ⟨C_LostError, g_LostError⟩ := T.x_LostError
  obtain ⟨C_NoLog, g_NoLog⟩ := T.x_NoLog
  obtain ⟨C_ShareError, g_ShareError⟩ := T.x_ShareError
  obtain ⟨C_TagError, g_TagError⟩ := T.x_TagError
  apply def_okD F sc__law_refused
  intro cdv A outer s H E c
  exact (rss_cons (rs_try c (i := 1) rfl ⟨rfl, by decide, .inl g_TagError⟩ (T.tx_TagError _ g_TagError) (fun _ _ _ c => (rss_one (rs_expr (re_call c (ok_show_log N T) (by decide) (ra_cons (rv 0) ra_nil))))) (fun _ _ => (rss_cons (rs_if (rt_w (rw_or (rt_not (rt_e (re_isY T.b_isinstance (rv 1) (pe_glob (v := .ref C_NoLog) rfl g_NoLog rfl) (.own _) (T.tb_NoLog _ g_NoLog)))) (rw_or (rt_e (re_isYT T.b_isinstance (rv 1) (.cons (pe_glob (v := .ref C_LostError) rfl g_LostError rfl) (.own _) rfl (.cons (pe_glob (v := .ref C_ShareError) rfl g_ShareError rfl) (.own _) rfl .nil)) (.cons (T.tb_LostError _ g_LostError) (.cons (T.tb_ShareError _ g_ShareError) .nil)) (by decide))) (rw_or1 (rt_not (rt_e (re_isY T.b_isinstance (rv 1) (pe_bltn (v := .ty "ValueError") rfl T.b_ValueError bt_ValueError rfl) (.ty _) (T.tb_ValueError)))))))) (rss_one (rs_ret (re_lst (ra_cons re_str ra_nil)))) rss_nil)
      (rss_one (rs_ret (re_lst (ra_cons (re_fldY 4 T.z_row (rv 1)) ra_nil)))))))
      (rss_one (rs_ret re_non)))
theorem fm__law_refused (N : Nat) (T : Txt K mg base w) {fa : Addr} {fd : FuncData} (F : FunD K "_law_refused" "_law_refused" (defArgs s__law_refused) (defBody s__law_refused) (defScope s__law_refused) [] [] fa fd) : FnG P w K mg base 10 fa fd p__law_refused (spM K mg p__law_refused.length (m__law_refused N)) := fk__law_refused N T F
theorem ok__law_refused (N : Nat) (T : Txt K mg base w) : Df P w K mg base "_law_refused" p__law_refused 10 (m__law_refused N) := by
  obtain ⟨fa, fd, g1, F⟩ := T.f__law_refused
  exact ⟨fa, fd, g1, F.kp, F.bindsN (ps := p__law_refused) fun _ _ _ _ _ _ us hl => match us, hl with | [_], _ => rfl, fm__law_refused N T F⟩
theorem fk__law_less (N : Nat) (T : Txt K mg base w) {fa : Addr} {fd : FuncData} (F : FunD K "_law_less" "_law_less" (defArgs s__law_less) (defBody s__law_less) (defScope s__law_less) [] [] fa fd) : FnG P w K mg base (0 + 1) fa fd p__law_less (spM K mg p__law_less.length (fnM n__law_less.length (C.b__law_less N))) := by
  apply def_okD F sc__law_less
  intro cdv A outer s H E c
  exact (rss_one (rs_ret (re_cmp om_lt (re_bin om_mul (re_ix (rv 0) re_int) (re_ix (rv 1) re_int)) (re_bin om_mul (re_ix (rv 1) re_int) (re_ix (rv 0) re_int)) (nomark _))))
theorem fm__law_less (N : Nat) (T : Txt K mg base w) {fa : Addr} {fd : FuncData} (F : FunD K "_law_less" "_law_less" (defArgs s__law_less) (defBody s__law_less) (defScope s__law_less) [] [] fa fd) : FnG P w K mg base 1 fa fd p__law_less (spM K mg p__law_less.length (C.m__law_less N)) := fk__law_less N T F
theorem ok__law_less (N : Nat) (T : Txt K mg base w) : Df P w K mg base "_law_less" p__law_less 1 (C.m__law_less N) := by
  obtain ⟨fa, fd, g1, F⟩ := T.f__law_less
  exact ⟨fa, fd, g1, F.kp, F.bindsN (ps := p__law_less) fun _ _ _ _ _ _ us hl => match us, hl with | [_, _], _ => rfl, fm__law_less N T F⟩
theorem fk__law_name_so (N : Nat) (T : Txt K mg base w) {fa : Addr} {fd : FuncData} (F : FunD K "_law_name_so" "_law_name_so" (defArgs s__law_name_so) (defBody s__law_name_so) (defScope s__law_name_so) [] [] fa fd) : FnG P w K mg base (0 + 1) fa fd p__law_name_so (spM K mg p__law_name_so.length (fnM n__law_name_so.length (C.b_is_name N))) := by
  apply def_okD F sc__law_name_so
  intro cdv A outer s H E c
  exact (rss_cons (rs_if (rt_w (rw_or (rt_not (rt_e (re_isTy .str T.b_isinstance T.b_str bt_str (rv 0)))) (rw_or1 (rt_not (rt_chain om_le om_le re_int (re_b cm_len rfl T.b_len bt_len (ra_cons (rv 0) ra_nil)) re_int))))) (rss_one (rs_ret re_bl)) rss_nil)
      (rss_one (rs_ret (re_b (cm_all c.calm) rfl T.b_all bt_all (ra_cons (re_lc [("_law_sign", 1)] c.calm c.nd (ri_str (rv 0)) (blkOk_by (own := [("_law_sign", 1)]) (N := n__law_name_so) (sc := defScope s__law_name_so) (by decide +kernel)) (by decide) (fun _ _ _ _ _ => (pg_name (i := 1) c.nd rfl (by first | exact Or.inl rfl | exact Or.inr rfl))) (fun _ _ _ _ _ => pts0) (fun _ _ _ _ _ => (re_cmpS om_in (rv 1) re_str))) ra_nil)))))
theorem fm__law_name_so (N : Nat) (T : Txt K mg base w) {fa : Addr} {fd : FuncData} (F : FunD K "_law_name_so" "_law_name_so" (defArgs s__law_name_so) (defBody s__law_name_so) (defScope s__law_name_so) [] [] fa fd) : FnG P w K mg base 1 fa fd p__law_name_so (spM K mg p__law_name_so.length (C.m_is_name N)) := fk__law_name_so N T F
theorem ok__law_name_so (N : Nat) (T : Txt K mg base w) : Df P w K mg base "_law_name_so" p__law_name_so 1 (C.m_is_name N) := by
  obtain ⟨fa, fd, g1, F⟩ := T.f__law_name_so
  exact ⟨fa, fd, g1, F.kp, F.bindsN (ps := p__law_name_so) fun _ _ _ _ _ _ us hl => match us, hl with | [_], _ => rfl, fm__law_name_so N T F⟩
theorem fk__law_ratio_so (N : Nat) (T : Txt K mg base w) {fa : Addr} {fd : FuncData} (F : FunD K "_law_ratio_so" "_law_ratio_so" (defArgs s__law_ratio_so) (defBody s__law_ratio_so) (defScope s__law_ratio_so) [] [] fa fd) : FnG P w K mg base (1 + 1) fa fd p__law_ratio_so (spM K mg p__law_ratio_so.length (fnM n__law_ratio_so.length (b__law_ratio_so N))) := by
  apply def_okD F sc__law_ratio_so
  intro cdv A outer s H E c
  exact (rss_cons (rs_if (rt_w (rw_or (rt_not (rt_e (re_isTy .tuple T.b_isinstance T.b_tuple bt_tuple (rv 0)))) (rw_or1 (rt_cmp (om_ne c.u) (re_b cm_len rfl T.b_len bt_len (ra_cons (rv 0) ra_nil)) re_int (nomark _))))) (rss_one (rs_ret re_bl)) rss_nil)
      (rss_cons (rs_if (rt_not (rt_e (re_b (cm_all c.calm) rfl T.b_all bt_all (ra_cons (re_lc [("_law_part", 1)] c.calm c.nd (ri_e (rv 0)) (blkOk_by (own := [("_law_part", 1)]) (N := n__law_ratio_so) (sc := defScope s__law_ratio_so) (by decide +kernel)) (by decide) (fun _ _ _ _ _ => (pg_name (i := 1) c.nd rfl (by first | exact Or.inl rfl | exact Or.inr rfl))) (fun _ _ _ _ _ => pts0) (fun _ _ _ _ _ => (re_and (re_isTy .int T.b_isinstance T.b_int bt_int (rv 1)) (re_one (re_not (re_isTy .bool T.b_isinstance T.b_bool bt_bool (rv 1))))))) ra_nil)))) (rss_one (rs_ret re_bl)) rss_nil)
      (rss_one (rs_ret (re_and (re_cmp om_gt (re_ix (rv 0) re_int) re_int (nomark _)) (re_one (re_cmp (om_eq c.u) (re_call c (ok__law_r N T) (by decide) (ra_cons (re_ix (rv 0) re_int) (ra_cons (re_ix (rv 0) re_int) ra_nil))) (rv 0) (nomark _))))))))
theorem fm__law_ratio_so (N : Nat) (T : Txt K mg base w) {fa : Addr} {fd : FuncData} (F : FunD K "_law_ratio_so" "_law_ratio_so" (defArgs s__law_ratio_so) (defBody s__law_ratio_so) (defScope s__law_ratio_so) [] [] fa fd) : FnG P w K mg base 2 fa fd p__law_ratio_so (spM K mg p__law_ratio_so.length (m__law_ratio_so N)) := fk__law_ratio_so N T F
theorem ok__law_ratio_so (N : Nat) (T : Txt K mg base w) : Df P w K mg base "_law_ratio_so" p__law_ratio_so 2 (m__law_ratio_so N) := by
  obtain ⟨fa, fd, g1, F⟩ := T.f__law_ratio_so
  exact ⟨fa, fd, g1, F.kp, F.bindsN (ps := p__law_ratio_so) fun _ _ _ _ _ _ us hl => match us, hl with | [_], _ => rfl, fm__law_ratio_so N T F⟩
theorem fk__law_rate_so (N : Nat) (T : Txt K mg base w) {fa : Addr} {fd : FuncData} (F : FunD K "_law_rate_so" "_law_rate_so" (defArgs s__law_rate_so) (defBody s__law_rate_so) (defScope s__law_rate_so) [] [] fa fd) : FnG P w K mg base (2 + 1) fa fd p__law_rate_so (spM K mg p__law_rate_so.length (fnM n__law_rate_so.length (b__law_rate_so N))) := by
  apply def_okD F sc__law_rate_so
  intro cdv A outer s H E c
  exact (rss_one (rs_ret (re_and (re_call c (ok__law_ratio_so N T) (by decide) (ra_cons (rv 0) ra_nil)) (re_one (re_chain om_lt om_le re_int (re_ix (rv 0) re_int) (re_ix (rv 0) re_int))))))
theorem fm__law_rate_so (N : Nat) (T : Txt K mg base w) {fa : Addr} {fd : FuncData} (F : FunD K "_law_rate_so" "_law_rate_so" (defArgs s__law_rate_so) (defBody s__law_rate_so) (defScope s__law_rate_so) [] [] fa fd) : FnG P w K mg base 3 fa fd p__law_rate_so (spM K mg p__law_rate_so.length (m__law_rate_so N)) := fk__law_rate_so N T F
theorem ok__law_rate_so (N : Nat) (T : Txt K mg base w) : Df P w K mg base "_law_rate_so" p__law_rate_so 3 (m__law_rate_so N) := by
  obtain ⟨fa, fd, g1, F⟩ := T.f__law_rate_so
  exact ⟨fa, fd, g1, F.kp, F.bindsN (ps := p__law_rate_so) fun _ _ _ _ _ _ us hl => match us, hl with | [_], _ => rfl, fm__law_rate_so N T F⟩
theorem fk__law_whole_so (N : Nat) (T : Txt K mg base w) {fa : Addr} {fd : FuncData} (F : FunD K "_law_whole_so" "_law_whole_so" (defArgs s__law_whole_so) (defBody s__law_whole_so) (defScope s__law_whole_so) [] [] fa fd) : FnG P w K mg base (0 + 1) fa fd p__law_whole_so (spM K mg p__law_whole_so.length (fnM n__law_whole_so.length (C.b_is_within N))) := by
  apply def_okD F sc__law_whole_so
  intro cdv A outer s H E c
  exact (rss_one (rs_ret (re_and (re_isTy .int T.b_isinstance T.b_int bt_int (rv 0)) (re_and (re_not (re_isTy .bool T.b_isinstance T.b_bool bt_bool (rv 0))) (re_one (re_chain om_le om_le re_int (rv 0) (rv 1)))))))
theorem fm__law_whole_so (N : Nat) (T : Txt K mg base w) {fa : Addr} {fd : FuncData} (F : FunD K "_law_whole_so" "_law_whole_so" (defArgs s__law_whole_so) (defBody s__law_whole_so) (defScope s__law_whole_so) [] [] fa fd) : FnG P w K mg base 1 fa fd p__law_whole_so (spM K mg p__law_whole_so.length (C.m_is_within N)) := fk__law_whole_so N T F
theorem ok__law_whole_so (N : Nat) (T : Txt K mg base w) : Df P w K mg base "_law_whole_so" p__law_whole_so 1 (C.m_is_within N) := by
  obtain ⟨fa, fd, g1, F⟩ := T.f__law_whole_so
  exact ⟨fa, fd, g1, F.kp, F.bindsN (ps := p__law_whole_so) fun _ _ _ _ _ _ us hl => match us, hl with | [_, _], _ => rfl, fm__law_whole_so N T F⟩
theorem fk__law_part_so (N : Nat) (T : Txt K mg base w) {fa : Addr} {fd : FuncData} (F : FunD K "_law_part_so" "_law_part_so" (defArgs s__law_part_so) (defBody s__law_part_so) (defScope s__law_part_so) [] [] fa fd) : FnG P w K mg base (3 + 1) fa fd p__law_part_so (spM K mg p__law_part_so.length (fnM n__law_part_so.length (b__law_part_so N))) := by
  apply def_okD F sc__law_part_so
  intro cdv A outer s H E c
  exact (rss_cons (rs_if (rt_cmp (om_eq c.u) (rv 0) re_str (nomark _)) (rss_one (rs_ret (re_call c (ok__law_name_so N T) (by decide) (ra_cons (rv 1) ra_nil)))) rss_nil)
      (rss_cons (rs_if (rt_cmp (om_eq c.u) (rv 0) re_str (nomark _)) (rss_one (rs_ret (re_or (re_call c (ok__law_rate_so N T) (by decide) (ra_cons (rv 1) ra_nil)) (re_one (re_and (re_call c (ok__law_ratio_so N T) (by decide) (ra_cons (rv 1) ra_nil)) (re_one (re_cmp (om_eq c.u) (rv 1) (re_tup (ra_cons re_int (ra_cons re_int ra_nil))) (nomark _)))))))) rss_nil)
      (rss_cons (rs_if (rt_cmp (om_eq c.u) (rv 0) re_str (nomark _)) (rss_one (rs_ret (re_or (re_cmp om_is (rv 1) re_non (nomark _)) (re_one (re_call c (ok__law_rate_so N T) (by decide) (ra_cons (rv 1) ra_nil)))))) rss_nil)
      (rss_cons (rs_if (rt_cmp (om_eq c.u) (rv 0) re_str (nomark _)) (rss_one (rs_ret (re_and (re_isTy .str T.b_isinstance T.b_str bt_str (rv 1)) (re_one (re_cmpS om_inL (rv 1) (re_lst (ra_cons re_str (ra_cons re_str ra_nil)))))))) rss_nil)
      (rss_one (rs_ret (re_call c (ok__law_whole_so N T) (by decide) (ra_cons (rv 1) (ra_cons (re_ixE c.u (re_disp (.cons re_int (.cons re_int .nil)) (by decide) (by decide) (by decide +kernel)) (rv 0)) ra_nil)))))))))
theorem fm__law_part_so (N : Nat) (T : Txt K mg base w) {fa : Addr} {fd : FuncData} (F : FunD K "_law_part_so" "_law_part_so" (defArgs s__law_part_so) (defBody s__law_part_so) (defScope s__law_part_so) [] [] fa fd) : FnG P w K mg base 4 fa fd p__law_part_so (spM K mg p__law_part_so.length (m__law_part_so N)) := fk__law_part_so N T F
theorem ok__law_part_so (N : Nat) (T : Txt K mg base w) : Df P w K mg base "_law_part_so" p__law_part_so 4 (m__law_part_so N) := by
  obtain ⟨fa, fd, g1, F⟩ := T.f__law_part_so
  exact ⟨fa, fd, g1, F.kp, F.bindsN (ps := p__law_part_so) fun _ _ _ _ _ _ us hl => match us, hl with | [_, _], _ => rfl, fm__law_part_so N T F⟩
theorem fk__law_row_so (N : Nat) (T : Txt K mg base w) {fa : Addr} {fd : FuncData} (F : FunD K "_law_row_so" "_law_row_so" (defArgs s__law_row_so) (defBody s__law_row_so) (defScope s__law_row_so) [] [] fa fd) : FnG P w K mg base (4 + 1) fa fd p__law_row_so (spM K mg p__law_row_so.length (fnM n__law_row_so.length (b__law_row_so N))) := by
  apply def_okD F sc__law_row_so
  intro cdv A outer s H E c
  exact (rss_cons (rs_set (i := 2) c.nd rfl (re_disp (.cons re_str (.cons re_str (.cons re_str (.cons re_str (.cons re_str (.cons re_str (.cons re_str .nil))))))) (by decide) (by decide) (by decide +kernel)))
      (rss_cons (rs_asg re_str (rg_subE c.u (rv 2) re_str))
      (rss_cons (rs_if (rt_w (rw_or (rt_not (rt_e (re_isTy .tuple T.b_isinstance T.b_tuple bt_tuple (rv 0)))) (rw_or (rt_cmp om_lt (re_b cm_len rfl T.b_len bt_len (ra_cons (rv 0) ra_nil)) re_int (nomark _)) (rw_or (rt_not (rt_e (re_isTy .str T.b_isinstance T.b_str bt_str (re_ix (rv 0) re_int)))) (rw_or1 (rt_cmpS (om_notInK c.u) (re_ix (rv 0) re_int) (rv 2))))))) (rss_one (rs_ret re_bl)) rss_nil)
      (rss_cons (rs_set (i := 3) c.nd rfl (re_ixE c.u (rv 2) (re_ix (rv 0) re_int)))
      (rss_cons (rs_if (rt_w (rw_or (rt_not (rt_e (re_call c (ok__law_ratio_so N T) (by decide) (ra_cons (re_ix (rv 0) re_int) ra_nil)))) (rw_or (rt_cmp om_lt (re_ix (re_ix (rv 0) re_int) re_int) re_int (nomark _)) (rw_or1 (rt_cmp (om_ne c.u) (re_b cm_len rfl T.b_len bt_len (ra_cons (rv 0) ra_nil)) (re_binS om_addS re_int (re_b cm_len rfl T.b_len bt_len (ra_cons (rv 3) ra_nil))) (nomark _)))))) (rss_one (rs_ret re_bl)) rss_nil)
      (rss_cons (rs_if (rt_w (rw_and (rt_cmp om_isnot (rv 1) re_non (nomark _)) (rw_and1 (rt_w (rw_or (rt_cmp (om_eq c.u) (re_ix (rv 1) re_int) re_str (nomark _)) (rw_or1 (rt_e (re_call c (ok__law_less N T) (by decide) (ra_cons (re_ix (rv 0) re_int) (ra_cons (re_ix (rv 1) re_int) ra_nil)))))))))) (rss_one (rs_ret re_bl)) rss_nil)
      (rss_one (rs_ret (re_b (cm_all c.calm) rfl T.b_all bt_all (ra_cons (re_lc [("_law_k", 4)] c.calm c.nd (ri_range1 T.b_range (ra_cons (re_b cm_len rfl T.b_len bt_len (ra_cons (rv 3) ra_nil)) ra_nil)) (blkOk_by (own := [("_law_k", 4)]) (N := n__law_row_so) (sc := defScope s__law_row_so) (by decide +kernel)) (by decide) (fun _ _ _ _ _ => (pg_name (i := 4) c.nd rfl (by first | exact Or.inl rfl | exact Or.inr rfl))) (fun _ _ _ _ _ => pts0) (fun _ _ _ _ _ => (re_callB c.blk (ok__law_part_so N T) (by decide) (ra_cons (re_ix (rv 3) (rv 4)) (ra_cons (re_ix (rv 0) (re_binS om_addS re_int (rv 4))) ra_nil))))) ra_nil))))))))))
theorem fm__law_row_so (N : Nat) (T : Txt K mg base w) {fa : Addr} {fd : FuncData} (F : FunD K "_law_row_so" "_law_row_so" (defArgs s__law_row_so) (defBody s__law_row_so) (defScope s__law_row_so) [] [] fa fd) : FnG P w K mg base 5 fa fd p__law_row_so (spM K mg p__law_row_so.length (m__law_row_so N)) := fk__law_row_so N T F
theorem ok__law_row_so (N : Nat) (T : Txt K mg base w) : Df P w K mg base "_law_row_so" p__law_row_so 5 (m__law_row_so N) := by
  obtain ⟨fa, fd, g1, F⟩ := T.f__law_row_so
  exact ⟨fa, fd, g1, F.kp, F.bindsN (ps := p__law_row_so) fun _ _ _ _ _ _ us hl => match us, hl with | [_, _], _ => rfl, fm__law_row_so N T F⟩
theorem fk__law_odd_row (N : Nat) (T : Txt K mg base w) {fa : Addr} {fd : FuncData} (F : FunD K "_law_odd_row" "_law_odd_row" (defArgs s__law_odd_row) (defBody s__law_odd_row) (defScope s__law_odd_row) [] [] fa fd) : FnG P w K mg base (5 + 1) fa fd p__law_odd_row (spM K mg p__law_odd_row.length (fnM n__law_odd_row.length (b__law_odd_row N))) := by
  apply def_okD F sc__law_odd_row
  intro cdv A outer s H E c
  exact (rss_cons (rs_set (i := 1) c.nd rfl re_non)
      (rss_cons (rs_for c.po c.calm (ri_enum T.b_enumerate (ra_cons (rv 0) ra_nil)) (rg_tup c.calm (rgs_cons (rg_name (i := 2) c.nd rfl) (rgs_cons (rg_name (i := 3) c.nd rfl) rgs_nil))) (rss_cons (rs_if (rt_not (rt_e (re_call c (ok__law_row_so N T) (by decide) (ra_cons (rv 3) (ra_cons (rv 1) ra_nil))))) (rss_one (rs_ret (rv 2))) rss_nil)
      (rss_one (rs_set (i := 1) c.nd rfl (rv 3)))))
      (rss_one (rs_ret (re_if (rt_w (rw_or (rt_cmp om_is (rv 1) re_non (nomark _)) (rw_or1 (rt_cmp (om_ne c.u) (re_ix (rv 1) re_int) re_str (nomark _))))) (re_b cm_len rfl T.b_len bt_len (ra_cons (rv 0) ra_nil)) re_non)))))
theorem fm__law_odd_row (N : Nat) (T : Txt K mg base w) {fa : Addr} {fd : FuncData} (F : FunD K "_law_odd_row" "_law_odd_row" (defArgs s__law_odd_row) (defBody s__law_odd_row) (defScope s__law_odd_row) [] [] fa fd) : FnG P w K mg base 6 fa fd p__law_odd_row (spM K mg p__law_odd_row.length (m__law_odd_row N)) := fk__law_odd_row N T F
theorem ok__law_odd_row (N : Nat) (T : Txt K mg base w) : Df P w K mg base "_law_odd_row" p__law_odd_row 6 (m__law_odd_row N) := by
  obtain ⟨fa, fd, g1, F⟩ := T.f__law_odd_row
  exact ⟨fa, fd, g1, F.kp, F.bindsN (ps := p__law_odd_row) fun _ _ _ _ _ _ us hl => match us, hl with | [_], _ => rfl, fm__law_odd_row N T F⟩
theorem fk_is_log (N : Nat) (T : Txt K mg base w) {fa : Addr} {fd : FuncData} (F : FunD K "is_log" "is_log" (defArgs s_is_log) (defBody s_is_log) (defScope s_is_log) [] [] fa fd) : FnG P w K mg base (7 + 1) fa fd p_is_log (spM K mg p_is_log.length (fnM n_is_log.length (b_is_log N))) := by
  apply def_okD F sc_is_log
  intro cdv A outer s H E c
  exact (rss_one (rs_ret (re_and (re_isTy .tuple T.b_isinstance T.b_tuple bt_tuple (rv 0)) (re_one (re_cmp om_is (re_call c (ok_first_odd N T) (by decide) (ra_cons (rv 0) ra_nil)) re_non (nomark _))))))
theorem fm_is_log (N : Nat) (T : Txt K mg base w) {fa : Addr} {fd : FuncData} (F : FunD K "is_log" "is_log" (defArgs s_is_log) (defBody s_is_log) (defScope s_is_log) [] [] fa fd) : FnG P w K mg base 8 fa fd p_is_log (spM K mg p_is_log.length (m_is_log N)) := fk_is_log N T F
theorem ok_is_log (N : Nat) (T : Txt K mg base w) : Df P w K mg base "is_log" p_is_log 8 (m_is_log N) := by
  obtain ⟨fa, fd, g1, F⟩ := T.f_is_log
  exact ⟨fa, fd, g1, F.kp, F.bindsN (ps := p_is_log) fun _ _ _ _ _ _ us hl => match us, hl with | [_], _ => rfl, fm_is_log N T F⟩
theorem fk__law_thing_right (N : Nat) (T : Txt K mg base w) {fa : Addr} {fd : FuncData} (F : FunD K "_law_thing_right" "_law_thing_right" (defArgs s__law_thing_right) (defBody s__law_thing_right) (defScope s__law_thing_right) [] [] fa fd) : FnG P w K mg base (10 + 1) fa fd p__law_thing_right (spM K mg p__law_thing_right.length (fnM n__law_thing_right.length (b__law_thing_right N))) := by
  apply def_okD F sc__law_thing_right
  intro cdv A outer s H E c
  exact (rss_cons (rs_set (i := 1) c.nd rfl (re_if (rt_e (re_isTy .tuple T.b_isinstance T.b_tuple bt_tuple (rv 0))) (re_call c (ok__law_odd_row N T) (by decide) (ra_cons (rv 0) ra_nil)) (re_neg re_int)))
      (rss_cons (rs_set (i := 2) c.nd rfl (re_call c (ok_is_log N T) (by decide) (ra_cons (rv 0) ra_nil)))
      (rss_cons (rs_if (rt_w (rw_or (rt_not (rt_e (re_isTy .bool T.b_isinstance T.b_bool bt_bool (rv 2)))) (rw_or1 (rt_cmp (om_ne c.u) (rv 2) (re_cmp om_is (rv 1) re_non (nomark _)) (nomark _))))) (rss_one (rs_ret re_bl)) rss_nil)
      (rss_one (rs_ret (re_cmp (om_eq c.u) (re_call c (ok__law_refused N T) (by decide) (ra_cons (rv 0) ra_nil)) (re_if (rt_cmp om_is (rv 1) re_non (nomark _)) re_non (re_lst (ra_cons (re_if (rt_cmp (om_eq c.u) (rv 1) (re_neg re_int) (nomark _)) re_non (rv 1)) ra_nil))) (nomark _)))))))
theorem fm__law_thing_right (N : Nat) (T : Txt K mg base w) {fa : Addr} {fd : FuncData} (F : FunD K "_law_thing_right" "_law_thing_right" (defArgs s__law_thing_right) (defBody s__law_thing_right) (defScope s__law_thing_right) [] [] fa fd) : FnG P w K mg base 11 fa fd p__law_thing_right (spM K mg p__law_thing_right.length (m__law_thing_right N)) := fk__law_thing_right N T F
theorem ok__law_thing_right (N : Nat) (T : Txt K mg base w) : Df P w K mg base "_law_thing_right" p__law_thing_right 11 (m__law_thing_right N) := by
  obtain ⟨fa, fd, g1, F⟩ := T.f__law_thing_right
  exact ⟨fa, fd, g1, F.kp, F.bindsN (ps := p__law_thing_right) fun _ _ _ _ _ _ us hl => match us, hl with | [_], _ => rfl, fm__law_thing_right N T F⟩
theorem fk_law (N : Nat) (T : Txt K mg base w) {fa : Addr} {fd : FuncData} (F : FunD K "law" "law" (defArgs s_law) (defBody s_law) (defScope s_law) [] [] fa fd) : FnG P w K mg base (11 + 1) fa fd p_law (spM K mg p_law.length (fnM n_law.length (b_law N))) := by
  apply def_okD F sc_law
  intro cdv A outer s H E c
  exact (rss_cons (rs_for c.po c.calm (ri_range1 T.b_range (ra_cons (re_b (cm_max c.calm) rfl T.b_max bt_max (ra_cons re_int (ra_cons (re_b (cm_min c.calm) rfl T.b_min bt_min (ra_cons re_int (ra_cons (re_b cm_len rfl T.b_len bt_len (ra_cons (rv 0) ra_nil)) ra_nil))) ra_nil))) ra_nil)) (rg_name (i := 1) c.nd rfl) (rss_cons (rs_set (i := 2) c.nd rfl (re_call c (ok__law_pool N T) (by decide) (ra_cons (re_call c (ok__law_cell N T) (by decide) (ra_cons (rv 0) (ra_cons (rv 1) ra_nil))) ra_nil)))
      (rss_cons (rs_set (i := 3) c.nd rfl (re_call c (ok__law_drawn_log N T) (by decide) (ra_cons (rv 2) ra_nil)))
      (rss_cons (rs_if (rt_w (rw_or (rt_cmp om_isNotB (re_call c (ok_is_log N T) (by decide) (ra_cons (rv 3) ra_nil)) re_bl (nomark _)) (rw_or1 (rt_cmp om_isnot (re_call c (ok__law_refused N T) (by decide) (ra_cons (rv 3) ra_nil)) re_non (nomark _))))) (rss_one (rs_ret re_bl)) rss_nil)
      (rss_cons (rs_for c.po c.calm (ri_range1 T.b_range (ra_cons re_int ra_nil)) (rg_name (i := 4) c.nd rfl) (rss_cons (rs_set (i := 6) c.nd rfl (re_call c (ok__law_bent_log N T) (by decide) (ra_cons (rv 2) (ra_cons (rv 3) ra_nil))))
      (rss_cons (rs_if (rt_w (rw_and (rt_cmp (om_eq c.u) (re_call c (ok__law_take N T) (by decide) (ra_cons (rv 2) (ra_cons re_int ra_nil))) re_int (nomark _)) (rw_and (rt_e (re_isTy .tuple T.b_isinstance T.b_tuple bt_tuple (rv 6))) (rw_and (rt_cmp (om_neU c.u) (rv 6) (re_tup ra_nil) (nomark _)) (rw_and1 (rt_e (re_isTy .tuple T.b_isinstance T.b_tuple bt_tuple (re_ix (rv 6) (re_neg re_int))))))))) (rss_one (rs_set (i := 6) c.nd rfl (re_binS om_addS (rv 6) (re_slA (rv 6) (ro_some (re_neg re_int)) ro_none)))) rss_nil)
      (rss_one (rs_if (rt_not (rt_e (re_call c (ok__law_thing_right N T) (by decide) (ra_cons (rv 6) ra_nil)))) (rss_one (rs_ret re_bl)) rss_nil)))))
      (rss_cons (rs_for c.po c.calm (ri_e (re_lst (ra_cons re_non (ra_cons re_int (ra_cons re_str (ra_cons (re_lst ra_nil) (ra_cons re_dic0 (ra_cons (re_tup ra_nil) (ra_cons (re_tup (ra_cons (re_tup ra_nil) ra_nil)) (ra_cons (re_tup (ra_cons (re_tup (ra_cons re_str ra_nil)) ra_nil)) (ra_cons (re_tup (ra_cons (re_tup (ra_cons re_str (ra_cons (re_tup (ra_cons re_int (ra_cons re_int ra_nil))) ra_nil))) ra_nil)) (ra_cons (re_tup (ra_cons (rv 3) ra_nil)) (ra_cons re_bl (ra_cons (re_ty cm_list rfl T.b_list bt_list (ra_cons (rv 3) ra_nil)) ra_nil)))))))))))))) (rg_name (i := 5) c.nd rfl) (rss_one (rs_if (rt_not (rt_e (re_call c (ok__law_thing_right N T) (by decide) (ra_cons (rv 5) ra_nil)))) (rss_one (rs_ret re_bl)) rss_nil)))
      (rss_one (rs_if (rt_w (rw_or (rt_cmp om_isNotB (re_call c (ok_is_log N T) (by decide) (ra_cons (rv 3) ra_nil)) re_bl (nomark _)) (rw_or1 (rt_not (rt_e (re_call c (ok__law_thing_right N T) (by decide) (ra_cons (re_bin om_mulT (re_tup (ra_cons (re_tup (ra_cons re_str (ra_cons (re_tup (ra_cons re_int (ra_cons re_int ra_nil))) ra_nil))) ra_nil)) re_int) ra_nil))))))) (rss_one (rs_ret re_bl)) rss_nil))))))))
      (rss_one (rs_ret re_bl)))
theorem fm_law (N : Nat) (T : Txt K mg base w) {fa : Addr} {fd : FuncData} (F : FunD K "law" "law" (defArgs s_law) (defBody s_law) (defScope s_law) [] [] fa fd) : FnG P w K mg base 12 fa fd p_law (spM K mg p_law.length (m_law N)) := fk_law N T F
end
theorem txt_mk {K : PySem.W.Frag} {h base : Heap} {mg : Str → Option Value} {w : World} (X : K.In h) (Y : h.Ns mainGlobals mg) (c : SaysX fxAll fnAll K) (B : TBs K mg base tsL) (cw : SaysK tdL w K) : Txt K mg base w where
  tb := B
  b_ValueError := free_at X Y (c.fact 0 (f := fx_0)) 0
  b_abs := free_at X Y (c.fact 0 (f := fx_0)) 1
  b_all := free_at X Y (c.fact 0 (f := fx_0)) 2
  b_bool := free_at X Y (c.fact 0 (f := fx_0)) 3
  b_divmod := free_at X Y (c.fact 0 (f := fx_0)) 4
  b_enumerate := free_at X Y (c.fact 0 (f := fx_0)) 5
  b_int := free_at X Y (c.fact 0 (f := fx_0)) 6
  b_isinstance := free_at X Y (c.fact 0 (f := fx_0)) 7
  b_len := free_at X Y (c.fact 0 (f := fx_0)) 8
  b_list := free_at X Y (c.fact 0 (f := fx_0)) 9
  b_max := free_at X Y (c.fact 0 (f := fx_0)) 10
  b_min := free_at X Y (c.fact 0 (f := fx_0)) 11
  b_range := free_at X Y (c.fact 0 (f := fx_0)) 12
  b_str := free_at X Y (c.fact 0 (f := fx_0)) 13
  b_tuple := free_at X Y (c.fact 0 (f := fx_0)) 14
  b_zip := free_at X Y (c.fact 0 (f := fx_0)) 15
  c_LETTERS := str_at X Y (c.fact 4 (f := fx_4))
  c_MOST_LETTERS := int_at X Y (c.fact 5 (f := fx_5))
  c_MOST_SIZE := int_at X Y (c.fact 6 (f := fx_6))
  c_MOST_WEIGHT := int_at X Y (c.fact 7 (f := fx_7))
  c_NONE := ⟨_, (glo_at X Y (c.fact 3 (f := fx_3)) 8), tupX_ok (c.fact 8 (f := fx_8))⟩
  f__law_take := (c.def_ 0 (d := d__law_take)).elim fun fd F => ⟨_, fd, (glo_at X Y (c.fact 1 (f := fx_1)) 2), F⟩
  f__law_odd_part := (c.def_ 1 (d := d__law_odd_part)).elim fun fd F => ⟨_, fd, (glo_at X Y (c.fact 1 (f := fx_1)) 3), F⟩
  f__law_bent_log := (c.def_ 2 (d := d__law_bent_log)).elim fun fd F => ⟨_, fd, (glo_at X Y (c.fact 1 (f := fx_1)) 4), F⟩
  f__law_cell := (c.def_ 3 (d := d__law_cell)).elim fun fd F => ⟨_, fd, (glo_at X Y (c.fact 1 (f := fx_1)) 5), F⟩
  f__law_r := (c.def_ 4 (d := d__law_r)).elim fun fd F => ⟨_, fd, (glo_at X Y (c.fact 1 (f := fx_1)) 6), F⟩
  f__law_add := (c.def_ 5 (d := d__law_add)).elim fun fd F => ⟨_, fd, (glo_at X Y (c.fact 1 (f := fx_1)) 7), F⟩
  f__law_moment := (c.def_ 6 (d := d__law_moment)).elim fun fd F => ⟨_, fd, (glo_at X Y (c.fact 1 (f := fx_1)) 8), F⟩
  f__law_name := (c.def_ 7 (d := d__law_name)).elim fun fd F => ⟨_, fd, (glo_at X Y (c.fact 1 (f := fx_1)) 9), F⟩
  f__law_rate := (c.def_ 8 (d := d__law_rate)).elim fun fd F => ⟨_, fd, (glo_at X Y (c.fact 1 (f := fx_1)) 10), F⟩
  f__law_drawn_log := (c.def_ 9 (d := d__law_drawn_log)).elim fun fd F => ⟨_, fd, (glo_at X Y (c.fact 1 (f := fx_1)) 11), F⟩
  f__law_pool := (c.def_ 10 (d := d__law_pool)).elim fun fd F => ⟨_, fd, (glo_at X Y (c.fact 1 (f := fx_1)) 12), F⟩
  f_is_whole := (c.def_ 11 (d := d_is_whole)).elim fun fd F => ⟨_, fd, (glo_at X Y (c.fact 1 (f := fx_1)) 13), F⟩
  f_shared := (c.def_ 12 (d := d_shared)).elim fun fd F => ⟨_, fd, (glo_at X Y (c.fact 1 (f := fx_1)) 14), F⟩
  f_is_ratio := (c.def_ 13 (d := d_is_ratio)).elim fun fd F => ⟨_, fd, (glo_at X Y (c.fact 1 (f := fx_1)) 15), F⟩
  f_check_ratio := (c.def_ 14 (d := d_check_ratio)).elim fun fd F => ⟨_, fd, (glo_at X Y (c.fact 1 (f := fx_1)) 16), F⟩
  f_check_two := (c.def_ 15 (d := d_check_two)).elim fun fd F => ⟨_, fd, (glo_at X Y (c.fact 1 (f := fx_1)) 17), F⟩
  f_is_before := (c.def_ 16 (d := d_is_before)).elim fun fd F => ⟨_, fd, (glo_at X Y (c.fact 1 (f := fx_1)) 18), F⟩
  f_is_rate := (c.def_ 17 (d := d_is_rate)).elim fun fd F => ⟨_, fd, (glo_at X Y (c.fact 1 (f := fx_1)) 19), F⟩
  f_is_time := (c.def_ 18 (d := d_is_time)).elim fun fd F => ⟨_, fd, (glo_at X Y (c.fact 2 (f := fx_2)) 0), F⟩
  f_is_least := (c.def_ 19 (d := d_is_least)).elim fun fd F => ⟨_, fd, (glo_at X Y (c.fact 2 (f := fx_2)) 1), F⟩
  f_is_most := (c.def_ 20 (d := d_is_most)).elim fun fd F => ⟨_, fd, (glo_at X Y (c.fact 2 (f := fx_2)) 2), F⟩
  f_is_name := (c.def_ 21 (d := d_is_name)).elim fun fd F => ⟨_, fd, (glo_at X Y (c.fact 2 (f := fx_2)) 3), F⟩
  f_is_within := (c.def_ 22 (d := d_is_within)).elim fun fd F => ⟨_, fd, (glo_at X Y (c.fact 2 (f := fx_2)) 4), F⟩
  f_is_size := (c.def_ 23 (d := d_is_size)).elim fun fd F => ⟨_, fd, (glo_at X Y (c.fact 2 (f := fx_2)) 5), F⟩
  f_is_way := (c.def_ 24 (d := d_is_way)).elim fun fd F => ⟨_, fd, (glo_at X Y (c.fact 2 (f := fx_2)) 6), F⟩
  f_is_weight := (c.def_ 25 (d := d_is_weight)).elim fun fd F => ⟨_, fd, (glo_at X Y (c.fact 2 (f := fx_2)) 7), F⟩
  f_is_part := (c.def_ 26 (d := d_is_part)).elim fun fd F => ⟨_, fd, (glo_at X Y (c.fact 2 (f := fx_2)) 8), F⟩
  f_is_row := (c.def_ 27 (d := d_is_row)).elim fun fd F => ⟨_, fd, (glo_at X Y (c.fact 2 (f := fx_2)) 9), F⟩
  f_first_odd := (c.def_ 28 (d := d_first_odd)).elim fun fd F => ⟨_, fd, (glo_at X Y (c.fact 2 (f := fx_2)) 10), F⟩
  f_check_forms := (c.def_ 29 (d := d_check_forms)).elim fun fd F => ⟨_, fd, (glo_at X Y (c.fact 2 (f := fx_2)) 11), F⟩
  f_show_ratio := (c.def_ 30 (d := d_show_ratio)).elim fun fd F => ⟨_, fd, (glo_at X Y (c.fact 2 (f := fx_2)) 12), F⟩
  f_show_part := (c.def_ 31 (d := d_show_part)).elim fun fd F => ⟨_, fd, (glo_at X Y (c.fact 2 (f := fx_2)) 13), F⟩
  f_show_row := (c.def_ 32 (d := d_show_row)).elim fun fd F => ⟨_, fd, (glo_at X Y (c.fact 2 (f := fx_2)) 14), F⟩
  f_show_log := (c.def_ 33 (d := d_show_log)).elim fun fd F => ⟨_, fd, (glo_at X Y (c.fact 2 (f := fx_2)) 15), F⟩
  f__law_refused := (c.def_ 34 (d := d__law_refused)).elim fun fd F => ⟨_, fd, (glo_at X Y (c.fact 2 (f := fx_2)) 16), F⟩
  f__law_less := (c.def_ 35 (d := d__law_less)).elim fun fd F => ⟨_, fd, (glo_at X Y (c.fact 2 (f := fx_2)) 17), F⟩
  f__law_name_so := (c.def_ 36 (d := d__law_name_so)).elim fun fd F => ⟨_, fd, (glo_at X Y (c.fact 2 (f := fx_2)) 18), F⟩
  f__law_ratio_so := (c.def_ 37 (d := d__law_ratio_so)).elim fun fd F => ⟨_, fd, (glo_at X Y (c.fact 2 (f := fx_2)) 19), F⟩
  f__law_rate_so := (c.def_ 38 (d := d__law_rate_so)).elim fun fd F => ⟨_, fd, (glo_at X Y (c.fact 3 (f := fx_3)) 0), F⟩
  f__law_whole_so := (c.def_ 39 (d := d__law_whole_so)).elim fun fd F => ⟨_, fd, (glo_at X Y (c.fact 3 (f := fx_3)) 1), F⟩
  f__law_part_so := (c.def_ 40 (d := d__law_part_so)).elim fun fd F => ⟨_, fd, (glo_at X Y (c.fact 3 (f := fx_3)) 2), F⟩
  f__law_row_so := (c.def_ 41 (d := d__law_row_so)).elim fun fd F => ⟨_, fd, (glo_at X Y (c.fact 3 (f := fx_3)) 3), F⟩
  f__law_odd_row := (c.def_ 42 (d := d__law_odd_row)).elim fun fd F => ⟨_, fd, (glo_at X Y (c.fact 3 (f := fx_3)) 4), F⟩
  f_is_log := (c.def_ 43 (d := d_is_log)).elim fun fd F => ⟨_, fd, (glo_at X Y (c.fact 3 (f := fx_3)) 5), F⟩
  f__law_thing_right := (c.def_ 44 (d := d__law_thing_right)).elim fun fd F => ⟨_, fd, (glo_at X Y (c.fact 3 (f := fx_3)) 6), F⟩
  f_law := (c.def_ 45 (d := d_law)).elim fun fd F => ⟨_, fd, (glo_at X Y (c.fact 3 (f := fx_3)) 7), F⟩
  y_NoLog := (c.def_ 46 (d := d_NoLog___init__)).elim fun fd F => ⟨_, _, fd, _, (glo_at X Y (c.fact 3 (f := fx_3)) 10), xoB_ok (c.fact 9 (f := fx_9)), (iniB_ok (c.fact 10 (f := fx_10))).1, (iniB_ok (c.fact 10 (f := fx_10))).2.1, (iniB_ok (c.fact 10 (f := fx_10))).2.2, (glo_at X Y (c.fact 3 (f := fx_3)) 13), hdB_ok (c.fact 11 (f := fx_11)), F⟩
  z_row := xcf_at X Y (cs := [17]) (f := 4) (c.fact 12 (f := fx_12))
  x_LostError := ⟨_, (glo_at X Y (c.fact 3 (f := fx_3)) 9)⟩
  x_NoLog := ⟨_, (glo_at X Y (c.fact 3 (f := fx_3)) 10)⟩
  x_NoRatio := ⟨_, (glo_at X Y (c.fact 3 (f := fx_3)) 11), xcoB_ok (c.fact 13 (f := fx_13))⟩
  x_ShareError := ⟨_, (glo_at X Y (c.fact 3 (f := fx_3)) 12)⟩
  x_TagError := ⟨_, (glo_at X Y (c.fact 3 (f := fx_3)) 13)⟩
  tb_LostError := fun D hD => own_at (p := fun D => ∀ cn C q, tbR rsL 1 cn = some q → mg (cname cn) = some (.ref C) → ExcC K C ∧ PySem.W.kitOne K (.ref C) (.ref D) = some q) (glo_at X Y (c.fact 3 (f := fx_3)) 9) (kit_atR X Y (ns := [3, 17]) (D := fun K => .ref (He.ga K "LostError")) (c.fact 14 (f := fx_14)) (c.fact 15 (f := fx_15))) hD
  tb_NoLog := fun D hD => own_at (p := fun D => ∀ cn C q, tbR rsL 17 cn = some q → mg (cname cn) = some (.ref C) → ExcC K C ∧ PySem.W.kitOne K (.ref C) (.ref D) = some q) (glo_at X Y (c.fact 3 (f := fx_3)) 10) (kit_atR X Y (ns := [3, 17]) (D := fun K => .ref (He.ga K "NoLog")) (c.fact 14 (f := fx_14)) (c.fact 16 (f := fx_16))) hD
  tb_ShareError := fun D hD => own_at (p := fun D => ∀ cn C q, tbR rsL 2 cn = some q → mg (cname cn) = some (.ref C) → ExcC K C ∧ PySem.W.kitOne K (.ref C) (.ref D) = some q) (glo_at X Y (c.fact 3 (f := fx_3)) 12) (kit_atR X Y (ns := [3, 17]) (D := fun K => .ref (He.ga K "ShareError")) (c.fact 14 (f := fx_14)) (c.fact 17 (f := fx_17))) hD
  tb_ValueError := kit_atR X Y (ns := [3, 17]) (D := fun _ => .type "ValueError") (c.fact 14 (f := fx_14)) (c.fact 18 (f := fx_18))
  tx_TagError := fun D hD => own_at (p := fun D => ∀ cn C q, tbR rsL 0 cn = some q → mg (cname cn) = some (.ref C) → PySem.W.exmOne K (.ref C) (.ref D) = some q) (glo_at X Y (c.fact 3 (f := fx_3)) 13) (exm_atR X Y (ns := [3, 17]) (c.fact 14 (f := fx_14)) (c.fact 19 (f := fx_19))) hD
  d_LOOKS := tabG_of (ks := tg_LOOKS) (glo_at X Y (c.fact 1 (f := fx_1)) 0) (saysK_at cw 0 (t := ("LOOKS", ["name", "least", "most", "weight", "size", "way"]))) (c.fact 21 (f := fx_21)) fun q hq => by (simp only [tg_LOOKS, List.mem_cons, List.not_mem_nil, or_false] at hq; rcases hq with rfl | rfl | rfl | rfl | rfl | rfl <;> first | exact (glo_at X Y (c.fact 2 (f := fx_2)) 1) | exact (glo_at X Y (c.fact 2 (f := fx_2)) 2) | exact (glo_at X Y (c.fact 2 (f := fx_2)) 3) | exact (glo_at X Y (c.fact 2 (f := fx_2)) 5) | exact (glo_at X Y (c.fact 2 (f := fx_2)) 6) | exact (glo_at X Y (c.fact 2 (f := fx_2)) 7))
  d_PARTS := tabK_of (kvs := tv_PARTS) (glo_at X Y (c.fact 1 (f := fx_1)) 1) (saysK_at cw 1 (t := ("PARTS", ["join", "ask", "leave", "least", "most", "weight", "serve", "now"]))) (c.fact 22 (f := fx_22))
theorem all_mk {l : PySem.W.OpenLaw} {w : World} {K : PySem.W.Frag} {mg : Str → Option Value} {fa : Addr} {h : Heap} (plain : ∀ ns : List Int, ns.length ≤ 63 → ∃ N S, m_law N [.scr (ns.map .int)] (st0 tsL) = .ok (.bl true) S) (hfa : mg "law" = some (.ref fa)) (X : K.In h) (Y : h.Ns mainGlobals mg) (c : SaysX fxAll fnAll K) (cw : SaysK tdL w K) :
    ∃ fd : FuncData, (∀ (s : Shared) (v : Value), BindsTo s fd ⟨[v], []⟩ [("_law_script", v)]) ∧ ∀ base : Heap, K.In base → base.Ns mainGlobals mg → TBs K mg base tsL → FnG l.prog w K mg base 12 fa fd ["_law_script"] (spLawT K tsL) := by
  obtain ⟨fd, F⟩ := c.def_ 45 (d := d_law)
  cases hfa.symm.trans (glo_at X Y (c.fact 3 (f := fx_3)) 7)
  refine ⟨fd, ?_, fun base _ _ B => law_okT (of_decide_eq_true (c.fact 20 (f := fx_20))) (fun N => fm_law N (txt_mk X Y c B cw) F) plain⟩
  obtain ⟨oc, od, dV, kV, doc, pm, an, cdv, ct, osl, rfl, lk, hcd, hdv, _⟩ := F.ex
  rcases hdv with ⟨_, rfl⟩ | ⟨hn, _⟩
  · exact fun s v => .of_eq rfl
  · exact absurd rfl hn
end
end Wk93
local macro_rules | `(tactic| wp_walk using $ts,*) => (let es := ts.getElems; let k := (es[0]!).raw.getId; let all : Array Lean.Name := #[`G.wr_ok, `G.wr_exc, `G.wr_lf, `G.wr_eC, `G.evQ_some, `G.wr_eVar, `G.cB2_s, `G.cB1_s, `G.wr_eBin, `G.cS2_s, `G.cS1_s, `G.wr_eBinS, `G.asQ_bl, `G.wr_tB, `G.truQ_s, `G.wr_tT, `G.notQ_s, `G.wr_tNt, `G.anQ_t, `G.anQ_f, `G.wr_tAn, `G.orQ_t, `G.orQ_f, `G.wr_tOr, `G.eaB_t, `G.eaB_f, `G.eaQ_s, `G.wr_eAn, `G.eoB_t, `G.eoB_f, `G.eoQ_s, `G.wr_eOr, `G.enB_s, `G.enQ_s, `G.wr_eNt, `G.eiQ_t, `G.eiQ_f, `G.wr_eIf, `G.negQ_int, `G.wr_eNeg, `G.wr_aNil, `G.cC2_s, `G.cC1_s, `G.wr_aCons, `G.tupQ_s, `G.lstQ_s, `G.newQ_s, `G.wr_eTup, `G.wr_eLst, `G.wr_eNew, `G.caQ_s, `G.wr_eCa, `G.clQ_s, `G.wr_eCall, `G.nAQ_s, `G.wr_nA, `G.tyQ_s, `G.wr_eIsTy, `G.icQ_s, `G.wr_eIsC, `G.mt2_s, `G.mt1_s, `G.wr_eMt, `G.wr_oNone, `G.oQ_int, `G.wr_oSome, `G.sl3_s, `G.sl2_s, `G.sl1_s, `G.wr_eSl, `G.kk2_s, `G.kk1_s, `G.wr_eCallK, `G.kk0_s, `G.wr_eCallK0, `G.wr_gN, `G.sb3_s, `G.sb2_s, `G.sb1_s, `G.wr_gSb, `G.wr_gsNil, `G.gs1_s, `G.wr_gsCons, `G.wr_gTp, `G.wr_gTp_rD, `G.xe_s, `G.sq_nx, `G.sq_rt, `G.sq_bk, `G.sq_ct, `G.sq_ex, `G.sq_xe, `G.ws_nxt, `G.ws_sNop, `G.ws_sSeq, `G.ws_sBrk, `G.ws_sCnt, `G.dropQ_s, `G.ws_sDrop, `G.ws_sRet, `G.ws_sRetN, `G.ifQ_t, `G.ifQ_f, `G.ws_sIf, `G.asg1_s, `G.ws_sAsg, `G.setQ_s, `G.ws_sSet, `G.parQ_s, `G.ws_sPar, `G.ws_sRaise, `G.fn_nx, `G.fn_rt, `G.fn_ex, `G.fn_xe, `G.su_nx, `G.su_bk, `G.su_ct, `G.su_rt, `G.trQ_t, `G.trQ_f, `G.tr_nx, `G.tr_rt, `G.tr_bk, `G.tr_ct, `G.tr_ex, `G.ws_sTry, `G.forQ_s, `G.ws_sFor, `G.lp_nx, `G.lp_rt, `G.lp_bk, `G.lp_ct, `G.lp_ex, `G.lp_xe, `G.ws_fi_nil, `G.bodyQ_s, `G.mid_nx, `G.mid_rt, `G.mid_bk, `G.mid_ct, `G.mid_ex, `G.mid_xe, `G.lc2_s, `G.lc1_s, `G.wr_eLc, `G.lcn2_s, `G.lcn1_s, `G.wr_eLcN, `G.wipe_nil, `G.wipe_cons, `G.wr_tTrue, `G.wr_lc_nil, `G.tgQ_some, `G.ly_s, `G.lt1_t, `G.lt1_f, `G.lg_s, `G.eqQ_s, `G.exQ_s, `G.seqQ_tup, `G.seqQ_lst, `G.seqQ_scr, `G.seqQ_rD, `G.wr_iSeq, `G.rgQ_int, `G.wr_iRg1, `G.rgQ2_int, `G.wr_iRg2, `G.ch3_t, `G.ch3_f, `G.ch2_s, `G.ch1_s, `G.wr_eChain, `G.flQ_s, `G.wr_eFld, `G.fldD_ins, `G.stQ_s, `G.sf2_s, `G.sf1_s, `G.ws_sFldM, `G.mkQ2_s, `G.mkQ1_s, `G.wr_eMk, `G.wr_eMk0, `G.ap2_s, `G.ap1_s, `G.wr_eApp, `G.zpQ_s, `G.wr_iZip, `G.zipR_tup, `G.zipR_lst, `G.srQ_s, `G.wr_iStrM, `G.strR_s, `G.ioQ_s, `G.wr_eIsO, `G.dAddS_int, `G.wr_gStr_tup, `G.wr_gStr_lst, `G.fTuple_lst, `G.fTuple_tup, `List.take_succ_cons, `List.take_zero, `List.drop_succ_cons, `List.drop_zero, `List.getElem?_cons_zero, `List.getElem?_cons_succ, `List.set_cons_zero, `List.set_cons_succ, `List.map_cons, `List.map_nil, `List.length_cons, `List.length_nil, `List.cons_append, `List.nil_append, `List.replicate_succ, `List.replicate_zero, `List.append_nil, `true_and, `and_true, `and_self, `if_true, `ite_true, `if_false, `ite_false, `Bool.false_eq_true, `Bool.not_true, `Bool.not_false, `Bool.not_not, `decide_true, `decide_false, `decide_eq_true_eq, `not_false_eq_true, `not_true_eq_false, `reduceCtorEq, `PySem.sizeLine_eq, `Option.map_some, `Option.some.injEq, `Nat.reduceSub, `Nat.reduceAdd, `Nat.reduceLeDiff, `Nat.reduceEqDiff, `Nat.zero_add, `Nat.reduceBEq, `List.contains_cons, `List.contains_nil, `beq_self_eq_true, `Bool.true_or, `Bool.or_true, `Bool.false_or, `Bool.or_false, `List.lookup_cons, `List.lookup_nil, `Int.reduceEq, `Int.reduceNe, `Int.reduceLT, `Int.reduceLE, `Int.reduceNeg, `Int.reduceAdd, `Int.reduceSub, `Int.cast_ofNat_Int, `ne_eq, `G.cmpI_s, `G.dGt, `G.dGe, `G.dLt, `G.dLe, `G.dAdd_int, `G.dSub_int, `G.dEq_int, `G.dNe_int, `G.dEq_bl, `G.dNe_bl, `G.truD_bl, `G.isTy_int, `G.isTy_bl, `G.isTy_tup, `G.fLen_tup, `G.fLen_scr, `G.fLen_lst, `G.fAbs_int, `G.fMax_int, `G.fMin_int, `G.ixD_tup, `G.ixD_lst, `G.ixD_scr, `G.isTy_rD, `G.fLen_rD, `G.ix_rD0, `G.ix_rD1, `G.dEq_rD, `G.dNe_rD, `G.dIs_rD, `G.dIsNot_rD, `G.Tn.is, `G.me3_s, `G.me2_s, `G.me1_s, `G.wr_eMeth, `G.mk2_s, `G.mk1_s, `G.wr_eMethK, `G.m01_s, `G.wr_eMeth0, `G.wr_eNewD, `G.dg3_s, `G.dg2_s, `G.dg1_s, `G.wr_eDGet2, `G.dh2_s, `G.dh1_s, `G.wr_eDGet1, `G.dp3_s, `G.dp2_s, `G.dp1_s, `G.wr_eDPop2, `G.dq2_s, `G.dq1_s, `G.wr_eDPop1, `G.se2_s, `G.se1_s, `G.wr_gSbE, `G.ssQ_s, `G.wr_eSortSet, `G.an2_s, `G.an1_s, `G.wr_eAddN, `G.celQ_tup, `G.celQ_lst, `G.celQ_scr, `G.wr_iCel, `G.forcQ_s, `G.ws_sForC, `G.lcc1_s, `G.wr_eLcC, `G.lcd1_s, `G.wr_eLcCN, `G.keyD_int, `G.keyD_str, `Option.isSome_some, `G.fmQ_s, `G.wr_eFmt, `G.jsQ_str, `G.wr_js_nil, `G.wr_js_cons, `G.wr_eJs, `G.s4Q_str, `G.soQ_s, `G.wr_eStrO, `G.dAddE_0, `G.wr_eCallV, `G.chQ_s, `G.wr_eCallH, `G.wr_lamF, `G.oj_s, `G.enuQ_s, `G.wr_iEnum, `G.enR_tup, `G.enR_lst, `G.lrQ_int, `G.wr_eLr, `G.lrnQ_int, `G.wr_eLrN, `G.agQ_s, `G.auP_s, `G.ws_sAug, `G.augR_int, `G.pp2_s, `G.pp1_s, `G.wr_ePop, `G.wr_gSq_tup, `G.wr_gSq_lst, `G.lnQ_lst, `G.lnQ_tup, `G.wr_eListN, `G.rvQ_lst, `G.wr_eRev, `G.rfQ_s, `G.ws_sRaiseF, `G.trG_nx, `G.trG_rt, `G.trG_bk, `G.trG_ct, `G.trG_ex, `G.ws_sTryG, `G.ws_hd_nil, `G.hdP_t, `G.hdP_f, `G.ws_hd_cons, `G.setO_some, `G.setO_none, `G.ws_suS, `G.suN_nx, `G.suN_rt, `G.suN_bk, `G.suN_ct, `G.ws_suN, `G.iyQ_s, `G.wr_eIsY, `G.isY_exc, `G.fyQ_s, `G.wr_eFldY, `G.fldY_exc, `G.toQ_s, `G.wr_eIsTyO, `G.isTyO_tup, `G.isTyO_lst, `G.isTyO_int, `G.tm2_s, `G.tm1_s, `G.wr_eTm, `G.rgQN_int, `G.wr_iRgN, `G.gf1_s, `G.wr_gFl, `G.as3_s, `G.as2_s, `G.as1_s, `G.ws_sAsg3, `G.at1_s, `G.ws_sAsg2, `G.ws_sFldA, `G.ds3_s, `G.ds2_s, `G.ds1_s, `G.wr_eDSetd, `G.dispQ_s, `G.wr_eDisp, `G.rm2_s, `G.rm1_s, `G.wr_eRem, `G.parQ3_s, `G.ws_sPar3, `G.th_nx, `G.th_rt, `G.th_xe, `G.wr_iDv, `G.wr_iDi, `G.wr_iDk, `G.wr_iTk, `G.wr_eTs1, `G.tu2_s, `G.tu1_s, `G.wr_eTsU, `G.dct1_s, `G.dcQ_s, `G.wr_eDcT, `G.dt1_t, `G.dt1_f, `G.dgg_s, `G.eqOb_t, `G.eqOb_f, `G.eqO2_s, `G.eqO1_s, `G.wr_eEqO, `G.in2_s, `G.in1_s, `G.wr_eIns, `G.wr_eTabIx, `G.txQ_str, `G.wr_eTabIn, `G.tiQ_t, `G.tiQ_f, `G.ws_sTabCall, `G.tcQ_str, `G.tc1_s, `G.tc2_s, `G.sn3_s, `G.sn2_s, `G.sn1_s, `G.wr_eSlN, `G.zmQ_s, `G.wr_iZipM, `G.zipRM_s, `G.ex2_s, `G.ex1_s, `G.wr_eEqX, `G.cnQ_s, `G.wr_eCallN, `G.ku2_s, `G.ku1_s, `G.wr_eDkU, `G.wr_eNx, `G.sa3_s, `G.sa2_s, `G.sa1_s, `G.wr_eSlA]; let cut : Nat := if k == `zstop || k == `zust then 1 else if k == `zstf then 2 else if k == `zstq then 3 else 0; let sel := all.filter fun n => !((cut == 1 && n == `G.ws_sIf) || (cut == 2 && (n == `G.ws_sIf || n == `G.ws_sFor || n == `G.ws_sForC)) || (cut == 3 && n.getString!.startsWith "ws_")); let ids : Lean.TSyntaxArray `term := sel.map fun n => ⟨(Lean.mkIdent n).raw⟩; let r1 : Lean.TSyntaxArray `term := ids ++ es.extract 1 es.size; let r2 : Lean.TSyntaxArray `term := ids ++ es.extract 2 es.size; let r0 : Lean.TSyntaxArray `term := ids ++ es; if k == `zust || k == `zuse then `(tactic| (have hq0 := $(es[1]!); simp only [$[$r2:term],*] at hq0; exact hq0)) else if cut == 0 then `(tactic| try simp only [$[$r0:term],*]) else `(tactic| try simp only [$[$r1:term],*]))
namespace Wk93
open PySem G C
def shT : D → Option Tn
  | .non => some .non
  | .bl _ => some .bool
  | .int _ => some .int
  | .str _ => some .str
  | .tup _ => some .tuple
  | .lst _ => some .list
  | .dic _ _ => some .dict
  | _ => none
theorem tyD_of {d : D} {t : Tn} (h : shT d = some t) (S : Store) : tyD S d = some t := by
  cases d <;> first | exact h | (cases h)
def isB (y : Ty) (d : D) : Bool := match shT d with
  | some t => t.is y
  | none => false
theorem isTy_of {d : D} (h : (shT d).isSome = true) (y : Ty) (S : Store) : isTy S y d = some (isB y d) := by
  obtain ⟨t, ht⟩ := Option.isSome_iff_exists.mp h
  unfold isTy isB
  rw [tyD_of ht, ht]; rfl
def wh : D → Bool
  | .int _ => true
  | _ => false
def ratB : D → Bool
  | .tup [.int a, .int b] => decide (0 < b) && decide (gI a b = 1)
  | _ => false
theorem ratB_len {l : List D} (h : l.length ≠ 2) : ratB (.tup l) = false := by
  unfold ratB
  split
  · rename_i a b e
    cases e
    exact absurd rfl h
  · rfl
structure Th (d : D) : Prop where
  sh : (shT d).isSome = true
  pr : ∀ x y, d = .tup [x, y] → (shT x).isSome = true ∧ (shT y).isSome = true
  bt : ∀ a b, d = .tup [.int a, .int b] → a.natAbs < 2 ^ 250 ∧ b.natAbs < 2 ^ 250
  eq : ∃ b, dEqU d (.tup [.int 0, .int 1]) = some (.bl b)
  st : ∀ x, d = .str x → x.length ≤ 1000
theorem b49 : 2 ^ 250 < 2 ^ 9000 := Nat.pow_lt_pow_right (by omega) (by omega)
theorem rat_th {N : Nat} (hN : big N) {d : D} (h : Th d) (S : Store) : C.m_is_ratio N [d] S = .ok (.bl (ratB d)) S := by
  have hs := h.sh
  match d, h with
  | .non, _ => rfl
  | .bl _, _ => rfl
  | .int _, _ => rfl
  | .str _, _ => rfl
  | .lst _, _ => rfl
  | .dic _ _, _ => rfl
  | .tup [], _ => rfl
  | .tup [x], _ => rw [ratB_len (l := [x]) (by simp)]; rfl
  | .tup (x :: y :: z :: l), _ =>
    have e : dNe (.int ((l.length + 1 + 1 + 1 : Nat) : Int)) (.int 2) = some (.bl true) := by
      rw [dNe_int, decide_eq_false (by omega)]; rfl
    have ty : isTy S .tuple (.tup (x :: y :: z :: l)) = some true := rfl
    apply eq_of_w
    rw [m_is_ratio, wr_fnM, b_is_ratio]
    wp_walk using e, ty, List.length_cons
    rw [ratB_len (by simp)]
  | .tup [x, y], h =>
    obtain ⟨hx, hy⟩ := h.pr x y rfl
    cases x with
    | int a =>
      cases y with
      | int b => exact isr_pair N a b S (Nat.lt_of_lt_of_le (h.bt a b rfl).2 (Nat.le_trans (Nat.le_of_lt b49) hN))
      | non => rfl
      | bl _ => rfl
      | str _ => rfl
      | tup _ => rfl
      | lst _ => rfl
      | dic _ _ => rfl
      | _ => cases hy
    | non => cases y <;> first | rfl | (cases hy)
    | bl _ => cases y <;> first | rfl | (cases hy)
    | str _ => cases y <;> first | rfl | (cases hy)
    | tup _ => cases y <;> first | rfl | (cases hy)
    | lst _ => cases y <;> first | rfl | (cases hy)
    | dic _ _ => cases y <;> first | rfl | (cases hy)
    | _ => cases hx
  | .scr _, _ => cases hs
  | .loc _, _ => cases hs
  | .exc _ _, _ => cases hs
  | .ins _ _, _ => cases hs
  | .fa _, _ => cases hs
  | .pin _ _, _ => cases hs
theorem ratB_inv {d : D} (h : Th d) (e : ratB d = true) : ∃ q : Rat, d = rD q ∧ Bt q 250 := by
  unfold ratB at e
  split at e
  · rename_i a b
    rw [Bool.and_eq_true, decide_eq_true_eq, decide_eq_true_eq] at e
    obtain ⟨b0, g⟩ := e
    have l := lowest_rD (t := a) b0
    rw [g, Int.ediv_one, Int.ediv_one] at l
    refine ⟨_, l, ?_⟩
    obtain ⟨h1, h2⟩ := h.bt a b rfl
    unfold rD at l
    injection l with l
    injection l with l1 l2
    injection l2 with l2 _
    injection l1 with l1
    injection l2 with l2
    refine ⟨by rw [← l1]; exact h1, ?_⟩
    have : ((Rat.divInt a b).den : Int).natAbs < 2 ^ 250 := by rw [← l2]; exact h2
    simpa using this
  · cases e
theorem ratB_rD (q : Rat) : ratB (rD q) = true := by
  have := q.den_pos
  show (decide (0 < (q.den : Int)) && decide (gI q.num q.den = 1)) = true
  rw [gI_rat, decide_eq_true (by omega)]
  rfl
theorem ratso_th {N : Nat} (hN : big N) {d : D} (h : Th d) (S : Store) : m__law_ratio_so N [d] S = .ok (.bl (ratB d)) S := by
  have hs := h.sh
  match d, h with
  | .non, _ => rfl
  | .bl _, _ => rfl
  | .int _, _ => rfl
  | .str _, _ => rfl
  | .lst _, _ => rfl
  | .dic _ _, _ => rfl
  | .tup [], _ => rfl
  | .tup [x], _ => rw [ratB_len (l := [x]) (by simp)]; rfl
  | .tup (x :: y :: z :: l), _ =>
    have e : dNe (.int ((l.length + 1 + 1 + 1 : Nat) : Int)) (.int 2) = some (.bl true) := by
      rw [dNe_int, decide_eq_false (by omega)]; rfl
    have ty : isTy S .tuple (.tup (x :: y :: z :: l)) = some true := rfl
    apply eq_of_w
    rw [m__law_ratio_so, wr_fnM, b__law_ratio_so]
    wp_walk using e, ty, List.length_cons
    rw [ratB_len (by simp)]
  | .tup [x, y], h =>
    obtain ⟨hx, hy⟩ := h.pr x y rfl
    cases x with
    | int a =>
      cases y with
      | int b =>
        have hc : eLc (iSeq (eVar 0)) (.nm 1) tTrue (eAn (eIsTy .int (eVar 1)) (eNt (eIsTy .bool (eVar 1)))) [1] [some (.tup [.int a, .int b]), none] S = .ok (.lst [.bl true, .bl true]) S := rfl
        have a0 : L2.atI [D.int a, .int b] 0 = some (.int a) := rfl
        have a1 : L2.atI [D.int a, .int b] 1 = some (.int b) := rfl
        by_cases b0 : 0 < b
        · have r := r_ok (N := N) (t := a) (b := b) (S := S) (n := 250) hN (by omega) (h.bt a b rfl).2 (by omega) (by omega)
          have e : dEq (rD (Rat.divInt a b)) (.tup [.int a, .int b]) = some (.bl (decide (gI a b = 1))) := by
            by_cases g : gI a b = 1
            · have l := lowest_rD (t := a) b0
              rw [g, Int.ediv_one, Int.ediv_one] at l
              rw [l, dEq_rD, g]; simp
            · rw [decide_eq_false g]
              unfold rD
              have : dEq (D.tup [.int (Rat.divInt a b).num, .int ((Rat.divInt a b).den : Int)]) (.tup [.int a, .int b]) = some (.bl (decide ((Rat.divInt a b).num = a) && (decide (((Rat.divInt a b).den : Int) = b) && true))) := rfl
              rw [this]
              have k : ¬ (((Rat.divInt a b).den : Int) = b) := by
                rw [den_pos' b0]
                intro z
                have g0 := gI_pos (a := a) (b := b) (by omega)
                have : b / gI a b < b := Int.ediv_lt_self_of_pos_of_ne_one b0 (by omega)
                omega
              rw [decide_eq_false k]; simp
          simp [m__law_ratio_so, fnM_s, b__law_ratio_so, hc, fAll, seqD, bools, Tn.is, a0, a1, r, e, b0, ratB, dNe_int]
        · simp [m__law_ratio_so, fnM_s, b__law_ratio_so, hc, fAll, seqD, bools, Tn.is, a0, a1, b0, ratB, dNe_int]
      | non => rfl
      | bl _ => rfl
      | str _ => rfl
      | tup _ => rfl
      | lst _ => rfl
      | dic _ _ => rfl
      | _ => cases hy
    | non => cases y <;> first | rfl | (cases hy)
    | bl _ => cases y <;> first | rfl | (cases hy)
    | str _ => cases y <;> first | rfl | (cases hy)
    | tup _ => cases y <;> first | rfl | (cases hy)
    | lst _ => cases y <;> first | rfl | (cases hy)
    | dic _ _ => cases y <;> first | rfl | (cases hy)
    | _ => cases hx
  | .scr _, _ => cases hs
  | .loc _, _ => cases hs
  | .exc _ _, _ => cases hs
  | .ins _ _, _ => cases hs
  | .fa _, _ => cases hs
  | .pin _ _, _ => cases hs
end Wk93
namespace Wk93
open PySem G C
def topB : D → Bool
  | .tup [.int a, .int b] => decide (0 ≤ a)
  | _ => false
def unitB : D → Bool
  | .tup [.int a, .int b] => decide (0 < a) && decide (a ≤ b)
  | _ => false
def zB : D → Bool
  | .tup [.int a, .int b] => decide (a = 0) && decide (b = 1)
  | _ => false
def timeB (d : D) : Bool := ratB d && topB d
def rateB (d : D) : Bool := ratB d && unitB d
def leastB (d : D) : Bool := rateB d || zB d
def mostB : D → Bool
  | .non => true
  | d => rateB d
def wiB (m : Int) : D → Bool
  | .int i => decide (1 ≤ i) && decide (i ≤ m)
  | _ => false
def wayB : D → Bool
  | .str x => decide (("least" : Str) = x) || decide (("share" : Str) = x)
  | _ => false
def nameB : D → Bool
  | .str x => (decide (1 ≤ x.cps.toList.length) && decide (x.cps.toList.length ≤ 8)) && x.cps.toList.all fun c => decide (97 ≤ c ∧ c < 123)
  | _ => false
theorem time_rD (q : Rat) : timeB (rD q) = decide (0 ≤ q.num) := by
  show (ratB (rD q) && decide (0 ≤ q.num)) = _
  rw [ratB_rD]; rfl
theorem rate_rD (q : Rat) : rateB (rD q) = decide (0 < q ∧ q ≤ 1) := by
  show (ratB (rD q) && (decide (0 < q.num) && decide (q.num ≤ (q.den : Int)))) = _
  rw [ratB_rD, Bool.true_and, ← Bool.decide_and]
  congr 1
  have e1 : (0 < q.num) ↔ 0 < q := by rw [Rat.lt_iff]; simp
  rw [e1]
  have : q.num ≤ (q.den : Int) ↔ q ≤ 1 := by
    rw [Rat.le_iff]; simp
  rw [this]
theorem z_rD (q : Rat) : zB (rD q) = decide (q = 0) := by
  show (decide (q.num = 0) && decide ((q.den : Int) = 1)) = _
  rw [← Bool.decide_and]
  congr 1
  apply propext
  constructor
  · exact fun h => Rat.num_eq_zero.mp h.1
  · rintro rfl; exact ⟨rfl, rfl⟩
section
variable {N : Nat} {d : D}
theorem time_th (hN : big N) (h : Th d) (S : Store) : m_is_time N [d] S = .ok (.bl (timeB d)) S := by
  cases e : ratB d with
  | true =>
    obtain ⟨q, rfl, b⟩ := ratB_inv h e
    rw [time_ok hN b (by omega), time_rD]
  | false =>
    have r := rat_th hN h S
    rw [e] at r
    unfold timeB
    rw [e, Bool.false_and]
    apply eq_of_w
    rw [m_is_time, wr_fnM, b_is_time]
    wp_walk using r
theorem rate_th (hN : big N) (h : Th d) (S : Store) : m_is_rate N [d] S = .ok (.bl (rateB d)) S := by
  cases e : ratB d with
  | true =>
    obtain ⟨q, rfl, b⟩ := ratB_inv h e
    rw [rate_ok hN b (by omega), rate_rD]
  | false =>
    have r := rat_th hN h S
    rw [e] at r
    unfold rateB
    rw [e, Bool.false_and]
    apply eq_of_w
    rw [m_is_rate, wr_fnM, b_is_rate]
    wp_walk using r
theorem rateso_th (hN : big N) (h : Th d) (S : Store) : m__law_rate_so N [d] S = .ok (.bl (rateB d)) S := by
  have r := ratso_th hN h S
  cases e : ratB d with
  | true =>
    rw [e] at r
    obtain ⟨q, rfl, b⟩ := ratB_inv h e
    have hb : rateB (rD q) = (decide (0 < q.num) && decide (q.num ≤ (q.den : Int))) := by
      show (ratB (rD q) && (decide (0 < q.num) && decide (q.num ≤ (q.den : Int)))) = _
      rw [ratB_rD]; rfl
    rw [hb]
    apply eq_of_w
    rw [m__law_rate_so, wr_fnM, b__law_rate_so]
    by_cases c : 0 < q.num
    · wp_walk using r, c
      rfl
    · wp_walk using r, c
      rfl
  | false =>
    rw [e] at r
    unfold rateB
    rw [e, Bool.false_and]
    apply eq_of_w
    rw [m__law_rate_so, wr_fnM, b__law_rate_so]
    wp_walk using r
theorem least_th (hN : big N) (h : Th d) (S : Store) : m_is_least N [d] S = .ok (.bl (leastB d)) S := by
  have t := time_th hN h S
  have r := rate_th hN h S
  obtain ⟨b, e⟩ := h.eq
  cases er : ratB d with
  | true =>
    obtain ⟨q, rfl, bq⟩ := ratB_inv h er
    have e0 : dEqU (rD q) (.tup [.int 0, .int 1]) = some (.bl (decide (q = 0))) := dEq_rD q 0
    by_cases c : q = 0
    · subst c
      rw [decide_eq_true rfl] at e0
      have t1 : timeB (rD 0) = true := rfl
      rw [t1] at t
      have lb : leastB (rD 0) = true := rfl
      rw [lb]
      apply eq_of_w
      rw [m_is_least, wr_fnM, b_is_least]
      wp_walk using e0, t
    · rw [decide_eq_false c] at e0
      have lb : leastB (rD q) = rateB (rD q) := by unfold leastB; rw [z_rD, decide_eq_false c, Bool.or_false]
      rw [lb]
      apply eq_of_w
      rw [m_is_least, wr_fnM, b_is_least]
      wp_walk using e0, r
  | false =>
    have t1 : timeB d = false := by unfold timeB; rw [er]; rfl
    have r1 : rateB d = false := by unfold rateB; rw [er]; rfl
    have z1 : zB d = false := by
      cases z : zB d with
      | false => rfl
      | true =>
        exfalso
        unfold zB at z
        split at z
        · rename_i a c
          rw [Bool.and_eq_true, decide_eq_true_eq, decide_eq_true_eq] at z
          obtain ⟨rfl, rfl⟩ := z
          exact absurd er (by decide)
        · cases z
    rw [t1] at t
    rw [r1] at r
    have lb : leastB d = false := by unfold leastB; rw [r1, z1]; rfl
    rw [lb]
    apply eq_of_w
    rw [m_is_least, wr_fnM, b_is_least]
    cases b with
    | true => wp_walk using e, t, r
    | false => wp_walk using e, r
theorem most_th (hN : big N) (h : Th d) (S : Store) : m_is_most N [d] S = .ok (.bl (mostB d)) S := by
  have r := rate_th hN h S
  by_cases c : d = .non
  · subst c
    rfl
  · have hi : dIs d .non = some (.bl false) := by
      have hs := h.sh
      cases d <;> first | rfl | exact absurd rfl c | (cases hs)
    have mb : mostB d = rateB d := by
      unfold mostB
      split
      · exact absurd rfl c
      · rfl
    rw [mb]
    apply eq_of_w
    rw [m_is_most, wr_fnM, b_is_most]
    wp_walk using hi, r
theorem wi_th (m : Int) (h : Th d) (S : Store) : m_is_within N [d, .int m] S = .ok (.bl (wiB m d)) S := by
  have hs := h.sh
  cases d with
  | int i =>
    unfold wiB
    apply eq_of_w
    rw [m_is_within, wr_fnM, b_is_within]
    by_cases c : 1 ≤ i
    · wp_walk using c
      rfl
    · wp_walk using c
      rfl
  | _ => first | rfl | (cases hs)
theorem way_th (h : Th d) (S : Store) : m_is_way N [d] S = .ok (.bl (wayB d)) S := by
  have hs := h.sh
  cases d with
  | str x =>
    have e : dInL false S (.str x) (.tup [.str "least", .str "share"]) = some (.bl (wayB (.str x))) := by
      show some (D.bl (L2.inV (.str x) [.str "least", .str "share"])) = _
      unfold wayB
      have hb : ∀ a : Str, (a == x) = decide (a = x) := fun a => by
        by_cases c : a = x
        · subst c; simp
        · rw [decide_eq_false c]; exact beq_eq_false_iff_ne.mpr c
      simp [L2.inV, L2.eqV, hb]
    have ht : isTy S .str (.str x) = some true := rfl
    apply eq_of_w
    rw [m_is_way, wr_fnM, b_is_way]
    wp_walk using e, ht
  | _ => first | rfl | (cases hs)
theorem name_th (h : Th d) (S : Store) : m_is_name N [d] S = .ok (.bl (nameB d)) S := by
  have hs := h.sh
  cases d with
  | str x =>
    have hx := h.st x rfl
    obtain ⟨cs, rfl⟩ : ∃ cs : List Nat, x = ⟨cs.toArray⟩ := ⟨x.cps.toList, by cases x; simp⟩
    have ht : isTy S .str (.str ⟨cs.toArray⟩) = some true := rfl
    have le : (⟨cs.toArray⟩ : Str).length = cs.length := by show cs.toArray.size = _; simp
    rw [le] at hx
    have hl : fLen S [.str ⟨cs.toArray⟩] = some (.int (cs.length : Nat)) := by
      have : lenD S (.str ⟨cs.toArray⟩) = some cs.length := by
        show (if (⟨cs.toArray⟩ : Str).length ≤ sizeLine then some _ else none) = _
        rw [le, if_pos (by rw [sizeLine_eq]; omega)]
      unfold fLen; simp only [this]; rfl
    have nb : nameB (.str ⟨cs.toArray⟩) = ((decide (1 ≤ cs.length) && decide (cs.length ≤ 8)) && cs.all fun c => decide (97 ≤ c ∧ c < 123)) := rfl
    rw [nb]
    by_cases c1 : 1 ≤ cs.length
    · have d1 : (1 : Int) ≤ (cs.length : Nat) := by omega
      by_cases c2 : cs.length ≤ 8
      · have d2 : ((cs.length : Nat) : Int) ≤ 8 := by omega
        rw [decide_eq_true c1, decide_eq_true c2, Bool.true_and, Bool.true_and]
        have hs : signs ⟨cs.toArray⟩ = cs.map fun c => .str (oneS c) := by unfold signs; simp [oneS]
        have gm : ∀ (d : D) (e : En), Tg.m (.nm 1) d e = some (e.set 1 (some d)) := fun _ _ => rfl
        apply eq_of_w
        rw [m_is_name, wr_fnM, b_is_name]
        wp_walk using ht, Option.map_some, hl, d1, d2, hs
        refine lc_w (fun i acc S' => S' = S ∧ i ≤ cs.length ∧ acc = (cs.take i).map fun c => D.bl (decide (97 ≤ c ∧ c < 123))) ⟨rfl, Nat.zero_le _, rfl⟩ ?_ ?_
        · rintro i d acc S' hd ⟨rfl, hi, rfl⟩
          rw [List.getElem?_map] at hd
          obtain ⟨c, hd2, rfl⟩ := Option.map_eq_some_iff.mp hd
          have hlt := (List.getElem?_eq_some_iff.mp hd2).1
          wp_walk using gm, let_inD, List.length_map
          exact ⟨by rw [List.length_take]; omega, hlt, by rw [List.take_add_one, hd2, List.map_append]; rfl⟩
        · rintro acc S' ⟨rfl, hi, rfl⟩
          rw [List.length_map, List.take_length]
          have ha : fAll S' [.lst (cs.map fun c => D.bl (decide (97 ≤ c ∧ c < 123)))] = some (.bl (cs.all fun c => decide (97 ≤ c ∧ c < 123))) := by
            show ((bools (cs.map fun c => D.bl (decide (97 ≤ c ∧ c < 123)))).map fun bs => D.bl (bs.all id)) = _
            rw [bools_mapC]
            simp [List.all_map]
          wp_walk using ha
      · have d2 : ¬ ((cs.length : Nat) : Int) ≤ 8 := by omega
        rw [decide_eq_false c2, Bool.and_false, Bool.false_and]
        apply eq_of_w
        rw [m_is_name, wr_fnM, b_is_name]
        wp_walk using ht, Option.map_some, hl, d1, d2
    · have d1 : ¬ (1 : Int) ≤ (cs.length : Nat) := by omega
      rw [decide_eq_false c1, Bool.false_and, Bool.false_and]
      apply eq_of_w
      rw [m_is_name, wr_fnM, b_is_name]
      wp_walk using ht, Option.map_some, hl, d1
  | _ => first | rfl | (cases hs)
end
end Wk93
namespace Wk93
open PySem G C
inductive So where
  | nm | le | mo | we | si | wa
def So.s : So → Str
  | .nm => "name" | .le => "least" | .mo => "most" | .we => "weight" | .si => "size" | .wa => "way"
def So.c : So → Nat
  | .nm => 110 | .le => 108 | .mo => 109 | .we => 119 | .si => 115 | .wa => 114
def So.B : So → D → Bool
  | .nm => nameB | .le => leastB | .mo => mostB | .we => wiB 99 | .si => wiB 999 | .wa => wayB
def fsQ (N : Nat) : List (Str × Nat × FM) := [("name", 1, C.m_is_name N), ("least", 1, m_is_least N), ("most", 1, C.m_is_most N), ("weight", 1, C.m_is_weight_logs N), ("size", 1, C.m_is_size N), ("way", 1, C.m_is_way N)]
theorem part_atQ {N : Nat} {z : Str} {f : FM} (h : (fsQ N).lookup z = some (1, f)) {d r : D} {S : Store} (e : f [d] S = .ok r S) : m_is_part N [.str z, d] S = .ok r S := by
  apply eq_of_w
  have e2 : List.lookup z [("name", 1, C.m_is_name N), ("least", 1, m_is_least N), ("most", 1, C.m_is_most N), ("weight", 1, C.m_is_weight_logs N), ("size", 1, C.m_is_size N), ("way", 1, C.m_is_way N)] = some (1, f) := h
  rw [m_is_part, wr_fnM, b_is_part, ws_sTabCall]
  simp only [wr_eVar, evQ_some, enOf, List.length_cons, List.length_nil, Nat.zero_add, Nat.reduceAdd, Nat.reduceSub, List.map_cons, List.map_nil, List.replicate_succ, List.replicate_zero, List.cons_append, List.nil_append, List.getElem?_cons_zero, tcQ_str]
  rw [e2, tc1_s]
  wp_walk using e
  exact (by decide : 2 < 3)
theorem part_th {N : Nat} (hN : big N) {d : D} (h : Th d) (z : So) (S : Store) : m_is_part N [.str z.s, d] S = .ok (.bl (z.B d)) S := by
  cases z with
  | nm => exact part_atQ (f := C.m_is_name N) rfl (name_th h S)
  | le => exact part_atQ (f := m_is_least N) rfl (least_th hN h S)
  | mo => exact part_atQ (f := C.m_is_most N) rfl (most_th hN h S)
  | we => exact part_atQ (f := C.m_is_weight_logs N) rfl (by
      have e := wi_th (N := N) 99 h S
      apply eq_of_w
      rw [m_is_weight_logs, wr_fnM, b_is_weight_logs]
      wp_walk using e
      rfl)
  | si => exact part_atQ (f := C.m_is_size N) rfl (by
      have e := wi_th (N := N) 999 h S
      apply eq_of_w
      rw [m_is_size, wr_fnM, b_is_size]
      wp_walk using e
      rfl)
  | wa => exact part_atQ (f := C.m_is_way N) rfl (way_th h S)
def soT : List (Str × List So) := [("join", [.nm, .le, .mo, .we]), ("ask", [.nm, .si]), ("leave", [.nm]), ("least", [.nm, .le]), ("most", [.nm, .mo]), ("weight", [.nm, .we]), ("serve", [.nm, .si, .wa]), ("now", [])]
theorem lk_map {α β : Type} (f : α → β) (w : Str) : ∀ l : List (Str × α), (l.map fun p => (p.1, f p.2)).lookup w = (l.lookup w).map f
  | [] => rfl
  | (k, a) :: l => by
    rw [List.map_cons, List.lookup_cons, List.lookup_cons]
    cases (w == k) with
    | true => rfl
    | false => exact lk_map f w l
theorem parts_lk (w : Str) : C.td_PARTS.lookup w = (soT.lookup w).map fun l => .tup (l.map fun z => .str z.s) := by
  rw [← lk_map]
  rfl
def lessB (t t' : D) : Bool := match t, t' with
  | .tup [.int a, .int b], .tup [.int c, .int e] => decide (a * e < c * b)
  | _, _ => false
def ahB (t : D) : D → Bool
  | .tup (.str w :: t' :: _) => !(decide (w = "now")) && !(lessB t t')
  | _ => true
def rowB (d a : D) : Bool := match d with
  | .tup (.str w :: t :: ps) => match soT.lookup w with
    | some ss => timeB t && (decide (ps.length = ss.length) && (ahB t a && (List.zipWith So.B ss ps).all id))
    | none => false
  | _ => false
inductive AhOk : D → Prop
  | non : AhOk .non
  | row (w : Str) (q : Rat) (r : List D) : Bt q 250 → AhOk (.tup (.str w :: rD q :: r))
structure RowTh (d : D) : Prop where
  sh : (shT d).isSome = true
  le : ∀ l, d = .tup l → l.length ≤ 100
  hd : ∀ x l, d = .tup (x :: l) → (shT x).isSome = true
  th : ∀ w l, d = .tup (.str w :: l) → ∀ x, x ∈ l → Th x
theorem less_rD (p q : Rat) : lessB (rD p) (rD q) = decide (p < q) := by
  show decide (p.num * (q.den : Int) < q.num * (p.den : Int)) = _
  congr 1
  rw [Rat.lt_iff]
theorem bools_mapD {α : Type} (f : α → Bool) : ∀ a : List α, bools (a.map fun c => D.bl (f c)) = some (a.map f)
  | [] => rfl
  | c :: a => by
    show (bools (a.map fun c => D.bl (f c))).map _ = _
    rw [bools_mapD f a]; rfl
theorem fAll_bools (S : Store) (l : List Bool) : fAll S [.lst (l.map fun b => D.bl b)] = some (.bl (l.all id)) := by
  show ((bools (l.map fun b => D.bl b)).map fun bs => D.bl (bs.all id)) = _
  rw [bools_mapD (fun b => b)]
  simp
theorem is_row_th {N : Nat} (hN : big N) {S : Store} {d a : D} (h : RowTh d) (ha : AhOk a) : m_is_row N [d, a] S = .ok (.bl (rowB d a)) S := by
  have hs := h.sh
  match d, h with
  | .non, _ => rfl
  | .bl _, _ => rfl
  | .int _, _ => rfl
  | .str _, _ => rfl
  | .lst _, _ => rfl
  | .dic _ _, _ => rfl
  | .tup [], _ => rfl
  | .tup [x], _ =>
    have hb : rowB (.tup [x]) a = false := by unfold rowB; split <;> first | rfl | (rename_i e; cases e)
    rw [hb]; rfl
  | .tup (x :: t :: ps), h =>
    have hx := h.hd x _ rfl
    have i0 : ∀ S, ixD S (.tup (x :: t :: ps)) (.int 0) = some x := fun _ => by rw [ixD_tup]; exact L2.atI_nat (j := 0) rfl
    have l2 : ∀ n : Nat, dLt (.int ((n + 1 + 1 : Nat) : Int)) (.int 2) = some (.bl false) := fun n => by rw [dLt, cmpI_s, decide_eq_false (by omega)]
    by_cases hw : ∃ w, x = .str w
    · obtain ⟨w, rfl⟩ := hw
      have ty : ∀ S, isTy S .str (.str w) = some true := fun _ => rfl
      have pl := parts_lk w
      cases hl : soT.lookup w with
      | none =>
        rw [hl] at pl
        have hb : rowB (.tup (.str w :: t :: ps)) a = false := by unfold rowB; dsimp only; rw [hl]
        rw [hb]
        apply eq_of_w
        rw [m_is_row, wr_fnM, b_is_row]
        wp_walk using zstop, G.wr_ok
        rw [ws_sIf]
        wp_walk using i0, ty, pl, l2, Option.map_none, Option.isSome_none
      | some ss =>
        rw [hl] at pl
        have pl' : C.td_PARTS.lookup w = some (.tup (ss.map fun z => .str z.s)) := pl
        have ht := h.th w _ rfl t List.mem_cons_self
        have hp : ∀ x, x ∈ ps → Th x := fun x hx => h.th w _ rfl x (List.mem_cons_of_mem _ hx)
        have hlen := h.le _ rfl
        rw [List.length_cons, List.length_cons] at hlen
        have tm := fun S => time_th hN ht S
        have hb : rowB (.tup (.str w :: t :: ps)) a = (timeB t && (decide (ps.length = ss.length) && (ahB t a && (List.zipWith So.B ss ps).all id))) := by unfold rowB; dsimp only; rw [hl]
        rw [hb]
        apply eq_of_w
        rw [m_is_row, wr_fnM, b_is_row]
        wp_walk using zstop, G.wr_ok
        rw [ws_sIf]
        wp_walk using zstop, i0, ty, pl', l2, Option.isSome_some
        rw [ws_sIf]
        cases et : timeB t with
        | false =>
          have tm1 : ∀ S, m_is_time N [t] S = .ok (.bl false) S := fun S => by rw [tm S, et]
          wp_walk using tm1
          rfl
        | true =>
          have tm1 : ∀ S, m_is_time N [t] S = .ok (.bl true) S := fun S => by rw [tm S, et]
          obtain ⟨q, rfl, bq⟩ := ratB_inv ht (by unfold timeB at et; rw [Bool.and_eq_true] at et; exact et.1)
          by_cases el : ps.length = ss.length
          · have ne : dNe (.int (ps.length : Int)) (.int (ss.length : Int)) = some (.bl false) := by rw [dNe_int, el]; simp
            rw [decide_eq_true el, Bool.true_and, Bool.true_and]
            wp_walk using zstop, tm1, List.length_map, ne
            have rest : Ws (sRet (eCa fAll (aCons (eLc (iZipM (aCons (eVar 5) (aCons (eVar 4) aNil))) (.tp [6, 7]) tTrue (eCall (m_is_part N) (nA 2 (aCons (eVar 6) (aCons (eVar 7) aNil)))) [6, 7]) aNil)) [some (.tup (.str w :: rD q :: ps)), some a, some (.str w), some (rD q), some (.lst ps), some (.tup (ss.map fun z => .str z.s)), none, none] S) (KS.fn (eqQ (.bl ((List.zipWith So.B ss ps).all id)) S) nX) := by
              wp_walk using zstop, zipRM_s
              refine lc_w (fun j acc S' => S' = S ∧ j ≤ ss.length ∧ acc = ((List.zipWith So.B ss ps).take j).map fun b => D.bl b) ⟨rfl, Nat.zero_le _, rfl⟩ ?_ ?_
              · rintro j d acc S' hd ⟨rfl, hj, rfl⟩
                unfold zipD at hd
                rw [List.getElem?_zipWith, List.getElem?_map] at hd
                cases h1 : ss[j]? with
                | none => rw [h1] at hd; cases hd
                | some z =>
                  cases h2 : ps[j]? with
                  | none => rw [h1, h2] at hd; cases hd
                  | some y =>
                    rw [h1, h2] at hd
                    cases hd
                    have hlt : j < ss.length := (List.getElem?_eq_some_iff.mp h1).1
                    have sz : (((List.zipWith So.B ss ps).take j).map fun b => D.bl b).length < sizeLine := by rw [sizeLine_eq, List.length_map, List.length_take]; omega
                    have tm : ∀ e : En, Tg.m (.tp [6, 7]) (D.tup [.str z.s, y]) e = some ((e.set 6 (some (.str z.s))).set 7 (some y)) := fun _ => rfl
                    have pt := part_th hN (hp y (List.mem_of_getElem? h2)) z
                    wp_walk using tm, pt
                    refine ⟨sz, hlt, ?_⟩
                    rw [List.take_add_one, List.getElem?_zipWith, h1, h2, List.map_append]
                    rfl
              · rintro acc S' ⟨rfl, hj, rfl⟩
                have fa : fAll S' [.lst (((List.zipWith So.B ss ps).take (zipD (ss.map fun z => D.str z.s) ps).length).map fun b => D.bl b)] = some (.bl ((List.zipWith So.B ss ps).all id)) := by
                  rw [List.take_of_length_le (by unfold zipD; simp), fAll_bools]
                wp_walk using fa
            rw [ws_sIf]
            cases ha with
            | non =>
              have e1 : dIsNot .non .non = some (.bl false) := rfl
              have a1 : ahB (rD q) .non = true := rfl
              rw [a1, Bool.true_and]
              wp_walk using zstop, e1
              wp_walk using zust, rest, G.wr_ok
            | row w' q' r bq' =>
              have e1 : dIsNot (.tup (.str w' :: rD q' :: r)) .non = some (.bl true) := rfl
              have j0 : ∀ S, ixD S (.tup (.str w' :: rD q' :: r)) (.int 0) = some (.str w') := fun _ => by rw [ixD_tup]; exact L2.atI_nat (j := 0) rfl
              have j1 : ∀ S, ixD S (.tup (.str w' :: rD q' :: r)) (.int 1) = some (rD q') := fun _ => by rw [ixD_tup]; exact L2.atI_nat (j := 1) rfl
              have bf := before_ok (N := N) (S := S) hN bq bq' (by omega)
              have a1 : ahB (rD q) (.tup (.str w' :: rD q' :: r)) = (!(decide (w' = "now")) && !(lessB (rD q) (rD q'))) := rfl
              have dn := dEq_str w' "now"
              rw [a1, less_rD]
              by_cases c1 : w' = "now"
              · rw [decide_eq_true c1] at dn
                rw [decide_eq_true c1]
                wp_walk using e1, j0, dn
                rfl
              · rw [decide_eq_false c1] at dn
                rw [decide_eq_false c1]
                by_cases c2 : q < q'
                · rw [decide_eq_true c2] at bf
                  rw [decide_eq_true c2]
                  wp_walk using e1, j0, j1, dn, bf
                  rfl
                · rw [decide_eq_false c2] at bf
                  rw [decide_eq_false c2, Bool.not_false, Bool.true_and, Bool.true_and]
                  wp_walk using zstop, e1, j0, j1, dn, bf
                  wp_walk using zust, rest, G.wr_ok
          · have ne : dNe (.int (ps.length : Int)) (.int (ss.length : Int)) = some (.bl true) := by rw [dNe_int, decide_eq_false (by omega)]; rfl
            rw [decide_eq_false el, Bool.false_and, Bool.and_false]
            wp_walk using tm1, List.length_map, ne
    · have ty : ∀ S, isTy S .str x = some false := fun S => by
        rw [isTy_of hx]
        cases x <;> first | rfl | exact absurd ⟨_, rfl⟩ hw | (cases hx)
      have hb : rowB (.tup (x :: t :: ps)) a = false := by
        unfold rowB
        split
        · rename_i w t' ps' e
          injection e with e
          injection e with e _
          exact absurd ⟨w, e⟩ hw
        · rfl
      rw [hb]
      apply eq_of_w
      rw [m_is_row, wr_fnM, b_is_row]
      wp_walk using zstop, G.wr_ok
      rw [ws_sIf]
      wp_walk using i0, ty, l2
  | .scr _, _ => cases hs
  | .loc _, _ => cases hs
  | .exc _ _, _ => cases hs
  | .ins _ _, _ => cases hs
  | .fa _, _ => cases hs
  | .pin _ _, _ => cases hs
end Wk93
namespace Wk93
open PySem G C
def soS (z : So) : Str := ⟨#[z.c]⟩
theorem app_at (S : Store) (c : Cell) : (S ++ [c])[S.length]? = some c := by simp
theorem app_set (S : Store) (c c' : Cell) : (S ++ [c]).set S.length c' = S ++ [c'] := by simp
theorem soS_eq (z : So) : (dEq (.str (soS z)) (.str "n") = some (.bl (match z with | .nm => true | _ => false))) ∧ (dEq (.str (soS z)) (.str "l") = some (.bl (match z with | .le => true | _ => false))) ∧
    (dEq (.str (soS z)) (.str "m") = some (.bl (match z with | .mo => true | _ => false))) ∧ (dEq (.str (soS z)) (.str "r") = some (.bl (match z with | .wa => true | _ => false))) := by
  simp only [dEq_str]
  cases z <;> exact ⟨congrArg (fun b => some (D.bl b)) (by decide +kernel), congrArg (fun b => some (D.bl b)) (by decide +kernel), congrArg (fun b => some (D.bl b)) (by decide +kernel), congrArg (fun b => some (D.bl b)) (by decide +kernel)⟩
theorem part_so_w {N : Nat} (hN : big N) {d : D} (h : Th d) (z : So) {S : Store} {Q X : QP D} (k : ∀ T, Q (.bl (z.B d)) (S ++ T)) : Wr (m__law_part_so N [.str (soS z), d] S) Q X := by
  obtain ⟨e1, e2, e3, e4⟩ := soS_eq z
  have k0 := k []
  rw [List.append_nil] at k0
  cases z with
  | nm =>
    rw [m__law_part_so, wr_fnM, b__law_part_so]
    wp_walk using e1, name_th h S
    exact k0
  | le =>
    rw [m__law_part_so, wr_fnM, b__law_part_so]
    wp_walk using e1, e2, rateso_th hN h S
    have k1 : Q (.bl (rateB d || zB d)) S := k0
    cases er : rateB d with
    | true =>
      rw [er] at k1
      wp_walk using G.wr_ok
      exact k1
    | false =>
      rw [er, Bool.false_or] at k1
      wp_walk using ratso_th hN h S
      cases eq : ratB d with
      | true =>
        obtain ⟨q, rfl, bq⟩ := ratB_inv h eq
        have e5 : dEq (rD q) (.tup [.int 0, .int 1]) = some (.bl (zB (rD q))) := by rw [z_rD]; exact dEq_rD q 0
        wp_walk using e5
        exact k1
      | false =>
        have z1 : zB d = false := by
          cases z : zB d with
          | false => rfl
          | true =>
            exfalso
            unfold zB at z
            split at z
            · rename_i a c
              rw [Bool.and_eq_true, decide_eq_true_eq, decide_eq_true_eq] at z
              obtain ⟨rfl, rfl⟩ := z
              exact absurd eq (by decide)
            · cases z
        rw [z1] at k1
        wp_walk using G.wr_ok
        exact k1
  | mo =>
    have k1 : Q (.bl (mostB d)) S := k0
    rw [m__law_part_so, wr_fnM, b__law_part_so]
    by_cases c : d = .non
    · subst c
      have hi : dIs .non .non = some (.bl true) := rfl
      wp_walk using e1, e2, e3, hi
      exact k1
    · have hi : dIs d .non = some (.bl false) := by
        have hs := h.sh
        cases d <;> first | rfl | exact absurd rfl c | (cases hs)
      have mb : mostB d = rateB d := by
        unfold mostB
        split
        · exact absurd rfl c
        · rfl
      rw [mb] at k1
      wp_walk using e1, e2, e3, hi, rateso_th hN h S
      exact k1
  | wa =>
    have k1 : Q (.bl (wayB d)) S := k0
    have hs := h.sh
    rw [m__law_part_so, wr_fnM, b__law_part_so]
    by_cases c : ∃ x, d = .str x
    · obtain ⟨x, rfl⟩ := c
      have e : dInL false S (.str x) (.lst [.str "least", .str "share"]) = some (.bl (wayB (.str x))) := by
        show some (D.bl (L2.inV (.str x) [.str "least", .str "share"])) = _
        unfold wayB
        have hb : ∀ a : Str, (a == x) = decide (a = x) := fun a => by
          by_cases c : a = x
          · subst c; simp
          · rw [decide_eq_false c]; exact beq_eq_false_iff_ne.mpr c
        simp [L2.inV, L2.eqV, hb]
      have ht : isTy S .str (.str x) = some true := rfl
      wp_walk using e1, e2, e3, e4, ht, e
      exact k1
    · have ht : isTy S .str d = some false := by
        rw [isTy_of hs]
        cases d <;> first | rfl | exact absurd ⟨_, rfl⟩ c | (cases hs)
      have wb : wayB d = false := by cases d <;> first | rfl | exact absurd ⟨_, rfl⟩ c
      rw [wb] at k1
      wp_walk using e1, e2, e3, e4, ht
      exact k1
  | we =>
    have ix : ixE (S ++ [.dk ((strK ["w", "s"]).zip [.int 99, .int 999])]) (.loc S.length) (.str (soS .we)) = some (.int 99) := ixE_dk (app_at _ _) rfl rfl
    rw [m__law_part_so, wr_fnM, b__law_part_so]
    wp_walk using e1, e2, e3, e4, ix, wi_th 99 h
    exact k _
  | si =>
    have ix : ixE (S ++ [.dk ((strK ["w", "s"]).zip [.int 99, .int 999])]) (.loc S.length) (.str (soS .si)) = some (.int 999) := ixE_dk (app_at _ _) rfl rfl
    rw [m__law_part_so, wr_fnM, b__law_part_so]
    wp_walk using e1, e2, e3, e4, ix, wi_th 999 h
    exact k _
end Wk93
namespace Wk93
open PySem G C
def soL (ss : List So) : Str := ⟨(ss.map So.c).toArray⟩
def F7 : List (L2.Key × D) := (strK ["join", "ask", "leave", "least", "most", "weight", "now"]).zip [.str "nlmw", .str "ns", .str "n", .str "nl", .str "nm", .str "nw", .str ""]
def soT8 : List (Str × List So) := [("join", [.nm, .le, .mo, .we]), ("ask", [.nm, .si]), ("leave", [.nm]), ("least", [.nm, .le]), ("most", [.nm, .mo]), ("weight", [.nm, .we]), ("now", []), ("serve", [.nm, .si, .wa])]
def F8 : List (L2.Key × D) := putKD F7 (.inr "serve") (.str "nsr")
theorem F8_eq : F8 = soT8.map fun p => (Sum.inr p.1, D.str (soL p.2)) := by
  unfold F8 putKD
  rw [if_neg (by decide +kernel)]
  rfl
theorem val_map (w : Str) : ∀ l : List (Str × List So), valD (l.map fun p => ((Sum.inr p.1 : L2.Key), D.str (soL p.2))) (.inr w) = (l.lookup w).map fun ss => D.str (soL ss)
  | [] => rfl
  | (k, ss) :: l => by
    have ih := val_map w l
    rw [List.map_cons, List.lookup_cons]
    unfold valD at ih ⊢
    rw [List.find?_cons]
    by_cases c : k = w
    · subst c
      rw [beq_self_eq_true, decide_eq_true rfl]
      rfl
    · have h1 : (w == k) = false := beq_eq_false_iff_ne.mpr fun z => c z.symm
      have h2 : decide ((Sum.inr k : L2.Key) = .inr w) = false := decide_eq_false fun z => c (by injection z)
      rw [h1]
      dsimp only
      rw [h2]
      exact ih
theorem lk_none {α : Type} (w : Str) : ∀ l : List (Str × α), w ∉ l.map (·.1) → l.lookup w = none
  | [], _ => rfl
  | (k, a) :: l, h => by
    rw [List.map_cons, List.mem_cons] at h
    rw [List.lookup_cons, beq_eq_false_iff_ne.mpr fun z => h (.inl z)]
    exact lk_none w l fun z => h (.inr z)
theorem lk8 (w : Str) : soT8.lookup w = soT.lookup w := by
  by_cases h : w ∈ soT.map (·.1)
  · unfold soT at h
    simp only [List.map_cons, List.map_nil, List.mem_cons, List.not_mem_nil, or_false] at h
    rcases h with rfl | rfl | rfl | rfl | rfl | rfl | rfl | rfl <;> rfl
  · rw [lk_none w soT h, lk_none w soT8 fun z => h ?_]
    unfold soT8 at z
    unfold soT
    simp only [List.map_cons, List.map_nil, List.mem_cons, List.not_mem_nil, or_false] at z ⊢
    rcases z with z | z | z | z | z | z | z | z <;> simp [z]
theorem val8 (w : Str) : valD F8 (.inr w) = (soT.lookup w).map fun ss => D.str (soL ss) := by
  rw [F8_eq, val_map, lk8]
theorem soL_at {ss : List So} {j : Nat} {z : So} (h : ss[j]? = some z) (hl : ss.length ≤ 100) (S : Store) : ixD S (.str (soL ss)) (.int (j : Nat)) = some (.str (soS z)) := by
  have hz : (soL ss).length ≤ sizeLine := by
    rw [sizeLine_eq]
    show (ss.map So.c).toArray.size ≤ _
    simp; omega
  show (if (soL ss).length ≤ sizeLine then _ else none) = _
  rw [if_pos hz]
  show (L2.atI (ss.map So.c).toArray.toList (j : Nat)).map _ = _
  rw [L2.atI_nat (v := z.c) (by simp [h])]
  rfl
theorem soL_len {ss : List So} (hl : ss.length ≤ 100) (S : Store) : fLen S [.str (soL ss)] = some (.int (ss.length : Nat)) := by
  have e : (soL ss).length = ss.length := by
    show (ss.map So.c).toArray.size = _
    simp
  have : lenD S (.str (soL ss)) = some ss.length := by
    show (if (soL ss).length ≤ sizeLine then some _ else none) = _
    rw [e, if_pos (by rw [sizeLine_eq]; omega)]
  unfold fLen; simp only [this]; rfl
theorem soT_len {w : Str} {ss : List So} (h : soT.lookup w = some ss) : ss.length ≤ 4 := by
  by_cases hm : w ∈ soT.map (·.1)
  · unfold soT at hm
    simp only [List.map_cons, List.map_nil, List.mem_cons, List.not_mem_nil, or_false] at hm
    rcases hm with rfl | rfl | rfl | rfl | rfl | rfl | rfl | rfl <;> (cases h; decide)
  · rw [lk_none w soT hm] at h; cases h
theorem row_so_w {N : Nat} (hN : big N) {S : Store} {d a : D} {Q X : QP D} (h : RowTh d) (ha : AhOk a) (k : ∀ T, Q (.bl (rowB d a)) (S ++ T)) : Wr (m__law_row_so N [d, a] S) Q X := by
  have hs := h.sh
  have set8 : ∀ S : Store, setE (S ++ [.dk ((strK ["join", "ask", "leave", "least", "most", "weight", "now"]).zip [D.str "nlmw", .str "ns", .str "n", .str "nl", .str "nm", .str "nw", .str ""])]) (.loc S.length) (.str "serve") (.str "nsr") = some (S ++ [.dk F8]) := fun S => by
    rw [setE_s (app_at S _) (q := .inr "serve") rfl (by rw [sizeLine_eq]; decide), app_set]
    rfl
  rw [m__law_row_so, wr_fnM, b__law_row_so]
  wp_walk using zstop, set8
  rw [ws_sIf]
  by_cases htup : ∃ l, d = .tup l
  · obtain ⟨l, rfl⟩ := htup
    match l with
    | [] =>
      have e : dLt (.int ((0 : Nat) : Int)) (.int 2) = some (.bl true) := rfl
      wp_walk using e
      exact k _
    | [x] =>
      have e : dLt (.int ((0 + 1 : Nat) : Int)) (.int 2) = some (.bl true) := rfl
      have hb : rowB (.tup [x]) a = false := by unfold rowB; split <;> first | rfl | (rename_i e; cases e)
      rw [hb] at k
      wp_walk using e
      exact k _
    | x :: t :: ps =>
      have hx := h.hd x _ rfl
      have i0 : ∀ S, ixD S (.tup (x :: t :: ps)) (.int 0) = some x := fun _ => by rw [ixD_tup]; exact L2.atI_nat (j := 0) rfl
      have i1 : ∀ S, ixD S (.tup (x :: t :: ps)) (.int 1) = some t := fun _ => by rw [ixD_tup]; exact L2.atI_nat (j := 1) rfl
      have l2 : ∀ n : Nat, dLt (.int ((n + 1 + 1 : Nat) : Int)) (.int 2) = some (.bl false) := fun n => by rw [dLt, cmpI_s, decide_eq_false (by omega)]
      by_cases hw : ∃ w, x = .str w
      · obtain ⟨w, rfl⟩ := hw
        have ty : ∀ S, isTy S .str (.str w) = some true := fun _ => rfl
        have v8 := val8 w
        cases hl : soT.lookup w with
        | none =>
          rw [hl] at v8
          have hb : rowB (.tup (.str w :: t :: ps)) a = false := by unfold rowB; dsimp only; rw [hl]
          rw [hb] at k
          have nin : dInK true (S ++ [.dk F8]) (.str w) (.loc S.length) = some (.bl true) := by
            unfold dInK
            rw [dkD_s (app_at S _)]
            show some (D.bl (!(valD F8 (.inr w)).isSome)) = _
            rw [v8]; rfl
          wp_walk using i0, ty, l2, nin
          exact k _
        | some ss =>
          rw [hl] at v8
          have nin : dInK true (S ++ [.dk F8]) (.str w) (.loc S.length) = some (.bl false) := by
            unfold dInK
            rw [dkD_s (app_at S _)]
            show some (D.bl (!(valD F8 (.inr w)).isSome)) = _
            rw [v8]; rfl
          have ix : ixE (S ++ [.dk F8]) (.loc S.length) (.str w) = some (.str (soL ss)) := ixE_dk (app_at _ _) rfl v8
          have h4 := soT_len hl
          have sl := soL_len (ss := ss) (by omega)
          have ht := h.th w _ rfl t List.mem_cons_self
          have hp : ∀ x, x ∈ ps → Th x := fun x hx => h.th w _ rfl x (List.mem_cons_of_mem _ hx)
          have hlen := h.le _ rfl
          rw [List.length_cons, List.length_cons] at hlen
          have rt := ratso_th hN ht
          have hb : rowB (.tup (.str w :: t :: ps)) a = (timeB t && (decide (ps.length = ss.length) && (ahB t a && (List.zipWith So.B ss ps).all id))) := by unfold rowB; dsimp only; rw [hl]
          rw [hb] at k
          wp_walk using zstop, i0, ty, l2, nin, ix, sl
          rw [ws_sIf]
          cases er : ratB t with
          | false =>
            rw [er] at rt
            have et : timeB t = false := by unfold timeB; rw [er]; rfl
            rw [et, Bool.false_and] at k
            wp_walk using i1, rt
            exact k _
          | true =>
            rw [er] at rt
            obtain ⟨q, rfl, bq⟩ := ratB_inv ht er
            rw [time_rD] at k
            by_cases q0 : q.num < 0
            · rw [decide_eq_false (by omega), Bool.false_and] at k
              wp_walk using i1, rt, q0
              exact k _
            · rw [decide_eq_true (by omega), Bool.true_and] at k
              by_cases el : ps.length = ss.length
              · have ne : dNe (.int ((ps.length + 1 + 1 : Nat) : Int)) (.int (2 + (ss.length : Nat))) = some (.bl false) := by rw [dNe_int, decide_eq_true (by omega)]; rfl
                rw [decide_eq_true el, Bool.true_and] at k
                wp_walk using zstop, i1, rt, q0, sl, ne
                have rest : ∀ S1 : Store, (∃ T, S1 = S ++ T) → (∀ T, Q (.bl ((List.zipWith So.B ss ps).all id)) (S ++ T)) → Ws (sRet (eCa fAll (aCons (eLc (iRg1 (aCons (eCa fLen (aCons (eVar 3) aNil)) aNil)) (.nm 4) tTrue (eCall (m__law_part_so N) (nA 2 (aCons (eBinS ixD (eVar 3) (eVar 4)) (aCons (eBinS ixD (eVar 0) (eBinS dAddS (eC (.int 2)) (eVar 4))) aNil)))) [4]) aNil)) [some (.tup (.str w :: rD q :: ps)), some a, some (.loc S.length), some (.str (soL ss)), none] S1) (KS.fn Q X) := by
                  rintro S1 ⟨T1, rfl⟩ kk
                  wp_walk using zstop, sl
                  refine ⟨⟨by omega, by omega⟩, ?_⟩
                  rw [Int.toNat_natCast]
                  refine lc_w (fun j acc S' => (∃ T, S' = S ++ T) ∧ j ≤ ss.length ∧ acc = ((List.zipWith So.B ss ps).take j).map fun b => D.bl b) ⟨⟨T1, rfl⟩, Nat.zero_le _, rfl⟩ ?_ ?_
                  · rintro j d acc S' hd ⟨⟨T2, rfl⟩, hj, rfl⟩
                    obtain ⟨rfl, hj2⟩ := range_get hd
                    have h1 : ss[j]? = some ss[j] := List.getElem?_eq_getElem hj2
                    have h2 : ps[j]? = some (ps[j]'(by omega)) := List.getElem?_eq_getElem _
                    have sz : (((List.zipWith So.B ss ps).take j).map fun b => D.bl b).length < sizeLine := by rw [sizeLine_eq, List.length_map, List.length_take]; omega
                    have tm : ∀ (d : D) (e : En), Tg.m (.nm 4) d e = some (e.set 4 (some d)) := fun _ _ => rfl
                    have x1 := soL_at h1 (by omega)
                    have x2 : ∀ S, ixD S (.tup (.str w :: rD q :: ps)) (.int (2 + (j : Nat))) = some (ps[j]'(by omega)) := fun _ => by
                      rw [ixD_tup, show (2 + ((j : Nat) : Int)) = ((j + 2 : Nat) : Int) by omega]
                      exact L2.atI_nat h2
                    wp_walk using tm, x1, x2
                    refine part_so_w hN (hp _ (List.mem_of_getElem? h2)) _ fun T3 => ?_
                    wp_walk using G.wr_ok
                    refine ⟨sz, ⟨T2 ++ T3, by rw [List.append_assoc]⟩, hj2, ?_⟩
                    rw [List.take_add_one, List.getElem?_zipWith, h1, h2, List.map_append]
                    rfl
                  · rintro acc S' ⟨⟨T2, rfl⟩, hj, rfl⟩
                    have fa : ∀ S', fAll S' [.lst (((List.zipWith So.B ss ps).take (rangeD 0 ss.length).length).map fun b => D.bl b)] = some (.bl ((List.zipWith So.B ss ps).all id)) := fun S' => by
                      rw [List.take_of_length_le (by rw [range_len]; simp; omega), fAll_bools]
                    wp_walk using fa
                    exact kk _
                rw [ws_sIf]
                cases ha with
                | non =>
                  have e1 : dIsNot .non .non = some (.bl false) := rfl
                  have a1 : ahB (rD q) .non = true := rfl
                  rw [a1, Bool.true_and] at k
                  wp_walk using zstop, e1
                  have rr := rest (S ++ [.dk F8]) ⟨_, rfl⟩ k
                  wp_walk using zust, rr, G.wr_ok
                | row w' q' r bq' =>
                  have e1 : dIsNot (.tup (.str w' :: rD q' :: r)) .non = some (.bl true) := rfl
                  have j0 : ∀ S, ixD S (.tup (.str w' :: rD q' :: r)) (.int 0) = some (.str w') := fun _ => by rw [ixD_tup]; exact L2.atI_nat (j := 0) rfl
                  have j1 : ∀ S, ixD S (.tup (.str w' :: rD q' :: r)) (.int 1) = some (rD q') := fun _ => by rw [ixD_tup]; exact L2.atI_nat (j := 1) rfl
                  have bf := fun S => lless_ok (N := N) (S := S) bq bq' (by omega)
                  have a1 : ahB (rD q) (.tup (.str w' :: rD q' :: r)) = (!(decide (w' = "now")) && !(lessB (rD q) (rD q'))) := rfl
                  have dn := dEq_str w' "now"
                  rw [a1, less_rD] at k
                  by_cases c1 : w' = "now"
                  · rw [decide_eq_true c1] at dn
                    rw [decide_eq_true c1, Bool.not_true, Bool.false_and, Bool.false_and] at k
                    wp_walk using e1, j0, dn
                    exact k _
                  · rw [decide_eq_false c1] at dn
                    rw [decide_eq_false c1, Bool.not_false, Bool.true_and] at k
                    by_cases c2 : q < q'
                    · rw [decide_eq_true c2] at bf
                      rw [decide_eq_true c2, Bool.not_true, Bool.false_and] at k
                      wp_walk using e1, i1, j0, j1, dn, bf
                      exact k _
                    · rw [decide_eq_false c2] at bf
                      rw [decide_eq_false c2, Bool.not_false, Bool.true_and] at k
                      wp_walk using zstop, e1, i1, j0, j1, dn, bf
                      have rr := rest (S ++ [.dk F8]) ⟨_, rfl⟩ k
                      wp_walk using zust, rr, G.wr_ok
              · have ne : dNe (.int ((ps.length + 1 + 1 : Nat) : Int)) (.int (2 + (ss.length : Nat))) = some (.bl true) := by rw [dNe_int, decide_eq_false (by omega)]; rfl
                rw [decide_eq_false el, Bool.false_and] at k
                wp_walk using i1, rt, q0, sl, ne
                exact k _
      · have ty : ∀ S, isTy S .str x = some false := fun S => by
          rw [isTy_of hx]
          cases x <;> first | rfl | exact absurd ⟨_, rfl⟩ hw | (cases hx)
        have hb : rowB (.tup (x :: t :: ps)) a = false := by
          unfold rowB
          split
          · rename_i w t' ps' e
            injection e with e
            injection e with e _
            exact absurd ⟨w, e⟩ hw
          · rfl
        rw [hb] at k
        wp_walk using i0, ty, l2
        exact k _
  · have ty : ∀ S, isTy S .tuple d = some false := fun S => by
      rw [isTy_of hs]
      cases d <;> first | rfl | exact absurd ⟨_, rfl⟩ htup | (cases hs)
    have hb : rowB d a = false := by
      unfold rowB
      split
      · exact absurd ⟨_, rfl⟩ htup
      · rfl
    rw [hb] at k
    wp_walk using ty
    exact k _
end Wk93
namespace Wk93
open PySem G C
def nowB : D → Bool
  | .tup (.str w :: _) => decide (w = "now")
  | _ => false
def oddB (i : Nat) (a : D) : List D → D
  | [] => if nowB a = true then .non else .int i
  | d :: l => if rowB d a = true then oddB (i + 1) d l else .int i
theorem row_ah {d a : D} (h : RowTh d) (e : rowB d a = true) : ∃ w q ps ss, d = .tup (.str w :: rD q :: ps) ∧ Bt q 250 ∧ 0 ≤ q.num ∧ soT.lookup w = some ss ∧ ps.length = ss.length ∧ (List.zipWith So.B ss ps).all id = true := by
  unfold rowB at e
  split at e
  · rename_i w t ps
    split at e
    · rename_i ss hl
      rw [Bool.and_eq_true, Bool.and_eq_true, Bool.and_eq_true, decide_eq_true_eq] at e
      obtain ⟨e1, e2, e3, e4⟩ := e
      obtain ⟨q, rfl, bq⟩ := ratB_inv (h.th w _ rfl t List.mem_cons_self) (by unfold timeB at e1; rw [Bool.and_eq_true] at e1; exact e1.1)
      rw [time_rD, decide_eq_true_eq] at e1
      exact ⟨w, q, ps, ss, rfl, bq, e1, hl, e2, e4⟩
    · cases e
  · cases e
theorem row_ahOk {d a : D} (h : RowTh d) (e : rowB d a = true) : AhOk d := by
  obtain ⟨w, q, ps, ss, rfl, bq, _⟩ := row_ah h e
  exact .row w q ps bq
theorem now_ne {a : D} (ha : AhOk a) (hn : a ≠ .non) (S : Store) : dIs a .non = some (.bl false) ∧ ∃ w, ixD S a (.int 0) = some (.str w) ∧ dNe (.str w) (.str "now") = some (.bl (!nowB a)) := by
  cases ha with
  | non => exact absurd rfl hn
  | row w q r bq =>
    refine ⟨rfl, w, by rw [ixD_tup]; exact L2.atI_nat (j := 0) rfl, ?_⟩
    rw [dNe_str]; rfl
theorem first_odd_th {N : Nat} (hN : big N) {S : Store} {l : List D} (h : ∀ d, d ∈ l → RowTh d) : m_first_odd N [.tup l] S = .ok (oddB 0 .non l) S := by
  apply eq_of_w
  rw [m_first_odd, wr_fnM, b_first_odd]
  have ty : ∀ S l, isTy S .tuple (.tup l) = some true := fun _ _ => rfl
  wp_walk using zstop, G.wr_ok
  rw [ws_sIf]
  wp_walk using zstop, ty
  refine for_w (fun i e S' => S' = S ∧ i ≤ l.length ∧ ∃ a x2 x3, AhOk a ∧ (a = .non → i = 0) ∧ oddB 0 .non l = oddB i a (l.drop i) ∧ e = [some (.tup l), some a, x2, x3]) ⟨rfl, Nat.zero_le _, _, _, _, .non, fun _ => rfl, rfl, rfl⟩ ?_ ?_
  · rintro i d e S' hd ⟨rfl, hi, a, x2, x3, ha, hz, ho, rfl⟩
    have hlt : i < l.length := by
      have := (List.getElem?_eq_some_iff.mp hd).1
      rwa [enumD_len] at this
    have hg : l[i]? = some l[i] := List.getElem?_eq_getElem hlt
    rw [enumD_get hg] at hd
    cases hd
    have hr := h _ (List.mem_of_getElem? hg)
    have ir := is_row_th (N := N) (S := S') hN hr ha
    rw [List.drop_eq_getElem_cons hlt] at ho
    cases er : rowB l[i] a with
    | true =>
      rw [er] at ir
      have ho2 : oddB 0 .non l = oddB (i + 1) l[i] (l.drop (i + 1)) := by rw [ho]; show (if rowB l[i] a = true then _ else _) = _; rw [if_pos er]
      wp_walk using ir
      exact ⟨hlt, _, _, _, row_ahOk hr er, (fun z => by obtain ⟨w, q, ps, ss, e, _⟩ := row_ah hr er; rw [z] at e; cases e), ho2, rfl⟩
    | false =>
      rw [er] at ir
      have ho2 : oddB 0 .non l = .int (i : Nat) := by rw [ho]; show (if rowB l[i] a = true then _ else _) = _; rw [if_neg (by rw [er]; simp)]
      rw [ho2]
      wp_walk using ir
  · rintro e S' ⟨rfl, _, a, x2, x3, ha, hz, ho, rfl⟩
    rw [enumD_len] at ho hz
    rw [List.drop_length] at ho
    rw [ho]
    by_cases hn : a = .non
    · subst hn
      have d1 : dIs .non .non = some (.bl true) := rfl
      wp_walk using d1
      rfl
    · obtain ⟨d1, w, d2, d3⟩ := now_ne ha hn S'
      cases en : nowB a with
      | true =>
        rw [en] at d3
        have e : oddB l.length a [] = .non := by show (if nowB a = true then _ else _) = _; rw [if_pos en]
        rw [e]
        wp_walk using d1, d2, d3
      | false =>
        rw [en] at d3
        have e : oddB l.length a [] = .int l.length := by show (if nowB a = true then _ else _) = _; rw [if_neg (by rw [en]; simp)]
        rw [e]
        wp_walk using d1, d2, d3
theorem odd_row_w {N : Nat} (hN : big N) {S : Store} {l : List D} {Q X : QP D} (h : ∀ d, d ∈ l → RowTh d) (k : ∀ T, Q (oddB 0 .non l) (S ++ T)) : Wr (m__law_odd_row N [.tup l] S) Q X := by
  rw [m__law_odd_row, wr_fnM, b__law_odd_row]
  wp_walk using zstop, G.wr_ok
  refine for_w (fun i e S' => (∃ T, S' = S ++ T) ∧ i ≤ l.length ∧ ∃ a x2 x3, AhOk a ∧ (a = .non → i = 0) ∧ oddB 0 .non l = oddB i a (l.drop i) ∧ e = [some (.tup l), some a, x2, x3]) ⟨⟨[], by simp⟩, Nat.zero_le _, _, _, _, .non, fun _ => rfl, rfl, rfl⟩ ?_ ?_
  · rintro i d e S' hd ⟨⟨T1, rfl⟩, hi, a, x2, x3, ha, hz, ho, rfl⟩
    have hlt : i < l.length := by
      have := (List.getElem?_eq_some_iff.mp hd).1
      rwa [enumD_len] at this
    have hg : l[i]? = some l[i] := List.getElem?_eq_getElem hlt
    rw [enumD_get hg] at hd
    cases hd
    have hr := h _ (List.mem_of_getElem? hg)
    rw [List.drop_eq_getElem_cons hlt] at ho
    wp_walk using zstop, G.wr_ok
    rw [ws_sIf]
    wp_walk using G.wr_ok
    refine row_so_w hN hr ha fun T2 => ?_
    rw [List.append_assoc]
    cases er : rowB l[i] a with
    | true =>
      have ho2 : oddB 0 .non l = oddB (i + 1) l[i] (l.drop (i + 1)) := by rw [ho]; show (if rowB l[i] a = true then _ else _) = _; rw [if_pos er]
      wp_walk using G.wr_ok
      exact ⟨⟨_, rfl⟩, hlt, _, _, _, row_ahOk hr er, (fun z => by obtain ⟨w, q, ps, ss, e, _⟩ := row_ah hr er; rw [z] at e; cases e), ho2, rfl⟩
    | false =>
      have ho2 : oddB 0 .non l = .int (i : Nat) := by rw [ho]; show (if rowB l[i] a = true then _ else _) = _; rw [if_neg (by rw [er]; simp)]
      rw [ho2] at k
      wp_walk using G.wr_ok
      exact k _
  · rintro e S' ⟨⟨T1, rfl⟩, _, a, x2, x3, ha, hz, ho, rfl⟩
    rw [enumD_len] at ho hz
    rw [List.drop_length] at ho
    rw [ho] at k
    by_cases hn : a = .non
    · subst hn
      have d1 : dIs .non .non = some (.bl true) := rfl
      wp_walk using d1
      exact k _
    · obtain ⟨d1, w, d2, d3⟩ := now_ne ha hn (S ++ T1)
      cases en : nowB a with
      | true =>
        rw [en] at d3
        have e : oddB l.length a [] = .non := by show (if nowB a = true then _ else _) = _; rw [if_pos en]
        rw [e] at k
        wp_walk using d1, d2, d3
        exact k _
      | false =>
        rw [en] at d3
        have e : oddB l.length a [] = .int l.length := by show (if nowB a = true then _ else _) = _; rw [if_neg (by rw [en]; simp)]
        rw [e] at k
        wp_walk using d1, d2, d3
        exact k _
end Wk93
namespace Wk93
open PySem G C
theorem strsD_map : ∀ xs : List Str, strsD (xs.map D.str) = some xs
  | [] => rfl
  | x :: xs => by
    show (strsD (xs.map D.str)).map (x :: ·) = _
    rw [strsD_map xs]; rfl
theorem sum_le {K : Nat} : ∀ {xs : List Str}, (∀ x, x ∈ xs → x.length ≤ K) → (xs.map (·.length)).sum ≤ xs.length * K
  | [], _ => Nat.zero_le _
  | x :: xs, h => by
    have ih := sum_le (xs := xs) fun y hy => h y (List.mem_cons_of_mem _ hy)
    have h0 := h x List.mem_cons_self
    rw [List.map_cons, List.sum_cons, List.length_cons, Nat.add_mul, Nat.one_mul]
    omega
theorem join_of {sep : Str} (hs : sep.length ≤ 1) {K n : Nat} {xs : List Str} (h : ∀ x, x ∈ xs → x.length ≤ K) (hl : xs.length ≤ n) (hk : n * (K + 1) ≤ 16777216) (S : Store) :
    ∃ y : Str, fJoin S (.str sep) [.lst (xs.map D.str)] = some (.str y) ∧ y.length ≤ n * (K + 1) := by
  have h1 := sum_le h
  have h2 : xs.length * K ≤ n * K := Nat.mul_le_mul_right K hl
  have h3 : xs.length * sep.length ≤ n * 1 := Nat.mul_le_mul hl hs
  have h4 : n * (K + 1) = n * K + n * 1 := Nat.mul_add n K 1
  refine ⟨Str.join sep xs, ?_, Nat.le_trans (StrLaws.join_length_le sep xs) (by omega)⟩
  show ((seqD S (.lst (xs.map D.str))).bind fun l => (strsD l).bind fun ys => if (ys.map (·.length)).sum + ys.length * sep.length ≤ 16777216 then some (D.str (Str.join sep ys)) else none) = _
  show ((strsD (xs.map D.str)).bind fun ys => if (ys.map (·.length)).sum + ys.length * sep.length ≤ 16777216 then some (D.str (Str.join sep ys)) else none) = _
  rw [strsD_map, Option.bind_some, if_pos (by omega)]
theorem showR_len {N : Nat} (hN : big N) {q : Rat} (h : Bt q 250) : ∃ x : Str, x.length ≤ 200 ∧ ∀ S, m_show_ratio N [rD q] S = .ok (.str x) S := by
  refine ⟨_, ?_, fun S => showR_ok hN h S⟩
  have hd : ((q.den : Int)).natAbs < 2 ^ 250 := by simpa using h.2
  have l1 := numI_b h.1
  have l2 := numI_b hd
  have e2 : numI (q.den : Int) = TL.numL q.den := by unfold numI; rw [if_neg (by omega)]; rfl
  rw [e2] at l2
  rw [SX.S_len]
  unfold tq
  split
  · rw [List.append_nil]; omega
  · rw [List.length_append, List.length_cons]; omega
theorem part_rD {N : Nat} (hN : big N) {q : Rat} (h : Bt q 250) : ∃ x : Str, x.length ≤ 200 ∧ ∀ S, m_show_part N [rD q] S = .ok (.str x) S := by
  by_cases c : q = 0
  · subst c
    refine ⟨"-", by decide, fun S => ?_⟩
    have e0 : dIs (rD 0) .non = some (.bl false) := rfl
    have e1 : dEq (rD 0) (.tup [.int 0, .int 1]) = some (.bl true) := by
      have := dEq_rD 0 0
      rw [decide_eq_true rfl] at this
      exact this
    apply eq_of_w
    rw [m_show_part, wr_fnM, b_show_part]
    wp_walk using e0, e1
  · obtain ⟨x, hx, e⟩ := showR_len hN h
    refine ⟨x, hx, fun S => ?_⟩
    have e0 : dIs (rD q) .non = some (.bl false) := rfl
    have e1 : dEq (rD q) (.tup [.int 0, .int 1]) = some (.bl false) := by
      have := dEq_rD q 0
      rw [decide_eq_false c] at this
      exact this
    have ty : ∀ S, isTy S .tuple (rD q) = some true := fun _ => rfl
    apply eq_of_w
    rw [m_show_part, wr_fnM, b_show_part]
    wp_walk using e0, e1, ty, e
theorem part_str {N : Nat} {x : Str} (hl : x.length ≤ 200) (hc : (PyData.str x).canLay0 = true) (S : Store) : m_show_part N [.str x] S = .ok (.str x) S := by
  have e0 : dIs (.str x) .non = some (.bl false) := rfl
  have e1 : dEq (.str x) (.tup [.int 0, .int 1]) = some (.bl false) := dEq_sr 0 hc
  have ty : ∀ S, isTy S .tuple (.str x) = some false := fun _ => rfl
  have fs : ∀ S, fStr S [.str x] = some (.str x) := fun _ => rfl
  apply eq_of_w
  rw [m_show_part, wr_fnM, b_show_part]
  wp_walk using e0, e1, ty, fs
theorem part_int {N : Nat} {i : Int} (h : i.natAbs < 2 ^ 250) : ∃ x : Str, x.length ≤ 200 ∧ ∀ S, m_show_part N [.int i] S = .ok (.str x) S := by
  refine ⟨S_ (numI i), by rw [SX.S_len]; have := numI_b h; omega, fun S => ?_⟩
  have e0 : dIs (.int i) .non = some (.bl false) := rfl
  have e1 : dEq (.int i) (.tup [.int 0, .int 1]) = some (.bl false) := rfl
  have ty : ∀ S, isTy S .tuple (.int i) = some false := fun _ => rfl
  have fs := fStr_I h
  apply eq_of_w
  rw [m_show_part, wr_fnM, b_show_part]
  wp_walk using e0, e1, ty, fs
theorem show_part_th {N : Nat} (hN : big N) {d : D} (h : Th d) {z : So} (hz : z.B d = true) : ∃ x : Str, x.length ≤ 200 ∧ ∀ S, m_show_part N [d] S = .ok (.str x) S := by
  have rt : rateB d = true → ∃ x : Str, x.length ≤ 200 ∧ ∀ S, m_show_part N [d] S = .ok (.str x) S := fun e => by
    unfold rateB at e
    rw [Bool.and_eq_true] at e
    obtain ⟨q, rfl, b⟩ := ratB_inv h e.1
    exact part_rD hN b
  have wi : ∀ m : Int, m ≤ 1000 → wiB m d = true → ∃ x : Str, x.length ≤ 200 ∧ ∀ S, m_show_part N [d] S = .ok (.str x) S := fun m hm e => by
    unfold wiB at e
    split at e
    · rename_i i
      rw [Bool.and_eq_true, decide_eq_true_eq, decide_eq_true_eq] at e
      refine part_int (Nat.lt_of_le_of_lt (m := 1000) (by omega) (Nat.lt_of_lt_of_le (by decide : 1000 < 2 ^ 10) (Nat.pow_le_pow_right (by omega) (by omega))))
    · cases e
  cases z with
  | nm =>
    have e : nameB d = true := hz
    unfold nameB at e
    split at e
    · rename_i x
      rw [Bool.and_eq_true, Bool.and_eq_true, decide_eq_true_eq, decide_eq_true_eq] at e
      obtain ⟨⟨e1, e2⟩, e3⟩ := e
      have hl : x.length ≤ 200 := by
        have : x.length = x.cps.toList.length := by show x.cps.size = _; simp
        omega
      refine ⟨x, hl, fun S => part_str hl ?_ S⟩
      show (x.cps.all fun c => decide (c < 0x110000)) = true
      rw [Array.all_eq_true_iff_forall_mem]
      intro c hc
      have := of_decide_eq_true (List.all_eq_true.mp e3 c (by simpa using hc))
      exact decide_eq_true (by omega)
    · cases e
  | le =>
    have e : leastB d = true := hz
    unfold leastB at e
    rw [Bool.or_eq_true] at e
    rcases e with e | e
    · exact rt e
    · unfold zB at e
      split at e
      · rename_i a b
        rw [Bool.and_eq_true, decide_eq_true_eq, decide_eq_true_eq] at e
        obtain ⟨rfl, rfl⟩ := e
        exact part_rD hN (q := 0) ⟨by decide, by decide⟩
      · cases e
  | mo =>
    have e : mostB d = true := hz
    unfold mostB at e
    split at e
    · refine ⟨"-", by decide, fun S => ?_⟩
      have e0 : dIs .non .non = some (.bl true) := rfl
      apply eq_of_w
      rw [m_show_part, wr_fnM, b_show_part]
      wp_walk using e0
    · exact rt e
  | we => exact wi 99 (by omega) hz
  | si => exact wi 999 (by omega) hz
  | wa =>
    have e : wayB d = true := hz
    unfold wayB at e
    split at e
    · rename_i x
      rw [Bool.or_eq_true, decide_eq_true_eq, decide_eq_true_eq] at e
      rcases e with rfl | rfl
      · exact ⟨_, by decide +kernel, fun S => part_str (by decide +kernel) (by decide +kernel) S⟩
      · exact ⟨_, by decide +kernel, fun S => part_str (by decide +kernel) (by decide +kernel) S⟩
    · cases e
theorem soT_word {w : Str} {ss : List So} (h : soT.lookup w = some ss) : w.length ≤ 200 := by
  by_cases hm : w ∈ soT.map (·.1)
  · unfold soT at hm
    simp only [List.map_cons, List.map_nil, List.mem_cons, List.not_mem_nil, or_false] at hm
    rcases hm with rfl | rfl | rfl | rfl | rfl | rfl | rfl | rfl <;> decide +kernel
  · rw [lk_none w soT hm] at h; cases h
theorem show_row_th {N : Nat} (hN : big N) {d a : D} (h : RowTh d) (e : rowB d a = true) (S : Store) : ∃ x : Str, x.length ≤ 30000 ∧ m_show_row N [d] S = .ok (.str x) S := by
  obtain ⟨w, q, ps, ss, rfl, bq, q0, hl, el, hz⟩ := row_ah h e
  have hp : ∀ x, x ∈ ps → Th x := fun x hx => h.th w _ rfl x (List.mem_cons_of_mem _ hx)
  have h4 := soT_len hl
  have hw := soT_word hl
  obtain ⟨t, ht, et⟩ := showR_len hN bq
  have k : ∃ x : Str, x.length ≤ 30000 ∧ Wr (m_show_row N [.tup (.str w :: rD q :: ps)] S) (eqQ (.str x) S) nX := by
    suffices Wr (m_show_row N [.tup (.str w :: rD q :: ps)] S) (fun d' S' => S' = S ∧ ∃ x : Str, d' = .str x ∧ x.length ≤ 30000) nX by
      cases hr : m_show_row N [.tup (.str w :: rD q :: ps)] S with
      | ok d' S' =>
        rw [hr] at this
        obtain ⟨rfl, x, rfl, hx⟩ := this
        exact ⟨x, hx, rfl, rfl⟩
      | exc _ _ => rw [hr] at this; exact False.elim this
      | stuck => rw [hr] at this; exact False.elim this
    rw [m_show_row, wr_fnM, b_show_row]
    have le2 : 2 ≤ ps.length + 1 + 1 := by omega
    have tk : (D.str w :: rD q :: ps).take 2 = [.str w, rD q] := rfl
    have dp : (D.str w :: rD q :: ps).drop 2 = ps := rfl
    wp_walk using wr_gStr_tup, le2, tk, dp, et
    refine lc_w (fun j acc S' => S' = S ∧ j ≤ ps.length ∧ ∃ xs : List Str, acc = xs.map D.str ∧ xs.length = j ∧ ∀ x, x ∈ xs → x.length ≤ 200) ⟨rfl, Nat.zero_le _, [], rfl, rfl, fun _ z => by cases z⟩ ?_ ?_
    · rintro j d acc S' hd ⟨rfl, hj, xs, rfl, hxl, hxs⟩
      have hlt := (List.getElem?_eq_some_iff.mp hd).1
      have h1 : ss[j]? = some (ss[j]'(by omega)) := List.getElem?_eq_getElem _
      have hb : (ss[j]'(by omega)).B d = true := by
        have : (List.zipWith So.B ss ps)[j]? = some ((ss[j]'(by omega)).B d) := by rw [List.getElem?_zipWith, h1, hd]
        exact List.all_eq_true.mp hz _ (List.mem_of_getElem? this)
      obtain ⟨x, hx, ex⟩ := show_part_th hN (hp d (List.mem_of_getElem? hd)) hb
      have tm : ∀ (d : D) (e : En), Tg.m (.nm 4) d e = some (e.set 4 (some d)) := fun _ _ => rfl
      have sz : (xs.map D.str).length < sizeLine := by rw [sizeLine_eq, List.length_map]; omega
      wp_walk using tm, ex
      refine ⟨sz, hlt, xs ++ [x], by rw [List.map_append]; rfl, by simp [hxl], fun y hy => ?_⟩
      rcases List.mem_append.mp hy with hy | hy
      · exact hxs y hy
      · rw [List.mem_singleton] at hy; subst hy; exact hx
    · rintro acc S' ⟨rfl, hj, xs, rfl, hxl, hxs⟩
      have ad : ∀ S, dAddS S (.lst [.str w, .str t]) (.lst (xs.map D.str)) = some (.lst ((w :: t :: xs).map D.str)) := fun S => by
        show (if ([D.str w, .str t]).length + (xs.map D.str).length ≤ sizeLine then some (D.lst ([D.str w, .str t] ++ xs.map D.str)) else none) = _
        rw [if_pos (by rw [sizeLine_eq, List.length_map]; simp; omega)]
        rfl
      obtain ⟨y, ey, hy⟩ := join_of (sep := " ") (by decide +kernel) (K := 200) (n := 102) (xs := w :: t :: xs) (fun x hx => by
        rcases List.mem_cons.mp hx with rfl | hx
        · exact hw
        · rcases List.mem_cons.mp hx with rfl | hx
          · exact ht
          · exact hxs x hx) (by simp; omega) (by omega) S'
      have ey2 : fJoin S' (.str " ") [.lst (D.str w :: D.str t :: xs.map D.str)] = some (.str y) := ey
      wp_walk using ad, ey2
      exact ⟨y, rfl, by omega⟩
  obtain ⟨x, hx, kx⟩ := k
  exact ⟨x, hx, eq_of_w kx⟩
end Wk93
namespace Wk93
open PySem G C
theorem oddB_rows : ∀ (l : List D) (i : Nat) (a : D), oddB i a l = .non → ∀ d, d ∈ l → ∃ a, rowB d a = true
  | [], _, _, _ => fun _ h => by cases h
  | x :: l, i, a, e => by
    intro d hd
    unfold oddB at e
    by_cases c : rowB x a = true
    · rw [if_pos c] at e
      rcases List.mem_cons.mp hd with rfl | hd
      · exact ⟨a, c⟩
      · exact oddB_rows l _ _ e d hd
    · rw [if_neg c] at e; cases e
theorem oddB_is : ∀ (l : List D) (i : Nat) (a : D), oddB i a l = .non ∨ ∃ k : Nat, oddB i a l = .int k
  | [], i, a => by
    unfold oddB
    split
    · exact .inl rfl
    · exact .inr ⟨i, rfl⟩
  | x :: l, i, a => by
    unfold oddB
    split
    · exact oddB_is l _ _
    · exact .inr ⟨i, rfl⟩
theorem show_log_th {N : Nat} (hN : big N) {l : List D} (h : ∀ d, d ∈ l → RowTh d) (hl : l.length ≤ 100) (e : oddB 0 .non l = .non) (S : Store) : ∃ x : Str, m_show_log N [.tup l] S = .ok (.str x) S := by
  suffices Wr (m_show_log N [.tup l] S) (fun d' S' => S' = S ∧ ∃ x : Str, d' = .str x) nX by
    cases hr : m_show_log N [.tup l] S with
    | ok d' S' =>
      rw [hr] at this
      obtain ⟨rfl, x, rfl⟩ := this
      exact ⟨x, rfl⟩
    | exc _ _ => rw [hr] at this; exact False.elim this
    | stuck => rw [hr] at this; exact False.elim this
  have fo := first_odd_th (N := N) (S := S) hN h
  rw [e] at fo
  have d1 : dIsNot .non .non = some (.bl false) := rfl
  have cf : m_check_forms N [.tup l] S = .ok .non S := by
    apply eq_of_w
    rw [m_check_forms, wr_fnM, b_check_forms]
    wp_walk using fo, d1
  rw [m_show_log, wr_fnM, b_show_log]
  wp_walk using cf
  refine lc_w (fun j acc S' => S' = S ∧ j ≤ l.length ∧ ∃ xs : List Str, acc = xs.map D.str ∧ xs.length = j ∧ ∀ x, x ∈ xs → x.length ≤ 30000) ⟨rfl, Nat.zero_le _, [], rfl, rfl, fun _ z => by cases z⟩ ?_ ?_
  · rintro j d acc S' hd ⟨rfl, hj, xs, rfl, hxl, hxs⟩
    have hlt := (List.getElem?_eq_some_iff.mp hd).1
    have hm := List.mem_of_getElem? hd
    obtain ⟨a, ea⟩ := oddB_rows l 0 .non e d hm
    obtain ⟨x, hx, ex⟩ := show_row_th hN (h d hm) ea S'
    have tm : ∀ (d : D) (e : En), Tg.m (.nm 1) d e = some (e.set 1 (some d)) := fun _ _ => rfl
    have sz : (xs.map D.str).length < sizeLine := by rw [sizeLine_eq, List.length_map]; omega
    wp_walk using tm, ex
    refine ⟨sz, hlt, xs ++ [x], by rw [List.map_append]; rfl, by simp [hxl], fun y hy => ?_⟩
    rcases List.mem_append.mp hy with hy | hy
    · exact hxs y hy
    · rw [List.mem_singleton] at hy; subst hy; exact hx
  · rintro acc S' ⟨rfl, hj, xs, rfl, hxl, hxs⟩
    obtain ⟨y, ey, hy⟩ := join_of (sep := "\n") (by decide +kernel) (K := 30000) (n := 100) (xs := xs) hxs (by omega) (by omega) S'
    wp_walk using ey
    exact ⟨y, rfl⟩
theorem check_odd {N : Nat} {d o : D} {S : Store} (fo : m_first_odd N [d] S = .ok o S) (ho : dIsNot o .non = some (.bl true)) : m_check_forms N [d] S = .exc (.exc 17 [(4, o)]) S := by
  simp [m_check_forms, fnM_s, b_check_forms, fo, ho, sRaiseF, eVar, sE, fnEnd]
theorem refused_exc {N : Nat} {d o : D} {S : Store} (e : m_show_log N [d] S = .exc (.exc 17 [(4, o)]) S) : m__law_refused N [d] S = .ok (.lst [o]) S := by
  have t0 : tbR rsL 0 17 = some true := by decide +kernel
  have t1 : tbR rsL 17 17 = some true := by decide +kernel
  have t2 : tbAny [tbR rsL 1, tbR rsL 2] 17 = some false := by decide +kernel
  have t3 : tbR rsL 100 17 = some true := by decide +kernel
  have f1 : fldY [17] 4 (.exc 17 [(4, o)]) = some o := rfl
  apply eq_of_w
  rw [m__law_refused, wr_fnM, b__law_refused]
  wp_walk using e, t0
  wp_walk using t0, t1, t2, t3, f1
structure TgTh (d : D) : Prop where
  sh : (shT d).isSome = true
  tp : ∀ l, d = .tup l → l.length ≤ 100 ∧ ∀ x, x ∈ l → RowTh x
theorem show_exc {N : Nat} {d o : D} {S : Store} (fo : m_first_odd N [d] S = .ok o S) (ho : dIsNot o .non = some (.bl true)) : m_show_log N [d] S = .exc (.exc 17 [(4, o)]) S := by
  simp [m_show_log, fnM_s, b_show_log, check_odd fo ho, fnEnd]
theorem thing_w {N : Nat} (hN : big N) {S : Store} {d : D} {Q X : QP D} (h : TgTh d) (k : ∀ T, Q (.bl true) (S ++ T)) : Wr (m__law_thing_right N [d] S) Q X := by
  by_cases htup : ∃ l, d = .tup l
  · obtain ⟨l, rfl⟩ := htup
    obtain ⟨hl, hr⟩ := h.tp l rfl
    have ty : ∀ S, isTy S .tuple (.tup l) = some true := fun _ => rfl
    rw [m__law_thing_right, wr_fnM, b__law_thing_right]
    wp_walk using ty
    refine odd_row_w hN hr fun T => ?_
    generalize ST : S ++ T = S1
    have fo := first_odd_th (N := N) (S := S1) hN hr
    have k1 : Q (.bl true) S1 := by rw [← ST]; exact k T
    rcases oddB_is l 0 .non with e | ⟨j, e⟩
    · obtain ⟨x, ex⟩ := show_log_th (N := N) hN hr hl e S1
      rw [e] at fo ⊢
      have d1 : dIs .non .non = some (.bl true) := rfl
      have il : m_is_log N [.tup l] S1 = .ok (.bl true) S1 := by
        apply eq_of_w
        rw [m_is_log, wr_fnM, b_is_log]
        wp_walk using ty, fo, d1
      have rf : m__law_refused N [.tup l] S1 = .ok .non S1 := by
        apply eq_of_w
        rw [m__law_refused, wr_fnM, b__law_refused]
        wp_walk using ex
      have d2 : dEq .non .non = some (.bl true) := rfl
      wp_walk using il, d1, rf, d2
      exact k1
    · rw [e] at fo ⊢
      have d1 : dIs (.int (j : Nat)) .non = some (.bl false) := rfl
      have il : m_is_log N [.tup l] S1 = .ok (.bl false) S1 := by
        apply eq_of_w
        rw [m_is_log, wr_fnM, b_is_log]
        wp_walk using ty, fo, d1
      have rf : m__law_refused N [.tup l] S1 = .ok (.lst [.int (j : Nat)]) S1 := refused_exc (show_exc fo rfl)
      have d2 : dEq (.int (j : Nat)) (.int (-1)) = some (.bl false) := by rw [dEq_int, decide_eq_false (by omega)]
      have d3 : dEq (.lst [.int (j : Nat)]) (.lst [.int (j : Nat)]) = some (.bl true) := by
        have : dEq (.lst [.int (j : Nat)]) (.lst [.int (j : Nat)]) = some (.bl (decide (((j : Nat) : Int) = (j : Nat)) && true)) := rfl
        rw [this]; simp
      wp_walk using il, d1, rf, d2, d3
      exact k1
  · have ty : ∀ S, isTy S .tuple d = some false := fun S => by
      rw [isTy_of h.sh]
      have hs := h.sh
      cases d <;> first | rfl | exact absurd ⟨_, rfl⟩ htup | (cases hs)
    have k1 := k []
    rw [List.append_nil] at k1
    have d1 : dIs (.int (-1)) .non = some (.bl false) := rfl
    have il : m_is_log N [d] S = .ok (.bl false) S := by
      apply eq_of_w
      rw [m_is_log, wr_fnM, b_is_log]
      wp_walk using ty
    have fo : m_first_odd N [d] S = .exc (.exc 17 [(4, .non)]) S := by
      simp [m_first_odd, fnM_s, b_first_odd, ty, sRaiseF, sE, fnEnd]
    have sl : m_show_log N [d] S = .exc (.exc 17 [(4, .non)]) S := by
      simp [m_show_log, fnM_s, b_show_log, m_check_forms, b_check_forms, fo, fnEnd]
    have rf : m__law_refused N [d] S = .ok (.lst [.non]) S := refused_exc sl
    have d2 : dEq (.int (-1)) (.int (-1)) = some (.bl true) := rfl
    have d3 : dEq (.lst [.non]) (.lst [.non]) = some (.bl true) := rfl
    rw [m__law_thing_right, wr_fnM, b__law_thing_right]
    wp_walk using ty, il, d1, rf, d2, d3
    exact k1
end Wk93
namespace Wk93
open PySem G C
structure GP (p : D) : Prop where
  th : Th p
  l1 : Th (.lst [p])
theorem th_lst1 {p : D} {pp : PyData} (h : p.toP = some pp) (c : pp.canLay0 = true) (dd : pp.depth ≤ 60) : Th (.lst [p]) := by
  refine ⟨rfl, fun _ _ e => (by cases e), fun _ _ e => (by cases e), ⟨false, ?_⟩, fun _ e => by cases e⟩
  show (eqP (.lst [p]) (.tup [.int 0, .int 1])).map D.bl = _
  have e1 : (D.lst [p]).toP = some (.list [pp]) := by
    rw [D.toP, toPs, h]; rfl
  have e2 : (D.tup [.int 0, .int 1]).toP = some (.tuple [.int 0, .int 1]) := rfl
  unfold eqP
  rw [e1, e2]
  dsimp only
  have s1 : SeqAt.shaped (.list [pp]) = true := by
    have d1 : (PyData.list [pp]).depth ≤ 64 := by
      show PyData.depthAll [pp] + 1 ≤ 64
      show max pp.depth 0 + 1 ≤ 64
      omega
    have c1 : (PyData.list [pp]).canLay0 = true := by
      show (pp.canLay0 && true) = true
      rw [c]; rfl
    unfold SeqAt.shaped
    rw [c1, decide_eq_true d1]; rfl
  have s2 : SeqAt.shaped (.tuple [.int 0, .int 1]) = true := by decide
  rw [s1, s2]
  rfl
theorem th_str {x : Str} (hc : (PyData.str x).canLay0 = true) (hl : x.length ≤ 1000) : Th (.str x) :=
  ⟨rfl, fun _ _ e => (by cases e), fun _ _ e => (by cases e), ⟨false, dEq_sr 0 hc⟩, fun y e => by cases e; exact hl⟩
theorem gp_str {x : Str} (hc : (PyData.str x).canLay0 = true) (hl : x.length ≤ 1000) : GP (.str x) :=
  ⟨th_str hc hl, th_lst1 (pp := .str x) rfl hc (by simp [PyData.depth])⟩
theorem gp_int (i : Int) : GP (.int i) :=
  ⟨⟨rfl, fun _ _ e => (by cases e), fun _ _ e => (by cases e), ⟨false, rfl⟩, fun _ e => by cases e⟩, th_lst1 (pp := .int i) rfl rfl (by simp [PyData.depth])⟩
theorem gp_non : GP .non :=
  ⟨⟨rfl, fun _ _ e => (by cases e), fun _ _ e => (by cases e), ⟨false, rfl⟩, fun _ e => by cases e⟩, th_lst1 (pp := .none) rfl rfl (by simp [PyData.depth])⟩
theorem th_rD {q : Rat} (h : Bt q 250) : Th (rD q) := by
  refine ⟨rfl, fun x y e => ?_, fun a b e => ?_, ⟨_, dEq_rD q 0⟩, fun _ e => by cases e⟩
  · unfold rD at e
    cases e
    exact ⟨rfl, rfl⟩
  · unfold rD at e
    cases e
    exact ⟨h.1, by simpa using h.2⟩
theorem gp_rD {q : Rat} (h : Bt q 250) : GP (rD q) :=
  ⟨th_rD h, th_lst1 (pp := .tuple [.int q.num, .int q.den]) rfl rfl (by simp [PyData.depth, PyData.depthAll])⟩
theorem gp_oD {o : Option Rat} (h : ∀ q, o = some q → Bt q 250) : GP (oD o) := by
  cases o with
  | none => exact gp_non
  | some q => exact gp_rD (h q rfl)
structure RowG (d : D) : Prop where
  ex : ∃ w l, d = .tup (.str w :: l) ∧ 1 ≤ l.length ∧ l.length ≤ 5 ∧ GP (.str w) ∧ ∀ p, p ∈ l → GP p
theorem RowG.th {d : D} (h : RowG d) : RowTh d := by
  obtain ⟨w, l, rfl, l1, l5, gw, gl⟩ := h.ex
  refine ⟨rfl, fun l' e => ?_, fun x l' e => ?_, fun w' l' e => ?_⟩
  · cases e; rw [List.length_cons]; omega
  · cases e; rfl
  · cases e; exact fun x hx => (gl x hx).th
structure RowsOk (rows : List D) (now : Rat) : Prop where
  g : ∀ d, d ∈ rows → RowG d
  a : ∃ a, (∀ l, oddB 0 .non (rows ++ l) = oddB rows.length a l) ∧ (a = .non ∨ ∃ w q r, a = .tup (.str w :: rD q :: r) ∧ w ≠ "now" ∧ q ≤ now)
theorem rowsOk_nil (now : Rat) : RowsOk [] now := ⟨fun _ h => (by cases h), .non, fun _ => rfl, .inl rfl⟩
theorem row_true {w : Str} {t now : Rat} {ps : List D} {ss : List So} {a : D} (ha : a = .non ∨ ∃ w q r, a = .tup (.str w :: rD q :: r) ∧ w ≠ "now" ∧ q ≤ now) (lt : now ≤ t) (t0 : 0 ≤ t) (hs : soT.lookup w = some ss) (hl : ps.length = ss.length) (hz : (List.zipWith So.B ss ps).all id = true) :
    rowB (.tup (.str w :: rD t :: ps)) a = true := by
  unfold rowB
  dsimp only
  rw [hs]
  dsimp only
  rw [time_rD, decide_eq_true (Rat.num_nonneg.mpr t0), decide_eq_true hl, hz, Bool.and_true, Bool.true_and, Bool.true_and]
  rcases ha with rfl | ⟨w', q, r, rfl, hw, hq⟩
  · rfl
  · show (!(decide (w' = "now")) && !(lessB (rD t) (rD q))) = true
    rw [less_rD, decide_eq_false hw, decide_eq_false (by grind)]
    rfl
theorem rows_step {rows : List D} {now t : Rat} (h : RowsOk rows now) (lt : now ≤ t) (t0 : 0 ≤ t) (bt : Bt t 250) {w : Str} {ps : List D} {ss : List So} (hs : soT.lookup w = some ss) (hw : w ≠ "now") (gw : GP (.str w)) (hl : ps.length = ss.length) (hz : (List.zipWith So.B ss ps).all id = true) (hp : ∀ p, p ∈ ps → GP p) :
    RowsOk (rows ++ [.tup (.str w :: rD t :: ps)]) t := by
  obtain ⟨hg, a, ho, ha⟩ := h
  have h4 := soT_len hs
  refine ⟨fun d hd => ?_, .tup (.str w :: rD t :: ps), fun l => ?_, .inr ⟨w, t, ps, rfl, hw, Rat.le_refl⟩⟩
  · rcases List.mem_append.mp hd with hd | hd
    · exact hg d hd
    · rw [List.mem_singleton] at hd
      subst hd
      refine ⟨w, _, rfl, by rw [List.length_cons]; omega, by rw [List.length_cons]; omega, gw, fun p hp' => ?_⟩
      rcases List.mem_cons.mp hp' with rfl | hp'
      · exact gp_rD bt
      · exact hp p hp'
  · rw [List.append_assoc, ho, List.length_append]
    show oddB rows.length a (.tup (.str w :: rD t :: ps) :: l) = _
    rw [oddB, if_pos (row_true ha lt t0 hs hl hz)]
    rfl
theorem rows_end {rows : List D} {now t : Rat} (h : RowsOk rows now) (lt : now ≤ t) (t0 : 0 ≤ t) : oddB 0 .non (rows ++ [.tup [.str "now", rD t]]) = .non := by
  obtain ⟨hg, a, ho, ha⟩ := h
  rw [ho]
  rw [oddB, if_pos (row_true (w := "now") (ps := []) (ss := []) ha lt t0 rfl rfl rfl)]
  rfl
end Wk93
namespace Wk93
open PySem G C
theorem addE_int (S : Store) (i j : Int) : dAddE S (.int i) (.int j) = some (.int (i + j)) := rfl
theorem drawn_w {N : Nat} (hN : big N) {S : Store} {n : Nat} {Q X : QP D} (P : Pool S n)
    (h : ∀ rows now t S', RowsOk rows now → now ≤ t → 0 ≤ t → Bt t 250 → rows.length ≤ 13 → Pool S' n → Q (.tup (rows ++ [.tup [.str "now", rD t]])) S') : Wr (m__law_drawn_log N [.loc n] S) Q X := by
  have ee : dPow (.int 10) (.int 9) = some (.int 1000000000) := rfl
  have mm : dMul (.int 2) (.int 1000000000) = some (.int 2000000000) := rfl
  rw [m__law_drawn_log, wr_fnM, b__law_drawn_log]
  wp_walk using zstop, G.wr_ok
  have P0 := P.app [.lst []]
  have g0 : (S ++ [Cell.lst []])[S.length]? = some (.lst []) := by simp
  have hr : S.length ≠ n := by have := P.lt; omega
  generalize S ++ [Cell.lst []] = S0 at *
  generalize S.length = r at *
  refine take_w N P0 (by omega) (by omega) fun w S1 w0 w1 P1 F1 => ?_
  have g1 := F1.get g0 hr
  wp_walk using zstop, G.wr_ok
  refine ⟨by omega, ?_⟩
  refine for_w (fun i e S' => ∃ rows now x3 x4 x5 x6 x7 x8, RowsOk rows now ∧ 0 ≤ now ∧ Bt now (7 * i + 1) ∧ rows.length = i ∧ i ≤ 13 ∧ Pool S' n ∧ S'[r]? = some (.lst rows) ∧ e = [some (.loc n), some (.loc r), some (rD now), x3, x4, x5, x6, x7, x8]) ⟨[], 0, _, _, _, _, _, _, rowsOk_nil 0, by decide, ⟨by decide, by decide⟩, rfl, by omega, P1, g1, rfl⟩ ?_ ?_
  · rintro i d e S2 hd ⟨rows, now, x3, x4, x5, x6, x7, x8, hk, n0, bn, hl, hi, P2, g2, rfl⟩
    obtain ⟨rfl, hiw⟩ := range_get hd
    wp_walk using zstop, G.wr_ok
    refine moment_w hN P2 bn (by omega) n0 fun t S3 bt lt P3 F3 => ?_
    have g3 := F3.get g2 hr
    wp_walk using zstop, G.wr_ok
    refine take_w N P3 (by omega) (by omega) fun a S4 a0 a1 P4 F4 => ?_
    have g4 := F4.get g3 hr
    wp_walk using zstop, G.wr_ok
    refine wr_at a0 (by simpa using a1) fun wd hwd => ?_
    wp_walk using zstop, G.wr_ok
    refine name_w P4 fun nm S5 hnm P5 F5 => ?_
    have g5 := F5.get g4 hr
    wp_walk using zstop, G.wr_ok
    refine rateS_w hN P5 fun q S6 bq q0 q1 P6 F6 => ?_
    have g6 := F6.get g5 hr
    wp_walk using zstop, ee
    refine take_w N P6 (by omega) (by omega) fun b S7 b0 b1 P7 F7 => ?_
    have g7 := F7.get g6 hr
    wp_walk using zstop, addE_int, ee, mm
    refine take_w N P7 (by omega) (by omega) fun c S8 c0 c1 P8 F8 => ?_
    have g8 := F8.get g7 hr
    wp_walk using zstop, G.wr_ok
    refine wr_at c0 (by simpa using c1) fun rt hrt => ?_
    obtain ⟨u, v, rfl, v0, v1, u0, uv⟩ : ∃ u v : Int, rt = .tup [.int u, .int v] ∧ 0 < v ∧ v < 2147483648 ∧ 0 ≤ u ∧ u ≤ v := by
      simp only [List.mem_cons, List.not_mem_nil, or_false] at hrt
      rcases hrt with rfl | rfl | rfl | rfl
      · exact ⟨_, _, rfl, by omega, by omega, by omega, by omega⟩
      · exact ⟨_, _, rfl, by omega, by omega, by omega, by omega⟩
      · refine ⟨_, _, rfl, by have := q.den_pos; omega, ?_, ?_, ?_⟩
        · have := bq.2
          omega
        · exact Int.le_of_lt (by have : (0 : Rat) < q := q0; rw [Rat.lt_iff] at this; simpa using this)
        · rw [Rat.le_iff] at q1; simpa using q1
      · exact ⟨_, _, rfl, by omega, by omega, by omega, by omega⟩
    have ru := fun S => r_ok (N := N) (S := S) (t := u) (b := v) hN (n := 31) (by omega) (by omega) (by omega) (by omega)
    have bl : Bt (Rat.divInt u v) 33 := bt_div (m := 0) (by omega) (by omega) (by omega)
    have l01 : 0 ≤ Rat.divInt u v ∧ Rat.divInt u v ≤ 1 := by
      by_cases z : u = 0
      · subst z
        rw [Rat.zero_divInt]; exact ⟨Rat.le_refl, by decide⟩
      · have := rat_unit (p := u) (b := v) (by omega) uv
        exact ⟨Rat.le_of_lt this.1, this.2⟩
    have i0 : ∀ S, ixD S (.tup [.int u, .int v]) (.int 0) = some (.int u) := fun _ => rfl
    have i1 : ∀ S, ixD S (.tup [.int u, .int v]) (.int 1) = some (.int v) := fun _ => rfl
    wp_walk using zstop, i0, i1, ru
    generalize Rat.divInt u v = l at *
    refine rateS_w hN P8 fun q' S9 bq' q0' q1' P9 F9 => ?_
    have g9 := F9.get g8 hr
    wp_walk using zstop, G.wr_ok
    refine take_w N P9 (by omega) (by omega) fun d S10 d0 d1 P10 F10 => ?_
    have g10 := F10.get g9 hr
    wp_walk using zstop, G.wr_ok
    refine wr_at d0 (by simpa using d1) fun om hom => ?_
    obtain ⟨o, rfl, ho⟩ : ∃ o : Option Rat, om = oD o ∧ ∀ q, o = some q → Bt q 5 ∧ 0 < q ∧ q ≤ 1 := by
      simp only [List.mem_cons, List.not_mem_nil, or_false] at hom
      rcases hom with rfl | rfl | rfl
      · exact ⟨none, rfl, fun _ z => by cases z⟩
      · exact ⟨some 1, rfl, fun _ z => by cases z; exact ⟨⟨by decide, by decide⟩, by decide, by decide⟩⟩
      · exact ⟨some q', rfl, fun _ z => by cases z; exact ⟨bq', q0', q1'⟩⟩
    wp_walk using zstop, G.wr_ok
    refine take_w N P10 (by omega) (by omega) fun h1 S11 h0 h9 P11 F11 => ?_
    have g11 := F11.get g10 hr
    wp_walk using zstop, addE_int
    refine take_w N P11 (by omega) (by omega) fun z1 S12 z0 z9 P12 F12 => ?_
    have g12 := F12.get g11 hr
    wp_walk using zstop, addE_int
    have hp : S12.length ≠ n := by have := P12.lt; omega
    have hpr : S12.length ≠ r := fun z => by
      have := (List.getElem?_eq_some_iff.mp g12).1
      omega
    generalize hK3 : (strK ["join", "ask", "leave"]).zip [D.tup [rD l, oD o, .int (1 + h1)], .tup [.int (1 + z1)], .tup []] = K3
    have P13 := P12.app [.dk K3]
    have g13 : (S12 ++ [Cell.dk K3])[r]? = some (.lst rows) := (Fr.app (n := n) [.dk K3]).get g12 hr
    have k13 : (S12 ++ [Cell.dk K3])[S12.length]? = some (.dk K3) := by simp
    generalize S12 ++ [Cell.dk K3] = S13 at *
    generalize S12.length = p at *
    refine ⟨by rw [dkD_s k13]; rfl, ?_⟩
    refine take_w N P13 (by omega) (by omega) fun h2 S14 h20 h29 P14 F14 => ?_
    have g14 := F14.get g13 hr
    have k14 := F14.get k13 hp
    wp_walk using zstop, addE_int
    generalize hK4 : (strK ["least", "most", "weight"]).zip [D.tup [rD l], .tup [oD o], .tup [.int (1 + h2)]] = K4
    have P15 := P14.app [.dk K4]
    have g15 : (S14 ++ [Cell.dk K4])[r]? = some (.lst rows) := (Fr.app (n := n) [.dk K4]).get g14 hr
    have k15 : (S14 ++ [Cell.dk K4])[p]? = some (.dk K3) := (Fr.app (n := n) [.dk K4]).get k14 hp
    have z15 : (S14 ++ [Cell.dk K4])[S14.length]? = some (.dk K4) := by simp
    have hpz : p ≠ S14.length := fun z => by
      have := (List.getElem?_eq_some_iff.mp k14).1
      omega
    generalize S14 ++ [Cell.dk K4] = S15 at *
    generalize S14.length = z at *
    rw [uK_s k15 z15 hpz (by subst hK3 hK4; exact (by decide : 3 + 3 ≤ 1000))]
    have P16 := P15.set (.dk (mergeKD K3 K4)) hp
    have g16 : (S15.set p (.dk (mergeKD K3 K4)))[r]? = some (.lst rows) := by rw [List.getElem?_set_ne hpr]; exact g15
    have k16 : (S15.set p (.dk (mergeKD K3 K4)))[p]? = some (.dk (mergeKD K3 K4)) := by
      have := (List.getElem?_eq_some_iff.mp k15).1
      simp [this]
    generalize S15.set p (.dk (mergeKD K3 K4)) = S16 at *
    wp_walk using zstop, G.wr_ok
    refine take_w N P16 (by omega) (by omega) fun z2 S17 z20 z29 P17 F17 => ?_
    have g17 := F17.get g16 hr
    have k17 := F17.get k16 hp
    wp_walk using zstop, addE_int
    refine take_w N P17 (by omega) (by omega) fun y S18 y0 y1 P18 F18 => ?_
    have g18 := F18.get g17 hr
    have k18 := F18.get k17 hp
    wp_walk using zstop, G.wr_ok
    refine wr_at y0 (by simpa using y1) fun wy hwy => ?_
    obtain ⟨by_, rfl⟩ : ∃ b : Bool, wy = .str (wordOf b) := by
      simp only [List.mem_cons, List.not_mem_nil, or_false] at hwy
      rcases hwy with rfl | rfl
      · first | exact ⟨true, rfl⟩ | exact ⟨false, rfl⟩
      · first | exact ⟨true, rfl⟩ | exact ⟨false, rfl⟩
    have hKM : mergeKD K3 K4 = [(.inr "join", D.tup [rD l, oD o, .int (1 + h1)]), (.inr "ask", .tup [.int (1 + z1)]), (.inr "leave", .tup []), (.inr "least", .tup [rD l]), (.inr "most", .tup [oD o]), (.inr "weight", .tup [.int (1 + h2)])] := by
      subst hK3 hK4; rfl
    have st := setE_s (d := D.tup [.int (1 + z2), .str (wordOf by_)]) (y := .str "serve") k18 (q := .inr "serve") rfl (by rw [hKM, sizeLine_eq]; simp)
    have hKS : putKD (mergeKD K3 K4) (.inr "serve") (.tup [.int (1 + z2), .str (wordOf by_)]) = [(.inr "join", D.tup [rD l, oD o, .int (1 + h1)]), (.inr "ask", .tup [.int (1 + z1)]), (.inr "leave", .tup []), (.inr "least", .tup [rD l]), (.inr "most", .tup [oD o]), (.inr "weight", .tup [.int (1 + h2)]), (.inr "serve", .tup [.int (1 + z2), .str (wordOf by_)])] := by
      rw [hKM]; rfl
    rw [hKS] at st
    generalize hKL : [((.inr "join" : L2.Key), D.tup [rD l, oD o, .int (1 + h1)]), (.inr "ask", .tup [.int (1 + z1)]), (.inr "leave", .tup []), (.inr "least", .tup [rD l]), (.inr "most", .tup [oD o]), (.inr "weight", .tup [.int (1 + h2)]), (.inr "serve", .tup [.int (1 + z2), .str (wordOf by_)])] = KL at st
    have P19 := P18.set (.dk KL) hp
    have g19 : (S18.set p (.dk KL))[r]? = some (.lst rows) := by rw [List.getElem?_set_ne hpr]; exact g18
    have k19 : (S18.set p (.dk KL))[p]? = some (.dk KL) := by
      have := (List.getElem?_eq_some_iff.mp k18).1
      simp [this]
    obtain ⟨w', ss, ps, rfl, hv, hso, hnw, gw, hpl, hz, hg⟩ : ∃ (w' : Str) (ss : List So) (ps : List D), wd = .str w' ∧ valD KL (.inr w') = some (.tup ps) ∧ soT.lookup w' = some (.nm :: ss) ∧ w' ≠ "now" ∧ GP (.str w') ∧ ps.length = ss.length ∧ (List.zipWith So.B ss ps).all id = true ∧ ∀ p, p ∈ ps → GP p := by
      have gl := gp_rD (bl.mono (by omega : 33 ≤ 250))
      have go := gp_oD (o := o) fun q e => ((ho q e).1).mono (by omega)
      have lb : leastB (rD l) = true := by
        unfold leastB
        rw [rate_rD, z_rD, Bool.or_eq_true, decide_eq_true_eq, decide_eq_true_eq]
        by_cases c : l = 0
        · exact .inr c
        · exact .inl ⟨by have := l01.1; grind, l01.2⟩
      have ob : mostB (oD o) = true := by
        cases o with
        | none => rfl
        | some q =>
          show rateB (rD q) = true
          rw [rate_rD, decide_eq_true_eq]
          exact (ho q rfl).2
      have wb : ∀ x : Int, 0 ≤ x → x < 99 → wiB 99 (.int (1 + x)) = true := fun x a b => by
        show (decide (1 ≤ 1 + x) && decide (1 + x ≤ 99)) = true
        rw [decide_eq_true (by omega), decide_eq_true (by omega)]; rfl
      have sb : ∀ x : Int, 0 ≤ x → x < 999 → wiB 999 (.int (1 + x)) = true := fun x a b => by
        show (decide (1 ≤ 1 + x) && decide (1 + x ≤ 999)) = true
        rw [decide_eq_true (by omega), decide_eq_true (by omega)]; rfl
      have yb : wayB (.str (wordOf by_)) = true := by cases by_ <;> rfl
      have gy : GP (.str (wordOf by_)) := by cases by_ <;> exact gp_str (by decide +kernel) (by decide +kernel)
      subst hKL
      simp only [List.mem_cons, List.not_mem_nil, or_false] at hwd
      rcases hwd with rfl | rfl | rfl | rfl | rfl | rfl | rfl
      · refine ⟨_, [.le, .mo, .we], _, rfl, rfl, rfl, by decide +kernel, gp_str (by decide +kernel) (by decide +kernel), rfl, ?_, ?_⟩
        · show (leastB (rD l) && (mostB (oD o) && (wiB 99 (.int (1 + h1)) && true))) = true
          rw [lb, ob, wb h1 h0 h9]; rfl
        · intro p hp; simp only [List.mem_cons, List.not_mem_nil, or_false] at hp
          rcases hp with rfl | rfl | rfl
          · exact gl
          · exact go
          · exact gp_int _
      · refine ⟨_, [.si], _, rfl, rfl, rfl, by decide +kernel, gp_str (by decide +kernel) (by decide +kernel), rfl, ?_, ?_⟩
        · show (wiB 999 (.int (1 + z1)) && true) = true
          rw [sb z1 z0 z9]; rfl
        · intro p hp; simp only [List.mem_cons, List.not_mem_nil, or_false] at hp
          subst hp; exact gp_int _
      · exact ⟨_, [], _, rfl, rfl, rfl, by decide +kernel, gp_str (by decide +kernel) (by decide +kernel), rfl, rfl, fun _ z => by cases z⟩
      · refine ⟨_, [.le], _, rfl, rfl, rfl, by decide +kernel, gp_str (by decide +kernel) (by decide +kernel), rfl, ?_, ?_⟩
        · show (leastB (rD l) && true) = true
          rw [lb]; rfl
        · intro p hp; simp only [List.mem_cons, List.not_mem_nil, or_false] at hp
          subst hp; exact gl
      · refine ⟨_, [.mo], _, rfl, rfl, rfl, by decide +kernel, gp_str (by decide +kernel) (by decide +kernel), rfl, ?_, ?_⟩
        · show (mostB (oD o) && true) = true
          rw [ob]; rfl
        · intro p hp; simp only [List.mem_cons, List.not_mem_nil, or_false] at hp
          subst hp; exact go
      · refine ⟨_, [.we], _, rfl, rfl, rfl, by decide +kernel, gp_str (by decide +kernel) (by decide +kernel), rfl, ?_, ?_⟩
        · show (wiB 99 (.int (1 + h2)) && true) = true
          rw [wb h2 h20 h29]; rfl
        · intro p hp; simp only [List.mem_cons, List.not_mem_nil, or_false] at hp
          subst hp; exact gp_int _
      · refine ⟨_, [.si, .wa], _, rfl, rfl, rfl, by decide +kernel, gp_str (by decide +kernel) (by decide +kernel), rfl, ?_, ?_⟩
        · show (wiB 999 (.int (1 + z2)) && (wayB (.str (wordOf by_)) && true)) = true
          rw [sb z2 z20 z29, yb]; rfl
        · intro p hp; simp only [List.mem_cons, List.not_mem_nil, or_false] at hp
          rcases hp with rfl | rfl
          · exact gp_int _
          · exact gy
    have ix := ixE_dk (y := .str w') k19 rfl hv
    have ad : ∀ S, dAddE S (.tup [.str w', rD t, .str nm]) (.tup ps) = some (.tup (.str w' :: rD t :: .str nm :: ps)) := fun S => dAddE_c _ _ (by
      have := soT_len hso
      rw [List.length_cons] at this
      simp only [List.length_cons, List.length_nil]; omega)
    have ap := appR_loc (y := D.tup (.str w' :: rD t :: .str nm :: ps)) g19 (by rw [sizeLine_eq]; omega)
    wp_walk using zstop, st
    wp_walk using ix, ad, ap
    have P20 := P19.set (.lst (rows ++ [D.tup (.str w' :: rD t :: .str nm :: ps)])) hr
    have gn : GP (.str nm) := gp_str hnm.2.2 (by have := hnm.1; omega)
    have nb : nameB (.str nm) = true := by
      have e := name_th (N := 0) gn.th []
      rw [hnm.2.1 0 []] at e
      injection e with e _
      injection e with e
      exact e.symm
    have rk := rows_step hk lt (by grind) (bt.mono (by omega)) (ps := .str nm :: ps) hso hnw gw (by rw [List.length_cons, List.length_cons, hpl]) (by
      show (nameB (.str nm) && (List.zipWith So.B ss ps).all id) = true
      rw [nb, hz]; rfl) fun p hp => by
        rcases List.mem_cons.mp hp with rfl | hp
        · exact gn
        · exact hg p hp
    have isl : isLst (S18.set p (.dk KL)) (.loc r) = true := by
      have : seqD (S18.set p (.dk KL)) (.loc r) = some rows := by (show (match (S18.set p (.dk KL))[r]? with | some (.lst l) => some l | _ => none) = some rows); rw [g19]
      unfold isLst
      rw [this]; rfl
    have hlen : r < (S18.set p (.dk KL)).length := (List.getElem?_eq_some_iff.mp g19).1
    exact ⟨isl, _, t, _, _, _, _, _, _, rk, by grind, bt.mono (by omega), by simp [hl], by omega, P20, List.getElem?_set_self hlen, rfl⟩
  · rintro e S2 ⟨rows, now, x3, x4, x5, x6, x7, x8, hk, n0, bn, hl, hi, P2, g2, rfl⟩
    have ft : fTuple S2 [.loc r] = some (.tup rows) := by
      show (seqD S2 (.loc r)).map D.tup = _
      have : seqD S2 (.loc r) = some rows := by (show (match S2[r]? with | some (.lst l) => some l | _ => none) = some rows); rw [g2]
      rw [this]; rfl
    have ad : ∀ S d, dAddE S (.tup rows) (.tup [d]) = some (.tup (rows ++ [d])) := fun S d => by
      rw [range_len] at hi hl
      cases rows with
      | nil => rfl
      | cons x l => exact dAddE_c _ _ (by rw [hl]; simp; omega)
    wp_walk using zstop, ft
    refine moment_w hN P2 bn (by omega) n0 fun t S3 bt lt P3 F3 => ?_
    wp_walk using ad
    exact h rows now t S3 hk lt (by grind) (bt.mono (by omega)) (by omega) P3
end Wk93
namespace Wk93
open PySem G C
theorem th_pair {a b : Int} (ha : a.natAbs < 1000000) (hb : b.natAbs < 1000000) : Th (.tup [.int a, .int b]) := by
  have k : 1000000 < 2 ^ 250 := Nat.lt_of_lt_of_le (by decide : 1000000 < 2 ^ 20) (Nat.pow_le_pow_right (by omega) (by omega))
  refine ⟨rfl, fun x y e => ?_, fun x y e => ?_, ⟨_, rfl⟩, fun _ e => by cases e⟩
  · cases e; exact ⟨rfl, rfl⟩
  · cases e; exact ⟨Nat.lt_trans ha k, Nat.lt_trans hb k⟩
theorem th_bl (b : Bool) : Th (.bl b) := ⟨rfl, fun _ _ e => (by cases e), fun _ _ e => (by cases e), (by cases b <;> exact ⟨_, rfl⟩), fun _ e => by cases e⟩
theorem odd_part_w {N : Nat} {S : Store} {n : Nat} {p : D} {Q X : QP D} (P : Pool S n) (gp : GP p) (k : ∀ d S', Th d → Pool S' n → Q d S') : Wr (m__law_odd_part N [.loc n, p] S) Q X := by
  have ad : ∀ (S : Store) (a b : List D), a.length + b.length ≤ 1000 → dAddS S (.lst a) (.lst b) = some (.lst (a ++ b)) := fun S a b h => by
    show (if a.length + b.length ≤ sizeLine then some (D.lst (a ++ b)) else none) = _
    rw [if_pos (by rw [sizeLine_eq]; omega)]
  rw [m__law_odd_part, wr_fnM, b__law_odd_part]
  wp_walk using zstop, G.wr_ok
  rw [ad _ _ _ (by simp)]
  wp_walk using zstop, G.wr_ok
  refine take_w N P (by omega) (by omega) fun w S1 w0 w1 P1 F1 => ?_
  wp_walk using zstop, G.wr_ok
  refine wr_at w0 (by simpa using w1) fun d hd => ?_
  refine k d S1 ?_ P1
  simp only [List.mem_append, List.mem_cons, List.not_mem_nil, or_false] at hd
  rcases hd with rfl | rfl | rfl | rfl | rfl | rfl | rfl | rfl | rfl | rfl | rfl | rfl | rfl | rfl | rfl | rfl | rfl | rfl | rfl | rfl | rfl | rfl | rfl | rfl | rfl | rfl | rfl
  · exact gp_non.th
  · exact th_bl _
  · exact th_bl _
  · exact (gp_int _).th
  · exact (gp_int _).th
  · exact (gp_int _).th
  · exact th_str (by decide +kernel) (by decide +kernel)
  · exact th_str (by decide +kernel) (by decide +kernel)
  · exact th_str (by decide +kernel) (by decide +kernel)
  · exact th_str (by decide +kernel) (by decide +kernel)
  · exact ⟨rfl, fun _ _ e => (by cases e), fun _ _ e => (by cases e), ⟨_, rfl⟩, fun _ e => by cases e⟩
  · exact ⟨rfl, fun _ _ e => (by cases e), fun _ _ e => (by cases e), ⟨_, rfl⟩, fun _ e => by cases e⟩
  · exact ⟨rfl, fun _ _ e => (by cases e), fun _ _ e => (by cases e), ⟨_, rfl⟩, fun _ e => by cases e⟩
  · exact th_pair (by decide) (by decide)
  · exact th_pair (by decide) (by decide)
  · exact th_pair (by decide) (by decide)
  · exact th_pair (by decide) (by decide)
  · exact th_pair (by decide) (by decide)
  · exact gp.l1
  · exact (gp_int _).th
  · exact (gp_int _).th
  · exact (gp_int _).th
  · exact (gp_int _).th
  · exact th_str (by decide +kernel) (by decide +kernel)
  · exact th_str (by decide +kernel) (by decide +kernel)
  · refine ⟨rfl, fun x y e => ?_, fun x y e => ?_, ⟨_, rfl⟩, fun _ e => by cases e⟩
    · cases e; exact ⟨rfl, rfl⟩
    · cases e
  · exact th_pair (by decide) (by decide)
theorem rowTh_all {l : List D} (h : ∀ x, x ∈ l → Th x) (hl : l.length ≤ 100) : RowTh (.tup l) :=
  ⟨rfl, fun l' e => (by cases e; exact hl), fun x l' e => (by cases e; exact (h x List.mem_cons_self).sh), fun w l' e => (by cases e; exact fun x hx => h x (List.mem_cons_of_mem _ hx))⟩
theorem rowTh_lst (l : List D) : RowTh (.lst l) := ⟨rfl, fun _ e => (by cases e), fun _ _ e => (by cases e), fun _ _ e => by cases e⟩
theorem add_t {a b : List D} (h : a.length + b.length ≤ 1000) (S : Store) : dAddE S (.tup a) (.tup b) = some (.tup (a ++ b)) := by
  cases a with
  | nil => rfl
  | cons x l => exact dAddE_c _ _ h
theorem sl_to {l : List D} {k : Nat} (h : k < l.length) (S : Store) : slD S (.tup l) none (some (k : Nat)) = some (.tup (l.take k)) := by
  show (if HT.sIx l.length 0 none = 0 ∧ HT.sIx l.length l.length (some (k : Nat)) = l.length then none else some (D.tup (cutL l none (some (k : Nat))))) = _
  rw [HT.sIx_nat, if_neg (by omega)]
  unfold cutL
  rw [HT.sIx_nat, HT.sIx_none, List.drop_zero, show min k l.length - 0 = k by omega]
theorem sl_fr {l : List D} {k : Nat} (h : 0 < k) (hk : k ≤ l.length) (S : Store) : slD S (.tup l) (some (k : Nat)) none = some (.tup (l.drop k)) := by
  show (if HT.sIx l.length 0 (some (k : Nat)) = 0 ∧ HT.sIx l.length l.length none = l.length then none else some (D.tup (cutL l (some (k : Nat)) none))) = _
  rw [HT.sIx_nat, if_neg (by omega)]
  unfold cutL
  rw [HT.sIx_nat, HT.sIx_none, show min k l.length = k by omega, List.take_of_length_le (by simp)]
theorem sl_but {l : List D} (h : 1 ≤ l.length) (S : Store) : slD S (.tup l) none (some (-1)) = some (.tup (l.take (l.length - 1))) := by
  have e : HT.sIx l.length l.length (some (-1)) = l.length - 1 := by
    show (if (-1 : Int) < 0 then ((-1 : Int) + (l.length : Int)).toNat else min (-1 : Int).toNat l.length) = _
    rw [if_pos (by omega)]; omega
  show (if HT.sIx l.length 0 none = 0 ∧ HT.sIx l.length l.length (some (-1)) = l.length then none else some (D.tup (cutL l none (some (-1))))) = _
  rw [e, if_neg (by omega)]
  unfold cutL
  rw [e, HT.sIx_none, List.drop_zero, Nat.sub_zero]
def BentOk (d : D) : Prop := (∃ l, d = .tup l ∧ l.length ≤ 30 ∧ ∀ x, x ∈ l → RowTh x) ∨ ∃ l, d = .lst l
theorem mem_bent {L : List D} {p : Nat} {ys : List D} (hL : ∀ x, x ∈ L → RowTh x) (hy : ∀ y, y ∈ ys → RowTh y) : ∀ x, x ∈ L.take p ++ ys ++ L.drop (p + 1) → RowTh x := by
  intro x hx
  rcases List.mem_append.mp hx with hx | hx
  · rcases List.mem_append.mp hx with hx | hx
    · exact hL x (List.mem_of_mem_take hx)
    · exact hy x hx
  · exact hL x (List.mem_of_mem_drop hx)
theorem bent_w {N : Nat} {S : Store} {n : Nat} {L : List D} {Q X : QP D} (P : Pool S n) (hL : ∀ d, d ∈ L → RowG d) (h1 : 1 ≤ L.length) (h14 : L.length ≤ 14) (k : ∀ d S', BentOk d → Pool S' n → Q d S') : Wr (m__law_bent_log N [.loc n, .tup L] S) Q X := by
  have hT : ∀ d, d ∈ L → RowTh d := fun d hd => (hL d hd).th
  rw [m__law_bent_log, wr_fnM, b__law_bent_log]
  wp_walk using zstop, G.wr_ok
  refine take_w N P (by omega) (by omega) fun w S1 w0 w1 P1 F1 => ?_
  obtain ⟨p, rfl⟩ := Int.eq_ofNat_of_zero_le w0
  have hp : p < L.length := by omega
  wp_walk using zstop, G.wr_ok
  refine take_w N P1 (by omega) (by omega) fun dr S2 d0 d8 P2 F2 => ?_
  have hg : L[p]? = some L[p] := List.getElem?_eq_getElem hp
  have ix : ∀ S, ixD S (.tup L) (.int (p : Nat)) = some L[p] := fun _ => by rw [ixD_tup]; exact L2.atI_nat hg
  have gR := hL _ (List.mem_of_getElem? hg)
  generalize L[p] = row at *
  obtain ⟨wd, l, rfl, l1, l5, gw, gl⟩ := gR.ex
  have sa := sl_to hp
  have sb := sl_fr (l := L) (k := p + 1) (by omega) hp
  have pe : dAddE S2 (.int (p : Nat)) (.int 1) = some (.int ((p + 1 : Nat) : Int)) := rfl
  have gall : ∀ x, x ∈ (D.str wd :: l) → Th x := fun x hx => by
    rcases List.mem_cons.mp hx with rfl | hx
    · exact gw.th
    · exact (gl x hx).th
  have hrl : (D.str wd :: l).length = l.length + 1 := rfl
  have i0 : ∀ S, ixD S (.tup (.str wd :: l)) (.int 0) = some (.str wd) := fun _ => by rw [ixD_tup]; exact L2.atI_nat (j := 0) rfl
  have gpall : ∀ x, x ∈ (D.str wd :: l) → GP x := fun x hx => by
    rcases List.mem_cons.mp hx with rfl | hx
    · exact gw
    · exact gl x hx
  have gRt := gR.th
  clear gR
  generalize (D.str wd :: l) = R at *
  have fin1 : ∀ y, RowTh y → BentOk (.tup (L.take p ++ [y] ++ L.drop (p + 1))) := fun y hy =>
    .inl ⟨_, rfl, by simp; omega, mem_bent hT fun z hz => by rw [List.mem_singleton] at hz; subst hz; exact hy⟩
  have ad1 : ∀ (S : Store) (y : D), dAddE S (.tup (L.take p)) (.tup [y]) = some (.tup (L.take p ++ [y])) := fun S y => add_t (by simp; omega) S
  have ad2 : ∀ (S : Store) (y : D), dAddE S (.tup (L.take p ++ [y])) (.tup (L.drop (p + 1))) = some (.tup (L.take p ++ [y] ++ L.drop (p + 1))) := fun S y => add_t (by simp; omega) S
  have cases8 : dr = 0 ∨ dr = 1 ∨ dr = 2 ∨ dr = 3 ∨ dr = 7 ∨ dr = 4 ∨ dr = 5 ∨ dr = 6 := by omega
  wp_walk using zstop, ix
  rcases cases8 with rfl | rfl | rfl | rfl | rfl | rfl | z
  · have ad : ∀ S, dAddE S (.tup (L.take p)) (.tup (L.drop (p + 1))) = some (.tup (L.take p ++ L.drop (p + 1))) := add_t (by simp; omega)
    wp_walk using sa, pe, sb, ad
    exact k _ _ (.inl ⟨_, rfl, by simp; omega, by have := mem_bent (p := p) (ys := []) hT (fun _ z => by cases z); rwa [List.append_nil] at this⟩) P2
  · have a1 : ∀ (S : Store) (y : D), dAddE S (.tup (L.take p)) (.tup [y, y]) = some (.tup (L.take p ++ [y, y])) := fun S y => add_t (by simp; omega) S
    have a2 : ∀ (S : Store) (y : D), dAddE S (.tup (L.take p ++ [y, y])) (.tup (L.drop (p + 1))) = some (.tup (L.take p ++ [y, y] ++ L.drop (p + 1))) := fun S y => add_t (by simp; omega) S
    wp_walk using sa, pe, sb, a1, a2
    exact k _ _ (.inl ⟨_, rfl, by simp; omega, mem_bent hT fun z hz => by
      simp only [List.mem_cons, List.not_mem_nil, or_false, or_self] at hz
      subst hz; exact gRt⟩) P2
  · have fl : ∀ S, fList S [.tup L] = some (.lst L) := fun _ => rfl
    wp_walk using fl
    exact k _ _ (.inr ⟨_, rfl⟩) P2
  · have a1 : ∀ S, dAddE S (.tup R) (.tup [.int 1]) = some (.tup (R ++ [.int 1])) := add_t (by simp; omega)
    have s1 := sl_but (l := R) (by omega)
    have md : dMod (.int (p : Nat)) (.int 2) = some (.int ((p : Int).fmod 2)) := dMod_int (by omega)
    have m0 : 0 ≤ (p : Int).fmod 2 := by rw [Int.fmod_eq_emod_of_nonneg _ (by omega)]; omega
    have m2 : (p : Int).fmod 2 < 2 := by rw [Int.fmod_eq_emod_of_nonneg _ (by omega)]; omega
    wp_walk using sa, pe, sb, a1, s1, md
    refine wr_at m0 (by simpa using m2) fun d hd => ?_
    wp_walk using sa, pe, sb, ad1, ad2
    refine k _ _ (fin1 _ ?_) P2
    simp only [List.mem_cons, List.not_mem_nil, or_false] at hd
    rcases hd with rfl | rfl
    · refine rowTh_all (fun x hx => ?_) (by simp; omega)
      rcases List.mem_append.mp hx with hx | hx
      · exact gall x hx
      · rw [List.mem_singleton] at hx; subst hx; exact (gp_int 1).th
    · exact rowTh_all (fun x hx => gall x (List.mem_of_mem_take hx)) (by rw [List.length_take]; omega)
  · have fl : ∀ S, fList S [.tup R] = some (.lst R) := fun _ => rfl
    wp_walk using sa, pe, sb, fl, ad1, ad2
    exact k _ _ (fin1 _ (rowTh_lst _)) P2
  · have s2 : ∀ S, slD S (.tup R) (some 2) none = some (.tup (R.drop 2)) := sl_fr (k := 2) (by omega) (by rw [hrl]; omega)
    have a1 : ∀ S, dAddE S (.tup [.str wd, .tup [.int (p : Nat), .int 1]]) (.tup (R.drop 2)) = some (.tup ([.str wd, .tup [.int (p : Nat), .int 1]] ++ R.drop 2)) := add_t (by simp; omega)
    wp_walk using sa, pe, sb, i0, s2, a1, ad1, ad2
    refine k _ _ (fin1 _ (rowTh_all (l := [.str wd, .tup [.int (p : Nat), .int 1]] ++ R.drop 2) (fun x hx => ?_) (by simp; omega))) P2
    rcases List.mem_append.mp hx with hx | hx
    · simp only [List.mem_cons, List.not_mem_nil, or_false] at hx
      rcases hx with rfl | rfl
      · exact gw.th
      · exact th_pair (by omega) (by decide)
    · exact gall x (List.mem_of_mem_drop hx)
  · have e0 : ¬ dr = 0 := by omega
    have e1 : ¬ dr = 1 := by omega
    have e2 : ¬ dr = 2 := by omega
    have e3 : ¬ dr = 3 := by omega
    have e4 : ¬ dr = 4 := by omega
    have e7 : ¬ dr = 7 := by omega
    have fl : ∀ S, fLen S [.tup R] = some (.int (R.length : Nat)) := fun _ => rfl
    wp_walk using e0, e1, e2, e3, e4, e7, fl
    refine take_w N P2 (by omega) (by omega) fun w2 S3 m0 m1 P3 F3 => ?_
    obtain ⟨m, rfl⟩ := Int.eq_ofNat_of_zero_le m0
    have hm : m < R.length := by omega
    have hg2 : R[m]? = some R[m] := List.getElem?_eq_getElem hm
    have ix2 : ∀ S, ixD S (.tup R) (.int (m : Nat)) = some R[m] := fun _ => by rw [ixD_tup]; exact L2.atI_nat hg2
    have gm : GP R[m] := gpall _ (List.mem_of_getElem? hg2)
    have ta := sl_to hm
    have tb := sl_fr (l := R) (k := m + 1) (by omega) hm
    have pm : ∀ S, dAddE S (.int (m : Nat)) (.int 1) = some (.int ((m + 1 : Nat) : Int)) := fun _ => rfl
    generalize R[m] = pp at *
    wp_walk using ta, ix2
    refine odd_part_w P3 gm fun d S4 hd P4 => ?_
    have b1 : ∀ S, dAddE S (.tup (R.take m)) (.tup [d]) = some (.tup (R.take m ++ [d])) := add_t (by simp only [List.length_take, List.length_cons, List.length_nil]; omega)
    have b2 : ∀ S, dAddE S (.tup (R.take m ++ [d])) (.tup (R.drop (m + 1))) = some (.tup (R.take m ++ [d] ++ R.drop (m + 1))) := add_t (by simp only [List.length_append, List.length_take, List.length_drop, List.length_cons, List.length_nil]; omega)
    have pe4 : ∀ S, dAddE S (.int (p : Nat)) (.int 1) = some (.int ((p + 1 : Nat) : Int)) := fun _ => rfl
    wp_walk using b1, b2, pm, tb, sa, pe4, sb, ad1, ad2
    refine k _ _ (fin1 _ (rowTh_all (l := R.take m ++ [d] ++ R.drop (m + 1)) (fun x hx => ?_) (by simp only [List.length_append, List.length_take, List.length_drop, List.length_cons, List.length_nil]; omega))) P4
    rcases List.mem_append.mp hx with hx | hx
    · rcases List.mem_append.mp hx with hx | hx
      · exact gall x (List.mem_of_mem_take hx)
      · rw [List.mem_singleton] at hx; subst hx; exact hd
    · exact gall x (List.mem_of_mem_drop hx)
end Wk93
namespace Wk93
open PySem G C
theorem bent_tg {d : D} (h : (∃ l, d = .tup l ∧ l.length ≤ 100 ∧ ∀ x, x ∈ l → RowTh x) ∨ ∃ l, d = .lst l) : TgTh d := by
  rcases h with ⟨l, rfl, hl, hr⟩ | ⟨l, rfl⟩
  · exact ⟨rfl, fun l' e => by cases e; exact ⟨hl, hr⟩⟩
  · exact ⟨rfl, fun _ e => by cases e⟩
structure LogOk (L : List D) : Prop where
  g : ∀ d, d ∈ L → RowG d
  o : oddB 0 .non L = .non
  l1 : 1 ≤ L.length
  l14 : L.length ≤ 14
theorem is_log_ok {N : Nat} (hN : big N) {L : List D} (h : LogOk L) (S : Store) : m_is_log N [.tup L] S = .ok (.bl true) S ∧ m__law_refused N [.tup L] S = .ok .non S := by
  have hr : ∀ d, d ∈ L → RowTh d := fun d hd => (h.g d hd).th
  have ty : ∀ S, isTy S .tuple (.tup L) = some true := fun _ => rfl
  have fo := first_odd_th (N := N) (S := S) hN hr
  rw [h.o] at fo
  have d1 : dIs .non .non = some (.bl true) := rfl
  obtain ⟨x, ex⟩ := show_log_th (N := N) hN hr (by have := h.l14; omega) h.o S
  constructor
  · apply eq_of_w
    rw [m_is_log, wr_fnM, b_is_log]
    wp_walk using ty, fo, d1
  · apply eq_of_w
    rw [m__law_refused, wr_fnM, b__law_refused]
    wp_walk using ex
theorem now_th : RowTh (.tup [.str "now", .tup [.int 0, .int 1]]) := rowTh_all (fun x hx => by
  simp only [List.mem_cons, List.not_mem_nil, or_false] at hx
  rcases hx with rfl | rfl
  · exact th_str (by decide +kernel) (by decide +kernel)
  · exact th_pair (by decide) (by decide)) (by decide)
theorem tg_one {y : D} (h : RowTh y) : TgTh (.tup [y]) := bent_tg (.inl ⟨_, rfl, by simp, fun x hx => by rw [List.mem_singleton] at hx; subst hx; exact h⟩)
theorem tg_plain {d : D} (h : (shT d).isSome = true) (hn : ∀ l, d ≠ .tup l) : TgTh d := ⟨h, fun l e => absurd e (hn l)⟩
theorem things_tg {L : List D} (h : LogOk L) : ∀ d, d ∈ [D.non, .int 7, .str "now", .lst [], .dic [] [], .tup [], .tup [.tup []], .tup [.tup [.str "now"]], .tup [.tup [.str "now", .tup [.int 0, .int 1]]], .tup [.tup L], .bl true, .lst L] → TgTh d := by
  intro d hd
  simp only [List.mem_cons, List.not_mem_nil, or_false] at hd
  rcases hd with rfl | rfl | rfl | rfl | rfl | rfl | rfl | rfl | rfl | rfl | rfl | rfl
  · exact tg_plain rfl (fun _ e => by cases e)
  · exact tg_plain rfl (fun _ e => by cases e)
  · exact tg_plain rfl (fun _ e => by cases e)
  · exact tg_plain rfl (fun _ e => by cases e)
  · exact tg_plain rfl (fun _ e => by cases e)
  · exact bent_tg (.inl ⟨_, rfl, by simp, fun x hx => by cases hx⟩)
  · exact tg_one (rowTh_all (fun x hx => by cases hx) (by simp))
  · exact tg_one (rowTh_all (fun x hx => by rw [List.mem_singleton] at hx; subst hx; exact th_str (by decide +kernel) (by decide +kernel)) (by simp))
  · exact tg_one now_th
  · refine tg_one ⟨rfl, fun l e => ?_, fun x l e => ?_, fun w l e => ?_⟩
    · cases e; have := h.l14; omega
    · cases e
      obtain ⟨w, l', rfl, _⟩ := (h.g x List.mem_cons_self).ex
      rfl
    · cases e
      obtain ⟨w', l', e', _⟩ := (h.g (.str w) List.mem_cons_self).ex
      cases e'
  · exact tg_plain rfl (fun _ e => by cases e)
  · exact tg_plain rfl (fun _ e => by cases e)
theorem dAddE_t0 (a b : List D) (h : a ≠ []) (hl : a.length + b.length ≤ 1000) (S : Store) : dAddS S (.tup a) (.tup b) = some (.tup (a ++ b)) := by
  cases a with
  | nil => exact absurd rfl h
  | cons x l => exact dAddS_tup (S := S) l b hl
theorem plain : ∀ ns : List Int, ns.length ≤ 63 → ∃ N S, m_law N [.scr (ns.map .int)] [] = .ok (.bl true) S := by
  intro ns hl
  refine ⟨2 ^ 9000, ?_⟩
  have hN : big (2 ^ 9000) := Nat.le_refl _
  generalize 2 ^ 9000 = N at hN ⊢
  suffices h : Wr (m_law N [.scr (ns.map .int)] []) (fun d _ => d = .bl true) nX by
    obtain ⟨d, S, e, rfl⟩ := of_w h
    exact ⟨S, e⟩
  rw [m_law, wr_fnM, b_law]
  wp_walk using List.length_map
  obtain ⟨j, hj, j0, j1⟩ : ∃ j : Int, (if (if (ns.length : Int) < 5 then (ns.length : Int) else 5) > 1 then (if (ns.length : Int) < 5 then (ns.length : Int) else 5) else 1) = j ∧ 0 ≤ j ∧ j ≤ 64 := ⟨_, rfl, by split <;> omega, by split <;> (try split) <;> omega⟩
  rw [hj]
  refine ⟨by omega, ?_⟩
  refine for_i (fun e _ => ∃ x1 x2 x3 x4 x5 x6, e = [some (.scr (ns.map .int)), x1, x2, x3, x4, x5, x6]) ⟨_, _, _, _, _, _, rfl⟩ ?_ (fun e S' _ => rfl)
  rintro d e S hd ⟨x1, x2, x3, x4, x5, x6, rfl⟩
  obtain ⟨k, rfl, k0, k1⟩ := range_mem hd
  wp_walk using zstop, G.wr_ok
  refine cell_w N ns k k0 (by omega) fun x => ?_
  wp_walk using zstop, G.wr_ok
  refine pool_w N x fun c P => ?_
  generalize S ++ [c] = S1 at P ⊢
  generalize S.length = n at P ⊢
  wp_walk using zstop, G.wr_ok
  refine drawn_w hN P fun rows now t S2 hk lt t0 bt hlen P2 => ?_
  have hL : LogOk (rows ++ [.tup [.str "now", rD t]]) := by
    refine ⟨fun d hd => ?_, rows_end hk lt t0, by simp, by simp; omega⟩
    rcases List.mem_append.mp hd with hd | hd
    · exact hk.g d hd
    · rw [List.mem_singleton] at hd
      subst hd
      exact ⟨"now", [rD t], rfl, by simp, by simp, gp_str (by decide +kernel) (by decide +kernel), fun p hp => by rw [List.mem_singleton] at hp; subst hp; exact gp_rD bt⟩
  generalize rows ++ [D.tup [.str "now", rD t]] = L at hL ⊢
  have il := fun S => (is_log_ok (N := N) hN hL S).1
  have rf := fun S => (is_log_ok (N := N) hN hL S).2
  have b1 : dIsNotB (.bl true) (.bl true) = some (.bl false) := rfl
  have b2 : dIsNot .non .non = some (.bl false) := rfl
  wp_walk using zstop, G.wr_ok
  rw [ws_sIf]
  wp_walk using zstop, il, b1, rf, b2
  refine ⟨by decide, ?_⟩
  refine for_i (fun e S' => Pool S' n ∧ ∃ x4 x5 x6, e = [some (.scr (ns.map .int)), some (.int k), some (.loc n), some (.tup L), x4, x5, x6]) ⟨P2, _, _, _, rfl⟩ ?_ ?_
  · clear x4 x5 x6
    rintro d e S3 hd ⟨P3, x4, x5, x6, rfl⟩
    obtain ⟨k2, rfl, _, _⟩ := range_mem hd
    wp_walk using zstop, G.wr_ok
    refine bent_w P3 hL.g hL.l1 hL.l14 fun b S4 hb P4 => ?_
    wp_walk using zstop, G.wr_ok
    rw [ws_sIf]
    wp_walk using zstop, G.wr_ok
    refine take_w N P4 (by omega) (by omega) fun w S5 w0 w1 P5 F5 => ?_
    rcases hb with ⟨l, rfl, hl30, hlr⟩ | ⟨l, rfl⟩
    · have ty : ∀ S, isTy S .tuple (.tup l) = some true := fun _ => rfl
      have tg : TgTh (.tup l) := bent_tg (.inl ⟨l, rfl, by omega, hlr⟩)
      by_cases c0 : w = 0
      · rcases List.eq_nil_or_concat l with rfl | ⟨l', y, rfl⟩
        · have e1 : dNeU (.tup []) (.tup []) = some (.bl false) := rfl
          wp_walk using c0, ty, e1
          refine thing_w hN tg fun T => ?_
          wp_walk using G.wr_ok
          exact ⟨P5.app T, _, _, _, rfl⟩
        · rw [List.concat_eq_append] at *
          have e1 : dNeU (.tup (l' ++ [y])) (.tup []) = some (.bl true) := by
            show some (D.bl (!(l' ++ [y]).isEmpty)) = _
            simp
          have ix : ∀ S, ixD S (.tup (l' ++ [y])) (.int (-1)) = some y := fun _ => by rw [ixD_tup]; exact L2.atI_last _ _
          have hy := hlr y (by simp)
          have tyy : ∀ S, isTy S .tuple y = some (isB .tuple y) := fun S => isTy_of hy.sh .tuple S
          cases ey : isB .tuple y with
          | false =>
            rw [ey] at tyy
            wp_walk using c0, ty, e1, ix, tyy
            refine thing_w hN tg fun T => ?_
            wp_walk using G.wr_ok
            exact ⟨P5.app T, _, _, _, rfl⟩
          | true =>
            rw [ey] at tyy
            have sl : ∀ S, slDA S (.tup (l' ++ [y])) (some (-1)) none = some (.tup (cutL (l' ++ [y]) (some (-1)) none)) := fun _ => rfl
            have cm : ∀ x, x ∈ cutL (l' ++ [y]) (some (-1)) none → x ∈ l' ++ [y] := fun x hx => by
              unfold cutL at hx
              exact List.mem_of_mem_drop (List.mem_of_mem_take hx)
            have cl : (cutL (l' ++ [y]) (some (-1)) none).length ≤ 30 := by
              unfold cutL
              rw [List.length_take, List.length_drop]; omega
            generalize cutL (l' ++ [y]) (some (-1)) none = cc at *
            have ad : ∀ S, dAddS S (.tup (l' ++ [y])) (.tup cc) = some (.tup (l' ++ [y] ++ cc)) := fun S => by
              have ht := dAddE_t0 (l' ++ [y]) cc (by simp) (by omega) S
              exact ht
            have tg2 : TgTh (.tup (l' ++ [y] ++ cc)) := bent_tg (.inl ⟨_, rfl, by rw [List.length_append]; omega, fun x hx => by
              rcases List.mem_append.mp hx with hx | hx
              · exact hlr x hx
              · exact hlr x (cm x hx)⟩)
            wp_walk using c0, ty, e1, ix, tyy, sl, ad
            refine thing_w hN tg2 fun T => ?_
            wp_walk using G.wr_ok
            exact ⟨P5.app T, _, _, _, rfl⟩
      · wp_walk using c0
        refine thing_w hN tg fun T => ?_
        wp_walk using G.wr_ok
        exact ⟨P5.app T, _, _, _, rfl⟩
    · have ty : ∀ S, isTy S .tuple (.lst l) = some false := fun _ => rfl
      have tg : TgTh (.lst l) := bent_tg (.inr ⟨l, rfl⟩)
      by_cases c0 : w = 0
      · wp_walk using c0, ty
        refine thing_w hN tg fun T => ?_
        wp_walk using G.wr_ok
        exact ⟨P5.app T, _, _, _, rfl⟩
      · wp_walk using c0
        refine thing_w hN tg fun T => ?_
        wp_walk using G.wr_ok
        exact ⟨P5.app T, _, _, _, rfl⟩
  · clear x4 x5 x6
    rintro e S3 ⟨P3, x4, x5, x6, rfl⟩
    have fl : ∀ S, fList S [.tup L] = some (.lst L) := fun _ => rfl
    wp_walk using zstop, fl
    refine for_i (fun e S' => Pool S' n ∧ ∃ x4 x5 x6, e = [some (.scr (ns.map .int)), some (.int k), some (.loc n), some (.tup L), x4, x5, x6]) ⟨P3, _, _, _, rfl⟩ ?_ ?_
    · clear x4 x5 x6
      rintro d e S4 hd ⟨P4, x4, x5, x6, rfl⟩
      have tg := things_tg hL d hd
      wp_walk using zstop, G.wr_ok
      rw [ws_sIf]
      wp_walk using G.wr_ok
      refine thing_w hN tg fun T => ?_
      wp_walk using G.wr_ok
      exact ⟨P4.app T, _, _, _, rfl⟩
    · clear x4 x5 x6
      rintro e S4 ⟨P4, x4, x5, x6, rfl⟩
      have mu : dMulT (.tup [.tup [.str "now", .tup [.int 0, .int 1]]]) (.int 2) = some (.tup [.tup [.str "now", .tup [.int 0, .int 1]], .tup [.str "now", .tup [.int 0, .int 1]]]) := rfl
      have tg : TgTh (.tup [.tup [.str "now", .tup [.int 0, .int 1]], .tup [.str "now", .tup [.int 0, .int 1]]]) := bent_tg (.inl ⟨_, rfl, by simp, fun x hx => by
        simp only [List.mem_cons, List.not_mem_nil, or_false, or_self] at hx
        subst hx; exact now_th⟩)
      wp_walk using zstop, G.wr_ok
      rw [ws_sIf]
      wp_walk using il, b1, mu
      refine thing_w hN tg fun T => ?_
      wp_walk using G.wr_ok
      exact ⟨_, _, _, _, _, _, rfl⟩
end Wk93
open PySem PySem.W PySem.Calls PyProof.Rows
set_option maxRecDepth 100000 in
set_option maxHeartbeats 0 in
theorem PySem.Challenge.cw_sharetags_k93_forms_of_logs_holds : PySem.Challenge.rw_sharetags_k93_forms_of_logs.Holds := by
  w_on; o_law
  refine HandSHeadRun.head_any (r := OpenLaw.row PySem.Challenge.rw_sharetags_k93_forms_of_logs) (q := Wk93.qv) (H := G.hookU 5 Wk93.fxAll Wk93.fnAll (Wk93.tsL.map (·.1)) Wk93.tdL) (ob := G.obUT 5 Wk93.fxAll Wk93.fnAll (Wk93.tsL.map (·.1)) Wk93.tdL) (M := 100000) (loose := Wk93.nmAll) (d := HandSHeadRun.topDef (OpenLaw.row PySem.Challenge.rw_sharetags_k93_forms_of_logs).prog 63) (kwd := []) (G.obUT_eq 5 _ _ _ _)
    (by kernel_rfl) (fun s => by kernel_rfl) ?hr (by kernel_rfl) (by kernel_rfl) (by kernel_rfl) (by rfl) (by first | assumption | decide +kernel) (by decide +kernel) ⟨rfl, rfl, rfl, rfl, rfl, by decide +kernel⟩ ?hw ?hc
  case hr => exact Wk93.run
  case hw => w_witness2
  case hc =>
    refine G.walk_endU (l := PySem.Challenge.rw_sharetags_k93_forms_of_logs) (k := 12) (x := "_law_script") (ts := Wk93.tsL) (td := Wk93.tdL) rfl (by kernel_rfl) (by kernel_rfl) ⟨rfl, by decide, by decide⟩ (fun w h Y => Y) ?F
    intro w mg fa h K KX c cw Y hmg
    exact Wk93.all_mk Wk93.plain hmg KX Y c cw
