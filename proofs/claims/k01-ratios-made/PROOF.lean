import PyProof.Rows.All
import Wide.All
import OpenK.AllK
import Wide.FinOn
import HandS.ForMost
import HandS.ForExc
import HandS.Wide
import HandS.IsInst
import HandS.ExcIs
import HandS.CallSlots
import HandS.Flow
import HandS.Defaults
import HandS.MakeKw
import PySem.Challenge.RW_sharetags_k01_ratios_made
set_option Elab.async false
set_option linter.all false
set_option maxRecDepth 100000
set_option maxHeartbeats 8000000
/-! ## A. the data of the mirror, the store, how the heap holds them -/
namespace G
open PySem L2

inductive D where
  | non | bl (b : Bool) | int (i : Int) | str (x : Str)
  | tup (l : List D) | lst (l : List D) | scr (l : List D) | dic (ks : List Key) (l : List D) | loc (n : Nat)
  | exc (c : Nat) (fs : List (Nat × D))
  | ins (c : Nat) (fs : List (Nat × D))

inductive Cell where
  | dead | lst (l : List D) | dk (kvs : List (Key × D)) | dt (kvs : List (List Key × D)) | obj (c : Nat) (fs : List (Nat × D))

/-- the package's classes and attributes by numbers -/
def cnames : List String := ["TagError", "LostError", "ShareError", "NoRatio", "NoText", "NoName", "NoRate", "NoWeight", "NoNumber", "NoTime", "NoTags", "NoSize", "NoClient", "NoLeast", "NoRivals", "NoTruth", "NoDeeds", "NoLog", "NoStretch", "NoLess", "NoPlan", "NoLeasts", "NoWord", "NoRow", "NoOne", "NoAsk", "NoPlace", "Nought", "Stands", "TooMany", "TooMuch", "Full", "Past", "Client", "Bookings", "Seat", "Room", "Server", "Fleet", "Desk", "Tale", "Walk", "Chair", "Replay", "Served", "Glance", "Look"]
def fnames : List String := ["name", "least", "most", "weight", "row", "rate", "place", "taken", "time", "lines", "at", "begins", "begun", "bookings", "books", "by", "came", "chairs", "clocks", "coming", "due_time", "fates", "gate", "heft", "hefts", "held", "here", "kept", "leasts", "lifts", "limit", "line", "marks", "mosts", "number", "rates", "room", "rows", "seats", "ships", "sizes", "speed", "tales", "told", "turned", "until", "why"]
def cname (c : Nat) : Str := Str.ofString (cnames.getD c "")
def fname (c : Nat) : Str := Str.ofString (fnames.getD c "")
abbrev Store := List Cell
abbrev En := List (Option D)

structure Wo where
  al : List Addr
  st : Store
  hp : Hp
  /-- what is being built and nobody sees -/
  hid : List Addr

/-- a lives as a cell of the store -/
def Zl (w : Wo) (a : Addr) : Prop := (∃ (n : Nat) (c : Cell), w.al[n]? = some a ∧ w.st[n]? = some c ∧ c ≠ Cell.dead) ∨ a ∈ w.hid
def StO (w : Wo) (a : Addr) (u : HO) : Prop := Rd w.hp a u ∧ ¬ Zl w a
def StP (w : Wo) (a : Addr) (u : HO) : Prop := w.hp a = some u ∧ ¬ Zl w a
def KtT (K : PySem.W.Frag) (a : Addr) (vs : List V) : Prop :=
  ∃ (o : Obj) (its : Array Value) (n : Nat), K.lookup a = some o ∧ o.cls = .type "tuple" ∧ o.data = .seq its n ∧ its.size ≤ sizeLine ∧ Vals vs its.toList
def KtL (K : PySem.W.Frag) (a : Addr) (vs : List V) : Prop :=
  ∃ (o : Obj) (its : Array Value) (n : Nat), K.lookup a = some o ∧ o.cls = .type "list" ∧ o.dict = none ∧ o.data = .seq its n ∧ its.size ≤ sizeLine ∧ Vals vs its.toList
def StT (K : PySem.W.Frag) (w : Wo) (a : Addr) (vs : List V) : Prop := StO w a (.tup vs) ∨ KtT K a vs
def StL (K : PySem.W.Frag) (w : Wo) (a : Addr) (vs : List V) : Prop := StO w a (.lst vs) ∨ KtL K a vs
theorem StT.sq {K : PySem.W.Frag} {w : Wo} {a : Addr} {vs : List V} (h : StT K w a vs) : SqT K w.hp a vs := by
  rcases h with h | h
  · exact .inl h.1
  · exact .inr h
theorem StL.sq {K : PySem.W.Frag} {w : Wo} {a : Addr} {vs : List V} (h : StL K w a vs) : SqL K w.hp a vs := by
  rcases h with h | h
  · exact .inl h.1
  · exact .inr h
/-- what is known of an exception's object -/
def ExcO (a : Addr) (cls : Value) (dd : Option Addr) : HO := .ext fun h => ∃ o vs, h.get? a = some o ∧ o.cls = cls ∧ o.dict = dd ∧ o.data = .fields vs
def XfO (w : Wo) (dd : Option Addr) (gs : List (Str × V)) : Prop := (gs = [] ∧ dd = none) ∨ (gs ≠ [] ∧ ∃ x, dd = some x ∧ StP w x (.xd gs))

mutual
inductive RepD (K : PySem.W.Frag) (mg : Str → Option Value) (w : Wo) : D → V → Prop where
  | non : RepD K mg w .non .non
  | bl (b : Bool) : RepD K mg w (.bl b) (.bl b)
  | int (i : Int) : RepD K mg w (.int i) (.int i)
  | str (x : Str) : RepD K mg w (.str x) (.str x)
  | tup {l : List D} {a : Addr} {vs : List V} : StT K w a vs → RepL K mg w l vs → RepD K mg w (.tup l) (.ref a)
  | lst {l : List D} {a : Addr} {vs : List V} : StP w a (.lst vs) → RepL K mg w l vs → RepD K mg w (.lst l) (.ref a)
  | scr {l : List D} {a : Addr} {vs : List V} : StL K w a vs → RepL K mg w l vs → RepD K mg w (.scr l) (.ref a)
  | dic {ks : List Key} {l : List D} {a : Addr} {vs : List V} : StP w a (.dK (ks.zip vs)) → ks.length = vs.length → RepL K mg w l vs → RepD K mg w (.dic ks l) (.ref a)
  | loc {n : Nat} {a : Addr} : w.al[n]? = some a → RepD K mg w (.loc n) (.ref a)
  | ins {c : Nat} {C a dx : Addr} {fs : List (Nat × D)} {gs : List (Str × V)} : mg (cname c) = some (.ref C) → StP w a (.ins C dx gs) → RepF K mg w fs gs → RepD K mg w (.ins c fs) (.ref a)
  | exc {c : Nat} {C a : Addr} {dd : Option Addr} {fs : List (Nat × D)} {gs : List (Str × V)} : mg (cname c) = some (.ref C) → StP w a (ExcO a (.ref C) dd) → XfO w dd gs → RepF K mg w fs gs → RepD K mg w (.exc c fs) (.ref a)
inductive RepL (K : PySem.W.Frag) (mg : Str → Option Value) (w : Wo) : List D → List V → Prop where
  | nil : RepL K mg w [] []
  | cons {d : D} {v : V} {l : List D} {vs : List V} : RepD K mg w d v → RepL K mg w l vs → RepL K mg w (d :: l) (v :: vs)
inductive RepF (K : PySem.W.Frag) (mg : Str → Option Value) (w : Wo) : List (Nat × D) → List (Str × V) → Prop where
  | nil : RepF K mg w [] []
  | cons {f : Nat} {d : D} {v : V} {l : List (Nat × D)} {vs : List (Str × V)} : RepD K mg w d v → RepF K mg w l vs → RepF K mg w ((f, d) :: l) ((fname f, v) :: vs)
end

/-- what stood is seen as it was -/
structure Ex0 (w w' : Wo) : Prop where
  al : ∃ t, w'.al = w.al ++ t
  zz : ∀ a, Zl w' a → Zl w a ∨ w.hp a = none
  keep : ∀ a o, w.hp a = some o → ¬ Zl w a → w'.hp a = some o
  tr : ∀ a o, w.hp a = some o → ∃ o', w'.hp a = some o'
structure Ext (w w' : Wo) : Prop extends Ex0 w w' where
  hid : w'.hid = w.hid
  kh : ∀ a, a ∈ w.hid → w'.hp a = w.hp a

theorem Ex0.refl (w : Wo) : Ex0 w w := ⟨⟨[], by simp⟩, fun _ h => .inl h, fun _ _ h _ => h, fun _ o h => ⟨o, h⟩⟩
theorem Ex0.trans {w w1 w2 : Wo} (a : Ex0 w w1) (b : Ex0 w1 w2) : Ex0 w w2 := by
  refine ⟨?_, fun x h => ?_, fun x o h z => ?_, fun x o h => ?_⟩
  · obtain ⟨t, e⟩ := a.al
    obtain ⟨u, f⟩ := b.al
    exact ⟨t ++ u, by rw [f, e, List.append_assoc]⟩
  · rcases b.zz x h with h | h
    · exact a.zz x h
    · refine .inr ?_
      cases e : w.hp x with
      | none => rfl
      | some o =>
        obtain ⟨o', f⟩ := a.tr x o e
        rw [f] at h; cases h
  · refine b.keep x o (a.keep x o h z) fun q => ?_
    rcases a.zz x q with q | q
    · exact z q
    · rw [h] at q; cases q
  · obtain ⟨o', f⟩ := a.tr x o h
    exact b.tr x o' f
theorem Ext.refl (w : Wo) : Ext w w := ⟨Ex0.refl w, rfl, fun _ _ => rfl⟩
theorem Ext.trans {w w1 w2 : Wo} (a : Ext w w1) (b : Ext w1 w2) : Ext w w2 :=
  ⟨a.toEx0.trans b.toEx0, b.hid.trans a.hid, fun x h => (b.kh x (by rw [a.hid]; exact h)).trans (a.kh x h)⟩

theorem Rd.some {H : Hp} {a : Addr} {u : HO} (h : Rd H a u) : ∃ o, H a = some o := by
  rcases h with h | ⟨o, h⟩
  · exact ⟨_, h⟩
  · exact ⟨_, h⟩
theorem StO.ext {w w' : Wo} {a : Addr} {u : HO} (h : StO w a u) (e : Ex0 w w') : StO w' a u := by
  obtain ⟨r, z⟩ := h
  obtain ⟨o, ho⟩ := Rd.some r
  refine ⟨?_, fun q => ?_⟩
  · rcases r with r | ⟨o', r⟩
    · exact .inl (e.keep _ _ r z)
    · exact .inr ⟨o', e.keep _ _ r z⟩
  · rcases e.zz a q with q | q
    · exact z q
    · rw [ho] at q; cases q
theorem StP.ext {w w' : Wo} {a : Addr} {u : HO} (h : StP w a u) (e : Ex0 w w') : StP w' a u := by
  obtain ⟨r, z⟩ := h
  refine ⟨e.keep _ _ r z, fun q => ?_⟩
  rcases e.zz a q with q | q
  · exact z q
  · rw [r] at q; cases q
theorem StT.ext {K : PySem.W.Frag} {w w' : Wo} {a : Addr} {vs : List V} (h : StT K w a vs) (e : Ex0 w w') : StT K w' a vs := h.imp (fun h => h.ext e) id
theorem StL.ext {K : PySem.W.Frag} {w w' : Wo} {a : Addr} {vs : List V} (h : StL K w a vs) (e : Ex0 w w') : StL K w' a vs := h.imp (fun h => h.ext e) id
theorem XfO.ext {w w' : Wo} {dd : Option Addr} {gs : List (Str × V)} (h : XfO w dd gs) (e : Ex0 w w') : XfO w' dd gs := h.imp id fun ⟨z, x, q, s⟩ => ⟨z, x, q, s.ext e⟩
theorem Ex0.get {w w' : Wo} (e : Ex0 w w') {n : Nat} {a : Addr} (h : w.al[n]? = some a) : w'.al[n]? = some a := by
  obtain ⟨t, f⟩ := e.al
  rw [f, List.getElem?_append_left (List.getElem?_eq_some_iff.mp h).1]
  exact h

variable {K : PySem.W.Frag} {mg : Str → Option Value} {w w' : Wo}
mutual
theorem RepD.ext {d : D} {v : V} : RepD K mg w d v → Ex0 w w' → RepD K mg w' d v
  | .non, _ => .non
  | .bl b, _ => .bl b
  | .int i, _ => .int i
  | .str x, _ => .str x
  | .tup h r, e => .tup (h.ext e) (RepL.ext r e)
  | .lst h r, e => .lst (h.ext e) (RepL.ext r e)
  | .scr h r, e => .scr (h.ext e) (RepL.ext r e)
  | .dic h z r, e => .dic (h.ext e) z (RepL.ext r e)
  | .loc h, e => .loc (e.get h)
  | .ins g h r, e => .ins g (h.ext e) (RepF.ext r e)
  | .exc g h x r, e => .exc g (h.ext e) (x.ext e) (RepF.ext r e)
theorem RepL.ext {l : List D} {vs : List V} : RepL K mg w l vs → Ex0 w w' → RepL K mg w' l vs
  | .nil, _ => .nil
  | .cons r t, e => .cons (RepD.ext r e) (RepL.ext t e)
theorem RepF.ext {l : List (Nat × D)} {vs : List (Str × V)} : RepF K mg w l vs → Ex0 w w' → RepF K mg w' l vs
  | .nil, _ => .nil
  | .cons r t, e => .cons (RepD.ext r e) (RepF.ext t e)
end

theorem RepL.length {l : List D} {vs : List V} : RepL K mg w l vs → l.length = vs.length
  | .nil => rfl
  | .cons _ t => by rw [List.length_cons, List.length_cons, RepL.length t]
theorem RepL.get {l : List D} {vs : List V} {i : Nat} {d : D} : RepL K mg w l vs → l[i]? = some d → ∃ v, vs[i]? = some v ∧ RepD K mg w d v
  | .nil, h => by simp at h
  | .cons r t, h => by
    cases i with
    | zero => simp at h; subst h; exact ⟨_, by simp, r⟩
    | succ i =>
      obtain ⟨v, e, q⟩ := RepL.get (i := i) t (by simpa using h)
      exact ⟨v, by simpa using e, q⟩
theorem RepL.getV {l : List D} {vs : List V} {i : Nat} {v : V} : RepL K mg w l vs → vs[i]? = some v → ∃ d, l[i]? = some d ∧ RepD K mg w d v
  | .nil, h => by simp at h
  | .cons r t, h => by
    cases i with
    | zero => simp at h; subst h; exact ⟨_, by simp, r⟩
    | succ i =>
      obtain ⟨v, e, q⟩ := RepL.getV (i := i) t (by simpa using h)
      exact ⟨v, by simpa using e, q⟩
theorem RepL.append {l m : List D} {vs us : List V} : RepL K mg w l vs → RepL K mg w m us → RepL K mg w (l ++ m) (vs ++ us)
  | .nil, h => h
  | .cons r t, h => .cons r (RepL.append t h)
theorem RepL.set {l : List D} {vs : List V} {d : D} {v : V} (q : RepD K mg w d v) : ∀ (i : Nat), RepL K mg w l vs → RepL K mg w (l.set i d) (vs.set i v)
  | _, .nil => .nil
  | 0, .cons _ t => .cons q t
  | i + 1, .cons r t => .cons r (RepL.set q i t)
theorem RepL.take {l : List D} {vs : List V} : ∀ (n : Nat), RepL K mg w l vs → RepL K mg w (l.take n) (vs.take n)
  | 0, _ => by simp only [List.take_zero]; exact .nil
  | _ + 1, .nil => .nil
  | n + 1, .cons r t => .cons r (RepL.take n t)
theorem RepL.drop {l : List D} {vs : List V} : ∀ (n : Nat), RepL K mg w l vs → RepL K mg w (l.drop n) (vs.drop n)
  | 0, h => h
  | _ + 1, .nil => .nil
  | n + 1, .cons _ t => RepL.drop n t
theorem RepL.rev {l : List D} {vs : List V} (h : RepL K mg w l vs) : RepL K mg w l.reverse vs.reverse := by
  induction l generalizing vs with
  | nil => cases h; exact .nil
  | cons d l ih =>
    cases h with
    | cons r t =>
      rw [List.reverse_cons, List.reverse_cons]
      exact (ih t).append (.cons r .nil)

/-! ### the store stands in the heap -/
inductive RepK (κ : Type) (K : PySem.W.Frag) (mg : Str → Option Value) (w : Wo) : List (κ × D) → List (κ × V) → Prop where
  | nil : RepK κ K mg w [] []
  | cons {f : κ} {d : D} {v : V} {l : List (κ × D)} {vs : List (κ × V)} : RepD K mg w d v → RepK κ K mg w l vs → RepK κ K mg w ((f, d) :: l) ((f, v) :: vs)
theorem RepK.ext {κ : Type} {l : List (κ × D)} {vs : List (κ × V)} : RepK κ K mg w l vs → Ex0 w w' → RepK κ K mg w' l vs
  | .nil, _ => .nil
  | .cons r t, e => .cons (r.ext e) (RepK.ext t e)
def CellR (K : PySem.W.Frag) (mg : Str → Option Value) (w : Wo) (a : Addr) : Cell → Prop
  | .dead => True
  | .lst l => ∃ vs, w.hp a = some (.lst vs) ∧ RepL K mg w l vs
  | .dk kvs => ∃ us, w.hp a = some (.dK us) ∧ RepK Key K mg w kvs us
  | .dt kvs => ∃ us, w.hp a = some (.dT us) ∧ RepK (List Key) K mg w kvs us
  | .obj c fs => ∃ C dx gs, mg (cname c) = some (.ref C) ∧ w.hp a = some (.ins C dx gs) ∧ RepF K mg w fs gs
/-- a cell at an address that the heap keeps -/
theorem CellR.ext {a : Addr} {c : Cell} (h : CellR K mg w a c) (e : Ex0 w w') (k : w'.hp a = w.hp a) : CellR K mg w' a c := by
  cases c with
  | dead => trivial
  | lst l => obtain ⟨vs, p, r⟩ := h; exact ⟨vs, k.trans p, r.ext e⟩
  | dk l => obtain ⟨vs, p, r⟩ := h; exact ⟨vs, k.trans p, r.ext e⟩
  | dt l => obtain ⟨vs, p, r⟩ := h; exact ⟨vs, k.trans p, r.ext e⟩
  | obj c l => obtain ⟨C, dx, gs, g, p, r⟩ := h; exact ⟨C, dx, gs, g, k.trans p, r.ext e⟩
structure Rep (K : PySem.W.Frag) (mg : Str → Option Value) (w : Wo) : Prop where
  len : w.al.length = w.st.length
  nd : w.al.Nodup
  tr : ∀ a, a ∈ w.al → ∃ o, w.hp a = some o
  cell : ∀ (n : Nat) (a : Addr) (c : Cell), w.al[n]? = some a → w.st[n]? = some c → CellR K mg w a c
  hid : ∀ a, a ∈ w.hid → a ∉ w.al ∧ ∃ o, w.hp a = some o

theorem nd_get {l : List Addr} (h : l.Nodup) {n m : Nat} {a : Addr} (e : l[n]? = some a) (f : l[m]? = some a) : n = m := by
  obtain ⟨h1, e1⟩ := List.getElem?_eq_some_iff.mp e
  obtain ⟨h2, e2⟩ := List.getElem?_eq_some_iff.mp f
  exact (List.getElem_inj h).mp (e1.trans e2.symm)

/-- a new object that never changes -/
def Wo.put (w : Wo) (p : Addr) (o : HO) : Wo := { w with hp := upd w.hp p o }
theorem Rep.not_mem (R : Rep K mg w) {p : Addr} (hn : w.hp p = none) : p ∉ w.al := fun h => by
  obtain ⟨o, e⟩ := R.tr p h
  rw [hn] at e; cases e
theorem Rep.not_hid (R : Rep K mg w) {p : Addr} (hn : w.hp p = none) : p ∉ w.hid := fun h => by
  obtain ⟨_, o, e⟩ := R.hid p h
  rw [hn] at e; cases e
theorem put_ext (R : Rep K mg w) {p : Addr} {o : HO} (hn : w.hp p = none) : Ext w (w.put p o) := by
  refine ⟨⟨⟨[], by simp [Wo.put]⟩, fun a h => .inl h, fun a u h _ => ?_, fun a u h => ⟨u, ?_⟩⟩, rfl, fun a h => ?_⟩
  · show upd w.hp p o a = _
    rw [upd_ne (ne_of_none h hn)]; exact h
  · show upd w.hp p o a = _
    rw [upd_ne (ne_of_none h hn)]; exact h
  · show upd w.hp p o a = _
    exact upd_ne fun e => R.not_hid hn (e ▸ h)
theorem Rep.put (R : Rep K mg w) {p : Addr} {o : HO} (hn : w.hp p = none) : Rep K mg (w.put p o) := by
  have X := put_ext (o := o) R hn
  refine ⟨R.len, R.nd, fun a h => ?_, fun n a c h1 h2 => ?_, fun a h => ?_⟩
  · obtain ⟨u, e⟩ := R.tr a h
    exact X.tr a u e
  · have hm : a ∈ w.al := List.mem_of_getElem? h1
    refine (R.cell n a c h1 h2).ext X.toEx0 ?_
    show upd w.hp p o a = _
    exact upd_ne fun z => R.not_mem hn (z ▸ hm)
  · obtain ⟨h1, u, e⟩ := R.hid a h
    exact ⟨h1, X.tr a u e⟩
theorem put_st (R : Rep K mg w) {p : Addr} {o : HO} (hn : w.hp p = none) : StP (w.put p o) p o := by
  refine ⟨upd_same, fun z => ?_⟩
  rcases z with ⟨n, c, h1, _, _⟩ | z
  · exact R.not_mem hn (List.mem_of_getElem? h1)
  · exact R.not_hid hn z
theorem StP.o {w : Wo} {a : Addr} {u : HO} (h : StP w a u) : StO w a u := ⟨.inl h.1, h.2⟩

/-- a new cell -/
def Wo.new (w : Wo) (p : Addr) (o : HO) (c : Cell) : Wo := ⟨w.al ++ [p], w.st ++ [c], upd w.hp p o, w.hid⟩
theorem new_ext (R : Rep K mg w) {p : Addr} {o : HO} {c : Cell} (hn : w.hp p = none) : Ext w (w.new p o c) := by
  refine ⟨⟨⟨[p], rfl⟩, fun a h => ?_, fun a u h _ => ?_, fun a u h => ⟨u, ?_⟩⟩, rfl, fun a h => ?_⟩
  · rcases h with h | h
    · obtain ⟨n, c', h1, h2, h3⟩ := h
      have h1 : (w.al ++ [p])[n]? = some a := h1
      have h2 : (w.st ++ [c])[n]? = some c' := h2
      by_cases hl : n < w.al.length
      · rw [List.getElem?_append_left hl] at h1
        rw [List.getElem?_append_left (by rw [← R.len]; exact hl)] at h2
        exact .inl (.inl ⟨n, c', h1, h2, h3⟩)
      · rw [List.getElem?_append_right (by omega)] at h1
        have e : n - w.al.length = 0 := by
          rcases List.getElem?_eq_some_iff.mp h1 with ⟨q, _⟩
          simp at q; omega
        rw [e] at h1
        simp at h1
        subst h1
        exact .inr hn
    · exact .inl (.inr h)
  · show upd w.hp p o a = _
    rw [upd_ne (ne_of_none h hn)]; exact h
  · show upd w.hp p o a = _
    rw [upd_ne (ne_of_none h hn)]; exact h
  · show upd w.hp p o a = _
    exact upd_ne fun e => R.not_hid hn (e ▸ h)
theorem new_get (R : Rep K mg w) {p : Addr} {o : HO} {c : Cell} : (w.new p o c).al[w.st.length]? = some p := by
  show (w.al ++ [p])[w.st.length]? = _
  rw [← R.len]; simp
theorem Rep.new (R : Rep K mg w) {p : Addr} {o : HO} {c : Cell} (hn : w.hp p = none) (hc : CellR K mg (w.new p o c) p c) : Rep K mg (w.new p o c) := by
  have X := new_ext (o := o) (c := c) R hn
  refine ⟨?_, ?_, fun a h => ?_, fun n a c' h1 h2 => ?_, fun a h => ?_⟩
  · show (w.al ++ [p]).length = (w.st ++ [c]).length
    rw [List.length_append, List.length_append, R.len]; rfl
  · show (w.al ++ [p]).Nodup
    rw [List.nodup_append]
    refine ⟨R.nd, by simp, fun a ha b hb => ?_⟩
    simp at hb; subst hb
    exact fun z => R.not_mem hn (z ▸ ha)
  · have h : a ∈ w.al ++ [p] := h
    rcases List.mem_append.mp h with h | h
    · obtain ⟨u, e⟩ := R.tr a h
      exact X.tr a u e
    · simp at h; subst h
      exact ⟨o, upd_same⟩
  · have h1 : (w.al ++ [p])[n]? = some a := h1
    have h2 : (w.st ++ [c])[n]? = some c' := h2
    by_cases hl : n < w.al.length
    · rw [List.getElem?_append_left hl] at h1
      rw [List.getElem?_append_left (by rw [← R.len]; exact hl)] at h2
      refine (R.cell n a c' h1 h2).ext X.toEx0 ?_
      show upd w.hp p o a = _
      exact upd_ne fun z => R.not_mem hn (z ▸ List.mem_of_getElem? h1)
    · rw [List.getElem?_append_right (by omega)] at h1
      rw [List.getElem?_append_right (by rw [← R.len]; omega)] at h2
      have e : n - w.al.length = 0 := by
        rcases List.getElem?_eq_some_iff.mp h1 with ⟨q, _⟩
        simp at q; omega
      rw [← R.len, e] at h2
      rw [e] at h1
      simp at h1 h2
      subst h1; subst h2
      exact hc
  · obtain ⟨h1, u, e⟩ := R.hid a h
    refine ⟨fun z => ?_, X.tr a u e⟩
    rcases List.mem_append.mp (show a ∈ w.al ++ [p] from z) with z | z
    · exact h1 z
    · simp at z; subst z
      rw [hn] at e; cases e

/-- a cell is written -/
def Wo.wr (w : Wo) (n : Nat) (a : Addr) (o : HO) (c : Cell) : Wo := ⟨w.al, w.st.set n c, upd w.hp a o, w.hid⟩
theorem wr_ext (R : Rep K mg w) {n : Nat} {a : Addr} {o : HO} {c c0 : Cell} (h1 : w.al[n]? = some a) (h2 : w.st[n]? = some c0) (h3 : c0 ≠ .dead) : Ext w (w.wr n a o c) := by
  have za : Zl w a := .inl ⟨n, c0, h1, h2, h3⟩
  refine ⟨⟨⟨[], by simp [Wo.wr]⟩, fun b h => ?_, fun b u h z => ?_, fun b u h => ?_⟩, rfl, fun b h => ?_⟩
  · rcases h with h | h
    · obtain ⟨m, c', g1, g2, g3⟩ := h
      have g2 : (w.st.set n c)[m]? = some c' := g2
      by_cases e : m = n
      · subst e
        have g1 : w.al[m]? = some b := g1
        rw [h1] at g1; cases g1
        exact .inl za
      · rw [List.getElem?_set_ne (Ne.symm e)] at g2
        exact .inl (.inl ⟨m, c', g1, g2, g3⟩)
    · exact .inl (.inr h)
  · show upd w.hp a o b = _
    rw [upd_ne fun e : b = a => z (by rw [e]; exact za)]; exact h
  · by_cases e : b = a
    · subst e; exact ⟨o, upd_same⟩
    · exact ⟨u, by show upd w.hp a o b = _; rw [upd_ne e]; exact h⟩
  · show upd w.hp a o b = _
    exact upd_ne fun e => (R.hid b h).1 (e ▸ List.mem_of_getElem? h1)
theorem Rep.wr (R : Rep K mg w) {n : Nat} {a : Addr} {o : HO} {c c0 : Cell} (h1 : w.al[n]? = some a) (h2 : w.st[n]? = some c0) (h3 : c0 ≠ .dead) (hc : CellR K mg (w.wr n a o c) a c) : Rep K mg (w.wr n a o c) := by
  have X := wr_ext (o := o) (c := c) R h1 h2 h3
  refine ⟨?_, R.nd, fun b h => ?_, fun m b c' g1 g2 => ?_, fun b h => ?_⟩
  · show w.al.length = (w.st.set n c).length
    rw [List.length_set]; exact R.len
  · obtain ⟨u, e⟩ := R.tr b h
    exact X.tr b u e
  · have g2 : (w.st.set n c)[m]? = some c' := g2
    replace g1 : w.al[m]? = some b := g1
    by_cases e : m = n
    · subst e
      replace g1 := h1.symm.trans g1; cases g1
      rw [List.getElem?_set_self (List.getElem?_eq_some_iff.mp h2).1] at g2
      cases g2; exact hc
    · rw [List.getElem?_set_ne (Ne.symm e)] at g2
      refine (R.cell m b c' g1 g2).ext X.toEx0 ?_
      show upd w.hp a o b = _
      exact upd_ne fun z => e (nd_get R.nd g1 (z ▸ h1))
  · obtain ⟨h1, u, e⟩ := R.hid b h
    exact ⟨h1, X.tr b u e⟩

/-- a cell is let go: what it held never changes again -/
def Wo.kill (w : Wo) (n : Nat) : Wo := ⟨w.al, w.st.set n .dead, w.hp, w.hid⟩
theorem kill_ext (R : Rep K mg w) (n : Nat) : Ext w (w.kill n) := by
  refine ⟨⟨⟨[], by simp [Wo.kill]⟩, fun b h => ?_, fun b u h _ => h, fun b u h => ⟨u, h⟩⟩, rfl, fun _ _ => rfl⟩
  rcases h with h | h
  · obtain ⟨m, c', g1, g2, g3⟩ := h
    have g2 : (w.st.set n .dead)[m]? = some c' := g2
    by_cases e : n = m
    · subst e
      rw [List.getElem?_set] at g2
      split at g2
      · split at g2
        · cases g2; exact absurd rfl g3
        · cases g2
      · exact .inl (.inl ⟨n, c', g1, g2, g3⟩)
    · rw [List.getElem?_set_ne e] at g2
      exact .inl (.inl ⟨m, c', g1, g2, g3⟩)
  · exact .inl (.inr h)
theorem Rep.kill (R : Rep K mg w) (n : Nat) : Rep K mg (w.kill n) := by
  have X := kill_ext R n
  refine ⟨?_, R.nd, R.tr, fun m b c' g1 g2 => ?_, R.hid⟩
  · show w.al.length = (w.st.set n .dead).length
    rw [List.length_set]; exact R.len
  · have g2 : (w.st.set n .dead)[m]? = some c' := g2
    by_cases e : n = m
    · subst e
      rw [List.getElem?_set] at g2
      split at g2
      · split at g2
        · cases g2; trivial
        · cases g2
      · exact (R.cell n b c' g1 g2).ext X.toEx0 rfl
    · rw [List.getElem?_set_ne e] at g2
      exact (R.cell m b c' g1 g2).ext X.toEx0 rfl
theorem kill_st (R : Rep K mg w) {n : Nat} {a : Addr} {u : HO} (h1 : w.al[n]? = some a) (h2 : w.hp a = some u) : StP (w.kill n) a u := by
  refine ⟨h2, fun z => ?_⟩
  rcases z with ⟨m, c, g1, g2, g3⟩ | z
  · have g2 : (w.st.set n .dead)[m]? = some c := g2
    replace g1 : w.al[m]? = some a := g1
    have e := nd_get R.nd g1 h1
    subst e
    rw [List.getElem?_set] at g2
    split at g2
    · split at g2
      · cases g2; exact g3 rfl
      · cases g2
    · rename_i q; exact q rfl
  · exact (R.hid a z).1 (List.mem_of_getElem? h1)
/-- the last cells are forgotten -/
def Wo.cut (w : Wo) (n : Nat) : Wo := ⟨w.al.take n, w.st.take n, w.hp, w.hid⟩
theorem take_get {α : Type} {l : List α} {n m : Nat} {a : α} (h : (l.take n)[m]? = some a) : l[m]? = some a := by
  rw [List.getElem?_take] at h
  split at h
  · exact h
  · cases h
theorem cut_zz {n : Nat} {a : Addr} (h : Zl (w.cut n) a) : Zl w a := by
  rcases h with ⟨m, c, g1, g2, g3⟩ | h
  · exact .inl ⟨m, c, take_get g1, take_get g2, g3⟩
  · exact .inr h
theorem cut_ext {w0 : Wo} (X : Ext w0 w) : Ext w0 (w.cut w0.al.length) := by
  obtain ⟨t, e⟩ := X.al
  refine ⟨⟨⟨[], ?_⟩, fun a h => X.zz a (cut_zz h), X.keep, X.tr⟩, X.hid, X.kh⟩
  show w.al.take w0.al.length = _
  rw [e]; simp
theorem mem_take {α : Type} {l : List α} {n : Nat} {a : α} (h : a ∈ l.take n) : a ∈ l := List.mem_of_mem_take h

/-! ### the slots -/
structure RepE (K : PySem.W.Frag) (mg : Str → Option Value) (w : Wo) (e : En) (s : St) : Prop where
  len : e.length = s.length
  get : ∀ (i : Nat) (d : D), e[i]? = some (some d) → ∃ v, s[i]? = some (some v) ∧ RepD K mg w d v
theorem RepE.ext {e : En} {s : St} (h : RepE K mg w e s) (x : Ex0 w w') : RepE K mg w' e s :=
  ⟨h.len, fun i d g => let ⟨v, p, r⟩ := h.get i d g; ⟨v, p, r.ext x⟩⟩
theorem RepE.set {e : En} {s : St} {d : D} {v : V} (h : RepE K mg w e s) (i : Nat) (r : RepD K mg w d v) : RepE K mg w (e.set i (some d)) (s.set i (some v)) := by
  refine ⟨by rw [List.length_set, List.length_set]; exact h.len, fun j d' g => ?_⟩
  by_cases hj : j = i
  · subst hj
    by_cases hl : j < e.length
    · rw [List.getElem?_set_self hl] at g
      cases g
      exact ⟨v, by rw [List.getElem?_set_self (by rw [← h.len]; exact hl)], r⟩
    · rw [List.getElem?_eq_none (by simpa using hl)] at g; cases g
  · rw [List.getElem?_set_ne (Ne.symm hj)] at g ⊢
    exact h.get j d' g
theorem RepE.gone {e : En} {s : St} (h : RepE K mg w e s) (i : Nat) : RepE K mg w (e.set i none) (s.set i none) := by
  refine ⟨by rw [List.length_set, List.length_set]; exact h.len, fun j d' g => ?_⟩
  by_cases hj : j = i
  · subst hj
    by_cases hl : j < e.length
    · rw [List.getElem?_set_self hl] at g; cases g
    · rw [List.getElem?_eq_none (by simpa using hl)] at g; cases g
  · rw [List.getElem?_set_ne (Ne.symm hj)] at g ⊢
    exact h.get j d' g
/-- slots that the mirror has and the frame has forgotten or not -/
theorem RepE.drop1 {e : En} {s : St} (h : RepE K mg w e s) (i : Nat) : RepE K mg w (e.set i none) s := by
  refine ⟨by rw [List.length_set]; exact h.len, fun j d' g => ?_⟩
  by_cases hj : j = i
  · subst hj
    by_cases hl : j < e.length
    · rw [List.getElem?_set_self hl] at g; cases g
    · rw [List.getElem?_eq_none (by simpa using hl)] at g; cases g
  · rw [List.getElem?_set_ne (Ne.symm hj)] at g
    exact h.get j d' g

/-! ### results -/
inductive Res (β : Type) where
  | ok (b : β) (S : Store)
  | exc (e : D) (S : Store)
  | stuck
def Res.bind {β γ : Type} (r : Res β) (k : β → Store → Res γ) : Res γ := match r with
  | .ok b S => k b S
  | .exc e S => .exc e S
  | .stuck => .stuck
/-- an exception in the air: its class, its own dict -/
def RepX (K : PySem.W.Frag) (mg : Str → Option Value) (w : Wo) (e : D) (cls : Value) (dd : Option Addr) : Prop :=
  ∃ c C fs gs, e = .exc c fs ∧ mg (cname c) = some (.ref C) ∧ cls = .ref C ∧ XfO w dd gs ∧ RepF K mg w fs gs
theorem RepX.ext {e : D} {cls : Value} {dd : Option Addr} (h : RepX K mg w e cls dd) (x : Ex0 w w') : RepX K mg w' e cls dd := by
  obtain ⟨c, C, fs, gs, h1, h2, h3, h4, h5⟩ := h
  exact ⟨c, C, fs, gs, h1, h2, h3, h4.ext x, h5.ext x⟩
def Post {β γ : Type} (Rl : Wo → β → γ → Prop) (K : PySem.W.Frag) (mg : Str → Option Value) (w : Wo) (r : Res β) (Q : γ → Hp → Prop) (E : XK) : Prop := match r with
  | .ok b S => ∀ w' v, Ext w w' → Rep K mg w' → w'.st = S → Rl w' b v → Q v w'.hp
  | .exc e S => ∀ w' cls dd, Ext w w' → Rep K mg w' → w'.st = S → RepX K mg w' e cls dd → E cls dd w'.hp
  | .stuck => False
theorem Post.ext {β γ : Type} {Rl : Wo → β → γ → Prop} {r : Res β} {Q : γ → Hp → Prop} {E : XK} (h : Post Rl K mg w r Q E) (x : Ext w w') : Post Rl K mg w' r Q E := by
  cases r with
  | ok b S => exact fun w2 v e => h w2 v (x.trans e)
  | exc e S => exact fun w2 v d e => h w2 v d (x.trans e)
  | stuck => exact h
theorem Post.imp {β γ : Type} {Rl : Wo → β → γ → Prop} {r : Res β} {Q Q' : γ → Hp → Prop} {E : XK} (h : Post Rl K mg w r Q E) (i : ∀ v H, Q v H → Q' v H) : Post Rl K mg w r Q' E := by
  cases r with
  | ok b S => exact fun w2 v e R s r => i _ _ (h w2 v e R s r)
  | exc e S => exact h
  | stuck => exact h
/-- what a first part leaves for the rest -/
def Mid {β γ δ ε : Type} (Rl : Wo → β → γ → Prop) (Rm : Wo → δ → ε → Prop) (K : PySem.W.Frag) (mg : Str → Option Value) (w : Wo) (k : β → Store → Res δ) (Q : ε → Hp → Prop) (E : XK) : γ → Hp → Prop := fun v H =>
  ∃ w1 b, w1.hp = H ∧ Ext w w1 ∧ Rep K mg w1 ∧ Rl w1 b v ∧ Post Rm K mg w1 (k b w1.st) Q E
theorem Post.bind {β γ δ ε : Type} {Rl : Wo → β → γ → Prop} {Rm : Wo → δ → ε → Prop} {r : Res β} {k : β → Store → Res δ} {Q : ε → Hp → Prop} {E : XK} (h : Post Rm K mg w (r.bind k) Q E) :
    Post Rl K mg w r (Mid Rl Rm K mg w k Q E) E := by
  cases r with
  | ok b S =>
    intro w1 v e R s q
    subst s
    exact ⟨w1, b, rfl, e, R, q, Post.ext (Rl := Rm) h e⟩
  | exc e S => exact h
  | stuck => exact h
/-- an answer that changes nothing -/
theorem Post.now {β γ : Type} {Rl : Wo → β → γ → Prop} {b : β} {v : γ} {Q : γ → Hp → Prop} {E : XK} (h : Post Rl K mg w (.ok b w.st) Q E) (R : Rep K mg w) (q : Rl w b v) : Q v w.hp := h w v (Ext.refl w) R rfl q
/-- a new object that never changes, as the answer -/
theorem Post.put {β γ : Type} {Rl : Wo → β → γ → Prop} {b : β} {v : γ} {Q : γ → Hp → Prop} {E : XK} {p : Addr} {o : HO} (h : Post Rl K mg w (.ok b w.st) Q E) (R : Rep K mg w) (hn : w.hp p = none) (q : Rl (w.put p o) b v) : Q v (upd w.hp p o) :=
  h (w.put p o) v (put_ext R hn) (R.put hn) rfl q
end G

/-! ## B. expressions -/
namespace G
open PySem L2
abbrev EM := En → Store → Res D
abbrev TM := En → Store → Res Bool
abbrev AM := En → Store → Res (List D)
def RlB : Wo → Bool → Bool → Prop := fun _ b c => c = b
/-- the reading that a mirror gives -/
def tG {β γ : Type} (Rl : Wo → β → γ → Prop) (X : Cx) (W : WX) (m : En → Store → Res β) : St → Hp → (γ → Hp → Prop) → Prop := fun s H Q =>
  ∃ w e, w.hp = H ∧ Rep X.K X.mg w ∧ RepE X.K X.mg w e s ∧ Post Rl X.K X.mg w (m e w.st) Q (fun cls dd H' => W cls dd s H')
abbrev RE (X : Cx) (W : WX) (e : Expr) (m : EM) : Prop := PE X e (tG (RepD X.K X.mg) X W m)
abbrev RT (X : Cx) (W : WX) (e : Expr) (m : TM) : Prop := PT X e (tG RlB X W m)
abbrev RW (X : Cx) (W : WX) (e : Expr) (m : TM) : Prop := PW X e (tG RlB X W m)
abbrev RA (X : Cx) (W : WX) (es : List Expr) (m : AM) : Prop := PA X es (tG (RepL X.K X.mg) X W m)
section
variable {X : Cx} {W : WX} {a b c e : Expr} {es : List Expr} {ma mb mc me : EM} {ta tb : TM} {pos : Pos}
theorem pe_imp {t t' : TE} (h : PE X e t) (i : ∀ s H Q, t' s H Q → t s H Q) : PE X e t' := ⟨fun pins s σ H Q I q => h.run pins s σ H Q I (i _ _ _ q)⟩
theorem pt_imp {t t' : TT} (h : PT X e t) (i : ∀ s H Q, t' s H Q → t s H Q) : PT X e t' := ⟨fun pins s σ H Q I q => h.run pins s σ H Q I (i _ _ _ q)⟩
theorem pw_imp {t t' : TT} (h : PW X e t) (i : ∀ s H Q, t' s H Q → t s H Q) : PW X e t' := ⟨fun wh pins s σ H Q I q => h.run wh pins s σ H Q I (i _ _ _ q)⟩
theorem pa_imp {t t' : TA} (h : PA X es t) (i : ∀ s H Q, t' s H Q → t s H Q) : PA X es t' := ⟨fun ps pins s σ H Q I q => h.run ps pins s σ H Q I (i _ _ _ q)⟩

/-- an answer that hangs on the data alone -/
def lf {β : Type} (o : Option β) (S : Store) : Res β := match o with
  | some d => .ok d S
  | none => .stuck
def eC (d : D) : EM := fun _ S => .ok d S
def eVar (i : Nat) : EM := fun e S => match e[i]? with
  | some (some d) => .ok d S
  | _ => .stuck
theorem re_c {v : V} {d : D} (h : PE X e (tC v)) (q : ∀ w, RepD X.K X.mg w d v) : RE X W e (eC d) := pe_imp h fun s H Q ⟨w, en, hw, R, E, P⟩ => by
  subst hw
  exact Post.now P R (q w)
theorem re_int {i j pos} : RE X W (.Constant (.int i) j pos) (eC (.int i)) := re_c pe_int fun _ => .int i
theorem re_bl {b j pos} : RE X W (.Constant (.bool b) j pos) (eC (.bl b)) := re_c pe_bl fun _ => .bl b
theorem re_non {j pos} : RE X W (.Constant .none j pos) (eC .non) := re_c pe_non fun _ => .non
theorem re_str {x j pos} : RE X W (.Constant (.str x) j pos) (eC (.str x)) := re_c pe_str fun _ => .str x
theorem re_glob {x : Str} {v : V} {u : Value} {d : D} (hg : Gl X x) (hm : X.mg x = some u) (r : RelV v u) (q : ∀ w, RepD X.K X.mg w d v) (hd : (x == ("__debug__" : Str)) = false := by decide) : RE X W (.Name x pos) (eC d) := re_c (pe_glob hg hm r hd) q
theorem re_v {i : Nat} {x : Str} (h : PE X (.Name x pos) (tVar i)) : RE X W (.Name x pos) (eVar i) := pe_imp h fun s H Q ⟨w, en, hw, R, E, P⟩ => by
  subst hw
  unfold eVar at P
  split at P
  · rename_i d hd
    obtain ⟨v, hv, r⟩ := E.get i d hd
    exact ⟨v, hv, Post.now P R r⟩
  · exact False.elim P
/-- the name in the i-th slot -/
theorem rv (i : Nat) {x : Str} (hN : X.N[i]? = some x := by rfl) (hv : Vis X.env.scope x := by first | exact Or.inl rfl | exact Or.inr (Or.inl rfl) | exact Or.inr (Or.inr rfl)) (hd : (x == ("__debug__" : Str)) = false := by decide)
    (hcd : (x == ("__classdict__" : Str)) = false := by decide) : RE X W (.Name x pos) (eVar i) := re_v (pe_var hN hv hd hcd)

/-! ### operators -/
def OpM (X : Cx) (f : D → D → Option D) : R2 := fun v u H Q => ∃ w x y E, w.hp = H ∧ Rep X.K X.mg w ∧ RepD X.K X.mg w x v ∧ RepD X.K X.mg w y u ∧ Post (RepD X.K X.mg) X.K X.mg w (lf (f x y) w.st) Q E
def eBin (f : D → D → Option D) (a b : EM) : EM := fun e S => (a e S).bind fun x S1 => (b e S1).bind fun y S2 => lf (f x y) S2
theorem t_bin {f : D → D → Option D} : ∀ s H Q, tG (RepD X.K X.mg) X W (eBin f ma mb) s H Q → tOp (OpM X f) (tG (RepD X.K X.mg) X W ma) (tG (RepD X.K X.mg) X W mb) s H Q := by
  rintro s H Q ⟨w, en, rfl, R, E, P⟩
  refine ⟨w, en, rfl, R, E, (Post.bind P).imp ?_⟩
  rintro v H1 ⟨w1, x, rfl, X1, R1, rx, P1⟩
  refine ⟨w1, en, rfl, R1, E.ext X1.toEx0, (Post.bind P1).imp ?_⟩
  rintro u H2 ⟨w2, y, rfl, X2, R2, ry, P2⟩
  exact ⟨w2, x, y, _, rfl, R2, rx.ext X2.toEx0, ry, P2⟩
theorem re_bin {op : Operator} {f : D → D → Option D} (ho : OpR X (binaryOp op) (OpM X f)) (ha : RE X W a ma) (hb : RE X W b mb) : RE X W (.BinOp a op b pos) (eBin f ma mb) := pe_imp (pe_op ho ha hb) t_bin
theorem re_cmp {op : CmpOp} {f : D → D → Option D} (ho : OpR X (compareOp op) (OpM X f)) (ha : RE X W a ma) (hb : RE X W b mb) (hm : behindInMarks op b = false) : RE X W (.Compare a [op] [b] pos) (eBin f ma mb) := pe_imp (pe_cmpR ho ha hb hm) t_bin
/-- a truth as a test -/
def tB (m : EM) : TM := fun e S => (m e S).bind fun x S1 => match x with
  | .bl b => .ok b S1
  | _ => .stuck
theorem rt_cmp {op : CmpOp} {f : D → D → Option D} (ho : OpR X (compareOp op) (OpM X f)) (ha : RE X W a ma) (hb : RE X W b mb) (hm : behindInMarks op b = false) : RT X W (.Compare a [op] [b] pos) (tB (eBin f ma mb)) := by
  refine pt_imp (pt_cmpR ho ha hb hm) ?_
  rintro s H Q ⟨w, en, rfl, R, E, P⟩
  refine t_bin s w.hp _ ⟨w, en, rfl, R, E, (Post.bind P).imp ?_⟩
  rintro v H1 ⟨w1, x, rfl, X1, R1, rx, P1⟩
  cases x with
  | bl b => cases rx; exact ⟨b, rfl, Post.now P1 R1 rfl⟩
  | _ => exact False.elim P1

theorem lf_none {w : Wo} {Q : VK} {E : XK} {S : Store} {K : PySem.W.Frag} {mg : Str → Option Value} (h : Post (RepD K mg) K mg w (lf (none : Option D) S) Q E) : False := h

/-- a rule by cases of both data -/
def dAdd : D → D → Option D
  | .int i, .int j => some (.int (i + j))
  | .str x, .str y => if x.length + y.length ≤ sizeLine then some (.str (x ++ y)) else none
  | .lst l, .lst m => if l.length + m.length ≤ sizeLine then some (.lst (l ++ m)) else none
  | .tup (d :: l), .tup m => if (d :: l).length + m.length ≤ sizeLine then some (.tup (d :: l ++ m)) else none
  | _, _ => none
theorem om_add : OpR X (binaryOp .Add) (OpM X dAdd) := by
  intro pins s σ H x y v u Q I rx ry h
  obtain ⟨w, dx, dy, E, rfl, R, qx, qy, P⟩ := h
  unfold dAdd at P
  split at P
  · cases qx; cases qy
    exact op_add pins s σ w.hp _ _ v u Q I rx ry ⟨_, _, rfl, rfl, Post.now P R (.int _)⟩
  · split at P
    · rename_i hz
      cases qx; cases qy
      exact op_add_str pins s σ w.hp _ _ v u Q I rx ry ⟨_, _, rfl, rfl, hz, Post.now P R (.str _)⟩
    · exact False.elim P
  · split at P
    · rename_i hz
      cases qx with
      | lst s1 r1 =>
        cases qy with
        | lst s2 r2 =>
          refine op_cat pins s σ w.hp _ _ v u Q I rx ry ⟨_, _, _, _, rfl, rfl, s1.1, s2.1, by rw [← r1.length, ← r2.length]; exact hz, fun p hp => ?_⟩
          exact Post.put P R hp (.lst (put_st R hp) ((r1.append r2).ext (put_ext R hp).toEx0))
    · exact False.elim P
  · split at P
    · rename_i hz
      cases qx with
      | tup s1 r1 =>
        cases qy with
        | tup s2 r2 =>
          have r12 := r1.append r2
          cases r1 with
          | cons r1 r1' =>
            refine op_catT pins s σ w.hp _ _ v u Q I rx ry ⟨_, _, _, _, rfl, rfl, s1.sq, s2.sq, by simp, ?_, ?_⟩
            · have e1 := r1'.length
              have e2 := r2.length
              simp only [List.length_cons] at hz ⊢
              omega
            · first
                | refine ⟨fun hn => ?_, fun hn p hp => ?_⟩
                | refine ⟨fun hn p hp => ?_, fun hn => ?_⟩
              · subst hn
                cases r2
                rw [List.append_nil] at P
                exact Post.now P R (.tup s1 (.cons r1 r1'))
              · exact Post.put P R hp (.tup (.inl (put_st R hp).o) (r12.ext (put_ext R hp).toEx0))
    · exact False.elim P
  · exact False.elim P
def dSub : D → D → Option D
  | .int i, .int j => some (.int (i - j))
  | _, _ => none
theorem om_sub : OpR X (binaryOp .Sub) (OpM X dSub) := by
  intro pins s σ H x y v u Q I rx ry h
  obtain ⟨w, dx, dy, E, rfl, R, qx, qy, P⟩ := h
  unfold dSub at P
  split at P
  · cases qx; cases qy
    exact op_sub pins s σ w.hp _ _ v u Q I rx ry ⟨_, _, rfl, rfl, Post.now P R (.int _)⟩
  · exact False.elim P
/-- two factors together below a million bits, or one below 2 ^ 64 -/
def mulOk (i j : Int) : Bool := decide (i.natAbs.log2 + j.natAbs.log2 < 1000000)
def dMul : D → D → Option D
  | .int i, .int j => if mulOk i j then some (.int (i * j)) else none
  | .lst l, .int k => if -(2 ^ 63) ≤ k ∧ k < 2 ^ 63 ∧ l.length * k.toNat ≤ sizeLine then some (.lst (List.replicate k.toNat l).flatten) else none
  | _, _ => none
theorem RepL.rep {w : Wo} {l : List D} {vs : List V} (h : RepL X.K X.mg w l vs) : ∀ n : Nat, RepL X.K X.mg w (List.replicate n l).flatten (List.replicate n vs).flatten
  | 0 => .nil
  | n + 1 => by
    rw [List.replicate_succ, List.replicate_succ, List.flatten_cons, List.flatten_cons]
    exact h.append (RepL.rep h n)
theorem om_mul : OpR X (binaryOp .Mult) (OpM X dMul) := by
  intro pins s σ H x y v u Q I rx ry h
  obtain ⟨w, dx, dy, E, rfl, R, qx, qy, P⟩ := h
  unfold dMul at P
  split at P
  · split at P
    · rename_i hm
      cases qx; cases qy
      exact op_mulW pins s σ w.hp _ _ v u Q I rx ry ⟨_, _, rfl, rfl, (by unfold mulOk at hm; unfold CMulW; exact of_decide_eq_true hm), Post.now P R (.int _)⟩
    · exact False.elim P
  · split at P
    · rename_i hm
      cases qx with
      | lst s1 r1 =>
        cases qy
        refine op_rep pins s σ w.hp _ _ v u Q I rx ry ⟨_, _, _, rfl, rfl, s1.1, hm.1, hm.2.1, by rw [← r1.length]; exact hm.2.2, fun p hp => ?_⟩
        exact Post.put P R hp (.lst (put_st R hp) ((RepL.rep r1 _).ext (put_ext R hp).toEx0))
    · exact False.elim P
  · exact False.elim P
def divOk (j : Int) : Bool := j != 0 && decide (j.natAbs.log2 < 9000)
def dDiv : D → D → Option D
  | .int i, .int j => if divOk j then some (.int (i.fdiv j)) else none
  | _, _ => none
theorem op_fdivX : OpR X (binaryOp .FloorDiv) (rI (fun _ j => j ≠ 0 ∧ j.natAbs.log2 < 9000) fun i j => .int (i.fdiv j)) :=
  opI fun i j _ _ _ _ _ hc q => PyProof.Rows.floordiv_int hc.1 q (.inl (PyProof.noPylong_of_log2 hc.2))
theorem om_div : OpR X (binaryOp .FloorDiv) (OpM X dDiv) := by
  intro pins s σ H x y v u Q I rx ry h
  obtain ⟨w, dx, dy, E, rfl, R, qx, qy, P⟩ := h
  unfold dDiv at P
  split at P
  · split at P
    · rename_i hm
      cases qx; cases qy
      unfold divOk at hm
      simp only [Bool.and_eq_true, bne_iff_ne, decide_eq_true_eq] at hm
      exact op_fdivX pins s σ w.hp _ _ v u Q I rx ry ⟨_, _, rfl, rfl, hm, Post.now P R (.int _)⟩
    · exact False.elim P
  · exact False.elim P
def dMod : D → D → Option D
  | .int i, .int j => if j = 0 then none else some (.int (i.fmod j))
  | _, _ => none
theorem om_mod : OpR X (binaryOp .Mod) (OpM X dMod) := by
  intro pins s σ H x y v u Q I rx ry h
  obtain ⟨w, dx, dy, E, rfl, R, qx, qy, P⟩ := h
  unfold dMod at P
  split at P
  · split at P
    · exact False.elim P
    · rename_i hm
      cases qx; cases qy
      exact op_modN pins s σ w.hp _ _ v u Q I rx ry ⟨_, _, rfl, rfl, hm, Post.now P R (.int _)⟩
  · exact False.elim P
def dPow : D → D → Option D
  | .int i, .int j => if 0 ≤ j ∧ j ≤ 1000000 ∧ i.natAbs < 2 ^ 64 then some (.int (i ^ j.toNat)) else none
  | _, _ => none
theorem om_pow : OpR X (binaryOp .Pow) (OpM X dPow) := by
  intro pins s σ H x y v u Q I rx ry h
  obtain ⟨w, dx, dy, E, rfl, R, qx, qy, P⟩ := h
  unfold dPow at P
  split at P
  · split at P
    · rename_i hm
      cases qx; cases qy
      exact op_pow pins s σ w.hp _ _ v u Q I rx ry ⟨_, _, rfl, rfl, hm, Post.now P R (.int _)⟩
    · exact False.elim P
  · exact False.elim P

/-! ### comparisons -/
mutual
def D.toP : D → Option PyData
  | .non => some .none
  | .bl b => some (.bool b)
  | .int i => some (.int i)
  | .str x => some (.str x)
  | .tup l => (toPs l).map .tuple
  | .lst l => (toPs l).map .list
  | .scr l => (toPs l).map .list
  | .dic _ _ => none
  | .loc _ => none
  | .exc _ _ => none
  | .ins _ _ => none
def toPs : List D → Option (List PyData)
  | [] => some []
  | d :: l => match d.toP, toPs l with
    | some p, some ps => some (p :: ps)
    | _, _ => none
end
mutual
theorem RepD.dp {K : PySem.W.Frag} {mg : Str → Option Value} {w : Wo} {d : D} {v : V} {p : PyData} : RepD K mg w d v → d.toP = some p → Dp K w.hp v p
  | .non, h => by cases h; exact .non
  | .bl b, h => by cases h; exact .bl b
  | .int i, h => by cases h; exact .int i
  | .str x, h => by cases h; exact .str x
  | .tup s r, h => by
    rw [D.toP] at h
    obtain ⟨ps, e, rfl⟩ := Option.map_eq_some_iff.mp h
    exact .tup s.sq (RepL.dp r e)
  | .lst s r, h => by
    rw [D.toP] at h
    obtain ⟨ps, e, rfl⟩ := Option.map_eq_some_iff.mp h
    exact .lst (SqL.of s.1) (RepL.dp r e)
  | .scr s r, h => by
    rw [D.toP] at h
    obtain ⟨ps, e, rfl⟩ := Option.map_eq_some_iff.mp h
    exact .lst s.sq (RepL.dp r e)
  | .dic _ _ _, h => by rw [D.toP] at h; cases h
  | .loc _, h => by rw [D.toP] at h; cases h
  | .ins _ _ _, h => by rw [D.toP] at h; cases h
  | .exc _ _ _ _, h => by rw [D.toP] at h; cases h
theorem RepL.dp {K : PySem.W.Frag} {mg : Str → Option Value} {w : Wo} {l : List D} {vs : List V} {ps : List PyData} : RepL K mg w l vs → toPs l = some ps → DpAll K w.hp vs ps
  | .nil, h => by rw [toPs] at h; cases h; exact .nil
  | .cons r t, h => by
    rw [toPs] at h
    split at h
    · rename_i p q e1 e2
      cases h
      exact .cons (RepD.dp r e1) (RepL.dp t e2)
    · cases h
end
/-- == of data -/
def eqD (x y : D) : Option Bool := match x.toP, y.toP with
  | some p, some q => if SeqAt.shaped p && SeqAt.shaped q then some (PyData.eqv p q) else none
  | _, _ => none
def dEq (x y : D) : Option D := (eqD x y).map .bl
def dNe (x y : D) : Option D := (eqD x y).map fun b => .bl (!b)
theorem om_eq (hu : X.A.units + 64 < cLine) : OpR X (compareOp .Eq) (OpM X dEq) := by
  intro pins s σ H x y v u Q I rx ry h
  obtain ⟨w, dx, dy, E, rfl, R, qx, qy, P⟩ := h
  unfold dEq eqD at P
  split at P
  · rename_i p q e1 e2
    split at P
    · rename_i hs
      rw [Bool.and_eq_true] at hs
      exact op_eqD hu pins s σ w.hp _ _ v u Q I rx ry ⟨p, q, qx.dp e1, qy.dp e2, hs.1, hs.2, Post.now P R (.bl _)⟩
    · exact False.elim P
  · exact False.elim P
theorem om_ne (hu : X.A.units + 64 < cLine) : OpR X (compareOp .NotEq) (OpM X dNe) := by
  intro pins s σ H x y v u Q I rx ry h
  obtain ⟨w, dx, dy, E, rfl, R, qx, qy, P⟩ := h
  unfold dNe eqD at P
  split at P
  · rename_i p q e1 e2
    split at P
    · rename_i hs
      rw [Bool.and_eq_true] at hs
      exact op_neD hu pins s σ w.hp _ _ v u Q I rx ry ⟨p, q, qx.dp e1, qy.dp e2, hs.1, hs.2, Post.now P R (.bl _)⟩
    · exact False.elim P
  · exact False.elim P
def cmpI (f : Int → Int → Bool) : D → D → Option D
  | .int i, .int j => some (.bl (f i j))
  | _, _ => none
theorem om_cmpI {op : CmpOp} {f : Int → Int → Bool} (ho : OpR X (compareOp op) (rI0 fun i j => .bl (f i j))) : OpR X (compareOp op) (OpM X (cmpI f)) := by
  intro pins s σ H x y v u Q I rx ry h
  obtain ⟨w, dx, dy, E, rfl, R, qx, qy, P⟩ := h
  unfold cmpI at P
  split at P
  · cases qx; cases qy
    exact ho pins s σ w.hp _ _ v u Q I rx ry ⟨_, _, rfl, rfl, Post.now P R (.bl _)⟩
  · exact False.elim P
abbrev dLt : D → D → Option D := cmpI fun i j => decide (i < j)
abbrev dLe : D → D → Option D := cmpI fun i j => decide (i ≤ j)
abbrev dGt : D → D → Option D := cmpI fun i j => decide (j < i)
abbrev dGe : D → D → Option D := cmpI fun i j => decide (j ≤ i)
theorem om_lt : OpR X (compareOp .Lt) (OpM X dLt) := om_cmpI op_lt
theorem om_le : OpR X (compareOp .LtE) (OpM X dLe) := om_cmpI op_le
theorem om_gt : OpR X (compareOp .Gt) (OpM X dGt) := om_cmpI op_gt
theorem om_ge : OpR X (compareOp .GtE) (OpM X dGe) := om_cmpI op_ge
def isN : D → Bool
  | .non => true
  | _ => false
theorem RepD.isN {K : PySem.W.Frag} {mg : Str → Option Value} {w : Wo} {d : D} {v : V} (h : RepD K mg w d v) : decide (v = .non) = isN d := by
  cases h <;> simp [G.isN]
def dIs (x y : D) : Option D := if isN y then some (.bl (isN x)) else none
def dIsNot (x y : D) : Option D := if isN y then some (.bl (!isN x)) else none
theorem om_is : OpR X (compareOp .Is) (OpM X dIs) := by
  intro pins s σ H x y v u Q I rx ry h
  obtain ⟨w, dx, dy, E, rfl, R, qx, qy, P⟩ := h
  unfold dIs at P
  split at P
  · rename_i hy
    have ey := qy.isN
    rw [hy] at ey
    exact op_isN pins s σ w.hp _ _ v u Q I rx ry ⟨of_decide_eq_true ey, Post.now P R (by rw [qx.isN]; exact .bl _)⟩
  · exact False.elim P
theorem om_isnot : OpR X (compareOp .IsNot) (OpM X dIsNot) := by
  intro pins s σ H x y v u Q I rx ry h
  obtain ⟨w, dx, dy, E, rfl, R, qx, qy, P⟩ := h
  unfold dIsNot at P
  split at P
  · rename_i hy
    have ey := qy.isN
    rw [hy] at ey
    exact op_notN pins s σ w.hp _ _ v u Q I rx ry ⟨of_decide_eq_true ey, Post.now P R (by rw [qx.isN]; exact .bl _)⟩
  · exact False.elim P

/-- a < b <= c -/
def eChain (f g : D → D → Option D) (a b c : EM) : EM := fun e S => (a e S).bind fun x S1 => (b e S1).bind fun y S2 => (lf (f x y) S2).bind fun z S3 => match z with
  | .bl true => (c e S3).bind fun t S4 => lf (g y t) S4
  | .bl false => .ok (.bl false) S3
  | _ => .stuck
theorem t_chain {f g : D → D → Option D} : ∀ s H Q, tG (RepD X.K X.mg) X W (eChain f g ma mb mc) s H Q → tChain (OpM X f) (OpM X g) (tG (RepD X.K X.mg) X W ma) (tG (RepD X.K X.mg) X W mb) (tG (RepD X.K X.mg) X W mc) s H Q := by
  rintro s H Q ⟨w, en, rfl, R, E, P⟩
  refine ⟨w, en, rfl, R, E, (Post.bind P).imp ?_⟩
  rintro v H1 ⟨w1, x, rfl, X1, R1, rx, P1⟩
  refine ⟨w1, en, rfl, R1, E.ext X1.toEx0, (Post.bind P1).imp ?_⟩
  rintro u H2 ⟨w2, y, rfl, X2, R2, ry, P2⟩
  refine ⟨w2, x, y, _, rfl, R2, rx.ext X2.toEx0, ry, (Post.bind (Rl := RepD X.K X.mg) P2).imp ?_⟩
  rintro z H3 ⟨w3, d, rfl, X3, R3, rz, P3⟩
  cases d with
  | bl b =>
    cases rz
    cases b with
    | true =>
      refine ⟨true, rfl, ?_⟩
      rw [if_pos rfl]
      refine ⟨w3, en, rfl, R3, ((E.ext X1.toEx0).ext X2.toEx0).ext X3.toEx0, (Post.bind P3).imp ?_⟩
      rintro t H4 ⟨w4, d4, rfl, X4, R4, r4, P4⟩
      exact ⟨w4, y, d4, _, rfl, R4, (ry.ext X3.toEx0).ext X4.toEx0, r4, P4⟩
    | false =>
      refine ⟨false, rfl, ?_⟩
      rw [if_neg Bool.false_ne_true]
      exact Post.now P3 R3 (.bl false)
  | _ => exact False.elim P3
theorem re_chain {op op' : CmpOp} {f g : D → D → Option D} (ho : OpR X (compareOp op) (OpM X f)) (ho' : OpR X (compareOp op') (OpM X g)) (ha : RE X W a ma) (hb : RE X W b mb) (hc : RE X W c mc)
    (hm : lastMarks [op, op'] [b, c] = false := by with_unfolding_all rfl) : RE X W (.Compare a [op, op'] [b, c] pos) (eChain f g ma mb mc) := pe_imp (pe_chain ho ho' ha hb hc hm) t_chain
theorem rt_chain {op op' : CmpOp} {f g : D → D → Option D} (ho : OpR X (compareOp op) (OpM X f)) (ho' : OpR X (compareOp op') (OpM X g)) (ha : RE X W a ma) (hb : RE X W b mb) (hc : RE X W c mc)
    (hm : lastMarks [op, op'] [b, c] = false := by with_unfolding_all rfl) : RT X W (.Compare a [op, op'] [b, c] pos) (tB (eChain f g ma mb mc)) := by
  refine pt_imp (pt_chain ho ho' ha hb hc hm) ?_
  rintro s H Q ⟨w, en, rfl, R, E, P⟩
  refine t_chain s w.hp _ ⟨w, en, rfl, R, E, (Post.bind P).imp ?_⟩
  rintro v H1 ⟨w1, x, rfl, X1, R1, rx, P1⟩
  cases x with
  | bl b => cases rx; exact ⟨b, rfl, Post.now P1 R1 rfl⟩
  | _ => exact False.elim P1

/-! ### truth -/
def truD (S : Store) : D → Option Bool
  | .non => some false
  | .bl b => some b
  | .int i => some (i != 0)
  | .str x => if x.length ≤ sizeLine then some ((x.length : Int) != 0) else none
  | .tup l => some (!l.isEmpty)
  | .lst l => some (!l.isEmpty)
  | .scr l => some (!l.isEmpty)
  | .dic _ l => some (!l.isEmpty)
  | .loc n => match S[n]? with
    | some (.lst l) => some (!l.isEmpty)
    | some (.dk l) => some (!l.isEmpty)
    | _ => none
  | _ => none
theorem RepL.emp {K : PySem.W.Frag} {mg : Str → Option Value} {w : Wo} {l : List D} {vs : List V} (h : RepL K mg w l vs) : (!vs.isEmpty) = !l.isEmpty := by cases h <;> rfl
theorem RepK.emp {κ : Type} {K : PySem.W.Frag} {mg : Str → Option Value} {w : Wo} {l : List (κ × D)} {vs : List (κ × V)} (h : RepK κ K mg w l vs) : (!vs.isEmpty) = !l.isEmpty := by cases h <;> rfl
theorem RepD.tru {w : Wo} {d : D} {v : V} {k : Bool} (R : Rep X.K X.mg w) (h : RepD X.K X.mg w d v) (e : truD w.st d = some k) : TruV X.K v w.hp k := by
  cases h with
  | non => cases e; rfl
  | bl b => cases e; rfl
  | int i => cases e; rfl
  | str x =>
    replace e : (if x.length ≤ sizeLine then some ((x.length : Int) != 0) else none) = some k := e
    split at e
    · cases e; exact ⟨by assumption, rfl⟩
    · cases e
  | tup s r => cases e; exact .inr (.inl ⟨_, s.sq, r.emp.symm⟩)
  | lst s r => cases e; exact .inl ⟨_, SqL.of s.1, r.emp.symm⟩
  | scr s r => cases e; exact .inl ⟨_, s.sq, r.emp.symm⟩
  | @dic ks l a vs s z r =>
    cases e
    refine .inr (.inr ⟨_, s.1, ?_⟩)
    rw [← r.emp]
    cases ks with
    | nil => cases vs with
      | nil => rfl
      | cons _ _ => cases z
    | cons _ _ => cases vs with
      | nil => cases z
      | cons _ _ => rfl
  | @loc n a hn =>
    replace e : (match w.st[n]? with
      | some (.lst l) => some (!l.isEmpty)
      | some (.dk l) => some (!l.isEmpty)
      | _ => none) = some k := e
    split at e
    · rename_i l hl
      cases e
      obtain ⟨vs, p, r⟩ := R.cell _ _ _ hn hl
      exact .inl ⟨vs, SqL.of p, r.emp.symm⟩
    · rename_i l hl
      cases e
      obtain ⟨vs, p, r⟩ := R.cell _ _ _ hn hl
      exact .inr (.inr ⟨vs, p, r.emp.symm⟩)
    · cases e
  | ins _ _ _ => cases e
  | exc _ _ _ _ => cases e
def tT (m : EM) : TM := fun e S => (m e S).bind fun x S1 => lf (truD S1 x) S1
/-- a plain expression as a test -/
theorem rt_e (ha : RE X W a ma) (he : ∀ whole, isTrue a X.env whole = (do let v ← whole; standAt a.pos; holding [v] (truthy v)) := by intro _; rfl) : RT X W a (tT ma) := by
  refine pt_imp (pt_truth ha he) ?_
  rintro s H Q ⟨w, en, rfl, R, E, P⟩
  refine ⟨w, en, rfl, R, E, (Post.bind P).imp ?_⟩
  rintro v H1 ⟨w1, x, rfl, X1, R1, rx, P1⟩
  dsimp only at P1
  cases h : truD w1.st x with
  | none => rw [h] at P1; exact False.elim P1
  | some k =>
    rw [h] at P1
    exact ⟨k, rx.tru R1 h, Post.now P1 R1 rfl⟩
def tNt (t : TM) : TM := fun e S => (t e S).bind fun b S1 => .ok (!b) S1
def tAn (t u : TM) : TM := fun e S => (t e S).bind fun b S1 => if b then u e S1 else .ok false S1
def tOr' (t u : TM) : TM := fun e S => (t e S).bind fun b S1 => if b then .ok true S1 else u e S1
theorem rt_not (ha : RT X W a ta) : RT X W (.UnaryOp .Not a pos) (tNt ta) := by
  refine pt_imp (pt_not ha) ?_
  rintro s H Q ⟨w, en, rfl, R, E, P⟩
  refine ⟨w, en, rfl, R, E, (Post.bind P).imp ?_⟩
  rintro v H1 ⟨w1, x, rfl, X1, R1, rx, P1⟩
  cases rx
  exact Post.now P1 R1 rfl
theorem rw_and1 (ha : RT X W a ta) : RW X W (.BoolOp .And [a] pos) ta := pw_and1 ha
theorem rw_or1 (ha : RT X W a ta) : RW X W (.BoolOp .Or [a] pos) ta := pw_or1 ha
theorem rw_and {rest : List Expr} (ha : RT X W a ta) (hb : RW X W (.BoolOp .And (b :: rest) pos) tb) : RW X W (.BoolOp .And (a :: b :: rest) pos) (tAn ta tb) := by
  refine pw_imp (pw_and ha hb) ?_
  rintro s H Q ⟨w, en, rfl, R, E, P⟩
  refine ⟨w, en, rfl, R, E, (Post.bind P).imp ?_⟩
  rintro v H1 ⟨w1, x, rfl, X1, R1, rx, P1⟩
  cases rx
  dsimp only at P1
  cases v with
  | true =>
    rw [if_pos rfl] at P1 ⊢
    exact ⟨w1, en, rfl, R1, E.ext X1.toEx0, P1⟩
  | false =>
    rw [if_neg Bool.false_ne_true] at P1 ⊢
    exact Post.now P1 R1 rfl
theorem rw_or {rest : List Expr} (ha : RT X W a ta) (hb : RW X W (.BoolOp .Or (b :: rest) pos) tb) : RW X W (.BoolOp .Or (a :: b :: rest) pos) (tOr' ta tb) := by
  refine pw_imp (pw_or ha hb) ?_
  rintro s H Q ⟨w, en, rfl, R, E, P⟩
  refine ⟨w, en, rfl, R, E, (Post.bind P).imp ?_⟩
  rintro v H1 ⟨w1, x, rfl, X1, R1, rx, P1⟩
  cases rx
  dsimp only at P1
  cases v with
  | true =>
    rw [if_pos rfl] at P1 ⊢
    exact Post.now P1 R1 rfl
  | false =>
    rw [if_neg Bool.false_ne_true] at P1 ⊢
    exact ⟨w1, en, rfl, R1, E.ext X1.toEx0, P1⟩
theorem rt_w (h : RW X W a ta) : RT X W a ta := h.pt
/-- as values -/
def eAn (a b : EM) : EM := fun e S => (a e S).bind fun x S1 => (lf (truD S1 x) S1).bind fun k S2 => if k then b e S2 else .ok x S2
def eOr (a b : EM) : EM := fun e S => (a e S).bind fun x S1 => (lf (truD S1 x) S1).bind fun k S2 => if k then .ok x S2 else b e S2
def eNt (a : EM) : EM := fun e S => (a e S).bind fun x S1 => (lf (truD S1 x) S1).bind fun k S2 => .ok (.bl (!k)) S2
theorem re_one {op} (h : RE X W a ma) : RE X W (.BoolOp op [a] pos) ma := pe_one h
theorem re_and {rest : List Expr} (ha : RE X W a ma) (hb : RE X W (.BoolOp .And (b :: rest) pos) mb) : RE X W (.BoolOp .And (a :: b :: rest) pos) (eAn ma mb) := by
  refine pe_imp (pe_andT ha hb) ?_
  rintro s H Q ⟨w, en, rfl, R, E, P⟩
  refine ⟨w, en, rfl, R, E, (Post.bind P).imp ?_⟩
  rintro v H1 ⟨w1, x, rfl, X1, R1, rx, P1⟩
  dsimp only at P1
  cases h : truD w1.st x with
  | none => rw [h] at P1; exact False.elim P1
  | some k =>
    rw [h] at P1
    refine ⟨k, rx.tru R1 h, ?_⟩
    replace P1 : Post (RepD X.K X.mg) X.K X.mg w1 (if k = true then mb en w1.st else .ok x w1.st) Q _ := P1
    cases k with
    | true =>
      rw [if_pos rfl] at P1 ⊢
      exact ⟨w1, en, rfl, R1, E.ext X1.toEx0, P1⟩
    | false =>
      rw [if_neg Bool.false_ne_true] at P1 ⊢
      exact Post.now P1 R1 rx
theorem re_or {rest : List Expr} (ha : RE X W a ma) (hb : RE X W (.BoolOp .Or (b :: rest) pos) mb) : RE X W (.BoolOp .Or (a :: b :: rest) pos) (eOr ma mb) := by
  refine pe_imp (pe_orT ha hb) ?_
  rintro s H Q ⟨w, en, rfl, R, E, P⟩
  refine ⟨w, en, rfl, R, E, (Post.bind P).imp ?_⟩
  rintro v H1 ⟨w1, x, rfl, X1, R1, rx, P1⟩
  dsimp only at P1
  cases h : truD w1.st x with
  | none => rw [h] at P1; exact False.elim P1
  | some k =>
    rw [h] at P1
    refine ⟨k, rx.tru R1 h, ?_⟩
    replace P1 : Post (RepD X.K X.mg) X.K X.mg w1 (if k = true then .ok x w1.st else mb en w1.st) Q _ := P1
    cases k with
    | true =>
      rw [if_pos rfl] at P1 ⊢
      exact Post.now P1 R1 rx
    | false =>
      rw [if_neg Bool.false_ne_true] at P1 ⊢
      exact ⟨w1, en, rfl, R1, E.ext X1.toEx0, P1⟩
theorem re_not (ha : RE X W a ma) : RE X W (.UnaryOp .Not a pos) (eNt ma) := by
  refine pe_imp (pe_notT ha) ?_
  rintro s H Q ⟨w, en, rfl, R, E, P⟩
  refine ⟨w, en, rfl, R, E, (Post.bind P).imp ?_⟩
  rintro v H1 ⟨w1, x, rfl, X1, R1, rx, P1⟩
  dsimp only at P1
  cases h : truD w1.st x with
  | none => rw [h] at P1; exact False.elim P1
  | some k =>
    rw [h] at P1
    exact ⟨k, rx.tru R1 h, Post.now P1 R1 (.bl _)⟩
def eIf (t : TM) (a b : EM) : EM := fun e S => (t e S).bind fun k S1 => if k then a e S1 else b e S1
theorem re_if (hc : RT X W c ta) (ha : RE X W a ma) (hb : RE X W b mb) : RE X W (.IfExp c a b pos) (eIf ta ma mb) := by
  refine pe_imp (pe_ifExp hc ha hb) ?_
  rintro s H Q ⟨w, en, rfl, R, E, P⟩
  refine ⟨w, en, rfl, R, E, (Post.bind P).imp ?_⟩
  rintro v H1 ⟨w1, x, rfl, X1, R1, rx, P1⟩
  cases rx
  dsimp only at P1
  cases v with
  | true =>
    rw [if_pos rfl] at P1 ⊢
    exact ⟨w1, en, rfl, R1, E.ext X1.toEx0, P1⟩
  | false =>
    rw [if_neg Bool.false_ne_true] at P1 ⊢
    exact ⟨w1, en, rfl, R1, E.ext X1.toEx0, P1⟩
/-- -a -/
def eNeg (a : EM) : EM := fun e S => (a e S).bind fun x S1 => match x with
  | .int i => .ok (.int (-i)) S1
  | _ => .stuck
theorem re_neg (ha : RE X W a ma) : RE X W (.UnaryOp .USub a pos) (eNeg ma) := by
  refine pe_imp (pe_un un_neg ha) ?_
  rintro s H Q ⟨w, en, rfl, R, E, P⟩
  refine ⟨w, en, rfl, R, E, (Post.bind P).imp ?_⟩
  rintro v H1 ⟨w1, x, rfl, X1, R1, rx, P1⟩
  cases x with
  | int i => cases rx; exact ⟨i, rfl, Post.now P1 R1 (.int _)⟩
  | _ => exact False.elim P1

/-! ### argument lists, displays -/
def aNil : AM := fun _ S => .ok [] S
def aCons (a : EM) (r : AM) : AM := fun e S => (a e S).bind fun x S1 => (r e S1).bind fun xs S2 => .ok (x :: xs) S2
theorem ra_nil : RA X W [] aNil := pa_imp pa_nil fun s H Q ⟨w, en, hw, R, E, P⟩ => by
  subst hw
  exact Post.now P R .nil
theorem ra_cons {mr : AM} (ha : RE X W e ma) (hr : RA X W es mr) (hs : starEach (e :: es) X.env = (false, eval e X.env) :: starEach es X.env := by rfl) : RA X W (e :: es) (aCons ma mr) := by
  refine pa_imp (pa_cons ha hr hs) ?_
  rintro s H Q ⟨w, en, rfl, R, E, P⟩
  refine ⟨w, en, rfl, R, E, (Post.bind P).imp ?_⟩
  rintro v H1 ⟨w1, x, rfl, X1, R1, rx, P1⟩
  refine ⟨w1, en, rfl, R1, E.ext X1.toEx0, (Post.bind P1).imp ?_⟩
  rintro vs H2 ⟨w2, y, rfl, X2, R2, ry, P2⟩
  exact Post.now P2 R2 (.cons (rx.ext X2.toEx0) ry)
def eTup (m : AM) : EM := fun e S => (m e S).bind fun xs S1 => if xs.length ≤ sizeLine then .ok (.tup xs) S1 else .stuck
/-- a list that is never changed; one that may be -/
def eLst (m : AM) : EM := fun e S => (m e S).bind fun xs S1 => if xs.length ≤ sizeLine then .ok (.lst xs) S1 else .stuck
def eNew (m : AM) : EM := fun e S => (m e S).bind fun xs S1 => if xs.length ≤ sizeLine then .ok (.loc S1.length) (S1 ++ [.lst xs]) else .stuck
theorem re_tup {m : AM} {x1} (h : RA X W es m) : RE X W (.Tuple es x1 pos) (eTup m) := by
  refine pe_imp (pe_tup h) ?_
  rintro s H Q ⟨w, en, rfl, R, E, P⟩
  refine ⟨w, en, rfl, R, E, (Post.bind P).imp ?_⟩
  rintro v H1 ⟨w1, x, rfl, X1, R1, rx, P1⟩
  dsimp only at P1
  split at P1
  · rename_i hz
    exact ⟨by rw [← rx.length]; exact hz, fun p hp => Post.put P1 R1 hp (.tup (.inl (put_st R1 hp).o) (rx.ext (put_ext R1 hp).toEx0))⟩
  · exact False.elim P1
theorem re_lst {m : AM} (h : RA X W es m) : RE X W (.List es pos) (eLst m) := by
  refine pe_imp (pe_lst h) ?_
  rintro s H Q ⟨w, en, rfl, R, E, P⟩
  refine ⟨w, en, rfl, R, E, (Post.bind P).imp ?_⟩
  rintro v H1 ⟨w1, x, rfl, X1, R1, rx, P1⟩
  dsimp only at P1
  split at P1
  · rename_i hz
    exact ⟨by rw [← rx.length]; exact hz, fun p hp => Post.put P1 R1 hp (.lst (put_st R1 hp) (rx.ext (put_ext R1 hp).toEx0))⟩
  · exact False.elim P1
theorem Post.new {β γ : Type} {Rl : Wo → β → γ → Prop} {K : PySem.W.Frag} {mg : Str → Option Value} {w : Wo} {b : β} {v : γ} {Q : γ → Hp → Prop} {E : XK} {p : Addr} {o : HO} {c : Cell} (h : Post Rl K mg w (.ok b (w.st ++ [c])) Q E) (R : Rep K mg w) (hn : w.hp p = none)
    (hc : CellR K mg (w.new p o c) p c) (q : Rl (w.new p o c) b v) : Q v (upd w.hp p o) :=
  h (w.new p o c) v (new_ext R hn) (R.new hn hc) rfl q
theorem re_new {m : AM} (h : RA X W es m) : RE X W (.List es pos) (eNew m) := by
  refine pe_imp (pe_lst h) ?_
  rintro s H Q ⟨w, en, rfl, R, E, P⟩
  refine ⟨w, en, rfl, R, E, (Post.bind P).imp ?_⟩
  rintro v H1 ⟨w1, x, rfl, X1, R1, rx, P1⟩
  dsimp only at P1
  split at P1
  · rename_i hz
    refine ⟨by rw [← rx.length]; exact hz, fun p hp => Post.new P1 R1 hp ⟨v, upd_same, rx.ext (new_ext R1 hp).toEx0⟩ (.loc (new_get R1))⟩
  · exact False.elim P1
/-- {} that is never changed -/
theorem re_dic0 : RE X W (.Dict [] [] pos) (eC (.dic [] [])) := by
  refine pe_imp pe_dnewK ?_
  rintro s H Q ⟨w, en, rfl, R, E, P⟩
  intro p hp
  exact Post.put P R hp (.dic (vs := []) (put_st R hp) rfl .nil)
end
end G

/-! ## C. subscripts, built-ins, statements, loops -/
namespace G
open PySem L2
section
variable {X : Cx} {W : WX} {a b c e o : Expr} {es : List Expr} {ma mb mc me : EM} {ta tb : TM} {pos : Pos}
variable {K : PySem.W.Frag} {mg : Str → Option Value} {w : Wo}
theorem RepL.at {l : List D} {vs : List V} {i : Int} {d : D} (h : RepL K mg w l vs) (e : atI l i = some d) : ∃ v, atI vs i = some v ∧ RepD K mg w d v := by
  unfold atI at e ⊢
  rw [← h.length]
  cases q : ixN l.length i with
  | none => rw [q] at e; cases e
  | some j =>
    rw [q] at e
    exact h.get e
def ixD (S : Store) : D → D → Option D
  | .tup l, .int i => atI l i
  | .lst l, .int i => atI l i
  | .scr l, .int i => atI l i
  | .str x, .int i => if x.length ≤ sizeLine then (atI x.cps.toList i).map fun c => .str ⟨#[c]⟩ else none
  | .loc n, .int i => match S[n]? with
    | some (.lst l) => atI l i
    | _ => none
  | _, _ => none
def OpMS (X : Cx) (f : Store → D → D → Option D) : R2 := fun v u H Q => ∃ w x y E, w.hp = H ∧ Rep X.K X.mg w ∧ RepD X.K X.mg w x v ∧ RepD X.K X.mg w y u ∧ Post (RepD X.K X.mg) X.K X.mg w (lf (f w.st x y) w.st) Q E
def eBinS (f : Store → D → D → Option D) (a b : EM) : EM := fun e S => (a e S).bind fun x S1 => (b e S1).bind fun y S2 => lf (f S2 x y) S2
theorem t_binS {f : Store → D → D → Option D} : ∀ s H Q, tG (RepD X.K X.mg) X W (eBinS f ma mb) s H Q → tOp (OpMS X f) (tG (RepD X.K X.mg) X W ma) (tG (RepD X.K X.mg) X W mb) s H Q := by
  rintro s H Q ⟨w, en, rfl, R, E, P⟩
  refine ⟨w, en, rfl, R, E, (Post.bind P).imp ?_⟩
  rintro v H1 ⟨w1, x, rfl, X1, R1, rx, P1⟩
  refine ⟨w1, en, rfl, R1, E.ext X1.toEx0, (Post.bind P1).imp ?_⟩
  rintro u H2 ⟨w2, y, rfl, X2, R2, ry, P2⟩
  exact ⟨w2, x, y, _, rfl, R2, rx.ext X2.toEx0, ry, P2⟩
theorem om_ix : IxR X (OpMS X ixD) := by
  intro va sl pins s σ H x y v u Q I rx ry h hs
  obtain ⟨w, dx, dy, E, rfl, R, qx, qy, P⟩ := h
  unfold ixD at P
  split at P
  · rename_i l i
    cases qy
    cases qx with
    | tup st r =>
      cases q : atI l i with
      | none => rw [q] at P; exact False.elim P
      | some d =>
        rw [q] at P
        obtain ⟨z, e1, rz⟩ := r.at q
        exact ix_tup va sl pins s σ w.hp _ _ v u Q I rx ry ⟨_, _, _, _, rfl, rfl, st.sq, e1, Post.now P R rz⟩ hs
  · rename_i l i
    cases qy
    cases qx with
    | lst st r =>
      cases q : atI l i with
      | none => rw [q] at P; exact False.elim P
      | some d =>
        rw [q] at P
        obtain ⟨z, e1, rz⟩ := r.at q
        exact ix_list va sl pins s σ w.hp _ _ v u Q I rx ry ⟨_, _, _, _, rfl, rfl, SqL.of st.1, e1, Post.now P R rz⟩ hs
  · rename_i l i
    cases qy
    cases qx with
    | scr st r =>
      cases q : atI l i with
      | none => rw [q] at P; exact False.elim P
      | some d =>
        rw [q] at P
        obtain ⟨z, e1, rz⟩ := r.at q
        exact ix_list va sl pins s σ w.hp _ _ v u Q I rx ry ⟨_, _, _, _, rfl, rfl, st.sq, e1, Post.now P R rz⟩ hs
  · rename_i z i
    cases qy; cases qx
    split at P
    · rename_i hz
      cases q : atI z.cps.toList i with
      | none => rw [q] at P; exact False.elim P
      | some ch =>
        rw [q] at P
        exact ix_str va sl pins s σ w.hp _ _ v u Q I rx ry ⟨_, _, _, rfl, rfl, hz, q, Post.now P R (.str _)⟩ hs
    · exact False.elim P
  · rename_i n i
    cases qy
    cases qx with
    | loc hn =>
      split at P
      · rename_i l hl
        obtain ⟨vs, p, r⟩ := R.cell _ _ _ hn hl
        cases q : atI l i with
        | none => rw [q] at P; exact False.elim P
        | some d =>
          rw [q] at P
          obtain ⟨z, e1, rz⟩ := r.at q
          exact ix_list va sl pins s σ w.hp _ _ v u Q I rx ry ⟨_, _, _, _, rfl, rfl, SqL.of p, e1, Post.now P R rz⟩ hs
      · exact False.elim P
  · exact False.elim P
theorem re_ix (ha : RE X W a ma) (hb : RE X W b mb) (hs : PlainIx b := by intro _ _; rfl) : RE X W (.Subscript a b pos) (eBinS ixD ma mb) := pe_imp (pe_ix om_ix ha hb hs) t_binS

/-! ### slices -/
abbrev OM := En → Store → Res (Option Int)
def RlO : Wo → Option Int → Option Int → Prop := fun _ b c => c = b
abbrev RO (X : Cx) (W : WX) (e : Option Expr) (m : OM) : Prop := PO X e (tG RlO X W m)
def oNone : OM := fun _ S => .ok none S
def oSome (m : EM) : OM := fun e S => (m e S).bind fun x S1 => match x with
  | .int i => .ok (some i) S1
  | _ => .stuck
theorem ro_none : RO X W none oNone := ⟨fun pins s σ H Q I ⟨w, en, hw, R, E, P⟩ => po_none.run pins s σ H Q I (by subst hw; exact Post.now P R rfl)⟩
theorem ro_some (ha : RE X W a ma) : RO X W (some a) (oSome ma) := ⟨fun pins s σ H Q I hq => (po_some ha).run pins s σ H Q I (by
  obtain ⟨w, en, rfl, R, E, P⟩ := hq
  refine ⟨w, en, rfl, R, E, (Post.bind P).imp ?_⟩
  rintro v H1 ⟨w1, x, rfl, X1, R1, rx, P1⟩
  cases x with
  | int i => cases rx; exact ⟨i, rfl, Post.now P1 R1 rfl⟩
  | _ => exact False.elim P1)⟩
def cutL {α : Type} (l : List α) (lo hi : Option Int) : List α := (l.drop (HT.sIx l.length 0 lo)).take (HT.sIx l.length l.length hi - HT.sIx l.length 0 lo)
theorem RepL.cut {l : List D} {vs : List V} (h : RepL K mg w l vs) (lo hi : Option Int) : RepL K mg w (cutL l lo hi) (cutV vs lo hi) := by
  unfold cutL cutV
  rw [h.length]
  exact (h.drop _).take _
def slD (S : Store) : D → Option Int → Option Int → Option D
  | .lst l, lo, hi => some (.lst (cutL l lo hi))
  | .scr l, lo, hi => some (.lst (cutL l lo hi))
  | .tup l, lo, hi => if HT.sIx l.length 0 lo = 0 ∧ HT.sIx l.length l.length hi = l.length then none else some (.tup (cutL l lo hi))
  | .loc n, lo, hi => match S[n]? with
    | some (.lst l) => some (.lst (cutL l lo hi))
    | _ => none
  | .str x, lo, hi => if x.length ≤ sizeLine then some (.str (cutS x lo hi)) else none
  | _, _, _ => none
def SlM (X : Cx) : V → Option Int → Option Int → Hp → VK → Prop := fun v lo hi H Q => ∃ w x E, w.hp = H ∧ Rep X.K X.mg w ∧ RepD X.K X.mg w x v ∧ Post (RepD X.K X.mg) X.K X.mg w (lf (slD w.st x lo hi) w.st) Q E
theorem om_sl : SlR X (SlM X) := by
  intro pins s σ H x v vl vu lo hi sl Q I rx hs pl pu h
  obtain ⟨w, dx, E, rfl, R, qx, P⟩ := h
  unfold slD at P
  split at P
  · cases qx with
    | lst st r => exact sl_list pins s σ w.hp _ v vl vu _ _ sl Q I rx hs pl pu ⟨_, _, rfl, SqL.of st.1, fun p hp => Post.put P R hp (.lst (put_st R hp) ((r.cut _ _).ext (put_ext R hp).toEx0))⟩
  · cases qx with
    | scr st r => exact sl_list pins s σ w.hp _ v vl vu _ _ sl Q I rx hs pl pu ⟨_, _, rfl, st.sq, fun p hp => Post.put P R hp (.lst (put_st R hp) ((r.cut _ _).ext (put_ext R hp).toEx0))⟩
  · split at P
    · exact False.elim P
    · rename_i hn
      cases qx with
      | tup st r =>
        rw [r.length] at hn
        exact sl_tup pins s σ w.hp _ v vl vu _ _ sl Q I rx hs pl pu ⟨_, _, rfl, st.sq, hn, fun p hp => Post.put P R hp (.tup (.inl (put_st R hp).o) ((r.cut _ _).ext (put_ext R hp).toEx0))⟩
  · cases qx with
    | loc hn =>
      split at P
      · rename_i l hl
        obtain ⟨vs, p, r⟩ := R.cell _ _ _ hn hl
        exact sl_list pins s σ w.hp _ v vl vu _ _ sl Q I rx hs pl pu ⟨_, _, rfl, SqL.of p, fun p hp => Post.put P R hp (.lst (put_st R hp) ((r.cut _ _).ext (put_ext R hp).toEx0))⟩
      · exact False.elim P
  · split at P
    · rename_i hz
      cases qx
      exact sl_str pins s σ w.hp _ v vl vu _ _ sl Q I rx hs pl pu ⟨_, rfl, hz, Post.now P R (.str _)⟩
    · exact False.elim P
  · exact False.elim P
def eSl (a : EM) (lo hi : OM) : EM := fun e S => (a e S).bind fun x S1 => (lo e S1).bind fun l S2 => (hi e S2).bind fun h S3 => lf (slD S3 x l h) S3
theorem re_sl {lo hi : Option Expr} {ml mh : OM} {p2 : Pos} (ha : RE X W a ma) (hl : RO X W lo ml) (hh : RO X W hi mh) : RE X W (.Subscript a (.Slice lo hi none p2) pos) (eSl ma ml mh) := by
  refine pe_imp (pe_slice om_sl ha hl hh) ?_
  rintro s H Q ⟨w, en, rfl, R, E, P⟩
  refine ⟨w, en, rfl, R, E, (Post.bind P).imp ?_⟩
  rintro v H1 ⟨w1, x, rfl, X1, R1, rx, P1⟩
  refine ⟨w1, en, rfl, R1, E.ext X1.toEx0, (Post.bind P1).imp ?_⟩
  rintro l H2 ⟨w2, y, rfl, X2, R2, ry, P2⟩
  cases ry
  refine ⟨w2, en, rfl, R2, (E.ext X1.toEx0).ext X2.toEx0, (Post.bind P2).imp ?_⟩
  rintro h H3 ⟨w3, z, rfl, X3, R3, rz, P3⟩
  cases rz
  exact ⟨w3, x, _, rfl, R3, (rx.ext X2.toEx0).ext X3.toEx0, P3⟩

/-! ### built-ins by name -/
def CaM (X : Cx) (f : Store → List D → Option D) : List V → Hp → VK → Prop := fun vs H Q => ∃ w xs E, w.hp = H ∧ Rep X.K X.mg w ∧ RepL X.K X.mg w xs vs ∧ Post (RepD X.K X.mg) X.K X.mg w (lf (f w.st xs) w.st) Q E
def eCa (f : Store → List D → Option D) (m : AM) : EM := fun e S => (m e S).bind fun xs S1 => lf (f S1 xs) S1
theorem t_ca {f : Store → List D → Option D} {m : AM} : ∀ s H Q, tG (RepD X.K X.mg) X W (eCa f m) s H Q → tCB (CaM X f) (tG (RepL X.K X.mg) X W m) s H Q := by
  rintro s H Q ⟨w, en, rfl, R, E, P⟩
  refine ⟨w, en, rfl, R, E, (Post.bind P).imp ?_⟩
  rintro v H1 ⟨w1, x, rfl, X1, R1, rx, P1⟩
  exact ⟨w1, x, _, rfl, R1, rx, P1⟩
theorem re_b {x : Str} {p : Pos} {id : String} {f : Store → List D → Option D} {m : AM} (hc : CallR X (.builtin id) (CaM X f)) (hg : Gl X x) (hm : X.mg x = none) (hv : bootBuiltins x = some (.builtin id)) (ha : RA X W (e :: es) m) (hn : x ≠ "__name__" := by decide) (hdb : (x == ("__debug__" : Str)) = false := by decide)
    (he : starEach (e :: es) X.env = (false, eval e X.env) :: starEach es X.env := by rfl) (hpl : (backTo pos (starEach es X.env)).any (·.1) = false := by rfl) : RE X W (.Call (.Name x p) (e :: es) [] pos) (eCa f m) :=
  pe_imp (pe_callB hc hg hm hv ha hn hdb he hpl) t_ca
theorem re_ty {x : Str} {p : Pos} {T : String} {f : Store → List D → Option D} {m : AM} (hc : CallR X (.type T) (CaM X f)) (hg : Gl X x) (hm : X.mg x = none) (hv : bootBuiltins x = some (.type T)) (ha : RA X W (e :: es) m) (hn : x ≠ "__name__" := by decide) (hdb : (x == ("__debug__" : Str)) = false := by decide)
    (he : starEach (e :: es) X.env = (false, eval e X.env) :: starEach es X.env := by rfl) (hpl : (backTo pos (starEach es X.env)).any (·.1) = false := by rfl) : RE X W (.Call (.Name x p) (e :: es) [] pos) (eCa f m) :=
  pe_imp (pe_callTy hc hg hm hv ha hn hdb he hpl) t_ca
theorem RepL.nil_inv {vs : List V} (h : RepL K mg w [] vs) : vs = [] := by cases h; rfl
theorem RepL.cons_inv {d : D} {l : List D} {vs : List V} (h : RepL K mg w (d :: l) vs) : ∃ v us, vs = v :: us ∧ RepD K mg w d v ∧ RepL K mg w l us := by
  cases h with
  | cons r t => exact ⟨_, _, rfl, r, t⟩
theorem RepL.one_inv {d : D} {vs : List V} (h : RepL K mg w [d] vs) : ∃ v, vs = [v] ∧ RepD K mg w d v := by
  obtain ⟨v, us, rfl, r, t⟩ := h.cons_inv
  rw [t.nil_inv]
  exact ⟨v, rfl, r⟩
theorem RepL.two_inv {d d' : D} {vs : List V} (h : RepL K mg w [d, d'] vs) : ∃ v v', vs = [v, v'] ∧ RepD K mg w d v ∧ RepD K mg w d' v' := by
  obtain ⟨v, us, rfl, r, t⟩ := h.cons_inv
  obtain ⟨v', rfl, r'⟩ := t.one_inv
  exact ⟨v, v', rfl, r, r'⟩
def fAbs : Store → List D → Option D
  | _, [.int i] => some (.int (if i < 0 then -i else i))
  | _, _ => none
theorem cm_abs : CallR X (.builtin "abs") (CaM X fAbs) := by
  intro pins s σ H xs us Q I r h
  obtain ⟨w, ds, E, rfl, R, q, P⟩ := h
  unfold fAbs at P
  split at P
  · obtain ⟨v, rfl, rv⟩ := q.one_inv
    cases rv
    exact call_abs pins s σ w.hp _ us Q I r ⟨_, rfl, Post.now P R (.int _)⟩
  · exact False.elim P
def fMax : Store → List D → Option D
  | _, [.int i, .int j] => some (.int (if j > i then j else i))
  | _, _ => none
theorem cm_max (hc : X.calm = true) : CallR X (.builtin "max") (CaM X fMax) := by
  intro pins s σ H xs us Q I r h
  obtain ⟨w, ds, E, rfl, R, q, P⟩ := h
  unfold fMax at P
  split at P
  · obtain ⟨v, v', rfl, rv, rv'⟩ := q.two_inv
    cases rv; cases rv'
    exact call_max2 hc pins s σ w.hp _ us Q I r ⟨_, _, rfl, Post.now P R (.int _)⟩
  · exact False.elim P
def fMin : Store → List D → Option D
  | _, [.int i, .int j] => some (.int (if j < i then j else i))
  | _, _ => none
theorem cm_min (hc : X.calm = true) : CallR X (.builtin "min") (CaM X fMin) := by
  intro pins s σ H xs us Q I r h
  obtain ⟨w, ds, E, rfl, R, q, P⟩ := h
  unfold fMin at P
  split at P
  · obtain ⟨v, v', rfl, rv, rv'⟩ := q.two_inv
    cases rv; cases rv'
    exact call_min2 hc pins s σ w.hp _ us Q I r ⟨_, _, rfl, Post.now P R (.int _)⟩
  · exact False.elim P
def lenD (S : Store) : D → Option Nat
  | .str x => if x.length ≤ sizeLine then some x.length else none
  | .tup l => some l.length
  | .lst l => some l.length
  | .scr l => some l.length
  | .loc n => match S[n]? with
    | some (.lst l) => some l.length
    | _ => none
  | _ => none
def fLen : Store → List D → Option D
  | S, [d] => (lenD S d).map fun n => .int n
  | _, _ => none
theorem RepD.len {d : D} {v : V} {n : Nat} (R : Rep K mg w) (h : RepD K mg w d v) (e : lenD w.st d = some n) : LenV K v w.hp n := by
  cases h with
  | str x =>
    replace e : (if x.length ≤ sizeLine then some x.length else none) = some n := e
    split at e
    · cases e; exact ⟨by assumption, rfl⟩
    · cases e
  | tup s r => cases e; exact .inr ⟨_, s.sq, r.length⟩
  | lst s r => cases e; exact .inl ⟨_, SqL.of s.1, r.length⟩
  | scr s r => cases e; exact .inl ⟨_, s.sq, r.length⟩
  | @loc m a hn =>
    replace e : (match w.st[m]? with
      | some (.lst l) => some l.length
      | _ => none) = some n := e
    split at e
    · rename_i l hl
      cases e
      obtain ⟨vs, p, r⟩ := R.cell _ _ _ hn hl
      exact .inl ⟨vs, SqL.of p, r.length⟩
    · cases e
  | _ => cases e
theorem cm_len : CallR X (.builtin "len") (CaM X fLen) := by
  intro pins s σ H xs us Q I r h
  obtain ⟨w, ds, E, rfl, R, q, P⟩ := h
  unfold fLen at P
  split at P
  · rename_i d
    obtain ⟨v, rfl, rv⟩ := q.one_inv
    cases e : lenD w.st d with
    | none => rw [e] at P; exact False.elim P
    | some n =>
      rw [e] at P
      exact call_len pins s σ w.hp _ us Q I r ⟨_, n, rfl, rv.len R e, Post.now P R (.int _)⟩
  · exact False.elim P
def fInt : Store → List D → Option D
  | _, [.int i] => some (.int i)
  | _, [.bl b] => some (.int (if b then 1 else 0))
  | _, _ => none
theorem cm_int : CallR X (.type "int") (CaM X fInt) := by
  intro pins s σ H xs us Q I r h
  obtain ⟨w, ds, E, rfl, R, q, P⟩ := h
  unfold fInt at P
  split at P
  · obtain ⟨v, rfl, rv⟩ := q.one_inv
    cases rv
    exact call_int1 pins s σ w.hp _ us Q I r (.inl ⟨_, rfl, Post.now P R (.int _)⟩)
  · obtain ⟨v, rfl, rv⟩ := q.one_inv
    cases rv
    exact call_int1 pins s σ w.hp _ us Q I r (.inr ⟨_, rfl, Post.now P R (.int _)⟩)
  · exact False.elim P
def fDivmod : Store → List D → Option D
  | _, [.int i, .int j] => if 0 < j ∧ j < 1073741824 then some (.tup [.int (i / j), .int (i % j)]) else none
  | _, _ => none
theorem cm_divmod : CallR X (.builtin "divmod") (CaM X fDivmod) := by
  intro pins s σ H xs us Q I r h
  obtain ⟨w, ds, E, rfl, R, q, P⟩ := h
  unfold fDivmod at P
  split at P
  · split at P
    · rename_i hj
      obtain ⟨v, v', rfl, rv, rv'⟩ := q.two_inv
      cases rv; cases rv'
      exact call_divmod pins s σ w.hp _ us Q I r ⟨_, _, rfl, hj, fun p hp => Post.put P R hp (.tup (.inl (put_st R hp).o) (.cons (.int _) (.cons (.int _) .nil)))⟩
    · exact False.elim P
  · exact False.elim P
/-- the truths of a list -/
def bools : List D → Option (List Bool)
  | [] => some []
  | .bl b :: l => (bools l).map (b :: ·)
  | _ :: _ => none
theorem RepL.bools {l : List D} {vs : List V} {bs : List Bool} (h : RepL K mg w l vs) (e : bools l = some bs) : vs = bs.map V.bl := by
  induction l generalizing vs bs with
  | nil => cases h; cases e; rfl
  | cons d l ih =>
    cases h with
    | cons r t =>
      cases d with
      | bl b =>
        cases r
        rw [G.bools] at e
        obtain ⟨cs, e1, rfl⟩ := Option.map_eq_some_iff.mp e
        rw [ih t e1]; rfl
      | _ => cases e
def seqD (S : Store) : D → Option (List D)
  | .lst l => some l
  | .scr l => some l
  | .loc n => match S[n]? with
    | some (.lst l) => some l
    | _ => none
  | _ => none
theorem RepD.seq {d : D} {v : V} {l : List D} (R : Rep K mg w) (h : RepD K mg w d v) (e : seqD w.st d = some l) : ∃ a vs, v = .ref a ∧ SqL K w.hp a vs ∧ RepL K mg w l vs := by
  cases h with
  | lst s r => cases e; exact ⟨_, _, rfl, SqL.of s.1, r⟩
  | scr s r => cases e; exact ⟨_, _, rfl, s.sq, r⟩
  | @loc m a hn =>
    replace e : (match w.st[m]? with
      | some (.lst l) => some l
      | _ => none) = some l := e
    split at e
    · rename_i l hl
      cases e
      obtain ⟨vs, p, r⟩ := R.cell _ _ _ hn hl
      exact ⟨_, vs, rfl, SqL.of p, r⟩
    · cases e
  | _ => cases e
def fAll : Store → List D → Option D
  | S, [d] => ((seqD S d).bind bools).map fun bs => .bl (bs.all id)
  | _, _ => none
theorem cm_all (hc : X.calm = true) : CallR X (.builtin "all") (CaM X fAll) := by
  intro pins s σ H xs us Q I r h
  obtain ⟨w, ds, E, rfl, R, q, P⟩ := h
  unfold fAll at P
  split at P
  · rename_i d
    obtain ⟨v, rfl, rv⟩ := q.one_inv
    cases e : (seqD w.st d).bind bools with
    | none => rw [e] at P; exact False.elim P
    | some bs =>
      rw [e] at P
      obtain ⟨l, e1, e2⟩ := Option.bind_eq_some_iff.mp e
      obtain ⟨a, vs, rfl, hs, hl⟩ := rv.seq R e1
      exact cr_all hc pins s σ w.hp _ us Q I r ⟨a, bs, rfl, by rw [← hl.bools e2]; exact hs, Post.now P R (.bl _)⟩
  · exact False.elim P
def fAny : Store → List D → Option D
  | S, [d] => ((seqD S d).bind bools).map fun bs => .bl (bs.any id)
  | _, _ => none
theorem cm_any (hc : X.calm = true) : CallR X (.builtin "any") (CaM X fAny) := by
  intro pins s σ H xs us Q I r h
  obtain ⟨w, ds, E, rfl, R, q, P⟩ := h
  unfold fAny at P
  split at P
  · rename_i d
    obtain ⟨v, rfl, rv⟩ := q.one_inv
    cases e : (seqD w.st d).bind bools with
    | none => rw [e] at P; exact False.elim P
    | some bs =>
      rw [e] at P
      obtain ⟨l, e1, e2⟩ := Option.bind_eq_some_iff.mp e
      obtain ⟨a, vs, rfl, hs, hl⟩ := rv.seq R e1
      exact cr_any hc pins s σ w.hp _ us Q I r ⟨a, bs, rfl, by rw [← hl.bools e2]; exact hs, Post.now P R (.bl _)⟩
  · exact False.elim P
/-- list(x): a new one that is never changed; tuple(x) -/
def fList : Store → List D → Option D
  | _, [.tup l] => some (.lst l)
  | S, [d] => (seqD S d).map .lst
  | _, _ => none
theorem cm_list : CallR X (.type "list") (CaM X fList) := by
  intro pins s σ H xs us Q I r h
  obtain ⟨w, ds, E, rfl, R, q, P⟩ := h
  unfold fList at P
  split at P
  · obtain ⟨v, rfl, rv⟩ := q.one_inv
    cases rv with
    | tup st rl => exact call_list_of pins s σ w.hp _ us Q I r ⟨_, _, rfl, .inr st.sq, fun p hp => Post.put P R hp (.lst (put_st R hp) (rl.ext (put_ext R hp).toEx0))⟩
  · rename_i d _
    obtain ⟨v, rfl, rv⟩ := q.one_inv
    cases e : seqD w.st d with
    | none => rw [e] at P; exact False.elim P
    | some l =>
      rw [e] at P
      obtain ⟨a, vs, rfl, hs, hl⟩ := rv.seq R e
      exact call_list_of pins s σ w.hp _ us Q I r ⟨_, _, rfl, .inl hs, fun p hp => Post.put P R hp (.lst (put_st R hp) (hl.ext (put_ext R hp).toEx0))⟩
  · exact False.elim P
def fTuple : Store → List D → Option D
  | _, [.tup l] => some (.tup l)
  | S, [d] => (seqD S d).map .tup
  | _, _ => none
theorem cm_tuple : CallR X (.type "tuple") (CaM X fTuple) := by
  intro pins s σ H xs us Q I r h
  obtain ⟨w, ds, E, rfl, R, q, P⟩ := h
  unfold fTuple at P
  split at P
  · obtain ⟨v, rfl, rv⟩ := q.one_inv
    cases rv with
    | tup st rl => exact call_tuple_of pins s σ w.hp _ us Q I r ⟨_, _, rfl, .inr ⟨st.sq, Post.now P R (.tup st rl)⟩⟩
  · rename_i d _
    obtain ⟨v, rfl, rv⟩ := q.one_inv
    cases e : seqD w.st d with
    | none => rw [e] at P; exact False.elim P
    | some l =>
      rw [e] at P
      obtain ⟨a, vs, rfl, hs, hl⟩ := rv.seq R e
      exact call_tuple_of pins s σ w.hp _ us Q I r ⟨_, _, rfl, .inl ⟨hs, fun p hp => Post.put P R hp (.tup (.inl (put_st R hp).o) (hl.ext (put_ext R hp).toEx0))⟩⟩
  · exact False.elim P

/-! ### isinstance of built-in types -/
theorem bt_isinstance : bootBuiltins "isinstance" = some (.builtin "isinstance") := by decide +kernel
theorem bt_abs : bootBuiltins "abs" = some (.builtin "abs") := by decide +kernel
theorem bt_max : bootBuiltins "max" = some (.builtin "max") := by decide +kernel
theorem bt_min : bootBuiltins "min" = some (.builtin "min") := by decide +kernel
theorem bt_len : bootBuiltins "len" = some (.builtin "len") := by decide +kernel
theorem bt_divmod : bootBuiltins "divmod" = some (.builtin "divmod") := by decide +kernel
theorem bt_all : bootBuiltins "all" = some (.builtin "all") := by decide +kernel
theorem bt_any : bootBuiltins "any" = some (.builtin "any") := by decide +kernel
theorem bt_int : bootBuiltins "int" = some (.type "int") := by decide +kernel
theorem bt_bool : bootBuiltins "bool" = some (.type "bool") := by decide +kernel
theorem bt_str : bootBuiltins "str" = some (.type "str") := by decide +kernel
theorem bt_list : bootBuiltins "list" = some (.type "list") := by decide +kernel
theorem bt_tuple : bootBuiltins "tuple" = some (.type "tuple") := by decide +kernel
theorem bt_dict : bootBuiltins "dict" = some (.type "dict") := by decide +kernel
theorem bt_ValueError : bootBuiltins "ValueError" = some (.type "ValueError") := by decide +kernel
theorem bt_LookupError : bootBuiltins "LookupError" = some (.type "LookupError") := by decide +kernel
theorem bt_ArithmeticError : bootBuiltins "ArithmeticError" = some (.type "ArithmeticError") := by decide +kernel
inductive Ty where
  | int | bool | str | tuple | list | dict
def Ty.nm : Ty → String
  | .int => "int" | .bool => "bool" | .str => "str" | .tuple => "tuple" | .list => "list" | .dict => "dict"
inductive Tn where
  | non | bool | int | str | tuple | list | dict
def Tn.nm : Tn → String
  | .non => "NoneType" | .bool => "bool" | .int => "int" | .str => "str" | .tuple => "tuple" | .list => "list" | .dict => "dict"
def Tn.is : Tn → Ty → Bool
  | .int, .int => true
  | .bool, .int => true
  | .bool, .bool => true
  | .str, .str => true
  | .tuple, .tuple => true
  | .list, .list => true
  | .dict, .dict => true
  | _, _ => false
theorem Tn.kit (t : Tn) (y : Ty) : kitB t.nm y.nm = some (t.is y) := by
  cases t <;> cases y <;> decide +kernel
def tyC : Option Cell → Option Tn
  | some (.lst _) => some .list
  | some (.dk _) => some .dict
  | some (.dt _) => some .dict
  | _ => none
def tyD (S : Store) : D → Option Tn
  | .non => some .non
  | .bl _ => some .bool
  | .int _ => some .int
  | .str _ => some .str
  | .tup _ => some .tuple
  | .lst _ => some .list
  | .scr _ => some .list
  | .dic _ _ => some .dict
  | .loc n => tyC S[n]?
  | .exc _ _ => none
  | .ins _ _ => none
def isTy (S : Store) (y : Ty) (d : D) : Option Bool := (tyD S d).map fun t => t.is y
theorem RepD.tyX {d : D} {v : V} {t : Tn} (R : Rep K mg w) (h : RepD K mg w d v) (e : tyD w.st d = some t) : TyX K w.hp v (.type t.nm) := by
  cases h with
  | non => cases e; exact .base .non
  | bl k => cases e; exact .base (.bl k)
  | int i => cases e; exact .base (.int i)
  | str x => cases e; exact .base (.str x)
  | tup s r =>
    cases e
    rcases s with ⟨s | ⟨o, s⟩, _⟩ | ⟨o, its, n, hk, hc, _⟩
    · exact .base (.tup s)
    · exact .fTuple s
    · exact .kTuple hk hc
  | lst s r => cases e; exact .base (.lst s.1)
  | scr s r =>
    cases e
    rcases s with ⟨s | ⟨o, s⟩, _⟩ | ⟨o, its, n, hk, hc, _⟩
    · exact .base (.lst s)
    · exact .base (.frz s)
    · exact .kList hk hc
  | dic s z r => cases e; exact .base (.dK s.1)
  | @loc m a hn =>
    replace e : tyC w.st[m]? = some t := e
    cases q : w.st[m]? with
    | none => rw [q] at e; cases e
    | some cl =>
      rw [q] at e
      cases cl with
      | lst l =>
        cases e
        obtain ⟨vs, p, r⟩ := R.cell _ _ _ hn q
        exact .base (.lst p)
      | dk l =>
        cases e
        obtain ⟨vs, p, r⟩ := R.cell _ _ _ hn q
        exact .base (.dK p)
      | dt l =>
        cases e
        obtain ⟨vs, p, r⟩ := R.cell _ _ _ hn q
        exact .base (.dT p)
      | _ => cases e
  | ins _ _ _ => cases e
  | exc _ _ _ _ => cases e
def eIsTy (y : Ty) (m : EM) : EM := fun e S => (m e S).bind fun x S1 => lf ((isTy S1 y x).map .bl) S1
theorem re_isTy {T : Str} {p p2 : Pos} (y : Ty) (hm : X.mg "isinstance" = none) (hT : X.mg T = none) (hv : bootBuiltins T = some (.type y.nm)) (ha : RE X W a ma) (hg : Gl X "isinstance" := by rfl) (hgT : Gl X T := by rfl) (hn : T ≠ "__name__" := by decide) (hdT : (T == ("__debug__" : Str)) = false := by decide)
    (he : starEach (a :: [.Name T p2]) X.env = (false, eval a X.env) :: starEach [.Name T p2] X.env := by rfl) (hpl : (backTo pos (starEach [.Name T p2] X.env)).any (·.1) = false := by rfl) (hs2 : starEach [.Name T p2] X.env = (false, eval (.Name T p2) X.env) :: starEach [] X.env := by rfl) :
    RE X W (.Call (.Name "isinstance" p) [a, .Name T p2] [] pos) (eIsTy y ma) := by
  refine pe_imp (pe_callB call_isi hg hm bt_isinstance (pa_cons ha (pa_cons (pe_bltn (v := .ty y.nm) hgT hT hv rfl hn hdT) pa_nil hs2) he) (by decide) (by decide) he hpl) ?_
  rintro s H Q ⟨w, en, rfl, R, E, P⟩
  refine ⟨w, en, rfl, R, E, (Post.bind P).imp ?_⟩
  rintro v H1 ⟨w1, d, rfl, X1, R1, rx, P1⟩
  dsimp only at P1
  unfold isTy at P1
  cases q : tyD w1.st d with
  | none => rw [q] at P1; exact False.elim P1
  | some t =>
    rw [q] at P1
    exact ⟨v, .ty y.nm, .type t.nm, .type y.nm, t.is y, rfl, .ty _, rx.tyX R1 q, kit_ty (t.kit y), Post.now P1 R1 (.bl _)⟩
end
end G

/-! ## D. statements -/
namespace G
open PySem L2
inductive SRes where
  | nxt (e : En) (S : Store)
  | ret (d : D) (S : Store)
  | brk (e : En) (S : Store)
  | cnt (e : En) (S : Store)
  | exc (x : D) (e : En) (S : Store)
  | stuck
abbrev SM := En → Store → SRes
def PostS (X : Cx) (W : WX) (w : Wo) (r : SRes) (D : Ends) : Prop := match r with
  | .nxt e S => ∀ w' s', Ext w w' → Rep X.K X.mg w' → w'.st = S → RepE X.K X.mg w' e s' → D.nx s' w'.hp
  | .ret d S => ∀ w' v, Ext w w' → Rep X.K X.mg w' → w'.st = S → RepD X.K X.mg w' d v → D.rt v w'.hp
  | .brk e S => ∀ w' s', Ext w w' → Rep X.K X.mg w' → w'.st = S → RepE X.K X.mg w' e s' → D.bk s' w'.hp
  | .cnt e S => ∀ w' s', Ext w w' → Rep X.K X.mg w' → w'.st = S → RepE X.K X.mg w' e s' → D.ct s' w'.hp
  | .exc x e S => ∀ w' s' cls dd, Ext w w' → Rep X.K X.mg w' → w'.st = S → RepE X.K X.mg w' e s' → RepX X.K X.mg w' x cls dd → W cls dd s' w'.hp
  | .stuck => False
def tS (X : Cx) (W : WX) (m : SM) : TS := fun D s H => ∃ w e, w.hp = H ∧ Rep X.K X.mg w ∧ RepE X.K X.mg w e s ∧ PostS X W w (m e w.st) D
abbrev RS (X : Cx) (W : WX) (st : Stmt) (m : SM) : Prop := PS X st (tS X W m)
abbrev RSs (X : Cx) (W : WX) (st : List Stmt) (m : SM) : Prop := PSs X st (tS X W m)
/-- an expression, then a statement's rest -/
def sE {β : Type} (r : Res β) (e : En) (k : β → Store → SRes) : SRes := match r with
  | .ok b S => k b S
  | .exc x S => .exc x e S
  | .stuck => .stuck
def sS (r : SRes) (k : SM) : SRes := match r with
  | .nxt e S => k e S
  | r => r
section
variable {X : Cx} {W : WX} {a b c e o : Expr} {es : List Expr} {ma mb mc me : EM} {ta tb : TM} {pos : Pos} {st : Stmt} {rest : List Stmt} {m n : SM}
theorem ps_imp {t t' : TS} (h : PS X st t) (i : ∀ D s H, t' D s H → t D s H) : PS X st t' := ⟨fun pins s σ H D I q => h.run pins s σ H D I (i _ _ _ q)⟩
theorem pss_imp {t t' : TS} (h : PSs X rest t) (i : ∀ D s H, t' D s H → t D s H) : PSs X rest t' := ⟨fun pins s σ H D I q => h.run pins s σ H D I (i _ _ _ q)⟩
theorem PostS.ext {w w' : Wo} {r : SRes} {D : Ends} (h : PostS X W w r D) (x : Ext w w') : PostS X W w' r D := by
  cases r with
  | nxt e S => exact fun w2 s e => h w2 s (x.trans e)
  | ret e S => exact fun w2 s e => h w2 s (x.trans e)
  | brk e S => exact fun w2 s e => h w2 s (x.trans e)
  | cnt e S => exact fun w2 s e => h w2 s (x.trans e)
  | exc y e S => exact fun w2 s c d e => h w2 s c d (x.trans e)
  | stuck => exact h
def MidS {β γ : Type} (Rl : Wo → β → γ → Prop) (X : Cx) (W : WX) (w : Wo) (k : β → Store → SRes) (D : Ends) : γ → Hp → Prop := fun v H =>
  ∃ w1 b, w1.hp = H ∧ Ext w w1 ∧ Rep X.K X.mg w1 ∧ Rl w1 b v ∧ PostS X W w1 (k b w1.st) D
theorem PostS.of {β γ : Type} {Rl : Wo → β → γ → Prop} {w : Wo} {r : Res β} {en : En} {s : St} {k : β → Store → SRes} {D : Ends} (h : PostS X W w (sE r en k) D) (E : RepE X.K X.mg w en s) :
    Post Rl X.K X.mg w r (MidS Rl X W w k D) (fun cls dd H' => W cls dd s H') := by
  cases r with
  | ok b S =>
    intro w1 v x R st q
    subst st
    exact ⟨w1, b, rfl, x, R, q, PostS.ext h x⟩
  | exc y S => exact fun w1 cls dd x R st q => h w1 s cls dd x R st (E.ext x.toEx0) q
  | stuck => exact h
def sNop : SM := fun e S => .nxt e S
theorem rss_nil : RSs X W [] sNop := pss_imp pss_nil fun D s H ⟨w, en, hw, R, E, P⟩ => by
  subst hw
  exact P w s (Ext.refl w) R rfl E
def sSeq (m n : SM) : SM := fun e S => sS (m e S) n
theorem PostS.s {w : Wo} {r : SRes} {n : SM} {D : Ends} (h : PostS X W w (sS r n) D) : PostS X W w r { D with nx := tS X W n D } := by
  cases r with
  | nxt e S =>
    intro w1 s x R st E
    subst st
    exact ⟨w1, e, rfl, R, E, PostS.ext h x⟩
  | ret e S => exact h
  | brk e S => exact h
  | cnt e S => exact h
  | exc y e S => exact h
  | stuck => exact h
theorem rss_cons (h1 : RS X W st m) (h2 : RSs X W rest n) : RSs X W (st :: rest) (sSeq m n) := by
  refine pss_imp (pss_cons h1 h2) ?_
  rintro D s H ⟨w, en, rfl, R, E, P⟩
  exact ⟨w, en, rfl, R, E, PostS.s P⟩
theorem rss_one (h1 : RS X W st m) : RSs X W [st] m := pss_one h1
theorem rs_pass : RS X W (.Pass pos) sNop := ps_imp ps_pass fun D s H ⟨w, en, hw, R, E, P⟩ => by
  subst hw
  exact P w s (Ext.refl w) R rfl E
theorem rs_doc {x j pos pos'} : RS X W (.Expr (.Constant (.str x) j pos) pos') sNop := ps_imp ps_doc fun D s H ⟨w, en, hw, R, E, P⟩ => by
  subst hw
  exact P w s (Ext.refl w) R rfl E
def sBrk : SM := fun e S => .brk e S
def sCnt : SM := fun e S => .cnt e S
theorem rs_break : RS X W (.Break pos) sBrk := ps_imp ps_break fun D s H ⟨w, en, hw, R, E, P⟩ => by
  subst hw
  exact P w s (Ext.refl w) R rfl E
theorem rs_continue : RS X W (.Continue pos) sCnt := ps_imp ps_continue fun D s H ⟨w, en, hw, R, E, P⟩ => by
  subst hw
  exact P w s (Ext.refl w) R rfl E
def sDrop (m : EM) : SM := fun e S => sE (m e S) e fun _ S1 => .nxt e S1
theorem rs_expr (he : RE X W e me) (hs : swapsWith e none pos.line X.env = pure false := by rfl) : RS X W (.Expr e pos) (sDrop me) := by
  refine ps_imp (ps_expr he hs) ?_
  rintro D s H ⟨w, en, rfl, R, E, P⟩
  refine ⟨w, en, rfl, R, E, (PostS.of P E).imp ?_⟩
  rintro v H1 ⟨w1, x, rfl, X1, R1, rx, P1⟩
  exact P1 w1 s (Ext.refl w1) R1 rfl (E.ext X1.toEx0)
def sRet (m : EM) : SM := fun e S => sE (m e S) e fun d S1 => .ret d S1
theorem rs_ret (he : RE X W e me) : RS X W (.Return (some e) pos) (sRet me) := by
  refine ps_imp (ps_ret he) ?_
  rintro D s H ⟨w, en, rfl, R, E, P⟩
  refine ⟨w, en, rfl, R, E, (PostS.of P E).imp ?_⟩
  rintro v H1 ⟨w1, x, rfl, X1, R1, rx, P1⟩
  exact P1 w1 v (Ext.refl w1) R1 rfl rx
def sRetN : SM := fun e S => .ret .non S
theorem rs_retN : RS X W (.Return none pos) sRetN := ps_imp ps_retN fun D s H ⟨w, en, hw, R, E, P⟩ => by
  subst hw
  exact P w _ (Ext.refl w) R rfl .non
def sIf (t : TM) (m n : SM) : SM := fun e S => sE (t e S) e fun k S1 => if k then m e S1 else n e S1
theorem rs_if {p q : List Stmt} (hc : RT X W c ta) (ha : RSs X W p m) (hb : RSs X W q n) : RS X W (.If c p q pos) (sIf ta m n) := by
  refine ps_imp (ps_if hc ha hb) ?_
  rintro D s H ⟨w, en, rfl, R, E, P⟩
  refine ⟨w, en, rfl, R, E, (PostS.of P E).imp ?_⟩
  rintro v H1 ⟨w1, x, rfl, X1, R1, rx, P1⟩
  cases rx
  dsimp only at P1
  cases v with
  | true =>
    rw [if_pos rfl] at P1 ⊢
    exact ⟨w1, en, rfl, R1, E.ext X1.toEx0, P1⟩
  | false =>
    rw [if_neg Bool.false_ne_true] at P1 ⊢
    exact ⟨w1, en, rfl, R1, E.ext X1.toEx0, P1⟩

/-! ### targets -/
abbrev GM := D → En → Store → Res En
def tGt (X : Cx) (W : WX) (g : GM) : TG := fun v s H Q => ∃ w e d, w.hp = H ∧ Rep X.K X.mg w ∧ RepE X.K X.mg w e s ∧ RepD X.K X.mg w d v ∧ Post (RepE X.K X.mg) X.K X.mg w (g d e w.st) Q (fun cls dd H' => W cls dd s H')
abbrev RG (X : Cx) (W : WX) (tg : Expr) (g : GM) : Prop := PG X tg (tGt X W g)
theorem pg_imp {tg : Expr} {t t' : TG} (h : PG X tg t) (i : ∀ v s H Q, t' v s H Q → t v s H Q) : PG X tg t' := ⟨fun pins s σ H v u Q I r q => h.run pins s σ H v u Q I r (i _ _ _ _ q)⟩
def gN (i : Nat) : GM := fun d e S => .ok (e.set i (some d)) S
theorem rg_name {i : Nat} {x : Str} (hN : X.N.Nodup) (hi : X.N[i]? = some x) (hx : Loc X.env.scope x := by first | exact Or.inl rfl | exact Or.inr rfl) (hf : X.fn x = true ∨ X.env.scope.names.lookup x = some .local := by first | exact .inl rfl | exact .inr rfl | assumption) : RG X W (.Name x pos) (gN i) := by
  refine pg_imp (pg_name hN hi hx hf) ?_
  rintro v s H Q ⟨w, en, d, rfl, R, E, rd, P⟩
  exact Post.now P R (E.set i rd)
abbrev GMs := List D → En → Store → Res En
def tGts (X : Cx) (W : WX) (g : GMs) : TGs := fun vs s H Q => ∃ w e ds, w.hp = H ∧ Rep X.K X.mg w ∧ RepE X.K X.mg w e s ∧ RepL X.K X.mg w ds vs ∧ Post (RepE X.K X.mg) X.K X.mg w (g ds e w.st) Q (fun cls dd H' => W cls dd s H')
abbrev RGs (X : Cx) (W : WX) (ts : List Expr) (g : GMs) : Prop := PGs X ts (tGts X W g)
theorem pgs_imp {ts : List Expr} {t t' : TGs} (h : PGs X ts t) (i : ∀ v s H Q, t' v s H Q → t v s H Q) : PGs X ts t' := ⟨fun pins s σ H v u Q I r q => h.run pins s σ H v u Q I r (i _ _ _ _ q)⟩
def gsNil : GMs := fun ds e S => match ds with
  | [] => .ok e S
  | _ => .stuck
def gsCons (g : GM) (r : GMs) : GMs := fun ds e S => match ds with
  | d :: ds => (g d e S).bind fun e1 S1 => r ds e1 S1
  | _ => .stuck
theorem rgs_nil : RGs X W [] gsNil := by
  refine pgs_imp pgs_nil ?_
  rintro v s H Q ⟨w, en, ds, rfl, R, E, rd, P⟩
  cases rd with
  | nil => exact ⟨rfl, Post.now P R E⟩
  | cons _ _ => exact False.elim P
/-- the slots behind a target's store; what a target raises is not followed -/
def noX {β : Type} : Res β → Res β
  | .exc _ _ => .stuck
  | r => r
def gsCons' (g : GM) (r : GMs) : GMs := fun ds e S => match ds with
  | d :: ds => (noX (g d e S)).bind fun e1 S1 => noX (r ds e1 S1)
  | _ => .stuck
theorem Post.noX {β γ : Type} {Rl : Wo → β → γ → Prop} {K : PySem.W.Frag} {mg : Str → Option Value} {w : Wo} {r : Res β} {Q : γ → Hp → Prop} {E E' : XK} (h : Post Rl K mg w (G.noX r) Q E) : Post Rl K mg w r Q E' := by
  cases r with
  | ok _ _ => exact h
  | exc _ _ => exact False.elim h
  | stuck => exact h
theorem rgs_cons {tg : Expr} {ts : List Expr} {g : GM} {r : GMs} (h1 : RG X W tg g) (h2 : RGs X W ts r)
    (hs : (assignEach (tg :: ts) X.env).map (·.2) = assign tg X.env :: (assignEach ts X.env).map (·.2) := by rfl) : RGs X W (tg :: ts) (gsCons' g r) := by
  refine pgs_imp (pgs_cons h1 h2 hs) ?_
  rintro v s H Q ⟨w, en, ds, rfl, R, E, rd, P⟩
  cases rd with
  | nil => exact False.elim P
  | cons r1 r2 =>
    refine ⟨_, _, rfl, w, en, _, rfl, R, E, r1, Post.noX (E := fun cls dd H' => W cls dd s H') ((Post.bind P).imp ?_)⟩
    rintro s1 H1 ⟨w1, e1, rfl, X1, R1, E1, P1⟩
    exact ⟨w1, e1, _, rfl, R1, E1, r2.ext X1.toEx0, Post.noX P1⟩
def gTp (n : Nat) (r : GMs) : GM := fun d e S => match d with
  | .tup ds => if ds.length = n then r ds e S else .stuck
  | _ => .stuck
theorem rg_tup {ts : List Expr} {k n : Nat} {r : GMs} (hc : X.calm = true) (h : RGs X W ts r) (hn : (assignEach ts X.env).length = n := by rfl) (hst : (assignEach ts X.env).findIdx? (·.1) = none := by rfl) : RG X W (.Tuple ts k pos) (gTp n r) := by
  refine pg_imp (pg_tup hc h hn hst) ?_
  rintro v s H Q ⟨w, en, d, rfl, R, E, rd, P⟩
  unfold gTp at P
  split at P
  · split at P
    · rename_i hl
      cases rd with
      | tup st rl => exact ⟨_, _, rfl, st.sq, by rw [← rl.length]; exact hl, w, en, _, rfl, R, E, rl, P⟩
    · exact False.elim P
  · exact False.elim P
/-- xs[i] = v, xs a list of the store -/
def setD (S : Store) (o i d : D) : Option Store := match o, i with
  | .loc n, .int k => match S[n]? with
    | some (.lst l) => (ixN l.length k).map fun j => S.set n (.lst (l.set j d))
    | _ => none
  | _, _ => none
def gSb (o i : EM) : GM := fun d e S => (noX (o e S)).bind fun x S1 => (noX (i e S1)).bind fun y S2 => match setD S2 x y d with
  | some S3 => .ok e S3
  | none => .stuck
theorem rg_sub (ho : RE X W o ma) (hi : RE X W b mb)
    (ha : ∀ v, assign (.Subscript o b pos) X.env v = (do
      let ov ← holding [v] (eval o X.env)
      let iv ← holding [v, ov] (eval b X.env)
      standAt pos
      holding [v, ov, iv] (setItem ov iv v)
      release [v, ov, iv] []) := by intro _; rfl) : RG X W (.Subscript o b pos) (gSb ma mb) := by
  refine pg_imp (pg_sub ho hi set_list ha) ?_
  rintro v s H Q ⟨w, en, d, rfl, R, E, rd, P⟩
  refine ⟨w, en, rfl, R, E, Post.noX (E := fun cls dd H' => W cls dd s H') ((Post.bind P).imp ?_)⟩
  rintro ov H1 ⟨w1, x, rfl, X1, R1, rx, P1⟩
  refine ⟨w1, en, rfl, R1, E.ext X1.toEx0, Post.noX (E := fun cls dd H' => W cls dd s H') ((Post.bind P1).imp ?_)⟩
  rintro iv H2 ⟨w2, y, rfl, X2, R2, ry, P2⟩
  have rx' := rx.ext X2.toEx0
  dsimp only at P2
  cases q : setD w2.st x y d with
  | none => rw [q] at P2; exact False.elim P2
  | some S3 =>
    rw [q] at P2
    unfold setD at q
    split at q
    · rename_i m k
      cases ry
      cases rx' with
      | @loc _ ad hn =>
        split at q
        · rename_i l hl
          obtain ⟨j, e1, rfl⟩ := Option.map_eq_some_iff.mp q
          obtain ⟨vs, p, r⟩ := R2.cell _ _ _ hn hl
          have rd' := (rd.ext X1.toEx0).ext X2.toEx0
          have Xw : Ext w2 (w2.wr m ad (.lst (vs.set j v)) (.lst (l.set j d))) := wr_ext R2 hn hl (by intro z; cases z)
          refine ⟨_, vs, k, j, rfl, rfl, p, by rw [← r.length]; exact e1, ?_⟩
          exact P2 (w2.wr m ad (.lst (vs.set j v)) (.lst (l.set j d))) s Xw (R2.wr hn hl (by intro z; cases z) ⟨_, upd_same, (r.set rd' j).ext Xw.toEx0⟩) rfl (((E.ext X1.toEx0).ext X2.toEx0).ext Xw.toEx0)
        · cases q
    · cases q
/-- target = value -/
def sAsg (m : EM) (g : GM) : SM := fun e S => sE (m e S) e fun d S1 => sE (g d e S1) e fun e1 S2 => .nxt e1 S2
theorem rs_asg {tg : Expr} {g : GM} (he : RE X W e me) (hg : RG X W tg g) (hs : swapsWithSole [tg] e pos.line X.env = pure false := by rfl) (hw : swappedStores [tg] e X.env = pure none := by rfl)
    (h1 : (assignEach [tg] X.env).map (·.2) = [assign tg X.env] := by rfl) : RS X W (.Assign [tg] e pos) (sAsg me g) := by
  refine ps_imp (ps_asg he hg hs hw h1) ?_
  rintro D s H ⟨w, en, rfl, R, E, P⟩
  refine ⟨w, en, rfl, R, E, (PostS.of P E).imp ?_⟩
  rintro v H1 ⟨w1, x, rfl, X1, R1, rx, P1⟩
  refine ⟨w1, en, x, rfl, R1, E.ext X1.toEx0, rx, (PostS.of P1 (E.ext X1.toEx0)).imp ?_⟩
  rintro s1 H2 ⟨w2, e2, rfl, X2, R2, E2, P2⟩
  exact P2 w2 s1 (Ext.refl w2) R2 rfl E2
def sSet (i : Nat) (m : EM) : SM := fun e S => sE (m e S) e fun d S1 => .nxt (e.set i (some d)) S1
theorem rs_set {i : Nat} {x : Str} {pos' : Pos} (hN : X.N.Nodup) (hi : X.N[i]? = some x) (he : RE X W e me) (hx : Loc X.env.scope x := by first | exact Or.inl rfl | exact Or.inr rfl) (hs : swapsWith e (some (.Name x pos')) pos.line X.env = pure false := by rfl) (hf : X.fn x = true ∨ X.env.scope.names.lookup x = some .local := by first | exact .inl rfl | exact .inr rfl | assumption) :
    RS X W (.Assign [.Name x pos'] e pos) (sSet i me) := by
  refine ps_imp (ps_set hN hi hx he hs hf) ?_
  rintro D s H ⟨w, en, rfl, R, E, P⟩
  refine ⟨w, en, rfl, R, E, (PostS.of P E).imp ?_⟩
  rintro v H1 ⟨w1, x, rfl, X1, R1, rx, P1⟩
  exact P1 w1 _ (Ext.refl w1) R1 rfl ((E.ext X1.toEx0).set i rx)
/-- a, b = x, y -/
def sPar (i j : Nat) (m : AM) : SM := fun e S => sE (m e S) e fun ds S1 => match ds with
  | [x, y] => .nxt ((e.set i (some x)).set j (some y)) S1
  | _ => .stuck
theorem rs_par {i j : Nat} {x y : Str} {m : AM} {px py pt : Pos} {kt k2 pt2} (hc : X.calm = true) (hN : X.N.Nodup) (hi : X.N[i]? = some x) (hj : X.N[j]? = some y) (hij : i ≠ j) (ha : RA X W [a, b] m)
    (hx : X.env.scope.names.lookup x = some .local := by rfl) (hy : X.env.scope.names.lookup y = some .local := by rfl)
    (hw : swappedStores [.Tuple [.Name x px, .Name y py] kt pt] (.Tuple [a, b] k2 pt2) X.env = pure (some [x, y]) := by rfl)
    (hs : swapsWithSole [.Tuple [.Name x px, .Name y py] kt pt] (.Tuple [a, b] k2 pt2) pos.line X.env = pure false := by rfl) :
    RS X W (.Assign [.Tuple [.Name x px, .Name y py] kt pt] (.Tuple [a, b] k2 pt2) pos) (sPar i j m) := by
  refine ps_imp (ps_par hc hN hi hj hij hx hy ha hw hs) ?_
  rintro D s H ⟨w, en, rfl, R, E, P⟩
  refine ⟨w, en, rfl, R, E, (PostS.of P E).imp ?_⟩
  rintro v H1 ⟨w1, ds, rfl, X1, R1, rx, P1⟩
  dsimp only at P1
  split at P1
  · obtain ⟨v, v', rfl, r1, r2⟩ := rx.two_inv
    exact ⟨v, v', rfl, P1 w1 _ (Ext.refl w1) R1 rfl (((E.ext X1.toEx0).set i r1).set j r2)⟩
  · exact False.elim P1
/-- while -/
def wlR (t : TM) (m : SM) : Nat → SM
  | 0 => fun _ _ => .stuck
  | k + 1 => fun e S => sE (t e S) e fun b S1 => if b then (match m e S1 with
    | .nxt e2 S2 => wlR t m k e2 S2
    | .cnt e2 S2 => wlR t m k e2 S2
    | .brk e2 S2 => .nxt e2 S2
    | r => r) else .nxt e S1
theorem rs_while (k : Nat) {body : List Stmt} (hp : PassesOwn (model X.prog X.w) X.A X.env X.xe) (hc : RT X W c ta) (hb : RSs X W body m) : RS X W (.While c body [] pos) (wlR ta m k) := by
  refine ps_imp (ps_while hp hc hb) ?_
  rintro D s H ⟨w, en, rfl, R, E, P⟩
  refine ⟨fun j s H => ∃ w e, w.hp = H ∧ Rep X.K X.mg w ∧ RepE X.K X.mg w e s ∧ PostS X W w (wlR ta m j e w.st) D, ⟨k, w, en, rfl, R, E, P⟩, ?_⟩
  rintro j s H ⟨w, en, rfl, R, E, P⟩
  cases j with
  | zero => exact False.elim P
  | succ j =>
    refine ⟨w, en, rfl, R, E, (PostS.of P E).imp ?_⟩
    rintro v H1 ⟨w1, x, rfl, X1, R1, rx, P1⟩
    cases rx
    dsimp only at P1
    cases v with
    | false =>
      rw [if_neg Bool.false_ne_true] at P1 ⊢
      exact P1 w1 s (Ext.refl w1) R1 rfl (E.ext X1.toEx0)
    | true =>
      rw [if_pos rfl] at P1 ⊢
      refine ⟨fun s' H' => ∃ w e, w.hp = H' ∧ Rep X.K X.mg w ∧ RepE X.K X.mg w e s' ∧ PostS X W w (wlR ta m j e w.st) D, fun s' H' h => ⟨j, Nat.lt_succ_self j, h⟩, w1, en, rfl, R1, E.ext X1.toEx0, ?_⟩
      cases q : m en w1.st with
      | nxt e S =>
        rw [q] at P1
        exact fun w2 s2 x2 R2 st E2 => ⟨w2, e, rfl, R2, E2, by rw [st]; exact PostS.ext P1 x2⟩
      | cnt e S =>
        rw [q] at P1
        exact fun w2 s2 x2 R2 st E2 => ⟨w2, e, rfl, R2, E2, by rw [st]; exact PostS.ext P1 x2⟩
      | brk e S => rw [q] at P1; exact P1
      | ret e S => rw [q] at P1; exact P1
      | exc y e S => rw [q] at P1; exact P1
      | stuck => rw [q] at P1; exact P1

/-! ### what is walked -/
def ItsR (X : Cx) : Wo → List D → It → Prop := fun w ds J => ∀ w2, Ex0 w w2 → Rep X.K X.mg w2 →
  (∀ i, i < ds.length → J.go i w2.hp ∧ ∀ x H', J.yld i w2.hp x H' → ∃ w3 d, w3.hp = H' ∧ Ext w2 w3 ∧ Rep X.K X.mg w3 ∧ w3.st = w2.st ∧ w3.al = w2.al ∧ ds[i]? = some d ∧ RepD X.K X.mg w3 d x) ∧ J.stop ds.length w2.hp
abbrev RI (X : Cx) (W : WX) (tg it : Expr) (m : AM) : Prop := PI X tg it (tG (ItsR X) X W m)
theorem its_list {w : Wo} {ds : List D} {ad : Addr} {vs : List V} (st : ∀ w2, Ex0 w w2 → SqL X.K w2.hp ad vs) (r : RepL X.K X.mg w ds vs) : ItsR X w ds (Itl X.K ad) := by
  intro w2 x2 R2
  have s2 := st w2 x2
  refine ⟨fun i hi => ⟨⟨vs, vs[i]'(by rw [← r.length]; exact hi), s2, by simp⟩, fun x H' y => ?_⟩, ⟨vs, s2, by rw [r.length]; exact Nat.le_refl _⟩⟩
  obtain ⟨rfl, y⟩ := y
  obtain ⟨d, e1, rd⟩ := r.getV (y vs s2)
  exact ⟨w2, d, rfl, Ext.refl w2, R2, rfl, rfl, e1, rd.ext x2⟩
theorem its_tup {w : Wo} {ds : List D} {ad : Addr} {vs : List V} (st : ∀ w2, Ex0 w w2 → SqT X.K w2.hp ad vs) (r : RepL X.K X.mg w ds vs) : ItsR X w ds (Itt X.K ad) := by
  intro w2 x2 R2
  have s2 := st w2 x2
  refine ⟨fun i hi => ⟨⟨vs, vs[i]'(by rw [← r.length]; exact hi), s2, by simp⟩, fun x H' y => ?_⟩, ⟨vs, s2, by rw [r.length]; exact Nat.le_refl _⟩⟩
  obtain ⟨rfl, y⟩ := y
  obtain ⟨d, e1, rd⟩ := r.getV (y vs s2)
  exact ⟨w2, d, rfl, Ext.refl w2, R2, rfl, rfl, e1, rd.ext x2⟩
/-- a list or tuple that never changes -/
def iSeq (m : EM) : AM := fun e S => (m e S).bind fun d S1 => match d with
  | .tup l => .ok l S1
  | .lst l => .ok l S1
  | .scr l => .ok l S1
  | _ => .stuck
theorem ri_e {tg : Expr} (ha : RE X W a ma) : RI X W tg a (iSeq ma) := by
  refine ⟨fun pins s σ H R' I h => ?_⟩
  obtain ⟨w, en, rfl, R, E, P⟩ := h
  cases q : ma en w.st with
  | stuck => unfold iSeq at P; rw [q] at P; exact False.elim P
  | exc x S =>
    unfold iSeq at P; rw [q] at P
    exact (pi_list ha).run pins s σ w.hp R' I ⟨w, en, rfl, R, E, by rw [q]; exact P⟩
  | ok d S =>
    unfold iSeq at P; rw [q] at P
    cases d with
    | tup l =>
      refine (pi_tup ha).run pins s σ w.hp R' I ⟨w, en, rfl, R, E, ?_⟩
      rw [q]
      intro w1 v x1 R1 s1 r1
      cases r1 with
      | tup st rl => exact ⟨_, rfl, ⟨_, st.sq⟩, P w1 _ x1 R1 s1 (its_tup (fun w2 x2 => (st.ext x2).sq) rl)⟩
    | lst l =>
      refine (pi_list ha).run pins s σ w.hp R' I ⟨w, en, rfl, R, E, ?_⟩
      rw [q]
      intro w1 v x1 R1 s1 r1
      cases r1 with
      | lst st rl => exact ⟨_, rfl, ⟨_, SqL.of st.1⟩, P w1 _ x1 R1 s1 (its_list (fun w2 x2 => SqL.of (st.ext x2).1) rl)⟩
    | scr l =>
      refine (pi_list ha).run pins s σ w.hp R' I ⟨w, en, rfl, R, E, ?_⟩
      rw [q]
      intro w1 v x1 R1 s1 r1
      cases r1 with
      | scr st rl => exact ⟨_, rfl, ⟨_, st.sq⟩, P w1 _ x1 R1 s1 (its_list (fun w2 x2 => (st.ext x2).sq) rl)⟩
    | _ => exact False.elim P
/-- range(n), range(a, b) -/
def rangeD (lo : Int) (n : Nat) : List D := (List.range n).map fun k => .int (lo + (k : Nat))
theorem its_range {w : Wo} (lo : Int) (n : Nat) : ItsR X w (rangeD lo n) (Itr lo n) := by
  intro w2 x2 R2
  have hl : (rangeD lo n).length = n := by unfold rangeD; simp
  refine ⟨fun i hi => ⟨by rw [hl] at hi; exact hi, fun x H' y => ?_⟩, by rw [hl]; exact Nat.le_refl _⟩
  obtain ⟨rfl, rfl⟩ := y
  rw [hl] at hi
  exact ⟨w2, .int (lo + i), rfl, Ext.refl w2, R2, rfl, rfl, by unfold rangeD; simp [hi], .int _⟩
def iRg1 (m : AM) : AM := fun e S => (m e S).bind fun ds S1 => match ds with
  | [.int j] => if -(2 ^ 62) ≤ j ∧ j < 2 ^ 62 then .ok (rangeD 0 j.toNat) S1 else .stuck
  | _ => .stuck
theorem ri_range1 {tg : Expr} {m : AM} {p : Pos} (hm : X.mg "range" = none) (ha : RA X W [a] m) (hg : Gl X "range" := by rfl) (hs : starEach [a] X.env = [(false, eval a X.env)] := by rfl) : RI X W tg (.Call (.Name "range" p) [a] [] pos) (iRg1 m) := by
  refine ⟨fun pins s σ H R' I h => (pi_range1 hg hm ha hs).run pins s σ H R' I ?_⟩
  obtain ⟨w, en, rfl, R, E, P⟩ := h
  refine ⟨w, en, rfl, R, E, (Post.bind P).imp ?_⟩
  rintro vs H1 ⟨w1, ds, rfl, X1, R1, rx, P1⟩
  dsimp only at P1
  split at P1
  · split at P1
    · rename_i hj
      obtain ⟨v, rfl, rv⟩ := rx.one_inv
      cases rv
      exact ⟨_, rfl, hj.1, hj.2, Post.now P1 R1 (its_range 0 _)⟩
    · exact False.elim P1
  · exact False.elim P1
def iRg2 (m : AM) : AM := fun e S => (m e S).bind fun ds S1 => match ds with
  | [.int i, .int j] => if -(2 ^ 62) ≤ i ∧ i < 2 ^ 62 ∧ -(2 ^ 62) ≤ j ∧ j < 2 ^ 62 then .ok (rangeD i (j - i).toNat) S1 else .stuck
  | _ => .stuck
theorem ri_range2 {tg : Expr} {m : AM} {p : Pos} (hm : X.mg "range" = none) (ha : RA X W [a, b] m) (hg : Gl X "range" := by rfl) (hs : starEach [a, b] X.env = [(false, eval a X.env), (false, eval b X.env)] := by rfl) (hs2 : starEach [b] X.env = [(false, eval b X.env)] := by rfl) : RI X W tg (.Call (.Name "range" p) [a, b] [] pos) (iRg2 m) := by
  refine ⟨fun pins s σ H R' I h => (pi_range2 hg hm ha hs hs2).run pins s σ H R' I ?_⟩
  obtain ⟨w, en, rfl, R, E, P⟩ := h
  refine ⟨w, en, rfl, R, E, (Post.bind P).imp ?_⟩
  rintro vs H1 ⟨w1, ds, rfl, X1, R1, rx, P1⟩
  dsimp only at P1
  split at P1
  · split at P1
    · rename_i hj
      obtain ⟨v, v', rfl, rv, rv'⟩ := rx.two_inv
      cases rv; cases rv'
      exact ⟨_, _, rfl, hj, Post.now P1 R1 (its_range _ _)⟩
    · exact False.elim P1
  · exact False.elim P1
/-- for -/
def fiR (g : GM) (m : SM) : List D → SM
  | [] => fun e S => .nxt e S
  | d :: ds => fun e S => sE (g d e S) e fun e1 S1 => match m e1 S1 with
    | .nxt e2 S2 => fiR g m ds e2 S2
    | .cnt e2 S2 => fiR g m ds e2 S2
    | .brk e2 S2 => .nxt e2 S2
    | r => r
def sFor (i : AM) (g : GM) (m : SM) : SM := fun e S => sE (i e S) e fun ds S1 => fiR g m ds e S1
theorem rs_for {tg it : Expr} {i : AM} {g : GM} {body : List Stmt} (hp : PassesOwn (model X.prog X.w) X.A X.env X.xe) (hc : X.calm = true) (hi : RI X W tg it i) (hg : RG X W tg g) (hb : RSs X W body m) (hs : ∀ x, foldedSetIterable it X.env x = pure x := by intro _; rfl) :
    RS X W (.For tg it body [] pos) (sFor i g m) := by
  refine ps_imp (ps_for hp hc hi hg hb hs) ?_
  rintro D s H ⟨w, en, rfl, R, E, P⟩
  refine ⟨w, en, rfl, R, E, (PostS.of P E).imp ?_⟩
  rintro J H1 ⟨w1, ds, rfl, X1, R1, its, P1⟩
  refine ⟨fun j k s H => k = ds.length - j ∧ j ≤ ds.length ∧ ∃ w e, w.hp = H ∧ Ext w1 w ∧ Rep X.K X.mg w ∧ RepE X.K X.mg w e s ∧ PostS X W w (fiR g m (ds.drop j) e w.st) D,
    ⟨ds.length, rfl, Nat.zero_le _, w1, en, rfl, Ext.refl w1, R1, E.ext X1.toEx0, P1⟩, ?_⟩
  rintro j k s H ⟨rfl, hj, w, en, rfl, x1, R, E, P⟩
  obtain ⟨go, stop⟩ := its w x1.toEx0 R
  by_cases hlt : j < ds.length
  · obtain ⟨go1, yl⟩ := go j hlt
    refine .inr ⟨go1, fun s' H' => ∃ w e, w.hp = H' ∧ Ext w1 w ∧ Rep X.K X.mg w ∧ RepE X.K X.mg w e s' ∧ PostS X W w (fiR g m (ds.drop (j + 1)) e w.st) D, fun s' H' h => ⟨ds.length - (j + 1), by omega, rfl, hlt, h⟩, fun x H' y => ?_⟩
    obtain ⟨w3, d, rfl, x3, R3, st3, _, hd, rd⟩ := yl x H' y
    have e1 : ds.drop j = d :: ds.drop (j + 1) := by
      obtain ⟨hl, rfl⟩ := List.getElem?_eq_some_iff.mp hd
      exact List.drop_eq_getElem_cons hl
    rw [e1] at P
    have P' : PostS X W w3 (sE (g d en w3.st) en fun e1 S1 => match m e1 S1 with
      | .nxt e2 S2 => fiR g m (ds.drop (j + 1)) e2 S2
      | .cnt e2 S2 => fiR g m (ds.drop (j + 1)) e2 S2
      | .brk e2 S2 => .nxt e2 S2
      | r => r) D := by rw [st3]; exact PostS.ext P x3
    refine ⟨w3, en, d, rfl, R3, E.ext x3.toEx0, rd, (PostS.of P' (E.ext x3.toEx0)).imp ?_⟩
    rintro s4 H4 ⟨w4, e4, rfl, x4, R4, E4, P4⟩
    refine ⟨w4, e4, rfl, R4, E4, ?_⟩
    have x14 : Ext w1 w4 := (x1.trans x3).trans x4
    dsimp only at P4
    cases q : m e4 w4.st with
    | nxt e S => rw [q] at P4; exact fun w5 s5 x5 R5 st E5 => ⟨w5, e, rfl, x14.trans x5, R5, E5, by rw [st]; exact PostS.ext P4 x5⟩
    | cnt e S => rw [q] at P4; exact fun w5 s5 x5 R5 st E5 => ⟨w5, e, rfl, x14.trans x5, R5, E5, by rw [st]; exact PostS.ext P4 x5⟩
    | brk e S => rw [q] at P4; exact P4
    | ret e S => rw [q] at P4; exact P4
    | exc y e S => rw [q] at P4; exact P4
    | stuck => rw [q] at P4; exact P4
  · have e : j = ds.length := by omega
    subst e
    rw [List.drop_length] at P
    exact .inl ⟨stop, P w s (Ext.refl w) R rfl E⟩
end
end G

/-! ## E. comprehensions -/
namespace G
open PySem L2
/-- targets of a comprehension: a name, names of a tuple -/
inductive Tg where
  | nm (i : Nat)
  | tp (is : List Nat)
def gNs : List Nat → TGs
  | [] => gNil
  | i :: r => gCons (gName i) (gNs r)
def Tg.r (K : PySem.W.Frag) : Tg → TG
  | .nm i => gName i
  | .tp is => gTup K is.length (gNs is)
def putAll : List Nat → List D → En → Option En
  | [], [], e => some e
  | i :: is, d :: ds, e => putAll is ds (e.set i (some d))
  | _, _, _ => none
def Tg.m : Tg → D → En → Option En
  | .nm i, d, e => some (e.set i (some d))
  | .tp is, .tup ds, e => putAll is ds e
  | _, _, _ => none
def Tg.ix : Tg → List Nat
  | .nm i => [i]
  | .tp is => is
def wipeE (e : En) : List Nat → En
  | [] => e
  | v :: vs => (wipeE e vs).set v none
def W0 : WX := fun _ _ _ _ => False
section
variable {X : Cx} {W : WX} {a b c e o : Expr} {es : List Expr} {ma mb mc me : EM} {ta tb : TM} {pos : Pos}
variable {K : PySem.W.Frag} {mg : Str → Option Value} {w : Wo}
theorem RepE.wipe {en : En} {s : St} (h : RepE K mg w en s) : ∀ vs : List Nat, RepE K mg w (wipeE en vs) (L2.wipe s vs)
  | [] => h
  | v :: vs => (RepE.wipe h vs).gone v
theorem wipe_at (s : St) (j : Nat) : ∀ vs : List Nat, (L2.wipe s vs)[j]? = if j ∈ vs then (if j < s.length then some none else none) else s[j]?
  | [] => by simp [L2.wipe]
  | v :: vs => by
    have ih := wipe_at s j vs
    unfold L2.wipe
    by_cases hv : v = j
    · subst hv
      rw [if_pos List.mem_cons_self]
      by_cases hl : v < s.length
      · rw [if_pos hl, List.getElem?_set_self (by rw [wipe_length]; exact hl)]
      · rw [if_neg hl, List.getElem?_eq_none (by rw [List.length_set, wipe_length]; omega)]
    · rw [List.getElem?_set_ne hv, ih]
      have e : (j ∈ v :: vs) ↔ j ∈ vs := by
        rw [List.mem_cons]
        exact ⟨fun h => h.resolve_left (Ne.symm hv), .inr⟩
      simp only [e]
theorem wipe_eq {s t : St} {vs : List Nat} (hl : s.length = t.length) (h : ∀ j, j ∉ vs → s[j]? = t[j]?) : L2.wipe s vs = L2.wipe t vs := by
  refine List.ext_getElem? fun j => ?_
  rw [wipe_at, wipe_at, hl]
  by_cases hj : j ∈ vs
  · rw [if_pos hj, if_pos hj]
  · rw [if_neg hj, if_neg hj]; exact h j hj
/-- the names' readings: which slots are set -/
theorem gNs_ok : ∀ (is : List Nat) (ds : List D) (us : List V) (en en' : En) (s : St) (H : Hp) (Q : St → Hp → Prop), RepE K mg w en s → RepL K mg w ds us → putAll is ds en = some en' →
    (∀ s', RepE K mg w en' s' → s'.length = s.length → (∀ j, j ∉ is → s'[j]? = s[j]?) → Q s' H) → gNs is us s H Q
  | [], ds, us, en, en', s, H, Q, E, R, h, q => by
    cases ds with
    | nil =>
      cases h
      cases R
      exact ⟨rfl, q s E rfl fun _ _ => rfl⟩
    | cons _ _ => cases h
  | i :: is, ds, us, en, en', s, H, Q, E, R, h, q => by
    cases ds with
    | nil => cases h
    | cons d ds =>
      cases R with
      | cons r R =>
        refine ⟨_, _, rfl, ?_⟩
        refine gNs_ok is ds _ _ en' _ H Q (E.set i r) R h fun s' E' hl hj => q s' E' (by rw [hl, List.length_set]) fun j hn => ?_
        rw [hj j fun z => hn (List.mem_cons_of_mem _ z), List.getElem?_set_ne fun z : i = j => hn (by rw [z]; exact List.mem_cons_self)]
theorem Tg.ok (tg : Tg) {d : D} {v : V} {en en' : En} {s : St} {Q : St → Hp → Prop} (E : RepE K mg w en s) (R : RepD K mg w d v) (h : tg.m d en = some en')
    (q : ∀ s', RepE K mg w en' s' → s'.length = s.length → (∀ j, j ∉ tg.ix → s'[j]? = s[j]?) → Q s' w.hp) : tg.r K v s w.hp Q := by
  cases tg with
  | nm i =>
    cases h
    exact q _ (E.set i R) (by rw [List.length_set]) fun j hj => List.getElem?_set_ne fun z => hj (by rw [z]; exact List.mem_cons_self)
  | tp is =>
    cases R with
    | tup st rl =>
      have hl : ∀ (is : List Nat) (ds : List D) (en en' : En), putAll is ds en = some en' → is.length = ds.length := by
        intro is
        induction is with
        | nil => intro ds en en' h; cases ds with
          | nil => rfl
          | cons _ _ => cases h
        | cons i is ih => intro ds en en' h; cases ds with
          | nil => cases h
          | cons _ _ => exact congrArg Nat.succ (ih _ _ _ h)
      exact ⟨_, _, rfl, st.sq, by rw [← rl.length]; exact (hl _ _ _ _ h).symm, gNs_ok is _ _ en en' s w.hp Q E rl h q⟩
    | _ => cases h
def lcR (g : Tg) (t : TM) (m : EM) (e : En) : List D → List D → Store → Res (List D)
  | [], acc, S => .ok acc S
  | d :: ds, acc, S => match g.m d e with
    | some e1 => (noX (t e1 S)).bind fun b S2 => if b then (noX (m e1 S2)).bind fun y S3 => if acc.length < sizeLine then lcR g t m e ds (acc ++ [y]) S3 else .stuck else lcR g t m e ds acc S2
    | none => .stuck
def eLc (i : AM) (g : Tg) (t : TM) (m : EM) (vs : List Nat) : EM := fun e S => (i e S).bind fun ds S1 => (lcR g t m (wipeE e vs) ds [] S1).bind fun acc S2 => .ok (.lst acc) S2
/-- the same, its list a cell of the store -/
def eLcN (i : AM) (g : Tg) (t : TM) (m : EM) (vs : List Nat) : EM := fun e S => (i e S).bind fun ds S1 => (lcR g t m (wipeE e vs) ds [] S1).bind fun acc S2 => .ok (.loc S2.length) (S2 ++ [.lst acc])
/-- what is built is hidden -/
def Wo.hide (w : Wo) (p : Addr) (o : HO) : Wo := ⟨w.al, w.st, upd w.hp p o, p :: w.hid⟩
theorem hide_ex (R : Rep K mg w) {p : Addr} {o : HO} (hn : w.hp p = none) : Ex0 w (w.hide p o) := by
  refine ⟨⟨[], by simp [Wo.hide]⟩, fun a h => ?_, fun a u h _ => ?_, fun a u h => ⟨u, ?_⟩⟩
  · rcases h with h | h
    · exact .inl (.inl h)
    · rcases List.mem_cons.mp h with h | h
      · exact .inr (by rw [h]; exact hn)
      · exact .inl (.inr h)
  · show upd w.hp p o a = _
    rw [upd_ne (ne_of_none h hn)]; exact h
  · show upd w.hp p o a = _
    rw [upd_ne (ne_of_none h hn)]; exact h
theorem Rep.hide (R : Rep K mg w) {p : Addr} {o : HO} (hn : w.hp p = none) : Rep K mg (w.hide p o) := by
  have X := hide_ex (o := o) R hn
  refine ⟨R.len, R.nd, fun a h => ?_, fun n a c h1 h2 => ?_, fun a h => ?_⟩
  · obtain ⟨u, e⟩ := R.tr a h
    exact X.tr a u e
  · refine (R.cell n a c h1 h2).ext X ?_
    show upd w.hp p o a = _
    exact upd_ne fun z => R.not_mem hn (z ▸ List.mem_of_getElem? h1)
  · rcases List.mem_cons.mp h with h | h
    · subst h; exact ⟨R.not_mem hn, o, upd_same⟩
    · obtain ⟨h1, u, e⟩ := R.hid a h
      exact ⟨h1, X.tr a u e⟩
/-- .. grows .. -/
def Wo.gro (w : Wo) (p : Addr) (o : HO) : Wo := ⟨w.al, w.st, upd w.hp p o, w.hid⟩
theorem gro_ex {p : Addr} {o : HO} (hm : p ∈ w.hid) : Ex0 w (w.gro p o) := by
  refine ⟨⟨[], by simp [Wo.gro]⟩, fun a h => .inl h, fun a u h z => ?_, fun a u h => ?_⟩
  · show upd w.hp p o a = _
    rw [upd_ne fun e : a = p => z (.inr (e ▸ hm))]; exact h
  · by_cases e : a = p
    · subst e; exact ⟨o, upd_same⟩
    · exact ⟨u, by show upd w.hp p o a = _; rw [upd_ne e]; exact h⟩
theorem Rep.gro (R : Rep K mg w) {p : Addr} {o : HO} (hm : p ∈ w.hid) : Rep K mg (w.gro p o) := by
  have X := gro_ex (o := o) hm
  refine ⟨R.len, R.nd, fun a h => ?_, fun n a c h1 h2 => ?_, fun a h => ?_⟩
  · obtain ⟨u, e⟩ := R.tr a h
    exact X.tr a u e
  · refine (R.cell n a c h1 h2).ext X ?_
    show upd w.hp p o a = _
    exact upd_ne fun z => (R.hid p hm).1 (z ▸ List.mem_of_getElem? h1)
  · obtain ⟨h1, u, e⟩ := R.hid a h
    exact ⟨h1, X.tr a u e⟩
/-- .. and is shown -/
def Wo.shw (w : Wo) (hs : List Addr) : Wo := ⟨w.al, w.st, w.hp, hs⟩
theorem shw_ex {hs : List Addr} (hm : ∀ a, a ∈ hs → a ∈ w.hid) : Ex0 w (w.shw hs) :=
  ⟨⟨[], by simp [Wo.shw]⟩, fun a h => .inl (h.imp id (hm a)), fun a u h _ => h, fun a u h => ⟨u, h⟩⟩
theorem Rep.shw (R : Rep K mg w) {hs : List Addr} (hm : ∀ a, a ∈ hs → a ∈ w.hid) : Rep K mg (w.shw hs) :=
  ⟨R.len, R.nd, R.tr, fun n a c h1 h2 => (R.cell n a c h1 h2).ext (shw_ex hm) rfl, fun a h => R.hid a (hm a h)⟩

theorem t_lcCore {i : AM} {g : Tg} {t : TM} {m : EM} {vs : List Nat} {fin : List D → Store → Res D} (hg : ∀ j, j ∈ g.ix → j ∈ vs)
    (hfin : ∀ (w1 w : Wo) (p : Addr) (us : List V) (acc : List D) (Q : VK) (E : XK), Rep X.K X.mg w1 → w1.hp p = none → Rep X.K X.mg w → Ex0 w1 w → w.hid = p :: w1.hid → (∀ a, a ∈ w1.hid → w.hp a = w1.hp a) → w.hp p = some (.lst us) → RepL X.K X.mg w acc us →
      Post (RepD X.K X.mg) X.K X.mg w1 (fin acc w.st) Q E → Q (.ref p) w.hp) :
    ∀ s H Q, tG (RepD X.K X.mg) X W (fun e S => (i e S).bind fun ds S1 => (lcR g t m (wipeE e vs) ds [] S1).bind fin) s H Q →
      tLc (tG (ItsR X) X W i) (g.r X.K) (tG RlB X W0 t) (tG (RepD X.K X.mg) X W0 m) vs s H Q := by
  rintro s H Q ⟨w, en, rfl, R, E, P⟩
  refine ⟨w, en, rfl, R, E, (Post.bind P).imp ?_⟩
  rintro J H1 ⟨w1, ds, rfl, X1, R1, its, P1⟩
  intro p hp
  dsimp only at P1
  have E1 := E.ext X1.toEx0
  refine ⟨fun j k H => k = ds.length - j ∧ j ≤ ds.length ∧ ∃ w acc us, w.hp = H ∧ Ex0 w1 w ∧ Rep X.K X.mg w ∧ w.hid = p :: w1.hid ∧ (∀ a, a ∈ w1.hid → w.hp a = w1.hp a) ∧ w.hp p = some (.lst us) ∧ RepL X.K X.mg w acc us ∧
      Post (RepD X.K X.mg) X.K X.mg w1 ((lcR g t m (wipeE en vs) (ds.drop j) acc w.st).bind fin) Q (fun cls dd H' => W cls dd s H'),
    ⟨ds.length, rfl, Nat.zero_le _, w1.hide p (.lst []), [], [], rfl, hide_ex R1 hp, R1.hide hp, rfl, fun a ha => ?_, upd_same, .nil, P1⟩, ?_⟩
  · show upd w1.hp p _ a = _
    exact upd_ne fun z => R1.not_hid hp (z ▸ ha)
  rintro j k H ⟨rfl, hj, w, acc, us, rfl, x1, R, hh, hk, hu, ra, P⟩
  obtain ⟨go, stop⟩ := its w x1 R
  by_cases hlt : j < ds.length
  · obtain ⟨go1, yl⟩ := go j hlt
    refine .inr ⟨go1, fun H' => ∃ w acc us, w.hp = H' ∧ Ex0 w1 w ∧ Rep X.K X.mg w ∧ w.hid = p :: w1.hid ∧ (∀ a, a ∈ w1.hid → w.hp a = w1.hp a) ∧ w.hp p = some (.lst us) ∧ RepL X.K X.mg w acc us ∧
      Post (RepD X.K X.mg) X.K X.mg w1 ((lcR g t m (wipeE en vs) (ds.drop (j + 1)) acc w.st).bind fin) Q (fun cls dd H' => W cls dd s H'),
      fun H' h => ⟨ds.length - (j + 1), by omega, rfl, hlt, h⟩, fun x H' y => ?_⟩
    obtain ⟨w3, d, rfl, x3, R3, st3, _, hd, rd⟩ := yl x H' y
    have e1 : ds.drop j = d :: ds.drop (j + 1) := by
      obtain ⟨hl, rfl⟩ := List.getElem?_eq_some_iff.mp hd
      exact List.drop_eq_getElem_cons hl
    rw [e1, ← st3] at P
    unfold lcR at P
    have E3 : RepE X.K X.mg w3 (wipeE en vs) (L2.wipe s vs) := (E1.ext (x1.trans x3.toEx0)).wipe vs
    cases hm : g.m d (wipeE en vs) with
    | none => rw [hm] at P; exact False.elim P
    | some e4 =>
      rw [hm] at P
      dsimp only at P
      refine g.ok E3 rd hm fun s4 E4 hl4 hj4 => ⟨?_, ?_⟩
      · refine wipe_eq (by rw [hl4, wipe_length]) fun q hq => ?_
        rw [hj4 q fun z => hq (hg q z), wipe_at, if_neg hq]
      · have hh3 : w3.hid = p :: w1.hid := x3.hid.trans hh
        have hk3 : ∀ a, a ∈ w1.hid → w3.hp a = w1.hp a := fun a ha => (x3.kh a (by rw [hh]; exact List.mem_cons_of_mem _ ha)).trans (hk a ha)
        have hu3 : w3.hp p = some (.lst us) := (x3.kh p (by rw [hh]; exact List.mem_cons_self)).trans hu
        refine ⟨w3, e4, rfl, R3, E4, ?_⟩
        cases ht : t e4 w3.st with
        | exc _ _ => rw [ht] at P; exact False.elim P
        | stuck => rw [ht] at P; exact False.elim P
        | ok bb S5 =>
          rw [ht] at P
          intro w5 c5 x5 R5 st5 r5
          cases r5
          subst st5
          replace P : Post (RepD X.K X.mg) X.K X.mg w1 ((if bb = true then (noX (m e4 w5.st)).bind fun y S3 => if acc.length < sizeLine then lcR g t m (wipeE en vs) (ds.drop (j + 1)) (acc ++ [y]) S3 else .stuck else lcR g t m (wipeE en vs) (ds.drop (j + 1)) acc w5.st).bind fin) Q (fun cls dd H' => W cls dd s H') := P
          have hh5 : w5.hid = p :: w1.hid := x5.hid.trans hh3
          have hk5 : ∀ a, a ∈ w1.hid → w5.hp a = w1.hp a := fun a ha => (x5.kh a (by rw [hh3]; exact List.mem_cons_of_mem _ ha)).trans (hk3 a ha)
          have hu5 : w5.hp p = some (.lst us) := (x5.kh p (by rw [hh3]; exact List.mem_cons_self)).trans hu3
          have ra5 := (ra.ext x3.toEx0).ext x5.toEx0
          have x15 : Ex0 w1 w5 := (x1.trans x3.toEx0).trans x5.toEx0
          cases bb with
          | false =>
            rw [if_neg Bool.false_ne_true] at P ⊢
            exact ⟨w5, acc, us, rfl, x15, R5, hh5, hk5, hu5, ra5, P⟩
          | true =>
            rw [if_pos rfl] at P ⊢
            refine ⟨w5, e4, rfl, R5, E4.ext x5.toEx0, ?_⟩
            cases hme : m e4 w5.st with
            | exc _ _ => rw [hme] at P; exact False.elim P
            | stuck => rw [hme] at P; exact False.elim P
            | ok y S6 =>
              rw [hme] at P
              intro w6 v6 x6 R6 st6 r6
              subst st6
              replace P : Post (RepD X.K X.mg) X.K X.mg w1 ((if acc.length < sizeLine then lcR g t m (wipeE en vs) (ds.drop (j + 1)) (acc ++ [y]) w6.st else .stuck).bind fin) Q (fun cls dd H' => W cls dd s H') := P
              by_cases hz : acc.length < sizeLine
              · rw [if_pos hz] at P
                have ra6 := ra5.ext x6.toEx0
                have hh6 : w6.hid = p :: w1.hid := x6.hid.trans hh5
                have hk6 : ∀ a, a ∈ w1.hid → w6.hp a = w1.hp a := fun a ha => (x6.kh a (by rw [hh5]; exact List.mem_cons_of_mem _ ha)).trans (hk5 a ha)
                have hu6 : w6.hp p = some (.lst us) := (x6.kh p (by rw [hh5]; exact List.mem_cons_self)).trans hu5
                have pm : p ∈ w6.hid := by rw [hh6]; exact List.mem_cons_self
                have xg := gro_ex (o := .lst (us ++ [v6])) pm
                refine ⟨us, hu6, by rw [← ra6.length]; exact hz, w6.gro p (.lst (us ++ [v6])), acc ++ [y], us ++ [v6], rfl, (x15.trans x6.toEx0).trans xg, R6.gro pm, hh6, fun a ha => ?_, upd_same, (ra6.append (.cons r6 .nil)).ext xg, P⟩
                refine Eq.trans (show upd w6.hp p _ a = w6.hp a from upd_ne fun z => ?_) (hk6 a ha)
                subst z
                obtain ⟨_, o, ho⟩ := R1.hid a ha
                rw [hp] at ho; cases ho
              · rw [if_neg hz] at P; exact False.elim P
  · have e : j = ds.length := by omega
    subst e
    rw [List.drop_length] at P
    exact .inl ⟨stop, hfin w1 w p us acc Q _ R1 hp R x1 hh hk hu ra P⟩
theorem fin_lst : ∀ (w1 w : Wo) (p : Addr) (us : List V) (acc : List D) (Q : VK) (E : XK), Rep X.K X.mg w1 → w1.hp p = none → Rep X.K X.mg w → Ex0 w1 w → w.hid = p :: w1.hid → (∀ a, a ∈ w1.hid → w.hp a = w1.hp a) → w.hp p = some (.lst us) → RepL X.K X.mg w acc us →
      Post (RepD X.K X.mg) X.K X.mg w1 ((fun acc S => Res.ok (D.lst acc) S) acc w.st) Q E → Q (.ref p) w.hp := by
  intro w1 w p us acc Q E R1 hp R x1 hh hk hu ra P
  have sub : ∀ a, a ∈ w1.hid → a ∈ w.hid := fun a h => by rw [hh]; exact List.mem_cons_of_mem _ h
  have xs := shw_ex sub
  refine P (w.shw w1.hid) (.ref p) ⟨x1.trans xs, rfl, hk⟩ (R.shw sub) rfl (.lst ⟨hu, fun z => ?_⟩ (ra.ext xs))
  rcases z with ⟨n, c, h1, _, _⟩ | z
  · exact (R.hid p (by rw [hh]; exact List.mem_cons_self)).1 (List.mem_of_getElem? h1)
  · exact R1.not_hid hp z
theorem t_lc {i : AM} {g : Tg} {t : TM} {m : EM} {vs : List Nat} (hg : ∀ j, j ∈ g.ix → j ∈ vs) : ∀ s H Q, tG (RepD X.K X.mg) X W (eLc i g t m vs) s H Q →
      tLc (tG (ItsR X) X W i) (g.r X.K) (tG RlB X W0 t) (tG (RepD X.K X.mg) X W0 m) vs s H Q := t_lcCore hg fin_lst
def tTrue : TM := fun _ S => .ok true S
theorem pts0 {X' : Cx} : PTs X' [] (tG RlB X' W0 tTrue) := ⟨fun pins s σ H Q I h => pts_nil.run pins s σ H Q I (by
  obtain ⟨w, en, rfl, R, E, P⟩ := h
  exact Post.now P R rfl)⟩
theorem re_lc {elt tg iter : Expr} {ifs : List Expr} {scope : Scope} {i : AM} {g : Tg} {t : TM} {m : EM} (own : List (Str × Nat)) (hc : X.calm = true) (hN : X.N.Nodup) (hi : RI X W tg iter i) (ok : BlkOk X.N X.env.scope scope own) (hgi : ∀ j, j ∈ g.ix → j ∈ own.map (·.2))
    (hg : ∀ (s : Shared) (H : Hp) (C : Addr) (cl : List (Str × Addr)) (fp : List Addr), PG (X.blk s H scope (compEnvC scope cl C X.env) fp) tg (g.r X.K)) (ht : ∀ (s : Shared) (H : Hp) (C : Addr) (cl : List (Str × Addr)) (fp : List Addr), PTs (X.blk s H scope (compEnvC scope cl C X.env) fp) ifs (tG RlB X W0 t))
    (he : ∀ (s : Shared) (H : Hp) (C : Addr) (cl : List (Str × Addr)) (fp : List Addr), RE (X.blk s H scope (compEnvC scope cl C X.env) fp) W0 elt m) (hs : ∀ x, foldedSetIterable iter X.env x = pure x := by intro _; rfl) :
    RE X W (.ListComp elt [⟨tg, iter, ifs, 0⟩] scope pos) (eLc i g t m (own.map (·.2))) :=
  pe_imp (pe_lc hc hN hi ok hg ht he hs) (t_lc hgi)
theorem rs_setLc {i' : Nat} {y : Str} {py spos : Pos} {elt tg iter : Expr} {ifs : List Expr} {scope : Scope} {i : AM} {g : Tg} {t : TM} {m : EM} (own : List (Str × Nat)) (hc : X.calm = true) (hN : X.N.Nodup) (hy : X.N[i']? = some y)
    (hi : RI X W tg iter i) (ok : BlkOk X.N X.env.scope scope own) (hgi : ∀ j, j ∈ g.ix → j ∈ own.map (·.2))
    (hg : ∀ (s : Shared) (H : Hp) (C : Addr) (cl : List (Str × Addr)) (fp : List Addr), PG (X.blk s H scope (compEnvC scope cl C X.env) fp) tg (g.r X.K)) (ht : ∀ (s : Shared) (H : Hp) (C : Addr) (cl : List (Str × Addr)) (fp : List Addr), PTs (X.blk s H scope (compEnvC scope cl C X.env) fp) ifs (tG RlB X W0 t))
    (he : ∀ (s : Shared) (H : Hp) (C : Addr) (cl : List (Str × Addr)) (fp : List Addr), RE (X.blk s H scope (compEnvC scope cl C X.env) fp) W0 elt m) (hs : ∀ x, foldedSetIterable iter X.env x = pure x := by intro _; rfl)
    (hyl : X.env.scope.names.lookup y = some .local := by rfl)
    (hsw : swapsWith (.ListComp elt [⟨tg, iter, ifs, 0⟩] scope pos) (some (.Name y py)) spos.line X.env = pure true := by exact sw_true rfl rfl rfl (by decide +kernel)) :
    RS X W (.Assign [.Name y py] (.ListComp elt [⟨tg, iter, ifs, 0⟩] scope pos) spos) (sSet i' (eLc i g t m (own.map (·.2)))) := by
  refine ps_imp (ps_setLc (te := tG (RepD X.K X.mg) X W0 m) hc hN hy hyl hsw hi ok hg ht he hs) ?_
  rintro D s H ⟨w, en, rfl, R, E, P⟩
  refine t_lc hgi s w.hp _ ⟨w, en, rfl, R, E, (PostS.of P E).imp ?_⟩
  rintro v H1 ⟨w1, x, rfl, X1, R1, rx, P1⟩
  exact P1 w1 _ (Ext.refl w1) R1 rfl ((E.ext X1.toEx0).set i' rx)
end
end G

/-! ## F. defs, calls, exceptions -/
namespace G
open PySem L2 PySem.Spec
abbrev FM := List D → Store → Res D
def spM (K : PySem.W.Frag) (mg : Str → Option Value) (n : Nat) (f : FM) : Sp := fun vs H Q E => vs.length = n ∧ ∃ w ds, w.hp = H ∧ Rep K mg w ∧ RepL K mg w ds vs ∧ Post (RepD K mg) K mg w (f ds w.st) Q E
def enOf (N : Nat) (ds : List D) : En := ds.map some ++ List.replicate (N - ds.length) none
/-- a def by its body -/
def fnM (N : Nat) (m : SM) : FM := fun ds S => match m (enOf N ds) S with
  | .nxt _ S' => .ok .non S'
  | .ret d S' => .ok d S'
  | .exc x _ S' => .exc x S'
  | _ => .stuck
structure Cg (X : Cx) (W : WX) (k : Nat) : Prop where
  calm : X.calm = true
  nd : X.N.Nodup
  tk : Takes X W
  po : PassesOwn (model X.prog X.w) X.A X.env X.xe
  rm : Room k X.A
  hs : X.stack = X.env :: X.outer
  hf : X.env.frame = some X.env.locals
  em : X.ex = []
theorem Cg.u {X : Cx} {W : WX} {k : Nat} (c : Cg X W k) : X.A.units + 64 < cLine := c.rm.units
/-- in a block of a comprehension -/
structure Cb (X : Cx) (k : Nat) : Prop where
  calm : X.calm = true
  nd : X.N.Nodup
  rm : Room k X.A
  xe : X.xe = fun _ _ => False
theorem Cb.u {X : Cx} {k : Nat} (c : Cb X k) : X.A.units + 64 < cLine := c.rm.units
theorem Cg.blk {X : Cx} {W : WX} {k : Nat} (c : Cg X W k) {s : Shared} {H : Hp} {scope : Scope} {cenv : Env} {fp : List Addr} : Cb (X.blk s H scope cenv fp) k := ⟨c.calm, c.nd, c.rm, rfl⟩
section
variable {P : Program} {w0 : World} {K : PySem.W.Frag} {mg : Str → Option Value} {base : Heap}
theorem RepE.start {w : Wo} {ds : List D} {vs : List V} (h : RepL K mg w ds vs) (N : List Str) : RepE K mg w (enOf N.length ds) (start N vs) := by
  have hl := h.length
  refine ⟨by unfold enOf L2.start; simp [hl], fun i d e => ?_⟩
  unfold enOf at e
  unfold L2.start
  by_cases hi : i < ds.length
  · rw [List.getElem?_append_left (by simpa using hi), List.getElem?_map] at e
    cases q : ds[i]? with
    | none => rw [q] at e; cases e
    | some d' =>
      rw [q] at e
      cases e
      obtain ⟨v, hv, r⟩ := h.get q
      exact ⟨v, by rw [List.getElem?_append_left (by simpa [← hl] using hi), List.getElem?_map, hv]; rfl, r⟩
  · rw [List.getElem?_append_right (by simpa using hi), List.getElem?_replicate] at e
    split at e <;> cases e
theorem def_ok {x qual : Str} {st : Stmt} {f : Addr} {fd : FuncData} {N ps : List Str} {k : Nat} {m : SM} (F : Fun K x qual st f fd) (S : FnScope N ps (defScope st))
    (hbody : ∀ (cdv : Value) (A : Around) (outer : List Env) (s : Shared) (H : Hp) (E : XK), Cg (cxOf (L2.CX P w0) P w0 K mg base N qual (defScope st) f cdv A outer s H E) (fun cls d _ H' => E cls d H') k →
      RSs (cxOf (L2.CX P w0) P w0 K mg base N qual (defScope st) f cdv A outer s H E) (fun cls d _ H' => E cls d H') (defBody st) m) :
    FnOk P w0 K mg base (L2.CX P w0) (k + 1) f fd ps (spM K mg ps.length (fnM N.length m)) := by
  refine F.okX S (fun vs H Q E h => h.1) (fun cdv A outer s H vs Q E hr h => ?_)
  refine ⟨_, hbody cdv A outer s H E ⟨rfl, S.nd, takes_of rfl rfl rfl rfl, passes_of rfl, hr, rfl, rfl, rfl⟩, ?_⟩
  obtain ⟨hl, w, ds, rfl, R, rl, P1⟩ := h
  refine ⟨w, enOf N.length ds, rfl, R, RepE.start rl N, ?_⟩
  unfold fnM at P1
  cases q : m (enOf N.length ds) w.st with
  | nxt e S => rw [q] at P1; exact fun w1 s1 x1 R1 st1 _ => P1 w1 .non x1 R1 st1 .non
  | ret d S => rw [q] at P1; exact P1
  | brk e S => rw [q] at P1; exact False.elim P1
  | cnt e S => rw [q] at P1; exact False.elim P1
  | exc y e S => rw [q] at P1; exact fun w1 s1 c1 d1 x1 R1 st1 _ rx => P1 w1 c1 d1 x1 R1 st1 rx
  | stuck => rw [q] at P1; exact P1
/-- a def with defaults -/
theorem def_okD {x qual : Str} {st : Stmt} {f : Addr} {fd : FuncData} {N ps : List Str} {k : Nat} {m : SM} {dvs : List V} {kws : List (Str × V)} (F : FunD K x qual (defArgs st) (defBody st) (defScope st) dvs kws f fd) (S : FnScope N ps (defScope st))
    (hbody : ∀ (cdv : Value) (A : Around) (outer : List Env) (s : Shared) (H : Hp) (E : XK), Cg (cxOf (L2.CX P w0) P w0 K mg base N qual (defScope st) f cdv A outer s H E) (fun cls d _ H' => E cls d H') k →
      RSs (cxOf (L2.CX P w0) P w0 K mg base N qual (defScope st) f cdv A outer s H E) (fun cls d _ H' => E cls d H') (defBody st) m) :
    FnOk P w0 K mg base (L2.CX P w0) (k + 1) f fd ps (spM K mg ps.length (fnM N.length m)) := by
  refine F.ok S (fun vs H Q E h => h.1) (fun cdv A outer s H vs Q E hr h => ?_)
  refine ⟨_, hbody cdv A outer s H E ⟨rfl, S.nd, takes_of rfl rfl rfl rfl, passes_of rfl, hr, rfl, rfl, rfl⟩, ?_⟩
  obtain ⟨hl, w, ds, rfl, R, rl, P1⟩ := h
  refine ⟨w, enOf N.length ds, rfl, R, RepE.start rl N, ?_⟩
  unfold fnM at P1
  cases q : m (enOf N.length ds) w.st with
  | nxt e S => rw [q] at P1; exact fun w1 s1 x1 R1 st1 _ => P1 w1 .non x1 R1 st1 .non
  | ret d S => rw [q] at P1; exact P1
  | brk e S => rw [q] at P1; exact False.elim P1
  | cnt e S => rw [q] at P1; exact False.elim P1
  | exc y e S => rw [q] at P1; exact fun w1 s1 c1 d1 x1 R1 st1 _ rx => P1 w1 c1 d1 x1 R1 st1 rx
  | stuck => rw [q] at P1; exact P1
/-- what a caller is told of a def -/
structure Df (P : Program) (w0 : World) (K : PySem.W.Frag) (mg : Str → Option Value) (base : Heap) (x : Str) (ps : List Str) (k : Nat) (m : FM) : Prop where
  ex : ∃ f fd, mg x = some (.ref f) ∧ PySem.W.keepIn K (.ref f) = true ∧ Binds K fd ps [] ∧ FnOk P w0 K mg base (L2.CX P w0) k f fd ps (spM K mg ps.length m)
/-- .. called with some arguments fewer, and by keywords: n by place, ks by name, g puts them in order -/
structure Dk (P : Program) (w0 : World) (K : PySem.W.Frag) (mg : Str → Option Value) (base : Heap) (x : Str) (ps : List Str) (k n : Nat) (ks : List Str) (gD : List D → List D → List D) (m : FM) : Prop where
  ex : ∃ f fd g gV, mg x = some (.ref f) ∧ PySem.W.keepIn K (.ref f) = true ∧ KBn K fd ps n ks g gV ∧ (∀ w ds vs es zs, RepL K mg w ds vs → RepL K mg w es zs → ds.length = n → es.length = ks.length → RepL K mg w (gD ds es) (gV vs zs) ∧ (gV vs zs).length = ps.length) ∧ FnOk P w0 K mg base (L2.CX P w0) k f fd ps (spM K mg ps.length m)
end
section
variable {X : Cx} {W : WX} {a b c e o : Expr} {es : List Expr} {ma mb mc me : EM} {ta tb : TM} {pos : Pos} {x : Str} {p : Pos} {j k : Nat} {ps ks : List Str} {f : FM}
def eCall (f : FM) (m : AM) : EM := fun e S => (m e S).bind fun ds S1 => f ds S1
/-- the number of arguments -/
def nA (n : Nat) (m : AM) : AM := fun e S => (m e S).bind fun ds S1 => if ds.length = n then .ok ds S1 else .stuck
theorem re_call {m : AM} (c : Cg X W k) (hF : Df X.prog X.w X.K X.mg X.base x ps j f) (hj : j ≤ k) (ha : RA X W (e :: es) m) (hg : Gl X x := by rfl) (hdb : (x == ("__debug__" : Str)) = false := by decide) (he : starEach (e :: es) X.env = (false, eval e X.env) :: starEach es X.env := by rfl) (hpl : (backTo pos (starEach es X.env)).any (·.1) = false := by rfl) :
    RE X W (.Call (.Name x p) (e :: es) [] pos) (eCall f (nA ps.length m)) := by
  obtain ⟨fa, fd, h1, h2, h3, h4⟩ := hF.ex
  refine pe_imp (pe_callS h4 (c.rm.mono hj) hg h1 h2 h3 (fun s => passAt c.tk s) ha hdb he hpl) ?_
  rintro s H Q ⟨w, en, rfl, R, E, P⟩
  unfold eCall nA at P
  refine ⟨w, en, rfl, R, E, ?_⟩
  cases q : m en w.st with
  | stuck => rw [q] at P; exact P
  | exc y S => rw [q] at P; exact P
  | ok ds S =>
    rw [q] at P
    replace P : Post (RepD X.K X.mg) X.K X.mg w ((if ds.length = ps.length then .ok ds S else .stuck : Res (List D)).bind f) Q _ := P
    intro w1 vs x1 R1 st1 rl
    subst st1
    split at P
    · rename_i hl
      exact ⟨by rw [← rl.length]; exact hl, w1, ds, rfl, R1, rl, Post.ext P x1⟩
    · exact False.elim P
theorem takes_no {X' : Cx} (h : X'.xe = fun _ _ => False) : Takes X' W0 := fun _ _ z => by
  obtain ⟨_, _, _, _, _, _, _, _, _, _, _, _, _, _, _, _, q⟩ := z
  exact False.elim q
theorem re_callB {m : AM} (c : Cb X k) (hF : Df X.prog X.w X.K X.mg X.base x ps j f) (hj : j ≤ k) (ha : RA X W0 (e :: es) m) (hg : Gl X x := by rfl) (hdb : (x == ("__debug__" : Str)) = false := by decide) (he : starEach (e :: es) X.env = (false, eval e X.env) :: starEach es X.env := by rfl) (hpl : (backTo pos (starEach es X.env)).any (·.1) = false := by rfl) :
    RE X W0 (.Call (.Name x p) (e :: es) [] pos) (eCall f (nA ps.length m)) := by
  obtain ⟨fa, fd, h1, h2, h3, h4⟩ := hF.ex
  refine pe_imp (pe_callS h4 (c.rm.mono hj) hg h1 h2 h3 (fun s => passAt (takes_no c.xe) s) ha hdb he hpl) ?_
  rintro s H Q ⟨w, en, rfl, R, E, P⟩
  unfold eCall nA at P
  refine ⟨w, en, rfl, R, E, ?_⟩
  cases q : m en w.st with
  | stuck => rw [q] at P; exact P
  | exc y S => rw [q] at P; exact P
  | ok ds S =>
    rw [q] at P
    replace P : Post (RepD X.K X.mg) X.K X.mg w ((if ds.length = ps.length then .ok ds S else .stuck : Res (List D)).bind f) Q _ := P
    intro w1 vs x1 R1 st1 rl
    subst st1
    split at P
    · rename_i hl
      exact ⟨by rw [← rl.length]; exact hl, w1, ds, rfl, R1, rl, Post.ext P x1⟩
    · exact False.elim P
/-! ### calls with keywords -/
abbrev RK (X : Cx) (W : WX) (kws : List Keyword) (m : AM) : Prop := PK X kws (tG (RepL X.K X.mg) X W m)
theorem pk_imp {kws : List Keyword} {t t' : TA} (h : PK X kws t) (i : ∀ s H Q, t' s H Q → t s H Q) : PK X kws t' := ⟨fun ps pins s σ H Q I q => h.run ps pins s σ H Q I (i _ _ _ q)⟩
theorem rk_nil : RK X W [] aNil := pk_imp pk_nil fun s H Q ⟨w, en, hw, R, E, P⟩ => by
  subst hw
  exact Post.now P R .nil
theorem rk_cons {kws : List Keyword} {mr : AM} {nm : Option Str} {kpos : Pos} (ha : RE X W e ma) (hr : RK X W kws mr) : RK X W (⟨nm, e, kpos⟩ :: kws) (aCons ma mr) := by
  refine pk_imp (pk_cons ha hr) ?_
  rintro s H Q ⟨w, en, rfl, R, E, P⟩
  refine ⟨w, en, rfl, R, E, (Post.bind P).imp ?_⟩
  rintro v H1 ⟨w1, x, rfl, X1, R1, rx, P1⟩
  refine ⟨w1, en, rfl, R1, E.ext X1.toEx0, (Post.bind P1).imp ?_⟩
  rintro vs H2 ⟨w2, y, rfl, X2, R2, ry, P2⟩
  exact Post.now P2 R2 (.cons (rx.ext X2.toEx0) ry)
def eCallK (f : FM) (gD : List D → List D → List D) (n l : Nat) (m mk : AM) : EM := fun e S => (m e S).bind fun ds S1 => (mk e S1).bind fun zs S2 => if ds.length = n ∧ zs.length = l then f (gD ds zs) S2 else .stuck
theorem run_kw {CX : CXT} {E : St → XK} {f : Addr} {fd : FuncData} {sp : Sp} {n : Nat} {g : List Value → List Value → List Value} {gV : List V → List V → List V} {pins : List (Addr × Obj)} {s : St} {H : Hp} {sh : Shared} {Q : VK} {us ws : List Value} {vs zs : List V}
    (F : FnOk X.prog X.w X.K X.mg X.base CX k f fd ps sp) (hr : Room k X.A) (hb : KBn X.K fd ps n ks g gV) (hx : PassesAt CX X s (E s)) (I : L2.Inv X pins s H sh) (r : Vals vs us) (rz : Vals zs ws) (h1 : vs.length = n) (h2 : zs.length = ks.length) (h : sp (gV vs zs) H Q (E s)) :
    wpAny (model X.prog X.w) X.A (call (.ref f) us (ks.zip ws)) (EP X pins s Q) X.xe sh := by
  obtain ⟨b1, b2⟩ := hb
  have h1' : us.length = n := by rw [← r.length]; exact h1
  have h2' : ws.length = ks.length := by rw [← rz.length]; exact h2
  refine wpAny_call (codeAny_mono (F.run X.A X.stack sh H ⟨us, ks.zip ws⟩ (g us ws) (gV vs zs) Q (E s) hr I.env0 (b1 sh us ws I.kIn h1' h2') (b2 r rz) h) fun r s' hq => ?_)
  cases r with
  | error y => exact hx pins H sh y s' I hq
  | ok fl =>
    cases fl with
    | ret u => exact I.after hq
    | next => exact False.elim hq
    | brk => exact False.elim hq
    | cont => exact False.elim hq
theorem re_callK {kws : List Keyword} {m mk : AM} {n : Nat} {gD : List D → List D → List D} (c : Cg X W k) (hF : Dk X.prog X.w X.K X.mg X.base x ps j n ks gD f) (hj : j ≤ k) (ha : RA X W (e :: es) m) (hkw : RK X W kws mk) (hg : Gl X x := by rfl)
    (hall : (backToKw pos (keywordEach kws X.env)).all (·.1.isSome) = true := by rfl) (hks : (backToKw pos (keywordEach kws X.env)).filterMap (·.1) = ks := by rfl)
    (hdb : (x == ("__debug__" : Str)) = false := by decide) (he : starEach (e :: es) X.env = (false, eval e X.env) :: starEach es X.env := by rfl)
    (hpl : ((backTo pos (starEach (e :: es) X.env)).any (·.1) || (backToKw pos (keywordEach kws X.env)).any (·.1.isNone)) = false := by rfl) :
    RE X W (.Call (.Name x p) (e :: es) kws pos) (eCallK f gD n ks.length m mk) := by
  obtain ⟨fa, fd, g, gV, h1, h2, h3, hR, h4⟩ := hF.ex
  refine ⟨fun pins s σ H Q I h => ?_⟩
  obtain ⟨w, en, rfl, R, E, P⟩ := h
  refine wpAny_Call_Name_kw (ld_glob I hg h1 ?_ hdb)
  refine PySem.W.callWith_KW (h₀ := X.base) I.ok.mod.kin h2 hall (thn (ha.run pos pins s σ w.hp _ I ⟨w, en, rfl, R, E, Post.bind P⟩) fun us s1 hu => ?_) hpl he
  obtain ⟨vs, H1, I1, r, w1, ds, rfl, X1, R1, rl, P1⟩ := hu
  refine thn (hkw.run pos pins s1 σ w1.hp _ I1 ⟨w1, en, rfl, R1, E.ext X1.toEx0, Post.bind P1⟩) fun ws s2 hu => ?_
  obtain ⟨zs, H2, I2, rz, w2, es2, rfl, X2, R2, rl2, P2⟩ := hu
  refine ⟨I2.kIn, ?_⟩
  rw [hks]
  dsimp only at P2
  split at P2
  · rename_i hl
    obtain ⟨q1, q2⟩ := hR w2 ds vs es2 zs (rl.ext X2.toEx0) rl2 hl.1 hl.2
    exact run_kw (E := WE W) h4 (c.rm.mono hj) h3 (passAt c.tk σ) I2 r rz (by rw [← rl.length]; exact hl.1) (by rw [← rl2.length]; exact hl.2) ⟨q2, w2, gD ds es2, rfl, R2, q1, P2⟩
  · exact False.elim P2
def eCallK0 (f : FM) (gD : List D → List D → List D) (l : Nat) (mk : AM) : EM := fun e S => (mk e S).bind fun zs S2 => if zs.length = l then f (gD [] zs) S2 else .stuck
theorem re_callK0 {kws : List Keyword} {mk : AM} {gD : List D → List D → List D} (c : Cg X W k) (hF : Dk X.prog X.w X.K X.mg X.base x ps j 0 ks gD f) (hj : j ≤ k) (hkw : RK X W kws mk) (hg : Gl X x := by rfl)
    (hall : (backToKw pos (keywordEach kws X.env)).all (·.1.isSome) = true := by rfl) (hks : (backToKw pos (keywordEach kws X.env)).filterMap (·.1) = ks := by rfl)
    (hdb : (x == ("__debug__" : Str)) = false := by decide)
    (hpl : ((backTo pos (starEach [] X.env)).any (·.1) || (backToKw pos (keywordEach kws X.env)).any (·.1.isNone)) = false := by rfl) :
    RE X W (.Call (.Name x p) [] kws pos) (eCallK0 f gD ks.length mk) := by
  obtain ⟨fa, fd, g, gV, h1, h2, h3, hR, h4⟩ := hF.ex
  refine ⟨fun pins s σ H Q I h => ?_⟩
  obtain ⟨w, en, rfl, R, E, P⟩ := h
  refine wpAny_Call_Name_kw (ld_glob I hg h1 ?_ hdb)
  refine PySem.W.callWith_KW0 (h₀ := X.base) I.ok.mod.kin h2 hall (thn (hkw.run pos pins s σ w.hp _ I ⟨w, en, rfl, R, E, Post.bind P⟩) fun ws s2 hu => ?_) hpl
  obtain ⟨zs, H2, I2, rz, w2, es2, rfl, X2, R2, rl2, P2⟩ := hu
  refine ⟨I2.kIn, ?_⟩
  rw [hks]
  dsimp only at P2
  split at P2
  · rename_i hl
    obtain ⟨q1, q2⟩ := hR w2 [] [] es2 zs .nil rl2 rfl hl
    exact run_kw (E := WE W) (us := []) h4 (c.rm.mono hj) h3 (passAt c.tk σ) I2 .nil rz rfl (by rw [← rl2.length]; exact hl) ⟨q2, w2, gD [] es2, rfl, R2, q1, P2⟩
  · exact False.elim P2
/-! ### raise X('..') -/
def sRaise (c : Nat) : SM := fun e S => .exc (.exc c []) e S
theorem rs_raise {C : Addr} {bm : List Value} {B newId initId : String} {m : Str} {jj : Nat} {p2 pos2 : Pos} (cn : Nat) (hcn : cname cn = x) (c : Cg X W k) (F : ExcBaseFacts B newId initId bm) (q : PySem.W.excIn X.K C bm newId = true) (gC : X.mg x = some (.ref C)) (kC : PySem.W.keepIn X.K (.ref C) = true) (r : Raises X (.ref C)) (hg : Gl X x := by rfl)
    (hdb : (x == ("__debug__" : Str)) = false := by decide) : RS X W (.Raise (some (.Call (.Name x p) [.Constant (.str m) jj p2] [] pos)) none pos2) (sRaise cn) := by
  refine ps_imp (ps_raise c.calm c.tk (pmk_own F q gC kC r hg hdb)) ?_
  rintro D s H ⟨w, en, rfl, R, E, P⟩
  exact P w s (.ref C) none (Ext.refl w) R rfl E ⟨cn, C, [], [], rfl, by rw [hcn]; exact gC, rfl, .inl ⟨rfl, rfl⟩, .nil⟩
end
end G

/-! ## G. try, the caught exception as a value, methods of lists -/
namespace G
open PySem L2 PySem.Spec
section
variable {X : Cx} {pins : List (Addr × Obj)} {s : L2.St} {H : Hp} {sh : Shared}
/-- an object of ours that was not tracked is tracked -/
theorem inv_track (I : L2.Inv X pins s H sh) {ad : Addr} {o : HO} (na : H ad = none) (h0 : X.s_0.heap.get? ad = none) (nL : ad ≠ X.env.locals) (nC : ∀ x c, X.env.cells.lookup x = some c → c ≠ ad)
    (nP : ∀ p, p ∈ X.pn ++ pins → p.1 ≠ ad) (new : ObjOk X.prog X.w (upd H ad o) sh.heap ad o) : L2.Inv X pins s (upd H ad o) sh := by
  have ne : ∀ (b : Addr) (u : HO), H b = some u → b ≠ ad := fun b u h => ne_of_none h na
  have bs := I.base
  refine ⟨I.ok, I.os, I.bare, ⟨bs.keep, bs.slot, fun b ob h1 h2 h3 => ?_, bs.there, fun b xs h => ?_, fun b ob u h => ?_, fun b q h => ?_⟩, I.loc, I.cell, ?_, fun x c h => ?_, fun p hp => ?_, fun b u h => ?_, I.len⟩
  · have hb : b ≠ ad := fun z => by rw [z, h0] at h1; cases h1
    rw [upd_ne hb]; exact bs.free b ob h1 h2 h3
  · have z := bs.tups b xs h
    rw [upd_ne (ne _ _ z)]; exact z
  · have z := bs.frzs b ob u h
    rw [upd_ne (ne _ _ z)]; exact z
  · obtain ⟨m, z⟩ := bs.tbls b q h
    exact ⟨m, by rw [upd_ne (ne _ _ z)]; exact z⟩
  · rw [upd_ne (Ne.symm nL)]; exact I.free
  · rw [upd_ne (nC x c h)]; exact I.freeC x c h
  · obtain ⟨z1, z2, z3⟩ := I.pin p hp
    exact ⟨z1, by rw [upd_ne (nP p hp)]; exact z2, z3⟩
  · by_cases hb : b = ad
    · subst hb
      rw [upd_same] at h; cases h; exact new
    · rw [upd_ne hb] at h
      exact (I.hok b u h).stay (fun _ _ _ q => q) (fun c q => by rw [upd_ne (ne _ _ q)]; exact q) fun c xs q => by rw [upd_ne (ne _ _ q)]; exact q
theorem inv_suite (I : L2.Inv X pins s H sh) (ad : Addr) : L2.Inv (X.suite ad (X.pn ++ pins)) [] s H sh :=
  ⟨I.ok.suite _ _, I.os, I.bare, I.base, I.loc, I.cell, I.free, I.freeC, fun p hp => I.pin p (by rw [List.append_nil] at hp; exact hp), I.hok, I.len⟩
theorem inv_out {ad : Addr} {pn' : List (Addr × Obj)} (ok : X.Ok) (I : L2.Inv (X.suite ad (X.pn ++ pins)) pn' s H sh) : L2.Inv X pins s H sh :=
  ⟨ok, I.os, I.bare, I.base, I.loc, I.cell, I.free, I.freeC, fun p hp => I.pin p (List.mem_append_left _ hp), I.hok, I.len⟩
end
/-- what the clause wishes: the exception stays known behind it -/
def wKeep (K : PySem.W.Frag) (c : Value) (i : Nat) (ts : TS) (Wo : WX) (D : Ends) : WX := fun cls d s H =>
  ∃ b, PySem.W.exmOne K cls c = some b ∧ (b = true → ∀ ad, H ad = none → ts ⟨fun s' H' => D.nx (s'.set i none) H', D.rt, fun s' H' => D.bk (s'.set i none) H', fun s' H' => D.ct (s'.set i none) H'⟩ (s.set i (some (.ref ad))) (upd H ad (ExcO ad cls d))) ∧ (b = false → Wo cls d s H)
section
variable {X : Cx} {x n : Str} {c : Value} {i : Nat} {body suite : List Stmt} {b0 : Stmt} {np pos pos' : Pos} {tb : WX → TS} {ts : TS} {Wt : WX}
theorem ps_tryK (hs : X.stack = X.env :: X.outer) (hf : X.env.frame = some X.env.locals) (hex : X.ex = []) (hN : X.N.Nodup) (hi : X.N[i]? = some n) (hln : X.env.kindOf n = some .local) (hc : Names X x c) (tk : Takes X Wt)
    (hb : ∀ (W' : WX) (pn : List (Addr × Obj)) (xe : Value → Shared → Prop), Takes (X.tr pn xe) W' → PassesOwn (model X.prog X.w) X.A X.env xe → PSs (X.tr pn xe) body (tb W'))
    (hsu : ∀ (ad : Addr) (pn : List (Addr × Obj)), PSs (X.suite ad pn) (b0 :: suite) ts) :
    PS X (.Try body [.ExceptHandler (some (.Name x np)) (some n) (b0 :: suite) pos'] [] [] pos) (fun D s H => tb (wKeep X.K c i ts Wt D) D s H) := by
  refine ⟨fun pins sh s H D I h => ?_⟩
  have ok := I.ok
  have frames : X.A.frames = some (X.env :: X.outer) := ok.frames.trans (congrArg some hs)
  refine wpAny_Try_except ?_
  refine wpAny_mono ((hb (wKeep X.K c i ts Wt D) (X.pn ++ pins)
    (fun y s1 => wpAny (model X.prog X.w) X.A (noteFrame y X.env) (fun _ s2 => wpAny (model X.prog X.w) X.A (setFlight y none) (fun _ s3 =>
      wpAny (model X.prog X.w) X.A (handleBy y X.env [.ExceptHandler (some (.Name x np)) (some n) (b0 :: suite) pos']) (SP X pins D) X.xe s3) X.xe s2) X.xe s1)
    (fun u s' xx => ?_) PassesOwn.looking).run [] sh s H D (I.toTry _) h) (fun fl s1 hsp => ?_) (fun _ _ q => q)
  · obtain ⟨ad, B, sI, pins', s5, H5, cls, d, rfl, J5, nb, up, sky, na, os, ag, b, hb1, hyes, hno⟩ := xx
    have J : L2.Inv X pins s5 H5 sI := J5.ofTry ok
    have sky1 : Sky B (X.env :: X.outer) ad (Zc cls d) X.env.locals s'.heap := hs ▸ sky
    show wpAny (model X.prog X.w) X.A (noteFrame (.ref ad) X.env) _ _ _
    refine Sky.land Zc.steady frames hf sky1 fun h3 fl3 up3 => ?_
    have J3 : L2.Inv X pins s5 H5 { s' with heap := h3 } := J.landed nb fl3.1 (up.trans up3) os ag
    obtain ⟨oe3, vs3, he3, hz3, hd3⟩ := fl3.there
    have nfr : ad ∉ frs (X.env :: X.outer) := fun hm => by
      obtain ⟨_, o', e', hnf⟩ := fl3.2.2.1.mem hm
      rw [he3] at e'; cases e'
      exact hnf _ hd3
    have nL : ad ≠ X.env.locals := fun z => nfr (List.mem_filterMap.mpr ⟨X.env, List.mem_cons_self, by rw [hf, z]⟩)
    have noI : sI.heap.get? ad = none := by
      cases q : sI.heap.get? ad with
      | none => rfl
      | some o =>
        have z := nb ad o q (by rw [hs]; exact nfr)
        rw [fl3.2.1] at z; cases z
    have no0 : X.s_0.heap.get? ad = none := by
      cases q : X.s_0.heap.get? ad with
      | none => rfl
      | some o =>
        obtain ⟨o', z⟩ := J.base.there ad o q (by rw [hex]; simp)
        rw [noI] at z; cases z
    have noC : ∀ y c', X.env.cells.lookup y = some c' → c' ≠ ad := fun y c' e z => by
      obtain ⟨v, o, ho, _⟩ := J.cell y c' e
      rw [z, noI] at ho; cases ho
    have noP : ∀ q, q ∈ X.pn ++ pins → q.1 ≠ ad := fun q hq z => by
      have e := (J.pin q hq).1
      rw [z, noI] at e; cases e
    refine wpAny_handleBy_cons (codeAny_handlers_test ?_) (by intro q; cases q)
    have LT : PySem.W.Looks (model X.prog X.w) h3 (typeOf (.ref ad)) cls := fun A Q E s k q => wpAny_typeOf_ref (k _ _ he3) (hz3.1 ▸ q)
    have LM := PySem.W.exm_one (M := model X.prog X.w) (J3.kIn) LT hb1
    have S3 := inv_suite J3 ad
    have test : ∀ {Q : Value → Shared → Prop} {E : Value → Shared → Prop}, Q c { s' with heap := h3 } → wpAny (model X.prog X.w) (X.A.mark (some (.ref ad))) (eval (.Name x np) X.env) Q E { s' with heap := h3 } := fun {Q E} q => by
      obtain ⟨hg, hdb, hm | ⟨hm, hv, hnn⟩⟩ := hc
      · exact ld_glob (X := X.suite ad (X.pn ++ pins)) S3 hg hm q hdb
      · exact ld_blt (X := X.suite ad (X.pn ++ pins)) S3 hg hm hv q hnn hdb
    refine test (LM.here ?_)
    cases b with
    | true =>
      refine codeAny_handlers_suite_as (HandSPX.lands_againZ fl3 fun h4 fl4 up4 => ?_)
      have J4 : L2.Inv X pins s5 H5 { s' with heap := h4 } := J.landed nb fl4.1 ((up.trans up3).trans up4) os ag
      obtain ⟨oe4, vs4, he4, hz4, hd4⟩ := fl4.there
      have J5 : L2.Inv X pins s5 (upd H5 ad (ExcO ad cls d)) { s' with heap := h4 } := inv_track J4 na no0 nL noC noP
        ⟨⟨oe4, vs4, he4, hz4.1, hz4.2, hd4⟩, ⟨oe4, he4⟩, fun h1 h2 ⟨o, v, e, r⟩ k => ⟨o, v, k o e, r⟩⟩
      have S5 := inv_suite J5 ad
      refine store_ok (X := X.suite ad (X.pn ++ pins)) (v := .ref ad) S5 hN hi (.inl hln) rfl (fun s6 S6 => ?_) (.inr hln)
      refine wpAny_mono ((hsu ad (X.pn ++ pins)).run [] s6 _ _ _ S6 (hyes rfl ad na)) (fun fl s7 hsp => ?_) (fun _ _ z => False.elim z)
      have fin : ∀ {t : L2.St} {H7 : Hp} {Q : Shared → Prop}, L2.Inv (X.suite ad (X.pn ++ pins)) [] t H7 s7 → (∀ s8, L2.Inv X pins (t.set i none) H7 s8 → Q s8) →
          wpAny (model X.prog X.w) X.A (do bindName X.env n .none; unbindBehindTheSuite X.env n pos') (fun _ s8 => Q s8) X.xe s7 := fun {t H7 Q} S7 hq => gone_ok (inv_out ok S7) hN hi hln hq
      cases fl with
      | next => obtain ⟨t, H7, S7, q7⟩ := hsp; exact fin S7 fun s8 J8 => ⟨_, _, J8, q7⟩
      | brk => obtain ⟨t, H7, S7, q7⟩ := hsp; exact fin S7 fun s8 J8 => ⟨_, _, J8, q7⟩
      | cont => obtain ⟨t, H7, S7, q7⟩ := hsp; exact fin S7 fun s8 J8 => ⟨_, _, J8, q7⟩
      | ret u => obtain ⟨v7, t, H7, S7, r7, q7⟩ := hsp; exact fin S7 fun s8 J8 => ⟨_, _, _, J8, r7, q7⟩
    | false =>
      show wpAny _ X.A (handleBy (.ref ad) X.env []) _ _ _
      refine wpAny_handleBy_nil ?_
      obtain ⟨k1, k2, k3, oe, vs, T, oT, ts', he, hz, hd, h1, hr⟩ := id fl3
      unfold PySem.passOn
      refine wpAny_bind (wpAny_field he hd h1 ?_)
      rw [if_neg (show ¬ ((Value.ref T == Value.none) = true) from by simp)]
      have fin : wpAny (model X.prog X.w) X.A (setFlight (.ref ad) X.env.frame) (fun _ s4 => wpAny (model X.prog X.w) X.A (throw (.ref ad) : Sem Flow) (SP X pins D) X.xe s4) X.xe { s' with heap := h3 } := by
        rw [hf]
        refine HandSPX.setFlight_upZ fl3 fun h4 hh4 up4 => wpAny_throw (tk _ _ ?_)
        exact ⟨ad, B, sI, pins, s5, H5, cls, d, rfl, J, nb, (up.trans up3).trans up4, .inr (.inr (by rw [hs]; exact hh4)), na, os, ag, hno rfl⟩
      first
        | exact wpAny_bind (wpAny_pure (wpAny_bind fin))
        | exact wpAny_bind fin
  · cases fl with
    | next => obtain ⟨t, H1, J1, q⟩ := hsp; exact wpAny_execs_nil ⟨t, H1, J1.ofTry ok, q⟩
    | brk => obtain ⟨t, H1, J1, q⟩ := hsp; exact ⟨t, H1, J1.ofTry ok, q⟩
    | cont => obtain ⟨t, H1, J1, q⟩ := hsp; exact ⟨t, H1, J1.ofTry ok, q⟩
    | ret u => obtain ⟨v, t, H1, J1, r, q⟩ := hsp; exact ⟨v, t, H1, J1.ofTry ok, r, q⟩
end
section
variable {X : Cx} {W : WX} {a b c e o : Expr} {es : List Expr} {ma mb mc me : EM} {ta tb : TM} {pos : Pos} {x : Str} {p : Pos} {j k : Nat}
/-- the suite's end -/
def sSu (i : Nat) : SRes → SRes
  | .nxt e S => .nxt (e.set i none) S
  | .brk e S => .brk (e.set i none) S
  | .cnt e S => .cnt (e.set i none) S
  | .ret d S => .ret d S
  | _ => .stuck
def sTry (i : Nat) (tb : Nat → Option Bool) (m n : SM) : SM := fun e S => match m e S with
  | .exc (.exc cn fs) e1 S1 => match tb cn with
    | some true => sSu i (n (e1.set i (some (.exc cn fs))) S1)
    | some false => .exc (.exc cn fs) e1 S1
    | none => .stuck
  | .exc _ _ _ => .stuck
  | r => r
theorem Cg.tr (c : Cg X W k) {pn : List (Addr × Obj)} {xe : Value → Shared → Prop} {W' : WX} (t : Takes (X.tr pn xe) W') (po : PassesOwn (model X.prog X.w) X.A X.env xe) : Cg (X.tr pn xe) W' k := ⟨c.calm, c.nd, t, po, c.rm, c.hs, c.hf, c.em⟩
theorem rs_try {i : Nat} {n : Str} {cv : Value} {tb : Nat → Option Bool} {body suite : List Stmt} {b0 : Stmt} {np pos' : Pos} {mt mn : SM} (c : Cg X W k) (hi : X.N[i]? = some n) (hc : Names X x cv)
    (htb : ∀ cn C q, tb cn = some q → X.mg (cname cn) = some (.ref C) → PySem.W.exmOne X.K (.ref C) cv = some q)
    (hb : ∀ (W' : WX) (pn : List (Addr × Obj)) (xe : Value → Shared → Prop), Cg (X.tr pn xe) W' k → RSs (X.tr pn xe) W' body mt)
    (hsu : ∀ (ad : Addr) (pn : List (Addr × Obj)), RSs (X.suite ad pn) W0 (b0 :: suite) mn) (hln : X.env.kindOf n = some .local := by rfl) :
    RS X W (.Try body [.ExceptHandler (some (.Name x np)) (some n) (b0 :: suite) pos'] [] [] pos) (sTry i tb mt mn) := by
  refine ps_imp (ps_tryK (tb := fun W' => tS X W' mt) (ts := tS X W0 mn) c.hs c.hf c.em c.nd hi hln hc c.tk (fun W' pn xe t po => hb W' pn xe (c.tr t po)) hsu) ?_
  rintro D s H ⟨w, en, rfl, R, E, P⟩
  refine ⟨w, en, rfl, R, E, ?_⟩
  unfold sTry at P
  cases q : mt en w.st with
  | nxt e S => rw [q] at P; exact P
  | ret e S => rw [q] at P; exact P
  | brk e S => rw [q] at P; exact P
  | cnt e S => rw [q] at P; exact P
  | stuck => rw [q] at P; exact P
  | exc y e1 S1 =>
    rw [q] at P
    intro w1 s1 cls dd x1 R1 st1 E1 rx
    subst st1
    obtain ⟨cn, C, fs, gs, rfl, hC, rfl, hx, rf⟩ := rx
    dsimp only at P
    cases ht : tb cn with
    | none => rw [ht] at P; exact False.elim P
    | some bb =>
      rw [ht] at P
      refine ⟨bb, htb cn C bb ht hC, ?_, ?_⟩
      · rintro rfl ad na
        dsimp only at P
        have xp := put_ext (o := ExcO ad (.ref C) dd) R1 na
        refine ⟨w1.put ad (ExcO ad (.ref C) dd), e1.set i (some (.exc cn fs)), rfl, R1.put na, (E1.ext xp.toEx0).set i (.exc hC (put_st R1 na) (hx.ext xp.toEx0) (rf.ext xp.toEx0)), ?_⟩
        show PostS X W0 _ (mn _ w1.st) _
        have P2 : PostS X W (w1.put ad (ExcO ad (.ref C) dd)) (sSu i (mn (e1.set i (some (.exc cn fs))) w1.st)) D := PostS.ext (PostS.ext P x1) xp
        cases q2 : mn (e1.set i (some (.exc cn fs))) w1.st with
        | nxt e S => rw [q2] at P2; exact fun w3 s3 x3 R3 st3 E3 => P2 w3 _ x3 R3 st3 (E3.gone i)
        | brk e S => rw [q2] at P2; exact fun w3 s3 x3 R3 st3 E3 => P2 w3 _ x3 R3 st3 (E3.gone i)
        | cnt e S => rw [q2] at P2; exact fun w3 s3 x3 R3 st3 E3 => P2 w3 _ x3 R3 st3 (E3.gone i)
        | ret e S => rw [q2] at P2; exact P2
        | exc y e S => rw [q2] at P2; exact False.elim P2
        | stuck => rw [q2] at P2; exact False.elim P2
      · rintro rfl
        dsimp only at P
        exact P w1 s1 _ dd x1 R1 rfl E1 ⟨cn, C, fs, gs, rfl, hC, rfl, hx, rf⟩

/-! ### isinstance of a caught exception -/
def rIsX (K : PySem.W.Frag) : List V → Hp → VK → Prop := fun xs H Q => ∃ (ad C : Addr) (cv : V) (u : Value) (bb : Bool), xs = [.ref ad, cv] ∧ ClsV cv u ∧ H ad = some (ExcO ad (.ref C) none) ∧ ExcC K C ∧ PySem.W.kitOne K (.ref C) u = some bb ∧ Q (.bl bb) H
theorem call_isX : CallR X (.builtin "isinstance") (rIsX X.K) := by
  intro pins s σ H xs us Q I r h
  obtain ⟨ad, C, cv, u, bb, rfl, k, hH, hC, e, q⟩ := h
  obtain ⟨u1, u2, rfl, r1, r2⟩ := vals2 r
  cases (show u1 = Value.ref ad from r1)
  have e2 := k.eq r2
  subst e2
  obtain ⟨⟨o, vs, ho, hc1, hd1, hdt⟩, _⟩ := (show ObjOk X.prog X.w H s.heap ad (ExcO ad (.ref C) none) from I.hok ad _ hH)
  have J : PySem.W.InstAt s.heap ad o C none := by
    obtain ⟨oc, od, oda, osl⟩ := o
    dsimp only at hc1 hd1 hdt
    subst hc1 hd1 hdt
    exact ⟨ho, rfl, rfl, trivial⟩
  exact PySem.W.kia_one (PySem.W.handS_kitx_exc hC.hg hC.hk hC.hs hC.hd hC.ha hC.hn hC.ht hC.hm) I.kIn J e (fun z => nomatch z) fun tk => ⟨.bl bb, H, I.kept (t' := tk) fun _ _ z => z, rfl, q⟩
def isC (tb : Nat → Option Bool) : D → Option Bool
  | .exc cn [] => tb cn
  | _ => none
def eIsC (tb : Nat → Option Bool) (m : EM) : EM := fun e S => (m e S).bind fun x S1 => lf ((isC tb x).map .bl) S1
theorem re_isC {T : Str} {p2 : Pos} {cv : V} {u : Value} {tb : Nat → Option Bool} (hm : X.mg "isinstance" = none) (ha : RE X W a ma) (hT : PE X (.Name T p2) (tC cv)) (hcv : ClsV cv u)
    (htb : ∀ cn C q, tb cn = some q → X.mg (cname cn) = some (.ref C) → ExcC X.K C ∧ PySem.W.kitOne X.K (.ref C) u = some q) (hg : Gl X "isinstance" := by rfl)
    (he : starEach (a :: [.Name T p2]) X.env = (false, eval a X.env) :: starEach [.Name T p2] X.env := by rfl) (hpl : (backTo pos (starEach [.Name T p2] X.env)).any (·.1) = false := by rfl) (hs2 : starEach [.Name T p2] X.env = (false, eval (.Name T p2) X.env) :: starEach [] X.env := by rfl) :
    RE X W (.Call (.Name "isinstance" p) [a, .Name T p2] [] pos) (eIsC tb ma) := by
  refine pe_imp (pe_callB call_isX hg hm bt_isinstance (pa_cons ha (pa_cons hT pa_nil hs2) he) (by decide) (by decide) he hpl) ?_
  rintro s H Q ⟨w, en, rfl, R, E, P⟩
  refine ⟨w, en, rfl, R, E, (Post.bind P).imp ?_⟩
  rintro v H1 ⟨w1, d, rfl, X1, R1, rx, P1⟩
  dsimp only at P1
  unfold isC at P1
  split at P1
  · rename_i cn
    cases rx with
    | @exc _ C ad dd _ gs hC st hx rf =>
      cases rf
      rcases hx with ⟨_, rfl⟩ | ⟨z, _⟩
      · cases ht : tb cn with
        | none => rw [ht] at P1; exact False.elim P1
        | some q =>
          rw [ht] at P1
          obtain ⟨k1, k2⟩ := htb cn C q ht hC
          exact ⟨ad, C, cv, u, q, rfl, hcv, st.1, k1, k2, Post.now P1 R1 (.bl _)⟩
      · exact absurd rfl z
  · exact False.elim P1

/-! ### methods of lists -/
def MtX (X : Cx) (f : Store → D → List D → Option D) : V → List V → Hp → VK → Prop := fun v vs H Q => ∃ w x xs E, w.hp = H ∧ Rep X.K X.mg w ∧ RepD X.K X.mg w x v ∧ RepL X.K X.mg w xs vs ∧ Post (RepD X.K X.mg) X.K X.mg w (lf (f w.st x xs) w.st) Q E
def eMt (f : Store → D → List D → Option D) (a : EM) (m : AM) : EM := fun e S => (a e S).bind fun x S1 => if (seqD S1 x).isSome then (m e S1).bind fun xs S2 => lf (f S2 x xs) S2 else .stuck
/-- a built-in method of a list that changes nothing -/
theorem re_lm {name : Str} {id : String} {f : Store → D → List D → Option D} {m : AM} {apos : Pos} (hm : MtR X id (MtX X f)) (slot : Slot "list" name id) (hty : typeOf (.builtin id) = pure (.type "method_descriptor")) (ho : RE X W o ma) (ha : RA X W (e :: es) m)
    (hbase : attributeBase o name X.env (eval o X.env) = eval o X.env := by rfl)
    (hfew : ((backTo pos (starEach (e :: es) X.env)).all (fun x => !x.1) && (backToKw pos (keywordEach [] X.env)).all (fun x => x.1.isSome) && decide ((e :: es).length + ([] : List Keyword).length + (if ([] : List Keyword).isEmpty then 0 else 1) < 30)) = true := by rfl)
    (hline : (apos.endLine == pos.line) = true := by rfl) (hs : starEach (e :: es) X.env = (false, eval e X.env) :: starEach es X.env := by rfl) (hpl : (backTo pos (starEach es X.env)).any (·.1) = false := by rfl) :
    RE X W (.Call (.Attribute o name apos) (e :: es) [] pos) (eMt f ma m) := by
  refine pe_imp (pe_bm PySem.F.plainAttrs_list slot hty hm ho ha hbase hfew hline hs hpl) ?_
  rintro s H Q ⟨w, en, rfl, R, E, P⟩
  refine ⟨w, en, rfl, R, E, (Post.bind P).imp ?_⟩
  rintro v H1 ⟨w1, d, rfl, X1, R1, rd, P1⟩
  dsimp only at P1
  cases q : seqD w1.st d with
  | none => rw [q] at P1; exact False.elim P1
  | some l =>
    rw [q] at P1
    replace P1 : Post (RepD X.K X.mg) X.K X.mg w1 ((m en w1.st).bind fun xs S2 => lf (f S2 d xs) S2) Q _ := P1
    obtain ⟨ad, vs, rfl, hs, hl⟩ := rd.seq R1 q
    refine ⟨.inl ⟨rfl, _, hs⟩, w1, en, rfl, R1, E.ext X1.toEx0, (Post.bind P1).imp ?_⟩
    rintro us H2 ⟨w2, xs, rfl, X2, R2, rl, P2⟩
    exact ⟨w2, d, xs, _, rfl, R2, rd.ext X2.toEx0, rl, P2⟩
def flatD : D → Option V
  | .non => some .non
  | .bl b => some (.bl b)
  | .int i => some (.int i)
  | .str x => some (.str x)
  | _ => none
theorem RepD.flat {K : PySem.W.Frag} {mg : Str → Option Value} {w : Wo} {d : D} {v u : V} (h : RepD K mg w d v) (e : flatD d = some u) : v = u ∧ flatV v = true := by
  cases h <;> first | (cases e; exact ⟨rfl, rfl⟩) | cases e
def flatL : List D → Option (List V)
  | [] => some []
  | d :: l => match flatD d, flatL l with
    | some v, some vs => some (v :: vs)
    | _, _ => none
theorem RepL.flat {K : PySem.W.Frag} {mg : Str → Option Value} {w : Wo} {l : List D} {vs us : List V} (h : RepL K mg w l vs) (e : flatL l = some us) : vs = us ∧ vs.all flatV = true := by
  induction l generalizing vs us with
  | nil => cases h; cases e; exact ⟨rfl, rfl⟩
  | cons d l ih =>
    cases h with
    | cons r t =>
      rw [flatL] at e
      split at e
      · rename_i v2 vs2 e1 e2
        cases e
        obtain ⟨q1, q2⟩ := r.flat e1
        obtain ⟨q3, q4⟩ := ih t e2
        exact ⟨by rw [q1, q3], by rw [List.all_cons, q2, q4]; rfl⟩
      · cases e
def rCnt (K : PySem.W.Frag) : V → List V → Hp → VK → Prop := fun x xs H Q => ∃ (ad : Addr) (ys : List V) (y : V), x = .ref ad ∧ xs = [y] ∧ SqL K H ad ys ∧ flatV y = true ∧ ys.all flatV = true ∧ Q (.int (ys.countP fun z => eqV z y : Nat)) H
theorem mt_cnt : MtR X "list.count" (rCnt X.K) := by
  intro pins s σ H x xs v us Q I rx rxs h
  obtain ⟨ad, ys, y, rfl, rfl, hs, fy, fys, q⟩ := h
  cases rx
  obtain ⟨u, rfl, ru⟩ := rxs.one
  obtain ⟨its, rv, ⟨⟨cls, dd, data, sl⟩, n, ho, hc, hdn, hd⟩, hlen⟩ := I.list hs
  dsimp only at hc hd
  subst hc hd
  refine call_meets PySem.F.slot_list_count ⟨_, ho, rfl⟩ PySem.F.entry_list_count (PySem.F.args_list_count_2 _ _)
    (SeqAt.list_countAt ad its.toArray n dd sl u (eqU y)) ⟨ho, fun u' hu' => mem_eqAt ru fy rv fys u' (by simpa using hu'), ?_⟩
  have ec : ∀ (ys : List V) (its : List Value), Vals ys its → ys.all flatV = true → its.countP (eqU y) = ys.countP fun z => eqV z y := by
    intro ys
    induction ys with
    | nil => intro its r _; cases r; rfl
    | cons z ys ih =>
      intro its r f
      cases r with
      | cons r t =>
        rw [List.all_cons, Bool.and_eq_true] at f
        rw [List.countP_cons, List.countP_cons, ih _ t f.2, eqU_of r f.1]
  refine ⟨.int (ys.countP fun z => eqV z y : Nat), H, I.tok _, ⟨s.toks, ?_⟩, q⟩
  show Value.int ((its.toArray.toList.countP (eqU y) : Nat) : Int) s.toks = _
  rw [← ec ys its rv fys]
def fCnt (S : Store) (x : D) (xs : List D) : Option D := match seqD S x, xs with
  | some l, [y] => match flatL l, flatD y with
    | some vs, some v => some (.int (vs.countP fun z => eqV z v : Nat))
    | _, _ => none
  | _, _ => none
theorem mm_count : MtR X "list.count" (MtX X fCnt) := by
  intro pins s σ H x xs v us Q I rx rxs h
  obtain ⟨w, d, ds, E, rfl, R, rd, rl, P⟩ := h
  unfold fCnt at P
  split at P
  · rename_i l y e1
    obtain ⟨u, rfl, ru⟩ := rl.one_inv
    obtain ⟨ad, vs, rfl, hs, hl⟩ := rd.seq R e1
    split at P
    · rename_i vs' v' e2 e3
      obtain ⟨q1, q2⟩ := hl.flat e2
      obtain ⟨q3, q4⟩ := ru.flat e3
      subst q1 q3
      exact mt_cnt pins s σ w.hp _ _ v us Q I rx rxs ⟨ad, vs, u, rfl, rfl, hs, q4, q2, Post.now P R (.int _)⟩
    · exact False.elim P
  · exact False.elim P
def fIdx (S : Store) (x : D) (xs : List D) : Option D := match seqD S x, xs with
  | some l, [y] => match flatL l, flatD y with
    | some vs, some v => (vs.findIdx? fun z => eqV z v).map fun j => .int (j : Nat)
    | _, _ => none
  | _, _ => none
theorem mm_index : MtR X "list.index" (MtX X fIdx) := by
  intro pins s σ H x xs v us Q I rx rxs h
  obtain ⟨w, d, ds, E, rfl, R, rd, rl, P⟩ := h
  unfold fIdx at P
  split at P
  · rename_i l y e1
    obtain ⟨u, rfl, ru⟩ := rl.one_inv
    obtain ⟨ad, vs, rfl, hs, hl⟩ := rd.seq R e1
    split at P
    · rename_i vs' v' e2 e3
      obtain ⟨q1, q2⟩ := hl.flat e2
      obtain ⟨q3, q4⟩ := ru.flat e3
      subst q1 q3
      cases e4 : vs.findIdx? fun z => eqV z u with
      | none => rw [e4] at P; exact False.elim P
      | some j =>
        rw [e4] at P
        obtain ⟨hj, h1, h2⟩ := List.findIdx?_eq_some_iff_getElem.mp e4
        refine mt_index pins s σ w.hp _ _ v us Q I rx rxs ⟨ad, vs, u, j, vs[j], rfl, rfl, hs, q4, q2, List.getElem?_eq_getElem hj, h1, fun m z hm hz => ?_, Post.now P R (.int _)⟩
        have hml : m < vs.length := by omega
        rw [List.getElem?_eq_getElem hml] at hz
        cases hz
        simpa using h2 m hm
    · exact False.elim P
  · exact False.elim P
end
end G

/-! ## H. tables of classes, the law's end -/
namespace G
open PySem L2 PySem.Spec
def tbOf (l : List (Nat × Bool)) : Nat → Option Bool := fun c => l.lookup c
theorem tb_nil {mg : Str → Option Value} {P : Addr → Bool → Prop} : ∀ (cn : Nat) (C : Addr) (q : Bool), tbOf [] cn = some q → mg (cname cn) = some (.ref C) → P C q := fun _ _ _ h => by cases h
theorem tb_cons {mg : Str → Option Value} {P : Addr → Bool → Prop} {n : Nat} {b : Bool} {l : List (Nat × Bool)} {C0 : Addr} (g : mg (cname n) = some (.ref C0)) (h : P C0 b) (r : ∀ cn C q, tbOf l cn = some q → mg (cname cn) = some (.ref C) → P C q) :
    ∀ (cn : Nat) (C : Addr) (q : Bool), tbOf ((n, b) :: l) cn = some q → mg (cname cn) = some (.ref C) → P C q := fun cn C q h1 h2 => by
  unfold tbOf at h1
  rw [List.lookup_cons] at h1
  split at h1
  · rename_i e
    have e' : cn = n := by simpa using e
    subst e'
    cases h1
    rw [g] at h2
    cases h2
    exact h
  · exact r cn C q h1 h2
abbrev bmValueError : List Value := [.type "ValueError", .type "Exception", .type "BaseException", .type "object"]
abbrev bmLookupError : List Value := [.type "LookupError", .type "Exception", .type "BaseException", .type "object"]
abbrev bmArithmeticError : List Value := [.type "ArithmeticError", .type "Exception", .type "BaseException", .type "object"]
/-- an own exception class without methods -/
structure XcO (K : PySem.W.Frag) (C : Addr) (bm : List Value) (nw : String) : Prop where
  x : PySem.W.excIn K C bm nw = true
  k : PySem.W.keepIn K (.ref C) = true
  b : PySem.W.subIn K (.ref C) (.type "BaseException") = some true
  t : PySem.W.typeIn K (.ref C) = some (.type "type")
theorem kit_ref {K : PySem.W.Frag} {C D : Addr} {b : Bool} (hd : PySem.W.hasDictIn K D = true) (ht : PySem.W.typeIn K (.ref D) = some (.type "type")) (hs : PySem.W.subIn K (.ref C) (.ref D) = some b) (hb : b = true ∨ C ≠ D) : PySem.W.kitOne K (.ref C) (.ref D) = some b := by
  obtain ⟨cd, hc, _⟩ := PySem.W.any_some hd
  unfold PySem.W.kitOne
  by_cases e : C = D
  · subst e
    rcases hb with rfl | hb
    · rw [if_pos (by simp)]
    · exact absurd rfl hb
  · rw [if_neg (by simp [e])]
    show (if ((PySem.W.clsIn K D).isSome && PySem.W.typeIn K (.ref D) == some (.type "type")) = true then PySem.W.subIn K (.ref C) (.ref D) else none) = _
    rw [hc, ht, hs]
    rfl
theorem kit_type {K : PySem.W.Frag} {C : Addr} {T : String} {b : Bool} (hm : PySem.W.kitMeta T = true) (hs : PySem.W.subIn K (.ref C) (.type T) = some b) : PySem.W.kitOne K (.ref C) (.type T) = some b := by
  unfold PySem.W.kitOne
  rw [if_neg (by simp)]
  show (if PySem.W.kitMeta T = true then PySem.W.subIn K (.ref C) (.type T) else none) = _
  rw [if_pos hm]
  exact hs
section
variable {P : Program} {w0 : World} {K : PySem.W.Frag} {mg : Str → Option Value} {base : Heap}
/-- the law's own promise -/
def spLaw (K : PySem.W.Frag) : Sp := fun vs H Q _ => ∃ (a : Addr) (ns : List Int), vs = [.ref a] ∧ SqL K H a (ns.map V.int) ∧ ns.length ≤ 63 ∧ ∀ H', Q (.bl true) H'
theorem ints_rep {w : Wo} : ∀ ns : List Int, RepL K mg w (ns.map D.int) (ns.map V.int)
  | [] => .nil
  | n :: ns => .cons (.int n) (ints_rep ns)
theorem law_ok {k : Nat} {f : Addr} {fd : FuncData} {x : Str} {m : Nat → FM} (F : ∀ N, FnOk P w0 K mg base (L2.CX P w0) k f fd [x] (spM K mg 1 (m N)))
    (h : ∀ ns : List Int, ns.length ≤ 63 → ∃ N S, m N [.scr (ns.map .int)] [] = .ok (.bl true) S) : FnOk P w0 K mg base (L2.CX P w0) k f fd [x] (spLaw K) := by
  refine ⟨fun vs H Q E ⟨a, ns, e, _⟩ => by rw [e]; rfl, fun A outer s H args us vs Q E hr he hb hv hs => ?_⟩
  obtain ⟨a, ns, rfl, hq, hl, hQ⟩ := hs
  obtain ⟨N, S, e⟩ := h ns hl
  refine (F N).run A outer s H args us _ Q E hr he hb hv ⟨rfl, ⟨[], [], H, []⟩, [.scr (ns.map .int)], rfl, ⟨rfl, List.nodup_nil, (fun _ h => by cases h), (fun n a c h => by simp at h), (fun _ h => by cases h)⟩, .cons (.scr ?_ (ints_rep ns)) .nil, ?_⟩
  · rcases hq with hq | hq
    · refine .inl ⟨hq, fun z => ?_⟩
      rcases z with ⟨n, c, h, _⟩ | z
      · simp at h
      · cases z
    · exact .inr hq
  · rw [e]
    intro w' v _ _ _ r
    cases r
    exact hQ _
end
end G

/-! ## the walk of law_k01_ratios_made, printed by gen.py -/
namespace Wk01
open PySem L2 G
def topS (i : Nat) : Stmt := PySem.Challenge.pw_sharetags_k01_ratios_made.main.body.getD i (.Pass ⟨0, 0, 0, 0⟩)
abbrev s__law_cell : Stmt := topS 43
abbrev n__law_cell : List Str := ["_law_script", "_law_k", "_law_state", "_law_cell_here"]
abbrev p__law_cell : List Str := ["_law_script", "_law_k"]
theorem sc__law_cell : FnScope n__law_cell p__law_cell (defScope s__law_cell) := ⟨rfl, rfl, rfl, by decide +kernel, rfl, by decide +kernel, by decide +kernel⟩
abbrev s_is_whole : Stmt := topS 35
abbrev n_is_whole : List Str := ["thing"]
abbrev p_is_whole : List Str := ["thing"]
theorem sc_is_whole : FnScope n_is_whole p_is_whole (defScope s_is_whole) := ⟨rfl, rfl, rfl, by decide +kernel, rfl, by decide +kernel, by decide +kernel⟩
abbrev s_shared : Stmt := topS 36
abbrev n_shared : List Str := ["one", "other"]
abbrev p_shared : List Str := ["one", "other"]
theorem sc_shared : FnScope n_shared p_shared (defScope s_shared) := ⟨rfl, rfl, rfl, by decide +kernel, rfl, by decide +kernel, by decide +kernel⟩
abbrev s_is_ratio : Stmt := topS 37
abbrev n_is_ratio : List Str := ["thing", "top", "bottom", "part"]
abbrev p_is_ratio : List Str := ["thing"]
theorem sc_is_ratio : FnScope n_is_ratio p_is_ratio (defScope s_is_ratio) := ⟨rfl, rfl, rfl, by decide +kernel, rfl, by decide +kernel, by decide +kernel⟩
abbrev s__law_is : Stmt := topS 51
abbrev n__law_is : List Str := ["_law_thing", "_law_due", "_law_told"]
abbrev p__law_is : List Str := ["_law_thing", "_law_due"]
theorem sc__law_is : FnScope n__law_is p__law_is (defScope s__law_is) := ⟨rfl, rfl, rfl, by decide +kernel, rfl, by decide +kernel, by decide +kernel⟩
abbrev s__law_whole : Stmt := topS 48
abbrev n__law_whole : List Str := ["_law_thing"]
abbrev p__law_whole : List Str := ["_law_thing"]
theorem sc__law_whole : FnScope n__law_whole p__law_whole (defScope s__law_whole) := ⟨rfl, rfl, rfl, by decide +kernel, rfl, by decide +kernel, by decide +kernel⟩
abbrev s__law_is_ratio : Stmt := topS 49
abbrev n__law_is_ratio : List Str := ["_law_thing", "_law_due"]
abbrev p__law_is_ratio : List Str := ["_law_thing", "_law_due"]
theorem sc__law_is_ratio : FnScope n__law_is_ratio p__law_is_ratio (defScope s__law_is_ratio) := ⟨rfl, rfl, rfl, by decide +kernel, rfl, by decide +kernel, by decide +kernel⟩
abbrev s__law_no_ratios : Stmt := topS 53
abbrev n__law_no_ratios : List Str := ["_law_pair", "_law_high", "_law_under", "_law_things"]
abbrev p__law_no_ratios : List Str := ["_law_pair"]
theorem sc__law_no_ratios : FnScope n__law_no_ratios p__law_no_ratios (defScope s__law_no_ratios) := ⟨rfl, rfl, rfl, by decide +kernel, rfl, by decide +kernel, by decide +kernel⟩
abbrev s__law_take : Stmt := topS 45
abbrev n__law_take : List Str := ["_law_pool_here", "_law_many", "_law_state", "_law_digit"]
abbrev p__law_take : List Str := ["_law_pool_here", "_law_many"]
theorem sc__law_take : FnScope n__law_take p__law_take (defScope s__law_take) := ⟨rfl, rfl, rfl, by decide +kernel, rfl, by decide +kernel, by decide +kernel⟩
abbrev s__law_number : Stmt := topS 50
abbrev n__law_number : List Str := ["_law_pool_here", "_law_way", "_law_got", "_law_turn"]
abbrev p__law_number : List Str := ["_law_pool_here"]
theorem sc__law_number : FnScope n__law_number p__law_number (defScope s__law_number) := ⟨rfl, rfl, rfl, by decide +kernel, rfl, by decide +kernel, by decide +kernel⟩
abbrev s__law_pool : Stmt := topS 44
abbrev n__law_pool : List Str := ["_law_cell_here", "_law_digits"]
abbrev p__law_pool : List Str := ["_law_cell_here"]
theorem sc__law_pool : FnScope n__law_pool p__law_pool (defScope s__law_pool) := ⟨rfl, rfl, rfl, by decide +kernel, rfl, by decide +kernel, by decide +kernel⟩
abbrev s__law_r : Stmt := topS 46
abbrev n__law_r : List Str := ["_law_up", "_law_low", "_law_one", "_law_rest"]
abbrev p__law_r : List Str := ["_law_up", "_law_low"]
theorem sc__law_r : FnScope n__law_r p__law_r (defScope s__law_r) := ⟨rfl, rfl, rfl, by decide +kernel, rfl, by decide +kernel, by decide +kernel⟩
abbrev s__law_kind : Stmt := topS 47
abbrev n__law_kind : List Str := ["_law_e", "_law_kinds", "_law_number_here", "_law_family"]
abbrev p__law_kind : List Str := ["_law_e"]
theorem sc__law_kind : FnScope n__law_kind p__law_kind (defScope s__law_kind) := ⟨rfl, rfl, rfl, by decide +kernel, rfl, by decide +kernel, by decide +kernel⟩
abbrev s_lowest : Stmt := topS 38
abbrev n_lowest : List Str := ["top", "bottom", "part"]
abbrev p_lowest : List Str := ["top", "bottom"]
theorem sc_lowest : FnScope n_lowest p_lowest (defScope s_lowest) := ⟨rfl, rfl, rfl, by decide +kernel, rfl, by decide +kernel, by decide +kernel⟩
abbrev s_ratio : Stmt := topS 39
abbrev n_ratio : List Str := ["top", "bottom"]
abbrev p_ratio : List Str := ["top", "bottom"]
theorem sc_ratio : FnScope n_ratio p_ratio (defScope s_ratio) := ⟨rfl, rfl, rfl, by decide +kernel, rfl, by decide +kernel, by decide +kernel⟩
abbrev s__law_refused : Stmt := topS 52
abbrev n__law_refused : List Str := ["_law_high", "_law_under", "_law_caught", "_law_e"]
abbrev p__law_refused : List Str := ["_law_high", "_law_under"]
theorem sc__law_refused : FnScope n__law_refused p__law_refused (defScope s__law_refused) := ⟨rfl, rfl, rfl, by decide +kernel, rfl, by decide +kernel, by decide +kernel⟩
abbrev s_law : Stmt := topS 54
abbrev n_law : List Str := ["_law_script", "_law_k", "_law_pool_here", "_law_high", "_law_under", "_law_due", "_law_told", "_law_thing"]
abbrev p_law : List Str := ["_law_script"]
theorem sc_law : FnScope n_law p_law (defScope s_law) := ⟨rfl, rfl, rfl, by decide +kernel, rfl, by decide +kernel, by decide +kernel⟩
def tb_Full : Nat → Option Bool := tbOf [(3, false)]
def tb_LookupError : Nat → Option Bool := tbOf [(3, false)]
def tb_LostError : Nat → Option Bool := tbOf [(3, false)]
def tb_NoAsk : Nat → Option Bool := tbOf [(3, false)]
def tb_NoClient : Nat → Option Bool := tbOf [(3, false)]
def tb_NoDeeds : Nat → Option Bool := tbOf [(3, false)]
def tb_NoLeast : Nat → Option Bool := tbOf [(3, false)]
def tb_NoLeasts : Nat → Option Bool := tbOf [(3, false)]
def tb_NoLess : Nat → Option Bool := tbOf [(3, false)]
def tb_NoLog : Nat → Option Bool := tbOf [(3, false)]
def tb_NoName : Nat → Option Bool := tbOf [(3, false)]
def tb_NoNumber : Nat → Option Bool := tbOf [(3, false)]
def tb_NoOne : Nat → Option Bool := tbOf [(3, false)]
def tb_NoPlace : Nat → Option Bool := tbOf [(3, false)]
def tb_NoPlan : Nat → Option Bool := tbOf [(3, false)]
def tb_NoRate : Nat → Option Bool := tbOf [(3, false)]
def tb_NoRatio : Nat → Option Bool := tbOf [(3, true)]
def tb_NoRivals : Nat → Option Bool := tbOf [(3, false)]
def tb_NoRow : Nat → Option Bool := tbOf [(3, false)]
def tb_NoSize : Nat → Option Bool := tbOf [(3, false)]
def tb_NoStretch : Nat → Option Bool := tbOf [(3, false)]
def tb_NoTags : Nat → Option Bool := tbOf [(3, false)]
def tb_NoText : Nat → Option Bool := tbOf [(3, false)]
def tb_NoTime : Nat → Option Bool := tbOf [(3, false)]
def tb_NoTruth : Nat → Option Bool := tbOf [(3, false)]
def tb_NoWeight : Nat → Option Bool := tbOf [(3, false)]
def tb_NoWord : Nat → Option Bool := tbOf [(3, false)]
def tb_Nought : Nat → Option Bool := tbOf [(3, false)]
def tb_Past : Nat → Option Bool := tbOf [(3, false)]
def tb_ShareError : Nat → Option Bool := tbOf [(3, false)]
def tb_Stands : Nat → Option Bool := tbOf [(3, false)]
def tb_TagError : Nat → Option Bool := tbOf [(3, true)]
def tb_TooMany : Nat → Option Bool := tbOf [(3, false)]
def tb_TooMuch : Nat → Option Bool := tbOf [(3, false)]
def tb_ValueError : Nat → Option Bool := tbOf [(3, true)]
def tx_TagError : Nat → Option Bool := tbOf [(3, true)]
def g_ratio_0_top_bottom : List D → List D → List D := fun ds es => [(es.getD 0 .non), (es.getD 1 .non)]
def g_ratio_1_ : List D → List D → List D := fun ds es => [(ds.getD 0 .non), ((.int 1))]
def g_ratio_1_bottom : List D → List D → List D := fun ds es => [(ds.getD 0 .non), (es.getD 0 .non)]
/-! mirrors -/
def b__law_cell (N : Nat) : SM := (sSeq (sIf (tB (eBin dLt (eVar 1) (eCa fLen (aCons (eVar 0) aNil)))) (sRet (eBinS ixD (eVar 0) (eVar 1))) sNop)
    (sSeq (sSet 2 (eBin dMod (eBin dMul (eC (.int 60013)) (eBin dAdd (eBin dAdd (eBin dMul (eVar 1) (eVar 1)) (eBin dMul (eC (.int 5)) (eVar 1))) (eC (.int 11)))) (eC (.int 2147483477))))
    (sSeq (sFor (iSeq (eSl (eVar 0) oNone (oSome (eC (.int 3))))) (gN 3) (sSet 2 (eBin dMod (eBin dAdd (eBin dMul (eVar 2) (eC (.int 48017))) (eVar 3)) (eC (.int 2147483477)))))
    (sRet (eVar 2)))))
def m__law_cell (N : Nat) : FM := fnM 4 (b__law_cell N)
def b_is_whole (N : Nat) : SM := (sRet (eAn (eIsTy .int (eVar 0)) (eNt (eIsTy .bool (eVar 0)))))
def m_is_whole (N : Nat) : FM := fnM 1 (b_is_whole N)
def b_shared (N : Nat) : SM := (sSeq (wlR (tB (eBin dGt (eVar 1) (eC (.int 0)))) (sPar 0 1 (aCons (eVar 1) (aCons (eBin dMod (eVar 0) (eVar 1)) aNil))) N)
    (sRet (eVar 0)))
def m_shared (N : Nat) : FM := fnM 2 (b_shared N)
def b_is_ratio (N : Nat) : SM := (sSeq (sIf (tOr' (tNt (tT (eIsTy .tuple (eVar 0)))) (tOr' (tB (eBin dNe (eCa fLen (aCons (eVar 0) aNil)) (eC (.int 2)))) (tNt (tT (eCa fAll (aCons (eLc (iSeq (eVar 0)) (.nm 3) tTrue (eCall (m_is_whole N) (nA 1 (aCons (eVar 3) aNil))) [3]) aNil)))))) (sRet (eC (.bl false))) sNop)
    (sSeq (sAsg (eVar 0) (gTp 2 (gsCons' (gN 1) (gsCons' (gN 2) gsNil))))
    (sRet (eAn (eBin dGt (eVar 2) (eC (.int 0))) (eBin dEq (eCall (m_shared N) (nA 2 (aCons (eCa fAbs (aCons (eVar 1) aNil)) (aCons (eVar 2) aNil)))) (eC (.int 1)))))))
def m_is_ratio (N : Nat) : FM := fnM 4 (b_is_ratio N)
def b__law_is (N : Nat) : SM := (sSeq (sSet 2 (eCall (m_is_ratio N) (nA 1 (aCons (eVar 0) aNil))))
    (sRet (eAn (eIsTy .bool (eVar 2)) (eBin dEq (eVar 2) (eVar 1)))))
def m__law_is (N : Nat) : FM := fnM 3 (b__law_is N)
def b__law_whole (N : Nat) : SM := (sRet (eAn (eIsTy .int (eVar 0)) (eNt (eIsTy .bool (eVar 0)))))
def m__law_whole (N : Nat) : FM := fnM 1 (b__law_whole N)
def b__law_is_ratio (N : Nat) : SM := (sSeq (sIf (tOr' (tNt (tT (eIsTy .tuple (eVar 0)))) (tOr' (tB (eBin dNe (eCa fLen (aCons (eVar 0) aNil)) (eC (.int 2)))) (tOr' (tNt (tT (eCall (m__law_whole N) (nA 1 (aCons (eBinS ixD (eVar 0) (eC (.int 0))) aNil))))) (tNt (tT (eCall (m__law_whole N) (nA 1 (aCons (eBinS ixD (eVar 0) (eC (.int 1))) aNil)))))))) (sRet (eC (.bl false))) sNop)
    (sRet (eBin dEq (eVar 0) (eVar 1))))
def m__law_is_ratio (N : Nat) : FM := fnM 2 (b__law_is_ratio N)
def b__law_no_ratios (N : Nat) : SM := (sSeq (sAsg (eVar 0) (gTp 2 (gsCons' (gN 1) (gsCons' (gN 2) gsNil))))
    (sSeq (sSet 3 (eLst (aCons (eC .non) (aCons (eC (.int 7)) (aCons (eC (.bl true)) (aCons (eC (.str "")) (aCons (eC (.str "1/2")) (aCons (eLst aNil) (aCons (eCa fList (aCons (eVar 0) aNil)) (aCons (eC (.dic [] [])) (aCons (eTup aNil) (aCons (eTup (aCons (eVar 1) aNil)) (aCons (eTup (aCons (eVar 1) (aCons (eVar 2) (aCons (eC (.int 1)) aNil)))) (aCons (eTup (aCons (eVar 1) (aCons (eC (.int 0)) aNil))) aNil))))))))))))))
    (sSeq (sSet 3 (eBin dAdd (eVar 3) (eLst (aCons (eTup (aCons (eVar 1) (aCons (eBin dSub (eC (.int 0)) (eVar 2)) aNil))) (aCons (eTup (aCons (eBin dMul (eC (.int 2)) (eVar 1)) (aCons (eBin dMul (eC (.int 2)) (eVar 2)) aNil))) (aCons (eTup (aCons (eC .non) (aCons (eVar 2) aNil))) (aCons (eTup (aCons (eVar 1) (aCons (eC .non) aNil))) (aCons (eTup (aCons (eC (.str "1")) (aCons (eVar 2) aNil))) aNil))))))))
    (sSeq (sSet 3 (eBin dAdd (eVar 3) (eLst (aCons (eTup (aCons (eVar 1) (aCons (eLst (aCons (eVar 2) aNil)) aNil))) (aCons (eTup (aCons (eVar 1) (aCons (eC (.bl true)) aNil))) aNil)))))
    (sRet (eBin dAdd (eVar 3) (eLst (aCons (eTup (aCons (eC (.bl true)) (aCons (eVar 2) aNil))) (aCons (eTup (aCons (eVar 0) (aCons (eVar 2) aNil))) (aCons (eTup (aCons (eVar 0) aNil)) (aCons (eTup (aCons (eC (.int 0)) (aCons (eC (.int 2)) aNil))) (aCons (eTup (aCons (eC (.int 0)) (aCons (eC (.int 0)) aNil))) (aCons (eTup (aCons (eLst aNil) (aCons (eLst aNil) aNil))) aNil)))))))))))))
def m__law_no_ratios (N : Nat) : FM := fnM 4 (b__law_no_ratios N)
def b__law_take (N : Nat) : SM := (sSeq (sAsg (eBin dAdd (eBinS ixD (eVar 0) (eC (.int 2))) (eC (.int 1))) (gSb (eVar 0) (eC (.int 2))))
    (sSeq (sSet 2 (eBinS ixD (eVar 0) (eC (.int 0))))
    (sSeq (sAsg (eBin dMod (eBin dAdd (eBin dMul (eVar 2) (eBin dAdd (eBin dMod (eVar 2) (eC (.int 44017))) (eC (.int 30029)))) (eBin dMul (eC (.int 80021)) (eBinS ixD (eVar 0) (eC (.int 2))))) (eC (.int 2147483477))) (gSb (eVar 0) (eC (.int 0))))
    (sSeq (sIf (tB (eBin dGt (eBinS ixD (eVar 0) (eC (.int 1))) (eC (.int 0)))) (sSeq (sAsg (eCa fDivmod (aCons (eBinS ixD (eVar 0) (eC (.int 1))) (aCons (eVar 1) aNil))) (gTp 2 (gsCons' (gSb (eVar 0) (eC (.int 1))) (gsCons' (gN 3) gsNil))))
    (sRet (eVar 3))) sNop)
    (sRet (eBin dMod (eBin dDiv (eBinS ixD (eVar 0) (eC (.int 0))) (eC (.int 64))) (eVar 1)))))))
def m__law_take (N : Nat) : FM := fnM 4 (b__law_take N)
def b__law_number (N : Nat) : SM := (sSeq (sSet 1 (eCall (m__law_take N) (nA 2 (aCons (eVar 0) (aCons (eC (.int 8)) aNil)))))
    (sSeq (sSet 2 (eBinS ixD (eLst (aCons (eC (.int 0)) (aCons (eC (.int 1)) (aCons (eCall (m__law_take N) (nA 2 (aCons (eVar 0) (aCons (eC (.int 97)) aNil)))) (aCons (eCall (m__law_take N) (nA 2 (aCons (eVar 0) (aCons (eC (.int 13)) aNil)))) aNil))))) (eBin dMod (eVar 1) (eC (.int 4)))))
    (sSeq (sIf (tB (eBin dGt (eVar 1) (eC (.int 3)))) (sSeq (sSet 2 (eC (.int 0)))
    (sFor (iRg1 (aCons (eBinS ixD (eLst (aCons (eC (.int 1)) (aCons (eC (.int 2)) (aCons (eC (.int 4)) (aCons (eC (.int 6)) aNil))))) (eBin dSub (eVar 1) (eC (.int 4)))) aNil)) (gN 3) (sSet 2 (eBin dAdd (eBin dMul (eVar 2) (eC (.int 1000003))) (eCall (m__law_take N) (nA 2 (aCons (eVar 0) (aCons (eC (.int 1000003)) aNil)))))))) sNop)
    (sRet (eBin dMul (eVar 2) (eBinS ixD (eLst (aCons (eC (.int 1)) (aCons (eNeg (eC (.int 1))) aNil))) (eCall (m__law_take N) (nA 2 (aCons (eVar 0) (aCons (eC (.int 2)) aNil))))))))))
def m__law_number (N : Nat) : FM := fnM 4 (b__law_number N)
def b__law_pool (N : Nat) : SM := (sSeq (sSet 1 (eC (.int 0)))
    (sSeq (sIf (tOr' (tB (eBin dLt (eVar 0) (eC (.int 0)))) (tB (eBin dGe (eVar 0) (eBin dPow (eC (.int 10)) (eC (.int 18)))))) (sSet 1 (eCa fAbs (aCons (eVar 0) aNil))) sNop)
    (sRet (eNew (aCons (eBin dMod (eVar 0) (eC (.int 2147483477))) (aCons (eVar 1) (aCons (eC (.int 0)) aNil)))))))
def m__law_pool (N : Nat) : FM := fnM 2 (b__law_pool N)
def b__law_r (N : Nat) : SM := (sSeq (sPar 2 3 (aCons (eCa fAbs (aCons (eVar 0) aNil)) (aCons (eCa fAbs (aCons (eVar 1) aNil)) aNil)))
    (sSeq (wlR (tB (eBin dGt (eVar 3) (eC (.int 0)))) (sPar 2 3 (aCons (eVar 3) (aCons (eBin dMod (eVar 2) (eVar 3)) aNil))) N)
    (sSeq (sIf (tB (eBin dLt (eVar 1) (eC (.int 0)))) (sSet 2 (eBin dSub (eC (.int 0)) (eVar 2))) sNop)
    (sRet (eTup (aCons (eBin dDiv (eVar 0) (eVar 2)) (aCons (eBin dDiv (eVar 1) (eVar 2)) aNil)))))))
def m__law_r (N : Nat) : FM := fnM 4 (b__law_r N)
def b__law_kind (N : Nat) : SM := (sSeq (sSet 1 (eLst (aCons (eIsC tb_NoRatio (eVar 0)) (aCons (eIsC tb_NoText (eVar 0)) (aCons (eIsC tb_NoName (eVar 0)) (aCons (eIsC tb_NoRate (eVar 0)) aNil))))))
    (sSeq (sSet 1 (eBin dAdd (eVar 1) (eLst (aCons (eIsC tb_NoWeight (eVar 0)) (aCons (eIsC tb_NoNumber (eVar 0)) (aCons (eIsC tb_NoTime (eVar 0)) (aCons (eIsC tb_NoTags (eVar 0)) aNil)))))))
    (sSeq (sSet 1 (eBin dAdd (eVar 1) (eLst (aCons (eIsC tb_NoSize (eVar 0)) (aCons (eIsC tb_NoClient (eVar 0)) (aCons (eIsC tb_NoLeast (eVar 0)) (aCons (eIsC tb_NoRivals (eVar 0)) aNil)))))))
    (sSeq (sSet 1 (eBin dAdd (eVar 1) (eLst (aCons (eIsC tb_NoTruth (eVar 0)) (aCons (eIsC tb_NoDeeds (eVar 0)) (aCons (eIsC tb_NoLog (eVar 0)) (aCons (eIsC tb_NoStretch (eVar 0)) aNil)))))))
    (sSeq (sSet 1 (eBin dAdd (eVar 1) (eLst (aCons (eIsC tb_NoLess (eVar 0)) (aCons (eIsC tb_NoPlan (eVar 0)) (aCons (eIsC tb_NoLeasts (eVar 0)) (aCons (eIsC tb_NoWord (eVar 0)) aNil)))))))
    (sSeq (sSet 1 (eBin dAdd (eVar 1) (eLst (aCons (eIsC tb_NoRow (eVar 0)) (aCons (eIsC tb_NoOne (eVar 0)) (aCons (eIsC tb_NoAsk (eVar 0)) (aCons (eIsC tb_NoPlace (eVar 0)) aNil)))))))
    (sSeq (sSet 1 (eBin dAdd (eVar 1) (eLst (aCons (eIsC tb_Nought (eVar 0)) (aCons (eIsC tb_Stands (eVar 0)) (aCons (eIsC tb_TooMany (eVar 0)) (aCons (eIsC tb_TooMuch (eVar 0)) aNil)))))))
    (sSeq (sSet 1 (eBin dAdd (eVar 1) (eLst (aCons (eIsC tb_Full (eVar 0)) (aCons (eIsC tb_Past (eVar 0)) aNil)))))
    (sSeq (sIf (tB (eBin dNe (eMt fCnt (eVar 1) (aCons (eC (.bl true)) aNil)) (eC (.int 1)))) (sRet (eC .non)) sNop)
    (sSeq (sSet 2 (eMt fIdx (eVar 1) (aCons (eC (.bl true)) aNil)))
    (sSeq (sSet 3 (eBin dAdd (eCa fInt (aCons (eBin dGt (eVar 2) (eC (.int 20))) aNil)) (eCa fInt (aCons (eBin dGt (eVar 2) (eC (.int 23))) aNil))))
    (sSeq (sIf (tB (eBin dNe (eMt fIdx (eLst (aCons (eIsC tb_TagError (eVar 0)) (aCons (eIsC tb_LostError (eVar 0)) (aCons (eIsC tb_ShareError (eVar 0)) aNil)))) (aCons (eC (.bl true)) aNil)) (eVar 3))) (sRet (eC .non)) sNop)
    (sSeq (sIf (tOr' (tB (eBin dNe (eIsC tb_ValueError (eVar 0)) (eBin dEq (eVar 3) (eC (.int 0))))) (tB (eBin dNe (eIsC tb_LookupError (eVar 0)) (eBin dEq (eVar 3) (eC (.int 1)))))) (sRet (eC .non)) sNop)
    (sRet (eVar 2)))))))))))))))
def m__law_kind (N : Nat) : FM := fnM 4 (b__law_kind N)
def b_lowest (N : Nat) : SM := (sSeq (sSet 2 (eCall (m_shared N) (nA 2 (aCons (eCa fAbs (aCons (eVar 0) aNil)) (aCons (eVar 1) aNil)))))
    (sRet (eTup (aCons (eBin dDiv (eVar 0) (eVar 2)) (aCons (eBin dDiv (eVar 1) (eVar 2)) aNil)))))
def m_lowest (N : Nat) : FM := fnM 3 (b_lowest N)
def b_ratio (N : Nat) : SM := (sSeq (sIf (tOr' (tNt (tT (eCall (m_is_whole N) (nA 1 (aCons (eVar 0) aNil))))) (tOr' (tNt (tT (eCall (m_is_whole N) (nA 1 (aCons (eVar 1) aNil))))) (tB (eBin dEq (eVar 1) (eC (.int 0)))))) (sRaise 3) sNop)
    (sSeq (sIf (tB (eBin dLt (eVar 1) (eC (.int 0)))) (sRet (eCall (m_lowest N) (nA 2 (aCons (eBin dSub (eC (.int 0)) (eVar 0)) (aCons (eBin dSub (eC (.int 0)) (eVar 1)) aNil))))) sNop)
    (sRet (eCall (m_lowest N) (nA 2 (aCons (eVar 0) (aCons (eVar 1) aNil)))))))
def m_ratio (N : Nat) : FM := fnM 2 (b_ratio N)
def b__law_refused (N : Nat) : SM := (sSeq (sSet 2 (eC .non))
    (sSeq (sTry 3 tx_TagError (sDrop (eCall (m_ratio N) (nA 2 (aCons (eVar 0) (aCons (eVar 1) aNil))))) (sSet 2 (eVar 3)))
    (sRet (eAn (eBin dIsNot (eVar 2) (eC .non)) (eBin dEq (eCall (m__law_kind N) (nA 1 (aCons (eVar 2) aNil))) (eC (.int 0)))))))
def m__law_refused (N : Nat) : FM := fnM 4 (b__law_refused N)
def b_law (N : Nat) : SM := (sSeq (sIf (tOr' (tB (eBin dNe (eTup (aCons (eC (.tup [.int 0, .int 1])) (aCons (eC (.tup [.int 1, .int 1])) aNil))) (eTup (aCons (eTup (aCons (eC (.int 0)) (aCons (eC (.int 1)) aNil))) (aCons (eTup (aCons (eC (.int 1)) (aCons (eC (.int 1)) aNil))) aNil))))) (tOr' (tNt (tT (eCall (m__law_is N) (nA 2 (aCons (eC (.tup [.int 0, .int 1])) (aCons (eC (.bl true)) aNil)))))) (tNt (tT (eCall (m__law_is N) (nA 2 (aCons (eC (.tup [.int 1, .int 1])) (aCons (eC (.bl true)) aNil)))))))) (sRet (eC (.bl false))) sNop)
    (sSeq (sFor (iRg1 (aCons (eCa fMax (aCons (eC (.int 1)) (aCons (eCa fMin (aCons (eCa fLen (aCons (eVar 0) aNil)) (aCons (eC (.int 16)) aNil))) aNil))) aNil)) (gN 1) (sSeq (sSet 2 (eCall (m__law_pool N) (nA 1 (aCons (eCall (m__law_cell N) (nA 2 (aCons (eVar 0) (aCons (eVar 1) aNil)))) aNil))))
    (sSeq (sPar 3 4 (aCons (eCall (m__law_number N) (nA 1 (aCons (eVar 2) aNil))) (aCons (eCall (m__law_number N) (nA 1 (aCons (eVar 2) aNil))) aNil)))
    (sSeq (sIf (tB (eBin dEq (eCall (m__law_take N) (nA 2 (aCons (eVar 2) (aCons (eC (.int 4)) aNil)))) (eC (.int 0)))) (sSet 3 (eBin dMul (eVar 4) (eBin dSub (eCall (m__law_take N) (nA 2 (aCons (eVar 2) (aCons (eC (.int 40)) aNil)))) (eC (.int 20))))) sNop)
    (sSeq (sIf (tB (eBin dEq (eVar 4) (eC (.int 0)))) (sSet 4 (eBinS ixD (eLst (aCons (eC (.int 1)) (aCons (eNeg (eC (.int 3))) (aCons (eC (.int 12)) aNil)))) (eCall (m__law_take N) (nA 2 (aCons (eVar 2) (aCons (eC (.int 3)) aNil)))))) sNop)
    (sSeq (sSet 5 (eCall (m__law_r N) (nA 2 (aCons (eVar 3) (aCons (eVar 4) aNil)))))
    (sSeq (sFor (iSeq (eLst (aCons (eCall (m_ratio N) (nA 2 (aCons (eVar 3) (aCons (eVar 4) aNil)))) (aCons (eCallK (m_ratio N) g_ratio_1_bottom 1 1 (aCons (eVar 3) aNil) (aCons (eVar 4) aNil)) (aCons (eCallK0 (m_ratio N) g_ratio_0_top_bottom 2 (aCons (eVar 3) (aCons (eVar 4) aNil))) aNil))))) (gN 6) (sIf (tNt (tT (eCall (m__law_is_ratio N) (nA 2 (aCons (eVar 6) (aCons (eVar 5) aNil)))))) (sRet (eC (.bl false))) sNop))
    (sSeq (sIf (tOr' (tNt (tT (eCall (m__law_is_ratio N) (nA 2 (aCons (eCallK (m_ratio N) g_ratio_1_ 1 0 (aCons (eVar 3) aNil) aNil) (aCons (eTup (aCons (eVar 3) (aCons (eC (.int 1)) aNil))) aNil)))))) (tNt (tT (eCall (m__law_is N) (nA 2 (aCons (eVar 5) (aCons (eC (.bl true)) aNil))))))) (sRet (eC (.bl false))) sNop)
    (sSeq (sIf (tNt (tT (eCall (m__law_is N) (nA 2 (aCons (eTup (aCons (eVar 3) (aCons (eVar 4) aNil))) (aCons (eAn (eBin dGt (eVar 4) (eC (.int 0))) (eBin dEq (eVar 5) (eTup (aCons (eVar 3) (aCons (eVar 4) aNil))))) aNil)))))) (sRet (eC (.bl false))) sNop)
    (sSeq (sIf (tNt (tT (eCa fAll (aCons (eLc (iSeq (eCall (m__law_no_ratios N) (nA 1 (aCons (eVar 5) aNil)))) (.nm 7) tTrue (eCall (m__law_is N) (nA 2 (aCons (eVar 7) (aCons (eC (.bl false)) aNil)))) [7]) aNil)))) (sRet (eC (.bl false))) sNop)
    (sSeq (sFor (iSeq (eLst (aCons (eC .non) (aCons (eC (.bl true)) (aCons (eC (.bl false)) (aCons (eC (.str "1")) (aCons (eLst (aCons (eC (.int 1)) aNil)) (aCons (eTup (aCons (eC (.int 1)) aNil)) (aCons (eTup (aCons (eC (.int 1)) (aCons (eC (.int 2)) aNil))) (aCons (eC (.dic [] [])) aNil)))))))))) (gN 7) (sIf (tOr' (tNt (tT (eCall (m__law_refused N) (nA 2 (aCons (eVar 7) (aCons (eVar 4) aNil)))))) (tNt (tT (eCall (m__law_refused N) (nA 2 (aCons (eVar 3) (aCons (eVar 7) aNil))))))) (sRet (eC (.bl false))) sNop))
    (sIf (tOr' (tNt (tT (eCall (m__law_refused N) (nA 2 (aCons (eVar 3) (aCons (eC (.int 0)) aNil)))))) (tNt (tT (eCall (m__law_refused N) (nA 2 (aCons (eC (.int 0)) (aCons (eC (.int 0)) aNil))))))) (sRet (eC (.bl false))) sNop))))))))))))
    (sRet (eC (.bl true)))))
def m_law (N : Nat) : FM := fnM 8 (b_law N)
abbrev dv_ratio : List V := [(.int 1)]
/-! what the top has written -/
structure Txt (K : PySem.W.Frag) (mg : Str → Option Value) : Prop where
  b_LookupError : mg "LookupError" = none
  b_ValueError : mg "ValueError" = none
  b_abs : mg "abs" = none
  b_all : mg "all" = none
  b_bool : mg "bool" = none
  b_divmod : mg "divmod" = none
  b_int : mg "int" = none
  b_isinstance : mg "isinstance" = none
  b_len : mg "len" = none
  b_list : mg "list" = none
  b_max : mg "max" = none
  b_min : mg "min" = none
  b_range : mg "range" = none
  b_tuple : mg "tuple" = none
  f__law_cell : ∃ f fd, mg "_law_cell" = some (.ref f) ∧ Fun K "_law_cell" "_law_cell" s__law_cell f fd
  f_is_whole : ∃ f fd, mg "is_whole" = some (.ref f) ∧ Fun K "is_whole" "is_whole" s_is_whole f fd
  f_shared : ∃ f fd, mg "shared" = some (.ref f) ∧ Fun K "shared" "shared" s_shared f fd
  f_is_ratio : ∃ f fd, mg "is_ratio" = some (.ref f) ∧ Fun K "is_ratio" "is_ratio" s_is_ratio f fd
  f__law_is : ∃ f fd, mg "_law_is" = some (.ref f) ∧ Fun K "_law_is" "_law_is" s__law_is f fd
  f__law_whole : ∃ f fd, mg "_law_whole" = some (.ref f) ∧ Fun K "_law_whole" "_law_whole" s__law_whole f fd
  f__law_is_ratio : ∃ f fd, mg "_law_is_ratio" = some (.ref f) ∧ Fun K "_law_is_ratio" "_law_is_ratio" s__law_is_ratio f fd
  f__law_no_ratios : ∃ f fd, mg "_law_no_ratios" = some (.ref f) ∧ Fun K "_law_no_ratios" "_law_no_ratios" s__law_no_ratios f fd
  f__law_take : ∃ f fd, mg "_law_take" = some (.ref f) ∧ Fun K "_law_take" "_law_take" s__law_take f fd
  f__law_number : ∃ f fd, mg "_law_number" = some (.ref f) ∧ Fun K "_law_number" "_law_number" s__law_number f fd
  f__law_pool : ∃ f fd, mg "_law_pool" = some (.ref f) ∧ Fun K "_law_pool" "_law_pool" s__law_pool f fd
  f__law_r : ∃ f fd, mg "_law_r" = some (.ref f) ∧ Fun K "_law_r" "_law_r" s__law_r f fd
  f__law_kind : ∃ f fd, mg "_law_kind" = some (.ref f) ∧ Fun K "_law_kind" "_law_kind" s__law_kind f fd
  f_lowest : ∃ f fd, mg "lowest" = some (.ref f) ∧ Fun K "lowest" "lowest" s_lowest f fd
  f_ratio : ∃ f fd, mg "ratio" = some (.ref f) ∧ FunD K "ratio" "ratio" (defArgs s_ratio) (defBody s_ratio) (defScope s_ratio) dv_ratio [] f fd
  f__law_refused : ∃ f fd, mg "_law_refused" = some (.ref f) ∧ Fun K "_law_refused" "_law_refused" s__law_refused f fd
  f_law : ∃ f fd, mg "law" = some (.ref f) ∧ Fun K "law" "law" s_law f fd
  c_NONE : ∃ a, mg "NONE" = some (.ref a) ∧ KtT K a [.int 0, .int 1]
  c_WHOLE : ∃ a, mg "WHOLE" = some (.ref a) ∧ KtT K a [.int 1, .int 1]
  x_NoRatio : ∃ C, mg "NoRatio" = some (.ref C) ∧ XcO K C bmValueError "ValueError.__new__"
  x_Full : ∃ C, mg "Full" = some (.ref C)
  x_LostError : ∃ C, mg "LostError" = some (.ref C)
  x_NoAsk : ∃ C, mg "NoAsk" = some (.ref C)
  x_NoClient : ∃ C, mg "NoClient" = some (.ref C)
  x_NoDeeds : ∃ C, mg "NoDeeds" = some (.ref C)
  x_NoLeast : ∃ C, mg "NoLeast" = some (.ref C)
  x_NoLeasts : ∃ C, mg "NoLeasts" = some (.ref C)
  x_NoLess : ∃ C, mg "NoLess" = some (.ref C)
  x_NoLog : ∃ C, mg "NoLog" = some (.ref C)
  x_NoName : ∃ C, mg "NoName" = some (.ref C)
  x_NoNumber : ∃ C, mg "NoNumber" = some (.ref C)
  x_NoOne : ∃ C, mg "NoOne" = some (.ref C)
  x_NoPlace : ∃ C, mg "NoPlace" = some (.ref C)
  x_NoPlan : ∃ C, mg "NoPlan" = some (.ref C)
  x_NoRate : ∃ C, mg "NoRate" = some (.ref C)
  x_NoRivals : ∃ C, mg "NoRivals" = some (.ref C)
  x_NoRow : ∃ C, mg "NoRow" = some (.ref C)
  x_NoSize : ∃ C, mg "NoSize" = some (.ref C)
  x_NoStretch : ∃ C, mg "NoStretch" = some (.ref C)
  x_NoTags : ∃ C, mg "NoTags" = some (.ref C)
  x_NoText : ∃ C, mg "NoText" = some (.ref C)
  x_NoTime : ∃ C, mg "NoTime" = some (.ref C)
  x_NoTruth : ∃ C, mg "NoTruth" = some (.ref C)
  x_NoWeight : ∃ C, mg "NoWeight" = some (.ref C)
  x_NoWord : ∃ C, mg "NoWord" = some (.ref C)
  x_Nought : ∃ C, mg "Nought" = some (.ref C)
  x_Past : ∃ C, mg "Past" = some (.ref C)
  x_ShareError : ∃ C, mg "ShareError" = some (.ref C)
  x_Stands : ∃ C, mg "Stands" = some (.ref C)
  x_TagError : ∃ C, mg "TagError" = some (.ref C)
  x_TooMany : ∃ C, mg "TooMany" = some (.ref C)
  x_TooMuch : ∃ C, mg "TooMuch" = some (.ref C)
  tb_Full : ∀ D, mg "Full" = some (.ref D) → ∀ cn C q, tb_Full cn = some q → mg (cname cn) = some (.ref C) → ExcC K C ∧ PySem.W.kitOne K (.ref C) (.ref D) = some q
  tb_LookupError : ∀ cn C q, tb_LookupError cn = some q → mg (cname cn) = some (.ref C) → ExcC K C ∧ PySem.W.kitOne K (.ref C) (.type "LookupError") = some q
  tb_LostError : ∀ D, mg "LostError" = some (.ref D) → ∀ cn C q, tb_LostError cn = some q → mg (cname cn) = some (.ref C) → ExcC K C ∧ PySem.W.kitOne K (.ref C) (.ref D) = some q
  tb_NoAsk : ∀ D, mg "NoAsk" = some (.ref D) → ∀ cn C q, tb_NoAsk cn = some q → mg (cname cn) = some (.ref C) → ExcC K C ∧ PySem.W.kitOne K (.ref C) (.ref D) = some q
  tb_NoClient : ∀ D, mg "NoClient" = some (.ref D) → ∀ cn C q, tb_NoClient cn = some q → mg (cname cn) = some (.ref C) → ExcC K C ∧ PySem.W.kitOne K (.ref C) (.ref D) = some q
  tb_NoDeeds : ∀ D, mg "NoDeeds" = some (.ref D) → ∀ cn C q, tb_NoDeeds cn = some q → mg (cname cn) = some (.ref C) → ExcC K C ∧ PySem.W.kitOne K (.ref C) (.ref D) = some q
  tb_NoLeast : ∀ D, mg "NoLeast" = some (.ref D) → ∀ cn C q, tb_NoLeast cn = some q → mg (cname cn) = some (.ref C) → ExcC K C ∧ PySem.W.kitOne K (.ref C) (.ref D) = some q
  tb_NoLeasts : ∀ D, mg "NoLeasts" = some (.ref D) → ∀ cn C q, tb_NoLeasts cn = some q → mg (cname cn) = some (.ref C) → ExcC K C ∧ PySem.W.kitOne K (.ref C) (.ref D) = some q
  tb_NoLess : ∀ D, mg "NoLess" = some (.ref D) → ∀ cn C q, tb_NoLess cn = some q → mg (cname cn) = some (.ref C) → ExcC K C ∧ PySem.W.kitOne K (.ref C) (.ref D) = some q
  tb_NoLog : ∀ D, mg "NoLog" = some (.ref D) → ∀ cn C q, tb_NoLog cn = some q → mg (cname cn) = some (.ref C) → ExcC K C ∧ PySem.W.kitOne K (.ref C) (.ref D) = some q
  tb_NoName : ∀ D, mg "NoName" = some (.ref D) → ∀ cn C q, tb_NoName cn = some q → mg (cname cn) = some (.ref C) → ExcC K C ∧ PySem.W.kitOne K (.ref C) (.ref D) = some q
  tb_NoNumber : ∀ D, mg "NoNumber" = some (.ref D) → ∀ cn C q, tb_NoNumber cn = some q → mg (cname cn) = some (.ref C) → ExcC K C ∧ PySem.W.kitOne K (.ref C) (.ref D) = some q
  tb_NoOne : ∀ D, mg "NoOne" = some (.ref D) → ∀ cn C q, tb_NoOne cn = some q → mg (cname cn) = some (.ref C) → ExcC K C ∧ PySem.W.kitOne K (.ref C) (.ref D) = some q
  tb_NoPlace : ∀ D, mg "NoPlace" = some (.ref D) → ∀ cn C q, tb_NoPlace cn = some q → mg (cname cn) = some (.ref C) → ExcC K C ∧ PySem.W.kitOne K (.ref C) (.ref D) = some q
  tb_NoPlan : ∀ D, mg "NoPlan" = some (.ref D) → ∀ cn C q, tb_NoPlan cn = some q → mg (cname cn) = some (.ref C) → ExcC K C ∧ PySem.W.kitOne K (.ref C) (.ref D) = some q
  tb_NoRate : ∀ D, mg "NoRate" = some (.ref D) → ∀ cn C q, tb_NoRate cn = some q → mg (cname cn) = some (.ref C) → ExcC K C ∧ PySem.W.kitOne K (.ref C) (.ref D) = some q
  tb_NoRatio : ∀ D, mg "NoRatio" = some (.ref D) → ∀ cn C q, tb_NoRatio cn = some q → mg (cname cn) = some (.ref C) → ExcC K C ∧ PySem.W.kitOne K (.ref C) (.ref D) = some q
  tb_NoRivals : ∀ D, mg "NoRivals" = some (.ref D) → ∀ cn C q, tb_NoRivals cn = some q → mg (cname cn) = some (.ref C) → ExcC K C ∧ PySem.W.kitOne K (.ref C) (.ref D) = some q
  tb_NoRow : ∀ D, mg "NoRow" = some (.ref D) → ∀ cn C q, tb_NoRow cn = some q → mg (cname cn) = some (.ref C) → ExcC K C ∧ PySem.W.kitOne K (.ref C) (.ref D) = some q
  tb_NoSize : ∀ D, mg "NoSize" = some (.ref D) → ∀ cn C q, tb_NoSize cn = some q → mg (cname cn) = some (.ref C) → ExcC K C ∧ PySem.W.kitOne K (.ref C) (.ref D) = some q
  tb_NoStretch : ∀ D, mg "NoStretch" = some (.ref D) → ∀ cn C q, tb_NoStretch cn = some q → mg (cname cn) = some (.ref C) → ExcC K C ∧ PySem.W.kitOne K (.ref C) (.ref D) = some q
  tb_NoTags : ∀ D, mg "NoTags" = some (.ref D) → ∀ cn C q, tb_NoTags cn = some q → mg (cname cn) = some (.ref C) → ExcC K C ∧ PySem.W.kitOne K (.ref C) (.ref D) = some q
  tb_NoText : ∀ D, mg "NoText" = some (.ref D) → ∀ cn C q, tb_NoText cn = some q → mg (cname cn) = some (.ref C) → ExcC K C ∧ PySem.W.kitOne K (.ref C) (.ref D) = some q
  tb_NoTime : ∀ D, mg "NoTime" = some (.ref D) → ∀ cn C q, tb_NoTime cn = some q → mg (cname cn) = some (.ref C) → ExcC K C ∧ PySem.W.kitOne K (.ref C) (.ref D) = some q
  tb_NoTruth : ∀ D, mg "NoTruth" = some (.ref D) → ∀ cn C q, tb_NoTruth cn = some q → mg (cname cn) = some (.ref C) → ExcC K C ∧ PySem.W.kitOne K (.ref C) (.ref D) = some q
  tb_NoWeight : ∀ D, mg "NoWeight" = some (.ref D) → ∀ cn C q, tb_NoWeight cn = some q → mg (cname cn) = some (.ref C) → ExcC K C ∧ PySem.W.kitOne K (.ref C) (.ref D) = some q
  tb_NoWord : ∀ D, mg "NoWord" = some (.ref D) → ∀ cn C q, tb_NoWord cn = some q → mg (cname cn) = some (.ref C) → ExcC K C ∧ PySem.W.kitOne K (.ref C) (.ref D) = some q
  tb_Nought : ∀ D, mg "Nought" = some (.ref D) → ∀ cn C q, tb_Nought cn = some q → mg (cname cn) = some (.ref C) → ExcC K C ∧ PySem.W.kitOne K (.ref C) (.ref D) = some q
  tb_Past : ∀ D, mg "Past" = some (.ref D) → ∀ cn C q, tb_Past cn = some q → mg (cname cn) = some (.ref C) → ExcC K C ∧ PySem.W.kitOne K (.ref C) (.ref D) = some q
  tb_ShareError : ∀ D, mg "ShareError" = some (.ref D) → ∀ cn C q, tb_ShareError cn = some q → mg (cname cn) = some (.ref C) → ExcC K C ∧ PySem.W.kitOne K (.ref C) (.ref D) = some q
  tb_Stands : ∀ D, mg "Stands" = some (.ref D) → ∀ cn C q, tb_Stands cn = some q → mg (cname cn) = some (.ref C) → ExcC K C ∧ PySem.W.kitOne K (.ref C) (.ref D) = some q
  tb_TagError : ∀ D, mg "TagError" = some (.ref D) → ∀ cn C q, tb_TagError cn = some q → mg (cname cn) = some (.ref C) → ExcC K C ∧ PySem.W.kitOne K (.ref C) (.ref D) = some q
  tb_TooMany : ∀ D, mg "TooMany" = some (.ref D) → ∀ cn C q, tb_TooMany cn = some q → mg (cname cn) = some (.ref C) → ExcC K C ∧ PySem.W.kitOne K (.ref C) (.ref D) = some q
  tb_TooMuch : ∀ D, mg "TooMuch" = some (.ref D) → ∀ cn C q, tb_TooMuch cn = some q → mg (cname cn) = some (.ref C) → ExcC K C ∧ PySem.W.kitOne K (.ref C) (.ref D) = some q
  tb_ValueError : ∀ cn C q, tb_ValueError cn = some q → mg (cname cn) = some (.ref C) → ExcC K C ∧ PySem.W.kitOne K (.ref C) (.type "ValueError") = some q
  tx_TagError : ∀ D, mg "TagError" = some (.ref D) → ∀ cn C q, tx_TagError cn = some q → mg (cname cn) = some (.ref C) → PySem.W.exmOne K (.ref C) (.ref D) = some q
section
variable {P : Program} {w : World} {K : PySem.W.Frag} {mg : Str → Option Value} {base : Heap}
theorem fk__law_cell (N : Nat) (T : Txt K mg) {fa : Addr} {fd : FuncData} (F : Fun K "_law_cell" "_law_cell" s__law_cell fa fd) : FnOk P w K mg base (L2.CX P w) (0 + 1) fa fd p__law_cell (spM K mg p__law_cell.length (fnM n__law_cell.length (b__law_cell N))) := by
  apply def_ok F sc__law_cell
  intro cdv A outer s H E c
  exact (rss_cons (rs_if (rt_cmp om_lt (rv 1) (re_b cm_len rfl T.b_len bt_len (ra_cons (rv 0) ra_nil)) (nomark _)) (rss_one (rs_ret (re_ix (rv 0) (rv 1)))) rss_nil)
      (rss_cons (rs_set (i := 2) c.nd rfl (re_bin om_mod (re_bin om_mul re_int (re_bin om_add (re_bin om_add (re_bin om_mul (rv 1) (rv 1)) (re_bin om_mul re_int (rv 1))) re_int)) re_int))
      (rss_cons (rs_for c.po c.calm (ri_e (re_sl (rv 0) ro_none (ro_some re_int))) (rg_name (i := 3) c.nd rfl) (rss_one (rs_set (i := 2) c.nd rfl (re_bin om_mod (re_bin om_add (re_bin om_mul (rv 2) re_int) (rv 3)) re_int))))
      (rss_one (rs_ret (rv 2))))))
theorem fm__law_cell (N : Nat) (T : Txt K mg) {fa : Addr} {fd : FuncData} (F : Fun K "_law_cell" "_law_cell" s__law_cell fa fd) : FnOk P w K mg base (L2.CX P w) 1 fa fd p__law_cell (spM K mg p__law_cell.length (m__law_cell N)) := fk__law_cell N T F
theorem ok__law_cell (N : Nat) (T : Txt K mg) : Df P w K mg base "_law_cell" p__law_cell 1 (m__law_cell N) := by
  obtain ⟨fa, fd, g1, F⟩ := T.f__law_cell
  exact ⟨fa, fd, g1, F.kp, F.binds (ps := p__law_cell) fun _ _ _ _ _ _ us hl => match us, hl with | [_, _], _ => rfl, fm__law_cell N T F⟩
theorem fk_is_whole (N : Nat) (T : Txt K mg) {fa : Addr} {fd : FuncData} (F : Fun K "is_whole" "is_whole" s_is_whole fa fd) : FnOk P w K mg base (L2.CX P w) (0 + 1) fa fd p_is_whole (spM K mg p_is_whole.length (fnM n_is_whole.length (b_is_whole N))) := by
  apply def_ok F sc_is_whole
  intro cdv A outer s H E c
  exact (rss_one (rs_ret (re_and (re_isTy .int T.b_isinstance T.b_int bt_int (rv 0)) (re_one (re_not (re_isTy .bool T.b_isinstance T.b_bool bt_bool (rv 0)))))))
theorem fm_is_whole (N : Nat) (T : Txt K mg) {fa : Addr} {fd : FuncData} (F : Fun K "is_whole" "is_whole" s_is_whole fa fd) : FnOk P w K mg base (L2.CX P w) 1 fa fd p_is_whole (spM K mg p_is_whole.length (m_is_whole N)) := fk_is_whole N T F
theorem ok_is_whole (N : Nat) (T : Txt K mg) : Df P w K mg base "is_whole" p_is_whole 1 (m_is_whole N) := by
  obtain ⟨fa, fd, g1, F⟩ := T.f_is_whole
  exact ⟨fa, fd, g1, F.kp, F.binds (ps := p_is_whole) fun _ _ _ _ _ _ us hl => match us, hl with | [_], _ => rfl, fm_is_whole N T F⟩
theorem fk_shared (N : Nat) (T : Txt K mg) {fa : Addr} {fd : FuncData} (F : Fun K "shared" "shared" s_shared fa fd) : FnOk P w K mg base (L2.CX P w) (0 + 1) fa fd p_shared (spM K mg p_shared.length (fnM n_shared.length (b_shared N))) := by
  apply def_ok F sc_shared
  intro cdv A outer s H E c
  exact (rss_cons (rs_while N c.po (rt_cmp om_gt (rv 1) re_int (nomark _)) (rss_one (rs_par (i := 0) (j := 1) c.calm c.nd rfl rfl (by decide) (ra_cons (rv 1) (ra_cons (re_bin om_mod (rv 0) (rv 1)) ra_nil)))))
      (rss_one (rs_ret (rv 0))))
theorem fm_shared (N : Nat) (T : Txt K mg) {fa : Addr} {fd : FuncData} (F : Fun K "shared" "shared" s_shared fa fd) : FnOk P w K mg base (L2.CX P w) 1 fa fd p_shared (spM K mg p_shared.length (m_shared N)) := fk_shared N T F
theorem ok_shared (N : Nat) (T : Txt K mg) : Df P w K mg base "shared" p_shared 1 (m_shared N) := by
  obtain ⟨fa, fd, g1, F⟩ := T.f_shared
  exact ⟨fa, fd, g1, F.kp, F.binds (ps := p_shared) fun _ _ _ _ _ _ us hl => match us, hl with | [_, _], _ => rfl, fm_shared N T F⟩
theorem fk_is_ratio (N : Nat) (T : Txt K mg) {fa : Addr} {fd : FuncData} (F : Fun K "is_ratio" "is_ratio" s_is_ratio fa fd) : FnOk P w K mg base (L2.CX P w) (1 + 1) fa fd p_is_ratio (spM K mg p_is_ratio.length (fnM n_is_ratio.length (b_is_ratio N))) := by
  apply def_ok F sc_is_ratio
  intro cdv A outer s H E c
  exact (rss_cons (rs_if (rt_w (rw_or (rt_not (rt_e (re_isTy .tuple T.b_isinstance T.b_tuple bt_tuple (rv 0)))) (rw_or (rt_cmp (om_ne c.u) (re_b cm_len rfl T.b_len bt_len (ra_cons (rv 0) ra_nil)) re_int (nomark _)) (rw_or1 (rt_not (rt_e (re_b (cm_all c.calm) rfl T.b_all bt_all (ra_cons (re_lc [("part", 3)] c.calm c.nd (ri_e (rv 0)) (blkOk_by (own := [("part", 3)]) (N := n_is_ratio) (sc := defScope s_is_ratio) (by decide +kernel)) (by decide) (fun _ _ _ _ _ => (pg_name (i := 3) c.nd rfl (Or.inl rfl))) (fun _ _ _ _ _ => pts0) (fun _ _ _ _ _ => (re_callB c.blk (ok_is_whole N T) (by decide) (ra_cons (rv 3) ra_nil)))) ra_nil)))))))) (rss_one (rs_ret re_bl)) rss_nil)
      (rss_cons (rs_asg (rv 0) (rg_tup c.calm (rgs_cons (rg_name (i := 1) c.nd rfl) (rgs_cons (rg_name (i := 2) c.nd rfl) rgs_nil))))
      (rss_one (rs_ret (re_and (re_cmp om_gt (rv 2) re_int (nomark _)) (re_one (re_cmp (om_eq c.u) (re_call c (ok_shared N T) (by decide) (ra_cons (re_b cm_abs rfl T.b_abs bt_abs (ra_cons (rv 1) ra_nil)) (ra_cons (rv 2) ra_nil))) re_int (nomark _))))))))
theorem fm_is_ratio (N : Nat) (T : Txt K mg) {fa : Addr} {fd : FuncData} (F : Fun K "is_ratio" "is_ratio" s_is_ratio fa fd) : FnOk P w K mg base (L2.CX P w) 2 fa fd p_is_ratio (spM K mg p_is_ratio.length (m_is_ratio N)) := fk_is_ratio N T F
theorem ok_is_ratio (N : Nat) (T : Txt K mg) : Df P w K mg base "is_ratio" p_is_ratio 2 (m_is_ratio N) := by
  obtain ⟨fa, fd, g1, F⟩ := T.f_is_ratio
  exact ⟨fa, fd, g1, F.kp, F.binds (ps := p_is_ratio) fun _ _ _ _ _ _ us hl => match us, hl with | [_], _ => rfl, fm_is_ratio N T F⟩
theorem fk__law_is (N : Nat) (T : Txt K mg) {fa : Addr} {fd : FuncData} (F : Fun K "_law_is" "_law_is" s__law_is fa fd) : FnOk P w K mg base (L2.CX P w) (2 + 1) fa fd p__law_is (spM K mg p__law_is.length (fnM n__law_is.length (b__law_is N))) := by
  apply def_ok F sc__law_is
  intro cdv A outer s H E c
  exact (rss_cons (rs_set (i := 2) c.nd rfl (re_call c (ok_is_ratio N T) (by decide) (ra_cons (rv 0) ra_nil)))
      (rss_one (rs_ret (re_and (re_isTy .bool T.b_isinstance T.b_bool bt_bool (rv 2)) (re_one (re_cmp (om_eq c.u) (rv 2) (rv 1) (nomark _)))))))
theorem fm__law_is (N : Nat) (T : Txt K mg) {fa : Addr} {fd : FuncData} (F : Fun K "_law_is" "_law_is" s__law_is fa fd) : FnOk P w K mg base (L2.CX P w) 3 fa fd p__law_is (spM K mg p__law_is.length (m__law_is N)) := fk__law_is N T F
theorem ok__law_is (N : Nat) (T : Txt K mg) : Df P w K mg base "_law_is" p__law_is 3 (m__law_is N) := by
  obtain ⟨fa, fd, g1, F⟩ := T.f__law_is
  exact ⟨fa, fd, g1, F.kp, F.binds (ps := p__law_is) fun _ _ _ _ _ _ us hl => match us, hl with | [_, _], _ => rfl, fm__law_is N T F⟩
theorem fk__law_whole (N : Nat) (T : Txt K mg) {fa : Addr} {fd : FuncData} (F : Fun K "_law_whole" "_law_whole" s__law_whole fa fd) : FnOk P w K mg base (L2.CX P w) (0 + 1) fa fd p__law_whole (spM K mg p__law_whole.length (fnM n__law_whole.length (b__law_whole N))) := by
  apply def_ok F sc__law_whole
  intro cdv A outer s H E c
  exact (rss_one (rs_ret (re_and (re_isTy .int T.b_isinstance T.b_int bt_int (rv 0)) (re_one (re_not (re_isTy .bool T.b_isinstance T.b_bool bt_bool (rv 0)))))))
theorem fm__law_whole (N : Nat) (T : Txt K mg) {fa : Addr} {fd : FuncData} (F : Fun K "_law_whole" "_law_whole" s__law_whole fa fd) : FnOk P w K mg base (L2.CX P w) 1 fa fd p__law_whole (spM K mg p__law_whole.length (m__law_whole N)) := fk__law_whole N T F
theorem ok__law_whole (N : Nat) (T : Txt K mg) : Df P w K mg base "_law_whole" p__law_whole 1 (m__law_whole N) := by
  obtain ⟨fa, fd, g1, F⟩ := T.f__law_whole
  exact ⟨fa, fd, g1, F.kp, F.binds (ps := p__law_whole) fun _ _ _ _ _ _ us hl => match us, hl with | [_], _ => rfl, fm__law_whole N T F⟩
theorem fk__law_is_ratio (N : Nat) (T : Txt K mg) {fa : Addr} {fd : FuncData} (F : Fun K "_law_is_ratio" "_law_is_ratio" s__law_is_ratio fa fd) : FnOk P w K mg base (L2.CX P w) (1 + 1) fa fd p__law_is_ratio (spM K mg p__law_is_ratio.length (fnM n__law_is_ratio.length (b__law_is_ratio N))) := by
  apply def_ok F sc__law_is_ratio
  intro cdv A outer s H E c
  exact (rss_cons (rs_if (rt_w (rw_or (rt_not (rt_e (re_isTy .tuple T.b_isinstance T.b_tuple bt_tuple (rv 0)))) (rw_or (rt_cmp (om_ne c.u) (re_b cm_len rfl T.b_len bt_len (ra_cons (rv 0) ra_nil)) re_int (nomark _)) (rw_or (rt_not (rt_e (re_call c (ok__law_whole N T) (by decide) (ra_cons (re_ix (rv 0) re_int) ra_nil)))) (rw_or1 (rt_not (rt_e (re_call c (ok__law_whole N T) (by decide) (ra_cons (re_ix (rv 0) re_int) ra_nil))))))))) (rss_one (rs_ret re_bl)) rss_nil)
      (rss_one (rs_ret (re_cmp (om_eq c.u) (rv 0) (rv 1) (nomark _)))))
theorem fm__law_is_ratio (N : Nat) (T : Txt K mg) {fa : Addr} {fd : FuncData} (F : Fun K "_law_is_ratio" "_law_is_ratio" s__law_is_ratio fa fd) : FnOk P w K mg base (L2.CX P w) 2 fa fd p__law_is_ratio (spM K mg p__law_is_ratio.length (m__law_is_ratio N)) := fk__law_is_ratio N T F
theorem ok__law_is_ratio (N : Nat) (T : Txt K mg) : Df P w K mg base "_law_is_ratio" p__law_is_ratio 2 (m__law_is_ratio N) := by
  obtain ⟨fa, fd, g1, F⟩ := T.f__law_is_ratio
  exact ⟨fa, fd, g1, F.kp, F.binds (ps := p__law_is_ratio) fun _ _ _ _ _ _ us hl => match us, hl with | [_, _], _ => rfl, fm__law_is_ratio N T F⟩
theorem fk__law_no_ratios (N : Nat) (T : Txt K mg) {fa : Addr} {fd : FuncData} (F : Fun K "_law_no_ratios" "_law_no_ratios" s__law_no_ratios fa fd) : FnOk P w K mg base (L2.CX P w) (0 + 1) fa fd p__law_no_ratios (spM K mg p__law_no_ratios.length (fnM n__law_no_ratios.length (b__law_no_ratios N))) := by
  apply def_ok F sc__law_no_ratios
  intro cdv A outer s H E c
  exact (rss_cons (rs_asg (rv 0) (rg_tup c.calm (rgs_cons (rg_name (i := 1) c.nd rfl) (rgs_cons (rg_name (i := 2) c.nd rfl) rgs_nil))))
      (rss_cons (rs_set (i := 3) c.nd rfl (re_lst (ra_cons re_non (ra_cons re_int (ra_cons re_bl (ra_cons re_str (ra_cons re_str (ra_cons (re_lst ra_nil) (ra_cons (re_ty cm_list rfl T.b_list bt_list (ra_cons (rv 0) ra_nil)) (ra_cons re_dic0 (ra_cons (re_tup ra_nil) (ra_cons (re_tup (ra_cons (rv 1) ra_nil)) (ra_cons (re_tup (ra_cons (rv 1) (ra_cons (rv 2) (ra_cons re_int ra_nil)))) (ra_cons (re_tup (ra_cons (rv 1) (ra_cons re_int ra_nil))) ra_nil))))))))))))))
      (rss_cons (rs_set (i := 3) c.nd rfl (re_bin om_add (rv 3) (re_lst (ra_cons (re_tup (ra_cons (rv 1) (ra_cons (re_bin om_sub re_int (rv 2)) ra_nil))) (ra_cons (re_tup (ra_cons (re_bin om_mul re_int (rv 1)) (ra_cons (re_bin om_mul re_int (rv 2)) ra_nil))) (ra_cons (re_tup (ra_cons re_non (ra_cons (rv 2) ra_nil))) (ra_cons (re_tup (ra_cons (rv 1) (ra_cons re_non ra_nil))) (ra_cons (re_tup (ra_cons re_str (ra_cons (rv 2) ra_nil))) ra_nil))))))))
      (rss_cons (rs_set (i := 3) c.nd rfl (re_bin om_add (rv 3) (re_lst (ra_cons (re_tup (ra_cons (rv 1) (ra_cons (re_lst (ra_cons (rv 2) ra_nil)) ra_nil))) (ra_cons (re_tup (ra_cons (rv 1) (ra_cons re_bl ra_nil))) ra_nil)))))
      (rss_one (rs_ret (re_bin om_add (rv 3) (re_lst (ra_cons (re_tup (ra_cons re_bl (ra_cons (rv 2) ra_nil))) (ra_cons (re_tup (ra_cons (rv 0) (ra_cons (rv 2) ra_nil))) (ra_cons (re_tup (ra_cons (rv 0) ra_nil)) (ra_cons (re_tup (ra_cons re_int (ra_cons re_int ra_nil))) (ra_cons (re_tup (ra_cons re_int (ra_cons re_int ra_nil))) (ra_cons (re_tup (ra_cons (re_lst ra_nil) (ra_cons (re_lst ra_nil) ra_nil))) ra_nil))))))))))))))
theorem fm__law_no_ratios (N : Nat) (T : Txt K mg) {fa : Addr} {fd : FuncData} (F : Fun K "_law_no_ratios" "_law_no_ratios" s__law_no_ratios fa fd) : FnOk P w K mg base (L2.CX P w) 1 fa fd p__law_no_ratios (spM K mg p__law_no_ratios.length (m__law_no_ratios N)) := fk__law_no_ratios N T F
theorem ok__law_no_ratios (N : Nat) (T : Txt K mg) : Df P w K mg base "_law_no_ratios" p__law_no_ratios 1 (m__law_no_ratios N) := by
  obtain ⟨fa, fd, g1, F⟩ := T.f__law_no_ratios
  exact ⟨fa, fd, g1, F.kp, F.binds (ps := p__law_no_ratios) fun _ _ _ _ _ _ us hl => match us, hl with | [_], _ => rfl, fm__law_no_ratios N T F⟩
theorem fk__law_take (N : Nat) (T : Txt K mg) {fa : Addr} {fd : FuncData} (F : Fun K "_law_take" "_law_take" s__law_take fa fd) : FnOk P w K mg base (L2.CX P w) (0 + 1) fa fd p__law_take (spM K mg p__law_take.length (fnM n__law_take.length (b__law_take N))) := by
  apply def_ok F sc__law_take
  intro cdv A outer s H E c
  exact (rss_cons (rs_asg (re_bin om_add (re_ix (rv 0) re_int) re_int) (rg_sub (rv 0) re_int))
      (rss_cons (rs_set (i := 2) c.nd rfl (re_ix (rv 0) re_int))
      (rss_cons (rs_asg (re_bin om_mod (re_bin om_add (re_bin om_mul (rv 2) (re_bin om_add (re_bin om_mod (rv 2) re_int) re_int)) (re_bin om_mul re_int (re_ix (rv 0) re_int))) re_int) (rg_sub (rv 0) re_int))
      (rss_cons (rs_if (rt_cmp om_gt (re_ix (rv 0) re_int) re_int (nomark _)) (rss_cons (rs_asg (re_b cm_divmod rfl T.b_divmod bt_divmod (ra_cons (re_ix (rv 0) re_int) (ra_cons (rv 1) ra_nil))) (rg_tup c.calm (rgs_cons (rg_sub (rv 0) re_int) (rgs_cons (rg_name (i := 3) c.nd rfl) rgs_nil))))
      (rss_one (rs_ret (rv 3)))) rss_nil)
      (rss_one (rs_ret (re_bin om_mod (re_bin om_div (re_ix (rv 0) re_int) re_int) (rv 1))))))))
theorem fm__law_take (N : Nat) (T : Txt K mg) {fa : Addr} {fd : FuncData} (F : Fun K "_law_take" "_law_take" s__law_take fa fd) : FnOk P w K mg base (L2.CX P w) 1 fa fd p__law_take (spM K mg p__law_take.length (m__law_take N)) := fk__law_take N T F
theorem ok__law_take (N : Nat) (T : Txt K mg) : Df P w K mg base "_law_take" p__law_take 1 (m__law_take N) := by
  obtain ⟨fa, fd, g1, F⟩ := T.f__law_take
  exact ⟨fa, fd, g1, F.kp, F.binds (ps := p__law_take) fun _ _ _ _ _ _ us hl => match us, hl with | [_, _], _ => rfl, fm__law_take N T F⟩
theorem fk__law_number (N : Nat) (T : Txt K mg) {fa : Addr} {fd : FuncData} (F : Fun K "_law_number" "_law_number" s__law_number fa fd) : FnOk P w K mg base (L2.CX P w) (1 + 1) fa fd p__law_number (spM K mg p__law_number.length (fnM n__law_number.length (b__law_number N))) := by
  apply def_ok F sc__law_number
  intro cdv A outer s H E c
  exact (rss_cons (rs_set (i := 1) c.nd rfl (re_call c (ok__law_take N T) (by decide) (ra_cons (rv 0) (ra_cons re_int ra_nil))))
      (rss_cons (rs_set (i := 2) c.nd rfl (re_ix (re_lst (ra_cons re_int (ra_cons re_int (ra_cons (re_call c (ok__law_take N T) (by decide) (ra_cons (rv 0) (ra_cons re_int ra_nil))) (ra_cons (re_call c (ok__law_take N T) (by decide) (ra_cons (rv 0) (ra_cons re_int ra_nil))) ra_nil))))) (re_bin om_mod (rv 1) re_int)))
      (rss_cons (rs_if (rt_cmp om_gt (rv 1) re_int (nomark _)) (rss_cons (rs_set (i := 2) c.nd rfl re_int)
      (rss_one (rs_for c.po c.calm (ri_range1 T.b_range (ra_cons (re_ix (re_lst (ra_cons re_int (ra_cons re_int (ra_cons re_int (ra_cons re_int ra_nil))))) (re_bin om_sub (rv 1) re_int)) ra_nil)) (rg_name (i := 3) c.nd rfl) (rss_one (rs_set (i := 2) c.nd rfl (re_bin om_add (re_bin om_mul (rv 2) re_int) (re_call c (ok__law_take N T) (by decide) (ra_cons (rv 0) (ra_cons re_int ra_nil))))))))) rss_nil)
      (rss_one (rs_ret (re_bin om_mul (rv 2) (re_ix (re_lst (ra_cons re_int (ra_cons (re_neg re_int) ra_nil))) (re_call c (ok__law_take N T) (by decide) (ra_cons (rv 0) (ra_cons re_int ra_nil))))))))))
theorem fm__law_number (N : Nat) (T : Txt K mg) {fa : Addr} {fd : FuncData} (F : Fun K "_law_number" "_law_number" s__law_number fa fd) : FnOk P w K mg base (L2.CX P w) 2 fa fd p__law_number (spM K mg p__law_number.length (m__law_number N)) := fk__law_number N T F
theorem ok__law_number (N : Nat) (T : Txt K mg) : Df P w K mg base "_law_number" p__law_number 2 (m__law_number N) := by
  obtain ⟨fa, fd, g1, F⟩ := T.f__law_number
  exact ⟨fa, fd, g1, F.kp, F.binds (ps := p__law_number) fun _ _ _ _ _ _ us hl => match us, hl with | [_], _ => rfl, fm__law_number N T F⟩
theorem fk__law_pool (N : Nat) (T : Txt K mg) {fa : Addr} {fd : FuncData} (F : Fun K "_law_pool" "_law_pool" s__law_pool fa fd) : FnOk P w K mg base (L2.CX P w) (0 + 1) fa fd p__law_pool (spM K mg p__law_pool.length (fnM n__law_pool.length (b__law_pool N))) := by
  apply def_ok F sc__law_pool
  intro cdv A outer s H E c
  exact (rss_cons (rs_set (i := 1) c.nd rfl re_int)
      (rss_cons (rs_if (rt_w (rw_or (rt_cmp om_lt (rv 0) re_int (nomark _)) (rw_or1 (rt_cmp om_ge (rv 0) (re_bin om_pow re_int re_int) (nomark _))))) (rss_one (rs_set (i := 1) c.nd rfl (re_b cm_abs rfl T.b_abs bt_abs (ra_cons (rv 0) ra_nil)))) rss_nil)
      (rss_one (rs_ret (re_new (ra_cons (re_bin om_mod (rv 0) re_int) (ra_cons (rv 1) (ra_cons re_int ra_nil))))))))
theorem fm__law_pool (N : Nat) (T : Txt K mg) {fa : Addr} {fd : FuncData} (F : Fun K "_law_pool" "_law_pool" s__law_pool fa fd) : FnOk P w K mg base (L2.CX P w) 1 fa fd p__law_pool (spM K mg p__law_pool.length (m__law_pool N)) := fk__law_pool N T F
theorem ok__law_pool (N : Nat) (T : Txt K mg) : Df P w K mg base "_law_pool" p__law_pool 1 (m__law_pool N) := by
  obtain ⟨fa, fd, g1, F⟩ := T.f__law_pool
  exact ⟨fa, fd, g1, F.kp, F.binds (ps := p__law_pool) fun _ _ _ _ _ _ us hl => match us, hl with | [_], _ => rfl, fm__law_pool N T F⟩
theorem fk__law_r (N : Nat) (T : Txt K mg) {fa : Addr} {fd : FuncData} (F : Fun K "_law_r" "_law_r" s__law_r fa fd) : FnOk P w K mg base (L2.CX P w) (0 + 1) fa fd p__law_r (spM K mg p__law_r.length (fnM n__law_r.length (b__law_r N))) := by
  apply def_ok F sc__law_r
  intro cdv A outer s H E c
  exact (rss_cons (rs_par (i := 2) (j := 3) c.calm c.nd rfl rfl (by decide) (ra_cons (re_b cm_abs rfl T.b_abs bt_abs (ra_cons (rv 0) ra_nil)) (ra_cons (re_b cm_abs rfl T.b_abs bt_abs (ra_cons (rv 1) ra_nil)) ra_nil)))
      (rss_cons (rs_while N c.po (rt_cmp om_gt (rv 3) re_int (nomark _)) (rss_one (rs_par (i := 2) (j := 3) c.calm c.nd rfl rfl (by decide) (ra_cons (rv 3) (ra_cons (re_bin om_mod (rv 2) (rv 3)) ra_nil)))))
      (rss_cons (rs_if (rt_cmp om_lt (rv 1) re_int (nomark _)) (rss_one (rs_set (i := 2) c.nd rfl (re_bin om_sub re_int (rv 2)))) rss_nil)
      (rss_one (rs_ret (re_tup (ra_cons (re_bin om_div (rv 0) (rv 2)) (ra_cons (re_bin om_div (rv 1) (rv 2)) ra_nil))))))))
theorem fm__law_r (N : Nat) (T : Txt K mg) {fa : Addr} {fd : FuncData} (F : Fun K "_law_r" "_law_r" s__law_r fa fd) : FnOk P w K mg base (L2.CX P w) 1 fa fd p__law_r (spM K mg p__law_r.length (m__law_r N)) := fk__law_r N T F
theorem ok__law_r (N : Nat) (T : Txt K mg) : Df P w K mg base "_law_r" p__law_r 1 (m__law_r N) := by
  obtain ⟨fa, fd, g1, F⟩ := T.f__law_r
  exact ⟨fa, fd, g1, F.kp, F.binds (ps := p__law_r) fun _ _ _ _ _ _ us hl => match us, hl with | [_, _], _ => rfl, fm__law_r N T F⟩
theorem fk__law_kind (N : Nat) (T : Txt K mg) {fa : Addr} {fd : FuncData} (F : Fun K "_law_kind" "_law_kind" s__law_kind fa fd) : FnOk P w K mg base (L2.CX P w) (0 + 1) fa fd p__law_kind (spM K mg p__law_kind.length (fnM n__law_kind.length (b__law_kind N))) := by
  obtain ⟨C_Full, g_Full⟩ := T.x_Full
  obtain ⟨C_LostError, g_LostError⟩ := T.x_LostError
  obtain ⟨C_NoAsk, g_NoAsk⟩ := T.x_NoAsk
  obtain ⟨C_NoClient, g_NoClient⟩ := T.x_NoClient
  obtain ⟨C_NoDeeds, g_NoDeeds⟩ := T.x_NoDeeds
  obtain ⟨C_NoLeast, g_NoLeast⟩ := T.x_NoLeast
  obtain ⟨C_NoLeasts, g_NoLeasts⟩ := T.x_NoLeasts
  obtain ⟨C_NoLess, g_NoLess⟩ := T.x_NoLess
  obtain ⟨C_NoLog, g_NoLog⟩ := T.x_NoLog
  obtain ⟨C_NoName, g_NoName⟩ := T.x_NoName
  obtain ⟨C_NoNumber, g_NoNumber⟩ := T.x_NoNumber
  obtain ⟨C_NoOne, g_NoOne⟩ := T.x_NoOne
  obtain ⟨C_NoPlace, g_NoPlace⟩ := T.x_NoPlace
  obtain ⟨C_NoPlan, g_NoPlan⟩ := T.x_NoPlan
  obtain ⟨C_NoRate, g_NoRate⟩ := T.x_NoRate
  obtain ⟨C_NoRatio, g_NoRatio, x_NoRatio⟩ := T.x_NoRatio
  obtain ⟨C_NoRivals, g_NoRivals⟩ := T.x_NoRivals
  obtain ⟨C_NoRow, g_NoRow⟩ := T.x_NoRow
  obtain ⟨C_NoSize, g_NoSize⟩ := T.x_NoSize
  obtain ⟨C_NoStretch, g_NoStretch⟩ := T.x_NoStretch
  obtain ⟨C_NoTags, g_NoTags⟩ := T.x_NoTags
  obtain ⟨C_NoText, g_NoText⟩ := T.x_NoText
  obtain ⟨C_NoTime, g_NoTime⟩ := T.x_NoTime
  obtain ⟨C_NoTruth, g_NoTruth⟩ := T.x_NoTruth
  obtain ⟨C_NoWeight, g_NoWeight⟩ := T.x_NoWeight
  obtain ⟨C_NoWord, g_NoWord⟩ := T.x_NoWord
  obtain ⟨C_Nought, g_Nought⟩ := T.x_Nought
  obtain ⟨C_Past, g_Past⟩ := T.x_Past
  obtain ⟨C_ShareError, g_ShareError⟩ := T.x_ShareError
  obtain ⟨C_Stands, g_Stands⟩ := T.x_Stands
  obtain ⟨C_TagError, g_TagError⟩ := T.x_TagError
  obtain ⟨C_TooMany, g_TooMany⟩ := T.x_TooMany
  obtain ⟨C_TooMuch, g_TooMuch⟩ := T.x_TooMuch
  apply def_ok F sc__law_kind
  intro cdv A outer s H E c
  exact (rss_cons (rs_set (i := 1) c.nd rfl (re_lst (ra_cons (re_isC T.b_isinstance (rv 0) (pe_glob (v := .ref C_NoRatio) rfl g_NoRatio rfl) (.own _) (T.tb_NoRatio _ g_NoRatio)) (ra_cons (re_isC T.b_isinstance (rv 0) (pe_glob (v := .ref C_NoText) rfl g_NoText rfl) (.own _) (T.tb_NoText _ g_NoText)) (ra_cons (re_isC T.b_isinstance (rv 0) (pe_glob (v := .ref C_NoName) rfl g_NoName rfl) (.own _) (T.tb_NoName _ g_NoName)) (ra_cons (re_isC T.b_isinstance (rv 0) (pe_glob (v := .ref C_NoRate) rfl g_NoRate rfl) (.own _) (T.tb_NoRate _ g_NoRate)) ra_nil))))))
      (rss_cons (rs_set (i := 1) c.nd rfl (re_bin om_add (rv 1) (re_lst (ra_cons (re_isC T.b_isinstance (rv 0) (pe_glob (v := .ref C_NoWeight) rfl g_NoWeight rfl) (.own _) (T.tb_NoWeight _ g_NoWeight)) (ra_cons (re_isC T.b_isinstance (rv 0) (pe_glob (v := .ref C_NoNumber) rfl g_NoNumber rfl) (.own _) (T.tb_NoNumber _ g_NoNumber)) (ra_cons (re_isC T.b_isinstance (rv 0) (pe_glob (v := .ref C_NoTime) rfl g_NoTime rfl) (.own _) (T.tb_NoTime _ g_NoTime)) (ra_cons (re_isC T.b_isinstance (rv 0) (pe_glob (v := .ref C_NoTags) rfl g_NoTags rfl) (.own _) (T.tb_NoTags _ g_NoTags)) ra_nil)))))))
      (rss_cons (rs_set (i := 1) c.nd rfl (re_bin om_add (rv 1) (re_lst (ra_cons (re_isC T.b_isinstance (rv 0) (pe_glob (v := .ref C_NoSize) rfl g_NoSize rfl) (.own _) (T.tb_NoSize _ g_NoSize)) (ra_cons (re_isC T.b_isinstance (rv 0) (pe_glob (v := .ref C_NoClient) rfl g_NoClient rfl) (.own _) (T.tb_NoClient _ g_NoClient)) (ra_cons (re_isC T.b_isinstance (rv 0) (pe_glob (v := .ref C_NoLeast) rfl g_NoLeast rfl) (.own _) (T.tb_NoLeast _ g_NoLeast)) (ra_cons (re_isC T.b_isinstance (rv 0) (pe_glob (v := .ref C_NoRivals) rfl g_NoRivals rfl) (.own _) (T.tb_NoRivals _ g_NoRivals)) ra_nil)))))))
      (rss_cons (rs_set (i := 1) c.nd rfl (re_bin om_add (rv 1) (re_lst (ra_cons (re_isC T.b_isinstance (rv 0) (pe_glob (v := .ref C_NoTruth) rfl g_NoTruth rfl) (.own _) (T.tb_NoTruth _ g_NoTruth)) (ra_cons (re_isC T.b_isinstance (rv 0) (pe_glob (v := .ref C_NoDeeds) rfl g_NoDeeds rfl) (.own _) (T.tb_NoDeeds _ g_NoDeeds)) (ra_cons (re_isC T.b_isinstance (rv 0) (pe_glob (v := .ref C_NoLog) rfl g_NoLog rfl) (.own _) (T.tb_NoLog _ g_NoLog)) (ra_cons (re_isC T.b_isinstance (rv 0) (pe_glob (v := .ref C_NoStretch) rfl g_NoStretch rfl) (.own _) (T.tb_NoStretch _ g_NoStretch)) ra_nil)))))))
      (rss_cons (rs_set (i := 1) c.nd rfl (re_bin om_add (rv 1) (re_lst (ra_cons (re_isC T.b_isinstance (rv 0) (pe_glob (v := .ref C_NoLess) rfl g_NoLess rfl) (.own _) (T.tb_NoLess _ g_NoLess)) (ra_cons (re_isC T.b_isinstance (rv 0) (pe_glob (v := .ref C_NoPlan) rfl g_NoPlan rfl) (.own _) (T.tb_NoPlan _ g_NoPlan)) (ra_cons (re_isC T.b_isinstance (rv 0) (pe_glob (v := .ref C_NoLeasts) rfl g_NoLeasts rfl) (.own _) (T.tb_NoLeasts _ g_NoLeasts)) (ra_cons (re_isC T.b_isinstance (rv 0) (pe_glob (v := .ref C_NoWord) rfl g_NoWord rfl) (.own _) (T.tb_NoWord _ g_NoWord)) ra_nil)))))))
      (rss_cons (rs_set (i := 1) c.nd rfl (re_bin om_add (rv 1) (re_lst (ra_cons (re_isC T.b_isinstance (rv 0) (pe_glob (v := .ref C_NoRow) rfl g_NoRow rfl) (.own _) (T.tb_NoRow _ g_NoRow)) (ra_cons (re_isC T.b_isinstance (rv 0) (pe_glob (v := .ref C_NoOne) rfl g_NoOne rfl) (.own _) (T.tb_NoOne _ g_NoOne)) (ra_cons (re_isC T.b_isinstance (rv 0) (pe_glob (v := .ref C_NoAsk) rfl g_NoAsk rfl) (.own _) (T.tb_NoAsk _ g_NoAsk)) (ra_cons (re_isC T.b_isinstance (rv 0) (pe_glob (v := .ref C_NoPlace) rfl g_NoPlace rfl) (.own _) (T.tb_NoPlace _ g_NoPlace)) ra_nil)))))))
      (rss_cons (rs_set (i := 1) c.nd rfl (re_bin om_add (rv 1) (re_lst (ra_cons (re_isC T.b_isinstance (rv 0) (pe_glob (v := .ref C_Nought) rfl g_Nought rfl) (.own _) (T.tb_Nought _ g_Nought)) (ra_cons (re_isC T.b_isinstance (rv 0) (pe_glob (v := .ref C_Stands) rfl g_Stands rfl) (.own _) (T.tb_Stands _ g_Stands)) (ra_cons (re_isC T.b_isinstance (rv 0) (pe_glob (v := .ref C_TooMany) rfl g_TooMany rfl) (.own _) (T.tb_TooMany _ g_TooMany)) (ra_cons (re_isC T.b_isinstance (rv 0) (pe_glob (v := .ref C_TooMuch) rfl g_TooMuch rfl) (.own _) (T.tb_TooMuch _ g_TooMuch)) ra_nil)))))))
      (rss_cons (rs_set (i := 1) c.nd rfl (re_bin om_add (rv 1) (re_lst (ra_cons (re_isC T.b_isinstance (rv 0) (pe_glob (v := .ref C_Full) rfl g_Full rfl) (.own _) (T.tb_Full _ g_Full)) (ra_cons (re_isC T.b_isinstance (rv 0) (pe_glob (v := .ref C_Past) rfl g_Past rfl) (.own _) (T.tb_Past _ g_Past)) ra_nil)))))
      (rss_cons (rs_if (rt_cmp (om_ne c.u) (re_lm mm_count PySem.F.slot_list_count PySem.F.type_list_count (rv 1) (ra_cons re_bl ra_nil)) re_int (nomark _)) (rss_one (rs_ret re_non)) rss_nil)
      (rss_cons (rs_set (i := 2) c.nd rfl (re_lm mm_index PySem.F.slot_list_index PySem.F.type_list_index (rv 1) (ra_cons re_bl ra_nil)))
      (rss_cons (rs_set (i := 3) c.nd rfl (re_bin om_add (re_ty cm_int rfl T.b_int bt_int (ra_cons (re_cmp om_gt (rv 2) re_int (nomark _)) ra_nil)) (re_ty cm_int rfl T.b_int bt_int (ra_cons (re_cmp om_gt (rv 2) re_int (nomark _)) ra_nil))))
      (rss_cons (rs_if (rt_cmp (om_ne c.u) (re_lm mm_index PySem.F.slot_list_index PySem.F.type_list_index (re_lst (ra_cons (re_isC T.b_isinstance (rv 0) (pe_glob (v := .ref C_TagError) rfl g_TagError rfl) (.own _) (T.tb_TagError _ g_TagError)) (ra_cons (re_isC T.b_isinstance (rv 0) (pe_glob (v := .ref C_LostError) rfl g_LostError rfl) (.own _) (T.tb_LostError _ g_LostError)) (ra_cons (re_isC T.b_isinstance (rv 0) (pe_glob (v := .ref C_ShareError) rfl g_ShareError rfl) (.own _) (T.tb_ShareError _ g_ShareError)) ra_nil)))) (ra_cons re_bl ra_nil)) (rv 3) (nomark _)) (rss_one (rs_ret re_non)) rss_nil)
      (rss_cons (rs_if (rt_w (rw_or (rt_cmp (om_ne c.u) (re_isC T.b_isinstance (rv 0) (pe_bltn (v := .ty "ValueError") rfl T.b_ValueError bt_ValueError rfl) (.ty _) (T.tb_ValueError)) (re_cmp (om_eq c.u) (rv 3) re_int (nomark _)) (nomark _)) (rw_or1 (rt_cmp (om_ne c.u) (re_isC T.b_isinstance (rv 0) (pe_bltn (v := .ty "LookupError") rfl T.b_LookupError bt_LookupError rfl) (.ty _) (T.tb_LookupError)) (re_cmp (om_eq c.u) (rv 3) re_int (nomark _)) (nomark _))))) (rss_one (rs_ret re_non)) rss_nil)
      (rss_one (rs_ret (rv 2))))))))))))))))
theorem fm__law_kind (N : Nat) (T : Txt K mg) {fa : Addr} {fd : FuncData} (F : Fun K "_law_kind" "_law_kind" s__law_kind fa fd) : FnOk P w K mg base (L2.CX P w) 1 fa fd p__law_kind (spM K mg p__law_kind.length (m__law_kind N)) := fk__law_kind N T F
theorem ok__law_kind (N : Nat) (T : Txt K mg) : Df P w K mg base "_law_kind" p__law_kind 1 (m__law_kind N) := by
  obtain ⟨fa, fd, g1, F⟩ := T.f__law_kind
  exact ⟨fa, fd, g1, F.kp, F.binds (ps := p__law_kind) fun _ _ _ _ _ _ us hl => match us, hl with | [_], _ => rfl, fm__law_kind N T F⟩
theorem fk_lowest (N : Nat) (T : Txt K mg) {fa : Addr} {fd : FuncData} (F : Fun K "lowest" "lowest" s_lowest fa fd) : FnOk P w K mg base (L2.CX P w) (1 + 1) fa fd p_lowest (spM K mg p_lowest.length (fnM n_lowest.length (b_lowest N))) := by
  apply def_ok F sc_lowest
  intro cdv A outer s H E c
  exact (rss_cons (rs_set (i := 2) c.nd rfl (re_call c (ok_shared N T) (by decide) (ra_cons (re_b cm_abs rfl T.b_abs bt_abs (ra_cons (rv 0) ra_nil)) (ra_cons (rv 1) ra_nil))))
      (rss_one (rs_ret (re_tup (ra_cons (re_bin om_div (rv 0) (rv 2)) (ra_cons (re_bin om_div (rv 1) (rv 2)) ra_nil))))))
theorem fm_lowest (N : Nat) (T : Txt K mg) {fa : Addr} {fd : FuncData} (F : Fun K "lowest" "lowest" s_lowest fa fd) : FnOk P w K mg base (L2.CX P w) 2 fa fd p_lowest (spM K mg p_lowest.length (m_lowest N)) := fk_lowest N T F
theorem ok_lowest (N : Nat) (T : Txt K mg) : Df P w K mg base "lowest" p_lowest 2 (m_lowest N) := by
  obtain ⟨fa, fd, g1, F⟩ := T.f_lowest
  exact ⟨fa, fd, g1, F.kp, F.binds (ps := p_lowest) fun _ _ _ _ _ _ us hl => match us, hl with | [_, _], _ => rfl, fm_lowest N T F⟩
theorem fk_ratio (N : Nat) (T : Txt K mg) {fa : Addr} {fd : FuncData} (F : FunD K "ratio" "ratio" (defArgs s_ratio) (defBody s_ratio) (defScope s_ratio) dv_ratio [] fa fd) : FnOk P w K mg base (L2.CX P w) (2 + 1) fa fd p_ratio (spM K mg p_ratio.length (fnM n_ratio.length (b_ratio N))) := by
  obtain ⟨C_NoRatio, g_NoRatio, x_NoRatio⟩ := T.x_NoRatio
  apply def_okD F sc_ratio
  intro cdv A outer s H E c
  exact (rss_cons (rs_if (rt_w (rw_or (rt_not (rt_e (re_call c (ok_is_whole N T) (by decide) (ra_cons (rv 0) ra_nil)))) (rw_or (rt_not (rt_e (re_call c (ok_is_whole N T) (by decide) (ra_cons (rv 1) ra_nil)))) (rw_or1 (rt_cmp (om_eq c.u) (rv 1) re_int (nomark _)))))) (rss_one (rs_raise 3 rfl c PySem.F.excBase_ValueError x_NoRatio.x g_NoRatio x_NoRatio.k (raises_own x_NoRatio.b x_NoRatio.t))) rss_nil)
      (rss_cons (rs_if (rt_cmp om_lt (rv 1) re_int (nomark _)) (rss_one (rs_ret (re_call c (ok_lowest N T) (by decide) (ra_cons (re_bin om_sub re_int (rv 0)) (ra_cons (re_bin om_sub re_int (rv 1)) ra_nil))))) rss_nil)
      (rss_one (rs_ret (re_call c (ok_lowest N T) (by decide) (ra_cons (rv 0) (ra_cons (rv 1) ra_nil)))))))
theorem fm_ratio (N : Nat) (T : Txt K mg) {fa : Addr} {fd : FuncData} (F : FunD K "ratio" "ratio" (defArgs s_ratio) (defBody s_ratio) (defScope s_ratio) dv_ratio [] fa fd) : FnOk P w K mg base (L2.CX P w) 3 fa fd p_ratio (spM K mg p_ratio.length (m_ratio N)) := fk_ratio N T F
theorem ok_ratio (N : Nat) (T : Txt K mg) : Df P w K mg base "ratio" p_ratio 3 (m_ratio N) := by
  obtain ⟨fa, fd, g1, F⟩ := T.f_ratio
  obtain ⟨ds, hd, hb⟩ := F.binds1 (ps := p_ratio) 2 1 (by simp [dv_ratio]) (by decide) fun _ _ _ _ _ _ _ us its h1 h2 => match us, its, h1, h2 with | [_, _], [_], _, _ => ⟨_, rfl, rfl⟩
  have e : ds = [] := by cases hd; rfl
  subst e
  exact ⟨fa, fd, g1, F.kp, hb, fm_ratio N T F⟩
theorem dk_ratio_0_top_bottom (N : Nat) (T : Txt K mg) : Dk P w K mg base "ratio" p_ratio 3 0 ["top", "bottom"] g_ratio_0_top_bottom (m_ratio N) := by
  obtain ⟨fa, fd, g1, F⟩ := T.f_ratio
  obtain ⟨its, hb⟩ := F.kbindsD (ps := p_ratio) 0 ["top", "bottom"] (fun vs ds zs => ((zs.drop 0).take 1 ++ (zs.drop 1).take 1)) (by simp [dv_ratio]) (fun r1 r2 r3 => (((r3.drop 0).take 1).append ((r3.drop 1).take 1))) fun _ _ _ _ _ _ _ us its ws h1 h2 h3 => match us, its, ws, h1, h2, h3 with | [], [_], [_, _], _, _, _ => ⟨_, rfl, rfl⟩
  refine ⟨fa, fd, _, _, g1, F.kp, hb, fun w ds vs es zs rd re h1 h2 => ?_, fm_ratio N T F⟩
  match ds, es, h1, h2 with
  | [], [e0, e1], _, _ =>
    cases rd.nil_inv
    obtain ⟨z0, zr0, rfl, p0, re0⟩ := re.cons_inv
    obtain ⟨z1, zr1, rfl, p1, re1⟩ := re0.cons_inv
    cases re1.nil_inv
    exact ⟨(.cons p0 (.cons p1 .nil)), rfl⟩
theorem dk_ratio_1_ (N : Nat) (T : Txt K mg) : Dk P w K mg base "ratio" p_ratio 3 1 [] g_ratio_1_ (m_ratio N) := by
  obtain ⟨fa, fd, g1, F⟩ := T.f_ratio
  obtain ⟨its, hb⟩ := F.kbindsD (ps := p_ratio) 1 [] (fun vs ds zs => ((vs.drop 0).take 1 ++ (ds.drop 0).take 1)) (by simp [dv_ratio]) (fun r1 r2 r3 => (((r1.drop 0).take 1).append ((r2.drop 0).take 1))) fun _ _ _ _ _ _ _ us its ws h1 h2 h3 => match us, its, ws, h1, h2, h3 with | [_], [_], [], _, _, _ => ⟨_, rfl, rfl⟩
  refine ⟨fa, fd, _, _, g1, F.kp, hb, fun w ds vs es zs rd re h1 h2 => ?_, fm_ratio N T F⟩
  match ds, es, h1, h2 with
  | [d0], [], _, _ =>
    obtain ⟨v0, vr0, rfl, q0, rd0⟩ := rd.cons_inv
    cases rd0.nil_inv
    cases re.nil_inv
    exact ⟨(.cons q0 (.cons (.int _) .nil)), rfl⟩
theorem dk_ratio_1_bottom (N : Nat) (T : Txt K mg) : Dk P w K mg base "ratio" p_ratio 3 1 ["bottom"] g_ratio_1_bottom (m_ratio N) := by
  obtain ⟨fa, fd, g1, F⟩ := T.f_ratio
  obtain ⟨its, hb⟩ := F.kbindsD (ps := p_ratio) 1 ["bottom"] (fun vs ds zs => ((vs.drop 0).take 1 ++ (zs.drop 0).take 1)) (by simp [dv_ratio]) (fun r1 r2 r3 => (((r1.drop 0).take 1).append ((r3.drop 0).take 1))) fun _ _ _ _ _ _ _ us its ws h1 h2 h3 => match us, its, ws, h1, h2, h3 with | [_], [_], [_], _, _, _ => ⟨_, rfl, rfl⟩
  refine ⟨fa, fd, _, _, g1, F.kp, hb, fun w ds vs es zs rd re h1 h2 => ?_, fm_ratio N T F⟩
  match ds, es, h1, h2 with
  | [d0], [e0], _, _ =>
    obtain ⟨v0, vr0, rfl, q0, rd0⟩ := rd.cons_inv
    cases rd0.nil_inv
    obtain ⟨z0, zr0, rfl, p0, re0⟩ := re.cons_inv
    cases re0.nil_inv
    exact ⟨(.cons q0 (.cons p0 .nil)), rfl⟩
theorem fk__law_refused (N : Nat) (T : Txt K mg) {fa : Addr} {fd : FuncData} (F : Fun K "_law_refused" "_law_refused" s__law_refused fa fd) : FnOk P w K mg base (L2.CX P w) (3 + 1) fa fd p__law_refused (spM K mg p__law_refused.length (fnM n__law_refused.length (b__law_refused N))) := by
  obtain ⟨C_TagError, g_TagError⟩ := T.x_TagError
  apply def_ok F sc__law_refused
  intro cdv A outer s H E c
  exact (rss_cons (rs_set (i := 2) c.nd rfl re_non)
      (rss_cons (rs_try c (i := 3) rfl ⟨rfl, by decide, .inl g_TagError⟩ (T.tx_TagError _ g_TagError) (fun _ _ _ c => (rss_one (rs_expr (re_call c (ok_ratio N T) (by decide) (ra_cons (rv 0) (ra_cons (rv 1) ra_nil)))))) (fun _ _ => (rss_one (rs_set (i := 2) c.nd rfl (rv 3)))))
      (rss_one (rs_ret (re_and (re_cmp om_isnot (rv 2) re_non (nomark _)) (re_one (re_cmp (om_eq c.u) (re_call c (ok__law_kind N T) (by decide) (ra_cons (rv 2) ra_nil)) re_int (nomark _))))))))
theorem fm__law_refused (N : Nat) (T : Txt K mg) {fa : Addr} {fd : FuncData} (F : Fun K "_law_refused" "_law_refused" s__law_refused fa fd) : FnOk P w K mg base (L2.CX P w) 4 fa fd p__law_refused (spM K mg p__law_refused.length (m__law_refused N)) := fk__law_refused N T F
theorem ok__law_refused (N : Nat) (T : Txt K mg) : Df P w K mg base "_law_refused" p__law_refused 4 (m__law_refused N) := by
  obtain ⟨fa, fd, g1, F⟩ := T.f__law_refused
  exact ⟨fa, fd, g1, F.kp, F.binds (ps := p__law_refused) fun _ _ _ _ _ _ us hl => match us, hl with | [_, _], _ => rfl, fm__law_refused N T F⟩
theorem fk_law (N : Nat) (T : Txt K mg) {fa : Addr} {fd : FuncData} (F : Fun K "law" "law" s_law fa fd) : FnOk P w K mg base (L2.CX P w) (4 + 1) fa fd p_law (spM K mg p_law.length (fnM n_law.length (b_law N))) := by
  obtain ⟨k0_NONE, g_NONE, k_NONE⟩ := T.c_NONE
  obtain ⟨k0_WHOLE, g_WHOLE, k_WHOLE⟩ := T.c_WHOLE
  apply def_ok F sc_law
  intro cdv A outer s H E c
  exact (rss_cons (rs_if (rt_w (rw_or (rt_cmp (om_ne c.u) (re_tup (ra_cons (re_glob (v := .ref k0_NONE) rfl g_NONE rfl (fun _ => .tup (.inr k_NONE) (.cons (.int _) (.cons (.int _) .nil)))) (ra_cons (re_glob (v := .ref k0_WHOLE) rfl g_WHOLE rfl (fun _ => .tup (.inr k_WHOLE) (.cons (.int _) (.cons (.int _) .nil)))) ra_nil))) (re_tup (ra_cons (re_tup (ra_cons re_int (ra_cons re_int ra_nil))) (ra_cons (re_tup (ra_cons re_int (ra_cons re_int ra_nil))) ra_nil))) (nomark _)) (rw_or (rt_not (rt_e (re_call c (ok__law_is N T) (by decide) (ra_cons (re_glob (v := .ref k0_NONE) rfl g_NONE rfl (fun _ => .tup (.inr k_NONE) (.cons (.int _) (.cons (.int _) .nil)))) (ra_cons re_bl ra_nil))))) (rw_or1 (rt_not (rt_e (re_call c (ok__law_is N T) (by decide) (ra_cons (re_glob (v := .ref k0_WHOLE) rfl g_WHOLE rfl (fun _ => .tup (.inr k_WHOLE) (.cons (.int _) (.cons (.int _) .nil)))) (ra_cons re_bl ra_nil))))))))) (rss_one (rs_ret re_bl)) rss_nil)
      (rss_cons (rs_for c.po c.calm (ri_range1 T.b_range (ra_cons (re_b (cm_max c.calm) rfl T.b_max bt_max (ra_cons re_int (ra_cons (re_b (cm_min c.calm) rfl T.b_min bt_min (ra_cons (re_b cm_len rfl T.b_len bt_len (ra_cons (rv 0) ra_nil)) (ra_cons re_int ra_nil))) ra_nil))) ra_nil)) (rg_name (i := 1) c.nd rfl) (rss_cons (rs_set (i := 2) c.nd rfl (re_call c (ok__law_pool N T) (by decide) (ra_cons (re_call c (ok__law_cell N T) (by decide) (ra_cons (rv 0) (ra_cons (rv 1) ra_nil))) ra_nil)))
      (rss_cons (rs_par (i := 3) (j := 4) c.calm c.nd rfl rfl (by decide) (ra_cons (re_call c (ok__law_number N T) (by decide) (ra_cons (rv 2) ra_nil)) (ra_cons (re_call c (ok__law_number N T) (by decide) (ra_cons (rv 2) ra_nil)) ra_nil)))
      (rss_cons (rs_if (rt_cmp (om_eq c.u) (re_call c (ok__law_take N T) (by decide) (ra_cons (rv 2) (ra_cons re_int ra_nil))) re_int (nomark _)) (rss_one (rs_set (i := 3) c.nd rfl (re_bin om_mul (rv 4) (re_bin om_sub (re_call c (ok__law_take N T) (by decide) (ra_cons (rv 2) (ra_cons re_int ra_nil))) re_int)))) rss_nil)
      (rss_cons (rs_if (rt_cmp (om_eq c.u) (rv 4) re_int (nomark _)) (rss_one (rs_set (i := 4) c.nd rfl (re_ix (re_lst (ra_cons re_int (ra_cons (re_neg re_int) (ra_cons re_int ra_nil)))) (re_call c (ok__law_take N T) (by decide) (ra_cons (rv 2) (ra_cons re_int ra_nil)))))) rss_nil)
      (rss_cons (rs_set (i := 5) c.nd rfl (re_call c (ok__law_r N T) (by decide) (ra_cons (rv 3) (ra_cons (rv 4) ra_nil))))
      (rss_cons (rs_for c.po c.calm (ri_e (re_lst (ra_cons (re_call c (ok_ratio N T) (by decide) (ra_cons (rv 3) (ra_cons (rv 4) ra_nil))) (ra_cons (re_callK c (dk_ratio_1_bottom N T) (by decide) (ra_cons (rv 3) ra_nil) (rk_cons (rv 4) rk_nil)) (ra_cons (re_callK0 c (dk_ratio_0_top_bottom N T) (by decide) (rk_cons (rv 3) (rk_cons (rv 4) rk_nil))) ra_nil))))) (rg_name (i := 6) c.nd rfl) (rss_one (rs_if (rt_not (rt_e (re_call c (ok__law_is_ratio N T) (by decide) (ra_cons (rv 6) (ra_cons (rv 5) ra_nil))))) (rss_one (rs_ret re_bl)) rss_nil)))
      (rss_cons (rs_if (rt_w (rw_or (rt_not (rt_e (re_call c (ok__law_is_ratio N T) (by decide) (ra_cons (re_callK c (dk_ratio_1_ N T) (by decide) (ra_cons (rv 3) ra_nil) rk_nil) (ra_cons (re_tup (ra_cons (rv 3) (ra_cons re_int ra_nil))) ra_nil))))) (rw_or1 (rt_not (rt_e (re_call c (ok__law_is N T) (by decide) (ra_cons (rv 5) (ra_cons re_bl ra_nil)))))))) (rss_one (rs_ret re_bl)) rss_nil)
      (rss_cons (rs_if (rt_not (rt_e (re_call c (ok__law_is N T) (by decide) (ra_cons (re_tup (ra_cons (rv 3) (ra_cons (rv 4) ra_nil))) (ra_cons (re_and (re_cmp om_gt (rv 4) re_int (nomark _)) (re_one (re_cmp (om_eq c.u) (rv 5) (re_tup (ra_cons (rv 3) (ra_cons (rv 4) ra_nil))) (nomark _)))) ra_nil))))) (rss_one (rs_ret re_bl)) rss_nil)
      (rss_cons (rs_if (rt_not (rt_e (re_b (cm_all c.calm) rfl T.b_all bt_all (ra_cons (re_lc [("_law_thing", 7)] c.calm c.nd (ri_e (re_call c (ok__law_no_ratios N T) (by decide) (ra_cons (rv 5) ra_nil))) (blkOk_by (own := [("_law_thing", 7)]) (N := n_law) (sc := defScope s_law) (by decide +kernel)) (by decide) (fun _ _ _ _ _ => (pg_name (i := 7) c.nd rfl (Or.inl rfl))) (fun _ _ _ _ _ => pts0) (fun _ _ _ _ _ => (re_callB c.blk (ok__law_is N T) (by decide) (ra_cons (rv 7) (ra_cons re_bl ra_nil))))) ra_nil)))) (rss_one (rs_ret re_bl)) rss_nil)
      (rss_cons (rs_for c.po c.calm (ri_e (re_lst (ra_cons re_non (ra_cons re_bl (ra_cons re_bl (ra_cons re_str (ra_cons (re_lst (ra_cons re_int ra_nil)) (ra_cons (re_tup (ra_cons re_int ra_nil)) (ra_cons (re_tup (ra_cons re_int (ra_cons re_int ra_nil))) (ra_cons re_dic0 ra_nil)))))))))) (rg_name (i := 7) c.nd rfl) (rss_one (rs_if (rt_w (rw_or (rt_not (rt_e (re_call c (ok__law_refused N T) (by decide) (ra_cons (rv 7) (ra_cons (rv 4) ra_nil))))) (rw_or1 (rt_not (rt_e (re_call c (ok__law_refused N T) (by decide) (ra_cons (rv 3) (ra_cons (rv 7) ra_nil)))))))) (rss_one (rs_ret re_bl)) rss_nil)))
      (rss_one (rs_if (rt_w (rw_or (rt_not (rt_e (re_call c (ok__law_refused N T) (by decide) (ra_cons (rv 3) (ra_cons re_int ra_nil))))) (rw_or1 (rt_not (rt_e (re_call c (ok__law_refused N T) (by decide) (ra_cons re_int (ra_cons re_int ra_nil)))))))) (rss_one (rs_ret re_bl)) rss_nil)))))))))))))
      (rss_one (rs_ret re_bl))))
theorem fm_law (N : Nat) (T : Txt K mg) {fa : Addr} {fd : FuncData} (F : Fun K "law" "law" s_law fa fd) : FnOk P w K mg base (L2.CX P w) 5 fa fd p_law (spM K mg p_law.length (m_law N)) := fk_law N T F
theorem ok_law (N : Nat) (T : Txt K mg) : Df P w K mg base "law" p_law 5 (m_law N) := by
  obtain ⟨fa, fd, g1, F⟩ := T.f_law
  exact ⟨fa, fd, g1, F.kp, F.binds (ps := p_law) fun _ _ _ _ _ _ us hl => match us, hl with | [_], _ => rfl, fm_law N T F⟩
end
theorem txt_mk {K : PySem.W.Frag} {h : Heap} {mg : Str → Option Value} (X : K.In h) (G : h.Ns mainGlobals mg)
    {A__law_cell : Addr} {od__law_cell an__law_cell : Option Addr} {sl__law_cell : Array (Option Value)} {oc__law_cell kV__law_cell dc__law_cell pm__law_cell cd__law_cell ct__law_cell : Value}
    {A_is_whole : Addr} {od_is_whole an_is_whole : Option Addr} {sl_is_whole : Array (Option Value)} {oc_is_whole kV_is_whole dc_is_whole pm_is_whole cd_is_whole ct_is_whole : Value}
    {A_shared : Addr} {od_shared an_shared : Option Addr} {sl_shared : Array (Option Value)} {oc_shared kV_shared dc_shared pm_shared cd_shared ct_shared : Value}
    {A_is_ratio : Addr} {od_is_ratio an_is_ratio : Option Addr} {sl_is_ratio : Array (Option Value)} {oc_is_ratio kV_is_ratio dc_is_ratio pm_is_ratio cd_is_ratio ct_is_ratio : Value}
    {A__law_is : Addr} {od__law_is an__law_is : Option Addr} {sl__law_is : Array (Option Value)} {oc__law_is kV__law_is dc__law_is pm__law_is cd__law_is ct__law_is : Value}
    {A__law_whole : Addr} {od__law_whole an__law_whole : Option Addr} {sl__law_whole : Array (Option Value)} {oc__law_whole kV__law_whole dc__law_whole pm__law_whole cd__law_whole ct__law_whole : Value}
    {A__law_is_ratio : Addr} {od__law_is_ratio an__law_is_ratio : Option Addr} {sl__law_is_ratio : Array (Option Value)} {oc__law_is_ratio kV__law_is_ratio dc__law_is_ratio pm__law_is_ratio cd__law_is_ratio ct__law_is_ratio : Value}
    {A__law_no_ratios : Addr} {od__law_no_ratios an__law_no_ratios : Option Addr} {sl__law_no_ratios : Array (Option Value)} {oc__law_no_ratios kV__law_no_ratios dc__law_no_ratios pm__law_no_ratios cd__law_no_ratios ct__law_no_ratios : Value}
    {A__law_take : Addr} {od__law_take an__law_take : Option Addr} {sl__law_take : Array (Option Value)} {oc__law_take kV__law_take dc__law_take pm__law_take cd__law_take ct__law_take : Value}
    {A__law_number : Addr} {od__law_number an__law_number : Option Addr} {sl__law_number : Array (Option Value)} {oc__law_number kV__law_number dc__law_number pm__law_number cd__law_number ct__law_number : Value}
    {A__law_pool : Addr} {od__law_pool an__law_pool : Option Addr} {sl__law_pool : Array (Option Value)} {oc__law_pool kV__law_pool dc__law_pool pm__law_pool cd__law_pool ct__law_pool : Value}
    {A__law_r : Addr} {od__law_r an__law_r : Option Addr} {sl__law_r : Array (Option Value)} {oc__law_r kV__law_r dc__law_r pm__law_r cd__law_r ct__law_r : Value}
    {A__law_kind : Addr} {od__law_kind an__law_kind : Option Addr} {sl__law_kind : Array (Option Value)} {oc__law_kind kV__law_kind dc__law_kind pm__law_kind cd__law_kind ct__law_kind : Value}
    {A_lowest : Addr} {od_lowest an_lowest : Option Addr} {sl_lowest : Array (Option Value)} {oc_lowest kV_lowest dc_lowest pm_lowest cd_lowest ct_lowest : Value}
    {A_ratio : Addr} {od_ratio an_ratio : Option Addr} {sl_ratio : Array (Option Value)} {oc_ratio kV_ratio dc_ratio pm_ratio cd_ratio ct_ratio : Value}
    {T_ratio : Addr} {ocT_ratio : Value} {odT_ratio : Option Addr} {nT_ratio : Nat} {slT_ratio : Array (Option Value)}
    {tk_ratio_0 : Tok}
    {A__law_refused : Addr} {od__law_refused an__law_refused : Option Addr} {sl__law_refused : Array (Option Value)} {oc__law_refused kV__law_refused dc__law_refused pm__law_refused cd__law_refused ct__law_refused : Value}
    {A_law : Addr} {od_law an_law : Option Addr} {sl_law : Array (Option Value)} {oc_law kV_law dc_law pm_law cd_law ct_law : Value}
    {A_NONE : Addr} {od_NONE : Option Addr} {nn_NONE : Nat} {sl_NONE : Array (Option Value)} {tk_NONE_0 : Tok} {tk_NONE_1 : Tok}
    {A_WHOLE : Addr} {od_WHOLE : Option Addr} {nn_WHOLE : Nat} {sl_WHOLE : Array (Option Value)} {tk_WHOLE_0 : Tok} {tk_WHOLE_1 : Tok}
    {C_Full : Addr}
    {C_LostError : Addr}
    {C_NoAsk : Addr}
    {C_NoClient : Addr}
    {C_NoDeeds : Addr}
    {C_NoLeast : Addr}
    {C_NoLeasts : Addr}
    {C_NoLess : Addr}
    {C_NoLog : Addr}
    {C_NoName : Addr}
    {C_NoNumber : Addr}
    {C_NoOne : Addr}
    {C_NoPlace : Addr}
    {C_NoPlan : Addr}
    {C_NoRate : Addr}
    {C_NoRatio : Addr}
    {C_NoRivals : Addr}
    {C_NoRow : Addr}
    {C_NoSize : Addr}
    {C_NoStretch : Addr}
    {C_NoTags : Addr}
    {C_NoText : Addr}
    {C_NoTime : Addr}
    {C_NoTruth : Addr}
    {C_NoWeight : Addr}
    {C_NoWord : Addr}
    {C_Nought : Addr}
    {C_Past : Addr}
    {C_ShareError : Addr}
    {C_Stands : Addr}
    {C_TagError : Addr}
    {C_TooMany : Addr}
    {C_TooMuch : Addr}
    (z_LookupError : PySem.W.nsIn K mainGlobals "LookupError" = some none)
    (z_ValueError : PySem.W.nsIn K mainGlobals "ValueError" = some none)
    (z_abs : PySem.W.nsIn K mainGlobals "abs" = some none)
    (z_all : PySem.W.nsIn K mainGlobals "all" = some none)
    (z_bool : PySem.W.nsIn K mainGlobals "bool" = some none)
    (z_divmod : PySem.W.nsIn K mainGlobals "divmod" = some none)
    (z_int : PySem.W.nsIn K mainGlobals "int" = some none)
    (z_isinstance : PySem.W.nsIn K mainGlobals "isinstance" = some none)
    (z_len : PySem.W.nsIn K mainGlobals "len" = some none)
    (z_list : PySem.W.nsIn K mainGlobals "list" = some none)
    (z_max : PySem.W.nsIn K mainGlobals "max" = some none)
    (z_min : PySem.W.nsIn K mainGlobals "min" = some none)
    (z_range : PySem.W.nsIn K mainGlobals "range" = some none)
    (z_tuple : PySem.W.nsIn K mainGlobals "tuple" = some none)
    (a__law_cell : PySem.W.nsIn K mainGlobals "_law_cell" = some (some (.ref A__law_cell)))
    (l__law_cell : K.lookup A__law_cell = some ⟨oc__law_cell, od__law_cell, .func (PySem.W.fnOf "_law_cell" "_law_cell" (defArgs s__law_cell) (defBody s__law_cell) (defScope s__law_cell) .none kV__law_cell dc__law_cell pm__law_cell an__law_cell cd__law_cell ct__law_cell), sl__law_cell⟩)
    (c__law_cell : PySem.W.codeIn K cd__law_cell "_law_cell" = true)
    (k__law_cell : PySem.W.keepIn K (.ref A__law_cell) = true)
    (a_is_whole : PySem.W.nsIn K mainGlobals "is_whole" = some (some (.ref A_is_whole)))
    (l_is_whole : K.lookup A_is_whole = some ⟨oc_is_whole, od_is_whole, .func (PySem.W.fnOf "is_whole" "is_whole" (defArgs s_is_whole) (defBody s_is_whole) (defScope s_is_whole) .none kV_is_whole dc_is_whole pm_is_whole an_is_whole cd_is_whole ct_is_whole), sl_is_whole⟩)
    (c_is_whole : PySem.W.codeIn K cd_is_whole "is_whole" = true)
    (k_is_whole : PySem.W.keepIn K (.ref A_is_whole) = true)
    (a_shared : PySem.W.nsIn K mainGlobals "shared" = some (some (.ref A_shared)))
    (l_shared : K.lookup A_shared = some ⟨oc_shared, od_shared, .func (PySem.W.fnOf "shared" "shared" (defArgs s_shared) (defBody s_shared) (defScope s_shared) .none kV_shared dc_shared pm_shared an_shared cd_shared ct_shared), sl_shared⟩)
    (c_shared : PySem.W.codeIn K cd_shared "shared" = true)
    (k_shared : PySem.W.keepIn K (.ref A_shared) = true)
    (a_is_ratio : PySem.W.nsIn K mainGlobals "is_ratio" = some (some (.ref A_is_ratio)))
    (l_is_ratio : K.lookup A_is_ratio = some ⟨oc_is_ratio, od_is_ratio, .func (PySem.W.fnOf "is_ratio" "is_ratio" (defArgs s_is_ratio) (defBody s_is_ratio) (defScope s_is_ratio) .none kV_is_ratio dc_is_ratio pm_is_ratio an_is_ratio cd_is_ratio ct_is_ratio), sl_is_ratio⟩)
    (c_is_ratio : PySem.W.codeIn K cd_is_ratio "is_ratio" = true)
    (k_is_ratio : PySem.W.keepIn K (.ref A_is_ratio) = true)
    (a__law_is : PySem.W.nsIn K mainGlobals "_law_is" = some (some (.ref A__law_is)))
    (l__law_is : K.lookup A__law_is = some ⟨oc__law_is, od__law_is, .func (PySem.W.fnOf "_law_is" "_law_is" (defArgs s__law_is) (defBody s__law_is) (defScope s__law_is) .none kV__law_is dc__law_is pm__law_is an__law_is cd__law_is ct__law_is), sl__law_is⟩)
    (c__law_is : PySem.W.codeIn K cd__law_is "_law_is" = true)
    (k__law_is : PySem.W.keepIn K (.ref A__law_is) = true)
    (a__law_whole : PySem.W.nsIn K mainGlobals "_law_whole" = some (some (.ref A__law_whole)))
    (l__law_whole : K.lookup A__law_whole = some ⟨oc__law_whole, od__law_whole, .func (PySem.W.fnOf "_law_whole" "_law_whole" (defArgs s__law_whole) (defBody s__law_whole) (defScope s__law_whole) .none kV__law_whole dc__law_whole pm__law_whole an__law_whole cd__law_whole ct__law_whole), sl__law_whole⟩)
    (c__law_whole : PySem.W.codeIn K cd__law_whole "_law_whole" = true)
    (k__law_whole : PySem.W.keepIn K (.ref A__law_whole) = true)
    (a__law_is_ratio : PySem.W.nsIn K mainGlobals "_law_is_ratio" = some (some (.ref A__law_is_ratio)))
    (l__law_is_ratio : K.lookup A__law_is_ratio = some ⟨oc__law_is_ratio, od__law_is_ratio, .func (PySem.W.fnOf "_law_is_ratio" "_law_is_ratio" (defArgs s__law_is_ratio) (defBody s__law_is_ratio) (defScope s__law_is_ratio) .none kV__law_is_ratio dc__law_is_ratio pm__law_is_ratio an__law_is_ratio cd__law_is_ratio ct__law_is_ratio), sl__law_is_ratio⟩)
    (c__law_is_ratio : PySem.W.codeIn K cd__law_is_ratio "_law_is_ratio" = true)
    (k__law_is_ratio : PySem.W.keepIn K (.ref A__law_is_ratio) = true)
    (a__law_no_ratios : PySem.W.nsIn K mainGlobals "_law_no_ratios" = some (some (.ref A__law_no_ratios)))
    (l__law_no_ratios : K.lookup A__law_no_ratios = some ⟨oc__law_no_ratios, od__law_no_ratios, .func (PySem.W.fnOf "_law_no_ratios" "_law_no_ratios" (defArgs s__law_no_ratios) (defBody s__law_no_ratios) (defScope s__law_no_ratios) .none kV__law_no_ratios dc__law_no_ratios pm__law_no_ratios an__law_no_ratios cd__law_no_ratios ct__law_no_ratios), sl__law_no_ratios⟩)
    (c__law_no_ratios : PySem.W.codeIn K cd__law_no_ratios "_law_no_ratios" = true)
    (k__law_no_ratios : PySem.W.keepIn K (.ref A__law_no_ratios) = true)
    (a__law_take : PySem.W.nsIn K mainGlobals "_law_take" = some (some (.ref A__law_take)))
    (l__law_take : K.lookup A__law_take = some ⟨oc__law_take, od__law_take, .func (PySem.W.fnOf "_law_take" "_law_take" (defArgs s__law_take) (defBody s__law_take) (defScope s__law_take) .none kV__law_take dc__law_take pm__law_take an__law_take cd__law_take ct__law_take), sl__law_take⟩)
    (c__law_take : PySem.W.codeIn K cd__law_take "_law_take" = true)
    (k__law_take : PySem.W.keepIn K (.ref A__law_take) = true)
    (a__law_number : PySem.W.nsIn K mainGlobals "_law_number" = some (some (.ref A__law_number)))
    (l__law_number : K.lookup A__law_number = some ⟨oc__law_number, od__law_number, .func (PySem.W.fnOf "_law_number" "_law_number" (defArgs s__law_number) (defBody s__law_number) (defScope s__law_number) .none kV__law_number dc__law_number pm__law_number an__law_number cd__law_number ct__law_number), sl__law_number⟩)
    (c__law_number : PySem.W.codeIn K cd__law_number "_law_number" = true)
    (k__law_number : PySem.W.keepIn K (.ref A__law_number) = true)
    (a__law_pool : PySem.W.nsIn K mainGlobals "_law_pool" = some (some (.ref A__law_pool)))
    (l__law_pool : K.lookup A__law_pool = some ⟨oc__law_pool, od__law_pool, .func (PySem.W.fnOf "_law_pool" "_law_pool" (defArgs s__law_pool) (defBody s__law_pool) (defScope s__law_pool) .none kV__law_pool dc__law_pool pm__law_pool an__law_pool cd__law_pool ct__law_pool), sl__law_pool⟩)
    (c__law_pool : PySem.W.codeIn K cd__law_pool "_law_pool" = true)
    (k__law_pool : PySem.W.keepIn K (.ref A__law_pool) = true)
    (a__law_r : PySem.W.nsIn K mainGlobals "_law_r" = some (some (.ref A__law_r)))
    (l__law_r : K.lookup A__law_r = some ⟨oc__law_r, od__law_r, .func (PySem.W.fnOf "_law_r" "_law_r" (defArgs s__law_r) (defBody s__law_r) (defScope s__law_r) .none kV__law_r dc__law_r pm__law_r an__law_r cd__law_r ct__law_r), sl__law_r⟩)
    (c__law_r : PySem.W.codeIn K cd__law_r "_law_r" = true)
    (k__law_r : PySem.W.keepIn K (.ref A__law_r) = true)
    (a__law_kind : PySem.W.nsIn K mainGlobals "_law_kind" = some (some (.ref A__law_kind)))
    (l__law_kind : K.lookup A__law_kind = some ⟨oc__law_kind, od__law_kind, .func (PySem.W.fnOf "_law_kind" "_law_kind" (defArgs s__law_kind) (defBody s__law_kind) (defScope s__law_kind) .none kV__law_kind dc__law_kind pm__law_kind an__law_kind cd__law_kind ct__law_kind), sl__law_kind⟩)
    (c__law_kind : PySem.W.codeIn K cd__law_kind "_law_kind" = true)
    (k__law_kind : PySem.W.keepIn K (.ref A__law_kind) = true)
    (a_lowest : PySem.W.nsIn K mainGlobals "lowest" = some (some (.ref A_lowest)))
    (l_lowest : K.lookup A_lowest = some ⟨oc_lowest, od_lowest, .func (PySem.W.fnOf "lowest" "lowest" (defArgs s_lowest) (defBody s_lowest) (defScope s_lowest) .none kV_lowest dc_lowest pm_lowest an_lowest cd_lowest ct_lowest), sl_lowest⟩)
    (c_lowest : PySem.W.codeIn K cd_lowest "lowest" = true)
    (k_lowest : PySem.W.keepIn K (.ref A_lowest) = true)
    (a_ratio : PySem.W.nsIn K mainGlobals "ratio" = some (some (.ref A_ratio)))
    (l_ratio : K.lookup A_ratio = some ⟨oc_ratio, od_ratio, .func (PySem.W.fnOf "ratio" "ratio" (defArgs s_ratio) (defBody s_ratio) (defScope s_ratio) (.ref T_ratio) kV_ratio dc_ratio pm_ratio an_ratio cd_ratio ct_ratio), sl_ratio⟩)
    (c_ratio : PySem.W.codeIn K cd_ratio "ratio" = true)
    (k_ratio : PySem.W.keepIn K (.ref A_ratio) = true)
    (t_ratio : K.lookup T_ratio = some ⟨ocT_ratio, odT_ratio, .seq ([.int 1 tk_ratio_0] : List Value).toArray nT_ratio, slT_ratio⟩)
    (a__law_refused : PySem.W.nsIn K mainGlobals "_law_refused" = some (some (.ref A__law_refused)))
    (l__law_refused : K.lookup A__law_refused = some ⟨oc__law_refused, od__law_refused, .func (PySem.W.fnOf "_law_refused" "_law_refused" (defArgs s__law_refused) (defBody s__law_refused) (defScope s__law_refused) .none kV__law_refused dc__law_refused pm__law_refused an__law_refused cd__law_refused ct__law_refused), sl__law_refused⟩)
    (c__law_refused : PySem.W.codeIn K cd__law_refused "_law_refused" = true)
    (k__law_refused : PySem.W.keepIn K (.ref A__law_refused) = true)
    (a_law : PySem.W.nsIn K mainGlobals "law" = some (some (.ref A_law)))
    (l_law : K.lookup A_law = some ⟨oc_law, od_law, .func (PySem.W.fnOf "law" "law" (defArgs s_law) (defBody s_law) (defScope s_law) .none kV_law dc_law pm_law an_law cd_law ct_law), sl_law⟩)
    (c_law : PySem.W.codeIn K cd_law "law" = true)
    (k_law : PySem.W.keepIn K (.ref A_law) = true)
    (a_NONE : PySem.W.nsIn K mainGlobals "NONE" = some (some (.ref A_NONE)))
    (l_NONE : K.lookup A_NONE = some ⟨.type "tuple", od_NONE, .seq ([.int 0 tk_NONE_0, .int 1 tk_NONE_1] : List Value).toArray nn_NONE, sl_NONE⟩)
    (a_WHOLE : PySem.W.nsIn K mainGlobals "WHOLE" = some (some (.ref A_WHOLE)))
    (l_WHOLE : K.lookup A_WHOLE = some ⟨.type "tuple", od_WHOLE, .seq ([.int 1 tk_WHOLE_0, .int 1 tk_WHOLE_1] : List Value).toArray nn_WHOLE, sl_WHOLE⟩)
    (a_Full : PySem.W.nsIn K mainGlobals "Full" = some (some (.ref C_Full)))
    (a_LostError : PySem.W.nsIn K mainGlobals "LostError" = some (some (.ref C_LostError)))
    (a_NoAsk : PySem.W.nsIn K mainGlobals "NoAsk" = some (some (.ref C_NoAsk)))
    (a_NoClient : PySem.W.nsIn K mainGlobals "NoClient" = some (some (.ref C_NoClient)))
    (a_NoDeeds : PySem.W.nsIn K mainGlobals "NoDeeds" = some (some (.ref C_NoDeeds)))
    (a_NoLeast : PySem.W.nsIn K mainGlobals "NoLeast" = some (some (.ref C_NoLeast)))
    (a_NoLeasts : PySem.W.nsIn K mainGlobals "NoLeasts" = some (some (.ref C_NoLeasts)))
    (a_NoLess : PySem.W.nsIn K mainGlobals "NoLess" = some (some (.ref C_NoLess)))
    (a_NoLog : PySem.W.nsIn K mainGlobals "NoLog" = some (some (.ref C_NoLog)))
    (a_NoName : PySem.W.nsIn K mainGlobals "NoName" = some (some (.ref C_NoName)))
    (a_NoNumber : PySem.W.nsIn K mainGlobals "NoNumber" = some (some (.ref C_NoNumber)))
    (a_NoOne : PySem.W.nsIn K mainGlobals "NoOne" = some (some (.ref C_NoOne)))
    (a_NoPlace : PySem.W.nsIn K mainGlobals "NoPlace" = some (some (.ref C_NoPlace)))
    (a_NoPlan : PySem.W.nsIn K mainGlobals "NoPlan" = some (some (.ref C_NoPlan)))
    (a_NoRate : PySem.W.nsIn K mainGlobals "NoRate" = some (some (.ref C_NoRate)))
    (a_NoRatio : PySem.W.nsIn K mainGlobals "NoRatio" = some (some (.ref C_NoRatio)))
    (x_NoRatio : PySem.W.excIn K C_NoRatio bmValueError "ValueError.__new__" = true)
    (k_NoRatio : PySem.W.keepIn K (.ref C_NoRatio) = true)
    (s_NoRatio : PySem.W.subIn K (.ref C_NoRatio) (.type "BaseException") = some true)
    (y_NoRatio : PySem.W.typeIn K (.ref C_NoRatio) = some (.type "type"))
    (eg_NoRatio : PySem.W.findIn K (.ref C_NoRatio) "__getattribute__" = some (some (.builtin "BaseException.__getattribute__")))
    (ek_NoRatio : PySem.W.findIn K (.ref C_NoRatio) "__getattr__" = some none)
    (ed_NoRatio : PySem.W.hasDictIn K C_NoRatio = true)
    (ea_NoRatio : PySem.W.findIn K (.ref C_NoRatio) "__class__" = some (some (.builtin "object.__class__")))
    (em_NoRatio : PySem.W.mroIn K C_NoRatio (.type "object") = some true)
    (a_NoRivals : PySem.W.nsIn K mainGlobals "NoRivals" = some (some (.ref C_NoRivals)))
    (a_NoRow : PySem.W.nsIn K mainGlobals "NoRow" = some (some (.ref C_NoRow)))
    (a_NoSize : PySem.W.nsIn K mainGlobals "NoSize" = some (some (.ref C_NoSize)))
    (a_NoStretch : PySem.W.nsIn K mainGlobals "NoStretch" = some (some (.ref C_NoStretch)))
    (a_NoTags : PySem.W.nsIn K mainGlobals "NoTags" = some (some (.ref C_NoTags)))
    (a_NoText : PySem.W.nsIn K mainGlobals "NoText" = some (some (.ref C_NoText)))
    (a_NoTime : PySem.W.nsIn K mainGlobals "NoTime" = some (some (.ref C_NoTime)))
    (a_NoTruth : PySem.W.nsIn K mainGlobals "NoTruth" = some (some (.ref C_NoTruth)))
    (a_NoWeight : PySem.W.nsIn K mainGlobals "NoWeight" = some (some (.ref C_NoWeight)))
    (a_NoWord : PySem.W.nsIn K mainGlobals "NoWord" = some (some (.ref C_NoWord)))
    (a_Nought : PySem.W.nsIn K mainGlobals "Nought" = some (some (.ref C_Nought)))
    (a_Past : PySem.W.nsIn K mainGlobals "Past" = some (some (.ref C_Past)))
    (a_ShareError : PySem.W.nsIn K mainGlobals "ShareError" = some (some (.ref C_ShareError)))
    (a_Stands : PySem.W.nsIn K mainGlobals "Stands" = some (some (.ref C_Stands)))
    (a_TagError : PySem.W.nsIn K mainGlobals "TagError" = some (some (.ref C_TagError)))
    (a_TooMany : PySem.W.nsIn K mainGlobals "TooMany" = some (some (.ref C_TooMany)))
    (a_TooMuch : PySem.W.nsIn K mainGlobals "TooMuch" = some (some (.ref C_TooMuch)))
    (en_ : PySem.W.specialIn K (.builtin "object.__class__") "__get__" = some (some (.builtin "getset_descriptor.__get__")))
    (et_ : PySem.W.takesIn K (.builtin "object.__class__") = some true)
    (qs_NoRatio_Full : PySem.W.subIn K (.ref C_NoRatio) (.ref C_Full) = some false)
    (qn_NoRatio_Full : C_NoRatio ≠ C_Full)
    (ed_Full : PySem.W.hasDictIn K C_Full = true)
    (y_Full : PySem.W.typeIn K (.ref C_Full) = some (.type "type"))
    (qs_NoRatio_LookupError : PySem.W.subIn K (.ref C_NoRatio) (.type "LookupError") = some false)
    (qs_NoRatio_LostError : PySem.W.subIn K (.ref C_NoRatio) (.ref C_LostError) = some false)
    (qn_NoRatio_LostError : C_NoRatio ≠ C_LostError)
    (ed_LostError : PySem.W.hasDictIn K C_LostError = true)
    (y_LostError : PySem.W.typeIn K (.ref C_LostError) = some (.type "type"))
    (qs_NoRatio_NoAsk : PySem.W.subIn K (.ref C_NoRatio) (.ref C_NoAsk) = some false)
    (qn_NoRatio_NoAsk : C_NoRatio ≠ C_NoAsk)
    (ed_NoAsk : PySem.W.hasDictIn K C_NoAsk = true)
    (y_NoAsk : PySem.W.typeIn K (.ref C_NoAsk) = some (.type "type"))
    (qs_NoRatio_NoClient : PySem.W.subIn K (.ref C_NoRatio) (.ref C_NoClient) = some false)
    (qn_NoRatio_NoClient : C_NoRatio ≠ C_NoClient)
    (ed_NoClient : PySem.W.hasDictIn K C_NoClient = true)
    (y_NoClient : PySem.W.typeIn K (.ref C_NoClient) = some (.type "type"))
    (qs_NoRatio_NoDeeds : PySem.W.subIn K (.ref C_NoRatio) (.ref C_NoDeeds) = some false)
    (qn_NoRatio_NoDeeds : C_NoRatio ≠ C_NoDeeds)
    (ed_NoDeeds : PySem.W.hasDictIn K C_NoDeeds = true)
    (y_NoDeeds : PySem.W.typeIn K (.ref C_NoDeeds) = some (.type "type"))
    (qs_NoRatio_NoLeast : PySem.W.subIn K (.ref C_NoRatio) (.ref C_NoLeast) = some false)
    (qn_NoRatio_NoLeast : C_NoRatio ≠ C_NoLeast)
    (ed_NoLeast : PySem.W.hasDictIn K C_NoLeast = true)
    (y_NoLeast : PySem.W.typeIn K (.ref C_NoLeast) = some (.type "type"))
    (qs_NoRatio_NoLeasts : PySem.W.subIn K (.ref C_NoRatio) (.ref C_NoLeasts) = some false)
    (qn_NoRatio_NoLeasts : C_NoRatio ≠ C_NoLeasts)
    (ed_NoLeasts : PySem.W.hasDictIn K C_NoLeasts = true)
    (y_NoLeasts : PySem.W.typeIn K (.ref C_NoLeasts) = some (.type "type"))
    (qs_NoRatio_NoLess : PySem.W.subIn K (.ref C_NoRatio) (.ref C_NoLess) = some false)
    (qn_NoRatio_NoLess : C_NoRatio ≠ C_NoLess)
    (ed_NoLess : PySem.W.hasDictIn K C_NoLess = true)
    (y_NoLess : PySem.W.typeIn K (.ref C_NoLess) = some (.type "type"))
    (qs_NoRatio_NoLog : PySem.W.subIn K (.ref C_NoRatio) (.ref C_NoLog) = some false)
    (qn_NoRatio_NoLog : C_NoRatio ≠ C_NoLog)
    (ed_NoLog : PySem.W.hasDictIn K C_NoLog = true)
    (y_NoLog : PySem.W.typeIn K (.ref C_NoLog) = some (.type "type"))
    (qs_NoRatio_NoName : PySem.W.subIn K (.ref C_NoRatio) (.ref C_NoName) = some false)
    (qn_NoRatio_NoName : C_NoRatio ≠ C_NoName)
    (ed_NoName : PySem.W.hasDictIn K C_NoName = true)
    (y_NoName : PySem.W.typeIn K (.ref C_NoName) = some (.type "type"))
    (qs_NoRatio_NoNumber : PySem.W.subIn K (.ref C_NoRatio) (.ref C_NoNumber) = some false)
    (qn_NoRatio_NoNumber : C_NoRatio ≠ C_NoNumber)
    (ed_NoNumber : PySem.W.hasDictIn K C_NoNumber = true)
    (y_NoNumber : PySem.W.typeIn K (.ref C_NoNumber) = some (.type "type"))
    (qs_NoRatio_NoOne : PySem.W.subIn K (.ref C_NoRatio) (.ref C_NoOne) = some false)
    (qn_NoRatio_NoOne : C_NoRatio ≠ C_NoOne)
    (ed_NoOne : PySem.W.hasDictIn K C_NoOne = true)
    (y_NoOne : PySem.W.typeIn K (.ref C_NoOne) = some (.type "type"))
    (qs_NoRatio_NoPlace : PySem.W.subIn K (.ref C_NoRatio) (.ref C_NoPlace) = some false)
    (qn_NoRatio_NoPlace : C_NoRatio ≠ C_NoPlace)
    (ed_NoPlace : PySem.W.hasDictIn K C_NoPlace = true)
    (y_NoPlace : PySem.W.typeIn K (.ref C_NoPlace) = some (.type "type"))
    (qs_NoRatio_NoPlan : PySem.W.subIn K (.ref C_NoRatio) (.ref C_NoPlan) = some false)
    (qn_NoRatio_NoPlan : C_NoRatio ≠ C_NoPlan)
    (ed_NoPlan : PySem.W.hasDictIn K C_NoPlan = true)
    (y_NoPlan : PySem.W.typeIn K (.ref C_NoPlan) = some (.type "type"))
    (qs_NoRatio_NoRate : PySem.W.subIn K (.ref C_NoRatio) (.ref C_NoRate) = some false)
    (qn_NoRatio_NoRate : C_NoRatio ≠ C_NoRate)
    (ed_NoRate : PySem.W.hasDictIn K C_NoRate = true)
    (y_NoRate : PySem.W.typeIn K (.ref C_NoRate) = some (.type "type"))
    (qs_NoRatio_NoRatio : PySem.W.subIn K (.ref C_NoRatio) (.ref C_NoRatio) = some true)
    (qs_NoRatio_NoRivals : PySem.W.subIn K (.ref C_NoRatio) (.ref C_NoRivals) = some false)
    (qn_NoRatio_NoRivals : C_NoRatio ≠ C_NoRivals)
    (ed_NoRivals : PySem.W.hasDictIn K C_NoRivals = true)
    (y_NoRivals : PySem.W.typeIn K (.ref C_NoRivals) = some (.type "type"))
    (qs_NoRatio_NoRow : PySem.W.subIn K (.ref C_NoRatio) (.ref C_NoRow) = some false)
    (qn_NoRatio_NoRow : C_NoRatio ≠ C_NoRow)
    (ed_NoRow : PySem.W.hasDictIn K C_NoRow = true)
    (y_NoRow : PySem.W.typeIn K (.ref C_NoRow) = some (.type "type"))
    (qs_NoRatio_NoSize : PySem.W.subIn K (.ref C_NoRatio) (.ref C_NoSize) = some false)
    (qn_NoRatio_NoSize : C_NoRatio ≠ C_NoSize)
    (ed_NoSize : PySem.W.hasDictIn K C_NoSize = true)
    (y_NoSize : PySem.W.typeIn K (.ref C_NoSize) = some (.type "type"))
    (qs_NoRatio_NoStretch : PySem.W.subIn K (.ref C_NoRatio) (.ref C_NoStretch) = some false)
    (qn_NoRatio_NoStretch : C_NoRatio ≠ C_NoStretch)
    (ed_NoStretch : PySem.W.hasDictIn K C_NoStretch = true)
    (y_NoStretch : PySem.W.typeIn K (.ref C_NoStretch) = some (.type "type"))
    (qs_NoRatio_NoTags : PySem.W.subIn K (.ref C_NoRatio) (.ref C_NoTags) = some false)
    (qn_NoRatio_NoTags : C_NoRatio ≠ C_NoTags)
    (ed_NoTags : PySem.W.hasDictIn K C_NoTags = true)
    (y_NoTags : PySem.W.typeIn K (.ref C_NoTags) = some (.type "type"))
    (qs_NoRatio_NoText : PySem.W.subIn K (.ref C_NoRatio) (.ref C_NoText) = some false)
    (qn_NoRatio_NoText : C_NoRatio ≠ C_NoText)
    (ed_NoText : PySem.W.hasDictIn K C_NoText = true)
    (y_NoText : PySem.W.typeIn K (.ref C_NoText) = some (.type "type"))
    (qs_NoRatio_NoTime : PySem.W.subIn K (.ref C_NoRatio) (.ref C_NoTime) = some false)
    (qn_NoRatio_NoTime : C_NoRatio ≠ C_NoTime)
    (ed_NoTime : PySem.W.hasDictIn K C_NoTime = true)
    (y_NoTime : PySem.W.typeIn K (.ref C_NoTime) = some (.type "type"))
    (qs_NoRatio_NoTruth : PySem.W.subIn K (.ref C_NoRatio) (.ref C_NoTruth) = some false)
    (qn_NoRatio_NoTruth : C_NoRatio ≠ C_NoTruth)
    (ed_NoTruth : PySem.W.hasDictIn K C_NoTruth = true)
    (y_NoTruth : PySem.W.typeIn K (.ref C_NoTruth) = some (.type "type"))
    (qs_NoRatio_NoWeight : PySem.W.subIn K (.ref C_NoRatio) (.ref C_NoWeight) = some false)
    (qn_NoRatio_NoWeight : C_NoRatio ≠ C_NoWeight)
    (ed_NoWeight : PySem.W.hasDictIn K C_NoWeight = true)
    (y_NoWeight : PySem.W.typeIn K (.ref C_NoWeight) = some (.type "type"))
    (qs_NoRatio_NoWord : PySem.W.subIn K (.ref C_NoRatio) (.ref C_NoWord) = some false)
    (qn_NoRatio_NoWord : C_NoRatio ≠ C_NoWord)
    (ed_NoWord : PySem.W.hasDictIn K C_NoWord = true)
    (y_NoWord : PySem.W.typeIn K (.ref C_NoWord) = some (.type "type"))
    (qs_NoRatio_Nought : PySem.W.subIn K (.ref C_NoRatio) (.ref C_Nought) = some false)
    (qn_NoRatio_Nought : C_NoRatio ≠ C_Nought)
    (ed_Nought : PySem.W.hasDictIn K C_Nought = true)
    (y_Nought : PySem.W.typeIn K (.ref C_Nought) = some (.type "type"))
    (qs_NoRatio_Past : PySem.W.subIn K (.ref C_NoRatio) (.ref C_Past) = some false)
    (qn_NoRatio_Past : C_NoRatio ≠ C_Past)
    (ed_Past : PySem.W.hasDictIn K C_Past = true)
    (y_Past : PySem.W.typeIn K (.ref C_Past) = some (.type "type"))
    (qs_NoRatio_ShareError : PySem.W.subIn K (.ref C_NoRatio) (.ref C_ShareError) = some false)
    (qn_NoRatio_ShareError : C_NoRatio ≠ C_ShareError)
    (ed_ShareError : PySem.W.hasDictIn K C_ShareError = true)
    (y_ShareError : PySem.W.typeIn K (.ref C_ShareError) = some (.type "type"))
    (qs_NoRatio_Stands : PySem.W.subIn K (.ref C_NoRatio) (.ref C_Stands) = some false)
    (qn_NoRatio_Stands : C_NoRatio ≠ C_Stands)
    (ed_Stands : PySem.W.hasDictIn K C_Stands = true)
    (y_Stands : PySem.W.typeIn K (.ref C_Stands) = some (.type "type"))
    (qs_NoRatio_TagError : PySem.W.subIn K (.ref C_NoRatio) (.ref C_TagError) = some true)
    (ed_TagError : PySem.W.hasDictIn K C_TagError = true)
    (y_TagError : PySem.W.typeIn K (.ref C_TagError) = some (.type "type"))
    (qs_NoRatio_TooMany : PySem.W.subIn K (.ref C_NoRatio) (.ref C_TooMany) = some false)
    (qn_NoRatio_TooMany : C_NoRatio ≠ C_TooMany)
    (ed_TooMany : PySem.W.hasDictIn K C_TooMany = true)
    (y_TooMany : PySem.W.typeIn K (.ref C_TooMany) = some (.type "type"))
    (qs_NoRatio_TooMuch : PySem.W.subIn K (.ref C_NoRatio) (.ref C_TooMuch) = some false)
    (qn_NoRatio_TooMuch : C_NoRatio ≠ C_TooMuch)
    (ed_TooMuch : PySem.W.hasDictIn K C_TooMuch = true)
    (y_TooMuch : PySem.W.typeIn K (.ref C_TooMuch) = some (.type "type"))
    (qs_NoRatio_ValueError : PySem.W.subIn K (.ref C_NoRatio) (.type "ValueError") = some true)
    (s_TagError : PySem.W.subIn K (.ref C_TagError) (.type "BaseException") = some true)
    : Txt K mg where
  b_LookupError := PySem.W.mg_none_of X G z_LookupError
  b_ValueError := PySem.W.mg_none_of X G z_ValueError
  b_abs := PySem.W.mg_none_of X G z_abs
  b_all := PySem.W.mg_none_of X G z_all
  b_bool := PySem.W.mg_none_of X G z_bool
  b_divmod := PySem.W.mg_none_of X G z_divmod
  b_int := PySem.W.mg_none_of X G z_int
  b_isinstance := PySem.W.mg_none_of X G z_isinstance
  b_len := PySem.W.mg_none_of X G z_len
  b_list := PySem.W.mg_none_of X G z_list
  b_max := PySem.W.mg_none_of X G z_max
  b_min := PySem.W.mg_none_of X G z_min
  b_range := PySem.W.mg_none_of X G z_range
  b_tuple := PySem.W.mg_none_of X G z_tuple
  f__law_cell := ⟨A__law_cell, _, PySem.W.mg_of X G a__law_cell, fun_mk (st := s__law_cell) l__law_cell c__law_cell k__law_cell⟩
  f_is_whole := ⟨A_is_whole, _, PySem.W.mg_of X G a_is_whole, fun_mk (st := s_is_whole) l_is_whole c_is_whole k_is_whole⟩
  f_shared := ⟨A_shared, _, PySem.W.mg_of X G a_shared, fun_mk (st := s_shared) l_shared c_shared k_shared⟩
  f_is_ratio := ⟨A_is_ratio, _, PySem.W.mg_of X G a_is_ratio, fun_mk (st := s_is_ratio) l_is_ratio c_is_ratio k_is_ratio⟩
  f__law_is := ⟨A__law_is, _, PySem.W.mg_of X G a__law_is, fun_mk (st := s__law_is) l__law_is c__law_is k__law_is⟩
  f__law_whole := ⟨A__law_whole, _, PySem.W.mg_of X G a__law_whole, fun_mk (st := s__law_whole) l__law_whole c__law_whole k__law_whole⟩
  f__law_is_ratio := ⟨A__law_is_ratio, _, PySem.W.mg_of X G a__law_is_ratio, fun_mk (st := s__law_is_ratio) l__law_is_ratio c__law_is_ratio k__law_is_ratio⟩
  f__law_no_ratios := ⟨A__law_no_ratios, _, PySem.W.mg_of X G a__law_no_ratios, fun_mk (st := s__law_no_ratios) l__law_no_ratios c__law_no_ratios k__law_no_ratios⟩
  f__law_take := ⟨A__law_take, _, PySem.W.mg_of X G a__law_take, fun_mk (st := s__law_take) l__law_take c__law_take k__law_take⟩
  f__law_number := ⟨A__law_number, _, PySem.W.mg_of X G a__law_number, fun_mk (st := s__law_number) l__law_number c__law_number k__law_number⟩
  f__law_pool := ⟨A__law_pool, _, PySem.W.mg_of X G a__law_pool, fun_mk (st := s__law_pool) l__law_pool c__law_pool k__law_pool⟩
  f__law_r := ⟨A__law_r, _, PySem.W.mg_of X G a__law_r, fun_mk (st := s__law_r) l__law_r c__law_r k__law_r⟩
  f__law_kind := ⟨A__law_kind, _, PySem.W.mg_of X G a__law_kind, fun_mk (st := s__law_kind) l__law_kind c__law_kind k__law_kind⟩
  f_lowest := ⟨A_lowest, _, PySem.W.mg_of X G a_lowest, fun_mk (st := s_lowest) l_lowest c_lowest k_lowest⟩
  f_ratio := ⟨A_ratio, _, PySem.W.mg_of X G a_ratio, ⟨⟨_, _, _, _, _, _, _, _, _, _, rfl, l_ratio, c_ratio, .inr ⟨by simp [dv_ratio], T_ratio, _, _, _, rfl, t_ratio, rfl, (.cons ⟨_, rfl⟩ .nil)⟩, .inl rfl⟩, k_ratio⟩⟩
  f__law_refused := ⟨A__law_refused, _, PySem.W.mg_of X G a__law_refused, fun_mk (st := s__law_refused) l__law_refused c__law_refused k__law_refused⟩
  f_law := ⟨A_law, _, PySem.W.mg_of X G a_law, fun_mk (st := s_law) l_law c_law k_law⟩
  c_NONE := ⟨A_NONE, PySem.W.mg_of X G a_NONE, _, _, _, l_NONE, rfl, rfl, (by show 2 ≤ sizeLine; decide), (.cons ⟨_, rfl⟩ (.cons ⟨_, rfl⟩ .nil))⟩
  c_WHOLE := ⟨A_WHOLE, PySem.W.mg_of X G a_WHOLE, _, _, _, l_WHOLE, rfl, rfl, (by show 2 ≤ sizeLine; decide), (.cons ⟨_, rfl⟩ (.cons ⟨_, rfl⟩ .nil))⟩
  x_Full := ⟨C_Full, PySem.W.mg_of X G a_Full⟩
  x_LostError := ⟨C_LostError, PySem.W.mg_of X G a_LostError⟩
  x_NoAsk := ⟨C_NoAsk, PySem.W.mg_of X G a_NoAsk⟩
  x_NoClient := ⟨C_NoClient, PySem.W.mg_of X G a_NoClient⟩
  x_NoDeeds := ⟨C_NoDeeds, PySem.W.mg_of X G a_NoDeeds⟩
  x_NoLeast := ⟨C_NoLeast, PySem.W.mg_of X G a_NoLeast⟩
  x_NoLeasts := ⟨C_NoLeasts, PySem.W.mg_of X G a_NoLeasts⟩
  x_NoLess := ⟨C_NoLess, PySem.W.mg_of X G a_NoLess⟩
  x_NoLog := ⟨C_NoLog, PySem.W.mg_of X G a_NoLog⟩
  x_NoName := ⟨C_NoName, PySem.W.mg_of X G a_NoName⟩
  x_NoNumber := ⟨C_NoNumber, PySem.W.mg_of X G a_NoNumber⟩
  x_NoOne := ⟨C_NoOne, PySem.W.mg_of X G a_NoOne⟩
  x_NoPlace := ⟨C_NoPlace, PySem.W.mg_of X G a_NoPlace⟩
  x_NoPlan := ⟨C_NoPlan, PySem.W.mg_of X G a_NoPlan⟩
  x_NoRate := ⟨C_NoRate, PySem.W.mg_of X G a_NoRate⟩
  x_NoRatio := ⟨C_NoRatio, PySem.W.mg_of X G a_NoRatio, x_NoRatio, k_NoRatio, s_NoRatio, y_NoRatio⟩
  x_NoRivals := ⟨C_NoRivals, PySem.W.mg_of X G a_NoRivals⟩
  x_NoRow := ⟨C_NoRow, PySem.W.mg_of X G a_NoRow⟩
  x_NoSize := ⟨C_NoSize, PySem.W.mg_of X G a_NoSize⟩
  x_NoStretch := ⟨C_NoStretch, PySem.W.mg_of X G a_NoStretch⟩
  x_NoTags := ⟨C_NoTags, PySem.W.mg_of X G a_NoTags⟩
  x_NoText := ⟨C_NoText, PySem.W.mg_of X G a_NoText⟩
  x_NoTime := ⟨C_NoTime, PySem.W.mg_of X G a_NoTime⟩
  x_NoTruth := ⟨C_NoTruth, PySem.W.mg_of X G a_NoTruth⟩
  x_NoWeight := ⟨C_NoWeight, PySem.W.mg_of X G a_NoWeight⟩
  x_NoWord := ⟨C_NoWord, PySem.W.mg_of X G a_NoWord⟩
  x_Nought := ⟨C_Nought, PySem.W.mg_of X G a_Nought⟩
  x_Past := ⟨C_Past, PySem.W.mg_of X G a_Past⟩
  x_ShareError := ⟨C_ShareError, PySem.W.mg_of X G a_ShareError⟩
  x_Stands := ⟨C_Stands, PySem.W.mg_of X G a_Stands⟩
  x_TagError := ⟨C_TagError, PySem.W.mg_of X G a_TagError⟩
  x_TooMany := ⟨C_TooMany, PySem.W.mg_of X G a_TooMany⟩
  x_TooMuch := ⟨C_TooMuch, PySem.W.mg_of X G a_TooMuch⟩
  tb_Full := fun D hD => by
      cases hD.symm.trans (PySem.W.mg_of X G a_Full)
      exact tb_cons (P := fun C q => ExcC K C ∧ PySem.W.kitOne K (.ref C) (.ref C_Full) = some q) (PySem.W.mg_of X G a_NoRatio) ⟨⟨eg_NoRatio, ek_NoRatio, s_NoRatio, ed_NoRatio, ea_NoRatio, en_, et_, em_NoRatio⟩, (kit_ref ed_Full y_Full qs_NoRatio_Full (.inr qn_NoRatio_Full))⟩ (tb_nil)
  tb_LookupError := tb_cons (P := fun C q => ExcC K C ∧ PySem.W.kitOne K (.ref C) (.type "LookupError") = some q) (PySem.W.mg_of X G a_NoRatio) ⟨⟨eg_NoRatio, ek_NoRatio, s_NoRatio, ed_NoRatio, ea_NoRatio, en_, et_, em_NoRatio⟩, (kit_type (by decide +kernel) qs_NoRatio_LookupError)⟩ (tb_nil)
  tb_LostError := fun D hD => by
      cases hD.symm.trans (PySem.W.mg_of X G a_LostError)
      exact tb_cons (P := fun C q => ExcC K C ∧ PySem.W.kitOne K (.ref C) (.ref C_LostError) = some q) (PySem.W.mg_of X G a_NoRatio) ⟨⟨eg_NoRatio, ek_NoRatio, s_NoRatio, ed_NoRatio, ea_NoRatio, en_, et_, em_NoRatio⟩, (kit_ref ed_LostError y_LostError qs_NoRatio_LostError (.inr qn_NoRatio_LostError))⟩ (tb_nil)
  tb_NoAsk := fun D hD => by
      cases hD.symm.trans (PySem.W.mg_of X G a_NoAsk)
      exact tb_cons (P := fun C q => ExcC K C ∧ PySem.W.kitOne K (.ref C) (.ref C_NoAsk) = some q) (PySem.W.mg_of X G a_NoRatio) ⟨⟨eg_NoRatio, ek_NoRatio, s_NoRatio, ed_NoRatio, ea_NoRatio, en_, et_, em_NoRatio⟩, (kit_ref ed_NoAsk y_NoAsk qs_NoRatio_NoAsk (.inr qn_NoRatio_NoAsk))⟩ (tb_nil)
  tb_NoClient := fun D hD => by
      cases hD.symm.trans (PySem.W.mg_of X G a_NoClient)
      exact tb_cons (P := fun C q => ExcC K C ∧ PySem.W.kitOne K (.ref C) (.ref C_NoClient) = some q) (PySem.W.mg_of X G a_NoRatio) ⟨⟨eg_NoRatio, ek_NoRatio, s_NoRatio, ed_NoRatio, ea_NoRatio, en_, et_, em_NoRatio⟩, (kit_ref ed_NoClient y_NoClient qs_NoRatio_NoClient (.inr qn_NoRatio_NoClient))⟩ (tb_nil)
  tb_NoDeeds := fun D hD => by
      cases hD.symm.trans (PySem.W.mg_of X G a_NoDeeds)
      exact tb_cons (P := fun C q => ExcC K C ∧ PySem.W.kitOne K (.ref C) (.ref C_NoDeeds) = some q) (PySem.W.mg_of X G a_NoRatio) ⟨⟨eg_NoRatio, ek_NoRatio, s_NoRatio, ed_NoRatio, ea_NoRatio, en_, et_, em_NoRatio⟩, (kit_ref ed_NoDeeds y_NoDeeds qs_NoRatio_NoDeeds (.inr qn_NoRatio_NoDeeds))⟩ (tb_nil)
  tb_NoLeast := fun D hD => by
      cases hD.symm.trans (PySem.W.mg_of X G a_NoLeast)
      exact tb_cons (P := fun C q => ExcC K C ∧ PySem.W.kitOne K (.ref C) (.ref C_NoLeast) = some q) (PySem.W.mg_of X G a_NoRatio) ⟨⟨eg_NoRatio, ek_NoRatio, s_NoRatio, ed_NoRatio, ea_NoRatio, en_, et_, em_NoRatio⟩, (kit_ref ed_NoLeast y_NoLeast qs_NoRatio_NoLeast (.inr qn_NoRatio_NoLeast))⟩ (tb_nil)
  tb_NoLeasts := fun D hD => by
      cases hD.symm.trans (PySem.W.mg_of X G a_NoLeasts)
      exact tb_cons (P := fun C q => ExcC K C ∧ PySem.W.kitOne K (.ref C) (.ref C_NoLeasts) = some q) (PySem.W.mg_of X G a_NoRatio) ⟨⟨eg_NoRatio, ek_NoRatio, s_NoRatio, ed_NoRatio, ea_NoRatio, en_, et_, em_NoRatio⟩, (kit_ref ed_NoLeasts y_NoLeasts qs_NoRatio_NoLeasts (.inr qn_NoRatio_NoLeasts))⟩ (tb_nil)
  tb_NoLess := fun D hD => by
      cases hD.symm.trans (PySem.W.mg_of X G a_NoLess)
      exact tb_cons (P := fun C q => ExcC K C ∧ PySem.W.kitOne K (.ref C) (.ref C_NoLess) = some q) (PySem.W.mg_of X G a_NoRatio) ⟨⟨eg_NoRatio, ek_NoRatio, s_NoRatio, ed_NoRatio, ea_NoRatio, en_, et_, em_NoRatio⟩, (kit_ref ed_NoLess y_NoLess qs_NoRatio_NoLess (.inr qn_NoRatio_NoLess))⟩ (tb_nil)
  tb_NoLog := fun D hD => by
      cases hD.symm.trans (PySem.W.mg_of X G a_NoLog)
      exact tb_cons (P := fun C q => ExcC K C ∧ PySem.W.kitOne K (.ref C) (.ref C_NoLog) = some q) (PySem.W.mg_of X G a_NoRatio) ⟨⟨eg_NoRatio, ek_NoRatio, s_NoRatio, ed_NoRatio, ea_NoRatio, en_, et_, em_NoRatio⟩, (kit_ref ed_NoLog y_NoLog qs_NoRatio_NoLog (.inr qn_NoRatio_NoLog))⟩ (tb_nil)
  tb_NoName := fun D hD => by
      cases hD.symm.trans (PySem.W.mg_of X G a_NoName)
      exact tb_cons (P := fun C q => ExcC K C ∧ PySem.W.kitOne K (.ref C) (.ref C_NoName) = some q) (PySem.W.mg_of X G a_NoRatio) ⟨⟨eg_NoRatio, ek_NoRatio, s_NoRatio, ed_NoRatio, ea_NoRatio, en_, et_, em_NoRatio⟩, (kit_ref ed_NoName y_NoName qs_NoRatio_NoName (.inr qn_NoRatio_NoName))⟩ (tb_nil)
  tb_NoNumber := fun D hD => by
      cases hD.symm.trans (PySem.W.mg_of X G a_NoNumber)
      exact tb_cons (P := fun C q => ExcC K C ∧ PySem.W.kitOne K (.ref C) (.ref C_NoNumber) = some q) (PySem.W.mg_of X G a_NoRatio) ⟨⟨eg_NoRatio, ek_NoRatio, s_NoRatio, ed_NoRatio, ea_NoRatio, en_, et_, em_NoRatio⟩, (kit_ref ed_NoNumber y_NoNumber qs_NoRatio_NoNumber (.inr qn_NoRatio_NoNumber))⟩ (tb_nil)
  tb_NoOne := fun D hD => by
      cases hD.symm.trans (PySem.W.mg_of X G a_NoOne)
      exact tb_cons (P := fun C q => ExcC K C ∧ PySem.W.kitOne K (.ref C) (.ref C_NoOne) = some q) (PySem.W.mg_of X G a_NoRatio) ⟨⟨eg_NoRatio, ek_NoRatio, s_NoRatio, ed_NoRatio, ea_NoRatio, en_, et_, em_NoRatio⟩, (kit_ref ed_NoOne y_NoOne qs_NoRatio_NoOne (.inr qn_NoRatio_NoOne))⟩ (tb_nil)
  tb_NoPlace := fun D hD => by
      cases hD.symm.trans (PySem.W.mg_of X G a_NoPlace)
      exact tb_cons (P := fun C q => ExcC K C ∧ PySem.W.kitOne K (.ref C) (.ref C_NoPlace) = some q) (PySem.W.mg_of X G a_NoRatio) ⟨⟨eg_NoRatio, ek_NoRatio, s_NoRatio, ed_NoRatio, ea_NoRatio, en_, et_, em_NoRatio⟩, (kit_ref ed_NoPlace y_NoPlace qs_NoRatio_NoPlace (.inr qn_NoRatio_NoPlace))⟩ (tb_nil)
  tb_NoPlan := fun D hD => by
      cases hD.symm.trans (PySem.W.mg_of X G a_NoPlan)
      exact tb_cons (P := fun C q => ExcC K C ∧ PySem.W.kitOne K (.ref C) (.ref C_NoPlan) = some q) (PySem.W.mg_of X G a_NoRatio) ⟨⟨eg_NoRatio, ek_NoRatio, s_NoRatio, ed_NoRatio, ea_NoRatio, en_, et_, em_NoRatio⟩, (kit_ref ed_NoPlan y_NoPlan qs_NoRatio_NoPlan (.inr qn_NoRatio_NoPlan))⟩ (tb_nil)
  tb_NoRate := fun D hD => by
      cases hD.symm.trans (PySem.W.mg_of X G a_NoRate)
      exact tb_cons (P := fun C q => ExcC K C ∧ PySem.W.kitOne K (.ref C) (.ref C_NoRate) = some q) (PySem.W.mg_of X G a_NoRatio) ⟨⟨eg_NoRatio, ek_NoRatio, s_NoRatio, ed_NoRatio, ea_NoRatio, en_, et_, em_NoRatio⟩, (kit_ref ed_NoRate y_NoRate qs_NoRatio_NoRate (.inr qn_NoRatio_NoRate))⟩ (tb_nil)
  tb_NoRatio := fun D hD => by
      cases hD.symm.trans (PySem.W.mg_of X G a_NoRatio)
      exact tb_cons (P := fun C q => ExcC K C ∧ PySem.W.kitOne K (.ref C) (.ref C_NoRatio) = some q) (PySem.W.mg_of X G a_NoRatio) ⟨⟨eg_NoRatio, ek_NoRatio, s_NoRatio, ed_NoRatio, ea_NoRatio, en_, et_, em_NoRatio⟩, (kit_ref ed_NoRatio y_NoRatio qs_NoRatio_NoRatio (.inl rfl))⟩ (tb_nil)
  tb_NoRivals := fun D hD => by
      cases hD.symm.trans (PySem.W.mg_of X G a_NoRivals)
      exact tb_cons (P := fun C q => ExcC K C ∧ PySem.W.kitOne K (.ref C) (.ref C_NoRivals) = some q) (PySem.W.mg_of X G a_NoRatio) ⟨⟨eg_NoRatio, ek_NoRatio, s_NoRatio, ed_NoRatio, ea_NoRatio, en_, et_, em_NoRatio⟩, (kit_ref ed_NoRivals y_NoRivals qs_NoRatio_NoRivals (.inr qn_NoRatio_NoRivals))⟩ (tb_nil)
  tb_NoRow := fun D hD => by
      cases hD.symm.trans (PySem.W.mg_of X G a_NoRow)
      exact tb_cons (P := fun C q => ExcC K C ∧ PySem.W.kitOne K (.ref C) (.ref C_NoRow) = some q) (PySem.W.mg_of X G a_NoRatio) ⟨⟨eg_NoRatio, ek_NoRatio, s_NoRatio, ed_NoRatio, ea_NoRatio, en_, et_, em_NoRatio⟩, (kit_ref ed_NoRow y_NoRow qs_NoRatio_NoRow (.inr qn_NoRatio_NoRow))⟩ (tb_nil)
  tb_NoSize := fun D hD => by
      cases hD.symm.trans (PySem.W.mg_of X G a_NoSize)
      exact tb_cons (P := fun C q => ExcC K C ∧ PySem.W.kitOne K (.ref C) (.ref C_NoSize) = some q) (PySem.W.mg_of X G a_NoRatio) ⟨⟨eg_NoRatio, ek_NoRatio, s_NoRatio, ed_NoRatio, ea_NoRatio, en_, et_, em_NoRatio⟩, (kit_ref ed_NoSize y_NoSize qs_NoRatio_NoSize (.inr qn_NoRatio_NoSize))⟩ (tb_nil)
  tb_NoStretch := fun D hD => by
      cases hD.symm.trans (PySem.W.mg_of X G a_NoStretch)
      exact tb_cons (P := fun C q => ExcC K C ∧ PySem.W.kitOne K (.ref C) (.ref C_NoStretch) = some q) (PySem.W.mg_of X G a_NoRatio) ⟨⟨eg_NoRatio, ek_NoRatio, s_NoRatio, ed_NoRatio, ea_NoRatio, en_, et_, em_NoRatio⟩, (kit_ref ed_NoStretch y_NoStretch qs_NoRatio_NoStretch (.inr qn_NoRatio_NoStretch))⟩ (tb_nil)
  tb_NoTags := fun D hD => by
      cases hD.symm.trans (PySem.W.mg_of X G a_NoTags)
      exact tb_cons (P := fun C q => ExcC K C ∧ PySem.W.kitOne K (.ref C) (.ref C_NoTags) = some q) (PySem.W.mg_of X G a_NoRatio) ⟨⟨eg_NoRatio, ek_NoRatio, s_NoRatio, ed_NoRatio, ea_NoRatio, en_, et_, em_NoRatio⟩, (kit_ref ed_NoTags y_NoTags qs_NoRatio_NoTags (.inr qn_NoRatio_NoTags))⟩ (tb_nil)
  tb_NoText := fun D hD => by
      cases hD.symm.trans (PySem.W.mg_of X G a_NoText)
      exact tb_cons (P := fun C q => ExcC K C ∧ PySem.W.kitOne K (.ref C) (.ref C_NoText) = some q) (PySem.W.mg_of X G a_NoRatio) ⟨⟨eg_NoRatio, ek_NoRatio, s_NoRatio, ed_NoRatio, ea_NoRatio, en_, et_, em_NoRatio⟩, (kit_ref ed_NoText y_NoText qs_NoRatio_NoText (.inr qn_NoRatio_NoText))⟩ (tb_nil)
  tb_NoTime := fun D hD => by
      cases hD.symm.trans (PySem.W.mg_of X G a_NoTime)
      exact tb_cons (P := fun C q => ExcC K C ∧ PySem.W.kitOne K (.ref C) (.ref C_NoTime) = some q) (PySem.W.mg_of X G a_NoRatio) ⟨⟨eg_NoRatio, ek_NoRatio, s_NoRatio, ed_NoRatio, ea_NoRatio, en_, et_, em_NoRatio⟩, (kit_ref ed_NoTime y_NoTime qs_NoRatio_NoTime (.inr qn_NoRatio_NoTime))⟩ (tb_nil)
  tb_NoTruth := fun D hD => by
      cases hD.symm.trans (PySem.W.mg_of X G a_NoTruth)
      exact tb_cons (P := fun C q => ExcC K C ∧ PySem.W.kitOne K (.ref C) (.ref C_NoTruth) = some q) (PySem.W.mg_of X G a_NoRatio) ⟨⟨eg_NoRatio, ek_NoRatio, s_NoRatio, ed_NoRatio, ea_NoRatio, en_, et_, em_NoRatio⟩, (kit_ref ed_NoTruth y_NoTruth qs_NoRatio_NoTruth (.inr qn_NoRatio_NoTruth))⟩ (tb_nil)
  tb_NoWeight := fun D hD => by
      cases hD.symm.trans (PySem.W.mg_of X G a_NoWeight)
      exact tb_cons (P := fun C q => ExcC K C ∧ PySem.W.kitOne K (.ref C) (.ref C_NoWeight) = some q) (PySem.W.mg_of X G a_NoRatio) ⟨⟨eg_NoRatio, ek_NoRatio, s_NoRatio, ed_NoRatio, ea_NoRatio, en_, et_, em_NoRatio⟩, (kit_ref ed_NoWeight y_NoWeight qs_NoRatio_NoWeight (.inr qn_NoRatio_NoWeight))⟩ (tb_nil)
  tb_NoWord := fun D hD => by
      cases hD.symm.trans (PySem.W.mg_of X G a_NoWord)
      exact tb_cons (P := fun C q => ExcC K C ∧ PySem.W.kitOne K (.ref C) (.ref C_NoWord) = some q) (PySem.W.mg_of X G a_NoRatio) ⟨⟨eg_NoRatio, ek_NoRatio, s_NoRatio, ed_NoRatio, ea_NoRatio, en_, et_, em_NoRatio⟩, (kit_ref ed_NoWord y_NoWord qs_NoRatio_NoWord (.inr qn_NoRatio_NoWord))⟩ (tb_nil)
  tb_Nought := fun D hD => by
      cases hD.symm.trans (PySem.W.mg_of X G a_Nought)
      exact tb_cons (P := fun C q => ExcC K C ∧ PySem.W.kitOne K (.ref C) (.ref C_Nought) = some q) (PySem.W.mg_of X G a_NoRatio) ⟨⟨eg_NoRatio, ek_NoRatio, s_NoRatio, ed_NoRatio, ea_NoRatio, en_, et_, em_NoRatio⟩, (kit_ref ed_Nought y_Nought qs_NoRatio_Nought (.inr qn_NoRatio_Nought))⟩ (tb_nil)
  tb_Past := fun D hD => by
      cases hD.symm.trans (PySem.W.mg_of X G a_Past)
      exact tb_cons (P := fun C q => ExcC K C ∧ PySem.W.kitOne K (.ref C) (.ref C_Past) = some q) (PySem.W.mg_of X G a_NoRatio) ⟨⟨eg_NoRatio, ek_NoRatio, s_NoRatio, ed_NoRatio, ea_NoRatio, en_, et_, em_NoRatio⟩, (kit_ref ed_Past y_Past qs_NoRatio_Past (.inr qn_NoRatio_Past))⟩ (tb_nil)
  tb_ShareError := fun D hD => by
      cases hD.symm.trans (PySem.W.mg_of X G a_ShareError)
      exact tb_cons (P := fun C q => ExcC K C ∧ PySem.W.kitOne K (.ref C) (.ref C_ShareError) = some q) (PySem.W.mg_of X G a_NoRatio) ⟨⟨eg_NoRatio, ek_NoRatio, s_NoRatio, ed_NoRatio, ea_NoRatio, en_, et_, em_NoRatio⟩, (kit_ref ed_ShareError y_ShareError qs_NoRatio_ShareError (.inr qn_NoRatio_ShareError))⟩ (tb_nil)
  tb_Stands := fun D hD => by
      cases hD.symm.trans (PySem.W.mg_of X G a_Stands)
      exact tb_cons (P := fun C q => ExcC K C ∧ PySem.W.kitOne K (.ref C) (.ref C_Stands) = some q) (PySem.W.mg_of X G a_NoRatio) ⟨⟨eg_NoRatio, ek_NoRatio, s_NoRatio, ed_NoRatio, ea_NoRatio, en_, et_, em_NoRatio⟩, (kit_ref ed_Stands y_Stands qs_NoRatio_Stands (.inr qn_NoRatio_Stands))⟩ (tb_nil)
  tb_TagError := fun D hD => by
      cases hD.symm.trans (PySem.W.mg_of X G a_TagError)
      exact tb_cons (P := fun C q => ExcC K C ∧ PySem.W.kitOne K (.ref C) (.ref C_TagError) = some q) (PySem.W.mg_of X G a_NoRatio) ⟨⟨eg_NoRatio, ek_NoRatio, s_NoRatio, ed_NoRatio, ea_NoRatio, en_, et_, em_NoRatio⟩, (kit_ref ed_TagError y_TagError qs_NoRatio_TagError (.inl rfl))⟩ (tb_nil)
  tb_TooMany := fun D hD => by
      cases hD.symm.trans (PySem.W.mg_of X G a_TooMany)
      exact tb_cons (P := fun C q => ExcC K C ∧ PySem.W.kitOne K (.ref C) (.ref C_TooMany) = some q) (PySem.W.mg_of X G a_NoRatio) ⟨⟨eg_NoRatio, ek_NoRatio, s_NoRatio, ed_NoRatio, ea_NoRatio, en_, et_, em_NoRatio⟩, (kit_ref ed_TooMany y_TooMany qs_NoRatio_TooMany (.inr qn_NoRatio_TooMany))⟩ (tb_nil)
  tb_TooMuch := fun D hD => by
      cases hD.symm.trans (PySem.W.mg_of X G a_TooMuch)
      exact tb_cons (P := fun C q => ExcC K C ∧ PySem.W.kitOne K (.ref C) (.ref C_TooMuch) = some q) (PySem.W.mg_of X G a_NoRatio) ⟨⟨eg_NoRatio, ek_NoRatio, s_NoRatio, ed_NoRatio, ea_NoRatio, en_, et_, em_NoRatio⟩, (kit_ref ed_TooMuch y_TooMuch qs_NoRatio_TooMuch (.inr qn_NoRatio_TooMuch))⟩ (tb_nil)
  tb_ValueError := tb_cons (P := fun C q => ExcC K C ∧ PySem.W.kitOne K (.ref C) (.type "ValueError") = some q) (PySem.W.mg_of X G a_NoRatio) ⟨⟨eg_NoRatio, ek_NoRatio, s_NoRatio, ed_NoRatio, ea_NoRatio, en_, et_, em_NoRatio⟩, (kit_type (by decide +kernel) qs_NoRatio_ValueError)⟩ (tb_nil)
  tx_TagError := fun D hD => by
      cases hD.symm.trans (PySem.W.mg_of X G a_TagError)
      exact tb_cons (P := fun C q => PySem.W.exmOne K (.ref C) (.ref C_TagError) = some q) (PySem.W.mg_of X G a_NoRatio) (PySem.W.exm_ref s_TagError ed_TagError y_TagError qs_NoRatio_TagError) (tb_nil)
theorem all_mk {l : PySem.W.OpenLaw} {w : World} {K : PySem.W.Frag} {mg : Str → Option Value} {fa : Addr} (plain : ∀ ns : List Int, ns.length ≤ 63 → ∃ N S, m_law N [.scr (ns.map .int)] [] = .ok (.bl true) S) (hfa : mg "law" = some (.ref fa)) (T : Txt K mg) :
    ∃ fd : FuncData, (∀ (s : Shared) (v : Value), BindsTo s fd ⟨[v], []⟩ [("_law_script", v)]) ∧ ∀ base : Heap, K.In base → base.Ns mainGlobals mg → FnOk l.prog w K mg base (L2.CX l.prog w) 5 fa fd ["_law_script"] (spLaw K) := by
  obtain ⟨f, fd, g, F⟩ := T.f_law
  cases hfa.symm.trans g
  refine ⟨fd, ?_, fun base _ _ => law_ok (fun N => fm_law N T F) plain⟩
  obtain ⟨oc, od, kV, doc, pm, an, cdv, ct, osl, rfl, lk, hcd⟩ := F.ex
  exact fun s v => .of_eq rfl
theorem walk (plain : ∀ ns : List Int, ns.length ≤ 63 → ∃ N S, m_law N [.scr (ns.map .int)] [] = .ok (.bl true) S) {l : PySem.W.OpenLaw} {q : Program} {loose : List Str} {XP : (Str → Option Value) → Heap → Prop} {YP : World → Heap → Prop} {d : DefRec} {K : Params → PySem.W.Frag} (hn : l.most = some 63) (hdf : d.params.defaults = []) (hd : d.name = "law")
    (hY : ∀ (w : World) (h : Heap), YP w h → (K w.params).In h) (F : ∀ (w : World) (mg : Str → Option Value) (h : Heap), (K w.params).In h → h.Ns mainGlobals mg → Txt (K w.params) mg) :
    PySem.W.WalkO q loose XP YP l.row.toRowW d [] (fun f vs => PySem.call f vs) :=
  L2.walk_of (n := 63) (k := 5) (x := "_law_script") (CX := fun w => L2.CX l.prog w) (sp := fun w => spLaw (K w.params)) hn (by decide) hdf ⟨rfl, by decide, by decide⟩ hY
    (fun w mg fa h KX G hmg => all_mk plain (by rw [hd] at hmg; exact hmg) (F w mg h KX G)) (fun _ _ a ns hl _ hS => ⟨a, ns, rfl, hS, hl, fun _ => rfl⟩) fun _ _ _ _ _ z => by
      obtain ⟨_, _, _, _, _, _, _, _, _, _, _, _, z⟩ := z
      exact z
end Wk01

/-! ## I. the mirror reckons: equations -/
namespace G
open PySem
section
variable {β γ : Type} {e : En} {S S1 : Store} {a b c : EM} {t u : TM} {m n : SM} {am : AM} {x y d : D} {k : β → Store → Res γ}
@[simp] theorem bind_ok (z : β) : (Res.ok z S).bind k = k z S := rfl
@[simp] theorem bind_exc (z : D) : (Res.exc z S : Res β).bind k = .exc z S := rfl
@[simp] theorem bind_stuck : (Res.stuck : Res β).bind k = .stuck := rfl
@[simp] theorem lf_some_s (z : β) : lf (some z) S = .ok z S := rfl
@[simp] theorem lf_none_s : lf (none : Option β) S = .stuck := rfl
@[simp] theorem eC_s : eC d e S = .ok d S := rfl
def evR (o : Option (Option D)) (S : Store) : Res D := match o with
  | some (some d) => .ok d S
  | _ => .stuck
@[simp] theorem eVar_s (i : Nat) : eVar i e S = evR e[i]? S := rfl
@[simp] theorem evR_some : evR (some (some d)) S = .ok d S := rfl
@[simp] theorem eBin_s (f : D → D → Option D) : eBin f a b e S = (a e S).bind fun x S1 => (b e S1).bind fun y S2 => lf (f x y) S2 := rfl
@[simp] theorem eBinS_s (f : Store → D → D → Option D) : eBinS f a b e S = (a e S).bind fun x S1 => (b e S1).bind fun y S2 => lf (f S2 x y) S2 := rfl
def asB (x : D) (S : Store) : Res Bool := match x with
  | .bl b => .ok b S
  | _ => .stuck
@[simp] theorem asB_bl (z : Bool) : asB (.bl z) S = .ok z S := rfl
@[simp] theorem tB_s : tB a e S = (a e S).bind asB := rfl
@[simp] theorem tT_s : tT a e S = (a e S).bind fun x S1 => lf (truD S1 x) S1 := rfl
@[simp] theorem tNt_s : tNt t e S = (t e S).bind fun b S1 => .ok (!b) S1 := rfl
@[simp] theorem tAn_s : tAn t u e S = (t e S).bind fun b S1 => if b then u e S1 else .ok false S1 := rfl
@[simp] theorem tOr_s : tOr' t u e S = (t e S).bind fun b S1 => if b then .ok true S1 else u e S1 := rfl
@[simp] theorem eAn_s : eAn a b e S = (a e S).bind fun x S1 => (lf (truD S1 x) S1).bind fun k S2 => if k then b e S2 else .ok x S2 := rfl
@[simp] theorem eOr_s : eOr a b e S = (a e S).bind fun x S1 => (lf (truD S1 x) S1).bind fun k S2 => if k then .ok x S2 else b e S2 := rfl
@[simp] theorem eNt_s : eNt a e S = (a e S).bind fun x S1 => (lf (truD S1 x) S1).bind fun k S2 => .ok (.bl (!k)) S2 := rfl
@[simp] theorem eIf_s : eIf t a b e S = (t e S).bind fun k S1 => if k then a e S1 else b e S1 := rfl
def negR (x : D) (S : Store) : Res D := match x with
  | .int i => .ok (.int (-i)) S
  | _ => .stuck
@[simp] theorem negR_int (i : Int) : negR (.int i) S = .ok (.int (-i)) S := rfl
@[simp] theorem eNeg_s : eNeg a e S = (a e S).bind negR := rfl
@[simp] theorem aNil_s : aNil e S = .ok [] S := rfl
@[simp] theorem aCons_s : aCons a am e S = (a e S).bind fun x S1 => (am e S1).bind fun xs S2 => .ok (x :: xs) S2 := rfl
@[simp] theorem eTup_s : eTup am e S = (am e S).bind fun xs S1 => if xs.length ≤ sizeLine then .ok (.tup xs) S1 else .stuck := rfl
@[simp] theorem eLst_s : eLst am e S = (am e S).bind fun xs S1 => if xs.length ≤ sizeLine then .ok (.lst xs) S1 else .stuck := rfl
@[simp] theorem eNew_s : eNew am e S = (am e S).bind fun xs S1 => if xs.length ≤ sizeLine then .ok (.loc S1.length) (S1 ++ [.lst xs]) else .stuck := rfl
@[simp] theorem eCa_s (f : Store → List D → Option D) : eCa f am e S = (am e S).bind fun xs S1 => lf (f S1 xs) S1 := rfl
@[simp] theorem eCall_s (f : FM) : eCall f am e S = (am e S).bind f := rfl
@[simp] theorem nA_s (i : Nat) : nA i am e S = (am e S).bind fun ds S1 => if ds.length = i then .ok ds S1 else .stuck := rfl
@[simp] theorem eIsTy_s (z : Ty) : eIsTy z a e S = (a e S).bind fun x S1 => lf ((isTy S1 z x).map .bl) S1 := rfl
@[simp] theorem eIsC_s (tb : Nat → Option Bool) : eIsC tb a e S = (a e S).bind fun x S1 => lf ((isC tb x).map .bl) S1 := rfl
@[simp] theorem eMt_s (f : Store → D → List D → Option D) : eMt f a am e S = (a e S).bind fun x S1 => if (seqD S1 x).isSome then (am e S1).bind fun xs S2 => lf (f S2 x xs) S2 else .stuck := rfl
@[simp] theorem oNone_s : oNone e S = .ok none S := rfl
def oR (x : D) (S : Store) : Res (Option Int) := match x with
  | .int i => .ok (some i) S
  | _ => .stuck
@[simp] theorem oR_int (i : Int) : oR (.int i) S = .ok (some i) S := rfl
@[simp] theorem oSome_s : oSome a e S = (a e S).bind oR := rfl
@[simp] theorem eSl_s (l h : OM) : eSl a l h e S = (a e S).bind fun x S1 => (l e S1).bind fun i S2 => (h e S2).bind fun j S3 => lf (slD S3 x i j) S3 := rfl
@[simp] theorem eCallK_s (f : FM) (g : List D → List D → List D) (i j : Nat) (mk : AM) : eCallK f g i j am mk e S = (am e S).bind fun ds S1 => (mk e S1).bind fun zs S2 => if ds.length = i ∧ zs.length = j then f (g ds zs) S2 else .stuck := rfl
@[simp] theorem eCallK0_s (f : FM) (g : List D → List D → List D) (j : Nat) (mk : AM) : eCallK0 f g j mk e S = (mk e S).bind fun zs S2 => if zs.length = j then f (g [] zs) S2 else .stuck := rfl
@[simp] theorem sE_ok (z : β) (q : β → Store → SRes) : sE (.ok z S) e q = q z S := rfl
@[simp] theorem sE_exc (z : D) (q : β → Store → SRes) : sE (.exc z S) e q = .exc z e S := rfl
@[simp] theorem sE_stuck (q : β → Store → SRes) : sE .stuck e q = .stuck := rfl
@[simp] theorem sS_nxt : sS (.nxt e S) m = m e S := rfl
@[simp] theorem sS_ret : sS (.ret d S) m = .ret d S := rfl
@[simp] theorem sS_brk : sS (.brk e S) m = .brk e S := rfl
@[simp] theorem sS_cnt : sS (.cnt e S) m = .cnt e S := rfl
@[simp] theorem sS_exc : sS (.exc d e S) m = .exc d e S := rfl
@[simp] theorem sNop_s : sNop e S = .nxt e S := rfl
@[simp] theorem sSeq_s : sSeq m n e S = sS (m e S) n := rfl
@[simp] theorem sBrk_s : sBrk e S = .brk e S := rfl
@[simp] theorem sCnt_s : sCnt e S = .cnt e S := rfl
@[simp] theorem sDrop_s : sDrop a e S = sE (a e S) e fun _ S1 => .nxt e S1 := rfl
@[simp] theorem sRet_s : sRet a e S = sE (a e S) e fun d S1 => .ret d S1 := rfl
@[simp] theorem sRetN_s : sRetN e S = .ret .non S := rfl
@[simp] theorem sIf_s : sIf t m n e S = sE (t e S) e fun k S1 => if k then m e S1 else n e S1 := rfl
@[simp] theorem gN_s (i : Nat) : gN i d e S = .ok (e.set i (some d)) S := rfl
@[simp] theorem sAsg_s (g : GM) : sAsg a g e S = sE (a e S) e fun d S1 => sE (g d e S1) e fun e1 S2 => .nxt e1 S2 := rfl
@[simp] theorem sSet_s (i : Nat) : sSet i a e S = sE (a e S) e fun d S1 => .nxt (e.set i (some d)) S1 := rfl
def parR (i j : Nat) (e : En) (ds : List D) (S : Store) : SRes := match ds with
  | [x, y] => .nxt ((e.set i (some x)).set j (some y)) S
  | _ => .stuck
@[simp] theorem parR_s (i j : Nat) : parR i j e [x, y] S = .nxt ((e.set i (some x)).set j (some y)) S := rfl
@[simp] theorem sPar_s (i j : Nat) : sPar i j am e S = sE (am e S) e (parR i j e) := rfl
@[simp] theorem sRaise_s (i : Nat) : sRaise i e S = .exc (.exc i []) e S := rfl
def fnEnd : SRes → Res D
  | .nxt _ S' => .ok .non S'
  | .ret d S' => .ok d S'
  | .exc x _ S' => .exc x S'
  | _ => .stuck
@[simp] theorem fnEnd_nxt : fnEnd (.nxt e S) = .ok .non S := rfl
@[simp] theorem fnEnd_ret : fnEnd (.ret d S) = .ok d S := rfl
@[simp] theorem fnEnd_exc : fnEnd (.exc d e S) = .exc d S := rfl
theorem fnM_s (i : Nat) (ds : List D) : fnM i m ds S = fnEnd (m (enOf i ds) S) := by
  unfold fnM fnEnd
  cases m (enOf i ds) S <;> rfl
@[simp] theorem enOf_s (i : Nat) (ds : List D) : enOf i ds = ds.map some ++ List.replicate (i - ds.length) none := rfl
@[simp] theorem cmpI_s (f : Int → Int → Bool) (i j : Int) : cmpI f (.int i) (.int j) = some (.bl (f i j)) := rfl
@[simp] theorem dAdd_int (i j : Int) : dAdd (.int i) (.int j) = some (.int (i + j)) := rfl
@[simp] theorem dSub_int (i j : Int) : dSub (.int i) (.int j) = some (.int (i - j)) := rfl
theorem dMul_int {i j : Int} (h : mulOk i j = true) : dMul (.int i) (.int j) = some (.int (i * j)) := by
  show (if mulOk i j = true then some (D.int (i * j)) else none) = _
  rw [if_pos h]
theorem dDiv_int {i j : Int} (h : divOk j = true) : dDiv (.int i) (.int j) = some (.int (i.fdiv j)) := by
  show (if divOk j = true then some (D.int (i.fdiv j)) else none) = _
  rw [if_pos h]
theorem dMod_int {i j : Int} (h : j ≠ 0) : dMod (.int i) (.int j) = some (.int (i.fmod j)) := by
  show (if j = 0 then none else some (D.int (i.fmod j))) = _
  rw [if_neg h]
@[simp] theorem dEq_int (i j : Int) : dEq (.int i) (.int j) = some (.bl (i == j)) := rfl
@[simp] theorem dNe_int (i j : Int) : dNe (.int i) (.int j) = some (.bl (!(i == j))) := rfl
@[simp] theorem dEq_bl (i j : Bool) : dEq (.bl i) (.bl j) = some (.bl (i == j)) := rfl
@[simp] theorem truD_bl (z : Bool) : truD S (.bl z) = some z := rfl
@[simp] theorem isTy_int (z : Ty) (i : Int) : isTy S z (.int i) = some (Tn.is .int z) := rfl
@[simp] theorem isTy_bl (z : Ty) (i : Bool) : isTy S z (.bl i) = some (Tn.is .bool z) := rfl
@[simp] theorem isTy_tup (z : Ty) (l : List D) : isTy S z (.tup l) = some (Tn.is .tuple z) := rfl
@[simp] theorem fLen_tup (l : List D) : fLen S [.tup l] = some (.int l.length) := rfl
@[simp] theorem fLen_scr (l : List D) : fLen S [.scr l] = some (.int l.length) := rfl
@[simp] theorem fLen_lst (l : List D) : fLen S [.lst l] = some (.int l.length) := rfl
@[simp] theorem fAbs_int (i : Int) : fAbs S [.int i] = some (.int (if i < 0 then -i else i)) := rfl
@[simp] theorem fMax_int (i j : Int) : fMax S [.int i, .int j] = some (.int (if j > i then j else i)) := rfl
@[simp] theorem fMin_int (i j : Int) : fMin S [.int i, .int j] = some (.int (if j < i then j else i)) := rfl
@[simp] theorem ixD_tup (l : List D) (i : Int) : ixD S (.tup l) (.int i) = L2.atI l i := rfl
@[simp] theorem ixD_lst (l : List D) (i : Int) : ixD S (.lst l) (.int i) = L2.atI l i := rfl
@[simp] theorem ixD_scr (l : List D) (i : Int) : ixD S (.scr l) (.int i) = L2.atI l i := rfl
theorem ixD_loc {j : Nat} {l : List D} (i : Int) (h : S[j]? = some (.lst l)) : ixD S (.loc j) (.int i) = L2.atI l i := by
  show (match S[j]? with
    | some (.lst l) => L2.atI l i
    | _ => none) = _
  rw [h]
end
theorem line_ge {n : Nat} (h : n ≤ 1000) : n ≤ sizeLine := Nat.le_trans h (by decide)
/-- small numbers may be multiplied -/
theorem log2_lt {x n : Nat} (h : x < 2 ^ n) (hn : 0 < n) : x.log2 < n := PySem.Flt.log2_lt_of hn h
theorem mul_ok {i j : Int} {a b : Nat} (hi : i.natAbs < 2 ^ a) (hj : j.natAbs < 2 ^ b) (h0 : 0 < a) (h1 : 0 < b) (h : a + b ≤ 1000000) : mulOk i j = true := by
  have x := log2_lt hi h0
  have y := log2_lt hj h1
  unfold mulOk
  exact decide_eq_true (by omega)
theorem div_ok {j : Int} {b : Nat} (hz : j ≠ 0) (hj : j.natAbs < 2 ^ b) (h1 : 0 < b) (h : b ≤ 9000) : divOk j = true := by
  have y := log2_lt hj h1
  unfold divOk
  rw [Bool.and_eq_true]
  exact ⟨by simpa using hz, decide_eq_true (by omega)⟩
end G

namespace G
open PySem
@[simp] theorem noX_ok {β : Type} (z : β) (S : Store) : noX (.ok z S) = .ok z S := rfl
def setR (o : Option Store) (e : En) : Res En := match o with
  | some S3 => .ok e S3
  | none => .stuck
@[simp] theorem setR_some (S : Store) (e : En) : setR (some S) e = .ok e S := rfl
@[simp] theorem gSb_s (o i : EM) (d : D) (e : En) (S : Store) : gSb o i d e S = (noX (o e S)).bind fun x S1 => (noX (i e S1)).bind fun y S2 => setR (setD S2 x y d) e := by
  unfold gSb setR
  congr 1
theorem setD_loc {S : Store} {n j : Nat} {l : List D} {k : Int} (d : D) (h : S[n]? = some (.lst l)) (hj : L2.ixN l.length k = some j) : setD S (.loc n) (.int k) d = some (S.set n (.lst (l.set j d))) := by
  show (match S[n]? with
    | some (.lst l) => (L2.ixN l.length k).map fun j => S.set n (.lst (l.set j d))
    | _ => none) = _
  rw [h]
  show (L2.ixN l.length k).map _ = _
  rw [hj]
  rfl
@[simp] theorem gsNil_s (e : En) (S : Store) : gsNil [] e S = .ok e S := rfl
@[simp] theorem gsCons_s (g : GM) (r : GMs) (d : D) (ds : List D) (e : En) (S : Store) : gsCons' g r (d :: ds) e S = (noX (g d e S)).bind fun e1 S1 => noX (r ds e1 S1) := rfl
@[simp] theorem gTp_s (n : Nat) (r : GMs) (ds : List D) (e : En) (S : Store) : gTp n r (.tup ds) e S = if ds.length = n then r ds e S else .stuck := rfl
theorem fDivmod_s {i j : Int} (S : Store) (h : 0 < j ∧ j < 1073741824) : fDivmod S [.int i, .int j] = some (.tup [.int (i / j), .int (i % j)]) := by
  show (if 0 < j ∧ j < 1073741824 then some (D.tup [.int (i / j), .int (i % j)]) else none) = _
  rw [if_pos h]
@[simp] theorem at3_0 {α : Type} (x y z : α) : L2.atI [x, y, z] (0 : Int) = some x := rfl
@[simp] theorem at3_1 {α : Type} (x y z : α) : L2.atI [x, y, z] (1 : Int) = some y := rfl
@[simp] theorem at3_2 {α : Type} (x y z : α) : L2.atI [x, y, z] (2 : Int) = some z := rfl
end G
namespace Wk01
open PySem G
/-- a pool stands at n -/
structure Pool (S : Store) (n : Nat) (c : Int) : Prop where
  ex : ∃ a b : Int, S[n]? = some (.lst [.int a, .int b, .int c]) ∧ 0 ≤ a ∧ a < 2147483477 ∧ 0 ≤ b
theorem take_ok (N : Nat) {S : Store} {n : Nat} {c many : Int} (P : Pool S n c) (hc : 0 ≤ c) (hc2 : c < 1000000) (hm : 0 < many) (hm2 : many < 1073741824) :
    ∃ d S', m__law_take N [.loc n, .int many] S = .ok (.int d) S' ∧ 0 ≤ d ∧ d < many ∧ Pool S' n (c + 1) := by
  obtain ⟨a, b, h, ha, ha2, hb⟩ := P.ex
  have hn : n < S.length := (List.getElem?_eq_some_iff.mp h).1
  have get : ∀ X : Cell, (S.set n X)[n]? = some X := fun X => by rw [List.getElem?_set_self hn]
  have m1 : mulOk a (a.fmod 44017 + 30029) = true := by
    have e : a.fmod 44017 = a % 44017 := Int.fmod_eq_emod_of_nonneg a (by omega)
    exact mul_ok (a := 32) (b := 32) (by omega) (by omega) (by omega) (by omega) (by omega)
  have m2 : mulOk 80021 (c + 1) = true := mul_ok (a := 32) (b := 32) (by omega) (by omega) (by omega) (by omega) (by omega)
  obtain ⟨a', ea⟩ : ∃ a', a' = (a * (a.fmod 44017 + 30029) + 80021 * (c + 1)).fmod 2147483477 := ⟨_, rfl⟩
  have e' : a' = (a * (a.fmod 44017 + 30029) + 80021 * (c + 1)) % 2147483477 := by rw [ea]; exact Int.fmod_eq_emod_of_nonneg _ (by omega)
  have ha1 : 0 ≤ a' := by rw [e']; exact Int.emod_nonneg _ (by omega)
  have ha3 : a' < 2147483477 := by rw [e']; exact Int.emod_lt_of_pos _ (by omega)
  by_cases hb0 : 0 < b
  · refine ⟨b % many, S.set n (.lst [.int a', .int (b / many), .int (c + 1)]), ?_, Int.emod_nonneg _ (by omega), Int.emod_lt_of_pos _ hm, ⟨a', b / many, get _, ha1, ha3, Int.ediv_nonneg hb (by omega)⟩⟩
    simp [m__law_take, fnM_s, b__law_take, ixD_loc _ h, ixD_loc _ (get (.lst _)), setD_loc (j := 2) (k := 2) _ h rfl, setD_loc (j := 0) (k := 0) _ (get (.lst [_, _, _])) rfl, setD_loc (j := 1) (k := 1) _ (get (.lst [_, _, _])) rfl, dMul_int m1, dMul_int m2, dMod_int, hb0, fDivmod_s _ ⟨hm, hm2⟩, ← ea]
  · refine ⟨(a'.fdiv 64).fmod many, S.set n (.lst [.int a', .int b, .int (c + 1)]), ?_, ?_, ?_, ⟨a', b, get _, ha1, ha3, hb⟩⟩
    · simp [m__law_take, fnM_s, b__law_take, ixD_loc _ h, ixD_loc _ (get (.lst _)), setD_loc (j := 2) (k := 2) _ h rfl, setD_loc (j := 0) (k := 0) _ (get (.lst [_, _, _])) rfl, dMul_int m1, dMul_int m2, dMod_int, hb0, ← ea, dDiv_int (j := 64) (by decide), dMod_int (j := many) (by omega)]
    · rw [Int.fmod_eq_emod_of_nonneg _ (by omega)]; exact Int.emod_nonneg _ (by omega)
    · rw [Int.fmod_eq_emod_of_nonneg _ (by omega)]; exact Int.emod_lt_of_pos _ hm
end Wk01

namespace G
open PySem
theorem dAdd_lst {l m : List D} (h : l.length + m.length ≤ 1000) : dAdd (.lst l) (.lst m) = some (.lst (l ++ m)) := by
  show (if l.length + m.length ≤ sizeLine then some (D.lst (l ++ m)) else none) = _
  rw [if_pos (line_ge h)]
theorem lc_map {g : Tg} {m : EM} {e : En} {f : D → D} {S : Store} : ∀ (ds acc : List D), acc.length + ds.length ≤ 1000 → (∀ d, d ∈ ds → ∃ e1, g.m d e = some e1 ∧ m e1 S = .ok (f d) S) → lcR g tTrue m e ds acc S = .ok (acc ++ ds.map f) S
  | [], acc, _, _ => by simp [lcR]
  | d :: ds, acc, hl, h => by
    obtain ⟨e1, h1, h2⟩ := h d List.mem_cons_self
    rw [List.length_cons] at hl
    have ih := lc_map (g := g) (m := m) (e := e) (f := f) (S := S) ds (acc ++ [f d]) (by rw [List.length_append]; simp only [List.length_cons, List.length_nil]; omega) fun d' hd => h d' (List.mem_cons_of_mem _ hd)
    unfold lcR
    rw [h1]
    show ((noX (tTrue e1 S)).bind fun b S2 => if b = true then (noX (m e1 S2)).bind fun y S3 => if acc.length < sizeLine then lcR g tTrue m e ds (acc ++ [y]) S3 else .stuck else lcR g tTrue m e ds acc S2) = _
    show ((noX (m e1 S)).bind fun y S3 => if acc.length < sizeLine then lcR g tTrue m e ds (acc ++ [y]) S3 else .stuck) = _
    rw [h2]
    show (if acc.length < sizeLine then lcR g tTrue m e ds (acc ++ [f d]) S else .stuck) = _
    have hs : sizeLine = 16777216 := sizeLine_eq
    rw [if_pos (by omega), ih, List.append_assoc]
    rfl
theorem rg1_ok {m : AM} {e : En} {S S' : Store} {j : Int} (h : m e S = .ok [.int j] S') (hb : -(2 ^ 62) ≤ j ∧ j < 2 ^ 62) : iRg1 m e S = .ok (rangeD 0 j.toNat) S' := by
  unfold iRg1
  rw [h, bind_ok]
  dsimp only
  rw [if_pos hb]
theorem cutL_map {α β : Type} (f : α → β) (l : List α) (lo hi : Option Int) : cutL (l.map f) lo hi = (cutL l lo hi).map f := by
  unfold cutL
  rw [List.length_map, List.map_take, List.map_drop]
end G
namespace Wk01
open PySem G
/-! the pool's numbers -/
theorem pool_ok (N : Nat) (x : Int) (S : Store) : ∃ S', m__law_pool N [.int x] S = .ok (.loc S.length) S' ∧ Pool S' S.length 0 := by
  have hm : (2147483477 : Int) ≠ 0 := by omega
  have e1 : x.fmod 2147483477 = x % 2147483477 := Int.fmod_eq_emod_of_nonneg _ (by omega)
  have g : ∀ X : Cell, (S ++ [X])[S.length]? = some X := fun X => by simp
  by_cases h : x < 0
  · refine ⟨S ++ [.lst [.int (x.fmod 2147483477), .int (-x), .int 0]], ?_, ⟨_, _, g _, ?_, ?_, by omega⟩⟩
    · simp [m__law_pool, fnM_s, b__law_pool, h, dMod_int, sizeLine_eq]
    · rw [e1]; exact Int.emod_nonneg _ hm
    · rw [e1]; exact Int.emod_lt_of_pos _ (by omega)
  · by_cases h2 : (1000000000000000000 : Int) ≤ x
    · refine ⟨S ++ [.lst [.int (x.fmod 2147483477), .int x, .int 0]], ?_, ⟨_, _, g _, ?_, ?_, by omega⟩⟩
      · have ep : dPow (.int 10) (.int 18) = some (.int (10 ^ 18)) := rfl
        simp [m__law_pool, fnM_s, b__law_pool, h, ep, h2, dMod_int, sizeLine_eq]
      · rw [e1]; exact Int.emod_nonneg _ hm
      · rw [e1]; exact Int.emod_lt_of_pos _ (by omega)
    · refine ⟨S ++ [.lst [.int (x.fmod 2147483477), .int 0, .int 0]], ?_, ⟨_, _, g _, ?_, ?_, by omega⟩⟩
      · have ep : dPow (.int 10) (.int 18) = some (.int (10 ^ 18)) := rfl
        simp [m__law_pool, fnM_s, b__law_pool, h, ep, h2, dMod_int, sizeLine_eq]
      · rw [e1]; exact Int.emod_nonneg _ hm
      · rw [e1]; exact Int.emod_lt_of_pos _ (by omega)
/-! a cell of the script -/
theorem cell_loop (N : Nat) (a b : Option D) : ∀ (is : List Int) (st : Int) (z : Option D) (S : Store), 0 ≤ st → st < 2147483477 →
    ∃ st' z', fiR (gN 3) (sSet 2 (eBin dMod (eBin dAdd (eBin dMul (eVar 2) (eC (.int 48017))) (eVar 3)) (eC (.int 2147483477)))) (is.map D.int) [a, b, some (.int st), z] S = .nxt [a, b, some (.int st'), z'] S ∧ 0 ≤ st' ∧ st' < 2147483477
  | [], st, z, S, h1, h2 => ⟨st, z, rfl, h1, h2⟩
  | i :: is, st, z, S, h1, h2 => by
    have m1 : mulOk st 48017 = true := mul_ok (a := 32) (b := 32) (by omega) (by omega) (by omega) (by omega) (by omega)
    have e1 : (st * 48017 + i).fmod 2147483477 = (st * 48017 + i) % 2147483477 := Int.fmod_eq_emod_of_nonneg _ (by omega)
    obtain ⟨st', z', h, h3, h4⟩ := cell_loop N a b is ((st * 48017 + i).fmod 2147483477) (some (.int i)) S (by rw [e1]; exact Int.emod_nonneg _ (by omega)) (by rw [e1]; exact Int.emod_lt_of_pos _ (by omega))
    refine ⟨st', z', ?_, h3, h4⟩
    rw [List.map_cons]
    unfold fiR
    simp [dMul_int m1, dMod_int]
    exact h
theorem cell_ok (N : Nat) (ns : List Int) (k : Int) (S : Store) (h0 : 0 ≤ k) (h1 : k ≤ 64) : ∃ x, m__law_cell N [.scr (ns.map .int), .int k] S = .ok (.int x) S := by
  by_cases h : k < ns.length
  · have hk : k.toNat < ns.length := by omega
    refine ⟨ns[k.toNat], ?_⟩
    have e : L2.atI (ns.map D.int) k = some (.int ns[k.toNat]) := by
      unfold L2.atI L2.ixN
      rw [List.length_map, if_pos h0, if_pos h]
      show (ns.map D.int)[k.toNat]? = _
      rw [List.getElem?_map, List.getElem?_eq_getElem hk]
      rfl
    simp [m__law_cell, fnM_s, b__law_cell, h, e]
  · have m1 : mulOk k k = true := mul_ok (a := 32) (b := 32) (by omega) (by omega) (by omega) (by omega) (by omega)
    have m2 : mulOk 5 k = true := mul_ok (a := 32) (b := 32) (by omega) (by omega) (by omega) (by omega) (by omega)
    have hkk : 0 ≤ k * k ∧ k * k ≤ 4096 := by
      have : k.toNat * k.toNat ≤ 64 * 64 := Nat.mul_le_mul (by omega) (by omega)
      have e : (k.toNat : Int) = k := by omega
      have e2 : ((k.toNat * k.toNat : Nat) : Int) = k * k := by rw [Int.natCast_mul, e]
      omega
    have m3 : mulOk 60013 (k * k + 5 * k + 11) = true := mul_ok (a := 32) (b := 32) (by omega) (by omega) (by omega) (by omega) (by omega)
    have e1 : (60013 * (k * k + 5 * k + 11)).fmod 2147483477 = (60013 * (k * k + 5 * k + 11)) % 2147483477 := Int.fmod_eq_emod_of_nonneg _ (by omega)
    obtain ⟨st', z', hl, _, _⟩ := cell_loop N (some (.scr (ns.map .int))) (some (.int k)) (cutL ns none (some 3)) ((60013 * (k * k + 5 * k + 11)).fmod 2147483477) none S (by rw [e1]; exact Int.emod_nonneg _ (by omega)) (by rw [e1]; exact Int.emod_lt_of_pos _ (by omega))
    refine ⟨st', ?_⟩
    have es : slD S (.scr (ns.map D.int)) none (some 3) = some (.lst ((cutL ns none (some 3)).map D.int)) := by
      show some (D.lst (cutL (ns.map D.int) none (some 3))) = _
      rw [cutL_map]
    have ei : ∀ (m : EM) (e : En) (l : List D), m e S = .ok (.lst l) S → iSeq m e S = .ok l S := fun m e l hm => by unfold iSeq; rw [hm]; rfl
    simp [m__law_cell, fnM_s, b__law_cell, h, dMul_int m1, dMul_int m2, dMul_int m3, dMod_int, sFor]
    rw [ei _ _ ((cutL ns none (some 3)).map D.int) (by simp [es])]
    simp [hl]
/-! a drawn number -/
theorem num_loop (N : Nat) (n : Nat) (wy : Option D) : ∀ (ks : List Int) (i : Nat) (got c : Int) (z : Option D) (S : Store), Pool S n c → 0 ≤ c → c + ks.length ≤ 1000 → 0 ≤ got → got < 2 ^ (20 * i) → i + ks.length ≤ 6 →
    ∃ got' z' S', fiR (gN 3) (sSet 2 (eBin dAdd (eBin dMul (eVar 2) (eC (.int 1000003))) (eCall (m__law_take N) (nA 2 (aCons (eVar 0) (aCons (eC (.int 1000003)) aNil)))))) (ks.map D.int) [some (.loc n), wy, some (.int got), z] S = .nxt [some (.loc n), wy, some (.int got'), z'] S' ∧
      0 ≤ got' ∧ got' < 2 ^ 120 ∧ Pool S' n (c + ks.length)
  | [], i, got, c, z, S, P, hc, hc2, h0, h1, hi => by
    refine ⟨got, z, S, rfl, h0, ?_, by simpa using P⟩
    have : (2 : Int) ^ (20 * i) ≤ 2 ^ 120 := by
      have h : (2 : Nat) ^ (20 * i) ≤ 2 ^ 120 := Nat.pow_le_pow_right (by omega) (by simp only [List.length_nil] at hi; omega)
      exact_mod_cast h
    omega
  | k :: ks, i, got, c, z, S, P, hc, hc2, h0, h1, hi => by
    simp only [List.length_cons] at hc2 hi
    obtain ⟨d, S1, ht, hd0, hd1, P1⟩ := take_ok N P hc (by omega) (many := 1000003) (by omega) (by omega)
    have hg : (2 : Int) ^ (20 * i) ≤ 2 ^ 120 := by
      have h : (2 : Nat) ^ (20 * i) ≤ 2 ^ 120 := Nat.pow_le_pow_right (by omega) (by omega)
      exact_mod_cast h
    have m1 : mulOk got 1000003 = true := mul_ok (a := 121) (b := 32) (by omega) (by omega) (by omega) (by omega) (by omega)
    have hb : got * 1000003 + d < 2 ^ (20 * (i + 1)) := by
      have e : (2 : Int) ^ (20 * (i + 1)) = 2 ^ (20 * i) * 1048576 := by
        rw [Nat.mul_add, Int.pow_add]; rfl
      rw [e]
      generalize (2 : Int) ^ (20 * i) = q at *
      omega
    obtain ⟨got', z', S', h, h2, h3, P2⟩ := num_loop N n wy ks (i + 1) (got * 1000003 + d) (c + 1) (some (.int k)) S1 P1 (by omega) (by omega) (by omega) hb (by omega)
    refine ⟨got', z', S', ?_, h2, h3, ?_⟩
    · rw [List.map_cons]
      unfold fiR
      simp [dMul_int m1, ht]
      exact h
    · have e : c + 1 + (ks.length : Int) = c + ((k :: ks).length : Int) := by simp only [List.length_cons]; omega
      rw [← e]; exact P2
theorem rangeD_ints (n : Nat) : rangeD 0 n = ((List.range n).map fun k => ((k : Nat) : Int)).map D.int := by
  unfold rangeD
  rw [List.map_map]
  congr 1
  funext k
  simp
theorem number_ok (N : Nat) {S : Store} {n : Nat} {c : Int} (P : Pool S n c) (hc : 0 ≤ c) (hc2 : c ≤ 500) : ∃ v S' c', m__law_number N [.loc n] S = .ok (.int v) S' ∧ v.natAbs < 2 ^ 121 ∧ Pool S' n c' ∧ c ≤ c' ∧ c' ≤ c + 20 := by
  obtain ⟨w, S1, t1, w0, w1, P1⟩ := take_ok N P hc (by omega) (many := 8) (by omega) (by omega)
  obtain ⟨x, S2, t2, x0, x1, P2⟩ := take_ok N P1 (by omega) (by omega) (many := 97) (by omega) (by omega)
  obtain ⟨y, S3, t3, y0, y1, P3⟩ := take_ok N P2 (by omega) (by omega) (many := 13) (by omega) (by omega)
  have em : w.fmod 4 = w % 4 := Int.fmod_eq_emod_of_nonneg _ (by omega)
  obtain ⟨v0, hv0, hb0⟩ : ∃ v0, L2.atI [D.int 0, D.int 1, D.int x, D.int y] (w.fmod 4) = some (.int v0) ∧ 0 ≤ v0 ∧ v0 < 97 := by
    rw [em]
    have h4 : w % 4 = 0 ∨ w % 4 = 1 ∨ w % 4 = 2 ∨ w % 4 = 3 := by omega
    rcases h4 with h | h | h | h <;> rw [h]
    · exact ⟨0, rfl, by omega, by omega⟩
    · exact ⟨1, rfl, by omega, by omega⟩
    · exact ⟨x, rfl, by omega, by omega⟩
    · exact ⟨y, rfl, by omega, by omega⟩
  have last : ∀ (v : Int) (S : Store) (c' : Int), v.natAbs < 2 ^ 120 → Pool S n c' → 0 ≤ c' → c' ≤ 600 → ∃ v' S', (∀ (a b z : Option D), sRet (eBin dMul (eVar 2) (eBinS ixD (eLst (aCons (eC (.int 1)) (aCons (eNeg (eC (.int 1))) aNil))) (eCall (m__law_take N) (nA 2 (aCons (eVar 0) (aCons (eC (.int 2)) aNil)))))) [some (.loc n), b, some (.int v), z] S = .ret (.int v') S') ∧ v'.natAbs < 2 ^ 121 ∧ Pool S' n (c' + 1) := by
    intro v S c' hv Pv h0 h1
    obtain ⟨s, S4, t4, s0, s1, P4⟩ := take_ok N Pv h0 (by omega) (many := 2) (by omega) (by omega)
    have hs : s = 0 ∨ s = 1 := by omega
    rcases hs with rfl | rfl
    · have m1 : mulOk v 1 = true := mul_ok (a := 120) (b := 32) hv (by omega) (by omega) (by omega) (by omega)
      have ea : L2.atI [D.int 1, D.int (-1)] 0 = some (.int 1) := rfl
      exact ⟨v * 1, S4, fun a b z => by simp [t4, sizeLine_eq, ea, dMul_int m1], by omega, P4⟩
    · have m1 : mulOk v (-1) = true := mul_ok (a := 120) (b := 32) hv (by omega) (by omega) (by omega) (by omega)
      have ea : L2.atI [D.int 1, D.int (-1)] 1 = some (.int (-1)) := rfl
      exact ⟨v * -1, S4, fun a b z => by simp [t4, sizeLine_eq, ea, dMul_int m1], by omega, P4⟩
  by_cases hw : 3 < w
  · obtain ⟨k, hk, hk0⟩ : ∃ k : Nat, L2.atI [D.int 1, D.int 2, D.int 4, D.int 6] (w - 4) = some (.int k) ∧ k ≤ 6 := by
      have h4 : w - 4 = 0 ∨ w - 4 = 1 ∨ w - 4 = 2 ∨ w - 4 = 3 := by omega
      rcases h4 with h | h | h | h <;> rw [h]
      · exact ⟨1, rfl, by omega⟩
      · exact ⟨2, rfl, by omega⟩
      · exact ⟨4, rfl, by omega⟩
      · exact ⟨6, rfl, by omega⟩
    obtain ⟨got, z, S5, hl, hg0, hg1, P5⟩ := num_loop N n (some (.int w)) ((List.range k).map fun k => ((k : Nat) : Int)) 0 0 (c + 1 + 1 + 1) none S3 P3 (by omega) (by simp; omega) (by omega) (by omega) (by simp; omega)
    obtain ⟨v', S6, hr, hv, P6⟩ := last got S5 _ (by omega) P5 (by simp; omega) (by simp; omega)
    refine ⟨v', S6, _, ?_, hv, P6, by simp; omega, by simp; omega⟩
    have hrg : ∀ (m : AM) (e : En) (S : Store), m e S = .ok [.int (k : Int)] S → iRg1 m e S = .ok (((List.range k).map fun k => ((k : Nat) : Int)).map D.int) S := fun m e S hm => by
      have hb : -(2 ^ 62) ≤ (k : Int) ∧ (k : Int) < 2 ^ 62 := by omega
      rw [rg1_ok hm hb, Int.toNat_natCast, rangeD_ints]
    simp [m__law_number, fnM_s, b__law_number, t1, t2, t3, dMod_int, hv0, hw, sizeLine_eq, sFor]
    rw [hrg _ _ _ (by simp [sizeLine_eq, hk])]
    simp only [sE_ok]
    rw [hl]
    simp only [sS_nxt]
    rw [hr none]
    rfl
  · obtain ⟨v', S6, hr, hv, P6⟩ := last v0 S3 _ (by omega) P3 (by omega) (by omega)
    refine ⟨v', S6, _, ?_, hv, P6, by omega, by omega⟩
    simp [m__law_number, fnM_s, b__law_number, t1, t2, t3, dMod_int, hv0, hw, sizeLine_eq, -sRet_s]
    rw [hr none]
    rfl
end Wk01

namespace G
open PySem
def gI (a b : Int) : Int := (Nat.gcd a.natAbs b.natAbs : Nat)
theorem gI_pos {a b : Int} (h : b ≠ 0) : 0 < gI a b := by
  have : 0 < Nat.gcd a.natAbs b.natAbs := Nat.gcd_pos_of_pos_right _ (by omega)
  unfold gI; omega
theorem gI_l (a b : Int) : gI a b ∣ a := by
  unfold gI
  exact Int.ofNat_dvd_left.mpr (Nat.gcd_dvd_left _ _)
theorem gI_r (a b : Int) : gI a b ∣ b := by
  unfold gI
  exact Int.ofNat_dvd_left.mpr (Nat.gcd_dvd_right _ _)
theorem gI_congr {a b c d : Int} (h1 : a.natAbs = c.natAbs) (h2 : b.natAbs = d.natAbs) : gI a b = gI c d := by unfold gI; rw [h1, h2]
theorem gI_abs (a b : Int) : gI (if a < 0 then -a else a) b = gI a b := gI_congr (by split <;> omega) rfl
theorem gI_le {a b : Int} (h : b ≠ 0) : (gI a b).natAbs ≤ b.natAbs := by
  have : Nat.gcd a.natAbs b.natAbs ≤ b.natAbs := Nat.gcd_le_right _ (by omega)
  unfold gI; omega
theorem gI_step {a b : Int} (ha : 0 ≤ a) (hb : 0 ≤ b) : gI b (a % b) = gI a b := by
  unfold gI
  have : (a % b).natAbs = a.natAbs % b.natAbs := by rw [Int.natAbs_emod_of_nonneg ha]
  rw [this, Nat.gcd_comm a.natAbs b.natAbs, Nat.gcd_rec b.natAbs a.natAbs, Nat.gcd_comm]
/-- the ratio's top and bottom -/
def rp (t b : Int) : Int := if b < 0 then (0 - t) / gI t b else t / gI t b
def rq (t b : Int) : Int := if b < 0 then (0 - b) / gI t b else b / gI t b
theorem rq_pos {t b : Int} (h : b ≠ 0) : 0 < rq t b := by
  have hg := gI_pos (a := t) h
  obtain ⟨k, hk⟩ := gI_r t b
  unfold rq
  generalize gI t b = g at *
  subst hk
  split
  · rw [show (0 : Int) - g * k = g * (-k) by rw [Int.mul_neg]; omega, Int.mul_ediv_cancel_left _ (by omega)]
    rename_i hn
    have : ¬ 0 ≤ k := fun hk => by have := Int.mul_nonneg (Int.le_of_lt hg) hk; omega
    omega
  · rw [Int.mul_ediv_cancel_left _ (by omega)]
    rename_i hn
    have h0 : k ≠ 0 := fun z => by subst z; simp at h
    have : ¬ k < 0 := fun hk => by have := Int.mul_neg_of_pos_of_neg hg hk; omega
    omega
theorem r_low {t b : Int} (h : b ≠ 0) : gI (rp t b) (rq t b) = 1 := by
  have hg := gI_pos (a := t) h
  have e1 : (rp t b).natAbs = t.natAbs / Nat.gcd t.natAbs b.natAbs := by
    obtain ⟨k, hk⟩ := gI_l t b
    have hn : (gI t b).natAbs = Nat.gcd t.natAbs b.natAbs := by unfold gI; omega
    rw [← hn]
    unfold rp
    generalize gI t b = g at *
    subst hk
    have hgn : 0 < g.natAbs := by omega
    rw [Int.natAbs_mul, Nat.mul_div_cancel_left _ hgn]
    split
    · rw [show (0 : Int) - g * k = g * (-k) by rw [Int.mul_neg]; omega, Int.mul_ediv_cancel_left _ (by omega), Int.natAbs_neg]
    · rw [Int.mul_ediv_cancel_left _ (by omega)]
  have e2 : (rq t b).natAbs = b.natAbs / Nat.gcd t.natAbs b.natAbs := by
    obtain ⟨k, hk⟩ := gI_r t b
    have hn : (gI t b).natAbs = Nat.gcd t.natAbs b.natAbs := by unfold gI; omega
    rw [← hn]
    unfold rq
    generalize gI t b = g at *
    subst hk
    have hgn : 0 < g.natAbs := by omega
    rw [Int.natAbs_mul, Nat.mul_div_cancel_left _ hgn]
    split
    · rw [show (0 : Int) - g * k = g * (-k) by rw [Int.mul_neg]; omega, Int.mul_ediv_cancel_left _ (by omega), Int.natAbs_neg]
    · rw [Int.mul_ediv_cancel_left _ (by omega)]
  show ((Nat.gcd (rp t b).natAbs (rq t b).natAbs : Nat) : Int) = 1
  rw [e1, e2, Nat.gcd_div_gcd_div_gcd_of_pos_right (by omega)]
  rfl
theorem rp_le {t b : Int} (h : b ≠ 0) : (rp t b).natAbs ≤ t.natAbs := by
  have hg := gI_pos (a := t) h
  obtain ⟨k, hk⟩ := gI_l t b
  unfold rp
  generalize gI t b = g at *
  subst hk
  have hle : k.natAbs ≤ (g * k).natAbs := by
    rw [Int.natAbs_mul]
    exact Nat.le_mul_of_pos_left _ (by omega)
  split
  · rw [show (0 : Int) - g * k = g * (-k) by rw [Int.mul_neg]; omega, Int.mul_ediv_cancel_left _ (by omega), Int.natAbs_neg]
    exact hle
  · rw [Int.mul_ediv_cancel_left _ (by omega)]; exact hle
theorem rq_le {t b : Int} (h : b ≠ 0) : (rq t b).natAbs ≤ b.natAbs := by
  have hg := gI_pos (a := t) h
  obtain ⟨k, hk⟩ := gI_r t b
  unfold rq
  generalize gI t b = g at *
  subst hk
  have hle : k.natAbs ≤ (g * k).natAbs := by
    rw [Int.natAbs_mul]
    exact Nat.le_mul_of_pos_left _ (by omega)
  split
  · rw [show (0 : Int) - g * k = g * (-k) by rw [Int.mul_neg]; omega, Int.mul_ediv_cancel_left _ (by omega), Int.natAbs_neg]
    exact hle
  · rw [Int.mul_ediv_cancel_left _ (by omega)]; exact hle
theorem fdiv_pos {x g : Int} (h : 0 < g) : x.fdiv g = x / g := Int.fdiv_eq_ediv_of_nonneg x (by omega)
theorem fdiv_neg_of {x g : Int} (h : 0 < g) (hd : g ∣ x) : x.fdiv (0 - g) = (0 - x) / g := by
  obtain ⟨k, rfl⟩ := hd
  rw [show (0 : Int) - g * k = g * (-k) by rw [Int.mul_neg]; omega, Int.mul_ediv_cancel_left _ (by omega)]
  rw [show g * k = (0 - g) * (-k) by rw [Int.mul_neg, Int.zero_sub, Int.neg_mul]; omega]
  exact Int.mul_fdiv_cancel_left _ (by omega)
/-- a loop by what holds between its turns -/
theorem for_inv {g : GM} {m : SM} {I : En → Store → Prop} : ∀ (ds : List D) (e : En) (S : Store), I e S →
    (∀ d, d ∈ ds → ∀ e S, I e S → ∃ e1 S1 e2 S2, g d e S = .ok e1 S1 ∧ m e1 S1 = .nxt e2 S2 ∧ I e2 S2) → ∃ e' S', fiR g m ds e S = .nxt e' S' ∧ I e' S'
  | [], e, S, h, _ => ⟨e, S, rfl, h⟩
  | d :: ds, e, S, h, st => by
    obtain ⟨e1, S1, e2, S2, h1, h2, h3⟩ := st d List.mem_cons_self e S h
    obtain ⟨e', S', h4, h5⟩ := for_inv (g := g) (m := m) (I := I) ds e2 S2 h3 fun d' hd => st d' (List.mem_cons_of_mem _ hd)
    refine ⟨e', S', ?_, h5⟩
    unfold fiR
    rw [h1]
    show (match m e1 S1 with
      | .nxt e2 S2 => fiR g m ds e2 S2
      | .cnt e2 S2 => fiR g m ds e2 S2
      | .brk e2 S2 => .nxt e2 S2
      | r => r) = _
    rw [h2]
    exact h4
theorem for_end {g : GM} {m n : SM} {ds : List D} {e : En} {S : Store} (I : En → Store → Prop) (h0 : I e S) (st : ∀ d, d ∈ ds → ∀ e S, I e S → ∃ e1 S1 e2 S2, g d e S = .ok e1 S1 ∧ m e1 S1 = .nxt e2 S2 ∧ I e2 S2)
    (fin : ∀ e' S', I e' S' → ∃ S2, fnEnd (n e' S') = .ok (.bl true) S2) : ∃ S2, fnEnd (sS (fiR g m ds e S) n) = .ok (.bl true) S2 := by
  obtain ⟨e', S', h, hI⟩ := for_inv ds e S h0 st
  rw [h]
  exact fin e' S' hI
end G
namespace Wk01
open PySem G
theorem loop (N : Nat) : ∀ (a b : Int) (S : Store), 0 ≤ a → 0 ≤ b → b.natAbs < N →
    wlR (tB (eBin dGt (eVar 1) (eC (.int 0)))) (sPar 0 1 (aCons (eVar 1) (aCons (eBin dMod (eVar 0) (eVar 1)) aNil))) N [some (.int a), some (.int b)] S = .nxt [some (.int (gI a b)), some (.int 0)] S := by
  induction N with
  | zero => intro a b S _ _ h; omega
  | succ N ih =>
    intro a b S ha hb h
    by_cases hz : b = 0
    · subst hz
      have e : gI a 0 = a := by unfold gI; simp; omega
      rw [e]; rfl
    · have hpos : 0 < b := by omega
      have h1 : wlR (tB (eBin dGt (eVar 1) (eC (.int 0)))) (sPar 0 1 (aCons (eVar 1) (aCons (eBin dMod (eVar 0) (eVar 1)) aNil))) (N + 1) [some (.int a), some (.int b)] S =
          wlR (tB (eBin dGt (eVar 1) (eC (.int 0)))) (sPar 0 1 (aCons (eVar 1) (aCons (eBin dMod (eVar 0) (eVar 1)) aNil))) N [some (.int b), some (.int (a.fmod b))] S := by
        simp [wlR, hpos, dMod_int hz]
      rw [h1]
      have e1 : a.fmod b = a % b := Int.fmod_eq_emod_of_nonneg a (by omega)
      have e2 : 0 ≤ a % b := Int.emod_nonneg a hz
      have e3 : a % b < b := Int.emod_lt_of_pos a hpos
      rw [e1, ih b (a % b) S hb e2 (by omega), gI_step ha hb]
theorem loop4 (N : Nat) (x y : Option D) : ∀ (a b : Int) (S : Store), 0 ≤ a → 0 ≤ b → b.natAbs < N →
    wlR (tB (eBin dGt (eVar 3) (eC (.int 0)))) (sPar 2 3 (aCons (eVar 3) (aCons (eBin dMod (eVar 2) (eVar 3)) aNil))) N [x, y, some (.int a), some (.int b)] S = .nxt [x, y, some (.int (gI a b)), some (.int 0)] S := by
  induction N with
  | zero => intro a b S _ _ h; omega
  | succ N ih =>
    intro a b S ha hb h
    by_cases hz : b = 0
    · subst hz
      have e : gI a 0 = a := by unfold gI; simp; omega
      rw [e]; rfl
    · have hpos : 0 < b := by omega
      have h1 : wlR (tB (eBin dGt (eVar 3) (eC (.int 0)))) (sPar 2 3 (aCons (eVar 3) (aCons (eBin dMod (eVar 2) (eVar 3)) aNil))) (N + 1) [x, y, some (.int a), some (.int b)] S =
          wlR (tB (eBin dGt (eVar 3) (eC (.int 0)))) (sPar 2 3 (aCons (eVar 3) (aCons (eBin dMod (eVar 2) (eVar 3)) aNil))) N [x, y, some (.int b), some (.int (a.fmod b))] S := by
        simp [wlR, hpos, dMod_int hz]
      rw [h1]
      have e1 : a.fmod b = a % b := Int.fmod_eq_emod_of_nonneg a (by omega)
      have e2 : 0 ≤ a % b := Int.emod_nonneg a hz
      have e3 : a % b < b := Int.emod_lt_of_pos a hpos
      rw [e1, ih b (a % b) S hb e2 (by omega), gI_step ha hb]
theorem shared_ok (N : Nat) (a b : Int) (S : Store) (ha : 0 ≤ a) (hb : 0 ≤ b) (h : b.natAbs < N) : m_shared N [.int a, .int b] S = .ok (.int (gI a b)) S := by
  simp [m_shared, fnM_s, b_shared, loop N a b S ha hb h]
theorem lowest_ok (N : Nat) (t b : Int) (S : Store) (hb : 0 < b) (hs : b.natAbs < 2 ^ 200) (hN : 2 ^ 200 ≤ N) : m_lowest N [.int t, .int b] S = .ok (.tup [.int (t / gI t b), .int (b / gI t b)]) S := by
  have hg := gI_pos (a := t) (b := b) (by omega)
  have hl := gI_le (a := t) (b := b) (by omega)
  have hd : divOk (gI t b) = true := div_ok (b := 200) (by omega) (by omega) (by omega) (by omega)
  have e := shared_ok N (if t < 0 then -t else t) b S (by split <;> omega) (by omega) (by omega)
  rw [gI_abs] at e
  simp [m_lowest, fnM_s, b_lowest, e, dDiv_int hd, fdiv_pos hg, sizeLine_eq]
theorem ratio_ok (N : Nat) (t b : Int) (S : Store) (hb : b ≠ 0) (hs : b.natAbs < 2 ^ 200) (hN : 2 ^ 200 ≤ N) : m_ratio N [.int t, .int b] S = .ok (.tup [.int (rp t b), .int (rq t b)]) S := by
  have w1 : ∀ i, m_is_whole N [.int i] S = .ok (.bl true) S := fun i => rfl
  by_cases h : b < 0
  · have e := lowest_ok N (0 - t) (0 - b) S (by omega) (by omega) hN
    rw [gI_congr (c := t) (d := b) (by omega) (by omega)] at e
    simp only [Int.zero_sub] at e
    simp [m_ratio, fnM_s, b_ratio, w1, hb, h, e, rp, rq]
  · have e := lowest_ok N t b S (by omega) hs hN
    simp [m_ratio, fnM_s, b_ratio, w1, hb, h, e, rp, rq]
theorem r_ok (N : Nat) (t b : Int) (S : Store) (hb : b ≠ 0) (hs : b.natAbs < 2 ^ 200) (hN : 2 ^ 200 ≤ N) : m__law_r N [.int t, .int b] S = .ok (.tup [.int (rp t b), .int (rq t b)]) S := by
  have hg := gI_pos (a := t) (b := b) hb
  have hl := gI_le (a := t) (b := b) hb
  have e := loop4 N (some (.int t)) (some (.int b)) (if t < 0 then -t else t) (if b < 0 then -b else b) S (by split <;> omega) (by split <;> omega) (by split <;> omega)
  rw [gI_congr (c := t) (d := b) (by split <;> omega) (by split <;> omega)] at e
  by_cases h : b < 0
  · have hd : divOk (0 - gI t b) = true := div_ok (b := 200) (by omega) (by omega) (by omega) (by omega)
    have f1 := fdiv_neg_of hg (gI_l t b)
    have f2 := fdiv_neg_of hg (gI_r t b)
    simp only [Int.zero_sub] at hd f1 f2
    simp only [if_pos h] at e
    simp [m__law_r, fnM_s, b__law_r, e, h, dDiv_int hd, f1, f2, rp, rq, sizeLine_eq]
  · have hd : divOk (gI t b) = true := div_ok (b := 200) (by omega) (by omega) (by omega) (by omega)
    simp only [if_neg h] at e
    simp [m__law_r, fnM_s, b__law_r, e, h, dDiv_int hd, fdiv_pos hg, rp, rq, sizeLine_eq]
end Wk01

namespace Wk01
open PySem G
theorem isr_pair (N : Nat) (a b : Int) (S : Store) (hs : b.natAbs < N) : m_is_ratio N [.tup [.int a, .int b]] S = .ok (.bl (decide (0 < b) && (gI a b == 1))) S := by
  have hc : eLc (iSeq (eVar 0)) (.nm 3) tTrue (eCall (m_is_whole N) (nA 1 (aCons (eVar 3) aNil))) [3] [some (.tup [.int a, .int b]), none, none, none] S = .ok (.lst [.bl true, .bl true]) S := rfl
  by_cases h : 0 < b
  · have e := shared_ok N (if a < 0 then -a else a) b S (by split <;> omega) (by omega) hs
    rw [gI_abs] at e
    simp [m_is_ratio, fnM_s, b_is_ratio, hc, h, e, fAll, seqD, bools, Tn.is]
  · simp [m_is_ratio, fnM_s, b_is_ratio, hc, h, fAll, seqD, bools, Tn.is]
theorem is_ok (N : Nat) {d : D} {r due : Bool} {S : Store} (h : m_is_ratio N [d] S = .ok (.bl r) S) : m__law_is N [d, .bl due] S = .ok (.bl (r == due)) S := by
  simp [m__law_is, fnM_s, b__law_is, h, Tn.is]
theorem isrt_ok (N : Nat) (a b c d : Int) (S : Store) : m__law_is_ratio N [.tup [.int a, .int b], .tup [.int c, .int d]] S = .ok (.bl (a == c && (b == d && true))) S := rfl
/-- things that are no ratios -/
theorem no_ok (N : Nat) (p q : Int) (S : Store) (hq : 0 < q) (hg : gI p q = 1) (hp : p.natAbs < 2 ^ 200) (hqs : q.natAbs < 2 ^ 200) (hN : 2 ^ 201 ≤ N) :
    ∃ L, m__law_no_ratios N [.tup [.int p, .int q]] S = .ok (.lst L) S ∧ L.length ≤ 100 ∧ ∀ d, d ∈ L → m_is_ratio N [d] S = .ok (.bl false) S := by
  have m1 : mulOk 2 p = true := mul_ok (a := 32) (b := 200) (by omega) (by omega) (by omega) (by omega) (by omega)
  have m2 : mulOk 2 q = true := mul_ok (a := 32) (b := 200) (by omega) (by omega) (by omega) (by omega) (by omega)
  have fl : ∀ l, fList S [.tup l] = some (.lst l) := fun l => rfl
  have g2 : gI (2 * p) (2 * q) = 2 := by
    unfold gI at hg ⊢
    rw [Int.natAbs_mul, Int.natAbs_mul, show (2 : Int).natAbs = 2 from rfl, Nat.gcd_mul_left]
    omega
  refine ⟨[.non, .int 7, .bl true, .str "", .str "1/2", .lst [], .lst [.int p, .int q], .dic [] [], .tup [], .tup [.int p], .tup [.int p, .int q, .int 1], .tup [.int p, .int 0],
    .tup [.int p, .int (0 - q)], .tup [.int (2 * p), .int (2 * q)], .tup [.non, .int q], .tup [.int p, .non], .tup [.str "1", .int q], .tup [.int p, .lst [.int q]], .tup [.int p, .bl true],
    .tup [.bl true, .int q], .tup [.tup [.int p, .int q], .int q], .tup [.tup [.int p, .int q]], .tup [.int 0, .int 2], .tup [.int 0, .int 0], .tup [.lst [], .lst []]], ?_, by simp, ?_⟩
  · simp [m__law_no_ratios, fnM_s, b__law_no_ratios, dMul_int m1, dMul_int m2, fl, sizeLine_eq, dAdd_lst]
  · have h1 : m_is_ratio N [.tup [.int p, .int (0 - q)]] S = .ok (.bl false) S := by
      rw [isr_pair N p (0 - q) S (by omega), decide_eq_false (by omega)]; rfl
    have h2 : m_is_ratio N [.tup [.int (2 * p), .int (2 * q)]] S = .ok (.bl false) S := by
      rw [isr_pair N (2 * p) (2 * q) S (by omega), g2]; simp
    have h3 : m_is_ratio N [.tup [.int 0, .int 2]] S = .ok (.bl false) S := by
      rw [isr_pair N 0 2 S (by omega)]; rfl
    intro d hd
    simp only [List.mem_cons, List.not_mem_nil, or_false] at hd
    rcases hd with rfl | rfl | rfl | rfl | rfl | rfl | rfl | rfl | rfl | rfl | rfl | rfl | rfl | rfl | rfl | rfl | rfl | rfl | rfl | rfl | rfl | rfl | rfl | rfl | rfl
    all_goals first
      | exact h1
      | exact h2
      | exact h3
      | rfl
/-- what is refused -/
theorem ref_ok (N : Nat) {x y : D} {S : Store} (h : m_ratio N [x, y] S = .exc (.exc 3 []) S) : m__law_refused N [x, y] S = .ok (.bl true) S := by
  have hk : m__law_kind N [.exc 3 []] S = .ok (.int 0) S := rfl
  have e : tx_TagError 3 = some true := rfl
  have en : dIsNot (.exc 3 []) .non = some (.bl true) := rfl
  simp [m__law_refused, fnM_s, b__law_refused, sTry, h, e, sSu, en, hk]
end Wk01

namespace G
open PySem
theorem bools_true (L : List D) : bools (L.map fun _ => D.bl true) = some (L.map fun _ => true) := by
  induction L with
  | nil => rfl
  | cons d L ih =>
    show (bools (L.map fun _ => D.bl true)).map (true :: ·) = _
    rw [ih]; rfl
theorem all_true (L : List D) : (L.map fun _ => true).all id = true := by
  induction L with
  | nil => rfl
  | cons d L ih => rw [List.map_cons, List.all_cons, ih]; rfl
theorem range_mem {d : D} {n : Nat} (h : d ∈ rangeD 0 n) : ∃ k : Int, d = .int k ∧ 0 ≤ k ∧ k < n := by
  unfold rangeD at h
  obtain ⟨k, hk, rfl⟩ := List.mem_map.mp h
  have := List.mem_range.mp hk
  exact ⟨0 + (k : Int), rfl, by omega, by omega⟩
theorem rp_one (h : Int) : rp h 1 = h := by
  have e : gI h 1 = 1 := by unfold gI; simp
  unfold rp; rw [e]; simp
theorem rq_one (h : Int) : rq h 1 = 1 := by
  have e : gI h 1 = 1 := by unfold gI; simp
  unfold rq; rw [e]; simp
theorem low_iff {h u : Int} (hu : 0 < u) : (gI h u == 1) = (rp h u == h && (rq h u == u && true)) := by
  have hg := gI_pos (a := h) (b := u) (by omega)
  obtain ⟨k, hk⟩ := gI_r h u
  obtain ⟨l, hl⟩ := gI_l h u
  have e1 : rp h u = l := by
    unfold rp
    rw [if_neg (by omega)]
    generalize gI h u = g at *
    subst hl
    exact Int.mul_ediv_cancel_left _ (by omega)
  have e2 : rq h u = k := by
    unfold rq
    rw [if_neg (by omega)]
    generalize gI h u = g at *
    subst hk
    exact Int.mul_ediv_cancel_left _ (by omega)
  rw [e1, e2]
  generalize gI h u = g at *
  by_cases e : g = 1
  · subst e
    have a1 : l = h := by omega
    have a2 : k = u := by omega
    simp [a1, a2]
  · have a2 : ¬ k = u := fun z => by
      subst z
      have : (g - 1) * k = 0 := by rw [Int.sub_mul]; omega
      rcases Int.mul_eq_zero.mp this with q | q <;> omega
    have f1 : (g == 1) = false := beq_eq_false_iff_ne.mpr e
    have f2 : (k == u) = false := beq_eq_false_iff_ne.mpr a2
    rw [f1, f2]; simp
theorem sFor_eq (i : AM) (g : GM) (m : SM) (e : En) (S : Store) : sFor i g m e S = sE (i e S) e fun ds S1 => fiR g m ds e S1 := rfl
end G
namespace Wk01
open PySem G
theorem mid (N : Nat) (ns : List Int) (k : Int) (hk0 : 0 ≤ k) (hk : k ≤ 64) (x2 x3 x4 x5 x6 x7 : Option D) (S : Store) :
    ∃ (h u : Int) (n : Nat) (S' : Store), u ≠ 0 ∧ h.natAbs < 2 ^ 140 ∧ u.natAbs < 2 ^ 140 ∧ ∀ rest : SM, sSeq (sSet 2 (eCall (m__law_pool N) (nA 1 (aCons (eCall (m__law_cell N) (nA 2 (aCons (eVar 0) (aCons (eVar 1) aNil)))) aNil))))
      (sSeq (sPar 3 4 (aCons (eCall (m__law_number N) (nA 1 (aCons (eVar 2) aNil))) (aCons (eCall (m__law_number N) (nA 1 (aCons (eVar 2) aNil))) aNil)))
      (sSeq (sIf (tB (eBin dEq (eCall (m__law_take N) (nA 2 (aCons (eVar 2) (aCons (eC (.int 4)) aNil)))) (eC (.int 0)))) (sSet 3 (eBin dMul (eVar 4) (eBin dSub (eCall (m__law_take N) (nA 2 (aCons (eVar 2) (aCons (eC (.int 40)) aNil)))) (eC (.int 20))))) sNop)
      (sSeq (sIf (tB (eBin dEq (eVar 4) (eC (.int 0)))) (sSet 4 (eBinS ixD (eLst (aCons (eC (.int 1)) (aCons (eNeg (eC (.int 3))) (aCons (eC (.int 12)) aNil)))) (eCall (m__law_take N) (nA 2 (aCons (eVar 2) (aCons (eC (.int 3)) aNil)))))) sNop) rest))) [some (.scr (ns.map .int)), some (.int k), x2, x3, x4, x5, x6, x7] S = rest [some (.scr (ns.map .int)), some (.int k), some (.loc n), some (.int h), some (.int u), x5, x6, x7] S' := by
  obtain ⟨x, hx⟩ := cell_ok N ns k S hk0 hk
  obtain ⟨S1, hp, P1⟩ := pool_ok N x S
  obtain ⟨h, S2, c2, n1, b1, P2, l1, l2⟩ := number_ok N P1 (by omega) (by omega)
  obtain ⟨u, S3, c3, n2, b2, P3, l3, l4⟩ := number_ok N P2 (by omega) (by omega)
  obtain ⟨d, S4, t4, d0, d1, P4⟩ := take_ok N P3 (by omega) (by omega) (many := 4) (by omega) (by omega)
  obtain ⟨f, S5, t5, f0, f1, P5⟩ := take_ok N P4 (by omega) (by omega) (many := 40) (by omega) (by omega)
  -- the third statement
  obtain ⟨h', S6, c6, hb6, P6, c60, c61, e6⟩ : ∃ (h' : Int) (S6 : Store) (c6 : Int), h'.natAbs < 2 ^ 140 ∧ Pool S6 S.length c6 ∧ 0 ≤ c6 ∧ c6 ≤ 600 ∧
      (sIf (tB (eBin dEq (eCall (m__law_take N) (nA 2 (aCons (eVar 2) (aCons (eC (.int 4)) aNil)))) (eC (.int 0)))) (sSet 3 (eBin dMul (eVar 4) (eBin dSub (eCall (m__law_take N) (nA 2 (aCons (eVar 2) (aCons (eC (.int 40)) aNil)))) (eC (.int 20))))) sNop) [some (.scr (ns.map .int)), some (.int k), some (.loc S.length), some (.int h), some (.int u), x5, x6, x7] S3 = .nxt [some (.scr (ns.map .int)), some (.int k), some (.loc S.length), some (.int h'), some (.int u), x5, x6, x7] S6 := by
    by_cases hd : d = 0
    · subst hd
      have m1 : mulOk u (f - 20) = true := mul_ok (a := 121) (b := 32) b2 (by omega) (by omega) (by omega) (by omega)
      refine ⟨u * (f - 20), S5, _, ?_, P5, by omega, by omega, ?_⟩
      · rw [Int.natAbs_mul]
        have : u.natAbs * (f - 20).natAbs ≤ u.natAbs * 32 := Nat.mul_le_mul_left _ (by omega)
        omega
      · simp [t4, t5, dMul_int m1]
    · exact ⟨h, S4, _, by omega, P4, by omega, by omega, by simp [t4, hd]⟩
  obtain ⟨v, S7, t7, v0, v1, P7⟩ := take_ok N P6 c60 (by omega) (many := 3) (by omega) (by omega)
  by_cases hu : u = 0
  · subst hu
    have ev : ∃ u', L2.atI [D.int 1, D.int (-3), D.int 12] v = some (.int u') ∧ u' ≠ 0 ∧ u'.natAbs < 100 := by
      have h3 : v = 0 ∨ v = 1 ∨ v = 2 := by omega
      rcases h3 with rfl | rfl | rfl
      · exact ⟨1, rfl, by omega, by omega⟩
      · exact ⟨-3, rfl, by omega, by omega⟩
      · exact ⟨12, rfl, by omega, by omega⟩
    obtain ⟨u', eu, hu1, hu2⟩ := ev
    refine ⟨h', u', S.length, S7, hu1, hb6, by omega, fun rest => ?_⟩
    rw [sSeq_s]
    simp only [sSet_s, eCall_s, nA_s, aCons_s, aNil_s, eVar_s, List.getElem?_cons_zero, List.getElem?_cons_succ, evR_some, bind_ok, List.length_cons, List.length_nil, if_true, hx, hp, sE_ok, List.set_cons_succ, List.set_cons_zero, sS_nxt]
    rw [sSeq_s]
    simp [n1, n2, -sIf_s]
    rw [e6]
    simp [t7, eu, sizeLine_eq]
  · refine ⟨h', u, S.length, S6, hu, hb6, by omega, fun rest => ?_⟩
    rw [sSeq_s]
    simp only [sSet_s, eCall_s, nA_s, aCons_s, aNil_s, eVar_s, List.getElem?_cons_zero, List.getElem?_cons_succ, evR_some, bind_ok, List.length_cons, List.length_nil, if_true, hx, hp, sE_ok, List.set_cons_succ, List.set_cons_zero, sS_nxt]
    rw [sSeq_s]
    simp [n1, n2, -sIf_s]
    rw [e6]
    simp [hu]
theorem plain : ∀ ns : List Int, ns.length ≤ 63 → ∃ N S, m_law N [.scr (ns.map .int)] [] = .ok (.bl true) S := by
  intro ns hl
  obtain ⟨N, hN⟩ : ∃ N : Nat, 2 ^ 201 ≤ N := ⟨_, Nat.le_refl _⟩
  refine ⟨N, ?_⟩
  have i1 : m__law_is N [.tup [.int 0, .int 1], .bl true] [] = .ok (.bl true) [] := by rw [is_ok N (isr_pair N 0 1 [] (by omega))]; rfl
  have i2 : m__law_is N [.tup [.int 1, .int 1], .bl true] [] = .ok (.bl true) [] := by rw [is_ok N (isr_pair N 1 1 [] (by omega))]; rfl
  have en : dNe (.tup [.tup [.int 0, .int 1], .tup [.int 1, .int 1]]) (.tup [.tup [.int 0, .int 1], .tup [.int 1, .int 1]]) = some (.bl false) := rfl
  rw [show m_law N = fnM 8 (b_law N) from rfl, fnM_s]
  unfold b_law
  rw [sSeq_s]
  have e0 : sIf (tOr' (tB (eBin dNe (eTup (aCons (eC (.tup [.int 0, .int 1])) (aCons (eC (.tup [.int 1, .int 1])) aNil))) (eTup (aCons (eTup (aCons (eC (.int 0)) (aCons (eC (.int 1)) aNil))) (aCons (eTup (aCons (eC (.int 1)) (aCons (eC (.int 1)) aNil))) aNil))))) (tOr' (tNt (tT (eCall (m__law_is N) (nA 2 (aCons (eC (.tup [.int 0, .int 1])) (aCons (eC (.bl true)) aNil)))))) (tNt (tT (eCall (m__law_is N) (nA 2 (aCons (eC (.tup [.int 1, .int 1])) (aCons (eC (.bl true)) aNil)))))))) (sRet (eC (.bl false))) sNop (enOf 8 [.scr (ns.map .int)]) [] = .nxt (enOf 8 [.scr (ns.map .int)]) [] := by
    simp [i1, i2, en, sizeLine_eq]
  rw [e0, sS_nxt, sSeq_s]
  obtain ⟨j, hj, hj0, hj1⟩ : ∃ j : Int, (aCons (eCa fMax (aCons (eC (.int 1)) (aCons (eCa fMin (aCons (eCa fLen (aCons (eVar 0) aNil)) (aCons (eC (.int 16)) aNil))) aNil))) aNil) (enOf 8 [.scr (ns.map .int)]) [] = .ok [.int j] [] ∧ 0 ≤ j ∧ j ≤ 64 := by
    by_cases c1 : 16 < (ns.length : Int)
    · exact ⟨16, by simp [c1], by omega, by omega⟩
    · by_cases c2 : 1 < (ns.length : Int)
      · exact ⟨ns.length, by simp [c1, c2], by omega, by omega⟩
      · exact ⟨1, by simp [c1, c2], by omega, by omega⟩
  rw [sFor_eq, rg1_ok hj (by omega), sE_ok]
  refine for_end (fun e _ => ∃ x1 x2 x3 x4 x5 x6 x7, e = [some (.scr (ns.map .int)), x1, x2, x3, x4, x5, x6, x7]) ⟨none, none, none, none, none, none, none, rfl⟩ (fun d hd e S hI => ?_) (fun e' S' _ => ⟨S', rfl⟩)
  obtain ⟨x1, x2, x3, x4, x5, x6, x7, rfl⟩ := hI
  obtain ⟨k, rfl, hk0, hk1⟩ := range_mem hd
  obtain ⟨h, u, n, S', hu, hb, ub, hmid⟩ := mid N ns k hk0 (by omega) x2 x3 x4 x5 x6 x7 S
  refine ⟨_, S, [some (.scr (ns.map .int)), some (.int k), some (.loc n), some (.int h), some (.int u), some (.tup [.int (rp h u), .int (rq h u)]), some (.tup [.int (rp h u), .int (rq h u)]), some (.dic [] [])], S', rfl, ?_, ⟨_, _, _, _, _, _, _, rfl⟩⟩
  · rw [show [some (D.scr (ns.map .int)), x1, x2, x3, x4, x5, x6, x7].set 1 (some (.int k)) = [some (D.scr (ns.map .int)), some (.int k), x2, x3, x4, x5, x6, x7] from rfl, hmid]
    have hr := r_ok N h u S' hu (by omega) (by omega)
    have ha := ratio_ok N h u S' hu (by omega) (by omega)
    have h1 := ratio_ok N h 1 S' (by omega) (by omega) (by omega)
    rw [rp_one, rq_one] at h1
    have qp := rq_pos (t := h) hu
    have ql := rq_le (t := h) hu
    have pl := rp_le (t := h) hu
    have lo := r_low (t := h) hu
    have di : m__law_is N [.tup [.int (rp h u), .int (rq h u)], .bl true] S' = .ok (.bl true) S' := by
      rw [is_ok N (isr_pair N _ _ S' (by omega)), decide_eq_true qp, lo]; rfl
    have pi : m__law_is N [.tup [.int h, .int u], .bl (decide (0 < u) && (rp h u == h && (rq h u == u && true)))] S' = .ok (.bl true) S' := by
      rw [is_ok N (isr_pair N h u S' (by omega))]
      by_cases hp : 0 < u
      · rw [decide_eq_true hp, low_iff hp]; simp
      · rw [decide_eq_false hp]; rfl
    obtain ⟨L, hL, hLl, hLa⟩ := no_ok N (rp h u) (rq h u) S' qp lo (by omega) (by omega) hN
    generalize hP : rp h u = p at *
    generalize hQ : rq h u = q at *
    have hcomp : ∀ (a b c d e f g : Option D), eLc (iSeq (eCall (m__law_no_ratios N) (nA 1 (aCons (eVar 5) aNil)))) (.nm 7) tTrue (eCall (m__law_is N) (nA 2 (aCons (eVar 7) (aCons (eC (.bl false)) aNil)))) [7] [a, b, c, d, e, some (.tup [.int p, .int q]), f, g] S' = .ok (.lst (L.map fun _ => .bl true)) S' := by
      intro a b c d e f g
      have hi : iSeq (eCall (m__law_no_ratios N) (nA 1 (aCons (eVar 5) aNil))) [a, b, c, d, e, some (.tup [.int p, .int q]), f, g] S' = .ok L S' := by
        unfold iSeq
        simp [hL]
      unfold eLc
      rw [hi, bind_ok, lc_map (f := fun _ => .bl true) L [] (by simp; omega) fun d' hd' => ⟨_, rfl, ?_⟩]
      · rfl
      · simp [wipeE, is_ok N (hLa d' hd')]
    have s5 : sSet 5 (eCall (m__law_r N) (nA 2 (aCons (eVar 3) (aCons (eVar 4) aNil)))) [some (.scr (ns.map .int)), some (.int k), some (.loc n), some (.int h), some (.int u), x5, x6, x7] S' = .nxt [some (.scr (ns.map .int)), some (.int k), some (.loc n), some (.int h), some (.int u), some (.tup [.int p, .int q]), x6, x7] S' := by
      simp [hr]
    rw [sSeq_s, s5, sS_nxt]
    have tt : m__law_is_ratio N [.tup [.int p, .int q], .tup [.int p, .int q]] S' = .ok (.bl true) S' := by rw [isrt_ok]; simp
    have s6 : sFor (iSeq (eLst (aCons (eCall (m_ratio N) (nA 2 (aCons (eVar 3) (aCons (eVar 4) aNil)))) (aCons (eCallK (m_ratio N) g_ratio_1_bottom 1 1 (aCons (eVar 3) aNil) (aCons (eVar 4) aNil)) (aCons (eCallK0 (m_ratio N) g_ratio_0_top_bottom 2 (aCons (eVar 3) (aCons (eVar 4) aNil))) aNil))))) (gN 6) (sIf (tNt (tT (eCall (m__law_is_ratio N) (nA 2 (aCons (eVar 6) (aCons (eVar 5) aNil)))))) (sRet (eC (.bl false))) sNop) [some (.scr (ns.map .int)), some (.int k), some (.loc n), some (.int h), some (.int u), some (.tup [.int p, .int q]), x6, x7] S' = .nxt [some (.scr (ns.map .int)), some (.int k), some (.loc n), some (.int h), some (.int u), some (.tup [.int p, .int q]), some (.tup [.int p, .int q]), x7] S' := by
      simp [sFor, iSeq, eCallK, eCallK0, g_ratio_1_bottom, g_ratio_0_top_bottom, ha, sizeLine_eq, seqD, fiR, gN, tt]
    rw [sSeq_s, s6, sS_nxt]
    have t1 : m__law_is_ratio N [.tup [.int h, .int 1], .tup [.int h, .int 1]] S' = .ok (.bl true) S' := by rw [isrt_ok]; simp
    have s7 : sIf (tOr' (tNt (tT (eCall (m__law_is_ratio N) (nA 2 (aCons (eCallK (m_ratio N) g_ratio_1_ 1 0 (aCons (eVar 3) aNil) aNil) (aCons (eTup (aCons (eVar 3) (aCons (eC (.int 1)) aNil))) aNil)))))) (tNt (tT (eCall (m__law_is N) (nA 2 (aCons (eVar 5) (aCons (eC (.bl true)) aNil))))))) (sRet (eC (.bl false))) sNop [some (.scr (ns.map .int)), some (.int k), some (.loc n), some (.int h), some (.int u), some (.tup [.int p, .int q]), some (.tup [.int p, .int q]), x7] S' = .nxt [some (.scr (ns.map .int)), some (.int k), some (.loc n), some (.int h), some (.int u), some (.tup [.int p, .int q]), some (.tup [.int p, .int q]), x7] S' := by
      simp [eCallK, g_ratio_1_, h1, sizeLine_eq, t1, di]
    rw [sSeq_s, s7, sS_nxt]
    have eqp : dEq (.tup [.int p, .int q]) (.tup [.int h, .int u]) = some (.bl (p == h && (q == u && true))) := rfl
    have s8 : sIf (tNt (tT (eCall (m__law_is N) (nA 2 (aCons (eTup (aCons (eVar 3) (aCons (eVar 4) aNil))) (aCons (eAn (eBin dGt (eVar 4) (eC (.int 0))) (eBin dEq (eVar 5) (eTup (aCons (eVar 3) (aCons (eVar 4) aNil))))) aNil)))))) (sRet (eC (.bl false))) sNop [some (.scr (ns.map .int)), some (.int k), some (.loc n), some (.int h), some (.int u), some (.tup [.int p, .int q]), some (.tup [.int p, .int q]), x7] S' = .nxt [some (.scr (ns.map .int)), some (.int k), some (.loc n), some (.int h), some (.int u), some (.tup [.int p, .int q]), some (.tup [.int p, .int q]), x7] S' := by
      by_cases hp : 0 < u
      · rw [decide_eq_true hp, Bool.true_and] at pi
        simp [-Bool.and_true, hp, sizeLine_eq, eqp, pi]
      · rw [decide_eq_false hp, Bool.false_and] at pi
        simp [-Bool.and_true, hp, sizeLine_eq, eqp, pi]
    rw [sSeq_s, s8, sS_nxt]
    have s9 : sIf (tNt (tT (eCa fAll (aCons (eLc (iSeq (eCall (m__law_no_ratios N) (nA 1 (aCons (eVar 5) aNil)))) (.nm 7) tTrue (eCall (m__law_is N) (nA 2 (aCons (eVar 7) (aCons (eC (.bl false)) aNil)))) [7]) aNil)))) (sRet (eC (.bl false))) sNop [some (.scr (ns.map .int)), some (.int k), some (.loc n), some (.int h), some (.int u), some (.tup [.int p, .int q]), some (.tup [.int p, .int q]), x7] S' = .nxt [some (.scr (ns.map .int)), some (.int k), some (.loc n), some (.int h), some (.int u), some (.tup [.int p, .int q]), some (.tup [.int p, .int q]), x7] S' := by
      simp [hcomp, fAll, seqD, bools_true, all_true]
    rw [sSeq_s, s9, sS_nxt]
    have a1 := fun (x : D) (z : m_ratio N [x, .int u] S' = .exc (.exc 3 []) S') => ref_ok N z
    have a2 := fun (x : D) (z : m_ratio N [.int h, x] S' = .exc (.exc 3 []) S') => ref_ok N z
    have s10 : sFor (iSeq (eLst (aCons (eC .non) (aCons (eC (.bl true)) (aCons (eC (.bl false)) (aCons (eC (.str "1")) (aCons (eLst (aCons (eC (.int 1)) aNil)) (aCons (eTup (aCons (eC (.int 1)) aNil)) (aCons (eTup (aCons (eC (.int 1)) (aCons (eC (.int 2)) aNil))) (aCons (eC (.dic [] [])) aNil)))))))))) (gN 7) (sIf (tOr' (tNt (tT (eCall (m__law_refused N) (nA 2 (aCons (eVar 7) (aCons (eVar 4) aNil)))))) (tNt (tT (eCall (m__law_refused N) (nA 2 (aCons (eVar 3) (aCons (eVar 7) aNil))))))) (sRet (eC (.bl false))) sNop) [some (.scr (ns.map .int)), some (.int k), some (.loc n), some (.int h), some (.int u), some (.tup [.int p, .int q]), some (.tup [.int p, .int q]), x7] S' = .nxt [some (.scr (ns.map .int)), some (.int k), some (.loc n), some (.int h), some (.int u), some (.tup [.int p, .int q]), some (.tup [.int p, .int q]), some (.dic [] [])] S' := by
      simp [sFor, iSeq, sizeLine_eq, seqD, fiR, gN, a1 .non rfl, a1 (.bl true) rfl, a1 (.bl false) rfl, a1 (.str "1") rfl, a1 (.lst [.int 1]) rfl, a1 (.tup [.int 1]) rfl, a1 (.tup [.int 1, .int 2]) rfl, a1 (.dic [] []) rfl, a2 .non rfl, a2 (.bl true) rfl, a2 (.bl false) rfl, a2 (.str "1") rfl, a2 (.lst [.int 1]) rfl, a2 (.tup [.int 1]) rfl, a2 (.tup [.int 1, .int 2]) rfl, a2 (.dic [] []) rfl]
    rw [sSeq_s, s10, sS_nxt]
    simp [a2 (.int 0) rfl, ref_ok N (show m_ratio N [.int 0, .int 0] S' = .exc (.exc 3 []) S' from rfl)]
end Wk01

open PySem PySem.W PyProof.Rows
set_option maxRecDepth 100000 in
set_option maxHeartbeats 0 in
theorem PySem.Challenge.cw_sharetags_k01_ratios_made_holds : PySem.Challenge.rw_sharetags_k01_ratios_made.Holds := by
  w_on; o_law; k_head; (case hw => w_witness2)
  k_fill
  refine Wk01.walk Wk01.plain (l := PySem.Challenge.rw_sharetags_k01_ratios_made) rfl rfl rfl (fun w h Y => PySem.W.kIn_of Y) ?F
  case F =>
    intro w mg h KX G
    refine' Wk01.txt_mk KX G ?z_LookupError ?z_ValueError ?z_abs ?z_all ?z_bool ?z_divmod ?z_int ?z_isinstance ?z_len ?z_list ?z_max ?z_min ?z_range ?z_tuple ?a__law_cell ?l__law_cell ?c__law_cell ?k__law_cell ?a_is_whole ?l_is_whole ?c_is_whole ?k_is_whole ?a_shared ?l_shared ?c_shared ?k_shared ?a_is_ratio ?l_is_ratio ?c_is_ratio ?k_is_ratio ?a__law_is ?l__law_is ?c__law_is ?k__law_is ?a__law_whole ?l__law_whole ?c__law_whole ?k__law_whole ?a__law_is_ratio ?l__law_is_ratio ?c__law_is_ratio ?k__law_is_ratio ?a__law_no_ratios ?l__law_no_ratios ?c__law_no_ratios ?k__law_no_ratios ?a__law_take ?l__law_take ?c__law_take ?k__law_take ?a__law_number ?l__law_number ?c__law_number ?k__law_number ?a__law_pool ?l__law_pool ?c__law_pool ?k__law_pool ?a__law_r ?l__law_r ?c__law_r ?k__law_r ?a__law_kind ?l__law_kind ?c__law_kind ?k__law_kind ?a_lowest ?l_lowest ?c_lowest ?k_lowest ?a_ratio ?l_ratio ?c_ratio ?k_ratio ?t_ratio ?a__law_refused ?l__law_refused ?c__law_refused ?k__law_refused ?a_law ?l_law ?c_law ?k_law ?a_NONE ?l_NONE ?a_WHOLE ?l_WHOLE ?a_Full ?a_LostError ?a_NoAsk ?a_NoClient ?a_NoDeeds ?a_NoLeast ?a_NoLeasts ?a_NoLess ?a_NoLog ?a_NoName ?a_NoNumber ?a_NoOne ?a_NoPlace ?a_NoPlan ?a_NoRate ?a_NoRatio ?x_NoRatio ?k_NoRatio ?s_NoRatio ?y_NoRatio ?eg_NoRatio ?ek_NoRatio ?ed_NoRatio ?ea_NoRatio ?em_NoRatio ?a_NoRivals ?a_NoRow ?a_NoSize ?a_NoStretch ?a_NoTags ?a_NoText ?a_NoTime ?a_NoTruth ?a_NoWeight ?a_NoWord ?a_Nought ?a_Past ?a_ShareError ?a_Stands ?a_TagError ?a_TooMany ?a_TooMuch ?en_ ?et_ ?qs_NoRatio_Full ?qn_NoRatio_Full ?ed_Full ?y_Full ?qs_NoRatio_LookupError ?qs_NoRatio_LostError ?qn_NoRatio_LostError ?ed_LostError ?y_LostError ?qs_NoRatio_NoAsk ?qn_NoRatio_NoAsk ?ed_NoAsk ?y_NoAsk ?qs_NoRatio_NoClient ?qn_NoRatio_NoClient ?ed_NoClient ?y_NoClient ?qs_NoRatio_NoDeeds ?qn_NoRatio_NoDeeds ?ed_NoDeeds ?y_NoDeeds ?qs_NoRatio_NoLeast ?qn_NoRatio_NoLeast ?ed_NoLeast ?y_NoLeast ?qs_NoRatio_NoLeasts ?qn_NoRatio_NoLeasts ?ed_NoLeasts ?y_NoLeasts ?qs_NoRatio_NoLess ?qn_NoRatio_NoLess ?ed_NoLess ?y_NoLess ?qs_NoRatio_NoLog ?qn_NoRatio_NoLog ?ed_NoLog ?y_NoLog ?qs_NoRatio_NoName ?qn_NoRatio_NoName ?ed_NoName ?y_NoName ?qs_NoRatio_NoNumber ?qn_NoRatio_NoNumber ?ed_NoNumber ?y_NoNumber ?qs_NoRatio_NoOne ?qn_NoRatio_NoOne ?ed_NoOne ?y_NoOne ?qs_NoRatio_NoPlace ?qn_NoRatio_NoPlace ?ed_NoPlace ?y_NoPlace ?qs_NoRatio_NoPlan ?qn_NoRatio_NoPlan ?ed_NoPlan ?y_NoPlan ?qs_NoRatio_NoRate ?qn_NoRatio_NoRate ?ed_NoRate ?y_NoRate ?qs_NoRatio_NoRatio ?qs_NoRatio_NoRivals ?qn_NoRatio_NoRivals ?ed_NoRivals ?y_NoRivals ?qs_NoRatio_NoRow ?qn_NoRatio_NoRow ?ed_NoRow ?y_NoRow ?qs_NoRatio_NoSize ?qn_NoRatio_NoSize ?ed_NoSize ?y_NoSize ?qs_NoRatio_NoStretch ?qn_NoRatio_NoStretch ?ed_NoStretch ?y_NoStretch ?qs_NoRatio_NoTags ?qn_NoRatio_NoTags ?ed_NoTags ?y_NoTags ?qs_NoRatio_NoText ?qn_NoRatio_NoText ?ed_NoText ?y_NoText ?qs_NoRatio_NoTime ?qn_NoRatio_NoTime ?ed_NoTime ?y_NoTime ?qs_NoRatio_NoTruth ?qn_NoRatio_NoTruth ?ed_NoTruth ?y_NoTruth ?qs_NoRatio_NoWeight ?qn_NoRatio_NoWeight ?ed_NoWeight ?y_NoWeight ?qs_NoRatio_NoWord ?qn_NoRatio_NoWord ?ed_NoWord ?y_NoWord ?qs_NoRatio_Nought ?qn_NoRatio_Nought ?ed_Nought ?y_Nought ?qs_NoRatio_Past ?qn_NoRatio_Past ?ed_Past ?y_Past ?qs_NoRatio_ShareError ?qn_NoRatio_ShareError ?ed_ShareError ?y_ShareError ?qs_NoRatio_Stands ?qn_NoRatio_Stands ?ed_Stands ?y_Stands ?qs_NoRatio_TagError ?ed_TagError ?y_TagError ?qs_NoRatio_TooMany ?qn_NoRatio_TooMany ?ed_TooMany ?y_TooMany ?qs_NoRatio_TooMuch ?qn_NoRatio_TooMuch ?ed_TooMuch ?y_TooMuch ?qs_NoRatio_ValueError ?s_TagError
    (case z_LookupError => k_is)
    (case z_ValueError => k_is)
    (case z_abs => k_is)
    (case z_all => k_is)
    (case z_bool => k_is)
    (case z_divmod => k_is)
    (case z_int => k_is)
    (case z_isinstance => k_is)
    (case z_len => k_is)
    (case z_list => k_is)
    (case z_max => k_is)
    (case z_min => k_is)
    (case z_range => k_is)
    (case z_tuple => k_is)
    (case a__law_cell => k_is)
    (case l__law_cell => k_is)
    (case c__law_cell => k_is)
    (case k__law_cell => k_is)
    (case a_is_whole => k_is)
    (case l_is_whole => k_is)
    (case c_is_whole => k_is)
    (case k_is_whole => k_is)
    (case a_shared => k_is)
    (case l_shared => k_is)
    (case c_shared => k_is)
    (case k_shared => k_is)
    (case a_is_ratio => k_is)
    (case l_is_ratio => k_is)
    (case c_is_ratio => k_is)
    (case k_is_ratio => k_is)
    (case a__law_is => k_is)
    (case l__law_is => k_is)
    (case c__law_is => k_is)
    (case k__law_is => k_is)
    (case a__law_whole => k_is)
    (case l__law_whole => k_is)
    (case c__law_whole => k_is)
    (case k__law_whole => k_is)
    (case a__law_is_ratio => k_is)
    (case l__law_is_ratio => k_is)
    (case c__law_is_ratio => k_is)
    (case k__law_is_ratio => k_is)
    (case a__law_no_ratios => k_is)
    (case l__law_no_ratios => k_is)
    (case c__law_no_ratios => k_is)
    (case k__law_no_ratios => k_is)
    (case a__law_take => k_is)
    (case l__law_take => k_is)
    (case c__law_take => k_is)
    (case k__law_take => k_is)
    (case a__law_number => k_is)
    (case l__law_number => k_is)
    (case c__law_number => k_is)
    (case k__law_number => k_is)
    (case a__law_pool => k_is)
    (case l__law_pool => k_is)
    (case c__law_pool => k_is)
    (case k__law_pool => k_is)
    (case a__law_r => k_is)
    (case l__law_r => k_is)
    (case c__law_r => k_is)
    (case k__law_r => k_is)
    (case a__law_kind => k_is)
    (case l__law_kind => k_is)
    (case c__law_kind => k_is)
    (case k__law_kind => k_is)
    (case a_lowest => k_is)
    (case l_lowest => k_is)
    (case c_lowest => k_is)
    (case k_lowest => k_is)
    (case a_ratio => k_is)
    (case l_ratio => k_is)
    (case c_ratio => k_is)
    (case k_ratio => k_is)
    (case t_ratio => k_is)
    (case a__law_refused => k_is)
    (case l__law_refused => k_is)
    (case c__law_refused => k_is)
    (case k__law_refused => k_is)
    (case a_law => k_is)
    (case l_law => k_is)
    (case c_law => k_is)
    (case k_law => k_is)
    (case a_NONE => k_is)
    (case l_NONE => k_is)
    (case a_WHOLE => k_is)
    (case l_WHOLE => k_is)
    (case a_Full => k_is)
    (case a_LostError => k_is)
    (case a_NoAsk => k_is)
    (case a_NoClient => k_is)
    (case a_NoDeeds => k_is)
    (case a_NoLeast => k_is)
    (case a_NoLeasts => k_is)
    (case a_NoLess => k_is)
    (case a_NoLog => k_is)
    (case a_NoName => k_is)
    (case a_NoNumber => k_is)
    (case a_NoOne => k_is)
    (case a_NoPlace => k_is)
    (case a_NoPlan => k_is)
    (case a_NoRate => k_is)
    (case a_NoRatio => k_is)
    (case x_NoRatio => k_exc)
    (case k_NoRatio => k_is)
    (case s_NoRatio => k_is)
    (case y_NoRatio => k_is)
    (case eg_NoRatio => k_is)
    (case ek_NoRatio => k_is)
    (case ed_NoRatio => k_is)
    (case ea_NoRatio => k_is)
    (case em_NoRatio => k_is)
    (case a_NoRivals => k_is)
    (case a_NoRow => k_is)
    (case a_NoSize => k_is)
    (case a_NoStretch => k_is)
    (case a_NoTags => k_is)
    (case a_NoText => k_is)
    (case a_NoTime => k_is)
    (case a_NoTruth => k_is)
    (case a_NoWeight => k_is)
    (case a_NoWord => k_is)
    (case a_Nought => k_is)
    (case a_Past => k_is)
    (case a_ShareError => k_is)
    (case a_Stands => k_is)
    (case a_TagError => k_is)
    (case a_TooMany => k_is)
    (case a_TooMuch => k_is)
    (case en_ => k_is)
    (case et_ => k_is)
    (case qs_NoRatio_Full => k_is)
    (case qn_NoRatio_Full => decide)
    (case ed_Full => k_is)
    (case y_Full => k_is)
    (case qs_NoRatio_LookupError => k_is)
    (case qs_NoRatio_LostError => k_is)
    (case qn_NoRatio_LostError => decide)
    (case ed_LostError => k_is)
    (case y_LostError => k_is)
    (case qs_NoRatio_NoAsk => k_is)
    (case qn_NoRatio_NoAsk => decide)
    (case ed_NoAsk => k_is)
    (case y_NoAsk => k_is)
    (case qs_NoRatio_NoClient => k_is)
    (case qn_NoRatio_NoClient => decide)
    (case ed_NoClient => k_is)
    (case y_NoClient => k_is)
    (case qs_NoRatio_NoDeeds => k_is)
    (case qn_NoRatio_NoDeeds => decide)
    (case ed_NoDeeds => k_is)
    (case y_NoDeeds => k_is)
    (case qs_NoRatio_NoLeast => k_is)
    (case qn_NoRatio_NoLeast => decide)
    (case ed_NoLeast => k_is)
    (case y_NoLeast => k_is)
    (case qs_NoRatio_NoLeasts => k_is)
    (case qn_NoRatio_NoLeasts => decide)
    (case ed_NoLeasts => k_is)
    (case y_NoLeasts => k_is)
    (case qs_NoRatio_NoLess => k_is)
    (case qn_NoRatio_NoLess => decide)
    (case ed_NoLess => k_is)
    (case y_NoLess => k_is)
    (case qs_NoRatio_NoLog => k_is)
    (case qn_NoRatio_NoLog => decide)
    (case ed_NoLog => k_is)
    (case y_NoLog => k_is)
    (case qs_NoRatio_NoName => k_is)
    (case qn_NoRatio_NoName => decide)
    (case ed_NoName => k_is)
    (case y_NoName => k_is)
    (case qs_NoRatio_NoNumber => k_is)
    (case qn_NoRatio_NoNumber => decide)
    (case ed_NoNumber => k_is)
    (case y_NoNumber => k_is)
    (case qs_NoRatio_NoOne => k_is)
    (case qn_NoRatio_NoOne => decide)
    (case ed_NoOne => k_is)
    (case y_NoOne => k_is)
    (case qs_NoRatio_NoPlace => k_is)
    (case qn_NoRatio_NoPlace => decide)
    (case ed_NoPlace => k_is)
    (case y_NoPlace => k_is)
    (case qs_NoRatio_NoPlan => k_is)
    (case qn_NoRatio_NoPlan => decide)
    (case ed_NoPlan => k_is)
    (case y_NoPlan => k_is)
    (case qs_NoRatio_NoRate => k_is)
    (case qn_NoRatio_NoRate => decide)
    (case ed_NoRate => k_is)
    (case y_NoRate => k_is)
    (case qs_NoRatio_NoRatio => k_is)
    (case qs_NoRatio_NoRivals => k_is)
    (case qn_NoRatio_NoRivals => decide)
    (case ed_NoRivals => k_is)
    (case y_NoRivals => k_is)
    (case qs_NoRatio_NoRow => k_is)
    (case qn_NoRatio_NoRow => decide)
    (case ed_NoRow => k_is)
    (case y_NoRow => k_is)
    (case qs_NoRatio_NoSize => k_is)
    (case qn_NoRatio_NoSize => decide)
    (case ed_NoSize => k_is)
    (case y_NoSize => k_is)
    (case qs_NoRatio_NoStretch => k_is)
    (case qn_NoRatio_NoStretch => decide)
    (case ed_NoStretch => k_is)
    (case y_NoStretch => k_is)
    (case qs_NoRatio_NoTags => k_is)
    (case qn_NoRatio_NoTags => decide)
    (case ed_NoTags => k_is)
    (case y_NoTags => k_is)
    (case qs_NoRatio_NoText => k_is)
    (case qn_NoRatio_NoText => decide)
    (case ed_NoText => k_is)
    (case y_NoText => k_is)
    (case qs_NoRatio_NoTime => k_is)
    (case qn_NoRatio_NoTime => decide)
    (case ed_NoTime => k_is)
    (case y_NoTime => k_is)
    (case qs_NoRatio_NoTruth => k_is)
    (case qn_NoRatio_NoTruth => decide)
    (case ed_NoTruth => k_is)
    (case y_NoTruth => k_is)
    (case qs_NoRatio_NoWeight => k_is)
    (case qn_NoRatio_NoWeight => decide)
    (case ed_NoWeight => k_is)
    (case y_NoWeight => k_is)
    (case qs_NoRatio_NoWord => k_is)
    (case qn_NoRatio_NoWord => decide)
    (case ed_NoWord => k_is)
    (case y_NoWord => k_is)
    (case qs_NoRatio_Nought => k_is)
    (case qn_NoRatio_Nought => decide)
    (case ed_Nought => k_is)
    (case y_Nought => k_is)
    (case qs_NoRatio_Past => k_is)
    (case qn_NoRatio_Past => decide)
    (case ed_Past => k_is)
    (case y_Past => k_is)
    (case qs_NoRatio_ShareError => k_is)
    (case qn_NoRatio_ShareError => decide)
    (case ed_ShareError => k_is)
    (case y_ShareError => k_is)
    (case qs_NoRatio_Stands => k_is)
    (case qn_NoRatio_Stands => decide)
    (case ed_Stands => k_is)
    (case y_Stands => k_is)
    (case qs_NoRatio_TagError => k_is)
    (case ed_TagError => k_is)
    (case y_TagError => k_is)
    (case qs_NoRatio_TooMany => k_is)
    (case qn_NoRatio_TooMany => decide)
    (case ed_TooMany => k_is)
    (case y_TooMany => k_is)
    (case qs_NoRatio_TooMuch => k_is)
    (case qn_NoRatio_TooMuch => decide)
    (case ed_TooMuch => k_is)
    (case y_TooMuch => k_is)
    (case qs_NoRatio_ValueError => k_is)
    (case s_TagError => k_is)

