import PyProof.Rows.All
import HandS.ForMost
import HandS.ForExc
import HandS.Wide
import HandS.CallSlots
import HandS.IsInst
import HandS.EndBits
import HandS.SortRule
import HandS.Style
import HandS.WordsExc
import HandS.ExcInit
import HandS.ExcIs
import HandS.ExcField
import KE.KExcIs
import HandS.Iter
import KE.GoesEnum
import HandS.SortInts
import HandS.TupAny
import HandS.TupMul
import HandS.Deep
import HandS.Text
import HandS.NoneIn
import HandS.More
import HandS.Small
import HandS.DictComp
import PySem.Challenge.RW_pensionhall_k54_pots_of_ranks
set_option Elab.async false
set_option linter.all false
set_option maxRecDepth 100000
section
set_option maxHeartbeats 1000000
namespace Own
open PySem PySem.Spec L2

/-- plain data -/
inductive D where
  | non
  | bl (b : Bool)
  | int (i : Int)
  | str (x : Str)
  | tup (xs : List D)
  | lst (xs : List D)
  /-- the script, as it was handed in -/
  | scr (ns : List Int)
  /-- an error that was caught: its class, its field -/
  | exn (cn f : Str) (p : Sum Int Str)
  /-- a dict: its keys, in order (t: tuples; else each key is alone in its list), what stands at them -/
  | dct (t : Bool) (ks : List (List Key)) (xs : List D)

mutual
/-- no list within -/
def imm : D → Bool
  | .tup xs => immAll xs
  | .lst _ => false
  | .dct _ _ _ => false
  | _ => true
def immAll : List D → Bool
  | [] => true
  | x :: xs => imm x && immAll xs
end

/-- a list that is locked, or stands in the written part: the script -/
def SqF (K : PySem.W.Frag) (R : Hp) (a : Addr) (xs : List V) : Prop := (∃ o, R a = some (.frz o (.lst xs))) ∨
    ∃ (o : Obj) (its : Array Value) (n : Nat), K.lookup a = some o ∧ o.cls = .type "list" ∧ o.dict = none ∧ o.data = .seq its n ∧ its.size ≤ sizeLine ∧ Vals xs its.toList
theorem SqF.l {K : PySem.W.Frag} {R : Hp} {a : Addr} {xs : List V} (h : SqF K R a xs) : SqL K R a xs := h.imp (fun h => .inr h) id
/-- an error's field -/
def pV : Sum Int Str → V
  | .inl i => .int i
  | .inr x => .str x
def pD : Sum Int Str → D
  | .inl i => .int i
  | .inr x => .str x
/-- the program's own error classes -/
def errNames : List Str := ["BadNumber", "BadDay", "NoName", "Clash", "Full", "Refused", "TooFar", "TooLarge", "TooMuch", "BadLine", "NoUndo"]
/-- what the written part says of the error class cn, at C, with the field f -/
structure ExK (K : PySem.W.Frag) (cn f : Str) (C : Addr) : Prop where
  gK : PySem.W.nsIn K mainGlobals cn = some (some (.ref C))
  ga : PySem.W.findIn K (.ref C) "__getattribute__" = some (some (.builtin "BaseException.__getattribute__"))
  gg : PySem.W.findIn K (.ref C) "__getattr__" = some none
  exC : PySem.W.subIn K (.ref C) (.type "BaseException") = some true
  hdC : PySem.W.hasDictIn K C = true
  ca : PySem.W.findIn K (.ref C) "__class__" = some (some (.builtin "object.__class__"))
  cg : PySem.W.specialIn K (.builtin "object.__class__") "__get__" = some (some (.builtin "getset_descriptor.__get__"))
  ct : PySem.W.takesIn K (.builtin "object.__class__") = some true
  cm : PySem.W.mroIn K C (.type "object") = some true
  no : PySem.W.findIn K (.ref C) f = some none
  is : ∀ Y ∈ errNames, ∀ CY, PySem.W.nsIn K mainGlobals Y = some (some (.ref CY)) → PySem.W.kitOne K (.ref C) (.ref CY) = some (decide (cn = Y))
  iv : PySem.W.kitOne K (.ref C) (.type "ValueError") = some true
  em : ∀ CP, PySem.W.nsIn K mainGlobals "PensionError" = some (some (.ref CP)) → PySem.W.exmOne K (.ref C) (.ref CP) = some true
/-- at a: a caught error of the class at C, its dict at d -/
def exA (C d a : Addr) : HO := .ext fun h => ∃ (oe : Obj) (vs : Array Value), h.get? a = some oe ∧ oe.cls = .ref C ∧ oe.dict = some d ∧ oe.data = .fields vs
def ExR (K : PySem.W.Frag) (R : Hp) (cn f : Str) (p : Sum Int Str) (v : V) : Prop := ∃ a d C, v = .ref a ∧ ExK K cn f C ∧ R a = some (exA C d a) ∧ R d = some (.xd [(f, pV p)])
/-- the key that stands alone -/
def k1 (k : List Key) : Key := k.headD (.inl 0)
/-- a dict as the heap has it -/
def dHO (t : Bool) (ks : List (List Key)) (us : List V) : HO := if t then .dT (ks.zip us) else .dK ((ks.map k1).zip us)
/-- what can be owned -/
def Cel (o : HO) : Prop := (∃ xs, o = .lst xs) ∨ (∃ t ks us, o = dHO t ks us) ∨ (∃ C dx fs, o = .ins C dx fs) ∨ ∃ x, o = .own x
abbrev Ob (H : Hp) (a : Addr) : Prop := ∃ o : {o : HO // Cel o}, H a = some o.1
theorem ob_lst {H : Hp} {a : Addr} {xs : List V} (e : H a = some (.lst xs)) : Ob H a := ⟨⟨_, .inl ⟨xs, rfl⟩⟩, e⟩
theorem ob_dct {H : Hp} {a : Addr} {t : Bool} {ks : List (List Key)} {us : List V} (e : H a = some (dHO t ks us)) : Ob H a := ⟨⟨_, .inr (.inl ⟨t, ks, us, rfl⟩)⟩, e⟩
theorem Ob.no {H : Hp} {a : Addr} {o : HO} (h : Ob H a) (e : H a = some o) (n : ¬ Cel o) : False := by
  obtain ⟨⟨u, c⟩, q⟩ := h
  rw [e] at q
  cases q
  exact n c
theorem nc_tup {xs : List V} : ¬ Cel (.tup xs) := fun z => by
  rcases z with ⟨_, z⟩ | ⟨t, _, _, z⟩ | ⟨_, _, _, z⟩ | ⟨_, z⟩
  · cases z
  · cases t <;> cases z
  · cases z
  · cases z
theorem nc_frz {o : Obj} {u : HO} : ¬ Cel (.frz o u) := fun z => by
  rcases z with ⟨_, z⟩ | ⟨t, _, _, z⟩ | ⟨_, _, _, z⟩ | ⟨_, z⟩
  · cases z
  · cases t <;> cases z
  · cases z
  · cases z
theorem nc_ext {p : Heap → Prop} : ¬ Cel (.ext p) := fun z => by
  rcases z with ⟨_, z⟩ | ⟨t, _, _, z⟩ | ⟨_, _, _, z⟩ | ⟨_, z⟩
  · cases z
  · cases t <;> cases z
  · cases z
  · cases z
theorem nc_xd {fs : List (Str × V)} : ¬ Cel (.xd fs) := fun z => by
  rcases z with ⟨_, z⟩ | ⟨t, _, _, z⟩ | ⟨_, _, _, z⟩ | ⟨_, z⟩
  · cases z
  · cases t <;> cases z
  · cases z
  · cases z
mutual
/-- the data d is to be read at v in R -/
def Rep (K : PySem.W.Frag) (R : Hp) : D → V → Prop
  | .non, v => v = .non
  | .bl b, v => v = .bl b
  | .int i, v => v = .int i
  | .str x, v => v = .str x
  | .tup ds, v => ∃ a vs, v = .ref a ∧ SqT K R a vs ∧ Reps K R ds vs
  | .lst ds, v => ∃ a vs, v = .ref a ∧ R a = some (.lst vs) ∧ Reps K R ds vs
  | .scr ns, v => ∃ a, v = .ref a ∧ SqF K R a (ns.map V.int)
  | .exn cn f p, v => ExR K R cn f p v
  | .dct t ks ds, v => ∃ a vs, v = .ref a ∧ Rd R a (dHO t ks vs) ∧ Reps K R ds vs
def Reps (K : PySem.W.Frag) (R : Hp) : List D → List V → Prop
  | [], vs => vs = []
  | d :: ds, vs => ∃ v r, vs = v :: r ∧ Rep K R d v ∧ Reps K R ds r
end

mutual
/-- .. the lists down to the level l are owned, they are those of fp; the rest is to be read in R -/
def ORep (K : PySem.W.Frag) (H R : Hp) : Nat → D → V → List Addr → Prop
  | 0, d, v, fp => fp = [] ∧ Rep K R d v
  | _ + 1, .non, v, fp => fp = [] ∧ v = .non
  | _ + 1, .bl b, v, fp => fp = [] ∧ v = .bl b
  | _ + 1, .int i, v, fp => fp = [] ∧ v = .int i
  | _ + 1, .str x, v, fp => fp = [] ∧ v = .str x
  | _ + 1, .scr ns, v, fp => fp = [] ∧ ∃ a, v = .ref a ∧ SqF K R a (ns.map V.int)
  | _ + 1, .exn cn f p, v, fp => fp = [] ∧ ExR K R cn f p v
  | l + 1, .tup ds, v, fp => ∃ a vs, v = .ref a ∧ SqT K R a vs ∧ OReps K H R (l + 1) ds vs fp
  | l + 1, .lst ds, v, fp => ∃ a vs f, v = .ref a ∧ H a = some (.lst vs) ∧ fp = a :: f ∧ OReps K H R (if l = 0 then 0 else l + 1) ds vs f
  | l + 1, .dct t ks ds, v, fp => ∃ a vs f, v = .ref a ∧ H a = some (dHO t ks vs) ∧ fp = a :: f ∧ OReps K H R (if l = 0 then 0 else l + 1) ds vs f
def OReps (K : PySem.W.Frag) (H R : Hp) : Nat → List D → List V → List Addr → Prop
  | _, [], vs, fp => vs = [] ∧ fp = []
  | l, d :: ds, vs, fp => ∃ v r f g, vs = v :: r ∧ fp = f ++ g ∧ ORep K H R l d v f ∧ OReps K H R l ds r g
end

/-- R' holds what R holds -/
abbrev Sub (R R' : Hp) : Prop := ∀ a o, R a = some o → R' a = some o
theorem Sub.rd {R R' : Hp} {a : Addr} {u : HO} (s : Sub R R') (h : Rd R a u) : Rd R' a u := by
  rcases h with h | ⟨o, h⟩
  · exact .inl (s _ _ h)
  · exact .inr ⟨o, s _ _ h⟩
theorem Sub.l {K : PySem.W.Frag} {R R' : Hp} {a : Addr} {xs : List V} (s : Sub R R') (h : SqL K R a xs) : SqL K R' a xs := h.imp s.rd id
theorem Sub.f {K : PySem.W.Frag} {R R' : Hp} {a : Addr} {xs : List V} (s : Sub R R') (h : SqF K R a xs) : SqF K R' a xs := h.imp (fun ⟨o, e⟩ => ⟨o, s _ _ e⟩) id
theorem Sub.x {K : PySem.W.Frag} {R R' : Hp} {cn f : Str} {p : Sum Int Str} {v : V} (s : Sub R R') (h : ExR K R cn f p v) : ExR K R' cn f p v := by
  obtain ⟨a, d, C, e, x, h1, h2⟩ := h
  exact ⟨a, d, C, e, x, s _ _ h1, s _ _ h2⟩
theorem Sub.t {K : PySem.W.Frag} {R R' : Hp} {a : Addr} {xs : List V} (s : Sub R R') (h : SqT K R a xs) : SqT K R' a xs := h.imp s.rd id

section
variable {K : PySem.W.Frag} {H H' R R' : Hp}
mutual
theorem Rep.mono (s : Sub R R') : ∀ {d : D} {v : V}, Rep K R d v → Rep K R' d v
  | .non, _, h => h
  | .bl _, _, h => h
  | .int _, _, h => h
  | .str _, _, h => h
  | .tup ds, v, h => by
    obtain ⟨a, vs, e, q, r⟩ := h
    exact ⟨a, vs, e, s.t q, Reps.mono s r⟩
  | .lst ds, v, h => by
    obtain ⟨a, vs, e, q, r⟩ := h
    exact ⟨a, vs, e, s _ _ q, Reps.mono s r⟩
  | .scr ns, v, h => by
    obtain ⟨a, e, q⟩ := h
    exact ⟨a, e, s.f q⟩
  | .exn _ _ _, v, h => s.x h
  | .dct _ _ ds, v, h => by
    obtain ⟨a, vs, e, q, r⟩ := h
    exact ⟨a, vs, e, s.rd q, Reps.mono s r⟩
theorem Reps.mono (s : Sub R R') : ∀ {ds : List D} {vs : List V}, Reps K R ds vs → Reps K R' ds vs
  | [], _, h => h
  | d :: ds, vs, h => by
    obtain ⟨v, r, e, h1, h2⟩ := h
    exact ⟨v, r, e, Rep.mono s h1, Reps.mono s h2⟩
end
mutual
/-- the owned objects stand, the rest is there -/
theorem ORep.mono (s : Sub R R') : ∀ {l : Nat} {d : D} {v : V} {fp : List Addr}, (∀ a ∈ fp, ∀ o, H a = some o → H' a = some o) → ORep K H R l d v fp → ORep K H' R' l d v fp
  | 0, d, v, fp, k, h => by
    unfold ORep at h ⊢
    exact ⟨h.1, Rep.mono s h.2⟩
  | _ + 1, .non, _, _, _, h => h
  | _ + 1, .bl _, _, _, _, h => h
  | _ + 1, .int _, _, _, _, h => h
  | _ + 1, .str _, _, _, _, h => h
  | _ + 1, .scr _, _, _, _, h => ⟨h.1, h.2.choose, h.2.choose_spec.1, s.f h.2.choose_spec.2⟩
  | _ + 1, .exn _ _ _, _, _, _, h => ⟨h.1, s.x h.2⟩
  | l + 1, .tup ds, v, fp, k, h => by
    obtain ⟨a, vs, e, q, r⟩ := h
    exact ⟨a, vs, e, s.t q, OReps.mono s k r⟩
  | l + 1, .lst ds, v, fp, k, h => by
    obtain ⟨a, vs, f, e, q, ef, r⟩ := h
    subst ef
    exact ⟨a, vs, f, e, k a List.mem_cons_self _ q, rfl, OReps.mono s (fun b hb => k b (List.mem_cons_of_mem _ hb)) r⟩
  | l + 1, .dct _ _ ds, v, fp, k, h => by
    obtain ⟨a, vs, f, e, q, ef, r⟩ := h
    subst ef
    exact ⟨a, vs, f, e, k a List.mem_cons_self _ q, rfl, OReps.mono s (fun b hb => k b (List.mem_cons_of_mem _ hb)) r⟩
theorem OReps.mono (s : Sub R R') : ∀ {l : Nat} {ds : List D} {vs : List V} {fp : List Addr}, (∀ a ∈ fp, ∀ o, H a = some o → H' a = some o) → OReps K H R l ds vs fp → OReps K H' R' l ds vs fp
  | l, [], _, _, _, h => by unfold OReps at h ⊢; exact h
  | l, d :: ds, vs, fp, k, h => by
    unfold OReps at h ⊢
    obtain ⟨v, r, f, g, e, ef, h1, h2⟩ := h
    subst ef
    exact ⟨v, r, f, g, e, rfl, ORep.mono s (fun a ha => k a (List.mem_append_left _ ha)) h1, OReps.mono s (fun a ha => k a (List.mem_append_right _ ha)) h2⟩
end
mutual
/-- all of it is read -/
theorem ORep.rep (s : Sub R R') : ∀ {l : Nat} {d : D} {v : V} {fp : List Addr}, (∀ a ∈ fp, ∀ o, H a = some o → R' a = some o) → ORep K H R l d v fp → Rep K R' d v
  | 0, d, v, fp, k, h => by
    unfold ORep at h
    exact Rep.mono s h.2
  | _ + 1, .non, _, _, _, h => h.2
  | _ + 1, .bl _, _, _, _, h => h.2
  | _ + 1, .int _, _, _, _, h => h.2
  | _ + 1, .str _, _, _, _, h => h.2
  | _ + 1, .scr _, _, _, _, h => ⟨h.2.choose, h.2.choose_spec.1, s.f h.2.choose_spec.2⟩
  | _ + 1, .exn _ _ _, _, _, _, h => s.x h.2
  | l + 1, .tup ds, v, fp, k, h => by
    obtain ⟨a, vs, e, q, r⟩ := h
    exact ⟨a, vs, e, s.t q, OReps.rep s k r⟩
  | l + 1, .lst ds, v, fp, k, h => by
    obtain ⟨a, vs, f, e, q, ef, r⟩ := h
    subst ef
    exact ⟨a, vs, e, k a List.mem_cons_self _ q, OReps.rep s (fun b hb => k b (List.mem_cons_of_mem _ hb)) r⟩
  | l + 1, .dct _ _ ds, v, fp, k, h => by
    obtain ⟨a, vs, f, e, q, ef, r⟩ := h
    subst ef
    exact ⟨a, vs, e, .inl (k a List.mem_cons_self _ q), OReps.rep s (fun b hb => k b (List.mem_cons_of_mem _ hb)) r⟩
theorem OReps.rep (s : Sub R R') : ∀ {l : Nat} {ds : List D} {vs : List V} {fp : List Addr}, (∀ a ∈ fp, ∀ o, H a = some o → R' a = some o) → OReps K H R l ds vs fp → Reps K R' ds vs
  | l, [], _, _, _, h => by unfold OReps at h; exact h.1
  | l, d :: ds, vs, fp, k, h => by
    unfold OReps at h
    obtain ⟨v, r, f, g, e, ef, h1, h2⟩ := h
    subst ef
    exact ⟨v, r, e, ORep.rep s (fun a ha => k a (List.mem_append_left _ ha)) h1, OReps.rep s (fun a ha => k a (List.mem_append_right _ ha)) h2⟩
end
mutual
/-- a value without lists is owned at every level -/
theorem Rep.own : ∀ {l : Nat} {d : D} {v : V}, imm d = true → Rep K R d v → ORep K H R l d v []
  | 0, d, v, _, h => by unfold ORep; exact ⟨rfl, h⟩
  | _ + 1, .non, _, _, h => ⟨rfl, h⟩
  | _ + 1, .bl _, _, _, h => ⟨rfl, h⟩
  | _ + 1, .int _, _, _, h => ⟨rfl, h⟩
  | _ + 1, .str _, _, _, h => ⟨rfl, h⟩
  | _ + 1, .scr _, _, _, h => ⟨rfl, h⟩
  | _ + 1, .exn _ _ _, _, _, h => ⟨rfl, h⟩
  | l + 1, .tup ds, v, i, h => by
    obtain ⟨a, vs, e, q, r⟩ := h
    exact ⟨a, vs, e, q, Reps.own (by unfold imm at i; exact i) r⟩
  | l + 1, .lst ds, v, i, _ => by unfold imm at i; cases i
  | l + 1, .dct _ _ ds, v, i, _ => by unfold imm at i; cases i
theorem Reps.own : ∀ {l : Nat} {ds : List D} {vs : List V}, immAll ds = true → Reps K R ds vs → OReps K H R l ds vs []
  | l, [], _, _, h => by unfold OReps; exact ⟨h, rfl⟩
  | l, d :: ds, vs, i, h => by
    unfold OReps
    obtain ⟨v, r, e, h1, h2⟩ := h
    unfold immAll at i
    rw [Bool.and_eq_true] at i
    exact ⟨v, r, [], [], e, rfl, Rep.own i.1 h1, Reps.own i.2 h2⟩
end
mutual
/-- a value without lists owns nothing -/
theorem ORep.imm_nil : ∀ {l : Nat} {d : D} {v : V} {fp : List Addr}, imm d = true → ORep K H R l d v fp → fp = []
  | 0, d, v, fp, _, h => by unfold ORep at h; exact h.1
  | _ + 1, .non, _, _, _, h => h.1
  | _ + 1, .bl _, _, _, _, h => h.1
  | _ + 1, .int _, _, _, _, h => h.1
  | _ + 1, .str _, _, _, _, h => h.1
  | _ + 1, .scr _, _, _, _, h => h.1
  | _ + 1, .exn _ _ _, _, _, _, h => h.1
  | l + 1, .tup ds, v, fp, i, h => by
    obtain ⟨a, vs, e, q, r⟩ := h
    exact OReps.imm_nil (by unfold imm at i; exact i) r
  | l + 1, .lst ds, v, fp, i, _ => by unfold imm at i; cases i
  | l + 1, .dct _ _ ds, v, fp, i, _ => by unfold imm at i; cases i
theorem OReps.imm_nil : ∀ {l : Nat} {ds : List D} {vs : List V} {fp : List Addr}, immAll ds = true → OReps K H R l ds vs fp → fp = []
  | l, [], _, _, _, h => by unfold OReps at h; exact h.2
  | l, d :: ds, vs, fp, i, h => by
    unfold OReps at h
    obtain ⟨v, r, f, g, e, ef, h1, h2⟩ := h
    unfold immAll at i
    rw [Bool.and_eq_true] at i
    rw [ef, ORep.imm_nil i.1 h1, OReps.imm_nil i.2 h2]
    rfl
end
theorem ORep.to_rep0 {d : D} {v : V} {l : Nat} {fp : List Addr} (i : imm d = true) (h : ORep K H R l d v fp) : Rep K R d v :=
  ORep.rep (fun _ _ e => e) (fun a ha => by rw [ORep.imm_nil i h] at ha; cases ha) h
/-- a value at level 0 -/
theorem orep0 {d : D} {v : V} (h : Rep K R d v) : ORep K H R 0 d v [] := by unfold ORep; exact ⟨rfl, h⟩
mutual
/-- a new object, an object elsewhere changed: what is owned stands -/
theorem ORep.obj : ∀ {l : Nat} {d : D} {v : V} {fp : List Addr}, ORep K H R l d v fp → ∀ a ∈ fp, Ob H a
  | 0, d, v, fp, h => by
    unfold ORep at h
    intro a ha
    rw [h.1] at ha
    cases ha
  | _ + 1, .non, _, _, h => by intro a ha; rw [h.1] at ha; cases ha
  | _ + 1, .bl _, _, _, h => by intro a ha; rw [h.1] at ha; cases ha
  | _ + 1, .int _, _, _, h => by intro a ha; rw [h.1] at ha; cases ha
  | _ + 1, .str _, _, _, h => by intro a ha; rw [h.1] at ha; cases ha
  | _ + 1, .scr _, _, _, h => by intro a ha; rw [h.1] at ha; cases ha
  | _ + 1, .exn _ _ _, _, _, h => by intro a ha; rw [h.1] at ha; cases ha
  | l + 1, .tup ds, v, fp, h => by
    obtain ⟨a, vs, e, q, r⟩ := h
    exact OReps.obj r
  | l + 1, .lst ds, v, fp, h => by
    obtain ⟨a, vs, f, e, q, ef, r⟩ := h
    subst ef
    intro b hb
    rcases List.mem_cons.mp hb with z | z
    · rw [z]; exact ob_lst q
    · exact OReps.obj r b z
  | l + 1, .dct _ _ ds, v, fp, h => by
    obtain ⟨a, vs, f, e, q, ef, r⟩ := h
    subst ef
    intro b hb
    rcases List.mem_cons.mp hb with z | z
    · rw [z]; exact ob_dct q
    · exact OReps.obj r b z
theorem OReps.obj : ∀ {l : Nat} {ds : List D} {vs : List V} {fp : List Addr}, OReps K H R l ds vs fp → ∀ a ∈ fp, Ob H a
  | l, [], _, _, h => by
    unfold OReps at h
    intro a ha
    rw [h.2] at ha
    cases ha
  | l, d :: ds, vs, fp, h => by
    unfold OReps at h
    obtain ⟨v, r, f, g, e, ef, h1, h2⟩ := h
    subst ef
    intro a ha
    rcases List.mem_append.mp ha with z | z
    · exact ORep.obj h1 a z
    · exact OReps.obj h2 a z
end
end
end Own

end
section
set_option maxHeartbeats 1000000
namespace Own
open PySem PySem.Spec PyProof.Rows L2
/-- the lists at a, b, c as they stand at each turn, the items in new tuples -/
def Itz3 (K : PySem.W.Frag) (a b c : Addr) : It :=
  ⟨fun i H => ∃ (xs ys zs : List V) (x y z : V), SqL K H a xs ∧ SqL K H b ys ∧ SqL K H c zs ∧ xs[i]? = some x ∧ ys[i]? = some y ∧ zs[i]? = some z,
    fun i H v H' => ∃ T x y z, v = .ref T ∧ H T = none ∧ H' = upd H T (.tup [x, y, z]) ∧ (∀ xs, SqL K H a xs → xs[i]? = some x) ∧ (∀ ys, SqL K H b ys → ys[i]? = some y) ∧ ∀ zs, SqL K H c zs → zs[i]? = some z,
    fun i H => ∃ xs ys zs : List V, SqL K H a xs ∧ SqL K H b ys ∧ SqL K H c zs ∧ i ≤ xs.length ∧ i ≤ ys.length ∧ i ≤ zs.length ∧ (i = xs.length ∨ i = ys.length ∨ i = zs.length)⟩
theorem turn_zip3 {P : Program} {w : World} {K : PySem.W.Frag} {elts : List Expr} {kk : Nat} {tpos : Pos} {a b c z TI TO i1 i2 i3 : Addr} (D : ZipSep3 z TI TO i1 i2 i3 [i1, a] [i2, b] [i3, c]) :
    Turn P w K (.Tuple elts kk tpos) (Itz3 K a b c) [z, TI, TO, i1, i2, i3] z (fun i h => IsZip h z TI TO .none ∧ IsTupOf3 h TI (.ref i1) (.ref i2) (.ref i3) ∧ (∃ x y u, IsTupOf3 h TO x y u) ∧ h.IsListIter i1 a i ∧ h.IsListIter i2 b i ∧ h.IsListIter i3 c i) where
  mem := by simp
  obj := fun i h st d hd => by
    obtain ⟨hz, hTI, ⟨x, y, u, hTO⟩, ⟨o1, e1, _, d1⟩, ⟨o2, e2, _, d2⟩, ⟨o3, e3, _, d3⟩⟩ := st
    have e' : d = z ∨ d = TI ∨ d = TO ∨ d = i1 ∨ d = i2 ∨ d = i3 := by simpa using hd
    rcases e' with q | q | q | q | q | q
    · rw [q]; exact ⟨_, hz, fun v q => nomatch q⟩
    · rw [q]; exact ⟨_, hTI, fun v q => nomatch q⟩
    · rw [q]; exact ⟨_, hTO, fun v q => nomatch q⟩
    · rw [q]; exact ⟨o1, e1, fun v q => by rw [d1] at q; cases q⟩
    · rw [q]; exact ⟨o2, e2, fun v q => by rw [d2] at q; cases q⟩
    · rw [q]; exact ⟨o3, e3, fun v q => by rw [d3] at q; cases q⟩
  keep := fun i h h' st k => by
    obtain ⟨hz, hTI, ⟨x, y, u, hTO⟩, h1, h2, h3⟩ := st
    exact ⟨k z (by simp) _ hz, k TI (by simp) _ hTI, ⟨x, y, u, k TO (by simp) _ hTO⟩, h1.at fun o q => k i1 (by simp) o q, h2.at fun o q => k i2 (by simp) o q, h3.at fun o q => k i3 (by simp) o q⟩
  item := by
    intro X hP hw hK hc i pins s σ H E I hf st hg
    subst hP hw hK
    obtain ⟨hz, hTI, ⟨x0, y0, u0, hTO⟩, h1, h2, h3⟩ := st
    obtain ⟨xs, ys, us, x, y, u, hqx, hqy, hqu, hx, hy, hu⟩ := hg
    obtain ⟨its, rv, p, _⟩ := I.list hqx
    obtain ⟨its2, rv2, p2, _⟩ := I.list hqy
    obtain ⟨its3, rv3, p3, _⟩ := I.list hqu
    obtain ⟨v1, hv1, ru1⟩ := rv.get hx
    obtain ⟨v2, hv2, ru2⟩ := rv2.get hy
    obtain ⟨v3, hv3, ru3⟩ := rv3.get hu
    have hh : X.A.in1.handled = none := I.ok.hd hc
    have ne1 : a ≠ i1 := fun e => by
      obtain ⟨o, e1, _, d1⟩ := h1
      have := p.isList
      obtain ⟨o', e', _, _, d'⟩ := this
      rw [e, e1] at e'; cases e'
      rw [d1] at d'; cases d'
    have ne2 : b ≠ i2 := fun e => by
      obtain ⟨o, e1, _, d1⟩ := h2
      have := p2.isList
      obtain ⟨o', e', _, _, d'⟩ := this
      rw [e, e1] at e'; cases e'
      rw [d1] at d'; cases d'
    have ne3 : c ≠ i3 := fun e => by
      obtain ⟨o, e1, _, d1⟩ := h3
      have := p3.isList
      obtain ⟨o', e', _, _, d'⟩ := this
      rw [e, e1] at e'; cases e'
      rw [d1] at d'; cases d'
    have hzl : z < s.heap.objs.size := Heap.lt_size hz
    have k1 : i < its.length := (List.getElem?_eq_some_iff.mp hv1).1
    have k2 : i < its2.length := (List.getElem?_eq_some_iff.mp hv2).1
    have k3 : i < its3.length := (List.getElem?_eq_some_iff.mp hv3).1
    refine wpAny_pyNext_zipD3_item D (Draws.list hh i1 a ne1 its.toArray) (Draws.list hh i2 b ne2 its2.toArray) (Draws.list hh i3 c ne3 its3.toArray) hz hTI hTO ⟨h1, p.isList⟩ ⟨h2, p2.isList⟩ ⟨h3, p3.isList⟩ (by simpa using k1) (by simpa using k2) (by simpa using k3) fun x1 x2 x3 h' tk y1 y2 y3 z' TO' s1' s2' s3' hT hsz hk => ?_
    have e1 : x1 = v1 := by
      have : its[i]? = some x1 := by simpa using y1
      rw [hv1] at this; cases this; rfl
    have e2 : x2 = v2 := by
      have : its2[i]? = some x2 := by simpa using y2
      rw [hv2] at this; cases this; rfl
    have e3 : x3 = v3 := by
      have : its3[i]? = some x3 := by simpa using y3
      rw [hv3] at this; cases this; rfl
    subst e1 e2 e3
    refine ⟨_, rfl, wpAny_letOwnedTupleGo_zip (s := { s with heap := h', toks := tk }) z' fun h'' z'' sb => ?_⟩
    have hT2 : h''.get? s.heap.objs.size = some { cls := .type "tuple", data := .seq #[x1, x2, x3] } := (sb.2 _ (Nat.ne_of_gt hzl)).trans hT
    have new : ObjOk X.prog X.w (upd H s.heap.objs.size (.tup [x, y, u])) h'' s.heap.objs.size (.tup [x, y, u]) :=
      ⟨by show 3 ≤ sizeLine; decide, [x1, x2, x3], .cons ru1 (.cons ru2 (.cons ru3 .nil)), ⟨_, hT2, rfl, _, rfl⟩⟩
    have i1z : i1 ≠ z := D.zi1.symm
    have i2z : i2 ≠ z := D.zi2.symm
    have i3z : i3 ≠ z := D.zi3.symm
    have I1 : Inv X pins σ (upd H s.heap.objs.size (.tup [x, y, u])) { s with heap := h'', toks := tk } :=
      I.turnedNew (t' := tk) (ch := [z, TI, TO, i1, i2, i3]) (fun d o hb q => (sb.2 d (fun q' => hb (by simp [q']))).trans (hk d o (fun q' => hb (by simp [q'])) (fun q' => hb (by simp [q'])) (fun q' => hb (by simp [q'])) (fun q' => hb (by simp [q'])) (fun q' => hb (by simp [q'])) q)) hf (Nat.le_refl _) new
    refine ⟨.ref s.heap.objs.size, _, I1, rfl, ⟨_, x, y, u, rfl, I.hok.fresh (Nat.le_refl _), rfl, fun l hl => by rw [I.list_inj hl hqx]; exact hx, fun l hl => by rw [I.list_inj hl hqy]; exact hy, fun l hl => by rw [I.list_inj hl hqu]; exact hu⟩, ⟨z'', ?_, ⟨x1, x2, x3, ?_⟩, ?_, ?_, ?_⟩, fun d hdm => ?_⟩
    · exact (sb.2 _ D.TIz).trans (hk _ _ D.TIz D.TITO D.TIi1 D.TIi2 D.TIi3 hTI)
    · exact (sb.2 _ D.TOz).trans TO'
    · exact s1'.1.at fun o q => (sb.2 _ i1z).trans q
    · exact s2'.1.at fun o q => (sb.2 _ i2z).trans q
    · exact s3'.1.at fun o q => (sb.2 _ i3z).trans q
    · have hlt : d < s.heap.objs.size := by
        have e' : d = z ∨ d = TI ∨ d = TO ∨ d = i1 ∨ d = i2 ∨ d = i3 := by simpa using hdm
        rcases e' with q | q | q | q | q | q
        · rw [q]; exact hzl
        · rw [q]; exact Heap.lt_size hTI
        · rw [q]; exact Heap.lt_size hTO
        · rw [q]; obtain ⟨_, e1, _⟩ := h1; exact Heap.lt_size e1
        · rw [q]; obtain ⟨_, e2, _⟩ := h2; exact Heap.lt_size e2
        · rw [q]; obtain ⟨_, e3, _⟩ := h3; exact Heap.lt_size e3
      rw [upd_ne (Nat.ne_of_lt hlt)]
      exact (hf d hdm).1
  done := by
    intro X hP hw hK hc i pins s σ H E I hf st hg
    subst hP hw hK
    obtain ⟨hz, hTI, ⟨x0, y0, u0, hTO⟩, h1, h2, h3⟩ := st
    obtain ⟨xs, ys, us, hqx, hqy, hqu, q1, q2, q3, hend⟩ := hg
    obtain ⟨its, rv, p, _⟩ := I.list hqx
    obtain ⟨its2, rv2, p2, _⟩ := I.list hqy
    obtain ⟨its3, rv3, p3, _⟩ := I.list hqu
    have l1 := rv.length
    have l2 := rv2.length
    have l3 := rv3.length
    have hh : X.A.in1.handled = none := I.ok.hd hc
    have ne1 : a ≠ i1 := fun e => by
      obtain ⟨o, e1, _, d1⟩ := h1
      have := p.isList
      obtain ⟨o', e', _, _, d'⟩ := this
      rw [e, e1] at e'; cases e'
      rw [d1] at d'; cases d'
    have ne2 : b ≠ i2 := fun e => by
      obtain ⟨o, e1, _, d1⟩ := h2
      have := p2.isList
      obtain ⟨o', e', _, _, d'⟩ := this
      rw [e, e1] at e'; cases e'
      rw [d1] at d'; cases d'
    have ne3 : c ≠ i3 := fun e => by
      obtain ⟨o, e1, _, d1⟩ := h3
      have := p3.isList
      obtain ⟨o', e', _, _, d'⟩ := this
      rw [e, e1] at e'; cases e'
      rw [d1] at d'; cases d'
    refine wpAny_pyNext_zipD3_end D (Draws.list hh i1 a ne1 its.toArray) (Draws.list hh i2 b ne2 its2.toArray) (Draws.list hh i3 c ne3 its3.toArray) hz hTI hTO ⟨h1, p.isList⟩ ⟨h2, p2.isList⟩ ⟨h3, p3.isList⟩ (by simp; omega) (by simp; omega) (by simp; omega) (by simp; omega) fun h' tk hk => ⟨rfl, I.turnedL (t' := tk) (ch := [z, TI, TO, i1, i2, i3]) (fun d o hb q =>
      hk d o (fun q' => hb (by simp [q'])) (fun q' => hb (by simp [q'])) (fun q' => hb (by simp [q'])) (fun q' => hb (by simp [q'])) (fun q' => hb (by simp [q'])) q) hf⟩
  self := fun A i s Q E st h => wpAny_pyIter_zip st.1 h
def iZip3 (K : PySem.W.Frag) (ta : TA) : TI := fun σ H R => ta σ H fun vs H1 => ∃ a b c xs ys zs, vs = [.ref a, .ref b, .ref c] ∧ SqL K H1 a xs ∧ SqL K H1 b ys ∧ SqL K H1 c zs ∧ R (Itz3 K a b c) H1
theorem pi_zip3 {X : Cx} {e e2 e3 : Expr} {ta : TA} {p pos tpos : Pos} {elts : List Expr} {kk : Nat} (hg : Gl X "zip") (hm : X.mg "zip" = none) (ha : PA X [e, e2, e3] ta)
    (hs : starEach [e, e2, e3] X.env = (false, eval e X.env) :: starEach [e2, e3] X.env := by rfl) (hpl : (backTo pos (starEach [e2, e3] X.env)).any (·.1) = false := by rfl) :
    PI X (.Tuple elts kk tpos) (.Call (.Name "zip" p) [e, e2, e3] [] pos) (iZip3 X.K ta) := by
  refine ⟨fun pins s σ H R I h => ?_⟩
  refine Call_ (ld_blt I hg hm PyProof.Rows.boot_zip (PyProof.Rows.callWith_type1 (thn (ha.run pos pins s σ H _ I h) fun us s1 ⟨vs, H1, I1, r1, q1⟩ => ?_) hs hpl))
  obtain ⟨a, b, c, xs, ys, zs, ex, hqx, hqy, hqz, q⟩ := q1
  subst ex
  cases r1 with
  | cons r rr =>
    cases rr with
    | cons r' rr =>
      cases rr with
      | cons r'' rr =>
        cases rr
        cases r
        cases r'
        cases r''
        obtain ⟨its, rv, p1, _⟩ := I1.list hqx
        obtain ⟨its2, rv2, p2, _⟩ := I1.list hqy
        obtain ⟨its3, rv3, p3, _⟩ := I1.list hqz
        have la : a < s1.heap.objs.size := p1.lt
        have lb : b < s1.heap.objs.size := p2.lt
        have lc : c < s1.heap.objs.size := p3.lt
        refine zip_begins3 (begins_list a its.toArray) (begins_list b its2.toArray) (begins_list c its3.toArray) p1.isList p2.isList p3.isList fun h' hz hTI hTO h1 h2 h3 hsz hk => wpAny_pyIter_zip hz ?_
        have I2 : Inv X pins σ H1 { s1 with heap := h' } := I1.kept (t' := s1.toks) hk
        have D := zip_sep3 (N := s1.heap.objs.size) (fp1 := [a]) (fp2 := [b]) (fp3 := [c]) (fun x hx => by rw [List.mem_singleton.mp hx]; exact la) (fun x hx => by rw [List.mem_singleton.mp hx]; exact lb) (fun x hx => by rw [List.mem_singleton.mp hx]; exact lc)
        refine ⟨s1.heap.objs.size + 5, [s1.heap.objs.size + 5, s1.heap.objs.size + 3, s1.heap.objs.size + 4, s1.heap.objs.size, s1.heap.objs.size + 1, s1.heap.objs.size + 2], _, _, H1, rfl, I2, turn_zip3 D, ⟨hz, hTI, ⟨_, _, _, hTO⟩, ⟨_, h1, rfl, rfl⟩, ⟨_, h2, rfl, rfl⟩, ⟨_, h3, rfl, rfl⟩⟩, fun d hdm => ?_, q⟩
        have e' : d = s1.heap.objs.size + 5 ∨ d = s1.heap.objs.size + 3 ∨ d = s1.heap.objs.size + 4 ∨ d = s1.heap.objs.size ∨ d = s1.heap.objs.size + 1 ∨ d = s1.heap.objs.size + 2 := by simpa using hdm
        have hle : s1.heap.objs.size ≤ d := by
          rcases e' with z | z | z | z | z | z
          · rw [z]; exact Nat.le_add_right _ _
          · rw [z]; exact Nat.le_add_right _ _
          · rw [z]; exact Nat.le_add_right _ _
          · rw [z]; exact Nat.le_refl _
          · rw [z]; exact Nat.le_add_right _ _
          · rw [z]; exact Nat.le_add_right _ _
        exact I1.fpOk hle (I1.hok.fresh hle)
end Own

end
section
set_option maxHeartbeats 1000000
namespace Own
open PySem PySem.Spec L2

noncomputable def cut (H : Hp) (P : Addr → Prop) : Hp := fun a => by classical exact if P a then none else H a
theorem cut_some {H : Hp} {P : Addr → Prop} {a : Addr} {o : HO} : cut H P a = some o ↔ ¬ P a ∧ H a = some o := by
  unfold cut
  by_cases h : P a
  · simp [h]
  · simp [h]
theorem cut_sub {H H' : Hp} {P P' : Addr → Prop} (h : ∀ a o, ¬ P a → H a = some o → H' a = some o ∧ ¬ P' a) : Sub (cut H P) (cut H' P') := fun a o e => by
  rw [cut_some] at e ⊢
  obtain ⟨h1, h2⟩ := h a o e.1 e.2
  exact ⟨h2, h1⟩
theorem cut_le {H : Hp} {P : Addr → Prop} : Sub (cut H P) H := fun a o e => (cut_some.mp e).2

/-- a value in hand: its level (0: not owned), the slots whose lists it may reach, the data -/
structure W where
  l : Nat
  rs : List Nat
  d : D
abbrev Slot := Option W
abbrev Gm := List Slot
/-- the lists that each slot (behind the slots: each value in hand) owns -/
abbrev Fpt := Nat → List Addr
def Oth (F : Fpt) (rs : List Nat) (a : Addr) : Prop := ∃ j, j ∉ rs ∧ a ∈ F j
def put (F : Fpt) (i : Nat) (f : List Addr) : Fpt := fun k => if k = i then f else F k
theorem put_same {F : Fpt} {i : Nat} {f : List Addr} : put F i f i = f := if_pos rfl
theorem put_ne {F : Fpt} {i k : Nat} {f : List Addr} (h : k ≠ i) : put F i f k = F k := if_neg h

/-- the value w stands at v, it owns F k -/
structure At (K : PySem.W.Frag) (N : Nat) (H : Hp) (F : Fpt) (k : Nat) (w : W) (v : V) : Prop where
  rs : ∀ r ∈ w.rs, r < N
  rep : ORep K H (cut H (Oth F w.rs)) w.l w.d v (F k)

/-- the state: slots Γ, n: the next free place behind them -/
structure Gd (K : PySem.W.Frag) (Γ : Gm) (σ : St) (H : Hp) (F : Fpt) (n : Nat) : Prop where
  len : σ.length = Γ.length
  top : Γ.length ≤ n
  off : ∀ k, n ≤ k → F k = []
  nd : ∀ i, (F i).Nodup
  dj : ∀ i j a, a ∈ F i → a ∈ F j → i = j
  obj : ∀ i a, a ∈ F i → Ob H a
  rep : ∀ i w, Γ[i]? = some (some w) → ∃ v, σ[i]? = some (some v) ∧ At K Γ.length H F i w v

/-- what has changed: M the slots whose lists may have changed; n: what was in hand -/
structure Dl (N : Nat) (M : Nat → Prop) (H : Hp) (F : Fpt) (n : Nat) (H' : Hp) (F' : Fpt) : Prop where
  keep : ∀ a o, H a = some o → (∀ m, m < N → M m → a ∉ F m) → H' a = some o
  frm : ∀ k, N ≤ k → k < n → F' k = F k
  old : ∀ k a, k < N → ¬ M k → a ∈ F' k → a ∈ F k
  new : ∀ k a, (k < N ∧ M k) ∨ n ≤ k → a ∈ F' k → (∃ m, m < N ∧ M m ∧ a ∈ F m) ∨ H a = none

section
variable {K : PySem.W.Frag} {N n n' m : Nat} {Γ Γ' : Gm} {σ σ' : St} {H H' H1 H2 : Hp} {F F' F1 F2 : Fpt} {w : W} {v : V} {k i : Nat} {M M1 M2 : Nat → Prop}

theorem Dl.refl (hN : N ≤ n) (off : ∀ k, n ≤ k → F k = []) : Dl N M H F n H F where
  keep := fun _ _ e _ => e
  frm := fun _ _ _ => rfl
  old := fun _ _ _ _ h => h
  new := fun k a h e => by
    rcases h with ⟨h1, h2⟩ | h
    · exact .inl ⟨k, h1, h2, e⟩
    · rw [off k h] at e; cases e
theorem Dl.weak (D1 : Dl N M1 H F n H1 F1) (h : ∀ m, m < N → M1 m → M2 m) : Dl N M2 H F n H1 F1 where
  keep := fun a o e q => D1.keep a o e fun m hm h1 => q m hm (h m hm h1)
  frm := D1.frm
  old := fun k a hk nk e => D1.old k a hk (fun z => nk (h k hk z)) e
  new := fun k a c e => by
    have fin : ((∃ m, m < N ∧ M1 m ∧ a ∈ F m) ∨ H a = none) → (∃ m, m < N ∧ M2 m ∧ a ∈ F m) ∨ H a = none := fun z => z.imp (fun ⟨m, a1, a2, a3⟩ => ⟨m, a1, h m a1 a2, a3⟩) id
    rcases c with ⟨hk, _⟩ | hk
    · by_cases h1 : M1 k
      · exact fin (D1.new k a (.inl ⟨hk, h1⟩) e)
      · rename_i h2
        exact .inl ⟨k, hk, h2, D1.old k a hk h1 e⟩
    · exact fin (D1.new k a (.inr hk) e)
/-- what was none is none, or its owner may have changed it -/
theorem Dl.gone (D1 : Dl N M H F n H1 F1) {a : Addr} (e : H1 a = Option.none) : (∃ m, m < N ∧ M m ∧ a ∈ F m) ∨ H a = Option.none := by
  cases q : H a with
  | none => exact .inr rfl
  | some o =>
    by_cases h : ∃ m, m < N ∧ M m ∧ a ∈ F m
    · exact .inl h
    · have := D1.keep a o q fun m h1 h2 h3 => h ⟨m, h1, h2, h3⟩
      rw [e] at this; cases this
theorem Dl.trans (D1 : Dl N M1 H F n H1 F1) (D2 : Dl N M2 H1 F1 n' H2 F2) (hN : N ≤ n) (hn : n ≤ n') : Dl N (fun m => M1 m ∨ M2 m) H F n H2 F2 where
  keep := fun a o e q => D2.keep a o (D1.keep a o e fun m hm h1 => q m hm (.inl h1)) fun m hm h2 h3 => by
    by_cases h1 : M1 m
    · rcases D1.new m a (.inl ⟨hm, h1⟩) h3 with ⟨m', a1, a2, a3⟩ | z
      · exact q m' a1 (.inl a2) a3
      · rw [e] at z; cases z
    · exact q m hm (.inr h2) (D1.old m a hm h1 h3)
  frm := fun k h1 h2 => (D2.frm k h1 (by omega)).trans (D1.frm k h1 h2)
  old := fun k a hk nk e => D1.old k a hk (fun z => nk (.inl z)) (D2.old k a hk (fun z => nk (.inr z)) e)
  new := fun k a c e => by
    have up : ((∃ m, m < N ∧ M1 m ∧ a ∈ F m) ∨ H a = Option.none) → (∃ m, m < N ∧ (M1 m ∨ M2 m) ∧ a ∈ F m) ∨ H a = Option.none := fun z => z.imp (fun ⟨m, a1, a2, a3⟩ => ⟨m, a1, .inl a2, a3⟩) id
    have fin : ((∃ m, m < N ∧ M2 m ∧ a ∈ F1 m) ∨ H1 a = Option.none) → (∃ m, m < N ∧ (M1 m ∨ M2 m) ∧ a ∈ F m) ∨ H a = Option.none := fun z => by
      rcases z with ⟨m, a1, a2, a3⟩ | z
      · by_cases h1 : M1 m
        · exact up (D1.new m a (.inl ⟨a1, h1⟩) a3)
        · exact .inl ⟨m, a1, .inr a2, D1.old m a a1 h1 a3⟩
      · exact up (D1.gone z)
    rcases c with ⟨hk, c⟩ | hk
    · by_cases h2 : M2 k
      · exact fin (D2.new k a (.inl ⟨hk, h2⟩) e)
      · have e1 := D2.old k a hk h2 e
        rcases c with c | c
        · exact up (D1.new k a (.inl ⟨hk, c⟩) e1)
        · exact absurd c h2
    · by_cases h3 : k < n'
      · rw [D2.frm k (by omega) h3] at e
        exact up (D1.new k a (.inr hk) e)
      · exact fin (D2.new k a (.inr (by omega)) e)

/-- what an entry needs of a change -/
theorem At.move (h : At K N H F k w v) (hk : ∀ a ∈ F k, ∀ o, H a = some o → H' a = some o) (e : F' k = F k) (hs : ∀ a o, ¬ Oth F w.rs a → H a = some o → H' a = some o ∧ ¬ Oth F' w.rs a) : At K N H' F' k w v :=
  ⟨h.rs, by rw [e]; exact ORep.mono (cut_sub hs) hk h.rep⟩
/-- a value in hand over a step of something else -/
theorem At.hold (h : At K N H1 F1 k w v) (D2 : Dl N M H1 F1 n H2 F2) (h1 : N ≤ k) (h2 : k < n) (hn : ∀ r ∈ w.rs, ¬ M r) (dj : ∀ i j a, a ∈ F1 i → a ∈ F1 j → i = j) : At K N H2 F2 k w v := by
  refine h.move (fun a ha o e => D2.keep a o e fun m hm _ z => ?_) (D2.frm k h1 h2) fun a o no e => ⟨D2.keep a o e fun m hm hM z => no ⟨m, fun q => hn m q hM, z⟩, fun ⟨j, hj, z⟩ => ?_⟩
  · have := dj k m a ha z
    omega
  · have fin : ((∃ m, m < N ∧ M m ∧ a ∈ F1 m) ∨ H1 a = Option.none) → False := fun q => by
      rcases q with ⟨m, _, a2, a3⟩ | q
      · exact no ⟨m, fun q => hn m q a2, a3⟩
      · rw [e] at q; cases q
    by_cases hjN : j < N
    · by_cases hM : M j
      · exact fin (D2.new j a (.inl ⟨hjN, hM⟩) z)
      · exact no ⟨j, hj, D2.old j a hjN hM z⟩
    · by_cases hjn : j < n
      · rw [D2.frm j (by omega) hjn] at z
        exact no ⟨j, hj, z⟩
      · exact fin (D2.new j a (.inr (by omega)) z)

/-- the values in hand from n on regrouped, dropped, new ones made -/
theorem Gd.temps (G : Gd K Γ σ H F m) (hN : Γ.length ≤ n) (hn : n ≤ n') (s : Same H H2) (lo : ∀ k, k < n → F2 k = F k) (off : ∀ k, n' ≤ k → F2 k = [])
    (fr : ∀ k a, n ≤ k → a ∈ F2 k → (∃ k', n ≤ k' ∧ a ∈ F k') ∨ H a = none) (nd : ∀ k, n ≤ k → (F2 k).Nodup) (dj : ∀ i j a, n ≤ i → n ≤ j → a ∈ F2 i → a ∈ F2 j → i = j)
    (ob : ∀ k a, n ≤ k → a ∈ F2 k → Ob H2 a) : Gd K Γ σ H2 F2 n' where
  len := G.len
  top := by omega
  off := off
  nd := fun i => by
    by_cases h : i < n
    · rw [lo i h]; exact G.nd i
    · exact nd i (by omega)
  dj := fun i j a h1 h2 => by
    by_cases hi : i < n
    · by_cases hj : j < n
      · rw [lo i hi] at h1; rw [lo j hj] at h2; exact G.dj i j a h1 h2
      · rw [lo i hi] at h1
        rcases fr j a (by omega) h2 with ⟨k', a1, a2⟩ | z
        · have := G.dj i k' a h1 a2; omega
        · obtain ⟨xs, q⟩ := G.obj i a h1; rw [z] at q; cases q
    · by_cases hj : j < n
      · rw [lo j hj] at h2
        rcases fr i a (by omega) h1 with ⟨k', a1, a2⟩ | z
        · have := G.dj j k' a h2 a2; omega
        · obtain ⟨xs, q⟩ := G.obj j a h2; rw [z] at q; cases q
      · exact dj i j a (by omega) (by omega) h1 h2
  obj := fun i a h => by
    by_cases hi : i < n
    · rw [lo i hi] at h
      obtain ⟨xs, q⟩ := G.obj i a h
      exact ⟨xs, s _ _ q⟩
    · exact ob i a (by omega) h
  rep := fun i w hw => by
    obtain ⟨v, hv, q⟩ := G.rep i w hw
    have hi : i < Γ.length := (List.getElem?_eq_some_iff.mp hw).1
    refine ⟨v, hv, q.move (fun a _ o e => s _ _ e) (lo i (by omega)) fun a o no e => ⟨s _ _ e, fun ⟨j, hj, z⟩ => ?_⟩⟩
    by_cases hjn : j < n
    · rw [lo j hjn] at z; exact no ⟨j, hj, z⟩
    · rcases fr j a (by omega) z with ⟨k', a1, a2⟩ | z
      · exact no ⟨k', fun q' => by have := q.rs k' q'; omega, a2⟩
      · rw [e] at z; cases z
theorem Dl.temps (D1 : Dl N M H F n H1 F1) (hN : N ≤ n) (s : Same H1 H2) (lo : ∀ k, k < n → F2 k = F1 k) (fr : ∀ k a, n ≤ k → a ∈ F2 k → (∃ k', n ≤ k' ∧ a ∈ F1 k') ∨ H1 a = none) : Dl N M H F n H2 F2 where
  keep := fun a o e q => s _ _ (D1.keep a o e q)
  frm := fun k h1 h2 => (lo k h2).trans (D1.frm k h1 h2)
  old := fun k a hk nk e => D1.old k a hk nk (by rw [← lo k (by omega)]; exact e)
  new := fun k a c e => by
    by_cases hk : k < n
    · rw [lo k hk] at e
      exact D1.new k a c e
    · rcases fr k a (by omega) e with ⟨k', a1, a2⟩ | z
      · exact D1.new k' a (.inr a1) a2
      · exact D1.gone z
/-- a value in hand over such a step, where it stays -/
theorem At.temps (h : At K N H F k w v) (hk : k < n) (hN : N ≤ n) (s : Same H H2) (lo : ∀ k, k < n → F2 k = F k) (fr : ∀ k a, n ≤ k → a ∈ F2 k → (∃ k', n ≤ k' ∧ a ∈ F k') ∨ H a = none) : At K N H2 F2 k w v :=
  h.move (fun a _ o e => s _ _ e) (lo k hk) fun a o no e => ⟨s _ _ e, fun ⟨j, hj, z⟩ => by
    by_cases hjn : j < n
    · rw [lo j hjn] at z; exact no ⟨j, hj, z⟩
    · rcases fr j a (by omega) z with ⟨k', a1, a2⟩ | z
      · exact no ⟨k', fun q' => by have := h.rs k' q'; omega, a2⟩
      · rw [e] at z; cases z⟩

/-- below n -/
def low (n : Nat) (F : Fpt) : Fpt := fun k => if k < n then F k else []
theorem low_lt (h : k < n) : low n F k = F k := if_pos h
theorem low_ge (h : n ≤ k) : low n F k = [] := if_neg (by omega)
theorem Gd.drop (G : Gd K Γ σ H F m) (hN : Γ.length ≤ n) : Gd K Γ σ H (low n F) n :=
  G.temps hN (Nat.le_refl n) (Same.refl H) (fun _ h => low_lt h) (fun _ h => low_ge h) (fun k a h e => by rw [low_ge h] at e; cases e) (fun k h => by rw [low_ge h]; exact List.nodup_nil)
    (fun i j a h _ e _ => by rw [low_ge h] at e; cases e) fun k a h e => by rw [low_ge h] at e; cases e
theorem Dl.drop (D1 : Dl N M H F n H1 F1) (hN : N ≤ n) : Dl N M H F n H1 (low n F1) :=
  D1.temps hN (Same.refl H1) (fun _ h => low_lt h) fun k a h e => by rw [low_ge h] at e; cases e
/-- what is read is read in the whole heap -/
theorem At.read (h : At K N H F k w v) : Rep K H w.d v := ORep.rep cut_le (fun _ _ _ e => e) h.rep
theorem Gd.read (G : Gd K Γ σ H F n) (h : Γ[i]? = some (some w)) : ∃ v, σ[i]? = some (some v) ∧ Rep K H w.d v := by
  obtain ⟨v, hv, q⟩ := G.rep i w h
  exact ⟨v, hv, q.read⟩
end
end Own

end
section
set_option maxHeartbeats 1000000
namespace Own
open PySem PySem.Spec L2

inductive Res (α : Type) where
  | ok (a : α)
  | exc (c : Nat) (as : List D) (Γ : Gm)
  | stuck
def Res.bind {α β : Type} : Res α → (α → Res β) → Res β
  | .ok a, f => f a
  | .exc c as Γ, _ => .exc c as Γ
  | .stuck, _ => .stuck
theorem bind_ok {α β : Type} (a : α) (f : α → Res β) : (Res.ok a).bind f = f a := rfl
theorem bind_exc {α β : Type} (c : Nat) (as : List D) (Γ : Gm) (f : α → Res β) : (Res.exc c as Γ : Res α).bind f = .exc c as Γ := rfl
theorem bind_stuck {α β : Type} (f : α → Res β) : (Res.stuck : Res α).bind f = .stuck := rfl

/-- kinds that isinstance asks for -/
inductive Ty where
  | int | bool | str | list | tuple | dict
/-- operations that take their arguments' values -/
inductive Op where
  | add | sub | mul | fdiv | mod | pow | neg
  | eq | ne | lt | le | gt | ge | inn | notin
  | isN | notN | isB (b : Bool) | notB (b : Bool)
  | ix
  | len | abs | int | max2 | min2 | max1 | min1 | sum | list | tuple | sorted
  | isi (t : Ty)
  | slice (lo hi : Bool)
  | rev | join (z : Str)
  | isE (y : Str) | isV | fld (f : Str)
  | dict
inductive Tg where
  | one (i : Nat)
  | tup (is : List Nat)
mutual
inductive E where
  | int (i : Int) | bl (b : Bool) | non | str (x : Str)
  | loc (i : Nat) | mv (i : Nat) | glb (x : Nat)
  | op (o : Op) (es : Es)
  | tup (es : Es) | lst (es : Es)
  | chain (o o' : Op) (a b c : E)
  | and (a b : E) | or (a b : E) | not (a : E) | ite (c a b : E)
  | call (f : Nat) (es : Es)
  | comp (vs : List Nat) (tg : Tg) (src : Src) (cd : E) (elt : E)
  /-- a.get(b), a.get(b, c) -/
  | get1 (a b : E) | get2 (a b c : E)
  /-- {k: e, ..} -/
  | dnew (t : Bool) (ks : List Str) (es : Es)
inductive Es where
  | nil | cons (e : E) (es : Es) | io (i : Nat) (es : Es) | tmp (e : E) (es : Es)
inductive Src where
  | seq (e : E) | rng1 (a : E) | rng2 (a b : E) | enum (e : E) | zip (a b : E) | zip3 (a b c : E)
end
mutual
inductive S where
  | set (i : Nat) (e : E) | setT (is : List Nat) (e : E) | par (i j : Nat) (a b : E)
  | aug (i : Nat) (o : Op) (e : E)
  | setIx (i : Nat) (k : E) (e : E) | setIx2 (i : Nat) (k k2 : E) (e : E) | augIx (i : Nat) (k : E) (o : Op) (e : E)
  | append (i : Nat) (e : E)
  /-- slot i's list turned round; a list put behind it -/
  | rev (i : Nat) | extend (i : Nat) (e : E)
  /-- a statement that is not come to -/
  | dead
  | appAll (i v : Nat) (c : Int)
  | expr (e : E) | ret (e : E) | retN
  | iff (c : E) (a b : Ss)
  | for_ (tg : Tg) (src : Src) (body : Ss) | while_ (c : E) (body : Ss)
  | brk | cont | pass
  | raise (c : Nat) (es : Es)
  /-- raise x(e), x an error class with the field f -/
  | raiseE (x f : Str) (e : E)
  /-- try: body, except PensionError as i: j = i -/
  | tryE (body : Ss) (i j : Nat)
inductive Ss where
  | nil | cons (s : S) (ss : Ss)
end

/-! ### which slots' lists may change, which slots are assigned -/
def Tg.is : Tg → List Nat
  | .one i => [i]
  | .tup is => is
mutual
def mutE : E → List Nat
  | .mv i => [i]
  | .op _ es => mutEs es
  | .tup es => mutEs es
  | .lst es => mutEs es
  | .chain _ _ a b c => mutE a ++ (mutE b ++ mutE c)
  | .and a b => mutE a ++ mutE b
  | .or a b => mutE a ++ mutE b
  | .not a => mutE a
  | .ite c a b => mutE c ++ (mutE a ++ mutE b)
  | .call _ es => mutEs es
  | .comp vs _ src cd elt => vs ++ (mutSrc src ++ (mutE cd ++ mutE elt))
  | .dnew _ _ es => mutEs es
  | .get1 a b => mutE a ++ mutE b
  | .get2 a b c => mutE a ++ (mutE b ++ mutE c)
  | _ => []
def mutEs : Es → List Nat
  | .nil => []
  | .cons e es => mutE e ++ mutEs es
  | .io i es => i :: mutEs es
  | .tmp e es => mutE e ++ mutEs es
def mutSrc : Src → List Nat
  | .seq e => mutE e
  | .rng1 a => mutE a
  | .rng2 a b => mutE a ++ mutE b
  | .enum e => mutE e
  | .zip a b => mutE a ++ mutE b
  | .zip3 a b c => mutE a ++ (mutE b ++ mutE c)
end
mutual
def mutS : S → List Nat
  | .set i e => i :: mutE e
  | .setT is e => is ++ mutE e
  | .par i j a b => i :: j :: (mutE a ++ mutE b)
  | .aug i _ e => i :: mutE e
  | .setIx i k e => i :: (mutE k ++ mutE e)
  | .setIx2 i k k2 e => i :: (mutE k ++ (mutE k2 ++ mutE e))
  | .augIx i k _ e => i :: (mutE k ++ mutE e)
  | .append i e => i :: mutE e
  | .rev i => [i]
  | .extend i e => i :: mutE e
  | .appAll i v _ => [i, v]
  | .expr e => mutE e
  | .ret e => mutE e
  | .iff c a b => mutE c ++ (mutSs a ++ mutSs b)
  | .for_ tg src body => tg.is ++ (mutSrc src ++ mutSs body)
  | .while_ c body => mutE c ++ mutSs body
  | .raise _ es => mutEs es
  | .raiseE _ _ e => mutE e
  | .tryE b i j => i :: j :: mutSs b
  | _ => []
def mutSs : Ss → List Nat
  | .nil => []
  | .cons s ss => mutS s ++ mutSs ss
end
mutual
def asgS : S → List Nat
  | .set i _ => [i]
  | .setT is _ => is
  | .par i j _ _ => [i, j]
  | .aug i _ _ => [i]
  | .appAll _ v _ => [v]
  | .iff _ a b => asgSs a ++ asgSs b
  | .for_ tg _ body => tg.is ++ asgSs body
  | .while_ _ body => asgSs body
  | .tryE b i j => i :: j :: asgSs b
  | _ => []
def asgSs : Ss → List Nat
  | .nil => []
  | .cons s ss => asgS s ++ asgSs ss
end

/-! ### values -/
def val (d : D) : W := ⟨0, [], d⟩
/-- small enough to be multiplied, divided by -/
@[irreducible] def big : Nat := 2 ^ 4000
def Sm (i : Int) : Prop := i.natAbs < big
instance (i : Int) : Decidable (Sm i) := inferInstanceAs (Decidable (i.natAbs < big))
def lim : Nat := 1000000
/-- an end of a range -/
def Rg (j : Int) : Prop := j.natAbs < 4611686018427387904
instance (j : Int) : Decidable (Rg j) := inferInstanceAs (Decidable (j.natAbs < 4611686018427387904))
theorem rg_of {j : Int} (h1 : -(2 ^ 62) < j) (h2 : j < 2 ^ 62) : Rg j := by
  have e : (2 : Int) ^ 62 = 4611686018427387904 := by decide
  rw [e] at h1 h2
  show j.natAbs < 4611686018427387904
  omega
theorem rg_to {j : Int} (h : Rg j) : -(2 ^ 62) ≤ j ∧ j < 2 ^ 62 := by
  have e : (2 : Int) ^ 62 = 4611686018427387904 := by decide
  rw [e]
  have h : j.natAbs < 4611686018427387904 := h
  exact ⟨by omega, by omega⟩
def rd (Γ : Gm) (i : Nat) : Option W := match Γ[i]? with
  | some (some w) => some w
  | _ => none
/-- slot i read: what it owns is looked at only -/
def vw (i : Nat) (w : W) : W := if imm w.d then val w.d else if w.l = 0 then w else ⟨0, i :: w.rs, w.d⟩
def kill1 (js : List Nat) : Slot → Slot
  | some w => if w.rs.any (fun r => js.contains r) then none else some w
  | none => none
/-- who looks at what these slots own looks no longer -/
def kill (js : List Nat) (Γ : Gm) : Gm := Γ.map (kill1 js)
def freeze1 (i : Nat) (Γ : Gm) : Gm := match Γ[i]? with
  | some (some w) => Γ.set i (some ⟨0, w.rs, w.d⟩)
  | _ => Γ
def freeze : List Nat → Gm → Gm
  | [], Γ => Γ
  | i :: is, Γ => freeze is (freeze1 i Γ)
def hold (w : W) (ms : List Nat) : Bool := w.rs.all fun r => !ms.contains r
/-- owned through and through -/
def deep (w : W) : Bool := imm w.d || (decide (w.l = 8) && w.rs.isEmpty)
/-- an item of a list that is looked at through the slots rs -/
def itm (rs : List Nat) (d : D) : W := if imm d then val d else ⟨0, rs, d⟩

def toPy : D → PyData
  | .non => .none
  | .bl b => .bool b
  | .int i => .int i
  | .str x => .str x
  | .tup xs => .tuple (toPys xs)
  | .lst xs => .list (toPys xs)
  | .scr ns => .list (ns.map .int)
  | .exn _ _ _ => .none
  | .dct _ _ _ => .none
where toPys : List D → List PyData
  | [] => []
  | x :: xs => toPy x :: toPys xs
mutual
/-- no caught error within -/
def pln : D → Bool
  | .tup xs => plnAll xs
  | .lst xs => plnAll xs
  | .exn _ _ _ => false
  | .dct _ _ _ => false
  | _ => true
def plnAll : List D → Bool
  | [] => true
  | x :: xs => pln x && plnAll xs
end
def okEq (d : D) : Bool := pln d && SeqAt.shaped (toPy d)
def deq (d e : D) : Bool := PyData.eqv (toPy d) (toPy e)
def scalD : D → Bool
  | .non => true
  | .bl _ => true
  | .int _ => true
  | .str _ => true
  | _ => false
/-- == of flat data -/
def deqF : D → D → Bool
  | .non, .non => true
  | .bl a, .bl b => a == b
  | .bl a, .int b => (if a then 1 else 0) == b
  | .int a, .bl b => a == (if b then 1 else 0)
  | .int a, .int b => a == b
  | .str a, .str b => a == b
  | _, _ => false
/-- == as the program has it -/
def eqD (d e : D) : Option Bool := if okEq d && okEq e then some (deq d e) else none
def intsD : List D → Option (List Int)
  | [] => some []
  | .int i :: xs => match intsD xs with
    | some r => some (i :: r)
    | none => none
  | _ => none
def strsD : List D → Option (List Str)
  | [] => some []
  | .str x :: xs => match strsD xs with
    | some r => some (x :: r)
    | none => none
  | _ => none
def maxL : List Int → Int
  | [] => 0
  | [x] => x
  | x :: y :: r => max x (maxL (y :: r))
def minL : List Int → Int
  | [] => 0
  | [x] => x
  | x :: y :: r => min x (minL (y :: r))
def pairs : List D → Option (List (Int × Int))
  | [] => some []
  | .tup [.int i, .int j] :: xs => match pairs xs with
    | some r => some ((i, j) :: r)
    | none => none
  | _ => none
def leI (x y : Int) : Bool := decide (x ≤ y)
def leP (x y : Int × Int) : Bool := decide (x.1 < y.1) || (decide (x.1 = y.1) && decide (x.2 ≤ y.2))
def pairD (x : Int × Int) : D := .tup [.int x.1, .int x.2]
def isTy : Ty → D → Bool
  | .int, .int _ => true
  | .int, .bl _ => true
  | .bool, .bl _ => true
  | .str, .str _ => true
  | .list, .lst _ => true
  | .list, .scr _ => true
  | .tuple, .tup _ => true
  | .dict, .dct _ _ _ => true
  | _, _ => false
/-- a new list: owned with all within, if its items have no list within -/
def newL (rs : List Nat) (xs : List D) : W := if immAll xs then ⟨8, [], .lst xs⟩ else ⟨1, rs, .lst xs⟩
def bnd (p : Bool) (o : Option Int) : Option Int := if p then o else none
/-- the part lo to hi of a list -/
def cutD (xs : List D) (lo hi : Option Int) : List D := (xs.drop (HT.sIx xs.length 0 lo)).take (HT.sIx xs.length xs.length hi - HT.sIx xs.length 0 lo)

/-! dicts -/
def keyD : D → Option Key
  | .int i => some (.inl i)
  | .str x => some (.inr x)
  | _ => none
def kD : Key → D
  | .inl i => .int i
  | .inr x => .str x
def findK {α : Type} (kvs : List (Key × α)) (k : Key) : Option α := (kvs.find? fun kv => decide (kv.1 = k)).map (·.2)
/-- what stands at the key k -/
def dget (ks : List (List Key)) (xs : List D) (k : Key) : Option D := findK ((ks.map k1).zip xs) k
/-- the keys are apart, each has its value -/
def dwf (ks : List (List Key)) (xs : List D) : Bool := decide (ks.length = xs.length) && decide (ks.map k1).Nodup && ks.all fun k => decide (k.length = 1)
def keyIx (ks : List (List Key)) (k : Key) : Option Nat := (ks.map k1).findIdx? fun j => decide (j = k)
/-- a value at the key k -/
def dput (ks : List (List Key)) (xs : List D) (k : Key) (d : D) : List (List Key) × List D := match keyIx ks k with
  | some i => (ks, xs.set i d)
  | none => (ks ++ [[k]], xs ++ [d])
/-- a new dict of these values -/
def newDc (rs : List Nat) (ks : List (List Key)) (xs : List D) : W := if immAll xs then ⟨8, [], .dct false ks xs⟩ else ⟨1, rs, .dct false ks xs⟩

/-- owned with all within -/
def dp8 (w : W) : Bool := decide (w.l = 8) && w.rs.isEmpty
def opv : Op → List W → Res W
  | .add, [a, b] => match a.d, b.d with
    | .int i, .int j => .ok (val (.int (i + j)))
    | .lst xs, .lst ys => if ((immAll xs && immAll ys) || (dp8 a && dp8 b)) && decide (xs.length + ys.length ≤ lim) then .ok ⟨8, [], .lst (xs ++ ys)⟩ else .stuck
    | .tup xs, .tup ys => if immAll xs && immAll ys && decide (xs.length + ys.length ≤ lim) then .ok (val (.tup (xs ++ ys))) else .stuck
    | .str x, .str y => if decide (x.length + y.length ≤ lim) then .ok (val (.str (x ++ y))) else .stuck
    | _, _ => .stuck
  | .sub, [a, b] => match a.d, b.d with
    | .int i, .int j => .ok (val (.int (i - j)))
    | _, _ => .stuck
  | .mul, [a, b] => match a.d, b.d with
    | .int i, .int j => if Sm i ∧ Sm j then .ok (val (.int (i * j))) else .stuck
    | .lst xs, .int k => if immAll xs = true ∧ xs.length * k.toNat ≤ lim ∧ k.natAbs ≤ 1000000 then .ok ⟨8, [], .lst (List.replicate k.toNat xs).flatten⟩ else .stuck
    | .tup xs, .int k => if immAll xs = true ∧ k = 1 then .ok (val (.tup xs)) else if immAll xs = true ∧ xs.isEmpty = false ∧ 2 ≤ k ∧ k ≤ 1000 ∧ xs.length ≤ 1000 then .ok (val (.tup (List.replicate k.toNat xs).flatten)) else .stuck
    | _, _ => .stuck
  | .fdiv, [a, b] => match a.d, b.d with
    | .int i, .int j => if 0 < j ∧ Sm j then .ok (val (.int (i / j))) else .stuck
    | _, _ => .stuck
  | .mod, [a, b] => match a.d, b.d with
    | .int i, .int j => if 0 < j then .ok (val (.int (i % j))) else .stuck
    | _, _ => .stuck
  | .pow, [a, b] => match a.d, b.d with
    | .int i, .int j => if 0 ≤ j ∧ j ≤ 1000 ∧ i.natAbs < 2 ^ 64 then .ok (val (.int (i ^ j.toNat))) else .stuck
    | _, _ => .stuck
  | .neg, [a] => match a.d with
    | .int i => .ok (val (.int (-i)))
    | _ => .stuck
  | .eq, [a, b] => match eqD a.d b.d with
    | some k => .ok (val (.bl k))
    | none => .stuck
  | .ne, [a, b] => match eqD a.d b.d with
    | some k => .ok (val (.bl (!k)))
    | none => .stuck
  | .lt, [a, b] => match a.d, b.d with
    | .int i, .int j => .ok (val (.bl (decide (i < j))))
    | .tup xs, .tup ys => match intsD xs, intsD ys with
      | some ns, some ms => .ok (val (.bl (HT.lexLt ns ms)))
      | _, _ => .stuck
    | _, _ => .stuck
  | .le, [a, b] => match a.d, b.d with
    | .int i, .int j => .ok (val (.bl (decide (i ≤ j))))
    | _, _ => .stuck
  | .gt, [a, b] => match a.d, b.d with
    | .int i, .int j => .ok (val (.bl (decide (j < i))))
    | _, _ => .stuck
  | .ge, [a, b] => match a.d, b.d with
    | .int i, .int j => .ok (val (.bl (decide (j ≤ i))))
    | _, _ => .stuck
  | .inn, [a, b] => match b.d with
    | .lst xs => if scalD a.d && xs.all scalD then .ok (val (.bl (xs.any fun y => deqF y a.d))) else if okEq a.d && okEq (.lst xs) then .ok (val (.bl (xs.any fun y => deq y a.d))) else .stuck
    | .tup xs => if scalD a.d && xs.all scalD then .ok (val (.bl (xs.any fun y => deqF y a.d))) else .stuck
    | .dct false ks xs => match keyD a.d with
      | some k => .ok (val (.bl ((dget ks xs k).isSome)))
      | none => .stuck
    | _ => .stuck
  | .notin, [a, b] => match b.d with
    | .lst xs => if scalD a.d && xs.all scalD then .ok (val (.bl (!xs.any fun y => deqF y a.d))) else if okEq a.d && okEq (.lst xs) then .ok (val (.bl (!xs.any fun y => deq y a.d))) else .stuck
    | .tup xs => if scalD a.d && xs.all scalD then .ok (val (.bl (!xs.any fun y => deqF y a.d))) else .stuck
    | .dct false ks xs => match keyD a.d with
      | some k => .ok (val (.bl (!(dget ks xs k).isSome)))
      | none => .stuck
    | _ => .stuck
  | .isN, [a] => match a.d with
    | .non => .ok (val (.bl true))
    | _ => .ok (val (.bl false))
  | .notN, [a] => match a.d with
    | .non => .ok (val (.bl false))
    | _ => .ok (val (.bl true))
  | .isB b, [a] => match a.d with
    | .bl c => .ok (val (.bl (c == b)))
    | _ => .ok (val (.bl false))
  | .notB b, [a] => match a.d with
    | .bl c => .ok (val (.bl (!(c == b))))
    | _ => .ok (val (.bl true))
  | .ix, [a, b] => match a.d, b.d with
    | .lst xs, .int i => match atI xs i with
      | some d => if imm d then .ok (val d) else if a.l = 0 then .ok ⟨0, a.rs, d⟩ else .stuck
      | none => .stuck
    | .tup xs, .int i => match atI xs i with
      | some d => if imm d then .ok (val d) else if a.l = 0 then .ok ⟨0, a.rs, d⟩ else .stuck
      | none => .stuck
    | .scr ns, .int i => match atI ns i with
      | some j => .ok (val (.int j))
      | none => .stuck
    | .str z, .int i => match atI z.cps.toList i with
      | some c => if z.length ≤ lim then .ok (val (.str ⟨#[c]⟩)) else .stuck
      | none => .stuck
    | .dct false ks xs, dk => match keyD dk with
      | some k => match dget ks xs k with
        | some d => if imm d then .ok (val d) else if a.l = 0 then .ok ⟨0, a.rs, d⟩ else .stuck
        | none => .stuck
      | none => .stuck
    | _, _ => .stuck
  | .slice lo hi, a :: r => match a.d, intsD (r.map (·.d)) with
    | .lst xs, some [] => if lo = false ∧ hi = false then .ok (newL a.rs (cutD xs none none)) else .stuck
    | .lst xs, some [i] => if lo = true ∧ hi = false then .ok (newL a.rs (cutD xs (some i) none)) else if lo = false ∧ hi = true then .ok (newL a.rs (cutD xs none (some i))) else .stuck
    | .tup xs, some [] => if immAll xs = true ∧ lo = false ∧ hi = false then .ok (val (.tup (cutD xs none none))) else .stuck
    | .tup xs, some [i] => if immAll xs = true ∧ lo = true ∧ hi = false then .ok (val (.tup (cutD xs (some i) none))) else if immAll xs = true ∧ lo = false ∧ hi = true then .ok (val (.tup (cutD xs none (some i)))) else .stuck
    | _, _ => .stuck
  | .rev, [a] => match a.d with
    | .lst xs => .ok (newL a.rs xs.reverse)
    | _ => .stuck
  | .join z, [a] => match a.d with
    | .lst xs => match strsD xs with
      | some ys => if (ys.map (·.length)).sum + ys.length * z.length ≤ lim then .ok (val (.str (Txt.join z ys))) else .stuck
      | none => .stuck
    | _ => .stuck
  | .len, [a] => match a.d with
    | .lst xs => .ok (val (.int xs.length))
    | .tup xs => .ok (val (.int xs.length))
    | .scr ns => .ok (val (.int ns.length))
    | .dct false ks xs => if ks.length = xs.length then .ok (val (.int xs.length)) else .stuck
    | _ => .stuck
  | .abs, [a] => match a.d with
    | .int i => .ok (val (.int (if i < 0 then -i else i)))
    | _ => .stuck
  | .int, [a] => match a.d with
    | .int i => .ok (val (.int i))
    | .bl b => .ok (val (.int (if b then 1 else 0)))
    | _ => .stuck
  | .max2, [a, b] => match a.d, b.d with
    | .int i, .int j => .ok (val (.int (if j > i then j else i)))
    | _, _ => .stuck
  | .min2, [a, b] => match a.d, b.d with
    | .int i, .int j => .ok (val (.int (if j < i then j else i)))
    | _, _ => .stuck
  | .max1, [a] => match a.d with
    | .lst xs => match intsD xs with
      | some (x :: r) => .ok (val (.int (maxL (x :: r))))
      | _ => .stuck
    | _ => .stuck
  | .min1, [a] => match a.d with
    | .lst xs => match intsD xs with
      | some (x :: r) => .ok (val (.int (minL (x :: r))))
      | _ => .stuck
    | _ => .stuck
  | .sum, [a] => match a.d with
    | .lst xs => match intsD xs with
      | some ns => .ok (val (.int ns.sum))
      | none => .stuck
    | _ => .stuck
  | .list, [a] => match a.d with
    | .lst xs => .ok (newL a.rs xs)
    | .tup xs => .ok (newL a.rs xs)
    | .scr ns => .ok ⟨8, [], .lst (ns.map .int)⟩
    | _ => .stuck
  | .tuple, [a] => match a.d with
    | .lst xs => if immAll xs then .ok (val (.tup xs)) else if dp8 a then .ok ⟨8, [], .tup xs⟩ else if a.l = 0 then .ok ⟨0, a.rs, .tup xs⟩ else .stuck
    | .tup xs => if immAll xs then .ok (val (.tup xs)) else .stuck
    | _ => .stuck
  | .sorted, [a] => match a.d with
    | .lst xs => match pairs xs with
      | some ps => .ok ⟨8, [], .lst ((ps.mergeSort leP).map pairD)⟩
      | none => match intsD xs with
        | some ns => .ok ⟨8, [], .lst ((ns.mergeSort leI).map .int)⟩
        | none => .stuck
    | _ => .stuck
  | .isi t, [a] => match a.d with
    | .exn _ _ _ => .stuck
    | .dct true _ _ => .stuck
    | _ => .ok (val (.bl (isTy t a.d)))
  | .isE y, [a] => match a.d with
    | .exn cn _ _ => if y ∈ errNames then .ok (val (.bl (decide (cn = y)))) else .stuck
    | _ => .stuck
  | .isV, [a] => match a.d with
    | .exn _ _ _ => .ok (val (.bl true))
    | _ => .stuck
  | .dict, [a] => match a.d with
    | .dct false ks xs => .ok (newDc a.rs ks xs)
    | _ => .stuck
  | .fld f, [a] => match a.d with
    | .exn _ g p => if f = g then .ok (val (pD p)) else .stuck
    | _ => .stuck
  | _, _ => .stuck

/-- truth -/
def truD : D → Option Bool
  | .non => some false
  | .bl b => some b
  | .int i => some (i != 0)
  | .lst xs => some (!xs.isEmpty)
  | .tup xs => some (!xs.isEmpty)
  | _ => none

/-- a value goes into a slot, a display: what it looks at is given up by its owners -/
def stl (w : W) (Γ : Gm) : W × Gm := if imm w.d then (val w.d, Γ) else (⟨w.l, [], w.d⟩, freeze w.rs Γ)
def stls : List W → Gm → List W × Gm
  | [], Γ => ([], Γ)
  | w :: ws, Γ => ((stl w Γ).1 :: (stls ws (stl w Γ).2).1, (stls ws (stl w Γ).2).2)
def setTs : List Nat → List D → List Nat → Gm → Option Gm
  | [], [], _, Γ => some Γ
  | i :: is, d :: ds, rs, Γ => setTs is ds rs (Γ.set i (some (itm rs d)))
  | _, _, _, _ => none
def setTg : Tg → D → List Nat → Gm → Option Gm
  | .one i, d, rs, Γ => some (Γ.set i (some (itm rs d)))
  | .tup is, .tup ds, rs, Γ => setTs is ds rs Γ
  | .tup is, .lst ds, rs, Γ => setTs is ds rs Γ
  | _, _, _, _ => none

/-! ### calls -/
structure Mode where
  io : List Bool
  fresh : Bool
structure Ctx where
  mode : Nat → Option Mode
  call : Nat → List D → Res (D × List D)
  glob : Nat → Option D
inductive Aw where
  | val (w : W)
  | io (i : Nat)
  | tmp (w : W)
def avals : List Aw → Option (List W)
  | [] => some []
  | .val w :: r => match avals r with
    | some ws => some (w :: ws)
    | none => none
  | .io _ :: _ => none
  | .tmp _ :: _ => none
def ios : List Aw → List Nat
  | [] => []
  | .val _ :: r => ios r
  | .io i :: r => i :: ios r
  | .tmp _ :: r => ios r
def arss : List Aw → List Nat
  | [] => []
  | .val w :: r => (if imm w.d then [] else w.rs) ++ arss r
  | .io _ :: r => arss r
  | .tmp _ :: r => arss r
def fitM : List Bool → List Aw → Bool
  | [], [] => true
  | false :: m, .val _ :: r => fitM m r
  | true :: m, .io _ :: r => fitM m r
  | true :: m, .tmp _ :: r => fitM m r
  | _, _ => false
/-- the arguments' data -/
def adata (Γ : Gm) : List Aw → Option (List D)
  | [] => some []
  | .val w :: r => match adata Γ r with
    | some ds => some (w.d :: ds)
    | none => none
  | .io i :: r => match rd Γ i, adata Γ r with
    | some w, some ds => if w.l = 8 ∧ w.rs = [] then some (w.d :: ds) else none
    | _, _ => none
  | .tmp w :: r => match adata Γ r with
    | some ds => if w.l = 8 ∧ w.rs = [] then some (w.d :: ds) else none
    | none => none
def outs : List Aw → List D → Gm → Option Gm
  | [], [], Γ => some Γ
  | .val _ :: r, os, Γ => outs r os Γ
  | .io i :: r, d :: ds, Γ => outs r ds (Γ.set i (some ⟨8, [], d⟩))
  | .tmp _ :: r, _ :: ds, Γ => outs r ds Γ
  | _, _, _ => none
def disj (is js : List Nat) : Bool := is.all fun i => !js.contains i
def noDup : List Nat → Bool
  | [] => true
  | i :: is => !is.contains i && noDup is
def wipeG (vs : List Nat) (Γ : Gm) : Gm := vs.foldr (fun i g => g.set i none) Γ
def callG (C : Ctx) (f : Nat) (ws : List Aw) (Γ : Gm) : Res (W × Gm) := match C.mode f with
  | none => .stuck
  | some m => if fitM m.io ws && noDup (ios ws) && disj (ios ws) (arss ws) then
      match adata Γ ws with
      | none => .stuck
      | some ds => match C.call f ds with
        | .ok (r, os) => match outs ws os (kill (ios ws) Γ) with
          | some Γ' => .ok (if imm r then val r else if m.fresh then ⟨8, [], r⟩ else ⟨0, arss ws, r⟩, Γ')
          | none => .stuck
        | .exc c as _ => .exc c as (wipeG (ios ws) (kill (ios ws) Γ))
        | .stuck => .stuck
    else .stuck

/-! ### expressions -/
/-- .. no error may leave here -/
def noExc {α : Type} : Res α → Res α
  | .exc _ _ _ => .stuck
  | r => r
def cmpI : Op → Int → Int → Option Bool
  | .lt, i, j => some (decide (i < j))
  | .le, i, j => some (decide (i ≤ j))
  | .gt, i, j => some (decide (j < i))
  | .ge, i, j => some (decide (j ≤ i))
  | _, _, _ => none
def compL (body : D → Gm → Res (Option W × Gm)) : List D → List D → Bool → Gm → Res (List D × Bool × Gm)
  | [], acc, k, Γ => .ok (acc, k, Γ)
  | d :: ds, acc, k, Γ => (noExc (body d Γ)).bind fun (o, Γ1) => match o with
    | some w => if acc.length < lim then compL body ds (acc ++ [w.d]) (k && deep w) (stl w Γ1).2 else .stuck
    | none => compL body ds acc k Γ1
def back1 : Slot → Slot
  | some w => if imm w.d then some (val w.d) else none
  | none => none
def backG (vs : List Nat) (Γ0 Γ : Gm) : Gm := vs.foldr (fun i g => g.set i (back1 (Γ0.getD i none))) Γ
def enumD : Nat → List D → List D
  | _, [] => []
  | k, d :: ds => .tup [.int k, d] :: enumD (k + 1) ds
def zipD : List D → List D → List D
  | x :: xs, y :: ys => .tup [x, y] :: zipD xs ys
  | _, _ => []
def zipD3 : List D → List D → List D → List D
  | x :: xs, y :: ys, z :: zs => .tup [x, y, z] :: zipD3 xs ys zs
  | _, _, _ => []
def rngD (lo : Int) : Nat → List D
  | 0 => []
  | n + 1 => .int lo :: rngD (lo + 1) n

/-- what d.get gives: looked at, or the other value -/
def getV (a : W) (o : Option D) (c : W) (Γ : Gm) : Res (W × Gm) := match o with
  | some d => if imm d then .ok (val d, Γ) else if a.l = 0 then .ok (⟨0, a.rs, d⟩, Γ) else .stuck
  | none => if imm c.d then .ok (val c.d, Γ) else .stuck
mutual
def ev (C : Ctx) : E → Gm → Res (W × Gm)
  | .int i, Γ => .ok (val (.int i), Γ)
  | .bl b, Γ => .ok (val (.bl b), Γ)
  | .non, Γ => .ok (val .non, Γ)
  | .str x, Γ => .ok (val (.str x), Γ)
  | .loc i, Γ => match rd Γ i with
    | some w => .ok (vw i w, Γ)
    | none => .stuck
  | .mv i, Γ => match rd Γ i with
    | some w => if imm w.d then .ok (val w.d, Γ) else if w.l = 0 then .ok (w, Γ) else if w.rs.isEmpty then .ok (w, kill [i] (Γ.set i none)) else .stuck
    | none => .stuck
  | .glb x, Γ => match C.glob x with
    | some d => if imm d then .ok (val d, Γ) else .stuck
    | none => .stuck
  | .op o es, Γ => (evs C es Γ).bind fun (ws, Γ1) => match avals ws with
    | some xs => (opv o xs).bind fun w => .ok (w, Γ1)
    | none => .stuck
  | .tup es, Γ => (evs C es Γ).bind fun (ws, Γ1) => match avals ws with
    | some xs => if immAll (xs.map (·.d)) then .ok (val (.tup (xs.map (·.d))), Γ1)
        else if xs.all deep then .ok (⟨8, [], .tup (xs.map (·.d))⟩, Γ1)
        else .ok (⟨0, [], .tup (xs.map (·.d))⟩, (stls xs Γ1).2)
    | none => .stuck
  | .lst es, Γ => (evs C es Γ).bind fun (ws, Γ1) => match avals ws with
    | some xs => if xs.all deep then .ok (⟨8, [], .lst (xs.map (·.d))⟩, Γ1)
        else .ok (⟨1, [], .lst (xs.map (·.d))⟩, (stls xs Γ1).2)
    | none => .stuck
  | .get1 a b, Γ => (ev C a Γ).bind fun (w1, Γ1) => match w1.d with
    | .dct false ks xs => (ev C b Γ1).bind fun (w2, Γ2) => match keyD w2.d with
      | some k => if hold w1 (mutE b) then getV w1 (dget ks xs k) (val .non) Γ2 else .stuck
      | none => .stuck
    | _ => .stuck
  | .get2 a b c, Γ => (ev C a Γ).bind fun (w1, Γ1) => match w1.d with
    | .dct false ks xs => (ev C b Γ1).bind fun (w2, Γ2) => match keyD w2.d with
      | some k => (ev C c Γ2).bind fun (w3, Γ3) => if hold w1 (mutE b ++ mutE c) then getV w1 (dget ks xs k) w3 Γ3 else .stuck
      | none => .stuck
    | _ => .stuck
  | .dnew t ks es, Γ => (evs C es Γ).bind fun (ws, Γ1) => match avals ws with
    | some xs => if t = false ∧ ks.Nodup ∧ ks.length = xs.length ∧ ks.length ≤ 15 ∧ xs.all deep then .ok (⟨8, [], .dct false (ks.map fun k => [.inr k]) (xs.map (·.d))⟩, Γ1) else .stuck
    | none => .stuck
  | .chain o o' a b c, Γ => (ev C a Γ).bind fun (w1, Γ1) => (ev C b Γ1).bind fun (w2, Γ2) => match w1.d, w2.d with
    | .int i, .int j => match cmpI o i j with
      | some true => (ev C c Γ2).bind fun (w3, Γ3) => match w3.d with
        | .int k => match cmpI o' j k with
          | some z => .ok (val (.bl z), Γ3)
          | none => .stuck
        | _ => .stuck
      | some false => .ok (val (.bl false), Γ2)
      | none => .stuck
    | _, _ => .stuck
  | .and a b, Γ => (ev C a Γ).bind fun (w1, Γ1) => match w1.d with
    | .bl true => ev C b Γ1
    | .bl false => .ok (val (.bl false), Γ1)
    | _ => .stuck
  | .or a b, Γ => (ev C a Γ).bind fun (w1, Γ1) => match w1.d with
    | .bl false => ev C b Γ1
    | .bl true => .ok (val (.bl true), Γ1)
    | _ => .stuck
  | .not a, Γ => (ev C a Γ).bind fun (w1, Γ1) => match w1.d with
    | .bl b => .ok (val (.bl (!b)), Γ1)
    | _ => .stuck
  | .ite c a b, Γ => (evT C c Γ).bind fun (k, Γ1) => match k with
    | true => ev C a Γ1
    | false => ev C b Γ1
  | .call f es, Γ => (evs C es Γ).bind fun (ws, Γ1) => callG C f ws Γ1
  | .comp vs tg src cd elt, Γ => (evSrc C src Γ).bind fun (ds, rs, Γ1) =>
      if disj rs (vs ++ (mutE cd ++ mutE elt)) then
        (compL (fun d Γ2 => match setTg tg d rs (wipeG vs Γ2) with
          | some Γ3 => (evT C cd Γ3).bind fun (k, Γ4) => match k with
            | true => (ev C elt Γ4).bind fun (w, Γ5) => .ok (some w, Γ5)
            | false => .ok (none, Γ4)
          | none => .stuck) ds [] true Γ1).bind fun (xs, k, Γ2) => .ok (⟨if k then 8 else 1, [], .lst xs⟩, backG vs Γ1 Γ2)
      else .stuck
/-- as a test -/
def evT (C : Ctx) : E → Gm → Res (Bool × Gm)
  | .and a b, Γ => (evT C a Γ).bind fun (k, Γ1) => match k with
    | true => evT C b Γ1
    | false => .ok (false, Γ1)
  | .or a b, Γ => (evT C a Γ).bind fun (k, Γ1) => match k with
    | true => .ok (true, Γ1)
    | false => evT C b Γ1
  | .not a, Γ => (evT C a Γ).bind fun (k, Γ1) => .ok (!k, Γ1)
  | .ite _ _ _, _ => .stuck
  | e, Γ => (ev C e Γ).bind fun (w, Γ1) => match truD w.d with
    | some k => .ok (k, Γ1)
    | none => .stuck
def evs (C : Ctx) : Es → Gm → Res (List Aw × Gm)
  | .nil, Γ => .ok ([], Γ)
  | .cons e es, Γ => (ev C e Γ).bind fun (w, Γ1) => (evs C es Γ1).bind fun (ws, Γ2) => if hold w (mutEs es) then .ok (.val w :: ws, Γ2) else .stuck
  | .io i es, Γ => match rd Γ i with
    | some _ => (evs C es Γ).bind fun (ws, Γ2) => .ok (.io i :: ws, Γ2)
    | none => .stuck
  | .tmp e es, Γ => (ev C e Γ).bind fun (w, Γ1) => (evs C es Γ1).bind fun (ws, Γ2) => if hold w (mutEs es) then .ok (.tmp w :: ws, Γ2) else .stuck
/-- what a loop walks: the items, the slots that they are looked at through -/
def evSrc (C : Ctx) : Src → Gm → Res (List D × List Nat × Gm)
  | .seq e, Γ => (ev C e Γ).bind fun (w, Γ1) => match w.d with
    | .lst xs => .ok (xs, w.rs, Γ1)
    | .tup xs => .ok (xs, w.rs, Γ1)
    | _ => .stuck
  | .rng1 a, Γ => (ev C a Γ).bind fun (w, Γ1) => match w.d with
    | .int j => if Rg j then .ok (rngD 0 j.toNat, [], Γ1) else .stuck
    | _ => .stuck
  | .rng2 a b, Γ => (ev C a Γ).bind fun (w, Γ1) => (ev C b Γ1).bind fun (w2, Γ2) => match w.d, w2.d with
    | .int i, .int j => if Rg i ∧ Rg j then .ok (rngD i (j - i).toNat, [], Γ2) else .stuck
    | _, _ => .stuck
  | .enum e, Γ => (ev C e Γ).bind fun (w, Γ1) => match w.d with
    | .lst xs => .ok (enumD 0 xs, w.rs, Γ1)
    | _ => .stuck
  | .zip a b, Γ => (ev C a Γ).bind fun (w, Γ1) => (ev C b Γ1).bind fun (w2, Γ2) => match w.d, w2.d with
    | .lst xs, .lst ys => if hold w (mutE b) then .ok (zipD xs ys, w.rs ++ w2.rs, Γ2) else .stuck
    | _, _ => .stuck
  | .zip3 a b c, Γ => (ev C a Γ).bind fun (w, Γ1) => (ev C b Γ1).bind fun (w2, Γ2) => (ev C c Γ2).bind fun (w3, Γ3) => match w.d, w2.d, w3.d with
    | .lst xs, .lst ys, .lst zs => if hold w (mutE b) then if hold w (mutE c) then if hold w2 (mutE c) then .ok (zipD3 xs ys zs, w.rs ++ (w2.rs ++ w3.rs), Γ3) else .stuck else .stuck else .stuck
    | _, _, _ => .stuck
end

/-! ### statements -/
inductive Fl where
  | nx (Γ : Gm) | brk (Γ : Gm) | cont (Γ : Gm) | ret (w : W) (Γ : Gm)
def forL (body : D → Gm → Res Fl) : List D → Gm → Res Fl
  | [], Γ => .ok (.nx Γ)
  | d :: ds, Γ => (body d Γ).bind fun fl => match fl with
    | .nx Γ1 => forL body ds Γ1
    | .cont Γ1 => forL body ds Γ1
    | .brk Γ1 => .ok (.nx Γ1)
    | .ret w Γ1 => .ok (.ret w Γ1)
def whileL (c : Gm → Res (Bool × Gm)) (body : Gm → Res Fl) : Nat → Gm → Res Fl
  | 0, _ => .stuck
  | n + 1, Γ => (c Γ).bind fun (k, Γ1) => match k with
    | true => (body Γ1).bind fun fl => match fl with
      | .nx Γ2 => whileL c body n Γ2
      | .cont Γ2 => whileL c body n Γ2
      | .brk Γ2 => .ok (.nx Γ2)
      | .ret w Γ2 => .ok (.ret w Γ2)
    | false => .ok (.nx Γ1)
def wfuel : Nat := 1000000
/-- a value stored in slot i -/
def setG (i : Nat) (w : W) (Γ : Gm) : Res Fl := .ok (.nx ((stl w Γ).2.set i (some (stl w Γ).1)))
/-- the items of a tuple in hand stored -/
def setTW : List Nat → List D → Nat → Gm → Option Gm
  | [], [], _, Γ => some Γ
  | i :: is, d :: ds, l, Γ => setTW is ds l (Γ.set i (some (if imm d then val d else ⟨l, [], d⟩)))
  | _, _, _, _ => none
/-- slot i's list becomes xs, a value w having been put into it -/
def inG (i : Nat) (l : Nat) (xs : List D) (w : W) (Γ : Gm) : Res Fl :=
  if deep w && decide (l = 8) then .ok (.nx (kill [i] ((Γ.set i (some ⟨8, [], .lst xs⟩)))))
  else .ok (.nx (kill [i] ((stl w Γ).2.set i (some ⟨1, [], .lst xs⟩))))

/-- an owned list's item j, an int -/
def getI : Option W → D → Option (Int × Int)
  | some w, .int j => match w.d with
    | .lst xs => match atI xs j with
      | some (.int a) => some (j, a)
      | _ => none
    | _ => none
  | _, _ => none
/-- a list owned through and through, its item j: a flat list -/
def inn2 : Option W → D → Option (List D × Nat × List D)
  | some w, .int j => match w.d with
    | .lst xs => match ixN xs.length j with
      | some p => match xs[p]? with
        | some (.lst ys) => if decide (w.l = 8) && w.rs.isEmpty && immAll ys then some (xs, p, ys) else none
        | _ => none
      | none => none
    | _ => none
  | _, _ => none
/-- a flat list that may grow -/
def rowOk : D → Bool
  | .lst ys => immAll ys && decide (ys.length < lim)
  | _ => false
def rowAdd (c : Int) : D → D
  | .lst ys => .lst (ys ++ [.int c])
  | d => d
/-- slot i must hold a value -/
def gI : Option Slot → Res Fl → Res Fl
  | some (some _), r => r
  | _, _ => .stuck
/-- what an error carries -/
def pOf : D → Option (Sum Int Str)
  | .int i => some (.inl i)
  | .str x => some (.inr x)
  | _ => none
/-- the value w goes to the place dk of x, slot i's list or dict -/
def sixV (i : Nat) (k : E) (w : W) (Γ : Gm) (x : W) (dk : D) : Res Fl := match x.d with
  | .lst xs => match dk with
    | .int j => match ixN xs.length j with
      | some p => if decide (1 ≤ x.l) && x.rs.isEmpty && hold w (mutE k) && !w.rs.contains i then inG i x.l (xs.set p w.d) w Γ else .stuck
      | none => .stuck
    | _ => .stuck
  | .dct false ks xs => match keyD dk with
    | some ky => if decide (x.l = 8) && x.rs.isEmpty && hold w (mutE k) && deep w && dwf ks xs && decide (xs.length < lim) then .ok (.nx (kill [i] (Γ.set i (some ⟨8, [], .dct false (dput ks xs ky w.d).1 (dput ks xs ky w.d).2⟩)))) else .stuck
    | none => .stuck
  | _ => .stuck
mutual
def exS (C : Ctx) : S → Gm → Res Fl
  | .set i e, Γ => (ev C e Γ).bind fun (w, Γ1) => setG i w Γ1
  | .setT is e, Γ => (ev C e Γ).bind fun (w, Γ1) => match w.d with
    | .tup ds => match setTW is ds w.l (freeze w.rs Γ1) with
      | some Γ2 => if noDup is && is.all (fun i => decide (i < Γ1.length)) then .ok (.nx Γ2) else .stuck
      | none => .stuck
    | .lst ds => match setTW is ds 0 (freeze w.rs Γ1) with
      | some Γ2 => if noDup is && is.all (fun i => decide (i < Γ1.length)) && decide (w.l = 0) then .ok (.nx Γ2) else .stuck
      | none => .stuck
    | _ => .stuck
  | .par i j a b, Γ => (ev C a Γ).bind fun (w, Γ1) => (ev C b Γ1).bind fun (w2, Γ2) =>
      if imm w.d && imm w2.d then .ok (.nx ((Γ2.set i (some (val w.d))).set j (some (val w2.d)))) else .stuck
  | .aug i o e, Γ => gI Γ[i]? <| (ev C e Γ).bind fun (w, Γ1) => match rd Γ1 i with
    | some x => match x.d, w.d with
      | .int a, .int b => (opv o [val (.int a), val (.int b)]).bind fun z => match z.d with
        | .int c => .ok (.nx (Γ1.set i (some (val (.int c)))))
        | _ => .stuck
      | _, _ => .stuck
    | none => .stuck
  | .setIx i k e, Γ => gI Γ[i]? <| (ev C e Γ).bind fun (w, Γ1) => (ev C k Γ1).bind fun (wk, Γ2) => match rd Γ2 i with
    | some x => sixV i k w Γ2 x wk.d
    | none => .stuck
  | .setIx2 i k k2 e, Γ => gI Γ[i]? <| (ev C e Γ).bind fun (w, Γ1) => (ev C k Γ1).bind fun (wk, Γ2) => match inn2 (rd Γ2 i) wk.d with
    | none => .stuck
    | some _ => (ev C k2 Γ2).bind fun (wk2, Γ3) => match inn2 (rd Γ3 i) wk.d, wk2.d with
      | some (xs, p, ys), .int j2 => match ixN ys.length j2 with
        | some p2 => if imm w.d && disj [i] (mutE k2) then .ok (.nx (kill [i] (Γ3.set i (some ⟨8, [], .lst (xs.set p (.lst (ys.set p2 w.d)))⟩)))) else .stuck
        | none => .stuck
      | _, _ => .stuck
  | .augIx i k o e, Γ => gI Γ[i]? <| (ev C k Γ).bind fun (wk, Γ1) => match getI (rd Γ1 i) wk.d with
    | none => .stuck
    | some (j, a) => (ev C e Γ1).bind fun (w, Γ2) => match rd Γ2 i, w.d with
      | some x, .int b => match x.d with
        | .lst xs => match ixN xs.length j with
          | some p => if decide (1 ≤ x.l) && x.rs.isEmpty then (opv o [val (.int a), val (.int b)]).bind fun z => match z.d with
            | .int c => inG i x.l (xs.set p (.int c)) (val (.int c)) Γ2
            | _ => .stuck
            else .stuck
          | none => .stuck
        | _ => .stuck
      | _, _ => .stuck
  | .append i e, Γ => match rd Γ i with
    | some ⟨_, _, .lst _⟩ => (ev C e Γ).bind fun (w, Γ1) => match rd Γ1 i with
      | some x => match x.d with
        | .lst xs => if decide (1 ≤ x.l) && x.rs.isEmpty && !w.rs.contains i && decide (xs.length < lim) then inG i x.l (xs ++ [w.d]) w Γ1 else .stuck
        | _ => .stuck
      | none => .stuck
    | _ => .stuck
  | .rev i, Γ => match rd Γ i with
    | some x => match x.d with
      | .lst xs => if decide (1 ≤ x.l) && x.rs.isEmpty && immAll xs then .ok (.nx (kill [i] (Γ.set i (some ⟨8, [], .lst xs.reverse⟩)))) else .stuck
      | _ => .stuck
    | none => .stuck
  | .extend i e, Γ => match rd Γ i with
    | some ⟨_, _, .lst _⟩ => (ev C e Γ).bind fun (w, Γ1) => match rd Γ1 i, w.d with
      | some x, .lst ys => match x.d with
        | .lst xs => if decide (1 ≤ x.l) && x.rs.isEmpty && immAll xs && immAll ys && decide (xs.length + ys.length ≤ lim) then .ok (.nx (kill [i] (Γ1.set i (some ⟨8, [], .lst (xs ++ ys)⟩)))) else .stuck
        | _ => .stuck
      | _, _ => .stuck
    | _ => .stuck
  | .dead, _ => .stuck
  | .appAll i v c, Γ => match rd Γ i with
    | some x => match x.d with
      | .lst xs => if decide (x.l = 8) && x.rs.isEmpty && xs.all rowOk && decide (i ≠ v) && decide (v < Γ.length) then .ok (.nx ((kill [i] (Γ.set i (some ⟨8, [], .lst (xs.map (rowAdd c))⟩))).set v none)) else .stuck
      | _ => .stuck
    | none => .stuck
  | .expr e, Γ => (ev C e Γ).bind fun (_, Γ1) => .ok (.nx Γ1)
  | .ret e, Γ => (ev C e Γ).bind fun (w, Γ1) => .ok (.ret w Γ1)
  | .retN, Γ => .ok (.ret (val .non) Γ)
  | .iff c a b, Γ => (evT C c Γ).bind fun (k, Γ1) => match k with
    | true => exSs C a Γ1
    | false => exSs C b Γ1
  | .for_ tg src body, Γ => (evSrc C src Γ).bind fun (ds, rs, Γ1) =>
      if disj rs (tg.is ++ mutSs body) then
        forL (fun d Γ2 => match setTg tg d rs Γ2 with
          | some Γ3 => exSs C body Γ3
          | none => .stuck) ds Γ1
      else .stuck
  | .while_ c body, Γ => whileL (evT C c) (exSs C body) wfuel Γ
  | .brk, Γ => .ok (.brk Γ)
  | .cont, Γ => .ok (.cont Γ)
  | .pass, Γ => .ok (.nx Γ)
  | .raise _ _, _ => .stuck
  | .raiseE x f e, Γ => (ev C e Γ).bind fun (w, Γ1) => match pOf w.d with
    | some p => .exc 0 [.exn x f p] Γ1
    | none => .stuck
  | .tryE b i j, Γ => match exSs C b Γ with
    | .ok fl => .ok fl
    | .exc _ [.exn x f p] Γ1 => if i < Γ1.length ∧ j < Γ1.length ∧ i ≠ j then .ok (.nx ((Γ1.set j (some (val (.exn x f p)))).set i none)) else .stuck
    | .exc _ _ _ => .stuck
    | .stuck => .stuck
def exSs (C : Ctx) : Ss → Gm → Res Fl
  | .nil, Γ => .ok (.nx Γ)
  | .cons s ss, Γ => (exS C s Γ).bind fun fl => match fl with
    | .nx Γ1 => exSs C ss Γ1
    | .brk Γ1 => .ok (.brk Γ1)
    | .cont Γ1 => .ok (.cont Γ1)
    | .ret w Γ1 => .ok (.ret w Γ1)
end

/-! ### defs -/
structure Fn where
  slots : Nat
  mode : Mode
  body : Ss
def entry : List Bool → List D → Gm
  | b :: m, d :: ds => some (if b then ⟨8, [], d⟩ else itm [] d) :: entry m ds
  | _, _ => []
def exits : List Bool → Gm → Option (List D)
  | [], _ => some []
  | false :: m, _ :: Γ => exits m Γ
  | true :: m, some w :: Γ => match exits m Γ with
    | some ds => if w.l = 8 ∧ w.rs = [] then some (w.d :: ds) else none
    | none => none
  | _, _ => none
/-- none of these slots is a parameter that may change -/
def noIo (io : List Bool) (rs : List Nat) : Bool := rs.all fun r => decide (io[r]? ≠ some true)
def runFn (C : Ctx) (fn : Fn) (ds : List D) : Res (D × List D) :=
  if ds.length = fn.mode.io.length ∧ ds.length ≤ fn.slots then
    match exSs C fn.body (entry fn.mode.io ds ++ List.replicate (fn.slots - ds.length) none) with
    | .ok (.ret w Γ) => match exits fn.mode.io Γ with
      | some os => if (if fn.mode.fresh then deep w else noIo fn.mode.io w.rs) then .ok (w.d, os) else .stuck
      | none => .stuck
    | .ok (.nx Γ) => match exits fn.mode.io Γ with
      | some os => .ok (.non, os)
      | none => .stuck
    | .ok _ => .stuck
    | .exc c as _ => .exc c as []
    | .stuck => .stuck
  else .stuck
/-- the program by its defs, calls nested at most n deep -/
def exec (T : Nat → Option Fn) (gl : Nat → Option D) : Nat → Nat → List D → Res (D × List D)
  | 0, _, _ => .stuck
  | n + 1, f, ds => match T f with
    | some fn => runFn ⟨fun g => (T g).map (·.mode), exec T gl n, gl⟩ fn ds
    | none => .stuck
end Own

end
section
set_option maxHeartbeats 1000000
namespace Own
open PySem PySem.Spec L2

def cnd {α : Type} (k : Bool) (f g : Gm → Res α) (Γ : Gm) : Res α := match k with
  | true => f Γ
  | false => g Γ
section
variable {α β : Type} {C : Ctx} {s : Slot} {Γ : Gm} {l : Nat} {rs : List Nat} {d : D} {w a b : W} {x y : E} {es : Es} {i j : Nat} {k : Bool}
theorem cnd_t {f g : Gm → Res α} : cnd true f g Γ = f Γ := rfl
theorem cnd_f {f g : Gm → Res α} : cnd false f g Γ = g Γ := rfl

/-! expressions -/
theorem imm_tup {xs : List D} : imm (.tup xs) = immAll xs := by rw [imm]
theorem imm_lst {xs : List D} : imm (.lst xs) = false := by rw [imm]
theorem e_int {n : Int} : ev C (.int n) (s :: Γ) = Res.ok (⟨0, [], .int n⟩, s :: Γ) := by rw [ev] <;> rfl
theorem e_bl {n : Bool} : ev C (.bl n) (s :: Γ) = Res.ok (⟨0, [], .bl n⟩, s :: Γ) := by rw [ev] <;> rfl
theorem e_str {n : Str} : ev C (.str n) (s :: Γ) = Res.ok (⟨0, [], .str n⟩, s :: Γ) := by rw [ev] <;> rfl
theorem e_non : ev C .non (s :: Γ) = Res.ok (⟨0, [], .non⟩, s :: Γ) := by rw [ev] <;> rfl
def locK (i : Nat) (Γ : Gm) : Option Slot → Res (W × Gm)
  | some (some w) => Res.ok (vw i w, Γ)
  | _ => Res.stuck
theorem e_loc : ev C (.loc i) (s :: Γ) = locK i (s :: Γ) ((s :: Γ)[i]?) := by
  rw [ev]
  unfold rd locK
  cases (s :: Γ)[i]? with
  | none => rfl
  | some x => cases x <;> rfl
theorem locK_ok : locK i Γ (some (some w)) = Res.ok (vw i w, Γ) := rfl
theorem vw_imm (h : imm d = true) : vw i ⟨l, rs, d⟩ = ⟨0, [], d⟩ := if_pos h
theorem vw_0 {xs : List D} : vw i ⟨0, rs, .lst xs⟩ = ⟨0, rs, .lst xs⟩ := rfl
theorem vw_1 {xs : List D} : vw i ⟨1, rs, .lst xs⟩ = ⟨0, i :: rs, .lst xs⟩ := rfl
theorem vw_8 {xs : List D} : vw i ⟨8, rs, .lst xs⟩ = ⟨0, i :: rs, .lst xs⟩ := rfl
theorem vw_t0 {xs : List D} (h : immAll xs = false) : vw i ⟨0, rs, .tup xs⟩ = ⟨0, rs, .tup xs⟩ := by
  unfold vw
  rw [if_neg (by rw [imm_tup, h]; exact Bool.false_ne_true)]
  rfl
theorem vw_t8 {xs : List D} (h : immAll xs = false) : vw i ⟨8, rs, .tup xs⟩ = ⟨0, i :: rs, .tup xs⟩ := by
  unfold vw
  rw [if_neg (by rw [imm_tup, h]; exact Bool.false_ne_true)]
  rfl
def mvK (i : Nat) (Γ : Gm) : Option Slot → Res (W × Gm)
  | some (some w) => if imm w.d then Res.ok (val w.d, Γ) else if w.l = 0 then Res.ok (w, Γ) else if w.rs.isEmpty then Res.ok (w, kill [i] (Γ.set i none)) else Res.stuck
  | _ => Res.stuck
theorem e_mv : ev C (.mv i) (s :: Γ) = mvK i (s :: Γ) ((s :: Γ)[i]?) := by
  rw [ev]
  unfold rd mvK
  cases (s :: Γ)[i]? with
  | none => rfl
  | some x => cases x <;> rfl
theorem mvK_imm (h : imm d = true) : mvK i Γ (some (some ⟨l, rs, d⟩)) = Res.ok (⟨0, [], d⟩, Γ) := by unfold mvK; exact if_pos h
theorem mvK_0 {xs : List D} : mvK i Γ (some (some ⟨0, rs, .lst xs⟩)) = Res.ok (⟨0, rs, .lst xs⟩, Γ) := rfl
theorem mvK_1 {xs : List D} : mvK i Γ (some (some ⟨1, [], .lst xs⟩)) = Res.ok (⟨1, [], .lst xs⟩, kill [i] (Γ.set i none)) := rfl
theorem mvK_8 {xs : List D} : mvK i Γ (some (some ⟨8, [], .lst xs⟩)) = Res.ok (⟨8, [], .lst xs⟩, kill [i] (Γ.set i none)) := rfl
theorem mvK_t8 {xs : List D} (h : immAll xs = false) : mvK i Γ (some (some ⟨8, [], .tup xs⟩)) = Res.ok (⟨8, [], .tup xs⟩, kill [i] (Γ.set i none)) := by
  unfold mvK
  show (if imm (.tup xs) = true then _ else _) = _
  rw [if_neg (by rw [imm_tup, h]; exact Bool.false_ne_true)]
  rfl
theorem mvK_t0 {xs : List D} (h : immAll xs = false) : mvK i Γ (some (some ⟨0, rs, .tup xs⟩)) = Res.ok (⟨0, rs, .tup xs⟩, Γ) := by
  unfold mvK
  show (if imm (.tup xs) = true then _ else _) = _
  rw [if_neg (by rw [imm_tup, h]; exact Bool.false_ne_true)]
  rfl
theorem kill_nil {js : List Nat} : kill js [] = [] := rfl
theorem kill_cons {js : List Nat} : kill js (s :: Γ) = kill1 js s :: kill js Γ := rfl
theorem kill1_none {js : List Nat} : kill1 js none = none := rfl
theorem kill1_own {js : List Nat} : kill1 js (some ⟨l, [], d⟩) = some ⟨l, [], d⟩ := rfl
theorem kill1_keep {js : List Nat} (h : rs.any (fun r => js.contains r) = false) : kill1 js (some ⟨l, rs, d⟩) = some ⟨l, rs, d⟩ := if_neg (by rw [h]; exact Bool.false_ne_true)
theorem imm_int {n : Int} : imm (.int n) = true := by cases n <;> rfl
theorem imm_bl {n : Bool} : imm (.bl n) = true := by cases n <;> rfl
theorem imm_str {n : Str} : imm (.str n) = true := by cases n; rfl
theorem imm_non : imm .non = true := (beq_iff_eq (a := imm .non) (b := true)).mp rfl
theorem imm_scr {n : List Int} : imm (.scr n) = true := by cases n <;> rfl
theorem immAll_nil : immAll [] = true := (beq_iff_eq (a := immAll []) (b := true)).mp rfl
theorem immAll_cons {xs : List D} : immAll (d :: xs) = (imm d && immAll xs) := by cases xs <;> rfl
def glbK (Γ : Gm) : Option D → Res (W × Gm)
  | some d => if imm d then Res.ok (val d, Γ) else Res.stuck
  | none => Res.stuck
theorem e_glb : ev C (.glb i) (s :: Γ) = glbK (s :: Γ) (C.glob i) := by
  rw [ev]
  unfold glbK
  cases C.glob i <;> rfl
theorem glbK_ok (h : imm d = true) : glbK Γ (some d) = Res.ok (⟨0, [], d⟩, Γ) := if_pos h

def opK (o : Op) (p : List Aw × Gm) : Res (W × Gm) := match avals p.1 with
  | some xs => (opv o xs).bind fun w => Res.ok (w, p.2)
  | none => Res.stuck
theorem e_op {o : Op} : ev C (.op o es) (s :: Γ) = (evs C es (s :: Γ)).bind (opK o) := by rw [ev] <;> rfl
theorem opK_1 {o : Op} : opK o ([.val a], s :: Γ) = (opv o [a]).bind fun w => Res.ok (w, s :: Γ) := rfl
theorem opK_2 {o : Op} : opK o ([.val a, .val b], s :: Γ) = (opv o [a, b]).bind fun w => Res.ok (w, s :: Γ) := rfl
theorem opK_3 {o : Op} : opK o ([.val a, .val b, .val w], s :: Γ) = (opv o [a, b, w]).bind fun w => Res.ok (w, s :: Γ) := rfl
def tupK (p : List Aw × Gm) : Res (W × Gm) := match avals p.1 with
  | some xs => if immAll (xs.map (·.d)) then Res.ok (val (.tup (xs.map (·.d))), p.2)
        else if xs.all deep then Res.ok (⟨8, [], .tup (xs.map (·.d))⟩, p.2)
        else Res.ok (⟨0, [], .tup (xs.map (·.d))⟩, (stls xs p.2).2)
  | none => Res.stuck
theorem e_tup : ev C (.tup es) (s :: Γ) = (evs C es (s :: Γ)).bind tupK := by rw [ev] <;> rfl
theorem tupK_imm {ws : List Aw} {xs : List W} (h : avals ws = some xs) (h2 : immAll (xs.map (·.d)) = true) : tupK (ws, s :: Γ) = Res.ok (⟨0, [], .tup (xs.map (·.d))⟩, s :: Γ) := by
  unfold tupK; rw [h]; exact if_pos h2
def tup2 (ds : List D) (ws : List W) (Γ : Gm) : Res (W × Gm) := if immAll ds then Res.ok (⟨0, [], .tup ds⟩, Γ)
        else if ws.all deep then Res.ok (⟨8, [], .tup ds⟩, Γ)
        else Res.ok (⟨0, [], .tup ds⟩, (stls ws Γ).2)
theorem tupK_0 : tupK ([], s :: Γ) = Res.ok (⟨0, [], .tup []⟩, s :: Γ) := rfl
theorem tupK_1 : tupK ([.val a], s :: Γ) = tup2 [a.d] [a] (s :: Γ) := rfl
theorem tupK_2 : tupK ([.val a, .val b], s :: Γ) = tup2 [a.d, b.d] [a, b] (s :: Γ) := rfl
theorem tupK_3 {c : W} : tupK ([.val a, .val b, .val c], s :: Γ) = tup2 [a.d, b.d, c.d] [a, b, c] (s :: Γ) := rfl
theorem tupK_4 {c e : W} : tupK ([.val a, .val b, .val c, .val e], s :: Γ) = tup2 [a.d, b.d, c.d, e.d] [a, b, c, e] (s :: Γ) := rfl
theorem tup2_imm {ds : List D} {ws : List W} (h : immAll ds = true) : tup2 ds ws Γ = Res.ok (⟨0, [], .tup ds⟩, Γ) := if_pos h
theorem tup2_own {ds : List D} {ws : List W} (h : immAll ds = false) (h2 : ws.all deep = true) : tup2 ds ws Γ = Res.ok (⟨8, [], .tup ds⟩, Γ) := by
  unfold tup2; rw [if_neg (by rw [h]; exact Bool.false_ne_true), if_pos h2]
def lstK (p : List Aw × Gm) : Res (W × Gm) := match avals p.1 with
  | some xs => if xs.all deep then Res.ok (⟨8, [], .lst (xs.map (·.d))⟩, p.2)
        else Res.ok (⟨1, [], .lst (xs.map (·.d))⟩, (stls xs p.2).2)
  | none => Res.stuck
theorem e_lst : ev C (.lst es) (s :: Γ) = (evs C es (s :: Γ)).bind lstK := by rw [ev] <;> rfl
def lst2 (ds : List D) (ws : List W) (Γ : Gm) : Res (W × Gm) := if ws.all deep then Res.ok (⟨8, [], .lst ds⟩, Γ)
        else Res.ok (⟨1, [], .lst ds⟩, (stls ws Γ).2)
theorem lstK_0 : lstK ([], s :: Γ) = Res.ok (⟨8, [], .lst []⟩, s :: Γ) := rfl
theorem lstK_1 : lstK ([.val a], s :: Γ) = lst2 [a.d] [a] (s :: Γ) := rfl
theorem lstK_2 : lstK ([.val a, .val b], s :: Γ) = lst2 [a.d, b.d] [a, b] (s :: Γ) := rfl
theorem lstK_3 {c : W} : lstK ([.val a, .val b, .val c], s :: Γ) = lst2 [a.d, b.d, c.d] [a, b, c] (s :: Γ) := rfl
theorem lstK_4 {c e : W} : lstK ([.val a, .val b, .val c, .val e], s :: Γ) = lst2 [a.d, b.d, c.d, e.d] [a, b, c, e] (s :: Γ) := rfl
theorem lst2_own {ds : List D} {ws : List W} (h2 : ws.all deep = true) : lst2 ds ws Γ = Res.ok (⟨8, [], .lst ds⟩, Γ) := if_pos h2
theorem deep_imm (h : imm d = true) : deep ⟨l, rs, d⟩ = true := by unfold deep; rw [h]; rfl
theorem deep_8 : deep ⟨8, [], d⟩ = true := by unfold deep; simp
theorem all_nil' {p : W → Bool} : [].all p = true := (beq_iff_eq (a := [].all p) (b := true)).mp rfl
theorem all_cons' {p : W → Bool} {ws : List W} : (w :: ws).all p = (p w && ws.all p) := by cases ws <;> rfl

def consK (C : Ctx) (es : Es) (p : W × Gm) : Res (List Aw × Gm) := (evs C es p.2).bind fun q => if hold p.1 (mutEs es) then Res.ok (.val p.1 :: q.1, q.2) else Res.stuck
def consK2 (w : W) (es : Es) (q : List Aw × Gm) : Res (List Aw × Gm) := if hold w (mutEs es) then Res.ok (.val w :: q.1, q.2) else Res.stuck
theorem s_nil : evs C .nil (s :: Γ) = Res.ok ([], s :: Γ) := by rw [evs]
theorem s_cons : evs C (.cons x es) (s :: Γ) = (ev C x (s :: Γ)).bind (consK C es) := by rw [evs] <;> rfl
theorem consK_ : consK C es (w, s :: Γ) = (evs C es (s :: Γ)).bind (consK2 w es) := rfl
theorem consK2_own {ws : List Aw} : consK2 ⟨l, [], d⟩ es (ws, s :: Γ) = Res.ok (.val ⟨l, [], d⟩ :: ws, s :: Γ) := rfl
theorem consK2_hold {ws : List Aw} (h : hold ⟨l, rs, d⟩ (mutEs es) = true) : consK2 ⟨l, rs, d⟩ es (ws, s :: Γ) = Res.ok (.val ⟨l, rs, d⟩ :: ws, s :: Γ) := if_pos h
def ioK (i : Nat) (q : List Aw × Gm) : Res (List Aw × Gm) := Res.ok (.io i :: q.1, q.2)
def ioC (C : Ctx) (i : Nat) (es : Es) (Γ : Gm) : Option Slot → Res (List Aw × Gm)
  | some (some _) => (evs C es Γ).bind (ioK i)
  | _ => Res.stuck
theorem s_io : evs C (.io i es) (s :: Γ) = ioC C i es (s :: Γ) ((s :: Γ)[i]?) := by
  rw [evs]
  unfold rd ioC
  cases (s :: Γ)[i]? with
  | none => rfl
  | some x => cases x <;> rfl
theorem ioC_ : ioC C i es (s :: Γ) (some (some w)) = (evs C es (s :: Γ)).bind (ioK i) := rfl
theorem ioK_ {ws : List Aw} : ioK i (ws, s :: Γ) = Res.ok (.io i :: ws, s :: Γ) := rfl
def tmpK (C : Ctx) (es : Es) (p : W × Gm) : Res (List Aw × Gm) := (evs C es p.2).bind fun q => if hold p.1 (mutEs es) then Res.ok (.tmp p.1 :: q.1, q.2) else Res.stuck
def tmpK2 (w : W) (es : Es) (q : List Aw × Gm) : Res (List Aw × Gm) := if hold w (mutEs es) then Res.ok (.tmp w :: q.1, q.2) else Res.stuck
theorem s_tmp : evs C (.tmp x es) (s :: Γ) = (ev C x (s :: Γ)).bind (tmpK C es) := by rw [evs] <;> rfl
theorem tmpK_ : tmpK C es (w, s :: Γ) = (evs C es (s :: Γ)).bind (tmpK2 w es) := rfl
theorem tmpK2_own {ws : List Aw} : tmpK2 ⟨l, [], d⟩ es (ws, s :: Γ) = Res.ok (.tmp ⟨l, [], d⟩ :: ws, s :: Γ) := rfl

def chK5 (Γ : Gm) : Option Bool → Res (W × Gm)
  | some z => Res.ok (val (.bl z), Γ)
  | none => Res.stuck
def chK4 (o' : Op) (j : Int) (p : W × Gm) : Res (W × Gm) := match p.1.d with
  | .int k => chK5 p.2 (cmpI o' j k)
  | _ => Res.stuck
def chK3 (C : Ctx) (o' : Op) (j : Int) (c : E) (Γ : Gm) : Option Bool → Res (W × Gm)
  | some true => (ev C c Γ).bind (chK4 o' j)
  | some false => Res.ok (val (.bl false), Γ)
  | none => Res.stuck
def chK2 (C : Ctx) (o o' : Op) (w1 : W) (c : E) (q : W × Gm) : Res (W × Gm) := match w1.d, q.1.d with
  | .int i, .int j => chK3 C o' j c q.2 (cmpI o i j)
  | _, _ => Res.stuck
def chK1 (C : Ctx) (o o' : Op) (b c : E) (p : W × Gm) : Res (W × Gm) := (ev C b p.2).bind (chK2 C o o' p.1 c)
theorem e_chain {o o' : Op} {z : E} : ev C (.chain o o' x y z) (s :: Γ) = (ev C x (s :: Γ)).bind (chK1 C o o' y z) := by
  rw [ev] <;> rfl
theorem chK1_ {o o' : Op} {z : E} : chK1 C o o' y z (w, s :: Γ) = (ev C y (s :: Γ)).bind (chK2 C o o' w z) := rfl
theorem chK2_ {o o' : Op} {z : E} {m n : Int} {l' : Nat} {rs' : List Nat} : chK2 C o o' ⟨l, rs, .int m⟩ z (⟨l', rs', .int n⟩, s :: Γ) = chK3 C o' n z (s :: Γ) (cmpI o m n) := rfl
theorem chK3_ {o' : Op} {z : E} {n : Int} : chK3 C o' n z (s :: Γ) (some k) = cnd k (fun Γ => (ev C z Γ).bind (chK4 o' n)) (fun Γ => Res.ok (⟨0, [], .bl false⟩, Γ)) (s :: Γ) := by cases k <;> rfl
theorem chK4_ {o' : Op} {n m : Int} : chK4 o' n (⟨l, rs, .int m⟩, s :: Γ) = chK5 (s :: Γ) (cmpI o' n m) := rfl
theorem chK5_ : chK5 (s :: Γ) (some k) = Res.ok (⟨0, [], .bl k⟩, s :: Γ) := rfl
theorem cmpI_lt {m n : Int} : cmpI .lt m n = some (decide (m < n)) := rfl
theorem cmpI_le {m n : Int} : cmpI .le m n = some (decide (m ≤ n)) := rfl
theorem cmpI_gt {m n : Int} : cmpI .gt m n = some (decide (n < m)) := rfl
theorem cmpI_ge {m n : Int} : cmpI .ge m n = some (decide (n ≤ m)) := rfl
theorem hold_nil {ms : List Nat} : hold ⟨l, [], d⟩ ms = true := rfl

def andK (C : Ctx) (b : E) (p : W × Gm) : Res (W × Gm) := match p.1.d with
    | .bl true => ev C b p.2
    | .bl false => Res.ok (val (.bl false), p.2)
    | _ => Res.stuck
theorem e_and : ev C (.and x y) (s :: Γ) = (ev C x (s :: Γ)).bind (andK C y) := by rw [ev] <;> rfl
theorem andK_ : andK C y (⟨l, rs, .bl k⟩, s :: Γ) = cnd k (ev C y) (fun Γ => Res.ok (⟨0, [], .bl false⟩, Γ)) (s :: Γ) := by cases k <;> rfl
def orK (C : Ctx) (b : E) (p : W × Gm) : Res (W × Gm) := match p.1.d with
    | .bl false => ev C b p.2
    | .bl true => Res.ok (val (.bl true), p.2)
    | _ => Res.stuck
theorem e_or : ev C (.or x y) (s :: Γ) = (ev C x (s :: Γ)).bind (orK C y) := by rw [ev] <;> rfl
theorem orK_ : orK C y (⟨l, rs, .bl k⟩, s :: Γ) = cnd k (fun Γ => Res.ok (⟨0, [], .bl true⟩, Γ)) (ev C y) (s :: Γ) := by cases k <;> rfl
def notK (p : W × Gm) : Res (W × Gm) := match p.1.d with
    | .bl b => Res.ok (val (.bl (!b)), p.2)
    | _ => Res.stuck
theorem e_not : ev C (.not x) (s :: Γ) = (ev C x (s :: Γ)).bind notK := by rw [ev] <;> rfl
theorem notK_ : notK (⟨l, rs, .bl k⟩, s :: Γ) = Res.ok (⟨0, [], .bl (!k)⟩, s :: Γ) := rfl
def iteK {β : Type} (f g : Gm → Res β) (p : Bool × Gm) : Res β := match p.1 with
  | true => f p.2
  | false => g p.2
theorem iteK_ {f g : Gm → Res β} : iteK f g (k, s :: Γ) = cnd k f g (s :: Γ) := rfl
theorem e_ite {z : E} : ev C (.ite z x y) (s :: Γ) = (evT C z (s :: Γ)).bind (iteK (ev C x) (ev C y)) := by
  rw [ev]
  all_goals (first | rfl | (congr 1; funext p; obtain ⟨k, Γ1⟩ := p; cases k <;> rfl))

/-! tests -/
theorem t_and : evT C (.and x y) (s :: Γ) = (evT C x (s :: Γ)).bind (iteK (evT C y) (fun Γ => Res.ok (false, Γ))) := by
  rw [evT]
  all_goals (first | rfl | (congr 1; funext p; obtain ⟨k, Γ1⟩ := p; cases k <;> rfl))
theorem t_or : evT C (.or x y) (s :: Γ) = (evT C x (s :: Γ)).bind (iteK (fun Γ => Res.ok (true, Γ)) (evT C y)) := by
  rw [evT]
  all_goals (first | rfl | (congr 1; funext p; obtain ⟨k, Γ1⟩ := p; cases k <;> rfl))
def tnotK (p : Bool × Gm) : Res (Bool × Gm) := Res.ok (!p.1, p.2)
theorem t_not : evT C (.not x) (s :: Γ) = (evT C x (s :: Γ)).bind tnotK := by rw [evT] <;> rfl
theorem tnotK_ : tnotK (k, s :: Γ) = Res.ok (!k, s :: Γ) := rfl
def truK (p : W × Gm) : Res (Bool × Gm) := match truD p.1.d with
    | some k => Res.ok (k, p.2)
    | none => Res.stuck
theorem truK_bl : truK (⟨l, rs, .bl k⟩, s :: Γ) = Res.ok (k, s :: Γ) := rfl
theorem truK_int {n : Int} : truK (⟨l, rs, .int n⟩, s :: Γ) = Res.ok (n != 0, s :: Γ) := rfl
theorem truK_lst {xs : List D} : truK (⟨l, rs, .lst xs⟩, s :: Γ) = Res.ok (!xs.isEmpty, s :: Γ) := rfl
theorem truK_non : truK (⟨l, rs, .non⟩, s :: Γ) = Res.ok (false, s :: Γ) := rfl
theorem t_op {o : Op} : evT C (.op o es) (s :: Γ) = (ev C (.op o es) (s :: Γ)).bind truK := by rw [evT] <;> (intros; first | rfl | (rename_i h; cases h))
theorem t_chain {o o' : Op} {z : E} : evT C (.chain o o' x y z) (s :: Γ) = (ev C (.chain o o' x y z) (s :: Γ)).bind truK := by rw [evT] <;> (intros; first | rfl | (rename_i h; cases h))
theorem t_loc : evT C (.loc i) (s :: Γ) = (ev C (.loc i) (s :: Γ)).bind truK := by rw [evT] <;> (intros; first | rfl | (rename_i h; cases h))
theorem t_call : evT C (.call i es) (s :: Γ) = (ev C (.call i es) (s :: Γ)).bind truK := by rw [evT] <;> (intros; first | rfl | (rename_i h; cases h))
theorem t_bl {b : Bool} : evT C (.bl b) (s :: Γ) = Res.ok (b, s :: Γ) := by rw [evT] <;> (intros; first | (rw [ev]; rfl) | (rename_i h; cases h))

/-! calls -/
theorem e_call {f : Nat} : ev C (.call f es) (s :: Γ) = (evs C es (s :: Γ)).bind (fun p => callG C f p.1 p.2) := by rw [ev] <;> rfl
def callA (C : Ctx) (f : Nat) (ws : List Aw) (Γ : Gm) : Option (List D) → Res (W × Gm)
  | none => Res.stuck
  | some ds => match C.call f ds with
        | Res.ok (r, os) => match outs ws os (kill (ios ws) Γ) with
          | some Γ' => Res.ok (if imm r then val r else ⟨8, [], r⟩, Γ')
          | none => Res.stuck
        | Res.exc c as _ => Res.exc c as (wipeG (ios ws) (kill (ios ws) Γ))
        | Res.stuck => Res.stuck
def resV (rs : List Nat) (r : D) : W := if imm r then val r else ⟨0, rs, r⟩
def callB (fr : Bool) (C : Ctx) (f : Nat) (ws : List Aw) (Γ : Gm) : Option (List D) → Res (W × Gm)
  | none => Res.stuck
  | some ds => match C.call f ds with
        | Res.ok (r, os) => match outs ws os (kill (ios ws) Γ) with
          | some Γ' => Res.ok (if imm r then val r else if fr then ⟨8, [], r⟩ else ⟨0, arss ws, r⟩, Γ')
          | none => Res.stuck
        | Res.exc c as _ => Res.exc c as (wipeG (ios ws) (kill (ios ws) Γ))
        | Res.stuck => Res.stuck
def callV (C : Ctx) (f : Nat) (ws : List Aw) (Γ : Gm) (o : Option (List D)) : Res (W × Gm) := callB false C f ws Γ o
def callM (C : Ctx) (f : Nat) (ws : List Aw) (Γ : Gm) : Option Mode → Res (W × Gm)
  | none => Res.stuck
  | some m => if fitM m.io ws && noDup (ios ws) && disj (ios ws) (arss ws) then callB m.fresh C f ws Γ (adata Γ ws) else Res.stuck
theorem callG_ {f : Nat} {ws : List Aw} : callG C f ws (s :: Γ) = callM C f ws (s :: Γ) (C.mode f) := rfl
theorem callM_ {f : Nat} {ws : List Aw} {m : Mode} (h : (m.fresh && fitM m.io ws && noDup (ios ws) && disj (ios ws) (arss ws)) = true) : callM C f ws (s :: Γ) (some m) = callA C f ws (s :: Γ) (adata (s :: Γ) ws) := by
  obtain ⟨io, fr⟩ := m
  cases fr with
  | false => cases h
  | true => exact (if_pos (by simpa using h)).trans (by cases adata (s :: Γ) ws <;> rfl)
theorem callMv_ {f : Nat} {ws : List Aw} {m : Mode} (h : (!m.fresh && fitM m.io ws && noDup (ios ws) && disj (ios ws) (arss ws)) = true) : callM C f ws (s :: Γ) (some m) = callV C f ws (s :: Γ) (adata (s :: Γ) ws) := by
  obtain ⟨io, fr⟩ := m
  cases fr with
  | true => cases h
  | false => exact if_pos (by simpa using h)
def callRv (ws : List Aw) (Γ : Gm) : Res (D × List D) → Res (W × Gm)
  | Res.ok (r, os) => match outs ws os (kill (ios ws) Γ) with
          | some Γ' => Res.ok (resV (arss ws) r, Γ')
          | none => Res.stuck
  | Res.exc c as _ => Res.exc c as (wipeG (ios ws) (kill (ios ws) Γ))
  | Res.stuck => Res.stuck
theorem callV_ {f : Nat} {ws : List Aw} {ds : List D} : callV C f ws (s :: Γ) (some ds) = callRv ws (s :: Γ) (C.call f ds) := rfl
def callOv (w : W) : Option Gm → Res (W × Gm)
  | some Γ => Res.ok (w, Γ)
  | none => Res.stuck
theorem callRv_ok {ws : List Aw} {r : D} {os : List D} : callRv ws (s :: Γ) (Res.ok (r, os)) = callOv (resV (arss ws) r) (outs ws os (kill (ios ws) (s :: Γ))) := by
  show (match outs ws os (kill (ios ws) (s :: Γ)) with
    | some Γ' => Res.ok (resV (arss ws) r, Γ')
    | none => Res.stuck) = _
  unfold callOv
  cases outs ws os (kill (ios ws) (s :: Γ)) <;> rfl
theorem callRv_exc {ws : List Aw} {c : Nat} {as : List D} {Γ' : Gm} : callRv ws (s :: Γ) (Res.exc c as Γ') = Res.exc c as (wipeG (ios ws) (kill (ios ws) (s :: Γ))) := rfl
theorem callOv_ : callOv w (some (s :: Γ)) = Res.ok (w, s :: Γ) := rfl
theorem resV_imm (h : imm d = true) : resV rs d = ⟨0, [], d⟩ := if_pos h
theorem resV_see (h : imm d = false) : resV rs d = ⟨0, rs, d⟩ := if_neg (by rw [h]; exact Bool.false_ne_true)
def callR (ws : List Aw) (Γ : Gm) : Res (D × List D) → Res (W × Gm)
  | Res.ok (r, os) => match outs ws os (kill (ios ws) Γ) with
          | some Γ' => Res.ok (if imm r then val r else ⟨8, [], r⟩, Γ')
          | none => Res.stuck
  | Res.exc c as _ => Res.exc c as (wipeG (ios ws) (kill (ios ws) Γ))
  | Res.stuck => Res.stuck
theorem callA_ {f : Nat} {ws : List Aw} {ds : List D} : callA C f ws (s :: Γ) (some ds) = callR ws (s :: Γ) (C.call f ds) := rfl
def resW (r : D) : W := if imm r then val r else ⟨8, [], r⟩
def callO (r : D) : Option Gm → Res (W × Gm)
  | some Γ => Res.ok (resW r, Γ)
  | none => Res.stuck
theorem callR_ok {ws : List Aw} {r : D} {os : List D} : callR ws (s :: Γ) (Res.ok (r, os)) = callO r (outs ws os (kill (ios ws) (s :: Γ))) := by
  show (match outs ws os (kill (ios ws) (s :: Γ)) with
    | some Γ' => Res.ok (if imm r then val r else ⟨8, [], r⟩, Γ')
    | none => Res.stuck) = _
  unfold callO resW
  cases outs ws os (kill (ios ws) (s :: Γ)) <;> rfl
theorem callR_exc {ws : List Aw} {c : Nat} {as : List D} {Γ' : Gm} : callR ws (s :: Γ) (Res.exc c as Γ') = Res.exc c as (wipeG (ios ws) (kill (ios ws) (s :: Γ))) := rfl
theorem callO_ {r : D} : callO r (some (s :: Γ)) = Res.ok (resW r, s :: Γ) := rfl
theorem resW_imm (h : imm d = true) : resW d = ⟨0, [], d⟩ := if_pos h
theorem resW_lst {xs : List D} : resW (.lst xs) = ⟨8, [], .lst xs⟩ := rfl
theorem resW_tup {xs : List D} (h : immAll xs = false) : resW (.tup xs) = ⟨8, [], .tup xs⟩ := by
  unfold resW
  rw [if_neg (by rw [imm_tup, h]; exact Bool.false_ne_true)]
theorem adata_nil : adata Γ [] = some [] := rfl
def adK (d : D) : Option (List D) → Option (List D)
  | some ds => some (d :: ds)
  | none => none
theorem adK_ {ds : List D} : adK d (some ds) = some (d :: ds) := rfl
theorem adata_val {ws : List Aw} : adata (s :: Γ) (.val ⟨l, rs, d⟩ :: ws) = adK d (adata (s :: Γ) ws) := rfl
def adI (o : Option (List D)) : Option Slot → Option (List D)
  | some (some w) => match o with
    | some ds => if w.l = 8 ∧ w.rs = [] then some (w.d :: ds) else none
    | none => none
  | _ => none
theorem adata_io {ws : List Aw} : adata (s :: Γ) (.io i :: ws) = adI (adata (s :: Γ) ws) ((s :: Γ)[i]?) := by
  show (match rd (s :: Γ) i, adata (s :: Γ) ws with
    | some w, some ds => if w.l = 8 ∧ w.rs = [] then some (w.d :: ds) else none
    | _, _ => none) = _
  unfold rd adI
  cases (s :: Γ)[i]? with
  | none => rfl
  | some x =>
    cases x with
    | none => rfl
    | some w => cases adata (s :: Γ) ws <;> rfl
theorem adI_8 {ds : List D} : adI (some ds) (some (some ⟨8, [], d⟩)) = some (d :: ds) := rfl
theorem adata_tmp8 {ws : List Aw} : adata (s :: Γ) (.tmp ⟨8, [], d⟩ :: ws) = adK d (adata (s :: Γ) ws) := by
  show (match adata (s :: Γ) ws with
    | some ds => if 8 = 8 ∧ ([] : List Nat) = [] then some (d :: ds) else none
    | none => none) = _
  cases adata (s :: Γ) ws <;> rfl
theorem outs_nil : outs [] [] Γ = some Γ := rfl
theorem outs_val {ws : List Aw} {os : List D} : outs (.val w :: ws) os Γ = outs ws os Γ := rfl
theorem outs_io {ws : List Aw} {os : List D} : outs (.io i :: ws) (d :: os) Γ = outs ws os (Γ.set i (some ⟨8, [], d⟩)) := rfl
theorem outs_tmp {ws : List Aw} {os : List D} : outs (.tmp w :: ws) (d :: os) Γ = outs ws os Γ := rfl

/-! sources -/
def seqSK (p : W × Gm) : Res (List D × List Nat × Gm) := match p.1.d with
    | .lst xs => Res.ok (xs, p.1.rs, p.2)
    | .tup xs => Res.ok (xs, p.1.rs, p.2)
    | _ => Res.stuck
theorem r_seq : evSrc C (.seq x) (s :: Γ) = (ev C x (s :: Γ)).bind seqSK := by rw [evSrc] <;> rfl
theorem seqSK_l {xs : List D} : seqSK (⟨l, rs, .lst xs⟩, s :: Γ) = Res.ok (xs, rs, s :: Γ) := rfl
theorem seqSK_t {xs : List D} : seqSK (⟨l, rs, .tup xs⟩, s :: Γ) = Res.ok (xs, rs, s :: Γ) := rfl
def rng1K (p : W × Gm) : Res (List D × List Nat × Gm) := match p.1.d with
    | .int j => if Rg j then Res.ok (rngD 0 j.toNat, [], p.2) else Res.stuck
    | _ => Res.stuck
theorem r_rng1 : evSrc C (.rng1 x) (s :: Γ) = (ev C x (s :: Γ)).bind rng1K := by rw [evSrc] <;> rfl
theorem rng1K_ {n : Int} (h1 : -(2 ^ 62) < n) (h2 : n < 2 ^ 62) : rng1K (⟨l, rs, .int n⟩, s :: Γ) = Res.ok (rngD 0 n.toNat, [], s :: Γ) := if_pos (rg_of h1 h2)
def rng2K (C : Ctx) (y : E) (p : W × Gm) : Res (List D × List Nat × Gm) := (ev C y p.2).bind fun q => match p.1.d, q.1.d with
    | .int i, .int j => if Rg i ∧ Rg j then Res.ok (rngD i (j - i).toNat, [], q.2) else Res.stuck
    | _, _ => Res.stuck
def rng2K2 (w : W) (q : W × Gm) : Res (List D × List Nat × Gm) := match w.d, q.1.d with
    | .int i, .int j => if Rg i ∧ Rg j then Res.ok (rngD i (j - i).toNat, [], q.2) else Res.stuck
    | _, _ => Res.stuck
theorem r_rng2 : evSrc C (.rng2 x y) (s :: Γ) = (ev C x (s :: Γ)).bind (rng2K C y) := by rw [evSrc] <;> rfl
theorem rng2K_ : rng2K C y (w, s :: Γ) = (ev C y (s :: Γ)).bind (rng2K2 w) := rfl
theorem rng2K2_ {n m : Int} {l' : Nat} {rs' : List Nat} (h1 : -(2 ^ 62) < n) (h2 : n < 2 ^ 62) (h3 : -(2 ^ 62) < m) (h4 : m < 2 ^ 62) : rng2K2 ⟨l, rs, .int n⟩ (⟨l', rs', .int m⟩, s :: Γ) = Res.ok (rngD n (m - n).toNat, [], s :: Γ) := if_pos ⟨rg_of h1 h2, rg_of h3 h4⟩
def enumK (p : W × Gm) : Res (List D × List Nat × Gm) := match p.1.d with
    | .lst xs => Res.ok (enumD 0 xs, p.1.rs, p.2)
    | _ => Res.stuck
theorem r_enum : evSrc C (.enum x) (s :: Γ) = (ev C x (s :: Γ)).bind enumK := by rw [evSrc] <;> rfl
theorem enumK_ {xs : List D} : enumK (⟨l, rs, .lst xs⟩, s :: Γ) = Res.ok (enumD 0 xs, rs, s :: Γ) := rfl
def zipK (C : Ctx) (y : E) (p : W × Gm) : Res (List D × List Nat × Gm) := (ev C y p.2).bind fun q => match p.1.d, q.1.d with
    | .lst xs, .lst ys => if hold p.1 (mutE y) then Res.ok (zipD xs ys, p.1.rs ++ q.1.rs, q.2) else Res.stuck
    | _, _ => Res.stuck
def zipK2 (w : W) (y : E) (q : W × Gm) : Res (List D × List Nat × Gm) := match w.d, q.1.d with
    | .lst xs, .lst ys => if hold w (mutE y) then Res.ok (zipD xs ys, w.rs ++ q.1.rs, q.2) else Res.stuck
    | _, _ => Res.stuck
theorem r_zip : evSrc C (.zip x y) (s :: Γ) = (ev C x (s :: Γ)).bind (zipK C y) := by rw [evSrc] <;> rfl
theorem zipK_ : zipK C y (w, s :: Γ) = (ev C y (s :: Γ)).bind (zipK2 w y) := rfl
def zip3K (C : Ctx) (y z : E) (p : W × Gm) : Res (List D × List Nat × Gm) := (ev C y p.2).bind fun q => (ev C z q.2).bind fun r => match p.1.d, q.1.d, r.1.d with
    | .lst xs, .lst ys, .lst zs => if hold p.1 (mutE y) then if hold p.1 (mutE z) then if hold q.1 (mutE z) then Res.ok (zipD3 xs ys zs, p.1.rs ++ (q.1.rs ++ r.1.rs), r.2) else Res.stuck else Res.stuck else Res.stuck
    | _, _, _ => Res.stuck
def zip3K2 (C : Ctx) (w : W) (y z : E) (q : W × Gm) : Res (List D × List Nat × Gm) := (ev C z q.2).bind fun r => match w.d, q.1.d, r.1.d with
    | .lst xs, .lst ys, .lst zs => if hold w (mutE y) then if hold w (mutE z) then if hold q.1 (mutE z) then Res.ok (zipD3 xs ys zs, w.rs ++ (q.1.rs ++ r.1.rs), r.2) else Res.stuck else Res.stuck else Res.stuck
    | _, _, _ => Res.stuck
def zip3K3 (w w2 : W) (y z : E) (r : W × Gm) : Res (List D × List Nat × Gm) := match w.d, w2.d, r.1.d with
    | .lst xs, .lst ys, .lst zs => if hold w (mutE y) then if hold w (mutE z) then if hold w2 (mutE z) then Res.ok (zipD3 xs ys zs, w.rs ++ (w2.rs ++ r.1.rs), r.2) else Res.stuck else Res.stuck else Res.stuck
    | _, _, _ => Res.stuck
theorem r_zip3 {z : E} : evSrc C (.zip3 x y z) (s :: Γ) = (ev C x (s :: Γ)).bind (zip3K C y z) := by rw [evSrc] <;> rfl
theorem zip3K_ {z : E} : zip3K C y z (w, s :: Γ) = (ev C y (s :: Γ)).bind (zip3K2 C w y z) := rfl
theorem zip3K2_ {z : E} {w2 : W} : zip3K2 C w y z (w2, s :: Γ) = (ev C z (s :: Γ)).bind (zip3K3 w w2 y z) := rfl
theorem zip3K3_ {z : E} {xs ys zs : List D} {l' l'' : Nat} {rs' rs'' : List Nat} (h : hold ⟨l, rs, .lst xs⟩ (mutE y) = true) (h2 : hold ⟨l, rs, .lst xs⟩ (mutE z) = true) (h3 : hold ⟨l', rs', .lst ys⟩ (mutE z) = true) : zip3K3 ⟨l, rs, .lst xs⟩ ⟨l', rs', .lst ys⟩ y z (⟨l'', rs'', .lst zs⟩, s :: Γ) = Res.ok (zipD3 xs ys zs, rs ++ (rs' ++ rs''), s :: Γ) := (if_pos h).trans ((if_pos h2).trans (if_pos h3))
theorem zipK2_ {xs ys : List D} {l' : Nat} {rs' : List Nat} (h : hold ⟨l, rs, .lst xs⟩ (mutE y) = true) : zipK2 ⟨l, rs, .lst xs⟩ y (⟨l', rs', .lst ys⟩, s :: Γ) = Res.ok (zipD xs ys, rs ++ rs', s :: Γ) := if_pos h

/-! comprehensions -/
def compB (C : Ctx) (vs : List Nat) (tg : Tg) (rs : List Nat) (cd elt : E) (d : D) (Γ2 : Gm) : Res (Option W × Gm) := match setTg tg d rs (wipeG vs Γ2) with
          | some Γ3 => (evT C cd Γ3).bind fun (k, Γ4) => match k with
            | true => (ev C elt Γ4).bind fun (w, Γ5) => Res.ok (some w, Γ5)
            | false => Res.ok (none, Γ4)
          | none => Res.stuck
def compK (C : Ctx) (vs : List Nat) (tg : Tg) (cd elt : E) (p : List D × List Nat × Gm) : Res (W × Gm) :=
  if disj p.2.1 (vs ++ (mutE cd ++ mutE elt)) then
        (compL (compB C vs tg p.2.1 cd elt) p.1 [] true p.2.2).bind fun (xs, k, Γ2) => Res.ok (⟨if k then 8 else 1, [], .lst xs⟩, backG vs p.2.2 Γ2)
      else Res.stuck
theorem e_comp {vs : List Nat} {tg : Tg} {src : Src} : ev C (.comp vs tg src x y) (s :: Γ) = (evSrc C src (s :: Γ)).bind (compK C vs tg x y) := by rw [ev] <;> rfl
def compE (vs : List Nat) (Γ1 : Gm) (p : List D × Bool × Gm) : Res (W × Gm) := Res.ok (⟨if p.2.1 then 8 else 1, [], .lst p.1⟩, backG vs Γ1 p.2.2)
theorem compK_ {vs : List Nat} {tg : Tg} {ds : List D} (h : disj rs (vs ++ (mutE x ++ mutE y)) = true) : compK C vs tg x y (ds, rs, s :: Γ) = (compL (compB C vs tg rs x y) ds [] true (s :: Γ)).bind (compE vs (s :: Γ)) := if_pos h
theorem compE_t {vs : List Nat} {Γ1 : Gm} {xs : List D} : compE vs Γ1 (xs, true, s :: Γ) = Res.ok (⟨8, [], .lst xs⟩, backG vs Γ1 (s :: Γ)) := rfl
def compC (C : Ctx) (cd elt : E) (Γ3 : Gm) : Res (Option W × Gm) := (evT C cd Γ3).bind (iteK (fun Γ => (ev C elt Γ).bind fun p => Res.ok (some p.1, p.2)) (fun Γ => Res.ok (none, Γ)))
def compS (C : Ctx) (cd elt : E) : Option Gm → Res (Option W × Gm)
  | some Γ => compC C cd elt Γ
  | none => Res.stuck
theorem compB_ {vs : List Nat} {tg : Tg} : compB C vs tg rs x y d (s :: Γ) = compS C x y (setTg tg d rs (wipeG vs (s :: Γ))) := by
  unfold compB compS
  cases setTg tg d rs (wipeG vs (s :: Γ)) with
  | none => rfl
  | some Γ3 =>
    unfold compC
    all_goals (first | rfl | (congr 1; funext p; obtain ⟨k, Γ4⟩ := p; cases k <;> rfl))
theorem compS_ : compS C x y (some (s :: Γ)) = compC C x y (s :: Γ) := rfl
theorem compC_ : compC C x y (s :: Γ) = (evT C x (s :: Γ)).bind (iteK (fun Γ => (ev C y Γ).bind fun p => Res.ok (some p.1, p.2)) (fun Γ => Res.ok (none, Γ))) := rfl
theorem wipeG_nil : wipeG [] Γ = Γ := rfl
theorem wipeG_cons {vs : List Nat} : wipeG (i :: vs) Γ = (wipeG vs Γ).set i none := rfl
theorem backG_nil {Γ0 : Gm} : backG [] Γ0 Γ = Γ := rfl
theorem backG_cons {vs : List Nat} {Γ0 : Gm} : backG (i :: vs) Γ0 Γ = (backG vs Γ0 Γ).set i (back1 (Γ0.getD i none)) := rfl
theorem back1_none : back1 none = none := rfl
theorem back1_imm (h : imm d = true) : back1 (some ⟨l, rs, d⟩) = some ⟨0, [], d⟩ := if_pos h
theorem setTg_one : setTg (.one i) d rs (s :: Γ) = some ((s :: Γ).set i (some (itm rs d))) := rfl
theorem setTg_tup {is : List Nat} {ds : List D} : setTg (.tup is) (.tup ds) rs (s :: Γ) = setTs is ds rs (s :: Γ) := rfl
theorem setTs_nil : setTs [] [] rs Γ = some Γ := rfl
theorem setTs_cons {is : List Nat} {ds : List D} : setTs (i :: is) (d :: ds) rs Γ = setTs is ds rs (Γ.set i (some (itm rs d))) := rfl
theorem itm_imm (h : imm d = true) : itm rs d = ⟨0, [], d⟩ := if_pos h
theorem itm_not (h : imm d = false) : itm rs d = ⟨0, rs, d⟩ := if_neg (by rw [h]; exact Bool.false_ne_true)

/-! statements -/
def seqK (C : Ctx) (ss : Ss) : Fl → Res Fl
    | .nx Γ1 => exSs C ss Γ1
    | .brk Γ1 => Res.ok (.brk Γ1)
    | .cont Γ1 => Res.ok (.cont Γ1)
    | .ret w Γ1 => Res.ok (.ret w Γ1)
theorem x_nil : exSs C .nil (s :: Γ) = Res.ok (.nx (s :: Γ)) := by rw [exSs]
theorem x_cons {st : S} {ss : Ss} : exSs C (.cons st ss) (s :: Γ) = (exS C st (s :: Γ)).bind (seqK C ss) := by
  rw [exSs]
  all_goals (first | rfl | (congr 1; funext fl; cases fl <;> rfl))
theorem seqK_nx {ss : Ss} : seqK C ss (.nx (s :: Γ)) = exSs C ss (s :: Γ) := rfl
theorem seqK_brk {ss : Ss} : seqK C ss (.brk (s :: Γ)) = Res.ok (.brk (s :: Γ)) := rfl
theorem seqK_cont {ss : Ss} : seqK C ss (.cont (s :: Γ)) = Res.ok (.cont (s :: Γ)) := rfl
theorem seqK_ret {ss : Ss} : seqK C ss (.ret w (s :: Γ)) = Res.ok (.ret w (s :: Γ)) := rfl
theorem x_set : exS C (.set i x) (s :: Γ) = (ev C x (s :: Γ)).bind (fun p => setG i p.1 p.2) := by rw [exS] <;> rfl
theorem setG_imm (h : imm d = true) : setG i ⟨l, rs, d⟩ (s :: Γ) = Res.ok (.nx ((s :: Γ).set i (some ⟨0, [], d⟩))) := by
  unfold setG stl
  rw [if_pos h]
  rfl
theorem setG_own (h : imm d = false) : setG i ⟨l, [], d⟩ (s :: Γ) = Res.ok (.nx ((s :: Γ).set i (some ⟨l, [], d⟩))) := by
  unfold setG stl
  rw [if_neg (by rw [h]; exact Bool.false_ne_true)]
  rfl
theorem setG_see (h : imm d = false) : setG i ⟨l, rs, d⟩ (s :: Γ) = Res.ok (.nx ((freeze rs (s :: Γ)).set i (some ⟨l, [], d⟩))) := by
  unfold setG stl
  rw [if_neg (by rw [h]; exact Bool.false_ne_true)]
def parK (C : Ctx) (i j : Nat) (y : E) (p : W × Gm) : Res Fl := (ev C y p.2).bind fun q => if imm p.1.d && imm q.1.d then Res.ok (.nx ((q.2.set i (some (val p.1.d))).set j (some (val q.1.d)))) else Res.stuck
def parK2 (i j : Nat) (w : W) (q : W × Gm) : Res Fl := if imm w.d && imm q.1.d then Res.ok (.nx ((q.2.set i (some (val w.d))).set j (some (val q.1.d)))) else Res.stuck
theorem x_par : exS C (.par i j x y) (s :: Γ) = (ev C x (s :: Γ)).bind (parK C i j y) := by rw [exS] <;> rfl
theorem parK_ : parK C i j y (w, s :: Γ) = (ev C y (s :: Γ)).bind (parK2 i j w) := rfl
theorem parK2_ {l' : Nat} {rs' : List Nat} {d' : D} (h : imm d = true) (h' : imm d' = true) : parK2 i j ⟨l, rs, d⟩ (⟨l', rs', d'⟩, s :: Γ) = Res.ok (.nx (((s :: Γ).set i (some ⟨0, [], d⟩)).set j (some ⟨0, [], d'⟩))) := by
  unfold parK2
  exact if_pos (by show (imm d && imm d') = true; rw [h, h']; rfl)
def setTK (is : List Nat) (p : W × Gm) : Res Fl := match p.1.d with
    | .tup ds => match setTW is ds p.1.l (freeze p.1.rs p.2) with
      | some Γ2 => if noDup is && is.all (fun i => decide (i < p.2.length)) then Res.ok (.nx Γ2) else Res.stuck
      | none => Res.stuck
    | .lst ds => match setTW is ds 0 (freeze p.1.rs p.2) with
      | some Γ2 => if noDup is && is.all (fun i => decide (i < p.2.length)) && decide (p.1.l = 0) then Res.ok (.nx Γ2) else Res.stuck
      | none => Res.stuck
    | _ => Res.stuck
theorem x_setT {is : List Nat} : exS C (.setT is x) (s :: Γ) = (ev C x (s :: Γ)).bind (setTK is) := by rw [exS] <;> rfl
def setTK2 (is : List Nat) (Γ0 : Gm) : Option Gm → Res Fl
  | some Γ2 => if noDup is && is.all (fun i => decide (i < Γ0.length)) then Res.ok (.nx Γ2) else Res.stuck
  | none => Res.stuck
theorem setTK_ {is : List Nat} {ds : List D} : setTK is (⟨l, rs, .tup ds⟩, s :: Γ) = setTK2 is (s :: Γ) (setTW is ds l (freeze rs (s :: Γ))) := by
  unfold setTK setTK2
  show (match setTW is ds l (freeze rs (s :: Γ)) with
      | some Γ2 => if noDup is && is.all (fun i => decide (i < (s :: Γ).length)) then Res.ok (Fl.nx Γ2) else Res.stuck
      | none => Res.stuck) = _
  cases setTW is ds l (freeze rs (s :: Γ)) <;> rfl
theorem setTK_l {is : List Nat} {ds : List D} : setTK is (⟨0, rs, .lst ds⟩, s :: Γ) = setTK2 is (s :: Γ) (setTW is ds 0 (freeze rs (s :: Γ))) := by
  unfold setTK setTK2
  show (match setTW is ds 0 (freeze rs (s :: Γ)) with
      | some Γ2 => if noDup is && is.all (fun i => decide (i < (s :: Γ).length)) && true then Res.ok (Fl.nx Γ2) else Res.stuck
      | none => Res.stuck) = _
  cases setTW is ds 0 (freeze rs (s :: Γ)) with
  | none => rfl
  | some Γ2 =>
    show (if (noDup is && is.all (fun i => decide (i < (s :: Γ).length)) && true) = true then Res.ok (Fl.nx Γ2) else Res.stuck) = _
    rw [Bool.and_true]
theorem setTg_lst {is : List Nat} {ds : List D} : setTg (.tup is) (.lst ds) rs (s :: Γ) = setTs is ds rs (s :: Γ) := rfl
theorem setTK2_ {is : List Nat} {Γ0 : Gm} (h : (noDup is && is.all (fun i => decide (i < Γ0.length))) = true) : setTK2 is Γ0 (some (s :: Γ)) = Res.ok (.nx (s :: Γ)) := if_pos h
theorem freeze_cons {is : List Nat} : freeze (i :: is) Γ = freeze is (freeze1 i Γ) := rfl
def frzK (i : Nat) (Γ : Gm) : Option Slot → Gm
  | some (some w) => Γ.set i (some ⟨0, w.rs, w.d⟩)
  | _ => Γ
theorem freeze1_ : freeze1 i (s :: Γ) = frzK i (s :: Γ) ((s :: Γ)[i]?) := by
  unfold freeze1 frzK
  cases (s :: Γ)[i]? with
  | none => rfl
  | some x => cases x <;> rfl
theorem frzK_ : frzK i Γ (some (some ⟨l, rs, d⟩)) = Γ.set i (some ⟨0, rs, d⟩) := rfl
theorem frzK_n : frzK i Γ (some none) = Γ := rfl
theorem freeze_nil : freeze [] Γ = Γ := rfl
theorem setTW_nil : setTW [] [] l Γ = some Γ := rfl
theorem setTW_imm {is : List Nat} {ds : List D} (h : imm d = true) : setTW (i :: is) (d :: ds) l Γ = setTW is ds l (Γ.set i (some ⟨0, [], d⟩)) := by
  show setTW is ds l (Γ.set i (some (if imm d then val d else ⟨l, [], d⟩))) = _
  rw [if_pos h]; rfl
theorem setTW_own {is : List Nat} {ds : List D} (h : imm d = false) : setTW (i :: is) (d :: ds) l Γ = setTW is ds l (Γ.set i (some ⟨l, [], d⟩)) := by
  show setTW is ds l (Γ.set i (some (if imm d then val d else ⟨l, [], d⟩))) = _
  rw [if_neg (by rw [h]; exact Bool.false_ne_true)]
theorem x_expr : exS C (.expr x) (s :: Γ) = (ev C x (s :: Γ)).bind (fun p => Res.ok (.nx p.2)) := by rw [exS] <;> rfl
theorem x_ret : exS C (.ret x) (s :: Γ) = (ev C x (s :: Γ)).bind (fun p => Res.ok (.ret p.1 p.2)) := by rw [exS] <;> rfl
theorem x_retN : exS C .retN (s :: Γ) = Res.ok (.ret ⟨0, [], .non⟩ (s :: Γ)) := by rw [exS] <;> rfl
theorem x_brk : exS C .brk (s :: Γ) = Res.ok (.brk (s :: Γ)) := by rw [exS]
theorem x_cont : exS C .cont (s :: Γ) = Res.ok (.cont (s :: Γ)) := by rw [exS]
theorem x_pass : exS C .pass (s :: Γ) = Res.ok (.nx (s :: Γ)) := by rw [exS]
theorem x_iff {p q : Ss} : exS C (.iff x p q) (s :: Γ) = (evT C x (s :: Γ)).bind (iteK (exSs C p) (exSs C q)) := by
  rw [exS]
  all_goals (first | rfl | (congr 1; funext r; obtain ⟨k, Γ1⟩ := r; cases k <;> rfl))
def forB (C : Ctx) (tg : Tg) (rs : List Nat) (body : Ss) (d : D) (Γ2 : Gm) : Res Fl := match setTg tg d rs Γ2 with
          | some Γ3 => exSs C body Γ3
          | none => Res.stuck
def forK (C : Ctx) (tg : Tg) (body : Ss) (p : List D × List Nat × Gm) : Res Fl :=
      if disj p.2.1 (tg.is ++ mutSs body) then forL (forB C tg p.2.1 body) p.1 p.2.2 else Res.stuck
theorem x_for {tg : Tg} {src : Src} {body : Ss} : exS C (.for_ tg src body) (s :: Γ) = (evSrc C src (s :: Γ)).bind (forK C tg body) := by rw [exS] <;> rfl
theorem forK_ {tg : Tg} {body : Ss} {ds : List D} (h : disj rs (tg.is ++ mutSs body) = true) : forK C tg body (ds, rs, s :: Γ) = forL (forB C tg rs body) ds (s :: Γ) := if_pos h
def forS (C : Ctx) (body : Ss) : Option Gm → Res Fl
  | some Γ => exSs C body Γ
  | none => Res.stuck
theorem forB_ {tg : Tg} {body : Ss} : forB C tg rs body d (s :: Γ) = forS C body (setTg tg d rs (s :: Γ)) := by
  unfold forB forS
  cases setTg tg d rs (s :: Γ) <;> rfl
theorem forS_ {body : Ss} : forS C body (some (s :: Γ)) = exSs C body (s :: Γ) := rfl
theorem x_while {body : Ss} : exS C (.while_ x body) (s :: Γ) = whileL (evT C x) (exSs C body) wfuel (s :: Γ) := by rw [exS]
def augK (i : Nat) (o : Op) (p : W × Gm) : Res Fl := match rd p.2 i with
    | some x => match x.d, p.1.d with
      | .int a, .int b => (opv o [val (.int a), val (.int b)]).bind fun z => match z.d with
        | .int c => Res.ok (.nx (p.2.set i (some (val (.int c)))))
        | _ => Res.stuck
      | _, _ => Res.stuck
    | none => Res.stuck
theorem gI_ {r : Res Fl} : gI (some (some w)) r = r := rfl
theorem x_aug {o : Op} : exS C (.aug i o x) (s :: Γ) = gI ((s :: Γ)[i]?) ((ev C x (s :: Γ)).bind (augK i o)) := by rw [exS] <;> rfl
def augK2 (i : Nat) (o : Op) (w : W) (Γ : Gm) : Option Slot → Res Fl
  | some (some x) => match x.d, w.d with
      | .int a, .int b => (opv o [val (.int a), val (.int b)]).bind fun z => match z.d with
        | .int c => Res.ok (.nx (Γ.set i (some (val (.int c)))))
        | _ => Res.stuck
      | _, _ => Res.stuck
  | _ => Res.stuck
theorem augK_ {o : Op} : augK i o (w, s :: Γ) = augK2 i o w (s :: Γ) ((s :: Γ)[i]?) := by
  unfold augK augK2 rd
  show (match (match (s :: Γ)[i]? with
  | some (some w) => some w
  | _ => none) with
    | some x => _
    | none => _) = _
  cases (s :: Γ)[i]? with
  | none => rfl
  | some x => cases x <;> rfl
def augK3 (i : Nat) (Γ : Gm) (z : W) : Res Fl := match z.d with
        | .int c => Res.ok (.nx (Γ.set i (some (val (.int c)))))
        | _ => Res.stuck
theorem augK2_ {o : Op} {n m : Int} {l' : Nat} {rs' : List Nat} : augK2 i o ⟨l, rs, .int m⟩ (s :: Γ) (some (some ⟨l', rs', .int n⟩)) = (opv o [⟨0, [], .int n⟩, ⟨0, [], .int m⟩]).bind (augK3 i (s :: Γ)) := rfl
theorem augK3_ {n : Int} : augK3 i (s :: Γ) ⟨l, rs, .int n⟩ = Res.ok (.nx ((s :: Γ).set i (some ⟨0, [], .int n⟩))) := rfl
def appK (i : Nat) (p : W × Gm) : Res Fl := match rd p.2 i with
    | some x => match x.d with
      | .lst xs => if decide (1 ≤ x.l) && x.rs.isEmpty && !p.1.rs.contains i && decide (xs.length < lim) then inG i x.l (xs ++ [p.1.d]) p.1 p.2 else Res.stuck
      | _ => Res.stuck
    | none => Res.stuck
def appP (C : Ctx) (i : Nat) (e : E) (Γ : Gm) : Option Slot → Res Fl
  | some (some ⟨_, _, .lst _⟩) => (ev C e Γ).bind (appK i)
  | _ => Res.stuck
theorem x_app : exS C (.append i x) (s :: Γ) = appP C i x (s :: Γ) ((s :: Γ)[i]?) := by
  rw [exS]
  unfold rd
  cases (s :: Γ)[i]? with
  | none => rfl
  | some t =>
    cases t with
    | none => rfl
    | some w => obtain ⟨l, rs, d⟩ := w; cases d <;> rfl
theorem appP_ {xs : List D} : appP C i x Γ (some (some ⟨l, rs, .lst xs⟩)) = (ev C x Γ).bind (appK i) := rfl
def appK2 (i : Nat) (w : W) (Γ : Gm) : Option Slot → Res Fl
  | some (some x) => match x.d with
      | .lst xs => if decide (1 ≤ x.l) && x.rs.isEmpty && !w.rs.contains i && decide (xs.length < lim) then inG i x.l (xs ++ [w.d]) w Γ else Res.stuck
      | _ => Res.stuck
  | _ => Res.stuck
theorem appK_ : appK i (w, s :: Γ) = appK2 i w (s :: Γ) ((s :: Γ)[i]?) := by
  unfold appK appK2 rd
  show (match (match (s :: Γ)[i]? with
  | some (some w) => some w
  | _ => none) with
    | some x => _
    | none => _) = _
  cases (s :: Γ)[i]? with
  | none => rfl
  | some x => cases x <;> rfl
theorem appK2_ {xs : List D} (h1 : (decide (1 ≤ l) && !rs.contains i) = true) (h2 : xs.length < lim) {l' : Nat} : appK2 i ⟨l', rs, d⟩ (s :: Γ) (some (some ⟨l, [], .lst xs⟩)) = inG i l (xs ++ [d]) ⟨l', rs, d⟩ (s :: Γ) := by
  unfold appK2
  rw [Bool.and_eq_true] at h1
  exact if_pos (by show (decide (1 ≤ l) && true && !rs.contains i && decide (xs.length < lim)) = true; rw [h1.1, h1.2, decide_eq_true h2]; rfl)
theorem inG_deep {xs : List D} (h1 : deep ⟨l, rs, d⟩ = true) : inG i 8 xs ⟨l, rs, d⟩ (s :: Γ) = Res.ok (.nx (kill [i] ((s :: Γ).set i (some ⟨8, [], .lst xs⟩)))) := by
  unfold inG
  exact if_pos (by rw [h1]; rfl)
def sixK2 (i : Nat) (k : E) (w : W) (q : W × Gm) : Res Fl := match rd q.2 i with
    | some x => sixV i k w q.2 x q.1.d
    | none => Res.stuck
def sixK (C : Ctx) (i : Nat) (k : E) (p : W × Gm) : Res Fl := (ev C k p.2).bind (sixK2 i k p.1)
theorem x_six : exS C (.setIx i y x) (s :: Γ) = gI ((s :: Γ)[i]?) ((ev C x (s :: Γ)).bind (sixK C i y)) := by rw [exS] <;> rfl
theorem sixK_ : sixK C i y (w, s :: Γ) = (ev C y (s :: Γ)).bind (sixK2 i y w) := rfl
def sixK3 (i : Nat) (k : E) (w : W) (d : D) (Γ : Gm) : Option Slot → Res Fl
  | some (some x) => sixV i k w Γ x d
  | _ => Res.stuck
theorem sixK2_ : sixK2 i y w (⟨l, rs, d⟩, s :: Γ) = sixK3 i y w d (s :: Γ) ((s :: Γ)[i]?) := by
  unfold sixK2 sixK3 rd
  show (match (match (s :: Γ)[i]? with
  | some (some w) => some w
  | _ => none) with
    | some x => _
    | none => _) = _
  cases (s :: Γ)[i]? with
  | none => rfl
  | some x => cases x <;> rfl
theorem sixK3_ {xs : List D} {n : Int} (h0 : 0 ≤ n) (hn : n < (xs.length : Int)) (h1 : (decide (1 ≤ l) && hold ⟨j, rs, d⟩ (mutE y) && !rs.contains i) = true) : sixK3 i y ⟨j, rs, d⟩ (.int n) (s :: Γ) (some (some ⟨l, [], .lst xs⟩)) = inG i l (xs.set n.toNat d) ⟨j, rs, d⟩ (s :: Γ) := by
  have hm : ixN xs.length n = some n.toNat := by unfold ixN; rw [if_pos h0, if_pos hn]
  unfold sixK3 sixV
  show (match ixN xs.length n with
        | some m => if decide (1 ≤ l) && true && hold ⟨j, rs, d⟩ (mutE y) && !rs.contains i then inG i l (xs.set m d) ⟨j, rs, d⟩ (s :: Γ) else Res.stuck
        | none => Res.stuck) = _
  rw [hm]
  rw [Bool.and_eq_true, Bool.and_eq_true] at h1
  exact if_pos (by rw [h1.1.1, h1.1.2, h1.2]; rfl)
theorem sixV_d {ks : List (List Key)} {xs : List D} {dk : D} {ky : Key} (hk : keyD dk = some ky) (h1 : (hold ⟨j, rs, d⟩ (mutE y) && deep ⟨j, rs, d⟩) = true) (h2 : dwf ks xs = true) (h3 : xs.length < lim) :
    sixK3 i y ⟨j, rs, d⟩ dk (s :: Γ) (some (some ⟨8, [], .dct false ks xs⟩)) = Res.ok (.nx (kill [i] ((s :: Γ).set i (some ⟨8, [], .dct false (dput ks xs ky d).1 (dput ks xs ky d).2⟩)))) := by
  unfold sixK3 sixV
  simp only [hk]
  rw [Bool.and_eq_true] at h1
  exact if_pos (by rw [h1.1, h1.2, h2, decide_eq_true h3]; rfl)
theorem sixK3_di {ks : List (List Key)} {xs : List D} {n : Int} (h1 : (hold ⟨j, rs, d⟩ (mutE y) && deep ⟨j, rs, d⟩) = true) (h2 : dwf ks xs = true) (h3 : xs.length < lim) :
    sixK3 i y ⟨j, rs, d⟩ (.int n) (s :: Γ) (some (some ⟨8, [], .dct false ks xs⟩)) = Res.ok (.nx (kill [i] ((s :: Γ).set i (some ⟨8, [], .dct false (dput ks xs (.inl n) d).1 (dput ks xs (.inl n) d).2⟩)))) := sixV_d rfl h1 h2 h3
theorem sixK3_ds {ks : List (List Key)} {xs : List D} {n : Str} (h1 : (hold ⟨j, rs, d⟩ (mutE y) && deep ⟨j, rs, d⟩) = true) (h2 : dwf ks xs = true) (h3 : xs.length < lim) :
    sixK3 i y ⟨j, rs, d⟩ (.str n) (s :: Γ) (some (some ⟨8, [], .dct false ks xs⟩)) = Res.ok (.nx (kill [i] ((s :: Γ).set i (some ⟨8, [], .dct false (dput ks xs (.inr n) d).1 (dput ks xs (.inr n) d).2⟩)))) := sixV_d rfl h1 h2 h3
def aixE (i l : Nat) (xs : List D) (p : Nat) (Γ : Gm) (z : W) : Res Fl := match z.d with
  | .int c => inG i l (xs.set p (.int c)) (val (.int c)) Γ
  | _ => Res.stuck
def aixS (i : Nat) (o : Op) (j a b : Int) (Γ : Gm) : Option Slot → Res Fl
  | some (some x) => match x.d with
    | .lst xs => match ixN xs.length j with
      | some p => if decide (1 ≤ x.l) && x.rs.isEmpty then (opv o [val (.int a), val (.int b)]).bind (aixE i x.l xs p Γ) else Res.stuck
      | none => Res.stuck
    | _ => Res.stuck
  | _ => Res.stuck
def aixK2 (i : Nat) (o : Op) (j a : Int) (p : W × Gm) : Res Fl := match p.1.d with
  | .int b => aixS i o j a b p.2 (p.2[i]?)
  | _ => Res.stuck
def aixG (C : Ctx) (i : Nat) (o : Op) (x : E) (Γ : Gm) : Option (Int × Int) → Res Fl
  | none => Res.stuck
  | some (j, a) => (ev C x Γ).bind (aixK2 i o j a)
def aixK (C : Ctx) (i : Nat) (o : Op) (x : E) (p : W × Gm) : Res Fl := aixG C i o x p.2 (getI (rd p.2 i) p.1.d)
theorem x_aix {o : Op} : exS C (.augIx i y o x) (s :: Γ) = gI ((s :: Γ)[i]?) ((ev C y (s :: Γ)).bind (aixK C i o x)) := by
  rw [exS]
  congr 1
  congr 1
  funext p
  obtain ⟨wk, Γ1⟩ := p
  unfold aixK
  show (match getI (rd Γ1 i) wk.d with
    | none => Res.stuck
    | some (j, a) => _) = aixG C i o x Γ1 (getI (rd Γ1 i) wk.d)
  cases getI (rd Γ1 i) wk.d with
  | none => rfl
  | some q =>
    obtain ⟨j, a⟩ := q
    show (ev C x Γ1).bind _ = (ev C x Γ1).bind (aixK2 i o j a)
    congr 1
    funext p
    obtain ⟨w, Γ2⟩ := p
    unfold aixK2 aixS rd
    obtain ⟨l, rs, d⟩ := w
    cases hg : Γ2[i]? with
    | none => simp only [hg]; cases d <;> rfl
    | some x => cases x <;> simp only [hg] <;> cases d <;> rfl
theorem aixK_ {n : Int} : aixK C i o x (⟨l, rs, .int n⟩, s :: Γ) = aixG C i o x (s :: Γ) (getI (rd (s :: Γ) i) (.int n)) := rfl
def rdK : Option Slot → Option W
  | some (some w) => some w
  | _ => none
theorem rd_ : rd (s :: Γ) i = rdK ((s :: Γ)[i]?) := rfl
theorem rdK_ : rdK (some (some w)) = some w := rfl
def getIK (n : Int) : Option D → Option (Int × Int)
  | some (.int a) => some (n, a)
  | _ => none
theorem getI_ {xs : List D} {n : Int} : getI (some ⟨l, rs, .lst xs⟩) (.int n) = getIK n (atI xs n) := rfl
theorem getIK_ {n m : Int} : getIK n (some (.int m)) = some (n, m) := rfl
theorem aixG_ {o : Op} {n m : Int} : aixG C i o x (s :: Γ) (some (n, m)) = (ev C x (s :: Γ)).bind (aixK2 i o n m) := rfl
theorem aixK2_ {o : Op} {n m u : Int} : aixK2 i o n m (⟨l, rs, .int u⟩, s :: Γ) = aixS i o n m u (s :: Γ) ((s :: Γ)[i]?) := rfl
theorem aixS_ {o : Op} {n m u : Int} {xs : List D} (h0 : 0 ≤ n) (hn : n < (xs.length : Int)) (h1 : 1 ≤ l) : aixS i o n m u (s :: Γ) (some (some ⟨l, [], .lst xs⟩)) = (opv o [⟨0, [], .int m⟩, ⟨0, [], .int u⟩]).bind (aixE i l xs n.toNat (s :: Γ)) := by
  have hm : ixN xs.length n = some n.toNat := by unfold ixN; rw [if_pos h0, if_pos hn]
  unfold aixS
  show (match ixN xs.length n with
      | some p => if decide (1 ≤ l) && true then (opv o [val (.int m), val (.int u)]).bind (aixE i l xs p (s :: Γ)) else Res.stuck
      | none => Res.stuck) = _
  rw [hm]
  exact if_pos (by rw [decide_eq_true h1]; rfl)
theorem aixE_ {xs : List D} {p l' : Nat} {u : Int} : aixE i l xs p (s :: Γ) ⟨l', rs, .int u⟩ = inG i l (xs.set p (.int u)) ⟨0, [], .int u⟩ (s :: Γ) := rfl
def sx2E (i : Nat) (y2 : E) (d : D) (j2 : Int) (Γ : Gm) : Option (List D × Nat × List D) → Res Fl
  | some (xs, p, ys) => match ixN ys.length j2 with
    | some p2 => if imm d && disj [i] (mutE y2) then Res.ok (.nx (kill [i] (Γ.set i (some ⟨8, [], .lst (xs.set p (.lst (ys.set p2 d)))⟩)))) else Res.stuck
    | none => Res.stuck
  | none => Res.stuck
def sx2K2 (i : Nat) (y2 : E) (w : W) (dk : D) (q : W × Gm) : Res Fl := match q.1.d with
  | .int j2 => sx2E i y2 w.d j2 q.2 (inn2 (rd q.2 i) dk)
  | _ => Res.stuck
def sx2G (C : Ctx) (i : Nat) (y2 : E) (w : W) (dk : D) (Γ : Gm) : Option (List D × Nat × List D) → Res Fl
  | none => Res.stuck
  | some _ => (ev C y2 Γ).bind (sx2K2 i y2 w dk)
def sx2K1 (C : Ctx) (i : Nat) (y2 : E) (w : W) (q : W × Gm) : Res Fl := sx2G C i y2 w q.1.d q.2 (inn2 (rd q.2 i) q.1.d)
def sx2K (C : Ctx) (i : Nat) (y y2 : E) (p : W × Gm) : Res Fl := (ev C y p.2).bind (sx2K1 C i y2 p.1)
theorem x_sx2 {y2 : E} : exS C (.setIx2 i y y2 x) (s :: Γ) = gI ((s :: Γ)[i]?) ((ev C x (s :: Γ)).bind (sx2K C i y y2)) := by
  rw [exS]
  congr 1
  congr 1
  funext p
  obtain ⟨w, Γ1⟩ := p
  show (ev C y Γ1).bind _ = (ev C y Γ1).bind (sx2K1 C i y2 w)
  congr 1
  funext p
  obtain ⟨wk, Γ2⟩ := p
  unfold sx2K1
  show (match inn2 (rd Γ2 i) wk.d with
    | none => Res.stuck
    | some _ => _) = sx2G C i y2 w wk.d Γ2 (inn2 (rd Γ2 i) wk.d)
  cases inn2 (rd Γ2 i) wk.d with
  | none => rfl
  | some q =>
    show (ev C y2 Γ2).bind _ = (ev C y2 Γ2).bind (sx2K2 i y2 w wk.d)
    congr 1
    funext p
    obtain ⟨wk2, Γ3⟩ := p
    obtain ⟨l2, rs2, d2⟩ := wk2
    unfold sx2K2 sx2E
    show (match inn2 (rd Γ3 i) wk.d, d2 with
      | some (xs, p, ys), .int j2 => _
      | _, _ => _) = _
    cases hq : inn2 (rd Γ3 i) wk.d with
    | none => cases d2 <;> rfl
    | some q => cases d2 <;> rfl
theorem sx2K_ {y2 : E} : sx2K C i y y2 (w, s :: Γ) = (ev C y (s :: Γ)).bind (sx2K1 C i y2 w) := rfl
theorem sx2K1_ {y2 : E} {n : Int} : sx2K1 C i y2 w (⟨l, rs, .int n⟩, s :: Γ) = sx2G C i y2 w (.int n) (s :: Γ) (inn2 (rd (s :: Γ) i) (.int n)) := rfl
def inn2K (xs : List D) (p : Nat) : Option D → Option (List D × Nat × List D)
  | some (.lst ys) => if immAll ys then some (xs, p, ys) else none
  | _ => none
theorem inn2_ {xs : List D} {n : Int} (h0 : 0 ≤ n) (hn : n < (xs.length : Int)) : inn2 (some ⟨8, [], .lst xs⟩) (.int n) = inn2K xs n.toNat (atI xs n) := by
  have hm : ixN xs.length n = some n.toNat := by unfold ixN; rw [if_pos h0, if_pos hn]
  have ha : atI xs n = xs[n.toNat]? := by unfold atI; rw [hm]; rfl
  rw [ha]
  show (match ixN xs.length n with
      | some p => match xs[p]? with
        | some (.lst ys) => if true && immAll ys then some (xs, p, ys) else none
        | _ => none
      | none => none) = _
  rw [hm]
  show (match xs[n.toNat]? with
        | some (.lst ys) => if true && immAll ys then some (xs, n.toNat, ys) else none
        | _ => none) = _
  cases xs[n.toNat]? with
  | none => rfl
  | some d => cases d <;> rfl
theorem inn2K_ {xs ys : List D} {p : Nat} (h : immAll ys = true) : inn2K xs p (some (.lst ys)) = some (xs, p, ys) := if_pos h
theorem sx2G_ {y2 : E} {dk : D} {q : List D × Nat × List D} : sx2G C i y2 w dk (s :: Γ) (some q) = (ev C y2 (s :: Γ)).bind (sx2K2 i y2 w dk) := rfl
theorem sx2K2_ {y2 : E} {dk : D} {m : Int} {l' : Nat} {rs' : List Nat} : sx2K2 i y2 ⟨l', rs', d⟩ dk (⟨l, rs, .int m⟩, s :: Γ) = sx2E i y2 d m (s :: Γ) (inn2 (rd (s :: Γ) i) dk) := rfl
theorem sx2E_ {y2 : E} {xs ys : List D} {p : Nat} {m : Int} (h0 : 0 ≤ m) (hn : m < (ys.length : Int)) (h1 : imm d = true) (h2 : disj [i] (mutE y2) = true) :
    sx2E i y2 d m (s :: Γ) (some (xs, p, ys)) = Res.ok (.nx (kill [i] ((s :: Γ).set i (some ⟨8, [], .lst (xs.set p (.lst (ys.set m.toNat d)))⟩)))) := by
  have hm : ixN ys.length m = some m.toNat := by unfold ixN; rw [if_pos h0, if_pos hn]
  unfold sx2E
  show (match ixN ys.length m with
    | some p2 => if imm d && disj [i] (mutE y2) then Res.ok (Fl.nx (kill [i] ((s :: Γ).set i (some ⟨8, [], .lst (xs.set p (.lst (ys.set p2 d)))⟩)))) else Res.stuck
    | none => Res.stuck) = _
  rw [hm]
  exact if_pos (by rw [h1, h2]; rfl)
def aalK (i v : Nat) (c : Int) (Γ : Gm) : Option Slot → Res Fl
  | some (some x) => match x.d with
      | .lst xs => if decide (x.l = 8) && x.rs.isEmpty && xs.all rowOk && decide (i ≠ v) && decide (v < Γ.length) then Res.ok (.nx ((kill [i] (Γ.set i (some ⟨8, [], .lst (xs.map (rowAdd c))⟩))).set v none)) else Res.stuck
      | _ => Res.stuck
  | _ => Res.stuck
theorem x_aal {v : Nat} {c : Int} : exS C (.appAll i v c) (s :: Γ) = aalK i v c (s :: Γ) ((s :: Γ)[i]?) := by
  rw [exS]
  unfold rd aalK
  cases (s :: Γ)[i]? with
  | none => rfl
  | some x => cases x <;> rfl
theorem aalK_ {v : Nat} {c : Int} {xs : List D} (h : xs.all rowOk = true) (hv : (decide (i ≠ v) && decide (v < (s :: Γ).length)) = true) : aalK i v c (s :: Γ) (some (some ⟨8, [], .lst xs⟩)) = Res.ok (.nx ((kill [i] ((s :: Γ).set i (some ⟨8, [], .lst (xs.map (rowAdd c))⟩))).set v none)) := by
  unfold aalK
  rw [Bool.and_eq_true] at hv
  exact if_pos (by show (true && true && xs.all rowOk && decide (i ≠ v) && decide (v < (s :: Γ).length)) = true; rw [h, hv.1, hv.2]; rfl)
def raiseK (y f : Str) (p : W × Gm) : Res Fl := match pOf p.1.d with
    | some q => Res.exc 0 [.exn y f q] p.2
    | none => Res.stuck
theorem x_raiseE {y f : Str} : exS C (.raiseE y f x) (s :: Γ) = (ev C x (s :: Γ)).bind (raiseK y f) := by
  rw [exS]
  congr 1
theorem raiseK_int {y f : Str} {i : Int} : raiseK y f (⟨l, rs, .int i⟩, s :: Γ) = Res.exc 0 [.exn y f (.inl i)] (s :: Γ) := rfl
theorem raiseK_str {y f z : Str} : raiseK y f (⟨l, rs, .str z⟩, s :: Γ) = Res.exc 0 [.exn y f (.inr z)] (s :: Γ) := rfl
def tryK (i j : Nat) : Res Fl → Res Fl
    | .ok fl => .ok fl
    | .exc _ [.exn x f p] Γ1 => if i < Γ1.length ∧ j < Γ1.length ∧ i ≠ j then .ok (.nx ((Γ1.set j (some (val (.exn x f p)))).set i none)) else .stuck
    | .exc _ _ _ => .stuck
    | .stuck => .stuck
theorem x_tryE {b : Ss} {i j : Nat} : exS C (.tryE b i j) (s :: Γ) = tryK i j (exSs C b (s :: Γ)) := by
  rw [exS]
  unfold tryK
  rfl
theorem tryK_ok {i j : Nat} {fl : Fl} : tryK i j (Res.ok fl) = Res.ok fl := rfl
theorem tryK_exc {i j c : Nat} {y f : Str} {p : Sum Int Str} (h : (decide (i < (s :: Γ).length) && decide (j < (s :: Γ).length) && decide (i ≠ j)) = true) : tryK i j (Res.exc c [.exn y f p] (s :: Γ)) = Res.ok (.nx (((s :: Γ).set j (some ⟨0, [], .exn y f p⟩)).set i none)) := by
  simp only [Bool.and_eq_true, decide_eq_true_eq] at h
  exact if_pos ⟨h.1.1, h.1.2, h.2⟩
theorem x_raise {c : Nat} : exS C (.raise c es) (s :: Γ) = Res.stuck := by rw [exS]

/-! operations -/
variable {l' : Nat} {rs' : List Nat} {m n : Int} {xs ys : List D}
theorem o_add : opv .add [⟨l, rs, .int m⟩, ⟨l', rs', .int n⟩] = Res.ok ⟨0, [], .int (m + n)⟩ := rfl
theorem o_addL (h1 : immAll xs = true) (h2 : immAll ys = true) (h3 : xs.length + ys.length ≤ lim) : opv .add [⟨l, rs, .lst xs⟩, ⟨l', rs', .lst ys⟩] = Res.ok ⟨8, [], .lst (xs ++ ys)⟩ := by
  show (if ((immAll xs && immAll ys) || (dp8 ⟨l, rs, .lst xs⟩ && dp8 ⟨l', rs', .lst ys⟩)) && decide (xs.length + ys.length ≤ lim) then _ else _) = _
  rw [h1, h2, decide_eq_true h3]; rfl
theorem o_addD (h3 : xs.length + ys.length ≤ lim) : opv .add [⟨8, [], .lst xs⟩, ⟨8, [], .lst ys⟩] = Res.ok ⟨8, [], .lst (xs ++ ys)⟩ := by
  show (if ((immAll xs && immAll ys) || (dp8 ⟨8, [], .lst xs⟩ && dp8 ⟨8, [], .lst ys⟩)) && decide (xs.length + ys.length ≤ lim) then _ else _) = _
  rw [show dp8 ⟨8, [], .lst xs⟩ = true from rfl, show dp8 ⟨8, [], .lst ys⟩ = true from rfl, decide_eq_true h3, Bool.and_self, Bool.or_true]; rfl
theorem o_sub : opv .sub [⟨l, rs, .int m⟩, ⟨l', rs', .int n⟩] = Res.ok ⟨0, [], .int (m - n)⟩ := rfl
theorem o_mul (h1 : Sm m) (h2 : Sm n) : opv .mul [⟨l, rs, .int m⟩, ⟨l', rs', .int n⟩] = Res.ok ⟨0, [], .int (m * n)⟩ := if_pos ⟨h1, h2⟩
theorem o_rep (h1 : immAll xs = true) (h2 : xs.length * n.toNat ≤ lim) (h3 : -1000000 ≤ n) (h4 : n ≤ 1000000) : opv .mul [⟨l, rs, .lst xs⟩, ⟨l', rs', .int n⟩] = Res.ok ⟨8, [], .lst (List.replicate n.toNat xs).flatten⟩ := if_pos ⟨h1, h2, by omega⟩
theorem o_fdiv (h1 : 0 < n) (h2 : Sm n) : opv .fdiv [⟨l, rs, .int m⟩, ⟨l', rs', .int n⟩] = Res.ok ⟨0, [], .int (m / n)⟩ := if_pos ⟨h1, h2⟩
theorem o_mod (h1 : 0 < n) : opv .mod [⟨l, rs, .int m⟩, ⟨l', rs', .int n⟩] = Res.ok ⟨0, [], .int (m % n)⟩ := if_pos h1
theorem o_pow (h1 : 0 ≤ n) (h2 : n ≤ 1000) (h3 : m.natAbs < 2 ^ 64) : opv .pow [⟨l, rs, .int m⟩, ⟨l', rs', .int n⟩] = Res.ok ⟨0, [], .int (m ^ n.toNat)⟩ := if_pos ⟨h1, h2, h3⟩
theorem o_neg : opv .neg [⟨l, rs, .int m⟩] = Res.ok ⟨0, [], .int (-m)⟩ := rfl
theorem o_lt : opv .lt [⟨l, rs, .int m⟩, ⟨l', rs', .int n⟩] = Res.ok ⟨0, [], .bl (decide (m < n))⟩ := rfl
theorem o_le : opv .le [⟨l, rs, .int m⟩, ⟨l', rs', .int n⟩] = Res.ok ⟨0, [], .bl (decide (m ≤ n))⟩ := rfl
theorem o_gt : opv .gt [⟨l, rs, .int m⟩, ⟨l', rs', .int n⟩] = Res.ok ⟨0, [], .bl (decide (n < m))⟩ := rfl
theorem o_ge : opv .ge [⟨l, rs, .int m⟩, ⟨l', rs', .int n⟩] = Res.ok ⟨0, [], .bl (decide (n ≤ m))⟩ := rfl
theorem beq_dec {m n : Int} : (m == n) = decide (m = n) := by
  by_cases h : m = n
  · subst h; simp
  · rw [decide_eq_false h]; exact beq_eq_false_iff_ne.mpr h
theorem o_eq : opv .eq [⟨l, rs, .int m⟩, ⟨l', rs', .int n⟩] = Res.ok ⟨0, [], .bl (decide (m = n))⟩ := by rw [← beq_dec]; rfl
theorem o_ne : opv .ne [⟨l, rs, .int m⟩, ⟨l', rs', .int n⟩] = Res.ok ⟨0, [], .bl (!decide (m = n))⟩ := by rw [← beq_dec]; rfl
theorem o_eqD {d e : D} (h1 : okEq d = true) (h2 : okEq e = true) : opv .eq [⟨l, rs, d⟩, ⟨l', rs', e⟩] = Res.ok ⟨0, [], .bl (deq d e)⟩ := by
  show (match eqD d e with
    | some k => Res.ok (val (.bl k))
    | none => Res.stuck) = _
  unfold eqD
  rw [h1, h2]
  rfl
theorem o_neD {d e : D} (h1 : okEq d = true) (h2 : okEq e = true) : opv .ne [⟨l, rs, d⟩, ⟨l', rs', e⟩] = Res.ok ⟨0, [], .bl (!deq d e)⟩ := by
  show (match eqD d e with
    | some k => Res.ok (val (.bl (!k)))
    | none => Res.stuck) = _
  unfold eqD
  rw [h1, h2]
  rfl
theorem o_isN_non : opv .isN [⟨l, rs, .non⟩] = Res.ok ⟨0, [], .bl true⟩ := rfl
theorem o_isN_int : opv .isN [⟨l, rs, .int m⟩] = Res.ok ⟨0, [], .bl false⟩ := rfl
theorem o_isN_bl {k : Bool} : opv .isN [⟨l, rs, .bl k⟩] = Res.ok ⟨0, [], .bl false⟩ := rfl
theorem o_isN_str {x : Str} : opv .isN [⟨l, rs, .str x⟩] = Res.ok ⟨0, [], .bl false⟩ := rfl
theorem o_isN_lst : opv .isN [⟨l, rs, .lst xs⟩] = Res.ok ⟨0, [], .bl false⟩ := rfl
theorem o_isN_tup : opv .isN [⟨l, rs, .tup xs⟩] = Res.ok ⟨0, [], .bl false⟩ := rfl
theorem o_notN_non : opv .notN [⟨l, rs, .non⟩] = Res.ok ⟨0, [], .bl false⟩ := rfl
theorem o_notN_int : opv .notN [⟨l, rs, .int m⟩] = Res.ok ⟨0, [], .bl true⟩ := rfl
theorem o_notN_lst : opv .notN [⟨l, rs, .lst xs⟩] = Res.ok ⟨0, [], .bl true⟩ := rfl
theorem o_notN_tup : opv .notN [⟨l, rs, .tup xs⟩] = Res.ok ⟨0, [], .bl true⟩ := rfl
theorem o_isB_bl {b k : Bool} : opv (.isB b) [⟨l, rs, .bl k⟩] = Res.ok ⟨0, [], .bl (k == b)⟩ := rfl
theorem o_isB_non {b : Bool} : opv (.isB b) [⟨l, rs, .non⟩] = Res.ok ⟨0, [], .bl false⟩ := rfl
theorem o_isB_int {b : Bool} : opv (.isB b) [⟨l, rs, .int m⟩] = Res.ok ⟨0, [], .bl false⟩ := rfl
theorem o_isB_str {b : Bool} {x : Str} : opv (.isB b) [⟨l, rs, .str x⟩] = Res.ok ⟨0, [], .bl false⟩ := rfl
theorem o_isB_lst {b : Bool} : opv (.isB b) [⟨l, rs, .lst xs⟩] = Res.ok ⟨0, [], .bl false⟩ := rfl
theorem o_isB_tup {b : Bool} : opv (.isB b) [⟨l, rs, .tup xs⟩] = Res.ok ⟨0, [], .bl false⟩ := rfl
def isiK (t : Ty) : D → Res W
  | .exn _ _ _ => Res.stuck
  | .dct true _ _ => Res.stuck
  | d => Res.ok (val (.bl (isTy t d)))
theorem o_isi {t : Ty} : opv (.isi t) [⟨l, rs, d⟩] = isiK t d := by
  cases d with
  | dct b ks xs => cases b <;> rfl
  | _ => rfl
theorem isiK_dct {t : Ty} {ks : List (List Key)} {xs : List D} : isiK t (.dct false ks xs) = Res.ok ⟨0, [], .bl (isTy t (.dct false ks xs))⟩ := rfl
theorem isiK_non {t : Ty} : isiK t .non = Res.ok ⟨0, [], .bl (isTy t .non)⟩ := rfl
theorem isiK_bl {t : Ty} {b : Bool} : isiK t (.bl b) = Res.ok ⟨0, [], .bl (isTy t (.bl b))⟩ := rfl
theorem isiK_int {t : Ty} {i : Int} : isiK t (.int i) = Res.ok ⟨0, [], .bl (isTy t (.int i))⟩ := rfl
theorem isiK_str {t : Ty} {x : Str} : isiK t (.str x) = Res.ok ⟨0, [], .bl (isTy t (.str x))⟩ := rfl
theorem isiK_tup {t : Ty} {xs : List D} : isiK t (.tup xs) = Res.ok ⟨0, [], .bl (isTy t (.tup xs))⟩ := rfl
theorem isiK_lst {t : Ty} {xs : List D} : isiK t (.lst xs) = Res.ok ⟨0, [], .bl (isTy t (.lst xs))⟩ := rfl
theorem isiK_scr {t : Ty} {ns : List Int} : isiK t (.scr ns) = Res.ok ⟨0, [], .bl (isTy t (.scr ns))⟩ := rfl
theorem o_isE_BadNumber_BadNumber {f : Str} {p : Sum Int Str} : opv (.isE "BadNumber") [⟨l, rs, .exn "BadNumber" f p⟩] = Res.ok ⟨0, [], .bl true⟩ := by
  show (if ("BadNumber" : Str) ∈ errNames then Res.ok (val (.bl (decide (("BadNumber" : Str) = "BadNumber")))) else Res.stuck) = _
  rw [if_pos (by decide +kernel), show decide (("BadNumber" : Str) = "BadNumber") = true by decide +kernel]; rfl
theorem o_isE_BadNumber_BadDay {f : Str} {p : Sum Int Str} : opv (.isE "BadDay") [⟨l, rs, .exn "BadNumber" f p⟩] = Res.ok ⟨0, [], .bl false⟩ := by
  show (if ("BadDay" : Str) ∈ errNames then Res.ok (val (.bl (decide (("BadNumber" : Str) = "BadDay")))) else Res.stuck) = _
  rw [if_pos (by decide +kernel), show decide (("BadNumber" : Str) = "BadDay") = false by decide +kernel]; rfl
theorem o_isE_BadNumber_NoName {f : Str} {p : Sum Int Str} : opv (.isE "NoName") [⟨l, rs, .exn "BadNumber" f p⟩] = Res.ok ⟨0, [], .bl false⟩ := by
  show (if ("NoName" : Str) ∈ errNames then Res.ok (val (.bl (decide (("BadNumber" : Str) = "NoName")))) else Res.stuck) = _
  rw [if_pos (by decide +kernel), show decide (("BadNumber" : Str) = "NoName") = false by decide +kernel]; rfl
theorem o_isE_BadNumber_Clash {f : Str} {p : Sum Int Str} : opv (.isE "Clash") [⟨l, rs, .exn "BadNumber" f p⟩] = Res.ok ⟨0, [], .bl false⟩ := by
  show (if ("Clash" : Str) ∈ errNames then Res.ok (val (.bl (decide (("BadNumber" : Str) = "Clash")))) else Res.stuck) = _
  rw [if_pos (by decide +kernel), show decide (("BadNumber" : Str) = "Clash") = false by decide +kernel]; rfl
theorem o_isE_BadNumber_Full {f : Str} {p : Sum Int Str} : opv (.isE "Full") [⟨l, rs, .exn "BadNumber" f p⟩] = Res.ok ⟨0, [], .bl false⟩ := by
  show (if ("Full" : Str) ∈ errNames then Res.ok (val (.bl (decide (("BadNumber" : Str) = "Full")))) else Res.stuck) = _
  rw [if_pos (by decide +kernel), show decide (("BadNumber" : Str) = "Full") = false by decide +kernel]; rfl
theorem o_isE_BadNumber_Refused {f : Str} {p : Sum Int Str} : opv (.isE "Refused") [⟨l, rs, .exn "BadNumber" f p⟩] = Res.ok ⟨0, [], .bl false⟩ := by
  show (if ("Refused" : Str) ∈ errNames then Res.ok (val (.bl (decide (("BadNumber" : Str) = "Refused")))) else Res.stuck) = _
  rw [if_pos (by decide +kernel), show decide (("BadNumber" : Str) = "Refused") = false by decide +kernel]; rfl
theorem o_isE_BadNumber_TooFar {f : Str} {p : Sum Int Str} : opv (.isE "TooFar") [⟨l, rs, .exn "BadNumber" f p⟩] = Res.ok ⟨0, [], .bl false⟩ := by
  show (if ("TooFar" : Str) ∈ errNames then Res.ok (val (.bl (decide (("BadNumber" : Str) = "TooFar")))) else Res.stuck) = _
  rw [if_pos (by decide +kernel), show decide (("BadNumber" : Str) = "TooFar") = false by decide +kernel]; rfl
theorem o_isE_BadNumber_TooLarge {f : Str} {p : Sum Int Str} : opv (.isE "TooLarge") [⟨l, rs, .exn "BadNumber" f p⟩] = Res.ok ⟨0, [], .bl false⟩ := by
  show (if ("TooLarge" : Str) ∈ errNames then Res.ok (val (.bl (decide (("BadNumber" : Str) = "TooLarge")))) else Res.stuck) = _
  rw [if_pos (by decide +kernel), show decide (("BadNumber" : Str) = "TooLarge") = false by decide +kernel]; rfl
theorem o_isE_BadNumber_TooMuch {f : Str} {p : Sum Int Str} : opv (.isE "TooMuch") [⟨l, rs, .exn "BadNumber" f p⟩] = Res.ok ⟨0, [], .bl false⟩ := by
  show (if ("TooMuch" : Str) ∈ errNames then Res.ok (val (.bl (decide (("BadNumber" : Str) = "TooMuch")))) else Res.stuck) = _
  rw [if_pos (by decide +kernel), show decide (("BadNumber" : Str) = "TooMuch") = false by decide +kernel]; rfl
theorem o_isE_BadNumber_BadLine {f : Str} {p : Sum Int Str} : opv (.isE "BadLine") [⟨l, rs, .exn "BadNumber" f p⟩] = Res.ok ⟨0, [], .bl false⟩ := by
  show (if ("BadLine" : Str) ∈ errNames then Res.ok (val (.bl (decide (("BadNumber" : Str) = "BadLine")))) else Res.stuck) = _
  rw [if_pos (by decide +kernel), show decide (("BadNumber" : Str) = "BadLine") = false by decide +kernel]; rfl
theorem o_isE_BadNumber_NoUndo {f : Str} {p : Sum Int Str} : opv (.isE "NoUndo") [⟨l, rs, .exn "BadNumber" f p⟩] = Res.ok ⟨0, [], .bl false⟩ := by
  show (if ("NoUndo" : Str) ∈ errNames then Res.ok (val (.bl (decide (("BadNumber" : Str) = "NoUndo")))) else Res.stuck) = _
  rw [if_pos (by decide +kernel), show decide (("BadNumber" : Str) = "NoUndo") = false by decide +kernel]; rfl
theorem o_isE_Full_BadNumber {f : Str} {p : Sum Int Str} : opv (.isE "BadNumber") [⟨l, rs, .exn "Full" f p⟩] = Res.ok ⟨0, [], .bl false⟩ := by
  show (if ("BadNumber" : Str) ∈ errNames then Res.ok (val (.bl (decide (("Full" : Str) = "BadNumber")))) else Res.stuck) = _
  rw [if_pos (by decide +kernel), show decide (("Full" : Str) = "BadNumber") = false by decide +kernel]; rfl
theorem o_isE_Full_BadDay {f : Str} {p : Sum Int Str} : opv (.isE "BadDay") [⟨l, rs, .exn "Full" f p⟩] = Res.ok ⟨0, [], .bl false⟩ := by
  show (if ("BadDay" : Str) ∈ errNames then Res.ok (val (.bl (decide (("Full" : Str) = "BadDay")))) else Res.stuck) = _
  rw [if_pos (by decide +kernel), show decide (("Full" : Str) = "BadDay") = false by decide +kernel]; rfl
theorem o_isE_Full_NoName {f : Str} {p : Sum Int Str} : opv (.isE "NoName") [⟨l, rs, .exn "Full" f p⟩] = Res.ok ⟨0, [], .bl false⟩ := by
  show (if ("NoName" : Str) ∈ errNames then Res.ok (val (.bl (decide (("Full" : Str) = "NoName")))) else Res.stuck) = _
  rw [if_pos (by decide +kernel), show decide (("Full" : Str) = "NoName") = false by decide +kernel]; rfl
theorem o_isE_Full_Clash {f : Str} {p : Sum Int Str} : opv (.isE "Clash") [⟨l, rs, .exn "Full" f p⟩] = Res.ok ⟨0, [], .bl false⟩ := by
  show (if ("Clash" : Str) ∈ errNames then Res.ok (val (.bl (decide (("Full" : Str) = "Clash")))) else Res.stuck) = _
  rw [if_pos (by decide +kernel), show decide (("Full" : Str) = "Clash") = false by decide +kernel]; rfl
theorem o_isE_Full_Full {f : Str} {p : Sum Int Str} : opv (.isE "Full") [⟨l, rs, .exn "Full" f p⟩] = Res.ok ⟨0, [], .bl true⟩ := by
  show (if ("Full" : Str) ∈ errNames then Res.ok (val (.bl (decide (("Full" : Str) = "Full")))) else Res.stuck) = _
  rw [if_pos (by decide +kernel), show decide (("Full" : Str) = "Full") = true by decide +kernel]; rfl
theorem o_isE_Full_Refused {f : Str} {p : Sum Int Str} : opv (.isE "Refused") [⟨l, rs, .exn "Full" f p⟩] = Res.ok ⟨0, [], .bl false⟩ := by
  show (if ("Refused" : Str) ∈ errNames then Res.ok (val (.bl (decide (("Full" : Str) = "Refused")))) else Res.stuck) = _
  rw [if_pos (by decide +kernel), show decide (("Full" : Str) = "Refused") = false by decide +kernel]; rfl
theorem o_isE_Full_TooFar {f : Str} {p : Sum Int Str} : opv (.isE "TooFar") [⟨l, rs, .exn "Full" f p⟩] = Res.ok ⟨0, [], .bl false⟩ := by
  show (if ("TooFar" : Str) ∈ errNames then Res.ok (val (.bl (decide (("Full" : Str) = "TooFar")))) else Res.stuck) = _
  rw [if_pos (by decide +kernel), show decide (("Full" : Str) = "TooFar") = false by decide +kernel]; rfl
theorem o_isE_Full_TooLarge {f : Str} {p : Sum Int Str} : opv (.isE "TooLarge") [⟨l, rs, .exn "Full" f p⟩] = Res.ok ⟨0, [], .bl false⟩ := by
  show (if ("TooLarge" : Str) ∈ errNames then Res.ok (val (.bl (decide (("Full" : Str) = "TooLarge")))) else Res.stuck) = _
  rw [if_pos (by decide +kernel), show decide (("Full" : Str) = "TooLarge") = false by decide +kernel]; rfl
theorem o_isE_Full_TooMuch {f : Str} {p : Sum Int Str} : opv (.isE "TooMuch") [⟨l, rs, .exn "Full" f p⟩] = Res.ok ⟨0, [], .bl false⟩ := by
  show (if ("TooMuch" : Str) ∈ errNames then Res.ok (val (.bl (decide (("Full" : Str) = "TooMuch")))) else Res.stuck) = _
  rw [if_pos (by decide +kernel), show decide (("Full" : Str) = "TooMuch") = false by decide +kernel]; rfl
theorem o_isE_Full_BadLine {f : Str} {p : Sum Int Str} : opv (.isE "BadLine") [⟨l, rs, .exn "Full" f p⟩] = Res.ok ⟨0, [], .bl false⟩ := by
  show (if ("BadLine" : Str) ∈ errNames then Res.ok (val (.bl (decide (("Full" : Str) = "BadLine")))) else Res.stuck) = _
  rw [if_pos (by decide +kernel), show decide (("Full" : Str) = "BadLine") = false by decide +kernel]; rfl
theorem o_isE_Full_NoUndo {f : Str} {p : Sum Int Str} : opv (.isE "NoUndo") [⟨l, rs, .exn "Full" f p⟩] = Res.ok ⟨0, [], .bl false⟩ := by
  show (if ("NoUndo" : Str) ∈ errNames then Res.ok (val (.bl (decide (("Full" : Str) = "NoUndo")))) else Res.stuck) = _
  rw [if_pos (by decide +kernel), show decide (("Full" : Str) = "NoUndo") = false by decide +kernel]; rfl
theorem o_isE_BadDay_BadNumber {f : Str} {p : Sum Int Str} : opv (.isE "BadNumber") [⟨l, rs, .exn "BadDay" f p⟩] = Res.ok ⟨0, [], .bl false⟩ := by
  show (if ("BadNumber" : Str) ∈ errNames then Res.ok (val (.bl (decide (("BadDay" : Str) = "BadNumber")))) else Res.stuck) = _
  rw [if_pos (by decide +kernel), show decide (("BadDay" : Str) = "BadNumber") = false by decide +kernel]; rfl
theorem o_isE_BadDay_BadDay {f : Str} {p : Sum Int Str} : opv (.isE "BadDay") [⟨l, rs, .exn "BadDay" f p⟩] = Res.ok ⟨0, [], .bl true⟩ := by
  show (if ("BadDay" : Str) ∈ errNames then Res.ok (val (.bl (decide (("BadDay" : Str) = "BadDay")))) else Res.stuck) = _
  rw [if_pos (by decide +kernel), show decide (("BadDay" : Str) = "BadDay") = true by decide +kernel]; rfl
theorem o_isE_BadDay_NoName {f : Str} {p : Sum Int Str} : opv (.isE "NoName") [⟨l, rs, .exn "BadDay" f p⟩] = Res.ok ⟨0, [], .bl false⟩ := by
  show (if ("NoName" : Str) ∈ errNames then Res.ok (val (.bl (decide (("BadDay" : Str) = "NoName")))) else Res.stuck) = _
  rw [if_pos (by decide +kernel), show decide (("BadDay" : Str) = "NoName") = false by decide +kernel]; rfl
theorem o_isE_BadDay_Clash {f : Str} {p : Sum Int Str} : opv (.isE "Clash") [⟨l, rs, .exn "BadDay" f p⟩] = Res.ok ⟨0, [], .bl false⟩ := by
  show (if ("Clash" : Str) ∈ errNames then Res.ok (val (.bl (decide (("BadDay" : Str) = "Clash")))) else Res.stuck) = _
  rw [if_pos (by decide +kernel), show decide (("BadDay" : Str) = "Clash") = false by decide +kernel]; rfl
theorem o_isE_BadDay_Full {f : Str} {p : Sum Int Str} : opv (.isE "Full") [⟨l, rs, .exn "BadDay" f p⟩] = Res.ok ⟨0, [], .bl false⟩ := by
  show (if ("Full" : Str) ∈ errNames then Res.ok (val (.bl (decide (("BadDay" : Str) = "Full")))) else Res.stuck) = _
  rw [if_pos (by decide +kernel), show decide (("BadDay" : Str) = "Full") = false by decide +kernel]; rfl
theorem o_isE_BadDay_Refused {f : Str} {p : Sum Int Str} : opv (.isE "Refused") [⟨l, rs, .exn "BadDay" f p⟩] = Res.ok ⟨0, [], .bl false⟩ := by
  show (if ("Refused" : Str) ∈ errNames then Res.ok (val (.bl (decide (("BadDay" : Str) = "Refused")))) else Res.stuck) = _
  rw [if_pos (by decide +kernel), show decide (("BadDay" : Str) = "Refused") = false by decide +kernel]; rfl
theorem o_isE_BadDay_TooFar {f : Str} {p : Sum Int Str} : opv (.isE "TooFar") [⟨l, rs, .exn "BadDay" f p⟩] = Res.ok ⟨0, [], .bl false⟩ := by
  show (if ("TooFar" : Str) ∈ errNames then Res.ok (val (.bl (decide (("BadDay" : Str) = "TooFar")))) else Res.stuck) = _
  rw [if_pos (by decide +kernel), show decide (("BadDay" : Str) = "TooFar") = false by decide +kernel]; rfl
theorem o_isE_BadDay_TooLarge {f : Str} {p : Sum Int Str} : opv (.isE "TooLarge") [⟨l, rs, .exn "BadDay" f p⟩] = Res.ok ⟨0, [], .bl false⟩ := by
  show (if ("TooLarge" : Str) ∈ errNames then Res.ok (val (.bl (decide (("BadDay" : Str) = "TooLarge")))) else Res.stuck) = _
  rw [if_pos (by decide +kernel), show decide (("BadDay" : Str) = "TooLarge") = false by decide +kernel]; rfl
theorem o_isE_BadDay_TooMuch {f : Str} {p : Sum Int Str} : opv (.isE "TooMuch") [⟨l, rs, .exn "BadDay" f p⟩] = Res.ok ⟨0, [], .bl false⟩ := by
  show (if ("TooMuch" : Str) ∈ errNames then Res.ok (val (.bl (decide (("BadDay" : Str) = "TooMuch")))) else Res.stuck) = _
  rw [if_pos (by decide +kernel), show decide (("BadDay" : Str) = "TooMuch") = false by decide +kernel]; rfl
theorem o_isE_BadDay_BadLine {f : Str} {p : Sum Int Str} : opv (.isE "BadLine") [⟨l, rs, .exn "BadDay" f p⟩] = Res.ok ⟨0, [], .bl false⟩ := by
  show (if ("BadLine" : Str) ∈ errNames then Res.ok (val (.bl (decide (("BadDay" : Str) = "BadLine")))) else Res.stuck) = _
  rw [if_pos (by decide +kernel), show decide (("BadDay" : Str) = "BadLine") = false by decide +kernel]; rfl
theorem o_isE_BadDay_NoUndo {f : Str} {p : Sum Int Str} : opv (.isE "NoUndo") [⟨l, rs, .exn "BadDay" f p⟩] = Res.ok ⟨0, [], .bl false⟩ := by
  show (if ("NoUndo" : Str) ∈ errNames then Res.ok (val (.bl (decide (("BadDay" : Str) = "NoUndo")))) else Res.stuck) = _
  rw [if_pos (by decide +kernel), show decide (("BadDay" : Str) = "NoUndo") = false by decide +kernel]; rfl
theorem o_isV {cn f : Str} {p : Sum Int Str} : opv .isV [⟨l, rs, .exn cn f p⟩] = Res.ok ⟨0, [], .bl true⟩ := rfl
theorem o_fld {cn f : Str} {p : Sum Int Str} : opv (.fld f) [⟨l, rs, .exn cn f p⟩] = Res.ok ⟨0, [], pD p⟩ := if_pos rfl
theorem pD_l {i : Int} : pD (.inl i) = .int i := rfl
theorem pD_r {x : Str} : pD (.inr x) = .str x := rfl
theorem o_notN_exn {cn f : Str} {p : Sum Int Str} : opv .notN [⟨l, rs, .exn cn f p⟩] = Res.ok ⟨0, [], .bl true⟩ := rfl
theorem o_isN_exn {cn f : Str} {p : Sum Int Str} : opv .isN [⟨l, rs, .exn cn f p⟩] = Res.ok ⟨0, [], .bl false⟩ := rfl
theorem imm_exn {cn f : Str} {p : Sum Int Str} : imm (.exn cn f p) = true := rfl
theorem ty_ii : isTy .int (.int m) = true := rfl
theorem ty_ib {k : Bool} : isTy .int (.bl k) = true := rfl
theorem ty_il : isTy .int (.lst xs) = false := rfl
theorem ty_it : isTy .int (.tup xs) = false := rfl
theorem ty_is {x : Str} : isTy .int (.str x) = false := rfl
theorem ty_bi : isTy .bool (.int m) = false := rfl
theorem ty_bb {k : Bool} : isTy .bool (.bl k) = true := rfl
theorem ty_si : isTy .str (.int m) = false := rfl
theorem ty_ss {x : Str} : isTy .str (.str x) = true := rfl
theorem ty_sl : isTy .str (.lst xs) = false := rfl
theorem ty_st : isTy .str (.tup xs) = false := rfl
theorem ty_ll : isTy .list (.lst xs) = true := rfl
theorem ty_lt : isTy .list (.tup xs) = false := rfl
theorem ty_tl : isTy .tuple (.lst xs) = false := rfl
theorem ty_tt : isTy .tuple (.tup xs) = true := rfl
def ixK (w : W) : Option D → Res W
  | some d => if imm d then Res.ok (val d) else if w.l = 0 then Res.ok ⟨0, w.rs, d⟩ else Res.stuck
  | none => Res.stuck
theorem o_ixL : opv .ix [⟨l, rs, .lst xs⟩, ⟨l', rs', .int n⟩] = ixK ⟨l, rs, .lst xs⟩ (atI xs n) := by
  show (match atI xs n with
      | some d => if imm d then Res.ok (val d) else if l = 0 then Res.ok ⟨0, rs, d⟩ else Res.stuck
      | none => Res.stuck) = _
  cases atI xs n <;> rfl
theorem o_ixT : opv .ix [⟨l, rs, .tup xs⟩, ⟨l', rs', .int n⟩] = ixK ⟨l, rs, .tup xs⟩ (atI xs n) := by
  show (match atI xs n with
      | some d => if imm d then Res.ok (val d) else if l = 0 then Res.ok ⟨0, rs, d⟩ else Res.stuck
      | none => Res.stuck) = _
  cases atI xs n <;> rfl
theorem ixK_imm (h : imm d = true) : ixK w (some d) = Res.ok ⟨0, [], d⟩ := if_pos h
theorem ixK_see (h : imm d = false) {z : D} : ixK ⟨0, rs, z⟩ (some d) = Res.ok ⟨0, rs, d⟩ := by
  exact (if_neg (by rw [h]; exact Bool.false_ne_true)).trans rfl
def ixS : Option Int → Res W
  | some j => Res.ok (val (.int j))
  | none => Res.stuck
theorem o_ixS {ns : List Int} : opv .ix [⟨l, rs, .scr ns⟩, ⟨l', rs', .int n⟩] = ixS (atI ns n) := by
  show (match atI ns n with
      | some j => Res.ok (val (.int j))
      | none => Res.stuck) = _
  cases atI ns n <;> rfl
theorem ixS_ : ixS (some n) = Res.ok ⟨0, [], .int n⟩ := rfl
theorem at_0 {α : Type} {x : α} {r : List α} : atI (x :: r) 0 = some x := atI_nat (j := 0) rfl
theorem at_1 {α : Type} {x y : α} {r : List α} : atI (x :: y :: r) 1 = some y := atI_nat (j := 1) rfl
theorem at_2 {α : Type} {x y z : α} {r : List α} : atI (x :: y :: z :: r) 2 = some z := atI_nat (j := 2) rfl
theorem at_3 {α : Type} {x y z u : α} {r : List α} : atI (x :: y :: z :: u :: r) 3 = some u := atI_nat (j := 3) rfl
theorem o_lenL : opv .len [⟨l, rs, .lst xs⟩] = Res.ok ⟨0, [], .int xs.length⟩ := rfl
theorem o_lenT : opv .len [⟨l, rs, .tup xs⟩] = Res.ok ⟨0, [], .int xs.length⟩ := rfl
theorem o_lenS {ns : List Int} : opv .len [⟨l, rs, .scr ns⟩] = Res.ok ⟨0, [], .int ns.length⟩ := rfl
theorem o_abs : opv .abs [⟨l, rs, .int m⟩] = Res.ok ⟨0, [], .int (if m < 0 then -m else m)⟩ := rfl
theorem o_int : opv .int [⟨l, rs, .int m⟩] = Res.ok ⟨0, [], .int m⟩ := rfl
theorem o_max2 : opv .max2 [⟨l, rs, .int m⟩, ⟨l', rs', .int n⟩] = Res.ok ⟨0, [], .int (if n > m then n else m)⟩ := rfl
theorem o_min2 : opv .min2 [⟨l, rs, .int m⟩, ⟨l', rs', .int n⟩] = Res.ok ⟨0, [], .int (if n < m then n else m)⟩ := rfl
def sumK : Option (List Int) → Res W
  | some ns => Res.ok (val (.int ns.sum))
  | none => Res.stuck
theorem o_sum : opv .sum [⟨l, rs, .lst xs⟩] = sumK (intsD xs) := by
  show (match intsD xs with
      | some ns => Res.ok (val (.int ns.sum))
      | none => Res.stuck) = _
  cases intsD xs <;> rfl
theorem sumK_ {ns : List Int} : sumK (some ns) = Res.ok ⟨0, [], .int ns.sum⟩ := rfl
theorem intsD_map : ∀ ns : List Int, intsD (ns.map .int) = some ns
  | [] => rfl
  | n :: r => by
    show (match intsD (r.map .int) with
      | some r => some (n :: r)
      | none => none) = _
    rw [intsD_map r]
theorem immAll_map : ∀ ns : List Int, immAll (ns.map .int) = true
  | [] => rfl
  | n :: r => by rw [List.map_cons, immAll_cons, immAll_map r]; rfl
theorem o_list : opv .list [⟨l, rs, .lst xs⟩] = Res.ok (newL rs xs) := rfl
theorem o_listT : opv .list [⟨l, rs, .tup xs⟩] = Res.ok (newL rs xs) := rfl
theorem newL_imm (h : immAll xs = true) : newL rs xs = ⟨8, [], .lst xs⟩ := if_pos h
def srtI : Option (List Int) → Res W
  | some ns => Res.ok ⟨8, [], .lst ((ns.mergeSort leI).map .int)⟩
  | none => Res.stuck
def srtK (xs : List D) : Option (List (Int × Int)) → Res W
  | some ps => Res.ok ⟨8, [], .lst ((ps.mergeSort leP).map pairD)⟩
  | none => srtI (intsD xs)
theorem o_sorted : opv .sorted [⟨l, rs, .lst xs⟩] = srtK xs (pairs xs) := by
  show (match pairs xs with
      | some ps => Res.ok (W.mk 8 [] (.lst ((ps.mergeSort leP).map pairD)))
      | none => match intsD xs with
        | some ns => Res.ok (W.mk 8 [] (.lst ((ns.mergeSort leI).map .int)))
        | none => Res.stuck) = _
  cases pairs xs with
  | some ps => rfl
  | none =>
    show _ = srtI (intsD xs)
    cases intsD xs <;> rfl
theorem srtK_ {ps : List (Int × Int)} : srtK xs (some ps) = Res.ok ⟨8, [], .lst ((ps.mergeSort leP).map pairD)⟩ := rfl
theorem srtK_n : srtK xs none = srtI (intsD xs) := rfl
theorem srtI_ {ns : List Int} : srtI (some ns) = Res.ok ⟨8, [], .lst ((ns.mergeSort leI).map .int)⟩ := rfl
theorem pairs_int {i : Int} : pairs (.int i :: xs) = none := rfl
theorem intsD_3 {i j k : Int} : intsD [.int i, .int j, .int k] = some [i, j, k] := rfl
theorem pairs_map : ∀ ps : List (Int × Int), pairs (ps.map pairD) = some ps
  | [] => rfl
  | p :: ps => by
    rw [List.map_cons]
    show (match pairs (ps.map pairD) with
      | some r => some ((p.1, p.2) :: r)
      | none => none) = _
    rw [pairs_map ps]
theorem o_tupT (h : immAll xs = true) : opv .tuple [⟨l, rs, .tup xs⟩] = Res.ok ⟨0, [], .tup xs⟩ := if_pos h
theorem o_tupL (h : immAll xs = true) : opv .tuple [⟨l, rs, .lst xs⟩] = Res.ok ⟨0, [], .tup xs⟩ := if_pos h

/-! defs -/
def finK (m : Mode) : Res Fl → Res (D × List D)
    | Res.ok (.ret w Γ) => match exits m.io Γ with
      | some os => if (if m.fresh then deep w else noIo m.io w.rs) then Res.ok (w.d, os) else Res.stuck
      | none => Res.stuck
    | Res.ok (.nx Γ) => match exits m.io Γ with
      | some os => Res.ok (.non, os)
      | none => Res.stuck
    | Res.ok _ => Res.stuck
    | Res.exc c as _ => Res.exc c as []
    | Res.stuck => Res.stuck
theorem runFn_ {sl : Nat} {m : Mode} {body : Ss} {ds : List D} (h : (decide (ds.length = m.io.length) && decide (ds.length ≤ sl)) = true) : runFn C ⟨sl, m, body⟩ ds = finK m (exSs C body (entry m.io ds ++ List.replicate (sl - ds.length) none)) := by
  unfold runFn
  rw [Bool.and_eq_true, decide_eq_true_eq, decide_eq_true_eq] at h
  rw [if_pos h]
  show _ = finK m (exSs C body (entry m.io ds ++ List.replicate (sl - ds.length) none))
  unfold finK
  cases exSs C body (entry m.io ds ++ List.replicate (sl - ds.length) none) with
  | ok fl => cases fl <;> rfl
  | exc c as Γ => rfl
  | stuck => rfl
def retK (fr : Bool) (io : List Bool) (w : W) : Option (List D) → Res (D × List D)
  | some os => if (if fr then deep w else noIo io w.rs) then Res.ok (w.d, os) else Res.stuck
  | none => Res.stuck
theorem finK_ret {io : List Bool} {fr : Bool} : finK ⟨io, fr⟩ (Res.ok (.ret w (s :: Γ))) = retK fr io w (exits io (s :: Γ)) := by
  show (match exits io (s :: Γ) with
      | some os => if (if fr then deep w else noIo io w.rs) then Res.ok (w.d, os) else Res.stuck
      | none => Res.stuck) = _
  cases exits io (s :: Γ) <;> rfl
theorem retK_ {io : List Bool} {os : List D} (h : deep ⟨l, rs, d⟩ = true) : retK true io ⟨l, rs, d⟩ (some os) = Res.ok (d, os) := if_pos (by show (if true = true then _ else _) = true; rw [if_pos rfl]; exact h)
theorem retKv_ {io : List Bool} {os : List D} (h : noIo io rs = true) : retK false io ⟨l, rs, d⟩ (some os) = Res.ok (d, os) := if_pos (by show (if false = true then _ else _) = true; rw [if_neg Bool.false_ne_true]; exact h)
def nxK : Option (List D) → Res (D × List D)
  | some os => Res.ok (.non, os)
  | none => Res.stuck
theorem finK_nx {m : Mode} : finK m (Res.ok (.nx (s :: Γ))) = nxK (exits m.io (s :: Γ)) := by
  show (match exits m.io (s :: Γ) with
      | some os => Res.ok (D.non, os)
      | none => Res.stuck) = _
  cases exits m.io (s :: Γ) <;> rfl
theorem nxK_ {os : List D} : nxK (some os) = Res.ok (.non, os) := rfl
theorem finK_exc {m : Mode} {c : Nat} {as : List D} : finK m (Res.exc c as Γ) = Res.exc c as [] := rfl
theorem exits_nil : exits [] Γ = some [] := by cases Γ <;> rfl
theorem exits_f {m : List Bool} : exits (false :: m) (s :: Γ) = exits m Γ := rfl
def exK (d : D) : Option (List D) → Option (List D)
  | some ds => some (d :: ds)
  | none => none
theorem exK_ {ds : List D} : exK d (some ds) = some (d :: ds) := rfl
theorem exits_8 {m : List Bool} : exits (true :: m) (some ⟨8, [], d⟩ :: Γ) = exK d (exits m Γ) := by
  show (match exits m Γ with
    | some ds => if 8 = 8 ∧ ([] : List Nat) = [] then some (d :: ds) else none
    | none => none) = _
  cases exits m Γ <;> rfl
theorem entry_nil : entry [] [] = [] := rfl
theorem entry_f {m : List Bool} {ds : List D} : entry (false :: m) (d :: ds) = some (itm [] d) :: entry m ds := rfl
theorem entry_t {m : List Bool} {ds : List D} : entry (true :: m) (d :: ds) = some ⟨8, [], d⟩ :: entry m ds := rfl
theorem itm_0 : itm [] d = ⟨0, [], d⟩ := by unfold itm; split <;> rfl
theorem exec_ {T : Nat → Option Fn} {gl : Nat → Option D} {n f : Nat} {fn : Fn} {ds : List D} (h : T f = some fn) : exec T gl (n + 1) f ds = runFn ⟨fun g => (T g).map (·.mode), exec T gl n, gl⟩ fn ds := by
  rw [exec, h]
end
end Own

end
section
set_option maxHeartbeats 1000000
namespace Own
open PySem PySem.Spec L2

theorem sm_80 {n : Int} (h : -100000000000000000000000000000000000000000000000000000000000000000000000000000000 ≤ n) (h2 : n ≤ 100000000000000000000000000000000000000000000000000000000000000000000000000000000) : Sm n := by
  unfold Sm
  have : (100000000000000000000000000000000000000000000000000000000000000000000000000000000 : Nat) < big := by unfold big; decide +kernel
  omega
theorem toNat0 : Int.toNat 0 = 0 := id rfl
theorem toNat1 : Int.toNat 1 = 1 := id rfl
theorem toNat2 : Int.toNat 2 = 2 := id rfl
theorem toNat3 : Int.toNat 3 = 3 := id rfl
theorem pow_7 : (10 : Int) ^ Int.toNat 7 = 10000000 := by decide +kernel
theorem pow_8 : (10 : Int) ^ Int.toNat 8 = 100000000 := by decide +kernel
theorem pow_18 : (10 : Int) ^ Int.toNat 18 = 1000000000000000000 := by decide +kernel
theorem pow_9 : (10 : Int) ^ Int.toNat 9 = 1000000000 := by decide +kernel
theorem pow_12 : (10 : Int) ^ Int.toNat 12 = 1000000000000 := by decide +kernel
theorem pow_13 : (10 : Int) ^ Int.toNat 13 = 10000000000000 := by decide +kernel
theorem pow_15 : (10 : Int) ^ Int.toNat 15 = 1000000000000000 := by decide +kernel
theorem pow_30 : (10 : Int) ^ Int.toNat 30 = 1000000000000000000000000000000 := by decide +kernel
theorem pow_60 : (10 : Int) ^ Int.toNat 60 = 1000000000000000000000000000000000000000000000000000000000000 := by decide +kernel
theorem deq_ii {a b : Int} : deq (.int a) (.int b) = decide (a = b) := by
  unfold deq toPy
  show PyData.eqv _ _ = _
  simp only [PyData.eqv]
  first | rfl | (exact beq_eq_decide) | (simp)
theorem deq_t {a b : Int} (h : a = b) : deq (.int a) (.int b) = true := by rw [deq_ii]; exact decide_eq_true h
theorem deq_f {a b : Int} (h : a ≠ b) : deq (.int a) (.int b) = false := by rw [deq_ii]; exact decide_eq_false h
theorem lim_eq : lim = 1000000 := rfl
theorem okEq_int {i : Int} : okEq (.int i) = true := id rfl
theorem b_tt : (true == true) = true := rfl
theorem b_tf : (true == false) = false := rfl
theorem b_ft : (false == true) = false := rfl
theorem b_ff : (false == false) = true := rfl
def mixV (a b : Int) : Int :=
  let one := (a * 48271 + b * 69621 + 12345) % 2147483647
  let two := (one * one + b * 7919 + 101) % 2147483629
  let three := (two * two + one + 65537) % 2147483587
  three / 19
theorem mixV_lo (a b : Int) : 0 ≤ mixV a b ∧ mixV a b < 2147483647 := by unfold mixV; dsimp only; omega
/-- a pool that has been drawn from k times at most -/
def Pool (k : Int) (d : D) : Prop := ∃ r s t, d = .lst [.int r, .int s, .int t] ∧ 0 ≤ r ∧ 0 ≤ s ∧ s ≤ 900000000000 ∧ 0 ≤ t ∧ t ≤ k
theorem Pool.up {k k' : Int} {d : D} (h : Pool k d) (e : k ≤ k') : Pool k' d := by
  obtain ⟨r, s, t, e, a1, a2, a3, a4, a5⟩ := h
  exact ⟨r, s, t, e, a1, a2, a3, a4, by omega⟩
/-- a for loop -/
theorem forL_inv {body : D → Gm → Res Fl} (I : Nat → Gm → Prop) (ds : List D) (step : ∀ i d, ds[i]? = some d → ∀ Γ, I i Γ → ∃ Γ', body d Γ = .ok (.nx Γ') ∧ I (i + 1) Γ') : ∀ Γ, I 0 Γ → ∃ Γ', forL body ds Γ = .ok (.nx Γ') ∧ I ds.length Γ' := by
  have key : ∀ (es : List D) (i : Nat) Γ, ds.drop i = es → i ≤ ds.length → I i Γ → ∃ Γ', forL body es Γ = .ok (.nx Γ') ∧ I ds.length Γ' := fun es => by
    induction es with
    | nil =>
      intro i Γ e hi h
      have : i = ds.length := by
        have := congrArg List.length e
        rw [List.length_drop, List.length_nil] at this
        omega
      subst this
      exact ⟨Γ, rfl, h⟩
    | cons d es ih =>
      intro i Γ e hi h
      have hl : i < ds.length := by
        have := congrArg List.length e
        rw [List.length_drop, List.length_cons] at this
        omega
      have e1 : ds[i]? = some d := by
        have := congrArg (fun z => z[0]?) e
        simpa using this
      obtain ⟨Γ1, q1, q2⟩ := step i d e1 Γ h
      obtain ⟨Γ2, q3, q4⟩ := ih (i + 1) Γ1 (by
        have := congrArg List.tail e
        simpa using this) hl q2
      refine ⟨Γ2, ?_, q4⟩
      rw [forL, q1, bind_ok]
      exact q3
  exact fun Γ h => key ds 0 Γ rfl (Nat.zero_le _) h
/-- .. that may break -/
theorem forL_brk {body : D → Gm → Res Fl} (I : Nat → Gm → Prop) (Q : Gm → Prop) (ds : List D) (step : ∀ i d, ds[i]? = some d → ∀ Γ, I i Γ → (∃ Γ', body d Γ = .ok (.nx Γ') ∧ I (i + 1) Γ') ∨ (∃ Γ', body d Γ = .ok (.brk Γ') ∧ Q Γ')) : ∀ Γ, I 0 Γ → ∃ Γ', forL body ds Γ = .ok (.nx Γ') ∧ (I ds.length Γ' ∨ Q Γ') := by
  have key : ∀ (es : List D) (i : Nat) Γ, ds.drop i = es → i ≤ ds.length → I i Γ → ∃ Γ', forL body es Γ = .ok (.nx Γ') ∧ (I ds.length Γ' ∨ Q Γ') := fun es => by
    induction es with
    | nil =>
      intro i Γ e hi h
      have : i = ds.length := by
        have := congrArg List.length e
        rw [List.length_drop, List.length_nil] at this
        omega
      subst this
      exact ⟨Γ, rfl, .inl h⟩
    | cons d es ih =>
      intro i Γ e hi h
      have hl : i < ds.length := by
        have := congrArg List.length e
        rw [List.length_drop, List.length_cons] at this
        omega
      have e1 : ds[i]? = some d := by
        have := congrArg (fun z => z[0]?) e
        simpa using this
      rcases step i d e1 Γ h with ⟨Γ1, q1, q2⟩ | ⟨Γ1, q1, q2⟩
      · obtain ⟨Γ2, q3, q4⟩ := ih (i + 1) Γ1 (by
          have := congrArg List.tail e
          simpa using this) hl q2
        refine ⟨Γ2, ?_, q4⟩
        rw [forL, q1, bind_ok]
        exact q3
      · refine ⟨Γ1, ?_, .inr q2⟩
        rw [forL, q1, bind_ok]
  exact fun Γ h => key ds 0 Γ rfl (Nat.zero_le _) h
theorem leP_iffZ {x y : Int × Int} : leP x y = true ↔ (x.1 < y.1 ∨ (x.1 = y.1 ∧ x.2 ≤ y.2)) := by
  unfold leP
  rw [Bool.or_eq_true, Bool.and_eq_true, decide_eq_true_eq, decide_eq_true_eq, decide_eq_true_eq]
theorem sorted_uniqZ : ∀ {l m : List (Int × Int)}, l.Pairwise (fun x y => leP x y = true) → m.Pairwise (fun x y => leP x y = true) → l.Perm m → l = m
  | [], m, _, _, h => (List.Perm.eq_nil h.symm).symm
  | x :: l, [], _, _, h => absurd h.length_eq (by simp)
  | x :: l, y :: m, hl, hm, h => by
    have hl' := List.pairwise_cons.mp hl
    have hm' := List.pairwise_cons.mp hm
    have h1 : leP y x = true := by
      rcases List.mem_cons.mp (h.mem_iff.mp (List.mem_cons_self (a := x) (l := l))) with e | hx
      · rw [e]; rw [leP_iffZ]; omega
      · exact hm'.1 x hx
    have h2 : leP x y = true := by
      rcases List.mem_cons.mp (h.mem_iff.mpr (List.mem_cons_self (a := y) (l := m))) with e | hy
      · rw [e]; rw [leP_iffZ]; omega
      · exact hl'.1 y hy
    have e : x = y := by
      rw [leP_iffZ] at h1 h2
      exact Prod.ext (by omega) (by omega)
    subst e
    rw [sorted_uniqZ hl'.2 hm'.2 (h.cons_inv)]
theorem sort_sortedZ (ks : List (Int × Int)) : (ks.mergeSort leP).Pairwise (fun x y => leP x y = true) :=
  List.pairwise_mergeSort (fun x y z h h' => by rw [leP_iffZ] at *; omega) (fun x y => by rw [Bool.or_eq_true, leP_iffZ, leP_iffZ]; omega) _
theorem rngD_getZ : ∀ (n : Nat) (lo : Int) (i : Nat) (d : D), (rngD lo n)[i]? = some d → d = .int (lo + i) ∧ i < n
  | 0, _, _, _, h => by simp [rngD] at h
  | n + 1, lo, 0, d, h => by
    rw [rngD, List.getElem?_cons_zero] at h
    cases h
    exact ⟨by rw [show lo + ((0 : Nat) : Int) = lo by omega], by omega⟩
  | n + 1, lo, i + 1, d, h => by
    rw [rngD, List.getElem?_cons_succ] at h
    obtain ⟨h1, h2⟩ := rngD_getZ n (lo + 1) i d h
    exact ⟨by rw [h1, show lo + 1 + (i : Int) = lo + ((i + 1 : Nat) : Int) by omega], by omega⟩
theorem rngD_lenZ : ∀ (n : Nat) (lo : Int), (rngD lo n).length = n
  | 0, _ => rfl
  | n + 1, lo => by rw [rngD, List.length_cons, rngD_lenZ]
/-- for k in range(..) -/
theorem forL_rng {body : D → Gm → Res Fl} (I : Nat → Gm → Prop) (n : Nat) (step : ∀ i : Nat, i < n → ∀ Γ, I i Γ → ∃ Γ', body (.int (i : Int)) Γ = .ok (.nx Γ') ∧ I (i + 1) Γ') : ∀ Γ, I 0 Γ → ∃ Γ', forL body (rngD 0 n) Γ = .ok (.nx Γ') ∧ I n Γ' := fun Γ h => by
  obtain ⟨Γ', q1, q2⟩ := forL_inv I (rngD 0 n) (fun i d e Γ h => by
    obtain ⟨h1, h2⟩ := rngD_getZ n 0 i d e
    rw [h1, show (0 : Int) + i = i by omega]
    exact step i h2 Γ h) Γ h
  rw [rngD_lenZ] at q2
  exact ⟨Γ', q1, q2⟩
/-- a comprehension: what each item gives -/
theorem compL_inv {body : D → Gm → Res (Option W × Gm)} (I : Nat → List D → Gm → Prop) (ds : List D) (hl : ds.length ≤ 100000)
    (step : ∀ i d, ds[i]? = some d → ∀ acc Γ, I i acc Γ → acc.length ≤ i ∧ ((∃ x Γ', imm x = true ∧ body d Γ = .ok (some ⟨0, [], x⟩, Γ') ∧ I (i + 1) (acc ++ [x]) Γ') ∨ (∃ xs Γ', body d Γ = .ok (some ⟨8, [], .lst xs⟩, Γ') ∧ I (i + 1) (acc ++ [.lst xs]) Γ') ∨ (∃ Γ', body d Γ = .ok (none, Γ') ∧ I (i + 1) acc Γ'))) :
    ∀ Γ, I 0 [] Γ → ∃ xs Γ', compL body ds [] true Γ = .ok (xs, true, Γ') ∧ I ds.length xs Γ' := by
  have key : ∀ (es : List D) (i : Nat) (acc : List D) Γ, ds.drop i = es → i ≤ ds.length → I i acc Γ → ∃ xs Γ', compL body es acc true Γ = .ok (xs, true, Γ') ∧ I ds.length xs Γ' := fun es => by
    induction es with
    | nil =>
      intro i acc Γ e hi h
      have : i = ds.length := by
        have := congrArg List.length e
        rw [List.length_drop, List.length_nil] at this
        omega
      subst this
      exact ⟨acc, Γ, by rw [compL], h⟩
    | cons d es ih =>
      intro i acc Γ e hi h
      have hli : i < ds.length := by
        have := congrArg List.length e
        rw [List.length_drop, List.length_cons] at this
        omega
      have e1 : ds[i]? = some d := by
        have := congrArg (fun z => z[0]?) e
        simpa using this
      have e2 : ds.drop (i + 1) = es := by
        have := congrArg List.tail e
        simpa using this
      obtain ⟨hacc, hs⟩ := step i d e1 acc Γ h
      have hlim : acc.length < lim := by unfold lim; omega
      rcases hs with ⟨x, Γ1, hx, q1, q2⟩ | ⟨ys, Γ1, q1, q2⟩ | ⟨Γ1, q1, q2⟩
      · obtain ⟨xs, Γ2, q3, q4⟩ := ih (i + 1) (acc ++ [x]) Γ1 e2 hli q2
        refine ⟨xs, Γ2, ?_, q4⟩
        rw [compL, q1]
        show (if acc.length < lim then compL body es (acc ++ [x]) (true && deep ⟨0, [], x⟩) (stl ⟨0, [], x⟩ Γ1).2 else _) = _
        rw [if_pos hlim, deep_imm hx]
        unfold stl
        rw [if_pos hx]
        exact q3
      · obtain ⟨xs, Γ2, q3, q4⟩ := ih (i + 1) (acc ++ [.lst ys]) Γ1 e2 hli q2
        refine ⟨xs, Γ2, ?_, q4⟩
        rw [compL, q1]
        show (if acc.length < lim then compL body es (acc ++ [.lst ys]) (true && deep ⟨8, [], .lst ys⟩) (stl ⟨8, [], .lst ys⟩ Γ1).2 else _) = _
        rw [if_pos hlim, deep_8]
        exact q3
      · obtain ⟨xs, Γ2, q3, q4⟩ := ih (i + 1) acc Γ1 e2 hli q2
        refine ⟨xs, Γ2, ?_, q4⟩
        rw [compL, q1]
        exact q3
  exact fun Γ h => key ds 0 [] Γ rfl (Nat.zero_le _) h
/-- .. an int for each item -/
theorem compL_ints {body : D → Gm → Res (Option W × Gm)} (J : Gm → Prop) (f : Nat → Int) (ds : List D) (hl : ds.length ≤ 100000)
    (step : ∀ i d, ds[i]? = some d → ∀ Γ, J Γ → ∃ Γ', body d Γ = .ok (some ⟨0, [], .int (f i)⟩, Γ') ∧ J Γ') : ∀ Γ, J Γ → ∃ Γ', compL body ds [] true Γ = .ok (((List.range ds.length).map f).map .int, true, Γ') ∧ J Γ' := fun Γ h => by
  obtain ⟨xs, Γ', q1, q2, q3⟩ := compL_inv (fun i acc Γ => acc = ((List.range i).map f).map .int ∧ J Γ) ds hl (fun i d e acc Γ ⟨h1, h2⟩ => by
    obtain ⟨Γ', q1, q2⟩ := step i d e Γ h2
    refine ⟨by rw [h1]; simp, .inl ⟨_, Γ', rfl, q1, ?_, q2⟩⟩
    rw [h1, List.range_succ, List.map_append, List.map_append]
    rfl) Γ ⟨rfl, h⟩
  exact ⟨Γ', by rw [q1, q2], q3⟩
/-- .. a value without lists for each item -/
theorem compL_gen {body : D → Gm → Res (Option W × Gm)} (J : Gm → Prop) (f : Nat → D) (hf : ∀ i, imm (f i) = true) (ds : List D) (hl : ds.length ≤ 100000)
    (step : ∀ i d, ds[i]? = some d → ∀ Γ, J Γ → ∃ Γ', body d Γ = .ok (some ⟨0, [], f i⟩, Γ') ∧ J Γ') : ∀ Γ, J Γ → ∃ Γ', compL body ds [] true Γ = .ok ((List.range ds.length).map f, true, Γ') ∧ J Γ' := fun Γ h => by
  obtain ⟨xs, Γ', q1, q2, q3⟩ := compL_inv (fun i acc Γ => acc = (List.range i).map f ∧ J Γ) ds hl (fun i d e acc Γ ⟨h1, h2⟩ => by
    obtain ⟨Γ', q1, q2⟩ := step i d e Γ h2
    refine ⟨by rw [h1]; simp, .inl ⟨_, Γ', hf i, q1, ?_, q2⟩⟩
    rw [h1, List.range_succ, List.map_append]
    rfl) Γ ⟨rfl, h⟩
  exact ⟨Γ', by rw [q1, q2], q3⟩
/-- .. drawn: all that is known of each is R -/
theorem compL_draw {body : D → Gm → Res (Option W × Gm)} (J : Int → Gm → Prop) (R : Int → Prop) (c : Int) (n : Nat) (hn : n ≤ 100000)
    (step : ∀ (i : Nat) (k : Int) Γ, i < n → J k Γ → ∃ v Γ', body (.int (i : Int)) Γ = .ok (some ⟨0, [], .int v⟩, Γ') ∧ R v ∧ J (k + c) Γ') : ∀ Γ k, J k Γ → ∃ (vs : List Int) (Γ' : Gm), compL body (rngD 0 n) [] true Γ = .ok (vs.map .int, true, Γ') ∧ vs.length = n ∧ (∀ v ∈ vs, R v) ∧ J (k + n * c) Γ' := fun Γ k h => by
  obtain ⟨xs, Γ', q1, vs, q2, q3, q4, q5⟩ := compL_inv (fun i acc Γ => ∃ vs : List Int, acc = vs.map .int ∧ vs.length = i ∧ (∀ v ∈ vs, R v) ∧ J (k + i * c) Γ) (rngD 0 n) (by rw [rngD_lenZ]; exact hn) (fun i d e acc Γ ⟨vs, h1, h2, h3, h4⟩ => by
    obtain ⟨e1, e2⟩ := rngD_getZ n 0 i d e
    rw [show (0 : Int) + i = i by omega] at e1
    subst e1
    obtain ⟨v, Γ', q1, q2, q3⟩ := step i _ Γ e2 h4
    refine ⟨by rw [h1]; simp [h2], .inl ⟨_, Γ', rfl, q1, vs ++ [v], by rw [h1, List.map_append]; rfl, by simp [h2], fun u hu => ?_, ?_⟩⟩
    · rcases List.mem_append.mp hu with z | z
      · exact h3 u z
      · rw [List.mem_singleton.mp z]; exact q2
    · have : k + ((i + 1 : Nat) : Int) * c = k + i * c + c := by
        rw [show ((i + 1 : Nat) : Int) = (i : Int) + 1 by omega, Int.add_mul]; omega
      rw [this]
      exact q3) Γ ⟨[], rfl, rfl, (fun _ z => nomatch z), by simpa using h⟩
  rw [rngD_lenZ] at q3 q5
  exact ⟨vs, Γ', by rw [q1, q2], q3, q4, q5⟩
/-- .. the same, by the count -/
theorem compL_rng {body : D → Gm → Res (Option W × Gm)} (J : Nat → Gm → Prop) (R : Int → Prop) (n : Nat) (hn : n ≤ 100000)
    (step : ∀ (i : Nat) Γ, i < n → J i Γ → ∃ v Γ', body (.int (i : Int)) Γ = .ok (some ⟨0, [], .int v⟩, Γ') ∧ R v ∧ J (i + 1) Γ') : ∀ Γ, J 0 Γ → ∃ (vs : List Int) (Γ' : Gm), compL body (rngD 0 n) [] true Γ = .ok (vs.map .int, true, Γ') ∧ vs.length = n ∧ (∀ v ∈ vs, R v) ∧ J n Γ' := fun Γ h => by
  obtain ⟨xs, Γ', q1, vs, q2, q3, q4, q5⟩ := compL_inv (fun i acc Γ => ∃ vs : List Int, acc = vs.map .int ∧ vs.length = i ∧ (∀ v ∈ vs, R v) ∧ J i Γ) (rngD 0 n) (by rw [rngD_lenZ]; exact hn) (fun i d e acc Γ ⟨vs, h1, h2, h3, h4⟩ => by
    obtain ⟨e1, e2⟩ := rngD_getZ n 0 i d e
    rw [show (0 : Int) + i = i by omega] at e1
    subst e1
    obtain ⟨v, Γ', q1, q2, q3⟩ := step i Γ e2 h4
    refine ⟨by rw [h1]; simp [h2], .inl ⟨_, Γ', rfl, q1, vs ++ [v], by rw [h1, List.map_append]; rfl, by simp [h2], fun u hu => ?_, q3⟩⟩
    rcases List.mem_append.mp hu with z | z
    · exact h3 u z
    · rw [List.mem_singleton.mp z]; exact q2) Γ ⟨[], rfl, rfl, (fun _ z => nomatch z), h⟩
  rw [rngD_lenZ] at q3 q5
  exact ⟨vs, Γ', by rw [q1, q2], q3, q4, q5⟩
/-- a while loop: m bounds the turns that are left -/
theorem whileL_inv {c : Gm → Res (Bool × Gm)} {body : Gm → Res Fl} (I : Nat → Gm → Prop) (Q : Gm → Prop)
    (step : ∀ m Γ, I m Γ → ∃ k Γ1, c Γ = .ok (k, Γ1) ∧ if k then ∃ m' Γ2, m' < m ∧ body Γ1 = .ok (.nx Γ2) ∧ I m' Γ2 else Q Γ1) : ∀ (n m : Nat) Γ, I m Γ → m < n → ∃ Γ', whileL c body n Γ = .ok (.nx Γ') ∧ Q Γ'
  | 0, _, _, _, h => by omega
  | n + 1, m, Γ, h, hn => by
    obtain ⟨k, Γ1, q1, q2⟩ := step m Γ h
    rw [whileL, q1, bind_ok]
    cases k with
    | false => exact ⟨Γ1, rfl, q2⟩
    | true =>
      obtain ⟨m', Γ2, q3, q4, q5⟩ := q2
      obtain ⟨Γ3, q6, q7⟩ := whileL_inv I Q step n m' Γ2 q5 (by omega)
      refine ⟨Γ3, ?_, q7⟩
      show ((body Γ1).bind _) = _
      rw [q4, bind_ok]
      exact q6
theorem ios_nil : ios [] = [] := rfl
theorem ios_val {w : W} {r : List Aw} : ios (.val w :: r) = ios r := rfl
theorem ios_io {i : Nat} {r : List Aw} : ios (.io i :: r) = i :: ios r := rfl
theorem ios_tmp {w : W} {r : List Aw} : ios (.tmp w :: r) = ios r := rfl
theorem wfuel_big : 500000 < wfuel := by unfold wfuel; omega
theorem o_notinT {l l' : Nat} {rs rs' : List Nat} {d : D} {xs : List D} (h : (scalD d && xs.all scalD) = true) : opv .notin [⟨l, rs, d⟩, ⟨l', rs', .tup xs⟩] = .ok ⟨0, [], .bl (!xs.any fun y => deqF y d)⟩ := if_pos h
theorem o_innT {l l' : Nat} {rs rs' : List Nat} {d : D} {xs : List D} (h : (scalD d && xs.all scalD) = true) : opv .inn [⟨l, rs, d⟩, ⟨l', rs', .tup xs⟩] = .ok ⟨0, [], .bl (xs.any fun y => deqF y d)⟩ := if_pos h
theorem o_ltT {l l' : Nat} {rs rs' : List Nat} {a b c e : Int} : opv .lt [⟨l, rs, .tup [.int a, .int b]⟩, ⟨l', rs', .tup [.int c, .int e]⟩] = .ok ⟨0, [], .bl (HT.lexLt [a, b] [c, e])⟩ := rfl
theorem lexLt2 {a b c e : Int} : HT.lexLt [a, b] [c, e] = (decide (a < c) || (decide (a = c) && decide (b < e))) := by
  rw [HT.lexLt_cons, HT.lexLt_cons, HT.lexLt_nil_nil]
  by_cases h2 : a = c
  · subst h2
    by_cases h3 : b = e
    · subst h3; simp
    · simp [h3]
  · simp [h2]
theorem maxL_ge : ∀ {xs : List Int} {y : Int}, y ∈ xs → y ≤ maxL xs
  | [x], y, h => by rw [List.mem_singleton.mp h]; exact Int.le_refl _
  | x :: z :: r, y, h => by
    show y ≤ max x (maxL (z :: r))
    rcases List.mem_cons.mp h with e | h
    · rw [e]; omega
    · have := maxL_ge h; omega
theorem maxL_mem : ∀ {xs : List Int}, xs ≠ [] → maxL xs ∈ xs
  | [x], _ => by simp [maxL]
  | x :: z :: r, _ => by
    show max x (maxL (z :: r)) ∈ _
    have := maxL_mem (xs := z :: r) (by simp)
    by_cases h : x ≤ maxL (z :: r)
    · rw [Int.max_eq_right h]; exact List.mem_cons_of_mem _ this
    · rw [Int.max_eq_left (by omega)]; exact List.mem_cons_self
theorem o_max1I {l : Nat} {rs : List Nat} {xs : List Int} (h : xs ≠ []) : opv .max1 [⟨l, rs, .lst (xs.map .int)⟩] = .ok ⟨0, [], .int (maxL xs)⟩ := by
  show (match intsD (xs.map .int) with
      | some (x :: r) => Res.ok (val (.int (maxL (x :: r))))
      | _ => Res.stuck) = _
  rw [intsD_map]
  cases xs with
  | nil => exact absurd rfl h
  | cons x r => rfl
theorem cut_hi {xs : List D} {j : Nat} : cutD xs none (some (j : Int)) = xs.take j := by
  unfold cutD
  rw [HT.sIx_nat, HT.sIx_none, List.drop_zero, Nat.sub_zero]
  by_cases h : j ≤ xs.length
  · rw [Nat.min_eq_left h]
  · rw [Nat.min_eq_right (by omega), List.take_of_length_le (Nat.le_refl _), List.take_of_length_le (by omega)]
theorem o_slHi {l l' : Nat} {rs rs' : List Nat} {xs : List D} {i : Int} : opv (.slice false true) [⟨l, rs, .lst xs⟩, ⟨l', rs', .int i⟩] = .ok (newL rs (cutD xs none (some i))) := rfl
theorem o_slLo {l l' : Nat} {rs rs' : List Nat} {xs : List D} {i : Int} : opv (.slice true false) [⟨l, rs, .lst xs⟩, ⟨l', rs', .int i⟩] = .ok (newL rs (cutD xs (some i) none)) := rfl
theorem o_slTHi {l l' : Nat} {rs rs' : List Nat} {xs : List D} {i : Int} (h : immAll xs = true) : opv (.slice false true) [⟨l, rs, .tup xs⟩, ⟨l', rs', .int i⟩] = .ok ⟨0, [], .tup (cutD xs none (some i))⟩ := (if_neg (show ¬ (immAll xs = true ∧ false = true ∧ true = false) from fun z => by cases z.2.1)).trans (if_pos ⟨h, rfl, rfl⟩)
theorem o_slTLo {l l' : Nat} {rs rs' : List Nat} {xs : List D} {i : Int} (h : immAll xs = true) : opv (.slice true false) [⟨l, rs, .tup xs⟩, ⟨l', rs', .int i⟩] = .ok ⟨0, [], .tup (cutD xs (some i) none)⟩ := if_pos ⟨h, rfl, rfl⟩
theorem o_slAll {l : Nat} {rs : List Nat} {xs : List D} : opv (.slice false false) [⟨l, rs, .lst xs⟩] = .ok (newL rs (cutD xs none none)) := rfl
/-! lists of ints -/
theorem at_int {xs : List Int} {i : Nat} {v : Int} (h : xs[i]? = some v) : atI (xs.map D.int) (i : Int) = some (.int v) := atI_nat (by rw [List.getElem?_map, h]; rfl)
theorem at_lst {xs : List D} {i : Nat} {v : D} (h : xs[i]? = some v) : atI xs (i : Int) = some v := atI_nat h
theorem set_map {xs : List Int} {i : Nat} {v : Int} : (xs.map D.int).set i (.int v) = (xs.set i v).map .int := by rw [List.map_set]
theorem zipD_getZ : ∀ {xs ys : List Int} {i : Nat} {d : D}, (zipD (xs.map .int) (ys.map .int))[i]? = some d → ∃ x y, xs[i]? = some x ∧ ys[i]? = some y ∧ d = .tup [.int x, .int y]
  | [], _, _, _, h => by simp [zipD] at h
  | _ :: _, [], _, _, h => by simp [zipD] at h
  | x :: xs, y :: ys, 0, d, h => by
    simp only [List.map_cons, zipD, List.getElem?_cons_zero] at h
    cases h
    exact ⟨x, y, rfl, rfl, rfl⟩
  | x :: xs, y :: ys, i + 1, d, h => by
    simp only [List.map_cons, zipD, List.getElem?_cons_succ] at h
    obtain ⟨a, b, e1, e2, e3⟩ := zipD_getZ (xs := xs) (ys := ys) (i := i) h
    exact ⟨a, b, by simpa using e1, by simpa using e2, e3⟩
theorem zipD_lenZ : ∀ {xs ys : List Int}, xs.length = ys.length → (zipD (xs.map .int) (ys.map .int)).length = xs.length
  | [], _, _ => by simp [zipD]
  | _ :: _, [], h => by simp at h
  | x :: xs, y :: ys, h => by
    simp only [List.map_cons, zipD, List.length_cons]
    rw [zipD_lenZ (by simpa using h)]
theorem enumD_getZ : ∀ {xs : List D} {k i : Nat} {d : D}, (enumD k xs)[i]? = some d → ∃ x, xs[i]? = some x ∧ d = .tup [.int ((k + i : Nat) : Int), x]
  | [], _, _, _, h => by simp [enumD] at h
  | x :: xs, k, 0, d, h => by
    simp only [enumD, List.getElem?_cons_zero] at h
    cases h
    exact ⟨x, rfl, rfl⟩
  | x :: xs, k, i + 1, d, h => by
    simp only [enumD, List.getElem?_cons_succ] at h
    obtain ⟨y, h1, h2⟩ := enumD_getZ h
    exact ⟨y, by simpa using h1, by rw [h2, show k + 1 + i = k + (i + 1) by omega]⟩
theorem enumD_lenZ : ∀ {xs : List D} {k : Nat}, (enumD k xs).length = xs.length
  | [], _ => rfl
  | x :: xs, k => by rw [enumD, List.length_cons, enumD_lenZ, List.length_cons]
theorem toPy_ints : ∀ xs : List Int, toPy.toPys (xs.map .int) = xs.map .int
  | [] => rfl
  | x :: xs => by
    rw [List.map_cons, toPy.toPys, toPy_ints xs]
    rfl
theorem canLay_ints : ∀ xs : List Int, PyData.canLayAll0 (xs.map PyData.int) = true
  | [] => by simp [PyData.canLayAll0]
  | x :: xs => by
    rw [List.map_cons]
    simp [PyData.canLayAll0, PyData.canLay0, canLay_ints xs]
theorem depth_ints : ∀ xs : List Int, PyData.depthAll (xs.map PyData.int) ≤ 1
  | [] => by simp [PyData.depthAll]
  | x :: xs => by
    rw [List.map_cons]
    have := depth_ints xs
    simp [PyData.depthAll, PyData.depth]
    omega
theorem pln_ints : ∀ xs : List Int, plnAll (xs.map .int) = true
  | [] => by unfold plnAll; rfl
  | x :: xs => by
    rw [List.map_cons, plnAll, pln_ints xs, pln, Bool.and_true]
    all_goals (intros; first | rfl | (rename_i h; cases h))
theorem okEq_ints {xs : List Int} : okEq (.lst (xs.map .int)) = true := by
  unfold okEq
  rw [show pln (.lst (xs.map .int)) = plnAll (xs.map .int) from by rw [pln], pln_ints, Bool.true_and]
  show SeqAt.shaped (.list (toPy.toPys (xs.map .int))) = true
  rw [toPy_ints]
  unfold SeqAt.shaped
  rw [Bool.and_eq_true, decide_eq_true_eq]
  have := depth_ints xs
  exact ⟨by simp [PyData.canLay0, canLay_ints xs], by simp [PyData.depth]; omega⟩
theorem lstK_5 {s : Slot} {Γ : Gm} {a b c e f : W} : lstK ([.val a, .val b, .val c, .val e, .val f], s :: Γ) = lst2 [a.d, b.d, c.d, e.d, f.d] [a, b, c, e, f] (s :: Γ) := rfl
theorem lstK_6 {s : Slot} {Γ : Gm} {a b c e f g : W} : lstK ([.val a, .val b, .val c, .val e, .val f, .val g], s :: Γ) = lst2 [a.d, b.d, c.d, e.d, f.d, g.d] [a, b, c, e, f, g] (s :: Γ) := rfl
theorem lstK_7 {Γ : Gm} {s : Slot} {a b c e f g h : W} : lstK ([.val a, .val b, .val c, .val e, .val f, .val g, .val h], s :: Γ) = lst2 [a.d, b.d, c.d, e.d, f.d, g.d, h.d] [a, b, c, e, f, g, h] (s :: Γ) := rfl
theorem lstK_8 {Γ : Gm} {s : Slot} {a b c e f g h i : W} : lstK ([.val a, .val b, .val c, .val e, .val f, .val g, .val h, .val i], s :: Γ) = lst2 [a.d, b.d, c.d, e.d, f.d, g.d, h.d, i.d] [a, b, c, e, f, g, h, i] (s :: Γ) := rfl
theorem list_ext_range {xs : List Int} {f : Nat → Int} {n : Nat} (h : xs.length = n) (h2 : ∀ i, i < n → xs[i]? = some (f i)) : (List.range n).map f = xs := by
  apply List.ext_getElem?
  intro i
  rw [List.getElem?_map]
  by_cases hi : i < n
  · rw [List.getElem?_range hi, h2 i hi]; rfl
  · rw [List.getElem?_eq_none (by simpa using hi), List.getElem?_eq_none (by omega)]; rfl
section
variable {l l' : Nat} {rs rs' : List Nat} {s : Slot} {Γ : Gm} {i : Nat} {C : Ctx} {x : E}
theorem o_addT {xs ys : List D} (h1 : immAll xs = true) (h2 : immAll ys = true) (h3 : xs.length + ys.length ≤ lim) : opv .add [⟨l, rs, .tup xs⟩, ⟨l', rs', .tup ys⟩] = Res.ok ⟨0, [], .tup (xs ++ ys)⟩ := if_pos (by rw [h1, h2, decide_eq_true h3]; rfl)
theorem o_addS {a b : Str} (h3 : a.length + b.length ≤ lim) : opv .add [⟨l, rs, .str a⟩, ⟨l', rs', .str b⟩] = Res.ok ⟨0, [], .str (a ++ b)⟩ := if_pos (by rw [decide_eq_true h3])
theorem o_repT {xs : List D} {k : Int} (h1 : immAll xs = true) (h2 : xs.isEmpty = false) (h3 : 2 ≤ k) (h4 : k ≤ 1000) (h5 : xs.length ≤ 1000) : opv .mul [⟨l, rs, .tup xs⟩, ⟨l', rs', .int k⟩] = Res.ok ⟨0, [], .tup (List.replicate k.toNat xs).flatten⟩ :=
  (if_neg (show ¬ (immAll xs = true ∧ k = 1) from fun z => by omega)).trans (if_pos ⟨h1, h2, h3, h4, h5⟩)
theorem o_repT1 {xs : List D} (h1 : immAll xs = true) : opv .mul [⟨l, rs, .tup xs⟩, ⟨l', rs', .int 1⟩] = Res.ok ⟨0, [], .tup xs⟩ := if_pos ⟨h1, rfl⟩
theorem o_rev {xs : List D} : opv .rev [⟨l, rs, .lst xs⟩] = Res.ok (newL rs xs.reverse) := rfl
theorem o_innL {d : D} {xs : List D} (h : (scalD d && xs.all scalD) = true) : opv .inn [⟨l, rs, d⟩, ⟨l', rs', .lst xs⟩] = Res.ok ⟨0, [], .bl (xs.any fun y => deqF y d)⟩ := if_pos h
theorem o_notinL {d : D} {xs : List D} (h : (scalD d && xs.all scalD) = true) : opv .notin [⟨l, rs, d⟩, ⟨l', rs', .lst xs⟩] = Res.ok ⟨0, [], .bl (!xs.any fun y => deqF y d)⟩ := if_pos h
theorem o_innD {ds : List D} {xs : List D} (h2 : okEq (.tup ds) = true) (h3 : okEq (.lst xs) = true) : opv .inn [⟨l, rs, .tup ds⟩, ⟨l', rs', .lst xs⟩] = Res.ok ⟨0, [], .bl (xs.any fun y => deq y (.tup ds))⟩ := by
  show (if (okEq (.tup ds) && okEq (.lst xs)) = true then Res.ok (val (.bl (xs.any fun y => deq y (.tup ds)))) else Res.stuck) = _
  rw [h2, h3]
  rfl
theorem o_notinD {ds : List D} {xs : List D} (h2 : okEq (.tup ds) = true) (h3 : okEq (.lst xs) = true) : opv .notin [⟨l, rs, .tup ds⟩, ⟨l', rs', .lst xs⟩] = Res.ok ⟨0, [], .bl (!xs.any fun y => deq y (.tup ds))⟩ := by
  show (if (okEq (.tup ds) && okEq (.lst xs)) = true then Res.ok (val (.bl (!xs.any fun y => deq y (.tup ds)))) else Res.stuck) = _
  rw [h2, h3]
  rfl
def ixSK (z : Str) : Option Nat → Res W
  | some c => if z.length ≤ lim then Res.ok (val (.str ⟨#[c]⟩)) else Res.stuck
  | none => Res.stuck
theorem o_ixStr {z : Str} {n : Int} : opv .ix [⟨l, rs, .str z⟩, ⟨l', rs', .int n⟩] = ixSK z (atI z.cps.toList n) := by
  show (match atI z.cps.toList n with
      | some c => if z.length ≤ lim then Res.ok (val (.str ⟨#[c]⟩)) else Res.stuck
      | none => Res.stuck) = _
  cases atI z.cps.toList n <;> rfl
theorem ixSK_ {z : Str} {c : Nat} (h : z.length ≤ lim) : ixSK z (some c) = Res.ok ⟨0, [], .str ⟨#[c]⟩⟩ := if_pos h
def joinK (z : Str) : Option (List Str) → Res W
  | some ys => if (ys.map (·.length)).sum + ys.length * z.length ≤ lim then Res.ok (val (.str (Txt.join z ys))) else Res.stuck
  | none => Res.stuck
theorem o_join {z : Str} {xs : List D} : opv (.join z) [⟨l, rs, .lst xs⟩] = joinK z (strsD xs) := by
  show (match strsD xs with
      | some ys => if (ys.map (fun y : Str => y.length)).sum + ys.length * z.length ≤ lim then Res.ok (val (.str (Txt.join z ys))) else Res.stuck
      | none => Res.stuck) = _
  cases strsD xs <;> rfl
theorem joinK_ {z : Str} {ys : List Str} (h : (ys.map (·.length)).sum + ys.length * z.length ≤ lim) : joinK z (some ys) = Res.ok ⟨0, [], .str (Txt.join z ys)⟩ := if_pos h
theorem o_tupM {xs : List D} (h : immAll xs = false) : opv .tuple [⟨8, [], .lst xs⟩] = Res.ok ⟨8, [], .tup xs⟩ :=
  (if_neg (show ¬ (immAll xs = true) by rw [h]; exact Bool.false_ne_true)).trans (if_pos (show dp8 ⟨8, [], .lst xs⟩ = true from rfl))
theorem o_tupV {xs : List D} (h : immAll xs = false) : opv .tuple [⟨0, rs, .lst xs⟩] = Res.ok ⟨0, rs, .tup xs⟩ :=
  (if_neg (show ¬ (immAll xs = true) by rw [h]; exact Bool.false_ne_true)).trans ((if_neg (show ¬ (dp8 ⟨0, rs, .lst xs⟩ = true) from fun z => by cases rs <;> cases z)).trans (if_pos rfl))
def revKS (i : Nat) (Γ : Gm) : Option Slot → Res Fl
  | some (some x) => match x.d with
      | .lst xs => if decide (1 ≤ x.l) && x.rs.isEmpty && immAll xs then Res.ok (.nx (kill [i] (Γ.set i (some ⟨8, [], .lst xs.reverse⟩)))) else Res.stuck
      | _ => Res.stuck
  | _ => Res.stuck
theorem x_rev : exS C (.rev i) (s :: Γ) = revKS i (s :: Γ) ((s :: Γ)[i]?) := by
  rw [exS]
  unfold rd revKS
  cases (s :: Γ)[i]? with
  | none => rfl
  | some t => cases t <;> rfl
theorem revKS_ {xs : List D} (h : immAll xs = true) : revKS i Γ (some (some ⟨8, [], .lst xs⟩)) = Res.ok (.nx (kill [i] (Γ.set i (some ⟨8, [], .lst xs.reverse⟩)))) := by
  unfold revKS
  exact if_pos (by show (true && true && immAll xs) = true; rw [h]; rfl)
def extK (i : Nat) (p : W × Gm) : Res Fl := match rd p.2 i, p.1.d with
      | some x, .lst ys => match x.d with
        | .lst xs => if decide (1 ≤ x.l) && x.rs.isEmpty && immAll xs && immAll ys && decide (xs.length + ys.length ≤ lim) then Res.ok (.nx (kill [i] (p.2.set i (some ⟨8, [], .lst (xs ++ ys)⟩)))) else Res.stuck
        | _ => Res.stuck
      | _, _ => Res.stuck
def extP (C : Ctx) (i : Nat) (e : E) (Γ : Gm) : Option Slot → Res Fl
  | some (some ⟨_, _, .lst _⟩) => (ev C e Γ).bind (extK i)
  | _ => Res.stuck
theorem x_extend : exS C (.extend i x) (s :: Γ) = extP C i x (s :: Γ) ((s :: Γ)[i]?) := by
  rw [exS]
  unfold rd
  cases (s :: Γ)[i]? with
  | none => rfl
  | some t =>
    cases t with
    | none => rfl
    | some w => obtain ⟨l, rs, d⟩ := w; cases d <;> rfl
theorem extP_ {xs : List D} : extP C i x Γ (some (some ⟨l, rs, .lst xs⟩)) = (ev C x Γ).bind (extK i) := rfl
def extK2 (i : Nat) (ys : List D) (Γ : Gm) : Option Slot → Res Fl
  | some (some x) => match x.d with
        | .lst xs => if decide (1 ≤ x.l) && x.rs.isEmpty && immAll xs && immAll ys && decide (xs.length + ys.length ≤ lim) then Res.ok (.nx (kill [i] (Γ.set i (some ⟨8, [], .lst (xs ++ ys)⟩)))) else Res.stuck
        | _ => Res.stuck
  | _ => Res.stuck
theorem extK_ {ys : List D} : extK i (⟨l, rs, .lst ys⟩, s :: Γ) = extK2 i ys (s :: Γ) ((s :: Γ)[i]?) := by
  unfold extK extK2 rd
  show (match (match (s :: Γ)[i]? with
  | some (some w) => some w
  | _ => none), D.lst ys with
    | some x, .lst ys => _
    | _, _ => _) = _
  cases (s :: Γ)[i]? with
  | none => rfl
  | some t => cases t <;> rfl
theorem extK2_ {xs ys : List D} (h1 : immAll xs = true) (h2 : immAll ys = true) (h3 : xs.length + ys.length ≤ lim) : extK2 i ys Γ (some (some ⟨8, [], .lst xs⟩)) = Res.ok (.nx (kill [i] (Γ.set i (some ⟨8, [], .lst (xs ++ ys)⟩)))) := by
  unfold extK2
  exact if_pos (by show (true && true && immAll xs && immAll ys && decide (xs.length + ys.length ≤ lim)) = true; rw [h1, h2, decide_eq_true h3]; rfl)
end
theorem deep_z {rs : List Nat} {d : D} : deep ⟨0, rs, d⟩ = imm d := by
  unfold deep
  cases imm d <;> cases rs <;> rfl
/-! data that == looks at -/
def okK (k : Nat) (d : D) : Prop := pln d = true ∧ (toPy d).canLay0 = true ∧ (toPy d).depth ≤ k
theorem okK_up {k k' : Nat} {d : D} (h : okK k d) (e : k ≤ k') : okK k' d := ⟨h.1, h.2.1, Nat.le_trans h.2.2 e⟩
theorem okK_int {i : Int} : okK 1 (.int i) := ⟨by unfold pln; rfl, rfl, by show PyData.depth (.int i) ≤ 1; simp [PyData.depth]⟩
theorem okK_bl {i : Bool} : okK 1 (.bl i) := ⟨by unfold pln; rfl, rfl, by show PyData.depth (.bool i) ≤ 1; simp [PyData.depth]⟩
theorem okK_non : okK 1 .non := ⟨by unfold pln; rfl, rfl, by show PyData.depth .none ≤ 1; simp [PyData.depth]⟩
theorem okK_str {x : Str} (h : (PyData.str x).canLay0 = true) : okK 1 (.str x) := ⟨by unfold pln; rfl, h, by show PyData.depth (.str x) ≤ 1; simp [PyData.depth]⟩
theorem okK_all {k : Nat} : ∀ {xs : List D}, (∀ x ∈ xs, okK k x) → plnAll xs = true ∧ PyData.canLayAll0 (toPy.toPys xs) = true ∧ PyData.depthAll (toPy.toPys xs) ≤ k
  | [], _ => ⟨by unfold plnAll; rfl, by show PyData.canLayAll0 [] = true; simp [PyData.canLayAll0], by show PyData.depthAll [] ≤ k; simp [PyData.depthAll]⟩
  | x :: xs, h => by
    obtain ⟨a1, a2, a3⟩ := h x List.mem_cons_self
    obtain ⟨b1, b2, b3⟩ := okK_all (xs := xs) fun y hy => h y (List.mem_cons_of_mem _ hy)
    refine ⟨by unfold plnAll; rw [a1, b1]; rfl, ?_, ?_⟩
    · show PyData.canLayAll0 (toPy x :: toPy.toPys xs) = true
      simp [PyData.canLayAll0, a2, b2]
    · show PyData.depthAll (toPy x :: toPy.toPys xs) ≤ k
      simp [PyData.depthAll]
      omega
theorem okK_tup {k : Nat} {xs : List D} (h : ∀ x ∈ xs, okK k x) : okK (k + 1) (.tup xs) := by
  obtain ⟨b1, b2, b3⟩ := okK_all h
  refine ⟨by unfold pln; exact b1, ?_, ?_⟩
  · show PyData.canLay0 (.tuple (toPy.toPys xs)) = true
    simp [PyData.canLay0, b2]
  · show PyData.depth (.tuple (toPy.toPys xs)) ≤ k + 1
    simp [PyData.depth]
    omega
theorem okK_lst {k : Nat} {xs : List D} (h : ∀ x ∈ xs, okK k x) : okK (k + 1) (.lst xs) := by
  obtain ⟨b1, b2, b3⟩ := okK_all h
  refine ⟨by unfold pln; exact b1, ?_, ?_⟩
  · show PyData.canLay0 (.list (toPy.toPys xs)) = true
    simp [PyData.canLay0, b2]
  · show PyData.depth (.list (toPy.toPys xs)) ≤ k + 1
    simp [PyData.depth]
    omega
theorem okEq_K {k : Nat} {d : D} (h : okK k d) (hk : k ≤ 64) : okEq d = true := by
  unfold okEq SeqAt.shaped
  rw [h.1, h.2.1, decide_eq_true (Nat.le_trans h.2.2 hk)]
  rfl
theorem deq_self {k : Nat} {d : D} (h : okK k d) : deq d d = true := SeqAt.eqv_refl _ h.2.1
section
variable {s : Slot} {Γ : Gm} {i l : Nat} {rs : List Nat} {d z : D}
theorem arss_nil : arss [] = [] := rfl
theorem arss_z {r : List Aw} : arss (.val ⟨l, [], d⟩ :: r) = arss r := by
  show (if imm d then [] else []) ++ arss r = arss r
  cases imm d <;> rfl
theorem arss_see {r : List Aw} (h : imm d = false) : arss (.val ⟨l, rs, d⟩ :: r) = rs ++ arss r := by
  show (if imm d then [] else rs) ++ arss r = _
  rw [h]; rfl
theorem arss_io {r : List Aw} : arss (.io i :: r) = arss r := rfl
theorem arss_tmp {r : List Aw} {w : W} : arss (.tmp w :: r) = arss r := rfl
theorem kill1_e : kill1 [] s = s := by
  cases s with
  | none => rfl
  | some w => exact kill1_keep (by simp)
theorem ixK_z : ixK ⟨0, [], z⟩ (some d) = Res.ok ⟨0, [], d⟩ := by
  cases h : imm d
  · exact ixK_see h
  · exact ixK_imm h
theorem vw_z : vw i ⟨0, [], d⟩ = ⟨0, [], d⟩ := by
  unfold vw val
  cases h : imm d <;> rfl
theorem setTW_z {is : List Nat} {ds : List D} : setTW (i :: is) (d :: ds) 0 Γ = setTW is ds 0 (Γ.set i (some ⟨0, [], d⟩)) := by
  cases h : imm d
  · exact setTW_own h
  · exact setTW_imm h
theorem compL_n {body : D → Gm → Res (Option W × Gm)} {acc : List D} {k : Bool} : compL body [] acc k Γ = Res.ok (acc, k, Γ) := by rw [compL]
def compX (body : D → Gm → Res (Option W × Gm)) (ds acc : List D) (k : Bool) (p : Option W × Gm) : Res (List D × Bool × Gm) := match p.1 with
    | some w => if acc.length < lim then compL body ds (acc ++ [w.d]) (k && deep w) (stl w p.2).2 else Res.stuck
    | none => compL body ds acc k p.2
theorem compL_c {body : D → Gm → Res (Option W × Gm)} {ds acc : List D} {k : Bool} : compL body (d :: ds) acc k Γ = (noExc (body d Γ)).bind (compX body ds acc k) := by
  rw [compL]
  congr 1
theorem noExc_ok {α : Type} {a : α} : noExc (Res.ok a) = Res.ok a := rfl
theorem compX_none {body : D → Gm → Res (Option W × Gm)} {ds acc : List D} {k : Bool} : compX body ds acc k (none, s :: Γ) = compL body ds acc k (s :: Γ) := rfl
theorem compX_imm {body : D → Gm → Res (Option W × Gm)} {ds acc : List D} (h : imm d = true) (h2 : acc.length < lim) : compX body ds acc true (some ⟨l, rs, d⟩, s :: Γ) = compL body ds (acc ++ [d]) true (s :: Γ) := by
  unfold compX
  show (if acc.length < lim then compL body ds (acc ++ [d]) (true && deep ⟨l, rs, d⟩) (stl ⟨l, rs, d⟩ (s :: Γ)).2 else Res.stuck) = _
  rw [if_pos h2, deep_imm h]
  unfold stl
  rw [if_pos h]
  rfl
theorem rngD_3 : rngD 0 3 = [.int 0, .int 1, .int 2] := rfl
theorem rngD_4 : rngD 0 4 = [.int 0, .int 1, .int 2, .int 3] := rfl
theorem toNat4 : Int.toNat 4 = 4 := id rfl
theorem lst2_see {ds : List D} {ws : List W} (h2 : ws.all deep = false) : lst2 ds ws Γ = Res.ok (⟨1, [], .lst ds⟩, (stls ws Γ).2) := if_neg (by rw [h2]; exact Bool.false_ne_true)
theorem stls_nil : (stls [] Γ).2 = Γ := rfl
theorem stls_cons {w : W} {ws : List W} : (stls (w :: ws) Γ).2 = (stls ws (stl w Γ).2).2 := rfl
theorem stl_i (h : imm d = true) : (stl ⟨l, rs, d⟩ Γ).2 = Γ := by unfold stl; rw [if_pos h]
theorem stl_s (h : imm d = false) : (stl ⟨l, rs, d⟩ Γ).2 = freeze rs Γ := by unfold stl; rw [if_neg (by rw [h]; exact Bool.false_ne_true)]
theorem compX_immk {body : D → Gm → Res (Option W × Gm)} {ds acc : List D} (h : imm d = true) (h2 : acc.length < lim) : compX body ds acc false (some ⟨l, rs, d⟩, s :: Γ) = compL body ds (acc ++ [d]) false (s :: Γ) := by
  unfold compX
  show (if acc.length < lim then compL body ds (acc ++ [d]) (false && deep ⟨l, rs, d⟩) (stl ⟨l, rs, d⟩ (s :: Γ)).2 else Res.stuck) = _
  rw [if_pos h2, stl_i h, Bool.false_and]
theorem compX_see {body : D → Gm → Res (Option W × Gm)} {ds acc : List D} {k : Bool} (h : imm d = false) (h2 : acc.length < lim) : compX body ds acc k (some ⟨0, rs, d⟩, s :: Γ) = compL body ds (acc ++ [d]) false (freeze rs (s :: Γ)) := by
  unfold compX
  show (if acc.length < lim then compL body ds (acc ++ [d]) (k && deep ⟨0, rs, d⟩) (stl ⟨0, rs, d⟩ (s :: Γ)).2 else Res.stuck) = _
  rw [if_pos h2, stl_s h, deep_z, h, Bool.and_false]
theorem inG_1 {xs : List D} : inG i 1 xs ⟨l, rs, d⟩ (s :: Γ) = Res.ok (.nx (kill [i] ((stl ⟨l, rs, d⟩ (s :: Γ)).2.set i (some ⟨1, [], .lst xs⟩)))) := by
  unfold inG
  exact if_neg (by simp)
theorem compE_f {vs : List Nat} {Γ1 : Gm} {xs : List D} : compE vs Γ1 (xs, false, s :: Γ) = Res.ok (⟨1, [], .lst xs⟩, backG vs Γ1 (s :: Γ)) := rfl
theorem o_min1I {l : Nat} {rs : List Nat} {xs : List Int} (h : xs ≠ []) : opv .min1 [⟨l, rs, .lst (xs.map .int)⟩] = .ok ⟨0, [], .int (minL xs)⟩ := by
  show (match intsD (xs.map .int) with
      | some (x :: r) => Res.ok (val (.int (minL (x :: r))))
      | _ => Res.stuck) = _
  rw [intsD_map]
  cases xs with
  | nil => exact absurd rfl h
  | cons x r => rfl
theorem minL_lt : ∀ {xs : List Int} {b : Int}, xs ≠ [] → (minL xs < b ↔ ∃ x ∈ xs, x < b)
  | [], _, h => absurd rfl h
  | [x], b, _ => by
    show x < b ↔ _
    simp
  | x :: y :: r, b, _ => by
    have ih := minL_lt (xs := y :: r) (b := b) (by simp)
    show min x (minL (y :: r)) < b ↔ _
    rw [show (min x (minL (y :: r)) < b) ↔ (x < b ∨ minL (y :: r) < b) by omega, ih]
    simp only [List.mem_cons, exists_eq_or_imp]
theorem any_ints {xs : List Int} {v : Int} : ((xs.map D.int).any fun y => deqF y (.int v)) = decide (v ∈ xs) := by
  rw [List.any_map]
  induction xs with
  | nil => rfl
  | cons x r ih =>
    rw [List.any_cons, ih]
    show ((x == v) || decide (v ∈ r)) = _
    by_cases h : x = v
    · subst h; simp
    · have h1 : (x == v) = false := by simpa using h
      have h2 : (v ∈ x :: r) ↔ v ∈ r := by simp [Ne.symm h]
      rw [h1, Bool.false_or]
      by_cases h3 : v ∈ r
      · rw [decide_eq_true h3, decide_eq_true (h2.mpr h3)]
      · rw [decide_eq_false h3, decide_eq_false fun z => h3 (h2.mp z)]
theorem scal_ints {xs : List Int} {v : Int} : (scalD (.int v) && (xs.map D.int).all scalD) = true := by
  rw [List.all_map]
  show (List.all _ _) = true
  rw [List.all_eq_true]
  intro x _
  rfl
theorem resW_ex (r : D) : ∃ l, resW r = ⟨l, [], r⟩ ∧ deep ⟨l, [], r⟩ = true := by
  unfold resW
  cases h : imm r
  · exact ⟨8, rfl, deep_8⟩
  · exact ⟨0, rfl, deep_imm h⟩
/-! ### dicts -/
theorem imm_dct {t : Bool} {ks : List (List Key)} {xs : List D} : imm (.dct t ks xs) = false := by unfold imm; rfl
section
variable {ks : List (List Key)} {x : Str} {n : Int}
theorem o_ixDi : opv .ix [⟨l, rs, .dct false ks xs⟩, ⟨l', rs', .int n⟩] = ixK ⟨l, rs, .dct false ks xs⟩ (dget ks xs (.inl n)) := by
  show (match dget ks xs (.inl n) with
      | some d => if imm d then Res.ok (val d) else if l = 0 then Res.ok ⟨0, rs, d⟩ else Res.stuck
      | none => Res.stuck) = _
  cases dget ks xs (.inl n) <;> rfl
theorem o_ixDs : opv .ix [⟨l, rs, .dct false ks xs⟩, ⟨l', rs', .str x⟩] = ixK ⟨l, rs, .dct false ks xs⟩ (dget ks xs (.inr x)) := by
  show (match dget ks xs (.inr x) with
      | some d => if imm d then Res.ok (val d) else if l = 0 then Res.ok ⟨0, rs, d⟩ else Res.stuck
      | none => Res.stuck) = _
  cases dget ks xs (.inr x) <;> rfl
theorem o_innKi : opv .inn [⟨l', rs', .int n⟩, ⟨l, rs, .dct false ks xs⟩] = Res.ok ⟨0, [], .bl ((dget ks xs (.inl n)).isSome)⟩ := rfl
theorem o_innKs : opv .inn [⟨l', rs', .str x⟩, ⟨l, rs, .dct false ks xs⟩] = Res.ok ⟨0, [], .bl ((dget ks xs (.inr x)).isSome)⟩ := rfl
theorem o_notinKi : opv .notin [⟨l', rs', .int n⟩, ⟨l, rs, .dct false ks xs⟩] = Res.ok ⟨0, [], .bl (!(dget ks xs (.inl n)).isSome)⟩ := rfl
theorem o_notinKs : opv .notin [⟨l', rs', .str x⟩, ⟨l, rs, .dct false ks xs⟩] = Res.ok ⟨0, [], .bl (!(dget ks xs (.inr x)).isSome)⟩ := rfl
theorem o_lenD (h : ks.length = xs.length) : opv .len [⟨l, rs, .dct false ks xs⟩] = Res.ok ⟨0, [], .int xs.length⟩ := if_pos h
theorem o_dict : opv .dict [⟨l, rs, .dct false ks xs⟩] = Res.ok (newDc rs ks xs) := rfl
theorem newDc_imm (h : immAll xs = true) : newDc rs ks xs = ⟨8, [], .dct false ks xs⟩ := if_pos h
theorem newDc_see (h : immAll xs = false) : newDc rs ks xs = ⟨1, rs, .dct false ks xs⟩ := if_neg (by rw [h]; exact Bool.false_ne_true)
variable {C : Ctx} {y z u : E} {s : Slot} {Γ : Gm} {w : W} {d : D} {t : Bool}
def get1K2 (b : E) (w : W) (ks : List (List Key)) (xs : List D) (p : W × Gm) : Res (W × Gm) := match keyD p.1.d with
  | some k => if hold w (mutE b) then getV w (dget ks xs k) (val .non) p.2 else Res.stuck
  | none => Res.stuck
def get1K (C : Ctx) (b : E) (p : W × Gm) : Res (W × Gm) := match p.1.d with
  | .dct false ks xs => (ev C b p.2).bind (get1K2 b p.1 ks xs)
  | _ => Res.stuck
theorem e_get1 : ev C (.get1 y z) (s :: Γ) = (ev C y (s :: Γ)).bind (get1K C z) := by rw [ev] <;> rfl
theorem get1K_ : get1K C z (⟨l, rs, .dct false ks xs⟩, s :: Γ) = (ev C z (s :: Γ)).bind (get1K2 z ⟨l, rs, .dct false ks xs⟩ ks xs) := rfl
theorem get1K2_i (h : hold ⟨l, rs, d⟩ (mutE z) = true) : get1K2 z ⟨l, rs, d⟩ ks xs (⟨l', rs', .int n⟩, s :: Γ) = getV ⟨l, rs, d⟩ (dget ks xs (.inl n)) (val .non) (s :: Γ) := if_pos h
theorem get1K2_s (h : hold ⟨l, rs, d⟩ (mutE z) = true) : get1K2 z ⟨l, rs, d⟩ ks xs (⟨l', rs', .str x⟩, s :: Γ) = getV ⟨l, rs, d⟩ (dget ks xs (.inr x)) (val .non) (s :: Γ) := if_pos h
def get2K3 (b c : E) (w : W) (ks : List (List Key)) (xs : List D) (k : Key) (p : W × Gm) : Res (W × Gm) := if hold w (mutE b ++ mutE c) then getV w (dget ks xs k) p.1 p.2 else Res.stuck
def get2K2 (C : Ctx) (b c : E) (w : W) (ks : List (List Key)) (xs : List D) (p : W × Gm) : Res (W × Gm) := match keyD p.1.d with
  | some k => (ev C c p.2).bind (get2K3 b c w ks xs k)
  | none => Res.stuck
def get2K (C : Ctx) (b c : E) (p : W × Gm) : Res (W × Gm) := match p.1.d with
  | .dct false ks xs => (ev C b p.2).bind (get2K2 C b c p.1 ks xs)
  | _ => Res.stuck
theorem e_get2 : ev C (.get2 y z u) (s :: Γ) = (ev C y (s :: Γ)).bind (get2K C z u) := by rw [ev] <;> rfl
theorem get2K_ : get2K C z u (⟨l, rs, .dct false ks xs⟩, s :: Γ) = (ev C z (s :: Γ)).bind (get2K2 C z u ⟨l, rs, .dct false ks xs⟩ ks xs) := rfl
theorem get2K2_i : get2K2 C z u w ks xs (⟨l', rs', .int n⟩, s :: Γ) = (ev C u (s :: Γ)).bind (get2K3 z u w ks xs (.inl n)) := rfl
theorem get2K2_s : get2K2 C z u w ks xs (⟨l', rs', .str x⟩, s :: Γ) = (ev C u (s :: Γ)).bind (get2K3 z u w ks xs (.inr x)) := rfl
theorem get2K3_ {k : Key} {w2 : W} (h : hold ⟨l, rs, d⟩ (mutE z ++ mutE u) = true) : get2K3 z u ⟨l, rs, d⟩ ks xs k (w2, s :: Γ) = getV ⟨l, rs, d⟩ (dget ks xs k) w2 (s :: Γ) := if_pos h
theorem getV_n {c : D} (h : imm c = true) : getV w none ⟨l, rs, c⟩ Γ = Res.ok (⟨0, [], c⟩, Γ) := if_pos h
theorem getV_i {c : W} (h : imm d = true) : getV w (some d) c Γ = Res.ok (⟨0, [], d⟩, Γ) := if_pos h
theorem getV_s {c : W} {d2 : D} (h : imm d = false) : getV ⟨0, rs, d2⟩ (some d) c Γ = Res.ok (⟨0, rs, d⟩, Γ) := (if_neg (by rw [h]; exact Bool.false_ne_true)).trans rfl
def dnewK (t : Bool) (ks : List Str) (p : List Aw × Gm) : Res (W × Gm) := match avals p.1 with
  | some xs => if t = false ∧ ks.Nodup ∧ ks.length = xs.length ∧ ks.length ≤ 15 ∧ xs.all deep then Res.ok (⟨8, [], .dct false (ks.map fun k => [.inr k]) (xs.map (·.d))⟩, p.2) else Res.stuck
  | none => Res.stuck
theorem e_dnew {ks : List Str} {es : Es} : ev C (.dnew t ks es) (s :: Γ) = (evs C es (s :: Γ)).bind (dnewK t ks) := by rw [ev] <;> rfl
theorem dnewK_ {ks : List Str} {ws : List Aw} {us : List W} (h : avals ws = some us) (h1 : ks.Nodup ∧ ks.length = us.length ∧ ks.length ≤ 15) (h2 : us.all deep = true) : dnewK false ks (ws, s :: Γ) = Res.ok (⟨8, [], .dct false (ks.map fun k => [.inr k]) (us.map (·.d))⟩, s :: Γ) := by
  unfold dnewK
  simp only [h]
  exact if_pos ⟨trivial, h1.1, h1.2.1, h1.2.2, h2⟩
theorem dnewK_0 : dnewK false [] ([], s :: Γ) = Res.ok (⟨8, [], .dct false [] []⟩, s :: Γ) := dnewK_ (us := []) rfl ⟨List.nodup_nil, rfl, by decide⟩ rfl
theorem t_get1 : evT C (.get1 y z) Γ = (ev C (.get1 y z) Γ).bind truK := by rw [evT] <;> first | rfl | (intros; rename_i h; cases h)
end
end
end Own

end
section
set_option maxHeartbeats 1000000
namespace Own
open PySem PySem.Spec L2

/-! ### the text -/
/-- names: the slots', the defs', the constants', the classes' -/
structure Nm where
  N : List Str
  fn : Nat → Option Str
  gl : Nat → Option Str
  /-- the error classes that are asked for -/
  cl : List Str
  /-- those that are raised, each with its field -/
  rz : List (Str × Str)
def kindB (sc : Scope) (x : Str) (k : NameKind) : Bool := match sc.names.lookup x with
  | some k' => k' == k
  | none => false
def glB (sc : Scope) (x : Str) : Bool := kindB sc x .globalImplicit && !(x == ("__debug__" : Str)) && !(x == ("__name__" : Str))
def visB (sc : Scope) (x : Str) : Bool := (kindB sc x .local || kindB sc x .cell || kindB sc x .free) && !(x == ("__debug__" : Str)) && !(x == ("__classdict__" : Str))
def locB (sc : Scope) (x : Str) : Bool := kindB sc x .local || kindB sc x .cell
/-- the name in slot i, to be read -/
def slotB (N : List Str) (sc : Scope) (i : Nat) (x : Str) : Bool := decide (N[i]? = some x) && visB sc x
def glName (sc : Scope) (o : Option Str) (x : Str) : Bool := decide (o = some x) && glB sc x
def bltB (sc : Scope) (nm x : Str) : Bool := decide (x = nm) && glB sc x
def tyName : Ty → Str
  | .int => "int" | .bool => "bool" | .str => "str" | .list => "list" | .tuple => "tuple" | .dict => "dict"
def notSlice : Expr → Bool
  | .Slice _ _ _ _ => false
  | _ => true
/-- how an operation is written -/
inductive Cat where
  | bin (p : Operator) | cmp (p : CmpOp) | blt (nm : Str) (k : Nat) | neg | isN (p : CmpOp) | isB (p : CmpOp) (b : Bool) | ix | slice (lo hi : Bool) | rev | join (z : Str) | isi (t : Ty) | isE (y : Str) | isV | fld (f : Str)
def cat : Op → Cat
  | .add => .bin .Add
  | .sub => .bin .Sub
  | .mul => .bin .Mult
  | .fdiv => .bin .FloorDiv
  | .mod => .bin .Mod
  | .pow => .bin .Pow
  | .neg => .neg
  | .eq => .cmp .Eq
  | .ne => .cmp .NotEq
  | .lt => .cmp .Lt
  | .le => .cmp .LtE
  | .gt => .cmp .Gt
  | .ge => .cmp .GtE
  | .inn => .cmp .In
  | .notin => .cmp .NotIn
  | .isN => .isN .Is
  | .notN => .isN .IsNot
  | .isB b => .isB .Is b
  | .notB b => .isB .IsNot b
  | .ix => .ix
  | .len => .blt "len" 1
  | .abs => .blt "abs" 1
  | .int => .blt "int" 1
  | .max2 => .blt "max" 2
  | .min2 => .blt "min" 2
  | .max1 => .blt "max" 1
  | .min1 => .blt "min" 1
  | .sum => .blt "sum" 1
  | .list => .blt "list" 1
  | .tuple => .blt "tuple" 1
  | .sorted => .blt "sorted" 1
  | .isi t => .isi t
  | .isE y => .isE y
  | .isV => .isV
  | .fld f => .fld f
  | .slice lo hi => .slice lo hi
  | .rev => .rev
  | .join z => .join z
  | .dict => .blt "dict" 1
def binAst (p : Operator) : Expr → Option (List Expr)
  | .BinOp a q b _ => if p = q then some [a, b] else none
  | _ => none
def cmpAst (p : CmpOp) : Expr → Option (List Expr)
  | .Compare a [q] [b] _ => if p = q ∧ behindInMarks p b = false then some [a, b] else none
  | _ => none
def bltAst (sc : Scope) (nm : Str) (k : Nat) : Expr → Option (List Expr)
  | .Call (.Name x _) (a :: as) [] _ => if bltB sc nm x = true ∧ as.length + 1 = k then some (a :: as) else none
  | _ => none
def negAst : Expr → Option (List Expr)
  | .UnaryOp .USub a _ => some [a]
  | _ => none
def isNAst (p : CmpOp) : Expr → Option (List Expr)
  | .Compare a [q] [.Constant .none _ _] _ => if p = q then some [a] else none
  | _ => none
def isBAst (p : CmpOp) (b : Bool) : Expr → Option (List Expr)
  | .Compare a [q] [.Constant (.bool c) _ _] _ => if p = q ∧ b = c then some [a] else none
  | _ => none
def ixAst : Expr → Option (List Expr)
  | .Subscript a b _ => if notSlice b then some [a, b] else none
  | _ => none
def sliceAst (lo hi : Bool) : Expr → Option (List Expr)
  | .Subscript a (.Slice none none none _) _ => if lo = false ∧ hi = false then some [a] else none
  | .Subscript a (.Slice (some x) none none _) _ => if lo = true ∧ hi = false then some [a, x] else none
  | .Subscript a (.Slice none (some y) none _) _ => if lo = false ∧ hi = true then some [a, y] else none
  | _ => none
def revAst : Expr → Option (List Expr)
  | .Subscript a (.Slice none none (some (.UnaryOp .USub (.Constant (.int 1) _ _) _)) _) _ => some [a]
  | _ => none
def joinAst (y : Str) : Expr → Option (List Expr)
  | .Call (.Attribute (.Constant (.str z) k p) f ap) [a] [] cp => if y = z ∧ f = ("join" : Str) ∧ (ap.endLine == cp.line) = true then some [a] else none
  | _ => none
/-- a name, a part of something -/
def baseB : Expr → Bool
  | .Name _ _ => true
  | .Subscript _ _ _ => true
  | _ => false
def keysB : List Str → List (Option Expr) → Bool
  | [], [] => true
  | k :: ks, some (.Constant (.str z) _ _) :: xs => decide (k = z) && keysB ks xs
  | _, _ => false
def isiAst (sc : Scope) (t : Ty) : Expr → Option (List Expr)
  | .Call (.Name x _) [a, .Name y _] [] _ => if bltB sc "isinstance" x = true ∧ bltB sc (tyName t) y = true then some [a] else none
  | _ => none
def isEAst (sc : Scope) (c : Str) : Expr → Option (List Expr)
  | .Call (.Name x _) [a, .Name y _] [] _ => if bltB sc "isinstance" x = true ∧ y = c ∧ glB sc y = true then some [a] else none
  | _ => none
def isVAst (sc : Scope) : Expr → Option (List Expr)
  | .Call (.Name x _) [a, .Name y _] [] _ => if bltB sc "isinstance" x = true ∧ bltB sc "ValueError" y = true then some [a] else none
  | _ => none
def fldAst (f : Str) : Expr → Option (List Expr)
  | .Attribute (.Name x p) g _ => if g = f then some [.Name x p] else none
  | _ => none
/-- the arguments of an operation, as they stand in the text -/
def catAst (sc : Scope) : Cat → Expr → Option (List Expr)
  | .bin p => binAst p
  | .cmp p => cmpAst p
  | .blt nm k => bltAst sc nm k
  | .neg => negAst
  | .isN p => isNAst p
  | .isB p b => isBAst p b
  | .ix => ixAst
  | .slice lo hi => sliceAst lo hi
  | .rev => revAst
  | .join z => joinAst z
  | .isi t => isiAst sc t
  | .isE c => isEAst sc c
  | .isV => isVAst sc
  | .fld f => fldAst f
def opAst (sc : Scope) (o : Op) (e : Expr) : Option (List Expr) := catAst sc (cat o) e
def copOf : Op → Option CmpOp
  | .lt => some .Lt
  | .le => some .LtE
  | .gt => some .Gt
  | .ge => some .GtE
  | _ => none
def chkTgs (N : List Str) (loc : Str → Bool) : List Nat → List Expr → Bool
  | [], [] => true
  | i :: is, .Name x _ :: es => decide (N[i]? = some x) && loc x && chkTgs N loc is es
  | _, _ => false
def chkTg (N : List Str) (loc : Str → Bool) : Tg → Expr → Bool
  | .one i, .Name x _ => decide (N[i]? = some x) && loc x
  | .tup is, .Tuple es _ _ => chkTgs N loc is es
  | _, _ => false
/-- the slots of a comprehension's own names -/
def ownOf (N : List Str) (vs : List Nat) : List (Str × Nat) := vs.map fun i => (N.getD i "", i)
def tgLocal (scope : Scope) : Expr → Bool
  | .Name x _ => (kindB scope x .local || kindB scope x .cell)
  | .Tuple es _ _ => es.all fun e => match e with
    | .Name x _ => (kindB scope x .local || kindB scope x .cell)
    | _ => false
  | _ => false

/-- a name that a comprehension may bind: a local of its block, or a cell of it -/
def blkLoc (scope sc : Scope) (y : Str) : Bool := kindB (relS scope sc) y .local || (kindB scope y .cell && kindB (relS scope sc) y .cell)
/-- enumerate, zip go with a tuple of targets -/
def tgFit : Tg → Src → Bool
  | .tup _, _ => true
  | .one _, .enum _ => false
  | .one _, .zip _ _ => false
  | .one _, .zip3 _ _ _ => false
  | .one _, _ => true

def clB (m : Nm) : Op → Bool
  | .isE y => decide (y ∈ m.cl)
  | _ => true
mutual
def chkE (m : Nm) (sc : Scope) : E → Expr → Bool
  | .int i, .Constant (.int j) _ _ => decide (i = j)
  | .bl b, .Constant (.bool c) _ _ => b == c
  | .non, .Constant .none _ _ => true
  | .str x, .Constant (.str y) _ _ => decide (x = y)
  | .loc i, .Name x _ => slotB m.N sc i x
  | .mv i, .Name x _ => slotB m.N sc i x
  | .glb g, .Name x _ => glName sc (m.gl g) x
  | .op o es, e => clB m o && (match opAst sc o e with
    | some xs => chkEs m sc es xs
    | none => false)
  | .tup es, .Tuple xs _ _ => chkEs m sc es xs && decide (xs.length ≤ 1000)
  | .lst es, .List xs _ => chkEs m sc es xs && decide (xs.length ≤ 1000)
  | .chain o o' a b c, .Compare x [p, q] [y, z] _ => decide (copOf o = some p) && decide (copOf o' = some q) && chkE m sc a x && chkE m sc b y && chkE m sc c z
  | .and a b, .BoolOp .And (x :: y :: r) pos => chkE m sc a x && (match r with
    | [] => chkE m sc b y
    | _ => chkE m sc b (.BoolOp .And (y :: r) pos))
  | .or a b, .BoolOp .Or (x :: y :: r) pos => chkE m sc a x && (match r with
    | [] => chkE m sc b y
    | _ => chkE m sc b (.BoolOp .Or (y :: r) pos))
  | .not a, .UnaryOp .Not x _ => chkE m sc a x
  | .ite c a b, .IfExp x y z _ => chkE m sc c x && chkE m sc a y && chkE m sc b z
  | .call f es, .Call (.Name x _) xs [] _ => glName sc (m.fn f) x && !xs.isEmpty && chkEs m sc es xs
  | .get1 a b, .Call (.Attribute o f ap) [x] [] cp => decide (f = ("get" : Str)) && (ap.endLine == cp.line) && baseB o && chkE m sc a o && chkE m sc b x
  | .get2 a b c, .Call (.Attribute o f ap) [x, y] [] cp => decide (f = ("get" : Str)) && (ap.endLine == cp.line) && baseB o && chkE m sc a o && chkE m sc b x && chkE m sc c y
  | .dnew _ ks es, .Dict xs ys _ => keysB ks xs && chkEs m sc es ys && decide (xs.length = ys.length) && decide (xs.length ≤ 15)
  | .comp vs tg src cd elt, .ListComp e [⟨t, i, ifs, 0⟩] scope _ => blkC m.N sc scope (ownOf m.N vs) && chkTg m.N (blkLoc scope sc) tg t && tg.is.all (fun i => vs.contains i) && tgFit tg src && chkSrc m sc src i &&
      chkE m (relS scope sc) elt e && (match ifs with
        | [] => (match cd with
          | .bl true => true
          | _ => false)
        | [c] => chkE m (relS scope sc) cd c
        | _ => false)
  | _, _ => false
def chkEs (m : Nm) (sc : Scope) : Es → List Expr → Bool
  | .nil, [] => true
  | .cons e es, x :: xs => chkE m sc e x && chkEs m sc es xs
  | .io i es, .Name x _ :: xs => slotB m.N sc i x && chkEs m sc es xs
  | .tmp e es, x :: xs => chkE m sc e x && chkEs m sc es xs
  | _, _ => false
def chkSrc (m : Nm) (sc : Scope) : Src → Expr → Bool
  | .seq e, x => chkE m sc e x
  | .rng1 a, .Call (.Name x _) [y] [] _ => bltB sc "range" x && chkE m sc a y
  | .rng2 a b, .Call (.Name x _) [y, z] [] _ => bltB sc "range" x && chkE m sc a y && chkE m sc b z
  | .enum e, .Call (.Name x _) [y] [] _ => bltB sc "enumerate" x && chkE m sc e y
  | .zip a b, .Call (.Name x _) [y, z] [] _ => bltB sc "zip" x && chkE m sc a y && chkE m sc b z
  | .zip3 a b c, .Call (.Name x _) [y, z, t] [] _ => bltB sc "zip" x && chkE m sc a y && chkE m sc b z && chkE m sc c t
  | _, _ => false
end
def bopOf : Op → Option Operator
  | .add => some .Add
  | .sub => some .Sub
  | _ => none
/-- no comprehension, no tuple display -/
def noCompV : Expr → Bool
  | .ListComp _ _ _ _ => false
  | .SetComp _ _ _ _ => false
  | .DictComp _ _ _ _ _ => false
  | _ => true
/-- .. no tuple display -/
def plainV : Expr → Bool
  | .ListComp _ _ _ _ => false
  | .Tuple _ _ _ => false
  | .SetComp _ _ _ _ => false
  | .DictComp _ _ _ _ _ => false
  | _ => true
/-- two values that are not folded -/
def parV (u v : Expr) : Bool := !(foldedForSure 8 u && foldedForSure 8 v) && !(constantsAlone 8 u && constantsAlone 8 v)
/-- name = [.. for ..]: the name a local, on the comprehension's line, not one of its own -/
def setFit (sc : Scope) (x : Str) (p : Pos) : Expr → Bool
  | .ListComp _ _ s q => kindB sc x .cell || (kindB sc x .local && (p.line == q.line) && !(s.names.any fun (n, k) => n == x && (k == .local || k == .cell)))
  | .SetComp _ _ _ _ => false
  | .DictComp _ _ _ _ _ => false
  | _ => true
mutual
def chkS (m : Nm) (sc : Scope) : S → Stmt → Bool
  | .set i e, .Assign [.Name x p] v _ => decide (m.N[i]? = some x) && locB sc x && chkE m sc e v && setFit sc x p v
  | .aug i o e, .AugAssign (.Name x _) p v _ => decide (m.N[i]? = some x) && locB sc x && decide (bopOf o = some p) && chkE m sc e v
  | .setT is e, .Assign [t] v _ => chkTg m.N (locB sc) (.tup is) t && chkE m sc e v && plainV v
  | .par i j a b, .Assign [.Tuple [.Name x px, .Name y py] _ _] (.Tuple [u, v] _ _) _ => decide (m.N[i]? = some x) && decide (m.N[j]? = some y) && kindB sc x .local && kindB sc y .local && (px.line == py.line) && decide (x ≠ y) && chkE m sc a u && chkE m sc b v && parV u v
  | .setIx2 i k k2 e, .Assign [.Subscript (.Subscript (.Name x _) y _) y2 _] v _ => slotB m.N sc i x && chkE m sc k y && notSlice y && chkE m sc k2 y2 && notSlice y2 && chkE m sc e v && plainV v
  | .augIx i k o e, .AugAssign (.Subscript (.Name x _) y _) p v _ => slotB m.N sc i x && chkE m sc k y && notSlice y && decide (bopOf o = some p) && chkE m sc e v
  | .setIx i k e, .Assign [.Subscript (.Name x _) y _] v _ => slotB m.N sc i x && chkE m sc k y && notSlice y && chkE m sc e v && noCompV v
  | .append i e, .Expr (.Call (.Attribute (.Name x _) f ap) [v] [] cp) _ => slotB m.N sc i x && decide (f = ("append" : Str)) && chkE m sc e v && (ap.endLine == cp.line)
  | .rev i, .Expr (.Call (.Attribute (.Name x _) f ap) [] [] cp) _ => slotB m.N sc i x && decide (f = ("reverse" : Str)) && (ap.endLine == cp.line)
  | .extend i e, .Expr (.Call (.Attribute (.Name x _) f ap) [v] [] cp) _ => slotB m.N sc i x && decide (f = ("extend" : Str)) && chkE m sc e v && (ap.endLine == cp.line)
  | .dead, _ => true
  | .appAll i v c, .For (.Name r _) (.Name x _) [.Expr (.Call (.Attribute (.Name r2 _) f ap) [.Constant (.int j) _ _] [] cp) _] [] _ => slotB m.N sc i x && decide (m.N[v]? = some r) && locB sc r && slotB m.N sc v r2 && decide (f = ("append" : Str)) && decide (j = c) && (ap.endLine == cp.line)
  | .expr e, .Expr v _ => chkE m sc e v && plainV v
  | .ret e, .Return (some v) _ => chkE m sc e v
  | .retN, .Return none _ => true
  | .iff c a b, .If x p q _ => chkE m sc c x && chkSs m sc a p && chkSs m sc b q
  | .for_ tg src body, .For t i b [] _ => chkTg m.N (locB sc) tg t && tgFit tg src && chkSrc m sc src i && chkSs m sc body b
  | .while_ c body, .While x b [] _ => chkE m sc c x && chkSs m sc body b
  | .brk, .Break _ => true
  | .cont, .Continue _ => true
  | .raise _ _, _ => true
  | .raiseE x f e, .Raise (some (.Call (.Name y _) [v] [] _)) none _ => decide (y = x) && decide ((x, f) ∈ m.rz) && glB sc x && chkE m sc e v
  | .tryE b i j, .Try body [.ExceptHandler (some (.Name p _)) (some n) [.Assign [.Name c _] (.Name n2 _) _] _] [] [] _ => decide (p = ("PensionError" : Str)) && glB sc p && decide (p ∈ m.cl) && decide (m.N[i]? = some n) && kindB sc n .local && decide (m.N[j]? = some c) && locB sc c && decide (n2 = n) && decide (i ≠ j) && slotB m.N sc i n && chkSs m sc b body
  | .pass, .Pass _ => true
  | .pass, .Expr (.Constant (.str _) _ _) _ => true
  | _, _ => false
def chkSs (m : Nm) (sc : Scope) : Ss → List Stmt → Bool
  | .nil, [] => true
  | .cons s ss, x :: xs => chkS m sc s x && chkSs m sc ss xs
  | _, _ => false
end

/-! ### values made -/
section
variable {K : PySem.W.Frag} {N n m : Nat} {Γ : Gm} {σ : L2.St} {H H' : Hp} {F F' : Fpt} {w : W} {v : V} {d : D} {rs : List Nat}
mutual
theorem Rep.imm_cut {P : Addr → Prop} (hP : ∀ a, P a → Ob H a) : ∀ {d : D} {v : V}, imm d = true → Rep K H d v → Rep K (cut H P) d v
  | .non, _, _, h => h
  | .bl _, _, _, h => h
  | .int _, _, _, h => h
  | .str _, _, _, h => h
  | .tup ds, v, i, h => by
    obtain ⟨a, vs, e, q, r⟩ := h
    refine ⟨a, vs, e, ?_, Reps.imm_cut hP (by unfold imm at i; exact i) r⟩
    rcases q with (q | ⟨o, q⟩) | q
    · refine .inl (.inl (cut_some.mpr ⟨fun p => ?_, q⟩))
      exact (hP a p).no q nc_tup
    · refine .inl (.inr ⟨o, cut_some.mpr ⟨fun p => ?_, q⟩⟩)
      exact (hP a p).no q nc_frz
    · exact .inr q
  | .lst _, _, i, _ => by unfold imm at i; cases i
  | .scr ns, v, _, h => by
    obtain ⟨a, e, q⟩ := h
    refine ⟨a, e, ?_⟩
    rcases q with ⟨o, q⟩ | q
    · refine .inl ⟨o, cut_some.mpr ⟨fun p => ?_, q⟩⟩
      exact (hP a p).no q nc_frz
    · exact .inr q
  | .exn _ _ _, v, _, h => by
    obtain ⟨a, d, C, e, x, h1, h2⟩ := h
    refine ⟨a, d, C, e, x, cut_some.mpr ⟨fun p => ?_, h1⟩, cut_some.mpr ⟨fun p => ?_, h2⟩⟩
    · exact (hP a p).no h1 nc_ext
    · exact (hP d p).no h2 nc_xd
  | .dct _ _ _, _, i, _ => by unfold imm at i; cases i
theorem Reps.imm_cut {P : Addr → Prop} (hP : ∀ a, P a → Ob H a) : ∀ {ds : List D} {vs : List V}, immAll ds = true → Reps K H ds vs → Reps K (cut H P) ds vs
  | [], _, _, h => h
  | d :: ds, vs, i, h => by
    obtain ⟨v, r, e, h1, h2⟩ := h
    unfold immAll at i
    rw [Bool.and_eq_true] at i
    exact ⟨v, r, e, Rep.imm_cut hP i.1 h1, Reps.imm_cut hP i.2 h2⟩
end
theorem Reps.len : ∀ {ds : List D} {vs : List V}, Reps K H ds vs → vs.length = ds.length
  | [], _, h => by rw [show _ = [] from h]; rfl
  | d :: ds, vs, h => by
    obtain ⟨v, r, e, _, h2⟩ := h
    rw [e, List.length_cons, List.length_cons, Reps.len h2]
theorem Reps.get : ∀ {ds : List D} {vs : List V} {i : Nat} {d : D}, Reps K H ds vs → ds[i]? = some d → ∃ v, vs[i]? = some v ∧ Rep K H d v
  | [], _, _, _, _, e => by simp at e
  | d :: ds, vs, 0, x, h, e => by
    obtain ⟨v, r, ev, h1, _⟩ := h
    rw [List.getElem?_cons_zero] at e
    cases e
    rw [ev]
    exact ⟨v, rfl, h1⟩
  | d :: ds, vs, i + 1, x, h, e => by
    obtain ⟨v, r, ev, _, h2⟩ := h
    rw [ev]
    exact Reps.get (i := i) h2 (by simpa using e)
theorem Reps.append : ∀ {ds es : List D} {vs us : List V}, Reps K H ds vs → Reps K H es us → Reps K H (ds ++ es) (vs ++ us)
  | [], _, vs, _, h, h' => by rw [show vs = [] from h]; exact h'
  | d :: ds, _, vs, _, h, h' => by
    obtain ⟨v, r, e, h1, h2⟩ := h
    rw [e]
    exact ⟨v, r ++ _, rfl, h1, Reps.append h2 h'⟩
theorem Reps.take : ∀ {ds : List D} {vs : List V} (k : Nat), Reps K H ds vs → Reps K H (ds.take k) (vs.take k)
  | _, _, 0, _ => rfl
  | [], vs, k + 1, h => by rw [show vs = [] from h]; exact (rfl : Reps K H [] [])
  | d :: ds, vs, k + 1, h => by
    obtain ⟨v, r, e, h1, h2⟩ := h
    rw [e]
    exact ⟨v, r.take k, rfl, h1, Reps.take k h2⟩
theorem Reps.drop : ∀ {ds : List D} {vs : List V} (k : Nat), Reps K H ds vs → Reps K H (ds.drop k) (vs.drop k)
  | _, _, 0, h => h
  | [], vs, k + 1, h => by rw [show vs = [] from h]; exact (rfl : Reps K H [] [])
  | d :: ds, vs, k + 1, h => by
    obtain ⟨v, r, e, h1, h2⟩ := h
    rw [e]
    exact Reps.drop k h2
theorem Reps.set : ∀ {ds : List D} {vs : List V} {d : D} {v : V} (k : Nat), Rep K H d v → Reps K H ds vs → Reps K H (ds.set k d) (vs.set k v)
  | [], vs, _, _, k, _, h => by rw [show vs = [] from h]; exact (rfl : Reps K H [] [])
  | d :: ds, vs, _, _, 0, r, h => by
    obtain ⟨v, r', e, h1, h2⟩ := h
    rw [e]
    exact ⟨_, r', rfl, r, h2⟩
  | d :: ds, vs, _, _, k + 1, r, h => by
    obtain ⟨v, r', e, h1, h2⟩ := h
    rw [e]
    exact ⟨v, _, rfl, h1, Reps.set k r h2⟩
theorem Reps.ofInts : ∀ ns : List Int, Reps K H (ns.map .int) (ns.map V.int)
  | [] => rfl
  | n :: r => ⟨.int n, _, rfl, rfl, Reps.ofInts r⟩
theorem Reps.ints : ∀ {ds : List D} {vs : List V} {ns : List Int}, intsD ds = some ns → Reps K H ds vs → vs = ns.map V.int
  | [], vs, ns, e, h => by
    rw [show vs = [] from h]
    cases e
    rfl
  | .int i :: ds, vs, ns, e, h => by
    obtain ⟨v, r, ev, h1, h2⟩ := h
    unfold intsD at e
    cases q : intsD ds with
    | none => rw [q] at e; cases e
    | some ms =>
      rw [q] at e
      cases e
      rw [ev, Reps.ints q h2, show v = V.int i from h1]
      rfl
  | .non :: _, _, _, e, _ => by cases e
  | .bl _ :: _, _, _, e, _ => by cases e
  | .str _ :: _, _, _, e, _ => by cases e
  | .tup _ :: _, _, _, e, _ => by cases e
  | .lst _ :: _, _, _, e, _ => by cases e
  | .scr _ :: _, _, _, e, _ => by cases e
  | .exn _ _ _ :: _, _, _, e, _ => by cases e
  | .dct _ _ _ :: _, _, _, e, _ => by cases e

/-- a step that makes, drops values in hand from n on -/
structure Nw (n : Nat) (H : Hp) (F : Fpt) (H' : Hp) (F' : Fpt) : Prop where
  same : Same H H'
  lo : ∀ k, k < n → F' k = F k
  fr : ∀ k a, n ≤ k → a ∈ F' k → (∃ k', n ≤ k' ∧ a ∈ F k') ∨ H a = none
theorem Nw.drop : Nw n H F H (low n F) := ⟨Same.refl H, fun _ h => low_lt h, fun k a h e => by rw [low_ge h] at e; cases e⟩

/-- the end of an operation: what it hands back -/
structure Fin (K : PySem.W.Frag) (Γ : Gm) (σ : L2.St) (H : Hp) (F : Fpt) (n : Nat) (w : W) (v : V) (H' : Hp) (F' : Fpt) : Prop where
  gd : Gd K Γ σ H' F' (n + 1)
  at_ : At K Γ.length H' F' n w v
  nw : Nw n H F H' F'
theorem Gd.drop1 (G : Gd K Γ σ H F m) (hN : Γ.length ≤ n) : Gd K Γ σ H (low n F) (n + 1) :=
  G.temps hN (Nat.le_succ n) (Same.refl H) (fun _ h => low_lt h) (fun _ h => low_ge (by omega)) (fun k a h e => by rw [low_ge h] at e; cases e) (fun k h => by rw [low_ge h]; exact List.nodup_nil)
    (fun i j a h _ e _ => by rw [low_ge h] at e; cases e) fun k a h e => by rw [low_ge h] at e; cases e
theorem oth_low {rs : List Nat} {a : Addr} (h : Oth (low n F) rs a) : Oth F rs a := by
  obtain ⟨j, hj, e⟩ := h
  unfold low at e
  split at e
  · exact ⟨j, hj, e⟩
  · cases e
theorem Gd.othObj (G : Gd K Γ σ H F m) {rs : List Nat} {a : Addr} (h : Oth F rs a) : Ob H a := by
  obtain ⟨j, _, e⟩ := h
  exact G.obj j a e
/-- a value without lists -/
theorem fin_imm (G : Gd K Γ σ H F m) (hN : Γ.length ≤ n) (i : imm d = true) (h : Rep K H d v) : Fin K Γ σ H F n (val d) v H (low n F) where
  gd := G.drop1 hN
  at_ := ⟨fun _ z => (nomatch z), by
    rw [low_ge (Nat.le_refl n)]
    exact orep0 (Rep.imm_cut (fun a q => G.othObj (oth_low q)) i h)⟩
  nw := Nw.drop
/-- a value that is looked at -/
theorem fin_view (G : Gd K Γ σ H F m) (hN : Γ.length ≤ n) (hr : ∀ r ∈ rs, r < Γ.length) (h : Rep K (cut H (Oth F rs)) d v) : Fin K Γ σ H F n ⟨0, rs, d⟩ v H (low n F) where
  gd := G.drop1 hN
  at_ := ⟨hr, by
    rw [low_ge (Nat.le_refl n)]
    exact orep0 (Rep.mono (cut_sub fun a o no e => ⟨e, fun z => no (oth_low z)⟩) h)⟩
  nw := Nw.drop
/-- a new list, a new dict, its items not owned -/
theorem fin_newO (G : Gd K Γ σ H F m) (hN : Γ.length ≤ n) {p : Addr} (hp : H p = none) {ob : HO} {w : W} (hc : Cel ob) (hr : ∀ r ∈ w.rs, r < Γ.length)
    (hw : ∀ F' : Fpt, F' n = [p] → Sub (cut H (Oth F w.rs)) (cut (upd H p ob) (Oth F' w.rs)) → ORep K (upd H p ob) (cut (upd H p ob) (Oth F' w.rs)) w.l w.d (.ref p) [p]) :
    Fin K Γ σ H F n w (.ref p) (upd H p ob) (put (low n F) n [p]) := by
  have s : Same H (upd H p ob) := fun a o e => by rw [upd_ne (ne_of_none e hp)]; exact e
  have lo : ∀ k, k < n → put (low n F) n [p] k = F k := fun k hk => by rw [put_ne (by omega), low_lt hk]
  have hi : ∀ k a, n ≤ k → a ∈ put (low n F) n [p] k → k = n ∧ a = p := fun k a hk e => by
    by_cases q : k = n
    · subst q
      rw [put_same] at e
      exact ⟨rfl, by simpa using e⟩
    · rw [put_ne q, low_ge hk] at e; cases e
  refine ⟨G.temps hN (Nat.le_succ n) s lo (fun k hk => by rw [put_ne (by omega), low_ge (by omega)]) (fun k a hk e => .inr (by rw [(hi k a hk e).2]; exact hp)) (fun k hk => ?_) (fun i j a h1 h2 e1 e2 => by rw [(hi i a h1 e1).1, (hi j a h2 e2).1]) (fun k a hk e => ⟨⟨ob, hc⟩, by rw [(hi k a hk e).2]; exact upd_same⟩), ⟨hr, ?_⟩, ⟨s, lo, fun k a hk e => .inr (by rw [(hi k a hk e).2]; exact hp)⟩⟩
  · by_cases q : k = n
    · subst q; rw [put_same]; simp
    · rw [put_ne q, low_ge hk]; exact List.nodup_nil
  · rw [put_same]
    refine hw _ put_same (cut_sub fun a o no e => ⟨s _ _ e, fun ⟨j, hj, z⟩ => ?_⟩)
    by_cases hjn : j < n
    · rw [lo j hjn] at z; exact no ⟨j, hj, z⟩
    · rw [(hi j a (by omega) z).2, hp] at e; cases e
theorem fin_new (G : Gd K Γ σ H F m) (hN : Γ.length ≤ n) (hr : ∀ r ∈ rs, r < Γ.length) {ds : List D} {vs : List V} {l : Nat} (h : OReps K H (cut H (Oth F rs)) (if l = 0 then 0 else l + 1) ds vs []) {p : Addr} (hp : H p = none) :
    Fin K Γ σ H F n ⟨l + 1, rs, .lst ds⟩ (.ref p) (upd H p (.lst vs)) (put (low n F) n [p]) :=
  fin_newO (w := ⟨l + 1, rs, .lst ds⟩) G hN hp (.inl ⟨_, rfl⟩) hr fun F' _ cs => ⟨p, vs, [], rfl, upd_same, rfl, OReps.mono (H := H) cs (fun a ha => nomatch ha) h⟩
theorem fin_newD (G : Gd K Γ σ H F m) (hN : Γ.length ≤ n) (hr : ∀ r ∈ rs, r < Γ.length) {ds : List D} {vs : List V} {l : Nat} {t : Bool} {ks : List (List Key)} (h : OReps K H (cut H (Oth F rs)) (if l = 0 then 0 else l + 1) ds vs []) {p : Addr} (hp : H p = none) :
    Fin K Γ σ H F n ⟨l + 1, rs, .dct t ks ds⟩ (.ref p) (upd H p (dHO t ks vs)) (put (low n F) n [p]) :=
  fin_newO (w := ⟨l + 1, rs, .dct t ks ds⟩) G hN hp (.inr (.inl ⟨_, _, _, rfl⟩)) hr fun F' _ cs => ⟨p, vs, [], rfl, upd_same, rfl, OReps.mono (H := H) cs (fun a ha => nomatch ha) h⟩
/-- .. its items without lists -/
theorem fin_newI (G : Gd K Γ σ H F m) (hN : Γ.length ≤ n) {ds : List D} {vs : List V} (i : immAll ds = true) (h : Reps K H ds vs) {p : Addr} (hp : H p = none) :
    Fin K Γ σ H F n ⟨8, [], .lst ds⟩ (.ref p) (upd H p (.lst vs)) (put (low n F) n [p]) :=
  fin_new (rs := []) (l := 7) G hN (fun _ z => nomatch z) (Reps.own i (Reps.imm_cut (fun a q => G.othObj q) i h)) hp
theorem reps0 : ∀ {ds : List D} {vs : List V}, Reps K H ds vs → OReps K H' H 0 ds vs []
  | [], _, h => by unfold OReps; exact ⟨h, rfl⟩
  | d :: ds, vs, h => by
    unfold OReps
    obtain ⟨v, r, e, h1, h2⟩ := h
    exact ⟨v, r, [], [], e, rfl, orep0 h1, reps0 h2⟩
/-- .. of items that are looked at -/
theorem fin_newL (G : Gd K Γ σ H F m) (hN : Γ.length ≤ n) (hr : ∀ r ∈ rs, r < Γ.length) {ds : List D} {vs : List V} (h : Reps K (cut H (Oth F rs)) ds vs) {p : Addr} (hp : H p = none) :
    ∃ H' F', H' = upd H p (.lst vs) ∧ Fin K Γ σ H F n (newL rs ds) (.ref p) H' F' := by
  unfold newL
  by_cases i : immAll ds = true
  · rw [if_pos i]
    exact ⟨_, _, rfl, fin_newI G hN i (Reps.mono cut_le h) hp⟩
  · rw [if_neg i]
    exact ⟨_, _, rfl, fin_new (l := 0) G hN hr (reps0 h) hp⟩
/-- .. a dict -/
theorem fin_newDc (G : Gd K Γ σ H F m) (hN : Γ.length ≤ n) (hr : ∀ r ∈ rs, r < Γ.length) {ks : List (List Key)} {ds : List D} {vs : List V} (h : Reps K (cut H (Oth F rs)) ds vs) {p : Addr} (hp : H p = none) :
    ∃ H' F', H' = upd H p (dHO false ks vs) ∧ Fin K Γ σ H F n (newDc rs ks ds) (.ref p) H' F' := by
  unfold newDc
  by_cases i : immAll ds = true
  · rw [if_pos i]
    exact ⟨_, _, rfl, fin_newD (rs := []) (l := 7) G hN (fun _ z => nomatch z) (Reps.own i (Reps.imm_cut (fun a q => G.othObj q) i (Reps.mono cut_le h))) hp⟩
  · rw [if_neg i]
    exact ⟨_, _, rfl, fin_newD (l := 0) G hN hr (reps0 h) hp⟩
end
end Own

end
section
set_option maxHeartbeats 1000000
namespace Own
open PySem PySem.Spec L2

def bltNames : List Str := ["len", "abs", "int", "max", "min", "sum", "list", "tuple", "sorted", "isinstance", "range", "enumerate", "zip", "bool", "str", "ValueError", "dict"]
/-- the context of a text -/
structure XO (X : Cx) (m : Nm) (sc : Scope) : Prop where
  hN : X.N = m.N
  nd : m.N.Nodup
  hsc : X.env.scope = sc
  calm : X.calm = true
  un : X.A.units + 65 < cLine
  blt : ∀ x ∈ bltNames, X.mg x = none
  ecl : ∀ y ∈ m.cl, ∃ CY : Addr, X.mg y = some (.ref CY) ∧ PySem.W.nsIn X.K mainGlobals y = some (some (.ref CY))

theorem PE.imp {X : Cx} {e : Expr} {t t' : TE} (h : PE X e t) (i : ∀ σ H Q, t' σ H Q → t σ H Q) : PE X e t' := ⟨fun pins s σ H Q I q => h.run pins s σ H Q I (i σ H Q q)⟩
theorem PT.imp {X : Cx} {e : Expr} {t t' : TT} (h : PT X e t) (i : ∀ σ H Q, t' σ H Q → t σ H Q) : PT X e t' := ⟨fun pins s σ H Q I q => h.run pins s σ H Q I (i σ H Q q)⟩
theorem PS.imp {X : Cx} {e : Stmt} {t t' : TS} (h : PS X e t) (i : ∀ D σ H, t' D σ H → t D σ H) : PS X e t' := ⟨fun pins s σ H D I q => h.run pins s σ H D I (i D σ H q)⟩
theorem PSs.imp {X : Cx} {e : List Stmt} {t t' : TS} (h : PSs X e t) (i : ∀ D σ H, t' D σ H → t D σ H) : PSs X e t' := ⟨fun pins s σ H D I q => h.run pins s σ H D I (i D σ H q)⟩

def NoStar (e : Expr) : Prop := ∀ es env, starEach (e :: es) env = (false, eval e env) :: starEach es env
/-- readings of a row of expressions -/
def PEl (X : Cx) : List Expr → List TE → Prop
  | [], [] => True
  | e :: es, t :: ts => PE X e t ∧ NoStar e ∧ PEl X es ts
  | _, _ => False
def tAll : List TE → TA
  | [] => tNil
  | t :: ts => tCons t (tAll ts)
theorem PEl.pa {X : Cx} : ∀ {es : List Expr} {ts : List TE}, PEl X es ts → PA X es (tAll ts)
  | [], [], _ => pa_nil
  | _ :: _, _ :: _, h => pa_cons h.1 (PEl.pa h.2.2) (h.2.1 _ _)
  | [], _ :: _, h => h.elim
  | _ :: _, [], h => h.elim
theorem PEl.stars {X : Cx} : ∀ {es : List Expr} {ts : List TE} (pos : Pos), PEl X es ts → ∀ env, (backTo pos (starEach es env)).any (·.1) = false
  | [], [], pos, _, env => rfl
  | e :: es, _ :: _, pos, h, env => by
    rw [h.2.1 es env]
    have q := PEl.stars pos h.2.2 env
    show (backTo pos ((false, eval e env) :: starEach es env)).any (·.1) = false
    exact q
  | [], _ :: _, _, h, _ => h.elim
  | _ :: _, [], _, h, _ => h.elim

/-! ### is of a bool, by values -/
def rIsD (n : Bool) : R2 := fun x y H Q => ∃ b, y = .bl b ∧ Q (.bl (if n then decide (x = .bl b) else !decide (x = .bl b))) H
theorem op_isD {X : Cx} : OpR X (compareOp .Is) (rIsD true) := by
  intro pins s σ H x y v u Q I rx ry h
  obtain ⟨b, rfl, q⟩ := h
  cases (show u = Value.bool b from ry)
  by_cases e : x = .bl b
  · subst e
    cases (show v = Value.bool b from rx)
    exact wpAny_is_self rfl ⟨.bl true, H, I, rfl, by simpa using q⟩
  · have q' : Q (.bl false) H := by simpa [e] using q
    have fin : EP X pins σ Q (.bool false) s := ⟨.bl false, H, I, rfl, q'⟩
    cases x with
    | non => cases rx; exact wpAny_is_other rfl (fun z => nomatch z) fin
    | bl c => cases rx; exact wpAny_is_other rfl (fun z => e (by cases z; rfl)) fin
    | int i => obtain ⟨t, rfl⟩ := rx; exact wpAny_is_other rfl (fun z => nomatch z) fin
    | str i => obtain ⟨t, rfl⟩ := rx; exact wpAny_is_other rfl (fun z => nomatch z) fin
    | byt i => obtain ⟨t, rfl⟩ := rx; exact wpAny_is_other rfl (fun z => nomatch z) fin
    | flt i => obtain ⟨t, rfl⟩ := rx; exact wpAny_is_other rfl (fun z => nomatch z) fin
    | ref a => cases rx; exact wpAny_is_other rfl (fun z => nomatch z) fin
    | ty n => cases rx; exact wpAny_is_other rfl (fun z => nomatch z) fin
theorem op_notD {X : Cx} : OpR X (compareOp .IsNot) (rIsD false) := by
  intro pins s σ H x y v u Q I rx ry h
  obtain ⟨b, rfl, q⟩ := h
  cases (show u = Value.bool b from ry)
  by_cases e : x = .bl b
  · subst e
    cases (show v = Value.bool b from rx)
    exact wpAny_isNot_self rfl ⟨.bl false, H, I, rfl, by simpa using q⟩
  · have q' : Q (.bl true) H := by simpa [e] using q
    have fin : EP X pins σ Q (.bool true) s := ⟨.bl true, H, I, rfl, q'⟩
    cases x with
    | non => cases rx; exact wpAny_isNot_other rfl (fun z => nomatch z) fin
    | bl c => cases rx; exact wpAny_isNot_other rfl (fun z => e (by cases z; rfl)) fin
    | int i => obtain ⟨t, rfl⟩ := rx; exact wpAny_isNot_other rfl (fun z => nomatch z) fin
    | str i => obtain ⟨t, rfl⟩ := rx; exact wpAny_isNot_other rfl (fun z => nomatch z) fin
    | byt i => obtain ⟨t, rfl⟩ := rx; exact wpAny_isNot_other rfl (fun z => nomatch z) fin
    | flt i => obtain ⟨t, rfl⟩ := rx; exact wpAny_isNot_other rfl (fun z => nomatch z) fin
    | ref a => cases rx; exact wpAny_isNot_other rfl (fun z => nomatch z) fin
    | ty n => cases rx; exact wpAny_isNot_other rfl (fun z => nomatch z) fin

/-! ### what each operation asks of values -/
def tyStr : Ty → String
  | .int => "int" | .bool => "bool" | .str => "str" | .list => "list" | .tuple => "tuple" | .dict => "dict"
def r2 (r : R2) : List V → Hp → VK → Prop := fun vs H Q => match vs with
  | [x, y] => r x y H Q
  | _ => False
def r1 (r : V → Hp → VK → Prop) : List V → Hp → VK → Prop := fun vs H Q => match vs with
  | [x] => r x H Q
  | _ => False
def rSl2 (K : PySem.W.Frag) : V → Option Int → Option Int → Hp → VK → Prop := fun x lo hi H Q => rSlL K x lo hi H Q ∨ rSlA K x lo hi H Q
def slR (K : PySem.W.Frag) (lo hi : Bool) : List V → Hp → VK → Prop := fun vs H Q => match lo, hi, vs with
  | false, false, [x] => rSl2 K x none none H Q
  | true, false, [x, y] => ∃ i, y = .int i ∧ rSl2 K x (some i) none H Q
  | false, true, [x, y] => ∃ i, y = .int i ∧ rSl2 K x none (some i) H Q
  | _, _, _ => False
def rIsN' : R2 := fun x y H Q => y = .non ∧ Q (.bl (decide (x = .non))) H
def rNotN' : R2 := fun x y H Q => y = .non ∧ Q (.bl (!decide (x = .non))) H
/-! ### sorted(xs), xs a list of pairs of ints -/
theorem leP_iff {x y : Int × Int} : leP x y = true ↔ (x.1 < y.1 ∨ (x.1 = y.1 ∧ x.2 ≤ y.2)) := by
  unfold leP
  rw [Bool.or_eq_true, Bool.and_eq_true, decide_eq_true_eq, decide_eq_true_eq, decide_eq_true_eq]
theorem leP_anti {x y : Int × Int} (h : leP x y = true) (h' : leP y x = true) : x = y := by
  rw [leP_iff] at h h'
  obtain ⟨a, b⟩ := x
  obtain ⟨c, d⟩ := y
  simp only at h h'
  have e1 : a = c := by omega
  have e2 : b = d := by omega
  rw [e1, e2]
theorem leP_trans (x y z : Int × Int) (h : leP x y = true) (h' : leP y z = true) : leP x z = true := by
  rw [leP_iff] at h h' ⊢
  omega
theorem leP_total (x y : Int × Int) : (leP x y || leP y x) = true := by
  rw [Bool.or_eq_true, leP_iff, leP_iff]
  omega
theorem sorted_uniq : ∀ {l m : List (Int × Int)}, l.Pairwise (fun x y => leP x y = true) → m.Pairwise (fun x y => leP x y = true) → l.Perm m → l = m
  | [], m, _, _, h => (List.Perm.eq_nil h.symm).symm
  | x :: l, [], _, _, h => absurd h.length_eq (by simp)
  | x :: l, y :: m, hl, hm, h => by
    have hl' := List.pairwise_cons.mp hl
    have hm' := List.pairwise_cons.mp hm
    have h1 : leP y x = true := by
      rcases List.mem_cons.mp (h.mem_iff.mp (List.mem_cons_self (a := x) (l := l))) with e | hx
      · rw [e]; rw [leP_iff]; omega
      · exact hm'.1 x hx
    have h2 : leP x y = true := by
      rcases List.mem_cons.mp (h.mem_iff.mpr (List.mem_cons_self (a := y) (l := m))) with e | hy
      · rw [e]; rw [leP_iff]; omega
      · exact hl'.1 y hy
    have e := leP_anti h2 h1
    subst e
    rw [sorted_uniq hl'.2 hm'.2 (h.cons_inv)]
theorem lexB_leP {x y : Int × Int} (h : SrtO.lexB y x = false) : leP x y = true := by
  have := SrtO.lexB_no.mp h
  rw [leP_iff]
  omega
def rSortedT (K : PySem.W.Frag) : List V → Hp → VK → Prop := fun vs H Q => ∃ (a : Addr) (xs : List V) (ps : List (Int × Int)), vs = [V.ref a] ∧ SqL K H a xs ∧ Reps K H (ps.map pairD) xs ∧
  ∀ ys p, Reps K H ((ps.mergeSort leP).map pairD) ys → H p = none → Q (.ref p) (upd H p (.lst ys))
open Classical in
theorem cr_sortedT {X : Cx} : CallR X (.builtin "sorted") (rSortedT X.K) := by
  intro pins s σ H vs us Q I r h
  obtain ⟨a, xs, ps, rfl, hs, hx, q⟩ := h
  obtain ⟨its, rv, hl, hz⟩ := I.list hs
  obtain ⟨u, rfl, ru⟩ := vals1 r
  obtain rfl : u = Value.ref a := ru
  have inj : ∀ (x : V) (q q' : Int × Int), Rep X.K H (pairD q) x → Rep X.K H (pairD q') x → q = q' := fun x q q' h h' => by
    obtain ⟨t, l, e, h1, v1, r1, e1, h2, v2, r2, e2, h3, h4⟩ := h
    obtain ⟨t', l', e', h1', v1', r1', e1', h2', v2', r2', e2', h3', h4'⟩ := h'
    rw [e] at e'
    cases e'
    have w := I.tuple_inj h1 h1'
    rw [e1, e2, e1', e2'] at w
    injection w with w1 w2
    injection w2 with w2 w3
    rw [show v1 = V.int q.1 from h2, show v1' = V.int q'.1 from h2'] at w1
    rw [show v2 = V.int q.2 from h3, show v2' = V.int q'.2 from h3'] at w2
    exact Prod.ext (V.int.inj w1) (V.int.inj w2)
  let k : V → Int × Int := fun x => if h : ∃ q, Rep X.K H (pairD q) x then h.choose else (0, 0)
  have hk : ∀ x q, Rep X.K H (pairD q) x → k x = q := fun x q h => by
    have ex : ∃ q, Rep X.K H (pairD q) x := ⟨q, h⟩
    show (if h : ∃ q, Rep X.K H (pairD q) x then h.choose else (0, 0)) = q
    rw [dif_pos ex]
    exact inj x _ _ ex.choose_spec h
  have mem : ∀ (ps : List (Int × Int)) (xs : List V), Reps X.K H (ps.map pairD) xs → xs.map k = ps ∧ ∀ x ∈ xs, Rep X.K H (pairD (k x)) x := fun ps => by
    induction ps with
    | nil => intro xs h; rw [show xs = [] from h]; exact ⟨rfl, fun _ z => nomatch z⟩
    | cons p ps ih =>
      intro xs h
      obtain ⟨v, r, e, h1, h2⟩ := h
      subst e
      obtain ⟨i1, i2⟩ := ih r h2
      refine ⟨by rw [List.map_cons, i1, hk v p h1], fun x hx => ?_⟩
      rcases List.mem_cons.mp hx with z | z
      · rw [z, hk v p h1]; exact h1
      · exact i2 x z
  obtain ⟨m1, m2⟩ := mem ps xs hx
  have hx : ∀ x ∈ xs, ∃ t, x = V.ref t ∧ SqT X.K H t [.int (k x).1, .int (k x).2] := fun x m => by
    obtain ⟨t, l, e, h1, v1, r1, e1, h2, v2, r2, e2, h3, h4⟩ := m2 x m
    refine ⟨t, e, ?_⟩
    have : l = [.int (k x).1, .int (k x).2] := by
      rw [e1, e2, show v1 = V.int (k x).1 from h2, show v2 = V.int (k x).2 from h3, show r2 = [] from h4]
    rw [← this]
    exact h1
  obtain ⟨e1, e2⟩ := refs_back rv fun x m => by
    obtain ⟨t, e, _⟩ := hx x m
    exact ⟨t, e⟩
  refine SrtO.sorted_pairsO (k := fun u => k (backV u)) hl.isList (by rw [← rv.length]; exact hz) (fun v hv => ?_) fun h' d out h1 h2 kp hd hn => ?_
  · obtain ⟨t, rfl⟩ := e2 v hv
    have hm : V.ref t ∈ xs := by rw [e1]; exact List.mem_map.mpr ⟨_, hv, rfl⟩
    obtain ⟨t', e, ht⟩ := hx _ hm
    cases e
    obtain ⟨its2, r2, ⟨o, ho, hc, n, hd⟩, _⟩ := I.tuple ht
    obtain ⟨u1, u2, rfl, ri, rj⟩ := vals2 r2
    obtain ⟨t1, rfl⟩ := ri
    obtain ⟨t2, rfl⟩ := rj
    exact ⟨t, o, t1, t2, n, rfl, ho, hc, hd⟩
  · have h3 : ∀ u ∈ out, ∃ a, u = Value.ref a := fun u hu => e2 u (h2.perm.mem_iff.mp hu)
    obtain ⟨n, hn⟩ := hn
    have pm : (out.map backV).Perm xs := by
      rw [e1]
      exact h2.perm.map backV
    have kp2 : (out.map backV).map k = ps.mergeSort leP := by
      refine sorted_uniq ?_ (List.pairwise_mergeSort leP_trans leP_total ps) (((pm.map k).trans (by rw [m1])).trans (List.mergeSort_perm ps leP).symm)
      rw [List.pairwise_map, List.pairwise_map]
      exact h1.imp fun {x y} z => lexB_leP z
    have reps : ∀ zs : List V, (∀ z ∈ zs, z ∈ xs) → Reps X.K H ((zs.map k).map pairD) zs := fun zs => by
      induction zs with
      | nil => intro _; exact (rfl : Reps X.K H [] [])
      | cons z zs ih => exact fun hz => ⟨z, zs, rfl, m2 z (hz z List.mem_cons_self), ih fun y hy => hz y (List.mem_cons_of_mem _ hy)⟩
    refine ⟨.ref d, upd H d (.lst (out.map backV)), I.laid (t' := s.toks) kp hd ⟨?_, out, n, vals_back h3, hn⟩, rfl, q _ d (by rw [← kp2]; exact reps _ fun z hz => pm.mem_iff.mp hz) (I.hok.fresh hd)⟩
    rw [pm.length_eq]
    exact hz
theorem cr_sortedB {X : Cx} : CallR X (.builtin "sorted") (fun vs H Q => rSortedT X.K vs H Q ∨ rSortedI X.K vs H Q) := by
  intro pins s σ H vs us Q I r h
  rcases h with h | h
  · exact cr_sortedT pins s σ H vs us Q I r h
  · exact cr_sortedI pins s σ H vs us Q I r h
/-- the class that the name y stands for -/
def clsA (K : PySem.W.Frag) (y : Str) : Addr := match PySem.W.nsIn K mainGlobals y with
  | some (some (.ref c)) => c
  | _ => 0
/-- isinstance(e, y), e a caught error -/
def rIsX (K : PySem.W.Frag) (y : Str) : List V → Hp → VK → Prop := fun xs H Q => ∃ (x : V) (cn f : Str) (p : Sum Int Str), xs = [x, .ref (clsA K y)] ∧ ExR K H cn f p x ∧ y ∈ errNames ∧ Q (.bl (decide (cn = y))) H
def rIsV (K : PySem.W.Frag) : List V → Hp → VK → Prop := fun xs H Q => ∃ (x : V) (cn f : Str) (p : Sum Int Str), xs = [x, .ty "ValueError"] ∧ ExR K H cn f p x ∧ Q (.bl true) H
section
open PyProof.Rows
set_option maxHeartbeats 4000000
theorem tuple_mul1 (l : Addr) (items : Array Value) (n : Nat) (dd : Option Addr) (sl : Array (Option Value)) (u : Tok) :
    Meets (Builtin.«tuple.__mul__» ⟨[.ref l, .int 1 u], []⟩) (fun _ R s => s.heap.get? l = some { cls := .type "tuple", dict := dd, data := .seq items n, slots := sl } ∧
      R (.ok (.ret (Value.ref l))) { s with heap := s.heap, toks := s.toks }) :=
  .of_wp fun prog w A R s h => by
    obtain ⟨hp, g, d, tk, os⟩ := s
    obtain ⟨hl, h⟩ := h
    have f1 := AutoSeq1.idx_int
    have c0 : (decide ((1 : Int) < -(2 ^ 63)) || decide ((1 : Int) ≥ 2 ^ 63)) = false := by decide
    have c1 : (items.isEmpty || (1 : Int) == 1) = true := by rw [show ((1 : Int) == 1) = true from rfl, Bool.or_true]
    wp_walk using wpAny_loadPart' hl
    repeat (first
      | (refine wpAny_ite_false (decide_eq_false (by rw [c0]; exact Bool.false_ne_true)) ?_; wp_walk using wpAny_loadPart' hl)
      | (refine wpAny_ite_true (decide_eq_true c1) ?_; wp_walk using wpAny_loadPart' hl))
    exact ⟨_, rfl, h⟩
def rRepT1 (K : PySem.W.Frag) : R2 := fun x y H Q => ∃ l xs, x = .ref l ∧ y = .int 1 ∧ SqT K H l xs ∧ Q (.ref l) H
theorem op_repT1 {X : Cx} : OpR X (binaryOp .Mult) (rRepT1 X.K) := by
  intro pins s σ H x y v u Q I rx ry h
  obtain ⟨l, xs, rfl, rfl, hT, q⟩ := h
  cases rx
  obtain ⟨t, rfl⟩ := ry
  obtain ⟨its, r, ⟨⟨cls, dd, data, sl⟩, ho, hc, n, hd⟩, hs⟩ := I.tuple hT
  simp only at hc hd
  subst hc hd
  exact wpAny_binaryOp_repeat_ref (T := "tuple") (U := "int") (by decide) ⟨_, ho, rfl⟩ (fun s' => typeIs_int s' 1 t) noFill_tuple_mul F.fills_int_mul F.slot_int_rmul repeat_tuple F.slot_int_index.lookup
    (call_meets F.slot_int_rmul (typeIs_int s 1 t) F.entry_int_rmul (F.args_int_rmul_2 _ _) (int_rmul_tuple 1 t l its.toArray n dd sl)
      ⟨ho, rfl, ⟨_, ho, rfl⟩, call_meets F.slot_tuple_mul ⟨_, ho, rfl⟩ F.entry_tuple_mul (F.args_tuple_mul_2 _ _) (tuple_mul1 l its.toArray n dd sl t) ⟨ho, .ref l, H, I, rfl, q⟩⟩)
end
/-! dicts -/
def rIxDc : R2 := fun x y H Q => ∃ a v, x = .ref a ∧ DGet H a y (some v) ∧ Q v H
theorem ix_dct {X : Cx} (hu : X.A.units + 1 < cLine) : IxR X rIxDc := by
  intro value slice pins s σ H x y v u Q I rx ry h hs
  obtain ⟨a, r, rfl, g, q⟩ := h
  obtain rfl : v = Value.ref a := rx
  exact PyProof.Rows.tail_any (dict_typeIs I g) PySem.F.slot_dict_getitem.lookup (d_getItem hu I g ry fun w' s3 I3 rw' => ⟨r, H, I3, rw', q⟩) hs
def rInDc (neg : Bool) : R2 := fun x y H Q => ∃ a o, y = .ref a ∧ DGet H a x o ∧ Q (.bl (if neg then !o.isSome else o.isSome)) H
theorem op_inDc {X : Cx} (hu : X.A.units + 1 < cLine) : OpR X (compareOp .In) (rInDc false) := by
  intro pins s σ H x y v u Q I rx ry h
  obtain ⟨a, o, rfl, g, q⟩ := h
  obtain rfl : u = Value.ref a := ry
  exact d_in hu I g rx fun s3 I3 => ⟨.bl o.isSome, H, I3, rfl, q⟩
theorem op_notInDc {X : Cx} (hu : X.A.units + 1 < cLine) : OpR X (compareOp .NotIn) (rInDc true) := by
  intro pins s σ H x y v u Q I rx ry h
  obtain ⟨a, o, rfl, g, q⟩ := h
  obtain rfl : u = Value.ref a := ry
  exact d_notIn hu I g rx fun s3 I3 => ⟨.bl (!o.isSome), H, I3, rfl, q⟩
def rLenD : List V → Hp → VK → Prop := fun xs H Q => ∃ a kvs, xs = [V.ref a] ∧ Rd H a (.dK kvs) ∧ Q (.int kvs.length) H
theorem call_lenR {X : Cx} : CallR X (.builtin "len") rLenD := by
  intro pins s σ H xs us Q I r h
  obtain ⟨a, kvs, rfl, ha, q⟩ := h
  obtain ⟨u, rfl, ru⟩ := vals1 r
  cases ru
  exact d_len I ha fun t s' I' => ⟨.int kvs.length, H, I', ⟨t, rfl⟩, q⟩
def rDict : List V → Hp → VK → Prop := fun xs H Q => ∃ (a : Addr) (kvs : List (Key × V)), xs = [.ref a] ∧ Rd H a (.dK kvs) ∧ ∀ p, H p = none → Q (.ref p) (upd H p (.dK kvs))
def rAddS0 : R2 := fun x y H Q => ∃ i j, x = .str i ∧ y = .str j ∧ i.length + j.length ≤ sizeLine ∧ Q (.str (i ++ j)) H
def rJoin (K : PySem.W.Frag) : V → List V → Hp → VK → Prop := fun x xs H Q => ∃ a p, ∃ ys : List Str, x = .str a ∧ xs = [.ref p] ∧ (SqL K H p (ys.map V.str) ∨ SqT K H p (ys.map V.str)) ∧
    (ys.map (·.length)).sum + ys.length * a.length ≤ 16777216 ∧ Q (.str (Txt.join a ys)) H
def opR (K : PySem.W.Frag) : Op → List V → Hp → VK → Prop
  | .add => r2 fun x y H Q => (rI0 (fun i j => .int (i + j)) x y H Q ∨ rCat x y H Q) ∨ (rCatA K x y H Q ∨ rAddS0 x y H Q)
  | .sub => r2 (rI0 fun i j => .int (i - j))
  | .mul => r2 fun x y H Q => (rI CMulW (fun i j => .int (i * j)) x y H Q ∨ rRep x y H Q) ∨ (rRepT K x y H Q ∨ rRepT1 K x y H Q)
  | .fdiv => r2 (rI CDivW fun i j => .int (i / j))
  | .mod => r2 (rI (fun _ j => 0 < j) fun i j => .int (i % j))
  | .pow => r2 (rI CPow fun i j => .int (i ^ j.toNat))
  | .neg => r1 (rU fun i => .int (-i))
  | .eq => r2 (rEqD K)
  | .ne => r2 (rNeD K)
  | .lt => r2 fun x y H Q => rI0 (fun i j => .bl (decide (i < j))) x y H Q ∨ rLtT K x y H Q
  | .le => r2 (rI0 fun i j => .bl (decide (i ≤ j)))
  | .gt => r2 (rI0 fun i j => .bl (decide (j < i)))
  | .ge => r2 (rI0 fun i j => .bl (decide (j ≤ i)))
  | .inn => r2 fun x y H Q => (rIn K false x y H Q ∨ rInD K x y H Q) ∨ rInDc false x y H Q
  | .notin => r2 fun x y H Q => (rIn K true x y H Q ∨ rNotInD K x y H Q) ∨ rInDc true x y H Q
  | .isN => r1 fun x H Q => rIsN' x .non H Q
  | .notN => r1 fun x H Q => rNotN' x .non H Q
  | .isB b => r1 fun x H Q => rIsD true x (.bl b) H Q
  | .notB b => r1 fun x H Q => rIsD false x (.bl b) H Q
  | .ix => r2 fun x y H Q => rIx K x y H Q ∨ rIxDc x y H Q
  | .len => fun xs H Q => (∃ x n, xs = [x] ∧ LenV K x H n ∧ Q (.int n) H) ∨ rLenD xs H Q
  | .abs => fun xs H Q => ∃ i, xs = [.int i] ∧ Q (.int (if i < 0 then -i else i)) H
  | .int => fun xs H Q => (∃ i, xs = [.int i] ∧ Q (.int i) H) ∨ ∃ k, xs = [.bl k] ∧ Q (.int (if k then 1 else 0)) H
  | .max2 => fun xs H Q => ∃ i j, xs = [.int i, .int j] ∧ Q (.int (if j > i then j else i)) H
  | .min2 => fun xs H Q => ∃ i j, xs = [.int i, .int j] ∧ Q (.int (if j < i then j else i)) H
  | .max1 => rMax K
  | .min1 => rMin K
  | .sum => rSum K
  | .list => fun xs H Q => ∃ p ys, xs = [.ref p] ∧ (SqL K H p ys ∨ SqT K H p ys) ∧ ∀ l, H l = none → Q (.ref l) (upd H l (.lst ys))
  | .tuple => fun xs H Q => ∃ p ys, xs = [.ref p] ∧ ((SqL K H p ys ∧ ∀ l, H l = none → Q (.ref l) (upd H l (.tup ys))) ∨ (SqT K H p ys ∧ Q (.ref p) H))
  | .sorted => fun vs H Q => rSortedT K vs H Q ∨ rSortedI K vs H Q
  | .isi t => r1 fun x H Q => rIsi K [x, .ty (tyStr t)] H Q
  | .slice lo hi => slR K lo hi
  | .dict => rDict
  | .rev => r1 fun x H Q => ∃ a xs, x = .ref a ∧ SqL K H a xs ∧ ∀ p, H p = none → Q (.ref p) (upd H p (.lst xs.reverse))
  | .join z => rJoin K (.str z)
  | .isE y => r1 fun x H Q => rIsX K y [x, .ref (clsA K y)] H Q
  | .isV => r1 fun x H Q => rIsV K [x, .ty "ValueError"] H Q
  | .fld g => r1 fun x H Q => ∃ cn f p, ExR K H cn f p x ∧ g = f ∧ Q (pV p) H

section
variable {X : Cx} {m : Nm} {sc : Scope} {e : Expr} {xs : List Expr} {ts : List TE}
theorem PEl.two {a b : Expr} (h : PEl X [a, b] ts) : ∃ ta tb, ts = [ta, tb] ∧ PE X a ta ∧ PE X b tb := match ts, h with
  | [ta, tb], h => ⟨ta, tb, rfl, h.1, h.2.2.1⟩
theorem PEl.one {a : Expr} (h : PEl X [a] ts) : ∃ ta, ts = [ta] ∧ PE X a ta := match ts, h with
  | [ta], h => ⟨ta, rfl, h.1⟩
theorem PEl.three {a b c : Expr} (h : PEl X [a, b, c] ts) : ∃ ta tb tc, ts = [ta, tb, tc] ∧ PE X a ta ∧ PE X b tb ∧ PE X c tc := match ts, h with
  | [ta, tb, tc], h => ⟨ta, tb, tc, rfl, h.1, h.2.2.1, h.2.2.2.2.1⟩
theorem gl_of (hX : XO X m sc) {x : Str} (h : glB sc x = true) : Gl X x ∧ (x == ("__debug__" : Str)) = false ∧ x ≠ "__name__" := by
  unfold glB at h
  simp only [Bool.and_eq_true, Bool.not_eq_true'] at h
  obtain ⟨⟨h1, h2⟩, h3⟩ := h
  refine ⟨?_, h2, fun z => by rw [z] at h3; simp at h3⟩
  show X.env.scope.names.lookup x = some .globalImplicit
  rw [hX.hsc]
  unfold kindB at h1
  split at h1
  · rename_i k e
    rw [e]
    have : k = .globalImplicit := by simpa using h1
    rw [this]
  · cases h1
theorem blt_of (hX : XO X m sc) {nm x : Str} (hm : nm ∈ bltNames) (h : bltB sc nm x = true) : x = nm ∧ Gl X x ∧ X.mg x = none ∧ (x == ("__debug__" : Str)) = false ∧ x ≠ "__name__" := by
  unfold bltB at h
  rw [Bool.and_eq_true, decide_eq_true_eq] at h
  obtain ⟨a, b, c⟩ := gl_of hX h.2
  exact ⟨h.1, a, by rw [h.1]; exact hX.blt nm hm, b, c⟩
theorem pe_bin {p : Operator} {r : R2} (ho : OpR X (binaryOp p) r) (h : binAst p e = some xs) (hp : PEl X xs ts) : PE X e (fun σ H Q => tAll ts σ H (r2 r · · Q)) := by
  unfold binAst at h
  split at h
  · split at h
    · rename_i e1
      cases h
      subst e1
      obtain ⟨ta, tb, rfl, pa, pb⟩ := hp.two
      exact pe_op ho pa pb
    · cases h
  · cases h
theorem pe_cmpO {p : CmpOp} {r : R2} (ho : OpR X (compareOp p) r) (h : cmpAst p e = some xs) (hp : PEl X xs ts) : PE X e (fun σ H Q => tAll ts σ H (r2 r · · Q)) := by
  unfold cmpAst at h
  split at h
  · split at h
    · rename_i e1
      cases h
      obtain ⟨e1, e2⟩ := e1
      subst e1
      obtain ⟨ta, tb, rfl, pa, pb⟩ := hp.two
      exact pe_cmpR ho pa pb e2
    · cases h
  · cases h
theorem pe_bltO (hX : XO X m sc) {nm : Str} {k : Nat} {id : String} {r : List V → Hp → VK → Prop} (hc : CallR X (.builtin id) r) (hv : bootBuiltins nm = some (.builtin id)) (hm : nm ∈ bltNames) (h : bltAst sc nm k e = some xs) (hp : PEl X xs ts) : PE X e (fun σ H Q => tAll ts σ H (r · · Q)) := by
  unfold bltAst at h
  split at h
  · split at h
    · rename_i e1
      cases h
      obtain ⟨e1, e2⟩ := e1
      obtain ⟨ex, hg, hn, hd, h__⟩ := blt_of hX hm e1
      subst ex
      cases ts with
      | nil => exact hp.elim
      | cons t ts =>
        exact pe_callB hc hg hn hv (PEl.pa hp) h__ hd (hp.2.1 _ _) (PEl.stars _ hp.2.2 _)
    · cases h
  · cases h
theorem pe_tyO (hX : XO X m sc) {nm : Str} {k : Nat} {id : String} {r : List V → Hp → VK → Prop} (hc : CallR X (.type id) r) (hv : bootBuiltins nm = some (.type id)) (hm : nm ∈ bltNames) (h : bltAst sc nm k e = some xs) (hp : PEl X xs ts) : PE X e (fun σ H Q => tAll ts σ H (r · · Q)) := by
  unfold bltAst at h
  split at h
  · split at h
    · rename_i e1
      cases h
      obtain ⟨e1, e2⟩ := e1
      obtain ⟨ex, hg, hn, hd, h__⟩ := blt_of hX hm e1
      subst ex
      cases ts with
      | nil => exact hp.elim
      | cons t ts =>
        exact pe_callTy hc hg hn hv (PEl.pa hp) h__ hd (hp.2.1 _ _) (PEl.stars _ hp.2.2 _)
    · cases h
  · cases h
theorem pe_isNO {p : CmpOp} {r : R2} (ho : OpR X (compareOp p) r) (h1 : p ≠ .In) (h2 : p ≠ .NotIn) (h : isNAst p e = some xs) (hp : PEl X xs ts) : PE X e (fun σ H Q => tAll ts σ H (r1 (fun x H Q => r x .non H Q) · · Q)) := by
  unfold isNAst at h
  split at h
  · split at h
    · rename_i e1
      cases h
      subst e1
      obtain ⟨ta, rfl, pa⟩ := hp.one
      exact pe_cmpR ho pa pe_non (nomark _ h1 h2)
    · cases h
  · cases h
theorem pe_isBO {p : CmpOp} {b : Bool} {r : R2} (ho : OpR X (compareOp p) r) (h1 : p ≠ .In) (h2 : p ≠ .NotIn) (h : isBAst p b e = some xs) (hp : PEl X xs ts) : PE X e (fun σ H Q => tAll ts σ H (r1 (fun x H Q => r x (.bl b) H Q) · · Q)) := by
  unfold isBAst at h
  split at h
  · split at h
    · rename_i e1
      cases h
      obtain ⟨e1, e2⟩ := e1
      subst e1
      subst e2
      obtain ⟨ta, rfl, pa⟩ := hp.one
      exact pe_cmpR ho pa pe_bl (nomark _ h1 h2)
    · cases h
  · cases h
theorem plain_of {b : Expr} (h : notSlice b = true) : PlainIx b := by
  cases b <;> first
    | (exact fun _ _ => rfl)
    | (unfold notSlice at h; cases h)
theorem pe_ixO {r : R2} (ho : IxR X r) (h : ixAst e = some xs) (hp : PEl X xs ts) : PE X e (fun σ H Q => tAll ts σ H (r2 r · · Q)) := by
  unfold ixAst at h
  split at h
  · split at h
    · rename_i e1
      cases h
      obtain ⟨ta, tb, rfl, pa, pb⟩ := hp.two
      exact pe_ix ho pa pb (plain_of e1)
    · cases h
  · cases h
theorem pe_sliceO {lo hi : Bool} (h : sliceAst lo hi e = some xs) (hp : PEl X xs ts) : PE X e (fun σ H Q => tAll ts σ H (slR X.K lo hi · · Q)) := by
  unfold sliceAst at h
  split at h
  · split at h
    · rename_i e1
      cases h
      obtain ⟨rfl, rfl⟩ := e1
      obtain ⟨ta, rfl, pa⟩ := hp.one
      exact pe_slice (sl_list.or sl_tupA) pa po_none po_none
    · cases h
  · split at h
    · rename_i e1
      cases h
      obtain ⟨rfl, rfl⟩ := e1
      obtain ⟨ta, tb, rfl, pa, pb⟩ := hp.two
      exact pe_slice (sl_list.or sl_tupA) pa (po_some pb) po_none
    · cases h
  · split at h
    · rename_i e1
      cases h
      obtain ⟨rfl, rfl⟩ := e1
      obtain ⟨ta, tb, rfl, pa, pb⟩ := hp.two
      exact pe_slice (sl_list.or sl_tupA) pa po_none (po_some pb)
    · cases h
  · cases h
theorem pe_revO (h : revAst e = some xs) (hp : PEl X xs ts) : PE X e (fun σ H Q => tAll ts σ H (opR X.K .rev · · Q)) := by
  unfold revAst at h
  split at h
  · cases h
    obtain ⟨ta, rfl, pa⟩ := hp.one
    exact pe_revL pa
  · cases h
theorem pe_joinO {y : Str} (h : joinAst y e = some xs) (hp : PEl X xs ts) : PE X e (fun σ H Q => tAll ts σ H (opR X.K (.join y) · · Q)) := by
  unfold joinAst at h
  split at h
  · split at h
    · rename_i e1
      cases h
      obtain ⟨e0, e1, e2⟩ := e1
      subst e0
      subst e1
      obtain ⟨ta, rfl, pa⟩ := hp.one
      have nb := hp.2.1
      exact PE.imp (pe_bm PySem.F.plainAttrs_str PySem.F.slot_str_join PySem.F.type_str_join (mt_join (X := X)) pe_str (pa_cons pa pa_nil (nb _ _)) rfl (by rw [nb]; rfl) e2 (nb _ _) rfl) fun σ H Q q => ⟨rfl, q⟩
    · cases h
  · cases h
theorem ty_mem (t : Ty) : tyName t ∈ bltNames := by cases t <;> decide
theorem boot_ty (t : Ty) : bootBuiltins (tyName t) = some (.type (tyStr t)) := by cases t <;> decide +kernel
theorem boot_isi : bootBuiltins "isinstance" = some (.builtin "isinstance") := by decide +kernel
theorem pe_isiO (hX : XO X m sc) {t : Ty} (h : isiAst sc t e = some xs) (hp : PEl X xs ts) : PE X e (fun σ H Q => tAll ts σ H (r1 (fun x H Q => rIsi X.K [x, .ty (tyStr t)] H Q) · · Q)) := by
  unfold isiAst at h
  split at h
  · split at h
    · rename_i e1
      cases h
      obtain ⟨e1, e2⟩ := e1
      obtain ⟨ex, hg, hn, hd, h__⟩ := blt_of hX (by decide) e1
      obtain ⟨ey, hg', hn', hd', h__'⟩ := blt_of hX (ty_mem t) e2
      subst ex
      subst ey
      obtain ⟨ta, rfl, pa⟩ := hp.one
      have pb := fun ps => pe_bltn (pos := ps) (v := .ty (tyStr t)) hg' hn' (boot_ty t) rfl h__' hd'
      have pc := fun ps => pa_cons (t := tCons (tC (.ty (tyStr t))) tNil) pa (pa_cons (pb ps) pa_nil) (hp.2.1 _ _)
      show PE X _ (tCB (rIsi X.K) (tCons ta (tCons (tC (.ty (tyStr t))) tNil)))
      exact pe_callB call_isi hg hn boot_isi (pc _) h__ hd (hp.2.1 _ _) rfl
    · cases h
  · cases h
/-- a caught error, looked at -/
theorem exR_at {pins : List (Addr × Obj)} {σ : St} {H : Hp} {s : Shared} (I : Inv X pins σ H s) {C d a : Addr} {fs : List (Str × V)} (ha : H a = some (exA C d a)) (hd : H d = some (.xd fs)) :
    ∃ (oe od : Obj) (mA : Str → Option Value), PySem.W.InstAt s.heap a oe C (some od) ∧ (∀ n, PySem.W.lookIn n od = some (mA n)) ∧ ∀ n, RelO (fs.lookup n) (mA n) := by
  have x : ObjOk X.prog X.w H s.heap a (exA C d a) := I.hok a _ ha
  obtain ⟨oe, vs, e1, e2, e3, e4⟩ := (show ∃ (oe : Obj) (vs : Array Value), s.heap.get? a = some oe ∧ oe.cls = .ref C ∧ oe.dict = some d ∧ oe.data = .fields vs from x.1)
  have hx : ObjOk X.prog X.w H s.heap d (.xd fs) := I.hok d _ hd
  obtain ⟨mA, hns, hr⟩ := hx
  obtain ⟨od, ho, hl⟩ := lookIn_ns hns
  exact ⟨oe, od, mA, ⟨e1, e2, by unfold PySem.W.notCls; rw [e4] <;> rfl, by rw [e3]; exact ho⟩, hl, hr⟩
theorem exR_kit {pins : List (Addr × Obj)} {σ : St} {H : Hp} {s : Shared} (I : Inv X pins σ H s) {cn f : Str} {p : Sum Int Str} {x : V} {u cv : Value} {b : Bool} {Q : Value → Shared → Prop} {E : Value → Shared → Prop} (T : ExR X.K H cn f p x) (rx : RelV x u)
    (e : ∀ C, ExK X.K cn f C → PySem.W.kitOne X.K (.ref C) cv = some b) (h : ∀ tk, Q (.bool b) { s with toks := tk }) : wpAny (model X.prog X.w) X.A (call (.builtin "isinstance") [u, cv]) Q E s := by
  obtain ⟨a, d, C, rfl, T, ha, hd⟩ := T
  obtain rfl : u = Value.ref a := rx
  obtain ⟨oe, od, mA, J, _, _⟩ := exR_at I ha hd
  have hcl : (PySem.W.clsIn X.K C).isSome = true := by
    obtain ⟨cd, hc, _⟩ := PySem.W.any_some T.hdC
    rw [hc]; rfl
  exact PySem.W.kia_one (PySem.W.kitx_exc (ox := oe) (od := some od) hcl T.ga T.gg T.exC T.ca T.cg T.ct T.cm) I.kIn J (e C T) (fun z => nomatch z) h
theorem cr_isX {y : Str} (hy : PySem.W.nsIn X.K mainGlobals y = some (some (.ref (clsA X.K y)))) : CallR X (.builtin "isinstance") (rIsX X.K y) := by
  intro pins s σ H xs us Q I r h
  obtain ⟨x, cn, f, p, rfl, T, hn, q⟩ := h
  obtain ⟨u1, u2, rfl, r1, r2⟩ := vals2 r
  obtain rfl : u2 = Value.ref (clsA X.K y) := r2
  exact exR_kit I T r1 (fun C z => z.is y hn _ hy) fun tk => ⟨.bl _, H, I.tok tk, rfl, q⟩
theorem cr_isV : CallR X (.builtin "isinstance") (rIsV X.K) := by
  intro pins s σ H xs us Q I r h
  obtain ⟨x, cn, f, p, rfl, T, q⟩ := h
  obtain ⟨u1, u2, rfl, r1, r2⟩ := vals2 r
  obtain rfl : u2 = Value.type "ValueError" := r2
  exact exR_kit I T r1 (fun C z => z.iv) fun tk => ⟨.bl _, H, I.tok tk, rfl, q⟩
theorem pe_isEO (hX : XO X m sc) {c : Str} (hc : clB m (.isE c) = true) (h : isEAst sc c e = some xs) (hp : PEl X xs ts) : PE X e (fun σ H Q => tAll ts σ H (opR X.K (.isE c) · · Q)) := by
  unfold isEAst at h
  split at h
  · split at h
    · rename_i e1
      cases h
      obtain ⟨e1, e2, e3⟩ := e1
      have e2 := e2.symm
      subst e2
      obtain ⟨ex, hg, hn, hd, h__⟩ := blt_of hX (by decide) e1
      obtain ⟨hg', hd', h__'⟩ := gl_of hX e3
      subst ex
      obtain ⟨CY, m1, m2⟩ := hX.ecl _ (of_decide_eq_true hc)
      have eC : CY = clsA X.K c := by
        unfold clsA
        rw [m2]
      rw [eC] at m1 m2
      obtain ⟨ta, rfl, pa⟩ := hp.one
      have pb := fun ps => pe_glob (pos := ps) (v := .ref (clsA X.K c)) hg' m1 rfl hd'
      have pc := fun ps => pa_cons (t := tCons (tC (.ref (clsA X.K c))) tNil) pa (pa_cons (pb ps) pa_nil) (hp.2.1 _ _)
      show PE X _ (tCB (rIsX X.K c) (tCons ta (tCons (tC (.ref (clsA X.K c))) tNil)))
      exact pe_callB (cr_isX m2) hg hn boot_isi (pc _) h__ hd (hp.2.1 _ _) rfl
    · cases h
  · cases h
theorem boot_VE : bootBuiltins "ValueError" = some (.type "ValueError") := by decide +kernel
theorem pe_isVO (hX : XO X m sc) (h : isVAst sc e = some xs) (hp : PEl X xs ts) : PE X e (fun σ H Q => tAll ts σ H (opR X.K .isV · · Q)) := by
  unfold isVAst at h
  split at h
  · split at h
    · rename_i e1
      cases h
      obtain ⟨e1, e2⟩ := e1
      obtain ⟨ex, hg, hn, hd, h__⟩ := blt_of hX (by decide) e1
      obtain ⟨ey, hg', hn', hd', h__'⟩ := blt_of hX (by decide) e2
      subst ex
      subst ey
      obtain ⟨ta, rfl, pa⟩ := hp.one
      have pb := fun ps => pe_bltn (pos := ps) (v := .ty "ValueError") hg' hn' boot_VE rfl h__' hd'
      have pc := fun ps => pa_cons (t := tCons (tC (.ty "ValueError")) tNil) pa (pa_cons (pb ps) pa_nil) (hp.2.1 _ _)
      show PE X _ (tCB (rIsV X.K) (tCons ta (tCons (tC (.ty "ValueError")) tNil)))
      exact pe_callB cr_isV hg hn boot_isi (pc _) h__ hd (hp.2.1 _ _) rfl
    · cases h
  · cases h
theorem relO_one {g : Str} {v : V} {mA : Str → Option Value} (hr : ∀ n, RelO (([(g, v)] : List (Str × V)).lookup n) (mA n)) : ∃ u, mA g = some u ∧ RelV v u := by
  have h := hr g
  have e : ([(g, v)] : List (Str × V)).lookup g = some v := by simp [List.lookup]
  rw [e] at h
  exact RelO.some_of h
theorem pe_fldO {g : Str} (h : fldAst g e = some xs) (hp : PEl X xs ts) : PE X e (fun σ H Q => tAll ts σ H (opR X.K (.fld g) · · Q)) := by
  unfold fldAst at h
  split at h
  · split at h
    · rename_i e1
      cases h
      subst e1
      obtain ⟨ta, rfl, pa⟩ := hp.one
      refine ⟨fun pins s σ H Q I h => attr_of rfl (thn (pa.run pins s σ H _ I h) fun u s1 hh => ?_)⟩
      obtain ⟨x, H1, I1, rx, cn, f, p, T, ef, q⟩ := hh
      subst ef
      obtain ⟨a, d, C, rfl, T, ha, hd⟩ := T
      obtain rfl : u = Value.ref a := rx
      obtain ⟨oe, od, mA, J, hl, hr⟩ := exR_at I1 ha hd
      obtain ⟨u', hu, ru⟩ := relO_one hr
      exact PySem.HandSPX.exc_get I1.kIn J T.ga T.gg T.exC (PySem.W.findObj_own T.hdC T.no rfl (by rw [hl, hu])) (handed_of ru) ⟨pV p, H1, I1.tok _, ru, q⟩
    · cases h
  · cases h
theorem boot_sum : bootBuiltins "sum" = some (.builtin "sum") := by decide +kernel
theorem pe_opO (hX : XO X m sc) {o : Op} (hc : clB m o = true) (h : opAst sc o e = some xs) (hp : PEl X xs ts) : PE X e (fun σ H Q => tAll ts σ H (opR X.K o · · Q)) := by
  have hu : X.A.units < cLine := by have := hX.un; omega
  cases o with
  | add => exact pe_bin ((op_add.or op_cat).or (op_catA.or op_add_str)) h hp
  | sub => exact pe_bin op_sub h hp
  | mul => exact pe_bin ((op_mulW.or op_rep).or (op_repT.or op_repT1)) h hp
  | fdiv => exact pe_bin op_fdivW h hp
  | mod => exact pe_bin op_mod h hp
  | pow => exact pe_bin op_pow h hp
  | neg =>
    have h : negAst e = some xs := h
    unfold negAst at h
    split at h
    · cases h
      obtain ⟨ta, rfl, pa⟩ := hp.one
      exact pe_un un_neg pa
    · cases h
  | eq => exact pe_cmpO (op_eqD (by have := hX.un; omega)) h hp
  | ne => exact pe_cmpO (op_neD (by have := hX.un; omega)) h hp
  | lt => exact pe_cmpO (op_lt.or (op_ltT hu)) h hp
  | le => exact pe_cmpO op_le h hp
  | gt => exact pe_cmpO op_gt h hp
  | ge => exact pe_cmpO op_ge h hp
  | inn => exact pe_cmpO ((op_in_seq.or (op_inD (by have := hX.un; omega))).or (op_inDc (by have := hX.un; omega))) h hp
  | notin => exact pe_cmpO ((op_notIn_seq.or (op_notInD (by have := hX.un; omega))).or (op_notInDc (by have := hX.un; omega))) h hp
  | isN => exact pe_isNO (r := rIsN') op_isN (by decide) (by decide) h hp
  | notN => exact pe_isNO (r := rNotN') op_notN (by decide) (by decide) h hp
  | isB b => exact pe_isBO op_isD (by decide) (by decide) h hp
  | notB b => exact pe_isBO op_notD (by decide) (by decide) h hp
  | ix => exact pe_ixO (ix_seq.or (ix_dct (by have := hX.un; omega))) h hp
  | len => exact pe_bltO hX (call_len.or call_lenR) boot_len (by decide) h hp
  | abs => exact pe_bltO hX call_abs (by decide +kernel) (by decide) h hp
  | int => exact pe_tyO hX call_int1 (by decide +kernel) (by decide) h hp
  | max2 => exact pe_bltO hX (call_max2 hX.calm) (by decide +kernel) (by decide) h hp
  | min2 => exact pe_bltO hX (call_min2 hX.calm) (by decide +kernel) (by decide) h hp
  | max1 => exact pe_bltO hX (cr_max hX.calm) (by decide +kernel) (by decide) h hp
  | min1 => exact pe_bltO hX (cr_min hX.calm) (by decide +kernel) (by decide) h hp
  | sum => exact pe_bltO hX (cr_sum hX.calm) boot_sum (by decide) h hp
  | list => exact pe_tyO hX call_list_of (by decide +kernel) (by decide) h hp
  | tuple => exact pe_tyO hX call_tuple_of (by decide +kernel) (by decide) h hp
  | sorted => exact pe_bltO hX cr_sortedB (by decide +kernel) (by decide) h hp
  | isi t => exact pe_isiO hX h hp
  | slice lo hi => exact pe_sliceO h hp
  | dict => exact pe_tyO hX call_dictD (by decide +kernel) (by decide) h hp
  | rev => exact pe_revO h hp
  | join z => exact pe_joinO h hp
  | isE y => exact pe_isEO hX hc h hp
  | isV => exact pe_isVO hX h hp
  | fld f => exact pe_fldO h hp
end
end Own

end
section
set_option maxHeartbeats 1000000
namespace Own
open PySem PySem.Spec L2

/-- values in hand, from place n on -/
def Vat (K : PySem.W.Frag) (N : Nat) (H : Hp) (F : Fpt) : Nat → List W → List V → Prop
  | _, [], vs => vs = []
  | n, w :: ws, vs => ∃ v r, vs = v :: r ∧ At K N H F n w v ∧ Vat K N H F (n + 1) ws r
section
variable {K : PySem.W.Frag} {N n m : Nat} {Γ : Gm} {σ : L2.St} {H H' H2 : Hp} {F F' F2 : Fpt} {w a b c : W} {x v : V} {vs : List V} {d : D} {Q : VK}
theorem Vat.one (h : Vat K N H F n [a] vs) : ∃ x, vs = [x] ∧ At K N H F n a x := by
  obtain ⟨x, r, e, h1, h2⟩ := h
  rw [show r = [] from h2] at e
  exact ⟨x, e, h1⟩
theorem Vat.two (h : Vat K N H F n [a, b] vs) : ∃ x y, vs = [x, y] ∧ At K N H F n a x ∧ At K N H F (n + 1) b y := by
  obtain ⟨x, r, e, h1, y, r', e', h2, h3⟩ := h
  rw [show r' = [] from h3] at e'
  exact ⟨x, y, by rw [e, e'], h1, h2⟩
theorem Nw.trans (A : Nw n H F H' F') (B : Nw n H' F' H2 F2) : Nw n H F H2 F2 where
  same := A.same.trans B.same
  lo := fun k h => (B.lo k h).trans (A.lo k h)
  fr := fun k a h e => by
    rcases B.fr k a h e with ⟨k', h1, h2⟩ | z
    · exact A.fr k' a h1 h2
    · exact .inr (A.same.free z)
theorem Fin.after {Γ : Gm} (A : Nw n H F H' F') (B : Fin K Γ σ H' F' n w v H2 F2) : Fin K Γ σ H F n w v H2 F2 := ⟨B.gd, B.at_, A.trans B.nw⟩
/-- a value in hand, read once nothing is in hand any longer -/
theorem At.fall {k : Nat} (h : At K N H F k w v) (hk : n ≤ k) (dj : ∀ i j a, a ∈ F i → a ∈ F j → i = j) : Rep K (cut H (Oth (low n F) w.rs)) w.d v :=
  ORep.rep (cut_sub fun a o no e => ⟨e, fun z => no (oth_low z)⟩) (fun a ha o e => cut_some.mpr ⟨fun ⟨j, hj, z⟩ => by
    unfold low at z
    split at z
    · have := dj k j a ha z
      omega
    · exact absurd z List.not_mem_nil, e⟩) h.rep
theorem OReps.app {l : Nat} {R : Hp} : ∀ {xs : List D} {us : List V} {f : List Addr} {ys : List D} {vs : List V} {g : List Addr}, OReps K H R l xs us f → OReps K H R l ys vs g → OReps K H R l (xs ++ ys) (us ++ vs) (f ++ g)
  | [], us, f, ys, vs, g, h, h' => by
    unfold OReps at h
    rw [h.1, h.2]
    exact h'
  | x :: xs, us, f, ys, vs, g, h, h' => by
    unfold OReps at h
    obtain ⟨y, r, f1, f2, e, ef, h1, h2⟩ := h
    rw [e, ef]
    show OReps K H R l (x :: (xs ++ ys)) (y :: (r ++ vs)) (f1 ++ f2 ++ g)
    unfold OReps
    exact ⟨y, r ++ vs, f1, f2 ++ g, rfl, List.append_assoc .., h1, OReps.app h2 h'⟩
/-- two lists that are owned with all within, as one -/
theorem fin_cat (G : Gd K Γ σ H F m) (hN : Γ.length ≤ n) {xs ys : List D} {p p' : Addr} {us us' : List V} (ha : At K Γ.length H F n a (.ref p)) (hb : At K Γ.length H F (n + 1) b (.ref p')) (ea : a.d = .lst xs) (eb : b.d = .lst ys) (da : dp8 a = true) (db : dp8 b = true) (q1 : H p = some (.lst us)) (q2 : H p' = some (.lst us')) {z : Addr} (hz : H z = none) :
    ∃ F', Fin K Γ σ H F n ⟨8, [], .lst (xs ++ ys)⟩ (.ref z) (upd H z (.lst (us ++ us'))) F' := by
  unfold dp8 at da db
  rw [Bool.and_eq_true, decide_eq_true_eq, List.isEmpty_iff] at da db
  have r1 := ha.rep
  have r2 := hb.rep
  rw [ea, da.1, da.2] at r1
  rw [eb, db.1, db.2] at r2
  obtain ⟨p1, vs1, f1, e1, h1, ef1, o1⟩ := r1
  obtain ⟨p2, vs2, f2, e2, h2, ef2, o2⟩ := r2
  cases e1
  cases e2
  rw [q1] at h1
  cases h1
  rw [q2] at h2
  cases h2
  have n1 := G.nd n
  have n2 := G.nd (n + 1)
  rw [ef1] at n1
  rw [ef2] at n2
  have m1 : ∀ c ∈ f1, c ∈ F n := fun c hc => by rw [ef1]; exact List.mem_cons_of_mem _ hc
  have m2 : ∀ c ∈ f2, c ∈ F (n + 1) := fun c hc => by rw [ef2]; exact List.mem_cons_of_mem _ hc
  have mo : ∀ c, c ∈ f1 ++ f2 → ∃ k, n ≤ k ∧ c ∈ F k := fun c hc => (List.mem_append.mp hc).elim (fun q => ⟨n, Nat.le_refl n, m1 c q⟩) fun q => ⟨n + 1, Nat.le_succ n, m2 c q⟩
  have nz : z ∉ f1 ++ f2 := fun q => by
    obtain ⟨k, _, k2⟩ := mo z q
    obtain ⟨xs, q⟩ := G.obj k z k2
    rw [hz] at q; cases q
  have nd : (z :: (f1 ++ f2)).Nodup := List.nodup_cons.mpr ⟨nz, List.nodup_append.mpr ⟨(List.nodup_cons.mp n1).2, (List.nodup_cons.mp n2).2, fun c hc d hd e => by
    subst e
    have := G.dj n (n + 1) c (m1 c hc) (m2 c hd)
    omega⟩⟩
  have s : Same H (upd H z (.lst (us ++ us'))) := fun c o e => by rw [upd_ne (ne_of_none e hz)]; exact e
  have lo : ∀ k, k < n → put (low n F) n (z :: (f1 ++ f2)) k = F k := fun k hk => by rw [put_ne (by omega), low_lt hk]
  have hi : ∀ k c, n ≤ k → c ∈ put (low n F) n (z :: (f1 ++ f2)) k → k = n ∧ c ∈ z :: (f1 ++ f2) := fun k c hk e => by
    by_cases q : k = n
    · subst q
      rw [put_same] at e
      exact ⟨rfl, e⟩
    · rw [put_ne q, low_ge hk] at e; cases e
  have fr : ∀ k c, n ≤ k → c ∈ put (low n F) n (z :: (f1 ++ f2)) k → (∃ k', n ≤ k' ∧ c ∈ F k') ∨ H c = none := fun k c hk e => by
    rcases List.mem_cons.mp (hi k c hk e).2 with q | q
    · rw [q]; exact .inr hz
    · exact .inl (mo c q)
  have cs : Sub (cut H (Oth F [])) (cut (upd H z (.lst (us ++ us'))) (Oth (put (low n F) n (z :: (f1 ++ f2))) [])) := cut_sub fun c o no e => ⟨s _ _ e, fun ⟨j, _, q⟩ => by
    by_cases hj : j < n
    · rw [lo j hj] at q; exact no ⟨j, List.not_mem_nil, q⟩
    · rcases List.mem_cons.mp (hi j c (by omega) q).2 with q | q
      · rw [q, hz] at e; cases e
      · obtain ⟨k, _, k2⟩ := mo c q
        exact no ⟨k, List.not_mem_nil, k2⟩⟩
  refine ⟨put (low n F) n (z :: (f1 ++ f2)), G.temps hN (Nat.le_succ n) s lo (fun k hk => by rw [put_ne (by omega), low_ge (by omega)]) fr (fun k hk => ?_) (fun i j c h1 h2 e1 e2 => by rw [(hi i c h1 e1).1, (hi j c h2 e2).1]) (fun k c hk e => ?_), ⟨(fun _ q => nomatch q), ?_⟩, ⟨s, lo, fr⟩⟩
  · by_cases q : k = n
    · subst q; rw [put_same]; exact nd
    · rw [put_ne q, low_ge hk]; exact List.nodup_nil
  · rcases List.mem_cons.mp (hi k c hk e).2 with q | q
    · rw [q]; exact ob_lst upd_same
    · obtain ⟨k', _, k2⟩ := mo c q
      obtain ⟨xs, q⟩ := G.obj k' c k2
      exact ⟨xs, s _ _ q⟩
  · rw [put_same]
    exact ⟨z, us ++ us', f1 ++ f2, rfl, upd_same, rfl, OReps.app (OReps.mono cs (fun c _ o e => s _ _ e) o1) (OReps.mono cs (fun c _ o e => s _ _ e) o2)⟩
theorem reads_int {n : Int} (h : At K N H F m a x) (e : a.d = .int n) : x = .int n := by
  have := h.read
  rw [e] at this
  exact this
theorem reads_bl {n : Bool} (h : At K N H F m a x) (e : a.d = .bl n) : x = .bl n := by
  have := h.read
  rw [e] at this
  exact this
theorem reads_lst {ds : List D} (h : At K N H F m a x) (e : a.d = .lst ds) : ∃ p vs, x = .ref p ∧ H p = some (.lst vs) ∧ Reps K H ds vs := by
  have := h.read
  rw [e] at this
  exact this
theorem reads_tup {ds : List D} (h : At K N H F m a x) (e : a.d = .tup ds) : ∃ p vs, x = .ref p ∧ SqT K H p vs ∧ Reps K H ds vs := by
  have := h.read
  rw [e] at this
  exact this
theorem reads_dct {t : Bool} {ks : List (List Key)} {ds : List D} (h : At K N H F m a x) (e : a.d = .dct t ks ds) : ∃ p vs, x = .ref p ∧ Rd H p (dHO t ks vs) ∧ Reps K H ds vs := by
  have q := h.read
  rw [e] at q
  exact q
theorem keyD_rep {d : D} {v : V} {k : Key} (e : keyD d = some k) (h : Rep K H d v) : v = kV k := by
  cases d with
  | int i => cases e; exact h
  | str x => cases e; exact h
  | _ => cases e
theorem Reps.find : ∀ {ks : List Key} {ds : List D} {us : List V} (k : Key), Reps K H ds us → (∃ d v, findK (ks.zip ds) k = some d ∧ valV (ks.zip us) k = some v ∧ Rep K H d v) ∨ (findK (ks.zip ds) k = none ∧ valV (ks.zip us) k = none)
  | [], ds, us, k, h => .inr ⟨rfl, rfl⟩
  | j :: ks, [], us, k, h => by rw [show us = [] from h]; exact .inr ⟨rfl, rfl⟩
  | j :: ks, d :: ds, us, k, h => by
    obtain ⟨v, r, e, h1, h2⟩ := h
    subst e
    rw [List.zip_cons_cons, List.zip_cons_cons]
    by_cases q : j = k
    · refine .inl ⟨d, v, ?_, valV_pos q, h1⟩
      unfold findK
      rw [List.find?_cons_of_pos (by simpa using q)]
      rfl
    · rw [valV_neg (p := (j, v)) q]
      have : findK ((j, d) :: ks.zip ds) k = findK (ks.zip ds) k := by
        unfold findK
        rw [List.find?_cons_of_neg (by simpa using q)]
      rw [this]
      exact Reps.find k h2
theorem Reps.dget {ks : List (List Key)} {ds : List D} {us : List V} {k : Key} {d : D} (h : Reps K H ds us) (e : dget ks ds k = some d) : ∃ v, valV ((ks.map k1).zip us) k = some v ∧ Rep K H d v := by
  rcases Reps.find (ks := ks.map k1) k h with ⟨d', v, e1, e2, e3⟩ | ⟨e1, _⟩
  · unfold Own.dget at e
    rw [e1] at e
    cases e
    exact ⟨v, e2, e3⟩
  · unfold Own.dget at e
    rw [e1] at e
    cases e
theorem Reps.dgetN {ks : List (List Key)} {ds : List D} {us : List V} {k : Key} (h : Reps K H ds us) (e : Own.dget ks ds k = none) : valV ((ks.map k1).zip us) k = none := by
  rcases Reps.find (ks := ks.map k1) k h with ⟨d', v, e1, e2, e3⟩ | ⟨_, e1⟩
  · unfold Own.dget at e
    rw [e1] at e
    cases e
  · exact e1
theorem Reps.dgetB {ks : List (List Key)} {ds : List D} {us : List V} {k : Key} (h : Reps K H ds us) : (valV ((ks.map k1).zip us) k).isSome = (Own.dget ks ds k).isSome := by
  cases q : Own.dget ks ds k with
  | none => rw [Reps.dgetN h q]; rfl
  | some d =>
    obtain ⟨v, e, _⟩ := Reps.dget h q
    rw [e]; rfl
theorem reads_scr {ns : List Int} (h : At K N H F m a x) (e : a.d = .scr ns) : ∃ p, x = .ref p ∧ SqL K H p (ns.map V.int) := by
  have := h.read
  rw [e] at this
  obtain ⟨p, e, q⟩ := this
  exact ⟨p, e, q.l⟩
mutual
theorem Rep.dp : ∀ {d : D} {v : V}, pln d = true → Rep K H d v → Dp K H v (toPy d)
  | .non, _, _, h => by rw [show _ = V.non from h]; exact .non
  | .bl b, _, _, h => by rw [show _ = V.bl b from h]; exact .bl b
  | .int b, _, _, h => by rw [show _ = V.int b from h]; exact .int b
  | .str b, _, _, h => by rw [show _ = V.str b from h]; exact .str b
  | .tup ds, _, p, h => by
    obtain ⟨a, vs, e, q, r⟩ := h
    rw [e]
    exact .tup q (Reps.dp (by unfold pln at p; exact p) r)
  | .lst ds, _, p, h => by
    obtain ⟨a, vs, e, q, r⟩ := h
    rw [e]
    exact .lst (.of q) (Reps.dp (by unfold pln at p; exact p) r)
  | .scr ns, _, _, h => by
    obtain ⟨a, e, q⟩ := h
    rw [e]
    exact .lst q.l (dp_ints ns)
  | .exn _ _ _, _, p, _ => by unfold pln at p; cases p
  | .dct _ _ _, _, p, _ => by unfold pln at p; cases p
theorem Reps.dp : ∀ {ds : List D} {vs : List V}, plnAll ds = true → Reps K H ds vs → DpAll K H vs (toPy.toPys ds)
  | [], _, _, h => by rw [show _ = [] from h]; exact .nil
  | d :: ds, _, p, h => by
    obtain ⟨v, r, e, h1, h2⟩ := h
    unfold plnAll at p
    rw [Bool.and_eq_true] at p
    rw [e]
    exact .cons (Rep.dp p.1 h1) (Reps.dp p.2 h2)
theorem dp_ints : ∀ ns : List Int, DpAll K H (ns.map V.int) (ns.map .int)
  | [] => .nil
  | n :: r => .cons (.int n) (dp_ints r)
end
theorem scal_flat (s : scalD d = true) (h : Rep K H d v) : flatV v = true := by
  cases d with
  | non => rw [show v = V.non from h]; rfl
  | bl b => rw [show v = V.bl b from h]; rfl
  | int b => rw [show v = V.int b from h]; rfl
  | str b => rw [show v = V.str b from h]; rfl
  | tup _ => cases s
  | lst _ => cases s
  | scr _ => cases s
  | exn _ _ _ => cases s
  | dct _ _ _ => cases s
theorem scal_all : ∀ {ds : List D} {vs : List V}, ds.all scalD = true → Reps K H ds vs → vs.all flatV = true
  | [], vs, _, h => by rw [show vs = [] from h]; rfl
  | d :: ds, vs, s, h => by
    obtain ⟨v, r, e, h1, h2⟩ := h
    rw [List.all_cons, Bool.and_eq_true] at s
    rw [e, List.all_cons, scal_flat s.1 h1, scal_all s.2 h2]
    rfl
theorem scal_eq {d' : D} {v' : V} (s : scalD d = true) (s' : scalD d' = true) (h : Rep K H d v) (h' : Rep K H d' v') : eqV v v' = deqF d d' := by
  cases d <;> cases s <;> cases d' <;> cases s' <;> (rw [show v = _ from h, show v' = _ from h']; rfl)
theorem scal_any {d' : D} {v' : V} (s' : scalD d' = true) (h' : Rep K H d' v') : ∀ {ds : List D} {vs : List V}, ds.all scalD = true → Reps K H ds vs → inV v' vs = ds.any fun y => deqF y d'
  | [], vs, _, h => by rw [show vs = [] from h]; rfl
  | d :: ds, vs, s, h => by
    obtain ⟨v, r, e, h1, h2⟩ := h
    rw [List.all_cons, Bool.and_eq_true] at s
    have q := scal_any s' h' s.2 h2
    unfold inV at q ⊢
    rw [e, List.any_cons, List.any_cons, q, scal_eq s.1 s' h1 h']
theorem any_toPys (d : D) : ∀ xs : List D, ((toPy.toPys xs).any fun z => PyData.eqv z (toPy d)) = xs.any fun y => deq y d
  | [] => rfl
  | x :: xs => by
    show (PyData.eqv (toPy x) (toPy d) || (toPy.toPys xs).any _) = (deq x d || xs.any _)
    rw [any_toPys d xs]
    rfl
theorem strsD_of : ∀ {ds : List D} {vs : List V} {ys : List Str}, strsD ds = some ys → Reps K H ds vs → vs = ys.map V.str
  | [], vs, ys, e, h => by
    rw [show vs = [] from h]
    cases e
    rfl
  | .str i :: ds, vs, ys, e, h => by
    obtain ⟨v, r, ev, h1, h2⟩ := h
    unfold strsD at e
    cases q : strsD ds with
    | none => rw [q] at e; cases e
    | some ms =>
      rw [q] at e
      cases e
      rw [ev, strsD_of q h2, show v = V.str i from h1]
      rfl
  | .non :: _, _, _, e, _ => by cases e
  | .bl _ :: _, _, _, e, _ => by cases e
  | .int _ :: _, _, _, e, _ => by cases e
  | .tup _ :: _, _, _, e, _ => by cases e
  | .lst _ :: _, _, _, e, _ => by cases e
  | .scr _ :: _, _, _, e, _ => by cases e
  | .exn _ _ _ :: _, _, _, e, _ => by cases e
  | .dct _ _ _ :: _, _, _, e, _ => by cases e
theorem Reps.rev : ∀ {ds : List D} {vs : List V}, Reps K H ds vs → Reps K H ds.reverse vs.reverse
  | [], _, h => by rw [show _ = [] from h]; rfl
  | d :: ds, vs, h => by
    obtain ⟨v, r, e, h1, h2⟩ := h
    rw [e, List.reverse_cons, List.reverse_cons]
    exact Reps.append (Reps.rev h2) ⟨v, [], rfl, h1, rfl⟩
theorem pairs_of : ∀ {xs : List D} {ps : List (Int × Int)}, pairs xs = some ps → xs = ps.map pairD
  | [], ps, e => by cases e; rfl
  | x :: xs, ps, e => by
    unfold pairs at e
    split at e
    · rename_i h; cases h
    · rename_i i j ys h
      cases h
      split at e
      · rename_i r er
        cases e
        rw [List.map_cons, ← pairs_of er]
        rfl
      · cases e
    · cases e
theorem immAll_intsF : ∀ ns : List Int, immAll (ns.map D.int) = true
  | [] => rfl
  | n :: r => by
    rw [List.map_cons]
    unfold immAll
    rw [immAll_intsF r]
    rfl
theorem ints_uniq : ∀ {l m : List Int}, l.Pairwise (· ≤ ·) → m.Pairwise (· ≤ ·) → l.Perm m → l = m
  | [], m, _, _, h => (List.Perm.eq_nil h.symm).symm
  | x :: l, [], _, _, h => absurd h.length_eq (by simp)
  | x :: l, y :: m, hl, hm, h => by
    have hl' := List.pairwise_cons.mp hl
    have hm' := List.pairwise_cons.mp hm
    have h1 : y ≤ x := by
      rcases List.mem_cons.mp (h.mem_iff.mp (List.mem_cons_self (a := x) (l := l))) with e | hx
      · omega
      · exact hm'.1 x hx
    have h2 : x ≤ y := by
      rcases List.mem_cons.mp (h.mem_iff.mpr (List.mem_cons_self (a := y) (l := m))) with e | hy
      · omega
      · exact hl'.1 y hy
    have e : x = y := by omega
    subst e
    rw [ints_uniq hl'.2 hm'.2 (h.cons_inv)]
theorem sortI_sorted (ns : List Int) : (ns.mergeSort leI).Pairwise (· ≤ ·) := by
  have h := List.pairwise_mergeSort (le := leI) (fun a b c h h' => by
    unfold leI at *
    simp only [decide_eq_true_eq] at *
    omega) (fun a b => by
    unfold leI
    simp only [Bool.or_eq_true, decide_eq_true_eq]
    omega) ns
  exact h.imp fun h => by
    unfold leI at h
    simpa using h
theorem immAll_pairs : ∀ ps : List (Int × Int), immAll (ps.map pairD) = true
  | [] => rfl
  | p :: ps => by
    rw [List.map_cons]
    unfold immAll
    rw [immAll_pairs ps]
    rfl
theorem maxL_of : ∀ {l : List Int} {m : Int}, m ∈ l → (∀ y, y ∈ l → y ≤ m) → m = maxL l
  | [x], m, h, _ => by simpa [maxL] using h
  | x :: y :: r, m, h, q => by
    show m = max x (maxL (y :: r))
    rcases List.mem_cons.mp h with e | h
    · subst e
      have h2 : maxL (y :: r) ∈ y :: r := by
        clear h q
        induction r generalizing y with
        | nil => simp [maxL]
        | cons z r ih =>
          show max y (maxL (z :: r)) ∈ _
          rcases Int.le_total y (maxL (z :: r)) with c | c
          · rw [Int.max_eq_right c]; exact List.mem_cons_of_mem _ (ih z)
          · rw [Int.max_eq_left c]; exact List.mem_cons_self
      have := q _ (List.mem_cons_of_mem _ h2)
      omega
    · have e := maxL_of h fun z hz => q z (List.mem_cons_of_mem _ hz)
      have := q x List.mem_cons_self
      omega
theorem minL_of : ∀ {l : List Int} {m : Int}, m ∈ l → (∀ y, y ∈ l → m ≤ y) → m = minL l
  | [x], m, h, _ => by simpa [minL] using h
  | x :: y :: r, m, h, q => by
    show m = min x (minL (y :: r))
    rcases List.mem_cons.mp h with e | h
    · subst e
      have h2 : minL (y :: r) ∈ y :: r := by
        clear h q
        induction r generalizing y with
        | nil => simp [minL]
        | cons z r ih =>
          show min y (minL (z :: r)) ∈ _
          rcases Int.le_total y (minL (z :: r)) with c | c
          · rw [Int.min_eq_left c]; exact List.mem_cons_self
          · rw [Int.min_eq_right c]; exact List.mem_cons_of_mem _ (ih z)
      have := q _ (List.mem_cons_of_mem _ h2)
      omega
    · have e := minL_of h fun z hz => q z (List.mem_cons_of_mem _ hz)
      have := q x List.mem_cons_self
      omega
theorem low_low : low n (low n F) = low n F := by
  funext k
  unfold low
  split <;> rfl
/-- a new tuple without lists -/
theorem fin_tup (G : Gd K Γ σ H F m) (hN : Γ.length ≤ n) {ds : List D} {vs : List V} (i : immAll ds = true) (h : Reps K H ds vs) {p : Addr} (hp : H p = none) : Fin K Γ σ H F n (val (.tup ds)) (.ref p) (upd H p (.tup vs)) (low n F) := by
  have s : Same H (upd H p (.tup vs)) := fun a o e => by rw [upd_ne (ne_of_none e hp)]; exact e
  have G2 : Gd K Γ σ (upd H p (.tup vs)) (low n F) (n + 1) := G.temps hN (Nat.le_succ n) s (fun _ h => low_lt h) (fun _ h => low_ge (by omega)) (fun k a h e => by rw [low_ge h] at e; cases e) (fun k h => by rw [low_ge h]; exact List.nodup_nil)
    (fun i j a h _ e _ => by rw [low_ge h] at e; cases e) fun k a h e => by rw [low_ge h] at e; cases e
  have r : Rep K (upd H p (.tup vs)) (.tup ds) (.ref p) := ⟨p, vs, rfl, .of upd_same, Reps.mono s h⟩
  have B := fin_imm (d := .tup ds) G2 hN (by rw [imm]; exact i) r
  rw [low_low] at B
  exact ⟨B.gd, B.at_, (⟨s, fun _ h => low_lt h, fun k a h e => by rw [low_ge h] at e; cases e⟩ : Nw n H F _ (low n F)).trans B.nw⟩
theorem Gd.grow (G : Gd K Γ σ H F m) (s : Same H H') : Gd K Γ σ H' F m :=
  G.temps G.top (Nat.le_refl m) s (fun _ _ => rfl) G.off (fun k a hk e => by rw [G.off k hk] at e; cases e) (fun k _ => G.nd k) (fun i j a _ _ => G.dj i j a) fun k a hk e => by rw [G.off k hk] at e; cases e
/-- a new tuple of items that are looked at -/
theorem fin_tup0 (G : Gd K Γ σ H F m) (hN : Γ.length ≤ n) {rs : List Nat} (hr : ∀ r ∈ rs, r < Γ.length) {ds : List D} {vs : List V} (h : Reps K (cut H (Oth F rs)) ds vs) {p : Addr} (hp : H p = none) : ∃ F', Fin K Γ σ H F n ⟨0, rs, .tup ds⟩ (.ref p) (upd H p (.tup vs)) F' := by
  have s : Same H (upd H p (.tup vs)) := fun a o e => by rw [upd_ne (ne_of_none e hp)]; exact e
  have G2 : Gd K Γ σ (upd H p (.tup vs)) F m := G.grow s
  have np : ¬ Oth F rs p := fun z => by
    obtain ⟨xs, q⟩ := G.othObj z
    rw [hp] at q; cases q
  have r : Rep K (cut (upd H p (.tup vs)) (Oth F rs)) (.tup ds) (.ref p) := ⟨p, vs, rfl, .of (cut_some.mpr ⟨np, upd_same⟩), Reps.mono (cut_sub fun a o no e => ⟨s _ _ e, no⟩) h⟩
  have B := fin_view G2 hN hr r
  exact ⟨_, B.gd, B.at_, (⟨s, fun _ _ => rfl, fun k a h e => .inl ⟨k, h, e⟩⟩ : Nw n H F _ F).trans B.nw⟩
/-- a list that is owned with all within becomes a tuple -/
theorem fin_tup8 (G : Gd K Γ σ H F m) (hN : Γ.length ≤ n) {xs : List D} {p : Addr} {us : List V} (ha : At K Γ.length H F n a (.ref p)) (ea : a.d = .lst xs) (da : dp8 a = true) (q1 : H p = some (.lst us)) {z : Addr} (hz : H z = none) :
    ∃ F', Fin K Γ σ H F n ⟨8, [], .tup xs⟩ (.ref z) (upd H z (.tup us)) F' := by
  unfold dp8 at da
  rw [Bool.and_eq_true, decide_eq_true_eq, List.isEmpty_iff] at da
  have r1 := ha.rep
  rw [ea, da.1, da.2] at r1
  obtain ⟨p1, vs1, f1, e1, h1, ef1, o1⟩ := r1
  cases e1
  rw [q1] at h1
  cases h1
  have n1 := G.nd n
  rw [ef1] at n1
  have m1 : ∀ c ∈ f1, c ∈ F n := fun c hc => by rw [ef1]; exact List.mem_cons_of_mem _ hc
  have s : Same H (upd H z (.tup us)) := fun c o e => by rw [upd_ne (ne_of_none e hz)]; exact e
  have lo : ∀ k, k < n → put (low n F) n f1 k = F k := fun k hk => by rw [put_ne (by omega), low_lt hk]
  have hi : ∀ k c, n ≤ k → c ∈ put (low n F) n f1 k → k = n ∧ c ∈ f1 := fun k c hk e => by
    by_cases q : k = n
    · subst q
      rw [put_same] at e
      exact ⟨rfl, e⟩
    · rw [put_ne q, low_ge hk] at e; cases e
  have fr : ∀ k c, n ≤ k → c ∈ put (low n F) n f1 k → (∃ k', n ≤ k' ∧ c ∈ F k') ∨ H c = none := fun k c hk e => .inl ⟨n, Nat.le_refl n, m1 c (hi k c hk e).2⟩
  have cs : Sub (cut H (Oth F [])) (cut (upd H z (.tup us)) (Oth (put (low n F) n f1) [])) := cut_sub fun c o no e => ⟨s _ _ e, fun ⟨j, _, q⟩ => by
    by_cases hj : j < n
    · rw [lo j hj] at q; exact no ⟨j, List.not_mem_nil, q⟩
    · exact no ⟨n, List.not_mem_nil, m1 c (hi j c (by omega) q).2⟩⟩
  have nz : ¬ Oth (put (low n F) n f1) [] z := fun ⟨j, _, q⟩ => by
    have : ∃ k, z ∈ F k := by
      by_cases hj : j < n
      · rw [lo j hj] at q; exact ⟨j, q⟩
      · exact ⟨n, m1 z (hi j z (by omega) q).2⟩
    obtain ⟨k, k2⟩ := this
    obtain ⟨xs, q⟩ := G.obj k z k2
    rw [hz] at q; cases q
  refine ⟨put (low n F) n f1, G.temps hN (Nat.le_succ n) s lo (fun k hk => by rw [put_ne (by omega), low_ge (by omega)]) fr (fun k hk => ?_) (fun i j c h1 h2 e1 e2 => by rw [(hi i c h1 e1).1, (hi j c h2 e2).1]) (fun k c hk e => ?_), ⟨(fun _ q => nomatch q), ?_⟩, ⟨s, lo, fr⟩⟩
  · by_cases q : k = n
    · subst q; rw [put_same]; exact (List.nodup_cons.mp n1).2
    · rw [put_ne q, low_ge hk]; exact List.nodup_nil
  · obtain ⟨xs, q⟩ := G.obj n c (m1 c (hi k c hk e).2)
    exact ⟨xs, s _ _ q⟩
  · rw [put_same]
    exact ⟨z, us, rfl, .of (cut_some.mpr ⟨nz, upd_same⟩), OReps.mono cs (fun c _ o e => s _ _ e) o1⟩
theorem sm_log {i : Int} (h : Sm i) : i.natAbs.log2 < 4000 := PySem.Flt.log2_lt_of (by decide) (by unfold Sm big at h; exact h)
theorem cutV_eq {xs : List V} {lo hi : Option Int} : cutV xs lo hi = (xs.drop (HT.sIx xs.length 0 lo)).take (HT.sIx xs.length xs.length hi - HT.sIx xs.length 0 lo) := rfl
theorem Reps.cut {ds : List D} {vs : List V} (h : Reps K H ds vs) (lo hi : Option Int) : Reps K H (cutD ds lo hi) (cutV vs lo hi) := by
  unfold cutD
  rw [cutV_eq, Reps.len h]
  exact Reps.take _ (Reps.drop _ h)
theorem at_len {α β : Type} {xs : List α} {ys : List β} (h : ys.length = xs.length) {i : Int} {d : α} (e : atI xs i = some d) : ∃ j, ixN xs.length i = some j ∧ xs[j]? = some d ∧ ∀ y, ys[j]? = some y → atI ys i = some y := by
  unfold atI at e
  cases q : ixN xs.length i with
  | none => rw [q] at e; cases e
  | some j =>
    rw [q] at e
    refine ⟨j, rfl, e, fun y hy => ?_⟩
    unfold atI
    rw [h, q]
    exact hy
theorem Reps.rep {ds : List D} {vs : List V} (h : Reps K H ds vs) : ∀ k : Nat, Reps K H (List.replicate k ds).flatten (List.replicate k vs).flatten
  | 0 => rfl
  | k + 1 => by
    rw [List.replicate_succ, List.replicate_succ, List.flatten_cons, List.flatten_cons]
    exact Reps.append h (Reps.rep h k)
theorem immAll_append : ∀ {xs ys : List D}, immAll xs = true → immAll ys = true → immAll (xs ++ ys) = true
  | [], _, _, h => h
  | x :: xs, ys, h, h' => by
    unfold immAll at h
    rw [Bool.and_eq_true] at h
    rw [List.cons_append]
    unfold immAll
    rw [h.1, immAll_append h.2 h']
    rfl
theorem immAll_rep {xs : List D} (h : immAll xs = true) : ∀ k : Nat, immAll (List.replicate k xs).flatten = true
  | 0 => rfl
  | k + 1 => by
    rw [List.replicate_succ, List.flatten_cons]
    exact immAll_append h (immAll_rep h k)
theorem len_rep {α : Type} {xs : List α} : ∀ k : Nat, (List.replicate k xs).flatten.length = xs.length * k
  | 0 => rfl
  | k + 1 => by rw [List.replicate_succ, List.flatten_cons, List.length_append, len_rep k, Nat.mul_succ]; omega
theorem opv_exc (o : Op) (xs : List W) (c : Nat) (as : List D) (Γ' : Gm) : opv o xs ≠ .exc c as Γ' := by
  intro e
  unfold opv at e
  repeat' (split at e)
  all_goals (cases e)
theorem immAll_take : ∀ {xs : List D} (k : Nat), immAll xs = true → immAll (xs.take k) = true
  | _, 0, _ => rfl
  | [], k + 1, _ => rfl
  | x :: xs, k + 1, h => by
    unfold immAll at h
    rw [Bool.and_eq_true] at h
    rw [List.take_succ_cons]
    unfold immAll
    rw [h.1, immAll_take k h.2]; rfl
theorem immAll_drop : ∀ {xs : List D} (k : Nat), immAll xs = true → immAll (xs.drop k) = true
  | _, 0, h => h
  | [], k + 1, _ => rfl
  | x :: xs, k + 1, h => by
    unfold immAll at h
    rw [Bool.and_eq_true] at h
    exact immAll_drop k h.2
theorem immAll_cut {xs : List D} (h : immAll xs = true) (lo hi : Option Int) : immAll (cutD xs lo hi) = true := immAll_take _ (immAll_drop _ h)
/-- a part of a tuple -/
theorem slT_ok {Q : VK} (G : Gd K Γ σ H F m) (hN : Γ.length ≤ n) {xs : List D} {p : Addr} {us : List V} {lo hi : Option Int} (im : immAll xs = true) (q : SqT K H p us) (rr : Reps K H xs us) (hQ : ∀ v H' F', Fin K Γ σ H F n (val (.tup (cutD xs lo hi))) v H' F' → Q v H') : rSlA K (.ref p) lo hi H Q := by
  refine ⟨p, us, rfl, q, fun w => ?_, fun _ z hz => hQ _ _ _ (fin_tup G hN (immAll_cut im lo hi) (Reps.cut rr lo hi) hz)⟩
  have e : cutD xs lo hi = xs := by
    rw [Reps.len rr] at w
    unfold cutD
    rw [w.1, w.2, Nat.sub_zero, List.drop_zero, List.take_length]
  rw [e] at hQ
  exact hQ _ _ _ (fin_imm G hN (by rw [imm]; exact im) ⟨p, us, rfl, q, rr⟩)
theorem lim_line : lim ≤ sizeLine := by decide
theorem immAll_ints : ∀ ns : List Int, immAll (ns.map .int) = true
  | [] => rfl
  | n :: r => by
    rw [List.map_cons]
    unfold immAll
    rw [immAll_ints r]
    rfl
theorem intsD_ne (d : D) (ds : List D) : intsD (d :: ds) ≠ some [] := by
  intro h
  cases d <;> try (cases h; done)
  unfold intsD at h
  split at h <;> cases h
theorem intsD_one {ws : List W} {i : Int} (h : intsD (ws.map (·.d)) = some [i]) : ∃ b, ws = [b] ∧ b.d = .int i := by
  rcases ws with _ | ⟨b, _ | ⟨c, ws⟩⟩
  · cases h
  · refine ⟨b, rfl, ?_⟩
    have h : intsD [b.d] = some [i] := h
    cases e : b.d <;> rw [e] at h <;> try (cases h; done)
    cases h
    rfl
  · have h : intsD (b.d :: c.d :: ws.map (·.d)) = some [i] := h
    cases e : b.d <;> rw [e] at h <;> try (cases h; done)
    unfold intsD at h
    split at h
    · rename_i r er
      cases h
      exact absurd er (intsD_ne _ _)
    · cases h
theorem tyx_of (t : Ty) (ne : ∀ cn f p, d ≠ .exn cn f p) (nf : ∀ ks xs, d ≠ .dct true ks xs) (h : Rep K H d v) : ∃ u, TyX K H v u ∧ PySem.W.kitOne K u (.type (tyStr t)) = some (isTy t d) := by
  cases d with
  | non => rw [show v = V.non from h]; exact ⟨_, .base .non, by cases t <;> rfl⟩
  | bl b => rw [show v = V.bl b from h]; exact ⟨_, .base (.bl b), by cases t <;> rfl⟩
  | int b => rw [show v = V.int b from h]; exact ⟨_, .base (.int b), by cases t <;> rfl⟩
  | str b => rw [show v = V.str b from h]; exact ⟨_, .base (.str b), by cases t <;> rfl⟩
  | tup ds =>
    obtain ⟨p, us, rfl, q, r⟩ := h
    rcases q with (q | ⟨o, q⟩) | ⟨o, its, k, q1, q2, _⟩
    · exact ⟨_, .base (.tup q), by cases t <;> rfl⟩
    · exact ⟨_, .fTuple q, by cases t <;> rfl⟩
    · exact ⟨_, .kTuple q1 q2, by cases t <;> rfl⟩
  | lst ds =>
    obtain ⟨p, us, rfl, q, r⟩ := h
    exact ⟨_, .base (.lst q), by cases t <;> rfl⟩
  | scr ns =>
    obtain ⟨p, rfl, q⟩ := h
    rcases q with ⟨o, q⟩ | ⟨o, its, k, q1, q2, _⟩
    · exact ⟨_, .base (.frz q), by cases t <;> rfl⟩
    · exact ⟨_, .kList q1 q2, by cases t <;> rfl⟩
  | exn cn f p => exact absurd rfl (ne cn f p)
  | dct k ks ds =>
    obtain ⟨p, us, rfl, q, r⟩ := h
    cases k with
    | false =>
      rcases q with q | ⟨o, q⟩
      · exact ⟨_, .base (.dK q), by cases t <;> rfl⟩
      · exact ⟨_, .fDict q, by cases t <;> rfl⟩
    | true =>
      rcases q with q | ⟨o, q⟩
      · exact ⟨_, .base (.dT q), by cases t <;> rfl⟩
      · exact absurd rfl (nf _ _)
/-- THE OPERATIONS: what opv says is what the text's operation comes to -/
theorem opv_ok (G : Gd K Γ σ H F m) (hN : Γ.length ≤ n) {ws : List W} {o : Op} (hv : Vat K Γ.length H F n ws vs) (e : opv o ws = .ok w) (hQ : ∀ v H' F', Fin K Γ σ H F n w v H' F' → Q v H') : opR K o vs H Q := by
  have A : Nw n H F H (low n F) := Nw.drop
  have G1 : Gd K Γ σ H (low n F) (n + 1) := G.drop1 hN
  have vI : ∀ {d : D} {v : V}, w = val d → imm d = true → Rep K H d v → Q v H := fun {d v} ew i h => hQ v H _ (by rw [ew]; exact fin_imm G hN i h)
  cases o with
  | add =>
    rcases ws with _ | ⟨a, _ | ⟨b, _ | ⟨c, ws⟩⟩⟩ <;> try (cases e; done)
    obtain ⟨x, y, rfl, ha, hb⟩ := hv.two
    simp only [opv] at e
    split at e
    · rename_i i j ea eb
      cases e
      exact .inl (.inl ⟨i, j, reads_int ha ea, reads_int hb eb, vI rfl rfl rfl⟩)
    · rename_i xs ys ea eb
      split at e
      · rename_i c
        cases e
        simp only [Bool.and_eq_true, Bool.or_eq_true, decide_eq_true_eq] at c
        obtain ⟨p, us, rfl, q1, r1⟩ := reads_lst ha ea
        obtain ⟨p', us', rfl, q2, r2⟩ := reads_lst hb eb
        refine .inl (.inr ⟨p, p', us, us', rfl, rfl, q1, q2, ?_, fun z hz => ?_⟩)
        · rw [Reps.len r1, Reps.len r2]
          exact Nat.le_trans c.2 lim_line
        · rcases c.1 with c1 | c1
          · exact hQ _ _ _ (fin_newI G hN (immAll_append c1.1 c1.2) (Reps.append r1 r2) hz)
          · obtain ⟨F', B⟩ := fin_cat G hN ha hb ea eb c1.1 c1.2 q1 q2 hz
            exact hQ _ _ _ B
      · cases e
    · rename_i xs ys ea eb
      split at e
      · rename_i c
        cases e
        simp only [Bool.and_eq_true, decide_eq_true_eq] at c
        obtain ⟨p, us, rfl, q1, r1⟩ := reads_tup ha ea
        obtain ⟨p', us', rfl, q2, r2⟩ := reads_tup hb eb
        have i12 := immAll_append c.1.1 c.1.2
        refine .inr (.inl ⟨p, p', us, us', rfl, rfl, q1, q2, ?_, fun z => ?_, fun z z' => ?_, fun z z' l hl => ?_⟩)
        · rw [Reps.len r1, Reps.len r2]
          exact Nat.le_trans c.2 lim_line
        · subst z
          have : xs = [] := List.eq_nil_of_length_eq_zero (by rw [← Reps.len r1]; rfl)
          subst this
          exact vI rfl (by rw [imm]; exact i12) ⟨p', us', rfl, q2, r2⟩
        · subst z'
          have : ys = [] := List.eq_nil_of_length_eq_zero (by rw [← Reps.len r2]; rfl)
          subst this
          rw [List.append_nil] at *
          exact vI rfl (by rw [imm]; exact i12) ⟨p, us, rfl, q1, r1⟩
        · exact hQ _ _ _ (fin_tup G hN i12 (Reps.append r1 r2) hl)
      · cases e
    · rename_i x y ea eb
      split at e
      · rename_i c
        cases e
        rw [decide_eq_true_eq] at c
        have rx := ha.read
        have ry := hb.read
        rw [ea] at rx
        rw [eb] at ry
        exact .inr (.inr ⟨x, y, rx, ry, Nat.le_trans c lim_line, vI rfl rfl rfl⟩)
      · cases e
    · cases e
  | sub =>
    rcases ws with _ | ⟨a, _ | ⟨b, _ | ⟨c, ws⟩⟩⟩ <;> try (cases e; done)
    obtain ⟨x, y, rfl, ha, hb⟩ := hv.two
    simp only [opv] at e
    split at e
    · rename_i i j ea eb
      cases e
      exact ⟨i, j, reads_int ha ea, reads_int hb eb, vI rfl rfl rfl⟩
    · cases e
  | mul =>
    rcases ws with _ | ⟨a, _ | ⟨b, _ | ⟨c, ws⟩⟩⟩ <;> try (cases e; done)
    obtain ⟨x, y, rfl, ha, hb⟩ := hv.two
    simp only [opv] at e
    split at e
    · rename_i i j ea eb
      split at e
      · rename_i c
        cases e
        refine .inl (.inl ⟨i, j, reads_int ha ea, reads_int hb eb, ?_, vI rfl rfl rfl⟩)
        have := sm_log c.1
        have := sm_log c.2
        unfold CMulW
        omega
      · cases e
    · rename_i xs k ea eb
      split at e
      · rename_i c
        cases e
        obtain ⟨p, us, rfl, q1, r1⟩ := reads_lst ha ea
        refine .inl (.inr ⟨p, k, us, rfl, reads_int hb eb, q1, by omega, by omega, ?_, fun z hz => hQ _ _ _ (fin_newI G hN (immAll_rep c.1 _) (Reps.rep r1 _) hz)⟩)
        rw [Reps.len r1]
        exact Nat.le_trans c.2.1 lim_line
      · cases e
    · rename_i xs k ea eb
      split at e
      · rename_i c
        cases e
        obtain ⟨c1, c2⟩ := c
        subst c2
        obtain ⟨p, us, rfl, q1, r1⟩ := reads_tup ha ea
        exact .inr (.inr ⟨p, us, rfl, reads_int hb eb, q1, vI rfl (by rw [imm]; exact c1) ⟨p, us, rfl, q1, r1⟩⟩)
      · split at e
        · rename_i c
          cases e
          obtain ⟨c1, c2, c3, c4, c5⟩ := c
          obtain ⟨p, us, rfl, q1, r1⟩ := reads_tup ha ea
          refine .inr (.inl ⟨p, k, us, rfl, reads_int hb eb, q1, ?_, c3, c4, by rw [Reps.len r1]; exact c5, fun z hz => hQ _ _ _ (fin_tup G hN (immAll_rep c1 _) (Reps.rep r1 _) hz)⟩)
          intro z
          subst z
          have : xs = [] := List.eq_nil_of_length_eq_zero (by rw [← Reps.len r1]; rfl)
          subst this
          cases c2
        · cases e
    · cases e
  | fdiv =>
    rcases ws with _ | ⟨a, _ | ⟨b, _ | ⟨c, ws⟩⟩⟩ <;> try (cases e; done)
    obtain ⟨x, y, rfl, ha, hb⟩ := hv.two
    simp only [opv] at e
    split at e
    · rename_i i j ea eb
      split at e
      · rename_i c
        cases e
        exact ⟨i, j, reads_int ha ea, reads_int hb eb, ⟨c.1, Nat.lt_of_lt_of_le (sm_log c.2) (by decide)⟩, vI rfl rfl rfl⟩
      · cases e
    · cases e
  | mod =>
    rcases ws with _ | ⟨a, _ | ⟨b, _ | ⟨c, ws⟩⟩⟩ <;> try (cases e; done)
    obtain ⟨x, y, rfl, ha, hb⟩ := hv.two
    simp only [opv] at e
    split at e
    · rename_i i j ea eb
      split at e
      · rename_i c
        cases e
        exact ⟨i, j, reads_int ha ea, reads_int hb eb, c, vI rfl rfl rfl⟩
      · cases e
    · cases e
  | pow =>
    rcases ws with _ | ⟨a, _ | ⟨b, _ | ⟨c, ws⟩⟩⟩ <;> try (cases e; done)
    obtain ⟨x, y, rfl, ha, hb⟩ := hv.two
    simp only [opv] at e
    split at e
    · rename_i i j ea eb
      split at e
      · rename_i c
        cases e
        exact ⟨i, j, reads_int ha ea, reads_int hb eb, ⟨c.1, by omega, c.2.2⟩, vI rfl rfl rfl⟩
      · cases e
    · cases e
  | neg =>
    rcases ws with _ | ⟨a, _ | ⟨b, ws⟩⟩ <;> try (cases e; done)
    obtain ⟨x, rfl, ha⟩ := hv.one
    simp only [opv] at e
    split at e
    · rename_i i ea
      cases e
      exact ⟨i, reads_int ha ea, vI rfl rfl rfl⟩
    · cases e
  | eq =>
    rcases ws with _ | ⟨a, _ | ⟨b, _ | ⟨c, ws⟩⟩⟩ <;> try (cases e; done)
    obtain ⟨x, y, rfl, ha, hb⟩ := hv.two
    simp only [opv] at e
    split at e
    · rename_i k ek
      cases e
      unfold eqD at ek
      split at ek
      · rename_i c
        rw [Bool.and_eq_true] at c
        unfold okEq at c
        rw [Bool.and_eq_true, Bool.and_eq_true] at c
        cases ek
        exact ⟨_, _, Rep.dp c.1.1 ha.read, Rep.dp c.2.1 hb.read, c.1.2, c.2.2, vI rfl rfl rfl⟩
      · cases ek
    · cases e
  | ne =>
    rcases ws with _ | ⟨a, _ | ⟨b, _ | ⟨c, ws⟩⟩⟩ <;> try (cases e; done)
    obtain ⟨x, y, rfl, ha, hb⟩ := hv.two
    simp only [opv] at e
    split at e
    · rename_i k ek
      cases e
      unfold eqD at ek
      split at ek
      · rename_i c
        rw [Bool.and_eq_true] at c
        unfold okEq at c
        rw [Bool.and_eq_true, Bool.and_eq_true] at c
        cases ek
        exact ⟨_, _, Rep.dp c.1.1 ha.read, Rep.dp c.2.1 hb.read, c.1.2, c.2.2, vI rfl rfl rfl⟩
      · cases ek
    · cases e
  | lt =>
    rcases ws with _ | ⟨a, _ | ⟨b, _ | ⟨c, ws⟩⟩⟩ <;> try (cases e; done)
    obtain ⟨x, y, rfl, ha, hb⟩ := hv.two
    simp only [opv] at e
    split at e
    · rename_i i j ea eb
      cases e
      exact .inl ⟨i, j, reads_int ha ea, reads_int hb eb, vI rfl rfl rfl⟩
    · rename_i xs ys ea eb
      split at e
      · rename_i ns ms en em
        cases e
        obtain ⟨p, us, rfl, q1, r1⟩ := reads_tup ha ea
        obtain ⟨p', us', rfl, q2, r2⟩ := reads_tup hb eb
        rw [Reps.ints en r1] at q1
        rw [Reps.ints em r2] at q2
        exact .inr ⟨p, p', ns, ms, rfl, rfl, q1, q2, vI rfl rfl rfl⟩
      · cases e
    · cases e
  | le =>
    rcases ws with _ | ⟨a, _ | ⟨b, _ | ⟨c, ws⟩⟩⟩ <;> try (cases e; done)
    obtain ⟨x, y, rfl, ha, hb⟩ := hv.two
    simp only [opv] at e
    split at e
    · rename_i i j ea eb
      cases e
      exact ⟨i, j, reads_int ha ea, reads_int hb eb, vI rfl rfl rfl⟩
    · cases e
  | gt =>
    rcases ws with _ | ⟨a, _ | ⟨b, _ | ⟨c, ws⟩⟩⟩ <;> try (cases e; done)
    obtain ⟨x, y, rfl, ha, hb⟩ := hv.two
    simp only [opv] at e
    split at e
    · rename_i i j ea eb
      cases e
      exact ⟨i, j, reads_int ha ea, reads_int hb eb, vI rfl rfl rfl⟩
    · cases e
  | ge =>
    rcases ws with _ | ⟨a, _ | ⟨b, _ | ⟨c, ws⟩⟩⟩ <;> try (cases e; done)
    obtain ⟨x, y, rfl, ha, hb⟩ := hv.two
    simp only [opv] at e
    split at e
    · rename_i i j ea eb
      cases e
      exact ⟨i, j, reads_int ha ea, reads_int hb eb, vI rfl rfl rfl⟩
    · cases e
  | inn =>
    rcases ws with _ | ⟨a, _ | ⟨b, _ | ⟨c, ws⟩⟩⟩ <;> try (cases e; done)
    obtain ⟨x, y, rfl, ha, hb⟩ := hv.two
    simp only [opv] at e
    split at e
    · rename_i xs eb
      split at e
      · rename_i c
        rw [Bool.and_eq_true] at c
        cases e
        obtain ⟨p, us, rfl, q, r⟩ := reads_lst hb eb
        exact .inl (.inl ⟨p, us, rfl, .inl (.of q), scal_flat c.1 ha.read, scal_all c.2 r, vI rfl rfl (congrArg V.bl (scal_any c.1 ha.read c.2 r))⟩)
      · split at e
        · rename_i c
          rw [Bool.and_eq_true] at c
          cases e
          obtain ⟨c1, c2⟩ := c
          unfold okEq at c1 c2
          rw [Bool.and_eq_true] at c1 c2
          have hb' := hb.read
          rw [eb] at hb'
          exact .inl (.inr ⟨toPy a.d, toPy.toPys xs, Rep.dp c1.1 ha.read, Rep.dp c2.1 hb', c1.2, c2.2, vI rfl rfl (congrArg V.bl (any_toPys a.d xs))⟩)
        · cases e
    · rename_i xs eb
      split at e
      · rename_i c
        rw [Bool.and_eq_true] at c
        cases e
        obtain ⟨p, us, rfl, q, r⟩ := reads_tup hb eb
        exact .inl (.inl ⟨p, us, rfl, .inr q, scal_flat c.1 ha.read, scal_all c.2 r, vI rfl rfl (congrArg V.bl (scal_any c.1 ha.read c.2 r))⟩)
      · cases e
    · rename_i ks xs eb
      split at e
      · rename_i k ek
        cases e
        obtain ⟨p, us, rfl, q, r⟩ := reads_dct hb eb
        exact .inr ⟨p, _, rfl, .inl ⟨_, k, q, keyD_rep ek ha.read, rfl⟩, vI rfl rfl (by rw [Reps.dgetB r]; rfl)⟩
      · cases e
    · cases e
  | notin =>
    rcases ws with _ | ⟨a, _ | ⟨b, _ | ⟨c, ws⟩⟩⟩ <;> try (cases e; done)
    obtain ⟨x, y, rfl, ha, hb⟩ := hv.two
    simp only [opv] at e
    split at e
    · rename_i xs eb
      split at e
      · rename_i c
        rw [Bool.and_eq_true] at c
        cases e
        obtain ⟨p, us, rfl, q, r⟩ := reads_lst hb eb
        exact .inl (.inl ⟨p, us, rfl, .inl (.of q), scal_flat c.1 ha.read, scal_all c.2 r, vI rfl rfl (congrArg (fun k => V.bl (!k)) (scal_any c.1 ha.read c.2 r))⟩)
      · split at e
        · rename_i c
          rw [Bool.and_eq_true] at c
          cases e
          obtain ⟨c1, c2⟩ := c
          unfold okEq at c1 c2
          rw [Bool.and_eq_true] at c1 c2
          have hb' := hb.read
          rw [eb] at hb'
          exact .inl (.inr ⟨toPy a.d, toPy.toPys xs, Rep.dp c1.1 ha.read, Rep.dp c2.1 hb', c1.2, c2.2, vI rfl rfl (congrArg (fun k => V.bl (!k)) (any_toPys a.d xs))⟩)
        · cases e
    · rename_i xs eb
      split at e
      · rename_i c
        rw [Bool.and_eq_true] at c
        cases e
        obtain ⟨p, us, rfl, q, r⟩ := reads_tup hb eb
        exact .inl (.inl ⟨p, us, rfl, .inr q, scal_flat c.1 ha.read, scal_all c.2 r, vI rfl rfl (congrArg (fun k => V.bl (!k)) (scal_any c.1 ha.read c.2 r))⟩)
      · cases e
    · rename_i ks xs eb
      split at e
      · rename_i k ek
        cases e
        obtain ⟨p, us, rfl, q, r⟩ := reads_dct hb eb
        exact .inr ⟨p, _, rfl, .inl ⟨_, k, q, keyD_rep ek ha.read, rfl⟩, vI rfl rfl (by rw [Reps.dgetB r]; rfl)⟩
      · cases e
    · cases e
  | isN =>
    rcases ws with _ | ⟨a, _ | ⟨b, ws⟩⟩ <;> try (cases e; done)
    obtain ⟨x, rfl, ha⟩ := hv.one
    have r := ha.read
    refine ⟨rfl, ?_⟩
    simp only [opv] at e
    split at e
    · rename_i ea
      cases e
      rw [ea] at r
      rw [show x = V.non from r]
      exact vI rfl rfl rfl
    · rename_i ne
      cases e
      have hx : x ≠ V.non := by
        intro z
        cases h : a.d with
        | non => exact ne h
        | bl b => rw [h, z] at r; cases r
        | int b => rw [h, z] at r; cases r
        | str b => rw [h, z] at r; cases r
        | tup b => rw [h, z] at r; obtain ⟨_, _, q, _⟩ := r; cases q
        | lst b => rw [h, z] at r; obtain ⟨_, _, q, _⟩ := r; cases q
        | scr b => rw [h, z] at r; obtain ⟨_, q, _⟩ := r; cases q
        | exn _ _ _ => rw [h, z] at r; obtain ⟨_, _, _, q, _⟩ := r; cases q
        | dct _ _ _ => rw [h, z] at r; obtain ⟨_, _, q, _⟩ := r; cases q
      rw [decide_eq_false hx]
      exact vI rfl rfl rfl
  | notN =>
    rcases ws with _ | ⟨a, _ | ⟨b, ws⟩⟩ <;> try (cases e; done)
    obtain ⟨x, rfl, ha⟩ := hv.one
    have r := ha.read
    refine ⟨rfl, ?_⟩
    simp only [opv] at e
    split at e
    · rename_i ea
      cases e
      rw [ea] at r
      rw [show x = V.non from r]
      exact vI rfl rfl rfl
    · rename_i ne
      cases e
      have hx : x ≠ V.non := by
        intro z
        cases h : a.d with
        | non => exact ne h
        | bl b => rw [h, z] at r; cases r
        | int b => rw [h, z] at r; cases r
        | str b => rw [h, z] at r; cases r
        | tup b => rw [h, z] at r; obtain ⟨_, _, q, _⟩ := r; cases q
        | lst b => rw [h, z] at r; obtain ⟨_, _, q, _⟩ := r; cases q
        | scr b => rw [h, z] at r; obtain ⟨_, q, _⟩ := r; cases q
        | exn _ _ _ => rw [h, z] at r; obtain ⟨_, _, _, q, _⟩ := r; cases q
        | dct _ _ _ => rw [h, z] at r; obtain ⟨_, _, q, _⟩ := r; cases q
      rw [decide_eq_false hx]
      exact vI rfl rfl rfl
  | isB k =>
    rcases ws with _ | ⟨a, _ | ⟨b, ws⟩⟩ <;> try (cases e; done)
    obtain ⟨x, rfl, ha⟩ := hv.one
    have r := ha.read
    refine ⟨k, rfl, ?_⟩
    simp only [opv] at e
    split at e
    · rename_i c ea
      cases e
      rw [ea] at r
      rw [show x = V.bl c from r]
      refine vI rfl rfl (show V.bl _ = V.bl _ from congrArg V.bl ?_)
      cases c <;> cases k <;> rfl
    · rename_i ne
      cases e
      have hx : x ≠ V.bl k := by
        intro z
        cases h : a.d with
        | bl b => exact ne b h
        | non => rw [h, z] at r; cases r
        | int b => rw [h, z] at r; cases r
        | str b => rw [h, z] at r; cases r
        | tup b => rw [h, z] at r; obtain ⟨_, _, q, _⟩ := r; cases q
        | lst b => rw [h, z] at r; obtain ⟨_, _, q, _⟩ := r; cases q
        | scr b => rw [h, z] at r; obtain ⟨_, q, _⟩ := r; cases q
        | exn _ _ _ => rw [h, z] at r; obtain ⟨_, _, _, q, _⟩ := r; cases q
        | dct _ _ _ => rw [h, z] at r; obtain ⟨_, _, q, _⟩ := r; cases q
      refine vI rfl rfl (show V.bl _ = V.bl _ from congrArg V.bl ?_)
      simp [hx]
  | notB k =>
    rcases ws with _ | ⟨a, _ | ⟨b, ws⟩⟩ <;> try (cases e; done)
    obtain ⟨x, rfl, ha⟩ := hv.one
    have r := ha.read
    refine ⟨k, rfl, ?_⟩
    simp only [opv] at e
    split at e
    · rename_i c ea
      cases e
      rw [ea] at r
      rw [show x = V.bl c from r]
      refine vI rfl rfl (show V.bl _ = V.bl _ from congrArg V.bl ?_)
      cases c <;> cases k <;> rfl
    · rename_i ne
      cases e
      have hx : x ≠ V.bl k := by
        intro z
        cases h : a.d with
        | bl b => exact ne b h
        | non => rw [h, z] at r; cases r
        | int b => rw [h, z] at r; cases r
        | str b => rw [h, z] at r; cases r
        | tup b => rw [h, z] at r; obtain ⟨_, _, q, _⟩ := r; cases q
        | lst b => rw [h, z] at r; obtain ⟨_, _, q, _⟩ := r; cases q
        | scr b => rw [h, z] at r; obtain ⟨_, q, _⟩ := r; cases q
        | exn _ _ _ => rw [h, z] at r; obtain ⟨_, _, _, q, _⟩ := r; cases q
        | dct _ _ _ => rw [h, z] at r; obtain ⟨_, _, q, _⟩ := r; cases q
      refine vI rfl rfl (show V.bl _ = V.bl _ from congrArg V.bl ?_)
      simp [hx]
  | ix =>
    rcases ws with _ | ⟨a, _ | ⟨b, _ | ⟨c, ws⟩⟩⟩ <;> try (cases e; done)
    obtain ⟨x, y, rfl, ha, hb⟩ := hv.two
    simp only [opv] at e
    split at e
    · rename_i xs i ea eb
      split at e
      · rename_i d ed
        obtain ⟨p, us, rfl, q, r⟩ := reads_lst ha ea
        obtain ⟨j, ej, e1, e2⟩ := at_len (ys := us) (Reps.len r) ed
        obtain ⟨v, e3, r3⟩ := Reps.get r e1
        split at e
        · rename_i im
          cases e
          exact .inl (.inl ⟨p, us, i, v, rfl, reads_int hb eb, .of q, e2 v e3, vI rfl im r3⟩)
        · split at e
          · rename_i l0
            cases e
            have h0 := ha.rep
            rw [l0, ea] at h0
            unfold ORep at h0
            obtain ⟨p', us', ep, q', r'⟩ := h0.2
            cases ep
            have q2 := (cut_some.mp q').2
            rw [q] at q2
            cases q2
            obtain ⟨v', e4, r4⟩ := Reps.get r' e1
            exact .inl (.inl ⟨p, us, i, v', rfl, reads_int hb eb, .of q, e2 v' e4, hQ _ _ _ (fin_view G hN ha.rs r4)⟩)
          · cases e
      · cases e
    · rename_i xs i ea eb
      split at e
      · rename_i d ed
        obtain ⟨p, us, rfl, q, r⟩ := reads_tup ha ea
        obtain ⟨j, ej, e1, e2⟩ := at_len (ys := us) (Reps.len r) ed
        obtain ⟨v, e3, r3⟩ := Reps.get r e1
        split at e
        · rename_i im
          cases e
          exact .inl (.inr (.inl ⟨p, us, i, v, rfl, reads_int hb eb, q, e2 v e3, vI rfl im r3⟩))
        · split at e
          · rename_i l0
            cases e
            have h0 := ha.rep
            rw [l0, ea] at h0
            unfold ORep at h0
            obtain ⟨p', us', ep, q', r'⟩ := h0.2
            cases ep
            obtain ⟨j', ej', e1', e2'⟩ := at_len (ys := us') (Reps.len r') ed
            rw [ej] at ej'
            cases ej'
            obtain ⟨v', e4, r4⟩ := Reps.get r' e1
            exact .inl (.inr (.inl ⟨p, us', i, v', rfl, reads_int hb eb, cut_le.t q', e2' v' e4, hQ _ _ _ (fin_view G hN ha.rs r4)⟩))
          · cases e
      · cases e
    · rename_i ns i ea eb
      split at e
      · rename_i j ej
        cases e
        obtain ⟨p, rfl, q⟩ := reads_scr ha ea
        obtain ⟨k, ek, e1, e2⟩ := at_len (ys := ns.map V.int) (List.length_map ..) ej
        exact .inl (.inl ⟨p, _, i, .int j, rfl, reads_int hb eb, q, e2 _ (by rw [List.getElem?_map, e1]; rfl), vI rfl rfl rfl⟩)
      · cases e
    · rename_i z i ea eb
      split at e
      · rename_i c ec
        split at e
        · rename_i hz
          cases e
          have rz := ha.read
          rw [ea] at rz
          exact .inl (.inr (.inr ⟨z, i, c, rz, reads_int hb eb, Nat.le_trans hz lim_line, ec, vI rfl rfl rfl⟩))
        · cases e
      · cases e
    · rename_i ks xs ea
      split at e
      · rename_i k ek
        split at e
        · rename_i d ed
          obtain ⟨p, us, rfl, q, r⟩ := reads_dct ha ea
          have ky := keyD_rep ek hb.read
          split at e
          · rename_i im
            cases e
            obtain ⟨v, e3, r3⟩ := Reps.dget r ed
            exact .inr ⟨p, v, rfl, .inl ⟨_, k, q, ky, e3.symm⟩, vI rfl im r3⟩
          · split at e
            · rename_i l0
              cases e
              have h0 := ha.rep
              rw [l0, ea] at h0
              unfold ORep at h0
              obtain ⟨p', us', ep, q', r'⟩ := h0.2
              cases ep
              obtain ⟨v, e3, r3⟩ := Reps.dget r' ed
              exact .inr ⟨p, v, rfl, .inl ⟨_, k, cut_le.rd q', ky, e3.symm⟩, hQ _ _ _ (fin_view G hN ha.rs r3)⟩
            · cases e
        · cases e
      · cases e
    · cases e
  | len =>
    rcases ws with _ | ⟨a, _ | ⟨b, ws⟩⟩ <;> try (cases e; done)
    obtain ⟨x, rfl, ha⟩ := hv.one
    simp only [opv] at e
    split at e
    · rename_i xs ea
      cases e
      obtain ⟨p, us, rfl, q, r⟩ := reads_lst ha ea
      exact .inl ⟨_, us.length, rfl, .inl ⟨us, .of q, rfl⟩, by rw [Reps.len r]; exact vI rfl rfl rfl⟩
    · rename_i xs ea
      cases e
      obtain ⟨p, us, rfl, q, r⟩ := reads_tup ha ea
      exact .inl ⟨_, us.length, rfl, .inr ⟨us, q, rfl⟩, by rw [Reps.len r]; exact vI rfl rfl rfl⟩
    · rename_i ns ea
      cases e
      obtain ⟨p, rfl, q⟩ := reads_scr ha ea
      exact .inl ⟨_, ns.length, rfl, .inl ⟨_, q, (List.length_map ..).symm⟩, vI rfl rfl rfl⟩
    · rename_i ks xs ea
      split at e
      · rename_i hl
        cases e
        obtain ⟨p, us, rfl, q, r⟩ := reads_dct ha ea
        refine .inr ⟨p, _, rfl, q, vI rfl rfl ?_⟩
        show V.int _ = V.int _
        rw [List.length_zip, List.length_map, Reps.len r, hl, Nat.min_self]
      · cases e
    · cases e
  | abs =>
    rcases ws with _ | ⟨a, _ | ⟨b, ws⟩⟩ <;> try (cases e; done)
    obtain ⟨x, rfl, ha⟩ := hv.one
    simp only [opv] at e
    split at e
    · rename_i i ea
      cases e
      exact ⟨i, by rw [reads_int ha ea], vI rfl rfl rfl⟩
    · cases e
  | int =>
    rcases ws with _ | ⟨a, _ | ⟨b, ws⟩⟩ <;> try (cases e; done)
    obtain ⟨x, rfl, ha⟩ := hv.one
    simp only [opv] at e
    split at e
    · rename_i i ea
      cases e
      exact .inl ⟨i, by rw [reads_int ha ea], vI rfl rfl rfl⟩
    · rename_i i ea
      cases e
      exact .inr ⟨i, by rw [reads_bl ha ea], vI rfl rfl rfl⟩
    · cases e
  | max2 =>
    rcases ws with _ | ⟨a, _ | ⟨b, _ | ⟨c, ws⟩⟩⟩ <;> try (cases e; done)
    obtain ⟨x, y, rfl, ha, hb⟩ := hv.two
    simp only [opv] at e
    split at e
    · rename_i i j ea eb
      cases e
      exact ⟨i, j, by rw [reads_int ha ea, reads_int hb eb], vI rfl rfl rfl⟩
    · cases e
  | min2 =>
    rcases ws with _ | ⟨a, _ | ⟨b, _ | ⟨c, ws⟩⟩⟩ <;> try (cases e; done)
    obtain ⟨x, y, rfl, ha, hb⟩ := hv.two
    simp only [opv] at e
    split at e
    · rename_i i j ea eb
      cases e
      exact ⟨i, j, by rw [reads_int ha ea, reads_int hb eb], vI rfl rfl rfl⟩
    · cases e
  | max1 =>
    rcases ws with _ | ⟨a, _ | ⟨b, ws⟩⟩ <;> try (cases e; done)
    obtain ⟨x, rfl, ha⟩ := hv.one
    simp only [opv] at e
    split at e
    · rename_i xs ea
      split at e
      · rename_i y r en
        cases e
        obtain ⟨p, us, rfl, q, rr⟩ := reads_lst ha ea
        rw [Reps.ints en rr] at q
        exact ⟨p, _, rfl, .of q, Nat.succ_pos _, fun k h1 h2 => vI rfl rfl (congrArg V.int (maxL_of h1 h2))⟩
      · cases e
    · cases e
  | min1 =>
    rcases ws with _ | ⟨a, _ | ⟨b, ws⟩⟩ <;> try (cases e; done)
    obtain ⟨x, rfl, ha⟩ := hv.one
    simp only [opv] at e
    split at e
    · rename_i xs ea
      split at e
      · rename_i y r en
        cases e
        obtain ⟨p, us, rfl, q, rr⟩ := reads_lst ha ea
        rw [Reps.ints en rr] at q
        exact ⟨p, _, rfl, .of q, Nat.succ_pos _, fun k h1 h2 => vI rfl rfl (congrArg V.int (minL_of h1 h2))⟩
      · cases e
    · cases e
  | sum =>
    rcases ws with _ | ⟨a, _ | ⟨b, ws⟩⟩ <;> try (cases e; done)
    obtain ⟨x, rfl, ha⟩ := hv.one
    simp only [opv] at e
    split at e
    · rename_i xs ea
      split at e
      · rename_i ns en
        cases e
        obtain ⟨p, us, rfl, q, rr⟩ := reads_lst ha ea
        rw [Reps.ints en rr] at q
        exact ⟨p, _, rfl, .of q, vI rfl rfl rfl⟩
      · cases e
    · cases e
  | list =>
    rcases ws with _ | ⟨a, _ | ⟨b, ws⟩⟩ <;> try (cases e; done)
    obtain ⟨x, rfl, ha⟩ := hv.one
    have hf := ha.fall (Nat.le_refl n) G.dj
    simp only [opv] at e
    split at e
    · rename_i xs ea
      cases e
      rw [ea] at hf
      obtain ⟨p, us, rfl, q, r⟩ := hf
      refine ⟨p, us, rfl, .inl (.of (cut_some.mp q).2), fun z hz => ?_⟩
      obtain ⟨H', F', eh, B⟩ := fin_newL G1 hN ha.rs r hz
      rw [← eh]
      exact hQ _ _ _ (Fin.after A B)
    · rename_i xs ea
      cases e
      rw [ea] at hf
      obtain ⟨p, us, rfl, q, r⟩ := hf
      refine ⟨p, us, rfl, .inr (cut_le.t q), fun z hz => ?_⟩
      obtain ⟨H', F', eh, B⟩ := fin_newL G1 hN ha.rs r hz
      rw [← eh]
      exact hQ _ _ _ (Fin.after A B)
    · rename_i ns ea
      cases e
      obtain ⟨p, rfl, q⟩ := reads_scr ha ea
      exact ⟨p, _, rfl, .inl q, fun z hz => hQ _ _ _ (fin_newI G hN (immAll_ints ns) (Reps.ofInts ns) hz)⟩
    · cases e
  | tuple =>
    rcases ws with _ | ⟨a, _ | ⟨b, ws⟩⟩ <;> try (cases e; done)
    obtain ⟨x, rfl, ha⟩ := hv.one
    simp only [opv] at e
    split at e
    · rename_i xs ea
      split at e
      · rename_i im
        cases e
        obtain ⟨p, us, rfl, q, r⟩ := reads_lst ha ea
        exact ⟨p, us, rfl, .inl ⟨.of q, fun z hz => hQ _ _ _ (fin_tup G hN im r hz)⟩⟩
      · rename_i nim
        split at e
        · rename_i d8
          cases e
          obtain ⟨p, us, rfl, q, r⟩ := reads_lst ha ea
          refine ⟨p, us, rfl, .inl ⟨.of q, fun z hz => ?_⟩⟩
          obtain ⟨F', B⟩ := fin_tup8 G hN ha ea d8 q hz
          exact hQ _ _ _ B
        · split at e
          · rename_i l0
            cases e
            have h0 := ha.rep
            rw [l0, ea] at h0
            unfold ORep at h0
            obtain ⟨p, us, rfl, q, r⟩ := h0.2
            refine ⟨p, us, rfl, .inl ⟨.of (cut_some.mp q).2, fun z hz => ?_⟩⟩
            obtain ⟨F', B⟩ := fin_tup0 G hN ha.rs r hz
            exact hQ _ _ _ B
          · cases e
    · rename_i xs ea
      split at e
      · rename_i im
        cases e
        obtain ⟨p, us, rfl, q, r⟩ := reads_tup ha ea
        exact ⟨p, us, rfl, .inr ⟨q, vI rfl (by rw [imm]; exact im) ⟨p, us, rfl, q, r⟩⟩⟩
      · cases e
    · cases e
  | isi t =>
    rcases ws with _ | ⟨a, _ | ⟨b, ws⟩⟩ <;> try (cases e; done)
    obtain ⟨x, rfl, ha⟩ := hv.one
    simp only [opv] at e
    split at e
    · cases e
    · cases e
    · rename_i ne nf
      cases e
      obtain ⟨u, k1, k2⟩ := tyx_of t (fun cn f p z => ne cn f p z) (fun ks xs z => nf ks xs z) ha.read
      exact ⟨x, .ty (tyStr t), u, _, _, rfl, .ty _, k1, k2, vI rfl rfl rfl⟩
  | isE y =>
    rcases ws with _ | ⟨a, _ | ⟨b, ws⟩⟩ <;> try (cases e; done)
    obtain ⟨x, rfl, ha⟩ := hv.one
    simp only [opv] at e
    split at e
    · rename_i cn f p ea
      split at e
      · rename_i hy
        cases e
        have r := ha.read
        rw [ea] at r
        exact ⟨x, cn, f, p, rfl, r, hy, vI rfl rfl rfl⟩
      · cases e
    · cases e
  | isV =>
    rcases ws with _ | ⟨a, _ | ⟨b, ws⟩⟩ <;> try (cases e; done)
    obtain ⟨x, rfl, ha⟩ := hv.one
    simp only [opv] at e
    split at e
    · rename_i cn f p ea
      cases e
      have r := ha.read
      rw [ea] at r
      exact ⟨x, cn, f, p, rfl, r, vI rfl rfl rfl⟩
    · cases e
  | fld g =>
    rcases ws with _ | ⟨a, _ | ⟨b, ws⟩⟩ <;> try (cases e; done)
    obtain ⟨x, rfl, ha⟩ := hv.one
    simp only [opv] at e
    split at e
    · rename_i cn f p ea
      split at e
      · rename_i eg
        cases e
        have r := ha.read
        rw [ea] at r
        refine ⟨cn, f, p, r, eg, ?_⟩
        cases p with
        | inl i => exact vI rfl rfl rfl
        | inr z => exact vI rfl rfl rfl
      · cases e
    · cases e
  | slice lo hi =>
    rcases ws with _ | ⟨a, ws⟩
    · cases e
    obtain ⟨x, r, rfl, ha, hr⟩ := hv
    have hf := ha.fall (Nat.le_refl n) G.dj
    simp only [opv] at e
    split at e
    · rename_i xs ea ei
      split at e
      · rename_i c
        cases e
        obtain ⟨rfl, rfl⟩ := c
        rw [ea] at hf
        obtain ⟨p, us, rfl, q, rr⟩ := hf
        rcases ws with _ | ⟨b, ws⟩
        · rw [show r = [] from hr]
          refine .inl ⟨p, us, rfl, .of (cut_some.mp q).2, fun z hz => ?_⟩
          obtain ⟨H', F', eh, B⟩ := fin_newL G1 hN ha.rs (Reps.cut rr none none) hz
          rw [← eh]
          exact hQ _ _ _ (Fin.after A B)
        · exact absurd ei (intsD_ne _ _)
      · cases e
    · rename_i xs i ea ei
      obtain ⟨b, rfl, eb⟩ := intsD_one ei
      obtain ⟨y, r', rfl, hb, hr'⟩ := hr
      obtain rfl : r' = [] := hr'
      rw [ea] at hf
      obtain ⟨p, us, rfl, q, rr⟩ := hf
      split at e
      · rename_i c
        cases e
        obtain ⟨rfl, rfl⟩ := c
        refine ⟨i, reads_int hb eb, .inl ⟨p, us, rfl, .of (cut_some.mp q).2, fun z hz => ?_⟩⟩
        obtain ⟨H', F', eh, B⟩ := fin_newL G1 hN ha.rs (Reps.cut rr (some i) none) hz
        rw [← eh]
        exact hQ _ _ _ (Fin.after A B)
      · split at e
        · rename_i c
          cases e
          obtain ⟨rfl, rfl⟩ := c
          refine ⟨i, reads_int hb eb, .inl ⟨p, us, rfl, .of (cut_some.mp q).2, fun z hz => ?_⟩⟩
          obtain ⟨H', F', eh, B⟩ := fin_newL G1 hN ha.rs (Reps.cut rr none (some i)) hz
          rw [← eh]
          exact hQ _ _ _ (Fin.after A B)
        · cases e
    · rename_i xs ea ei
      split at e
      · rename_i c
        cases e
        obtain ⟨im, rfl, rfl⟩ := c
        rcases ws with _ | ⟨b, ws⟩
        · rw [show r = [] from hr]
          obtain ⟨p, us, rfl, q, rr⟩ := reads_tup ha ea
          exact .inr (slT_ok G hN im q rr hQ)
        · exact absurd ei (intsD_ne _ _)
      · cases e
    · rename_i xs i ea ei
      obtain ⟨b, rfl, eb⟩ := intsD_one ei
      obtain ⟨y, r', rfl, hb, hr'⟩ := hr
      obtain rfl : r' = [] := hr'
      obtain ⟨p, us, rfl, q, rr⟩ := reads_tup ha ea
      split at e
      · rename_i c
        cases e
        obtain ⟨im, rfl, rfl⟩ := c
        exact ⟨i, reads_int hb eb, .inr (slT_ok G hN im q rr hQ)⟩
      · split at e
        · rename_i c
          cases e
          obtain ⟨im, rfl, rfl⟩ := c
          exact ⟨i, reads_int hb eb, .inr (slT_ok G hN im q rr hQ)⟩
        · cases e
    · cases e
  | dict =>
    rcases ws with _ | ⟨a, _ | ⟨b, ws⟩⟩ <;> try (cases e; done)
    obtain ⟨x, rfl, ha⟩ := hv.one
    have hf := ha.fall (Nat.le_refl n) G.dj
    simp only [opv] at e
    split at e
    · rename_i ks xs ea
      cases e
      rw [ea] at hf
      obtain ⟨p, us, rfl, q, r⟩ := hf
      refine ⟨p, _, rfl, cut_le.rd q, fun z hz => ?_⟩
      obtain ⟨H', F', eh, B⟩ := fin_newDc (ks := ks) G1 hN ha.rs r hz
      have := hQ _ _ _ (Fin.after A B)
      rw [eh] at this
      exact this
    · cases e
  | rev =>
    rcases ws with _ | ⟨a, _ | ⟨b, ws⟩⟩ <;> try (cases e; done)
    obtain ⟨x, rfl, ha⟩ := hv.one
    have hf := ha.fall (Nat.le_refl n) G.dj
    simp only [opv] at e
    split at e
    · rename_i xs ea
      cases e
      rw [ea] at hf
      obtain ⟨p, us, rfl, q, rr⟩ := hf
      refine ⟨p, us, rfl, .of (cut_some.mp q).2, fun z hz => ?_⟩
      obtain ⟨H', F', eh, B⟩ := fin_newL G1 hN ha.rs (Reps.rev rr) hz
      rw [← eh]
      exact hQ _ _ _ (Fin.after A B)
    · cases e
  | join y =>
    rcases ws with _ | ⟨a, _ | ⟨b, ws⟩⟩ <;> try (cases e; done)
    obtain ⟨x, rfl, ha⟩ := hv.one
    simp only [opv] at e
    split at e
    · rename_i xs ea
      split at e
      · rename_i ys ey
        split at e
        · rename_i hz
          cases e
          obtain ⟨p, us, rfl, q, r⟩ := reads_lst ha ea
          rw [strsD_of ey r] at q
          exact ⟨y, p, ys, rfl, rfl, .inl (.of q), Nat.le_trans hz (by unfold lim; omega), vI rfl rfl rfl⟩
        · cases e
      · cases e
    · cases e
  | sorted =>
    rcases ws with _ | ⟨a, _ | ⟨b, ws⟩⟩ <;> try (cases e; done)
    obtain ⟨x, rfl, ha⟩ := hv.one
    simp only [opv] at e
    split at e
    · rename_i xs ea
      split at e
      · rename_i ps ep
        cases e
        obtain ⟨p, us, rfl, q, r⟩ := reads_lst ha ea
        obtain rfl := pairs_of ep
        refine .inl ⟨p, us, ps, rfl, .of q, r, fun ys z hy hz => ?_⟩
        exact hQ _ _ _ (fin_newI G hN (immAll_pairs _) hy hz)
      · split at e
        · rename_i ns en
          cases e
          obtain ⟨p, us, rfl, q, r⟩ := reads_lst ha ea
          refine .inr ⟨p, ns, rfl, .of (by rw [← Reps.ints en r]; exact q), fun ns' z hp hs hz => ?_⟩
          rw [ints_uniq hs (sortI_sorted ns) (hp.trans (List.mergeSort_perm ns leI).symm)]
          exact hQ _ _ _ (fin_newI G hN (immAll_intsF _) (Reps.ofInts _) hz)
        · cases e
    · cases e
end
end Own

end
section
set_option maxHeartbeats 1000000
namespace Own
open PySem PySem.Spec L2

abbrev mem (l : List Nat) : Nat → Prop := fun i => i ∈ l
/-- how an error of the class c with the fields as lies -/
abbrev ERel := Hp → Nat → List D → Value → Option Addr → Prop
def ExcP (K : PySem.W.Frag) (ER : ERel) (Wx : WX) (N : Nat) (M : Nat → Prop) (σ : L2.St) (H : Hp) (F : Fpt) (n : Nat) (c : Nat) (as : List D) (Γ' : Gm) : Prop :=
  ∀ cls dx H' F', ER H' c as cls dx → Gd K Γ' σ H' F' n → Dl N M H F n H' F' → Wx cls dx σ H'
/-- what is wanted behind a step -/
def PostR {α : Type} (K : PySem.W.Frag) (ER : ERel) (Wx : WX) (N : Nat) (M : Nat → Prop) (σ : L2.St) (H : Hp) (F : Fpt) (n : Nat) (P : α → Gm → Prop) : Res (α × Gm) → Prop
  | .ok (a, Γ') => P a Γ'
  | .exc c as Γ' => ExcP K ER Wx N M σ H F n c as Γ'
  | .stuck => False
section
variable {K : PySem.W.Frag} {ER : ERel} {Wx : WX} {N n n' : Nat} {M M' M1 M2 : Nat → Prop} {σ : L2.St} {H H1 H2 : Hp} {F F1 F2 : Fpt} {Γ Γ1 : Gm} {α β : Type}
theorem ExcP.weak {c : Nat} {as : List D} {Γ' : Gm} (h : ExcP K ER Wx N M2 σ H F n c as Γ') (w : ∀ m, M1 m → M2 m) : ExcP K ER Wx N M1 σ H F n c as Γ' :=
  fun cls dx H' F' e g d => h cls dx H' F' e g (d.weak fun m _ => w m)
/-- an error of a later part -/
theorem ExcP.later {c : Nat} {as : List D} {Γ' : Gm} (h : ExcP K ER Wx N M σ H F n c as Γ') (D1 : Dl N M1 H F n H1 F1) (hN : N ≤ n) (hn : n ≤ n') (hl : Γ'.length ≤ n ∨ Γ'.length = N) (w1 : ∀ m, M1 m → M m) (w2 : ∀ m, M2 m → M m) : ExcP K ER Wx N M2 σ H1 F1 n' c as Γ' :=
  fun cls dx H' F' e g d => by
    have D2 := (D1.trans d hN hn).weak (M2 := M) fun m _ z => z.elim (w1 m) (w2 m)
    exact h cls dx H' (low n F') e (g.drop (hl.elim id (fun z => by omega))) (D2.drop hN)
end

/-! ### contexts -/
/-- a def's promise: m how it takes its arguments, G what it is -/
def DSp (K : PySem.W.Frag) (ER : ERel) (m : Mode) (G : List D → Res (D × List D)) : Sp := fun vs H Q E => ∃ (ds : List D) (F : Fpt), ds.length = m.io.length ∧ Gd K (entry m.io ds) (vs.map some) H F (ds.length + 1) ∧
  (match G ds with
  | .ok (r, os) => ∀ (ds' : List D) v H' F', exits m.io (entry m.io ds') = some os → ds'.length = m.io.length → Gd K (entry m.io ds') (vs.map some) H' F' (ds.length + 2) →
      At K ds.length H' F' (ds.length + 1) ⟨if m.fresh then 8 else 0, [], r⟩ v → Dl ds.length (fun _ => True) H F (ds.length + 1) H' F' → Q v H'
  | .exc c as _ => ∀ cls dx H' F', ER H' c as cls dx → Dl ds.length (fun _ => True) H F (ds.length + 1) H' F' → E cls dx H'
  | .stuck => False)
structure XC (X : Cx) (m : Nm) (sc : Scope) (C : Ctx) (ER : ERel) (Wx : WX) : Prop extends XO X m sc where
  tk : Takes X Wx
  fns : ∀ f x, m.fn f = some x → ∃ (md : Mode) (k : Nat) (a : Addr) (fd : FuncData) (ps : List Str), C.mode f = some md ∧ FnOk X.prog X.w X.K X.mg X.base (L2.CX X.prog X.w) k a fd ps (DSp X.K ER md (C.call f)) ∧ Room k X.A ∧
    X.mg x = some (.ref a) ∧ PySem.W.keepIn X.K (.ref a) = true ∧ Binds X.K fd ps []
  gls : ∀ g x d, m.gl g = some x → C.glob g = some d → ∃ (u : Value) (v : V), X.mg x = some u ∧ RelV v u ∧ ∀ R, Rep X.K R d v

/-! ### readings -/
def tE (K : PySem.W.Frag) (ER : ERel) (C : Ctx) (Wx : WX) (e : E) : TE := fun σ H Q => ∃ Γ F n, Gd K Γ σ H F n ∧
  PostR K ER Wx Γ.length (mem (mutE e)) σ H F n (fun w Γ' => ∀ v H' F', Gd K Γ' σ H' F' (n + 1) → At K Γ.length H' F' n w v → Dl Γ.length (mem (mutE e)) H F n H' F' → Q v H') (ev C e Γ)
def tT (K : PySem.W.Frag) (ER : ERel) (C : Ctx) (Wx : WX) (e : E) : TT := fun σ H Q => ∃ Γ F n, Gd K Γ σ H F n ∧
  PostR K ER Wx Γ.length (mem (mutE e)) σ H F n (fun k Γ' => ∀ H' F', Gd K Γ' σ H' F' n → Dl Γ.length (mem (mutE e)) H F n H' F' → Q k H') (evT C e Γ)
/-- arguments in hand, from place n on -/
def Aat (K : PySem.W.Frag) (N : Nat) (σ : L2.St) (H : Hp) (F : Fpt) : Nat → List Aw → List V → Prop
  | _, [], vs => vs = []
  | n, .val w :: ws, vs => ∃ v r, vs = v :: r ∧ At K N H F n w v ∧ Aat K N σ H F (n + 1) ws r
  | n, .tmp w :: ws, vs => ∃ v r, vs = v :: r ∧ At K N H F n w v ∧ Aat K N σ H F (n + 1) ws r
  | n, .io i :: ws, vs => ∃ v r, vs = v :: r ∧ (σ[i]? = some (some v) ∧ F n = []) ∧ Aat K N σ H F (n + 1) ws r
def tEs (K : PySem.W.Frag) (ER : ERel) (C : Ctx) (Wx : WX) (es : Es) : TA := fun σ H Q => ∃ Γ F n, Gd K Γ σ H F n ∧
  PostR K ER Wx Γ.length (mem (mutEs es)) σ H F n (fun ws Γ' => ∀ vs H' F', Gd K Γ' σ H' F' (n + ws.length) → Aat K Γ.length σ H' F' n ws vs → Dl Γ.length (mem (mutEs es)) H F n H' F' → Q vs H') (evs C es Γ)
def tsOf (K : PySem.W.Frag) (ER : ERel) (C : Ctx) (Wx : WX) : Es → List TE
  | .nil => []
  | .cons e es => tE K ER C Wx e :: tsOf K ER C Wx es
  | .io i es => tVar i :: tsOf K ER C Wx es
  | .tmp e es => tE K ER C Wx e :: tsOf K ER C Wx es
section
variable {K : PySem.W.Frag} {ER : ERel} {C : Ctx} {Wx : WX} {N n m : Nat} {Γ Γ1 Γ2 : Gm} {σ : L2.St} {H H1 H2 : Hp} {F F1 F2 : Fpt} {w : W} {v : V} {vs : List V}
theorem Gd.up (G : Gd K Γ σ H F n) : Gd K Γ σ H F (n + 1) := ⟨G.len, Nat.le_succ_of_le G.top, fun k h => G.off k (by omega), G.nd, G.dj, G.obj, G.rep⟩
theorem Gd.same (G : Gd K Γ σ H F n) (G1 : Gd K Γ1 σ H1 F1 m) : Γ1.length = Γ.length := G1.len.symm.trans G.len
theorem hold_no {ms : List Nat} (h : hold w ms = true) : ∀ r ∈ w.rs, ¬ mem ms r := fun r hr hm => by
  unfold hold at h
  have := List.all_eq_true.mp h r hr
  simp only [Bool.not_eq_true', List.contains_eq_mem, decide_eq_false_iff_not] at this
  exact this hm
theorem Gd.rdv (G : Gd K Γ σ H F n) {i : Nat} (h : rd Γ i = some w) : ∃ v, σ[i]? = some (some v) ∧ At K Γ.length H F i w v := by
  unfold rd at h
  split at h
  · rename_i w' e
    cases h
    exact G.rep i w e
  · cases h
/-- THE ARGUMENTS, from the left -/
theorem tEs_all : ∀ (es : Es) {σ : L2.St} {H : Hp} {Q : List V → Hp → Prop}, tEs K ER C Wx es σ H Q → tAll (tsOf K ER C Wx es) σ H Q
  | .nil, σ, H, Q, h => by
    obtain ⟨Γ, F, n, G, P⟩ := h
    rw [evs] at P
    exact P [] H F G rfl (Dl.refl G.top G.off)
  | .cons e es, σ, H, Q, h => by
    obtain ⟨Γ, F, n, G, P⟩ := h
    rw [evs] at P
    refine ⟨Γ, F, n, G, ?_⟩
    cases he : ev C e Γ with
    | stuck => rw [he] at P; exact P
    | exc c as Γ' => rw [he] at P; exact ExcP.weak P fun m hm => List.mem_append_left _ hm
    | ok p =>
      obtain ⟨w, Γ1⟩ := p
      rw [he] at P
      intro v H1 F1 G1 A1 D1
      have hN := G.same G1
      refine tEs_all es ⟨Γ1, F1, n + 1, G1, ?_⟩
      rw [bind_ok] at P
      cases hs : evs C es Γ1 with
      | stuck => simp only [hs] at P; exact P
      | exc c as Γ' =>
        simp only [hs] at P
        rw [hN]
        intro cls dx H' F' er g d
        exact ExcP.later P D1 G.top (Nat.le_succ n) (.inr (G.same g)) (fun m hm => List.mem_append_left _ hm) (fun m hm => List.mem_append_right _ hm) cls dx H' F' er g d
      | ok q =>
        obtain ⟨ws, Γ2⟩ := q
        simp only [hs] at P
        rw [bind_ok] at P
        intro us H2 F2 G2 A2 D2
        rw [hN] at D2 A2
        by_cases hh : hold w (mutEs es) = true
        · simp only [hh, if_true] at P
          refine P (v :: us) H2 F2 (by rw [List.length_cons]; rw [show n + (ws.length + 1) = n + 1 + ws.length by omega]; exact G2) ⟨v, us, rfl, A1.hold D2 G.top (Nat.lt_succ_self n) (hold_no hh) G1.dj, A2⟩ ?_
          exact (D1.trans D2 G.top (Nat.le_succ n)).weak fun m _ z => z.elim (fun z => List.mem_append_left _ z) fun z => List.mem_append_right _ z
        · rw [Bool.not_eq_true] at hh
          simp only [hh, Bool.false_eq_true, if_false] at P
          exact P.elim
  | .tmp e es, σ, H, Q, h => by
    obtain ⟨Γ, F, n, G, P⟩ := h
    rw [evs] at P
    refine ⟨Γ, F, n, G, ?_⟩
    cases he : ev C e Γ with
    | stuck => rw [he] at P; exact P
    | exc c as Γ' => rw [he] at P; exact ExcP.weak P fun m hm => List.mem_append_left _ hm
    | ok p =>
      obtain ⟨w, Γ1⟩ := p
      rw [he] at P
      intro v H1 F1 G1 A1 D1
      have hN := G.same G1
      refine tEs_all es ⟨Γ1, F1, n + 1, G1, ?_⟩
      rw [bind_ok] at P
      cases hs : evs C es Γ1 with
      | stuck => simp only [hs] at P; exact P
      | exc c as Γ' =>
        simp only [hs] at P
        rw [hN]
        intro cls dx H' F' er g d
        exact ExcP.later P D1 G.top (Nat.le_succ n) (.inr (G.same g)) (fun m hm => List.mem_append_left _ hm) (fun m hm => List.mem_append_right _ hm) cls dx H' F' er g d
      | ok q =>
        obtain ⟨ws, Γ2⟩ := q
        simp only [hs] at P
        rw [bind_ok] at P
        intro us H2 F2 G2 A2 D2
        rw [hN] at D2 A2
        by_cases hh : hold w (mutEs es) = true
        · simp only [hh, if_true] at P
          refine P (v :: us) H2 F2 (by rw [List.length_cons]; rw [show n + (ws.length + 1) = n + 1 + ws.length by omega]; exact G2) ⟨v, us, rfl, A1.hold D2 G.top (Nat.lt_succ_self n) (hold_no hh) G1.dj, A2⟩ ?_
          exact (D1.trans D2 G.top (Nat.le_succ n)).weak fun m _ z => z.elim (fun z => List.mem_append_left _ z) fun z => List.mem_append_right _ z
        · rw [Bool.not_eq_true] at hh
          simp only [hh, Bool.false_eq_true, if_false] at P
          exact P.elim
  | .io i es, σ, H, Q, h => by
    obtain ⟨Γ, F, n, G, P⟩ := h
    rw [evs] at P
    cases hr : rd Γ i with
    | none => simp only [hr] at P; exact P.elim
    | some w =>
      simp only [hr] at P
      obtain ⟨v, hv, _⟩ := G.rdv hr
      refine ⟨v, hv, tEs_all es ⟨Γ, F, n + 1, G.up, ?_⟩⟩
      have D1 : Dl Γ.length (mem (mutEs (.io i es))) H F n H F := Dl.refl G.top G.off
      cases hs : evs C es Γ with
      | stuck => simp only [hs] at P; exact P
      | exc c as Γ' =>
        simp only [hs] at P
        intro cls dx H' F' er g d
        exact ExcP.later P D1 G.top (Nat.le_succ n) (.inr (G.same g)) (fun m hm => hm) (fun m hm => List.mem_cons_of_mem _ hm) cls dx H' F' er g d
      | ok q =>
        obtain ⟨ws, Γ2⟩ := q
        simp only [hs] at P
        rw [bind_ok] at P
        intro us H2 F2 G2 A2 D2
        refine P (v :: us) H2 F2 (by rw [List.length_cons]; rw [show n + (ws.length + 1) = n + 1 + ws.length by omega]; exact G2) ⟨v, us, rfl, ⟨hv, by rw [D2.frm n G.top (Nat.lt_succ_self n)]; exact G.off n (Nat.le_refl n)⟩, A2⟩ ?_
        exact (D1.trans D2 G.top (Nat.le_succ n)).weak fun m _ z => z.elim id fun z => List.mem_cons_of_mem _ z
theorem Aat.vals : ∀ {ws : List Aw} {xs : List W} {n : Nat} {vs : List V}, avals ws = some xs → Aat K N σ H F n ws vs → Vat K N H F n xs vs
  | [], xs, n, vs, e, h => by
    cases e
    exact h
  | .val w :: ws, xs, n, vs, e, h => by
    unfold avals at e
    split at e
    · rename_i ys ey
      cases e
      obtain ⟨v, r, ev, h1, h2⟩ := h
      exact ⟨v, r, ev, h1, Aat.vals ey h2⟩
    · cases e
  | .tmp _ :: _, _, _, _, e, _ => by cases e
  | .io _ :: _, _, _, _, e, _ => by cases e
theorem avals_len : ∀ {ws : List Aw} {xs : List W}, avals ws = some xs → xs.length = ws.length
  | [], xs, e => by cases e; rfl
  | .val w :: ws, xs, e => by
    unfold avals at e
    split at e
    · rename_i ys ey
      cases e
      rw [List.length_cons, List.length_cons, avals_len ey]
    · cases e
  | .tmp _ :: _, _, e => by cases e
  | .io _ :: _, _, e => by cases e
/-- an operation's reading -/
theorem tE_op {o : Op} {es : Es} {Q : VK} (h : tE K ER C Wx (.op o es) σ H Q) : tEs K ER C Wx es σ H (fun vs H1 => opR K o vs H1 Q) := by
  obtain ⟨Γ, F, n, G, P⟩ := h
  rw [ev] at P
  refine ⟨Γ, F, n, G, ?_⟩
  cases hs : evs C es Γ with
  | stuck => rw [hs] at P; exact P
  | exc c as Γ' => rw [hs] at P; exact P
  | ok q =>
    obtain ⟨ws, Γ1⟩ := q
    rw [hs, bind_ok] at P
    intro vs H1 F1 G1 A1 D1
    have hN := G.same G1
    cases ha : avals ws with
    | none => simp only [ha] at P; exact P.elim
    | some xs =>
      simp only [ha] at P
      cases ho : opv o xs with
      | stuck => rw [ho] at P; exact P.elim
      | exc c as Γ' => exact absurd ho (opv_exc o xs c as Γ')
      | ok w =>
        rw [ho, bind_ok] at P
        refine opv_ok (m := n + ws.length) (n := n) G1 (by rw [hN]; exact G.top) (by rw [hN]; exact A1.vals ha) ho fun v H2 F2 B => ?_
        have hN' := B.at_
        rw [hN] at hN'
        exact P v H2 F2 B.gd hN' (D1.temps G.top B.nw.same B.nw.lo B.nw.fr)
end
end Own

end
section
set_option maxHeartbeats 1000000
namespace Own
open PySem PySem.Spec L2

/-- some slots own nothing any longer -/
structure Shr (N : Nat) (F F' : Fpt) : Prop where
  or : ∀ k, F' k = F k ∨ F' k = []
  hi : ∀ k, N ≤ k → F' k = F k
section
variable {K : PySem.W.Frag} {ER : ERel} {C : Ctx} {Wx : WX} {N n m k : Nat} {Γ Γ1 Γ2 : Gm} {σ : L2.St} {H H0 H1 H2 : Hp} {F F' F0 F1 F2 : Fpt} {w : W} {v : V} {vs : List V} {M : Nat → Prop} {rs : List Nat}
theorem Shr.refl : Shr N F F := ⟨fun _ => .inl rfl, fun _ _ => rfl⟩
theorem Shr.sub (h : Shr N F F') {k : Nat} {a : Addr} (e : a ∈ F' k) : a ∈ F k := by
  rcases h.or k with q | q
  · rw [q] at e; exact e
  · rw [q] at e; cases e
theorem Shr.trans (h : Shr N F F1) (h' : Shr N F1 F2) : Shr N F F2 where
  or := fun k => by
    rcases h'.or k with q | q
    · rw [q]; exact h.or k
    · exact .inr q
  hi := fun k hk => (h'.hi k hk).trans (h.hi k hk)
theorem Shr.oth (h : Shr N F F') {rs : List Nat} {a : Addr} (e : Oth F' rs a) : Oth F rs a := by
  obtain ⟨j, hj, z⟩ := e
  exact ⟨j, hj, h.sub z⟩
theorem Dl.shr (D1 : Dl N M H0 F0 n H F) (h : Shr N F F') : Dl N M H0 F0 n H F' where
  keep := D1.keep
  frm := fun k h1 h2 => (h.hi k h1).trans (D1.frm k h1 h2)
  old := fun k a hk nk e => D1.old k a hk nk (h.sub e)
  new := fun k a c e => D1.new k a c (h.sub e)
theorem At.shr (A : At K N H F k w v) (h : Shr N F F') (hk : F' k = F k) : At K N H F' k w v :=
  A.move (fun _ _ _ e => e) hk fun a o no e => ⟨e, fun z => no (h.oth z)⟩
/-- .. and the value has nobody to ask any longer -/
theorem At.free (A : At K N H F k w v) (h : ∀ r ∈ w.rs, F r = []) : At K N H F k ⟨w.l, [], w.d⟩ v :=
  ⟨fun _ z => (nomatch z), ORep.mono (cut_sub fun a o no e => ⟨e, fun ⟨j, _, z⟩ => no ⟨j, (fun q => by rw [h j q] at z; exact absurd z List.not_mem_nil), z⟩⟩) (fun _ _ _ e => e) A.rep⟩
theorem At.val (A : At K N H F k w v) (G : Gd K Γ σ H F n) (i : imm w.d = true) : At K N H F k (val w.d) v := by
  refine ⟨fun _ z => (nomatch z), ?_⟩
  rw [ORep.imm_nil i A.rep]
  exact orep0 (Rep.imm_cut (fun a q => G.othObj q) i A.read)
theorem Gd.freeze1 (G : Gd K Γ σ H F n) {i : Nat} (hi : i < Γ.length) : ∃ F', Gd K (freeze1 i Γ) σ H F' n ∧ F' i = [] ∧ Shr Γ.length F F' := by
  have sh : Shr Γ.length F (put F i []) := ⟨fun k => by
    by_cases q : k = i
    · subst q; rw [put_same]; exact .inr rfl
    · rw [put_ne q]; exact .inl rfl, fun k hk => put_ne (by omega)⟩
  have nd : ∀ k, (put F i [] k).Nodup := fun k => by
    rcases sh.or k with q | q
    · rw [q]; exact G.nd k
    · rw [q]; exact List.nodup_nil
  have base : ∀ Γ', Γ'.length = Γ.length → (∀ j w, Γ'[j]? = some (some w) → ∃ v, σ[j]? = some (some v) ∧ At K Γ.length H (put F i []) j w v) → Gd K Γ' σ H (put F i []) n := fun Γ' hl hr =>
    ⟨G.len.trans hl.symm, by rw [hl]; exact G.top, fun k hk => by
      rcases sh.or k with q | q
      · rw [q]; exact G.off k hk
      · exact q, nd, fun a b x e1 e2 => G.dj a b x (sh.sub e1) (sh.sub e2), fun a x e => G.obj a x (sh.sub e), by rw [hl]; exact hr⟩
  have other : ∀ j w, j ≠ i → Γ[j]? = some (some w) → ∃ v, σ[j]? = some (some v) ∧ At K Γ.length H (put F i []) j w v := fun j w hj e => by
    obtain ⟨v, hv, A⟩ := G.rep j w e
    exact ⟨v, hv, A.shr sh (put_ne hj)⟩
  refine ⟨put F i [], ?_, put_same, sh⟩
  unfold Own.freeze1
  split
  · rename_i w e
    refine base _ (by simp) fun j u hu => ?_
    by_cases q : j = i
    · subst q
      rw [List.getElem?_set_self hi] at hu
      cases hu
      obtain ⟨v, hv, A⟩ := G.rep j w e
      refine ⟨v, hv, A.rs, ?_⟩
      rw [put_same]
      exact orep0 (ORep.rep (cut_sub fun a o no e => ⟨e, fun z => no (sh.oth z)⟩) (fun a ha o e => cut_some.mpr ⟨fun ⟨b, hb, z⟩ => by
        have e1 := G.dj j b a ha (sh.sub z)
        subst e1
        rw [put_same] at z
        exact absurd z List.not_mem_nil, e⟩) A.rep)
    · rw [List.getElem?_set_ne (Ne.symm q)] at hu
      exact other j u q hu
  · rename_i ne
    exact base Γ rfl fun j u hu => other j u (fun z => by subst z; exact ne u hu) hu
theorem freeze1_len {i : Nat} : (freeze1 i Γ).length = Γ.length := by
  unfold freeze1
  split <;> simp
theorem Gd.freeze : ∀ (rs : List Nat) {Γ : Gm} {F : Fpt}, Gd K Γ σ H F n → (∀ r ∈ rs, r < Γ.length) → ∃ F', Gd K (freeze rs Γ) σ H F' n ∧ (∀ r ∈ rs, F' r = []) ∧ Shr Γ.length F F'
  | [], Γ, F, G, _ => ⟨F, G, (fun _ z => (nomatch z)), Shr.refl⟩
  | r :: rs, Γ, F, G, h => by
    obtain ⟨F1, G1, e1, s1⟩ := G.freeze1 (h r List.mem_cons_self)
    obtain ⟨F2, G2, e2, s2⟩ := Gd.freeze rs G1 fun q hq => by rw [freeze1_len]; exact h q (List.mem_cons_of_mem _ hq)
    rw [freeze1_len] at s2
    refine ⟨F2, G2, fun q hq => ?_, s1.trans s2⟩
    rcases List.mem_cons.mp hq with z | z
    · subst z
      rcases s2.or q with y | y
      · rw [y]; exact e1
      · exact y
    · exact e2 q z
/-- a value settles -/
theorem Gd.stl (G : Gd K Γ σ H F n) (A : At K Γ.length H F k w v) (hk : Γ.length ≤ k) : ∃ F', Gd K (stl w Γ).2 σ H F' n ∧ At K Γ.length H F' k (stl w Γ).1 v ∧ Shr Γ.length F F' := by
  unfold Own.stl
  by_cases i : imm w.d = true
  · rw [if_pos i]
    exact ⟨F, G, A.val G i, Shr.refl⟩
  · rw [if_neg i]
    obtain ⟨F', G', e, s⟩ := Gd.freeze w.rs G A.rs
    exact ⟨F', G', (A.shr s (s.hi k hk)).free e, s⟩
theorem stl_d : (stl w Γ).1.d = w.d := by
  unfold stl
  split <;> rfl
theorem stl_rs : (stl w Γ).1.rs = [] := by
  unfold stl
  split <;> rfl
theorem freeze_len : ∀ (rs : List Nat) {Γ : Gm}, (freeze rs Γ).length = Γ.length
  | [], _ => rfl
  | r :: rs, Γ => by
    show (freeze rs (freeze1 r Γ)).length = _
    rw [freeze_len rs, freeze1_len]
theorem stl_len : (stl w Γ).2.length = Γ.length := by
  unfold stl
  split
  · rfl
  · exact freeze_len _
/-- slot i is given the value in hand at place n -/
theorem Gd.store {i : Nat} (G : Gd K Γ σ H F (n + 1)) (A : At K Γ.length H F n w v) (hN : Γ.length ≤ n) (hi : i < Γ.length) : Gd K (Γ.set i (some w)) (σ.set i (some v)) H (put (put F i (F n)) n []) n := by
  have hin : i ≠ n := by omega
  have at_ : ∀ k, put (put F i (F n)) n [] k = if k = n then [] else if k = i then F n else F k := fun k => rfl
  have sub : ∀ k a, a ∈ put (put F i (F n)) n [] k → (k = i ∧ a ∈ F n) ∨ (k ≠ i ∧ k ≠ n ∧ a ∈ F k) := fun k a e => by
    rw [at_] at e
    split at e
    · cases e
    · split at e
      · exact .inl ⟨by assumption, e⟩
      · exact .inr ⟨by assumption, by assumption, e⟩
  have oth : ∀ rs a, (∀ r ∈ rs, r < Γ.length) → Oth (put (put F i (F n)) n []) rs a → Oth F rs a := fun rs a hrs ⟨j, hj, e⟩ => by
    rcases sub j a e with ⟨_, z⟩ | ⟨_, _, z⟩
    · exact ⟨n, fun q => by have := hrs n q; omega, z⟩
    · exact ⟨j, hj, z⟩
  refine ⟨by rw [List.length_set, List.length_set]; exact G.len, by rw [List.length_set]; exact hN, fun k hk => ?_, fun k => ?_, fun p q a e1 e2 => ?_, fun k a e => ?_, fun j u hu => ?_⟩
  · by_cases q : k = n
    · rw [at_, if_pos q]
    · rw [at_, if_neg q, if_neg (by omega)]
      exact G.off k (by omega)
  · rw [at_]
    split
    · exact List.nodup_nil
    · split
      · exact G.nd n
      · exact G.nd k
  · rcases sub p a e1 with ⟨z1, z2⟩ | ⟨z1, z2, z3⟩
    · rcases sub q a e2 with ⟨y1, y2⟩ | ⟨y1, y2, y3⟩
      · rw [z1, y1]
      · exact absurd (G.dj n q a z2 y3) (Ne.symm y2)
    · rcases sub q a e2 with ⟨y1, y2⟩ | ⟨y1, y2, y3⟩
      · exact absurd (G.dj p n a z3 y2) z2
      · exact G.dj p q a z3 y3
  · rcases sub k a e with ⟨_, z⟩ | ⟨_, _, z⟩
    · exact G.obj n a z
    · exact G.obj k a z
  · rw [List.length_set]
    by_cases q : j = i
    · subst q
      rw [List.getElem?_set_self hi] at hu
      cases hu
      refine ⟨v, by rw [List.getElem?_set_self (by rw [G.len]; exact hi)], A.rs, ?_⟩
      rw [at_, if_neg hin, if_pos rfl]
      exact ORep.mono (cut_sub fun a o no e => ⟨e, fun z => no (oth _ _ A.rs z)⟩) (fun _ _ _ e => e) A.rep
    · rw [List.getElem?_set_ne (Ne.symm q)] at hu
      obtain ⟨x, hx, B⟩ := G.rep j u hu
      have hj : j < Γ.length := (List.getElem?_eq_some_iff.mp hu).1
      refine ⟨x, by rw [List.getElem?_set_ne (Ne.symm q)]; exact hx, B.move (fun _ _ _ e => e) (by rw [at_, if_neg (by omega), if_neg q]) fun a o no e => ⟨e, fun z => no (oth _ _ B.rs z)⟩⟩
theorem Dl.store {i : Nat} (D1 : Dl N M H0 F0 n H F) (hN : N ≤ n) (hi : i < N) (hM : M i) : Dl N M H0 F0 n H (put (put F i (F n)) n []) where
  keep := D1.keep
  frm := fun k h1 h2 => by rw [put_ne (by omega), put_ne (by omega)]; exact D1.frm k h1 h2
  old := fun k a hk nk e => by
    rw [put_ne (by omega), put_ne (fun z => nk (by rw [z]; exact hM))] at e
    exact D1.old k a hk nk e
  new := fun k a c e => by
    by_cases q : k = n
    · subst q; rw [put_same] at e; cases e
    · rw [put_ne q] at e
      by_cases p : k = i
      · subst p
        rw [put_same] at e
        exact D1.new n a (.inr (Nat.le_refl n)) e
      · rw [put_ne p] at e
        exact D1.new k a c e
/-- setG -/
theorem setG_ok {i : Nat} {D : Ends} (G : Gd K Γ σ H F (n + 1)) (A : At K Γ.length H F n w v) (hN : Γ.length ≤ n) (hi : i < Γ.length) :
    ∃ F', Gd K ((stl w Γ).2.set i (some (stl w Γ).1)) (σ.set i (some v)) H F' n ∧ (∀ H0 F0 M, Dl Γ.length M H0 F0 n H F → M i → Dl Γ.length M H0 F0 n H F') := by
  obtain ⟨F1, G1, A1, s1⟩ := G.stl A hN
  have hl := stl_len (w := w) (Γ := Γ)
  refine ⟨_, G1.store (by rw [hl]; exact A1) (by rw [hl]; exact hN) (by rw [hl]; exact hi), fun H0 F0 M D1 hM => (D1.shr s1).store hN hi hM⟩

/-! ### displays -/
theorem Vat.reps : ∀ {ws : List W} {n : Nat} {vs : List V}, Vat K N H F n ws vs → Reps K H (ws.map (·.d)) vs
  | [], _, _, h => h
  | w :: ws, n, vs, h => by
    obtain ⟨v, r, e, h1, h2⟩ := h
    exact ⟨v, r, e, h1.read, Vat.reps h2⟩
theorem Vat.len : ∀ {ws : List W} {n : Nat} {vs : List V}, Vat K N H F n ws vs → vs.length = ws.length
  | [], _, _, h => by rw [show _ = [] from h]; rfl
  | w :: ws, n, vs, h => by
    obtain ⟨v, r, e, h1, h2⟩ := h
    rw [e, List.length_cons, List.length_cons, Vat.len h2]
/-- values that are owned through and through, as one -/
theorem Vat.own (hob : ∀ i a, a ∈ F i → Ob H a) (dj : ∀ i j a, a ∈ F i → a ∈ F j → i = j) (nd : ∀ i, (F i).Nodup) : ∀ {ws : List W} {n : Nat} {vs : List V}, ws.all deep = true → Vat K N H F n ws vs →
    ∃ f, f.Nodup ∧ (∀ a ∈ f, ∃ k, n ≤ k ∧ a ∈ F k) ∧ ∀ P : Addr → Prop, (∀ a, P a → Oth F [] a) → (∀ k a, n ≤ k → a ∈ F k → a ∉ f → ¬ P a) → (∀ a, P a → Ob H a) → OReps K H (cut H P) 8 (ws.map (·.d)) vs f
  | [], n, vs, _, h => ⟨[], List.nodup_nil, (fun _ z => (nomatch z)), fun P _ _ _ => by unfold List.map OReps; exact ⟨h, rfl⟩⟩
  | w :: ws, n, vs, dp, h => by
    obtain ⟨v, r, e, h1, h2⟩ := h
    rw [List.all_cons, Bool.and_eq_true] at dp
    obtain ⟨g, g1, g2, g3⟩ := Vat.own hob dj nd dp.2 h2
    by_cases im : imm w.d = true
    · refine ⟨g, g1, fun a ha => ?_, fun P h3 h4 h5 => ?_⟩
      · obtain ⟨k, k1, k2⟩ := g2 a ha
        exact ⟨k, by omega, k2⟩
      · rw [List.map_cons]
        unfold OReps
        exact ⟨v, r, [], g, e, rfl, Rep.own im (Rep.imm_cut h5 im h1.read), g3 P h3 (fun k a hk => h4 k a (by omega)) h5⟩
    · have dw : w.l = 8 ∧ w.rs = [] := by
        have q := dp.1
        unfold deep at q
        rw [Bool.or_eq_true, Bool.and_eq_true, decide_eq_true_eq, List.isEmpty_iff] at q
        rcases q with q | q
        · exact absurd q im
        · exact q
      have rp := h1.rep
      rw [dw.2, dw.1] at rp
      have sep : ∀ a ∈ F n, a ∉ g := fun a ha hg => by
        obtain ⟨k, k1, k2⟩ := g2 a hg
        have := dj n k a ha k2
        omega
      refine ⟨F n ++ g, List.nodup_append.mpr ⟨nd n, g1, fun x hx y hy z => sep x hx (by rw [z]; exact hy)⟩, fun a ha => ?_, fun P h3 h4 h5 => ?_⟩
      · rcases List.mem_append.mp ha with z | z
        · exact ⟨n, Nat.le_refl n, z⟩
        · obtain ⟨k, k1, k2⟩ := g2 a z
          exact ⟨k, by omega, k2⟩
      · rw [List.map_cons]
        unfold OReps
        refine ⟨v, r, F n, g, e, rfl, ORep.mono (cut_sub fun a o no e => ⟨e, fun z => no (h3 a z)⟩) (fun _ _ _ e => e) rp, g3 P h3 (fun k a hk hka na => h4 k a (by omega) hka fun z => ?_) h5⟩
        rcases List.mem_append.mp z with z | z
        · have := dj n k a z hka
          omega
        · exact na z
/-- a new object over values that are owned -/
theorem fin_own (G : Gd K Γ σ H F m) (hN : Γ.length ≤ n) {ws : List W} (dp : ws.all deep = true) (h : Vat K Γ.length H F n ws vs) {p : Addr} (hp : H p = none) (b : Bool) :
    ∃ F', Fin K Γ σ H F n (if b then ⟨8, [], .lst (ws.map (·.d))⟩ else ⟨8, [], .tup (ws.map (·.d))⟩) (.ref p) (upd H p (if b then .lst vs else .tup vs)) F' := by
  obtain ⟨f, f1, f2, f3⟩ := Vat.own G.obj G.dj G.nd dp h
  have s : Same H (upd H p (if b then .lst vs else .tup vs)) := fun a o e => by rw [upd_ne (ne_of_none e hp)]; exact e
  have hpf : p ∉ f := fun z => by
    obtain ⟨k, _, k2⟩ := f2 p z
    obtain ⟨xs, q⟩ := G.obj k p k2
    rw [hp] at q; cases q
  have key : ∀ g : List Addr, (∀ a ∈ g, a ∈ f ∨ (a = p ∧ b = true)) → g.Nodup → Gd K Γ σ (upd H p (if b then .lst vs else .tup vs)) (put (low n F) n g) (n + 1) ∧ Nw n H F (upd H p (if b then .lst vs else .tup vs)) (put (low n F) n g) := fun g hg gn => by
    have lo : ∀ k, k < n → put (low n F) n g k = F k := fun k hk => by rw [put_ne (by omega), low_lt hk]
    have hi : ∀ k a, n ≤ k → a ∈ put (low n F) n g k → k = n ∧ a ∈ g := fun k a hk e => by
      by_cases q : k = n
      · subst q
        rw [put_same] at e
        exact ⟨rfl, e⟩
      · rw [put_ne q, low_ge hk] at e; cases e
    have fr : ∀ k a, n ≤ k → a ∈ put (low n F) n g k → (∃ k', n ≤ k' ∧ a ∈ F k') ∨ H a = none := fun k a hk e => by
      rcases hg a (hi k a hk e).2 with z | z
      · exact .inl (f2 a z)
      · rw [z.1]; exact .inr hp
    refine ⟨G.temps hN (Nat.le_succ n) s lo (fun k hk => by rw [put_ne (by omega), low_ge (by omega)]) fr (fun k hk => ?_) (fun i j a h1 h2 e1 e2 => by rw [(hi i a h1 e1).1, (hi j a h2 e2).1]) (fun k a hk e => ?_), ⟨s, lo, fr⟩⟩
    · by_cases q : k = n
      · subst q; rw [put_same]; exact gn
      · rw [put_ne q, low_ge hk]; exact List.nodup_nil
    · rcases hg a (hi k a hk e).2 with z | ⟨z, zb⟩
      · obtain ⟨k', _, k2⟩ := f2 a z
        obtain ⟨xs, q⟩ := G.obj k' a k2
        exact ⟨xs, s _ _ q⟩
      · rw [z, zb]; exact ob_lst upd_same
  have rep : ∀ g : List Addr, (∀ a ∈ f, a ∈ g) → (∀ a ∈ g, a ∈ f ∨ a = p) → OReps K (upd H p (if b then .lst vs else .tup vs)) (cut (upd H p (if b then .lst vs else .tup vs)) (Oth (put (low n F) n g) [])) 8 (ws.map (·.d)) vs f := fun g hfg hg => by
    have q := f3 (fun a => Oth (low n F) [] a ∨ a ∈ f) (fun a z => z.elim oth_low fun z => by
      obtain ⟨k, _, k2⟩ := f2 a z
      exact ⟨k, (fun z => (nomatch z)), k2⟩) (fun k a hk hka na z => by
        rcases z with ⟨j, _, z⟩ | z
        · unfold low at z
          split at z
          · have := G.dj k j a hka z
            omega
          · cases z
        · exact na z) (fun a z => z.elim (fun z => G.othObj (oth_low z)) fun z => by
          obtain ⟨k, _, k2⟩ := f2 a z
          exact G.obj k a k2)
    refine OReps.mono (cut_sub fun a o no e => ⟨s _ _ e, fun ⟨j, _, z⟩ => ?_⟩) (fun a _ o e => s _ _ e) q
    by_cases hj : j = n
    · subst hj
      rw [put_same] at z
      rcases hg a z with z | z
      · exact no (.inr z)
      · rw [z, hp] at e; cases e
    · rw [put_ne hj] at z
      exact no (.inl ⟨j, (fun z => (nomatch z)), z⟩)
  cases b with
  | true =>
    obtain ⟨k1, k2⟩ := key (p :: f) (fun a ha => (List.mem_cons.mp ha).elim (fun z => .inr ⟨z, rfl⟩) .inl) (List.nodup_cons.mpr ⟨hpf, f1⟩)
    refine ⟨_, k1, ⟨fun _ z => (nomatch z), ?_⟩, k2⟩
    rw [put_same]
    exact ⟨p, vs, f, rfl, upd_same, rfl, rep (p :: f) (fun a ha => List.mem_cons_of_mem _ ha) fun a ha => (List.mem_cons.mp ha).elim .inr .inl⟩
  | false =>
    obtain ⟨k1, k2⟩ := key f (fun a ha => .inl ha) f1
    refine ⟨_, k1, ⟨fun _ z => (nomatch z), ?_⟩, k2⟩
    rw [put_same]
    refine ⟨p, vs, rfl, .of (cut_some.mpr ⟨fun z => ?_, upd_same⟩), rep f (fun a ha => ha) fun a ha => .inl ha⟩
    exact (k1.othObj z).no upd_same nc_tup
/-- a new list, dict of values that are owned with all within, in hand from q on -/
theorem fin_ownC (G : Gd K Γ σ H F m) (hN : Γ.length ≤ n) {q : Nat} (hq : n ≤ q) {ws : List W} (dp : ws.all deep = true) (h : Vat K Γ.length H F q ws vs) {p : Addr} (hp : H p = none) {ob : HO} (hc : Cel ob) {d : Own.D}
    (hw : ∀ R f, OReps K (upd H p ob) R 8 (ws.map (·.d)) vs f → ORep K (upd H p ob) R 8 d (.ref p) (p :: f)) :
    ∃ F', Fin K Γ σ H F n ⟨8, [], d⟩ (.ref p) (upd H p ob) F' := by
  obtain ⟨f, f1, f2', f3'⟩ := Vat.own G.obj G.dj G.nd dp h
  have f2 : ∀ a ∈ f, ∃ k, n ≤ k ∧ a ∈ F k := fun a ha => by
    obtain ⟨k, k1, k2⟩ := f2' a ha
    exact ⟨k, by omega, k2⟩
  have s : Same H (upd H p ob) := fun a o e => by rw [upd_ne (ne_of_none e hp)]; exact e
  have hpf : p ∉ f := fun z => by
    obtain ⟨k, _, k2⟩ := f2 p z
    obtain ⟨xs, q⟩ := G.obj k p k2
    rw [hp] at q; cases q
  have hg : ∀ a ∈ p :: f, a ∈ f ∨ a = p := fun a ha => (List.mem_cons.mp ha).elim .inr .inl
  have lo : ∀ k, k < n → put (low n F) n (p :: f) k = F k := fun k hk => by rw [put_ne (by omega), low_lt hk]
  have hi : ∀ k a, n ≤ k → a ∈ put (low n F) n (p :: f) k → k = n ∧ a ∈ p :: f := fun k a hk e => by
    by_cases q : k = n
    · subst q
      rw [put_same] at e
      exact ⟨rfl, e⟩
    · rw [put_ne q, low_ge hk] at e; cases e
  have fr : ∀ k a, n ≤ k → a ∈ put (low n F) n (p :: f) k → (∃ k', n ≤ k' ∧ a ∈ F k') ∨ H a = none := fun k a hk e => by
    rcases hg a (hi k a hk e).2 with z | z
    · exact .inl (f2 a z)
    · rw [z]; exact .inr hp
  refine ⟨_, G.temps hN (Nat.le_succ n) s lo (fun k hk => by rw [put_ne (by omega), low_ge (by omega)]) fr (fun k hk => ?_) (fun i j a h1 h2 e1 e2 => by rw [(hi i a h1 e1).1, (hi j a h2 e2).1]) (fun k a hk e => ?_), ⟨fun _ z => (nomatch z), ?_⟩, ⟨s, lo, fr⟩⟩
  · by_cases q : k = n
    · subst q; rw [put_same]; exact List.nodup_cons.mpr ⟨hpf, f1⟩
    · rw [put_ne q, low_ge hk]; exact List.nodup_nil
  · rcases hg a (hi k a hk e).2 with z | z
    · obtain ⟨k', _, k2⟩ := f2 a z
      obtain ⟨xs, q⟩ := G.obj k' a k2
      exact ⟨xs, s _ _ q⟩
    · rw [z]; exact ⟨⟨ob, hc⟩, upd_same⟩
  · rw [put_same]
    refine hw _ f ?_
    have q := f3' (fun a => Oth (low n F) [] a ∨ a ∈ f) (fun a z => z.elim oth_low fun z => by
      obtain ⟨k, _, k2⟩ := f2 a z
      exact ⟨k, (fun z => (nomatch z)), k2⟩) (fun k a hk hka na z => by
        rcases z with ⟨j, _, z⟩ | z
        · unfold low at z
          split at z
          · have := G.dj k j a hka z
            omega
          · cases z
        · exact na z) (fun a z => z.elim (fun z => G.othObj (oth_low z)) fun z => by
          obtain ⟨k, _, k2⟩ := f2 a z
          exact G.obj k a k2)
    refine OReps.mono (cut_sub fun a o no e => ⟨s _ _ e, fun ⟨j, _, z⟩ => ?_⟩) (fun a _ o e => s _ _ e) q
    by_cases hj : j = n
    · subst hj
      rw [put_same] at z
      rcases hg a z with z | z
      · exact no (.inr z)
      · rw [z, hp] at e; cases e
    · rw [put_ne hj] at z
      exact no (.inl ⟨j, (fun z => (nomatch z)), z⟩)
end
end Own

end
section
set_option maxHeartbeats 1000000
namespace Own
open PySem PySem.Spec L2

section
variable {K : PySem.W.Frag} {ER : ERel} {C : Ctx} {Wx : WX} {N n m k : Nat} {Γ Γ1 Γ2 : Gm} {σ : L2.St} {H H0 H1 H2 R : Hp} {F F' F0 F1 F2 : Fpt} {w : W} {v : V} {vs : List V} {M : Nat → Prop}
mutual
/-- what is owned through and through leans on no other list -/
theorem ORep.deep {P : Addr → Prop} (hP : ∀ a, P a → Ob H a) (s : Sub R H) : ∀ {l : Nat} {d : D} {v : V} {fp : List Addr}, 2 ≤ l → ORep K H R l d v fp → ORep K H (cut H P) l d v fp
  | 0, _, _, _, hl, _ => absurd hl (by omega)
  | _ + 1, .non, _, _, _, h => h
  | _ + 1, .bl _, _, _, _, h => h
  | _ + 1, .int _, _, _, _, h => h
  | _ + 1, .str _, _, _, _, h => h
  | _ + 1, .scr ns, _, _, _, h => by
    have q := Rep.imm_cut hP (d := .scr ns) rfl (Rep.mono s h.2)
    exact ⟨h.1, q⟩
  | _ + 1, .exn cn f p, _, _, _, h => by
    have q := Rep.imm_cut hP (d := .exn cn f p) rfl (Rep.mono (d := .exn cn f p) s h.2)
    exact ⟨h.1, q⟩
  | l + 1, .tup ds, v, fp, hl, h => by
    obtain ⟨a, vs, e, q, r⟩ := h
    have q2 : Rep K (cut H P) (.tup []) (.ref a) ∨ True := .inr trivial
    refine ⟨a, vs, e, ?_, OReps.deep hP s hl r⟩
    rcases s.t q with (q | ⟨o, q⟩) | q
    · exact .inl (.inl (cut_some.mpr ⟨fun p => (hP a p).no q nc_tup, q⟩))
    · exact .inl (.inr ⟨o, cut_some.mpr ⟨fun p => (hP a p).no q nc_frz, q⟩⟩)
    · exact .inr q
  | l + 1, .lst ds, v, fp, hl, h => by
    obtain ⟨a, vs, f, e, q, ef, r⟩ := h
    rw [if_neg (by omega)] at r
    refine ⟨a, vs, f, e, q, ef, ?_⟩
    rw [if_neg (by omega)]
    exact OReps.deep hP s hl r
  | l + 1, .dct _ _ ds, v, fp, hl, h => by
    obtain ⟨a, vs, f, e, q, ef, r⟩ := h
    rw [if_neg (by omega)] at r
    refine ⟨a, vs, f, e, q, ef, ?_⟩
    rw [if_neg (by omega)]
    exact OReps.deep hP s hl r
theorem OReps.deep {P : Addr → Prop} (hP : ∀ a, P a → Ob H a) (s : Sub R H) : ∀ {l : Nat} {ds : List D} {vs : List V} {fp : List Addr}, 2 ≤ l → OReps K H R l ds vs fp → OReps K H (cut H P) l ds vs fp
  | l, [], _, _, _, h => by unfold OReps at h ⊢; exact h
  | l, d :: ds, vs, fp, hl, h => by
    unfold OReps at h ⊢
    obtain ⟨v, r, f, g, e, ef, h1, h2⟩ := h
    exact ⟨v, r, f, g, e, ef, ORep.deep hP s hl h1, OReps.deep hP s hl h2⟩
end
theorem Aat.len : ∀ {ws : List Aw} {n : Nat} {vs : List V}, Aat K N σ H F n ws vs → vs.length = ws.length
  | [], _, _, h => by rw [show _ = [] from h]; rfl
  | .val _ :: ws, n, vs, h => by
    obtain ⟨v, r, e, _, h2⟩ := h
    rw [e, List.length_cons, List.length_cons, Aat.len h2]
  | .tmp _ :: ws, n, vs, h => by
    obtain ⟨v, r, e, _, h2⟩ := h
    rw [e, List.length_cons, List.length_cons, Aat.len h2]
  | .io _ :: ws, n, vs, h => by
    obtain ⟨v, r, e, _, h2⟩ := h
    rw [e, List.length_cons, List.length_cons, Aat.len h2]
theorem adata_len : ∀ {ws : List Aw} {ds : List D}, adata Γ ws = some ds → ds.length = ws.length
  | [], ds, e => by cases e; rfl
  | .val _ :: ws, ds, e => by
    unfold adata at e
    split at e
    · rename_i r er
      cases e
      rw [List.length_cons, List.length_cons, adata_len er]
    · cases e
  | .tmp _ :: ws, ds, e => by
    unfold adata at e
    split at e
    · rename_i r er
      split at e
      · cases e
        rw [List.length_cons, List.length_cons, adata_len er]
      · cases e
    · cases e
  | .io _ :: ws, ds, e => by
    unfold adata at e
    split at e
    · rename_i u r _ er
      split at e
      · cases e
        rw [List.length_cons, List.length_cons, adata_len er]
      · cases e
    · cases e
theorem fitM_len : ∀ {io : List Bool} {ws : List Aw}, fitM io ws = true → ws.length = io.length
  | [], [], _ => rfl
  | false :: io, .val _ :: ws, h => congrArg (· + 1) (fitM_len (io := io) (ws := ws) h)
  | true :: io, .io _ :: ws, h => congrArg (· + 1) (fitM_len (io := io) (ws := ws) h)
  | true :: io, .tmp _ :: ws, h => congrArg (· + 1) (fitM_len (io := io) (ws := ws) h)
  | [], _ :: _, h => by cases h
  | false :: _, [], h => by cases h
  | true :: _, [], h => by cases h
  | false :: _, .io _ :: _, h => by cases h
  | false :: _, .tmp _ :: _, h => by cases h
  | true :: _, .val _ :: _, h => by cases h
/-- an argument as its parameter has it -/
inductive Arg (K : PySem.W.Frag) (N : Nat) (Γ : Gm) (σ : L2.St) (H : Hp) (F : Fpt) (p : Nat) (v : V) : Aw → W → Prop where
  | val {u : W} : At K N H F p u v → Arg K N Γ σ H F p v (.val u) (itm [] u.d)
  | io {i : Nat} {u : W} : rd Γ i = some u → u.l = 8 → u.rs = [] → σ[i]? = some (some v) → Arg K N Γ σ H F p v (.io i) ⟨8, [], u.d⟩
  | tmp {u : W} : u.l = 8 → u.rs = [] → At K N H F p u v → Arg K N Γ σ H F p v (.tmp u) ⟨8, [], u.d⟩
theorem entry_len : ∀ {io : List Bool} {ds : List D}, ds.length = io.length → (entry io ds).length = io.length
  | [], [], _ => rfl
  | b :: io, d :: ds, h => congrArg (· + 1) (entry_len (by simpa using h))
theorem entry_get : ∀ {io : List Bool} {ws : List Aw} {ds : List D} {n : Nat} {vs : List V}, fitM io ws = true → adata Γ ws = some ds → Aat K N σ H F n ws vs →
    ∀ (j : Nat) (w : W), (entry io ds)[j]? = some (some w) → ∃ v a, vs[j]? = some v ∧ ws[j]? = some a ∧ Arg K N Γ σ H F (n + j) v a w
  | [], [], ds, n, vs, _, e, _ => fun j w h => by
    cases e
    simp [entry] at h
  | false :: io, .val u :: ws, ds, n, vs, f, e, h => by
    unfold adata at e
    split at e
    · rename_i r er
      cases e
      obtain ⟨v, us, ev, h1, h2⟩ := h
      intro j w hw
      cases j with
      | zero =>
        have : w = itm [] u.d := by
          have q : some (some (itm [] u.d)) = some (some w) := hw
          cases q; rfl
        rw [this, ev]
        exact ⟨v, _, rfl, rfl, .val h1⟩
      | succ j =>
        obtain ⟨x, a, e1, e2, e3⟩ := entry_get (io := io) f er h2 j w hw
        rw [ev]
        exact ⟨x, a, e1, e2, by rw [show n + (j + 1) = n + 1 + j by omega]; exact e3⟩
    · cases e
  | true :: io, .io i :: ws, ds, n, vs, f, e, h => by
    unfold adata at e
    split at e
    · rename_i u r eu er
      split at e
      · rename_i c
        cases e
        obtain ⟨v, us, ev, h1, h2⟩ := h
        intro j w hw
        cases j with
        | zero =>
          have : w = ⟨8, [], u.d⟩ := by
            have q : some (some (⟨8, [], u.d⟩ : W)) = some (some w) := hw
            cases q; rfl
          rw [this, ev]
          exact ⟨v, _, rfl, rfl, .io eu c.1 c.2 h1.1⟩
        | succ j =>
          obtain ⟨x, a, e1, e2, e3⟩ := entry_get (io := io) f er h2 j w hw
          rw [ev]
          exact ⟨x, a, e1, e2, by rw [show n + (j + 1) = n + 1 + j by omega]; exact e3⟩
      · cases e
    · cases e
  | true :: io, .tmp u :: ws, ds, n, vs, f, e, h => by
    unfold adata at e
    split at e
    · rename_i r er
      split at e
      · rename_i c
        cases e
        obtain ⟨v, us, ev, h1, h2⟩ := h
        intro j w hw
        cases j with
        | zero =>
          have : w = ⟨8, [], u.d⟩ := by
            have q : some (some (⟨8, [], u.d⟩ : W)) = some (some w) := hw
            cases q; rfl
          rw [this, ev]
          exact ⟨v, _, rfl, rfl, .tmp c.1 c.2 h1⟩
        | succ j =>
          obtain ⟨x, a, e1, e2, e3⟩ := entry_get (io := io) f er h2 j w hw
          rw [ev]
          exact ⟨x, a, e1, e2, by rw [show n + (j + 1) = n + 1 + j by omega]; exact e3⟩
      · cases e
    · cases e
  | [], _ :: _, _, _, _, f, _, _ => by cases f
  | false :: _, [], _, _, _, f, _, _ => by cases f
  | true :: _, [], _, _, _, f, _, _ => by cases f
  | false :: _, .io _ :: _, _, _, _, f, _, _ => by cases f
  | false :: _, .tmp _ :: _, _, _, _, f, _, _ => by cases f
  | true :: _, .val _ :: _, _, _, _, f, _, _ => by cases f
theorem mem_ios : ∀ {ws : List Aw} {i : Nat}, i ∈ ios ws ↔ ∃ j : Nat, ws[j]? = some (.io i)
  | [], i => ⟨(fun h => by cases h), (fun ⟨j, h⟩ => by simp at h)⟩
  | .val u :: ws, i => by
    show i ∈ ios ws ↔ _
    rw [mem_ios]
    constructor
    · rintro ⟨j, h⟩; exact ⟨j + 1, h⟩
    · rintro ⟨j, h⟩
      cases j with
      | zero => simp at h
      | succ j => exact ⟨j, by simpa using h⟩
  | .tmp u :: ws, i => by
    show i ∈ ios ws ↔ _
    rw [mem_ios]
    constructor
    · rintro ⟨j, h⟩; exact ⟨j + 1, h⟩
    · rintro ⟨j, h⟩
      cases j with
      | zero => simp at h
      | succ j => exact ⟨j, by simpa using h⟩
  | .io u :: ws, i => by
    show i ∈ u :: ios ws ↔ _
    rw [List.mem_cons, mem_ios]
    constructor
    · rintro (e | ⟨j, h⟩)
      · subst e; exact ⟨0, rfl⟩
      · exact ⟨j + 1, h⟩
    · rintro ⟨j, h⟩
      cases j with
      | zero =>
        have : u = i := by simpa using h
        exact .inl this.symm
      | succ j => exact .inr ⟨j, by simpa using h⟩
theorem noDup_ix : ∀ {ws : List Aw} {i j j' : Nat}, noDup (ios ws) = true → ws[j]? = some (.io i) → ws[j']? = some (.io i) → j = j'
  | [], _, _, _, _, h, _ => by simp at h
  | .val u :: ws, i, j, j', nd, h, h' => by
    cases j with
    | zero => simp at h
    | succ j =>
      cases j' with
      | zero => simp at h'
      | succ j' => exact congrArg (· + 1) (noDup_ix (ws := ws) nd (by simpa using h) (by simpa using h'))
  | .tmp u :: ws, i, j, j', nd, h, h' => by
    cases j with
    | zero => simp at h
    | succ j =>
      cases j' with
      | zero => simp at h'
      | succ j' => exact congrArg (· + 1) (noDup_ix (ws := ws) nd (by simpa using h) (by simpa using h'))
  | .io u :: ws, i, j, j', nd, h, h' => by
    have nd : (!(ios ws).contains u && noDup (ios ws)) = true := nd
    rw [Bool.and_eq_true, Bool.not_eq_true'] at nd
    have no : ∀ q : Nat, ws[q]? ≠ some (.io u) := fun q z => by
      have := mem_ios.mpr ⟨q, z⟩
      simp only [List.contains_eq_mem, decide_eq_false_iff_not] at nd
      exact nd.1 this
    cases j with
    | zero =>
      cases j' with
      | zero => rfl
      | succ j' =>
        have e : u = i := by simpa using h
        subst e
        exact absurd (by simpa using h') (no j')
    | succ j =>
      cases j' with
      | zero =>
        have e : u = i := by simpa using h'
        subst e
        exact absurd (by simpa using h) (no j)
      | succ j' => exact congrArg (· + 1) (noDup_ix (ws := ws) nd.2 (by simpa using h) (by simpa using h'))
theorem outs_len : ∀ {ws : List Aw} {os : List D} {Γ Γ' : Gm}, outs ws os Γ = some Γ' → Γ'.length = Γ.length
  | [], [], Γ, Γ', e => by cases e; rfl
  | .val _ :: ws, os, Γ, Γ', e => outs_len (ws := ws) e
  | .tmp _ :: ws, _ :: os, Γ, Γ', e => outs_len (ws := ws) e
  | .io i :: ws, d :: os, Γ, Γ', e => by
    have := outs_len (ws := ws) e
    rw [this, List.length_set]
  | [], _ :: _, _, _, e => by cases e
  | .tmp _ :: _, [], _, _, e => by cases e
  | .io _ :: _, [], _, _, e => by cases e
theorem outs_keep : ∀ {ws : List Aw} {os : List D} {Γ Γ' : Gm} {k : Nat}, outs ws os Γ = some Γ' → k ∉ ios ws → Γ'[k]? = Γ[k]?
  | [], [], Γ, Γ', k, e, _ => by cases e; rfl
  | .val _ :: ws, os, Γ, Γ', k, e, h => outs_keep (ws := ws) e h
  | .tmp _ :: ws, _ :: os, Γ, Γ', k, e, h => outs_keep (ws := ws) e h
  | .io i :: ws, d :: os, Γ, Γ', k, e, h => by
    have h : k ∉ i :: ios ws := h
    rw [List.mem_cons, not_or] at h
    rw [outs_keep (ws := ws) e h.2, List.getElem?_set_ne (Ne.symm h.1)]
  | [], _ :: _, _, _, _, e, _ => by cases e
  | .tmp _ :: _, [], _, _, _, e, _ => by cases e
  | .io _ :: _, [], _, _, _, e, _ => by cases e
/-- what comes out of an argument that may change -/
theorem outs_get : ∀ {io : List Bool} {ws : List Aw} {os ds : List D} {Γ Γ' : Gm} {k j : Nat}, fitM io ws = true → noDup (ios ws) = true → outs ws os Γ = some Γ' → exits io (entry io ds) = some os → ds.length = io.length →
    ws[j]? = some (.io k) → k < Γ.length → ∃ d, (entry io ds)[j]? = some (some ⟨8, [], d⟩) ∧ Γ'[k]? = some (some ⟨8, [], d⟩)
  | false :: io, .val _ :: ws, os, d :: ds, Γ, Γ', k, j, f, nd, e, x, l, h, hk => by
    cases j with
    | zero => simp at h
    | succ j => exact outs_get (io := io) (ws := ws) f nd e x (by simpa using l) (by simpa using h) hk
  | true :: io, .tmp _ :: ws, os, d :: ds, Γ, Γ', k, j, f, nd, e, x, l, h, hk => by
    have x : (match exits io (entry io ds) with
      | some ds => if (8 : Nat) = 8 ∧ ([] : List Nat) = [] then some (d :: ds) else none
      | none => none) = some os := x
    split at x
    · rename_i r er
      cases x
      cases j with
      | zero => simp at h
      | succ j => exact outs_get (io := io) (ws := ws) f nd e er (by simpa using l) (by simpa using h) hk
    · cases x
  | true :: io, .io i :: ws, os, d :: ds, Γ, Γ', k, j, f, nd, e, x, l, h, hk => by
    have nd : (!(ios ws).contains i && noDup (ios ws)) = true := nd
    rw [Bool.and_eq_true, Bool.not_eq_true'] at nd
    have x : (match exits io (entry io ds) with
      | some ds => if (8 : Nat) = 8 ∧ ([] : List Nat) = [] then some (d :: ds) else none
      | none => none) = some os := x
    split at x
    · rename_i r er
      cases x
      cases j with
      | zero =>
        have ei : i = k := by simpa using h
        subst ei
        refine ⟨d, rfl, ?_⟩
        rw [outs_keep (ws := ws) e (by
          have q := nd.1
          simp only [List.contains_eq_mem, decide_eq_false_iff_not] at q
          exact q), List.getElem?_set_self hk]
      | succ j => exact outs_get (io := io) (ws := ws) f nd.2 e er (by simpa using l) (by simpa using h) (by rw [List.length_set]; exact hk)
    · cases x
  | [], [], _, _, _, _, _, _, _, _, _, _, _, h, _ => by simp at h
  | [], _ :: _, _, _, _, _, _, _, f, _, _, _, _, _, _ => by cases f
  | false :: _, [], _, _, _, _, _, _, f, _, _, _, _, _, _ => by cases f
  | true :: _, [], _, _, _, _, _, _, f, _, _, _, _, _, _ => by cases f
  | false :: _, .io _ :: _, _, _, _, _, _, _, f, _, _, _, _, _, _ => by cases f
  | false :: _, .tmp _ :: _, _, _, _, _, _, _, f, _, _, _, _, _, _ => by cases f
  | true :: _, .val _ :: _, _, _, _, _, _, _, f, _, _, _, _, _, _ => by cases f
  | false :: _, .val _ :: _, _, [], _, _, _, _, _, _, _, _, l, _, _ => by simp at l
  | true :: _, .tmp _ :: _, _, [], _, _, _, _, _, _, _, _, l, _, _ => by simp at l
  | true :: _, .io _ :: _, _, [], _, _, _, _, _, _, _, _, l, _, _ => by simp at l
theorem kill_len {js : List Nat} : (kill js Γ).length = Γ.length := List.length_map ..
theorem kill_get {js : List Nat} {i : Nat} (h : (kill js Γ)[i]? = some (some w)) : Γ[i]? = some (some w) ∧ ∀ r ∈ w.rs, r ∉ js := by
  unfold kill at h
  rw [List.getElem?_map] at h
  cases e : Γ[i]? with
  | none => rw [e] at h; cases h
  | some s =>
    rw [e] at h
    cases s with
    | none => cases h
    | some u =>
      have h : some (kill1 js (some u)) = some (some w) := h
      unfold kill1 at h
      split at h
      · rename_i eu
        cases eu
        split at h
        · cases h
        · rename_i ne
          cases h
          refine ⟨rfl, fun r hr hj => ne (List.any_eq_true.mpr ⟨r, hr, by simpa using hj⟩)⟩
      · rename_i ee; cases ee
theorem evs_ios : ∀ {es : Es} {Γ Γ' : Gm} {ws : List Aw}, evs C es Γ = .ok (ws, Γ') → ∀ i ∈ ios ws, i ∈ mutEs es
  | .nil, Γ, Γ', ws, e => by rw [evs] at e; cases e; intro i hi; cases hi
  | .cons x es, Γ, Γ', ws, e => by
    rw [evs] at e
    cases h1 : ev C x Γ with
    | stuck => rw [h1] at e; cases e
    | exc c as g => rw [h1] at e; cases e
    | ok p =>
      obtain ⟨w, Γ1⟩ := p
      rw [h1, bind_ok] at e
      cases h2 : evs C es Γ1 with
      | stuck => simp only [h2] at e; cases e
      | exc c as g => simp only [h2] at e; cases e
      | ok q =>
        obtain ⟨us, Γ2⟩ := q
        simp only [h2, bind_ok] at e
        split at e
        · cases e
          intro i hi
          exact List.mem_append_right _ (evs_ios h2 i hi)
        · cases e
  | .tmp x es, Γ, Γ', ws, e => by
    rw [evs] at e
    cases h1 : ev C x Γ with
    | stuck => rw [h1] at e; cases e
    | exc c as g => rw [h1] at e; cases e
    | ok p =>
      obtain ⟨w, Γ1⟩ := p
      rw [h1, bind_ok] at e
      cases h2 : evs C es Γ1 with
      | stuck => simp only [h2] at e; cases e
      | exc c as g => simp only [h2] at e; cases e
      | ok q =>
        obtain ⟨us, Γ2⟩ := q
        simp only [h2, bind_ok] at e
        split at e
        · cases e
          intro i hi
          exact List.mem_append_right _ (evs_ios h2 i hi)
        · cases e
  | .io x es, Γ, Γ', ws, e => by
    rw [evs] at e
    split at e
    · cases h2 : evs C es Γ with
      | stuck => rw [h2] at e; cases e
      | exc c as g => rw [h2] at e; cases e
      | ok q =>
        obtain ⟨us, Γ2⟩ := q
        rw [h2, bind_ok] at e
        cases e
        intro i hi
        have hi : i ∈ x :: ios us := hi
        rcases List.mem_cons.mp hi with z | z
        · rw [z]; exact List.mem_cons_self
        · exact List.mem_cons_of_mem _ (evs_ios h2 i z)
    · cases e
end
end Own

end
section
set_option maxHeartbeats 1000000
namespace Own
open PySem PySem.Spec L2

def place (n : Nat) : Option Aw → Nat → Option Nat
  | some (.io i), _ => some i
  | some (.tmp _), j => some (n + j)
  | _, _ => none
/-- what the callee's parameters own -/
def fc (n : Nat) (ws : List Aw) (F : Fpt) : Fpt := fun j => match place n ws[j]? j with
  | some p => F p
  | none => []
noncomputable def fb (N n L : Nat) (ws : List Aw) (F F' : Fpt) : Fpt := fun k => by
  classical exact
    if h : ∃ j, ws[j]? = some (Aw.io k) then F' h.choose else if k < n then F k else if k = n then F' L else []
section
variable {K : PySem.W.Frag} {ER : ERel} {C : Ctx} {Wx : WX} {N n m k : Nat} {Γ Γ1 Γ2 Γ' : Gm} {σ : L2.St} {H H' H0 H1 H2 R : Hp} {F F' F0 F1 F2 : Fpt} {w : W} {v : V} {vs : List V} {ws : List Aw} {M : Nat → Prop}
theorem Aat.get : ∀ {ws : List Aw} {n : Nat} {vs : List V} {j i : Nat}, Aat K N σ H F n ws vs → ws[j]? = some (.io i) → ∃ v, vs[j]? = some v ∧ σ[i]? = some (some v)
  | [], _, _, _, _, _, h => by simp at h
  | .val _ :: ws, n, vs, j, i, a, h => by
    obtain ⟨v, r, e, _, a2⟩ := a
    cases j with
    | zero => simp at h
    | succ j =>
      obtain ⟨x, e1, e2⟩ := Aat.get (j := j) a2 (by simpa using h)
      exact ⟨x, by rw [e]; exact e1, e2⟩
  | .tmp _ :: ws, n, vs, j, i, a, h => by
    obtain ⟨v, r, e, _, a2⟩ := a
    cases j with
    | zero => simp at h
    | succ j =>
      obtain ⟨x, e1, e2⟩ := Aat.get (j := j) a2 (by simpa using h)
      exact ⟨x, by rw [e]; exact e1, e2⟩
  | .io u :: ws, n, vs, j, i, a, h => by
    obtain ⟨v, r, e, b, a2⟩ := a
    cases j with
    | zero =>
      have : u = i := by simpa using h
      subst this
      exact ⟨v, by rw [e]; rfl, b.1⟩
    | succ j =>
      obtain ⟨x, e1, e2⟩ := Aat.get (j := j) a2 (by simpa using h)
      exact ⟨x, by rw [e]; exact e1, e2⟩
theorem fc_mem {j : Nat} {a : Addr} (h : a ∈ fc n ws F j) : ∃ p, a ∈ F p ∧ ((∃ i, ws[j]? = some (.io i) ∧ p = i) ∨ (∃ u, ws[j]? = some (.tmp u) ∧ p = n + j)) := by
  unfold fc at h
  cases e : ws[j]? with
  | none => rw [e] at h; cases h
  | some x =>
    rw [e] at h
    cases x with
    | val u => cases h
    | io i => exact ⟨i, h, .inl ⟨i, rfl, rfl⟩⟩
    | tmp u => exact ⟨n + j, h, .inr ⟨u, rfl, rfl⟩⟩
theorem arss_mem : ∀ {ws : List Aw} {j : Nat} {u : W} {r : Nat}, ws[j]? = some (.val u) → imm u.d = false → r ∈ u.rs → r ∈ arss ws
  | [], _, _, _, h, _, _ => by simp at h
  | .val w :: ws, j, u, r, h, i, hr => by
    cases j with
    | zero =>
      have : w = u := by simpa using h
      subst this
      show r ∈ (if imm w.d then [] else w.rs) ++ arss ws
      rw [i]
      exact List.mem_append_left _ hr
    | succ j => exact List.mem_append_right _ (arss_mem (j := j) (by simpa using h) i hr)
  | .tmp w :: ws, j, u, r, h, i, hr => by
    cases j with
    | zero => simp at h
    | succ j => exact arss_mem (ws := ws) (j := j) (by simpa using h) i hr
  | .io w :: ws, j, u, r, h, i, hr => by
    cases j with
    | zero => simp at h
    | succ j => exact arss_mem (ws := ws) (j := j) (by simpa using h) i hr
theorem disj_no {is js : List Nat} (h : disj is js = true) {i : Nat} (hi : i ∈ is) : i ∉ js := by
  unfold disj at h
  have := List.all_eq_true.mp h i hi
  simpa [List.contains_eq_mem] using this
/-- the callee's ground -/
theorem Gd.call (G : Gd K Γ σ H F (n + ws.length)) (A : Aat K Γ.length σ H F n ws vs) (hN : Γ.length ≤ n) {io : List Bool} {ds : List D} (hf : fitM io ws = true) (nd : noDup (ios ws) = true) (dj : disj (ios ws) (arss ws) = true) (ha : adata Γ ws = some ds) :
    ds.length = io.length ∧ Gd K (entry io ds) (vs.map some) H (fc n ws F) ds.length := by
  have l1 := fitM_len hf
  have l2 := adata_len ha
  have l3 := A.len
  have l4 : ds.length = io.length := l2.trans l1
  have ioN : ∀ (j i : Nat), ws[j]? = some (.io i) → i < Γ.length := fun j i h => by
    obtain ⟨v, _, e⟩ := A.get h
    have := (List.getElem?_eq_some_iff.mp e).1
    rw [G.len] at this
    exact this
  have hob : ∀ a, Oth (fc n ws F) [] a → Ob H a := fun a ⟨j, _, z⟩ => by
    obtain ⟨p, z, _⟩ := fc_mem z
    exact G.obj p a z
  refine ⟨l4, by rw [List.length_map, l3, entry_len l4, l1], by rw [entry_len l4, l4]; exact Nat.le_refl _, fun k hk => ?_, fun i => ?_, fun i j a e1 e2 => ?_, fun i a e => ?_, fun j w hw => ?_⟩
  · unfold fc
    rw [List.getElem?_eq_none (by omega)]
    rfl
  · unfold fc
    split
    · exact G.nd _
    · exact List.nodup_nil
  · obtain ⟨p, z1, c1⟩ := fc_mem e1
    obtain ⟨q, z2, c2⟩ := fc_mem e2
    have pq := G.dj p q a z1 z2
    subst pq
    rcases c1 with ⟨x, f1, g1⟩ | ⟨x, f1, g1⟩
    · rcases c2 with ⟨y, f2, g2⟩ | ⟨y, f2, g2⟩
      · subst g1; subst g2; exact noDup_ix nd f1 f2
      · have := ioN i x f1
        omega
    · rcases c2 with ⟨y, f2, g2⟩ | ⟨y, f2, g2⟩
      · have := ioN j y f2
        omega
      · omega
  · obtain ⟨p, z, _⟩ := fc_mem e
    exact G.obj p a z
  · obtain ⟨v, x, ev, ex, ar⟩ := entry_get hf ha A j w hw
    refine ⟨v, by rw [List.getElem?_map, ev]; rfl, ?_⟩
    cases ar with
    | val au =>
      rename_i u
      have e0 : fc n ws F j = [] := by unfold fc; rw [ex]; rfl
      have rp : Rep K (cut H (Oth (fc n ws F) [])) u.d v := by
        by_cases im : imm u.d = true
        · exact Rep.imm_cut hob im au.read
        · have im : imm u.d = false := by simpa using im
          have q1 : ∀ a o, ¬ Oth F u.rs a → H a = some o → ¬ Oth (fc n ws F) [] a := fun a o no e ⟨j', _, z⟩ => by
            obtain ⟨p, z, c⟩ := fc_mem z
            refine no ⟨p, fun hp => ?_, z⟩
            rcases c with ⟨y, f2, g2⟩ | ⟨y, f2, g2⟩
            · subst g2
              exact disj_no dj (mem_ios.mpr ⟨j', f2⟩) (arss_mem ex im hp)
            · have := au.rs p hp
              omega
          have q2 : ∀ a, a ∈ F (n + j) → ¬ Oth (fc n ws F) [] a := fun a hh ⟨j', _, z⟩ => by
            obtain ⟨p, z, c⟩ := fc_mem z
            have pq := G.dj _ _ a hh z
            rcases c with ⟨y, f2, g2⟩ | ⟨y, f2, g2⟩
            · have := ioN j' y f2
              omega
            · have : j' = j := by omega
              subst this
              rw [ex] at f2; cases f2
          exact ORep.rep (cut_sub fun a o no e => ⟨e, q1 a o no e⟩) (fun a hh o e => cut_some.mpr ⟨q2 a hh, e⟩) au.rep
      unfold itm
      split
      · exact ⟨fun _ z => (nomatch z), by rw [e0]; exact orep0 rp⟩
      · exact ⟨fun _ z => (nomatch z), by rw [e0]; exact orep0 rp⟩
    | io er el es ev' =>
      rename_i i u
      have e0 : fc n ws F j = F i := by unfold fc; rw [ex]; rfl
      obtain ⟨v', e1, a1⟩ := G.rdv er
      rw [ev'] at e1
      cases e1
      refine ⟨fun _ z => (nomatch z), ?_⟩
      have rp := a1.rep
      rw [el] at rp
      rw [e0]
      exact ORep.mono (fun a o e => e) (fun _ _ _ e => e) (ORep.deep hob cut_le (by omega : 2 ≤ 8) rp)
    | tmp el es au =>
      rename_i u
      have e0 : fc n ws F j = F (n + j) := by unfold fc; rw [ex]; rfl
      refine ⟨fun _ z => (nomatch z), ?_⟩
      have rp := au.rep
      rw [el] at rp
      rw [e0]
      exact ORep.deep hob cut_le (by omega : 2 ≤ 8) rp
/-- what the caller holds besides -/
def hld (n : Nat) (ws : List Aw) (F : Fpt) : List Addr := ((List.range n).filter fun k => !(ios ws).contains k && !(arss ws).contains k).flatMap F
theorem hld_mem {a : Addr} : a ∈ hld n ws F ↔ ∃ k, k < n ∧ k ∉ ios ws ∧ k ∉ arss ws ∧ a ∈ F k := by
  unfold hld
  rw [List.mem_flatMap]
  constructor
  · rintro ⟨k, h1, h2⟩
    rw [List.mem_filter, List.mem_range, Bool.and_eq_true] at h1
    obtain ⟨h3, h4, h5⟩ := h1
    exact ⟨k, h3, by simpa using h4, by simpa using h5, h2⟩
  · rintro ⟨k, h1, h2, h3, h4⟩
    exact ⟨k, by rw [List.mem_filter, List.mem_range, Bool.and_eq_true]; exact ⟨h1, by simpa using h2, by simpa using h3⟩, h4⟩
theorem flat_nodup {F : Fpt} (nd : ∀ i, (F i).Nodup) (dj : ∀ i j a, a ∈ F i → a ∈ F j → i = j) : ∀ {ks : List Nat}, ks.Nodup → (ks.flatMap F).Nodup
  | [], _ => List.nodup_nil
  | k :: ks, h => by
    obtain ⟨h1, h2⟩ := List.nodup_cons.mp h
    rw [List.flatMap_cons]
    refine List.nodup_append.mpr ⟨nd k, flat_nodup nd dj h2, fun a ha b hb e => ?_⟩
    subst e
    obtain ⟨j, hj, z⟩ := List.mem_flatMap.mp hb
    exact h1 (by rw [dj k j a ha z]; exact hj)
theorem hld_nodup (nd : ∀ i, (F i).Nodup) (dj : ∀ i j a, a ∈ F i → a ∈ F j → i = j) : (hld n ws F).Nodup := flat_nodup nd dj (List.nodup_range.filter _)
/-- .. with what the caller holds besides, behind the parameters -/
def fx1 (n : Nat) (ws : List Aw) (F : Fpt) : Fpt := put (fc n ws F) ws.length (hld n ws F)
theorem fx1_lo {j : Nat} (h : j ≠ ws.length) : fx1 n ws F j = fc n ws F j := put_ne h
theorem fx1_at : fx1 n ws F ws.length = hld n ws F := put_same
theorem fx1_mem {j : Nat} {a : Addr} (h : a ∈ fx1 n ws F j) : ∃ p, a ∈ F p ∧ ((∃ i, ws[j]? = some (.io i) ∧ p = i) ∨ (∃ u, ws[j]? = some (.tmp u) ∧ p = n + j) ∨ (j = ws.length ∧ p < n ∧ p ∉ ios ws ∧ p ∉ arss ws)) := by
  by_cases e : j = ws.length
  · subst e
    rw [fx1_at] at h
    obtain ⟨k, h1, h2, h3, h4⟩ := hld_mem.mp h
    exact ⟨k, h4, .inr (.inr ⟨rfl, h1, h2, h3⟩)⟩
  · rw [fx1_lo e] at h
    obtain ⟨p, h1, c⟩ := fc_mem h
    exact ⟨p, h1, c.imp id .inl⟩
theorem Gd.call1 (G : Gd K Γ σ H F (n + ws.length)) (A : Aat K Γ.length σ H F n ws vs) (hN : Γ.length ≤ n) {io : List Bool} {ds : List D} (hf : fitM io ws = true) (nd : noDup (ios ws) = true) (dj : disj (ios ws) (arss ws) = true) (ha : adata Γ ws = some ds) :
    ds.length = io.length ∧ Gd K (entry io ds) (vs.map some) H (fx1 n ws F) (ds.length + 1) := by
  obtain ⟨l4, G0⟩ := G.call A hN hf nd dj ha
  have l2 := adata_len ha
  have ioN : ∀ (j i : Nat), ws[j]? = some (.io i) → i < Γ.length := fun j i h => by
    obtain ⟨v, _, e⟩ := A.get h
    have := (List.getElem?_eq_some_iff.mp e).1
    rw [G.len] at this
    exact this
  have hob : ∀ a, Oth (fx1 n ws F) [] a → Ob H a := fun a ⟨j, _, z⟩ => by
    obtain ⟨p, z, _⟩ := fx1_mem z
    exact G.obj p a z
  refine ⟨l4, G0.len, by have := G0.top; omega, fun k hk => ?_, fun i => ?_, fun i j a e1 e2 => ?_, fun i a e => ?_, fun j w hw => ?_⟩
  · rw [fx1_lo (by omega)]
    exact G0.off k (by omega)
  · by_cases e : i = ws.length
    · subst e; rw [fx1_at]; exact hld_nodup G.nd G.dj
    · rw [fx1_lo e]; exact G0.nd i
  · by_cases z1 : i = ws.length
    · by_cases z2 : j = ws.length
      · omega
      · rw [fx1_lo z2] at e2
        subst z1
        rw [fx1_at] at e1
        obtain ⟨k, h1, h2, h3, h4⟩ := hld_mem.mp e1
        obtain ⟨p, q, c⟩ := fc_mem e2
        have := G.dj k p a h4 q
        subst this
        rcases c with ⟨y, f2, g2⟩ | ⟨y, f2, g2⟩
        · subst g2; exact absurd (mem_ios.mpr ⟨j, f2⟩) h2
        · omega
    · rw [fx1_lo z1] at e1
      by_cases z2 : j = ws.length
      · subst z2
        rw [fx1_at] at e2
        obtain ⟨k, h1, h2, h3, h4⟩ := hld_mem.mp e2
        obtain ⟨p, q, c⟩ := fc_mem e1
        have := G.dj k p a h4 q
        subst this
        rcases c with ⟨y, f2, g2⟩ | ⟨y, f2, g2⟩
        · subst g2; exact absurd (mem_ios.mpr ⟨i, f2⟩) h2
        · omega
      · rw [fx1_lo z2] at e2
        exact G0.dj i j a e1 e2
  · obtain ⟨p, z, _⟩ := fx1_mem e
    exact G.obj p a z
  · have hj : j < ws.length := by
      have := (List.getElem?_eq_some_iff.mp hw).1
      rw [entry_len l4, ← l4, l2] at this
      exact this
    obtain ⟨v, x, ev, ex, ar⟩ := entry_get hf ha A j w hw
    refine ⟨v, by rw [List.getElem?_map, ev]; rfl, ?_⟩
    obtain ⟨v0, ev0, a0⟩ := G0.rep j w hw
    rw [List.getElem?_map, ev] at ev0
    cases ev0
    refine ⟨a0.rs, ?_⟩
    rw [fx1_lo (by omega)]
    cases ar with
    | val au =>
      rename_i u
      have e0 : fc n ws F j = [] := by unfold fc; rw [ex]; rfl
      have rp : Rep K (cut H (Oth (fx1 n ws F) [])) u.d v := by
        by_cases im : imm u.d = true
        · exact Rep.imm_cut hob im au.read
        · have im : imm u.d = false := by simpa using im
          have q1 : ∀ a o, ¬ Oth F u.rs a → H a = some o → ¬ Oth (fx1 n ws F) [] a := fun a o no e ⟨j', _, z⟩ => by
            obtain ⟨p, z, c⟩ := fx1_mem z
            refine no ⟨p, fun hp => ?_, z⟩
            rcases c with ⟨y, f2, g2⟩ | ⟨y, f2, g2⟩ | ⟨_, _, _, g⟩
            · subst g2
              exact disj_no dj (mem_ios.mpr ⟨j', f2⟩) (arss_mem ex im hp)
            · have := au.rs p hp
              omega
            · exact g (arss_mem ex im hp)
          have q2 : ∀ a, a ∈ F (n + j) → ¬ Oth (fx1 n ws F) [] a := fun a hh ⟨j', _, z⟩ => by
            obtain ⟨p, z, c⟩ := fx1_mem z
            have pq := G.dj _ _ a hh z
            rcases c with ⟨y, f2, g2⟩ | ⟨y, f2, g2⟩ | ⟨_, g, _⟩
            · have := ioN j' y f2
              omega
            · have : j' = j := by omega
              subst this
              rw [ex] at f2; cases f2
            · omega
          exact ORep.rep (cut_sub fun a o no e => ⟨e, q1 a o no e⟩) (fun a hh o e => cut_some.mpr ⟨q2 a hh, e⟩) au.rep
      have hz : (itm [] u.d).l = 0 ∧ (itm [] u.d).rs = [] ∧ (itm [] u.d).d = u.d := by unfold itm; split <;> exact ⟨rfl, rfl, rfl⟩
      rw [hz.1, hz.2.1, hz.2.2, e0]
      exact orep0 rp
    | io er el es ev' =>
      have rp := a0.rep
      exact ORep.deep hob cut_le (by omega : 2 ≤ 8) rp
    | tmp el es au =>
      have rp := a0.rep
      exact ORep.deep hob cut_le (by omega : 2 ≤ 8) rp
/-- .. taken out again -/
def dn (L : Nat) (F : Fpt) : Fpt := fun k => if k < L then F k else if k = L then F (L + 1) else []
theorem dn_cs {L : Nat} {a : Addr} (h : a ∈ dn L F k) : (k < L ∧ a ∈ F k) ∨ (k = L ∧ a ∈ F (L + 1)) := by
  unfold dn at h
  split at h
  · exact .inl ⟨by assumption, h⟩
  · split at h
    · exact .inr ⟨by assumption, h⟩
    · cases h
theorem dn_lo {L : Nat} (h : k < L) : dn L F k = F k := if_pos h
theorem dn_at {L : Nat} : dn L F L = F (L + 1) := by unfold dn; rw [if_neg (by omega), if_pos rfl]
theorem dn_nd {L : Nat} (h : ∀ i, (F i).Nodup) (i : Nat) : (dn L F i).Nodup := by
  unfold dn
  split
  · exact h _
  · split
    · exact h _
    · exact List.nodup_nil
theorem dn_dj {L : Nat} (h : ∀ i j a, a ∈ F i → a ∈ F j → i = j) (i j : Nat) (a : Addr) (e1 : a ∈ dn L F i) (e2 : a ∈ dn L F j) : i = j := by
  rcases dn_cs e1 with ⟨x1, x2⟩ | ⟨x1, x2⟩
  · rcases dn_cs e2 with ⟨y1, y2⟩ | ⟨y1, y2⟩
    · exact h i j a x2 y2
    · have := h i _ a x2 y2; omega
  · rcases dn_cs e2 with ⟨y1, y2⟩ | ⟨y1, y2⟩
    · have := h _ j a x2 y2; omega
    · omega
theorem Dl.dn (D' : Dl ws.length (fun _ => True) H (fx1 n ws F) (ws.length + 1) H' F') : Dl ws.length (fun _ => True) H (fc n ws F) ws.length H' (dn ws.length F') where
  keep := fun a o e q => D'.keep a o e fun m hm _ z => q m hm trivial (by rw [fx1_lo (by omega)] at z; exact z)
  frm := fun k h1 h2 => by omega
  old := fun k a _ nk => absurd trivial nk
  new := fun k a _ e => by
    have fin : ((∃ m, m < ws.length ∧ True ∧ a ∈ fx1 n ws F m) ∨ H a = none) → (∃ m, m < ws.length ∧ True ∧ a ∈ fc n ws F m) ∨ H a = none := fun z => z.imp (fun ⟨m, h1, h2, h3⟩ => ⟨m, h1, h2, by rw [fx1_lo (by omega)] at h3; exact h3⟩) id
    rcases dn_cs e with ⟨x1, x2⟩ | ⟨x1, x2⟩
    · exact fin (D'.new k a (.inl ⟨x1, trivial⟩) x2)
    · exact fin (D'.new _ a (.inr (Nat.le_refl _)) x2)
theorem arss_lt : ∀ {ws : List Aw} {n : Nat} {vs : List V} {r : Nat}, Aat K N σ H F n ws vs → r ∈ arss ws → r < N
  | [], _, _, _, _, h => nomatch h
  | .val w :: ws, n, vs, r, a, h => by
    obtain ⟨v, r', e, a1, a2⟩ := a
    have h : r ∈ (if imm w.d then [] else w.rs) ++ arss ws := h
    rcases List.mem_append.mp h with z | z
    · split at z
      · cases z
      · exact a1.rs r z
    · exact arss_lt a2 z
  | .tmp w :: ws, n, vs, r, a, h => by
    obtain ⟨v, r', e, _, a2⟩ := a
    exact arss_lt (ws := ws) a2 h
  | .io i :: ws, n, vs, r, a, h => by
    obtain ⟨v, r', e, _, a2⟩ := a
    exact arss_lt (ws := ws) a2 h
theorem fb_io {L j : Nat} (nd : noDup (ios ws) = true) (h : ws[j]? = some (.io k)) : fb N n L ws F F' k = F' j := by
  have hh : ∃ j, ws[j]? = some (Aw.io k) := ⟨j, h⟩
  unfold fb
  rw [dif_pos hh, noDup_ix nd hh.choose_spec h]
theorem fb_lo {L : Nat} (h : k ∉ ios ws) (hk : k < n) : fb N n L ws F F' k = F k := by
  unfold fb
  rw [dif_neg (fun z => h (mem_ios.mpr z)), if_pos hk]
theorem fb_n {L : Nat} (h : n ∉ ios ws) : fb N n L ws F F' n = F' L := by
  unfold fb
  rw [dif_neg (fun z => h (mem_ios.mpr z)), if_neg (by omega), if_pos rfl]
theorem fb_hi {L : Nat} (h : k ∉ ios ws) (hk : n < k) : fb N n L ws F F' k = [] := by
  unfold fb
  rw [dif_neg (fun z => h (mem_ios.mpr z)), if_neg (by omega), if_neg (by omega)]
/-- back in the caller -/
theorem Gd.back (G : Gd K Γ σ H F (n + ws.length)) (A : Aat K Γ.length σ H F n ws vs) (hN : Γ.length ≤ n) (nd : noDup (ios ws) = true)
    (Dc : Dl ws.length (fun _ => True) H (fc n ws F) ws.length H' F') (nd' : ∀ i, (F' i).Nodup) (dj' : ∀ i j a, a ∈ F' i → a ∈ F' j → i = j) (ob' : ∀ i a, a ∈ F' i → Ob H' a)
    (hl : Γ'.length = Γ.length) (hΓ : ∀ i w, Γ'[i]? = some (some w) → (∃ j v, ws[j]? = some (.io i) ∧ w.l = 8 ∧ w.rs = [] ∧ vs[j]? = some v ∧ ORep K H' H' 8 w.d v (F' j)) ∨ (i ∉ ios ws ∧ Γ[i]? = some (some w) ∧ ∀ r ∈ w.rs, r ∉ ios ws))
    (D1 : Dl Γ.length M H0 F0 n H F) (hM : ∀ i ∈ ios ws, M i) :
    Gd K Γ' σ H' (fb Γ.length n ws.length ws F F') (n + 1) ∧ fb Γ.length n ws.length ws F F' n = F' ws.length ∧ Dl Γ.length M H0 F0 n H' (fb Γ.length n ws.length ws F F') := by
  have ioN : ∀ (j i : Nat), ws[j]? = some (.io i) → i < Γ.length := fun j i h => by
    obtain ⟨v, _, e⟩ := A.get h
    have := (List.getElem?_eq_some_iff.mp e).1
    rw [G.len] at this
    exact this
  have iosN : ∀ i ∈ ios ws, i < Γ.length := fun i h => by
    obtain ⟨j, h⟩ := mem_ios.mp h
    exact ioN j i h
  have nn : ∀ k, n ≤ k → k ∉ ios ws := fun k hk z => by have := iosN k z; omega
  -- what F' owns comes from an argument that may change, or is new
  have src : ∀ p a, a ∈ F' p → (∃ q, a ∈ F q ∧ (q ∈ ios ws ∨ n ≤ q)) ∨ H a = none := fun p a e => by
    rcases Dc.new p a (by rcases Nat.lt_or_ge p ws.length with z | z; exact .inl ⟨z, trivial⟩; exact .inr z) e with ⟨m, m1, _, m3⟩ | z
    · obtain ⟨q, q1, c⟩ := fc_mem m3
      refine .inl ⟨q, q1, ?_⟩
      rcases c with ⟨y, f2, g2⟩ | ⟨y, f2, g2⟩
      · subst g2; exact .inl (mem_ios.mpr ⟨m, f2⟩)
      · exact .inr (by omega)
    · exact .inr z
  -- the cases of the new footprint
  have cs : ∀ k a, a ∈ fb Γ.length n ws.length ws F F' k → (k ∉ ios ws ∧ k < n ∧ a ∈ F k) ∨ (∃ p, a ∈ F' p ∧ ((ws[p]? = some (.io k)) ∨ (p = ws.length ∧ k = n))) := fun k a e => by
    by_cases h : k ∈ ios ws
    · obtain ⟨j, hj⟩ := mem_ios.mp h
      rw [fb_io nd hj] at e
      exact .inr ⟨j, e, .inl hj⟩
    · by_cases h1 : k < n
      · rw [fb_lo h h1] at e
        exact .inl ⟨h, h1, e⟩
      · by_cases h2 : k = n
        · subst h2
          rw [fb_n h] at e
          exact .inr ⟨_, e, .inr ⟨rfl, rfl⟩⟩
        · rw [fb_hi h (by omega)] at e; cases e
  have kept : ∀ k a o, a ∈ F k → k ∉ ios ws → k < n → H a = some o → H' a = some o := fun k a o e h h1 ho => Dc.keep a o ho fun m hm _ z => by
    obtain ⟨q, q1, c⟩ := fc_mem z
    have := G.dj k q a e q1
    subst this
    rcases c with ⟨y, f2, g2⟩ | ⟨y, f2, g2⟩
    · subst g2; exact h (mem_ios.mpr ⟨m, f2⟩)
    · omega
  have apart : ∀ k p a, a ∈ F k → k ∉ ios ws → k < n → a ∈ F' p → False := fun k p a e h h1 e' => by
    rcases src p a e' with ⟨q, q1, c⟩ | z
    · have := G.dj k q a e q1
      subst this
      rcases c with c | c
      · exact h c
      · omega
    · obtain ⟨xs, y⟩ := G.obj k a e
      rw [z] at y; cases y
  have obj2 : ∀ k a, a ∈ fb Γ.length n ws.length ws F F' k → Ob H' a := fun k a e => by
    rcases cs k a e with ⟨h, h1, e⟩ | ⟨p, e, _⟩
    · obtain ⟨xs, y⟩ := G.obj k a e
      exact ⟨xs, kept k a _ e h h1 y⟩
    · exact ob' p a e
  refine ⟨⟨by rw [hl]; exact G.len, by omega, fun k hk => fb_hi (nn k (by omega)) (by omega), fun k => ?_, fun i j a e1 e2 => ?_, obj2, fun i w hw => ?_⟩, fb_n (nn n (Nat.le_refl n)), ⟨fun a o ho q => ?_, fun k h1 h2 => ?_, fun k a hk nk e => ?_, fun k a c e => ?_⟩⟩
  · by_cases h : k ∈ ios ws
    · obtain ⟨j, hj⟩ := mem_ios.mp h
      rw [fb_io nd hj]
      exact nd' j
    · by_cases h1 : k < n
      · rw [fb_lo h h1]; exact G.nd k
      · by_cases h2 : k = n
        · subst h2; rw [fb_n h]; exact nd' _
        · rw [fb_hi h (by omega)]; exact List.nodup_nil
  · rcases cs i a e1 with ⟨a1, a2, a3⟩ | ⟨p, p1, p2⟩
    · rcases cs j a e2 with ⟨b1, b2, b3⟩ | ⟨q, q1, q2⟩
      · exact G.dj i j a a3 b3
      · exact (apart i q a a3 a1 a2 q1).elim
    · rcases cs j a e2 with ⟨b1, b2, b3⟩ | ⟨q, q1, q2⟩
      · exact (apart j p a b3 b1 b2 p1).elim
      · have := dj' p q a p1 q1
        subst this
        rcases p2 with p2 | ⟨p2, p3⟩
        · rcases q2 with q2 | ⟨q2, q3⟩
          · rw [p2] at q2; cases q2; rfl
          · have := (List.getElem?_eq_some_iff.mp p2).1
            omega
        · rcases q2 with q2 | ⟨q2, q3⟩
          · have := (List.getElem?_eq_some_iff.mp q2).1
            omega
          · omega
  · rw [hl]
    rcases hΓ i w hw with ⟨j, v, h1, h2, h3, h4, h5⟩ | ⟨h1, h2, h3⟩
    · obtain ⟨v', e1, e2⟩ := A.get h1
      rw [h4] at e1
      cases e1
      refine ⟨v, e2, fun r hr => (by rw [h3] at hr; cases hr), ?_⟩
      rw [h2, h3, fb_io nd h1]
      exact ORep.deep (fun a ⟨k, _, z⟩ => obj2 k a z) (fun _ _ e => e) (by omega) h5
    · obtain ⟨v, e1, a1⟩ := G.rep i w h2
      have hi : i < Γ.length := (List.getElem?_eq_some_iff.mp h2).1
      refine ⟨v, e1, a1.move (fun a ha o e => kept i a o ha h1 (by omega) e) (fb_lo h1 (by omega)) fun a o no e => ⟨Dc.keep a o e fun m hm _ z => ?_, fun ⟨j, hj, z⟩ => ?_⟩⟩
      · obtain ⟨q, q1, c⟩ := fc_mem z
        refine no ⟨q, fun hq => ?_, q1⟩
        rcases c with ⟨y, f2, g2⟩ | ⟨y, f2, g2⟩
        · subst g2; exact h3 q hq (mem_ios.mpr ⟨m, f2⟩)
        · have := a1.rs q hq; omega
      · rcases cs j a z with ⟨_, _, z⟩ | ⟨p, z, _⟩
        · exact no ⟨j, hj, z⟩
        · rcases src p a z with ⟨q, q1, c⟩ | z
          · refine no ⟨q, fun hq => ?_, q1⟩
            rcases c with c | c
            · exact h3 q hq c
            · have := a1.rs q hq; omega
          · rw [e] at z; cases z
  · have e1 := D1.keep a o ho q
    refine Dc.keep a o e1 fun m hm _ z => ?_
    obtain ⟨p, p1, c⟩ := fc_mem z
    have fin : ((∃ m, m < Γ.length ∧ M m ∧ a ∈ F0 m) ∨ H0 a = none) → False := fun z => by
      rcases z with ⟨m, a1, a2, a3⟩ | z
      · exact q m a1 a2 a3
      · rw [ho] at z; cases z
    rcases c with ⟨y, f2, g2⟩ | ⟨y, f2, g2⟩
    · subst g2; exact fin (D1.new p a (.inl ⟨ioN m p f2, hM p (mem_ios.mpr ⟨m, f2⟩)⟩) p1)
    · exact fin (D1.new p a (.inr (by omega)) p1)
  · rw [fb_lo (fun z => by have := iosN k z; omega) h2]
    exact D1.frm k h1 h2
  · rw [fb_lo (fun z => nk (hM k z)) (by omega)] at e
    exact D1.old k a hk nk e
  · rcases cs k a e with ⟨_, h1, e⟩ | ⟨p, e, _⟩
    · refine D1.new k a ?_ e
      rcases c with c | c
      · exact .inl c
      · omega
    · rcases src p a e with ⟨q, q1, c⟩ | z
      · refine D1.new q a ?_ q1
        rcases c with c | c
        · exact .inl ⟨iosN q c, hM q c⟩
        · exact .inr c
      · exact D1.gone z
theorem wipeG_len : ∀ {js : List Nat} {Γ : Gm}, (wipeG js Γ).length = Γ.length
  | [], _ => rfl
  | j :: js, Γ => by
    show ((wipeG js Γ).set j none).length = _
    rw [List.length_set, wipeG_len]
theorem wipeG_get : ∀ {js : List Nat} {Γ : Gm} {i : Nat} {w : W}, (wipeG js Γ)[i]? = some (some w) → i ∉ js ∧ Γ[i]? = some (some w)
  | [], _, _, _, h => ⟨(fun z => nomatch z), h⟩
  | j :: js, Γ, i, w, h => by
    have h : ((wipeG js Γ).set j none)[i]? = some (some w) := h
    by_cases q : j = i
    · subst q
      by_cases l : j < (wipeG js Γ).length
      · rw [List.getElem?_set_self l] at h; cases h
      · rw [List.getElem?_eq_none (by rw [List.length_set]; omega)] at h; cases h
    · rw [List.getElem?_set_ne q] at h
      obtain ⟨a, b⟩ := wipeG_get h
      exact ⟨fun z => (List.mem_cons.mp z).elim (fun z => q z.symm) a, b⟩
/-- A CALL -/
theorem call_ok {f : Nat} {md : Mode} {Q : VK} (hm : C.mode f = some md) (G : Gd K Γ σ H F (n + ws.length)) (A : Aat K Γ.length σ H F n ws vs) (hN : Γ.length ≤ n) (D1 : Dl Γ.length M H0 F0 n H F) (hM : ∀ i ∈ ios ws, M i)
    (P : PostR K ER Wx Γ.length M σ H0 F0 n (fun w Γ' => ∀ v H' F', Gd K Γ' σ H' F' (n + 1) → At K Γ.length H' F' n w v → Dl Γ.length M H0 F0 n H' F' → Q v H') (callG C f ws Γ)) :
    DSp K ER md (C.call f) vs H Q (WE Wx σ) := by
  unfold callG at P
  rw [hm] at P
  simp only at P
  split at P
  · rename_i cond
    simp only [Bool.and_eq_true] at cond
    obtain ⟨⟨hf, nd⟩, dj⟩ := cond
    split at P
    · exact P.elim
    · rename_i ds hds
      obtain ⟨l1, Gc⟩ := G.call1 A hN hf nd dj hds
      have l2 := adata_len hds
      refine ⟨ds, _, l1, Gc, ?_⟩
      split at P
      · rename_i r os hr
        try rw [hr]
        intro ds' v H' F' hx hl' G' A' D'
        split at P
        · rename_i Γ' ho
          rw [l2] at G' A' D'
          have Dn := D'.dn
          have el := outs_len ho
          rw [kill_len] at el
          obtain ⟨b1, b2, b3⟩ := Gd.back (Γ' := Γ') (M := M) (H0 := H0) (F0 := F0) G A hN nd Dn (dn_nd G'.nd) (dn_dj G'.dj) (fun i a e => by rcases dn_cs e with ⟨_, z⟩ | ⟨_, z⟩ <;> exact G'.obj _ a z) el (fun i w hw => by
            by_cases hi : i ∈ ios ws
            · obtain ⟨j, hj⟩ := mem_ios.mp hi
              obtain ⟨x, _, e2⟩ := A.get hj
              have hi' : i < (kill (ios ws) Γ).length := by
                rw [kill_len, ← G.len]
                exact (List.getElem?_eq_some_iff.mp e2).1
              obtain ⟨d, d1, d2⟩ := outs_get hf nd ho hx hl' hj hi'
              rw [hw] at d2
              cases d2
              obtain ⟨y, y1, y2⟩ := G'.rep j _ d1
              rw [List.getElem?_map] at y1
              obtain ⟨z, z1, z2⟩ := Option.map_eq_some_iff.mp y1
              cases z2
              exact .inl ⟨j, y, hj, rfl, rfl, z1, by rw [dn_lo (List.getElem?_eq_some_iff.mp hj).1]; exact ORep.mono cut_le (fun _ _ _ e => e) y2.rep⟩
            · rw [outs_keep ho hi] at hw
              exact .inr ⟨hi, kill_get hw⟩) D1 hM
          refine P v H' _ b1 ?_ b3
          cases hfr : md.fresh with
          | true =>
            rw [hfr] at A'
            have hn : At K Γ.length H' (fb Γ.length n ws.length ws F (dn ws.length F')) n ⟨8, [], r⟩ v := ⟨fun _ z => (nomatch z), by
              rw [b2, dn_at]
              exact ORep.deep (fun a q => b1.othObj q) (fun _ _ e => e) (by omega : 2 ≤ 8) (ORep.mono cut_le (fun _ _ _ e => e) A'.rep)⟩
            split
            · rename_i im
              have q := At.val (w := ⟨8, [], r⟩) hn b1 im
              exact q
            · exact hn
          | false =>
            rw [hfr] at A'
            have rp := A'.rep
            simp only [Bool.false_eq_true, if_false] at rp
            unfold ORep at rp
            have hn : At K Γ.length H' (fb Γ.length n ws.length ws F (dn ws.length F')) n ⟨0, arss ws, r⟩ v := ⟨fun r hr => arss_lt A hr, by
              rw [b2, dn_at, rp.1]
              refine orep0 (Rep.mono (cut_sub fun a o no e => ⟨e, fun ⟨j, hj, z⟩ => ?_⟩) rp.2)
              by_cases hi : j ∈ ios ws
              · obtain ⟨p, hp⟩ := mem_ios.mp hi
                rw [fb_io nd hp, dn_lo (List.getElem?_eq_some_iff.mp hp).1] at z
                exact no ⟨p, List.not_mem_nil, z⟩
              · by_cases hjn : j < n
                · rw [fb_lo hi hjn] at z
                  refine no ⟨ws.length, List.not_mem_nil, ?_⟩
                  rw [D'.frm ws.length (Nat.le_refl _) (Nat.lt_succ_self _), fx1_at]
                  exact hld_mem.mpr ⟨j, hjn, hi, hj, z⟩
                · by_cases hjn2 : j = n
                  · subst hjn2
                    rw [fb_n hi, dn_at] at z
                    exact no ⟨_, List.not_mem_nil, z⟩
                  · rw [fb_hi hi (by omega)] at z
                    cases z⟩
            split
            · rename_i im
              exact At.val (w := ⟨0, arss ws, r⟩) hn b1 im
            · exact hn
        · exact P.elim
      · rename_i c as g hr
        try rw [hr]
        intro cls dx H' F' er D'
        rw [l2] at D'
        have D2 : Dl ws.length (fun _ => True) H (fc n ws F) ws.length H' (fun _ => []) := ⟨D'.dn.keep, fun k h1 h2 => by omega, fun k a _ nk _ => absurd trivial nk, fun k a _ e => by cases e⟩
        obtain ⟨b1, b2, b3⟩ := Gd.back (Γ' := wipeG (ios ws) (kill (ios ws) Γ)) (M := M) (H0 := H0) (F0 := F0) G A hN nd D2 (fun _ => List.nodup_nil) (fun i j a e => by cases e) (fun i a e => by cases e) (by rw [wipeG_len, kill_len]) (fun i w hw => by
          obtain ⟨h1, h2⟩ := wipeG_get hw
          exact .inr ⟨h1, kill_get h2⟩) D1 hM
        exact P cls dx H' _ er (b1.drop (by rw [wipeG_len, kill_len]; exact hN)) (b3.drop hN)
      · exact P.elim
  · exact P.elim
end
end Own

end
section
set_option maxHeartbeats 1000000
namespace Own
open PySem PySem.Spec L2

section
variable {K : PySem.W.Frag} {ER : ERel} {C : Ctx} {Wx : WX} {N n m k i : Nat} {Γ Γ1 Γ2 Γ' : Gm} {σ : L2.St} {H H' H0 H1 H2 R : Hp} {F F' F0 F1 F2 : Fpt} {w w1 w2 : W} {v : V} {d : D} {vs : List V} {ws : List Aw} {M M1 M2 : Nat → Prop} {Q : VK} {e a b c : E} {es : Es}
abbrev vPost (K : PySem.W.Frag) (N : Nat) (M : Nat → Prop) (σ : L2.St) (H : Hp) (F : Fpt) (n : Nat) (Q : VK) : W → Gm → Prop := fun w Γ' => ∀ v H' F', Gd K Γ' σ H' F' (n + 1) → At K N H' F' n w v → Dl N M H F n H' F' → Q v H'
abbrev bPost (K : PySem.W.Frag) (N : Nat) (M : Nat → Prop) (σ : L2.St) (H : Hp) (F : Fpt) (n : Nat) (Q : Bool → Hp → Prop) : Bool → Gm → Prop := fun k Γ' => ∀ H' F', Gd K Γ' σ H' F' n → Dl N M H F n H' F' → Q k H'
theorem PostR.ok {α : Type} {P : α → Gm → Prop} {a : α} (h : PostR K ER Wx N M σ H F n P (.ok (a, Γ))) : P a Γ := h
/-- what is wanted behind a later step -/
theorem PostR.shift {α : Type} {P P' : α → Gm → Prop} {r : Res (α × Gm)} (D1 : Dl N M H F n H1 F1) (hN : N ≤ n) (hM : ∀ m, M2 m → M m) (h : PostR K ER Wx N M σ H F n P r)
    (hp : ∀ a Γ', P a Γ' → P' a Γ') : PostR K ER Wx N M2 σ H1 F1 n P' r := by
  cases r with
  | ok p => exact hp p.1 p.2 h
  | exc c as Γ' => exact fun cls dx H' F' e g d => h cls dx H' F' e g ((D1.trans d hN (Nat.le_refl n)).weak fun m _ z => z.elim id (hM m))
  | stuck => exact h
theorem vPost.shift (D1 : Dl N M H F n H1 F1) (hN : N ≤ n) (hM : ∀ m, M2 m → M m) {r : Res (W × Gm)} (h : PostR K ER Wx N M σ H F n (vPost K N M σ H F n Q) r) : PostR K ER Wx N M2 σ H1 F1 n (vPost K N M2 σ H1 F1 n Q) r :=
  h.shift D1 hN hM fun a Γ' q v H' F' g A d => q v H' F' g A ((D1.trans d hN (Nat.le_refl n)).weak fun m _ z => z.elim id (hM m))
theorem bPost.shift {Q : Bool → Hp → Prop} (D1 : Dl N M H F n H1 F1) (hN : N ≤ n) (hM : ∀ m, M2 m → M m) {r : Res (Bool × Gm)} (h : PostR K ER Wx N M σ H F n (bPost K N M σ H F n Q) r) : PostR K ER Wx N M2 σ H1 F1 n (bPost K N M2 σ H1 F1 n Q) r :=
  h.shift D1 hN hM fun a Γ' q H' F' g d => q H' F' g ((D1.trans d hN (Nat.le_refl n)).weak fun m _ z => z.elim id (hM m))
/-- first e, then k -/
theorem tE.seq {α : Type} {P : α → Gm → Prop} {f : W × Gm → Res (α × Gm)} {Q' : VK} (G : Gd K Γ σ H F n) (hM : ∀ m ∈ mutE e, M m) (P0 : PostR K ER Wx Γ.length M σ H F n P ((ev C e Γ).bind f))
    (h : ∀ w Γ1 v H1 F1, Γ1.length = Γ.length → PostR K ER Wx Γ.length M σ H F n P (f (w, Γ1)) → Gd K Γ1 σ H1 F1 (n + 1) → At K Γ.length H1 F1 n w v → Dl Γ.length M H F n H1 F1 → Q' v H1) : tE K ER C Wx e σ H Q' := by
  refine ⟨Γ, F, n, G, ?_⟩
  cases he : ev C e Γ with
  | stuck => rw [he] at P0; exact P0
  | exc c as Γ' => rw [he] at P0; exact ExcP.weak P0 hM
  | ok p =>
    obtain ⟨w, Γ1⟩ := p
    rw [he, bind_ok] at P0
    intro v H1 F1 G1 A1 D1
    exact h w Γ1 v H1 F1 (G.same G1) P0 G1 A1 (D1.weak fun m _ z => hM m z)
theorem tT.seq {α : Type} {P : α → Gm → Prop} {f : Bool × Gm → Res (α × Gm)} {Q' : Bool → Hp → Prop} (G : Gd K Γ σ H F n) (hM : ∀ m ∈ mutE e, M m) (P0 : PostR K ER Wx Γ.length M σ H F n P ((evT C e Γ).bind f))
    (h : ∀ k Γ1 H1 F1, Γ1.length = Γ.length → PostR K ER Wx Γ.length M σ H F n P (f (k, Γ1)) → Gd K Γ1 σ H1 F1 n → Dl Γ.length M H F n H1 F1 → Q' k H1) : tT K ER C Wx e σ H Q' := by
  refine ⟨Γ, F, n, G, ?_⟩
  cases he : evT C e Γ with
  | stuck => rw [he] at P0; exact P0
  | exc c as Γ' => rw [he] at P0; exact ExcP.weak P0 hM
  | ok p =>
    obtain ⟨k, Γ1⟩ := p
    rw [he, bind_ok] at P0
    intro H1 F1 G1 D1
    exact h k Γ1 H1 F1 (G.same G1) P0 G1 (D1.weak fun m _ z => hM m z)
/-- going on at e, what is in hand from n on being dropped -/
theorem tE.go (G1 : Gd K Γ1 σ H1 F1 m) (hl : Γ1.length = Γ.length) (hN : Γ.length ≤ n) (D1 : Dl Γ.length M H F n H1 F1) (hM : ∀ m ∈ mutE e, M m) (P : PostR K ER Wx Γ.length M σ H F n (vPost K Γ.length M σ H F n Q) (ev C e Γ1)) : tE K ER C Wx e σ H1 Q := by
  refine ⟨Γ1, low n F1, n, G1.drop (by omega), ?_⟩
  rw [hl]
  exact vPost.shift (D1.drop hN) hN hM P
theorem tT.go {Q : Bool → Hp → Prop} (G1 : Gd K Γ1 σ H1 F1 m) (hl : Γ1.length = Γ.length) (hN : Γ.length ≤ n) (D1 : Dl Γ.length M H F n H1 F1) (hM : ∀ m ∈ mutE e, M m) (P : PostR K ER Wx Γ.length M σ H F n (bPost K Γ.length M σ H F n Q) (evT C e Γ1)) : tT K ER C Wx e σ H1 Q := by
  refine ⟨Γ1, low n F1, n, G1.drop (by omega), ?_⟩
  rw [hl]
  exact bPost.shift (D1.drop hN) hN hM P

/-! ### values at once -/
theorem vPost.fin (G : Gd K Γ σ H F n) (D1 : Dl Γ.length M H F n H1 F1) (B : Fin K Γ1 σ H1 F1 n w v H2 F2) (hl : Γ1.length = Γ.length) (P : vPost K Γ.length M σ H F n Q w Γ1) : Q v H2 :=
  P v H2 F2 B.gd (by have := B.at_; rw [hl] at this; exact this) (D1.temps G.top B.nw.same B.nw.lo B.nw.fr)
theorem tE_val (G : Gd K Γ σ H F n) (i : imm d = true) (r : Rep K H d v) (P : vPost K Γ.length M σ H F n Q (val d) Γ) : Q v H :=
  vPost.fin G (Dl.refl G.top G.off) (fin_imm G G.top i r) rfl P
theorem tE_int {i : Int} (h : tE K ER C Wx (.int i) σ H Q) : tC (.int i) σ H Q := by
  obtain ⟨Γ, F, n, G, P⟩ := h
  rw [ev] at P
  exact tE_val (d := .int i) G rfl rfl P
theorem tE_bl {i : Bool} (h : tE K ER C Wx (.bl i) σ H Q) : tC (.bl i) σ H Q := by
  obtain ⟨Γ, F, n, G, P⟩ := h
  rw [ev] at P
  exact tE_val (d := .bl i) G rfl rfl P
theorem tE_non (h : tE K ER C Wx .non σ H Q) : tC .non σ H Q := by
  obtain ⟨Γ, F, n, G, P⟩ := h
  rw [ev] at P
  exact tE_val (d := .non) G rfl rfl P
theorem tE_str {x : Str} (h : tE K ER C Wx (.str x) σ H Q) : tC (.str x) σ H Q := by
  obtain ⟨Γ, F, n, G, P⟩ := h
  rw [ev] at P
  exact tE_val (d := .str x) G rfl rfl P
theorem Gd.view (G : Gd K Γ σ H F n) (hr : rd Γ i = some w) : ∃ v, σ[i]? = some (some v) ∧ Fin K Γ σ H F n (vw i w) v H (low n F) := by
  obtain ⟨v, hv, A⟩ := G.rdv hr
  have hi : i < Γ.length := by rw [← G.len]; exact (List.getElem?_eq_some_iff.mp hv).1
  refine ⟨v, hv, ?_⟩
  unfold vw
  split
  · rename_i im
    exact fin_imm G G.top im A.read
  · split
    · rename_i z
      have rp := A.rep
      rw [z] at rp
      have := fin_view (rs := w.rs) (d := w.d) (v := v) G G.top A.rs (by unfold ORep at rp; exact rp.2)
      rw [show (⟨0, w.rs, w.d⟩ : W) = w by rw [← z]] at this
      exact this
    · refine fin_view (rs := i :: w.rs) G G.top (fun r hr => (List.mem_cons.mp hr).elim (fun z => by rw [z]; exact hi) (A.rs r)) (ORep.rep (cut_sub fun a o no e => ⟨e, fun ⟨j, hj, z⟩ => no ⟨j, fun q => hj (List.mem_cons_of_mem _ q), z⟩⟩) (fun a ha o e => cut_some.mpr ⟨fun ⟨j, hj, z⟩ => ?_, e⟩) A.rep)
      exact hj (by rw [G.dj j i a z ha]; exact List.mem_cons_self)
theorem tE_loc (h : tE K ER C Wx (.loc i) σ H Q) : tVar i σ H Q := by
  obtain ⟨Γ, F, n, G, P⟩ := h
  rw [ev] at P
  cases hr : rd Γ i with
  | none => simp only [hr] at P; exact P.elim
  | some w =>
    simp only [hr] at P
    obtain ⟨v, hv, B⟩ := G.view hr
    exact ⟨v, hv, vPost.fin (M := mem []) G (Dl.refl G.top G.off) B rfl P⟩
/-- a slot's value taken out -/
theorem Gd.take (G : Gd K Γ σ H F n) (hr : rd Γ i = some w) (he : w.rs = []) : ∃ v, σ[i]? = some (some v) ∧ Gd K (kill [i] (Γ.set i none)) σ H (put (put F i []) n (F i)) (n + 1) ∧ At K Γ.length H (put (put F i []) n (F i)) n w v ∧
    (∀ M : Nat → Prop, M i → Dl Γ.length M H F n H (put (put F i []) n (F i))) := by
  obtain ⟨v, hv, A⟩ := G.rdv hr
  have hi : i < Γ.length := by rw [← G.len]; exact (List.getElem?_eq_some_iff.mp hv).1
  have hin : i < n := Nat.lt_of_lt_of_le hi G.top
  have htop := G.top
  have cs : ∀ k a, a ∈ put (put F i []) n (F i) k → (k = n ∧ a ∈ F i) ∨ (k ≠ n ∧ k ≠ i ∧ a ∈ F k) := fun k a e => by
    by_cases q : k = n
    · subst q; rw [put_same] at e; exact .inl ⟨rfl, e⟩
    · rw [put_ne q] at e
      by_cases q' : k = i
      · subst q'; rw [put_same] at e; cases e
      · rw [put_ne q'] at e; exact .inr ⟨q, q', e⟩
  have len : (kill [i] (Γ.set i none)).length = Γ.length := by rw [kill_len, List.length_set]
  refine ⟨v, hv, ⟨by rw [len]; exact G.len, by rw [len]; exact Nat.le_succ_of_le G.top, fun k hk => ?_, fun k => ?_, fun p q a e1 e2 => ?_, fun k a e => ?_, fun j u hu => ?_⟩, ⟨(fun r hr => by rw [he] at hr; cases hr), ?_⟩, fun M hM => ⟨fun a o e _ => e, fun k h1 h2 => ?_, fun k a hk nk e => ?_, fun k a c e => ?_⟩⟩
  · rw [put_ne (by omega), put_ne (by omega)]; exact G.off k (by omega)
  · by_cases q : k = n
    · subst q; rw [put_same]; exact G.nd i
    · rw [put_ne q]
      by_cases q' : k = i
      · subst q'; rw [put_same]; exact List.nodup_nil
      · rw [put_ne q']; exact G.nd k
  · rcases cs p a e1 with ⟨x1, x2⟩ | ⟨x1, x2, x3⟩
    · rcases cs q a e2 with ⟨y1, y2⟩ | ⟨y1, y2, y3⟩
      · rw [x1, y1]
      · exact absurd (G.dj q i a y3 x2) y2
    · rcases cs q a e2 with ⟨y1, y2⟩ | ⟨y1, y2, y3⟩
      · exact absurd (G.dj p i a x3 y2) x2
      · exact G.dj p q a x3 y3
  · rcases cs k a e with ⟨_, x⟩ | ⟨_, _, x⟩
    · exact G.obj i a x
    · exact G.obj k a x
  · rw [len]
    obtain ⟨h1, h2⟩ := kill_get hu
    have hji : j ≠ i := fun z => by
      subst z
      rw [List.getElem?_set_self hi] at h1; cases h1
    rw [List.getElem?_set_ne (Ne.symm hji)] at h1
    obtain ⟨x, hx, B⟩ := G.rep j u h1
    have hj : j < Γ.length := (List.getElem?_eq_some_iff.mp h1).1
    have hjn : j < n := Nat.lt_of_lt_of_le hj G.top
    refine ⟨x, hx, B.move (fun _ _ _ e => e) (by rw [put_ne (by omega), put_ne hji]) fun a o no e => ⟨e, fun ⟨p, hp, z⟩ => ?_⟩⟩
    rcases cs p a z with ⟨_, y⟩ | ⟨_, _, y⟩
    · exact no ⟨i, fun q => h2 i q (by simp), y⟩
    · exact no ⟨p, hp, y⟩
  · rw [put_same]
    have rp := A.rep
    refine ORep.mono (cut_sub fun a o no e => ⟨e, fun ⟨p, hp, z⟩ => ?_⟩) (fun _ _ _ e => e) rp
    rcases cs p a z with ⟨_, y⟩ | ⟨_, _, y⟩
    · exact no ⟨i, by rw [he]; exact List.not_mem_nil, y⟩
    · exact no ⟨p, hp, y⟩
  · rw [put_ne (by omega), put_ne (by omega)]
  · rw [put_ne (by omega), put_ne (fun z => nk (by rw [z]; exact hM))] at e; exact e
  · rcases cs k a e with ⟨_, y⟩ | ⟨y1, y2, y⟩
    · exact .inl ⟨i, hi, hM, y⟩
    · rcases c with ⟨c1, c2⟩ | c
      · exact .inl ⟨k, c1, c2, y⟩
      · rw [G.off k c] at y; cases y
theorem tE_mv (h : tE K ER C Wx (.mv i) σ H Q) : tVar i σ H Q := by
  obtain ⟨Γ, F, n, G, P⟩ := h
  rw [ev] at P
  cases hr : rd Γ i with
  | none => simp only [hr] at P; exact P.elim
  | some w =>
    simp only [hr] at P
    obtain ⟨v, hv, B⟩ := G.view hr
    by_cases im : imm w.d = true
    · rw [if_pos im] at P
      rw [show vw i w = val w.d from if_pos im] at B
      exact ⟨v, hv, vPost.fin (M := mem [i]) G (Dl.refl G.top G.off) B rfl P⟩
    · rw [if_neg im] at P
      by_cases z : w.l = 0
      · rw [if_pos z] at P
        rw [show vw i w = w by unfold vw; rw [if_neg im, if_pos z]] at B
        exact ⟨v, hv, vPost.fin (M := mem [i]) G (Dl.refl G.top G.off) B rfl P⟩
      · rw [if_neg z] at P
        split at P
        · rename_i e
          obtain ⟨v, hv, G1, A1, D1⟩ := G.take hr (List.isEmpty_iff.mp e)
          exact ⟨v, hv, P v H _ G1 A1 (D1 _ (by show i ∈ [i]; simp))⟩
        · exact P.elim
theorem tE_glb {g : Nat} (h : tE K ER C Wx (.glb g) σ H Q) (hv : ∀ d, C.glob g = some d → Rep K H d v) : tC v σ H Q := by
  obtain ⟨Γ, F, n, G, P⟩ := h
  rw [ev] at P
  cases hg : C.glob g with
  | none => simp only [hg] at P; exact P.elim
  | some d =>
    simp only [hg] at P
    by_cases im : imm d = true
    · rw [if_pos im] at P
      exact tE_val (M := mem []) G im (hv d hg) P
    · rw [if_neg im] at P
      exact P.elim

/-! ### and, or, not, if -/
theorem tE_and (h : tE K ER C Wx (.and a b) σ H Q) : tAndV (tE K ER C Wx a) (tE K ER C Wx b) σ H Q := by
  obtain ⟨Γ, F, n, G, P⟩ := h
  rw [ev] at P
  refine tE.seq G (fun m hm => List.mem_append_left _ hm) P fun w Γ1 v H1 F1 hl P1 G1 A1 D1 => ?_
  cases hd : w.d <;> simp only [hd] at P1 <;> try exact P1.elim
  rename_i k
  refine ⟨k, reads_bl A1 hd, ?_⟩
  cases k with
  | true => exact tE.go G1 hl G.top D1 (fun m hm => List.mem_append_right _ hm) P1
  | false => exact vPost.fin G D1 (fin_imm (d := .bl false) (v := .bl false) G1 (by rw [hl]; exact G.top) rfl rfl) hl P1
theorem tE_or (h : tE K ER C Wx (.or a b) σ H Q) : tOrV (tE K ER C Wx a) (tE K ER C Wx b) σ H Q := by
  obtain ⟨Γ, F, n, G, P⟩ := h
  rw [ev] at P
  refine tE.seq G (fun m hm => List.mem_append_left _ hm) P fun w Γ1 v H1 F1 hl P1 G1 A1 D1 => ?_
  cases hd : w.d <;> simp only [hd] at P1 <;> try exact P1.elim
  rename_i k
  refine ⟨k, reads_bl A1 hd, ?_⟩
  cases k with
  | false => exact tE.go G1 hl G.top D1 (fun m hm => List.mem_append_right _ hm) P1
  | true => exact vPost.fin G D1 (fin_imm (d := .bl true) (v := .bl true) G1 (by rw [hl]; exact G.top) rfl rfl) hl P1
theorem tE_not (h : tE K ER C Wx (.not a) σ H Q) : tNotV (tE K ER C Wx a) σ H Q := by
  obtain ⟨Γ, F, n, G, P⟩ := h
  rw [ev] at P
  refine tE.seq G (fun m hm => hm) P fun w Γ1 v H1 F1 hl P1 G1 A1 D1 => ?_
  cases hd : w.d <;> simp only [hd] at P1 <;> try exact P1.elim
  rename_i k
  exact ⟨k, reads_bl A1 hd, vPost.fin G D1 (fin_imm (d := .bl (!k)) (v := .bl (!k)) G1 (by rw [hl]; exact G.top) rfl rfl) hl P1⟩
theorem tE_ite (h : tE K ER C Wx (.ite c a b) σ H Q) : tIf (tT K ER C Wx c) (tE K ER C Wx a) (tE K ER C Wx b) σ H Q := by
  obtain ⟨Γ, F, n, G, P⟩ := h
  rw [ev] at P
  refine tT.seq G (fun m hm => List.mem_append_left _ hm) P fun k Γ1 H1 F1 hl P1 G1 D1 => ?_
  cases k with
  | true => exact tE.go G1 hl G.top D1 (fun m hm => List.mem_append_right _ (List.mem_append_left _ hm)) P1
  | false => exact tE.go G1 hl G.top D1 (fun m hm => List.mem_append_right _ (List.mem_append_right _ hm)) P1
theorem bPost.end {Q : Bool → Hp → Prop} {k : Bool} (G1 : Gd K Γ1 σ H1 F1 m) (hl : Γ1.length = Γ.length) (hN : Γ.length ≤ n) (D1 : Dl Γ.length M H F n H1 F1) (P : bPost K Γ.length M σ H F n Q k Γ1) : Q k H1 :=
  P H1 (low n F1) (G1.drop (by omega)) (D1.drop hN)
theorem tT_and {Q : Bool → Hp → Prop} (h : tT K ER C Wx (.and a b) σ H Q) : tAnd (tT K ER C Wx a) (tT K ER C Wx b) σ H Q := by
  obtain ⟨Γ, F, n, G, P⟩ := h
  rw [evT] at P
  refine tT.seq G (fun m hm => List.mem_append_left _ hm) P fun k Γ1 H1 F1 hl P1 G1 D1 => ?_
  cases k with
  | true => exact tT.go G1 hl G.top D1 (fun m hm => List.mem_append_right _ hm) P1
  | false => exact bPost.end G1 hl G.top D1 P1
theorem tT_or {Q : Bool → Hp → Prop} (h : tT K ER C Wx (.or a b) σ H Q) : tOr (tT K ER C Wx a) (tT K ER C Wx b) σ H Q := by
  obtain ⟨Γ, F, n, G, P⟩ := h
  rw [evT] at P
  refine tT.seq G (fun m hm => List.mem_append_left _ hm) P fun k Γ1 H1 F1 hl P1 G1 D1 => ?_
  cases k with
  | true => exact bPost.end G1 hl G.top D1 P1
  | false => exact tT.go G1 hl G.top D1 (fun m hm => List.mem_append_right _ hm) P1
theorem tT_not {Q : Bool → Hp → Prop} (h : tT K ER C Wx (.not a) σ H Q) : tNot (tT K ER C Wx a) σ H Q := by
  obtain ⟨Γ, F, n, G, P⟩ := h
  rw [evT] at P
  refine tT.seq G (fun m hm => hm) P fun k Γ1 H1 F1 hl P1 G1 D1 => ?_
  exact bPost.end G1 hl G.top D1 P1
theorem tru_of (h : Rep K H d v) {k : Bool} (e : truD d = some k) : TruV K v H k := by
  cases d with
  | non => cases e; rw [show v = V.non from h]; exact rfl
  | bl b => cases e; rw [show v = V.bl _ from h]; exact rfl
  | int i => cases e; rw [show v = V.int _ from h]; exact rfl
  | str x => cases e
  | scr ns => cases e
  | exn _ _ _ => cases e
  | dct _ _ _ => cases e
  | lst ds =>
    obtain ⟨a, vs, ev, q, r⟩ := h
    cases e
    rw [ev]
    refine .inl ⟨vs, .of q, ?_⟩
    cases ds with
    | nil => rw [show vs = [] from r]; rfl
    | cons d ds => obtain ⟨x, y, z, _⟩ := r; rw [z]; rfl
  | tup ds =>
    obtain ⟨a, vs, ev, q, r⟩ := h
    cases e
    rw [ev]
    refine .inr (.inl ⟨vs, q, ?_⟩)
    cases ds with
    | nil => rw [show vs = [] from r]; rfl
    | cons d ds => obtain ⟨x, y, z, _⟩ := r; rw [z]; rfl
/-- a test that is a value's truth -/
def plainT : E → Bool
  | .and _ _ => false
  | .or _ _ => false
  | .not _ => false
  | .ite _ _ _ => false
  | _ => true
theorem evT_plain (hp : plainT e = true) : evT C e Γ = (ev C e Γ).bind fun (w, Γ1) => match truD w.d with
    | some k => .ok (k, Γ1)
    | none => .stuck := by
  cases e <;> first
    | (cases hp; done)
    | (rw [evT] <;> (intros; first | rfl | (rename_i z; cases z)))
theorem tT_val {Q : Bool → Hp → Prop} (hp : plainT e = true) (h : tT K ER C Wx e σ H Q) : tE K ER C Wx e σ H (fun x H' => ∃ k, TruV K x H' k ∧ Q k H') := by
  obtain ⟨Γ, F, n, G, P⟩ := h
  rw [evT_plain hp] at P
  refine tE.seq G (fun m hm => hm) P fun w Γ1 v H1 F1 hl P1 G1 A1 D1 => ?_
  cases ht : truD w.d with
  | none => simp only [ht] at P1; exact P1.elim
  | some k =>
    simp only [ht] at P1
    exact ⟨k, tru_of A1.read ht, bPost.end G1 hl G.top D1 P1⟩
/-- .. of a bool -/
theorem tT_bool {Q : Bool → Hp → Prop} (hp : plainT e = true) (hb : ∀ Γ w Γ1, ev C e Γ = .ok (w, Γ1) → ∃ k, w.d = .bl k) (h : tT K ER C Wx e σ H Q) : tTest (tE K ER C Wx e) σ H Q := by
  obtain ⟨Γ, F, n, G, P⟩ := h
  rw [evT_plain hp] at P
  refine ⟨Γ, F, n, G, ?_⟩
  cases he : ev C e Γ with
  | stuck => rw [he] at P; exact P
  | exc c as Γ' => rw [he] at P; exact P
  | ok p =>
    obtain ⟨w, Γ1⟩ := p
    rw [he, bind_ok] at P
    obtain ⟨k, hk⟩ := hb Γ w Γ1 he
    simp only [hk] at P
    intro v H1 F1 G1 A1 D1
    exact ⟨k, reads_bl A1 hk, bPost.end G1 (G.same G1) G.top D1 P⟩

/-! ### chains -/
def cR (K : PySem.W.Frag) (o : Op) : R2 := fun x y H Q => opR K o [x, y] H Q
theorem cR_int {o : Op} {i j : Int} {z : Bool} (h : cmpI o i j = some z) (q : Q (.bl z) H) : cR K o (.int i) (.int j) H Q := by
  cases o <;> cases h
  · exact .inl ⟨i, j, rfl, rfl, q⟩
  · exact ⟨i, j, rfl, rfl, q⟩
  · exact ⟨i, j, rfl, rfl, q⟩
  · exact ⟨i, j, rfl, rfl, q⟩
theorem tE_chain {o o' : Op} (h : tE K ER C Wx (.chain o o' a b c) σ H Q) : tChain (cR K o) (cR K o') (tE K ER C Wx a) (tE K ER C Wx b) (tE K ER C Wx c) σ H Q := by
  obtain ⟨Γ, F, n, G, P⟩ := h
  rw [ev] at P
  refine tE.seq G (fun m hm => List.mem_append_left _ hm) P fun w Γ1 v H1 F1 hl P1 G1 A1 D1 => ?_
  have D1' := D1.drop G.top
  have hN : Γ1.length ≤ n := by rw [hl]; exact G.top
  refine ⟨Γ1, low n F1, n, G1.drop hN, ?_⟩
  cases hb : ev C b Γ1 with
  | stuck => simp only [hb] at P1; exact P1
  | exc c as Γ' =>
    simp only [hb] at P1
    rw [hl]
    exact fun cls dx H' F' e g d => P1 cls dx H' F' e g ((D1'.trans d G.top (Nat.le_refl n)).weak fun m _ z => z.elim id fun z => List.mem_append_right _ (List.mem_append_left _ z))
  | ok p =>
    obtain ⟨w2, Γ2⟩ := p
    simp only [hb] at P1
    rw [bind_ok] at P1
    intro u H2 F2 G2 A2 D2
    rw [hl] at A2 D2
    have hl2 : Γ2.length = Γ.length := ((G1.drop hN).same G2).trans hl
    have D12 : Dl Γ.length (mem (mutE (.chain o o' a b c))) H F n H2 F2 := (D1'.trans D2 G.top (Nat.le_refl n)).weak fun m _ z => z.elim id fun z => List.mem_append_right _ (List.mem_append_left _ z)
    cases hd : w.d <;> simp only [hd] at P1 <;> try exact P1.elim
    cases hd2 : w2.d <;> simp only [hd2] at P1 <;> try exact P1.elim
    rename_i i j
    have e1 := reads_int A1 hd
    have e2 := reads_int A2 hd2
    subst e1
    subst e2
    cases hc : cmpI o i j with
    | none => simp only [hc] at P1; exact P1.elim
    | some z =>
      simp only [hc] at P1
      refine cR_int hc ⟨z, rfl, ?_⟩
      cases z with
      | false =>
        simp only at P1
        exact vPost.fin G D12 (fin_imm (d := .bl false) (v := .bl false) G2 (by rw [hl2]; exact G.top) rfl rfl) hl2 P1
      | true =>
        simp only at P1
        have D12' := D12.drop G.top
        have hN2 : Γ2.length ≤ n := by rw [hl2]; exact G.top
        refine ⟨Γ2, low n F2, n, G2.drop hN2, ?_⟩
        cases hcc : ev C c Γ2 with
        | stuck => simp only [hcc] at P1; exact P1
        | exc c as Γ' =>
          simp only [hcc] at P1
          rw [hl2]
          exact fun cls dx H' F' e g d => P1 cls dx H' F' e g ((D12'.trans d G.top (Nat.le_refl n)).weak fun m _ z => z.elim id fun z => List.mem_append_right _ (List.mem_append_right _ z))
        | ok p =>
          obtain ⟨w3, Γ3⟩ := p
          simp only [hcc] at P1
          rw [bind_ok] at P1
          intro u3 H3 F3 G3 A3 D3
          rw [hl2] at A3 D3
          have hl3 : Γ3.length = Γ.length := ((G2.drop hN2).same G3).trans hl2
          have D13 : Dl Γ.length (mem (mutE (.chain o o' a b c))) H F n H3 F3 := (D12'.trans D3 G.top (Nat.le_refl n)).weak fun m _ z => z.elim id fun z => List.mem_append_right _ (List.mem_append_right _ z)
          cases hd3 : w3.d <;> simp only [hd3] at P1 <;> try exact P1.elim
          rename_i k
          have e3 := reads_int A3 hd3
          subst e3
          cases hc' : cmpI o' j k with
          | none => simp only [hc'] at P1; exact P1.elim
          | some z =>
            simp only [hc'] at P1
            exact cR_int hc' (vPost.fin G D13 (fin_imm (d := .bl z) (v := .bl z) G3 (by rw [hl3]; exact G.top) rfl rfl) hl3 P1)
theorem chain_bool {o o' : Op} (h : ev C (.chain o o' a b c) Γ = .ok (w, Γ1)) : ∃ k, w.d = .bl k := by
  rw [ev] at h
  cases h1 : ev C a Γ with
  | stuck => rw [h1] at h; cases h
  | exc c as Γ' => rw [h1] at h; cases h
  | ok p =>
    obtain ⟨w1, G1⟩ := p
    simp only [h1] at h
    rw [bind_ok] at h
    cases h2 : ev C b G1 with
    | stuck => simp only [h2] at h; cases h
    | exc c as Γ' => simp only [h2] at h; cases h
    | ok p =>
      obtain ⟨w2, G2⟩ := p
      simp only [h2] at h
      rw [bind_ok] at h
      cases hd : w1.d <;> simp only [hd] at h <;> try (cases h; done)
      cases hd2 : w2.d <;> simp only [hd2] at h <;> try (cases h; done)
      rename_i i j
      cases hc : cmpI o i j with
      | none => simp only [hc] at h; cases h
      | some z =>
        cases z with
        | false => simp only [hc] at h; cases h; exact ⟨false, rfl⟩
        | true =>
          simp only [hc] at h
          cases h3 : ev C c G2 with
          | stuck => simp only [h3] at h; cases h
          | exc c as Γ' => simp only [h3] at h; cases h
          | ok p =>
            obtain ⟨w3, G3⟩ := p
            simp only [h3] at h
            rw [bind_ok] at h
            cases hd3 : w3.d <;> simp only [hd3] at h <;> try (cases h; done)
            rename_i k
            cases hc' : cmpI o' j k with
            | none => simp only [hc'] at h; cases h
            | some z => simp only [hc'] at h; cases h; exact ⟨z, rfl⟩
/-! ### what a dict has at a key -/
theorem rep_dct {t : Bool} {ks : List (List Key)} {ds : List D} (A : At K N H F k w v) (e : w.d = .dct t ks ds) : ∃ p us, v = .ref p ∧ Rd H p (dHO t ks us) ∧ Reps K H ds us ∧ (w.l = 0 → Reps K (cut H (Oth F w.rs)) ds us) := by
  obtain ⟨p, us, rfl, q, r⟩ := reads_dct A e
  by_cases l0 : w.l = 0
  · have h0 := A.rep
    rw [l0, e] at h0
    unfold ORep at h0
    obtain ⟨p', us', ep, q', r'⟩ := h0.2
    cases ep
    exact ⟨p, us', rfl, cut_le.rd q', Reps.mono cut_le r', fun _ => r'⟩
  · exact ⟨p, us, rfl, q, r, fun z => absurd z l0⟩
theorem getV_ok {ks : List (List Key)} {ds : List D} {us : List V} {ky : Key} {m : Nat} {w3 : W} {v3 : V} {P : W → Gm → Prop} (G : Gd K Γ1 σ H F m) (hN : Γ1.length ≤ n) (A : At K Γ1.length H F k w v) (r : Reps K H ds us) (r0 : w.l = 0 → Reps K (cut H (Oth F w.rs)) ds us)
    (h3 : imm w3.d = true → Rep K H w3.d v3) {M0 : Nat → Prop} {H0 : Hp} {F0 : Fpt} {n0 : Nat} {N0 : Nat} (hp : PostR K ER Wx N0 M0 σ H0 F0 n0 P (getV w (dget ks ds ky) w3 Γ1)) :
    ∃ w', P w' Γ1 ∧ ∃ F', Fin K Γ1 σ H F n w' ((valV ((ks.map k1).zip us) ky).getD v3) H F' := by
  unfold getV at hp
  cases e : dget ks ds ky with
  | none =>
    rw [Reps.dgetN r e]
    simp only [e] at hp
    by_cases i : imm w3.d = true
    · rw [if_pos i] at hp
      exact ⟨_, hp, _, fin_imm G hN i (h3 i)⟩
    · rw [if_neg i] at hp
      exact hp.elim
  | some d =>
    simp only [e] at hp
    obtain ⟨x, e3, r3⟩ := Reps.dget r e
    rw [e3]
    by_cases i : imm d = true
    · rw [if_pos i] at hp
      exact ⟨_, hp, _, fin_imm G hN i r3⟩
    · rw [if_neg i] at hp
      by_cases l0 : w.l = 0
      · rw [if_pos l0] at hp
        obtain ⟨x', e3', r3'⟩ := Reps.dget (r0 l0) e
        have : x' = x := Option.some.inj (e3'.symm.trans e3)
        subst this
        exact ⟨_, hp, _, fin_view G hN A.rs r3'⟩
      · rw [if_neg l0] at hp
        exact hp.elim
theorem tE_get1 (h : tE K ER C Wx (.get1 a b) σ H Q) : tDGet1 (tE K ER C Wx a) (tE K ER C Wx b) σ H Q := by
  obtain ⟨Γ, F, n, G, P⟩ := h
  rw [ev] at P
  refine tE.seq G (fun m hm => List.mem_append_left _ hm) P fun w Γ1 v H1 F1 hl P1 G1 A1 D1 => ?_
  cases hd : w.d <;> simp only [hd] at P1 <;> try exact P1.elim
  rename_i t ks xs
  cases t with
  | true => exact P1.elim
  | false =>
    simp only at P1
    obtain ⟨p, us, rfl, q, r, _⟩ := rep_dct A1 hd
    refine ⟨p, rfl, .inl ⟨_, q⟩, Γ1, F1, n + 1, G1, ?_⟩
    cases hb : ev C b Γ1 with
    | stuck => simp only [hb] at P1; exact P1
    | exc c as Γ' =>
      simp only [hb] at P1
      rw [hl]
      intro cls dx H' F' er g d
      exact ExcP.later P1 D1 G.top (Nat.le_succ n) (.inr ((G1.same g).trans hl)) (fun m hm => hm) (fun m hm => List.mem_append_right _ hm) cls dx H' F' er g d
    | ok pp =>
      obtain ⟨w2, Γ2⟩ := pp
      simp only [hb] at P1
      rw [bind_ok] at P1
      intro u H2 F2 G2 A2 D2
      rw [hl] at A2 D2
      have hl2 : Γ2.length = Γ.length := (G1.same G2).trans hl
      have D12 := (D1.trans D2 G.top (Nat.le_succ n)).weak (M2 := mem (mutE (.get1 a b))) fun m _ z => z.elim id fun z => List.mem_append_right _ z
      cases hk : keyD w2.d with
      | none => simp only [hk] at P1; exact P1.elim
      | some ky =>
        simp only [hk] at P1
        by_cases hh : hold w (mutE b) = true
        · rw [if_pos hh] at P1
          have A1' := A1.hold D2 G.top (Nat.lt_succ_self n) (hold_no hh) G1.dj
          obtain ⟨p', us', e', q', r', r0'⟩ := rep_dct A1' hd
          cases e'
          have hN2 : Γ2.length ≤ n := by rw [hl2]; exact G.top
          refine ⟨_, .inl ⟨_, ky, q', keyD_rep hk A2.read, rfl⟩, ?_⟩
          obtain ⟨w', P', F', B⟩ := getV_ok (n := n) (w3 := val .non) (v3 := .non) G2 hN2 (by rw [hl2]; exact A1') r' r0' (fun _ => rfl) P1
          exact vPost.fin G D12 B hl2 P'
        · rw [if_neg hh] at P1
          exact P1.elim
theorem tE_get2 (h : tE K ER C Wx (.get2 a b c) σ H Q) : tDGet2 (tE K ER C Wx a) (tE K ER C Wx b) (tE K ER C Wx c) σ H Q := by
  obtain ⟨Γ, F, n, G, P⟩ := h
  rw [ev] at P
  refine tE.seq G (fun m hm => List.mem_append_left _ hm) P fun w Γ1 v H1 F1 hl P1 G1 A1 D1 => ?_
  cases hd : w.d <;> simp only [hd] at P1 <;> try exact P1.elim
  rename_i t ks xs
  cases t with
  | true => exact P1.elim
  | false =>
    simp only at P1
    obtain ⟨p, us, rfl, q, r, _⟩ := rep_dct A1 hd
    refine ⟨p, rfl, .inl ⟨_, q⟩, Γ1, F1, n + 1, G1, ?_⟩
    cases hb : ev C b Γ1 with
    | stuck => simp only [hb] at P1; exact P1
    | exc c as Γ' =>
      simp only [hb] at P1
      rw [hl]
      intro cls dx H' F' er g d
      exact ExcP.later P1 D1 G.top (Nat.le_succ n) (.inr ((G1.same g).trans hl)) (fun m hm => hm) (fun m hm => List.mem_append_right _ (List.mem_append_left _ hm)) cls dx H' F' er g d
    | ok pp =>
      obtain ⟨w2, Γ2⟩ := pp
      simp only [hb] at P1
      rw [bind_ok] at P1
      intro u H2 F2 G2 A2 D2
      rw [hl] at A2 D2
      have hl2 : Γ2.length = Γ.length := (G1.same G2).trans hl
      cases hk : keyD w2.d with
      | none => simp only [hk] at P1; exact P1.elim
      | some ky =>
        simp only [hk] at P1
        have D12 := (D1.trans D2 G.top (Nat.le_succ n)).weak (M2 := mem (mutE (.get2 a b c))) fun m _ z => z.elim id fun z => List.mem_append_right _ (List.mem_append_left _ z)
        have ky2 := keyD_rep hk A2.read
        have hN2 : Γ2.length ≤ n + 1 := by rw [hl2]; exact Nat.le_succ_of_le G.top
        refine ⟨Γ2, low (n + 1) F2, n + 1, G2.drop hN2, ?_⟩
        have D2' := D2.drop (Nat.le_succ_of_le G.top)
        have D12' := (D1.trans D2' G.top (Nat.le_succ n)).weak (M2 := mem (mutE (.get2 a b c))) fun m _ z => z.elim id fun z => List.mem_append_right _ (List.mem_append_left _ z)
        cases hc : ev C c Γ2 with
        | stuck => simp only [hc] at P1; exact P1
        | exc c as Γ' =>
          simp only [hc] at P1
          rw [hl2]
          intro cls dx H' F' er g d
          exact ExcP.later P1 D12' G.top (Nat.le_succ n) (.inr ((G2.same g).trans hl2)) (fun m hm => hm) (fun m hm => List.mem_append_right _ (List.mem_append_right _ hm)) cls dx H' F' er g d
        | ok pp =>
          obtain ⟨w3, Γ3⟩ := pp
          simp only [hc] at P1
          rw [bind_ok] at P1
          intro z H3 F3 G3 A3 D3
          rw [hl2] at A3 D3
          have hl3 : Γ3.length = Γ.length := (G2.same G3).trans hl2
          have D13 := (D12'.trans D3 G.top (Nat.le_succ n)).weak (M2 := mem (mutE (.get2 a b c))) fun m _ z => z.elim id fun z => List.mem_append_right _ (List.mem_append_right _ z)
          by_cases hh : hold w (mutE b ++ mutE c) = true
          · simp only [if_pos hh] at P1
            have hn := hold_no hh
            have A1' := A1.hold D2' G.top (Nat.lt_succ_self n) (fun r hr z => hn r hr (List.mem_append_left _ z)) G1.dj
            have A1'' := A1'.hold D3 G.top (Nat.lt_succ_self n) (fun r hr z => hn r hr (List.mem_append_right _ z)) (G2.drop hN2).dj
            obtain ⟨p', us', e', q', r', r0'⟩ := rep_dct A1'' hd
            cases e'
            have hN3 : Γ3.length ≤ n := by rw [hl3]; exact G.top
            refine ⟨_, .inl ⟨_, ky, q', ky2, rfl⟩, ?_⟩
            obtain ⟨w', P', F', B⟩ := getV_ok (n := n) (v3 := z) G3 hN3 (by rw [hl3]; exact A1'') r' r0' (fun _ => A3.read) P1
            exact vPost.fin G D13 B hl3 P'
          · simp only [if_neg hh] at P1
            exact P1.elim
end
end Own

end
section
set_option maxHeartbeats 1000000
namespace Own
open PySem PySem.Spec L2

section
variable {K : PySem.W.Frag} {ER : ERel} {C : Ctx} {Wx : WX} {N n m k i : Nat} {Γ Γ1 Γ2 Γ' : Gm} {σ : L2.St} {H H' H0 H1 H2 R : Hp} {F F' F0 F1 F2 : Fpt} {w w1 w2 : W} {v : V} {d : D} {vs : List V} {ws : List Aw} {M M1 M2 : Nat → Prop} {Q : VK} {e a b c : E} {es : Es} {rs : List Nat}
def Es.len : Es → Nat
  | .nil => 0
  | .cons _ es => es.len + 1
  | .io _ es => es.len + 1
  | .tmp _ es => es.len + 1
theorem evs_len : ∀ {es : Es} {Γ Γ' : Gm} {ws : List Aw}, evs C es Γ = .ok (ws, Γ') → ws.length = es.len
  | .nil, Γ, Γ', ws, e => by rw [evs] at e; cases e; rfl
  | .cons x es, Γ, Γ', ws, e => by
    rw [evs] at e
    cases h1 : ev C x Γ with
    | stuck => rw [h1] at e; cases e
    | exc c as g => rw [h1] at e; cases e
    | ok p =>
      obtain ⟨w, Γ1⟩ := p
      rw [h1, bind_ok] at e
      cases h2 : evs C es Γ1 with
      | stuck => simp only [h2] at e; cases e
      | exc c as g => simp only [h2] at e; cases e
      | ok q =>
        obtain ⟨us, Γ2⟩ := q
        simp only [h2, bind_ok] at e
        split at e
        · cases e
          exact congrArg (· + 1) (evs_len h2)
        · cases e
  | .tmp x es, Γ, Γ', ws, e => by
    rw [evs] at e
    cases h1 : ev C x Γ with
    | stuck => rw [h1] at e; cases e
    | exc c as g => rw [h1] at e; cases e
    | ok p =>
      obtain ⟨w, Γ1⟩ := p
      rw [h1, bind_ok] at e
      cases h2 : evs C es Γ1 with
      | stuck => simp only [h2] at e; cases e
      | exc c as g => simp only [h2] at e; cases e
      | ok q =>
        obtain ⟨us, Γ2⟩ := q
        simp only [h2, bind_ok] at e
        split at e
        · cases e
          exact congrArg (· + 1) (evs_len h2)
        · cases e
  | .io x es, Γ, Γ', ws, e => by
    rw [evs] at e
    split at e
    · cases h2 : evs C es Γ with
      | stuck => rw [h2] at e; cases e
      | exc c as g => rw [h2] at e; cases e
      | ok q =>
        obtain ⟨us, Γ2⟩ := q
        rw [h2, bind_ok] at e
        cases e
        exact congrArg (· + 1) (evs_len h2)
    · cases e

/-! ### displays -/
theorem Vat.shr : ∀ {ws : List W} {n : Nat} {vs : List V}, (h : Shr N F F') → N ≤ n → Vat K N H F n ws vs → Vat K N H F' n ws vs
  | [], _, _, _, _, a => a
  | w :: ws, n, vs, h, hn, a => by
    obtain ⟨v, r, e, h1, h2⟩ := a
    exact ⟨v, r, e, h1.shr h (h.hi n hn), Vat.shr h (by omega) h2⟩
/-- values settle, from the left -/
theorem Gd.stls : ∀ {ws : List W} {Γ : Gm} {F : Fpt} {n : Nat} {vs : List V}, Gd K Γ σ H F m → Vat K Γ.length H F n ws vs → Γ.length ≤ n → ∃ F', Gd K (stls ws Γ).2 σ H F' m ∧ Vat K Γ.length H F' n (stls ws Γ).1 vs ∧ Shr Γ.length F F' ∧ (stls ws Γ).2.length = Γ.length
  | [], Γ, F, n, vs, G, A, hn => ⟨F, G, A, Shr.refl, rfl⟩
  | w :: ws, Γ, F, n, vs, G, A, hn => by
    obtain ⟨v, r, e, h1, h2⟩ := A
    obtain ⟨F1, G1, A1, s1⟩ := G.stl h1 hn
    have hl := stl_len (w := w) (Γ := Γ)
    obtain ⟨F2, G2, A2, s2, l2⟩ := Gd.stls (n := n + 1) G1 (by rw [hl]; exact Vat.shr s1 (by omega) h2) (by rw [hl]; omega)
    rw [hl] at A2 s2
    exact ⟨F2, G2, ⟨v, r, e, A1.shr s2 (s2.hi n hn), A2⟩, s1.trans s2, l2.trans hl⟩
theorem stls_d : ∀ {ws : List W} {Γ : Gm}, (stls ws Γ).1.map (·.d) = ws.map (·.d)
  | [], _ => rfl
  | w :: ws, Γ => by
    show (stl w Γ).1.d :: (stls ws (stl w Γ).2).1.map (·.d) = w.d :: ws.map (·.d)
    rw [stl_d, stls_d]
theorem stls_rs : ∀ {ws : List W} {Γ : Gm} {u : W}, u ∈ (stls ws Γ).1 → u.rs = []
  | [], _, _, h => by cases h
  | w :: ws, Γ, u, h => by
    have h : u ∈ (stl w Γ).1 :: (stls ws (stl w Γ).2).1 := h
    rcases List.mem_cons.mp h with z | z
    · rw [z]; exact stl_rs
    · exact stls_rs z
/-- settled values, once nothing is in hand any longer -/
theorem Vat.falls : ∀ {ws : List W} {k : Nat} {vs : List V}, (∀ u ∈ ws, u.rs = []) → n ≤ k → (∀ i j a, a ∈ F i → a ∈ F j → i = j) → Vat K N H F k ws vs → Reps K (cut H (Oth (low n F) [])) (ws.map (·.d)) vs
  | [], _, _, _, _, _, a => a
  | w :: ws, k, vs, h, hk, dj, a => by
    obtain ⟨v, r, e, h1, h2⟩ := a
    have q := h1.fall hk dj
    rw [h w List.mem_cons_self] at q
    exact ⟨v, r, e, q, Vat.falls (fun u hu => h u (List.mem_cons_of_mem _ hu)) (by omega) dj h2⟩
theorem fin_newT (G : Gd K Γ σ H F m) (hN : Γ.length ≤ n) {ds : List D} {vs : List V} (h : Reps K (cut H (Oth (low n F) [])) ds vs) {p : Addr} (hp : H p = none) : Fin K Γ σ H F n ⟨0, [], .tup ds⟩ (.ref p) (upd H p (.tup vs)) (low n F) := by
  have s : Same H (upd H p (.tup vs)) := fun a o e => by rw [upd_ne (ne_of_none e hp)]; exact e
  have G2 : Gd K Γ σ (upd H p (.tup vs)) (low n F) (n + 1) := G.temps hN (Nat.le_succ n) s (fun _ h => low_lt h) (fun _ h => low_ge (by omega)) (fun k a h e => by rw [low_ge h] at e; cases e) (fun k h => by rw [low_ge h]; exact List.nodup_nil)
    (fun i j a h _ e _ => by rw [low_ge h] at e; cases e) fun k a h e => by rw [low_ge h] at e; cases e
  have r : Rep K (cut (upd H p (.tup vs)) (Oth (low n F) [])) (.tup ds) (.ref p) := ⟨p, vs, rfl, .of (cut_some.mpr ⟨(fun z => by
    exact (G2.othObj z).no upd_same nc_tup), upd_same⟩), Reps.mono (cut_sub fun a o no e => ⟨s _ _ e, no⟩) h⟩
  have B := fin_view (rs := []) (d := .tup ds) G2 hN (fun _ z => nomatch z) r
  rw [low_low] at B
  exact ⟨B.gd, B.at_, s, fun k h => low_lt h, fun k a h e => by rw [low_ge h] at e; cases e⟩
theorem sz1000 {n : Nat} (h : n ≤ 1000) : n ≤ sizeLine := by rw [sizeLine_eq]; omega
theorem tE_tup (hl : es.len ≤ 1000) (h : tE K ER C Wx (.tup es) σ H Q) : tTup (tEs K ER C Wx es) σ H Q := by
  obtain ⟨Γ, F, n, G, P⟩ := h
  rw [ev] at P
  refine ⟨Γ, F, n, G, ?_⟩
  cases hs : evs C es Γ with
  | stuck => rw [hs] at P; exact P
  | exc c as Γ' => rw [hs] at P; exact P
  | ok q =>
    obtain ⟨ws, Γ1⟩ := q
    rw [hs, bind_ok] at P
    intro vs H1 F1 G1 A1 D1
    have hN := G.same G1
    refine ⟨sz1000 (by rw [A1.len, evs_len hs]; exact hl), fun p hp => ?_⟩
    cases ha : avals ws with
    | none => simp only [ha] at P; exact P.elim
    | some xs =>
      simp only [ha] at P
      have B := A1.vals ha
      split at P
      · rename_i im
        exact vPost.fin G D1 (fin_tup (n := n) G1 (by rw [hN]; exact G.top) im B.reps hp) hN P
      · split at P
        · rename_i dp
          obtain ⟨F2, B2⟩ := fin_own (n := n) G1 (by rw [hN]; exact G.top) dp (by rw [hN]; exact B) hp false
          exact vPost.fin G D1 B2 hN P
        · obtain ⟨F2, G2, A2, s2, l2⟩ := G1.stls (by rw [hN]; exact B) (by rw [hN]; exact G.top)
          rw [hN] at A2 s2 l2
          have q := A2.falls (n := n) (fun u hu => stls_rs hu) (Nat.le_refl n) G2.dj
          rw [stls_d] at q
          exact vPost.fin G (D1.shr s2) (fin_newT (n := n) G2 (by rw [l2]; exact G.top) q hp) l2 P
theorem tE_lst (hl : es.len ≤ 1000) (h : tE K ER C Wx (.lst es) σ H Q) : tLst (tEs K ER C Wx es) σ H Q := by
  obtain ⟨Γ, F, n, G, P⟩ := h
  rw [ev] at P
  refine ⟨Γ, F, n, G, ?_⟩
  cases hs : evs C es Γ with
  | stuck => rw [hs] at P; exact P
  | exc c as Γ' => rw [hs] at P; exact P
  | ok q =>
    obtain ⟨ws, Γ1⟩ := q
    rw [hs, bind_ok] at P
    intro vs H1 F1 G1 A1 D1
    have hN := G.same G1
    refine ⟨sz1000 (by rw [A1.len, evs_len hs]; exact hl), fun p hp => ?_⟩
    cases ha : avals ws with
    | none => simp only [ha] at P; exact P.elim
    | some xs =>
      simp only [ha] at P
      have B := A1.vals ha
      split at P
      · rename_i dp
        obtain ⟨F2, B2⟩ := fin_own (n := n) G1 (by rw [hN]; exact G.top) dp (by rw [hN]; exact B) hp true
        exact vPost.fin G D1 B2 hN P
      · obtain ⟨F2, G2, A2, s2, l2⟩ := G1.stls (by rw [hN]; exact B) (by rw [hN]; exact G.top)
        rw [hN] at A2 s2 l2
        have q := A2.falls (n := n) (fun u hu => stls_rs hu) (Nat.le_refl n) G2.dj
        rw [stls_d] at q
        have hN2 : (stls xs Γ1).2.length ≤ n := by rw [l2]; exact G.top
        have B2 := fin_new (rs := []) (l := 0) (n := n) (G2.drop hN2) hN2 (fun _ z => nomatch z) (reps0 q) hp
        exact vPost.fin G (D1.shr s2) (Fin.after Nw.drop B2) l2 P
/-! ### a dict's display -/
noncomputable def offH (H : Hp) (p : Addr) : Hp := fun a => if a = p then none else H a
theorem offH_ne {p a : Addr} (h : a ≠ p) : offH H p a = H a := if_neg h
theorem offH_at {p : Addr} : offH H p p = none := if_pos rfl
theorem offH_upd {p : Addr} {o : HO} : upd (offH H p) p o = upd H p o := by
  funext a
  by_cases h : a = p
  · subst h; rw [upd_same, upd_same]
  · rw [upd_ne h, upd_ne h, offH_ne h]
theorem off_cut {p : Addr} {rs : List Nat} (hn : n ∉ rs) (hp : F n = [p]) : Sub (cut H (Oth F rs)) (cut (offH H p) (Oth (put F n []) rs)) := cut_sub fun a o no e => by
  have hap : a ≠ p := fun z => no ⟨n, hn, by rw [hp, z]; exact List.mem_cons_self⟩
  refine ⟨by rw [offH_ne hap]; exact e, fun ⟨j, hj, z⟩ => ?_⟩
  by_cases q : j = n
  · subst q; rw [put_same] at z; cases z
  · rw [put_ne q] at z; exact no ⟨j, hj, z⟩
theorem At.off {p : Addr} (A : At K N H F k w v) (hN : N ≤ n) (hk : k ≠ n) (hp : F n = [p]) (dj : ∀ i j a, a ∈ F i → a ∈ F j → i = j) : At K N (offH H p) (put F n []) k w v := by
  refine ⟨A.rs, ?_⟩
  rw [put_ne hk]
  refine ORep.mono (off_cut (fun z => by have := A.rs n z; omega) hp) (fun a ha o e => ?_) A.rep
  rw [offH_ne]
  · exact e
  · intro z
    exact hk (dj k n a ha (by rw [hp, z]; exact List.mem_cons_self))
theorem Vat.off {p : Addr} (hN : N ≤ n) (hp : F n = [p]) (dj : ∀ i j a, a ∈ F i → a ∈ F j → i = j) : ∀ {ws : List W} {k : Nat} {vs : List V}, n < k → Vat K N H F k ws vs → Vat K N (offH H p) (put F n []) k ws vs
  | [], _, _, _, a => a
  | w :: ws, k, vs, hk, a => by
    obtain ⟨v, r, e, h1, h2⟩ := a
    exact ⟨v, r, e, h1.off hN (by omega) hp dj, Vat.off hN hp dj (by omega) h2⟩
theorem Gd.offp {p : Addr} (G : Gd K Γ σ H F m) (hN : Γ.length ≤ n) (hp : F n = [p]) : Gd K Γ σ (offH H p) (put F n []) m := by
  have sub : ∀ k a, a ∈ put F n [] k → a ∈ F k ∧ k ≠ n := fun k a e => by
    by_cases q : k = n
    · subst q; rw [put_same] at e; cases e
    · rw [put_ne q] at e; exact ⟨e, q⟩
  refine ⟨G.len, G.top, fun k hk => ?_, fun k => ?_, fun i j a h1 h2 => G.dj i j a (sub i a h1).1 (sub j a h2).1, fun i a h => ?_, fun i w h => ?_⟩
  · by_cases q : k = n
    · subst q; exact put_same
    · rw [put_ne q]; exact G.off k hk
  · by_cases q : k = n
    · subst q; rw [put_same]; exact List.nodup_nil
    · rw [put_ne q]; exact G.nd k
  · obtain ⟨h1, h2⟩ := sub i a h
    obtain ⟨o, e⟩ := G.obj i a h1
    refine ⟨o, ?_⟩
    rw [offH_ne]
    · exact e
    · intro z
      exact h2 (G.dj i n a h1 (by rw [hp, z]; exact List.mem_cons_self))
  · obtain ⟨v, hv, A⟩ := G.rep i w h
    have hi : i < Γ.length := (List.getElem?_eq_some_iff.mp h).1
    exact ⟨v, hv, A.off hN (by omega) hp G.dj⟩
theorem Dl.off {p : Addr} (D1 : Dl N M H0 F0 n H F) (hN : N ≤ n) (h0 : H0 p = none) : Dl N M H0 F0 n (offH H p) (put F n []) where
  keep := fun a o e q => by
    rw [offH_ne (fun z => by rw [z, h0] at e; cases e)]
    exact D1.keep a o e q
  frm := fun k h1 h2 => by rw [put_ne (by omega)]; exact D1.frm k h1 h2
  old := fun k a hk nk e => by rw [put_ne (by omega)] at e; exact D1.old k a hk nk e
  new := fun k a c e => by
    by_cases q : k = n
    · subst q; rw [put_same] at e; cases e
    · rw [put_ne q] at e; exact D1.new k a c e
theorem tPairs_eq : ∀ (ks : List Str) (ts : List TE) (H : Hp) (P : List (V × V) → Hp → Prop), ks.length = ts.length → tPairs ((ks.map fun k => tC (.str k)).zip ts) σ H P = tAll ts σ H (fun vs H2 => P ((ks.map V.str).zip vs) H2)
  | [], [], H, P, _ => rfl
  | [], _ :: _, _, _, e => by cases e
  | _ :: _, [], _, _, e => by cases e
  | k :: ks, t :: ts, H, P, e => by
    show t σ H (fun y H2 => tPairs ((ks.map fun k => tC (.str k)).zip ts) σ H2 fun ps H3 => P ((.str k, y) :: ps) H3) = t σ H (fun y H2 => tAll ts σ H2 fun vs H3 => P ((V.str k, y) :: (ks.map V.str).zip vs) H3)
    congr 1
    funext y H2
    exact tPairs_eq ks ts H2 (fun ps H3 => P ((.str k, y) :: ps) H3) (by simpa using e)
theorem merge_nodup : ∀ (kvs acc : List (Key × V)), (kvs.map (·.1)).Nodup → (∀ kv ∈ kvs, ∀ q ∈ acc, q.1 ≠ kv.1) → mergeK acc kvs = acc ++ kvs
  | [], acc, _, _ => (List.append_nil acc).symm
  | kv :: kvs, acc, nd, h => by
    have nd' : kv.1 ∉ kvs.map (·.1) ∧ (kvs.map (·.1)).Nodup := List.nodup_cons.mp (by rw [List.map_cons] at nd; exact nd)
    have e : valV acc kv.1 = none := by
      unfold valV
      rw [Option.map_eq_none_iff, List.find?_eq_none]
      intro q hq
      simpa using h kv List.mem_cons_self q hq
    show mergeK (putK acc kv.1 kv.2) kvs = _
    rw [putK_new kv.2 e, merge_nodup kvs (acc ++ [(kv.1, kv.2)]) nd'.2 (fun x hx q hq => ?_), List.append_assoc]
    · rfl
    · rcases List.mem_append.mp hq with z | z
      · exact h x (List.mem_cons_of_mem _ hx) q z
      · have : q = (kv.1, kv.2) := by simpa using z
        rw [this]
        intro z
        exact nd'.1 (List.mem_map.mpr ⟨x, hx, z.symm⟩)
theorem tsOf_len : ∀ {es : Es}, (tsOf K ER C Wx es).length = es.len
  | .nil => rfl
  | .cons _ es => congrArg (· + 1) tsOf_len
  | .io _ es => congrArg (· + 1) tsOf_len
  | .tmp _ es => congrArg (· + 1) tsOf_len
theorem tE_dnew {t : Bool} {ks : List Str} (hl : ks.length = es.len) (h : tE K ER C Wx (.dnew t ks es) σ H Q) : tDisp ((ks.map fun k => tC (.str k)).zip (tsOf K ER C Wx es)) σ H Q := by
  obtain ⟨Γ, F, n, G, P⟩ := h
  rw [ev] at P
  intro p hp
  rw [tPairs_eq ks _ _ _ (by rw [tsOf_len]; exact hl)]
  have B0 := fin_newD (rs := []) (l := 7) (n := n) (t := false) (ks := []) (ds := []) (vs := []) G G.top (fun _ z => nomatch z) (by unfold OReps; exact ⟨rfl, rfl⟩) hp
  have D0 : Dl Γ.length (mem (mutEs es)) H F n _ _ := (Dl.refl G.top G.off).temps G.top B0.nw.same B0.nw.lo B0.nw.fr
  refine tEs_all es ⟨Γ, _, n + 1, B0.gd, ?_⟩
  cases hs : evs C es Γ with
  | stuck => rw [hs] at P; exact P
  | exc c as Γ' =>
    rw [hs] at P
    intro cls dx H' F' er g d
    exact ExcP.later P D0 G.top (Nat.le_succ n) (.inr (G.same g)) (fun m hm => hm) (fun m hm => hm) cls dx H' F' er g d
  | ok q =>
    obtain ⟨ws, Γ1⟩ := q
    rw [hs, bind_ok] at P
    intro vs H1 F1 G1 A1 D1
    have hl1 := G.same G1
    have A0 := B0.at_.hold D1 G.top (Nat.lt_succ_self n) (fun _ z => nomatch z) B0.gd.dj
    obtain ⟨a0, us0, f0, e0, h1p, fp, o0⟩ := A0.rep
    cases e0
    have us0e : us0 = [] ∧ f0 = [] := by unfold OReps at o0; exact o0
    obtain ⟨u1, u2⟩ := us0e
    subst u1
    subst u2
    have D01 := (D0.trans D1 G.top (Nat.le_succ n)).weak (M2 := mem (mutE (.dnew t ks es))) fun m _ z => z.elim id id
    cases ha : avals ws with
    | none => simp only [ha] at P; exact P.elim
    | some xs =>
      simp only [ha] at P
      split at P
      · rename_i cnd
        obtain ⟨_, nd, ln, l15, dp⟩ := cnd
        have lv : vs.length = ks.length := by rw [A1.len, ← avals_len ha, ln]
        refine ⟨h1p, (ks.map fun k => (Sum.inr k : Key)).zip vs, ?_, ?_, ?_⟩
        · have : ∀ (ks : List Str) (vs : List V), (ks.map V.str).zip vs = ((ks.map fun k => (Sum.inr k : Key)).zip vs).map fun kv => (kV kv.1, kv.2) := by
            intro ks
            induction ks with
            | nil => intro vs; rfl
            | cons k ks ih =>
              intro vs
              cases vs with
              | nil => rfl
              | cons v vs =>
                show (V.str k, v) :: (ks.map V.str).zip vs = (kV (.inr k), v) :: _
                rw [ih vs]
                rfl
          exact this ks vs
        · rw [List.length_zip, List.length_map]; omega
        · have hN1 : Γ1.length ≤ n := by rw [hl1]; exact G.top
          have Go := G1.offp (n := n) hN1 fp
          have Ao := Vat.off (n := n) (N := Γ1.length) hN1 fp G1.dj (Nat.lt_succ_self n) (by rw [hl1]; exact A1.vals ha)
          have Do := D01.off G.top hp
          have hk1 : (ks.map fun k => [(Sum.inr k : Key)]).map k1 = ks.map fun k => (Sum.inr k : Key) := by rw [List.map_map]; rfl
          rw [merge_nodup _ [] (by
            rw [List.map_fst_zip (by rw [List.length_map]; omega)]
            refine nd.map _ fun a b hab z => hab (Sum.inr.inj z)) (fun _ _ q hq => nomatch hq), List.nil_append, ← offH_upd]
          obtain ⟨F2, B2⟩ := fin_ownC (n := n) (q := n + 1) (ob := .dK ((ks.map fun k => (Sum.inr k : Key)).zip vs)) (d := .dct false (ks.map fun k => [.inr k]) (xs.map (·.d))) Go hN1 (Nat.le_succ n) dp Ao offH_at
            (.inr (.inl ⟨false, ks.map fun k => [.inr k], vs, by show _ = HO.dK _; rw [hk1]⟩)) fun R f o => ⟨p, vs, f, rfl, by rw [upd_same]; show _ = some (HO.dK _); rw [hk1], rfl, by rw [if_neg (show ¬ ((7 : Nat) = 0) by decide)]; exact o⟩
          exact vPost.fin G Do B2 hl1 P
      · exact P.elim
/-- a call -/
theorem tE_call {f : Nat} {md : Mode} (hm : C.mode f = some md) (h : tE K ER C Wx (.call f es) σ H Q) : tCallSD (DSp K ER md (C.call f)) [] (WE Wx) (tEs K ER C Wx es) σ H Q := by
  obtain ⟨Γ, F, n, G, P⟩ := h
  rw [ev] at P
  refine ⟨Γ, F, n, G, ?_⟩
  cases hs : evs C es Γ with
  | stuck => rw [hs] at P; exact P
  | exc c as Γ' => rw [hs] at P; exact P
  | ok q =>
    obtain ⟨ws, Γ1⟩ := q
    rw [hs, bind_ok] at P
    intro vs H1 F1 G1 A1 D1
    have hN := G.same G1
    rw [List.append_nil]
    refine call_ok (Γ := Γ1) (M := mem (mutEs es)) (H0 := H) (F0 := F) hm G1 (by rw [hN]; exact A1) (by rw [hN]; exact G.top) (by rw [hN]; exact D1) (evs_ios hs) ?_
    rw [hN]
    exact P
end
end Own

end
section
set_option maxHeartbeats 1000000
namespace Own
open PySem PySem.Spec L2

section
variable {K : PySem.W.Frag} {ER : ERel} {C : Ctx} {Wx : WX} {N n m k i p q : Nat} {Γ Γ1 Γ2 Γ' : Gm} {σ : L2.St} {H H' H0 H1 H2 R : Hp} {F F' F0 F1 F2 : Fpt} {w w1 w2 : W} {v : V} {d : D} {vs us us' : List V} {xs xs' : List D} {f f' g : List Addr} {a : Addr} {M M1 M2 : Nat → Prop} {Q : VK} {l : Nat}
theorem OReps.snoc : ∀ {xs : List D} {us : List V} {f : List Addr}, OReps K H R l xs us f → ORep K H R l d v g → OReps K H R l (xs ++ [d]) (us ++ [v]) (f ++ g)
  | [], us, f, h, h' => by
    unfold OReps at h
    rw [h.1, h.2]
    show OReps K H R l (d :: []) (v :: []) g
    unfold OReps
    exact ⟨v, [], g, [], rfl, (List.append_nil g).symm, h', by unfold OReps; exact ⟨rfl, rfl⟩⟩
  | x :: xs, us, f, h, h' => by
    unfold OReps at h
    obtain ⟨y, r, f1, f2, e, ef, h1, h2⟩ := h
    rw [e, ef]
    show OReps K H R l (x :: (xs ++ [d])) (y :: (r ++ [v])) (f1 ++ f2 ++ g)
    unfold OReps
    exact ⟨y, r ++ [v], f1, f2 ++ g, rfl, List.append_assoc .., h1, OReps.snoc h2 h'⟩
theorem OReps.set : ∀ {xs : List D} {us : List V} {f : List Addr} (k : Nat), OReps K H R l xs us f → ORep K H R l d v g → ∃ f', OReps K H R l (xs.set k d) (us.set k v) f' ∧ (∀ b ∈ f', b ∈ f ∨ b ∈ g) ∧ (f.Nodup → g.Nodup → (∀ b ∈ f, b ∉ g) → f'.Nodup)
  | [], us, f, k, h, h' => by
    unfold OReps at h
    rw [h.1, h.2]
    exact ⟨[], (by show OReps K H R l [] [] []; unfold OReps; exact ⟨rfl, rfl⟩), (fun _ z => nomatch z), fun _ _ _ => List.nodup_nil⟩
  | x :: xs, us, f, 0, h, h' => by
    unfold OReps at h
    obtain ⟨y, r, f1, f2, e, ef, h1, h2⟩ := h
    rw [e, ef]
    refine ⟨g ++ f2, ?_, fun b hb => (List.mem_append.mp hb).elim .inr fun z => .inl (List.mem_append_right _ z), fun n1 n2 n3 => ?_⟩
    · show OReps K H R l (d :: xs) (v :: r) (g ++ f2)
      unfold OReps
      exact ⟨v, r, g, f2, rfl, rfl, h', h2⟩
    · exact List.nodup_append.mpr ⟨n2, (List.nodup_append.mp n1).2.1, fun b hb c hc z => n3 c (List.mem_append_right _ hc) (by rw [← z]; exact hb)⟩
  | x :: xs, us, f, k + 1, h, h' => by
    unfold OReps at h
    obtain ⟨y, r, f1, f2, e, ef, h1, h2⟩ := h
    rw [e, ef]
    obtain ⟨f', q1, q2, q3⟩ := OReps.set k h2 h'
    refine ⟨f1 ++ f', ?_, fun b hb => ?_, fun n1 n2 n3 => ?_⟩
    · show OReps K H R l (x :: xs.set k d) (y :: r.set k v) (f1 ++ f')
      unfold OReps
      exact ⟨y, r.set k v, f1, f', rfl, rfl, h1, q1⟩
    · rcases List.mem_append.mp hb with z | z
      · exact .inl (List.mem_append_left _ z)
      · exact (q2 b z).imp (List.mem_append_right _) id
    · have n1' := List.nodup_append.mp n1
      refine List.nodup_append.mpr ⟨n1'.1, q3 n1'.2.1 n2 fun b hb => n3 b (List.mem_append_right _ hb), fun b hb c hc z => ?_⟩
      rcases q2 c hc with y | y
      · exact n1'.2.2 b hb c y z
      · exact n3 b (List.mem_append_left _ hb) (by rw [z]; exact y)
theorem OReps.len : ∀ {xs : List D} {us : List V} {f : List Addr}, OReps K H R l xs us f → us.length = xs.length
  | [], us, f, h => by unfold OReps at h; rw [h.1]; rfl
  | x :: xs, us, f, h => by
    unfold OReps at h
    obtain ⟨y, r, f1, f2, e, ef, h1, h2⟩ := h
    rw [e, List.length_cons, List.length_cons, OReps.len h2]

/-- the list at a, owned at the place p, becomes us'; what is at the place q goes into it, or is let go -/
def pk (F : Fpt) (p q : Nat) (a : Addr) (f' : List Addr) : Fpt := put (put F p (a :: f')) q []
theorem pk_p (h : p ≠ q) : pk F p q a f' p = a :: f' := by unfold pk; rw [put_ne h, put_same]
theorem pk_q : pk F p q a f' q = [] := put_same
theorem pk_ne (h1 : k ≠ p) (h2 : k ≠ q) : pk F p q a f' k = F k := by unfold pk; rw [put_ne h2, put_ne h1]
structure Pk (K : PySem.W.Frag) (Γ : Gm) (H : Hp) (F : Fpt) (p q : Nat) (a : Addr) (f f' : List Addr) : Prop where
  hp : F p = a :: f
  hpq : p ≠ q
  nd : f'.Nodup
  sub : ∀ b ∈ f', b ∈ f ∨ b ∈ F q
  dj : ∀ i j a, a ∈ F i → a ∈ F j → i = j
  ndp : (F p).Nodup
theorem Pk.na (h : Pk K Γ H F p q a f f') : a ∉ f' := fun z => by
  rcases h.sub a z with y | y
  · have := h.ndp
    rw [h.hp] at this
    exact (List.nodup_cons.mp this).1 y
  · exact h.hpq (h.dj p q a (by rw [h.hp]; exact List.mem_cons_self) y)
theorem Pk.cs (h : Pk K Γ H F p q a f f') {b : Addr} (e : b ∈ pk F p q a f' k) : (k = p ∧ (b ∈ F p ∨ b ∈ F q)) ∨ (k ≠ p ∧ k ≠ q ∧ b ∈ F k) := by
  by_cases h1 : k = p
  · subst h1
    rw [pk_p h.hpq] at e
    refine .inl ⟨rfl, ?_⟩
    rcases List.mem_cons.mp e with z | z
    · rw [z, h.hp]; exact .inl List.mem_cons_self
    · exact (h.sub b z).imp (fun y => by rw [h.hp]; exact List.mem_cons_of_mem _ y) id
  · by_cases h2 : k = q
    · subst h2; rw [pk_q] at e; cases e
    · rw [pk_ne h1 h2] at e; exact .inr ⟨h1, h2, e⟩
theorem Pk.oth (h : Pk K Γ H F p q a f f') {rs : List Nat} {b : Addr} (h1 : p ∉ rs) (h2 : q ∉ rs) (e : Oth (pk F p q a f') rs b) : Oth F rs b := by
  obtain ⟨j, hj, z⟩ := e
  rcases h.cs z with ⟨_, y | y⟩ | ⟨_, _, y⟩
  · exact ⟨p, h1, y⟩
  · exact ⟨q, h2, y⟩
  · exact ⟨j, hj, y⟩
/-- what neither owns the list nor looks at it stays -/
theorem Pk.at_ {ob' : HO} (h : Pk K Γ H F p q a f f') (A : At K N H F k w v) (h1 : k ≠ p) (h2 : k ≠ q) (hr : p ∉ w.rs) (hq : N ≤ q) : At K N (upd H a ob') (pk F p q a f') k w v := by
  have ap : a ∈ F p := by rw [h.hp]; exact List.mem_cons_self
  refine A.move (fun b hb o e => ?_) (pk_ne h1 h2) fun b o no e => ⟨?_, fun z => no (h.oth hr (fun z => by have := A.rs q z; omega) z)⟩
  · rw [upd_ne (fun z => by subst z; exact h1 (h.dj k p b hb ap))]; exact e
  · rw [upd_ne (fun z => by subst z; exact no ⟨p, hr, ap⟩)]; exact e
/-- what nobody owns stays -/
theorem Pk.cut {ob' : HO} (h : Pk K Γ H F p q a f f') : Sub (cut H (Oth F [])) (cut (upd H a ob') (Oth (pk F p q a f') [])) := cut_sub fun b o no e => by
  have ap : a ∈ F p := by rw [h.hp]; exact List.mem_cons_self
  exact ⟨by rw [upd_ne (fun z => by subst z; exact no ⟨p, List.not_mem_nil, ap⟩)]; exact e, fun z => no (h.oth List.not_mem_nil List.not_mem_nil z)⟩
theorem Pk.gd {ob' : HO} (h : Pk K Γ H F p q a f f') (G : Gd K Γ σ H F m) (hq : Γ.length ≤ q) (hp : p < m) (hl : Γ'.length = Γ.length) (hc : Cel ob') (hΓ : ∀ i w, Γ'[i]? = some (some w) → i ≠ p → Γ[i]? = some (some w) ∧ p ∉ w.rs)
    (hp' : ∀ w, p < Γ.length → Γ'[p]? = some (some w) → ∃ v, σ[p]? = some (some v) ∧ At K Γ.length (upd H a ob') (pk F p q a f') p w v) : Gd K Γ' σ (upd H a ob') (pk F p q a f') m := by
  have ap : a ∈ F p := by rw [h.hp]; exact List.mem_cons_self
  have sub : ∀ k b, b ∈ pk F p q a f' k → ∃ j, b ∈ F j := fun k b e => by
    rcases h.cs e with ⟨_, y | y⟩ | ⟨_, _, y⟩
    · exact ⟨p, y⟩
    · exact ⟨q, y⟩
    · exact ⟨k, y⟩
  refine ⟨by rw [hl]; exact G.len, by rw [hl]; exact G.top, fun k hk => ?_, fun k => ?_, fun x y b e1 e2 => ?_, fun k b e => ?_, fun j u hu => ?_⟩
  · by_cases h2 : k = q
    · subst h2; exact pk_q
    · rw [pk_ne (by omega) h2]; exact G.off k hk
  · by_cases h1 : k = p
    · subst h1; rw [pk_p h.hpq]; exact List.nodup_cons.mpr ⟨h.na, h.nd⟩
    · by_cases h2 : k = q
      · subst h2; rw [pk_q]; exact List.nodup_nil
      · rw [pk_ne h1 h2]; exact G.nd k
  · rcases h.cs e1 with ⟨x1, x2⟩ | ⟨x1, x2, x3⟩
    · rcases h.cs e2 with ⟨y1, y2⟩ | ⟨y1, y2, y3⟩
      · rw [x1, y1]
      · rcases x2 with x2 | x2
        · exact absurd (G.dj y p b y3 x2) y1
        · exact absurd (G.dj y q b y3 x2) y2
    · rcases h.cs e2 with ⟨y1, y2⟩ | ⟨y1, y2, y3⟩
      · rcases y2 with y2 | y2
        · exact absurd (G.dj x p b x3 y2) x1
        · exact absurd (G.dj x q b x3 y2) x2
      · exact G.dj x y b x3 y3
  · by_cases z : b = a
    · rw [z]; exact ⟨⟨ob', hc⟩, upd_same⟩
    · obtain ⟨j, y⟩ := sub k b e
      obtain ⟨o, e'⟩ := G.obj j b y
      exact ⟨o, by rw [upd_ne z]; exact e'⟩
  · rw [hl]
    have hj : j < Γ.length := by
      have := (List.getElem?_eq_some_iff.mp hu).1
      omega
    by_cases h1 : j = p
    · subst h1; exact hp' u hj hu
    · obtain ⟨e1, e2⟩ := hΓ j u hu h1
      obtain ⟨v, hv, A⟩ := G.rep j u e1
      exact ⟨v, hv, h.at_ A h1 (by omega) e2 hq⟩
theorem Pk.dl {ob' : HO} (h : Pk K Γ H F p q a f f') (D1 : Dl N M H0 F0 n H F) (hq : n ≤ q) (hp : (p < N ∧ M p) ∨ n ≤ p) (hN : N ≤ n) : Dl N M H0 F0 n (upd H a ob') (pk F p q a f') where
  keep := fun b o e hb => by
    have ap : a ∈ F p := by rw [h.hp]; exact List.mem_cons_self
    rw [upd_ne (fun z => by
      subst z
      rcases D1.new p b hp ap with ⟨m, m1, m2, m3⟩ | z
      · exact hb m m1 m2 m3
      · rw [e] at z; cases z)]
    exact D1.keep b o e hb
  frm := fun k h1 h2 => by
    rw [pk_ne (by omega) (by omega)]
    exact D1.frm k h1 h2
  old := fun k b hk nk e => by
    rw [pk_ne (fun z => by
      subst z
      rcases hp with z | z
      · exact nk z.2
      · omega) (by omega)] at e
    exact D1.old k b hk nk e
  new := fun k b c e => by
    rcases h.cs e with ⟨_, y | y⟩ | ⟨_, _, y⟩
    · exact D1.new p b hp y
    · exact D1.new q b (.inr hq) y
    · exact D1.new k b c y
/-- the list, owned with all within -/
theorem Pk.deep (h : Pk K Γ H F p q a f f') (hl : ∃ ys, H a = some (.lst ys)) (r : OReps K H (Own.cut H (Oth F [])) 8 xs' us' f') : At K N (upd H a (.lst us')) (pk F p q a f') p ⟨8, [], .lst xs'⟩ (.ref a) := by
  refine ⟨fun _ z => (nomatch z), ?_⟩
  rw [pk_p h.hpq]
  exact ⟨a, us', f', rfl, upd_same, rfl, OReps.mono h.cut (fun b hb o e => by rw [upd_ne (fun z => h.na (by rw [← z]; exact hb))]; exact e) r⟩
/-- .. alone -/
theorem Pk.flat (h : Pk K Γ H F p q a f []) (r : Reps K (Own.cut (upd H a (.lst us')) (Oth (pk F p q a []) [])) xs' us') : At K N (upd H a (.lst us')) (pk F p q a []) p ⟨1, [], .lst xs'⟩ (.ref a) := by
  refine ⟨fun _ z => (nomatch z), ?_⟩
  rw [pk_p h.hpq]
  exact ⟨a, us', [], rfl, upd_same, rfl, reps0 r⟩
/-- .. what was within is to be read -/
theorem Pk.loose (h : Pk K Γ H F p q a f []) {b : Addr} (hb : b ∈ f ∨ b ∈ F q) {o : HO} (e : H b = some o) : Own.cut (upd H a (.lst us')) (Oth (pk F p q a []) []) b = some o := by
  have nab : b ≠ a := fun z => by
    subst z
    rcases hb with y | y
    · have := h.ndp
      rw [h.hp] at this
      exact (List.nodup_cons.mp this).1 y
    · exact h.hpq (h.dj p q b (by rw [h.hp]; exact List.mem_cons_self) y)
  refine cut_some.mpr ⟨fun ⟨j, _, z⟩ => ?_, by rw [upd_ne nab]; exact e⟩
  by_cases h1 : j = p
  · subst h1
    rw [pk_p h.hpq] at z
    rcases List.mem_cons.mp z with y | y
    · exact nab y
    · cases y
  · by_cases h2 : j = q
    · subst h2; rw [pk_q] at z; cases z
    · rw [pk_ne h1 h2] at z
      rcases hb with y | y
      · exact h1 (h.dj j p b z (by rw [h.hp]; exact List.mem_cons_of_mem _ y))
      · exact h2 (h.dj j q b z y)
/-- how the items change: one comes in -/
inductive Put1 (xs : List D) (us : List V) (d : D) (v : V) : List D → List V → Prop
  | snoc : Put1 xs us d v (xs ++ [d]) (us ++ [v])
  | set (k : Nat) : Put1 xs us d v (xs.set k d) (us.set k v)
theorem Put1.reps (h : Put1 xs us d v xs' us') (r : Reps K R xs us) (r' : Rep K R d v) : Reps K R xs' us' := by
  cases h with
  | snoc => exact Reps.append r ⟨v, [], rfl, r', rfl⟩
  | set k => exact Reps.set k r' r
theorem Put1.oreps (h : Put1 xs us d v xs' us') (r : OReps K H R l xs us f) (r' : ORep K H R l d v g) (n1 : f.Nodup) (n2 : g.Nodup) (n3 : ∀ b ∈ f, b ∉ g) : ∃ f', OReps K H R l xs' us' f' ∧ (∀ b ∈ f', b ∈ f ∨ b ∈ g) ∧ f'.Nodup := by
  cases h with
  | snoc => exact ⟨f ++ g, OReps.snoc r r', fun b hb => List.mem_append.mp hb, List.nodup_append.mpr ⟨n1, n2, fun x hx y hy z => n3 x hx (by rw [z]; exact hy)⟩⟩
  | set k =>
    obtain ⟨f', q1, q2, q3⟩ := OReps.set k r r'
    exact ⟨f', q1, q2, q3 n1 n2 n3⟩
/-- A VALUE IS PUT INTO AN OWNED LIST: p its place, q the value's; b: the list's level stays (8), or falls to 1 -/
theorem put_in (b : Bool) (G : Gd K Γ σ H F m) (hpq : p ≠ q) (hl0 : 1 ≤ l) (A : At K N H F p ⟨l, [], .lst xs⟩ (.ref a)) (B : At K N H F q w v) (hw : w.rs = []) (hb : b = true → deep w = true ∧ l = 8) :
    ∃ us, H a = some (.lst us) ∧ us.length = xs.length ∧ ∀ xs' us', Put1 xs us w.d v xs' us' → ∃ f f', Pk K Γ H F p q a f f' ∧ At K N (upd H a (.lst us')) (pk F p q a f') p ⟨if b then 8 else 1, [], .lst xs'⟩ (.ref a) := by
  obtain ⟨l', rfl⟩ : ∃ l', l = l' + 1 := ⟨l - 1, by omega⟩
  obtain ⟨a', us, f, ea, ha, ef, r⟩ := A.rep
  cases ea
  refine ⟨us, ha, r.len, fun xs' us' pt => ?_⟩
  have nf : f.Nodup := by
    have := G.nd p
    rw [ef] at this
    exact (List.nodup_cons.mp this).2
  cases b with
  | true =>
    obtain ⟨hd, e8⟩ := hb rfl
    have el : l' = 7 := by omega
    subst el
    have rq : ∃ g, ORep K H (cut H (Oth F [])) 8 w.d v g ∧ g.Nodup ∧ ∀ b ∈ g, b ∈ F q := by
      by_cases im : imm w.d = true
      · exact ⟨[], Rep.own im (Rep.imm_cut (fun a z => G.othObj z) im B.read), List.nodup_nil, (fun _ z => nomatch z)⟩
      · have q := hd
        unfold deep at q
        rw [Bool.or_eq_true, Bool.and_eq_true, decide_eq_true_eq, List.isEmpty_iff] at q
        rcases q with q | q
        · exact absurd q im
        · have rp := B.rep
          rw [q.2, q.1] at rp
          exact ⟨_, rp, G.nd _, fun b hb => hb⟩
    obtain ⟨g, g1, g2, g3⟩ := rq
    obtain ⟨f', q1, q2, q3⟩ := pt.oreps (l := 8) r g1 nf g2 fun b hb z => hpq (G.dj p q b (by rw [ef]; exact List.mem_cons_of_mem _ hb) (g3 b z))
    have P : Pk K Γ H F p q a f f' := ⟨ef, hpq, q3, fun b hb => (q2 b hb).imp id (g3 b), G.dj, G.nd p⟩
    exact ⟨f, f', P, P.deep ⟨us, ha⟩ q1⟩
  | false =>
    have P : Pk K Γ H F p q a f [] := ⟨ef, hpq, List.nodup_nil, (fun _ z => nomatch z), G.dj, G.nd p⟩
    refine ⟨f, [], P, P.flat (pt.reps (OReps.rep P.cut (fun b hb o e => P.loose (.inl hb) e) r) ?_)⟩
    have rp := B.rep
    rw [hw] at rp
    exact ORep.rep P.cut (fun b hb o e => P.loose (.inr hb) e) rp
/-! ### dicts -/
theorem Pk.deepD (h : Pk K Γ H F p q a f f') {ks : List (List Key)} (r : OReps K H (Own.cut H (Oth F [])) 8 xs' us' f') : At K N (upd H a (dHO false ks us')) (pk F p q a f') p ⟨8, [], .dct false ks xs'⟩ (.ref a) := by
  refine ⟨fun _ z => (nomatch z), ?_⟩
  rw [pk_p h.hpq]
  exact ⟨a, us', f', rfl, upd_same, rfl, OReps.mono h.cut (fun b hb o e => by rw [upd_ne (fun z => h.na (by rw [← z]; exact hb))]; exact e) r⟩
theorem deep_own (G : Gd K Γ σ H F m) (B : At K N H F q w v) (hd : deep w = true) : ∃ g, ORep K H (cut H (Oth F [])) 8 w.d v g ∧ g.Nodup ∧ ∀ b ∈ g, b ∈ F q := by
  by_cases im : imm w.d = true
  · exact ⟨[], Rep.own im (Rep.imm_cut (fun a z => G.othObj z) im B.read), List.nodup_nil, (fun _ z => nomatch z)⟩
  · have q := hd
    unfold deep at q
    rw [Bool.or_eq_true, Bool.and_eq_true, decide_eq_true_eq, List.isEmpty_iff] at q
    rcases q with q | q
    · exact absurd q im
    · have rp := B.rep
      rw [q.2, q.1] at rp
      exact ⟨_, rp, G.nd _, fun b hb => hb⟩
/-- a value is put into an owned dict -/
theorem put_inD (G : Gd K Γ σ H F m) (hpq : p ≠ q) {ks : List (List Key)} (A : At K N H F p ⟨8, [], .dct false ks xs⟩ (.ref a)) (B : At K N H F q w v) (hd : deep w = true) :
    ∃ us, H a = some (dHO false ks us) ∧ us.length = xs.length ∧ ∀ ks' xs' us', Put1 xs us w.d v xs' us' → ∃ f f', Pk K Γ H F p q a f f' ∧ At K N (upd H a (dHO false ks' us')) (pk F p q a f') p ⟨8, [], .dct false ks' xs'⟩ (.ref a) := by
  obtain ⟨a', us, f, ea, ha, ef, r⟩ := A.rep
  cases ea
  refine ⟨us, ha, r.len, fun ks' xs' us' pt => ?_⟩
  have nf : f.Nodup := by
    have := G.nd p
    rw [ef] at this
    exact (List.nodup_cons.mp this).2
  obtain ⟨g, g1, g2, g3⟩ := deep_own G B hd
  obtain ⟨f', q1, q2, q3⟩ := pt.oreps (l := 8) r g1 nf g2 fun b hb z => hpq (G.dj p q b (by rw [ef]; exact List.mem_cons_of_mem _ hb) (g3 b z))
  have P : Pk K Γ H F p q a f f' := ⟨ef, hpq, q3, fun b hb => (q2 b hb).imp id (g3 b), G.dj, G.nd p⟩
  exact ⟨f, f', P, P.deepD q1⟩
theorem put_at : ∀ (ks : List Key) (us : List V) (k : Key) (v : V) (i : Nat), ks.Nodup → ks.length = us.length → (ks.findIdx? fun j => decide (j = k)) = some i →
    ks.zip (us.set i v) = (ks.zip us).map (fun kv => if kv.1 = k then (kv.1, v) else kv) ∧ ((ks.zip us).any fun kv => decide (kv.1 = k)) = true
  | [], _, _, _, _, _, _, e => by simp at e
  | j :: ks, [], _, _, _, _, e, _ => by cases e
  | j :: ks, u :: us, k, v, i, nd, hl, e => by
    have nd' := List.nodup_cons.mp nd
    rw [List.findIdx?_cons] at e
    by_cases h : j = k
    · subst h
      simp only [decide_true, if_true, Option.some.injEq] at e
      subst e
      refine ⟨?_, by simp⟩
      have : ∀ (ks : List Key) (us : List V), j ∉ ks → (ks.zip us).map (fun kv => if kv.1 = j then (kv.1, v) else kv) = ks.zip us := by
        intro ks us hn
        refine (List.map_congr_left (fun kv hkv => ?_)).trans (List.map_id _)
        rw [if_neg]
        · rfl
        · intro z
          exact hn (by rw [← z]; exact (List.of_mem_zip hkv).1)
      show (j, v) :: ks.zip us = (if j = j then (j, v) else (j, u)) :: (ks.zip us).map _
      rw [if_pos rfl, this ks us nd'.1]
    · rw [if_neg (by simpa using h)] at e
      cases e2 : ks.findIdx? (fun j => decide (j = k)) with
      | none => rw [e2] at e; cases e
      | some i' =>
        rw [e2] at e
        cases e
        obtain ⟨q1, q2⟩ := put_at ks us k v i' nd'.2 (by simpa using hl) e2
        refine ⟨?_, ?_⟩
        · show (j, u) :: ks.zip (us.set i' v) = (if j = k then (j, v) else (j, u)) :: (ks.zip us).map _
          rw [if_neg h, q1]
        · rw [List.zip_cons_cons, List.any_cons, q2, Bool.or_true]
theorem put_rel {ks : List (List Key)} {us : List V} {ky : Key} (hw : dwf ks xs = true) (hl : us.length = xs.length) :
    ∃ us', Put1 xs us d v (dput ks xs ky d).2 us' ∧ dHO false (dput ks xs ky d).1 us' = .dK (putK ((ks.map k1).zip us) ky v) := by
  unfold dwf at hw
  simp only [Bool.and_eq_true, decide_eq_true_eq] at hw
  obtain ⟨⟨h1, h2⟩, _⟩ := hw
  unfold dput
  cases e : keyIx ks ky with
  | some i =>
    obtain ⟨q1, q2⟩ := put_at (ks.map k1) us ky v i h2 (by rw [List.length_map]; omega) e
    refine ⟨us.set i v, .set i, ?_⟩
    unfold putK
    rw [if_pos q2, ← q1]
    rfl
  | none =>
    refine ⟨us ++ [v], .snoc, ?_⟩
    rw [putK_new]
    · show HO.dK (((ks ++ [[ky]]).map k1).zip (us ++ [v])) = _
      rw [List.map_append, List.zip_append (by rw [List.length_map]; omega)]
      rfl
    · unfold keyIx at e
      rw [List.findIdx?_eq_none_iff] at e
      unfold valV
      rw [Option.map_eq_none_iff, List.find?_eq_none]
      intro kv hkv
      have := e _ (List.of_mem_zip hkv).1
      simpa using this
end
end Own

end
section
set_option maxHeartbeats 1000000
namespace Own
open PySem PySem.Spec L2

section
variable {K : PySem.W.Frag} {ER : ERel} {C : Ctx} {Wx : WX} {N n m k i p q : Nat} {Γ Γ1 Γ2 Γ' : Gm} {σ σ' : L2.St} {H H' H0 H1 H2 R : Hp} {F F' F0 F1 F2 : Fpt} {w w1 w2 : W} {v x : V} {d : D} {vs us us' : List V} {ds xs xs' : List D} {rs rs' : List Nat} {M M1 M2 : Nat → Prop} {l : Nat} {e a b : E} {J : It}
/-- data that is looked at through the slots rs -/
structure Vw (K : PySem.W.Frag) (N : Nat) (H : Hp) (F : Fpt) (rs : List Nat) (d : D) (v : V) : Prop where
  lt : ∀ r ∈ rs, r < N
  rep : Rep K (cut H (Oth F rs)) d v
theorem Dl.view (D2 : Dl N M H F n H2 F2) (hn : ∀ r ∈ rs, ¬ M r) : Sub (cut H (Oth F rs)) (cut H2 (Oth F2 rs)) := cut_sub fun a o no e => ⟨D2.keep a o e fun m hm hM z => no ⟨m, fun q => hn m q hM, z⟩, fun ⟨j, hj, z⟩ => by
  have fin : ((∃ m, m < N ∧ M m ∧ a ∈ F m) ∨ H a = Option.none) → False := fun q => by
    rcases q with ⟨m, _, a2, a3⟩ | q
    · exact no ⟨m, fun q => hn m q a2, a3⟩
    · rw [e] at q; cases q
  by_cases hjN : j < N
  · by_cases hM : M j
    · exact fin (D2.new j a (.inl ⟨hjN, hM⟩) z)
    · exact no ⟨j, hj, D2.old j a hjN hM z⟩
  · by_cases hjn : j < n
    · rw [D2.frm j (by omega) hjn] at z
      exact no ⟨j, hj, z⟩
    · exact fin (D2.new j a (.inr (by omega)) z)⟩
theorem Vw.keep (V : Vw K N H F rs d v) (D2 : Dl N M H F n H2 F2) (hn : ∀ r ∈ rs, ¬ M r) : Vw K N H2 F2 rs d v := ⟨V.lt, Rep.mono (D2.view hn) V.rep⟩
theorem Vw.shr (V : Vw K N H F rs d v) (s : Shr N F F') : Vw K N H F' rs d v := ⟨V.lt, Rep.mono (cut_sub fun a o no e => ⟨e, fun z => no (s.oth z)⟩) V.rep⟩
theorem At.vw (A : At K N H F k w v) (hk : n ≤ k) (dj : ∀ i j a, a ∈ F i → a ∈ F j → i = j) : Vw K N H (low n F) w.rs w.d v := ⟨A.rs, A.fall hk dj⟩
theorem Vw.more (V : Vw K N H F rs d v) (h : ∀ r ∈ rs, r ∈ rs') (h' : ∀ r ∈ rs', r < N) : Vw K N H F rs' d v := ⟨h', Rep.mono (cut_sub fun a o no e => ⟨e, fun ⟨j, hj, z⟩ => no ⟨j, fun q => hj (h j q), z⟩⟩) V.rep⟩
/-- what an iterator has to walk -/
inductive Wk (K : PySem.W.Frag) (N : Nat) (H : Hp) (F : Fpt) (rs : List Nat) : It → List D → Prop
  | lst {a : Addr} {ds : List D} : Vw K N H F rs (.lst ds) (.ref a) → Wk K N H F rs (Itl K a) ds
  | tup {a : Addr} {ds : List D} : Vw K N H F rs (.tup ds) (.ref a) → Wk K N H F rs (Itt K a) ds
  | rng {lo : Int} {m : Nat} : rs = [] → Wk K N H F rs (Itr lo m) (rngD lo m)
  | enum {a : Addr} {ds : List D} : Vw K N H F rs (.lst ds) (.ref a) → Wk K N H F rs (Ite K a) (enumD 0 ds)
  | zip {a b : Addr} {xs ys : List D} : Vw K N H F rs (.lst xs) (.ref a) → Vw K N H F rs (.lst ys) (.ref b) → Wk K N H F rs (Itz K a b) (zipD xs ys)
  | zip3 {a b c : Addr} {xs ys zs : List D} : Vw K N H F rs (.lst xs) (.ref a) → Vw K N H F rs (.lst ys) (.ref b) → Vw K N H F rs (.lst zs) (.ref c) → Wk K N H F rs (Itz3 K a b c) (zipD3 xs ys zs)
theorem Wk.keep (h : Wk K N H F rs J ds) (D2 : Dl N M H F n H2 F2) (hn : ∀ r ∈ rs, ¬ M r) : Wk K N H2 F2 rs J ds := by
  cases h with
  | lst V => exact .lst (V.keep D2 hn)
  | tup V => exact .tup (V.keep D2 hn)
  | rng e => exact .rng e
  | enum V => exact .enum (V.keep D2 hn)
  | zip V V' => exact .zip (V.keep D2 hn) (V'.keep D2 hn)
  | zip3 V V' V'' => exact .zip3 (V.keep D2 hn) (V'.keep D2 hn) (V''.keep D2 hn)
theorem Wk.shr (h : Wk K N H F rs J ds) (s : Shr N F F') : Wk K N H F' rs J ds := by
  cases h with
  | lst V => exact .lst (V.shr s)
  | tup V => exact .tup (V.shr s)
  | rng e => exact .rng e
  | enum V => exact .enum (V.shr s)
  | zip V V' => exact .zip (V.shr s) (V'.shr s)
  | zip3 V V' V'' => exact .zip3 (V.shr s) (V'.shr s) (V''.shr s)
theorem Wk.lt (h : Wk K N H F rs J ds) : ∀ r ∈ rs, r < N := by
  cases h with
  | lst V => exact V.lt
  | tup V => exact V.lt
  | rng e => intro r hr; rw [e] at hr; cases hr
  | enum V => exact V.lt
  | zip V V' => exact V.lt
  | zip3 V V' V'' => exact V.lt
theorem enumD_get : ∀ {xs : List D} {k i : Nat}, (enumD k xs)[i]? = (xs[i]?).map fun d => .tup [.int ((k + i : Nat) : Int), d]
  | [], _, _ => rfl
  | x :: xs, k, 0 => rfl
  | x :: xs, k, i + 1 => by
    show (enumD (k + 1) xs)[i]? = (xs[i]?).map _
    rw [enumD_get, show k + 1 + i = k + (i + 1) by omega]
theorem enumD_len : ∀ {xs : List D} {k : Nat}, (enumD k xs).length = xs.length
  | [], _ => rfl
  | x :: xs, k => congrArg (· + 1) (enumD_len (xs := xs))
theorem zipD_get : ∀ {xs ys : List D} {i : Nat} {d : D}, (zipD xs ys)[i]? = some d → ∃ x y, xs[i]? = some x ∧ ys[i]? = some y ∧ d = .tup [x, y]
  | [], _, _, _, h => by simp [zipD] at h
  | _ :: _, [], _, _, h => by simp [zipD] at h
  | x :: xs, y :: ys, 0, d, h => ⟨x, y, rfl, rfl, by simpa [zipD] using h.symm⟩
  | x :: xs, y :: ys, i + 1, d, h => zipD_get (xs := xs) (ys := ys) (i := i) (by simpa [zipD] using h)
theorem zipD_len : ∀ {xs ys : List D}, (zipD xs ys).length = min xs.length ys.length
  | [], _ => by simp [zipD]
  | _ :: _, [] => by simp [zipD]
  | x :: xs, y :: ys => by
    show (zipD xs ys).length + 1 = min (xs.length + 1) (ys.length + 1)
    rw [zipD_len]; omega
theorem zipD3_get : ∀ {xs ys zs : List D} {i : Nat} {d : D}, (zipD3 xs ys zs)[i]? = some d → ∃ x y z, xs[i]? = some x ∧ ys[i]? = some y ∧ zs[i]? = some z ∧ d = .tup [x, y, z]
  | [], _, _, _, _, h => by simp [zipD3] at h
  | _ :: _, [], _, _, _, h => by simp [zipD3] at h
  | _ :: _, _ :: _, [], _, _, h => by simp [zipD3] at h
  | x :: xs, y :: ys, z :: zs, 0, d, h => ⟨x, y, z, rfl, rfl, rfl, by simpa [zipD3] using h.symm⟩
  | x :: xs, y :: ys, z :: zs, i + 1, d, h => zipD3_get (xs := xs) (ys := ys) (zs := zs) (i := i) (by simpa [zipD3] using h)
theorem zipD3_len : ∀ {xs ys zs : List D}, (zipD3 xs ys zs).length = min xs.length (min ys.length zs.length)
  | [], _, _ => by simp [zipD3]
  | _ :: _, [], _ => by simp [zipD3]
  | _ :: _, _ :: _, [] => by simp [zipD3]
  | x :: xs, y :: ys, z :: zs => by
    show (zipD3 xs ys zs).length + 1 = min (xs.length + 1) (min (ys.length + 1) (zs.length + 1))
    rw [zipD3_len]; omega
theorem rngD_get : ∀ {m : Nat} {lo : Int} {i : Nat} {d : D}, (rngD lo m)[i]? = some d → i < m ∧ d = .int (lo + i)
  | 0, _, _, _, h => by simp [rngD] at h
  | m + 1, lo, 0, d, h => ⟨by omega, by simpa [rngD] using h.symm⟩
  | m + 1, lo, i + 1, d, h => by
    obtain ⟨h1, h2⟩ := rngD_get (m := m) (lo := lo + 1) (i := i) (by simpa [rngD] using h)
    exact ⟨by omega, by rw [h2]; congr 1; omega⟩
theorem rngD_len : ∀ {m : Nat} {lo : Int}, (rngD lo m).length = m
  | 0, _ => rfl
  | m + 1, lo => congrArg (· + 1) (rngD_len (m := m))
theorem Vw.lstL {a : Addr} (V : Vw K N H F rs (.lst ds) (.ref a)) : ∃ vs, H a = some (.lst vs) ∧ Reps K (cut H (Oth F rs)) ds vs := by
  obtain ⟨a', vs, e, h, r⟩ := V.rep
  cases e
  exact ⟨vs, (cut_some.mp h).2, r⟩
theorem Vw.tupL {a : Addr} (V : Vw K N H F rs (.tup ds) (.ref a)) : ∃ vs, SqT K H a vs ∧ Reps K (cut H (Oth F rs)) ds vs := by
  obtain ⟨a', vs, e, h, r⟩ := V.rep
  cases e
  exact ⟨vs, cut_le.t h, r⟩
theorem Wk.stop (h : Wk K N H F rs J ds) (he : i = ds.length) : J.stop i H := by
  have hi : ds.length ≤ i := by omega
  cases h with
  | lst V =>
    obtain ⟨vs, h1, h2⟩ := V.lstL
    exact ⟨vs, .of h1, by rw [h2.len]; exact hi⟩
  | tup V =>
    obtain ⟨vs, h1, h2⟩ := V.tupL
    exact ⟨vs, h1, by rw [h2.len]; exact hi⟩
  | rng e => rw [rngD_len] at hi; exact hi
  | enum V =>
    obtain ⟨vs, h1, h2⟩ := V.lstL
    rw [enumD_len] at hi
    exact ⟨vs, .of h1, by rw [h2.len]; exact hi⟩
  | zip V V' =>
    obtain ⟨vs, h1, h2⟩ := V.lstL
    obtain ⟨us, h3, h4⟩ := V'.lstL
    rw [zipD_len] at hi
    exact ⟨vs, us, .of h1, .of h3, by rw [h2.len, h4.len]; omega⟩
  | zip3 V V' V'' =>
    obtain ⟨vs, h1, h2⟩ := V.lstL
    obtain ⟨us, h3, h4⟩ := V'.lstL
    obtain ⟨ts, h5, h6⟩ := V''.lstL
    rw [zipD3_len] at he
    have e1 := h2.len
    have e2 := h4.len
    have e3 := h6.len
    exact ⟨vs, us, ts, .of h1, .of h3, .of h5, by omega, by omega, by omega, by omega⟩
/-- a turn -/
theorem Wk.go (G : Gd K Γ σ H F m) (h : Wk K Γ.length H F rs J ds) (e : ds[i]? = some d) : J.go i H ∧ ∀ x H', J.yld i H x H' → Same H H' ∧ Vw K Γ.length H' F rs d x := by
  have new : ∀ {T : Addr} {us : List V} {es : List D}, H T = none → Reps K (cut H (Oth F rs)) es us → (∀ r ∈ rs, r < Γ.length) → Same H (upd H T (.tup us)) ∧ Vw K Γ.length (upd H T (.tup us)) F rs (.tup es) (.ref T) := fun {T us es} hT r hr => by
    have s : Same H (upd H T (.tup us)) := fun a o e => by rw [upd_ne (ne_of_none e hT)]; exact e
    refine ⟨s, hr, T, us, rfl, .of (cut_some.mpr ⟨fun z => ?_, upd_same⟩), Reps.mono (cut_sub fun a o no e => ⟨s _ _ e, no⟩) r⟩
    obtain ⟨ys, q⟩ := G.othObj z
    rw [hT] at q; cases q
  cases h with
  | lst V =>
    obtain ⟨vs, h1, h2⟩ := V.lstL
    obtain ⟨x, hx, rx⟩ := h2.get e
    refine ⟨⟨vs, x, .of h1, hx⟩, fun y H' ⟨e1, e2⟩ => ?_⟩
    subst e1
    have := e2 vs (.of h1)
    rw [hx] at this
    cases this
    exact ⟨Same.refl _, V.lt, rx⟩
  | tup V =>
    obtain ⟨vs, h1, h2⟩ := V.tupL
    obtain ⟨x, hx, rx⟩ := h2.get e
    refine ⟨⟨vs, x, h1, hx⟩, fun y H' ⟨e1, e2⟩ => ?_⟩
    subst e1
    have := e2 vs h1
    rw [hx] at this
    cases this
    exact ⟨Same.refl _, V.lt, rx⟩
  | rng er =>
    obtain ⟨h1, h2⟩ := rngD_get e
    refine ⟨h1, fun y H' ⟨e1, e2⟩ => ?_⟩
    subst e1
    rw [h2, e2]
    exact ⟨Same.refl _, (fun r hr => by rw [er] at hr; cases hr), rfl⟩
  | enum V =>
    obtain ⟨vs, h1, h2⟩ := V.lstL
    rw [enumD_get] at e
    obtain ⟨z, ez, ed⟩ := Option.map_eq_some_iff.mp e
    obtain ⟨x, hx, rx⟩ := h2.get ez
    refine ⟨⟨vs, x, .of h1, hx⟩, fun y H' ⟨T, x', e1, e2, e3, e4⟩ => ?_⟩
    have := e4 vs (.of h1)
    rw [hx] at this
    cases this
    rw [e3, e1, ← ed, Nat.zero_add]
    exact new e2 ⟨_, _, rfl, rfl, _, _, rfl, rx, rfl⟩ V.lt
  | zip V V' =>
    obtain ⟨vs, h1, h2⟩ := V.lstL
    obtain ⟨us, h3, h4⟩ := V'.lstL
    obtain ⟨z, z', ez, ez', ed⟩ := zipD_get e
    obtain ⟨x, hx, rx⟩ := h2.get ez
    obtain ⟨y, hy, ry⟩ := h4.get ez'
    refine ⟨⟨vs, us, x, y, .of h1, .of h3, hx, hy⟩, fun t H' ⟨T, x', y', e1, e2, e3, e4, e5⟩ => ?_⟩
    have q1 := e4 vs (.of h1)
    rw [hx] at q1
    cases q1
    have q2 := e5 us (.of h3)
    rw [hy] at q2
    cases q2
    rw [e3, e1, ed]
    exact new e2 ⟨_, _, rfl, rx, _, _, rfl, ry, rfl⟩ V.lt
  | zip3 V V' V'' =>
    obtain ⟨vs, h1, h2⟩ := V.lstL
    obtain ⟨us, h3, h4⟩ := V'.lstL
    obtain ⟨ts, h5, h6⟩ := V''.lstL
    obtain ⟨z, z', z'', ez, ez', ez'', ed⟩ := zipD3_get e
    obtain ⟨x, hx, rx⟩ := h2.get ez
    obtain ⟨y, hy, ry⟩ := h4.get ez'
    obtain ⟨u, hu, ru⟩ := h6.get ez''
    refine ⟨⟨vs, us, ts, x, y, u, .of h1, .of h3, .of h5, hx, hy, hu⟩, fun t H' ⟨T, x', y', u', e1, e2, e3, e4, e5, e6⟩ => ?_⟩
    have q1 := e4 vs (.of h1)
    rw [hx] at q1
    cases q1
    have q2 := e5 us (.of h3)
    rw [hy] at q2
    cases q2
    have q3 := e6 ts (.of h5)
    rw [hu] at q3
    cases q3
    rw [e3, e1, ed]
    exact new e2 ⟨_, _, rfl, rx, _, _, rfl, ry, _, _, rfl, ru, rfl⟩ V.lt

/-! ### targets -/
def gNs : List Nat → TGs
  | [] => gNil
  | i :: is => gCons (gName i) (gNs is)
def gTg (K : PySem.W.Frag) : Tg → TG
  | .one i => gName i
  | .tup is => fun v σ H Q => gTup K is.length (gNs is) v σ H Q ∨ gUnl K is.length (gNs is) v σ H Q
theorem set_ge {α : Type} {l : List α} {i : Nat} {x : α} (h : l.length ≤ i) : l.set i x = l := List.set_eq_of_length_le h
theorem Gd.let1 (G : Gd K Γ σ H F n) (V : Vw K Γ.length H F rs d x) (i : Nat) : ∃ F', Gd K (Γ.set i (some (itm rs d))) (σ.set i (some x)) H F' n ∧ ∀ M : Nat → Prop, M i → Dl Γ.length M H F n H F' := by
  by_cases hi : i < Γ.length
  · have B : Fin K Γ σ H F n (itm rs d) x H (low n F) := by
      unfold itm
      split
      · rename_i im
        exact fin_imm G G.top im (Rep.mono cut_le V.rep)
      · exact fin_view G G.top V.lt V.rep
    have q := B.gd.store B.at_ G.top hi
    exact ⟨_, q, fun M hM => ((Dl.refl G.top G.off).temps G.top B.nw.same B.nw.lo B.nw.fr).store G.top hi hM⟩
  · rw [set_ge (by omega), set_ge (by rw [G.len]; omega)]
    exact ⟨F, G, fun M _ => Dl.refl G.top G.off⟩
theorem wipe_get : ∀ {vs : List Nat} {σ : L2.St} {j : Nat}, (wipe σ vs)[j]? = if j ∈ vs then (σ[j]?).map (fun _ => none) else σ[j]?
  | [], _, _ => by simp [wipe]
  | v :: vs, σ, j => by
    unfold wipe
    by_cases h : v = j
    · subst h
      by_cases hl : v < σ.length
      · rw [List.getElem?_set_self (by rw [wipe_length]; exact hl), if_pos (List.mem_cons_self), List.getElem?_eq_getElem hl]; rfl
      · rw [List.getElem?_eq_none (by rw [List.length_set, wipe_length]; omega), List.getElem?_eq_none (by omega)]; simp
    · rw [List.getElem?_set_ne h, wipe_get]
      by_cases h2 : j ∈ vs
      · rw [if_pos h2, if_pos (List.mem_cons_of_mem _ h2)]
      · rw [if_neg h2, if_neg (fun z => (List.mem_cons.mp z).elim (fun z => h z.symm) h2)]
theorem wipe_set {vs : List Nat} {i : Nat} {x : Option V} (h : i ∈ vs) : wipe (σ.set i x) vs = wipe σ vs := by
  apply List.ext_getElem?
  intro j
  rw [wipe_get, wipe_get]
  by_cases q : j ∈ vs
  · rw [if_pos q, if_pos q]
    by_cases z : i = j
    · subst z
      by_cases hl : i < σ.length
      · rw [List.getElem?_set_self hl, List.getElem?_eq_getElem hl]; rfl
      · rw [set_ge (by omega)]
    · rw [List.getElem?_set_ne z]
  · rw [if_neg q, if_neg q, List.getElem?_set_ne (fun z => q (by rw [← z]; exact h))]
theorem wipe_wipe {vs : List Nat} : wipe (wipe σ vs) vs = wipe σ vs := by
  apply List.ext_getElem?
  intro j
  rw [wipe_get, wipe_get]
  by_cases q : j ∈ vs
  · rw [if_pos q, if_pos q]; cases σ[j]? <;> rfl
  · rw [if_neg q, if_neg q]
/-- what a store at a target leaves -/
structure Tgd (K : PySem.W.Frag) (Γ' : Gm) (N : Nat) (σ : L2.St) (H : Hp) (F : Fpt) (n : Nat) (is : List Nat) (σ' : L2.St) (F' : Fpt) : Prop where
  gd : Gd K Γ' σ' H F' n
  dl : ∀ M : Nat → Prop, (∀ i ∈ is, M i) → Dl N M H F n H F'
  wp : ∀ vs : List Nat, (∀ i ∈ is, i ∈ vs) → wipe σ' vs = wipe σ vs
theorem setTs_ok {Q : L2.St → Hp → Prop} : ∀ {is : List Nat} {ds : List D} {us : List V} {Γ : Gm} {σ : L2.St} {F : Fpt}, setTs is ds rs Γ = some Γ' → Gd K Γ σ H F n → (∀ r ∈ rs, r < Γ.length) → Reps K (cut H (Oth F rs)) ds us → (∀ i ∈ is, i ∉ rs) →
    (∀ σ' F', Tgd K Γ' Γ.length σ H F n is σ' F' → Q σ' H) → is.length = us.length ∧ gNs is us σ H Q
  | [], [], us, Γ, σ, F, e, G, hr, r, hn, h => by
    cases e
    have eu : us = [] := r
    subst eu
    exact ⟨rfl, rfl, h σ F ⟨G, fun M _ => Dl.refl G.top G.off, fun _ _ => rfl⟩⟩
  | i :: is, d :: ds, us, Γ, σ, F, e, G, hr, r, hn, h => by
    obtain ⟨v, us', eu, r1, r2⟩ := r
    subst eu
    obtain ⟨F1, G1, D1⟩ := G.let1 ⟨hr, r1⟩ i
    have hl : (Γ.set i (some (itm rs d))).length = Γ.length := List.length_set ..
    have q := setTs_ok (is := is) (ds := ds) (us := us') (Q := Q) e G1 (by rw [hl]; exact hr) (Reps.mono (Dl.view (M := fun j => j = i) (D1 _ rfl) fun r hr z => hn i List.mem_cons_self (by rw [← z]; exact hr)) r2) (fun j hj => hn j (List.mem_cons_of_mem _ hj)) fun σ' F' T => h σ' F' (by
      refine ⟨T.gd, fun M hM => ?_, fun vs hv => (T.wp vs fun j hj => hv j (List.mem_cons_of_mem _ hj)).trans (wipe_set (hv i List.mem_cons_self))⟩
      have d2 := T.dl M fun j hj => hM j (List.mem_cons_of_mem _ hj)
      rw [hl] at d2
      exact ((D1 M (hM i List.mem_cons_self)).trans d2 G.top (Nat.le_refl n)).weak fun m _ z => z.elim id id)
    exact ⟨congrArg (· + 1) q.1, v, us', rfl, q.2⟩
  | [], _ :: _, _, _, _, _, e, _, _, _, _, _ => by cases e
  | _ :: _, [], _, _, _, _, e, _, _, _, _, _ => by cases e
theorem setTg_ok {Q : L2.St → Hp → Prop} {tg : Tg} (e : setTg tg d rs Γ = some Γ') (G : Gd K Γ σ H F n) (V : Vw K Γ.length H F rs d x) (hn : ∀ i ∈ tg.is, i ∉ rs) (h : ∀ σ' F', Tgd K Γ' Γ.length σ H F n tg.is σ' F' → Q σ' H) : gTg K tg x σ H Q := by
  cases tg with
  | one i =>
    cases e
    obtain ⟨F1, G1, D1⟩ := G.let1 V i
    exact h _ F1 ⟨G1, fun M hM => D1 M (hM i (by show i ∈ [i]; simp)), fun vs hv => wipe_set (hv i (by show i ∈ [i]; simp))⟩
  | tup is =>
    cases d with
    | tup ds =>
      obtain ⟨a, us, ev, q, r⟩ := V.rep
      obtain ⟨l1, q1⟩ := setTs_ok (Q := Q) e G V.lt r hn h
      exact .inl ⟨a, us, ev, cut_le.t q, l1.symm, q1⟩
    | lst ds =>
      obtain ⟨a, us, ev, q, r⟩ := V.rep
      obtain ⟨l1, q1⟩ := setTs_ok (Q := Q) e G V.lt r hn h
      exact .inr ⟨a, us, ev, .of (cut_some.mp q).2, l1.symm, q1⟩
    | _ => cases e

/-! ### sources -/
def sPost (K : PySem.W.Frag) (ER : ERel) (Wx : WX) (N : Nat) (M : Nat → Prop) (σ : L2.St) (H : Hp) (F : Fpt) (n : Nat) (R : It → Hp → Prop) : Res (List D × List Nat × Gm) → Prop
  | .ok (ds, rs, Γ') => ∀ J H' F', Gd K Γ' σ H' F' n → Wk K N H' F' rs J ds → Dl N M H F n H' F' → R J H'
  | .exc c as Γ' => ExcP K ER Wx N M σ H F n c as Γ'
  | .stuck => False
def tSrc (K : PySem.W.Frag) (ER : ERel) (C : Ctx) (Wx : WX) (src : Src) : TI := fun σ H R => ∃ Γ F n, Gd K Γ σ H F n ∧ sPost K ER Wx Γ.length (mem (mutSrc src)) σ H F n R (evSrc C src Γ)
def iSeq (K : PySem.W.Frag) (tl : TE) : TI := fun σ H R => tl σ H fun x H1 => ∃ a, x = .ref a ∧ (((∃ xs, SqL K H1 a xs) ∧ R (Itl K a) H1) ∨ ((∃ xs, SqT K H1 a xs) ∧ R (Itt K a) H1))
/-- first e, then k -/
theorem tE.seqS {R : It → Hp → Prop} {f : W × Gm → Res (List D × List Nat × Gm)} {Q' : VK} (G : Gd K Γ σ H F n) (hM : ∀ m ∈ mutE e, M m) (P0 : sPost K ER Wx Γ.length M σ H F n R ((ev C e Γ).bind f))
    (h : ∀ w Γ1 v H1 F1, Γ1.length = Γ.length → sPost K ER Wx Γ.length M σ H F n R (f (w, Γ1)) → Gd K Γ1 σ H1 F1 (n + 1) → At K Γ.length H1 F1 n w v → Dl Γ.length M H F n H1 F1 → Q' v H1) : tE K ER C Wx e σ H Q' := by
  refine ⟨Γ, F, n, G, ?_⟩
  cases he : ev C e Γ with
  | stuck => rw [he] at P0; exact P0
  | exc c as Γ' => rw [he] at P0; exact ExcP.weak P0 hM
  | ok p =>
    obtain ⟨w, Γ1⟩ := p
    rw [he, bind_ok] at P0
    intro v H1 F1 G1 A1 D1
    exact h w Γ1 v H1 F1 (G.same G1) P0 G1 A1 (D1.weak fun m _ z => hM m z)
/-- .. and then b, the value of e still in hand -/
theorem tE.seqS2 {R : It → Hp → Prop} {f : W × Gm → Res (List D × List Nat × Gm)} {Q' : VK} (hN : N ≤ n) (hl : Γ1.length = N) (G1 : Gd K Γ1 σ H1 F1 (n + 1)) (D1 : Dl N M H F n H1 F1) (hM : ∀ m ∈ mutE e, M m) (P0 : sPost K ER Wx N M σ H F n R ((ev C e Γ1).bind f))
    (h : ∀ w Γ2 v H2 F2, Γ2.length = N → sPost K ER Wx N M σ H F n R (f (w, Γ2)) → Gd K Γ2 σ H2 F2 (n + 2) → At K N H2 F2 (n + 1) w v → Dl N (mem (mutE e)) H1 F1 (n + 1) H2 F2 → Dl N M H F n H2 F2 → Q' v H2) : tE K ER C Wx e σ H1 Q' := by
  refine ⟨Γ1, F1, n + 1, G1, ?_⟩
  cases he : ev C e Γ1 with
  | stuck => rw [he] at P0; exact P0
  | exc c as Γ' =>
    rw [he] at P0
    rw [hl]
    exact fun cls dx H' F' er g d => ExcP.later (M2 := mem (mutE e)) P0 D1 hN (Nat.le_succ n) (.inr (by rw [← hl]; exact G1.same g)) (fun m hm => hm) hM cls dx H' F' er g d
  | ok p =>
    obtain ⟨w, Γ2⟩ := p
    rw [he, bind_ok] at P0
    intro v H2 F2 G2 A2 D2
    rw [hl] at A2 D2
    exact h w Γ2 v H2 F2 ((G1.same G2).trans hl) P0 G2 A2 D2 ((D1.trans D2 hN (Nat.le_succ n)).weak fun m _ z => z.elim id (hM m))
/-- .. the one behind that -/
theorem tE.seqSk {R : It → Hp → Prop} {f : W × Gm → Res (List D × List Nat × Gm)} {Q' : VK} (hN : N ≤ n) (hk : n ≤ k) (hl : Γ1.length = N) (G1 : Gd K Γ1 σ H1 F1 k) (D1 : Dl N M H F n H1 F1) (hM : ∀ m ∈ mutE e, M m) (P0 : sPost K ER Wx N M σ H F n R ((ev C e Γ1).bind f))
    (h : ∀ w Γ2 v H2 F2, Γ2.length = N → sPost K ER Wx N M σ H F n R (f (w, Γ2)) → Gd K Γ2 σ H2 F2 (k + 1) → At K N H2 F2 k w v → Dl N (mem (mutE e)) H1 F1 k H2 F2 → Dl N M H F n H2 F2 → Q' v H2) : tE K ER C Wx e σ H1 Q' := by
  refine ⟨Γ1, F1, k, G1, ?_⟩
  cases he : ev C e Γ1 with
  | stuck => rw [he] at P0; exact P0
  | exc c as Γ' =>
    rw [he] at P0
    rw [hl]
    exact fun cls dx H' F' er g d => ExcP.later (M2 := mem (mutE e)) P0 D1 hN hk (.inr (by rw [← hl]; exact G1.same g)) (fun m hm => hm) hM cls dx H' F' er g d
  | ok p =>
    obtain ⟨w, Γ2⟩ := p
    rw [he, bind_ok] at P0
    intro v H2 F2 G2 A2 D2
    rw [hl] at A2 D2
    exact h w Γ2 v H2 F2 ((G1.same G2).trans hl) P0 G2 A2 D2 ((D1.trans D2 hN hk).weak fun m _ z => z.elim id (hM m))
theorem tSrc_seq {R : It → Hp → Prop} (h : tSrc K ER C Wx (.seq e) σ H R) : iSeq K (tE K ER C Wx e) σ H R := by
  obtain ⟨Γ, F, n, G, P⟩ := h
  rw [evSrc] at P
  refine tE.seqS G (fun m hm => hm) P fun w Γ1 v H1 F1 hl P1 G1 A1 D1 => ?_
  have V := A1.vw (n := n) (Nat.le_refl n) G1.dj
  have gd := G1.drop (n := n) (by rw [hl]; exact G.top)
  cases hd : w.d <;> simp only [hd] at P1 <;> try exact P1.elim
  · rename_i ds
    rw [hd] at V
    obtain ⟨a, vs, ev, q, r⟩ := V.rep
    subst ev
    exact ⟨a, rfl, .inr ⟨⟨vs, cut_le.t q⟩, P1 _ _ _ gd (.tup V) (D1.drop G.top)⟩⟩
  · rename_i ds
    rw [hd] at V
    obtain ⟨a, vs, ev, q, r⟩ := V.rep
    subst ev
    exact ⟨a, rfl, .inl ⟨⟨vs, .of (cut_some.mp q).2⟩, P1 _ _ _ gd (.lst V) (D1.drop G.top)⟩⟩
theorem tSrc_rng1 {R : It → Hp → Prop} (h : tSrc K ER C Wx (.rng1 e) σ H R) : iRng1 (tCons (tE K ER C Wx e) tNil) σ H R := by
  obtain ⟨Γ, F, n, G, P⟩ := h
  rw [evSrc] at P
  refine tE.seqS G (fun m hm => hm) P fun w Γ1 v H1 F1 hl P1 G1 A1 D1 => ?_
  cases hd : w.d <;> simp only [hd] at P1 <;> try exact P1.elim
  rename_i j
  split at P1
  · rename_i hb
    exact ⟨j, by rw [reads_int A1 hd], (rg_to hb).1, (rg_to hb).2, P1 _ _ _ (G1.drop (by rw [hl]; exact G.top)) (.rng rfl) (D1.drop G.top)⟩
  · exact P1.elim
theorem tSrc_rng2 {R : It → Hp → Prop} (h : tSrc K ER C Wx (.rng2 a b) σ H R) : iRng2 (tCons (tE K ER C Wx a) (tCons (tE K ER C Wx b) tNil)) σ H R := by
  obtain ⟨Γ, F, n, G, P⟩ := h
  rw [evSrc] at P
  refine tE.seqS G (fun m hm => List.mem_append_left _ hm) P fun w Γ1 v H1 F1 hl P1 G1 A1 D1 => ?_
  refine tE.seqS2 G.top hl G1 D1 (fun m hm => List.mem_append_right _ hm) P1 fun w2 Γ2 v2 H2 F2 hl2 P2 G2 A2 _ D2 => ?_
  cases hd : w.d <;> simp only [hd] at P2 <;> try exact P2.elim
  cases hd2 : w2.d <;> simp only [hd2] at P2 <;> try exact P2.elim
  rename_i i j
  split at P2
  · rename_i hb
    exact ⟨i, j, by rw [reads_int A1 hd, reads_int A2 hd2], ⟨(rg_to hb.1).1, (rg_to hb.1).2, (rg_to hb.2).1, (rg_to hb.2).2⟩, P2 _ _ _ (G2.drop (by rw [hl2]; exact G.top)) (.rng rfl) (D2.drop G.top)⟩
  · exact P2.elim
theorem tSrc_enum {R : It → Hp → Prop} (h : tSrc K ER C Wx (.enum e) σ H R) : iEnum K (tCons (tE K ER C Wx e) tNil) σ H R := by
  obtain ⟨Γ, F, n, G, P⟩ := h
  rw [evSrc] at P
  refine tE.seqS G (fun m hm => hm) P fun w Γ1 v H1 F1 hl P1 G1 A1 D1 => ?_
  have V := A1.vw (n := n) (Nat.le_refl n) G1.dj
  have gd := G1.drop (n := n) (by rw [hl]; exact G.top)
  cases hd : w.d <;> simp only [hd] at P1 <;> try exact P1.elim
  rename_i ds
  rw [hd] at V
  obtain ⟨a, vs, ev, q, r⟩ := V.rep
  subst ev
  exact ⟨a, vs, rfl, .of (cut_some.mp q).2, P1 _ _ _ gd (.enum V) (D1.drop G.top)⟩
theorem tSrc_zip {R : It → Hp → Prop} (h : tSrc K ER C Wx (.zip a b) σ H R) : iZip K (tCons (tE K ER C Wx a) (tCons (tE K ER C Wx b) tNil)) σ H R := by
  obtain ⟨Γ, F, n, G, P⟩ := h
  rw [evSrc] at P
  refine tE.seqS G (fun m hm => List.mem_append_left _ hm) P fun w Γ1 v H1 F1 hl P1 G1 A1 D1 => ?_
  refine tE.seqS2 G.top hl G1 D1 (fun m hm => List.mem_append_right _ hm) P1 fun w2 Γ2 v2 H2 F2 hl2 P2 G2 A2 D12 D2 => ?_
  cases hd : w.d <;> simp only [hd] at P2 <;> try exact P2.elim
  cases hd2 : w2.d <;> simp only [hd2] at P2 <;> try exact P2.elim
  rename_i xs ys
  split at P2
  · rename_i hh
    have B1 := A1.hold D12 G.top (Nat.lt_succ_self n) (hold_no hh) G1.dj
    have V := B1.vw (n := n) (Nat.le_refl n) G2.dj
    have V2 := A2.vw (n := n) (Nat.le_succ n) G2.dj
    have hr : ∀ r ∈ w.rs ++ w2.rs, r < Γ.length := fun r hr => (List.mem_append.mp hr).elim (A1.rs r) (A2.rs r)
    have V := V.more (rs' := w.rs ++ w2.rs) (fun r hr => List.mem_append_left _ hr) hr
    have V2 := V2.more (rs' := w.rs ++ w2.rs) (fun r hr => List.mem_append_right _ hr) hr
    rw [hd] at V
    rw [hd2] at V2
    obtain ⟨p, vs, ev, q, r⟩ := V.rep
    obtain ⟨p2, vs2, ev2, q2, r2⟩ := V2.rep
    subst ev
    subst ev2
    exact ⟨p, p2, vs, vs2, rfl, .of (cut_some.mp q).2, .of (cut_some.mp q2).2, P2 _ _ _ (G2.drop (by rw [hl2]; exact G.top)) (.zip V V2) (D2.drop G.top)⟩
  · exact P2.elim
theorem tSrc_zip3 {a b c : E} {R : It → Hp → Prop} (h : tSrc K ER C Wx (.zip3 a b c) σ H R) : iZip3 K (tCons (tE K ER C Wx a) (tCons (tE K ER C Wx b) (tCons (tE K ER C Wx c) tNil))) σ H R := by
  obtain ⟨Γ, F, n, G, P⟩ := h
  rw [evSrc] at P
  refine tE.seqS G (fun m hm => List.mem_append_left _ hm) P fun w Γ1 v H1 F1 hl P1 G1 A1 D1 => ?_
  refine tE.seqS2 G.top hl G1 D1 (fun m hm => List.mem_append_right _ (List.mem_append_left _ hm)) P1 fun w2 Γ2 v2 H2 F2 hl2 P2 G2 A2 D12 D2 => ?_
  refine tE.seqSk G.top (by omega) hl2 G2 D2 (fun m hm => List.mem_append_right _ (List.mem_append_right _ hm)) P2 fun w3 Γ3 v3 H3 F3 hl3 P3 G3 A3 D23 D3 => ?_
  cases hd : w.d <;> simp only [hd] at P3 <;> try exact P3.elim
  cases hd2 : w2.d <;> simp only [hd2] at P3 <;> try exact P3.elim
  cases hd3 : w3.d <;> simp only [hd3] at P3 <;> try exact P3.elim
  rename_i xs ys zs
  split at P3
  · rename_i hh
    split at P3
    · rename_i hh2
      split at P3
      · rename_i hh3
        have B1 := A1.hold D12 G.top (Nat.lt_succ_self n) (hold_no hh) G1.dj
        have B1 := B1.hold D23 G.top (by omega) (hold_no hh2) G2.dj
        have B2 := A2.hold D23 (Nat.le_trans G.top (Nat.le_succ n)) (by omega) (hold_no hh3) G2.dj
        have V := B1.vw (n := n) (Nat.le_refl n) G3.dj
        have V2 := B2.vw (n := n) (Nat.le_succ n) G3.dj
        have V3 := A3.vw (n := n) (by omega) G3.dj
        have hr : ∀ r ∈ w.rs ++ (w2.rs ++ w3.rs), r < Γ.length := fun r hr => (List.mem_append.mp hr).elim (A1.rs r) fun hr => (List.mem_append.mp hr).elim (A2.rs r) (A3.rs r)
        have V := V.more (rs' := w.rs ++ (w2.rs ++ w3.rs)) (fun r hr => List.mem_append_left _ hr) hr
        have V2 := V2.more (rs' := w.rs ++ (w2.rs ++ w3.rs)) (fun r hr => List.mem_append_right _ (List.mem_append_left _ hr)) hr
        have V3 := V3.more (rs' := w.rs ++ (w2.rs ++ w3.rs)) (fun r hr => List.mem_append_right _ (List.mem_append_right _ hr)) hr
        rw [hd] at V
        rw [hd2] at V2
        rw [hd3] at V3
        obtain ⟨p, vs, ev, q, r⟩ := V.rep
        obtain ⟨p2, vs2, ev2, q2, r2⟩ := V2.rep
        obtain ⟨p3, vs3, ev3, q3, r3⟩ := V3.rep
        subst ev
        subst ev2
        subst ev3
        exact ⟨p, p2, p3, vs, vs2, vs3, rfl, .of (cut_some.mp q).2, .of (cut_some.mp q2).2, .of (cut_some.mp q3).2, P3 _ _ _ (G3.drop (by rw [hl3]; exact G.top)) (.zip3 V V2 V3) (D3.drop G.top)⟩
      · exact P3.elim
    · exact P3.elim
  · exact P3.elim
end
end Own

end
section
set_option maxHeartbeats 1000000
namespace Own
open PySem PySem.Spec L2

section
variable {K : PySem.W.Frag} {ER : ERel} {C : Ctx} {Wx : WX} {N n m k i p q : Nat} {Γ Γ0 Γ1 Γ2 Γ' : Gm} {σ σ' : L2.St} {H H' H0 H1 H2 R : Hp} {F F' F0 F1 F2 : Fpt} {w w1 w2 : W} {v x : V} {d : D} {us us' : List V} {ds xs xs' : List D} {vs rs rs' : List Nat} {M M1 M2 : Nat → Prop} {l : Nat} {e a b cd elt : E} {J : It} {Q : VK}
theorem wipeG_keep : ∀ {js : List Nat} {Γ : Gm} {j : Nat}, j ∉ js → (wipeG js Γ)[j]? = Γ[j]?
  | [], _, _, _ => rfl
  | i :: js, Γ, j, h => by
    show ((wipeG js Γ).set i none)[j]? = _
    rw [List.getElem?_set_ne (fun z => h (by rw [z]; exact List.mem_cons_self)), wipeG_keep (fun z => h (List.mem_cons_of_mem _ z))]
theorem backG_keep : ∀ {js : List Nat} {Γ : Gm} {j : Nat}, j ∉ js → (backG js Γ0 Γ)[j]? = Γ[j]?
  | [], _, _, _ => rfl
  | i :: js, Γ, j, h => by
    show ((backG js Γ0 Γ).set i (back1 (Γ0.getD i none)))[j]? = _
    rw [List.getElem?_set_ne (fun z => h (by rw [z]; exact List.mem_cons_self)), backG_keep (fun z => h (List.mem_cons_of_mem _ z))]
theorem backG_len : ∀ {js : List Nat} {Γ : Gm}, (backG js Γ0 Γ).length = Γ.length
  | [], _ => rfl
  | i :: js, Γ => by
    show ((backG js Γ0 Γ).set i (back1 (Γ0.getD i none))).length = _
    rw [List.length_set, backG_len]
theorem backG_get : ∀ {js : List Nat} {Γ : Gm} {j : Nat} {s : Slot}, j ∈ js → (backG js Γ0 Γ)[j]? = some s → s = back1 (Γ0.getD j none)
  | i :: js, Γ, j, s, h, e => by
    have e : ((backG js Γ0 Γ).set i (back1 (Γ0.getD i none)))[j]? = some s := e
    by_cases z : i = j
    · subst z
      have hl := (List.getElem?_eq_some_iff.mp e).1
      rw [List.length_set] at hl
      rw [List.getElem?_set_self hl] at e
      cases e; rfl
    · rw [List.getElem?_set_ne z] at e
      exact backG_get ((List.mem_cons.mp h).resolve_left (fun y => z y.symm)) e
def nl (vs : List Nat) (N : Nat) (F : Fpt) : Fpt := fun k => if k ∈ vs ∧ k < N then [] else F k
theorem nl_shr : Shr N F (nl vs N F) := ⟨fun k => by
  unfold nl
  split
  · exact .inr rfl
  · exact .inl rfl, fun k hk => by
  unfold nl
  rw [if_neg (by omega)]⟩
theorem nl_nil {k : Nat} (h : k ∈ vs) (hk : k < N) : nl vs N F k = [] := if_pos ⟨h, hk⟩
theorem Gd.shrink (G : Gd K Γ σ H F m) (s : Shr Γ.length F F') (hl : Γ'.length = Γ.length) (hs : σ'.length = σ.length) (h : ∀ j w, Γ'[j]? = some (some w) → Γ[j]? = some (some w) ∧ σ'[j]? = σ[j]? ∧ F' j = F j) : Gd K Γ' σ' H F' m where
  len := by rw [hs, hl]; exact G.len
  top := by rw [hl]; exact G.top
  off := fun k hk => by
    rcases s.or k with q | q
    · rw [q]; exact G.off k hk
    · exact q
  nd := fun k => by
    rcases s.or k with q | q
    · rw [q]; exact G.nd k
    · rw [q]; exact List.nodup_nil
  dj := fun i j a e1 e2 => G.dj i j a (s.sub e1) (s.sub e2)
  obj := fun i a e => G.obj i a (s.sub e)
  rep := fun j w e => by
    obtain ⟨h1, h2, h3⟩ := h j w e
    obtain ⟨v, hv, A⟩ := G.rep j w h1
    rw [hl]
    exact ⟨v, by rw [h2]; exact hv, A.shr s h3⟩
theorem Gd.wipe (G : Gd K Γ σ H F m) (hs : σ'.length = σ.length) (h : ∀ j, j ∉ vs → σ'[j]? = σ[j]?) : Gd K (wipeG vs Γ) σ' H (nl vs Γ.length F) m :=
  G.shrink nl_shr wipeG_len hs fun j w e => by
    obtain ⟨h1, h2⟩ := wipeG_get e
    exact ⟨h2, h j h1, by unfold nl; rw [if_neg (fun z => h1 z.1)]⟩
theorem Gd.sl (G : Gd K Γ σ H F m) (hs : σ'.length = σ.length) (h : ∀ (j : Nat) (w : W), Γ[j]? = some (some w) → σ'[j]? = σ[j]?) : Gd K Γ σ' H F m := G.shrink Shr.refl rfl hs fun j w e => ⟨e, h j w e, rfl⟩
theorem Dl.grow (D1 : Dl N M H0 F0 n H F) (hN : N ≤ n) (s : Same H H') : Dl N M H0 F0 n H' F := D1.temps hN s (fun _ _ => rfl) fun k a hk e => .inl ⟨k, hk, e⟩
theorem At.grow (A : At K N H F k w v) (s : Same H H') : At K N H' F k w v := A.move (fun a _ o e => s _ _ e) rfl fun a o no e => ⟨s _ _ e, no⟩
theorem Wk.grow (h : Wk K N H F rs J ds) (s : Same H H') : Wk K N H' F rs J ds := by
  have g : ∀ {d : D} {v : V}, Vw K N H F rs d v → Vw K N H' F rs d v := fun V => ⟨V.lt, Rep.mono (cut_sub fun a o no e => ⟨s _ _ e, no⟩) V.rep⟩
  cases h with
  | lst V => exact .lst (g V)
  | tup V => exact .tup (g V)
  | rng e => exact .rng e
  | enum V => exact .enum (g V)
  | zip V V' => exact .zip (g V) (g V')
  | zip3 V V' V'' => exact .zip3 (g V) (g V') (g V'')
theorem Gd.down (G : Gd K Γ σ H F (m + 1)) (h : F m = []) (hN : Γ.length ≤ m) : Gd K Γ σ H F m := ⟨G.len, hN, fun k hk => by
  by_cases z : k = m
  · rw [z]; exact h
  · exact G.off k (by omega), G.nd, G.dj, G.obj, G.rep⟩
/-- data without lists stays -/
def Still (K : PySem.W.Frag) (H H' : Hp) : Prop := ∀ d v, imm d = true → Rep K H d v → Rep K H' d v
theorem Gd.still (G : Gd K Γ σ H F m) (D2 : Dl N M H F n H2 F2) : Still K H H2 := fun d v im r => Rep.mono cut_le (Rep.mono (D2.view (rs := []) fun _ z => nomatch z) (Rep.imm_cut (fun a z => G.othObj z) im r))
theorem Still.trans (h : Still K H H1) (h' : Still K H1 H2) : Still K H H2 := fun d v im r => h' d v im (h d v im r)
theorem still_same (s : Same H H') : Still K H H' := fun d v im r => Rep.mono (fun a o e => s _ _ e) r

abbrev W0 : WX := fun _ _ _ _ => False
def cB (C : Ctx) (vs : List Nat) (tg : Tg) (rs : List Nat) (cd elt : E) (d : D) (Γ2 : Gm) : Res (Option W × Gm) := match setTg tg d rs (wipeG vs Γ2) with
  | some Γ3 => (evT C cd Γ3).bind fun (k, Γ4) => match k with
    | true => (ev C elt Γ4).bind fun (w, Γ5) => .ok (some w, Γ5)
    | false => .ok (none, Γ4)
  | none => .stuck
def cF (vs : List Nat) (Γ1 : Gm) (p : List D × Bool × Gm) : Res (W × Gm) := .ok (⟨if p.2.1 then 8 else 1, [], .lst p.1⟩, backG vs Γ1 p.2.2)
def cK (C : Ctx) (vs : List Nat) (tg : Tg) (rs : List Nat) (cd elt : E) (Γ1 : Gm) (ds acc : List D) (k : Bool) : Res (Option W × Gm) → Res (W × Gm)
  | .ok (o, Γ2) => match o with
    | some w => if acc.length < lim then (compL (cB C vs tg rs cd elt) ds (acc ++ [w.d]) (k && deep w) (stl w Γ2).2).bind (cF vs Γ1) else .stuck
    | none => (compL (cB C vs tg rs cd elt) ds acc k Γ2).bind (cF vs Γ1)
  | _ => .stuck
theorem compL_cons {tg : Tg} {ds acc : List D} {k : Bool} : (compL (cB C vs tg rs cd elt) (d :: ds) acc k Γ2).bind (cF vs Γ1) = cK C vs tg rs cd elt Γ1 ds acc k (cB C vs tg rs cd elt d Γ2) := by
  rw [compL]
  cases h : cB C vs tg rs cd elt d Γ2 with
  | stuck => rfl
  | exc c as g => rfl
  | ok p =>
    obtain ⟨o, Γ3⟩ := p
    cases o with
    | none => rfl
    | some w =>
      show (Res.bind (if acc.length < lim then _ else Res.stuck) _) = (if acc.length < lim then _ else Res.stuck)
      split <;> rfl
theorem setTs_len : ∀ {is : List Nat} {ds : List D} {Γ Γ' : Gm}, setTs is ds rs Γ = some Γ' → Γ'.length = Γ.length
  | [], [], _, _, e => by cases e; rfl
  | i :: is, d :: ds, Γ, Γ', e => by
    have := setTs_len (is := is) (ds := ds) e
    rw [this, List.length_set]
  | [], _ :: _, _, _, e => by cases e
  | _ :: _, [], _, _, e => by cases e
theorem setTg_len {tg : Tg} (e : setTg tg d rs Γ = some Γ') : Γ'.length = Γ.length := by
  cases tg with
  | one i => cases e; rw [List.length_set]
  | tup is =>
    cases d with
    | tup ds => exact setTs_len e
    | lst ds => exact setTs_len e
    | _ => cases e
theorem deep_stl (h : deep w = true) : deep (stl w Γ).1 = true := by
  unfold stl
  split
  · rename_i im
    unfold deep val
    rw [im]; rfl
  · rename_i im
    unfold deep at h ⊢
    rw [Bool.or_eq_true, Bool.and_eq_true] at h
    rcases h with h | h
    · exact absurd h im
    · show (imm w.d || (decide (w.l = 8) && true)) = true
      rw [h.1]; simp
theorem Pk.vw {f f' : List Addr} {a : Addr} (h : Pk K Γ H F p q a f f') (V : Vw K N H F rs d v) (hp : p ∉ rs) (hq : N ≤ q) : Vw K N (upd H a (.lst us')) (pk F p q a f') rs d v := ⟨V.lt, Rep.mono (cut_sub fun b o no e => ⟨by
  rw [upd_ne (fun z => by subst z; exact no ⟨p, hp, by rw [h.hp]; exact List.mem_cons_self⟩)]; exact e, fun z => no (h.oth hp (fun z => by have := V.lt q z; omega) z)⟩) V.rep⟩
theorem Pk.wk {f f' : List Addr} {a : Addr} (h : Pk K Γ H F p q a f f') (W : Wk K N H F rs J ds) (hp : p ∉ rs) (hq : N ≤ q) : Wk K N (upd H a (.lst us')) (pk F p q a f') rs J ds := by
  cases W with
  | lst V => exact .lst (h.vw V hp hq)
  | tup V => exact .tup (h.vw V hp hq)
  | rng e => exact .rng e
  | enum V => exact .enum (h.vw V hp hq)
  | zip V V' => exact .zip (h.vw V hp hq) (h.vw V' hp hq)
  | zip3 V V' V'' => exact .zip3 (h.vw V hp hq) (h.vw V' hp hq) (h.vw V'' hp hq)
theorem Pk.still {f f' : List Addr} {a : Addr} (h : Pk K Γ H F p q a f f') (G : Gd K Γ2 σ H F m) : Still K H (upd H a (.lst us')) := fun d v im r => Rep.mono cut_le (Rep.mono h.cut (Rep.imm_cut (fun a z => G.othObj z) im r))
/-- what stands between two turns -/
structure CW (K : PySem.W.Frag) (ER : ERel) (C : Ctx) (Wx : WX) (N : Nat) (M : Nat → Prop) (σ : L2.St) (H0 : Hp) (F0 : Fpt) (n : Nat) (Q : VK) (vs : List Nat) (tg : Tg) (rs : List Nat) (cd elt : E) (Γ1 : Gm) (H1 : Hp) (J : It) (ds : List D) (Dd : Addr)
    (i m : Nat) (H : Hp) (Γ2 : Gm) (F2 : Fpt) (acc : List D) (k : Bool) : Prop where
  im : i + m = ds.length
  hl : Γ2.length = N
  gd : Gd K (wipeG vs Γ2) σ H F2 (n + 1)
  nl : ∀ v ∈ vs, v < N → F2 v = []
  at_ : At K N H F2 n ⟨if k then 8 else 1, [], .lst acc⟩ (.ref Dd)
  wk : Wk K N H F2 rs J ds
  dl : Dl N M H0 F0 n H F2
  st : Still K H1 H
  post : PostR K ER Wx N M σ H0 F0 n (vPost K N M σ H0 F0 n Q) ((compL (cB C vs tg rs cd elt) (ds.drop i) acc k Γ2).bind (cF vs Γ1))
theorem tE_comp {tg : Tg} {src : Src} (ht : ∀ i ∈ tg.is, i ∈ vs) (h : tE K ER C Wx (.comp vs tg src cd elt) σ H Q) : tLc (tSrc K ER C Wx src) (gTg K tg) (tT K ER C W0 cd) (tE K ER C W0 elt) vs σ H Q := by
  obtain ⟨Γ, F, n, G, P⟩ := h
  rw [ev] at P
  refine ⟨Γ, F, n, G, ?_⟩
  cases hs : evSrc C src Γ with
  | stuck => rw [hs] at P; exact P
  | exc c as Γ' => rw [hs] at P; exact ExcP.weak P fun m hm => List.mem_append_right _ (List.mem_append_left _ hm)
  | ok p =>
    obtain ⟨ds, rs, Γ1⟩ := p
    rw [hs, bind_ok] at P
    intro J H1 F1 G1 W1 D1 Dd hD
    have hl : Γ1.length = Γ.length := G.same G1
    generalize hN : Γ.length = N at *
    have hNn : N ≤ n := by rw [← hN]; exact G.top
    simp only at P
    split at P
    case isFalse => exact P.elim
    rename_i dj
    have dvs : ∀ r ∈ rs, r ∉ vs := fun r hr z => disj_no dj hr (List.mem_append_left _ z)
    have dcd : ∀ r ∈ rs, r ∉ mutE cd := fun r hr z => disj_no dj hr (List.mem_append_right _ (List.mem_append_left _ z))
    have delt : ∀ r ∈ rs, r ∉ mutE elt := fun r hr z => disj_no dj hr (List.mem_append_right _ (List.mem_append_right _ z))
    have P : PostR K ER Wx N (mem (mutE (.comp vs tg src cd elt))) σ H F n (vPost K N (mem (mutE (.comp vs tg src cd elt))) σ H F n Q) ((compL (cB C vs tg rs cd elt) ds [] true Γ1).bind (cF vs Γ1)) := P
    have Mvs : ∀ m ∈ vs, mem (mutE (.comp vs tg src cd elt)) m := fun m hm => List.mem_append_left _ hm
    have Msr : ∀ m ∈ mutSrc src, mem (mutE (.comp vs tg src cd elt)) m := fun m hm => List.mem_append_right _ (List.mem_append_left _ hm)
    have Mcd : ∀ m ∈ mutE cd, mem (mutE (.comp vs tg src cd elt)) m := fun m hm => List.mem_append_right _ (List.mem_append_right _ (List.mem_append_left _ hm))
    have Mel : ∀ m ∈ mutE elt, mem (mutE (.comp vs tg src cd elt)) m := fun m hm => List.mem_append_right _ (List.mem_append_right _ (List.mem_append_right _ hm))
    generalize mem (mutE (.comp vs tg src cd elt)) = M at *
    have D1 : Dl N M H F n H1 F1 := D1.weak fun m _ hm => Msr m hm
    refine ⟨fun i m H' => ∃ Γ2 F2 acc k, CW K ER C Wx N M σ H F n Q vs tg rs cd elt Γ1 H1 J ds Dd i m H' Γ2 F2 acc k, ⟨ds.length, ?_⟩, fun i m H' w => ?_⟩
    · -- the start
      have B := fin_newI (n := n) (ds := []) (vs := []) G1 (by rw [hl]; exact hNn) rfl rfl hD
      have e0 : Dl N (fun _ => False) H1 F1 n (upd H1 Dd (.lst [])) (put (low n F1) n [Dd]) := (Dl.refl hNn G1.off).temps hNn B.nw.same B.nw.lo B.nw.fr
      have Bg := B.gd
      have Ba := B.at_
      refine ⟨Γ1, Own.nl vs N (put (low n F1) n [Dd]), [], true, by omega, hl, ?_, fun v hv hvN => nl_nil hv hvN, ?_, (W1.keep e0 fun _ _ z => z).shr nl_shr, (D1.temps hNn B.nw.same B.nw.lo B.nw.fr).shr nl_shr, still_same B.nw.same, P⟩
      · rw [← hl]
        exact Bg.wipe rfl fun _ _ => rfl
      · rw [hl] at Ba
        exact Ba.shr nl_shr (nl_shr.hi n hNn)
    · obtain ⟨Γ2, F2, acc, k, im, hl2, gd, hnl, at_, wk, dl, st, post⟩ := w
      have hlw : (wipeG vs Γ2).length = N := by rw [wipeG_len]; exact hl2
      have hσ : σ.length = N := by rw [gd.len]; exact hlw
      by_cases hi : i < ds.length
      case neg =>
        -- the end
        left
        refine ⟨wk.stop (by omega), ?_⟩
        rw [List.drop_eq_nil_of_le (by omega)] at post
        have post : vPost K N M σ H F n Q ⟨if k then 8 else 1, [], .lst acc⟩ (backG vs Γ1 Γ2) := post
        refine post _ H' F2 ⟨?_, ?_, gd.off, gd.nd, gd.dj, gd.obj, fun j w e => ?_⟩ at_ dl
        · rw [backG_len, hl2]; exact hσ
        · rw [backG_len, hl2]; omega
        · rw [backG_len, hl2]
          have hj : j < N := by
            have := (List.getElem?_eq_some_iff.mp e).1
            rw [backG_len, hl2] at this
            exact this
          by_cases hv : j ∈ vs
          · have q := backG_get hv e
            rw [List.getD_eq_getElem?_getD] at q
            cases e1 : Γ1[j]? with
            | none => rw [e1] at q; cases q
            | some s =>
              rw [e1] at q
              cases s with
              | none => cases q
              | some u =>
                have q : some w = (if imm u.d then some (val u.d) else none) := q
                split at q
                · rename_i imu
                  cases q
                  obtain ⟨x, hx, A⟩ := G1.rep j u e1
                  refine ⟨x, hx, (fun _ z => nomatch z), ?_⟩
                  rw [hnl j hv hj]
                  exact orep0 (Rep.imm_cut (fun a z => gd.othObj z) imu (st _ _ imu A.read))
                · cases q
          · rw [backG_keep hv, ← wipeG_keep hv] at e
            obtain ⟨x, hx, A⟩ := gd.rep j w e
            rw [hlw] at A
            exact ⟨x, hx, A⟩
      case pos =>
        right
        have ed : ds[i]? = some ds[i] := List.getElem?_eq_getElem hi
        generalize ds[i] = d at ed
        have edr : ds.drop i = d :: ds.drop (i + 1) := by
          rw [List.drop_eq_getElem_cons hi]
          congr 1
          have := List.getElem?_eq_getElem hi
          rw [ed] at this
          cases this; rfl
        rw [edr, compL_cons] at post
        obtain ⟨go, yl⟩ := Wk.go (gd) (by rw [hlw]; exact wk) ed
        refine ⟨go, fun H'' => ∃ m', m' < m ∧ ∃ Γ2 F2 acc k, CW K ER C Wx N M σ H F n Q vs tg rs cd elt Γ1 H1 J ds Dd (i + 1) m' H'' Γ2 F2 acc k, fun H'' z => z, fun x H3 hy => ?_⟩
        obtain ⟨sm, V⟩ := yl x H3 hy
        have gd3 := (gd.grow sm).sl (σ' := wipe σ vs) (wipe_length _ _) fun j w e => by rw [wipe_get, if_neg (wipeG_get e).1]
        have at3 := at_.grow sm
        have wk3 := wk.grow sm
        have dl3 := dl.grow hNn sm
        have st3 := st.trans (still_same (K := K) sm)
        unfold cB at post
        cases hset : setTg tg d rs (wipeG vs Γ2) with
        | none => simp only [hset] at post; exact post.elim
        | some Γ3 =>
          simp only [hset] at post
          refine setTg_ok hset gd3 (by rw [hlw] at V ⊢; exact V) (fun r hr z => dvs r z (ht r hr)) fun σ3 F3 T => ⟨by rw [T.wp vs ht, wipe_wipe], ?_⟩
          have g4 := T.gd
          have d4 := T.dl (fun j => j ∈ tg.is) fun _ z => z
          rw [hlw] at d4
          have hl3 : Γ3.length = N := by rw [setTg_len hset]; exact hlw
          have at4 := at3.hold d4 hNn (Nat.lt_succ_self n) (fun _ z => nomatch z) gd3.dj
          have wk4 := wk3.keep d4 fun r hr z => dvs r hr (ht r z)
          have dl4 : Dl N M H F n H3 F3 := (dl3.trans d4 hNn (Nat.le_succ n)).weak fun m _ z => z.elim id fun z => Mvs m (ht m z)
          have st4 := st3.trans (gd3.still d4)
          have hσ3 : σ.length = σ3.length := by rw [g4.len, hl3]; exact hσ
          have hσk : ∀ j, j ∉ vs → σ[j]? = σ3[j]? := fun j hj => by
            have q := T.wp vs ht
            rw [wipe_wipe] at q
            have q := congrArg (fun z : L2.St => z[j]?) q
            simp only [wipe_get, if_neg hj] at q
            exact q.symm
          have fin : ∀ {H5 : Hp} {F5 : Fpt} {Γ5 : Gm} {acc : List D} {k : Bool}, Γ5.length = N → Gd K Γ5 σ3 H5 F5 (n + 1) → At K N H5 F5 n ⟨if k then 8 else 1, [], .lst acc⟩ (.ref Dd) → Wk K N H5 F5 rs J ds → Dl N M H F n H5 F5 → Still K H1 H5 →
              PostR K ER Wx N M σ H F n (vPost K N M σ H F n Q) ((compL (cB C vs tg rs cd elt) (ds.drop (i + 1)) acc k Γ5).bind (cF vs Γ1)) →
              ∃ m', m' < m ∧ ∃ Γ2 F2 acc k, CW K ER C Wx N M σ H F n Q vs tg rs cd elt Γ1 H1 J ds Dd (i + 1) m' H5 Γ2 F2 acc k := fun {H5 F5 Γ5 acc k} l5 g5 a5 w5 e5 s5 p5 =>
            ⟨m - 1, by omega, Γ5, Own.nl vs N F5, acc, k, by omega, l5, by rw [← l5]; exact g5.wipe hσ3 hσk, fun v hv h => nl_nil hv h, a5.shr nl_shr (nl_shr.hi n hNn), w5.shr nl_shr, e5.shr nl_shr, s5, p5⟩
          refine ⟨Γ3, F3, n + 1, g4, ?_⟩
          cases he : evT C cd Γ3 with
          | stuck => rw [he] at post; exact post.elim
          | exc c as g => rw [he] at post; exact post.elim
          | ok p =>
            obtain ⟨b, Γ4⟩ := p
            rw [he, bind_ok] at post
            intro H4 F4 G4 D4
            rw [hl3] at D4
            have hl4 : Γ4.length = N := (g4.same G4).trans hl3
            have at5 := at4.hold D4 hNn (Nat.lt_succ_self n) (fun _ z => nomatch z) g4.dj
            have wk5 := wk4.keep D4 dcd
            have dl5 : Dl N M H F n H4 F4 := (dl4.trans D4 hNn (Nat.le_succ n)).weak fun m _ z => z.elim id (Mcd m)
            have st5 := st4.trans (g4.still D4)
            cases b with
            | false =>
              rw [if_neg Bool.false_ne_true]
              exact fin hl4 G4 at5 wk5 dl5 st5 post
            | true =>
              rw [if_pos rfl]
              refine ⟨Γ4, F4, n + 1, G4, ?_⟩
              simp only at post
              cases hv : ev C elt Γ4 with
              | stuck => rw [hv] at post; exact post.elim
              | exc c as g => rw [hv] at post; exact post.elim
              | ok p =>
                obtain ⟨w, Γ5⟩ := p
                rw [hv, bind_ok] at post
                intro y H5 F5 G5 A5 D5
                rw [hl4] at A5 D5
                have hl5 : Γ5.length = N := (G4.same G5).trans hl4
                have at6 := at5.hold D5 hNn (Nat.lt_succ_self n) (fun _ z => nomatch z) G4.dj
                have wk6 := wk5.keep D5 delt
                have dl6 : Dl N M H F n H5 F5 := (dl5.trans D5 hNn (Nat.le_succ n)).weak fun m _ z => z.elim id (Mel m)
                have st6 := st5.trans (G4.still D5)
                obtain ⟨F6, G6, A6, s6⟩ := G5.stl (w := w) (by rw [hl5]; exact A5) (by omega)
                rw [hl5] at A6 s6
                have at7 := at6.shr s6 (s6.hi n hNn)
                have wk7 := wk6.shr s6
                have dl7 := dl6.shr s6
                simp only [cK] at post
                split at post
                case isFalse => exact post.elim
                rename_i hlim
                obtain ⟨us, hus, hlen, pt⟩ := put_in (k && deep w) G6 (p := n) (q := n + 1) (by omega) (by split <;> omega) at7 A6 stl_rs (fun z => by
                  rw [Bool.and_eq_true] at z
                  exact ⟨deep_stl z.2, by rw [z.1]; rfl⟩)
                rw [stl_d] at pt
                obtain ⟨f, f', pk', A8⟩ := pt _ _ .snoc
                refine ⟨us, hus, by rw [hlen]; exact Nat.lt_of_lt_of_le hlim lim_line, ?_⟩
                have hl6 : (stl w Γ5).2.length = N := stl_len.trans hl5
                have G8 := pk'.gd (ob' := .lst (us ++ [y])) (Γ' := (stl w Γ5).2) G6 (by omega) (by omega) rfl (.inl ⟨_, rfl⟩) (fun j u e _ => ⟨e, fun z => by
                  obtain ⟨_, _, A⟩ := G6.rep j u e
                  have := A.rs n z
                  omega⟩) (fun _ z _ => absurd z (by omega))
                exact fin hl6 (G8.down pk_q (by omega)) A8 (pk'.wk wk7 (fun z => by have := wk7.lt n z; omega) (by omega)) (pk'.dl dl7 (by omega) (.inr (Nat.le_refl n)) hNn) (st6.trans (pk'.still G6)) post
end
end Own

end
section
set_option maxHeartbeats 1000000
namespace Own
open PySem PySem.Spec L2
section
variable {m : Nm} {sc : Scope}
theorem chk_int {i : Int} {x : Expr} (h : chkE m sc (.int i) x = true) : ∃ k p, x = .Constant (.int i) k p := by
  unfold chkE at h
  split at h <;> first | (exact absurd h Bool.false_ne_true) | (rename_i heq; cases heq)
  rename_i j k p
  exact ⟨k, p, by rw [of_decide_eq_true h]⟩
theorem chk_bl {i : Bool} {x : Expr} (h : chkE m sc (.bl i) x = true) : ∃ k p, x = .Constant (.bool i) k p := by
  unfold chkE at h
  split at h <;> first | (exact absurd h Bool.false_ne_true) | (rename_i heq; cases heq)
  rename_i j k p
  exact ⟨k, p, by rw [show i = j by simpa using h]⟩
theorem chk_non  {x : Expr} (h : chkE m sc (.non) x = true) : ∃ k p, x = .Constant .none k p := by
  unfold chkE at h
  split at h <;> first | (exact absurd h Bool.false_ne_true) | (rename_i heq; cases heq)
  exact ⟨_, _, rfl⟩
theorem chk_str {i : Str} {x : Expr} (h : chkE m sc (.str i) x = true) : ∃ k p, x = .Constant (.str i) k p := by
  unfold chkE at h
  split at h <;> first | (exact absurd h Bool.false_ne_true) | (rename_i heq; cases heq)
  rename_i j k p
  exact ⟨k, p, by rw [of_decide_eq_true h]⟩
theorem chk_loc {i : Nat} {x : Expr} (h : chkE m sc (.loc i) x = true) : ∃ y p, x = .Name y p ∧ slotB m.N sc i y = true := by
  unfold chkE at h
  split at h <;> first | (exact absurd h Bool.false_ne_true) | (rename_i heq; cases heq)
  exact ⟨_, _, rfl, h⟩
theorem chk_mv {i : Nat} {x : Expr} (h : chkE m sc (.mv i) x = true) : ∃ y p, x = .Name y p ∧ slotB m.N sc i y = true := by
  unfold chkE at h
  split at h <;> first | (exact absurd h Bool.false_ne_true) | (rename_i heq; cases heq)
  exact ⟨_, _, rfl, h⟩
theorem chk_glb {i : Nat} {x : Expr} (h : chkE m sc (.glb i) x = true) : ∃ y p, x = .Name y p ∧ glName sc (m.gl i) y = true := by
  unfold chkE at h
  split at h <;> first | (exact absurd h Bool.false_ne_true) | (rename_i heq; cases heq)
  exact ⟨_, _, rfl, h⟩
theorem chk_tup {es : Es} {x : Expr} (h : chkE m sc (.tup es) x = true) : ∃ xs k p, x = .Tuple xs k p ∧ chkEs m sc es xs = true ∧ xs.length ≤ 1000 := by
  unfold chkE at h
  split at h <;> first | (exact absurd h Bool.false_ne_true) | (rename_i heq; cases heq)
  rw [Bool.and_eq_true, decide_eq_true_eq] at h
  exact ⟨_, _, _, rfl, h.1, h.2⟩
theorem chk_lst {es : Es} {x : Expr} (h : chkE m sc (.lst es) x = true) : ∃ xs p, x = .List xs p ∧ chkEs m sc es xs = true ∧ xs.length ≤ 1000 := by
  unfold chkE at h
  split at h <;> first | (exact absurd h Bool.false_ne_true) | (rename_i heq; cases heq)
  rw [Bool.and_eq_true, decide_eq_true_eq] at h
  exact ⟨_, _, rfl, h.1, h.2⟩
theorem chk_chain {o o' : Op} {a b c : E} {x : Expr} (h : chkE m sc (.chain o o' a b c) x = true) : ∃ p q y z t pos, x = .Compare y [p, q] [z, t] pos ∧ copOf o = some p ∧ copOf o' = some q ∧ chkE m sc a y = true ∧ chkE m sc b z = true ∧ chkE m sc c t = true := by
  unfold chkE at h
  split at h <;> first | (exact absurd h Bool.false_ne_true) | (rename_i heq; cases heq)
  simp only [Bool.and_eq_true, decide_eq_true_eq] at h
  exact ⟨_, _, _, _, _, _, rfl, h.1.1.1.1, h.1.1.1.2, h.1.1.2, h.1.2, h.2⟩
theorem chk_not {a : E} {x : Expr} (h : chkE m sc (.not a) x = true) : ∃ y p, x = .UnaryOp .Not y p ∧ chkE m sc a y = true := by
  unfold chkE at h
  split at h <;> first | (exact absurd h Bool.false_ne_true) | (rename_i heq; cases heq)
  exact ⟨_, _, rfl, h⟩
theorem chk_ite {a b c : E} {x : Expr} (h : chkE m sc (.ite c a b) x = true) : ∃ y z t p, x = .IfExp y z t p ∧ chkE m sc c y = true ∧ chkE m sc a z = true ∧ chkE m sc b t = true := by
  unfold chkE at h
  split at h <;> first | (exact absurd h Bool.false_ne_true) | (rename_i heq; cases heq)
  simp only [Bool.and_eq_true] at h
  exact ⟨_, _, _, _, rfl, h.1.1, h.1.2, h.2⟩
theorem chk_call {f : Nat} {es : Es} {x : Expr} (h : chkE m sc (.call f es) x = true) : ∃ y p z xs pos, x = .Call (.Name y p) (z :: xs) [] pos ∧ glName sc (m.fn f) y = true ∧ chkEs m sc es (z :: xs) = true := by
  unfold chkE at h
  split at h <;> first | (exact absurd h Bool.false_ne_true) | (rename_i heq; cases heq)
  rename_i y p xs pos
  simp only [Bool.and_eq_true] at h
  cases xs with
  | nil => exact absurd h.1.2 (by simp)
  | cons z xs => exact ⟨_, _, _, _, _, rfl, h.1.1, h.2⟩
theorem chk_and {a b : E} {x : Expr} (h : chkE m sc (.and a b) x = true) : ∃ y z r p, x = .BoolOp .And (y :: z :: r) p ∧ chkE m sc a y = true ∧ (match r with
    | [] => chkE m sc b z = true
    | _ => chkE m sc b (.BoolOp .And (z :: r) p) = true) := by
  unfold chkE at h
  split at h <;> first | (exact absurd h Bool.false_ne_true) | (rename_i heq; cases heq)
  rename_i y z r p
  rw [Bool.and_eq_true] at h
  refine ⟨y, z, r, p, rfl, h.1, ?_⟩
  cases r <;> exact h.2
theorem chk_or {a b : E} {x : Expr} (h : chkE m sc (.or a b) x = true) : ∃ y z r p, x = .BoolOp .Or (y :: z :: r) p ∧ chkE m sc a y = true ∧ (match r with
    | [] => chkE m sc b z = true
    | _ => chkE m sc b (.BoolOp .Or (z :: r) p) = true) := by
  unfold chkE at h
  split at h <;> first | (exact absurd h Bool.false_ne_true) | (rename_i heq; cases heq)
  rename_i y z r p
  rw [Bool.and_eq_true] at h
  refine ⟨y, z, r, p, rfl, h.1, ?_⟩
  cases r <;> exact h.2
theorem chk_op {o : Op} {es : Es} {x : Expr} (h : chkE m sc (.op o es) x = true) : ∃ xs, opAst sc o x = some xs ∧ chkEs m sc es xs = true ∧ clB m o = true := by
  rw [chkE, Bool.and_eq_true] at h
  obtain ⟨hc, h⟩ := h
  cases e : opAst sc o x with
  | none => rw [e] at h; cases h
  | some xs => rw [e] at h; exact ⟨xs, rfl, h, hc⟩
theorem chk_get1 {a b : E} {x : Expr} (h : chkE m sc (.get1 a b) x = true) : ∃ o ap y cp, x = .Call (.Attribute o "get" ap) [y] [] cp ∧ (ap.endLine == cp.line) = true ∧ baseB o = true ∧ chkE m sc a o = true ∧ chkE m sc b y = true := by
  unfold chkE at h
  split at h <;> first | (exact absurd h Bool.false_ne_true) | (rename_i heq; cases heq)
  simp only [Bool.and_eq_true, decide_eq_true_eq] at h
  obtain ⟨⟨⟨⟨h1, h2⟩, h3⟩, h4⟩, h5⟩ := h
  subst h1
  exact ⟨_, _, _, _, rfl, h2, h3, h4, h5⟩
theorem chk_get2 {a b c : E} {x : Expr} (h : chkE m sc (.get2 a b c) x = true) : ∃ o ap y z cp, x = .Call (.Attribute o "get" ap) [y, z] [] cp ∧ (ap.endLine == cp.line) = true ∧ baseB o = true ∧ chkE m sc a o = true ∧ chkE m sc b y = true ∧ chkE m sc c z = true := by
  unfold chkE at h
  split at h <;> first | (exact absurd h Bool.false_ne_true) | (rename_i heq; cases heq)
  simp only [Bool.and_eq_true, decide_eq_true_eq] at h
  obtain ⟨⟨⟨⟨⟨h1, h2⟩, h3⟩, h4⟩, h5⟩, h6⟩ := h
  subst h1
  exact ⟨_, _, _, _, _, rfl, h2, h3, h4, h5, h6⟩
theorem chk_dnew {t : Bool} {ks : List Str} {es : Es} {x : Expr} (h : chkE m sc (.dnew t ks es) x = true) : ∃ xs ys p, x = .Dict xs ys p ∧ keysB ks xs = true ∧ chkEs m sc es ys = true ∧ xs.length = ys.length ∧ xs.length ≤ 15 := by
  unfold chkE at h
  split at h <;> first | (exact absurd h Bool.false_ne_true) | (rename_i heq; cases heq)
  simp only [Bool.and_eq_true, decide_eq_true_eq] at h
  exact ⟨_, _, _, rfl, h.1.1.1, h.1.1.2, h.1.2, h.2⟩
theorem chk_comp {vs : List Nat} {tg : Tg} {src : Src} {cd elt : E} {x : Expr} (h : chkE m sc (.comp vs tg src cd elt) x = true) : ∃ e t i ifs scope p, x = .ListComp e [⟨t, i, ifs, 0⟩] scope p ∧ blkC m.N sc scope (ownOf m.N vs) = true ∧
    chkTg m.N (blkLoc scope sc) tg t = true ∧ (∀ i ∈ tg.is, i ∈ vs) ∧ tgFit tg src = true ∧ chkSrc m sc src i = true ∧ chkE m (relS scope sc) elt e = true ∧ ((ifs = [] ∧ cd = .bl true) ∨ ∃ c, ifs = [c] ∧ chkE m (relS scope sc) cd c = true) := by
  unfold chkE at h
  split at h <;> first | (exact absurd h Bool.false_ne_true) | (rename_i heq; cases heq)
  rename_i e t i ifs scope p
  simp only [Bool.and_eq_true, List.all_eq_true] at h
  obtain ⟨⟨⟨⟨⟨⟨h1, h2⟩, h3⟩, h4⟩, h5⟩, h6⟩, h7⟩ := h
  refine ⟨e, t, i, ifs, scope, p, rfl, h1, h2, fun i hi => by simpa using h3 i hi, h4, h5, h6, ?_⟩
  split at h7
  · split at h7
    · exact .inl ⟨rfl, rfl⟩
    · cases h7
  · exact .inr ⟨_, rfl, h7⟩
  · cases h7
def starB : Expr → Bool
  | .Starred _ _ => true
  | _ => false
theorem noStar_of {x : Expr} (h : starB x = false) : NoStar x := by
  cases x <;> first
    | (exact fun _ _ => rfl)
    | (cases h)
/-- tested by its value's truth -/
def plainX : Expr → Bool
  | .UnaryOp .Not _ _ => false
  | .BoolOp _ _ _ => false
  | .IfExp _ _ _ _ => false
  | .Compare _ _ _ _ => false
  | _ => true
theorem isTrue_of {x : Expr} {env : Env} (h : plainX x = true) : ∀ whole, isTrue x env whole = (do let v ← whole; standAt x.pos; holding [v] (truthy v)) := by
  cases x <;> first
    | (intro _; rfl)
    | (cases h; done)
    | (rename_i o _ _; cases o <;> first | (intro _; rfl) | (cases h; done))
def isCmp : Op → Bool
  | .eq | .ne | .lt | .le | .gt | .ge | .inn | .notin | .isN | .notN | .isB _ | .notB _ => true
  | _ => false
theorem op_noStar {o : Op} {x : Expr} {xs : List Expr} (h : opAst sc o x = some xs) : starB x = false := by
  cases x <;> first
    | rfl
    | (exfalso; cases o <;> cases h)
theorem op_plain {o : Op} {x : Expr} {xs : List Expr} (hc : isCmp o = false) (h : opAst sc o x = some xs) : plainX x = true := by
  cases x <;> first
    | rfl
    | (exfalso; cases o <;> first | (cases hc; done) | (cases h; done))
    | (rename_i u _ _; cases u <;> first | rfl | (exfalso; cases o <;> first | (cases hc; done) | (cases h; done)))
theorem noStar {e : E} {x : Expr} (h : chkE m sc e x = true) : NoStar x := noStar_of (by
  cases e with
  | op o es =>
    obtain ⟨xs, e, _⟩ := chk_op h
    exact op_noStar e
  | int => obtain ⟨_, _, e⟩ := chk_int h; rw [e]; rfl
  | bl => obtain ⟨_, _, e⟩ := chk_bl h; rw [e]; rfl
  | non => obtain ⟨_, _, e⟩ := chk_non h; rw [e]; rfl
  | str => obtain ⟨_, _, e⟩ := chk_str h; rw [e]; rfl
  | loc => obtain ⟨_, _, e, _⟩ := chk_loc h; rw [e]; rfl
  | mv => obtain ⟨_, _, e, _⟩ := chk_mv h; rw [e]; rfl
  | glb => obtain ⟨_, _, e, _⟩ := chk_glb h; rw [e]; rfl
  | tup => obtain ⟨_, _, _, e, _⟩ := chk_tup h; rw [e]; rfl
  | lst => obtain ⟨_, _, e, _⟩ := chk_lst h; rw [e]; rfl
  | chain => obtain ⟨_, _, _, _, _, _, e, _⟩ := chk_chain h; rw [e]; rfl
  | and => obtain ⟨_, _, _, _, e, _⟩ := chk_and h; rw [e]; rfl
  | or => obtain ⟨_, _, _, _, e, _⟩ := chk_or h; rw [e]; rfl
  | not => obtain ⟨_, _, e, _⟩ := chk_not h; rw [e]; rfl
  | ite => obtain ⟨_, _, _, _, e, _⟩ := chk_ite h; rw [e]; rfl
  | call => obtain ⟨_, _, _, _, _, e, _⟩ := chk_call h; rw [e]; rfl
  | get1 => obtain ⟨_, _, _, _, e, _⟩ := chk_get1 h; rw [e]; rfl
  | get2 => obtain ⟨_, _, _, _, _, e, _⟩ := chk_get2 h; rw [e]; rfl
  | dnew => obtain ⟨_, _, _, e, _⟩ := chk_dnew h; rw [e]; rfl
  | comp => obtain ⟨_, _, _, _, _, _, e, _⟩ := chk_comp h; rw [e]; rfl)
/-- what a comparison comes to is a bool -/
theorem cmp_bool {o : Op} {ws : List W} {w : W} (hc : isCmp o = true) (h : opv o ws = .ok w) : ∃ k, w.d = .bl k := by
  cases o <;> first
    | (cases hc; done)
    | (rcases ws with _ | ⟨a, _ | ⟨b, _ | ⟨c, ws⟩⟩⟩ <;> first
        | (cases h; done)
        | (simp only [opv] at h
           repeat' split at h
           all_goals first | (cases h; done) | (cases h; exact ⟨_, rfl⟩)))
theorem op_bool {C : Ctx} {o : Op} {es : Es} {Γ Γ1 : Gm} {w : W} (hc : isCmp o = true) (h : ev C (.op o es) Γ = .ok (w, Γ1)) : ∃ k, w.d = .bl k := by
  rw [ev] at h
  cases hs : evs C es Γ with
  | stuck => rw [hs] at h; cases h
  | exc c as g => rw [hs] at h; cases h
  | ok q =>
    obtain ⟨ws, Γ2⟩ := q
    rw [hs, bind_ok] at h
    simp only at h
    split at h
    · rename_i xs _
      cases ho : opv o xs with
      | stuck => rw [ho] at h; cases h
      | exc c as g => rw [ho] at h; cases h
      | ok u =>
        rw [ho, bind_ok] at h
        cases h
        exact cmp_bool hc ho
    · cases h
section
variable {X : Cx} {e : Expr} {xs : List Expr} {ts : List TE}
theorem pt_cmpO {p : CmpOp} {r : R2} (ho : OpR X (compareOp p) r) (h : cmpAst p e = some xs) (hp : PEl X xs ts) : PT X e (tTest fun σ H Q => tAll ts σ H (r2 r · · Q)) := by
  unfold cmpAst at h
  split at h
  · split at h
    · rename_i e1
      cases h
      obtain ⟨e1, e2⟩ := e1
      subst e1
      obtain ⟨ta, tb, rfl, pa, pb⟩ := hp.two
      exact pt_cmpR ho pa pb e2
    · cases h
  · cases h
theorem pt_isNO {p : CmpOp} {r : R2} (ho : OpR X (compareOp p) r) (h1 : p ≠ .In) (h2 : p ≠ .NotIn) (h : isNAst p e = some xs) (hp : PEl X xs ts) : PT X e (tTest fun σ H Q => tAll ts σ H (r1 (fun x H Q => r x .non H Q) · · Q)) := by
  unfold isNAst at h
  split at h
  · split at h
    · rename_i e1
      cases h
      subst e1
      obtain ⟨ta, rfl, pa⟩ := hp.one
      exact pt_cmpR ho pa pe_non (nomark _ h1 h2)
    · cases h
  · cases h
theorem pt_isBO {p : CmpOp} {b : Bool} {r : R2} (ho : OpR X (compareOp p) r) (h1 : p ≠ .In) (h2 : p ≠ .NotIn) (h : isBAst p b e = some xs) (hp : PEl X xs ts) : PT X e (tTest fun σ H Q => tAll ts σ H (r1 (fun x H Q => r x (.bl b) H Q) · · Q)) := by
  unfold isBAst at h
  split at h
  · split at h
    · rename_i e1
      cases h
      obtain ⟨e1, e2⟩ := e1
      subst e1
      subst e2
      obtain ⟨ta, rfl, pa⟩ := hp.one
      exact pt_cmpR ho pa pe_bl (nomark _ h1 h2)
    · cases h
  · cases h
theorem pt_opO (hX : XO X m sc) {o : Op} (hc : isCmp o = true) (h : opAst sc o e = some xs) (hp : PEl X xs ts) : PT X e (tTest fun σ H Q => tAll ts σ H (opR X.K o · · Q)) := by
  have hu : X.A.units < cLine := by have := hX.un; omega
  cases o with
  | eq => exact pt_cmpO (op_eqD (by have := hX.un; omega)) h hp
  | ne => exact pt_cmpO (op_neD (by have := hX.un; omega)) h hp
  | lt => exact pt_cmpO (op_lt.or (op_ltT hu)) h hp
  | le => exact pt_cmpO op_le h hp
  | gt => exact pt_cmpO op_gt h hp
  | ge => exact pt_cmpO op_ge h hp
  | inn => exact pt_cmpO ((op_in_seq.or (op_inD (by have := hX.un; omega))).or (op_inDc (by have := hX.un; omega))) h hp
  | notin => exact pt_cmpO ((op_notIn_seq.or (op_notInD (by have := hX.un; omega))).or (op_notInDc (by have := hX.un; omega))) h hp
  | isN => exact pt_isNO (r := rIsN') op_isN (by decide) (by decide) h hp
  | notN => exact pt_isNO (r := rNotN') op_notN (by decide) (by decide) h hp
  | isB b => exact pt_isBO op_isD (by decide) (by decide) h hp
  | notB b => exact pt_isBO op_notD (by decide) (by decide) h hp
  | _ => cases hc
theorem op_cR (hX : XO X m sc) {o : Op} {p : CmpOp} (h : copOf o = some p) : OpR X (compareOp p) (cR X.K o) := by
  have hu : X.A.units < cLine := by have := hX.un; omega
  cases o <;> cases h
  · exact op_lt.or (op_ltT hu)
  · exact op_le
  · exact op_gt
  · exact op_ge
theorem cop_ne {o : Op} {p : CmpOp} (h : copOf o = some p) : p ≠ .In ∧ p ≠ .NotIn := by
  cases o <;> cases h <;> exact ⟨by decide, by decide⟩
end
end
end Own

end
section
set_option maxHeartbeats 1000000
namespace Own
open PySem PySem.Spec L2
section
variable {m : Nm} {sc : Scope} {C : Ctx} {ER : ERel} {Wx : WX} {X : Cx} {x : Expr} {e : E}
theorem vis_of (hX : XO X m sc) {i : Nat} {y : Str} (h : slotB m.N sc i y = true) : X.N[i]? = some y ∧ Vis X.env.scope y ∧ (y == ("__debug__" : Str)) = false ∧ (y == ("__classdict__" : Str)) = false := by
  unfold slotB visB kindB at h
  simp only [Bool.and_eq_true, Bool.or_eq_true, Bool.not_eq_true', decide_eq_true_eq] at h
  obtain ⟨h1, ⟨h2, h3⟩, h4⟩ := h
  refine ⟨by rw [hX.hN]; exact h1, ?_, h3, h4⟩
  unfold Vis
  rw [hX.hsc]
  cases q : sc.names.lookup y with
  | none => rw [q] at h2; simp at h2
  | some k =>
    rw [q] at h2
    simp only [beq_iff_eq] at h2
    rcases h2 with (h2 | h2) | h2
    · rw [h2]; exact .inl rfl
    · rw [h2]; exact .inr (.inl rfl)
    · rw [h2]; exact .inr (.inr rfl)
theorem glName_of (hX : XO X m sc) {o : Option Str} {y : Str} (h : glName sc o y = true) : o = some y ∧ Gl X y ∧ (y == ("__debug__" : Str)) = false := by
  unfold glName at h
  rw [Bool.and_eq_true, decide_eq_true_eq] at h
  obtain ⟨a, b, _⟩ := gl_of hX h.2
  exact ⟨h.1, a, b⟩
/-- names that may be stored in X -/
def LocOk (X : Cx) (loc : Str → Bool) : Prop := ∀ y, loc y = true → L2.Loc X.env.scope y ∧ (X.fn y = true ∨ X.env.scope.names.lookup y = some .local)
theorem chkTgs_nil {loc : Str → Bool} {es : List Expr} (h : chkTgs m.N loc [] es = true) : es = [] := by
  cases es with
  | nil => rfl
  | cons e es => unfold chkTgs at h; exact absurd h Bool.false_ne_true
theorem chkTgs_cons {loc : Str → Bool} {i : Nat} {is : List Nat} {es : List Expr} (h : chkTgs m.N loc (i :: is) es = true) : ∃ y p r, es = .Name y p :: r ∧ m.N[i]? = some y ∧ loc y = true ∧ chkTgs m.N loc is r = true := by
  unfold chkTgs at h
  split at h <;> first | (exact absurd h Bool.false_ne_true) | (rename_i heq; cases heq; done) | skip
  rename_i y p r heq
  cases heq
  simp only [Bool.and_eq_true, decide_eq_true_eq] at h
  exact ⟨y, p, r, rfl, h.1.1, h.1.2, h.2⟩
theorem chkTgs_len {loc : Str → Bool} : ∀ {is : List Nat} {es : List Expr} {env : Env}, chkTgs m.N loc is es = true → (assignEach es env).length = is.length ∧ (assignEach es env).findIdx? (·.1) = none
  | [], es, env, h => by
    rw [chkTgs_nil h]
    exact ⟨rfl, rfl⟩
  | i :: is, es, env, h => by
    obtain ⟨y, p, r, rfl, h1, h2, h3⟩ := chkTgs_cons h
    obtain ⟨a, b⟩ := chkTgs_len (env := env) h3
    have e : assignEach (.Name y p :: r) env = (false, assign (.Name y p) env) :: assignEach r env := rfl
    rw [e]
    refine ⟨by rw [List.length_cons, List.length_cons, a], ?_⟩
    rw [List.findIdx?_cons]
    simp only [Bool.false_eq_true, if_false, b]
    rfl
theorem pgs_ok (hX : XO X m sc) {loc : Str → Bool} (hl : LocOk X loc) : ∀ {is : List Nat} {es : List Expr}, chkTgs m.N loc is es = true → PGs X es (gNs is)
  | [], es, h => by
    rw [chkTgs_nil h]
    exact pgs_nil
  | i :: is, es, h => by
    obtain ⟨y, p, r, rfl, h1, h2, h3⟩ := chkTgs_cons h
    obtain ⟨a, b⟩ := hl y h2
    exact pgs_cons (pg_name (by rw [hX.hN]; exact hX.nd) (by rw [hX.hN]; exact h1) a b) (pgs_ok hX hl h3) rfl
theorem PG.or {X : Cx} {t : Expr} {g g' : TG} (h : PG X t g) (h' : PG X t g') : PG X t (fun v σ H Q => g v σ H Q ∨ g' v σ H Q) := ⟨fun pins s σ H v u Q I r q => q.elim (h.run pins s σ H v u Q I r) (h'.run pins s σ H v u Q I r)⟩
theorem pg_ok (hX : XO X m sc) {loc : Str → Bool} (hl : LocOk X loc) {tg : Tg} {t : Expr} (h : chkTg m.N loc tg t = true) : PG X t (gTg X.K tg) := by
  unfold chkTg at h
  split at h
  · simp only [Bool.and_eq_true, decide_eq_true_eq] at h
    obtain ⟨a, b⟩ := hl _ h.2
    exact pg_name (by rw [hX.hN]; exact hX.nd) (by rw [hX.hN]; exact h.1) a b
  · obtain ⟨a, b⟩ := chkTgs_len (env := X.env) h
    exact PG.or (pg_tup hX.calm (pgs_ok hX hl h) a b) (pg_unl hX.calm (pgs_ok hX hl h) a b)
  · cases h
theorem tgTuple {loc : Str → Bool} {is : List Nat} {t : Expr} (h : chkTg m.N loc (.tup is) t = true) : ∃ es k p, t = .Tuple es k p := by
  unfold chkTg at h
  split at h
  · rename_i heq; cases heq
  · exact ⟨_, _, _, rfl⟩
  · cases h
theorem pi_seq {tg : Expr} {tl : TE} (hl : PE X x tl) : PI X tg x (iSeq X.K tl) := by
  constructor
  intro pins s σ H R I h
  refine thn (hl.run pins s σ H _ I h) ?_
  rintro u t ⟨y, G, J, ry, a, rfl, q⟩
  cases ry
  have own : ∀ b ∈ [t.heap.objs.size], ∀ H', H' = G → FpOk X pins H' b := by
    intro b hb H' eH
    subst eH
    cases List.mem_singleton.mp hb
    exact J.fpOk (Nat.le_refl _) (J.hok.fresh (Nat.le_refl _))
  rcases q with ⟨⟨xs, hq⟩, q⟩ | ⟨⟨xs, hq⟩, q⟩
  · obtain ⟨its, rv, p, hz⟩ := J.list hq
    exact wpAny_pyIter_list p.isList ⟨_, [_], _, _, G, rfl, J.kept (t' := t.toks) (fun b o e => Heap.get?_push_of_some _ e), turn_list a _, ⟨_, Heap.get?_push_size _ rfl, rfl, rfl⟩, fun b hb => own b hb G rfl, q⟩
  · obtain ⟨its, rv, p, hz⟩ := J.tuple hq
    exact wpAny_pyIter_tuple (show t.heap.IsTuple a its.toArray from p) ⟨_, [_], _, _, G, rfl, J.kept (t' := t.toks) (fun b o e => Heap.get?_push_of_some _ e), turn_tuple a _, ⟨_, Heap.get?_push_size _ rfl, rfl, rfl⟩, fun b hb => own b hb G rfl, q⟩
theorem PI.imp {tg : Expr} {t t' : TI} (h : PI X tg x t) (i : ∀ σ H Q, t' σ H Q → t σ H Q) : PI X tg x t' := ⟨fun pins s σ H Q I q => h.run pins s σ H Q I (i σ H Q q)⟩
theorem PG.imp {t t' : TG} (h : PG X x t) (i : ∀ v σ H Q, t' v σ H Q → t v σ H Q) : PG X x t' := ⟨fun pins s σ H v u Q I r q => h.run pins s σ H v u Q I r (i v σ H Q q)⟩
theorem PW.imp {t t' : TT} (h : PW X x t) (i : ∀ σ H Q, t' σ H Q → t σ H Q) : PW X x t' := ⟨fun wh pins s σ H Q I q => h.run wh pins s σ H Q I (i σ H Q q)⟩
/-- a comprehension's block -/
theorem XC.blk (hX : XC X m sc C ER Wx) (s : Shared) (H : Hp) (scope : Scope) (cl : List (Str × Addr)) (D : Addr) (fp : List Addr) : XC (X.blk s H scope (compEnvC scope cl D X.env) fp) m (relS scope sc) C ER W0 where
  hN := hX.hN
  nd := hX.nd
  hsc := by rw [← hX.hsc]; rfl
  ecl := hX.ecl
  calm := hX.calm
  un := hX.un
  blt := hX.blt
  tk := takes0
  fns := hX.fns
  gls := hX.gls
theorem kindB_of {sc : Scope} {y : Str} {k : NameKind} (h : kindB sc y k = true) : sc.names.lookup y = some k := by
  unfold kindB at h
  split at h
  · rename_i k' ek
    rw [ek]
    have : k' = k := by simpa using h
    rw [this]
  · cases h
theorem blk_loc (hX : XO X m sc) {s : Shared} {H : Hp} {scope : Scope} {cl : List (Str × Addr)} {D : Addr} {fp : List Addr} : LocOk (X.blk s H scope (compEnvC scope cl D X.env) fp) (blkLoc scope sc) := fun y h => by
  have e : (X.blk s H scope (compEnvC scope cl D X.env) fp).env.scope = relS scope sc := by rw [← hX.hsc]; rfl
  have h : (kindB (relS scope sc) y .local || (kindB scope y .cell && kindB (relS scope sc) y .cell)) = true := h
  rw [Bool.or_eq_true, Bool.and_eq_true] at h
  unfold L2.Loc
  rw [e]
  rcases h with h | ⟨h1, h2⟩
  · have q := kindB_of h
    exact ⟨.inl q, .inr q⟩
  · refine ⟨.inr (kindB_of h2), .inl ?_⟩
    show (scope.names.lookup y == some .cell) = true
    rw [kindB_of h1]
    rfl
def boolB : Expr → Bool
  | .BoolOp _ _ _ => true
  | _ => false
structure OkE (ER : ERel) (C : Ctx) (Wx : WX) (X : Cx) (x : Expr) (e : E) : Prop where
  pe : PE X x (tE X.K ER C Wx e)
  pt : PT X x (tT X.K ER C Wx e)
  pw : boolB x = true → PW X x (tT X.K ER C Wx e)
theorem OkE.plain (hp : plainT e = true) (hx : plainX x = true) (h : PE X x (tE X.K ER C Wx e)) : OkE ER C Wx X x e :=
  ⟨h, PT.imp (pt_truth h (isTrue_of hx)) fun σ H Q q => tT_val hp q, fun hb => by cases x <;> first | (cases hb; done) | (cases hx; done)⟩
theorem own_map {N : List Str} {vs : List Nat} : (ownOf N vs).map (·.2) = vs := by
  unfold ownOf
  rw [List.map_map]
  exact List.map_id' vs
def setB : Expr → Bool
  | .Set _ _ _ => true
  | _ => false
theorem folded_of {env : Env} (h : setB x = false) : ∀ u, foldedSetIterable x env u = pure u := by
  cases x <;> first
    | (exact fun _ => rfl)
    | (cases h; done)
theorem noSet {e : E} (h : chkE m sc e x = true) : setB x = false := by
  cases e with
  | op o es =>
    obtain ⟨xs, e, _⟩ := chk_op h
    cases x <;> first
      | rfl
      | (exfalso; cases o <;> cases e)
  | int => obtain ⟨_, _, e⟩ := chk_int h; rw [e]; rfl
  | bl => obtain ⟨_, _, e⟩ := chk_bl h; rw [e]; rfl
  | non => obtain ⟨_, _, e⟩ := chk_non h; rw [e]; rfl
  | str => obtain ⟨_, _, e⟩ := chk_str h; rw [e]; rfl
  | loc => obtain ⟨_, _, e, _⟩ := chk_loc h; rw [e]; rfl
  | mv => obtain ⟨_, _, e, _⟩ := chk_mv h; rw [e]; rfl
  | glb => obtain ⟨_, _, e, _⟩ := chk_glb h; rw [e]; rfl
  | tup => obtain ⟨_, _, _, e, _⟩ := chk_tup h; rw [e]; rfl
  | lst => obtain ⟨_, _, e, _⟩ := chk_lst h; rw [e]; rfl
  | chain => obtain ⟨_, _, _, _, _, _, e, _⟩ := chk_chain h; rw [e]; rfl
  | and => obtain ⟨_, _, _, _, e, _⟩ := chk_and h; rw [e]; rfl
  | or => obtain ⟨_, _, _, _, e, _⟩ := chk_or h; rw [e]; rfl
  | not => obtain ⟨_, _, e, _⟩ := chk_not h; rw [e]; rfl
  | ite => obtain ⟨_, _, _, _, e, _⟩ := chk_ite h; rw [e]; rfl
  | call => obtain ⟨_, _, _, _, _, e, _⟩ := chk_call h; rw [e]; rfl
  | get1 => obtain ⟨_, _, _, _, e, _⟩ := chk_get1 h; rw [e]; rfl
  | get2 => obtain ⟨_, _, _, _, _, e, _⟩ := chk_get2 h; rw [e]; rfl
  | dnew => obtain ⟨_, _, _, e, _⟩ := chk_dnew h; rw [e]; rfl
  | comp => obtain ⟨_, _, _, _, _, _, e, _⟩ := chk_comp h; rw [e]; rfl
theorem chk_rng1 {a : E} (h : chkSrc m sc (.rng1 a) x = true) : ∃ y p z pos, x = .Call (.Name y p) [z] [] pos ∧ bltB sc "range" y = true ∧ chkE m sc a z = true := by
  unfold chkSrc at h
  split at h <;> first | (exact absurd h Bool.false_ne_true) | (rename_i heq; cases heq)
  simp only [Bool.and_eq_true] at h
  exact ⟨_, _, _, _, rfl, h.1, h.2⟩
theorem chk_rng2 {a b : E} (h : chkSrc m sc (.rng2 a b) x = true) : ∃ y p z t pos, x = .Call (.Name y p) [z, t] [] pos ∧ bltB sc "range" y = true ∧ chkE m sc a z = true ∧ chkE m sc b t = true := by
  unfold chkSrc at h
  split at h <;> first | (exact absurd h Bool.false_ne_true) | (rename_i heq; cases heq)
  simp only [Bool.and_eq_true] at h
  exact ⟨_, _, _, _, _, rfl, h.1.1, h.1.2, h.2⟩
theorem chk_enum {a : E} (h : chkSrc m sc (.enum a) x = true) : ∃ y p z pos, x = .Call (.Name y p) [z] [] pos ∧ bltB sc "enumerate" y = true ∧ chkE m sc a z = true := by
  unfold chkSrc at h
  split at h <;> first | (exact absurd h Bool.false_ne_true) | (rename_i heq; cases heq)
  simp only [Bool.and_eq_true] at h
  exact ⟨_, _, _, _, rfl, h.1, h.2⟩
theorem chk_zip {a b : E} (h : chkSrc m sc (.zip a b) x = true) : ∃ y p z t pos, x = .Call (.Name y p) [z, t] [] pos ∧ bltB sc "zip" y = true ∧ chkE m sc a z = true ∧ chkE m sc b t = true := by
  unfold chkSrc at h
  split at h <;> first | (exact absurd h Bool.false_ne_true) | (rename_i heq; cases heq)
  simp only [Bool.and_eq_true] at h
  exact ⟨_, _, _, _, _, rfl, h.1.1, h.1.2, h.2⟩
theorem chk_zip3 {a b c : E} (h : chkSrc m sc (.zip3 a b c) x = true) : ∃ y p z t u pos, x = .Call (.Name y p) [z, t, u] [] pos ∧ bltB sc "zip" y = true ∧ chkE m sc a z = true ∧ chkE m sc b t = true ∧ chkE m sc c u = true := by
  unfold chkSrc at h
  split at h <;> first | (exact absurd h Bool.false_ne_true) | (rename_i heq; cases heq)
  simp only [Bool.and_eq_true] at h
  exact ⟨_, _, _, _, _, _, rfl, h.1.1.1, h.1.1.2, h.1.2, h.2⟩
theorem chk_seq {a : E} (h : chkSrc m sc (.seq a) x = true) : chkE m sc a x = true := by
  unfold chkSrc at h
  exact h
theorem src_noSet {src : Src} (h : chkSrc m sc src x = true) : setB x = false := by
  cases src with
  | seq e => exact noSet (chk_seq h)
  | rng1 => obtain ⟨_, _, _, _, e, _⟩ := chk_rng1 h; rw [e]; rfl
  | rng2 => obtain ⟨_, _, _, _, _, e, _⟩ := chk_rng2 h; rw [e]; rfl
  | enum => obtain ⟨_, _, _, _, e, _⟩ := chk_enum h; rw [e]; rfl
  | zip => obtain ⟨_, _, _, _, _, e, _⟩ := chk_zip h; rw [e]; rfl
  | zip3 => obtain ⟨_, _, _, _, _, _, e, _⟩ := chk_zip3 h; rw [e]; rfl
theorem stars1 {a : Expr} (h : NoStar a) {env : Env} : starEach [a] env = [(false, eval a env)] := by rw [h]; rfl
theorem stars2 {a b : Expr} (h : NoStar a) (h' : NoStar b) {env : Env} : starEach [a, b] env = [(false, eval a env), (false, eval b env)] := by rw [h, h']; rfl
/-! methods of dicts, displays of dicts -/
theorem base_of {o : Expr} (h : baseB o = true) {f : Str} {env : Env} (w : Sem Value) : attributeBase o f env w = w := by
  cases o <;> first
    | (cases h; done)
    | rfl
theorem m1_of {X : Cx} {o e : Expr} {f : Str} {ap cp : Pos} (h : baseB o = true) (hl : (ap.endLine == cp.line) = true) (hn : NoStar e) : M1 X o f ap e cp :=
  ⟨base_of h _, by rw [stars1 hn]; rfl, hl, by rw [stars1 hn]; rfl⟩
theorem m2_of {X : Cx} {o e g : Expr} {f : Str} {ap cp : Pos} (h : baseB o = true) (hl : (ap.endLine == cp.line) = true) (hn : NoStar e) (hn2 : NoStar g) : M2 X o f ap e g cp :=
  ⟨base_of h _, by rw [stars2 hn hn2]; rfl, hl, by rw [stars2 hn hn2]; rfl⟩
theorem keysB_len : ∀ {ks : List Str} {xs : List (Option Expr)}, keysB ks xs = true → xs.length = ks.length
  | [], [], _ => rfl
  | [], _ :: _, h => by cases h
  | _ :: _, [], h => by cases h
  | k :: ks, none :: xs, h => by cases h
  | k :: ks, some x :: xs, h => by
    unfold keysB at h
    split at h
    · rename_i heq; cases heq
    · rename_i heq1 heq2
      cases heq1
      cases heq2
      rw [Bool.and_eq_true] at h
      exact congrArg (· + 1) (keysB_len h.2)
    · cases h
theorem keysB_some : ∀ {ks : List Str} {xs : List (Option Expr)}, keysB ks xs = true → xs.all (·.isSome) = true
  | [], [], _ => rfl
  | [], _ :: _, h => by cases h
  | _ :: _, [], h => by cases h
  | k :: ks, none :: xs, h => by cases h
  | k :: ks, some x :: xs, h => by
    unfold keysB at h
    split at h
    · rename_i heq; cases heq
    · rename_i heq1 heq2
      cases heq1
      cases heq2
      rw [Bool.and_eq_true] at h
      rw [List.all_cons, keysB_some h.2]; rfl
    · cases h
theorem pps_of {X : Cx} {pos : Pos} : ∀ {ks : List Str} {xs : List (Option Expr)} {ys : List Expr} {ts : List TE}, keysB ks xs = true → xs.length = ys.length → PEl X ys ts → PPs X pos xs ys ((ks.map fun k => tC (.str k)).zip ts)
  | [], [], ys, ts, _, hl, hp => by
    cases ys with
    | nil => exact pps_nil
    | cons _ _ => cases hl
  | [], _ :: _, _, _, h, _, _ => by cases h
  | _ :: _, [], _, _, h, _, _ => by cases h
  | k :: ks, none :: xs, _, _, h, _, _ => by cases h
  | k :: ks, some x :: xs, [], _, _, hl, _ => by cases hl
  | k :: ks, some x :: xs, y :: ys, [], _, _, hp => hp.elim
  | k :: ks, some x :: xs, y :: ys, t :: ts, h, hl, hp => by
    unfold keysB at h
    split at h
    · rename_i heq; cases heq
    · rename_i heq1 heq2
      cases heq1
      cases heq2
      rw [Bool.and_eq_true, decide_eq_true_eq] at h
      obtain ⟨h1, h2⟩ := h
      subst h1
      exact pps_cons pe_str hp.1 (pps_of h2 (by simpa using hl) hp.2.2)
    · cases h
theorem pe_dnew {X : Cx} {pos : Pos} {ks : List Str} {xs : List (Option Expr)} {ys : List Expr} {ts : List TE} (h1 : keysB ks xs = true) (h2 : xs.length = ys.length) (h3 : xs.length ≤ 15) (hp : PEl X ys ts) : PE X (.Dict xs ys pos) (tDisp ((ks.map fun k => tC (.str k)).zip ts)) := by
  cases xs with
  | nil =>
    cases ys with
    | cons _ _ => cases h2
    | nil =>
      cases ks with
      | cons _ _ => cases h1
      | nil =>
        refine PE.imp pe_dnewK fun σ H Q q p hp => ?_
        obtain ⟨_, kvs, e, _, q⟩ := q p hp
        cases kvs with
        | cons _ _ => cases e
        | nil =>
          have : upd (upd H p (.dK [])) p (.dK (mergeK [] [])) = upd H p (.dK []) := by
            funext a
            by_cases h : a = p
            · subst h; rw [upd_same, upd_same]; rfl
            · rw [upd_ne h]
          rw [this] at q
          exact q
  | cons x xs => exact pe_disp (pps_of h1 h2 hp) (keysB_some h1) h2 (by simp) h3
mutual
theorem okE : ∀ (e : E) {sc : Scope} {Wx : WX} {X : Cx} {x : Expr}, XC X m sc C ER Wx → chkE m sc e x = true → OkE ER C Wx X x e
  | .int i, sc, Wx, X, x, hX, h => by
    obtain ⟨k, p, rfl⟩ := chk_int h
    exact .plain rfl rfl (PE.imp pe_int fun σ H Q q => tE_int q)
  | .bl i, sc, Wx, X, x, hX, h => by
    obtain ⟨k, p, rfl⟩ := chk_bl h
    exact .plain rfl rfl (PE.imp pe_bl fun σ H Q q => tE_bl q)
  | .non, sc, Wx, X, x, hX, h => by
    obtain ⟨k, p, rfl⟩ := chk_non h
    exact .plain rfl rfl (PE.imp pe_non fun σ H Q q => tE_non q)
  | .str i, sc, Wx, X, x, hX, h => by
    obtain ⟨k, p, rfl⟩ := chk_str h
    exact .plain rfl rfl (PE.imp pe_str fun σ H Q q => tE_str q)
  | .loc i, sc, Wx, X, x, hX, h => by
    obtain ⟨y, p, rfl, hy⟩ := chk_loc h
    obtain ⟨a, b, c, d⟩ := vis_of hX.toXO hy
    exact .plain rfl rfl (PE.imp (pe_var a b c d) fun σ H Q q => tE_loc q)
  | .mv i, sc, Wx, X, x, hX, h => by
    obtain ⟨y, p, rfl, hy⟩ := chk_mv h
    obtain ⟨a, b, c, d⟩ := vis_of hX.toXO hy
    exact .plain rfl rfl (PE.imp (pe_var a b c d) fun σ H Q q => tE_mv q)
  | .glb g, sc, Wx, X, x, hX, h => by
    obtain ⟨y, p, rfl, hy⟩ := chk_glb h
    obtain ⟨a, b, c⟩ := glName_of hX.toXO hy
    cases hg : C.glob g with
    | none =>
      refine .plain rfl rfl ⟨fun pins s σ H Q I q => ?_⟩
      obtain ⟨Γ, F, n, G, P⟩ := q
      rw [ev] at P
      simp only [hg] at P
      exact P.elim
    | some d =>
      obtain ⟨u, v, h1, h2, h3⟩ := hX.gls g y d a hg
      exact .plain rfl rfl (PE.imp (pe_glob b h1 h2 c) fun σ H Q q => tE_glb q fun d' e => by
        rw [hg] at e
        cases e
        exact h3 _)
  | .op o es, sc, Wx, X, x, hX, h => by
    obtain ⟨xs, e1, e2, e3⟩ := chk_op h
    obtain ⟨pl, _⟩ := okEs es hX e2
    have pe : PE X x (tE X.K ER C Wx (.op o es)) := PE.imp (pe_opO hX.toXO e3 e1 pl) fun σ H Q q => tEs_all es (tE_op q)
    cases hc : isCmp o with
    | false => exact .plain rfl (op_plain hc e1) pe
    | true =>
      refine ⟨pe, PT.imp (pt_opO hX.toXO hc e1 pl) fun σ H Q q => ?_, fun hb => ?_⟩
      · exact tEs_all es (tE_op (tT_bool rfl (fun Γ w Γ1 z => op_bool hc z) q))
      · exfalso
        cases x <;> first
          | (cases hb; done)
          | (cases o <;> cases e1)
  | .tup es, sc, Wx, X, x, hX, h => by
    obtain ⟨xs, k, p, rfl, e1, e2⟩ := chk_tup h
    obtain ⟨pl, l⟩ := okEs es hX e1
    exact .plain rfl rfl (PE.imp (pe_tup pl.pa) fun σ H Q q => tEs_all es (tE_tup (by rw [← l]; exact e2) q))
  | .lst es, sc, Wx, X, x, hX, h => by
    obtain ⟨xs, p, rfl, e1, e2⟩ := chk_lst h
    obtain ⟨pl, l⟩ := okEs es hX e1
    exact .plain rfl rfl (PE.imp (pe_lst pl.pa) fun σ H Q q => tEs_all es (tE_lst (by rw [← l]; exact e2) q))
  | .chain o o' a b c, sc, Wx, X, x, hX, h => by
    obtain ⟨p, q, y, z, t, pos, rfl, h1, h2, h3, h4, h5⟩ := chk_chain h
    have hm : lastMarks [p, q] [z, t] = false := nomark t (cop_ne h2).1 (cop_ne h2).2
    have pa := (okE a hX h3).pe
    have pb := (okE b hX h4).pe
    have pc := (okE c hX h5).pe
    exact ⟨PE.imp (pe_chain (op_cR hX.toXO h1) (op_cR hX.toXO h2) pa pb pc hm) fun σ H Q q => tE_chain q,
      PT.imp (pt_chain (op_cR hX.toXO h1) (op_cR hX.toXO h2) pa pb pc hm) fun σ H Q q => tE_chain (tT_bool rfl (fun Γ w Γ1 z => chain_bool z) q), fun hb => by cases hb⟩
  | .and a b, sc, Wx, X, x, hX, h => by
    obtain ⟨y, z, r, p, rfl, h1, h2⟩ := chk_and h
    have A := okE a hX h1
    cases r with
    | nil =>
      have B := okE b hX h2
      have w := fun _ : boolB (.BoolOp .And [y, z] p) = true => PW.imp (pw_and A.pt (pw_and1 B.pt (pos := p))) fun σ H Q q => tT_and q
      exact ⟨PE.imp (pe_and A.pe (pe_one B.pe)) fun σ H Q q => tE_and q, (w rfl).pt, w⟩
    | cons t r =>
      have B := okE b hX h2
      have w := fun _ : boolB (.BoolOp .And (y :: z :: t :: r) p) = true => PW.imp (pw_and A.pt (B.pw rfl)) fun σ H Q q => tT_and q
      exact ⟨PE.imp (pe_and A.pe B.pe) fun σ H Q q => tE_and q, (w rfl).pt, w⟩
  | .or a b, sc, Wx, X, x, hX, h => by
    obtain ⟨y, z, r, p, rfl, h1, h2⟩ := chk_or h
    have A := okE a hX h1
    cases r with
    | nil =>
      have B := okE b hX h2
      have w := fun _ : boolB (.BoolOp .Or [y, z] p) = true => PW.imp (pw_or A.pt (pw_or1 B.pt (pos := p))) fun σ H Q q => tT_or q
      exact ⟨PE.imp (pe_or A.pe (pe_one B.pe)) fun σ H Q q => tE_or q, (w rfl).pt, w⟩
    | cons t r =>
      have B := okE b hX h2
      have w := fun _ : boolB (.BoolOp .Or (y :: z :: t :: r) p) = true => PW.imp (pw_or A.pt (B.pw rfl)) fun σ H Q q => tT_or q
      exact ⟨PE.imp (pe_or A.pe B.pe) fun σ H Q q => tE_or q, (w rfl).pt, w⟩
  | .not a, sc, Wx, X, x, hX, h => by
    obtain ⟨y, p, rfl, h1⟩ := chk_not h
    have A := okE a hX h1
    exact ⟨PE.imp (pe_not A.pe) fun σ H Q q => tE_not q, PT.imp (pt_not A.pt) fun σ H Q q => tT_not q, fun hb => by cases hb⟩
  | .ite c a b, sc, Wx, X, x, hX, h => by
    obtain ⟨y, z, t, p, rfl, h1, h2, h3⟩ := chk_ite h
    refine ⟨PE.imp (pe_ifExp (okE c hX h1).pt (okE a hX h2).pe (okE b hX h3).pe) fun σ H Q q => tE_ite q, ⟨fun pins s σ H Q I q => ?_⟩, fun hb => by cases hb⟩
    obtain ⟨Γ, F, n, G, P⟩ := q
    rw [evT] at P
    exact P.elim
  | .call f es, sc, Wx, X, x, hX, h => by
    obtain ⟨y, p, z, xs, pos, rfl, h1, h2⟩ := chk_call h
    obtain ⟨a, b, c⟩ := glName_of hX.toXO h1
    obtain ⟨md, k, ad, fd, ps, e1, e2, e3, e4, e5, e6⟩ := hX.fns f y a
    obtain ⟨pl, _⟩ := okEs es hX h2
    have ns : NoStar z := by
      cases hh : tsOf X.K ER C Wx es with
      | nil => rw [hh] at pl; exact pl.elim
      | cons t ts => rw [hh] at pl; exact pl.2.1
    have st : (backTo pos (starEach xs X.env)).any (·.1) = false := by
      cases hh : tsOf X.K ER C Wx es with
      | nil => rw [hh] at pl; exact pl.elim
      | cons t ts => rw [hh] at pl; exact pl.2.2.stars pos X.env
    exact .plain rfl rfl (PE.imp (pe_callSD (dvs := []) (ds := []) (E := WE Wx) e2 e3 b e4 e5 e6 .nil (fun σ => passAt hX.tk σ) pl.pa c (ns _ _) st) fun σ H Q q => tEs_all es (tE_call e1 q))
  | .get1 a b, sc, Wx, X, x, hX, h => by
    obtain ⟨o, ap, y, cp, rfl, h1, h2, h3, h4⟩ := chk_get1 h
    have A := okE a hX h3
    have B := okE b hX h4
    exact .plain rfl rfl (PE.imp (pe_dget1 (by have := hX.un; omega) A.pe B.pe (m1_of h2 h1 (noStar h4))) fun σ H Q q => tE_get1 q)
  | .get2 a b c, sc, Wx, X, x, hX, h => by
    obtain ⟨o, ap, y, z, cp, rfl, h1, h2, h3, h4, h5⟩ := chk_get2 h
    have A := okE a hX h3
    have B := okE b hX h4
    have D := okE c hX h5
    exact .plain rfl rfl (PE.imp (pe_dget2 (by have := hX.un; omega) A.pe B.pe D.pe (m2_of h2 h1 (noStar h4) (noStar h5))) fun σ H Q q => tE_get2 q)
  | .dnew t ks es, sc, Wx, X, x, hX, h => by
    obtain ⟨xs, ys, p, rfl, h1, h2, h3, h4⟩ := chk_dnew h
    obtain ⟨pl, l⟩ := okEs es hX h2
    exact .plain rfl rfl (PE.imp (pe_dnew h1 h3 h4 pl) fun σ H Q q => tE_dnew (by rw [← l, ← h3, keysB_len h1]) q)
  | .comp vs tg src cd elt, sc, Wx, X, x, hX, h => by
    obtain ⟨e, t, i, ifs, scope, p, rfl, h1, h2, h3, h4, h5, h6, h7⟩ := chk_comp h
    have hi : PI X t i (tSrc X.K ER C Wx src) := okSrc src hX h5 tg t _ h4 h2
    have ok : BlkOk X.N X.env.scope scope (ownOf m.N vs) := blkOk_by (by rw [hX.hN, hX.hsc]; exact h1)
    have ht : ∀ (s : Shared) (H : Hp) (D : Addr) (cl : List (Str × Addr)) (fp : List Addr), PTs (X.blk s H scope (compEnvC scope cl D X.env) fp) ifs (tT X.K ER C W0 cd) := fun s H D cl fp => by
      rcases h7 with ⟨e1, e2⟩ | ⟨c, e1, e2⟩
      · subst e1
        subst e2
        refine ⟨fun pins s σ H Q I q => pts_nil.run pins s σ H Q I ?_⟩
        obtain ⟨Γ, F, n, G, P⟩ := q
        rw [evT_plain rfl, ev, bind_ok] at P
        exact bPost.end G rfl G.top (Dl.refl G.top G.off) P
      · subst e1
        exact pts_one (okE cd (hX.blk s H scope cl D fp) e2).pt
    have pe := pe_lc (pos := p) (elt := e) (g := gTg X.K tg) (tt := tT X.K ER C W0 cd) (te := tE X.K ER C W0 elt) hX.calm (by rw [hX.hN]; exact hX.nd) hi ok (fun s H D cl fp => pg_ok (hX.blk s H scope cl D fp).toXO (blk_loc hX.toXO) h2) ht
      (fun s H D cl fp => (okE elt (hX.blk s H scope cl D fp) h6).pe) (folded_of (src_noSet h5))
    rw [own_map] at pe
    exact .plain rfl rfl (PE.imp pe fun σ H Q q => tE_comp h3 q)
theorem okEs : ∀ (es : Es) {sc : Scope} {Wx : WX} {X : Cx} {xs : List Expr}, XC X m sc C ER Wx → chkEs m sc es xs = true → PEl X xs (tsOf X.K ER C Wx es) ∧ xs.length = es.len
  | .nil, sc, Wx, X, xs, hX, h => by
    unfold chkEs at h
    split at h <;> first | (exact absurd h Bool.false_ne_true) | (rename_i heq; cases heq)
    exact ⟨trivial, rfl⟩
  | .cons e es, sc, Wx, X, xs, hX, h => by
    unfold chkEs at h
    split at h <;> first | (exact absurd h Bool.false_ne_true) | (rename_i heq; cases heq)
    rw [Bool.and_eq_true] at h
    obtain ⟨a, b⟩ := okEs es hX h.2
    exact ⟨⟨(okE e hX h.1).pe, noStar h.1, a⟩, congrArg (· + 1) b⟩
  | .io i es, sc, Wx, X, xs, hX, h => by
    unfold chkEs at h
    split at h <;> first | (exact absurd h Bool.false_ne_true) | (rename_i heq; cases heq)
    rw [Bool.and_eq_true] at h
    obtain ⟨a, b⟩ := okEs es hX h.2
    obtain ⟨c1, c2, c3, c4⟩ := vis_of hX.toXO h.1
    exact ⟨⟨pe_var c1 c2 c3 c4, fun _ _ => rfl, a⟩, congrArg (· + 1) b⟩
  | .tmp e es, sc, Wx, X, xs, hX, h => by
    unfold chkEs at h
    split at h <;> first | (exact absurd h Bool.false_ne_true) | (rename_i heq; cases heq)
    rw [Bool.and_eq_true] at h
    obtain ⟨a, b⟩ := okEs es hX h.2
    exact ⟨⟨(okE e hX h.1).pe, noStar h.1, a⟩, congrArg (· + 1) b⟩
theorem okSrc : ∀ (src : Src) {sc : Scope} {Wx : WX} {X : Cx} {x : Expr}, XC X m sc C ER Wx → chkSrc m sc src x = true → ∀ (tg : Tg) (t : Expr) (loc : Str → Bool), tgFit tg src = true → chkTg m.N loc tg t = true → PI X t x (tSrc X.K ER C Wx src)
  | .seq e, sc, Wx, X, x, hX, h => fun tg t loc hf ht => PI.imp (pi_seq (okE e hX (chk_seq h)).pe) fun σ H Q q => tSrc_seq q
  | .rng1 a, sc, Wx, X, x, hX, h => fun tg t loc hf ht => by
    obtain ⟨y, p, z, pos, rfl, h1, h2⟩ := chk_rng1 h
    obtain ⟨rfl, hg, hm, _⟩ := blt_of hX.toXO (by decide) h1
    have A := (okE a hX h2).pe
    exact PI.imp (pi_range1 hg hm (pa_cons A pa_nil (noStar h2 _ _)) (stars1 (noStar h2))) fun σ H Q q => tSrc_rng1 q
  | .rng2 a b, sc, Wx, X, x, hX, h => fun tg t loc hf ht => by
    obtain ⟨y, p, z, t, pos, rfl, h1, h2, h3⟩ := chk_rng2 h
    obtain ⟨rfl, hg, hm, _⟩ := blt_of hX.toXO (by decide) h1
    have A := (okE a hX h2).pe
    have B := (okE b hX h3).pe
    exact PI.imp (pi_range2 hg hm (pa_cons A (pa_cons B pa_nil (noStar h3 _ _)) (noStar h2 _ _)) (stars2 (noStar h2) (noStar h3)) (stars1 (noStar h3))) fun σ H Q q => tSrc_rng2 q
  | .enum a, sc, Wx, X, x, hX, h => fun tg t loc hf ht => by
    obtain ⟨y, p, z, pos, rfl, h1, h2⟩ := chk_enum h
    obtain ⟨rfl, hg, hm, _⟩ := blt_of hX.toXO (by decide) h1
    have A := (okE a hX h2).pe
    cases tg with
    | one i => cases hf
    | tup is =>
      obtain ⟨es, k, p', rfl⟩ := tgTuple ht
      exact PI.imp (pi_enum hg hm (pa_cons A pa_nil (noStar h2 _ _)) (stars1 (noStar h2))) fun σ H Q q => tSrc_enum q
  | .zip a b, sc, Wx, X, x, hX, h => fun tg t loc hf ht => by
    obtain ⟨y, p, z, t', pos, rfl, h1, h2, h3⟩ := chk_zip h
    obtain ⟨rfl, hg, hm, _⟩ := blt_of hX.toXO (by decide) h1
    have A := (okE a hX h2).pe
    have B := (okE b hX h3).pe
    cases tg with
    | one i => cases hf
    | tup is =>
      obtain ⟨es, k, p', rfl⟩ := tgTuple ht
      exact PI.imp (pi_zip hg hm (pa_cons A (pa_cons B pa_nil (noStar h3 _ _)) (noStar h2 _ _)) (noStar h2 _ _) (by rw [stars1 (noStar h3)]; rfl)) fun σ H Q q => tSrc_zip q
  | .zip3 a b c, sc, Wx, X, x, hX, h => fun tg t loc hf ht => by
    obtain ⟨y, p, z, t', u, pos, rfl, h1, h2, h3, h4⟩ := chk_zip3 h
    obtain ⟨rfl, hg, hm, _⟩ := blt_of hX.toXO (by decide) h1
    have A := (okE a hX h2).pe
    have B := (okE b hX h3).pe
    have C' := (okE c hX h4).pe
    cases tg with
    | one i => cases hf
    | tup is =>
      obtain ⟨es, k, p', rfl⟩ := tgTuple ht
      exact PI.imp (pi_zip3 hg hm (pa_cons A (pa_cons B (pa_cons C' pa_nil (noStar h4 _ _)) (noStar h3 _ _)) (noStar h2 _ _)) (noStar h2 _ _) (by rw [stars2 (noStar h3) (noStar h4)]; rfl)) fun σ H Q q => tSrc_zip3 q
end
end
end Own

end
section
set_option maxHeartbeats 1000000
namespace Own
open PySem PySem.Spec L2

/-- what a step leaves: B the slots that are never assigned -/
structure Aft (K : PySem.W.Frag) (N : Nat) (M : Nat → Prop) (B : List Nat) (σ : L2.St) (H : Hp) (F : Fpt) (n : Nat) (Γ' : Gm) (σ' : L2.St) (H' : Hp) (F' : Fpt) (m : Nat) : Prop where
  gd : Gd K Γ' σ' H' F' m
  dl : Dl N M H F n H' F'
  st : ∀ j ∈ B, σ'[j]? = σ[j]?
  hl : Γ'.length = N
def fPost (K : PySem.W.Frag) (ER : ERel) (Wx : WX) (N : Nat) (M : Nat → Prop) (B : List Nat) (σ : L2.St) (H : Hp) (F : Fpt) (n : Nat) (D : Ends) : Res Fl → Prop
  | .ok (.nx Γ') => ∀ σ' H' F', Aft K N M B σ H F n Γ' σ' H' F' n → D.nx σ' H'
  | .ok (.brk Γ') => ∀ σ' H' F', Aft K N M B σ H F n Γ' σ' H' F' n → D.bk σ' H'
  | .ok (.cont Γ') => ∀ σ' H' F', Aft K N M B σ H F n Γ' σ' H' F' n → D.ct σ' H'
  | .ok (.ret w Γ') => ∀ v σ' H' F', Aft K N M B σ H F n Γ' σ' H' F' (n + 1) → At K N H' F' n w v → D.rt v H'
  | .exc c as Γ' => ∀ cls dx σ' H' F', ER H' c as cls dx → Aft K N M B σ H F n Γ' σ' H' F' n → Wx cls dx σ' H'
  | .stuck => False
def tS (K : PySem.W.Frag) (ER : ERel) (C : Ctx) (Wx : WX) (B : List Nat) (s : S) : TS := fun D σ H => ∃ Γ F n, Gd K Γ σ H F n ∧ fPost K ER Wx Γ.length (mem (mutS s)) B σ H F n D (exS C s Γ)
def tSs (K : PySem.W.Frag) (ER : ERel) (C : Ctx) (Wx : WX) (B : List Nat) (s : Ss) : TS := fun D σ H => ∃ Γ F n, Gd K Γ σ H F n ∧ fPost K ER Wx Γ.length (mem (mutSs s)) B σ H F n D (exSs C s Γ)
section
variable {K : PySem.W.Frag} {ER : ERel} {C : Ctx} {Wx : WX} {N n m k i p q : Nat} {Γ Γ0 Γ1 Γ2 Γ' : Gm} {σ σ' σ1 σ2 : L2.St} {H H' H0 H1 H2 R : Hp} {F F' F0 F1 F2 : Fpt} {w w1 w2 : W} {v x : V} {d : D} {us us' : List V} {ds xs xs' : List D} {vs rs rs' is B : List Nat} {M M1 M2 : Nat → Prop} {l : Nat} {e a b c : E} {J : It} {D : Ends} {r : Res Fl} {s : S} {ss t u : Ss}
theorem Aft.trans (A : Aft K N M B σ H F n Γ1 σ1 H1 F1 n) (A2 : Aft K N M2 B σ1 H1 F1 n Γ2 σ2 H2 F2 m) (hN : N ≤ n) (hM : ∀ j, M2 j → M j) : Aft K N M B σ H F n Γ2 σ2 H2 F2 m :=
  ⟨A2.gd, (A.dl.trans A2.dl hN (Nat.le_refl n)).weak fun j _ z => z.elim id (hM j), fun j hj => (A2.st j hj).trans (A.st j hj), A2.hl⟩
theorem Aft.weakM (A : Aft K N M B σ H F n Γ1 σ1 H1 F1 m) (h : ∀ j, M j → M2 j) : Aft K N M2 B σ H F n Γ1 σ1 H1 F1 m := ⟨A.gd, A.dl.weak fun j _ z => h j z, A.st, A.hl⟩
theorem fPost.shift (A : Aft K N M B σ H F n Γ1 σ1 H1 F1 n) (hN : N ≤ n) (hM : ∀ j, M2 j → M j) (h : fPost K ER Wx N M B σ H F n D r) : fPost K ER Wx N M2 B σ1 H1 F1 n D r := by
  cases r with
  | stuck => exact h
  | exc c as g => exact fun cls dx σ' H' F' e A' => h cls dx σ' H' F' e (A.trans A' hN hM)
  | ok fl =>
    cases fl with
    | nx g => exact fun σ' H' F' A' => h σ' H' F' (A.trans A' hN hM)
    | brk g => exact fun σ' H' F' A' => h σ' H' F' (A.trans A' hN hM)
    | cont g => exact fun σ' H' F' A' => h σ' H' F' (A.trans A' hN hM)
    | ret w g => exact fun v σ' H' F' A' a => h v σ' H' F' (A.trans A' hN hM) a
theorem Aft.refl (G : Gd K Γ σ H F n) : Aft K Γ.length M B σ H F n Γ σ H F n := ⟨G, Dl.refl G.top G.off, fun _ _ => rfl, rfl⟩
/-- first an expression -/
theorem tE.stm {f : W × Gm → Res Fl} {Q' : VK} (G : Gd K Γ σ H F n) (hM : ∀ m ∈ mutE e, M m) (P0 : fPost K ER Wx Γ.length M B σ H F n D ((ev C e Γ).bind f))
    (h : ∀ w Γ1 v H1 F1, Γ1.length = Γ.length → fPost K ER Wx Γ.length M B σ H F n D (f (w, Γ1)) → Gd K Γ1 σ H1 F1 (n + 1) → At K Γ.length H1 F1 n w v → Dl Γ.length M H F n H1 F1 → Q' v H1) : tE K ER C Wx e σ H Q' := by
  refine ⟨Γ, F, n, G, ?_⟩
  cases he : ev C e Γ with
  | stuck => rw [he] at P0; exact P0
  | exc c as Γ' =>
    rw [he] at P0
    exact fun cls dx H' F' er g d => P0 cls dx σ H' F' er ⟨g, d.weak fun m _ z => hM m z, fun _ _ => rfl, G.same g⟩
  | ok p =>
    obtain ⟨w, Γ1⟩ := p
    rw [he, bind_ok] at P0
    intro v H1 F1 G1 A1 D1
    exact h w Γ1 v H1 F1 (G.same G1) P0 G1 A1 (D1.weak fun m _ z => hM m z)
/-- .. and then another, its value still in hand -/
theorem tE.stm2 {f : W × Gm → Res Fl} {Q' : VK} (hN : N ≤ n) (hl : Γ1.length = N) (G1 : Gd K Γ1 σ H1 F1 (n + 1)) (D1 : Dl N M H F n H1 F1) (hM : ∀ m ∈ mutE e, M m) (P0 : fPost K ER Wx N M B σ H F n D ((ev C e Γ1).bind f))
    (h : ∀ w Γ2 v H2 F2, Γ2.length = N → fPost K ER Wx N M B σ H F n D (f (w, Γ2)) → Gd K Γ2 σ H2 F2 (n + 2) → At K N H2 F2 (n + 1) w v → Dl N (mem (mutE e)) H1 F1 (n + 1) H2 F2 → Dl N M H F n H2 F2 → Q' v H2) : tE K ER C Wx e σ H1 Q' := by
  refine ⟨Γ1, F1, n + 1, G1, ?_⟩
  cases he : ev C e Γ1 with
  | stuck => rw [he] at P0; exact P0
  | exc c as Γ' =>
    rw [he] at P0
    rw [hl]
    exact fun cls dx H' F' er g d => by
      have hg := (G1.same g).trans hl
      exact P0 cls dx σ H' (low n F') er ⟨g.drop (by omega), ((D1.trans d hN (Nat.le_succ n)).weak fun m _ z => z.elim id (hM m)).drop hN, fun _ _ => rfl, hg⟩
  | ok p =>
    obtain ⟨w, Γ2⟩ := p
    rw [he, bind_ok] at P0
    intro v H2 F2 G2 A2 D2
    rw [hl] at A2 D2
    exact h w Γ2 v H2 F2 ((G1.same G2).trans hl) P0 G2 A2 D2 ((D1.trans D2 hN (Nat.le_succ n)).weak fun m _ z => z.elim id (hM m))
theorem tT.stm {f : Bool × Gm → Res Fl} {Q' : Bool → Hp → Prop} (G : Gd K Γ σ H F n) (hM : ∀ m ∈ mutE e, M m) (P0 : fPost K ER Wx Γ.length M B σ H F n D ((evT C e Γ).bind f))
    (h : ∀ k Γ1 H1 F1, fPost K ER Wx Γ.length M B σ H F n D (f (k, Γ1)) → Aft K Γ.length M B σ H F n Γ1 σ H1 F1 n → Q' k H1) : tT K ER C Wx e σ H Q' := by
  refine ⟨Γ, F, n, G, ?_⟩
  cases he : evT C e Γ with
  | stuck => rw [he] at P0; exact P0
  | exc c as Γ' =>
    rw [he] at P0
    exact fun cls dx H' F' er g d => P0 cls dx σ H' F' er ⟨g, d.weak fun m _ z => hM m z, fun _ _ => rfl, G.same g⟩
  | ok p =>
    obtain ⟨k, Γ1⟩ := p
    rw [he, bind_ok] at P0
    intro H1 F1 G1 D1
    exact h k Γ1 H1 F1 P0 ⟨G1, D1.weak fun m _ z => hM m z, fun _ _ => rfl, G.same G1⟩
theorem Gd.aft (G1 : Gd K Γ1 σ' H1 F1 m) (hl : Γ1.length = N) (hN : N ≤ n) (D1 : Dl N M H F n H1 F1) (hB : ∀ j ∈ B, σ'[j]? = σ[j]?) : Aft K N M B σ H F n Γ1 σ' H1 (low n F1) n := ⟨G1.drop (by omega), D1.drop hN, hB, hl⟩
theorem tSs.go (A : Aft K N M B σ H F n Γ1 σ1 H1 F1 n) (hN : N ≤ n) (hM : ∀ j ∈ mutSs ss, M j) (P : fPost K ER Wx N M B σ H F n D (exSs C ss Γ1)) : tSs K ER C Wx B ss D σ1 H1 := ⟨Γ1, F1, n, A.gd, by rw [A.hl]; exact P.shift A hN hM⟩
theorem tSs_cons (h : tSs K ER C Wx B (.cons s ss) D σ H) : tSeq (tS K ER C Wx B s) (tSs K ER C Wx B ss) D σ H := by
  obtain ⟨Γ, F, n, G, P⟩ := h
  rw [exSs] at P
  refine ⟨Γ, F, n, G, ?_⟩
  have Ml : ∀ j ∈ mutS s, mem (mutSs (.cons s ss)) j := fun j hj => List.mem_append_left _ hj
  have Mr : ∀ j ∈ mutSs ss, mem (mutSs (.cons s ss)) j := fun j hj => List.mem_append_right _ hj
  generalize mem (mutSs (.cons s ss)) = M at *
  cases he : exS C s Γ with
  | stuck => rw [he] at P; exact P
  | exc c as g => rw [he] at P; exact fun cls dx σ' H' F' er A => P cls dx σ' H' F' er (A.weakM Ml)
  | ok fl =>
    rw [he, bind_ok] at P
    cases fl with
    | nx Γ1 => exact fun σ' H' F' A => tSs.go ⟨A.gd, A.dl.weak fun j _ z => Ml j z, A.st, A.hl⟩ G.top Mr P
    | brk Γ1 => exact fun σ' H' F' A => P σ' H' F' ⟨A.gd, A.dl.weak fun j _ z => Ml j z, A.st, A.hl⟩
    | cont Γ1 => exact fun σ' H' F' A => P σ' H' F' ⟨A.gd, A.dl.weak fun j _ z => Ml j z, A.st, A.hl⟩
    | ret w Γ1 => exact fun v σ' H' F' A a => P v σ' H' F' ⟨A.gd, A.dl.weak fun j _ z => Ml j z, A.st, A.hl⟩ a
theorem tSs_nil (h : tSs K ER C Wx B .nil D σ H) : tNext D σ H := by
  obtain ⟨Γ, F, n, G, P⟩ := h
  rw [exSs] at P
  exact P σ H F (Aft.refl G)
theorem tS_brk (h : tS K ER C Wx B .brk D σ H) : tBreak D σ H := by
  obtain ⟨Γ, F, n, G, P⟩ := h
  rw [exS] at P
  exact P σ H F (Aft.refl G)
theorem tS_cont (h : tS K ER C Wx B .cont D σ H) : tCont D σ H := by
  obtain ⟨Γ, F, n, G, P⟩ := h
  rw [exS] at P
  exact P σ H F (Aft.refl G)
theorem tS_pass (h : tS K ER C Wx B .pass D σ H) : tNext D σ H := by
  obtain ⟨Γ, F, n, G, P⟩ := h
  rw [exS] at P
  exact P σ H F (Aft.refl G)
theorem tS_expr (h : tS K ER C Wx B (.expr e) D σ H) : tDrop (tE K ER C Wx e) D σ H := by
  obtain ⟨Γ, F, n, G, P⟩ := h
  rw [exS] at P
  exact tE.stm G (fun _ z => z) P fun w Γ1 v H1 F1 hl P1 G1 A1 D1 => P1 _ _ _ (G1.aft hl G.top D1 fun _ _ => rfl)
theorem tS_ret (h : tS K ER C Wx B (.ret e) D σ H) : tRet (tE K ER C Wx e) D σ H := by
  obtain ⟨Γ, F, n, G, P⟩ := h
  rw [exS] at P
  exact tE.stm G (fun _ z => z) P fun w Γ1 v H1 F1 hl P1 G1 A1 D1 => P1 v σ H1 F1 ⟨G1, D1, fun _ _ => rfl, hl⟩ A1
theorem tS_retN (h : tS K ER C Wx B .retN D σ H) : tRetN D σ H := by
  obtain ⟨Γ, F, n, G, P⟩ := h
  rw [exS] at P
  have B := fin_imm (d := .non) (v := .non) G G.top rfl rfl
  exact P .non σ H _ ⟨B.gd, (Dl.refl G.top G.off).temps G.top B.nw.same B.nw.lo B.nw.fr, fun _ _ => rfl, rfl⟩ B.at_
theorem tS_iff (h : tS K ER C Wx B (.iff c t u) D σ H) : tIfS (tT K ER C Wx c) (tSs K ER C Wx B t) (tSs K ER C Wx B u) D σ H := by
  obtain ⟨Γ, F, n, G, P⟩ := h
  rw [exS] at P
  refine tT.stm G (fun m hm => List.mem_append_left _ hm) P fun k Γ1 H1 F1 P1 A1 => ?_
  cases k with
  | true => exact tSs.go A1 G.top (fun m hm => List.mem_append_right _ (List.mem_append_left _ hm)) P1
  | false => exact tSs.go A1 G.top (fun m hm => List.mem_append_right _ (List.mem_append_right _ hm)) P1
/-- slot i stored -/
theorem tS_set (hB : i ∉ B) (h : tS K ER C Wx B (.set i e) D σ H) : tAsg (tE K ER C Wx e) (gName i) D σ H := by
  obtain ⟨Γ, F, n, G, P⟩ := h
  rw [exS] at P
  refine tE.stm G (fun m hm => List.mem_cons_of_mem _ hm) P fun w Γ1 v H1 F1 hl P1 G1 A1 D1 => ?_
  have hi0 : mem (mutS (.set i e)) i := List.mem_cons_self
  have stB : ∀ j ∈ B, (σ.set i (some v))[j]? = σ[j]? := fun j hj => List.getElem?_set_ne fun z => hB (by rw [z]; exact hj)
  by_cases hi : i < Γ.length
  · obtain ⟨F2, G2, D2⟩ := setG_ok (D := D) G1 (by rw [hl]; exact A1) (by rw [hl]; exact G.top) (by rw [hl]; exact hi)
    exact P1 _ _ F2 ⟨G2, by have := D2 H F (mem (mutS (.set i e))) (by rw [hl]; exact D1) hi0; rw [hl] at this; exact this, stB, by rw [List.length_set, stl_len]; exact hl⟩
  · have e1 : σ.set i (some v) = σ := set_ge (by rw [G.len]; omega)
    obtain ⟨F2, G2, A2, s2⟩ := G1.stl (w := w) (by rw [hl]; exact A1) (by rw [hl]; exact G.top)
    rw [hl] at s2
    have P1 : ∀ σ' H' F', Aft K Γ.length (mem (mutS (.set i e))) B σ H F n ((stl w Γ1).2.set i (some (stl w Γ1).1)) σ' H' F' n → D.nx σ' H' := P1
    rw [set_ge (by rw [stl_len, hl]; omega)] at P1
    show D.nx (σ.set i (some v)) H1
    rw [e1]
    exact P1 _ _ _ (G2.aft (stl_len.trans hl) G.top (D1.shr s2) fun _ _ => rfl)
theorem tS_for {tg : Tg} {src : Src} {body : Ss} (hB : ∀ j ∈ tg.is, j ∉ B) (h : tS K ER C Wx B (.for_ tg src body) D σ H) : tFor (tSrc K ER C Wx src) (gTg K tg) (tSs K ER C Wx B body) D σ H := by
  obtain ⟨Γ, F, n, G, P⟩ := h
  rw [exS] at P
  refine ⟨Γ, F, n, G, ?_⟩
  have Mt : ∀ j ∈ tg.is, mem (mutS (.for_ tg src body)) j := fun j hj => List.mem_append_left _ hj
  have Ms : ∀ j ∈ mutSrc src, mem (mutS (.for_ tg src body)) j := fun j hj => List.mem_append_right _ (List.mem_append_left _ hj)
  have Mb : ∀ j ∈ mutSs body, mem (mutS (.for_ tg src body)) j := fun j hj => List.mem_append_right _ (List.mem_append_right _ hj)
  generalize mem (mutS (.for_ tg src body)) = M at *
  cases hs : evSrc C src Γ with
  | stuck => rw [hs] at P; exact P
  | exc c as g => rw [hs] at P; exact fun cls dx H' F' er g' d => P cls dx σ H' F' er ⟨g', d.weak fun j _ z => Ms j z, fun _ _ => rfl, G.same g'⟩
  | ok p =>
    obtain ⟨ds, rs, Γ1⟩ := p
    rw [hs, bind_ok] at P
    intro J H1 F1 G1 W1 D1
    have hl : Γ1.length = Γ.length := G.same G1
    have hN := G.top
    generalize Γ.length = N at *
    simp only at P
    split at P
    case isFalse => exact P.elim
    rename_i dj
    have dt : ∀ r ∈ rs, r ∉ tg.is := fun r hr z => disj_no dj hr (List.mem_append_left _ z)
    have db : ∀ r ∈ rs, r ∉ mutSs body := fun r hr z => disj_no dj hr (List.mem_append_right _ z)
    generalize hbody : (fun (d : Own.D) (Γ2 : Gm) => match setTg tg d rs Γ2 with
          | some Γ3 => exSs C body Γ3
          | none => Res.stuck) = bd at P
    refine ⟨fun i m σ' H' => ∃ Γ2 F2, i + m = ds.length ∧ Aft K N M B σ H F n Γ2 σ' H' F2 n ∧ Wk K N H' F2 rs J ds ∧ fPost K ER Wx N M B σ H F n D (forL bd (ds.drop i) Γ2), ⟨ds.length, Γ1, F1, by omega, ⟨G1, D1.weak fun j _ z => Ms j z, fun _ _ => rfl, hl⟩, W1, P⟩, fun i m σ1 H2 w => ?_⟩
    obtain ⟨Γ2, F2, im, A, wk, post⟩ := w
    by_cases hi : i < ds.length
    case neg =>
      left
      rw [List.drop_eq_nil_of_le (by omega)] at post
      exact ⟨wk.stop (by omega), post _ _ _ A⟩
    case pos =>
      right
      have ed : ds[i]? = some ds[i] := List.getElem?_eq_getElem hi
      generalize ds[i] = d at ed
      have edr : ds.drop i = d :: ds.drop (i + 1) := by
        rw [List.drop_eq_getElem_cons hi]
        congr 1
        have := List.getElem?_eq_getElem hi
        rw [ed] at this
        cases this; rfl
      rw [edr, forL] at post
      obtain ⟨go, yl⟩ := Wk.go A.gd (by rw [A.hl]; exact wk) ed
      refine ⟨go, fun σ' H' => ∃ m', m' < m ∧ ∃ Γ2 F2, i + 1 + m' = ds.length ∧ Aft K N M B σ H F n Γ2 σ' H' F2 n ∧ Wk K N H' F2 rs J ds ∧ fPost K ER Wx N M B σ H F n D (forL bd (ds.drop (i + 1)) Γ2), fun σ' H' z => z, fun x H3 hy => ?_⟩
      obtain ⟨sm, V⟩ := yl x H3 hy
      have gd3 := A.gd.grow sm
      have wk3 := wk.grow sm
      have dl3 := A.dl.grow hN sm
      rw [← hbody] at post
      simp only at post
      rw [hbody] at post
      cases hset : setTg tg d rs Γ2 with
      | none => simp only [hset] at post; exact post.elim
      | some Γ3 =>
        simp only [hset] at post
        refine setTg_ok hset gd3 V (fun r hr z => dt r z hr) fun σ3 F3 T => ?_
        have d4 := T.dl (fun j => j ∈ tg.is) fun _ z => z
        rw [A.hl] at d4
        have hl3 : Γ3.length = N := by rw [setTg_len hset]; exact A.hl
        have wk4 := wk3.keep d4 fun r hr z => dt r hr z
        have st4 : ∀ j ∈ B, σ3[j]? = σ[j]? := fun j hj => by
          have q := congrArg (fun z : L2.St => z[j]?) (T.wp tg.is fun _ z => z)
          have nj : j ∉ tg.is := fun z => hB j z hj
          simp only [wipe_get, if_neg nj] at q
          exact q.trans (A.st j hj)
        have A4 : Aft K N M B σ H F n Γ3 σ3 H3 F3 n := ⟨T.gd, (dl3.trans d4 hN (Nat.le_refl n)).weak fun j _ z => z.elim id (Mt j), st4, hl3⟩
        have nxt : ∀ {Γ4 σ4 H4 F4}, Aft K N (mem (mutSs body)) B σ3 H3 F3 n Γ4 σ4 H4 F4 n → fPost K ER Wx N M B σ H F n D (forL bd (ds.drop (i + 1)) Γ4) →
            ∃ m', m' < m ∧ ∃ Γ2 F2, i + 1 + m' = ds.length ∧ Aft K N M B σ H F n Γ2 σ4 H4 F2 n ∧ Wk K N H4 F2 rs J ds ∧ fPost K ER Wx N M B σ H F n D (forL bd (ds.drop (i + 1)) Γ2) := fun {Γ4 σ4 H4 F4} A5 p5 =>
          ⟨m - 1, by omega, Γ4, F4, by omega, A4.trans A5 hN Mb, wk4.keep A5.dl db, p5⟩
        refine ⟨Γ3, F3, n, T.gd, ?_⟩
        rw [hl3]
        cases he : exSs C body Γ3 with
        | stuck => rw [he] at post; exact post
        | exc c as g => rw [he] at post; exact fun cls dx σ' H' F' er A5 => post cls dx σ' H' F' er (A4.trans A5 hN Mb)
        | ok fl =>
          rw [he, bind_ok] at post
          cases fl with
          | nx Γ4 => exact fun σ' H' F' A5 => nxt A5 post
          | cont Γ4 => exact fun σ' H' F' A5 => nxt A5 post
          | brk Γ4 => exact fun σ' H' F' A5 => post σ' H' F' (A4.trans A5 hN Mb)
          | ret w Γ4 => exact fun v σ' H' F' A5 a => post v σ' H' F' (A4.trans A5 hN Mb) a
theorem tS_while {body : Ss} (h : tS K ER C Wx B (.while_ c body) D σ H) : tWhile (tT K ER C Wx c) (tSs K ER C Wx B body) D σ H := by
  obtain ⟨Γ, F, n, G, P⟩ := h
  rw [exS] at P
  have Mc : ∀ j ∈ mutE c, mem (mutS (.while_ c body)) j := fun j hj => List.mem_append_left _ hj
  have Mb : ∀ j ∈ mutSs body, mem (mutS (.while_ c body)) j := fun j hj => List.mem_append_right _ hj
  generalize mem (mutS (.while_ c body)) = M at *
  have hN := G.top
  have A0 : Aft K Γ.length M B σ H F n Γ σ H F n := Aft.refl G
  generalize hNN : Γ.length = N at *
  refine ⟨fun m σ' H' => ∃ Γ2 F2, Aft K N M B σ H F n Γ2 σ' H' F2 n ∧ fPost K ER Wx N M B σ H F n D (whileL (evT C c) (exSs C body) m Γ2), ⟨wfuel, Γ, F, A0, P⟩, fun m σ1 H1 w => ?_⟩
  obtain ⟨Γ2, F2, A, post⟩ := w
  cases m with
  | zero => exact post.elim
  | succ m =>
    rw [whileL] at post
    refine ⟨Γ2, F2, n, A.gd, ?_⟩
    rw [A.hl]
    cases he : evT C c Γ2 with
    | stuck => rw [he] at post; exact post
    | exc cc as g => rw [he] at post; exact fun cls dx H' F' er g' d => post cls dx σ1 H' F' er ⟨g', (A.dl.trans d hN (Nat.le_refl n)).weak fun j _ z => z.elim id (Mc j), A.st, (A.gd.same g').trans A.hl⟩
    | ok p =>
      obtain ⟨k, Γ3⟩ := p
      rw [he, bind_ok] at post
      intro H3 F3 G3 D3
      have A3 : Aft K N M B σ H F n Γ3 σ1 H3 F3 n := ⟨G3, (A.dl.trans D3 hN (Nat.le_refl n)).weak fun j _ z => z.elim id (Mc j), A.st, (A.gd.same G3).trans A.hl⟩
      cases k with
      | false =>
        rw [if_neg Bool.false_ne_true]
        exact post _ _ _ A3
      | true =>
        rw [if_pos rfl]
        refine ⟨fun σ' H' => ∃ m', m' < m + 1 ∧ ∃ Γ2 F2, Aft K N M B σ H F n Γ2 σ' H' F2 n ∧ fPost K ER Wx N M B σ H F n D (whileL (evT C c) (exSs C body) m' Γ2), fun _ _ z => z, Γ3, F3, n, A3.gd, ?_⟩
        rw [A3.hl]
        simp only at post
        cases hx : exSs C body Γ3 with
        | stuck => rw [hx] at post; exact post
        | exc cc as g => rw [hx] at post; exact fun cls dx σ' H' F' er A5 => post cls dx σ' H' F' er (A3.trans A5 hN Mb)
        | ok fl =>
          rw [hx, bind_ok] at post
          cases fl with
          | nx Γ4 => exact fun σ' H' F' A5 => ⟨m, by omega, Γ4, F', A3.trans A5 hN Mb, post⟩
          | cont Γ4 => exact fun σ' H' F' A5 => ⟨m, by omega, Γ4, F', A3.trans A5 hN Mb, post⟩
          | brk Γ4 => exact fun σ' H' F' A5 => post σ' H' F' (A3.trans A5 hN Mb)
          | ret w Γ4 => exact fun v σ' H' F' A5 a => post v σ' H' F' (A3.trans A5 hN Mb) a
theorem gI_get {sl : Option Slot} (h : fPost K ER Wx N M B σ H F n D (gI sl r)) : (∃ w, sl = some (some w)) ∧ fPost K ER Wx N M B σ H F n D r := by
  cases sl with
  | none => exact h.elim
  | some sl =>
    cases sl with
    | none => exact h.elim
    | some w => exact ⟨⟨w, rfl⟩, h⟩
def ipR : Op → TIp
  | .sub => rI0 fun i j => .int (i - j)
  | _ => rI0 fun i j => .int (i + j)
/-- name op= e -/
theorem tS_aug {o : Op} (hB : i ∉ B) (ho : o = .add ∨ o = .sub) (h : tS K ER C Wx B (.aug i o e) D σ H) : tAug i (tE K ER C Wx e) (ipR o) D σ H := by
  obtain ⟨Γ, F, n, G, P⟩ := h
  rw [exS] at P
  obtain ⟨⟨w0, e0⟩, P⟩ := gI_get P
  obtain ⟨x, hx, _⟩ := G.rep i w0 e0
  refine ⟨x, hx, tE.stm G (fun m hm => List.mem_cons_of_mem _ hm) P fun w Γ1 v H1 F1 hl P1 G1 A1 D1 => ?_⟩
  cases hr : rd Γ1 i with
  | none => simp only [hr] at P1; exact P1.elim
  | some u =>
    simp only [hr] at P1
    obtain ⟨x', hx', A2⟩ := G1.rdv hr
    rw [hx] at hx'
    cases hx'
    cases hd : u.d <;> simp only [hd] at P1 <;> try exact P1.elim
    cases hd2 : w.d <;> simp only [hd2] at P1 <;> try exact P1.elim
    rename_i a b
    have fin : ∀ c : Int, fPost K ER Wx Γ.length (mem (mutS (.aug i o e))) B σ H F n D (.ok (.nx (Γ1.set i (some (val (.int c)))))) → D.nx (σ.set i (some (.int c))) H1 := fun c P2 => by
      obtain ⟨F3, G3, D3⟩ := (G1.drop (n := n) (by rw [hl]; exact G.top)).let1 (rs := []) (d := .int c) (x := .int c) ⟨(fun _ z => nomatch z), rfl⟩ i
      have D4 := D3 (mem (mutS (.aug i o e))) List.mem_cons_self
      rw [hl] at D4
      exact P2 _ _ F3 ⟨G3, ((D1.drop G.top).trans D4 G.top (Nat.le_refl n)).weak fun _ _ z => z.elim id id, fun j hj => List.getElem?_set_ne fun z => hB (by rw [z]; exact hj), by rw [List.length_set]; exact hl⟩
    rcases ho with rfl | rfl
    · exact ⟨a, b, reads_int A2 hd, reads_int A1 hd2, fin _ P1⟩
    · exact ⟨a, b, reads_int A2 hd, reads_int A1 hd2, fin _ P1⟩
theorem freeze_keep : ∀ {rs : List Nat} {Γ : Gm}, i ∉ rs → (freeze rs Γ)[i]? = Γ[i]?
  | [], _, _ => rfl
  | r :: rs, Γ, h => by
    show (freeze rs (freeze1 r Γ))[i]? = _
    rw [freeze_keep (fun z => h (List.mem_cons_of_mem _ z))]
    unfold freeze1
    split
    · rw [List.getElem?_set_ne (fun z => h (by rw [z]; exact List.mem_cons_self))]
    · rfl
theorem stl_keep (h : i ∉ w.rs) : (stl w Γ).2[i]? = Γ[i]? := by
  unfold stl
  split
  · rfl
  · exact freeze_keep h
theorem stl_deep (h : deep w = true) : (stl w Γ).2 = Γ := by
  unfold stl
  split
  · rfl
  · rename_i im
    unfold deep at h
    rw [Bool.or_eq_true, Bool.and_eq_true, List.isEmpty_iff] at h
    rcases h with h | h
    · exact absurd h im
    · show freeze w.rs Γ = Γ
      rw [h.2]; rfl
/-- a value goes into slot i's list -/
theorem inG_ok {xs0 : List Own.D} (hN : N ≤ n) (G : Gd K Γ σ H1 F1 m) (hl : Γ.length = N) (hnq : n ≤ q) (hqm : q < m) (A : At K N H1 F1 q w v) (er : rd Γ i = some ⟨l, [], .lst xs0⟩) (h1 : 1 ≤ l) (hri : i ∉ w.rs) (D1 : Dl N M H F n H1 F1) (hM : M i) :
    ∃ a us, σ[i]? = some (some (.ref a)) ∧ H1 a = some (.lst us) ∧ us.length = xs0.length ∧ ∀ xs' us', Put1 xs0 us w.d v xs' us' → fPost K ER Wx N M B σ H F n D (inG i l xs' w Γ) → D.nx σ (upd H1 a (.lst us')) := by
  obtain ⟨F2, G2, A2, s2⟩ := G.stl (w := w) (by rw [hl]; exact A) (by omega)
  rw [hl] at A2 s2
  have eg : Γ[i]? = some (some ⟨l, [], .lst xs0⟩) := by
    unfold rd at er
    split at er
    · rename_i u eu
      cases er
      exact eu
    · cases er
  have hi : i < N := by
    have := (List.getElem?_eq_some_iff.mp eg).1
    omega
  have hl2 : (stl w Γ).2.length = N := stl_len.trans hl
  obtain ⟨v0, hv0, Ai⟩ := G2.rep i _ (by rw [stl_keep hri]; exact eg)
  rw [hl2] at Ai
  obtain ⟨a, ea⟩ : ∃ a, v0 = V.ref a := by
    have q := Ai.read
    obtain ⟨a, us, ea, _⟩ := q
    exact ⟨a, ea⟩
  subst ea
  obtain ⟨us, hus, hlen, pt⟩ := put_in (deep w && decide (l = 8)) G2 (p := i) (q := q) (by omega) h1 Ai A2 stl_rs (fun z => by
    rw [Bool.and_eq_true, decide_eq_true_eq] at z
    exact ⟨deep_stl z.1, z.2⟩)
  rw [stl_d] at pt
  refine ⟨a, us, hv0, hus, hlen, fun xs' us' p1 P => ?_⟩
  obtain ⟨f, f', pk', A8⟩ := pt xs' us' p1
  have ei : inG i l xs' w Γ = .ok (.nx (kill [i] ((stl w Γ).2.set i (some ⟨if deep w && decide (l = 8) then 8 else 1, [], .lst xs'⟩)))) := by
    unfold inG
    cases hd : deep w && decide (l = 8) with
    | true =>
      have hd' := hd
      rw [Bool.and_eq_true] at hd'
      rw [if_pos rfl, stl_deep hd'.1]; rfl
    | false => rw [if_neg Bool.false_ne_true]; rfl
  rw [ei] at P
  have lk : (kill [i] ((stl w Γ).2.set i (some ⟨if deep w && decide (l = 8) then 8 else 1, [], .lst xs'⟩))).length = N := by rw [kill_len, List.length_set]; exact hl2
  have G8 := pk'.gd (ob' := .lst us') (Γ' := kill [i] ((stl w Γ).2.set i (some ⟨if deep w && decide (l = 8) then 8 else 1, [], .lst xs'⟩))) G2 (by omega) (by omega) (by rw [lk]; exact hl2.symm) (.inl ⟨_, rfl⟩) (fun j u e ne => by
    obtain ⟨e1, e2⟩ := kill_get e
    rw [List.getElem?_set_ne (Ne.symm ne)] at e1
    exact ⟨e1, fun z => e2 i z (by simp)⟩) (fun u _ e => by
    obtain ⟨e1, _⟩ := kill_get e
    rw [List.getElem?_set_self (by omega)] at e1
    cases e1
    rw [hl2]
    exact ⟨_, hv0, A8⟩)
  exact P _ _ _ (G8.aft lk hN (pk'.dl (D1.shr s2) hnq (.inl ⟨hi, hM⟩) hN) fun _ _ => rfl)
/-- xs.append(e) -/
theorem tS_append (h : tS K ER C Wx B (.append i e) D σ H) : tDrop (tBM K "list" rAppend (tVar i) (tCons (tE K ER C Wx e) tNil)) D σ H := by
  obtain ⟨Γ, F, n, G, P⟩ := h
  rw [exS] at P
  cases hr : rd Γ i with
  | none => simp only [hr] at P; exact P.elim
  | some u =>
    obtain ⟨lu, ru, du⟩ := u
    cases du <;> simp only [hr] at P <;> try exact P.elim
    rename_i xs00
    obtain ⟨v0, hv0, A0⟩ := G.rdv hr
    obtain ⟨a0, us0, rfl, h00, _⟩ := reads_lst A0 rfl
    refine ⟨.ref a0, hv0, .inl ⟨rfl, us0, .of h00⟩, tE.stm G (fun m hm => List.mem_cons_of_mem _ hm) P fun w Γ1 v H1 F1 hl P1 G1 A1 D1 => ?_⟩
    cases hr1 : rd Γ1 i with
    | none => simp only [hr1] at P1; exact P1.elim
    | some x =>
      obtain ⟨lx, rx, dx⟩ := x
      simp only [hr1] at P1
      cases dx <;> simp only at P1 <;> try exact P1.elim
      rename_i xs0
      split at P1
      case isFalse => exact P1.elim
      rename_i cond
      simp only [Bool.and_eq_true, decide_eq_true_eq, List.isEmpty_iff, Bool.not_eq_true', List.contains_eq_mem, decide_eq_false_iff_not] at cond
      obtain ⟨⟨⟨c1, c2⟩, c3⟩, c4⟩ := cond
      have c2 : rx = [] := c2
      subst c2
      obtain ⟨a, us, hva, hus, hlen, pt⟩ := inG_ok (B := B) (D := D) (ER := ER) (Wx := Wx) G.top G1 hl (Nat.le_refl n) (Nat.lt_succ_self n) A1 hr1 c1 c3 D1 (M := mem (mutS (.append i e))) List.mem_cons_self
      rw [hv0] at hva
      cases hva
      exact ⟨a0, us, v, rfl, rfl, hus, by rw [hlen]; exact Nat.lt_of_lt_of_le c4 lim_line, pt _ _ .snoc P1⟩
/-- o[i] = v -/
def rSetO : TSet := fun o i v H Q => rSetL o i v H Q ∨ rSetD o i v H Q
theorem tS_setIx (h : tS K ER C Wx B (.setIx i a e) D σ H) : tAsg (tE K ER C Wx e) (gSub (tVar i) (tE K ER C Wx a) rSetO) D σ H := by
  obtain ⟨Γ, F, n, G, P⟩ := h
  rw [exS] at P
  obtain ⟨⟨w0, e0⟩, P⟩ := gI_get P
  obtain ⟨x, hx, _⟩ := G.rep i w0 e0
  refine tE.stm G (fun m hm => List.mem_cons_of_mem _ (List.mem_append_right _ hm)) P fun w Γ1 v H1 F1 hl P1 G1 A1 D1 => ⟨x, hx, ?_⟩
  refine tE.stm2 G.top hl G1 D1 (fun m hm => List.mem_cons_of_mem _ (List.mem_append_left _ hm)) P1 fun w2 Γ2 v2 H2 F2 hl2 P2 G2 A2 D12 D2 => ?_
  cases hr : rd Γ2 i with
  | none => simp only [hr] at P2; exact P2.elim
  | some u =>
    obtain ⟨lx, rx, dx⟩ := u
    cases dx with
    | lst xs0 =>
      simp only [hr, sixV] at P2
      cases hd2 : w2.d <;> simp only [hd2] at P2 <;> try exact P2.elim
      rename_i j
      cases hix : ixN xs0.length j with
      | none => simp only [hix] at P2; exact P2.elim
      | some p =>
        simp only [hix] at P2
        split at P2
        case isFalse => exact P2.elim
        rename_i cond
        simp only [Bool.and_eq_true, decide_eq_true_eq, List.isEmpty_iff, Bool.not_eq_true', List.contains_eq_mem, decide_eq_false_iff_not] at cond
        obtain ⟨⟨⟨c1, c2⟩, c3⟩, c4⟩ := cond
        have c2 : rx = [] := c2
        subst c2
        have A1' := A1.hold D12 G.top (Nat.lt_succ_self n) (hold_no c3) G1.dj
        obtain ⟨ad, us, hva, hus, hlen, pt⟩ := inG_ok (B := B) (D := D) (ER := ER) (Wx := Wx) G.top G2 hl2 (Nat.le_refl n) (by omega) A1' hr c1 c4 D2 (M := mem (mutS (.setIx i a e))) List.mem_cons_self
        rw [hx] at hva
        cases hva
        exact .inl ⟨ad, us, j, p, rfl, reads_int A2 hd2, hus, by rw [hlen]; exact hix, pt _ _ (.set p) P2⟩
    | dct t ks xs0 =>
      simp only [hr, sixV] at P2
      cases t with
      | true => exact P2.elim
      | false =>
        cases hk : keyD w2.d with
        | none => simp only [hk] at P2; exact P2.elim
        | some ky =>
          simp only [hk] at P2
          split at P2
          case isFalse => exact P2.elim
          rename_i cond
          simp only [Bool.and_eq_true, decide_eq_true_eq, List.isEmpty_iff] at cond
          obtain ⟨⟨⟨⟨⟨c1, c2⟩, c3⟩, c4⟩, c5⟩, c6⟩ := cond
          subst c1
          subst c2
          have A1' := A1.hold D12 G.top (Nat.lt_succ_self n) (hold_no c3) G1.dj
          have eg : Γ2[i]? = some (some ⟨8, [], .dct false ks xs0⟩) := by
            unfold rd at hr
            split at hr
            · rename_i u eu
              cases hr
              exact eu
            · cases hr
          have hi : i < Γ2.length := (List.getElem?_eq_some_iff.mp eg).1
          obtain ⟨v0, hv0, Ai⟩ := G2.rep i _ eg
          obtain ⟨ad, ea⟩ : ∃ a, v0 = V.ref a := by
            obtain ⟨a, us, ea, _⟩ := Ai.read
            exact ⟨a, ea⟩
          subst ea
          have hin : i ≠ n := by have := G.top; omega
          obtain ⟨us, hus, hlen, pt⟩ := put_inD (w := w) (v := v) G2 (p := i) (q := n) hin Ai (by rw [hl2]; exact A1') c4
          obtain ⟨us', p1, p2⟩ := put_rel (d := w.d) (v := v) (ky := ky) c5 hlen
          obtain ⟨f, f', pk', A8⟩ := pt _ _ us' p1
          rw [hx] at hv0
          cases hv0
          refine .inr ⟨ad, _, rfl, .inl ⟨_, ky, hus, keyD_rep hk A2.read, ?_, rfl⟩, ?_⟩
          · rw [List.length_zip]
            have := lim_line
            omega
          · have hN2 : Γ2.length ≤ n := by rw [hl2]; exact G.top
            have lk : (kill [i] (Γ2.set i (some ⟨8, [], .dct false (dput ks xs0 ky w.d).1 (dput ks xs0 ky w.d).2⟩))).length = Γ.length := by rw [kill_len, List.length_set]; exact hl2
            have G8 := pk'.gd (ob' := dHO false (dput ks xs0 ky w.d).1 us') (Γ' := kill [i] (Γ2.set i (some ⟨8, [], .dct false (dput ks xs0 ky w.d).1 (dput ks xs0 ky w.d).2⟩))) G2 hN2 (by omega) (by rw [lk, hl2]) (.inr (.inl ⟨_, _, _, rfl⟩)) (fun j u e ne => by
              obtain ⟨e1, e2⟩ := kill_get e
              rw [List.getElem?_set_ne (Ne.symm ne)] at e1
              exact ⟨e1, fun z => e2 i z (by simp)⟩) (fun u _ e => by
              obtain ⟨e1, _⟩ := kill_get e
              rw [List.getElem?_set_self (by omega)] at e1
              cases e1
              exact ⟨_, hx, A8⟩)
            rw [p2] at G8
            have D8 := pk'.dl (ob' := dHO false (dput ks xs0 ky w.d).1 us') D2 (Nat.le_refl n) (.inl ⟨by omega, List.mem_cons_self⟩) G.top
            rw [p2] at D8
            exact P2 _ _ _ (G8.aft lk G.top D8 fun _ _ => rfl)
    | _ =>
      simp only [hr, sixV] at P2
      exact P2.elim
end
end Own

end
section
set_option maxHeartbeats 1000000
namespace Own
open PySem PySem.Spec L2
section
variable {K : PySem.W.Frag} {ER : ERel} {C : Ctx} {Wx : WX} {N n m k i p q : Nat} {Γ Γ0 Γ1 Γ2 Γ' : Gm} {σ σ' σ1 σ2 : L2.St} {H H' H0 H1 H2 R : Hp} {F F' F0 F1 F2 : Fpt} {w w1 w2 : W} {v x : V} {d : Own.D} {us us' : List V} {ds xs xs' : List Own.D} {vs rs rs' is B : List Nat} {M M1 M2 : Nat → Prop} {l : Nat} {e a b c : E} {J : It} {D : Ends} {r : Res Fl} {s : S} {ss t u : Ss}
theorem Dl.storeQ {i q : Nat} (D1 : Dl N M H0 F0 n H F) (hN : N ≤ n) (hq : n ≤ q) (hi : i < N) (hM : M i) : Dl N M H0 F0 n H (put (put F i (F q)) q []) where
  keep := D1.keep
  frm := fun k h1 h2 => by rw [put_ne (by omega), put_ne (by omega)]; exact D1.frm k h1 h2
  old := fun k a hk nk e => by
    rw [put_ne (by omega), put_ne (fun z => nk (by rw [z]; exact hM))] at e
    exact D1.old k a hk nk e
  new := fun k a c e => by
    by_cases q1 : k = q
    · subst q1; rw [put_same] at e; cases e
    · rw [put_ne q1] at e
      by_cases p : k = i
      · subst p
        rw [put_same] at e
        exact D1.new q a (.inr hq) e
      · rw [put_ne p] at e
        exact D1.new k a c e
theorem ORep.tupO {fp : List Addr} (h : ORep K H R l (.tup ds) v fp) : ∃ a us, v = .ref a ∧ SqT K R a us ∧ OReps K H R l ds us fp := by
  cases l with
  | zero =>
    unfold ORep at h
    obtain ⟨e, a, us, ev, q, r⟩ := h
    subst e
    exact ⟨a, us, ev, q, reps0 r⟩
  | succ l => exact h
/-- the items of a tuple go into slots -/
theorem setTW_ok {Q : L2.St → Hp → Prop} (hN : N ≤ n) : ∀ {is : List Nat} {ds : List Own.D} {us : List V} {Γ : Gm} {σ : L2.St} {F : Fpt}, setTW is ds l Γ = some Γ' → Gd K Γ σ H F (n + 1) → Γ.length = N → (∀ i ∈ is, i < N) → OReps K H (cut H (Oth F [])) l ds us (F n) → Dl N M H0 F0 n H F → (∀ i ∈ is, M i) →
    (∀ σ' F', Gd K Γ' σ' H F' (n + 1) → Dl N M H0 F0 n H F' → Γ'.length = N → (∀ j, j ∉ is → σ'[j]? = σ[j]?) → Q σ' H) → is.length = us.length ∧ gNs is us σ H Q
  | [], [], us, Γ, σ, F, e, G, hl, hi, r, D1, hM, h => by
    cases e
    unfold OReps at r
    obtain ⟨rfl, _⟩ := r
    exact ⟨rfl, rfl, h σ F G D1 hl fun _ _ => rfl⟩
  | i :: is, d :: ds, us, Γ, σ, F, e, G, hl, hi, r, D1, hM, h => by
    unfold OReps at r
    obtain ⟨v, us', f, g, eu, ef, r1, r2⟩ := r
    subst eu
    have hiN : i < N := hi i List.mem_cons_self
    have nfg : (f ++ g).Nodup := by rw [← ef]; exact G.nd n
    have at' : ∀ k, put (put F n g) (n + 1) f k = if k = n + 1 then f else if k = n then g else F k := fun k => rfl
    have lo : ∀ k, k < n → put (put F n g) (n + 1) f k = F k := fun k hk => by rw [at', if_neg (by omega), if_neg (by omega)]
    have hi2 : ∀ k a, n ≤ k → a ∈ put (put F n g) (n + 1) f k → a ∈ F n ∧ ((k = n + 1 ∧ a ∈ f) ∨ (k = n ∧ a ∈ g)) := fun k a hk e => by
      rw [at'] at e
      split at e
      · exact ⟨by rw [ef]; exact List.mem_append_left _ e, .inl ⟨by assumption, e⟩⟩
      · split at e
        · exact ⟨by rw [ef]; exact List.mem_append_right _ e, .inr ⟨by assumption, e⟩⟩
        · rw [G.off k (by omega)] at e; cases e
    have fr : ∀ k a, n ≤ k → a ∈ put (put F n g) (n + 1) f k → (∃ k', n ≤ k' ∧ a ∈ F k') ∨ H a = none := fun k a hk e => .inl ⟨n, Nat.le_refl n, (hi2 k a hk e).1⟩
    have G1 : Gd K Γ σ H (put (put F n g) (n + 1) f) (n + 2) := by
      refine G.temps (n := n) (by omega) (by omega) (Same.refl H) lo (fun k hk => by rw [at', if_neg (by omega), if_neg (by omega)]; exact G.off k (by omega)) fr (fun k hk => ?_) (fun p q a hp hq e1 e2 => ?_) fun k a hk e => G.obj n a (hi2 k a hk e).1
      · rw [at']
        split
        · exact (List.nodup_append.mp nfg).1
        · split
          · exact (List.nodup_append.mp nfg).2.1
          · exact G.nd k
      · rcases (hi2 p a hp e1).2 with ⟨z1, z2⟩ | ⟨z1, z2⟩ <;> rcases (hi2 q a hq e2).2 with ⟨y1, y2⟩ | ⟨y1, y2⟩
        · omega
        · exact absurd rfl ((List.nodup_append.mp nfg).2.2 a z2 a y2)
        · exact absurd rfl ((List.nodup_append.mp nfg).2.2 a y2 a z2)
        · omega
    have so : ∀ a, Oth (put (put F n g) (n + 1) f) [] a → Oth F [] a := fun a ⟨j, hj, z⟩ => by
      by_cases hjn : j < n
      · rw [lo j hjn] at z; exact ⟨j, hj, z⟩
      · exact ⟨n, List.not_mem_nil, (hi2 j a (by omega) z).1⟩
    have base : At K Γ.length H (put (put F n g) (n + 1) f) (n + 1) ⟨l, [], d⟩ v := ⟨(fun _ z => nomatch z), by
      rw [at', if_pos rfl]
      exact ORep.mono (cut_sub fun a o no e => ⟨e, fun z => no (so a z)⟩) (fun _ _ _ e => e) r1⟩
    have A1 : At K Γ.length H (put (put F n g) (n + 1) f) (n + 1) (if imm d then val d else ⟨l, [], d⟩) v := by
      by_cases im : imm d = true
      · rw [if_pos im]; exact base.val G1 im
      · rw [if_neg im]; exact base
    have G2 := G1.store A1 (by omega) (by omega : i < Γ.length)
    have D2 := ((D1.temps hN (Same.refl H) lo fr).storeQ (i := i) (q := n + 1) hN (by omega) hiN (hM i List.mem_cons_self))
    have eg : put (put (put (put F n g) (n + 1) f) i (put (put F n g) (n + 1) f (n + 1))) (n + 1) [] n = g := by
      rw [put_ne (by omega), put_ne (by omega), at', if_neg (by omega), if_pos rfl]
    have so2 : ∀ a, Oth (put (put (put (put F n g) (n + 1) f) i (put (put F n g) (n + 1) f (n + 1))) (n + 1) []) [] a → Oth F [] a := fun a ⟨j, hj, z⟩ => by
      by_cases h1 : j = n + 1
      · subst h1; rw [put_same] at z; cases z
      · rw [put_ne h1] at z
        by_cases h2 : j = i
        · subst h2
          rw [put_same] at z
          exact so a ⟨n + 1, List.not_mem_nil, z⟩
        · rw [put_ne h2] at z
          exact so a ⟨j, hj, z⟩
    have ih := setTW_ok hN (is := is) (ds := ds) (us := us') (Q := Q) e G2 (by rw [List.length_set]; exact hl) (fun j hj => hi j (List.mem_cons_of_mem _ hj)) (by
      rw [eg]
      exact OReps.mono (cut_sub fun a o no e => ⟨e, fun z => no (so2 a z)⟩) (fun _ _ _ e => e) r2) D2 (fun j hj => hM j (List.mem_cons_of_mem _ hj)) fun σ' F' g1 d1 l1 s1 => h σ' F' g1 d1 l1 fun j hj => (s1 j fun z => hj (List.mem_cons_of_mem _ z)).trans (List.getElem?_set_ne fun z => hj (by rw [z]; exact List.mem_cons_self))
    exact ⟨congrArg (· + 1) ih.1, v, us', rfl, ih.2⟩
  | [], _ :: _, _, _, _, _, e, _, _, _, _, _, _, _ => by cases e
  | _ :: _, [], _, _, _, _, e, _, _, _, _, _, _, _ => by cases e
/-- a, b = e -/
theorem immAll_reverse : ∀ {xs : List Own.D}, immAll xs = true → immAll xs.reverse = true
  | [], h => h
  | x :: xs, h => by
    unfold immAll at h
    rw [Bool.and_eq_true] at h
    rw [List.reverse_cons]
    exact immAll_append (immAll_reverse h.2) (by unfold immAll; rw [h.1]; rfl)
theorem tS_setT (hB : ∀ j ∈ is, j ∉ B) (h : tS K ER C Wx B (.setT is e) D σ H) : tAsg (tE K ER C Wx e) (gTg K (.tup is)) D σ H := by
  obtain ⟨Γ, F, n, G, P⟩ := h
  rw [exS] at P
  refine tE.stm G (fun m hm => List.mem_append_right _ hm) P fun w Γ1 v H1 F1 hl P1 G1 A1 D1 => ?_
  have hN := G.top
  obtain ⟨F2, G2, e2, s2⟩ := Gd.freeze w.rs G1 (by rw [hl]; exact A1.rs)
  rw [hl] at s2
  have A2 := ((A1.shr s2 (s2.hi n hN)).free e2).rep
  cases hd : w.d <;> simp only [hd] at P1 <;> try exact P1.elim
  · rename_i ds
    cases hs : setTW is ds w.l (freeze w.rs Γ1) with
    | none => simp only [hs] at P1; exact P1.elim
    | some Γ2 =>
      simp only [hs] at P1
      split at P1
      case isFalse => exact P1.elim
      rename_i cond
      rw [Bool.and_eq_true, List.all_eq_true] at cond
      rw [hd] at A2
      obtain ⟨a, us, ev, q, r⟩ := ORep.tupO A2
      obtain ⟨l1, q1⟩ := setTW_ok (H0 := H) (F0 := F) (M := mem (mutS (.setT is e))) (Q := D.nx) hN hs G2 ((freeze_len _).trans hl) (fun i hi => by have := cond.2 i hi; rw [decide_eq_true_eq] at this; omega) r (D1.shr s2) (fun i hi => List.mem_append_left _ hi)
        fun σ' F' g1 d1 l1 s1 => P1 _ _ _ (g1.aft l1 hN d1 fun j hj => s1 j fun z => hB j z hj)
      exact .inl ⟨a, us, ev, cut_le.t q, l1.symm, q1⟩
  · rename_i ds
    cases hs : setTW is ds 0 (freeze w.rs Γ1) with
    | none => simp only [hs] at P1; exact P1.elim
    | some Γ2 =>
      simp only [hs] at P1
      split at P1
      case isFalse => exact P1.elim
      rename_i cond
      simp only [Bool.and_eq_true, List.all_eq_true, decide_eq_true_eq] at cond
      obtain ⟨⟨c1, c2⟩, c3⟩ := cond
      have A2 : ORep K H1 (cut H1 (Oth F2 [])) w.l w.d v (F2 n) := A2
      rw [hd, c3] at A2
      unfold ORep at A2
      obtain ⟨ef, a, us, ev, q, r⟩ := A2
      obtain ⟨l1, q1⟩ := setTW_ok (H0 := H) (F0 := F) (l := 0) (M := mem (mutS (.setT is e))) (Q := D.nx) hN hs G2 ((freeze_len _).trans hl) (fun i hi => by have := c2 i hi; omega) (by rw [ef]; exact reps0 r) (D1.shr s2) (fun i hi => List.mem_append_left _ hi)
        fun σ' F' g1 d1 l1 s1 => P1 _ _ _ (g1.aft l1 hN d1 fun j hj => s1 j fun z => hB j z hj)
      exact .inr ⟨a, us, ev, .of (cut_some.mp q).2, l1.symm, q1⟩
/-- x, y = a, b -/
theorem tS_par (hi : i ∉ B) (hp : p ∉ B) (h : tS K ER C Wx B (.par i p a b) D σ H) : tPar i p (tCons (tE K ER C Wx a) (tCons (tE K ER C Wx b) tNil)) D σ H := by
  obtain ⟨Γ, F, n, G, P⟩ := h
  rw [exS] at P
  have hN := G.top
  refine tE.stm G (fun m hm => List.mem_cons_of_mem _ (List.mem_cons_of_mem _ (List.mem_append_left _ hm))) P fun w Γ1 v H1 F1 hl P1 G1 A1 D1 => ?_
  refine tE.stm2 G.top hl G1 D1 (fun m hm => List.mem_cons_of_mem _ (List.mem_cons_of_mem _ (List.mem_append_right _ hm))) P1 fun w2 Γ2 v2 H2 F2 hl2 P2 G2 A2 D12 D2 => ?_
  simp only at P2
  split at P2
  case isFalse => exact P2.elim
  rename_i cond
  rw [Bool.and_eq_true] at cond
  refine ⟨v, v2, rfl, ?_⟩
  have B1 := ((A1.val G1 cond.1).hold D12 G.top (Nat.lt_succ_self n) (fun _ z => nomatch z) G1.dj).read
  have B2 := A2.read
  have G3 := G2.drop (n := n) (by omega)
  obtain ⟨F4, G4, d4⟩ := G3.let1 (rs := []) (d := w.d) (x := v) ⟨(fun _ z => nomatch z), Rep.imm_cut (fun a q => G3.othObj q) cond.1 B1⟩ i
  obtain ⟨F5, G5, d5⟩ := G4.let1 (rs := []) (d := w2.d) (x := v2) ⟨(fun _ z => nomatch z), Rep.imm_cut (fun a q => G4.othObj q) cond.2 B2⟩ p
  rw [show itm [] w.d = val w.d from if_pos cond.1, show itm [] w2.d = val w2.d from if_pos cond.2] at G5
  have D4 := d4 (mem (mutS (.par i p a b))) List.mem_cons_self
  have D5 := d5 (mem (mutS (.par i p a b))) (List.mem_cons_of_mem _ List.mem_cons_self)
  rw [List.length_set, hl2] at D5
  rw [hl2] at D4
  refine P2 _ _ F5 ⟨G5, ((((D2.drop hN).trans D4 hN (Nat.le_refl n)).trans D5 hN (Nat.le_refl n))).weak fun _ _ z => z.elim (fun z => z.elim id id) id, fun j hj => ?_, by rw [List.length_set, List.length_set]; exact hl2⟩
  rw [List.getElem?_set_ne (fun z => hp (by rw [z]; exact hj)), List.getElem?_set_ne (fun z => hi (by rw [z]; exact hj))]
theorem pget_list {X : Cx} : PGet X (rIxL X.K) := by
  intro pins s σ H x y v u Q I rx ry h
  obtain ⟨p, xs, i, z, rfl, rfl, hq, he, q⟩ := h
  cases rx
  obtain ⟨t, rfl⟩ := ry
  obtain ⟨its, r, pl, hz⟩ := I.list hq
  obtain ⟨j, h1, h2, h3, h4, h5⟩ := atI_get he
  obtain ⟨w, ew, rw'⟩ := r.get h2
  have hl := r.length
  have hn := line63
  have fin : EP X pins σ Q w s := ⟨z, H, I, rw', q⟩
  by_cases h0 : 0 ≤ i
  · have hj : i.toNat = j := by
      rw [seqIndex_of h0 h5] at h1
      exact Option.some.inj h1
    exact wpAny_getItem_list pl.isList h0 (by omega) (by rw [hj]; simpa using ew) fin
  · have hj : (i + (its.toArray.size : Int)).toNat = j := by
      rw [seqIndex_neg (by omega) h4] at h1
      rw [List.size_toArray, ← hl]
      exact Option.some.inj h1
    exact wpAny_getItem_list_neg pl.isList (by omega) (by rw [List.size_toArray] <;> omega) (by omega) (by rw [hj]; simpa using ew) fin
theorem getI_of {o : Option W} {dk : Own.D} {j z : Int} (h : getI o dk = some (j, z)) : ∃ w xs, o = some w ∧ dk = .int j ∧ w.d = .lst xs ∧ atI xs j = some (.int z) := by
  unfold getI at h
  split at h
  · rename_i w j'
    split at h
    · rename_i xs ex
      split at h
      · rename_i z' ez
        cases h
        exact ⟨w, xs, rfl, rfl, ex, ez⟩
      · cases h
    · cases h
  · cases h
/-- xs[k] op= e -/
theorem tS_augIx {o : Op} (ho : o = .add ∨ o = .sub) (h : tS K ER C Wx B (.augIx i a o e) D σ H) : tAugS (tVar i) (tE K ER C Wx a) (tE K ER C Wx e) (rIxL K) (ipR o) rSetL D σ H := by
  obtain ⟨Γ, F, n, G, P⟩ := h
  rw [exS] at P
  obtain ⟨⟨w0, e0⟩, P⟩ := gI_get P
  obtain ⟨x, hx, _⟩ := G.rep i w0 e0
  have hN := G.top
  refine ⟨x, hx, tE.stm G (fun m hm => List.mem_cons_of_mem _ (List.mem_append_left _ hm)) P fun w Γ1 v H1 F1 hl P1 G1 A1 D1 => ?_⟩
  simp only at P1
  split at P1
  · exact P1.elim
  rename_i j z hg
  obtain ⟨u, ys, er, ek, eu, ez⟩ := getI_of hg
  obtain ⟨x', hx', Au⟩ := G1.rdv er
  rw [hx] at hx'
  cases hx'
  obtain ⟨pa, us, rfl, h00, rr⟩ := reads_lst Au eu
  obtain ⟨j', j1, j2, j3⟩ := at_len rr.len ez
  obtain ⟨y, y1, y2⟩ := rr.get j2
  have y2 : y = .int z := y2
  subst y2
  refine ⟨pa, us, j, .int z, rfl, reads_int A1 ek, .of h00, j3 _ y1, ?_⟩
  refine tE.stm2 G.top hl G1 D1 (fun m hm => List.mem_cons_of_mem _ (List.mem_append_right _ hm)) P1 fun w2 Γ2 v2 H2 F2 hl2 P2 G2 A2 D12 D2 => ?_
  cases hr : rd Γ2 i with
  | none => simp only [hr] at P2; exact P2.elim
  | some u2 =>
    obtain ⟨lx, rx, dx⟩ := u2
    simp only [hr] at P2
    cases hd2 : w2.d <;> simp only [hd2] at P2 <;> try exact P2.elim
    rename_i b
    cases dx <;> simp only at P2 <;> try exact P2.elim
    rename_i xs0
    cases hix : ixN xs0.length j with
    | none => simp only [hix] at P2; exact P2.elim
    | some p =>
      simp only [hix] at P2
      split at P2
      case isFalse => exact P2.elim
      rename_i cond
      simp only [Bool.and_eq_true, decide_eq_true_eq, List.isEmpty_iff] at cond
      obtain ⟨c1, c2⟩ := cond
      have c2 : rx = [] := c2
      subst c2
      have fin : ∀ c : Int, fPost K ER Wx Γ.length (mem (mutS (.augIx i a o e))) B σ H F n D (inG i lx (xs0.set p (.int c)) (val (.int c)) Γ2) → rSetL (.ref pa) v (.int c) H2 fun H6 => D.nx σ H6 := fun c P3 => by
        have A3 : At K Γ.length H2 F2 (n + 1) (val (.int c)) (.int c) := by
          refine ⟨(fun _ z => nomatch z), ?_⟩
          have e5 := A2.rep
          rw [hd2] at e5
          rw [ORep.imm_nil rfl e5]
          exact orep0 rfl
        obtain ⟨ad, us2, hva, hus, hlen, pt⟩ := inG_ok (B := B) (D := D) (ER := ER) (Wx := Wx) G.top G2 hl2 (by omega : n ≤ n + 1) (by omega) A3 hr c1 (List.not_mem_nil) D2 (M := mem (mutS (.augIx i a o e))) List.mem_cons_self
        rw [hx] at hva
        cases hva
        exact ⟨pa, us2, j, p, rfl, reads_int A1 ek, hus, by rw [hlen]; exact hix, pt _ _ (.set p) P3⟩
      rcases ho with rfl | rfl
      · exact ⟨z, b, rfl, reads_int A2 hd2, fin _ P2⟩
      · exact ⟨z, b, rfl, reads_int A2 hd2, fin _ P2⟩
theorem immAll_set : ∀ {xs : List Own.D} {p : Nat} {d : Own.D}, immAll xs = true → imm d = true → immAll (xs.set p d) = true
  | [], _, _, h, _ => h
  | x :: xs, 0, d, h, h' => by
    unfold immAll at h
    rw [Bool.and_eq_true] at h
    rw [List.set_cons_zero]
    unfold immAll
    rw [h', h.2]; rfl
  | x :: xs, p + 1, d, h, h' => by
    unfold immAll at h
    rw [Bool.and_eq_true] at h
    rw [List.set_cons_succ]
    unfold immAll
    rw [h.1, immAll_set h.2 h']; rfl
theorem inn2_of {o : Option W} {dk : Own.D} {xs ys : List Own.D} {p : Nat} (h : inn2 o dk = some (xs, p, ys)) : ∃ w j, o = some w ∧ dk = .int j ∧ w.d = .lst xs ∧ ixN xs.length j = some p ∧ xs[p]? = some (.lst ys) ∧ w.l = 8 ∧ w.rs = [] ∧ immAll ys = true := by
  unfold inn2 at h
  split at h
  · rename_i w j'
    split at h
    · rename_i xs' ex
      split at h
      · rename_i p' ep
        split at h
        · rename_i ys' ey
          split at h
          · rename_i c
            cases h
            simp only [Bool.and_eq_true, decide_eq_true_eq, List.isEmpty_iff] at c
            exact ⟨w, j', rfl, rfl, ex, ep, ey, c.1.1, c.1.2, c.2⟩
          · cases h
        · cases h
      · cases h
    · cases h
  · cases h
/-- an inner list that is flat, its item -/
theorem OReps.inner : ∀ {xs : List Own.D} {us : List V} {f : List Addr} {p : Nat} {ys : List Own.D}, OReps K H R 8 xs us f → xs[p]? = some (.lst ys) → immAll ys = true → f.Nodup → (∀ a ∈ f, Ob H a) → (∀ a o, R a = some o → a ∉ f) →
    ∃ b ub, us[p]? = some (.ref b) ∧ H b = some (.lst ub) ∧ b ∈ f ∧ Reps K R ys ub ∧ ∀ ys' ub', immAll ys' = true → Reps K R ys' ub' → OReps K (upd H b (.lst ub')) R 8 (xs.set p (.lst ys')) us f
  | [], _, _, _, _, _, e, _, _, _, _ => by simp at e
  | x :: xs, us, f, 0, ys, h, e, im, nd, ob, rn => by
    unfold OReps at h
    obtain ⟨v, r, f1, f2, ev, ef, h1, h2⟩ := h
    rw [List.getElem?_cons_zero] at e
    cases e
    obtain ⟨b, ub, g, e1, e2, e3, e4⟩ := h1
    have eg : g = [] := OReps.imm_nil im e4
    subst eg
    subst ev
    refine ⟨b, ub, by rw [e1]; rfl, e2, by rw [ef, e3]; simp, OReps.rep (fun _ _ e => e) (fun a ha => by cases ha) e4, fun ys' ub' im' r' => ?_⟩
    rw [List.set_cons_zero]
    unfold OReps
    refine ⟨v, r, f1, f2, rfl, ef, ⟨b, ub', [], e1, upd_same, e3, Reps.own im' r'⟩, OReps.mono (fun _ _ e => e) (fun a ha o e => ?_) h2⟩
    rw [upd_ne (fun z => ?_)]
    · exact e
    · subst z
      rw [ef, e3] at nd
      exact (List.nodup_cons.mp nd).1 ha
  | x :: xs, us, f, p + 1, ys, h, e, im, nd, ob, rn => by
    unfold OReps at h
    obtain ⟨v, r, f1, f2, ev, ef, h1, h2⟩ := h
    subst ev
    rw [ef] at nd ob rn
    have nd' := List.nodup_append.mp nd
    obtain ⟨b, ub, q1, q2, q3, q4, q5⟩ := OReps.inner (p := p) h2 (by simpa using e) im nd'.2.1 (fun a ha => ob a (List.mem_append_right _ ha)) (fun a o e z => rn a o e (List.mem_append_right _ z))
    refine ⟨b, ub, by simpa using q1, q2, by rw [ef]; exact List.mem_append_right _ q3, q4, fun ys' ub' im' r' => ?_⟩
    rw [List.set_cons_succ]
    unfold OReps
    refine ⟨v, r, f1, f2, rfl, ef, ORep.mono (fun _ _ e => e) (fun a ha o e => ?_) h1, q5 ys' ub' im' r'⟩
    rw [upd_ne (fun z => nd'.2.2 a ha b q3 z)]
    exact e
/-- .. and then another, q values in hand -/
theorem tE.stmq {f : W × Gm → Res Fl} {Q' : VK} (hN : N ≤ n) (hq : n ≤ q) (hl : Γ1.length = N) (G1 : Gd K Γ1 σ H1 F1 q) (D1 : Dl N M H F n H1 F1) (hM : ∀ m ∈ mutE e, M m) (P0 : fPost K ER Wx N M B σ H F n D ((ev C e Γ1).bind f))
    (h : ∀ w Γ2 v H2 F2, Γ2.length = N → fPost K ER Wx N M B σ H F n D (f (w, Γ2)) → Gd K Γ2 σ H2 F2 (q + 1) → At K N H2 F2 q w v → Dl N (mem (mutE e)) H1 F1 q H2 F2 → Dl N M H F n H2 F2 → Q' v H2) : tE K ER C Wx e σ H1 Q' := by
  refine ⟨Γ1, F1, q, G1, ?_⟩
  cases he : ev C e Γ1 with
  | stuck => rw [he] at P0; exact P0
  | exc c as Γ' =>
    rw [he] at P0
    rw [hl]
    exact fun cls dx H' F' er g d => by
      have hg := (G1.same g).trans hl
      exact P0 cls dx σ H' (low n F') er ⟨g.drop (by omega), ((D1.trans d hN hq).weak fun m _ z => z.elim id (hM m)).drop hN, fun _ _ => rfl, hg⟩
  | ok p =>
    obtain ⟨w, Γ2⟩ := p
    rw [he, bind_ok] at P0
    intro v H2 F2 G2 A2 D2
    rw [hl] at A2 D2
    exact h w Γ2 v H2 F2 ((G1.same G2).trans hl) P0 G2 A2 D2 ((D1.trans D2 hN hq).weak fun m _ z => z.elim id (hM m))
/-- an inner list, flat, its item is written -/
theorem Gd.innerG {G0 : Hp} {ys : List Own.D} {pp : Nat} {pa : Addr} (G : Gd K Γ σ H F m) (hg : Γ[i]? = some (some ⟨8, [], .lst xs⟩)) (hv : σ[i]? = some (some (.ref pa))) (e : xs[p]? = some (.lst ys)) (im : immAll ys = true) (hi : i < Γ.length) (D1 : Dl Γ.length M H0 F0 n H F) (hM : M i) :
    ∃ us b ub, H pa = some (.lst us) ∧ us.length = xs.length ∧ us[p]? = some (.ref b) ∧ H b = some (.lst ub) ∧ ub.length = ys.length ∧ pa ∈ F i ∧ b ∈ F i ∧ b ≠ pa ∧ Reps K H ys ub ∧ ∀ ys' ub', immAll ys' = true → Reps K H ys' ub' →
      Gd K (kill [i] (Γ.set i (some ⟨8, [], .lst (xs.set p (.lst ys'))⟩))) σ (upd H b (.lst ub')) F m ∧ Dl Γ.length M H0 F0 n (upd H b (.lst ub')) F := by
  obtain ⟨v, hv', A⟩ := G.rep i _ hg
  rw [hv] at hv'
  cases hv'
  obtain ⟨a, us, f, ea, ha, ef, r⟩ := A.rep
  cases ea
  have nf : f.Nodup := by
    have := G.nd i
    rw [ef] at this
    exact (List.nodup_cons.mp this).2
  have naf : pa ∉ f := by
    have := G.nd i
    rw [ef] at this
    exact (List.nodup_cons.mp this).1
  obtain ⟨b, ub, q1, q2, q3, q4, q5⟩ := OReps.inner r e im nf (fun a ha => G.obj i a (by rw [ef]; exact List.mem_cons_of_mem _ ha)) (fun a o e z => (cut_some.mp e).1 ⟨i, List.not_mem_nil, by rw [ef]; exact List.mem_cons_of_mem _ z⟩)
  have bi : b ∈ F i := by rw [ef]; exact List.mem_cons_of_mem _ q3
  refine ⟨us, b, ub, ha, r.len, q1, q2, q4.len, by rw [ef]; exact List.mem_cons_self, bi, (fun z => naf (by rw [← z]; exact q3)), Reps.mono cut_le q4, fun ys' ub' im' rd_ => ?_⟩
  have nba : b ≠ pa := fun z => naf (by rw [← z]; exact q3)
  have hs : ∀ rs, i ∉ rs → ∀ a o, ¬ Oth F rs a → H a = some o → upd H b (.lst ub') a = some o ∧ ¬ Oth F rs a := fun rs hr a o no e => ⟨by
    rw [upd_ne (fun z => by subst z; exact no ⟨i, hr, bi⟩)]; exact e, no⟩
  have lk : (kill [i] (Γ.set i (some ⟨8, [], .lst (xs.set p (.lst ys'))⟩))).length = Γ.length := by rw [kill_len, List.length_set]
  refine ⟨⟨by rw [lk]; exact G.len, by rw [lk]; exact G.top, G.off, G.nd, G.dj, fun j a h => ?_, fun j u hu => ?_⟩, ⟨fun a o e q => ?_, D1.frm, D1.old, D1.new⟩⟩
  · by_cases z : a = b
    · subst z; exact ob_lst upd_same
    · obtain ⟨o, e'⟩ := G.obj j a h
      exact ⟨o, by rw [upd_ne z]; exact e'⟩
  · obtain ⟨u1, u2⟩ := kill_get hu
    rw [lk]
    by_cases z : j = i
    · subst z
      rw [List.getElem?_set_self hi] at u1
      cases u1
      refine ⟨_, hv, (fun _ z => nomatch z), ?_⟩
      rw [ef]
      refine ⟨pa, us, f, rfl, by rw [upd_ne (Ne.symm nba)]; exact ha, rfl, ?_⟩
      refine OReps.mono (cut_sub fun a o no e => hs [] List.not_mem_nil a o no e) (fun _ _ _ e => e) (q5 ys' ub' im' (Reps.imm_cut (fun a q => G.othObj q) im' rd_))
    · rw [List.getElem?_set_ne (Ne.symm z)] at u1
      obtain ⟨y, hy, B⟩ := G.rep j u u1
      have ni : i ∉ u.rs := fun z => u2 i z (by simp)
      refine ⟨y, hy, B.move (fun a ha' o e => ?_) rfl (hs _ ni)⟩
      rw [upd_ne (fun z' => by subst z'; exact z (G.dj j i a ha' bi))]
      exact e
  · rw [upd_ne (fun z => by
      subst z
      rcases D1.new i a (.inl ⟨hi, hM⟩) bi with ⟨m', m1, m2, m3⟩ | z
      · exact q m' m1 m2 m3
      · rw [e] at z; cases z)]
    exact D1.keep a o e q
theorem Gd.inner {G0 : Hp} {ys : List Own.D} {pp : Nat} {pa : Addr} (G : Gd K Γ σ H F m) (hg : Γ[i]? = some (some ⟨8, [], .lst xs⟩)) (hv : σ[i]? = some (some (.ref pa))) (e : xs[p]? = some (.lst ys)) (im : immAll ys = true) (hi : i < Γ.length) (D1 : Dl Γ.length M H0 F0 n H F) (hM : M i) :
    ∃ us b ub, H pa = some (.lst us) ∧ us.length = xs.length ∧ us[p]? = some (.ref b) ∧ H b = some (.lst ub) ∧ ub.length = ys.length ∧ pa ∈ F i ∧ b ∈ F i ∧ ∀ pp d x, imm d = true → Rep K H d x →
      Gd K (kill [i] (Γ.set i (some ⟨8, [], .lst (xs.set p (.lst (ys.set pp d)))⟩))) σ (upd H b (.lst (ub.set pp x))) F m ∧ Dl Γ.length M H0 F0 n (upd H b (.lst (ub.set pp x))) F := by
  obtain ⟨us, b, ub, h1, h2, h3, h4, h5, h6, h7, _, h8, h9⟩ := G.innerG (G0 := G0) (pp := pp) hg hv e im hi D1 hM
  exact ⟨us, b, ub, h1, h2, h3, h4, h5, h6, h7, fun pp d x a c => h9 _ _ (immAll_set im a) (Reps.set pp c h8)⟩
/-- xs[k][k2] = e -/
theorem tS_setIx2 (h : tS K ER C Wx B (.setIx2 i a b e) D σ H) : tAsg (tE K ER C Wx e) (gSub (tOp (rIx K) (tVar i) (tE K ER C Wx a)) (tE K ER C Wx b) rSetL) D σ H := by
  obtain ⟨Γ, F, n, G, P⟩ := h
  rw [exS] at P
  obtain ⟨⟨w0, e0⟩, P⟩ := gI_get P
  obtain ⟨x, hx, _⟩ := G.rep i w0 e0
  have hN := G.top
  have hi : i < Γ.length := (List.getElem?_eq_some_iff.mp e0).1
  refine tE.stm G (fun m hm => List.mem_cons_of_mem _ (List.mem_append_right _ (List.mem_append_right _ hm))) P fun w Γ1 v H1 F1 hl P1 G1 A1 D1 => ⟨x, hx, ?_⟩
  refine tE.stm2 G.top hl G1 D1 (fun m hm => List.mem_cons_of_mem _ (List.mem_append_left _ hm)) P1 fun w2 Γ2 v2 H2 F2 hl2 P2 G2 A2 D12 D2 => ?_
  simp only at P2
  split at P2
  · exact P2.elim
  rename_i q2 hq2
  obtain ⟨xs, p, ys⟩ := q2
  obtain ⟨u, j, er, ek, eu, ep, ey, el, ers, im⟩ := inn2_of hq2
  obtain ⟨lu, ru, du⟩ := u
  simp only at eu el ers
  subst eu
  subst el
  subst ers
  have getslot : ∀ {Γ : Gm} {u : W}, rd Γ i = some u → Γ[i]? = some (some u) := fun {Γ u} er => by
    unfold rd at er
    split at er
    · rename_i z ez; cases er; exact ez
    · cases er
  have eg := getslot er
  obtain ⟨v0, hv0, A0⟩ := G2.rep i _ eg
  rw [hx] at hv0
  cases hv0
  obtain ⟨pa, us0, ex, _⟩ := reads_lst A0 rfl
  subst ex
  obtain ⟨us, bb, ub, i1, i2, i3, i4, i5, i6, i7, _⟩ := G2.inner (M := mem (mutS (.setIx2 i a b e))) (H0 := H) (F0 := F) (n := n) (G0 := H) (pa := pa) (pp := 0) eg hx ey im (by rw [hl2]; exact hi) (by rw [hl2]; exact D2) List.mem_cons_self
  have hj := reads_int A2 ek
  refine .inl ⟨pa, us, j, .ref bb, rfl, hj, .of i1, by unfold atI; rw [i2, ep]; exact i3, ?_⟩
  refine tE.stmq hN (by omega : n ≤ n + 2) hl2 G2 D2 (fun m hm => List.mem_cons_of_mem _ (List.mem_append_right _ (List.mem_append_left _ hm))) P2 fun w3 Γ3 v3 H3 F3 hl3 P3 G3 A3 D23 D3 => ?_
  simp only at P3
  split at P3
  case h_2 => exact P3.elim
  rename_i xs3 p3 ys3 j2 hq3 hd3
  obtain ⟨u3, j3, er3, ek3, eu3, ep3, ey3, el3, ers3, im3⟩ := inn2_of hq3
  rw [ek] at ek3
  cases ek3
  obtain ⟨lu3, ru3, du3⟩ := u3
  simp only at eu3 el3 ers3
  subst eu3
  subst el3
  subst ers3
  split at P3
  case h_2 => exact P3.elim
  rename_i p2 hp2
  split at P3
  case isFalse => exact P3.elim
  rename_i cond
  rw [Bool.and_eq_true] at cond
  obtain ⟨c1, c2⟩ := cond
  have ni : ¬ mem (mutE b) i := fun z => by
    unfold disj at c2
    simp only [List.all_cons, List.all_nil, Bool.and_true, Bool.not_eq_true', List.contains_eq_mem, decide_eq_false_iff_not] at c2
    exact c2 z
  have eg3 := getslot er3
  obtain ⟨us3, b3, ub3, k1, k2, k3, k4, k5, k6, k7, k8⟩ := G3.inner (M := mem (mutS (.setIx2 i a b e))) (H0 := H) (F0 := F) (n := n) (G0 := H) (pa := pa) (pp := 0) eg3 hx ey3 im3 (by rw [hl3]; exact hi) (by rw [hl3]; exact D3) List.mem_cons_self
  have keep : ∀ o, H2 pa = some o → H3 pa = some o := fun o e => D23.keep pa o e fun m hm hM z => by
    have := G2.dj m i pa z i6
    subst this
    exact ni hM
  have e3 := keep _ i1
  rw [k1] at e3
  cases e3
  have ep' : p3 = p := by
    rw [← k2, i2] at ep3
    rw [ep] at ep3
    exact (Option.some.inj ep3).symm
  subst ep'
  rw [i3] at k3
  cases k3
  refine ⟨bb, ub3, j2, p2, rfl, reads_int A3 hd3, k4, by rw [k5]; exact hp2, ?_⟩
  have B1 := ((A1.val G1 c1).hold D12 G.top (Nat.lt_succ_self n) (fun _ z => nomatch z) G1.dj)
  have B2 := (B1.hold D23 (by omega) (by omega) (fun _ z => nomatch z) G2.dj).read
  obtain ⟨g8, d8⟩ := k8 p2 w.d v c1 B2
  rw [hl3] at d8
  exact P3 _ _ _ (g8.aft (by rw [kill_len, List.length_set]; exact hl3) hN d8 fun _ _ => rfl)
theorem Gd.less (G : Gd K Γ σ H F n) (hl : Γ'.length = Γ.length) (h : ∀ (j : Nat) (w : W), Γ'[j]? = some (some w) → Γ[j]? = some (some w)) : Gd K Γ' σ H F n :=
  ⟨by rw [hl]; exact G.len, by rw [hl]; exact G.top, G.off, G.nd, G.dj, G.obj, fun j w e => by rw [hl]; exact G.rep j w (h j w e)⟩
theorem Gd.blind (G : Gd K Γ σ H F n) {x : Option V} (h : ∀ w : W, Γ[i]? ≠ some (some w)) : Gd K Γ (σ.set i x) H F n :=
  ⟨by rw [List.length_set]; exact G.len, G.top, G.off, G.nd, G.dj, G.obj, fun j w e => by
    have ne : i ≠ j := fun z => by subst z; exact h w e
    rw [List.getElem?_set_ne ne]
    exact G.rep j w e⟩
theorem take_add {f : Own.D → Own.D} {xs : List Own.D} {k : Nat} {x : Own.D} (h : xs[k]? = some x) : ((xs.take k).map f ++ xs.drop k).set k (f x) = (xs.take (k + 1)).map f ++ xs.drop (k + 1) := by
  have hk := (List.getElem?_eq_some_iff.mp h).1
  have hl : ((xs.take k).map f).length = k := by rw [List.length_map, List.length_take]; omega
  have ed : xs.drop k = x :: xs.drop (k + 1) := by
    rw [List.drop_eq_getElem_cons hk]
    congr 1
    have := List.getElem?_eq_getElem hk
    rw [h] at this
    exact (Option.some.inj this).symm
  rw [List.set_append_right _ _ (by omega), hl, Nat.sub_self, ed, List.set_cons_zero, List.take_succ, h, List.map_append, List.append_assoc]
  rfl
theorem take_at {f : Own.D → Own.D} {xs : List Own.D} {k : Nat} : ((xs.take k).map f ++ xs.drop k)[k]? = xs[k]? := by
  by_cases hk : k < xs.length
  · have hl : ((xs.take k).map f).length = k := by rw [List.length_map, List.length_take]; omega
    rw [List.getElem?_append_right (by omega), hl, Nat.sub_self, List.getElem?_drop, Nat.add_zero]
  · rw [List.getElem?_eq_none (by simp; omega), List.getElem?_eq_none (by omega)]
/-- for row in xs: row.append(c) -/
theorem tS_appAll {v : Nat} {c : Int} (hB : v ∉ B) (h : tS K ER C Wx B (.appAll i v c) D σ H) : tFor (iSeq K (tVar i)) (gName v) (tSeq (tDrop (tBM K "list" rAppend (tVar v) (tCons (tC (.int c)) tNil))) tNext) D σ H := by
  obtain ⟨Γ, F, n, G, P⟩ := h
  rw [exS] at P
  cases hr : rd Γ i with
  | none => simp only [hr] at P; exact P.elim
  | some u =>
    obtain ⟨lu, ru, du⟩ := u
    simp only [hr] at P
    cases du <;> simp only at P <;> try exact P.elim
    rename_i xs
    split at P
    case isFalse => exact P.elim
    rename_i cond
    simp only [Bool.and_eq_true, decide_eq_true_eq, List.isEmpty_iff] at cond
    obtain ⟨⟨⟨⟨c1, c2⟩, c3⟩, c4⟩, c5⟩ := cond
    subst c1
    subst c2
    have eg : Γ[i]? = some (some ⟨8, [], .lst xs⟩) := by
      unfold rd at hr
      split at hr
      · rename_i z ez; cases hr; exact ez
      · cases hr
    have hi : i < Γ.length := (List.getElem?_eq_some_iff.mp eg).1
    obtain ⟨v0, hv0, A0⟩ := G.rdv hr
    obtain ⟨pa, us, rfl, hpa, rr⟩ := reads_lst A0 rfl
    have hlen : us.length = xs.length := rr.len
    have hN := G.top
    have gl : ∀ L : List Own.D, ((kill [i] (Γ.set i (some ⟨8, [], .lst L⟩))).set v none).length = Γ.length := fun L => by rw [List.length_set, kill_len, List.length_set]
    have gi : ∀ L : List Own.D, ((kill [i] (Γ.set i (some ⟨8, [], .lst L⟩))).set v none)[i]? = some (some ⟨8, [], .lst L⟩) := fun L => by
      rw [List.getElem?_set_ne (Ne.symm c4)]
      unfold kill
      rw [List.getElem?_map, List.getElem?_set_self hi]
      rfl
    have gj : ∀ (L : List Own.D) (j : Nat) (w : W), ((kill [i] (Γ.set i (some ⟨8, [], .lst L⟩))).set v none)[j]? = some (some w) → j ≠ v ∧ (j = i → w = ⟨8, [], .lst L⟩) ∧ (j ≠ i → Γ[j]? = some (some w) ∧ i ∉ w.rs) := fun L j w e => by
      by_cases hjv : v = j
      · subst hjv
        by_cases hvl : v < (kill [i] (Γ.set i (some ⟨8, [], .lst L⟩))).length
        · rw [List.getElem?_set_self hvl] at e; cases e
        · rw [List.getElem?_eq_none (by rw [List.length_set]; omega)] at e; cases e
      · rw [List.getElem?_set_ne hjv] at e
        obtain ⟨e1, e2⟩ := kill_get e
        refine ⟨fun z => hjv z.symm, fun z => ?_, fun z => ?_⟩
        · subst z
          rw [List.getElem?_set_self hi] at e1
          cases e1; rfl
        · rw [List.getElem?_set_ne (Ne.symm z)] at e1
          exact ⟨e1, fun y => e2 i y (by simp)⟩
    have gmk : ∀ (Γ1 : Gm) (L : List Own.D), Γ1.length = Γ.length → Γ1[i]? = some (some ⟨8, [], .lst L⟩) → (∀ j w, j ≠ i → j ≠ v → Γ[j]? = some (some w) → i ∉ w.rs → Γ1[j]? = some (some w)) → ∀ j w, ((kill [i] (Γ.set i (some ⟨8, [], .lst L⟩))).set v none)[j]? = some (some w) → Γ1[j]? = some (some w) := fun Γ1 L _ h1 h2 j w e => by
      obtain ⟨a1, a2, a3⟩ := gj L j w e
      by_cases z : j = i
      · rw [z, a2 z]; exact h1
      · exact h2 j w z a1 (a3 z).1 (a3 z).2
    refine ⟨.ref pa, hv0, pa, rfl, .inl ⟨⟨us, .of hpa⟩, fun k m σ' H' => ∃ F', k + m = xs.length ∧ σ'[i]? = some (some (.ref pa)) ∧ H' pa = some (.lst us) ∧ Aft K Γ.length (mem (mutS (.appAll i v c))) B σ H F n ((kill [i] (Γ.set i (some ⟨8, [], .lst ((xs.take k).map (rowAdd c) ++ xs.drop k)⟩))).set v none) σ' H' F' n, ⟨xs.length, F, by omega, hv0, hpa, ?_⟩, fun k m σ1 H1 w => ?_⟩⟩
    · refine ⟨G.less (gl _) (gmk Γ _ rfl ?_ fun j w _ _ e _ => e), Dl.refl G.top G.off, fun _ _ => rfl, gl _⟩
      rw [eg]; rfl
    · obtain ⟨F1, km, s1, p1, A⟩ := w
      by_cases hk : k < xs.length
      · right
        have ex : xs[k]? = some xs[k] := List.getElem?_eq_getElem hk
        have rk := List.all_eq_true.mp c3 xs[k] (List.getElem_mem hk)
        generalize hx : xs[k] = xk at *
        cases xk <;> unfold rowOk at rk <;> try cases rk
        rename_i ys
        rw [Bool.and_eq_true, decide_eq_true_eq] at rk
        obtain ⟨us', b, ub, i1, i2, i3, i4, i5, i6, i7, i10, i8, i9⟩ := A.gd.innerG (M := mem (mutS (.appAll i v c))) (H0 := H) (F0 := F) (n := n) (G0 := H) (pa := pa) (pp := 0) (gi _) s1 (take_at.trans ex) rk.1 (by rw [gl]; exact hi) (by rw [gl]; exact A.dl) List.mem_cons_self
        rw [p1] at i1
        cases i1
        refine ⟨⟨us, .ref b, .of p1, i3⟩, fun σ' H' => ∃ m', m' < m ∧ ∃ F', k + 1 + m' = xs.length ∧ σ'[i]? = some (some (.ref pa)) ∧ H' pa = some (.lst us) ∧ Aft K Γ.length (mem (mutS (.appAll i v c))) B σ H F n ((kill [i] (Γ.set i (some ⟨8, [], .lst ((xs.take (k + 1)).map (rowAdd c) ++ xs.drop (k + 1))⟩))).set v none) σ' H' F' n, fun _ _ z => z, fun x H3 hy => ?_⟩
        obtain ⟨e1, e2⟩ := hy
        subst e1
        have e3 := e2 us (.of p1)
        rw [i3] at e3
        cases e3
        have hsl : σ1.length = Γ.length := A.gd.len.trans (gl _)
        refine ⟨.ref b, List.getElem?_set_self (by rw [hsl]; exact c5), .inl ⟨rfl, ub, .of i4⟩, b, ub, .int c, rfl, rfl, i4, by rw [i5]; exact Nat.lt_of_lt_of_le rk.2 lim_line, m - 1, by omega, F1, by omega, ?_, ?_, ?_⟩
        · rw [List.getElem?_set_ne (Ne.symm c4)]; exact s1
        · rw [upd_ne (Ne.symm i10)]; exact p1
        · obtain ⟨g8, d8⟩ := i9 (ys ++ [.int c]) (ub ++ [.int c]) (immAll_append rk.1 rfl) (Reps.append (es := [.int c]) (us := [.int c]) i8 ⟨.int c, [], rfl, rfl, rfl⟩)
          rw [gl] at d8
          have eL := take_add (f := rowAdd c) ex
          refine ⟨(g8.less (by rw [gl, kill_len, List.length_set, gl]) fun j w e => ?_).blind fun w e => (gj _ v w e).1 rfl, d8, fun j hj => ?_, gl _⟩
          · obtain ⟨a1, a2, a3⟩ := gj _ j w e
            by_cases z : j = i
            · rw [z, a2 z]
              unfold kill
              rw [List.getElem?_map, List.getElem?_set_self (by rw [List.length_set, List.length_map, List.length_set]; exact hi)]
              show some (some (W.mk 8 [] (.lst _))) = _
              rw [← eL]
              rfl
            · obtain ⟨b1, b2⟩ := a3 z
              have kk : kill1 [i] (some w) = some w := if_neg (by
                intro y
                rw [List.any_eq_true] at y
                obtain ⟨r, r1, r2⟩ := y
                have : r = i := by simpa using r2
                exact b2 (by rw [← this]; exact r1))
              unfold kill
              rw [List.getElem?_map, List.getElem?_set_ne (Ne.symm z), List.getElem?_set_ne (Ne.symm a1)]
              rw [List.getElem?_map, List.getElem?_set_ne (Ne.symm z), b1]
              show some (kill1 [i] (kill1 [i] (some w))) = _
              rw [kk, kk]
          · rw [List.getElem?_set_ne (fun z => hB (by rw [z]; exact hj))]
            exact A.st j hj
      · left
        have ek : (xs.take k).map (rowAdd c) ++ xs.drop k = xs.map (rowAdd c) := by rw [List.take_of_length_le (by omega), List.drop_eq_nil_of_le (by omega), List.append_nil]
        rw [ek] at A
        exact ⟨⟨us, .of p1, by rw [hlen]; omega⟩, P _ _ _ A⟩
/-- slot i's list, of items without lists, becomes another such list -/
theorem chgL_ok {xs0 : List Own.D} (hN : N ≤ n) (G : Gd K Γ σ H1 F1 m) (hl : Γ.length = N) (er : rd Γ i = some ⟨l, [], .lst xs0⟩) (h1 : 1 ≤ l) (im : immAll xs0 = true) (D1 : Dl N M H F n H1 F1) (hM : M i) :
    ∃ a us, σ[i]? = some (some (.ref a)) ∧ H1 a = some (.lst us) ∧ Reps K H1 xs0 us ∧ ∀ xs' us', immAll xs' = true → Reps K H1 xs' us' → fPost K ER Wx N M B σ H F n D (.ok (.nx (kill [i] (Γ.set i (some ⟨8, [], .lst xs'⟩))))) → D.nx σ (upd H1 a (.lst us')) := by
  have eg : Γ[i]? = some (some ⟨l, [], .lst xs0⟩) := by
    unfold rd at er
    split at er
    · rename_i u eu
      cases er
      exact eu
    · cases er
  have hi : i < N := by
    have := (List.getElem?_eq_some_iff.mp eg).1
    omega
  have hm := G.top
  obtain ⟨v0, hv0, A⟩ := G.rep i _ eg
  obtain ⟨l, rfl⟩ : ∃ j, l = j + 1 := ⟨l - 1, by omega⟩
  have rp := A.read
  obtain ⟨a, us, f, ea, ha, ef, r⟩ := A.rep
  subst ea
  have f0 : f = [] := OReps.imm_nil im r
  subst f0
  obtain ⟨a', us', ea', q', r'⟩ := rp
  cases ea'
  rw [ha] at q'
  cases q'
  refine ⟨a, us, hv0, ha, r', fun xs' us' im' r2 P => ?_⟩
  have pk' : Pk K Γ H1 F1 i n a [] [] := ⟨ef, by omega, List.nodup_nil, (fun _ z => nomatch z), G.dj, G.nd i⟩
  have lk : (kill [i] (Γ.set i (some ⟨8, [], .lst xs'⟩))).length = N := by rw [kill_len, List.length_set]; exact hl
  have ob : ∀ b, Oth F1 [] b → Ob H1 b := fun b z => G.othObj z
  have G8 := pk'.gd (ob' := .lst us') (Γ' := kill [i] (Γ.set i (some ⟨8, [], .lst xs'⟩))) G (by omega) (by omega) (by rw [lk, hl]) (.inl ⟨_, rfl⟩) (fun j u e ne => by
    obtain ⟨e1, e2⟩ := kill_get e
    rw [List.getElem?_set_ne (Ne.symm ne)] at e1
    exact ⟨e1, fun z => e2 i z (by simp)⟩) (fun u _ e => by
    obtain ⟨e1, _⟩ := kill_get e
    rw [List.getElem?_set_self (by omega)] at e1
    cases e1
    refine ⟨_, hv0, (fun _ z => nomatch z), ?_⟩
    rw [pk_p (by omega)]
    exact ⟨a, us', [], rfl, upd_same, rfl, OReps.mono (H := H1) pk'.cut (fun _ z => nomatch z) (Reps.own im' (Reps.imm_cut ob im' r2))⟩)
  exact P _ _ _ (G8.aft lk hN (pk'.dl D1 (Nat.le_refl n) (.inl ⟨hi, hM⟩) hN) fun _ _ => rfl)
/-- xs.reverse() -/
theorem tS_rev (h : tS K ER C Wx B (.rev i) D σ H) : tDrop (tBM0 K "list" rReverse (tVar i)) D σ H := by
  obtain ⟨Γ, F, n, G, P⟩ := h
  rw [exS] at P
  cases hr : rd Γ i with
  | none => simp only [hr] at P; exact P.elim
  | some u =>
    obtain ⟨lu, ru, du⟩ := u
    simp only [hr] at P
    cases du <;> simp only at P <;> try exact P.elim
    rename_i xs
    split at P
    case isFalse => exact P.elim
    rename_i cond
    simp only [Bool.and_eq_true, decide_eq_true_eq, List.isEmpty_iff] at cond
    obtain ⟨⟨c1, c2⟩, c3⟩ := cond
    have c2 : ru = [] := c2
    subst c2
    obtain ⟨a, us, hv, hus, rs, q⟩ := chgL_ok (B := B) (D := D) (ER := ER) (Wx := Wx) G.top G rfl hr c1 c3 (Dl.refl G.top G.off) (M := mem (mutS (.rev i))) List.mem_cons_self
    exact ⟨.ref a, hv, .inl ⟨rfl, us, .of hus⟩, a, us, rfl, rfl, hus, q _ _ (immAll_reverse c3) (Reps.rev rs) P⟩
/-- xs.extend(e) -/
theorem tS_extend (h : tS K ER C Wx B (.extend i e) D σ H) : tDrop (tBM K "list" rExtend (tVar i) (tCons (tE K ER C Wx e) tNil)) D σ H := by
  obtain ⟨Γ, F, n, G, P⟩ := h
  rw [exS] at P
  cases hr : rd Γ i with
  | none => simp only [hr] at P; exact P.elim
  | some u =>
    obtain ⟨lu, ru, du⟩ := u
    cases du <;> simp only [hr] at P <;> try exact P.elim
    rename_i xs00
    obtain ⟨v0, hv0, A0⟩ := G.rdv hr
    obtain ⟨a0, us0, rfl, h00, _⟩ := reads_lst A0 rfl
    refine ⟨.ref a0, hv0, .inl ⟨rfl, us0, .of h00⟩, tE.stm G (fun m hm => List.mem_cons_of_mem _ hm) P fun w Γ1 v H1 F1 hl P1 G1 A1 D1 => ?_⟩
    cases hr1 : rd Γ1 i with
    | none => simp only [hr1] at P1; exact P1.elim
    | some x =>
      obtain ⟨lx, rx, dx⟩ := x
      simp only [hr1] at P1
      cases hd : w.d <;> simp only [hd] at P1 <;> try exact P1.elim
      rename_i ys
      cases dx <;> simp only at P1 <;> try exact P1.elim
      rename_i xs0
      split at P1
      case isFalse => exact P1.elim
      rename_i cond
      simp only [Bool.and_eq_true, decide_eq_true_eq, List.isEmpty_iff] at cond
      obtain ⟨⟨⟨⟨c1, c2⟩, c3⟩, c4⟩, c5⟩ := cond
      have c2 : rx = [] := c2
      subst c2
      obtain ⟨b, vs, rfl, hb, rb⟩ := reads_lst A1 hd
      obtain ⟨a, us, hv, hus, rs, q⟩ := chgL_ok (B := B) (D := D) (ER := ER) (Wx := Wx) G.top G1 hl hr1 c1 c3 D1 (M := mem (mutS (.extend i e))) List.mem_cons_self
      rw [hv0] at hv
      cases hv
      exact ⟨a0, b, us, vs, rfl, rfl, hus, hb, by rw [Reps.len rs, Reps.len rb]; exact Nat.le_trans c5 lim_line, q _ _ (immAll_append c3 c4) (Reps.append rs rb) P1⟩
theorem tS_dead {st : Stmt} {X : Cx} : PS X st (tS K ER C Wx B .dead) := ⟨fun pins s σ H D I h => by
  obtain ⟨Γ, F, n, G, P⟩ := h
  rw [exS] at P
  exact P.elim⟩
end
end Own

end
section
set_option maxHeartbeats 1000000
set_option maxHeartbeats 2000000
namespace Own
open PySem PySem.Spec L2

/-- how an error lies -/
def ERx (K : PySem.W.Frag) : ERel := fun H _ as cls dx => ∃ (x f : Str) (p : Sum Int Str) (C d : Addr), as = [.exn x f p] ∧ ExK K x f C ∧ cls = .ref C ∧ dx = some d ∧ H d = some (.xd [(f, pV p)])
/-! ### def __init__(self, f): self.f = f -/
def spI (K : PySem.W.Frag) (f : Str) : Sp := fun vs H Q _ => ∃ (a C : Addr) (y : V), vs = [.ref a, y] ∧ OexC K C ∧ PySem.W.findIn K (.ref C) f = some none ∧ H a = some (exo a C none) ∧
  ∀ dx, H dx = none → dx ≠ a → Q .non (upd (upd H dx (exd dx [(f, y)])) a (exo a C (some dx)))
/-- the text of such a def -/
def iniB (f : Str) : List Stmt → Bool
  | [.Assign [.Attribute (.Name s _) g _] (.Name y _) _] => decide (s = ("self" : Str)) && decide (g = f) && decide (y = f)
  | _ => false
theorem init_ok {P : Program} {w : World} {K : PySem.W.Frag} {mg : Str → Option Value} {base : Heap} {f qual : Str} {st : Stmt} {fI : Addr} {fd : FuncData} (F : Fun K "__init__" qual st fI fd) (S : FnScope ["self", f] ["self", f] (defScope st)) (hb : iniB f (defBody st) = true)
    (h1 : visB (defScope st) "self" = true) (h2 : visB (defScope st) f = true) : FnOk P w K mg base CX0 1 fI fd ["self", f] (spI K f) :=
  F.ok S (fun vs H Q E ⟨a, C, y, e, _⟩ => by rw [e]; rfl) fun cdv A outer s H vs Q E hr ⟨a, C, y, e, T, no, ha, q⟩ => by
    subst e
    unfold iniB at hb
    split at hb
    case h_2 => cases hb
    rename_i sn p1 g p2 yn p3 p4 eb
    rw [eb]
    simp only [Bool.and_eq_true, decide_eq_true_eq] at hb
    obtain ⟨⟨e1, e2⟩, e3⟩ := hb
    subst e1
    subst e2
    subst e3
    have vis : ∀ {x : Str}, visB (defScope st) x = true → Vis (defScope st) x ∧ (x == ("__debug__" : Str)) = false ∧ (x == ("__classdict__" : Str)) = false := fun {x} h => by
      unfold visB kindB at h
      simp only [Bool.and_eq_true, Bool.or_eq_true, Bool.not_eq_true', decide_eq_true_eq] at h
      obtain ⟨⟨h2, h3⟩, h4⟩ := h
      refine ⟨?_, h3, h4⟩
      unfold Vis
      cases q : (defScope st).names.lookup x with
      | none => rw [q] at h2; simp at h2
      | some k =>
        rw [q] at h2
        simp only [beq_iff_eq] at h2
        rcases h2 with (h2 | h2) | h2
        · rw [h2]; exact .inl rfl
        · rw [h2]; exact .inr (.inl rfl)
        · rw [h2]; exact .inr (.inr rfl)
    obtain ⟨v1, v2, v3⟩ := vis h1
    obtain ⟨w1, w2, w3⟩ := vis h2
    refine ⟨_, pss_one (ps_ost (pe_var (i := 0) rfl v1 v2 v3) (pe_var (i := 1) rfl w1 w2 w3) rfl), ?_⟩
    exact ⟨y, rfl, .ref a, rfl, a, C, rfl, T, no, .inl ⟨ha, fun dx n ne => q dx n ne⟩⟩
/-! ### contexts -/
/-- an error class that is raised -/
structure RzF (X : Cx) (x f : Str) (C : Addr) : Prop where
  gC : X.mg x = some (.ref C)
  ex : ExK X.K x f C
  T : OexC X.K C
  fi : ∃ (fI : Addr) (fd : FuncData) (ps : List Str), PySem.W.findIn X.K (.ref C) "__init__" = some (some (.ref fI)) ∧ PySem.W.typeIn X.K (.ref fI) = some (.type "function") ∧ FnOk X.prog X.w X.K X.mg X.base CX0 1 fI fd ps (spI X.K f) ∧ Binds X.K fd ps []
/-- the context of a def's body -/
structure XS (X : Cx) (m : Nm) (sc : Scope) (C : Ctx) (ER : ERel) (Wx : WX) : Prop extends XC X m sc C ER Wx where
  loc : LocOk X (locB sc)
  po : PassesOwn (model X.prog X.w) X.A X.env X.xe
  kd : X.env.scope.kind = .function
  er : ER = ERx X.K
  rz : ∀ x f, (x, f) ∈ m.rz → ∃ C, RzF X x f C
  rm : Room 2 X.A
  st : X.stack = X.env :: X.outer
  fr : X.env.frame = some X.env.locals
  ex0 : X.ex = []
section
variable {K : PySem.W.Frag} {ER : ERel} {C : Ctx} {Wx : WX} {N n m k i j p q : Nat} {Γ Γ0 Γ1 Γ2 Γ' : Gm} {σ σ' σ1 σ2 : L2.St} {H H' H0 H1 H2 R : Hp} {F F' F0 F1 F2 : Fpt} {w w1 w2 : W} {v : V} {d : Own.D} {B : List Nat} {M M1 M2 : Nat → Prop} {e : E} {D : Ends} {b : Ss}
theorem pOf_rep {p : Sum Int Str} (e : pOf d = some p) (r : Rep K H d v) : v = pV p := by
  cases d with
  | int i => cases e; exact r
  | str x => cases e; exact r
  | non => cases e
  | bl _ => cases e
  | tup _ => cases e
  | lst _ => cases e
  | scr _ => cases e
  | exn _ _ _ => cases e
  | dct _ _ _ => cases e
/-- raise x(e) -/
theorem tS_raise {x f : Str} {Ca : Addr} (hE : ER = ERx K) (hx : ExK K x f Ca) (hT : OexC K Ca) (h : tS K ER C Wx B (.raiseE x f e) D σ H) : tMkO Ca (spI K f) [] (tCons (tE K ER C Wx e) tNil) σ H fun cls d H' => Wx cls d σ H' := by
  obtain ⟨Γ, F, n, G, P⟩ := h
  rw [exS] at P
  refine tE.stm G (fun m hm => hm) P fun w Γ1 v H1 F1 hl P1 G1 A1 D1 => ?_
  cases hp : pOf w.d with
  | none => simp only [hp] at P1; exact P1.elim
  | some p =>
    simp only [hp] at P1
    have ev := pOf_rep hp A1.read
    refine ⟨by show 1 ≤ 1000; omega, fun a ha => ⟨a, Ca, v, rfl, hT, hx.no, upd_same, fun dx hdx hne => ⟨rfl, dx, [(f, v)], upd_same, by rw [upd_ne hne, upd_same], ?_, ?_⟩⟩⟩
    · rw [upd_ne hne] at hdx; exact hdx
    · rw [upd_ne hne] at hdx
      have eH : upd (del (upd (upd (upd H1 a (exo a Ca none)) dx (exd dx [(f, v)])) a (exo a Ca (some dx))) a) dx (.xd [(f, v)]) = upd H1 dx (.xd [(f, v)]) := by
        funext c
        by_cases hc : c = dx
        · subst hc; rw [upd_same, upd_same]
        · rw [upd_ne hc, upd_ne hc]
          by_cases ha' : c = a
          · subst ha'; rw [del_same, ha]
          · rw [del_ne ha', upd_ne ha', upd_ne hc, upd_ne ha']
      rw [eH]
      have s : Same H1 (upd H1 dx (.xd [(f, v)])) := fun c o z => by rw [upd_ne (ne_of_none z hdx)]; exact z
      have hN := G.top
      have G2 := (G1.drop (n := n) (by omega)).grow s
      refine P1 _ _ σ _ (low n F1) ?_ ⟨G2, ?_, fun _ _ => rfl, hl⟩
      · rw [hE]
        exact ⟨x, f, p, Ca, dx, rfl, hx, rfl, rfl, by rw [upd_same, ev]⟩
      · exact (D1.drop hN).temps hN s (fun _ _ => rfl) fun k a hk z => .inl ⟨k, hk, z⟩
/-! ### a caught error, tracked -/
theorem _root_.L2.Inv.track {X : Cx} {pins : List (Addr × Obj)} {s : Shared} {a dd Ca : Addr} {oe : Obj} {vs : Array Value} (I : L2.Inv X pins σ H s) (ha : s.heap.get? a = some oe) (hc : oe.cls = .ref Ca) (hd : oe.dict = some dd) (hv : oe.data = .fields vs) (hn : H a = none)
    (h0 : X.s_0.heap.get? a = none) (nL : a ≠ X.env.locals) (hp : ∀ p ∈ X.pn ++ pins, p.1 ≠ a) : L2.Inv X pins σ (upd H a (exA Ca dd a)) s where
  ok := I.ok
  os := I.os
  bare := I.bare
  base := {
    keep := I.base.keep
    slot := I.base.slot
    free := fun b o e n hx => by
      rw [upd_ne (fun z => by rw [z, h0] at e; cases e)]
      exact I.base.free b o e n hx
    there := I.base.there
    tups := fun b xs q => by
      have := I.base.tups b xs q
      rw [upd_ne (ne_of_none this hn)]; exact this
    frzs := fun b o xs q => by
      have := I.base.frzs b o xs q
      rw [upd_ne (ne_of_none this hn)]; exact this
    tbls := fun b ps q => by
      obtain ⟨qs, this⟩ := I.base.tbls b ps q
      exact ⟨qs, by rw [upd_ne (ne_of_none this hn)]; exact this⟩ }
  loc := I.loc
  cell := I.cell
  free := by rw [upd_ne (Ne.symm nL)]; exact I.free
  freeC := fun x c e => by
    rw [upd_ne (fun z => ?_)]
    · exact I.freeC x c e
    · obtain ⟨v, o, ho, hdv⟩ := I.cell x c e
      rw [z, ha] at ho
      cases ho
      rw [hv] at hdv
      cases hdv
  pin := fun p hq => by
    obtain ⟨e1, e2, e3⟩ := I.pin p hq
    exact ⟨e1, by rw [upd_ne (hp p hq)]; exact e2, e3⟩
  hok := fun b u e => by
    by_cases hb : b = a
    · subst hb
      rw [upd_same] at e
      cases e
      exact ⟨⟨oe, vs, ha, hc, hd, hv⟩, ⟨oe, ha⟩, fun _ _ ⟨o, v, q, r⟩ k => ⟨o, v, k o q, r⟩⟩
    · rw [upd_ne hb] at e
      exact (I.hok b u e).stay (fun c v _ q => q) (fun c q => by rw [upd_ne (ne_of_none q hn)]; exact q) fun c xs q => by rw [upd_ne (ne_of_none q hn)]; exact q
  len := I.len
/-- what 'except c as i: j = i' wishes of an exception of the body -/
def wAsT (K : PySem.W.Frag) (c : Value) (i j : Nat) (D : Ends) : WX := fun cls d σ H => PySem.W.exmOne K cls c = some true ∧ ∃ Ca dd : Addr, cls = .ref Ca ∧ d = some dd ∧ ∀ a, H a = none → D.nx ((σ.set j (some (.ref a))).set i none) (upd H a (exA Ca dd a))
theorem ps_try_track {X : Cx} {x n0 c0 : Str} {c : Value} {body : List Stmt} {np p1 p2 p3 pos pos' : Pos} {tb : WX → TS} (hs : X.stack = X.env :: X.outer) (hf : X.env.frame = some X.env.locals) (hN : X.N.Nodup) (hi : X.N[i]? = some n0) (hln : X.env.kindOf n0 = some .local) (hj : X.N[j]? = some c0) (hlc : L2.Loc X.env.scope c0) (hfc : X.fn c0 = true ∨ X.env.scope.names.lookup c0 = some .local) (hij : i ≠ j) (hex : X.ex = []) (hc : Names X x c)
    (hvn : Vis X.env.scope n0) (hd1 : (n0 == ("__debug__" : Str)) = false) (hd2 : (n0 == ("__classdict__" : Str)) = false)
    (hb : ∀ (W : WX) (pn : List (Addr × Obj)) (xe : Value → Shared → Prop), Takes (X.tr pn xe) W → PassesOwn (model X.prog X.w) X.A X.env xe → PSs (X.tr pn xe) body (tb W)) :
    PS X (.Try body [.ExceptHandler (some (.Name x np)) (some n0) [.Assign [.Name c0 p1] (.Name n0 p2) p3] pos'] [] [] pos) (fun D σ H => tb (wAsT X.K c i j D) D σ H) := by
  refine ⟨fun pins s σ H D I h => ?_⟩
  have ok := I.ok
  have hfr : X.A.frames = some (X.env :: X.outer) := by rw [ok.frames, hs]
  have hloc : L2.Loc X.env.scope n0 := .inl hln
  refine wpAny_Try_except ?_
  refine wpAny_mono ((hb (wAsT X.K c i j D) (X.pn ++ pins) (fun e s₁ => wpAny (model X.prog X.w) X.A (noteFrame e X.env) (fun _ s₂ => wpAny (model X.prog X.w) X.A (setFlight e none) (fun _ s₃ =>
    wpAny (model X.prog X.w) X.A (handleBy e X.env [.ExceptHandler (some (.Name x np)) (some n0) [.Assign [.Name c0 p1] (.Name n0 p2) p3] pos']) (SP X pins D) X.xe s₃) X.xe s₂) X.xe s₁) (fun u s' xx => ?_) PassesOwn.looking).run [] s σ H D (I.toTry _) h) (fun f s1 hsp => ?_) (fun e s1 he => he)
  · -- the catch
    obtain ⟨a, B, sI, pins', σ', H', cls, d, rfl, J', nb, up, sky, na, os, ag, hb1, Ca, dd, ecls, edd, hyes⟩ := xx
    subst ecls
    subst edd
    have J : L2.Inv X pins σ' H' sI := J'.ofTry ok
    have sky' : Sky B (X.env :: X.outer) a (Zc (.ref Ca) (some dd)) X.env.locals s'.heap := by rw [← hs]; exact sky
    show wpAny (model X.prog X.w) X.A (noteFrame (.ref a) X.env) _ _ _
    refine Sky.land Zc.steady hfr hf sky' fun h3 fl3 up3 => ?_
    have J3 : L2.Inv X pins σ' H' { s' with heap := h3 } := J.landed nb fl3.1 (up.trans up3) os ag
    obtain ⟨oe3, vs3, he3, hz3, hd3⟩ := fl3.there
    have notFr : ∀ {h : Heap} {o : Obj} {vs : Array Value}, h.FunFrames B (X.env :: X.outer) → h.get? a = some o → o.data = .fields vs → a ∉ frs (X.env :: X.outer) := fun {h o vs} ff e dd hm => by
      obtain ⟨_, o', e', hnf⟩ := ff.mem hm
      rw [e] at e'; cases e'
      exact hnf _ dd
    have nfr := notFr fl3.2.2.1 he3 hd3
    have nL : a ≠ X.env.locals := fun z => nfr (List.mem_filterMap.mpr ⟨X.env, List.mem_cons_self, by rw [hf, z]⟩)
    have nF : a ∉ X.fs := fun hm => by
      obtain ⟨e, he, q⟩ := List.mem_filterMap.mp hm
      exact nfr (List.mem_filterMap.mpr ⟨e, List.mem_cons_of_mem _ he, q⟩)
    have hsI : sI.heap.get? a = none := by
      cases e : sI.heap.get? a with
      | none => rfl
      | some o =>
        have z := nb a o e (by rw [hs]; exact nfr)
        have z2 : B.get? a = none := fl3.2.1
        rw [z2] at z
        cases z
    have hs0 : X.s_0.heap.get? a = none := by
      cases e : X.s_0.heap.get? a with
      | none => rfl
      | some o =>
        obtain ⟨o', z⟩ := J.base.there a o e (by rw [hex]; exact List.not_mem_nil)
        rw [hsI] at z
        cases z
    have hpn : ∀ p ∈ X.pn ++ pins, p.1 ≠ a := fun p hp z => by
      have q := (J.pin p hp).1
      rw [z, hsI] at q
      cases q
    have S3 := J3.suite he3 hd3 na nL nF
    refine wpAny_handleBy_cons (codeAny_handlers_test ?_) (by intro q; cases q)
    have LT : PySem.W.Looks (model X.prog X.w) h3 (typeOf (.ref a)) (.ref Ca) := fun A Q E s k q => wpAny_typeOf_ref (k _ _ he3) (by rw [hz3.1]; exact q)
    have LM := PySem.W.exm_one (M := model X.prog X.w) (J3.kIn) LT hb1
    have test : ∀ {Q : Value → Shared → Prop} {E : Value → Shared → Prop}, Q c { s' with heap := h3 } → wpAny (model X.prog X.w) (X.A.mark (some (.ref a))) (eval (.Name x np) X.env) Q E { s' with heap := h3 } := fun {Q E} q => by
      obtain ⟨hg, hdbg, hm | ⟨hm, hv, hnn⟩⟩ := hc
      · exact ld_glob (X := X.suite a ((a, oe3) :: (X.pn ++ pins))) S3 hg hm q hdbg
      · exact ld_blt (X := X.suite a ((a, oe3) :: (X.pn ++ pins))) S3 hg hm hv q hnn hdbg
    refine test (LM.here ?_)
    refine codeAny_handlers_suite_as ?_
    refine HandSPX.lands_againZ fl3 fun h4 fl4 up4 => ?_
    have J4 : L2.Inv X pins σ' H' { s' with heap := h4 } := J.landed nb fl4.1 ((up.trans up3).trans up4) os ag
    obtain ⟨oe4, vs4, he4, hz4, hd4⟩ := fl4.there
    have S4 := J4.suite he4 hd4 na nL nF
    refine store_ok (X := X.suite a ((a, oe4) :: (X.pn ++ pins))) (v := .ref a) S4 hN hi hloc rfl (fun s5 S5 => ?_) (.inr hln)
    have suite : PSs (X.suite a ((a, oe4) :: (X.pn ++ pins))) [.Assign [.Name c0 p1] (.Name n0 p2) p3] (tAsg (tVar i) (gName j)) := pss_one (ps_set hN hj hlc (pe_var hi hvn hd1 hd2) (by rfl) hfc)
    have hil : i < σ'.length := by rw [J.len]; exact (List.getElem?_eq_some_iff.mp hi).1
    refine wpAny_mono (suite.run [] s5 _ H' { nx := fun σ6 H6 => σ6 = (σ'.set i (some (.ref a))).set j (some (.ref a)) ∧ H6 = H', rt := fun _ _ => False } S5 ⟨.ref a, by rw [List.getElem?_set_self hil], rfl, rfl⟩) (fun f s6 hsp => ?_) (fun _ _ z => False.elim z)
    cases f with
    | next =>
      obtain ⟨σ6, H6, S6, e6, e7⟩ := hsp
      subst e6
      subst e7
      refine gone_ok (X := X.suite a ((a, oe4) :: (X.pn ++ pins))) S6 hN hi hln fun s7 S7 => ?_
      have pin7 := (S7.pin (a, oe4) (List.mem_append_left _ List.mem_cons_self)).1
      have J7 := S7.unsuite ok
      have eσ : ((σ'.set i (some (.ref a))).set j (some (V.ref a))).set i none = (σ'.set j (some (.ref a))).set i none := by
        rw [List.set_comm _ _ hij, List.set_set]
      rw [eσ] at J7
      exact ⟨_, _, J7.track pin7 hz4.1 hz4.2 hd4 na hs0 nL hpn, hyes a na⟩
    | brk =>
      obtain ⟨σ6, H6, S6, q6⟩ := hsp
      exact q6.elim
    | cont =>
      obtain ⟨σ6, H6, S6, q6⟩ := hsp
      exact q6.elim
    | ret u =>
      obtain ⟨v6, σ6, H6, S6, r6, q6⟩ := hsp
      exact q6.elim
  · cases f with
    | next =>
      obtain ⟨σ', H', J', q⟩ := hsp
      exact wpAny_execs_nil ⟨σ', H', J'.ofTry ok, q⟩
    | brk =>
      obtain ⟨σ', H', J', q⟩ := hsp
      exact ⟨σ', H', J'.ofTry ok, q⟩
    | cont =>
      obtain ⟨σ', H', J', q⟩ := hsp
      exact ⟨σ', H', J'.ofTry ok, q⟩
    | ret u =>
      obtain ⟨v, σ', H', J', r, q⟩ := hsp
      exact ⟨v, σ', H', J'.ofTry ok, r, q⟩
/-- try: b, except PensionError as i: j = i -/
theorem tS_try {x0 : Value} (hE : ER = ERx K) (hi : i ∉ B) (hj : j ∉ B) (hx : ∀ (cn f : Str) (Ca : Addr), ExK K cn f Ca → PySem.W.exmOne K (.ref Ca) x0 = some true) (h : tS K ER C Wx B (.tryE b i j) D σ H) : tSs K ER C (wAsT K x0 i j D) B b D σ H := by
  obtain ⟨Γ, F, n, G, P⟩ := h
  rw [exS] at P
  refine ⟨Γ, F, n, G, ?_⟩
  have hN := G.top
  have Mb : ∀ m ∈ mutSs b, mem (mutS (.tryE b i j)) m := fun m hm => List.mem_cons_of_mem _ (List.mem_cons_of_mem _ hm)
  have Mi : mem (mutS (.tryE b i j)) i := List.mem_cons_self
  have Mj : mem (mutS (.tryE b i j)) j := List.mem_cons_of_mem _ List.mem_cons_self
  generalize mem (mutS (.tryE b i j)) = M at *
  cases he : exSs C b Γ with
  | stuck => rw [he] at P; exact P
  | ok fl =>
    rw [he] at P
    cases fl with
    | nx g => exact fun σ' H' F' A => P σ' H' F' (A.weakM Mb)
    | brk g => exact fun σ' H' F' A => P σ' H' F' (A.weakM Mb)
    | cont g => exact fun σ' H' F' A => P σ' H' F' (A.weakM Mb)
    | ret u g => exact fun v σ' H' F' A a => P v σ' H' F' (A.weakM Mb) a
  | exc c as Γ1 =>
    rw [he] at P
    intro cls dx σ' H' F' er A
    rw [hE] at er
    obtain ⟨x, f, p, Ca, dd, eas, hk, ecls, edx, hd⟩ := er
    subst eas
    simp only at P
    split at P
    case isFalse => exact P.elim
    rename_i cond
    obtain ⟨c1, c2, c3⟩ := cond
    subst ecls
    subst edx
    refine ⟨hx x f Ca hk, Ca, dd, rfl, rfl, fun a ha => ?_⟩
    have s : Same H' (upd H' a (exA Ca dd a)) := fun c o z => by rw [upd_ne (ne_of_none z ha)]; exact z
    have G2 := A.gd.grow s
    have hl := A.hl
    have rp : Rep K (upd H' a (exA Ca dd a)) (.exn x f p) (.ref a) := ⟨a, dd, Ca, rfl, hk, upd_same, s _ _ hd⟩
    obtain ⟨F5, G5, d5⟩ := G2.let1 (rs := []) (d := .exn x f p) (x := .ref a) ⟨(fun _ z => nomatch z), Rep.imm_cut (fun a q => G2.othObj q) rfl rp⟩ j
    rw [show itm [] (.exn x f p) = val (.exn x f p) from rfl] at G5
    have G6 : Gd K ((Γ1.set j (some (val (.exn x f p)))).set i none) (σ'.set j (some (.ref a))) (upd H' a (exA Ca dd a)) F5 n := G5.less (by rw [List.length_set]) fun q w hq => by
      by_cases e : i = q
      · subst e
        rw [List.getElem?_set_self (by rw [List.length_set]; exact c1)] at hq
        cases hq
      · rw [List.getElem?_set_ne e] at hq
        exact hq
    have G7 := G6.blind (i := i) (x := none) fun w hq => by
      rw [List.getElem?_set_self (by rw [List.length_set]; exact c1)] at hq
      cases hq
    have D5 := d5 M Mj
    rw [hl] at D5
    have D1 : Dl Γ.length M H F n (upd H' a (exA Ca dd a)) F' := (A.dl.weak fun m _ z => Mb m z).temps hN s (fun _ _ => rfl) fun k a hk z => .inl ⟨k, hk, z⟩
    exact P _ _ F5 ⟨G7, (D1.trans D5 hN (Nat.le_refl n)).weak fun _ _ z => z.elim id id, fun q hq => by
      rw [List.getElem?_set_ne (fun z => hi (by rw [z]; exact hq)), List.getElem?_set_ne (fun z => hj (by rw [z]; exact hq))]
      exact A.st q hq, by rw [List.length_set, List.length_set]; exact hl⟩
end
end Own

end
section
set_option maxHeartbeats 1000000
namespace Own
open PySem PySem.Spec L2
section
variable {m : Nm} {sc : Scope} {C : Ctx} {ER : ERel} {Wx : WX} {X : Cx} {x : Expr} {e : E} {st : Stmt} {i : Nat} {B is js : List Nat}
theorem disj_app : disj (is ++ js) B = true → disj is B = true ∧ disj js B = true := fun h => by
  unfold disj at h ⊢
  rw [List.all_append, Bool.and_eq_true] at h
  exact h
theorem disj_one (h : disj [i] B = true) : i ∉ B := disj_no h (by simp)
theorem chk_lcomp {e1 : Expr} {g : List Comprehension} {s : Scope} {p : Pos} (h : chkE m sc e (.ListComp e1 g s p) = true) : ∃ vs tg src cd elt, e = .comp vs tg src cd elt := by
  cases e with
  | op o es =>
    obtain ⟨xs, e, _⟩ := chk_op h
    exfalso; cases o <;> cases e
  | int => obtain ⟨_, _, e⟩ := chk_int h; cases e
  | bl => obtain ⟨_, _, e⟩ := chk_bl h; cases e
  | non => obtain ⟨_, _, e⟩ := chk_non h; cases e
  | str => obtain ⟨_, _, e⟩ := chk_str h; cases e
  | loc => obtain ⟨_, _, e, _⟩ := chk_loc h; cases e
  | mv => obtain ⟨_, _, e, _⟩ := chk_mv h; cases e
  | glb => obtain ⟨_, _, e, _⟩ := chk_glb h; cases e
  | tup => obtain ⟨_, _, _, e, _⟩ := chk_tup h; cases e
  | lst => obtain ⟨_, _, e, _⟩ := chk_lst h; cases e
  | chain => obtain ⟨_, _, _, _, _, _, e, _⟩ := chk_chain h; cases e
  | and => obtain ⟨_, _, _, _, e, _⟩ := chk_and h; cases e
  | or => obtain ⟨_, _, _, _, e, _⟩ := chk_or h; cases e
  | not => obtain ⟨_, _, e, _⟩ := chk_not h; cases e
  | ite => obtain ⟨_, _, _, _, e, _⟩ := chk_ite h; cases e
  | call => obtain ⟨_, _, _, _, _, e, _⟩ := chk_call h; cases e
  | get1 => obtain ⟨_, _, _, _, e, _⟩ := chk_get1 h; cases e
  | get2 => obtain ⟨_, _, _, _, _, e, _⟩ := chk_get2 h; cases e
  | dnew => obtain ⟨_, _, _, e, _⟩ := chk_dnew h; cases e
  | comp => exact ⟨_, _, _, _, _, rfl⟩
def compV : Expr → Bool
  | .ListComp _ _ _ _ => true
  | .SetComp _ _ _ _ => true
  | .DictComp _ _ _ _ _ => true
  | _ => false
theorem swaps_of {t : Option Expr} {l : Nat} {env : Env} (h : compV x = false) : swapsWith x t l env = pure false := by
  cases x <;> first
    | rfl
    | (cases h; done)
theorem plainV_comp (h : plainV x = true) : compV x = false := by
  cases x <;> first
    | rfl
    | (cases h; done)
theorem noComp_comp (h : noCompV x = true) : compV x = false := by
  cases x <;> first
    | rfl
    | (cases h; done)
theorem stores_sub {a b : Expr} {p : Pos} {env : Env} : swappedStores [.Subscript a b p] x env = pure none := by
  cases x <;> rfl
theorem stores_of {t : Expr} {env : Env} (h : plainV x = true) : swappedStores [t] x env = pure none := by
  cases x <;> first
    | (cases h; done)
    | (cases t <;> rfl)
theorem kindX_of (hX : XO X m sc) {y : Str} (h : kindB sc y .local = true) : X.env.kindOf y = some .local := by
  show X.env.scope.names.lookup y = some .local
  rw [hX.hsc]
  exact kindB_of h
theorem loc_of (hX : XS X m sc C ER Wx) {y : Str} (h : m.N[i]? = some y) (hl : locB sc y = true) : X.N.Nodup ∧ X.N[i]? = some y ∧ L2.Loc X.env.scope y ∧ (X.fn y = true ∨ X.env.scope.names.lookup y = some .local) := by
  obtain ⟨a, b⟩ := hX.loc y hl
  exact ⟨by rw [hX.hN]; exact hX.nd, by rw [hX.hN]; exact h, a, b⟩
/-- name = value -/
theorem ps_setO (hX : XS X m sc C ER Wx) {y : Str} {py pos : Pos} (h1 : m.N[i]? = some y) (h2 : locB sc y = true) (h3 : chkE m sc e x = true) (h4 : setFit sc y py x = true) : PS X (.Assign [.Name y py] x pos) (tAsg (tE X.K ER C Wx e) (gName i)) := by
  obtain ⟨a, b, c, d⟩ := loc_of hX h1 h2
  cases hc : compV x with
  | false => exact ps_set a b c (okE e hX.toXC h3).pe (swaps_of hc) d
  | true =>
    cases x <;> first
      | (cases hc; done)
      | (cases h4; done)
      | skip
    rename_i e0 g0 s0 p0
    obtain ⟨vs, tg, src, cd, elt, rfl⟩ := chk_lcomp h3
    obtain ⟨e', t, it, ifs, scope, p, ex, h1', h2', h3', h4', h5, h6, h7⟩ := chk_comp h3
    cases ex
    have hX' := hX.toXC
    have hi : PI X t it (tSrc X.K ER C Wx src) := okSrc src hX' h5 tg t _ h4' h2'
    have ok : BlkOk X.N X.env.scope s0 (ownOf m.N vs) := blkOk_by (by rw [hX.hN, hX.hsc]; exact h1')
    have ht : ∀ (s : Shared) (H : Hp) (D : Addr) (cl : List (Str × Addr)) (fp : List Addr), PTs (X.blk s H s0 (compEnvC s0 cl D X.env) fp) ifs (tT X.K ER C W0 cd) := fun s H D cl fp => by
      rcases h7 with ⟨e1, e2⟩ | ⟨c, e1, e2⟩
      · subst e1
        subst e2
        refine ⟨fun pins s σ H Q I q => pts_nil.run pins s σ H Q I ?_⟩
        obtain ⟨Γ, F, n, G, P⟩ := q
        rw [evT_plain rfl, ev, bind_ok] at P
        exact bPost.end G rfl G.top (Dl.refl G.top G.off) P
      · subst e1
        exact pts_one (okE cd (hX'.blk s H s0 cl D fp) e2).pt
    have h4 : (kindB sc y .cell || (kindB sc y .local && (py.line == p0.line) && !(s0.names.any fun (n, k) => n == y && (k == .local || k == .cell)))) = true := h4
    rw [Bool.or_eq_true] at h4
    rcases h4 with h4 | h4
    · refine ps_set a b c (okE _ hX.toXC h3).pe ?_ d
      have yc : X.env.kindOf y = some .cell := by
        show X.env.scope.names.lookup y = some .cell
        rw [hX.hsc]
        unfold kindB at h4
        split at h4
        · rename_i k ek
          rw [ek]
          have : k = .cell := by simpa using h4
          rw [this]
        · cases h4
      show (pure (X.env.blockKind == .function && X.env.kindOf y == some .local && py.line == p0.line && !(s0.names.any fun (n, k) => n == y && (k == .local || k == .cell))) : Sem Bool) = pure false
      rw [yc]
      have : ((some NameKind.cell : Option NameKind) == some NameKind.local) = false := rfl
      rw [this, Bool.and_false, Bool.false_and, Bool.false_and]
    have h4 : (kindB sc y .local && (py.line == p0.line) && !(s0.names.any fun (n, k) => n == y && (k == .local || k == .cell))) = true := h4
    simp only [Bool.and_eq_true] at h4
    obtain ⟨⟨k1, k2⟩, k3⟩ := h4
    have yl : X.env.scope.names.lookup y = some .local := by
      rw [hX.hsc]
      unfold kindB at k1
      split at k1
      · rename_i k ek
        rw [ek]
        have : k = .local := by simpa using k1
        rw [this]
      · cases k1
    have hsw : swapsWith (.ListComp e0 [⟨t, it, ifs, 0⟩] s0 p0) (some (.Name y py)) pos.line X.env = pure true := by
      have bk : X.env.blockKind = .function := by
        unfold Env.blockKind
        rw [hX.kd]; rfl
      have kk : X.env.kindOf y = some .local := yl
      show (pure (X.env.blockKind == .function && X.env.kindOf y == some .local && py.line == p0.line && !(s0.names.any fun (n, k) => n == y && (k == .local || k == .cell))) : Sem Bool) = pure true
      rw [bk, kk, k2, k3]; rfl
    have ps := ps_setLc (pos := p0) (spos := pos) (py := py) (elt := e0) (g := gTg X.K tg) (tt := tT X.K ER C W0 cd) (te := tE X.K ER C W0 elt) hX.calm a b yl hsw hi ok (fun s H D cl fp => pg_ok (hX'.blk s H s0 cl D fp).toXO (blk_loc hX.toXO) h2') ht
      (fun s H D cl fp => (okE elt (hX'.blk s H s0 cl D fp) h6).pe) (folded_of (src_noSet h5))
    rw [own_map] at ps
    exact PS.imp ps fun D σ H q => tE_comp h3' q
theorem ip_ok {o : Op} {p : Operator} (h : bopOf o = some p) : (o = .add ∨ o = .sub) ∧ PIp X p (ipR o) := by
  cases o <;> cases h
  · exact ⟨.inl rfl, iop_add⟩
  · exact ⟨.inr rfl, iop_sub⟩
theorem sub_assign {o y : Expr} {pos : Pos} {env : Env} (h : notSlice y = true) : ∀ v, assign (.Subscript o y pos) env v = (do
      let ov ← holding [v] (eval o env)
      let iv ← holding [v, ov] (eval y env)
      standAt pos
      holding [v, ov, iv] (setItem ov iv v)
      release [v, ov, iv] []) := by
  cases y <;> first
    | (exact fun _ => rfl)
    | (cases h; done)
theorem aug_store {y : Expr} (h : notSlice y = true) : ∀ ov iv new, augStore y ov iv new = (do holding [new, ov, iv] (setItem ov iv new); release [new, ov, iv] []; pure .next) := by
  cases y <;> first
    | (exact fun _ _ _ => rfl)
    | (cases h; done)
theorem kind_of (hX : XS X m sc C ER Wx) {y : Str} (h : kindB sc y .local = true) : X.env.scope.names.lookup y = some .local := by
  rw [hX.hsc]
  unfold kindB at h
  split at h
  · rename_i k ek
    rw [ek]
    have : k = .local := by simpa using h
    rw [this]
  · cases h
theorem set_both {X : Cx} (hu : X.A.units + 1 < cLine) : PSet X rSetO := fun pins s σ H o i v ov iv u Q I ro ri rv h => by
  rcases h with h | h
  · exact set_list pins s σ H o i v ov iv u Q I ro ri rv h
  · exact set_dict hu pins s σ H o i v ov iv u Q I ro ri rv h
def starE : Expr → Bool
  | .Starred _ _ => true
  | _ => false
theorem chk_noStar (h : chkE m sc e x = true) : starE x = false := by
  cases x <;> first
    | rfl
    | (exfalso; cases e <;> first
        | (unfold chkE at h; simp at h; done)
        | skip)
  rename_i o es
  obtain ⟨xs, e, _⟩ := chk_op h
  cases o <;> cases e
theorem swapped_of (hX : XS X m sc C ER Wx) {y z : Str} {py pz pt p2 : Pos} {u v : Expr} {kt k2} (k1 : X.env.scope.names.lookup y = some .local) (k3 : X.env.scope.names.lookup z = some .local) (hl : (py.line == pz.line) = true) (hne : y ≠ z) (s1 : starE u = false) (s2 : starE v = false) (h : parV u v = true) :
    swappedStores [.Tuple [.Name y py, .Name z pz] kt pt] (.Tuple [u, v] k2 p2) X.env = pure (some [y, z]) := by
  have bk : X.env.blockKind = .function := by
    unfold Env.blockKind
    rw [hX.kd]; rfl
  have kk : X.env.kindOf y = some .local := k1
  have kz : X.env.kindOf z = some .local := k3
  have hl' : pz.line = py.line := by rw [beq_iff_eq] at hl; exact hl.symm
  unfold parV at h
  rw [Bool.and_eq_true, Bool.not_eq_true', Bool.not_eq_true'] at h
  have st : ([u, v].any fun | .Starred .. => true | _ => false) = false := by
    simp only [List.any_cons, List.any_nil, Bool.or_false, Bool.or_eq_false_iff]
    exact ⟨by cases u <;> first | rfl | (cases s1; done), by cases v <;> first | rfl | (cases s2; done)⟩
  have hne' : (z == y) = false := by rw [beq_eq_false_iff_ne]; exact Ne.symm hne
  have hne'' : (y == z) = false := by rw [beq_eq_false_iff_ne]; exact hne
  unfold swappedStores
  simp only [bk, List.length_cons, List.length_nil, st, List.filterMap_cons, List.filterMap_nil, kk, kz, hl', List.head?_cons, Option.map_some, Option.getD_some, Expr.pos, List.all_cons, List.all_nil, Bool.and_true, h.1, h.2]
  simp [List.eraseDups_cons, hne', hne'', h.1, h.2]
  intro z
  exfalso
  rcases z with z | z
  · cases u <;> first | (cases s1; done) | (cases z; done)
  · cases v <;> first | (cases s2; done) | (cases z; done)
mutual
theorem okS : ∀ (s : S) {sc : Scope} {Wx : WX} {X : Cx} {st : Stmt}, XS X m sc C ER Wx → chkS m sc s st = true → disj (asgS s) B = true → PS X st (tS X.K ER C Wx B s)
  | .set i e, sc, Wx, X, st, hX, h, hB => by
    unfold chkS at h
    split at h <;> first | (exact absurd h Bool.false_ne_true) | (rename_i heq; cases heq)
    simp only [Bool.and_eq_true, decide_eq_true_eq] at h
    exact PS.imp (ps_setO hX h.1.1.1 h.1.1.2 h.1.2 h.2) fun D σ H q => tS_set (disj_one hB) q
  | .setT is e, sc, Wx, X, st, hX, h, hB => by
    unfold chkS at h
    split at h <;> first | (exact absurd h Bool.false_ne_true) | (rename_i heq; cases heq)
    simp only [Bool.and_eq_true] at h
    obtain ⟨⟨h1, h2⟩, h3⟩ := h
    obtain ⟨es, kt, pt, rfl⟩ := tgTuple h1
    exact PS.imp (ps_asg (okE e hX.toXC h2).pe (pg_ok hX.toXO hX.loc h1) (by rw [swapsWithSole]; exact swaps_of (plainV_comp h3)) (stores_of h3)) fun D σ H q => tS_setT (fun j hj => disj_no hB hj) q
  | .par i j a b, sc, Wx, X, st, hX, h, hB => by
    unfold chkS at h
    split at h <;> first | (exact absurd h Bool.false_ne_true) | (rename_i heq; cases heq)
    simp only [Bool.and_eq_true, decide_eq_true_eq] at h
    obtain ⟨⟨⟨⟨⟨⟨⟨⟨h1, h2⟩, h3⟩, h4⟩, h5⟩, h6⟩, h7⟩, h8⟩, h9⟩ := h
    have hN : X.N.Nodup := by rw [hX.hN]; exact hX.nd
    have k1 := kind_of hX h3
    have k2 := kind_of hX h4
    exact PS.imp (ps_par (hX.calm) hN (by rw [hX.hN]; exact h1) (by rw [hX.hN]; exact h2) (fun z => h6 (by subst z; rw [h1] at h2; exact Option.some.inj h2)) k1 k2 (pa_cons (okE a hX.toXC h7).pe (pa_cons (okE b hX.toXC h8).pe pa_nil (noStar h8 _ _)) (noStar h7 _ _)) (swapped_of hX k1 k2 h5 h6 (chk_noStar h7) (chk_noStar h8) h9) (by rfl)) fun D σ H q => tS_par (fun z => (disj_no hB (by show i ∈ [i, j]; simp)) z) (fun z => (disj_no hB (by show j ∈ [i, j]; simp)) z) q
  | .aug i o e, sc, Wx, X, st, hX, h, hB => by
    unfold chkS at h
    split at h <;> first | (exact absurd h Bool.false_ne_true) | (rename_i heq; cases heq)
    simp only [Bool.and_eq_true, decide_eq_true_eq] at h
    obtain ⟨a, b, c, d⟩ := loc_of hX h.1.1.1 h.1.1.2
    obtain ⟨o1, o2⟩ := ip_ok (X := X) h.1.2
    exact PS.imp (ps_aug a b c (okE e hX.toXC h.2).pe o2 d) fun D σ H q => tS_aug (disj_one hB) o1 q
  | .setIx i k e, sc, Wx, X, st, hX, h, hB => by
    unfold chkS at h
    split at h <;> first | (exact absurd h Bool.false_ne_true) | (rename_i heq; cases heq)
    simp only [Bool.and_eq_true] at h
    obtain ⟨⟨⟨⟨h1, h2⟩, h3⟩, h4⟩, h5⟩ := h
    obtain ⟨a, b, c, d⟩ := vis_of hX.toXO h1
    exact PS.imp (ps_asg (okE e hX.toXC h4).pe (pg_sub (pe_var a b c d) (okE k hX.toXC h2).pe (set_both (by have := hX.un; omega)) (sub_assign h3)) (by rw [swapsWithSole]; exact swaps_of (noComp_comp h5)) stores_sub) fun D σ H q => tS_setIx q
  | .setIx2 i k k2 e, sc, Wx, X, st, hX, h, hB => by
    unfold chkS at h
    split at h <;> first | (exact absurd h Bool.false_ne_true) | (rename_i heq; cases heq)
    simp only [Bool.and_eq_true] at h
    obtain ⟨⟨⟨⟨⟨⟨h1, h2⟩, h3⟩, h4⟩, h5⟩, h6⟩, h7⟩ := h
    obtain ⟨a, b, c, d⟩ := vis_of hX.toXO h1
    exact PS.imp (ps_asg (okE e hX.toXC h6).pe (pg_sub (pe_ix ix_seq (pe_var a b c d) (okE k hX.toXC h2).pe (plain_of h3)) (okE k2 hX.toXC h4).pe set_list (sub_assign h5)) (by rw [swapsWithSole]; exact swaps_of (plainV_comp h7)) (stores_of h7)) fun D σ H q => tS_setIx2 q
  | .augIx i k o e, sc, Wx, X, st, hX, h, hB => by
    unfold chkS at h
    split at h <;> first | (exact absurd h Bool.false_ne_true) | (rename_i heq; cases heq)
    simp only [Bool.and_eq_true, decide_eq_true_eq] at h
    obtain ⟨⟨⟨⟨h1, h2⟩, h3⟩, h4⟩, h5⟩ := h
    obtain ⟨a, b, c, d⟩ := vis_of hX.toXO h1
    obtain ⟨o1, o2⟩ := ip_ok (X := X) h4
    exact PS.imp (ps_augS (pe_var a b c d) (okE k hX.toXC h2).pe pget_list (okE e hX.toXC h5).pe o2 set_list (aug_store h3)) fun D σ H q => tS_augIx o1 q
  | .append i e, sc, Wx, X, st, hX, h, hB => by
    unfold chkS at h
    split at h <;> first | (exact absurd h Bool.false_ne_true) | (rename_i heq; cases heq)
    simp only [Bool.and_eq_true, decide_eq_true_eq] at h
    obtain ⟨⟨⟨h1, h2⟩, h3⟩, h4⟩ := h
    subst h2
    obtain ⟨a, b, c, d⟩ := vis_of hX.toXO h1
    have ns := noStar h3
    refine PS.imp (ps_expr (pe_bm PySem.F.plainAttrs_list PySem.F.slot_list_append PySem.F.type_list_append mt_append (pe_var a b c d) (pa_cons (okE e hX.toXC h3).pe pa_nil (ns _ _)) rfl (by rw [stars1 ns]; rfl) h4 (ns _ _) rfl) rfl) fun D σ H q => tS_append q
  | .rev i, sc, Wx, X, st, hX, h, hB => by
    unfold chkS at h
    split at h <;> first | (exact absurd h Bool.false_ne_true) | (rename_i heq; cases heq)
    simp only [Bool.and_eq_true, decide_eq_true_eq] at h
    obtain ⟨⟨h1, h2⟩, h3⟩ := h
    subst h2
    obtain ⟨a, b, c, d⟩ := vis_of hX.toXO h1
    exact PS.imp (ps_expr (pe_bm0 PySem.F.plainAttrs_list PySem.F.slot_list_reverse PySem.F.type_list_reverse mt_reverse (pe_var a b c d) rfl h3) rfl) fun D σ H q => tS_rev q
  | .extend i e, sc, Wx, X, st, hX, h, hB => by
    unfold chkS at h
    split at h <;> first | (exact absurd h Bool.false_ne_true) | (rename_i heq; cases heq)
    simp only [Bool.and_eq_true, decide_eq_true_eq] at h
    obtain ⟨⟨⟨h1, h2⟩, h3⟩, h4⟩ := h
    subst h2
    obtain ⟨a, b, c, d⟩ := vis_of hX.toXO h1
    have ns := noStar h3
    exact PS.imp (ps_expr (pe_bm PySem.F.plainAttrs_list PySem.F.slot_list_extend PySem.F.type_list_extend mt_extend (pe_var a b c d) (pa_cons (okE e hX.toXC h3).pe pa_nil (ns _ _)) rfl (by rw [stars1 ns]; rfl) h4 (ns _ _) rfl) rfl) fun D σ H q => tS_extend q
  | .dead, sc, Wx, X, st, hX, h, hB => tS_dead
  | .appAll i v c, sc, Wx, X, st, hX, h, hB => by
    unfold chkS at h
    split at h <;> first | (exact absurd h Bool.false_ne_true) | (rename_i heq; cases heq)
    simp only [Bool.and_eq_true, decide_eq_true_eq] at h
    obtain ⟨⟨⟨⟨⟨⟨h1, h2⟩, h3⟩, h4⟩, h5⟩, h6⟩, h7⟩ := h
    subst h5
    subst h6
    obtain ⟨a1, b1, c1, d1⟩ := vis_of hX.toXO h1
    obtain ⟨a2, b2, c2, d2⟩ := vis_of hX.toXO h4
    obtain ⟨a, b, c, d⟩ := loc_of hX h2 h3
    exact PS.imp (ps_for hX.po hX.calm (pi_seq (pe_var a1 b1 c1 d1)) (pg_name a b c d) (pss_cons (ps_expr (pe_bm PySem.F.plainAttrs_list PySem.F.slot_list_append PySem.F.type_list_append mt_append (pe_var a2 b2 c2 d2) (pa_cons pe_int pa_nil rfl) rfl rfl h7 rfl rfl) rfl) pss_nil) (by intro _; rfl)) fun D σ H q => tS_appAll (fun z => (disj_no hB (by show v ∈ [v]; simp)) z) q
  | .expr e, sc, Wx, X, st, hX, h, hB => by
    unfold chkS at h
    split at h <;> first | (exact absurd h Bool.false_ne_true) | (rename_i heq; cases heq)
    simp only [Bool.and_eq_true] at h
    exact PS.imp (ps_expr (okE e hX.toXC h.1).pe (swaps_of (plainV_comp h.2))) fun D σ H q => tS_expr q
  | .ret e, sc, Wx, X, st, hX, h, hB => by
    unfold chkS at h
    split at h <;> first | (exact absurd h Bool.false_ne_true) | (rename_i heq; cases heq)
    exact PS.imp (ps_ret (okE e hX.toXC h).pe) fun D σ H q => tS_ret q
  | .retN, sc, Wx, X, st, hX, h, hB => by
    unfold chkS at h
    split at h <;> first | (exact absurd h Bool.false_ne_true) | (rename_i heq; cases heq)
    exact PS.imp ps_retN fun D σ H q => tS_retN q
  | .iff c a b, sc, Wx, X, st, hX, h, hB => by
    unfold chkS at h
    split at h <;> first | (exact absurd h Bool.false_ne_true) | (rename_i heq; cases heq)
    simp only [Bool.and_eq_true] at h
    obtain ⟨B1, B2⟩ := disj_app hB
    exact PS.imp (ps_if (okE c hX.toXC h.1.1).pt (okSs a hX h.1.2 B1) (okSs b hX h.2 B2)) fun D σ H q => tS_iff q
  | .for_ tg src body, sc, Wx, X, st, hX, h, hB => by
    unfold chkS at h
    split at h <;> first | (exact absurd h Bool.false_ne_true) | (rename_i heq; cases heq)
    simp only [Bool.and_eq_true] at h
    obtain ⟨⟨⟨h1, h2⟩, h3⟩, h4⟩ := h
    obtain ⟨B1, B2⟩ := disj_app hB
    exact PS.imp (ps_for hX.po hX.calm (okSrc src hX.toXC h3 tg _ _ h2 h1) (pg_ok hX.toXO hX.loc h1) (okSs body hX h4 B2) (folded_of (src_noSet h3))) fun D σ H q => tS_for (fun j hj => disj_no B1 hj) q
  | .while_ c body, sc, Wx, X, st, hX, h, hB => by
    unfold chkS at h
    split at h <;> first | (exact absurd h Bool.false_ne_true) | (rename_i heq; cases heq)
    simp only [Bool.and_eq_true] at h
    exact PS.imp (ps_while hX.po (okE c hX.toXC h.1).pt (okSs body hX h.2 hB)) fun D σ H q => tS_while q
  | .brk, sc, Wx, X, st, hX, h, hB => by
    unfold chkS at h
    split at h <;> first | (exact absurd h Bool.false_ne_true) | (rename_i heq; cases heq)
    exact PS.imp ps_break fun D σ H q => tS_brk q
  | .cont, sc, Wx, X, st, hX, h, hB => by
    unfold chkS at h
    split at h <;> first | (exact absurd h Bool.false_ne_true) | (rename_i heq; cases heq)
    exact PS.imp ps_continue fun D σ H q => tS_cont q
  | .pass, sc, Wx, X, st, hX, h, hB => by
    unfold chkS at h
    split at h <;> first | (exact absurd h Bool.false_ne_true) | (rename_i heq; cases heq)
    · exact PS.imp ps_pass fun D σ H q => tS_pass q
    · exact PS.imp ps_doc fun D σ H q => tS_pass q
  | .raise c es, sc, Wx, X, st, hX, h, hB => PS.imp ps_never fun D σ H q => by
    obtain ⟨Γ, F, n, G, P⟩ := q
    rw [exS] at P
    exact P
  | .raiseE x f e, sc, Wx, X, st, hX, h, hB => by
    unfold chkS at h
    split at h <;> first | (exact absurd h Bool.false_ne_true) | (rename_i heq; cases heq)
    simp only [Bool.and_eq_true, decide_eq_true_eq] at h
    obtain ⟨⟨⟨h1, h2⟩, h3⟩, h4⟩ := h
    subst h1
    obtain ⟨g1, g2, g3⟩ := gl_of hX.toXO h3
    obtain ⟨Ca, Z⟩ := hX.rz _ _ h2
    obtain ⟨fI, fd, ps, f1, f2, f3, f4⟩ := Z.fi
    have ns := noStar h4
    exact PS.imp (ps_raise hX.calm hX.tk (pmk_oex Z.T f1 f2 f3 hX.rm f4 .nil pass0 g1 Z.gC (pa_cons (okE e hX.toXC h4).pe pa_nil (ns _ _)) g2 (ns _ _) (by rfl))) fun D σ H q => tS_raise hX.er Z.ex Z.T q
  | .tryE b i j, sc, Wx, X, st, hX, h, hB => by
    unfold chkS at h
    split at h <;> first | (exact absurd h Bool.false_ne_true) | (rename_i heq; cases heq)
    simp only [Bool.and_eq_true, decide_eq_true_eq] at h
    obtain ⟨⟨⟨⟨⟨⟨⟨⟨⟨⟨h1, h2⟩, h3⟩, h4⟩, h5⟩, h6⟩, h7⟩, h8⟩, h9⟩, h10⟩, h11⟩ := h
    subst h1
    subst h8
    obtain ⟨a, b', c', d⟩ := loc_of hX h6 h7
    obtain ⟨v1, v2, v3, v4⟩ := vis_of hX.toXO h10
    obtain ⟨g1, g2, g3⟩ := gl_of hX.toXO h2
    obtain ⟨CP, m1, m2⟩ := hX.ecl _ h3
    have hk := kindX_of hX.toXO h5
    have iB : i ∉ B := disj_no hB (by show i ∈ i :: j :: asgSs b; exact List.mem_cons_self)
    have jB : j ∉ B := disj_no hB (by show j ∈ i :: j :: asgSs b; exact List.mem_cons_of_mem _ List.mem_cons_self)
    have B3 : disj (asgSs b) B = true := (disj_app (is := [i, j]) hB).2
    refine PS.imp (ps_try_track (tb := fun W => tSs X.K ER C W B b) hX.st hX.fr a v1 hk b' c' d h9 hX.ex0 ⟨g1, g2, .inl m1⟩ v2 v3 v4 fun W pn xe tk po => ?_) fun D σ H q => tS_try hX.er iB jB (fun cn f Ca z => z.em CP m2) q
    have rz' : ∀ x f, (x, f) ∈ m.rz → ∃ Ca, RzF (X.tr pn xe) x f Ca := fun x f h => by
      obtain ⟨Ca, Z⟩ := hX.rz x f h
      exact ⟨Ca, ⟨Z.gC, Z.ex, Z.T, Z.fi⟩⟩
    exact okSs (X := X.tr pn xe) b { hN := hX.hN, nd := hX.nd, hsc := hX.hsc, calm := hX.calm, un := hX.un, blt := hX.blt, ecl := hX.ecl, tk := tk, fns := hX.fns, gls := hX.gls, loc := hX.loc, po := po, kd := hX.kd, er := hX.er, rz := rz', rm := hX.rm, st := hX.st, fr := hX.fr, ex0 := hX.ex0 } h11 B3
theorem okSs : ∀ (ss : Ss) {sc : Scope} {Wx : WX} {X : Cx} {sts : List Stmt}, XS X m sc C ER Wx → chkSs m sc ss sts = true → disj (asgSs ss) B = true → PSs X sts (tSs X.K ER C Wx B ss)
  | .nil, sc, Wx, X, sts, hX, h, hB => by
    unfold chkSs at h
    split at h <;> first | (exact absurd h Bool.false_ne_true) | (rename_i heq; cases heq)
    exact PSs.imp pss_nil fun D σ H q => tSs_nil q
  | .cons s ss, sc, Wx, X, sts, hX, h, hB => by
    unfold chkSs at h
    split at h <;> first | (exact absurd h Bool.false_ne_true) | (rename_i heq; cases heq)
    rw [Bool.and_eq_true] at h
    obtain ⟨B1, B2⟩ := disj_app hB
    exact PSs.imp (pss_cons (okS s hX h.1 B1) (okSs ss hX h.2 B2)) fun D σ H q => tSs_cons q
end
end
end Own

end
section
set_option maxHeartbeats 1000000
namespace Own
open PySem PySem.Spec L2
def ioIx : List Bool → Nat → List Nat
  | [], _ => []
  | true :: r, k => k :: ioIx r (k + 1)
  | false :: r, k => ioIx r (k + 1)
theorem ioIx_mem : ∀ {io : List Bool} {k j : Nat}, io[j]? = some true → k + j ∈ ioIx io k
  | [], _, _, h => by simp at h
  | true :: r, k, 0, _ => List.mem_cons_self
  | false :: r, k, 0, h => by simp at h
  | true :: r, k, j + 1, h => List.mem_cons_of_mem _ (by rw [show k + (j + 1) = k + 1 + j by omega]; exact ioIx_mem (by simpa using h))
  | false :: r, k, j + 1, h => by
    show k + (j + 1) ∈ ioIx r (k + 1)
    rw [show k + (j + 1) = k + 1 + j by omega]
    exact ioIx_mem (by simpa using h)
def newDs : List Bool → Gm → List D → List D
  | false :: io, _ :: Γ, d :: ds => d :: newDs io Γ ds
  | true :: io, some w :: Γ, d :: ds => w.d :: newDs io Γ ds
  | _, _, _ => []
section
variable {K : PySem.W.Frag} {ER : ERel} {N n m k : Nat} {Γ Γ1 Γ2 Γ' : Gm} {σ σ' : L2.St} {H H' H0 H1 H2 R : Hp} {F F' F0 F1 F2 : Fpt} {w : W} {v : V} {vs : List V} {M : Nat → Prop} {io : List Bool} {ds os : List D}
theorem exits_new : ∀ {io : List Bool} {Γ : Gm} {os ds : List D}, exits io Γ = some os → ds.length = io.length → (newDs io Γ ds).length = io.length ∧ exits io (entry io (newDs io Γ ds)) = some os ∧
    ∀ (j : Nat) (w : W), (entry io (newDs io Γ ds))[j]? = some (some w) → (io[j]? = some true ∧ w.l = 8 ∧ w.rs = [] ∧ Γ[j]? = some (some w)) ∨ (io[j]? = some false ∧ (entry io ds)[j]? = some (some w))
  | [], _, os, [], e, _ => by
    have e : some ([] : List D) = some os := by
      unfold exits at e
      exact e
    cases e
    exact ⟨rfl, rfl, fun j w h => by simp [newDs, entry] at h⟩
  | false :: io, s :: Γ, os, d :: ds, e, l => by
    obtain ⟨a, b, c⟩ := exits_new (io := io) (Γ := Γ) (os := os) (ds := ds) e (by simpa using l)
    refine ⟨congrArg (· + 1) a, b, fun j w h => ?_⟩
    cases j with
    | zero => exact .inr ⟨rfl, h⟩
    | succ j => exact (c j w h).imp id id
  | true :: io, some u :: Γ, os, d :: ds, e, l => by
    have e : (match exits io Γ with
      | some ds => if u.l = 8 ∧ u.rs = [] then some (u.d :: ds) else none
      | none => none) = some os := e
    split at e
    · rename_i r er
      split at e
      · rename_i c8
        cases e
        obtain ⟨a, b, c⟩ := exits_new (io := io) (Γ := Γ) (os := r) (ds := ds) er (by simpa using l)
        refine ⟨congrArg (· + 1) a, ?_, fun j w h => ?_⟩
        · show (match exits io (entry io (newDs io Γ ds)) with
            | some ds => if (8 : Nat) = 8 ∧ ([] : List Nat) = [] then some (u.d :: ds) else none
            | none => none) = some (u.d :: r)
          rw [b]
          exact if_pos ⟨rfl, rfl⟩
        · cases j with
          | zero =>
            have h : some (some (⟨8, [], u.d⟩ : W)) = some (some w) := h
            cases h
            refine .inl ⟨rfl, rfl, rfl, ?_⟩
            obtain ⟨lu, ru, du⟩ := u
            have e1 : lu = 8 := c8.1
            have e2 : ru = [] := c8.2
            subst e1
            subst e2
            rfl
          | succ j => exact c j w h
      · cases e
    · cases e
  | true :: _, [], _, _, e, _ => by simp [exits] at e
  | false :: _, [], _, _, e, _ => by simp [exits] at e
  | true :: _, none :: _, _, _, e, _ => by cases e
  | [], _, _, _ :: _, _, l => by simp at l
  | false :: _, _ :: _, _, [], _, l => by simp at l
  | true :: _, some _ :: _, _, [], _, l => by simp at l
theorem entry_view : ∀ {io : List Bool} {ds : List D} {j : Nat} {w : W}, io[j]? = some false → (entry io ds)[j]? = some (some w) → w.l = 0 ∧ w.rs = []
  | [], _, _, _, h, _ => by simp at h
  | _ :: _, [], _, _, _, h => by simp [entry] at h
  | b :: io, d :: ds, 0, w, h, e => by
    have hb : b = false := by simpa using h
    subst hb
    have e : some (some (itm [] d)) = some (some w) := e
    cases e
    unfold itm
    split <;> exact ⟨rfl, rfl⟩
  | b :: io, d :: ds, j + 1, w, h, e => entry_view (io := io) (ds := ds) (j := j) (by simpa using h) (by simpa [entry] using e)
/-- what is behind the parameters goes behind the slots -/
def sh (L N : Nat) (F : Fpt) : Fpt := fun k => if k < L then F k else if k = N then F L else []
theorem sh_cs {L N k : Nat} {a : Addr} (h : a ∈ sh L N F k) : (k < L ∧ a ∈ F k) ∨ (k = N ∧ ¬ k < L ∧ a ∈ F L) := by
  unfold sh at h
  split at h
  · exact .inl ⟨by assumption, h⟩
  · split at h
    · exact .inr ⟨by assumption, by assumption, h⟩
    · cases h
theorem sh_lo {L N k : Nat} (h : k < L) : sh L N F k = F k := if_pos h
theorem sh_at {L N : Nat} (h : L ≤ N) : sh L N F N = F L := by unfold sh; rw [if_neg (by omega), if_pos rfl]
theorem Gd.ext1 (G : Gd K Γ σ H F (Γ.length + 1)) (j : Nat) : Gd K (Γ ++ List.replicate j none) (σ ++ List.replicate j none) H (sh Γ.length (Γ.length + j) F) (Γ.length + j + 1) where
  len := by rw [List.length_append, List.length_append, G.len, List.length_replicate, List.length_replicate]
  top := by rw [List.length_append, List.length_replicate]; omega
  off := fun k hk => by
    unfold sh
    rw [if_neg (by omega), if_neg (by omega)]
  nd := fun i => by
    unfold sh
    split
    · exact G.nd _
    · split
      · exact G.nd _
      · exact List.nodup_nil
  dj := fun p q a e1 e2 => by
    rcases sh_cs e1 with ⟨x1, x2⟩ | ⟨x1, _, x2⟩
    · rcases sh_cs e2 with ⟨y1, y2⟩ | ⟨y1, _, y2⟩
      · exact G.dj p q a x2 y2
      · have := G.dj p _ a x2 y2; omega
    · rcases sh_cs e2 with ⟨y1, y2⟩ | ⟨y1, _, y2⟩
      · have := G.dj _ q a x2 y2; omega
      · omega
  obj := fun k a e => by
    rcases sh_cs e with ⟨_, x2⟩ | ⟨_, _, x2⟩ <;> exact G.obj _ a x2
  rep := fun i w e => by
    by_cases h : i < Γ.length
    · rw [List.getElem?_append_left h] at e
      obtain ⟨v, hv, A⟩ := G.rep i w e
      refine ⟨v, by rw [List.getElem?_append_left (by rw [G.len]; exact h)]; exact hv, fun r hr => by rw [List.length_append]; have := A.rs r hr; omega, ?_⟩
      rw [sh_lo h]
      refine ORep.mono (cut_sub fun a o no e => ⟨e, fun ⟨k, hk, z⟩ => ?_⟩) (fun _ _ _ e => e) A.rep
      rcases sh_cs z with ⟨_, x2⟩ | ⟨_, _, x2⟩
      · exact no ⟨k, hk, x2⟩
      · exact no ⟨Γ.length, (fun z => by have := A.rs _ z; omega), x2⟩
    · rw [List.getElem?_append_right (by omega)] at e
      have := List.mem_of_getElem? e
      rw [List.mem_replicate] at this
      exact absurd this.2 (by simp)
/-- what the callee's parameters, its answer own -/
def fx (L n : Nat) (fr : Bool) (io : List Bool) (F : Fpt) : Fpt := fun k => if io[k]? = some true then F k else if k = L then F n else if k = L + 1 then (if fr then F (n + 1) else []) else []
/-- a def ends -/
theorem Gd.leave {fr : Bool} (G0 : Gd K (entry io ds) (vs.map some) H F (io.length + 1)) (hl : ds.length = io.length) (hn : io.length ≤ n) (hfresh : (if fr then deep w else noIo io w.rs) = true)
    (A : Aft K n M (ioIx io 0) (vs.map some ++ List.replicate j none) H (sh io.length n F) (n + 1) Γ' σ' H' F' (n + 2)) (Aw : At K n H' F' (n + 1) w v) (hx : exits io Γ' = some os) :
    Gd K (entry io (newDs io Γ' ds)) (vs.map some) H' (fx io.length n fr io F') (io.length + 2) ∧ At K io.length H' (fx io.length n fr io F') (io.length + 1) ⟨if fr then 8 else 0, [], w.d⟩ v ∧ Dl io.length (fun _ => True) H F (io.length + 1) H' (fx io.length n fr io F') := by
  obtain ⟨e1, e2, e3⟩ := exits_new (ds := ds) hx hl
  have ioL : ∀ k, io[k]? = some true → k < io.length := fun k h => (List.getElem?_eq_some_iff.mp h).1
  have hvl : vs.length = io.length := by
    have := G0.len
    rw [List.length_map, entry_len hl] at this
    exact this
  have cs : ∀ k a, a ∈ fx io.length n fr io F' k → (io[k]? = some true ∧ a ∈ F' k) ∨ (k = io.length ∧ a ∈ F' n) ∨ (k = io.length + 1 ∧ fr = true ∧ a ∈ F' (n + 1)) := fun k a e => by
    unfold fx at e
    split at e
    · exact .inl ⟨by assumption, e⟩
    · split at e
      · exact .inr (.inl ⟨by assumption, e⟩)
      · split at e
        · split at e
          · exact .inr (.inr ⟨by assumption, by assumption, e⟩)
          · cases e
        · cases e
  have oth : ∀ a, Oth (fx io.length n fr io F') [] a → Oth F' [] a := fun a ⟨k, _, z⟩ => by
    rcases cs k a z with ⟨_, z⟩ | ⟨_, z⟩ | ⟨_, _, z⟩ <;> exact ⟨_, List.not_mem_nil, z⟩
  have fH : fx io.length n fr io F' io.length = F' n := by
    unfold fx
    rw [if_neg (fun z => by have := ioL _ z; omega), if_pos rfl]
  have fL : fx io.length n fr io F' (io.length + 1) = if fr then F' (n + 1) else [] := by
    unfold fx
    rw [if_neg (fun z => by have := ioL _ z; omega), if_neg (by omega), if_pos rfl]
  have ob : ∀ k a, a ∈ fx io.length n fr io F' k → Ob H' a := fun k a e => by
    rcases cs k a e with ⟨_, z⟩ | ⟨_, z⟩ | ⟨_, _, z⟩ <;> exact A.gd.obj _ _ z
  have gd : Gd K (entry io (newDs io Γ' ds)) (vs.map some) H' (fx io.length n fr io F') (io.length + 2) := by
    refine ⟨by rw [List.length_map, entry_len e1, hvl], by rw [entry_len e1]; omega, fun k hk => ?_, fun k => ?_, fun p q a e1 e2 => ?_, ob, fun j w' hw => ?_⟩
    · unfold fx
      rw [if_neg (fun z => by have := ioL _ z; omega), if_neg (by omega), if_neg (by omega)]
    · unfold fx
      split
      · exact A.gd.nd _
      · split
        · exact A.gd.nd _
        · split
          · split
            · exact A.gd.nd _
            · exact List.nodup_nil
          · exact List.nodup_nil
    · rcases cs p a e1 with ⟨x1, x2⟩ | ⟨x1, x2⟩ | ⟨x1, _, x2⟩
      · rcases cs q a e2 with ⟨y1, y2⟩ | ⟨y1, y2⟩ | ⟨y1, _, y2⟩
        · exact A.gd.dj p q a x2 y2
        · have := A.gd.dj p n a x2 y2
          have := ioL p x1
          omega
        · have := A.gd.dj p _ a x2 y2
          have := ioL p x1
          omega
      · rcases cs q a e2 with ⟨y1, y2⟩ | ⟨y1, y2⟩ | ⟨y1, _, y2⟩
        · have := A.gd.dj q n a y2 x2
          have := ioL q y1
          omega
        · rw [x1, y1]
        · have := A.gd.dj n _ a x2 y2
          omega
      · rcases cs q a e2 with ⟨y1, y2⟩ | ⟨y1, y2⟩ | ⟨y1, _, y2⟩
        · have := A.gd.dj q _ a y2 x2
          have := ioL q y1
          omega
        · have := A.gd.dj n _ a y2 x2
          omega
        · rw [x1, y1]
    · rcases e3 j w' hw with ⟨h1, h2, h3, h4⟩ | ⟨h1, h2⟩
      · obtain ⟨x, hx, B⟩ := A.gd.rep j w' h4
        have q := A.st j (by have := ioIx_mem (k := 0) h1; rw [Nat.zero_add] at this; exact this)
        rw [hx, List.getElem?_append_left (by rw [List.length_map, hvl]; exact ioL j h1)] at q
        refine ⟨x, q.symm, fun r hr => (by rw [h3] at hr; cases hr), ?_⟩
        have rp := B.rep
        rw [h2, h3] at rp ⊢
        rw [show fx io.length n fr io F' j = F' j from if_pos h1]
        exact ORep.mono (cut_sub fun a o no e => ⟨e, fun z => no (oth a z)⟩) (fun _ _ _ e => e) rp
      · obtain ⟨x, hx, B⟩ := G0.rep j w' h2
        have hj : j < io.length := (List.getElem?_eq_some_iff.mp h1).1
        refine ⟨x, hx, fun r hr => ?_, ?_⟩
        · have := B.rs r hr
          rw [entry_len hl] at this
          rw [entry_len e1]
          exact this
        · -- a parameter that is looked at only
          have wl : w'.l = 0 ∧ w'.rs = [] := entry_view h1 h2
          have rp := B.rep
          rw [wl.1, wl.2] at rp ⊢
          rw [show fx io.length n fr io F' j = [] by
            unfold fx
            rw [if_neg (by rw [h1]; simp), if_neg (by omega), if_neg (by omega)]]
          unfold ORep at rp ⊢
          refine ⟨rfl, Rep.mono (cut_sub fun a o no e => ⟨e, fun z => no (oth a z)⟩) (Rep.mono (A.dl.view (rs := []) fun _ z => nomatch z) (Rep.mono (cut_sub fun a o no e => ⟨e, fun ⟨k, hk, z⟩ => ?_⟩) rp.2))⟩
          rcases sh_cs z with ⟨_, z⟩ | ⟨_, _, z⟩ <;> exact no ⟨_, List.not_mem_nil, z⟩
  refine ⟨gd, ⟨fun _ z => (nomatch z), ?_⟩, ?_⟩
  · rw [fL]
    cases fr with
    | true =>
      show ORep K H' _ 8 w.d v (F' (n + 1))
      have hfresh : deep w = true := hfresh
      by_cases im : imm w.d = true
      · have e0 := ORep.imm_nil im Aw.rep
        rw [e0]
        exact Rep.own im (Rep.imm_cut (fun a ⟨k, _, z⟩ => ob k a z) im Aw.read)
      · have q := hfresh
        unfold deep at q
        rw [Bool.or_eq_true, Bool.and_eq_true, decide_eq_true_eq, List.isEmpty_iff] at q
        rcases q with q | q
        · exact absurd q im
        · have rp := Aw.rep
          rw [q.1, q.2] at rp
          exact ORep.mono (cut_sub fun a o no e => ⟨e, fun z => no (oth a z)⟩) (fun _ _ _ e => e) rp
    | false =>
      show ORep K H' _ 0 w.d v []
      have hfresh : noIo io w.rs = true := hfresh
      unfold noIo at hfresh
      rw [List.all_eq_true] at hfresh
      have out : ∀ k a, a ∈ fx io.length n false io F' k → ∃ k', k' ∉ w.rs ∧ k' ≠ n + 1 ∧ a ∈ F' k' := fun k a e => by
        rcases cs k a e with ⟨y1, y2⟩ | ⟨y1, y2⟩ | ⟨_, y1, _⟩
        · exact ⟨k, fun z => by have := of_decide_eq_true (hfresh k z); exact this y1, by have := ioL k y1; omega, y2⟩
        · exact ⟨n, fun z => by have := Aw.rs n z; omega, by omega, y2⟩
        · cases y1
      refine orep0 (ORep.rep (cut_sub fun a o no e => ⟨e, fun ⟨k, _, z⟩ => ?_⟩) (fun a ha o e => cut_some.mpr ⟨fun ⟨k, _, z⟩ => ?_, e⟩) Aw.rep)
      · obtain ⟨k', _, k2, k3⟩ := out k a z
        exact k2 (A.gd.dj k' _ a k3 ha)
      · obtain ⟨k', k1, _, k3⟩ := out k a z
        exact no ⟨k', k1, k3⟩
  · have lo : ∀ m a, m < n → a ∈ sh io.length n F m → m < io.length ∧ a ∈ F m := fun m a hm z => by
      rcases sh_cs z with z | ⟨z, _, _⟩
      · exact z
      · omega
    refine ⟨fun a o e q => A.dl.keep a o e fun m hm _ z => ?_, fun k h1 h2 => ?_, fun k a _ nk => absurd trivial nk, fun k a c e => ?_⟩
    · obtain ⟨z1, z2⟩ := lo m a hm z
      exact q m z1 trivial z2
    · have : k = io.length := by omega
      subst this
      rw [fH, A.dl.frm n (Nat.le_refl n) (Nat.lt_succ_self n), sh_at hn]
    · have fin : ((∃ m, m < n ∧ M m ∧ a ∈ sh io.length n F m) ∨ H a = none) → (∃ m, m < io.length ∧ True ∧ a ∈ F m) ∨ H a = none := fun z => by
        rcases z with ⟨m, a1, _, a3⟩ | z
        · obtain ⟨z1, z2⟩ := lo m a a1 a3
          exact .inl ⟨m, z1, trivial, z2⟩
        · exact .inr z
      rcases cs k a e with ⟨x1, x2⟩ | ⟨x1, x2⟩ | ⟨x1, _, x2⟩
      · have hk := ioL k x1
        by_cases hM : M k
        · exact fin (A.dl.new k a (.inl ⟨by omega, hM⟩) x2)
        · have := A.dl.old k a (by omega) hM x2
          obtain ⟨z1, z2⟩ := lo k a (by omega) this
          exact .inl ⟨k, z1, trivial, z2⟩
      · omega
      · exact fin (A.dl.new _ a (.inr (Nat.le_refl _)) x2)
end
end Own

end
section
set_option maxHeartbeats 1000000
namespace Own
open PySem PySem.Spec L2
section
variable {P : Program} {w : World} {K : PySem.W.Frag} {mg : Str → Option Value} {base : Heap} {ER : ERel} {nm : Nm} {T : Nat → Option Fn} {gl : Nat → Option D}
/-- a def's text is what the program over plain data says -/
structure DefOk (K : PySem.W.Frag) (mg : Str → Option Value) (nm : Nm) (fn : Fn) (x qual : Str) (st : Stmt) (a : Addr) (fd : FuncData) (N ps : List Str) : Prop where
  f : Fun K x qual st a fd
  sc : FnScope N ps (defScope st)
  b : Binds K fd ps []
  mg : mg x = some (.ref a)
  ck : chkSs { nm with N := N } (defScope st) fn.body (defBody st) = true
  pl : ps.length = fn.mode.io.length
  sl : fn.slots = N.length
  as : disj (asgSs fn.body) (ioIx fn.mode.io 0) = true
  le : ps.length ≤ N.length
theorem runFn_ok {C : Ctx} {fn : Fn} {vs : List V} {Q : VK} {E : XK} {X : Cx} {N : List Str} {H : Hp} {sts : List Stmt} (hsl : fn.slots = N.length) (hio : fn.mode.io.length ≤ N.length)
    (h : DSp K ER fn.mode (runFn C fn) vs H Q E) : tSs K ER C (fun cls d _ H => E cls d H) (ioIx fn.mode.io 0) fn.body { nx := fun _ H' => Q .non H', rt := Q } (L2.start N vs) H := by
  obtain ⟨ds, F, hl, G, P⟩ := h
  have hcond : ds.length = fn.mode.io.length ∧ ds.length ≤ fn.slots := ⟨hl, by rw [hsl, hl]; exact hio⟩
  unfold runFn at P
  rw [if_pos hcond] at P
  have hel := entry_len hl
  have hvl : vs.length = fn.mode.io.length := by
    have := G.len
    rw [List.length_map, hel] at this
    exact this
  have G' : Gd K (entry fn.mode.io ds) (vs.map some) H F ((entry fn.mode.io ds).length + 1) := by
    rw [hel, ← hl]; exact G
  have G1 := G'.ext1 (fn.slots - ds.length)
  have hn : (entry fn.mode.io ds).length + (fn.slots - ds.length) = fn.slots := by rw [hel, hl]; have := hcond.2; rw [hl] at this; omega
  rw [hn] at G1
  have hst : L2.start N vs = vs.map some ++ List.replicate (fn.slots - ds.length) none := by
    unfold L2.start
    rw [hsl, hvl, hl]
  rw [hst]
  rw [hel] at G1
  refine ⟨_, sh fn.mode.io.length fn.slots F, fn.slots + 1, G1, ?_⟩
  have hN : (entry fn.mode.io ds ++ List.replicate (fn.slots - ds.length) none).length = fn.slots := by rw [List.length_append, List.length_replicate]; exact hn
  rw [hN]
  generalize (entry fn.mode.io ds ++ List.replicate (fn.slots - ds.length) none) = Γ0 at *
  rw [hl] at G P
  have hnn : fn.mode.io.length ≤ fn.slots := by have := hcond.2; rw [hl] at this; exact this
  have hl' : ds.length = fn.mode.io.length := hl
  rw [hl] at hcond hn G1 hst
  cases he : exSs C fn.body Γ0 with
  | stuck => rw [he] at P; exact P
  | exc c as g =>
    rw [he] at P
    rw [hl]
    intro cls dx σ' H' F' er A
    have d := A.dl
    have lo : ∀ m a, m < fn.slots → a ∈ sh fn.mode.io.length fn.slots F m → m < fn.mode.io.length ∧ a ∈ F m := fun m a hm z => by
      rcases sh_cs z with z | ⟨z, _, _⟩
      · exact z
      · omega
    refine P cls dx H' (fun k => if k = fn.mode.io.length then F' fn.slots else []) er ⟨fun a o e q => d.keep a o e fun m hm _ z => ?_, fun k h1 h2 => ?_, fun k a _ nk => absurd trivial nk, fun k a c e => ?_⟩
    · obtain ⟨z1, z2⟩ := lo m a hm z
      exact q m z1 trivial z2
    · have : k = fn.mode.io.length := by omega
      subst this
      rw [if_pos rfl, d.frm fn.slots (Nat.le_refl _) (Nat.lt_succ_self _), sh_at hnn]
    · have : k ≠ fn.mode.io.length := by omega
      simp only [this, if_false] at e
      cases e
  | ok fl =>
    rw [he] at P
    cases fl with
    | brk g => exact P.elim
    | cont g => exact P.elim
    | nx Γ' =>
      simp only at P
      intro σ' H' F' A
      cases hx : exits fn.mode.io Γ' with
      | none => rw [hx] at P; exact P.elim
      | some os =>
        simp only [hx] at P
        have hΓ' := A.hl
        have B := fin_imm (n := fn.slots + 1) (d := .non) (v := .non) A.gd (by rw [hΓ']; exact Nat.le_succ _) rfl rfl
        have Ba := B.at_
        rw [hΓ'] at Ba
        have A2 : Aft K fn.slots (mem (mutSs fn.body)) (ioIx fn.mode.io 0) (vs.map some ++ List.replicate (fn.slots - ds.length) none) H (sh fn.mode.io.length fn.slots F) (fn.slots + 1) Γ' σ' H' (low (fn.slots + 1) F') (fn.slots + 2) := ⟨B.gd, A.dl.temps (Nat.le_succ _) B.nw.same B.nw.lo B.nw.fr, A.st, A.hl⟩
        obtain ⟨q1, q2, q3⟩ := Gd.leave (fr := fn.mode.fresh) (w := val .non) G hl hnn (by split <;> rfl) A2 Ba hx
        exact P _ _ _ _ (exits_new hx hl).2.1 (exits_new hx hl).1 q1 q2 q3
    | ret u Γ' =>
      simp only at P
      intro v σ' H' F' A Aw
      cases hx : exits fn.mode.io Γ' with
      | none => rw [hx] at P; exact P.elim
      | some os =>
        simp only [hx] at P
        by_cases hd : (if fn.mode.fresh then deep u else noIo fn.mode.io u.rs) = true
        · rw [if_pos hd] at P
          obtain ⟨q1, q2, q3⟩ := Gd.leave (w := u) G hl hnn hd A Aw hx
          exact P _ _ _ _ (exits_new hx hl).2.1 (exits_new hx hl).1 q1 q2 q3
        · rw [if_neg hd] at P
          exact P.elim
/-- an error class that is raised, as the written part has it -/
structure RzK (K : PySem.W.Frag) (mg : Str → Option Value) (x f : Str) (C : Addr) : Prop where
  gC : mg x = some (.ref C)
  ex : ExK K x f C
  T : OexC K C
  fi : ∃ (fI : Addr) (fd : FuncData) (qual : Str) (st : Stmt), PySem.W.findIn K (.ref C) "__init__" = some (some (.ref fI)) ∧ PySem.W.typeIn K (.ref fI) = some (.type "function") ∧ Fun K "__init__" qual st fI fd ∧ FnScope ["self", f] ["self", f] (defScope st) ∧
    iniB f (defBody st) = true ∧ visB (defScope st) "self" = true ∧ visB (defScope st) f = true ∧ Binds K fd ["self", f] []
/-- ALL DEFS -/
theorem defs_ok (hec : ∀ y ∈ nm.cl, ∃ CY : Addr, mg y = some (.ref CY) ∧ PySem.W.nsIn K mainGlobals y = some (some (.ref CY))) (hrz : ∀ x f, (x, f) ∈ nm.rz → ∃ C, RzK K mg x f C) {Ad : Nat → Addr} {Fd : Nat → FuncData} {Ps : Nat → List Str} (hd : ∀ f x, nm.fn f = some x → ∃ (fn : Fn) (qual : Str) (st : Stmt) (N : List Str), T f = some fn ∧ DefOk K mg nm fn x qual st (Ad f) (Fd f) N (Ps f)) (hb : ∀ x ∈ bltNames, mg x = none)
    (hg : ∀ g x d, nm.gl g = some x → gl g = some d → ∃ (u : Value) (v : V), mg x = some u ∧ RelV v u ∧ ∀ R, Rep K R d v) :
    ∀ (n f : Nat) (x : Str), nm.fn f = some x → ∃ (fn : Fn) (qual : Str) (st : Stmt) (N : List Str), T f = some fn ∧ DefOk K mg nm fn x qual st (Ad f) (Fd f) N (Ps f) ∧ FnOk P w K mg base (L2.CX P w) (n + 2) (Ad f) (Fd f) (Ps f) (DSp K (ERx K) fn.mode (exec T gl n f))
  | 0, f, x, hx => by
    obtain ⟨fn, qual, st, N, hT, D⟩ := hd f x hx
    refine ⟨fn, qual, st, N, hT, D, ⟨fun vs H Q E h => ?_, fun A outer s H args us vs Q E _ _ _ _ h => ?_⟩⟩
    · obtain ⟨ds, F, _, _, h⟩ := h
      exact h.elim
    · obtain ⟨ds, F, _, _, h⟩ := h
      exact h.elim
  | n + 1, f, x, hx => by
    obtain ⟨fn, qual, st, N, hT, D⟩ := hd f x hx
    refine ⟨fn, qual, st, N, hT, D, D.f.okX D.sc (fun vs H Q E h => ?_) (fun cdv A outer s H vs Q E hr h => ?_)⟩
    · obtain ⟨ds, F, hl, G, _⟩ := h
      have := G.len
      rw [List.length_map, entry_len hl] at this
      rw [this, D.pl]
    · have hX : XS (cxOf (L2.CX P w) P w K mg base N qual (defScope st) (Ad f) cdv A outer s H E) { nm with N := N } (defScope st) ⟨fun g => (T g).map (·.mode), exec T gl n, gl⟩ (ERx K) (fun cls d _ H => E cls d H) :=
        { hN := rfl, nd := D.sc.nd, hsc := rfl, calm := rfl, un := by
            have := hr.un
            show (A.deeper (PyProof.Rows.envOfC qual (defScope st) s.heap.objs.size (Ad f) cdv)).units + 65 < cLine
            omega
          blt := hb
          tk := takes_of rfl rfl rfl rfl
          fns := fun g y hy => by
            obtain ⟨fn', qual', st', N', hT', D', F'⟩ := defs_ok hec hrz hd hb hg n g y hy
            exact ⟨fn'.mode, n + 2, Ad g, Fd g, Ps g, by show (T g).map _ = _; rw [hT']; rfl, F', hr, D'.mg, D'.f.kp, D'.b⟩
          gls := fun g y d h1 h2 => hg g y d h1 h2
          loc := fun y hy => by
            have hy : (kindB (defScope st) y .local || kindB (defScope st) y .cell) = true := hy
            refine ⟨?_, .inl rfl⟩
            unfold L2.Loc
            show (defScope st).names.lookup y = some .local ∨ (defScope st).names.lookup y = some .cell
            unfold kindB at hy
            cases q : (defScope st).names.lookup y with
            | none => rw [q] at hy; simp at hy
            | some k =>
              rw [q] at hy
              simp only [Bool.or_eq_true, beq_iff_eq] at hy
              rcases hy with hy | hy
              · rw [hy]; exact .inl rfl
              · rw [hy]; exact .inr rfl
          po := passes_of rfl
          kd := D.sc.kind
          ecl := hec
          er := rfl
          rz := fun x f h => by
            obtain ⟨C, Z⟩ := hrz x f h
            obtain ⟨fI, fd, qual, st, f1, f2, f3, f4, f5, f6, f7, f8⟩ := Z.fi
            exact ⟨C, ⟨Z.gC, Z.ex, Z.T, fI, fd, _, f1, f2, init_ok f3 f4 f5 f6 f7, f8⟩⟩
          rm := hr.mono (by omega)
          st := rfl
          fr := rfl
          ex0 := rfl }
      refine ⟨_, okSs fn.body hX D.ck D.as, ?_⟩
      have e : exec T gl (n + 1) f = runFn ⟨fun g => (T g).map (·.mode), exec T gl n, gl⟩ fn := by
        funext ds
        rw [exec, hT]
      rw [e] at h
      exact runFn_ok (X := cxOf (L2.CX P w) P w K mg base N qual (defScope st) (Ad f) cdv A outer s H E) (sts := []) D.sl (by rw [← D.pl]; exact D.le) h
end
end Own

end
section
set_option maxHeartbeats 1000000
namespace Own
open PySem PySem.Spec L2
theorem DSp_law {K : PySem.W.Frag} {ER : ERel} {G : List D → Res (D × List D)} {H : Hp} {a : Addr} {ns : List Int} (hm : G [.scr ns] = .ok (.bl true, [])) (hO : Only H) (hS : SqL K H a (ns.map V.int)) :
    DSp K ER ⟨[false], true⟩ G [.ref a] H (fun v _ => v = .bl true) (fun _ _ _ => False) := by
  have hF : SqF K H a (ns.map V.int) := by
    rcases hS with (h | h) | h
    · rcases hO a with z | ⟨o, xs, z⟩
      · rw [h] at z; cases z
      · rw [h] at z; cases z
    · exact .inl h
    · exact .inr h
  refine ⟨[.scr ns], fun _ => [], rfl, ⟨rfl, Nat.le_succ _, fun _ _ => rfl, fun _ => List.nodup_nil, (fun _ _ _ z => nomatch z), (fun _ _ z => nomatch z), fun i w e => ?_⟩, ?_⟩
  · cases i with
    | zero =>
      have e : some (some (itm [] (.scr ns))) = some (some w) := e
      cases e
      refine ⟨.ref a, rfl, (fun _ z => nomatch z), ?_⟩
      refine orep0 (d := .scr ns) ⟨a, rfl, ?_⟩
      have sub : Sub H (cut H (Oth (fun _ => []) [])) := fun b o e => cut_some.mpr ⟨(fun ⟨_, _, z⟩ => nomatch z), e⟩
      exact sub.f hF
    | succ i => simp [entry] at e
  · rw [hm]
    intro ds' v H' F' _ _ _ A _
    exact reads_bl A rfl
theorem noCX {P : Program} {w : World} {H : Hp} {s : Shared} {e : Value} {s' : Shared} (h : L2.CX P w [] H s (fun _ _ _ => False) e s') : False := by
  obtain ⟨_, _, _, _, _, _, _, _, _, _, _, _, z⟩ := h
  exact z
theorem noEnv {K : PySem.W.Frag} {mg : Str → Option Value} {h : Heap} {mgl : Str → Option Value} {xs : List Str} (q : ∀ x ∈ xs, mg x = none) : ∀ x ∈ xs, mg x = none := q
end Own

end
set_option maxHeartbeats 2000000
namespace Own.K54
open PySem PySem.Spec PyProof.Rows L2 Own
def bd_pots_0 : Ss := (.cons (.set 9 (.int 0)) (.cons (.iff (.not (.loc 8)) (.cons (.set 9 (.op .min2 (.cons (.loc 6) (.cons (.op .max2 (.cons (.int 0) (.cons (.op .sub (.cons (.loc 4) (.cons (.loc 7) .nil))) .nil))) .nil)))) .nil) .nil) (.cons (.append 5 (.loc 9)) (.cons (.aug 4 .sub (.loc 9)) .nil))))
def ir_pots : Fn := ⟨10, ⟨[false, false, false, false], true⟩, (.cons (.set 4 (.loc 2)) (.cons (.set 5 (.lst .nil)) (.cons (.for_ (.tup [6, 7, 8]) (.zip3 (.loc 0) (.loc 1) (.loc 3)) bd_pots_0) (.cons (.ret (.mv 5)) .nil))))⟩
def ir_plain_pots : Fn := ⟨3, ⟨[false, false, false], true⟩, (.cons (.ret (.call 0 (.cons (.loc 0) (.cons (.op .mul (.cons (.lst (.cons (.int 0) .nil)) (.cons (.op .len (.cons (.loc 0) .nil)) .nil))) (.cons (.loc 1) (.cons (.loc 2) .nil)))))) .nil)⟩
def ir_upper_pots : Fn := ⟨5, ⟨[false, false, false, false], true⟩, (.cons (.set 4 (.op (.slice false true) (.cons (.call 1 (.cons (.loc 0) (.cons (.loc 1) (.cons (.loc 2) .nil)))) (.cons (.loc 3) .nil)))) (.cons (.ret (.op .add (.cons (.loc 4) (.cons (.op .mul (.cons (.lst (.cons (.int 0) .nil)) (.cons (.op .sub (.cons (.op .len (.cons (.loc 0) .nil)) (.cons (.op .len (.cons (.loc 4) .nil)) .nil))) .nil))) .nil)))) .nil))⟩
def ir__law_pool : Fn := ⟨5, ⟨[false, false, false], true⟩, (.cons (.set 3 (.int 0)) (.cons (.iff (.op .lt (.cons (.loc 1) (.cons (.op .len (.cons (.loc 0) .nil)) .nil))) (.cons (.set 3 (.op .abs (.cons (.op .ix (.cons (.loc 0) (.cons (.loc 1) .nil))) .nil))) .nil) .nil) (.cons (.set 4 (.int 0)) (.cons (.iff (.op .ge (.cons (.loc 3) (.cons (.op .pow (.cons (.int 10) (.cons (.int 18) .nil))) .nil))) (.cons (.set 4 (.loc 3)) .nil) .nil) (.cons (.ret (.lst (.cons (.mv 4) (.cons (.op .add (.cons (.op .add (.cons (.op .mod (.cons (.op .int (.cons (.loc 3) .nil)) (.cons (.int 1000000007) .nil))) (.cons (.op .mul (.cons (.int 9176) (.cons (.loc 2) .nil))) .nil))) (.cons (.op .mul (.cons (.int 77) (.cons (.loc 1) .nil))) .nil))) (.cons (.int 0) .nil))))) .nil)))))⟩
def ir__law_mix : Fn := ⟨5, ⟨[false, false], true⟩, (.cons (.set 2 (.op .mod (.cons (.op .int (.cons (.op .add (.cons (.op .add (.cons (.op .mul (.cons (.loc 0) (.cons (.int 48271) .nil))) (.cons (.op .mul (.cons (.loc 1) (.cons (.int 69621) .nil))) .nil))) (.cons (.int 12345) .nil))) .nil)) (.cons (.int 2147483647) .nil)))) (.cons (.set 3 (.op .mod (.cons (.op .int (.cons (.op .add (.cons (.op .add (.cons (.op .mul (.cons (.loc 2) (.cons (.loc 2) .nil))) (.cons (.op .mul (.cons (.loc 1) (.cons (.int 7919) .nil))) .nil))) (.cons (.int 101) .nil))) .nil)) (.cons (.int 2147483629) .nil)))) (.cons (.set 4 (.op .mod (.cons (.op .int (.cons (.op .add (.cons (.op .add (.cons (.op .mul (.cons (.loc 3) (.cons (.loc 3) .nil))) (.cons (.loc 2) .nil))) (.cons (.int 65537) .nil))) .nil)) (.cons (.int 2147483587) .nil)))) (.cons (.ret (.op .fdiv (.cons (.loc 4) (.cons (.int 19) .nil)))) .nil))))⟩
def ir__law_draw : Fn := ⟨3, ⟨[true, false], true⟩, (.cons (.iff (.op .gt (.cons (.op .ix (.cons (.loc 0) (.cons (.int 0) .nil))) (.cons (.int 0) .nil))) (.cons (.set 2 (.op .mod (.cons (.op .int (.cons (.op .ix (.cons (.loc 0) (.cons (.int 0) .nil))) .nil)) (.cons (.loc 1) .nil)))) (.cons (.setIx 0 (.int 0) (.op .fdiv (.cons (.op .ix (.cons (.loc 0) (.cons (.int 0) .nil))) (.cons (.loc 1) .nil)))) (.cons (.ret (.mv 2)) .nil))) .nil) (.cons (.setIx 0 (.int 2) (.op .add (.cons (.op .ix (.cons (.loc 0) (.cons (.int 2) .nil))) (.cons (.int 1) .nil)))) (.cons (.ret (.op .mod (.cons (.op .int (.cons (.call 4 (.cons (.op .ix (.cons (.loc 0) (.cons (.int 1) .nil))) (.cons (.op .ix (.cons (.loc 0) (.cons (.int 2) .nil))) .nil))) .nil)) (.cons (.loc 1) .nil)))) .nil)))⟩
def ir__law_pick : Fn := ⟨2, ⟨[true, false], true⟩, (.cons (.ret (.op .ix (.cons (.loc 1) (.cons (.call 5 (.io 0 (.cons (.op .len (.cons (.loc 1) .nil)) .nil))) .nil)))) .nil)⟩
def ir__law_whole : Fn := ⟨1, ⟨[false], true⟩, (.cons (.ret (.and (.op (.isi .int) (.cons (.loc 0) .nil)) (.not (.op (.isi .bool) (.cons (.loc 0) .nil))))) .nil)⟩
def bd__law_same_0 : Ss := (.cons (.iff (.not (.call 8 (.cons (.op .ix (.cons (.loc 0) (.cons (.loc 4) .nil))) (.cons (.op .ix (.cons (.loc 1) (.cons (.loc 4) .nil))) .nil)))) (.cons (.ret (.bl false)) .nil) .nil) .nil)
def bd__law_same_1 : Ss := (.cons (.iff (.op .notin (.cons (.loc 3) (.cons (.loc 2) .nil))) (.cons (.ret (.bl false)) .nil) .nil) (.cons (.iff (.or (.not (.call 8 (.cons (.loc 3) (.cons (.op .ix (.cons (.loc 2) (.cons (.loc 3) .nil))) .nil)))) (.not (.call 8 (.cons (.op .ix (.cons (.loc 0) (.cons (.loc 3) .nil))) (.cons (.op .ix (.cons (.loc 1) (.cons (.loc 3) .nil))) .nil))))) (.cons (.ret (.bl false)) .nil) .nil) .nil))
def bd__law_same_2 : Ss := (.cons (.setIx 2 (.loc 3) (.loc 3)) .nil)
def ir__law_same : Fn := ⟨5, ⟨[false, false], true⟩, (.cons (.iff (.op .isN (.cons (.loc 1) .nil)) (.cons (.ret (.op .isN (.cons (.loc 0) .nil))) .nil) .nil) (.cons (.iff (.or (.op (.isB true) (.cons (.loc 1) .nil)) (.op (.isB false) (.cons (.loc 1) .nil))) (.cons (.ret (.and (.op (.isi .bool) (.cons (.loc 0) .nil)) (.op .eq (.cons (.loc 0) (.cons (.loc 1) .nil))))) .nil) .nil) (.cons (.iff (.op (.isi .int) (.cons (.loc 1) .nil)) (.cons (.ret (.and (.call 7 (.cons (.loc 0) .nil)) (.op .eq (.cons (.loc 0) (.cons (.loc 1) .nil))))) .nil) .nil) (.cons (.iff (.op (.isi .str) (.cons (.loc 1) .nil)) (.cons (.ret (.and (.op (.isi .str) (.cons (.loc 0) .nil)) (.op .eq (.cons (.loc 0) (.cons (.loc 1) .nil))))) .nil) .nil) (.cons (.iff (.op (.isi .dict) (.cons (.loc 1) .nil)) (.cons (.iff (.or (.not (.op (.isi .dict) (.cons (.loc 0) .nil))) (.op .ne (.cons (.op .len (.cons (.loc 0) .nil)) (.cons (.op .len (.cons (.loc 1) .nil)) .nil)))) (.cons (.ret (.bl false)) .nil) .nil) (.cons .dead (.cons (.for_ (.one 3) (.seq (.loc 1)) bd__law_same_2) (.cons (.for_ (.one 3) (.seq (.loc 0)) bd__law_same_1) (.cons (.ret (.bl true)) .nil))))) .nil) (.cons (.iff (.and (.op (.isi .list) (.cons (.loc 1) .nil)) (.not (.op (.isi .list) (.cons (.loc 0) .nil)))) (.cons (.ret (.bl false)) .nil) .nil) (.cons (.iff (.and (.op (.isi .tuple) (.cons (.loc 1) .nil)) (.not (.op (.isi .tuple) (.cons (.loc 0) .nil)))) (.cons (.ret (.bl false)) .nil) .nil) (.cons (.iff (.op .ne (.cons (.op .len (.cons (.loc 0) .nil)) (.cons (.op .len (.cons (.loc 1) .nil)) .nil))) (.cons (.ret (.bl false)) .nil) .nil) (.cons (.for_ (.one 4) (.rng1 (.op .len (.cons (.loc 1) .nil))) bd__law_same_0) (.cons (.ret (.bl true)) .nil))))))))))⟩
def ir__law_amount : Fn := ⟨2, ⟨[true, false], true⟩, (.cons (.iff (.op .gt (.cons (.loc 1) (.cons (.op .pow (.cons (.int 10) (.cons (.int 6) .nil))) .nil))) (.cons (.ret (.op .add (.cons (.op .mul (.cons (.call 5 (.io 0 (.cons (.op .pow (.cons (.int 10) (.cons (.int 6) .nil))) .nil))) (.cons (.op .pow (.cons (.int 10) (.cons (.int 6) .nil))) .nil))) (.cons (.call 5 (.io 0 (.cons (.op .add (.cons (.op .pow (.cons (.int 10) (.cons (.int 6) .nil))) (.cons (.int 1) .nil))) .nil))) .nil)))) .nil) .nil) (.cons (.ret (.call 5 (.io 0 (.cons (.loc 1) .nil)))) .nil))⟩
def bd__law_purses_0 : Ss := (.cons (.set 8 (.int 0)) (.cons (.iff (.and (.op .lt (.cons (.loc 7) (.cons (.loc 4) .nil))) (.not (.op .ix (.cons (.loc 3) (.cons (.loc 7) .nil))))) (.cons (.set 8 (.op .ix (.cons (.op .sorted (.cons (.lst (.cons (.int 0) (.cons (.op .sub (.cons (.loc 5) (.cons (.op .ix (.cons (.loc 1) (.cons (.loc 7) .nil))) .nil))) (.cons (.op .ix (.cons (.loc 0) (.cons (.loc 7) .nil))) .nil)))) .nil)) (.cons (.int 1) .nil)))) .nil) .nil) (.cons (.append 6 (.loc 8)) (.cons (.set 5 (.op .sub (.cons (.loc 5) (.cons (.loc 8) .nil)))) .nil))))
def ir__law_purses : Fn := ⟨9, ⟨[false, false, false, false, false], true⟩, (.cons (.set 5 (.loc 2)) (.cons (.set 6 (.lst .nil)) (.cons (.for_ (.one 7) (.rng1 (.op .len (.cons (.loc 0) .nil))) bd__law_purses_0) (.cons (.ret (.mv 6)) .nil))))⟩
def bd__law_bars_0 : Ss := (.cons (.iff (.and (.not (.op .ix (.cons (.loc 2) (.cons (.loc 4) .nil)))) (.op .lt (.cons (.op .ix (.cons (.loc 3) (.cons (.loc 4) .nil))) (.cons (.op .ix (.cons (.loc 0) (.cons (.loc 4) .nil))) .nil)))) (.cons (.ret (.op .eq (.cons (.op .sum (.cons (.op (.slice true false) (.cons (.loc 3) (.cons (.op .add (.cons (.loc 4) (.cons (.int 1) .nil))) .nil))) .nil)) (.cons (.int 0) .nil)))) .nil) .nil) .nil)
def bd__law_bars_1 : Ss := (.cons (.iff (.op .lt (.cons (.op .ix (.cons (.loc 1) (.cons (.loc 4) .nil))) (.cons (.op .ix (.cons (.loc 1) (.cons (.op .sub (.cons (.loc 4) (.cons (.int 1) .nil))) .nil))) .nil))) (.cons (.ret (.bl true)) .nil) .nil) .nil)
def ir__law_bars : Fn := ⟨5, ⟨[false, false, false, false], true⟩, (.cons (.for_ (.one 4) (.rng2 (.int 1) (.op .len (.cons (.loc 1) .nil))) bd__law_bars_1) (.cons (.for_ (.one 4) (.rng1 (.op .len (.cons (.loc 0) .nil))) bd__law_bars_0) (.cons (.ret (.bl true)) .nil)))⟩
def ir__law_coins : Fn := ⟨6, ⟨[true, false, false], true⟩, (.cons (.set 3 (.op .sum (.cons (.loc 1) .nil))) (.cons (.set 4 (.op .add (.cons (.op .ix (.cons (.loc 2) (.cons (.call 5 (.io 0 (.cons (.op .len (.cons (.loc 2) .nil)) .nil))) .nil))) (.cons (.op .sum (.cons (.op (.slice false true) (.cons (.loc 1) (.cons (.call 5 (.io 0 (.cons (.op .add (.cons (.op .len (.cons (.loc 1) .nil)) (.cons (.int 1) .nil))) .nil))) .nil))) .nil)) .nil)))) (.cons (.set 5 (.lst (.cons (.loc 4) (.cons (.op .sub (.cons (.loc 4) (.cons (.int 1) .nil))) (.cons (.op .add (.cons (.loc 4) (.cons (.int 1) .nil))) (.cons (.loc 3) (.cons (.op .sub (.cons (.loc 3) (.cons (.int 1) .nil))) (.cons (.op .add (.cons (.loc 3) (.cons (.int 1) .nil))) (.cons (.int 0) .nil))))))))) (.cons (.iff (.op .eq (.cons (.call 5 (.io 0 (.cons (.int 4) .nil))) (.cons (.int 0) .nil))) (.cons (.iff (.op .eq (.cons (.call 5 (.io 0 (.cons (.int 2) .nil))) (.cons (.int 0) .nil))) (.cons (.ret (.op .fdiv (.cons (.op .mul (.cons (.op .add (.cons (.loc 3) (.cons (.op .max1 (.cons (.loc 2) .nil)) .nil))) (.cons (.call 5 (.io 0 (.cons (.int 1001) .nil))) .nil))) (.cons (.int 1000) .nil)))) .nil) .nil) (.cons (.ret (.call 5 (.io 0 (.cons (.op .add (.cons (.op .add (.cons (.loc 3) (.cons (.op .max1 (.cons (.loc 2) .nil)) .nil))) (.cons (.int 2) .nil))) .nil)))) .nil)) .nil) (.cons (.ret (.op .max2 (.cons (.int 0) (.cons (.call 6 (.io 0 (.cons (.loc 5) .nil))) .nil)))) .nil)))))⟩
def bd_law_0 : Ss := (.cons (.set 12 (.call 12 (.tmp (.call 3 (.cons (.loc 0) (.cons (.op .add (.cons (.int 1) (.cons (.loc 11) .nil))) (.cons (.int 59) .nil)))) (.cons (.loc 6) (.cons (.loc 8) .nil))))) (.cons (.set 13 (.call 5 (.io 1 (.cons (.int 5) .nil)))) (.cons (.set 14 (.call 10 (.cons (.loc 6) (.cons (.loc 8) (.cons (.loc 12) (.cons (.loc 10) (.cons (.int 4) .nil))))))) (.cons (.set 15 (.call 10 (.cons (.loc 6) (.cons (.op .mul (.cons (.lst (.cons (.int 0) .nil)) (.cons (.loc 2) .nil))) (.cons (.loc 12) (.cons (.loc 10) (.cons (.int 4) .nil))))))) (.cons (.set 16 (.call 10 (.cons (.loc 6) (.cons (.op .mul (.cons (.lst (.cons (.int 0) .nil)) (.cons (.loc 2) .nil))) (.cons (.loc 12) (.cons (.loc 10) (.cons (.loc 13) .nil))))))) (.cons (.set 17 (.lst (.cons (.op .list (.cons (.loc 6) .nil)) (.cons (.op .list (.cons (.loc 8) .nil)) (.cons (.op .list (.cons (.loc 10) .nil)) .nil))))) (.cons (.set 18 (.call 0 (.cons (.op .ix (.cons (.loc 17) (.cons (.int 0) .nil))) (.cons (.op .ix (.cons (.loc 17) (.cons (.int 1) .nil))) (.cons (.loc 12) (.cons (.op .ix (.cons (.loc 17) (.cons (.int 2) .nil))) .nil)))))) (.cons (.iff (.or (.not (.call 8 (.cons (.loc 18) (.cons (.loc 14) .nil)))) (.or (.op .gt (.cons (.op .sum (.cons (.loc 18) .nil)) (.cons (.loc 12) .nil))) (.not (.call 11 (.cons (.loc 6) (.cons (.loc 8) (.cons (.loc 10) (.cons (.loc 18) .nil)))))))) (.cons (.ret (.bl false)) .nil) .nil) (.cons (.iff (.not (.call 8 (.cons (.call 1 (.cons (.op .ix (.cons (.loc 17) (.cons (.int 0) .nil))) (.cons (.loc 12) (.cons (.op .ix (.cons (.loc 17) (.cons (.int 2) .nil))) .nil)))) (.cons (.loc 15) .nil)))) (.cons (.ret (.bl false)) .nil) .nil) (.cons (.iff (.not (.call 8 (.cons (.call 2 (.cons (.op .ix (.cons (.loc 17) (.cons (.int 0) .nil))) (.cons (.loc 12) (.cons (.op .ix (.cons (.loc 17) (.cons (.int 2) .nil))) (.cons (.loc 13) .nil))))) (.cons (.loc 16) .nil)))) (.cons (.ret (.bl false)) .nil) .nil) (.cons (.iff (.not (.call 8 (.cons (.loc 17) (.cons (.lst (.cons (.loc 6) (.cons (.loc 8) (.cons (.loc 10) .nil)))) .nil)))) (.cons (.ret (.bl false)) .nil) .nil) (.cons (.setIx 18 (.int 0) (.int 77)) (.cons (.append 18 (.int 5)) (.cons (.iff (.not (.call 8 (.cons (.call 0 (.cons (.op .ix (.cons (.loc 17) (.cons (.int 0) .nil))) (.cons (.op .ix (.cons (.loc 17) (.cons (.int 1) .nil))) (.cons (.loc 12) (.cons (.op .ix (.cons (.loc 17) (.cons (.int 2) .nil))) .nil))))) (.cons (.loc 14) .nil)))) (.cons (.ret (.bl false)) .nil) .nil) .nil))))))))))))))
def el_law_0 : E := (.op .eq (.cons (.call 5 (.io 1 (.cons (.int 4) .nil))) (.cons (.int 0) .nil)))
def bd_law_1 : Ss := (.cons (.set 9 (.ite (.op .gt (.cons (.call 5 (.io 1 (.cons (.int 3) .nil))) (.cons (.int 0) .nil))) (.call 9 (.io 1 (.cons (.loc 4) .nil))) (.int 0))) (.cons (.append 8 (.ite (.loc 5) (.loc 9) (.op .add (.cons (.op .ix (.cons (.loc 8) (.cons (.op .neg (.cons (.int 1) .nil)) .nil))) (.cons (.loc 9) .nil))))) .nil))
def el_law_1 : E := (.ite (.op .gt (.cons (.call 5 (.io 1 (.cons (.int 4) .nil))) (.cons (.int 0) .nil))) (.call 9 (.io 1 (.cons (.loc 3) .nil))) (.int 0))
def ir_law : Fn := ⟨19, ⟨[false], true⟩, (.cons (.set 1 (.call 3 (.cons (.loc 0) (.cons (.int 0) (.cons (.int 59) .nil))))) (.cons (.set 2 (.op .add (.cons (.int 1) (.cons (.call 5 (.io 1 (.cons (.int 4) .nil))) .nil)))) (.cons (.set 3 (.ite (.op .eq (.cons (.call 5 (.io 1 (.cons (.int 6) .nil))) (.cons (.int 0) .nil))) (.op .add (.cons (.op .pow (.cons (.int 10) (.cons (.int 12) .nil))) (.cons (.int 1) .nil))) (.int 21))) (.cons (.set 4 (.ite (.op .eq (.cons (.call 5 (.io 1 (.cons (.int 6) .nil))) (.cons (.int 0) .nil))) (.op .add (.cons (.op .pow (.cons (.int 10) (.cons (.int 12) .nil))) (.cons (.int 1) .nil))) (.int 21))) (.cons (.set 5 (.op .eq (.cons (.call 5 (.io 1 (.cons (.int 8) .nil))) (.cons (.int 0) .nil)))) (.cons (.set 6 (.comp [7] (.one 7) (.rng1 (.loc 2)) (.bl true) el_law_1)) (.cons (.set 8 (.lst (.cons (.int 0) .nil))) (.cons (.for_ (.one 7) (.rng1 (.op .sub (.cons (.loc 2) (.cons (.int 1) .nil)))) bd_law_1) (.cons (.set 10 (.comp [7] (.one 7) (.rng1 (.loc 2)) (.bl true) el_law_0)) (.cons (.for_ (.one 11) (.rng1 (.int 3)) bd_law_0) (.cons (.ret (.bl true)) .nil)))))))))))⟩
def fns : List Fn := [ir_pots, ir_plain_pots, ir_upper_pots, ir__law_pool, ir__law_mix, ir__law_draw, ir__law_pick, ir__law_whole, ir__law_same, ir__law_amount, ir__law_purses, ir__law_bars, ir__law_coins, ir_law]
def T (f : Nat) : Option Fn := fns[f]?
def cns : List (Option D) := []
def gl (x : Nat) : Option D := cns.getD x none
abbrev f_pots : Nat := 0
abbrev f_plain_pots : Nat := 1
abbrev f_upper_pots : Nat := 2
abbrev f__law_pool : Nat := 3
abbrev f__law_mix : Nat := 4
abbrev f__law_draw : Nat := 5
abbrev f__law_pick : Nat := 6
abbrev f__law_whole : Nat := 7
abbrev f__law_same : Nat := 8
abbrev f__law_amount : Nat := 9
abbrev f__law_purses : Nat := 10
abbrev f__law_bars : Nat := 11
abbrev f__law_coins : Nat := 12
abbrev f_law : Nat := 13
def topS (i : Nat) : Stmt := PySem.Challenge.pw_pensionhall_k54_pots_of_ranks.main.body.getD i (.Pass ⟨0, 0, 0, 0⟩)
def nmF : Nat → Option Str
  | 0 => some "pots"
  | 1 => some "plain_pots"
  | 2 => some "upper_pots"
  | 3 => some "_law_pool"
  | 4 => some "_law_mix"
  | 5 => some "_law_draw"
  | 6 => some "_law_pick"
  | 7 => some "_law_whole"
  | 8 => some "_law_same"
  | 9 => some "_law_amount"
  | 10 => some "_law_purses"
  | 11 => some "_law_bars"
  | 12 => some "_law_coins"
  | 13 => some "law"
  | _ => none
def nmG : Nat → Option Str
  | _ => none
def nm : Nm := ⟨[], nmF, nmG, [], []⟩
abbrev lawSp (K : PySem.W.Frag) (G : List D → Res (D × List D)) : Sp := DSp K (ERx K) ⟨[false], true⟩ G
def clsB : Stmt → List Stmt
  | .ClassDef _ _ _ body _ _ _ _ _ _ _ => body
  | _ => []
abbrev st_pots : Stmt := topS 1
abbrev N_pots : List Str := ["opens", "reserves", "coins", "frozen", "left", "found", "open_coins", "reserved", "is_frozen", "pot"]
theorem sc_pots : FnScope N_pots ["opens", "reserves", "coins", "frozen"] (defScope st_pots) := ⟨rfl, rfl, rfl, by decide +kernel, rfl, by decide +kernel, by decide +kernel⟩
theorem ck_pots : chkSs { nm with N := N_pots } (defScope st_pots) ir_pots.body (defBody st_pots) = true := by decide +kernel
theorem dok_pots {K : PySem.W.Frag} {mg : Str → Option Value} {a : Addr} {oc : Value} {od an : Option Addr} {osl : Array (Option Value)} {kV doc pm cdv ct : Value} (l : K.lookup a = some ⟨oc, od, .func (PySem.W.fnOf "pots" "pots" (defArgs st_pots) (defBody st_pots) (defScope st_pots) .none kV doc pm an cdv ct), osl⟩)
    (c : PySem.W.codeIn K cdv "pots" = true) (k : PySem.W.keepIn K (.ref a) = true) (g : mg "pots" = some (.ref a)) : DefOk K mg nm ir_pots "pots" "pots" st_pots a (PySem.W.fnOf "pots" "pots" (defArgs st_pots) (defBody st_pots) (defScope st_pots) .none kV doc pm an cdv ct) N_pots ["opens", "reserves", "coins", "frozen"] :=
  ⟨fun_mk l c k, sc_pots, (fun_mk l c k).binds (ps := ["opens", "reserves", "coins", "frozen"]) fun _ _ _ _ _ _ us hl => match us, hl with | [_, _, _, _], _ => rfl, g, ck_pots, rfl, rfl, by decide, by decide⟩
abbrev st_plain_pots : Stmt := topS 2
abbrev N_plain_pots : List Str := ["opens", "coins", "frozen"]
theorem sc_plain_pots : FnScope N_plain_pots ["opens", "coins", "frozen"] (defScope st_plain_pots) := ⟨rfl, rfl, rfl, by decide +kernel, rfl, by decide +kernel, by decide +kernel⟩
theorem ck_plain_pots : chkSs { nm with N := N_plain_pots } (defScope st_plain_pots) ir_plain_pots.body (defBody st_plain_pots) = true := by decide +kernel
theorem dok_plain_pots {K : PySem.W.Frag} {mg : Str → Option Value} {a : Addr} {oc : Value} {od an : Option Addr} {osl : Array (Option Value)} {kV doc pm cdv ct : Value} (l : K.lookup a = some ⟨oc, od, .func (PySem.W.fnOf "plain_pots" "plain_pots" (defArgs st_plain_pots) (defBody st_plain_pots) (defScope st_plain_pots) .none kV doc pm an cdv ct), osl⟩)
    (c : PySem.W.codeIn K cdv "plain_pots" = true) (k : PySem.W.keepIn K (.ref a) = true) (g : mg "plain_pots" = some (.ref a)) : DefOk K mg nm ir_plain_pots "plain_pots" "plain_pots" st_plain_pots a (PySem.W.fnOf "plain_pots" "plain_pots" (defArgs st_plain_pots) (defBody st_plain_pots) (defScope st_plain_pots) .none kV doc pm an cdv ct) N_plain_pots ["opens", "coins", "frozen"] :=
  ⟨fun_mk l c k, sc_plain_pots, (fun_mk l c k).binds (ps := ["opens", "coins", "frozen"]) fun _ _ _ _ _ _ us hl => match us, hl with | [_, _, _], _ => rfl, g, ck_plain_pots, rfl, rfl, by decide, by decide⟩
abbrev st_upper_pots : Stmt := topS 3
abbrev N_upper_pots : List Str := ["opens", "coins", "frozen", "upto", "upper"]
theorem sc_upper_pots : FnScope N_upper_pots ["opens", "coins", "frozen", "upto"] (defScope st_upper_pots) := ⟨rfl, rfl, rfl, by decide +kernel, rfl, by decide +kernel, by decide +kernel⟩
theorem ck_upper_pots : chkSs { nm with N := N_upper_pots } (defScope st_upper_pots) ir_upper_pots.body (defBody st_upper_pots) = true := by decide +kernel
theorem dok_upper_pots {K : PySem.W.Frag} {mg : Str → Option Value} {a : Addr} {oc : Value} {od an : Option Addr} {osl : Array (Option Value)} {kV doc pm cdv ct : Value} (l : K.lookup a = some ⟨oc, od, .func (PySem.W.fnOf "upper_pots" "upper_pots" (defArgs st_upper_pots) (defBody st_upper_pots) (defScope st_upper_pots) .none kV doc pm an cdv ct), osl⟩)
    (c : PySem.W.codeIn K cdv "upper_pots" = true) (k : PySem.W.keepIn K (.ref a) = true) (g : mg "upper_pots" = some (.ref a)) : DefOk K mg nm ir_upper_pots "upper_pots" "upper_pots" st_upper_pots a (PySem.W.fnOf "upper_pots" "upper_pots" (defArgs st_upper_pots) (defBody st_upper_pots) (defScope st_upper_pots) .none kV doc pm an cdv ct) N_upper_pots ["opens", "coins", "frozen", "upto"] :=
  ⟨fun_mk l c k, sc_upper_pots, (fun_mk l c k).binds (ps := ["opens", "coins", "frozen", "upto"]) fun _ _ _ _ _ _ us hl => match us, hl with | [_, _, _, _], _ => rfl, g, ck_upper_pots, rfl, rfl, by decide, by decide⟩
abbrev st__law_pool : Stmt := topS 5
abbrev N__law_pool : List Str := ["script", "at", "salt", "cell", "rest"]
theorem sc__law_pool : FnScope N__law_pool ["script", "at", "salt"] (defScope st__law_pool) := ⟨rfl, rfl, rfl, by decide +kernel, rfl, by decide +kernel, by decide +kernel⟩
theorem ck__law_pool : chkSs { nm with N := N__law_pool } (defScope st__law_pool) ir__law_pool.body (defBody st__law_pool) = true := by decide +kernel
theorem dok__law_pool {K : PySem.W.Frag} {mg : Str → Option Value} {a : Addr} {oc : Value} {od an : Option Addr} {osl : Array (Option Value)} {kV doc pm cdv ct : Value} (l : K.lookup a = some ⟨oc, od, .func (PySem.W.fnOf "_law_pool" "_law_pool" (defArgs st__law_pool) (defBody st__law_pool) (defScope st__law_pool) .none kV doc pm an cdv ct), osl⟩)
    (c : PySem.W.codeIn K cdv "_law_pool" = true) (k : PySem.W.keepIn K (.ref a) = true) (g : mg "_law_pool" = some (.ref a)) : DefOk K mg nm ir__law_pool "_law_pool" "_law_pool" st__law_pool a (PySem.W.fnOf "_law_pool" "_law_pool" (defArgs st__law_pool) (defBody st__law_pool) (defScope st__law_pool) .none kV doc pm an cdv ct) N__law_pool ["script", "at", "salt"] :=
  ⟨fun_mk l c k, sc__law_pool, (fun_mk l c k).binds (ps := ["script", "at", "salt"]) fun _ _ _ _ _ _ us hl => match us, hl with | [_, _, _], _ => rfl, g, ck__law_pool, rfl, rfl, by decide, by decide⟩
abbrev st__law_mix : Stmt := topS 6
abbrev N__law_mix : List Str := ["seed", "turn", "one", "two", "three"]
theorem sc__law_mix : FnScope N__law_mix ["seed", "turn"] (defScope st__law_mix) := ⟨rfl, rfl, rfl, by decide +kernel, rfl, by decide +kernel, by decide +kernel⟩
theorem ck__law_mix : chkSs { nm with N := N__law_mix } (defScope st__law_mix) ir__law_mix.body (defBody st__law_mix) = true := by decide +kernel
theorem dok__law_mix {K : PySem.W.Frag} {mg : Str → Option Value} {a : Addr} {oc : Value} {od an : Option Addr} {osl : Array (Option Value)} {kV doc pm cdv ct : Value} (l : K.lookup a = some ⟨oc, od, .func (PySem.W.fnOf "_law_mix" "_law_mix" (defArgs st__law_mix) (defBody st__law_mix) (defScope st__law_mix) .none kV doc pm an cdv ct), osl⟩)
    (c : PySem.W.codeIn K cdv "_law_mix" = true) (k : PySem.W.keepIn K (.ref a) = true) (g : mg "_law_mix" = some (.ref a)) : DefOk K mg nm ir__law_mix "_law_mix" "_law_mix" st__law_mix a (PySem.W.fnOf "_law_mix" "_law_mix" (defArgs st__law_mix) (defBody st__law_mix) (defScope st__law_mix) .none kV doc pm an cdv ct) N__law_mix ["seed", "turn"] :=
  ⟨fun_mk l c k, sc__law_mix, (fun_mk l c k).binds (ps := ["seed", "turn"]) fun _ _ _ _ _ _ us hl => match us, hl with | [_, _], _ => rfl, g, ck__law_mix, rfl, rfl, by decide, by decide⟩
abbrev st__law_draw : Stmt := topS 7
abbrev N__law_draw : List Str := ["pool", "many", "value"]
theorem sc__law_draw : FnScope N__law_draw ["pool", "many"] (defScope st__law_draw) := ⟨rfl, rfl, rfl, by decide +kernel, rfl, by decide +kernel, by decide +kernel⟩
theorem ck__law_draw : chkSs { nm with N := N__law_draw } (defScope st__law_draw) ir__law_draw.body (defBody st__law_draw) = true := by decide +kernel
theorem dok__law_draw {K : PySem.W.Frag} {mg : Str → Option Value} {a : Addr} {oc : Value} {od an : Option Addr} {osl : Array (Option Value)} {kV doc pm cdv ct : Value} (l : K.lookup a = some ⟨oc, od, .func (PySem.W.fnOf "_law_draw" "_law_draw" (defArgs st__law_draw) (defBody st__law_draw) (defScope st__law_draw) .none kV doc pm an cdv ct), osl⟩)
    (c : PySem.W.codeIn K cdv "_law_draw" = true) (k : PySem.W.keepIn K (.ref a) = true) (g : mg "_law_draw" = some (.ref a)) : DefOk K mg nm ir__law_draw "_law_draw" "_law_draw" st__law_draw a (PySem.W.fnOf "_law_draw" "_law_draw" (defArgs st__law_draw) (defBody st__law_draw) (defScope st__law_draw) .none kV doc pm an cdv ct) N__law_draw ["pool", "many"] :=
  ⟨fun_mk l c k, sc__law_draw, (fun_mk l c k).binds (ps := ["pool", "many"]) fun _ _ _ _ _ _ us hl => match us, hl with | [_, _], _ => rfl, g, ck__law_draw, rfl, rfl, by decide, by decide⟩
abbrev st__law_pick : Stmt := topS 8
abbrev N__law_pick : List Str := ["pool", "row"]
theorem sc__law_pick : FnScope N__law_pick ["pool", "row"] (defScope st__law_pick) := ⟨rfl, rfl, rfl, by decide +kernel, rfl, by decide +kernel, by decide +kernel⟩
theorem ck__law_pick : chkSs { nm with N := N__law_pick } (defScope st__law_pick) ir__law_pick.body (defBody st__law_pick) = true := by decide +kernel
theorem dok__law_pick {K : PySem.W.Frag} {mg : Str → Option Value} {a : Addr} {oc : Value} {od an : Option Addr} {osl : Array (Option Value)} {kV doc pm cdv ct : Value} (l : K.lookup a = some ⟨oc, od, .func (PySem.W.fnOf "_law_pick" "_law_pick" (defArgs st__law_pick) (defBody st__law_pick) (defScope st__law_pick) .none kV doc pm an cdv ct), osl⟩)
    (c : PySem.W.codeIn K cdv "_law_pick" = true) (k : PySem.W.keepIn K (.ref a) = true) (g : mg "_law_pick" = some (.ref a)) : DefOk K mg nm ir__law_pick "_law_pick" "_law_pick" st__law_pick a (PySem.W.fnOf "_law_pick" "_law_pick" (defArgs st__law_pick) (defBody st__law_pick) (defScope st__law_pick) .none kV doc pm an cdv ct) N__law_pick ["pool", "row"] :=
  ⟨fun_mk l c k, sc__law_pick, (fun_mk l c k).binds (ps := ["pool", "row"]) fun _ _ _ _ _ _ us hl => match us, hl with | [_, _], _ => rfl, g, ck__law_pick, rfl, rfl, by decide, by decide⟩
abbrev st__law_whole : Stmt := topS 9
abbrev N__law_whole : List Str := ["thing"]
theorem sc__law_whole : FnScope N__law_whole ["thing"] (defScope st__law_whole) := ⟨rfl, rfl, rfl, by decide +kernel, rfl, by decide +kernel, by decide +kernel⟩
theorem ck__law_whole : chkSs { nm with N := N__law_whole } (defScope st__law_whole) ir__law_whole.body (defBody st__law_whole) = true := by decide +kernel
theorem dok__law_whole {K : PySem.W.Frag} {mg : Str → Option Value} {a : Addr} {oc : Value} {od an : Option Addr} {osl : Array (Option Value)} {kV doc pm cdv ct : Value} (l : K.lookup a = some ⟨oc, od, .func (PySem.W.fnOf "_law_whole" "_law_whole" (defArgs st__law_whole) (defBody st__law_whole) (defScope st__law_whole) .none kV doc pm an cdv ct), osl⟩)
    (c : PySem.W.codeIn K cdv "_law_whole" = true) (k : PySem.W.keepIn K (.ref a) = true) (g : mg "_law_whole" = some (.ref a)) : DefOk K mg nm ir__law_whole "_law_whole" "_law_whole" st__law_whole a (PySem.W.fnOf "_law_whole" "_law_whole" (defArgs st__law_whole) (defBody st__law_whole) (defScope st__law_whole) .none kV doc pm an cdv ct) N__law_whole ["thing"] :=
  ⟨fun_mk l c k, sc__law_whole, (fun_mk l c k).binds (ps := ["thing"]) fun _ _ _ _ _ _ us hl => match us, hl with | [_], _ => rfl, g, ck__law_whole, rfl, rfl, by decide, by decide⟩
abbrev st__law_same : Stmt := topS 10
abbrev N__law_same : List Str := ["told", "due", "keys", "key", "k"]
theorem sc__law_same : FnScope N__law_same ["told", "due"] (defScope st__law_same) := ⟨rfl, rfl, rfl, by decide +kernel, rfl, by decide +kernel, by decide +kernel⟩
theorem ck__law_same : chkSs { nm with N := N__law_same } (defScope st__law_same) ir__law_same.body (defBody st__law_same) = true := by decide +kernel
theorem dok__law_same {K : PySem.W.Frag} {mg : Str → Option Value} {a : Addr} {oc : Value} {od an : Option Addr} {osl : Array (Option Value)} {kV doc pm cdv ct : Value} (l : K.lookup a = some ⟨oc, od, .func (PySem.W.fnOf "_law_same" "_law_same" (defArgs st__law_same) (defBody st__law_same) (defScope st__law_same) .none kV doc pm an cdv ct), osl⟩)
    (c : PySem.W.codeIn K cdv "_law_same" = true) (k : PySem.W.keepIn K (.ref a) = true) (g : mg "_law_same" = some (.ref a)) : DefOk K mg nm ir__law_same "_law_same" "_law_same" st__law_same a (PySem.W.fnOf "_law_same" "_law_same" (defArgs st__law_same) (defBody st__law_same) (defScope st__law_same) .none kV doc pm an cdv ct) N__law_same ["told", "due"] :=
  ⟨fun_mk l c k, sc__law_same, (fun_mk l c k).binds (ps := ["told", "due"]) fun _ _ _ _ _ _ us hl => match us, hl with | [_, _], _ => rfl, g, ck__law_same, rfl, rfl, by decide, by decide⟩
abbrev st__law_amount : Stmt := topS 11
abbrev N__law_amount : List Str := ["pool", "top"]
theorem sc__law_amount : FnScope N__law_amount ["pool", "top"] (defScope st__law_amount) := ⟨rfl, rfl, rfl, by decide +kernel, rfl, by decide +kernel, by decide +kernel⟩
theorem ck__law_amount : chkSs { nm with N := N__law_amount } (defScope st__law_amount) ir__law_amount.body (defBody st__law_amount) = true := by decide +kernel
theorem dok__law_amount {K : PySem.W.Frag} {mg : Str → Option Value} {a : Addr} {oc : Value} {od an : Option Addr} {osl : Array (Option Value)} {kV doc pm cdv ct : Value} (l : K.lookup a = some ⟨oc, od, .func (PySem.W.fnOf "_law_amount" "_law_amount" (defArgs st__law_amount) (defBody st__law_amount) (defScope st__law_amount) .none kV doc pm an cdv ct), osl⟩)
    (c : PySem.W.codeIn K cdv "_law_amount" = true) (k : PySem.W.keepIn K (.ref a) = true) (g : mg "_law_amount" = some (.ref a)) : DefOk K mg nm ir__law_amount "_law_amount" "_law_amount" st__law_amount a (PySem.W.fnOf "_law_amount" "_law_amount" (defArgs st__law_amount) (defBody st__law_amount) (defScope st__law_amount) .none kV doc pm an cdv ct) N__law_amount ["pool", "top"] :=
  ⟨fun_mk l c k, sc__law_amount, (fun_mk l c k).binds (ps := ["pool", "top"]) fun _ _ _ _ _ _ us hl => match us, hl with | [_, _], _ => rfl, g, ck__law_amount, rfl, rfl, by decide, by decide⟩
abbrev st__law_purses : Stmt := topS 12
abbrev N__law_purses : List Str := ["opens", "reserves", "coins", "frozen", "upto", "left", "told", "k", "part"]
theorem sc__law_purses : FnScope N__law_purses ["opens", "reserves", "coins", "frozen", "upto"] (defScope st__law_purses) := ⟨rfl, rfl, rfl, by decide +kernel, rfl, by decide +kernel, by decide +kernel⟩
theorem ck__law_purses : chkSs { nm with N := N__law_purses } (defScope st__law_purses) ir__law_purses.body (defBody st__law_purses) = true := by decide +kernel
theorem dok__law_purses {K : PySem.W.Frag} {mg : Str → Option Value} {a : Addr} {oc : Value} {od an : Option Addr} {osl : Array (Option Value)} {kV doc pm cdv ct : Value} (l : K.lookup a = some ⟨oc, od, .func (PySem.W.fnOf "_law_purses" "_law_purses" (defArgs st__law_purses) (defBody st__law_purses) (defScope st__law_purses) .none kV doc pm an cdv ct), osl⟩)
    (c : PySem.W.codeIn K cdv "_law_purses" = true) (k : PySem.W.keepIn K (.ref a) = true) (g : mg "_law_purses" = some (.ref a)) : DefOk K mg nm ir__law_purses "_law_purses" "_law_purses" st__law_purses a (PySem.W.fnOf "_law_purses" "_law_purses" (defArgs st__law_purses) (defBody st__law_purses) (defScope st__law_purses) .none kV doc pm an cdv ct) N__law_purses ["opens", "reserves", "coins", "frozen", "upto"] :=
  ⟨fun_mk l c k, sc__law_purses, (fun_mk l c k).binds (ps := ["opens", "reserves", "coins", "frozen", "upto"]) fun _ _ _ _ _ _ us hl => match us, hl with | [_, _, _, _, _], _ => rfl, g, ck__law_purses, rfl, rfl, by decide, by decide⟩
abbrev st__law_bars : Stmt := topS 13
abbrev N__law_bars : List Str := ["opens", "reserves", "frozen", "told", "k"]
theorem sc__law_bars : FnScope N__law_bars ["opens", "reserves", "frozen", "told"] (defScope st__law_bars) := ⟨rfl, rfl, rfl, by decide +kernel, rfl, by decide +kernel, by decide +kernel⟩
theorem ck__law_bars : chkSs { nm with N := N__law_bars } (defScope st__law_bars) ir__law_bars.body (defBody st__law_bars) = true := by decide +kernel
theorem dok__law_bars {K : PySem.W.Frag} {mg : Str → Option Value} {a : Addr} {oc : Value} {od an : Option Addr} {osl : Array (Option Value)} {kV doc pm cdv ct : Value} (l : K.lookup a = some ⟨oc, od, .func (PySem.W.fnOf "_law_bars" "_law_bars" (defArgs st__law_bars) (defBody st__law_bars) (defScope st__law_bars) .none kV doc pm an cdv ct), osl⟩)
    (c : PySem.W.codeIn K cdv "_law_bars" = true) (k : PySem.W.keepIn K (.ref a) = true) (g : mg "_law_bars" = some (.ref a)) : DefOk K mg nm ir__law_bars "_law_bars" "_law_bars" st__law_bars a (PySem.W.fnOf "_law_bars" "_law_bars" (defArgs st__law_bars) (defBody st__law_bars) (defScope st__law_bars) .none kV doc pm an cdv ct) N__law_bars ["opens", "reserves", "frozen", "told"] :=
  ⟨fun_mk l c k, sc__law_bars, (fun_mk l c k).binds (ps := ["opens", "reserves", "frozen", "told"]) fun _ _ _ _ _ _ us hl => match us, hl with | [_, _, _, _], _ => rfl, g, ck__law_bars, rfl, rfl, by decide, by decide⟩
abbrev st__law_coins : Stmt := topS 14
abbrev N__law_coins : List Str := ["pool", "opens", "reserves", "total", "first", "near"]
theorem sc__law_coins : FnScope N__law_coins ["pool", "opens", "reserves"] (defScope st__law_coins) := ⟨rfl, rfl, rfl, by decide +kernel, rfl, by decide +kernel, by decide +kernel⟩
theorem ck__law_coins : chkSs { nm with N := N__law_coins } (defScope st__law_coins) ir__law_coins.body (defBody st__law_coins) = true := by decide +kernel
theorem dok__law_coins {K : PySem.W.Frag} {mg : Str → Option Value} {a : Addr} {oc : Value} {od an : Option Addr} {osl : Array (Option Value)} {kV doc pm cdv ct : Value} (l : K.lookup a = some ⟨oc, od, .func (PySem.W.fnOf "_law_coins" "_law_coins" (defArgs st__law_coins) (defBody st__law_coins) (defScope st__law_coins) .none kV doc pm an cdv ct), osl⟩)
    (c : PySem.W.codeIn K cdv "_law_coins" = true) (k : PySem.W.keepIn K (.ref a) = true) (g : mg "_law_coins" = some (.ref a)) : DefOk K mg nm ir__law_coins "_law_coins" "_law_coins" st__law_coins a (PySem.W.fnOf "_law_coins" "_law_coins" (defArgs st__law_coins) (defBody st__law_coins) (defScope st__law_coins) .none kV doc pm an cdv ct) N__law_coins ["pool", "opens", "reserves"] :=
  ⟨fun_mk l c k, sc__law_coins, (fun_mk l c k).binds (ps := ["pool", "opens", "reserves"]) fun _ _ _ _ _ _ us hl => match us, hl with | [_, _, _], _ => rfl, g, ck__law_coins, rfl, rfl, by decide, by decide⟩
abbrev st_law : Stmt := topS 15
abbrev N_law : List Str := ["script", "pool", "grades", "top", "rise", "loose", "opens", "k", "reserves", "step", "frozen", "turn", "coins", "upto", "due", "plain", "upper", "handed", "told"]
theorem sc_law : FnScope N_law ["script"] (defScope st_law) := ⟨rfl, rfl, rfl, by decide +kernel, rfl, by decide +kernel, by decide +kernel⟩
theorem ck_law : chkSs { nm with N := N_law } (defScope st_law) ir_law.body (defBody st_law) = true := by decide +kernel
theorem dok_law {K : PySem.W.Frag} {mg : Str → Option Value} {a : Addr} {oc : Value} {od an : Option Addr} {osl : Array (Option Value)} {kV doc pm cdv ct : Value} (l : K.lookup a = some ⟨oc, od, .func (PySem.W.fnOf "law" "law" (defArgs st_law) (defBody st_law) (defScope st_law) .none kV doc pm an cdv ct), osl⟩)
    (c : PySem.W.codeIn K cdv "law" = true) (k : PySem.W.keepIn K (.ref a) = true) (g : mg "law" = some (.ref a)) : DefOk K mg nm ir_law "law" "law" st_law a (PySem.W.fnOf "law" "law" (defArgs st_law) (defBody st_law) (defScope st_law) .none kV doc pm an cdv ct) N_law ["script"] :=
  ⟨fun_mk l c k, sc_law, (fun_mk l c k).binds (ps := ["script"]) fun _ _ _ _ _ _ us hl => match us, hl with | [_], _ => rfl, g, ck_law, rfl, rfl, by decide, by decide⟩
def depth : Nat := 12
theorem all_mk {l : PySem.W.OpenLaw} {w : World} {K : PySem.W.Frag} {h : Heap} {mg : Str → Option Value} {fa : Addr} (X : K.In h) (G : h.Ns mainGlobals mg) (hfa : mg "law" = some (.ref fa))
    {f0 : Addr} {od0 an0 : Option Addr} {sl0 : Array (Option Value)} {oc0 kV0 dc0 pm0 cd0 ct0 : Value}
    {f1 : Addr} {od1 an1 : Option Addr} {sl1 : Array (Option Value)} {oc1 kV1 dc1 pm1 cd1 ct1 : Value}
    {f2 : Addr} {od2 an2 : Option Addr} {sl2 : Array (Option Value)} {oc2 kV2 dc2 pm2 cd2 ct2 : Value}
    {f3 : Addr} {od3 an3 : Option Addr} {sl3 : Array (Option Value)} {oc3 kV3 dc3 pm3 cd3 ct3 : Value}
    {f4 : Addr} {od4 an4 : Option Addr} {sl4 : Array (Option Value)} {oc4 kV4 dc4 pm4 cd4 ct4 : Value}
    {f5 : Addr} {od5 an5 : Option Addr} {sl5 : Array (Option Value)} {oc5 kV5 dc5 pm5 cd5 ct5 : Value}
    {f6 : Addr} {od6 an6 : Option Addr} {sl6 : Array (Option Value)} {oc6 kV6 dc6 pm6 cd6 ct6 : Value}
    {f7 : Addr} {od7 an7 : Option Addr} {sl7 : Array (Option Value)} {oc7 kV7 dc7 pm7 cd7 ct7 : Value}
    {f8 : Addr} {od8 an8 : Option Addr} {sl8 : Array (Option Value)} {oc8 kV8 dc8 pm8 cd8 ct8 : Value}
    {f9 : Addr} {od9 an9 : Option Addr} {sl9 : Array (Option Value)} {oc9 kV9 dc9 pm9 cd9 ct9 : Value}
    {f10 : Addr} {od10 an10 : Option Addr} {sl10 : Array (Option Value)} {oc10 kV10 dc10 pm10 cd10 ct10 : Value}
    {f11 : Addr} {od11 an11 : Option Addr} {sl11 : Array (Option Value)} {oc11 kV11 dc11 pm11 cd11 ct11 : Value}
    {f12 : Addr} {od12 an12 : Option Addr} {sl12 : Array (Option Value)} {oc12 kV12 dc12 pm12 cd12 ct12 : Value}
    {f13 : Addr} {od13 an13 : Option Addr} {sl13 : Array (Option Value)} {oc13 kV13 dc13 pm13 cd13 ct13 : Value}
    (a0 : PySem.W.nsIn K mainGlobals "pots" = some (some (.ref f0))) (l0 : K.lookup f0 = some ⟨oc0, od0, .func (PySem.W.fnOf "pots" "pots" (defArgs st_pots) (defBody st_pots) (defScope st_pots) .none kV0 dc0 pm0 an0 cd0 ct0), sl0⟩) (c0 : PySem.W.codeIn K cd0 "pots" = true) (k0 : PySem.W.keepIn K (.ref f0) = true)
    (a1 : PySem.W.nsIn K mainGlobals "plain_pots" = some (some (.ref f1))) (l1 : K.lookup f1 = some ⟨oc1, od1, .func (PySem.W.fnOf "plain_pots" "plain_pots" (defArgs st_plain_pots) (defBody st_plain_pots) (defScope st_plain_pots) .none kV1 dc1 pm1 an1 cd1 ct1), sl1⟩) (c1 : PySem.W.codeIn K cd1 "plain_pots" = true) (k1 : PySem.W.keepIn K (.ref f1) = true)
    (a2 : PySem.W.nsIn K mainGlobals "upper_pots" = some (some (.ref f2))) (l2 : K.lookup f2 = some ⟨oc2, od2, .func (PySem.W.fnOf "upper_pots" "upper_pots" (defArgs st_upper_pots) (defBody st_upper_pots) (defScope st_upper_pots) .none kV2 dc2 pm2 an2 cd2 ct2), sl2⟩) (c2 : PySem.W.codeIn K cd2 "upper_pots" = true) (k2 : PySem.W.keepIn K (.ref f2) = true)
    (a3 : PySem.W.nsIn K mainGlobals "_law_pool" = some (some (.ref f3))) (l3 : K.lookup f3 = some ⟨oc3, od3, .func (PySem.W.fnOf "_law_pool" "_law_pool" (defArgs st__law_pool) (defBody st__law_pool) (defScope st__law_pool) .none kV3 dc3 pm3 an3 cd3 ct3), sl3⟩) (c3 : PySem.W.codeIn K cd3 "_law_pool" = true) (k3 : PySem.W.keepIn K (.ref f3) = true)
    (a4 : PySem.W.nsIn K mainGlobals "_law_mix" = some (some (.ref f4))) (l4 : K.lookup f4 = some ⟨oc4, od4, .func (PySem.W.fnOf "_law_mix" "_law_mix" (defArgs st__law_mix) (defBody st__law_mix) (defScope st__law_mix) .none kV4 dc4 pm4 an4 cd4 ct4), sl4⟩) (c4 : PySem.W.codeIn K cd4 "_law_mix" = true) (k4 : PySem.W.keepIn K (.ref f4) = true)
    (a5 : PySem.W.nsIn K mainGlobals "_law_draw" = some (some (.ref f5))) (l5 : K.lookup f5 = some ⟨oc5, od5, .func (PySem.W.fnOf "_law_draw" "_law_draw" (defArgs st__law_draw) (defBody st__law_draw) (defScope st__law_draw) .none kV5 dc5 pm5 an5 cd5 ct5), sl5⟩) (c5 : PySem.W.codeIn K cd5 "_law_draw" = true) (k5 : PySem.W.keepIn K (.ref f5) = true)
    (a6 : PySem.W.nsIn K mainGlobals "_law_pick" = some (some (.ref f6))) (l6 : K.lookup f6 = some ⟨oc6, od6, .func (PySem.W.fnOf "_law_pick" "_law_pick" (defArgs st__law_pick) (defBody st__law_pick) (defScope st__law_pick) .none kV6 dc6 pm6 an6 cd6 ct6), sl6⟩) (c6 : PySem.W.codeIn K cd6 "_law_pick" = true) (k6 : PySem.W.keepIn K (.ref f6) = true)
    (a7 : PySem.W.nsIn K mainGlobals "_law_whole" = some (some (.ref f7))) (l7 : K.lookup f7 = some ⟨oc7, od7, .func (PySem.W.fnOf "_law_whole" "_law_whole" (defArgs st__law_whole) (defBody st__law_whole) (defScope st__law_whole) .none kV7 dc7 pm7 an7 cd7 ct7), sl7⟩) (c7 : PySem.W.codeIn K cd7 "_law_whole" = true) (k7 : PySem.W.keepIn K (.ref f7) = true)
    (a8 : PySem.W.nsIn K mainGlobals "_law_same" = some (some (.ref f8))) (l8 : K.lookup f8 = some ⟨oc8, od8, .func (PySem.W.fnOf "_law_same" "_law_same" (defArgs st__law_same) (defBody st__law_same) (defScope st__law_same) .none kV8 dc8 pm8 an8 cd8 ct8), sl8⟩) (c8 : PySem.W.codeIn K cd8 "_law_same" = true) (k8 : PySem.W.keepIn K (.ref f8) = true)
    (a9 : PySem.W.nsIn K mainGlobals "_law_amount" = some (some (.ref f9))) (l9 : K.lookup f9 = some ⟨oc9, od9, .func (PySem.W.fnOf "_law_amount" "_law_amount" (defArgs st__law_amount) (defBody st__law_amount) (defScope st__law_amount) .none kV9 dc9 pm9 an9 cd9 ct9), sl9⟩) (c9 : PySem.W.codeIn K cd9 "_law_amount" = true) (k9 : PySem.W.keepIn K (.ref f9) = true)
    (a10 : PySem.W.nsIn K mainGlobals "_law_purses" = some (some (.ref f10))) (l10 : K.lookup f10 = some ⟨oc10, od10, .func (PySem.W.fnOf "_law_purses" "_law_purses" (defArgs st__law_purses) (defBody st__law_purses) (defScope st__law_purses) .none kV10 dc10 pm10 an10 cd10 ct10), sl10⟩) (c10 : PySem.W.codeIn K cd10 "_law_purses" = true) (k10 : PySem.W.keepIn K (.ref f10) = true)
    (a11 : PySem.W.nsIn K mainGlobals "_law_bars" = some (some (.ref f11))) (l11 : K.lookup f11 = some ⟨oc11, od11, .func (PySem.W.fnOf "_law_bars" "_law_bars" (defArgs st__law_bars) (defBody st__law_bars) (defScope st__law_bars) .none kV11 dc11 pm11 an11 cd11 ct11), sl11⟩) (c11 : PySem.W.codeIn K cd11 "_law_bars" = true) (k11 : PySem.W.keepIn K (.ref f11) = true)
    (a12 : PySem.W.nsIn K mainGlobals "_law_coins" = some (some (.ref f12))) (l12 : K.lookup f12 = some ⟨oc12, od12, .func (PySem.W.fnOf "_law_coins" "_law_coins" (defArgs st__law_coins) (defBody st__law_coins) (defScope st__law_coins) .none kV12 dc12 pm12 an12 cd12 ct12), sl12⟩) (c12 : PySem.W.codeIn K cd12 "_law_coins" = true) (k12 : PySem.W.keepIn K (.ref f12) = true)
    (a13 : PySem.W.nsIn K mainGlobals "law" = some (some (.ref f13))) (l13 : K.lookup f13 = some ⟨oc13, od13, .func (PySem.W.fnOf "law" "law" (defArgs st_law) (defBody st_law) (defScope st_law) .none kV13 dc13 pm13 an13 cd13 ct13), sl13⟩) (c13 : PySem.W.codeIn K cd13 "law" = true) (k13 : PySem.W.keepIn K (.ref f13) = true)
    (z0 : PySem.W.nsIn K mainGlobals "len" = some none)
    (z1 : PySem.W.nsIn K mainGlobals "abs" = some none)
    (z2 : PySem.W.nsIn K mainGlobals "int" = some none)
    (z3 : PySem.W.nsIn K mainGlobals "max" = some none)
    (z4 : PySem.W.nsIn K mainGlobals "min" = some none)
    (z5 : PySem.W.nsIn K mainGlobals "sum" = some none)
    (z6 : PySem.W.nsIn K mainGlobals "list" = some none)
    (z7 : PySem.W.nsIn K mainGlobals "tuple" = some none)
    (z8 : PySem.W.nsIn K mainGlobals "sorted" = some none)
    (z9 : PySem.W.nsIn K mainGlobals "isinstance" = some none)
    (z10 : PySem.W.nsIn K mainGlobals "range" = some none)
    (z11 : PySem.W.nsIn K mainGlobals "enumerate" = some none)
    (z12 : PySem.W.nsIn K mainGlobals "zip" = some none)
    (z13 : PySem.W.nsIn K mainGlobals "bool" = some none)
    (z14 : PySem.W.nsIn K mainGlobals "str" = some none)
    (z15 : PySem.W.nsIn K mainGlobals "ValueError" = some none)
    (z16 : PySem.W.nsIn K mainGlobals "dict" = some none)
    : ∃ fd : FuncData, (∀ (s : Shared) (v : Value), BindsTo s fd ⟨[v], []⟩ [("script", v)]) ∧ ∀ base : Heap, K.In base → base.Ns mainGlobals mg → FnOk l.prog w K mg base (L2.CX l.prog w) (depth + 2) fa fd ["script"] (DSp K (ERx K) ⟨[false], true⟩ (exec T gl depth f_law)) := by
  have hb : ∀ x ∈ bltNames, mg x = none := fun x hx => by
    unfold bltNames at hx
    simp only [List.mem_cons, List.not_mem_nil, or_false] at hx
    rcases hx with rfl | rfl | rfl | rfl | rfl | rfl | rfl | rfl | rfl | rfl | rfl | rfl | rfl | rfl | rfl | rfl | rfl
    · exact PySem.W.mg_none_of X G z0
    · exact PySem.W.mg_none_of X G z1
    · exact PySem.W.mg_none_of X G z2
    · exact PySem.W.mg_none_of X G z3
    · exact PySem.W.mg_none_of X G z4
    · exact PySem.W.mg_none_of X G z5
    · exact PySem.W.mg_none_of X G z6
    · exact PySem.W.mg_none_of X G z7
    · exact PySem.W.mg_none_of X G z8
    · exact PySem.W.mg_none_of X G z9
    · exact PySem.W.mg_none_of X G z10
    · exact PySem.W.mg_none_of X G z11
    · exact PySem.W.mg_none_of X G z12
    · exact PySem.W.mg_none_of X G z13
    · exact PySem.W.mg_none_of X G z14
    · exact PySem.W.mg_none_of X G z15
    · exact PySem.W.mg_none_of X G z16
  have hec : ∀ y ∈ nm.cl, ∃ CY : Addr, mg y = some (.ref CY) ∧ PySem.W.nsIn K mainGlobals y = some (some (.ref CY)) := fun y hy => nomatch hy
  have hrz : ∀ x f, (x, f) ∈ nm.rz → ∃ C, RzK K mg x f C := fun x f h => by
    exact nomatch h
  have hd : ∀ f x, nm.fn f = some x → ∃ (fn : Fn) (qual : Str) (st : Stmt) (N : List Str), T f = some fn ∧ DefOk K mg nm fn x qual st ((fun f => match f with | 0 => f0 | 1 => f1 | 2 => f2 | 3 => f3 | 4 => f4 | 5 => f5 | 6 => f6 | 7 => f7 | 8 => f8 | 9 => f9 | 10 => f10 | 11 => f11 | 12 => f12 | 13 => f13 | _ => 0 : Nat → Addr) f) ((fun f => match f with | 0 => PySem.W.fnOf "pots" "pots" (defArgs st_pots) (defBody st_pots) (defScope st_pots) .none kV0 dc0 pm0 an0 cd0 ct0 | 1 => PySem.W.fnOf "plain_pots" "plain_pots" (defArgs st_plain_pots) (defBody st_plain_pots) (defScope st_plain_pots) .none kV1 dc1 pm1 an1 cd1 ct1 | 2 => PySem.W.fnOf "upper_pots" "upper_pots" (defArgs st_upper_pots) (defBody st_upper_pots) (defScope st_upper_pots) .none kV2 dc2 pm2 an2 cd2 ct2 | 3 => PySem.W.fnOf "_law_pool" "_law_pool" (defArgs st__law_pool) (defBody st__law_pool) (defScope st__law_pool) .none kV3 dc3 pm3 an3 cd3 ct3 | 4 => PySem.W.fnOf "_law_mix" "_law_mix" (defArgs st__law_mix) (defBody st__law_mix) (defScope st__law_mix) .none kV4 dc4 pm4 an4 cd4 ct4 | 5 => PySem.W.fnOf "_law_draw" "_law_draw" (defArgs st__law_draw) (defBody st__law_draw) (defScope st__law_draw) .none kV5 dc5 pm5 an5 cd5 ct5 | 6 => PySem.W.fnOf "_law_pick" "_law_pick" (defArgs st__law_pick) (defBody st__law_pick) (defScope st__law_pick) .none kV6 dc6 pm6 an6 cd6 ct6 | 7 => PySem.W.fnOf "_law_whole" "_law_whole" (defArgs st__law_whole) (defBody st__law_whole) (defScope st__law_whole) .none kV7 dc7 pm7 an7 cd7 ct7 | 8 => PySem.W.fnOf "_law_same" "_law_same" (defArgs st__law_same) (defBody st__law_same) (defScope st__law_same) .none kV8 dc8 pm8 an8 cd8 ct8 | 9 => PySem.W.fnOf "_law_amount" "_law_amount" (defArgs st__law_amount) (defBody st__law_amount) (defScope st__law_amount) .none kV9 dc9 pm9 an9 cd9 ct9 | 10 => PySem.W.fnOf "_law_purses" "_law_purses" (defArgs st__law_purses) (defBody st__law_purses) (defScope st__law_purses) .none kV10 dc10 pm10 an10 cd10 ct10 | 11 => PySem.W.fnOf "_law_bars" "_law_bars" (defArgs st__law_bars) (defBody st__law_bars) (defScope st__law_bars) .none kV11 dc11 pm11 an11 cd11 ct11 | 12 => PySem.W.fnOf "_law_coins" "_law_coins" (defArgs st__law_coins) (defBody st__law_coins) (defScope st__law_coins) .none kV12 dc12 pm12 an12 cd12 ct12 | 13 => PySem.W.fnOf "law" "law" (defArgs st_law) (defBody st_law) (defScope st_law) .none kV13 dc13 pm13 an13 cd13 ct13 | _ => PySem.W.fnOf "law" "law" (defArgs st_law) (defBody st_law) (defScope st_law) .none kV13 dc13 pm13 an13 cd13 ct13 : Nat → FuncData) f) N ((fun f => match f with | 0 => ["opens", "reserves", "coins", "frozen"] | 1 => ["opens", "coins", "frozen"] | 2 => ["opens", "coins", "frozen", "upto"] | 3 => ["script", "at", "salt"] | 4 => ["seed", "turn"] | 5 => ["pool", "many"] | 6 => ["pool", "row"] | 7 => ["thing"] | 8 => ["told", "due"] | 9 => ["pool", "top"] | 10 => ["opens", "reserves", "coins", "frozen", "upto"] | 11 => ["opens", "reserves", "frozen", "told"] | 12 => ["pool", "opens", "reserves"] | 13 => ["script"] | _ => [] : Nat → List Str) f) := fun f x h => by
    match f, h with
    | 0, h => cases h; exact ⟨ir_pots, "pots", st_pots, _, rfl, dok_pots l0 c0 k0 (PySem.W.mg_of X G a0)⟩
    | 1, h => cases h; exact ⟨ir_plain_pots, "plain_pots", st_plain_pots, _, rfl, dok_plain_pots l1 c1 k1 (PySem.W.mg_of X G a1)⟩
    | 2, h => cases h; exact ⟨ir_upper_pots, "upper_pots", st_upper_pots, _, rfl, dok_upper_pots l2 c2 k2 (PySem.W.mg_of X G a2)⟩
    | 3, h => cases h; exact ⟨ir__law_pool, "_law_pool", st__law_pool, _, rfl, dok__law_pool l3 c3 k3 (PySem.W.mg_of X G a3)⟩
    | 4, h => cases h; exact ⟨ir__law_mix, "_law_mix", st__law_mix, _, rfl, dok__law_mix l4 c4 k4 (PySem.W.mg_of X G a4)⟩
    | 5, h => cases h; exact ⟨ir__law_draw, "_law_draw", st__law_draw, _, rfl, dok__law_draw l5 c5 k5 (PySem.W.mg_of X G a5)⟩
    | 6, h => cases h; exact ⟨ir__law_pick, "_law_pick", st__law_pick, _, rfl, dok__law_pick l6 c6 k6 (PySem.W.mg_of X G a6)⟩
    | 7, h => cases h; exact ⟨ir__law_whole, "_law_whole", st__law_whole, _, rfl, dok__law_whole l7 c7 k7 (PySem.W.mg_of X G a7)⟩
    | 8, h => cases h; exact ⟨ir__law_same, "_law_same", st__law_same, _, rfl, dok__law_same l8 c8 k8 (PySem.W.mg_of X G a8)⟩
    | 9, h => cases h; exact ⟨ir__law_amount, "_law_amount", st__law_amount, _, rfl, dok__law_amount l9 c9 k9 (PySem.W.mg_of X G a9)⟩
    | 10, h => cases h; exact ⟨ir__law_purses, "_law_purses", st__law_purses, _, rfl, dok__law_purses l10 c10 k10 (PySem.W.mg_of X G a10)⟩
    | 11, h => cases h; exact ⟨ir__law_bars, "_law_bars", st__law_bars, _, rfl, dok__law_bars l11 c11 k11 (PySem.W.mg_of X G a11)⟩
    | 12, h => cases h; exact ⟨ir__law_coins, "_law_coins", st__law_coins, _, rfl, dok__law_coins l12 c12 k12 (PySem.W.mg_of X G a12)⟩
    | 13, h => cases h; exact ⟨ir_law, "law", st_law, _, rfl, dok_law l13 c13 k13 (PySem.W.mg_of X G a13)⟩
    | _ + 14, h => cases h
  have hg : ∀ g x d, nm.gl g = some x → gl g = some d → ∃ (u : Value) (v : V), mg x = some u ∧ RelV v u ∧ ∀ R, Rep K R d v := fun g x d h1 h2 => by
    match g, h1, h2 with
    | _ + 0, h1, h2 => cases h1
  have e : f13 = fa := by have := hfa.symm.trans (PySem.W.mg_of X G a13); cases this; rfl
  rw [← e]
  refine ⟨PySem.W.fnOf "law" "law" (defArgs st_law) (defBody st_law) (defScope st_law) .none kV13 dc13 pm13 an13 cd13 ct13, fun s v => .of_eq rfl, fun base _ _ => ?_⟩
  obtain ⟨fn, qual, st, N, h1, h2, h3⟩ := defs_ok (P := l.prog) (w := w) (base := base) (gl := gl) hec hrz hd hb hg depth f_law "law" rfl
  cases h1
  exact h3
theorem T_pots : T f_pots = some ir_pots := rfl
theorem T_plain_pots : T f_plain_pots = some ir_plain_pots := rfl
theorem T_upper_pots : T f_upper_pots = some ir_upper_pots := rfl
theorem T__law_pool : T f__law_pool = some ir__law_pool := rfl
theorem T__law_mix : T f__law_mix = some ir__law_mix := rfl
theorem T__law_draw : T f__law_draw = some ir__law_draw := rfl
theorem T__law_pick : T f__law_pick = some ir__law_pick := rfl
theorem T__law_whole : T f__law_whole = some ir__law_whole := rfl
theorem T__law_same : T f__law_same = some ir__law_same := rfl
theorem T__law_amount : T f__law_amount = some ir__law_amount := rfl
theorem T__law_purses : T f__law_purses = some ir__law_purses := rfl
theorem T__law_bars : T f__law_bars = some ir__law_bars := rfl
theorem T__law_coins : T f__law_coins = some ir__law_coins := rfl
theorem T_law : T f_law = some ir_law := rfl
def Cn (n : Nat) : Ctx := ⟨fun g => (T g).map (·.mode), exec T gl n, gl⟩
theorem M_pots {n : Nat} : (Cn n).mode 0 = some ⟨[false, false, false, false], true⟩ := id rfl
theorem M_plain_pots {n : Nat} : (Cn n).mode 1 = some ⟨[false, false, false], true⟩ := id rfl
theorem M_upper_pots {n : Nat} : (Cn n).mode 2 = some ⟨[false, false, false, false], true⟩ := id rfl
theorem M__law_pool {n : Nat} : (Cn n).mode 3 = some ⟨[false, false, false], true⟩ := id rfl
theorem M__law_mix {n : Nat} : (Cn n).mode 4 = some ⟨[false, false], true⟩ := id rfl
theorem M__law_draw {n : Nat} : (Cn n).mode 5 = some ⟨[true, false], true⟩ := id rfl
theorem M__law_pick {n : Nat} : (Cn n).mode 6 = some ⟨[true, false], true⟩ := id rfl
theorem M__law_whole {n : Nat} : (Cn n).mode 7 = some ⟨[false], true⟩ := id rfl
theorem M__law_same {n : Nat} : (Cn n).mode 8 = some ⟨[false, false], true⟩ := id rfl
theorem M__law_amount {n : Nat} : (Cn n).mode 9 = some ⟨[true, false], true⟩ := id rfl
theorem M__law_purses {n : Nat} : (Cn n).mode 10 = some ⟨[false, false, false, false, false], true⟩ := id rfl
theorem M__law_bars {n : Nat} : (Cn n).mode 11 = some ⟨[false, false, false, false], true⟩ := id rfl
theorem M__law_coins {n : Nat} : (Cn n).mode 12 = some ⟨[true, false, false], true⟩ := id rfl
theorem M_law {n : Nat} : (Cn n).mode 13 = some ⟨[false], true⟩ := id rfl
theorem cn_call {n f : Nat} {ds : List D} : (Cn n).call f ds = exec T gl n f ds := id rfl
theorem exec_c {n f : Nat} {fn : Fn} {ds : List D} (h : T f = some fn) : exec T gl (n + 1) f ds = runFn (Cn n) fn ds := exec_ h
local macro_rules | `(tactic| walk_at "own") => `(tactic| simp (disch := first | exact okEq_int | assumption | (simp only [imm_int, imm_bl, imm_str, imm_non, imm_scr, imm_tup, imm_lst, immAll_nil, immAll_cons, immAll_map, Bool.and_true, Bool.true_and, Bool.and_self, Bool.and_false, Bool.false_and]; done) | (simp only [imm_tup]; assumption) | (rw [deep_z, imm_tup]; assumption) | (rw [deep_z]; assumption) | (with_unfolding_all exact id rfl) | (simp only [ios_nil, ios_val, ios_io, ios_tmp, arss_nil, arss_z, arss_io, arss_tmp]; with_unfolding_all exact id rfl) | omega | (simp only [List.length_cons, List.length_nil, List.length_map, List.length_append, lim_eq]; omega) | (apply sm_80 <;> omega) | (simp only [all_cons', all_nil', deep_imm, deep_8, imm_int, imm_bl, imm_non, Bool.and_self]; done) | fail) only [M_pots, M_plain_pots, M_upper_pots, M__law_pool, M__law_mix, M__law_draw, M__law_pick, M__law_whole, M__law_same, M__law_amount, M__law_purses, M__law_bars, M__law_coins, M_law, cn_call, ioC_, appP_, gI_, chK5_, cmpI_lt, cmpI_le, cmpI_gt, cmpI_ge, toNat0, toNat2, pow_8, pow_18, pow_9, pow_60, cnd_t, cnd_f, imm_tup, imm_lst, e_int, e_bl, e_str, e_non, e_loc, locK_ok, vw_imm, vw_0, vw_1, vw_8, vw_t0, vw_t8, e_mv, mvK_imm, mvK_0, mvK_1, mvK_8, mvK_t8, mvK_t0, kill_nil, kill_cons, kill1_none, kill1_own, kill1_keep, imm_int, imm_bl, imm_str, imm_non, imm_scr, immAll_nil, immAll_cons, e_glb, glbK_ok, e_op, opK_1, opK_2, opK_3, e_tup, tupK_0, tupK_1, tupK_2, tupK_3, tupK_4, tup2_imm, tup2_own, e_lst, lstK_0, lstK_1, lstK_2, lstK_3, lstK_4, lst2_own, deep_imm, deep_8, all_nil', all_cons', s_nil, s_cons, consK_, consK2_own, consK2_hold, s_io, ioK_, s_tmp, tmpK_, tmpK2_own, e_chain, chK1_, chK2_, chK3_, chK4_, hold_nil, e_and, andK_, e_or, orK_, e_not, notK_, iteK_, e_ite, t_and, t_or, t_not, tnotK_, truK_bl, truK_int, truK_lst, truK_non, t_op, t_chain, t_loc, t_call, t_bl, e_call, callG_, callM_, callA_, callR_ok, callR_exc, callO_, resW_imm, resW_lst, resW_tup, adata_nil, adK_, adata_val, adata_io, adI_8, adata_tmp8, outs_nil, outs_val, outs_io, outs_tmp, r_seq, seqSK_l, seqSK_t, r_rng1, rng1K_, r_rng2, rng2K_, rng2K2_, r_enum, enumK_, r_zip, zipK_, zipK2_, r_zip3, zip3K_, zip3K2_, zip3K3_, e_comp, compK_, compE_t, compB_, compS_, compC_, wipeG_nil, wipeG_cons, backG_nil, backG_cons, back1_none, back1_imm, setTg_one, setTg_tup, setTs_nil, setTs_cons, itm_imm, itm_not, x_nil, x_cons, seqK_nx, seqK_brk, seqK_cont, seqK_ret, x_set, setG_imm, setG_own, x_par, parK_, parK2_, x_setT, setTK_, setTK2_, freeze_nil, setTW_nil, setTW_imm, setTW_own, x_expr, x_ret, x_retN, x_brk, x_cont, x_pass, x_iff, x_for, forK_, forB_, forS_, x_aug, augK_, augK2_, augK3_, x_app, appK_, appK2_, inG_deep, x_six, sixK_, sixK2_, sixK3_, x_raise, o_add, o_addL, o_sub, o_mul, o_rep, o_fdiv, o_mod, o_pow, o_neg, o_lt, o_le, o_gt, o_ge, o_eq, o_ne, o_eqD, o_neD, o_isN_non, o_isN_int, o_isN_bl, o_isN_str, o_isN_lst, o_isN_tup, o_notN_non, o_notN_int, o_notN_lst, o_notN_tup, o_isB_bl, o_isB_non, o_isB_int, o_isB_str, o_isB_lst, o_isB_tup, o_isi, ty_ii, ty_ib, ty_il, ty_it, ty_is, ty_bi, ty_bb, ty_si, ty_ss, ty_sl, ty_st, ty_ll, ty_lt, ty_tl, ty_tt, o_ixL, o_ixT, ixK_imm, ixK_see, o_ixS, ixS_, at_0, at_1, at_2, at_3, o_lenL, o_lenT, o_lenS, o_abs, o_int, o_max2, o_min2, o_sum, sumK_, o_list, o_listT, newL_imm, o_tupT, o_tupL, finK_ret, retK_, finK_nx, nxK_, finK_exc, exits_nil, exits_f, exK_, exits_8, entry_nil, entry_f, entry_t, itm_0, toNat1, toNat3, pow_7, pow_12, pow_13, pow_15, pow_30, freeze_cons, freeze1_, frzK_, frzK_n, x_aix, aixK_, rd_, rdK_, getI_, getIK_, aixG_, aixK2_, aixS_, aixE_, x_sx2, sx2K_, sx2K1_, inn2_, inn2K_, sx2G_, sx2K2_, sx2E_, o_sorted, srtK_, srtK_n, srtI_, pairs_int, intsD_3, intsD_map, b_tt, b_tf, b_ft, b_ff, o_notinT, o_innT, o_ltT, o_slHi, o_slLo, o_slAll, List.getD_cons_zero, List.getD_cons_succ, o_max1I, x_while, o_addD, lstK_5, lstK_6, x_aal, aalK_, isiK_non, isiK_bl, isiK_int, isiK_str, isiK_tup, isiK_lst, isiK_scr, o_isE_BadNumber_BadNumber, o_isE_BadNumber_BadDay, o_isE_BadNumber_NoName, o_isE_BadNumber_Clash, o_isE_BadNumber_Full, o_isE_BadNumber_Refused, o_isE_BadNumber_TooFar, o_isE_BadNumber_TooLarge, o_isE_BadNumber_TooMuch, o_isE_BadNumber_BadLine, o_isE_BadNumber_NoUndo, o_isE_Full_BadNumber, o_isE_Full_BadDay, o_isE_Full_NoName, o_isE_Full_Clash, o_isE_Full_Full, o_isE_Full_Refused, o_isE_Full_TooFar, o_isE_Full_TooLarge, o_isE_Full_TooMuch, o_isE_Full_BadLine, o_isE_Full_NoUndo, o_isE_BadDay_BadNumber, o_isE_BadDay_BadDay, o_isE_BadDay_NoName, o_isE_BadDay_Clash, o_isE_BadDay_Full, o_isE_BadDay_Refused, o_isE_BadDay_TooFar, o_isE_BadDay_TooLarge, o_isE_BadDay_TooMuch, o_isE_BadDay_BadLine, o_isE_BadDay_NoUndo, o_isV, o_fld, pD_l, pD_r, o_notN_exn, o_isN_exn, imm_exn, x_raiseE, raiseK_int, raiseK_str, x_tryE, tryK_ok, tryK_exc, ios_nil, ios_val, ios_io, ios_tmp, setTK_l, setTg_lst, o_addT, o_addS, o_repT1, o_repT, o_rev, o_innL, o_notinL, o_innD, o_notinD, o_ixStr, ixSK_, o_join, joinK_, o_tupM, o_tupV, x_rev, revKS_, x_extend, extP_, extK_, extK2_, ixK_z, vw_z, setTW_z, compL_n, compL_c, noExc_ok, compX_none, compX_imm, rngD_3, kill1_e, callMv_, callV_, callRv_ok, callRv_exc, callOv_, resV_imm, resV_see, retKv_, arss_see, imm_dct, o_ixDi, o_ixDs, o_innKi, o_innKs, o_notinKi, o_notinKs, o_lenD, o_dict, newDc_imm, newDc_see, e_get1, get1K_, get1K2_i, get1K2_s, e_get2, get2K_, get2K2_i, get2K2_s, get2K3_, getV_n, getV_i, getV_s, e_dnew, dnewK_0, t_get1, sixK3_di, sixK3_ds, isiK_dct, lstK_7, lstK_8, rngD_4, toNat4, lst2_see, stls_nil, stls_cons, stl_i, stl_s, compX_immk, compX_see, inG_1, compE_f, arss_nil, arss_z, arss_io, arss_tmp, setG_see, o_min1I, o_slTHi, o_slTLo,
  bind_ok, bind_exc, bind_stuck, List.getElem?_cons_zero, List.getElem?_cons_succ, List.set_cons_zero, List.set_cons_succ, List.nil_append, List.cons_append, List.length_cons, List.length_nil, List.length_map, Nat.reduceAdd, Nat.reduceSub, List.replicate_succ, List.replicate_zero, Bool.not_true, Bool.not_false, decide_true, decide_false, *])

/-! the pots: state after i ranks -/
def pmax (a : Int) : Int := if a > 0 then a else 0
def purse (o r left : Int) (f : Bool) : Int := if f then 0 else if pmax (left - r) < o then pmax (left - r) else o
def pst (os rs : List Int) (fs : List Bool) (up : Nat) (c : Int) : Nat → Int × List Int
  | 0 => (c, [])
  | i + 1 => ((pst os rs fs up c i).1 - (if i < up then purse (os.getD i 0) (rs.getD i 0) (pst os rs fs up c i).1 (fs.getD i false) else 0),
      (pst os rs fs up c i).2 ++ [if i < up then purse (os.getD i 0) (rs.getD i 0) (pst os rs fs up c i).1 (fs.getD i false) else 0])
theorem getD_at {xs : List Int} {i : Nat} (h : i < xs.length) : xs[i]? = some (xs.getD i 0) := by
  rw [List.getD_eq_getElem?_getD, List.getElem?_eq_getElem h]; rfl
theorem getD_atB {xs : List Bool} {i : Nat} (h : i < xs.length) : xs[i]? = some (xs.getD i false) := by
  rw [List.getD_eq_getElem?_getD, List.getElem?_eq_getElem h]; rfl
theorem pst_len (os rs : List Int) (fs : List Bool) (up : Nat) (c : Int) : ∀ i, (pst os rs fs up c i).2.length = i
  | 0 => rfl
  | i + 1 => by rw [pst, List.length_append, pst_len os rs fs up c i]; rfl
theorem zip3_getZ : ∀ {xs ys : List Int} {zs : List Bool} {i : Nat} {d : D}, (zipD3 (xs.map .int) (ys.map .int) (zs.map .bl))[i]? = some d → i < xs.length ∧ d = .tup [.int (xs.getD i 0), .int (ys.getD i 0), .bl (zs.getD i false)]
  | [], _, _, _, _, h => by simp [zipD3] at h
  | _ :: _, [], _, _, _, h => by simp [zipD3] at h
  | _ :: _, _ :: _, [], _, _, h => by simp [zipD3] at h
  | x :: xs, y :: ys, z :: zs, 0, d, h => by
    simp only [List.map_cons, zipD3, List.getElem?_cons_zero] at h
    cases h
    exact ⟨by simp, rfl⟩
  | x :: xs, y :: ys, z :: zs, i + 1, d, h => by
    simp only [List.map_cons, zipD3, List.getElem?_cons_succ] at h
    obtain ⟨e1, e2⟩ := zip3_getZ (xs := xs) (ys := ys) (zs := zs) (i := i) h
    exact ⟨by simpa using e1, by rw [e2]; rfl⟩
theorem zip3_lenZ : ∀ {xs ys : List Int} {zs : List Bool}, xs.length = ys.length → xs.length = zs.length → (zipD3 (xs.map .int) (ys.map .int) (zs.map .bl)).length = xs.length
  | [], _, _, _, _ => by simp [zipD3]
  | _ :: _, [], _, h, _ => by simp at h
  | _ :: _, _ :: _, [], _, h => by simp at h
  | x :: xs, y :: ys, z :: zs, h, h' => by
    simp only [List.map_cons, zipD3, List.length_cons]
    rw [zip3_lenZ (by simpa using h) (by simpa using h')]
theorem pots_loop (n : Nat) (os rs : List Int) (fs : List Bool) (c : Int) (h1 : os.length = rs.length) (h2 : os.length = fs.length) (hl : os.length ≤ 100) (up : Nat) (hu : os.length ≤ up) :
    ∃ (s6 s7 s8 s9 : Slot), forL (forB (Cn n) (.tup [6, 7, 8]) [] bd_pots_0) (zipD3 (os.map .int) (rs.map .int) (fs.map .bl)) [some ⟨0, [], .lst (os.map .int)⟩, some ⟨0, [], .lst (rs.map .int)⟩, some ⟨0, [], .int c⟩, some ⟨0, [], .lst (fs.map .bl)⟩, some ⟨0, [], .int c⟩, some ⟨8, [], .lst []⟩, none, none, none, none] =
      .ok (.nx [some ⟨0, [], .lst (os.map .int)⟩, some ⟨0, [], .lst (rs.map .int)⟩, some ⟨0, [], .int c⟩, some ⟨0, [], .lst (fs.map .bl)⟩, some ⟨0, [], .int (pst os rs fs up c os.length).1⟩, some ⟨8, [], .lst ((pst os rs fs up c os.length).2.map .int)⟩, s6, s7, s8, s9]) := by
  obtain ⟨Γ', q1, s6, s7, s8, s9, q2⟩ := forL_inv (body := forB (Cn n) (.tup [6, 7, 8]) [] bd_pots_0) (fun i Γ => ∃ (s6 s7 s8 s9 : Slot), Γ = [some ⟨0, [], .lst (os.map .int)⟩, some ⟨0, [], .lst (rs.map .int)⟩, some ⟨0, [], .int c⟩, some ⟨0, [], .lst (fs.map .bl)⟩, some ⟨0, [], .int (pst os rs fs up c i).1⟩, some ⟨8, [], .lst ((pst os rs fs up c i).2.map .int)⟩, s6, s7, s8, s9]) (zipD3 (os.map .int) (rs.map .int) (fs.map .bl)) (fun i d e Γ ⟨s6, s7, s8, s9, h⟩ => by
    subst h
    obtain ⟨hi, rfl⟩ := zip3_getZ e
    have lp := pst_len os rs fs up c i
    have ll : ((pst os rs fs up c i).2.map D.int).length < lim := by rw [List.length_map, lp]; unfold lim; omega
    have hiu : i < up := by omega
    rw [pst, if_pos hiu]
    dsimp only
    generalize pst os rs fs up c i = S at *
    generalize os.getD i 0 = o at *
    generalize rs.getD i 0 = r at *
    rw [List.map_append, show [purse o r S.1 (fs.getD i false)].map D.int = [.int (purse o r S.1 (fs.getD i false))] from rfl]
    generalize fs.getD i false = f at *
    clear e lp hi hiu h1 h2 hl hu
    generalize os.map D.int = OS at *
    generalize rs.map D.int = RS at *
    generalize fs.map D.bl = FS at *
    generalize S.2.map D.int = S2 at *
    generalize S.1 = S1 at *
    cases f with
    | true =>
      refine ⟨_, ?_, some ⟨0, [], .int o⟩, some ⟨0, [], .int r⟩, some ⟨0, [], .bl true⟩, some ⟨0, [], .int 0⟩, rfl⟩
      show _ = Res.ok (Fl.nx [some ⟨0, [], .lst OS⟩, some ⟨0, [], .lst RS⟩, some ⟨0, [], .int c⟩, some ⟨0, [], .lst FS⟩, some ⟨0, [], .int (S1 - 0)⟩, some ⟨8, [], .lst (S2 ++ [.int 0])⟩, some ⟨0, [], .int o⟩, some ⟨0, [], .int r⟩, some ⟨0, [], .bl true⟩, some ⟨0, [], .int 0⟩])
      unfold bd_pots_0
      walk_at "own"
    | false =>
      refine ⟨_, ?_, some ⟨0, [], .int o⟩, some ⟨0, [], .int r⟩, some ⟨0, [], .bl false⟩, some ⟨0, [], .int (if (if S1 - r > 0 then S1 - r else 0) < o then (if S1 - r > 0 then S1 - r else 0) else o)⟩, rfl⟩
      show _ = Res.ok (Fl.nx [some ⟨0, [], .lst OS⟩, some ⟨0, [], .lst RS⟩, some ⟨0, [], .int c⟩, some ⟨0, [], .lst FS⟩, some ⟨0, [], .int (S1 - (if (if S1 - r > 0 then S1 - r else 0) < o then (if S1 - r > 0 then S1 - r else 0) else o))⟩, some ⟨8, [], .lst (S2 ++ [.int (if (if S1 - r > 0 then S1 - r else 0) < o then (if S1 - r > 0 then S1 - r else 0) else o)])⟩, some ⟨0, [], .int o⟩, some ⟨0, [], .int r⟩, some ⟨0, [], .bl false⟩, some ⟨0, [], .int (if (if S1 - r > 0 then S1 - r else 0) < o then (if S1 - r > 0 then S1 - r else 0) else o)⟩])
      unfold bd_pots_0
      walk_at "own") _ ⟨none, none, none, none, rfl⟩
  subst q2
  rw [zip3_lenZ h1 h2] at q1
  exact ⟨s6, s7, s8, s9, q1⟩
theorem pots (n : Nat) (os rs : List Int) (fs : List Bool) (c : Int) (h1 : os.length = rs.length) (h2 : os.length = fs.length) (hl : os.length ≤ 100) (up : Nat) (hu : os.length ≤ up) :
    exec T gl (n+1) f_pots [.lst (os.map .int), .lst (rs.map .int), .int c, .lst (fs.map .bl)] = .ok (.lst ((pst os rs fs up c os.length).2.map .int), []) := by
  obtain ⟨s6, s7, s8, s9, q⟩ := pots_loop n os rs fs c h1 h2 hl up hu
  have iR : immAll ((pst os rs fs up c os.length).2.map D.int) = true := immAll_map _
  clear h1 h2 hl hu
  generalize (pst os rs fs up c os.length).2.map D.int = R at *
  generalize (pst os rs fs up c os.length).1 = L at *
  generalize os.map D.int = OS at *
  generalize rs.map D.int = RS at *
  generalize fs.map D.bl = FS at *
  rw [exec_c T_pots, ir_pots, runFn_ rfl]
  walk_at "own"
theorem rep0 (k : Nat) : (List.replicate k [D.int 0]).flatten = (List.replicate k (0 : Int)).map .int := by
  induction k with
  | zero => rfl
  | succ k ih => rw [List.replicate_succ, List.replicate_succ, List.flatten_cons, ih]; rfl
theorem plain (n : Nat) (os : List Int) (fs : List Bool) (c : Int) (h2 : os.length = fs.length) (hl : os.length ≤ 100) (up : Nat) (hu : os.length ≤ up) :
    exec T gl (n+2) f_plain_pots [.lst (os.map .int), .int c, .lst (fs.map .bl)] = .ok (.lst ((pst os (List.replicate os.length 0) fs up c os.length).2.map .int), []) := by
  have e : exec T gl (n+1) f_pots _ = _ := pots n os (List.replicate os.length 0) fs c (by rw [List.length_replicate]) h2 hl up hu
  have eR : (List.replicate (((os.map D.int).length : Nat) : Int).toNat [D.int 0]).flatten = (List.replicate os.length (0 : Int)).map .int := by rw [Int.toNat_natCast, List.length_map]; exact rep0 _
  have l1 : ([D.int 0] : List D).length * (((os.map D.int).length : Nat) : Int).toNat ≤ lim := by rw [Int.toNat_natCast, List.length_map]; show 1 * _ ≤ _; unfold lim; omega
  have l2 : (-1000000 : Int) ≤ ((os.map D.int).length : Nat) := by omega
  have l3 : (((os.map D.int).length : Nat) : Int) ≤ 1000000 := by rw [List.length_map]; omega
  have iR : immAll ((pst os (List.replicate os.length 0) fs up c os.length).2.map D.int) = true := immAll_map _
  have iZ : immAll ((List.replicate os.length (0 : Int)).map D.int) = true := immAll_map _
  clear h2 hl hu
  generalize (pst os (List.replicate os.length 0) fs up c os.length).2.map D.int = R at *
  generalize (List.replicate os.length (0 : Int)).map D.int = Z at *
  generalize os.map D.int = OS at *
  generalize fs.map D.bl = FS at *
  rw [exec_c T_plain_pots, ir_plain_pots, runFn_ rfl]
  walk_at "own"

theorem ints_uniqZ : ∀ {l m : List Int}, l.Pairwise (· ≤ ·) → m.Pairwise (· ≤ ·) → l.Perm m → l = m
  | [], m, _, _, h => (List.Perm.eq_nil h.symm).symm
  | x :: l, [], _, _, h => absurd h.length_eq (by simp)
  | x :: l, y :: m, hl, hm, h => by
    have hl' := List.pairwise_cons.mp hl
    have hm' := List.pairwise_cons.mp hm
    have h1 : y ≤ x := by
      rcases List.mem_cons.mp (h.mem_iff.mp (List.mem_cons_self (a := x) (l := l))) with e | hx
      · omega
      · exact hm'.1 x hx
    have h2 : x ≤ y := by
      rcases List.mem_cons.mp (h.mem_iff.mpr (List.mem_cons_self (a := y) (l := m))) with e | hy
      · omega
      · exact hl'.1 y hy
    have e : x = y := by omega
    subst e
    rw [ints_uniqZ hl'.2 hm'.2 (h.cons_inv)]
theorem sortI_sortedZ (ns : List Int) : (ns.mergeSort leI).Pairwise (· ≤ ·) := by
  have h := List.pairwise_mergeSort (le := leI) (fun a b c h h' => by
    unfold leI at *
    simp only [decide_eq_true_eq] at *
    omega) (fun a b => by
    unfold leI
    simp only [Bool.or_eq_true, decide_eq_true_eq]
    omega) ns
  exact h.imp fun h => by
    unfold leI at h
    simpa using h
theorem pst_take (os rs : List Int) (fs : List Bool) (up : Nat) (c : Int) (j : Nat) : ∀ k, (pst os rs fs up c (j + k)).2.take j = (pst os rs fs up c j).2
  | 0 => by rw [Nat.add_zero, List.take_of_length_le (by rw [pst_len]; exact Nat.le_refl _)]
  | k + 1 => by
    rw [show j + (k + 1) = (j + k) + 1 by omega, pst]
    dsimp only
    rw [List.take_append_of_le_length (by rw [pst_len]; omega)]
    exact pst_take os rs fs up c j k
theorem pst_up (os rs : List Int) (fs : List Bool) (u v : Nat) (c : Int) : ∀ i, i ≤ u → i ≤ v → pst os rs fs u c i = pst os rs fs v c i
  | 0, _, _ => rfl
  | i + 1, h1, h2 => by
    rw [pst, pst, pst_up os rs fs u v c i (by omega) (by omega), if_pos (by omega), if_pos (by omega)]
theorem pst_over (os rs : List Int) (fs : List Bool) (u : Nat) (c : Int) : ∀ k, (pst os rs fs u c (u + k)).2 = (pst os rs fs u c u).2 ++ List.replicate k 0
  | 0 => by rw [Nat.add_zero]; show _ = _ ++ []; rw [List.append_nil]
  | k + 1 => by
    rw [show u + (k + 1) = (u + k) + 1 by omega, pst]
    dsimp only
    rw [if_neg (by omega), pst_over os rs fs u c k, List.append_assoc, List.replicate_succ']
/-- what upper_pots makes of the plain pots -/
theorem upper_eq (os rs : List Int) (fs : List Bool) (u v : Nat) (c : Int) (m : Nat) (hv : m ≤ v) : (pst os rs fs v c m).2.take u ++ List.replicate (m - ((pst os rs fs v c m).2.take u).length) 0 = (pst os rs fs u c m).2 := by
  rw [List.length_take, pst_len]
  by_cases h : u ≤ m
  · obtain ⟨k, rfl⟩ : ∃ k, m = u + k := ⟨m - u, by omega⟩
    rw [pst_take, pst_over, Nat.min_eq_left h, show u + k - u = k by omega, pst_up os rs fs v u c u (by omega) (Nat.le_refl _)]
  · rw [List.take_of_length_le (by rw [pst_len]; omega), Nat.min_eq_right (by omega), Nat.sub_self, pst_up os rs fs v u c m hv (by omega)]
    show _ ++ [] = _
    rw [List.append_nil]
theorem pmax_ge (a : Int) : 0 ≤ pmax a ∧ a ≤ pmax a ∧ (0 < a → pmax a = a) ∧ (a ≤ 0 → pmax a = 0) := by
  unfold pmax
  split <;> omega
theorem purse_ge {o r l : Int} {f : Bool} (ho : 0 ≤ o) : 0 ≤ purse o r l f := by
  have := (pmax_ge (l - r)).1
  unfold purse
  split
  · omega
  · split <;> omega
theorem purse_le {o r l : Int} {f : Bool} (hr : 0 ≤ r) (hl : 0 ≤ l) : purse o r l f ≤ l ∨ (f = false ∧ purse o r l f = o ∧ o ≤ l) := by
  have h := pmax_ge (l - r)
  unfold purse
  split
  · left; omega
  · by_cases z : 0 < l - r
    · have := h.2.2.1 z
      split
      · left; omega
      · left; omega
    · have := h.2.2.2 (by omega)
      split
      · left; omega
      · left; omega
theorem pst_sum (os rs : List Int) (fs : List Bool) (u : Nat) (c : Int) (hr : ∀ x ∈ rs, 0 ≤ x) (hc : 0 ≤ c) : ∀ i, i ≤ rs.length → 0 ≤ (pst os rs fs u c i).1 ∧ (pst os rs fs u c i).2.sum = c - (pst os rs fs u c i).1
  | 0, _ => ⟨hc, by show (0 : Int) = c - c; omega⟩
  | i + 1, hi => by
    obtain ⟨h1, h2⟩ := pst_sum os rs fs u c hr hc i (by omega)
    have hri : 0 ≤ rs.getD i 0 := by
      have := getD_at (xs := rs) (i := i) (by omega)
      exact hr _ (List.mem_of_getElem? this)
    have hp : ∀ f : Bool, purse (os.getD i 0) (rs.getD i 0) (pst os rs fs u c i).1 f ≤ (pst os rs fs u c i).1 := fun f => by
      rcases purse_le (o := os.getD i 0) (f := f) hri h1 with z | ⟨_, z, z'⟩ <;> omega
    rw [pst]
    dsimp only
    rw [List.sum_append, h2]
    have := hp (fs.getD i false)
    split
    · exact ⟨by omega, by simp only [List.sum_cons, List.sum_nil]; omega⟩
    · exact ⟨by omega, by simp only [List.sum_cons, List.sum_nil]; omega⟩
theorem pst_get (os rs : List Int) (fs : List Bool) (u : Nat) (c : Int) (i k : Nat) : (pst os rs fs u c (i + 1 + k)).2[i]? = some (if i < u then purse (os.getD i 0) (rs.getD i 0) (pst os rs fs u c i).1 (fs.getD i false) else 0) := by
  have h := pst_take os rs fs u c (i + 1) k
  have : ((pst os rs fs u c (i + 1 + k)).2.take (i + 1))[i]? = (pst os rs fs u c (i + 1 + k)).2[i]? := by rw [List.getElem?_take, if_pos (by omega)]
  rw [← this, h, pst]
  dsimp only
  rw [List.getElem?_append_right (by rw [pst_len]; exact Nat.le_refl _), pst_len, Nat.sub_self]
  rfl
/-- behind a rank that is short the later ones get nothing -/
theorem pst_rest (os rs : List Int) (fs : List Bool) (u : Nat) (c : Int) (ho : ∀ x ∈ os, 0 ≤ x) (hm : ∀ i, i + 1 < rs.length → rs.getD i 0 ≤ rs.getD (i + 1) 0) (hl : os.length = rs.length) (i : Nat) (hf : fs.getD i false = false) (hi : i < os.length) (hu : i < u)
    (hs : purse (os.getD i 0) (rs.getD i 0) (pst os rs fs u c i).1 (fs.getD i false) < os.getD i 0) : ∀ k, i + 1 + k ≤ os.length → (pst os rs fs u c (i + 1 + k)).1 ≤ rs.getD (i + k) 0 ∧ (pst os rs fs u c (i + 1 + k)).2 = (pst os rs fs u c (i + 1)).2 ++ List.replicate k 0
  | 0, _ => by
    refine ⟨?_, by show _ = _ ++ []; rw [List.append_nil]⟩
    show (pst os rs fs u c (i + 1)).1 ≤ rs.getD i 0
    rw [pst]
    dsimp only
    rw [if_pos hu]
    rw [hf] at hs ⊢
    unfold purse at hs ⊢
    rw [if_neg (by decide)] at hs ⊢
    have h := pmax_ge ((pst os rs fs u c i).1 - rs.getD i 0)
    split at hs
    · rename_i z
      rw [if_pos z]
      omega
    · omega
  | k + 1, hk => by
    obtain ⟨h1, h2⟩ := pst_rest os rs fs u c ho hm hl i hf hi hu hs k (by omega)
    have h3 := hm (i + k) (by omega)
    have oo : 0 ≤ os.getD (i + 1 + k) 0 := by
      have := getD_at (xs := os) (i := i + 1 + k) (by omega)
      exact ho _ (List.mem_of_getElem? this)
    rw [show i + k + 1 = i + 1 + k by omega] at h3
    have hp : purse (os.getD (i + 1 + k) 0) (rs.getD (i + 1 + k) 0) (pst os rs fs u c (i + 1 + k)).1 (fs.getD (i + 1 + k) false) = 0 := by
      unfold purse
      split
      · rfl
      · have h := (pmax_ge ((pst os rs fs u c (i + 1 + k)).1 - rs.getD (i + 1 + k) 0)).2.2.2 (by omega)
        split <;> omega
    rw [show i + 1 + (k + 1) = (i + 1 + k) + 1 by omega, pst]
    dsimp only
    rw [hp, show i + (k + 1) = i + 1 + k by omega]
    refine ⟨by split <;> omega, ?_⟩
    rw [h2, List.replicate_succ', List.append_assoc]
    split <;> rfl
theorem pw3 {a b c : Int} (h1 : a ≤ b) (h2 : b ≤ c) : [a, b, c].Pairwise (· ≤ ·) := by
  refine List.Pairwise.cons (fun x hx => ?_) (List.Pairwise.cons (fun x hx => ?_) (List.Pairwise.cons (fun x hx => by cases hx) List.Pairwise.nil))
  · simp only [List.mem_cons, List.not_mem_nil, or_false] at hx
    omega
  · simp only [List.mem_cons, List.not_mem_nil, or_false] at hx
    omega
/-- the middle one of three -/
theorem mid3 (a o : Int) (ho : 0 ≤ o) : atI (([0, a, o].mergeSort leI).map D.int) 1 = some (.int (if pmax a < o then pmax a else o)) := by
  have hs := sortI_sortedZ [0, a, o]
  have hp := List.mergeSort_perm [0, a, o] leI
  have h := pmax_ge a
  by_cases c1 : a ≤ 0
  · have e : [0, a, o].mergeSort leI = [a, 0, o] := ints_uniqZ hs (pw3 c1 ho) (hp.trans (List.Perm.swap a 0 [o]))
    rw [e, h.2.2.2 c1]
    show some (D.int 0) = _
    congr 2
    split <;> omega
  · by_cases c2 : a ≤ o
    · have e : [0, a, o].mergeSort leI = [0, a, o] := ints_uniqZ hs (pw3 (by omega) c2) hp
      rw [e, h.2.2.1 (by omega)]
      show some (D.int a) = _
      congr 2
      split <;> omega
    · have e : [0, a, o].mergeSort leI = [0, o, a] := ints_uniqZ hs (pw3 ho (by omega)) (hp.trans (List.Perm.cons 0 (List.Perm.swap o a [])))
      rw [e, h.2.2.1 (by omega)]
      show some (D.int o) = _
      congr 2
      split <;> omega

theorem purses_loop (n : Nat) (os rs : List Int) (fs : List Bool) (c : Int) (up : Nat) (ho : ∀ x ∈ os, 0 ≤ x) (h1 : os.length = rs.length) (h2 : os.length = fs.length) (hl : os.length ≤ 100) :
    ∃ (s7 s8 : Slot), forL (forB (Cn n) (.one 7) [] bd__law_purses_0) (rngD 0 os.length) [some ⟨0, [], .lst (os.map .int)⟩, some ⟨0, [], .lst (rs.map .int)⟩, some ⟨0, [], .int c⟩, some ⟨0, [], .lst (fs.map .bl)⟩, some ⟨0, [], .int up⟩, some ⟨0, [], .int c⟩, some ⟨8, [], .lst []⟩, none, none] =
      .ok (.nx [some ⟨0, [], .lst (os.map .int)⟩, some ⟨0, [], .lst (rs.map .int)⟩, some ⟨0, [], .int c⟩, some ⟨0, [], .lst (fs.map .bl)⟩, some ⟨0, [], .int up⟩, some ⟨0, [], .int (pst os rs fs up c os.length).1⟩, some ⟨8, [], .lst ((pst os rs fs up c os.length).2.map .int)⟩, s7, s8]) := by
  obtain ⟨Γ', q1, s7, s8, q2⟩ := forL_rng (body := forB (Cn n) (.one 7) [] bd__law_purses_0) (fun i Γ => ∃ (s7 s8 : Slot), Γ = [some ⟨0, [], .lst (os.map .int)⟩, some ⟨0, [], .lst (rs.map .int)⟩, some ⟨0, [], .int c⟩, some ⟨0, [], .lst (fs.map .bl)⟩, some ⟨0, [], .int up⟩, some ⟨0, [], .int (pst os rs fs up c i).1⟩, some ⟨8, [], .lst ((pst os rs fs up c i).2.map .int)⟩, s7, s8]) os.length (fun i hi Γ ⟨s7, s8, h⟩ => by
    subst h
    have lp := pst_len os rs fs up c i
    have ll : ((pst os rs fs up c i).2.map D.int).length < lim := by rw [List.length_map, lp]; unfold lim; omega
    have a1 := at_int (getD_at (xs := os) hi)
    have a2 := at_int (getD_at (xs := rs) (i := i) (by omega))
    have a3 : atI (fs.map D.bl) (i : Int) = some (.bl (fs.getD i false)) := atI_nat (by rw [List.getElem?_map, getD_atB (by omega)]; rfl)
    have oo : 0 ≤ os.getD i 0 := ho _ (List.mem_of_getElem? (getD_at hi))
    rw [pst]
    dsimp only
    generalize pst os rs fs up c i = S at *
    have md := mid3 (S.1 - rs.getD i 0) (os.getD i 0) oo
    generalize os.getD i 0 = o at *
    generalize rs.getD i 0 = r at *
    rw [List.map_append]
    generalize fs.getD i false = f at *
    clear lp hi h1 h2 hl ho oo
    generalize os.map D.int = OS at *
    generalize rs.map D.int = RS at *
    generalize fs.map D.bl = FS at *
    generalize S.2.map D.int = S2 at *
    generalize S.1 = S1 at *
    by_cases hu : i < up
    · rw [if_pos hu]
      have du : decide ((i : Int) < (up : Int)) = true := decide_eq_true (by omega)
      cases f with
      | true =>
        refine ⟨_, ?_, some ⟨0, [], .int i⟩, some ⟨0, [], .int 0⟩, rfl⟩
        show _ = Res.ok (Fl.nx [some ⟨0, [], .lst OS⟩, some ⟨0, [], .lst RS⟩, some ⟨0, [], .int c⟩, some ⟨0, [], .lst FS⟩, some ⟨0, [], .int up⟩, some ⟨0, [], .int (S1 - 0)⟩, some ⟨8, [], .lst (S2 ++ [.int 0])⟩, some ⟨0, [], .int i⟩, some ⟨0, [], .int 0⟩])
        clear hu md
        unfold bd__law_purses_0
        walk_at "own"
      | false =>
        refine ⟨_, ?_, some ⟨0, [], .int i⟩, some ⟨0, [], .int (if pmax (S1 - r) < o then pmax (S1 - r) else o)⟩, rfl⟩
        show _ = Res.ok (Fl.nx [some ⟨0, [], .lst OS⟩, some ⟨0, [], .lst RS⟩, some ⟨0, [], .int c⟩, some ⟨0, [], .lst FS⟩, some ⟨0, [], .int up⟩, some ⟨0, [], .int (S1 - (if pmax (S1 - r) < o then pmax (S1 - r) else o))⟩, some ⟨8, [], .lst (S2 ++ [.int (if pmax (S1 - r) < o then pmax (S1 - r) else o)])⟩, some ⟨0, [], .int i⟩, some ⟨0, [], .int (if pmax (S1 - r) < o then pmax (S1 - r) else o)⟩])
        clear hu
        generalize (if pmax (S1 - r) < o then pmax (S1 - r) else o) = X at *
        unfold bd__law_purses_0
        walk_at "own"
    · rw [if_neg hu]
      have du : decide ((i : Int) < (up : Int)) = false := decide_eq_false (by omega)
      refine ⟨_, ?_, some ⟨0, [], .int i⟩, some ⟨0, [], .int 0⟩, rfl⟩
      show _ = Res.ok (Fl.nx [some ⟨0, [], .lst OS⟩, some ⟨0, [], .lst RS⟩, some ⟨0, [], .int c⟩, some ⟨0, [], .lst FS⟩, some ⟨0, [], .int up⟩, some ⟨0, [], .int (S1 - 0)⟩, some ⟨8, [], .lst (S2 ++ [.int 0])⟩, some ⟨0, [], .int i⟩, some ⟨0, [], .int 0⟩])
      clear hu md
      unfold bd__law_purses_0
      walk_at "own") _ ⟨none, none, rfl⟩
  subst q2
  exact ⟨s7, s8, q1⟩
theorem purses (n : Nat) (os rs : List Int) (fs : List Bool) (c : Int) (up : Nat) (ho : ∀ x ∈ os, 0 ≤ x) (h1 : os.length = rs.length) (h2 : os.length = fs.length) (hl : os.length ≤ 100) :
    exec T gl (n+1) f__law_purses [.lst (os.map .int), .lst (rs.map .int), .int c, .lst (fs.map .bl), .int up] = .ok (.lst ((pst os rs fs up c os.length).2.map .int), []) := by
  obtain ⟨s7, s8, q⟩ := purses_loop n os rs fs c up ho h1 h2 hl
  have iR : immAll ((pst os rs fs up c os.length).2.map D.int) = true := immAll_map _
  have eL : ((os.map D.int).length : Int).toNat = os.length := by rw [List.length_map]; omega
  have b1 : -(2 ^ 62) < ((os.map D.int).length : Int) := by omega
  have b2 : ((os.map D.int).length : Int) < 2 ^ 62 := by rw [List.length_map]; omega
  clear h1 h2 hl ho
  generalize (pst os rs fs up c os.length).2.map D.int = R at *
  generalize (pst os rs fs up c os.length).1 = L at *
  generalize os.map D.int = OS at *
  generalize rs.map D.int = RS at *
  generalize fs.map D.bl = FS at *
  rw [exec_c T__law_purses, ir__law_purses, runFn_ rfl]
  walk_at "own"
theorem upper (n : Nat) (os : List Int) (fs : List Bool) (c : Int) (up : Nat) (h2 : os.length = fs.length) (hl : os.length ≤ 100) :
    exec T gl (n+3) f_upper_pots [.lst (os.map .int), .int c, .lst (fs.map .bl), .int up] = .ok (.lst ((pst os (List.replicate os.length 0) fs up c os.length).2.map .int), []) := by
  have e : exec T gl (n+2) f_plain_pots _ = _ := plain n os fs c h2 hl os.length (Nat.le_refl _)
  have ue := upper_eq os (List.replicate os.length 0) fs up os.length c os.length (Nat.le_refl _)
  have pl := pst_len os (List.replicate os.length 0) fs os.length c os.length
  rw [← ue, List.map_append, ← rep0]
  generalize (pst os (List.replicate os.length 0) fs os.length c os.length).2 = R at *
  have cu : cutD (R.map D.int) none (some (up : Int)) = (R.take up).map .int := by rw [cut_hi, List.map_take]
  have lt : (R.take up).length ≤ os.length := by rw [List.length_take]; omega
  have eR : (((os.map D.int).length : Int) - (((R.take up).map D.int).length : Int)).toNat = os.length - (R.take up).length := by rw [List.length_map, List.length_map]; omega
  have l1 : ([D.int 0] : List D).length * (((os.map D.int).length : Int) - (((R.take up).map D.int).length : Int)).toNat ≤ lim := by rw [eR]; show 1 * _ ≤ _; unfold lim; omega
  have l2 : (-1000000 : Int) ≤ ((os.map D.int).length : Int) - (((R.take up).map D.int).length : Int) := by rw [List.length_map, List.length_map]; omega
  have l3 : ((os.map D.int).length : Int) - (((R.take up).map D.int).length : Int) ≤ 1000000 := by rw [List.length_map, List.length_map]; omega
  have iR : immAll (R.map D.int) = true := immAll_map _
  have iT : immAll ((R.take up).map D.int) = true := immAll_map _
  have iZ : immAll (List.replicate (os.length - (R.take up).length) [D.int 0]).flatten = true := by rw [rep0]; exact immAll_map _
  have l4 : ((R.take up).map D.int).length + (List.replicate (os.length - (R.take up).length) [D.int 0]).flatten.length ≤ lim := by rw [rep0, List.length_map, List.length_map, List.length_replicate]; unfold lim; omega
  clear h2 hl ue pl lt
  generalize os.length - (R.take up).length = q at *
  generalize (R.take up).map D.int = RT at *
  generalize R.map D.int = RR at *
  generalize os.map D.int = OS at *
  generalize fs.map D.bl = FS at *
  rw [exec_c T_upper_pots, ir_upper_pots, runFn_ rfl]
  walk_at "own"

theorem cut_lo {xs : List D} {j : Nat} : cutD xs (some (j : Int)) none = xs.drop j := by
  unfold cutD
  rw [HT.sIx_nat, HT.sIx_none]
  by_cases h : j ≤ xs.length
  · rw [Nat.min_eq_left h, List.take_of_length_le (by rw [List.length_drop]; exact Nat.le_refl _)]
  · rw [Nat.min_eq_right (by omega), Nat.sub_self, List.take_zero, List.drop_eq_nil_of_le (by omega)]
theorem sum0 : ∀ m : Nat, (List.replicate m (0 : Int)).sum = 0
  | 0 => rfl
  | k + 1 => by rw [List.replicate_succ, List.sum_cons, sum0 k]; rfl
theorem bars_up (n : Nat) (A C Dd : D) (rs : List Int) (hl : rs.length ≤ 100) : ∀ (m a : Nat) (s4 : Slot), 1 ≤ a → a + m = rs.length →
    ((∃ s4', forL (forB (Cn n) (.one 4) [] bd__law_bars_1) (rngD (a : Int) m) [some ⟨0, [], A⟩, some ⟨0, [], .lst (rs.map .int)⟩, some ⟨0, [], C⟩, some ⟨0, [], Dd⟩, s4] = .ok (.nx [some ⟨0, [], A⟩, some ⟨0, [], .lst (rs.map .int)⟩, some ⟨0, [], C⟩, some ⟨0, [], Dd⟩, s4']) ∧ ∀ i, a ≤ i + 1 → i + 1 < rs.length → rs.getD i 0 ≤ rs.getD (i + 1) 0) ∨
    (∃ s4', forL (forB (Cn n) (.one 4) [] bd__law_bars_1) (rngD (a : Int) m) [some ⟨0, [], A⟩, some ⟨0, [], .lst (rs.map .int)⟩, some ⟨0, [], C⟩, some ⟨0, [], Dd⟩, s4] = .ok (.ret ⟨0, [], .bl true⟩ [some ⟨0, [], A⟩, some ⟨0, [], .lst (rs.map .int)⟩, some ⟨0, [], C⟩, some ⟨0, [], Dd⟩, s4'])))
  | 0, a, s4, h1, h2 => .inl ⟨s4, by rw [rngD, forL], fun i h3 h4 => by omega⟩
  | m + 1, a, s4, h1, h2 => by
    have a1 := at_int (getD_at (xs := rs) (i := a) (by omega))
    have a2 : atI (rs.map D.int) ((a : Int) - 1) = some (.int (rs.getD (a - 1) 0)) := by
      rw [show (a : Int) - 1 = ((a - 1 : Nat) : Int) by omega]
      exact at_int (getD_at (by omega))
    by_cases h : rs.getD a 0 < rs.getD (a - 1) 0
    · have dh := decide_eq_true h
      refine .inr ⟨some ⟨0, [], .int a⟩, ?_⟩
      have st : forB (Cn n) (.one 4) [] bd__law_bars_1 (.int (a : Int)) [some ⟨0, [], A⟩, some ⟨0, [], .lst (rs.map .int)⟩, some ⟨0, [], C⟩, some ⟨0, [], Dd⟩, s4] = .ok (.ret ⟨0, [], .bl true⟩ [some ⟨0, [], A⟩, some ⟨0, [], .lst (rs.map .int)⟩, some ⟨0, [], C⟩, some ⟨0, [], Dd⟩, some ⟨0, [], .int a⟩]) := by
        clear h h2 hl
        generalize rs.getD a 0 = x at *
        generalize rs.getD (a - 1) 0 = y at *
        generalize rs.map D.int = RS at *
        unfold bd__law_bars_1
        walk_at "own"
      rw [rngD, forL, st, bind_ok]
    · have dh := decide_eq_false h
      have st : forB (Cn n) (.one 4) [] bd__law_bars_1 (.int (a : Int)) [some ⟨0, [], A⟩, some ⟨0, [], .lst (rs.map .int)⟩, some ⟨0, [], C⟩, some ⟨0, [], Dd⟩, s4] = .ok (.nx [some ⟨0, [], A⟩, some ⟨0, [], .lst (rs.map .int)⟩, some ⟨0, [], C⟩, some ⟨0, [], Dd⟩, some ⟨0, [], .int a⟩]) := by
        clear h h2 hl
        generalize rs.getD a 0 = x at *
        generalize rs.getD (a - 1) 0 = y at *
        generalize rs.map D.int = RS at *
        unfold bd__law_bars_1
        walk_at "own"
      have go := bars_up n A C Dd rs hl m (a + 1) (some ⟨0, [], .int a⟩) (by omega) (by omega)
      rw [rngD, forL, st, bind_ok, show ((a : Nat) : Int) + 1 = ((a + 1 : Nat) : Int) by omega]
      rcases go with ⟨t, e, q⟩ | ⟨t, e⟩
      · refine .inl ⟨t, e, fun i h3 h4 => ?_⟩
        by_cases z : a = i + 1
        · subst z
          rw [show i + 1 - 1 = i by omega] at h
          omega
        · exact q i (by omega) h4
      · exact .inr ⟨t, e⟩
theorem bars_low (n : Nat) (B : D) (os rs : List Int) (fs : List Bool) (c : Int) (up : Nat) (ho : ∀ x ∈ os, 0 ≤ x) (hm : ∀ i, i + 1 < rs.length → rs.getD i 0 ≤ rs.getD (i + 1) 0) (h1 : os.length = rs.length) (h2 : os.length = fs.length) (hl : os.length ≤ 100) (hu : os.length ≤ up) : ∀ (m a : Nat) (s4 : Slot), a + m = os.length →
    ((∃ s4', forL (forB (Cn n) (.one 4) [] bd__law_bars_0) (rngD (a : Int) m) [some ⟨0, [], .lst (os.map .int)⟩, some ⟨0, [], B⟩, some ⟨0, [], .lst (fs.map .bl)⟩, some ⟨0, [], .lst ((pst os rs fs up c os.length).2.map .int)⟩, s4] = .ok (.nx [some ⟨0, [], .lst (os.map .int)⟩, some ⟨0, [], B⟩, some ⟨0, [], .lst (fs.map .bl)⟩, some ⟨0, [], .lst ((pst os rs fs up c os.length).2.map .int)⟩, s4'])) ∨
    (∃ s4', forL (forB (Cn n) (.one 4) [] bd__law_bars_0) (rngD (a : Int) m) [some ⟨0, [], .lst (os.map .int)⟩, some ⟨0, [], B⟩, some ⟨0, [], .lst (fs.map .bl)⟩, some ⟨0, [], .lst ((pst os rs fs up c os.length).2.map .int)⟩, s4] = .ok (.ret ⟨0, [], .bl true⟩ [some ⟨0, [], .lst (os.map .int)⟩, some ⟨0, [], B⟩, some ⟨0, [], .lst (fs.map .bl)⟩, some ⟨0, [], .lst ((pst os rs fs up c os.length).2.map .int)⟩, s4'])))
  | 0, a, s4, _ => .inl ⟨s4, by rw [rngD, forL]⟩
  | m + 1, a, s4, hp => by
    have a1 := at_int (getD_at (xs := os) (i := a) (by omega))
    have a3 : atI (fs.map D.bl) (a : Int) = some (.bl (fs.getD a false)) := atI_nat (by rw [List.getElem?_map, getD_atB (by omega)]; rfl)
    have g := pst_get os rs fs up c a m
    rw [if_pos (by omega), show a + 1 + m = os.length by omega] at g
    have a2 := at_int g
    have go := bars_low n B os rs fs c up ho hm h1 h2 hl hu m (a + 1) (some ⟨0, [], .int a⟩) (by omega)
    have cont : forB (Cn n) (.one 4) [] bd__law_bars_0 (.int (a : Int)) [some ⟨0, [], .lst (os.map .int)⟩, some ⟨0, [], B⟩, some ⟨0, [], .lst (fs.map .bl)⟩, some ⟨0, [], .lst ((pst os rs fs up c os.length).2.map .int)⟩, s4] = .ok (.nx [some ⟨0, [], .lst (os.map .int)⟩, some ⟨0, [], B⟩, some ⟨0, [], .lst (fs.map .bl)⟩, some ⟨0, [], .lst ((pst os rs fs up c os.length).2.map .int)⟩, some ⟨0, [], .int a⟩]) →
      ((∃ s4', forL (forB (Cn n) (.one 4) [] bd__law_bars_0) (rngD (a : Int) (m + 1)) [some ⟨0, [], .lst (os.map .int)⟩, some ⟨0, [], B⟩, some ⟨0, [], .lst (fs.map .bl)⟩, some ⟨0, [], .lst ((pst os rs fs up c os.length).2.map .int)⟩, s4] = .ok (.nx [some ⟨0, [], .lst (os.map .int)⟩, some ⟨0, [], B⟩, some ⟨0, [], .lst (fs.map .bl)⟩, some ⟨0, [], .lst ((pst os rs fs up c os.length).2.map .int)⟩, s4'])) ∨
      (∃ s4', forL (forB (Cn n) (.one 4) [] bd__law_bars_0) (rngD (a : Int) (m + 1)) [some ⟨0, [], .lst (os.map .int)⟩, some ⟨0, [], B⟩, some ⟨0, [], .lst (fs.map .bl)⟩, some ⟨0, [], .lst ((pst os rs fs up c os.length).2.map .int)⟩, s4] = .ok (.ret ⟨0, [], .bl true⟩ [some ⟨0, [], .lst (os.map .int)⟩, some ⟨0, [], B⟩, some ⟨0, [], .lst (fs.map .bl)⟩, some ⟨0, [], .lst ((pst os rs fs up c os.length).2.map .int)⟩, s4']))) := fun st => by
      rw [rngD, forL, st, bind_ok, show ((a : Nat) : Int) + 1 = ((a + 1 : Nat) : Int) by omega]
      exact go
    cases hf : fs.getD a false with
    | true =>
      refine cont ?_
      rw [hf] at a3 a2 g
      clear cont go g hp hf h1 h2 hl hu ho hm
      generalize (pst os rs fs up c os.length).2.map D.int = TT at *
      generalize os.map D.int = OS at *
      generalize fs.map D.bl = FS at *
      unfold bd__law_bars_0
      walk_at "own"
    | false =>
      have hr := pst_rest os rs fs up c ho hm h1 a hf (by omega) (by omega)
      rw [hf] at a3 a2 g hr
      by_cases hs : purse (os.getD a 0) (rs.getD a 0) (pst os rs fs up c a).1 false < os.getD a 0
      · have ds := decide_eq_true hs
        have e := (hr hs m (by omega)).2
        rw [show a + 1 + m = os.length by omega] at e
        have cu : cutD ((pst os rs fs up c os.length).2.map D.int) (some ((a : Int) + 1)) none = (List.replicate m (0 : Int)).map .int := by
          rw [show (a : Int) + 1 = ((a + 1 : Nat) : Int) by omega, cut_lo, ← List.map_drop, e, List.drop_append_of_le_length (by rw [pst_len]; exact Nat.le_refl _), List.drop_of_length_le (by rw [pst_len]; exact Nat.le_refl _), List.nil_append]
        have sm := sum0 m
        have iZ := intsD_map (List.replicate m (0 : Int))
        have iM : immAll ((List.replicate m (0 : Int)).map D.int) = true := immAll_map _
        have d0 := deq_t (Eq.refl (0 : Int))
        refine .inr ⟨some ⟨0, [], .int a⟩, ?_⟩
        have st : forB (Cn n) (.one 4) [] bd__law_bars_0 (.int (a : Int)) [some ⟨0, [], .lst (os.map .int)⟩, some ⟨0, [], B⟩, some ⟨0, [], .lst (fs.map .bl)⟩, some ⟨0, [], .lst ((pst os rs fs up c os.length).2.map .int)⟩, s4] = .ok (.ret ⟨0, [], .bl true⟩ [some ⟨0, [], .lst (os.map .int)⟩, some ⟨0, [], B⟩, some ⟨0, [], .lst (fs.map .bl)⟩, some ⟨0, [], .lst ((pst os rs fs up c os.length).2.map .int)⟩, some ⟨0, [], .int a⟩]) := by
          clear cont go g hp hf h1 h2 hl hu ho hm hr hs e
          generalize (pst os rs fs up c os.length).2.map D.int = TT at *
          generalize purse (os.getD a 0) (rs.getD a 0) (pst os rs fs up c a).1 false = P at *
          generalize os.getD a 0 = o at *
          generalize os.map D.int = OS at *
          generalize fs.map D.bl = FS at *
          generalize (List.replicate m (0 : Int)).map D.int = Z at *
          unfold bd__law_bars_0
          walk_at "own"
        rw [rngD, forL, st, bind_ok]
      · have ds := decide_eq_false hs
        refine cont ?_
        clear cont go g hp hf h1 h2 hl hu ho hm hr hs
        generalize (pst os rs fs up c os.length).2.map D.int = TT at *
        generalize purse (os.getD a 0) (rs.getD a 0) (pst os rs fs up c a).1 false = P at *
        generalize os.getD a 0 = o at *
        generalize os.map D.int = OS at *
        generalize fs.map D.bl = FS at *
        unfold bd__law_bars_0
        walk_at "own"
theorem bars (n : Nat) (os rs : List Int) (fs : List Bool) (c : Int) (up : Nat) (ho : ∀ x ∈ os, 0 ≤ x) (h1 : os.length = rs.length) (h2 : os.length = fs.length) (hl : os.length ≤ 100) (h0 : 1 ≤ os.length) (hu : os.length ≤ up) :
    exec T gl (n+1) f__law_bars [.lst (os.map .int), .lst (rs.map .int), .lst (fs.map .bl), .lst ((pst os rs fs up c os.length).2.map .int)] = .ok (.bl true, []) := by
  have eL : ((os.map D.int).length : Int).toNat = os.length := by rw [List.length_map]; omega
  have b1 : -(2 ^ 62) < ((os.map D.int).length : Int) := by omega
  have b2 : ((os.map D.int).length : Int) < 2 ^ 62 := by rw [List.length_map]; omega
  have eR : (((rs.map D.int).length : Int) - 1).toNat = rs.length - 1 := by rw [List.length_map]; omega
  have b3 : -(2 ^ 62) < ((rs.map D.int).length : Int) := by omega
  have b4 : ((rs.map D.int).length : Int) < 2 ^ 62 := by rw [List.length_map]; omega
  rcases bars_up n (.lst (os.map .int)) (.lst (fs.map .bl)) (.lst ((pst os rs fs up c os.length).2.map .int)) rs (by omega) (rs.length - 1) 1 none (by omega) (by omega) with ⟨s4, e, hm⟩ | ⟨s4, e⟩
  · change forL _ (rngD 1 (rs.length - 1)) _ = _ at e
    rcases bars_low n (.lst (rs.map .int)) os rs fs c up ho (fun i hi => hm i (by omega) hi) h1 h2 hl hu os.length 0 s4 (by omega) with ⟨s4', e'⟩ | ⟨s4', e'⟩
    · change forL _ (rngD 0 os.length) _ = _ at e'
      clear hm h1 h2 hl h0 hu ho
      generalize (pst os rs fs up c os.length).2.map D.int = TT at *
      generalize os.map D.int = OS at *
      generalize rs.map D.int = RS at *
      generalize fs.map D.bl = FS at *
      rw [exec_c T__law_bars, ir__law_bars, runFn_ rfl]
      walk_at "own"
    · change forL _ (rngD 0 os.length) _ = _ at e'
      clear hm h1 h2 hl h0 hu ho
      generalize (pst os rs fs up c os.length).2.map D.int = TT at *
      generalize os.map D.int = OS at *
      generalize rs.map D.int = RS at *
      generalize fs.map D.bl = FS at *
      rw [exec_c T__law_bars, ir__law_bars, runFn_ rfl]
      walk_at "own"
  · change forL _ (rngD 1 (rs.length - 1)) _ = _ at e
    clear h1 h2 hl h0 hu ho
    generalize (pst os rs fs up c os.length).2.map D.int = TT at *
    generalize os.map D.int = OS at *
    generalize rs.map D.int = RS at *
    generalize fs.map D.bl = FS at *
    rw [exec_c T__law_bars, ir__law_bars, runFn_ rfl]
    walk_at "own"

theorem whole (n : Nat) (i : Int) : exec T gl (n+1) f__law_whole [.int i] = .ok (.bl true, []) := by
  rw [exec_c T__law_whole, ir__law_whole, runFn_ rfl]
  walk_at "own"

theorem mix (n : Nat) (a b : Int) (ha : -1000000000000 ≤ a ∧ a ≤ 1000000000000) (hb : -1000000000000 ≤ b ∧ b ≤ 1000000000000) : exec T gl (n+1) f__law_mix [.int a, .int b] = .ok (.int (mixV a b), []) := by
  have h1 : 0 ≤ (a * 48271 + b * 69621 + 12345) % 2147483647 ∧ (a * 48271 + b * 69621 + 12345) % 2147483647 < 2147483647 := by omega
  rw [exec_c T__law_mix, ir__law_mix, runFn_ rfl]
  walk_at "own"
  rfl
theorem draw1 (n : Nat) (r s t many : Int) (hr : 0 < r) (hm : 0 < many) (hs : Sm many) : exec T gl (n+2) f__law_draw [.lst [.int r, .int s, .int t], .int many] = .ok (.int (r % many), [.lst [.int (r / many), .int s, .int t]]) := by
  have h0 : decide (0 < r) = true := decide_eq_true hr
  rw [exec_c T__law_draw, ir__law_draw, runFn_ rfl]
  walk_at "own"
theorem draw2 (n : Nat) (r s t many : Int) (hr : ¬ 0 < r) (hm : 0 < many) (hs : Sm many) (h1 : -1000000000000 ≤ s ∧ s ≤ 1000000000000) (h2 : -1000000000000 ≤ t + 1 ∧ t + 1 ≤ 1000000000000) : exec T gl (n+2) f__law_draw [.lst [.int r, .int s, .int t], .int many] = .ok (.int (mixV s (t + 1) % many), [.lst [.int r, .int s, .int (t + 1)]]) := by
  have h0 : decide (0 < r) = false := decide_eq_false hr
  have hx := mix n s (t + 1) h1 h2
  rw [exec_c T__law_draw, ir__law_draw, runFn_ rfl]
  walk_at "own"
theorem draw (n : Nat) (k : Int) (d : D) (many : Int) (hp : Pool k d) (hk : k ≤ 1000000000) (hm : 0 < many) (hs : Sm many) : ∃ v d', exec T gl (n+2) f__law_draw [d, .int many] = .ok (.int v, [d']) ∧ 0 ≤ v ∧ v < many ∧ Pool (k + 1) d' := by
  obtain ⟨r, s, t, rfl, h1, h2, h3, h4, h5⟩ := hp
  by_cases hr : 0 < r
  · exact ⟨_, _, draw1 n r s t many hr hm hs, Int.emod_nonneg _ (by omega), Int.emod_lt_of_pos _ hm, _, _, _, rfl, Int.ediv_nonneg h1 (by omega), h2, h3, h4, by omega⟩
  · exact ⟨_, _, draw2 n r s t many hr hm hs (by omega) (by omega), Int.emod_nonneg _ (by omega), Int.emod_lt_of_pos _ hm, _, _, _, rfl, h1, h2, h3, by omega, by omega⟩
theorem pool (n : Nat) (ns : List Int) (i : Nat) (hi : i ≤ 20) (salt : Int) (hs : 0 ≤ salt ∧ salt ≤ 1000) : ∃ d, exec T gl (n+1) f__law_pool [.scr ns, .int i, .int salt] = .ok (d, []) ∧ Pool 0 d := by
  by_cases h : (i : Int) < ns.length
  · have h0 : decide ((i : Int) < (ns.length : Int)) = true := decide_eq_true h
    have h1 : L2.atI ns (i : Int) = some (ns[i]'(by omega)) := L2.atI_nat (List.getElem?_eq_getElem (by omega))
    generalize ns[i]'(by omega) = c at h1
    have hc : 0 ≤ (if c < 0 then -c else c) := by split <;> omega
    clear h
    by_cases hb : 1000000000000000000 ≤ (if c < 0 then -c else c)
    · have h2 : decide (1000000000000000000 ≤ (if c < 0 then -c else c)) = true := decide_eq_true hb
      clear hb
      refine ⟨.lst [.int (if c < 0 then -c else c), .int ((if c < 0 then -c else c) % 1000000007 + 9176 * salt + 77 * i), .int 0], ?_, _, _, _, rfl, hc, by omega, by omega, by omega, by omega⟩
      rw [exec_c T__law_pool, ir__law_pool, runFn_ rfl]
      walk_at "own"
    · have h2 : decide (1000000000000000000 ≤ (if c < 0 then -c else c)) = false := decide_eq_false hb
      clear hb
      refine ⟨.lst [.int 0, .int ((if c < 0 then -c else c) % 1000000007 + 9176 * salt + 77 * i), .int 0], ?_, _, _, _, rfl, by omega, by omega, by omega, by omega, by omega⟩
      rw [exec_c T__law_pool, ir__law_pool, runFn_ rfl]
      walk_at "own"
  · have h0 : decide ((i : Int) < (ns.length : Int)) = false := decide_eq_false h
    clear h
    have h2 : decide ((1000000000000000000 : Int) ≤ 0) = false := by decide
    refine ⟨.lst [.int 0, .int (0 % 1000000007 + 9176 * salt + 77 * i), .int 0], ?_, _, _, _, rfl, by omega, by omega, by omega, by omega, by omega⟩
    rw [exec_c T__law_pool, ir__law_pool, runFn_ rfl]
    walk_at "own"

theorem same_int (n : Nat) (a : Int) : exec T gl (n+2) f__law_same [.int a, .int a] = .ok (.bl true, []) := by
  have e1 := whole n a
  have e2 := deq_t (Eq.refl a)
  rw [exec_c T__law_same, ir__law_same, runFn_ rfl]
  walk_at "own"
theorem same_non (n : Nat) : exec T gl (n+2) f__law_same [.non, .non] = .ok (.bl true, []) := by
  rw [exec_c T__law_same, ir__law_same, runFn_ rfl]
  walk_at "own"
theorem same_true (n : Nat) : exec T gl (n+2) f__law_same [.bl true, .bl true] = .ok (.bl true, []) := by
  have e2 : deq (.bl true) (.bl true) = true := by decide
  rw [exec_c T__law_same, ir__law_same, runFn_ rfl]
  walk_at "own"
theorem same_false (n : Nat) : exec T gl (n+2) f__law_same [.bl false, .bl false] = .ok (.bl true, []) := by
  have e2 : deq (.bl false) (.bl false) = true := by decide
  rw [exec_c T__law_same, ir__law_same, runFn_ rfl]
  walk_at "own"
theorem same_goL (n : Nat) (xs : List D) (s2 : Slot) (h : ∀ d ∈ xs, exec T gl n f__law_same [d, d] = .ok (.bl true, [])) :
    ∃ s2', forL (forB (Cn n) (.one 4) [] bd__law_same_0) (rngD 0 xs.length) [some ⟨0, [], .lst xs⟩, some ⟨0, [], .lst xs⟩, none, none, s2] = .ok (.nx [some ⟨0, [], .lst xs⟩, some ⟨0, [], .lst xs⟩, none, none, s2']) := by
  obtain ⟨Γ', q1, s2', q2⟩ := forL_rng (body := forB (Cn n) (.one 4) [] bd__law_same_0) (fun _ Γ => ∃ s2', Γ = [some ⟨0, [], .lst xs⟩, some ⟨0, [], .lst xs⟩, none, none, s2']) xs.length (fun i hi Γ ⟨s, e⟩ => by
    subst e
    have e1 : L2.atI xs (i : Int) = some xs[i] := at_lst (List.getElem?_eq_getElem hi)
    have e2 := h xs[i] (List.getElem_mem hi)
    clear h
    generalize xs[i] = d at e1 e2
    refine ⟨_, ?_, some ⟨0, [], .int i⟩, rfl⟩
    unfold bd__law_same_0
    cases hd : imm d <;> walk_at "own") _ ⟨s2, rfl⟩
  subst q2
  exact ⟨s2', q1⟩
theorem same_lst (n : Nat) (xs : List D) (hx : xs.length ≤ 100000) (h : ∀ d ∈ xs, exec T gl n f__law_same [d, d] = .ok (.bl true, [])) : exec T gl (n+1) f__law_same [.lst xs, .lst xs] = .ok (.bl true, []) := by
  have td : isTy .dict (.lst xs) = false := rfl
  obtain ⟨s2', q⟩ := same_goL n xs none h
  clear h
  have e2 := deq_t (Eq.refl (xs.length : Int))
  have e3 : ((xs.length : Int)).toNat = xs.length := by omega
  have b1 : -(2 ^ 62) < (xs.length : Int) := by omega
  have b2 : (xs.length : Int) < 2 ^ 62 := by omega
  clear hx
  rw [exec_c T__law_same, ir__law_same, runFn_ rfl]
  walk_at "own"
theorem same_goT (n : Nat) (xs : List D) (s2 : Slot) (h : ∀ d ∈ xs, exec T gl n f__law_same [d, d] = .ok (.bl true, [])) :
    ∃ s2', forL (forB (Cn n) (.one 4) [] bd__law_same_0) (rngD 0 xs.length) [some ⟨0, [], .tup xs⟩, some ⟨0, [], .tup xs⟩, none, none, s2] = .ok (.nx [some ⟨0, [], .tup xs⟩, some ⟨0, [], .tup xs⟩, none, none, s2']) := by
  obtain ⟨Γ', q1, s2', q2⟩ := forL_rng (body := forB (Cn n) (.one 4) [] bd__law_same_0) (fun _ Γ => ∃ s2', Γ = [some ⟨0, [], .tup xs⟩, some ⟨0, [], .tup xs⟩, none, none, s2']) xs.length (fun i hi Γ ⟨s, e⟩ => by
    subst e
    have e1 : L2.atI xs (i : Int) = some xs[i] := at_lst (List.getElem?_eq_getElem hi)
    have e2 := h xs[i] (List.getElem_mem hi)
    clear h
    generalize xs[i] = d at e1 e2
    refine ⟨_, ?_, some ⟨0, [], .int i⟩, rfl⟩
    unfold bd__law_same_0
    cases hxs : immAll xs <;> cases hd : imm d <;> walk_at "own") _ ⟨s2, rfl⟩
  subst q2
  exact ⟨s2', q1⟩
theorem same_tup (n : Nat) (xs : List D) (hx : xs.length ≤ 100000) (h : ∀ d ∈ xs, exec T gl n f__law_same [d, d] = .ok (.bl true, [])) : exec T gl (n+1) f__law_same [.tup xs, .tup xs] = .ok (.bl true, []) := by
  have td : isTy .dict (.tup xs) = false := rfl
  obtain ⟨s2', q⟩ := same_goT n xs none h
  clear h
  have e2 := deq_t (Eq.refl (xs.length : Int))
  have e3 : ((xs.length : Int)).toNat = xs.length := by omega
  have b1 : -(2 ^ 62) < (xs.length : Int) := by omega
  have b2 : (xs.length : Int) < 2 ^ 62 := by omega
  clear hx
  rw [exec_c T__law_same, ir__law_same, runFn_ rfl]
  cases hxs : immAll xs <;> walk_at "own"
theorem same_ints (n : Nat) (xs : List Int) (hx : xs.length ≤ 100000) : exec T gl (n+3) f__law_same [.lst (xs.map .int), .lst (xs.map .int)] = .ok (.bl true, []) := by
  refine same_lst (n+2) _ (by rw [List.length_map]; exact hx) fun d hd => ?_
  obtain ⟨a, _, rfl⟩ := List.mem_map.mp hd
  exact same_int n a

theorem pickI (n : Nat) (k : Int) (d : D) (row : List Int) (hp : Pool k d) (hk : k ≤ 900000000) (h1 : 0 < row.length) (h2 : row.length ≤ 1000) : ∃ v d', exec T gl (n+3) f__law_pick [d, .lst (row.map .int)] = .ok (.int v, [d']) ∧ v ∈ row ∧ Pool (k + 1) d' := by
  obtain ⟨a, d1, e1, a0, a9, p1⟩ := draw n k d row.length hp (by omega) (by omega) (sm_80 (by omega) (by omega))
  obtain ⟨j, rfl⟩ : ∃ j : Nat, a = j := ⟨a.toNat, by omega⟩
  have hj : j < row.length := by omega
  have e2 := at_int (List.getElem?_eq_getElem hj)
  refine ⟨row[j], d1, ?_, List.getElem_mem hj, p1⟩
  rw [exec_c T__law_pick, ir__law_pick, runFn_ rfl]
  walk_at "own"

theorem same_bl (n : Nat) (b : Bool) : exec T gl (n+2) f__law_same [.bl b, .bl b] = .ok (.bl true, []) := by
  cases b
  · exact same_false n
  · exact same_true n
theorem same_bls (n : Nat) (xs : List Bool) (hx : xs.length ≤ 100000) : exec T gl (n+3) f__law_same [.lst (xs.map .bl), .lst (xs.map .bl)] = .ok (.bl true, []) := by
  refine same_lst (n+2) _ (by rw [List.length_map]; exact hx) fun d hd => ?_
  obtain ⟨a, _, rfl⟩ := List.mem_map.mp hd
  exact same_bl n a
theorem amount (n : Nat) (k : Int) (d : D) (top : Int) (hp : Pool k d) (hk : k ≤ 800000) (ht : top = 1000000000001 ∨ top = 21) : ∃ v d', exec T gl (n+3) f__law_amount [d, .int top] = .ok (.int v, [d']) ∧ 0 ≤ v ∧ v ≤ 2000000000000 ∧ Pool (k + 2) d' := by
  have p6 : (10 : Int) ^ Int.toNat 6 = 1000000 := by decide
  have p7 : decide ((1000000 : Int) < 1000000000001) = true := by decide
  have p8 : decide ((1000000 : Int) < 21) = false := by decide
  rcases ht with rfl | rfl
  · obtain ⟨a, d1, e1, a0, a9, p1⟩ := draw n k d 1000000 hp (by omega) (by omega) (sm_80 (by omega) (by omega))
    obtain ⟨b, d2, e2, b0, b9, p2⟩ := draw n _ d1 (1000000 + 1) p1 (by omega) (by omega) (sm_80 (by omega) (by omega))
    refine ⟨a * 1000000 + b, d2, ?_, by omega, by omega, p2.up (by omega)⟩
    have s1 : Sm a := sm_80 (by omega) (by omega)
    have s2 : Sm 1000000 := sm_80 (by omega) (by omega)
    rw [exec_c T__law_amount, ir__law_amount, runFn_ rfl]
    walk_at "own"
  · obtain ⟨a, d1, e1, a0, a9, p1⟩ := draw n k d 21 hp (by omega) (by omega) (sm_80 (by omega) (by omega))
    refine ⟨a, d1, ?_, by omega, by omega, p1.up (by omega)⟩
    rw [exec_c T__law_amount, ir__law_amount, runFn_ rfl]
    walk_at "own"
theorem sum_ge : ∀ {xs : List Int}, (∀ x ∈ xs, 0 ≤ x) → 0 ≤ xs.sum
  | [], _ => by simp
  | x :: xs, h => by
    have h1 := h x List.mem_cons_self
    have h2 := sum_ge fun y hy => h y (List.mem_cons_of_mem _ hy)
    rw [List.sum_cons]
    omega
theorem sum_le : ∀ {xs : List Int} {B : Int}, (∀ x ∈ xs, x ≤ B) → xs.sum ≤ xs.length * B
  | [], B, _ => by simp
  | x :: xs, B, h => by
    have h1 := h x List.mem_cons_self
    have h2 := sum_le (B := B) fun y hy => h y (List.mem_cons_of_mem _ hy)
    rw [List.sum_cons, List.length_cons]
    have : ((xs.length + 1 : Nat) : Int) * B = xs.length * B + B := by rw [Int.natCast_add, Int.add_mul]; simp
    omega
theorem coins (n : Nat) (k : Int) (d : D) (hp : Pool k d) (hk : k ≤ 800000) (os rs : List Int) (h1 : 1 ≤ os.length) (h2 : os.length = rs.length) (h4 : os.length ≤ 4) (ho : ∀ x ∈ os, 0 ≤ x ∧ x ≤ 2000000000000) (hr : ∀ x ∈ rs, 0 ≤ x ∧ x ≤ 10000000000000) :
    ∃ v d', exec T gl (n+4) f__law_coins [d, .lst (os.map .int), .lst (rs.map .int)] = .ok (.int v, [d']) ∧ 0 ≤ v ∧ Pool (k + 6) d' := by
  have t0 := sum_ge fun x hx => (ho x hx).1
  have t9 := sum_le (B := 2000000000000) fun x hx => (ho x hx).2
  have rne : rs ≠ [] := fun z => by rw [z] at h2; rw [h2] at h1; exact absurd h1 (by decide)
  have mx := hr _ (maxL_mem rne)
  have t8 : os.sum ≤ 8000000000000 := by
    have : (os.length : Int) * 2000000000000 ≤ 4 * 2000000000000 := by omega
    omega
  obtain ⟨a, d1, e1, a0, a9, p1⟩ := draw (n+1) k d rs.length hp (by omega) (by omega) (sm_80 (by omega) (by omega))
  obtain ⟨b, d2, e2, b0, b9, p2⟩ := draw (n+1) _ d1 (os.length + 1) p1 (by omega) (by omega) (sm_80 (by omega) (by omega))
  obtain ⟨c, d3, e3, c0, c9, p3⟩ := draw (n+1) _ d2 4 p2 (by omega) (by omega) (sm_80 (by omega) (by omega))
  obtain ⟨i, rfl⟩ : ∃ i : Nat, a = i := ⟨a.toNat, by omega⟩
  obtain ⟨j, rfl⟩ : ∃ j : Nat, b = j := ⟨b.toNat, by omega⟩
  have a1 := at_int (getD_at (xs := rs) (i := i) (by omega))
  have cu : cutD (os.map D.int) none (some (j : Int)) = (os.take j).map .int := by rw [cut_hi, List.map_take]
  have sj := intsD_map (os.take j)
  have so := intsD_map os
  have iT : immAll ((os.take j).map D.int) = true := immAll_map _
  have iO : immAll (os.map D.int) = true := immAll_map _
  rw [show ((rs.length : Nat) : Int) = (((rs.map D.int).length : Nat) : Int) by rw [List.length_map]] at e1
  rw [show ((os.length : Nat) : Int) = (((os.map D.int).length : Nat) : Int) by rw [List.length_map]] at e2
  by_cases hc : c = 0
  · have dc := deq_t hc
    obtain ⟨u, d4, e4, u0, u9, p4⟩ := draw (n+1) _ d3 2 p3 (by omega) (by omega) (sm_80 (by omega) (by omega))
    by_cases hu : u = 0
    · have du := deq_t hu
      obtain ⟨w, d5, e5, w0, w9, p5⟩ := draw (n+1) _ d4 1001 p4 (by omega) (by omega) (sm_80 (by omega) (by omega))
      refine ⟨(os.sum + maxL rs) * w / 1000, d5, ?_, Int.ediv_nonneg (Int.mul_nonneg (by omega) w0) (by omega), p5.up (by omega)⟩
      have m1 : Sm (os.sum + maxL rs) := sm_80 (by omega) (by omega)
      have m2 : Sm w := sm_80 (by omega) (by omega)
      have m3 : Sm 1000 := sm_80 (by omega) (by omega)
      have x1 := o_max1I (l := 0) (rs := []) rne
      have q0 : (0 : Int) < 1000 := by omega
      obtain ⟨_, _, _, g0, _⟩ := p5
      subst g0
      obtain ⟨_, _, _, g0, _⟩ := p4
      subst g0
      obtain ⟨_, _, _, g0, _⟩ := p3
      subst g0
      obtain ⟨_, _, _, g0, _⟩ := p2
      subst g0
      obtain ⟨_, _, _, g0, _⟩ := p1
      subst g0
      clear h1 h2 h4 ho hr t0 t9 t8 mx rne hc hu
      generalize maxL rs = M at *
      generalize rs.getD i 0 = ri at *
      generalize (os.take j).map D.int = OJ at *
      generalize os.map D.int = OS at *
      generalize rs.map D.int = RS at *
      rw [exec_c T__law_coins, ir__law_coins, runFn_ rfl]
      walk_at "own"
    · have du := deq_f hu
      obtain ⟨w, d5, e5, w0, w9, p5⟩ := draw (n+1) _ d4 (os.sum + maxL rs + 2) p4 (by omega) (by omega) (sm_80 (by omega) (by omega))
      refine ⟨w, d5, ?_, w0, p5.up (by omega)⟩
      have x1 := o_max1I (l := 0) (rs := []) rne
      obtain ⟨_, _, _, g0, _⟩ := p5
      subst g0
      obtain ⟨_, _, _, g0, _⟩ := p4
      subst g0
      obtain ⟨_, _, _, g0, _⟩ := p3
      subst g0
      obtain ⟨_, _, _, g0, _⟩ := p2
      subst g0
      obtain ⟨_, _, _, g0, _⟩ := p1
      subst g0
      clear h1 h2 h4 ho hr t0 t9 t8 mx rne hc hu
      generalize maxL rs = M at *
      generalize rs.getD i 0 = ri at *
      generalize (os.take j).map D.int = OJ at *
      generalize os.map D.int = OS at *
      generalize rs.map D.int = RS at *
      rw [exec_c T__law_coins, ir__law_coins, runFn_ rfl]
      walk_at "own"
  · have dc := deq_f hc
    generalize hF : rs.getD i 0 + (os.take j).sum = F
    obtain ⟨v, d4, e4, _, p4⟩ := pickI (n+0) _ d3 [F, F - 1, F + 1, os.sum, os.sum - 1, os.sum + 1, 0] p3 (by omega) (by show 0 < 7; omega) (by show 7 ≤ 1000; omega)
    refine ⟨if v > 0 then v else 0, d4, ?_, by split <;> omega, p4.up (by omega)⟩
    replace e4 : exec T gl (n+3) f__law_pick [d3, .lst [.int F, .int (F - 1), .int (F + 1), .int os.sum, .int (os.sum - 1), .int (os.sum + 1), .int 0]] = _ := e4
    subst hF
    obtain ⟨_, _, _, g0, _⟩ := p4
    subst g0
    obtain ⟨_, _, _, g0, _⟩ := p3
    subst g0
    obtain ⟨_, _, _, g0, _⟩ := p2
    subst g0
    obtain ⟨_, _, _, g0, _⟩ := p1
    subst g0
    clear h1 h2 h4 ho hr t0 t9 t8 mx rne hc
    generalize rs.getD i 0 = ri at *
    generalize (os.take j).map D.int = OJ at *
    generalize os.map D.int = OS at *
    generalize rs.map D.int = RS at *
    rw [exec_c T__law_coins, ir__law_coins, runFn_ rfl]
    walk_at "own"

theorem at_last {l : List D} {x : D} : atI (l ++ [x]) (-1) = some x := by
  unfold atI ixN
  rw [if_neg (by omega), if_pos (by rw [List.length_append]; show -((l.length + 1 : Nat) : Int) ≤ -1; omega)]
  show (l ++ [x])[((-1 : Int) + ((l ++ [x]).length : Int)).toNat]? = some x
  rw [List.length_append, show ((-1 : Int) + ((l.length + [x].length : Nat) : Int)).toNat = l.length by show ((-1 : Int) + ((l.length + 1 : Nat) : Int)).toNat = _; omega]
  rw [List.getElem?_append_right (Nat.le_refl _), Nat.sub_self]; rfl
theorem immAll_bls : ∀ fs : List Bool, immAll (fs.map D.bl) = true
  | [] => rfl
  | f :: r => by rw [List.map_cons, immAll_cons, immAll_bls r]; rfl
theorem at_lastI {p : List Int} {x : Int} : atI ((p ++ [x]).map D.int) (-1) = some (.int x) := by
  rw [List.map_append]
  exact at_last
theorem turn_step (n : Nat) (ns : List Int) (g : Nat) (h0 : 1 ≤ g) (h4 : g ≤ 4) (os rs : List Int) (fs : List Bool) (l1 : os.length = g) (l2 : rs.length = g) (l3 : fs.length = g) (ho : ∀ x ∈ os, 0 ≤ x ∧ x ≤ 2000000000000) (hr : ∀ x ∈ rs, 0 ≤ x ∧ x ≤ 10000000000000)
    (k : Int) (d : D) (hp : Pool k d) (hk : k ≤ 700000) (top rise loose : D) (i3 : imm top = true) (i4 : imm rise = true) (i5 : imm loose = true) (lv : Nat) (hlv : lv = 8 ∨ lv = 0) (t : Nat) (ht : t < 3) (s7 s9 s11 s12 s13 s14 s15 s16 s17 s18 : Slot)
    (k7 : ∀ js, kill1 js s7 = s7) (k9 : ∀ js, kill1 js s9 = s9) (k12 : ∀ js, kill1 js s12 = s12) (k13 : ∀ js, kill1 js s13 = s13) (k14 : ∀ js, kill1 js s14 = s14) (k15 : ∀ js, kill1 js s15 = s15) (k16 : ∀ js, kill1 js s16 = s16) (k17 : ∀ js, kill1 js s17 = s17) (k18 : ∀ js, kill1 js s18 = s18) :
    ∃ (d' : D) (s12' s13' s14' s15' s16' s17' s18' : Slot), (∀ js, kill1 js s12' = s12') ∧ (∀ js, kill1 js s13' = s13') ∧ (∀ js, kill1 js s14' = s14') ∧ (∀ js, kill1 js s15' = s15') ∧ (∀ js, kill1 js s16' = s16') ∧ (∀ js, kill1 js s17' = s17') ∧ (∀ js, kill1 js s18' = s18') ∧
    forB (Cn (n+4)) (.one 11) [] bd_law_0 (.int (t : Int)) [some ⟨0, [], .scr ns⟩, some ⟨8, [], d⟩, some ⟨0, [], .int g⟩, some ⟨0, [], top⟩, some ⟨0, [], rise⟩, some ⟨0, [], loose⟩, some ⟨lv, [], .lst (os.map .int)⟩, s7, some ⟨lv, [], .lst (rs.map .int)⟩, s9, some ⟨lv, [], .lst (fs.map .bl)⟩, s11, s12, s13, s14, s15, s16, s17, s18] =
      .ok (.nx [some ⟨0, [], .scr ns⟩, some ⟨8, [], d'⟩, some ⟨0, [], .int g⟩, some ⟨0, [], top⟩, some ⟨0, [], rise⟩, some ⟨0, [], loose⟩, some ⟨0, [], .lst (os.map .int)⟩, s7, some ⟨0, [], .lst (rs.map .int)⟩, s9, some ⟨0, [], .lst (fs.map .bl)⟩, some ⟨0, [], .int (t : Int)⟩, s12', s13', s14', s15', s16', s17', s18']) ∧ Pool (k + 1) d' := by
  obtain ⟨p0, e1, p1⟩ := pool (n+3) ns (1 + t) (by omega) 59 (by omega)
  obtain ⟨c, p2, e2, c0, p2'⟩ := coins n 0 p0 p1 (by omega) os rs (by omega) (by omega) (by omega) ho hr
  obtain ⟨u, d1, e3, u0, u9, pd⟩ := draw (n+2) k d 5 hp (by omega) (by omega) (sm_80 (by omega) (by omega))
  obtain ⟨u, rfl⟩ : ∃ w : Nat, u = w := ⟨u.toNat, by omega⟩
  have e4 : exec T gl (n+4) f__law_purses _ = _ := purses (n+3) os rs fs c 4 (fun x hx => (ho x hx).1) (by omega) (by omega) (by omega)
  have e5 : exec T gl (n+4) f__law_purses _ = _ := purses (n+3) os (List.replicate os.length 0) fs c 4 (fun x hx => (ho x hx).1) (by rw [List.length_replicate]) (by omega) (by omega)
  have e6 : exec T gl (n+4) f__law_purses _ = _ := purses (n+3) os (List.replicate os.length 0) fs c u (fun x hx => (ho x hx).1) (by rw [List.length_replicate]) (by omega) (by omega)
  have e7 : exec T gl (n+4) f_pots _ = _ := pots (n+3) os rs fs c (by omega) (by omega) (by omega) 4 (by omega)
  have e8 : exec T gl (n+4) f_plain_pots _ = _ := plain (n+2) os fs c (by omega) (by omega) 4 (by omega)
  have e9 : exec T gl (n+4) f_upper_pots _ = _ := upper (n+1) os fs c u (by omega) (by omega)
  have e10 : exec T gl (n+4) f__law_bars _ = _ := bars (n+3) os rs fs c 4 (fun x hx => (ho x hx).1) (by omega) (by omega) (by omega) (by omega) (by omega)
  have y1 := pst_len os rs fs 4 c os.length
  have y2 := pst_len os (List.replicate os.length 0) fs 4 c os.length
  have y3 := pst_len os (List.replicate os.length 0) fs u c os.length
  have f1 : exec T gl (n+4) f__law_same _ = _ := same_ints (n+1) (pst os rs fs 4 c os.length).2 (by omega)
  have f2 : exec T gl (n+4) f__law_same _ = _ := same_ints (n+1) (pst os (List.replicate os.length 0) fs 4 c os.length).2 (by omega)
  have f3 : exec T gl (n+4) f__law_same _ = _ := same_ints (n+1) (pst os (List.replicate os.length 0) fs u c os.length).2 (by omega)
  have f4 : exec T gl (n+4) f__law_same [.lst [.lst (os.map .int), .lst (rs.map .int), .lst (fs.map .bl)], .lst [.lst (os.map .int), .lst (rs.map .int), .lst (fs.map .bl)]] = .ok (.bl true, []) := by
    refine same_lst (n+3) _ (by show 3 ≤ _; omega) fun x hx => ?_
    simp only [List.mem_cons, List.not_mem_nil, or_false] at hx
    rcases hx with rfl | rfl | rfl
    · exact same_ints n os (by omega)
    · exact same_ints n rs (by omega)
    · exact same_bls n fs (by omega)
  have sm := (pst_sum os rs fs 4 c (fun x hx => (hr x hx).1) c0 os.length (by omega))
  have dg : decide (c < (pst os rs fs 4 c os.length).2.sum) = false := decide_eq_false (by omega)
  have sj := intsD_map (pst os rs fs 4 c os.length).2
  have iT := immAll_map (pst os rs fs 4 c os.length).2
  have iP := immAll_map (pst os (List.replicate os.length 0) fs 4 c os.length).2
  have iU := immAll_map (pst os (List.replicate os.length 0) fs u c os.length).2
  have iO := immAll_map os
  have iR := immAll_map rs
  have iF : immAll (fs.map D.bl) = true := immAll_bls fs
  have b0 : (0 : Int) < (((pst os rs fs 4 c os.length).2.map D.int).length : Int) := by rw [List.length_map]; omega
  have z0 : (0 : Int) ≤ 0 := by omega
  have ll : (((pst os rs fs 4 c os.length).2.map D.int).set 0 (.int 77)).length < lim := by rw [List.length_set, List.length_map]; unfold lim; omega
  have eZ : (List.replicate ((g : Int)).toNat [D.int 0]).flatten = (List.replicate os.length (0 : Int)).map .int := by rw [Int.toNat_natCast, l1]; exact rep0 _
  have iZ := immAll_map (List.replicate os.length (0 : Int))
  have q1 : ([D.int 0] : List D).length * ((g : Int)).toNat ≤ lim := by rw [Int.toNat_natCast]; show 1 * _ ≤ _; unfold lim; omega
  have q2 : (-1000000 : Int) ≤ (g : Int) := by omega
  have q3 : (g : Int) ≤ 1000000 := by omega
  have kT : immAll [D.lst (os.map .int), .lst (rs.map .int), .lst (fs.map .bl)] = false := rfl
  have kd : ([⟨8, [], .lst (os.map .int)⟩, ⟨8, [], .lst (rs.map .int)⟩, ⟨8, [], .lst (fs.map .bl)⟩] : List W).all deep = true := rfl
  refine ⟨d1, some ⟨0, [], .int c⟩, some ⟨0, [], .int u⟩, some ⟨8, [], .lst ((pst os rs fs 4 c os.length).2.map .int)⟩, some ⟨8, [], .lst ((pst os (List.replicate os.length 0) fs 4 c os.length).2.map .int)⟩, some ⟨8, [], .lst ((pst os (List.replicate os.length 0) fs u c os.length).2.map .int)⟩,
    some ⟨8, [], .lst [.lst (os.map .int), .lst (rs.map .int), .lst (fs.map .bl)]⟩, some ⟨8, [], .lst (((pst os rs fs 4 c os.length).2.map D.int).set 0 (.int 77) ++ [.int 5])⟩, (fun _ => rfl), (fun _ => rfl), (fun _ => rfl), (fun _ => rfl), (fun _ => rfl), (fun _ => rfl), (fun _ => rfl), ?_, pd⟩
  rw [show (((1 + t : Nat)) : Int) = 1 + (t : Int) by omega] at e1
  change exec T gl (n+4) f__law_purses [_, _, _, _, .int 4] = _ at e4
  change exec T gl (n+4) f__law_purses [_, _, _, _, .int 4] = _ at e5
  obtain ⟨_, _, _, g0, _⟩ := p1
  subst g0
  obtain ⟨_, _, _, g0, _⟩ := p2'
  subst g0
  obtain ⟨_, _, _, g0, _⟩ := pd
  subst g0
  obtain ⟨_, _, _, g0, _⟩ := hp
  subst g0
  clear l1 l2 l3 ho hr y1 y2 y3 h0 h4 ht hk sm
  generalize (pst os rs fs 4 c os.length).1 = S1 at *
  generalize (pst os (List.replicate os.length 0) fs 4 c os.length).2.map D.int = PL at *
  generalize (pst os (List.replicate os.length 0) fs u c os.length).2.map D.int = UP at *
  generalize (pst os rs fs 4 c os.length).2 = TT at *
  generalize (List.replicate os.length (0 : Int)).map D.int = Z at *
  generalize os.map D.int = OS at *
  generalize rs.map D.int = RS at *
  generalize fs.map D.bl = FS at *
  rcases hlv with rfl | rfl
  · unfold bd_law_0
    walk_at "own"
  · unfold bd_law_0
    walk_at "own"
theorem opens_comp (n : Nat) (ns : List Int) (g : Nat) (h4 : g ≤ 4) (k : Int) (d : D) (hp : Pool k d) (hk : k ≤ 700000) (top : Int) (ht : top = 1000000000001 ∨ top = 21) (rise loose : D) :
    ∃ (os : List Int) (d' : D) (s7 : Slot), compL (compB (Cn (n+4)) [7] (.one 7) [] (.bl true) el_law_1) (rngD 0 g) [] true [some ⟨0, [], .scr ns⟩, some ⟨8, [], d⟩, some ⟨0, [], .int g⟩, some ⟨0, [], .int top⟩, some ⟨0, [], rise⟩, some ⟨0, [], loose⟩, none, none, none, none, none, none, none, none, none, none, none, none, none] =
      .ok (os.map .int, true, [some ⟨0, [], .scr ns⟩, some ⟨8, [], d'⟩, some ⟨0, [], .int g⟩, some ⟨0, [], .int top⟩, some ⟨0, [], rise⟩, some ⟨0, [], loose⟩, none, s7, none, none, none, none, none, none, none, none, none, none, none]) ∧ os.length = g ∧ (∀ x ∈ os, 0 ≤ x ∧ x ≤ 2000000000000) ∧ Pool (k + 12) d' := by
  obtain ⟨os, Γ', q1, q2, q3, d', s7, q4, q5⟩ := compL_rng (body := compB (Cn (n+4)) [7] (.one 7) [] (.bl true) el_law_1) (fun i Γ => ∃ (d : D) (s7 : Slot), Γ = [some ⟨0, [], .scr ns⟩, some ⟨8, [], d⟩, some ⟨0, [], .int g⟩, some ⟨0, [], .int top⟩, some ⟨0, [], rise⟩, some ⟨0, [], loose⟩, none, s7, none, none, none, none, none, none, none, none, none, none, none] ∧ Pool (k + 3 * i) d) (fun x => 0 ≤ x ∧ x ≤ 2000000000000) g (by omega) (fun i Γ hi ⟨d, s7, h, hp⟩ => by
    subst h
    obtain ⟨a, d1, e1, a0, a9, p1⟩ := draw (n+2) _ d 4 hp (by omega) (by omega) (sm_80 (by omega) (by omega))
    by_cases h : 0 < a
    · have dh := decide_eq_true h
      obtain ⟨v, d2, e2, v0, v9, p2⟩ := amount (n+1) _ d1 top p1 (by omega) ht
      refine ⟨v, [some ⟨0, [], .scr ns⟩, some ⟨8, [], d2⟩, some ⟨0, [], .int g⟩, some ⟨0, [], .int top⟩, some ⟨0, [], rise⟩, some ⟨0, [], loose⟩, none, some ⟨0, [], .int i⟩, none, none, none, none, none, none, none, none, none, none, none], ?_, ⟨v0, v9⟩, d2, _, rfl, p2.up (by omega)⟩
      obtain ⟨_, _, _, g0, _⟩ := p2
      subst g0
      obtain ⟨_, _, _, g0, _⟩ := p1
      subst g0
      obtain ⟨_, _, _, g0, _⟩ := hp
      subst g0
      clear h ht
      unfold el_law_1
      walk_at "own"
    · have dh := decide_eq_false h
      refine ⟨0, [some ⟨0, [], .scr ns⟩, some ⟨8, [], d1⟩, some ⟨0, [], .int g⟩, some ⟨0, [], .int top⟩, some ⟨0, [], rise⟩, some ⟨0, [], loose⟩, none, some ⟨0, [], .int i⟩, none, none, none, none, none, none, none, none, none, none, none], ?_, ⟨by omega, by omega⟩, d1, _, rfl, p1.up (by omega)⟩
      obtain ⟨_, _, _, g0, _⟩ := p1
      subst g0
      obtain ⟨_, _, _, g0, _⟩ := hp
      subst g0
      clear h ht
      unfold el_law_1
      walk_at "own") _ ⟨d, none, rfl, by simpa using hp⟩
  subst q4
  exact ⟨os, d', s7, q1, q2, q3, q5.up (by omega)⟩
theorem frozen_comp (n : Nat) (ns : List Int) (g : Nat) (h4 : g ≤ 4) (k : Int) (d : D) (hp : Pool k d) (hk : k ≤ 700000) (top rise loose : D) (OS RS : D) (s7 s9 : Slot) (k9 : ∀ js, kill1 js s9 = s9) :
    ∃ (fs : List Bool) (d' : D) (s7' : Slot), compL (compB (Cn (n+4)) [7] (.one 7) [] (.bl true) el_law_0) (rngD 0 g) [] true [some ⟨0, [], .scr ns⟩, some ⟨8, [], d⟩, some ⟨0, [], .int g⟩, some ⟨0, [], top⟩, some ⟨0, [], rise⟩, some ⟨0, [], loose⟩, some ⟨8, [], OS⟩, s7, some ⟨8, [], RS⟩, s9, none, none, none, none, none, none, none, none, none] =
      .ok (fs.map .bl, true, [some ⟨0, [], .scr ns⟩, some ⟨8, [], d'⟩, some ⟨0, [], .int g⟩, some ⟨0, [], top⟩, some ⟨0, [], rise⟩, some ⟨0, [], loose⟩, some ⟨8, [], OS⟩, s7', some ⟨8, [], RS⟩, s9, none, none, none, none, none, none, none, none, none]) ∧ fs.length = g ∧ Pool (k + 4) d' := by
  obtain ⟨xs, Γ', q1, fs, q2, q3, d', s7', q4, q5⟩ := compL_inv (body := compB (Cn (n+4)) [7] (.one 7) [] (.bl true) el_law_0) (fun i acc Γ => ∃ fs : List Bool, acc = fs.map D.bl ∧ fs.length = i ∧ ∃ (d : D) (s7 : Slot), Γ = [some ⟨0, [], .scr ns⟩, some ⟨8, [], d⟩, some ⟨0, [], .int g⟩, some ⟨0, [], top⟩, some ⟨0, [], rise⟩, some ⟨0, [], loose⟩, some ⟨8, [], OS⟩, s7, some ⟨8, [], RS⟩, s9, none, none, none, none, none, none, none, none, none] ∧ Pool (k + i) d) (rngD 0 g) (by rw [rngD_lenZ]; omega) (fun i dd e acc Γ ⟨fs, ha, hl, d, s7, h, hp⟩ => by
    subst h
    subst ha
    obtain ⟨he, hi⟩ := rngD_getZ _ 0 i dd e
    subst he
    refine ⟨by rw [List.length_map]; omega, .inl ?_⟩
    obtain ⟨a, d1, e1, a0, a9, p1⟩ := draw (n+2) _ d 4 hp (by omega) (by omega) (sm_80 (by omega) (by omega))
    have gO : kill1 [1] (some ⟨8, [], OS⟩) = some ⟨8, [], OS⟩ := rfl
    have gR : kill1 [1] (some ⟨8, [], RS⟩) = some ⟨8, [], RS⟩ := rfl
    refine ⟨.bl (deq (.int a) (.int 0)), [some ⟨0, [], .scr ns⟩, some ⟨8, [], d1⟩, some ⟨0, [], .int g⟩, some ⟨0, [], top⟩, some ⟨0, [], rise⟩, some ⟨0, [], loose⟩, some ⟨8, [], OS⟩, some ⟨0, [], .int (0 + i)⟩, some ⟨8, [], RS⟩, s9, none, none, none, none, none, none, none, none, none], rfl, ?_, fs ++ [deq (.int a) (.int 0)], by rw [List.map_append]; rfl, by simp [hl], d1, _, rfl, p1.up (by omega)⟩
    obtain ⟨_, _, _, g0, _⟩ := p1
    subst g0
    obtain ⟨_, _, _, g0, _⟩ := hp
    subst g0
    clear hl hi e
    unfold el_law_0
    walk_at "own") _ ⟨[], rfl, rfl, d, s7, rfl, by simpa using hp⟩
  subst q2
  subst q4
  rw [rngD_lenZ] at q3 q5
  exact ⟨fs, d', s7', q1, q3, q5.up (by omega)⟩
theorem res_loop (n : Nat) (ns : List Int) (g : Nat) (h0 : 1 ≤ g) (h4 : g ≤ 4) (k : Int) (d : D) (hp : Pool k d) (hk : k ≤ 700000) (top : D) (rise : Int) (ht : rise = 1000000000001 ∨ rise = 21) (loose : Bool) (OS : D) :
    ∃ (rs : List Int) (d' : D) (s7 s9 : Slot), ((s7 = none ∧ s9 = none) ∨ ∃ i j : Int, s7 = some ⟨0, [], .int i⟩ ∧ s9 = some ⟨0, [], .int j⟩) ∧ forL (forB (Cn (n+4)) (.one 7) [] bd_law_1) (rngD 0 (g - 1)) [some ⟨0, [], .scr ns⟩, some ⟨8, [], d⟩, some ⟨0, [], .int g⟩, some ⟨0, [], top⟩, some ⟨0, [], .int rise⟩, some ⟨0, [], .bl loose⟩, some ⟨8, [], OS⟩, none, some ⟨8, [], .lst [.int 0]⟩, none, none, none, none, none, none, none, none, none, none] =
      .ok (.nx [some ⟨0, [], .scr ns⟩, some ⟨8, [], d'⟩, some ⟨0, [], .int g⟩, some ⟨0, [], top⟩, some ⟨0, [], .int rise⟩, some ⟨0, [], .bl loose⟩, some ⟨8, [], OS⟩, s7, some ⟨8, [], .lst (rs.map .int)⟩, s9, none, none, none, none, none, none, none, none, none]) ∧ rs.length = g ∧ (∀ x ∈ rs, 0 ≤ x ∧ x ≤ 10000000000000) ∧ Pool (k + 12) d' := by
  obtain ⟨Γ', q1, d', p, x, s7, s9, hs, q2, q3, q4, q5⟩ := forL_rng (body := forB (Cn (n+4)) (.one 7) [] bd_law_1) (fun i Γ => ∃ (d : D) (p : List Int) (x : Int) (s7 s9 : Slot), ((s7 = none ∧ s9 = none) ∨ ∃ i j : Int, s7 = some ⟨0, [], .int i⟩ ∧ s9 = some ⟨0, [], .int j⟩) ∧ Γ = [some ⟨0, [], .scr ns⟩, some ⟨8, [], d⟩, some ⟨0, [], .int g⟩, some ⟨0, [], top⟩, some ⟨0, [], .int rise⟩, some ⟨0, [], .bl loose⟩, some ⟨8, [], OS⟩, s7, some ⟨8, [], .lst ((p ++ [x]).map .int)⟩, s9, none, none, none, none, none, none, none, none, none] ∧ p.length = i ∧ (∀ y ∈ p ++ [x], 0 ≤ y ∧ y ≤ i * 2000000000000) ∧ Pool (k + 3 * i) d) (g - 1) (fun i hi Γ ⟨d, p, x, s7, s9, hs, h, hl, hq, hp⟩ => by
    subst h
    have k7 : ∀ js, kill1 js s7 = s7 := by
      rcases hs with ⟨rfl, rfl⟩ | ⟨a, b, rfl, rfl⟩ <;> exact fun _ => rfl
    have k9 : ∀ js, kill1 js s9 = s9 := by
      rcases hs with ⟨rfl, rfl⟩ | ⟨a, b, rfl, rfl⟩ <;> exact fun _ => rfl
    obtain ⟨a, d1, e1, a0, a9, p1⟩ := draw (n+2) _ d 3 hp (by omega) (by omega) (sm_80 (by omega) (by omega))
    have gO : kill1 [1] (some ⟨8, [], OS⟩) = some ⟨8, [], OS⟩ := rfl
    have gO8 : kill1 [8] (some ⟨8, [], OS⟩) = some ⟨8, [], OS⟩ := rfl
    have la : atI ((p ++ [x]).map D.int) (-1) = some (.int x) := at_lastI
    have ll : ((p ++ [x]).map D.int).length < lim := by rw [List.length_map, List.length_append, hl]; show i + 1 < lim; unfold lim; omega
    have xx := hq x (by simp)
    have st : ∃ (v : Int) (d2 : D), 0 ≤ v ∧ v ≤ 2000000000000 ∧ Pool (k + 3 * i + 3) d2 ∧ ((decide (0 < a) = true ∧ exec T gl (n+4) f__law_amount [d1, .int rise] = .ok (.int v, [d2])) ∨ (decide (0 < a) = false ∧ v = 0 ∧ d1 = d2)) := by
      by_cases h : 0 < a
      · obtain ⟨v, d2, e2, v0, v9, p2⟩ := amount (n+1) _ d1 rise p1 (by omega) ht
        exact ⟨v, d2, v0, v9, p2.up (by omega), .inl ⟨decide_eq_true h, e2⟩⟩
      · exact ⟨0, d1, by omega, by omega, p1.up (by omega), .inr ⟨decide_eq_false h, rfl, rfl⟩⟩
    obtain ⟨v, d2, v0, v9, p2, st⟩ := st
    refine ⟨[some ⟨0, [], .scr ns⟩, some ⟨8, [], d2⟩, some ⟨0, [], .int g⟩, some ⟨0, [], top⟩, some ⟨0, [], .int rise⟩, some ⟨0, [], .bl loose⟩, some ⟨8, [], OS⟩, some ⟨0, [], .int i⟩, some ⟨8, [], .lst (((p ++ [x]) ++ [if loose then v else x + v]).map .int)⟩, some ⟨0, [], .int v⟩, none, none, none, none, none, none, none, none, none], ?_, d2, p ++ [x], if loose then v else x + v, _, _, .inr ⟨i, v, rfl, rfl⟩, rfl, by rw [List.length_append, hl]; rfl, fun y hy => ?_, p2.up (by omega)⟩
    · rw [List.map_append (l₁ := p ++ [x])]
      obtain ⟨_, _, _, g0, _⟩ := p2
      subst g0
      obtain ⟨_, _, _, g0, _⟩ := p1
      subst g0
      obtain ⟨_, _, _, g0, _⟩ := hp
      subst g0
      clear hl hq xx hs ht hi
      generalize (p ++ [x]).map D.int = RX at *
      rcases st with ⟨s1, s2⟩ | ⟨s1, s2, s3⟩
      · cases loose
        · show _ = Res.ok (Fl.nx [_, _, _, _, _, _, _, _, some ⟨8, [], .lst (RX ++ [.int (x + v)])⟩, _, _, _, _, _, _, _, _, _, _])
          unfold bd_law_1
          walk_at "own"
        · show _ = Res.ok (Fl.nx [_, _, _, _, _, _, _, _, some ⟨8, [], .lst (RX ++ [.int v])⟩, _, _, _, _, _, _, _, _, _, _])
          unfold bd_law_1
          walk_at "own"
      · subst s2
        cases s3
        cases loose
        · show _ = Res.ok (Fl.nx [_, _, _, _, _, _, _, _, some ⟨8, [], .lst (RX ++ [.int (x + 0)])⟩, _, _, _, _, _, _, _, _, _, _])
          unfold bd_law_1
          walk_at "own"
        · show _ = Res.ok (Fl.nx [_, _, _, _, _, _, _, _, some ⟨8, [], .lst (RX ++ [.int 0])⟩, _, _, _, _, _, _, _, _, _, _])
          unfold bd_law_1
          walk_at "own"
    · have : ((i + 1 : Nat) : Int) * 2000000000000 = (i : Int) * 2000000000000 + 2000000000000 := by omega
      rcases List.mem_append.mp hy with hy | hy
      · have := hq y hy
        omega
      · have e : y = if loose then v else x + v := by simpa using hy
        rw [e]
        cases loose
        · show 0 ≤ x + v ∧ x + v ≤ _
          omega
        · show 0 ≤ v ∧ v ≤ _
          omega) _ ⟨d, [], 0, none, none, .inl ⟨rfl, rfl⟩, rfl, rfl, fun y hy => by
      have : y = 0 := by simpa using hy
      omega, by simpa using hp⟩
  subst q2
  refine ⟨p ++ [x], d', s7, s9, hs, q1, by rw [List.length_append, q3]; show g - 1 + 1 = g; omega, fun y hy => ?_, q5.up (by omega)⟩
  have := q4 y hy
  omega

theorem law_ok (n : Nat) (ns : List Int) : exec T gl (n+5) f_law [.scr ns] = .ok (.bl true, []) := by
  obtain ⟨d0, e0, p0⟩ := pool (n+3) ns 0 (by omega) 59 (by omega)
  obtain ⟨a1, d1, e1, a10, a19, p1⟩ := draw (n+2) _ d0 4 p0 (by omega) (by omega) (sm_80 (by omega) (by omega))
  obtain ⟨g, hg⟩ : ∃ g : Nat, 1 + a1 = (g : Int) := ⟨(1 + a1).toNat, by omega⟩
  obtain ⟨a2, d2, e2, a20, a29, p2⟩ := draw (n+2) _ d1 6 p1 (by omega) (by omega) (sm_80 (by omega) (by omega))
  obtain ⟨a3, d3, e3, a30, a39, p3⟩ := draw (n+2) _ d2 6 p2 (by omega) (by omega) (sm_80 (by omega) (by omega))
  obtain ⟨a4, d4, e4, a40, a49, p4⟩ := draw (n+2) _ d3 8 p3 (by omega) (by omega) (sm_80 (by omega) (by omega))
  obtain ⟨LO, hLO⟩ : ∃ b : Bool, deq (.int a4) (.int 0) = b := ⟨_, rfl⟩
  obtain ⟨top, t1, t2⟩ : ∃ top : Int, (top = 1000000000001 ∨ top = 21) ∧ ((deq (.int a2) (.int 0) = true ∧ top = 1000000000001) ∨ (deq (.int a2) (.int 0) = false ∧ top = 21)) := by
    by_cases h : a2 = 0
    · exact ⟨_, .inl rfl, .inl ⟨deq_t h, rfl⟩⟩
    · exact ⟨_, .inr rfl, .inr ⟨deq_f h, rfl⟩⟩
  obtain ⟨rise, r1, r2⟩ : ∃ top : Int, (top = 1000000000001 ∨ top = 21) ∧ ((deq (.int a3) (.int 0) = true ∧ top = 1000000000001) ∨ (deq (.int a3) (.int 0) = false ∧ top = 21)) := by
    by_cases h : a3 = 0
    · exact ⟨_, .inl rfl, .inl ⟨deq_t h, rfl⟩⟩
    · exact ⟨_, .inr rfl, .inr ⟨deq_f h, rfl⟩⟩
  obtain ⟨os, d5, s7, q1, l1, ho, p5⟩ := opens_comp n ns g (by omega) _ d4 p4 (by omega) top t1 (.int rise) (.bl LO)
  obtain ⟨rs, d6, s7', s9, hs, q2, l2, hr, p6⟩ := res_loop n ns g (by omega) (by omega) _ d5 p5 (by omega) (.int top) rise r1 LO (.lst (os.map .int))
  have k7 : ∀ js, kill1 js s7' = s7' := by
    rcases hs with ⟨rfl, rfl⟩ | ⟨a, b, rfl, rfl⟩ <;> exact fun _ => rfl
  have k9 : ∀ js, kill1 js s9 = s9 := by
    rcases hs with ⟨rfl, rfl⟩ | ⟨a, b, rfl, rfl⟩ <;> exact fun _ => rfl
  have b7 : back1 s7' = s7' := by
    rcases hs with ⟨rfl, rfl⟩ | ⟨a, b, rfl, rfl⟩ <;> rfl
  obtain ⟨fs, d7, s7'', q3, l3, p7⟩ := frozen_comp n ns g (by omega) _ d6 p6 (by omega) (.int top) (.int rise) (.bl LO) (.lst (os.map .int)) (.lst (rs.map .int)) s7' s9 k9
  obtain ⟨Γ', q4, d8, lv, s11, s12, s13, s14, s15, s16, s17, s18, k12, k13, k14, k15, k16, k17, k18, hlv, h, p8⟩ := forL_rng (body := forB (Cn (n+4)) (.one 11) [] bd_law_0) (fun i Γ => ∃ (d : D) (lv : Nat) (s11 s12 s13 s14 s15 s16 s17 s18 : Slot), (∀ js, kill1 js s12 = s12) ∧ (∀ js, kill1 js s13 = s13) ∧ (∀ js, kill1 js s14 = s14) ∧ (∀ js, kill1 js s15 = s15) ∧ (∀ js, kill1 js s16 = s16) ∧ (∀ js, kill1 js s17 = s17) ∧ (∀ js, kill1 js s18 = s18) ∧ (lv = 8 ∨ lv = 0) ∧ Γ = [some ⟨0, [], .scr ns⟩, some ⟨8, [], d⟩, some ⟨0, [], .int g⟩, some ⟨0, [], .int top⟩, some ⟨0, [], .int rise⟩, some ⟨0, [], .bl LO⟩, some ⟨lv, [], .lst (os.map .int)⟩, s7', some ⟨lv, [], .lst (rs.map .int)⟩, s9, some ⟨lv, [], .lst (fs.map .bl)⟩, s11, s12, s13, s14, s15, s16, s17, s18] ∧ Pool (0 + 1 + 1 + 1 + 1 + 12 + 12 + 4 + i) d) 3 (fun i hi Γ ⟨d, lv, s11, s12, s13, s14, s15, s16, s17, s18, k12, k13, k14, k15, k16, k17, k18, hlv, h, hp⟩ => by
    subst h
    obtain ⟨d', s12', s13', s14', s15', s16', s17', s18', k12', k13', k14', k15', k16', k17', k18', g1, g2⟩ := turn_step n ns g (by omega) (by omega) os rs fs l1 l2 l3 ho hr _ d hp (by omega) (.int top) (.int rise) (.bl LO) rfl rfl rfl lv hlv i hi s7' s9 s11 s12 s13 s14 s15 s16 s17 s18 k7 k9 k12 k13 k14 k15 k16 k17 k18
    exact ⟨_, g1, d', 0, _, _, _, _, _, _, _, _, k12', k13', k14', k15', k16', k17', k18', .inr rfl, rfl, g2.up (by omega)⟩) [some ⟨0, [], .scr ns⟩, some ⟨8, [], d7⟩, some ⟨0, [], .int g⟩, some ⟨0, [], .int top⟩, some ⟨0, [], .int rise⟩, some ⟨0, [], .bl LO⟩, some ⟨8, [], .lst (os.map .int)⟩, s7', some ⟨8, [], .lst (rs.map .int)⟩, s9, some ⟨8, [], .lst (fs.map .bl)⟩, none, none, none, none, none, none, none, none] ⟨d7, 8, none, none, none, none, none, none, none, none, (fun _ => rfl), (fun _ => rfl), (fun _ => rfl), (fun _ => rfl), (fun _ => rfl), (fun _ => rfl), (fun _ => rfl), .inl rfl, rfl, by simpa using p7⟩
  subst h
  replace q4 : forL (forB (Cn (n+4)) (.one 11) [] bd_law_0) [.int 0, .int 1, .int 2] _ = _ := q4
  have tw : (1000000000000 : Int) + 1 = 1000000000001 := by omega
  have iO := immAll_map os
  have iR := immAll_map rs
  have iF := immAll_bls fs
  have z1 : ((g : Int)).toNat = g := by omega
  have z2 : ((g : Int) - 1).toNat = g - 1 := by omega
  have b1 : -(2 ^ 62) < (g : Int) := by omega
  have b2 : (g : Int) < 2 ^ 62 := by omega
  have b3 : -(2 ^ 62) < (g : Int) - 1 := by omega
  have b4 : (g : Int) - 1 < 2 ^ 62 := by omega
  replace e0 : exec T gl (n+4) f__law_pool [.scr ns, .int 0, .int 59] = .ok (d0, []) := e0
  obtain ⟨_, _, _, g0, _⟩ := p7
  subst g0
  obtain ⟨_, _, _, g0, _⟩ := p6
  subst g0
  obtain ⟨_, _, _, g0, _⟩ := p5
  subst g0
  obtain ⟨_, _, _, g0, _⟩ := p4
  subst g0
  obtain ⟨_, _, _, g0, _⟩ := p3
  subst g0
  obtain ⟨_, _, _, g0, _⟩ := p2
  subst g0
  obtain ⟨_, _, _, g0, _⟩ := p1
  subst g0
  obtain ⟨_, _, _, g0, _⟩ := p0
  subst g0
  clear p8 l1 l2 l3 ho hr a10 a19 a20 a29 a30 a39 a40 a49 t1 r1 hs k12 k13 k14 k15 k16 k17 k18
  generalize os.map D.int = OS at *
  generalize rs.map D.int = RS at *
  generalize fs.map D.bl = FS at *
  rcases t2 with ⟨t3, t4⟩ | ⟨t3, t4⟩
  · subst t4
    rcases r2 with ⟨r3, r4⟩ | ⟨r3, r4⟩
    · subst r4
      rw [exec_c T_law, ir_law, runFn_ rfl]
      walk_at "own"
    · subst r4
      rw [exec_c T_law, ir_law, runFn_ rfl]
      walk_at "own"
  · subst t4
    rcases r2 with ⟨r3, r4⟩ | ⟨r3, r4⟩
    · subst r4
      rw [exec_c T_law, ir_law, runFn_ rfl]
      walk_at "own"
    · subst r4
      rw [exec_c T_law, ir_law, runFn_ rfl]
      walk_at "own"

theorem main (ns : List Int) (hl : ns.length ≤ 63) (hb : ∀ z ∈ ns, Builtin.Int.intBits z ≤ 1048576) : exec T gl depth f_law [.scr ns] = .ok (.bl true, []) := law_ok 7 ns
end Own.K54
open PySem PySem.W PyProof.Rows
set_option maxHeartbeats 0 in
theorem PySem.Challenge.cw_pensionhall_k54_pots_of_ranks_holds : PySem.Challenge.rw_pensionhall_k54_pots_of_ranks.Holds := by
  w_on; o_law; k_head; (case hw => w_witness2)
  k_fill
  refine L2.walk_ofB (l := PySem.Challenge.rw_pensionhall_k54_pots_of_ranks) (n := 63) (k := Own.K54.depth + 2) (x := "script") (CX := fun w => L2.CX PySem.Challenge.pw_pensionhall_k54_pots_of_ranks w) (sp := fun w => Own.K54.lawSp _ (Own.exec Own.K54.T Own.K54.gl Own.K54.depth Own.K54.f_law)) rfl (by decide) rfl ⟨rfl, by decide, by decide⟩ (fun w h Y => PySem.W.kIn_of Y) ?F (fun _ H a ns hl hb hO hS => Own.DSp_law (Own.K54.main ns hl hb) hO hS) (fun _ _ _ _ _ h => Own.noCX h)
  case F =>
    intro w mg fa h KX G hmg
    refine' Own.K54.all_mk KX G hmg ?a0 ?l0 ?c0 ?k0 ?a1 ?l1 ?c1 ?k1 ?a2 ?l2 ?c2 ?k2 ?a3 ?l3 ?c3 ?k3 ?a4 ?l4 ?c4 ?k4 ?a5 ?l5 ?c5 ?k5 ?a6 ?l6 ?c6 ?k6 ?a7 ?l7 ?c7 ?k7 ?a8 ?l8 ?c8 ?k8 ?a9 ?l9 ?c9 ?k9 ?a10 ?l10 ?c10 ?k10 ?a11 ?l11 ?c11 ?k11 ?a12 ?l12 ?c12 ?k12 ?a13 ?l13 ?c13 ?k13 ?z0 ?z1 ?z2 ?z3 ?z4 ?z5 ?z6 ?z7 ?z8 ?z9 ?z10 ?z11 ?z12 ?z13 ?z14 ?z15 ?z16
    (case a0 => k_is); (case l0 => k_is); (case c0 => k_is); (case k0 => k_is); (case a1 => k_is); (case l1 => k_is); (case c1 => k_is); (case k1 => k_is); (case a2 => k_is); (case l2 => k_is); (case c2 => k_is); (case k2 => k_is); (case a3 => k_is); (case l3 => k_is); (case c3 => k_is); (case k3 => k_is); (case a4 => k_is); (case l4 => k_is); (case c4 => k_is); (case k4 => k_is); (case a5 => k_is); (case l5 => k_is); (case c5 => k_is); (case k5 => k_is); (case a6 => k_is); (case l6 => k_is); (case c6 => k_is); (case k6 => k_is); (case a7 => k_is); (case l7 => k_is); (case c7 => k_is); (case k7 => k_is); (case a8 => k_is); (case l8 => k_is); (case c8 => k_is); (case k8 => k_is); (case a9 => k_is); (case l9 => k_is); (case c9 => k_is); (case k9 => k_is); (case a10 => k_is); (case l10 => k_is); (case c10 => k_is); (case k10 => k_is); (case a11 => k_is); (case l11 => k_is); (case c11 => k_is); (case k11 => k_is); (case a12 => k_is); (case l12 => k_is); (case c12 => k_is); (case k12 => k_is); (case a13 => k_is); (case l13 => k_is); (case c13 => k_is); (case k13 => k_is); (case z0 => k_is); (case z1 => k_is); (case z2 => k_is); (case z3 => k_is); (case z4 => k_is); (case z5 => k_is); (case z6 => k_is); (case z7 => k_is); (case z8 => k_is); (case z9 => k_is); (case z10 => k_is); (case z11 => k_is); (case z12 => k_is); (case z13 => k_is); (case z14 => k_is); (case z15 => k_is); (case z16 => k_is)

